import PyProof.Rows.All
import Wide.All
import OpenK.AllK
import Wide.FinOn
import HandS.ForMost
import HandS.TupAny
import HandS.Deep
import HandS.IsInst
import HandS.Walk
import HandS.Lambda
import HandS.CallSlots
import HandS.Exc
import HandS.RaiseMore
import HandS.Wide
import HandS.FStr
import KE.SortData
import HandS.Conv
import HandS.Style
import HandS.Rev
import HandS.Zip
import HandS.SortKw
import HandS.Defaults
import KE.KUnpackStar
import HandS.DictComp
import HandS.EndTab
import HandS.TryOnly
import KE.KNestM
import PyProof.EqAt
import HandS.SetKeys
import HandS.TupLen
import HandS.TupLe
import KE.KDictDisplayH
import KE.KEqDict
import KE.KDictZip
import HandS.ListItems
import PyProof.ListNew
import HandS.More
import KE.KDictCopyH
import PySem.Challenge.RW_eventrooms_k83_logs_written
set_option Elab.async false
set_option linter.all false
set_option maxRecDepth 100000
set_option maxHeartbeats 4000000
/-! # The D-layer: values as plain data, readings that know no heap -/
namespace Ev
open PySem PySem.Spec PyProof.Rows L2

inductive D where
  | non | bl (b : Bool) | int (i : Int) | str (x : Str)
  | tup (xs : List D) | lst (xs : List D)
  | dK (kvs : List (Key × D)) | dT (kvs : List (List Key × D))
  /-- .. locked: no one writes them any more, so that they can be walked -/
  | fK (kvs : List (Key × D)) | fT (kvs : List (List Key × D))
  | raw (v : V)
  | scr (ns : List Int)
  /-- a lambda, by its number, and what it captured -/
  | fn (k : Nat) (cs : List D)
  /-- a tuple of the module -/
  | kt (xs : List D)
/-- a lambda as it is written; caps: the names that it captures -/
structure Lam where
  params : Arguments
  body : Expr
  scope : Scope
  qual : Str
  caps : List Str
/-- what stands at an address is this object -/
def PinO (o : Obj) (a : Addr) : HO := .ext fun h => h.get? a = some o

/-- the tables of code objects of the defs that make lambdas, each with the lambdas' name: the same through a whole law -/
class TabC where
  tab : List (Addr × Str)
  lam : Nat → Option Lam
  /-- where the defs lie that are handed about -/
  ad : Nat → Addr
variable [TabC]
/-- all that was known is known still -/
def Ex (H H' : Hp) : Prop := ∀ a o, H a = some o → H' a = some o
theorem Ex.refl (H : Hp) : Ex H H := fun _ _ h => h
theorem Ex.trans {H H1 H2 : Hp} (a : Ex H H1) (b : Ex H1 H2) : Ex H H2 := fun x o h => b x o (a x o h)
theorem Ex.new {H : Hp} {p : Addr} {o : HO} (h : H p = none) : Ex H (upd H p o) := fun a u e => by
  rw [upd_ne (ne_of_none e h)]
  exact e
theorem Ex.rd {H H' : Hp} {a : Addr} {u : HO} (e : Ex H H') (h : Rd H a u) : Rd H' a u := by
  rcases h with h | ⟨o, h⟩
  · exact Or.inl (e a _ h)
  · exact Or.inr ⟨o, e a _ h⟩
theorem Ex.sqT {K : PySem.W.Frag} {H H' : Hp} {a : Addr} {xs : List V} (e : Ex H H') (h : SqT K H a xs) : SqT K H' a xs := by
  rcases h with h | h
  · exact Or.inl (e.rd h)
  · exact Or.inr h
theorem Ex.sqL {K : PySem.W.Frag} {H H' : Hp} {a : Addr} {xs : List V} (e : Ex H H') (h : SqL K H a xs) : SqL K H' a xs := by
  rcases h with h | h
  · exact Or.inl (e.rd h)
  · exact Or.inr h
theorem Ex.none {H H' : Hp} {a : Addr} (e : Ex H H') (h : H' a = Option.none) : H a = Option.none := by
  cases q : H a with
  | none => rfl
  | some o => rw [e a o q] at h; cases h

/-- every tuple that is known is frozen -/
def TupIn (S H : Hp) : Prop := ∀ b vs, H b = some (.tup vs) → S b = some (.tup vs)
def HO.plain : HO → Bool
  | .tbl _ => false
  | .ext _ => false
  | _ => true
def NT (o : HO) : Prop := ∀ ps, o ≠ .tbl ps
theorem nt_plain {o : HO} (h : HO.plain o = true) : NT o := fun ps e => by subst e; cases h
/-- the tables are known, not frozen, and tell code objects that are known -/
def TbOk (S H : Hp) : Prop := ∀ p ∈ TabC.tab, S p.1 = none ∧ LamX.TabS H p.1 p.2
/-- all but one address stays, where nothing of the tables stood -/
theorem TbOk.at_ {S H S' H' : Hp} (t : TbOk S H) (p : Addr) (h : ∀ b o, b ≠ p → H b = some o → H' b = some o) (hp : ∀ o, H p = some o → HO.plain o = true) (hS : ∀ b, b ≠ p → S b = none → S' b = none) : TbOk S' H' := fun q hq => by
  obtain ⟨h1, ps, h2, h3, h4⟩ := t q hq
  have ne : q.1 ≠ p := fun z => by have := hp _ (z ▸ h2); cases this
  refine ⟨hS _ ne h1, ps, h _ _ ne h2, h3, fun pos cv hc => ?_⟩
  obtain ⟨c, e1, e2⟩ := h4 pos cv hc
  exact ⟨c, e1, h _ _ (fun z => by have := hp _ (z ▸ e2); cases this) e2⟩
/-- what is frozen is known, the tuples among it -/
structure Sb (S H : Hp) : Prop where
  ex : Ex S H
  tp : TupIn S H
  tb : TbOk S H
/-- all but the tables -/
def noT (H : Hp) : Hp := fun b => match H b with | some (.tbl _) => none | o => o
theorem noT_pl {H : Hp} {b : Addr} {o : HO} (h : H b = some o) (n : NT o) : noT H b = some o := by
  unfold noT; rw [h]
  cases o with
  | tbl ps => exact absurd rfl (n ps)
  | _ => rfl
theorem noT_ex {H : Hp} : Ex (noT H) H := fun b o h => by
  unfold noT at h
  cases q : H b with
  | none => rw [q] at h; cases h
  | some u =>
    rw [q] at h
    cases u <;> first | exact h | cases h
theorem Sb.start {H : Hp} (h : ∀ p ∈ TabC.tab, H p.1 = some (.tbl #[])) : Sb (noT H) H := ⟨noT_ex, fun b vs e => noT_pl e fun _ z => (nomatch z), fun p hp => by
  refine ⟨?_, LamX.TabS.nil (h p hp)⟩
  unfold noT; rw [h p hp]⟩
/-- a heap that grows: tables may become longer -/
structure Ext (H H' : Hp) : Prop where
  h : ∀ a o, H a = some o → NT o → H' a = some o
  t : ∀ a ps, H a = some (.tbl ps) → ∃ qs, H' a = some (.tbl qs)
theorem Ext.refl (H : Hp) : Ext H H := ⟨fun _ _ h _ => h, fun _ ps h => ⟨ps, h⟩⟩
theorem Ext.trans {H H1 H2 : Hp} (a : Ext H H1) (b : Ext H1 H2) : Ext H H2 := ⟨fun x o h n => b.h x o (a.h x o h n) n, fun x ps h => by
  obtain ⟨qs, e⟩ := a.t x ps h
  exact b.t x qs e⟩
theorem Ext.of {H H' : Hp} (a : Ex H H') : Ext H H' := ⟨fun x o h _ => a x o h, fun x ps h => ⟨ps, a x _ h⟩⟩
theorem Ext.there {H H' : Hp} (e : Ext H H') {a : Addr} {o : HO} (h : H a = some o) : ∃ o', H' a = some o' := by
  cases o with
  | tbl ps => obtain ⟨qs, q⟩ := e.t a ps h; exact ⟨_, q⟩
  | ext φ => exact ⟨_, e.h a _ h fun _ z => nomatch z⟩
  | _ => exact ⟨_, e.h a _ h (nt_plain rfl)⟩
theorem Ext.pl {H H' : Hp} (e : Ext H H') {a : Addr} {o : HO} (h : H a = some o) (p : HO.plain o = true := by rfl) : H' a = some o := e.h a o h (nt_plain p)
instance {S H : Hp} : CoeFun (Sb S H) fun _ => ∀ a o, S a = some o → H a = some o := ⟨fun e => e.ex⟩
instance {S H : Hp} : Coe (Sb S H) (Ex S H) := ⟨fun e => e.ex⟩
theorem Sb.sqT {K : PySem.W.Frag} {H H' : Hp} {a : Addr} {xs : List V} (e : Sb H H') (h : SqT K H a xs) : SqT K H' a xs := e.ex.sqT h
theorem Sb.sqL {K : PySem.W.Frag} {H H' : Hp} {a : Addr} {xs : List V} (e : Sb H H') (h : SqL K H a xs) : SqL K H' a xs := e.ex.sqL h
theorem Sb.rd {H H' : Hp} {a : Addr} {u : HO} (e : Sb H H') (h : Rd H a u) : Rd H' a u := e.ex.rd h
theorem Sb.none {H H' : Hp} {a : Addr} (e : Sb H H') (h : H' a = Option.none) : H a = Option.none := e.ex.none h
/-- only the heap grows, by no tuple -/
theorem Sb.one {S H : Hp} (e : Sb S H) {p : Addr} {o : HO} (hp : H p = Option.none) (ho : ∀ vs, o ≠ .tup vs) : Sb S (upd H p o) := by
  refine ⟨fun a u h => Ex.new hp a u (e a u h), fun b vs h => ?_, e.tb.at_ p (fun b u n h => by rw [upd_ne n]; exact h) (fun u z => by rw [hp] at z; cases z) fun _ _ z => z⟩
  by_cases q : b = p
  · subst q; rw [upd_same] at h; exact absurd (Option.some.inj h) (ho vs)
  · rw [upd_ne q] at h; exact e.tp b vs h
/-- the cells at cs hold the values vs -/
def CellsAt (S : Hp) (cs : List Addr) (vs : List V) : Prop := Paired (fun c v => ∃ o u, S c = some (PinO o c) ∧ o.data = .cell (some u) ∧ RelV v u) cs vs
theorem CellsAt.mono {S S' : Hp} (e : Ex S S') {cs : List Addr} {vs : List V} (h : CellsAt S cs vs) : CellsAt S' cs vs := Paired.mapP h fun c v ⟨o, u, h1, h2⟩ => ⟨o, u, e _ _ h1, h2⟩
/-- a tuple that stands in the module -/
def KTup (K : PySem.W.Frag) (a : Addr) (vs : List V) : Prop := ∃ (o : Obj) (its : Array Value) (n : Nat), K.lookup a = some o ∧ o.cls = .type "tuple" ∧ o.data = .seq its n ∧ its.size ≤ sizeLine ∧ Vals vs its.toList
theorem KTup.sqT {K : PySem.W.Frag} {H : Hp} {a : Addr} {vs : List V} (h : KTup K a vs) : SqT K H a vs := .inr h
mutual
/-- the value v bears the data d, by what is frozen in S -/
inductive Dn (K : PySem.W.Frag) (S : Hp) : V → D → Prop
  | non : Dn K S .non .non
  | bl (b : Bool) : Dn K S (.bl b) (.bl b)
  | int (i : Int) : Dn K S (.int i) (.int i)
  | str (x : Str) : Dn K S (.str x) (.str x)
  | raw (v : V) : Dn K S v (.raw v)
  | scr {a : Addr} {ns : List Int} : SqL K S a (ns.map V.int) → Dn K S (.ref a) (.scr ns)
  | tup {a : Addr} {vs : List V} {ds : List D} : S a = some (.tup vs) → DnA K S vs ds → Dn K S (.ref a) (.tup ds)
  | lst {a : Addr} {vs : List V} {ds : List D} : S a = some (.lst vs) → DnA K S vs ds → Dn K S (.ref a) (.lst ds)
  | dK {a : Addr} {kvs : List (Key × V)} {es : List (Key × D)} : S a = some (.dK kvs) → kvs.map (·.1) = es.map (·.1) → DnA K S (kvs.map (·.2)) (es.map (·.2)) → Dn K S (.ref a) (.dK es)
  | dT {a : Addr} {kvs : List (List Key × V)} {es : List (List Key × D)} : S a = some (.dT kvs) → kvs.map (·.1) = es.map (·.1) → DnA K S (kvs.map (·.2)) (es.map (·.2)) → Dn K S (.ref a) (.dT es)
  | fK {a : Addr} {o : Obj} {kvs : List (Key × V)} {es : List (Key × D)} : S a = some (.frz o (.dK kvs)) → kvs.map (·.1) = es.map (·.1) → DnA K S (kvs.map (·.2)) (es.map (·.2)) → Dn K S (.ref a) (.fK es)
  | fT {a : Addr} {o : Obj} {kvs : List (List Key × V)} {es : List (List Key × D)} : S a = some (.frz o (.dT kvs)) → kvs.map (·.1) = es.map (·.1) → DnA K S (kvs.map (·.2)) (es.map (·.2)) → Dn K S (.ref a) (.fT es)
  | fn {a c : Addr} {k : Nat} {l : Lam} {pm ctv : Value} {cl : List (Str × Addr)} {vs : List V} {ds : List D} : TabC.lam k = some l → S a = some (PinO (PySem.W.kla_obj "<lambda>" l.qual l.params l.body l.scope cl pm c ctv) a) → S c = some (LamX.CodeO c l.qual) → cl.map (·.1) = l.caps → (cl.map (·.2)).Nodup →
      CellsAt S (cl.map (·.2)) vs → DnA K S vs ds → Dn K S (.ref a) (.fn k ds)
  | kt {a : Addr} {vs : List V} {ds : List D} : KTup K a vs → DnA K S vs ds → Dn K S (.ref a) (.kt ds)
inductive DnA (K : PySem.W.Frag) (S : Hp) : List V → List D → Prop
  | nil : DnA K S [] []
  | cons {v : V} {vs : List V} {d : D} {ds : List D} : Dn K S v d → DnA K S vs ds → DnA K S (v :: vs) (d :: ds)
end
variable {K : PySem.W.Frag} {S S' H H' : Hp}
mutual
theorem Dn.mono (e : Ex S S') : ∀ {v : V} {d : D}, Dn K S v d → Dn K S' v d
  | _, _, .non => .non
  | _, _, .bl b => .bl b
  | _, _, .int i => .int i
  | _, _, .str x => .str x
  | _, _, .raw v => .raw v
  | _, _, .scr h => .scr (e.sqL h)
  | _, _, .tup h a => .tup (e _ _ h) (DnA.mono e a)
  | _, _, .lst h a => .lst (e _ _ h) (DnA.mono e a)
  | _, _, .dK h k a => .dK (e _ _ h) k (DnA.mono e a)
  | _, _, .dT h k a => .dT (e _ _ h) k (DnA.mono e a)
  | _, _, .fK h k a => .fK (e _ _ h) k (DnA.mono e a)
  | _, _, .fT h k a => .fT (e _ _ h) k (DnA.mono e a)
  | _, _, .fn h1 h2 h3 h4 nd h5 a => .fn h1 (e _ _ h2) (e _ _ h3) h4 nd (h5.mono e) (DnA.mono e a)
  | _, _, .kt h a => .kt h (DnA.mono e a)
theorem DnA.mono (e : Ex S S') : ∀ {vs : List V} {ds : List D}, DnA K S vs ds → DnA K S' vs ds
  | _, _, .nil => .nil
  | _, _, .cons h a => .cons (Dn.mono e h) (DnA.mono e a)
end
theorem DnA.length : ∀ {vs : List V} {ds : List D}, DnA K S vs ds → vs.length = ds.length
  | _, _, .nil => rfl
  | _, _, .cons _ a => congrArg (· + 1) a.length
theorem DnA.append : ∀ {vs ws : List V} {ds es : List D}, DnA K S vs ds → DnA K S ws es → DnA K S (vs ++ ws) (ds ++ es)
  | _, _, _, _, .nil, b => b
  | _, _, _, _, .cons h a, b => .cons h (a.append b)
theorem DnA.get : ∀ {vs : List V} {ds : List D} {i : Nat} {d : D}, DnA K S vs ds → ds[i]? = some d → ∃ v, vs[i]? = some v ∧ Dn K S v d
  | _, _, _, _, .nil, e => by simp at e
  | _, _, 0, _, .cons h _, e => by simp at e; subst e; exact ⟨_, rfl, h⟩
  | _, _, i + 1, _, .cons _ a, e => by
    obtain ⟨v, h1, h2⟩ := a.get (i := i) (by simpa using e)
    exact ⟨v, by simpa using h1, h2⟩
theorem DnA.getV : ∀ {vs : List V} {ds : List D} {i : Nat} {v : V}, DnA K S vs ds → vs[i]? = some v → ∃ d, ds[i]? = some d ∧ Dn K S v d
  | _, _, _, _, .nil, e => by simp at e
  | _, _, 0, _, .cons h _, e => by simp at e; subst e; exact ⟨_, rfl, h⟩
  | _, _, i + 1, _, .cons _ a, e => by
    obtain ⟨v, h1, h2⟩ := a.getV (i := i) (by simpa using e)
    exact ⟨v, by simpa using h1, h2⟩
theorem DnA.set {v : V} {d : D} (h : Dn K S v d) : ∀ {vs : List V} {ds : List D} (i : Nat), DnA K S vs ds → DnA K S (vs.set i v) (ds.set i d)
  | _, _, _, .nil => .nil
  | _, _, 0, .cons _ a => .cons h a
  | _, _, i + 1, .cons q a => .cons q (a.set h i)
theorem DnA.take : ∀ {vs : List V} {ds : List D} (n : Nat), DnA K S vs ds → DnA K S (vs.take n) (ds.take n)
  | _, _, 0, _ => .nil
  | _, _, _ + 1, .nil => .nil
  | _, _, n + 1, .cons h a => .cons h (a.take n)
theorem DnA.drop : ∀ {vs : List V} {ds : List D} (n : Nat), DnA K S vs ds → DnA K S (vs.drop n) (ds.drop n)
  | _, _, 0, a => a
  | _, _, _ + 1, .nil => .nil
  | _, _, n + 1, .cons _ a => a.drop n
theorem DnA.eraseIdx : ∀ {vs : List V} {ds : List D} (n : Nat), DnA K S vs ds → DnA K S (vs.eraseIdx n) (ds.eraseIdx n)
  | _, _, _, .nil => .nil
  | _, _, 0, .cons _ a => a
  | _, _, n + 1, .cons h a => .cons h (a.eraseIdx n)
theorem DnA.reverse {vs : List V} {ds : List D} (a : DnA K S vs ds) : DnA K S vs.reverse ds.reverse := by
  induction vs generalizing ds with
  | nil => cases a; exact .nil
  | cons v vs ih =>
    cases a with
    | cons h a =>
      rw [List.reverse_cons, List.reverse_cons]
      exact (ih a).append (.cons h .nil)
theorem DnA.ints : ∀ ns : List Int, DnA K S (ns.map V.int) (ns.map D.int)
  | [] => .nil
  | n :: ns => .cons (.int n) (DnA.ints ns)
theorem DnA.strs : ∀ ns : List Str, DnA K S (ns.map V.str) (ns.map D.str)
  | [] => .nil
  | n :: ns => .cons (.str n) (DnA.strs ns)

/-- the pen: where it stands, at most so many draws so far -/
abbrev Pen := Option (Addr × Nat)
def PenOk (S H : Hp) : Pen → Prop
  | none => True
  | some (a, c) => S a = none ∧ ∃ (ca : Addr) (ns : List Int) (k m : Int), H a = some (.lst [.ref ca, .int k, .int m]) ∧ S ca = some (.lst (ns.map V.int)) ∧ ns.length ≤ 63 ∧ 0 ≤ k ∧ k ≤ c ∧ 0 ≤ m

/-- what stood at a def's entry; pa: what alone of it may change -/
structure Bs where
  S0 : Hp
  H0 : Hp
  pa : Option Addr
  pd : Bool := true
structure Frm (B : Bs) (S H : Hp) : Prop where
  s : Ex B.S0 S
  h : ∀ b o, B.H0 b = some o → B.pa ≠ some b → NT o → H b = some o
  t : ∀ b ps, B.H0 b = some (.tbl ps) → ∃ qs, H b = some (.tbl qs)
  no : ∀ b o, B.H0 b = some o → B.S0 b = none → S b = none
  pa : ∀ a, B.pa = some a → ∃ o, H a = some o
theorem Frm.pl {B : Bs} (f : Frm B S H) {b : Addr} {o : HO} (h : B.H0 b = some o) (n : B.pa ≠ some b) (p : HO.plain o = true := by rfl) : H b = some o := f.h b o h n (nt_plain p)
theorem Frm.there {B : Bs} (f : Frm B S H) {b : Addr} {o : HO} (h : B.H0 b = some o) : ∃ o', H b = some o' := by
  by_cases e : B.pa = some b
  · exact f.pa b e
  · cases o with
    | tbl ps => obtain ⟨qs, q⟩ := f.t b ps h; exact ⟨_, q⟩
    | ext φ => exact ⟨_, f.h b _ h e fun _ z => nomatch z⟩
    | _ => exact ⟨_, f.h b _ h e (nt_plain rfl)⟩

/-- a slot: not known, data, a list of one's own that may be changed, a dict of one's own -/
inductive Sl where
  | un | law (ns : List Int) | dat (d : D) | own (ds : List D) | hp (ds : List D) | ownK (kvs : List (Key × D)) | ownT (kvs : List (List Key × D))
structure DS where
  sl : List Sl
  pen : Pen
def SlOk (K : PySem.W.Frag) (B : Bs) (S H : Hp) (oa : Option Addr) (ov : Option (Option V)) : Sl → Prop
  | .un => oa = none
  | .law ns => oa = none ∧ B.pa = none ∧ ∃ a, ov = some (some (.ref a)) ∧ SqL K S a (ns.map V.int)
  | .dat d => oa = none ∧ ∃ v, ov = some (some v) ∧ Dn K S v d
  | .own ds => ∃ a vs, oa = some a ∧ B.H0 a = none ∧ B.pa ≠ some a ∧ ov = some (some (.ref a)) ∧ H a = some (.lst vs) ∧ DnA K S vs ds
  | .hp ds => ∃ a vs, oa = some a ∧ B.pa = some a ∧ ov = some (some (.ref a)) ∧ H a = some (.lst vs) ∧ DnA K S vs ds
  | .ownK es => ∃ a kvs, oa = some a ∧ B.H0 a = none ∧ B.pa ≠ some a ∧ ov = some (some (.ref a)) ∧ H a = some (.dK kvs) ∧ kvs.map (·.1) = es.map (·.1) ∧ DnA K S (kvs.map (·.2)) (es.map (·.2))
  | .ownT es => ∃ a kvs, oa = some a ∧ B.H0 a = none ∧ B.pa ≠ some a ∧ ov = some (some (.ref a)) ∧ H a = some (.dT kvs) ∧ kvs.map (·.1) = es.map (·.1) ∧ DnA K S (kvs.map (·.2)) (es.map (·.2))

/-- a heap that has grown: what was known is, what was known and not frozen is not frozen -/
structure Grow (S H S' H' : Hp) : Prop where
  s : Ex S S'
  h : Ext H H'
  ok : Sb S' H'
  no : ∀ b o, H b = some o → S b = none → S' b = none
theorem Grow.refl (e : Sb S H) : Grow S H S H := ⟨Ex.refl _, Ext.refl _, e, fun _ _ _ h => h⟩
theorem Grow.trans {S1 H1 : Hp} (a : Grow S H S1 H1) (b : Grow S1 H1 S' H') : Grow S H S' H' :=
  ⟨a.s.trans b.s, a.h.trans b.h, b.ok, fun c o h n => by
    obtain ⟨o', q⟩ := a.h.there h
    exact b.no c o' q (a.no c o h n)⟩
theorem Grow.new {p : Addr} {o : HO} (e : Sb S H) (hp : H p = none) : Grow S H (upd S p o) (upd H p o) := by
  have sp : S p = none := e.none hp
  refine ⟨Ex.new sp, Ext.of (Ex.new hp), ⟨fun a u h => ?_, fun a u h => ?_, e.tb.at_ p (fun b u n h => by rw [upd_ne n]; exact h) (fun u z => by rw [hp] at z; cases z) fun b n z => by rw [upd_ne n]; exact z⟩, fun b u h n => ?_⟩
  · by_cases q : a = p
    · subst q; rw [upd_same] at h ⊢; exact h
    · rw [upd_ne q] at h ⊢; exact e a u h
  · by_cases q : a = p
    · subst q; rw [upd_same] at h ⊢; exact h
    · rw [upd_ne q] at h ⊢; exact e.tp a u h
  · rw [upd_ne (ne_of_none h hp)]; exact n

/-- the pen is the one that B names, or it was born since -/
def PaOk (B : Bs) (p : Pen) : Prop := if B.pd = true ∧ B.pa ≠ none then p.map (·.1) = B.pa else ∀ a c, p = some (a, c) → B.H0 a = none ∧ B.pa ≠ some a
structure Rel (K : PySem.W.Frag) (B : Bs) (δ : DS) (S : Hp) (σ : L2.St) (H : Hp) : Prop where
  ex : Sb S H
  fr : Frm B S H
  pen : PenOk S H δ.pen
  pa : PaOk B δ.pen
  len : σ.length = δ.sl.length
  sl : ∃ ow : Nat → Option Addr, (∀ i x, δ.sl[i]? = some x → SlOk K B S H (ow i) σ[i]? x) ∧ (∀ i, δ.sl.length ≤ i → ow i = none) ∧ (∀ i j a, ow i = some a → ow j = some a → i = j) ∧
    ∀ i a, ow i = some a → S a = none ∧ (B.H0 a = none ∨ B.pa = some a) ∧ (∀ c, δ.pen ≠ some (a, c)) ∧ ∃ o, H a = some o

theorem SlOk.grow {B : Bs} {oa : Option Addr} {ov : Option (Option V)} {x : Sl} (e : Ex S S') (h : ∀ a o, oa = some a → H a = some o → HO.plain o = true → H' a = some o) (q : SlOk K B S H oa ov x) : SlOk K B S' H' oa ov x := by
  cases x with
  | un => exact q
  | law ns => obtain ⟨a, v, b, c, d⟩ := q; exact ⟨a, v, b, c, e.sqL d⟩
  | dat d => obtain ⟨a, v, b, c⟩ := q; exact ⟨a, v, b, c.mono e⟩
  | own ds => obtain ⟨a, vs, p1, n1, n2, p2, p3, p4⟩ := q; exact ⟨a, vs, p1, n1, n2, p2, h a _ p1 p3 rfl, p4.mono e⟩
  | hp ds => obtain ⟨a, vs, p1, p0, p2, p3, p4⟩ := q; exact ⟨a, vs, p1, p0, p2, h a _ p1 p3 rfl, p4.mono e⟩
  | ownK es => obtain ⟨a, kvs, p1, n1, n2, p2, p3, p4, p5⟩ := q; exact ⟨a, kvs, p1, n1, n2, p2, h a _ p1 p3 rfl, p4, p5.mono e⟩
  | ownT es => obtain ⟨a, kvs, p1, n1, n2, p2, p3, p4, p5⟩ := q; exact ⟨a, kvs, p1, n1, n2, p2, h a _ p1 p3 rfl, p4, p5.mono e⟩
/-- what is one's own is no table -/
theorem SlOk.pl {B : Bs} {p : Addr} {ov : Option (Option V)} {x : Sl} (q : SlOk K B S H (some p) ov x) : ∃ o, H p = some o ∧ HO.plain o = true := by
  cases x with
  | un => cases q
  | law ns => cases q.1
  | dat d => cases q.1
  | own ds => obtain ⟨a, vs, p1, n1, n2, p2, p3, p4⟩ := q; cases p1; exact ⟨_, p3, rfl⟩
  | hp ds => obtain ⟨a, vs, p1, p0, p2, p3, p4⟩ := q; cases p1; exact ⟨_, p3, rfl⟩
  | ownK es => obtain ⟨a, kvs, p1, n1, n2, p2, p3, p4, p5⟩ := q; cases p1; exact ⟨_, p3, rfl⟩
  | ownT es => obtain ⟨a, kvs, p1, n1, n2, p2, p3, p4, p5⟩ := q; cases p1; exact ⟨_, p3, rfl⟩
theorem SlOk.plA {B : Bs} {p : Addr} {oa : Option Addr} {ov : Option (Option V)} {x : Sl} (q : SlOk K B S H oa ov x) (e : oa = some p) : ∃ o, H p = some o ∧ HO.plain o = true := by
  subst e; exact q.pl
theorem PenOk.grow {p : Pen} (g : Grow S H S' H') (q : PenOk S H p) : PenOk S' H' p := by
  match p, q with
  | none, _ => trivial
  | some (a, c), ⟨n, ca, ns, k, m, h1, h2, h3⟩ => exact ⟨g.no a _ h1 n, ca, ns, k, m, g.h.pl h1, g.s _ _ h2, h3⟩
theorem Frm.grow {B : Bs} (f : Frm B S H) (g : Grow S H S' H') : Frm B S' H' where
  s := f.s.trans g.s
  h := fun b o h q n => g.h.h _ _ (f.h b o h q n) n
  t := fun b ps h => by
    obtain ⟨qs, q⟩ := f.t b ps h
    exact g.h.t b qs q
  no := fun b o h n => by
    obtain ⟨o', q⟩ := f.there h
    exact g.no b o' q (f.no b o h n)
  pa := fun a e => by
    obtain ⟨o, q⟩ := f.pa a e
    exact g.h.there q
theorem Rel.grow {B : Bs} {δ : DS} {σ : L2.St} (R : Rel K B δ S σ H) (g : Grow S H S' H') : Rel K B δ S' σ H' := by
  obtain ⟨ow, h1, h2, h3, h4⟩ := R.sl
  refine ⟨g.ok, R.fr.grow g, R.pen.grow g, R.pa, R.len, ow, fun i x e => (h1 i x e).grow g.s fun a o _ q pl => g.h.pl q pl, h2, h3, fun i a e => ?_⟩
  obtain ⟨q1, q2, q3, o, q4⟩ := h4 i a e
  exact ⟨g.no a o q4 q1, q2, q3, g.h.there q4⟩

/-! ### readings -/
/-- an exception: its class, its one attribute -/
structure Xc where
  cls : Value
  at_ : Option (Str × D)
def XcOk (K : PySem.W.Frag) (S H : Hp) (c : Xc) (cls : Value) (od : Option Addr) : Prop :=
  cls = c.cls ∧ match c.at_ with
    | none => od = none
    | some (f, d) => ∃ a v, od = some a ∧ H a = some (.xd [(f, v)]) ∧ Dn K S v d
abbrev XW := Xc → DS → Prop
abbrev dE := XW → DS → (D → DS → Prop) → Prop
abbrev dF := XW → DS → (List D → DS → Prop) → Prop
abbrev dT := XW → DS → (Bool → DS → Prop) → Prop
abbrev dA := XW → DS → (List D → DS → Prop) → Prop
structure dEnds where
  nx : DS → Prop
  rt : D → DS → Prop
  bk : DS → Prop := fun _ => False
  ct : DS → Prop := fun _ => False
  rl : List D → DS → Prop := fun _ _ => False
abbrev dS := XW → dEnds → DS → Prop
abbrev dG := D → DS → (DS → Prop) → Prop
abbrev EK := L2.St → XK

def XOk (K : PySem.W.Frag) (B : Bs) (E : EK) (W : XW) (S : Hp) : Prop :=
  ∀ c δ' σ' S' H' cls od, W c δ' → Ex S S' → Rel K B δ' S' σ' H' → XcOk K S' H' c cls od → E σ' cls od H'
theorem XOk.mono {B : Bs} {E : EK} {W : XW} (h : XOk K B E W S) (e : Ex S S') : XOk K B E W S' :=
  fun c δ' σ' S1 H' cls od w x r k => h c δ' σ' S1 H' cls od w (e.trans x) r k

def liftE (K : PySem.W.Frag) (B : Bs) (E : EK) (d : dE) : TE := fun σ H Q => ∃ δ S W Q', Rel K B δ S σ H ∧ d W δ Q' ∧ XOk K B E W S ∧
  ∀ x δ' v S' H', Q' x δ' → Ex S S' → Rel K B δ' S' σ H' → Dn K S' v x → Q v H'
/-- a new list, of one's own still -/
def liftF (K : PySem.W.Frag) (B : Bs) (E : EK) (d : dF) : TE := fun σ H Q => ∃ δ S W Q', Rel K B δ S σ H ∧ d W δ Q' ∧ XOk K B E W S ∧
  ∀ xs δ' p vs S' H', Q' xs δ' → Ex S S' → Rel K B δ' S' σ H' → H' p = none → DnA K S' vs xs → Q (.ref p) (upd H' p (.lst vs))
def liftT (K : PySem.W.Frag) (B : Bs) (E : EK) (d : dT) : TT := fun σ H Q => ∃ δ S W Q', Rel K B δ S σ H ∧ d W δ Q' ∧ XOk K B E W S ∧
  ∀ x δ' S' H', Q' x δ' → Ex S S' → Rel K B δ' S' σ H' → Q x H'
def liftA (K : PySem.W.Frag) (B : Bs) (E : EK) (d : dA) : TA := fun σ H Q => ∃ δ S W Q', Rel K B δ S σ H ∧ d W δ Q' ∧ XOk K B E W S ∧
  ∀ xs δ' vs S' H', Q' xs δ' → Ex S S' → Rel K B δ' S' σ H' → DnA K S' vs xs → Q vs H'
def liftS (K : PySem.W.Frag) (B : Bs) (E : EK) (d : dS) : TS := fun Z σ H => ∃ δ S W N, Rel K B δ S σ H ∧ d W N δ ∧ XOk K B E W S ∧
  (∀ δ' σ' S' H', N.nx δ' → Ex S S' → Rel K B δ' S' σ' H' → Z.nx σ' H') ∧
  (∀ x δ' v σ' S' H', N.rt x δ' → Ex S S' → Rel K B δ' S' σ' H' → Dn K S' v x → Z.rt v H') ∧
  (∀ δ' σ' S' H', N.bk δ' → Ex S S' → Rel K B δ' S' σ' H' → Z.bk σ' H') ∧
  (∀ δ' σ' S' H', N.ct δ' → Ex S S' → Rel K B δ' S' σ' H' → Z.ct σ' H') ∧
  (∀ xs δ' p vs σ' S' H', N.rl xs δ' → Ex S S' → Rel K B δ' S' σ' H' → H' p = none → DnA K S' vs xs → Z.rt (.ref p) (upd H' p (.lst vs)))
def liftG (K : PySem.W.Frag) (B : Bs) (g : dG) (vs : List Nat) : TG := fun v σ H Q => ∃ δ S d Q', Rel K B δ S σ H ∧ Dn K S v d ∧ g d δ Q' ∧
  ∀ δ' σ' S' H', Q' δ' → Ex S S' → Rel K B δ' S' σ' H' → (∀ i, i ∉ vs → σ'[i]? = σ[i]?) → σ'.length = σ.length → Q σ' H'

structure DE (X : Cx) (E : EK) (e : Expr) (d : dE) : Prop where
  run : ∀ B, PE X e (liftE X.K B E d)
structure DF (X : Cx) (E : EK) (e : Expr) (d : dF) : Prop where
  run : ∀ B, PE X e (liftF X.K B E d)
structure DT (X : Cx) (E : EK) (e : Expr) (d : dT) : Prop where
  run : ∀ B, PT X e (liftT X.K B E d)
structure DA (X : Cx) (E : EK) (es : List Expr) (d : dA) : Prop where
  run : ∀ B, PA X es (liftA X.K B E d)
structure DSt (X : Cx) (E : EK) (st : Stmt) (d : dS) : Prop where
  run : ∀ B, PS X st (liftS X.K B E d)
structure DSs (X : Cx) (E : EK) (st : List Stmt) (d : dS) : Prop where
  run : ∀ B, PSs X st (liftS X.K B E d)
structure DG (X : Cx) (tg : Expr) (g : dG) (vs : List Nat) : Prop where
  run : ∀ B, PG X tg (liftG X.K B g vs)

section
variable {X : Cx} {e : Expr} {st : Stmt} {sts : List Stmt} {es : List Expr}
theorem pe_mono {t t' : TE} (h : PE X e t) (m : ∀ σ H Q, t' σ H Q → t σ H Q) : PE X e t' := ⟨fun pins s σ H Q I q => h.run pins s σ H Q I (m _ _ _ q)⟩
theorem pt_mono {t t' : TT} (h : PT X e t) (m : ∀ σ H Q, t' σ H Q → t σ H Q) : PT X e t' := ⟨fun pins s σ H Q I q => h.run pins s σ H Q I (m _ _ _ q)⟩
theorem pw_mono {t t' : TT} (h : PW X e t) (m : ∀ σ H Q, t' σ H Q → t σ H Q) : PW X e t' := ⟨fun wh pins s σ H Q I q => h.run wh pins s σ H Q I (m _ _ _ q)⟩
theorem pa_mono {t t' : TA} (h : PA X es t) (m : ∀ σ H Q, t' σ H Q → t σ H Q) : PA X es t' := ⟨fun pos pins s σ H Q I q => h.run pos pins s σ H Q I (m _ _ _ q)⟩
theorem ps_mono {t t' : TS} (h : PS X st t) (m : ∀ Z σ H, t' Z σ H → t Z σ H) : PS X st t' := ⟨fun pins s σ H Z I q => h.run pins s σ H Z I (m _ _ _ q)⟩
theorem pss_mono {t t' : TS} (h : PSs X sts t) (m : ∀ Z σ H, t' Z σ H → t Z σ H) : PSs X sts t' := ⟨fun pins s σ H Z I q => h.run pins s σ H Z I (m _ _ _ q)⟩
end
end Ev

namespace Ev
open PySem PySem.Spec PyProof.Rows L2
variable [TabC]
variable {K : PySem.W.Frag} {S S' H H' : Hp} {B : Bs} {δ : DS} {σ : L2.St}

theorem Rel.dat (R : Rel K B δ S σ H) {i : Nat} {d : D} (h : δ.sl[i]? = some (.dat d)) : ∃ v, σ[i]? = some (some v) ∧ Dn K S v d := by
  obtain ⟨ow, h1, _⟩ := R.sl
  obtain ⟨_, v, e, q⟩ := h1 i _ h
  exact ⟨v, e, q⟩
theorem Rel.law (R : Rel K B δ S σ H) {i : Nat} {ns : List Int} (h : δ.sl[i]? = some (.law ns)) : B.pa = none ∧ ∃ v, σ[i]? = some (some v) ∧ Dn K S v (.scr ns) := by
  obtain ⟨ow, h1, _⟩ := R.sl
  obtain ⟨_, e, a, q1, q2⟩ := h1 i _ h
  exact ⟨e, _, q1, .scr q2⟩
theorem Rel.new (R : Rel K B δ S σ H) {p : Addr} {o : HO} (hp : H p = none) : Rel K B δ (upd S p o) σ (upd H p o) := R.grow (Grow.new R.ex hp)

section
variable {X : Cx} {E : EK} {e a b c : Expr} {es : List Expr} {pos : Pos}

/-! ### names, constants -/
def dVar (i : Nat) : dE := fun _ δ Q => match δ.sl[i]? with | some (.dat d) => Q d δ | some (.law ns) => Q (.scr ns) δ | _ => False
theorem de_var {i : Nat} {x : Str} (h : PE X (.Name x pos) (tVar i)) : DE X E (.Name x pos) (dVar i) := ⟨fun B => pe_mono h fun σ H Q q => by
  obtain ⟨δ, S, W, Q', R, q, _, post⟩ := q
  unfold dVar at q
  split at q
  · rename_i d hd
    obtain ⟨v, e1, e2⟩ := R.dat hd
    exact ⟨v, e1, post _ _ _ _ _ q (Ex.refl _) R e2⟩
  · rename_i ns hd
    obtain ⟨_, v, e1, e2⟩ := R.law hd
    exact ⟨v, e1, post _ _ _ _ _ q (Ex.refl _) R e2⟩
  · exact q.elim⟩
def dC (d : D) : dE := fun _ δ Q => Q d δ
theorem de_c {v : V} {d : D} (h : PE X e (tC v)) (k : ∀ S, Dn X.K S v d) : DE X E e (dC d) := ⟨fun B => pe_mono h fun σ H Q q => by
  obtain ⟨δ, S, W, Q', R, q, _, post⟩ := q
  exact post _ _ _ _ _ q (Ex.refl _) R (k S)⟩
theorem de_int {i j} : DE X E (.Constant (.int i) j pos) (dC (.int i)) := de_c pe_int fun _ => .int i
theorem de_bl {i j} : DE X E (.Constant (.bool i) j pos) (dC (.bl i)) := de_c pe_bl fun _ => .bl i
theorem de_non {j} : DE X E (.Constant .none j pos) (dC .non) := de_c pe_non fun _ => .non
theorem de_str {i j} : DE X E (.Constant (.str i) j pos) (dC (.str i)) := de_c pe_str fun _ => .str i

/-! ### pure operators -/
abbrev DR2 := D → D → (D → Prop) → Prop
abbrev DR1 := D → (D → Prop) → Prop
def liftR (K : PySem.W.Frag) (r : DR2) : R2 := fun x y H Q => ∃ S dx dy Q', Sb S H ∧ Dn K S x dx ∧ Dn K S y dy ∧ r dx dy Q' ∧ ∀ dz v S' H', Q' dz → Grow S H S' H' → Dn K S' v dz → Q v H'
def OpD (X : Cx) (f : Value → Value → Sem Value) (r : DR2) : Prop := OpR X f (liftR X.K r)
def dBin (r : DR2) (da db : dE) : dE := fun W δ Q => da W δ fun x δ1 => db W δ1 fun y δ2 => r x y fun z => Q z δ2
theorem lift_bin {r : DR2} {da db : dE} {σ : L2.St} {H : Hp} {Q : VK} (q : liftE K B E (dBin r da db) σ H Q) : tOp (liftR K r) (liftE K B E da) (liftE K B E db) σ H Q := by
  obtain ⟨δ, S, W, Q', R, q, xo, post⟩ := q
  refine ⟨δ, S, W, _, R, q, xo, fun x δ1 v S1 H1 q1 e1 R1 n1 => ?_⟩
  refine ⟨δ1, S1, W, _, R1, q1, xo.mono e1, fun y δ2 u S2 H2 q2 e2 R2 n2 => ?_⟩
  exact ⟨S2, x, y, _, R2.ex, n1.mono e2, n2, q2, fun dz v S' H' q3 g n3 => post _ _ _ _ _ q3 ((e1.trans e2).trans g.s) (R2.grow g) n3⟩
theorem de_op {op : Operator} {r : DR2} {da db : dE} (ho : OpD X (binaryOp op) r) (ha : DE X E a da) (hb : DE X E b db) : DE X E (.BinOp a op b pos) (dBin r da db) :=
  ⟨fun B => pe_mono (pe_op ho (ha.run B) (hb.run B)) fun σ H Q q => lift_bin q⟩
theorem de_cmp {op : CmpOp} {r : DR2} {da db : dE} (ho : OpD X (compareOp op) r) (ha : DE X E a da) (hb : DE X E b db) (hm : behindInMarks op b = false) : DE X E (.Compare a [op] [b] pos) (dBin r da db) :=
  ⟨fun B => pe_mono (pe_cmpR ho (ha.run B) (hb.run B) hm) fun σ H Q q => lift_bin q⟩
/-- an expression that gives a bool, as a test -/
def dB (d : dE) : dT := fun W δ Q => d W δ fun x δ' => match x with | .bl k => Q k δ' | _ => False
theorem lift_B {d : dE} {σ : L2.St} {H : Hp} {Q : Bool → Hp → Prop} (q : liftT K B E (dB d) σ H Q) : liftE K B E d σ H fun x H' => ∃ k, x = .bl k ∧ Q k H' := by
  obtain ⟨δ, S, W, Q', R, q, xo, post⟩ := q
  refine ⟨δ, S, W, _, R, q, xo, fun x δ1 v S1 H1 q1 e1 R1 n1 => ?_⟩
  cases x with
  | bl k => cases n1; exact ⟨k, rfl, post _ _ _ _ q1 e1 R1⟩
  | _ => exact q1.elim
theorem dt_cmp {op : CmpOp} {r : DR2} {da db : dE} (ho : OpD X (compareOp op) r) (ha : DE X E a da) (hb : DE X E b db) (hm : behindInMarks op b = false) : DT X E (.Compare a [op] [b] pos) (dB (dBin r da db)) :=
  ⟨fun B => pt_mono (pt_cmpR ho (ha.run B) (hb.run B) hm) fun σ H Q q => by
    have q := lift_B q
    exact lift_bin (Q := fun x H' => ∃ k, x = .bl k ∧ Q k H') q⟩
theorem dt_val {d : dE} (h : DE X E e d) (he : ∀ whole, isTrue e X.env whole = (do let v ← whole; standAt e.pos; holding [v] (truthy v)) := by intro _; rfl) : DT X E e (dB d) :=
  ⟨fun B => pt_mono (pt_val (h.run B) he) fun σ H Q q => lift_B q⟩
/-- a < b < c -/
def dChain (r r' : DR2) (da db dc : dE) : dE := fun W δ Q => da W δ fun x δ1 => db W δ1 fun y δ2 => r x y fun z => match z with
  | .bl true => dc W δ2 fun u δ3 => r' y u fun z' => Q z' δ3
  | .bl false => Q (.bl false) δ2
  | _ => False
theorem lift_chain {r r' : DR2} {da db dc : dE} {σ : L2.St} {H : Hp} {Q : VK} (q : liftE K B E (dChain r r' da db dc) σ H Q) : tChain (liftR K r) (liftR K r') (liftE K B E da) (liftE K B E db) (liftE K B E dc) σ H Q := by
  obtain ⟨δ, S, W, Q', R, q, xo, post⟩ := q
  refine ⟨δ, S, W, _, R, q, xo, fun x δ1 v S1 H1 q1 e1 R1 n1 => ?_⟩
  refine ⟨δ1, S1, W, _, R1, q1, xo.mono e1, fun y δ2 u S2 H2 q2 e2 R2 n2 => ?_⟩
  refine ⟨S2, x, y, _, R2.ex, n1.mono e2, n2, q2, fun dz vz S3 H3 q3 g n3 => ?_⟩
  cases dz with
  | bl k =>
    cases n3
    refine ⟨k, rfl, ?_⟩
    cases k with
    | true =>
      rw [if_pos rfl]
      refine ⟨δ2, S3, W, _, R2.grow g, q3, xo.mono ((e1.trans e2).trans g.s), fun z δ3 w S4 H4 q4 e4 R4 n4 => ?_⟩
      exact ⟨S4, y, z, _, R4.ex, n2.mono (g.s.trans e4), n4, q4, fun dz v S' H' q5 g5 n5 => post _ _ _ _ _ q5 ((((e1.trans e2).trans g.s).trans e4).trans g5.s) (R4.grow g5) n5⟩
    | false =>
      rw [if_neg Bool.false_ne_true]
      exact post _ _ _ _ _ q3 ((e1.trans e2).trans g.s) (R2.grow g) (.bl false)
  | _ => exact q3.elim
theorem de_chain {op op' : CmpOp} {r r' : DR2} {da db dc : dE} (ho : OpD X (compareOp op) r) (ho' : OpD X (compareOp op') r') (ha : DE X E a da) (hb : DE X E b db) (hc : DE X E c dc) (hm : lastMarks [op, op'] [b, c] = false := by with_unfolding_all rfl) :
    DE X E (.Compare a [op, op'] [b, c] pos) (dChain r r' da db dc) := ⟨fun B => pe_mono (pe_chain ho ho' (ha.run B) (hb.run B) (hc.run B) hm) fun σ H Q q => lift_chain q⟩
theorem dt_chain {op op' : CmpOp} {r r' : DR2} {da db dc : dE} (ho : OpD X (compareOp op) r) (ho' : OpD X (compareOp op') r') (ha : DE X E a da) (hb : DE X E b db) (hc : DE X E c dc) (hm : lastMarks [op, op'] [b, c] = false := by with_unfolding_all rfl) :
    DT X E (.Compare a [op, op'] [b, c] pos) (dB (dChain r r' da db dc)) := ⟨fun B => pt_mono (pt_chain ho ho' (ha.run B) (hb.run B) (hc.run B) hm) fun σ H Q q => by
      have q := lift_B q
      exact lift_chain (Q := fun x H' => ∃ k, x = .bl k ∧ Q k H') q⟩

/-! ### and, or, not, if -/
variable {ta tb : dT} {da db : dE} {rest : List Expr}
structure DW (X : Cx) (E : EK) (e : Expr) (d : dT) : Prop where
  run : ∀ B, PW X e (liftT X.K B E d)
theorem DW.dt (h : DW X E e ta) : DT X E e ta := ⟨fun B => (h.run B).pt⟩
def dAnd (t u : dT) : dT := fun W δ Q => t W δ fun k δ1 => match k with | true => u W δ1 Q | false => Q false δ1
def dOr (t u : dT) : dT := fun W δ Q => t W δ fun k δ1 => match k with | true => Q true δ1 | false => u W δ1 Q
def dNot (t : dT) : dT := fun W δ Q => t W δ fun k δ1 => Q (!k) δ1
theorem dw_and1 (h : DT X E a ta) : DW X E (.BoolOp .And [a] pos) ta := ⟨fun B => pw_and1 (h.run B)⟩
theorem dw_or1 (h : DT X E a ta) : DW X E (.BoolOp .Or [a] pos) ta := ⟨fun B => pw_or1 (h.run B)⟩
theorem dw_and (h : DT X E a ta) (h2 : DW X E (.BoolOp .And (b :: rest) pos) tb) : DW X E (.BoolOp .And (a :: b :: rest) pos) (dAnd ta tb) :=
  ⟨fun B => pw_mono (pw_and (h.run B) (h2.run B)) fun σ H Q q => by
    obtain ⟨δ, S, W, Q', R, q, xo, post⟩ := q
    refine ⟨δ, S, W, _, R, q, xo, fun k δ1 S1 H1 q1 e1 R1 => ?_⟩
    cases k with
    | true => rw [if_pos rfl]; exact ⟨δ1, S1, W, _, R1, q1, xo.mono e1, fun k δ2 S2 H2 q2 e2 R2 => post _ _ _ _ q2 (e1.trans e2) R2⟩
    | false => rw [if_neg Bool.false_ne_true]; exact post _ _ _ _ q1 e1 R1⟩
theorem dw_or (h : DT X E a ta) (h2 : DW X E (.BoolOp .Or (b :: rest) pos) tb) : DW X E (.BoolOp .Or (a :: b :: rest) pos) (dOr ta tb) :=
  ⟨fun B => pw_mono (pw_or (h.run B) (h2.run B)) fun σ H Q q => by
    obtain ⟨δ, S, W, Q', R, q, xo, post⟩ := q
    refine ⟨δ, S, W, _, R, q, xo, fun k δ1 S1 H1 q1 e1 R1 => ?_⟩
    cases k with
    | false => rw [if_neg Bool.false_ne_true]; exact ⟨δ1, S1, W, _, R1, q1, xo.mono e1, fun k δ2 S2 H2 q2 e2 R2 => post _ _ _ _ q2 (e1.trans e2) R2⟩
    | true => rw [if_pos rfl]; exact post _ _ _ _ q1 e1 R1⟩
theorem dt_not (h : DT X E a ta) : DT X E (.UnaryOp .Not a pos) (dNot ta) := ⟨fun B => pt_mono (pt_not (h.run B)) fun σ H Q q => by
  obtain ⟨δ, S, W, Q', R, q, xo, post⟩ := q
  exact ⟨δ, S, W, _, R, q, xo, fun k δ1 S1 H1 q1 e1 R1 => post _ _ _ _ q1 e1 R1⟩⟩
/-- as values: bools -/
def dAndV (x y : dE) : dE := fun W δ Q => x W δ fun k δ1 => match k with | .bl true => y W δ1 Q | .bl false => Q (.bl false) δ1 | _ => False
def dOrV (x y : dE) : dE := fun W δ Q => x W δ fun k δ1 => match k with | .bl true => Q (.bl true) δ1 | .bl false => y W δ1 Q | _ => False
def dNotV (x : dE) : dE := fun W δ Q => x W δ fun k δ1 => match k with | .bl k => Q (.bl (!k)) δ1 | _ => False
theorem de_one {op} (h : DE X E a da) : DE X E (.BoolOp op [a] pos) da := ⟨fun B => pe_one (h.run B)⟩
theorem de_and (h : DE X E a da) (h2 : DE X E (.BoolOp .And (b :: rest) pos) db) : DE X E (.BoolOp .And (a :: b :: rest) pos) (dAndV da db) :=
  ⟨fun B => pe_mono (pe_and (h.run B) (h2.run B)) fun σ H Q q => by
    obtain ⟨δ, S, W, Q', R, q, xo, post⟩ := q
    refine ⟨δ, S, W, _, R, q, xo, fun k δ1 v S1 H1 q1 e1 R1 n1 => ?_⟩
    cases k with
    | bl k =>
      cases n1
      refine ⟨k, rfl, ?_⟩
      cases k with
      | true => rw [if_pos rfl]; exact ⟨δ1, S1, W, _, R1, q1, xo.mono e1, fun x δ2 v S2 H2 q2 e2 R2 n2 => post _ _ _ _ _ q2 (e1.trans e2) R2 n2⟩
      | false => rw [if_neg Bool.false_ne_true]; exact post _ _ _ _ _ q1 e1 R1 (.bl false)
    | _ => exact q1.elim⟩
theorem de_or (h : DE X E a da) (h2 : DE X E (.BoolOp .Or (b :: rest) pos) db) : DE X E (.BoolOp .Or (a :: b :: rest) pos) (dOrV da db) :=
  ⟨fun B => pe_mono (pe_or (h.run B) (h2.run B)) fun σ H Q q => by
    obtain ⟨δ, S, W, Q', R, q, xo, post⟩ := q
    refine ⟨δ, S, W, _, R, q, xo, fun k δ1 v S1 H1 q1 e1 R1 n1 => ?_⟩
    cases k with
    | bl k =>
      cases n1
      refine ⟨k, rfl, ?_⟩
      cases k with
      | false => rw [if_neg Bool.false_ne_true]; exact ⟨δ1, S1, W, _, R1, q1, xo.mono e1, fun x δ2 v S2 H2 q2 e2 R2 n2 => post _ _ _ _ _ q2 (e1.trans e2) R2 n2⟩
      | true => rw [if_pos rfl]; exact post _ _ _ _ _ q1 e1 R1 (.bl true)
    | _ => exact q1.elim⟩
theorem de_not (h : DE X E a da) : DE X E (.UnaryOp .Not a pos) (dNotV da) := ⟨fun B => pe_mono (pe_not (h.run B)) fun σ H Q q => by
  obtain ⟨δ, S, W, Q', R, q, xo, post⟩ := q
  refine ⟨δ, S, W, _, R, q, xo, fun k δ1 v S1 H1 q1 e1 R1 n1 => ?_⟩
  cases k with
  | bl k => cases n1; exact ⟨k, rfl, post _ _ _ _ _ q1 e1 R1 (.bl _)⟩
  | _ => exact q1.elim⟩
def dIf (t : dT) (x y : dE) : dE := fun W δ Q => t W δ fun k δ1 => match k with | true => x W δ1 Q | false => y W δ1 Q
theorem de_if (ht : DT X E c ta) (ha : DE X E a da) (hb : DE X E b db) : DE X E (.IfExp c a b pos) (dIf ta da db) := ⟨fun B => pe_mono (pe_ifExp (ht.run B) (ha.run B) (hb.run B)) fun σ H Q q => by
  obtain ⟨δ, S, W, Q', R, q, xo, post⟩ := q
  refine ⟨δ, S, W, _, R, q, xo, fun k δ1 S1 H1 q1 e1 R1 => ?_⟩
  cases k with
  | true => rw [if_pos rfl]; exact ⟨δ1, S1, W, _, R1, q1, xo.mono e1, fun x δ2 v S2 H2 q2 e2 R2 n2 => post _ _ _ _ _ q2 (e1.trans e2) R2 n2⟩
  | false => rw [if_neg Bool.false_ne_true]; exact ⟨δ1, S1, W, _, R1, q1, xo.mono e1, fun x δ2 v S2 H2 q2 e2 R2 n2 => post _ _ _ _ _ q2 (e1.trans e2) R2 n2⟩⟩

/-! ### arguments, displays -/
def dNil : dA := fun _ δ Q => Q [] δ
def dCons (x : dE) (r : dA) : dA := fun W δ Q => x W δ fun d δ1 => r W δ1 fun ds δ2 => Q (d :: ds) δ2
theorem da_nil : DA X E [] dNil := ⟨fun B => pa_mono pa_nil fun σ H Q q => by
  obtain ⟨δ, S, W, Q', R, q, xo, post⟩ := q
  exact post _ _ _ _ _ q (Ex.refl _) R .nil⟩
theorem da_cons {r : dA} (h : DE X E e da) (hr : DA X E es r) (hs : starEach (e :: es) X.env = (false, eval e X.env) :: starEach es X.env := by rfl) : DA X E (e :: es) (dCons da r) := ⟨fun B => pa_mono (pa_cons (h.run B) (hr.run B) hs) fun σ H Q q => by
  obtain ⟨δ, S, W, Q', R, q, xo, post⟩ := q
  refine ⟨δ, S, W, _, R, q, xo, fun x δ1 v S1 H1 q1 e1 R1 n1 => ?_⟩
  exact ⟨δ1, S1, W, _, R1, q1, xo.mono e1, fun xs δ2 vs S2 H2 q2 e2 R2 n2 => post _ _ _ _ _ q2 (e1.trans e2) R2 (.cons (n1.mono e2) n2)⟩⟩
def dTup (r : dA) : dE := fun W δ Q => r W δ fun xs δ1 => xs.length ≤ sizeLine ∧ Q (.tup xs) δ1
theorem de_tup {r : dA} {x1} (h : DA X E es r) : DE X E (.Tuple es x1 pos) (dTup r) := ⟨fun B => pe_mono (pe_tup (h.run B)) fun σ H Q q => by
  obtain ⟨δ, S, W, Q', R, q, xo, post⟩ := q
  refine ⟨δ, S, W, _, R, q, xo, fun xs δ1 vs S1 H1 q1 e1 R1 n1 => ⟨by rw [n1.length]; exact q1.1, fun p hp => ?_⟩⟩
  have g := Grow.new (o := .tup vs) R1.ex hp
  exact post _ _ _ _ _ q1.2 (e1.trans g.s) (R1.grow g) (.tup upd_same (n1.mono g.s))⟩
def dLst (r : dA) : dF := fun W δ Q => r W δ fun xs δ1 => xs.length ≤ sizeLine ∧ Q xs δ1
theorem df_lst {r : dA} (h : DA X E es r) : DF X E (.List es pos) (dLst r) := ⟨fun B => pe_mono (pe_lst (h.run B)) fun σ H Q q => by
  obtain ⟨δ, S, W, Q', R, q, xo, post⟩ := q
  exact ⟨δ, S, W, _, R, q, xo, fun xs δ1 vs S1 H1 q1 e1 R1 n1 => ⟨by rw [n1.length]; exact q1.1, fun p hp => post _ _ _ _ _ _ q1.2 e1 R1 hp n1⟩⟩⟩
/-- a new list, frozen at once -/
def dFz (f : dF) : dE := fun W δ Q => f W δ fun xs δ1 => Q (.lst xs) δ1
theorem de_fz {f : dF} (h : DF X E e f) : DE X E e (dFz f) := ⟨fun B => pe_mono (h.run B) fun σ H Q q => by
  obtain ⟨δ, S, W, Q', R, q, xo, post⟩ := q
  refine ⟨δ, S, W, _, R, q, xo, fun xs δ1 p vs S1 H1 q1 e1 R1 hp n1 => ?_⟩
  have g := Grow.new (o := .lst vs) R1.ex hp
  exact post _ _ _ _ _ q1 (e1.trans g.s) (R1.grow g) (.lst upd_same (n1.mono g.s))⟩
end
end Ev

namespace Ev
open PySem PySem.Spec PyProof.Rows L2
variable [TabC]
variable {K : PySem.W.Frag} {S S' H H' : Hp} {B : Bs} {δ : DS} {σ : L2.St}

/-! ### slots change -/
theorem Frm.fresh (f : Frm B S H) {p : Addr} (hp : H p = none) : B.H0 p = none ∧ B.pa ≠ some p := by
  refine ⟨?_, fun e => ?_⟩
  · cases q : B.H0 p with
    | none => rfl
    | some o =>
      obtain ⟨o', e⟩ := f.there q
      rw [hp] at e; cases e
  · obtain ⟨o, q⟩ := f.pa p e
    rw [hp] at q; cases q
theorem Rel.pen_ne (R : Rel K B δ S σ H) {p : Addr} (hp : B.pa ≠ some p) (h0 : ∃ o, B.H0 p = some o) : ∀ c, δ.pen ≠ some (p, c) := fun c e => by
  have h := R.pa
  unfold PaOk at h
  split at h
  · rw [e] at h; exact hp h.symm
  · obtain ⟨o, h0⟩ := h0
    rw [(h p c e).1] at h0; cases h0
theorem Rel.pen_new (R : Rel K B δ S σ H) {p : Addr} (hp : H p = none) : ∀ c, δ.pen ≠ some (p, c) := fun c e => by
  have h := R.pen
  rw [e] at h
  obtain ⟨_, _, _, _, _, q, _⟩ := h
  rw [hp] at q; cases q
theorem get_set {α : Type} {l : List α} {i j : Nat} {x y : α} (h : (l.set i x)[j]? = some y) : (j = i ∧ y = x) ∨ (j ≠ i ∧ l[j]? = some y) := by
  by_cases e : i = j
  · subst e
    by_cases hi : i < l.length
    · rw [List.getElem?_set_self hi] at h; exact .inl ⟨rfl, (Option.some.inj h).symm⟩
    · rw [List.getElem?_eq_none (by simpa using hi)] at h; cases h
  · rw [List.getElem?_set_ne e] at h; exact .inr ⟨fun q => e q.symm, h⟩
/-- slot i becomes data -/
theorem Rel.setDat (R : Rel K B δ S σ H) {i : Nat} {v : V} {d : D} (h : Dn K S v d) : Rel K B { δ with sl := δ.sl.set i (.dat d) } S (σ.set i (some v)) H := by
  obtain ⟨ow, h1, h2, h3, h4⟩ := R.sl
  refine ⟨R.ex, R.fr, R.pen, R.pa, by simpa using R.len, fun j => if j = i then none else ow j, fun j x e => ?_, fun j hj => ?_, fun j k a e1 e2 => ?_, fun j a e => ?_⟩
  · rcases get_set e with ⟨rfl, rfl⟩ | ⟨ne, e⟩
    · have hl : j < σ.length := by
        rw [R.len]
        have := (List.getElem?_eq_some_iff.mp e).1
        simpa using this
      exact ⟨by simp, v, List.getElem?_set_self hl, h⟩
    · have := h1 j x e
      simp only [ne, if_false]
      rw [List.getElem?_set_ne (Ne.symm ne)]
      exact this
  · show (if j = i then none else ow j) = none
    split
    · rfl
    · exact h2 j (by simpa using hj)
  · have e1 : (if j = i then none else ow j) = some a := e1
    have e2 : (if k = i then none else ow k) = some a := e2
    split at e1
    · cases e1
    · split at e2
      · cases e2
      · exact h3 j k a e1 e2
  · have e : (if j = i then none else ow j) = some a := e
    split at e
    · cases e
    · exact h4 j a e
/-- slot i is forgotten -/
theorem Rel.forget (R : Rel K B δ S σ H) {i : Nat} {o : Option V} : Rel K B { δ with sl := δ.sl.set i .un } S (σ.set i o) H := by
  obtain ⟨ow, h1, h2, h3, h4⟩ := R.sl
  refine ⟨R.ex, R.fr, R.pen, R.pa, by simpa using R.len, fun j => if j = i then none else ow j, fun j x e => ?_, fun j hj => ?_, fun j k a e1 e2 => ?_, fun j a e => ?_⟩
  · rcases get_set e with ⟨rfl, rfl⟩ | ⟨ne, e⟩
    · show (if j = j then none else ow j) = none
      simp
    · have := h1 j x e
      simp only [ne, if_false]
      rw [List.getElem?_set_ne (Ne.symm ne)]
      exact this
  · show (if j = i then none else ow j) = none
    split
    · rfl
    · exact h2 j (by simpa using hj)
  · have e1 : (if j = i then none else ow j) = some a := e1
    have e2 : (if k = i then none else ow k) = some a := e2
    split at e1
    · cases e1
    · split at e2
      · cases e2
      · exact h3 j k a e1 e2
  · have e : (if j = i then none else ow j) = some a := e
    split at e
    · cases e
    · exact h4 j a e
/-- other values in slots that are not known -/
theorem Rel.agree (R : Rel K B δ S σ H) {σ' : L2.St} (hl : σ'.length = σ.length) (h : ∀ i : Nat, σ'[i]? = σ[i]? ∨ δ.sl[i]? = some Sl.un) : Rel K B δ S σ' H := by
  obtain ⟨ow, h1, h2, h3, h4⟩ := R.sl
  refine ⟨R.ex, R.fr, R.pen, R.pa, hl.trans R.len, ow, fun i x e => ?_, h2, h3, h4⟩
  rcases h i with q | q
  · rw [q]; exact h1 i x e
  · rw [e] at q
    cases q
    exact h1 i _ e
/-- a new object in slot i, of one's own -/
theorem Rel.setNew (R : Rel K B δ S σ H) {i : Nat} {p : Addr} {o : HO} {x : Sl} (hp : H p = none) (ho : ∀ vs, o ≠ .tup vs)
    (hx : ∀ (H1 : Hp), H1 p = some o → B.H0 p = none → B.pa ≠ some p → SlOk K B S H1 (some p) (some (some (.ref p))) x) : Rel K B { δ with sl := δ.sl.set i x } S (σ.set i (some (.ref p))) (upd H p o) := by
  obtain ⟨f1, f2⟩ := R.fr.fresh hp
  have sp : S p = none := R.ex.none hp
  have g : Grow S H S (upd H p o) := ⟨Ex.refl _, Ext.of (Ex.new hp), R.ex.one hp ho, fun _ _ _ n => n⟩
  have R' := R.grow g
  obtain ⟨ow, h1, h2, h3, h4⟩ := R'.sl
  have np : ∀ j, ow j ≠ some p := fun j e => by
    obtain ⟨ow0, a1, a2, a3, a4⟩ := R.sl
    have := h4 j p e
    rcases Nat.lt_or_ge j δ.sl.length with hj | hj
    · have q := h1 j _ (List.getElem?_eq_getElem hj)
      have q0 := a1 j _ (List.getElem?_eq_getElem hj)
      cases hs : δ.sl[j] with
      | un => rw [hs] at q; rw [e] at q; cases q
      | law ns => rw [hs] at q; rw [e] at q; cases q.1
      | dat d => rw [hs] at q; rw [e] at q; cases q.1
      | own ds =>
        rw [hs] at q q0
        obtain ⟨a, vs, r1, _, _, r2, r3, _⟩ := q0
        obtain ⟨a', vs', t1, _, _, t2, t3, _⟩ := q
        rw [e] at t1; cases t1
        rw [r2] at t2; cases t2
        rw [hp] at r3; cases r3
      | hp ds =>
        rw [hs] at q
        obtain ⟨a', vs', t1, t0, _⟩ := q
        rw [e] at t1; cases t1
        exact f2 t0
      | ownK ds =>
        rw [hs] at q q0
        obtain ⟨a, vs, r1, _, _, r2, r3, _⟩ := q0
        obtain ⟨a', vs', t1, _, _, t2, t3, _⟩ := q
        rw [e] at t1; cases t1
        rw [r2] at t2; cases t2
        rw [hp] at r3; cases r3
      | ownT ds =>
        rw [hs] at q q0
        obtain ⟨a, vs, r1, _, _, r2, r3, _⟩ := q0
        obtain ⟨a', vs', t1, _, _, t2, t3, _⟩ := q
        rw [e] at t1; cases t1
        rw [r2] at t2; cases t2
        rw [hp] at r3; cases r3
    · rw [h2 j hj] at e; cases e
  by_cases hi : i < δ.sl.length
  · refine ⟨R'.ex, R'.fr, R'.pen, R'.pa, by simpa using R'.len, fun j => if j = i then some p else ow j, fun j y e => ?_, fun j hj => ?_, fun j k a e1 e2 => ?_, fun j a e => ?_⟩
    · rcases get_set e with ⟨rfl, rfl⟩ | ⟨ne, e⟩
      · have hl : j < σ.length := by rw [R.len]; exact hi
        rw [List.getElem?_set_self hl]
        simp only [if_true]
        exact hx _ upd_same f1 f2
      · have := h1 j y e
        simp only [ne, if_false]
        rw [List.getElem?_set_ne (Ne.symm ne)]
        exact this
    · have hj' : δ.sl.length ≤ j := by simpa using hj
      have ne : j ≠ i := by omega
      show (if j = i then some p else ow j) = none
      rw [if_neg ne]
      exact h2 j hj'
    · have e1 : (if j = i then some p else ow j) = some a := e1
      have e2 : (if k = i then some p else ow k) = some a := e2
      split at e1
      · cases e1
        split at e2
        · exact (by assumption : j = i).trans (by assumption : k = i).symm
        · exact absurd e2 (np k)
      · split at e2
        · cases e2; exact absurd e1 (np j)
        · exact h3 j k a e1 e2
    · have e : (if j = i then some p else ow j) = some a := e
      split at e
      · cases e
        exact ⟨sp, .inl f1, R.pen_new hp, _, upd_same⟩
      · exact h4 j a e
  · have e1 : δ.sl.set i x = δ.sl := by rw [List.set_eq_of_length_le (by omega)]
    have e2 : σ.set i (some (V.ref p)) = σ := by rw [List.set_eq_of_length_le (by rw [R.len]; omega)]
    rw [e1, e2]
    exact R'
theorem Rel.setOwn (R : Rel K B δ S σ H) {i : Nat} {p : Addr} {vs : List V} {ds : List D} (hp : H p = none) (n : DnA K S vs ds) : Rel K B { δ with sl := δ.sl.set i (.own ds) } S (σ.set i (some (.ref p))) (upd H p (.lst vs)) :=
  R.setNew hp (fun _ z => nomatch z) fun H1 h1 a b => ⟨p, vs, rfl, a, b, rfl, h1, n⟩

/-- the object in slot i is changed -/
theorem Rel.mut (R : Rel K B δ S σ H) {i : Nat} {p : Addr} {o : HO} {x y : Sl} (ho : ∀ vs, o ≠ .tup vs) (hi : δ.sl[i]? = some x) (hx : ∀ oa, SlOk K B S H oa σ[i]? x → oa = some p)
    (hy : ∀ H1 : Hp, H1 p = some o → SlOk K B S H1 (some p) σ[i]? y) : Rel K B { δ with sl := δ.sl.set i y } S σ (upd H p o) := by
  obtain ⟨ow, h1, h2, h3, h4⟩ := R.sl
  have oi : ow i = some p := hx _ (h1 i x hi)
  obtain ⟨sp, q2, q3, o0, q4⟩ := h4 i p oi
  have ne : ∀ a, S a ≠ none → a ≠ p := fun a h e => h (e ▸ sp)
  refine ⟨⟨fun a u h => by rw [upd_ne (ne a (by rw [h]; simp))]; exact R.ex a u h, fun b vs h => by
    by_cases q : b = p
    · subst q; rw [upd_same] at h; exact absurd (Option.some.inj h) (ho vs)
    · rw [upd_ne q] at h; exact R.ex.tp b vs h, R.ex.tb.at_ p (fun b u n h => by rw [upd_ne n]; exact h) (fun u z => by
      obtain ⟨u', z1, z2⟩ := (h1 i x hi).plA oi
      rw [z1] at z; cases z; exact z2) fun _ _ z => z⟩, ⟨R.fr.s, fun b u h hb nb => ?_, fun b ps h => by
      obtain ⟨qs, z⟩ := R.fr.t b ps h
      refine ⟨qs, ?_⟩
      rw [upd_ne (fun e => by
        subst e
        obtain ⟨u', z1, z2⟩ := (h1 i x hi).plA oi
        rw [z1] at z; cases z; cases z2)]
      exact z, R.fr.no, fun a e => ?_⟩, ?_, R.pa, by simpa using R.len, ow, fun j z e => ?_, fun j hj => h2 j (by simpa using hj), h3, fun j a e => ?_⟩
  · have : b ≠ p := fun e => by
      subst e
      rcases q2 with q2 | q2
      · rw [h] at q2; cases q2
      · exact hb q2
    rw [upd_ne this]
    exact R.fr.h b u h hb nb
  · by_cases e2 : a = p
    · subst e2; exact ⟨_, upd_same⟩
    · rw [upd_ne e2]; exact R.fr.pa a e
  · have hp := R.pen
    cases hpe : δ.pen with
    | none => trivial
    | some ac =>
      obtain ⟨a, c⟩ := ac
      rw [hpe] at hp
      have nap : a ≠ p := fun e => q3 c (by rw [hpe, e])
      obtain ⟨n, ca, ns, k, m, r1, r2, r3⟩ := hp
      exact ⟨n, ca, ns, k, m, by rw [upd_ne nap]; exact r1, r2, r3⟩
  · rcases get_set e with ⟨rfl, rfl⟩ | ⟨nj, e⟩
    · rw [oi]
      exact hy _ upd_same
    · refine (h1 j z e).grow (Ex.refl _) fun a u ea ha _ => ?_
      have : a ≠ p := fun q => nj (h3 j i a ea (by rw [q]; exact oi))
      rw [upd_ne this]
      exact ha
  · obtain ⟨r1, r2, r3, u, r4⟩ := h4 j a e
    refine ⟨r1, r2, r3, ?_⟩
    by_cases e2 : a = p
    · subst e2; exact ⟨_, upd_same⟩
    · rw [upd_ne e2]; exact ⟨u, r4⟩
/-- the list of slot i (of one's own, or the pen's): where it stands, what it becomes -/
theorem Rel.own (R : Rel K B δ S σ H) {i : Nat} {ds : List D} (hi : δ.sl[i]? = some (.own ds)) : ∃ p vs, σ[i]? = some (some (.ref p)) ∧ H p = some (.lst vs) ∧ DnA K S vs ds ∧ S p = none ∧ B.H0 p = none ∧ B.pa ≠ some p ∧
    ∀ vs' ds', DnA K S vs' ds' → Rel K B { δ with sl := δ.sl.set i (.own ds') } S σ (upd H p (.lst vs')) := by
  obtain ⟨ow, h1, h2, h3, h4⟩ := id R.sl
  obtain ⟨a, vs, r1, r2, r3, r4, r5, r6⟩ := h1 i _ hi
  refine ⟨a, vs, r4, r5, r6, (h4 i a r1).1, r2, r3, fun vs' ds' n => R.mut (fun _ z => nomatch z) hi (fun oa q => ?_) fun H1 e => ⟨a, vs', rfl, r2, r3, r4, e, n⟩⟩
  obtain ⟨a', _, t1, _, _, t4, _⟩ := q
  rw [r4] at t4; cases t4
  exact t1
theorem Rel.hp (R : Rel K B δ S σ H) {i : Nat} {ds : List D} (hi : δ.sl[i]? = some (.hp ds)) : ∃ p vs, σ[i]? = some (some (.ref p)) ∧ H p = some (.lst vs) ∧ DnA K S vs ds ∧ S p = none ∧ B.pa = some p ∧
    ∀ vs' ds', DnA K S vs' ds' → Rel K B { δ with sl := δ.sl.set i (.hp ds') } S σ (upd H p (.lst vs')) := by
  obtain ⟨ow, h1, h2, h3, h4⟩ := id R.sl
  obtain ⟨a, vs, r1, r2, r4, r5, r6⟩ := h1 i _ hi
  refine ⟨a, vs, r4, r5, r6, (h4 i a r1).1, r2, fun vs' ds' n => R.mut (fun _ z => nomatch z) hi (fun oa q => ?_) fun H1 e => ⟨a, vs', rfl, r2, r4, e, n⟩⟩
  obtain ⟨a', _, t1, _, t4, _⟩ := q
  rw [r4] at t4; cases t4
  exact t1
/-- slot i's list is frozen -/
theorem Rel.freeze (R : Rel K B δ S σ H) {i : Nat} {x : Sl} {d : D} {p : Addr} {o : HO} (hi : δ.sl[i]? = some x) (hx : ∀ oa, SlOk K B S H oa σ[i]? x → oa = some p) (ho : H p = some o) (h0 : B.H0 p = none) (hpa : B.pa ≠ some p)
    (hv : σ[i]? = some (some (.ref p))) (hd : ∀ S1 : Hp, S1 p = some o → Ex S S1 → Dn K S1 (.ref p) d) : ∃ S1, Ex S S1 ∧ Rel K B { δ with sl := δ.sl.set i (.dat d) } S1 σ H ∧ Dn K S1 (.ref p) d := by
  obtain ⟨ow, h1, h2, h3, h4⟩ := R.sl
  have oi : ow i = some p := hx _ (h1 i x hi)
  obtain ⟨sp, q2, q3, _⟩ := h4 i p oi
  have e1 : Ex S (upd S p o) := Ex.new sp
  have dn : Dn K (upd S p o) (.ref p) d := hd _ upd_same e1
  refine ⟨upd S p o, e1, ⟨⟨fun a u h => ?_, fun b vs h => e1 _ _ (R.ex.tp b vs h), R.ex.tb.at_ p (fun _ _ _ h => h) (fun u z => by
    obtain ⟨u', z1, z2⟩ := (h1 i x hi).plA oi
    rw [z1] at z; cases z; exact z2) fun b n z => by rw [upd_ne n]; exact z⟩, ⟨R.fr.s.trans e1, R.fr.h, R.fr.t, fun b u h n => ?_, R.fr.pa⟩, ?_, R.pa, by simpa using R.len, fun j => if j = i then none else ow j, fun j z e => ?_, fun j hj => ?_, fun j k a e1 e2 => ?_, fun j a e => ?_⟩, dn⟩
  · by_cases e : a = p
    · subst e; rw [upd_same] at h; rw [ho]; exact h
    · rw [upd_ne e] at h; exact R.ex a u h
  · have : b ≠ p := fun e => by subst e; rw [h] at h0; cases h0
    rw [upd_ne this]; exact R.fr.no b u h n
  · have hp := R.pen
    cases hpe : δ.pen with
    | none => trivial
    | some ac =>
      obtain ⟨a, c⟩ := ac
      rw [hpe] at hp
      have nap : a ≠ p := fun e => q3 c (by rw [hpe, e])
      obtain ⟨n, ca, ns, k, m, r1, r2, r3⟩ := hp
      exact ⟨by rw [upd_ne nap]; exact n, ca, ns, k, m, r1, e1 _ _ r2, r3⟩
  · rcases get_set e with ⟨rfl, rfl⟩ | ⟨ne, e⟩
    · exact ⟨by simp, _, hv, dn⟩
    · simp only [ne, if_false]
      exact (h1 j z e).grow e1 fun a u _ q _ => q
  · show (if j = i then none else ow j) = none
    split
    · rfl
    · exact h2 j (by simpa using hj)
  · have e1 : (if j = i then none else ow j) = some a := e1
    have e2 : (if k = i then none else ow k) = some a := e2
    split at e1
    · cases e1
    · split at e2
      · cases e2
      · exact h3 j k a e1 e2
  · have e : (if j = i then none else ow j) = some a := e
    split at e
    · cases e
    · rename_i nj
      obtain ⟨r1, r2, r3, r4⟩ := h4 j a e
      have : a ≠ p := fun q => nj (h3 j i a e (by rw [q]; exact oi))
      exact ⟨by rw [upd_ne this]; exact r1, r2, r3, r4⟩
theorem Rel.freezeL (R : Rel K B δ S σ H) {i : Nat} {ds : List D} (hi : δ.sl[i]? = some (.own ds)) : ∃ S1 v, Ex S S1 ∧ Rel K B { δ with sl := δ.sl.set i (.dat (.lst ds)) } S1 σ H ∧ σ[i]? = some (some v) ∧ Dn K S1 v (.lst ds) := by
  obtain ⟨p, vs, h1, h2, h3, h4, h5, h6, _⟩ := R.own hi
  obtain ⟨S1, e, R1, n⟩ := R.freeze (d := .lst ds) hi (fun oa q => by obtain ⟨a', _, t1, _, _, t4, _⟩ := q; rw [h1] at t4; cases t4; exact t1) h2 h5 h6 h1 fun S1 e x => .lst e (h3.mono x)
  exact ⟨S1, _, e, R1, h1, n⟩
end Ev

namespace Ev
open PySem PySem.Spec PyProof.Rows L2
variable [TabC]
variable {K : PySem.W.Frag} {S S' H H' : Hp} {B : Bs} {δ : DS} {σ : L2.St}
section
variable {X : Cx} {E : EK} {e a b c : Expr} {es : List Expr} {pos : Pos} {st : Stmt} {rest : List Stmt} {da db : dE} {t u : dS}

/-! ### a slot's value, its list frozen -/
def dTake (i : Nat) : dE := fun _ δ Q => match δ.sl[i]? with
  | some (.dat d) => Q d δ
  | some (.own ds) => Q (.lst ds) { δ with sl := δ.sl.set i (.dat (.lst ds)) }
  | _ => False
theorem de_take {i : Nat} {x : Str} (h : PE X (.Name x pos) (tVar i)) : DE X E (.Name x pos) (dTake i) := ⟨fun B => pe_mono h fun σ H Q q => by
  obtain ⟨δ, S, W, Q', R, q, _, post⟩ := q
  unfold dTake at q
  split at q
  · rename_i d hd
    obtain ⟨v, e1, e2⟩ := R.dat hd
    exact ⟨v, e1, post _ _ _ _ _ q (Ex.refl _) R e2⟩
  · rename_i ds hd
    obtain ⟨S1, v, e1, R1, e2, n⟩ := R.freezeL hd
    exact ⟨v, e2, post _ _ _ _ _ q e1 R1 n⟩
  · exact q.elim⟩

/-! ### blocks -/
def dNext : dS := fun _ N δ => N.nx δ
def dSeq (t u : dS) : dS := fun W N δ => t W { N with nx := fun δ' => u W N δ' } δ
theorem dss_nil : DSs X E [] dNext := ⟨fun B => pss_mono pss_nil fun Z σ H q => by
  obtain ⟨δ, S, W, N, R, q, xo, h1, _⟩ := q
  exact h1 _ _ _ _ q (Ex.refl _) R⟩
theorem dss_cons (h1 : DSt X E st t) (h2 : DSs X E rest u) : DSs X E (st :: rest) (dSeq t u) := ⟨fun B => pss_mono (pss_cons (h1.run B) (h2.run B)) fun Z σ H q => by
  obtain ⟨δ, S, W, N, R, q, xo, p1, p2, p3, p4⟩ := q
  refine ⟨δ, S, W, _, R, q, xo, fun δ1 σ1 S1 H1 q1 e1 R1 => ?_, p2, p3, p4⟩
  exact ⟨δ1, S1, W, N, R1, q1, xo.mono e1, fun δ2 σ2 S2 H2 q2 e2 R2 => p1 _ _ _ _ q2 (e1.trans e2) R2, fun x δ2 v σ2 S2 H2 q2 e2 R2 n2 => p2 _ _ _ _ _ _ q2 (e1.trans e2) R2 n2,
    fun δ2 σ2 S2 H2 q2 e2 R2 => p3 _ _ _ _ q2 (e1.trans e2) R2, fun δ2 σ2 S2 H2 q2 e2 R2 => p4.1 _ _ _ _ q2 (e1.trans e2) R2, fun xs δ2 p vs σ2 S2 H2 q2 e2 R2 hp n2 => p4.2 _ _ _ _ _ _ _ q2 (e1.trans e2) R2 hp n2⟩⟩
theorem dss_one (h1 : DSt X E st t) : DSs X E [st] t := ⟨fun B => pss_one (h1.run B)⟩
def dNever : dS := fun _ _ _ => False
theorem ds_never : DSt X E st dNever := ⟨fun B => ps_mono (t := tNever) ps_never fun Z σ H q => by
  obtain ⟨_, _, _, _, _, q, _⟩ := q
  exact q.elim⟩
theorem dss_never : DSs X E rest dNever := ⟨fun B => pss_mono (t := tNever) pss_never fun Z σ H q => by
  obtain ⟨_, _, _, _, _, q, _⟩ := q
  exact q.elim⟩
theorem ds_pass : DSt X E (.Pass pos) dNext := ⟨fun B => ps_mono ps_pass fun Z σ H q => by
  obtain ⟨δ, S, W, N, R, q, xo, h1, _⟩ := q
  exact h1 _ _ _ _ q (Ex.refl _) R⟩
theorem ds_doc {x j pos pos'} : DSt X E (.Expr (.Constant (.str x) j pos) pos') dNext := ⟨fun B => ps_mono ps_doc fun Z σ H q => by
  obtain ⟨δ, S, W, N, R, q, xo, h1, _⟩ := q
  exact h1 _ _ _ _ q (Ex.refl _) R⟩
def dBrk : dS := fun _ N δ => N.bk δ
def dCnt : dS := fun _ N δ => N.ct δ
theorem ds_break : DSt X E (.Break pos) dBrk := ⟨fun B => ps_mono ps_break fun Z σ H q => by
  obtain ⟨δ, S, W, N, R, q, xo, _, _, h1, _⟩ := q
  exact h1 _ _ _ _ q (Ex.refl _) R⟩
theorem ds_continue : DSt X E (.Continue pos) dCnt := ⟨fun B => ps_mono ps_continue fun Z σ H q => by
  obtain ⟨δ, S, W, N, R, q, xo, _, _, _, h1⟩ := q
  exact h1.1 _ _ _ _ q (Ex.refl _) R⟩
def dRet (d : dE) : dS := fun W N δ => d W δ fun x δ' => N.rt x δ'
theorem ds_ret (h : DE X E e da) : DSt X E (.Return (some e) pos) (dRet da) := ⟨fun B => ps_mono (ps_ret (h.run B)) fun Z σ H q => by
  obtain ⟨δ, S, W, N, R, q, xo, _, h1, _⟩ := q
  exact ⟨δ, S, W, _, R, q, xo, fun x δ' v S' H' q1 e1 R1 n1 => h1 _ _ _ _ _ _ q1 e1 R1 n1⟩⟩
def dRetN : dS := fun W N δ => N.rt .non δ
theorem ds_retN : DSt X E (.Return none pos) dRetN := ⟨fun B => ps_mono ps_retN fun Z σ H q => by
  obtain ⟨δ, S, W, N, R, q, xo, _, h1, _⟩ := q
  exact h1 _ _ _ _ _ _ q (Ex.refl _) R .non⟩
def dExpr (d : dE) : dS := fun W N δ => d W δ fun _ δ' => N.nx δ'
theorem ds_expr (h : DE X E e da) (hs : swapsWith e none pos.line X.env = pure false := by rfl) : DSt X E (.Expr e pos) (dExpr da) := ⟨fun B => ps_mono (ps_expr (h.run B) hs) fun Z σ H q => by
  obtain ⟨δ, S, W, N, R, q, xo, h1, _⟩ := q
  exact ⟨δ, S, W, _, R, q, xo, fun x δ' v S' H' q1 e1 R1 n1 => h1 _ _ _ _ q1 e1 R1⟩⟩
def dIfS (c : dT) (t u : dS) : dS := fun W N δ => c W δ fun k δ' => match k with | true => t W N δ' | false => u W N δ'
theorem ds_if {tc : dT} {as bs : List Stmt} (hc : DT X E c tc) (ha : DSs X E as t) (hb : DSs X E bs u) : DSt X E (.If c as bs pos) (dIfS tc t u) := ⟨fun B => ps_mono (ps_if (hc.run B) (ha.run B) (hb.run B)) fun Z σ H q => by
  obtain ⟨δ, S, W, N, R, q, xo, p1, p2, p3, p4⟩ := q
  refine ⟨δ, S, W, _, R, q, xo, fun k δ1 S1 H1 q1 e1 R1 => ?_⟩
  have go : ∀ d : dS, d W N δ1 → liftS X.K B E d Z σ H1 := fun d q1 => ⟨δ1, S1, W, N, R1, q1, xo.mono e1, fun δ2 σ2 S2 H2 q2 e2 R2 => p1 _ _ _ _ q2 (e1.trans e2) R2, fun x δ2 v σ2 S2 H2 q2 e2 R2 n2 => p2 _ _ _ _ _ _ q2 (e1.trans e2) R2 n2,
    fun δ2 σ2 S2 H2 q2 e2 R2 => p3 _ _ _ _ q2 (e1.trans e2) R2, fun δ2 σ2 S2 H2 q2 e2 R2 => p4.1 _ _ _ _ q2 (e1.trans e2) R2, fun xs δ2 p vs σ2 S2 H2 q2 e2 R2 hp n2 => p4.2 _ _ _ _ _ _ _ q2 (e1.trans e2) R2 hp n2⟩
  cases k with
  | true => exact iteT (go _ q1)
  | false => exact iteF (go _ q1)⟩

/-! ### assignments -/
def setSl (δ : DS) (i : Nat) (x : Sl) : DS := { δ with sl := δ.sl.set i x }
def dSet (i : Nat) (d : dE) : dS := fun W N δ => d W δ fun x δ' => N.nx (setSl δ' i (.dat x))
def dSetF (i : Nat) (d : dF) : dS := fun W N δ => d W δ fun xs δ' => N.nx (setSl δ' i (.own xs))
theorem ds_set {i : Nat} {x : Str} {pos' : Pos} (hN : X.N.Nodup) (hi : X.N[i]? = some x) (hx : Loc X.env.scope x) (h : DE X E e da) (hs : swapsWith e (some (.Name x pos')) pos.line X.env = pure false := by rfl) (hf : X.fn x = true ∨ X.env.scope.names.lookup x = some .local := by first | exact .inl rfl | exact .inr rfl | assumption) :
    DSt X E (.Assign [.Name x pos'] e pos) (dSet i da) := ⟨fun B => ps_mono (ps_set hN hi hx (h.run B) hs hf) fun Z σ H q => by
  obtain ⟨δ, S, W, N, R, q, xo, h1, _⟩ := q
  exact ⟨δ, S, W, _, R, q, xo, fun x δ' v S' H' q1 e1 R1 n1 => h1 _ _ _ _ q1 e1 (R1.setDat n1)⟩⟩
theorem ds_setF {i : Nat} {x : Str} {pos' : Pos} {d : dF} (hN : X.N.Nodup) (hi : X.N[i]? = some x) (hx : Loc X.env.scope x) (h : DF X E e d) (hs : swapsWith e (some (.Name x pos')) pos.line X.env = pure false := by rfl) (hf : X.fn x = true ∨ X.env.scope.names.lookup x = some .local := by first | exact .inl rfl | exact .inr rfl | assumption) :
    DSt X E (.Assign [.Name x pos'] e pos) (dSetF i d) := ⟨fun B => ps_mono (ps_set hN hi hx (h.run B) hs hf) fun Z σ H q => by
  obtain ⟨δ, S, W, N, R, q, xo, h1, _⟩ := q
  exact ⟨δ, S, W, _, R, q, xo, fun xs δ' p vs S' H' q1 e1 R1 hp n1 => h1 _ _ _ _ q1 e1 (R1.setOwn hp n1)⟩⟩

/-! ### targets -/
def gN (i : Nat) : dG := fun d δ Q => Q (setSl δ i (.dat d))
theorem dg_name {i : Nat} {x : Str} (h : PG X (.Name x pos) (gName i)) : DG X (.Name x pos) (gN i) [i] := ⟨fun B => ⟨fun pins s σ H v u Q I r q => h.run pins s σ H v u Q I r (by
  obtain ⟨δ, S, d, Q', R, n, q, post⟩ := q
  refine post _ _ _ _ q (Ex.refl _) (R.setDat n) (fun j hj => ?_) (by simp)
  have : j ≠ i := by simpa using hj
  rw [List.getElem?_set_ne (Ne.symm this)])⟩⟩
abbrev dGs := List D → DS → (DS → Prop) → Prop
def liftGs (K : PySem.W.Frag) (B : Bs) (g : dGs) (vs : List Nat) : TGs := fun us σ H Q => ∃ δ S ds Q', Rel K B δ S σ H ∧ DnA K S us ds ∧ g ds δ Q' ∧
  ∀ δ' σ' S' H', Q' δ' → Ex S S' → Rel K B δ' S' σ' H' → (∀ i, i ∉ vs → σ'[i]? = σ[i]?) → σ'.length = σ.length → Q σ' H'
structure DGs (X : Cx) (tg : List Expr) (g : dGs) (vs : List Nat) : Prop where
  run : ∀ B, PGs X tg (liftGs X.K B g vs)
def gsNil : dGs := fun ds δ Q => match ds with | [] => Q δ | _ => False
def gsCons (g : dG) (r : dGs) : dGs := fun ds δ Q => match ds with | d :: ds => g d δ fun δ' => r ds δ' Q | [] => False
theorem dgs_nil : DGs X [] gsNil [] := ⟨fun B => ⟨fun pins s σ H vs us Q I r q => pgs_nil.run pins s σ H vs us Q I r (by
  obtain ⟨δ, S, ds, Q', R, n, q, post⟩ := q
  cases n with
  | nil => exact ⟨rfl, post _ _ _ _ q (Ex.refl _) R (fun _ _ => rfl) rfl⟩
  | cons _ _ => exact q.elim)⟩⟩
theorem dgs_cons {g : dG} {r : dGs} {vs ws : List Nat} (h1 : DG X e g vs) (h2 : DGs X es r ws) (hs : (assignEach (e :: es) X.env).map (·.2) = assign e X.env :: (assignEach es X.env).map (·.2) := by rfl) : DGs X (e :: es) (gsCons g r) (vs ++ ws) :=
  ⟨fun B => ⟨fun pins s σ H us uu Q I rr q => (pgs_cons (h1.run B) (h2.run B) hs).run pins s σ H us uu Q I rr (by
    obtain ⟨δ, S, ds, Q', R, n, q, post⟩ := q
    cases n with
    | nil => exact q.elim
    | cons n ns =>
      refine ⟨_, _, rfl, δ, S, _, _, R, n, q, fun δ1 σ1 S1 H1 q1 e1 R1 a1 l1 => ?_⟩
      refine ⟨δ1, S1, _, _, R1, ns.mono e1, q1, fun δ2 σ2 S2 H2 q2 e2 R2 a2 l2 => post _ _ _ _ q2 (e1.trans e2) R2 (fun i hi => ?_) (l2.trans l1)⟩
      rw [a2 i (fun z => hi (by simp [z])), a1 i (fun z => hi (by simp [z]))])⟩⟩
def gT (n : Nat) (r : dGs) : dG := fun d δ Q => match d with | .tup ds => ds.length = n ∧ r ds δ Q | _ => False
theorem dg_tup {k : Nat} {r : dGs} {n : Nat} {vs : List Nat} (hc : X.calm = true) (h : DGs X es r vs) (hn : (assignEach es X.env).length = n := by rfl) (hst : (assignEach es X.env).findIdx? (·.1) = none := by rfl) :
    DG X (.Tuple es k pos) (gT n r) vs := ⟨fun B => ⟨fun pins s σ H v u Q I rv q => (pg_tup hc (h.run B) hn hst).run pins s σ H v u Q I rv (by
    obtain ⟨δ, S, d, Q', R, dn, q, post⟩ := q
    cases d with
    | tup ds =>
      cases dn with
      | tup hq ha => exact ⟨_, _, rfl, SqT.of (R.ex _ _ hq), ha.length.trans q.1, δ, S, ds, Q', R, ha, q.2, post⟩
    | _ => exact q.elim)⟩⟩
def dAsg (d : dE) (g : dG) : dS := fun W N δ => d W δ fun x δ' => g x δ' N.nx
theorem ds_asg {tg : Expr} {g : dG} {vs : List Nat} (h : DE X E e da) (hg : DG X tg g vs) (hs : swapsWithSole [tg] e pos.line X.env = pure false := by rfl) (hw : swappedStores [tg] e X.env = pure none := by rfl)
    (h1 : (assignEach [tg] X.env).map (·.2) = [assign tg X.env] := by rfl) : DSt X E (.Assign [tg] e pos) (dAsg da g) := ⟨fun B => ps_mono (ps_asg (h.run B) (hg.run B) hs hw h1) fun Z σ H q => by
  obtain ⟨δ, S, W, N, R, q, xo, p1, _⟩ := q
  refine ⟨δ, S, W, _, R, q, xo, fun x δ' v S' H' q1 e1 R1 n1 => ?_⟩
  exact ⟨δ', S', x, N.nx, R1, n1, q1, fun δ2 σ2 S2 H2 q2 e2 R2 _ _ => p1 _ _ _ _ q2 (e1.trans e2) R2⟩⟩

/-! ### loops -/
abbrev dI := XW → DS → (List D → DS → Prop) → Prop
structure ItOk (K : PySem.W.Frag) (J : It) (ds : List D) (S : Hp) : Prop where
  goes : ∀ i S1 H1, Ex S S1 → Sb S1 H1 → i < ds.length → J.go i H1
  stops : ∀ S1 H1, Ex S S1 → Sb S1 H1 → J.stop ds.length H1
  yields : ∀ i S1 H1 x H2, Ex S S1 → Sb S1 H1 → i < ds.length → J.yld i H1 x H2 → ∃ S2 d, Grow S1 H1 S2 H2 ∧ ds[i]? = some d ∧ Dn K S2 x d
theorem ItOk.mono {J : It} {ds : List D} (h : ItOk K J ds S) (e : Ex S S') : ItOk K J ds S' :=
  ⟨fun i S1 H1 a => h.goes i S1 H1 (e.trans a), fun S1 H1 a => h.stops S1 H1 (e.trans a), fun i S1 H1 x H2 a => h.yields i S1 H1 x H2 (e.trans a)⟩
def liftI (K : PySem.W.Frag) (B : Bs) (E : EK) (w : dI) : TI := fun σ H R => ∃ δ S W Q', Rel K B δ S σ H ∧ w W δ Q' ∧ XOk K B E W S ∧
  ∀ ds δ' S' H' J, Q' ds δ' → Ex S S' → Rel K B δ' S' σ H' → ItOk K J ds S' → R J H'
structure DI (X : Cx) (E : EK) (tg iter : Expr) (w : dI) : Prop where
  run : ∀ B, PI X tg iter (liftI X.K B E w)
theorem pi_mono {tg iter : Expr} {w w' : TI} (h : PI X tg iter w) (m : ∀ σ H R, w' σ H R → w σ H R) : PI X tg iter w' := ⟨fun pins s σ H R I q => h.run pins s σ H R I (m _ _ _ q)⟩
def wFor (g : dG) (b : dS) (W : XW) (N : dEnds) : List D → DS → Prop
  | [], δ => N.nx δ
  | d :: ds, δ => g d δ fun δ1 => b W { N with nx := wFor g b W N ds, ct := wFor g b W N ds, bk := N.nx } δ1
def dFor (it : dI) (g : dG) (b : dS) : dS := fun W N δ => it W δ fun ds δ1 => wFor g b W N ds δ1
theorem ds_for {tg iter : Expr} {body : List Stmt} {w : dI} {g : dG} {vs : List Nat} (hp : PassesOwn (model X.prog X.w) X.A X.env X.xe) (hc : X.calm = true) (hi : DI X E tg iter w) (hg : DG X tg g vs) (hb : DSs X E body t)
    (hs : ∀ x, foldedSetIterable iter X.env x = pure x := by intro _; rfl) : DSt X E (.For tg iter body [] pos) (dFor w g t) := ⟨fun B => ps_mono (ps_for hp hc (hi.run B) (hg.run B) (hb.run B) hs) fun Z σ H q => by
  obtain ⟨δ, S, W, N, R, q, xo, p1, p2, p3, p4⟩ := q
  refine ⟨δ, S, W, _, R, q, xo, fun ds δ1 S1 H1 J q1 e1 R1 it1 => ?_⟩
  refine ⟨fun i m σ H => m = ds.length - i ∧ i ≤ ds.length ∧ ∃ δ S2, Ex S1 S2 ∧ Rel X.K B δ S2 σ H ∧ wFor g t W N (ds.drop i) δ, ⟨_, rfl, Nat.zero_le _, δ1, S1, Ex.refl _, R1, q1⟩, ?_⟩
  rintro i m σ2 H2 ⟨rfl, hi, δ2, S2, e2, R2, q2⟩
  by_cases hlt : i < ds.length
  · refine .inr ⟨it1.goes i S2 H2 e2 R2.ex hlt, fun σ' H' => (fun i m σ H => m = ds.length - i ∧ i ≤ ds.length ∧ ∃ δ S2, Ex S1 S2 ∧ Rel X.K B δ S2 σ H ∧ wFor g t W N (ds.drop i) δ) (i + 1) (ds.length - (i + 1)) σ' H', fun σ' H' h => ⟨_, by omega, h⟩, fun x H3 y => ?_⟩
    obtain ⟨S3, d, g3, ed, dn⟩ := it1.yields i S2 H2 x H3 e2 R2.ex hlt y
    have hd : ds.drop i = d :: ds.drop (i + 1) := by
      obtain ⟨h1, h2⟩ := List.getElem?_eq_some_iff.mp ed
      rw [List.drop_eq_getElem_cons h1, h2]
    rw [hd] at q2
    refine ⟨δ2, S3, d, _, R2.grow g3, dn, q2, fun δ4 σ4 S4 H4 q4 e4 R4 _ _ => ?_⟩
    have e : Ex S S4 := (e1.trans e2).trans (g3.s.trans e4)
    refine ⟨δ4, S4, W, _, R4, q4, xo.mono e, fun δ5 σ5 S5 H5 q5 e5 R5 => ?_, fun x δ5 v σ5 S5 H5 q5 e5 R5 n5 => p2 _ _ _ _ _ _ q5 (e.trans e5) R5 n5, fun δ5 σ5 S5 H5 q5 e5 R5 => p1 _ _ _ _ q5 (e.trans e5) R5, fun δ5 σ5 S5 H5 q5 e5 R5 => ?_, fun xs δ5 p vs σ5 S5 H5 q5 e5 R5 hp n5 => p4.2 _ _ _ _ _ _ _ q5 (e.trans e5) R5 hp n5⟩
    · exact ⟨rfl, hlt, δ5, S5, e2.trans (g3.s.trans (e4.trans e5)), R5, q5⟩
    · exact ⟨rfl, hlt, δ5, S5, e2.trans (g3.s.trans (e4.trans e5)), R5, q5⟩
  · have e : i = ds.length := by omega
    subst e
    rw [List.drop_length] at q2
    exact .inl ⟨it1.stops S2 H2 e2 R2.ex, p1 _ _ _ _ q2 (e1.trans e2) R2⟩⟩
/-- while: an invariant with a measure -/
def dWhile (c : dT) (b : dS) : dS := fun W N δ => ∃ V : Nat → DS → Prop, (∃ m, V m δ) ∧ ∀ m δ, V m δ → c W δ fun k δ1 => match k with
  | true => b W { N with nx := fun δ' => ∃ m', m' < m ∧ V m' δ', ct := fun δ' => ∃ m', m' < m ∧ V m' δ', bk := N.nx } δ1
  | false => N.nx δ1
theorem ds_while {body : List Stmt} {tc : dT} (hp : PassesOwn (model X.prog X.w) X.A X.env X.xe) (hc : DT X E c tc) (hb : DSs X E body t) : DSt X E (.While c body [] pos) (dWhile tc t) := ⟨fun B => ps_mono (ps_while hp (hc.run B) (hb.run B)) fun Z σ H q => by
  obtain ⟨δ, S, W, N, R, ⟨V, ⟨m0, v0⟩, turn⟩, xo, p1, p2, p3, p4⟩ := q
  refine ⟨fun m σ H => ∃ δ S1, Ex S S1 ∧ Rel X.K B δ S1 σ H ∧ V m δ, ⟨m0, δ, S, Ex.refl _, R, v0⟩, ?_⟩
  rintro m σ1 H1 ⟨δ1, S1, e1, R1, v1⟩
  refine ⟨δ1, S1, W, _, R1, turn m δ1 v1, xo.mono e1, fun k δ2 S2 H2 q2 e2 R2 => ?_⟩
  cases k with
  | true =>
    have e := e1.trans e2
    refine iteT ⟨fun σ' H' => ∃ m', m' < m ∧ ∃ δ S1, Ex S S1 ∧ Rel X.K B δ S1 σ' H' ∧ V m' δ, fun σ' H' h => h, δ2, S2, W, _, R2, q2, xo.mono e, fun δ5 σ5 S5 H5 q5 e5 R5 => ?_, fun x δ5 v σ5 S5 H5 q5 e5 R5 n5 => p2 _ _ _ _ _ _ q5 (e.trans e5) R5 n5, fun δ5 σ5 S5 H5 q5 e5 R5 => p1 _ _ _ _ q5 (e.trans e5) R5, fun δ5 σ5 S5 H5 q5 e5 R5 => ?_, fun xs δ5 p vs σ5 S5 H5 q5 e5 R5 hp n5 => p4.2 _ _ _ _ _ _ _ q5 (e.trans e5) R5 hp n5⟩
    · obtain ⟨m', hm, v⟩ := q5
      exact ⟨m', hm, δ5, S5, e.trans e5, R5, v⟩
    · obtain ⟨m', hm, v⟩ := q5
      exact ⟨m', hm, δ5, S5, e.trans e5, R5, v⟩
  | false =>
    exact iteF (p1 _ _ _ _ q2 (e1.trans e2) R2)⟩
end
end Ev

namespace Ev
open PySem PySem.Spec PyProof.Rows L2
variable [TabC]
variable {K : PySem.W.Frag} {S S' H H' : Hp} {B : Bs} {δ : DS} {σ : L2.St}
section
variable {X : Cx} {E : EK} {e a b c tg : Expr} {es : List Expr} {pos : Pos} {st : Stmt} {rest : List Stmt} {da db : dE} {t u : dS}

/-! ### what is walked -/
/-- a list or a tuple -/
def iSeq (K : PySem.W.Frag) (tl : TE) : TI := fun σ H R => tl σ H fun x H1 => ∃ a, x = .ref a ∧ (((∃ xs, SqL K H1 a xs) ∧ R (Itl K a) H1) ∨ ((∃ xs, SqT K H1 a xs) ∧ R (Itt K a) H1))
theorem pi_seq {l : Expr} {tl : TE} (hl : PE X l tl) : PI X tg l (iSeq X.K tl) := by
  refine ⟨fun pins s σ H R I h => ?_⟩
  refine thn (hl.run pins s σ H _ I h) fun v s1 ⟨x, H1, I1, r1, q1⟩ => ?_
  obtain ⟨a, e, ⟨⟨xs, hq⟩, q⟩ | ⟨⟨xs, hq⟩, q⟩⟩ := q1
  · subst e
    cases r1
    obtain ⟨its, rv, p, hz⟩ := I1.list hq
    refine wpAny_pyIter_list p.isList ?_
    refine ⟨s1.heap.objs.size, [s1.heap.objs.size], _, _, H1, rfl, I1.kept (t' := s1.toks) fun b o e => Heap.get?_push_of_some _ e, turn_list a _, ⟨_, Heap.get?_push_size _ rfl, rfl, rfl⟩, fun b hb => ?_, q⟩
    have e : b = s1.heap.objs.size := by simpa using hb
    subst e
    exact I1.fpOk (Nat.le_refl _) (I1.hok.fresh (Nat.le_refl _))
  · subst e
    cases r1
    obtain ⟨its, rv, p, hz⟩ := I1.tuple hq
    refine wpAny_pyIter_tuple (show s1.heap.IsTuple a its.toArray from p) ?_
    refine ⟨s1.heap.objs.size, [s1.heap.objs.size], _, _, H1, rfl, I1.kept (t' := s1.toks) fun b o e => Heap.get?_push_of_some _ e, turn_tuple a _, ⟨_, Heap.get?_push_size _ rfl, rfl, rfl⟩, fun b hb => ?_, q⟩
    have e : b = s1.heap.objs.size := by simpa using hb
    subst e
    exact I1.fpOk (Nat.le_refl _) (I1.hok.fresh (Nat.le_refl _))
theorem it_list {a : Addr} {vs : List V} {ds : List D} (h : S a = some (.lst vs)) (n : DnA K S vs ds) : ItOk K (Itl K a) ds S := by
  have hl := n.length
  refine ⟨fun i S1 H1 e1 e2 hi => ?_, fun S1 H1 e1 e2 => ?_, fun i S1 H1 x H2 e1 e2 hi y => ?_⟩
  · exact (walk_list (xs := vs)).goes i H1 (by omega) (SqL.of (e2 _ _ (e1 _ _ h)))
  · rw [← hl]; exact walk_list.stops H1 (SqL.of (e2 _ _ (e1 _ _ h)))
  · obtain ⟨rfl, hx⟩ := (walk_list (xs := vs)).yields i H1 x H2 (by omega) (SqL.of (e2 _ _ (e1 _ _ h))) y
    obtain ⟨d, h1, h2⟩ := n.getV hx
    exact ⟨S1, d, Grow.refl e2, h1, h2.mono e1⟩
theorem it_tup {a : Addr} {vs : List V} {ds : List D} (h : S a = some (.tup vs)) (n : DnA K S vs ds) : ItOk K (Itt K a) ds S := by
  have hl := n.length
  refine ⟨fun i S1 H1 e1 e2 hi => ?_, fun S1 H1 e1 e2 => ?_, fun i S1 H1 x H2 e1 e2 hi y => ?_⟩
  · exact (walk_tup (xs := vs)).goes i H1 (by omega) (SqT.of (e2 _ _ (e1 _ _ h)))
  · rw [← hl]; exact walk_tup.stops H1 (SqT.of (e2 _ _ (e1 _ _ h)))
  · obtain ⟨rfl, hx⟩ := (walk_tup (xs := vs)).yields i H1 x H2 (by omega) (SqT.of (e2 _ _ (e1 _ _ h))) y
    obtain ⟨d, h1, h2⟩ := n.getV hx
    exact ⟨S1, d, Grow.refl e2, h1, h2.mono e1⟩
theorem it_kt {a : Addr} {vs : List V} {ds : List D} (h : KTup K a vs) (n : DnA K S vs ds) : ItOk K (Itt K a) ds S := by
  have hl := n.length
  refine ⟨fun i S1 H1 e1 e2 hi => ?_, fun S1 H1 e1 e2 => ?_, fun i S1 H1 x H2 e1 e2 hi y => ?_⟩
  · exact (walk_tup (xs := vs)).goes i H1 (by omega) h.sqT
  · rw [← hl]; exact walk_tup.stops H1 h.sqT
  · obtain ⟨rfl, hx⟩ := (walk_tup (xs := vs)).yields i H1 x H2 (by omega) h.sqT y
    obtain ⟨d, h1, h2⟩ := n.getV hx
    exact ⟨S1, d, Grow.refl e2, h1, h2.mono e1⟩
def dSeqI (d : dE) : dI := fun W δ Q => d W δ fun x δ' => match x with | .lst ds => Q ds δ' | .tup ds => Q ds δ' | .kt ds => Q ds δ' | _ => False
theorem di_seq (h : DE X E e da) : DI X E tg e (dSeqI da) := ⟨fun B => pi_mono (pi_seq (h.run B)) fun σ H Rr q => by
  obtain ⟨δ, S, W, Q', R, q, xo, post⟩ := q
  refine ⟨δ, S, W, _, R, q, xo, fun x δ1 v S1 H1 q1 e1 R1 n1 => ?_⟩
  cases x with
  | lst ds =>
    cases n1 with
    | lst hs ha => exact ⟨_, rfl, .inl ⟨⟨_, SqL.of (R1.ex _ _ hs)⟩, post _ _ _ _ _ q1 e1 R1 (it_list hs ha)⟩⟩
  | tup ds =>
    cases n1 with
    | tup hs ha => exact ⟨_, rfl, .inr ⟨⟨_, SqT.of (R1.ex _ _ hs)⟩, post _ _ _ _ _ q1 e1 R1 (it_tup hs ha)⟩⟩
  | kt ds =>
    cases n1 with
    | kt hs ha => exact ⟨_, rfl, .inr ⟨⟨_, hs.sqT⟩, post _ _ _ _ _ q1 e1 R1 (it_kt hs ha)⟩⟩
  | _ => exact q1.elim⟩
def intsFrom (lo : Int) (n : Nat) : List D := (List.range n).map fun i => .int (lo + (i : Nat))
theorem it_range {lo : Int} {n : Nat} : ItOk K (Itr lo n) (intsFrom lo n) S := by
  have hl : (intsFrom lo n).length = n := by simp [intsFrom]
  refine ⟨fun i S1 H1 e1 e2 hi => ?_, fun S1 H1 e1 e2 => ?_, fun i S1 H1 x H2 e1 e2 hi y => ?_⟩
  · rw [hl] at hi; exact hi
  · rw [hl]; exact Nat.le_refl _
  · obtain ⟨rfl, rfl⟩ := y
    rw [hl] at hi
    exact ⟨S1, .int (lo + (i : Nat)), Grow.refl e2, by simp [intsFrom, hi], .int _⟩
def dRng1 (d : dA) : dI := fun W δ Q => d W δ fun xs δ' => match xs with | [.int j] => -(2 ^ 62) ≤ j ∧ j < 2 ^ 62 ∧ Q (intsFrom 0 j.toNat) δ' | _ => False
def dRng2 (d : dA) : dI := fun W δ Q => d W δ fun xs δ' => match xs with | [.int i, .int j] => (-(2 ^ 62) ≤ i ∧ i < 2 ^ 62 ∧ -(2 ^ 62) ≤ j ∧ j < 2 ^ 62) ∧ Q (intsFrom i (j - i).toNat) δ' | _ => False
theorem DnA.int1 {vs : List V} {i : Int} (h : DnA K S vs [.int i]) : vs = [.int i] := by
  cases h with | cons h1 h2 => cases h1; cases h2; rfl
theorem di_range1 {p : Pos} {d : dA} (hg : Gl X "range") (hm : X.mg "range" = none) (ha : DA X E [a] d) (hs : starEach [a] X.env = [(false, eval a X.env)] := by rfl) : DI X E tg (.Call (.Name "range" p) [a] [] pos) (dRng1 d) := ⟨fun B => pi_mono (pi_range1 hg hm (ha.run B) hs) fun σ H Rr q => by
  obtain ⟨δ, S, W, Q', R, q, xo, post⟩ := q
  refine ⟨δ, S, W, _, R, q, xo, fun xs δ1 vs S1 H1 q1 e1 R1 n1 => ?_⟩
  match xs, q1, n1 with
  | [.int j], ⟨q1, q2, q3⟩, n1 => exact ⟨j, n1.int1, q1, q2, post _ _ _ _ _ q3 e1 R1 it_range⟩⟩
theorem di_range2 {p : Pos} {d : dA} (hg : Gl X "range") (hm : X.mg "range" = none) (ha : DA X E [a, b] d) (hs : starEach [a, b] X.env = [(false, eval a X.env), (false, eval b X.env)] := by rfl) (hs2 : starEach [b] X.env = [(false, eval b X.env)] := by rfl) : DI X E tg (.Call (.Name "range" p) [a, b] [] pos) (dRng2 d) := ⟨fun B => pi_mono (pi_range2 hg hm (ha.run B) hs hs2) fun σ H Rr q => by
  obtain ⟨δ, S, W, Q', R, q, xo, post⟩ := q
  refine ⟨δ, S, W, _, R, q, xo, fun xs δ1 vs S1 H1 q1 e1 R1 n1 => ?_⟩
  match xs, q1, n1 with
  | [.int i, .int j], ⟨q1, q3⟩, n1 =>
    cases n1 with
    | cons h1 h2 => cases h1; exact ⟨i, j, by rw [h2.int1], q1, post _ _ _ _ _ q3 e1 R1 it_range⟩⟩

/-! ### comprehensions -/
def wipeD (δ : DS) : List Nat → DS
  | [] => δ
  | v :: vs => setSl (wipeD δ vs) v .un
theorem wipeD_len (δ : DS) : ∀ vs, (wipeD δ vs).sl.length = δ.sl.length
  | [] => rfl
  | v :: vs => by simp [wipeD, setSl, wipeD_len δ vs]
theorem wipeD_pen (δ : DS) : ∀ vs, (wipeD δ vs).pen = δ.pen
  | [] => rfl
  | v :: vs => by simp [wipeD, setSl, wipeD_pen δ vs]
theorem Rel.wipe (R : Rel K B δ S σ H) : ∀ vs, Rel K B (wipeD δ vs) S (L2.wipe σ vs) H
  | [] => R
  | v :: vs => (R.wipe vs).forget
theorem wipeD_un (δ : DS) : ∀ {vs : List Nat} {i : Nat}, i ∈ vs → i < δ.sl.length → (wipeD δ vs).sl[i]? = some .un
  | v :: vs, i, h, hl => by
    by_cases e : v = i
    · subst e
      show ((wipeD δ vs).sl.set v Sl.un)[v]? = _
      rw [List.getElem?_set_self (by rw [wipeD_len]; exact hl)]
    · show ((wipeD δ vs).sl.set v Sl.un)[i]? = _
      rw [List.getElem?_set_ne e]
      exact wipeD_un δ ((List.mem_cons.mp h).resolve_left (Ne.symm e)) hl
theorem wipe_in {σ : L2.St} : ∀ {vs : List Nat} {i : Nat}, i ∈ vs → (L2.wipe σ vs)[i]? = (σ[i]?).map fun _ => none
  | v :: vs, i, h => by
    by_cases e : v = i
    · subst e
      show ((L2.wipe σ vs).set v none)[v]? = _
      by_cases hl : v < σ.length
      · rw [List.getElem?_set_self (by rw [wipe_length]; exact hl), List.getElem?_eq_getElem hl]; rfl
      · rw [List.getElem?_eq_none (by rw [List.length_set, wipe_length]; omega), List.getElem?_eq_none (by omega)]; rfl
    · show ((L2.wipe σ vs).set v none)[i]? = _
      rw [List.getElem?_set_ne e]
      exact wipe_in ((List.mem_cons.mp h).resolve_left (Ne.symm e))
theorem wipe_notin {σ : L2.St} : ∀ {vs : List Nat} {i : Nat}, i ∉ vs → (L2.wipe σ vs)[i]? = σ[i]?
  | [], _, _ => rfl
  | v :: vs, i, h => by
    have h1 : v ≠ i := fun e => h (by simp [e])
    show ((L2.wipe σ vs).set v none)[i]? = _
    rw [List.getElem?_set_ne h1]
    exact wipe_notin fun z => h (by simp [z])
theorem wipe_agree {σ σ' : L2.St} {vs ws : List Nat} (hl : σ'.length = σ.length) (h : ∀ i, i ∉ ws → σ'[i]? = σ[i]?) (hs : ∀ i ∈ ws, i ∈ vs) : L2.wipe σ' vs = L2.wipe σ vs := by
  apply List.ext_getElem?
  intro i
  by_cases hi : i ∈ vs
  · rw [wipe_in hi, wipe_in hi]
    by_cases hj : i < σ.length
    · rw [List.getElem?_eq_getElem hj, List.getElem?_eq_getElem (by omega)]; rfl
    · rw [List.getElem?_eq_none (by omega), List.getElem?_eq_none (by omega)]
  · rw [wipe_notin hi, wipe_notin hi]
    exact h i fun z => hi (hs i z)
/-- behind a block: its own slots are forgotten, the others stand -/
theorem Rel.unwipe {vs : List Nat} {σ2 : L2.St} (R : Rel K B δ S σ2 H) (h : L2.wipe σ2 vs = L2.wipe σ vs) (hl : σ2.length = σ.length) : Rel K B (wipeD δ vs) S σ H := by
  refine (R.wipe vs).agree (by rw [wipe_length]; exact hl.symm) fun i => ?_
  by_cases hi : i ∈ vs
  · by_cases hj : i < δ.sl.length
    · exact .inr (wipeD_un δ hi hj)
    · left
      have e1 : σ.length ≤ i := by rw [← hl, R.len]; omega
      rw [List.getElem?_eq_none e1, List.getElem?_eq_none (by rw [wipe_length, hl]; exact e1)]
  · left
    rw [h, wipe_notin hi]
/-- an object beside: B with it -/
def Bs.with (B : Bs) (L : Addr) (o : HO) : Bs := { B with H0 := upd B.H0 L o }
theorem Rel.pen_there (R : Rel K B δ S σ H) {L : Addr} (hL : H L = none) : ∀ a c, δ.pen = some (a, c) → a ≠ L := fun a c e z => by
  subst z
  exact R.pen_new hL c e
theorem PaOk.with_ {B : Bs} {p : Pen} (h : PaOk B p) {L : Addr} {o : HO} (hL : ∀ a c, p = some (a, c) → a ≠ L) : PaOk (B.with L o) p := by
  unfold PaOk at h ⊢
  by_cases q : B.pd = true ∧ B.pa ≠ none
  · rw [if_pos q] at h
    rw [if_pos (show (B.with L o).pd = true ∧ (B.with L o).pa ≠ none from q)]; exact h
  · rw [if_neg q] at h
    rw [if_neg (show ¬((B.with L o).pd = true ∧ (B.with L o).pa ≠ none) from q)]
    intro a c e
    refine ⟨?_, (h a c e).2⟩
    show upd B.H0 L o a = none
    rw [upd_ne (hL a c e)]; exact (h a c e).1
theorem PaOk.un {B : Bs} {p : Pen} {L : Addr} {o : HO} (h : PaOk (B.with L o) p) (hB : B.H0 L = none) : PaOk B p := by
  unfold PaOk at h ⊢
  by_cases q : B.pd = true ∧ B.pa ≠ none
  · rw [if_pos (show (B.with L o).pd = true ∧ (B.with L o).pa ≠ none from q)] at h
    rw [if_pos q]; exact h
  · rw [if_neg (show ¬((B.with L o).pd = true ∧ (B.with L o).pa ≠ none) from q)] at h
    rw [if_neg q]
    intro a c e
    refine ⟨?_, (h a c e).2⟩
    have e1 : upd B.H0 L o a = none := (h a c e).1
    by_cases z : a = L
    · subst z; exact hB
    · rw [upd_ne z] at e1; exact e1
theorem Rel.with_ (R : Rel K B δ S σ H) {L : Addr} {o : HO} (hL : H L = none) (ho : ∀ vs, o ≠ .tup vs) (pl : HO.plain o = true := by rfl) : Rel K (B.with L o) δ S σ (upd H L o) := by
  obtain ⟨f1, f2⟩ := R.fr.fresh hL
  have sL : S L = none := R.ex.none hL
  have g : Grow S H S (upd H L o) := ⟨Ex.refl _, Ext.of (Ex.new hL), R.ex.one hL ho, fun _ _ _ n => n⟩
  have R' := R.grow g
  obtain ⟨ow, h1, h2, h3, h4⟩ := R'.sl
  obtain ⟨ow0, a1, a2, a3, a4⟩ := R.sl
  have tr : ∀ i x, δ.sl[i]? = some x → SlOk K (B.with L o) S (upd H L o) (ow0 i) σ[i]? x := fun i x e => by
    have q := a1 i x e
    have q4 := a4 i
    cases x with
    | un => exact q
    | law ns => exact q
    | dat d => exact q
    | own ds =>
      obtain ⟨a, vs, p1, n1, n2, p2, p3, p4⟩ := q
      have ne : a ≠ L := fun z => by rw [z, hL] at p3; cases p3
      exact ⟨a, vs, p1, by show upd B.H0 L o a = none; rw [upd_ne ne]; exact n1, n2, p2, by rw [upd_ne ne]; exact p3, p4⟩
    | hp ds =>
      obtain ⟨a, vs, p1, n2, p2, p3, p4⟩ := q
      have ne : a ≠ L := fun z => by rw [z, hL] at p3; cases p3
      exact ⟨a, vs, p1, n2, p2, by rw [upd_ne ne]; exact p3, p4⟩
    | ownK ds =>
      obtain ⟨a, vs, p1, n1, n2, p2, p3, p4⟩ := q
      have ne : a ≠ L := fun z => by rw [z, hL] at p3; cases p3
      exact ⟨a, vs, p1, by show upd B.H0 L o a = none; rw [upd_ne ne]; exact n1, n2, p2, by rw [upd_ne ne]; exact p3, p4⟩
    | ownT ds =>
      obtain ⟨a, vs, p1, n1, n2, p2, p3, p4⟩ := q
      have ne : a ≠ L := fun z => by rw [z, hL] at p3; cases p3
      exact ⟨a, vs, p1, by show upd B.H0 L o a = none; rw [upd_ne ne]; exact n1, n2, p2, by rw [upd_ne ne]; exact p3, p4⟩
  refine ⟨R'.ex, ⟨R'.fr.s, fun b u h hb nb => ?_, fun b ps h => ?_, fun b u h n => ?_, R'.fr.pa⟩, R'.pen, R.pa.with_ (R.pen_there hL), R.len, ow0, tr, a2, a3, fun i a e => ?_⟩
  · have h : upd B.H0 L o b = some u := h
    by_cases e : b = L
    · subst e; rw [upd_same] at h ⊢; exact h
    · rw [upd_ne e] at h; exact R'.fr.h b u h hb nb
  · have h : upd B.H0 L o b = some (.tbl ps) := h
    by_cases e : b = L
    · subst e; rw [upd_same] at h; cases h; cases pl
    · rw [upd_ne e] at h; exact R'.fr.t b ps h
  · have h : upd B.H0 L o b = some u := h
    by_cases e : b = L
    · subst e; exact sL
    · rw [upd_ne e] at h; exact R'.fr.no b u h n
  · obtain ⟨r1, r2, r3, u, r4⟩ := a4 i a e
    have ne : a ≠ L := fun z => by rw [z, hL] at r4; cases r4
    exact ⟨r1, r2.imp (fun q => by show upd B.H0 L o a = none; rw [upd_ne ne]; exact q) id, r3, u, by rw [upd_ne ne]; exact r4⟩
/-- .. and the object beside is changed -/
theorem Rel.with_upd {L : Addr} {o o' : HO} (R : Rel K (B.with L o) δ S σ H) (hB : B.H0 L = none) (hpa : B.pa ≠ some L) (sL : S L = none) (ho : ∀ vs, o' ≠ .tup vs) (pl : HO.plain o = true := by rfl) (pl2 : HO.plain o' = true := by rfl) : Rel K (B.with L o') δ S σ (upd H L o') := by
  obtain ⟨ow0, a1, a2, a3, a4⟩ := R.sl
  have Lh : ∀ a, (B.with L o).H0 a = none ∨ (B.with L o).pa = some a → a ≠ L := fun a h e => by
    subst e
    rcases h with h | h
    · have h : upd B.H0 a o a = none := h
      rw [upd_same] at h; cases h
    · exact hpa h
  refine ⟨⟨fun a u h => ?_, fun b vs h => by
    by_cases q : b = L
    · subst q; rw [upd_same] at h; exact absurd (Option.some.inj h) (ho vs)
    · rw [upd_ne q] at h; exact R.ex.tp b vs h, R.ex.tb.at_ L (fun b u n h => by rw [upd_ne n]; exact h) (fun u z => by
      rw [R.fr.pl (b := L) upd_same hpa pl] at z; cases z; exact pl) fun _ _ z => z⟩, ⟨R.fr.s, fun b u h hb nb => ?_, fun b ps h => ?_, fun b u h n => ?_, fun a e => ?_⟩, ?_, (R.pa.un hB).with_ fun a c e z => R.pen_ne (p := L) hpa ⟨_, upd_same⟩ c (by rw [e, z]), R.len, ow0, fun i x e => ?_, a2, a3, fun i a e => ?_⟩
  · have ne : a ≠ L := fun e => by rw [e, sL] at h; cases h
    rw [upd_ne ne]; exact R.ex a u h
  · have h : upd B.H0 L o' b = some u := h
    by_cases e : b = L
    · subst e; rw [upd_same] at h ⊢; exact h
    · rw [upd_ne e] at h ⊢
      exact R.fr.h b u (show upd B.H0 L o b = some u by rw [upd_ne e]; exact h) hb nb
  · have h : upd B.H0 L o' b = some (.tbl ps) := h
    by_cases e : b = L
    · subst e; rw [upd_same] at h; cases h; cases pl2
    · rw [upd_ne e] at h
      obtain ⟨qs, z⟩ := R.fr.t b ps (show upd B.H0 L o b = _ by rw [upd_ne e]; exact h)
      exact ⟨qs, by rw [upd_ne e]; exact z⟩
  · have h : upd B.H0 L o' b = some u := h
    by_cases e : b = L
    · subst e; exact sL
    · rw [upd_ne e] at h
      exact R.fr.no b u (show upd B.H0 L o b = some u by rw [upd_ne e]; exact h) n
  · obtain ⟨u, q⟩ := R.fr.pa a e
    have ne : a ≠ L := fun z => by subst z; exact hpa e
    exact ⟨u, by rw [upd_ne ne]; exact q⟩
  · have hp := R.pen
    cases hpe : δ.pen with
    | none => trivial
    | some ac =>
      obtain ⟨a, c⟩ := ac
      rw [hpe] at hp
      have ne : a ≠ L := fun z => R.pen_ne (p := L) hpa ⟨_, upd_same⟩ c (by rw [hpe, z])
      obtain ⟨n, ca, ns, k, m, r1, r2, r3⟩ := hp
      exact ⟨n, ca, ns, k, m, by rw [upd_ne ne]; exact r1, r2, r3⟩
  · have q := a1 i x e
    cases x with
    | un => exact q
    | law ns => exact q
    | dat d => exact q
    | own ds =>
      obtain ⟨a, vs, p1, n1, n2, p2, p3, p4⟩ := q
      have ne := Lh a (.inl n1)
      have n1 : upd B.H0 L o a = none := n1
      rw [upd_ne ne] at n1
      exact ⟨a, vs, p1, by show upd B.H0 L o' a = none; rw [upd_ne ne]; exact n1, n2, p2, by rw [upd_ne ne]; exact p3, p4⟩
    | hp ds =>
      obtain ⟨a, vs, p1, n2, p2, p3, p4⟩ := q
      exact ⟨a, vs, p1, n2, p2, by rw [upd_ne (Lh a (.inr n2))]; exact p3, p4⟩
    | ownK ds =>
      obtain ⟨a, vs, p1, n1, n2, p2, p3, p4⟩ := q
      have ne := Lh a (.inl n1)
      have n1 : upd B.H0 L o a = none := n1
      rw [upd_ne ne] at n1
      exact ⟨a, vs, p1, by show upd B.H0 L o' a = none; rw [upd_ne ne]; exact n1, n2, p2, by rw [upd_ne ne]; exact p3, p4⟩
    | ownT ds =>
      obtain ⟨a, vs, p1, n1, n2, p2, p3, p4⟩ := q
      have ne := Lh a (.inl n1)
      have n1 : upd B.H0 L o a = none := n1
      rw [upd_ne ne] at n1
      exact ⟨a, vs, p1, by show upd B.H0 L o' a = none; rw [upd_ne ne]; exact n1, n2, p2, by rw [upd_ne ne]; exact p3, p4⟩
  · obtain ⟨r1, r2, r3, u, r4⟩ := a4 i a e
    have ne := Lh a r2
    refine ⟨r1, r2.imp (fun q => ?_) id, r3, u, by rw [upd_ne ne]; exact r4⟩
    have q : upd B.H0 L o a = none := q
    rw [upd_ne ne] at q
    show upd B.H0 L o' a = none
    rw [upd_ne ne]; exact q
def hide (H : Hp) (L : Addr) : Hp := fun b => if b = L then none else H b
theorem hide_same {H : Hp} {L : Addr} : hide H L L = none := if_pos rfl
/-- .. and taken as fresh again -/
theorem Rel.unwith {L : Addr} {o : HO} (R : Rel K (B.with L o) δ S σ H) (hB : B.H0 L = none) (hpa : B.pa ≠ some L) (sL : S L = none) (pl : HO.plain o = true := by rfl) : Rel K B δ S σ (hide H L) ∧ H L = some o ∧ H = upd (hide H L) L o := by
  have hL : H L = some o := R.fr.pl (b := L) upd_same hpa pl
  have er : ∀ a, a ≠ L → hide H L a = H a := fun a ne => if_neg ne
  obtain ⟨ow0, a1, a2, a3, a4⟩ := R.sl
  have Lh : ∀ a, (B.with L o).H0 a = none ∨ (B.with L o).pa = some a → a ≠ L := fun a h e => by
    subst e
    rcases h with h | h
    · have h : upd B.H0 a o a = none := h
      rw [upd_same] at h; cases h
    · exact hpa h
  refine ⟨⟨⟨fun a u h => ?_, fun b vs h => by
    by_cases q : b = L
    · rw [q, hide_same] at h; cases h
    · rw [er b q] at h; exact R.ex.tp b vs h, R.ex.tb.at_ L (fun b u n h => by rw [er b n]; exact h) (fun u z => by rw [hL] at z; cases z; exact pl) fun _ _ z => z⟩, ⟨R.fr.s, fun b u h hb nb => ?_, fun b ps h => ?_, fun b u h n => ?_, fun a e => ?_⟩, ?_, R.pa.un hB, R.len, ow0, fun i x e => ?_, a2, a3, fun i a e => ?_⟩, hL, ?_⟩
  · have ne : a ≠ L := fun e => by rw [e, sL] at h; cases h
    rw [er a ne]; exact R.ex a u h
  · have ne : b ≠ L := fun e => by rw [e, hB] at h; cases h
    rw [er b ne]
    exact R.fr.h b u (show upd B.H0 L o b = some u by rw [upd_ne ne]; exact h) hb nb
  · have ne : b ≠ L := fun e => by rw [e, hB] at h; cases h
    rw [er b ne]
    exact R.fr.t b ps (show upd B.H0 L o b = some (.tbl ps) by rw [upd_ne ne]; exact h)
  · have ne : b ≠ L := fun e => by rw [e, hB] at h; cases h
    exact R.fr.no b u (show upd B.H0 L o b = some u by rw [upd_ne ne]; exact h) n
  · obtain ⟨u, q⟩ := R.fr.pa a e
    have ne : a ≠ L := fun z => by subst z; exact hpa e
    exact ⟨u, by rw [er a ne]; exact q⟩
  · have hp := R.pen
    cases hpe : δ.pen with
    | none => trivial
    | some ac =>
      obtain ⟨a, c⟩ := ac
      rw [hpe] at hp
      have ne : a ≠ L := fun z => R.pen_ne (p := L) hpa ⟨_, upd_same⟩ c (by rw [hpe, z])
      obtain ⟨n, ca, ns, k, m, r1, r2, r3⟩ := hp
      exact ⟨n, ca, ns, k, m, by rw [er a ne]; exact r1, r2, r3⟩
  · have q := a1 i x e
    cases x with
    | un => exact q
    | law ns => exact q
    | dat d => exact q
    | own ds =>
      obtain ⟨a, vs, p1, n1, n2, p2, p3, p4⟩ := q
      have ne := Lh a (.inl n1)
      have n1 : upd B.H0 L o a = none := n1
      rw [upd_ne ne] at n1
      exact ⟨a, vs, p1, n1, n2, p2, by rw [er a ne]; exact p3, p4⟩
    | hp ds =>
      obtain ⟨a, vs, p1, n2, p2, p3, p4⟩ := q
      exact ⟨a, vs, p1, n2, p2, by rw [er a (Lh a (.inr n2))]; exact p3, p4⟩
    | ownK ds =>
      obtain ⟨a, vs, p1, n1, n2, p2, p3, p4⟩ := q
      have ne := Lh a (.inl n1)
      have n1 : upd B.H0 L o a = none := n1
      rw [upd_ne ne] at n1
      exact ⟨a, vs, p1, n1, n2, p2, by rw [er a ne]; exact p3, p4⟩
    | ownT ds =>
      obtain ⟨a, vs, p1, n1, n2, p2, p3, p4⟩ := q
      have ne := Lh a (.inl n1)
      have n1 : upd B.H0 L o a = none := n1
      rw [upd_ne ne] at n1
      exact ⟨a, vs, p1, n1, n2, p2, by rw [er a ne]; exact p3, p4⟩
  · obtain ⟨r1, r2, r3, u, r4⟩ := a4 i a e
    have ne := Lh a r2
    refine ⟨r1, r2.imp (fun q => ?_) id, r3, u, by rw [er a ne]; exact r4⟩
    have q : upd B.H0 L o a = none := q
    rw [upd_ne ne] at q
    exact q
  · funext b
    by_cases e : b = L
    · subst e; rw [upd_same]; exact hL
    · rw [upd_ne e]; exact (er b e).symm
end
end Ev

namespace Ev
open PySem PySem.Spec PyProof.Rows L2
variable [TabC]
variable {K : PySem.W.Frag} {S S' H H' : Hp} {B : Bs} {δ : DS} {σ : L2.St}
section
variable {X : Cx} {E E2 : EK} {e a b c tg : Expr} {es : List Expr} {pos : Pos} {st : Stmt} {rest : List Stmt} {da db : dE} {t u : dS}
def W0 : XW := fun _ _ => False
structure DTs (X : Cx) (E : EK) (ifs : List Expr) (d : dT) : Prop where
  run : ∀ B, PTs X ifs (liftT X.K B E d)
theorem pts_mono {ifs : List Expr} {t t' : TT} (h : PTs X ifs t) (m : ∀ σ H Q, t' σ H Q → t σ H Q) : PTs X ifs t' := ⟨fun pins s σ H Q I q => h.run pins s σ H Q I (m _ _ _ q)⟩
def dYes : dT := fun _ δ Q => Q true δ
theorem dts_nil : DTs X E [] dYes := ⟨fun B => pts_mono pts_nil fun σ H Q q => by
  obtain ⟨δ, S, W, Q', R, q, xo, post⟩ := q
  exact post _ _ _ _ q (Ex.refl _) R⟩
theorem dts_one {d : dT} (h : DT X E c d) : DTs X E [c] d := ⟨fun B => pts_one (h.run B)⟩
def wLC (g : dG) (tt : dT) (te : dE) (vs : List Nat) (Q : List D → DS → Prop) : List D → List D → DS → Prop
  | [], acc, δ => Q acc δ
  | d :: ds, acc, δ => g d δ fun δ1 => tt W0 δ1 fun k δ2 => match k with
    | true => te W0 δ2 fun y δ3 => acc.length < sizeLine ∧ wLC g tt te vs Q ds (acc ++ [y]) (wipeD δ3 vs)
    | false => wLC g tt te vs Q ds acc (wipeD δ2 vs)
def dLC (w : dI) (g : dG) (tt : dT) (te : dE) (vs : List Nat) : dF := fun W δ Q => w W δ fun ds δ1 => wLC g tt te vs Q ds [] (wipeD δ1 vs)
def exG (K : PySem.W.Frag) (g : dG) (ws : List Nat) : TG := fun v σ H Q => ∃ B, liftG K B g ws v σ H Q
def exT (K : PySem.W.Frag) (E : EK) (d : dT) : TT := fun σ H Q => ∃ B, liftT K B E d σ H Q
def exE (K : PySem.W.Frag) (E : EK) (d : dE) : TE := fun σ H Q => ∃ B, liftE K B E d σ H Q
theorem exG_ok {g : dG} {ws : List Nat} (h : DG X tg g ws) : PG X tg (exG X.K g ws) := ⟨fun pins s σ H v u Q I r ⟨B, q⟩ => (h.run B).run pins s σ H v u Q I r q⟩
theorem exT_ok {ifs : List Expr} {d : dT} (h : DTs X E ifs d) : PTs X ifs (exT X.K E d) := ⟨fun pins s σ H Q I ⟨B, q⟩ => (h.run B).run pins s σ H Q I q⟩
theorem exE_ok {d : dE} (h : DE X E e d) : PE X e (exE X.K E d) := ⟨fun pins s σ H Q I ⟨B, q⟩ => (h.run B).run pins s σ H Q I q⟩
theorem xok0 : XOk K B E W0 S := fun _ _ _ _ _ _ _ h => h.elim
theorem wiped_len {δ : DS} {vs : List Nat} : True := trivial
theorem lc_read {w : dI} {g : dG} {tt : dT} {te : dE} {vs ws : List Nat} {W : XW} {Qd : List D → DS → Prop} {δ : DS} {Q : VK} (hws : ∀ i ∈ ws, i ∈ vs) (R : Rel K B δ S σ H) (q : dLC w g tt te vs W δ Qd) (xo : XOk K B E W S)
    (post : ∀ xs δ' p vs' S' H', Qd xs δ' → Ex S S' → Rel K B δ' S' σ H' → H' p = none → DnA K S' vs' xs → Q (.ref p) (upd H' p (.lst vs'))) : tLc (liftI K B E w) (exG K g ws) (exT K E2 tt) (exE K E2 te) vs σ H Q := by
  refine ⟨δ, S, W, _, R, q, xo, fun ds δ1 S1 H1 J q1 e1 R1 it1 => ?_⟩
  intro L hL
  obtain ⟨f1, f2⟩ := R1.fr.fresh hL
  have s1L : S1 L = none := R1.ex.none hL
  have Ln : ∀ {δ S2 σ2 H2 o}, Rel K (B.with L o) δ S2 σ2 H2 → S2 L = none := fun {δ S2 σ2 H2 o} R2 => R2.fr.no L o upd_same (R1.fr.s.none s1L)
  let Inv : Nat → Hp → Prop := fun i H2 => ∃ δ2 S2 acc vacc, Ex S1 S2 ∧ Rel K (B.with L (.lst vacc)) δ2 S2 (L2.wipe σ vs) H2 ∧ DnA K S2 vacc acc ∧ wLC g tt te vs Qd (ds.drop i) acc δ2 ∧ (∀ j ∈ vs, j < δ2.sl.length → δ2.sl[j]? = some .un)
  refine ⟨fun i m H2 => m = ds.length - i ∧ i ≤ ds.length ∧ Inv i H2, ⟨_, rfl, Nat.zero_le _, ?_⟩, ?_⟩
  · refine ⟨wipeD δ1 vs, S1, [], [], Ex.refl _, (R1.with_ hL (fun vs z => HO.noConfusion z)).wipe vs, .nil, q1, fun j hj hl => wipeD_un δ1 hj (by rw [wipeD_len] at hl; exact hl)⟩
  · rintro i m H2 ⟨rfl, hi, δ2, S2, acc, vacc, e2, R2, nacc, q2, hun⟩
    by_cases hlt : i < ds.length
    · refine .inr ⟨it1.goes i S2 H2 e2 R2.ex hlt, fun H' => i + 1 ≤ ds.length ∧ Inv (i + 1) H', fun H' h => ⟨ds.length - (i + 1), by omega, rfl, h⟩, fun x H3 y => ?_⟩
      obtain ⟨S3, d, g3, ed, dn⟩ := it1.yields i S2 H2 x H3 e2 R2.ex hlt y
      have hd : ds.drop i = d :: ds.drop (i + 1) := by
        obtain ⟨h1, h2⟩ := List.getElem?_eq_some_iff.mp ed
        rw [List.drop_eq_getElem_cons h1, h2]
      rw [hd] at q2
      refine ⟨B.with L (.lst vacc), δ2, S3, d, _, R2.grow g3, dn, q2, fun δ4 σ4 S4 H4 q4 e4 R4 a4 l4 => ?_⟩
      have hw : L2.wipe σ4 vs = L2.wipe σ vs := wipe_agree (l4.trans (wipe_length σ vs)) (fun j hj => by rw [a4 j (fun z => hj (hws j z)), wipe_notin hj]) (fun _ h => h)
      refine ⟨hw, B.with L (.lst vacc), δ4, S4, W0, _, R4, q4, xok0, fun k δ5 S5 H5 q5 e5 R5 => ?_⟩
      cases k with
      | true =>
        refine iteT ⟨B.with L (.lst vacc), δ5, S5, W0, _, R5, q5, xok0, fun y δ6 v S6 H6 q6 e6 R6 n6 => ?_⟩
        have l6 := Ln R6
        refine ⟨vacc, R6.fr.pl upd_same f2, ?_, hlt, wipeD δ6 vs, S6, acc ++ [y], vacc ++ [v], ?_, ?_, ?_, q6.2, fun j hj hl => wipeD_un δ6 hj (by rw [wipeD_len] at hl; exact hl)⟩
        · rw [nacc.length]; exact q6.1
        · exact e2.trans (g3.s.trans (e4.trans (e5.trans e6)))
        · have := (R6.with_upd (o' := .lst (vacc ++ [v])) f1 f2 l6 (fun vs z => HO.noConfusion z)).wipe vs
          rw [hw] at this
          exact this
        · exact (nacc.mono (g3.s.trans (e4.trans (e5.trans e6)))).append (.cons n6 .nil)
      | false =>
        refine iteF ⟨hlt, wipeD δ5 vs, S5, acc, vacc, e2.trans (g3.s.trans (e4.trans e5)), ?_, nacc.mono (g3.s.trans (e4.trans e5)), q5, fun j hj hl => wipeD_un δ5 hj (by rw [wipeD_len] at hl; exact hl)⟩
        have := R5.wipe vs
        rw [hw] at this
        exact this
    · have e : i = ds.length := by omega
      subst e
      rw [List.drop_length] at q2
      refine .inl ⟨it1.stops S2 H2 e2 R2.ex, ?_⟩
      have l2 := Ln R2
      obtain ⟨R3, _, eH⟩ := R2.unwith f1 f2 l2
      rw [eH]
      have hl : σ.length = (L2.wipe σ vs).length := (wipe_length σ vs).symm
      refine post acc δ2 L vacc S2 _ q2 (e1.trans e2) (R3.agree hl fun j => ?_) hide_same nacc
      by_cases hj : j ∈ vs
      · by_cases hk : j < δ2.sl.length
        · exact .inr (hun j hj hk)
        · left
          have h1 : σ.length ≤ j := by rw [hl, R3.len]; omega
          rw [List.getElem?_eq_none h1, List.getElem?_eq_none (by rw [wipe_length]; exact h1)]
      · exact .inl (wipe_notin hj).symm
/-- [elt for target in iter if ..] -/
theorem df_lc {elt iter : Expr} {ifs : List Expr} {scope : Scope} {own : List (Str × Nat)} {w : dI} {g : dG} {tt : dT} {te : dE} {ws : List Nat} (hc : X.calm = true) (hN : X.N.Nodup) (hi : DI X E tg iter w) (ok : BlkOk X.N X.env.scope scope own) (hws : ∀ i ∈ ws, i ∈ own.map (·.2))
    (hg : ∀ (s : Shared) (H : Hp) (C : Addr) (cl : List (Str × Addr)) (fp : List Addr), DG (X.blk s H scope (compEnvC scope cl C X.env) fp) tg g ws) (ht : ∀ (s : Shared) (H : Hp) (C : Addr) (cl : List (Str × Addr)) (fp : List Addr), DTs (X.blk s H scope (compEnvC scope cl C X.env) fp) E2 ifs tt)
    (he : ∀ (s : Shared) (H : Hp) (C : Addr) (cl : List (Str × Addr)) (fp : List Addr), DE (X.blk s H scope (compEnvC scope cl C X.env) fp) E2 elt te) (hs : ∀ x, foldedSetIterable iter X.env x = pure x := by intro _; rfl) :
    DF X E (.ListComp elt [⟨tg, iter, ifs, 0⟩] scope pos) (dLC w g tt te (own.map (·.2))) := ⟨fun B => pe_mono (pe_lc hc hN (hi.run B) ok (fun s H C cl fp => exG_ok (hg s H C cl fp)) (fun s H C cl fp => exT_ok (E := E2) (ht s H C cl fp)) (fun s H C cl fp => exE_ok (E := E2) (he s H C cl fp)) hs) fun σ H Q q => by
  obtain ⟨δ, S, W, Q', R, q, xo, post⟩ := q
  exact lc_read (E2 := E2) hws R q xo post⟩
/-- name = [..] in one line -/
theorem ds_setLc {i : Nat} {y : Str} {py spos : Pos} {elt iter : Expr} {ifs : List Expr} {scope : Scope} {own : List (Str × Nat)} {w : dI} {g : dG} {tt : dT} {te : dE} {ws : List Nat} (hc : X.calm = true) (hN : X.N.Nodup) (hy : X.N[i]? = some y) (hyl : X.env.scope.names.lookup y = some .local)
    (hsw : swapsWith (.ListComp elt [⟨tg, iter, ifs, 0⟩] scope pos) (some (.Name y py)) spos.line X.env = pure true) (hi : DI X E tg iter w) (ok : BlkOk X.N X.env.scope scope own) (hws : ∀ i ∈ ws, i ∈ own.map (·.2))
    (hg : ∀ (s : Shared) (H : Hp) (C : Addr) (cl : List (Str × Addr)) (fp : List Addr), DG (X.blk s H scope (compEnvC scope cl C X.env) fp) tg g ws) (ht : ∀ (s : Shared) (H : Hp) (C : Addr) (cl : List (Str × Addr)) (fp : List Addr), DTs (X.blk s H scope (compEnvC scope cl C X.env) fp) E2 ifs tt)
    (he : ∀ (s : Shared) (H : Hp) (C : Addr) (cl : List (Str × Addr)) (fp : List Addr), DE (X.blk s H scope (compEnvC scope cl C X.env) fp) E2 elt te) (hs : ∀ x, foldedSetIterable iter X.env x = pure x := by intro _; rfl) :
    DSt X E (.Assign [.Name y py] (.ListComp elt [⟨tg, iter, ifs, 0⟩] scope pos) spos) (dSetF i (dLC w g tt te (own.map (·.2)))) := ⟨fun B => ps_mono (ps_setLc hc hN hy hyl hsw (hi.run B) ok (fun s H C cl fp => exG_ok (hg s H C cl fp)) (fun s H C cl fp => exT_ok (E := E2) (ht s H C cl fp)) (fun s H C cl fp => exE_ok (E := E2) (he s H C cl fp)) hs) fun Z σ H q => by
  obtain ⟨δ, S, W, N, R, q, xo, p1, _⟩ := q
  exact lc_read (E2 := E2) hws R q xo fun xs δ' p vs' S' H' q1 e1 R1 hp n1 => p1 _ _ _ _ q1 e1 (R1.setOwn hp n1)⟩
end
end Ev

/-! # Promises that also know that no repr is under way (A.guards = some []) -/
namespace Ev
open PySem PySem.Spec PyProof.Rows L2
variable [TabC]
/-- a promise of a def, wherever no repr is under way -/
structure FnG (P : Program) (w : World) (K : PySem.W.Frag) (mg : Str → Option Value) (base : Heap) (CX : CXT) (k : Nat) (f : Addr) (fd : FuncData) (ps : List Str) (sp : Sp) : Prop where
  len : ∀ vs H Q E, sp vs H Q E → vs.length = ps.length
  run : ∀ (A : Around) (out : List Env) (s : Shared) (H : Hp) (ar : Args) (us : List Value) (vs : List V) (Q : VK) (E : XK), A.guards = some [] → Room k A → Env0 P w K mg base A out s H →
    BindsTo s fd ar (ps.zip us) → Vals vs us → sp vs H Q E → codeAny (model P w) A (.call (.ref f) ar) (CR CX out P w H s Q E) s
theorem FnG.mono {P : Program} {w : World} {K : PySem.W.Frag} {mg : Str → Option Value} {base : Heap} {CX : CXT} {j k : Nat} {f : Addr} {fd : FuncData} {ps : List Str} {sp : Sp} (F : FnG P w K mg base CX j f fd ps sp) (h : j ≤ k) : FnG P w K mg base CX k f fd ps sp :=
  ⟨F.len, fun A out s H ar us vs Q E g r => F.run A out s H ar us vs Q E g (r.mono h)⟩
theorem FnG.imp {P : Program} {w : World} {K : PySem.W.Frag} {mg : Str → Option Value} {base : Heap} {CX : CXT} {k : Nat} {f : Addr} {fd : FuncData} {ps : List Str} {sp sp' : Sp} (F : FnG P w K mg base CX k f fd ps sp)
    (h : ∀ vs H Q E, sp' vs H Q E → sp vs H Q E) : FnG P w K mg base CX k f fd ps sp' :=
  ⟨fun vs H Q E q => F.len vs H Q E (h _ _ _ _ q), fun A out s H ar us vs Q E g r e b v q => F.run A out s H ar us vs Q E g r e b v (h _ _ _ _ q)⟩
section
variable {X : Cx} {CX : CXT} {k : Nat} {f : Addr} {fd : FuncData} {ps : List Str} {sp : Sp} {E : L2.St → XK}
/-- a callee runs, its arguments bound somehow -/
theorem run_g {pins : List (Addr × Obj)} {σ : L2.St} {H : Hp} {s : Shared} {Q : VK} {ar : Args} {us : List Value} {vs : List V} (F : FnG X.prog X.w X.K X.mg X.base CX k f fd ps sp) (hg : X.A.guards = some []) (hr : Room k X.A)
    (hx : PassesAt CX X σ (E σ)) (I : Inv X pins σ H s) (hb : BindsTo s fd ar (ps.zip us)) (r : Vals vs us) (h : sp vs H Q (E σ)) : codeAny (model X.prog X.w) X.A (.call (.ref f) ar) (callEnd (EP X pins σ Q) X.xe) s := by
  refine codeAny_mono (F.run X.A X.stack s H ar us vs Q (E σ) hg hr I.env0 hb r h) fun res s' hq => ?_
  match res, hq with
  | .error e, hq => exact hx pins H s e s' I hq
  | .ok (.ret u), hq => exact I.after hq
def tG (sp : Sp) (dv : List V) (E : L2.St → XK) (t : TA) : TE := fun σ H Q => t σ H fun vs H1 => sp (vs ++ dv) H1 Q (E σ)
theorem pe_callG {x : Str} {p pos : Pos} {e : Expr} {es : List Expr} {t : TA} {dv : List V} {ds : List Value} (F : FnG X.prog X.w X.K X.mg X.base CX k f fd ps sp) (hg : X.A.guards = some []) (hr : Room k X.A) (gl : Gl X x) (hm : X.mg x = some (.ref f))
    (hk : PySem.W.keepIn X.K (.ref f) = true) (hb : Binds X.K fd ps ds) (hd : Vals dv ds) (hx : ∀ σ, PassesAt CX X σ (E σ)) (ha : PA X (e :: es) t) (hdb : (x == ("__debug__" : Str)) = false := by decide)
    (he : starEach (e :: es) X.env = (false, eval e X.env) :: starEach es X.env := by rfl) (hpl : (backTo pos (starEach es X.env)).any (·.1) = false := by rfl) : PE X (.Call (.Name x p) (e :: es) [] pos) (tG sp dv E t) := by
  refine ⟨fun pins s σ H Q I h => wpAny_Call_Name_kw (ld_glob I gl hm ?_ hdb)⟩
  refine PySem.W.callWith_K (h₀ := X.base) I.ok.mod.kin hk (thn (ha.run pos pins s σ H _ I h) fun us s1 ⟨vs, H1, I1, r, q⟩ => ⟨I1.kIn, ?_⟩) he hpl
  have rr : Vals (vs ++ dv) (us ++ ds) := r.append hd
  have ln : (us ++ ds).length = ps.length := by rw [← rr.length]; exact F.len _ _ _ _ q
  exact wpAny_call (run_g F hg hr (hx σ) I1 (hb s1 us I1.kIn ln) rr q)
theorem pe_callG0 {x : Str} {p pos : Pos} {dv : List V} {ds : List Value} (F : FnG X.prog X.w X.K X.mg X.base CX k f fd ps sp) (hg : X.A.guards = some []) (hr : Room k X.A) (gl : Gl X x) (hm : X.mg x = some (.ref f))
    (hk : PySem.W.keepIn X.K (.ref f) = true) (hb : Binds X.K fd ps ds) (hd : Vals dv ds) (hx : ∀ σ, PassesAt CX X σ (E σ)) (hdb : (x == ("__debug__" : Str)) = false := by decide) : PE X (.Call (.Name x p) [] [] pos) (tG sp dv E tNil) := by
  refine ⟨fun pins s σ H Q I h => wpAny_Call_Name_kw (ld_glob I gl hm ?_ hdb)⟩
  have q : sp ([] ++ dv) H Q (E σ) := h
  have ln : (([] : List Value) ++ ds).length = ps.length := by rw [List.nil_append, ← hd.length]; exact F.len _ _ _ _ q
  exact PySem.W.callWith_K0 I.kIn hk (wpAny_call (run_g F hg hr (hx σ) I (hb s [] I.kIn ln) hd q))
def tGK (sp : Sp) (gV : List V → List V → List V) (E : L2.St → XK) (t tk : TA) : TE := fun σ H Q => t σ H fun vs H1 => tk σ H1 fun zs H2 => sp (gV vs zs) H2 Q (E σ)
theorem pe_callGK {x : Str} {p pos : Pos} {e : Expr} {es : List Expr} {kws : List Keyword} {ks : List Str} {t tk : TA} {g : List Value → List Value → List Value} {gV : List V → List V → List V} (F : FnG X.prog X.w X.K X.mg X.base CX k f fd ps sp) (hg : X.A.guards = some []) (hr : Room k X.A)
    (gl : Gl X x) (hm : X.mg x = some (.ref f)) (hk : PySem.W.keepIn X.K (.ref f) = true) (hb : KBinds X.K fd ps ks g gV) (hx : ∀ σ, PassesAt CX X σ (E σ)) (ha : PA X (e :: es) t) (hkw : PK X kws tk) (hall : (backToKw pos (keywordEach kws X.env)).all (·.1.isSome) = true := by rfl)
    (hks : (backToKw pos (keywordEach kws X.env)).filterMap (·.1) = ks := by rfl) (hdb : (x == ("__debug__" : Str)) = false := by decide) (he : starEach (e :: es) X.env = (false, eval e X.env) :: starEach es X.env := by rfl)
    (hpl : ((backTo pos (starEach (e :: es) X.env)).any (·.1) || (backToKw pos (keywordEach kws X.env)).any (·.1.isNone)) = false := by rfl) : PE X (.Call (.Name x p) (e :: es) kws pos) (tGK sp gV E t tk) := by
  refine ⟨fun pins s σ H Q I h => wpAny_Call_Name_kw (ld_glob I gl hm ?_ hdb)⟩
  refine PySem.W.callWith_KW (h₀ := X.base) I.ok.mod.kin hk hall (thn (ha.run pos pins s σ H _ I h) fun us s1 ⟨vs, H1, I1, r, q⟩ => ?_) hpl he
  refine thn (hkw.run pos pins s1 σ H1 _ I1 q) fun ws s2 ⟨zs, H2, I2, rz, q2⟩ => ⟨I2.kIn, ?_⟩
  rw [hks]
  have rr := hb.rel r rz
  have ln : (g us ws).length = ps.length := by rw [← rr.length]; exact F.len _ _ _ _ q2
  exact wpAny_call (run_g F hg hr (hx σ) I2 (hb.to s2 us ws I2.kIn ln) rr q2)
theorem pe_callGK0 {x : Str} {p pos : Pos} {kws : List Keyword} {ks : List Str} {tk : TA} {g : List Value → List Value → List Value} {gV : List V → List V → List V} (F : FnG X.prog X.w X.K X.mg X.base CX k f fd ps sp) (hg : X.A.guards = some []) (hr : Room k X.A)
    (gl : Gl X x) (hm : X.mg x = some (.ref f)) (hk : PySem.W.keepIn X.K (.ref f) = true) (hb : KBinds X.K fd ps ks g gV) (hx : ∀ σ, PassesAt CX X σ (E σ)) (hkw : PK X kws tk) (hall : (backToKw pos (keywordEach kws X.env)).all (·.1.isSome) = true := by rfl)
    (hks : (backToKw pos (keywordEach kws X.env)).filterMap (·.1) = ks := by rfl) (hdb : (x == ("__debug__" : Str)) = false := by decide)
    (hpl : ((backTo pos (starEach [] X.env)).any (·.1) || (backToKw pos (keywordEach kws X.env)).any (·.1.isNone)) = false := by rfl) : PE X (.Call (.Name x p) [] kws pos) (tGK sp gV E tNil tk) := by
  refine ⟨fun pins s σ H Q I h => wpAny_Call_Name_kw (ld_glob I gl hm ?_ hdb)⟩
  refine PySem.W.callWith_KW0 (h₀ := X.base) I.ok.mod.kin hk hall ?_ hpl
  refine thn (hkw.run pos pins s σ H _ I h) fun ws s2 ⟨zs, H2, I2, rz, q2⟩ => ⟨I2.kIn, ?_⟩
  rw [hks]
  have rr := hb.rel (vs := []) (us := []) .nil rz
  have ln : (g [] ws).length = ps.length := by rw [← rr.length]; exact F.len _ _ _ _ q2
  exact wpAny_call (run_g F hg hr (hx σ) I2 (hb.to s2 [] ws I2.kIn ln) rr q2)
end
/-- the code of the def at f -/
def CdOk (K : PySem.W.Frag) (f : Addr) (cdv : Value) : Prop := ∃ oc od fd osl, K.lookup f = some ⟨oc, od, .func fd, osl⟩ ∧ fd.code = cdv
/-- THE RULE for a def, by its body -/
theorem fn_g {CX : CXT} {P : Program} {w : World} {K : PySem.W.Frag} {mg : Str → Option Value} {base : Heap} {k : Nat} {f : Addr} {x qual : Str} {st : Stmt} {fd : FuncData} {N ps : List Str} {sp : Sp} (F : Fun K x qual st f fd) (S : FnScope N ps (defScope st))
    (len : ∀ vs H Q E, sp vs H Q E → vs.length = ps.length)
    (body : ∀ (cdv : Value), CdOk K f cdv → ∀ (A : Around) (out : List Env) (s : Shared) (H : Hp) (vs : List V) (Q : VK) (E : XK), A.guards = some [] → Room k (A.deeper (envOfC qual (defScope st) s.heap.objs.size f cdv)) → sp vs H Q E →
      ∃ t, PSs (cxOf CX P w K mg base N qual (defScope st) f cdv A out s H E) (defBody st) t ∧ t { nx := fun _ H' => Q .non H', rt := Q } (start N vs) H) : FnG P w K mg base CX (k + 1) f fd ps sp := by
  obtain ⟨oc, od, kV, doc, pm, an, cdv, ct, osl, rfl, lk, hcd⟩ := F.ex
  refine ⟨len, fun A out s H ar us vs Q E g hr e0 hb r hsp => ?_⟩
  have old : ∀ b o, base.get? b = some o → s.heap.get? b = some o := fun b o e => (e0.bs b o e).1
  have KX : K.In s.heap := e0.mod.kin.keeps old
  refine codeAny_call_function hr.depth (KX _ _ lk) rfl S.co S.gen rfl (PySem.W.codeRec_of KX hcd) (hb _ _ _ _ ?_)
  refine wpAny_newFunctionEnv_cells S.kind (fun y hy => (S.par y.1 (List.of_mem_zip (show (y.1, y.2) ∈ _ from hy)).1).imp id fun q => ⟨q, PySem.W.cellsFrom_some _ _ _ (.inl q)⟩) fun env he s1 z => ?_
  subst he
  refine ⟨(e0.mod.nolimit.keeps old).keeps z.toInCall.keep, codeAny_func ?_⟩
  obtain ⟨t, ht, hq⟩ := body cdv ⟨_, _, _, _, lk, rfl⟩ A out s H vs Q E g (hr.deeper _) hsp
  refine wpAny_mono (ht.run [] s1 (start N vs) H _ (inv_start S hr.hd e0 (len _ _ _ _ hsp) r z) hq) (fun fl s' hs => ?_) fun _ _ h => h
  match fl, hs with
  | .ret u, ⟨v, _, H', J, rv, q⟩ => exact ⟨v, H', J.os, J.bare, J.base, J.hok, rv, q⟩
  | .next, ⟨_, H', J, q⟩ => exact ⟨.non, H', J.os, J.bare, J.base, J.hok, rfl, q⟩
  | .brk, ⟨_, _, _, q⟩ => exact q.elim
  | .cont, ⟨_, _, _, q⟩ => exact q.elim

/-! ### the law's call -/
theorem law_g {P : Program} {w : World} {K : PySem.W.Frag} {mg mb : Str → Option Value} {CX : CXT} {k : Nat} {fa a : Addr} {fd : FuncData} {x : Str} {sp : Sp} {s : Shared} {vs : List Value} {ns : List Int} (KX : K.In s.heap) (hns : s.heap.Ns mainGlobals mg) (hb : s.heap.Ns builtinsNs mb)
    (hbb : ∀ x : Str, x ≠ "__name__" → mb x = bootBuiltins x) (hlim : s.heap.NoLimit) (hg : s.gens = #[]) (ha : s.heap.get? a = some { cls := .type "list", data := .seq vs.toArray }) (hi : IntsAre vs ns) (hl : ns.length ≤ sizeLine) (hr : Room k callerA)
    (F : ∀ base : Heap, K.In base → base.Ns mainGlobals mg → FnG P w K mg base CX k fa fd [x] sp) (hbind : ∀ (s : Shared) (u : Value), BindsTo s fd ⟨[u], []⟩ [(x, u)])
    (hsp : ∀ H : Hp, SqL K H a (ns.map V.int) → sp [.ref a] H (fun v _ => v = .bl true) fun _ _ _ => False) (hCX : ∀ H e s', CX [] H s (fun _ _ _ => False) e s' → False) :
    codeAny (model P w) callerA (.call (.ref fa) ⟨[.ref a], []⟩) (fun r s' => r = .ok (.ret (.bool true)) ∧ OldK s.heap s'.heap ∧ s'.os = s.os ∧ AllBare s'.gens) s := by
  have rv := vals_ints hi
  -- H knows at most the script, locked
  have core : ∀ H : Hp, (∀ b u, H b = some u → b = a ∧ K.lookup a = none ∧ u = .frz { cls := .type "list", data := .seq vs.toArray } (.lst (ns.map V.int))) → SqL K H a (ns.map V.int) →
      codeAny (model P w) callerA (.call (.ref fa) ⟨[.ref a], []⟩) (fun r s' => r = .ok (.ret (.bool true)) ∧ OldK s.heap s'.heap ∧ s'.os = s.os ∧ AllBare s'.gens) s := by
    intro H hH hS
    have ok : HOk P w H s.heap := fun b u e => by
      obtain ⟨rfl, _, rfl⟩ := hH b u e
      exact ⟨ha, by rw [List.length_map]; exact hl, vs, _, rv, ha⟩
    have free : ∀ {b : Addr} {o : Obj}, s.heap.get? b = some o → (∀ es ep, o.data = .dict es ep → H b = none) := fun {b o} e es ep d => by
      cases q : H b with
      | none => rfl
      | some u =>
        obtain ⟨rfl, _, _⟩ := hH b u q
        rw [ha] at e; cases e; cases (show Data.seq vs.toArray _ = Data.dict es ep from d)
    have ns_of : ∀ {b : Addr} {m : Str → Option Value}, s.heap.Ns b m → (hidT s.heap H).Ns b m := fun ⟨o, es, ep, e, d, r⟩ => ⟨o, es, ep, hidT_get e (free e es ep d), d, r⟩
    have kin : K.In (hidT s.heap H) := fun b o e => hidT_get (KX b o e) (by
      cases q : H b with
      | none => rfl
      | some u => obtain ⟨rfl, z, _⟩ := hH b u q; rw [z] at e; cases e)
    obtain ⟨mc, l1, l2⟩ := hlim
    have e0 : Env0 P w K mg (hidT s.heap H) callerA [] s H := ⟨rfl, ⟨kin, ns_of hns, ⟨mb, ns_of hb, hbb⟩, ⟨mc, ns_of l1, l2⟩⟩, fun b o e => of_hidT e, Nat.le_of_eq (hidT_size _ _), trivial, fun b z => (List.not_mem_nil z).elim, ok, .of_eq hg⟩
    refine codeAny_mono ((F _ kin (ns_of hns)).run callerA [] s H ⟨[.ref a], []⟩ [.ref a] [.ref a] _ _ rfl hr e0 (hbind s (.ref a)) (.cons rfl .nil) (hsp H hS)) fun r s' h => ?_
    match r, h with
    | .error e, h => exact (hCX H e s' h).elim
    | .ok (.ret u), ⟨v, H', os, bare, un, ok', rr, q⟩ =>
      subst q
      cases (show u = Value.bool true from rr)
      refine ⟨rfl, OldK.of_keep fun b o e => ?_, os, bare⟩
      cases q : H b with
      | none => exact un.keep b o e q (fun z => (List.not_mem_nil z).elim) (fun z => (List.not_mem_nil z).elim)
      | some u =>
        obtain ⟨rfl, _, rfl⟩ := hH b u q
        have e2 := (ok' b _ (un.frzs b _ _ q)).1
        rw [ha] at e; cases e
        exact e2
  cases hk : K.lookup a with
  | some o =>
    have e := KX a o hk
    rw [ha] at e; cases e
    exact core (fun _ => none) (fun _ _ z => nomatch z) (.inr ⟨_, vs.toArray, _, hk, rfl, rfl, rfl, by rw [List.size_toArray, hi.length]; exact hl, by simpa using rv⟩)
  | none =>
    refine core (fun b => if b = a then some (.frz { cls := .type "list", data := .seq vs.toArray } (.lst (ns.map V.int))) else none) (fun b u z => ?_) (.inl (.inr ⟨_, if_pos rfl⟩))
    by_cases q : b = a
    · subst q
      rw [if_pos rfl] at z; cases z
      exact ⟨rfl, hk, rfl⟩
    · rw [if_neg q] at z; cases z
theorem walk_g {l : PySem.W.OpenLaw} {n k : Nat} {q : Program} {loose : List Str} {XP : (Str → Option Value) → Heap → Prop} {YP : World → Heap → Prop} {d : DefRec} {K : Params → PySem.W.Frag} {CX : World → CXT} {sp : World → Sp} {x : Str} (hn : l.most = some n) (hn2 : n ≤ sizeLine) (hdf : d.params.defaults = []) (hr : Room k callerA)
    (hY : ∀ (w : World) (h : Heap), YP w h → (K w.params).In h)
    (F : ∀ (w : World) (mg : Str → Option Value) (fa : Addr) (h : Heap), (K w.params).In h → h.Ns mainGlobals mg → mg d.name = some (.ref fa) →
      ∃ fd : FuncData, (∀ (s : Shared) (u : Value), BindsTo s fd ⟨[u], []⟩ [(x, u)]) ∧ ∀ base : Heap, (K w.params).In base → base.Ns mainGlobals mg → FnG l.prog w (K w.params) mg base (CX w) k fa fd [x] (sp w))
    (hsp : ∀ (w : World) (H : Hp) (a : Addr) (ns : List Int), ns.length ≤ n → SqL (K w.params) H a (ns.map V.int) → sp w [.ref a] H (fun v _ => v = .bl true) fun _ _ _ => False)
    (hCX : ∀ (w : World) (H : Hp) (s : Shared) (e : Value) (s' : Shared), CX w [] H s (fun _ _ _ => False) e s' → False) : PySem.W.WalkO q loose XP YP l.row.toRowW d [] (fun f vs => PySem.call f vs) := by
  refine Att.attach_call hn hdf fun w s0 s1 mg mb fa o pm cd doc a vs ns G Y _ _ _ hmg hobj hints hlen hgens => ?_
  obtain ⟨fd, hb, hF⟩ := F w mg fa _ (hY w _ Y) G.T.g hmg
  exact law_g (hY w _ Y) G.T.g G.T.b G.T.builtins G.T.nolimit hgens hobj hints (Nat.le_trans hlen hn2) hr hF hb (fun H hS => hsp w H a ns hlen hS) fun H e s' => hCX w H s1 e s'
end Ev

/-! # Defs: promises over data, calls, bodies -/
namespace Ev
open PySem PySem.Spec PyProof.Rows L2
variable [TabC]
variable {K : PySem.W.Frag} {S S' H H' : Hp} {B : Bs} {δ : DS} {σ : L2.St}
/-- a promise over data: arguments, pen, what is wanted of the answer, what is wanted of an exception -/
abbrev dSp := List D → Pen → (D → Pen → Prop) → (Xc → Pen → Prop) → Prop
/-- behind a call -/
structure Fin (S H S' H' : Hp) (p p' : Pen) : Prop where
  s : Ex S S'
  ok : Sb S' H'
  pen : PenOk S' H' p'
  same : p'.map (·.1) = p.map (·.1) ∨ (p = none ∧ ∀ a c, p' = some (a, c) → H a = none)
  h : ∀ b o, H b = some o → p.map (·.1) ≠ some b → NT o → H' b = some o
  t : ∀ b ps, H b = some (.tbl ps) → ∃ qs, H' b = some (.tbl qs)
  no : ∀ b o, H b = some o → S b = none → S' b = none
def spD (K : PySem.W.Frag) (n : Nat) (sp : dSp) : Sp := fun vs H Q E => ∃ S ds p Q' W', Sb S H ∧ PenOk S H p ∧ DnA K S vs ds ∧ ds.length = n ∧ sp ds p Q' W' ∧
  (∀ x p' v S' H', Q' x p' → Fin S H S' H' p p' → Dn K S' v x → Q v H') ∧ ∀ c p' cls od S' H', W' c p' → Fin S H S' H' p p' → XcOk K S' H' c cls od → E cls od H'
theorem spD_len {n : Nat} {sp : dSp} : ∀ vs H Q E, spD K n sp vs H Q E → vs.length = n := fun vs H Q E ⟨S, ds, p, Q', W', _, _, a, l, _⟩ => a.length.trans l
theorem Pen.map_ne {p : Pen} {a : Addr} (h : ∀ c, p ≠ some (a, c)) : p.map (·.1) ≠ some a := fun z => by
  match hp : p, z with
  | some (a', c), z =>
    cases (show some a' = some a from z)
    exact h c rfl
theorem Fin.ne {p p' : Pen} (f : Fin S H S' H' p p') {a : Addr} (h : p.map (·.1) ≠ some a) {o : HO} (ho : H a = some o) : ∀ c, p' ≠ some (a, c) := fun c z => by
  rcases f.same with q | ⟨_, q⟩
  · rw [z] at q; exact h q.symm
  · rw [q a c z] at ho; cases ho
theorem Fin.there {p p' : Pen} (f : Fin S H S' H' p p') {a : Addr} {o : HO} (ho : H a = some o) (h : p.map (·.1) ≠ some a) : ∃ o', H' a = some o' := by
  cases o with
  | tbl ps => obtain ⟨qs, q⟩ := f.t a ps ho; exact ⟨_, q⟩
  | ext φ => exact ⟨_, f.h a _ ho h fun _ z => nomatch z⟩
  | _ => exact ⟨_, f.h a _ ho h (nt_plain rfl)⟩
theorem Rel.after (R : Rel K B δ S σ H) {p' : Pen} (f : Fin S H S' H' δ.pen p') : Rel K B { δ with pen := p' } S' σ H' := by
  obtain ⟨ow, h1, h2, h3, h4⟩ := R.sl
  have e0 : ∀ b, B.pa ≠ some b → (∃ o, B.H0 b = some o) → δ.pen.map (·.1) ≠ some b := fun b hb h0 => Pen.map_ne (R.pen_ne hb h0)
  refine ⟨f.ok, ⟨R.fr.s.trans f.s, fun b o h n nt => f.h b o (R.fr.h b o h n nt) (e0 b n ⟨o, h⟩) nt, fun b ps h => by
    obtain ⟨qs, z⟩ := R.fr.t b ps h
    exact f.t b qs z, fun b o h n => ?_, fun a e => ?_⟩, f.pen, ?_, R.len, ow, fun i x e => (h1 i x e).grow f.s fun a o ea ha pl => f.h a o ha (Pen.map_ne (h4 i a ea).2.2.1) (nt_plain pl), h2, h3, fun i a e => ?_⟩
  · obtain ⟨o', q⟩ := R.fr.there h
    exact f.no b o' q (R.fr.no b o h n)
  · obtain ⟨u, hu⟩ := R.fr.pa a e
    by_cases z : δ.pen.map (·.1) = some a
    · have e1 : p'.map (·.1) = some a := by
        rcases f.same with q | ⟨q, _⟩
        · exact q.trans z
        · rw [q] at z; cases z
      match p', e1, f.pen with
      | some (a', c), e1, ⟨_, ca, ns, k, m, q, _⟩ =>
        cases (show some a' = some a from e1)
        exact ⟨_, q⟩
    · exact f.there hu z
  · have q := R.pa
    unfold PaOk at q ⊢
    by_cases hp : B.pd = true ∧ B.pa ≠ none
    · rw [if_pos hp] at q ⊢
      rcases f.same with r | ⟨r, _⟩
      · exact r.trans q
      · rw [r] at q
        exact absurd q.symm hp.2
    · rw [if_neg hp] at q ⊢
      intro a c e
      have e : p' = some (a, c) := e
      rcases f.same with r | ⟨_, r⟩
      · rw [e] at r
        match hd : δ.pen, r with
        | some (a', c'), r =>
          cases (show some a = some a' from r)
          exact q a c' hd
      · have h0 := r a c e
        exact ⟨(R.fr.fresh h0).1, (R.fr.fresh h0).2⟩
  · obtain ⟨r1, r2, r3, u, r4⟩ := h4 i a e
    have ne := Pen.map_ne r3
    exact ⟨f.no a u r4 r1, r2, f.ne ne r4, f.there r4 ne⟩
section
variable {X : Cx} {E : EK} {CX : CXT} {k : Nat} {f : Addr} {fd : FuncData} {ps : List Str} {x : Str} {p pos : Pos} {e : Expr} {es : List Expr}
/-- f(..), n arguments in all -/
def dCall (n : Nat) (sp : dSp) (a : dA) : dE := fun W δ Q => a W δ fun xs δ1 => xs.length = n ∧ sp xs δ1.pen (fun x p' => Q x { δ1 with pen := p' }) fun c p' => W c { δ1 with pen := p' }
theorem call_read {sp : dSp} {W : XW} {Q' : D → DS → Prop} {δ1 : DS} {S S1 H1 : Hp} {Q : VK} {vs : List V} {xs : List D} (xo : XOk K B E W S) (e1 : Ex S S1) (R1 : Rel K B δ1 S1 σ H1) (n1 : DnA K S1 vs xs) {n : Nat} (hn : xs.length = n)
    (q : sp xs δ1.pen (fun x p' => Q' x { δ1 with pen := p' }) fun c p' => W c { δ1 with pen := p' }) (post : ∀ x δ' v S' H', Q' x δ' → Ex S S' → Rel K B δ' S' σ H' → Dn K S' v x → Q v H') : spD K n sp vs H1 Q (E σ) :=
  ⟨S1, xs, δ1.pen, _, _, R1.ex, R1.pen, n1, hn, q, fun x p' v S' H' q' f d => post _ _ _ _ _ q' (e1.trans f.s) (R1.after f) d, fun c p' cls od S' H' w f k => xo c _ σ S' H' cls od w (e1.trans f.s) (R1.after f) k⟩
/-- everything that a call of the def x wants of its context -/
structure Kn (X : Cx) (E : EK) (x : Str) (n : Nat) (sp : dSp) : Prop where
  g : X.A.guards = some []
  ok : ∃ (CX : CXT) (ps : List Str) (f : Addr) (fd : FuncData) (k : Nat), FnG X.prog X.w X.K X.mg X.base CX k f fd ps (spD X.K n sp) ∧ Room k X.A ∧ X.mg x = some (.ref f) ∧ PySem.W.keepIn X.K (.ref f) = true ∧ Binds X.K fd ps [] ∧ (∀ σ, PassesAt CX X σ (E σ))
theorem de_call {sp : dSp} {n : Nat} {a : dA} (h : Kn X E x n sp) (gl : Gl X x) (ha : DA X E (e :: es) a) (hdb : (x == ("__debug__" : Str)) = false := by decide)
    (he : starEach (e :: es) X.env = (false, eval e X.env) :: starEach es X.env := by rfl) (hpl : (backTo pos (starEach es X.env)).any (·.1) = false := by rfl) : DE X E (.Call (.Name x p) (e :: es) [] pos) (dCall n sp a) := by
  obtain ⟨CX, ps, f, fd, k, F, r, m, kp, b, hx⟩ := h.ok
  refine ⟨fun B => pe_mono (pe_callG F h.g r gl m kp b .nil hx (ha.run B) hdb he hpl) fun σ H Q q => ?_⟩
  obtain ⟨δ, S, W, Q', R, q, xo, post⟩ := q
  refine ⟨δ, S, W, _, R, q, xo, fun xs δ1 vs S1 H1 q1 e1 R1 n1 => ?_⟩
  show spD X.K n sp (vs ++ []) H1 Q (E σ)
  rw [List.append_nil]
  exact call_read xo e1 R1 n1 q1.1 q1.2 post
theorem de_call0 {sp : dSp} (h : Kn X E x 0 sp) (gl : Gl X x) (hdb : (x == ("__debug__" : Str)) = false := by decide) : DE X E (.Call (.Name x p) [] [] pos) (dCall 0 sp dNil) := by
  obtain ⟨CX, ps, f, fd, k, F, r, m, kp, b, hx⟩ := h.ok
  refine ⟨fun B => pe_mono (pe_callG0 F h.g r gl m kp b .nil hx hdb) fun σ H Q q => ?_⟩
  obtain ⟨δ, S, W, Q', R, q, xo, post⟩ := q
  exact call_read xo (Ex.refl _) R .nil q.1 q.2 post
end

/-! ### a def's body -/
def endsD (Q : D → Pen → Prop) : dEnds := { nx := fun δ => Q .non δ.pen, rt := fun x δ => Q x δ.pen }
def startD (m : Nat) (ds : List D) (p : Pen) : DS := ⟨ds.map .dat ++ List.replicate (m - ds.length) .un, p⟩
theorem startRel {N : List Str} {vs : List V} {ds : List D} {p : Pen} (e : Sb S H) (hp : PenOk S H p) (a : DnA K S vs ds) (hl : ds.length ≤ N.length) : Rel K ⟨S, H, p.map (·.1), true⟩ (startD N.length ds p) S (L2.start N vs) H := by
  have hln := a.length
  refine ⟨e, ⟨Ex.refl _, fun _ _ h _ _ => h, fun _ ps h => ⟨ps, h⟩, fun _ _ _ n => n, fun b z => ?_⟩, hp, ?_, ?_, (fun _ => none), fun i x h => ?_, fun _ _ => rfl, fun _ _ _ z => (nomatch z), fun _ _ z => (nomatch z)⟩
  · match p, z, hp with
    | some (a', c), z, ⟨_, ca, ns, k, m, q, _⟩ =>
      cases (show some a' = some b from z)
      exact ⟨_, q⟩
  · unfold PaOk
    by_cases q : p.map (·.1) = none
    · rw [if_neg (fun z => z.2 q)]
      intro a c e
      have e : p = some (a, c) := e
      rw [e] at q; cases q
    · rw [if_pos ⟨rfl, q⟩]; rfl
  · simp only [L2.start, startD, List.length_append, List.length_map, List.length_replicate]; omega
  · have h : (ds.map Sl.dat ++ List.replicate (N.length - ds.length) Sl.un)[i]? = some x := h
    by_cases hi : i < ds.length
    · rw [List.getElem?_append_left (by simpa using hi), List.getElem?_map, List.getElem?_eq_getElem hi] at h
      cases h
      obtain ⟨v, hv, dn⟩ := a.get (List.getElem?_eq_getElem hi)
      refine ⟨rfl, v, ?_, dn⟩
      unfold L2.start
      rw [List.getElem?_append_left (by rw [List.length_map]; omega), List.getElem?_map, hv]; rfl
    · rw [List.getElem?_append_right (by simpa using hi), List.getElem?_replicate] at h
      split at h
      · cases h; exact rfl
      · cases h
theorem Rel.fin {p : Pen} {S0 H0 : Hp} (R : Rel K ⟨S0, H0, p.map (·.1), true⟩ δ S σ H) : Fin S0 H0 S H p δ.pen := by
  have hp := R.pa
  unfold PaOk at hp
  refine ⟨R.fr.s, R.ex, R.pen, ?_, fun b o h n nt => R.fr.h b o h n nt, R.fr.t, R.fr.no⟩
  by_cases q : p.map (·.1) = none
  · rw [if_neg (fun z => z.2 q)] at hp
    refine .inr ⟨?_, fun a c e => (hp a c e).1⟩
    match p, q with
    | none, _ => rfl
  · rw [if_pos ⟨rfl, q⟩] at hp
    exact .inl hp
section
variable {P : Program} {w : World} {K : PySem.W.Frag} {mg : Str → Option Value} {base : Heap} {x qual : Str} {st : Stmt} {f : Addr} {fd : FuncData} {N ps : List Str} {k n : Nat} {sp : dSp} {d : dS}
/-- the context of the body of a def that lets nothing out -/
abbrev cx0 (P : Program) (w : World) (K : PySem.W.Frag) (mg : Str → Option Value) (base : Heap) (N : List Str) (qual : Str) (sc : Scope) (f : Addr) (cdv : Value) (A : Around) (out : List Env) (s : Shared) (H : Hp) (E : XK) : Cx := (cxOf CX0 P w K mg base N qual sc f cdv A out s H E).nox
abbrev E00 : EK := fun _ _ _ _ => False
/-- a def that lets nothing out keeps sp -/
theorem fn_d0 (F : Fun K x qual st f fd) (S : FnScope N ps (defScope st)) (hn : ps.length = n)
    (body : ∀ (cdv : Value) (A : Around) (out : List Env) (s : Shared) (H : Hp) (E : XK), A.guards = some [] → Room k (A.deeper (envOfC qual (defScope st) s.heap.objs.size f cdv)) → DSs (cx0 P w K mg base N qual (defScope st) f cdv A out s H E) E00 (defBody st) d)
    (hsp : ∀ ds p Q W, ds.length = n → sp ds p Q W → d W0 (endsD Q) (startD N.length ds p)) : FnG P w K mg base CX0 (k + 1) f fd ps (spD K n sp) := by
  refine fn_g F S (fun vs H Q E q => (spD_len vs H Q E q).trans hn.symm) fun cdv _ A out s H vs Q E g r q => ?_
  obtain ⟨S0, ds, p, Q', W', ex, hp, a, hl, q, post, _⟩ := q
  have hN : ds.length ≤ N.length := by
    have h1 := S.pre
    have h2 := congrArg List.length h1
    rw [List.length_take] at h2
    omega
  refine ⟨_, ((body cdv A out s H E g r).run ⟨S0, H, (Option.map Prod.fst p : Option Addr), true⟩).nox, startD N.length ds p, S0, W0, endsD Q', startRel ex hp a hN, hsp ds p Q' W' hl q, fun _ _ _ _ _ _ _ h => h.elim, fun δ' σ' S' H' q1 e1 R1 => ?_, fun x δ' v σ' S' H' q1 e1 R1 n1 => ?_, fun _ _ _ _ h => h.elim, fun _ _ _ _ h => h.elim, fun _ _ _ _ _ _ _ h => h.elim⟩
  · exact post _ _ _ _ _ q1 R1.fin .non
  · exact post _ _ _ _ _ q1 R1.fin n1
end
end Ev

/-! # Operators and calls of built-ins, over data -/
namespace Ev
open PySem PySem.Spec PyProof.Rows L2
variable [TabC]
variable {K : PySem.W.Frag} {S S' H H' : Hp} {B : Bs} {δ : DS} {σ : L2.St}

/-! ### data as the library's own -/
mutual
def D.py : D → PyData
  | .non => .none
  | .bl b => .bool b
  | .int i => .int i
  | .str x => .str x
  | .tup xs => .tuple (D.pys xs)
  | .kt xs => .tuple (D.pys xs)
  | .lst xs => .list (D.pys xs)
  | .dK _ => .none
  | .dT _ => .none
  | .fK _ => .none
  | .fT _ => .none
  | .raw _ => .none
  | .scr _ => .none
  | .fn _ _ => .none
def D.pys : List D → List PyData
  | [] => []
  | x :: xs => x.py :: D.pys xs
end
mutual
/-- none, truths, numbers, texts, tuples and lists of such -/
def D.lay : D → Bool
  | .non => true
  | .bl _ => true
  | .int _ => true
  | .str x => PyData.strOk x
  | .tup xs => D.lays xs
  | .kt xs => D.lays xs
  | .lst xs => D.lays xs
  | .dK _ => false
  | .dT _ => false
  | .fK _ => false
  | .fT _ => false
  | .raw _ => false
  | .scr _ => false
  | .fn _ _ => false
def D.lays : List D → Bool
  | [] => true
  | x :: xs => x.lay && D.lays xs
end
mutual
def D.dep : D → Nat
  | .tup xs => D.deps xs + 1
  | .kt xs => D.deps xs + 1
  | .lst xs => D.deps xs + 1
  | _ => 0
def D.deps : List D → Nat
  | [] => 0
  | x :: xs => max x.dep (D.deps xs)
end
mutual
theorem Dn.dp : ∀ {d : D} {v : V}, Dn K S v d → d.lay = true → Dp K S v d.py
  | .non, _, h, _ => by cases h; exact .non
  | .bl b, _, h, _ => by cases h; exact .bl b
  | .int i, _, h, _ => by cases h; exact .int i
  | .str x, _, h, _ => by cases h; exact .str x
  | .tup xs, _, h, l => by cases h with | tup h1 h2 => exact .tup (SqT.of h1) (DnA.dp h2 l)
  | .kt xs, _, h, l => by cases h with | kt h1 h2 => exact .tup h1.sqT (DnA.dp h2 l)
  | .lst xs, _, h, l => by cases h with | lst h1 h2 => exact .lst (SqL.of h1) (DnA.dp h2 l)
  | .dK _, _, _, l => by cases l
  | .dT _, _, _, l => by cases l
  | .fK _, _, _, l => by cases l
  | .fT _, _, _, l => by cases l
  | .raw _, _, _, l => by cases l
  | .scr _, _, _, l => by cases l
  | .fn _ _, _, _, l => by cases l
theorem DnA.dp : ∀ {ds : List D} {vs : List V}, DnA K S vs ds → D.lays ds = true → DpAll K S vs (D.pys ds)
  | [], _, h, _ => by cases h; exact .nil
  | d :: ds, _, h, l => by
    have l' : (d.lay && D.lays ds) = true := l
    rw [Bool.and_eq_true] at l'
    cases h with | cons h1 h2 => exact .cons (Dn.dp h1 l'.1) (DnA.dp h2 l'.2)
end
mutual
theorem D.lay_can : ∀ d : D, d.lay = true → d.py.canLay0 = true
  | .non, _ => by simp [D.py, PyData.canLay0]
  | .bl b, _ => by simp [D.py, PyData.canLay0]
  | .int i, _ => by simp [D.py, PyData.canLay0]
  | .str x, h => by simpa [D.py, PyData.canLay0] using (show PyData.strOk x = true from h)
  | .tup xs, h => by simpa [D.py, PyData.canLay0] using D.lays_can xs h
  | .kt xs, h => by simpa [D.py, PyData.canLay0] using D.lays_can xs h
  | .lst xs, h => by simpa [D.py, PyData.canLay0] using D.lays_can xs h
  | .dK _, h => by cases h
  | .dT _, h => by cases h
  | .fK _, h => by cases h
  | .fT _, h => by cases h
  | .raw _, h => by cases h
  | .scr _, h => by cases h
  | .fn _ _, h => by cases h
theorem D.lays_can : ∀ ds : List D, D.lays ds = true → PyData.canLayAll0 (D.pys ds) = true
  | [], _ => by simp [D.pys, PyData.canLayAll0]
  | d :: ds, h => by
    have h' : (d.lay && D.lays ds) = true := h
    rw [Bool.and_eq_true] at h'
    simp [D.pys, PyData.canLayAll0, D.lay_can d h'.1, D.lays_can ds h'.2]
end
mutual
theorem D.py_dep : ∀ d : D, d.py.depth = d.dep
  | .non => by simp [D.py, PyData.depth, D.dep]
  | .bl b => by simp [D.py, PyData.depth, D.dep]
  | .int i => by simp [D.py, PyData.depth, D.dep]
  | .str x => by simp [D.py, PyData.depth, D.dep]
  | .tup xs => by simp [D.py, PyData.depth, D.dep, D.pys_dep xs]
  | .kt xs => by simp [D.py, PyData.depth, D.dep, D.pys_dep xs]
  | .lst xs => by simp [D.py, PyData.depth, D.dep, D.pys_dep xs]
  | .dK _ => by simp [D.py, PyData.depth, D.dep]
  | .dT _ => by simp [D.py, PyData.depth, D.dep]
  | .fK _ => by simp [D.py, PyData.depth, D.dep]
  | .fT _ => by simp [D.py, PyData.depth, D.dep]
  | .raw _ => by simp [D.py, PyData.depth, D.dep]
  | .scr _ => by simp [D.py, PyData.depth, D.dep]
  | .fn _ _ => by simp [D.py, PyData.depth, D.dep]
theorem D.pys_dep : ∀ ds : List D, PyData.depthAll (D.pys ds) = D.deps ds
  | [] => by simp [D.pys, PyData.depthAll, D.deps]
  | d :: ds => by simp [D.pys, PyData.depthAll, D.deps, D.py_dep d, D.pys_dep ds]
end
theorem D.shaped {d : D} (l : d.lay = true) (h : d.dep ≤ 64) : SeqAt.shaped d.py = true := by
  show (d.py.canLay0 && decide (d.py.depth ≤ 64)) = true
  rw [Bool.and_eq_true]
  exact ⟨D.lay_can d l, decide_eq_true (by rw [D.py_dep]; exact h)⟩
/-- may be compared: d.cm = laid out of plain things, not too deep -/
def D.cm (d : D) : Prop := d.lay = true ∧ d.dep ≤ 64
theorem D.cm.sh {d : D} (h : d.cm) : SeqAt.shaped d.py = true := D.shaped h.1 h.2
/-- == -/
def D.eq (d e : D) : Bool := PyData.eqv d.py e.py

section
variable {X : Cx} {E : EK} {e a b c : Expr} {es : List Expr} {pos : Pos} {da db : dE}
/-! ### comparisons -/
def rEq : DR2 := fun x y Q => x.cm ∧ y.cm ∧ Q (.bl (x.eq y))
def rNe : DR2 := fun x y Q => x.cm ∧ y.cm ∧ Q (.bl (!x.eq y))
theorem od_eq (hu : X.A.units + 64 < cLine) : OpD X (compareOp .Eq) rEq := fun pins s σ H x y v u Q I rx ry ⟨S, dx, dy, Q', ex, n1, n2, ⟨c1, c2, q⟩, post⟩ =>
  op_eqD hu pins s σ H x y v u Q I rx ry ⟨_, _, (n1.mono ex).dp c1.1, (n2.mono ex).dp c2.1, c1.sh, c2.sh, post _ _ _ _ q (Grow.refl ex) (.bl _)⟩
theorem od_ne (hu : X.A.units + 64 < cLine) : OpD X (compareOp .NotEq) rNe := fun pins s σ H x y v u Q I rx ry ⟨S, dx, dy, Q', ex, n1, n2, ⟨c1, c2, q⟩, post⟩ =>
  op_neD hu pins s σ H x y v u Q I rx ry ⟨_, _, (n1.mono ex).dp c1.1, (n2.mono ex).dp c2.1, c1.sh, c2.sh, post _ _ _ _ q (Grow.refl ex) (.bl _)⟩
def rCI (p : Int → Int → Bool) : DR2 := fun x y Q => match x, y with | .int i, .int j => Q (.bl (p i j)) | _, _ => False
theorem od_ci {op : CmpOp} {p : Int → Int → Bool} (h : OpR X (compareOp op) (rI0 fun i j => .bl (p i j))) : OpD X (compareOp op) (rCI p) := fun pins s σ H x y v u Q I rx ry ⟨S, dx, dy, Q', ex, n1, n2, q, post⟩ => by
  match dx, dy, n1, n2, q with
  | .int i, .int j, .int _, .int _, q => exact h pins s σ H _ _ v u Q I rx ry ⟨i, j, rfl, rfl, post _ _ _ _ q (Grow.refl ex) (.bl _)⟩
abbrev rLt : DR2 := rCI fun i j => decide (i < j)
abbrev rLe : DR2 := rCI fun i j => decide (i ≤ j)
abbrev rGt : DR2 := rCI fun i j => decide (j < i)
abbrev rGe : DR2 := rCI fun i j => decide (j ≤ i)
theorem od_lt : OpD X (compareOp .Lt) rLt := od_ci op_lt
theorem od_le : OpD X (compareOp .LtE) rLe := od_ci op_le
theorem od_gt : OpD X (compareOp .Gt) rGt := od_ci op_gt
theorem od_ge : OpD X (compareOp .GtE) rGe := od_ci op_ge
/-- is None, is not None -/
def D.isN : D → Bool | .non => true | .raw v => decide (v = .non) | _ => false
theorem Dn.isN {v : V} {d : D} (h : Dn K S v d) : decide (v = .non) = d.isN := by
  cases h <;> simp [D.isN]
def rIsN : DR2 := fun x y Q => match y with | .non => Q (.bl x.isN) | _ => False
def rNotN : DR2 := fun x y Q => match y with | .non => Q (.bl (!x.isN)) | _ => False
theorem od_isN : OpD X (compareOp .Is) rIsN := fun pins s σ H x y v u Q I rx ry ⟨S, dx, dy, Q', ex, n1, n2, q, post⟩ => by
  match dy, n2, q with
  | .non, .non, q => exact op_isN pins s σ H _ _ v u Q I rx ry ⟨rfl, post _ _ _ _ q (Grow.refl ex) (by rw [n1.isN]; exact .bl _)⟩
theorem od_notN : OpD X (compareOp .IsNot) rNotN := fun pins s σ H x y v u Q I rx ry ⟨S, dx, dy, Q', ex, n1, n2, q, post⟩ => by
  match dy, n2, q with
  | .non, .non, q => exact op_notN pins s σ H _ _ v u Q I rx ry ⟨rfl, post _ _ _ _ q (Grow.refl ex) (by rw [n1.isN]; exact .bl _)⟩

/-! ### arithmetic, texts, rows -/
def rIO (C : Int → Int → Prop) (g : Int → Int → Int) : DR2 := fun x y Q => match x, y with | .int i, .int j => C i j ∧ Q (.int (g i j)) | _, _ => False
theorem od_io {op : Operator} {C : Int → Int → Prop} {g : Int → Int → Int} (h : OpR X (binaryOp op) (rI C fun i j => .int (g i j))) : OpD X (binaryOp op) (rIO C g) := fun pins s σ H x y v u Q I rx ry ⟨S, dx, dy, Q', ex, n1, n2, q, post⟩ => by
  match dx, dy, n1, n2, q with
  | .int i, .int j, .int _, .int _, q => exact h pins s σ H _ _ v u Q I rx ry ⟨i, j, rfl, rfl, q.1, post _ _ _ _ q.2 (Grow.refl ex) (.int _)⟩
def rMulI : DR2 := rIO CMul fun i j => i * j
def rDivI : DR2 := rIO CDiv fun i j => i / j
def rModI : DR2 := rIO (fun _ j => 0 < j) fun i j => i % j
def rPowI : DR2 := rIO CPow fun i j => i ^ j.toNat
theorem od_mul : OpD X (binaryOp .Mult) rMulI := od_io op_mul
theorem od_div : OpD X (binaryOp .FloorDiv) rDivI := od_io op_fdiv
theorem od_mod : OpD X (binaryOp .Mod) rModI := od_io op_mod
theorem od_pow : OpD X (binaryOp .Pow) rPowI := od_io op_pow
def rSubI : DR2 := fun x y Q => match x, y with | .int i, .int j => Q (.int (i - j)) | _, _ => False
theorem od_sub : OpD X (binaryOp .Sub) rSubI := fun pins s σ H x y v u Q I rx ry ⟨S, dx, dy, Q', ex, n1, n2, q, post⟩ => by
  match dx, dy, n1, n2, q with
  | .int i, .int j, .int _, .int _, q => exact op_sub pins s σ H _ _ v u Q I rx ry ⟨i, j, rfl, rfl, post _ _ _ _ q (Grow.refl ex) (.int _)⟩
/-- + -/
def rAddD : DR2 := fun x y Q => match x, y with
  | .int i, .int j => Q (.int (i + j))
  | .str i, .str j => i.length + j.length ≤ sizeLine ∧ Q (.str (i ++ j))
  | .tup i, .tup j => i.length + j.length ≤ sizeLine ∧ Q (.tup (i ++ j))
  | _, _ => False
theorem od_add : OpD X (binaryOp .Add) rAddD := fun pins s σ H x y v u Q I rx ry ⟨S, dx, dy, Q', ex, n1, n2, q, post⟩ => by
  match dx, dy, n1, n2, q with
  | .int i, .int j, .int _, .int _, q => exact op_add pins s σ H _ _ v u Q I rx ry ⟨i, j, rfl, rfl, post _ _ _ _ q (Grow.refl ex) (.int _)⟩
  | .str i, .str j, .str _, .str _, q => exact op_add_str pins s σ H _ _ v u Q I rx ry ⟨i, j, rfl, rfl, q.1, post _ _ _ _ q.2 (Grow.refl ex) (.str _)⟩
  | .tup i, .tup j, .tup h1 a1, .tup h2 a2, q =>
    refine op_catA pins s σ H _ _ v u Q I rx ry ⟨_, _, _, _, rfl, rfl, SqT.of (ex _ _ h1), SqT.of (ex _ _ h2), by rw [a1.length, a2.length]; exact q.1, fun e => ?_, fun _ e => ?_, fun _ _ p hp => ?_⟩
    · subst e; cases a1; exact post _ _ _ _ q.2 (Grow.refl ex) (.tup h2 a2)
    · subst e; cases a2; have := q.2; rw [List.append_nil] at this; exact post _ _ _ _ this (Grow.refl ex) (.tup h1 a1)
    · exact post _ _ _ _ q.2 (Grow.new ex hp) (.tup upd_same ((a1.append a2).mono (Ex.new (ex.none hp))))
/-- lists: + , * -/
abbrev DF2 := D → D → (List D → Prop) → Prop
def liftRF (K : PySem.W.Frag) (r : DF2) : R2 := fun x y H Q => ∃ S dx dy Q', Sb S H ∧ Dn K S x dx ∧ Dn K S y dy ∧ r dx dy Q' ∧ ∀ xs p vs, Q' xs → H p = none → DnA K S vs xs → Q (.ref p) (upd H p (.lst vs))
def dBinF (r : DF2) (da db : dE) : dF := fun W δ Q => da W δ fun x δ1 => db W δ1 fun y δ2 => r x y fun z => Q z δ2
theorem df_op {op : Operator} {r : DF2} (ho : OpR X (binaryOp op) (liftRF X.K r)) (ha : DE X E a da) (hb : DE X E b db) : DF X E (.BinOp a op b pos) (dBinF r da db) := ⟨fun B => pe_mono (pe_op ho (ha.run B) (hb.run B)) fun σ H Q q => by
  obtain ⟨δ, S, W, Q', R, q, xo, post⟩ := q
  refine ⟨δ, S, W, _, R, q, xo, fun x δ1 v S1 H1 q1 e1 R1 n1 => ?_⟩
  refine ⟨δ1, S1, W, _, R1, q1, xo.mono e1, fun y δ2 u S2 H2 q2 e2 R2 n2 => ?_⟩
  exact ⟨S2, x, y, _, R2.ex, n1.mono e2, n2, q2, fun xs p vs q3 hp a => post _ _ _ _ _ _ q3 (e1.trans e2) R2 hp a⟩⟩
def rCatL : DF2 := fun x y Q => match x, y with | .lst i, .lst j => i.length + j.length ≤ sizeLine ∧ Q (i ++ j) | _, _ => False
theorem od_catL : OpR X (binaryOp .Add) (liftRF X.K rCatL) := fun pins s σ H x y v u Q I rx ry ⟨S, dx, dy, Q', ex, n1, n2, q, post⟩ => by
  match dx, dy, n1, n2, q with
  | .lst i, .lst j, .lst h1 a1, .lst h2 a2, q =>
    exact op_cat pins s σ H _ _ v u Q I rx ry ⟨_, _, _, _, rfl, rfl, ex _ _ h1, ex _ _ h2, by rw [a1.length, a2.length]; exact q.1, fun p hp => post _ _ _ q.2 hp (a1.append a2)⟩
def rRepL : DF2 := fun x y Q => match x, y with | .lst i, .int k => -(2 ^ 63) ≤ k ∧ k < 2 ^ 63 ∧ i.length * k.toNat ≤ sizeLine ∧ Q (List.replicate k.toNat i).flatten | _, _ => False
theorem DnA.rep {vs : List V} {ds : List D} (a : DnA K S vs ds) : ∀ n : Nat, DnA K S (List.replicate n vs).flatten (List.replicate n ds).flatten
  | 0 => .nil
  | n + 1 => by
    rw [List.replicate_succ, List.replicate_succ, List.flatten_cons, List.flatten_cons]
    exact a.append (a.rep n)
theorem od_repL : OpR X (binaryOp .Mult) (liftRF X.K rRepL) := fun pins s σ H x y v u Q I rx ry ⟨S, dx, dy, Q', ex, n1, n2, q, post⟩ => by
  match dx, dy, n1, n2, q with
  | .lst i, .int k, .lst h1 a1, .int _, q =>
    exact op_rep pins s σ H _ _ v u Q I rx ry ⟨_, k, _, rfl, rfl, ex _ _ h1, q.1, q.2.1, by rw [a1.length]; exact q.2.2.1, fun p hp => post _ _ _ q.2.2.2 hp (a1.rep _)⟩
/-- in, not in -/
def rInD (neg : Bool) : DR2 := fun x y Q => x.cm ∧ y.cm ∧ match y with
  | .lst ds => Q (.bl (if neg then !(ds.any fun z => z.eq x) else ds.any fun z => z.eq x))
  | .tup ds => Q (.bl (if neg then !(ds.any fun z => z.eq x) else ds.any fun z => z.eq x))
  | .kt ds => Q (.bl (if neg then !(ds.any fun z => z.eq x) else ds.any fun z => z.eq x))
  | _ => False
theorem D.any_py (x : D) : ∀ ds : List D, ((D.pys ds).any fun z => PyData.eqv z x.py) = ds.any fun z => z.eq x
  | [] => rfl
  | d :: ds => by
    have := D.any_py x ds
    simp only [D.pys, List.any_cons, this]
    rfl
end
end Ev

namespace Ev
open PySem PySem.Spec PyProof.Rows L2
variable [TabC]
variable {K : PySem.W.Frag} {S S' H H' : Hp} {B : Bs} {δ : DS} {σ : L2.St}
section
variable {X : Cx} {E : EK} {e a b c : Expr} {es : List Expr} {pos p : Pos} {da db : dE}
/-! ### in -/
theorem room_in {A : Around} {ds : List D} {d : D} (h : d.dep ≤ 64) (hu : A.units + 65 < cLine) : A.units + 1 + min (PyData.depthAll (D.pys ds)) d.py.depth < cLine := by
  rw [D.py_dep]; omega
theorem od_in (hu : X.A.units + 65 < cLine) : OpD X (compareOp .In) (rInD false) := fun pins s σ H x y v u Q I rx ry ⟨S, dx, dy, Q', ex, n1, n2, ⟨c1, c2, q⟩, post⟩ => by
  obtain ⟨as, r1⟩ := Dp.reads I _ _ _ ((n1.mono ex).dp c1.1) rx
  match dy, n2, c2, q with
  | .lst ds, n2, c2, q =>
    obtain ⟨bs, r2⟩ := Dp.reads I _ _ _ ((n2.mono ex).dp c2.1) ry
    exact SeqAt.in_list_reads r2 r1 (D.lays_can ds c2.1) (D.lay_can dx c1.1) (room_in c1.2 hu) ⟨.bl _, H, I, rfl, post _ _ _ _ (by rw [D.any_py]; exact q) (Grow.refl ex) (.bl _)⟩
  | .tup ds, n2, c2, q =>
    obtain ⟨bs, r2⟩ := Dp.reads I _ _ _ ((n2.mono ex).dp c2.1) ry
    exact SeqAt.in_tuple_reads r2 r1 (D.lays_can ds c2.1) (D.lay_can dx c1.1) (room_in c1.2 hu) ⟨.bl _, H, I, rfl, post _ _ _ _ (by rw [D.any_py]; exact q) (Grow.refl ex) (.bl _)⟩
  | .kt ds, n2, c2, q =>
    obtain ⟨bs, r2⟩ := Dp.reads I _ _ _ ((n2.mono ex).dp c2.1) ry
    exact SeqAt.in_tuple_reads r2 r1 (D.lays_can ds c2.1) (D.lay_can dx c1.1) (room_in c1.2 hu) ⟨.bl _, H, I, rfl, post _ _ _ _ (by rw [D.any_py]; exact q) (Grow.refl ex) (.bl _)⟩
theorem od_notin (hu : X.A.units + 65 < cLine) : OpD X (compareOp .NotIn) (rInD true) := fun pins s σ H x y v u Q I rx ry ⟨S, dx, dy, Q', ex, n1, n2, ⟨c1, c2, q⟩, post⟩ => by
  obtain ⟨as, r1⟩ := Dp.reads I _ _ _ ((n1.mono ex).dp c1.1) rx
  match dy, n2, c2, q with
  | .lst ds, n2, c2, q =>
    obtain ⟨bs, r2⟩ := Dp.reads I _ _ _ ((n2.mono ex).dp c2.1) ry
    exact SeqAt.notIn_list_reads r2 r1 (D.lays_can ds c2.1) (D.lay_can dx c1.1) (room_in c1.2 hu) ⟨.bl _, H, I, rfl, post _ _ _ _ (by rw [D.any_py]; exact q) (Grow.refl ex) (.bl _)⟩
  | .tup ds, n2, c2, q =>
    obtain ⟨bs, r2⟩ := Dp.reads I _ _ _ ((n2.mono ex).dp c2.1) ry
    exact SeqAt.notIn_tuple_reads r2 r1 (D.lays_can ds c2.1) (D.lay_can dx c1.1) (room_in c1.2 hu) ⟨.bl _, H, I, rfl, post _ _ _ _ (by rw [D.any_py]; exact q) (Grow.refl ex) (.bl _)⟩
  | .kt ds, n2, c2, q =>
    obtain ⟨bs, r2⟩ := Dp.reads I _ _ _ ((n2.mono ex).dp c2.1) ry
    exact SeqAt.notIn_tuple_reads r2 r1 (D.lays_can ds c2.1) (D.lay_can dx c1.1) (room_in c1.2 hu) ⟨.bl _, H, I, rfl, post _ _ _ _ (by rw [D.any_py]; exact q) (Grow.refl ex) (.bl _)⟩

/-! ### items, slices -/
def optQ {α : Type} (o : Option α) (Q : α → Prop) : Prop := match o with | some d => Q d | none => False
theorem optQ_ex {α : Type} {o : Option α} {Q : α → Prop} (h : optQ o Q) : ∃ d, o = some d ∧ Q d := by
  cases o with
  | none => exact h.elim
  | some d => exact ⟨d, rfl, h⟩
def rIxD : DR2 := fun x y Q => match x, y with
  | .lst ds, .int i => optQ (atI ds i) Q
  | .tup ds, .int i => optQ (atI ds i) Q
  | .kt ds, .int i => optQ (atI ds i) Q
  | .str z, .int i => z.length ≤ sizeLine ∧ optQ (atI z.cps.toList i) fun c => Q (.str ⟨#[c]⟩)
  | _, _ => False
theorem DnA.atI {vs : List V} {ds : List D} {i : Int} {d : D} (a : DnA K S vs ds) (h : L2.atI ds i = some d) : ∃ v, L2.atI vs i = some v ∧ Dn K S v d := by
  unfold L2.atI at h ⊢
  rw [a.length]
  cases q : ixN ds.length i with
  | none => rw [q] at h; cases h
  | some j => rw [q] at h; exact a.get h
theorem ix_d : IxR X (liftR X.K rIxD) := fun value slice pins s σ H x y v u Q I rx ry ⟨S, dx, dy, Q', ex, n1, n2, q, post⟩ hs => by
  match dx, dy, n1, n2, q with
  | .lst ds, .int i, .lst h1 a1, .int _, q =>
    obtain ⟨d, hi, q⟩ := optQ_ex q
    obtain ⟨w, e1, e2⟩ := a1.atI hi
    exact ix_list value slice pins s σ H _ _ v u Q I rx ry ⟨_, _, i, w, rfl, rfl, SqL.of (ex _ _ h1), e1, post _ _ _ _ q (Grow.refl ex) e2⟩ hs
  | .tup ds, .int i, .tup h1 a1, .int _, q =>
    obtain ⟨d, hi, q⟩ := optQ_ex q
    obtain ⟨w, e1, e2⟩ := a1.atI hi
    exact ix_tup value slice pins s σ H _ _ v u Q I rx ry ⟨_, _, i, w, rfl, rfl, SqT.of (ex _ _ h1), e1, post _ _ _ _ q (Grow.refl ex) e2⟩ hs
  | .kt ds, .int i, .kt h1 a1, .int _, q =>
    obtain ⟨d, hi, q⟩ := optQ_ex q
    obtain ⟨w, e1, e2⟩ := a1.atI hi
    exact ix_tup value slice pins s σ H _ _ v u Q I rx ry ⟨_, _, i, w, rfl, rfl, h1.sqT, e1, post _ _ _ _ q (Grow.refl ex) e2⟩ hs
  | .str z, .int i, .str _, .int _, q =>
    obtain ⟨c, hi, q2⟩ := optQ_ex q.2
    exact ix_str value slice pins s σ H _ _ v u Q I rx ry ⟨z, i, c, rfl, rfl, q.1, hi, post _ _ _ _ q2 (Grow.refl ex) (.str _)⟩ hs
theorem de_ix (ha : DE X E a da) (hb : DE X E b db) (hs : PlainIx b) : DE X E (.Subscript a b pos) (dBin rIxD da db) := ⟨fun B => pe_mono (pe_ix ix_d (ha.run B) (hb.run B) hs) fun σ H Q q => lift_bin q⟩
/-- a list of one's own (or the pen's own) in a slot -/
def ownAt (δ : DS) (i : Nat) : Option (List D) := match δ.sl[i]? with
  | some (.own ds) => some ds
  | some (.hp ds) => some ds
  | _ => none
def setOwnAt (δ : DS) (i : Nat) (ds : List D) : DS := match δ.sl[i]? with
  | some (.own _) => setSl δ i (.own ds)
  | some (.hp _) => setSl δ i (.hp ds)
  | _ => δ
theorem Rel.ownAt (R : Rel K B δ S σ H) {i : Nat} {ds : List D} (h : ownAt δ i = some ds) : ∃ p vs, σ[i]? = some (some (.ref p)) ∧ H p = some (.lst vs) ∧ DnA K S vs ds ∧ S p = none ∧
    ∀ vs' ds', DnA K S vs' ds' → Rel K B (setOwnAt δ i ds') S σ (upd H p (.lst vs')) := by
  unfold Ev.ownAt at h
  unfold setOwnAt
  split at h
  · rename_i d hd
    cases h
    obtain ⟨p, vs, h1, h2, h3, h4, _, _, h5⟩ := R.own hd
    exact ⟨p, vs, h1, h2, h3, h4, h5⟩
  · rename_i d hd
    cases h
    obtain ⟨p, vs, h1, h2, h3, h4, _, h5⟩ := R.hp hd
    exact ⟨p, vs, h1, h2, h3, h4, h5⟩
  · cases h
/-- the list in slot i, of one's own or frozen, to be looked at -/
def lookAt (δ : DS) (i : Nat) : Option (List D) := match δ.sl[i]? with
  | some (.own ds) => some ds
  | some (.hp ds) => some ds
  | some (.dat (.lst ds)) => some ds
  | _ => none
theorem Rel.lookAt (R : Rel K B δ S σ H) {i : Nat} {ds : List D} (h : lookAt δ i = some ds) : ∃ p vs, σ[i]? = some (some (.ref p)) ∧ H p = some (.lst vs) ∧ DnA K S vs ds ∧ (S p = none ∨ S p = some (.lst vs)) := by
  unfold Ev.lookAt at h
  split at h
  · rename_i d hd
    cases h
    obtain ⟨p, vs, h1, h2, h3, h4, _⟩ := R.own hd
    exact ⟨p, vs, h1, h2, h3, .inl h4⟩
  · rename_i d hd
    cases h
    obtain ⟨p, vs, h1, h2, h3, h4, _⟩ := R.hp hd
    exact ⟨p, vs, h1, h2, h3, .inl h4⟩
  · rename_i d hd
    cases h
    obtain ⟨v, e1, e2⟩ := R.dat hd
    match v, e1, e2 with
    | .ref p, e1, .lst h1 h2 => exact ⟨p, _, e1, R.ex _ _ h1, h2, .inr h1⟩
  · cases h
/-- the list in slot i, an item of it -/
def dOwnIx (i : Nat) (d : dE) : dE := fun W δ Q => (∃ ds, lookAt δ i = some ds) ∧ d W δ fun y δ1 => match y with
  | .int j => optQ (lookAt δ1 i) fun ds => optQ (atI ds j) fun d => Q d δ1
  | _ => False
theorem de_ownIx {i : Nat} {x : Str} (hv : PE X (.Name x p) (tVar i)) (hb : DE X E b db) (hs : PlainIx b) : DE X E (.Subscript (.Name x p) b pos) (dOwnIx i db) := ⟨fun B => pe_mono (pe_ix ix_list hv (hb.run B) hs) fun σ H Q q => by
  obtain ⟨δ, S, W, Q', R, ⟨⟨ds0, h0⟩, q⟩, xo, post⟩ := q
  obtain ⟨p0, _, v0, _⟩ := R.lookAt h0
  refine ⟨.ref p0, v0, δ, S, W, _, R, q, xo, fun y δ1 v S1 H1 q1 e1 R1 n1 => ?_⟩
  match y, n1, q1 with
  | .int j, .int _, q1 =>
    obtain ⟨ds, h1, q1⟩ := optQ_ex q1
    obtain ⟨d, h2, q1⟩ := optQ_ex q1
    obtain ⟨p1, vs, v1, g1, a1, _⟩ := R1.lookAt h1
    rw [v0] at v1
    cases v1
    obtain ⟨w, w1, w2⟩ := a1.atI h2
    exact ⟨p0, vs, j, w, rfl, rfl, SqL.of g1, w1, post _ _ _ _ _ q1 e1 R1 w2⟩⟩
/-- name[i] = e, the list of one's own -/
def dSetIx (i : Nat) (di de : dE) : dS := fun W N δ => de W δ fun x δ1 => (∃ ds, ownAt δ1 i = some ds) ∧ di W δ1 fun y δ2 => match y with
  | .int k => optQ (ownAt δ2 i) fun ds => optQ (ixN ds.length k) fun j => N.nx (setOwnAt δ2 i (ds.set j x))
  | _ => False
theorem ds_setIx {i : Nat} {x : Str} {tp : Pos} (hv : PE X (.Name x p) (tVar i)) (hi : DE X E b db) (he : DE X E e da) (hs : swapsWithSole [.Subscript (.Name x p) b tp] e pos.line X.env = pure false := by rfl) (hw : swappedStores [.Subscript (.Name x p) b tp] e X.env = pure none := by rfl)
    (h1 : (assignEach [.Subscript (.Name x p) b tp] X.env).map (·.2) = [assign (.Subscript (.Name x p) b tp) X.env] := by rfl)
    (h2 : ∀ v, assign (.Subscript (.Name x p) b tp) X.env v = (do
      let ov ← holding [v] (eval (.Name x p) X.env)
      let iv ← holding [v, ov] (eval b X.env)
      standAt tp
      holding [v, ov, iv] (setItem ov iv v)
      release [v, ov, iv] []) := by intro _; rfl) : DSt X E (.Assign [.Subscript (.Name x p) b tp] e pos) (dSetIx i db da) := ⟨fun B => ps_mono (ps_asg (he.run B) (pg_sub hv (hi.run B) set_list h2) hs hw h1) fun Z σ H q => by
  obtain ⟨δ, S, W, N, R, q, xo, p1, _⟩ := q
  refine ⟨δ, S, W, _, R, q, xo, fun d δ1 v S1 H1 q1 e1 R1 n1 => ?_⟩
  obtain ⟨⟨ds0, h0⟩, q1⟩ := q1
  obtain ⟨p0, _, v0, _⟩ := R1.ownAt h0
  refine ⟨.ref p0, v0, δ1, S1, W, _, R1, q1, xo.mono e1, fun y δ2 u S2 H2 q2 e2 R2 n2 => ?_⟩
  match y, n2, q2 with
  | .int k, .int _, q2 =>
    obtain ⟨ds, h1, q2⟩ := optQ_ex q2
    obtain ⟨j, hj, q2⟩ := optQ_ex q2
    obtain ⟨p1', vs, v1, g1, a1, _, put⟩ := R2.ownAt h1
    rw [v0] at v1
    cases v1
    exact ⟨p0, vs, k, j, rfl, rfl, g1, by rw [a1.length]; exact hj, p1 _ _ _ _ q2 (e1.trans e2) (put _ _ (a1.set (n1.mono e2) j))⟩⟩
/-- e[lo:hi] -/
abbrev dO := XW → DS → (Option Int → DS → Prop) → Prop
def liftO (K : PySem.W.Frag) (B : Bs) (E : EK) (d : dO) : TO := fun σ H Q => ∃ δ S W Q', Rel K B δ S σ H ∧ d W δ Q' ∧ XOk K B E W S ∧ ∀ o δ' S' H', Q' o δ' → Ex S S' → Rel K B δ' S' σ H' → Q o H'
structure DO (X : Cx) (E : EK) (e : Option Expr) (d : dO) : Prop where
  run : ∀ B, PO X e (liftO X.K B E d)
def oNone : dO := fun _ δ Q => Q none δ
def oSome (d : dE) : dO := fun W δ Q => d W δ fun x δ' => match x with | .int i => Q (some i) δ' | _ => False
theorem po_mono {o : Option Expr} {t t' : TO} (h : PO X o t) (m : ∀ σ H Q, t' σ H Q → t σ H Q) : PO X o t' := ⟨fun pins s σ H Q I q => h.run pins s σ H Q I (m _ _ _ q)⟩
theorem do_none : DO X E none oNone := ⟨fun B => po_mono po_none fun σ H Q q => by
  obtain ⟨δ, S, W, Q', R, q, xo, post⟩ := q
  exact post _ _ _ _ q (Ex.refl _) R⟩
theorem do_some (h : DE X E e da) : DO X E (some e) (oSome da) := ⟨fun B => po_mono (po_some (h.run B)) fun σ H Q q => by
  obtain ⟨δ, S, W, Q', R, q, xo, post⟩ := q
  refine ⟨δ, S, W, _, R, q, xo, fun x δ1 v S1 H1 q1 e1 R1 n1 => ?_⟩
  match x, n1, q1 with
  | .int i, .int _, q1 => exact ⟨i, rfl, post _ _ _ _ q1 e1 R1⟩⟩
def cutD {α : Type} (xs : List α) (lo hi : Option Int) : List α := (xs.drop (HT.sIx xs.length 0 lo)).take (HT.sIx xs.length xs.length hi - HT.sIx xs.length 0 lo)
theorem DnA.cut {vs : List V} {ds : List D} (a : DnA K S vs ds) (lo hi : Option Int) : DnA K S (cutV vs lo hi) (cutD ds lo hi) := by
  unfold cutV cutD
  rw [a.length]
  exact (a.drop _).take _
theorem cut_whole {α : Type} {xs : List α} {lo hi : Option Int} (h : HT.sIx xs.length 0 lo = 0 ∧ HT.sIx xs.length xs.length hi = xs.length) : cutD xs lo hi = xs := by
  unfold cutD
  rw [h.1, h.2]
  simp
/-- a slice of a tuple, of a text -/
def dSlT (d : dE) (lo hi : dO) : dE := fun W δ Q => d W δ fun x δ1 => lo W δ1 fun l δ2 => hi W δ2 fun h δ3 => match x with
  | .tup ds => Q (.tup (cutD ds l h)) δ3
  | .str z => z.length ≤ sizeLine ∧ Q (.str (cutS z l h)) δ3
  | _ => False
/-- a slice of a list -/
def dSlL (d : dE) (lo hi : dO) : dF := fun W δ Q => d W δ fun x δ1 => lo W δ1 fun l δ2 => hi W δ2 fun h δ3 => match x with
  | .lst ds => Q (cutD ds l h) δ3
  | .scr ns => Q (cutD (ns.map .int) l h) δ3
  | _ => False
theorem de_slT {lo hi : Option Expr} {dl dh : dO} {p2 : Pos} (he : DE X E e da) (hl : DO X E lo dl) (hh : DO X E hi dh) : DE X E (.Subscript e (.Slice lo hi none p2) pos) (dSlT da dl dh) := ⟨fun B => pe_mono (pe_slice (SlR.or sl_tupA sl_str) (he.run B) (hl.run B) (hh.run B)) fun σ H Q q => by
  obtain ⟨δ, S, W, Q', R, q, xo, post⟩ := q
  refine ⟨δ, S, W, _, R, q, xo, fun x δ1 v S1 H1 q1 e1 R1 n1 => ⟨δ1, S1, W, _, R1, q1, xo.mono e1, fun l δ2 S2 H2 q2 e2 R2 => ⟨δ2, S2, W, _, R2, q2, xo.mono (e1.trans e2), fun h δ3 S3 H3 q3 e3 R3 => ?_⟩⟩⟩
  have e := (e1.trans e2).trans e3
  match x, n1.mono (e2.trans e3), q3 with
  | .tup ds, .tup h1 a1, q3 =>
    refine .inl ⟨_, _, rfl, SqT.of (R3.ex _ _ h1), fun hw => ?_, fun _ p hp => ?_⟩
    · rw [a1.length] at hw
      have q3 : Q' (.tup (cutD ds l h)) δ3 := q3
      rw [cut_whole hw] at q3
      exact post _ _ _ _ _ q3 e R3 (.tup h1 a1)
    · exact post _ _ _ _ _ q3 (e.trans (Ex.new (R3.ex.none hp))) (R3.new hp) (.tup upd_same ((a1.cut l h).mono (Ex.new (R3.ex.none hp))))
  | .str z, .str _, q3 => exact .inr ⟨z, rfl, q3.1, post _ _ _ _ _ q3.2 e R3 (.str _)⟩⟩
theorem df_slL {lo hi : Option Expr} {dl dh : dO} {p2 : Pos} (he : DE X E e da) (hl : DO X E lo dl) (hh : DO X E hi dh) : DF X E (.Subscript e (.Slice lo hi none p2) pos) (dSlL da dl dh) := ⟨fun B => pe_mono (pe_slice sl_list (he.run B) (hl.run B) (hh.run B)) fun σ H Q q => by
  obtain ⟨δ, S, W, Q', R, q, xo, post⟩ := q
  refine ⟨δ, S, W, _, R, q, xo, fun x δ1 v S1 H1 q1 e1 R1 n1 => ⟨δ1, S1, W, _, R1, q1, xo.mono e1, fun l δ2 S2 H2 q2 e2 R2 => ⟨δ2, S2, W, _, R2, q2, xo.mono (e1.trans e2), fun h δ3 S3 H3 q3 e3 R3 => ?_⟩⟩⟩
  match x, n1.mono (e2.trans e3), q3 with
  | .lst ds, .lst h1 a1, q3 => exact ⟨_, _, rfl, SqL.of (R3.ex _ _ h1), fun p hp => post _ _ _ _ _ _ q3 ((e1.trans e2).trans e3) R3 hp (a1.cut l h)⟩
  | .scr ns, .scr h1, q3 => exact ⟨_, _, rfl, R3.ex.sqL h1, fun p hp => post _ _ _ _ _ _ q3 ((e1.trans e2).trans e3) R3 hp ((DnA.ints ns).cut l h)⟩⟩
end
end Ev

namespace Ev
open PySem PySem.Spec PyProof.Rows L2
variable [TabC]
variable {K : PySem.W.Frag} {S S' H H' : Hp} {B : Bs} {δ : DS} {σ : L2.St}
section
variable {X : Cx} {E : EK} {e a b c : Expr} {es : List Expr} {pos p : Pos} {da db : dE} {x : Str}
/-! ### calls of built-ins -/
abbrev DRC := List D → (D → Prop) → Prop
def liftC (K : PySem.W.Frag) (r : DRC) : List V → Hp → VK → Prop := fun vs H Q => ∃ S ds Q', Sb S H ∧ DnA K S vs ds ∧ r ds Q' ∧ ∀ dz v S' H', Q' dz → Grow S H S' H' → Dn K S' v dz → Q v H'
abbrev DRF := List D → (List D → Prop) → Prop
def liftCF (K : PySem.W.Frag) (r : DRF) : List V → Hp → VK → Prop := fun vs H Q => ∃ S ds Q', Sb S H ∧ DnA K S vs ds ∧ r ds Q' ∧ ∀ xs ws p, Q' xs → H p = none → DnA K S ws xs → Q (.ref p) (upd H p (.lst ws))
def dCB (r : DRC) (a : dA) : dE := fun W δ Q => a W δ fun xs δ1 => r xs fun z => Q z δ1
def dCBF (r : DRF) (a : dA) : dF := fun W δ Q => a W δ fun xs δ1 => r xs fun z => Q z δ1
theorem lift_CB {r : DRC} {d : dA} {Q : VK} (q : liftE K B E (dCB r d) σ H Q) : tCB (liftC K r) (liftA K B E d) σ H Q := by
  obtain ⟨δ, S, W, Q', R, q, xo, post⟩ := q
  exact ⟨δ, S, W, _, R, q, xo, fun xs δ1 vs S1 H1 q1 e1 R1 n1 => ⟨S1, xs, _, R1.ex, n1, q1, fun dz v S' H' q2 g n2 => post _ _ _ _ _ q2 (e1.trans g.s) (R1.grow g) n2⟩⟩
theorem lift_CBF {r : DRF} {d : dA} {Q : VK} (q : liftF K B E (dCBF r d) σ H Q) : tCB (liftCF K r) (liftA K B E d) σ H Q := by
  obtain ⟨δ, S, W, Q', R, q, xo, post⟩ := q
  exact ⟨δ, S, W, _, R, q, xo, fun xs δ1 vs S1 H1 q1 e1 R1 n1 => ⟨S1, xs, _, R1.ex, n1, q1, fun ys ws p q2 hp n2 => post _ _ _ _ _ _ q2 e1 R1 hp n2⟩⟩
theorem de_callB {id : String} {r : DRC} {d : dA} (hc : CallR X (.builtin id) (liftC X.K r)) (gl : Gl X x) (hm : X.mg x = none) (hv : bootBuiltins x = some (.builtin id)) (ha : DA X E (e :: es) d) (hn : x ≠ "__name__" := by decide) (hdb : (x == ("__debug__" : Str)) = false := by decide)
    (he : starEach (e :: es) X.env = (false, eval e X.env) :: starEach es X.env := by rfl) (hpl : (backTo pos (starEach es X.env)).any (·.1) = false := by rfl) : DE X E (.Call (.Name x p) (e :: es) [] pos) (dCB r d) :=
  ⟨fun B => pe_mono (pe_callB hc gl hm hv (ha.run B) hn hdb he hpl) fun σ H Q q => lift_CB q⟩
theorem de_callTy {T : String} {r : DRC} {d : dA} (hc : CallR X (.type T) (liftC X.K r)) (gl : Gl X x) (hm : X.mg x = none) (hv : bootBuiltins x = some (.type T)) (ha : DA X E (e :: es) d) (hn : x ≠ "__name__" := by decide) (hdb : (x == ("__debug__" : Str)) = false := by decide)
    (he : starEach (e :: es) X.env = (false, eval e X.env) :: starEach es X.env := by rfl) (hpl : (backTo pos (starEach es X.env)).any (·.1) = false := by rfl) : DE X E (.Call (.Name x p) (e :: es) [] pos) (dCB r d) :=
  ⟨fun B => pe_mono (pe_callTy hc gl hm hv (ha.run B) hn hdb he hpl) fun σ H Q q => lift_CB q⟩
theorem df_callB {id : String} {r : DRF} {d : dA} (hc : CallR X (.builtin id) (liftCF X.K r)) (gl : Gl X x) (hm : X.mg x = none) (hv : bootBuiltins x = some (.builtin id)) (ha : DA X E (e :: es) d) (hn : x ≠ "__name__" := by decide) (hdb : (x == ("__debug__" : Str)) = false := by decide)
    (he : starEach (e :: es) X.env = (false, eval e X.env) :: starEach es X.env := by rfl) (hpl : (backTo pos (starEach es X.env)).any (·.1) = false := by rfl) : DF X E (.Call (.Name x p) (e :: es) [] pos) (dCBF r d) :=
  ⟨fun B => pe_mono (pe_callB hc gl hm hv (ha.run B) hn hdb he hpl) fun σ H Q q => lift_CBF q⟩
theorem df_callTy {T : String} {r : DRF} {d : dA} (hc : CallR X (.type T) (liftCF X.K r)) (gl : Gl X x) (hm : X.mg x = none) (hv : bootBuiltins x = some (.type T)) (ha : DA X E (e :: es) d) (hn : x ≠ "__name__" := by decide) (hdb : (x == ("__debug__" : Str)) = false := by decide)
    (he : starEach (e :: es) X.env = (false, eval e X.env) :: starEach es X.env := by rfl) (hpl : (backTo pos (starEach es X.env)).any (·.1) = false := by rfl) : DF X E (.Call (.Name x p) (e :: es) [] pos) (dCBF r d) :=
  ⟨fun B => pe_mono (pe_callTy hc gl hm hv (ha.run B) hn hdb he hpl) fun σ H Q q => lift_CBF q⟩
theorem DnA.one {vs : List V} {d : D} (h : DnA K S vs [d]) : ∃ v, vs = [v] ∧ Dn K S v d := by
  cases h with | cons h1 h2 => cases h2; exact ⟨_, rfl, h1⟩
theorem DnA.two {vs : List V} {d d' : D} (h : DnA K S vs [d, d']) : ∃ v v', vs = [v, v'] ∧ Dn K S v d ∧ Dn K S v' d' := by
  cases h with | cons h1 h2 => obtain ⟨v', rfl, h3⟩ := h2.one; exact ⟨_, _, rfl, h1, h3⟩
/-- len -/
def rLen : DRC := fun xs Q => match xs with
  | [.lst ds] => Q (.int ds.length)
  | [.tup ds] => Q (.int ds.length)
  | [.kt ds] => Q (.int ds.length)
  | [.str z] => z.length ≤ sizeLine ∧ Q (.int z.length)
  | _ => False
theorem cd_len : CallR X (.builtin "len") (liftC X.K rLen) := fun pins s σ H vs us Q I r ⟨S, ds, Q', ex, n, q, post⟩ => by
  match ds, n, q with
  | [.lst ds], n, q =>
    obtain ⟨v, rfl, n1⟩ := n.one
    cases n1 with | lst h a =>
      refine call_len pins s σ H _ us Q I r ⟨_, ds.length, rfl, .inl ⟨_, SqL.of (ex _ _ h), a.length.symm⟩, post _ _ _ _ q (Grow.refl ex) (.int _)⟩
  | [.tup ds], n, q =>
    obtain ⟨v, rfl, n1⟩ := n.one
    cases n1 with | tup h a =>
      refine call_len pins s σ H _ us Q I r ⟨_, ds.length, rfl, .inr ⟨_, SqT.of (ex _ _ h), a.length.symm⟩, post _ _ _ _ q (Grow.refl ex) (.int _)⟩
  | [.kt ds], n, q =>
    obtain ⟨v, rfl, n1⟩ := n.one
    cases n1 with | kt h a =>
      refine call_len pins s σ H _ us Q I r ⟨_, ds.length, rfl, .inr ⟨_, h.sqT, a.length.symm⟩, post _ _ _ _ q (Grow.refl ex) (.int _)⟩
  | [.str z], n, q =>
    obtain ⟨v, rfl, n1⟩ := n.one
    cases n1
    exact call_len pins s σ H _ us Q I r ⟨_, z.length, rfl, ⟨q.1, rfl⟩, post _ _ _ _ q.2 (Grow.refl ex) (.int _)⟩
/-- tuple(x), list(x) -/
def rTuple : DRC := fun xs Q => match xs with | [.lst ds] => Q (.tup ds) | [.tup ds] => Q (.tup ds) | _ => False
theorem cd_tuple : CallR X (.type "tuple") (liftC X.K rTuple) := fun pins s σ H vs us Q I r ⟨S, ds, Q', ex, n, q, post⟩ => by
  match ds, n, q with
  | [.lst ds], n, q =>
    obtain ⟨v, rfl, n1⟩ := n.one
    cases n1 with | lst h a =>
      refine call_tuple_of pins s σ H _ us Q I r ⟨_, _, rfl, .inl ⟨SqL.of (ex _ _ h), fun l hl => ?_⟩⟩
      exact post _ _ _ _ q (Grow.new ex hl) (.tup upd_same (a.mono (Ex.new (ex.none hl))))
  | [.tup ds], n, q =>
    obtain ⟨v, rfl, n1⟩ := n.one
    cases n1 with | tup h a => exact call_tuple_of pins s σ H _ us Q I r ⟨_, _, rfl, .inr ⟨SqT.of (ex _ _ h), post _ _ _ _ q (Grow.refl ex) (.tup h a)⟩⟩
def rList : DRF := fun xs Q => match xs with | [.lst ds] => Q ds | [.tup ds] => Q ds | _ => False
theorem cd_list : CallR X (.type "list") (liftCF X.K rList) := fun pins s σ H vs us Q I r ⟨S, ds, Q', ex, n, q, post⟩ => by
  match ds, n, q with
  | [.lst ds], n, q =>
    obtain ⟨v, rfl, n1⟩ := n.one
    cases n1 with | lst h a => exact call_list_of pins s σ H _ us Q I r ⟨_, _, rfl, .inl (SqL.of (ex _ _ h)), fun l hl => post _ _ _ q hl a⟩
  | [.tup ds], n, q =>
    obtain ⟨v, rfl, n1⟩ := n.one
    cases n1 with | tup h a => exact call_list_of pins s σ H _ us Q I r ⟨_, _, rfl, .inr (SqT.of (ex _ _ h)), fun l hl => post _ _ _ q hl a⟩
mutual
def D.sho : D → Bool
  | .int i => decide (i.natAbs.log2 < 1920)
  | .tup xs => D.shos xs
  | .kt xs => D.shos xs
  | .lst xs => D.shos xs
  | _ => true
def D.shos : List D → Bool
  | [] => true
  | x :: xs => x.sho && D.shos xs
end
mutual
theorem D.sho_py : ∀ d : D, d.lay = true → d.sho = true → d.py.showable = true
  | .non, _, _ => by simp [D.py, PyData.showable]
  | .bl b, _, _ => by simp [D.py, PyData.showable]
  | .int i, _, h => by simpa [D.py, PyData.showable, D.sho] using h
  | .str x, _, _ => by simp [D.py, PyData.showable]
  | .tup xs, l, h => by simpa [D.py, PyData.showable] using D.shos_py xs l h
  | .kt xs, l, h => by simpa [D.py, PyData.showable] using D.shos_py xs l h
  | .lst xs, l, h => by simpa [D.py, PyData.showable] using D.shos_py xs l h
  | .dK _, l, _ => by cases l
  | .dT _, l, _ => by cases l
  | .fK _, l, _ => by cases l
  | .fT _, l, _ => by cases l
  | .raw _, l, _ => by cases l
  | .scr _, l, _ => by cases l
  | .fn _ _, l, _ => by cases l
theorem D.shos_py : ∀ ds : List D, D.lays ds = true → D.shos ds = true → PyData.showableAll (D.pys ds) = true
  | [], _, _ => by simp [D.pys, PyData.showableAll]
  | d :: ds, l, h => by
    have l' : (d.lay && D.lays ds) = true := l
    have h' : (d.sho && D.shos ds) = true := h
    rw [Bool.and_eq_true] at l' h'
    simp [D.pys, PyData.showableAll, D.sho_py d l'.1 h'.1, D.shos_py ds l'.2 h'.2]
end
/-- may be shown -/
def D.sw (d : D) : Prop := d.lay = true ∧ d.dep ≤ 64 ∧ d.sho = true ∧ d.py.shown.length ≤ sizeLine
def D.rep (d : D) : Str := d.py.shown
def rRepr : DRC := fun xs Q => match xs with | [d] => d.sw ∧ Q (.str d.rep) | _ => False
theorem boot_repr : bootBuiltins "repr" = some (.builtin "repr") := by decide +kernel
/-- repr of data of any depth, wherever none is under way -/
theorem repr_data {prog : Program} {w : World} {A : Around} {Er : Value → Shared → Prop} {s : Shared} {v : Value} {d : PyData} {as : List Addr} {Q : Value → Shared → Prop} (r : Reads s.heap v d as) (sh : d.showable = true) (nd : d.hasDict = false) (hg : A.guards = some []) (hu : A.units + d.depth + 1 < cLine)
    (sz : d.shown.length ≤ sizeLine) (hQ : ∀ h' u tk, (∀ b o, s.heap.get? b = some o → h'.get? b = some o) → Q (.str d.shown u) { s with heap := h', toks := tk }) : wpAny (model prog w) A (call (.builtin "repr") [v]) Q Er s := by
  have keep0 : ∀ b o, s.heap.get? b = some o → s.heap.get? b = some o := fun _ _ e => e
  cases r with
  | none => simp only [PyData.shown] at hQ; exact P.repr_of_none (hQ s.heap _ _ keep0)
  | bool b => simp only [PyData.shown] at hQ; exact P.repr_of_bool (hQ s.heap _ _ keep0)
  | int i t => simp only [PyData.shown] at hQ; exact P.repr_of_int (by simpa [PyData.showable] using sh) (hQ s.heap _ _ keep0)
  | str x t => simp only [PyData.shown] at hQ sz; exact P.repr_of_str (hQ s.heap _ _ keep0) (hsz := sz)
  | dict _ _ _ _ _ => simp [PyData.hasDict] at nd
  | @list a o vs n xs as1 h1 h2 h3 h4 =>
    simp only [PyData.shown, PyData.depth] at hQ sz hu
    have nd' : PyData.hasDictAll xs = false := by simpa [PyData.hasDict] using nd
    obtain ⟨bs, hb, hk⟩ := ReprAllK.of_readsAll (prog := prog) (w := w) h4 (by simpa [PyData.showable] using sh) (fun hx => by rw [nd'] at hx; cases hx) (fun t ht => Nat.le_trans (listText_mem_le ht) sz)
    have na : a ∉ bs := not_mem_of_deeper (.list h1 h2 h3 h4) (by simp only [PyData.depth]; omega) hb
    refine call_repr_slot (by omega) ⟨o, h1, h2⟩ F.slot_list_repr.toG ?_
    obtain ⟨l⟩ := vs
    cases l with
    | nil =>
      cases (show ReadsAll s.heap [] xs _ from h4)
      simp only [PyData.shownAll, listText_nil] at hQ
      exact call_list_repr_empty ⟨o, h1, h2⟩ h1 h3 ⟨_, _, rfl, hQ s.heap _ _ keep0⟩
    | cons y l =>
      exact call_list_reprK h1 h2 h3 na (by simpa using hk.length_eq) (fun i z e => hk.item i z (by simpa using e)) (A := A.in1) hg (fun b _ => Clear.nil b) (by show A.units + 1 + _ < _; omega) keep0 (fun h' u tk k => ⟨_, _, rfl, hQ h' u tk k⟩) sz
  | @tuple a o vs n xs as1 h1 h2 h3 h4 =>
    simp only [PyData.shown, PyData.depth] at hQ sz hu
    have nd' : PyData.hasDictAll xs = false := by simpa [PyData.hasDict] using nd
    obtain ⟨bs, hb, hk⟩ := ReprAllK.of_readsAll (prog := prog) (w := w) h4 (by simpa [PyData.showable] using sh) (fun hx => by rw [nd'] at hx; cases hx) (fun t ht => Nat.le_trans (tupleText_mem_le ht) sz)
    have na : a ∉ bs := not_mem_of_deeper (.tuple h1 h2 h3 h4) (by simp only [PyData.depth]; omega) hb
    refine call_repr_slot (by omega) ⟨o, h1, h2⟩ F.slot_tuple_repr ?_
    exact call_tuple_reprK h1 h2 h3 na hk (A := A.in1) hg (fun b _ => Clear.nil b) (by show A.units + 1 + _ < _; omega) keep0 (fun h' u tk k => ⟨_, _, rfl, hQ h' u tk k⟩) sz
theorem cd_repr (hg : X.A.guards = some []) (hu : X.A.units + 66 < cLine) : CallR X (.builtin "repr") (liftC X.K rRepr) := fun pins s σ H vs us Q I r ⟨S, ds, Q', ex, n, q, post⟩ => by
  match ds, n, q with
  | [d], n, q =>
    obtain ⟨v, rfl, n1⟩ := n.one
    obtain ⟨u, rfl, ru⟩ := vals1 r
    obtain ⟨⟨l, dp, sh, sz⟩, q⟩ := q
    obtain ⟨as, rd⟩ := Dp.reads I _ _ _ ((n1.mono ex).dp l) ru
    exact repr_data rd (D.sho_py d l sh) (PyData.hasDict_of_canLay _ (D.lay_can d l)) hg (by rw [D.py_dep]; omega) sz fun h' u tk k => ⟨.str d.rep, H, I.kept k, ⟨_, rfl⟩, post _ _ _ _ q (Grow.refl ex) (.str _)⟩
/-! ### numbers and texts -/
def rAbs : DRC := fun xs Q => match xs with | [.int i] => Q (.int (if i < 0 then -i else i)) | _ => False
theorem cd_abs : CallR X (.builtin "abs") (liftC X.K rAbs) := fun pins s σ H vs us Q I r ⟨S, ds, Q', ex, n, q, post⟩ => by
  match ds, n, q with
  | [.int i], n, q =>
    obtain ⟨v, rfl, n1⟩ := n.one
    cases n1
    exact call_abs pins s σ H _ us Q I r ⟨i, rfl, post _ _ _ _ q (Grow.refl ex) (.int _)⟩
def rInt : DRC := fun xs Q => match xs with | [.int i] => Q (.int i) | [.bl k] => Q (.int (if k then 1 else 0)) | _ => False
theorem cd_int : CallR X (.type "int") (liftC X.K rInt) := fun pins s σ H vs us Q I r ⟨S, ds, Q', ex, n, q, post⟩ => by
  match ds, n, q with
  | [.int i], n, q =>
    obtain ⟨v, rfl, n1⟩ := n.one
    cases n1
    exact call_int1 pins s σ H _ us Q I r (.inl ⟨i, rfl, post _ _ _ _ q (Grow.refl ex) (.int _)⟩)
  | [.bl k], n, q =>
    obtain ⟨v, rfl, n1⟩ := n.one
    cases n1
    exact call_int1 pins s σ H _ us Q I r (.inr ⟨k, rfl, post _ _ _ _ q (Grow.refl ex) (.int _)⟩)
def rStr : DRC := fun xs Q => match xs with | [.int i] => i.natAbs.log2 < 1920 ∧ Q (.str (toString i)) | [.str x] => Q (.str x) | _ => False
theorem cd_str : CallR X (.type "str") (liftC X.K rStr) := fun pins s σ H vs us Q I r ⟨S, ds, Q', ex, n, q, post⟩ => by
  match ds, n, q with
  | [.int i], n, q =>
    obtain ⟨v, rfl, n1⟩ := n.one
    cases n1
    exact call_str_int pins s σ H _ us Q I r ⟨i, rfl, q.1, post _ _ _ _ q.2 (Grow.refl ex) (.str _)⟩
  | [.str x], n, q =>
    obtain ⟨v, rfl, n1⟩ := n.one
    cases n1
    exact SkE.call_str_str pins s σ H _ us Q I r ⟨x, rfl, post _ _ _ _ q (Grow.refl ex) (.str _)⟩
/-- all, any of a list of truths; sum of a list of numbers -/
def blsOf : List D → Option (List Bool)
  | [] => some []
  | .bl b :: r => (blsOf r).map (b :: ·)
  | _ => none
theorem bls_vals : ∀ {ds : List D} {bs : List Bool} {vs : List V}, DnA K S vs ds → blsOf ds = some bs → vs = bs.map V.bl
  | [], _, _, .nil, h => by cases h; rfl
  | .bl b :: r, bs, _, .cons h1 h2, h => by
    cases h1
    cases hr : blsOf r with
    | none => simp [blsOf, hr] at h
    | some cs =>
      simp [blsOf, hr] at h
      subst h
      rw [bls_vals h2 hr]; rfl
def intsOf : List D → Option (List Int)
  | [] => some []
  | .int b :: r => (intsOf r).map (b :: ·)
  | _ => none
theorem ints_valsD : ∀ {ds : List D} {bs : List Int} {vs : List V}, DnA K S vs ds → intsOf ds = some bs → vs = bs.map V.int
  | [], _, _, .nil, h => by cases h; rfl
  | .int b :: r, bs, _, .cons h1 h2, h => by
    cases h1
    cases hr : intsOf r with
    | none => simp [intsOf, hr] at h
    | some cs =>
      simp [intsOf, hr] at h
      subst h
      rw [ints_valsD h2 hr]; rfl
def rAllD : DRC := fun xs Q => match xs with | [.lst ds] => optQ (blsOf ds) fun bs => Q (.bl (bs.all id)) | _ => False
def rAnyD : DRC := fun xs Q => match xs with | [.lst ds] => optQ (blsOf ds) fun bs => Q (.bl (bs.any id)) | _ => False
def rSumD : DRC := fun xs Q => match xs with | [.lst ds] => optQ (intsOf ds) fun bs => Q (.int bs.sum) | _ => False
theorem cd_all (hc : X.calm = true) : CallR X (.builtin "all") (liftC X.K rAllD) := fun pins s σ H vs us Q I r ⟨S, ds, Q', ex, n, q, post⟩ => by
  match ds, n, q with
  | [.lst ds], n, q =>
    obtain ⟨v, rfl, n1⟩ := n.one
    obtain ⟨bs, hb, q⟩ := optQ_ex q
    cases n1 with | lst h a =>
      have e := bls_vals a hb
      exact cr_all hc pins s σ H _ us Q I r ⟨_, bs, rfl, SqL.of (by rw [← e]; exact ex _ _ h), post _ _ _ _ q (Grow.refl ex) (.bl _)⟩
theorem cd_any (hc : X.calm = true) : CallR X (.builtin "any") (liftC X.K rAnyD) := fun pins s σ H vs us Q I r ⟨S, ds, Q', ex, n, q, post⟩ => by
  match ds, n, q with
  | [.lst ds], n, q =>
    obtain ⟨v, rfl, n1⟩ := n.one
    obtain ⟨bs, hb, q⟩ := optQ_ex q
    cases n1 with | lst h a =>
      have e := bls_vals a hb
      exact cr_any hc pins s σ H _ us Q I r ⟨_, bs, rfl, SqL.of (by rw [← e]; exact ex _ _ h), post _ _ _ _ q (Grow.refl ex) (.bl _)⟩
theorem cd_sum (hc : X.calm = true) : CallR X (.builtin "sum") (liftC X.K rSumD) := fun pins s σ H vs us Q I r ⟨S, ds, Q', ex, n, q, post⟩ => by
  match ds, n, q with
  | [.lst ds], n, q =>
    obtain ⟨v, rfl, n1⟩ := n.one
    obtain ⟨bs, hb, q⟩ := optQ_ex q
    cases n1 with | lst h a =>
      have e := ints_valsD a hb
      exact cr_sum hc pins s σ H _ us Q I r ⟨_, bs, rfl, SqL.of (by rw [← e]; exact ex _ _ h), post _ _ _ _ q (Grow.refl ex) (.int _)⟩
/-- isinstance(x, T), T written: a built-in type -/
def D.ty : D → Option String
  | .non => some "NoneType"
  | .bl _ => some "bool"
  | .int _ => some "int"
  | .str _ => some "str"
  | .tup _ => some "tuple"
  | .kt _ => none
  | .lst _ => some "list"
  | .dK _ => some "dict"
  | .dT _ => some "dict"
  | .fK _ => none
  | .fT _ => none
  | .raw _ => none
  | .scr _ => none
  | .fn _ _ => none
theorem Dn.ty {v : V} {d : D} {t : String} (h : Dn K S v d) (ht : d.ty = some t) : TyX K S v (.type t) := by
  cases h with
  | non => cases ht; exact .base .non
  | bl b => cases ht; exact .base (.bl b)
  | int i => cases ht; exact .base (.int i)
  | str x => cases ht; exact .base (.str x)
  | raw v => cases ht
  | scr h => cases ht
  | fn _ _ _ _ _ _ _ => cases ht
  | tup h a => cases ht; exact .base (.tup h)
  | kt _ _ => cases ht
  | lst h a => cases ht; exact .base (.lst h)
  | dK h _ _ => cases ht; exact .base (.dK h)
  | dT h _ _ => cases ht; exact .base (.dT h)
  | fK h _ _ => cases ht
  | fT h _ _ => cases ht
/-- a built-in class, as a value -/
def D.cls (n : String) : D := .raw (.ty n)
def rIsi (n : String) : DRC := fun xs Q => match xs with
  | [d, .raw (.ty m)] => m = n ∧ optQ d.ty fun t => optQ (kitB t n) fun b => Q (.bl b)
  | _ => False
theorem TyX.mono {v : V} {t : Value} (e : Ex S S') (h : TyX K S v t) : TyX K S' v t := by
  cases h with
  | base b =>
    cases b with
    | non => exact .base .non
    | bl y => exact .base (.bl y)
    | int i => exact .base (.int i)
    | str y => exact .base (.str y)
    | flt y => exact .base (.flt y)
    | lst h => exact .base (.lst (e _ _ h))
    | frz h => exact .base (.frz (e _ _ h))
    | tup h => exact .base (.tup (e _ _ h))
    | dK h => exact .base (.dK (e _ _ h))
    | dT h => exact .base (.dT (e _ _ h))
    | ins h cl ha hn htk hm => exact .base (.ins (e _ _ h) cl ha hn htk hm)
  | byt y => exact .byt y
  | set h => exact .set (e _ _ h)
  | kList h c => exact .kList h c
  | kTuple h c => exact .kTuple h c
  | kDict h c => exact .kDict h c
  | fTuple h => exact .fTuple (e _ _ h)
  | fDict h => exact .fDict (e _ _ h)
theorem cd_isi (T : String) : CallR X (.builtin "isinstance") (liftC X.K (rIsi T)) := fun pins s σ H vs us Q I r ⟨S, ds, Q', ex, n, q, post⟩ => by
  match ds, n, q with
  | [d, .raw (.ty m)], n, q =>
    obtain ⟨rfl, q⟩ := q
    obtain ⟨v, v', rfl, n1, n2⟩ := n.two
    cases n2
    obtain ⟨t, ht, q⟩ := optQ_ex q
    obtain ⟨b, hb, q⟩ := optQ_ex q
    exact call_isi pins s σ H _ us Q I r ⟨v, .ty m, .type t, .type m, b, rfl, .ty m, TyX.mono ex (n1.ty ht), kit_ty hb, post _ _ _ _ q (Grow.refl ex) (.bl _)⟩
theorem de_ty {n : String} (gl : Gl X x) (hm : X.mg x = none) (hv : bootBuiltins x = some (.type n)) (hn : x ≠ "__name__" := by decide) (hd : (x == ("__debug__" : Str)) = false := by decide) : DE X E (.Name x p) (dC (.raw (.ty n))) :=
  de_c (pe_bltn (v := .ty n) gl hm hv (show RelV (.ty n) (.type n) from rfl) hn hd) fun _ => .raw _
end
end Ev

/-! # Methods of lists of one's own, texts joined and formatted, a look at a list of one's own, the pen's own def -/
namespace Ev
open PySem PySem.Spec PyProof.Rows L2
variable [TabC]
variable {K : PySem.W.Frag} {S S' H H' : Hp} {B : Bs} {δ : DS} {σ : L2.St}
section
variable {X : Cx} {E : EK} {e a b c : Expr} {es : List Expr} {pos p ap cp : Pos} {da db : dE} {x : Str}
theorem tyL {K : PySem.W.Frag} {H : Hp} {p : Addr} {vs : List V} (h : H p = some (.lst vs)) : tyV K "list" (.ref p) H := Or.inl ⟨rfl, vs, SqL.of h⟩
/-- name.append(e) -/
def dApp (i : Nat) (d : dE) : dS := fun W N δ => (∃ ds, ownAt δ i = some ds) ∧ d W δ fun x δ1 => optQ (ownAt δ1 i) fun ds => ds.length < sizeLine ∧ N.nx (setOwnAt δ1 i (ds ++ [x]))
theorem ds_app {i : Nat} (hv : PE X (.Name x p) (tVar i)) (he : DE X E e da) (hbase : attributeBase (.Name x p) "append" X.env (eval (.Name x p) X.env) = eval (.Name x p) X.env := by rfl)
    (hfew : ((backTo cp (starEach [e] X.env)).all (fun x => !x.1) && (backToKw cp (keywordEach [] X.env)).all (fun x => x.1.isSome) && decide (([e] : List Expr).length + ([] : List Keyword).length + (if ([] : List Keyword).isEmpty then 0 else 1) < 30)) = true := by rfl)
    (hline : (ap.endLine == cp.line) = true := by rfl) (hs : starEach [e] X.env = (false, eval e X.env) :: starEach [] X.env := by rfl) (hpl : (backTo cp (starEach [] X.env)).any (·.1) = false := by rfl)
    (hsw : swapsWith (.Call (.Attribute (.Name x p) "append" ap) [e] [] cp) none pos.line X.env = pure false := by rfl) : DSt X E (.Expr (.Call (.Attribute (.Name x p) "append" ap) [e] [] cp) pos) (dApp i da) :=
  ⟨fun B => ps_mono (ps_expr (pe_bm PySem.F.plainAttrs_list PySem.F.slot_list_append PySem.F.type_list_append mt_append hv (pa_cons (he.run B) pa_nil hs) hbase hfew hline hs hpl) hsw) fun Z σ H q => by
    obtain ⟨δ, S, W, N, R, ⟨⟨ds0, h0⟩, q⟩, xo, p1, _⟩ := q
    obtain ⟨p0, _, v0, g0, _⟩ := R.ownAt h0
    refine ⟨.ref p0, v0, tyL g0, δ, S, W, _, R, q, xo, fun d δ1 v S1 H1 q1 e1 R1 n1 => ?_⟩
    obtain ⟨ds, h1, hz, q1⟩ := optQ_ex q1
    obtain ⟨p', vs, v1, g1, a1, _, put⟩ := R1.ownAt h1
    rw [v0] at v1; cases v1
    exact ⟨p0, vs, v, rfl, rfl, g1, by rw [a1.length]; exact hz, p1 _ _ _ _ q1 e1 (put _ _ (a1.append (.cons n1 .nil)))⟩⟩
/-- name.extend(e), e another list -/
def dExt (i : Nat) (d : dE) : dS := fun W N δ => (∃ ds, ownAt δ i = some ds) ∧ d W δ fun x δ1 => match x with
  | .lst zs => optQ (ownAt δ1 i) fun ds => ds.length + zs.length ≤ sizeLine ∧ N.nx (setOwnAt δ1 i (ds ++ zs))
  | _ => False
theorem ds_ext {i : Nat} (hv : PE X (.Name x p) (tVar i)) (he : DE X E e da) (hbase : attributeBase (.Name x p) "extend" X.env (eval (.Name x p) X.env) = eval (.Name x p) X.env := by rfl)
    (hfew : ((backTo cp (starEach [e] X.env)).all (fun x => !x.1) && (backToKw cp (keywordEach [] X.env)).all (fun x => x.1.isSome) && decide (([e] : List Expr).length + ([] : List Keyword).length + (if ([] : List Keyword).isEmpty then 0 else 1) < 30)) = true := by rfl)
    (hline : (ap.endLine == cp.line) = true := by rfl) (hs : starEach [e] X.env = (false, eval e X.env) :: starEach [] X.env := by rfl) (hpl : (backTo cp (starEach [] X.env)).any (·.1) = false := by rfl)
    (hsw : swapsWith (.Call (.Attribute (.Name x p) "extend" ap) [e] [] cp) none pos.line X.env = pure false := by rfl) : DSt X E (.Expr (.Call (.Attribute (.Name x p) "extend" ap) [e] [] cp) pos) (dExt i da) :=
  ⟨fun B => ps_mono (ps_expr (pe_bm PySem.F.plainAttrs_list PySem.F.slot_list_extend PySem.F.type_list_extend mt_extend hv (pa_cons (he.run B) pa_nil hs) hbase hfew hline hs hpl) hsw) fun Z σ H q => by
    obtain ⟨δ, S, W, N, R, ⟨⟨ds0, h0⟩, q⟩, xo, p1, _⟩ := q
    obtain ⟨p0, _, v0, g0, _⟩ := R.ownAt h0
    refine ⟨.ref p0, v0, tyL g0, δ, S, W, _, R, q, xo, fun d δ1 v S1 H1 q1 e1 R1 n1 => ?_⟩
    match d, n1, q1 with
    | .lst zs, .lst hz az, q1 =>
      obtain ⟨ds, h1, hz2, q1⟩ := optQ_ex q1
      obtain ⟨p', vs, v1, g1, a1, _, put⟩ := R1.ownAt h1
      rw [v0] at v1; cases v1
      exact ⟨p0, _, vs, _, rfl, rfl, g1, R1.ex _ _ hz, by rw [a1.length, az.length]; exact hz2, p1 _ _ _ _ q1 e1 (put _ _ (a1.append az))⟩⟩
/-- name.pop() -/
def dPop (i : Nat) : dE := fun _ δ Q => optQ (ownAt δ i) fun ds => optQ ds[ds.length - 1]? fun d => Q d (setOwnAt δ i ds.dropLast)
theorem DnA.dropLast {vs : List V} {ds : List D} (a : DnA K S vs ds) : DnA K S vs.dropLast ds.dropLast := by
  rw [List.dropLast_eq_take, List.dropLast_eq_take, a.length]
  exact a.take _
theorem de_pop {i : Nat} (hv : PE X (.Name x p) (tVar i)) (hbase : attributeBase (.Name x p) "pop" X.env (eval (.Name x p) X.env) = eval (.Name x p) X.env := by rfl) (hline : (ap.endLine == cp.line) = true := by rfl) :
    DE X E (.Call (.Attribute (.Name x p) "pop" ap) [] [] cp) (dPop i) := ⟨fun B => pe_mono (pe_bm0 PySem.F.plainAttrs_list PySem.F.slot_list_pop PySem.F.type_list_pop mt_pop hv hbase hline) fun σ H Q q => by
    obtain ⟨δ, S, W, Q', R, q, xo, post⟩ := q
    obtain ⟨ds, h1, q⟩ := optQ_ex q
    obtain ⟨d, h2, q⟩ := optQ_ex q
    obtain ⟨p', vs, v1, g1, a1, _, put⟩ := R.ownAt h1
    obtain ⟨v, w1, w2⟩ := a1.get h2
    exact ⟨.ref p', v1, tyL g1, p', vs, v, rfl, rfl, g1, by rw [a1.length]; exact w1, post _ _ _ _ _ q (Ex.refl _) (put _ _ a1.dropLast) w2⟩⟩
/-- name.pop(e) -/
def dPopAt (i : Nat) (d : dE) : dE := fun W δ Q => (∃ ds, ownAt δ i = some ds) ∧ d W δ fun y δ1 => match y with
  | .int k => -(2 ^ 63) ≤ k ∧ k < 2 ^ 63 ∧ optQ (ownAt δ1 i) fun ds => optQ (ixN ds.length k) fun j => optQ ds[j]? fun d => Q d (setOwnAt δ1 i (ds.eraseIdx j))
  | _ => False
theorem de_popAt {i : Nat} (hv : PE X (.Name x p) (tVar i)) (he : DE X E e da) (hbase : attributeBase (.Name x p) "pop" X.env (eval (.Name x p) X.env) = eval (.Name x p) X.env := by rfl)
    (hfew : ((backTo cp (starEach [e] X.env)).all (fun x => !x.1) && (backToKw cp (keywordEach [] X.env)).all (fun x => x.1.isSome) && decide (([e] : List Expr).length + ([] : List Keyword).length + (if ([] : List Keyword).isEmpty then 0 else 1) < 30)) = true := by rfl)
    (hline : (ap.endLine == cp.line) = true := by rfl) (hs : starEach [e] X.env = (false, eval e X.env) :: starEach [] X.env := by rfl) (hpl : (backTo cp (starEach [] X.env)).any (·.1) = false := by rfl) : DE X E (.Call (.Attribute (.Name x p) "pop" ap) [e] [] cp) (dPopAt i da) :=
  ⟨fun B => pe_mono (pe_bm PySem.F.plainAttrs_list PySem.F.slot_list_pop PySem.F.type_list_pop mt_popAt hv (pa_cons (he.run B) pa_nil hs) hbase hfew hline hs hpl) fun σ H Q q => by
    obtain ⟨δ, S, W, Q', R, ⟨⟨ds0, h0⟩, q⟩, xo, post⟩ := q
    obtain ⟨p0, _, v0, g0, _⟩ := R.ownAt h0
    refine ⟨.ref p0, v0, tyL g0, δ, S, W, _, R, q, xo, fun y δ1 v S1 H1 q1 e1 R1 n1 => ?_⟩
    match y, n1, q1 with
    | .int k, .int _, q1 =>
      obtain ⟨b1, b2, q1⟩ := q1
      obtain ⟨ds, h1, q1⟩ := optQ_ex q1
      obtain ⟨j, hj, q1⟩ := optQ_ex q1
      obtain ⟨d, hd, q1⟩ := optQ_ex q1
      obtain ⟨p', vs, v1, g1, a1, _, put⟩ := R1.ownAt h1
      rw [v0] at v1; cases v1
      obtain ⟨w, w1, w2⟩ := a1.get hd
      exact ⟨p0, vs, k, j, w, rfl, rfl, g1, b1, b2, by rw [a1.length]; exact (ixN_seq hj).1, w1, post _ _ _ _ _ q1 e1 (put _ _ (a1.eraseIdx j)) w2⟩⟩
/-! ### a look at a list of one's own, from which nothing but a number, a truth, a text comes back -/
def D.flat : D → Bool | .non => true | .bl _ => true | .int _ => true | .str _ => true | _ => false
theorem Dn.flat {v : V} {d : D} (h : Dn K S v d) (f : d.flat = true) : Dn K S' v d := by
  cases h <;> first | exact .non | exact .bl _ | exact .int _ | exact .str _ | (cases f)
theorem Rel.look (R : Rel K B δ S σ H) {i : Nat} {ds : List D} (h : Ev.lookAt δ i = some ds) : ∃ p S1, σ[i]? = some (some (.ref p)) ∧ Ex S S1 ∧ Sb S1 H ∧ Dn K S1 (.ref p) (.lst ds) ∧ tyV K "list" (.ref p) H ∧ ∀ S2 H2, Grow S1 H S2 H2 → ∃ S3, Ex S S3 ∧ Rel K B δ S3 σ H2 := by
  obtain ⟨p, vs, h1, h2, h3, h4⟩ := R.lookAt h
  rcases h4 with h4 | h4
  · refine ⟨p, upd S p (.lst vs), h1, Ex.new h4, ⟨fun a o q => ?_, fun a o q => Ex.new h4 _ _ (R.ex.tp a o q), R.ex.tb.at_ p (fun _ _ _ h => h) (fun u z => by rw [h2] at z; cases z; rfl) fun b n z => by rw [upd_ne n]; exact z⟩, .lst upd_same (h3.mono (Ex.new h4)), tyL h2, fun S2 H2 g => ?_⟩
    · by_cases e : a = p
      · subst e; rw [upd_same] at q; rw [h2]; exact q
      · rw [upd_ne e] at q; exact R.ex a o q
    · refine ⟨fun b => if b = p then none else S2 b, fun a o q => ?_, R.grow ⟨fun a o q => ?_, g.h, ⟨fun a o q => ?_, fun a o q => ?_, g.ok.tb.at_ p (fun _ _ _ h => h) (fun u z => by rw [g.h.pl h2] at z; cases z; rfl) fun b n z => (if_neg n).trans z⟩, fun b o hb n => ?_⟩⟩
      · have ne : a ≠ p := fun e => by rw [e, h4] at q; cases q
        exact (if_neg ne).trans (g.s a o (Ex.new h4 a o q))
      · have ne : a ≠ p := fun e => by rw [e, h4] at q; cases q
        exact (if_neg ne).trans (g.s a o (Ex.new h4 a o q))
      · have q : (if a = p then none else S2 a) = some o := q
        split at q
        · cases q
        · exact g.ok a o q
      · have ne : a ≠ p := fun e => by
          have z := g.h.pl h2
          rw [← e, q] at z; cases z
        exact (if_neg ne).trans (g.ok.tp a o q)
      · show (if b = p then none else S2 b) = none
        split
        · rfl
        · rename_i ne
          exact g.no b o hb (by rw [upd_ne ne]; exact n)
  · exact ⟨p, S, h1, Ex.refl _, R.ex, .lst h4 h3, tyL h2, fun S2 H2 g => ⟨S2, g.s, R.grow g⟩⟩
/-- f(name) -/
def dOwnCB (i : Nat) (r : DRC) : dE := fun _ δ Q => optQ (lookAt δ i) fun ds => r [.lst ds] fun z => z.flat = true ∧ Q z δ
theorem own_CB {i : Nat} {r : DRC} {Q : VK} (q : liftE K B E (dOwnCB i r) σ H Q) : tCB (liftC K r) (tCons (tVar i) tNil) σ H Q := by
  obtain ⟨δ, S, W, Q', R, q, xo, post⟩ := q
  obtain ⟨ds, h, q⟩ := optQ_ex q
  obtain ⟨p, S1, h1, e1, e2, n, _, back⟩ := R.look h
  exact ⟨.ref p, h1, S1, [.lst ds], _, e2, .cons n .nil, q, fun dz v S2 H2 q2 g n2 => (back _ _ g).elim fun S3 b3 => post _ _ _ _ _ q2.2 b3.1 b3.2 (n2.flat q2.1)⟩
theorem de_ownB {id : String} {r : DRC} {i : Nat} {y : Str} {py : Pos} (hc : CallR X (.builtin id) (liftC X.K r)) (hv : PE X (.Name y py) (tVar i)) (gl : Gl X x) (hm : X.mg x = none) (hb : bootBuiltins x = some (.builtin id)) (hn : x ≠ "__name__" := by decide) (hdb : (x == ("__debug__" : Str)) = false := by decide)
    (he : starEach [.Name y py] X.env = (false, eval (.Name y py) X.env) :: starEach [] X.env := by rfl) (hpl : (backTo pos (starEach [] X.env)).any (·.1) = false := by rfl) : DE X E (.Call (.Name x p) [.Name y py] [] pos) (dOwnCB i r) :=
  ⟨fun B => pe_mono (pe_callB hc gl hm hb (pa_cons hv pa_nil he) hn hdb he hpl) fun σ H Q q => own_CB q⟩
/-- name op e, e op name -/
def dOwnL (i : Nat) (r : DR2) (d : dE) : dE := fun W δ Q => (∃ ds, lookAt δ i = some ds) ∧ d W δ fun y δ1 => optQ (lookAt δ1 i) fun ds => r (.lst ds) y fun z => z.flat = true ∧ Q z δ1
def dOwnR (i : Nat) (r : DR2) (d : dE) : dE := fun W δ Q => d W δ fun x δ1 => optQ (lookAt δ1 i) fun ds => r x (.lst ds) fun z => z.flat = true ∧ Q z δ1
theorem own_L {i : Nat} {r : DR2} {Q : VK} (q : liftE K B E (dOwnL i r db) σ H Q) : tOp (liftR K r) (tVar i) (liftE K B E db) σ H Q := by
  obtain ⟨δ, S, W, Q', R, ⟨⟨ds0, h0⟩, q⟩, xo, post⟩ := q
  obtain ⟨p0, _, v0, _⟩ := R.lookAt h0
  refine ⟨.ref p0, v0, δ, S, W, _, R, q, xo, fun y δ1 v S1 H1 q1 e1 R1 n1 => ?_⟩
  obtain ⟨ds, h, q1⟩ := optQ_ex q1
  obtain ⟨p, S2, h1, e2, e3, n, _, back⟩ := R1.look h
  rw [v0] at h1; cases h1
  exact ⟨S2, .lst ds, y, _, e3, n, n1.mono e2, q1, fun dz v S3 H3 q2 g n2 => (back _ _ g).elim fun S4 b4 => post _ _ _ _ _ q2.2 (e1.trans b4.1) b4.2 (n2.flat q2.1)⟩
theorem own_R {i : Nat} {r : DR2} {Q : VK} (q : liftE K B E (dOwnR i r da) σ H Q) : tOp (liftR K r) (liftE K B E da) (tVar i) σ H Q := by
  obtain ⟨δ, S, W, Q', R, q, xo, post⟩ := q
  refine ⟨δ, S, W, _, R, q, xo, fun y δ1 v S1 H1 q1 e1 R1 n1 => ?_⟩
  obtain ⟨ds, h, q1⟩ := optQ_ex q1
  obtain ⟨p, S2, h1, e2, e3, n, _, back⟩ := R1.look h
  exact ⟨.ref p, h1, S2, y, .lst ds, _, e3, n1.mono e2, n, q1, fun dz v S3 H3 q2 g n2 => (back _ _ g).elim fun S4 b4 => post _ _ _ _ _ q2.2 (e1.trans b4.1) b4.2 (n2.flat q2.1)⟩
theorem de_ownL {op : CmpOp} {r : DR2} {i : Nat} {y : Str} {py : Pos} (ho : OpD X (compareOp op) r) (hv : PE X (.Name y py) (tVar i)) (hb : DE X E b db) (hm : behindInMarks op b = false) : DE X E (.Compare (.Name y py) [op] [b] pos) (dOwnL i r db) :=
  ⟨fun B => pe_mono (pe_cmpR ho hv (hb.run B) hm) fun σ H Q q => own_L q⟩
theorem de_ownR {op : CmpOp} {r : DR2} {i : Nat} {y : Str} {py : Pos} (ho : OpD X (compareOp op) r) (ha : DE X E a da) (hv : PE X (.Name y py) (tVar i)) (hm : behindInMarks op (.Name y py) = false) : DE X E (.Compare a [op] [.Name y py] pos) (dOwnR i r da) :=
  ⟨fun B => pe_mono (pe_cmpR ho (ha.run B) hv hm) fun σ H Q q => own_R q⟩
theorem dt_ownL {op : CmpOp} {r : DR2} {i : Nat} {y : Str} {py : Pos} (ho : OpD X (compareOp op) r) (hv : PE X (.Name y py) (tVar i)) (hb : DE X E b db) (hm : behindInMarks op b = false) : DT X E (.Compare (.Name y py) [op] [b] pos) (dB (dOwnL i r db)) :=
  ⟨fun B => pt_mono (pt_cmpR ho hv (hb.run B) hm) fun σ H Q q => by
    have q := lift_B q
    exact own_L (Q := fun x H' => ∃ k, x = .bl k ∧ Q k H') q⟩
theorem dt_ownR {op : CmpOp} {r : DR2} {i : Nat} {y : Str} {py : Pos} (ho : OpD X (compareOp op) r) (ha : DE X E a da) (hv : PE X (.Name y py) (tVar i)) (hm : behindInMarks op (.Name y py) = false) : DT X E (.Compare a [op] [.Name y py] pos) (dB (dOwnR i r da)) :=
  ⟨fun B => pt_mono (pt_cmpR ho (ha.run B) hv hm) fun σ H Q q => by
    have q := lift_B q
    exact own_R (Q := fun x H' => ∃ k, x = .bl k ∧ Q k H') q⟩
/-- name[lo:hi] -/
def dOwnSl (i : Nat) (lo hi : dO) : dF := fun W δ Q => (∃ ds, lookAt δ i = some ds) ∧ lo W δ fun l δ2 => hi W δ2 fun h δ3 => optQ (lookAt δ3 i) fun ds => Q (cutD ds l h) δ3
theorem df_ownSl {i : Nat} {lo hi : Option Expr} {dl dh : dO} {p2 : Pos} (hv : PE X (.Name x p) (tVar i)) (hl : DO X E lo dl) (hh : DO X E hi dh) : DF X E (.Subscript (.Name x p) (.Slice lo hi none p2) pos) (dOwnSl i dl dh) := ⟨fun B => pe_mono (pe_slice sl_list hv (hl.run B) (hh.run B)) fun σ H Q q => by
  obtain ⟨δ, S, W, Q', R, ⟨⟨ds0, h0⟩, q⟩, xo, post⟩ := q
  obtain ⟨p0, _, v0, _⟩ := R.lookAt h0
  refine ⟨.ref p0, v0, δ, S, W, _, R, q, xo, fun l δ2 S2 H2 q2 e2 R2 => ⟨δ2, S2, W, _, R2, q2, xo.mono e2, fun h δ3 S3 H3 q3 e3 R3 => ?_⟩⟩
  obtain ⟨ds, h1, q3⟩ := optQ_ex q3
  obtain ⟨p', vs, v1, g1, a1, _⟩ := R3.lookAt h1
  rw [v0] at v1; cases v1
  exact ⟨p0, vs, rfl, SqL.of g1, fun p hp => post _ _ _ _ _ _ q3 (e2.trans e3) R3 hp (a1.cut l h)⟩⟩

/-! ### texts -/
def strsOf : List D → Option (List Str)
  | [] => some []
  | .str b :: r => (strsOf r).map (b :: ·)
  | _ => none
theorem strs_valsD : ∀ {ds : List D} {bs : List Str} {vs : List V}, DnA K S vs ds → strsOf ds = some bs → vs = bs.map V.str
  | [], _, _, .nil, h => by cases h; rfl
  | .str b :: r, bs, _, .cons h1 h2, h => by
    cases h1
    cases hr : strsOf r with
    | none => simp [strsOf, hr] at h
    | some cs =>
      simp [strsOf, hr] at h
      subst h
      rw [strs_valsD h2 hr]; rfl
/-- sep.join(e) -/
def dJoin (ds dx : dE) : dE := fun W δ Q => ds W δ fun s δ1 => dx W δ1 fun x δ2 => match s, x with
  | .str a, .lst zs => optQ (strsOf zs) fun ys => (ys.map (·.length)).sum + ys.length * a.length ≤ 16777216 ∧ Q (.str (Txt.join a ys)) δ2
  | .str a, .tup zs => optQ (strsOf zs) fun ys => (ys.map (·.length)).sum + ys.length * a.length ≤ 16777216 ∧ Q (.str (Txt.join a ys)) δ2
  | _, _ => False
theorem de_join (ho : DE X E a da) (he : DE X E e db) (hstr : ∀ W δ Q, da W δ Q → da W δ fun s δ' => (∃ z, s = .str z) ∧ Q s δ') (hs : starEach [e] X.env = [(false, eval e X.env)] := by rfl) (hbase : attributeBase a "join" X.env (eval a X.env) = eval a X.env := by rfl) (hline : (ap.endLine == pos.line) = true := by rfl) :
    DE X E (.Call (.Attribute a "join" ap) [e] [] pos) (dJoin da db) := ⟨fun B => pe_mono (pe_join (ho.run B) (he.run B) hs hbase hline) fun σ H Q q => by
  obtain ⟨δ, S, W, Q', R, q, xo, post⟩ := q
  refine ⟨δ, S, W, _, R, hstr _ _ _ q, xo, fun s δ1 v S1 H1 q1 e1 R1 n1 => ?_⟩
  obtain ⟨⟨z, rfl⟩, q1⟩ := q1
  cases n1
  refine ⟨⟨z, rfl⟩, δ1, S1, W, _, R1, q1, xo.mono e1, fun x δ2 u S2 H2 q2 e2 R2 n2 => ?_⟩
  match x, n2, q2 with
  | .lst zs, .lst h aa, q2 =>
    obtain ⟨ys, hy, hz, q2⟩ := optQ_ex q2
    have e := strs_valsD aa hy
    exact ⟨z, _, ys, rfl, rfl, .inl (SqL.of (by rw [← e]; exact R2.ex _ _ h)), hz, post _ _ _ _ _ q2 (e1.trans e2) R2 (.str _)⟩
  | .tup zs, .tup h aa, q2 =>
    obtain ⟨ys, hy, hz, q2⟩ := optQ_ex q2
    have e := strs_valsD aa hy
    exact ⟨z, _, ys, rfl, rfl, .inr (by rw [← e]; exact SqT.of (R2.ex _ _ h)), hz, post _ _ _ _ _ q2 (e1.trans e2) R2 (.str _)⟩⟩
theorem dc_str {z : Str} (W : XW) (δ : DS) (Q : D → DS → Prop) (h : dC (.str z) W δ Q) : dC (.str z) W δ fun s δ' => (∃ z, s = .str z) ∧ Q s δ' := ⟨⟨z, rfl⟩, h⟩
/-- f'..' -/
def dFmt (d : dE) : dE := fun W δ Q => d W δ fun x δ1 => match x with
  | .str y => y.length ≤ sizeLine ∧ Q (.str y) δ1
  | .int i => i.natAbs.log2 < 1920 ∧ Q (.str (toString i)) δ1
  | _ => False
theorem de_fmt (he : DE X E e da) : DE X E (.FormattedValue e (-1) none pos) (dFmt da) := ⟨fun B => pe_mono (pe_fmt (he.run B)) fun σ H Q q => by
  obtain ⟨δ, S, W, Q', R, q, xo, post⟩ := q
  refine ⟨δ, S, W, _, R, q, xo, fun x δ1 v S1 H1 q1 e1 R1 n1 => ?_⟩
  match x, n1, q1 with
  | .str y, .str _, q1 => exact .inl ⟨y, rfl, q1.1, post _ _ _ _ _ q1.2 e1 R1 (.str _)⟩
  | .int i, .int _, q1 => exact .inr ⟨i, rfl, q1.1, post _ _ _ _ _ q1.2 e1 R1 (.str _)⟩⟩
inductive DJ (X : Cx) (E : EK) : List Expr → List dE → Prop where
  | nil : DJ X E [] []
  | cons {e : Expr} {t : dE} {es : List Expr} {ts : List dE} (h : DE X E e t) (r : DJ X E es ts) : DJ X E (e :: es) (t :: ts)
def dJs : List dE → Str → XW → DS → (Str → DS → Prop) → Prop
  | [], acc, _, δ, Q => Q acc δ
  | t :: ts, acc, W, δ, Q => t W δ fun x δ1 => match x with
    | .str y => (acc ++ y).length ≤ sizeLine ∧ dJs ts (acc ++ y) W δ1 Q
    | _ => False
theorem DJ.pj {E : EK} {es : List Expr} {ts : List dE} (h : DJ X E es ts) (B : Bs) : PJ X es (ts.map fun t => liftE X.K B E t) := by
  induction h with
  | nil => exact .nil
  | cons h r ih => exact .cons (h.run B) ih
theorem js_read : ∀ (ts : List dE) (acc : Str) {δ : DS} {S H : Hp} {W : XW} {Q1 : Str → DS → Prop} {Q : Str → Hp → Prop}, Rel K B δ S σ H → XOk K B E W S → dJs ts acc W δ Q1 → (∀ y δ' S' H', Q1 y δ' → Ex S S' → Rel K B δ' S' σ H' → Q y H') → tJs (ts.map fun t => liftE K B E t) acc σ H Q
  | [], acc, _, _, _, _, _, _, R, _, q, post => post _ _ _ _ q (Ex.refl _) R
  | t :: ts, acc, δ, S, H, W, Q1, Q, R, xo, q, post => by
    refine ⟨δ, S, W, _, R, q, xo, fun x δ1 v S1 H1 q1 e1 R1 n1 => ?_⟩
    match x, n1, q1 with
    | .str y, .str _, q1 => exact ⟨y, rfl, q1.1, js_read ts _ R1 (xo.mono e1) q1.2 fun z δ' S' H' q' e' R' => post z δ' S' H' q' (e1.trans e') R'⟩
def dFs (ts : List dE) : dE := fun W δ Q => dJs ts Str.empty W δ fun out δ' => Q (.str out) δ'
theorem de_fs {v1 v2 : Expr} {rest : List Expr} {ts : List dE} (h : DJ X E (v1 :: v2 :: rest) ts) : DE X E (.JoinedStr (v1 :: v2 :: rest) pos) (dFs ts) := ⟨fun B => pe_mono (pe_joined (h.pj B)) fun σ H Q q => by
  obtain ⟨δ, S, W, Q', R, q, xo, post⟩ := q
  exact js_read ts _ R xo q fun y δ' S' H' q1 e1 R1 => post _ _ _ _ _ q1 e1 R1 (.str _)⟩
end

/-! ### the pen's own def: the first parameter is the pen, the second how many -/
def penD (ns : List Int) (k m : Int) : List D := [.lst (ns.map D.int), .int k, .int m]
/-- what a draw tells: any number below many, one draw more -/
def spDraw (top : Nat) : dSp := fun ds p Q _ => match ds, p with
  | [.raw (.ref a), .int n], some (b, c) => a = b ∧ 0 < n ∧ n < 1000000 ∧ c < top ∧ ∀ r, 0 ≤ r → r < n → Q (.int r) (some (a, c + 1))
  | _, _ => False
section
variable {P : Program} {w : World} {K : PySem.W.Frag} {mg : Str → Option Value} {base : Heap} {x qual : Str} {st : Stmt} {f : Addr} {fd : FuncData} {N ps : List Str} {k : Nat} {d : dS}
theorem intsOf_ints : ∀ ns : List Int, intsOf (ns.map D.int) = some ns
  | [] => rfl
  | n :: ns => by simp [intsOf, intsOf_ints ns]
theorem fn_pen {top : Nat} (F : Fun K x qual st f fd) (Sc : FnScope N ps (defScope st)) (hn : ps.length = 2)
    (body : ∀ (cdv : Value) (A : Around) (out : List Env) (s : Shared) (H : Hp) (E : XK), A.guards = some [] → Room k (A.deeper (envOfC qual (defScope st) s.heap.objs.size f cdv)) → DSs (cx0 P w K mg base N qual (defScope st) f cdv A out s H E) E00 (defBody st) d)
    (hsp : ∀ (ns : List Int) (k m n : Int), ns.length ≤ 63 → 0 ≤ k → k < top → 0 ≤ m → 0 < n → n < 1000000 →
      d W0 { nx := fun _ => False, rt := fun x δ => ∃ r k' m' : Int, x = .int r ∧ 0 ≤ r ∧ r < n ∧ 0 ≤ k' ∧ k' ≤ k + 1 ∧ 0 ≤ m' ∧ δ.sl[0]? = some (.hp (penD ns k' m')) } ⟨.hp (penD ns k m) :: .dat (.int n) :: List.replicate (N.length - 2) .un, none⟩) :
    FnG P w K mg base CX0 (k + 1) f fd ps (spD K 2 (spDraw top)) := by
  refine fn_g F Sc (fun vs H Q E q => (spD_len vs H Q E q).trans hn.symm) fun cdv _ A out s H vs Q E g r q => ?_
  obtain ⟨S0, ds, p, Q', W', ex, hp, a, hl, q, post, _⟩ := q
  have hN : 2 ≤ N.length := by
    have h2 := congrArg List.length Sc.pre
    rw [List.length_take] at h2
    omega
  match ds, p, q, a, hp with
  | [.raw (.ref a0), .int n], some (b, c), ⟨e1, n1, n2, ct, q⟩, a, hp =>
    subst e1
    obtain ⟨v1, v2, rfl, d1, d2⟩ := a.two
    cases d1; cases d2
    obtain ⟨pn, ca, ns, kk, m, g1, g2, g3, g4, g5, g6⟩ := hp
    have start0 : Rel K ⟨S0, H, some a0, false⟩ ⟨.hp (penD ns kk m) :: .dat (.int n) :: List.replicate (N.length - 2) .un, none⟩ S0 (L2.start N [.ref a0, .int n]) H := by
      refine ⟨ex, ⟨Ex.refl _, fun _ _ h _ _ => h, fun _ ps h => ⟨ps, h⟩, fun _ _ _ n => n, fun b z => by cases z; exact ⟨_, g1⟩⟩, trivial, (by unfold PaOk; rw [if_neg (fun z => Bool.false_ne_true z.1)]; exact fun _ _ z => nomatch z), ?_, fun i => if i = 0 then some a0 else none, fun i y e => ?_, fun i hi => ?_, fun i j a e1 e2 => ?_, fun i a e => ?_⟩
      · simp only [L2.start, List.length_append, List.length_map, List.length_replicate, List.length_cons, List.length_nil]; omega
      · match i, e with
        | 0, e =>
          cases (show some (Sl.hp (penD ns kk m)) = some y from e)
          exact ⟨a0, [.ref ca, .int kk, .int m], rfl, rfl, rfl, g1, .cons (.lst g2 (DnA.ints ns)) (.cons (.int _) (.cons (.int _) .nil))⟩
        | 1, e =>
          cases (show some (Sl.dat (.int n)) = some y from e)
          exact ⟨rfl, .int n, rfl, .int n⟩
        | i + 2, e =>
          have e : (List.replicate (N.length - 2) Sl.un)[i]? = some y := by simpa using e
          rw [List.getElem?_replicate] at e
          split at e
          · cases e; exact rfl
          · cases e
      · have : i ≠ 0 := fun z => by subst z; simp at hi
        simp [this]
      · have e1 : (if i = 0 then some a0 else none) = some a := e1
        have e2 : (if j = 0 then some a0 else none) = some a := e2
        split at e1
        · split at e2
          · exact (by assumption : i = 0).trans (by assumption : j = 0).symm
          · cases e2
        · cases e1
      · have e : (if i = 0 then some a0 else none) = some a := e
        split at e
        · cases e; exact ⟨pn, .inr rfl, (fun c z => (nomatch z)), _, g1⟩
        · cases e
    refine ⟨_, ((body cdv A out s H E g r).run ⟨S0, H, some a0, false⟩).nox, _, S0, W0, _, start0, hsp ns kk m n g3 g4 (by omega) g6 n1 n2, fun _ _ _ _ _ _ _ h => h.elim, fun _ _ _ _ h => h.elim, fun x δ' v σ' S' H' q1 e1 R1 dn => ?_, fun _ _ _ _ h => h.elim, fun _ _ _ _ h => h.elim, fun _ _ _ _ _ _ _ h => h.elim⟩
    obtain ⟨r, k', m', rfl, r1, r2, r3, r4, r5, r6⟩ := q1
    obtain ⟨p', vs, s1, s2, s3, s4, s5, _⟩ := R1.hp r6
    cases s5
    match vs, s3, s2 with
    | [_, _, _], .cons t1 (.cons t2 (.cons t3 .nil)), s2 =>
      cases t2; cases t3
      cases t1 with
      | lst u1 u2 =>
        have e := ints_valsD (bs := ns) u2 (intsOf_ints ns)
        subst e
        exact post _ (some (a0, c + 1)) _ _ _ (q r r1 r2) ⟨e1, R1.ex, ⟨s4, _, ns, k', m', s2, u1, g3, r3, by omega, r5⟩, .inl rfl, fun b o h nb nt => R1.fr.h b o h nb nt, R1.fr.t, R1.fr.no⟩ dn
end
end Ev

/-! # A pen is born; calls by keywords, defaults; what is known of a def -/
namespace Ev
open PySem PySem.Spec PyProof.Rows L2
variable [TabC]
variable {K : PySem.W.Frag} {S S' H H' : Hp} {B : Bs} {δ : DS} {σ : L2.St}
section
variable {X : Cx} {E : EK} {e a b c : Expr} {es : List Expr} {pos p ap cp : Pos} {da db : dE} {x : Str}
/-- a new list that is a pen: from here on it is the pen -/
def dBorn (f : dF) : dE := fun W δ Q => f W δ fun xs δ1 => δ1.pen = none ∧ ∃ (ns : List Int) (k m : Int) (c : Nat), xs = penD ns k m ∧ ns.length ≤ 63 ∧ 0 ≤ k ∧ k ≤ c ∧ 0 ≤ m ∧ ∀ a, Q (.raw (.ref a)) { δ1 with pen := some (a, c) }
theorem Rel.born (R : Rel K B δ S σ H) (hn : δ.pen = none) (hb : ¬(B.pd = true ∧ B.pa ≠ none)) {p ca : Addr} {ns : List Int} {k m : Int} {c : Nat} (hp : H p = none) (hc : S ca = some (.lst (ns.map V.int))) (h63 : ns.length ≤ 63) (h0 : 0 ≤ k) (hk : k ≤ c) (hm : 0 ≤ m) :
    Rel K B { δ with pen := some (p, c) } S σ (upd H p (.lst [.ref ca, .int k, .int m])) := by
  obtain ⟨f1, f2⟩ := R.fr.fresh hp
  have sp : S p = none := R.ex.none hp
  have g : Grow S H S (upd H p (.lst [.ref ca, .int k, .int m])) := ⟨Ex.refl _, Ext.of (Ex.new hp), R.ex.one hp (fun vs z => HO.noConfusion z), fun _ _ _ n => n⟩
  have R' := R.grow g
  obtain ⟨ow, h1, h2, h3, h4⟩ := R.sl
  obtain ⟨ow', h1', h2', h3', h4'⟩ := R'.sl
  refine ⟨R'.ex, R'.fr, ⟨sp, ca, ns, k, m, upd_same, hc, h63, h0, hk, hm⟩, ?_, R'.len, ow, fun i x e => (h1 i x e).grow (Ex.refl _) fun a o _ q _ => Ex.new hp a o q, h2, h3, fun i a e => ?_⟩
  · unfold PaOk
    rw [if_neg hb]
    intro a c' z
    cases z
    exact ⟨f1, f2⟩
  · obtain ⟨q1, q2, q3, o, q4⟩ := h4 i a e
    have ne : a ≠ p := fun z => by rw [z, hp] at q4; cases q4
    refine ⟨q1, q2, fun c' z => ?_, o, by rw [upd_ne ne]; exact q4⟩
    cases z
    exact ne rfl
theorem Rel.free (R : Rel K B δ S σ H) (hn : δ.pen = none) : ¬(B.pd = true ∧ B.pa ≠ none) := fun z => by
  have q := R.pa
  unfold PaOk at q
  rw [if_pos z, hn] at q
  exact z.2 q.symm
theorem DnA.pen {vs : List V} {ns : List Int} {k m : Int} (h : DnA K S vs (penD ns k m)) : ∃ ca, vs = [.ref ca, .int k, .int m] ∧ S ca = some (.lst (ns.map V.int)) := by
  match vs, h with
  | [_, _, _], .cons t1 (.cons t2 (.cons t3 .nil)) =>
    cases t2; cases t3
    cases t1 with
    | lst u1 u2 =>
      have e := ints_valsD (bs := ns) u2 (intsOf_ints ns)
      subst e
      exact ⟨_, rfl, u1⟩
theorem de_born {f : dF} (h : DF X E e f) : DE X E e (dBorn f) := ⟨fun B => pe_mono (h.run B) fun σ H Q q => by
  obtain ⟨δ, S, W, Q', R, q, xo, post⟩ := q
  refine ⟨δ, S, W, _, R, q, xo, fun xs δ1 p vs S1 H1 q1 e1 R1 hp n1 => ?_⟩
  obtain ⟨hn, ns, k, m, c, rfl, z1, z2, z3, z4, q1⟩ := q1
  obtain ⟨ca, rfl, hc⟩ := n1.pen
  exact post _ _ _ _ _ (q1 p) e1 (R1.born hn (R1.free hn) hp hc z1 z2 z3 z4) (.raw _)⟩

/-! ### calls: defaults, keywords -/
/-- f(..), n arguments in all, the last ones by default -/
def dCallD (n : Nat) (dd : List D) (sp : dSp) (a : dA) : dE := fun W δ Q => a W δ fun xs δ1 => (xs ++ dd).length = n ∧ sp (xs ++ dd) δ1.pen (fun x p' => Q x { δ1 with pen := p' }) fun c p' => W c { δ1 with pen := p' }
/-- the arguments us and those by keyword ws and the defaults, put in order -/
def pickL {α : Type} (p q : Nat) (idx : List Nat) (dd us ws : List α) : List α := if us.length = p ∧ ws.length = q then idx.filterMap ((us ++ ws ++ dd)[·]?) else []
theorem DnA.filterMap {vs : List V} {ds : List D} (a : DnA K S vs ds) : ∀ idx : List Nat, DnA K S (idx.filterMap (vs[·]?)) (idx.filterMap (ds[·]?))
  | [] => .nil
  | i :: idx => by
    have ih := a.filterMap idx
    rw [List.filterMap_cons, List.filterMap_cons]
    cases h : ds[i]? with
    | none =>
      have : vs[i]? = none := by
        rw [List.getElem?_eq_none_iff] at h ⊢
        rw [a.length]; exact h
      rw [this]; exact ih
    | some d =>
      obtain ⟨v, h1, h2⟩ := a.get h
      rw [h1]
      exact .cons h2 ih
theorem DnA.pick {p q : Nat} {idx : List Nat} {dv us ws : List V} {dd ds es : List D} (hd : DnA K S dv dd) (h1 : DnA K S us ds) (h2 : DnA K S ws es) : DnA K S (pickL p q idx dv us ws) (pickL p q idx dd ds es) := by
  unfold pickL
  rw [h1.length, h2.length]
  split
  · exact ((h1.append h2).append hd).filterMap idx
  · exact .nil
theorem vals_filterMap {vs : List V} {us : List Value} (a : Vals vs us) : ∀ idx : List Nat, Vals (idx.filterMap (vs[·]?)) (idx.filterMap (us[·]?))
  | [] => .nil
  | i :: idx => by
    have ih := vals_filterMap a idx
    rw [List.filterMap_cons, List.filterMap_cons]
    cases h : vs[i]? with
    | none =>
      rw [a.none_of h]; exact ih
    | some v =>
      obtain ⟨u, h1, h2⟩ := a.get h
      rw [h1]
      exact .cons h2 ih
theorem vals_pick {p q : Nat} {idx : List Nat} {dv us ws : List V} {dd ds es : List Value} (hd : Vals dv dd) (h1 : Vals us ds) (h2 : Vals ws es) : Vals (pickL p q idx dv us ws) (pickL p q idx dd ds es) := by
  unfold pickL
  rw [h1.length, h2.length]
  split
  · exact vals_filterMap ((h1.append h2).append hd) idx
  · exact .nil
/-- how a def's keywords bind -/
theorem kbinds_of {fd : FuncData} {ps ks : List Str} {p q : Nat} {idx : List Nat} {dv : List V} {ds : List Value} (hd : Vals dv ds) (hn : 0 < ps.length)
    (h : ∀ (s : Shared) (us ws : List Value), K.In s.heap → us.length = p → ws.length = q → BindsTo s fd ⟨us, ks.zip ws⟩ (ps.zip (idx.filterMap ((us ++ ws ++ ds)[·]?)))) : KBinds K fd ps ks (pickL p q idx ds) (pickL p q idx dv) where
  to := fun s us ws ki hl => by
    unfold pickL at hl ⊢
    split at hl
    · rename_i z
      rw [if_pos z]
      exact h s us ws ki z.1 z.2
    · rw [← hl] at hn
      exact absurd hn (Nat.lt_irrefl 0)
  rel := fun r rz => vals_pick hd r rz
/-- a def that lets nothing out: everything that a call wants to know of it; dd: the values by default -/
structure Def (P : Program) (w : World) (K : PySem.W.Frag) (mg : Str → Option Value) (base : Heap) (k : Nat) (x : Str) (n : Nat) (sp : dSp) (dd : List D) : Prop where
  ok : ∃ (ps : List Str) (f : Addr) (fd : FuncData) (dv : List V) (ds : List Value), FnG P w K mg base CX0 k f fd ps (spD K n sp) ∧ mg x = some (.ref f) ∧ PySem.W.keepIn K (.ref f) = true ∧ Binds K fd ps ds ∧ Vals dv ds ∧ ∀ S, DnA K S dv dd
structure DefK (P : Program) (w : World) (K : PySem.W.Frag) (mg : Str → Option Value) (base : Heap) (k : Nat) (x : Str) (n : Nat) (sp : dSp) (p q : Nat) (ks : List Str) (idx : List Nat) (dd : List D) : Prop where
  ok : ∃ (ps : List Str) (f : Addr) (fd : FuncData) (dv : List V) (ds : List Value), FnG P w K mg base CX0 k f fd ps (spD K n sp) ∧ mg x = some (.ref f) ∧ PySem.W.keepIn K (.ref f) = true ∧ KBinds K fd ps ks (pickL p q idx ds) (pickL p q idx dv) ∧ ∀ S, DnA K S dv dd
theorem pass_at {E : L2.St → XK} : ∀ σ, PassesAt CX0 X σ (E σ) := fun _ _ _ _ _ _ _ h => h.elim
variable {j k n : Nat} {sp : dSp} {dd : List D} {ta : dA}
theorem de_callD (h : Def X.prog X.w X.K X.mg X.base j x n sp dd) (hg : X.A.guards = some []) (hr : Room k X.A) (gl : Gl X x) (ha : DA X E (e :: es) ta) (hj : j ≤ k := by decide) (hdb : (x == ("__debug__" : Str)) = false := by decide)
    (he : starEach (e :: es) X.env = (false, eval e X.env) :: starEach es X.env := by rfl) (hpl : (backTo pos (starEach es X.env)).any (·.1) = false := by rfl) : DE X E (.Call (.Name x p) (e :: es) [] pos) (dCallD n dd sp ta) := by
  obtain ⟨ps, f, fd, dv, ds, F, m, kp, b, vd, dn⟩ := h.ok
  refine ⟨fun B => pe_mono (pe_callG F hg (hr.mono hj) gl m kp b vd (pass_at (E := E)) (ha.run B) hdb he hpl) fun σ H Q q => ?_⟩
  obtain ⟨δ, S, W, Q', R, q, xo, post⟩ := q
  refine ⟨δ, S, W, _, R, q, xo, fun xs δ1 vs S1 H1 q1 e1 R1 n1 => ?_⟩
  exact call_read xo e1 R1 (n1.append (dn S1)) q1.1 q1.2 post
theorem de_callD0 (h : Def X.prog X.w X.K X.mg X.base j x n sp dd) (hg : X.A.guards = some []) (hr : Room k X.A) (gl : Gl X x) (hj : j ≤ k := by decide) (hdb : (x == ("__debug__" : Str)) = false := by decide) : DE X E (.Call (.Name x p) [] [] pos) (dCallD n dd sp dNil) := by
  obtain ⟨ps, f, fd, dv, ds, F, m, kp, b, vd, dn⟩ := h.ok
  refine ⟨fun B => pe_mono (pe_callG0 F hg (hr.mono hj) gl m kp b vd (pass_at (E := E)) hdb) fun σ H Q q => ?_⟩
  obtain ⟨δ, S, W, Q', R, q, xo, post⟩ := q
  exact call_read xo (Ex.refl _) R (dn S) q.1 q.2 post
/-- values by keyword -/
structure DK (X : Cx) (E : EK) (kws : List Keyword) (d : dA) : Prop where
  run : ∀ B, PK X kws (liftA X.K B E d)
theorem pk_mono {kws : List Keyword} {t t' : TA} (h : PK X kws t) (m : ∀ σ H Q, t' σ H Q → t σ H Q) : PK X kws t' := ⟨fun pos pins s σ H Q I q => h.run pos pins s σ H Q I (m _ _ _ q)⟩
theorem dk_nil : DK X E [] dNil := ⟨fun B => pk_mono pk_nil fun σ H Q q => by
  obtain ⟨δ, S, W, Q', R, q, xo, post⟩ := q
  exact post _ _ _ _ _ q (Ex.refl _) R .nil⟩
theorem dk_cons {nm : Option Str} {kpos : Pos} {kws : List Keyword} {r : dA} (h : DE X E e da) (hr : DK X E kws r) : DK X E (⟨nm, e, kpos⟩ :: kws) (dCons da r) := ⟨fun B => pk_mono (pk_cons (h.run B) (hr.run B)) fun σ H Q q => by
  obtain ⟨δ, S, W, Q', R, q, xo, post⟩ := q
  refine ⟨δ, S, W, _, R, q, xo, fun x δ1 v S1 H1 q1 e1 R1 n1 => ?_⟩
  exact ⟨δ1, S1, W, _, R1, q1, xo.mono e1, fun xs δ2 vs S2 H2 q2 e2 R2 n2 => post _ _ _ _ _ q2 (e1.trans e2) R2 (.cons (n1.mono e2) n2)⟩⟩
def dCallK (n p q : Nat) (idx : List Nat) (dd : List D) (sp : dSp) (a tk : dA) : dE := fun W δ Q => a W δ fun us δ1 => tk W δ1 fun ws δ2 => (pickL p q idx dd us ws).length = n ∧ sp (pickL p q idx dd us ws) δ2.pen (fun x p' => Q x { δ2 with pen := p' }) fun c p' => W c { δ2 with pen := p' }
variable {pp qq : Nat} {ks : List Str} {idx : List Nat} {kws : List Keyword} {tk : dA}
theorem de_callK (h : DefK X.prog X.w X.K X.mg X.base j x n sp pp qq ks idx dd) (hg : X.A.guards = some []) (hr : Room k X.A) (gl : Gl X x) (ha : DA X E (e :: es) ta) (hk : DK X E kws tk) (hj : j ≤ k := by decide) (hall : (backToKw pos (keywordEach kws X.env)).all (·.1.isSome) = true := by rfl)
    (hks : (backToKw pos (keywordEach kws X.env)).filterMap (·.1) = ks := by rfl) (hdb : (x == ("__debug__" : Str)) = false := by decide) (he : starEach (e :: es) X.env = (false, eval e X.env) :: starEach es X.env := by rfl)
    (hpl : ((backTo pos (starEach (e :: es) X.env)).any (·.1) || (backToKw pos (keywordEach kws X.env)).any (·.1.isNone)) = false := by rfl) : DE X E (.Call (.Name x p) (e :: es) kws pos) (dCallK n pp qq idx dd sp ta tk) := by
  obtain ⟨ps, f, fd, dv, ds, F, m, kp, b, dn⟩ := h.ok
  refine ⟨fun B => pe_mono (pe_callGK F hg (hr.mono hj) gl m kp b (pass_at (E := E)) (ha.run B) (hk.run B) hall hks hdb he hpl) fun σ H Q q => ?_⟩
  obtain ⟨δ, S, W, Q', R, q, xo, post⟩ := q
  refine ⟨δ, S, W, _, R, q, xo, fun us δ1 vs S1 H1 q1 e1 R1 n1 => ?_⟩
  refine ⟨δ1, S1, W, _, R1, q1, xo.mono e1, fun ws δ2 zs S2 H2 q2 e2 R2 n2 => ?_⟩
  exact call_read xo (e1.trans e2) R2 (DnA.pick (dn S2) (n1.mono e2) n2) q2.1 q2.2 post
theorem de_callK0 (h : DefK X.prog X.w X.K X.mg X.base j x n sp pp qq ks idx dd) (hg : X.A.guards = some []) (hr : Room k X.A) (gl : Gl X x) (hk : DK X E kws tk) (hj : j ≤ k := by decide) (hall : (backToKw pos (keywordEach kws X.env)).all (·.1.isSome) = true := by rfl)
    (hks : (backToKw pos (keywordEach kws X.env)).filterMap (·.1) = ks := by rfl) (hdb : (x == ("__debug__" : Str)) = false := by decide)
    (hpl : ((backTo pos (starEach [] X.env)).any (·.1) || (backToKw pos (keywordEach kws X.env)).any (·.1.isNone)) = false := by rfl) : DE X E (.Call (.Name x p) [] kws pos) (dCallK n pp qq idx dd sp dNil tk) := by
  obtain ⟨ps, f, fd, dv, ds, F, m, kp, b, dn⟩ := h.ok
  refine ⟨fun B => pe_mono (pe_callGK0 F hg (hr.mono hj) gl m kp b (pass_at (E := E)) (hk.run B) hall hks hdb hpl) fun σ H Q q => ?_⟩
  obtain ⟨δ, S, W, Q', R, q, xo, post⟩ := q
  refine ⟨δ, S, W, _, R, q, xo, fun ws δ2 zs S2 H2 q2 e2 R2 n2 => ?_⟩
  exact call_read xo e2 R2 (DnA.pick (dn S2) .nil n2) q2.1 q2.2 post
end
end Ev

/-! # Minus; loops by invariants; what may be compared and shown, by size -/
namespace Ev
open PySem PySem.Spec PyProof.Rows L2
variable [TabC]
variable {K : PySem.W.Frag} {S S' H H' : Hp} {B : Bs} {δ : DS} {σ : L2.St}
section
variable {X : Cx} {E : EK} {e a b c : Expr} {es : List Expr} {pos p ap cp : Pos} {da db : dE} {x : Str}
def dNeg (d : dE) : dE := fun W δ Q => d W δ fun x δ1 => match x with | .int i => Q (.int (-i)) δ1 | _ => False
theorem de_usub (h : DE X E e da) : DE X E (.UnaryOp .USub e pos) (dNeg da) := ⟨fun B => pe_mono (pe_un un_neg (h.run B)) fun σ H Q q => by
  obtain ⟨δ, S, W, Q', R, q, xo, post⟩ := q
  refine ⟨δ, S, W, _, R, q, xo, fun x δ1 v S1 H1 q1 e1 R1 n1 => ?_⟩
  match x, n1, q1 with
  | .int i, .int _, q1 => exact ⟨i, rfl, post _ _ _ _ _ q1 e1 R1 (.int _)⟩⟩
theorem de_neg {i : Int} {j} : DE X E (.UnaryOp .USub (.Constant (.int i) j p) pos) (dC (.int (-i))) := ⟨fun B => pe_mono ((de_usub (E := E) (de_int (i := i) (j := j))).run B) fun σ H Q q => q⟩
end
/-! ### loops -/
section
variable {g : dG} {b : dS} {W : XW} {N : dEnds} {tt : dT} {te : dE} {vs : List Nat} {Q : List D → DS → Prop}
/-- a for by what holds ahead of what is left -/
theorem wFor_ind (I : List D → DS → Prop) (h : ∀ d ds δ (k : DS → Prop), (∀ δ', I ds δ' → k δ') → I (d :: ds) δ → g d δ fun δ1 => b W { N with nx := k, ct := k, bk := N.nx } δ1) (h0 : ∀ δ, I [] δ → N.nx δ) : ∀ ds δ, I ds δ → wFor g b W N ds δ
  | [], δ, i => h0 δ i
  | d :: ds, δ, i => h d ds δ _ (fun δ' i' => wFor_ind I h h0 ds δ' i') i
theorem wLC_ind (I : List D → List D → DS → Prop) (h : ∀ d ds acc δ (k : List D → DS → Prop), (∀ acc' δ', I ds acc' δ' → k acc' δ') → I (d :: ds) acc δ → g d δ fun δ1 => tt W0 δ1 fun z δ2 => match z with
      | true => te W0 δ2 fun y δ3 => acc.length < sizeLine ∧ k (acc ++ [y]) (wipeD δ3 vs)
      | false => k acc (wipeD δ2 vs)) (h0 : ∀ acc δ, I [] acc δ → Q acc δ) : ∀ ds acc δ, I ds acc δ → wLC g tt te vs Q ds acc δ
  | [], acc, δ, i => h0 acc δ i
  | d :: ds, acc, δ, i => by
    have q := h d ds acc δ (fun acc' δ' => wLC g tt te vs Q ds acc' δ') (fun acc' δ' i' => wLC_ind I h h0 ds acc' δ' i') i
    exact q
/-- a comprehension that makes f d of each d, nothing else changed -/
theorem wLC_map {δ0 : DS} {xs : List D} (f : D → D) (h : ∀ d ∈ xs, ∀ acc (k : List D → DS → Prop), acc.length < sizeLine → k (acc ++ [f d]) δ0 → g d δ0 fun δ1 => tt W0 δ1 fun z δ2 => match z with
      | true => te W0 δ2 fun y δ3 => acc.length < sizeLine ∧ k (acc ++ [y]) (wipeD δ3 vs)
      | false => k acc (wipeD δ2 vs)) (hl : xs.length ≤ sizeLine) (h0 : Q (xs.map f) δ0) : wLC g tt te vs Q xs [] δ0 := by
  refine wLC_ind (fun ds acc δ => δ = δ0 ∧ (∀ d ∈ ds, d ∈ xs) ∧ acc ++ ds.map f = xs.map f) (fun d ds acc δ k hk i => ?_) (fun acc δ i => ?_) xs [] δ0 ⟨rfl, fun _ h => h, rfl⟩
  · obtain ⟨rfl, h1, h2⟩ := i
    refine h d (h1 d List.mem_cons_self) acc k ?_ (hk _ _ ⟨rfl, fun z hz => h1 z (List.mem_cons_of_mem _ hz), by rw [← h2]; simp⟩)
    have := congrArg List.length h2
    simp at this
    omega
  · obtain ⟨rfl, _, h2⟩ := i
    rw [List.map_nil, List.append_nil] at h2
    rw [h2]; exact h0
end
/-! ### equality of data -/
theorem eq_int {i j : Int} : D.eq (.int i) (.int j) = decide (i = j) := by simp [D.eq, D.py, PyData.eqv]; rfl
theorem eq_str {i j : Str} : D.eq (.str i) (.str j) = decide (i = j) := by simp [D.eq, D.py, PyData.eqv]; rfl
theorem eq_bl {i j : Bool} : D.eq (.bl i) (.bl j) = decide (i = j) := by simp [D.eq, D.py, PyData.eqv]; rfl
theorem eq_non : D.eq .non .non = true := by simp [D.eq, D.py, PyData.eqv]
mutual
theorem D.eqv_refl : ∀ d : D, PyData.eqv d.py d.py = true
  | .non => by simp [D.py, PyData.eqv]
  | .bl b => by simp [D.py, PyData.eqv]
  | .int i => by simp [D.py, PyData.eqv]
  | .str x => by simp [D.py, PyData.eqv]
  | .tup xs => by simp [D.py, PyData.eqv, D.eqv_refls xs]
  | .kt xs => by simp [D.py, PyData.eqv, D.eqv_refls xs]
  | .lst xs => by simp [D.py, PyData.eqv, D.eqv_refls xs]
  | .dK _ => by simp [D.py, PyData.eqv]
  | .dT _ => by simp [D.py, PyData.eqv]
  | .fK _ => by simp [D.py, PyData.eqv]
  | .fT _ => by simp [D.py, PyData.eqv]
  | .raw _ => by simp [D.py, PyData.eqv]
  | .scr _ => by simp [D.py, PyData.eqv]
  | .fn _ _ => by simp [D.py, PyData.eqv]
theorem D.eqv_refls : ∀ ds : List D, PyData.eqvAll (D.pys ds) (D.pys ds) = true
  | [] => by simp [D.pys, PyData.eqvAll]
  | d :: ds => by simp [D.pys, PyData.eqvAll, D.eqv_refl d, D.eqv_refls ds]
end
theorem D.eq_refl (d : D) : D.eq d d = true := D.eqv_refl d
def D.eqs : List D → List D → Bool
  | [], [] => true
  | x :: xs, y :: ys => D.eq x y && D.eqs xs ys
  | _, _ => false
theorem D.eqs_py : ∀ xs ys : List D, PyData.eqvAll (D.pys xs) (D.pys ys) = D.eqs xs ys
  | [], [] => by simp [D.pys, PyData.eqvAll, D.eqs]
  | x :: xs, y :: ys => by simp [D.pys, PyData.eqvAll, D.eqs, D.eqs_py xs ys, D.eq]
  | [], _ :: _ => by simp [D.pys, PyData.eqvAll, D.eqs]
  | _ :: _, [] => by simp [D.pys, PyData.eqvAll, D.eqs]
theorem eq_tup {xs ys : List D} : D.eq (.tup xs) (.tup ys) = D.eqs xs ys := by simp [D.eq, D.py, PyData.eqv, D.eqs_py]
theorem eq_lst {xs ys : List D} : D.eq (.lst xs) (.lst ys) = D.eqs xs ys := by simp [D.eq, D.py, PyData.eqv, D.eqs_py]
/-! ### what may be compared, what may be shown -/
mutual
/-- texts of true signs, numbers of at most thirty digits, nothing but these within -/
def D.okd : D → Bool
  | .non => true
  | .bl _ => true
  | .int i => decide (i.natAbs < 10 ^ 30)
  | .str x => PyData.strOk x
  | .tup xs => D.okds xs
  | .kt xs => D.okds xs
  | .lst xs => D.okds xs
  | _ => false
def D.okds : List D → Bool
  | [] => true
  | x :: xs => x.okd && D.okds xs
end
mutual
/-- signs that are enough for its repr -/
def D.sz : D → Nat
  | .int _ => 31
  | .str x => 10 * x.length + 2
  | .tup xs => D.szs xs + 5
  | .kt xs => D.szs xs + 5
  | .lst xs => D.szs xs + 5
  | _ => 5
def D.szs : List D → Nat
  | [] => 0
  | x :: xs => x.sz + 2 + D.szs xs
end
mutual
theorem D.okd_lay : ∀ d : D, d.okd = true → d.lay = true
  | .non, _ => rfl
  | .bl b, _ => rfl
  | .int i, _ => rfl
  | .str x, h => h
  | .tup xs, h => D.okds_lay xs h
  | .kt xs, h => D.okds_lay xs h
  | .lst xs, h => D.okds_lay xs h
  | .dK _, h => by cases h
  | .dT _, h => by cases h
  | .fK _, h => by cases h
  | .fT _, h => by cases h
  | .raw _, h => by cases h
  | .scr _, h => by cases h
  | .fn _ _, h => by cases h
theorem D.okds_lay : ∀ ds : List D, D.okds ds = true → D.lays ds = true
  | [], _ => rfl
  | d :: ds, h => by
    have h' : (d.okd && D.okds ds) = true := h
    rw [Bool.and_eq_true] at h'
    show (d.lay && D.lays ds) = true
    rw [D.okd_lay d h'.1, D.okds_lay ds h'.2]; rfl
end
theorem log2_of {n : Nat} (h : n < 10 ^ 30) : n.log2 < 1920 := by
  by_cases z : n = 0
  · subst z; decide
  · rw [Nat.log2_lt z]
    exact Nat.lt_trans h (by decide +kernel)
mutual
theorem D.okd_sho : ∀ d : D, d.okd = true → d.sho = true
  | .non, _ => rfl
  | .bl b, _ => rfl
  | .int i, h => decide_eq_true (log2_of (of_decide_eq_true h))
  | .str x, h => rfl
  | .tup xs, h => D.okds_sho xs h
  | .kt xs, h => D.okds_sho xs h
  | .lst xs, h => D.okds_sho xs h
  | .dK _, h => by cases h
  | .dT _, h => by cases h
  | .fK _, h => by cases h
  | .fT _, h => by cases h
  | .raw _, h => by cases h
  | .scr _, h => by cases h
  | .fn _ _, h => by cases h
theorem D.okds_sho : ∀ ds : List D, D.okds ds = true → D.shos ds = true
  | [], _ => rfl
  | d :: ds, h => by
    have h' : (d.okd && D.okds ds) = true := h
    rw [Bool.and_eq_true] at h'
    show (d.sho && D.shos ds) = true
    rw [D.okd_sho d h'.1, D.okds_sho ds h'.2]; rfl
end
theorem ofString_length (s : String) : (Str.ofString s).length = s.length := by
  rw [Str.ofString_eq_toList]
  simp [Str.length, String.length_toList]
theorem join2_len (sep : Str) : ∀ ts : List Str, (Str.join sep ts).length ≤ (ts.map fun t => t.length + sep.length).sum
  | [] => by simp [Str.join, Str.empty, Str.length]
  | [x] => by simp [Str.join]
  | x :: y :: r => by
    have ih := join2_len sep (y :: r)
    show (x ++ sep ++ Str.join sep (y :: r)).length ≤ _
    rw [Str.length_append, Str.length_append, List.map_cons, List.sum_cons]
    omega
mutual
theorem D.sz_shown : ∀ d : D, d.okd = true → d.py.shown.length ≤ d.sz
  | .non, _ => by simp only [D.py, PyData.shown, D.sz]; decide +kernel
  | .bl b, _ => by cases b <;> simp only [D.py, PyData.shown, D.sz] <;> decide +kernel
  | .int i, h => by
    simp only [D.py, PyData.shown, D.sz]
    rw [ofString_length]
    exact int_text_length_le10 (k := 30) (by decide) (of_decide_eq_true h)
  | .str x, h => by
    simp only [D.py, PyData.shown, D.sz]
    refine StrLaws.reprText_len x fun c hc => ?_
    have h1 : x.cps.all (· < 0x110000) = true := h
    rw [Array.all_eq_true'] at h1
    have h2 := of_decide_eq_true (h1 c (by simpa using hc))
    exact Nat.lt_trans h2 (by decide)
  | .tup xs, h => by
    simp only [D.py, PyData.shown, D.sz]
    have q := D.szs_shown xs h
    have z := join2_len ", " (PyData.shownAll (D.pys xs))
    have hz : ((", " : String) : Str).length = 2 := by decide +kernel
    rw [hz] at z
    unfold tupleText
    rw [Str.length_append, Str.length_append]
    have h1 : (("(" : String) : Str).length = 1 := by decide +kernel
    have h2 : (Str.ofString (if (PyData.shownAll (D.pys xs)).length == 1 then ",)" else ")")).length ≤ 2 := by split <;> decide +kernel
    omega
  | .kt xs, h => by
    simp only [D.py, PyData.shown, D.sz]
    have q := D.szs_shown xs h
    have z := join2_len ", " (PyData.shownAll (D.pys xs))
    have hz : ((", " : String) : Str).length = 2 := by decide +kernel
    rw [hz] at z
    unfold tupleText
    rw [Str.length_append, Str.length_append]
    have h1 : (("(" : String) : Str).length = 1 := by decide +kernel
    have h2 : (Str.ofString (if (PyData.shownAll (D.pys xs)).length == 1 then ",)" else ")")).length ≤ 2 := by split <;> decide +kernel
    omega
  | .lst xs, h => by
    simp only [D.py, PyData.shown, D.sz]
    have q := D.szs_shown xs h
    have z := listText_len_le (PyData.shownAll (D.pys xs))
    have e : ((PyData.shownAll (D.pys xs)).map fun t => t.length + 2).sum = ((PyData.shownAll (D.pys xs)).map (·.length)).sum + 2 * (PyData.shownAll (D.pys xs)).length := by
      generalize PyData.shownAll (D.pys xs) = l
      induction l with
      | nil => rfl
      | cons a l ih => simp only [List.map_cons, List.sum_cons, List.length_cons, ih]; omega
    omega
  | .dK _, h => by cases h
  | .dT _, h => by cases h
  | .fK _, h => by cases h
  | .fT _, h => by cases h
  | .raw _, h => by cases h
  | .scr _, h => by cases h
  | .fn _ _, h => by cases h
theorem D.szs_shown : ∀ ds : List D, D.okds ds = true → ((PyData.shownAll (D.pys ds)).map fun t => t.length + 2).sum ≤ D.szs ds
  | [], _ => by simp [D.pys, PyData.shownAll, D.szs]
  | d :: ds, h => by
    have h' : (d.okd && D.okds ds) = true := h
    rw [Bool.and_eq_true] at h'
    have a := D.sz_shown d h'.1
    have b := D.szs_shown ds h'.2
    simp only [D.pys, PyData.shownAll, List.map_cons, List.sum_cons, D.szs]
    omega
end
/-- small: may be compared and shown in n signs, not deeper than k -/
structure D.sm (k n : Nat) (d : D) : Prop where
  ok : d.okd = true
  sz : d.sz ≤ n
  dep : d.dep ≤ k
theorem D.sm.cm {k n : Nat} {d : D} (h : d.sm k n) (hk : k ≤ 64 := by decide) : d.cm := ⟨D.okd_lay d h.ok, Nat.le_trans h.dep hk⟩
theorem D.sm.sw {k n : Nat} {d : D} (h : d.sm k n) (hk : k ≤ 64 := by decide) (hn : n ≤ 2 ^ 24 := by decide) : d.sw := ⟨D.okd_lay d h.ok, Nat.le_trans h.dep hk, D.okd_sho d h.ok, Nat.le_trans (D.sz_shown d h.ok) (Nat.le_trans h.sz hn)⟩
theorem D.sm.mono {k n k' n' : Nat} {d : D} (h : d.sm k n) (hk : k ≤ k') (hn : n ≤ n') : d.sm k' n' := ⟨h.ok, Nat.le_trans h.sz hn, Nat.le_trans h.dep hk⟩
/-- each of them small -/
structure D.sms (k n : Nat) (ds : List D) : Prop where
  ok : D.okds ds = true
  sz : D.szs ds ≤ n
  dep : D.deps ds ≤ k
theorem D.sms.nil {k n : Nat} : D.sms k n [] := ⟨rfl, Nat.zero_le _, Nat.zero_le _⟩
theorem D.sms.cons {k n m : Nat} {d : D} {ds : List D} (h : d.sm k n) (hs : D.sms k m ds) : D.sms k (n + 2 + m) (d :: ds) :=
  ⟨by show (d.okd && D.okds ds) = true; rw [h.ok, hs.ok]; rfl, by have := h.sz; have := hs.sz; show d.sz + 2 + D.szs ds ≤ _; omega, Nat.max_le.mpr ⟨h.dep, hs.dep⟩⟩
theorem D.sms.all {k n m : Nat} : ∀ {ds : List D}, (∀ d ∈ ds, d.sm k n) → ds.length ≤ m → D.sms k ((n + 2) * m) ds
  | [], _, _ => .nil
  | d :: ds, h, hl => by
    cases m with
    | zero => simp at hl
    | succ m =>
      have q := D.sms.cons (h d List.mem_cons_self) (D.sms.all (m := m) (fun z hz => h z (List.mem_cons_of_mem _ hz)) (by simpa using hl))
      refine ⟨q.ok, Nat.le_trans q.sz ?_, q.dep⟩
      rw [Nat.mul_succ]; omega
theorem D.sms.mono {k n k' n' : Nat} {d : List D} (h : D.sms k n d) (hk : k ≤ k') (hn : n ≤ n') : D.sms k' n' d := ⟨h.ok, Nat.le_trans h.sz hn, Nat.le_trans h.dep hk⟩
theorem D.sm.tup {k n : Nat} {ds : List D} (h : D.sms k n ds) : (D.tup ds).sm (k + 1) (n + 5) := ⟨h.ok, by have := h.sz; show D.szs ds + 5 ≤ _; omega, by have := h.dep; show D.deps ds + 1 ≤ _; omega⟩
theorem D.sm.lst {k n : Nat} {ds : List D} (h : D.sms k n ds) : (D.lst ds).sm (k + 1) (n + 5) := ⟨h.ok, by have := h.sz; show D.szs ds + 5 ≤ _; omega, by have := h.dep; show D.deps ds + 1 ≤ _; omega⟩
theorem D.sm.int {k : Nat} {i : Int} (h : i.natAbs < 10 ^ 30) : (D.int i).sm k 31 := ⟨decide_eq_true h, Nat.le_refl _, Nat.zero_le _⟩
theorem D.sm.str {k n : Nat} {x : Str} (h : PyData.strOk x = true) (hn : x.length ≤ n) : (D.str x).sm k (10 * n + 2) := ⟨h, by show 10 * x.length + 2 ≤ _; omega, Nat.zero_le _⟩
theorem D.sm.non {k : Nat} : D.non.sm k 5 := ⟨rfl, Nat.le_refl _, Nat.zero_le _⟩
theorem D.sm.bl {k : Nat} {b : Bool} : (D.bl b).sm k 5 := ⟨rfl, Nat.le_refl _, Nat.zero_le _⟩
/-! ### texts -/
theorem strOk_lit (s : String) : PyData.strOk (Str.ofString s) = true := by
  rw [Str.ofString_eq_toList]
  unfold PyData.strOk
  rw [Array.all_eq_true']
  intro c hc
  simp at hc
  obtain ⟨ch, _, rfl⟩ := hc
  have := ch.valid
  rcases ch.valid with h | h
  · exact decide_eq_true (by have : ch.toNat = ch.val.toNat := rfl; omega)
  · exact decide_eq_true (by have : ch.toNat = ch.val.toNat := rfl; omega)
theorem strOk_append {a b : Str} (h1 : PyData.strOk a = true) (h2 : PyData.strOk b = true) : PyData.strOk (a ++ b) = true := by
  unfold PyData.strOk at *
  rw [Str.cps_append, Array.all_append, h1, h2]; rfl
theorem strOk_join {sep : Str} (h : PyData.strOk sep = true) : ∀ ts : List Str, (∀ t ∈ ts, PyData.strOk t = true) → PyData.strOk (Str.join sep ts) = true
  | [], _ => by simp [Str.join, PyData.strOk, Str.empty]
  | [x], hx => hx x List.mem_cons_self
  | x :: y :: r, hx => strOk_append (strOk_append (hx x List.mem_cons_self) h) (strOk_join h (y :: r) fun t ht => hx t (List.mem_cons_of_mem _ ht))
theorem toNat_inj : ∀ l m : List Char, l.map Char.toNat = m.map Char.toNat → l = m
  | [], [], _ => rfl
  | a :: l, b :: m, h => by
    simp only [List.map_cons, List.cons.injEq] at h
    have : a = b := Char.ext (UInt32.toNat.inj h.1)
    rw [this, toNat_inj l m h.2]
  | [], _ :: _, h => by simp at h
  | _ :: _, [], h => by simp at h
theorem lit_eq {a b : String} : (Str.ofString a = Str.ofString b) ↔ a = b := by
  constructor
  · intro h
    rw [Str.ofString_eq_toList, Str.ofString_eq_toList] at h
    have h1 := congrArg (fun s : Str => s.cps.toList) h
    simp only at h1
    have := toNat_inj _ _ h1
    exact String.toList_inj.mp this
  · intro h; rw [h]
theorem txt_join (sep : Str) (ts : List Str) : Txt.join sep ts = Str.join sep ts := StrLaws.glued_eq_join sep ts
theorem join_nil (sep : Str) : Str.join sep [] = Str.empty := rfl
theorem join_one (sep x : Str) : Str.join sep [x] = x := rfl
theorem join_two (sep x y : Str) (r : List Str) : Str.join sep (x :: y :: r) = x ++ sep ++ Str.join sep (y :: r) := rfl
theorem strsOf_map : ∀ bs : List Str, strsOf (bs.map D.str) = some bs
  | [] => rfl
  | b :: bs => by simp [strsOf, strsOf_map bs]
theorem strsOf_mapf {α : Type} (f : α → Str) : ∀ bs : List α, strsOf (bs.map fun a => D.str (f a)) = some (bs.map f)
  | [] => rfl
  | b :: bs => by simp [strsOf, strsOf_mapf f bs]
theorem sqL_noT {H : Hp} {a : Addr} {xs : List V} (h : SqL K H a xs) : SqL K (Ev.noT H) a xs := by
  rcases h with (h | ⟨o, h⟩) | h
  · exact .inl (.inl (noT_pl h fun _ z => nomatch z))
  · exact .inl (.inr ⟨o, noT_pl h fun _ z => nomatch z⟩)
  · exact .inr h
/-- the law's own promise -/
theorem law_sp {sp : dSp} {H : Hp} {a : Addr} {ns : List Int} (h : ∀ ns : List Int, ns.length ≤ 63 → sp [.scr ns] none (fun x _ => x = .bl true) fun _ _ => False) (hl : ns.length ≤ 63) (hS : SqL K H a (ns.map V.int)) (hT : ∀ p ∈ TabC.tab, H p.1 = some (.tbl #[])) : spD K 1 sp [.ref a] H (fun v _ => v = .bl true) fun _ _ _ => False := by
  refine ⟨Ev.noT H, [.scr ns], none, _, _, Sb.start hT, trivial, .cons (.scr (sqL_noT hS)) .nil, rfl, h ns hl, fun x p' v S' H' e _ n => ?_, fun c p' cls od S' H' w _ _ => w⟩
  subst e
  cases n
  rfl
/-! ### places by numbers that are written -/
theorem atI_nn {α : Type} {xs : List α} {i : Int} (h : 0 ≤ i) : atI xs i = xs[i.toNat]? := by
  unfold atI ixN
  rw [if_pos h]
  by_cases h1 : i < (xs.length : Int)
  · rw [if_pos h1]; rfl
  · rw [if_neg h1, List.getElem?_eq_none (by omega)]; rfl
theorem atI_ofNat {α : Type} {xs : List α} {n : Nat} : atI xs (no_index (@OfNat.ofNat Int n instOfNat)) = xs[(@OfNat.ofNat Nat n (instOfNatNat n))]? := atI_nn (Int.natCast_nonneg n)
theorem atI_cast {α : Type} {xs : List α} {n : Nat} : atI xs (n : Int) = xs[n]? := atI_nn (Int.natCast_nonneg n)
theorem atI_neg1 {α : Type} {xs : List α} : atI xs (-1) = xs[xs.length - 1]? := by
  unfold atI ixN
  rw [if_neg (by decide)]
  by_cases h1 : -(xs.length : Int) ≤ -1
  · rw [if_pos h1]
    show xs[(-1 + (xs.length : Int)).toNat]? = _
    congr 1; omega
  · rw [if_neg h1, List.getElem?_eq_none (by omega)]; rfl
theorem ixN_ofNat {m n : Nat} : ixN m (no_index (@OfNat.ofNat Int n instOfNat)) = if n < m then some n else none := by
  show (if (0 : Int) ≤ (n : Int) then (if (n : Int) < (m : Int) then some n else none) else _) = _
  rw [if_pos (Int.natCast_nonneg n)]
  by_cases h : n < m
  · rw [if_pos h, if_pos (show (n : Int) < (m : Int) by omega)]
  · rw [if_neg h, if_neg (show ¬((n : Int) < (m : Int)) by omega)]
theorem mul_bnd {a b A B : Int} (h1 : 0 ≤ a) (h2 : a ≤ A) (h3 : 0 ≤ b) (h4 : b ≤ B) : 0 ≤ a * b ∧ a * b ≤ A * B :=
  ⟨Int.mul_nonneg h1 h3, Int.mul_le_mul h2 h4 h3 (Int.le_trans h1 h2)⟩
/-- the cell that the k-th draw reads -/
theorem cell_at {ns : List Int} {k : Int} (h0 : (0 : Int) < ns.length) : ∃ c, atI (ns.map D.int) (k % ns.length) = some (.int c) := by
  have h1 := Int.emod_nonneg k (show (ns.length : Int) ≠ 0 by omega)
  have h2 := Int.emod_lt_of_pos k h0
  have h3 : (k % (ns.length : Int)).toNat < ns.length := by omega
  exact ⟨ns[(k % (ns.length : Int)).toNat], by rw [atI_nn h1, List.getElem?_map, List.getElem?_eq_getElem h3]; rfl⟩
theorem lays_ints : ∀ zs : List Int, D.lays (zs.map D.int) = true
  | [] => rfl
  | z :: zs => by show (true && D.lays (zs.map D.int)) = true; rw [lays_ints zs]; rfl
theorem deps_ints : ∀ zs : List Int, D.deps (zs.map D.int) = 0
  | [] => rfl
  | z :: zs => by show max 0 (D.deps (zs.map D.int)) = 0; rw [deps_ints zs]; rfl
theorem lays_map {α : Type} {f : α → D} : ∀ {l : List α}, (∀ a ∈ l, (f a).lay = true) → D.lays (l.map f) = true
  | [], _ => rfl
  | a :: l, h => by
    show ((f a).lay && D.lays (l.map f)) = true
    rw [h a List.mem_cons_self, lays_map fun b hb => h b (List.mem_cons_of_mem _ hb)]; rfl
theorem deps_map {α : Type} {f : α → D} {n : Nat} : ∀ {l : List α}, (∀ a ∈ l, (f a).dep ≤ n) → D.deps (l.map f) ≤ n
  | [], _ => Nat.zero_le _
  | a :: l, h => Nat.max_le.mpr ⟨h a List.mem_cons_self, deps_map fun b hb => h b (List.mem_cons_of_mem _ hb)⟩
theorem cut_to {α : Type} {xs : List α} {n : Nat} : Ev.cutD xs none (some (n : Int)) = xs.take n := by
  unfold Ev.cutD
  rw [HT.sIx_none, HT.sIx_nat]
  simp
theorem cut_from {α : Type} {xs : List α} {n : Nat} : Ev.cutD xs (some (n : Int)) none = xs.drop n := by
  unfold Ev.cutD
  rw [HT.sIx_none, HT.sIx_nat]
  by_cases h : n ≤ xs.length
  · rw [Nat.min_eq_left h, List.take_of_length_le (by simp)]
  · rw [Nat.min_eq_right (by omega), List.drop_of_length_le (l := xs) (i := n) (by omega), List.drop_of_length_le (l := xs) (i := xs.length) (by omega)]; simp
theorem cut_mid {α : Type} {xs : List α} {m n : Nat} : Ev.cutD xs (some (m : Int)) (some (n : Int)) = (xs.take n).drop m := by
  unfold Ev.cutD
  rw [HT.sIx_nat, HT.sIx_nat]
  apply List.ext_getElem?
  intro i
  simp only [List.getElem?_take, List.getElem?_drop]
  by_cases h : i < min n xs.length - min m xs.length
  · rw [if_pos h, if_pos (by omega), Nat.min_eq_left (by omega)]
  · rw [if_neg h]
    by_cases h2 : m + i < n
    · rw [if_pos h2, List.getElem?_eq_none (by omega)]
    · rw [if_neg h2]
theorem cut_toN {α : Type} {xs : List α} {n : Nat} : Ev.cutD xs none (some (no_index (@OfNat.ofNat Int n instOfNat))) = xs.take n := cut_to
theorem cut_fromN {α : Type} {xs : List α} {n : Nat} : Ev.cutD xs (some (no_index (@OfNat.ofNat Int n instOfNat))) none = xs.drop n := cut_from
theorem kit_tab : kitB "NoneType" "bool" = some false ∧
  kitB "NoneType" "int" = some false ∧
  kitB "NoneType" "str" = some false ∧
  kitB "NoneType" "tuple" = some false ∧
  kitB "NoneType" "list" = some false ∧
  kitB "NoneType" "dict" = some false ∧
  kitB "bool" "bool" = some true ∧
  kitB "bool" "int" = some true ∧
  kitB "bool" "str" = some false ∧
  kitB "bool" "tuple" = some false ∧
  kitB "bool" "list" = some false ∧
  kitB "bool" "dict" = some false ∧
  kitB "int" "bool" = some false ∧
  kitB "int" "int" = some true ∧
  kitB "int" "str" = some false ∧
  kitB "int" "tuple" = some false ∧
  kitB "int" "list" = some false ∧
  kitB "int" "dict" = some false ∧
  kitB "str" "bool" = some false ∧
  kitB "str" "int" = some false ∧
  kitB "str" "str" = some true ∧
  kitB "str" "tuple" = some false ∧
  kitB "str" "list" = some false ∧
  kitB "str" "dict" = some false ∧
  kitB "tuple" "bool" = some false ∧
  kitB "tuple" "int" = some false ∧
  kitB "tuple" "str" = some false ∧
  kitB "tuple" "tuple" = some true ∧
  kitB "tuple" "list" = some false ∧
  kitB "tuple" "dict" = some false ∧
  kitB "list" "bool" = some false ∧
  kitB "list" "int" = some false ∧
  kitB "list" "str" = some false ∧
  kitB "list" "tuple" = some false ∧
  kitB "list" "list" = some true ∧
  kitB "list" "dict" = some false ∧
  kitB "dict" "bool" = some false ∧
  kitB "dict" "int" = some false ∧
  kitB "dict" "str" = some false ∧
  kitB "dict" "tuple" = some false ∧
  kitB "dict" "list" = some false ∧
  kitB "dict" "dict" = some true := by
  refine ⟨?_, ?_, ?_, ?_, ?_, ?_, ?_, ?_, ?_, ?_, ?_, ?_, ?_, ?_, ?_, ?_, ?_, ?_, ?_, ?_, ?_, ?_, ?_, ?_, ?_, ?_, ?_, ?_, ?_, ?_, ?_, ?_, ?_, ?_, ?_, ?_, ?_, ?_, ?_, ?_, ?_, ?_⟩ <;> decide +kernel
/-- a comprehension over what is ι a for each a of l, that makes f a of it, nothing else changed -/
theorem wLC_maps {α : Type} {g : dG} {tt : dT} {te : dE} {vs : List Nat} {Q : List D → DS → Prop} {δ0 : DS} {ι f : α → D} : ∀ {l : List α}, (∀ a ∈ l, ∀ acc (k : List D → DS → Prop), acc.length < sizeLine → k (acc ++ [f a]) δ0 → g (ι a) δ0 fun δ1 => tt W0 δ1 fun z δ2 => match z with
      | true => te W0 δ2 fun y δ3 => acc.length < sizeLine ∧ k (acc ++ [y]) (wipeD δ3 vs)
      | false => k acc (wipeD δ2 vs)) → l.length ≤ sizeLine → Q (l.map f) δ0 → wLC g tt te vs Q (l.map ι) [] δ0 := by
  intro l h hl h0
  have go : ∀ (r : List α) (acc : List D), (∀ a ∈ r, a ∈ l) → acc.length + r.length ≤ sizeLine → acc ++ r.map f = l.map f → wLC g tt te vs Q (r.map ι) acc δ0 := by
    intro r
    induction r with
    | nil => intro acc _ _ e; rw [List.map_nil, List.append_nil] at e; subst e; exact h0
    | cons a r ih =>
      intro acc hm hz e
      rw [List.length_cons] at hz
      exact h a (hm a List.mem_cons_self) acc (fun acc' δ' => wLC g tt te vs Q (r.map ι) acc' δ') (by omega) (ih (acc ++ [f a]) (fun b hb => hm b (List.mem_cons_of_mem _ hb)) (by simp; omega) (by rw [← e]; simp))
  exact go l [] (fun _ h => h) (by simpa using hl) rfl
theorem intsFrom_len {lo : Int} {n : Nat} : (Ev.intsFrom lo n).length = n := by simp [Ev.intsFrom]
/-! ### a repr is a text of true signs -/
def sgn (c : Nat) : Prop := c < 0x110000
theorem hex_sgn {n : Nat} : ∀ x ∈ (Nat.toDigits 16 n).map Char.toNat, sgn x := fun x h => by
  obtain ⟨ch, _, rfl⟩ := List.mem_map.mp h
  have e : ch.toNat = ch.val.toNat := rfl
  rcases ch.valid with h | h <;> (unfold sgn; omega)
theorem pad_sgn {w : Nat} {l : List Nat} (h : ∀ x ∈ l, sgn x) : ∀ x ∈ List.replicate (w - l.length) 48 ++ l, sgn x := fun x hx => by
  rcases List.mem_append.mp hx with hx | hx
  · rw [(List.mem_replicate.mp hx).2]; unfold sgn; omega
  · exact h x hx
theorem reprChar_sgn {q c : Nat} (hc : sgn c) : ∀ x ∈ Builtin.Str.reprChar q c, sgn x := by
  have two : ∀ {a b : Nat}, sgn a → sgn b → ∀ x ∈ [a, b], sgn x := fun ha hb x hx => by
    rcases List.mem_cons.mp hx with rfl | hx
    · exact ha
    · rw [List.mem_singleton] at hx; subst hx; exact hb
  have lit : ∀ n : Nat, n < 200 → sgn n := fun n h => by unfold sgn; omega
  have app : ∀ {l m : List Nat}, (∀ x ∈ l, sgn x) → (∀ x ∈ m, sgn x) → ∀ x ∈ l ++ m, sgn x := fun h1 h2 x hx => (List.mem_append.mp hx).elim (h1 x) (h2 x)
  unfold Builtin.Str.reprChar
  split
  · exact two (lit 92 (by decide)) hc
  split
  · exact two (lit 92 (by decide)) (lit _ (by decide))
  split
  · exact two (lit 92 (by decide)) (lit _ (by decide))
  split
  · exact two (lit 92 (by decide)) (lit _ (by decide))
  split
  · intro x hx; rw [List.mem_singleton] at hx; subst hx; exact hc
  split
  · exact app (two (lit _ (by decide)) (lit _ (by decide))) (pad_sgn hex_sgn)
  split
  · exact app (two (lit _ (by decide)) (lit _ (by decide))) (pad_sgn hex_sgn)
  · exact app (two (lit _ (by decide)) (lit _ (by decide))) (pad_sgn hex_sgn)
theorem strOk_iff {x : Str} : PyData.strOk x = true ↔ ∀ c ∈ x.cps, sgn c := by
  unfold PyData.strOk sgn
  rw [Array.all_eq_true']
  exact ⟨fun h c hc => of_decide_eq_true (h c hc), fun h c hc => decide_eq_true (h c hc)⟩
theorem strOk_repr {x : Str} (h : PyData.strOk x = true) : PyData.strOk (reprText x) = true := by
  rw [strOk_iff] at h ⊢
  have hq : sgn (reprQuote x) := by unfold reprQuote; split <;> (unfold sgn; omega)
  have go : ∀ (l : List Nat) (acc : Array Nat), (∀ c ∈ l, sgn c) → (∀ c ∈ acc, sgn c) → ∀ c ∈ l.foldl (fun out c => out ++ (Builtin.Str.reprChar (reprQuote x) c).toArray) acc, sgn c := by
    intro l
    induction l with
    | nil => intro acc _ h2; exact h2
    | cons a l ih =>
      intro acc h1 h2
      refine ih _ (fun c hc => h1 c (List.mem_cons_of_mem _ hc)) fun c hc => ?_
      rcases Array.mem_append.mp hc with hc | hc
      · exact h2 c hc
      · exact reprChar_sgn (h1 a List.mem_cons_self) c (by simpa using hc)
  intro c hc
  unfold reprText at hc
  rcases Array.mem_push.mp hc with hc | hc
  · rw [← Array.foldl_toList] at hc
    exact go x.cps.toList _ (fun c hc => h c (by simpa using hc)) (fun c hc => by
      have : c = reprQuote x := by simpa using hc
      rw [this]; exact hq) c hc
  · rw [hc]; exact hq
mutual
theorem D.okd_rep : ∀ d : D, d.okd = true → PyData.strOk d.py.shown = true
  | .non, _ => by simp only [D.py, PyData.shown]; exact strOk_lit _
  | .bl b, _ => by simp only [D.py, PyData.shown]; split <;> exact strOk_lit _
  | .int i, _ => by simp only [D.py, PyData.shown]; exact strOk_lit _
  | .str x, h => by simp only [D.py, PyData.shown]; exact strOk_repr h
  | .tup xs, h => by
    simp only [D.py, PyData.shown]
    unfold tupleText
    exact strOk_append (strOk_append (strOk_lit _) (strOk_join (strOk_lit _) _ (D.okds_rep xs h))) (strOk_lit _)
  | .kt xs, h => by
    simp only [D.py, PyData.shown]
    unfold tupleText
    exact strOk_append (strOk_append (strOk_lit _) (strOk_join (strOk_lit _) _ (D.okds_rep xs h))) (strOk_lit _)
  | .lst xs, h => by
    simp only [D.py, PyData.shown]
    rw [listText_eq_join]
    exact strOk_append (strOk_append (strOk_lit _) (strOk_join (strOk_lit _) _ (D.okds_rep xs h))) (strOk_lit _)
  | .dK _, h => by cases h
  | .dT _, h => by cases h
  | .fK _, h => by cases h
  | .fT _, h => by cases h
  | .raw _, h => by cases h
  | .scr _, h => by cases h
  | .fn _ _, h => by cases h
theorem D.okds_rep : ∀ ds : List D, D.okds ds = true → ∀ t ∈ PyData.shownAll (D.pys ds), PyData.strOk t = true
  | [], _ => by simp [D.pys, PyData.shownAll]
  | d :: ds, h => by
    have h' : (d.okd && D.okds ds) = true := h
    rw [Bool.and_eq_true] at h'
    intro t ht
    simp only [D.pys, PyData.shownAll, List.mem_cons] at ht
    rcases ht with rfl | ht
    · exact D.okd_rep d h'.1
    · exact D.okds_rep ds h'.2 t ht
end
theorem D.sm.rep {k n : Nat} {d : D} (h : d.sm k n) : PyData.strOk d.rep = true := D.okd_rep d h.ok
theorem eqs_nil {ds : List D} : D.eqs ds [] = decide (ds = []) := by
  cases ds <;> simp [D.eqs]
theorem lst_nil {ds : List D} : D.eq (.lst ds) (.lst []) = decide (ds = []) := by rw [eq_lst, eqs_nil]
theorem tup_nil {ds : List D} : D.eq (.tup ds) (.tup []) = decide (ds = []) := by rw [eq_tup, eqs_nil]
end Ev

/-! # sorted of data; dicts of one's own -/
namespace Ev
open PySem PySem.Spec PyProof.Rows L2
variable [TabC]
variable {K : PySem.W.Frag} {S S' H H' : Hp} {B : Bs} {δ : DS} {σ : L2.St}
/-! ### sorted, whatever the items are taken from -/
section
variable {prog : Program} {w : World} {A : Around} {E : Value → Shared → Prop} {s : Shared} {β : Type} {R : Value → β → Prop} {enc : β → PyData} {vs : List Value} {bs : List β}
/-- what is walked by a source's own iterator, collected: the heap is not smaller behind -/
theorem collect_src {T : String} {r d : Addr} {n : Nat} {P : Nat → Value → Prop} {OK : Heap → Prop} {C : List Value → Shared → Prop} (KS : PySem.W.KdlSrc prog w T r d n P OK) (hh : A.handled = none) (ok : OK s.heap) (hn : n ≤ sizeLine)
    (h : ∀ (h' : Heap) (tk : Nat) (acc : Array Value), (∀ b o, s.heap.get? b = some o → h'.get? b = some o) → s.heap.objs.size ≤ h'.objs.size → ItemsOf P acc n → C acc.toList { s with heap := h', toks := tk }) : wpAny (model prog w) A (collect (.ref r)) C E s := by
  have lt := KS.there _ ok
  unfold collect
  refine wpAny_bind (wpAny_runValue (codeAny_builtin PyProof.Rows.entry_proto_collect' ?_)); rw [Around.under_plainId PySem.F.plain_proto_collect _]
  show wpAny _ A.in1 (newList [] >>= fun z => again (.builtin "list.__iadd__" ⟨[z, .ref r], []⟩)) _ _ s
  refine wpAny_bind (wpAny_newObj_type (wpAny_pure ⟨plainId_quiet PySem.F.plain_list_iadd _, codeAny_builtin PyProof.Rows.entry_list_iadd' ?_⟩)); rw [Around.under_plainId PySem.F.plain_list_iadd _]
  have new : (s.heap.push { cls := .type "list", data := .seq ([] : List Value).toArray }).get? s.heap.objs.size = some { cls := .type "list", data := .seq #[] } := Heap.get?_push_size _ rfl
  have key := PySem.W.kdl_extend (prog := prog) (w := w) (A := A) (s := { s with heap := s.heap.push { cls := .type "list", data := .seq ([] : List Value).toArray } })
    (R := fun (q : Result) (s' : Shared) => ∃ (h' : Heap) (tk : Nat) (acc : Array Value) (c : Nat), q = .ok (.ret (.ref s.heap.objs.size)) ∧ s' = { s with heap := h', toks := tk } ∧ (∀ b o, s.heap.get? b = some o → h'.get? b = some o) ∧
      h'.get? s.heap.objs.size = some { cls := .type "list", dict := none, data := .seq acc c, slots := #[] } ∧ ItemsOf P acc n)
    KS hh (KS.keep _ _ ok fun b _ o z => Heap.get?_push_of_some _ z) s.heap.objs.size (Nat.ne_of_gt lt.1) (Nat.ne_of_gt lt.2) (.ref s.heap.objs.size) 0 new
    (fun h' tk acc c k at_ it => ⟨h', tk, acc, c, rfl, rfl, fun b o z => k b o (Nat.ne_of_lt (Heap.lt_size z)) (Heap.get?_push_of_some _ z), at_, it⟩) hn
  have fin : ∀ (q : Result) (s' : Shared), (∃ (h' : Heap) (tk : Nat) (acc : Array Value) (c : Nat), q = .ok (.ret (.ref s.heap.objs.size)) ∧ s' = { s with heap := h', toks := tk } ∧ (∀ b o, s.heap.get? b = some o → h'.get? b = some o) ∧
      h'.get? s.heap.objs.size = some { cls := .type "list", dict := none, data := .seq acc c, slots := #[] } ∧ ItemsOf P acc n) → ∃ u, q = .ok (.ret u) ∧ wpAny (model prog w) A (match u with
      | .ref a => do match (← load a).data with
          | .seq xs _ => pure xs.toList
          | _ => unsupported "internal:collect"
      | _ => unsupported "internal:collect") C E s' := by
    rintro q s' ⟨h', tk, acc, c, rfl, rfl, k, at_, it⟩
    refine ⟨_, rfl, ?_⟩
    show wpAny _ A (load s.heap.objs.size >>= _) _ _ _
    exact wpAny_bind (wpAny_load at_ (wpAny_pure (h h' tk acc k (Nat.le_of_lt (Heap.lt_size at_)) it)))
  refine wpAny_mono key (fun g s' x => ?_) fun e s' x => ?_
  · match g, x with
    | .done f, x =>
      obtain ⟨u, e, q⟩ := fin _ _ x
      cases e
      exact q
    | .again c1, x =>
      refine ⟨x.1, codeAny_mono x.2 fun q s2 y => ?_⟩
      obtain ⟨u, rfl, z⟩ := fin _ _ y
      exact z
  · obtain ⟨u, e, _⟩ := fin _ _ x
    cases e
theorem sorted_col {v : Value} {Q : Value → Shared → Prop} (hcol : ∀ (C : List Value → Shared → Prop) (E' : Value → Shared → Prop), (∀ h' tk, (∀ b o, s.heap.get? b = some o → h'.get? b = some o) → s.heap.objs.size ≤ h'.objs.size → C vs { s with heap := h', toks := tk }) → wpAny (model prog w) A.in1 (collect v) C E' s)
    (e : PySem.W.EachIs R vs bs) (er : PySem.W.EachIs (fun v b => ∃ as, Reads s.heap v (enc b) as) vs bs) (hal : PySem.W.AllAlike (bs.map enc)) (hk : PySem.W.Sortable (bs.map enc)) (hL : bs.length ≤ sizeLine) (hu : ∀ b, b ∈ bs → A.units + 2 + (enc b).depth < cLine)
    (h : ∀ (h' : Heap) (tk : Nat) (d : Addr) (n : Nat) (out : List Value), out.length = bs.length → PySem.W.EachIs R out (bs.mergeSort (PySem.W.dataLe false enc)) → (∀ b o, s.heap.get? b = some o → h'.get? b = some o) → s.heap.objs.size ≤ d → h'.get? d = some (seqObj "list" out.toArray n) → Q (.ref d) { s with heap := h', toks := tk }) :
    wpAny (model prog w) A (call (.builtin "sorted") [v]) Q E s := by
  have hz : vs.length ≤ sizeLine := by rw [e.length]; exact hL
  refine PySem.Calls.call_function_entry kind_sorted plain_sorted entry_sorted (args_sorted1 _) ?_
  unfold Builtin.«sorted»
  refine wpAny_bind (m := checkCount "sorted" 1 1 _) (wpAny_pure ?_)
  refine wpAny_bind (hcol _ _ fun h1 tk k1 hs => ?_)
  refine wpAny_bind (wpAny_newList ?_ hz)
  have ho : (h1.push (seqObj "list" vs.toArray 0)).get? h1.objs.size = some (seqObj "list" vs.toArray 0) := Heap.get?_push_size _ rfl
  have k2 : ∀ b o, s.heap.get? b = some o → (h1.push (seqObj "list" vs.toArray 0)).get? b = some o := fun b o q => Heap.get?_push_of_some _ (k1 b o q)
  have ne : ∀ b o, s.heap.get? b = some o → b ≠ h1.objs.size := fun b o q => Nat.ne_of_lt (Heap.lt_size (k1 b o q))
  have er' : PySem.W.EachIs (fun v b => ∃ as, Reads (PySem.W.sortingHeap (h1.push (seqObj "list" vs.toArray 0)) h1.objs.size vs) v (enc b) as) vs bs := er.mono fun _ _ ⟨as, r⟩ => ⟨as, PyProof.Rows.Reads.keeps (fun b o q => PySem.W.sortingHeap_old (ne b o q) (k2 b o q)) r⟩
  refine wpAny_bind (wpAny_holding (wpAny_call_entry slot_list_sort ⟨_, ho, rfl⟩ entry_list_sort ?body (args_list_sort _)))
  case body =>
    refine PySem.W.list_sort_vals (κ := PySem.W.dataKind (PySem.W.sortingHeap (h1.push (seqObj "list" vs.toArray 0)) h1.objs.size vs) (bs.map enc)) (s := { s with heap := h1.push (seqObj "list" vs.toArray 0), toks := tk }) ho
      (PySem.W.SortsAt.data (s := { s with heap := PySem.W.sortingHeap (h1.push (seqObj "list" vs.toArray 0)) h1.objs.size vs, toks := tk }) (PySem.W.each_map (R := fun v d => ∃ as, Reads (PySem.W.sortingHeap (h1.push (seqObj "list" vs.toArray 0)) h1.objs.size vs) v d as) enc er') hal hk (PySem.W.bound_map hu)) hz ⟨_, rfl, ?_⟩
    refine wpAny_pure ⟨_, rfl, ?_⟩
    obtain ⟨n, at_⟩ := sortedHeap_at (out := (PySem.W.sortVals (PySem.W.dataKind (PySem.W.sortingHeap (h1.push (seqObj "list" vs.toArray 0)) h1.objs.size vs) (bs.map enc)) false vs vs).toArray) ho
    exact h _ _ _ n _ (by rw [PySem.W.sortVals_length false rfl]; exact e.length) (PySem.W.sortVals_data false e er' hal) (fun b o q => (sortedHeap_old (ne b o q) (Heap.lt_size (k2 b o q))).trans (k2 b o q)) hs at_
/-- a list's, a tuple's items, collected -/
theorem collect_seqS {T : String} {a : Addr} {o : Obj} {n : Nat} {C : List Value → Shared → Prop} (hT : T = "list" ∨ T = "tuple") (ho : s.heap.get? a = some o) (hc : o.cls = .type T) (hd : o.data = .seq vs.toArray n) (hz : vs.length ≤ sizeLine)
    (h : ∀ (h' : Heap) (tk : Nat), (∀ b o, s.heap.get? b = some o → h'.get? b = some o) → s.heap.objs.size ≤ h'.objs.size → C vs { s with heap := h', toks := tk }) : wpAny (model prog w) A (collect (.ref a)) C E s := by
  unfold collect
  refine wpAny_bind (wpAny_runValue (codeAny_builtin PyProof.Rows.entry_proto_collect' ?_)); rw [Around.under_plainId PySem.F.plain_proto_collect _]
  show wpAny _ A.in1 (newList [] >>= fun z => again (.builtin "list.__iadd__" ⟨[z, .ref a], []⟩)) _ _ s
  refine wpAny_bind (wpAny_newObj_type (wpAny_pure ⟨plainId_quiet PySem.F.plain_list_iadd _, codeAny_builtin PyProof.Rows.entry_list_iadd' ?_⟩)); rw [Around.under_plainId PySem.F.plain_list_iadd _]
  have new : (s.heap.push { cls := .type "list", data := .seq ([] : List Value).toArray }).get? s.heap.objs.size = some { cls := .type "list", data := .seq #[] 0 } := Heap.get?_push_size _ rfl
  have at_ := Heap.get?_update_self (Obj.mapSeq (· ++ vs.toArray)) new rfl
  have key := wpAny_extend_seq (prog := prog) (w := w) (hsz := by rw [List.size_toArray]; exact hz) (A := A) (s := { s with heap := s.heap.push { cls := .type "list", data := .seq ([] : List Value).toArray } })
    (R := fun (q : Result) (s' : Shared) => q = .ok (.ret (.ref s.heap.objs.size)) ∧ s' = { s with heap := (s.heap.push { cls := .type "list", data := .seq ([] : List Value).toArray }).update s.heap.objs.size (Obj.mapSeq (· ++ vs.toArray)) })
    s.heap.objs.size a (.ref s.heap.objs.size) 0 hT new (Heap.get?_push_of_some _ ho) hc hd ⟨rfl, rfl⟩
  have fin : ∀ (q : Result) (s' : Shared), (q = .ok (.ret (.ref s.heap.objs.size)) ∧ s' = { s with heap := (s.heap.push { cls := .type "list", data := .seq ([] : List Value).toArray }).update s.heap.objs.size (Obj.mapSeq (· ++ vs.toArray)) }) →
      ∃ u, q = .ok (.ret u) ∧ wpAny (model prog w) A (match u with
      | .ref a => do match (← load a).data with
          | .seq xs _ => pure xs.toList
          | _ => unsupported "internal:collect"
      | _ => unsupported "internal:collect") C E s' := by
    rintro q s' ⟨rfl, rfl⟩
    refine ⟨_, rfl, ?_⟩
    show wpAny _ A (load s.heap.objs.size >>= _) _ _ _
    refine wpAny_bind (wpAny_load at_ (wpAny_pure ?_))
    show C ((#[] : Array Value) ++ vs.toArray).toList _
    rw [show ((#[] : Array Value) ++ vs.toArray).toList = vs by simp]
    exact h _ s.toks (fun b o' z => (Heap.get?_update_other _ _ (Nat.ne_of_gt (Heap.lt_size z))).trans (Heap.get?_push_of_some _ z)) (Nat.le_of_lt (Heap.lt_size at_))
  refine wpAny_mono key (fun g s' x => ?_) fun e s' x => ?_
  · match g, x with
    | .done f, x =>
      obtain ⟨u, e, q⟩ := fin _ _ x
      cases e
      exact q
    | .again c1, x =>
      refine ⟨x.1, codeAny_mono x.2 fun q s2 y => ?_⟩
      obtain ⟨u, rfl, z⟩ := fin _ _ y
      exact z
  · obtain ⟨u, e, _⟩ := fin _ _ x
    cases e
end
/-! ### sorted over data -/
/-- may be sorted: every two of one form, tuples that are not empty, or no tuple and no None -/
def srtOk (ds : List D) : Prop := D.lays ds = true ∧ (∀ d ∈ ds, d.dep ≤ 64) ∧ PySem.W.AllAlike (ds.map D.py) ∧ PySem.W.Sortable (ds.map D.py) ∧ ds.length ≤ sizeLine
def sortD (ds : List D) : List D := ds.mergeSort (PySem.W.dataLe false D.py)
theorem lays_mem : ∀ {ds : List D}, D.lays ds = true → ∀ d ∈ ds, d.lay = true
  | d :: ds, h, x, hx => by
    have h' : (d.lay && D.lays ds) = true := h
    rw [Bool.and_eq_true] at h'
    rcases List.mem_cons.mp hx with rfl | hx
    · exact h'.1
    · exact lays_mem h'.2 x hx
section
variable {X : Cx} {pins : List (Addr × Obj)} {s : Shared}
theorem each_dn {S : Hp} : ∀ {vs : List V} {us : List Value} {ds : List D}, Vals vs us → DnA K S vs ds → PySem.W.EachIs (fun u d => ∃ v, RelV v u ∧ Dn K S v d) us ds
  | [], _, _, r, .nil => by rw [r.zero]; exact .nil
  | v :: vs, us, _, r, .cons h t => by
    cases r with
    | cons r1 r2 => exact .cons ⟨v, r1, h⟩ (each_dn r2 t)
theorem dn_each {S : Hp} : ∀ {us : List Value} {ds : List D}, PySem.W.EachIs (fun u d => ∃ v, RelV v u ∧ Dn K S v d) us ds → ∃ vs, Vals vs us ∧ DnA K S vs ds
  | _, _, .nil => ⟨[], .nil, .nil⟩
  | _, _, .cons ⟨v, r, h⟩ t => by
    obtain ⟨vs, r2, a⟩ := dn_each t
    exact ⟨v :: vs, .cons r r2, .cons h a⟩
theorem each_reads (I : Inv X pins σ H s) (ex : Ex S H) : ∀ {vs : List V} {us : List Value} {ds : List D}, Vals vs us → DnA X.K S vs ds → D.lays ds = true → PySem.W.EachIs (fun u d => ∃ as, Reads s.heap u d.py as) us ds
  | [], _, _, r, .nil, _ => by rw [r.zero]; exact .nil
  | v :: vs, us, d :: ds, r, .cons h t, l => by
    have h' : (d.lay && D.lays ds) = true := l
    rw [Bool.and_eq_true] at h'
    cases r with
    | cons r1 r2 => exact .cons (Dp.reads I _ _ _ ((h.mono ex).dp h'.1) r1) (each_reads I ex r2 t h'.2)
/-- the end of every sorted -/
theorem sorted_end (I : Inv X pins σ H s) (hu : X.A.units + 66 < cLine) (ex : Ex S H) {v : Value} {us : List Value} {vs : List V} {ds : List D} {Q : VK} (r : Vals vs us) (a : DnA X.K S vs ds) (ok : srtOk ds)
    (hcol : ∀ (C : List Value → Shared → Prop) (E' : Value → Shared → Prop), (∀ h' tk, (∀ b o, s.heap.get? b = some o → h'.get? b = some o) → s.heap.objs.size ≤ h'.objs.size → C us { s with heap := h', toks := tk }) → wpAny (model X.prog X.w) X.A.in1 (collect v) C E' s)
    (q : ∀ ws p, H p = none → DnA X.K S ws (sortD ds) → Q (.ref p) (upd H p (.lst ws))) : wpAny (model X.prog X.w) X.A (call (.builtin "sorted") [v]) (EP X pins σ Q) X.xe s := by
  obtain ⟨l, dp, al, so, hz⟩ := ok
  refine sorted_col (R := fun u d => ∃ v, RelV v u ∧ Dn X.K S v d) (enc := D.py) hcol (each_dn r a) (each_reads I ex r a l) al so hz (fun d hd => ?_) fun h' tk d n out hl eo kp sz at_ => ?_
  · rw [D.py_dep]; have := dp d hd; omega
  · obtain ⟨ws, rw_, aw⟩ := dn_each eo
    exact ⟨.ref d, upd H d (.lst ws), I.laid (t' := tk) kp sz ⟨by rw [rw_.length, hl]; exact hz, out, n, rw_, at_⟩, rfl, q ws d (I.hok.fresh sz) aw⟩
def rSrt : DRF := fun xs Q => match xs with | [.lst ds] => srtOk ds ∧ Q (sortD ds) | [.tup ds] => srtOk ds ∧ Q (sortD ds) | _ => False
theorem cd_sorted (hu : X.A.units + 66 < cLine) : CallR X (.builtin "sorted") (liftCF X.K rSrt) := fun pins s σ H vs us Q I r ⟨S, ds, Q', ex, n, q, post⟩ => by
  match ds, n, q with
  | [.lst ds], n, q =>
    obtain ⟨v, rfl, n1⟩ := n.one
    obtain ⟨u, rfl, ru⟩ := vals1 r
    cases n1 with
    | lst h a =>
      obtain rfl : u = Value.ref _ := ru
      obtain ⟨its, rv, hl, hz⟩ := I.list (SqL.of (ex _ _ h))
      obtain ⟨o, ho, hc, m, hd⟩ := hl.isList
      exact sorted_end I hu ex rv a q.1 (fun C E' hC => collect_seqS (.inl rfl) ho hc hd (by rw [← rv.length]; exact hz) hC) fun ws p hp aw => post _ _ _ q.2 hp aw
  | [.tup ds], n, q =>
    obtain ⟨v, rfl, n1⟩ := n.one
    obtain ⟨u, rfl, ru⟩ := vals1 r
    cases n1 with
    | tup h a =>
      obtain rfl : u = Value.ref _ := ru
      obtain ⟨hz, its, rv, o, ho, hc, m, hd⟩ := I.hok _ _ (ex _ _ h)
      exact sorted_end I hu ex rv a q.1 (fun C E' hC => collect_seqS (.inr rfl) ho hc hd (by rw [← rv.length]; exact hz) hC) fun ws p hp aw => post _ _ _ q.2 hp aw
end
end Ev

/-! # Dicts of one's own: keys numbers and texts, or tuples of these -/
namespace Ev
open PySem PySem.Spec PyProof.Rows L2
variable [TabC]
variable {K : PySem.W.Frag} {S S' H H' : Hp} {B : Bs} {δ : DS} {σ : L2.St}
section
variable {κ : Type} [DecidableEq κ]
def valD (es : List (κ × D)) (k : κ) : Option D := (es.find? fun e => decide (e.1 = k)).map (·.2)
def putD (es : List (κ × D)) (k : κ) (d : D) : List (κ × D) := if (es.any fun e => decide (e.1 = k)) = true then es.map (fun e => if e.1 = k then (e.1, d) else e) else es ++ [(k, d)]
def KvR (K : PySem.W.Frag) (S : Hp) (kvs : List (κ × V)) (es : List (κ × D)) : Prop := kvs.map (·.1) = es.map (·.1) ∧ DnA K S (kvs.map (·.2)) (es.map (·.2))
theorem KvR.mono {kvs : List (κ × V)} {es : List (κ × D)} (h : KvR K S kvs es) (e : Ex S S') : KvR K S' kvs es := ⟨h.1, h.2.mono e⟩
theorem KvR.get {k : κ} : ∀ {kvs : List (κ × V)} {es : List (κ × D)}, KvR K S kvs es → (valV kvs k = none ∧ valD es k = none) ∨ ∃ v d, valV kvs k = some v ∧ valD es k = some d ∧ Dn K S v d
  | [], [], _ => .inl ⟨rfl, rfl⟩
  | [], _ :: _, h => by cases h.1
  | _ :: _, [], h => by cases h.1
  | (a, v) :: kvs, (b, d) :: es, h => by
    obtain ⟨h1, h2⟩ := h
    simp only [List.map_cons, List.cons.injEq] at h1
    simp only [List.map_cons] at h2
    cases h2 with
    | cons h2 h3 =>
      obtain ⟨rfl, h1⟩ := h1
      by_cases e : a = k
      · exact .inr ⟨v, d, by simp [valV, e], by simp [valD, e], h2⟩
      · rcases KvR.get (k := k) ⟨h1, h3⟩ with ⟨q1, q2⟩ | ⟨v', d', q1, q2, q3⟩
        · exact .inl ⟨by simpa [valV, e] using q1, by simpa [valD, e] using q2⟩
        · exact .inr ⟨v', d', by simpa [valV, e] using q1, by simpa [valD, e] using q2, q3⟩
theorem KvR.any {kvs : List (κ × V)} {es : List (κ × D)} (h : KvR K S kvs es) (k : κ) : (kvs.any fun e => decide (e.1 = k)) = es.any fun e => decide (e.1 = k) := by
  have e1 : (kvs.any fun e => decide (e.1 = k)) = (kvs.map (·.1)).any fun e => decide (e = k) := by rw [List.any_map]; rfl
  have e2 : (es.any fun e => decide (e.1 = k)) = (es.map (·.1)).any fun e => decide (e = k) := by rw [List.any_map]; rfl
  rw [e1, e2, h.1]
theorem KvR.map {v : V} {d : D} (dn : Dn K S v d) (k : κ) : ∀ {kvs : List (κ × V)} {es : List (κ × D)}, KvR K S kvs es → KvR K S (kvs.map fun e => if e.1 = k then (e.1, v) else e) (es.map fun e => if e.1 = k then (e.1, d) else e)
  | [], [], _ => ⟨rfl, .nil⟩
  | [], _ :: _, h => by cases h.1
  | _ :: _, [], h => by cases h.1
  | (a, x) :: kvs, (b, y) :: es, h => by
    obtain ⟨h1, h2⟩ := h
    simp only [List.map_cons, List.cons.injEq] at h1
    simp only [List.map_cons] at h2
    cases h2 with
    | cons h2 h3 =>
      obtain ⟨rfl, h1⟩ := h1
      have ih := KvR.map dn k (kvs := kvs) (es := es) ⟨h1, h3⟩
      by_cases e : a = k
      · simp only [List.map_cons, e, if_true]
        exact ⟨by simp only [List.map_cons]; exact congrArg _ ih.1, .cons dn ih.2⟩
      · simp only [List.map_cons, e, if_false]
        exact ⟨by simp only [List.map_cons]; exact congrArg _ ih.1, .cons h2 ih.2⟩
theorem KvR.put {v : V} {d : D} {kvs : List (κ × V)} {es : List (κ × D)} (h : KvR K S kvs es) (dn : Dn K S v d) (k : κ) : KvR K S (putK kvs k v) (putD es k d) := by
  unfold putK putD
  rw [h.any k]
  split
  · exact h.map dn k
  · exact ⟨by rw [List.map_append, List.map_append, h.1]; rfl, by rw [List.map_append, List.map_append]; exact h.2.append (.cons dn .nil)⟩
end
/-! ### keys -/
def D.key : D → Option Key
  | .int i => some (.inl i)
  | .str x => some (.inr x)
  | _ => none
def keysOf : List D → Option (List Key)
  | [] => some []
  | d :: ds => match d.key, keysOf ds with
    | some k, some ks => some (k :: ks)
    | _, _ => none
def D.keyT : D → Option (List Key)
  | .tup ds => keysOf ds
  | _ => none
def kD : Key → D
  | .inl i => .int i
  | .inr x => .str x
theorem Dn.key {v : V} {d : D} {k : Key} (h : Dn K S v d) (e : d.key = some k) : v = kV k := by
  cases h <;> first | (cases e; rfl) | cases e
theorem DnA.keys : ∀ {vs : List V} {ds : List D} {ks : List Key}, DnA K S vs ds → keysOf ds = some ks → vs = ks.map kV
  | [], _, _, .nil, e => by cases e; rfl
  | v :: vs, d :: ds, ks, .cons h a, e => by
    unfold keysOf at e
    split at e
    · rename_i k ks' e1 e2
      cases e
      rw [h.key e1, a.keys e2]; rfl
    · cases e
theorem Dn.keyT {v : V} {d : D} {ks : List Key} (h : Dn K S v d) (e : d.keyT = some ks) : ∃ b, v = .ref b ∧ S b = some (.tup (ks.map kV)) := by
  cases h with
  | tup h1 h2 =>
    have := h2.keys e
    subst this
    exact ⟨_, rfl, h1⟩
  | _ => cases e
theorem Dn.kd (k : Key) : Dn K S (kV k) (kD k) := by cases k <;> constructor
theorem DnA.kds : ∀ ks : List Key, DnA K S (ks.map kV) (ks.map kD)
  | [] => .nil
  | k :: ks => .cons (.kd k) (DnA.kds ks)

section
variable {X : Cx} {E : EK} {e a b c : Expr} {es : List Expr} {pos p ap cp : Pos} {da db : dE} {x : Str}
/-- name = {}: keys tuples; keys numbers and texts -/
def dNewDT (i : Nat) : dS := fun _ N δ => N.nx (setSl δ i (.ownT []))
def dNewDK (i : Nat) : dS := fun _ N δ => N.nx (setSl δ i (.ownK []))
theorem ds_newT {i : Nat} {x : Str} {pos' p2 : Pos} (hN : X.N.Nodup) (hi : X.N[i]? = some x) (hx : Loc X.env.scope x) (hs : swapsWith (.Dict [] [] p2) (some (.Name x pos')) pos.line X.env = pure false := by rfl) (hf : X.fn x = true ∨ X.env.scope.names.lookup x = some .local := by first | exact .inl rfl | exact .inr rfl | assumption) :
    DSt X E (.Assign [.Name x pos'] (.Dict [] [] p2) pos) (dNewDT i) := ⟨fun B => ps_mono (ps_set hN hi hx pe_dnewT hs hf) fun Z σ H q => by
  obtain ⟨δ, S, W, N, R, q, xo, h1, _⟩ := q
  exact fun p hp => h1 _ _ _ _ q (Ex.refl _) (R.setNew hp (fun vs z => HO.noConfusion z) fun H1 e1 a b => ⟨p, [], rfl, a, b, rfl, e1, rfl, .nil⟩)⟩
theorem ds_newK {i : Nat} {x : Str} {pos' p2 : Pos} (hN : X.N.Nodup) (hi : X.N[i]? = some x) (hx : Loc X.env.scope x) (hs : swapsWith (.Dict [] [] p2) (some (.Name x pos')) pos.line X.env = pure false := by rfl) (hf : X.fn x = true ∨ X.env.scope.names.lookup x = some .local := by first | exact .inl rfl | exact .inr rfl | assumption) :
    DSt X E (.Assign [.Name x pos'] (.Dict [] [] p2) pos) (dNewDK i) := ⟨fun B => ps_mono (ps_set hN hi hx pe_dnewK hs hf) fun Z σ H q => by
  obtain ⟨δ, S, W, N, R, q, xo, h1, _⟩ := q
  exact fun p hp => h1 _ _ _ _ q (Ex.refl _) (R.setNew hp (fun vs z => HO.noConfusion z) fun H1 e1 a b => ⟨p, [], rfl, a, b, rfl, e1, rfl, .nil⟩)⟩
/-- what the dict in slot i holds at y -/
def dictGet (δ : DS) (i : Nat) (y : D) : Option (Option D) := match δ.sl[i]? with
  | some (.ownT es) => y.keyT.map (valD es)
  | some (.ownK es) => y.key.map (valD es)
  | some (.dat (.dT es)) => y.keyT.map (valD es)
  | some (.dat (.dK es)) => y.key.map (valD es)
  | _ => none
theorem DGet.rk {a : Addr} {kvs : List (Key × V)} {k : Key} (e : H a = some (.dK kvs)) : DGet H a (kV k) (valV kvs k) := DGet.k e
theorem Rel.dget (R : Rel K B δ S σ H) {i : Nat} {y : D} {u : V} {r : Option D} (n : Dn K S u y) (h : dictGet δ i y = some r) : ∃ a o, σ[i]? = some (some (.ref a)) ∧ DGet H a u o ∧ ((o = none ∧ r = none) ∨ ∃ v d, o = some v ∧ r = some d ∧ Dn K S v d) := by
  have fk : ∀ {a : Addr} {kvs : List (Key × V)} {es : List (Key × D)}, σ[i]? = some (some (.ref a)) → H a = some (.dK kvs) → KvR K S kvs es → y.key.map (valD es) = some r → ∃ a o, σ[i]? = some (some (.ref a)) ∧ DGet H a u o ∧ ((o = none ∧ r = none) ∨ ∃ v d, o = some v ∧ r = some d ∧ Dn K S v d) := by
    intro a kvs es h1 h2 h3 h4
    cases hk : y.key with
    | none => rw [hk] at h4; cases h4
    | some k =>
      rw [hk] at h4
      cases h4
      rw [n.key hk]
      refine ⟨a, _, h1, DGet.k h2, ?_⟩
      rcases h3.get (k := k) with ⟨q1, q2⟩ | ⟨v, d, q1, q2, q3⟩
      · exact .inl ⟨q1, q2⟩
      · exact .inr ⟨v, d, q1, q2, q3⟩
  have ft : ∀ {a : Addr} {kvs : List (List Key × V)} {es : List (List Key × D)}, σ[i]? = some (some (.ref a)) → H a = some (.dT kvs) → KvR K S kvs es → y.keyT.map (valD es) = some r → ∃ a o, σ[i]? = some (some (.ref a)) ∧ DGet H a u o ∧ ((o = none ∧ r = none) ∨ ∃ v d, o = some v ∧ r = some d ∧ Dn K S v d) := by
    intro a kvs es h1 h2 h3 h4
    cases hk : y.keyT with
    | none => rw [hk] at h4; cases h4
    | some k =>
      rw [hk] at h4
      cases h4
      obtain ⟨b, rfl, hb⟩ := n.keyT hk
      refine ⟨a, _, h1, DGet.t h2 (R.ex _ _ hb), ?_⟩
      rcases h3.get (k := k) with ⟨q1, q2⟩ | ⟨v, d, q1, q2, q3⟩
      · exact .inl ⟨q1, q2⟩
      · exact .inr ⟨v, d, q1, q2, q3⟩
  obtain ⟨ow, h1, _⟩ := R.sl
  unfold dictGet at h
  split at h
  · rename_i es hs
    obtain ⟨a, kvs, r1, r2, r3, r4, r5, r6, r7⟩ := h1 i _ hs
    exact ft r4 r5 ⟨r6, r7⟩ h
  · rename_i es hs
    obtain ⟨a, kvs, r1, r2, r3, r4, r5, r6, r7⟩ := h1 i _ hs
    exact fk r4 r5 ⟨r6, r7⟩ h
  · rename_i es hs
    obtain ⟨v, e1, e2⟩ := R.dat hs
    cases e2 with
    | dT h1 h2 h3 => exact ft e1 (R.ex _ _ h1) ⟨h2, h3⟩ h
  · rename_i es hs
    obtain ⟨v, e1, e2⟩ := R.dat hs
    cases e2 with
    | dK h1 h2 h3 => exact fk e1 (R.ex _ _ h1) ⟨h2, h3⟩ h
  · cases h
/-- slot i holds a dict: where -/
def isDict (δ : DS) (i : Nat) : Prop := ∃ x, δ.sl[i]? = some x ∧ match x with | .ownT _ => True | .ownK _ => True | .dat (.dT _) => True | .dat (.dK _) => True | _ => False
theorem Rel.dict_at (R : Rel K B δ S σ H) {i : Nat} (h : isDict δ i) : ∃ a, σ[i]? = some (some (.ref a)) := by
  obtain ⟨x, hx, h⟩ := h
  obtain ⟨ow, h1, _⟩ := R.sl
  match x, hx, h with
  | .ownT es, hx, _ => obtain ⟨a, kvs, r1, r2, r3, r4, _⟩ := h1 i _ hx; exact ⟨a, r4⟩
  | .ownK es, hx, _ => obtain ⟨a, kvs, r1, r2, r3, r4, _⟩ := h1 i _ hx; exact ⟨a, r4⟩
  | .dat (.dT es), hx, _ =>
    obtain ⟨v, e1, e2⟩ := R.dat hx
    cases e2; exact ⟨_, e1⟩
  | .dat (.dK es), hx, _ =>
    obtain ⟨v, e1, e2⟩ := R.dat hx
    cases e2; exact ⟨_, e1⟩
/-- name[e] of a dict -/
def dDGet (i : Nat) (d : dE) : dE := fun W δ Q => isDict δ i ∧ d W δ fun y δ1 => optQ (dictGet δ1 i y) fun r => optQ r fun z => Q z δ1
theorem de_dget {i : Nat} {x : Str} (hu : X.A.units + 1 < cLine) (hv : PE X (.Name x p) (tVar i)) (hb : DE X E b db) (hs : NoSl b) : DE X E (.Subscript (.Name x p) b pos) (dDGet i db) := ⟨fun B => pe_mono (pe_dget hu hv (hb.run B) hs) fun σ H Q q => by
  obtain ⟨δ, S, W, Q', R, ⟨hd, q⟩, xo, post⟩ := q
  obtain ⟨a, ha⟩ := R.dict_at hd
  refine ⟨.ref a, ha, δ, S, W, _, R, q, xo, fun y δ1 v S1 H1 q1 e1 R1 n1 => ?_⟩
  obtain ⟨r, h1, q1⟩ := optQ_ex q1
  obtain ⟨z, rfl, q1⟩ := optQ_ex q1
  obtain ⟨a', o, ha', g, w⟩ := R1.dget n1 h1
  rw [ha] at ha'; cases ha'
  rcases w with ⟨_, w⟩ | ⟨v', d', rfl, w, dn⟩
  · cases w
  · cases w
    exact ⟨a, v', rfl, g, post _ _ _ _ _ q1 e1 R1 dn⟩⟩
/-- e in name, e not in name -/
def dDIn (neg : Bool) (d : dE) (i : Nat) : dE := fun W δ Q => d W δ fun y δ1 => optQ (dictGet δ1 i y) fun r => Q (.bl (if neg then !r.isSome else r.isSome)) δ1
theorem isSome_of {o : Option V} {r : Option D} (w : (o = none ∧ r = none) ∨ ∃ v d, o = some v ∧ r = some d ∧ Dn K S v d) : o.isSome = r.isSome := by
  rcases w with ⟨rfl, rfl⟩ | ⟨_, _, rfl, rfl, _⟩ <;> rfl
theorem din_read {i : Nat} {Q : VK} (q : liftE K B E (dDIn false db i) σ H Q) : tDIn (liftE K B E db) (tVar i) σ H Q := by
  obtain ⟨δ, S, W, Q', R, q, xo, post⟩ := q
  refine ⟨δ, S, W, _, R, q, xo, fun y δ1 v S1 H1 q1 e1 R1 n1 => ?_⟩
  obtain ⟨r, h1, q1⟩ := optQ_ex q1
  obtain ⟨a', o, ha', g, w⟩ := R1.dget n1 h1
  exact ⟨.ref a', ha', a', o, rfl, g, by rw [isSome_of w]; exact post _ _ _ _ _ q1 e1 R1 (.bl _)⟩
theorem dnin_read {i : Nat} {Q : VK} (q : liftE K B E (dDIn true db i) σ H Q) : tDNotIn (liftE K B E db) (tVar i) σ H Q := by
  obtain ⟨δ, S, W, Q', R, q, xo, post⟩ := q
  refine ⟨δ, S, W, _, R, q, xo, fun y δ1 v S1 H1 q1 e1 R1 n1 => ?_⟩
  obtain ⟨r, h1, q1⟩ := optQ_ex q1
  obtain ⟨a', o, ha', g, w⟩ := R1.dget n1 h1
  exact ⟨.ref a', ha', a', o, rfl, g, by rw [isSome_of w]; exact post _ _ _ _ _ q1 e1 R1 (.bl _)⟩
theorem tB_of {t : TE} {Q : Bool → Hp → Prop} (h : t σ H fun x H' => ∃ k, x = .bl k ∧ Q k H') : tB t σ H Q := h
theorem de_din {i : Nat} {x : Str} (hu : X.A.units + 1 < cLine) (hb : DE X E b db) (hv : PE X (.Name x p) (tVar i)) : DE X E (.Compare b [.In] [.Name x p] pos) (dDIn false db i) := ⟨fun B => pe_mono (pe_cmp (pc_din hu (hb.run B) hv) rfl) fun σ H Q q => din_read q⟩
theorem de_dnin {i : Nat} {x : Str} (hu : X.A.units + 1 < cLine) (hb : DE X E b db) (hv : PE X (.Name x p) (tVar i)) : DE X E (.Compare b [.NotIn] [.Name x p] pos) (dDIn true db i) := ⟨fun B => pe_mono (pe_cmp (pc_dnotin hu (hb.run B) hv) rfl) fun σ H Q q => dnin_read q⟩
theorem dt_din {i : Nat} {x : Str} (hu : X.A.units + 1 < cLine) (hb : DE X E b db) (hv : PE X (.Name x p) (tVar i)) : DT X E (.Compare b [.In] [.Name x p] pos) (dB (dDIn false db i)) := ⟨fun B => pt_mono (pt_cmp (pc_din hu (hb.run B) hv) rfl) fun σ H Q q => by
  have q := lift_B q
  exact din_read (Q := fun x H' => ∃ k, x = .bl k ∧ Q k H') q⟩
theorem dt_dnin {i : Nat} {x : Str} (hu : X.A.units + 1 < cLine) (hb : DE X E b db) (hv : PE X (.Name x p) (tVar i)) : DT X E (.Compare b [.NotIn] [.Name x p] pos) (dB (dDIn true db i)) := ⟨fun B => pt_mono (pt_cmp (pc_dnotin hu (hb.run B) hv) rfl) fun σ H Q q => by
  have q := lift_B q
  exact dnin_read (Q := fun x H' => ∃ k, x = .bl k ∧ Q k H') q⟩
/-- name[i] = e -/
def dictPut (δ : DS) (i : Nat) (y z : D) : Option DS := match δ.sl[i]? with
  | some (.ownT es) => match y.keyT with | some k => if es.length < sizeLine then some (setSl δ i (.ownT (putD es k z))) else none | none => none
  | some (.ownK es) => match y.key with | some k => if es.length < sizeLine then some (setSl δ i (.ownK (putD es k z))) else none | none => none
  | _ => none
theorem Rel.dput (R : Rel K B δ S σ H) {i : Nat} {y z : D} {u v : V} {δ' : DS} (n : Dn K S u y) (m : Dn K S v z) (h : dictPut δ i y z = some δ') : ∃ a H1, σ[i]? = some (some (.ref a)) ∧ DPut H a u v H1 ∧ Rel K B δ' S σ H1 := by
  unfold dictPut at h
  split at h
  · rename_i es hs
    split at h
    · rename_i k hk
      split at h
      · rename_i hz
        cases h
        obtain ⟨ow, h1, _⟩ := id R.sl
        obtain ⟨a, kvs, r1, r2, r3, r4, r5, r6, r7⟩ := h1 i _ hs
        obtain ⟨b, rfl, hb⟩ := n.keyT hk
        have hl : kvs.length = es.length := by simpa using congrArg List.length r6
        refine ⟨a, _, r4, DPut.t r5 (R.ex _ _ hb) (by omega), R.mut (fun vs z => HO.noConfusion z) hs (fun oa q => ?_) fun H1 e => ?_⟩
        · obtain ⟨a', _, t1, _, _, t4, _⟩ := q
          rw [r4] at t4; cases t4
          exact t1
        · have w := KvR.put ⟨r6, r7⟩ m k
          exact ⟨a, _, rfl, r2, r3, r4, e, w.1, w.2⟩
      · cases h
    · cases h
  · rename_i es hs
    split at h
    · rename_i k hk
      split at h
      · rename_i hz
        cases h
        obtain ⟨ow, h1, _⟩ := id R.sl
        obtain ⟨a, kvs, r1, r2, r3, r4, r5, r6, r7⟩ := h1 i _ hs
        have hl : kvs.length = es.length := by simpa using congrArg List.length r6
        rw [n.key hk]
        refine ⟨a, _, r4, DPut.k r5 (by omega), R.mut (fun vs z => HO.noConfusion z) hs (fun oa q => ?_) fun H1 e => ?_⟩
        · obtain ⟨a', _, t1, _, _, t4, _⟩ := q
          rw [r4] at t4; cases t4
          exact t1
        · have w := KvR.put ⟨r6, r7⟩ m k
          exact ⟨a, _, rfl, r2, r3, r4, e, w.1, w.2⟩
      · cases h
    · cases h
  · cases h
def dDPut (i : Nat) (dk dv : dE) : dS := fun W N δ => dv W δ fun z δ1 => isDict δ1 i ∧ dk W δ1 fun y δ2 => optQ (dictPut δ2 i y z) N.nx
theorem ds_dput {i : Nat} {x : Str} {tp : Pos} (hu : X.A.units + 1 < cLine) (hv : PE X (.Name x p) (tVar i)) (hk : DE X E b db) (he : DE X E e da) (hs : swapsWith e (some (.Subscript (.Name x p) b tp)) pos.line X.env = pure false := by rfl) : DSt X E (.Assign [.Subscript (.Name x p) b tp] e pos) (dDPut i db da) :=
  ⟨fun B => ps_mono (ps_dput hu hv (hk.run B) (he.run B) hs) fun Z σ H q => by
    obtain ⟨δ, S, W, N, R, q, xo, p1, _⟩ := q
    refine ⟨δ, S, W, _, R, q, xo, fun z δ1 v S1 H1 q1 e1 R1 n1 => ?_⟩
    obtain ⟨hd, q1⟩ := q1
    obtain ⟨a, ha⟩ := R1.dict_at hd
    refine ⟨.ref a, ha, δ1, S1, W, _, R1, q1, xo.mono e1, fun y δ2 u S2 H2 q2 e2 R2 n2 => ?_⟩
    obtain ⟨δ3, h3, q2⟩ := optQ_ex q2
    obtain ⟨a', H3, ha', g, R3⟩ := R2.dput n2 (n1.mono e2) h3
    rw [ha] at ha'; cases ha'
    exact ⟨a, H3, rfl, g, p1 _ _ _ _ q2 (e1.trans e2) R3⟩⟩
/-- the keys of a dict with tuple keys, sorted -/
def keyD (es : List (List Key × D)) : List D := es.map fun e => .tup (e.1.map kD)
def rSrtT (K : PySem.W.Frag) : List V → Hp → VK → Prop := fun vs H Q => ∃ S a kvs, vs = [.ref a] ∧ Sb S H ∧ H a = some (.dT kvs) ∧ srtOk (kvs.map fun e => D.tup (e.1.map kD)) ∧ ∀ ws p, H p = none → DnA K S ws (sortD (kvs.map fun e => D.tup (e.1.map kD))) → Q (.ref p) (upd H p (.lst ws))
theorem keys_dn (sb : Sb S H) : ∀ {kvs : List (List Key × V)} {xs : List (List Key × Addr × Value)}, Paired (fun (p : List Key × V) (q : List Key × Addr × Value) => p.1 = q.1 ∧ H q.2.1 = some (.tup (p.1.map kV)) ∧ RelV p.2 q.2.2) kvs xs →
    DnA K S (xs.map fun q => V.ref q.2.1) (kvs.map fun e => D.tup (e.1.map kD))
  | _, _, .nil => .nil
  | _, _, .cons h t => .cons (.tup (sb.tp _ _ h.2.1) (DnA.kds _)) (keys_dn sb t)
theorem cd_sortedT (hc : X.calm = true) (hu : X.A.units + 66 < cLine) : CallR X (.builtin "sorted") (rSrtT X.K) := fun pins s σ H vs us Q I r ⟨S, a, kvs, e, sb, ha, ok, q⟩ => by
  subst e
  obtain ⟨u, rfl, ru⟩ := vals1 r
  obtain rfl : u = Value.ref a := ru
  obtain ⟨hz, hs, ks, pr, o, es, ep, ho, hx, hdt, he, hn⟩ := I.hok _ _ ha
  have l1 : es.size = ks.length := by rw [← Array.length_toList, he, List.length_map]
  have l2 : kvs.length = ks.length := Paired.length pr
  refine sorted_end I hu sb (us := ks.map fun q => Value.ref q.2.1) (vs := ks.map fun q => V.ref q.2.1) ?_ (keys_dn sb pr) ok (fun C E' hC => ?_) fun ws p hp aw => q ws p hp aw
  · clear pr he hn l1 l2
    induction ks with
    | nil => exact .nil
    | cons k ks ih => exact .cons rfl ih
  · refine collect_src (kdl_raw hs hx hdt) (I.ok.hd hc) ho (by omega) fun h' tk acc kp sz it => ?_
    have ea : acc.toList = ks.map fun q => Value.ref q.2.1 := by
      have hl : acc.toList.length = ks.length := by rw [Array.length_toList, it.1, l1]
      apply List.ext_getElem?
      intro j
      rw [List.getElem?_map]
      by_cases hj : j < ks.length
      · have hj2 : j < acc.size := by rw [← Array.length_toList]; omega
        obtain ⟨en, h1, h2⟩ := it.2 j acc[j] (Array.getElem?_eq_getElem hj2)
        have h3 : es.toList[j]? = some en := by rw [Array.getElem?_toList]; exact h1
        rw [he, List.getElem?_map, List.getElem?_eq_getElem hj] at h3
        rw [Array.getElem?_toList, Array.getElem?_eq_getElem hj2, List.getElem?_eq_getElem hj, h2, ← Option.some.inj h3]
        rfl
      · rw [List.getElem?_eq_none (by omega), List.getElem?_eq_none (by omega)]; rfl
    rw [ea]
    exact hC h' tk kp sz
def dSortT (i : Nat) : dF := fun _ δ Q => match δ.sl[i]? with
  | some (.ownT es) => srtOk (keyD es) ∧ Q (sortD (keyD es)) δ
  | some (.dat (.dT es)) => srtOk (keyD es) ∧ Q (sortD (keyD es)) δ
  | _ => False
theorem keyD_of {kvs : List (List Key × V)} {es : List (List Key × D)} (h : kvs.map (·.1) = es.map (·.1)) : (kvs.map fun e => D.tup (e.1.map kD)) = keyD es := by
  have e1 : (kvs.map fun e => D.tup (e.1.map kD)) = (kvs.map (·.1)).map fun k => D.tup (k.map kD) := by rw [List.map_map]; rfl
  have e2 : keyD es = (es.map (·.1)).map fun k => D.tup (k.map kD) := by unfold keyD; rw [List.map_map]; rfl
  rw [e1, e2, h]
theorem df_sortedT {i : Nat} {y : Str} {py : Pos} (hc : X.calm = true) (hu : X.A.units + 66 < cLine) (hv : PE X (.Name y py) (tVar i)) (gl : Gl X x) (hm : X.mg x = none) (hb : bootBuiltins x = some (.builtin "sorted")) (hn : x ≠ "__name__" := by decide) (hdb : (x == ("__debug__" : Str)) = false := by decide)
    (he : starEach [.Name y py] X.env = (false, eval (.Name y py) X.env) :: starEach [] X.env := by rfl) (hpl : (backTo pos (starEach [] X.env)).any (·.1) = false := by rfl) : DF X E (.Call (.Name x p) [.Name y py] [] pos) (dSortT i) :=
  ⟨fun B => pe_mono (pe_callB (cd_sortedT hc hu) gl hm hb (pa_cons hv pa_nil he) hn hdb he hpl) fun σ H Q q => by
    obtain ⟨δ, S, W, Q', R, q, xo, post⟩ := q
    unfold dSortT at q
    split at q
    · rename_i es hs
      obtain ⟨ow, h1, _⟩ := id R.sl
      obtain ⟨a, kvs, r1, r2, r3, r4, r5, r6, r7⟩ := h1 i _ hs
      refine ⟨.ref a, r4, S, a, kvs, rfl, R.ex, r5, by rw [keyD_of r6]; exact q.1, fun ws p hp aw => ?_⟩
      rw [keyD_of r6] at aw
      exact post _ _ _ _ _ _ q.2 (Ex.refl _) R hp aw
    · rename_i es hs
      obtain ⟨v, e1, e2⟩ := R.dat hs
      cases e2 with
      | dT h1 h2 h3 =>
        refine ⟨_, e1, S, _, _, rfl, R.ex, R.ex _ _ h1, by rw [keyD_of h2]; exact q.1, fun ws p hp aw => ?_⟩
        rw [keyD_of h2] at aw
        exact post _ _ _ _ _ _ q.2 (Ex.refl _) R hp aw
    · exact q.elim⟩
end
/-- a comprehension with a test, nothing else changed -/
theorem wLC_filt {α : Type} {g : dG} {tt : dT} {te : dE} {vs : List Nat} {Q : List D → DS → Prop} {δ0 : DS} {ι f : α → D} {t : α → Bool} : ∀ {l : List α}, (∀ a ∈ l, ∀ acc (k : List D → DS → Prop), acc.length < sizeLine → (t a = true → k (acc ++ [f a]) δ0) → (t a = false → k acc δ0) → g (ι a) δ0 fun δ1 => tt W0 δ1 fun z δ2 => match z with
      | true => te W0 δ2 fun y δ3 => acc.length < sizeLine ∧ k (acc ++ [y]) (wipeD δ3 vs)
      | false => k acc (wipeD δ2 vs)) → l.length ≤ sizeLine → Q ((l.filter t).map f) δ0 → wLC g tt te vs Q (l.map ι) [] δ0 := by
  intro l h hl h0
  have go : ∀ (r : List α) (acc : List D), (∀ a ∈ r, a ∈ l) → acc.length + r.length ≤ sizeLine → acc ++ (r.filter t).map f = (l.filter t).map f → wLC g tt te vs Q (r.map ι) acc δ0 := by
    intro r
    induction r with
    | nil => intro acc _ _ e; rw [List.filter_nil, List.map_nil, List.append_nil] at e; subst e; exact h0
    | cons a r ih =>
      intro acc hm hz e
      rw [List.length_cons] at hz
      refine h a (hm a List.mem_cons_self) acc (fun acc' δ' => wLC g tt te vs Q (r.map ι) acc' δ') (by omega) (fun ha => ih (acc ++ [f a]) (fun b hb => hm b (List.mem_cons_of_mem _ hb)) (by simp; omega) ?_) (fun ha => ih acc (fun b hb => hm b (List.mem_cons_of_mem _ hb)) (by omega) ?_)
      · rw [← e, List.filter_cons_of_pos ha]; simp
      · rw [← e, List.filter_cons_of_neg (by rw [ha]; decide)]
  exact go l [] (fun _ h => h) (by simpa using hl) rfl
theorem from_zero {lo : Int} : Ev.intsFrom lo 0 = [] := rfl
theorem from_succ {lo : Int} {n : Nat} : Ev.intsFrom lo (n + 1) = .int lo :: Ev.intsFrom (lo + 1) n := by
  unfold Ev.intsFrom
  rw [List.range_succ_eq_map, List.map_cons, List.map_map]
  congr 1
  · simp
  · apply List.map_congr_left
    intro i _
    show D.int (lo + ((i + 1 : Nat) : Int)) = D.int (lo + 1 + (i : Int))
    congr 1; omega
theorem putD_mem {κ : Type} [DecidableEq κ] {es : List (κ × D)} {k : κ} {d : D} {e : κ × D} (h : e ∈ putD es k d) : e ∈ es ∨ e = (k, d) := by
  unfold putD at h
  split at h
  · obtain ⟨x, hx, rfl⟩ := List.mem_map.mp h
    split
    · rename_i q; rw [q]; exact .inr rfl
    · exact .inl hx
  · rcases List.mem_append.mp h with h | h
    · exact .inl h
    · exact .inr (List.mem_singleton.mp h)
theorem putD_len {κ : Type} [DecidableEq κ] {es : List (κ × D)} {k : κ} {d : D} : (putD es k d).length ≤ es.length + 1 := by
  unfold putD
  split
  · rw [List.length_map]; omega
  · rw [List.length_append]; exact Nat.le_refl _
theorem valD_some {κ : Type} [DecidableEq κ] {es : List (κ × D)} {k : κ} (h : k ∈ es.map (·.1)) : ∃ d, valD es k = some d ∧ (k, d) ∈ es := by
  induction es with
  | nil => simp at h
  | cons e es ih =>
    by_cases q : e.1 = k
    · exact ⟨e.2, by simp [valD, q], by rw [← q]; exact List.mem_cons_self⟩
    · simp only [List.map_cons, List.mem_cons] at h
      obtain ⟨d, h1, h2⟩ := ih (h.resolve_left fun z => q z.symm)
      exact ⟨d, by simpa [valD, q] using h1, List.mem_cons_of_mem _ h2⟩
/-- what is made of things of one form stays of that form -/
theorem mem_form {α : Type} {f : α → D} {l : List α} : ∀ {ds : List D}, (∀ d ∈ ds, ∃ a ∈ l, d = f a) → ∃ l' : List α, ds = l'.map f ∧ ∀ a ∈ l', a ∈ l
  | [], _ => ⟨[], rfl, fun _ h => nomatch h⟩
  | d :: ds, h => by
    obtain ⟨a, ha, rfl⟩ := h d List.mem_cons_self
    obtain ⟨l', rfl, hl⟩ := mem_form (ds := ds) fun x hx => h x (List.mem_cons_of_mem _ hx)
    exact ⟨a :: l', rfl, fun b hb => (List.mem_cons.mp hb).elim (fun z => z ▸ ha) (hl b)⟩
theorem sortD_perm (ds : List D) : (sortD ds).Perm ds := List.mergeSort_perm ..
theorem sortD_form {α : Type} {f : α → D} {l : List α} : ∃ l' : List α, sortD (l.map f) = l'.map f ∧ (∀ a ∈ l', a ∈ l) ∧ l'.length = l.length := by
  obtain ⟨l', e, h⟩ := mem_form (f := f) (l := l) (ds := sortD (l.map f)) fun d hd => by
    have := (sortD_perm (l.map f)).mem_iff.mp hd
    obtain ⟨a, ha, e⟩ := List.mem_map.mp this
    exact ⟨a, ha, e.symm⟩
  refine ⟨l', e, h, ?_⟩
  have := (sortD_perm (l.map f)).length_eq
  rw [e] at this
  simpa using this
end Ev

/-! # Defs that give a new list; two pens; constants; lists turned, places of items -/
namespace Ev
open PySem PySem.Spec PyProof.Rows L2
variable [TabC]
variable {K : PySem.W.Frag} {S S' H H' : Hp} {B : Bs} {δ : DS} {σ : L2.St}
/-- the list of one's own in slot i, taken as a new one -/
theorem Rel.unown (R : Rel K B δ S σ H) {i : Nat} {ds : List D} (hi : δ.sl[i]? = some (.own ds)) : ∃ p vs, σ[i]? = some (some (.ref p)) ∧ DnA K S vs ds ∧ Rel K B (setSl δ i .un) S σ (hide H p) ∧ hide H p p = none ∧ H = upd (hide H p) p (.lst vs) := by
  obtain ⟨ow, h1, h2, h3, h4⟩ := id R.sl
  obtain ⟨p, vs, r1, r2, r3, r4, r5, r6⟩ := h1 i _ hi
  obtain ⟨sp, q2, q3, _⟩ := h4 i p r1
  have er : ∀ a, a ≠ p → hide H p a = H a := fun a ne => if_neg ne
  have oj : ∀ j a, j ≠ i → ow j = some a → a ≠ p := fun j a nj e z => nj (h3 j i a e (by rw [z]; exact r1))
  refine ⟨p, vs, r4, r6, ⟨⟨fun a u h => ?_, fun b us h => ?_, R.ex.tb.at_ p (fun b u n h => by rw [er b n]; exact h) (fun u z => by rw [r5] at z; cases z; rfl) fun _ _ z => z⟩, ⟨R.fr.s, fun b u h hb nb => ?_, fun b ps h => by
    obtain ⟨qs, z⟩ := R.fr.t b ps h
    exact ⟨qs, by rw [er b (fun e => by subst e; rw [r5] at z; cases z)]; exact z⟩, R.fr.no, fun a e => ?_⟩, ?_, R.pa, by simpa [setSl] using R.len, fun j => if j = i then none else ow j, fun j x e => ?_, fun j hj => ?_, fun j k a e1 e2 => ?_, fun j a e => ?_⟩, hide_same, ?_⟩
  · rw [er a (fun z => by rw [z, sp] at h; cases h)]; exact R.ex a u h
  · have ne : b ≠ p := fun z => by rw [z, hide_same] at h; cases h
    rw [er b ne] at h; exact R.ex.tp b us h
  · rw [er b (fun z => by rw [z, r2] at h; cases h)]; exact R.fr.h b u h hb nb
  · obtain ⟨u, q⟩ := R.fr.pa a e
    have ne : a ≠ p := fun z => r3 (by rw [← z]; exact e)
    exact ⟨u, by rw [er a ne]; exact q⟩
  · have hp := R.pen
    show PenOk S (hide H p) δ.pen
    cases hpe : δ.pen with
    | none => trivial
    | some ac =>
      obtain ⟨a, c⟩ := ac
      rw [hpe] at hp
      have ne : a ≠ p := fun z => q3 c (by rw [hpe, z])
      obtain ⟨n, ca, ns, k, m, t1, t2, t3⟩ := hp
      exact ⟨n, ca, ns, k, m, by rw [er a ne]; exact t1, t2, t3⟩
  · rcases get_set (show (δ.sl.set i .un)[j]? = some x from e) with ⟨rfl, rfl⟩ | ⟨nj, e⟩
    · show (if j = j then none else ow j) = none
      simp
    · have q := h1 j x e
      have ej : (if j = i then none else ow j) = ow j := if_neg nj
      show SlOk K B S (hide H p) (if j = i then none else ow j) σ[j]? x
      rw [ej]
      exact q.grow (Ex.refl _) fun a o ea ha _ => by rw [er a (oj j a nj ea)]; exact ha
  · show (if j = i then none else ow j) = none
    split
    · rfl
    · exact h2 j (by simpa [setSl] using hj)
  · have e1 : (if j = i then none else ow j) = some a := e1
    have e2 : (if k = i then none else ow k) = some a := e2
    split at e1
    · cases e1
    · split at e2
      · cases e2
      · exact h3 j k a e1 e2
  · have e : (if j = i then none else ow j) = some a := e
    split at e
    · cases e
    · rename_i nj
      obtain ⟨t1, t2, t3, u, t4⟩ := h4 j a e
      exact ⟨t1, t2, t3, u, by rw [er a (oj j a nj e)]; exact t4⟩
  · funext b
    by_cases z : b = p
    · subst z; rw [upd_same]; exact r5
    · rw [upd_ne z]; exact (er b z).symm
section
variable {X : Cx} {E : EK} {e a b c : Expr} {es : List Expr} {pos p ap cp : Pos} {da db : dE} {x : Str}
/-- return of a new list -/
def dRetF (f : dF) : dS := fun W N δ => f W δ fun xs δ' => N.rl xs δ'
theorem ds_retF {f : dF} (h : DF X E e f) : DSt X E (.Return (some e) pos) (dRetF f) := ⟨fun B => ps_mono (ps_ret (h.run B)) fun Z σ H q => by
  obtain ⟨δ, S, W, N, R, q, xo, _, _, _, _, h1⟩ := q
  exact ⟨δ, S, W, _, R, q, xo, fun xs δ' p vs S' H' q1 e1 R1 hp n1 => h1 _ _ _ _ _ _ _ q1 e1 R1 hp n1⟩⟩
/-- return name: the list of one's own -/
def dRetOwn (i : Nat) : dS := fun _ N δ => match δ.sl[i]? with | some (.own ds) => N.rl ds (setSl δ i .un) | _ => False
theorem ds_retOwn {i : Nat} {x : Str} (h : PE X (.Name x p) (tVar i)) : DSt X E (.Return (some (.Name x p)) pos) (dRetOwn i) := ⟨fun B => ps_mono (ps_ret h) fun Z σ H q => by
  obtain ⟨δ, S, W, N, R, q, xo, _, _, _, _, h1⟩ := q
  unfold dRetOwn at q
  split at q
  · rename_i ds hd
    obtain ⟨p, vs, v1, n1, R1, hp, eH⟩ := R.unown hd
    refine ⟨.ref p, v1, ?_⟩
    rw [eH]
    exact h1 _ _ _ _ _ _ _ q (Ex.refl _) R1 hp n1
  · exact q.elim⟩
/-! ### promises of a new list -/
abbrev dSpL := List D → Pen → (List D → Pen → Prop) → (Xc → Pen → Prop) → Prop
def spDL (K : PySem.W.Frag) (n : Nat) (sp : dSpL) : Sp := fun vs H Q E => ∃ S ds p Q' W', Sb S H ∧ PenOk S H p ∧ DnA K S vs ds ∧ ds.length = n ∧ sp ds p Q' W' ∧
  (∀ xs p' a vs' S' H', Q' xs p' → Fin S H S' H' p p' → H' a = none → DnA K S' vs' xs → Q (.ref a) (upd H' a (.lst vs'))) ∧ ∀ c p' cls od S' H', W' c p' → Fin S H S' H' p p' → XcOk K S' H' c cls od → E cls od H'
theorem spDL_len {n : Nat} {sp : dSpL} : ∀ vs H Q E, spDL K n sp vs H Q E → vs.length = n := fun vs H Q E ⟨S, ds, p, Q', W', _, _, a, l, _⟩ => a.length.trans l
def endsL (Q : List D → Pen → Prop) : dEnds := { nx := fun _ => False, rt := fun _ _ => False, rl := fun xs δ => Q xs δ.pen }
def dCallL (n : Nat) (dd : List D) (sp : dSpL) (a : dA) : dF := fun W δ Q => a W δ fun xs δ1 => (xs ++ dd).length = n ∧ sp (xs ++ dd) δ1.pen (fun x p' => Q x { δ1 with pen := p' }) fun c p' => W c { δ1 with pen := p' }
theorem callL_read {sp : dSpL} {W : XW} {Q' : List D → DS → Prop} {δ1 : DS} {S S1 H1 : Hp} {Q : VK} {vs : List V} {xs : List D} (xo : XOk K B E W S) (e1 : Ex S S1) (R1 : Rel K B δ1 S1 σ H1) (n1 : DnA K S1 vs xs) {n : Nat} (hn : xs.length = n)
    (q : sp xs δ1.pen (fun x p' => Q' x { δ1 with pen := p' }) fun c p' => W c { δ1 with pen := p' }) (post : ∀ xs δ' p vs S' H', Q' xs δ' → Ex S S' → Rel K B δ' S' σ H' → H' p = none → DnA K S' vs xs → Q (.ref p) (upd H' p (.lst vs))) : spDL K n sp vs H1 Q (E σ) :=
  ⟨S1, xs, δ1.pen, _, _, R1.ex, R1.pen, n1, hn, q, fun xs p' a vs' S' H' q' f ha d => post _ _ _ _ _ _ q' (e1.trans f.s) (R1.after f) ha d, fun c p' cls od S' H' w f k => xo c _ σ S' H' cls od w (e1.trans f.s) (R1.after f) k⟩
structure DefL (P : Program) (w : World) (K : PySem.W.Frag) (mg : Str → Option Value) (base : Heap) (k : Nat) (x : Str) (n : Nat) (sp : dSpL) (dd : List D) : Prop where
  ok : ∃ (ps : List Str) (f : Addr) (fd : FuncData) (dv : List V) (ds : List Value), FnG P w K mg base CX0 k f fd ps (spDL K n sp) ∧ mg x = some (.ref f) ∧ PySem.W.keepIn K (.ref f) = true ∧ Binds K fd ps ds ∧ Vals dv ds ∧ ∀ S, DnA K S dv dd
structure DefLK (P : Program) (w : World) (K : PySem.W.Frag) (mg : Str → Option Value) (base : Heap) (k : Nat) (x : Str) (n : Nat) (sp : dSpL) (p q : Nat) (ks : List Str) (idx : List Nat) (dd : List D) : Prop where
  ok : ∃ (ps : List Str) (f : Addr) (fd : FuncData) (dv : List V) (ds : List Value), FnG P w K mg base CX0 k f fd ps (spDL K n sp) ∧ mg x = some (.ref f) ∧ PySem.W.keepIn K (.ref f) = true ∧ KBinds K fd ps ks (pickL p q idx ds) (pickL p q idx dv) ∧ ∀ S, DnA K S dv dd
variable {j k n : Nat} {sp : dSpL} {dd : List D} {ta : dA}
theorem df_callL (h : DefL X.prog X.w X.K X.mg X.base j x n sp dd) (hg : X.A.guards = some []) (hr : Room k X.A) (gl : Gl X x) (ha : DA X E (e :: es) ta) (hj : j ≤ k := by decide) (hdb : (x == ("__debug__" : Str)) = false := by decide)
    (he : starEach (e :: es) X.env = (false, eval e X.env) :: starEach es X.env := by rfl) (hpl : (backTo pos (starEach es X.env)).any (·.1) = false := by rfl) : DF X E (.Call (.Name x p) (e :: es) [] pos) (dCallL n dd sp ta) := by
  obtain ⟨ps, f, fd, dv, ds, F, m, kp, b, vd, dn⟩ := h.ok
  refine ⟨fun B => pe_mono (pe_callG F hg (hr.mono hj) gl m kp b vd (pass_at (E := E)) (ha.run B) hdb he hpl) fun σ H Q q => ?_⟩
  obtain ⟨δ, S, W, Q', R, q, xo, post⟩ := q
  refine ⟨δ, S, W, _, R, q, xo, fun xs δ1 vs S1 H1 q1 e1 R1 n1 => ?_⟩
  exact callL_read xo e1 R1 (n1.append (dn S1)) q1.1 q1.2 post
def dCallLK (n p q : Nat) (idx : List Nat) (dd : List D) (sp : dSpL) (a tk : dA) : dF := fun W δ Q => a W δ fun us δ1 => tk W δ1 fun ws δ2 => (pickL p q idx dd us ws).length = n ∧ sp (pickL p q idx dd us ws) δ2.pen (fun x p' => Q x { δ2 with pen := p' }) fun c p' => W c { δ2 with pen := p' }
variable {pp qq : Nat} {ks : List Str} {idx : List Nat} {kws : List Keyword} {tk : dA}
theorem df_callLK (h : DefLK X.prog X.w X.K X.mg X.base j x n sp pp qq ks idx dd) (hg : X.A.guards = some []) (hr : Room k X.A) (gl : Gl X x) (ha : DA X E (e :: es) ta) (hk : DK X E kws tk) (hj : j ≤ k := by decide) (hall : (backToKw pos (keywordEach kws X.env)).all (·.1.isSome) = true := by rfl)
    (hks : (backToKw pos (keywordEach kws X.env)).filterMap (·.1) = ks := by rfl) (hdb : (x == ("__debug__" : Str)) = false := by decide) (he : starEach (e :: es) X.env = (false, eval e X.env) :: starEach es X.env := by rfl)
    (hpl : ((backTo pos (starEach (e :: es) X.env)).any (·.1) || (backToKw pos (keywordEach kws X.env)).any (·.1.isNone)) = false := by rfl) : DF X E (.Call (.Name x p) (e :: es) kws pos) (dCallLK n pp qq idx dd sp ta tk) := by
  obtain ⟨ps, f, fd, dv, ds, F, m, kp, b, dn⟩ := h.ok
  refine ⟨fun B => pe_mono (pe_callGK F hg (hr.mono hj) gl m kp b (pass_at (E := E)) (ha.run B) (hk.run B) hall hks hdb he hpl) fun σ H Q q => ?_⟩
  obtain ⟨δ, S, W, Q', R, q, xo, post⟩ := q
  refine ⟨δ, S, W, _, R, q, xo, fun us δ1 vs S1 H1 q1 e1 R1 n1 => ?_⟩
  refine ⟨δ1, S1, W, _, R1, q1, xo.mono e1, fun ws δ2 zs S2 H2 q2 e2 R2 n2 => ?_⟩
  exact callL_read xo (e1.trans e2) R2 (DnA.pick (dn S2) (n1.mono e2) n2) q2.1 q2.2 post
theorem df_callLK0 (h : DefLK X.prog X.w X.K X.mg X.base j x n sp pp qq ks idx dd) (hg : X.A.guards = some []) (hr : Room k X.A) (gl : Gl X x) (hk : DK X E kws tk) (hj : j ≤ k := by decide) (hall : (backToKw pos (keywordEach kws X.env)).all (·.1.isSome) = true := by rfl)
    (hks : (backToKw pos (keywordEach kws X.env)).filterMap (·.1) = ks := by rfl) (hdb : (x == ("__debug__" : Str)) = false := by decide)
    (hpl : ((backTo pos (starEach [] X.env)).any (·.1) || (backToKw pos (keywordEach kws X.env)).any (·.1.isNone)) = false := by rfl) : DF X E (.Call (.Name x p) [] kws pos) (dCallLK n pp qq idx dd sp dNil tk) := by
  obtain ⟨ps, f, fd, dv, ds, F, m, kp, b, dn⟩ := h.ok
  refine ⟨fun B => pe_mono (pe_callGK0 F hg (hr.mono hj) gl m kp b (pass_at (E := E)) (hk.run B) hall hks hdb hpl) fun σ H Q q => ?_⟩
  obtain ⟨δ, S, W, Q', R, q, xo, post⟩ := q
  refine ⟨δ, S, W, _, R, q, xo, fun ws δ2 zs S2 H2 q2 e2 R2 n2 => ?_⟩
  exact callL_read xo e2 R2 (DnA.pick (dn S2) .nil n2) q2.1 q2.2 post
end
section
variable {P : Program} {w : World} {K : PySem.W.Frag} {mg : Str → Option Value} {base : Heap} {x qual : Str} {st : Stmt} {f : Addr} {fd : FuncData} {N ps : List Str} {k n : Nat} {sp : dSpL} {d : dS}
/-- a def that lets nothing out and gives a new list -/
theorem fn_dL (F : Fun K x qual st f fd) (Sc : FnScope N ps (defScope st)) (hn : ps.length = n)
    (body : ∀ (cdv : Value) (A : Around) (out : List Env) (s : Shared) (H : Hp) (E : XK), A.guards = some [] → Room k (A.deeper (envOfC qual (defScope st) s.heap.objs.size f cdv)) → DSs (cx0 P w K mg base N qual (defScope st) f cdv A out s H E) E00 (defBody st) d)
    (hsp : ∀ ds p Q W, ds.length = n → sp ds p Q W → d W0 (endsL Q) (startD N.length ds p)) : FnG P w K mg base CX0 (k + 1) f fd ps (spDL K n sp) := by
  refine fn_g F Sc (fun vs H Q E q => (spDL_len vs H Q E q).trans hn.symm) fun cdv _ A out s H vs Q E g r q => ?_
  obtain ⟨S0, ds, p, Q', W', ex, hp, a, hl, q, post, _⟩ := q
  have hN : ds.length ≤ N.length := by
    have h2 := congrArg List.length Sc.pre
    rw [List.length_take] at h2
    omega
  exact ⟨_, ((body cdv A out s H E g r).run ⟨S0, H, (Option.map Prod.fst p : Option Addr), true⟩).nox, startD N.length ds p, S0, W0, endsL Q', startRel ex hp a hN, hsp ds p Q' W' hl q, fun _ _ _ _ _ _ _ h => h.elim, fun _ _ _ _ h => h.elim, fun _ _ _ _ _ _ h => h.elim, fun _ _ _ _ h => h.elim, fun _ _ _ _ h => h.elim,
    fun xs δ' a vs σ' S' H' q1 e1 R1 ha n1 => post _ _ _ _ _ _ q1 R1.fin ha n1⟩
end
end Ev

/-! # The law's own frame; two pens; constants; lists turned, places of items, walks backwards -/
namespace Ev
open PySem PySem.Spec PyProof.Rows L2
variable [TabC]
variable {K : PySem.W.Frag} {S S' H H' : Hp} {B : Bs} {δ : DS} {σ : L2.St}
/-- a list of one's own becomes the pen, in the law's own frame -/
theorem Rel.promote (R : Rel K B δ S σ H) (hb : B.pa = none) {j : Nat} {ns : List Int} {k m : Int} {c : Nat} (hj : δ.sl[j]? = some (.own (penD ns k m))) (h63 : ns.length ≤ 63) (h0 : 0 ≤ k) (hk : k ≤ c) (hm : 0 ≤ m) :
    ∃ p, σ[j]? = some (some (.ref p)) ∧ Rel K B { setSl δ j (.dat (.raw (.ref p))) with pen := some (p, c) } S σ H := by
  obtain ⟨ow, h1, h2, h3, h4⟩ := id R.sl
  obtain ⟨p, vs, r1, r2, r3, r4, r5, r6⟩ := h1 j _ hj
  obtain ⟨sp, q2, q3, _⟩ := h4 j p r1
  obtain ⟨ca, rfl, hc⟩ := r6.pen
  refine ⟨p, r4, R.ex, R.fr, ⟨sp, ca, ns, k, m, r5, hc, h63, h0, hk, hm⟩, ?_, by simpa [setSl] using R.len, fun i => if i = j then none else ow i, fun i x e => ?_, fun i hi => ?_, fun i l a e1 e2 => ?_, fun i a e => ?_⟩
  · unfold PaOk
    rw [if_neg (fun z => z.2 hb)]
    intro a c' z
    cases z
    exact ⟨r2, r3⟩
  · rcases get_set (show (δ.sl.set j (.dat (.raw (.ref p))))[i]? = some x from e) with ⟨rfl, rfl⟩ | ⟨ne, e⟩
    · exact ⟨by simp, .ref p, r4, .raw _⟩
    · have ej : (if i = j then none else ow i) = ow i := if_neg ne
      show SlOk K B S H (if i = j then none else ow i) σ[i]? x
      rw [ej]; exact h1 i x e
  · show (if i = j then none else ow i) = none
    split
    · rfl
    · exact h2 i (by simpa [setSl] using hi)
  · have e1 : (if i = j then none else ow i) = some a := e1
    have e2 : (if l = j then none else ow l) = some a := e2
    split at e1
    · cases e1
    · split at e2
      · cases e2
      · exact h3 i l a e1 e2
  · have e : (if i = j then none else ow i) = some a := e
    split at e
    · cases e
    · rename_i ni
      obtain ⟨t1, t2, t3, u, t4⟩ := h4 i a e
      refine ⟨t1, t2, fun c' z => ?_, u, t4⟩
      cases z
      exact ni (h3 i j p e r1)
section
variable {X : Cx} {E : EK} {e a b c : Expr} {es : List Expr} {pos p ap cp : Pos} {da db : dE} {x y z : Str}
/-- [x, y][z]: the first pen, which is there; the second, which is made one -/
def dPen2 (i j t : Nat) : dE := fun _ δ Q => (∃ (q : Nat) (ns : List Int), δ.sl[q]? = some (.law ns)) ∧ match δ.sl[i]?, δ.sl[j]?, δ.sl[t]? with
  | some (.own xs), some (.own _), some (.dat (.int 0)) => ∃ (ns : List Int) (k m : Int) (c : Nat), xs = penD ns k m ∧ ns.length ≤ 63 ∧ 0 ≤ k ∧ k ≤ c ∧ 0 ≤ m ∧ ∀ p, Q (.raw (.ref p)) { setSl δ i (.dat (.raw (.ref p))) with pen := some (p, c) }
  | some (.dat (.raw (.ref a))), some (.own xs), some (.dat (.int 1)) => ∃ (ns : List Int) (k m : Int) (c : Nat), xs = penD ns k m ∧ ns.length ≤ 63 ∧ 0 ≤ k ∧ k ≤ c ∧ 0 ≤ m ∧ ∀ p, Q (.raw (.ref p)) { setSl δ j (.dat (.raw (.ref p))) with pen := some (p, c) }
  | some (.dat (.raw (.ref a))), some (.dat (.raw (.ref b))), some (.dat (.int 1)) => Q (.raw (.ref b)) δ
  | _, _, _ => False
theorem lst2_read {i j t : Nat} {v w : V} {k : Int} {Q : VK} (R : Rel K B δ S σ H) (hi : σ[i]? = some (some v)) (hj : σ[j]? = some (some w)) (ht : δ.sl[t]? = some (.dat (.int k))) (hk : k = 0 ∨ k = 1)
    (q : ∀ S1 H1, Grow S H S1 H1 → Q (if k = 0 then v else w) H1) : tOp (rIxL K) (tLst (tCons (tVar i) (tCons (tVar j) tNil))) (tVar t) σ H Q := by
  obtain ⟨u, hu, du⟩ := R.dat ht
  cases du
  refine ⟨v, hi, w, hj, by show 2 ≤ sizeLine; rw [sizeLine_eq]; decide, fun L hL => ⟨.int k, hu, L, [v, w], k, if k = 0 then v else w, rfl, rfl, SqL.of upd_same, ?_, q _ _ (Grow.new R.ex hL)⟩⟩
  rcases hk with rfl | rfl <;> rfl
theorem de_pen2 {i j t : Nat} {px py pz lp : Pos} (hx : PE X (.Name x px) (tVar i)) (hy : PE X (.Name y py) (tVar j)) (hz : PE X (.Name z pz) (tVar t)) (h1 : starEach [.Name x px, .Name y py] X.env = (false, eval (.Name x px) X.env) :: starEach [.Name y py] X.env := by rfl) (h2 : starEach [.Name y py] X.env = (false, eval (.Name y py) X.env) :: starEach [] X.env := by rfl)
    (hs : PlainIx (.Name z pz)) : DE X E (.Subscript (.List [.Name x px, .Name y py] lp) (.Name z pz) pos) (dPen2 i j t) := ⟨fun B => pe_mono (pe_ix ix_list (pe_lst (pa_cons hx (pa_cons hy pa_nil h2) h1)) hz hs) fun σ H Q q => by
  obtain ⟨δ, S, W, Q', R, ⟨⟨ql, nl, hl⟩, q⟩, xo, post⟩ := q
  have hb := (R.law hl).1
  split at q
  · rename_i xs ys e1 e2 e3
    obtain ⟨ns, k, m, c, rfl, w1, w2, w3, w4, q⟩ := q
    obtain ⟨p, hp, R1⟩ := R.promote hb e1 w1 w2 w3 w4
    obtain ⟨p2, vs2, hp2, _⟩ := R.own e2
    have e3' : (setSl δ i (.dat (.raw (.ref p)))).sl[t]? = some (.dat (.int 0)) := by
      show (δ.sl.set i _)[t]? = _
      rw [List.getElem?_set_ne (fun z => by subst z; rw [e1] at e3; cases e3)]; exact e3
    exact lst2_read R1 hp hp2 e3' (.inl rfl) fun S1 H1 g => post _ _ _ _ _ (q p) g.s (R1.grow g) (.raw _)
  · rename_i a xs e1 e2 e3
    obtain ⟨ns, k, m, c, rfl, w1, w2, w3, w4, q⟩ := q
    obtain ⟨p, hp, R1⟩ := R.promote hb e2 w1 w2 w3 w4
    obtain ⟨v, hv, _⟩ := R.dat e1
    have e3' : (setSl δ j (.dat (.raw (.ref p)))).sl[t]? = some (.dat (.int 1)) := by
      show (δ.sl.set j _)[t]? = _
      rw [List.getElem?_set_ne (fun z => by subst z; rw [e2] at e3; cases e3)]; exact e3
    exact lst2_read R1 hv hp e3' (.inr rfl) fun S1 H1 g => post _ _ _ _ _ (q p) g.s (R1.grow g) (.raw _)
  · rename_i a b e1 e2 e3
    obtain ⟨v, hv, _⟩ := R.dat e1
    obtain ⟨w, hw, dw⟩ := R.dat e2
    cases dw
    exact lst2_read R hv hw e3 (.inr rfl) fun S1 H1 g => post _ _ _ _ _ q g.s (R.grow g) (.raw _)
  · exact q.elim⟩
/-! ### constants -/
theorem de_gint {i : Int} (gl : Gl X x) (h : ∃ t, X.mg x = some (.int i t)) (hd : (x == ("__debug__" : Str)) = false := by decide) : DE X E (.Name x pos) (dC (.int i)) := by
  obtain ⟨t, h⟩ := h
  exact de_c (pe_glob gl h (show RelV (.int i) (.int i t) from ⟨t, rfl⟩) hd) fun _ => .int i
theorem de_gstr {i : Str} (gl : Gl X x) (h : ∃ t, X.mg x = some (.str i t)) (hd : (x == ("__debug__" : Str)) = false := by decide) : DE X E (.Name x pos) (dC (.str i)) := by
  obtain ⟨t, h⟩ := h
  exact de_c (pe_glob gl h (show RelV (.str i) (.str i t) from ⟨t, rfl⟩) hd) fun _ => .str i
/-! ### turned, walked backwards, places -/
def dRev (d : dE) : dF := fun W δ Q => d W δ fun x δ1 => match x with | .lst ds => Q ds.reverse δ1 | _ => False
theorem df_rev {k : Nat} {p1 p2 p3 : Pos} (h : DE X E e da) : DF X E (.Subscript e (.Slice none none (some (.UnaryOp .USub (.Constant (.int 1) k p1) p2)) p3) pos) (dRev da) := ⟨fun B => pe_mono (pe_revL (h.run B)) fun σ H Q q => by
  obtain ⟨δ, S, W, Q', R, q, xo, post⟩ := q
  refine ⟨δ, S, W, _, R, q, xo, fun x δ1 v S1 H1 q1 e1 R1 n1 => ?_⟩
  match x, n1, q1 with
  | .lst ds, .lst h a, q1 => exact ⟨_, _, rfl, SqL.of (R1.ex _ _ h), fun p hp => post _ _ _ _ _ _ q1 e1 R1 hp a.reverse⟩⟩
theorem it_rev {a : Addr} {vs : List V} {ds : List D} (h : S a = some (.lst vs)) (n : DnA K S vs ds) : ItOk K (Itv K a vs.length) ds.reverse S := by
  have hl := n.length
  refine ⟨fun i S1 H1 e1 e2 hi => ?_, fun S1 H1 e1 e2 => ?_, fun i S1 H1 x H2 e1 e2 hi y => ?_⟩
  · rw [List.length_reverse] at hi
    exact walk_rev.goes i H1 (by omega) (SqL.of (e2 _ _ (e1 _ _ h)))
  · rw [List.length_reverse, ← hl]
    exact walk_rev.stops H1 (SqL.of (e2 _ _ (e1 _ _ h)))
  · rw [List.length_reverse] at hi
    obtain ⟨rfl, hx⟩ := walk_rev.yields i H1 x H2 (by omega) (SqL.of (e2 _ _ (e1 _ _ h))) y
    obtain ⟨d, h1, h2⟩ := n.getV hx
    refine ⟨S1, d, Grow.refl e2, ?_, h2.mono e1⟩
    rw [List.getElem?_reverse (by omega), ← hl]
    exact h1
def dRevI (d : dE) : dI := fun W δ Q => d W δ fun x δ' => match x with | .lst ds => Q ds.reverse δ' | _ => False
theorem di_rev {tg : Expr} {p : Pos} (hg : Gl X "reversed") (hm : X.mg "reversed" = none) (h : DE X E e da) (hs : starEach [e] X.env = (false, eval e X.env) :: starEach [] X.env := by rfl) : DI X E tg (.Call (.Name "reversed" p) [e] [] pos) (dRevI da) := ⟨fun B => pi_mono (RT.pi_revA hg hm (h.run B) hs) fun σ H Rr q => by
  obtain ⟨δ, S, W, Q', R, q, xo, post⟩ := q
  refine ⟨δ, S, W, _, R, q, xo, fun x δ1 v S1 H1 q1 e1 R1 n1 => ?_⟩
  match x, n1, q1 with
  | .lst ds, .lst h a, q1 => exact ⟨_, _, rfl, .inl ⟨SqL.of (R1.ex _ _ h), post _ _ _ _ _ q1 e1 R1 (it_rev h a)⟩⟩⟩
/-- the first place of an item -/
def firstAt (ds : List D) (d : D) : Option Nat := ds.findIdx? fun z => z.eq d
theorem pys_map : ∀ ds : List D, D.pys ds = ds.map D.py
  | [] => rfl
  | d :: ds => by show d.py :: D.pys ds = _; rw [pys_map ds]; rfl
/-- name.index(e) -/
def dIndex (i : Nat) (d : dE) : dE := fun W δ Q => (∃ ds, lookAt δ i = some ds) ∧ d W δ fun y δ1 => optQ (lookAt δ1 i) fun ds => (D.lst ds).cm ∧ y.cm ∧ optQ (firstAt ds y) fun j => Q (.int j) δ1
theorem de_index {i : Nat} (hu : X.A.units + 65 < cLine) (hv : PE X (.Name x p) (tVar i)) (he : DE X E e da) (hbase : attributeBase (.Name x p) "index" X.env (eval (.Name x p) X.env) = eval (.Name x p) X.env := by rfl)
    (hfew : ((backTo cp (starEach [e] X.env)).all (fun x => !x.1) && (backToKw cp (keywordEach [] X.env)).all (fun x => x.1.isSome) && decide (([e] : List Expr).length + ([] : List Keyword).length + (if ([] : List Keyword).isEmpty then 0 else 1) < 30)) = true := by rfl)
    (hline : (ap.endLine == cp.line) = true := by rfl) (hs : starEach [e] X.env = (false, eval e X.env) :: starEach [] X.env := by rfl) (hpl : (backTo cp (starEach [] X.env)).any (·.1) = false := by rfl) : DE X E (.Call (.Attribute (.Name x p) "index" ap) [e] [] cp) (dIndex i da) :=
  ⟨fun B => pe_mono (pe_bm PySem.F.plainAttrs_list PySem.F.slot_list_index PySem.F.type_list_index (mt_indexD hu) hv (pa_cons (he.run B) pa_nil hs) hbase hfew hline hs hpl) fun σ H Q q => by
    obtain ⟨δ, S, W, Q', R, ⟨⟨ds0, h0⟩, q⟩, xo, post⟩ := q
    obtain ⟨p0, vs0, v0, g0, _⟩ := R.lookAt h0
    refine ⟨.ref p0, v0, tyL g0, δ, S, W, _, R, q, xo, fun y δ1 v S1 H1 q1 e1 R1 n1 => ?_⟩
    obtain ⟨ds, h1, c1, c2, q1⟩ := optQ_ex q1
    obtain ⟨j, hj, q1⟩ := optQ_ex q1
    obtain ⟨p', S2, v1, e2, sb, dl, _, _⟩ := R1.look h1
    rw [v0] at v1; cases v1
    obtain ⟨hlt, y1, y2⟩ := List.findIdx?_eq_some_iff_getElem.mp hj
    have sh := c1.sh
    refine ⟨p0, v, y.py, D.pys ds, j, ds[j].py, rfl, rfl, ?_, ?_, ?_, c2.sh, ?_, y1, fun m z' hm hz => ?_, post _ _ _ _ _ q1 e1 R1 (.int _)⟩
    · exact (dl.mono sb).dp c1.1
    · exact (n1.mono R1.ex).dp c2.1
    · exact sh
    · rw [pys_map, List.getElem?_map, List.getElem?_eq_getElem hlt]; rfl
    · rw [pys_map, List.getElem?_map, List.getElem?_eq_getElem (by omega)] at hz
      cases hz
      have := y2 m hm
      simpa [D.eq] using this⟩
end
section
variable {X : Cx} {E : EK} {a b c : Expr} {pos : Pos} {ta : dT} {fa fb : dF}
def dIfF (t : dT) (x y : dF) : dF := fun W δ Q => t W δ fun k δ1 => match k with | true => x W δ1 Q | false => y W δ1 Q
theorem df_if (ht : DT X E c ta) (ha : DF X E a fa) (hb : DF X E b fb) : DF X E (.IfExp c a b pos) (dIfF ta fa fb) := ⟨fun B => pe_mono (pe_ifExp (ht.run B) (ha.run B) (hb.run B)) fun σ H Q q => by
  obtain ⟨δ, S, W, Q', R, q, xo, post⟩ := q
  refine ⟨δ, S, W, _, R, q, xo, fun k δ1 S1 H1 q1 e1 R1 => ?_⟩
  cases k with
  | true => rw [if_pos rfl]; exact ⟨δ1, S1, W, _, R1, q1, xo.mono e1, fun xs δ2 p vs S2 H2 q2 e2 R2 hp n2 => post _ _ _ _ _ _ q2 (e1.trans e2) R2 hp n2⟩
  | false => rw [if_neg Bool.false_ne_true]; exact ⟨δ1, S1, W, _, R1, q1, xo.mono e1, fun xs δ2 p vs S2 H2 q2 e2 R2 hp n2 => post _ _ _ _ _ _ q2 (e1.trans e2) R2 hp n2⟩⟩
end
section
variable {X : Cx} {E : EK} {a b : Expr} {pos px py pt pt2 : Pos} {x y : Str} {kt k2 : Nat} {d : dA}
/-- x, y = a, b -/
def dPar (i j : Nat) (d : dA) : dS := fun W N δ => d W δ fun xs δ1 => match xs with | [u, v] => N.nx (setSl (setSl δ1 i (.dat u)) j (.dat v)) | _ => False
theorem ds_par {i j : Nat} (hc : X.calm = true) (hN : X.N.Nodup) (hi : X.N[i]? = some x) (hj : X.N[j]? = some y) (hij : i ≠ j) (hx : X.env.scope.names.lookup x = some .local) (hy : X.env.scope.names.lookup y = some .local) (ha : DA X E [a, b] d)
    (hw : swappedStores [.Tuple [.Name x px, .Name y py] kt pt] (.Tuple [a, b] k2 pt2) X.env = pure (some [x, y])) : DSt X E (.Assign [.Tuple [.Name x px, .Name y py] kt pt] (.Tuple [a, b] k2 pt2) pos) (dPar i j d) := ⟨fun B => ps_mono (ps_par hc hN hi hj hij hx hy (ha.run B) hw) fun Z σ H q => by
  obtain ⟨δ, S, W, N, R, q, xo, p1, _⟩ := q
  refine ⟨δ, S, W, _, R, q, xo, fun xs δ1 vs S1 H1 q1 e1 R1 n1 => ?_⟩
  match xs, n1, q1 with
  | [u, v], n1, q1 =>
    obtain ⟨v1, v2, rfl, d1, d2⟩ := n1.two
    exact ⟨v1, v2, rfl, p1 _ _ _ _ q1 e1 ((R1.setDat d1).setDat d2)⟩⟩
end
/-! ### the law's own frame -/
def startL (m : Nat) (ns : List Int) : DS := ⟨.law ns :: List.replicate (m - 1) .un, none⟩
theorem startRelL {N : List Str} {a : Addr} {ns : List Int} (e : Sb S H) (hs : SqL K S a (ns.map V.int)) (hl : 1 ≤ N.length) : Rel K ⟨S, H, none, true⟩ (startL N.length ns) S (L2.start N [.ref a]) H := by
  have R := startRel (K := K) (N := N) (vs := [.ref a]) (ds := [.scr ns]) (p := none) e trivial (.cons (.scr hs) .nil) (by simpa using hl)
  obtain ⟨ow, h1, h2, h3, h4⟩ := id R.sl
  have z0 : ow 0 = none := (h1 0 (.dat (.scr ns)) rfl).1
  refine ⟨R.ex, R.fr, trivial, R.pa, by simpa [startL, startD] using R.len, ow, fun i x e => ?_, fun i hi => h2 i (by simpa [startL, startD] using hi), h3, h4⟩
  match i, e with
  | 0, e =>
    cases (show some (Sl.law ns) = some x from e)
    exact ⟨z0, rfl, a, rfl, hs⟩
  | i + 1, e => exact h1 (i + 1) x e
section
variable {P : Program} {w : World} {K : PySem.W.Frag} {mg : Str → Option Value} {base : Heap} {x qual : Str} {st : Stmt} {f : Addr} {fd : FuncData} {N ps : List Str} {k : Nat} {d : dS}
/-- what the law promises: True, of every script -/
def spLawS (K : PySem.W.Frag) : Sp := fun vs H Q _ => ∃ (S : Hp) (a : Addr) (ns : List Int), vs = [.ref a] ∧ SqL K S a (ns.map V.int) ∧ ns.length ≤ 63 ∧ Sb S H ∧ ∀ H', Q (.bl true) H'
theorem fn_law (F : Fun K x qual st f fd) (Sc : FnScope N ps (defScope st)) (hn : ps.length = 1)
    (body : ∀ (cdv : Value) (A : Around) (out : List Env) (s : Shared) (H : Hp) (E : XK), A.guards = some [] → Room k (A.deeper (envOfC qual (defScope st) s.heap.objs.size f cdv)) → DSs (cx0 P w K mg base N qual (defScope st) f cdv A out s H E) E00 (defBody st) d)
    (hsp : ∀ ns : List Int, ns.length ≤ 63 → d W0 { nx := fun _ => False, rt := fun x _ => x = .bl true } (startL N.length ns)) : FnG P w K mg base CX0 (k + 1) f fd ps (spLawS K) := by
  refine fn_g F Sc (fun vs H Q E q => by obtain ⟨_, a, ns, rfl, _⟩ := q; exact hn.symm) fun cdv _ A out s H vs Q E g r q => ?_
  obtain ⟨S0, a, ns, rfl, hs, hl, sb, q⟩ := q
  have hN : 1 ≤ N.length := by
    have h2 := congrArg List.length Sc.pre
    rw [List.length_take] at h2
    omega
  exact ⟨_, ((body cdv A out s H E g r).run ⟨S0, H, none, true⟩).nox, startL N.length ns, S0, W0, _, startRelL sb hs hN, hsp ns hl, fun _ _ _ _ _ _ _ h => h.elim, fun _ _ _ _ h => h.elim, fun x δ' v σ' S' H' q1 e1 R1 n1 => by
    subst q1
    cases n1
    exact q _, fun _ _ _ _ h => h.elim, fun _ _ _ _ h => h.elim, fun _ _ _ _ _ _ _ h => h.elim⟩
end
theorem law_spS {H : Hp} {a : Addr} {ns : List Int} (hl : ns.length ≤ 63) (hS : SqL K H a (ns.map V.int)) (hT : ∀ p ∈ TabC.tab, H p.1 = some (.tbl #[])) : spLawS K [.ref a] H (fun v _ => v = .bl true) fun _ _ _ => False := ⟨Ev.noT H, a, ns, rfl, (sqL_noT hS), hl, Sb.start hT, fun _ => rfl⟩
end Ev

/-! # Small facts about lists, for drawn data -/
namespace Ev
open PySem PySem.Spec PyProof.Rows L2
variable [TabC]
theorem ixN_in {n : Nat} {r : Int} (h0 : 0 ≤ r) (h1 : r < n) : ixN n r = some r.toNat := by
  unfold ixN
  rw [if_pos h0, if_pos h1]
theorem erase_map {α β : Type} (f : α → β) : ∀ (l : List α) (i : Nat), (l.map f).eraseIdx i = (l.eraseIdx i).map f
  | [], _ => rfl
  | _ :: _, 0 => rfl
  | x :: l, i + 1 => congrArg (f x :: ·) (erase_map f l i)
theorem erase_perm {α : Type} : ∀ {l : List α} {i : Nat} (h : i < l.length), (l[i] :: l.eraseIdx i).Perm l
  | _ :: _, 0, _ => .refl _
  | a :: l, i + 1, h => (List.Perm.swap a _ _).trans (.cons a (erase_perm (l := l) (i := i) (by simpa using h)))
/-- an item at a drawn place -/
theorem atI_map {α : Type} {f : α → D} {xs : List α} {r : Int} (h0 : 0 ≤ r) (h1 : r < (xs.length : Nat)) : ∃ x ∈ xs, atI (xs.map f) r = some (f x) := by
  have h2 : r.toNat < xs.length := by omega
  exact ⟨xs[r.toNat], List.getElem_mem h2, by rw [atI_nn h0, List.getElem?_map, List.getElem?_eq_getElem h2]; rfl⟩
theorem atI_mapLast {α : Type} {f : α → D} {xs : List α} (h : xs ≠ []) : ∃ x ∈ xs, atI (xs.map f) (-1) = some (f x) := by
  rw [atI_neg1, List.getElem?_map, List.length_map]
  have h2 : xs.length - 1 < xs.length := by
    cases xs with
    | nil => exact absurd rfl h
    | cons x r => simp
  exact ⟨xs[xs.length - 1], List.getElem_mem h2, by rw [List.getElem?_eq_getElem h2]; rfl⟩
/-- an item out of a list of so many -/
theorem atI_all {P : D → Prop} : ∀ {xs : List D} {r : Int}, (∀ x ∈ xs, P x) → 0 ≤ r → r < (xs.length : Nat) → ∃ x, atI xs r = some x ∧ P x := fun {xs r} h h0 h1 => by
  have h2 : r.toNat < xs.length := by omega
  exact ⟨xs[r.toNat], by rw [atI_nn h0, List.getElem?_eq_getElem h2], h _ (List.getElem_mem h2)⟩
theorem lt_cases3 {r : Int} (h0 : 0 ≤ r) (h1 : r < 3) : r = 0 ∨ r = 1 ∨ r = 2 := by omega
theorem eq_non_int {i : Int} : D.eq .non (.int i) = false := rfl
theorem eq_int_non {i : Int} : D.eq (.int i) .non = false := rfl

/-! ### a look at everything: all that is one's own is data for so long, and nothing of it comes back but numbers, truths, texts -/
variable {K : PySem.W.Frag} {S S' H H' : Hp} {B : Bs} {δ : DS} {σ : L2.St}
def roSl : Sl → Sl
  | .dat d => .dat d
  | .own ds => .dat (.lst ds)
  | .ownK es => .dat (.dK es)
  | .ownT es => .dat (.dT es)
  | _ => .un
theorem ro_un : roSl .un = .un := rfl
theorem ro_dat {d : D} : roSl (.dat d) = .dat d := rfl
theorem ro_own {ds : List D} : roSl (.own ds) = .dat (.lst ds) := rfl
theorem ro_hp {ds : List D} : roSl (.hp ds) = .un := rfl
theorem ro_law {ds : List Int} : roSl (.law ds) = .un := rfl
theorem ro_ownK {es : List (Key × D)} : roSl (.ownK es) = .dat (.dK es) := rfl
theorem ro_ownT {es : List (List Key × D)} : roSl (.ownT es) = .dat (.dT es) := rfl
theorem flat_int {i : Int} : (D.int i).flat = true := rfl
theorem flat_str {i : Str} : (D.str i).flat = true := rfl
theorem flat_bl {i : Bool} : (D.bl i).flat = true := rfl
theorem flat_non : D.non.flat = true := rfl
def roD (δ : DS) : DS := ⟨δ.sl.map roSl, none⟩
theorem Rel.ro (R : Rel K B δ S σ H) : ∃ (S1 : Hp) (B1 : Bs), Ex S S1 ∧ Rel K B1 (roD δ) S1 σ H ∧ ∀ δ2 S2 H2, Ex S1 S2 → Rel K B1 δ2 S2 σ H2 → ∃ S3, Grow S H S3 H2 ∧ ∀ b vs, S2 b = some (.tup vs) → S3 b = some (.tup vs) := by
  obtain ⟨ow, h1, h2, h3, h4⟩ := id R.sl
  let ownd : Addr → Prop := fun b => ∃ i x, δ.sl[i]? = some x ∧ ow i = some b ∧ (∀ ds, x ≠ .hp ds)
  have hown : ∀ b, ownd b → S b = none := fun b ⟨i, x, _, e, _⟩ => (h4 i b e).1
  have hnt : ∀ b, ownd b → ∃ o, H b = some o ∧ (∀ vs, o ≠ .tup vs) ∧ HO.plain o = true := fun b ⟨i, x, hx, e, nh⟩ => by
    have q := h1 i x hx
    cases x with
    | un => rw [e] at q; cases q
    | law ns => rw [e] at q; cases q.1
    | dat d => rw [e] at q; cases q.1
    | own ds => obtain ⟨a, vs, r1, _, _, _, r3, _⟩ := q; rw [e] at r1; cases r1; exact ⟨_, r3, (fun _ z => nomatch z), rfl⟩
    | hp ds => exact absurd rfl (nh ds)
    | ownK es => obtain ⟨a, vs, r1, _, _, _, r3, _⟩ := q; rw [e] at r1; cases r1; exact ⟨_, r3, (fun _ z => nomatch z), rfl⟩
    | ownT es => obtain ⟨a, vs, r1, _, _, _, r3, _⟩ := q; rw [e] at r1; cases r1; exact ⟨_, r3, (fun _ z => nomatch z), rfl⟩
  open Classical in
  let S1 : Hp := fun b => if ownd b then H b else S b
  have s1n : ∀ b, ¬ ownd b → S1 b = S b := fun b h => if_neg h
  have s1o : ∀ b, ownd b → S1 b = H b := fun b h => if_pos h
  have e1 : Ex S S1 := fun a o q => by
    rw [s1n a (fun z => by rw [hown a z] at q; cases q)]; exact q
  have sb1 : Sb S1 H := ⟨fun a o q => by
    by_cases z : ownd a
    · rw [s1o a z] at q; exact q
    · rw [s1n a z] at q; exact R.ex a o q, fun b vs q => e1 _ _ (R.ex.tp b vs q), fun p hp => by
    obtain ⟨t1, ps, t2, t3⟩ := R.ex.tb p hp
    refine ⟨(s1n _ (fun z => ?_)).trans t1, ps, t2, t3⟩
    obtain ⟨o, q1, _, q2⟩ := hnt _ z
    rw [t2] at q1; cases q1; cases q2⟩
  refine ⟨S1, ⟨S1, H, none, true⟩, e1, ⟨sb1, ⟨Ex.refl _, fun _ _ h _ _ => h, fun _ ps h => ⟨ps, h⟩, fun _ _ _ n => n, fun _ z => nomatch z⟩, trivial, ?_, by simpa [roD] using R.len, fun _ => none, fun i y e => ?_, fun _ _ => rfl, fun _ _ _ z => (nomatch z), fun _ _ z => nomatch z⟩, fun δ2 S2 H2 ex2 R2 => ?_⟩
  · unfold PaOk
    rw [if_neg (fun z => z.2 rfl)]
    exact fun _ _ z => nomatch z
  · unfold roD at e
    rw [List.getElem?_map] at e
    cases hx : δ.sl[i]? with
    | none => rw [hx] at e; cases e
    | some x =>
      rw [hx] at e
      cases e
      have q := h1 i x hx
      cases x with
      | un => exact rfl
      | law ns => exact rfl
      | dat d => obtain ⟨_, v, q1, q2⟩ := q; exact ⟨rfl, v, q1, q2.mono e1⟩
      | own ds =>
        obtain ⟨a, vs, r1, _, _, r2, r3, r4⟩ := q
        have oa : ownd a := ⟨i, _, hx, r1, fun _ z => nomatch z⟩
        exact ⟨rfl, _, r2, .lst (by rw [s1o a oa]; exact r3) (r4.mono e1)⟩
      | hp ds => exact rfl
      | ownK es =>
        obtain ⟨a, vs, r1, _, _, r2, r3, r4, r5⟩ := q
        have oa : ownd a := ⟨i, _, hx, r1, fun _ z => nomatch z⟩
        exact ⟨rfl, _, r2, .dK (by rw [s1o a oa]; exact r3) r4 (r5.mono e1)⟩
      | ownT es =>
        obtain ⟨a, vs, r1, _, _, r2, r3, r4, r5⟩ := q
        have oa : ownd a := ⟨i, _, hx, r1, fun _ z => nomatch z⟩
        exact ⟨rfl, _, r2, .dT (by rw [s1o a oa]; exact r3) r4 (r5.mono e1)⟩
  · open Classical in
    let S3 : Hp := fun b => if ownd b then none else S2 b
    have s3n : ∀ b, ¬ ownd b → S3 b = S2 b := fun b h => if_neg h
    have s3o : ∀ b, ownd b → S3 b = none := fun b h => if_pos h
    have hh : Ext H H2 := ⟨fun b o q nt => R2.fr.h b o q (fun z => nomatch z) nt, R2.fr.t⟩
    have e3 : Ex S S3 := fun a o q => by
      rw [s3n a (fun z => by rw [hown a z] at q; cases q)]
      exact ex2 _ _ (e1 _ _ q)
    refine ⟨S3, ⟨e3, hh, ⟨fun a o q => ?_, fun b vs q => ?_, fun p hp => ?_⟩, fun b o q n => ?_⟩, fun b vs q => ?_⟩
    · by_cases z : ownd a
      · rw [s3o a z] at q; cases q
      · rw [s3n a z] at q; exact R2.ex a o q
    · by_cases z : ownd b
      · obtain ⟨o, q1, q2, q4⟩ := hnt b z
        rw [hh.pl q1 q4] at q
        exact absurd (Option.some.inj q) (q2 vs)
      · rw [s3n b z]; exact R2.ex.tp b vs q
    · obtain ⟨t1, t2⟩ := R2.ex.tb p hp
      refine ⟨?_, t2⟩
      by_cases z : ownd p.1
      · exact s3o _ z
      · rw [s3n _ z]; exact t1
    · by_cases z : ownd b
      · exact s3o b z
      · rw [s3n b z]; exact R2.fr.no b o q (by rw [show (Bs.mk S1 H none true).S0 b = S1 b from rfl, s1n b z]; exact n)
    · by_cases z : ownd b
      · obtain ⟨o, q1, q2, q4⟩ := hnt b z
        have q3 := R2.ex _ _ q
        rw [hh.pl q1 q4] at q3
        exact absurd (Option.some.inj q3) (q2 vs)
      · rw [s3n b z]; exact q
mutual
def D.solid : D → Bool
  | .non => true | .bl _ => true | .int _ => true | .str _ => true
  | .tup ds => D.solids ds
  | .kt ds => D.solids ds
  | _ => false
def D.solids : List D → Bool
  | [] => true
  | d :: ds => d.solid && D.solids ds
end
mutual
theorem Dn.solid {S S' : Hp} (g : ∀ b vs, S b = some (.tup vs) → S' b = some (.tup vs)) : ∀ {v : V} {d : D}, Dn K S v d → d.solid = true → Dn K S' v d
  | _, _, .non, _ => .non
  | _, _, .bl _, _ => .bl _
  | _, _, .int _, _ => .int _
  | _, _, .str _, _ => .str _
  | _, _, .tup h a, f => .tup (g _ _ h) (DnA.solid g a f)
  | _, _, .kt h a, f => .kt h (DnA.solid g a f)
  | _, _, .raw _, f => absurd f (by intro z; cases z)
  | _, _, .scr _, f => absurd f (by intro z; cases z)
  | _, _, .fn _ _ _ _ _ _ _, f => absurd f (by intro z; cases z)
  | _, _, .lst _ _, f => absurd f (by intro z; cases z)
  | _, _, .dK _ _ _, f => absurd f (by intro z; cases z)
  | _, _, .dT _ _ _, f => absurd f (by intro z; cases z)
  | _, _, .fK _ _ _, f => absurd f (by intro z; cases z)
  | _, _, .fT _ _ _, f => absurd f (by intro z; cases z)
theorem DnA.solid {S S' : Hp} (g : ∀ b vs, S b = some (.tup vs) → S' b = some (.tup vs)) : ∀ {vs : List V} {ds : List D}, DnA K S vs ds → D.solids ds = true → DnA K S' vs ds
  | _, _, .nil, _ => .nil
  | _, _, .cons h a, f => by
    have f' := (Bool.and_eq_true _ _).mp (show (_ && _) = true from f)
    exact .cons (Dn.solid g h f'.1) (DnA.solid g a f'.2)
end
theorem DnA.solidsL {S S' : Hp} (g : ∀ b vs, S b = some (.tup vs) → S' b = some (.tup vs)) : ∀ {vs : List V} {ds : List D}, DnA K S vs ds → (∀ d ∈ ds, d.solid = true) → DnA K S' vs ds
  | _, _, .nil, _ => .nil
  | _, _, .cons h a, f => .cons (h.solid g (f _ List.mem_cons_self)) (a.solidsL g fun d hd => f d (List.mem_cons_of_mem _ hd))
theorem solid_int {i : Int} : (D.int i).solid = true := rfl
theorem solid_str {i : Str} : (D.str i).solid = true := rfl
theorem solid_bl {i : Bool} : (D.bl i).solid = true := rfl
theorem solid_non : D.non.solid = true := rfl
theorem solid_tup {ds : List D} : (D.tup ds).solid = D.solids ds := rfl
theorem solids_nil : D.solids [] = true := rfl
theorem solids_cons {d : D} {ds : List D} : D.solids (d :: ds) = (d.solid && D.solids ds) := rfl
section
variable {X : Cx} {E : EK} {e : Expr} {d : dE} {f : dF} {t : dT}
def dRo (d : dE) : dE := fun _ δ Q => d W0 (roD δ) fun x _ => x.solid = true ∧ Q x δ
def dRoF (f : dF) : dF := fun _ δ Q => f W0 (roD δ) fun xs _ => (∀ x ∈ xs, x.solid = true) ∧ Q xs δ
def dRoT (t : dT) : dT := fun _ δ Q => t W0 (roD δ) fun k _ => Q k δ
theorem de_ro (h : DE X E e d) : DE X E e (dRo d) := ⟨fun B => ⟨fun pins s σ H Q I q => by
  obtain ⟨δ, S, W, Q', R, q, xo, post⟩ := q
  obtain ⟨S1, B1, e1, R1, back⟩ := R.ro
  refine (h.run B1).run pins s σ H Q I ⟨roD δ, S1, W0, _, R1, q, xok0, fun x δ2 v S2 H2 q2 e2 R2 n2 => ?_⟩
  obtain ⟨S3, gg, g3⟩ := back δ2 S2 H2 e2 R2
  have e3 := gg.s
  have R3 := R.grow gg
  exact post _ _ _ _ _ q2.2 e3 R3 (n2.solid g3 q2.1)⟩⟩
theorem df_ro (h : DF X E e f) : DF X E e (dRoF f) := ⟨fun B => ⟨fun pins s σ H Q I q => by
  obtain ⟨δ, S, W, Q', R, q, xo, post⟩ := q
  obtain ⟨S1, B1, e1, R1, back⟩ := R.ro
  refine (h.run B1).run pins s σ H Q I ⟨roD δ, S1, W0, _, R1, q, xok0, fun xs δ2 p vs S2 H2 q2 e2 R2 hp n2 => ?_⟩
  obtain ⟨S3, gg, g3⟩ := back δ2 S2 H2 e2 R2
  have e3 := gg.s
  have R3 := R.grow gg
  exact post _ _ _ _ _ _ q2.2 e3 R3 hp (n2.solidsL g3 q2.1)⟩⟩
theorem dt_ro (h : DT X E e t) : DT X E e (dRoT t) := ⟨fun B => ⟨fun pins s σ H Q I q => by
  obtain ⟨δ, S, W, Q', R, q, xo, post⟩ := q
  obtain ⟨S1, B1, e1, R1, back⟩ := R.ro
  refine (h.run B1).run pins s σ H Q I ⟨roD δ, S1, W0, _, R1, q, xok0, fun k δ2 S2 H2 q2 e2 R2 => ?_⟩
  obtain ⟨S3, gg, g3⟩ := back δ2 S2 H2 e2 R2
  have e3 := gg.s
  have R3 := R.grow gg
  exact post _ _ _ _ q2 e3 R3⟩⟩
variable {E2 : EK} {tg : Expr} {pos : Pos}
theorem ps_pick {st : Stmt} {ι : Type} {t : ι → TS} {t' : TS} (h : ∀ b, PS X st (t b)) (m : ∀ Z σ H, t' Z σ H → ∃ b, t b Z σ H) : PS X st t' := ⟨fun pins s σ H Z I q => by
  obtain ⟨b, q⟩ := m Z σ H q
  exact (h b).run pins s σ H Z I q⟩
theorem ds_setLcRo {i : Nat} {y : Str} {py spos : Pos} {elt iter : Expr} {ifs : List Expr} {scope : Scope} {own : List (Str × Nat)} {w : dI} {g : dG} {tt : dT} {te : dE} {ws : List Nat} (hc : X.calm = true) (hN : X.N.Nodup) (hy : X.N[i]? = some y) (hyl : X.env.scope.names.lookup y = some .local)
    (hsw : swapsWith (.ListComp elt [⟨tg, iter, ifs, 0⟩] scope pos) (some (.Name y py)) spos.line X.env = pure true) (hi : DI X E tg iter w) (ok : BlkOk X.N X.env.scope scope own) (hws : ∀ i ∈ ws, i ∈ own.map (·.2))
    (hg : ∀ (s : Shared) (H : Hp) (C : Addr) (cl : List (Str × Addr)) (fp : List Addr), DG (X.blk s H scope (compEnvC scope cl C X.env) fp) tg g ws) (ht : ∀ (s : Shared) (H : Hp) (C : Addr) (cl : List (Str × Addr)) (fp : List Addr), DTs (X.blk s H scope (compEnvC scope cl C X.env) fp) E2 ifs tt)
    (he : ∀ (s : Shared) (H : Hp) (C : Addr) (cl : List (Str × Addr)) (fp : List Addr), DE (X.blk s H scope (compEnvC scope cl C X.env) fp) E2 elt te) (hs : ∀ x, foldedSetIterable iter X.env x = pure x := by intro _; rfl) :
    DSt X E (.Assign [.Name y py] (.ListComp elt [⟨tg, iter, ifs, 0⟩] scope pos) spos) (dSetF i (dRoF (dLC w g tt te (own.map (·.2))))) := ⟨fun B => ps_pick (fun B1 => ps_setLc hc hN hy hyl hsw (hi.run B1) ok (fun s H C cl fp => exG_ok (hg s H C cl fp)) (fun s H C cl fp => exT_ok (E := E2) (ht s H C cl fp)) (fun s H C cl fp => exE_ok (E := E2) (he s H C cl fp)) hs) fun Z σ H q => by
  obtain ⟨δ, S, W, N, R, q, xo, p1, _⟩ := q
  obtain ⟨S1, B1, e1, R1, back⟩ := R.ro
  refine ⟨B1, lc_read (E2 := E2) hws R1 q xok0 fun xs δ2 p vs S2 H2 q2 e2 R2 hp n2 => ?_⟩
  obtain ⟨S3, gg, g3⟩ := back δ2 S2 H2 e2 R2
  have e3 := gg.s
  have R3 := R.grow gg
  exact p1 _ _ _ _ q2.2 e3 (R3.setOwn hp (n2.solidsL g3 q2.1))⟩
end
end Ev

/-! # len(set(..)) of unlike numbers; sorted(.., reverse=..) -/
namespace Ev
open PySem PySem.Spec PyProof.Rows L2
variable [TabC]
theorem ints_any (x : Int) (m : List Int) : ((m.map D.int).any fun z => z.eq (.int x)) = decide (x ∈ m) := by
  induction m with
  | nil => rfl
  | cons a m ih =>
    rw [List.map_cons, List.any_cons, ih, Ev.eq_int]
    by_cases e : a = x
    · subst e; simp
    · have e2 : ¬ x = a := fun z => e z.symm
      simp [e, e2]
theorem some_map_inj {l m : List Int} (h : l.map some = m.map some) : l = m := (List.map_inj_right (fun _ _ => Option.some.inj)).mp h
variable {K : PySem.W.Frag} {S S' H H' : Hp} {B : Bs} {δ : DS} {σ : L2.St}
section
variable {X : Cx} {E : EK} {e a b c : Expr} {es : List Expr} {pos p p2 q : Pos} {da db : dE} {x : Str}
def dLenSet (d : dE) : dE := fun W δ Q => d W δ fun x δ1 => match x with
  | .lst ds => optQ (intsOf ds) fun ns => ns.Nodup ∧ ns.length ≤ 4000 ∧ Q (.int (ns.length : Nat)) δ1
  | _ => False
theorem de_lenSet (hg : Gl X "len") (hm : X.mg "len" = none) (hg2 : Gl X "set") (hm2 : X.mg "set" = none) (ha : DE X E a da) (hc : X.calm = true := by rfl) (na : starEach [a] X.env = (false, eval a X.env) :: starEach [] X.env := by rfl) :
    DE X E (.Call (.Name "len" p) [.Call (.Name "set" p2) [a] [] q] [] pos) (dLenSet da) := ⟨fun B => pe_mono (RZ.pe_lenSetI hg hm hg2 hm2 (ha.run B) hc na) fun σ H Q q => by
  obtain ⟨δ, S, W, Q', R, q, xo, post⟩ := q
  refine ⟨δ, S, W, _, R, q, xo, fun x δ1 v S1 H1 q1 e1 R1 n1 => ?_⟩
  cases x with
  | lst ds =>
    cases n1 with
    | lst h a =>
      obtain ⟨ns, hn, q1, q2, q3⟩ := optQ_ex q1
      have e := ints_valsD a hn
      subst e
      exact ⟨_, ns, rfl, SqL.of (R1.ex _ _ h), q1, q2, post _ _ _ _ _ q3 e1 R1 (.int _)⟩
  | _ => exact q1.elim⟩
/-! ### sorted with reverse -/
def sortDR (k : Bool) (ds : List D) : List D := ds.mergeSort (PySem.W.dataLe k D.py)
def rSrtR (K : PySem.W.Frag) : List V → List V → Hp → VK → Prop := fun vs zs H Q => ∃ S ds k, Sb S H ∧ DnA K S vs [.lst ds] ∧ zs = [.bl k] ∧ srtOk ds ∧ ∀ ws p, H p = none → DnA K S ws (sortDR k ds) → Q (.ref p) (upd H p (.lst ws))
theorem cr_sortR (hu : X.A.units + 66 < cLine) : CallRK X (.builtin "sorted") [Str.ofString "reverse"] (rSrtR X.K) := by
  intro pins s σ H vs zs us ws Q I r rz ⟨S, ds, k, ex, n, e0, ok, q⟩
  subst e0
  obtain ⟨v, rfl, n1⟩ := n.one
  obtain ⟨u, rfl, ru⟩ := vals1 r
  obtain ⟨w1, rfl, e1⟩ := vals1 rz
  obtain rfl : w1 = Value.bool k := e1
  cases n1 with
  | lst h a =>
    obtain rfl : u = Value.ref _ := ru
    obtain ⟨its, rv, hl, hz⟩ := I.list (SqL.of (ex _ _ h))
    obtain ⟨l, dp, al, so, hz2⟩ := ok
    refine PySem.W.sorted_rev_data (R := fun u d => ∃ v, RelV v u ∧ Dn X.K S v d) (enc := D.py) hl.isList (each_dn rv a) (each_reads I ex rv a l) al so hz2 (fun d hd => by rw [D.py_dep]; have := dp d hd; omega) fun out ho eo => ?_
    obtain ⟨ws2, rw_, aw⟩ := dn_each eo
    obtain ⟨ep, he'⟩ := PyProof.Rows.sortedAll_at s.heap its (List.toArray out)
    exact ⟨.ref _, upd H (s.heap.objs.size + 1) (.lst ws2), I.laid (t' := s.toks) (fun _ _ => PyProof.Rows.sortedAll_old) (Nat.le_succ _) ⟨by rw [rw_.length, ho]; exact hz2, out, ep, rw_, he'⟩, rfl, q ws2 _ (I.hok.fresh (Nat.le_succ _)) aw⟩
def dSrtR (k : Bool) (a : dA) : dF := fun W δ Q => a W δ fun xs δ1 => match xs with | [.lst ds] => srtOk ds ∧ Q (sortDR k ds) δ1 | _ => False
theorem df_sortR {k : Bool} {ta : dA} {kp cp : Pos} {j} (hu : X.A.units + 66 < cLine) (hg : Gl X "sorted") (hm : X.mg "sorted" = none) (ha : DA X E (e :: es) ta)
    (he : backTo pos (starEach (e :: es) X.env) = (false, eval e X.env) :: backTo pos (starEach es X.env) := by rfl) (hpl : (backTo pos (starEach (e :: es) X.env)).any (·.1) = false := by rfl) :
    DF X E (.Call (.Name "sorted" p) (e :: es) [⟨some "reverse", .Constant (.bool k) j cp, kp⟩] pos) (dSrtR k ta) := ⟨fun B => pe_mono (pe_callBK (cr_sortR hu) hg hm (by decide +kernel) (ha.run B) (pk_cons pe_bl pk_nil) (by decide) (by decide) he hpl) fun σ H Q q => by
  obtain ⟨δ, S, W, Q', R, q, xo, post⟩ := q
  refine ⟨δ, S, W, _, R, q, xo, fun xs δ1 vs S1 H1 q1 e1 R1 n1 => ?_⟩
  match xs, q1, n1 with
  | [.lst ds], q1, n1 => exact (⟨S1, ds, k, R1.ex, n1, rfl, q1.1, fun ws p hp aw => post _ _ _ _ _ _ q1.2 e1 R1 hp aw⟩ : rSrtR X.K vs [.bl k] H1 Q)⟩
/-- a pen by its name: a list of one's own becomes the pen -/
def dPen1 (i : Nat) : dE := fun _ δ Q => match δ.sl[i]? with
  | some (.own xs) => (∃ (q : Nat) (ns : List Int), δ.sl[q]? = some (.law ns)) ∧ ∃ (ns : List Int) (k m : Int) (c : Nat), xs = penD ns k m ∧ ns.length ≤ 63 ∧ 0 ≤ k ∧ k ≤ c ∧ 0 ≤ m ∧ ∀ p, Q (.raw (.ref p)) { setSl δ i (.dat (.raw (.ref p))) with pen := some (p, c) }
  | some (.dat d) => Q d δ
  | _ => False
theorem de_pen1 {i : Nat} (h : PE X (.Name x p) (tVar i)) : DE X E (.Name x p) (dPen1 i) := ⟨fun B => pe_mono h fun σ H Q q => by
  obtain ⟨δ, S, W, Q', R, q, xo, post⟩ := q
  unfold dPen1 at q
  split at q
  · rename_i xs e1
    obtain ⟨⟨ql, nl, hl⟩, ns, k, m, c, rfl, w1, w2, w3, w4, q⟩ := q
    obtain ⟨p, hp, R1⟩ := R.promote (R.law hl).1 e1 w1 w2 w3 w4
    exact ⟨_, hp, post _ _ _ _ _ (q p) (Ex.refl _) R1 (.raw _)⟩
  · rename_i d hd
    obtain ⟨v, e1, e2⟩ := R.dat hd
    exact ⟨v, e1, post _ _ _ _ _ q (Ex.refl _) R e2⟩
  · exact q.elim⟩
end
end Ev

/-! # max, min; reverse; dict displays; get; a list that changes its name; a def's own defaults -/
namespace Ev
open PySem PySem.Spec PyProof.Rows L2
variable [TabC]
variable {K : PySem.W.Frag} {S S' H H' : Hp} {B : Bs} {δ : DS} {σ : L2.St}
section
variable {X : Cx} {E : EK} {e a b c : Expr} {es : List Expr} {pos p p2 q ap cp : Pos} {da db dd : dE} {x y : Str}
/-! ### max, min -/
def maxI : Int → List Int → Int
  | m, [] => m
  | m, n :: ns => maxI (if n > m then n else m) ns
def minI : Int → List Int → Int
  | m, [] => m
  | m, n :: ns => minI (if n < m then n else m) ns
theorem maxI_ge : ∀ (ns : List Int) (m : Int), m ≤ maxI m ns ∧ ∀ y ∈ ns, y ≤ maxI m ns
  | [], m => ⟨Int.le_refl _, fun _ h => nomatch h⟩
  | n :: ns, m => by
    obtain ⟨h1, h2⟩ := maxI_ge ns (if n > m then n else m)
    have h0 : m ≤ (if n > m then n else m) ∧ n ≤ (if n > m then n else m) := by split <;> omega
    refine ⟨Int.le_trans h0.1 h1, fun y hy => ?_⟩
    rcases List.mem_cons.mp hy with rfl | hy
    · exact Int.le_trans h0.2 h1
    · exact h2 y hy
theorem maxI_mem : ∀ (ns : List Int) (m : Int), maxI m ns = m ∨ maxI m ns ∈ ns
  | [], m => .inl rfl
  | n :: ns, m => by
    show maxI (if n > m then n else m) ns = m ∨ maxI (if n > m then n else m) ns ∈ n :: ns
    rcases maxI_mem ns (if n > m then n else m) with h | h
    · rw [h]
      split
      · exact .inr List.mem_cons_self
      · exact .inl rfl
    · exact .inr (List.mem_cons_of_mem _ h)
theorem minI_le : ∀ (ns : List Int) (m : Int), minI m ns ≤ m ∧ ∀ y ∈ ns, minI m ns ≤ y
  | [], m => ⟨Int.le_refl _, fun _ h => nomatch h⟩
  | n :: ns, m => by
    obtain ⟨h1, h2⟩ := minI_le ns (if n < m then n else m)
    have h0 : (if n < m then n else m) ≤ m ∧ (if n < m then n else m) ≤ n := by split <;> omega
    refine ⟨Int.le_trans h1 h0.1, fun y hy => ?_⟩
    rcases List.mem_cons.mp hy with rfl | hy
    · exact Int.le_trans h1 h0.2
    · exact h2 y hy
theorem minI_mem : ∀ (ns : List Int) (m : Int), minI m ns = m ∨ minI m ns ∈ ns
  | [], m => .inl rfl
  | n :: ns, m => by
    show minI (if n < m then n else m) ns = m ∨ minI (if n < m then n else m) ns ∈ n :: ns
    rcases minI_mem ns (if n < m then n else m) with h | h
    · rw [h]
      split
      · exact .inr List.mem_cons_self
      · exact .inl rfl
    · exact .inr (List.mem_cons_of_mem _ h)
def rMaxD : DRC := fun xs Q => match xs with
  | [.int i, .int j] => Q (.int (if j > i then j else i))
  | [.lst ds] => optQ (intsOf ds) fun ns => match ns with | [] => False | n :: ns => Q (.int (maxI n ns))
  | _ => False
def rMinD : DRC := fun xs Q => match xs with
  | [.int i, .int j] => Q (.int (if j < i then j else i))
  | [.lst ds] => optQ (intsOf ds) fun ns => match ns with | [] => False | n :: ns => Q (.int (minI n ns))
  | _ => False
theorem cd_max (hc : X.calm = true) : CallR X (.builtin "max") (liftC X.K rMaxD) := fun pins s σ H vs us Q I r ⟨S, ds, Q', ex, n, q, post⟩ => by
  match ds, n, q with
  | [.int i, .int j], n, q =>
    obtain ⟨v1, v2, rfl, d1, d2⟩ := n.two
    cases d1; cases d2
    exact call_max2 hc pins s σ H _ us Q I r ⟨i, j, rfl, post _ _ _ _ q (Grow.refl ex) (.int _)⟩
  | [.lst ds], n, q =>
    obtain ⟨v, rfl, n1⟩ := n.one
    cases n1 with
    | lst h a =>
      obtain ⟨ns, hn, q⟩ := optQ_ex q
      have e := ints_valsD a hn
      subst e
      match ns, q, a, h with
      | n :: ns, q, a, h =>
        refine cr_max hc pins s σ H _ us Q I r ⟨_, n :: ns, rfl, SqL.of (ex _ _ h), by simp, fun m hm hy => ?_⟩
        have h1 := maxI_ge ns n
        have h2 := maxI_mem ns n
        have h3 : maxI n ns ∈ n :: ns := by
          rcases h2 with h2 | h2
          · rw [h2]; exact List.mem_cons_self
          · exact List.mem_cons_of_mem _ h2
        have e : m = maxI n ns := by
          have k1 := hy _ h3
          have k2 : m ≤ maxI n ns := by
            rcases List.mem_cons.mp hm with rfl | hm
            · exact h1.1
            · exact h1.2 m hm
          omega
        subst e
        exact post _ _ _ _ q (Grow.refl ex) (.int _)
theorem cd_min (hc : X.calm = true) : CallR X (.builtin "min") (liftC X.K rMinD) := fun pins s σ H vs us Q I r ⟨S, ds, Q', ex, n, q, post⟩ => by
  match ds, n, q with
  | [.int i, .int j], n, q =>
    obtain ⟨v1, v2, rfl, d1, d2⟩ := n.two
    cases d1; cases d2
    exact call_min2 hc pins s σ H _ us Q I r ⟨i, j, rfl, post _ _ _ _ q (Grow.refl ex) (.int _)⟩
  | [.lst ds], n, q =>
    obtain ⟨v, rfl, n1⟩ := n.one
    cases n1 with
    | lst h a =>
      obtain ⟨ns, hn, q⟩ := optQ_ex q
      have e := ints_valsD a hn
      subst e
      match ns, q, a, h with
      | n :: ns, q, a, h =>
        refine cr_min hc pins s σ H _ us Q I r ⟨_, n :: ns, rfl, SqL.of (ex _ _ h), by simp, fun m hm hy => ?_⟩
        have h1 := minI_le ns n
        have h2 := minI_mem ns n
        have h3 : minI n ns ∈ n :: ns := by
          rcases h2 with h2 | h2
          · rw [h2]; exact List.mem_cons_self
          · exact List.mem_cons_of_mem _ h2
        have e : m = minI n ns := by
          have k1 := hy _ h3
          have k2 : minI n ns ≤ m := by
            rcases List.mem_cons.mp hm with rfl | hm
            · exact h1.1
            · exact h1.2 m hm
          omega
        subst e
        exact post _ _ _ _ q (Grow.refl ex) (.int _)
/-! ### name.reverse() -/
def dReverse (i : Nat) : dE := fun _ δ Q => optQ (ownAt δ i) fun ds => Q .non (setOwnAt δ i ds.reverse)
theorem de_reverse {i : Nat} (hv : PE X (.Name x p) (tVar i)) (hbase : attributeBase (.Name x p) "reverse" X.env (eval (.Name x p) X.env) = eval (.Name x p) X.env := by rfl) (hline : (ap.endLine == cp.line) = true := by rfl) :
    DE X E (.Call (.Attribute (.Name x p) "reverse" ap) [] [] cp) (dReverse i) := ⟨fun B => pe_mono (pe_bm0 PySem.F.plainAttrs_list PySem.F.slot_list_reverse PySem.F.type_list_reverse mt_reverse hv hbase hline) fun σ H Q q => by
    obtain ⟨δ, S, W, Q', R, q, xo, post⟩ := q
    obtain ⟨ds, h1, q⟩ := optQ_ex q
    obtain ⟨p', vs, v1, g1, a1, _, put⟩ := R.ownAt h1
    exact ⟨.ref p', v1, tyL g1, p', vs, rfl, rfl, g1, post _ _ _ _ _ q (Ex.refl _) (put _ _ a1.reverse) .non⟩⟩
/-! ### name = name: the list goes along -/
theorem Rel.move (R : Rel K B δ S σ H) {i j : Nat} {ds : List D} (hi : i < δ.sl.length) (hij : i ≠ j) (hj : δ.sl[j]? = some (.own ds)) : ∃ p, σ[j]? = some (some (.ref p)) ∧ Rel K B { δ with sl := (δ.sl.set j .un).set i (.own ds) } S (σ.set i (some (.ref p))) H := by
  obtain ⟨ow, h1, h2, h3, h4⟩ := id R.sl
  obtain ⟨p, vs, r1, r2, r3, r4, r5, r6⟩ := h1 j _ hj
  refine ⟨p, r4, R.ex, R.fr, R.pen, R.pa, by simpa using R.len, fun k => if k = i then some p else if k = j then none else ow k, fun k x e => ?_, fun k hk => ?_, fun k l a e1 e2 => ?_, fun k a e => ?_⟩
  · rcases get_set e with ⟨rfl, rfl⟩ | ⟨ne, e⟩
    · simp only [if_true]
      exact ⟨p, vs, rfl, r2, r3, by rw [List.getElem?_set_self (by rw [R.len]; exact hi)], r5, r6⟩
    · rw [List.getElem?_set_ne (Ne.symm ne)]
      simp only [ne, if_false]
      rcases get_set e with ⟨rfl, rfl⟩ | ⟨ne2, e⟩
      · simp only [if_true]; exact rfl
      · simp only [ne2, if_false]
        exact h1 k x e
  · have hk' : δ.sl.length ≤ k := by simpa using hk
    have n1 : k ≠ i := by omega
    simp only [n1, if_false]
    split
    · rfl
    · exact h2 k hk'
  · have e1 : (if k = i then some p else if k = j then none else ow k) = some a := e1
    have e2 : (if l = i then some p else if l = j then none else ow l) = some a := e2
    split at e1
    · cases e1
      split at e2
      · omega
      · split at e2
        · cases e2
        · rename_i n
          exact absurd (h3 l j p e2 r1) n
    · split at e1
      · cases e1
      · rename_i n1 n2
        split at e2
        · cases e2
          exact absurd (h3 k j p e1 r1) n2
        · split at e2
          · cases e2
          · exact h3 k l a e1 e2
  · have e : (if k = i then some p else if k = j then none else ow k) = some a := e
    split at e
    · cases e
      exact h4 j p r1
    · split at e
      · cases e
      · exact h4 k a e
def dMove (i j : Nat) : dS := fun _ N δ => match δ.sl[i]?, δ.sl[j]? with
  | some _, some (.own ds) => i ≠ j ∧ N.nx { δ with sl := (δ.sl.set j .un).set i (.own ds) }
  | _, _ => False
theorem ds_move {i j : Nat} (hN : X.N.Nodup) (hi : X.N[i]? = some x) (hv : X.env.scope.names.lookup x = some .local ∨ X.env.scope.names.lookup x = some .cell) (h : PE X (.Name y p2) (tVar j)) (hs : swapsWith (.Name y p2) (some (.Name x p)) pos.line X.env = pure false := by rfl) (hf : X.fn x = true ∨ X.env.scope.names.lookup x = some .local := by first | exact .inl rfl | exact .inr rfl | assumption) :
    DSt X E (.Assign [.Name x p] (.Name y p2) pos) (dMove i j) := ⟨fun B => ps_mono (ps_set hN hi hv h hs hf) fun Z σ H q => by
  obtain ⟨δ, S, W, N, R, q, xo, p1, _⟩ := q
  unfold dMove at q
  split at q
  · rename_i x0 ds e1 e2
    obtain ⟨pp, g1, R2⟩ := R.move (List.getElem?_eq_some_iff.mp e1).1 q.1 e2
    exact ⟨_, g1, p1 _ _ _ _ q.2 (Ex.refl _) R2⟩
  · exact q.elim⟩
/-! ### d.get(k, x), d of data -/
def D.isD : D → Bool | .dK _ => true | .dT _ => true | .fK _ => true | .fT _ => true | _ => false
def getD2 : D → D → Option (Option D)
  | .dK es, y => y.key.map fun k => valD es k
  | .dT es, y => y.keyT.map fun k => valD es k
  | .fK es, y => y.key.map fun k => valD es k
  | .fT es, y => y.keyT.map fun k => valD es k
  | _, _ => none
def dDGet2 (d dk dx : dE) : dE := fun W δ Q => d W δ fun dd δ1 => dd.isD = true ∧ dk W δ1 fun y δ2 => dx W δ2 fun z δ3 => optQ (getD2 dd y) fun r => Q (r.getD z) δ3
theorem getD_read {a : Addr} {u : V} {dd y : D} {r : Option D} (h : Dn K S (.ref a) dd) (n : Dn K S u y) (sb : Sb S H) (e : getD2 dd y = some r) : ∃ o, DGet H a u o ∧ ((o = none ∧ r = none) ∨ ∃ v d, o = some v ∧ r = some d ∧ Dn K S v d) := by
  cases h with
  | dK h1 h2 h3 =>
    simp only [getD2, Option.map_eq_some_iff] at e
    obtain ⟨k, e1, rfl⟩ := e
    have := n.key e1
    subst this
    exact ⟨_, .inl ⟨_, k, .inl (sb.ex _ _ h1), rfl, rfl⟩, KvR.get ⟨h2, h3⟩⟩
  | dT h1 h2 h3 =>
    simp only [getD2, Option.map_eq_some_iff] at e
    obtain ⟨k, e1, rfl⟩ := e
    obtain ⟨b, rfl, hb⟩ := n.keyT e1
    exact ⟨_, .inr ⟨_, k, b, .inl (sb.ex _ _ h1), rfl, sb.ex _ _ hb, rfl⟩, KvR.get ⟨h2, h3⟩⟩
  | fK h1 h2 h3 =>
    simp only [getD2, Option.map_eq_some_iff] at e
    obtain ⟨k, e1, rfl⟩ := e
    have := n.key e1
    subst this
    exact ⟨_, .inl ⟨_, k, .inr ⟨_, sb.ex _ _ h1⟩, rfl, rfl⟩, KvR.get ⟨h2, h3⟩⟩
  | fT h1 h2 h3 =>
    simp only [getD2, Option.map_eq_some_iff] at e
    obtain ⟨k, e1, rfl⟩ := e
    obtain ⟨b, rfl, hb⟩ := n.keyT e1
    exact ⟨_, .inr ⟨_, k, b, .inr ⟨_, sb.ex _ _ h1⟩, rfl, sb.ex _ _ hb, rfl⟩, KvR.get ⟨h2, h3⟩⟩
  | _ => cases e
theorem de_get2 {o k f : Expr} {dk dx : dE} (hu : X.A.units + 1 < cLine) (ho : DE X E o dd) (hk : DE X E k dk) (hf : DE X E f dx) (m : M2 X o "get" ap k f cp) : DE X E (.Call (.Attribute o "get" ap) [k, f] [] cp) (dDGet2 dd dk dx) := ⟨fun B => pe_mono (pe_dget2 hu (ho.run B) (hk.run B) (hf.run B) m) fun σ H Q q => by
  obtain ⟨δ, S, W, Q', R, q, xo, post⟩ := q
  refine ⟨δ, S, W, _, R, q, xo, fun x δ1 v S1 H1 q1 e1 R1 n1 => ?_⟩
  obtain ⟨hd, q1⟩ := q1
  obtain ⟨a, rfl, isd⟩ : ∃ a, v = .ref a ∧ IsD H1 a := by
    cases n1 with
    | dK h _ _ => exact ⟨_, rfl, .inl ⟨_, .inl (R1.ex.ex _ _ h)⟩⟩
    | dT h _ _ => exact ⟨_, rfl, .inr ⟨_, .inl (R1.ex.ex _ _ h)⟩⟩
    | fK h _ _ => exact ⟨_, rfl, .inl ⟨_, .inr ⟨_, R1.ex.ex _ _ h⟩⟩⟩
    | fT h _ _ => exact ⟨_, rfl, .inr ⟨_, .inr ⟨_, R1.ex.ex _ _ h⟩⟩⟩
    | _ => cases hd
  refine ⟨a, rfl, isd, δ1, S1, W, _, R1, q1, xo.mono e1, fun y δ2 u S2 H2 q2 e2 R2 n2 => ?_⟩
  refine ⟨δ2, S2, W, _, R2, q2, (xo.mono e1).mono e2, fun z δ3 w S3 H3 q3 e3 R3 n3 => ?_⟩
  obtain ⟨r, hr, q3⟩ := optQ_ex q3
  obtain ⟨o, g1, g2⟩ := getD_read (n1.mono (e2.trans e3)) (n2.mono e3) R3.ex hr
  refine ⟨o, g1, ?_⟩
  rcases g2 with ⟨rfl, rfl⟩ | ⟨v, d, rfl, rfl, nd⟩
  · exact post _ _ _ _ _ q3 ((e1.trans e2).trans e3) R3 n3
  · exact post _ _ _ _ _ q3 ((e1.trans e2).trans e3) R3 nd⟩
/-! ### dict(..) of a list of pairs -/
def mergeD (kvs more : List (Key × D)) : List (Key × D) := more.foldl (fun acc kv => putD acc kv.1 kv.2) kvs
def pairsOf : List D → Option (List (Key × D))
  | [] => some []
  | .tup [k, v] :: r => match k.key, pairsOf r with | some kk, some l => some ((kk, v) :: l) | _, _ => none
  | _ :: _ => none
theorem KvR.merge : ∀ {more : List (Key × V)} {ms : List (Key × D)} {kvs : List (Key × V)} {es : List (Key × D)}, KvR K S more ms → KvR K S kvs es → KvR K S (mergeK kvs more) (mergeD es ms)
  | [], [], _, _, _, h => h
  | p :: ps, q :: qs, kvs, es, ⟨g1, g2⟩, h => by
    have e1 : p.1 = q.1 := (List.cons.inj g1).1
    cases g2 with
    | cons d1 d2 =>
      have hp : KvR K S (putK kvs p.1 p.2) (putD es q.1 q.2) := by rw [e1]; exact h.put d1 q.1
      exact KvR.merge (more := ps) (ms := qs) ⟨(List.cons.inj g1).2, d2⟩ hp
  | [], q :: qs, _, _, ⟨g1, _⟩, _ => nomatch g1
  | p :: ps, [], _, _, ⟨g1, _⟩, _ => nomatch g1
theorem pairs_read (sb : Sb S H) : ∀ {vs : List V} {ds : List D} {kvs : List (Key × D)}, DnA K S vs ds → pairsOf ds = some kvs → ∃ (ps : List Addr) (ks : List (Key × V)), vs = ps.map V.ref ∧ Paired (fun p kv => SqT K H p [kV kv.1, kv.2]) ps ks ∧ KvR K S ks kvs
  | _, _, _, .nil, e => by cases e; exact ⟨[], [], rfl, .nil, rfl, .nil⟩
  | _, _, _, .cons (d := .tup [k, x]) (ds := r) h a, e => by
    unfold pairsOf at e
    split at e
    · rename_i kk l e1 e2
      cases e
      obtain ⟨ps, ks, rfl, hp, hk⟩ := pairs_read sb a e2
      cases h with
      | tup h1 h2 =>
        obtain ⟨v1, v2, rfl, n1, n2⟩ := h2.two
        have := n1.key e1
        subst this
        exact ⟨_ :: ps, (kk, v2) :: ks, rfl, .cons (.inl (.inl (sb.ex _ _ h1))) hp, congrArg (kk :: ·) hk.1, .cons n2 hk.2⟩
    · cases e
  | _, _, _, .cons (d := .tup []) _ _, e => nomatch e
  | _, _, _, .cons (d := .tup [_]) _ _, e => nomatch e
  | _, _, _, .cons (d := .tup (_ :: _ :: _ :: _)) _ _, e => nomatch e
  | _, _, _, .cons (d := .non) _ _, e => nomatch e
  | _, _, _, .cons (d := .bl _) _ _, e => nomatch e
  | _, _, _, .cons (d := .int _) _ _, e => nomatch e
  | _, _, _, .cons (d := .str _) _ _, e => nomatch e
  | _, _, _, .cons (d := .lst _) _ _, e => nomatch e
  | _, _, _, .cons (d := .dK _) _ _, e => nomatch e
  | _, _, _, .cons (d := .dT _) _ _, e => nomatch e
  | _, _, _, .cons (d := .raw _) _ _, e => nomatch e
  | _, _, _, .cons (d := .scr _) _ _, e => nomatch e
  | _, _, _, .cons (d := .fn _ _) _ _, e => nomatch e
  | _, _, _, .cons (d := .kt _) _ _, e => nomatch e
def rDictP : DRC := fun xs Q => match xs with
  | [.lst ds] => optQ (pairsOf ds) fun kvs => Q (.dK (mergeD [] kvs))
  | _ => False
theorem cd_dictP (hc : X.calm = true) : CallR X (.type "dict") (liftC X.K rDictP) := fun pins s σ H vs us Q I r ⟨S, ds, Q', ex, n, q, post⟩ => by
  match ds, n, q with
  | [.lst ds], n, q =>
    obtain ⟨v, rfl, n1⟩ := n.one
    cases n1 with
    | lst h a =>
      obtain ⟨kvs, hk, q⟩ := optQ_ex q
      obtain ⟨ps, ks, rfl, hp, hr⟩ := pairs_read ex a hk
      refine call_dictP hc pins s σ H _ us Q I r ⟨_, ps, ks, rfl, SqL.of (ex _ _ h), hp, fun p hn => ?_⟩
      have g := Grow.new (o := .dK (mergeK [] ks)) ex hn
      have m : KvR X.K S (mergeK [] ks) (mergeD [] kvs) := KvR.merge hr ⟨rfl, .nil⟩
      exact post _ _ _ _ q g (.dK upd_same m.1 (m.2.mono g.s))
/-! ### dict displays: keys, values only looked at -/
def dPairs : List (dE × dE) → XW → DS → (List (D × D) → DS → Prop) → Prop
  | [], _, δ, Q => Q [] δ
  | (k, v) :: r, W, δ, Q => k W δ fun x δ1 => v W δ1 fun y δ2 => dPairs r W δ2 fun ps δ3 => Q ((x, y) :: ps) δ3
def keysD : List (D × D) → Option (List (Key × D))
  | [] => some []
  | (k, v) :: r => match k.key, keysD r with | some kk, some l => some ((kk, v) :: l) | _, _ => none
def dDisp (prs : List (dE × dE)) : dE := fun W δ Q => dPairs prs W0 (roD δ) fun ps _ => optQ (keysD ps) fun kvs => kvs.length ≤ 15 ∧ (∀ kv ∈ kvs, kv.2.solid = true) ∧ Q (.dK (mergeD [] kvs)) δ
inductive DPs (X : Cx) (E : EK) : List (Option Expr) → List Expr → List (dE × dE) → Prop where
  | nil : DPs X E [] [] []
  | cons {k v : Expr} {ks : List (Option Expr)} {vs : List Expr} {dk dv : dE} {r : List (dE × dE)} : DE X E k dk → DE X E v dv → DPs X E ks vs r → DPs X E (some k :: ks) (v :: vs) ((dk, dv) :: r)
def liftX (K : PySem.W.Frag) (E : EK) (d : dE) : TE := fun σ H Q => ∃ B, liftE K B E d σ H Q
theorem DE.runX (h : DE X E e da) : PE X e (liftX X.K E da) := ⟨fun pins s σ H Q I ⟨B, q⟩ => (h.run B).run pins s σ H Q I q⟩
theorem DPs.pps {ks : List (Option Expr)} {vs : List Expr} {r : List (dE × dE)} (h : DPs X E ks vs r) : PPs X pos ks vs (r.map fun t => (liftX X.K E t.1, liftX X.K E t.2)) := by
  induction h with
  | nil => exact pps_nil
  | cons a b _ ih => exact pps_cons a.runX b.runX ih
theorem pairs_lift : ∀ (r : List (dE × dE)) {δ : DS} {S H : Hp} {W : XW} {Q1 : List (D × D) → DS → Prop} {Q : List (V × V) → Hp → Prop}, Rel K B δ S σ H → XOk K B E W S → dPairs r W δ Q1 →
    (∀ ps δ' S' H' vs, Q1 ps δ' → Ex S S' → Rel K B δ' S' σ H' → DnA K S' (vs.map (·.1)) (ps.map (·.1)) → DnA K S' (vs.map (·.2)) (ps.map (·.2)) → Q vs H') → tPairs (r.map fun t => (liftX K E t.1, liftX K E t.2)) σ H Q
  | [], δ, S, H, W, Q1, Q, R, xo, q, post => post [] δ S H [] q (Ex.refl _) R .nil .nil
  | (k, v) :: r, δ, S, H, W, Q1, Q, R, xo, q, post => by
    refine ⟨B, δ, S, W, _, R, q, xo, fun x δ1 u S1 H1 q1 e1 R1 n1 => ?_⟩
    refine ⟨B, δ1, S1, W, _, R1, q1, xo.mono e1, fun y δ2 w S2 H2 q2 e2 R2 n2 => ?_⟩
    exact pairs_lift r R2 ((xo.mono e1).mono e2) q2 fun ps δ3 S3 H3 vs q3 e3 R3 a1 a2 => post _ _ _ _ ((u, w) :: vs) q3 ((e1.trans e2).trans e3) R3 (.cons (n1.mono (e2.trans e3)) a1) (.cons (n2.mono e3) a2)
theorem keys_read : ∀ {vs : List (V × V)} {ps : List (D × D)} {kvs : List (Key × D)}, DnA K S (vs.map (·.1)) (ps.map (·.1)) → DnA K S (vs.map (·.2)) (ps.map (·.2)) → keysD ps = some kvs → ∃ ks : List (Key × V), vs = ks.map (fun kv => (kV kv.1, kv.2)) ∧ KvR K S ks kvs
  | [], [], _, _, _, e => by cases e; exact ⟨[], rfl, rfl, .nil⟩
  | (v1, v2) :: vs, (k, x) :: ps, _, .cons h1 a1, .cons h2 a2, e => by
    unfold keysD at e
    split at e
    · rename_i kk l e1 e2
      cases e
      obtain ⟨ks, rfl, hk⟩ := keys_read a1 a2 e2
      have := Dn.key h1 e1
      simp only at this
      subst this
      exact ⟨(kk, v2) :: ks, rfl, congrArg (kk :: ·) hk.1, .cons h2 hk.2⟩
    · cases e
theorem KvR.solid {ks : List (Key × V)} {kvs : List (Key × D)} (g : ∀ b vs, S b = some (.tup vs) → S' b = some (.tup vs)) (h : KvR K S ks kvs) (f : ∀ kv ∈ kvs, kv.2.solid = true) : KvR K S' ks kvs :=
  ⟨h.1, h.2.solidsL g fun d hd => by obtain ⟨kv, hkv, rfl⟩ := List.mem_map.mp hd; exact f kv hkv⟩
theorem de_disp {keys : List (Option Expr)} {values : List Expr} {prs : List (dE × dE)} (h : DPs X E keys values prs) (hall : keys.all (·.isSome) = true) (hl : keys.length = values.length) (h0 : keys ≠ []) (h15 : keys.length ≤ 15) : DE X E (.Dict keys values pos) (dDisp prs) := ⟨fun B => ⟨fun pins s σ H Q I q => by
  obtain ⟨δ, S, W, Q', R, q, xo, post⟩ := q
  refine (pe_disp h.pps hall hl h0 h15).run pins s σ H Q I fun p hp => ?_
  have sp : S p = none := R.ex.none hp
  have g0 : Grow S H S (upd H p (.dK [])) := ⟨Ex.refl _, Ext.of (Ex.new hp), R.ex.one hp (fun _ z => nomatch z), fun _ _ _ n => n⟩
  obtain ⟨f1, f2⟩ := R.fr.fresh hp
  have R' := R.grow g0
  obtain ⟨S1, B1, e1, R1, back⟩ := R'.ro
  refine pairs_lift prs R1 xok0 q fun ps δ' S2 H2 vs q2 e2 R2 a1 a2 => ?_
  obtain ⟨kvs, hk, q3, q4, q5⟩ := optQ_ex q2
  obtain ⟨ks, ek, hr⟩ := keys_read a1 a2 hk
  obtain ⟨S3, gg, g3⟩ := back δ' S2 H2 e2 R2
  have hr3 := hr.solid g3 q4
  have hp2 : H2 p = some (.dK []) := gg.h.pl upd_same
  have sp3 : S3 p = none := gg.no p _ upd_same sp
  have nt : ∀ vs, HO.dK (mergeK [] ks) ≠ .tup vs := fun _ z => nomatch z
  have g : Grow S H (upd S3 p (.dK (mergeK [] ks))) (upd H2 p (.dK (mergeK [] ks))) := by
    refine ⟨fun a o h => ?_, ⟨fun a o h nt => ?_, fun a ps h => ?_⟩, ⟨fun a o h => ?_, fun a vs h => ?_, gg.ok.tb.at_ p (fun b u n h => by rw [upd_ne n]; exact h) (fun u z => by rw [hp2] at z; cases z; rfl) fun b n z => by rw [upd_ne n]; exact z⟩, fun a o h n => ?_⟩
    · rw [upd_ne (ne_of_none h sp)]; exact gg.s _ _ h
    · have ne := ne_of_none h hp
      rw [upd_ne ne]; exact gg.h.h _ _ (by rw [upd_ne ne]; exact h) nt
    · have ne := ne_of_none h hp
      obtain ⟨qs, z⟩ := gg.h.t a ps (by rw [upd_ne ne]; exact h)
      exact ⟨qs, by rw [upd_ne ne]; exact z⟩
    · by_cases e : a = p
      · subst e; rw [upd_same] at h ⊢; exact h
      · rw [upd_ne e] at h ⊢; exact gg.ok.ex _ _ h
    · by_cases e : a = p
      · subst e; rw [upd_same] at h; exact absurd (Option.some.inj h) (nt vs)
      · rw [upd_ne e] at h ⊢; exact gg.ok.tp _ _ h
    · have ne := ne_of_none h hp
      rw [upd_ne ne]; exact gg.no a o (by rw [upd_ne ne]; exact h) n
  have m : KvR X.K S3 (mergeK [] ks) (mergeD [] kvs) := KvR.merge hr3 ⟨rfl, .nil⟩
  have hlen : ks.length ≤ 15 := by have := congrArg List.length hr.1; simp only [List.length_map] at this; omega
  exact ⟨hp2, ks, ek, hlen, post _ _ _ _ _ q5 g.s (R.grow g) (.dK upd_same m.1 (m.2.mono (Ex.new sp3)))⟩⟩⟩
/-! ### keyword-only parameters with a default -/
theorem kwbinds {fd : FuncData} {ps : List Str} {D : Addr} {nm : Str} {u : Value} (n : Nat) (hps : ps.length = n + 1) (hX : PySem.W.nsIn K D nm = some (some u))
    (h : ∀ us : List Value, us.length = n → KwChain D [(nm, u)] (bindArgs fd ⟨us, []⟩) (ps.zip (us ++ [u]))) : Binds K fd ps [u] := fun s us kin hl => by
  refine BindsTo.of_looks fun M => KwChain.looks kin (fun q hq => ?_) (h us ?_)
  · rw [List.mem_singleton] at hq; subst hq; exact hX
  · rw [List.length_append, List.length_singleton, hps] at hl; omega
end
end Ev

/-! # a, b, *c = a tuple -/
namespace Ev
open PySem PySem.Spec PyProof.Rows L2
variable [TabC]
section
variable {prog : Program} {w : World} {A : Around} {E : Value → Shared → Prop} {s : Shared}
/-- what is left of a tuple's iterator, collected: the heap is not smaller behind -/
theorem collect_tupIter {I : Addr} {fp wr : List Addr} {G : Array GenState → Array GenState → Prop} {n : Nat} {P : Nat → Value → Prop} {St : Nat → Shared → Prop} {Q : List Value → Shared → Prop}
    (W : WalksS prog w A.in1 I fp wr G n P St) (hT : ∀ i s, St i s → s.TypeIs (.ref I) "tuple_iterator") (hst : St 0 s) (hfp : ∀ b ∈ fp, b < s.heap.objs.size) (hI : I ∈ fp)
    (hQ : ∀ s' acc, Moved wr G s s' → s.heap.objs.size ≤ s'.heap.objs.size → ItemsOf P acc n → Q acc.toList s') (hn : n ≤ sizeLine) : wpAny (model prog w) A (collect (.ref I)) Q E s := by
  have hSf : s.heap.objs.size ∉ fp := fun hm => Nat.lt_irrefl _ (hfp _ hm)
  have hSI : s.heap.objs.size ≠ I := fun e => hSf (e ▸ hI)
  unfold collect
  refine wpAny_bind (wpAny_runValue (codeAny_builtin PySem.F.entry_proto_collect ?_))
  rw [Around.under_plainId PySem.F.plain_proto_collect _]
  show wpAny _ A.in1 (newList [] >>= fun l => again (.builtin "list.__iadd__" ⟨[l, .ref I], []⟩)) _ _ s
  refine wpAny_bind (wpAny_newObj_type ?_)
  refine wpAny_pure ⟨plainId_quiet PySem.F.plain_list_iadd _, codeAny_builtin PySem.F.entry_list_iadd ?_⟩
  rw [Around.under_plainId PySem.F.plain_list_iadd _]
  have hst₁ := W.frame 0 s (s.heap.push { cls := .type "list", data := .seq ([] : List Value).toArray }) s.toks hst (Nat.le_refl _) fun b _ o e => Heap.get?_push_of_some _ e
  have hS₁ : (s.heap.push { cls := .type "list", data := .seq ([] : List Value).toArray }).get? s.heap.objs.size = some { cls := .type "list", data := .seq ([] : List Value).toArray } := Heap.get?_push_size _ rfl
  have h1 : Builtin.List.listSameRef (.ref s.heap.objs.size) (.ref I) = false := by simp [Builtin.List.listSameRef, hSI]
  show wpAny _ A.in1 (Builtin.List.listExtendWith (.ref s.heap.objs.size) (.ref I) (.ref s.heap.objs.size)) _ _ _
  unfold Builtin.List.listExtendWith
  refine wpAny_bind (wpAny_typeOf (hT 0 _ hst₁) ?_)
  rw [if_neg (by rw [h1]; decide)]
  refine wpAny_bind (W.self 0 _ _ _ hst₁ ?_)
  refine wpAny_bind (wpAny_holding ?_)
  unfold Builtin.List.listLengthHint
  refine wpAny_bind (wpAny_specialOf (hT 0 _ hst₁) PySem.F.nolen_tu ?_)
  show wpAny _ A.in1 (specialOf (Value.ref I) (Str.ofString "__length_hint__") >>= _) _ _ _
  refine wpAny_bind (wpAny_specialOf (hT 0 _ hst₁) PySem.F.hint_tu ?_)
  generalize hid : ("tuple_iterator.__length_hint__" : String) = id0; (fail_if_success (clear hid id0)); wp_delta; rw [show splitId id0 = some ("tuple_iterator", "__length_hint__") from by subst hid; decide +kernel]; subst hid
  refine wpAny_bind (wpAny_isInstance (b := true) (hT 0 _ hst₁) (by rw [isSubtype_type]; kernel_rfl) ?_)
  refine wpAny_pure ?_
  rw [if_neg (by decide)]
  refine wpAny_pure ⟨plainId_quiet PySem.F.plain_extend_loop _, codeAny_extend_loopS W hn _ hSf _ n 0 _ _ _ rfl (Nat.zero_le _) hst₁ hS₁ (ItemsOf.nil P) fun s' acc' c' hm hS' hacc => ?_⟩
  show wpAny _ A (load s.heap.objs.size >>= _) _ _ s'
  refine wpAny_bind (wpAny_load hS' ?_)
  exact wpAny_pure (hQ s' acc' (Moved.drop_new (o := { cls := .type "list", data := .seq ([] : List Value).toArray }) (tk := s.toks) hm (Nat.le_refl _)) (Nat.le_of_lt (Heap.lt_size hS')) hacc)
theorem star_tuple {l : Addr} {items : Array Value} {n i : Nat} {Q : List Value → Shared → Prop} (hl : IsTup s.heap l items) (hh : A.handled = none) (hi : i < n) (hn : n ≤ items.size + 1) (hz : items.size ≤ 16384)
    (h : ∀ D h' tk nn, (∀ b o, s.heap.get? b = some o → h'.get? b = some o) → s.heap.objs.size ≤ D → h'.get? D = some (seqObj "list" ((items.toList.drop i).take (items.size + 1 - n)).toArray nn) →
      Q (items.toList.take i ++ [.ref D] ++ (items.toList.drop i).drop (items.size + 1 - n)) { s with heap := h', toks := tk }) : wpAny (model prog w) A (unpackItems (.ref l) n (some i)) Q E s := by
  have hlt : l ≠ s.heap.objs.size := by obtain ⟨o, ho, _⟩ := hl; exact Nat.ne_of_lt (Heap.lt_size ho)
  have hll : l < s.heap.objs.size := by obtain ⟨o, ho, _⟩ := hl; exact Heap.lt_size ho
  unfold unpackItems
  refine wpAny_bind ?_
  unfold notIterableAtAll
  refine wpAny_bind (wpAny_specialOf hl.typeIs PyProof.Rows.slot_tuple_iter.lookup ?_)
  refine wpAny_pure ?_
  simp only [Bool.false_eq_true, if_false]
  refine wpAny_bind (wpAny_holding (iter_tuple hl ?_))
  refine wpAny_bind (wpAny_holding (draw_tuple hlt i 0 _ _ ⟨_, Heap.get?_push_size _ rfl, rfl, rfl⟩ (hl.push _) (by omega) fun h₁ hit₁ hs₁ => ?_))
  have hl₁ : IsTup h₁ l items := (hl.push _).extBut hs₁.extBut hlt
  rw [Nat.zero_add] at hit₁
  have hit₁' := hit₁
  obtain ⟨oi, hoi, _⟩ := hit₁'
  have hl₁' := hl₁
  obtain ⟨ol, hol, _⟩ := hl₁'
  rw [List.drop_zero]
  have hfl : (items.toList.take i).length = i := by rw [List.length_take, Array.length_toList]; omega
  rw [if_neg (show ¬ ((items.toList.take i).length < i) by rw [hfl]; omega)]
  have hI2 : s.heap.objs.size < h₁.objs.size := Heap.lt_size hoi
  have WS := (PySem.W.kun_shift (Walks.tuple (prog := prog) (w := w) (A := A.in1) hh s.heap.objs.size l hlt items) (k := i) (by omega)).toS
  refine wpAny_bind (wpAny_holding (collect_tupIter (s := { s with heap := h₁ }) WS (fun j u st => st.1.typeIs) ⟨hit₁, hl₁⟩ (fun b hb => ?_) (List.mem_cons_self ..) (fun s' acc hm hsz ha => ?_) (by rw [sizeLine_eq]; omega)))
  · rcases List.mem_cons.mp hb with rfl | hb
    · exact hI2
    · rw [List.mem_singleton.mp hb]; exact Heap.lt_size hol
  obtain ⟨h₂, g', d', tk, o'⟩ := s'
  obtain ⟨m1, m2, m3, m4, _⟩ := hm
  have m2 : g' = s.gens := m2
  have m3 : d' = s.drawn := m3
  have m4 : o' = s.os := m4
  subst m2 m3 m4
  rw [PySem.W.kun_acc (by omega) ha]
  have hk : ∀ b o, b ≠ s.heap.objs.size → h₁.get? b = some o → h₂.get? b = some o := fun b o hb e => m1 b o (by simpa using hb) e
  have hrl : (items.toList.drop i).length = items.size - i := by rw [List.length_drop, Array.length_toList]
  have hmid : (items.toList.drop i).length - (n - 1 - i) = items.size + 1 - n := by rw [hrl]; omega
  show wpAny _ _ (if (items.toList.drop i).length < n - 1 - i then _ else _) _ _ _
  rw [if_neg (by rw [hrl]; omega)]
  show wpAny _ _ (newList ((items.toList.drop i).take ((items.toList.drop i).length - (n - 1 - i))) >>= fun d => pure (items.toList.take i ++ [d] ++ (items.toList.drop i).drop ((items.toList.drop i).length - (n - 1 - i)))) _ _ _
  rw [hmid]
  have he : ∀ b o, s.heap.get? b = some o → h₂.get? b = some o := fun b o e => by
    have hb : b ≠ s.heap.objs.size := Nat.ne_of_lt (Heap.lt_size e)
    exact hk b o hb (hs₁.extBut b o hb (Heap.get?_push_of_some _ e))
  have hz2 : s.heap.objs.size ≤ h₂.objs.size := Nat.le_trans (Nat.le_of_lt hI2) hsz
  refine wpAny_bind (wpAny_newList (wpAny_pure (h h₂.objs.size _ tk 0 (fun b o e => Heap.get?_push_of_some _ (he b o e)) hz2 (Heap.get?_push_size _ rfl))) ?_)
  rw [List.length_take, hrl, sizeLine_eq]; omega
end
section
variable {X : Cx} {e : Expr} {es : List Expr} {pos p : Pos}
theorem vals_take {vs : List V} {us : List Value} (r : Vals vs us) : ∀ n, Vals (vs.take n) (us.take n) := fun n => by
  induction r generalizing n with
  | nil => rw [List.take_nil, List.take_nil]; exact .nil
  | cons h _ ih =>
    cases n with
    | zero => exact .nil
    | succ n => exact .cons h (ih n)
theorem vals_drop {vs : List V} {us : List Value} (r : Vals vs us) : ∀ n, Vals (vs.drop n) (us.drop n) := fun n => by
  induction r generalizing n with
  | nil => rw [List.drop_nil, List.drop_nil]; exact .nil
  | cons h t ih =>
    cases n with
    | zero => exact .cons h t
    | succ n => exact ih n
/-- (a, .., *b, .., c) = a tuple of n - 1 items at least, the star at i -/
def gStar (K : PySem.W.Frag) (n i : Nat) (t : TGs) : TG := fun v σ H Q => ∃ a xs, v = .ref a ∧ SqT K H a xs ∧ i < n ∧ n ≤ xs.length + 1 ∧ xs.length ≤ 16384 ∧
  ∀ p, H p = none → t (xs.take i ++ [.ref p] ++ (xs.drop i).drop (xs.length + 1 - n)) σ (upd H p (.lst ((xs.drop i).take (xs.length + 1 - n)))) Q
theorem pg_star {k : Nat} {t : TGs} {n i : Nat} (hc : X.calm = true) (h : PGs X es t) (hn : (assignEach es X.env).length = n := by rfl) (hst : (assignEach es X.env).findIdx? (·.1) = some i := by rfl) : PG X (.Tuple es k pos) (gStar X.K n i t) := by
  refine ⟨fun pins s σ H v u Q I r hw => ?_⟩
  obtain ⟨a, xs, e1, hq, h1, h2, h3, hw⟩ := hw
  subst e1
  cases r
  obtain ⟨its, rv, ht, hz⟩ := I.tuple hq
  have hl : its.length = xs.length := rv.length.symm
  rw [assign_Tuple]
  refine wpAny_bind (wpAny_standAt ?_)
  unfold unpack
  rw [hn, hst]
  refine wpAny_bind (wpAny_holding (star_tuple ht (I.ok.hd hc) h1 (by rw [List.size_toArray, hl]; exact h2) (by rw [List.size_toArray, hl]; exact h3) fun D h' tk nn kp sz at_ => ?_))
  have e2 : its.toArray.size + 1 - n = xs.length + 1 - n := by rw [List.size_toArray, hl]
  rw [e2] at at_ ⊢
  have I1 : Inv X pins σ (upd H D (.lst ((xs.drop i).take (xs.length + 1 - n)))) { s with heap := h', toks := tk } := I.laid (t' := tk) kp sz ⟨by rw [List.length_take, List.length_drop]; omega, _, nn, vals_take (vals_drop rv i) _, at_⟩
  refine h.run pins _ σ _ _ _ Q I1 (((vals_take rv i).append (show Vals [V.ref D] [Value.ref D] from .cons rfl .nil)).append (vals_drop (vals_drop rv i) _)) (hw D (I.hok.fresh sz))
theorem pgs_star {t : TG} {u : TGs} (h1 : PG X e t) (h2 : PGs X es u) (hs : (assignEach (.Starred e p :: es) X.env).map (·.2) = assign e X.env :: (assignEach es X.env).map (·.2) := by rfl) : PGs X (.Starred e p :: es) (gCons t u) := by
  refine ⟨fun pins s σ H vs us Q I r h => ?_⟩
  obtain ⟨v, vr, e1, h⟩ := h
  subst e1
  cases r with
  | cons r rr =>
    rw [hs]
    refine assignInOrder_cons (thn (h1.run pins s σ H _ _ _ I r h) fun _ s1 ⟨σ1, H1, I1, q1⟩ => ?_)
    exact h2.run pins s1 σ1 H1 _ _ Q I1 rr q1
theorem dgs_star {g : dG} {r : dGs} {vs ws : List Nat} (h1 : DG X e g vs) (h2 : DGs X es r ws) (hs : (assignEach (.Starred e p :: es) X.env).map (·.2) = assign e X.env :: (assignEach es X.env).map (·.2) := by rfl) : DGs X (.Starred e p :: es) (gsCons g r) (vs ++ ws) :=
  ⟨fun B => ⟨fun pins s σ H us uu Q I rr q => (pgs_star (h1.run B) (h2.run B) hs).run pins s σ H us uu Q I rr (by
    obtain ⟨δ, S, ds, Q', R, n, q, post⟩ := q
    cases n with
    | nil => exact q.elim
    | cons n ns =>
      refine ⟨_, _, rfl, δ, S, _, _, R, n, q, fun δ1 σ1 S1 H1 q1 e1 R1 a1 l1 => ?_⟩
      refine ⟨δ1, S1, _, _, R1, ns.mono e1, q1, fun δ2 σ2 S2 H2 q2 e2 R2 a2 l2 => post _ _ _ _ q2 (e1.trans e2) R2 (fun i hi => ?_) (l2.trans l1)⟩
      rw [a2 i (fun z => hi (by simp [z])), a1 i (fun z => hi (by simp [z]))])⟩⟩
/-- the star's items are a list that is frozen -/
def gStarD (n i : Nat) (r : dGs) : dG := fun d δ Q => match d with
  | .tup ds => n ≤ ds.length + 1 ∧ ds.length ≤ 16384 ∧ r (ds.take i ++ [.lst ((ds.drop i).take (ds.length + 1 - n))] ++ (ds.drop i).drop (ds.length + 1 - n)) δ Q
  | _ => False
theorem dg_star {k : Nat} {r : dGs} {n i : Nat} {vs : List Nat} (hc : X.calm = true) (hi : i < n) (h : DGs X es r vs) (hn : (assignEach es X.env).length = n := by rfl) (hst : (assignEach es X.env).findIdx? (·.1) = some i := by rfl) :
    DG X (.Tuple es k pos) (gStarD n i r) vs := ⟨fun B => ⟨fun pins s σ H v u Q I rv q => (pg_star hc (h.run B) hn hst).run pins s σ H v u Q I rv (by
    obtain ⟨δ, S, d, Q', R, dn, q, post⟩ := q
    cases d with
    | tup ds =>
      cases dn with
      | @tup a vs0 _ hq ha =>
        have hl := ha.length
        refine ⟨_, _, rfl, SqT.of (R.ex _ _ hq), hi, by rw [hl]; exact q.1, by rw [hl]; exact q.2.1, fun p hp => ?_⟩
        rw [hl]
        have g := Grow.new (o := .lst ((List.drop i vs0).take (ds.length + 1 - n))) R.ex hp
        have ha2 := ha.mono g.s
        refine ⟨δ, _, _, Q', R.grow g, ((ha2.take i).append (.cons (.lst upd_same ((ha2.drop i).take _)) .nil)).append ((ha2.drop i).drop _), q.2.2, fun δ' σ' S' H' q1 e1 R1 a1 l1 => post _ _ _ _ q1 (g.s.trans e1) R1 a1 l1⟩
    | _ => exact q.elim)⟩⟩
end
end Ev

/-! # A dict of one's own given away: locked, to be walked by its keys -/
namespace Ev
open PySem PySem.Spec PyProof.Rows L2
variable [TabC]
variable {K : PySem.W.Frag} {S S' H H' : Hp} {B : Bs} {δ : DS} {σ : L2.St}
/-- slot i's object becomes another one, frozen -/
theorem Rel.freezeTo (R : Rel K B δ S σ H) {i : Nat} {x : Sl} {d : D} {p : Addr} {o : HO} (hi : δ.sl[i]? = some x) (hx : ∀ oa, SlOk K B S H oa σ[i]? x → oa = some p) (hno : ∀ vs, o ≠ .tup vs) (hpl : ∀ ps, o ≠ .tbl ps) (h0 : B.H0 p = none) (hpa : B.pa ≠ some p)
    (hv : σ[i]? = some (some (.ref p))) (hd : ∀ S1 : Hp, S1 p = some o → Ex S S1 → Dn K S1 (.ref p) d) : ∃ S1, Ex S S1 ∧ Rel K B { δ with sl := δ.sl.set i (.dat d) } S1 σ (upd H p o) ∧ Dn K S1 (.ref p) d := by
  obtain ⟨ow, h1, h2, h3, h4⟩ := R.sl
  have oi : ow i = some p := hx _ (h1 i x hi)
  obtain ⟨sp, q2, q3, _⟩ := h4 i p oi
  have e1 : Ex S (upd S p o) := Ex.new sp
  have dn : Dn K (upd S p o) (.ref p) d := hd _ upd_same e1
  refine ⟨upd S p o, e1, ⟨⟨fun a u h => ?_, fun b vs h => ?_, R.ex.tb.at_ p (fun b u n h => by rw [upd_ne n]; exact h) (fun u z => by
    obtain ⟨u2, z1, z2⟩ := (h1 i x hi).plA oi
    rw [z1] at z; cases z; exact z2) fun b n z => by rw [upd_ne n]; exact z⟩, ⟨R.fr.s.trans e1, fun b u h hb nb => ?_, fun b ps h => ?_, fun b u h n => ?_, fun a e => ?_⟩, ?_, R.pa, by simpa using R.len, fun j => if j = i then none else ow j, fun j z e => ?_, fun j hj => ?_, fun j k a e1 e2 => ?_, fun j a e => ?_⟩, dn⟩
  · by_cases e : a = p
    · subst e; rw [upd_same] at h ⊢; exact h
    · rw [upd_ne e] at h ⊢; exact R.ex a u h
  · by_cases q : b = p
    · subst q; rw [upd_same] at h; exact absurd (Option.some.inj h) (hno vs)
    · rw [upd_ne q] at h; exact e1 _ _ (R.ex.tp b vs h)
  · have : b ≠ p := fun e => by subst e; rw [h] at h0; cases h0
    rw [upd_ne this]; exact R.fr.h b u h hb nb
  · have : b ≠ p := fun e => by subst e; rw [h] at h0; cases h0
    rw [upd_ne this]; exact R.fr.t b ps h
  · have : b ≠ p := fun e => by subst e; rw [h] at h0; cases h0
    rw [upd_ne this]; exact R.fr.no b u h n
  · have : a ≠ p := fun q => hpa (by rw [e, q])
    rw [upd_ne this]; exact R.fr.pa a e
  · have hp := R.pen
    cases hpe : δ.pen with
    | none => trivial
    | some ac =>
      obtain ⟨a, c⟩ := ac
      rw [hpe] at hp
      have nap : a ≠ p := fun e => q3 c (by rw [hpe, e])
      obtain ⟨n, ca, ns, k, m, r1, r2, r3⟩ := hp
      exact ⟨by rw [upd_ne nap]; exact n, ca, ns, k, m, by rw [upd_ne nap]; exact r1, e1 _ _ r2, r3⟩
  · rcases get_set e with ⟨rfl, rfl⟩ | ⟨ne, e⟩
    · exact ⟨by simp, _, hv, dn⟩
    · simp only [ne, if_false]
      refine (h1 j z e).grow e1 fun a u ea ha _ => ?_
      have : a ≠ p := fun q => ne (h3 j i a ea (by rw [q]; exact oi))
      rw [upd_ne this]; exact ha
  · show (if j = i then none else ow j) = none
    split
    · rfl
    · exact h2 j (by simpa using hj)
  · have e1 : (if j = i then none else ow j) = some a := e1
    have e2 : (if k = i then none else ow k) = some a := e2
    split at e1
    · cases e1
    · split at e2
      · cases e2
      · exact h3 j k a e1 e2
  · have e : (if j = i then none else ow j) = some a := e
    split at e
    · cases e
    · rename_i nj
      obtain ⟨r1, r2, r3, u, r4⟩ := h4 j a e
      have : a ≠ p := fun q => nj (h3 j i a e (by rw [q]; exact oi))
      exact ⟨by rw [upd_ne this]; exact r1, r2, r3, u, by rw [upd_ne this]; exact r4⟩
section
variable {X : Cx} {E : EK} {e tg : Expr} {pos p : Pos} {x : Str} {da : dE}
/-- a thing in a slot, locked from now on -/
def tVarL (i : Nat) : TE := fun σ H Q => tVar i σ H Q ∨ ∃ a u, σ[i]? = some (some (.ref a)) ∧ H a = some u ∧ Mut (some u) ∧ ∀ od, Q (.ref a) (upd H a (.frz od u))
theorem pe_lock {i : Nat} (h : PE X (.Name x p) (tVar i)) : PE X (.Name x p) (tVarL i) := ⟨fun pins s σ H Q I q => by
  rcases q with q | ⟨a, u, h1, h2, mu, q⟩
  · exact h.run pins s σ H Q I q
  refine thn (h.run pins s σ H (fun v H' => v = .ref a ∧ H' = H) I ⟨_, h1, rfl, rfl⟩) fun v s1 ⟨y, H1, I1, r1, e1, e2⟩ => ?_
  subst e1 e2
  obtain ⟨od, I2⟩ := I1.lock h2 mu
  exact ⟨_, _, I2, r1, q od⟩⟩
def dLock (i : Nat) : dE := fun _ δ Q => match δ.sl[i]? with
  | some (.ownT es) => Q (.fT es) (setSl δ i (.dat (.fT es)))
  | some (.ownK es) => Q (.fK es) (setSl δ i (.dat (.fK es)))
  | some (.dat d) => Q d δ
  | _ => False
theorem de_lock {i : Nat} (h : PE X (.Name x p) (tVar i)) : DE X E (.Name x p) (dLock i) := ⟨fun B => pe_mono (pe_lock h) fun σ H Q q => by
  obtain ⟨δ, S, W, Q', R, q, _, post⟩ := q
  unfold dLock at q
  split at q
  · rename_i es hs
    refine .inr ?_
    obtain ⟨ow, h1, _⟩ := id R.sl
    obtain ⟨a, kvs, r1, r2, r3, r4, r5, r6, r7⟩ := h1 i _ hs
    refine ⟨a, _, r4, r5, trivial, fun od => ?_⟩
    obtain ⟨S1, e1, R1, n1⟩ := R.freezeTo (d := .fT es) (o := .frz od (.dT kvs)) hs (fun oa q => by obtain ⟨a', _, t1, _, _, t4, _⟩ := q; rw [r4] at t4; cases t4; exact t1) (fun _ z => nomatch z) (fun _ z => nomatch z) r2 r3 r4 fun S1 q1 q2 => .fT q1 r6 (r7.mono q2)
    exact post _ _ _ _ _ q e1 R1 n1
  · rename_i es hs
    refine .inr ?_
    obtain ⟨ow, h1, _⟩ := id R.sl
    obtain ⟨a, kvs, r1, r2, r3, r4, r5, r6, r7⟩ := h1 i _ hs
    refine ⟨a, _, r4, r5, trivial, fun od => ?_⟩
    obtain ⟨S1, e1, R1, n1⟩ := R.freezeTo (d := .fK es) (o := .frz od (.dK kvs)) hs (fun oa q => by obtain ⟨a', _, t1, _, _, t4, _⟩ := q; rw [r4] at t4; cases t4; exact t1) (fun _ z => nomatch z) (fun _ z => nomatch z) r2 r3 r4 fun S1 q1 q2 => .fK q1 r6 (r7.mono q2)
    exact post _ _ _ _ _ q e1 R1 n1
  · rename_i d hd
    obtain ⟨v, e1, e2⟩ := R.dat hd
    exact .inl ⟨v, e1, post _ _ _ _ _ q (Ex.refl _) R e2⟩
  · exact q.elim⟩
/-! ### a locked dict walked by its keys -/
theorem it_keysT {d : Addr} {o : Obj} {kvs : List (List Key × V)} {es : List (List Key × D)} (h : S d = some (.frz o (.dT kvs))) (hk : kvs.map (·.1) = es.map (·.1)) : ItOk K (Itkt d o kvs) (keyD es) S := by
  have hl : kvs.length = (keyD es).length := by unfold keyD; simpa using congrArg List.length hk
  refine ⟨fun i S1 H1 e1 e2 hi => ?_, fun S1 H1 e1 e2 => ?_, fun i S1 H1 x H2 e1 e2 hi y => ?_⟩
  · exact (walk_keysT (kvs := kvs)).goes i H1 (by omega) (e2 _ _ (e1 _ _ h))
  · rw [← hl]; exact walk_keysT.stops H1 (e2 _ _ (e1 _ _ h))
  · obtain ⟨rfl, k, v, q, h1, rfl, h3⟩ := (walk_keysT (kvs := kvs)).yields i H1 x H2 (by omega) (e2 _ _ (e1 _ _ h)) y
    refine ⟨S1, .tup (k.map kD), Grow.refl e2, ?_, .tup (e2.tp _ _ h3) (DnA.kds _)⟩
    rw [← keyD_of hk, List.getElem?_map, h1]; rfl
def keyDK (es : List (Key × D)) : List D := es.map fun e => kD e.1
theorem it_keysK {d : Addr} {o : Obj} {kvs : List (Key × V)} {es : List (Key × D)} (h : S d = some (.frz o (.dK kvs))) (hk : kvs.map (·.1) = es.map (·.1)) : ItOk K (Itk d o kvs) (keyDK es) S := by
  have hl : kvs.length = (keyDK es).length := by unfold keyDK; simpa using congrArg List.length hk
  have he : keyDK es = kvs.map fun e => kD e.1 := by
    have e1 : (kvs.map fun e => kD e.1) = (kvs.map (·.1)).map kD := by rw [List.map_map]; rfl
    have e2 : keyDK es = (es.map (·.1)).map kD := by unfold keyDK; rw [List.map_map]; rfl
    rw [e1, e2, hk]
  refine ⟨fun i S1 H1 e1 e2 hi => ?_, fun S1 H1 e1 e2 => ?_, fun i S1 H1 x H2 e1 e2 hi y => ?_⟩
  · exact (walk_keys (kvs := kvs)).goes i H1 (by omega) (e2 _ _ (e1 _ _ h))
  · rw [← hl]; exact walk_keys.stops H1 (e2 _ _ (e1 _ _ h))
  · obtain ⟨rfl, k, v, h1, rfl⟩ := (walk_keys (kvs := kvs)).yields i H1 x H2 (by omega) (e2 _ _ (e1 _ _ h)) y
    refine ⟨S1, kD k, Grow.refl e2, ?_, .kd k⟩
    rw [he, List.getElem?_map, h1]; rfl
def dKeysI (d : dE) : dI := fun W δ Q => d W δ fun x δ' => match x with | .fT es => Q (keyD es) δ' | .fK es => Q (keyDK es) δ' | _ => False
theorem di_keys (h : DE X E e da) : DI X E tg e (dKeysI da) := ⟨fun B => pi_mono (pi_keys (h.run B)) fun σ H Rr q => by
  obtain ⟨δ, S, W, Q', R, q, xo, post⟩ := q
  refine ⟨δ, S, W, _, R, q, xo, fun x δ1 v S1 H1 q1 e1 R1 n1 => ?_⟩
  cases x with
  | fT es =>
    cases n1 with
    | fT hs hk ha => exact ⟨_, _, rfl, .inr ⟨_, R1.ex _ _ hs, post _ _ _ _ _ q1 e1 R1 (it_keysT hs hk)⟩⟩
  | fK es =>
    cases n1 with
    | fK hs hk ha => exact ⟨_, _, rfl, .inl ⟨_, R1.ex _ _ hs, post _ _ _ _ _ q1 e1 R1 (it_keysK hs hk)⟩⟩
  | _ => exact q1.elim⟩
end
end Ev

/-! # Comprehensions of any number of clauses -/
namespace Ev
open PySem PySem.Spec PyProof.Rows L2
variable [TabC]
/-- the item goes to the new list -/
def emL (e : Expr) (a : Value) (n : Env) : Sem Unit := do { let _ ← call (.builtin "list.append") [a, ← eval e n] }
/-- the pair goes to the new dict -/
def emD (k v : Expr) (a : Value) (n : Env) : Sem Unit := do { let x ← eval k n; let y ← holding [x] (eval v n); match a with
  | .ref d => do { standAt { k.pos with endLine := v.pos.endLine, endCol := v.pos.endCol }; holding [x, y] (dictSet d x y) }
  | _ => unsupported "internal:dictcomp" }
/-- what is done within a clause: a further one, or what is given; k: what follows -/
def payN (c i : Expr) (j : Nat) (a : Value) (n : Env) (k : Sem PySem.Fin) : Sem PySem.Fin := do { let x ← eval i n; standAt i.pos; let y ← foldedSetIterable i n x; let _ ← runOwn (.compStart c j (← holding [y] (pyIter y)) a n) n; k }
def payE (em : Sem Unit) (k : Sem PySem.Fin) : Sem PySem.Fin := do { em; k }
def turnC (c t i0 : Expr) (fs : List Expr) (pay : Sem PySem.Fin → Sem PySem.Fin) (j : Nat) (it a : Value) (n : Env) : Sem PySem.Fin := do
  standAt i0.pos
  match ← pyNext it with
  | none => pure (.done .next)
  | some v => do
    letOwnedTupleGo t it v; assign t n v
    let mut ok := true
    for f in fs do { if ok then ok ← isTrue f n (eval f n) }
    if ok then pay (again (.compLoop c j it a n)) else again (.compLoop c j it a n)
inductive IsLD : Expr → Prop where
  | l (elt : Expr) (gs : List Comprehension) (sc : Scope) (pos : Pos) : IsLD (.ListComp elt gs sc pos)
  | d (kx vx : Expr) (gs : List Comprehension) (sc : Scope) (pos : Pos) : IsLD (.DictComp kx vx gs sc pos)
/-- how a clause's turn goes -/
def TurnIs (c t i0 : Expr) (fs : List Expr) (pay : Value → Env → Sem PySem.Fin → Sem PySem.Fin) (j : Nat) : Prop := ∀ it a n, compTurn c j it a n = turnC c t i0 fs (pay a n) j it a n
theorem turn_LN {elt t i0 t1 i1 : Expr} {fs fs1 : List Expr} {gs : List Comprehension} {sc : Scope} {pos : Pos} {j : Nat} (h : gs[j]? = some ⟨t, i0, fs, 0⟩) (h1 : gs[j + 1]? = some ⟨t1, i1, fs1, 0⟩) :
    TurnIs (.ListComp elt gs sc pos) t i0 fs (payN (.ListComp elt gs sc pos) i1 (j + 1)) j := fun it a n => by
  unfold compTurn turnC payN
  simp only [h, h1]
  rfl
theorem turn_LE {elt t i0 : Expr} {fs : List Expr} {gs : List Comprehension} {sc : Scope} {pos : Pos} {j : Nat} (h : gs[j]? = some ⟨t, i0, fs, 0⟩) (h1 : gs[j + 1]? = none) :
    TurnIs (.ListComp elt gs sc pos) t i0 fs (fun a n => payE (emL elt a n)) j := fun it a n => by
  unfold compTurn turnC payE emL
  simp only [h, h1]
  rfl
theorem turn_DN {kx vx t i0 t1 i1 : Expr} {fs fs1 : List Expr} {gs : List Comprehension} {sc : Scope} {pos : Pos} {j : Nat} (h : gs[j]? = some ⟨t, i0, fs, 0⟩) (h1 : gs[j + 1]? = some ⟨t1, i1, fs1, 0⟩) :
    TurnIs (.DictComp kx vx gs sc pos) t i0 fs (payN (.DictComp kx vx gs sc pos) i1 (j + 1)) j := fun it a n => by
  unfold compTurn turnC payN
  simp only [h, h1]
  rfl
theorem turn_DE {kx vx t i0 : Expr} {fs : List Expr} {gs : List Comprehension} {sc : Scope} {pos : Pos} {j : Nat} (h : gs[j]? = some ⟨t, i0, fs, 0⟩) (h1 : gs[j + 1]? = none) :
    TurnIs (.DictComp kx vx gs sc pos) t i0 fs (fun a n => payE (emD kx vx a n)) j := fun it a n => by
  unfold compTurn turnC payE emD
  simp only [h, h1]
  rfl
section
variable {prog : Program} {w : World} {A : Around} {R : Result → Shared → Prop} {s : Shared} {c t i0 : Expr} {fs : List Expr} {gs : List Comprehension} {j : Nat} {it a : Value} {n : Env} {pay : Value → Env → Sem PySem.Fin → Sem PySem.Fin}
/-- a clause's loop -/
theorem loopC (hk : IsLD c) (heq : TurnIs c t i0 fs pay j) (I : Nat → Shared → Prop)
    (turn : ∀ m s, I m s → wpAny (model prog w) A (pyNext it) (fun r s1 => match r with
      | none => R (.ok .next) s1
      | some v => wpAny (model prog w) A (letOwnedTupleGo t it v) (fun _ s2 => wpAny (model prog w) A (assign t n v) (fun _ s3 =>
          wpAny (model prog w) A (forIn fs true fun f r => if r = true then do let ok ← isTrue f n (eval f n); pure (ForInStep.yield ok) else pure (ForInStep.yield r)) (fun ok s4 =>
            if ok = true then ∀ (k : Sem PySem.Fin) (Q : PySem.Fin → Shared → Prop) (E : Value → Shared → Prop), (∀ s5, (∃ m', m' < m ∧ I m' s5) → wpAny (model prog w) A k Q E s5) → wpAny (model prog w) A (pay a n k) Q E s4 else ∃ m', m' < m ∧ I m' s4) (fun _ _ => False) s3) (fun _ _ => False) s2) (fun _ _ => False) s1) (fun _ _ => False) s)
    (m : Nat) (h : I m s) : codeAny (model prog w) A (.compLoop c j it a n) R s := by
  refine codeAny_loop rfl I (fun m s hI => ?_) m h
  have e0 : wpAny (model prog w) A ((compTurn c j it a n).onRaise (fun x => do noteFrame x n; theTreesLotGoes x)) (fun fin s' => match fin with
      | .done f => R (.ok f) s'
      | .again c' => c' = Code.compLoop c j it a n ∧ ∃ m', m' < m ∧ I m' s') (fun e s' => R (.error e) s') s → wpAny (model prog w) (A.under (Code.compLoop c j it a n)) ((model prog w).den (Code.compLoop c j it a n)) (fun fin s' => match fin with
      | .done f => R (.ok f) s'
      | .again c' => c' = Code.compLoop c j it a n ∧ ∃ m', m' < m ∧ I m' s') (fun e s' => R (.error e) s') s := by
    cases hk <;> exact id
  refine e0 (wpAny_noted ?_)
  rw [heq]
  unfold turnC
  have no : ∀ (e : Value) (s' : Shared), False → notedBy (model prog w) A n (fun e s' => R (.error e) s') e s' := fun _ _ z => z.elim
  refine wpAny_bind (wpAny_standAt (wpAny_bind (wpAny_mono (turn m s hI) (fun r s₁ h₁ => ?_) no)))
  cases r with
  | none => exact wpAny_pure h₁
  | some v =>
    refine wpAny_bind (wpAny_mono h₁ (fun _ s₂ h₂ => ?_) no)
    refine wpAny_bind (wpAny_mono h₂ (fun _ s₃ h₃ => wpAny_bind (wpAny_mono h₃ (fun ok s₄ h₄ => ?_) no)) no)
    cases ok with
    | false => exact wpAny_pure ⟨rfl, h₄⟩
    | true => exact h₄ _ _ _ fun s₅ h₅ => wpAny_pure ⟨rfl, h₅⟩
/-- a clause's start -/
theorem startC (hk : IsLD c) (hg : (clausesOf c)[j]? = some ⟨t, i0, fs, 0⟩) (h0 : codeAny (model prog w) A (.compLoop c j it a n) R s)
    (h : wpAny (model prog w) A (pyIter it) (fun it' s' => codeAny (model prog w) A (.compLoop c j it' a n) R s') (notedBy (model prog w) A n fun x s' => R (.error x) s') s) :
    codeAny (model prog w) A (.compStart c j it a n) R s := by
  refine codeAny_of_tree ?_
  have e0 : wpAny (model prog w) A ((compStart c j it a n).onRaise (fun x => do noteFrame x n; standAt theWindowsPlace)) (fun fin s' => match fin with
      | .done f => R (.ok f) s'
      | .again c' => c'.quiet = true ∧ codeAny (model prog w) A c' R s') (fun e s' => R (.error e) s') s → wpAny (model prog w) (A.under (Code.compStart c j it a n)) ((model prog w).den (Code.compStart c j it a n)) (fun fin s' => match fin with
      | .done f => R (.ok f) s'
      | .again c' => c'.quiet = true ∧ codeAny (model prog w) A c' R s') (fun e s' => R (.error e) s') s := by
    cases hk <;> exact id
  refine e0 (wpAny_notedAt ?_)
  unfold compStart
  simp only [hg]
  show wpAny _ _ (ask >>= _) _ _ s
  refine wpAny_bind (wpAny_askSetting (wpAny_ite ?_))
  split
  · first
      | exact wpAny_bind (wpAny_pure (wpAny_pure (And.intro rfl h0)))
      | exact wpAny_pure (And.intro rfl h0)
  · first
      | exact wpAny_bind (wpAny_rule (wpAny_bind (wpAny_standAt (wpAny_bind (wpAny_mono h (fun it' s' h' => wpAny_pure (And.intro rfl h')) fun _ _ x => x)))))
      | (refine wpAny_bind (wpAny_rule ?_); show wpAny _ _ (standAt i0.pos >>= _) _ _ s; exact wpAny_bind (wpAny_standAt (wpAny_bind (wpAny_mono h (fun it' s' h' => wpAny_pure (And.intro rfl h')) fun _ _ x => x))))
end
/-! ### what is done within a clause -/
abbrev TB := L2.St → Hp → (Hp → Prop) → Prop
/-- vs: the slots that it stores -/
structure PBd (X : Cx) (p : Sem PySem.Fin → Sem PySem.Fin) (vs : List Nat) (t : TB) : Prop where
  run : ∀ (pins : List (Addr × Obj)) (s : Shared) (σ : L2.St) (H : Hp) (Nx : Hp → Prop) (k : Sem PySem.Fin) (Q : PySem.Fin → Shared → Prop) (E : Value → Shared → Prop), Inv X pins σ H s → t σ H Nx → (∀ s' H', Inv X pins (wipe σ vs) H' s' → Nx H' → wpAny (model X.prog X.w) X.A k Q E s') → wpAny (model X.prog X.w) X.A (p k) Q E s
theorem noF {α : Type} {M : Model} {A : Around} {t : Sem α} {Q Q' : α → Shared → Prop} {E : Value → Shared → Prop} {s : Shared} (h : wpAny M A t Q (fun _ _ => False) s) (hQ : ∀ a s, Q a s → Q' a s) : wpAny M A t Q' E s := wpAny_mono h hQ fun _ _ z => False.elim z
def tEmL (D : Addr) (te : TE) : TB := fun σ H Nx => te σ H fun y H1 => ∃ acc, H1 D = some (.lst acc) ∧ acc.length < sizeLine ∧ Nx (upd H1 D (.lst (acc ++ [y])))
def tEmD (D : Addr) (tk tv : TE) : TB := fun σ H Nx => tk σ H fun y H1 => tv σ H1 fun z H2 => ∃ kvs k, y = kV k ∧ H2 D = some (.dK kvs) ∧ kvs.length < sizeLine ∧ Nx (upd H2 D (.dK (putK kvs k z)))
/-- a clause within: wi what is walked, t what is done within it, vs all the slots -/
def tNest (wi : TI) (g : TG) (tt : TT) (t : TB) (vs : List Nat) : TB := fun σ H Nx => wi σ H fun J H1 => ∃ W : Nat → Nat → Hp → Prop, (∃ m, W 0 m H1) ∧ ∀ i m H, W i m H →
  (J.stop i H ∧ Nx H) ∨ (J.go i H ∧ ∃ N1 : Hp → Prop, (∀ H', N1 H' → ∃ m', m' < m ∧ W (i + 1) m' H') ∧ ∀ x H', J.yld i H x H' → g x (wipe σ vs) H' fun σ2 H2 => wipe σ2 vs = wipe σ vs ∧ tt σ2 H2 fun b H3 => if b = true then t σ2 H3 N1 else N1 H3)
section
variable {X : Cx}
theorem pbd_L {D : Addr} {elt : Expr} {te : TE} (hx : X.xe = fun _ _ => False) (he : PE X elt te) : PBd X (payE (emL elt (.ref D) X.env)) [] (tEmL D te) := ⟨fun pins s σ H Nx k Q E I q kk => by
  unfold payE emL
  have h1 := he.run pins s σ H _ I q
  rw [hx] at h1
  refine wpAny_bind (wpAny_bind (noF h1 fun v s1 ⟨y, H1, I1, r1, acc, hD, hz, nx⟩ => ?_))
  exact wpAny_bind (app_ok I1 hD hz r1 fun s2 I2 => wpAny_pure (kk _ _ I2 nx))⟩
theorem pbd_D {D : Addr} {kx vx : Expr} {tk tv : TE} (hx : X.xe = fun _ _ => False) (hk : PE X kx tk) (hv : PE X vx tv) : PBd X (payE (emD kx vx (.ref D) X.env)) [] (tEmD D tk tv) := ⟨fun pins s σ H Nx k Q E I q kk => by
  unfold payE emD
  have h1 := hk.run pins s σ H _ I q
  rw [hx] at h1
  refine wpAny_bind (wpAny_bind (noF h1 fun v s1 ⟨y, H1, I1, r1, q1⟩ => ?_))
  have h2 := hv.run pins s1 σ H1 _ I1 q1
  rw [hx] at h2
  refine wpAny_bind (wpAny_holding (noF h2 fun v2 s2 ⟨z, H2, I2, r2, kvs, kk2, ek, hD, hz, nx⟩ => ?_))
  subst ek
  exact wpAny_bind (wpAny_standAt (wpAny_holding (d_dictSet I2 hD hz r1 r2 fun s3 I3 => kk _ _ I3 nx)))⟩
theorem pbd_nest {c tg iter : Expr} {ifs : List Expr} {gs : List Comprehension} {pay : Value → Env → Sem PySem.Fin → Sem PySem.Fin} {j : Nat} {D : Addr} {wi : TI} {g : TG} {tt : TT} {t : TB} {vs ws : List Nat} (hc : X.calm = true) (hx : X.xe = fun _ _ => False) (hgs : gs[j]? = some ⟨tg, iter, ifs, 0⟩) (hcl : clausesOf c = gs)
    (hk : IsLD c) (heq : TurnIs c tg iter ifs pay j) (hi : PI X tg iter wi) (hg : PG X tg g) (ht : PTs X ifs tt) (hp : PBd X (pay (.ref D) X.env) ws t) (hws : ∀ i ∈ ws, i ∈ vs) (hs : ∀ env x, foldedSetIterable iter env x = pure x) :
    PBd X (payN c iter j (.ref D) X.env) vs (tNest wi g tt t vs) := ⟨fun pins s σ H Nx k Q E I q kk => by
  unfold payN
  have h1 := hi.run pins s σ H _ I q
  rw [hx] at h1
  refine wpAny_bind (noF h1 fun xv s1 hx1 => wpAny_bind (wpAny_standAt (wpAny_bind (wpAny_of_eq (hs X.env xv) (wpAny_bind (wpAny_holding (noF hx1 fun itv s2 h2 => ?_)))))))
  obtain ⟨it, fp, tn, J, H1, e1, I1, T, st, f1, W, ⟨m0, w0⟩, turn⟩ := h2
  subst e1
  refine wpAny_bind (wpAny_runOwn ?_)
  rw [Around.mark_none]
  have stat : ∀ {H' : Hp}, (∀ b ∈ fp, H' b = none) → ∀ b ∈ fp, FpOk X pins H' b := fun hn b hb => ⟨hn b hb, (f1 b hb).2⟩
  have loop : codeAny (model X.prog X.w) X.A (.compLoop c j (.ref it) (.ref D) X.env) (fun r s' => match r with
      | .ok _ => ∃ H', Inv X pins (wipe σ vs) H' s' ∧ Nx H'
      | .error _ => False) s2 := by
    refine loopC hk heq (fun k s' => ∃ i H', Inv X pins (wipe σ vs) H' s' ∧ tn i s'.heap ∧ (∀ b ∈ fp, H' b = none) ∧ W i k H') ?_ m0 ⟨0, H1, I1.weak (wipe_length _ _) (fun j v e => (wipe_some e).1), st, fun b hb => (f1 b hb).1, w0⟩
    rintro k s3 ⟨i, H3, I3, st3, n3, w3⟩
    rcases turn i k H3 w3 with ⟨stop, nx⟩ | ⟨go, N1, hN1, step⟩
    · refine thnF (T.done X rfl rfl rfl hc i _ s3 (wipe σ vs) H3 (fun _ _ => False) I3 (stat n3) st3 stop) fun r s4 ⟨hr, I4⟩ => ?_
      subst hr
      exact ⟨H3, I4, nx⟩
    · refine thnF (T.item X rfl rfl rfl hc i _ s3 (wipe σ vs) H3 (fun _ _ => False) I3 (stat n3) st3 go) fun r s4 ⟨u, hr, h4⟩ => ?_
      subst hr
      refine thnF h4 fun _ s5 ⟨x, H5, I5, r5, y5, st5, n5⟩ => ?_
      have I5' := I5.pinned (stat n5) (T.obj _ _ st5)
      have hgr := hg.run _ s5 (wipe σ vs) H5 x u _ I5' r5 (step x H5 y5)
      rw [hx] at hgr
      refine thnF hgr fun _ s6 ⟨σ6, H6, I6, hw6, q6⟩ => ?_
      have htr := ht.run _ s6 σ6 H6 _ I6 q6
      rw [hx] at htr
      refine thnF htr fun b s7 ⟨H7, I7, q7⟩ => ?_
      have fin : ∀ {σ9 : L2.St} {s' : Shared} {H' : Hp}, Inv X (pins ++ pinsAt fp s5.heap) σ9 H' s' → (wipe σ vs).length = σ9.length → (∀ (j : Nat) v, (wipe σ vs)[j]? = some (some v) → σ9[j]? = some (some v)) → N1 H' → ∃ m, m < k ∧ ∃ i H', Inv X pins (wipe σ vs) H' s' ∧ tn i s'.heap ∧ (∀ b ∈ fp, H' b = none) ∧ W i m H' := fun {σ9 s' H'} I' hl hk nx => by
        obtain ⟨m', hm, w'⟩ := hN1 H' nx
        have pin' : ∀ b ∈ fp, ∀ o, s5.heap.get? b = some o → s'.heap.get? b = some o ∧ H' b = none := fun b hb o e =>
          have z := I'.pin (b, o) (List.mem_append_right _ (List.mem_append_right _ (mem_pinsAt hb e)))
          ⟨z.1, z.2.1⟩
        refine ⟨m', hm, i + 1, H', I'.unpinned.weak hl hk, T.keep _ _ _ st5 fun b hb o e => (pin' b hb o e).1, fun b hb => ?_, w'⟩
        obtain ⟨o, e, _⟩ := T.obj _ _ st5 b hb
        exact (pin' b hb o e).2
      have hl6 : (wipe σ vs).length = σ6.length := by rw [← hw6, wipe_length]
      cases b with
      | false =>
        simp only [Bool.false_eq_true, if_false] at q7 ⊢
        exact fin I7 hl6 (fun j v e => by rw [← hw6] at e; exact (wipe_some e).1) q7
      | true =>
        simp only [if_true] at q7 ⊢
        intro k2 Q2 E2 kk2
        refine hp.run _ s7 σ6 H7 _ k2 Q2 E2 I7 q7 fun s8 H8 I8 nx8 => kk2 _ ?_
        refine fin I8 (hl6.trans (wipe_length σ6 ws).symm) (fun j v e => ?_) nx8
        rw [← hw6] at e
        obtain ⟨e1, e2⟩ := wipe_some e
        rw [L2.wipe_out fun z => e2 (hws j z)]
        exact e1
  refine codeAny_mono (startC hk (by rw [hcl]; exact hgs) loop (T.self X.A 0 _ _ _ st loop)) fun r s' hr => ?_
  cases r with
  | ok f =>
    obtain ⟨H', I', nx⟩ := hr
    exact kk _ _ I' nx
  | error e => exact hr.elim⟩
/-- a comprehension: what is walked, what is done with each item; o0: the new thing at first -/
def tComp (o0 : HO) (wi : TI) (g : TG) (tt : TT) (t : Addr → TB) (vs : List Nat) : TE := fun σ H Q => wi σ H fun J H1 => ∀ D, H1 D = none → ∃ W : Nat → Nat → Hp → Prop, (∃ m, W 0 m (upd H1 D o0)) ∧ ∀ i m H, W i m H →
  (J.stop i H ∧ Q (.ref D) H) ∨ (J.go i H ∧ ∃ N1 : Hp → Prop, (∀ H', N1 H' → ∃ m', m' < m ∧ W (i + 1) m' H') ∧ ∀ x H', J.yld i H x H' → g x (wipe σ vs) H' fun σ2 H2 => wipe σ2 vs = wipe σ vs ∧ tt σ2 H2 fun b H3 => if b = true then t D σ2 H3 N1 else N1 H3)
theorem comp_core {pins : List (Addr × Obj)} {s : Shared} {σ : L2.St} {H : Hp} {Q : VK} {c tg iter : Expr} {ifs : List Expr} {rest : List Comprehension} {scope : Scope} {own : List (Str × Nat)} {pos' : Pos} {wi : TI} {g : TG} {tt : TT} {t : Addr → TB} {ws : List Nat}
    {pay : Value → Env → Sem PySem.Fin → Sem PySem.Fin} {use : Option (Value → Sem Unit)} {Qf : Value → Shared → Prop} {mk : Sem Value} {ob : Obj} {o0 : HO} (hk : IsLD c) (hcl : clausesOf c = ⟨tg, iter, ifs, 0⟩ :: rest) (heq : TurnIs c tg iter ifs pay 0)
    (hmk : ∀ (s : Shared) (Q : Value → Shared → Prop), Q (.ref s.heap.objs.size) { s with heap := s.heap.push ob } → wpAny (model X.prog X.w) X.A mk Q X.xe s)
    (hob : ∀ {H : Hp} {s : Shared}, Inv X pins σ H s → Inv X pins σ (upd H s.heap.objs.size o0) { s with heap := s.heap.push ob })
    (hc : X.calm = true) (hN : X.N.Nodup) (I : Inv X pins σ H s) (hi : PI X tg iter wi) (ok : BlkOk X.N X.env.scope scope own) (hws : ∀ i ∈ ws, i ∈ own.map (·.2))
    (hg : ∀ (s : Shared) (H : Hp) (C : Addr) (cl : List (Str × Addr)) (fp : List Addr), PG (X.blk s H scope (compEnvC scope cl C X.env) fp) tg g) (ht : ∀ (s : Shared) (H : Hp) (C : Addr) (cl : List (Str × Addr)) (fp : List Addr), PTs (X.blk s H scope (compEnvC scope cl C X.env) fp) ifs tt)
    (hp : ∀ (s : Shared) (H : Hp) (C : Addr) (cl : List (Str × Addr)) (fp : List Addr) (D : Addr), PBd (X.blk s H scope (compEnvC scope cl C X.env) fp) (pay (.ref D) (compEnvC scope cl C X.env)) ws (t D))
    (hs : ∀ x, foldedSetIterable iter X.env x = pure x) (h : tComp o0 wi g tt t (own.map (·.2)) σ H Q)
    (hRR : ∀ D C s' m H', Inv X pins σ H' s' → Q (.ref D) H' → s'.heap.Ns C m → FpOk X pins H' C → compPost (model X.prog X.w) X.A X.xe use Qf (.ref D) C (.ok .next) s') :
    wpAny (model X.prog X.w) X.A (comprehension c scope X.env pos' mk false (eval iter X.env) use) Qf X.xe s := by
  have hfree : ∀ y ∈ scope.names, y.2 = .free → ∃ c, X.env.cells.lookup y.1 = some c := fun y hy e => (ok.free y hy e).elim (fun k => I.ok.has _ (.inl k)) fun k => I.ok.has _ (.inr k)
  refine wpAny_comprehension_free (use := use) hcl hs (closure_ok hfree) ok.kind (fun y hy e => by rw [ok.uniq y hy, e]) (thn (hi.run pins s σ H _ I h) fun xv s1 hx => thn hx fun itv s2 h2 => ?_)
  obtain ⟨it, fp, tn, J, H2, e, I2, T, st2, f2, q⟩ := h2
  subst e
  refine hmk _ _ (newEnv_comp ?_)
  have I3 := hob I2
  generalize hD : s2.heap.objs.size = D at I3 ⊢
  have hDn : H2 D = none := I2.hok.fresh (Nat.le_of_eq hD)
  obtain ⟨W, ⟨m0, w0⟩, turn⟩ := q D hDn
  generalize hs3 : ({ s2 with heap := s2.heap.push ob } : Shared) = s3 at I3
  have h3 : s3.heap = s2.heap.push ob := by rw [← hs3]
  have sz : ∀ b ∈ fp, b < s2.heap.objs.size := fun b hb => (T.obj _ _ st2 b hb).elim fun o e => Heap.lt_size e.1
  have f3 : ∀ b ∈ fp, FpOk X pins (upd H2 D o0) b ∧ b < s3.heap.objs.size := fun b hb => by
    have hlt := sz b hb
    refine ⟨⟨?_, (f2 b hb).2⟩, by rw [h3, Heap.size_push]; exact Nat.lt_succ_of_lt hlt⟩
    rw [upd_ne (by rw [← hD]; exact Nat.ne_of_lt hlt)]; exact (f2 b hb).1
  have st3 : tn 0 s3.heap := T.keep _ _ _ st2 fun b _ o e => by rw [h3]; exact Heap.get?_push_of_some _ e
  have I4 := block_start I3 ok hN f3
  have pg := hg s3 (upd H2 D o0) s3.heap.objs.size (cellsFrom (s3.heap.objs.size + 1) scope.names (cloFrom X.env.cells scope.names [])) fp
  have pt := ht s3 (upd H2 D o0) s3.heap.objs.size (cellsFrom (s3.heap.objs.size + 1) scope.names (cloFrom X.env.cells scope.names [])) fp
  have pb := hp s3 (upd H2 D o0) s3.heap.objs.size (cellsFrom (s3.heap.objs.size + 1) scope.names (cloFrom X.env.cells scope.names [])) fp D
  show codeAny _ _ (.compStart c 0 (.ref it) (.ref D) (compEnvC scope (cellsFrom (s3.heap.objs.size + 1) scope.names (cloFrom X.env.cells scope.names [])) s3.heap.objs.size X.env)) (compPost (model X.prog X.w) X.A X.xe use Qf (.ref D) s3.heap.objs.size) { s3 with heap := pushCells (s3.heap.push { cls := .type "dict", data := .dict #[] }) scope.names }
  have nfp : ∀ b ∈ fp, (upd H2 D o0) b = none := fun b hb => (f3 b hb).1.1
  generalize hce : compEnvC scope (cellsFrom (s3.heap.objs.size + 1) scope.names (cloFrom X.env.cells scope.names [])) s3.heap.objs.size X.env = ce at I4 pg pt pb ⊢
  have cL : ce.locals = s3.heap.objs.size := by subst hce; rfl
  generalize hH3 : upd H2 D o0 = H3 at I3 I4 pg pt pb w0 nfp f3
  generalize hs4 : ({ s3 with heap := pushCells (s3.heap.push { cls := .type "dict", data := .dict #[] }) scope.names } : Shared) = s4 at I4 ⊢
  have st4 : tn 0 s4.heap := T.keep _ _ _ st3 fun b _ o e => by rw [← hs4]; exact pushCells_keeps _ _ _ _ (Heap.get?_push_of_some _ e)
  have stat : ∀ {σ' : L2.St} {H' : Hp} {s' : Shared}, Inv (X.blk s3 H3 scope ce fp) [] σ' H' s' → (∀ b ∈ fp, H' b = none) → ∀ b ∈ fp, FpOk (X.blk s3 H3 scope ce fp) [] H' b := fun {σ' H' s'} I' hn b hb =>
    ⟨hn b hb, (I'.ok.exf b hb).1, I'.ok.exfs b hb, .inl hb, fun x c e => (I'.ok.exf b hb).2 x c e, fun p hp => absurd (show p ∈ ([] : List (Addr × Obj)) ++ [] from hp) (by simp)⟩
  have loop : codeAny (model X.prog X.w) X.A (.compLoop c 0 (.ref it) (.ref D) ce) (compPost (model X.prog X.w) X.A X.xe use Qf (.ref D) s3.heap.objs.size) s4 := by
    refine loopC hk heq (fun n s' => ∃ i H', Inv (X.blk s3 H3 scope ce fp) [] (wipe σ (own.map (·.2))) H' s' ∧ tn i s'.heap ∧ (∀ b ∈ fp, H' b = none) ∧ W i n H') ?_ m0 ⟨0, H3, I4, st4, nfp, w0⟩
    rintro n s5 ⟨i, H5, I5, st5, n5, w5⟩
    rcases turn i n H5 w5 with ⟨stop, qq⟩ | ⟨go, Nx, hNx, step⟩
    · refine thnF (T.done (X.blk s3 H3 scope ce fp) rfl rfl rfl hc i [] s5 _ H5 (fun _ _ => False) I5 (stat I5 n5) st5 stop) fun r s6 ⟨hr, I6⟩ => ?_
      subst hr
      have I7 : Inv X pins σ H5 s6 := I3.call' (ch := fp) I6.os I6.base I6.hok I6.bare fun b hb => ⟨(f3 b hb).1.2.2.2.1, (f3 b hb).1.2.1, (f3 b hb).1.2.2.2.2.1, (f3 b hb).1.2.2.2.2.2⟩
      have nC : H5 s3.heap.objs.size = none := by
        have z : H5 ce.locals = none := I6.free
        rw [cL] at z; exact z
      obtain ⟨m, hn, _⟩ := I6.loc
      have hn : s6.heap.Ns ce.locals m := hn
      rw [cL] at hn
      exact hRR D s3.heap.objs.size s6 m H5 I7 qq hn (I3.fpOk (Nat.le_refl _) nC)
    · refine thnF (T.item (X.blk s3 H3 scope ce fp) rfl rfl rfl hc i [] s5 _ H5 (fun _ _ => False) I5 (stat I5 n5) st5 go) fun r s6 ⟨u, hr, h6⟩ => ?_
      subst hr
      refine thnF h6 fun _ s7 ⟨x, H7, I7, r7, y7, st7, n7⟩ => ?_
      have I7' := I7.pinned (stat I7 n7) (T.obj _ _ st7)
      refine thnF (pg.run _ s7 _ H7 x u _ I7' r7 (step x H7 y7)) fun _ s8 ⟨σ8, H8, I8, hw8, q8⟩ => ?_
      refine thnF (pt.run _ s8 σ8 H8 _ I8 q8) fun b s9 ⟨H9, I9, q9⟩ => ?_
      have fin : ∀ {σ9 : L2.St} {s' : Shared} {H' : Hp}, Inv (X.blk s3 H3 scope ce fp) ([] ++ pinsAt fp s7.heap) σ9 H' s' → (wipe σ (own.map (·.2))).length = σ9.length → (∀ (j : Nat) v, (wipe σ (own.map (·.2)))[j]? = some (some v) → σ9[j]? = some (some v)) → Nx H' →
          ∃ m, m < n ∧ ∃ i H', Inv (X.blk s3 H3 scope ce fp) [] (wipe σ (own.map (·.2))) H' s' ∧ tn i s'.heap ∧ (∀ b ∈ fp, H' b = none) ∧ W i m H' := fun {σ9 s' H'} I' hl hk nx => by
        obtain ⟨m', hm, w'⟩ := hNx H' nx
        have pin' : ∀ b ∈ fp, ∀ o, s7.heap.get? b = some o → s'.heap.get? b = some o ∧ H' b = none := fun b hb o e =>
          have z := I'.pin (b, o) (List.mem_append_right _ (List.mem_append_right _ (mem_pinsAt hb e)))
          ⟨z.1, z.2.1⟩
        refine ⟨m', hm, i + 1, H', (I'.unpinned (pins := [])).weak hl hk, T.keep _ _ _ st7 fun b hb o e => (pin' b hb o e).1, fun b hb => ?_, w'⟩
        obtain ⟨o, e, _⟩ := T.obj _ _ st7 b hb
        exact (pin' b hb o e).2
      have hl8 : (wipe σ (own.map (·.2))).length = σ8.length := by rw [← hw8, wipe_length]
      cases b with
      | false =>
        simp only [Bool.false_eq_true, if_false] at q9 ⊢
        exact fin I9 hl8 (fun j v e => by rw [← hw8] at e; exact (wipe_some e).1) q9
      | true =>
        simp only [if_true] at q9 ⊢
        intro k2 Q2 E2 kk2
        refine pb.run _ s9 σ8 H9 _ k2 Q2 E2 I9 q9 fun s10 H10 I10 nx10 => kk2 _ ?_
        refine fin I10 (hl8.trans (wipe_length σ8 ws).symm) (fun j v e => ?_) nx10
        rw [← hw8] at e
        obtain ⟨e1, e2⟩ := wipe_some e
        rw [L2.wipe_out fun z => e2 (hws j z)]
        exact e1
  exact startC hk (by rw [hcl]; rfl) loop (T.self X.A 0 _ _ _ st4 loop)
theorem mk_list {s : Shared} {Q : Value → Shared → Prop} (q : Q (.ref s.heap.objs.size) { s with heap := s.heap.push { cls := .type "list", data := .seq ([] : List Value).toArray } }) : wpAny (model X.prog X.w) X.A (newList []) Q X.xe s := wpAny_newObj_type q (by show 0 ≤ sizeLine; decide)
theorem mk_dict {s : Shared} {Q : Value → Shared → Prop} (q : Q (.ref s.heap.objs.size) { s with heap := s.heap.push { cls := .type "dict", data := .dict #[] } }) : wpAny (model X.prog X.w) X.A newDict Q X.xe s := wpAny_newObj_type q
theorem ob_list {pins : List (Addr × Obj)} {σ : L2.St} {H : Hp} {s : Shared} (I : Inv X pins σ H s) : Inv X pins σ (upd H s.heap.objs.size (.lst [])) { s with heap := s.heap.push { cls := .type "list", data := .seq ([] : List Value).toArray } } :=
  I.laid (t' := s.toks) (fun b o e => Heap.get?_push_of_some _ e) (Nat.le_refl _) ⟨Nat.zero_le _, [], 0, .nil, Heap.get?_push_size _ rfl⟩
theorem ob_dict {pins : List (Addr × Obj)} {σ : L2.St} {H : Hp} {s : Shared} (I : Inv X pins σ H s) : Inv X pins σ (upd H s.heap.objs.size (.dK [])) { s with heap := s.heap.push { cls := .type "dict", data := .dict #[] } } :=
  I.laid (t' := s.toks) (fun b o e => Heap.get?_push_of_some _ e) (Nat.le_refl _) (dk_empty s.heap I.big)
section
variable {tg iter elt kx vx : Expr} {ifs : List Expr} {rest : List Comprehension} {scope : Scope} {own : List (Str × Nat)} {pos : Pos} {wi : TI} {g : TG} {tt : TT} {t : Addr → TB} {ws : List Nat} {pay : Value → Env → Sem PySem.Fin → Sem PySem.Fin}
/-- [..], of any number of clauses -/
theorem pe_lcN (heq : TurnIs (.ListComp elt (⟨tg, iter, ifs, 0⟩ :: rest) scope pos) tg iter ifs pay 0) (hc : X.calm = true) (hN : X.N.Nodup) (hi : PI X tg iter wi) (ok : BlkOk X.N X.env.scope scope own) (hws : ∀ i ∈ ws, i ∈ own.map (·.2))
    (hg : ∀ (s : Shared) (H : Hp) (C : Addr) (cl : List (Str × Addr)) (fp : List Addr), PG (X.blk s H scope (compEnvC scope cl C X.env) fp) tg g) (ht : ∀ (s : Shared) (H : Hp) (C : Addr) (cl : List (Str × Addr)) (fp : List Addr), PTs (X.blk s H scope (compEnvC scope cl C X.env) fp) ifs tt)
    (hp : ∀ (s : Shared) (H : Hp) (C : Addr) (cl : List (Str × Addr)) (fp : List Addr) (D : Addr), PBd (X.blk s H scope (compEnvC scope cl C X.env) fp) (pay (.ref D) (compEnvC scope cl C X.env)) ws (t D)) (hs : ∀ x, foldedSetIterable iter X.env x = pure x := by intro _; rfl) :
    PE X (.ListComp elt (⟨tg, iter, ifs, 0⟩ :: rest) scope pos) (tComp (.lst []) wi g tt t (own.map (·.2))) := by
  refine ⟨fun pins s σ H Q I h => ?_⟩
  rw [eval_ListComp]
  refine comp_core (.l ..) rfl heq (fun s Q q => mk_list q) ob_list hc hN I hi ok hws hg ht hp hs h fun D C s' m H' I' q hn f => ⟨m, hn, fun h'' sb => ?_⟩
  obtain ⟨f0, f1, f2, f3, f4, f5⟩ := f
  exact ⟨.ref D, H', I'.turned (t' := s'.toks) (fun b o hb e => (sb.2 b hb).trans e) f0 f1 f3 f4 f5, rfl, q⟩
/-- {k: v ..}, of any number of clauses, keys numbers and texts -/
theorem pe_dcN (heq : TurnIs (.DictComp kx vx (⟨tg, iter, ifs, 0⟩ :: rest) scope pos) tg iter ifs pay 0) (hc : X.calm = true) (hN : X.N.Nodup) (hi : PI X tg iter wi) (ok : BlkOk X.N X.env.scope scope own) (hws : ∀ i ∈ ws, i ∈ own.map (·.2))
    (hg : ∀ (s : Shared) (H : Hp) (C : Addr) (cl : List (Str × Addr)) (fp : List Addr), PG (X.blk s H scope (compEnvC scope cl C X.env) fp) tg g) (ht : ∀ (s : Shared) (H : Hp) (C : Addr) (cl : List (Str × Addr)) (fp : List Addr), PTs (X.blk s H scope (compEnvC scope cl C X.env) fp) ifs tt)
    (hp : ∀ (s : Shared) (H : Hp) (C : Addr) (cl : List (Str × Addr)) (fp : List Addr) (D : Addr), PBd (X.blk s H scope (compEnvC scope cl C X.env) fp) (pay (.ref D) (compEnvC scope cl C X.env)) ws (t D)) (hs : ∀ x, foldedSetIterable iter X.env x = pure x := by intro _; rfl) :
    PE X (.DictComp kx vx (⟨tg, iter, ifs, 0⟩ :: rest) scope pos) (tComp (.dK []) wi g tt t (own.map (·.2))) := by
  refine ⟨fun pins s σ H Q I h => ?_⟩
  rw [arm_eval_DictComp]
  refine comp_core (.d ..) rfl heq (fun s Q q => mk_dict q) ob_dict hc hN I hi ok hws hg ht hp hs h fun D C s' m H' I' q hn f => ⟨m, hn, fun h'' sb => ?_⟩
  obtain ⟨f0, f1, f2, f3, f4, f5⟩ := f
  exact ⟨.ref D, H', I'.turned (t' := s'.toks) (fun b o hb e => (sb.2 b hb).trans e) f0 f1 f3 f4 f5, rfl, q⟩
end
end
end Ev

/-! # Comprehensions of any number of clauses, over data -/
namespace Ev
open PySem PySem.Spec PyProof.Rows L2
variable [TabC]
variable {S S' H H' : Hp} {B : Bs} {δ : DS} {σ : L2.St}
/-- what is gathered: a list, a dict -/
structure AccK (K : PySem.W.Frag) (α : Type) where
  β : Type
  ob : β → HO
  rel : Hp → β → α → Prop
  nt : ∀ b vs, ob b ≠ .tup vs
  pl : ∀ b, HO.plain (ob b) = true
  mono : ∀ {S S' : Hp} {b : β} {a : α}, Ex S S' → rel S b a → rel S' b a
def accL (K : PySem.W.Frag) : AccK K (List D) := ⟨List V, .lst, fun S vs ds => DnA K S vs ds, (fun _ _ z => nomatch z), fun _ => rfl, fun e h => h.mono e⟩
def accD (K : PySem.W.Frag) : AccK K (List (Key × D)) := ⟨List (Key × V), .dK, fun S vs ds => KvR K S vs ds, (fun _ _ z => nomatch z), fun _ => rfl, fun e h => ⟨h.1, h.2.mono e⟩⟩
abbrev dBd (α : Type) := α → DS → (α → DS → Prop) → Prop
def bEl (te : dE) : dBd (List D) := fun acc δ Q => te W0 δ fun y δ' => acc.length < sizeLine ∧ Q (acc ++ [y]) δ'
def bEd (tk tv : dE) : dBd (List (Key × D)) := fun acc δ Q => tk W0 δ fun y δ1 => tv W0 δ1 fun z δ2 => optQ y.key fun k => acc.length < sizeLine ∧ Q (putD acc k z) δ2
def wNest {α : Type} (g : dG) (tt : dT) (b : dBd α) (vs : List Nat) (Q : α → DS → Prop) : List D → α → DS → Prop
  | [], acc, δ => Q acc δ
  | d :: ds, acc, δ => g d δ fun δ1 => tt W0 δ1 fun k δ2 => match k with
    | true => b acc δ2 fun acc' δ3 => wNest g tt b vs Q ds acc' (wipeD δ3 vs)
    | false => wNest g tt b vs Q ds acc (wipeD δ2 vs)
def bNest {α : Type} (w : dI) (g : dG) (tt : dT) (b : dBd α) (vs : List Nat) : dBd α := fun acc δ Q => w W0 δ fun ds δ1 => wNest g tt b vs Q ds acc (wipeD δ1 vs)
def dLN (w : dI) (g : dG) (tt : dT) (b : dBd (List D)) (vs : List Nat) : dF := fun W δ Q => w W δ fun ds δ1 => wNest g tt b vs Q ds [] (wipeD δ1 vs)
def dDN (w : dI) (g : dG) (tt : dT) (b : dBd (List (Key × D))) (vs : List Nat) : dE := fun W δ Q => w W δ fun ds δ1 => wNest g tt b vs (fun es δ2 => Q (.dK es) δ2) ds [] (wipeD δ1 vs)
def liftBd {K : PySem.W.Frag} {α : Type} (A : AccK K α) (b : dBd α) (vs : List Nat) (L : Addr) : TB := fun σ H Nx => ∃ (B : Bs) (δ : DS) (S : Hp) (acc : α) (vacc : A.β) (Q' : α → DS → Prop), B.H0 L = none ∧ B.pa ≠ some L ∧ S L = none ∧ Rel K (B.with L (A.ob vacc)) δ S σ H ∧ A.rel S vacc acc ∧ b acc δ Q' ∧
  ∀ acc' δ' S' H' vacc', Q' acc' δ' → Ex S S' → Rel K (B.with L (A.ob vacc')) δ' S' (L2.wipe σ vs) H' → A.rel S' vacc' acc' → Nx H'
structure DBd {α : Type} (X : Cx) (pay : Addr → Sem PySem.Fin → Sem PySem.Fin) (A : AccK X.K α) (vs : List Nat) (b : dBd α) : Prop where
  run : ∀ L, PBd X (pay L) vs (liftBd A b vs L)
theorem pbd_mono {X : Cx} {p : Sem PySem.Fin → Sem PySem.Fin} {vs : List Nat} {t t' : TB} (h : PBd X p vs t) (m : ∀ σ H Nx, t' σ H Nx → t σ H Nx) : PBd X p vs t' := ⟨fun pins s σ H Nx k Q E I q kk => h.run pins s σ H Nx k Q E I (m _ _ _ q) kk⟩
theorem Rel.noL {K : PySem.W.Frag} {L : Addr} {o : HO} (R : Rel K (B.with L o) δ S σ H) (h : B.S0 L = none) : S L = none := R.fr.no L o upd_same h
section
variable {X : Cx} {E E2 : EK} {elt kx vx tg iter : Expr} {te tk tv : dE} {w : dI} {g : dG} {tt : dT} {ifs : List Expr} {α : Type}
theorem dbd_L (hx : X.xe = fun _ _ => False) (he : DE X E elt te) : DBd X (fun L => payE (emL elt (.ref L) X.env)) (accL X.K) [] (bEl te) := ⟨fun L => pbd_mono (pbd_L (te := exE X.K E te) hx (exE_ok he)) fun σ H Nx q => by
  obtain ⟨B, δ, S, acc, (vacc : List V), Q', f1, f2, sL, R, r, q, post⟩ := q
  refine ⟨B.with L (.lst vacc), δ, S, W0, _, R, q, xok0, fun y δ1 v S1 H1 q1 e1 R1 n1 => ?_⟩
  have r : DnA X.K S vacc acc := r
  have s1 : S1 L = none := R1.fr.no L _ upd_same (by
    have := R.fr.s
    cases z : (B.with L (.lst vacc)).S0 L with
    | none => rfl
    | some o => rw [this L o z] at sL; cases sL)
  refine ⟨vacc, R1.fr.pl upd_same f2, by rw [r.length]; exact q1.1, ?_⟩
  exact post _ _ _ _ (vacc ++ [v]) q1.2 e1 (R1.with_upd (o' := .lst (vacc ++ [v])) f1 f2 s1 (fun vs z => HO.noConfusion z)) ((r.mono e1).append (.cons n1 .nil))⟩
theorem dbd_D (hx : X.xe = fun _ _ => False) (hk : DE X E kx tk) (hv : DE X E vx tv) : DBd X (fun L => payE (emD kx vx (.ref L) X.env)) (accD X.K) [] (bEd tk tv) := ⟨fun L => pbd_mono (pbd_D (tk := exE X.K E tk) (tv := exE X.K E tv) hx (exE_ok hk) (exE_ok hv)) fun σ H Nx q => by
  obtain ⟨B, δ, S, acc, (vacc : List (Key × V)), Q', f1, f2, sL, R, r, q, post⟩ := q
  have r : KvR X.K S vacc acc := r
  have s0 : (B.with L (.dK vacc)).S0 L = none := by
    have := R.fr.s
    cases z : (B.with L (.dK vacc)).S0 L with
    | none => rfl
    | some o => rw [this L o z] at sL; cases sL
  refine ⟨B.with L (.dK vacc), δ, S, W0, _, R, q, xok0, fun y δ1 u S1 H1 q1 e1 R1 n1 => ?_⟩
  refine ⟨B.with L (.dK vacc), δ1, S1, W0, _, R1, q1, xok0, fun z δ2 v S2 H2 q2 e2 R2 n2 => ?_⟩
  obtain ⟨k, hk, hz, q3⟩ := optQ_ex q2
  have ek := n1.key hk
  have r2 : KvR X.K S2 vacc acc := ⟨r.1, r.2.mono (e1.trans e2)⟩
  have hl : vacc.length = acc.length := by have := congrArg List.length r.1; rw [List.length_map, List.length_map] at this; exact this
  refine ⟨vacc, k, ek, R2.fr.pl upd_same f2, by omega, ?_⟩
  exact post _ _ _ _ (putK vacc k v) q3 (e1.trans e2) (R2.with_upd (o' := .dK (putK vacc k v)) f1 f2 (R2.fr.no L _ upd_same s0) (fun vs z => HO.noConfusion z)) (KvR.put r2 n2 k)⟩
def exI (K : PySem.W.Frag) (E : EK) (w : dI) : TI := fun σ H R => ∃ B, liftI K B E w σ H R
theorem exI_ok (h : DI X E tg iter w) : PI X tg iter (exI X.K E w) := ⟨fun pins s σ H R I ⟨B, q⟩ => (h.run B).run pins s σ H R I q⟩
/-- the loop of a clause -/
theorem nest_read {K : PySem.W.Frag} {A : AccK K α} {b : dBd α} {vs vs2 ws : List Nat} {ds : List D} {J : It} {S1 H1 : Hp} {δ1 : DS} {acc : α} {vacc : A.β} {L : Addr} {Qd : α → DS → Prop} {QQ : Hp → Prop} (hws : ∀ i ∈ ws, i ∈ vs) (hvs : ∀ i ∈ vs2, i ∈ vs) (f1 : B.H0 L = none) (f2 : B.pa ≠ some L) (s0 : B.S0 L = none)
    (it1 : ItOk K J ds S1) (R1 : Rel K (B.with L (A.ob vacc)) δ1 S1 (L2.wipe σ vs) H1) (r1 : A.rel S1 vacc acc) (hun : ∀ j ∈ vs, j < δ1.sl.length → δ1.sl[j]? = some .un) (q1 : wNest g tt b vs Qd ds acc δ1)
    (post : ∀ acc' δ' S' H' vacc', Qd acc' δ' → (∀ j ∈ vs, j < δ'.sl.length → δ'.sl[j]? = some .un) → Ex S1 S' → Rel K (B.with L (A.ob vacc')) δ' S' (L2.wipe σ vs) H' → A.rel S' vacc' acc' → QQ H') :
    ∃ W : Nat → Nat → Hp → Prop, (∃ m, W 0 m H1) ∧ ∀ i m H, W i m H → (J.stop i H ∧ QQ H) ∨ (J.go i H ∧ ∃ N1 : Hp → Prop, (∀ H', N1 H' → ∃ m', m' < m ∧ W (i + 1) m' H') ∧ ∀ x H', J.yld i H x H' → exG K g ws x (L2.wipe σ vs) H' fun σ2 H2 => L2.wipe σ2 vs = L2.wipe σ vs ∧ exT K E2 tt σ2 H2 fun k H3 => if k = true then liftBd A b vs2 L σ2 H3 N1 else N1 H3) := by
  have Ln : ∀ {δ S2 σ2 H2 o}, Rel K (B.with L o) δ S2 σ2 H2 → S2 L = none := fun {δ S2 σ2 H2 o} R2 => R2.fr.no L o upd_same s0
  let Inv : Nat → Hp → Prop := fun i H2 => ∃ δ2 S2 acc vacc, Ex S1 S2 ∧ Rel K (B.with L (A.ob vacc)) δ2 S2 (L2.wipe σ vs) H2 ∧ A.rel S2 vacc acc ∧ wNest g tt b vs Qd (ds.drop i) acc δ2 ∧ (∀ j ∈ vs, j < δ2.sl.length → δ2.sl[j]? = some .un)
  refine ⟨fun i m H2 => m = ds.length - i ∧ i ≤ ds.length ∧ Inv i H2, ⟨_, rfl, Nat.zero_le _, δ1, S1, acc, vacc, Ex.refl _, R1, r1, q1, hun⟩, ?_⟩
  rintro i m H2 ⟨rfl, hi, δ2, S2, acc, vacc, e2, R2, nacc, q2, hun⟩
  by_cases hlt : i < ds.length
  · refine .inr ⟨it1.goes i S2 H2 e2 R2.ex hlt, fun H' => i + 1 ≤ ds.length ∧ Inv (i + 1) H', fun H' h => ⟨ds.length - (i + 1), by omega, rfl, h⟩, fun x H3 y => ?_⟩
    obtain ⟨S3, d, g3, ed, dn⟩ := it1.yields i S2 H2 x H3 e2 R2.ex hlt y
    have hd : ds.drop i = d :: ds.drop (i + 1) := by
      obtain ⟨h1, h2⟩ := List.getElem?_eq_some_iff.mp ed
      rw [List.drop_eq_getElem_cons h1, h2]
    rw [hd] at q2
    refine ⟨B.with L (A.ob vacc), δ2, S3, d, _, R2.grow g3, dn, q2, fun δ4 σ4 S4 H4 q4 e4 R4 a4 l4 => ?_⟩
    have hw : L2.wipe σ4 vs = L2.wipe σ vs := wipe_agree (l4.trans (wipe_length σ vs)) (fun j hj => by rw [a4 j (fun z => hj (hws j z)), wipe_notin hj]) (fun _ h => h)
    refine ⟨hw, B.with L (A.ob vacc), δ4, S4, W0, _, R4, q4, xok0, fun k δ5 S5 H5 q5 e5 R5 => ?_⟩
    have e15 := e2.trans (g3.s.trans (e4.trans e5))
    cases k with
    | true =>
      refine iteT ⟨B, δ5, S5, acc, vacc, _, f1, f2, Ln R5, R5, A.mono (g3.s.trans (e4.trans e5)) nacc, q5, fun acc' δ6 S6 H6 vacc' q6 e6 R6 r6 => ?_⟩
      refine ⟨hlt, wipeD δ6 vs, S6, acc', vacc', e15.trans e6, ?_, r6, q6, fun j hj hl => wipeD_un δ6 hj (by rw [wipeD_len] at hl; exact hl)⟩
      have := R6.wipe vs
      rw [show L2.wipe (L2.wipe σ4 vs2) vs = L2.wipe σ vs from (by rw [← hw]; exact wipe_agree (wipe_length σ4 vs2) (fun j hj => wipe_notin hj) hvs)] at this
      exact this
    | false =>
      refine iteF ⟨hlt, wipeD δ5 vs, S5, acc, vacc, e15, ?_, A.mono (g3.s.trans (e4.trans e5)) nacc, q5, fun j hj hl => wipeD_un δ5 hj (by rw [wipeD_len] at hl; exact hl)⟩
      have := R5.wipe vs
      rw [hw] at this
      exact this
  · have e : i = ds.length := by omega
    subst e
    rw [List.drop_length] at q2
    exact .inl ⟨it1.stops S2 H2 e2 R2.ex, post acc δ2 S2 H2 vacc q2 hun e2 R2 nacc⟩
theorem Rel.re {K : PySem.W.Frag} {vs : List Nat} (R : Rel K B δ S (L2.wipe σ vs) H) (hun : ∀ j ∈ vs, j < δ.sl.length → δ.sl[j]? = some .un) : Rel K B δ S σ H := by
  have hl : σ.length = (L2.wipe σ vs).length := (wipe_length σ vs).symm
  refine R.agree hl fun j => ?_
  by_cases hj : j ∈ vs
  · by_cases hk : j < δ.sl.length
    · exact .inr (hun j hj hk)
    · left
      have h1 : σ.length ≤ j := by rw [hl, R.len]; omega
      rw [List.getElem?_eq_none h1, List.getElem?_eq_none (by rw [wipe_length]; exact h1)]
  · exact .inl (wipe_notin hj).symm
theorem dbd_nest {c : Expr} {gs : List Comprehension} {pay : Value → Env → Sem PySem.Fin → Sem PySem.Fin} {j : Nat} {A : AccK X.K α} {b : dBd α} {vs vs2 ws : List Nat} (hc : X.calm = true) (hx : X.xe = fun _ _ => False) (hgs : gs[j]? = some ⟨tg, iter, ifs, 0⟩) (hcl : clausesOf c = gs) (hk : IsLD c) (heq : TurnIs c tg iter ifs pay j)
    (hi : DI X E tg iter w) (hg : DG X tg g ws) (ht : DTs X E2 ifs tt) (hb : DBd X (fun L => pay (.ref L) X.env) A vs2 b) (hws : ∀ i ∈ ws, i ∈ vs) (hvs : ∀ i ∈ vs2, i ∈ vs) (hs : ∀ env x, foldedSetIterable iter env x = pure x) :
    DBd X (fun L => payN c iter j (.ref L) X.env) A vs (bNest w g tt b vs) := ⟨fun L => pbd_mono (pbd_nest hc hx hgs hcl hk heq (exI_ok hi) (exG_ok hg) (exT_ok ht) (hb.run L) hvs hs) fun σ H Nx q => by
  obtain ⟨B, δ, S, acc, vacc, Q', f1, f2, sL, R, r, q, post⟩ := q
  have s0 : B.S0 L = none := by
    have := R.fr.s
    cases z : B.S0 L with
    | none => rfl
    | some o => rw [this L o z] at sL; cases sL
  refine ⟨B.with L (A.ob vacc), δ, S, W0, _, R, q, xok0, fun ds δ1 S1 H1 J q1 e1 R1 it1 => ?_⟩
  exact nest_read (σ := σ) hws hvs f1 f2 s0 it1 (R1.wipe vs) (A.mono e1 r) (fun j hj hl => wipeD_un δ1 hj (by rw [wipeD_len] at hl; exact hl)) q1 fun acc' δ' S' H' vacc' q' _ e' R' r' => post _ _ _ _ vacc' q' (e1.trans e') R' r'⟩
variable {rest : List Comprehension} {scope : Scope} {own : List (Str × Nat)} {pos : Pos} {ws vs2 : List Nat} {pay : Value → Env → Sem PySem.Fin → Sem PySem.Fin}
theorem df_lcN {b : dBd (List D)} (heq : TurnIs (.ListComp elt (⟨tg, iter, ifs, 0⟩ :: rest) scope pos) tg iter ifs pay 0) (hc : X.calm = true) (hN : X.N.Nodup) (hi : DI X E tg iter w) (ok : BlkOk X.N X.env.scope scope own) (hws : ∀ i ∈ ws, i ∈ own.map (·.2)) (hvs : ∀ i ∈ vs2, i ∈ own.map (·.2))
    (hg : ∀ (s : Shared) (H : Hp) (C : Addr) (cl : List (Str × Addr)) (fp : List Addr), DG (X.blk s H scope (compEnvC scope cl C X.env) fp) tg g ws) (ht : ∀ (s : Shared) (H : Hp) (C : Addr) (cl : List (Str × Addr)) (fp : List Addr), DTs (X.blk s H scope (compEnvC scope cl C X.env) fp) E2 ifs tt)
    (hb : ∀ (s : Shared) (H : Hp) (C : Addr) (cl : List (Str × Addr)) (fp : List Addr), DBd (X.blk s H scope (compEnvC scope cl C X.env) fp) (fun L => pay (.ref L) (compEnvC scope cl C X.env)) (accL X.K) vs2 b) (hs : ∀ x, foldedSetIterable iter X.env x = pure x := by intro _; rfl) :
    DF X E (.ListComp elt (⟨tg, iter, ifs, 0⟩ :: rest) scope pos) (dLN w g tt b (own.map (·.2))) := ⟨fun B => pe_mono (pe_lcN heq hc hN (hi.run B) ok hvs (fun s H C cl fp => exG_ok (hg s H C cl fp)) (fun s H C cl fp => exT_ok (ht s H C cl fp)) (fun s H C cl fp L => (hb s H C cl fp).run L) hs) fun σ H Q q => by
  obtain ⟨δ, S, W, Q', R, q, xo, post⟩ := q
  refine ⟨δ, S, W, _, R, q, xo, fun ds δ1 S1 H1 J q1 e1 R1 it1 L hL => ?_⟩
  obtain ⟨f1, f2⟩ := R1.fr.fresh hL
  have s1L : S1 L = none := R1.ex.none hL
  refine nest_read (E2 := E2) (A := accL X.K) (acc := ([] : List D)) (vacc := ([] : List V)) (σ := σ) (QQ := fun H' => Q (.ref L) H') hws hvs f1 f2 (R1.fr.s.none s1L) it1 ((R1.with_ hL (fun vs z => HO.noConfusion z)).wipe (own.map (·.2))) .nil (fun j hj hl => wipeD_un δ1 hj (by rw [wipeD_len] at hl; exact hl)) q1 fun acc' δ' S' H' vacc' q' hun e' R' r' => ?_
  have l2 := R'.noL (R1.fr.s.none s1L)
  obtain ⟨R3, _, eH⟩ := R'.unwith f1 f2 l2
  show Q (.ref L) H'
  rw [eH]
  exact post acc' δ' L vacc' S' _ q' (e1.trans e') (R3.re hun) hide_same r'⟩
theorem de_dcN {b : dBd (List (Key × D))} (heq : TurnIs (.DictComp kx vx (⟨tg, iter, ifs, 0⟩ :: rest) scope pos) tg iter ifs pay 0) (hc : X.calm = true) (hN : X.N.Nodup) (hi : DI X E tg iter w) (ok : BlkOk X.N X.env.scope scope own) (hws : ∀ i ∈ ws, i ∈ own.map (·.2)) (hvs : ∀ i ∈ vs2, i ∈ own.map (·.2))
    (hg : ∀ (s : Shared) (H : Hp) (C : Addr) (cl : List (Str × Addr)) (fp : List Addr), DG (X.blk s H scope (compEnvC scope cl C X.env) fp) tg g ws) (ht : ∀ (s : Shared) (H : Hp) (C : Addr) (cl : List (Str × Addr)) (fp : List Addr), DTs (X.blk s H scope (compEnvC scope cl C X.env) fp) E2 ifs tt)
    (hb : ∀ (s : Shared) (H : Hp) (C : Addr) (cl : List (Str × Addr)) (fp : List Addr), DBd (X.blk s H scope (compEnvC scope cl C X.env) fp) (fun L => pay (.ref L) (compEnvC scope cl C X.env)) (accD X.K) vs2 b) (hs : ∀ x, foldedSetIterable iter X.env x = pure x := by intro _; rfl) :
    DE X E (.DictComp kx vx (⟨tg, iter, ifs, 0⟩ :: rest) scope pos) (dDN w g tt b (own.map (·.2))) := ⟨fun B => pe_mono (pe_dcN heq hc hN (hi.run B) ok hvs (fun s H C cl fp => exG_ok (hg s H C cl fp)) (fun s H C cl fp => exT_ok (ht s H C cl fp)) (fun s H C cl fp L => (hb s H C cl fp).run L) hs) fun σ H Q q => by
  obtain ⟨δ, S, W, Q', R, q, xo, post⟩ := q
  refine ⟨δ, S, W, _, R, q, xo, fun ds δ1 S1 H1 J q1 e1 R1 it1 L hL => ?_⟩
  obtain ⟨f1, f2⟩ := R1.fr.fresh hL
  have s1L : S1 L = none := R1.ex.none hL
  refine nest_read (E2 := E2) (A := accD X.K) (acc := ([] : List (Key × D))) (vacc := ([] : List (Key × V))) (σ := σ) (QQ := fun H' => Q (.ref L) H') hws hvs f1 f2 (R1.fr.s.none s1L) it1 ((R1.with_ hL (fun vs z => HO.noConfusion z)).wipe (own.map (·.2))) ⟨rfl, .nil⟩ (fun j hj hl => wipeD_un δ1 hj (by rw [wipeD_len] at hl; exact hl)) q1 fun acc' δ' S' H' vacc' q' hun e' R' r' => ?_
  have l2 := R'.noL (R1.fr.s.none s1L)
  obtain ⟨R3, _, eH⟩ := R'.unwith f1 f2 l2
  show Q (.ref L) H'
  rw [eH]
  have g0 := Grow.new (o := .dK vacc') R3.ex (p := L) hide_same
  have r' : KvR X.K S' vacc' acc' := r'
  exact post _ _ _ _ _ q' ((e1.trans e').trans g0.s) ((R3.re hun).grow g0) (.dK upd_same r'.1 (r'.2.mono g0.s))⟩
end
end Ev

/-! # Lambdas: made, handed to a def, called there -/
namespace Ev
open PySem PySem.Spec PyProof.Rows L2
variable [TabC]
/-! ### data without lambdas -/
mutual
def D.nf : D → Bool
  | .fn _ _ => false
  | .tup xs => D.nfs xs
  | .kt xs => D.nfs xs
  | .lst xs => D.nfs xs
  | .dK es => D.nfk es
  | .dT es => D.nft es
  | .fK es => D.nfk es
  | .fT es => D.nft es
  | _ => true
def D.nfs : List D → Bool
  | [] => true
  | x :: xs => x.nf && D.nfs xs
def D.nfk : List (Key × D) → Bool
  | [] => true
  | (_, x) :: xs => x.nf && D.nfk xs
def D.nft : List (List Key × D) → Bool
  | [] => true
  | (_, x) :: xs => x.nf && D.nft xs
end
theorem nfk_map : ∀ es : List (Key × D), D.nfk es = D.nfs (es.map (·.2))
  | [] => rfl
  | (_, x) :: es => by show (x.nf && D.nfk es) = (x.nf && D.nfs (es.map (·.2))); rw [nfk_map es]
theorem nft_map : ∀ es : List (List Key × D), D.nft es = D.nfs (es.map (·.2))
  | [] => rfl
  | (_, x) :: es => by show (x.nf && D.nft es) = (x.nf && D.nfs (es.map (·.2))); rw [nft_map es]
mutual
theorem D.nf_lay : ∀ d : D, d.lay = true → d.nf = true
  | .non, _ => rfl
  | .bl _, _ => rfl
  | .int _, _ => rfl
  | .str _, _ => rfl
  | .tup xs, h => D.nfs_lay xs h
  | .kt xs, h => D.nfs_lay xs h
  | .lst xs, h => D.nfs_lay xs h
  | .dK _, h => by cases h
  | .dT _, h => by cases h
  | .fK _, h => by cases h
  | .fT _, h => by cases h
  | .raw _, h => by cases h
  | .scr _, h => by cases h
  | .fn _ _, h => by cases h
theorem D.nfs_lay : ∀ ds : List D, D.lays ds = true → D.nfs ds = true
  | [], _ => rfl
  | d :: ds, h => by
    have h' := (Bool.and_eq_true _ _).mp (show (d.lay && D.lays ds) = true from h)
    show (d.nf && D.nfs ds) = true
    rw [D.nf_lay d h'.1, D.nfs_lay ds h'.2]; rfl
end
variable {K : PySem.W.Frag} {S S' H H' : Hp} {B : Bs} {δ : DS} {σ : L2.St}
def NX (S S' : Hp) : Prop := ∀ b o, S b = some o → (∀ φ, o ≠ .ext φ) → S' b = some o
mutual
theorem Dn.nf (g : NX S S') : ∀ {v : V} {d : D}, Dn K S v d → d.nf = true → Dn K S' v d
  | _, _, .non, _ => .non
  | _, _, .bl _, _ => .bl _
  | _, _, .int _, _ => .int _
  | _, _, .str _, _ => .str _
  | _, _, .raw _, _ => .raw _
  | _, _, .scr h, _ => .scr (by
      rcases h with (h | ⟨o, h⟩) | h
      · exact .inl (.inl (g _ _ h fun _ z => nomatch z))
      · exact .inl (.inr ⟨o, g _ _ h fun _ z => nomatch z⟩)
      · exact .inr h)
  | _, _, .kt h a, f => .kt h (DnA.nf g a f)
  | _, _, .tup h a, f => .tup (g _ _ h fun _ z => nomatch z) (DnA.nf g a f)
  | _, _, .lst h a, f => .lst (g _ _ h fun _ z => nomatch z) (DnA.nf g a f)
  | _, _, .dK h k a, f => .dK (g _ _ h fun _ z => nomatch z) k (DnA.nf g a (by rw [← nfk_map]; exact f))
  | _, _, .dT h k a, f => .dT (g _ _ h fun _ z => nomatch z) k (DnA.nf g a (by rw [← nft_map]; exact f))
  | _, _, .fK h k a, f => .fK (g _ _ h fun _ z => nomatch z) k (DnA.nf g a (by rw [← nfk_map]; exact f))
  | _, _, .fT h k a, f => .fT (g _ _ h fun _ z => nomatch z) k (DnA.nf g a (by rw [← nft_map]; exact f))
  | _, _, .fn _ _ _ _ _ _ _, f => absurd f (by intro z; cases z)
theorem DnA.nf (g : NX S S') : ∀ {vs : List V} {ds : List D}, DnA K S vs ds → D.nfs ds = true → DnA K S' vs ds
  | _, _, .nil, _ => .nil
  | _, _, .cons h a, f => by
    have f' := (Bool.and_eq_true _ _).mp (show (_ && _) = true from f)
    exact .cons (Dn.nf g h f'.1) (DnA.nf g a f'.2)
end
/-! ### addresses taken out of a heap, put back -/
def offH (H : Hp) (cs : List Addr) : Hp := fun b => if b ∈ cs then none else H b
theorem off_in {cs : List Addr} {b : Addr} (h : b ∈ cs) : offH H cs b = none := if_pos h
theorem off_out {cs : List Addr} {b : Addr} (h : b ∉ cs) : offH H cs b = H b := if_neg h
theorem off_some {cs : List Addr} {b : Addr} {o : HO} (h : offH H cs b = some o) : b ∉ cs ∧ H b = some o := by
  unfold offH at h
  split at h
  · cases h
  · exact ⟨by assumption, h⟩
def onH (H0 H : Hp) (cs : List Addr) : Hp := fun b => if b ∈ cs then H0 b else H b
theorem on_in {H0 : Hp} {cs : List Addr} {b : Addr} (h : b ∈ cs) : onH H0 H cs b = H0 b := if_pos h
theorem on_out {H0 : Hp} {cs : List Addr} {b : Addr} (h : b ∉ cs) : onH H0 H cs b = H b := if_neg h
/-- known by its object -/
def Pd (H : Hp) (b : Addr) : Prop := ∃ o, H b = some (PinO o b)
section
variable {P : Program} {w : World} {mg : Str → Option Value} {base : Heap} {A : Around} {out : List Env} {s s' : Shared} {cs : List Addr} {u : Value}
theorem hok_off (x : HOk P w H s.heap) (hp : ∀ b ∈ cs, Pd H b) : HOk P w (offH H cs) s.heap := fun b o e => by
  obtain ⟨nb, e⟩ := off_some e
  refine (x b o e).stay (fun _ _ _ q => q) (fun c q => ?_) fun c xs q => ?_
  · rw [off_out (fun z => by obtain ⟨o, z⟩ := hp c z; rw [z] at q; cases q)]; exact q
  · rw [off_out (fun z => by obtain ⟨o, z⟩ := hp c z; rw [z] at q; cases q)]; exact q
theorem env_off (e0 : Env0 P w K mg base A out s H) (hp : ∀ b ∈ cs, Pd H b) : Env0 P w K mg base A out s (offH H cs) := by
  refine ⟨e0.frames, e0.mod, fun b o e => ⟨(e0.bs b o e).1, ?_⟩, e0.bsz, e0.funs, fun b hb => ?_, hok_off e0.hok hp, e0.bare⟩
  · unfold offH; split
    · rfl
    · exact (e0.bs b o e).2
  · unfold offH; split
    · rfl
    · exact e0.frf b hb
theorem pin_obj (x : HOk P w H s.heap) {o : Obj} {b : Addr} (h : H b = some (PinO o b)) : s.heap.get? b = some o := (x b _ h).1
/-- a call's end told without some things that are known by their objects, told with them again -/
theorem ce_on {Q : VK} (e0 : Env0 P w K mg base A out s H) (hp : ∀ b ∈ cs, Pd H b) (h : CE out P w (offH H cs) s (fun v H' => Q v (onH H H' cs)) u s') : CE out P w H s Q u s' := by
  obtain ⟨v, H', os, bare, un, ok, r, q⟩ := h
  have pin : ∀ b ∈ cs, ∃ o, H b = some (PinO o b) ∧ s'.heap.get? b = some o := fun b hb => by
    obtain ⟨o, e⟩ := hp b hb
    have g := pin_obj e0.hok e
    exact ⟨o, e, un.keep b o g (off_in hb) (fun z => by have := e0.frf b z; rw [e] at this; cases this) (by simp)⟩
  have fr : ∀ b ∈ cs, H' b = none := fun b hb => by
    obtain ⟨o, e⟩ := hp b hb
    exact un.free b o (pin_obj e0.hok e) (off_in hb) (by simp)
  have nin : ∀ b, H b = none → b ∉ cs := fun b h z => by obtain ⟨o, e⟩ := hp b z; rw [h] at e; cases e
  have nin2 : ∀ b o, H b = some o → (∀ φ, o ≠ .ext φ) → b ∉ cs := fun b o h n z => by
    obtain ⟨o', e⟩ := hp b z
    rw [h] at e; cases e
    exact n _ rfl
  refine ⟨v, onH H H' cs, os, bare, ⟨fun b o e n => un.keep b o e (by rw [off_out (nin b n)]; exact n), fun b o e n => un.slot b o e (by rw [off_out (nin b n)]; exact n), fun b o e n x => ?_, fun b o e => un.there b o e, fun b xs e => ?_, fun b o x e => ?_, fun b ps e => ?_⟩, fun b o e => ?_, r, q⟩
  · rw [on_out (nin b n)]; exact un.free b o e (by rw [off_out (nin b n)]; exact n) x
  · have nb := nin2 b _ e fun _ z => nomatch z
    rw [on_out nb]; exact un.tups b xs (by rw [off_out nb]; exact e)
  · have nb := nin2 b _ e fun _ z => nomatch z
    rw [on_out nb]; exact un.frzs b o x (by rw [off_out nb]; exact e)
  · have nb := nin2 b _ e fun _ z => nomatch z
    rw [on_out nb]; exact un.tbls b ps (by rw [off_out nb]; exact e)
  · by_cases hb : b ∈ cs
    · rw [on_in hb] at e
      obtain ⟨o', e1, e2⟩ := pin b hb
      rw [e1] at e; cases e
      exact ⟨e2, ⟨_, e2⟩, fun h1 h2 z st => st _ z⟩
    · rw [on_out hb] at e
      refine (ok b o e).stay (fun _ _ _ z => z) (fun c z => ?_) fun c xs z => ?_
      · rw [on_out (fun y => by rw [fr c y] at z; cases z)]; exact z
      · rw [on_out (fun y => by rw [fr c y] at z; cases z)]; exact z
/-- .. told with them, told without -/
theorem ce_off {Q : VK} {Hp' : Hp} (hokp : HOk P w Hp' s.heap) (hp : ∀ b ∈ cs, Pd Hp' b) (hn : ∀ b ∈ cs, H b = none) (ho : ∀ b, b ∉ cs → Hp' b = H b) (hf : ∀ b ∈ cs, b ∉ frs out)
    (h : CE out P w Hp' s (fun v H' => (∀ b ∈ cs, H' b = Hp' b) ∧ (HOk P w H' s'.heap → Q v (offH H' cs))) u s') : CE out P w H s Q u s' := by
  obtain ⟨v, H', os, bare, un, ok, r, st, q⟩ := h
  have nin2 : ∀ b o, H b = some o → b ∉ cs := fun b o h z => by rw [hn b z] at h; cases h
  have hp' : ∀ b ∈ cs, Pd H' b := fun b hb => by
    obtain ⟨o, e⟩ := hp b hb
    exact ⟨o, by rw [st b hb]; exact e⟩
  refine ⟨v, offH H' cs, os, bare, ⟨fun b o e n nf x => ?_, fun b o e n nf x => ?_, fun b o e n x => ?_, fun b o e => un.there b o e, fun b xs e => ?_, fun b o x e => ?_, fun b ps e => ?_⟩, hok_off ok hp', r, q ok⟩
  · by_cases hb : b ∈ cs
    · obtain ⟨o', e1⟩ := hp b hb
      have g := pin_obj hokp e1
      rw [e] at g; cases g
      exact pin_obj ok (by rw [st b hb]; exact e1)
    · exact un.keep b o e (by rw [ho b hb]; exact n) nf x
  · exact un.slot b o e (by rw [ho b (fun z => hf b z nf)]; exact n) nf x
  · by_cases hb : b ∈ cs
    · exact off_in hb
    · rw [off_out hb]; exact un.free b o e (by rw [ho b hb]; exact n) x
  · have nb := nin2 b _ e
    rw [off_out nb]; exact un.tups b xs (by rw [ho b nb]; exact e)
  · have nb := nin2 b _ e
    rw [off_out nb]; exact un.frzs b o x (by rw [ho b nb]; exact e)
  · have nb := nin2 b _ e
    rw [off_out nb]; exact un.tbls b ps (by rw [ho b nb]; exact e)
end
end Ev

/-! # A lambda's body -/
namespace Ev
open PySem PySem.Spec PyProof.Rows L2
variable [TabC]
variable {K : PySem.W.Frag} {S S' H H' : Hp} {B : Bs} {δ : DS} {σ : L2.St}
/-- the names of a lambda: parameters, what is captured, then those of comprehensions within -/
structure LamScope (N ps : List Str) (l : Lam) : Prop where
  kind : l.scope.kind = .function
  co : l.scope.isCoroutine = false
  gen : l.scope.isGenerator = false
  nd : N.Nodup
  pre : N.take (ps.length + l.caps.length) = ps ++ l.caps
  par : ∀ x ∈ ps, l.scope.names.lookup x = some .local
  cap : ∀ x ∈ l.caps, l.scope.names.lookup x = some .free
  nocell : ∀ y ∈ l.scope.names, y.2 ≠ .cell
  free : ∀ y ∈ l.scope.names, y.2 = .free → y.1 ∈ l.caps
abbrev lamEv (l : Lam) (cl : List (Str × Addr)) (L f c : Addr) : Env := PySem.W.envX l.qual l.scope L f (.ref c) cl
/-- the context of a lambda's body, entered at s -/
def lamX (P : Program) (w : World) (K : PySem.W.Frag) (mg : Str → Option Value) (base : Heap) (N : List Str) (l : Lam) (cl : List (Str × Addr)) (f c : Addr) (A : Around) (out : List Env) (s : Shared) (H : Hp) : Cx where
  prog := P
  w := w
  K := K
  mg := mg
  base := base
  A := A.deeper (lamEv l cl s.heap.objs.size f c)
  N := N
  s_0 := s
  H_0 := H
  env := lamEv l cl s.heap.objs.size f c
  outer := out
  stack := lamEv l cl s.heap.objs.size f c :: out
  ex := []
  fn := fun _ => false
  calm := true
  pn := []
  xe := fun _ _ => False
section
variable {P : Program} {w : World} {mg : Str → Option Value} {base : Heap} {A : Around} {out : List Env} {s : Shared} {N ps : List Str} {l : Lam} {cl : List (Str × Addr)} {f c : Addr}
theorem look_rev {ps : List Str} {us : List Value} {i : Nat} {y : Str} {u : Value} (nd : ps.Nodup) (hp : ps[i]? = some y) (hu : us[i]? = some u) (hl : us.length = ps.length) : (ps.zip us).reverse.lookup y = some u := by
  have key : ∀ (ps : List Str) (us acc : _) (i : Nat), ps.Nodup → ps[i]? = some y → us[i]? = some u → us.length = ps.length → ((ps.zip us).reverse ++ acc).lookup y = some u := by
    intro ps
    induction ps with
    | nil => intro us acc i _ h; simp at h
    | cons p ps ih =>
      intro us acc i nd hp hu hl
      cases us with
      | nil => simp at hl
      | cons v us =>
        rw [List.zip_cons_cons, List.reverse_cons, List.append_assoc]
        cases i with
        | zero =>
          simp at hp hu
          subst hp hu
          have hn : ∀ q ∈ (ps.zip us).reverse, q.1 ≠ p := fun q hq e => by
            have := (List.of_mem_zip (List.mem_reverse.mp hq)).1
            rw [e] at this
            exact (List.nodup_cons.mp nd).1 this
          clear ih hl nd
          generalize (ps.zip us).reverse = z at hn
          induction z with
          | nil => simp
          | cons q z ih2 =>
            obtain ⟨q1, q2⟩ := q
            have h1 : q1 ≠ p := hn (q1, q2) List.mem_cons_self
            have e : (p == q1) = false := beq_eq_false_iff_ne.mpr (Ne.symm h1)
            rw [List.cons_append, List.lookup_cons, e]
            exact ih2 fun r hr => hn r (List.mem_cons_of_mem _ hr)
        | succ i =>
          exact ih us _ i (List.nodup_cons.mp nd).2 (by simpa using hp) (by simpa using hu) (by simpa using hl)
  have := key ps us [] i nd hp hu hl
  rwa [List.append_nil] at this
theorem lookup_of_mem {α : Type} {l : List (Str × α)} {x : Str} {c : α} (nd : (l.map (·.1)).Nodup) (h : (x, c) ∈ l) : l.lookup x = some c := by
  induction l with
  | nil => cases h
  | cons p l ih =>
    obtain ⟨y, d⟩ := p
    rcases List.mem_cons.mp h with e | h2
    · cases e; simp
    · have ne : x ≠ y := fun e => (List.nodup_cons.mp nd).1 (List.mem_map.mpr ⟨(x, c), h2, e⟩)
      rw [List.lookup_cons, beq_eq_false_iff_ne.mpr ne]
      exact ih (List.nodup_cons.mp nd).2 h2
theorem cells_get : ∀ {cs : List Addr} {vs : List V} {j : Nat} {v : V}, CellsAt S cs vs → vs[j]? = some v → ∃ c o u, cs[j]? = some c ∧ S c = some (PinO o c) ∧ o.data = .cell (some u) ∧ RelV v u
  | _, _, _, _, .nil, e => by simp at e
  | _, _, 0, _, .cons h _, e => by
    simp at e; subst e
    obtain ⟨o, u, h⟩ := h
    exact ⟨_, o, u, rfl, h⟩
  | _, _, j + 1, v, .cons _ t, e => by
    obtain ⟨c, o, u, h1, h2⟩ := cells_get (j := j) t (by simpa using e)
    exact ⟨c, o, u, by simpa using h1, h2⟩
theorem cells_mem : ∀ {cs : List Addr} {vs : List V} {c : Addr}, CellsAt S cs vs → c ∈ cs → ∃ o u, S c = some (PinO o c) ∧ o.data = .cell (some u)
  | _, _, _, .nil, h => by cases h
  | _, _, c, .cons h t, m => by
    rcases List.mem_cons.mp m with rfl | m
    · obtain ⟨o, u, h1, h2, _⟩ := h; exact ⟨o, u, h1, h2⟩
    · exact cells_mem t m
theorem lam_inv {us : List Value} {vs ws : List V} {h₁ : Heap} {tk : Nat} (L : LamScope N ps l) (hd : A.handled = none) (e0 : Env0 P w K mg base A out s H) (hc : cl.map (·.1) = l.caps) (cnd : (cl.map (·.2)).Nodup) (hcell : ∀ (j : Nat) (v : V), ws[j]? = some v → ∃ ca u, (cl.map (·.2))[j]? = some ca ∧ s.heap.IsCell ca (some u) ∧ RelV v u)
    (hcs : ∀ ca ∈ cl.map (·.2), ∃ v, s.heap.IsCell ca v) (hfr : ∀ ca ∈ cl.map (·.2), H ca = none) (hl : vs.length = ps.length) (hw : ws.length = l.caps.length) (r : Vals vs us)
    (hns : h₁.Ns s.heap.objs.size fun y => (ps.zip us).reverse.lookup y) (kp : ∀ b o, s.heap.get? b = some o → h₁.get? b = some o) : Inv (lamX P w K mg base N l cl f c A out s H) [] (L2.start N (vs ++ ws)) H { s with heap := h₁, toks := tk } := by
  have hpl : ps.length + l.caps.length ≤ N.length := by
    have := congrArg List.length L.pre
    rw [List.length_take, List.length_append] at this; omega
  have noA : ∀ b : Addr, b ∉ (lamX P w K mg base N l cl f c A out s H).ex := fun b z => nomatch (show b ∈ ([] : List Addr) from z)
  have ndN : (ps ++ l.caps).Nodup := by rw [← L.pre]; exact L.nd.sublist (List.take_sublist _ _)
  have ndC : (cl.map (·.1)).Nodup := by rw [hc]; exact (List.nodup_append.mp ndN).2.1
  have lk : ∀ {y ca}, cl.lookup y = some ca → ca ∈ cl.map (·.2) := fun {y ca} h => List.mem_map.mpr ⟨_, PySem.mem_of_lookup h, rfl⟩
  refine ⟨⟨e0.mod, L.kind, rfl, rfl, Nat.le_refl _, fun y z ca h1 h2 => ?_, fun y hy => ?_, fun y ca z _ => (nomatch (show false = true from z)), fun _ => hd, Around.frames_deeper e0.frames, .inr ⟨rfl, rfl⟩, fun b z => absurd z (noA b), e0.bs, e0.bsz, fun b _ _ => noA b, fun b z => absurd z (noA b), e0.funs, e0.frf⟩,
    rfl, e0.bare, Un.kept kp, ⟨_, hns, fun i y v e1 e2 e3 => ?_⟩, fun y ca e => ?_, e0.hok.fresh (Nat.le_refl _), fun y ca e => hfr ca (lk e), fun p hp => (nomatch (show p ∈ ([] : List (Addr × Obj)) from hp)), e0.hok.kept kp, ?_⟩
  · have m1 := PySem.mem_of_lookup (show cl.lookup y = some ca from h1)
    have m2 := PySem.mem_of_lookup (show cl.lookup z = some ca from h2)
    obtain ⟨i, hi, e1⟩ := List.getElem_of_mem m1
    obtain ⟨j, hj, e2⟩ := List.getElem_of_mem m2
    have : i = j := (List.getElem_inj (h₀ := by simpa using hi) (h₁ := by simpa using hj) cnd).mp (by rw [List.getElem_map, List.getElem_map, e1, e2])
    subst this
    rw [e1] at e2
    exact congrArg Prod.fst e2
  · have hy : l.scope.names.lookup y = some .cell ∨ l.scope.names.lookup y = some .free := hy
    rcases hy with hy | hy
    · exact absurd rfl (L.nocell _ (PySem.mem_of_lookup hy))
    · have := L.free _ (PySem.mem_of_lookup hy) rfl
      rw [← hc] at this
      obtain ⟨p, hp, e⟩ := List.mem_map.mp this
      refine ⟨p.2, lookup_of_mem ndC ?_⟩
      have e : p.1 = y := e
      rw [← e]; exact hp
  · -- the slots
    have hi : i < (vs ++ ws).length := by
      unfold L2.start at e2
      by_cases hi : i < (vs ++ ws).length
      · exact hi
      · rw [List.getElem?_append_right (by simpa using hi), List.getElem?_replicate] at e2
        split at e2 <;> cases e2
    have ha : (vs ++ ws)[i]? = some v := by
      unfold L2.start at e2
      rw [List.getElem?_append_left (by simpa using hi), List.getElem?_map] at e2
      cases e : (vs ++ ws)[i]? with
      | none => rw [e] at e2; cases e2
      | some a => rw [e] at e2; cases e2; rfl
    have hN : (ps ++ l.caps)[i]? = some y := by
      rw [← L.pre, List.getElem?_take_of_lt (by rw [List.length_append] at hi; omega)]; exact e1
    by_cases hlt : i < vs.length
    · rw [List.getElem?_append_left hlt] at ha
      rw [List.getElem?_append_left (by omega)] at hN
      obtain ⟨u, hu, rv⟩ := r.get ha
      refine ⟨u, rv, .inl ⟨L.par y (List.mem_of_getElem? hN), look_rev (List.nodup_append.mp ndN).1 hN hu (by rw [← r.length]; exact hl)⟩⟩
    · rw [List.getElem?_append_right (by omega)] at ha
      rw [List.getElem?_append_right (by omega), ← hl] at hN
      obtain ⟨ca, u, h1, ⟨o, h2, h3⟩, rv⟩ := hcell _ v ha
      refine ⟨u, rv, .inr ⟨.inr (L.cap y (List.mem_of_getElem? hN)), ca, ?_, ⟨o, kp _ _ h2, h3⟩⟩⟩
      refine lookup_of_mem ndC ?_
      rw [← hc, List.getElem?_map] at hN
      rw [List.getElem?_map] at h1
      cases q : cl[i - vs.length]? with
      | none => rw [q] at hN; cases hN
      | some p =>
        rw [q] at hN h1
        cases hN; cases h1
        exact List.mem_of_getElem? q
  · obtain ⟨v, o, h1, h2⟩ := hcs ca (lk e)
    exact ⟨v, o, kp _ _ h1, h2⟩
  · show (L2.start N (vs ++ ws)).length = N.length
    unfold L2.start
    rw [List.length_append, List.length_map, List.length_replicate, List.length_append]; omega
end
/-- what is promised of the lambda of the number k, n parameters: of what it captured and its arguments -/
structure LamD (P : Program) (w : World) (K : PySem.W.Frag) (mg : Str → Option Value) (base : Heap) (j k n : Nat) (sp : List D → dSp) : Prop where
  run : ∀ (A : Around) (out : List Env) (s : Shared) (S H : Hp) (a : Addr) (ds xs : List D) (vs : List V) (us : List Value) (p : Pen) (Q : VK) (Q' : D → Pen → Prop), A.guards = some [] → Room j A → Env0 P w K mg base A out s H → Sb S H → PenOk S H p → Dn K S (.ref a) (.fn k ds) → D.nfs ds = true → Vals vs us →
    DnA K S vs xs → D.nfs xs = true → xs.length = n → sp ds xs p Q' (fun _ _ => False) → (∀ x p' v S' H', Q' x p' → Fin S H S' H' p p' → Dn K S' v x → Q v H') → codeAny (model P w) A (.call (.ref a) ⟨us, []⟩) (CR CX0 out P w H s Q (fun _ _ _ => False)) s
abbrev startLam (m : Nat) (xs ds : List D) (p : Pen) : DS := startD m (xs ++ ds) p
section
variable {P : Program} {w : World} {mg : Str → Option Value} {base : Heap} {N ps : List Str} {l : Lam} {j k : Nat}
theorem DnA.len {vs : List V} {ds : List D} (h : DnA K S vs ds) : vs.length = ds.length := h.length
theorem cells_len : ∀ {cs : List Addr} {vs : List V}, CellsAt S cs vs → cs.length = vs.length := fun h => Paired.length h
theorem fin_on {cs : List Addr} {p p' : Pen} (f : Fin (offH S cs) (offH H cs) S' H' p p') (hn : ∀ b ∈ cs, H' b = none) (sb : Sb S H) (hp : ∀ b ∈ cs, Pd S b) : Fin S H (onH S S' cs) (onH H H' cs) p p' := by
  have hpH : ∀ b ∈ cs, Pd H b := fun b hb => (hp b hb).elim fun o e => ⟨o, sb.ex _ _ e⟩
  have hnS : ∀ b ∈ cs, S' b = none := fun b hb => f.ok.none (hn b hb)
  have out : ∀ b o, H' b = some o → b ∉ cs := fun b o e z => by rw [hn b z] at e; cases e
  have outH : ∀ b o, H b = some o → (∀ φ, o ≠ .ext φ) → b ∉ cs := fun b o e n z => by
    obtain ⟨o', q⟩ := hpH b z
    rw [e] at q; cases q; exact n _ rfl
  refine ⟨fun b o e => ?_, ⟨fun b o e => ?_, fun b vs e => ?_, fun q hq => ?_⟩, ?_, ?_, fun b o e n nt => ?_, fun b ps e => ?_, fun b o e n => ?_⟩
  · by_cases hb : b ∈ cs
    · rw [on_in hb]; exact e
    · rw [on_out hb]; exact f.s b o (by rw [off_out hb]; exact e)
  · by_cases hb : b ∈ cs
    · rw [on_in hb] at e ⊢; exact sb.ex _ _ e
    · rw [on_out hb] at e ⊢; exact f.ok.ex _ _ e
  · by_cases hb : b ∈ cs
    · rw [on_in hb] at e
      exact absurd hb (outH b _ e fun _ z => nomatch z)
    · rw [on_out hb] at e ⊢; exact f.ok.tp _ _ e
  · obtain ⟨t1, ts, t2, t3, t4⟩ := f.ok.tb q hq
    have nb := out _ _ t2
    refine ⟨by rw [on_out nb]; exact t1, ts, by rw [on_out nb]; exact t2, t3, fun pos cv hc => ?_⟩
    obtain ⟨c, z1, z2⟩ := t4 pos cv hc
    exact ⟨c, z1, by rw [on_out (out _ _ z2)]; exact z2⟩
  · match p', f.pen with
    | none, _ => trivial
    | some (pa, cn), ⟨q1, ca, ns, kk, m, q2, q3, q4⟩ =>
      have nb := out _ _ q2
      exact ⟨by rw [on_out nb]; exact q1, ca, ns, kk, m, by rw [on_out nb]; exact q2, by rw [on_out (out _ _ (f.ok.ex _ _ q3))]; exact q3, q4⟩
  · rcases f.same with z | ⟨z1, z2⟩
    · exact .inl z
    · refine .inr ⟨z1, fun a c e => ?_⟩
      have h1 := z2 a c e
      have h2 := f.pen
      rw [e] at h2
      obtain ⟨_, _, _, _, _, q2, _⟩ := h2
      rw [off_out (out _ _ q2)] at h1; exact h1
  · by_cases hb : b ∈ cs
    · rw [on_in hb]; exact e
    · rw [on_out hb]; exact f.h b o (by rw [off_out hb]; exact e) n nt
  · have hb := outH b _ e fun _ z => nomatch z
    rw [on_out hb]; exact f.t b ps (by rw [off_out hb]; exact e)
  · by_cases hb : b ∈ cs
    · rw [on_in hb]; exact n
    · rw [on_out hb]; exact f.no b o (by rw [off_out hb]; exact e) (by rw [off_out hb]; exact n)
/-- THE RULE for a lambda, by its body -/
theorem lam_d {sp : List D → dSp} {d : dE} (hl : TabC.lam k = some l) (L : LamScope N ps l) (hb : ∀ (nm q : Str) (pm cv ctv : Value) (cl : List (Str × Addr)) (us : List Value), us.length = ps.length → bindArgs (PySem.W.kla_fn nm q l.params l.body l.scope cl pm cv ctv) ⟨us, []⟩ = pure (ps.zip us))
    (body : ∀ (A : Around) (out : List Env) (s : Shared) (H : Hp) (cl : List (Str × Addr)) (f c : Addr), A.guards = some [] → Room j (A.deeper (lamEv l cl s.heap.objs.size f c)) → DE (lamX P w K mg base N l cl f c A out s H) E00 l.body d)
    (hsp : ∀ ds xs p Q, ds.length = l.caps.length → xs.length = ps.length → sp ds xs p Q (fun _ _ => False) → d W0 (startLam N.length xs ds p) fun x δ => Q x δ.pen) : LamD P w K mg base (j + 1) k ps.length sp := by
  refine ⟨fun A out s S H a ds xs vs us p Q Q' g r e0 sb hp hf hnf rv hv hxn hlx hq post => ?_⟩
  cases hf with
  | @fn _ c _ l' pm ctv cl ws _ h1 h2 h3 h4 nd h5 h6 =>
    rw [hl] at h1; cases h1
    have pn : ∀ b ∈ cl.map (·.2), Pd H b := fun b hb => by
      obtain ⟨o, u, q, _⟩ := cells_mem h5 hb
      exact ⟨o, sb.ex _ _ q⟩
    have hN : (xs ++ ds).length ≤ N.length := by
      have h := congrArg List.length L.pre
      rw [List.length_take, List.length_append] at h
      have := cells_len h5
      have := h6.length
      have hcl : cl.length = l.caps.length := by rw [← h4, List.length_map]
      rw [List.length_map] at *
      rw [List.length_append]; omega
    have hdl : ds.length = l.caps.length := by
      have e1 := cells_len h5
      have e2 := h6.length
      rw [List.length_map] at e1
      rw [← h4, List.length_map]; omega
    have objl := pin_obj e0.hok (sb.ex _ _ h2)
    obtain ⟨⟨oc, cv, ct, hoc, hdc, hvc⟩, _, _⟩ := e0.hok c _ (sb.ex _ _ h3)
    have e1 := env_off e0 pn
    -- run without the cells
    have main : codeAny (model P w) A (.call (.ref a) ⟨us, []⟩) (CR CX0 out P w (offH H (cl.map (·.2))) s (fun v H' => Q v (onH H H' (cl.map (·.2)))) (fun _ _ _ => False)) s := by
      refine PySem.W.kla_callFunE r.depth objl rfl L.co L.gen rfl ⟨c, oc, cv, ct, rfl, hoc, hdc, hvc⟩ ?_
      have hul : us.length = ps.length := by rw [← rv.length, hv.length]; exact hlx
      rw [hb _ _ _ _ _ _ us hul]
      refine wpAny_pure (wpAny_newFunctionEnv L.nocell (fun y hy => L.par y.1 (List.of_mem_zip (show (y.1, y.2) ∈ _ from hy)).1) (fun h₁ hns hsb => ⟨e1.mod.nolimit.keeps (fun b o e => ?_), ?_⟩) L.kind)
      · exact hsb.extBut b o (Nat.ne_of_lt (Heap.lt_size (e1.bs b o e).1)) (Heap.get?_push_of_some _ (e1.bs b o e).1)
      have kp : ∀ b o, s.heap.get? b = some o → h₁.get? b = some o := fun b o e => hsb.extBut b o (Nat.ne_of_lt (Heap.lt_size e)) (Heap.get?_push_of_some _ e)
      show codeAny _ _ (.expr l.body (lamEv l cl s.heap.objs.size a c)) _ _
      have J : Inv (lamX P w K mg base N l cl a c A out s (offH H (cl.map (·.2)))) [] (L2.start N (vs ++ ws)) (offH H (cl.map (·.2))) { s with heap := h₁, toks := s.toks + (ps.zip us).length } := by
        refine lam_inv L r.hd e1 h4 nd (fun j v e => ?_) (fun ca hca => ?_) (fun ca hca => off_in hca) (by rw [hv.length]; exact hlx) (by rw [h6.length]; exact hdl) rv hns kp
        · obtain ⟨ca, o, u, z1, z2, z3, z4⟩ := cells_get h5 e
          exact ⟨ca, u, z1, ⟨o, pin_obj e0.hok (sb.ex _ _ z2), z3⟩, z4⟩
        · obtain ⟨o, u, z1, z2⟩ := cells_mem h5 hca
          exact ⟨_, o, pin_obj e0.hok (sb.ex _ _ z1), z2⟩
      have nx : NX S (offH S (cl.map (·.2))) := fun b o e n => by
        rw [off_out (fun z => by
          obtain ⟨o', u, q, _⟩ := cells_mem h5 z
          rw [e] at q; cases q
          exact n _ rfl)]; exact e
      have tin : ∀ b ps, H b = some (.tbl ps) → b ∉ cl.map (·.2) := fun b ps e z => by
        obtain ⟨o, z⟩ := pn b z
        rw [e] at z; cases z
      have sb' : Sb (offH S (cl.map (·.2))) (offH H (cl.map (·.2))) := by
        refine ⟨fun b o e => ?_, fun b xs e => ?_, fun q hq => ?_⟩
        · obtain ⟨nb, e⟩ := off_some e
          rw [off_out nb]; exact sb.ex _ _ e
        · obtain ⟨nb, e⟩ := off_some e
          rw [off_out nb]; exact sb.tp _ _ e
        · obtain ⟨t1, ts, t2, t3, t4⟩ := sb.tb q hq
          have nb := tin _ _ t2
          refine ⟨by rw [off_out nb]; exact t1, ts, by rw [off_out nb]; exact t2, t3, fun pos cv' hc => ?_⟩
          obtain ⟨cc, z1, z2⟩ := t4 pos cv' hc
          refine ⟨cc, z1, ?_⟩
          rw [off_out (fun z => ?_)]
          · exact z2
          · obtain ⟨o, u, y1, y2⟩ := cells_mem h5 z
            obtain ⟨⟨oc2, vs2, t2', y3, y4, _⟩, _⟩ := e0.hok cc _ z2
            have y5 := pin_obj e0.hok (sb.ex _ _ y1)
            rw [y3] at y5; cases y5
            rw [y4] at y2; cases y2
      have penok : PenOk (offH S (cl.map (·.2))) (offH H (cl.map (·.2))) p := by
        match p, hp with
        | none, _ => trivial
        | some (pa, cn), ⟨q1, ca, ns, kk, m, q2, q3, q4⟩ =>
          refine ⟨by unfold offH; split; rfl; exact q1, ca, ns, kk, m, ?_, nx _ _ q3 (fun _ z => nomatch z), q4⟩
          rw [off_out (fun z => by obtain ⟨o, z⟩ := pn pa z; rw [q2] at z; cases z)]; exact q2
      have st0 := startRel (K := K) (N := N) (vs := vs ++ ws) (ds := xs ++ ds) sb' penok ((hv.nf nx hxn).append (h6.nf nx hnf)) hN
      have hrun := (body A out s (offH H (cl.map (·.2))) cl a c g (r.deeper _)).run ⟨offH S (cl.map (·.2)), offH H (cl.map (·.2)), (Option.map Prod.fst p : Option Addr), true⟩
      refine PySem.W.kla_codeExpr (wpAny_mono ((hrun.run [] _ _ _ (fun v H' => (∀ b ∈ cl.map (·.2), H' b = none) → Q v (onH H H' (cl.map (·.2)))) J ⟨startLam N.length xs ds p, _, W0, fun x δ => Q' x δ.pen, st0, hsp ds xs p Q' hdl hlx hq, xok0, fun x δ' v S' H' q1 e1' R1 n1 hn => ?_⟩)) (fun v s' hq => ?_) fun e s' hq => hq.elim)
      · -- the answer
        have F := fin_on R1.fin hn sb fun b hb => (cells_mem h5 hb).elim fun o z => ⟨o, z.elim fun _ z => z.1⟩
        refine post x _ v _ _ q1 F (n1.mono fun b o e => ?_)
        rw [on_out (fun z => by rw [R1.ex.none (hn b z)] at e; cases e)]; exact e
      · obtain ⟨w', H', J', rv', q⟩ := hq
        refine ⟨w', H', J'.os, J'.bare, J'.base, J'.hok, rv', q fun b hb => ?_⟩
        obtain ⟨o, z⟩ := pn b hb
        exact J'.base.free b o (pin_obj e0.hok z) (off_in hb) (fun z => nomatch (show b ∈ ([] : List Addr) from z))
    refine codeAny_mono main fun r' s' hr' => ?_
    match r', hr' with
    | .error e, h => exact h
    | .ok (.ret u), h => exact ce_on e0 pn h
end
end Ev

/-! # A call of a lambda; a lambda handed to a def -/
namespace Ev
open PySem PySem.Spec PyProof.Rows L2
variable [TabC]
variable {K : PySem.W.Frag} {S S' H H' : Hp} {B : Bs} {δ : DS} {σ : L2.St}
section
variable {X : Cx} {E : EK} {x : Str} {p pos lpos : Pos} {e : Expr} {es : List Expr} {j m n i : Nat} {LT : Nat → Option (List D → dSp)} {ta : dA}
/-- name(..), name a lambda -/
def dCallV (i n : Nat) (LT : Nat → Option (List D → dSp)) (a : dA) : dE := fun W δ Q => match δ.sl[i]? with
  | some (.dat (.fn k ds)) => optQ (LT k) fun sp => D.nfs ds = true ∧ a W δ fun xs δ1 => D.nfs xs = true ∧ xs.length = n ∧ sp ds xs δ1.pen (fun x p' => Q x { δ1 with pen := p' }) fun _ _ => False
  | _ => False
theorem Dn.fnRef {v : V} {k : Nat} {ds : List D} (h : Dn K S v (.fn k ds)) : ∃ a o, v = .ref a ∧ S a = some (PinO o a) ∧ ∃ oc od fd sl, o = ⟨oc, od, .func fd, sl⟩ := by
  cases h with
  | fn h1 h2 h3 h4 nd h5 h6 => exact ⟨_, _, rfl, h2, _, _, _, _, rfl⟩
theorem fnAt {s : Shared} {w : World} {P : Program} {a : Addr} {o : Obj} (x : HOk P w H s.heap) (h : H a = some (PinO o a)) (ho : ∃ oc od fd sl, o = ⟨oc, od, .func fd, sl⟩) : PySem.W.FnAt a s.heap := by
  obtain ⟨oc, od, fd, sl, rfl⟩ := ho
  exact ⟨oc, od, fd, sl, pin_obj x h⟩
theorem lam_run {pins : List (Addr × Obj)} {s : Shared} {Q : VK} {Q' : D → DS → Prop} {a : Addr} {k : Nat} {ds xs : List D} {vs : List V} {us : List Value} {sp : List D → dSp} {S0 : Hp} (F : LamD X.prog X.w X.K X.mg X.base j k n sp) (hg : X.A.guards = some []) (hr : Room m X.A) (hj : j ≤ m) (I : Inv X pins σ H s) (R : Rel X.K B δ S σ H) (e1 : Ex S0 S) (r : Vals vs us)
    (dn : Dn X.K S (.ref a) (.fn k ds)) (hn : D.nfs ds = true) (a1 : DnA X.K S vs xs) (hx : D.nfs xs = true) (hl : xs.length = n) (q : sp ds xs δ.pen (fun x p' => Q' x { δ with pen := p' }) fun _ _ => False) (post : ∀ x δ' v S' H', Q' x δ' → Ex S0 S' → Rel X.K B δ' S' σ H' → Dn X.K S' v x → Q v H') :
    wpAny (model X.prog X.w) X.A (call (.ref a) us) (EP X pins σ Q) X.xe s := by
  refine wpAny_call (codeAny_mono (F.run X.A X.stack s S H a ds xs vs us δ.pen Q _ hg (hr.mono hj) I.env0 R.ex R.pen dn hn r a1 hx hl q fun x p' v S' H' q' f d => post _ _ _ _ _ q' (e1.trans f.s) (R.after f) d) fun res s' hq => ?_)
  match res, hq with
  | .error e, hq => exact (show False from hq).elim
  | .ok (.ret u), hq => exact I.after hq
theorem de_callV (hL : ∀ k sp, LT k = some sp → LamD X.prog X.w X.K X.mg X.base j k n sp) (hg : X.A.guards = some []) (hr : Room m X.A) (hv : PE X (.Name x p) (tVar i)) (ha : DA X E (e :: es) ta) (hj : j ≤ m := by decide)
    (he : starEach (e :: es) X.env = (false, eval e X.env) :: starEach es X.env := by rfl) (hpl : (backTo pos (starEach es X.env)).any (·.1) = false := by rfl) : DE X E (.Call (.Name x p) (e :: es) [] pos) (dCallV i n LT ta) := ⟨fun B => ⟨fun pins s σ H Q I q => by
  obtain ⟨δ, S, W, Q', R, q, xo, post⟩ := q
  unfold dCallV at q
  split at q
  · rename_i k ds hs
    obtain ⟨sp, hk, hnf, q⟩ := optQ_ex q
    obtain ⟨v, hv1, dn⟩ := R.dat hs
    obtain ⟨a, o, rfl, ha0, ho⟩ := dn.fnRef
    refine wpAny_Call_Name_kw (thn (hv.run pins s σ H (fun v H1 => v = .ref a ∧ H1 = H) I ⟨_, hv1, rfl, rfl⟩) fun u s1 ⟨v, H1, I1, r1, e1, e2⟩ => ?_)
    subst e1 e2
    cases r1
    refine PySem.W.callWith_F (fnAt I1.hok (R.ex _ _ ha0) ho) (thn ((ha.run B).run pos pins s1 σ H1 _ I1 ⟨δ, S, W, _, R, q, xo, fun xs δ1 vs S1 H2 q1 e1 R1 n1 => (⟨S1, xs, δ1, e1, R1, n1, q1⟩ : ∃ S1 xs δ1, Ex S S1 ∧ Rel X.K B δ1 S1 σ H2 ∧ DnA X.K S1 vs xs ∧ D.nfs xs = true ∧ xs.length = n ∧ sp ds xs δ1.pen (fun x p' => Q' x { δ1 with pen := p' }) fun _ _ => False)⟩) fun us s2 ⟨vs, H2, I2, rr, S1, xs, δ1, e1, R1, n1, hx, hl, q1⟩ => ⟨fnAt I2.hok (R1.ex _ _ (e1 _ _ ha0)) ho, ?_⟩) he hpl
    exact lam_run (hL k sp hk) hg hr hj I2 R1 e1 rr (dn.mono e1) hnf n1 hx hl q1 post
  · exact q.elim⟩⟩
theorem de_callV0 (hL : ∀ k sp, LT k = some sp → LamD X.prog X.w X.K X.mg X.base j k 0 sp) (hg : X.A.guards = some []) (hr : Room m X.A) (hv : PE X (.Name x p) (tVar i)) (hj : j ≤ m := by decide) : DE X E (.Call (.Name x p) [] [] pos) (dCallV i 0 LT dNil) := ⟨fun B => ⟨fun pins s σ H Q I q => by
  obtain ⟨δ, S, W, Q', R, q, xo, post⟩ := q
  unfold dCallV at q
  split at q
  · rename_i k ds hs
    obtain ⟨sp, hk, hnf, hx, hl, q⟩ := optQ_ex q
    obtain ⟨v, hv1, dn⟩ := R.dat hs
    obtain ⟨a, o, rfl, ha0, ho⟩ := dn.fnRef
    refine wpAny_Call_Name_kw (thn (hv.run pins s σ H (fun v H1 => v = .ref a ∧ H1 = H) I ⟨_, hv1, rfl, rfl⟩) fun u s1 ⟨v, H1, I1, r1, e1, e2⟩ => ?_)
    subst e1 e2
    cases r1
    exact PySem.W.callWith_F0 (fnAt I1.hok (R.ex _ _ ha0) ho) (lam_run (us := []) (hL k sp hk) hg hr hj I1 R (Ex.refl _) .nil dn hnf .nil hx hl q post)
  · exact q.elim⟩⟩
/-! ### a lambda is made -/
/-- what the making of a lambda changes -/
def Made (H H1 : Hp) (P c : Addr) (q : Str) : Prop := H1 = H ∨ ∃ ps more, H P = some (.tbl ps) ∧ H c = none ∧ H1 = upd (upd H P (.tbl (ps ++ more))) c (LamX.CodeO c q) ∧ LamX.TabS H1 P q
theorem lam_make {pins : List (Addr × Obj)} {s : Shared} {c P : Addr} {q : Str} {params : Arguments} {body : Expr} {scope : Scope} {Er : Value → Shared → Prop} {Q : Value → Shared → Prop} (I : Inv X pins σ H s) (TB : LamX.TabB X.base X.mg c P) (hcode : X.env.code = .ref c)
    (hT : LamX.TabS H P q) (hq : X.env.qual ++ "<lambda>" = q) (hdef : defaultsOf params X.env = ([], [])) (hfree : ∀ y ∈ scope.names, y.2 = .free → ∃ c, X.env.cells.lookup y.1 = some c)
    (h : ∀ (f c' : Addr) (pm ctv : Value) (H1 : Hp) (s' : Shared), Inv X pins σ H1 s' → Made H H1 P c' q → s.heap.objs.size ≤ f → s'.heap.get? f = some (PySem.W.kla_obj "<lambda>" q params body scope (cloFrom X.env.cells scope.names []) pm c' ctv) → H1 f = none → H1 c' = some (LamX.CodeO c' q) → Q (.ref f) s') :
    wpAny (model X.prog X.w) X.A (eval (.Lambda params body scope lpos) X.env) Q Er s := by
  subst hq
  obtain ⟨ps, hP, ht, ha⟩ := hT
  refine PySem.W.kla_eval hdef ?_
  have bP : s.heap.BuiltinsAt X.mg P := TB.bm.keeps I.bk
  have hP' : s.heap.get? P = some { cls := .none, data := .fields ps } := I.hok P _ hP
  cases hc : codeAmong lpos ps.toList with
  | none =>
    refine PySem.W.kla_makeFunction (mg := X.mg) (c := c) (P := P) (ps := ps) (closure_ok hfree) I.ok.glob (I.mod.glob.keeps I.bk) hcode (TB.code.keeps I.bk) hP' ht hc TB.gP bP fun c' ctv h' tk hx hge hlt hrec htb => ?_
    obtain ⟨c2, oc, vs, t, e2, hoc, hd, hv⟩ := hrec
    cases e2
    have hsz : s.heap.objs.size ≤ h'.objs.size := Nat.le_trans hge (Nat.le_of_lt hlt)
    have nC : H c' = none := I.hok.fresh hge
    have pu : ∀ b o, h'.get? b = some o → (h'.push (PySem.W.kla_obj "<lambda>" (X.env.qual ++ "<lambda>") params body scope (cloFrom X.env.cells scope.names []) ((X.mg "__name__").getD .none) c' ctv)).get? b = some o := fun b o e => Heap.get?_push_of_some _ e
    have I1 := LamX.inv_table (t' := tk) (q := X.env.qual ++ "<lambda>") (more := #[rawInt lpos.line, rawInt lpos.col, .ref c']) I hP (fun b o hb e => pu _ _ (hx b o hb e)) (pu _ _ htb) hge ⟨oc, vs, t, pu _ _ hoc, hd, hv⟩
    have old : ∀ b o, H b = some o → (∀ ps, o ≠ .tbl ps) → upd (upd H P (.tbl (ps ++ #[rawInt lpos.line, rawInt lpos.col, .ref c']))) c' (LamX.CodeO c' (X.env.qual ++ "<lambda>")) b = some o := fun b o e n => by
      rw [upd_ne (ne_of_none e nC), upd_ne (fun z => n ps (Option.some.inj (e.symm.trans (by rw [z]; exact hP))))]
      exact e
    refine h h'.objs.size c' ((X.mg "__name__").getD .none) ctv _ _ I1 (.inr ⟨ps, _, hP, nC, rfl, _, by rw [upd_ne (ne_of_none hP nC), upd_same], ?_, fun p' cv hcv => ?_⟩) hsz (Heap.get?_push_size _ rfl) ?_ upd_same
    · simpa using PySem.TriplesOk_snoc _ _ _ _ ht
    · rcases LamX.among_app (pos := lpos) (c := .ref c') _ ht (by simpa using hcv) with z | z
      · obtain ⟨c0, e1, e2⟩ := ha p' cv z
        exact ⟨c0, e1, old _ _ e2 LamX.codeO_ne⟩
      · exact ⟨c', z, upd_same⟩
    · rw [upd_ne (Nat.ne_of_gt hlt), upd_ne (Nat.ne_of_gt (Nat.lt_of_lt_of_le (Heap.lt_size hP') hsz))]
      exact I.hok.fresh hsz
  | some cv =>
    obtain ⟨c', e, hco⟩ := ha lpos cv hc
    subst e
    refine PySem.W.kla_makeFunctionHit (mg := X.mg) (c := c) (P := P) (ps := ps) (closure_ok hfree) I.ok.glob (I.mod.glob.keeps I.bk) hcode (TB.code.keeps I.bk) hP' ht hc bP fun ctv h' tk hx hsz => ?_
    exact h h'.objs.size c' ((X.mg "__name__").getD .none) ctv H _ (I.kept fun b o e => Heap.get?_push_of_some _ (hx b o e)) (.inl rfl) hsz (Heap.get?_push_size _ rfl) (I.hok.fresh hsz) hco
theorem made_grow {P c : Addr} {q : Str} (m : Made H H' P c q) (sb : Sb S H) (hm : (P, q) ∈ TabC.tab) (hu : ∀ p ∈ TabC.tab, p.1 = P → p.2 = q) : Grow S H S H' := by
  rcases m with rfl | ⟨ps, more, hP, hc, rfl, hT⟩
  · exact Grow.refl sb
  · have at_ : ∀ b o, H b = some o → NT o → upd (upd H P (.tbl (ps ++ more))) c (LamX.CodeO c q) b = some o := fun b o e n => by
      rw [upd_ne (ne_of_none e hc), upd_ne (fun z => n ps (Option.some.inj (e.symm.trans (by rw [z]; exact hP))))]
      exact e
    have nP : P ≠ c := ne_of_none hP hc
    refine ⟨Ex.refl _, ⟨at_, fun a ts e => ?_⟩, ⟨fun b o e => ?_, fun b vs e => ?_, fun p hp => ?_⟩, fun _ _ _ n => n⟩
    · have na := ne_of_none e hc
      by_cases z : a = P
      · subst z; exact ⟨_, by rw [upd_ne na, upd_same]⟩
      · exact ⟨ts, by rw [upd_ne na, upd_ne z]; exact e⟩
    · have z := sb.ex _ _ e
      have hb : b ≠ P := fun y => by rw [y, (sb.tb _ hm).1] at e; cases e
      rw [upd_ne (ne_of_none z hc), upd_ne hb]; exact z
    · by_cases z : b = c
      · subst z; rw [upd_same] at e; cases e
      · rw [upd_ne z] at e
        by_cases z2 : b = P
        · subst z2; rw [upd_same] at e; cases e
        · rw [upd_ne z2] at e; exact sb.tp _ _ e
    · obtain ⟨t1, ts, t2, t3, t4⟩ := sb.tb p hp
      by_cases z : p.1 = P
      · rw [hu p hp z, z]
        exact ⟨by rw [← z]; exact t1, hT⟩
      · refine ⟨t1, ts, by rw [upd_ne (ne_of_none t2 hc), upd_ne z]; exact t2, t3, fun pos cv h => ?_⟩
        obtain ⟨c0, e1, e2⟩ := t4 pos cv h
        exact ⟨c0, e1, at_ _ _ e2 LamX.codeO_ne⟩
/-! ### handed to a def -/
/-- arguments, the last one a lambda: what is ahead of it -/
structure DLA (X : Cx) (E : EK) (lam : Expr) (es : List Expr) (d : dA) : Prop where
  run : ∀ (B : Bs) (pos : Pos) (pins : List (Addr × Obj)) (s : Shared) (σ : L2.St) (H : Hp) (Qm : List Value → Shared → Prop) (δ : DS) (S : Hp) (W : XW) (Q' : List D → DS → Prop), Inv X pins σ H s → Rel X.K B δ S σ H → d W δ Q' → XOk X.K B E W S →
    (∀ xs δ' vs us S' H' s', Q' xs δ' → Ex S S' → Rel X.K B δ' S' σ H' → DnA X.K S' vs xs → Vals vs us → Inv X pins σ H' s' → wpAny (model X.prog X.w) X.A (eval lam X.env) (fun f s'' => Qm (us ++ [f]) s'') X.xe s') →
    wpAny (model X.prog X.w) X.A (spliced (backTo pos (starEach es X.env))) Qm X.xe s
theorem dla_last {lam : Expr} (hs : starEach [lam] X.env = (false, eval lam X.env) :: starEach [] X.env := by rfl) : DLA X E lam [lam] dNil := ⟨fun B pos pins s σ H Qm δ S W Q' I R q xo h => by
  rw [hs]
  show wpAny _ _ (spliced ((false, eval lam X.env) :: backTo pos (starEach [] X.env))) _ _ s
  refine Calls.spliced_cons (wpAny_mono (h [] δ [] [] S H s q (Ex.refl _) R .nil .nil I) (fun f s1 z => Calls.spliced_nil z) fun _ _ z => z)⟩
theorem dla_cons {lam : Expr} {da : dE} {r : dA} (h : DE X E e da) (hr : DLA X E lam es r) (hs : starEach (e :: es) X.env = (false, eval e X.env) :: starEach es X.env := by rfl) : DLA X E lam (e :: es) (dCons da r) := ⟨fun B pos pins s σ H Qm δ S W Q' I R q xo post => by
  rw [hs]
  show wpAny _ _ (spliced ((false, eval e X.env) :: backTo pos (starEach es X.env))) _ _ s
  refine Calls.spliced_cons (thn ((h.run B).run pins s σ H _ I ⟨δ, S, W, _, R, q, xo, fun x δ1 v S1 H1 q1 e1 R1 n1 => (⟨S1, x, δ1, e1, R1, n1, q1⟩ : ∃ S1 x δ1, Ex S S1 ∧ Rel X.K B δ1 S1 σ H1 ∧ Dn X.K S1 v x ∧ r W δ1 fun ds δ2 => Q' (x :: ds) δ2)⟩) fun u s1 ⟨v, H1, I1, r1, S1, x, δ1, e1, R1, n1, q1⟩ => ?_)
  exact hr.run B pos pins s1 σ H1 (fun vs s2 => Qm (u :: vs) s2) δ1 S1 W _ I1 R1 q1 (xo.mono e1) fun xs δ' vs us S' H' s' q2 e2 R2 n2 rv I2 => post (x :: xs) δ' (v :: vs) (u :: us) S' H' s' q2 (e1.trans e2) R2 (.cons (n1.mono e2) n2) (.cons r1 rv) I2⟩
/-- data in slots -/
def capsD (δ : DS) : List Nat → Option (List D)
  | [] => some []
  | i :: is => match δ.sl[i]?, capsD δ is with
    | some (.dat d), some ds => some (d :: ds)
    | _, _ => none
def dCallLam (n : Nat) (sp : dSp) (k : Nat) (idx : List Nat) (a : dA) : dE := fun W δ Q => a W δ fun xs δ1 => optQ (capsD δ1 idx) fun ds => D.nfs ds = true ∧ (xs ++ [D.fn k ds]).length = n ∧ sp (xs ++ [D.fn k ds]) δ1.pen (fun x p' => x.nf = true ∧ Q x { δ1 with pen := p' }) fun _ _ => False
theorem caps_vals (R : Rel K B δ S σ H) : ∀ {idx : List Nat} {ds : List D}, capsD δ idx = some ds → ∃ vs, DnA K S vs ds ∧ vs.length = idx.length ∧ ∀ (q i : Nat) (v : V), idx[q]? = some i → vs[q]? = some v → σ[i]? = some (some v)
  | [], _, e => by cases e; exact ⟨[], .nil, rfl, fun _ _ _ h => by simp at h⟩
  | i :: idx, _, e => by
    unfold capsD at e
    split at e
    · rename_i d ds h1 h2
      cases e
      obtain ⟨vs, g1, g2, g3⟩ := caps_vals R h2
      obtain ⟨v, hv, dn⟩ := R.dat h1
      refine ⟨v :: vs, .cons dn g1, by simp [g2], fun q j u e1 e2 => ?_⟩
      cases q with
      | zero => simp at e1 e2; subst e1 e2; exact hv
      | succ q => exact g3 q j u (by simpa using e1) (by simpa using e2)
    · cases e
end
/-- known by the objects that stand there -/
def pinH (h : Heap) (H : Hp) (cs : List Addr) : Hp := fun b => if b ∈ cs then (h.get? b).map (fun o => PinO o b) else H b
section
variable {P : Program} {w : World} {s : Shared} {cs : List Addr}
theorem pin_in {h : Heap} {b : Addr} {o : Obj} (hb : b ∈ cs) (e : h.get? b = some o) : pinH h H cs b = some (PinO o b) := by unfold pinH; rw [if_pos hb, e]; rfl
theorem pin_out {h : Heap} {b : Addr} (hb : b ∉ cs) : pinH h H cs b = H b := if_neg hb
theorem hok_pin (x : HOk P w H s.heap) (hn : ∀ b ∈ cs, H b = none) : HOk P w (pinH s.heap H cs) s.heap := fun b o e => by
  by_cases hb : b ∈ cs
  · unfold pinH at e
    rw [if_pos hb] at e
    cases q : s.heap.get? b with
    | none => rw [q] at e; cases e
    | some ob =>
      rw [q] at e; cases e
      exact ⟨q, ⟨_, q⟩, fun h1 h2 z st => st _ z⟩
  · rw [pin_out hb] at e
    refine (x b o e).stay (fun _ _ _ z => z) (fun c z => ?_) fun c xs z => ?_
    · rw [pin_out (fun y => by rw [hn c y] at z; cases z)]; exact z
    · rw [pin_out (fun y => by rw [hn c y] at z; cases z)]; exact z
theorem clo_nodup {cells : List (Str × Addr)} (inj : ∀ x y c, cells.lookup x = some c → cells.lookup y = some c → x = y) : ∀ {cl : List (Str × Addr)}, (cl.map (·.1)).Nodup → (∀ p ∈ cl, cells.lookup p.1 = some p.2) → (cl.map (·.2)).Nodup
  | [], _, _ => List.nodup_nil
  | p :: cl, nd, h => by
    have nd' := List.nodup_cons.mp nd
    refine List.nodup_cons.mpr ⟨fun z => ?_, clo_nodup inj nd'.2 fun q hq => h q (List.mem_cons_of_mem _ hq)⟩
    obtain ⟨q, hq, e⟩ := List.mem_map.mp z
    have h1 := h p List.mem_cons_self
    have h2 := h q (List.mem_cons_of_mem _ hq)
    have e : q.2 = p.2 := e
    rw [e] at h2
    exact nd'.1 (List.mem_map.mpr ⟨q, hq, (inj _ _ _ h1 h2).symm⟩)
end
end Ev

/-! # A lambda handed to a def -/
namespace Ev
open PySem PySem.Spec PyProof.Rows L2
variable [TabC]
variable {K : PySem.W.Frag} {S S' H H' : Hp} {B : Bs} {δ : DS} {σ : L2.St}
/-- .. frozen besides: the pinned ones, the code object -/
def plusS (h : Heap) (S H : Hp) (cs : List Addr) (c : Addr) : Hp := fun b => if b ∈ cs then pinH h H cs b else if b = c then H c else S b
section
variable {h : Heap} {cs : List Addr} {c : Addr} {q : Str} {p p' : Pen}
structure PlusOk (h : Heap) (S H : Hp) (cs : List Addr) (c : Addr) (q : Str) : Prop where
  sb : Sb S H
  hn : ∀ b ∈ cs, H b = none
  ho : ∀ b ∈ cs, ∃ o, h.get? b = some o
  hc : H c = some (LamX.CodeO c q)
theorem PlusOk.out (o : PlusOk h S H cs c q) {b : Addr} {u : HO} (e : H b = some u) : b ∉ cs := fun z => by rw [o.hn b z] at e; cases e
theorem PlusOk.cn (o : PlusOk h S H cs c q) : c ∉ cs := o.out o.hc
theorem plus_in (o : PlusOk h S H cs c q) {b : Addr} (hb : b ∈ cs) : ∃ ob, plusS h S H cs c b = some (PinO ob b) ∧ pinH h H cs b = some (PinO ob b) ∧ h.get? b = some ob := by
  obtain ⟨ob, e⟩ := o.ho b hb
  exact ⟨ob, by unfold plusS; rw [if_pos hb]; exact pin_in hb e, pin_in hb e, e⟩
theorem plus_c (o : PlusOk h S H cs c q) : plusS h S H cs c c = some (LamX.CodeO c q) := by unfold plusS; rw [if_neg o.cn, if_pos rfl]; exact o.hc
theorem plus_out (hb : b ∉ cs) (hc : b ≠ c) : plusS h S H cs c b = S b := by unfold plusS; rw [if_neg hb, if_neg hc]
theorem plus_ex (o : PlusOk h S H cs c q) : Ex S (plusS h S H cs c) := fun b u e => by
  have z := o.sb.ex _ _ e
  have nb := o.out z
  by_cases hc : b = c
  · subst hc; rw [plus_c o]; rw [o.hc] at z; exact z
  · rw [plus_out nb hc]; exact e
theorem plus_sb (o : PlusOk h S H cs c q) : Sb (plusS h S H cs c) (pinH h H cs) := by
  refine ⟨fun b u e => ?_, fun b vs e => ?_, fun r hr => ?_⟩
  · by_cases hb : b ∈ cs
    · obtain ⟨ob, z1, z2, _⟩ := plus_in o hb
      rw [z1] at e; rw [z2]; exact e
    · rw [pin_out hb]
      by_cases hc : b = c
      · subst hc; rw [plus_c o] at e; rw [o.hc]; exact e
      · rw [plus_out hb hc] at e; exact o.sb.ex _ _ e
  · by_cases hb : b ∈ cs
    · obtain ⟨ob, z1, z2, _⟩ := plus_in o hb
      rw [z2] at e; cases e
    · rw [pin_out hb] at e
      have hc : b ≠ c := fun z => by subst z; rw [o.hc] at e; cases e
      rw [plus_out hb hc]; exact o.sb.tp _ _ e
  · obtain ⟨t1, ts, t2, t3, t4⟩ := o.sb.tb r hr
    have nb := o.out t2
    have hc : r.1 ≠ c := fun z => by rw [z, o.hc] at t2; cases t2
    refine ⟨by rw [plus_out nb hc]; exact t1, ts, by rw [pin_out nb]; exact t2, t3, fun pos cv hcv => ?_⟩
    obtain ⟨c0, z1, z2⟩ := t4 pos cv hcv
    exact ⟨c0, z1, by rw [pin_out (o.out z2)]; exact z2⟩
theorem plus_pen (o : PlusOk h S H cs c q) (hp : PenOk S H p) : PenOk (plusS h S H cs c) (pinH h H cs) p := by
  match p, hp with
  | none, _ => trivial
  | some (a, k), ⟨q1, ca, ns, kk, m, q2, q3, q4⟩ =>
    have nb := o.out q2
    have hc : a ≠ c := fun z => by rw [z, o.hc] at q2; cases q2
    exact ⟨by rw [plus_out nb hc]; exact q1, ca, ns, kk, m, by rw [pin_out nb]; exact q2, plus_ex o _ _ q3, q4⟩
/-- what stays when the lambda is forgotten -/
def minusS (S0 S' : Hp) (cs : List Addr) (c : Addr) : Hp := fun b => if b ∈ cs then none else if b = c ∧ S0 c = none then none else S' b
theorem minus_some {S0 : Hp} {b : Addr} {u : HO} (e : minusS S0 S' cs c b = some u) : b ∉ cs ∧ S' b = some u := by
  unfold minusS at e
  split at e
  · cases e
  · split at e
    · cases e
    · exact ⟨by assumption, e⟩
theorem minus_of {S0 : Hp} {b : Addr} {u : HO} (hb : b ∉ cs) (hc : b = c → ∃ o, S0 c = some o) (e : S' b = some u) : minusS S0 S' cs c b = some u := by
  unfold minusS
  rw [if_neg hb, if_neg (fun z => by obtain ⟨o, q⟩ := hc z.1; rw [z.2] at q; cases q)]
  exact e
theorem fin_minus (o : PlusOk h S H cs c q) (f : Fin (plusS h S H cs c) (pinH h H cs) S' H' p p') (hp : PenOk S H p) {P : Program} {w : World} {h2 : Heap} (ok : HOk P w H' h2) (hk : ∀ b ∈ cs, ∀ ob, h.get? b = some ob → ∀ vs, ob.data ≠ .fields vs) :
    (∀ b ∈ cs, H' b = pinH h H cs b) ∧ Fin S H (minusS S S' cs c) (offH H' cs) p p' := by
  have npen : ∀ b : Addr, H b = none → p.map (·.1) ≠ some b := fun b hn z => by
    match p, hp, z with
    | some (a, k), ⟨_, _, _, _, _, q2, _⟩, z =>
      cases (show some a = some b from z)
      rw [q2] at hn; cases hn
  have stay : ∀ b ∈ cs, H' b = pinH h H cs b := fun b hb => by
    obtain ⟨ob, z1, z2, z3⟩ := plus_in o hb
    rw [z2]
    exact f.h b _ z2 (npen b (o.hn b hb)) fun _ z => nomatch z
  have hin : ∀ b u, H b = some u → b ∉ cs := fun b u e => o.out e
  have cst : H' c = some (LamX.CodeO c q) := f.h c _ (by rw [pin_out o.cn]; exact o.hc) (fun z => by
    match p, hp, z with
    | some (a, k), ⟨_, _, _, _, _, q2, _⟩, z =>
      cases (show some a = some c from z)
      rw [o.hc] at q2; cases q2) LamX.codeO_ne
  have pl' : ∀ b u, H' b = some u → (∀ φ, u ≠ .ext φ) → b ∉ cs ∧ b ≠ c := fun b u e n => by
    refine ⟨fun z => ?_, fun z => ?_⟩
    · obtain ⟨ob, _, z2, _⟩ := plus_in o z
      rw [stay b z, z2] at e; cases e; exact n _ rfl
    · subst z; rw [cst] at e; cases e; exact n _ rfl
  refine ⟨stay, fun b u e => ?_, ⟨fun b u e => ?_, fun b vs e => ?_, fun r hr => ?_⟩, ?_, ?_, fun b u e n nt => ?_, fun b ts e => ?_, fun b u e n => ?_⟩
  · have z := o.sb.ex _ _ e
    refine minus_of (hin b u z) (fun y => ⟨u, y ▸ e⟩) (f.s b u (plus_ex o _ _ e))
  · obtain ⟨nb, e⟩ := minus_some e
    rw [off_out nb]; exact f.ok.ex _ _ e
  · obtain ⟨nb, e⟩ := off_some e
    have := pl' b _ e fun _ z => nomatch z
    exact minus_of nb (fun z => absurd z this.2) (f.ok.tp _ _ e)
  · obtain ⟨t1, ts, t2, t3, t4⟩ := f.ok.tb r hr
    have nb := pl' _ _ t2 fun _ z => nomatch z
    refine ⟨?_, ts, by rw [off_out nb.1]; exact t2, t3, fun pos cv hcv => ?_⟩
    · unfold minusS; split
      · rfl
      · split
        · rfl
        · exact t1
    · obtain ⟨c0, z1, z2⟩ := t4 pos cv hcv
      refine ⟨c0, z1, ?_⟩
      rw [off_out (fun hb => ?_)]
      · exact z2
      · obtain ⟨ob, _, y2, y3⟩ := plus_in o hb
        have y4 := stay c0 hb
        rw [y2] at y4
        have y5 : h2.get? c0 = some ob := (ok c0 _ y4).1
        obtain ⟨⟨oc, vs, t, y6, y7, _⟩, _⟩ := ok c0 _ z2
        rw [y6] at y5; cases y5
        exact hk c0 hb _ y3 vs y7
  · match p', f.pen with
    | none, _ => trivial
    | some (a, k), ⟨q1, ca, ns, kk, m, q2, q3, q4⟩ =>
      have nb := pl' _ _ q2 fun _ z => nomatch z
      have n2 := pl' _ _ (f.ok.ex _ _ q3) fun _ z => nomatch z
      refine ⟨?_, ca, ns, kk, m, by rw [off_out nb.1]; exact q2, minus_of n2.1 (fun z => absurd z n2.2) q3, q4⟩
      unfold minusS
      rw [if_neg nb.1]
      split
      · rfl
      · exact q1
  · rcases f.same with z | ⟨z1, z2⟩
    · exact .inl z
    · refine .inr ⟨z1, fun a k e => ?_⟩
      have h1 := z2 a k e
      have h2 := f.pen
      rw [e] at h2
      obtain ⟨_, _, _, _, _, q2, _⟩ := h2
      have nb := pl' _ _ q2 fun _ z => nomatch z
      rw [pin_out nb.1] at h1; exact h1
  · have nb := hin b u e
    rw [off_out nb]; exact f.h b u (by rw [pin_out nb]; exact e) n nt
  · have nb := hin b _ e
    rw [off_out nb]; exact f.t b ts (by rw [pin_out nb]; exact e)
  · have nb := hin b _ e
    unfold minusS
    rw [if_neg nb]
    split
    · rfl
    · rename_i nc
      by_cases hc : b = c
      · subst hc
        exact absurd ⟨rfl, n⟩ nc
      · exact f.no b u (by rw [pin_out nb]; exact e) (by rw [plus_out nb hc]; exact n)
section
variable {X : Cx} {E : EK} {x : Str} {p pos lpos : Pos} {e : Expr} {es : List Expr} {j m n k : Nat} {ta : dA} {sp : dSp} {l : Lam} {c P : Addr} {idx : List Nat}
theorem minus_nx (o : PlusOk h S H cs c q) {S0 : Hp} (hs : ∀ b ∈ cs, ∃ φ, S' b = some (.ext φ)) (hc : ∃ φ, S' c = some (.ext φ)) : NX S' (minusS S0 S' cs c) := fun b u e n => by
  refine minus_of (fun z => ?_) (fun z => ?_) e
  · obtain ⟨φ, y⟩ := hs b z
    rw [e] at y; cases y; exact absurd rfl (n _)
  · obtain ⟨φ, y⟩ := hc
    rw [z, y] at e; cases e; exact absurd rfl (n _)
theorem clo_at {cells : List (Str × Addr)} {names : List (Str × NameKind)} (hfree : ∀ y ∈ names, y.2 = .free → ∃ c, cells.lookup y.1 = some c) : ∀ p ∈ cloFrom cells names [], cells.lookup p.1 = some p.2 := fun p hp => by
  obtain ⟨y, a⟩ := p
  rcases cloFrom_mem hp with h | ⟨h1, h2⟩
  · cases h
  · obtain ⟨c1, hc⟩ := hfree _ h1 rfl
    have hc : cells.lookup y = some c1 := hc
    rw [hc] at h2
    have h2 : a = c1 := h2
    rw [h2]; exact hc
theorem idx_get {idx : List Nat} {N caps : List Str} (h : idx.map (N[·]?) = caps.map some) {r : Nat} {y : Str} (e : caps[r]? = some y) : ∃ i, idx[r]? = some i ∧ N[i]? = some y := by
  have := congrArg (·[r]?) h
  simp only [List.getElem?_map, e, Option.map_some] at this
  cases q : idx[r]? with
  | none => rw [q] at this; cases this
  | some i => rw [q] at this; exact ⟨i, rfl, Option.some.inj this⟩
theorem cells_of {cs : List Addr} {vs : List V} (hl : cs.length = vs.length) (h : ∀ (r : Nat) (ca : Addr) (v : V), cs[r]? = some ca → vs[r]? = some v → ∃ o u, S ca = some (PinO o ca) ∧ o.data = .cell (some u) ∧ RelV v u) : CellsAt S cs vs := by
  induction cs generalizing vs with
  | nil => cases vs with | nil => exact .nil | cons _ _ => simp at hl
  | cons ca cs ih =>
    cases vs with
    | nil => simp at hl
    | cons v vs => exact .cons (h 0 ca v rfl rfl) (ih (by simpa using hl) fun r c2 v2 e1 e2 => h (r + 1) c2 v2 (by simpa using e1) (by simpa using e2))
/-- f(.., lambda ..: ..) -/
theorem de_callLam (h : Def X.prog X.w X.K X.mg X.base j x n sp []) (hg : X.A.guards = some []) (hr : Room m X.A) (gl : Gl X x) (ha : DLA X E (.Lambda l.params l.body l.scope lpos) (e :: es) ta) (hl : TabC.lam k = some l) (hq : X.env.qual ++ "<lambda>" = l.qual) (TB : LamX.TabB X.base X.mg c P) (hcode : X.env.code = .ref c)
    (hm : (P, l.qual) ∈ TabC.tab) (hu : ∀ p ∈ TabC.tab, p.1 = P → p.2 = l.qual) (hdef : defaultsOf l.params X.env = ([], [])) (hcaps : ∀ cells, (cloFrom cells l.scope.names []).map (·.1) = l.caps) (hcnd : l.caps.Nodup) (hkind : ∀ y ∈ l.caps, X.env.scope.names.lookup y = some .cell)
    (hfr : ∀ y ∈ l.scope.names, y.2 = .free → y.1 ∈ l.caps) (hfn : ∀ y, X.fn y = true) (hidx : idx.map (X.N[·]?) = l.caps.map some) (hj : j ≤ m := by decide) (hdb : (x == ("__debug__" : Str)) = false := by decide)
    (he : starEach (e :: es) X.env = (false, eval e X.env) :: starEach es X.env := by rfl) (hpl : (backTo pos (starEach es X.env)).any (·.1) = false := by rfl) : DE X E (.Call (.Name x p) (e :: es) [] pos) (dCallLam n sp k idx ta) := ⟨fun B => ⟨fun pins s σ H Q I q => by
  obtain ⟨ps, f, fd, dv, dds, F, mx, kp, b, vd, dn⟩ := h.ok
  have hdv : dv = [] := by cases dn H; rfl
  subst hdv
  have hdds : dds = [] := vd.zero
  subst hdds
  obtain ⟨δ, S, W, Q', R, q, xo, post⟩ := q
  refine wpAny_Call_Name_kw (ld_glob I gl mx ?_ hdb)
  refine PySem.W.callWith_K (h₀ := X.base) I.ok.mod.kin kp (ha.run B pos pins s σ H _ δ S W _ I R q xo fun xs δ1 vs us S1 H1 s1 q1 e1 R1 n1 rv I1 => ?_) he hpl
  obtain ⟨ds, hds, hnf, hlen, q2⟩ := optQ_ex q1
  have hfree : ∀ y ∈ l.scope.names, y.2 = .free → ∃ c, X.env.cells.lookup y.1 = some c := fun y hy ey => I1.ok.has _ (.inl (hkind _ (hfr y hy ey)))
  refine lam_make I1 TB hcode (R1.ex.tb _ hm).2 hq hdef hfree fun fa c' pm ctv H2 s2 I2 mk hge hobj hfn2 hc2 => ⟨I2.kIn, ?_⟩
  have R2 := R1.grow (made_grow mk R1.ex hm hu)
  have cat := clo_at hfree
  generalize hcl : cloFrom X.env.cells l.scope.names [] = cl at cat hobj
  have hnm : cl.map (·.1) = l.caps := by rw [← hcl]; exact hcaps _
  have cnd : (cl.map (·.2)).Nodup := clo_nodup I2.ok.inj (by rw [hnm]; exact hcnd) cat
  have hfge : X.s_0.heap.objs.size ≤ fa := Nat.le_trans I1.sz hge
  -- a cell
  have cellAt : ∀ ca ∈ cl.map (·.2), ∃ y, X.env.cells.lookup y = some ca := fun ca hca => by
    obtain ⟨p, hp, e⟩ := List.mem_map.mp hca
    have e : p.2 = ca := e
    exact ⟨p.1, by rw [← e]; exact cat p hp⟩
  have lt0 : ∀ b ∈ fa :: cl.map (·.2), X.s_0.heap.objs.size ≤ b := fun b hb => by
    rcases List.mem_cons.mp hb with rfl | hb
    · exact hfge
    · obtain ⟨y, hy⟩ := cellAt b hb
      exact I2.ok.cab y b (hfn y) hy
  have PO : PlusOk s2.heap S1 H2 (fa :: cl.map (·.2)) c' l.qual := by
    refine ⟨R2.ex, fun b hb => ?_, fun b hb => ?_, hc2⟩
    · rcases List.mem_cons.mp hb with rfl | hb
      · exact hfn2
      · obtain ⟨y, hy⟩ := cellAt b hb
        exact I2.freeC y b hy
    · rcases List.mem_cons.mp hb with rfl | hb
      · exact ⟨_, hobj⟩
      · obtain ⟨y, hy⟩ := cellAt b hb
        obtain ⟨v, o, ho, _⟩ := I2.cell y b hy
        exact ⟨o, ho⟩
  have hcsf : ∀ b ∈ fa :: cl.map (·.2), b ∉ frs X.stack := fun b hb z => by
    rcases List.mem_cons.mp (I2.stkSub b z) with e | z
    · rcases List.mem_cons.mp hb with e2 | hb
      · have h1 := I1.lt
        rw [← e, e2] at h1
        exact Nat.lt_irrefl _ (Nat.lt_of_lt_of_le h1 hge)
      · obtain ⟨y, hy⟩ := cellAt b hb
        exact I2.cne y b hy e
    · obtain ⟨_, o, ho, _⟩ := I2.ok.funs.mem z
      exact Nat.lt_irrefl _ (Nat.lt_of_lt_of_le (Heap.lt_size ho) (lt0 b hb))
  have hk : ∀ b ∈ fa :: cl.map (·.2), ∀ ob, s2.heap.get? b = some ob → ∀ vs, ob.data ≠ .fields vs := fun b hb ob ho vs z => by
    rcases List.mem_cons.mp hb with rfl | hb
    · rw [hobj] at ho; cases ho; cases z
    · obtain ⟨y, hy⟩ := cellAt b hb
      obtain ⟨v, o, ho2, hd⟩ := I2.cell y b hy
      rw [ho2] at ho; cases ho; rw [hd] at z; cases z
  -- what is captured
  obtain ⟨ws, hw1, hw2, hw3⟩ := caps_vals R2 hds
  have hil : idx.length = l.caps.length := by have := congrArg List.length hidx; simpa using this
  have hcll : cl.length = l.caps.length := by rw [← hnm, List.length_map]
  have cells : CellsAt (plusS s2.heap S1 H2 (fa :: cl.map (·.2)) c') (cl.map (·.2)) ws := cells_of (by rw [List.length_map, hcll, hw2, hil]) fun r ca v z1 z2 => by
    rw [List.getElem?_map] at z1
    cases hp : cl[r]? with
    | none => rw [hp] at z1; cases z1
    | some pr =>
      rw [hp] at z1
      cases (show some pr.2 = some ca from z1)
      have hy : l.caps[r]? = some pr.1 := by rw [← hnm, List.getElem?_map, hp]; rfl
      obtain ⟨i, hi, hN⟩ := idx_get hidx hy
      have hmem : pr ∈ cl := List.mem_of_getElem? hp
      have hs := hw3 r i v hi z2
      obtain ⟨mm, _, hloc⟩ := I2.loc
      have hkd := hkind pr.1 (List.mem_of_getElem? hy)
      obtain ⟨u, ru, lk⟩ := hloc i pr.1 v hN hs (.inr (.inl hkd))
      obtain ⟨ob, y1, _, y3⟩ := plus_in PO (b := pr.2) (List.mem_cons_of_mem _ (List.mem_map.mpr ⟨pr, hmem, rfl⟩))
      rcases lk with ⟨k', _⟩ | ⟨_, c3, e', ⟨o3, g1, g2⟩⟩
      · have k' : X.env.scope.names.lookup pr.1 = some .local := k'
        rw [hkd] at k'; cases k'
      · rw [cat pr hmem] at e'
        cases e'
        rw [g1] at y3; cases y3
        exact ⟨_, u, y1, g2, ru⟩
  have dnf : Dn X.K (plusS s2.heap S1 H2 (fa :: cl.map (·.2)) c') (.ref fa) (.fn k ds) := by
    obtain ⟨ob, y1, _, y3⟩ := plus_in PO (b := fa) List.mem_cons_self
    rw [hobj] at y3; cases y3
    exact .fn (cl := cl) hl y1 (plus_c PO) hnm cnd cells (hw1.mono (plus_ex PO))
  have e0 := I2.env0
  have e0' : Env0 X.prog X.w X.K X.mg X.base X.A X.stack s2 (pinH s2.heap H2 (fa :: cl.map (·.2))) := by
    refine ⟨e0.frames, e0.mod, fun b o ho => ⟨(e0.bs b o ho).1, ?_⟩, e0.bsz, e0.funs, fun b hb => ?_, hok_pin e0.hok PO.hn, e0.bare⟩
    · rw [pin_out (fun z => Nat.lt_irrefl _ (Nat.lt_of_lt_of_le (Heap.lt_size (I2.ok.bs b o ho).1) (lt0 b z)))]
      exact (e0.bs b o ho).2
    · rw [pin_out (fun z => hcsf b z hb)]; exact e0.frf b hb
  have rr : Vals (vs ++ [V.ref fa] ++ []) (us ++ [Value.ref fa] ++ []) := (rv.append (show Vals [V.ref fa] [Value.ref fa] from .cons rfl .nil)).append .nil
  have da := ((n1.mono (plus_ex PO)).append (.cons dnf .nil) : DnA X.K (plusS s2.heap S1 H2 (fa :: cl.map (·.2)) c') (vs ++ [V.ref fa]) (xs ++ [D.fn k ds]))
  have spq : spD X.K n sp (vs ++ [V.ref fa] ++ []) (pinH s2.heap H2 (fa :: cl.map (·.2))) (fun v H' => (∀ b ∈ fa :: cl.map (·.2), H' b = pinH s2.heap H2 (fa :: cl.map (·.2)) b) ∧ ∀ h3, HOk X.prog X.w H' h3 → Q v (offH H' (fa :: cl.map (·.2)))) (fun _ _ _ => False) := by
    rw [List.append_nil]
    refine ⟨_, _, δ1.pen, _, _, plus_sb PO, plus_pen PO R2.pen, da, hlen, q2, fun x p' v S' H' q3 f d => ?_, fun c p' cls od S' H' w _ _ => w⟩
    have stay : ∀ b ∈ fa :: cl.map (·.2), H' b = pinH s2.heap H2 (fa :: cl.map (·.2)) b := fun b hb => by
      obtain ⟨ob, z1, z2, z3⟩ := plus_in PO hb
      rw [z2]
      refine f.h b _ z2 (fun z => ?_) fun _ z => nomatch z
      have hp := R2.pen
      match hpe : δ1.pen, hp, z with
      | some (a, k), ⟨_, _, _, _, _, w2, _⟩, z =>
        cases (show some a = some b from z)
        rw [PO.hn b hb] at w2; cases w2
    refine ⟨stay, fun h3 ok => ?_⟩
    obtain ⟨_, fm⟩ := fin_minus PO f R2.pen ok hk
    refine post _ _ _ _ _ q3.2 (e1.trans fm.s) (R2.after fm) (d.nf (minus_nx PO (fun b hb => ?_) ?_) q3.1)
    · obtain ⟨ob, z1, _, _⟩ := plus_in PO hb
      exact ⟨_, f.s _ _ z1⟩
    · exact ⟨_, f.s _ _ (plus_c PO)⟩
  have hl2 : (us ++ [Value.ref fa] ++ []).length = ps.length := by rw [← rr.length]; exact F.len _ _ _ _ spq
  show wpAny _ _ (call (.ref f) (us ++ [Value.ref fa])) _ _ s2
  refine wpAny_call (codeAny_mono (F.run X.A X.stack s2 (pinH s2.heap H2 (fa :: cl.map (·.2))) ⟨us ++ [Value.ref fa], []⟩ _ _ _ _ hg (hr.mono hj) e0' (b s2 _ I2.kIn hl2) rr spq) fun res s' hq => ?_)
  match res, hq with
  | .error e, hq => exact (show False from hq).elim
  | .ok (.ret u), ⟨v, H', z1, z2, z3, z4, z5, z6, z7⟩ => exact I2.after (ce_off (hok_pin e0.hok PO.hn) (fun b hb => by obtain ⟨ob, _, y2, _⟩ := plus_in PO hb; exact ⟨ob, y2⟩) PO.hn (fun b hb => pin_out hb) hcsf ⟨v, H', z1, z2, z3, z4, z5, z6, z7 s'.heap⟩)⟩⟩
end
end
end Ev

/-! # Defs that make lambdas; the law's call with tables -/
namespace Ev
open PySem PySem.Spec PyProof.Rows L2
section
variable [TabC] {P : Program} {w : World} {K : PySem.W.Frag} {mg : Str → Option Value} {base : Heap} {x qual : Str} {st : Stmt} {f c : Addr} {fd : FuncData} {N ps : List Str} {k n : Nat} {sp : dSp} {d : dS}
/-- a def whose code is known, that lets nothing out -/
theorem fn_dC (F : Fun K x qual st f fd) (S : FnScope N ps (defScope st)) (hn : ps.length = n) (hcd : ∀ cdv, CdOk K f cdv → cdv = .ref c)
    (body : ∀ (A : Around) (out : List Env) (s : Shared) (H : Hp) (E : XK), A.guards = some [] → Room k (A.deeper (envOfC qual (defScope st) s.heap.objs.size f (.ref c))) → DSs (cx0 P w K mg base N qual (defScope st) f (.ref c) A out s H E) E00 (defBody st) d)
    (hsp : ∀ ds p Q W, ds.length = n → sp ds p Q W → d W0 (endsD Q) (startD N.length ds p)) : FnG P w K mg base CX0 (k + 1) f fd ps (spD K n sp) := by
  refine fn_g F S (fun vs H Q E q => (spD_len vs H Q E q).trans hn.symm) fun cdv hcv A out s H vs Q E g r q => ?_
  have e := hcd cdv hcv
  subst e
  obtain ⟨S0, ds, p, Q', W', ex, hp, a, hl, q, post, _⟩ := q
  have hN : ds.length ≤ N.length := by
    have h2 := congrArg List.length S.pre
    rw [List.length_take] at h2
    omega
  refine ⟨_, ((body A out s H E g r).run ⟨S0, H, (Option.map Prod.fst p : Option Addr), true⟩).nox, startD N.length ds p, S0, W0, endsD Q', startRel ex hp a hN, hsp ds p Q' W' hl q, fun _ _ _ _ _ _ _ h => h.elim, fun δ' σ' S' H' q1 e1 R1 => ?_, fun x δ' v σ' S' H' q1 e1 R1 n1 => ?_, fun _ _ _ _ h => h.elim, fun _ _ _ _ h => h.elim, fun _ _ _ _ _ _ _ h => h.elim⟩
  · exact post _ _ _ _ _ q1 R1.fin .non
  · exact post _ _ _ _ _ q1 R1.fin n1
theorem cd_is {oc : Value} {od : Option Addr} {fd' : FuncData} {osl : Array (Option Value)} (l : K.lookup f = some ⟨oc, od, .func fd', osl⟩) (e : fd'.code = .ref c) : ∀ cdv, CdOk K f cdv → cdv = .ref c := fun cdv ⟨_, _, _, _, h1, h2⟩ => by
  rw [l] at h1; cases h1
  exact h2.symm.trans e
end
/-- the script, the tables: what is known at the law's start -/
theorem law_gT {P : Program} {w : World} {K : PySem.W.Frag} {mg mb : Str → Option Value} {CX : CXT} {k : Nat} {fa a : Addr} {cs : List (Addr × Addr)} {fd : FuncData} {x : Str} {sp : Sp} {s : Shared} {vs : List Value} {ns : List Int} (KX : K.In s.heap) (hns : s.heap.Ns mainGlobals mg) (hb : s.heap.Ns builtinsNs mb)
    (hbb : ∀ x : Str, x ≠ "__name__" → mb x = bootBuiltins x) (hlim : s.heap.NoLimit) (hg : s.gens = #[]) (hT : ∀ p ∈ cs, PySem.W.CodeHd s.heap p.1 p.2 ∧ s.heap.get? p.2 = some (PySem.W.tabObj #[])) (nT : ∀ p ∈ cs, K.lookup p.2 = none)
    (hbm : ∃ (bm : Addr) (ob : Obj), mg "__builtins__" = some (.ref bm) ∧ bm ≠ builtinsNs ∧ s.heap.get? bm = some ob ∧ ob.cls = .type "module" ∧ ob.dict = some builtinsNs ∧ ob.data = .plain)
    (ha : s.heap.get? a = some { cls := .type "list", data := .seq vs.toArray }) (hi : IntsAre vs ns) (hl : ns.length ≤ sizeLine) (hr : Room k callerA)
    (F : ∀ base : Heap, K.In base → base.Ns mainGlobals mg → (∀ p ∈ cs, LamX.TabB base mg p.1 p.2) → FnG P w K mg base CX k fa fd [x] sp) (hbind : ∀ (s : Shared) (u : Value), BindsTo s fd ⟨[u], []⟩ [(x, u)])
    (hsp : ∀ H : Hp, (∀ p ∈ cs, H p.2 = some (.tbl #[])) → SqL K H a (ns.map V.int) → sp [.ref a] H (fun v _ => v = .bl true) fun _ _ _ => False) (hCX : ∀ H e s', CX [] H s (fun _ _ _ => False) e s' → False) :
    codeAny (model P w) callerA (.call (.ref fa) ⟨[.ref a], []⟩) (fun r s' => r = .ok (.ret (.bool true)) ∧ OldK s.heap s'.heap ∧ s'.os = s.os ∧ AllBare s'.gens) s := by
  have rv := vals_ints hi
  let tabs := cs.map (·.2)
  have isT : ∀ b ∈ tabs, s.heap.get? b = some (PySem.W.tabObj #[]) := fun b hb => by
    obtain ⟨p, hp, e⟩ := List.mem_map.mp hb
    have e : p.2 = b := e
    rw [← e]; exact (hT p hp).2
  have memT : ∀ p ∈ cs, p.2 ∈ tabs := fun p hp => List.mem_map.mpr ⟨p, hp, rfl⟩
  have aT : a ∉ tabs := fun z => by
    have q := isT a z
    rw [ha] at q; cases q
  -- H knows at most the script, locked, and the tables, empty
  have core : ∀ H : Hp, (∀ b u, H b = some u → (b = a ∧ K.lookup a = none ∧ u = .frz { cls := .type "list", data := .seq vs.toArray } (.lst (ns.map V.int))) ∨ (b ∈ tabs ∧ u = .tbl #[])) → (∀ b ∈ tabs, H b = some (.tbl #[])) → SqL K H a (ns.map V.int) →
      codeAny (model P w) callerA (.call (.ref fa) ⟨[.ref a], []⟩) (fun r s' => r = .ok (.ret (.bool true)) ∧ OldK s.heap s'.heap ∧ s'.os = s.os ∧ AllBare s'.gens) s := by
    intro H hH hHT hS
    have ok : HOk P w H s.heap := fun b u e => by
      rcases hH b u e with ⟨rfl, _, rfl⟩ | ⟨hb, rfl⟩
      · exact ⟨ha, by rw [List.length_map]; exact hl, vs, _, rv, ha⟩
      · exact isT b hb
    have free : ∀ {b : Addr} {o : Obj}, s.heap.get? b = some o → (∀ vs n, o.data ≠ .seq vs n) → o.data ≠ .fields #[] → H b = none := fun {b o} e n1 n2 => by
      cases q : H b with
      | none => rfl
      | some u =>
        rcases hH b u q with ⟨rfl, _, _⟩ | ⟨hb, _⟩
        · rw [ha] at e; cases e; exact absurd rfl (n1 _ _)
        · rw [isT b hb] at e; cases e; exact absurd rfl n2
    have ns_of : ∀ {b : Addr} {m : Str → Option Value}, s.heap.Ns b m → (hidT s.heap H).Ns b m := fun ⟨o, es, ep, e, d, r⟩ => ⟨o, es, ep, hidT_get e (free e (fun _ _ z => by rw [d] at z; cases z) fun z => by rw [d] at z; cases z), d, r⟩
    have kin : K.In (hidT s.heap H) := fun b o e => hidT_get (KX b o e) (by
      cases q : H b with
      | none => rfl
      | some u =>
        rcases hH b u q with ⟨rfl, z, _⟩ | ⟨hb, _⟩
        · rw [z] at e; cases e
        · obtain ⟨p, hp, ep⟩ := List.mem_map.mp hb
          have ep : p.2 = b := ep
          rw [← ep, nT p hp] at e; cases e)
    have TB : ∀ p ∈ cs, LamX.TabB (hidT s.heap H) mg p.1 p.2 := fun p hp => by
      have hTp := (hT p hp).2
      refine ⟨?_, ?_, fun z => ?_⟩
      · obtain ⟨o, us, file, tf, flags, tg, inF, text, tt, e1, r1, r2, r3, r4⟩ := (hT p hp).1
        exact ⟨o, us, file, tf, flags, tg, inF, text, tt, hidT_get e1 (free e1 (fun _ _ z => by rw [r2] at z; cases z) fun z => by rw [r2] at z; cases z; simp at r3), r1, r2, r3, r4⟩
      · obtain ⟨bm, ob, b1, b2, b3, b4, b5, b6⟩ := hbm
        refine ⟨bm, ob, b1, b2, fun q => ?_, fun q => ?_, hidT_get b3 (free b3 (fun _ _ z => by rw [b6] at z; cases z) fun z => by rw [b6] at z; cases z), b4, b5, b6⟩
        · obtain ⟨o, es, ep, e, hd, _⟩ := hns
          rw [q, e] at b3; cases b3; rw [hd] at b6; cases b6
        · rw [q, hTp] at b3; cases b3; cases b6
      · obtain ⟨o, es, ep, e, hd, _⟩ := hns
        rw [z, hTp] at e; cases e; cases hd
    obtain ⟨mc, l1, l2⟩ := hlim
    have e0 : Env0 P w K mg (hidT s.heap H) callerA [] s H := ⟨rfl, ⟨kin, ns_of hns, ⟨mb, ns_of hb, hbb⟩, ⟨mc, ns_of l1, l2⟩⟩, fun b o e => of_hidT e, Nat.le_of_eq (hidT_size _ _), trivial, fun b z => (List.not_mem_nil z).elim, ok, .of_eq hg⟩
    refine codeAny_mono ((F _ kin (ns_of hns) TB).run callerA [] s H ⟨[.ref a], []⟩ [.ref a] [.ref a] _ _ rfl hr e0 (hbind s (.ref a)) (.cons rfl .nil) (hsp H (fun p hp => hHT _ (memT p hp)) hS)) fun r s' h => ?_
    match r, h with
    | .error e, h => exact (hCX H e s' h).elim
    | .ok (.ret u), ⟨v, H', os, bare, un, ok', rr, q⟩ =>
      subst q
      cases (show u = Value.bool true from rr)
      have key : ∀ b o, b ∉ tabs → s.heap.get? b = some o → s'.heap.get? b = some o := fun b o nb e => by
        cases q : H b with
        | none => exact un.keep b o e q (fun z => (List.not_mem_nil z).elim) (fun z => (List.not_mem_nil z).elim)
        | some u =>
          rcases hH b u q with ⟨rfl, _, rfl⟩ | ⟨hb, _⟩
          · have e2 := (ok' b _ (un.frzs b _ _ q)).1
            rw [ha] at e; cases e
            exact e2
          · exact absurd hb nb
      have grown : ∀ b ∈ tabs, ∃ more : Array Value, s'.heap.get? b = some (PySem.W.tabObj more) := fun b hb => by
        obtain ⟨more, z⟩ := un.tbls b #[] (hHT b hb)
        exact ⟨_, ok' b _ z⟩
      refine ⟨rfl, ⟨fun b o e => ?_, fun b o e => ?_⟩, os, bare⟩
      · by_cases hb : b ∈ tabs
        · obtain ⟨p, hp, ep⟩ := List.mem_map.mp hb
          have ep : p.2 = b := ep
          subst ep
          obtain ⟨more, hm⟩ := grown _ hb
          rw [(hT p hp).2] at e; cases e
          exact .inr (.inl ⟨((hT p hp).1.tab (hT p hp).2).isCodeTable, rfl, #[], more, rfl, by rw [Array.empty_append]; exact hm⟩)
        · exact .inl (key b o hb e)
      · by_cases hb : b ∈ tabs
        · obtain ⟨more, hm⟩ := grown b hb
          exact ⟨_, hm⟩
        · exact ⟨o, key b o hb e⟩
  cases hk : K.lookup a with
  | some o =>
    have e := KX a o hk
    rw [ha] at e; cases e
    refine core (fun b => if b ∈ tabs then some (.tbl #[]) else none) (fun b u z => ?_) (fun b hb => if_pos hb) (.inr ⟨_, vs.toArray, _, hk, rfl, rfl, rfl, by rw [List.size_toArray, hi.length]; exact hl, by simpa using rv⟩)
    by_cases q : b ∈ tabs
    · rw [if_pos q] at z; cases z; exact .inr ⟨q, rfl⟩
    · rw [if_neg q] at z; cases z
  | none =>
    refine core (fun b => if b = a then some (.frz { cls := .type "list", data := .seq vs.toArray } (.lst (ns.map V.int))) else if b ∈ tabs then some (.tbl #[]) else none) (fun b u z => ?_) (fun b hb => (if_neg (fun (e : b = a) => aT (e ▸ hb))).trans (if_pos hb)) (.inl (.inr ⟨_, if_pos rfl⟩))
    by_cases q : b = a
    · subst q
      rw [if_pos rfl] at z; cases z
      exact .inl ⟨rfl, hk, rfl⟩
    · rw [if_neg q] at z
      by_cases q2 : b ∈ tabs
      · rw [if_pos q2] at z; cases z; exact .inr ⟨q2, rfl⟩
      · rw [if_neg q2] at z; cases z
/-- what is known of the law, its tables beside -/
def LawT (P : Program) (w : World) (K : PySem.W.Frag) (mg : Str → Option Value) (k n : Nat) (fa : Addr) (x : Str) (q : Program) : Prop :=
  ∃ (cs : List (Addr × Addr)) (fd : FuncData) (sp : Sp), (∀ p ∈ cs, ∃ (y : Str) (d : DefRec), (recsOf q).find? (fun e => e.name == y) = some d ∧ PySem.W.tabIn K y = some p) ∧ (∀ p ∈ cs, K.lookup p.2 = none) ∧ (∀ (s : Shared) (u : Value), BindsTo s fd ⟨[u], []⟩ [(x, u)]) ∧
    (∀ (H : Hp) (a : Addr) (ns : List Int), ns.length ≤ n → (∀ p ∈ cs, H p.2 = some (.tbl #[])) → SqL K H a (ns.map V.int) → sp [.ref a] H (fun v _ => v = .bl true) fun _ _ _ => False) ∧
    ∀ base : Heap, K.In base → base.Ns mainGlobals mg → (∀ p ∈ cs, LamX.TabB base mg p.1 p.2) → FnG P w K mg base CX0 k fa fd [x] sp
theorem walk_gT {l : PySem.W.OpenLaw} {n k : Nat} {q : Program} {loose : List Str} {XP : (Str → Option Value) → Heap → Prop} {YP : World → Heap → Prop} {d : DefRec} {K : Params → PySem.W.Frag} {x : Str} (hn : l.most = some n) (hn2 : n ≤ sizeLine) (hdf : d.params.defaults = []) (hr : Room k callerA)
    (hY : ∀ (w : World) (h : Heap), YP w h → (K w.params).In h)
    (F : ∀ (w : World) (mg : Str → Option Value) (fa : Addr) (h : Heap), (K w.params).In h → h.Ns mainGlobals mg → mg d.name = some (.ref fa) → LawT l.prog w (K w.params) mg k n fa x q) : PySem.W.WalkO q loose XP YP l.row.toRowW d [] (fun f vs => PySem.call f vs) := by
  refine Att.attach_call hn hdf fun w s0 s1 mg mb fa o pm cd doc a vs ns G Y _ _ _ hmg hobj hints hlen hgens => ?_
  obtain ⟨cs, fd, sp, h1, h2, hb, hsp, hF⟩ := F w mg fa _ (hY w _ Y) G.T.g hmg
  exact law_gT (hY w _ Y) G.T.g G.T.b G.T.builtins G.T.nolimit hgens (fun p hp => by
    obtain ⟨y, dd, e1, e2⟩ := h1 p hp
    exact PySem.W.tab_of G.T (hY w _ Y) e1 e2) h2 G.T.bmain hobj hints (Nat.le_trans hlen hn2) hr hF hb (fun H hH hS => hsp H a ns hlen hH hS) fun H e s' h => h
end Ev

/-! # zip, enumerate, sorted of a dict's keys -/
namespace Ev
open PySem PySem.Spec PyProof.Rows L2
variable [TabC]
variable {K : PySem.W.Frag} {S S' H H' : Hp} {B : Bs} {δ : DS} {σ : L2.St}
section
variable {X : Cx} {E : EK} {a b : Expr} {p pos tpos : Pos} {elts : List Expr} {kk : Nat} {d : dA}
def zipD (xs ys : List D) : List D := (xs.zip ys).map fun q => .tup [q.1, q.2]
theorem it_zip {a b : Addr} {us vs : List V} {ds es : List D} (h1 : S a = some (.lst us)) (h2 : S b = some (.lst vs)) (n1 : DnA K S us ds) (n2 : DnA K S vs es) : ItOk K (Itz K a b) (zipD ds es) S := by
  have l1 := n1.length
  have l2 := n2.length
  have hl : (zipD ds es).length = min us.length vs.length := by simp [zipD, l1, l2]
  have sq : ∀ {S1 H1}, Ex S S1 → Sb S1 H1 → SqL K H1 a us ∧ SqL K H1 b vs := fun e1 e2 => ⟨SqL.of (e2 _ _ (e1 _ _ h1)), SqL.of (e2 _ _ (e1 _ _ h2))⟩
  refine ⟨fun i S1 H1 e1 e2 hi => ?_, fun S1 H1 e1 e2 => ?_, fun i S1 H1 x H2 e1 e2 hi y => ?_⟩
  · exact (walk_zip (xs := us) (ys := vs) rfl).goes i H1 (by omega) (sq e1 e2)
  · rw [hl]; exact (walk_zip rfl).stops H1 (sq e1 e2)
  · obtain ⟨T, u, v, rfl, hT, rfl, hu, hv⟩ := y
    have q := sq e1 e2
    have eu := hu us q.1
    have ev := hv vs q.2
    obtain ⟨d, hd, dn⟩ := n1.getV eu
    obtain ⟨e, he, en⟩ := n2.getV ev
    have g := Grow.new (o := .tup [u, v]) e2 hT
    refine ⟨_, .tup [d, e], g, ?_, .tup upd_same (.cons (dn.mono (e1.trans g.s)) (.cons (en.mono (e1.trans g.s)) .nil))⟩
    unfold zipD
    rw [List.getElem?_map, (show (ds.zip es)[i]? = some (d, e) by rw [List.getElem?_zip_eq_some]; exact ⟨hd, he⟩)]; rfl
theorem it_zipT {a b : Addr} {us vs : List V} {ds es : List D} (h1 : S a = some (.tup us)) (h2 : S b = some (.tup vs)) (n1 : DnA K S us ds) (n2 : DnA K S vs es) : ItOk K (RZ.ItzT K a b) (zipD ds es) S := by
  have l1 := n1.length
  have l2 := n2.length
  have hl : (zipD ds es).length = min us.length vs.length := by simp [zipD, l1, l2]
  have sq : ∀ {S1 H1}, Ex S S1 → Sb S1 H1 → SqT K H1 a us ∧ SqT K H1 b vs := fun e1 e2 => ⟨SqT.of (e2 _ _ (e1 _ _ h1)), SqT.of (e2 _ _ (e1 _ _ h2))⟩
  refine ⟨fun i S1 H1 e1 e2 hi => ?_, fun S1 H1 e1 e2 => ?_, fun i S1 H1 x H2 e1 e2 hi y => ?_⟩
  · have q := sq e1 e2
    exact ⟨us, vs, us[i]'(by omega), vs[i]'(by omega), q.1, q.2, List.getElem?_eq_getElem _, List.getElem?_eq_getElem _⟩
  · have q := sq e1 e2
    exact ⟨us, vs, q.1, q.2, by omega⟩
  · obtain ⟨T, u, v, rfl, hT, rfl, hu, hv⟩ := y
    have q := sq e1 e2
    have eu := hu us q.1
    have ev := hv vs q.2
    obtain ⟨d, hd, dn⟩ := n1.getV eu
    obtain ⟨e, he, en⟩ := n2.getV ev
    have g := Grow.new (o := .tup [u, v]) e2 hT
    refine ⟨_, .tup [d, e], g, ?_, .tup upd_same (.cons (dn.mono (e1.trans g.s)) (.cons (en.mono (e1.trans g.s)) .nil))⟩
    unfold zipD
    rw [List.getElem?_map, (show (ds.zip es)[i]? = some (d, e) by rw [List.getElem?_zip_eq_some]; exact ⟨hd, he⟩)]; rfl
/-- a list's, a tuple's items -/
def seqOf : D → Option (Bool × List D)
  | .lst xs => some (false, xs)
  | .tup xs => some (true, xs)
  | _ => none
def dZip (d : dA) : dI := fun W δ Q => d W δ fun xs δ' => match xs with | [x, y] => optQ (seqOf x) fun p => optQ (seqOf y) fun q => p.1 = q.1 ∧ Q (zipD p.2 q.2) δ' | _ => False
theorem seq_at {S : Hp} {v : V} {x : D} {p : Bool × List D} (h : Dn K S v x) (e : seqOf x = some p) : ∃ a vs, v = .ref a ∧ DnA K S vs p.2 ∧ ((p.1 = false ∧ S a = some (.lst vs)) ∨ (p.1 = true ∧ S a = some (.tup vs))) := by
  cases h with
  | lst h1 a1 => cases e; exact ⟨_, _, rfl, a1, .inl ⟨rfl, h1⟩⟩
  | tup h1 a1 => cases e; exact ⟨_, _, rfl, a1, .inr ⟨rfl, h1⟩⟩
  | _ => cases e
theorem di_zip (hg : Gl X "zip") (hm : X.mg "zip" = none) (ha : DA X E [a, b] d) (hs : starEach [a, b] X.env = (false, eval a X.env) :: starEach [b] X.env := by rfl) (hpl : (backTo pos (starEach [b] X.env)).any (·.1) = false := by rfl) :
    DI X E (.Tuple elts kk tpos) (.Call (.Name "zip" p) [a, b] [] pos) (dZip d) := ⟨fun B => pi_mono (RZ.pi_zipA hg hm (ha.run B) hs hpl) fun σ H Rr q => by
  obtain ⟨δ, S, W, Q', R, q, xo, post⟩ := q
  refine ⟨δ, S, W, _, R, q, xo, fun xs δ1 vs S1 H1 q1 e1 R1 n1 => ?_⟩
  rcases xs with _ | ⟨x, _ | ⟨y, _ | ⟨z, xs⟩⟩⟩
  · exact q1.elim
  · exact q1.elim
  · obtain ⟨p, hp, q1⟩ := optQ_ex q1
    obtain ⟨r, hr, he, q1⟩ := optQ_ex q1
    obtain ⟨v, v', rfl, d1, d2⟩ := n1.two
    obtain ⟨a1, us, rfl, n3, g3⟩ := seq_at d1 hp
    obtain ⟨a2, ws, rfl, n4, g4⟩ := seq_at d2 hr
    rcases g3 with ⟨k3, g3⟩ | ⟨k3, g3⟩
    · rcases g4 with ⟨k4, g4⟩ | ⟨k4, g4⟩
      · exact ⟨_, _, _, _, rfl, .inl ⟨SqL.of (R1.ex _ _ g3), SqL.of (R1.ex _ _ g4), post _ _ _ _ _ q1 e1 R1 (it_zip g3 g4 n3 n4)⟩⟩
      · rw [k3, k4] at he; cases he
    · rcases g4 with ⟨k4, g4⟩ | ⟨k4, g4⟩
      · rw [k3, k4] at he; cases he
      · exact ⟨_, _, _, _, rfl, .inr ⟨SqT.of (R1.ex _ _ g3), SqT.of (R1.ex _ _ g4), post _ _ _ _ _ q1 e1 R1 (it_zipT g3 g4 n3 n4)⟩⟩
  · exact q1.elim⟩
def enumD (xs : List D) : List D := xs.mapIdx fun i d => .tup [.int (i : Nat), d]
theorem it_enum {a : Addr} {us : List V} {ds : List D} (h1 : S a = some (.lst us)) (n1 : DnA K S us ds) : ItOk K (Ite K a) (enumD ds) S := by
  have l1 := n1.length
  have hl : (enumD ds).length = us.length := by simp [enumD, l1]
  have sq : ∀ {S1 H1}, Ex S S1 → Sb S1 H1 → SqL K H1 a us := fun e1 e2 => SqL.of (e2 _ _ (e1 _ _ h1))
  refine ⟨fun i S1 H1 e1 e2 hi => ?_, fun S1 H1 e1 e2 => ?_, fun i S1 H1 x H2 e1 e2 hi y => ?_⟩
  · exact walk_enum.goes i H1 (by omega) (sq e1 e2)
  · rw [hl]; exact walk_enum.stops H1 (sq e1 e2)
  · obtain ⟨T, u, rfl, hT, rfl, hu⟩ := y
    have eu := hu us (sq e1 e2)
    obtain ⟨d, hd, dn⟩ := n1.getV eu
    have g := Grow.new (o := .tup [.int (i : Nat), u]) e2 hT
    refine ⟨_, .tup [.int (i : Nat), d], g, ?_, .tup upd_same (.cons (.int _) (.cons (dn.mono (e1.trans g.s)) .nil))⟩
    unfold enumD
    rw [List.getElem?_mapIdx, hd]; rfl
def dEnum (d : dA) : dI := fun W δ Q => d W δ fun xs δ' => match xs with | [x] => optQ (seqOf x) fun p => p.1 = false ∧ Q (enumD p.2) δ' | _ => False
theorem di_enum (hg : Gl X "enumerate") (hm : X.mg "enumerate" = none) (ha : DA X E [a] d) (hs : starEach [a] X.env = [(false, eval a X.env)] := by rfl) :
    DI X E (.Tuple elts kk tpos) (.Call (.Name "enumerate" p) [a] [] pos) (dEnum d) := ⟨fun B => pi_mono (pi_enum hg hm (ha.run B) hs) fun σ H Rr q => by
  obtain ⟨δ, S, W, Q', R, q, xo, post⟩ := q
  refine ⟨δ, S, W, _, R, q, xo, fun xs δ1 vs S1 H1 q1 e1 R1 n1 => ?_⟩
  rcases xs with _ | ⟨x, _ | ⟨y, xs⟩⟩
  · exact q1.elim
  · obtain ⟨p, hp, he, q1⟩ := optQ_ex q1
    obtain ⟨v, rfl, d1⟩ := n1.one
    obtain ⟨a1, us, rfl, n3, g3⟩ := seq_at d1 hp
    rcases g3 with ⟨k3, g3⟩ | ⟨k3, g3⟩
    · exact ⟨_, _, rfl, SqL.of (R1.ex _ _ g3), post _ _ _ _ _ q1 e1 R1 (it_enum g3 n3)⟩
    · rw [he] at k3; cases k3
  · exact q1.elim⟩
end
/-! ### sorted of a dict: its keys -/
section
variable {X : Cx}
theorem keyIs_rel {k : Key} {u : Value} (h : keyIs k u = true) : RelV (kV k) u := by
  rcases keyIs_shape h with ⟨i, t, rfl, rfl⟩ | ⟨x, t, rfl, rfl⟩
  · exact ⟨t, rfl⟩
  · exact ⟨t, rfl⟩
theorem pairs_keys {P : Program} {w : World} {es : List DictEntry} {ks : List (Key × Value)} (h : PySem.Pairs (mixKind P w) es ks) : ∀ {kvs : List (Key × V)}, KV kvs ks → Vals (kvs.map fun e => kV e.1) (es.map (·.key)) := by
  induction h with
  | nil => intro kvs r; cases r; exact .nil
  | cons h1 _ _ ih =>
    intro kvs r
    cases r with
    | cons r t => exact .cons (by show RelV (kV _) _; rw [r.1]; exact keyIs_rel h1) (ih t)
theorem DnA.kD1 {S : Hp} : ∀ kvs : List (Key × V), DnA K S (kvs.map fun e => kV e.1) (kvs.map fun e => kD e.1)
  | [] => .nil
  | e :: kvs => .cons (.kd e.1) (DnA.kD1 kvs)
def rSrtK (K : PySem.W.Frag) : List V → Hp → VK → Prop := fun vs H Q => ∃ S a kvs, vs = [.ref a] ∧ Sb S H ∧ H a = some (.dK kvs) ∧ srtOk (kvs.map fun e => kD e.1) ∧ ∀ ws p, H p = none → DnA K S ws (sortD (kvs.map fun e => kD e.1)) → Q (.ref p) (upd H p (.lst ws))
theorem cd_sortedK (hc : X.calm = true) (hu : X.A.units + 66 < cLine) : CallR X (.builtin "sorted") (rSrtK X.K) := fun pins s σ H vs us Q I r ⟨S, a, kvs, e, sb, ha, ok, q⟩ => by
  subst e
  obtain ⟨u, rfl, ru⟩ := vals1 r
  obtain rfl : u = Value.ref a := ru
  obtain ⟨hz, hs, ks, rel, o, es, ep, ho, hx, hdt, hk, hp, hn⟩ := I.hok _ _ ha
  have rv := pairs_keys hp rel
  have l1 : es.size = kvs.length := by have := rv.length; rw [List.length_map, List.length_map, Array.length_toList] at this; exact this.symm
  refine sorted_end I hu sb (us := es.toList.map (·.key)) (vs := kvs.map fun e => kV e.1) rv (DnA.kD1 kvs) ok (fun C E' hC => ?_) fun ws p hp aw => q ws p hp aw
  refine collect_src (kdl_raw hs hx hdt) (I.ok.hd hc) ho (by omega) fun h' tk acc kp sz it => ?_
  have ea : acc.toList = es.toList.map (·.key) := by
    apply List.ext_getElem?
    intro j
    rw [List.getElem?_map]
    have hl : acc.toList.length = es.toList.length := by rw [Array.length_toList, Array.length_toList]; exact it.1
    by_cases hj : j < es.toList.length
    · have hj2 : j < acc.size := by rw [← Array.length_toList]; omega
      obtain ⟨en, h1, h2⟩ := it.2 j acc[j] (Array.getElem?_eq_getElem hj2)
      rw [Array.getElem?_toList, Array.getElem?_eq_getElem hj2, Array.getElem?_toList, h1, h2]; rfl
    · rw [List.getElem?_eq_none (by omega), List.getElem?_eq_none (by omega)]; rfl
  rw [ea]
  exact hC h' tk kp sz
def dSortDK (d : dE) : dF := fun W δ Q => d W δ fun x δ1 => match x with | .dK es => srtOk (keyDK es) ∧ Q (sortD (keyDK es)) δ1 | _ => False
theorem keyDK_of {kvs : List (Key × V)} {es : List (Key × D)} (h : kvs.map (·.1) = es.map (·.1)) : (kvs.map fun e => kD e.1) = keyDK es := by
  have e1 : (kvs.map fun e => kD e.1) = (kvs.map (·.1)).map kD := by rw [List.map_map]; rfl
  have e2 : keyDK es = (es.map (·.1)).map kD := by unfold keyDK; rw [List.map_map]; rfl
  rw [e1, e2, h]
theorem df_sortedK {E : EK} {a : Expr} {p pos : Pos} {x : Str} {da : dE} (hc : X.calm = true) (hu : X.A.units + 66 < cLine) (ha : DE X E a da) (gl : Gl X x) (hm : X.mg x = none) (hb : bootBuiltins x = some (.builtin "sorted")) (hn : x ≠ "__name__" := by decide) (hdb : (x == ("__debug__" : Str)) = false := by decide)
    (he : starEach [a] X.env = (false, eval a X.env) :: starEach [] X.env := by rfl) (hpl : (backTo pos (starEach [] X.env)).any (·.1) = false := by rfl) : DF X E (.Call (.Name x p) [a] [] pos) (dSortDK da) :=
  ⟨fun B => pe_mono (pe_callB (cd_sortedK hc hu) gl hm hb (pa_cons (ha.run B) pa_nil he) hn hdb he hpl) fun σ H Q q => by
    obtain ⟨δ, S, W, Q', R, q, xo, post⟩ := q
    refine ⟨δ, S, W, _, R, q, xo, fun x δ1 v S1 H1 q1 e1 R1 n1 => ?_⟩
    cases x with
    | dK es =>
      cases n1 with
      | dK h1 h2 h3 =>
        refine (⟨S1, _, _, rfl, R1.ex, R1.ex _ _ h1, by rw [keyDK_of h2]; exact q1.1, fun ws p hp aw => ?_⟩ : rSrtK X.K _ H1 Q)
        rw [keyDK_of h2] at aw
        exact post _ _ _ _ _ _ q1.2 e1 R1 hp aw
    | _ => exact q1.elim⟩
end
theorem LamD.mono {P : Program} {w : World} {K : PySem.W.Frag} {mg : Str → Option Value} {base : Heap} {j j2 k n : Nat} {sp : List D → dSp} (h : LamD P w K mg base j k n sp) (hj : j ≤ j2) : LamD P w K mg base j2 k n sp :=
  ⟨fun A out s S H a ds xs vs us p Q Q' g r => h.run A out s S H a ds xs vs us p Q Q' g (r.mono hj)⟩
end Ev

/-! # A list taken apart -/
namespace Ev
open PySem PySem.Spec PyProof.Rows L2
variable [TabC]
section
variable {X : Cx} {es : List Expr} {pos : Pos}
def gL (n : Nat) (r : dGs) : dG := fun d δ Q => match d with | .lst ds => ds.length = n ∧ r ds δ Q | _ => False
theorem dg_lst {k : Nat} {r : dGs} {n : Nat} {vs : List Nat} (hc : X.calm = true) (h : DGs X es r vs) (hn : (assignEach es X.env).length = n := by rfl) (hst : (assignEach es X.env).findIdx? (·.1) = none := by rfl) :
    DG X (.Tuple es k pos) (gL n r) vs := ⟨fun B => ⟨fun pins s σ H v u Q I rv q => (pg_lst hc (h.run B) hn hst).run pins s σ H v u Q I rv (by
    obtain ⟨δ, S, d, Q', R, dn, q, post⟩ := q
    cases d with
    | lst ds =>
      cases dn with
      | lst hq ha => exact ⟨_, _, rfl, SqL.of (R.ex _ _ hq), ha.length.trans q.1, δ, S, ds, Q', R, ha, q.2, post⟩
    | _ => exact q.elim)⟩⟩
end
end Ev
namespace Ev
open PySem PySem.Spec PyProof.Rows L2
/-- what is known of the law, its tables (of those in ts) beside -/
def LawM (P : Program) (w : World) (K : PySem.W.Frag) (mg : Str → Option Value) (k n : Nat) (fa : Addr) (x : Str) (ts : List Addr) : Prop :=
  ∃ (cs : List (Addr × Addr)) (fd : FuncData) (sp : Sp), (∀ p ∈ cs, PySem.W.codeHdIn K p.1 p.2 = true ∧ p.2 ∈ ts) ∧ (∀ p ∈ cs, K.lookup p.2 = none) ∧ (∀ (s : Shared) (u : Value), BindsTo s fd ⟨[u], []⟩ [(x, u)]) ∧
    (∀ (H : Hp) (a : Addr) (ns : List Int), ns.length ≤ n → (∀ p ∈ cs, H p.2 = some (.tbl #[])) → SqL K H a (ns.map V.int) → sp [.ref a] H (fun v _ => v = .bl true) fun _ _ _ => False) ∧
    ∀ base : Heap, K.In base → base.Ns mainGlobals mg → (∀ p ∈ cs, LamX.TabB base mg p.1 p.2) → FnG P w K mg base CX0 k fa fd [x] sp
theorem walk_gM {l : PySem.W.OpenLaw} {n k : Nat} {q : Program} {loose : List Str} {XP : (Str → Option Value) → Heap → Prop} {YP : World → Heap → Prop} {d : DefRec} {K : Params → PySem.W.Frag} {x : Str} {ts : List Addr} (hn : l.most = some n) (hn2 : n ≤ sizeLine) (hdf : d.params.defaults = []) (hr : Room k callerA)
    (hY : ∀ (w : World) (h : Heap), YP w h → (K w.params).In h) (hYT : ∀ (w : World) (h : Heap), YP w h → ∀ P ∈ ts, h.get? P = some (PySem.W.tabObj #[]))
    (F : ∀ (w : World) (mg : Str → Option Value) (fa : Addr) (h : Heap), (K w.params).In h → h.Ns mainGlobals mg → mg d.name = some (.ref fa) → LawM l.prog w (K w.params) mg k n fa x ts) : PySem.W.WalkO q loose XP YP l.row.toRowW d [] (fun f vs => PySem.call f vs) := by
  refine Att.attach_call hn hdf fun w s0 s1 mg mb fa o pm cd doc a vs ns G Y _ _ _ hmg hobj hints hlen hgens => ?_
  obtain ⟨cs, fd, sp, h1, h2, hb, hsp, hF⟩ := F w mg fa _ (hY w _ Y) G.T.g hmg
  exact law_gT (hY w _ Y) G.T.g G.T.b G.T.builtins G.T.nolimit hgens (fun p hp => ⟨PySem.W.codeHd_of_K (hY w _ Y) (h1 p hp).1, hYT w _ Y _ (h1 p hp).2⟩) h2 G.T.bmain hobj hints (Nat.le_trans hlen hn2) hr hF hb (fun H hH hS => hsp H a ns hlen hH hS) fun H e s' h => h
end Ev

/-! # Defs as values -/
namespace Ev
open PySem PySem.Spec PyProof.Rows L2
variable [TabC]
section
variable {X : Cx} {E : EK} {x : Str} {p pos : Pos} {e : Expr} {es : List Expr} {j m n i : Nat} {ta : dA}
/-- a def that lies at f -/
structure DefA (P : Program) (w : World) (K : PySem.W.Frag) (mg : Str → Option Value) (base : Heap) (k : Nat) (f : Addr) (n : Nat) (sp : dSp) : Prop where
  ok : ∃ (ps : List Str) (fd : FuncData), FnG P w K mg base CX0 k f fd ps (spD K n sp) ∧ PySem.W.keepIn K (.ref f) = true ∧ Binds K fd ps []
theorem DefA.mono {P : Program} {w : World} {K : PySem.W.Frag} {mg : Str → Option Value} {base : Heap} {k k2 : Nat} {f : Addr} {sp : dSp} (h : DefA P w K mg base k f n sp) (hk : k ≤ k2) : DefA P w K mg base k2 f n sp := by
  obtain ⟨ps, fd, F, a, b⟩ := h.ok
  exact ⟨ps, fd, ⟨F.len, fun A out s H ar us vs Q E g r => F.run A out s H ar us vs Q E g (r.mono hk)⟩, a, b⟩
theorem de_def {f : Addr} (gl : Gl X x) (h : X.mg x = some (.ref f)) (hd : (x == ("__debug__" : Str)) = false := by decide) : DE X E (.Name x pos) (dC (.raw (.ref f))) :=
  de_c (pe_glob gl h (show RelV (.ref f) (.ref f) from rfl) hd) fun _ => .raw _
/-- the defs that are handed about, by number -/
abbrev adD (k : Nat) : D := .raw (.ref (TabC.ad k))
/-- name(..), name one of the defs of T -/
def dCallR (i n : Nat) (T : List (Addr × dSp)) (a : dA) : dE := fun W δ Q => match δ.sl[i]? with
  | some (.dat (.raw (.ref f))) => ∃ sp, (f, sp) ∈ T ∧ a W δ fun xs δ1 => xs.length = n ∧ sp xs δ1.pen (fun x p' => Q x { δ1 with pen := p' }) fun c p' => W c { δ1 with pen := p' }
  | _ => False
theorem de_callR {T : List (Addr × dSp)} (hT : ∀ f sp, (f, sp) ∈ T → DefA X.prog X.w X.K X.mg X.base j f n sp) (hg : X.A.guards = some []) (hr : Room m X.A) (hv : PE X (.Name x p) (tVar i)) (ha : DA X E (e :: es) ta) (hj : j ≤ m := by decide)
    (he : starEach (e :: es) X.env = (false, eval e X.env) :: starEach es X.env := by rfl) (hpl : (backTo pos (starEach es X.env)).any (·.1) = false := by rfl) : DE X E (.Call (.Name x p) (e :: es) [] pos) (dCallR i n T ta) := ⟨fun B => ⟨fun pins s σ H Q I q => by
  obtain ⟨δ, S, W, Q', R, q, xo, post⟩ := q
  unfold dCallR at q
  split at q
  · rename_i f hs
    obtain ⟨sp, hm, q⟩ := q
    obtain ⟨ps, fd, F, hk, hb⟩ := (hT f sp hm).ok
    obtain ⟨v, hv1, dn⟩ := R.dat hs
    have e0 : v = .ref f := by cases dn; rfl
    subst e0
    refine wpAny_Call_Name_kw (thn (hv.run pins s σ H (fun v H1 => v = .ref f ∧ H1 = H) I ⟨_, hv1, rfl, rfl⟩) fun u s1 ⟨v, H1, I1, r1, e1, e2⟩ => ?_)
    subst e1 e2
    cases r1
    refine PySem.W.callWith_K (h₀ := X.base) I1.ok.mod.kin hk (thn ((ha.run B).run pos pins s1 σ H1 (fun vs H2 => spD X.K n sp vs H2 Q (E σ)) I1 ⟨δ, S, W, _, R, q, xo, fun xs δ1 vs S1 H2 q1 e1 R1 n1 => call_read xo e1 R1 n1 q1.1 q1.2 post⟩) fun us s2 ⟨vs, H2, I2, r, q⟩ => ⟨I2.kIn, ?_⟩) he hpl
    have rr : Vals (vs ++ []) (us ++ []) := r.append .nil
    have ln : (us ++ []).length = ps.length := by rw [← rr.length, List.append_nil]; exact F.len _ _ _ _ q
    have bb := hb s2 us I2.kIn ln
    rw [List.append_nil] at bb
    exact wpAny_call (run_g F hg (hr.mono hj) (pass_at (E := E) σ) I2 bb r q)
  · exact q.elim⟩⟩
/-- sorted(d), d a dict of one's own: its keys -/
def dSortKo (i : Nat) : dF := fun _ δ Q => match δ.sl[i]? with
  | some (.ownK es) => srtOk (keyDK es) ∧ Q (sortD (keyDK es)) δ
  | some (.dat (.dK es)) => srtOk (keyDK es) ∧ Q (sortD (keyDK es)) δ
  | _ => False
theorem df_sortedKo {i : Nat} {y : Str} {py : Pos} (hc : X.calm = true) (hu : X.A.units + 66 < cLine) (hv : PE X (.Name y py) (tVar i)) (gl : Gl X x) (hm : X.mg x = none) (hb : bootBuiltins x = some (.builtin "sorted")) (hn : x ≠ "__name__" := by decide) (hdb : (x == ("__debug__" : Str)) = false := by decide)
    (he : starEach [.Name y py] X.env = (false, eval (.Name y py) X.env) :: starEach [] X.env := by rfl) (hpl : (backTo pos (starEach [] X.env)).any (·.1) = false := by rfl) : DF X E (.Call (.Name x p) [.Name y py] [] pos) (dSortKo i) :=
  ⟨fun B => pe_mono (pe_callB (cd_sortedK hc hu) gl hm hb (pa_cons hv pa_nil he) hn hdb he hpl) fun σ H Q q => by
    obtain ⟨δ, S, W, Q', R, q, xo, post⟩ := q
    unfold dSortKo at q
    split at q
    · rename_i es hs
      obtain ⟨ow, h1, _⟩ := id R.sl
      obtain ⟨a, kvs, r1, r2, r3, r4, r5, r6, r7⟩ := h1 i _ hs
      refine ⟨.ref a, r4, (⟨S, a, kvs, rfl, R.ex, r5, by rw [keyDK_of r6]; exact q.1, fun ws p hp aw => ?_⟩ : rSrtK X.K _ H Q)⟩
      rw [keyDK_of r6] at aw
      exact post _ _ _ _ _ _ q.2 (Ex.refl _) R hp aw
    · rename_i es hs
      obtain ⟨v, e1, e2⟩ := R.dat hs
      cases e2 with
      | dK h1 h2 h3 =>
        refine ⟨_, e1, (⟨S, _, _, rfl, R.ex, R.ex _ _ h1, by rw [keyDK_of h2]; exact q.1, fun ws p hp aw => ?_⟩ : rSrtK X.K _ H Q)⟩
        rw [keyDK_of h2] at aw
        exact post _ _ _ _ _ _ q.2 (Ex.refl _) R hp aw
    · exact q.elim⟩
end
end Ev

/-! # How often a thing stands in a list -/
namespace Ev
open PySem PySem.Spec PyProof.Rows L2
variable [TabC]
section
variable {X : Cx} {E : EK} {o x : Expr} {cp ap : Pos} {da dx : dE}
def rCountV (K : PySem.W.Frag) : V → List V → Hp → VK → Prop := fun v xs H Q => ∃ (a : Addr) (y : V) (d : PyData) (ds : List PyData), v = V.ref a ∧ xs = [y] ∧ Dp K H (V.ref a) (.list ds) ∧ Dp K H y d ∧
  SeqAt.shaped (.list ds) = true ∧ SeqAt.shaped d = true ∧ Q (.int ((ds.countP fun z => PyData.eqv z d : Nat) : Int)) H
theorem mt_countD (hu : X.A.units + 65 < cLine) : MtR X "list.count" (rCountV X.K) := by
  intro pins s σ H x xs v us Q I rx rxs h
  obtain ⟨a, y, d, ds, rfl, rfl, hl, hy, sl, sd, q⟩ := h
  cases rx
  cases rxs with
  | cons ry rt =>
    rename_i uy ut
    cases rt
    obtain ⟨bs, r1⟩ := Dp.reads I d y uy hy ry
    have hxs : PyData.canLayAll0 ds = true := SeqAt.canLay_of_shaped sl
    have hroom : X.A.units + 1 + min (PyData.depthAll ds) d.depth < cLine := room_in_shaped sd hu
    cases hl with
    | lst hs ha =>
      obtain ⟨its, rv, ⟨⟨cls, dd, data, sls⟩, n, ho, hc, hdn, hdt⟩, hlen⟩ := I.list hs
      simp only at hc hdt
      subst hc hdt
      obtain ⟨as, h4⟩ := Dp.readsAll I ds _ its ha rv
      have hmap : its.map (SeqAt.readOf s.heap) = ds := SeqAt.readsAll_map ds its as hxs h4
      refine call_meets PySem.F.slot_list_count ⟨_, ho, rfl⟩ PySem.F.entry_list_count (PySem.F.args_list_count_2 _ _)
        (SeqAt.list_countAt a its.toArray n dd sls uy (fun u => PyData.eqv (SeqAt.readOf s.heap u) d)) ⟨ho, SeqAt.items_eqAt (vs := its.toArray) (show ReadsAll s.heap its.toArray.toList ds as from h4) r1 hxs (SeqAt.canLay_of_shaped sd) hroom, ?_⟩
      have e : its.toArray.toList.countP (fun u => PyData.eqv (SeqAt.readOf s.heap u) d) = ds.countP fun z => PyData.eqv z d := by
        rw [← hmap, List.countP_map]; rfl
      rw [e]
      exact ⟨.int _, H, I.tok _, ⟨_, rfl⟩, q⟩
/-- o.count(x), o a list -/
def dCount (d e : dE) : dE := fun W δ Q => d W δ fun z δ1 => match z with
  | .lst ds => e W δ1 fun y δ2 => (D.lst ds).cm ∧ y.cm ∧ Q (.int ((ds.countP fun z => z.eq y : Nat) : Int)) δ2
  | _ => False
theorem de_count (hu : X.A.units + 65 < cLine) (ho : DE X E o da) (he : DE X E x dx) (hbase : attributeBase o "count" X.env (eval o X.env) = eval o X.env := by rfl)
    (hfew : ((backTo cp (starEach [x] X.env)).all (fun x => !x.1) && (backToKw cp (keywordEach [] X.env)).all (fun x => x.1.isSome) && decide (([x] : List Expr).length + ([] : List Keyword).length + (if ([] : List Keyword).isEmpty then 0 else 1) < 30)) = true := by rfl)
    (hline : (ap.endLine == cp.line) = true := by rfl) (hs : starEach [x] X.env = (false, eval x X.env) :: starEach [] X.env := by rfl) (hpl : (backTo cp (starEach [] X.env)).any (·.1) = false := by rfl) : DE X E (.Call (.Attribute o "count" ap) [x] [] cp) (dCount da dx) :=
  ⟨fun B => pe_mono (pe_bm PySem.F.plainAttrs_list PySem.F.slot_list_count PySem.F.type_list_count (mt_countD hu) (ho.run B) (pa_cons (he.run B) pa_nil hs) hbase hfew hline hs hpl) fun σ H Q q => by
    obtain ⟨δ, S, W, Q', R, q, xo, post⟩ := q
    refine ⟨δ, S, W, _, R, q, xo, fun z δ1 v S1 H1 q1 e1 R1 n1 => ?_⟩
    cases z with
    | lst ds =>
      cases n1 with
      | @lst a vs _ h1 h2 =>
        have g0 : H1 a = some (.lst vs) := R1.ex _ _ h1
        refine ⟨tyL g0, δ1, S1, W, _, R1, q1, xo.mono e1, fun y δ2 w S2 H2 q2 e2 R2 n2 => ?_⟩
        obtain ⟨c1, c2, q2⟩ := q2
        have n3 : Dn X.K S2 (.ref a) (.lst ds) := (Dn.lst h1 h2).mono e2
        exact ⟨a, w, y.py, D.pys ds, rfl, rfl, (n3.mono R2.ex).dp c1.1, (n2.mono R2.ex).dp c2.1, c1.sh, c2.sh, by
          have e : ((D.pys ds).countP fun z => PyData.eqv z y.py) = ds.countP fun z => z.eq y := by rw [pys_map, List.countP_map]; rfl
          rw [e]
          exact post _ _ _ _ _ q2 (e1.trans e2) R2 (.int _)⟩
    | _ => exact q1.elim⟩
end
end Ev

/-! # for .. in ..: d.setdefault(k, []).append(x): a dict whose lists grow -/
namespace Ev
open PySem PySem.Spec PyProof.Rows L2
variable [TabC]
variable {K : PySem.W.Frag} {S S' H H' : Hp} {B : Bs} {δ : DS} {σ : L2.St}
/-- the object of slot i, of one's own, taken out of it -/
theorem Rel.unslot (R : Rel K B δ S σ H) {i : Nat} {x : Sl} {p : Addr} {o : HO} (hi : δ.sl[i]? = some x) (hx : ∀ oa, SlOk K B S H oa σ[i]? x → oa = some p) (r2 : B.H0 p = none) (r3 : B.pa ≠ some p) (r5 : H p = some o) (pl : HO.plain o = true) :
    Rel K B (setSl δ i .un) S σ (hide H p) ∧ S p = none ∧ hide H p p = none ∧ H = upd (hide H p) p o := by
  obtain ⟨ow, h1, h2, h3, h4⟩ := id R.sl
  have r1 : ow i = some p := hx _ (h1 i x hi)
  obtain ⟨sp, q2, q3, _⟩ := h4 i p r1
  have er : ∀ a, a ≠ p → hide H p a = H a := fun a ne => if_neg ne
  have oj : ∀ j a, j ≠ i → ow j = some a → a ≠ p := fun j a nj e z => nj (h3 j i a e (by rw [z]; exact r1))
  refine ⟨⟨⟨fun a u h => ?_, fun b us h => ?_, R.ex.tb.at_ p (fun b u n h => by rw [er b n]; exact h) (fun u z => by rw [r5] at z; cases z; exact pl) fun _ _ z => z⟩, ⟨R.fr.s, fun b u h hb nb => ?_, fun b ps h => by
    obtain ⟨qs, z⟩ := R.fr.t b ps h
    exact ⟨qs, by rw [er b (fun e => by subst e; rw [r5] at z; cases z; cases pl)]; exact z⟩, R.fr.no, fun a e => ?_⟩, ?_, R.pa, by simpa [setSl] using R.len, fun j => if j = i then none else ow j, fun j x e => ?_, fun j hj => ?_, fun j k a e1 e2 => ?_, fun j a e => ?_⟩, sp, hide_same, ?_⟩
  · rw [er a (fun z => by rw [z, sp] at h; cases h)]; exact R.ex a u h
  · have ne : b ≠ p := fun z => by rw [z, hide_same] at h; cases h
    rw [er b ne] at h; exact R.ex.tp b us h
  · rw [er b (fun z => by rw [z, r2] at h; cases h)]; exact R.fr.h b u h hb nb
  · obtain ⟨u, q⟩ := R.fr.pa a e
    have ne : a ≠ p := fun z => r3 (by rw [← z]; exact e)
    exact ⟨u, by rw [er a ne]; exact q⟩
  · have hp := R.pen
    show PenOk S (hide H p) δ.pen
    cases hpe : δ.pen with
    | none => trivial
    | some ac =>
      obtain ⟨a, c⟩ := ac
      rw [hpe] at hp
      have ne : a ≠ p := fun z => q3 c (by rw [hpe, z])
      obtain ⟨n, ca, ns, k, m, t1, t2, t3⟩ := hp
      exact ⟨n, ca, ns, k, m, by rw [er a ne]; exact t1, t2, t3⟩
  · rcases get_set (show (δ.sl.set i .un)[j]? = some x from e) with ⟨rfl, rfl⟩ | ⟨nj, e⟩
    · show (if j = j then none else ow j) = none
      simp
    · have q := h1 j x e
      have ej : (if j = i then none else ow j) = ow j := if_neg nj
      show SlOk K B S (hide H p) (if j = i then none else ow j) σ[j]? x
      rw [ej]
      exact q.grow (Ex.refl _) fun a o ea ha _ => by rw [er a (oj j a nj ea)]; exact ha
  · show (if j = i then none else ow j) = none
    split
    · rfl
    · exact h2 j (by simpa [setSl] using hj)
  · have e1 : (if j = i then none else ow j) = some a := e1
    have e2 : (if k = i then none else ow k) = some a := e2
    split at e1
    · cases e1
    · split at e2
      · cases e2
      · exact h3 j k a e1 e2
  · have e : (if j = i then none else ow j) = some a := e
    split at e
    · cases e
    · rename_i nj
      obtain ⟨t1, t2, t3, u, t4⟩ := h4 j a e
      exact ⟨t1, t2, t3, u, by rw [er a (oj j a nj e)]; exact t4⟩
  · funext b
    by_cases z : b = p
    · subst z; rw [upd_same]; exact r5
    · rw [upd_ne z]; exact (er b z).symm

/-! ### many objects beside -/
def Bs.over (B : Bs) (M : Hp) : Bs := { B with H0 := fun b => match M b with | some o => some o | none => B.H0 b }
theorem over_none : B.over (fun _ => none) = B := rfl
theorem over_with {M : Hp} {p : Addr} {o : HO} : (B.over M).with p o = B.over (upd M p o) := by
  have e : upd (B.over M).H0 p o = (B.over (upd M p o)).H0 := by
    funext b
    by_cases z : b = p
    · subst z
      show upd _ b o b = match upd M b o b with | some o => some o | none => B.H0 b
      rw [upd_same, upd_same]
    · rw [upd_ne z]
      show (match M b with | some o => some o | none => B.H0 b) = match upd M p o b with | some o => some o | none => B.H0 b
      rw [upd_ne z]
  show ({ B with H0 := upd (B.over M).H0 p o } : Bs) = { B with H0 := (B.over (upd M p o)).H0 }
  rw [e]
theorem upd_hide {M : Hp} {p : Addr} {o : HO} (h : M p = some o) : upd (hide M p) p o = M := by
  funext b
  by_cases z : b = p
  · subst z; rw [upd_same, h]
  · rw [upd_ne z]; exact if_neg z
theorem upd_hide2 {M : Hp} {p : Addr} {o : HO} : upd (hide M p) p o = upd M p o := by
  funext b
  by_cases z : b = p
  · subst z; rw [upd_same, upd_same]
  · rw [upd_ne z, upd_ne z]; exact if_neg z
theorem over_hide {M : Hp} {p : Addr} {o : HO} (h : M p = some o) : B.over M = (B.over (hide M p)).with p o := by
  rw [over_with, upd_hide h]
theorem over_at {M : Hp} {p : Addr} (h : M p = none) (hB : B.H0 p = none) : (B.over M).H0 p = none := by
  show (match M p with | some o => some o | none => B.H0 p) = none
  rw [h]; exact hB
theorem over_in {M : Hp} {p : Addr} {o : HO} (h : M p = some o) : (B.over M).H0 p = some o := by
  show (match M p with | some o => some o | none => B.H0 p) = some o
  rw [h]
/-- an object beside is there, not frozen -/
theorem Rel.beside {M : Hp} {p : Addr} {o : HO} (R : Rel K (B.over M) δ S σ H) (h : M p = some o) (hp : B.pa ≠ some p) (h0 : B.S0 p = none) (pl : HO.plain o = true := by rfl) : H p = some o ∧ S p = none :=
  ⟨R.fr.pl (over_in h) hp pl, R.fr.no p o (over_in h) h0⟩
/-- .. it is changed -/
theorem Rel.over_upd {M : Hp} {p : Addr} {o o' : HO} (R : Rel K (B.over M) δ S σ H) (h : M p = some o) (hp : B.pa ≠ some p) (h0 : B.S0 p = none) (hB : B.H0 p = none) (ho : ∀ vs, o' ≠ .tup vs) (pl : HO.plain o = true := by rfl) (pl2 : HO.plain o' = true := by rfl) :
    Rel K (B.over (upd M p o')) δ S σ (upd H p o') := by
  have sp := (R.beside h hp h0 pl).2
  rw [over_hide h] at R
  have := R.with_upd (o' := o') (over_at hide_same hB) hp sp ho pl pl2
  rw [over_with, upd_hide2] at this
  exact this
/-- .. it is frozen -/
theorem Rel.over_freeze {M : Hp} {p : Addr} {o : HO} (R : Rel K (B.over M) δ S σ H) (h : M p = some o) (hp : B.pa ≠ some p) (h0 : B.S0 p = none) (hB : B.H0 p = none) (pl : HO.plain o = true := by rfl) :
    Rel K (B.over (hide M p)) δ (upd S p o) σ H ∧ Ex S (upd S p o) := by
  have sp := (R.beside h hp h0 pl).2
  rw [over_hide h] at R
  obtain ⟨R1, e1, e2⟩ := R.unwith (over_at hide_same hB) hp sp pl
  have R2 := R1.new (o := o) (show hide H p p = none from hide_same)
  rw [← e2] at R2
  exact ⟨R2, Ex.new sp⟩

/-- a list of the growing dict: its key, where it stands, what it holds -/
structure GL where
  k : Key
  p : Addr
  vs : List V
  ds : List D
structure GrpOk (K : PySem.W.Frag) (B : Bs) (S M : Hp) (a : Addr) (ls : List GL) : Prop where
  dict : M a = some (.dK (ls.map fun l => (l.k, V.ref l.p)))
  a0 : B.H0 a = none ∧ B.pa ≠ some a ∧ B.S0 a = none
  at_ : ∀ l ∈ ls, M l.p = some (.lst l.vs) ∧ l.p ≠ a ∧ B.H0 l.p = none ∧ B.pa ≠ some l.p ∧ B.S0 l.p = none ∧ DnA K S l.vs l.ds
  nd : (ls.map (·.k)).Nodup
  ndp : (ls.map (·.p)).Nodup
  all : ∀ b o, M b = some o → b = a ∨ ∃ l ∈ ls, b = l.p
theorem GrpOk.mono {M : Hp} {a : Addr} {ls : List GL} (g : GrpOk K B S M a ls) (e : Ex S S') : GrpOk K B S' M a ls :=
  ⟨g.dict, g.a0, fun l h => let ⟨h1, h2, h3, h4, h5, h6⟩ := g.at_ l h; ⟨h1, h2, h3, h4, h5, h6.mono e⟩, g.nd, g.ndp, g.all⟩
/-- what is gathered: a thing more at k -/
def grpD (gs : List (Key × List D)) (k : Key) (x : D) : List (Key × List D) :=
  if (gs.any fun e => decide (e.1 = k)) = true then gs.map (fun e => if e.1 = k then (e.1, e.2 ++ [x]) else e) else gs ++ [(k, [x])]
def grpV (ls : List GL) (k : Key) (v : V) (x : D) : List GL := ls.map fun l => if l.k = k then ⟨l.k, l.p, l.vs ++ [v], l.ds ++ [x]⟩ else l
theorem grp_there {ls : List GL} {l : GL} (h : l ∈ ls) : valV (ls.map fun l => (l.k, V.ref l.p)) l.k ≠ none := by
  intro e
  induction ls with
  | nil => cases h
  | cons m ls ih =>
    by_cases z : m.k = l.k
    · rw [List.map_cons, valV_pos (p := (m.k, V.ref m.p)) z] at e; cases e
    · rw [List.map_cons, valV_neg (p := (m.k, V.ref m.p)) z] at e
      rcases List.mem_cons.mp h with rfl | h
      · exact z rfl
      · exact ih h e
theorem grp_find {ls : List GL} {k : Key} {v : V} (e : valV (ls.map fun l => (l.k, V.ref l.p)) k = some v) : ∃ l ∈ ls, l.k = k ∧ v = .ref l.p := by
  induction ls with
  | nil => cases e
  | cons m ls ih =>
    by_cases z : m.k = k
    · rw [List.map_cons, valV_pos (p := (m.k, V.ref m.p)) z] at e; cases e
      exact ⟨m, List.mem_cons_self .., z, rfl⟩
    · rw [List.map_cons, valV_neg (p := (m.k, V.ref m.p)) z] at e
      obtain ⟨l, h1, h2⟩ := ih e
      exact ⟨l, List.mem_cons_of_mem _ h1, h2⟩
theorem grp_any {ls : List GL} {k : Key} : ((ls.map fun l => (l.k, l.ds)).any fun e => decide (e.1 = k)) = ls.any fun l => decide (l.k = k) := by
  rw [List.any_map]; rfl
theorem nodup_inj {α β : Type} {f : α → β} : ∀ {l : List α}, (l.map f).Nodup → ∀ {a b : α}, a ∈ l → b ∈ l → f a = f b → a = b
  | [], _, _, _, h, _, _ => nomatch h
  | c :: l, nd, a, b, ha, hb, e => by
    rw [List.map_cons, List.nodup_cons] at nd
    rcases List.mem_cons.mp ha with h1 | h1
    · rcases List.mem_cons.mp hb with h2 | h2
      · rw [h1, h2]
      · exact absurd (List.mem_map.mpr ⟨b, h2, by rw [← e, h1]⟩) nd.1
    · rcases List.mem_cons.mp hb with h2 | h2
      · exact absurd (List.mem_map.mpr ⟨a, h1, by rw [e, h2]⟩) nd.1
      · exact nodup_inj nd.2 h1 h2 e
theorem grpV_map {β : Type} {ls : List GL} {k : Key} {v : V} {x : D} (f : Key → Addr → β) : (grpV ls k v x).map (fun l => f l.k l.p) = ls.map fun l => f l.k l.p := by
  unfold grpV
  rw [List.map_map]
  refine List.map_congr_left fun l _ => ?_
  show f (if l.k = k then _ else l).k (if l.k = k then _ else l).p = _
  split <;> rfl
theorem grpV_ds {ls : List GL} {l : GL} {v : V} {x : D} (hl : l ∈ ls) : ((grpV ls l.k v x).map fun l => (l.k, l.ds)) = grpD (ls.map fun l => (l.k, l.ds)) l.k x := by
  unfold grpD grpV
  rw [grp_any, if_pos (List.any_eq_true.mpr ⟨l, hl, decide_eq_true rfl⟩), List.map_map, List.map_map]
  refine List.map_congr_left fun m _ => ?_
  show ((if m.k = l.k then _ else m).k, (if m.k = l.k then _ else m).ds) = if m.k = l.k then _ else _
  split <;> rfl
theorem GrpOk.there {M : Hp} {a : Addr} {ls : List GL} {l : GL} {v : V} {x : D} (G : GrpOk K B S M a ls) (hl : l ∈ ls) (n : Dn K S v x) : GrpOk K B S (upd M l.p (.lst (l.vs ++ [v]))) a (grpV ls l.k v x) := by
  obtain ⟨l1, l2, l3, l4, l5, l6⟩ := G.at_ l hl
  refine ⟨?_, G.a0, fun m hm => ?_, ?_, ?_, fun b o h => ?_⟩
  · rw [upd_ne (Ne.symm l2), grpV_map (fun k p => (k, V.ref p))]; exact G.dict
  · obtain ⟨m0, h0, rfl⟩ := List.mem_map.mp hm
    by_cases z : m0.k = l.k
    · obtain rfl := nodup_inj G.nd h0 hl z
      rw [if_pos rfl]
      exact ⟨upd_same, l2, l3, l4, l5, l6.append (.cons n .nil)⟩
    · rw [if_neg z]
      obtain ⟨t1, t2⟩ := G.at_ m0 h0
      have ne : m0.p ≠ l.p := fun e => z (by rw [nodup_inj G.ndp h0 hl e])
      exact ⟨by rw [upd_ne ne]; exact t1, t2⟩
  · rw [grpV_map (fun k _ => k)]; exact G.nd
  · rw [grpV_map (fun _ p => p)]; exact G.ndp
  · by_cases z : b = l.p
    · refine .inr ?_
      have : b ∈ (grpV ls l.k v x).map (·.p) := by rw [grpV_map (fun _ p => p), z]; exact List.mem_map.mpr ⟨l, hl, rfl⟩
      obtain ⟨m, h1, h2⟩ := List.mem_map.mp this
      exact ⟨m, h1, h2.symm⟩
    · rw [upd_ne z] at h
      rcases G.all b o h with h | ⟨m, h1, h2⟩
      · exact .inl h
      · refine .inr ?_
        have : b ∈ (grpV ls l.k v x).map (·.p) := by rw [grpV_map (fun _ p => p), h2]; exact List.mem_map.mpr ⟨m, h1, rfl⟩
        obtain ⟨m, h1, h2⟩ := List.mem_map.mp this
        exact ⟨m, h1, h2.symm⟩
theorem GrpOk.more {M : Hp} {a p : Addr} {ls : List GL} {k : Key} {v : V} {x : D} (G : GrpOk K B S M a ls) (hn : valV (ls.map fun l => (l.k, V.ref l.p)) k = none) (mp : M p = none) (bp : B.H0 p = none) (f2 : B.pa ≠ some p) (s0 : B.S0 p = none) (pa : p ≠ a) (n : Dn K S v x) :
    GrpOk K B S (upd (upd (upd M p (.lst [])) a (.dK (putK (ls.map fun l => (l.k, V.ref l.p)) k (.ref p)))) p (.lst ([] ++ [v]))) a (ls ++ [⟨k, p, [v], [x]⟩]) := by
  have np : ∀ l ∈ ls, l.p ≠ p := fun l hl z => by have := (G.at_ l hl).1; rw [z, mp] at this; cases this
  refine ⟨?_, G.a0, fun m hm => ?_, ?_, ?_, fun b o h => ?_⟩
  · rw [upd_ne (Ne.symm pa), upd_same, putK_new _ hn, List.map_append]; rfl
  · rcases List.mem_append.mp hm with hm | hm
    · obtain ⟨t1, t2, t3⟩ := G.at_ m hm
      exact ⟨by rw [upd_ne (np m hm), upd_ne t2, upd_ne (np m hm)]; exact t1, t2, t3⟩
    · obtain rfl := List.mem_singleton.mp hm
      exact ⟨upd_same, pa, bp, f2, s0, .cons n .nil⟩
  · rw [List.map_append]
    refine List.nodup_append.mpr ⟨G.nd, by simp, fun a ha b hb => ?_⟩
    obtain ⟨l, h1, rfl⟩ := List.mem_map.mp ha
    obtain rfl : b = k := by simpa using hb
    exact fun z => by subst z; exact grp_there h1 hn
  · rw [List.map_append]
    refine List.nodup_append.mpr ⟨G.ndp, by simp, fun a ha b hb => ?_⟩
    obtain ⟨l, h1, rfl⟩ := List.mem_map.mp ha
    obtain rfl : b = p := by simpa using hb
    exact np l h1
  · by_cases z : b = p
    · exact .inr ⟨_, List.mem_append_right _ (List.mem_singleton.mpr rfl), z⟩
    · by_cases z2 : b = a
      · exact .inl z2
      · rw [upd_ne z, upd_ne z2, upd_ne z] at h
        rcases G.all b o h with h | ⟨m, h1, h2⟩
        · exact .inl h
        · exact .inr ⟨m, List.mem_append_left _ h1, h2⟩
/-- all lists are frozen -/
theorem grp_freeze {a : Addr} {o : HO} : ∀ {ls : List GL} {M S : Hp}, Rel K (B.over M) δ S σ H → M a = some o → (∀ l ∈ ls, M l.p = some (.lst l.vs) ∧ l.p ≠ a ∧ B.H0 l.p = none ∧ B.pa ≠ some l.p ∧ B.S0 l.p = none) → (ls.map (·.p)).Nodup →
    (∀ b u, M b = some u → b = a ∨ ∃ l ∈ ls, b = l.p) → ∃ S', Ex S S' ∧ Rel K (B.with a o) δ S' σ H ∧ ∀ l ∈ ls, S' l.p = some (.lst l.vs)
  | [], M, S, R, ha, _, _, all => by
    refine ⟨S, Ex.refl _, ?_, fun _ h => (nomatch h)⟩
    have e : M = upd (fun _ => none) a o := by
      funext b
      by_cases z : b = a
      · subst z; rw [upd_same, ha]
      · rw [upd_ne z]
        cases q : M b with
        | none => rfl
        | some u => rcases all b u q with h | ⟨l, h, _⟩
                    · exact absurd h z
                    · cases h
    rw [e, ← over_with] at R
    exact R
  | l :: ls, M, S, R, ha, at_, nd, all => by
    obtain ⟨h1, h2, h3, h4, h5⟩ := at_ l (List.mem_cons_self ..)
    obtain ⟨R1, e1⟩ := R.over_freeze h1 h4 h5 h3
    rw [List.map_cons, List.nodup_cons] at nd
    obtain ⟨S', e2, R2, t⟩ := grp_freeze (ls := ls) R1 (by rw [show hide M l.p a = M a from if_neg (Ne.symm h2)]; exact ha) (fun m hm => by
      obtain ⟨t1, t2, t3⟩ := at_ m (List.mem_cons_of_mem _ hm)
      have ne : m.p ≠ l.p := fun z => nd.1 (List.mem_map.mpr ⟨m, hm, z⟩)
      exact ⟨by rw [show hide M l.p m.p = M m.p from if_neg ne]; exact t1, t2, t3⟩) nd.2 (fun b u q => by
      have ne : b ≠ l.p := fun z => by rw [z, hide_same] at q; cases q
      rw [show hide M l.p b = M b from if_neg ne] at q
      rcases all b u q with h | ⟨m, hm, h⟩
      · exact .inl h
      · rcases List.mem_cons.mp hm with rfl | hm
        · exact absurd h ne
        · exact .inr ⟨m, hm, h⟩)
    refine ⟨S', e1.trans e2, R2, fun m hm => ?_⟩
    rcases List.mem_cons.mp hm with rfl | hm
    · exact e2 _ _ upd_same
    · exact t m hm

def wGrp (g : dG) (dk dx : dE) (Q : List (Key × List D) → DS → Prop) : List D → List (Key × List D) → DS → Prop
  | [], gs, δ => Q gs δ
  | d :: ds, gs, δ => g d δ fun δ1 => dk W0 δ1 fun y δ2 => δ2 = δ1 ∧ optQ y.key fun k => gs.length < sizeLine ∧ (∀ e ∈ gs, e.2.length < sizeLine) ∧ dx W0 δ1 fun x δ3 => δ3 = δ1 ∧ wGrp g dk dx Q ds (grpD gs k x) δ1
def dGroup (i : Nat) (w : dI) (g : dG) (dk dx : dE) : dS := fun W N δ => w W δ fun ds δ1 => δ1.sl[i]? = some (.ownK []) ∧
  wGrp g dk dx (fun gs δ2 => N.nx (setSl δ2 i (.ownK (gs.map fun e => (e.1, .lst e.2))))) ds [] (setSl δ1 i .un)
section
variable {X : Cx} {E : EK} {e a b c kx vx : Expr} {es : List Expr} {pos p ap cp ap2 cp2 lp pos2 : Pos} {da db dk dx : dE} {x : Str}
theorem ds_group {i : Nat} {tg iter : Expr} {w : dI} {g : dG} {vs : List Nat} (hp : PassesOwn (model X.prog X.w) X.A X.env X.xe) (hc : X.calm = true) (hi : DI X E tg iter w) (hg : DG X tg g vs) (hiv : i ∉ vs)
    (hv : PE X (.Name x p) (tVar i)) (hk : DE X E kx dk) (hx : DE X E vx dx)
    (hm : M2 X (.Name x p) "setdefault" ap kx (.List [] lp) cp) (hs : ∀ x, foldedSetIterable iter X.env x = pure x := by intro _; rfl)
    (hbase : attributeBase (.Call (.Attribute (.Name x p) "setdefault" ap) [kx, .List [] lp] [] cp) "append" X.env (eval (.Call (.Attribute (.Name x p) "setdefault" ap) [kx, .List [] lp] [] cp) X.env) = eval (.Call (.Attribute (.Name x p) "setdefault" ap) [kx, .List [] lp] [] cp) X.env := by rfl)
    (hfew : ((backTo cp2 (starEach [vx] X.env)).all (fun x => !x.1) && (backToKw cp2 (keywordEach [] X.env)).all (fun x => x.1.isSome) && decide (([vx] : List Expr).length + ([] : List Keyword).length + (if ([] : List Keyword).isEmpty then 0 else 1) < 30)) = true := by rfl)
    (hline : (ap2.endLine == cp2.line) = true := by rfl) (hst : starEach [vx] X.env = (false, eval vx X.env) :: starEach [] X.env := by rfl) (hpl : (backTo cp2 (starEach [] X.env)).any (·.1) = false := by rfl)
    (hsw : swapsWith (.Call (.Attribute (.Call (.Attribute (.Name x p) "setdefault" ap) [kx, .List [] lp] [] cp) "append" ap2) [vx] [] cp2) none pos2.line X.env = pure false := by rfl) :
    DSt X E (.For tg iter [.Expr (.Call (.Attribute (.Call (.Attribute (.Name x p) "setdefault" ap) [kx, .List [] lp] [] cp) "append" ap2) [vx] [] cp2) pos2] [] pos) (dGroup i w g dk dx) :=
  ⟨fun B => ps_mono (ps_for hp hc (hi.run B) (exG_ok hg) (pss_one (ps_expr (pe_bm PySem.F.plainAttrs_list PySem.F.slot_list_append PySem.F.type_list_append mt_append (pe_dsetd hv (exE_ok hk) (pe_lst pa_nil) hm) (pa_cons (exE_ok hx) pa_nil hst) hbase hfew hline hst hpl) hsw)) hs) fun Z σ H q => by
    obtain ⟨δ, S, W, N, R, q, xo, p1, _⟩ := q
    refine ⟨δ, S, W, _, R, q, xo, fun ds δ1 S1 H1 J q1 e1 R1 it1 => ?_⟩
    obtain ⟨hd, q1⟩ := q1
    obtain ⟨ow, s1, _⟩ := id R1.sl
    obtain ⟨a, kvs, r1, r2, r3, r4, r5, r6, r7⟩ := s1 i _ hd
    have kn : kvs = [] := by simpa using r6
    subst kn
    obtain ⟨R2, sa, ha, he⟩ := R1.unslot (p := a) hd (fun oa q => by
      obtain ⟨a', _, t1, _, _, t4, _⟩ := q
      rw [r4] at t4; cases t4; exact t1) r2 r3 r5 rfl
    have a0 : B.S0 a = none := by
      cases z : B.S0 a with
      | none => rfl
      | some u => have := R1.fr.s a u z; rw [sa] at this; cases this
    have R3 := R2.with_ (o := .dK []) ha (fun _ z => nomatch z)
    rw [← he] at R3
    have R3 : Rel X.K (B.over (upd (fun _ => none) a (.dK []))) (setSl δ1 i .un) S1 σ H1 := by rw [← over_with]; exact R3
    refine ⟨fun j m σ H => m = ds.length - j ∧ j ≤ ds.length ∧ ∃ δ S2 M ls, Ex S1 S2 ∧ Rel X.K (B.over M) δ S2 σ H ∧ σ[i]? = some (some (.ref a)) ∧ GrpOk X.K B S2 M a ls ∧ wGrp g dk dx (fun gs δ2 => N.nx (setSl δ2 i (.ownK (gs.map fun e => (e.1, .lst e.2))))) (ds.drop j) (ls.map fun l => (l.k, l.ds)) δ,
      ⟨_, rfl, Nat.zero_le _, _, S1, _, [], Ex.refl _, R3, r4, ⟨upd_same, ⟨r2, r3, a0⟩, fun _ h => (nomatch h), .nil, .nil, fun b o h => by
        by_cases z : b = a
        · exact .inl z
        · rw [upd_ne z] at h; cases h⟩, q1⟩, ?_⟩
    rintro j m σ2 H2 ⟨rfl, hj, δ2, S2, M, ls, e2, R4, sv, G, q2⟩
    by_cases hlt : j < ds.length
    · refine .inr ⟨it1.goes j S2 H2 e2 R4.ex hlt, fun σ' H' => (fun j m σ H => m = ds.length - j ∧ j ≤ ds.length ∧ ∃ δ S2 M ls, Ex S1 S2 ∧ Rel X.K (B.over M) δ S2 σ H ∧ σ[i]? = some (some (.ref a)) ∧ GrpOk X.K B S2 M a ls ∧ wGrp g dk dx (fun gs δ2 => N.nx (setSl δ2 i (.ownK (gs.map fun e => (e.1, .lst e.2))))) (ds.drop j) (ls.map fun l => (l.k, l.ds)) δ) (j + 1) (ds.length - (j + 1)) σ' H', fun σ' H' h => ⟨_, by omega, h⟩, fun x H3 y => ?_⟩
      obtain ⟨S3, d, g3, ed, dn⟩ := it1.yields j S2 H2 x H3 e2 R4.ex hlt y
      have hdr : ds.drop j = d :: ds.drop (j + 1) := by
        obtain ⟨h1, h2⟩ := List.getElem?_eq_some_iff.mp ed
        rw [List.drop_eq_getElem_cons h1, h2]
      rw [hdr] at q2
      refine ⟨B.over M, δ2, S3, d, _, R4.grow g3, dn, q2, fun δ4 σ4 S4 H4 q4 e4 R5 sl4 _ => ?_⟩
      have sv4 : σ4[i]? = some (some (.ref a)) := by rw [sl4 i hiv]; exact sv
      have G4 := G.mono (g3.s.trans e4)
      obtain ⟨ga1, ga2, ga3⟩ := G.a0
      have Ha := R5.beside G.dict ga2 ga3
      refine ⟨.ref a, sv4, a, rfl, .inl ⟨_, .inl Ha.1⟩, B.over M, δ4, S4, W0, _, R5, q4, xok0, fun y δ5 u S5 H5 q5 e5 R6 n5 => ?_⟩
      obtain ⟨rfl, q5⟩ := q5
      obtain ⟨k, hk, q5⟩ := optQ_ex q5
      obtain rfl := n5.key hk
      refine ⟨Nat.zero_le _, fun p hpn => ?_⟩
      have G5 := G4.mono e5
      have Hb := R6.beside G.dict ga2 ga3
      have pa : p ≠ a := fun z => by subst z; rw [Hb.1] at hpn; cases hpn
      obtain ⟨z1, z2, q5⟩ := q5
      have z2' : ∀ l ∈ ls, l.vs.length < sizeLine := fun l hl => by
        rw [(G5.at_ l hl).2.2.2.2.2.length]
        exact z2 _ (List.mem_map.mpr ⟨l, hl, rfl⟩)
      refine ⟨_, k, by rw [upd_ne (Ne.symm pa)]; exact Hb.1, rfl, by simpa using z1, fun v hvv => ?_, fun hn => ?_⟩
      · -- the key is there
        obtain ⟨l, hl, rfl, rfl⟩ := grp_find hvv
        obtain ⟨l1, l2, l3, l4, l5, l6⟩ := G5.at_ l hl
        have R7 := R6.new (o := .lst []) hpn
        have e7 : Ex S5 (upd S5 p (.lst [])) := Ex.new (R6.ex.none hpn)
        have Hl := R7.beside l1 l4 l5
        refine ⟨tyL Hl.1, B.over M, δ5, _, W0, _, R7, q5, xok0, fun x δ6 v S6 H6 q6 e6 R8 n6 => ?_⟩
        obtain ⟨rfl, q6⟩ := q6
        have Hl2 := R8.beside l1 l4 l5
        refine ⟨l.p, l.vs, v, rfl, rfl, Hl2.1, z2' l hl, ?_⟩
        have R9 := R8.over_upd (o' := .lst (l.vs ++ [v])) l1 l4 l5 l3 (fun _ z => nomatch z)
        have G6 := G5.mono (e7.trans e6)
        refine ⟨rfl, hlt, δ6, S6, _, grpV ls l.k v x, e2.trans (g3.s.trans (e4.trans (e5.trans (e7.trans e6)))), R9, sv4, G6.there hl n6, ?_⟩
        rw [grpV_ds hl]; exact q6
      · -- a key more
        obtain ⟨f1, f2⟩ := R6.fr.fresh hpn
        have mp : M p = none := by
          cases z : M p with
          | none => rfl
          | some u => rw [over_in z] at f1; cases f1
        have bp : B.H0 p = none := by
          have : (match M p with | some o => some o | none => B.H0 p) = none := f1
          rw [mp] at this; exact this
        have s0p : B.S0 p = none := by
          cases z : B.S0 p with
          | none => rfl
          | some u => have := R6.fr.s p u z; rw [R6.ex.none hpn] at this; cases this
        have R7 := R6.with_ (o := .lst []) hpn (fun _ z => nomatch z)
        rw [over_with] at R7
        have d7 : upd M p (.lst []) a = some (.dK (ls.map fun l => (l.k, V.ref l.p))) := by rw [upd_ne (Ne.symm pa)]; exact G.dict
        have R8 := R7.over_upd (o' := .dK (putK (ls.map fun l => (l.k, V.ref l.p)) k (.ref p))) d7 ga2 ga3 ga1 (fun _ z => nomatch z)
        have p8 : upd (upd M p (.lst [])) a (.dK (putK (ls.map fun l => (l.k, V.ref l.p)) k (.ref p))) p = some (.lst []) := by rw [upd_ne pa, upd_same]
        refine ⟨tyL (R8.beside p8 f2 s0p).1, _, δ5, _, W0, _, R8, q5, xok0, fun x δ6 v S6 H6 q6 e6 R9 n6 => ?_⟩
        obtain ⟨rfl, q6⟩ := q6
        refine ⟨p, [], v, rfl, rfl, (R9.beside p8 f2 s0p).1, by show 0 < sizeLine; decide, ?_⟩
        have R10 := R9.over_upd (o' := .lst ([] ++ [v])) p8 f2 s0p bp (fun _ z => nomatch z)
        have G6 := G5.mono e6
        refine ⟨rfl, hlt, δ6, S6, _, ls ++ [⟨k, p, [v], [x]⟩], e2.trans (g3.s.trans (e4.trans (e5.trans e6))), R10, sv4, G6.more hn mp bp f2 s0p pa n6, ?_⟩
        have : grpD (ls.map fun l => (l.k, l.ds)) k x = (ls ++ [(⟨k, p, [v], [x]⟩ : GL)]).map fun l => (l.k, l.ds) := by
          unfold grpD
          rw [grp_any, if_neg (fun z => by
            obtain ⟨l, h1, h2⟩ := List.any_eq_true.mp z
            have h2 := of_decide_eq_true h2
            subst h2
            exact grp_there h1 hn), List.map_append]; rfl
        rw [this] at q6; exact q6
    · have ej : j = ds.length := by omega
      subst ej
      rw [List.drop_length] at q2
      refine .inl ⟨it1.stops S2 H2 e2 R4.ex, ?_⟩
      obtain ⟨S3, e3, R5, t5⟩ := grp_freeze (o := .dK (ls.map fun l => (l.k, V.ref l.p))) R4 G.dict (fun l h => by obtain ⟨h1, h2, h3, h4, h5, _⟩ := G.at_ l h; exact ⟨h1, h2, h3, h4, h5⟩) G.ndp G.all
      obtain ⟨ga1, ga2, ga3⟩ := G.a0
      have sa3 : S3 a = none := R5.fr.no a _ upd_same ga3
      obtain ⟨R6, h6, h7⟩ := R5.unwith ga1 ga2 sa3
      have R7 := R6.setNew (i := i) (x := .ownK ((ls.map fun l => (l.k, l.ds)).map fun e => (e.1, .lst e.2))) (p := a) (o := .dK (ls.map fun l => (l.k, V.ref l.p))) hide_same (fun _ z => nomatch z) fun H1 h1 b1 b2 => ⟨a, _, rfl, b1, b2, rfl, h1, by simp [List.map_map, Function.comp_def], by
        have : ∀ ls' : List GL, (∀ l ∈ ls', S3 l.p = some (.lst l.vs) ∧ DnA X.K S3 l.vs l.ds) → DnA X.K S3 (ls'.map fun l => V.ref l.p) (ls'.map fun l => D.lst l.ds) := fun ls' h => by
          induction ls' with
          | nil => exact .nil
          | cons l ls' ih =>
            exact .cons (.lst (h l (List.mem_cons_self ..)).1 (h l (List.mem_cons_self ..)).2) (ih fun m hm => h m (List.mem_cons_of_mem _ hm))
        have := this ls fun l h => ⟨t5 l h, (G.at_ l h).2.2.2.2.2.mono e3⟩
        simpa [List.map_map, Function.comp_def] using this⟩
      rw [← h7] at R7
      have es : σ2.set i (some (.ref a)) = σ2 := by
        apply List.ext_getElem? ; intro n
        by_cases z : i = n
        · subst z
          have hlt' : i < σ2.length := by
            rcases Nat.lt_or_ge i σ2.length with h | h
            · exact h
            · rw [List.getElem?_eq_none h] at sv; cases sv
          rw [List.getElem?_set_self hlt', sv]
        · rw [List.getElem?_set_ne z]
      rw [es] at R7
      exact p1 _ _ _ _ q2 (e1.trans (e2.trans e3)) R7⟩
end
end Ev

/-! # Dicts as values, locked or not: sorted, len, list, in, [] -/
namespace Ev
open PySem PySem.Spec PyProof.Rows L2
variable [TabC]
variable {K : PySem.W.Frag} {S S' H H' : Hp} {B : Bs} {δ : DS} {σ : L2.St}
section
variable {X : Cx} {E : EK} {e a b c : Expr} {es : List Expr} {pos p ap cp : Pos} {da db : dE} {x : Str}
def rSrtT2 (K : PySem.W.Frag) : List V → Hp → VK → Prop := fun vs H Q => ∃ S a kvs, vs = [.ref a] ∧ Sb S H ∧ Rd H a (.dT kvs) ∧ srtOk (kvs.map fun e => D.tup (e.1.map kD)) ∧ ∀ ws p, H p = none → DnA K S ws (sortD (kvs.map fun e => D.tup (e.1.map kD))) → Q (.ref p) (upd H p (.lst ws))
theorem cd_sortedT2 (hc : X.calm = true) (hu : X.A.units + 66 < cLine) : CallR X (.builtin "sorted") (rSrtT2 X.K) := fun pins s σ H vs us Q I r ⟨S, a, kvs, e, sb, ha, ok, q⟩ => by
  subst e
  obtain ⟨u, rfl, ru⟩ := vals1 r
  obtain rfl : u = Value.ref a := ru
  obtain ⟨hz, hs, ks, pr, o, es, ep, ho, hx, hdt, he, hn⟩ := Rd.ok ha I.hok
  have l1 : es.size = ks.length := by rw [← Array.length_toList, he, List.length_map]
  have l2 : kvs.length = ks.length := Paired.length pr
  refine sorted_end I hu sb (us := ks.map fun q => Value.ref q.2.1) (vs := ks.map fun q => V.ref q.2.1) ?_ (keys_dn sb pr) ok (fun C E' hC => ?_) fun ws p hp aw => q ws p hp aw
  · clear pr he hn l1 l2
    induction ks with
    | nil => exact .nil
    | cons k ks ih => exact .cons rfl ih
  · refine collect_src (kdl_raw hs hx hdt) (I.ok.hd hc) ho (by omega) fun h' tk acc kp sz it => ?_
    have ea : acc.toList = ks.map fun q => Value.ref q.2.1 := by
      have hl : acc.toList.length = ks.length := by rw [Array.length_toList, it.1, l1]
      apply List.ext_getElem?
      intro j
      rw [List.getElem?_map]
      by_cases hj : j < ks.length
      · have hj2 : j < acc.size := by rw [← Array.length_toList]; omega
        obtain ⟨en, h1, h2⟩ := it.2 j acc[j] (Array.getElem?_eq_getElem hj2)
        have h3 : es.toList[j]? = some en := by rw [Array.getElem?_toList]; exact h1
        rw [he, List.getElem?_map, List.getElem?_eq_getElem hj] at h3
        rw [Array.getElem?_toList, Array.getElem?_eq_getElem hj2, List.getElem?_eq_getElem hj, h2, ← Option.some.inj h3]
        rfl
      · rw [List.getElem?_eq_none (by omega), List.getElem?_eq_none (by omega)]; rfl
    rw [ea]
    exact hC h' tk kp sz
def rSrtK2 (K : PySem.W.Frag) : List V → Hp → VK → Prop := fun vs H Q => ∃ S a kvs, vs = [.ref a] ∧ Sb S H ∧ Rd H a (.dK kvs) ∧ srtOk (kvs.map fun e => kD e.1) ∧ ∀ ws p, H p = none → DnA K S ws (sortD (kvs.map fun e => kD e.1)) → Q (.ref p) (upd H p (.lst ws))
theorem cd_sortedK2 (hc : X.calm = true) (hu : X.A.units + 66 < cLine) : CallR X (.builtin "sorted") (rSrtK2 X.K) := fun pins s σ H vs us Q I r ⟨S, a, kvs, e, sb, ha, ok, q⟩ => by
  subst e
  obtain ⟨u, rfl, ru⟩ := vals1 r
  obtain rfl : u = Value.ref a := ru
  obtain ⟨hz, hs, ks, rel, o, es, ep, ho, hx, hdt, hk, hp, hn⟩ := Rd.ok ha I.hok
  have rv := pairs_keys hp rel
  have l1 : es.size = kvs.length := by have := rv.length; rw [List.length_map, List.length_map, Array.length_toList] at this; exact this.symm
  refine sorted_end I hu sb (us := es.toList.map (·.key)) (vs := kvs.map fun e => kV e.1) rv (DnA.kD1 kvs) ok (fun C E' hC => ?_) fun ws p hp aw => q ws p hp aw
  refine collect_src (kdl_raw hs hx hdt) (I.ok.hd hc) ho (by omega) fun h' tk acc kp sz it => ?_
  have ea : acc.toList = es.toList.map (·.key) := by
    apply List.ext_getElem?
    intro j
    rw [List.getElem?_map]
    have hl : acc.toList.length = es.toList.length := by rw [Array.length_toList, Array.length_toList]; exact it.1
    by_cases hj : j < es.toList.length
    · have hj2 : j < acc.size := by rw [← Array.length_toList]; omega
      obtain ⟨en, h1, h2⟩ := it.2 j acc[j] (Array.getElem?_eq_getElem hj2)
      rw [Array.getElem?_toList, Array.getElem?_eq_getElem hj2, Array.getElem?_toList, h1, h2]; rfl
    · rw [List.getElem?_eq_none (by omega), List.getElem?_eq_none (by omega)]; rfl
  rw [ea]
  exact hC h' tk kp sz
/-- a dict with tuple keys, with keys numbers or texts -/
def asT : D → Option (List (List Key × D)) | .dT es => some es | .fT es => some es | _ => none
def asK : D → Option (List (Key × D)) | .dK es => some es | .fK es => some es | _ => none
theorem asT_at {v : V} {d : D} {es : List (List Key × D)} (n : Dn K S v d) (h : asT d = some es) : ∃ a kvs, v = .ref a ∧ Rd S a (.dT kvs) ∧ KvR K S kvs es := by
  cases n with
  | dT h1 h2 h3 => cases h; exact ⟨_, _, rfl, .inl h1, h2, h3⟩
  | fT h1 h2 h3 => cases h; exact ⟨_, _, rfl, .inr ⟨_, h1⟩, h2, h3⟩
  | _ => cases h
theorem asK_at {v : V} {d : D} {es : List (Key × D)} (n : Dn K S v d) (h : asK d = some es) : ∃ a kvs, v = .ref a ∧ Rd S a (.dK kvs) ∧ KvR K S kvs es := by
  cases n with
  | dK h1 h2 h3 => cases h; exact ⟨_, _, rfl, .inl h1, h2, h3⟩
  | fK h1 h2 h3 => cases h; exact ⟨_, _, rfl, .inr ⟨_, h1⟩, h2, h3⟩
  | _ => cases h
/-- the items of a list, a tuple; the keys of a dict -/
def itemsOf (d : D) : Option (List D) := match d with
  | .lst ds => some ds
  | .tup ds => some ds
  | .dT es => some (keyD es)
  | .fT es => some (keyD es)
  | .dK es => some (keyDK es)
  | .fK es => some (keyDK es)
  | _ => none
def rSrtA : DRF := fun xs Q => match xs with | [d] => optQ (itemsOf d) fun ds => srtOk ds ∧ Q (sortD ds) | _ => False
theorem cd_sortedA (hc : X.calm = true) (hu : X.A.units + 66 < cLine) : CallR X (.builtin "sorted") (liftCF X.K rSrtA) := fun pins s σ H vs us Q I r ⟨S, ds, Q', ex, n, q, post⟩ => by
  match ds, n, q with
  | [d], n, q =>
    obtain ⟨v, rfl, n1⟩ := n.one
    obtain ⟨zs, hz, q1, q2⟩ := optQ_ex q
    have fT : ∀ es, asT d = some es → zs = keyD es → wpAny (model X.prog X.w) X.A (call (.builtin "sorted") us) (EP X pins σ Q) X.xe s := fun es h e => by
      obtain ⟨a, kvs, rfl, h1, h2, h3⟩ := asT_at n1 h
      refine cd_sortedT2 hc hu pins s σ H _ us Q I r ⟨S, a, kvs, rfl, ex, ex.ex.rd h1, by rw [keyD_of h2, ← e]; exact q1, fun ws p hp aw => ?_⟩
      rw [keyD_of h2, ← e] at aw
      exact post _ _ _ q2 hp aw
    have fK : ∀ es, asK d = some es → zs = keyDK es → wpAny (model X.prog X.w) X.A (call (.builtin "sorted") us) (EP X pins σ Q) X.xe s := fun es h e => by
      obtain ⟨a, kvs, rfl, h1, h2, h3⟩ := asK_at n1 h
      refine cd_sortedK2 hc hu pins s σ H _ us Q I r ⟨S, a, kvs, rfl, ex, ex.ex.rd h1, by rw [keyDK_of h2, ← e]; exact q1, fun ws p hp aw => ?_⟩
      rw [keyDK_of h2, ← e] at aw
      exact post _ _ _ q2 hp aw
    cases d with
    | lst ds => cases hz; exact cd_sorted hu pins s σ H _ us Q I r ⟨S, [.lst zs], Q', ex, n, ⟨q1, q2⟩, post⟩
    | tup ds => cases hz; exact cd_sorted hu pins s σ H _ us Q I r ⟨S, [.tup zs], Q', ex, n, ⟨q1, q2⟩, post⟩
    | dT es => cases hz; exact fT es rfl rfl
    | fT es => cases hz; exact fT es rfl rfl
    | dK es => cases hz; exact fK es rfl rfl
    | fK es => cases hz; exact fK es rfl rfl
    | _ => cases hz
/-- len of whatever has items -/
def rLenA : DRC := fun xs Q => match xs with | [d] => optQ (itemsOf d) fun ds => Q (.int ds.length) | _ => False
theorem cd_lenA : CallR X (.builtin "len") (liftC X.K rLenA) := fun pins s σ H vs us Q I r ⟨S, ds, Q', ex, n, q, post⟩ => by
  match ds, n, q with
  | [d], n, q =>
    obtain ⟨v, rfl, n1⟩ := n.one
    obtain ⟨zs, hz, q1⟩ := optQ_ex q
    have fT : ∀ es, asT d = some es → zs = keyD es → wpAny (model X.prog X.w) X.A (call (.builtin "len") us) (EP X pins σ Q) X.xe s := fun es h e => by
      obtain ⟨a, kvs, rfl, h1, h2, h3⟩ := asT_at n1 h
      obtain ⟨u, rfl, rx⟩ := vals1 r
      obtain rfl : u = .ref a := rx
      obtain ⟨z, hd, ys, rel, dd⟩ := dt_rd I.hok (ex.ex.rd h1)
      have hl : kvs.length = ys.length := Paired.length rel
      refine call_len_dictH hd dd (by rw [← hl]; rw [sizeLine_eq] at z; omega) ?_
      rw [← hl]
      have hle : kvs.length = zs.length := by rw [e]; unfold keyD; simpa using congrArg List.length h2
      rw [hle]
      exact ⟨.int zs.length, H, I.tok _, ⟨_, rfl⟩, post _ _ _ _ q1 (Grow.refl ex) (.int _)⟩
    have fK : ∀ es, asK d = some es → zs = keyDK es → wpAny (model X.prog X.w) X.A (call (.builtin "len") us) (EP X pins σ Q) X.xe s := fun es h e => by
      obtain ⟨a, kvs, rfl, h1, h2, h3⟩ := asK_at n1 h
      obtain ⟨u, rfl, rx⟩ := vals1 r
      obtain rfl : u = .ref a := rx
      obtain ⟨z, hd, ys, rel, dd⟩ := dk_rd I.hok (ex.ex.rd h1)
      have hl : kvs.length = ys.length := rel.length
      refine call_len_dict hd dd (by rw [← hl]; rw [sizeLine_eq] at z; omega) ?_
      rw [← hl]
      have hle : kvs.length = zs.length := by rw [e]; unfold keyDK; simpa using congrArg List.length h2
      rw [hle]
      exact ⟨.int zs.length, H, I.tok _, ⟨_, rfl⟩, post _ _ _ _ q1 (Grow.refl ex) (.int _)⟩
    cases d with
    | lst ds => cases hz; exact cd_len pins s σ H _ us Q I r ⟨S, [.lst zs], Q', ex, n, q1, post⟩
    | tup ds => cases hz; exact cd_len pins s σ H _ us Q I r ⟨S, [.tup zs], Q', ex, n, q1, post⟩
    | dT es => cases hz; exact fT es rfl rfl
    | fT es => cases hz; exact fT es rfl rfl
    | dK es => cases hz; exact fK es rfl rfl
    | fK es => cases hz; exact fK es rfl rfl
    | _ => cases hz
/-- what a dict holds at y -/
def dictAt (d y : D) : Option (Option D) := match asT d with
  | some es => y.keyT.map (valD es)
  | none => match asK d with
    | some es => y.key.map (valD es)
    | none => none
theorem dictAt_get {v u : V} {d y : D} {r : Option D} (sb : Sb S H) (n : Dn K S v d) (m : Dn K S u y) (h : dictAt d y = some r) : ∃ a o, v = .ref a ∧ DGet H a u o ∧ ((o = none ∧ r = none) ∨ ∃ v d, o = some v ∧ r = some d ∧ Dn K S v d) := by
  unfold dictAt at h
  cases hT : asT d with
  | some es =>
    rw [hT] at h
    obtain ⟨a, kvs, rfl, h1, h2⟩ := asT_at n hT
    cases hk : y.keyT with
    | none => simp only [hk] at h; cases h
    | some k =>
      simp only [hk] at h; cases h
      obtain ⟨b, rfl, hb⟩ := m.keyT hk
      refine ⟨a, _, rfl, .inr ⟨kvs, k, b, sb.ex.rd h1, rfl, sb _ _ hb, rfl⟩, ?_⟩
      rcases h2.get (k := k) with ⟨q1, q2⟩ | ⟨v, d, q1, q2, q3⟩
      · exact .inl ⟨q1, q2⟩
      · exact .inr ⟨v, d, q1, q2, q3⟩
  | none =>
    rw [hT] at h
    cases hK : asK d with
    | none => simp only [hK] at h; cases h
    | some es =>
      simp only [hK] at h
      obtain ⟨a, kvs, rfl, h1, h2⟩ := asK_at n hK
      cases hk : y.key with
      | none => simp only [hk] at h; cases h
      | some k =>
        simp only [hk] at h; cases h
        rw [m.key hk]
        refine ⟨a, _, rfl, .inl ⟨kvs, k, sb.ex.rd h1, rfl, rfl⟩, ?_⟩
        rcases h2.get (k := k) with ⟨q1, q2⟩ | ⟨v, d, q1, q2, q3⟩
        · exact .inl ⟨q1, q2⟩
        · exact .inr ⟨v, d, q1, q2, q3⟩
/-- e in d, e not in d, d a dict -/
def dInV (neg : Bool) (db da : dE) : dE := fun W δ Q => db W δ fun y δ1 => da W δ1 fun z δ2 => optQ (dictAt z y) fun r => Q (.bl (if neg then !r.isSome else r.isSome)) δ2
theorem dinV_read {Q : VK} (q : liftE K B E (dInV false db da) σ H Q) : tDIn (liftE K B E db) (liftE K B E da) σ H Q := by
  obtain ⟨δ, S, W, Q', R, q, xo, post⟩ := q
  refine ⟨δ, S, W, _, R, q, xo, fun y δ1 v S1 H1 q1 e1 R1 n1 => ?_⟩
  refine ⟨δ1, S1, W, _, R1, q1, xo.mono e1, fun z δ2 w S2 H2 q2 e2 R2 n2 => ?_⟩
  obtain ⟨r, h1, q2⟩ := optQ_ex q2
  obtain ⟨a', o, rfl, g, wd⟩ := dictAt_get R2.ex n2 (n1.mono e2) h1
  exact ⟨a', o, rfl, g, by rw [isSome_of wd]; exact post _ _ _ _ _ q2 (e1.trans e2) R2 (.bl _)⟩
theorem dninV_read {Q : VK} (q : liftE K B E (dInV true db da) σ H Q) : tDNotIn (liftE K B E db) (liftE K B E da) σ H Q := by
  obtain ⟨δ, S, W, Q', R, q, xo, post⟩ := q
  refine ⟨δ, S, W, _, R, q, xo, fun y δ1 v S1 H1 q1 e1 R1 n1 => ?_⟩
  refine ⟨δ1, S1, W, _, R1, q1, xo.mono e1, fun z δ2 w S2 H2 q2 e2 R2 n2 => ?_⟩
  obtain ⟨r, h1, q2⟩ := optQ_ex q2
  obtain ⟨a', o, rfl, g, wd⟩ := dictAt_get R2.ex n2 (n1.mono e2) h1
  exact ⟨a', o, rfl, g, by rw [isSome_of wd]; exact post _ _ _ _ _ q2 (e1.trans e2) R2 (.bl _)⟩
theorem de_inV (hu : X.A.units + 1 < cLine) (hb : DE X E b db) (hv : DE X E a da) (hm : behindInMarks .In a = false := by with_unfolding_all rfl) : DE X E (.Compare b [.In] [a] pos) (dInV false db da) := ⟨fun B => pe_mono (pe_cmp (pc_din hu (hb.run B) (hv.run B)) hm) fun σ H Q q => dinV_read q⟩
theorem de_ninV (hu : X.A.units + 1 < cLine) (hb : DE X E b db) (hv : DE X E a da) (hm : behindInMarks .NotIn a = false := by with_unfolding_all rfl) : DE X E (.Compare b [.NotIn] [a] pos) (dInV true db da) := ⟨fun B => pe_mono (pe_cmp (pc_dnotin hu (hb.run B) (hv.run B)) hm) fun σ H Q q => dninV_read q⟩
theorem dt_inV (hu : X.A.units + 1 < cLine) (hb : DE X E b db) (hv : DE X E a da) (hm : behindInMarks .In a = false := by with_unfolding_all rfl) : DT X E (.Compare b [.In] [a] pos) (dB (dInV false db da)) := ⟨fun B => pt_mono (pt_cmp (pc_din hu (hb.run B) (hv.run B)) hm) fun σ H Q q => by
  have q := lift_B q
  exact dinV_read (Q := fun x H' => ∃ k, x = .bl k ∧ Q k H') q⟩
theorem dt_ninV (hu : X.A.units + 1 < cLine) (hb : DE X E b db) (hv : DE X E a da) (hm : behindInMarks .NotIn a = false := by with_unfolding_all rfl) : DT X E (.Compare b [.NotIn] [a] pos) (dB (dInV true db da)) := ⟨fun B => pt_mono (pt_cmp (pc_dnotin hu (hb.run B) (hv.run B)) hm) fun σ H Q q => by
  have q := lift_B q
  exact dninV_read (Q := fun x H' => ∃ k, x = .bl k ∧ Q k H') q⟩
/-- d[e], d a dict -/
def dIxV (da db : dE) : dE := fun W δ Q => da W δ fun z δ1 => db W δ1 fun y δ2 => optQ (dictAt z y) fun r => optQ r fun d => Q d δ2
theorem de_ixV (hu : X.A.units + 1 < cLine) (hv : DE X E a da) (hb : DE X E b db) (hs : NoSl b) : DE X E (.Subscript a b pos) (dIxV da db) := ⟨fun B => pe_mono (pe_dget hu (hv.run B) (hb.run B) hs) fun σ H Q q => by
  obtain ⟨δ, S, W, Q', R, q, xo, post⟩ := q
  refine ⟨δ, S, W, _, R, q, xo, fun z δ1 w S1 H1 q1 e1 R1 n1 => ?_⟩
  refine ⟨δ1, S1, W, _, R1, q1, xo.mono e1, fun y δ2 u S2 H2 q2 e2 R2 n2 => ?_⟩
  obtain ⟨r, h1, q2⟩ := optQ_ex q2
  obtain ⟨d, h2, q2⟩ := optQ_ex q2
  obtain ⟨a', o, rfl, g, wd⟩ := dictAt_get R2.ex (n1.mono e2) n2 h1
  subst h2
  rcases wd with ⟨_, h3⟩ | ⟨v, d', rfl, h3, n3⟩
  · cases h3
  · cases h3
    exact ⟨a', v, rfl, g, post _ _ _ _ _ q2 (e1.trans e2) R2 n3⟩⟩
end
end Ev

/-! # is True, is not True -/
namespace Ev
open PySem PySem.Spec PyProof.Rows L2
variable [TabC]
section
variable {X : Cx}
def rIsTF (neg : Bool) : DR2 := fun x y Q => match x, y with | .bl a, .bl b => Q (.bl (if neg then !decide (a = b) else decide (a = b))) | _, _ => False
theorem od_isB : OpD X (compareOp .Is) (rIsTF false) := fun pins s σ H x y v u Q I rx ry ⟨S, dx, dy, Q', ex, n1, n2, q, post⟩ => by
  cases dx with
  | bl a =>
    cases dy with
    | bl b =>
      cases n1; cases n2
      exact op_is_bl pins s σ H _ _ v u Q I rx ry ⟨a, b, rfl, rfl, post _ _ _ _ q (Grow.refl ex) (.bl _)⟩
    | _ => exact q.elim
  | _ => exact q.elim
theorem od_notB : OpD X (compareOp .IsNot) (rIsTF true) := fun pins s σ H x y v u Q I rx ry ⟨S, dx, dy, Q', ex, n1, n2, q, post⟩ => by
  cases dx with
  | bl a =>
    cases dy with
    | bl b =>
      cases n1; cases n2
      exact op_isnot_bl pins s σ H _ _ v u Q I rx ry ⟨a, b, rfl, rfl, post _ _ _ _ q (Grow.refl ex) (.bl _)⟩
    | _ => exact q.elim
  | _ => exact q.elim
end
end Ev

/-! # Dicts with tuple keys: made by displays, of pairs; compared with the empty one; lists of their keys -/
namespace Ev
open PySem PySem.Spec PyProof.Rows L2
variable [TabC]
variable {K : PySem.W.Frag} {S S' H H' : Hp} {B : Bs} {δ : DS} {σ : L2.St}
section
variable {X : Cx} {E : EK} {e a b c k v : Expr} {es : List Expr} {pos p ap cp : Pos} {da db dk dv : dE} {x : Str}
theorem upd_upd {H : Hp} {p : Addr} {o u : HO} : upd (upd H p o) p u = upd H p u := by
  funext b
  by_cases z : b = p
  · subst z; rw [upd_same, upd_same]
  · rw [upd_ne z, upd_ne z, upd_ne z]
/-- {}: locked at once -/
theorem pe_emptyTL : PE X (.Dict [] [] pos) (fun _ H Q => ∀ p od, H p = none → Q (.ref p) (upd H p (.frz od (.dT [])))) := ⟨fun pins s σ H Q I q => by
  refine thn (pe_dnewT.run pins s σ H (fun v H' => ∃ p, H p = none ∧ v = .ref p ∧ H' = upd H p (.dT [])) I fun p hp => ⟨p, hp, rfl, rfl⟩) fun w s1 ⟨y, H1, I1, r1, p, hp, e1, e2⟩ => ?_
  subst e1 e2
  obtain ⟨od, I2⟩ := I1.lock (d := p) upd_same trivial
  rw [upd_upd] at I2
  exact ⟨_, _, I2, r1, q p od hp⟩⟩
def dEmptyT : dE := fun _ δ Q => Q (.fT []) δ
theorem de_emptyT : DE X E (.Dict [] [] pos) dEmptyT := ⟨fun B => pe_mono pe_emptyTL fun σ H Q q => by
  obtain ⟨δ, S, W, Q', R, q, xo, post⟩ := q
  intro p od hp
  have g := Grow.new (o := .frz od (.dT [])) R.ex hp
  exact post _ _ _ _ _ q g.s (R.grow g) (.fT (kvs := []) upd_same rfl .nil)⟩
/-- is a dict the same as an empty one -/
theorem empty_pairs {prog : Program} {w : World} {A : Around} {E : Value → Shared → Prop} {s : Shared} {nm : String} {a b : Addr} {oa ob : Obj} {es es' : Array DictEntry} {ep ep' : Nat} {Q : Bool → Shared → Prop} (ha : (a == sysModules) = false) (hb : (b == sysModules) = false)
    (hoa : s.heap.get? a = some oa) (hda : oa.data = .dict es ep) (hob : s.heap.get? b = some ob) (hdb : ob.data = .dict es' ep') (h0 : es'.size = 0) (h : Q (decide (es.size = 0)) s) : wpAny (model prog w) A (Builtin.Dict.samePairs nm a b) Q E s := by
  unfold Builtin.Dict.samePairs Builtin.Dict.showsAll
  rw [if_neg (show ¬ (a == sysModules) = true by rw [ha]; exact Bool.false_ne_true), if_neg (show ¬ (b == sysModules) = true by rw [hb]; exact Bool.false_ne_true)]
  refine wpAny_bind (wpAny_pure (wpAny_bind (wpAny_pure ?_)))
  refine wpAny_bind (wpAny_dictEntries hoa hda ?_)
  dsimp only
  refine wpAny_bind (wpAny_dictEntries hob hdb ?_)
  by_cases hsz : es.size = es'.size
  case neg =>
    rw [if_pos (by simpa using hsz)]
    have hbf : decide (es.size = 0) = false := decide_eq_false (by rw [h0] at hsz; exact hsz)
    rw [hbf] at h
    exact wpAny_bind (wpAny_rule (wpAny_pure h))
  case pos =>
    rw [if_neg (by rw [hsz]; simp)]
    have z : es.size = 0 := hsz.trans h0
    rw [decide_eq_true z] at h
    refine wpAny_bind (wpAny_dictEpoch hoa hda ?_)
    refine wpAny_bind ?_
    rw [Std.Legacy.Range.forIn_eq_forIn_range']
    simp only [Std.Legacy.Range.size, Nat.sub_zero, Nat.add_sub_cancel, Nat.div_one, z, List.range'_zero, List.forIn_nil]
    exact wpAny_pure (wpAny_pure h)
/-- d != {} -/
theorem op_neE (hu : X.A.units < cLine) : OpR X (compareOp .NotEq) (fun x y H Q => ∃ a b kvs, x = .ref a ∧ y = .ref b ∧ Rd H a (.dT kvs) ∧ Rd H b (.dT []) ∧ Q (.bl (!decide (kvs = []))) H) := fun pins s σ H x y v u Q I rx ry ⟨a, b, kvs, ex, ey, ha, hb, q⟩ => by
  subst ex ey
  obtain rfl : v = Value.ref a := rx
  obtain rfl : u = Value.ref b := ry
  obtain ⟨z1, d1, xs, r1, oa, ea, epa, ga1, ga2, ga3, ga4, _⟩ := dt_rd I.hok ha
  obtain ⟨z2, d2, ys, r2, ob, eb, epb, gb1, gb2, gb3, gb4, _⟩ := dt_rd I.hok hb
  have l1 : ea.size = kvs.length := by rw [← Array.length_toList, ga4, List.length_map]; exact (Paired.length r1).symm
  have l2 : eb.size = 0 := by rw [← Array.length_toList, gb4, List.length_map]; exact (Paired.length r2).symm
  have ta : s.TypeIs (.ref a) "dict" := ⟨oa, ga1, ga2.1⟩
  have tb : s.TypeIs (.ref b) "dict" := ⟨ob, gb1, gb2.1⟩
  refine wpAny_richCompare_same_room (op := .NotEq) ta tb PySem.F.slot_dict_ne (wpAny_call_entry PySem.F.slot_dict_ne ta PySem.F.entry_dict_ne ?_ (PySem.F.args_dict_ne_2 _ _)) hu
  show wpAny _ _ (Builtin.Dict.dictSlotArgs "__ne__" ⟨[.ref a, .ref b], []⟩ >>= _) _ _ s
  refine wpAny_bind ?_
  unfold Builtin.Dict.dictSlotArgs
  refine wpAny_bind (wpAny_notOrdered_dict ta ?_)
  show wpAny _ _ (pure (Value.ref a, Value.ref b)) _ _ s
  refine wpAny_pure ?_
  refine wpAny_bind (wpAny_isInstance (T := "dict") tb PySem.F.sub_dict_dict ?_)
  simp only [Bool.not_true, Bool.false_eq_true, if_false]
  refine wpAny_bind (wpAny_pure (wpAny_bind (wpAny_pure ?_)))
  refine wpAny_bind (empty_pairs d1 d2 ga1 ga3 gb1 gb3 l2 ?_)
  refine wpAny_pure ⟨_, rfl, ?_, ?_⟩
  · exact fun x => nomatch x
  · have e : decide (ea.size = 0) = decide (kvs = []) := by rw [l1]; exact decide_eq_decide.mpr List.length_eq_zero_iff
    rw [e]
    exact ⟨.bl (!decide (kvs = [])), H, I, by cases decide (kvs = []) <;> rfl, q⟩
def dNeE (d : dE) : dE := fun W δ Q => d W δ fun x δ1 => optQ (asT x) fun es => Q (.bl (!decide (es = []))) δ1
theorem neE_read {Q : VK} (q : liftE X.K B E (dNeE da) σ H Q) : tOp (fun x y H Q => ∃ a b kvs, x = .ref a ∧ y = .ref b ∧ Rd H a (.dT kvs) ∧ Rd H b (.dT []) ∧ Q (.bl (!decide (kvs = []))) H) (liftE X.K B E da) tDNewT σ H Q := by
  obtain ⟨δ, S, W, Q', R, q, xo, post⟩ := q
  refine ⟨δ, S, W, _, R, q, xo, fun x δ1 v S1 H1 q1 e1 R1 n1 => ?_⟩
  obtain ⟨es, h1, q1⟩ := optQ_ex q1
  obtain ⟨a, kvs, rfl, hr, hk⟩ := asT_at n1 h1
  intro p hp
  have g := Grow.new (o := .dT []) R1.ex hp
  have ek : decide (kvs = []) = decide (es = []) := decide_eq_decide.mpr (by
    have := congrArg List.length hk.1
    rw [List.length_map, List.length_map] at this
    rw [← List.length_eq_zero_iff, ← List.length_eq_zero_iff, this])
  refine ⟨a, p, kvs, rfl, rfl, Ex.rd (Ex.new hp) (R1.ex.ex.rd hr), .inl upd_same, ?_⟩
  rw [ek]
  exact post _ _ _ _ _ q1 (e1.trans g.s) (R1.grow g) (.bl _)
theorem de_neE {p2 : Pos} (hu : X.A.units < cLine) (ha : DE X E a da) (hm : behindInMarks .NotEq (.Dict [] [] p2) = false := by with_unfolding_all rfl) : DE X E (.Compare a [.NotEq] [.Dict [] [] p2] pos) (dNeE da) := ⟨fun B => pe_mono (pe_cmpR (op_neE hu) (ha.run B) pe_dnewT hm) fun σ H Q q => neE_read q⟩
theorem dt_neE {p2 : Pos} (hu : X.A.units < cLine) (ha : DE X E a da) (hm : behindInMarks .NotEq (.Dict [] [] p2) = false := by with_unfolding_all rfl) : DT X E (.Compare a [.NotEq] [.Dict [] [] p2] pos) (dB (dNeE da)) := ⟨fun B => pt_mono (pt_cmpR (op_neE hu) (ha.run B) pe_dnewT hm) fun σ H Q q => by
  have q := lift_B q
  exact neE_read (Q := fun x H' => ∃ k, x = .bl k ∧ Q k H') q⟩
/-- list(d): its keys -/
def rListA : DRF := fun xs Q => match xs with | [d] => (match asT d with | some es => Q (keyD es) | none => match d with | .lst ds => Q ds | .tup ds => Q ds | _ => False) | _ => False
theorem iskeys_dn {S H : Hp} (sb : Sb S H) : ∀ {kvs : List (List Key × V)} {bs : List Addr}, IsKeys H kvs bs → DnA K S (bs.map V.ref) (kvs.map fun e => D.tup (e.1.map kD))
  | _, _, .nil => .nil
  | _, _, .cons h t => .cons (.tup (sb.tp _ _ h) (DnA.kds _)) (iskeys_dn sb t)
theorem cd_listA (hc : X.calm = true) : CallR X (.type "list") (liftCF X.K rListA) := fun pins s σ H vs us Q I r ⟨S, ds, Q', ex, n, q, post⟩ => by
  match ds, n, q with
  | [d], n, q =>
    obtain ⟨v, rfl, n1⟩ := n.one
    unfold rListA at q
    simp only at q
    cases hT : asT d with
    | some es =>
      simp only [hT] at q
      obtain ⟨a, kvs, rfl, h1, h2, h3⟩ := asT_at n1 hT
      refine call_list_dT hc pins s σ H _ us Q I r ⟨a, kvs, rfl, ex.ex.rd h1, fun p bs hp hk => ?_⟩
      have aw := iskeys_dn (K := X.K) ex hk
      rw [keyD_of h2] at aw
      exact post _ _ _ q hp aw
    | none =>
      simp only [hT] at q
      cases d with
      | lst ds => exact cd_list pins s σ H _ us Q I r ⟨S, [.lst ds], Q', ex, n, q, post⟩
      | tup ds => exact cd_list pins s σ H _ us Q I r ⟨S, [.tup ds], Q', ex, n, q, post⟩
      | _ => exact q.elim
/-! ### {k: v}, k a tuple -/
theorem dt_newH {P : Program} {w : World} {H : Hp} {h : Heap} {a : Addr} {kvs : List (List Key × V)} {xs : List (List Key × Addr × Value)} (hl : kvs.length ≤ sizeLine) (hd : (a == sysModules) = false) (r : KT H kvs xs) (d : h.DictOfH (tupleKind (mixKind P w)) a xs) : ObjOk P w H h a (.dT kvs) := by
  obtain ⟨o, es, ep, h1, h2, h3, h4, _, h5⟩ := d
  exact ⟨hl, hd, xs, r, o, es, ep, h1, h2, h3, h4, h5⟩
theorem pe_dispTL (hu : X.A.units < cLine) {tk tv : TE} (hk : PE X k tk) (hv : PE X v tv) : PE X (.Dict [some k] [v] pos) (fun σ H Q => ∀ p, H p = none → tk σ (upd H p (.dT [])) fun y H1 => tv σ H1 fun z H2 => H2 p = some (.dT []) ∧ ∃ b ks, y = .ref b ∧ H2 b = some (.tup (ks.map kV)) ∧ ∀ od, Q (.ref p) (upd H2 p (.frz od (.dT [(ks, z)])))) := by
  refine ⟨fun pins s σ H Q I q => ?_⟩
  have hn := I.hok.fresh (Nat.le_refl s.heap.objs.size)
  have hnew : (s.heap.push { cls := .type "dict", data := .dict #[] }).DictOfH (tupleKind (mixKind X.prog X.w)) s.heap.objs.size [] := ⟨_, #[], 0, Heap.get?_push_size _ rfl, ⟨rfl, rfl, rfl⟩, rfl, rfl, fun _ h => (nomatch h), .nil⟩
  have hd : (s.heap.objs.size == sysModules) = false := beq_eq_false_iff_ne.mpr (Nat.ne_of_gt I.big)
  have I1 := I.laid (a := s.heap.objs.size) (o := .dT []) (h' := s.heap.push { cls := .type "dict", data := .dict #[] }) (t' := s.toks) (fun _ _ q => Heap.get?_push_of_some _ q) (Nat.le_refl _) (dt_newH (Nat.zero_le _) hd .nil hnew)
  rw [arm_eval_Dict, zip_pairTrees [some k] [v] X.env pos rfl rfl, dictDisplay_pairs (pairTrees [some k] [v] X.env pos) (by simp [pairTrees]) (by simp [pairTrees])]
  refine wpAny_bind (wpAny_standAt (wpAny_bind (wpAny_subDictH (knd := tupleKind (mixKind X.prog X.w)) (Q := fun d s' => wpAny (model X.prog X.w) X.A (pure (Value.ref d)) (EP X pins σ Q) X.xe s') hu (by simp [pairTrees]) ?_)))
  refine pairTrees_cons_walk (thn (hk.run pins _ σ _ _ I1 (q _ hn)) fun u s2 ⟨y, H2, I2, ry, q2⟩ => thn (hv.run pins s2 σ H2 _ I2 q2) fun r s3 ⟨z, H3, I3, rz, hp, b, ks, ey, hb, q3⟩ => pairTrees_nil_walk ?_)
  subst ey
  obtain rfl : u = Value.ref b := ry
  obtain ⟨_, _, xs, rx, dd⟩ := dt_of I3.hok hp
  cases rx
  refine ⟨[(ks, b, r)], ⟨rfl, rfl, key_of I3.hok hb, trivial⟩, dd, fun h' tk dd' hs => ?_⟩
  have he : ∃ q, h'.get? s.heap.objs.size = some q := let ⟨q, _, _, hq, _⟩ := dd'; ⟨q, hq⟩
  have nb : b ≠ s.heap.objs.size := fun e => by rw [e, hp] at hb; cases hb
  have kt : KT (upd H3 s.heap.objs.size (.dT [(ks, z)])) [(ks, z)] [(ks, b, r)] := .cons ⟨rfl, by rw [upd_ne nb]; exact hb, rz⟩ .nil
  have I4 := d_write (t' := tk) I3 (by rw [hp]; exact True.intro) hs he (dt_newH (kvs := [(ks, z)]) (by show 1 ≤ sizeLine; decide) hd kt dd')
  obtain ⟨od, I5⟩ := I4.lock (d := s.heap.objs.size) upd_same trivial
  rw [upd_upd] at I5
  exact wpAny_pure ⟨.ref s.heap.objs.size, _, I5, rfl, q3 od⟩
def dDispT1 (dk dv : dE) : dE := fun _ δ Q => dk W0 δ fun y δ1 => optQ y.keyT fun ks => dv W0 δ1 fun z δ2 => Q (.fT [(ks, z)]) δ2
theorem de_dispT1 (hu : X.A.units < cLine) (hk : DE X E k dk) (hv : DE X E v dv) : DE X E (.Dict [some k] [v] pos) (dDispT1 dk dv) := ⟨fun B => pe_mono (pe_dispTL hu (exE_ok hk) (exE_ok hv)) fun σ H Q q => by
  obtain ⟨δ, S, W, Q', R, q, xo, post⟩ := q
  intro p hp
  obtain ⟨f1, f2⟩ := R.fr.fresh hp
  have s0p : B.S0 p = none := by
    cases z : B.S0 p with
    | none => rfl
    | some u => have := R.fr.s p u z; rw [R.ex.none hp] at this; cases this
  have R1 := R.with_ (o := .dT []) hp (fun _ z => nomatch z)
  refine ⟨B.with p (.dT []), δ, S, W0, _, R1, q, xok0, fun y δ1 u S1 H1 q1 e1 R2 n1 => ?_⟩
  obtain ⟨ks, hks, q1⟩ := optQ_ex q1
  refine ⟨B.with p (.dT []), δ1, S1, W0, _, R2, q1, xok0, fun z δ2 w S2 H2 q2 e2 R3 n2 => ?_⟩
  obtain ⟨b, rfl, hb⟩ := n1.keyT hks
  have sp : S2 p = none := R3.fr.no p _ upd_same s0p
  obtain ⟨R4, h5, h6⟩ := R3.unwith f1 f2 sp
  refine ⟨h5, b, ks, rfl, R3.ex _ _ (e2 _ _ hb), fun od => ?_⟩
  have R5 := R4.new (o := .frz od (.dT [(ks, w)])) (show hide H2 p p = none from hide_same)
  rw [upd_hide2] at R5
  have e3 : Ex S2 (upd S2 p (.frz od (.dT [(ks, w)]))) := Ex.new sp
  exact post _ _ _ _ _ q2 ((e1.trans e2).trans e3) R5 (.fT (es := [(ks, z)]) upd_same rfl (.cons (n2.mono e3) .nil))⟩
/-! ### dict(l), l a list of pairs whose first is a tuple -/
theorem istup_keep {h h' : Heap} {b : Addr} {its : Array Value} (t : IsTup h b its) (k : ∀ o, h.get? b = some o → h'.get? b = some o) : IsTup h' b its := by
  obtain ⟨o, ho, r⟩ := t
  exact ⟨o, k o ho, r⟩
theorem iskey_keep {prog : Program} {w : World} {h h' : Heap} {ks : List Key} {b : Addr} (t : (tupleKind (mixKind prog w)).is h ks b) (k : ∀ o, h.get? b = some o → h'.get? b = some o) : (tupleKind (mixKind prog w)).is h' ks b := by
  obtain ⟨o, its, n, h1, h2⟩ := t
  exact ⟨o, its, n, k o h1, h2⟩
theorem dictH_keep {prog : Program} {w : World} {h h' : Heap} {S : Addr} {xs : List (List Key × Addr × Value)} (d : h.DictOfH (tupleKind (mixKind prog w)) S xs) (k : ∀ o, h.get? S = some o → h'.get? S = some o) (kk : ∀ x ∈ xs, ∀ o, h.get? x.2.1 = some o → h'.get? x.2.1 = some o) : h'.DictOfH (tupleKind (mixKind prog w)) S xs := by
  obtain ⟨o, es, ep, h1, h2, h3, h4, h5, h6⟩ := d
  exact ⟨o, es, ep, k o h1, h2, h3, h4, fun x hx => iskey_keep (h5 x hx) (kk x hx), h6⟩
theorem storedH_mem {xs : List (List Key × Addr × Value)} {k : List Key} {a : Addr} {v : Value} {x : List Key × Addr × Value} (h : x ∈ storedH xs k a v) : x.2.1 = a ∨ ∃ y ∈ xs, x.2.1 = y.2.1 := by
  unfold storedH at h
  split at h
  · obtain ⟨y, hy, rfl⟩ := List.mem_map.mp h
    refine .inr ⟨y, hy, ?_⟩
    unfold putAt
    split <;> rfl
  · rcases List.mem_append.mp h with h | h
    · exact .inr ⟨x, h, rfl⟩
    · rw [List.mem_singleton] at h; subst h; exact .inl rfl
theorem updT_loop {prog : Program} {w : World} {A : Around} {R : Result → Shared → Prop} {S I l : Addr} {items : Array Value} {res : Value} (hh : A.handled = none) (hu : A.units + 1 < cLine) (hlI : l ≠ I) (hSI : S ≠ I) (hSl : S ≠ l) :
    ∀ (rest : List (List Key × Addr × Value)) (i : Nat) (acc : List (List Key × Addr × Value)) (ix : Int) (t : Tok) (s : Shared), items.size = i + rest.length → acc.length + rest.length ≤ sizeLine →
      (∀ (j : Nat) (q : List Key × Addr × Value), rest[j]? = some q → ∃ (b : Addr), items[i + j]? = some (.ref b) ∧ b ≠ S ∧ b ≠ I ∧ q.2.1 ≠ S ∧ q.2.1 ≠ I ∧ IsTup s.heap b #[.ref q.2.1, q.2.2] ∧ (tupleKind (mixKind prog w)).is s.heap q.1 q.2.1) →
      (∀ x ∈ acc, x.2.1 ≠ S ∧ x.2.1 ≠ I) →
      s.heap.IsListIter I l i → s.heap.IsList l items → s.heap.DictOfH (tupleKind (mixKind prog w)) S acc →
      (∀ h' tk, h'.DictOfH (tupleKind (mixKind prog w)) S (storedAllH acc rest) → (∀ b o, b ≠ S → b ≠ I → s.heap.get? b = some o → h'.get? b = some o) → R (.ok (.ret res)) { s with heap := h', toks := tk }) →
      codeAny (model prog w) A (.builtin "dict.update.loop" ⟨[.ref S, .ref I, .int ix t, res], []⟩) R s
  | [], i, acc, ix, t, s, hsz, hln, ht, hacc, hit, hl, hm, hR => by
    refine codeAny_builtin ud_entry ?_
    rw [Around.under_plainId ud_plain _]
    show wpAny _ A.in1 (pyNext (.ref I) >>= _) _ _ s
    refine wpAny_bind (wpAny_pyNext_list_end (A := A.in1) hh hit hl (by first | exact Array.getElem?_eq_none (Nat.le_of_eq hsz) | (simp at hsz; simp; omega)) fun h' he => ?_)
    show wpAny _ A.in1 (Builtin.Dict.addKeywords S [] >>= _) _ _ _
    refine wpAny_bind (wpAny_pure (wpAny_pure ?_))
    exact hR h' s.toks (dictH_keep hm (fun o e => he S o hSI e) fun x hx o e => he _ o (hacc x hx).2 e) fun b o _ hb e => he b o hb e
  | q :: rest, i, acc, ix, t, s, hsz, hln, ht, hacc, hit, hl, hm, hR => by
    obtain ⟨b, hb, hbS, hbI, hqS, hqI, htup, hk⟩ := ht 0 q rfl
    rw [List.length_cons] at hsz hln
    refine codeAny_builtin ud_entry ?_
    rw [Around.under_plainId ud_plain _]
    show wpAny _ A.in1 (pyNext (.ref I) >>= _) _ _ s
    refine wpAny_bind (wpAny_pyNext_list_item (x := .ref b) hit hl (by simpa using hb) fun h1 hit1 hs1 => ?_)
    have ht1 : IsTup h1 b #[.ref q.2.1, q.2.2] := istup_keep htup fun o e => hs1.extBut b o hbI e
    have hl1 : h1.IsList l items := hl.extBut hs1.extBut hlI
    have hm1 : h1.DictOfH (tupleKind (mixKind prog w)) S acc := dictH_keep hm (fun o e => hs1.extBut S o hSI e) fun x hx o e => hs1.extBut _ o (hacc x hx).2 e
    have hk1 : (tupleKind (mixKind prog w)).is h1 q.1 q.2.1 := iskey_keep hk fun o e => hs1.extBut _ o hqI e
    obtain ⟨o, ho, hc, n, hd⟩ := id ht1
    show wpAny _ A.in1 (holding [Value.ref b] _ >>= _) _ _ _
    refine wpAny_bind (wpAny_holding ?_)
    refine wpAny_bind (wpAny_tryCatch ?_)
    unfold Builtin.Dict.pairItems
    refine wpAny_bind (wpAny_typeOf (T := "tuple") ⟨o, ho, hc⟩ ?_)
    rw [if_pos (by first | decide | rfl | simp)]
    refine wpAny_bind (wpAny_seqItems ho hd (wpAny_pure ?_))
    show wpAny _ A.in1 (holding [.ref q.2.1, q.2.2] (dictSet S (.ref q.2.1) q.2.2)) _ _ _
    refine wpAny_holding (wpAny_dictSet_heap (knd := tupleKind (mixKind prog w)) (k := q.1) (hsz := by omega) hu hk1 hm1 fun h2 hm2 hs2 => ?_)
    refine wpAny_pure ⟨plainId_quiet ud_plain _, updT_loop (items := items) hh hu hlI hSI hSl rest (i + 1) (storedH acc q.1 q.2.1 q.2.2) (ix + 1) 0 _ (show items.size = i + 1 + rest.length by omega) ?_ (fun j q' e => ?_) (fun x hx => ?_) ?_ ?_ hm2 fun h' tk hd' k => ?_⟩
    · have z := storedH_length acc q.1 q.2.1 q.2.2
      omega
    · obtain ⟨b', hb', hbS', hbI', hqS', hqI', htup', hk'⟩ := ht (j + 1) q' (by simpa using e)
      refine ⟨b', ?_, hbS', hbI', hqS', hqI', istup_keep htup' fun o e => hs2.extBut b' o hbS' (hs1.extBut b' o hbI' e), iskey_keep hk' fun o e => hs2.extBut _ o hqS' (hs1.extBut _ o hqI' e)⟩
      rw [show i + 1 + j = i + (j + 1) by omega]
      exact hb'
    · rcases storedH_mem hx with h | ⟨y, hy, h⟩
      · rw [h]; exact ⟨hqS, hqI⟩
      · rw [h]; exact hacc y hy
    · exact hit1.at fun o' e => hs2.extBut I o' (Ne.symm hSI) e
    · exact hl1.extBut hs2.extBut (Ne.symm hSl)
    · exact hR h' tk hd' fun c oc h3 h4 e => k c oc h3 h4 (hs2.extBut c oc h3 (hs1.extBut c oc h4 e))
theorem callT_dict_pairs {prog : Program} {w : World} {A : Around} {E : Value → Shared → Prop} {s : Shared} {l : Addr} {ol : Obj} {items : Array Value} {n : Nat} {prs : List (List Key × Addr × Value)} {Q : Value → Shared → Prop} (hh : A.handled = none) (hu : A.units + 2 < cLine) (hl : s.heap.get? l = some ol) (hc : ol.cls = .type "list") (hd : ol.dict = none)
    (hdat : ol.data = .seq items n) (hsz : items.size = prs.length) (hln : prs.length ≤ sizeLine)
    (ht : ∀ (j : Nat) (q : List Key × Addr × Value), prs[j]? = some q → ∃ (b : Addr), items[j]? = some (.ref b) ∧ IsTup s.heap b #[.ref q.2.1, q.2.2] ∧ (tupleKind (mixKind prog w)).is s.heap q.1 q.2.1)
    (h : ∀ h' tk, h'.DictOfH (tupleKind (mixKind prog w)) s.heap.objs.size (storedAllH [] prs) → (∀ b o, s.heap.get? b = some o → h'.get? b = some o) → Q (.ref s.heap.objs.size) { s with heap := h', toks := tk }) :
    wpAny (model prog w) A (call (.type "dict") [.ref l]) Q E s := by
  refine callType_codes (Q₁ := fun obj s₁ => obj = .ref s.heap.objs.size ∧ s₁ = { s with heap := s.heap.push { cls := .type "dict", data := .dict #[] } }) PySem.F.kt_called_dict (PySem.F.kt_typeCall_dict_1 _) PySem.F.entry_dict_init (kt_code_dict_new _ ⟨rfl, rfl⟩) ?_
  rintro obj s₁ ⟨rfl, rfl⟩
  have hnew0 : (s.heap.push { cls := .type "dict", data := .dict #[] }).DictOf (mixKind prog w) s.heap.objs.size [] := Heap.DictOf.new s.heap
  have hnew : (s.heap.push { cls := .type "dict", data := .dict #[] }).DictOfH (tupleKind (mixKind prog w)) s.heap.objs.size [] := ⟨_, #[], 0, Heap.get?_push_size _ rfl, ⟨rfl, rfl, rfl⟩, rfl, rfl, fun _ h => (nomatch h), .nil⟩
  have k0 : ∀ b o, s.heap.get? b = some o → (s.heap.push { cls := .type "dict", data := .dict #[] }).get? b = some o := fun b o e => Heap.get?_push_of_some _ e
  refine ⟨hnew0.typeIs, PySem.F.args_dict_init_2 _ _, ?_⟩
  unfold Builtin.«dict.__init__»
  refine wpAny_bind ?_
  unfold Builtin.Dict.selfAndRest
  refine wpAny_bind (wpAny_notOrdered_dict hnew0.typeIs ?_)
  show wpAny _ _ (pure (s.heap.objs.size, [Value.ref l])) _ _ _
  refine wpAny_pure ?_
  show wpAny _ _ (Builtin.Dict.updateFrom "dict.__init__" s.heap.objs.size (.ref l) [] .none) _ _ _
  unfold Builtin.Dict.updateFrom
  refine wpAny_bind (wpAny_typeOf (T := "list") ⟨ol, k0 _ _ hl, hc⟩ ?_)
  rw [if_pos (by first | decide | rfl | simp)]
  refine wpAny_bind (miss_list (k0 _ _ hl) hc hdat hd hh fun h1 tk1 hk1 => ?_)
  rw [if_pos (show (none : Option Value).isNone = true from rfl)]
  refine wpAny_bind (wpAny_rule ?_)
  have hl1 : h1.IsList l items := ⟨ol, hk1 _ _ (k0 _ _ hl), hc, n, hdat⟩
  have hS1 : s.heap.objs.size < h1.objs.size := by
    have e : (s.heap.push { cls := .type "dict", data := .dict #[] }).get? s.heap.objs.size = some { cls := .type "dict", data := .dict #[] } := Heap.get?_push_size _ rfl
    exact Heap.lt_size (hk1 _ _ e)
  refine wpAny_bind (wpAny_pyIter_list hl1 ?_)
  have k2 : ∀ b o, h1.get? b = some o → (h1.push { cls := .type "list_iterator", data := .fields #[.ref l, .int 0 0] }).get? b = some o := fun b o e => Heap.get?_push_of_some _ e
  have hlt : l < s.heap.objs.size := Heap.lt_size hl
  have key := updT_loop (prog := prog) (w := w) (A := A.in1) (R := wants (fun r s₂ => r = .none ∧ Q (.ref s.heap.objs.size) s₂) E) (S := s.heap.objs.size) (I := h1.objs.size) (l := l) (items := items) (res := Value.none) hh hu
    (Nat.ne_of_lt (Nat.lt_trans hlt hS1)) (Nat.ne_of_lt hS1) (Nat.ne_of_gt hlt) prs 0 [] 0 0
    { s with heap := h1.push { cls := .type "list_iterator", data := .fields #[.ref l, .int 0 0] }, toks := tk1 } (by rw [hsz, Nat.zero_add]) (by rw [List.length_nil, Nat.zero_add]; exact hln)
    (fun j q e => by
      obtain ⟨b, e1, e2, e3⟩ := ht j q e
      have hb : b < s.heap.objs.size := e2.lt
      have hq : q.2.1 < s.heap.objs.size := by obtain ⟨o, _, _, ho, _⟩ := e3; exact Heap.lt_size ho
      exact ⟨b, by rw [Nat.zero_add]; exact e1, Nat.ne_of_lt hb, Nat.ne_of_lt (Nat.lt_trans hb hS1), Nat.ne_of_lt hq, Nat.ne_of_lt (Nat.lt_trans hq hS1), istup_keep e2 fun o z => k2 _ _ (hk1 _ _ (k0 _ _ z)), iskey_keep e3 fun o z => k2 _ _ (hk1 _ _ (k0 _ _ z))⟩)
    (fun _ h => (nomatch h))
    ⟨_, Heap.get?_push_size _ rfl, rfl, rfl⟩ (hl1.at fun o e => k2 _ _ e) (dictH_keep hnew (fun o e => k2 _ _ (hk1 _ _ e)) fun _ h => (nomatch h))
    (fun h' tk hd' k => ⟨rfl, h h' tk hd' fun b o e => k b o (Nat.ne_of_lt (Heap.lt_size e)) (Nat.ne_of_lt (Nat.lt_trans (Heap.lt_size e) hS1)) (k2 _ _ (hk1 _ _ (k0 _ _ e)))⟩)
  first
    | exact wpAny_pure ⟨plainId_quiet ud_plain _, key⟩
    | exact wpAny_bind (wpAny_pure (wpAny_pure ⟨plainId_quiet ud_plain _, key⟩))
def mergeT (kvs more : List (List Key × V)) : List (List Key × V) := more.foldl (fun acc kv => putK acc kv.1 kv.2) kvs
theorem kt_merge {H : Hp} : ∀ {more : List (List Key × V)} {ms : List (List Key × Addr × Value)} {kvs : List (List Key × V)} {xs : List (List Key × Addr × Value)}, KT H more ms → KT H kvs xs → KT H (mergeT kvs more) (storedAllH xs ms)
  | _, _, _, _, .nil, h => h
  | p :: ps, q :: qs, kvs, xs, .cons g t, h => by
    show KT H (mergeT (putK kvs p.1 p.2) ps) (storedAllH (storedH xs q.1 q.2.1 q.2.2) qs)
    refine kt_merge t ?_
    rw [← g.1]
    exact KT.put h p.1 g.2.1 g.2.2
theorem length_mergeT : ∀ (more kvs : List (List Key × V)), (mergeT kvs more).length ≤ kvs.length + more.length
  | [], kvs => Nat.le_refl _
  | p :: r, kvs => by
    have h1 := length_mergeT r (putK kvs p.1 p.2)
    have h2 := length_putK kvs p.1 p.2
    show (mergeT (putK kvs p.1 p.2) r).length ≤ _
    rw [List.length_cons]; omega
theorem pairsT_of {pins : List (Addr × Obj)} {s : Shared} (I : Inv X pins σ H s) : ∀ {ps : List Addr} {tr : List (List Key × Addr × V)}, Paired (fun p t => SqT X.K H p [.ref t.2.1, t.2.2] ∧ H t.2.1 = some (.tup (t.1.map kV))) ps tr →
    ∃ prs : List (List Key × Addr × Value), KT H (tr.map fun t => (t.1, t.2.2)) prs ∧ prs.length = ps.length ∧ ∀ (j : Nat) (q : List Key × Addr × Value), prs[j]? = some q → ∃ (b : Addr), ps[j]? = some b ∧ IsTup s.heap b #[.ref q.2.1, q.2.2] ∧ (tupleKind (mixKind X.prog X.w)).is s.heap q.1 q.2.1
  | _, _, .nil => ⟨[], .nil, rfl, fun j q e => by simp at e⟩
  | _, _, .cons (a := p) (b := tv) h t => by
    obtain ⟨prs, r, hl, hp⟩ := pairsT_of I t
    obtain ⟨its, rv, ht, _⟩ := I.tuple h.1
    obtain ⟨u, y, ei, ru, ry⟩ := vals2 rv
    subst ei
    obtain rfl : u = Value.ref tv.2.1 := ru
    refine ⟨(tv.1, tv.2.1, y) :: prs, .cons ⟨rfl, h.2, ry⟩ r, by rw [List.length_cons, List.length_cons, hl], fun j q e => ?_⟩
    cases j with
    | zero =>
      have e' : (tv.1, tv.2.1, y) = q := Option.some.inj e
      subst e'
      exact ⟨p, rfl, ht, key_of I.hok h.2⟩
    | succ j =>
      obtain ⟨b, e1, e2⟩ := hp j q (by simpa using e)
      exact ⟨b, by simpa using e1, e2⟩
theorem call_dictPT (hcalm : X.calm = true) (hu : X.A.units + 2 < cLine) : CallR X (.type "dict") (fun xs H Q => ∃ (a : Addr) (ps : List Addr) (tr : List (List Key × Addr × V)), xs = [.ref a] ∧ SqL X.K H a (ps.map V.ref) ∧ Paired (fun p t => SqT X.K H p [.ref t.2.1, t.2.2] ∧ H t.2.1 = some (.tup (t.1.map kV))) ps tr ∧
    ∀ p, H p = none → Q (.ref p) (upd H p (.dT (mergeT [] (tr.map fun t => (t.1, t.2.2)))))) := by
  intro pins s σ H xs us Q I r q
  obtain ⟨a, ps, tr, ex, hq, hp, q⟩ := q
  subst ex
  obtain ⟨u, eu, rx⟩ := vals1 r
  subst eu
  cases rx
  obtain ⟨its, rv, pl, hz⟩ := I.list hq
  have ei := refs_at rv
  subst ei
  rw [List.length_map] at hz
  obtain ⟨prs, rel, hl, hpr⟩ := pairsT_of I hp
  obtain ⟨o, n, ho, hc, hd, hdat⟩ := pl
  refine callT_dict_pairs (prs := prs) (I.ok.hd hcalm) hu ho hc hd hdat (by simp [hl]) (by rw [hl]; exact hz) (fun j q' e => ?_) fun h' tk hd' k => ?_
  · obtain ⟨b, e1, e2⟩ := hpr j q' e
    exact ⟨b, by simp [e1], e2⟩
  · have hm : (s.heap.objs.size == sysModules) = false := beq_eq_false_iff_ne.mpr (Nat.ne_of_gt I.big)
    have hf := I.hok.fresh (Nat.le_refl s.heap.objs.size)
    have hlen : (mergeT [] (tr.map fun t => (t.1, t.2.2))).length ≤ sizeLine := by
      refine Nat.le_trans (length_mergeT _ []) ?_
      rw [List.length_nil, Nat.zero_add, Paired.length rel, hl]
      exact hz
    have kt : KT (upd H s.heap.objs.size (.dT (mergeT [] (tr.map fun t => (t.1, t.2.2))))) (mergeT [] (tr.map fun t => (t.1, t.2.2))) (storedAllH [] prs) := (kt_merge rel .nil).keeps fun b ys hb => by
      rw [upd_ne (ne_of_none hb hf)]; exact hb
    exact ⟨.ref s.heap.objs.size, upd H s.heap.objs.size (.dT _), I.laid (t' := tk) k (Nat.le_refl _) (dt_newH hlen hm kt hd'), rfl, q _ hf⟩
def mergeDT (kvs more : List (List Key × D)) : List (List Key × D) := more.foldl (fun acc kv => putD acc kv.1 kv.2) kvs
def pairsOfT : List D → Option (List (List Key × D))
  | [] => some []
  | .tup [k, v] :: r => match k.keyT, pairsOfT r with | some kk, some l => some ((kk, v) :: l) | _, _ => none
  | _ :: _ => none
theorem KvR.mergeT : ∀ {more : List (List Key × V)} {ms : List (List Key × D)} {kvs : List (List Key × V)} {es : List (List Key × D)}, KvR K S more ms → KvR K S kvs es → KvR K S (Ev.mergeT kvs more) (mergeDT es ms)
  | [], [], _, _, _, h => h
  | p :: ps, q :: qs, kvs, es, ⟨g1, g2⟩, h => by
    have e1 : p.1 = q.1 := (List.cons.inj g1).1
    cases g2 with
    | cons d1 d2 =>
      have hp : KvR K S (putK kvs p.1 p.2) (putD es q.1 q.2) := by rw [e1]; exact h.put d1 q.1
      exact KvR.mergeT (more := ps) (ms := qs) ⟨(List.cons.inj g1).2, d2⟩ hp
  | [], q :: qs, _, _, ⟨g1, _⟩, _ => nomatch g1
  | p :: ps, [], _, _, ⟨g1, _⟩, _ => nomatch g1
theorem pairsT_read (sb : Sb S H) : ∀ {vs : List V} {ds : List D} {kvs : List (List Key × D)}, DnA K S vs ds → pairsOfT ds = some kvs → ∃ (ps : List Addr) (tr : List (List Key × Addr × V)), vs = ps.map V.ref ∧ Paired (fun p t => SqT K H p [.ref t.2.1, t.2.2] ∧ H t.2.1 = some (.tup (t.1.map kV))) ps tr ∧ KvR K S (tr.map fun t => (t.1, t.2.2)) kvs
  | _, _, _, .nil, e => by cases e; exact ⟨[], [], rfl, .nil, rfl, .nil⟩
  | _, _, _, .cons (d := .tup [k, x]) (ds := r) h a, e => by
    unfold pairsOfT at e
    split at e
    · rename_i kk l e1 e2
      cases e
      obtain ⟨ps, tr, rfl, hp, hk⟩ := pairsT_read sb a e2
      cases h with
      | tup h1 h2 =>
        obtain ⟨v1, v2, rfl, n1, n2⟩ := h2.two
        obtain ⟨b, rfl, hb⟩ := n1.keyT e1
        exact ⟨_ :: ps, (kk, b, v2) :: tr, rfl, .cons ⟨.inl (.inl (sb.ex _ _ h1)), sb.ex _ _ hb⟩ hp, congrArg (kk :: ·) hk.1, .cons n2 hk.2⟩
    · cases e
  | _, _, _, .cons (d := .tup []) _ _, e => nomatch e
  | _, _, _, .cons (d := .tup [_]) _ _, e => nomatch e
  | _, _, _, .cons (d := .tup (_ :: _ :: _ :: _)) _ _, e => nomatch e
  | _, _, _, .cons (d := .non) _ _, e => nomatch e
  | _, _, _, .cons (d := .bl _) _ _, e => nomatch e
  | _, _, _, .cons (d := .int _) _ _, e => nomatch e
  | _, _, _, .cons (d := .str _) _ _, e => nomatch e
  | _, _, _, .cons (d := .lst _) _ _, e => nomatch e
  | _, _, _, .cons (d := .dK _) _ _, e => nomatch e
  | _, _, _, .cons (d := .dT _) _ _, e => nomatch e
  | _, _, _, .cons (d := .fK _) _ _, e => nomatch e
  | _, _, _, .cons (d := .fT _) _ _, e => nomatch e
  | _, _, _, .cons (d := .raw _) _ _, e => nomatch e
  | _, _, _, .cons (d := .scr _) _ _, e => nomatch e
  | _, _, _, .cons (d := .fn _ _) _ _, e => nomatch e
  | _, _, _, .cons (d := .kt _) _ _, e => nomatch e
def rDictPT : DRC := fun xs Q => match xs with
  | [.lst ds] => optQ (pairsOfT ds) fun kvs => Q (.dT (mergeDT [] kvs))
  | _ => False
theorem cd_dictPT (hc : X.calm = true) (hu : X.A.units + 2 < cLine) : CallR X (.type "dict") (liftC X.K rDictPT) := fun pins s σ H vs us Q I r ⟨S, ds, Q', ex, n, q, post⟩ => by
  match ds, n, q with
  | [.lst ds], n, q =>
    obtain ⟨v, rfl, n1⟩ := n.one
    cases n1 with
    | lst h a =>
      obtain ⟨kvs, hk, q⟩ := optQ_ex q
      obtain ⟨ps, tr, rfl, hp, hr⟩ := pairsT_read ex a hk
      refine call_dictPT hc hu pins s σ H _ us Q I r ⟨_, ps, tr, rfl, SqL.of (ex _ _ h), hp, fun p hn => ?_⟩
      have g := Grow.new (o := .dT (mergeT [] (tr.map fun t => (t.1, t.2.2)))) ex hn
      have m := KvR.mergeT hr (kvs := []) (es := []) ⟨rfl, .nil⟩
      exact post _ _ _ _ q g (.dT upd_same m.1 (m.2.mono g.s))
end
end Ev

/-! # list(zip(a, b)) of two lists -/
namespace Ev
open PySem PySem.Spec PyProof.Rows L2
section
theorem zip_no_len : typeLookup (.type "zip") "__len__" = pure none := by rw [typeLookup_type, builtinLookup_eq_fast]; kernel_rfl
theorem zip_no_hint : typeLookup (.type "zip") "__length_hint__" = pure none := by rw [typeLookup_type, builtinLookup_eq_fast]; kernel_rfl
/-- the pairs that were drawn -/
def ZAcc (h : Heap) (xs ys : Array Value) (lo : Nat) (acc : Array Value) (i : Nat) : Prop :=
  ∃ as : List Addr, acc.toList = as.map Value.ref ∧ as.length = i ∧ as.Pairwise (fun a b : Nat => a < b) ∧ ∀ (j : Nat) (T : Addr), as[j]? = some T → lo ≤ T ∧ ∃ x y, xs[j]? = some x ∧ ys[j]? = some y ∧ IsPair h T x y
theorem ZAcc.size {h : Heap} {xs ys : Array Value} {lo : Nat} {acc : Array Value} {i : Nat} (z : ZAcc h xs ys lo acc i) : acc.size = i := by
  obtain ⟨as, e1, e2, _⟩ := z
  rw [← Array.length_toList, e1, List.length_map, e2]
theorem ZAcc.keep {h h' : Heap} {xs ys : Array Value} {lo : Nat} {acc : Array Value} {i : Nat} (z : ZAcc h xs ys lo acc i) (k : ∀ b o, lo ≤ b → h.get? b = some o → h'.get? b = some o) : ZAcc h' xs ys lo acc i := by
  obtain ⟨as, e1, e2, e3, e4⟩ := z
  refine ⟨as, e1, e2, e3, fun j T e => ?_⟩
  obtain ⟨l, x, y, f1, f2, f3⟩ := e4 j T e
  exact ⟨l, x, y, f1, f2, k _ _ l f3⟩
theorem ZAcc.push {h h' : Heap} {xs ys : Array Value} {lo : Nat} {acc : Array Value} {i : Nat} {x y : Value} (z : ZAcc h xs ys lo acc i) (k : ∀ b o, lo ≤ b → h.get? b = some o → h'.get? b = some o) (hx : xs[i]? = some x) (hy : ys[i]? = some y)
    (hT : IsPair h' h.objs.size x y) (hl : lo ≤ h.objs.size) : ZAcc h' xs ys lo (acc.push (.ref h.objs.size)) (i + 1) := by
  obtain ⟨as, e1, e2, e3, e4⟩ := z
  refine ⟨as ++ [h.objs.size], by rw [Array.toList_push, e1, List.map_append]; rfl, by rw [List.length_append, e2]; rfl, ?_, fun j T e => ?_⟩
  · rw [List.pairwise_append]
    refine ⟨e3, List.pairwise_singleton _ _, fun a ha b hb => ?_⟩
    obtain rfl := List.mem_singleton.mp hb
    obtain ⟨j, hj, ej⟩ := List.getElem_of_mem ha
    obtain ⟨_, x, y, _, _, f3⟩ := e4 j a (by rw [List.getElem?_eq_getElem hj, ej])
    exact Heap.lt_size f3
  · by_cases hj : j < as.length
    · rw [List.getElem?_append_left hj] at e
      obtain ⟨l, x, y, f1, f2, f3⟩ := e4 j T e
      exact ⟨l, x, y, f1, f2, k _ _ l f3⟩
    · rw [List.getElem?_append_right (by omega)] at e
      have hz : j - as.length = 0 := by
        have := (List.getElem?_eq_some_iff.mp e).1
        simp only [List.length_singleton] at this
        omega
      rw [hz] at e
      obtain rfl : h.objs.size = T := Option.some.inj e
      obtain rfl : j = i := by omega
      exact ⟨hl, x, y, hx, hy, hT⟩
variable {prog : Program} {w : World} {A : Around} {R : Result → Shared → Prop} {z TI TO i1 i2 l1 l2 S lo n : Nat} {xs ys : Array Value}
structure ZFar (z TI TO i1 i2 l1 l2 S lo : Nat) : Prop where
  D : ZipApart z TI TO i1 i2 l1 l2
  zl : z < lo
  tl : TO < lo
  al : i1 < lo
  bl : i2 < lo
  sl : S < lo
  sz : S ≠ z
  sT : S ≠ TI
  sO : S ≠ TO
  sa : S ≠ i1
  sb : S ≠ i2
  sl1 : S ≠ l1
  sl2 : S ≠ l2
theorem zip_loop_held (hh : A.in1.handled = none) (F : ZFar z TI TO i1 i2 l1 l2 S lo) (hn : n ≤ sizeLine) (hxs : xs.size = n) (hys : ys.size = n) (res : Value) :
    ∀ (k i : Nat) (s : Shared) (acc : Array Value) (c T : Nat) (f : Bool) (oT : Obj), n - i = k → i ≤ n → IsZipHeld s.heap z TI TO T f → s.heap.get? T = some oT → lo ≤ T → IsPair s.heap TI (.ref i1) (.ref i2) →
    s.heap.IsListIter i1 l1 i → s.heap.IsListIter i2 l2 i → s.heap.IsList l1 xs → s.heap.IsList l2 ys →
    s.heap.get? S = some { cls := .type "list", dict := none, data := .seq acc c, slots := #[] } → ZAcc s.heap xs ys lo acc i → lo ≤ s.heap.objs.size →
    (∀ h' acc' c', (∀ b o, b ≠ S → b ≠ z → b ≠ TO → b ≠ i1 → b ≠ i2 → s.heap.get? b = some o → h'.get? b = some o) → h'.get? S = some { cls := .type "list", dict := none, data := .seq acc' c', slots := #[] } → ZAcc h' xs ys lo acc' n → R (.ok (.ret res)) { s with heap := h' }) →
    codeAny (model prog w) A (.builtin "list.extend.loop" ⟨[.ref S, .ref z, res], []⟩) R s := by
  intro k
  induction k with
  | zero =>
    intro i s acc c T f oT hk hi hz hT hTS hTI h1 h2 q1 q2 hS hacc hlo hR
    have hin : i = n := by omega
    subst hin
    refine codeAny_builtin PySem.F.entry_extend_loop ?_
    rw [Around.under_plainId PySem.F.plain_extend_loop _]
    show wpAny _ A.in1 (pyNext (.ref z) >>= _) _ _ s
    refine wpAny_bind (wpAny_pyNext_zip_end_held hh F.D hz hT hTI h1 h2 q1 q2 (.inl (by simp only [Array.getElem?_eq_none_iff]; omega)) fun h' hk' => ?_)
    refine wpAny_pure (hR h' acc c (fun b o b1 b2 b3 b4 b5 e => hk' b o b2 b4 b5 e) (hk' _ _ F.sz F.sa F.sb hS) (hacc.keep fun b o hb e => hk' b o ?_ ?_ ?_ e))
    · exact Nat.ne_of_gt (Nat.lt_of_lt_of_le F.zl hb)
    · exact Nat.ne_of_gt (Nat.lt_of_lt_of_le F.al hb)
    · exact Nat.ne_of_gt (Nat.lt_of_lt_of_le F.bl hb)
  | succ k ih =>
    intro i s acc c T f oT hk hi hz hT hTS hTI h1 h2 q1 q2 hS hacc hlo hR
    have hlt : i < n := by omega
    refine codeAny_builtin PySem.F.entry_extend_loop ?_
    rw [Around.under_plainId PySem.F.plain_extend_loop _]
    show wpAny _ A.in1 (pyNext (.ref z) >>= _) _ _ s
    have hx : xs[i]? = some (xs[i]'(by omega)) := Array.getElem?_eq_getElem _
    have hy : ys[i]? = some (ys[i]'(by omega)) := Array.getElem?_eq_getElem _
    refine wpAny_bind (wpAny_pyNext_zip_item_held F.D hz hT hTI h1 h2 q1 q2 hx hy fun h' hz' h1' h2' hp hsz hk' => ?_)
    have hS' := hk' _ _ F.sz F.sa F.sb hS
    show wpAny _ A.in1 (updateSeq S (·.push _) >>= _) _ _ _
    refine wpAny_bind ?_
    have oth : ∀ b o, b ≠ S → h'.get? b = some o → (h'.update S (Obj.mapSeq (·.push (.ref s.heap.objs.size)))).get? b = some o := fun b o hb e => (Heap.get?_update_other _ _ (Ne.symm hb)).trans e
    have hlz : ∀ b, lo ≤ b → b ≠ z ∧ b ≠ i1 ∧ b ≠ i2 ∧ b ≠ S := fun b hb => by
      have := F.zl; have := F.al; have := F.bl; have := F.sl
      exact ⟨by omega, by omega, by omega, by omega⟩
    have nS : s.heap.objs.size ≠ S := fun q => by have := F.sl; omega
    refine wpAny_updateSeq hS' rfl (wpAny_pure ⟨plainId_quiet PySem.F.plain_extend_loop _, ih (i + 1) _ (acc.push (.ref s.heap.objs.size)) _ T true oT (by omega) hlt ?_ (oth _ _ (hlz T hTS).2.2.2 (hk' _ _ (hlz T hTS).1 (hlz T hTS).2.1 (hlz T hTS).2.2.1 hT)) hTS ?_ ?_ ?_ ?_ ?_ (Heap.get?_update_self _ hS' rfl) ?_ ?_ fun h'' acc' c' hm'' hS'' hacc' => ?_⟩)
      (by rw [hacc.size]; omega) (by show (acc.push _).size ≤ sizeLine + 1; rw [Array.size_push, hacc.size]; omega)
    · exact oth _ _ F.sz.symm hz'
    · exact oth _ _ F.sT.symm (hk' _ _ F.D.TIz F.D.TIi1 F.D.TIi2 hTI)
    · exact h1'.at fun o e => oth _ _ F.sa.symm e
    · exact h2'.at fun o e => oth _ _ F.sb.symm e
    · obtain ⟨o, e, r⟩ := q1
      exact ⟨o, oth _ _ F.sl1.symm (hk' _ _ F.D.l1z F.D.l1i1 F.D.l1i2 e), r⟩
    · obtain ⟨o, e, r⟩ := q2
      exact ⟨o, oth _ _ F.sl2.symm (hk' _ _ F.D.l2z F.D.l2i1 F.D.l2i2 e), r⟩
    · exact hacc.push (fun b o hb e => oth b o (hlz b hb).2.2.2 (hk' b o (hlz b hb).1 (hlz b hb).2.1 (hlz b hb).2.2.1 e)) hx hy (oth _ _ nS hp) hlo
    · rw [show (h'.update S _).objs.size = h'.objs.size from (Heap.SameBut.update ..).1, hsz]; omega
    · exact hR h'' acc' c' (fun b o b1 b2 b3 b4 b5 e => hm'' b o b1 b2 b3 b4 b5 (oth b o b1 (hk' b o b2 b4 b5 e))) hS'' hacc'
/-- the state in which a fresh zip is walked into S -/
structure ZNew (h : Heap) (z TI TO i1 i2 l1 l2 S : Nat) (xs ys : Array Value) (c : Nat) : Prop where
  hz : IsZip h z TI TO .none
  hTI : IsPair h TI (.ref i1) (.ref i2)
  hTO : ∃ a b, IsPair h TO a b
  h1 : h.IsListIter i1 l1 0
  h2 : h.IsListIter i2 l2 0
  q1 : h.IsList l1 xs
  q2 : h.IsList l2 ys
  hS : h.get? S = some { cls := .type "list", dict := none, data := .seq #[] c, slots := #[] }
theorem ZNew.at {h h' : Heap} {c c' : Nat} (q : ZNew h z TI TO i1 i2 l1 l2 S xs ys c) (F : ZFar z TI TO i1 i2 l1 l2 S lo) (k : ∀ b o, b ≠ S → h.get? b = some o → h'.get? b = some o)
    (hS : h'.get? S = some { cls := .type "list", dict := none, data := .seq #[] c', slots := #[] }) : ZNew h' z TI TO i1 i2 l1 l2 S xs ys c' := by
  obtain ⟨a, b, e⟩ := q.hTO
  exact ⟨k _ _ F.sz.symm q.hz, k _ _ F.sT.symm q.hTI, ⟨a, b, k _ _ F.sO.symm e⟩, q.h1.at fun o e => k _ _ F.sa.symm e, q.h2.at fun o e => k _ _ F.sb.symm e,
    (by obtain ⟨o, e, r⟩ := q.q1; exact ⟨o, k _ _ F.sl1.symm e, r⟩), (by obtain ⟨o, e, r⟩ := q.q2; exact ⟨o, k _ _ F.sl2.symm e, r⟩), hS⟩
theorem zip_loop (hh : A.in1.handled = none) (F : ZFar z TI TO i1 i2 l1 l2 S lo) (hn : n ≤ sizeLine) (hxs : xs.size = n) (hys : ys.size = n) (res : Value) (s : Shared) (c : Nat) (Z : ZNew s.heap z TI TO i1 i2 l1 l2 S xs ys c) (hlo : lo ≤ s.heap.objs.size)
    (hR : ∀ h' acc' c', (∀ b o, b ≠ S → b ≠ z → b ≠ TO → b ≠ i1 → b ≠ i2 → s.heap.get? b = some o → h'.get? b = some o) → h'.get? S = some { cls := .type "list", dict := none, data := .seq acc' c', slots := #[] } → ZAcc h' xs ys lo acc' n → R (.ok (.ret res)) { s with heap := h' }) :
    codeAny (model prog w) A (.builtin "list.extend.loop" ⟨[.ref S, .ref z, res], []⟩) R s := by
  obtain ⟨hz, hTI, ⟨a, b, hTO⟩, h1, h2, q1, q2, hS⟩ := Z
  refine codeAny_builtin PySem.F.entry_extend_loop ?_
  rw [Around.under_plainId PySem.F.plain_extend_loop _]
  show wpAny _ A.in1 (pyNext (.ref z) >>= _) _ _ s
  by_cases h0 : n = 0
  · subst h0
    refine wpAny_bind (wpAny_pyNext_zip_end hh F.D hz hTI hTO h1 h2 q1 q2 (.inl (by simp only [Array.getElem?_eq_none_iff]; omega)) fun h' hk' => ?_)
    exact wpAny_pure (hR h' #[] c (fun b o b1 b2 b3 b4 b5 e => hk' b o b2 b3 b4 b5 e) (hk' _ _ F.sz F.sO F.sa F.sb hS) ⟨[], rfl, rfl, .nil, fun j T e => nomatch e⟩)
  · have hlt : 0 < n := by omega
    have hx : xs[0]? = some (xs[0]'(by omega)) := Array.getElem?_eq_getElem _
    have hy : ys[0]? = some (ys[0]'(by omega)) := Array.getElem?_eq_getElem _
    refine wpAny_bind (wpAny_pyNext_zip_item F.D hz hTI hTO h1 h2 q1 q2 hx hy fun h' hz' hTO' h1' h2' hp hsz hk' => ?_)
    have hS' := hk' _ _ F.sz F.sO F.sa F.sb hS
    show wpAny _ A.in1 (updateSeq S (·.push _) >>= _) _ _ _
    refine wpAny_bind ?_
    have oth : ∀ b o, b ≠ S → h'.get? b = some o → (h'.update S (Obj.mapSeq (·.push (.ref s.heap.objs.size)))).get? b = some o := fun b o hb e => (Heap.get?_update_other _ _ (Ne.symm hb)).trans e
    have nS : s.heap.objs.size ≠ S := fun q => by have := F.sl; omega
    have hlz : ∀ b, lo ≤ b → b ≠ z ∧ b ≠ i1 ∧ b ≠ i2 ∧ b ≠ S ∧ b ≠ TO := fun b hb => by
      have := F.zl; have := F.al; have := F.bl; have := F.sl; have := F.tl
      exact ⟨by omega, by omega, by omega, by omega, by omega⟩
    refine wpAny_updateSeq hS' rfl (wpAny_pure ⟨plainId_quiet PySem.F.plain_extend_loop _, zip_loop_held hh F hn hxs hys res (n - 1) 1 _ #[.ref s.heap.objs.size] _ s.heap.objs.size false _ rfl hlt ?_ (oth _ _ nS hp) hlo ?_ ?_ ?_ ?_ ?_ (Heap.get?_update_self _ hS' rfl) ?_ ?_ fun h'' acc' c' hm'' hS'' hacc' => ?_⟩)
    · exact oth _ _ F.sz.symm hz'
    · exact oth _ _ F.sT.symm (hk' _ _ F.D.TIz F.D.TITO F.D.TIi1 F.D.TIi2 hTI)
    · exact h1'.at fun o e => oth _ _ F.sa.symm e
    · exact h2'.at fun o e => oth _ _ F.sb.symm e
    · obtain ⟨o, e, r⟩ := q1
      exact ⟨o, oth _ _ F.sl1.symm (hk' _ _ F.D.l1z F.D.l1TO F.D.l1i1 F.D.l1i2 e), r⟩
    · obtain ⟨o, e, r⟩ := q2
      exact ⟨o, oth _ _ F.sl2.symm (hk' _ _ F.D.l2z F.D.l2TO F.D.l2i1 F.D.l2i2 e), r⟩
    · exact ZAcc.push (h := s.heap) (acc := #[]) (i := 0) ⟨[], rfl, rfl, .nil, fun j T e => nomatch e⟩ (fun b o hb e => oth b o (hlz b hb).2.2.2.1 (hk' b o (hlz b hb).1 (hlz b hb).2.2.2.2 (hlz b hb).2.1 (hlz b hb).2.2.1 e)) hx hy (oth _ _ nS hp) hlo
    · rw [show (h'.update S _).objs.size = h'.objs.size from (Heap.SameBut.update ..).1, hsz]; omega
    · exact hR h'' acc' c' (fun b o b1 b2 b3 b4 b5 e => hm'' b o b1 b2 b3 b4 b5 (oth b o b1 (hk' b o b2 b3 b4 b5 e))) hS'' hacc'
theorem zip_extend (hh : A.in1.handled = none) (F : ZFar z TI TO i1 i2 l1 l2 S lo) (hn : n ≤ sizeLine) (hxs : xs.size = n) (hys : ys.size = n) (res : Value) (s : Shared) (c : Nat) (Z : ZNew s.heap z TI TO i1 i2 l1 l2 S xs ys c) (hlo : lo ≤ s.heap.objs.size)
    (hR : ∀ h' acc' c', (∀ b o, b ≠ S → b ≠ z → b ≠ TO → b ≠ i1 → b ≠ i2 → s.heap.get? b = some o → h'.get? b = some o) → h'.get? S = some { cls := .type "list", dict := none, data := .seq acc' c', slots := #[] } → ZAcc h' xs ys lo acc' n → R (.ok (.ret res)) { s with heap := h' }) :
    wpAny (model prog w) A.in1 (Builtin.List.listExtendWith (.ref S) (.ref z) res)
      (fun fin s' => match fin with | .done f => R (.ok f) s' | .again c' => c'.quiet = true ∧ codeAny (model prog w) A c' R s') (fun e s' => R (.error e) s') s := by
  have hT : s.TypeIs (.ref z) "zip" := ⟨_, Z.hz, rfl⟩
  unfold Builtin.List.listExtendWith
  refine wpAny_bind (wpAny_typeOf hT ?_)
  have h1 : Builtin.List.listSameRef (.ref S) (.ref z) = false := by simp [Builtin.List.listSameRef, F.sz]
  have h2 : (Value.type "zip" == Value.type "list") = false := by decide
  have h3 : (Value.type "zip" == Value.type "tuple") = false := by decide
  simp only [h1, h2, h3, Bool.or_false, Bool.false_eq_true, if_false]
  refine wpAny_bind (wpAny_pyIter_zip Z.hz ?_)
  refine wpAny_bind (wpAny_holding ?_)
  unfold Builtin.List.listLengthHint
  refine wpAny_bind (wpAny_specialOf hT zip_no_len ?_)
  show wpAny _ A.in1 (specialOf (Value.ref z) (Str.ofString "__length_hint__") >>= _) _ _ _
  refine wpAny_bind (wpAny_specialOf hT zip_no_hint ?_)
  refine wpAny_pure ?_
  show wpAny _ A.in1 (rule "list.extend.makes-room" >>= fun _ => Builtin.List.listTouch (.ref S) >>= fun _ =>
    again (.builtin "list.extend.loop" ⟨[.ref S, .ref z, res], []⟩)) _ _ _
  refine wpAny_bind (wpAny_rule ?_)
  refine wpAny_bind ?_
  show wpAny _ A.in1 (updateSeq S (·.push .none) >>= fun _ => updateSeq S (·.pop)) _ _ _
  refine wpAny_bind (wpAny_updateSeq Z.hS rfl ?_)
  have hS₂ := Heap.get?_update_self (Obj.mapSeq (·.push Value.none)) Z.hS rfl
  refine wpAny_updateSeq (hz := by seq_fits) hS₂ rfl ?_
  have hS₃ := Heap.get?_update_self (Obj.mapSeq (·.pop)) hS₂ rfl
  have oth : ∀ b o, b ≠ S → s.heap.get? b = some o → ((s.heap.update S (Obj.mapSeq (·.push Value.none))).update S (Obj.mapSeq (·.pop))).get? b = some o :=
    fun b o hb e => (Heap.get?_update_other _ _ (Ne.symm hb)).trans ((Heap.get?_update_other _ _ (Ne.symm hb)).trans e)
  have sz : ((s.heap.update S (Obj.mapSeq (·.push Value.none))).update S (Obj.mapSeq (·.pop))).objs.size = s.heap.objs.size := by
    rw [(Heap.SameBut.update ..).1, (Heap.SameBut.update ..).1]
  exact wpAny_pure ⟨plainId_quiet PySem.F.plain_extend_loop _, zip_loop hh F hn hxs hys res _ _ (Z.at F oth hS₃) (by rw [sz]; exact hlo) fun h' acc' c' hm hS' ha =>
    hR h' acc' c' (fun b o b1 b2 b3 b4 b5 e => hm b o b1 b2 b3 b4 b5 (oth b o b1 e)) hS' ha⟩
theorem zip_init (hh : A.in1.handled = none) (F : ZFar z TI TO i1 i2 l1 l2 S lo) (hn : n ≤ sizeLine) (hxs : xs.size = n) (hys : ys.size = n) (s : Shared) (Z : ZNew s.heap z TI TO i1 i2 l1 l2 S xs ys 0) (hlo : lo ≤ s.heap.objs.size)
    (hR : ∀ h' acc' c', (∀ b o, b ≠ S → b ≠ z → b ≠ TO → b ≠ i1 → b ≠ i2 → s.heap.get? b = some o → h'.get? b = some o) → h'.get? S = some { cls := .type "list", dict := none, data := .seq acc' c', slots := #[] } → ZAcc h' xs ys lo acc' n → R (.ok (.ret .none)) { s with heap := h' }) :
    wpAny (model prog w) A.in1 (Builtin.«list.__init__» ⟨[.ref S, .ref z], []⟩)
      (fun fin s' => match fin with | .done f => R (.ok f) s' | .again c' => c'.quiet = true ∧ codeAny (model prog w) A c' R s') (fun e s' => R (.error e) s') s := by
  show wpAny _ A.in1 (do let old ← Builtin.List.listItems (.ref S); Builtin.List.listUpdate (.ref S) (fun _ => #[]); letGo old.toList.reverse; Builtin.List.listExtendWith (.ref S) (.ref z) .none) _ _ s
  refine wpAny_bind ?_
  unfold Builtin.List.listItems
  refine wpAny_bind (wpAny_seqItems Z.hS rfl (wpAny_pure ?_))
  show wpAny _ A.in1 (updateSeq S (fun _ => #[]) >>= fun _ => letGo (#[] : Array Value).toList.reverse >>= fun _ => Builtin.List.listExtendWith (.ref S) (.ref z) .none) _ _ s
  refine wpAny_bind (wpAny_updateSeq Z.hS rfl ?_)
  have hS₂ := Heap.get?_update_self (Obj.mapSeq (fun _ => (#[] : Array Value))) Z.hS rfl
  have oth : ∀ b o, b ≠ S → s.heap.get? b = some o → (s.heap.update S (Obj.mapSeq (fun _ => (#[] : Array Value)))).get? b = some o :=
    fun b o hb e => (Heap.get?_update_other _ _ (Ne.symm hb)).trans e
  refine wpAny_bind (wpAny_letGo ?_)
  refine zip_extend hh F hn hxs hys .none _ _ (Z.at F oth hS₂) (by rw [show (s.heap.update S _).objs.size = s.heap.objs.size from (Heap.SameBut.update ..).1]; exact hlo) fun h' acc' c' hm hS' ha => ?_
  exact hR h' acc' c' (fun b o b1 b2 b3 b4 b5 e => hm b o b1 b2 b3 b4 b5 (oth b o b1 e)) hS' ha
theorem call_list_zip {E Q : Value → Shared → Prop} {s : Shared} {l1 l2 : Addr} {z0 z1 z2 z3 z4 : Nat} (hh : A.in1.in1.handled = none) (D : ZipApart z4 z2 z3 z0 z1 l1 l2) (hb : z4 < s.heap.objs.size ∧ z3 < s.heap.objs.size ∧ z2 < s.heap.objs.size ∧ z1 < s.heap.objs.size ∧ z0 < s.heap.objs.size ∧ l1 < s.heap.objs.size ∧ l2 < s.heap.objs.size)
    (hz : IsZip s.heap z4 z2 z3 .none) (hTI : IsPair s.heap z2 (.ref z0) (.ref z1)) (hTO : IsPair s.heap z3 .none .none) (h1 : s.heap.IsListIter z0 l1 0) (h2 : s.heap.IsListIter z1 l2 0) (q1 : s.heap.IsList l1 xs) (q2 : s.heap.IsList l2 ys)
    (hn : n ≤ sizeLine) (hxs : xs.size = n) (hys : ys.size = n)
    (hQ : ∀ h' acc c, (∀ b o, b ≠ z4 → b ≠ z3 → b ≠ z0 → b ≠ z1 → s.heap.get? b = some o → h'.get? b = some o) → h'.get? s.heap.objs.size = some { cls := .type "list", dict := none, data := .seq acc c, slots := #[] } → ZAcc h' xs ys (s.heap.objs.size + 1) acc n → Q (.ref s.heap.objs.size) { s with heap := h' }) :
    wpAny (model prog w) A (call (.type "list") [.ref z4]) Q E s := by
  obtain ⟨b4, b3, b2, b1, b0, c1, c2⟩ := hb
  refine callType_codes (Q₁ := fun obj s₁ => obj = .ref s.heap.objs.size ∧ s₁ = { s with heap := s.heap.push { cls := .type "list", data := .seq #[] } }) PySem.F.called_list (PySem.F.typeCall_list_1 _) PySem.F.entry_list_init
    (code_list_new _ ⟨rfl, rfl⟩) fun obj s₁ h₁ => ?_
  obtain ⟨rfl, rfl⟩ := h₁
  have hS : (s.heap.push { cls := .type "list", data := .seq #[] }).get? s.heap.objs.size = some { cls := .type "list", data := .seq #[] } := Heap.get?_push_size _ rfl
  have F : ZFar z4 z2 z3 z0 z1 l1 l2 s.heap.objs.size (s.heap.objs.size + 1) := ⟨D, by omega, by omega, by omega, by omega, by omega, by omega, by omega, by omega, by omega, by omega, Nat.ne_of_gt c1, Nat.ne_of_gt c2⟩
  have kp : ∀ b o, s.heap.get? b = some o → (s.heap.push { cls := .type "list", data := .seq #[] }).get? b = some o := fun b o e => Heap.get?_push_of_some _ e
  have Z : ZNew (s.heap.push { cls := .type "list", data := .seq #[] }) z4 z2 z3 z0 z1 l1 l2 s.heap.objs.size xs ys 0 :=
    ⟨kp _ _ hz, kp _ _ hTI, ⟨_, _, kp _ _ hTO⟩, h1.at fun o e => kp _ _ e, h2.at fun o e => kp _ _ e, (by obtain ⟨o, e, r⟩ := q1; exact ⟨o, kp _ _ e, r⟩), (by obtain ⟨o, e, r⟩ := q2; exact ⟨o, kp _ _ e, r⟩), hS⟩
  refine ⟨⟨_, hS, rfl⟩, PySem.F.args_list_init_2 _ _, zip_init (A := A.in1) hh F hn hxs hys _ Z (by rw [Heap.size_push]; exact Nat.le_refl _) fun h' acc' c' hm hS' ha => ?_⟩
  exact ⟨rfl, hQ h' acc' c' (fun b o d1 d2 d3 d4 e => hm b o (Nat.ne_of_lt (Heap.lt_size e)) d1 d2 d3 d4 (kp b o e)) hS' ha⟩
end
/-! ### tracked -/
def putZ : Hp → List Addr → List (V × V) → Hp
  | H, a :: as, p :: kvs => putZ (upd H a (.tup [p.1, p.2])) as kvs
  | H, _, _ => H
theorem putZ_off {b : Addr} : ∀ (as : List Addr) (kvs : List (V × V)) (H : Hp), b ∉ as → putZ H as kvs b = H b
  | [], _, _, _ => rfl
  | _ :: _, [], _, _ => rfl
  | a :: as, p :: kvs, H, h => by
    show putZ (upd H a (.tup [p.1, p.2])) as kvs b = H b
    rw [putZ_off as kvs _ (fun z => h (List.mem_cons_of_mem _ z)), upd_ne (fun z => h (by rw [z]; exact List.mem_cons_self))]
theorem putZ_at : ∀ (as : List Addr) (kvs : List (V × V)) (H : Hp), as.length = kvs.length → as.Nodup → Paired (fun (t : Addr) (p : V × V) => putZ H as kvs t = some (.tup [p.1, p.2])) as kvs
  | [], [], _, _, _ => .nil
  | [], _ :: _, _, h, _ => by cases h
  | _ :: _, [], _, h, _ => by cases h
  | a :: as, p :: kvs, H, h, hn => by
    have hn' := List.nodup_cons.mp hn
    have ih := putZ_at as kvs (upd H a (.tup [p.1, p.2])) (Nat.succ.inj h) hn'.2
    refine .cons ?_ ih
    show putZ (upd H a (.tup [p.1, p.2])) as kvs a = some (.tup [p.1, p.2])
    rw [putZ_off as kvs _ hn'.1, upd_same]
theorem putZ_upd {P : Addr} {u : HO} : ∀ (as : List Addr) (kvs : List (V × V)) (H : Hp), P ∉ as → putZ (upd H P u) as kvs = upd (putZ H as kvs) P u
  | [], _, _, _ => by simp only [putZ]
  | _ :: _, [], _, _ => by simp only [putZ]
  | a :: as, p :: kvs, H, h => by
    show putZ (upd (upd H P u) a (.tup [p.1, p.2])) as kvs = upd (putZ (upd H a (.tup [p.1, p.2])) as kvs) P u
    have hne : a ≠ P := fun z => h (by rw [z]; exact List.mem_cons_self)
    rw [← putZ_upd as kvs _ fun z => h (List.mem_cons_of_mem _ z)]
    congr 1
    funext b
    by_cases q : b = a
    · subst q; rw [upd_same, upd_ne hne, upd_same]
    · by_cases q2 : b = P
      · subst q2; rw [upd_ne q, upd_same, upd_same]
      · rw [upd_ne q, upd_ne q2, upd_ne q2, upd_ne q]
theorem zip_laid {X : Cx} {pins : List (Addr × Obj)} {σ : L2.St} {H : Hp} {s : Shared} {h' : Heap} {tk n P : Nat} {vx vy : List V} {xs ys : List Value} {acc : Array Value} {c : Nat} (I : Inv X pins σ H s) (hP : s.heap.objs.size ≤ P) (hz : n ≤ sizeLine) (rx : Vals vx xs) (ry : Vals vy ys) (lx : vx.length = n) (ly : vy.length = n)
    (hk : ∀ b o, s.heap.get? b = some o → h'.get? b = some o) (hS : h'.get? P = some { cls := .type "list", dict := none, data := .seq acc c, slots := #[] }) (ha : ZAcc h' xs.toArray ys.toArray (P + 1) acc n) :
    ∃ as : List Addr, H P = none ∧ (∀ t ∈ as, H t = none) ∧ P ∉ as ∧ as.Nodup ∧ as.length = (vx.zip vy).length ∧ Inv X pins σ (upd (putZ H as (vx.zip vy)) P (.lst (as.map V.ref))) { s with heap := h', toks := tk } := by
  obtain ⟨as, e1, e2, e3, e4⟩ := ha
  have above : ∀ t ∈ as, P < t := fun t ht => by
    obtain ⟨j, hj, ej⟩ := List.getElem_of_mem ht
    exact (e4 j t (by rw [List.getElem?_eq_getElem hj, ej])).1
  have hSn : P ∉ as := fun z => Nat.lt_irrefl _ (above _ z)
  have nd : as.Nodup := List.Pairwise.imp (fun {a b} (h : a < b) => Nat.ne_of_lt h) e3
  have new : ∀ t ∈ as, H t = none := fun t ht => I.hok.fresh (Nat.le_trans hP (Nat.le_of_lt (above t ht)))
  have newS : H P = none := I.hok.fresh hP
  have lz : as.length = (vx.zip vy).length := by rw [List.length_zip, e2, lx, ly, Nat.min_self]
  have atP := putZ_at as (vx.zip vy) (upd H P (.lst (as.map V.ref))) lz nd
  have off : ∀ b, b ∉ as → b ≠ P → putZ (upd H P (.lst (as.map V.ref))) as (vx.zip vy) b = H b := fun b h1 h2 => by rw [putZ_off as _ _ h1, upd_ne h2]
  have low : ∀ b o, s.heap.get? b = some o → b ∉ as ∧ b ≠ P := fun b o e => ⟨fun z => absurd (Nat.lt_of_lt_of_le (Heap.lt_size e) hP) (Nat.not_lt.mpr (Nat.le_of_lt (above b z))), Nat.ne_of_lt (Nat.lt_of_lt_of_le (Heap.lt_size e) hP)⟩
  have kp : ∀ b u, H b = some u → (putZ (upd H P (.lst (as.map V.ref))) as (vx.zip vy)) b = some u := fun b u e => by
    rw [off b (fun z => by rw [new b z] at e; cases e) (fun z => by rw [z, newS] at e; cases e)]
    exact e
  have eS : putZ (upd H P (.lst (as.map V.ref))) as (vx.zip vy) P = some (.lst (as.map V.ref)) := by rw [putZ_off as _ _ hSn, upd_same]
  refine ⟨as, newS, new, hSn, nd, lz, ?_⟩
  rw [← putZ_upd _ _ _ hSn]
  refine I.call' (ch := []) rfl ⟨fun b o q _ _ _ => hk b o q, fun b o q _ _ _ => ⟨o.slots, hk b o q⟩, fun b o q n _ => ?_, fun b o q _ => ⟨o, hk b o q⟩, fun b xs q => kp b _ q, fun b o u q => kp b _ q, fun b ps q => ⟨#[], by rw [kp b _ q]; simp⟩⟩ (fun b u q => ?_) I.bare fun b z => by simp at z
  · obtain ⟨z1, z2⟩ := low b o q
    rw [off b z1 z2]
    exact n
  · by_cases hb : b ∈ as
    · obtain ⟨j, pk, g1, g2, g3⟩ := LiI.paired_ix atP hb
      rw [g3] at q
      cases q
      obtain ⟨_, x, y, f1, f2, f3⟩ := e4 j b g1
      obtain ⟨k1, k2⟩ := List.getElem?_zip_eq_some.mp g2
      obtain ⟨ux, m1, m2⟩ := LiI.paired_get rx k1
      obtain ⟨uy, m3, m4⟩ := LiI.paired_get ry k2
      rw [List.getElem?_toArray] at f1 f2
      rw [f1] at m1
      rw [f2] at m3
      cases m1
      cases m3
      exact ⟨by show 2 ≤ sizeLine; decide, [x, y], .cons m2 (.cons m4 .nil), ⟨_, f3, rfl, _, rfl⟩⟩
    · by_cases hb2 : b = P
      · rw [hb2] at q ⊢
        rw [eS] at q
        cases q
        refine ⟨by rw [List.length_map]; omega, acc.toList, c, by rw [e1]; exact LiI.vals_refs as, ?_⟩
        rw [Array.toArray_toList]
        exact hS
      · rw [off b hb hb2] at q
        exact (I.hok b u q).stay (fun d v _ y => hk d v y) (fun d y => kp d _ y) fun d xs y => kp d _ y
/-- list(zip(a, b)), two lists of one length -/
def rZipL (K : PySem.W.Frag) : List V → Hp → VK → Prop := fun vs H Q => ∃ a b xs ys, vs = [.ref a, .ref b] ∧ SqL K H a xs ∧ SqL K H b ys ∧ xs.length = ys.length ∧
  ∀ (p : Addr) (ts : List Addr), H p = none → (∀ t ∈ ts, H t = none) → p ∉ ts → ts.Nodup → ts.length = (xs.zip ys).length → Q (.ref p) (upd (putZ H ts (xs.zip ys)) p (.lst (ts.map V.ref)))
theorem pe_listZip {X : Cx} {e e2 : Expr} {ta : TA} {p p2 pos pos2 : Pos} (hc : X.calm = true) (hg : Gl X "list") (hm : X.mg "list" = none) (hg2 : Gl X "zip") (hm2 : X.mg "zip" = none) (ha : PA X [e, e2] ta)
    (hs : starEach [e, e2] X.env = (false, eval e X.env) :: starEach [e2] X.env := by rfl) (hpl : (backTo pos2 (starEach [e2] X.env)).any (·.1) = false := by rfl)
    (hs1 : starEach [.Call (.Name "zip" p2) [e, e2] [] pos2] X.env = (false, eval (.Call (.Name "zip" p2) [e, e2] [] pos2) X.env) :: starEach [] X.env := by rfl) :
    PE X (.Call (.Name "list" p) [.Call (.Name "zip" p2) [e, e2] [] pos2] [] pos) (fun σ H Q => ta σ H fun vs H1 => rZipL X.K vs H1 Q) := by
  refine ⟨fun pins s σ H Q I h => ?_⟩
  refine wpAny_Call_Name_kw (ld_blt I hg hm (by decide +kernel : bootBuiltins "list" = some (.type "list")) ?_)
  refine PyProof.Rows.callWith_type1 ?_ hs1 rfl
  rw [hs1]
  show wpAny _ _ (spliced ((false, eval (.Call (.Name "zip" p2) [e, e2] [] pos2) X.env) :: backTo pos (starEach [] X.env))) _ _ s
  refine Calls.spliced_cons ?_
  refine Call_ (ld_blt I hg2 hm2 PyProof.Rows.boot_zip (PyProof.Rows.callWith_type1 (thn (ha.run pos2 pins s σ H _ I h) fun us s1 ⟨vs, H1, I1, r1, q1⟩ => ?_) hs hpl))
  obtain ⟨a, b, xs, ys, ex, hqx, hqy, hl, q⟩ := q1
  subst ex
  cases r1 with
  | cons r rr =>
    cases rr with
    | cons r' rr =>
      cases rr
      cases r
      cases r'
      obtain ⟨its, rv, p1, z1⟩ := I1.list hqx
      obtain ⟨its2, rv2, p2', z2⟩ := I1.list hqy
      have la : a < s1.heap.objs.size := p1.lt
      have lb : b < s1.heap.objs.size := p2'.lt
      refine call_zip_2 p1.isList p2'.isList fun h' hz hTI hTO h1 h2 hsz hk => ?_
      refine Calls.spliced_nil ?_
      have L1 : (⟨h', s1.gens, s1.drawn, s1.toks, s1.os⟩ : Shared).heap.IsList a its.toArray := by
        obtain ⟨o, e, r⟩ := p1.isList
        exact ⟨o, hk _ _ e, r⟩
      have L2 : (⟨h', s1.gens, s1.drawn, s1.toks, s1.os⟩ : Shared).heap.IsList b its2.toArray := by
        obtain ⟨o, e, r⟩ := p2'.isList
        exact ⟨o, hk _ _ e, r⟩
      have l1 := rv.length
      have l2 := rv2.length
      refine call_list_zip (s := { s1 with heap := h' }) (n := xs.length) (I1.ok.hd hc) (PySem.W.ktu_apart s1.heap.objs.size a b la lb) ?_ hz hTI hTO h1 h2 L1 L2 z1 (by simp only [List.size_toArray]; omega) (by simp only [List.size_toArray]; omega) fun h'' acc c hk2 hS hacc => ?_
      · show _ < h'.objs.size ∧ _
        rw [hsz]
        have la' : a < s1.heap.objs.size + 5 := Nat.lt_of_lt_of_le la (Nat.le_add_right _ _)
        have lb' : b < s1.heap.objs.size + 5 := Nat.lt_of_lt_of_le lb (Nat.le_add_right _ _)
        exact ⟨by omega, by omega, by omega, by omega, by omega, la', lb'⟩
      · have hP : s1.heap.objs.size ≤ h'.objs.size := by rw [hsz]; exact Nat.le_add_right _ _
        have hk3 : ∀ b o, s1.heap.get? b = some o → h''.get? b = some o := fun b o e => hk2 b o (Nat.ne_of_lt (Nat.lt_of_lt_of_le (Heap.lt_size e) (Nat.le_add_right _ _))) (Nat.ne_of_lt (Nat.lt_of_lt_of_le (Heap.lt_size e) (Nat.le_add_right _ _))) (Nat.ne_of_lt (Heap.lt_size e)) (Nat.ne_of_lt (Nat.lt_of_lt_of_le (Heap.lt_size e) (Nat.le_add_right _ _))) (hk b o e)
        obtain ⟨ts, k1, k2, k3, k4, k5, J⟩ := zip_laid (tk := s1.toks) I1 hP z1 rv rv2 rfl hl.symm hk3 hS hacc
        exact ⟨.ref _, _, J, rfl, q _ ts k1 k2 k3 k4 k5⟩
/-- list(zip(a, b)) as a list to be -/
def dZipL (a : dA) : dF := fun W δ Q => a W δ fun xs δ1 => match xs with | [.lst ds, .lst es] => ds.length = es.length ∧ Q (zipD ds es) δ1 | _ => False
variable [TabC]
variable {K : PySem.W.Frag}
theorem grow_putZ : ∀ {ts : List Addr} {kvs : List (V × V)} {S H : Hp}, Sb S H → ts.Nodup → (∀ t ∈ ts, H t = none) → Grow S H (putZ S ts kvs) (putZ H ts kvs)
  | [], _, _, _, e, _, _ => Grow.refl e
  | _ :: _, [], _, _, e, _, _ => Grow.refl e
  | a :: ts, p :: kvs, S, H, e, nd, h => by
    rw [List.nodup_cons] at nd
    have g := Grow.new (o := .tup [p.1, p.2]) e (h a List.mem_cons_self)
    exact g.trans (grow_putZ g.ok nd.2 fun t ht => by
      rw [upd_ne (fun z => nd.1 (by rw [← z]; exact ht))]
      exact h t (List.mem_cons_of_mem _ ht))
theorem dn_putZ {H' : Hp} : ∀ {ts : List Addr} {vx vy : List V} {dx dy : List D}, Paired (fun (t : Addr) (q : V × V) => H' t = some (.tup [q.1, q.2])) ts (vx.zip vy) → DnA K H' vx dx → DnA K H' vy dy → DnA K H' (ts.map V.ref) (zipD dx dy)
  | _, _, _, _, _, h, .nil, _ => by cases h; exact .nil
  | _, _, _, _, _, h, .cons _ _, .nil => by cases h; exact .nil
  | _, _, _, _, _, h, .cons a1 a2, .cons b1 b2 => by
    cases h with
    | cons h t => exact .cons (.tup h (.cons a1 (.cons b1 .nil))) (dn_putZ t a2 b2)
theorem df_zipL {X : Cx} {E : EK} {e e2 : Expr} {da : dA} {p p2 pos pos2 : Pos} (hc : X.calm = true) (hg : Gl X "list") (hm : X.mg "list" = none) (hg2 : Gl X "zip") (hm2 : X.mg "zip" = none) (ha : DA X E [e, e2] da)
    (hs : starEach [e, e2] X.env = (false, eval e X.env) :: starEach [e2] X.env := by rfl) (hpl : (backTo pos2 (starEach [e2] X.env)).any (·.1) = false := by rfl)
    (hs1 : starEach [.Call (.Name "zip" p2) [e, e2] [] pos2] X.env = (false, eval (.Call (.Name "zip" p2) [e, e2] [] pos2) X.env) :: starEach [] X.env := by rfl) :
    DF X E (.Call (.Name "list" p) [.Call (.Name "zip" p2) [e, e2] [] pos2] [] pos) (dZipL da) := ⟨fun B => pe_mono (pe_listZip hc hg hm hg2 hm2 (ha.run B) hs hpl hs1) fun σ H Q q => by
  obtain ⟨δ, S, W, Q', R, q, xo, post⟩ := q
  refine ⟨δ, S, W, _, R, q, xo, fun xs δ1 vs S1 H1 q1 e1 R1 n1 => ?_⟩
  match xs, n1, q1 with
  | [.lst ds, .lst es], n1, q1 =>
    obtain ⟨hl, q1⟩ := q1
    obtain ⟨v, v', rfl, n2, n3⟩ := n1.two
    cases n2 with
    | lst s1 a1 =>
      cases n3 with
      | lst s2 a2 =>
        refine ⟨_, _, _, _, rfl, SqL.of (R1.ex.ex _ _ s1), SqL.of (R1.ex.ex _ _ s2), by rw [a1.length, a2.length, hl], fun P ts hP ht hPn nd hlen => ?_⟩
        refine (fun g => post _ _ _ _ _ _ q1 (e1.trans g.s) (R1.grow g) ?_ (dn_putZ (putZ_at ts _ _ hlen nd) (a1.mono g.s) (a2.mono g.s))) (grow_putZ R1.ex nd ht)
        rw [putZ_off ts _ _ hPn]
        exact hP⟩
/-- list(d) of a dict of one's own: its keys -/
def dListKo (i : Nat) : dF := fun _ δ Q => match δ.sl[i]? with
  | some (.ownK es) => Q (keyDK es) δ
  | some (.dat (.dK es)) => Q (keyDK es) δ
  | _ => False
theorem df_listKo {X : Cx} {E : EK} {p pos : Pos} {x : Str} {i : Nat} {y : Str} {py : Pos} (hc : X.calm = true) (hv : PE X (.Name y py) (tVar i)) (gl : Gl X x) (hm : X.mg x = none) (hb : bootBuiltins x = some (.type "list")) (hn : x ≠ "__name__" := by decide) (hdb : (x == ("__debug__" : Str)) = false := by decide)
    (he : starEach [.Name y py] X.env = (false, eval (.Name y py) X.env) :: starEach [] X.env := by rfl) (hpl : (backTo pos (starEach [] X.env)).any (·.1) = false := by rfl) : DF X E (.Call (.Name x p) [.Name y py] [] pos) (dListKo i) :=
  ⟨fun B => pe_mono (pe_callTy (call_list_dK hc) gl hm hb (pa_cons hv pa_nil he) hn hdb he hpl) fun σ H Q q => by
    obtain ⟨δ, S, W, Q', R, q, xo, post⟩ := q
    unfold dListKo at q
    split at q
    · rename_i es hs
      obtain ⟨ow, h1, _⟩ := id R.sl
      obtain ⟨a, kvs, r1, r2, r3, r4, r5, r6, r7⟩ := h1 i _ hs
      refine ⟨.ref a, r4, (⟨a, kvs, rfl, r5, fun p hp => ?_⟩ : rListD _ H Q)⟩
      have aw := DnA.kD1 (K := X.K) (S := S) kvs
      rw [keyDK_of r6] at aw
      exact post _ _ _ _ _ _ q (Ex.refl _) R hp aw
    · rename_i es hs
      obtain ⟨v, e1, e2⟩ := R.dat hs
      cases e2 with
      | @dK ad kvs _ h1 h2 h3 =>
        refine ⟨_, e1, (⟨_, _, rfl, R.ex.ex _ _ h1, fun p hp => ?_⟩ : rListD _ H Q)⟩
        have aw := DnA.kD1 (K := X.K) (S := S) kvs
        rw [keyDK_of h2] at aw
        exact post _ _ _ _ _ _ q (Ex.refl _) R hp aw
    · exact q.elim⟩
end Ev

/-! # list(range(a, b)) -/
namespace Ev
open PySem PySem.Spec PyProof.Rows L2
variable [TabC]
variable {K : PySem.W.Frag} {S S' H H' : Hp} {B : Bs} {δ : DS} {σ : L2.St}
section
variable {X : Cx} {E : EK} {a b : Expr} {p p2 pos pos2 : Pos} {da db : dE}
def dListRg (da db : dE) : dF := fun W δ Q => da W δ fun x δ1 => db W δ1 fun y δ2 => match x, y with
  | .int i, .int j => (-(2 ^ 62) ≤ i ∧ i < 2 ^ 62 ∧ -(2 ^ 62) ≤ j ∧ j < 2 ^ 62 ∧ (j - i).toNat ≤ 2 ^ 24) ∧ Q (intsFrom i (j - i).toNat) δ2
  | _, _ => False
theorem intsSucc {lo : Int} {n : Nat} : intsFrom lo (n + 1) = .int lo :: intsFrom (lo + 1) n := by
  unfold intsFrom
  rw [List.range_succ_eq_map, List.map_cons, List.map_map]
  refine congr (congrArg List.cons (by simp)) (List.map_congr_left fun k _ => ?_)
  simp only [Function.comp_def]; congr 1; omega
theorem dna_rg (i : Int) : ∀ (n : Nat), DnA K S ((List.range n).map fun k => V.int (i + (k : Nat))) (intsFrom i n) := fun n => by
  induction n generalizing i with
  | zero => exact .nil
  | succ n ih =>
    rw [List.range_succ_eq_map, List.map_cons, List.map_map]
    have := ih (i + 1)
    have e : ((fun k : Nat => V.int (i + (k : Nat))) ∘ Nat.succ) = fun k : Nat => V.int (i + 1 + (k : Nat)) := by
      funext k; simp only [Function.comp_def]; congr 1; omega
    rw [e]
    have z : V.int (i + ((0 : Nat) : Int)) = V.int i := by simp
    rw [z]
    rw [intsSucc]
    exact .cons (.int i) this
theorem df_listRg (hc : X.calm = true) (hg : Gl X "list") (hm : X.mg "list" = none) (hg2 : Gl X "range") (hm2 : X.mg "range" = none) (ha : DE X E a da) (hb : DE X E b db)
    (na : starEach [a, b] X.env = (false, eval a X.env) :: starEach [b] X.env := by rfl) (nb : starEach [b] X.env = (false, eval b X.env) :: starEach [] X.env := by rfl) (hp : (backTo pos2 (starEach [b] X.env)).any (·.1) = false := by rfl)
    (ne : starEach [.Call (.Name "range" p2) [a, b] [] pos2] X.env = (false, eval (.Call (.Name "range" p2) [a, b] [] pos2) X.env) :: starEach [] X.env := by rfl) :
    DF X E (.Call (.Name "list" p) [.Call (.Name "range" p2) [a, b] [] pos2] [] pos) (dListRg da db) := ⟨fun B => pe_mono (pe_listRg hc hg hm (prg_2 hg2 hm2 (ha.run B) (hb.run B) na nb hp) ne) fun σ H Q q => by
  obtain ⟨δ, S, W, Q', R, q, xo, post⟩ := q
  refine ⟨δ, S, W, _, R, q, xo, fun x δ1 v S1 H1 q1 e1 R1 n1 => ?_⟩
  refine ⟨δ1, S1, W, _, R1, q1, xo.mono e1, fun y δ2 u S2 H2 q2 e2 R2 n2 => ?_⟩
  cases x <;> cases y <;> first | exact q2.elim | skip
  cases n1; cases n2
  rename_i i j
  refine ⟨i, j, rfl, rfl, q2.1, fun l hl => ?_⟩
  exact post _ _ l _ S2 H2 q2.2 (e1.trans e2) R2 hl (dna_rg i _)⟩
/-- dict(list of pairs), locked at once: it may be walked -/
def rDictPf : DRC := fun xs Q => match xs with
  | [.lst ds] => optQ (pairsOf ds) fun kvs => Q (.fK (mergeD [] kvs))
  | _ => False
theorem cd_dictPf (hc : X.calm = true) : CallR X (.type "dict") (liftC X.K rDictPf) := fun pins s σ H vs us Q I r ⟨S, ds, Q', ex, n, q, post⟩ => by
  match ds, n, q with
  | [.lst ds], n, q =>
    obtain ⟨v, rfl, n1⟩ := n.one
    cases n1 with
    | lst h a =>
      obtain ⟨kvs, hk, q⟩ := optQ_ex q
      obtain ⟨ps, ks, rfl, hp, hr⟩ := pairs_read ex a hk
      refine wpAny_mono (call_dictP hc pins s σ H _ us (fun v H' => ∃ p, H p = none ∧ v = .ref p ∧ H' = upd H p (.dK (mergeK [] ks))) I r ⟨_, ps, ks, rfl, SqL.of (ex _ _ h), hp, fun p hn => ⟨p, hn, rfl, rfl⟩⟩) (fun u s' ⟨v, H', I', rv, p, hn, ev, eH⟩ => ?_) fun _ _ z => z
      subst ev eH
      obtain ⟨od, I2⟩ := I'.lock (d := p) upd_same trivial
      rw [upd_upd] at I2
      have g := Grow.new (o := .frz od (.dK (mergeK [] ks))) ex hn
      have m : KvR X.K S (mergeK [] ks) (mergeD [] kvs) := KvR.merge hr ⟨rfl, .nil⟩
      exact ⟨_, _, I2, rv, post _ _ _ _ q g (.fK upd_same m.1 (m.2.mono g.s))⟩
end
end Ev

/-! # Tuples and dicts of the module, by name -/
namespace Ev
open PySem PySem.Spec PyProof.Rows L2
variable [TabC]
variable {K : PySem.W.Frag} {S S' H H' : Hp} {B : Bs} {δ : DS} {σ : L2.St}
/-- x names a tuple of the module -/
def GT (K : PySem.W.Frag) (mg : Str → Option Value) (x : Str) (ds : List D) : Prop := ∃ (a : Addr) (vs : List V), mg x = some (.ref a) ∧ KTup K a vs ∧ ∀ S, DnA K S vs ds
/-- x names a dict of the module: texts are its keys -/
def GD (K : PySem.W.Frag) (w : World) (mg : Str → Option Value) (x : Str) (kvs : List (Str × D)) : Prop :=
  ∃ (a : Addr) (es : Array DictEntry) (n : Nat) (us : List Value) (vs : List V), mg x = some (.ref a) ∧ KDict K w a es n ∧ Paired (fun (e : DictEntry) (p : Str × Value) => (∃ t, e.key = .str p.1 t) ∧ e.val = p.2) es.toList ((kvs.map (·.1)).zip us) ∧ us.length = kvs.length ∧ Vals vs us ∧ ∀ S, DnA K S vs (kvs.map (·.2))
def lookS {α : Type} (kvs : List (Str × α)) (z : Str) : Option α := (kvs.find? fun p => decide (p.1 = z)).map (·.2)
theorem find_entry {z : Str} : ∀ {es : List DictEntry} {ps : List (Str × Value)}, Paired (fun (e : DictEntry) (p : Str × Value) => (∃ t, e.key = .str p.1 t) ∧ e.val = p.2) es ps →
    (es.find? (·.key.isStr z)).map (·.val) = lookS ps z ∧ es.any (·.refKey) = false
  | _, _, .nil => ⟨rfl, rfl⟩
  | e :: es, p :: ps, .cons ⟨⟨t, h1⟩, h2⟩ r => by
    obtain ⟨i1, i2⟩ := find_entry (z := z) r
    have k : e.key.isStr z = decide (p.1 = z) := by
      rw [h1]
      show (p.1 == z) = _
      by_cases q : p.1 = z
      · rw [q]; simp
      · simp [q]
    have rk : e.refKey = false := by unfold DictEntry.refKey; rw [h1]
    refine ⟨?_, by rw [List.any_cons, rk, i2]; rfl⟩
    unfold lookS at i1 ⊢
    rw [List.find?_cons, List.find?_cons, k]
    cases decide (p.1 = z) with
    | true => simp [h2]
    | false => exact i1
theorem ns_look {d : Addr} {es : Array DictEntry} {n : Nat} {ps : List (Str × Value)} (h : K.lookup d = some ⟨.type "dict", none, .dict es n, #[]⟩) (r : Paired (fun (e : DictEntry) (p : Str × Value) => (∃ t, e.key = .str p.1 t) ∧ e.val = p.2) es.toList ps) (z : Str) : PySem.W.nsIn K d z = some (lookS ps z) := by
  obtain ⟨i1, i2⟩ := find_entry (z := z) r
  unfold PySem.W.nsIn
  rw [h]
  dsimp only
  cases q : es.toList.find? (·.key.isStr z) with
  | some e => rw [q] at i1; simp only [Option.map_some] at i1; rw [← i1]
  | none => rw [q] at i1; simp only [Option.map_none] at i1; rw [← i1, i2]; rfl
theorem look_zip {z : Str} : ∀ {ks : List Str} {us : List Value} {vs : List V} {ds : List D}, us.length = ks.length → Vals vs us → DnA K S vs ds →
    (lookS (ks.zip us) z = none ∧ lookS (ks.zip ds) z = none) ∨ ∃ u v d, lookS (ks.zip us) z = some u ∧ RelV v u ∧ Dn K S v d ∧ lookS (ks.zip ds) z = some d
  | [], _, _, _, _, _, _ => .inl ⟨rfl, rfl⟩
  | k :: ks, [], _, _, h, _, _ => by simp at h
  | k :: ks, u :: us, v :: vs, d :: ds, h, .cons r rs, .cons n ns => by
    have ih := look_zip (z := z) (ks := ks) (us := us) (by simpa using h) rs ns
    unfold lookS at ih ⊢
    simp only [List.zip_cons_cons, List.find?_cons]
    cases decide (k = z) with
    | true => exact .inr ⟨u, v, d, rfl, r, n, rfl⟩
    | false => exact ih
theorem zip_self (kvs : List (Str × D)) : (kvs.map (·.1)).zip (kvs.map (·.2)) = kvs := by
  induction kvs with
  | nil => rfl
  | cons p l ih => simp [ih]
/-- a dict of the module, read -/
theorem GD.read {w : World} {mg : Str → Option Value} {x : Str} {kvs : List (Str × D)} (h : GD K w mg x kvs) : ∃ (a : Addr) (es : Array DictEntry) (n : Nat), mg x = some (.ref a) ∧ KDict K w a es n ∧
    ∀ z S, (PySem.W.nsIn K a z = some none ∧ lookS kvs z = none) ∨ ∃ u v d, PySem.W.nsIn K a z = some (some u) ∧ RelV v u ∧ Dn K S v d ∧ lookS kvs z = some d := by
  obtain ⟨a, es, n, us, vs, h1, h2, h3, h4, h5, h6⟩ := h
  refine ⟨a, es, n, h1, h2, fun z S => ?_⟩
  have e := ns_look h2.at_ h3 z
  rcases look_zip (z := z) (ks := kvs.map (·.1)) (by simpa using h4) h5 (h6 S) with ⟨q1, q2⟩ | ⟨u, v, d, q1, q2, q3, q4⟩
  · rw [zip_self] at q2
    exact .inl ⟨by rw [e, q1], q2⟩
  · rw [zip_self] at q4
    exact .inr ⟨u, v, d, by rw [e, q1], q2, q3, q4⟩
section
variable {X : Cx} {E : EK} {x : Str} {e : Expr} {pos p : Pos} {da : dE} {ds : List D} {kvs : List (Str × D)}
theorem de_gkt (gl : Gl X x) (h : GT X.K X.mg x ds) (hd : (x == ("__debug__" : Str)) = false := by decide) : DE X E (.Name x pos) (dC (.kt ds)) := by
  obtain ⟨a, vs, h1, h2, h3⟩ := h
  exact de_c (pe_glob gl h1 (show RelV (.ref a) (.ref a) from rfl) hd) fun S => .kt h2 (h3 S)
/-- e in NAME, e not in NAME -/
def dGdIn (neg : Bool) (kvs : List (Str × D)) (da : dE) : dE := fun W δ Q => da W δ fun y δ1 => match y with
  | .str z => Q (.bl (neg != (lookS kvs z).isSome)) δ1
  | _ => False
theorem look_some {a : Addr} {z : Str} {r : Option Value} {kvs : List (Str × D)} (h : (PySem.W.nsIn K a z = some none ∧ lookS kvs z = none) ∨ ∃ u v d, PySem.W.nsIn K a z = some (some u) ∧ RelV v u ∧ Dn K S v d ∧ lookS kvs z = some d) : ∃ r, PySem.W.nsIn K a z = some r ∧ r.isSome = (lookS kvs z).isSome := by
  rcases h with ⟨q1, q2⟩ | ⟨u, v, d, q1, _, _, q4⟩
  · exact ⟨_, q1, by rw [q2]; rfl⟩
  · exact ⟨_, q1, by rw [q4]; rfl⟩
theorem gdIn_read {a : Addr} {B : Bs} {σ : L2.St} {H : Hp} {Q : VK} (h3 : ∀ z S, (PySem.W.nsIn K a z = some none ∧ lookS kvs z = none) ∨ ∃ u v d, PySem.W.nsIn K a z = some (some u) ∧ RelV v u ∧ Dn K S v d ∧ lookS kvs z = some d) (q : liftE K B E (dGdIn false kvs da) σ H Q) : tOp (fun x y H Q => ∃ (z : Str) (r : Option Value), x = .str z ∧ y = .ref a ∧ PySem.W.nsIn K a z = some r ∧ Q (.bl r.isSome) H) (liftE K B E da) (tC (.ref a)) σ H Q := by
  obtain ⟨δ, S, W, Q', R, q, xo, post⟩ := q
  refine ⟨δ, S, W, _, R, q, xo, fun y δ1 v S1 H1 q1 e1 R1 n1 => ?_⟩
  cases y with
  | str z =>
    cases n1
    obtain ⟨r, r1, r2⟩ := look_some (r := none) (h3 z S1)
    refine ⟨z, r, rfl, rfl, r1, ?_⟩
    rw [r2]
    have q1 : Q' (.bl (false != (lookS kvs z).isSome)) δ1 := q1
    rw [show (false != (lookS kvs z).isSome) = ((lookS kvs z).isSome) by cases (lookS kvs z).isSome <;> rfl] at q1
    exact post _ _ _ _ _ q1 e1 R1 (.bl _)
  | _ => exact q1.elim
theorem de_gdIn (gl : Gl X x) (h : GD X.K X.w X.mg x kvs) (ha : DE X E e da) (hd : (x == ("__debug__" : Str)) = false := by decide) : DE X E (.Compare e [.In] [.Name x p] pos) (dGdIn false kvs da) := by
  obtain ⟨a, es, n, h1, h2, h3⟩ := h.read
  exact ⟨fun B => pe_mono (pe_cmpR (op_in_kd h2) (ha.run B) (pe_glob gl h1 (show RelV (.ref a) (.ref a) from rfl) hd) (by with_unfolding_all rfl)) fun σ H Q q => gdIn_read h3 q⟩
theorem dt_gdIn (gl : Gl X x) (h : GD X.K X.w X.mg x kvs) (ha : DE X E e da) (hd : (x == ("__debug__" : Str)) = false := by decide) : DT X E (.Compare e [.In] [.Name x p] pos) (dB (dGdIn false kvs da)) := by
  obtain ⟨a, es, n, h1, h2, h3⟩ := h.read
  exact ⟨fun B => pt_mono (pt_cmpR (op_in_kd h2) (ha.run B) (pe_glob gl h1 (show RelV (.ref a) (.ref a) from rfl) hd) (by with_unfolding_all rfl)) fun σ H Q q => gdIn_read (Q := fun x H' => ∃ k, x = .bl k ∧ Q k H') h3 (lift_B q)⟩
theorem gdNotIn_read {a : Addr} {B : Bs} {σ : L2.St} {H : Hp} {Q : VK} (h3 : ∀ z S, (PySem.W.nsIn K a z = some none ∧ lookS kvs z = none) ∨ ∃ u v d, PySem.W.nsIn K a z = some (some u) ∧ RelV v u ∧ Dn K S v d ∧ lookS kvs z = some d) (q : liftE K B E (dGdIn true kvs da) σ H Q) : tOp (fun x y H Q => ∃ (z : Str) (r : Option Value), x = .str z ∧ y = .ref a ∧ PySem.W.nsIn K a z = some r ∧ Q (.bl (!r.isSome)) H) (liftE K B E da) (tC (.ref a)) σ H Q := by
  obtain ⟨δ, S, W, Q', R, q, xo, post⟩ := q
  refine ⟨δ, S, W, _, R, q, xo, fun y δ1 v S1 H1 q1 e1 R1 n1 => ?_⟩
  cases y with
  | str z =>
    cases n1
    obtain ⟨r, r1, r2⟩ := look_some (r := none) (h3 z S1)
    refine ⟨z, r, rfl, rfl, r1, ?_⟩
    rw [r2]
    have q1 : Q' (.bl (true != (lookS kvs z).isSome)) δ1 := q1
    rw [show (true != (lookS kvs z).isSome) = (!(lookS kvs z).isSome) by cases (lookS kvs z).isSome <;> rfl] at q1
    exact post _ _ _ _ _ q1 e1 R1 (.bl _)
  | _ => exact q1.elim
theorem de_gdNotIn (gl : Gl X x) (h : GD X.K X.w X.mg x kvs) (ha : DE X E e da) (hd : (x == ("__debug__" : Str)) = false := by decide) : DE X E (.Compare e [.NotIn] [.Name x p] pos) (dGdIn true kvs da) := by
  obtain ⟨a, es, n, h1, h2, h3⟩ := h.read
  exact ⟨fun B => pe_mono (pe_cmpR (op_notIn_kd h2) (ha.run B) (pe_glob gl h1 (show RelV (.ref a) (.ref a) from rfl) hd) (by with_unfolding_all rfl)) fun σ H Q q => gdNotIn_read h3 q⟩
theorem dt_gdNotIn (gl : Gl X x) (h : GD X.K X.w X.mg x kvs) (ha : DE X E e da) (hd : (x == ("__debug__" : Str)) = false := by decide) : DT X E (.Compare e [.NotIn] [.Name x p] pos) (dB (dGdIn true kvs da)) := by
  obtain ⟨a, es, n, h1, h2, h3⟩ := h.read
  exact ⟨fun B => pt_mono (pt_cmpR (op_notIn_kd h2) (ha.run B) (pe_glob gl h1 (show RelV (.ref a) (.ref a) from rfl) hd) (by with_unfolding_all rfl)) fun σ H Q q => gdNotIn_read (Q := fun x H' => ∃ k, x = .bl k ∧ Q k H') h3 (lift_B q)⟩
/-- NAME[e] -/
def dGdIx (kvs : List (Str × D)) (da : dE) : dE := fun W δ Q => da W δ fun y δ1 => match y with
  | .str z => optQ (lookS kvs z) fun d => Q d δ1
  | _ => False
theorem de_gdIx (gl : Gl X x) (h : GD X.K X.w X.mg x kvs) (ha : DE X E e da) (hs : PlainIx e) (hd : (x == ("__debug__" : Str)) = false := by decide) : DE X E (.Subscript (.Name x p) e pos) (dGdIx kvs da) := by
  obtain ⟨a, es, n, h1, h2, h3⟩ := h.read
  refine ⟨fun B => pe_mono (pe_ix ix_kdict (pe_glob gl h1 (show RelV (.ref a) (.ref a) from rfl) hd) (ha.run B) hs) fun σ H Q q => ?_⟩
  obtain ⟨δ, S, W, Q', R, q, xo, post⟩ := q
  refine ⟨δ, S, W, _, R, q, xo, fun y δ1 v S1 H1 q1 e1 R1 n1 => ?_⟩
  cases y with
  | str z =>
    cases n1
    obtain ⟨d, e2, q2⟩ := optQ_ex q1
    rcases h3 z S1 with ⟨_, r2⟩ | ⟨u, v, d', r1, r2, r3, r4⟩
    · rw [r2] at e2; cases e2
    · rw [r4] at e2; cases e2
      exact ⟨a, z, v, rfl, rfl, ⟨es, n, u, h2.at_, h2.lit, r1, r2⟩, post _ _ _ _ _ q2 e1 R1 r3⟩
  | _ => exact q1.elim
end
end Ev

/-! # Dicts of the module, asked with whole numbers too; dicts of the module with bool keys -/
namespace Ev
open PySem PySem.Spec PyProof.Rows L2
variable [TabC]
variable {K : PySem.W.Frag} {S S' H H' : Hp} {B : Bs} {δ : DS} {σ : L2.St}
/-- an int is in no dict whose keys are texts -/
theorem map_lit {prog : Program} {w : World} {h : Heap} {a : Addr} {es : Array DictEntry} {n : Nat} (X : K.In h) (hl : K.lookup a = some ⟨.type "dict", none, .dict es n, #[]⟩) (hk : PySem.W.KeysLit w.params es.toList) :
    ∃ f, h.MapOf (mixKind prog w) a f ∧ ∀ i, f (.inl i) = none := by
  refine ⟨fun k => findBy (mixKind prog w).is es k, ⟨_, es, n, X _ _ hl, ⟨rfl, rfl, rfl⟩, rfl, fun e he => ?_, fun _ => rfl⟩, fun i => ?_⟩
  · obtain ⟨x, t, e1, e2⟩ := hk.all e (Array.mem_toList_iff.mpr he)
    exact ⟨.inr x, by rw [e1]; exact mixKind_str prog w x t, e2⟩
  · have q : (es.find? fun e => keyIs (.inl i) e.key) = none := by
      rw [Array.find?_eq_none]
      intro e he hq
      obtain ⟨x, t, e1, _⟩ := hk.all e (Array.mem_toList_iff.mpr he)
      rw [e1] at hq
      exact nomatch (show false = true from hq)
    show Option.map _ (es.find? fun e => keyIs (.inl i) e.key) = none
    rw [q]; rfl
section
variable {X : Cx} {d : Addr} {es : Array DictEntry} {n : Nat}
theorem op_in_kd2 (D : KDict X.K X.w d es n) : OpR X (compareOp .In) (fun x y H Q => y = .ref d ∧ ((∃ (z : Str) (r : Option Value), x = .str z ∧ PySem.W.nsIn X.K d z = some r ∧ Q (.bl r.isSome) H) ∨ ∃ i, x = .int i ∧ Q (.bl false) H)) := by
  intro pins s σ H x y v u Q I rx ry h
  obtain ⟨rfl, ⟨z, r, rfl, e, q⟩ | ⟨i, rfl, q⟩⟩ := h
  · exact op_in_kd D pins s σ H _ _ _ _ Q I rx ry ⟨z, r, rfl, rfl, e, q⟩
  · obtain ⟨t, rfl⟩ := rx
    cases ry
    obtain ⟨f, m, hf⟩ := map_lit (prog := X.prog) I.kIn D.at_ D.lit
    refine wpAny_in_of (mixKind_int X.prog X.w i t) D.low m ?_
    rw [hf i]
    exact ⟨.bl false, H, I.tok _, rfl, q⟩
theorem op_notIn_kd2 (D : KDict X.K X.w d es n) : OpR X (compareOp .NotIn) (fun x y H Q => y = .ref d ∧ ((∃ (z : Str) (r : Option Value), x = .str z ∧ PySem.W.nsIn X.K d z = some r ∧ Q (.bl (!r.isSome)) H) ∨ ∃ i, x = .int i ∧ Q (.bl true) H)) := by
  intro pins s σ H x y v u Q I rx ry h
  obtain ⟨rfl, ⟨z, r, rfl, e, q⟩ | ⟨i, rfl, q⟩⟩ := h
  · exact op_notIn_kd D pins s σ H _ _ _ _ Q I rx ry ⟨z, r, rfl, rfl, e, q⟩
  · obtain ⟨t, rfl⟩ := rx
    cases ry
    obtain ⟨f, m, hf⟩ := map_lit (prog := X.prog) I.kIn D.at_ D.lit
    refine wpAny_notIn_of (mixKind_int X.prog X.w i t) D.low m ?_
    rw [hf i]
    exact ⟨.bl true, H, I.tok _, rfl, q⟩
end
section
variable {X : Cx} {E : EK} {x : Str} {e : Expr} {pos p : Pos} {da : dE} {ds : List D} {kvs : List (Str × D)}
/-- e in NAME, e not in NAME: e a text or a whole number -/
def dGcIn (neg : Bool) (kvs : List (Str × D)) (da : dE) : dE := fun W δ Q => da W δ fun y δ1 => match y with
  | .str z => Q (.bl (neg != (lookS kvs z).isSome)) δ1
  | .int _ => Q (.bl neg) δ1
  | _ => False
theorem gcIn_read {a : Addr} {B : Bs} {σ : L2.St} {H : Hp} {Q : VK} (h3 : ∀ z S, (PySem.W.nsIn K a z = some none ∧ lookS kvs z = none) ∨ ∃ u v d, PySem.W.nsIn K a z = some (some u) ∧ RelV v u ∧ Dn K S v d ∧ lookS kvs z = some d) (q : liftE K B E (dGcIn false kvs da) σ H Q) : tOp (fun x y H Q => y = .ref a ∧ ((∃ (z : Str) (r : Option Value), x = .str z ∧ PySem.W.nsIn K a z = some r ∧ Q (.bl r.isSome) H) ∨ ∃ i, x = .int i ∧ Q (.bl false) H)) (liftE K B E da) (tC (.ref a)) σ H Q := by
  obtain ⟨δ, S, W, Q', R, q, xo, post⟩ := q
  refine ⟨δ, S, W, _, R, q, xo, fun y δ1 v S1 H1 q1 e1 R1 n1 => ?_⟩
  cases y with
  | str z =>
    cases n1
    obtain ⟨r, r1, r2⟩ := look_some (r := none) (h3 z S1)
    refine ⟨rfl, .inl ⟨z, r, rfl, r1, ?_⟩⟩
    rw [r2]
    have q1 : Q' (.bl (false != (lookS kvs z).isSome)) δ1 := q1
    rw [show (false != (lookS kvs z).isSome) = ((lookS kvs z).isSome) by cases (lookS kvs z).isSome <;> rfl] at q1
    exact post _ _ _ _ _ q1 e1 R1 (.bl _)
  | int i =>
    cases n1
    exact ⟨rfl, .inr ⟨i, rfl, post _ _ _ _ _ (show Q' (.bl false) δ1 from q1) e1 R1 (.bl _)⟩⟩
  | _ => exact q1.elim
theorem de_gcIn (gl : Gl X x) (h : GD X.K X.w X.mg x kvs) (ha : DE X E e da) (hd : (x == ("__debug__" : Str)) = false := by decide) : DE X E (.Compare e [.In] [.Name x p] pos) (dGcIn false kvs da) := by
  obtain ⟨a, es, n, h1, h2, h3⟩ := h.read
  exact ⟨fun B => pe_mono (pe_cmpR (op_in_kd2 h2) (ha.run B) (pe_glob gl h1 (show RelV (.ref a) (.ref a) from rfl) hd) (by with_unfolding_all rfl)) fun σ H Q q => gcIn_read h3 q⟩
theorem dt_gcIn (gl : Gl X x) (h : GD X.K X.w X.mg x kvs) (ha : DE X E e da) (hd : (x == ("__debug__" : Str)) = false := by decide) : DT X E (.Compare e [.In] [.Name x p] pos) (dB (dGcIn false kvs da)) := by
  obtain ⟨a, es, n, h1, h2, h3⟩ := h.read
  exact ⟨fun B => pt_mono (pt_cmpR (op_in_kd2 h2) (ha.run B) (pe_glob gl h1 (show RelV (.ref a) (.ref a) from rfl) hd) (by with_unfolding_all rfl)) fun σ H Q q => gcIn_read (Q := fun x H' => ∃ k, x = .bl k ∧ Q k H') h3 (lift_B q)⟩
theorem gcNotIn_read {a : Addr} {B : Bs} {σ : L2.St} {H : Hp} {Q : VK} (h3 : ∀ z S, (PySem.W.nsIn K a z = some none ∧ lookS kvs z = none) ∨ ∃ u v d, PySem.W.nsIn K a z = some (some u) ∧ RelV v u ∧ Dn K S v d ∧ lookS kvs z = some d) (q : liftE K B E (dGcIn true kvs da) σ H Q) : tOp (fun x y H Q => y = .ref a ∧ ((∃ (z : Str) (r : Option Value), x = .str z ∧ PySem.W.nsIn K a z = some r ∧ Q (.bl (!r.isSome)) H) ∨ ∃ i, x = .int i ∧ Q (.bl true) H)) (liftE K B E da) (tC (.ref a)) σ H Q := by
  obtain ⟨δ, S, W, Q', R, q, xo, post⟩ := q
  refine ⟨δ, S, W, _, R, q, xo, fun y δ1 v S1 H1 q1 e1 R1 n1 => ?_⟩
  cases y with
  | str z =>
    cases n1
    obtain ⟨r, r1, r2⟩ := look_some (r := none) (h3 z S1)
    refine ⟨rfl, .inl ⟨z, r, rfl, r1, ?_⟩⟩
    rw [r2]
    have q1 : Q' (.bl (true != (lookS kvs z).isSome)) δ1 := q1
    rw [show (true != (lookS kvs z).isSome) = (!(lookS kvs z).isSome) by cases (lookS kvs z).isSome <;> rfl] at q1
    exact post _ _ _ _ _ q1 e1 R1 (.bl _)
  | int i =>
    cases n1
    exact ⟨rfl, .inr ⟨i, rfl, post _ _ _ _ _ (show Q' (.bl true) δ1 from q1) e1 R1 (.bl _)⟩⟩
  | _ => exact q1.elim
theorem de_gcNotIn (gl : Gl X x) (h : GD X.K X.w X.mg x kvs) (ha : DE X E e da) (hd : (x == ("__debug__" : Str)) = false := by decide) : DE X E (.Compare e [.NotIn] [.Name x p] pos) (dGcIn true kvs da) := by
  obtain ⟨a, es, n, h1, h2, h3⟩ := h.read
  exact ⟨fun B => pe_mono (pe_cmpR (op_notIn_kd2 h2) (ha.run B) (pe_glob gl h1 (show RelV (.ref a) (.ref a) from rfl) hd) (by with_unfolding_all rfl)) fun σ H Q q => gcNotIn_read h3 q⟩
theorem dt_gcNotIn (gl : Gl X x) (h : GD X.K X.w X.mg x kvs) (ha : DE X E e da) (hd : (x == ("__debug__" : Str)) = false := by decide) : DT X E (.Compare e [.NotIn] [.Name x p] pos) (dB (dGcIn true kvs da)) := by
  obtain ⟨a, es, n, h1, h2, h3⟩ := h.read
  exact ⟨fun B => pt_mono (pt_cmpR (op_notIn_kd2 h2) (ha.run B) (pe_glob gl h1 (show RelV (.ref a) (.ref a) from rfl) hd) (by with_unfolding_all rfl)) fun σ H Q q => gcNotIn_read (Q := fun x H' => ∃ k, x = .bl k ∧ Q k H') h3 (lift_B q)⟩
end
/-! ## Dicts of the module with bool keys -/
def bI (b : Bool) : Int := if b = true then 1 else 0
/-- x names a dict of the module: bools are its keys -/
def GB (K : PySem.W.Frag) (mg : Str → Option Value) (x : Str) (kvs : List (Bool × D)) : Prop :=
  ∃ (a : Addr) (es : Array DictEntry) (n : Nat) (us : List Value) (vs : List V), mg x = some (.ref a) ∧ K.lookup a = some ⟨.type "dict", none, .dict es n, #[]⟩ ∧ Paired (fun (e : DictEntry) (p : Bool × Value) => e.key = .bool p.1 ∧ e.hash = hashInt (bI p.1) ∧ e.val = p.2) es.toList ((kvs.map (·.1)).zip us) ∧ us.length = kvs.length ∧ Vals vs us ∧ ∀ S, DnA K S vs (kvs.map (·.2))
def lookB {α : Type} (kvs : List (Bool × α)) (z : Bool) : Option α := (kvs.find? fun p => p.1 == z).map (·.2)
theorem leaf_b (P : Program) (w : World) (b : Bool) : (leafKind P w).is (.num (bI b)) (.bool b) = true := by cases b <;> rfl
theorem find_entryB {z : Bool} {P : Program} {w : World} : ∀ {es : List DictEntry} {ps : List (Bool × Value)}, Paired (fun (e : DictEntry) (p : Bool × Value) => e.key = .bool p.1 ∧ e.hash = hashInt (bI p.1) ∧ e.val = p.2) es ps →
    (es.find? fun e => (leafKind P w).is (.num (bI z)) e.key).map (·.val) = lookB ps z
  | _, _, .nil => rfl
  | e :: es, p :: ps, .cons ⟨h1, _, h2⟩ r => by
    have i1 := find_entryB (z := z) (P := P) (w := w) r
    have k : (leafKind P w).is (.num (bI z)) e.key = (p.1 == z) := by
      rw [h1]
      cases p.1 <;> cases z <;> rfl
    unfold lookB at i1 ⊢
    rw [List.find?_cons, List.find?_cons, k]
    cases p.1 == z with
    | true => simp [h2]
    | false => exact i1
theorem pairedB_all {z : Bool} : ∀ {es : List DictEntry} {ps : List (Bool × Value)}, Paired (fun (e : DictEntry) (p : Bool × Value) => e.key = .bool p.1 ∧ e.hash = hashInt (bI p.1) ∧ e.val = p.2) es ps → ∀ e ∈ es, ∃ b, e.key = .bool b ∧ e.hash = hashInt (bI b)
  | _, _, .cons ⟨h1, h2, _⟩ _, _, .head _ => ⟨_, h1, h2⟩
  | _, _, .cons _ r, _, .tail _ m => pairedB_all (z := z) r _ m
theorem look_zipB {z : Bool} : ∀ {ks : List Bool} {us : List Value} {vs : List V} {ds : List D}, us.length = ks.length → Vals vs us → DnA K S vs ds →
    (lookB (ks.zip us) z = none ∧ lookB (ks.zip ds) z = none) ∨ ∃ u v d, lookB (ks.zip us) z = some u ∧ RelV v u ∧ Dn K S v d ∧ lookB (ks.zip ds) z = some d
  | [], _, _, _, _, _, _ => .inl ⟨rfl, rfl⟩
  | k :: ks, [], _, _, h, _, _ => by simp at h
  | k :: ks, u :: us, v :: vs, d :: ds, h, .cons r rs, .cons n ns => by
    have ih := look_zipB (z := z) (ks := ks) (us := us) (by simpa using h) rs ns
    unfold lookB at ih ⊢
    simp only [List.zip_cons_cons, List.find?_cons]
    cases k == z with
    | true => exact .inr ⟨u, v, d, rfl, r, n, rfl⟩
    | false => exact ih
theorem zip_selfB (kvs : List (Bool × D)) : (kvs.map (·.1)).zip (kvs.map (·.2)) = kvs := by
  induction kvs with
  | nil => rfl
  | cons p l ih => simp [ih]
theorem ix_kb {X : Cx} {a : Addr} {es : Array DictEntry} {n : Nat} {kvs : List (Bool × Value)} (hl : X.K.lookup a = some ⟨.type "dict", none, .dict es n, #[]⟩) (hp : Paired (fun (e : DictEntry) (p : Bool × Value) => e.key = .bool p.1 ∧ e.hash = hashInt (bI p.1) ∧ e.val = p.2) es.toList kvs) :
    IxR X (fun x y H Q => ∃ (b : Bool) (u : Value) (v : V), x = .ref a ∧ y = .bl b ∧ lookB kvs b = some u ∧ RelV v u ∧ Q v H) := by
  intro value slice pins s σ H x y v u Q I rx ry h hs
  obtain ⟨b, u0, v0, rfl, rfl, e, ru, q⟩ := h
  obtain rfl : v = Value.ref a := rx
  obtain rfl : u = Value.bool b := ry
  have hm : s.heap.MapOf (leafKind X.prog X.w) a (fun k => findBy (leafKind X.prog X.w).is es k) := ⟨_, es, n, I.kIn _ _ hl, ⟨rfl, rfl, rfl⟩, rfl, fun e he => by
    obtain ⟨b, e1, e2⟩ := pairedB_all (z := true) hp e (Array.mem_toList_iff.mpr he)
    exact ⟨.num (bI b), by rw [e1]; exact leaf_b _ _ b, e2⟩, fun _ => rfl⟩
  have f1 : findBy (leafKind X.prog X.w).is es (.num (bI b)) = some u0 := by
    obtain ⟨l⟩ := es
    unfold findBy
    rw [List.find?_toArray, find_entryB hp, e]
  exact tail_any hm.typeIs slot_dict_getitem.lookup (wpAny_getItem_of (leaf_b X.prog X.w b) hm f1 ⟨v0, H, I.tok _, ru, q⟩) hs
section
variable {X : Cx} {E : EK} {x : Str} {e : Expr} {pos p : Pos} {da : dE} {kvs : List (Bool × D)}
/-- NAME[e], e a bool -/
def dGbIx (kvs : List (Bool × D)) (da : dE) : dE := fun W δ Q => da W δ fun y δ1 => match y with
  | .bl z => optQ (lookB kvs z) fun d => Q d δ1
  | _ => False
theorem de_gbIx (gl : Gl X x) (h : GB X.K X.mg x kvs) (ha : DE X E e da) (hs : PlainIx e) (hd : (x == ("__debug__" : Str)) = false := by decide) : DE X E (.Subscript (.Name x p) e pos) (dGbIx kvs da) := by
  obtain ⟨a, es, n, us, vs, h1, h2, h3, h4, h5, h6⟩ := h
  refine ⟨fun B => pe_mono (pe_ix (ix_kb h2 h3) (pe_glob gl h1 (show RelV (.ref a) (.ref a) from rfl) hd) (ha.run B) hs) fun σ H Q q => ?_⟩
  obtain ⟨δ, S, W, Q', R, q, xo, post⟩ := q
  refine ⟨δ, S, W, _, R, q, xo, fun y δ1 v S1 H1 q1 e1 R1 n1 => ?_⟩
  cases y with
  | bl z =>
    cases n1
    obtain ⟨d, e2, q2⟩ := optQ_ex q1
    rcases look_zipB (z := z) (ks := kvs.map (·.1)) (by simpa using h4) h5 (h6 S1) with ⟨_, r2⟩ | ⟨u, v, d', r1, r2, r3, r4⟩
    · rw [zip_selfB] at r2; rw [r2] at e2; cases e2
    · rw [zip_selfB] at r4; rw [r4] at e2; cases e2
      exact ⟨z, u, v, rfl, rfl, r1, r2, post _ _ _ _ _ q2 e1 R1 r3⟩
  | _ => exact q1.elim
end
end Ev

namespace Ev83
open PySem PySem.Spec PyProof.Rows L2 Ev
local macro_rules
  | `(tactic| simp only [DSIMP, $as,*] $[$l:location]?) => `(tactic| simp only [dGcIn, dGbIx, dGdIn, dGdIx, dListRg, rDictPf, dZipL, dListKo, dEmptyT, dDispT1, dNeE, rListA, rDictPT, rIsTF, dGroup, rSrtA, rLenA, dInV, dIxV, dCount, dSortKo, dCallR, adD, gL, dDN, dLN, wNest, bNest, bEl, bEd, dZip, seqOf, dSortDK, dCallV, dCallLam, optQ, dEnum, D.nf, D.nfs, Ev.rSumD, dLock, dKeysI, gStarD, dReverse, dMove, dDGet2, getD2, D.isD, dDisp, dPairs, keysD, Ev.rMaxD, Ev.rMinD, rDictP, Option.getD_some, Option.getD_none, Ev.D.eq_refl, dPen1, dLenSet, dSrtR, dRo, dRoF, dRoT, roD, ro_un, ro_dat, ro_own, ro_hp, ro_law, ro_ownK, ro_ownT, List.forall_mem_map, flat_int, flat_str, flat_bl, flat_non, solid_int, solid_str, solid_bl, solid_non, solid_tup, solids_nil, solids_cons, dSeq, dNext, dSet, dSetF, setSl, dVar, dTake, dC, dBin, dBinF, dB, dIfS, dIf, dRet, dRetN, dExpr, dNil, dCons, dTup, dLst, dFz, dAnd, dOr, dNot, dAndV, dOrV, dNotV, dCallD, dCallK, dCB, dCBF, dFor, dLC, dYes, dRng1, dRng2, dSeqI, gN, gT, gsNil, gsCons, dAsg, dNeg, dJoin, dFs, dJs, dFmt, dApp, dExt, dPop, dPopAt, dOwnIx, dOwnCB, dOwnL, dOwnR, dOwnSl, dSetIx, dSlT, dSlL, oNone, oSome, dBorn, optQ, ownAt, setOwnAt, lookAt, wipeD, dNewDT, dNewDK, dDGet, dDIn, dDPut, dSortT, rSrt, isDict, Ev.dictGet, Ev.dictPut, Option.isSome_none, Option.isSome_some, D.keyT, keysOf, D.key, exists_eq_left', exists_eq_left, Option.isSome, rRepL, rCatL, dRetF, dIfF, dPar, dRetOwn, dCallL, dCallLK, dPen2, dRev, dRevI, dIndex, endsL, startL, dNever, dBrk, dCnt, rAddD, rSubI, rIO, rMulI, rDivI, rModI, rPowI, rCI, Ev.rIxD, rIsN, rNotN, D.isN, Ev.rLen, rTuple, rList, rAbs, rInt, rStr, Ev.rRepr, Ev.rIsi, D.ty, kit_tab, startD, endsD, List.map_cons, List.map_nil, List.length_cons, List.length_nil, List.append_nil, List.nil_append, List.cons_append, List.getElem?_cons_zero, List.getElem?_cons_succ, List.getElem?_nil, List.set_cons_zero, List.set_cons_succ, List.replicate, List.replicate_succ, Nat.zero_add, Nat.zero_le, sizeLine, true_and, and_true, if_true, Ev.eq_int, Ev.eq_str, Ev.eq_bl, Ev.eq_non, lst_nil, tup_nil, List.map_eq_nil_iff, txt_join, rLt, rLe, rGt, rGe, atI_ofNat, atI_last, wLC, strsOf, intsOf, blsOf, Option.map_some, Ev.join_two, Ev.join_one, Ev.join_nil, List.sum_cons, List.sum_nil, PySem.Str.empty_append, ixN_ofNat, Option.some.injEq, exists_eq', List.length_map, decide_true, decide_false, Bool.not_true, Bool.not_false, Bool.true_eq_false, Bool.false_eq_true, false_and, and_false, if_false, ite_true, ite_false, Nat.reduceAdd, Nat.reduceSub, Nat.reduceMul, Nat.reduceLT, Nat.reduceLeDiff, Nat.reduceEqDiff, Nat.reducePow, Int.reduceToNat, Int.reducePow, pickL, List.filterMap_cons, List.filterMap_nil, and_self, Int.reduceLT, Int.reduceLE, Int.reduceNeg, Int.reduceAdd, Int.reduceMul, Int.reduceSub, Int.reduceEq, reduceIte, reduceCtorEq, lit_eq, String.reduceEq, Ev.rEq, Ev.rNe, Ev.rInD, cut_toN, cut_fromN, List.map_take, List.forall_mem_cons, List.forall_mem_nil, List.not_mem_nil, false_imp_iff, implies_true, forall_const, D.cm, D.lay, D.lays, D.dep, D.deps, strOk_lit, lays_ints, deps_ints, Nat.max_self, Nat.max_zero, Nat.zero_max, Bool.and_self, Bool.true_and, Bool.and_true, Bool.and_false, Bool.false_and, Bool.or_false, Bool.or_true, Bool.true_or, Bool.false_or, List.any_cons, List.any_nil, decide_eq_true_eq, eq_self, $as,*] $[$l]?)
  | `(tactic| simp only [DSIMP] $[$l:location]?) => `(tactic| simp only [dGcIn, dGbIx, dGdIn, dGdIx, dListRg, rDictPf, dZipL, dListKo, dEmptyT, dDispT1, dNeE, rListA, rDictPT, rIsTF, dGroup, rSrtA, rLenA, dInV, dIxV, dCount, dSortKo, dCallR, adD, gL, dDN, dLN, wNest, bNest, bEl, bEd, dZip, seqOf, dSortDK, dCallV, dCallLam, optQ, dEnum, D.nf, D.nfs, Ev.rSumD, dLock, dKeysI, gStarD, dReverse, dMove, dDGet2, getD2, D.isD, dDisp, dPairs, keysD, Ev.rMaxD, Ev.rMinD, rDictP, Option.getD_some, Option.getD_none, Ev.D.eq_refl, dPen1, dLenSet, dSrtR, dRo, dRoF, dRoT, roD, ro_un, ro_dat, ro_own, ro_hp, ro_law, ro_ownK, ro_ownT, List.forall_mem_map, flat_int, flat_str, flat_bl, flat_non, solid_int, solid_str, solid_bl, solid_non, solid_tup, solids_nil, solids_cons, dSeq, dNext, dSet, dSetF, setSl, dVar, dTake, dC, dBin, dBinF, dB, dIfS, dIf, dRet, dRetN, dExpr, dNil, dCons, dTup, dLst, dFz, dAnd, dOr, dNot, dAndV, dOrV, dNotV, dCallD, dCallK, dCB, dCBF, dFor, dLC, dYes, dRng1, dRng2, dSeqI, gN, gT, gsNil, gsCons, dAsg, dNeg, dJoin, dFs, dJs, dFmt, dApp, dExt, dPop, dPopAt, dOwnIx, dOwnCB, dOwnL, dOwnR, dOwnSl, dSetIx, dSlT, dSlL, oNone, oSome, dBorn, optQ, ownAt, setOwnAt, lookAt, wipeD, dNewDT, dNewDK, dDGet, dDIn, dDPut, dSortT, rSrt, isDict, Ev.dictGet, Ev.dictPut, Option.isSome_none, Option.isSome_some, D.keyT, keysOf, D.key, exists_eq_left', exists_eq_left, Option.isSome, rRepL, rCatL, dRetF, dIfF, dPar, dRetOwn, dCallL, dCallLK, dPen2, dRev, dRevI, dIndex, endsL, startL, dNever, dBrk, dCnt, rAddD, rSubI, rIO, rMulI, rDivI, rModI, rPowI, rCI, Ev.rIxD, rIsN, rNotN, D.isN, Ev.rLen, rTuple, rList, rAbs, rInt, rStr, Ev.rRepr, Ev.rIsi, D.ty, kit_tab, startD, endsD, List.map_cons, List.map_nil, List.length_cons, List.length_nil, List.append_nil, List.nil_append, List.cons_append, List.getElem?_cons_zero, List.getElem?_cons_succ, List.getElem?_nil, List.set_cons_zero, List.set_cons_succ, List.replicate, List.replicate_succ, Nat.zero_add, Nat.zero_le, sizeLine, true_and, and_true, if_true, Ev.eq_int, Ev.eq_str, Ev.eq_bl, Ev.eq_non, lst_nil, tup_nil, List.map_eq_nil_iff, txt_join, rLt, rLe, rGt, rGe, atI_ofNat, atI_last, wLC, strsOf, intsOf, blsOf, Option.map_some, Ev.join_two, Ev.join_one, Ev.join_nil, List.sum_cons, List.sum_nil, PySem.Str.empty_append, ixN_ofNat, Option.some.injEq, exists_eq', List.length_map, decide_true, decide_false, Bool.not_true, Bool.not_false, Bool.true_eq_false, Bool.false_eq_true, false_and, and_false, if_false, ite_true, ite_false, Nat.reduceAdd, Nat.reduceSub, Nat.reduceMul, Nat.reduceLT, Nat.reduceLeDiff, Nat.reduceEqDiff, Nat.reducePow, Int.reduceToNat, Int.reducePow, pickL, List.filterMap_cons, List.filterMap_nil, and_self, Int.reduceLT, Int.reduceLE, Int.reduceNeg, Int.reduceAdd, Int.reduceMul, Int.reduceSub, Int.reduceEq, reduceIte, reduceCtorEq, lit_eq, String.reduceEq, Ev.rEq, Ev.rNe, Ev.rInD, cut_toN, cut_fromN, List.map_take, List.forall_mem_cons, List.forall_mem_nil, List.not_mem_nil, false_imp_iff, implies_true, forall_const, D.cm, D.lay, D.lays, D.dep, D.deps, strOk_lit, lays_ints, deps_ints, Nat.max_self, Nat.max_zero, Nat.zero_max, Bool.and_self, Bool.true_and, Bool.and_true, Bool.and_false, Bool.false_and, Bool.or_false, Bool.or_true, Bool.true_or, Bool.false_or, List.any_cons, List.any_nil, decide_eq_true_eq, eq_self] $[$l]?)
variable [TabC]
def kc_INPUTS : List (Str × D) := [("move", .str "s"), ("press", .str "u"), ("release", .str "u"), ("key", .str "o")]
def kc_TRUTHS : List (Bool × D) := [(true, .str "yes"), (false, .str "no")]
def topS (i : Nat) : Stmt := PySem.Challenge.pw_eventrooms_k83_logs_written.main.body.getD i (.Pass ⟨0, 0, 0, 0⟩)
def sp__law_draw : dSp := spDraw 65536
abbrev s__law_draw : Stmt := topS 9
abbrev n__law_draw : List Str := ["_law_pen_here", "_law_many", "_law_digit", "_law_here", "_law_cell", "_law_low", "_law_stirred"]
theorem sc__law_draw : FnScope n__law_draw ["_law_pen_here", "_law_many"] (defScope s__law_draw) := ⟨rfl, rfl, rfl, by decide +kernel, rfl, by decide +kernel, by decide +kernel⟩
def p__law_draw_x2_0 : dS := (dSet 2 (dBin rModI (dOwnIx 0 (dC (.int 2))) (dVar 1)))
def p__law_draw_x2_1 : dS := (dSetIx 0 (dC (.int 2)) (dBin rDivI (dOwnIx 0 (dC (.int 2))) (dVar 1)))
def p__law_draw_x2_2 : dS := (dRet (dVar 2))
def b__law_draw_x2_2 : dS := p__law_draw_x2_2
def b__law_draw_x2_1 : dS := dSeq p__law_draw_x2_1 b__law_draw_x2_2
def b__law_draw_x2_0 : dS := dSeq p__law_draw_x2_0 b__law_draw_x2_1
def p__law_draw_x3_0 : dS := (dSetIx 0 (dC (.int 2)) (dBin rDivI (dCB rAbs (dCons (dVar 4) dNil)) (dVar 1)))
def p__law_draw_x3_1 : dS := (dRet (dBin rModI (dCB rAbs (dCons (dVar 4) dNil)) (dVar 1)))
def b__law_draw_x3_1 : dS := p__law_draw_x3_1
def b__law_draw_x3_0 : dS := dSeq p__law_draw_x3_0 b__law_draw_x3_1
def p__law_draw_0 : dS := (dIfS (dB (dBin (rGt) (dOwnIx 0 (dC (.int 2))) (dC (.int 0)))) b__law_draw_x2_0 dNext)
def p__law_draw_1 : dS := (dSet 3 (dOwnIx 0 (dC (.int 1))))
def p__law_draw_2 : dS := (dSetIx 0 (dC (.int 1)) (dBin rAddD (dVar 3) (dC (.int 1))))
def p__law_draw_3 : dS := (dSet 4 (dBin rAddD (dBin rMulI (dC (.int 98009)) (dVar 3)) (dC (.int 97))))
def p__law_draw_4 : dS := (dIfS (dB (dBin (rGt) (dCB rLen (dCons (dOwnIx 0 (dC (.int 0))) dNil)) (dC (.int 0)))) (dSet 4 (dBin rIxD (dOwnIx 0 (dC (.int 0))) (dBin rModI (dVar 3) (dCB rLen (dCons (dOwnIx 0 (dC (.int 0))) dNil))))) dNext)
def p__law_draw_5 : dS := (dIfS (dAnd (dB (dBin (rLt) (dVar 3) (dCB rLen (dCons (dOwnIx 0 (dC (.int 0))) dNil)))) (dB (dBin (rGe) (dCB rAbs (dCons (dVar 4) dNil)) (dBin rPowI (dC (.int 10)) (dC (.int 18)))))) b__law_draw_x3_0 dNext)
def p__law_draw_6 : dS := (dSet 5 (dBin rAddD (dBin rAddD (dBin rAddD (dBin rModI (dVar 4) (dC (.int 2147483497))) (dBin rMulI (dBin rMulI (dC (.int 20021)) (dVar 3)) (dVar 3))) (dBin rMulI (dC (.int 60013)) (dVar 3))) (dC (.int 89))))
def p__law_draw_7 : dS := (dSet 6 (dBin rModI (dBin rPowI (dVar 5) (dC (.int 3))) (dC (.int 2147483629))))
def p__law_draw_8 : dS := (dSet 6 (dBin rModI (dBin rMulI (dBin rPowI (dBin rAddD (dBin rAddD (dVar 6) (dBin rMulI (dC (.int 41)) (dVar 3))) (dC (.int 23))) (dC (.int 2))) (dBin rAddD (dBin rModI (dVar 6) (dC (.int 50021))) (dC (.int 29)))) (dC (.int 2147483549))))
def p__law_draw_9 : dS := (dRet (dBin rModI (dBin rDivI (dVar 6) (dC (.int 64))) (dVar 1)))
def b__law_draw_9 : dS := p__law_draw_9
def b__law_draw_8 : dS := dSeq p__law_draw_8 b__law_draw_9
def b__law_draw_7 : dS := dSeq p__law_draw_7 b__law_draw_8
def b__law_draw_6 : dS := dSeq p__law_draw_6 b__law_draw_7
def b__law_draw_5 : dS := dSeq p__law_draw_5 b__law_draw_6
def b__law_draw_4 : dS := dSeq p__law_draw_4 b__law_draw_5
def b__law_draw_3 : dS := dSeq p__law_draw_3 b__law_draw_4
def b__law_draw_2 : dS := dSeq p__law_draw_2 b__law_draw_3
def b__law_draw_1 : dS := dSeq p__law_draw_1 b__law_draw_2
def b__law_draw_0 : dS := dSeq p__law_draw_0 b__law_draw_1
def b__law_draw : dS := b__law_draw_0
theorem run__law_draw {P : Program} {w : World} {K : PySem.W.Frag} {mg : Str → Option Value} {base : Heap} (m_abs : mg "abs" = none) (m_len : mg "len" = none) {f : Addr} (cdv : Value) (A : Around) (out : List Env) (s : Shared) (H : Hp) (E : XK) (g : A.guards = some []) (hrA : Room 0 (A.deeper (envOfC "_law_draw" (defScope s__law_draw) s.heap.objs.size f cdv))) :
  DSs (cx0 P w K mg base n__law_draw "_law_draw" (defScope s__law_draw) f cdv A out s H E) E00 (defBody s__law_draw) b__law_draw := by
 have hgA : (A.deeper (envOfC "_law_draw" (defScope s__law_draw) s.heap.objs.size f cdv)).guards = some [] := g
 have hun := hrA.un
 exact (dss_cons (t := p__law_draw_0) (u := b__law_draw_1) (ds_if (dt_cmp (od_gt) (de_ownIx (pv 0) de_int (fun _ _ => rfl)) de_int (nomark _)) (dss_cons (t := p__law_draw_x2_0) (u := b__law_draw_x2_1) (ds_set (i := 2) sc__law_draw.nd rfl (by first | exact .inl rfl | exact .inr rfl) (de_op od_mod (de_ownIx (pv 0) de_int (fun _ _ => rfl)) (de_var (pv 1))))
  (dss_cons (t := p__law_draw_x2_1) (u := b__law_draw_x2_2) (ds_setIx (pv 0) de_int (de_op od_div (de_ownIx (pv 0) de_int (fun _ _ => rfl)) (de_var (pv 1))))
  (dss_one (t := p__law_draw_x2_2) (ds_ret (de_var (pv 2)))))) dss_nil)
  (dss_cons (t := p__law_draw_1) (u := b__law_draw_2) (ds_set (i := 3) sc__law_draw.nd rfl (by first | exact .inl rfl | exact .inr rfl) (de_ownIx (pv 0) de_int (fun _ _ => rfl)))
  (dss_cons (t := p__law_draw_2) (u := b__law_draw_3) (ds_setIx (pv 0) de_int (de_op od_add (de_var (pv 3)) de_int))
  (dss_cons (t := p__law_draw_3) (u := b__law_draw_4) (ds_set (i := 4) sc__law_draw.nd rfl (by first | exact .inl rfl | exact .inr rfl) (de_op od_add (de_op od_mul de_int (de_var (pv 3))) de_int))
  (dss_cons (t := p__law_draw_4) (u := b__law_draw_5) (ds_if (dt_cmp (od_gt) (de_callB (cd_len) (by rfl) m_len PySem.boot_len (da_cons (de_ownIx (pv 0) de_int (fun _ _ => rfl)) da_nil)) de_int (nomark _)) (dss_one (ds_set (i := 4) sc__law_draw.nd rfl (by first | exact .inl rfl | exact .inr rfl) (de_ix (de_ownIx (pv 0) de_int (fun _ _ => rfl)) (de_op od_mod (de_var (pv 3)) (de_callB (cd_len) (by rfl) m_len PySem.boot_len (da_cons (de_ownIx (pv 0) de_int (fun _ _ => rfl)) da_nil))) (fun _ _ => rfl)))) dss_nil)
  (dss_cons (t := p__law_draw_5) (u := b__law_draw_6) (ds_if ((dw_and (dt_cmp (od_lt) (de_var (pv 3)) (de_callB (cd_len) (by rfl) m_len PySem.boot_len (da_cons (de_ownIx (pv 0) de_int (fun _ _ => rfl)) da_nil)) (nomark _)) (dw_and1 (dt_cmp (od_ge) (de_callB (cd_abs) (by rfl) m_abs (by decide +kernel) (da_cons (de_var (pv 4)) da_nil)) (de_op od_pow de_int de_int) (nomark _))))).dt (dss_cons (t := p__law_draw_x3_0) (u := b__law_draw_x3_1) (ds_setIx (pv 0) de_int (de_op od_div (de_callB (cd_abs) (by rfl) m_abs (by decide +kernel) (da_cons (de_var (pv 4)) da_nil)) (de_var (pv 1))))
  (dss_one (t := p__law_draw_x3_1) (ds_ret (de_op od_mod (de_callB (cd_abs) (by rfl) m_abs (by decide +kernel) (da_cons (de_var (pv 4)) da_nil)) (de_var (pv 1)))))) dss_nil)
  (dss_cons (t := p__law_draw_6) (u := b__law_draw_7) (ds_set (i := 5) sc__law_draw.nd rfl (by first | exact .inl rfl | exact .inr rfl) (de_op od_add (de_op od_add (de_op od_add (de_op od_mod (de_var (pv 4)) de_int) (de_op od_mul (de_op od_mul de_int (de_var (pv 3))) (de_var (pv 3)))) (de_op od_mul de_int (de_var (pv 3)))) de_int))
  (dss_cons (t := p__law_draw_7) (u := b__law_draw_8) (ds_set (i := 6) sc__law_draw.nd rfl (by first | exact .inl rfl | exact .inr rfl) (de_op od_mod (de_op od_pow (de_var (pv 5)) de_int) de_int))
  (dss_cons (t := p__law_draw_8) (u := b__law_draw_9) (ds_set (i := 6) sc__law_draw.nd rfl (by first | exact .inl rfl | exact .inr rfl) (de_op od_mod (de_op od_mul (de_op od_pow (de_op od_add (de_op od_add (de_var (pv 6)) (de_op od_mul de_int (de_var (pv 3)))) de_int) de_int) (de_op od_add (de_op od_mod (de_var (pv 6)) de_int) de_int)) de_int))
  (dss_one (t := p__law_draw_9) (ds_ret (de_op od_mod (de_op od_div (de_var (pv 6)) de_int) (de_var (pv 1))))))))))))))
theorem hsp__law_draw : ∀ (ns : List Int) (k m n : Int), ns.length ≤ 63 → 0 ≤ k → k < (65536 : Nat) → 0 ≤ m → 0 < n → n < 1000000 →
      b__law_draw W0 { nx := fun _ => False, rt := fun x δ => ∃ r k' m' : Int, x = .int r ∧ 0 ≤ r ∧ r < n ∧ 0 ≤ k' ∧ k' ≤ k + 1 ∧ 0 ≤ m' ∧ δ.sl[0]? = some (.hp (penD ns k' m')) } ⟨.hp (penD ns k m) :: .dat (.int n) :: List.replicate (n__law_draw.length - 2) .un, none⟩ := by
  intro ns k m n hl k0 k1 m0 n0 n1
  have ab : ∀ i : Int, 0 ≤ (if i < 0 then -i else i) := fun i => by split <;> omega
  have dv : ∀ i : Int, 0 ≤ i → 0 ≤ i / n := fun i h => Int.ediv_nonneg h (by omega)
  by_cases hm : 0 < m
  · simp only [DSIMP, b__law_draw, n__law_draw, p__law_draw_x2_0, p__law_draw_x2_1, p__law_draw_x2_2, b__law_draw_x2_2, b__law_draw_x2_1, b__law_draw_x2_0, p__law_draw_x3_0, p__law_draw_x3_1, b__law_draw_x3_1, b__law_draw_x3_0, p__law_draw_0, p__law_draw_1, p__law_draw_2, p__law_draw_3, p__law_draw_4, p__law_draw_5, p__law_draw_6, p__law_draw_7, p__law_draw_8, p__law_draw_9, b__law_draw_9, b__law_draw_8, b__law_draw_7, b__law_draw_6, b__law_draw_5, b__law_draw_4, b__law_draw_3, b__law_draw_2, b__law_draw_1, b__law_draw_0, penD, hm]
    refine ⟨n0, ⟨n0, by omega⟩, _, _, _, rfl, Int.emod_nonneg _ (by omega), Int.emod_lt_of_pos _ n0, k0, by omega, dv _ m0, rfl⟩
  · have t0 := mul_bnd (a := 20021 * k) (b := k) (A := 20021 * 65536) (B := 65536) (by omega) (by omega) k0 (by omega)
    have leaf : ∀ c : Int, CMul 20021 k ∧ CMul (20021 * k) k ∧ CMul 60013 k ∧ CPow (c % 2147483497 + 20021 * k * k + 60013 * k + 89) 3 ∧ CMul 41 k ∧ ∀ low : Int, 0 ≤ low → low < 2147483629 → CPow (low + 41 * k + 23) 2 ∧ CMul ((low + 41 * k + 23) ^ 2) (low % 50021 + 29) := fun c =>
      ⟨.inl ⟨by decide, by decide⟩, .inr ⟨by omega, by omega⟩, .inl ⟨by decide, by decide⟩, ⟨by decide, by decide, by omega⟩, .inl ⟨by decide, by decide⟩, fun low h1 h2 => ⟨⟨by decide, by decide, by omega⟩, .inr ⟨by omega, by omega⟩⟩⟩
    have fin : ∀ c : Int, ∃ r k' m' : Int, D.int (c % n) = D.int r ∧ 0 ≤ r ∧ r < n ∧ 0 ≤ k' ∧ k' ≤ k + 1 ∧ 0 ≤ m' ∧ Sl.hp [D.lst (ns.map D.int), D.int (k + 1), D.int m] = Sl.hp [D.lst (ns.map D.int), D.int k', D.int m'] := fun c =>
      ⟨_, _, _, rfl, Int.emod_nonneg _ (by omega), Int.emod_lt_of_pos _ n0, by omega, by omega, m0, rfl⟩
    have all : ∀ c : Int, _ := fun c => leaf c
    have cm : CMul 98009 k := .inl ⟨by decide, by decide⟩
    have cd : ∀ z : Int, CDiv z 64 := fun _ => ⟨by decide, by decide⟩
    have low : ∀ z : Int, 0 ≤ z % 2147483629 ∧ z % 2147483629 < 2147483629 := fun z => ⟨Int.emod_nonneg _ (by decide), Int.emod_lt_of_pos _ (by decide)⟩
    by_cases h0 : (0 : Int) < ns.length
    · obtain ⟨c, hc⟩ := cell_at (k := k) h0
      obtain ⟨l1, l2, l3, l4, l5, l6⟩ := leaf c
      by_cases hk : k < ns.length
      · by_cases hb : 1000000000000000000 ≤ (if c < 0 then -c else c)
        · simp only [DSIMP, b__law_draw, n__law_draw, p__law_draw_x2_0, p__law_draw_x2_1, p__law_draw_x2_2, b__law_draw_x2_2, b__law_draw_x2_1, b__law_draw_x2_0, p__law_draw_x3_0, p__law_draw_x3_1, b__law_draw_x3_1, b__law_draw_x3_0, p__law_draw_0, p__law_draw_1, p__law_draw_2, p__law_draw_3, p__law_draw_4, p__law_draw_5, p__law_draw_6, p__law_draw_7, p__law_draw_8, p__law_draw_9, b__law_draw_9, b__law_draw_8, b__law_draw_7, b__law_draw_6, b__law_draw_5, b__law_draw_4, b__law_draw_3, b__law_draw_2, b__law_draw_1, b__law_draw_0, penD, hm, h0, hc, hk, hb]
          exact ⟨cm, ⟨by decide, by decide, by decide⟩, ⟨n0, by omega⟩, n0, _, _, _, rfl, Int.emod_nonneg _ (by omega), Int.emod_lt_of_pos _ n0, by omega, by omega, dv _ (ab c), rfl⟩
        · simp only [DSIMP, b__law_draw, n__law_draw, p__law_draw_x2_0, p__law_draw_x2_1, p__law_draw_x2_2, b__law_draw_x2_2, b__law_draw_x2_1, b__law_draw_x2_0, p__law_draw_x3_0, p__law_draw_x3_1, b__law_draw_x3_1, b__law_draw_x3_0, p__law_draw_0, p__law_draw_1, p__law_draw_2, p__law_draw_3, p__law_draw_4, p__law_draw_5, p__law_draw_6, p__law_draw_7, p__law_draw_8, p__law_draw_9, b__law_draw_9, b__law_draw_8, b__law_draw_7, b__law_draw_6, b__law_draw_5, b__law_draw_4, b__law_draw_3, b__law_draw_2, b__law_draw_1, b__law_draw_0, penD, hm, h0, hc, hk, hb]
          exact ⟨cm, ⟨by decide, by decide, by decide⟩, l1, l2, l3, l4, l5, (l6 _ (low _).1 (low _).2).1, (l6 _ (low _).1 (low _).2).2, cd _, n0, fin _⟩
      · simp only [DSIMP, b__law_draw, n__law_draw, p__law_draw_x2_0, p__law_draw_x2_1, p__law_draw_x2_2, b__law_draw_x2_2, b__law_draw_x2_1, b__law_draw_x2_0, p__law_draw_x3_0, p__law_draw_x3_1, b__law_draw_x3_1, b__law_draw_x3_0, p__law_draw_0, p__law_draw_1, p__law_draw_2, p__law_draw_3, p__law_draw_4, p__law_draw_5, p__law_draw_6, p__law_draw_7, p__law_draw_8, p__law_draw_9, b__law_draw_9, b__law_draw_8, b__law_draw_7, b__law_draw_6, b__law_draw_5, b__law_draw_4, b__law_draw_3, b__law_draw_2, b__law_draw_1, b__law_draw_0, penD, hm, h0, hc, hk]
        exact ⟨cm, l1, l2, l3, l4, l5, (l6 _ (low _).1 (low _).2).1, (l6 _ (low _).1 (low _).2).2, cd _, n0, fin _⟩
    · have hk : ¬ k < ns.length := by omega
      obtain ⟨l1, l2, l3, l4, l5, l6⟩ := leaf (98009 * k + 97)
      simp only [DSIMP, b__law_draw, n__law_draw, p__law_draw_x2_0, p__law_draw_x2_1, p__law_draw_x2_2, b__law_draw_x2_2, b__law_draw_x2_1, b__law_draw_x2_0, p__law_draw_x3_0, p__law_draw_x3_1, b__law_draw_x3_1, b__law_draw_x3_0, p__law_draw_0, p__law_draw_1, p__law_draw_2, p__law_draw_3, p__law_draw_4, p__law_draw_5, p__law_draw_6, p__law_draw_7, p__law_draw_8, p__law_draw_9, b__law_draw_9, b__law_draw_8, b__law_draw_7, b__law_draw_6, b__law_draw_5, b__law_draw_4, b__law_draw_3, b__law_draw_2, b__law_draw_1, b__law_draw_0, penD, hm, h0, hk]
      exact ⟨cm, l1, l2, l3, l4, l5, (l6 _ (low _).1 (low _).2).1, (l6 _ (low _).1 (low _).2).2, cd _, n0, fin _⟩
theorem ok__law_draw {P : Program} {w : World} {K : PySem.W.Frag} {mg : Str → Option Value} {base : Heap} (m_abs : mg "abs" = none) (m_len : mg "len" = none) {f : Addr} {fd : FuncData} (F : Fun K "_law_draw" "_law_draw" s__law_draw f fd) : FnG P w K mg base CX0 1 f fd ["_law_pen_here", "_law_many"] (spD K 2 sp__law_draw) :=
 fn_pen (top := 65536) F sc__law_draw rfl (fun cdv A out s H E g r => run__law_draw m_abs m_len cdv A out s H E g r) hsp__law_draw
def sp__law_pen : dSp := fun ds p Q _ => ∃ ns, ds = [.scr ns] ∧ ns.length ≤ 63 ∧ p = none ∧ ∀ a, Q (.raw (.ref a)) (some (a, 0))
abbrev s__law_pen : Stmt := topS 8
abbrev n__law_pen : List Str := ["_law_script"]
theorem sc__law_pen : FnScope n__law_pen ["_law_script"] (defScope s__law_pen) := ⟨rfl, rfl, rfl, by decide +kernel, rfl, by decide +kernel, by decide +kernel⟩
def b__law_pen : dS := (dRet (dBorn (dLst (dCons (dFz (dSlL (dVar 0) oNone (oSome (dC (.int 63))))) (dCons (dC (.int 0)) (dCons (dC (.int 0)) dNil))))))
theorem run__law_pen {P : Program} {w : World} {K : PySem.W.Frag} {mg : Str → Option Value} {base : Heap} {f : Addr} (cdv : Value) (A : Around) (out : List Env) (s : Shared) (H : Hp) (E : XK) (g : A.guards = some []) (hrA : Room 0 (A.deeper (envOfC "_law_pen" (defScope s__law_pen) s.heap.objs.size f cdv))) :
  DSs (cx0 P w K mg base n__law_pen "_law_pen" (defScope s__law_pen) f cdv A out s H E) E00 (defBody s__law_pen) b__law_pen := by
 have hgA : (A.deeper (envOfC "_law_pen" (defScope s__law_pen) s.heap.objs.size f cdv)).guards = some [] := g
 have hun := hrA.un
 exact (dss_one (ds_ret (de_born (df_lst (da_cons (de_fz (df_slL (de_var (pv 0)) do_none (do_some de_int))) (da_cons de_int (da_cons de_int da_nil)))))))
theorem hsp__law_pen : ∀ ds p Q W, ds.length = 1 → sp__law_pen ds p Q W → b__law_pen W0 (endsD Q) (startD n__law_pen.length ds p) := by
  rintro _ p Q W - ⟨ns, rfl, hl, rfl, q⟩
  simp only [DSIMP, b__law_pen, n__law_pen]
  exact ⟨ns.take 63, 0, 0, 0, by rw [penD, List.map_take], by simp; omega, by decide, by decide, by decide, q⟩
theorem ok__law_pen {P : Program} {w : World} {K : PySem.W.Frag} {mg : Str → Option Value} {base : Heap} {f : Addr} {fd : FuncData} (F : Fun K "_law_pen" "_law_pen" s__law_pen f fd) : FnG P w K mg base CX0 1 f fd ["_law_script"] (spD K 1 sp__law_pen) :=
 fn_d0 F sc__law_pen rfl (fun cdv A out s H E g r => run__law_pen  cdv A out s H E g r) hsp__law_pen
def sp__law_pick : dSp := fun ds p Q _ => match ds, p with
  | [.raw (.ref a), .lst xs], some (b, c) => a = b ∧ c < 65536 ∧ 0 < xs.length ∧ xs.length < 1000000 ∧ ∀ x ∈ xs, Q x (some (a, c + 1))
  | [.raw (.ref a), .tup xs], some (b, c) => a = b ∧ c < 65536 ∧ 0 < xs.length ∧ xs.length < 1000000 ∧ ∀ x ∈ xs, Q x (some (a, c + 1))
  | _, _ => False
abbrev s__law_pick : Stmt := topS 10
abbrev n__law_pick : List Str := ["_law_pen_here", "_law_some"]
theorem sc__law_pick : FnScope n__law_pick ["_law_pen_here", "_law_some"] (defScope s__law_pick) := ⟨rfl, rfl, rfl, by decide +kernel, rfl, by decide +kernel, by decide +kernel⟩
def b__law_pick : dS := (dRet (dBin rIxD (dVar 1) (dCallD 2 [] sp__law_draw (dCons (dVar 0) (dCons (dCB rLen (dCons (dVar 1) dNil)) dNil)))))
theorem run__law_pick {P : Program} {w : World} {K : PySem.W.Frag} {mg : Str → Option Value} {base : Heap} (m_len : mg "len" = none) (K__law_draw_2 : Def P w K mg base 1 "_law_draw" 2 sp__law_draw []) {f : Addr} (cdv : Value) (A : Around) (out : List Env) (s : Shared) (H : Hp) (E : XK) (g : A.guards = some []) (hrA : Room 1 (A.deeper (envOfC "_law_pick" (defScope s__law_pick) s.heap.objs.size f cdv))) :
  DSs (cx0 P w K mg base n__law_pick "_law_pick" (defScope s__law_pick) f cdv A out s H E) E00 (defBody s__law_pick) b__law_pick := by
 have hgA : (A.deeper (envOfC "_law_pick" (defScope s__law_pick) s.heap.objs.size f cdv)).guards = some [] := g
 have hun := hrA.un
 exact (dss_one (ds_ret (de_ix (de_var (pv 1)) (de_callD K__law_draw_2 hgA hrA (by rfl) (da_cons (de_var (pv 0)) (da_cons (de_callB (cd_len) (by rfl) m_len PySem.boot_len (da_cons (de_var (pv 1)) da_nil)) da_nil))) (fun _ _ => rfl))))
theorem atI_mem {xs : List D} {r : Int} (h0 : 0 ≤ r) (h1 : r < (xs.length : Nat)) : ∃ x ∈ xs, atI xs r = some x := by
  have h2 : r.toNat < xs.length := by omega
  exact ⟨xs[r.toNat], List.getElem_mem h2, by rw [atI_nn h0, List.getElem?_eq_getElem h2]⟩
theorem hsp__law_pick : ∀ ds p Q W, ds.length = 2 → sp__law_pick ds p Q W → b__law_pick W0 (endsD Q) (startD n__law_pick.length ds p) := by
  intro ds p Q W _ h
  unfold sp__law_pick at h
  split at h
  · obtain ⟨rfl, hc, h0, h1, q⟩ := h
    simp only [DSIMP, b__law_pick, n__law_pick, sp__law_draw, spDraw]
    refine ⟨by omega, by omega, hc, fun r r0 r1 => ?_⟩
    obtain ⟨x, hx, e⟩ := atI_mem r0 r1
    rw [e]
    exact q x hx
  · obtain ⟨rfl, hc, h0, h1, q⟩ := h
    simp only [DSIMP, b__law_pick, n__law_pick, sp__law_draw, spDraw]
    refine ⟨by omega, by omega, hc, fun r r0 r1 => ?_⟩
    obtain ⟨x, hx, e⟩ := atI_mem r0 r1
    rw [e]
    exact q x hx
  · exact h.elim
theorem ok__law_pick {P : Program} {w : World} {K : PySem.W.Frag} {mg : Str → Option Value} {base : Heap} (m_len : mg "len" = none) (K__law_draw_2 : Def P w K mg base 1 "_law_draw" 2 sp__law_draw []) {f : Addr} {fd : FuncData} (F : Fun K "_law_pick" "_law_pick" s__law_pick f fd) : FnG P w K mg base CX0 2 f fd ["_law_pen_here", "_law_some"] (spD K 2 sp__law_pick) :=
 fn_d0 F sc__law_pick rfl (fun cdv A out s H E g r => run__law_pick m_len K__law_draw_2 cdv A out s H E g r) hsp__law_pick
theorem int_len {i : Int} (h : i.natAbs < 10 ^ 30) : (Str.ofString (toString i)).length ≤ 31 := by
  rw [Ev.ofString_length]; exact int_text_length_le10 (k := 30) (by decide) h
theorem sum_le {α : Type} (f : α → Nat) (n : Nat) : ∀ {l : List α}, (∀ a ∈ l, f a ≤ n) → (l.map f).sum ≤ n * l.length
  | [], _ => by simp
  | a :: l, h => by
    have h1 := h a List.mem_cons_self
    have h2 := sum_le f n (l := l) fun b hb => h b (List.mem_cons_of_mem _ hb)
    simp only [List.map_cons, List.sum_cons, List.length_cons, Nat.mul_add, Nat.mul_one]
    omega
def lit (i : Int) : Prop := i.natAbs < 100000
theorem lit_small {i : Int} (h : lit i) : i.natAbs < 10 ^ 30 := Nat.lt_trans h (by decide)
theorem lit_log {i : Int} (h : lit i) : i.natAbs.log2 < 1920 := log2_of (lit_small h)
theorem len1 {a : String} (h : a.length = 1 := by decide) : (Str.ofString a).length = 1 := by rw [Ev.ofString_length, h]
inductive It where | int (i : Int) | str (x : Str)
def itD : It → D
  | .int i => .int i
  | .str x => .str x
def itT : It → Str
  | .int i => Str.ofString (toString i)
  | .str x => x
def itOk : It → Prop
  | .int i => lit i
  | .str x => PyData.strOk x = true ∧ x.length ≤ 10
inductive Pc where | it (i : It) | bl (b : Bool) | non | tup (xs : List It)
def listT (xs : List It) : Str := if xs.isEmpty then "-" else Str.join "," (xs.map itT)
theorem listT_ne {xs : List It} (h : xs ≠ []) : listT xs = Str.join "," (xs.map itT) := by
  cases xs with
  | nil => exact absurd rfl h
  | cons x xs => rfl
def pcD : Pc → D
  | .it i => itD i
  | .bl b => .bl b
  | .non => .non
  | .tup xs => .tup (xs.map itD)
def pcT : Pc → Str
  | .it i => itT i
  | .bl b => if b then "yes" else "no"
  | .non => "none"
  | .tup xs => listT xs
def pcOk : Pc → Prop
  | .it i => itOk i
  | .tup xs => xs.length ≤ 10 ∧ ∀ x ∈ xs, itOk x
  | _ => True
theorem it_len {i : It} (h : itOk i) : (itT i).length ≤ 31 := by
  cases i with
  | int i => exact int_len (lit_small h)
  | str x => exact Nat.le_trans h.2 (by decide)
theorem it_ok {i : It} (h : itOk i) : PyData.strOk (itT i) = true := by
  cases i with
  | int i => exact strOk_lit _
  | str x => exact h.1
theorem items_sum {xs : List It} (hl : xs.length ≤ 10) (h : ∀ x ∈ xs, itOk x) : (xs.map fun x => (itT x).length).sum ≤ 310 := by
  have := sum_le (fun i => (itT i).length) 31 (l := xs) fun a ha => it_len (h a ha)
  omega
theorem list_len {xs : List It} (hl : xs.length ≤ 10) (h : ∀ x ∈ xs, itOk x) : (listT xs).length ≤ 400 := by
  unfold listT
  split
  · rw [Ev.ofString_length]; decide
  · refine Nat.le_trans (join2_len _ _) ?_
    rw [List.map_map]
    have h3 : (Str.ofString ",").length = 1 := by decide +kernel
    refine Nat.le_trans (sum_le _ 32 (l := _) fun a ha => ?_) (by omega)
    have := it_len (h a ha)
    show (itT a).length + (Str.ofString ",").length ≤ 32
    omega
theorem list_ok {xs : List It} (h : ∀ x ∈ xs, itOk x) : PyData.strOk (listT xs) = true := by
  unfold listT
  split
  · exact strOk_lit _
  · refine strOk_join (strOk_lit _) _ fun t ht => ?_
    obtain ⟨z, hz, rfl⟩ := List.mem_map.mp ht
    exact it_ok (h z hz)
theorem pc_len {p : Pc} (h : pcOk p) : (pcT p).length ≤ 400 := by
  cases p with
  | it i => exact Nat.le_trans (it_len h) (by decide)
  | bl b => cases b <;> decide +kernel
  | non => simp only [pcT]; rw [Ev.ofString_length]; decide
  | tup xs => exact list_len h.1 h.2
theorem pc_ok {p : Pc} (h : pcOk p) : PyData.strOk (pcT p) = true := by
  cases p with
  | it i => exact it_ok h
  | bl b => cases b <;> exact strOk_lit _
  | non => exact strOk_lit _
  | tup xs => exact list_ok h.2
def sp_show_list : dSp := fun ds p Q _ => ∃ xs : List It, ds = [.tup (xs.map itD)] ∧ xs.length ≤ 10 ∧ (∀ x ∈ xs, itOk x) ∧ Q (.str (listT xs)) p
abbrev s_show_list : Stmt := topS 3
abbrev n_show_list : List Str := ["things", "one"]
theorem sc_show_list : FnScope n_show_list ["things"] (defScope s_show_list) := ⟨rfl, rfl, rfl, by decide +kernel, rfl, by decide +kernel, by decide +kernel⟩
def b_show_list : dS := (dRet (dIf (dB (dBin (rNe) (dVar 0) (dTup dNil))) (dJoin (dC (.str ",")) (dFz (dLC (dSeqI (dVar 0)) (gN 1) dYes (dCB rStr (dCons (dVar 1) dNil)) [1]))) (dC (.str "-"))))
theorem run_show_list {P : Program} {w : World} {K : PySem.W.Frag} {mg : Str → Option Value} {base : Heap} (m_str : mg "str" = none) {f : Addr} (cdv : Value) (A : Around) (out : List Env) (s : Shared) (H : Hp) (E : XK) (g : A.guards = some []) (hrA : Room 0 (A.deeper (envOfC "show_list" (defScope s_show_list) s.heap.objs.size f cdv))) :
  DSs (cx0 P w K mg base n_show_list "show_list" (defScope s_show_list) f cdv A out s H E) E00 (defBody s_show_list) b_show_list := by
 have hgA : (A.deeper (envOfC "show_list" (defScope s_show_list) s.heap.objs.size f cdv)).guards = some [] := g
 have hun := hrA.un
 exact (dss_one (ds_ret (de_if (dt_cmp (od_ne (Nat.lt_of_le_of_lt (Nat.add_le_add_left (by decide) _) hun)) (de_var (pv 0)) (de_tup da_nil) (nomark _)) (de_join de_str (de_fz (df_lc (E2 := E00) (own := [("one", 1)]) rfl sc_show_list.nd (di_seq (de_var (pv 0))) (blkOk_by (N := n_show_list) (sc := (defScope s_show_list)) (own := [("one", 1)]) (by decide +kernel)) (by decide) (fun _ _ _ _ _ => (dg_name (pg_name (i := 1) sc_show_list.nd rfl (by first | exact .inl rfl | exact .inr rfl)))) (fun _ _ _ _ _ => dts_nil) (fun _ _ _ _ _ => (de_callTy (cd_str) (by rfl) m_str (by decide +kernel) (da_cons (de_var (pv 1)) da_nil))))) (fun _ _ _ h => dc_str _ _ _ h)) de_str)))
theorem ne_tup (d : D) (ds : List D) : D.eq (.tup (d :: ds)) (.tup []) = false := by rw [eq_tup]; rfl
theorem its_lays {xs : List It} (h : ∀ x ∈ xs, itOk x) : D.lays (xs.map itD) = true := lays_map fun a ha => by
  cases a with
  | int i => rfl
  | str x => exact h _ ha |>.1
theorem its_deps (xs : List It) : D.deps (xs.map itD) = 0 := by
  induction xs with
  | nil => rfl
  | cons x xs ih =>
    show max (itD x).dep (D.deps (xs.map itD)) = 0
    rw [ih]; cases x <;> rfl
theorem ne_its {xs : List It} (h : xs ≠ []) : D.eq (.tup (xs.map itD)) (.tup []) = false := by
  cases xs with
  | nil => exact absurd rfl h
  | cons x xs => exact ne_tup _ _
theorem items_walk {xs : List It} {g : dG} {vs : List Nat} {Q : List D → DS → Prop} {δ0 : DS} {te : dE} (hl : xs.length ≤ 10) (ok : ∀ x ∈ xs, itOk x)
    (hg : ∀ a ∈ xs, ∀ acc (k : List D → DS → Prop), acc.length < sizeLine → k (acc ++ [.str (itT a)]) δ0 → (∀ i, itD a = .int i → i.natAbs.log2 < 1920) → g (itD a) δ0 fun δ1 => te W0 δ1 fun y δ3 => acc.length < sizeLine ∧ k (acc ++ [y]) (wipeD δ3 vs))
    (q : Q (xs.map fun x => .str (itT x)) δ0) : wLC g dYes te vs Q (xs.map itD) [] δ0 := by
  refine wLC_maps (f := fun x => .str (itT x)) (fun x hx acc k hk w => ?_) (by rw [sizeLine_eq]; omega) q
  refine hg x hx acc k hk w fun i e => ?_
  cases x with
  | int j => have := ok _ hx; injection e with e; subst e; exact lit_log this
  | str y => cases e
theorem hsp_show_list : ∀ ds p Q W, ds.length = 1 → sp_show_list ds p Q W → b_show_list W0 (endsD Q) (startD n_show_list.length ds p) := by
  rintro _ p Q W - ⟨xs, rfl, hl, ok, q⟩
  by_cases ne : xs = []
  · subst ne
    simp only [DSIMP, b_show_list, n_show_list]
    exact q
  · rw [listT_ne ne] at q
    simp only [DSIMP, b_show_list, n_show_list, ne_its ne, its_lays ok, its_deps]
    refine items_walk hl ok (fun a ha acc k hk w hi => ?_) ?_
    · cases a with
      | int i => simp only [DSIMP, itD]; exact ⟨hi i rfl, hk, w⟩
      | str y => simp only [DSIMP, itD]; exact ⟨hk, w⟩
    · rw [strsOf_mapf itT xs]
      refine ⟨?_, q⟩
      rw [List.map_map, List.length_map]
      have := items_sum hl ok
      have h2 : (Str.ofString ",").length = 1 := by decide +kernel
      rw [h2]
      show (xs.map fun x => (itT x).length).sum + _ ≤ _
      omega
theorem ok_show_list {P : Program} {w : World} {K : PySem.W.Frag} {mg : Str → Option Value} {base : Heap} (m_str : mg "str" = none) {f : Addr} {fd : FuncData} (F : Fun K "show_list" "show_list" s_show_list f fd) : FnG P w K mg base CX0 1 f fd ["things"] (spD K 1 sp_show_list) :=
 fn_d0 F sc_show_list rfl (fun cdv A out s H E g r => run_show_list m_str cdv A out s H E g r) hsp_show_list
def sp_show_piece : dSp := fun ds p Q _ => ∃ c, ds = [pcD c] ∧ pcOk c ∧ Q (.str (pcT c)) p
abbrev s_show_piece : Stmt := topS 4
abbrev n_show_piece : List Str := ["thing"]
theorem sc_show_piece : FnScope n_show_piece ["thing"] (defScope s_show_piece) := ⟨rfl, rfl, rfl, by decide +kernel, rfl, by decide +kernel, by decide +kernel⟩
def p_show_piece_0 : dS := (dIfS (dB (dBin (rIsN) (dVar 0) (dC .non))) (dRet (dC (.str "none"))) dNext)
def p_show_piece_1 : dS := (dIfS (dB (dCB (rIsi "bool") (dCons (dVar 0) (dCons (dC (.raw (.ty "bool"))) dNil)))) (dRet (dGbIx kc_TRUTHS (dVar 0))) dNext)
def p_show_piece_2 : dS := (dRet (dIf (dB (dCB (rIsi "tuple") (dCons (dVar 0) (dCons (dC (.raw (.ty "tuple"))) dNil)))) (dCallD 1 [] sp_show_list (dCons (dVar 0) dNil)) (dCB rStr (dCons (dVar 0) dNil))))
def b_show_piece_2 : dS := p_show_piece_2
def b_show_piece_1 : dS := dSeq p_show_piece_1 b_show_piece_2
def b_show_piece_0 : dS := dSeq p_show_piece_0 b_show_piece_1
def b_show_piece : dS := b_show_piece_0
theorem run_show_piece {P : Program} {w : World} {K : PySem.W.Frag} {mg : Str → Option Value} {base : Heap} (kt_TRUTHS : GB K mg "TRUTHS" kc_TRUTHS) (m_bool : mg "bool" = none) (m_isinstance : mg "isinstance" = none) (m_str : mg "str" = none) (m_tuple : mg "tuple" = none) (K_show_list_1 : Def P w K mg base 1 "show_list" 1 sp_show_list []) {f : Addr} (cdv : Value) (A : Around) (out : List Env) (s : Shared) (H : Hp) (E : XK) (g : A.guards = some []) (hrA : Room 1 (A.deeper (envOfC "show_piece" (defScope s_show_piece) s.heap.objs.size f cdv))) :
  DSs (cx0 P w K mg base n_show_piece "show_piece" (defScope s_show_piece) f cdv A out s H E) E00 (defBody s_show_piece) b_show_piece := by
 have hgA : (A.deeper (envOfC "show_piece" (defScope s_show_piece) s.heap.objs.size f cdv)).guards = some [] := g
 have hun := hrA.un
 exact (dss_cons (t := p_show_piece_0) (u := b_show_piece_1) (ds_if (dt_cmp (od_isN) (de_var (pv 0)) de_non (nomark _)) (dss_one (ds_ret de_str)) dss_nil)
  (dss_cons (t := p_show_piece_1) (u := b_show_piece_2) (ds_if (dt_val (de_callB (cd_isi "bool") (by rfl) m_isinstance (by decide +kernel) (da_cons (de_var (pv 0)) (da_cons (de_ty (n := "bool") (by rfl) m_bool (by decide +kernel)) da_nil)))) (dss_one (ds_ret (de_gbIx (by rfl) kt_TRUTHS (de_var (pv 0)) (fun _ _ => rfl)))) dss_nil)
  (dss_one (t := p_show_piece_2) (ds_ret (de_if (dt_val (de_callB (cd_isi "tuple") (by rfl) m_isinstance (by decide +kernel) (da_cons (de_var (pv 0)) (da_cons (de_ty (n := "tuple") (by rfl) m_tuple (by decide +kernel)) da_nil)))) (de_callD K_show_list_1 hgA hrA (by rfl) (da_cons (de_var (pv 0)) da_nil)) (de_callTy (cd_str) (by rfl) m_str (by decide +kernel) (da_cons (de_var (pv 0)) da_nil)))))))
theorem hsp_show_piece : ∀ ds p Q W, ds.length = 1 → sp_show_piece ds p Q W → b_show_piece W0 (endsD Q) (startD n_show_piece.length ds p) := by
  rintro _ p Q W - ⟨c, rfl, ok, q⟩
  cases c with
  | non => simp only [DSIMP, b_show_piece, n_show_piece, p_show_piece_0, p_show_piece_1, p_show_piece_2, b_show_piece_2, b_show_piece_1, b_show_piece_0, pcD]; exact q
  | bl b =>
    cases b with
    | true =>
      have e : lookB kc_TRUTHS true = some (.str "yes") := rfl
      simp only [DSIMP, b_show_piece, n_show_piece, p_show_piece_0, p_show_piece_1, p_show_piece_2, b_show_piece_2, b_show_piece_1, b_show_piece_0, pcD, e]; exact q
    | false =>
      have e : lookB kc_TRUTHS false = some (.str "no") := rfl
      simp only [DSIMP, b_show_piece, n_show_piece, p_show_piece_0, p_show_piece_1, p_show_piece_2, b_show_piece_2, b_show_piece_1, b_show_piece_0, pcD, e]; exact q
  | it i =>
    cases i with
    | int i => simp only [DSIMP, b_show_piece, n_show_piece, p_show_piece_0, p_show_piece_1, p_show_piece_2, b_show_piece_2, b_show_piece_1, b_show_piece_0, pcD, itD]; exact ⟨lit_log ok, q⟩
    | str x => simp only [DSIMP, b_show_piece, n_show_piece, p_show_piece_0, p_show_piece_1, p_show_piece_2, b_show_piece_2, b_show_piece_1, b_show_piece_0, pcD, itD]; exact q
  | tup xs =>
    simp only [DSIMP, b_show_piece, n_show_piece, p_show_piece_0, p_show_piece_1, p_show_piece_2, b_show_piece_2, b_show_piece_1, b_show_piece_0, pcD, sp_show_list]
    exact ⟨xs, rfl, ok.1, ok.2, q⟩
theorem ok_show_piece {P : Program} {w : World} {K : PySem.W.Frag} {mg : Str → Option Value} {base : Heap} (kt_TRUTHS : GB K mg "TRUTHS" kc_TRUTHS) (m_bool : mg "bool" = none) (m_isinstance : mg "isinstance" = none) (m_str : mg "str" = none) (m_tuple : mg "tuple" = none) (K_show_list_1 : Def P w K mg base 1 "show_list" 1 sp_show_list []) {f : Addr} {fd : FuncData} (F : Fun K "show_piece" "show_piece" s_show_piece f fd) : FnG P w K mg base CX0 2 f fd ["thing"] (spD K 1 sp_show_piece) :=
 fn_d0 F sc_show_piece rfl (fun cdv A out s H E g r => run_show_piece kt_TRUTHS m_bool m_isinstance m_str m_tuple K_show_list_1 cdv A out s H E g r) hsp_show_piece
def sp__law_piece : dSp := fun ds p Q _ => ∃ c, ds = [pcD c] ∧ pcOk c ∧ Q (.str (pcT c)) p
abbrev s__law_piece : Stmt := topS 17
abbrev n__law_piece : List Str := ["_law_part", "_law_one"]
theorem sc__law_piece : FnScope n__law_piece ["_law_part"] (defScope s__law_piece) := ⟨rfl, rfl, rfl, by decide +kernel, rfl, by decide +kernel, by decide +kernel⟩
def p__law_piece_0 : dS := (dIfS (dB (dBin (rIsN) (dVar 0) (dC .non))) (dRet (dC (.str "none"))) dNext)
def p__law_piece_1 : dS := (dIfS (dB (dCB (rIsi "bool") (dCons (dVar 0) (dCons (dC (.raw (.ty "bool"))) dNil)))) (dRet (dBin rIxD (dFz (dLst (dCons (dC (.str "no")) (dCons (dC (.str "yes")) dNil)))) (dCB rInt (dCons (dVar 0) dNil)))) dNext)
def p__law_piece_2 : dS := (dIfS (dB (dCB (rIsi "tuple") (dCons (dVar 0) (dCons (dC (.raw (.ty "tuple"))) dNil)))) (dRet (dIf (dB (dBin (rNe) (dVar 0) (dTup dNil))) (dJoin (dC (.str ",")) (dFz (dLC (dSeqI (dVar 0)) (gN 1) dYes (dCB rStr (dCons (dVar 1) dNil)) [1]))) (dC (.str "-")))) dNext)
def p__law_piece_3 : dS := (dRet (dCB rStr (dCons (dVar 0) dNil)))
def b__law_piece_3 : dS := p__law_piece_3
def b__law_piece_2 : dS := dSeq p__law_piece_2 b__law_piece_3
def b__law_piece_1 : dS := dSeq p__law_piece_1 b__law_piece_2
def b__law_piece_0 : dS := dSeq p__law_piece_0 b__law_piece_1
def b__law_piece : dS := b__law_piece_0
theorem run__law_piece {P : Program} {w : World} {K : PySem.W.Frag} {mg : Str → Option Value} {base : Heap} (m_bool : mg "bool" = none) (m_int : mg "int" = none) (m_isinstance : mg "isinstance" = none) (m_str : mg "str" = none) (m_tuple : mg "tuple" = none) {f : Addr} (cdv : Value) (A : Around) (out : List Env) (s : Shared) (H : Hp) (E : XK) (g : A.guards = some []) (hrA : Room 0 (A.deeper (envOfC "_law_piece" (defScope s__law_piece) s.heap.objs.size f cdv))) :
  DSs (cx0 P w K mg base n__law_piece "_law_piece" (defScope s__law_piece) f cdv A out s H E) E00 (defBody s__law_piece) b__law_piece := by
 have hgA : (A.deeper (envOfC "_law_piece" (defScope s__law_piece) s.heap.objs.size f cdv)).guards = some [] := g
 have hun := hrA.un
 exact (dss_cons (t := p__law_piece_0) (u := b__law_piece_1) (ds_if (dt_cmp (od_isN) (de_var (pv 0)) de_non (nomark _)) (dss_one (ds_ret de_str)) dss_nil)
  (dss_cons (t := p__law_piece_1) (u := b__law_piece_2) (ds_if (dt_val (de_callB (cd_isi "bool") (by rfl) m_isinstance (by decide +kernel) (da_cons (de_var (pv 0)) (da_cons (de_ty (n := "bool") (by rfl) m_bool (by decide +kernel)) da_nil)))) (dss_one (ds_ret (de_ix (de_fz (df_lst (da_cons de_str (da_cons de_str da_nil)))) (de_callTy (cd_int) (by rfl) m_int (by decide +kernel) (da_cons (de_var (pv 0)) da_nil)) (fun _ _ => rfl)))) dss_nil)
  (dss_cons (t := p__law_piece_2) (u := b__law_piece_3) (ds_if (dt_val (de_callB (cd_isi "tuple") (by rfl) m_isinstance (by decide +kernel) (da_cons (de_var (pv 0)) (da_cons (de_ty (n := "tuple") (by rfl) m_tuple (by decide +kernel)) da_nil)))) (dss_one (ds_ret (de_if (dt_cmp (od_ne (Nat.lt_of_le_of_lt (Nat.add_le_add_left (by decide) _) hun)) (de_var (pv 0)) (de_tup da_nil) (nomark _)) (de_join de_str (de_fz (df_lc (E2 := E00) (own := [("_law_one", 1)]) rfl sc__law_piece.nd (di_seq (de_var (pv 0))) (blkOk_by (N := n__law_piece) (sc := (defScope s__law_piece)) (own := [("_law_one", 1)]) (by decide +kernel)) (by decide) (fun _ _ _ _ _ => (dg_name (pg_name (i := 1) sc__law_piece.nd rfl (by first | exact .inl rfl | exact .inr rfl)))) (fun _ _ _ _ _ => dts_nil) (fun _ _ _ _ _ => (de_callTy (cd_str) (by rfl) m_str (by decide +kernel) (da_cons (de_var (pv 1)) da_nil))))) (fun _ _ _ h => dc_str _ _ _ h)) de_str))) dss_nil)
  (dss_one (t := p__law_piece_3) (ds_ret (de_callTy (cd_str) (by rfl) m_str (by decide +kernel) (da_cons (de_var (pv 0)) da_nil)))))))
theorem hsp__law_piece : ∀ ds p Q W, ds.length = 1 → sp__law_piece ds p Q W → b__law_piece W0 (endsD Q) (startD n__law_piece.length ds p) := by
  rintro _ p Q W - ⟨c, rfl, ok, q⟩
  cases c with
  | non => simp only [DSIMP, b__law_piece, n__law_piece, p__law_piece_0, p__law_piece_1, p__law_piece_2, p__law_piece_3, b__law_piece_3, b__law_piece_2, b__law_piece_1, b__law_piece_0, pcD]; exact q
  | bl b => cases b <;> simp only [DSIMP, b__law_piece, n__law_piece, p__law_piece_0, p__law_piece_1, p__law_piece_2, p__law_piece_3, b__law_piece_3, b__law_piece_2, b__law_piece_1, b__law_piece_0, pcD] <;> exact q
  | it i =>
    cases i with
    | int i => simp only [DSIMP, b__law_piece, n__law_piece, p__law_piece_0, p__law_piece_1, p__law_piece_2, p__law_piece_3, b__law_piece_3, b__law_piece_2, b__law_piece_1, b__law_piece_0, pcD, itD]; exact ⟨lit_log ok, q⟩
    | str x => simp only [DSIMP, b__law_piece, n__law_piece, p__law_piece_0, p__law_piece_1, p__law_piece_2, p__law_piece_3, b__law_piece_3, b__law_piece_2, b__law_piece_1, b__law_piece_0, pcD, itD]; exact q
  | tup xs =>
    obtain ⟨hl, ok⟩ := ok
    by_cases ne : xs = []
    · subst ne
      simp only [DSIMP, b__law_piece, n__law_piece, p__law_piece_0, p__law_piece_1, p__law_piece_2, p__law_piece_3, b__law_piece_3, b__law_piece_2, b__law_piece_1, b__law_piece_0, pcD]
      exact q
    · have q : Q (.str (listT xs)) p := q
      rw [listT_ne ne] at q
      simp only [DSIMP, b__law_piece, n__law_piece, p__law_piece_0, p__law_piece_1, p__law_piece_2, p__law_piece_3, b__law_piece_3, b__law_piece_2, b__law_piece_1, b__law_piece_0, pcD, ne_its ne, its_lays ok, its_deps]
      refine items_walk hl ok (fun a ha acc k hk w hi => ?_) ?_
      · cases a with
        | int i => simp only [DSIMP, itD]; exact ⟨hi i rfl, hk, w⟩
        | str y => simp only [DSIMP, itD]; exact ⟨hk, w⟩
      · rw [strsOf_mapf itT xs]
        refine ⟨?_, q⟩
        rw [List.map_map, List.length_map]
        have := items_sum hl ok
        have h2 : (Str.ofString ",").length = 1 := by decide +kernel
        rw [h2]
        show (xs.map fun x => (itT x).length).sum + _ ≤ _
        omega
theorem ok__law_piece {P : Program} {w : World} {K : PySem.W.Frag} {mg : Str → Option Value} {base : Heap} (m_bool : mg "bool" = none) (m_int : mg "int" = none) (m_isinstance : mg "isinstance" = none) (m_str : mg "str" = none) (m_tuple : mg "tuple" = none) {f : Addr} {fd : FuncData} (F : Fun K "_law_piece" "_law_piece" s__law_piece f fd) : FnG P w K mg base CX0 1 f fd ["_law_part"] (spD K 1 sp__law_piece) :=
 fn_d0 F sc__law_piece rfl (fun cdv A out s H E g r => run__law_piece m_bool m_int m_isinstance m_str m_tuple cdv A out s H E g r) hsp__law_piece
end Ev83

namespace Ev83
open PySem PySem.Spec PyProof.Rows L2 Ev
local macro_rules
  | `(tactic| simp only [DSIMP, $as,*] $[$l:location]?) => `(tactic| simp only [dGcIn, dGbIx, dGdIn, dGdIx, dListRg, rDictPf, dZipL, dListKo, dEmptyT, dDispT1, dNeE, rListA, rDictPT, rIsTF, dGroup, rSrtA, rLenA, dInV, dIxV, dCount, dSortKo, dCallR, adD, gL, dDN, dLN, wNest, bNest, bEl, bEd, dZip, seqOf, dSortDK, dCallV, dCallLam, optQ, dEnum, D.nf, D.nfs, Ev.rSumD, dLock, dKeysI, gStarD, dReverse, dMove, dDGet2, getD2, D.isD, dDisp, dPairs, keysD, Ev.rMaxD, Ev.rMinD, rDictP, Option.getD_some, Option.getD_none, Ev.D.eq_refl, dPen1, dLenSet, dSrtR, dRo, dRoF, dRoT, roD, ro_un, ro_dat, ro_own, ro_hp, ro_law, ro_ownK, ro_ownT, List.forall_mem_map, flat_int, flat_str, flat_bl, flat_non, solid_int, solid_str, solid_bl, solid_non, solid_tup, solids_nil, solids_cons, dSeq, dNext, dSet, dSetF, setSl, dVar, dTake, dC, dBin, dBinF, dB, dIfS, dIf, dRet, dRetN, dExpr, dNil, dCons, dTup, dLst, dFz, dAnd, dOr, dNot, dAndV, dOrV, dNotV, dCallD, dCallK, dCB, dCBF, dFor, dLC, dYes, dRng1, dRng2, dSeqI, gN, gT, gsNil, gsCons, dAsg, dNeg, dJoin, dFs, dJs, dFmt, dApp, dExt, dPop, dPopAt, dOwnIx, dOwnCB, dOwnL, dOwnR, dOwnSl, dSetIx, dSlT, dSlL, oNone, oSome, dBorn, optQ, ownAt, setOwnAt, lookAt, wipeD, dNewDT, dNewDK, dDGet, dDIn, dDPut, dSortT, rSrt, isDict, Ev.dictGet, Ev.dictPut, Option.isSome_none, Option.isSome_some, D.keyT, keysOf, D.key, exists_eq_left', exists_eq_left, Option.isSome, rRepL, rCatL, dRetF, dIfF, dPar, dRetOwn, dCallL, dCallLK, dPen2, dRev, dRevI, dIndex, endsL, startL, dNever, dBrk, dCnt, rAddD, rSubI, rIO, rMulI, rDivI, rModI, rPowI, rCI, Ev.rIxD, rIsN, rNotN, D.isN, Ev.rLen, rTuple, rList, rAbs, rInt, rStr, Ev.rRepr, Ev.rIsi, D.ty, kit_tab, startD, endsD, List.map_cons, List.map_nil, List.length_cons, List.length_nil, List.append_nil, List.nil_append, List.cons_append, List.getElem?_cons_zero, List.getElem?_cons_succ, List.getElem?_nil, List.set_cons_zero, List.set_cons_succ, List.replicate, List.replicate_succ, Nat.zero_add, Nat.zero_le, sizeLine, true_and, and_true, if_true, Ev.eq_int, Ev.eq_str, Ev.eq_bl, Ev.eq_non, lst_nil, tup_nil, List.map_eq_nil_iff, txt_join, rLt, rLe, rGt, rGe, atI_ofNat, atI_last, wLC, strsOf, intsOf, blsOf, Option.map_some, Ev.join_two, Ev.join_one, Ev.join_nil, List.sum_cons, List.sum_nil, PySem.Str.empty_append, ixN_ofNat, Option.some.injEq, exists_eq', List.length_map, decide_true, decide_false, Bool.not_true, Bool.not_false, Bool.true_eq_false, Bool.false_eq_true, false_and, and_false, if_false, ite_true, ite_false, Nat.reduceAdd, Nat.reduceSub, Nat.reduceMul, Nat.reduceLT, Nat.reduceLeDiff, Nat.reduceEqDiff, Nat.reducePow, Int.reduceToNat, Int.reducePow, pickL, List.filterMap_cons, List.filterMap_nil, and_self, Int.reduceLT, Int.reduceLE, Int.reduceNeg, Int.reduceAdd, Int.reduceMul, Int.reduceSub, Int.reduceEq, reduceIte, reduceCtorEq, lit_eq, String.reduceEq, Ev.rEq, Ev.rNe, Ev.rInD, cut_toN, cut_fromN, List.map_take, List.forall_mem_cons, List.forall_mem_nil, List.not_mem_nil, false_imp_iff, implies_true, forall_const, D.cm, D.lay, D.lays, D.dep, D.deps, strOk_lit, lays_ints, deps_ints, Nat.max_self, Nat.max_zero, Nat.zero_max, Bool.and_self, Bool.true_and, Bool.and_true, Bool.and_false, Bool.false_and, Bool.or_false, Bool.or_true, Bool.true_or, Bool.false_or, List.any_cons, List.any_nil, decide_eq_true_eq, eq_self, $as,*] $[$l]?)
  | `(tactic| simp only [DSIMP] $[$l:location]?) => `(tactic| simp only [dGcIn, dGbIx, dGdIn, dGdIx, dListRg, rDictPf, dZipL, dListKo, dEmptyT, dDispT1, dNeE, rListA, rDictPT, rIsTF, dGroup, rSrtA, rLenA, dInV, dIxV, dCount, dSortKo, dCallR, adD, gL, dDN, dLN, wNest, bNest, bEl, bEd, dZip, seqOf, dSortDK, dCallV, dCallLam, optQ, dEnum, D.nf, D.nfs, Ev.rSumD, dLock, dKeysI, gStarD, dReverse, dMove, dDGet2, getD2, D.isD, dDisp, dPairs, keysD, Ev.rMaxD, Ev.rMinD, rDictP, Option.getD_some, Option.getD_none, Ev.D.eq_refl, dPen1, dLenSet, dSrtR, dRo, dRoF, dRoT, roD, ro_un, ro_dat, ro_own, ro_hp, ro_law, ro_ownK, ro_ownT, List.forall_mem_map, flat_int, flat_str, flat_bl, flat_non, solid_int, solid_str, solid_bl, solid_non, solid_tup, solids_nil, solids_cons, dSeq, dNext, dSet, dSetF, setSl, dVar, dTake, dC, dBin, dBinF, dB, dIfS, dIf, dRet, dRetN, dExpr, dNil, dCons, dTup, dLst, dFz, dAnd, dOr, dNot, dAndV, dOrV, dNotV, dCallD, dCallK, dCB, dCBF, dFor, dLC, dYes, dRng1, dRng2, dSeqI, gN, gT, gsNil, gsCons, dAsg, dNeg, dJoin, dFs, dJs, dFmt, dApp, dExt, dPop, dPopAt, dOwnIx, dOwnCB, dOwnL, dOwnR, dOwnSl, dSetIx, dSlT, dSlL, oNone, oSome, dBorn, optQ, ownAt, setOwnAt, lookAt, wipeD, dNewDT, dNewDK, dDGet, dDIn, dDPut, dSortT, rSrt, isDict, Ev.dictGet, Ev.dictPut, Option.isSome_none, Option.isSome_some, D.keyT, keysOf, D.key, exists_eq_left', exists_eq_left, Option.isSome, rRepL, rCatL, dRetF, dIfF, dPar, dRetOwn, dCallL, dCallLK, dPen2, dRev, dRevI, dIndex, endsL, startL, dNever, dBrk, dCnt, rAddD, rSubI, rIO, rMulI, rDivI, rModI, rPowI, rCI, Ev.rIxD, rIsN, rNotN, D.isN, Ev.rLen, rTuple, rList, rAbs, rInt, rStr, Ev.rRepr, Ev.rIsi, D.ty, kit_tab, startD, endsD, List.map_cons, List.map_nil, List.length_cons, List.length_nil, List.append_nil, List.nil_append, List.cons_append, List.getElem?_cons_zero, List.getElem?_cons_succ, List.getElem?_nil, List.set_cons_zero, List.set_cons_succ, List.replicate, List.replicate_succ, Nat.zero_add, Nat.zero_le, sizeLine, true_and, and_true, if_true, Ev.eq_int, Ev.eq_str, Ev.eq_bl, Ev.eq_non, lst_nil, tup_nil, List.map_eq_nil_iff, txt_join, rLt, rLe, rGt, rGe, atI_ofNat, atI_last, wLC, strsOf, intsOf, blsOf, Option.map_some, Ev.join_two, Ev.join_one, Ev.join_nil, List.sum_cons, List.sum_nil, PySem.Str.empty_append, ixN_ofNat, Option.some.injEq, exists_eq', List.length_map, decide_true, decide_false, Bool.not_true, Bool.not_false, Bool.true_eq_false, Bool.false_eq_true, false_and, and_false, if_false, ite_true, ite_false, Nat.reduceAdd, Nat.reduceSub, Nat.reduceMul, Nat.reduceLT, Nat.reduceLeDiff, Nat.reduceEqDiff, Nat.reducePow, Int.reduceToNat, Int.reducePow, pickL, List.filterMap_cons, List.filterMap_nil, and_self, Int.reduceLT, Int.reduceLE, Int.reduceNeg, Int.reduceAdd, Int.reduceMul, Int.reduceSub, Int.reduceEq, reduceIte, reduceCtorEq, lit_eq, String.reduceEq, Ev.rEq, Ev.rNe, Ev.rInD, cut_toN, cut_fromN, List.map_take, List.forall_mem_cons, List.forall_mem_nil, List.not_mem_nil, false_imp_iff, implies_true, forall_const, D.cm, D.lay, D.lays, D.dep, D.deps, strOk_lit, lays_ints, deps_ints, Nat.max_self, Nat.max_zero, Nat.zero_max, Bool.and_self, Bool.true_and, Bool.and_true, Bool.and_false, Bool.false_and, Bool.or_false, Bool.or_true, Bool.true_or, Bool.false_or, List.any_cons, List.any_nil, decide_eq_true_eq, eq_self] $[$l]?)
variable [TabC]
inductive Rw where
  | ask (a : Int) (w : Str) (ps : List Pc) | move (x y : Int) | inp (w : Str) (i : It)
def rwD : Rw → D
  | .ask a w ps => .tup [.int a, .tup (.str w :: ps.map pcD)]
  | .move x y => .tup [.str "move", .tup [.int x, .int y]]
  | .inp w i => .tup [.str w, itD i]
def rwT : Rw → Str
  | .ask a w ps => Str.join " " (Str.ofString (toString a) :: w :: ps.map pcT)
  | .move x y => Str.ofString "move" ++ " " ++ (Str.ofString (toString x) ++ " " ++ Str.ofString (toString y))
  | .inp w i => w ++ " " ++ itT i
def rwOk : Rw → Prop
  | .ask a w ps => lit a ∧ PyData.strOk w = true ∧ w.length ≤ 10 ∧ ps.length ≤ 5 ∧ ∀ c ∈ ps, pcOk c
  | .move x y => lit x ∧ lit y
  | .inp w i => (w = "press" ∨ w = "release" ∨ w = "key") ∧ itOk i
theorem pcs_sum {ps : List Pc} (hl : ps.length ≤ 5) (h : ∀ c ∈ ps, pcOk c) : (ps.map fun x => (pcT x).length).sum ≤ 2000 := by
  have := sum_le (fun i => (pcT i).length) 400 (l := ps) fun a ha => pc_len (h a ha)
  omega
theorem rw_len {e : Rw} (h : rwOk e) : (rwT e).length ≤ 3000 := by
  have h3 : (Str.ofString " ").length = 1 := by decide +kernel
  cases e with
  | ask a w ps =>
    obtain ⟨h1, h2, h4, h5, h6⟩ := h
    refine Nat.le_trans (join2_len _ _) ?_
    have i1 := int_len (lit_small h1)
    simp only [List.map_cons, List.sum_cons, List.map_map]
    have := sum_le ((fun (t : Str) => t.length + (Str.ofString " ").length) ∘ pcT) 401 (l := ps) fun a ha => by
      have := pc_len (h6 a ha)
      show (pcT a).length + (Str.ofString " ").length ≤ 401
      omega
    omega
  | move x y =>
    have i1 := int_len (lit_small h.1)
    have i2 := int_len (lit_small h.2)
    have h4 : (Str.ofString "move").length = 4 := by decide +kernel
    simp only [rwT, Str.length_append]
    omega
  | inp w i =>
    have i1 := it_len h.2
    have i2 : w.length ≤ 10 := by rcases h.1 with rfl | rfl | rfl <;> decide +kernel
    simp only [rwT, Str.length_append]
    omega
theorem rw_ok {e : Rw} (h : rwOk e) : PyData.strOk (rwT e) = true := by
  cases e with
  | ask a w ps =>
    obtain ⟨h1, h2, h4, h5, h6⟩ := h
    refine strOk_join (strOk_lit _) _ fun t ht => ?_
    rcases List.mem_cons.mp ht with rfl | ht
    · exact strOk_lit _
    rcases List.mem_cons.mp ht with rfl | ht
    · exact h2
    obtain ⟨z, hz, rfl⟩ := List.mem_map.mp ht
    exact pc_ok (h6 z hz)
  | move x y => exact strOk_append (strOk_append (strOk_lit _) (strOk_lit _)) (strOk_append (strOk_append (strOk_lit _) (strOk_lit _)) (strOk_lit _))
  | inp w i =>
    have i2 : PyData.strOk w = true := by rcases h.1 with rfl | rfl | rfl <;> exact strOk_lit _
    exact strOk_append (strOk_append i2 (strOk_lit _)) (it_ok h.2)
def sp_show_row : dSp := fun ds p Q _ => ∃ e, ds = [rwD e] ∧ rwOk e ∧ Q (.str (rwT e)) p
abbrev s_show_row : Stmt := topS 5
abbrev n_show_row : List Str := ["row", "first", "second", "pieces", "word", "parts", "piece", "part"]
theorem sc_show_row : FnScope n_show_row ["row"] (defScope s_show_row) := ⟨rfl, rfl, rfl, by decide +kernel, rfl, by decide +kernel, by decide +kernel⟩
def p_show_row_x2_0 : dS := (dSet 3 (dIf (dB (dBin (rEq) (dVar 1) (dC (.str "move")))) (dVar 2) (dFz (dLst (dCons (dVar 2) dNil)))))
def p_show_row_x2_1 : dS := (dRet (dJoin (dC (.str " ")) (dFz (dBinF rCatL (dFz (dLst (dCons (dVar 1) dNil))) (dFz (dLC (dSeqI (dVar 3)) (gN 6) dYes (dCB rStr (dCons (dVar 6) dNil)) [6]))))))
def b_show_row_x2_1 : dS := p_show_row_x2_1
def b_show_row_x2_0 : dS := dSeq p_show_row_x2_0 b_show_row_x2_1
def p_show_row_0 : dS := (dAsg (dVar 0) (gT 2 (gsCons (gN 1) (gsCons (gN 2) gsNil))))
def p_show_row_1 : dS := (dIfS (dB (dGcIn false kc_INPUTS (dVar 1))) b_show_row_x2_0 dNext)
def p_show_row_2 : dS := (dAsg (dVar 2) (gStarD 2 1 (gsCons (gN 4) (gsCons (gN 5) gsNil))))
def p_show_row_3 : dS := (dRet (dJoin (dC (.str " ")) (dFz (dBinF rCatL (dFz (dLst (dCons (dCB rStr (dCons (dVar 1) dNil)) (dCons (dVar 4) dNil)))) (dFz (dLC (dSeqI (dVar 5)) (gN 7) dYes (dCallD 1 [] sp_show_piece (dCons (dVar 7) dNil)) [7]))))))
def b_show_row_3 : dS := p_show_row_3
def b_show_row_2 : dS := dSeq p_show_row_2 b_show_row_3
def b_show_row_1 : dS := dSeq p_show_row_1 b_show_row_2
def b_show_row_0 : dS := dSeq p_show_row_0 b_show_row_1
def b_show_row : dS := b_show_row_0
theorem run_show_row {P : Program} {w : World} {K : PySem.W.Frag} {mg : Str → Option Value} {base : Heap} (kt_INPUTS : GD K w mg "INPUTS" kc_INPUTS) (m_str : mg "str" = none) (K_show_piece_1 : Def P w K mg base 2 "show_piece" 1 sp_show_piece []) {f : Addr} (cdv : Value) (A : Around) (out : List Env) (s : Shared) (H : Hp) (E : XK) (g : A.guards = some []) (hrA : Room 2 (A.deeper (envOfC "show_row" (defScope s_show_row) s.heap.objs.size f cdv))) :
  DSs (cx0 P w K mg base n_show_row "show_row" (defScope s_show_row) f cdv A out s H E) E00 (defBody s_show_row) b_show_row := by
 have hgA : (A.deeper (envOfC "show_row" (defScope s_show_row) s.heap.objs.size f cdv)).guards = some [] := g
 have hun := hrA.un
 exact (dss_cons (t := p_show_row_0) (u := b_show_row_1) (ds_asg (de_var (pv 0)) (dg_tup rfl (dgs_cons (dg_name (pg_name (i := 1) sc_show_row.nd rfl (by first | exact .inl rfl | exact .inr rfl))) (dgs_cons (dg_name (pg_name (i := 2) sc_show_row.nd rfl (by first | exact .inl rfl | exact .inr rfl))) dgs_nil))))
  (dss_cons (t := p_show_row_1) (u := b_show_row_2) (ds_if (dt_gcIn (by rfl) kt_INPUTS (de_var (pv 1))) (dss_cons (t := p_show_row_x2_0) (u := b_show_row_x2_1) (ds_set (i := 3) sc_show_row.nd rfl (by first | exact .inl rfl | exact .inr rfl) (de_if (dt_cmp (od_eq (Nat.lt_of_le_of_lt (Nat.add_le_add_left (by decide) _) hun)) (de_var (pv 1)) de_str (nomark _)) (de_var (pv 2)) (de_fz (df_lst (da_cons (de_var (pv 2)) da_nil)))))
  (dss_one (t := p_show_row_x2_1) (ds_ret (de_join de_str (de_fz (df_op od_catL (de_fz (df_lst (da_cons (de_var (pv 1)) da_nil))) (de_fz (df_lc (E2 := E00) (own := [("piece", 6)]) rfl sc_show_row.nd (di_seq (de_var (pv 3))) (blkOk_by (N := n_show_row) (sc := (defScope s_show_row)) (own := [("piece", 6)]) (by decide +kernel)) (by decide) (fun _ _ _ _ _ => (dg_name (pg_name (i := 6) sc_show_row.nd rfl (by first | exact .inl rfl | exact .inr rfl)))) (fun _ _ _ _ _ => dts_nil) (fun _ _ _ _ _ => (de_callTy (cd_str) (by rfl) m_str (by decide +kernel) (da_cons (de_var (pv 6)) da_nil))))))) (fun _ _ _ h => dc_str _ _ _ h))))) dss_nil)
  (dss_cons (t := p_show_row_2) (u := b_show_row_3) (ds_asg (de_var (pv 2)) (dg_star rfl (by decide) (dgs_cons (dg_name (pg_name (i := 4) sc_show_row.nd rfl (by first | exact .inl rfl | exact .inr rfl))) (dgs_star (dg_name (pg_name (i := 5) sc_show_row.nd rfl (by first | exact .inl rfl | exact .inr rfl))) dgs_nil))))
  (dss_one (t := p_show_row_3) (ds_ret (de_join de_str (de_fz (df_op od_catL (de_fz (df_lst (da_cons (de_callTy (cd_str) (by rfl) m_str (by decide +kernel) (da_cons (de_var (pv 1)) da_nil)) (da_cons (de_var (pv 4)) da_nil)))) (de_fz (df_lc (E2 := E00) (own := [("part", 7)]) rfl sc_show_row.nd (di_seq (de_var (pv 5))) (blkOk_by (N := n_show_row) (sc := (defScope s_show_row)) (own := [("part", 7)]) (by decide +kernel)) (by decide) (fun _ _ _ _ _ => (dg_name (pg_name (i := 7) sc_show_row.nd rfl (by first | exact .inl rfl | exact .inr rfl)))) (fun _ _ _ _ _ => dts_nil) (fun _ _ _ _ _ => (de_callD K_show_piece_1 hgA hrA (by rfl) (da_cons (de_var (pv 7)) da_nil))))))) (fun _ _ _ h => dc_str _ _ _ h)))))))
theorem in_move : lookS kc_INPUTS "move" = some (.str "s") := rfl
theorem in_press : lookS kc_INPUTS "press" = some (.str "u") := rfl
theorem in_release : lookS kc_INPUTS "release" = some (.str "u") := rfl
theorem in_key : lookS kc_INPUTS "key" = some (.str "o") := rfl
theorem row_sum {a w : Str} {ps : List Pc} (ha : a.length ≤ 31) (hw : w.length ≤ 10) (hl : ps.length ≤ 5) (h : ∀ c ∈ ps, pcOk c) : (List.map (fun (x : Str) => x.length) (a :: w :: ps.map pcT)).sum + (a :: w :: ps.map pcT).length * (Str.ofString " ").length ≤ 16777216 := by
  have h3 : (Str.ofString " ").length = 1 := by decide +kernel
  have := pcs_sum hl h
  rw [h3]
  simp only [List.map_cons, List.sum_cons, List.map_map, List.length_cons, List.length_map]
  have e : (ps.map ((fun (x : Str) => x.length) ∘ pcT)).sum = (ps.map fun x => (pcT x).length).sum := rfl
  rw [e]
  omega
theorem hsp_show_row : ∀ ds p Q W, ds.length = 1 → sp_show_row ds p Q W → b_show_row W0 (endsD Q) (startD n_show_row.length ds p) := by
  rintro ds p Q W - ⟨e, rfl, ok, q⟩
  have h3 : (Str.ofString " ").length = 1 := by decide +kernel
  cases e with
  | ask a w ps =>
    obtain ⟨h1, h2, h4, h5, h6⟩ := ok
    have et : (List.map pcD ps).take (ps.length + 1 + 1 - 2) = List.map pcD ps := List.take_of_length_le (by simp)
    have ed : (List.map pcD ps).drop (ps.length + 1 + 1 - 2) = [] := List.drop_of_length_le (by simp)
    simp only [DSIMP, b_show_row, n_show_row, p_show_row_x2_0, p_show_row_x2_1, b_show_row_x2_1, b_show_row_x2_0, p_show_row_0, p_show_row_1, p_show_row_2, p_show_row_3, b_show_row_3, b_show_row_2, b_show_row_1, b_show_row_0, rwD, List.take_succ_cons, List.take_zero, List.drop_succ_cons, List.drop_zero, et, ed]
    refine ⟨by omega, lit_log h1, ?_⟩
    refine wLC_maps (f := fun c => .str (pcT c)) (fun c hc acc k hk z => ?_) (by rw [sizeLine_eq]; omega) ?_
    · simp only [DSIMP, sp_show_piece]
      exact ⟨c, rfl, h6 c hc, hk, z⟩
    · rw [strsOf_mapf pcT ps, List.length_map]
      exact ⟨by omega, row_sum (int_len (lit_small h1)) h4 h5 h6, q⟩
  | move x y =>
    have i1 := int_len (lit_small ok.1)
    have i2 := int_len (lit_small ok.2)
    have h4 : (Str.ofString "move").length = 4 := by decide +kernel
    simp only [DSIMP, b_show_row, n_show_row, p_show_row_x2_0, p_show_row_x2_1, b_show_row_x2_1, b_show_row_x2_0, p_show_row_0, p_show_row_1, p_show_row_2, p_show_row_3, b_show_row_3, b_show_row_2, b_show_row_1, b_show_row_0, rwD, in_move, h3, h4]
    exact ⟨lit_log ok.1, lit_log ok.2, by omega, q⟩
  | inp w i =>
    have i1 := it_len ok.2
    have i2 : w.length ≤ 10 := by rcases ok.1 with rfl | rfl | rfl <;> decide +kernel
    rcases ok.1 with rfl | rfl | rfl <;> cases i with
    | int i =>
      have i1 : (Str.ofString (toString i)).length ≤ 31 := i1
      simp only [DSIMP, b_show_row, n_show_row, p_show_row_x2_0, p_show_row_x2_1, b_show_row_x2_1, b_show_row_x2_0, p_show_row_0, p_show_row_1, p_show_row_2, p_show_row_3, b_show_row_3, b_show_row_2, b_show_row_1, b_show_row_0, rwD, itD, in_press, in_release, in_key, h3]
      exact ⟨lit_log ok.2, by omega, q⟩
    | str x =>
      have i1 : x.length ≤ 31 := i1
      simp only [DSIMP, b_show_row, n_show_row, p_show_row_x2_0, p_show_row_x2_1, b_show_row_x2_1, b_show_row_x2_0, p_show_row_0, p_show_row_1, p_show_row_2, p_show_row_3, b_show_row_3, b_show_row_2, b_show_row_1, b_show_row_0, rwD, itD, in_press, in_release, in_key, h3]
      exact ⟨by omega, q⟩
theorem ok_show_row {P : Program} {w : World} {K : PySem.W.Frag} {mg : Str → Option Value} {base : Heap} (kt_INPUTS : GD K w mg "INPUTS" kc_INPUTS) (m_str : mg "str" = none) (K_show_piece_1 : Def P w K mg base 2 "show_piece" 1 sp_show_piece []) {f : Addr} {fd : FuncData} (F : Fun K "show_row" "show_row" s_show_row f fd) : FnG P w K mg base CX0 3 f fd ["row"] (spD K 1 sp_show_row) :=
 fn_d0 F sc_show_row rfl (fun cdv A out s H E g r => run_show_row kt_INPUTS m_str K_show_piece_1 cdv A out s H E g r) hsp_show_row
def logT (es : List Rw) : Str := Str.join "" (es.map fun e => rwT e ++ "\n")
theorem log_sum {es : List Rw} (h : ∀ e ∈ es, rwOk e) (hl : es.length ≤ 40) : (es.map fun e => (rwT e ++ Str.ofString "\n").length).sum ≤ 130000 := by
  refine Nat.le_trans (sum_le _ 3001 fun e he => ?_) (by omega)
  have h1 : (Str.ofString "\n").length = 1 := by decide +kernel
  have := rw_len (h e he)
  rw [Str.length_append]; omega
def sp_show_log : dSp := fun ds p Q _ => ∃ es : List Rw, ds = [.tup (es.map rwD)] ∧ es.length ≤ 40 ∧ (∀ e ∈ es, rwOk e) ∧ Q (.str (logT es)) p
abbrev s_show_log : Stmt := topS 6
abbrev n_show_log : List Str := ["log", "row"]
theorem sc_show_log : FnScope n_show_log ["log"] (defScope s_show_log) := ⟨rfl, rfl, rfl, by decide +kernel, rfl, by decide +kernel, by decide +kernel⟩
def b_show_log : dS := (dRet (dJoin (dC (.str "")) (dFz (dLC (dSeqI (dVar 0)) (gN 1) dYes (dBin rAddD (dCallD 1 [] sp_show_row (dCons (dVar 1) dNil)) (dC (.str "\n"))) [1]))))
theorem run_show_log {P : Program} {w : World} {K : PySem.W.Frag} {mg : Str → Option Value} {base : Heap} (K_show_row_1 : Def P w K mg base 3 "show_row" 1 sp_show_row []) {f : Addr} (cdv : Value) (A : Around) (out : List Env) (s : Shared) (H : Hp) (E : XK) (g : A.guards = some []) (hrA : Room 3 (A.deeper (envOfC "show_log" (defScope s_show_log) s.heap.objs.size f cdv))) :
  DSs (cx0 P w K mg base n_show_log "show_log" (defScope s_show_log) f cdv A out s H E) E00 (defBody s_show_log) b_show_log := by
 have hgA : (A.deeper (envOfC "show_log" (defScope s_show_log) s.heap.objs.size f cdv)).guards = some [] := g
 have hun := hrA.un
 exact (dss_one (ds_ret (de_join de_str (de_fz (df_lc (E2 := E00) (own := [("row", 1)]) rfl sc_show_log.nd (di_seq (de_var (pv 0))) (blkOk_by (N := n_show_log) (sc := (defScope s_show_log)) (own := [("row", 1)]) (by decide +kernel)) (by decide) (fun _ _ _ _ _ => (dg_name (pg_name (i := 1) sc_show_log.nd rfl (by first | exact .inl rfl | exact .inr rfl)))) (fun _ _ _ _ _ => dts_nil) (fun _ _ _ _ _ => (de_op od_add (de_callD K_show_row_1 hgA hrA (by rfl) (da_cons (de_var (pv 1)) da_nil)) de_str)))) (fun _ _ _ h => dc_str _ _ _ h))))
theorem hsp_show_log : ∀ ds p Q W, ds.length = 1 → sp_show_log ds p Q W → b_show_log W0 (endsD Q) (startD n_show_log.length ds p) := by
  rintro ds p Q W - ⟨es, rfl, hl, ok, q⟩
  simp only [DSIMP, b_show_log, n_show_log]
  refine wLC_maps (f := fun e => .str (rwT e ++ Str.ofString "\n")) (fun e he acc k hk z => ?_) (by rw [sizeLine_eq]; omega) ?_
  · simp only [DSIMP, sp_show_row]
    exact ⟨e, rfl, ok e he, by have := rw_len (ok e he); have h1 : (Str.ofString "\n").length = 1 := by decide +kernel
                               omega, hk, z⟩
  · rw [strsOf_mapf (fun e : Rw => rwT e ++ Str.ofString "\n") es]
    refine ⟨?_, q⟩
    rw [List.map_map, List.length_map]
    have := log_sum ok hl
    have h2 : (Str.ofString "").length = 0 := by decide +kernel
    rw [h2]
    show (es.map fun e => (rwT e ++ Str.ofString "\n").length).sum + _ ≤ _
    omega
theorem ok_show_log {P : Program} {w : World} {K : PySem.W.Frag} {mg : Str → Option Value} {base : Heap} (K_show_row_1 : Def P w K mg base 3 "show_row" 1 sp_show_row []) {f : Addr} {fd : FuncData} (F : Fun K "show_log" "show_log" s_show_log f fd) : FnG P w K mg base CX0 4 f fd ["log"] (spD K 1 sp_show_log) :=
 fn_d0 F sc_show_log rfl (fun cdv A out s H E g r => run_show_log K_show_row_1 cdv A out s H E g r) hsp_show_log
def sp__law_line : dSp := fun ds p Q _ => ∃ e, ds = [rwD e] ∧ rwOk e ∧ Q (.str (rwT e)) p
abbrev s__law_line : Stmt := topS 18
abbrev n__law_line : List Str := ["_law_row", "_law_part"]
theorem sc__law_line : FnScope n__law_line ["_law_row"] (defScope s__law_line) := ⟨rfl, rfl, rfl, by decide +kernel, rfl, by decide +kernel, by decide +kernel⟩
def p__law_line_0 : dS := (dIfS (dB (dCB (rIsi "int") (dCons (dBin rIxD (dVar 0) (dC (.int 0))) (dCons (dC (.raw (.ty "int"))) dNil)))) (dRet (dJoin (dC (.str " ")) (dFz (dBinF rCatL (dFz (dLst (dCons (dCB rStr (dCons (dBin rIxD (dVar 0) (dC (.int 0))) dNil)) (dCons (dBin rIxD (dBin rIxD (dVar 0) (dC (.int 1))) (dC (.int 0))) dNil)))) (dFz (dLC (dSeqI (dSlT (dBin rIxD (dVar 0) (dC (.int 1))) (oSome (dC (.int 1))) oNone)) (gN 1) dYes (dCallD 1 [] sp__law_piece (dCons (dVar 1) dNil)) [1])))))) dNext)
def p__law_line_1 : dS := (dIfS (dB (dBin (rEq) (dBin rIxD (dVar 0) (dC (.int 0))) (dC (.str "move")))) (dRet (dBin rAddD (dBin rAddD (dBin rAddD (dC (.str "move ")) (dCB rStr (dCons (dBin rIxD (dBin rIxD (dVar 0) (dC (.int 1))) (dC (.int 0))) dNil))) (dC (.str " "))) (dCB rStr (dCons (dBin rIxD (dBin rIxD (dVar 0) (dC (.int 1))) (dC (.int 1))) dNil)))) dNext)
def p__law_line_2 : dS := (dRet (dBin rAddD (dBin rAddD (dBin rIxD (dVar 0) (dC (.int 0))) (dC (.str " "))) (dCB rStr (dCons (dBin rIxD (dVar 0) (dC (.int 1))) dNil))))
def b__law_line_2 : dS := p__law_line_2
def b__law_line_1 : dS := dSeq p__law_line_1 b__law_line_2
def b__law_line_0 : dS := dSeq p__law_line_0 b__law_line_1
def b__law_line : dS := b__law_line_0
theorem run__law_line {P : Program} {w : World} {K : PySem.W.Frag} {mg : Str → Option Value} {base : Heap} (m_int : mg "int" = none) (m_isinstance : mg "isinstance" = none) (m_str : mg "str" = none) (K__law_piece_1 : Def P w K mg base 1 "_law_piece" 1 sp__law_piece []) {f : Addr} (cdv : Value) (A : Around) (out : List Env) (s : Shared) (H : Hp) (E : XK) (g : A.guards = some []) (hrA : Room 1 (A.deeper (envOfC "_law_line" (defScope s__law_line) s.heap.objs.size f cdv))) :
  DSs (cx0 P w K mg base n__law_line "_law_line" (defScope s__law_line) f cdv A out s H E) E00 (defBody s__law_line) b__law_line := by
 have hgA : (A.deeper (envOfC "_law_line" (defScope s__law_line) s.heap.objs.size f cdv)).guards = some [] := g
 have hun := hrA.un
 exact (dss_cons (t := p__law_line_0) (u := b__law_line_1) (ds_if (dt_val (de_callB (cd_isi "int") (by rfl) m_isinstance (by decide +kernel) (da_cons (de_ix (de_var (pv 0)) de_int (fun _ _ => rfl)) (da_cons (de_ty (n := "int") (by rfl) m_int (by decide +kernel)) da_nil)))) (dss_one (ds_ret (de_join de_str (de_fz (df_op od_catL (de_fz (df_lst (da_cons (de_callTy (cd_str) (by rfl) m_str (by decide +kernel) (da_cons (de_ix (de_var (pv 0)) de_int (fun _ _ => rfl)) da_nil)) (da_cons (de_ix (de_ix (de_var (pv 0)) de_int (fun _ _ => rfl)) de_int (fun _ _ => rfl)) da_nil)))) (de_fz (df_lc (E2 := E00) (own := [("_law_part", 1)]) rfl sc__law_line.nd (di_seq (de_slT (de_ix (de_var (pv 0)) de_int (fun _ _ => rfl)) (do_some de_int) do_none)) (blkOk_by (N := n__law_line) (sc := (defScope s__law_line)) (own := [("_law_part", 1)]) (by decide +kernel)) (by decide) (fun _ _ _ _ _ => (dg_name (pg_name (i := 1) sc__law_line.nd rfl (by first | exact .inl rfl | exact .inr rfl)))) (fun _ _ _ _ _ => dts_nil) (fun _ _ _ _ _ => (de_callD K__law_piece_1 hgA hrA (by rfl) (da_cons (de_var (pv 1)) da_nil))))))) (fun _ _ _ h => dc_str _ _ _ h)))) dss_nil)
  (dss_cons (t := p__law_line_1) (u := b__law_line_2) (ds_if (dt_cmp (od_eq (Nat.lt_of_le_of_lt (Nat.add_le_add_left (by decide) _) hun)) (de_ix (de_var (pv 0)) de_int (fun _ _ => rfl)) de_str (nomark _)) (dss_one (ds_ret (de_op od_add (de_op od_add (de_op od_add de_str (de_callTy (cd_str) (by rfl) m_str (by decide +kernel) (da_cons (de_ix (de_ix (de_var (pv 0)) de_int (fun _ _ => rfl)) de_int (fun _ _ => rfl)) da_nil))) de_str) (de_callTy (cd_str) (by rfl) m_str (by decide +kernel) (da_cons (de_ix (de_ix (de_var (pv 0)) de_int (fun _ _ => rfl)) de_int (fun _ _ => rfl)) da_nil))))) dss_nil)
  (dss_one (t := p__law_line_2) (ds_ret (de_op od_add (de_op od_add (de_ix (de_var (pv 0)) de_int (fun _ _ => rfl)) de_str) (de_callTy (cd_str) (by rfl) m_str (by decide +kernel) (da_cons (de_ix (de_var (pv 0)) de_int (fun _ _ => rfl)) da_nil)))))))
theorem hsp__law_line : ∀ ds p Q W, ds.length = 1 → sp__law_line ds p Q W → b__law_line W0 (endsD Q) (startD n__law_line.length ds p) := by
  rintro ds p Q W - ⟨e, rfl, ok, q⟩
  have h3 : (Str.ofString " ").length = 1 := by decide +kernel
  cases e with
  | ask a w ps =>
    obtain ⟨h1, h2, h4, h5, h6⟩ := ok
    simp only [DSIMP, b__law_line, n__law_line, p__law_line_0, p__law_line_1, p__law_line_2, b__law_line_2, b__law_line_1, b__law_line_0, rwD]
    refine ⟨lit_log h1, ?_⟩
    show wLC _ _ _ _ _ (List.map pcD ps) [] _
    refine wLC_maps (f := fun c => .str (pcT c)) (fun c hc acc k hk z => ?_) (by rw [sizeLine_eq]; omega) ?_
    · simp only [DSIMP, sp__law_piece]
      exact ⟨c, rfl, h6 c hc, hk, z⟩
    · rw [strsOf_mapf pcT ps, List.length_map]
      exact ⟨by omega, row_sum (int_len (lit_small h1)) h4 h5 h6, q⟩
  | move x y =>
    have i1 := int_len (lit_small ok.1)
    have i2 := int_len (lit_small ok.2)
    have h4 : (Str.ofString "move ").length = 5 := by decide +kernel
    have e : (D.str (rwT (.move x y))) = D.str (Str.ofString "move " ++ Str.ofString (toString x) ++ Str.ofString " " ++ Str.ofString (toString y)) := by
      have e1 : Str.ofString "move " = Str.ofString "move" ++ Str.ofString " " := by decide +kernel
      rw [e1]
      simp only [rwT, PySem.Str.append_assoc]
    rw [e] at q
    simp only [DSIMP, b__law_line, n__law_line, p__law_line_0, p__law_line_1, p__law_line_2, b__law_line_2, b__law_line_1, b__law_line_0, rwD, Str.length_append, h3, h4]
    exact ⟨lit_log ok.1, by omega, by omega, lit_log ok.2, by omega, q⟩
  | inp w i =>
    have i1 := it_len ok.2
    have i2 : w.length ≤ 10 := by rcases ok.1 with rfl | rfl | rfl <;> decide +kernel
    rcases ok.1 with rfl | rfl | rfl <;> cases i with
    | int i =>
      have i1 : (Str.ofString (toString i)).length ≤ 31 := i1
      simp only [DSIMP, b__law_line, n__law_line, p__law_line_0, p__law_line_1, p__law_line_2, b__law_line_2, b__law_line_1, b__law_line_0, rwD, itD, Str.length_append, h3]
      exact ⟨by omega, lit_log ok.2, by omega, q⟩
    | str x =>
      have i1 : x.length ≤ 31 := i1
      simp only [DSIMP, b__law_line, n__law_line, p__law_line_0, p__law_line_1, p__law_line_2, b__law_line_2, b__law_line_1, b__law_line_0, rwD, itD, Str.length_append, h3]
      exact ⟨by omega, by omega, q⟩
theorem ok__law_line {P : Program} {w : World} {K : PySem.W.Frag} {mg : Str → Option Value} {base : Heap} (m_int : mg "int" = none) (m_isinstance : mg "isinstance" = none) (m_str : mg "str" = none) (K__law_piece_1 : Def P w K mg base 1 "_law_piece" 1 sp__law_piece []) {f : Addr} {fd : FuncData} (F : Fun K "_law_line" "_law_line" s__law_line f fd) : FnG P w K mg base CX0 2 f fd ["_law_row"] (spD K 1 sp__law_line) :=
 fn_d0 F sc__law_line rfl (fun cdv A out s H E g r => run__law_line m_int m_isinstance m_str K__law_piece_1 cdv A out s H E g r) hsp__law_line
def sp__law_ended : dSp := fun ds p Q _ => ∃ es : List Rw, ds = [.lst (es.map fun e => .str (rwT e))] ∧ es.length ≤ 40 ∧ (∀ e ∈ es, rwOk e) ∧ Q (.str (logT es)) p
abbrev s__law_ended : Stmt := topS 19
abbrev n__law_ended : List Str := ["_law_lines_so", "_law_one"]
theorem sc__law_ended : FnScope n__law_ended ["_law_lines_so"] (defScope s__law_ended) := ⟨rfl, rfl, rfl, by decide +kernel, rfl, by decide +kernel, by decide +kernel⟩
def b__law_ended : dS := (dRet (dJoin (dC (.str "")) (dFz (dLC (dSeqI (dVar 0)) (gN 1) dYes (dBin rAddD (dVar 1) (dC (.str "\n"))) [1]))))
theorem run__law_ended {P : Program} {w : World} {K : PySem.W.Frag} {mg : Str → Option Value} {base : Heap} {f : Addr} (cdv : Value) (A : Around) (out : List Env) (s : Shared) (H : Hp) (E : XK) (g : A.guards = some []) (hrA : Room 0 (A.deeper (envOfC "_law_ended" (defScope s__law_ended) s.heap.objs.size f cdv))) :
  DSs (cx0 P w K mg base n__law_ended "_law_ended" (defScope s__law_ended) f cdv A out s H E) E00 (defBody s__law_ended) b__law_ended := by
 have hgA : (A.deeper (envOfC "_law_ended" (defScope s__law_ended) s.heap.objs.size f cdv)).guards = some [] := g
 have hun := hrA.un
 exact (dss_one (ds_ret (de_join de_str (de_fz (df_lc (E2 := E00) (own := [("_law_one", 1)]) rfl sc__law_ended.nd (di_seq (de_var (pv 0))) (blkOk_by (N := n__law_ended) (sc := (defScope s__law_ended)) (own := [("_law_one", 1)]) (by decide +kernel)) (by decide) (fun _ _ _ _ _ => (dg_name (pg_name (i := 1) sc__law_ended.nd rfl (by first | exact .inl rfl | exact .inr rfl)))) (fun _ _ _ _ _ => dts_nil) (fun _ _ _ _ _ => (de_op od_add (de_var (pv 1)) de_str)))) (fun _ _ _ h => dc_str _ _ _ h))))
theorem hsp__law_ended : ∀ ds p Q W, ds.length = 1 → sp__law_ended ds p Q W → b__law_ended W0 (endsD Q) (startD n__law_ended.length ds p) := by
  rintro ds p Q W - ⟨es, rfl, hl, ok, q⟩
  simp only [DSIMP, b__law_ended, n__law_ended]
  refine wLC_maps (ι := fun e => .str (rwT e)) (f := fun e => .str (rwT e ++ Str.ofString "\n")) (fun e he acc k hk z => ?_) (by rw [sizeLine_eq]; omega) ?_
  · simp only [DSIMP]
    exact ⟨by have := rw_len (ok e he); have h1 : (Str.ofString "\n").length = 1 := by decide +kernel
              omega, hk, z⟩
  · rw [strsOf_mapf (fun e : Rw => rwT e ++ Str.ofString "\n") es]
    refine ⟨?_, q⟩
    rw [List.map_map, List.length_map]
    have := log_sum ok hl
    have h2 : (Str.ofString "").length = 0 := by decide +kernel
    rw [h2]
    show (es.map fun e => (rwT e ++ Str.ofString "\n").length).sum + _ ≤ _
    omega
theorem ok__law_ended {P : Program} {w : World} {K : PySem.W.Frag} {mg : Str → Option Value} {base : Heap} {f : Addr} {fd : FuncData} (F : Fun K "_law_ended" "_law_ended" s__law_ended f fd) : FnG P w K mg base CX0 1 f fd ["_law_lines_so"] (spD K 1 sp__law_ended) :=
 fn_d0 F sc__law_ended rfl (fun cdv A out s H E g r => run__law_ended  cdv A out s H E g r) hsp__law_ended
end Ev83

namespace Ev83
open PySem PySem.Spec PyProof.Rows L2 Ev
local macro_rules
  | `(tactic| simp only [DSIMP, $as,*] $[$l:location]?) => `(tactic| simp only [dGcIn, dGbIx, dGdIn, dGdIx, dListRg, rDictPf, dZipL, dListKo, dEmptyT, dDispT1, dNeE, rListA, rDictPT, rIsTF, dGroup, rSrtA, rLenA, dInV, dIxV, dCount, dSortKo, dCallR, adD, gL, dDN, dLN, wNest, bNest, bEl, bEd, dZip, seqOf, dSortDK, dCallV, dCallLam, optQ, dEnum, D.nf, D.nfs, Ev.rSumD, dLock, dKeysI, gStarD, dReverse, dMove, dDGet2, getD2, D.isD, dDisp, dPairs, keysD, Ev.rMaxD, Ev.rMinD, rDictP, Option.getD_some, Option.getD_none, Ev.D.eq_refl, dPen1, dLenSet, dSrtR, dRo, dRoF, dRoT, roD, ro_un, ro_dat, ro_own, ro_hp, ro_law, ro_ownK, ro_ownT, List.forall_mem_map, flat_int, flat_str, flat_bl, flat_non, solid_int, solid_str, solid_bl, solid_non, solid_tup, solids_nil, solids_cons, dSeq, dNext, dSet, dSetF, setSl, dVar, dTake, dC, dBin, dBinF, dB, dIfS, dIf, dRet, dRetN, dExpr, dNil, dCons, dTup, dLst, dFz, dAnd, dOr, dNot, dAndV, dOrV, dNotV, dCallD, dCallK, dCB, dCBF, dFor, dLC, dYes, dRng1, dRng2, dSeqI, gN, gT, gsNil, gsCons, dAsg, dNeg, dJoin, dFs, dJs, dFmt, dApp, dExt, dPop, dPopAt, dOwnIx, dOwnCB, dOwnL, dOwnR, dOwnSl, dSetIx, dSlT, dSlL, oNone, oSome, dBorn, optQ, ownAt, setOwnAt, lookAt, wipeD, dNewDT, dNewDK, dDGet, dDIn, dDPut, dSortT, rSrt, isDict, Ev.dictGet, Ev.dictPut, Option.isSome_none, Option.isSome_some, D.keyT, keysOf, D.key, exists_eq_left', exists_eq_left, Option.isSome, rRepL, rCatL, dRetF, dIfF, dPar, dRetOwn, dCallL, dCallLK, dPen2, dRev, dRevI, dIndex, endsL, startL, dNever, dBrk, dCnt, rAddD, rSubI, rIO, rMulI, rDivI, rModI, rPowI, rCI, Ev.rIxD, rIsN, rNotN, D.isN, Ev.rLen, rTuple, rList, rAbs, rInt, rStr, Ev.rRepr, Ev.rIsi, D.ty, kit_tab, startD, endsD, List.map_cons, List.map_nil, List.length_cons, List.length_nil, List.append_nil, List.nil_append, List.cons_append, List.getElem?_cons_zero, List.getElem?_cons_succ, List.getElem?_nil, List.set_cons_zero, List.set_cons_succ, List.replicate, List.replicate_succ, Nat.zero_add, Nat.zero_le, sizeLine, true_and, and_true, if_true, Ev.eq_int, Ev.eq_str, Ev.eq_bl, Ev.eq_non, lst_nil, tup_nil, List.map_eq_nil_iff, txt_join, rLt, rLe, rGt, rGe, atI_ofNat, atI_last, wLC, strsOf, intsOf, blsOf, Option.map_some, Ev.join_two, Ev.join_one, Ev.join_nil, List.sum_cons, List.sum_nil, PySem.Str.empty_append, ixN_ofNat, Option.some.injEq, exists_eq', List.length_map, decide_true, decide_false, Bool.not_true, Bool.not_false, Bool.true_eq_false, Bool.false_eq_true, false_and, and_false, if_false, ite_true, ite_false, Nat.reduceAdd, Nat.reduceSub, Nat.reduceMul, Nat.reduceLT, Nat.reduceLeDiff, Nat.reduceEqDiff, Nat.reducePow, Int.reduceToNat, Int.reducePow, pickL, List.filterMap_cons, List.filterMap_nil, and_self, Int.reduceLT, Int.reduceLE, Int.reduceNeg, Int.reduceAdd, Int.reduceMul, Int.reduceSub, Int.reduceEq, reduceIte, reduceCtorEq, lit_eq, String.reduceEq, Ev.rEq, Ev.rNe, Ev.rInD, cut_toN, cut_fromN, List.map_take, List.forall_mem_cons, List.forall_mem_nil, List.not_mem_nil, false_imp_iff, implies_true, forall_const, D.cm, D.lay, D.lays, D.dep, D.deps, strOk_lit, lays_ints, deps_ints, Nat.max_self, Nat.max_zero, Nat.zero_max, Bool.and_self, Bool.true_and, Bool.and_true, Bool.and_false, Bool.false_and, Bool.or_false, Bool.or_true, Bool.true_or, Bool.false_or, List.any_cons, List.any_nil, decide_eq_true_eq, eq_self, $as,*] $[$l]?)
  | `(tactic| simp only [DSIMP] $[$l:location]?) => `(tactic| simp only [dGcIn, dGbIx, dGdIn, dGdIx, dListRg, rDictPf, dZipL, dListKo, dEmptyT, dDispT1, dNeE, rListA, rDictPT, rIsTF, dGroup, rSrtA, rLenA, dInV, dIxV, dCount, dSortKo, dCallR, adD, gL, dDN, dLN, wNest, bNest, bEl, bEd, dZip, seqOf, dSortDK, dCallV, dCallLam, optQ, dEnum, D.nf, D.nfs, Ev.rSumD, dLock, dKeysI, gStarD, dReverse, dMove, dDGet2, getD2, D.isD, dDisp, dPairs, keysD, Ev.rMaxD, Ev.rMinD, rDictP, Option.getD_some, Option.getD_none, Ev.D.eq_refl, dPen1, dLenSet, dSrtR, dRo, dRoF, dRoT, roD, ro_un, ro_dat, ro_own, ro_hp, ro_law, ro_ownK, ro_ownT, List.forall_mem_map, flat_int, flat_str, flat_bl, flat_non, solid_int, solid_str, solid_bl, solid_non, solid_tup, solids_nil, solids_cons, dSeq, dNext, dSet, dSetF, setSl, dVar, dTake, dC, dBin, dBinF, dB, dIfS, dIf, dRet, dRetN, dExpr, dNil, dCons, dTup, dLst, dFz, dAnd, dOr, dNot, dAndV, dOrV, dNotV, dCallD, dCallK, dCB, dCBF, dFor, dLC, dYes, dRng1, dRng2, dSeqI, gN, gT, gsNil, gsCons, dAsg, dNeg, dJoin, dFs, dJs, dFmt, dApp, dExt, dPop, dPopAt, dOwnIx, dOwnCB, dOwnL, dOwnR, dOwnSl, dSetIx, dSlT, dSlL, oNone, oSome, dBorn, optQ, ownAt, setOwnAt, lookAt, wipeD, dNewDT, dNewDK, dDGet, dDIn, dDPut, dSortT, rSrt, isDict, Ev.dictGet, Ev.dictPut, Option.isSome_none, Option.isSome_some, D.keyT, keysOf, D.key, exists_eq_left', exists_eq_left, Option.isSome, rRepL, rCatL, dRetF, dIfF, dPar, dRetOwn, dCallL, dCallLK, dPen2, dRev, dRevI, dIndex, endsL, startL, dNever, dBrk, dCnt, rAddD, rSubI, rIO, rMulI, rDivI, rModI, rPowI, rCI, Ev.rIxD, rIsN, rNotN, D.isN, Ev.rLen, rTuple, rList, rAbs, rInt, rStr, Ev.rRepr, Ev.rIsi, D.ty, kit_tab, startD, endsD, List.map_cons, List.map_nil, List.length_cons, List.length_nil, List.append_nil, List.nil_append, List.cons_append, List.getElem?_cons_zero, List.getElem?_cons_succ, List.getElem?_nil, List.set_cons_zero, List.set_cons_succ, List.replicate, List.replicate_succ, Nat.zero_add, Nat.zero_le, sizeLine, true_and, and_true, if_true, Ev.eq_int, Ev.eq_str, Ev.eq_bl, Ev.eq_non, lst_nil, tup_nil, List.map_eq_nil_iff, txt_join, rLt, rLe, rGt, rGe, atI_ofNat, atI_last, wLC, strsOf, intsOf, blsOf, Option.map_some, Ev.join_two, Ev.join_one, Ev.join_nil, List.sum_cons, List.sum_nil, PySem.Str.empty_append, ixN_ofNat, Option.some.injEq, exists_eq', List.length_map, decide_true, decide_false, Bool.not_true, Bool.not_false, Bool.true_eq_false, Bool.false_eq_true, false_and, and_false, if_false, ite_true, ite_false, Nat.reduceAdd, Nat.reduceSub, Nat.reduceMul, Nat.reduceLT, Nat.reduceLeDiff, Nat.reduceEqDiff, Nat.reducePow, Int.reduceToNat, Int.reducePow, pickL, List.filterMap_cons, List.filterMap_nil, and_self, Int.reduceLT, Int.reduceLE, Int.reduceNeg, Int.reduceAdd, Int.reduceMul, Int.reduceSub, Int.reduceEq, reduceIte, reduceCtorEq, lit_eq, String.reduceEq, Ev.rEq, Ev.rNe, Ev.rInD, cut_toN, cut_fromN, List.map_take, List.forall_mem_cons, List.forall_mem_nil, List.not_mem_nil, false_imp_iff, implies_true, forall_const, D.cm, D.lay, D.lays, D.dep, D.deps, strOk_lit, lays_ints, deps_ints, Nat.max_self, Nat.max_zero, Nat.zero_max, Bool.and_self, Bool.true_and, Bool.and_true, Bool.and_false, Bool.false_and, Bool.or_false, Bool.or_true, Bool.true_or, Bool.false_or, List.any_cons, List.any_nil, decide_eq_true_eq, eq_self] $[$l]?)
variable [TabC]
def sp__law_kinds : dSp := fun ds p Q _ => match ds, p with
  | [.raw (.ref a)], some (b, c) => a = b ∧ c + 9 < 65536 ∧ ∀ (xs : List It) c', xs.length ≤ 10 → (∀ x ∈ xs, itOk x) → c' ≤ c + 9 → Q (.tup (xs.map itD)) (some (a, c'))
  | _, _ => False
abbrev s__law_kinds : Stmt := topS 11
abbrev n__law_kinds : List Str := ["_law_pen_here", "_law_share", "_law_every", "_law_one"]
theorem sc__law_kinds : FnScope n__law_kinds ["_law_pen_here"] (defScope s__law_kinds) := ⟨rfl, rfl, rfl, by decide +kernel, rfl, by decide +kernel, by decide +kernel⟩
def p__law_kinds_0 : dS := (dSet 1 (dCallD 2 [] sp__law_pick (dCons (dVar 0) (dCons (dFz (dLst (dCons (dC (.int 2)) (dCons (dC (.int 2)) (dCons (dC (.int 4)) (dCons (dC (.int 1)) (dCons (dC (.int 99)) dNil))))))) dNil))))
def p__law_kinds_1 : dS := (dSet 2 (dFz (dLst (dCons (dC (.str "enter")) (dCons (dC (.str "exposed")) (dCons (dC (.str "focus")) (dCons (dC (.str "key")) (dCons (dC (.str "leave")) (dCons (dC (.str "motion")) (dCons (dC (.str "press")) (dCons (dC (.str "release")) dNil)))))))))))
def p__law_kinds_2 : dS := (dRet (dCB rTuple (dCons (dFz (dLC (dSeqI (dVar 2)) (gN 3) (dB (dBin (rEq) (dCallD 2 [] sp__law_draw (dCons (dVar 0) (dCons (dVar 1) dNil))) (dC (.int 0)))) (dVar 3) [3])) dNil)))
def b__law_kinds_2 : dS := p__law_kinds_2
def b__law_kinds_1 : dS := dSeq p__law_kinds_1 b__law_kinds_2
def b__law_kinds_0 : dS := dSeq p__law_kinds_0 b__law_kinds_1
def b__law_kinds : dS := b__law_kinds_0
theorem run__law_kinds {P : Program} {w : World} {K : PySem.W.Frag} {mg : Str → Option Value} {base : Heap} (m_tuple : mg "tuple" = none) (K__law_draw_2 : Def P w K mg base 1 "_law_draw" 2 sp__law_draw []) (K__law_pick_2 : Def P w K mg base 2 "_law_pick" 2 sp__law_pick []) {f : Addr} (cdv : Value) (A : Around) (out : List Env) (s : Shared) (H : Hp) (E : XK) (g : A.guards = some []) (hrA : Room 2 (A.deeper (envOfC "_law_kinds" (defScope s__law_kinds) s.heap.objs.size f cdv))) :
  DSs (cx0 P w K mg base n__law_kinds "_law_kinds" (defScope s__law_kinds) f cdv A out s H E) E00 (defBody s__law_kinds) b__law_kinds := by
 have hgA : (A.deeper (envOfC "_law_kinds" (defScope s__law_kinds) s.heap.objs.size f cdv)).guards = some [] := g
 have hun := hrA.un
 exact (dss_cons (t := p__law_kinds_0) (u := b__law_kinds_1) (ds_set (i := 1) sc__law_kinds.nd rfl (by first | exact .inl rfl | exact .inr rfl) (de_callD K__law_pick_2 hgA hrA (by rfl) (da_cons (de_var (pv 0)) (da_cons (de_fz (df_lst (da_cons de_int (da_cons de_int (da_cons de_int (da_cons de_int (da_cons de_int da_nil))))))) da_nil))))
  (dss_cons (t := p__law_kinds_1) (u := b__law_kinds_2) (ds_set (i := 2) sc__law_kinds.nd rfl (by first | exact .inl rfl | exact .inr rfl) (de_fz (df_lst (da_cons de_str (da_cons de_str (da_cons de_str (da_cons de_str (da_cons de_str (da_cons de_str (da_cons de_str (da_cons de_str da_nil)))))))))))
  (dss_one (t := p__law_kinds_2) (ds_ret (de_callTy (cd_tuple) (by rfl) m_tuple (by decide +kernel) (da_cons (de_fz (df_lc (E2 := E00) (own := [("_law_one", 3)]) rfl sc__law_kinds.nd (di_seq (de_var (pv 2))) (blkOk_by (N := n__law_kinds) (sc := (defScope s__law_kinds)) (own := [("_law_one", 3)]) (by decide +kernel)) (by decide) (fun _ _ _ _ _ => (dg_name (pg_name (i := 3) sc__law_kinds.nd rfl (by first | exact .inl rfl | exact .inr rfl)))) (fun _ _ _ _ _ => (dts_one (dt_cmp (od_eq (Nat.lt_of_le_of_lt (Nat.add_le_add_left (by decide) _) hun)) (de_callD K__law_draw_2 hgA hrA (by rfl) (da_cons (de_var (pv 0)) (da_cons (de_var (pv 1)) da_nil))) de_int (nomark _)))) (fun _ _ _ _ _ => (de_var (pv 3))))) da_nil))))))
def everyK : List Str := ["enter", "exposed", "focus", "key", "leave", "motion", "press", "release"]
theorem every_ok : ∀ t ∈ everyK, PyData.strOk t = true ∧ t.length ≤ 10 := by decide +kernel
theorem hsp__law_kinds : ∀ ds p Q W, ds.length = 1 → sp__law_kinds ds p Q W → b__law_kinds W0 (endsD Q) (startD n__law_kinds.length ds p) := by
  intro ds p Q W _ h
  match ds, p, h with
  | [.raw (.ref a)], some (b, c), ⟨e, hc, q⟩ =>
    subst e
    simp only [DSIMP, n__law_kinds, b__law_kinds, b__law_kinds_0, p__law_kinds_0, sp__law_pick]
    have main : ∀ sh : Int, 0 < sh → sh < 1000 → b__law_kinds_1 W0 (endsD Q) ⟨[.dat (.raw (.ref a)), .dat (.int sh), .un, .un], some (a, c + 1)⟩ := fun sh s0 s1 => by
      obtain ⟨EK, eE⟩ : ∃ E, E = everyK := ⟨_, rfl⟩
      have every_ok := eE ▸ every_ok
      have eL : EK.length = 8 := by rw [eE]; rfl
      have fin : b__law_kinds_2 W0 (endsD Q) ⟨[.dat (.raw (.ref a)), .dat (.int sh), .dat (.lst (EK.map D.str)), .un], some (a, c + 1)⟩ := by
        simp only [DSIMP, b__law_kinds_2, p__law_kinds_2]
        refine wLC_ind (fun ds acc δ => ∃ (l : List Str) (xs : List It) (c' : Nat), ds = l.map D.str ∧ (∀ t ∈ l, t ∈ EK) ∧ acc = xs.map itD ∧ xs.length + l.length ≤ 8 ∧ (∀ x ∈ xs, itOk x) ∧ c' + l.length ≤ c + 9 ∧ ∃ s3, δ = ⟨[.dat (.raw (.ref a)), .dat (.int sh), .dat (.lst (EK.map D.str)), s3], some (a, c')⟩) ?_ ?_ _ _ _ ⟨EK, [], c + 1, rfl, fun _ h => h, rfl, by rw [eL]; decide, by simp, by omega, _, rfl⟩
        · rintro d ds _ _ k hk ⟨l, xs, c', hl, hin, rfl, h1, ok, h2, s3, rfl⟩
          cases l with
          | nil => cases hl
          | cons t l =>
            rw [List.map_cons] at hl
            injection hl with e1 e2
            subst e1 e2
            rw [List.length_cons] at h1 h2
            simp only [DSIMP, sp__law_draw, spDraw]
            refine ⟨s0, by omega, by omega, fun r r0 r1 => ?_⟩
            have ht := every_ok t (hin t List.mem_cons_self)
            by_cases hr : r = 0
            · simp only [DSIMP, hr]
              refine ⟨by omega, hk _ _ ⟨l, xs ++ [.str t], c' + 1, rfl, fun z hz => hin z (List.mem_cons_of_mem _ hz), by rw [List.map_append]; rfl, by simp; omega, fun x hx => ?_, by omega, _, rfl⟩⟩
              rcases List.mem_append.mp hx with hx | hx
              · exact ok x hx
              · rw [List.mem_singleton] at hx; subst hx; exact ht
            · simp only [DSIMP, hr]
              exact hk _ _ ⟨l, xs, c' + 1, rfl, fun z hz => hin z (List.mem_cons_of_mem _ hz), rfl, by omega, ok, by omega, _, rfl⟩
        · rintro _ _ ⟨l, xs, c', hl, hin, rfl, h1, ok, h2, s3, rfl⟩
          exact q xs c' (by omega) ok (by omega)
      rw [eE] at fin
      simp only [DSIMP, b__law_kinds_1, p__law_kinds_1]
      exact fin
    exact ⟨by omega, main _ (by omega) (by omega), main _ (by omega) (by omega), main _ (by omega) (by omega), main _ (by omega) (by omega), main _ (by omega) (by omega)⟩
theorem ok__law_kinds {P : Program} {w : World} {K : PySem.W.Frag} {mg : Str → Option Value} {base : Heap} (m_tuple : mg "tuple" = none) (K__law_draw_2 : Def P w K mg base 1 "_law_draw" 2 sp__law_draw []) (K__law_pick_2 : Def P w K mg base 2 "_law_pick" 2 sp__law_pick []) {f : Addr} {fd : FuncData} (F : Fun K "_law_kinds" "_law_kinds" s__law_kinds f fd) : FnG P w K mg base CX0 3 f fd ["_law_pen_here"] (spD K 1 sp__law_kinds) :=
 fn_d0 F sc__law_kinds rfl (fun cdv A out s H E g r => run__law_kinds m_tuple K__law_draw_2 K__law_pick_2 cdv A out s H E g r) hsp__law_kinds
def sp__law_room : dSp := fun ds p Q _ => match ds, p with
  | [.raw (.ref a)], some (b, c) => a = b ∧ c + 4 < 65536 ∧ ∀ i : Int, lit i → Q (.int i) (some (a, c + 4))
  | _, _ => False
abbrev s__law_room : Stmt := topS 12
abbrev n__law_room : List Str := ["_law_pen_here"]
theorem sc__law_room : FnScope n__law_room ["_law_pen_here"] (defScope s__law_room) := ⟨rfl, rfl, rfl, by decide +kernel, rfl, by decide +kernel, by decide +kernel⟩
def b__law_room : dS := (dRet (dCallD 2 [] sp__law_pick (dCons (dVar 0) (dCons (dFz (dLst (dCons (dCallD 2 [] sp__law_draw (dCons (dVar 0) (dCons (dC (.int 10)) dNil))) (dCons (dCallD 2 [] sp__law_draw (dCons (dVar 0) (dCons (dC (.int 10)) dNil))) (dCons (dCallD 2 [] sp__law_draw (dCons (dVar 0) (dCons (dC (.int 1000)) dNil))) (dCons (dC (.int 999)) dNil)))))) dNil))))
theorem run__law_room {P : Program} {w : World} {K : PySem.W.Frag} {mg : Str → Option Value} {base : Heap} (K__law_draw_2 : Def P w K mg base 1 "_law_draw" 2 sp__law_draw []) (K__law_pick_2 : Def P w K mg base 2 "_law_pick" 2 sp__law_pick []) {f : Addr} (cdv : Value) (A : Around) (out : List Env) (s : Shared) (H : Hp) (E : XK) (g : A.guards = some []) (hrA : Room 2 (A.deeper (envOfC "_law_room" (defScope s__law_room) s.heap.objs.size f cdv))) :
  DSs (cx0 P w K mg base n__law_room "_law_room" (defScope s__law_room) f cdv A out s H E) E00 (defBody s__law_room) b__law_room := by
 have hgA : (A.deeper (envOfC "_law_room" (defScope s__law_room) s.heap.objs.size f cdv)).guards = some [] := g
 have hun := hrA.un
 exact (dss_one (ds_ret (de_callD K__law_pick_2 hgA hrA (by rfl) (da_cons (de_var (pv 0)) (da_cons (de_fz (df_lst (da_cons (de_callD K__law_draw_2 hgA hrA (by rfl) (da_cons (de_var (pv 0)) (da_cons de_int da_nil))) (da_cons (de_callD K__law_draw_2 hgA hrA (by rfl) (da_cons (de_var (pv 0)) (da_cons de_int da_nil))) (da_cons (de_callD K__law_draw_2 hgA hrA (by rfl) (da_cons (de_var (pv 0)) (da_cons de_int da_nil))) (da_cons de_int da_nil)))))) da_nil)))))
theorem hsp__law_room : ∀ ds p Q W, ds.length = 1 → sp__law_room ds p Q W → b__law_room W0 (endsD Q) (startD n__law_room.length ds p) := by
  intro ds p Q W _ h
  match ds, p, h with
  | [.raw (.ref a)], some (b, c), ⟨e, hc, q⟩ =>
    subst e
    simp only [DSIMP, b__law_room, n__law_room, sp__law_draw, spDraw, sp__law_pick]
    have q' : ∀ i : Int, i.natAbs < 100000 → Q (.int i) (some (a, c + 4)) := q
    exact ⟨by omega, fun r r0 r1 => ⟨by omega, fun s s0 s1 => ⟨by omega, fun t t0 t1 => ⟨by omega, q' _ (by omega), q' _ (by omega), q' _ (by omega), q' _ (by omega)⟩⟩⟩⟩
theorem ok__law_room {P : Program} {w : World} {K : PySem.W.Frag} {mg : Str → Option Value} {base : Heap} (K__law_draw_2 : Def P w K mg base 1 "_law_draw" 2 sp__law_draw []) (K__law_pick_2 : Def P w K mg base 2 "_law_pick" 2 sp__law_pick []) {f : Addr} {fd : FuncData} (F : Fun K "_law_room" "_law_room" s__law_room f fd) : FnG P w K mg base CX0 3 f fd ["_law_pen_here"] (spD K 1 sp__law_room) :=
 fn_d0 F sc__law_room rfl (fun cdv A out s H E g r => run__law_room K__law_draw_2 K__law_pick_2 cdv A out s H E g r) hsp__law_room
def sp__law_off : dSp := fun ds p Q _ => match ds, p with
  | [.raw (.ref a)], some (b, c) => a = b ∧ c + 3 < 65536 ∧ ∀ i : Int, lit i → Q (.int i) (some (a, c + 3))
  | _, _ => False
abbrev s__law_off : Stmt := topS 13
abbrev n__law_off : List Str := ["_law_pen_here"]
theorem sc__law_off : FnScope n__law_off ["_law_pen_here"] (defScope s__law_off) := ⟨rfl, rfl, rfl, by decide +kernel, rfl, by decide +kernel, by decide +kernel⟩
def b__law_off : dS := (dRet (dCallD 2 [] sp__law_pick (dCons (dVar 0) (dCons (dFz (dLst (dCons (dBin rSubI (dCallD 2 [] sp__law_draw (dCons (dVar 0) (dCons (dC (.int 12)) dNil))) (dC (.int 4))) (dCons (dBin rSubI (dCallD 2 [] sp__law_draw (dCons (dVar 0) (dCons (dC (.int 81)) dNil))) (dC (.int 40))) (dCons (dC (.int 0)) (dCons (dC (.int (-40))) (dCons (dC (.int 40)) (dCons (dC (.int (-1))) dNil)))))))) dNil))))
theorem run__law_off {P : Program} {w : World} {K : PySem.W.Frag} {mg : Str → Option Value} {base : Heap} (K__law_draw_2 : Def P w K mg base 1 "_law_draw" 2 sp__law_draw []) (K__law_pick_2 : Def P w K mg base 2 "_law_pick" 2 sp__law_pick []) {f : Addr} (cdv : Value) (A : Around) (out : List Env) (s : Shared) (H : Hp) (E : XK) (g : A.guards = some []) (hrA : Room 2 (A.deeper (envOfC "_law_off" (defScope s__law_off) s.heap.objs.size f cdv))) :
  DSs (cx0 P w K mg base n__law_off "_law_off" (defScope s__law_off) f cdv A out s H E) E00 (defBody s__law_off) b__law_off := by
 have hgA : (A.deeper (envOfC "_law_off" (defScope s__law_off) s.heap.objs.size f cdv)).guards = some [] := g
 have hun := hrA.un
 exact (dss_one (ds_ret (de_callD K__law_pick_2 hgA hrA (by rfl) (da_cons (de_var (pv 0)) (da_cons (de_fz (df_lst (da_cons (de_op od_sub (de_callD K__law_draw_2 hgA hrA (by rfl) (da_cons (de_var (pv 0)) (da_cons de_int da_nil))) de_int) (da_cons (de_op od_sub (de_callD K__law_draw_2 hgA hrA (by rfl) (da_cons (de_var (pv 0)) (da_cons de_int da_nil))) de_int) (da_cons de_int (da_cons de_neg (da_cons de_int (da_cons de_neg da_nil)))))))) da_nil)))))
theorem hsp__law_off : ∀ ds p Q W, ds.length = 1 → sp__law_off ds p Q W → b__law_off W0 (endsD Q) (startD n__law_off.length ds p) := by
  intro ds p Q W _ h
  match ds, p, h with
  | [.raw (.ref a)], some (b, c), ⟨e, hc, q⟩ =>
    subst e
    simp only [DSIMP, b__law_off, n__law_off, sp__law_draw, spDraw, sp__law_pick]
    have q' : ∀ i : Int, i.natAbs < 100000 → Q (.int i) (some (a, c + 3)) := q
    exact ⟨by omega, fun r r0 r1 => ⟨by omega, fun s s0 s1 => ⟨by omega, q' _ (by omega), q' _ (by omega), q' _ (by omega), q' _ (by omega), q' _ (by omega), q' _ (by omega)⟩⟩⟩
theorem ok__law_off {P : Program} {w : World} {K : PySem.W.Frag} {mg : Str → Option Value} {base : Heap} (K__law_draw_2 : Def P w K mg base 1 "_law_draw" 2 sp__law_draw []) (K__law_pick_2 : Def P w K mg base 2 "_law_pick" 2 sp__law_pick []) {f : Addr} {fd : FuncData} (F : Fun K "_law_off" "_law_off" s__law_off f fd) : FnG P w K mg base CX0 3 f fd ["_law_pen_here"] (spD K 1 sp__law_off) :=
 fn_d0 F sc__law_off rfl (fun cdv A out s H E g r => run__law_off K__law_draw_2 K__law_pick_2 cdv A out s H E g r) hsp__law_off
def sp__law_input : dSp := fun ds p Q _ => match ds, p with
  | [.raw (.ref a)], some (b, c) => a = b ∧ c + 20 < 65536 ∧ ∀ e c', rwOk e → c' ≤ c + 20 → Q (rwD e) (some (a, c'))
  | _, _ => False
abbrev s__law_input : Stmt := topS 15
abbrev n__law_input : List Str := ["_law_pen_here", "_law_word", "_law_spot_so", "_law_some", "_law_k"]
theorem sc__law_input : FnScope n__law_input ["_law_pen_here"] (defScope s__law_input) := ⟨rfl, rfl, rfl, by decide +kernel, rfl, by decide +kernel, by decide +kernel⟩
def p__law_input_0 : dS := (dSet 1 (dJoin (dC (.str "")) (dFz (dLC (dRng1 (dCons (dBin rAddD (dC (.int 1)) (dCallD 2 [] sp__law_draw (dCons (dVar 0) (dCons (dC (.int 6)) dNil)))) dNil)) (gN 4) dYes (dBin rIxD (dC (.str "abcdefghijklmnopqrstuvwxyz")) (dCallD 2 [] sp__law_draw (dCons (dVar 0) (dCons (dC (.int 26)) dNil)))) [4]))))
def p__law_input_1 : dS := (dSet 1 (dDGet2 (dDisp [((dC (.str "j")), (dC (.str "yes"))), ((dC (.str "q")), (dC (.str "no"))), ((dC (.str "x")), (dC (.str "none"))), ((dC (.str "z")), (dC (.str "on")))]) (dBin rIxD (dVar 1) (dC (.int 0))) (dVar 1)))
def p__law_input_2 : dS := (dSet 2 (dTup (dCons (dBin rSubI (dCallD 2 [] sp__law_draw (dCons (dVar 0) (dCons (dC (.int 30)) dNil))) (dC (.int 5))) (dCons (dCallD 2 [] sp__law_pick (dCons (dVar 0) (dCons (dFz (dLst (dCons (dBin rSubI (dCallD 2 [] sp__law_draw (dCons (dVar 0) (dCons (dC (.int 30)) dNil))) (dC (.int 5))) (dCons (dC (.int 999)) (dCons (dC (.int (-999))) (dCons (dC (.int 0)) dNil)))))) dNil))) dNil))))
def p__law_input_3 : dS := (dSet 3 (dFz (dLst (dCons (dTup (dCons (dC (.str "move")) (dCons (dVar 2) dNil))) (dCons (dTup (dCons (dC (.str "press")) (dCons (dBin rAddD (dC (.int 1)) (dCallD 2 [] sp__law_draw (dCons (dVar 0) (dCons (dC (.int 3)) dNil)))) dNil))) (dCons (dTup (dCons (dC (.str "release")) (dCons (dBin rAddD (dC (.int 1)) (dCallD 2 [] sp__law_draw (dCons (dVar 0) (dCons (dC (.int 3)) dNil)))) dNil))) (dCons (dTup (dCons (dC (.str "key")) (dCons (dVar 1) dNil))) dNil)))))))
def p__law_input_4 : dS := (dRet (dCallD 2 [] sp__law_pick (dCons (dVar 0) (dCons (dVar 3) dNil))))
def b__law_input_4 : dS := p__law_input_4
def b__law_input_3 : dS := dSeq p__law_input_3 b__law_input_4
def b__law_input_2 : dS := dSeq p__law_input_2 b__law_input_3
def b__law_input_1 : dS := dSeq p__law_input_1 b__law_input_2
def b__law_input_0 : dS := dSeq p__law_input_0 b__law_input_1
def b__law_input : dS := b__law_input_0
theorem run__law_input {P : Program} {w : World} {K : PySem.W.Frag} {mg : Str → Option Value} {base : Heap} (m_range : mg "range" = none) (K__law_draw_2 : Def P w K mg base 1 "_law_draw" 2 sp__law_draw []) (K__law_pick_2 : Def P w K mg base 2 "_law_pick" 2 sp__law_pick []) {f : Addr} (cdv : Value) (A : Around) (out : List Env) (s : Shared) (H : Hp) (E : XK) (g : A.guards = some []) (hrA : Room 2 (A.deeper (envOfC "_law_input" (defScope s__law_input) s.heap.objs.size f cdv))) :
  DSs (cx0 P w K mg base n__law_input "_law_input" (defScope s__law_input) f cdv A out s H E) E00 (defBody s__law_input) b__law_input := by
 have hgA : (A.deeper (envOfC "_law_input" (defScope s__law_input) s.heap.objs.size f cdv)).guards = some [] := g
 have hun := hrA.un
 exact (dss_cons (t := p__law_input_0) (u := b__law_input_1) (ds_set (i := 1) sc__law_input.nd rfl (by first | exact .inl rfl | exact .inr rfl) (de_join de_str (de_fz (df_lc (E2 := E00) (own := [("_law_k", 4)]) rfl sc__law_input.nd (di_range1 (by rfl) m_range (da_cons (de_op od_add de_int (de_callD K__law_draw_2 hgA hrA (by rfl) (da_cons (de_var (pv 0)) (da_cons de_int da_nil)))) da_nil)) (blkOk_by (N := n__law_input) (sc := (defScope s__law_input)) (own := [("_law_k", 4)]) (by decide +kernel)) (by decide) (fun _ _ _ _ _ => (dg_name (pg_name (i := 4) sc__law_input.nd rfl (by first | exact .inl rfl | exact .inr rfl)))) (fun _ _ _ _ _ => dts_nil) (fun _ _ _ _ _ => (de_ix de_str (de_callD K__law_draw_2 hgA hrA (by rfl) (da_cons (de_var (pv 0)) (da_cons de_int da_nil))) (fun _ _ => rfl))))) (fun _ _ _ h => dc_str _ _ _ h)))
  (dss_cons (t := p__law_input_1) (u := b__law_input_2) (ds_set (i := 1) sc__law_input.nd rfl (by first | exact .inl rfl | exact .inr rfl) (de_get2 (Nat.lt_of_le_of_lt (Nat.add_le_add_left (by decide) _) hun) (de_disp (.cons de_str de_str (.cons de_str de_str (.cons de_str de_str (.cons de_str de_str .nil)))) (by rfl) (by rfl) (by simp) (by decide)) (de_ix (de_var (pv 1)) de_int (fun _ _ => rfl)) (de_var (pv 1)) ⟨by rfl, by rfl, by rfl, by rfl⟩))
  (dss_cons (t := p__law_input_2) (u := b__law_input_3) (ds_set (i := 2) sc__law_input.nd rfl (by first | exact .inl rfl | exact .inr rfl) (de_tup (da_cons (de_op od_sub (de_callD K__law_draw_2 hgA hrA (by rfl) (da_cons (de_var (pv 0)) (da_cons de_int da_nil))) de_int) (da_cons (de_callD K__law_pick_2 hgA hrA (by rfl) (da_cons (de_var (pv 0)) (da_cons (de_fz (df_lst (da_cons (de_op od_sub (de_callD K__law_draw_2 hgA hrA (by rfl) (da_cons (de_var (pv 0)) (da_cons de_int da_nil))) de_int) (da_cons de_int (da_cons de_neg (da_cons de_int da_nil)))))) da_nil))) da_nil))))
  (dss_cons (t := p__law_input_3) (u := b__law_input_4) (ds_set (i := 3) sc__law_input.nd rfl (by first | exact .inl rfl | exact .inr rfl) (de_fz (df_lst (da_cons (de_tup (da_cons de_str (da_cons (de_var (pv 2)) da_nil))) (da_cons (de_tup (da_cons de_str (da_cons (de_op od_add de_int (de_callD K__law_draw_2 hgA hrA (by rfl) (da_cons (de_var (pv 0)) (da_cons de_int da_nil)))) da_nil))) (da_cons (de_tup (da_cons de_str (da_cons (de_op od_add de_int (de_callD K__law_draw_2 hgA hrA (by rfl) (da_cons (de_var (pv 0)) (da_cons de_int da_nil)))) da_nil))) (da_cons (de_tup (da_cons de_str (da_cons (de_var (pv 1)) da_nil))) da_nil)))))))
  (dss_one (t := p__law_input_4) (ds_ret (de_callD K__law_pick_2 hgA hrA (by rfl) (da_cons (de_var (pv 0)) (da_cons (de_var (pv 3)) da_nil)))))))))
def abc : Str := "abcdefghijklmnopqrstuvwxyz"
theorem abc_ok : ∀ c ∈ abc.cps.toList, PyData.strOk ⟨#[c]⟩ = true := by decide +kernel
theorem abc_at {r : Int} (h0 : 0 ≤ r) (h1 : r < 26) : ∃ c, atI (Str.ofString "abcdefghijklmnopqrstuvwxyz").cps.toList r = some c ∧ PyData.strOk ⟨#[c]⟩ = true := by
  have e : abc.cps.toList.length = 26 := by decide +kernel
  have h2 : r.toNat < abc.cps.toList.length := by omega
  refine ⟨abc.cps.toList[r.toNat], ?_, abc_ok _ (List.getElem_mem h2)⟩
  show atI abc.cps.toList r = _
  rw [atI_nn h0, List.getElem?_eq_getElem h2]
def oneS (ch : Nat) : Str := ⟨#[ch]⟩
theorem join_chars : ∀ cs : List Nat, Str.join "" (cs.map oneS) = ⟨cs.toArray⟩
  | [] => rfl
  | [c] => rfl
  | c :: d :: cs => by
    have ih := join_chars (d :: cs)
    rw [List.map_cons] at ih ⊢
    rw [List.map_cons, Ev.join_two, ih]
    show (⟨#[c] ++ #[] ++ (d :: cs).toArray⟩ : Str) = _
    simp
theorem valD_mem {es : List (Key × D)} {k : Key} {d : D} (h : valD es k = some d) : ∃ e ∈ es, e.2 = d := by
  unfold valD at h
  obtain ⟨e, he, rfl⟩ := Option.map_eq_some_iff.mp h
  exact ⟨e, List.mem_of_find?_eq_some he, rfl⟩
theorem word_is {es : List (Key × D)} {k : Key} {z : Str} (h : ∀ e ∈ es, ∃ t, e.2 = D.str t ∧ PyData.strOk t = true ∧ t.length ≤ 10) (hz : PyData.strOk z = true ∧ z.length ≤ 10) : ∃ t, (valD es k).getD (D.str z) = D.str t ∧ PyData.strOk t = true ∧ t.length ≤ 10 := by
  cases e : valD es k with
  | none => exact ⟨z, rfl, hz⟩
  | some d =>
    obtain ⟨x, hx, rfl⟩ := valD_mem e
    exact h x hx
theorem hsp__law_input : ∀ ds p Q W, ds.length = 1 → sp__law_input ds p Q W → b__law_input W0 (endsD Q) (startD n__law_input.length ds p) := by
  intro ds p Q W _ h
  match ds, p, h with
  | [.raw (.ref a)], some (b, c), ⟨e, hc, q⟩ =>
    subst e
    have last : ∀ (t : Str) (c' : Nat) s4, PyData.strOk t = true → t.length ≤ 10 → c' ≤ c + 8 → b__law_input_2 W0 (endsD Q) ⟨[.dat (.raw (.ref a)), .dat (.str t), .un, .un, s4], some (a, c')⟩ := fun t c' s4 t1 t2 hc' => by
      simp only [DSIMP, b__law_input_2, p__law_input_2, b__law_input_3, p__law_input_3, b__law_input_4, p__law_input_4, sp__law_draw, spDraw, sp__law_pick]
      have F : ∀ x y : Int, lit x → lit y → (c' + 1 + 1 + 1 < 65536 ∧ ∀ r : Int, 0 ≤ r → r < 3 → c' + 1 + 1 + 1 + 1 < 65536 ∧ ∀ s : Int, 0 ≤ s → s < 3 → c' + 1 + 1 + 1 + 1 + 1 < 65536 ∧ Q (.tup [.str (Str.ofString "move"), .tup [.int x, .int y]]) (some (a, c' + 1 + 1 + 1 + 1 + 1 + 1)) ∧ Q (.tup [.str (Str.ofString "press"), .int (1 + r)]) (some (a, c' + 1 + 1 + 1 + 1 + 1 + 1)) ∧ Q (.tup [.str (Str.ofString "release"), .int (1 + s)]) (some (a, c' + 1 + 1 + 1 + 1 + 1 + 1)) ∧ Q (.tup [.str (Str.ofString "key"), .str t]) (some (a, c' + 1 + 1 + 1 + 1 + 1 + 1))) := fun x y hx hy => by
        refine ⟨by omega, fun r r0 r1 => ⟨by omega, fun s s0 s1 => ⟨by omega, q (.move x y) _ ⟨hx, hy⟩ (by omega), q (.inp "press" (.int (1 + r))) _ ⟨.inl rfl, ?_⟩ (by omega), q (.inp "release" (.int (1 + s))) _ ⟨.inr (.inl rfl), ?_⟩ (by omega), q (.inp "key" (.str t)) _ ⟨.inr (.inr rfl), t1, t2⟩ (by omega)⟩⟩⟩
        · show (1 + r).natAbs < 100000; omega
        · show (1 + s).natAbs < 100000; omega
      refine ⟨by omega, fun x x0 x1 => ⟨by omega, fun y y0 y1 => ⟨by omega, F _ _ ?_ ?_, F _ _ ?_ ?_, F _ _ ?_ ?_, F _ _ ?_ ?_⟩⟩⟩ <;> (unfold lit; omega)
    have mid : ∀ (ch : Nat) (cs : List Nat) (c' : Nat) s4, cs.length < 10 → PyData.strOk ⟨(ch :: cs).toArray⟩ = true → c' ≤ c + 8 → b__law_input_1 W0 (endsD Q) ⟨[.dat (.raw (.ref a)), .dat (.str ⟨(ch :: cs).toArray⟩), .un, .un, s4], some (a, c')⟩ := fun ch cs c' s4 hl hs hc' => by
      have l1 : (Str.length ⟨(ch :: cs).toArray⟩) ≤ 10 := by show (ch :: cs).length ≤ 10; simp; omega
      simp only [DSIMP, b__law_input_1, p__law_input_1]
      obtain ⟨t, e, t1, t2⟩ := word_is (es := mergeD [] [(Sum.inr (Str.ofString "j"), D.str (Str.ofString "yes")), (Sum.inr (Str.ofString "q"), D.str (Str.ofString "no")), (Sum.inr (Str.ofString "x"), D.str (Str.ofString "none")), (Sum.inr (Str.ofString "z"), D.str (Str.ofString "on"))]) (k := Sum.inr (oneS ch)) (z := ⟨(ch :: cs).toArray⟩) (fun e he => by
        have he : e ∈ ([(Sum.inr (Str.ofString "j"), D.str (Str.ofString "yes")), (Sum.inr (Str.ofString "q"), D.str (Str.ofString "no")), (Sum.inr (Str.ofString "x"), D.str (Str.ofString "none")), (Sum.inr (Str.ofString "z"), D.str (Str.ofString "on"))] : List (Key × D)) := he
        simp only [List.mem_cons, List.not_mem_nil, or_false] at he
        rcases he with rfl | rfl | rfl | rfl <;> exact ⟨_, rfl, strOk_lit _, by decide +kernel⟩) ⟨hs, l1⟩
      have e : (valD (mergeD [] [(Sum.inr (Str.ofString "j"), D.str (Str.ofString "yes")), (Sum.inr (Str.ofString "q"), D.str (Str.ofString "no")), (Sum.inr (Str.ofString "x"), D.str (Str.ofString "none")), (Sum.inr (Str.ofString "z"), D.str (Str.ofString "on"))]) (Sum.inr ⟨#[ch]⟩)).getD (.str ⟨(ch :: cs).toArray⟩) = D.str t := e
      rw [e]
      exact ⟨by omega, last t c' s4 t1 t2 hc'⟩
    simp only [DSIMP, n__law_input, b__law_input, b__law_input_0, p__law_input_0, sp__law_draw, spDraw]
    refine ⟨by omega, fun n n0 n1 => ⟨by omega, by omega, ?_⟩⟩
    refine wLC_ind (fun ds acc δ => ∃ (cs : List Nat) (c' : Nat), acc = cs.map (fun c => D.str (oneS c)) ∧ cs.length + ds.length = (1 + n).toNat ∧ (∀ x ∈ cs, PyData.strOk (oneS x) = true) ∧ c' + ds.length ≤ c + 8 ∧ ∃ s4, δ = ⟨[.dat (.raw (.ref a)), .un, .un, .un, s4], some (a, c')⟩) ?_ ?_ _ _ _ ⟨[], c + 1, rfl, by rw [intsFrom_len]; simp, by simp, by rw [intsFrom_len]; omega, _, rfl⟩
    · rintro d ds _ _ k hk ⟨cs, c', rfl, h1, ok, h2, s4, rfl⟩
      rw [List.length_cons] at h1 h2
      show gN 4 d _ _
      have h26 : (Str.ofString "abcdefghijklmnopqrstuvwxyz").length ≤ 16777216 := by decide +kernel
      simp only [DSIMP, spDraw]
      refine ⟨by omega, fun r r0 r1 => ?_⟩
      obtain ⟨ch, e1, e2⟩ := abc_at r0 r1
      rw [e1]
      refine ⟨h26, by omega, hk _ _ ⟨cs ++ [ch], c' + 1, by rw [List.map_append]; rfl, by simp; omega, fun x hx => ?_, by omega, _, rfl⟩⟩
      rcases List.mem_append.mp hx with hx | hx
      · exact ok x hx
      · rw [List.mem_singleton] at hx; subst hx; exact e2
    · rintro _ _ ⟨cs, c', rfl, h1, ok, h2, s4, rfl⟩
      rw [strsOf_mapf oneS cs]
      have h3 : (Str.ofString "").length = 0 := by decide +kernel
      have hj : PyData.strOk (Str.join "" (cs.map oneS)) = true := strOk_join (strOk_lit _) _ fun t ht => by
        obtain ⟨z, hz, rfl⟩ := List.mem_map.mp ht
        exact ok z hz
      have hsum := sum_le (fun x : Nat => (oneS x).length) 1 (l := cs) fun a ha => Nat.le_refl 1
      simp only [List.length_nil] at h1
      cases cs with
      | nil => simp only [List.length_nil] at h1; omega
      | cons ch cs =>
        have ej := join_chars (ch :: cs)
        rw [ej] at hj
        rw [List.length_cons] at h1 hsum
        refine ⟨?_, ?_⟩
        · rw [List.map_map, List.length_map, h3]
          show ((ch :: cs).map fun x => (oneS x).length).sum + _ ≤ _
          omega
        · have ej : Str.join (Str.ofString "") ((ch :: cs).map oneS) = ⟨(ch :: cs).toArray⟩ := ej
          rw [ej]
          exact mid ch cs c' s4 (by omega) hj (by omega)
theorem ok__law_input {P : Program} {w : World} {K : PySem.W.Frag} {mg : Str → Option Value} {base : Heap} (m_range : mg "range" = none) (K__law_draw_2 : Def P w K mg base 1 "_law_draw" 2 sp__law_draw []) (K__law_pick_2 : Def P w K mg base 2 "_law_pick" 2 sp__law_pick []) {f : Addr} {fd : FuncData} (F : Fun K "_law_input" "_law_input" s__law_input f fd) : FnG P w K mg base CX0 3 f fd ["_law_pen_here"] (spD K 1 sp__law_input) :=
 fn_d0 F sc__law_input rfl (fun cdv A out s H E g r => run__law_input m_range K__law_draw_2 K__law_pick_2 cdv A out s H E g r) hsp__law_input
end Ev83

namespace Ev83
open PySem PySem.Spec PyProof.Rows L2 Ev
local macro_rules
  | `(tactic| simp only [DSIMP, $as,*] $[$l:location]?) => `(tactic| simp only [dGcIn, dGbIx, dGdIn, dGdIx, dListRg, rDictPf, dZipL, dListKo, dEmptyT, dDispT1, dNeE, rListA, rDictPT, rIsTF, dGroup, rSrtA, rLenA, dInV, dIxV, dCount, dSortKo, dCallR, adD, gL, dDN, dLN, wNest, bNest, bEl, bEd, dZip, seqOf, dSortDK, dCallV, dCallLam, optQ, dEnum, D.nf, D.nfs, Ev.rSumD, dLock, dKeysI, gStarD, dReverse, dMove, dDGet2, getD2, D.isD, dDisp, dPairs, keysD, Ev.rMaxD, Ev.rMinD, rDictP, Option.getD_some, Option.getD_none, Ev.D.eq_refl, dPen1, dLenSet, dSrtR, dRo, dRoF, dRoT, roD, ro_un, ro_dat, ro_own, ro_hp, ro_law, ro_ownK, ro_ownT, List.forall_mem_map, flat_int, flat_str, flat_bl, flat_non, solid_int, solid_str, solid_bl, solid_non, solid_tup, solids_nil, solids_cons, dSeq, dNext, dSet, dSetF, setSl, dVar, dTake, dC, dBin, dBinF, dB, dIfS, dIf, dRet, dRetN, dExpr, dNil, dCons, dTup, dLst, dFz, dAnd, dOr, dNot, dAndV, dOrV, dNotV, dCallD, dCallK, dCB, dCBF, dFor, dLC, dYes, dRng1, dRng2, dSeqI, gN, gT, gsNil, gsCons, dAsg, dNeg, dJoin, dFs, dJs, dFmt, dApp, dExt, dPop, dPopAt, dOwnIx, dOwnCB, dOwnL, dOwnR, dOwnSl, dSetIx, dSlT, dSlL, oNone, oSome, dBorn, optQ, ownAt, setOwnAt, lookAt, wipeD, dNewDT, dNewDK, dDGet, dDIn, dDPut, dSortT, rSrt, isDict, Ev.dictGet, Ev.dictPut, Option.isSome_none, Option.isSome_some, D.keyT, keysOf, D.key, exists_eq_left', exists_eq_left, Option.isSome, rRepL, rCatL, dRetF, dIfF, dPar, dRetOwn, dCallL, dCallLK, dPen2, dRev, dRevI, dIndex, endsL, startL, dNever, dBrk, dCnt, rAddD, rSubI, rIO, rMulI, rDivI, rModI, rPowI, rCI, Ev.rIxD, rIsN, rNotN, D.isN, Ev.rLen, rTuple, rList, rAbs, rInt, rStr, Ev.rRepr, Ev.rIsi, D.ty, kit_tab, startD, endsD, List.map_cons, List.map_nil, List.length_cons, List.length_nil, List.append_nil, List.nil_append, List.cons_append, List.getElem?_cons_zero, List.getElem?_cons_succ, List.getElem?_nil, List.set_cons_zero, List.set_cons_succ, List.replicate, List.replicate_succ, Nat.zero_add, Nat.zero_le, sizeLine, true_and, and_true, if_true, Ev.eq_int, Ev.eq_str, Ev.eq_bl, Ev.eq_non, lst_nil, tup_nil, List.map_eq_nil_iff, txt_join, rLt, rLe, rGt, rGe, atI_ofNat, atI_last, wLC, strsOf, intsOf, blsOf, Option.map_some, Ev.join_two, Ev.join_one, Ev.join_nil, List.sum_cons, List.sum_nil, PySem.Str.empty_append, ixN_ofNat, Option.some.injEq, exists_eq', List.length_map, decide_true, decide_false, Bool.not_true, Bool.not_false, Bool.true_eq_false, Bool.false_eq_true, false_and, and_false, if_false, ite_true, ite_false, Nat.reduceAdd, Nat.reduceSub, Nat.reduceMul, Nat.reduceLT, Nat.reduceLeDiff, Nat.reduceEqDiff, Nat.reducePow, Int.reduceToNat, Int.reducePow, pickL, List.filterMap_cons, List.filterMap_nil, and_self, Int.reduceLT, Int.reduceLE, Int.reduceNeg, Int.reduceAdd, Int.reduceMul, Int.reduceSub, Int.reduceEq, reduceIte, reduceCtorEq, lit_eq, String.reduceEq, Ev.rEq, Ev.rNe, Ev.rInD, cut_toN, cut_fromN, List.map_take, List.forall_mem_cons, List.forall_mem_nil, List.not_mem_nil, false_imp_iff, implies_true, forall_const, D.cm, D.lay, D.lays, D.dep, D.deps, strOk_lit, lays_ints, deps_ints, Nat.max_self, Nat.max_zero, Nat.zero_max, Bool.and_self, Bool.true_and, Bool.and_true, Bool.and_false, Bool.false_and, Bool.or_false, Bool.or_true, Bool.true_or, Bool.false_or, List.any_cons, List.any_nil, decide_eq_true_eq, eq_self, $as,*] $[$l]?)
  | `(tactic| simp only [DSIMP] $[$l:location]?) => `(tactic| simp only [dGcIn, dGbIx, dGdIn, dGdIx, dListRg, rDictPf, dZipL, dListKo, dEmptyT, dDispT1, dNeE, rListA, rDictPT, rIsTF, dGroup, rSrtA, rLenA, dInV, dIxV, dCount, dSortKo, dCallR, adD, gL, dDN, dLN, wNest, bNest, bEl, bEd, dZip, seqOf, dSortDK, dCallV, dCallLam, optQ, dEnum, D.nf, D.nfs, Ev.rSumD, dLock, dKeysI, gStarD, dReverse, dMove, dDGet2, getD2, D.isD, dDisp, dPairs, keysD, Ev.rMaxD, Ev.rMinD, rDictP, Option.getD_some, Option.getD_none, Ev.D.eq_refl, dPen1, dLenSet, dSrtR, dRo, dRoF, dRoT, roD, ro_un, ro_dat, ro_own, ro_hp, ro_law, ro_ownK, ro_ownT, List.forall_mem_map, flat_int, flat_str, flat_bl, flat_non, solid_int, solid_str, solid_bl, solid_non, solid_tup, solids_nil, solids_cons, dSeq, dNext, dSet, dSetF, setSl, dVar, dTake, dC, dBin, dBinF, dB, dIfS, dIf, dRet, dRetN, dExpr, dNil, dCons, dTup, dLst, dFz, dAnd, dOr, dNot, dAndV, dOrV, dNotV, dCallD, dCallK, dCB, dCBF, dFor, dLC, dYes, dRng1, dRng2, dSeqI, gN, gT, gsNil, gsCons, dAsg, dNeg, dJoin, dFs, dJs, dFmt, dApp, dExt, dPop, dPopAt, dOwnIx, dOwnCB, dOwnL, dOwnR, dOwnSl, dSetIx, dSlT, dSlL, oNone, oSome, dBorn, optQ, ownAt, setOwnAt, lookAt, wipeD, dNewDT, dNewDK, dDGet, dDIn, dDPut, dSortT, rSrt, isDict, Ev.dictGet, Ev.dictPut, Option.isSome_none, Option.isSome_some, D.keyT, keysOf, D.key, exists_eq_left', exists_eq_left, Option.isSome, rRepL, rCatL, dRetF, dIfF, dPar, dRetOwn, dCallL, dCallLK, dPen2, dRev, dRevI, dIndex, endsL, startL, dNever, dBrk, dCnt, rAddD, rSubI, rIO, rMulI, rDivI, rModI, rPowI, rCI, Ev.rIxD, rIsN, rNotN, D.isN, Ev.rLen, rTuple, rList, rAbs, rInt, rStr, Ev.rRepr, Ev.rIsi, D.ty, kit_tab, startD, endsD, List.map_cons, List.map_nil, List.length_cons, List.length_nil, List.append_nil, List.nil_append, List.cons_append, List.getElem?_cons_zero, List.getElem?_cons_succ, List.getElem?_nil, List.set_cons_zero, List.set_cons_succ, List.replicate, List.replicate_succ, Nat.zero_add, Nat.zero_le, sizeLine, true_and, and_true, if_true, Ev.eq_int, Ev.eq_str, Ev.eq_bl, Ev.eq_non, lst_nil, tup_nil, List.map_eq_nil_iff, txt_join, rLt, rLe, rGt, rGe, atI_ofNat, atI_last, wLC, strsOf, intsOf, blsOf, Option.map_some, Ev.join_two, Ev.join_one, Ev.join_nil, List.sum_cons, List.sum_nil, PySem.Str.empty_append, ixN_ofNat, Option.some.injEq, exists_eq', List.length_map, decide_true, decide_false, Bool.not_true, Bool.not_false, Bool.true_eq_false, Bool.false_eq_true, false_and, and_false, if_false, ite_true, ite_false, Nat.reduceAdd, Nat.reduceSub, Nat.reduceMul, Nat.reduceLT, Nat.reduceLeDiff, Nat.reduceEqDiff, Nat.reducePow, Int.reduceToNat, Int.reducePow, pickL, List.filterMap_cons, List.filterMap_nil, and_self, Int.reduceLT, Int.reduceLE, Int.reduceNeg, Int.reduceAdd, Int.reduceMul, Int.reduceSub, Int.reduceEq, reduceIte, reduceCtorEq, lit_eq, String.reduceEq, Ev.rEq, Ev.rNe, Ev.rInD, cut_toN, cut_fromN, List.map_take, List.forall_mem_cons, List.forall_mem_nil, List.not_mem_nil, false_imp_iff, implies_true, forall_const, D.cm, D.lay, D.lays, D.dep, D.deps, strOk_lit, lays_ints, deps_ints, Nat.max_self, Nat.max_zero, Nat.zero_max, Bool.and_self, Bool.true_and, Bool.and_true, Bool.and_false, Bool.false_and, Bool.or_false, Bool.or_true, Bool.true_or, Bool.false_or, List.any_cons, List.any_nil, decide_eq_true_eq, eq_self] $[$l]?)
variable [TabC]
def AskOk (w : Str) (ps : List Pc) : Prop := PyData.strOk w = true ∧ w.length ≤ 10 ∧ ps.length ≤ 5 ∧ ∀ c ∈ ps, pcOk c
theorem okc {c : Pc} {ps : List Pc} (h : pcOk c) (t : ∀ c ∈ ps, pcOk c) : ∀ x ∈ c :: ps, pcOk x := List.forall_mem_cons.mpr ⟨h, t⟩
theorem okn : ∀ c ∈ ([] : List Pc), pcOk c := fun _ h => nomatch h
theorem okl {w : String} {ps : List Pc} (h1 : w.length ≤ 10) (h2 : ps.length ≤ 5) (h : ∀ c ∈ ps, pcOk c) : AskOk (Str.ofString w) ps := ⟨strOk_lit _, by rw [Ev.ofString_length]; exact h1, h2, h⟩
def sp__law_ask : dSp := fun ds p Q _ => match ds, p with
  | [.raw (.ref a)], some (b, c) => a = b ∧ c + 40 < 65536 ∧ ∀ w ps c', AskOk w ps → c' ≤ c + 40 → Q (.tup (.str w :: ps.map pcD)) (some (a, c'))
  | _, _ => False
abbrev s__law_ask : Stmt := topS 14
abbrev n__law_ask : List Str := ["_law_pen_here", "_law_way", "_law_room_so", "_law_size", "_law_time", "_law_some", "_law_let"]
theorem sc__law_ask : FnScope n__law_ask ["_law_pen_here"] (defScope s__law_ask) := ⟨rfl, rfl, rfl, by decide +kernel, rfl, by decide +kernel, by decide +kernel⟩
def p__law_ask_x2_0 : dS := (dSet 5 (dFz (dLst (dCons (dTup (dCons (dC (.str "move")) (dCons (dVar 2) (dCons (dCallD 1 [] sp__law_off (dCons (dVar 0) dNil)) (dCons (dCallD 1 [] sp__law_off (dCons (dVar 0) dNil)) dNil))))) (dCons (dBin rAddD (dTup (dCons (dC (.str "size")) (dCons (dVar 2) dNil))) (dCB rTuple (dCons (dVar 3) dNil))) dNil)))))
def p__law_ask_x2_1 : dS := (dRet (dBin rIxD (dFz (dBinF rCatL (dVar 5) (dFz (dLst (dCons (dTup (dCons (dC (.str "give")) (dCons (dVar 2) (dCons (dCallD 1 [] sp__law_room (dCons (dVar 0) dNil)) (dCons (dCallD 1 [] sp__law_off (dCons (dVar 0) dNil)) (dCons (dCallD 1 [] sp__law_off (dCons (dVar 0) dNil)) dNil)))))) dNil))))) (dBin rSubI (dVar 1) (dC (.int 6)))))
def b__law_ask_x2_1 : dS := p__law_ask_x2_1
def b__law_ask_x2_0 : dS := dSeq p__law_ask_x2_0 b__law_ask_x2_1
def p__law_ask_0 : dS := (dSet 1 (dCallD 2 [] sp__law_draw (dCons (dVar 0) (dCons (dC (.int 18)) dNil))))
def p__law_ask_1 : dS := (dSet 2 (dCallD 1 [] sp__law_room (dCons (dVar 0) dNil)))
def p__law_ask_2 : dS := (dSet 3 (dFz (dLst (dCons (dBin rAddD (dC (.int 1)) (dCallD 2 [] sp__law_draw (dCons (dVar 0) (dCons (dC (.int 40)) dNil)))) (dCons (dCallD 2 [] sp__law_pick (dCons (dVar 0) (dCons (dFz (dLst (dCons (dC (.int 1)) (dCons (dC (.int 40)) (dCons (dC (.int 9)) dNil))))) dNil))) dNil)))))
def p__law_ask_3 : dS := (dSet 4 (dCallD 2 [] sp__law_pick (dCons (dVar 0) (dCons (dFz (dLst (dCons (dC (.int 0)) (dCons (dC (.int 1)) (dCons (dCallD 2 [] sp__law_draw (dCons (dVar 0) (dCons (dC (.int 40)) dNil))) (dCons (dC (.int 999)) (dCons (dCallD 2 [] sp__law_draw (dCons (dVar 0) (dCons (dC (.int 1000)) dNil))) dNil))))))) dNil))))
def p__law_ask_4 : dS := (dIfS (dB (dBin (rEq) (dVar 1) (dC (.int 0)))) (dRet (dTup (dCons (dC (.str "make")) (dCons (dBin rAddD (dC (.int 1)) (dCallD 2 [] sp__law_draw (dCons (dVar 0) (dCons (dC (.int 9)) dNil)))) (dCons (dVar 2) (dCons (dBin rAddD (dTup (dCons (dCallD 1 [] sp__law_off (dCons (dVar 0) dNil)) (dCons (dCallD 1 [] sp__law_off (dCons (dVar 0) dNil)) dNil))) (dCB rTuple (dCons (dVar 3) dNil))) dNil)))))) dNext)
def p__law_ask_5 : dS := (dIfS (dB (dBin (rLt) (dVar 1) (dC (.int 6)))) (dRet (dTup (dCons (dBin rIxD (dFz (dLst (dCons (dC (.str "drop")) (dCons (dC (.str "show")) (dCons (dC (.str "hide")) (dCons (dC (.str "raise")) (dCons (dC (.str "lower")) dNil))))))) (dBin rSubI (dVar 1) (dC (.int 1)))) (dCons (dVar 2) dNil)))) dNext)
def p__law_ask_6 : dS := (dIfS (dB (dBin (rLt) (dVar 1) (dC (.int 9)))) b__law_ask_x2_0 dNext)
def p__law_ask_7 : dS := (dIfS (dB (dBin (rLt) (dVar 1) (dC (.int 11)))) (dRet (dTup (dCons (dBin rIxD (dFz (dLst (dCons (dC (.str "wish")) (dCons (dC (.str "end")) dNil)))) (dBin rSubI (dVar 1) (dC (.int 9)))) (dCons (dVar 2) (dCons (dCallD 1 [] sp__law_kinds (dCons (dVar 0) dNil)) dNil))))) dNext)
def p__law_ask_8 : dS := (dIfS (dB (dBin (rEq) (dVar 1) (dC (.int 11)))) (dRet (dTup (dCons (dC (.str "grab")) (dCons (dVar 2) (dCons (dCallD 1 [] sp__law_kinds (dCons (dVar 0) dNil)) (dCons (dVar 4) dNil)))))) dNext)
def p__law_ask_9 : dS := (dIfS (dB (dBin (rEq) (dVar 1) (dC (.int 12)))) (dRet (dTup (dCons (dC (.str "focus")) (dCons (dCallD 2 [] sp__law_pick (dCons (dVar 0) (dCons (dFz (dLst (dCons (dC .non) (dCons (dVar 2) dNil)))) dNil))) (dCons (dCallD 2 [] sp__law_pick (dCons (dVar 0) (dCons (dFz (dLst (dCons (dC (.str "elder")) (dCons (dC (.str "screen")) (dCons (dC (.str "none")) dNil))))) dNil))) (dCons (dVar 4) dNil)))))) dNext)
def p__law_ask_10 : dS := (dSet 6 (dTup (dCons (dC (.str "let")) (dCons (dCallD 2 [] sp__law_pick (dCons (dVar 0) (dCons (dFz (dLst (dCons (dC (.str "on")) (dCons (dC (.str "one")) (dCons (dC (.str "again")) dNil))))) dNil))) dNil))))
def p__law_ask_11 : dS := (dRet (dBin rIxD (dFz (dLst (dCons (dTup (dCons (dC (.str "ungrab")) (dCons (dVar 4) dNil))) (dCons (dTup (dCons (dC (.str "hold")) (dCons (dC (.bl true)) dNil))) (dCons (dVar 6) (dCons (dTup (dCons (dC (.str "save")) (dCons (dVar 2) dNil))) (dCons (dTup (dCons (dC (.str "bye")) dNil)) dNil))))))) (dBin rSubI (dVar 1) (dC (.int 13)))))
def b__law_ask_11 : dS := p__law_ask_11
def b__law_ask_10 : dS := dSeq p__law_ask_10 b__law_ask_11
def b__law_ask_9 : dS := dSeq p__law_ask_9 b__law_ask_10
def b__law_ask_8 : dS := dSeq p__law_ask_8 b__law_ask_9
def b__law_ask_7 : dS := dSeq p__law_ask_7 b__law_ask_8
def b__law_ask_6 : dS := dSeq p__law_ask_6 b__law_ask_7
def b__law_ask_5 : dS := dSeq p__law_ask_5 b__law_ask_6
def b__law_ask_4 : dS := dSeq p__law_ask_4 b__law_ask_5
def b__law_ask_3 : dS := dSeq p__law_ask_3 b__law_ask_4
def b__law_ask_2 : dS := dSeq p__law_ask_2 b__law_ask_3
def b__law_ask_1 : dS := dSeq p__law_ask_1 b__law_ask_2
def b__law_ask_0 : dS := dSeq p__law_ask_0 b__law_ask_1
def b__law_ask : dS := b__law_ask_0
theorem run__law_ask {P : Program} {w : World} {K : PySem.W.Frag} {mg : Str → Option Value} {base : Heap} (m_tuple : mg "tuple" = none) (K__law_draw_2 : Def P w K mg base 1 "_law_draw" 2 sp__law_draw []) (K__law_kinds_1 : Def P w K mg base 3 "_law_kinds" 1 sp__law_kinds []) (K__law_off_1 : Def P w K mg base 3 "_law_off" 1 sp__law_off []) (K__law_pick_2 : Def P w K mg base 2 "_law_pick" 2 sp__law_pick []) (K__law_room_1 : Def P w K mg base 3 "_law_room" 1 sp__law_room []) {f : Addr} (cdv : Value) (A : Around) (out : List Env) (s : Shared) (H : Hp) (E : XK) (g : A.guards = some []) (hrA : Room 3 (A.deeper (envOfC "_law_ask" (defScope s__law_ask) s.heap.objs.size f cdv))) :
  DSs (cx0 P w K mg base n__law_ask "_law_ask" (defScope s__law_ask) f cdv A out s H E) E00 (defBody s__law_ask) b__law_ask := by
 have hgA : (A.deeper (envOfC "_law_ask" (defScope s__law_ask) s.heap.objs.size f cdv)).guards = some [] := g
 have hun := hrA.un
 exact (dss_cons (t := p__law_ask_0) (u := b__law_ask_1) (ds_set (i := 1) sc__law_ask.nd rfl (by first | exact .inl rfl | exact .inr rfl) (de_callD K__law_draw_2 hgA hrA (by rfl) (da_cons (de_var (pv 0)) (da_cons de_int da_nil))))
  (dss_cons (t := p__law_ask_1) (u := b__law_ask_2) (ds_set (i := 2) sc__law_ask.nd rfl (by first | exact .inl rfl | exact .inr rfl) (de_callD K__law_room_1 hgA hrA (by rfl) (da_cons (de_var (pv 0)) da_nil)))
  (dss_cons (t := p__law_ask_2) (u := b__law_ask_3) (ds_set (i := 3) sc__law_ask.nd rfl (by first | exact .inl rfl | exact .inr rfl) (de_fz (df_lst (da_cons (de_op od_add de_int (de_callD K__law_draw_2 hgA hrA (by rfl) (da_cons (de_var (pv 0)) (da_cons de_int da_nil)))) (da_cons (de_callD K__law_pick_2 hgA hrA (by rfl) (da_cons (de_var (pv 0)) (da_cons (de_fz (df_lst (da_cons de_int (da_cons de_int (da_cons de_int da_nil))))) da_nil))) da_nil)))))
  (dss_cons (t := p__law_ask_3) (u := b__law_ask_4) (ds_set (i := 4) sc__law_ask.nd rfl (by first | exact .inl rfl | exact .inr rfl) (de_callD K__law_pick_2 hgA hrA (by rfl) (da_cons (de_var (pv 0)) (da_cons (de_fz (df_lst (da_cons de_int (da_cons de_int (da_cons (de_callD K__law_draw_2 hgA hrA (by rfl) (da_cons (de_var (pv 0)) (da_cons de_int da_nil))) (da_cons de_int (da_cons (de_callD K__law_draw_2 hgA hrA (by rfl) (da_cons (de_var (pv 0)) (da_cons de_int da_nil))) da_nil))))))) da_nil))))
  (dss_cons (t := p__law_ask_4) (u := b__law_ask_5) (ds_if (dt_cmp (od_eq (Nat.lt_of_le_of_lt (Nat.add_le_add_left (by decide) _) hun)) (de_var (pv 1)) de_int (nomark _)) (dss_one (ds_ret (de_tup (da_cons de_str (da_cons (de_op od_add de_int (de_callD K__law_draw_2 hgA hrA (by rfl) (da_cons (de_var (pv 0)) (da_cons de_int da_nil)))) (da_cons (de_var (pv 2)) (da_cons (de_op od_add (de_tup (da_cons (de_callD K__law_off_1 hgA hrA (by rfl) (da_cons (de_var (pv 0)) da_nil)) (da_cons (de_callD K__law_off_1 hgA hrA (by rfl) (da_cons (de_var (pv 0)) da_nil)) da_nil))) (de_callTy (cd_tuple) (by rfl) m_tuple (by decide +kernel) (da_cons (de_var (pv 3)) da_nil))) da_nil))))))) dss_nil)
  (dss_cons (t := p__law_ask_5) (u := b__law_ask_6) (ds_if (dt_cmp (od_lt) (de_var (pv 1)) de_int (nomark _)) (dss_one (ds_ret (de_tup (da_cons (de_ix (de_fz (df_lst (da_cons de_str (da_cons de_str (da_cons de_str (da_cons de_str (da_cons de_str da_nil))))))) (de_op od_sub (de_var (pv 1)) de_int) (fun _ _ => rfl)) (da_cons (de_var (pv 2)) da_nil))))) dss_nil)
  (dss_cons (t := p__law_ask_6) (u := b__law_ask_7) (ds_if (dt_cmp (od_lt) (de_var (pv 1)) de_int (nomark _)) (dss_cons (t := p__law_ask_x2_0) (u := b__law_ask_x2_1) (ds_set (i := 5) sc__law_ask.nd rfl (by first | exact .inl rfl | exact .inr rfl) (de_fz (df_lst (da_cons (de_tup (da_cons de_str (da_cons (de_var (pv 2)) (da_cons (de_callD K__law_off_1 hgA hrA (by rfl) (da_cons (de_var (pv 0)) da_nil)) (da_cons (de_callD K__law_off_1 hgA hrA (by rfl) (da_cons (de_var (pv 0)) da_nil)) da_nil))))) (da_cons (de_op od_add (de_tup (da_cons de_str (da_cons (de_var (pv 2)) da_nil))) (de_callTy (cd_tuple) (by rfl) m_tuple (by decide +kernel) (da_cons (de_var (pv 3)) da_nil))) da_nil)))))
  (dss_one (t := p__law_ask_x2_1) (ds_ret (de_ix (de_fz (df_op od_catL (de_var (pv 5)) (de_fz (df_lst (da_cons (de_tup (da_cons de_str (da_cons (de_var (pv 2)) (da_cons (de_callD K__law_room_1 hgA hrA (by rfl) (da_cons (de_var (pv 0)) da_nil)) (da_cons (de_callD K__law_off_1 hgA hrA (by rfl) (da_cons (de_var (pv 0)) da_nil)) (da_cons (de_callD K__law_off_1 hgA hrA (by rfl) (da_cons (de_var (pv 0)) da_nil)) da_nil)))))) da_nil))))) (de_op od_sub (de_var (pv 1)) de_int) (fun _ _ => rfl))))) dss_nil)
  (dss_cons (t := p__law_ask_7) (u := b__law_ask_8) (ds_if (dt_cmp (od_lt) (de_var (pv 1)) de_int (nomark _)) (dss_one (ds_ret (de_tup (da_cons (de_ix (de_fz (df_lst (da_cons de_str (da_cons de_str da_nil)))) (de_op od_sub (de_var (pv 1)) de_int) (fun _ _ => rfl)) (da_cons (de_var (pv 2)) (da_cons (de_callD K__law_kinds_1 hgA hrA (by rfl) (da_cons (de_var (pv 0)) da_nil)) da_nil)))))) dss_nil)
  (dss_cons (t := p__law_ask_8) (u := b__law_ask_9) (ds_if (dt_cmp (od_eq (Nat.lt_of_le_of_lt (Nat.add_le_add_left (by decide) _) hun)) (de_var (pv 1)) de_int (nomark _)) (dss_one (ds_ret (de_tup (da_cons de_str (da_cons (de_var (pv 2)) (da_cons (de_callD K__law_kinds_1 hgA hrA (by rfl) (da_cons (de_var (pv 0)) da_nil)) (da_cons (de_var (pv 4)) da_nil))))))) dss_nil)
  (dss_cons (t := p__law_ask_9) (u := b__law_ask_10) (ds_if (dt_cmp (od_eq (Nat.lt_of_le_of_lt (Nat.add_le_add_left (by decide) _) hun)) (de_var (pv 1)) de_int (nomark _)) (dss_one (ds_ret (de_tup (da_cons de_str (da_cons (de_callD K__law_pick_2 hgA hrA (by rfl) (da_cons (de_var (pv 0)) (da_cons (de_fz (df_lst (da_cons de_non (da_cons (de_var (pv 2)) da_nil)))) da_nil))) (da_cons (de_callD K__law_pick_2 hgA hrA (by rfl) (da_cons (de_var (pv 0)) (da_cons (de_fz (df_lst (da_cons de_str (da_cons de_str (da_cons de_str da_nil))))) da_nil))) (da_cons (de_var (pv 4)) da_nil))))))) dss_nil)
  (dss_cons (t := p__law_ask_10) (u := b__law_ask_11) (ds_set (i := 6) sc__law_ask.nd rfl (by first | exact .inl rfl | exact .inr rfl) (de_tup (da_cons de_str (da_cons (de_callD K__law_pick_2 hgA hrA (by rfl) (da_cons (de_var (pv 0)) (da_cons (de_fz (df_lst (da_cons de_str (da_cons de_str (da_cons de_str da_nil))))) da_nil))) da_nil))))
  (dss_one (t := p__law_ask_11) (ds_ret (de_ix (de_fz (df_lst (da_cons (de_tup (da_cons de_str (da_cons (de_var (pv 4)) da_nil))) (da_cons (de_tup (da_cons de_str (da_cons de_bl da_nil))) (da_cons (de_var (pv 6)) (da_cons (de_tup (da_cons de_str (da_cons (de_var (pv 2)) da_nil))) (da_cons (de_tup (da_cons de_str da_nil)) da_nil))))))) (de_op od_sub (de_var (pv 1)) de_int) (fun _ _ => rfl)))))))))))))))
def askS (a : Addr) (r rm s1 s2 tm : Int) : List Sl := [.dat (.raw (.ref a)), .dat (.int r), .dat (.int rm), .dat (.lst [.int s1, .int s2]), .dat (.int tm), .un, .un]
section
variable {Q : D → Pen → Prop} {a : Addr} {c c' : Nat} {r rm s1 s2 tm : Int}
theorem ask_10 (q : ∀ w ps c', AskOk w ps → c' ≤ c + 40 → Q (.tup (.str w :: ps.map pcD)) (some (a, c'))) (hc : c + 40 < 65536) (hc' : c' ≤ c + 10) (r0 : 13 ≤ r) (r1 : r < 18) (hr : lit rm) (ht : lit tm) :
    b__law_ask_10 W0 (endsD Q) ⟨askS a r rm s1 s2 tm, some (a, c')⟩ := by
  have fin : ∀ (t : String), t.length ≤ 10 → b__law_ask_11 W0 (endsD Q) ⟨[.dat (.raw (.ref a)), .dat (.int r), .dat (.int rm), .dat (.lst [.int s1, .int s2]), .dat (.int tm), .un, .dat (.tup [.str (Str.ofString "let"), .str (Str.ofString t)])], some (a, c' + 1)⟩ := fun t ht' => by
    have cs : r = 13 ∨ r = 14 ∨ r = 15 ∨ r = 16 ∨ r = 17 := by omega
    rcases cs with rfl | rfl | rfl | rfl | rfl <;> simp only [DSIMP, b__law_ask_11, p__law_ask_11]
    · exact q "ungrab" [.it (.int tm)] _ (okl (by decide) (by simp) (okc ht okn)) (by omega)
    · exact q "hold" [.bl true] _ (okl (by decide) (by simp) (okc trivial okn)) (by omega)
    · exact q "let" [.it (.str t)] _ (okl (by decide) (by simp) (okc ⟨strOk_lit _, by rw [Ev.ofString_length]; exact ht'⟩ okn)) (by omega)
    · exact q "save" [.it (.int rm)] _ (okl (by decide) (by simp) (okc hr okn)) (by omega)
    · exact q "bye" [] _ (okl (by decide) (by simp) okn) (by omega)
  unfold askS
  simp only [DSIMP, b__law_ask_10, p__law_ask_10, sp__law_pick]
  exact ⟨by omega, fin _ (by decide), fin _ (by decide), fin _ (by decide)⟩
theorem ask_9 (q : ∀ w ps c', AskOk w ps → c' ≤ c + 40 → Q (.tup (.str w :: ps.map pcD)) (some (a, c'))) (hc : c + 40 < 65536) (hc' : c' ≤ c + 10) (r0 : 12 ≤ r) (r1 : r < 18) (hr : lit rm) (ht : lit tm) : b__law_ask_9 W0 (endsD Q) ⟨askS a r rm s1 s2 tm, some (a, c')⟩ := by
  have nx := fun h => ask_10 (s1 := s1) (s2 := s2) q hc hc' (r := r) h r1 hr ht
  by_cases e : r = 12
  · unfold askS
    have fin : ∀ (c1 : Pc) (t : String), pcOk c1 → t.length ≤ 10 → Q (.tup [.str (Str.ofString "focus"), pcD c1, .str (Str.ofString t), .int tm]) (some (a, c' + 1 + 1)) := fun c1 t h1 h2 =>
      q "focus" [c1, .it (.str t), .it (.int tm)] _ (okl (by decide) (by simp) (okc h1 (okc ⟨strOk_lit _, by rw [Ev.ofString_length]; exact h2⟩ (okc ht okn)))) (by omega)
    simp only [DSIMP, b__law_ask_9, p__law_ask_9, e, sp__law_pick]
    exact ⟨by omega, ⟨by omega, fin .non _ trivial (by decide), fin .non _ trivial (by decide), fin .non _ trivial (by decide)⟩, ⟨by omega, fin (.it (.int rm)) _ hr (by decide), fin (.it (.int rm)) _ hr (by decide), fin (.it (.int rm)) _ hr (by decide)⟩⟩
  · have nx := nx (by omega)
    unfold askS at nx ⊢
    simp only [DSIMP, b__law_ask_9, p__law_ask_9, e]
    exact nx
theorem ask_8 (q : ∀ w ps c', AskOk w ps → c' ≤ c + 40 → Q (.tup (.str w :: ps.map pcD)) (some (a, c'))) (hc : c + 40 < 65536) (hc' : c' ≤ c + 10) (r0 : 11 ≤ r) (r1 : r < 18) (hr : lit rm) (ht : lit tm) : b__law_ask_8 W0 (endsD Q) ⟨askS a r rm s1 s2 tm, some (a, c')⟩ := by
  have nx := fun h => ask_9 (s1 := s1) (s2 := s2) q hc hc' (r := r) h r1 hr ht
  by_cases e : r = 11
  · unfold askS
    simp only [DSIMP, b__law_ask_8, p__law_ask_8, e, sp__law_kinds]
    exact ⟨by omega, fun xs c'' h1 h2 h3 => q "grab" [.it (.int rm), .tup xs, .it (.int tm)] _ (okl (by decide) (by simp) (okc hr (okc ⟨h1, h2⟩ (okc ht okn)))) (by omega)⟩
  · have nx := nx (by omega)
    unfold askS at nx ⊢
    simp only [DSIMP, b__law_ask_8, p__law_ask_8, e]
    exact nx
theorem ask_7 (q : ∀ w ps c', AskOk w ps → c' ≤ c + 40 → Q (.tup (.str w :: ps.map pcD)) (some (a, c'))) (hc : c + 40 < 65536) (hc' : c' ≤ c + 10) (r0 : 9 ≤ r) (r1 : r < 18) (hr : lit rm) (ht : lit tm) : b__law_ask_7 W0 (endsD Q) ⟨askS a r rm s1 s2 tm, some (a, c')⟩ := by
  have nx := fun h => ask_8 (s1 := s1) (s2 := s2) q hc hc' (r := r) h r1 hr ht
  by_cases e : r < 11
  · have cs : r = 9 ∨ r = 10 := by omega
    unfold askS
    rcases cs with rfl | rfl
    · simp only [DSIMP, b__law_ask_7, p__law_ask_7, sp__law_kinds]
      exact ⟨by omega, fun xs c'' h1 h2 h3 => q "wish" [.it (.int rm), .tup xs] _ (okl (by decide) (by simp) (okc hr (okc ⟨h1, h2⟩ okn))) (by omega)⟩
    · simp only [DSIMP, b__law_ask_7, p__law_ask_7, sp__law_kinds]
      exact ⟨by omega, fun xs c'' h1 h2 h3 => q "end" [.it (.int rm), .tup xs] _ (okl (by decide) (by simp) (okc hr (okc ⟨h1, h2⟩ okn))) (by omega)⟩
  · have nx := nx (by omega)
    unfold askS at nx ⊢
    simp only [DSIMP, b__law_ask_7, p__law_ask_7, e]
    exact nx
theorem ask_6 (q : ∀ w ps c', AskOk w ps → c' ≤ c + 40 → Q (.tup (.str w :: ps.map pcD)) (some (a, c'))) (hc : c + 40 < 65536) (hc' : c' ≤ c + 10) (r0 : 6 ≤ r) (r1 : r < 18) (hr : lit rm) (h1 : lit s1) (h2 : lit s2) (ht : lit tm) : b__law_ask_6 W0 (endsD Q) ⟨askS a r rm s1 s2 tm, some (a, c')⟩ := by
  have nx := fun h => ask_7 (s1 := s1) (s2 := s2) q hc hc' (r := r) h r1 hr ht
  by_cases e : r < 9
  · have cs : r = 6 ∨ r = 7 ∨ r = 8 := by omega
    unfold askS
    rcases cs with rfl | rfl | rfl
    · simp only [DSIMP, b__law_ask_6, p__law_ask_6, b__law_ask_x2_0, p__law_ask_x2_0, b__law_ask_x2_1, p__law_ask_x2_1, sp__law_off, sp__law_room]
      exact ⟨by omega, fun x hx => ⟨by omega, fun y hy => ⟨by omega, fun z hz => ⟨by omega, fun u hu => ⟨by omega, fun v hv => q "move" [.it (.int rm), .it (.int x), .it (.int y)] _ (okl (by decide) (by simp) (okc hr (okc hx (okc hy okn)))) (by omega)⟩⟩⟩⟩⟩
    · simp only [DSIMP, b__law_ask_6, p__law_ask_6, b__law_ask_x2_0, p__law_ask_x2_0, b__law_ask_x2_1, p__law_ask_x2_1, sp__law_off, sp__law_room]
      exact ⟨by omega, fun x hx => ⟨by omega, fun y hy => ⟨by omega, fun z hz => ⟨by omega, fun u hu => ⟨by omega, fun v hv => q "size" [.it (.int rm), .it (.int s1), .it (.int s2)] _ (okl (by decide) (by simp) (okc hr (okc h1 (okc h2 okn)))) (by omega)⟩⟩⟩⟩⟩
    · simp only [DSIMP, b__law_ask_6, p__law_ask_6, b__law_ask_x2_0, p__law_ask_x2_0, b__law_ask_x2_1, p__law_ask_x2_1, sp__law_off, sp__law_room]
      exact ⟨by omega, fun x hx => ⟨by omega, fun y hy => ⟨by omega, fun z hz => ⟨by omega, fun u hu => ⟨by omega, fun v hv => q "give" [.it (.int rm), .it (.int z), .it (.int u), .it (.int v)] _ (okl (by decide) (by simp) (okc hr (okc hz (okc hu (okc hv okn))))) (by omega)⟩⟩⟩⟩⟩
  · have nx := nx (by omega)
    unfold askS at nx ⊢
    simp only [DSIMP, b__law_ask_6, p__law_ask_6, e]
    exact nx
theorem ask_5 (q : ∀ w ps c', AskOk w ps → c' ≤ c + 40 → Q (.tup (.str w :: ps.map pcD)) (some (a, c'))) (hc : c + 40 < 65536) (hc' : c' ≤ c + 10) (r0 : 1 ≤ r) (r1 : r < 18) (hr : lit rm) (h1 : lit s1) (h2 : lit s2) (ht : lit tm) : b__law_ask_5 W0 (endsD Q) ⟨askS a r rm s1 s2 tm, some (a, c')⟩ := by
  have nx := fun h => ask_6 (s1 := s1) (s2 := s2) q hc hc' (r := r) h r1 hr h1 h2 ht
  have two : ∀ (w : String), w.length ≤ 10 → Q (.tup [.str (Str.ofString w), .int rm]) (some (a, c')) := fun w hw => q (Str.ofString w) [.it (.int rm)] c' (okl hw (by simp) (okc hr okn)) (by omega)
  by_cases e : r < 6
  · have cs : r = 1 ∨ r = 2 ∨ r = 3 ∨ r = 4 ∨ r = 5 := by omega
    unfold askS
    rcases cs with rfl | rfl | rfl | rfl | rfl <;> simp only [DSIMP, b__law_ask_5, p__law_ask_5] <;> exact two _ (by decide)
  · have nx := nx (by omega)
    unfold askS at nx ⊢
    simp only [DSIMP, b__law_ask_5, p__law_ask_5, e]
    exact nx
theorem ask_4 (q : ∀ w ps c', AskOk w ps → c' ≤ c + 40 → Q (.tup (.str w :: ps.map pcD)) (some (a, c'))) (hc : c + 40 < 65536) (hc' : c' ≤ c + 10) (r0 : 0 ≤ r) (r1 : r < 18) (hr : lit rm) (h1 : lit s1) (h2 : lit s2) (ht : lit tm) : b__law_ask_4 W0 (endsD Q) ⟨askS a r rm s1 s2 tm, some (a, c')⟩ := by
  have nx := fun h => ask_5 (s1 := s1) (s2 := s2) q hc hc' (r := r) h r1 hr h1 h2 ht
  by_cases e : r = 0
  · unfold askS
    simp only [DSIMP, b__law_ask_4, p__law_ask_4, e, sp__law_draw, spDraw, sp__law_off]
    have its : ∀ x y : Int, lit x → lit y → pcOk (.tup [.int x, .int y, .int s1, .int s2]) := fun x y hx hy => by
      refine ⟨by simp, ?_⟩
      simp only [List.forall_mem_cons]
      exact ⟨hx, hy, h1, h2, fun _ h => nomatch h⟩
    exact ⟨by omega, fun n n0 n1 => ⟨by omega, fun x hx => ⟨by omega, fun y hy => q "make" [.it (.int (1 + n)), .it (.int rm), .tup [.int x, .int y, .int s1, .int s2]] _ (okl (by decide) (by simp) (okc (show (1 + n).natAbs < 100000 by omega) (okc hr (okc (its x y hx hy) okn)))) (by omega)⟩⟩⟩
  · have nx := nx (by omega)
    unfold askS at nx ⊢
    simp only [DSIMP, b__law_ask_4, p__law_ask_4, e]
    exact nx
end
theorem hsp__law_ask : ∀ ds p Q W, ds.length = 1 → sp__law_ask ds p Q W → b__law_ask W0 (endsD Q) (startD n__law_ask.length ds p) := by
  intro ds p Q W _ h
  match ds, p, h with
  | [.raw (.ref a)], some (b, c), ⟨e, hc, q⟩ =>
    subst e
    simp only [DSIMP, n__law_ask, b__law_ask, b__law_ask_0, p__law_ask_0, b__law_ask_1, p__law_ask_1, b__law_ask_2, p__law_ask_2, b__law_ask_3, p__law_ask_3, sp__law_draw, spDraw, sp__law_pick, sp__law_room]
    refine ⟨by omega, fun r r0 r1 => ⟨by omega, fun rm hr => ⟨by omega, fun s s0 s1 => ?_⟩⟩⟩
    have F : ∀ s2 : Int, s2.natAbs < 100 → (c + 1 + 4 + 1 + 1 < 65536 ∧ ∀ x : Int, 0 ≤ x → x < 40 → c + 1 + 4 + 1 + 1 + 1 < 65536 ∧ ∀ y : Int, 0 ≤ y → y < 1000 → c + 1 + 4 + 1 + 1 + 1 + 1 < 65536 ∧ b__law_ask_4 W0 (endsD Q) ⟨askS a r rm (1 + s) s2 0, some (a, c + 1 + 4 + 1 + 1 + 1 + 1 + 1)⟩ ∧ b__law_ask_4 W0 (endsD Q) ⟨askS a r rm (1 + s) s2 1, some (a, c + 1 + 4 + 1 + 1 + 1 + 1 + 1)⟩ ∧ b__law_ask_4 W0 (endsD Q) ⟨askS a r rm (1 + s) s2 x, some (a, c + 1 + 4 + 1 + 1 + 1 + 1 + 1)⟩ ∧ b__law_ask_4 W0 (endsD Q) ⟨askS a r rm (1 + s) s2 999, some (a, c + 1 + 4 + 1 + 1 + 1 + 1 + 1)⟩ ∧ b__law_ask_4 W0 (endsD Q) ⟨askS a r rm (1 + s) s2 y, some (a, c + 1 + 4 + 1 + 1 + 1 + 1 + 1)⟩) := fun s2 hs2 => by
      have h1 : lit (1 + s) := by unfold lit; omega
      have h2 : lit s2 := by unfold lit; omega
      have all : ∀ tm : Int, tm.natAbs < 100000 → b__law_ask_4 W0 (endsD Q) ⟨askS a r rm (1 + s) s2 tm, some (a, c + 1 + 4 + 1 + 1 + 1 + 1 + 1)⟩ := fun tm ht => ask_4 (c := c) q hc (by omega) r0 r1 hr h1 h2 ht
      exact ⟨by omega, fun x x0 x1 => ⟨by omega, fun y y0 y1 => ⟨by omega, all _ (by omega), all _ (by omega), all _ (by omega), all _ (by omega), all _ (by omega)⟩⟩⟩
    exact ⟨by omega, F 1 (by decide), F 40 (by decide), F 9 (by decide)⟩
theorem ok__law_ask {P : Program} {w : World} {K : PySem.W.Frag} {mg : Str → Option Value} {base : Heap} (m_tuple : mg "tuple" = none) (K__law_draw_2 : Def P w K mg base 1 "_law_draw" 2 sp__law_draw []) (K__law_kinds_1 : Def P w K mg base 3 "_law_kinds" 1 sp__law_kinds []) (K__law_off_1 : Def P w K mg base 3 "_law_off" 1 sp__law_off []) (K__law_pick_2 : Def P w K mg base 2 "_law_pick" 2 sp__law_pick []) (K__law_room_1 : Def P w K mg base 3 "_law_room" 1 sp__law_room []) {f : Addr} {fd : FuncData} (F : Fun K "_law_ask" "_law_ask" s__law_ask f fd) : FnG P w K mg base CX0 4 f fd ["_law_pen_here"] (spD K 1 sp__law_ask) :=
 fn_d0 F sc__law_ask rfl (fun cdv A out s H E g r => run__law_ask m_tuple K__law_draw_2 K__law_kinds_1 K__law_off_1 K__law_pick_2 K__law_room_1 cdv A out s H E g r) hsp__law_ask
end Ev83

namespace Ev83
open PySem PySem.Spec PyProof.Rows L2 Ev
local macro_rules
  | `(tactic| simp only [DSIMP, $as,*] $[$l:location]?) => `(tactic| simp only [dGcIn, dGbIx, dGdIn, dGdIx, dListRg, rDictPf, dZipL, dListKo, dEmptyT, dDispT1, dNeE, rListA, rDictPT, rIsTF, dGroup, rSrtA, rLenA, dInV, dIxV, dCount, dSortKo, dCallR, adD, gL, dDN, dLN, wNest, bNest, bEl, bEd, dZip, seqOf, dSortDK, dCallV, dCallLam, optQ, dEnum, D.nf, D.nfs, Ev.rSumD, dLock, dKeysI, gStarD, dReverse, dMove, dDGet2, getD2, D.isD, dDisp, dPairs, keysD, Ev.rMaxD, Ev.rMinD, rDictP, Option.getD_some, Option.getD_none, Ev.D.eq_refl, dPen1, dLenSet, dSrtR, dRo, dRoF, dRoT, roD, ro_un, ro_dat, ro_own, ro_hp, ro_law, ro_ownK, ro_ownT, List.forall_mem_map, flat_int, flat_str, flat_bl, flat_non, solid_int, solid_str, solid_bl, solid_non, solid_tup, solids_nil, solids_cons, dSeq, dNext, dSet, dSetF, setSl, dVar, dTake, dC, dBin, dBinF, dB, dIfS, dIf, dRet, dRetN, dExpr, dNil, dCons, dTup, dLst, dFz, dAnd, dOr, dNot, dAndV, dOrV, dNotV, dCallD, dCallK, dCB, dCBF, dFor, dLC, dYes, dRng1, dRng2, dSeqI, gN, gT, gsNil, gsCons, dAsg, dNeg, dJoin, dFs, dJs, dFmt, dApp, dExt, dPop, dPopAt, dOwnIx, dOwnCB, dOwnL, dOwnR, dOwnSl, dSetIx, dSlT, dSlL, oNone, oSome, dBorn, optQ, ownAt, setOwnAt, lookAt, wipeD, dNewDT, dNewDK, dDGet, dDIn, dDPut, dSortT, rSrt, isDict, Ev.dictGet, Ev.dictPut, Option.isSome_none, Option.isSome_some, D.keyT, keysOf, D.key, exists_eq_left', exists_eq_left, Option.isSome, rRepL, rCatL, dRetF, dIfF, dPar, dRetOwn, dCallL, dCallLK, dPen2, dRev, dRevI, dIndex, endsL, startL, dNever, dBrk, dCnt, rAddD, rSubI, rIO, rMulI, rDivI, rModI, rPowI, rCI, Ev.rIxD, rIsN, rNotN, D.isN, Ev.rLen, rTuple, rList, rAbs, rInt, rStr, Ev.rRepr, Ev.rIsi, D.ty, kit_tab, startD, endsD, List.map_cons, List.map_nil, List.length_cons, List.length_nil, List.append_nil, List.nil_append, List.cons_append, List.getElem?_cons_zero, List.getElem?_cons_succ, List.getElem?_nil, List.set_cons_zero, List.set_cons_succ, List.replicate, List.replicate_succ, Nat.zero_add, Nat.zero_le, sizeLine, true_and, and_true, if_true, Ev.eq_int, Ev.eq_str, Ev.eq_bl, Ev.eq_non, lst_nil, tup_nil, List.map_eq_nil_iff, txt_join, rLt, rLe, rGt, rGe, atI_ofNat, atI_last, wLC, strsOf, intsOf, blsOf, Option.map_some, Ev.join_two, Ev.join_one, Ev.join_nil, List.sum_cons, List.sum_nil, PySem.Str.empty_append, ixN_ofNat, Option.some.injEq, exists_eq', List.length_map, decide_true, decide_false, Bool.not_true, Bool.not_false, Bool.true_eq_false, Bool.false_eq_true, false_and, and_false, if_false, ite_true, ite_false, Nat.reduceAdd, Nat.reduceSub, Nat.reduceMul, Nat.reduceLT, Nat.reduceLeDiff, Nat.reduceEqDiff, Nat.reducePow, Int.reduceToNat, Int.reducePow, pickL, List.filterMap_cons, List.filterMap_nil, and_self, Int.reduceLT, Int.reduceLE, Int.reduceNeg, Int.reduceAdd, Int.reduceMul, Int.reduceSub, Int.reduceEq, reduceIte, reduceCtorEq, lit_eq, String.reduceEq, Ev.rEq, Ev.rNe, Ev.rInD, cut_toN, cut_fromN, List.map_take, List.forall_mem_cons, List.forall_mem_nil, List.not_mem_nil, false_imp_iff, implies_true, forall_const, D.cm, D.lay, D.lays, D.dep, D.deps, strOk_lit, lays_ints, deps_ints, Nat.max_self, Nat.max_zero, Nat.zero_max, Bool.and_self, Bool.true_and, Bool.and_true, Bool.and_false, Bool.false_and, Bool.or_false, Bool.or_true, Bool.true_or, Bool.false_or, List.any_cons, List.any_nil, decide_eq_true_eq, eq_self, $as,*] $[$l]?)
  | `(tactic| simp only [DSIMP] $[$l:location]?) => `(tactic| simp only [dGcIn, dGbIx, dGdIn, dGdIx, dListRg, rDictPf, dZipL, dListKo, dEmptyT, dDispT1, dNeE, rListA, rDictPT, rIsTF, dGroup, rSrtA, rLenA, dInV, dIxV, dCount, dSortKo, dCallR, adD, gL, dDN, dLN, wNest, bNest, bEl, bEd, dZip, seqOf, dSortDK, dCallV, dCallLam, optQ, dEnum, D.nf, D.nfs, Ev.rSumD, dLock, dKeysI, gStarD, dReverse, dMove, dDGet2, getD2, D.isD, dDisp, dPairs, keysD, Ev.rMaxD, Ev.rMinD, rDictP, Option.getD_some, Option.getD_none, Ev.D.eq_refl, dPen1, dLenSet, dSrtR, dRo, dRoF, dRoT, roD, ro_un, ro_dat, ro_own, ro_hp, ro_law, ro_ownK, ro_ownT, List.forall_mem_map, flat_int, flat_str, flat_bl, flat_non, solid_int, solid_str, solid_bl, solid_non, solid_tup, solids_nil, solids_cons, dSeq, dNext, dSet, dSetF, setSl, dVar, dTake, dC, dBin, dBinF, dB, dIfS, dIf, dRet, dRetN, dExpr, dNil, dCons, dTup, dLst, dFz, dAnd, dOr, dNot, dAndV, dOrV, dNotV, dCallD, dCallK, dCB, dCBF, dFor, dLC, dYes, dRng1, dRng2, dSeqI, gN, gT, gsNil, gsCons, dAsg, dNeg, dJoin, dFs, dJs, dFmt, dApp, dExt, dPop, dPopAt, dOwnIx, dOwnCB, dOwnL, dOwnR, dOwnSl, dSetIx, dSlT, dSlL, oNone, oSome, dBorn, optQ, ownAt, setOwnAt, lookAt, wipeD, dNewDT, dNewDK, dDGet, dDIn, dDPut, dSortT, rSrt, isDict, Ev.dictGet, Ev.dictPut, Option.isSome_none, Option.isSome_some, D.keyT, keysOf, D.key, exists_eq_left', exists_eq_left, Option.isSome, rRepL, rCatL, dRetF, dIfF, dPar, dRetOwn, dCallL, dCallLK, dPen2, dRev, dRevI, dIndex, endsL, startL, dNever, dBrk, dCnt, rAddD, rSubI, rIO, rMulI, rDivI, rModI, rPowI, rCI, Ev.rIxD, rIsN, rNotN, D.isN, Ev.rLen, rTuple, rList, rAbs, rInt, rStr, Ev.rRepr, Ev.rIsi, D.ty, kit_tab, startD, endsD, List.map_cons, List.map_nil, List.length_cons, List.length_nil, List.append_nil, List.nil_append, List.cons_append, List.getElem?_cons_zero, List.getElem?_cons_succ, List.getElem?_nil, List.set_cons_zero, List.set_cons_succ, List.replicate, List.replicate_succ, Nat.zero_add, Nat.zero_le, sizeLine, true_and, and_true, if_true, Ev.eq_int, Ev.eq_str, Ev.eq_bl, Ev.eq_non, lst_nil, tup_nil, List.map_eq_nil_iff, txt_join, rLt, rLe, rGt, rGe, atI_ofNat, atI_last, wLC, strsOf, intsOf, blsOf, Option.map_some, Ev.join_two, Ev.join_one, Ev.join_nil, List.sum_cons, List.sum_nil, PySem.Str.empty_append, ixN_ofNat, Option.some.injEq, exists_eq', List.length_map, decide_true, decide_false, Bool.not_true, Bool.not_false, Bool.true_eq_false, Bool.false_eq_true, false_and, and_false, if_false, ite_true, ite_false, Nat.reduceAdd, Nat.reduceSub, Nat.reduceMul, Nat.reduceLT, Nat.reduceLeDiff, Nat.reduceEqDiff, Nat.reducePow, Int.reduceToNat, Int.reducePow, pickL, List.filterMap_cons, List.filterMap_nil, and_self, Int.reduceLT, Int.reduceLE, Int.reduceNeg, Int.reduceAdd, Int.reduceMul, Int.reduceSub, Int.reduceEq, reduceIte, reduceCtorEq, lit_eq, String.reduceEq, Ev.rEq, Ev.rNe, Ev.rInD, cut_toN, cut_fromN, List.map_take, List.forall_mem_cons, List.forall_mem_nil, List.not_mem_nil, false_imp_iff, implies_true, forall_const, D.cm, D.lay, D.lays, D.dep, D.deps, strOk_lit, lays_ints, deps_ints, Nat.max_self, Nat.max_zero, Nat.zero_max, Bool.and_self, Bool.true_and, Bool.and_true, Bool.and_false, Bool.false_and, Bool.or_false, Bool.or_true, Bool.true_or, Bool.false_or, List.any_cons, List.any_nil, decide_eq_true_eq, eq_self] $[$l]?)
variable [TabC]
def sp__law_log : dSp := fun ds p Q _ => match ds, p with
  | [.raw (.ref a), .int m], some (b, c) => a = b ∧ 0 < m ∧ m ≤ 40 ∧ c + 2600 < 65536 ∧ ∀ (es : List Rw) c', es.length ≤ 40 → (∀ e ∈ es, rwOk e) → c' ≤ c + 2600 → Q (.tup (es.map rwD)) (some (a, c'))
  | _, _ => False
abbrev s__law_log : Stmt := topS 16
abbrev n__law_log : List Str := ["_law_pen_here", "_law_most", "_law_found", "_law_k"]
theorem sc__law_log : FnScope n__law_log ["_law_pen_here", "_law_most"] (defScope s__law_log) := ⟨rfl, rfl, rfl, by decide +kernel, rfl, by decide +kernel, by decide +kernel⟩
def b__law_log_f1 : dS := (dApp 2 (dCallD 2 [] sp__law_pick (dCons (dVar 0) (dCons (dFz (dLst (dCons (dTup (dCons (dBin rAddD (dC (.int 1)) (dCallD 2 [] sp__law_draw (dCons (dVar 0) (dCons (dC (.int 4)) dNil)))) (dCons (dCallD 1 [] sp__law_ask (dCons (dVar 0) dNil)) dNil))) (dCons (dCallD 1 [] sp__law_input (dCons (dVar 0) dNil)) dNil)))) dNil))))
def p__law_log_0 : dS := (dSetF 2 (dLst dNil))
def p__law_log_1 : dS := (dFor (dRng1 (dCons (dCallD 2 [] sp__law_pick (dCons (dVar 0) (dCons (dFz (dLst (dCons (dCallD 2 [] sp__law_draw (dCons (dVar 0) (dCons (dBin rAddD (dVar 1) (dC (.int 1))) dNil))) (dCons (dCallD 2 [] sp__law_draw (dCons (dVar 0) (dCons (dC (.int 5)) dNil))) (dCons (dVar 1) dNil))))) dNil))) dNil)) (gN 3) b__law_log_f1)
def p__law_log_2 : dS := (dRet (dCB rTuple (dCons (dTake 2) dNil)))
def b__law_log_2 : dS := p__law_log_2
def b__law_log_1 : dS := dSeq p__law_log_1 b__law_log_2
def b__law_log_0 : dS := dSeq p__law_log_0 b__law_log_1
def b__law_log : dS := b__law_log_0
theorem run__law_log {P : Program} {w : World} {K : PySem.W.Frag} {mg : Str → Option Value} {base : Heap} (m_range : mg "range" = none) (m_tuple : mg "tuple" = none) (K__law_ask_1 : Def P w K mg base 4 "_law_ask" 1 sp__law_ask []) (K__law_draw_2 : Def P w K mg base 1 "_law_draw" 2 sp__law_draw []) (K__law_input_1 : Def P w K mg base 3 "_law_input" 1 sp__law_input []) (K__law_pick_2 : Def P w K mg base 2 "_law_pick" 2 sp__law_pick []) {f : Addr} (cdv : Value) (A : Around) (out : List Env) (s : Shared) (H : Hp) (E : XK) (g : A.guards = some []) (hrA : Room 4 (A.deeper (envOfC "_law_log" (defScope s__law_log) s.heap.objs.size f cdv))) :
  DSs (cx0 P w K mg base n__law_log "_law_log" (defScope s__law_log) f cdv A out s H E) E00 (defBody s__law_log) b__law_log := by
 have hgA : (A.deeper (envOfC "_law_log" (defScope s__law_log) s.heap.objs.size f cdv)).guards = some [] := g
 have hun := hrA.un
 exact (dss_cons (t := p__law_log_0) (u := b__law_log_1) (ds_setF (i := 2) sc__law_log.nd rfl (by first | exact .inl rfl | exact .inr rfl) (df_lst da_nil))
  (dss_cons (t := p__law_log_1) (u := b__law_log_2) (ds_for PassesOwn.never rfl (di_range1 (by rfl) m_range (da_cons (de_callD K__law_pick_2 hgA hrA (by rfl) (da_cons (de_var (pv 0)) (da_cons (de_fz (df_lst (da_cons (de_callD K__law_draw_2 hgA hrA (by rfl) (da_cons (de_var (pv 0)) (da_cons (de_op od_add (de_var (pv 1)) de_int) da_nil))) (da_cons (de_callD K__law_draw_2 hgA hrA (by rfl) (da_cons (de_var (pv 0)) (da_cons de_int da_nil))) (da_cons (de_var (pv 1)) da_nil))))) da_nil))) da_nil)) (dg_name (pg_name (i := 3) sc__law_log.nd rfl (by first | exact .inl rfl | exact .inr rfl))) (dss_one (ds_app (pv 2) (de_callD K__law_pick_2 hgA hrA (by rfl) (da_cons (de_var (pv 0)) (da_cons (de_fz (df_lst (da_cons (de_tup (da_cons (de_op od_add de_int (de_callD K__law_draw_2 hgA hrA (by rfl) (da_cons (de_var (pv 0)) (da_cons de_int da_nil)))) (da_cons (de_callD K__law_ask_1 hgA hrA (by rfl) (da_cons (de_var (pv 0)) da_nil)) da_nil))) (da_cons (de_callD K__law_input_1 hgA hrA (by rfl) (da_cons (de_var (pv 0)) da_nil)) da_nil)))) da_nil))))))
  (dss_one (t := p__law_log_2) (ds_ret (de_callTy (cd_tuple) (by rfl) m_tuple (by decide +kernel) (da_cons (de_take (pv 2)) da_nil))))))
theorem log_loop {a : Addr} {m : Int} {N : dEnds} {c0 : Nat} (hc : c0 + 2500 < 65536) (hN : ∀ (es : List Rw) (c' : Nat) s3, es.length ≤ 40 → (∀ e ∈ es, rwOk e) → c' ≤ c0 + 2500 → N.nx ⟨[.dat (.raw (.ref a)), .dat (.int m), .own (es.map rwD), s3], some (a, c')⟩) :
    ∀ (rest : List D) (es : List Rw) (c' : Nat) (s3 : Sl), es.length + rest.length ≤ 40 → (∀ e ∈ es, rwOk e) → c' + 62 * rest.length ≤ c0 + 2500 → wFor (gN 3) b__law_log_f1 W0 N rest ⟨[.dat (.raw (.ref a)), .dat (.int m), .own (es.map rwD), s3], some (a, c')⟩
  | [], es, c', s3, h1, ok, h2 => hN es c' s3 (by simpa using h1) ok (by simpa using h2)
  | d :: rest, es, c', s3, h1, ok, h2 => by
    rw [List.length_cons] at h1 h2
    show gN 3 d _ _
    simp only [DSIMP, b__law_log_f1, sp__law_draw, spDraw, sp__law_pick, sp__law_ask, sp__law_input]
    have add : ∀ (e : Rw) (c'' : Nat) s3, rwOk e → c'' ≤ c' + 62 → wFor (gN 3) b__law_log_f1 W0 N rest ⟨[.dat (.raw (.ref a)), .dat (.int m), .own (es.map rwD ++ [rwD e]), s3], some (a, c'')⟩ := fun e c'' s3 h3 h4 => by
      have w := log_loop hc hN rest (es ++ [e]) c'' s3 (by simp; omega) (fun x hx => by
        rcases List.mem_append.mp hx with hx | hx
        · exact ok x hx
        · rw [List.mem_singleton] at hx; subst hx; exact h3) (by omega)
      rw [List.map_append] at w
      exact w
    refine ⟨by omega, fun r r0 r1 => ⟨by omega, fun w ps c'' okk h3 => ⟨by omega, fun e c3 h4 h5 => ⟨by omega, ?_, ?_⟩⟩⟩⟩
    · exact ⟨by omega, add (.ask (1 + r) w ps) (c3 + 1) _ ⟨show (1 + r).natAbs < 100000 by omega, okk⟩ (by omega)⟩
    · exact ⟨by omega, add e (c3 + 1) _ h4 (by omega)⟩
theorem hsp__law_log : ∀ ds p Q W, ds.length = 2 → sp__law_log ds p Q W → b__law_log W0 (endsD Q) (startD n__law_log.length ds p) := by
  intro ds p Q W _ h
  match ds, p, h with
  | [.raw (.ref a), .int m], some (b, c), ⟨e, m0, m1, hc, q⟩ =>
    subst e
    have go : ∀ (n : Int), 0 ≤ n → n ≤ 40 → ∀ (N : dEnds), (∀ (es : List Rw) (c' : Nat) s3, es.length ≤ 40 → (∀ e ∈ es, rwOk e) → c' ≤ c + 1 + 1 + 1 + 2500 → N.nx ⟨[.dat (.raw (.ref a)), .dat (.int m), .own (es.map rwD), s3], some (a, c')⟩) → wFor (gN 3) b__law_log_f1 W0 N (Ev.intsFrom 0 n.toNat) ⟨[.dat (.raw (.ref a)), .dat (.int m), .own [], .un], some (a, c + 1 + 1 + 1)⟩ := fun n h0 h1 N hN =>
      log_loop (c0 := c + 1 + 1 + 1) (by omega) hN _ [] _ _ (by rw [intsFrom_len]; simp; omega) (by simp) (by rw [intsFrom_len]; omega)
    simp only [DSIMP, n__law_log, b__law_log, b__law_log_0, p__law_log_0, b__law_log_1, p__law_log_1, sp__law_draw, spDraw, sp__law_pick]
    refine ⟨by omega, by omega, by omega, fun r r0 r1 => ⟨by omega, fun s s0 s1 => ⟨by omega, ?_⟩⟩⟩
    have fin : ∀ (es : List Rw) (c' : Nat) s3, es.length ≤ 40 → (∀ e ∈ es, rwOk e) → c' ≤ c + 1 + 1 + 1 + 2500 → b__law_log_2 W0 (endsD Q) ⟨[.dat (.raw (.ref a)), .dat (.int m), .own (es.map rwD), s3], some (a, c')⟩ := fun es c' s3 h1 ok h2 => by
      simp only [DSIMP, b__law_log_2, p__law_log_2]
      exact q es c' h1 ok (by omega)
    exact ⟨⟨by omega, by omega, go _ (by omega) (by omega) _ fin⟩, ⟨by omega, by omega, go _ (by omega) (by omega) _ fin⟩, by omega, by omega, go _ (by omega) (by omega) _ fin⟩
theorem ok__law_log {P : Program} {w : World} {K : PySem.W.Frag} {mg : Str → Option Value} {base : Heap} (m_range : mg "range" = none) (m_tuple : mg "tuple" = none) (K__law_ask_1 : Def P w K mg base 4 "_law_ask" 1 sp__law_ask []) (K__law_draw_2 : Def P w K mg base 1 "_law_draw" 2 sp__law_draw []) (K__law_input_1 : Def P w K mg base 3 "_law_input" 1 sp__law_input []) (K__law_pick_2 : Def P w K mg base 2 "_law_pick" 2 sp__law_pick []) {f : Addr} {fd : FuncData} (F : Fun K "_law_log" "_law_log" s__law_log f fd) : FnG P w K mg base CX0 5 f fd ["_law_pen_here", "_law_most"] (spD K 2 sp__law_log) :=
 fn_d0 F sc__law_log rfl (fun cdv A out s H E g r => run__law_log m_range m_tuple K__law_ask_1 K__law_draw_2 K__law_input_1 K__law_pick_2 cdv A out s H E g r) hsp__law_log
def sp_law : dSp := fun ds p Q W => ∃ ns, ds = [.scr ns] ∧ ns.length ≤ 63 ∧ p = none ∧ ∀ p', Q (.bl true) p'
abbrev s_law : Stmt := topS 20
abbrev n_law : List Str := ["_law_script", "_law_pen_here", "_law_turn", "_law_log_so", "_law_shown", "_law_due", "_law_some", "_law_row"]
theorem sc_law : FnScope n_law ["_law_script"] (defScope s_law) := ⟨rfl, rfl, rfl, by decide +kernel, rfl, by decide +kernel, by decide +kernel⟩
def p_law_x2_0 : dS := (dSet 3 (dCallD 2 [] sp__law_log (dCons (dVar 1) (dCons (dCallD 2 [] sp__law_pick (dCons (dVar 1) (dCons (dFz (dLst (dCons (dC (.int 4)) (dCons (dC (.int 12)) (dCons (dC (.int 40)) dNil))))) dNil))) dNil))))
def p_law_x2_1 : dS := (dSet 4 (dCB rRepr (dCons (dVar 3) dNil)))
def p_law_x2_2 : dS := (dSet 5 (dCallD 1 [] sp__law_ended (dCons (dFz (dLC (dSeqI (dVar 3)) (gN 7) dYes (dCallD 1 [] sp__law_line (dCons (dVar 7) dNil)) [7])) dNil)))
def p_law_x2_3 : dS := (dIfS (dOr (dB (dBin (rNe) (dCB rRepr (dCons (dCallD 1 [] sp_show_log (dCons (dVar 3) dNil)) dNil)) (dCB rRepr (dCons (dVar 5) dNil)))) (dOr (dB (dBin (rNe) (dCallK 1 0 1 [0] [] sp_show_log dNil (dCons (dVar 3) dNil)) (dVar 5))) (dB (dBin (rNe) (dCB rRepr (dCons (dVar 3) dNil)) (dVar 4))))) (dRet (dC (.bl false))) dNext)
def b_law_x2_3 : dS := p_law_x2_3
def b_law_x2_2 : dS := dSeq p_law_x2_2 b_law_x2_3
def b_law_x2_1 : dS := dSeq p_law_x2_1 b_law_x2_2
def b_law_x2_0 : dS := dSeq p_law_x2_0 b_law_x2_1
def p_law_0 : dS := (dSet 1 (dCallD 1 [] sp__law_pen (dCons (dVar 0) dNil)))
def p_law_1 : dS := (dFor (dRng1 (dCons (dC (.int 4)) dNil)) (gN 2) b_law_x2_0)
def p_law_2 : dS := (dSet 6 (dTup (dCons (dTup (dCons (dC (.int 1)) (dCons (dTup (dCons (dC (.str "make")) (dCons (dC (.int 3)) (dCons (dC (.int 0)) (dCons (dTup (dCons (dC (.int (-1))) (dCons (dC (.int 2)) (dCons (dC (.int 5)) (dCons (dC (.int 5)) dNil))))) dNil))))) dNil))) (dCons (dTup (dCons (dC (.int 4)) (dCons (dTup (dCons (dC (.str "wish")) (dCons (dC (.int 3)) (dCons (dTup dNil) dNil)))) dNil))) (dCons (dTup (dCons (dC (.str "move")) (dCons (dTup (dCons (dC (.int (-3))) (dCons (dC (.int 7)) dNil))) dNil))) dNil)))))
def p_law_3 : dS := (dIfS (dB (dBin (rNe) (dCallD 1 [] sp_show_log (dCons (dVar 6) dNil)) (dC (.str "1 make 3 0 -1,2,5,5\n4 wish 3 -\nmove -3 7\n")))) (dRet (dC (.bl false))) dNext)
def p_law_4 : dS := (dIfS (dB (dBin (rNe) (dCallD 1 [] sp_show_log (dCons (dTup (dCons (dTup (dCons (dC (.str "key")) (dCons (dC (.str "none")) dNil))) (dCons (dTup (dCons (dC (.int 1)) (dCons (dTup (dCons (dC (.str "hold")) (dCons (dC (.bl true)) dNil))) dNil))) (dCons (dTup (dCons (dC (.str "key")) (dCons (dC (.str "yes")) dNil))) dNil)))) dNil)) (dC (.str "key none\n1 hold yes\nkey yes\n")))) (dRet (dC (.bl false))) dNext)
def p_law_5 : dS := (dRet (dAndV (dBin (rEq) (dCallD 1 [] sp_show_log (dCons (dTup (dCons (dTup (dCons (dC (.int 2)) (dCons (dTup (dCons (dC (.str "focus")) (dCons (dC .non) (dCons (dC (.str "none")) (dCons (dC (.int 0)) dNil))))) dNil))) dNil)) dNil)) (dC (.str "2 focus none none 0\n"))) (dBin (rEq) (dCallD 1 [] sp_show_log (dCons (dTup dNil) dNil)) (dC (.str "")))))
def b_law_5 : dS := p_law_5
def b_law_4 : dS := dSeq p_law_4 b_law_5
def b_law_3 : dS := dSeq p_law_3 b_law_4
def b_law_2 : dS := dSeq p_law_2 b_law_3
def b_law_1 : dS := dSeq p_law_1 b_law_2
def b_law_0 : dS := dSeq p_law_0 b_law_1
def b_law : dS := b_law_0
theorem run_law {P : Program} {w : World} {K : PySem.W.Frag} {mg : Str → Option Value} {base : Heap} (m_range : mg "range" = none) (m_repr : mg "repr" = none) (K__law_ended_1 : Def P w K mg base 1 "_law_ended" 1 sp__law_ended []) (K__law_line_1 : Def P w K mg base 2 "_law_line" 1 sp__law_line []) (K__law_log_2 : Def P w K mg base 5 "_law_log" 2 sp__law_log []) (K__law_pen_1 : Def P w K mg base 1 "_law_pen" 1 sp__law_pen []) (K__law_pick_2 : Def P w K mg base 2 "_law_pick" 2 sp__law_pick []) (K_show_log_1 : Def P w K mg base 4 "show_log" 1 sp_show_log []) (K_show_log_0_log : DefK P w K mg base 4 "show_log" 1 sp_show_log 0 1 ["log"] [0] []) {f : Addr} (cdv : Value) (A : Around) (out : List Env) (s : Shared) (H : Hp) (E : XK) (g : A.guards = some []) (hrA : Room 5 (A.deeper (envOfC "law" (defScope s_law) s.heap.objs.size f cdv))) :
  DSs (cx0 P w K mg base n_law "law" (defScope s_law) f cdv A out s H E) E00 (defBody s_law) b_law := by
 have hgA : (A.deeper (envOfC "law" (defScope s_law) s.heap.objs.size f cdv)).guards = some [] := g
 have hun := hrA.un
 exact (dss_cons (t := p_law_0) (u := b_law_1) (ds_set (i := 1) sc_law.nd rfl (by first | exact .inl rfl | exact .inr rfl) (de_callD K__law_pen_1 hgA hrA (by rfl) (da_cons (de_var (pv 0)) da_nil)))
  (dss_cons (t := p_law_1) (u := b_law_2) (ds_for PassesOwn.never rfl (di_range1 (by rfl) m_range (da_cons de_int da_nil)) (dg_name (pg_name (i := 2) sc_law.nd rfl (by first | exact .inl rfl | exact .inr rfl))) (dss_cons (t := p_law_x2_0) (u := b_law_x2_1) (ds_set (i := 3) sc_law.nd rfl (by first | exact .inl rfl | exact .inr rfl) (de_callD K__law_log_2 hgA hrA (by rfl) (da_cons (de_var (pv 1)) (da_cons (de_callD K__law_pick_2 hgA hrA (by rfl) (da_cons (de_var (pv 1)) (da_cons (de_fz (df_lst (da_cons de_int (da_cons de_int (da_cons de_int da_nil))))) da_nil))) da_nil))))
  (dss_cons (t := p_law_x2_1) (u := b_law_x2_2) (ds_set (i := 4) sc_law.nd rfl (by first | exact .inl rfl | exact .inr rfl) (de_callB (cd_repr hgA (Nat.lt_of_le_of_lt (Nat.add_le_add_left (by decide) _) hun)) (by rfl) m_repr Ev.boot_repr (da_cons (de_var (pv 3)) da_nil)))
  (dss_cons (t := p_law_x2_2) (u := b_law_x2_3) (ds_set (i := 5) sc_law.nd rfl (by first | exact .inl rfl | exact .inr rfl) (de_callD K__law_ended_1 hgA hrA (by rfl) (da_cons (de_fz (df_lc (E2 := E00) (own := [("_law_row", 7)]) rfl sc_law.nd (di_seq (de_var (pv 3))) (blkOk_by (N := n_law) (sc := (defScope s_law)) (own := [("_law_row", 7)]) (by decide +kernel)) (by decide) (fun _ _ _ _ _ => (dg_name (pg_name (i := 7) sc_law.nd rfl (by first | exact .inl rfl | exact .inr rfl)))) (fun _ _ _ _ _ => dts_nil) (fun _ _ _ _ _ => (de_callD K__law_line_1 hgA hrA (by rfl) (da_cons (de_var (pv 7)) da_nil))))) da_nil)))
  (dss_one (t := p_law_x2_3) (ds_if ((dw_or (dt_cmp (od_ne (Nat.lt_of_le_of_lt (Nat.add_le_add_left (by decide) _) hun)) (de_callB (cd_repr hgA (Nat.lt_of_le_of_lt (Nat.add_le_add_left (by decide) _) hun)) (by rfl) m_repr Ev.boot_repr (da_cons (de_callD K_show_log_1 hgA hrA (by rfl) (da_cons (de_var (pv 3)) da_nil)) da_nil)) (de_callB (cd_repr hgA (Nat.lt_of_le_of_lt (Nat.add_le_add_left (by decide) _) hun)) (by rfl) m_repr Ev.boot_repr (da_cons (de_var (pv 5)) da_nil)) (nomark _)) (dw_or (dt_cmp (od_ne (Nat.lt_of_le_of_lt (Nat.add_le_add_left (by decide) _) hun)) (de_callK0 K_show_log_0_log hgA hrA (by rfl) (dk_cons (de_var (pv 3)) dk_nil)) (de_var (pv 5)) (nomark _)) (dw_or1 (dt_cmp (od_ne (Nat.lt_of_le_of_lt (Nat.add_le_add_left (by decide) _) hun)) (de_callB (cd_repr hgA (Nat.lt_of_le_of_lt (Nat.add_le_add_left (by decide) _) hun)) (by rfl) m_repr Ev.boot_repr (da_cons (de_var (pv 3)) da_nil)) (de_var (pv 4)) (nomark _)))))).dt (dss_one (ds_ret de_bl)) dss_nil))))))
  (dss_cons (t := p_law_2) (u := b_law_3) (ds_set (i := 6) sc_law.nd rfl (by first | exact .inl rfl | exact .inr rfl) (de_tup (da_cons (de_tup (da_cons de_int (da_cons (de_tup (da_cons de_str (da_cons de_int (da_cons de_int (da_cons (de_tup (da_cons de_neg (da_cons de_int (da_cons de_int (da_cons de_int da_nil))))) da_nil))))) da_nil))) (da_cons (de_tup (da_cons de_int (da_cons (de_tup (da_cons de_str (da_cons de_int (da_cons (de_tup da_nil) da_nil)))) da_nil))) (da_cons (de_tup (da_cons de_str (da_cons (de_tup (da_cons de_neg (da_cons de_int da_nil))) da_nil))) da_nil)))))
  (dss_cons (t := p_law_3) (u := b_law_4) (ds_if (dt_cmp (od_ne (Nat.lt_of_le_of_lt (Nat.add_le_add_left (by decide) _) hun)) (de_callD K_show_log_1 hgA hrA (by rfl) (da_cons (de_var (pv 6)) da_nil)) de_str (nomark _)) (dss_one (ds_ret de_bl)) dss_nil)
  (dss_cons (t := p_law_4) (u := b_law_5) (ds_if (dt_cmp (od_ne (Nat.lt_of_le_of_lt (Nat.add_le_add_left (by decide) _) hun)) (de_callD K_show_log_1 hgA hrA (by rfl) (da_cons (de_tup (da_cons (de_tup (da_cons de_str (da_cons de_str da_nil))) (da_cons (de_tup (da_cons de_int (da_cons (de_tup (da_cons de_str (da_cons de_bl da_nil))) da_nil))) (da_cons (de_tup (da_cons de_str (da_cons de_str da_nil))) da_nil)))) da_nil)) de_str (nomark _)) (dss_one (ds_ret de_bl)) dss_nil)
  (dss_one (t := p_law_5) (ds_ret (de_and (de_cmp (od_eq (Nat.lt_of_le_of_lt (Nat.add_le_add_left (by decide) _) hun)) (de_callD K_show_log_1 hgA hrA (by rfl) (da_cons (de_tup (da_cons (de_tup (da_cons de_int (da_cons (de_tup (da_cons de_str (da_cons de_non (da_cons de_str (da_cons de_int da_nil))))) da_nil))) da_nil)) da_nil)) de_str (nomark _)) (de_one (de_cmp (od_eq (Nat.lt_of_le_of_lt (Nat.add_le_add_left (by decide) _) hun)) (de_callD K_show_log_1 hgA hrA (by rfl) (da_cons (de_tup da_nil) da_nil)) de_str (nomark _)))))))))))
theorem it_sm {i : It} (h : itOk i) : (itD i).sm 0 110 := by
  cases i with
  | int i => exact (D.sm.int (k := 0) (lit_small h)).mono (by decide) (by decide)
  | str x => exact (D.sm.str (k := 0) h.1 h.2).mono (by decide) (by decide)
theorem pc_sm {c : Pc} (h : pcOk c) : (pcD c).sm 1 1200 := by
  cases c with
  | it i => exact (it_sm h).mono (by decide) (by decide)
  | bl b => exact (D.sm.bl (k := 0)).mono (by decide) (by decide)
  | non => exact (D.sm.non (k := 0)).mono (by decide) (by decide)
  | tup xs => exact (D.sm.tup (k := 0) (n := (110 + 2) * 10) (D.sms.all (fun d hd => by
      obtain ⟨z, hz, rfl⟩ := List.mem_map.mp hd
      exact it_sm (h.2 z hz)) (by simpa using h.1))).mono (by decide) (by decide)
theorem rw_sm {e : Rw} (h : rwOk e) : (rwD e).sm 3 6300 := by
  cases e with
  | ask a w ps =>
    obtain ⟨h1, h2, h3, h4, h5⟩ := h
    exact (D.sm.tup (k := 2) (n := 31 + 2 + (10 * 10 + 2 + 2 + (1200 + 2) * 5 + 5 + 2 + 0)) (.cons (.int (lit_small h1)) (.cons (D.sm.tup (k := 1) (n := 10 * 10 + 2 + 2 + (1200 + 2) * 5) (.cons ((D.sm.str (k := 0) h2 h3).mono (by decide) (by decide)) (D.sms.all (fun d hd => by
      obtain ⟨z, hz, rfl⟩ := List.mem_map.mp hd
      exact pc_sm (h5 z hz)) (by simpa using h4)))) .nil))).mono (by decide) (by decide)
  | move x y => exact (D.sm.tup (k := 1) (n := 4 * 10 + 2 + 2 + (31 + 2 + (31 + 2 + 0) + 5 + 2 + 0)) (.cons ((D.sm.str (k := 0) (strOk_lit _) (n := 4) (by decide +kernel)).mono (by decide) (by decide)) (.cons (D.sm.tup (k := 0) (.cons (.int (lit_small h.1)) (.cons (.int (lit_small h.2)) (.nil (n := 0))))) .nil))).mono (by decide) (by decide)
  | inp w i =>
    have i1 : PyData.strOk w = true := by rcases h.1 with rfl | rfl | rfl <;> exact strOk_lit _
    have i2 : w.length ≤ 10 := by rcases h.1 with rfl | rfl | rfl <;> decide +kernel
    exact (D.sm.tup (k := 0) (n := 10 * 10 + 2 + 2 + (110 + 2 + 0)) (.cons (D.sm.str (k := 0) i1 i2) (.cons (it_sm h.2) .nil))).mono (by decide) (by decide)
theorem logs_sm {es : List Rw} (h : ∀ e ∈ es, rwOk e) (hl : es.length ≤ 40) : (D.tup (es.map rwD)).sm 4 ((6300 + 2) * 40 + 5) :=
  D.sm.tup (k := 3) (n := (6300 + 2) * 40) (D.sms.all (fun d hd => by
    obtain ⟨z, hz, rfl⟩ := List.mem_map.mp hd
    exact rw_sm (h z hz)) (by simpa using hl))
theorem log_len {es : List Rw} (h : ∀ e ∈ es, rwOk e) (hl : es.length ≤ 40) : (logT es).length ≤ 130000 := by
  have q := log_sum h hl
  refine Nat.le_trans (join2_len _ _) ?_
  rw [List.map_map]
  have h2 : (Str.ofString "").length = 0 := by decide +kernel
  have e : (es.map ((fun t => t.length + (Str.ofString "").length) ∘ fun e => rwT e ++ Str.ofString "\n")) = es.map fun e => (rwT e ++ Str.ofString "\n").length := by
    apply List.map_congr_left
    intro e _
    show (rwT e ++ Str.ofString "\n").length + (Str.ofString "").length = _
    omega
  rw [e]; exact q
theorem log_sm {es : List Rw} (h : ∀ e ∈ es, rwOk e) (hl : es.length ≤ 40) : (D.str (logT es)).sm 0 1300002 :=
  D.sm.str (strOk_join (strOk_lit _) _ fun t ht => by
    obtain ⟨z, hz, rfl⟩ := List.mem_map.mp ht
    exact strOk_append (rw_ok (h z hz)) (strOk_lit _)) (log_len h hl)
theorem log_ok {es : List Rw} (h : ∀ e ∈ es, rwOk e) : PyData.strOk (logT es) = true := strOk_join (strOk_lit _) _ fun t ht => by
  obtain ⟨z, hz, rfl⟩ := List.mem_map.mp ht
  exact strOk_append (rw_ok (h z hz)) (strOk_lit _)
theorem same {α : Type} [DecidableEq α] (x : α) : decide (x = x) = true := decide_eq_true rfl
theorem turn_law {a : Addr} {N : dEnds} {ns : List Int} {c0 : Nat} (hc : c0 + 2700 < 65536) {s2 s3 s4 s5 s6 s7 : Sl}
    (hN : ∀ (s2 s3 s4 s5 s6 s7 : Sl) (c' : Nat), c' ≤ c0 + 2700 → N.nx ⟨[.dat (.scr ns), .dat (.raw (.ref a)), s2, s3, s4, s5, s6, s7], some (a, c')⟩) :
    b_law_x2_0 W0 N ⟨[.dat (.scr ns), .dat (.raw (.ref a)), s2, s3, s4, s5, s6, s7], some (a, c0)⟩ := by
  have main : ∀ (es : List Rw) (c' : Nat), es.length ≤ 40 → (∀ e ∈ es, rwOk e) → c' ≤ c0 + 2601 → b_law_x2_1 W0 N ⟨[.dat (.scr ns), .dat (.raw (.ref a)), s2, .dat (.tup (es.map rwD)), s4, s5, s6, s7], some (a, c')⟩ := fun es c' hl ok hc' => by
    have sm := logs_sm ok hl
    have tm := log_sm ok hl
    have sw := sm.sw
    have tw := tm.sw
    simp only [DSIMP, b_law_x2_1, p_law_x2_1, b_law_x2_2, p_law_x2_2, sw]
    refine wLC_maps (f := fun e => .str (rwT e)) (fun e he acc k hk z => ?_) (by rw [sizeLine_eq]; omega) ?_
    · simp only [DSIMP, sp__law_line]
      exact ⟨e, rfl, ok e he, hk, z⟩
    simp only [DSIMP, sp__law_ended]
    refine ⟨es, rfl, hl, ok, ?_⟩
    simp only [DSIMP, b_law_x2_3, p_law_x2_3, sp_show_log, sw]
    refine ⟨es, rfl, hl, ok, ?_⟩
    refine ⟨tw, tw, tm.rep, tm.rep, ?_⟩
    rw [same]
    refine ⟨es, rfl, hl, ok, log_ok ok, log_ok ok, ?_⟩
    rw [same]
    exact ⟨sm.rep, sm.rep, hN _ _ _ _ _ _ _ (by omega)⟩
  simp only [DSIMP, b_law_x2_0, p_law_x2_0, sp__law_pick, sp__law_log]
  exact ⟨by omega, by omega, fun es c' hl ok h2 => main es c' hl ok (by omega)⟩
theorem loop_law {a : Addr} {N : dEnds} {ns : List Int} (hN : ∀ (s2 s3 s4 s5 s6 s7 : Sl) (c' : Nat), c' ≤ 11000 → N.nx ⟨[.dat (.scr ns), .dat (.raw (.ref a)), s2, s3, s4, s5, s6, s7], some (a, c')⟩) :
    ∀ (rest : List D) (s2 s3 s4 s5 s6 s7 : Sl) (c' : Nat), c' + 2700 * rest.length ≤ 11000 → wFor (gN 2) b_law_x2_0 W0 N rest ⟨[.dat (.scr ns), .dat (.raw (.ref a)), s2, s3, s4, s5, s6, s7], some (a, c')⟩
  | [], s2, s3, s4, s5, s6, s7, c', h => hN _ _ _ _ _ _ _ (by simpa using h)
  | d :: rest, s2, s3, s4, s5, s6, s7, c', h => by
    rw [List.length_cons] at h
    exact turn_law (c0 := c') (by omega) fun s2 s3 s4 s5 s6 s7 c'' h1 => loop_law hN rest s2 s3 s4 s5 s6 s7 c'' (by omega)
def some1 : List Rw := [.ask 1 "make" [.it (.int 3), .it (.int 0), .tup [.int (-1), .int 2, .int 5, .int 5]], .ask 4 "wish" [.it (.int 3), .tup []], .move (-3) 7]
def some2 : List Rw := [.inp "key" (.str "none"), .ask 1 "hold" [.bl true], .inp "key" (.str "yes")]
def some3 : List Rw := [.ask 2 "focus" [.non, .it (.str "none"), .it (.int 0)]]
theorem l1 : lit 1 := by unfold lit; decide
theorem some1_ok : ∀ e ∈ some1, rwOk e := by
  have li : ∀ {i : Int}, i.natAbs < 100000 → lit i := fun h => h
  simp only [some1, List.forall_mem_cons]
  refine ⟨⟨li (by decide), okl (by decide) (by simp) (okc (li (by decide)) (okc (li (by decide)) (okc ⟨by simp, ?_⟩ okn)))⟩, ⟨li (by decide), okl (by decide) (by simp) (okc (li (by decide)) (okc ⟨by simp, fun _ h => nomatch h⟩ okn))⟩, ⟨li (by decide), li (by decide)⟩, fun _ h => nomatch h⟩
  simp only [List.forall_mem_cons]
  exact ⟨li (by decide), li (by decide), li (by decide), li (by decide), fun _ h => nomatch h⟩
theorem some2_ok : ∀ e ∈ some2, rwOk e := by
  simp only [some2, List.forall_mem_cons]
  exact ⟨⟨.inr (.inr rfl), strOk_lit _, by decide +kernel⟩, ⟨l1, okl (by decide) (by simp) (okc trivial okn)⟩, ⟨.inr (.inr rfl), strOk_lit _, by decide +kernel⟩, fun _ h => nomatch h⟩
theorem some3_ok : ∀ e ∈ some3, rwOk e := by
  have li : ∀ {i : Int}, i.natAbs < 100000 → lit i := fun h => h
  simp only [some3, List.forall_mem_cons]
  exact ⟨⟨li (by decide), okl (by decide) (by simp) (okc trivial (okc ⟨strOk_lit _, by decide +kernel⟩ (okc (li (by decide)) okn)))⟩, fun _ h => nomatch h⟩
theorem hsp_law : ∀ ds p Q W, ds.length = 1 → sp_law ds p Q W → b_law W0 (endsD Q) (startD n_law.length ds p) := by
  rintro ds p Q W - ⟨ns, rfl, hl, rfl, q⟩
  simp only [DSIMP, n_law, b_law, b_law_0, p_law_0, b_law_1, p_law_1, sp__law_pen]
  refine ⟨ns, rfl, hl, ?_⟩
  intro a
  refine loop_law (fun s2 s3 s4 s5 s6 s7 c' h1 => ?_) _ _ _ _ _ _ _ _ (by rw [intsFrom_len]; decide)
  simp only [DSIMP, b_law_2, p_law_2, b_law_3, p_law_3, sp_show_log]
  have e1 : logT some1 = Str.ofString "1 make 3 0 -1,2,5,5\n4 wish 3 -\nmove -3 7\n" := by decide +kernel
  have e2 : logT some2 = Str.ofString "key none\n1 hold yes\nkey yes\n" := by decide +kernel
  have e3 : logT some3 = Str.ofString "2 focus none none 0\n" := by decide +kernel
  have e4 : logT [] = Str.ofString "" := by decide +kernel
  refine ⟨some1, rfl, by decide, some1_ok, ?_⟩
  rw [e1]
  refine ⟨strOk_lit _, ?_⟩
  rw [same]
  show b_law_4 _ _ _
  simp only [DSIMP, b_law_4, p_law_4, sp_show_log]
  refine ⟨some2, rfl, by decide, some2_ok, ?_⟩
  rw [e2]
  refine ⟨strOk_lit _, ?_⟩
  rw [same]
  show b_law_5 _ _ _
  simp only [DSIMP, b_law_5, p_law_5, sp_show_log]
  refine ⟨some3, rfl, by decide, some3_ok, ?_⟩
  rw [e3]
  refine ⟨strOk_lit _, ?_⟩
  rw [same]
  refine ⟨[], rfl, by decide, (fun _ h => nomatch h), ?_⟩
  rw [e4]

  refine ⟨strOk_lit _, ?_⟩
  rw [same]
  exact q _
theorem ok_law {P : Program} {w : World} {K : PySem.W.Frag} {mg : Str → Option Value} {base : Heap} (m_range : mg "range" = none) (m_repr : mg "repr" = none) (K__law_ended_1 : Def P w K mg base 1 "_law_ended" 1 sp__law_ended []) (K__law_line_1 : Def P w K mg base 2 "_law_line" 1 sp__law_line []) (K__law_log_2 : Def P w K mg base 5 "_law_log" 2 sp__law_log []) (K__law_pen_1 : Def P w K mg base 1 "_law_pen" 1 sp__law_pen []) (K__law_pick_2 : Def P w K mg base 2 "_law_pick" 2 sp__law_pick []) (K_show_log_1 : Def P w K mg base 4 "show_log" 1 sp_show_log []) (K_show_log_0_log : DefK P w K mg base 4 "show_log" 1 sp_show_log 0 1 ["log"] [0] []) {f : Addr} {fd : FuncData} (F : Fun K "law" "law" s_law f fd) : FnG P w K mg base CX0 6 f fd ["_law_script"] (spD K 1 sp_law) :=
 fn_d0 F sc_law rfl (fun cdv A out s H E g r => run_law m_range m_repr K__law_ended_1 K__law_line_1 K__law_log_2 K__law_pen_1 K__law_pick_2 K_show_log_1 K_show_log_0_log cdv A out s H E g r) hsp_law
end Ev83

namespace Ev83
open PySem PySem.Spec PyProof.Rows L2 Ev
local macro_rules
  | `(tactic| simp only [DSIMP, $as,*] $[$l:location]?) => `(tactic| simp only [dGcIn, dGbIx, dGdIn, dGdIx, dListRg, rDictPf, dZipL, dListKo, dEmptyT, dDispT1, dNeE, rListA, rDictPT, rIsTF, dGroup, rSrtA, rLenA, dInV, dIxV, dCount, dSortKo, dCallR, adD, gL, dDN, dLN, wNest, bNest, bEl, bEd, dZip, seqOf, dSortDK, dCallV, dCallLam, optQ, dEnum, D.nf, D.nfs, Ev.rSumD, dLock, dKeysI, gStarD, dReverse, dMove, dDGet2, getD2, D.isD, dDisp, dPairs, keysD, Ev.rMaxD, Ev.rMinD, rDictP, Option.getD_some, Option.getD_none, Ev.D.eq_refl, dPen1, dLenSet, dSrtR, dRo, dRoF, dRoT, roD, ro_un, ro_dat, ro_own, ro_hp, ro_law, ro_ownK, ro_ownT, List.forall_mem_map, flat_int, flat_str, flat_bl, flat_non, solid_int, solid_str, solid_bl, solid_non, solid_tup, solids_nil, solids_cons, dSeq, dNext, dSet, dSetF, setSl, dVar, dTake, dC, dBin, dBinF, dB, dIfS, dIf, dRet, dRetN, dExpr, dNil, dCons, dTup, dLst, dFz, dAnd, dOr, dNot, dAndV, dOrV, dNotV, dCallD, dCallK, dCB, dCBF, dFor, dLC, dYes, dRng1, dRng2, dSeqI, gN, gT, gsNil, gsCons, dAsg, dNeg, dJoin, dFs, dJs, dFmt, dApp, dExt, dPop, dPopAt, dOwnIx, dOwnCB, dOwnL, dOwnR, dOwnSl, dSetIx, dSlT, dSlL, oNone, oSome, dBorn, optQ, ownAt, setOwnAt, lookAt, wipeD, dNewDT, dNewDK, dDGet, dDIn, dDPut, dSortT, rSrt, isDict, Ev.dictGet, Ev.dictPut, Option.isSome_none, Option.isSome_some, D.keyT, keysOf, D.key, exists_eq_left', exists_eq_left, Option.isSome, rRepL, rCatL, dRetF, dIfF, dPar, dRetOwn, dCallL, dCallLK, dPen2, dRev, dRevI, dIndex, endsL, startL, dNever, dBrk, dCnt, rAddD, rSubI, rIO, rMulI, rDivI, rModI, rPowI, rCI, Ev.rIxD, rIsN, rNotN, D.isN, Ev.rLen, rTuple, rList, rAbs, rInt, rStr, Ev.rRepr, Ev.rIsi, D.ty, kit_tab, startD, endsD, List.map_cons, List.map_nil, List.length_cons, List.length_nil, List.append_nil, List.nil_append, List.cons_append, List.getElem?_cons_zero, List.getElem?_cons_succ, List.getElem?_nil, List.set_cons_zero, List.set_cons_succ, List.replicate, List.replicate_succ, Nat.zero_add, Nat.zero_le, sizeLine, true_and, and_true, if_true, Ev.eq_int, Ev.eq_str, Ev.eq_bl, Ev.eq_non, lst_nil, tup_nil, List.map_eq_nil_iff, txt_join, rLt, rLe, rGt, rGe, atI_ofNat, atI_last, wLC, strsOf, intsOf, blsOf, Option.map_some, Ev.join_two, Ev.join_one, Ev.join_nil, List.sum_cons, List.sum_nil, PySem.Str.empty_append, ixN_ofNat, Option.some.injEq, exists_eq', List.length_map, decide_true, decide_false, Bool.not_true, Bool.not_false, Bool.true_eq_false, Bool.false_eq_true, false_and, and_false, if_false, ite_true, ite_false, Nat.reduceAdd, Nat.reduceSub, Nat.reduceMul, Nat.reduceLT, Nat.reduceLeDiff, Nat.reduceEqDiff, Nat.reducePow, Int.reduceToNat, Int.reducePow, pickL, List.filterMap_cons, List.filterMap_nil, and_self, Int.reduceLT, Int.reduceLE, Int.reduceNeg, Int.reduceAdd, Int.reduceMul, Int.reduceSub, Int.reduceEq, reduceIte, reduceCtorEq, lit_eq, String.reduceEq, Ev.rEq, Ev.rNe, Ev.rInD, cut_toN, cut_fromN, List.map_take, List.forall_mem_cons, List.forall_mem_nil, List.not_mem_nil, false_imp_iff, implies_true, forall_const, D.cm, D.lay, D.lays, D.dep, D.deps, strOk_lit, lays_ints, deps_ints, Nat.max_self, Nat.max_zero, Nat.zero_max, Bool.and_self, Bool.true_and, Bool.and_true, Bool.and_false, Bool.false_and, Bool.or_false, Bool.or_true, Bool.true_or, Bool.false_or, List.any_cons, List.any_nil, decide_eq_true_eq, eq_self, $as,*] $[$l]?)
  | `(tactic| simp only [DSIMP] $[$l:location]?) => `(tactic| simp only [dGcIn, dGbIx, dGdIn, dGdIx, dListRg, rDictPf, dZipL, dListKo, dEmptyT, dDispT1, dNeE, rListA, rDictPT, rIsTF, dGroup, rSrtA, rLenA, dInV, dIxV, dCount, dSortKo, dCallR, adD, gL, dDN, dLN, wNest, bNest, bEl, bEd, dZip, seqOf, dSortDK, dCallV, dCallLam, optQ, dEnum, D.nf, D.nfs, Ev.rSumD, dLock, dKeysI, gStarD, dReverse, dMove, dDGet2, getD2, D.isD, dDisp, dPairs, keysD, Ev.rMaxD, Ev.rMinD, rDictP, Option.getD_some, Option.getD_none, Ev.D.eq_refl, dPen1, dLenSet, dSrtR, dRo, dRoF, dRoT, roD, ro_un, ro_dat, ro_own, ro_hp, ro_law, ro_ownK, ro_ownT, List.forall_mem_map, flat_int, flat_str, flat_bl, flat_non, solid_int, solid_str, solid_bl, solid_non, solid_tup, solids_nil, solids_cons, dSeq, dNext, dSet, dSetF, setSl, dVar, dTake, dC, dBin, dBinF, dB, dIfS, dIf, dRet, dRetN, dExpr, dNil, dCons, dTup, dLst, dFz, dAnd, dOr, dNot, dAndV, dOrV, dNotV, dCallD, dCallK, dCB, dCBF, dFor, dLC, dYes, dRng1, dRng2, dSeqI, gN, gT, gsNil, gsCons, dAsg, dNeg, dJoin, dFs, dJs, dFmt, dApp, dExt, dPop, dPopAt, dOwnIx, dOwnCB, dOwnL, dOwnR, dOwnSl, dSetIx, dSlT, dSlL, oNone, oSome, dBorn, optQ, ownAt, setOwnAt, lookAt, wipeD, dNewDT, dNewDK, dDGet, dDIn, dDPut, dSortT, rSrt, isDict, Ev.dictGet, Ev.dictPut, Option.isSome_none, Option.isSome_some, D.keyT, keysOf, D.key, exists_eq_left', exists_eq_left, Option.isSome, rRepL, rCatL, dRetF, dIfF, dPar, dRetOwn, dCallL, dCallLK, dPen2, dRev, dRevI, dIndex, endsL, startL, dNever, dBrk, dCnt, rAddD, rSubI, rIO, rMulI, rDivI, rModI, rPowI, rCI, Ev.rIxD, rIsN, rNotN, D.isN, Ev.rLen, rTuple, rList, rAbs, rInt, rStr, Ev.rRepr, Ev.rIsi, D.ty, kit_tab, startD, endsD, List.map_cons, List.map_nil, List.length_cons, List.length_nil, List.append_nil, List.nil_append, List.cons_append, List.getElem?_cons_zero, List.getElem?_cons_succ, List.getElem?_nil, List.set_cons_zero, List.set_cons_succ, List.replicate, List.replicate_succ, Nat.zero_add, Nat.zero_le, sizeLine, true_and, and_true, if_true, Ev.eq_int, Ev.eq_str, Ev.eq_bl, Ev.eq_non, lst_nil, tup_nil, List.map_eq_nil_iff, txt_join, rLt, rLe, rGt, rGe, atI_ofNat, atI_last, wLC, strsOf, intsOf, blsOf, Option.map_some, Ev.join_two, Ev.join_one, Ev.join_nil, List.sum_cons, List.sum_nil, PySem.Str.empty_append, ixN_ofNat, Option.some.injEq, exists_eq', List.length_map, decide_true, decide_false, Bool.not_true, Bool.not_false, Bool.true_eq_false, Bool.false_eq_true, false_and, and_false, if_false, ite_true, ite_false, Nat.reduceAdd, Nat.reduceSub, Nat.reduceMul, Nat.reduceLT, Nat.reduceLeDiff, Nat.reduceEqDiff, Nat.reducePow, Int.reduceToNat, Int.reducePow, pickL, List.filterMap_cons, List.filterMap_nil, and_self, Int.reduceLT, Int.reduceLE, Int.reduceNeg, Int.reduceAdd, Int.reduceMul, Int.reduceSub, Int.reduceEq, reduceIte, reduceCtorEq, lit_eq, String.reduceEq, Ev.rEq, Ev.rNe, Ev.rInD, cut_toN, cut_fromN, List.map_take, List.forall_mem_cons, List.forall_mem_nil, List.not_mem_nil, false_imp_iff, implies_true, forall_const, D.cm, D.lay, D.lays, D.dep, D.deps, strOk_lit, lays_ints, deps_ints, Nat.max_self, Nat.max_zero, Nat.zero_max, Bool.and_self, Bool.true_and, Bool.and_true, Bool.and_false, Bool.false_and, Bool.or_false, Bool.or_true, Bool.true_or, Bool.false_or, List.any_cons, List.any_nil, decide_eq_true_eq, eq_self] $[$l]?)
variable [TabC]
end Ev83
namespace Ev83
open PySem PySem.Spec PyProof.Rows L2 Ev
theorem all_mk {l : PySem.W.OpenLaw} {ts : List Addr} {w : World} {K : PySem.W.Frag} {h : Heap} {mg : Str → Option Value} {fa a__law_pen a__law_draw a__law_pick a__law_input a__law_room a__law_kinds a__law_off a__law_ask a__law_log a__law_ended a_show_list a_show_piece a_show_row a_show_log a__law_piece a__law_line a_law : Addr} (X : K.In h) (G : h.Ns mainGlobals mg) (hfa : mg "law" = some (.ref fa))
 {od__law_pen an__law_pen : Option Addr} {sl__law_pen : Array (Option Value)} {oc__law_pen kV__law_pen dc__law_pen pm__law_pen cd__law_pen ct__law_pen : Value}
 (n__law_pen_ : PySem.W.nsIn K mainGlobals "_law_pen" = some (some (.ref a__law_pen))) (l__law_pen : K.lookup a__law_pen = some ⟨oc__law_pen, od__law_pen, .func (PySem.W.fnOf "_law_pen" "_law_pen" (defArgs s__law_pen) (defBody s__law_pen) (defScope s__law_pen) .none kV__law_pen dc__law_pen pm__law_pen an__law_pen cd__law_pen ct__law_pen), sl__law_pen⟩) (c__law_pen : PySem.W.codeIn K cd__law_pen "_law_pen" = true) (k__law_pen : PySem.W.keepIn K (.ref a__law_pen) = true)
 {od__law_draw an__law_draw : Option Addr} {sl__law_draw : Array (Option Value)} {oc__law_draw kV__law_draw dc__law_draw pm__law_draw cd__law_draw ct__law_draw : Value}
 (n__law_draw_ : PySem.W.nsIn K mainGlobals "_law_draw" = some (some (.ref a__law_draw))) (l__law_draw : K.lookup a__law_draw = some ⟨oc__law_draw, od__law_draw, .func (PySem.W.fnOf "_law_draw" "_law_draw" (defArgs s__law_draw) (defBody s__law_draw) (defScope s__law_draw) .none kV__law_draw dc__law_draw pm__law_draw an__law_draw cd__law_draw ct__law_draw), sl__law_draw⟩) (c__law_draw : PySem.W.codeIn K cd__law_draw "_law_draw" = true) (k__law_draw : PySem.W.keepIn K (.ref a__law_draw) = true)
 {od__law_pick an__law_pick : Option Addr} {sl__law_pick : Array (Option Value)} {oc__law_pick kV__law_pick dc__law_pick pm__law_pick cd__law_pick ct__law_pick : Value}
 (n__law_pick_ : PySem.W.nsIn K mainGlobals "_law_pick" = some (some (.ref a__law_pick))) (l__law_pick : K.lookup a__law_pick = some ⟨oc__law_pick, od__law_pick, .func (PySem.W.fnOf "_law_pick" "_law_pick" (defArgs s__law_pick) (defBody s__law_pick) (defScope s__law_pick) .none kV__law_pick dc__law_pick pm__law_pick an__law_pick cd__law_pick ct__law_pick), sl__law_pick⟩) (c__law_pick : PySem.W.codeIn K cd__law_pick "_law_pick" = true) (k__law_pick : PySem.W.keepIn K (.ref a__law_pick) = true)
 {od__law_input an__law_input : Option Addr} {sl__law_input : Array (Option Value)} {oc__law_input kV__law_input dc__law_input pm__law_input cd__law_input ct__law_input : Value}
 (n__law_input_ : PySem.W.nsIn K mainGlobals "_law_input" = some (some (.ref a__law_input))) (l__law_input : K.lookup a__law_input = some ⟨oc__law_input, od__law_input, .func (PySem.W.fnOf "_law_input" "_law_input" (defArgs s__law_input) (defBody s__law_input) (defScope s__law_input) .none kV__law_input dc__law_input pm__law_input an__law_input cd__law_input ct__law_input), sl__law_input⟩) (c__law_input : PySem.W.codeIn K cd__law_input "_law_input" = true) (k__law_input : PySem.W.keepIn K (.ref a__law_input) = true)
 {od__law_room an__law_room : Option Addr} {sl__law_room : Array (Option Value)} {oc__law_room kV__law_room dc__law_room pm__law_room cd__law_room ct__law_room : Value}
 (n__law_room_ : PySem.W.nsIn K mainGlobals "_law_room" = some (some (.ref a__law_room))) (l__law_room : K.lookup a__law_room = some ⟨oc__law_room, od__law_room, .func (PySem.W.fnOf "_law_room" "_law_room" (defArgs s__law_room) (defBody s__law_room) (defScope s__law_room) .none kV__law_room dc__law_room pm__law_room an__law_room cd__law_room ct__law_room), sl__law_room⟩) (c__law_room : PySem.W.codeIn K cd__law_room "_law_room" = true) (k__law_room : PySem.W.keepIn K (.ref a__law_room) = true)
 {od__law_kinds an__law_kinds : Option Addr} {sl__law_kinds : Array (Option Value)} {oc__law_kinds kV__law_kinds dc__law_kinds pm__law_kinds cd__law_kinds ct__law_kinds : Value}
 (n__law_kinds_ : PySem.W.nsIn K mainGlobals "_law_kinds" = some (some (.ref a__law_kinds))) (l__law_kinds : K.lookup a__law_kinds = some ⟨oc__law_kinds, od__law_kinds, .func (PySem.W.fnOf "_law_kinds" "_law_kinds" (defArgs s__law_kinds) (defBody s__law_kinds) (defScope s__law_kinds) .none kV__law_kinds dc__law_kinds pm__law_kinds an__law_kinds cd__law_kinds ct__law_kinds), sl__law_kinds⟩) (c__law_kinds : PySem.W.codeIn K cd__law_kinds "_law_kinds" = true) (k__law_kinds : PySem.W.keepIn K (.ref a__law_kinds) = true)
 {od__law_off an__law_off : Option Addr} {sl__law_off : Array (Option Value)} {oc__law_off kV__law_off dc__law_off pm__law_off cd__law_off ct__law_off : Value}
 (n__law_off_ : PySem.W.nsIn K mainGlobals "_law_off" = some (some (.ref a__law_off))) (l__law_off : K.lookup a__law_off = some ⟨oc__law_off, od__law_off, .func (PySem.W.fnOf "_law_off" "_law_off" (defArgs s__law_off) (defBody s__law_off) (defScope s__law_off) .none kV__law_off dc__law_off pm__law_off an__law_off cd__law_off ct__law_off), sl__law_off⟩) (c__law_off : PySem.W.codeIn K cd__law_off "_law_off" = true) (k__law_off : PySem.W.keepIn K (.ref a__law_off) = true)
 {od__law_ask an__law_ask : Option Addr} {sl__law_ask : Array (Option Value)} {oc__law_ask kV__law_ask dc__law_ask pm__law_ask cd__law_ask ct__law_ask : Value}
 (n__law_ask_ : PySem.W.nsIn K mainGlobals "_law_ask" = some (some (.ref a__law_ask))) (l__law_ask : K.lookup a__law_ask = some ⟨oc__law_ask, od__law_ask, .func (PySem.W.fnOf "_law_ask" "_law_ask" (defArgs s__law_ask) (defBody s__law_ask) (defScope s__law_ask) .none kV__law_ask dc__law_ask pm__law_ask an__law_ask cd__law_ask ct__law_ask), sl__law_ask⟩) (c__law_ask : PySem.W.codeIn K cd__law_ask "_law_ask" = true) (k__law_ask : PySem.W.keepIn K (.ref a__law_ask) = true)
 {od__law_log an__law_log : Option Addr} {sl__law_log : Array (Option Value)} {oc__law_log kV__law_log dc__law_log pm__law_log cd__law_log ct__law_log : Value}
 (n__law_log_ : PySem.W.nsIn K mainGlobals "_law_log" = some (some (.ref a__law_log))) (l__law_log : K.lookup a__law_log = some ⟨oc__law_log, od__law_log, .func (PySem.W.fnOf "_law_log" "_law_log" (defArgs s__law_log) (defBody s__law_log) (defScope s__law_log) .none kV__law_log dc__law_log pm__law_log an__law_log cd__law_log ct__law_log), sl__law_log⟩) (c__law_log : PySem.W.codeIn K cd__law_log "_law_log" = true) (k__law_log : PySem.W.keepIn K (.ref a__law_log) = true)
 {od__law_ended an__law_ended : Option Addr} {sl__law_ended : Array (Option Value)} {oc__law_ended kV__law_ended dc__law_ended pm__law_ended cd__law_ended ct__law_ended : Value}
 (n__law_ended_ : PySem.W.nsIn K mainGlobals "_law_ended" = some (some (.ref a__law_ended))) (l__law_ended : K.lookup a__law_ended = some ⟨oc__law_ended, od__law_ended, .func (PySem.W.fnOf "_law_ended" "_law_ended" (defArgs s__law_ended) (defBody s__law_ended) (defScope s__law_ended) .none kV__law_ended dc__law_ended pm__law_ended an__law_ended cd__law_ended ct__law_ended), sl__law_ended⟩) (c__law_ended : PySem.W.codeIn K cd__law_ended "_law_ended" = true) (k__law_ended : PySem.W.keepIn K (.ref a__law_ended) = true)
 {od_show_list an_show_list : Option Addr} {sl_show_list : Array (Option Value)} {oc_show_list kV_show_list dc_show_list pm_show_list cd_show_list ct_show_list : Value}
 (n_show_list_ : PySem.W.nsIn K mainGlobals "show_list" = some (some (.ref a_show_list))) (l_show_list : K.lookup a_show_list = some ⟨oc_show_list, od_show_list, .func (PySem.W.fnOf "show_list" "show_list" (defArgs s_show_list) (defBody s_show_list) (defScope s_show_list) .none kV_show_list dc_show_list pm_show_list an_show_list cd_show_list ct_show_list), sl_show_list⟩) (c_show_list : PySem.W.codeIn K cd_show_list "show_list" = true) (k_show_list : PySem.W.keepIn K (.ref a_show_list) = true)
 {od_show_piece an_show_piece : Option Addr} {sl_show_piece : Array (Option Value)} {oc_show_piece kV_show_piece dc_show_piece pm_show_piece cd_show_piece ct_show_piece : Value}
 (n_show_piece_ : PySem.W.nsIn K mainGlobals "show_piece" = some (some (.ref a_show_piece))) (l_show_piece : K.lookup a_show_piece = some ⟨oc_show_piece, od_show_piece, .func (PySem.W.fnOf "show_piece" "show_piece" (defArgs s_show_piece) (defBody s_show_piece) (defScope s_show_piece) .none kV_show_piece dc_show_piece pm_show_piece an_show_piece cd_show_piece ct_show_piece), sl_show_piece⟩) (c_show_piece : PySem.W.codeIn K cd_show_piece "show_piece" = true) (k_show_piece : PySem.W.keepIn K (.ref a_show_piece) = true)
 {od_show_row an_show_row : Option Addr} {sl_show_row : Array (Option Value)} {oc_show_row kV_show_row dc_show_row pm_show_row cd_show_row ct_show_row : Value}
 (n_show_row_ : PySem.W.nsIn K mainGlobals "show_row" = some (some (.ref a_show_row))) (l_show_row : K.lookup a_show_row = some ⟨oc_show_row, od_show_row, .func (PySem.W.fnOf "show_row" "show_row" (defArgs s_show_row) (defBody s_show_row) (defScope s_show_row) .none kV_show_row dc_show_row pm_show_row an_show_row cd_show_row ct_show_row), sl_show_row⟩) (c_show_row : PySem.W.codeIn K cd_show_row "show_row" = true) (k_show_row : PySem.W.keepIn K (.ref a_show_row) = true)
 {od_show_log an_show_log : Option Addr} {sl_show_log : Array (Option Value)} {oc_show_log kV_show_log dc_show_log pm_show_log cd_show_log ct_show_log : Value}
 (n_show_log_ : PySem.W.nsIn K mainGlobals "show_log" = some (some (.ref a_show_log))) (l_show_log : K.lookup a_show_log = some ⟨oc_show_log, od_show_log, .func (PySem.W.fnOf "show_log" "show_log" (defArgs s_show_log) (defBody s_show_log) (defScope s_show_log) .none kV_show_log dc_show_log pm_show_log an_show_log cd_show_log ct_show_log), sl_show_log⟩) (c_show_log : PySem.W.codeIn K cd_show_log "show_log" = true) (k_show_log : PySem.W.keepIn K (.ref a_show_log) = true)
 {od__law_piece an__law_piece : Option Addr} {sl__law_piece : Array (Option Value)} {oc__law_piece kV__law_piece dc__law_piece pm__law_piece cd__law_piece ct__law_piece : Value}
 (n__law_piece_ : PySem.W.nsIn K mainGlobals "_law_piece" = some (some (.ref a__law_piece))) (l__law_piece : K.lookup a__law_piece = some ⟨oc__law_piece, od__law_piece, .func (PySem.W.fnOf "_law_piece" "_law_piece" (defArgs s__law_piece) (defBody s__law_piece) (defScope s__law_piece) .none kV__law_piece dc__law_piece pm__law_piece an__law_piece cd__law_piece ct__law_piece), sl__law_piece⟩) (c__law_piece : PySem.W.codeIn K cd__law_piece "_law_piece" = true) (k__law_piece : PySem.W.keepIn K (.ref a__law_piece) = true)
 {od__law_line an__law_line : Option Addr} {sl__law_line : Array (Option Value)} {oc__law_line kV__law_line dc__law_line pm__law_line cd__law_line ct__law_line : Value}
 (n__law_line_ : PySem.W.nsIn K mainGlobals "_law_line" = some (some (.ref a__law_line))) (l__law_line : K.lookup a__law_line = some ⟨oc__law_line, od__law_line, .func (PySem.W.fnOf "_law_line" "_law_line" (defArgs s__law_line) (defBody s__law_line) (defScope s__law_line) .none kV__law_line dc__law_line pm__law_line an__law_line cd__law_line ct__law_line), sl__law_line⟩) (c__law_line : PySem.W.codeIn K cd__law_line "_law_line" = true) (k__law_line : PySem.W.keepIn K (.ref a__law_line) = true)
 {od_law an_law : Option Addr} {sl_law : Array (Option Value)} {oc_law kV_law dc_law pm_law cd_law ct_law : Value}
 (n_law_ : PySem.W.nsIn K mainGlobals "law" = some (some (.ref a_law))) (l_law : K.lookup a_law = some ⟨oc_law, od_law, .func (PySem.W.fnOf "law" "law" (defArgs s_law) (defBody s_law) (defScope s_law) .none kV_law dc_law pm_law an_law cd_law ct_law), sl_law⟩) (c_law : PySem.W.codeIn K cd_law "law" = true) (k_law : PySem.W.keepIn K (.ref a_law) = true)
 {t_INPUTS_1 : Tok} {t_INPUTS_2 : Tok} {t_INPUTS_3 : Tok} {t_INPUTS_4 : Tok} {q_INPUTS : Addr} {e_INPUTS : Array DictEntry} {n_INPUTS : Nat} (g_INPUTS : PySem.W.nsIn K mainGlobals "INPUTS" = some (some (.ref q_INPUTS))) (l_INPUTS : K.lookup q_INPUTS = some ⟨.type "dict", none, .dict e_INPUTS n_INPUTS, #[]⟩) (d_INPUTS : PySem.W.KeysLit w.params e_INPUTS.toList) (o_INPUTS : (q_INPUTS == sysModules) = false) (p_INPUTS : Paired (fun (e : DictEntry) (p : Str × Value) => (∃ t, e.key = .str p.1 t) ∧ e.val = p.2) e_INPUTS.toList ((["move", "press", "release", "key"] : List Str).zip ([.str "s" t_INPUTS_1, .str "u" t_INPUTS_2, .str "u" t_INPUTS_3, .str "o" t_INPUTS_4] : List Value))) {t_TRUTHS_1 : Tok} {t_TRUTHS_2 : Tok} {q_TRUTHS : Addr} {e_TRUTHS : Array DictEntry} {n_TRUTHS : Nat} (g_TRUTHS : PySem.W.nsIn K mainGlobals "TRUTHS" = some (some (.ref q_TRUTHS))) (l_TRUTHS : K.lookup q_TRUTHS = some ⟨.type "dict", none, .dict e_TRUTHS n_TRUTHS, #[]⟩) (p_TRUTHS : Paired (fun (e : DictEntry) (p : Bool × Value) => e.key = .bool p.1 ∧ e.hash = hashInt (bI p.1) ∧ e.val = p.2) e_TRUTHS.toList (([true, false] : List Bool).zip ([.str "yes" t_TRUTHS_1, .str "no" t_TRUTHS_2] : List Value))) (z_abs : PySem.W.nsIn K mainGlobals "abs" = some none) (z_bool : PySem.W.nsIn K mainGlobals "bool" = some none) (z_int : PySem.W.nsIn K mainGlobals "int" = some none) (z_isinstance : PySem.W.nsIn K mainGlobals "isinstance" = some none) (z_len : PySem.W.nsIn K mainGlobals "len" = some none) (z_range : PySem.W.nsIn K mainGlobals "range" = some none) (z_repr : PySem.W.nsIn K mainGlobals "repr" = some none) (z_str : PySem.W.nsIn K mainGlobals "str" = some none) (z_tuple : PySem.W.nsIn K mainGlobals "tuple" = some none) :
 LawM l.prog w K mg 6 63 fa "_law_script" ts := by
  have e := hfa.symm.trans (PySem.W.mg_of X G n_law_)
  cases e
  letI : Ev.TabC := ⟨[], fun _ => none, fun _ => 0⟩
  have kt_INPUTS : GD K w mg "INPUTS" kc_INPUTS := ⟨_, e_INPUTS, n_INPUTS, [.str "s" t_INPUTS_1, .str "u" t_INPUTS_2, .str "u" t_INPUTS_3, .str "o" t_INPUTS_4], [.str "s", .str "u", .str "u", .str "o"], PySem.W.mg_of X G g_INPUTS, ⟨l_INPUTS, d_INPUTS, o_INPUTS⟩, p_INPUTS, rfl, (.cons ⟨_, rfl⟩ (.cons ⟨_, rfl⟩ (.cons ⟨_, rfl⟩ (.cons ⟨_, rfl⟩ .nil)))), fun _ => (.cons (.str "s") (.cons (.str "u") (.cons (.str "u") (.cons (.str "o") .nil))))⟩
  have kt_TRUTHS : GB K mg "TRUTHS" kc_TRUTHS := ⟨_, e_TRUTHS, n_TRUTHS, [.str "yes" t_TRUTHS_1, .str "no" t_TRUTHS_2], [.str "yes", .str "no"], PySem.W.mg_of X G g_TRUTHS, l_TRUTHS, p_TRUTHS, rfl, (.cons ⟨_, rfl⟩ (.cons ⟨_, rfl⟩ .nil)), fun _ => (.cons (.str "yes") (.cons (.str "no") .nil))⟩
  have m_abs := PySem.W.mg_none_of X G z_abs
  have m_bool := PySem.W.mg_none_of X G z_bool
  have m_int := PySem.W.mg_none_of X G z_int
  have m_isinstance := PySem.W.mg_none_of X G z_isinstance
  have m_len := PySem.W.mg_none_of X G z_len
  have m_range := PySem.W.mg_none_of X G z_range
  have m_repr := PySem.W.mg_none_of X G z_repr
  have m_str := PySem.W.mg_none_of X G z_str
  have m_tuple := PySem.W.mg_none_of X G z_tuple
  have F__law_pen := fun_mk (st := s__law_pen) l__law_pen c__law_pen k__law_pen
  have F__law_draw := fun_mk (st := s__law_draw) l__law_draw c__law_draw k__law_draw
  have F__law_pick := fun_mk (st := s__law_pick) l__law_pick c__law_pick k__law_pick
  have F__law_input := fun_mk (st := s__law_input) l__law_input c__law_input k__law_input
  have F__law_room := fun_mk (st := s__law_room) l__law_room c__law_room k__law_room
  have F__law_kinds := fun_mk (st := s__law_kinds) l__law_kinds c__law_kinds k__law_kinds
  have F__law_off := fun_mk (st := s__law_off) l__law_off c__law_off k__law_off
  have F__law_ask := fun_mk (st := s__law_ask) l__law_ask c__law_ask k__law_ask
  have F__law_log := fun_mk (st := s__law_log) l__law_log c__law_log k__law_log
  have F__law_ended := fun_mk (st := s__law_ended) l__law_ended c__law_ended k__law_ended
  have F_show_list := fun_mk (st := s_show_list) l_show_list c_show_list k_show_list
  have F_show_piece := fun_mk (st := s_show_piece) l_show_piece c_show_piece k_show_piece
  have F_show_row := fun_mk (st := s_show_row) l_show_row c_show_row k_show_row
  have F_show_log := fun_mk (st := s_show_log) l_show_log c_show_log k_show_log
  have F__law_piece := fun_mk (st := s__law_piece) l__law_piece c__law_piece k__law_piece
  have F__law_line := fun_mk (st := s__law_line) l__law_line c__law_line k__law_line
  have F_law := fun_mk (st := s_law) l_law c_law k_law
  refine ⟨[], PySem.W.fnOf "law" "law" (defArgs s_law) (defBody s_law) (defScope s_law) .none kV_law dc_law pm_law an_law cd_law ct_law, spD K 1 sp_law, fun _ h => (nomatch h), fun _ h => (nomatch h), fun s v => .of_eq rfl, fun H a ns hl hT hS => law_sp (fun ns hn => ⟨ns, rfl, hn, rfl, fun _ => rfl⟩) hl hS (fun _ h => (nomatch h)), fun base _ _ TBs => ?_⟩
  have G__law_pen : FnG l.prog w K mg base CX0 1 a__law_pen _ ["_law_script"] (spD K 1 sp__law_pen) := ok__law_pen  F__law_pen
  have K__law_pen_1 : Def l.prog w K mg base 1 "_law_pen" 1 sp__law_pen [] := ⟨["_law_script"], a__law_pen, _, [], [], G__law_pen, PySem.W.mg_of X G n__law_pen_, k__law_pen, F__law_pen.binds (ps := ["_law_script"]) (fun _ _ _ _ _ _ us hl => match us, hl with | [_], _ => rfl), .nil, fun _ => .nil⟩
  have G__law_draw : FnG l.prog w K mg base CX0 1 a__law_draw _ ["_law_pen_here", "_law_many"] (spD K 2 sp__law_draw) := ok__law_draw m_abs m_len F__law_draw
  have K__law_draw_2 : Def l.prog w K mg base 1 "_law_draw" 2 sp__law_draw [] := ⟨["_law_pen_here", "_law_many"], a__law_draw, _, [], [], G__law_draw, PySem.W.mg_of X G n__law_draw_, k__law_draw, F__law_draw.binds (ps := ["_law_pen_here", "_law_many"]) (fun _ _ _ _ _ _ us hl => match us, hl with | [_, _], _ => rfl), .nil, fun _ => .nil⟩
  have G__law_pick : FnG l.prog w K mg base CX0 2 a__law_pick _ ["_law_pen_here", "_law_some"] (spD K 2 sp__law_pick) := ok__law_pick m_len K__law_draw_2 F__law_pick
  have K__law_pick_2 : Def l.prog w K mg base 2 "_law_pick" 2 sp__law_pick [] := ⟨["_law_pen_here", "_law_some"], a__law_pick, _, [], [], G__law_pick, PySem.W.mg_of X G n__law_pick_, k__law_pick, F__law_pick.binds (ps := ["_law_pen_here", "_law_some"]) (fun _ _ _ _ _ _ us hl => match us, hl with | [_, _], _ => rfl), .nil, fun _ => .nil⟩
  have G__law_input : FnG l.prog w K mg base CX0 3 a__law_input _ ["_law_pen_here"] (spD K 1 sp__law_input) := ok__law_input m_range K__law_draw_2 K__law_pick_2 F__law_input
  have K__law_input_1 : Def l.prog w K mg base 3 "_law_input" 1 sp__law_input [] := ⟨["_law_pen_here"], a__law_input, _, [], [], G__law_input, PySem.W.mg_of X G n__law_input_, k__law_input, F__law_input.binds (ps := ["_law_pen_here"]) (fun _ _ _ _ _ _ us hl => match us, hl with | [_], _ => rfl), .nil, fun _ => .nil⟩
  have G__law_room : FnG l.prog w K mg base CX0 3 a__law_room _ ["_law_pen_here"] (spD K 1 sp__law_room) := ok__law_room K__law_draw_2 K__law_pick_2 F__law_room
  have K__law_room_1 : Def l.prog w K mg base 3 "_law_room" 1 sp__law_room [] := ⟨["_law_pen_here"], a__law_room, _, [], [], G__law_room, PySem.W.mg_of X G n__law_room_, k__law_room, F__law_room.binds (ps := ["_law_pen_here"]) (fun _ _ _ _ _ _ us hl => match us, hl with | [_], _ => rfl), .nil, fun _ => .nil⟩
  have G__law_kinds : FnG l.prog w K mg base CX0 3 a__law_kinds _ ["_law_pen_here"] (spD K 1 sp__law_kinds) := ok__law_kinds m_tuple K__law_draw_2 K__law_pick_2 F__law_kinds
  have K__law_kinds_1 : Def l.prog w K mg base 3 "_law_kinds" 1 sp__law_kinds [] := ⟨["_law_pen_here"], a__law_kinds, _, [], [], G__law_kinds, PySem.W.mg_of X G n__law_kinds_, k__law_kinds, F__law_kinds.binds (ps := ["_law_pen_here"]) (fun _ _ _ _ _ _ us hl => match us, hl with | [_], _ => rfl), .nil, fun _ => .nil⟩
  have G__law_off : FnG l.prog w K mg base CX0 3 a__law_off _ ["_law_pen_here"] (spD K 1 sp__law_off) := ok__law_off K__law_draw_2 K__law_pick_2 F__law_off
  have K__law_off_1 : Def l.prog w K mg base 3 "_law_off" 1 sp__law_off [] := ⟨["_law_pen_here"], a__law_off, _, [], [], G__law_off, PySem.W.mg_of X G n__law_off_, k__law_off, F__law_off.binds (ps := ["_law_pen_here"]) (fun _ _ _ _ _ _ us hl => match us, hl with | [_], _ => rfl), .nil, fun _ => .nil⟩
  have G__law_ask : FnG l.prog w K mg base CX0 4 a__law_ask _ ["_law_pen_here"] (spD K 1 sp__law_ask) := ok__law_ask m_tuple K__law_draw_2 K__law_kinds_1 K__law_off_1 K__law_pick_2 K__law_room_1 F__law_ask
  have K__law_ask_1 : Def l.prog w K mg base 4 "_law_ask" 1 sp__law_ask [] := ⟨["_law_pen_here"], a__law_ask, _, [], [], G__law_ask, PySem.W.mg_of X G n__law_ask_, k__law_ask, F__law_ask.binds (ps := ["_law_pen_here"]) (fun _ _ _ _ _ _ us hl => match us, hl with | [_], _ => rfl), .nil, fun _ => .nil⟩
  have G__law_log : FnG l.prog w K mg base CX0 5 a__law_log _ ["_law_pen_here", "_law_most"] (spD K 2 sp__law_log) := ok__law_log m_range m_tuple K__law_ask_1 K__law_draw_2 K__law_input_1 K__law_pick_2 F__law_log
  have K__law_log_2 : Def l.prog w K mg base 5 "_law_log" 2 sp__law_log [] := ⟨["_law_pen_here", "_law_most"], a__law_log, _, [], [], G__law_log, PySem.W.mg_of X G n__law_log_, k__law_log, F__law_log.binds (ps := ["_law_pen_here", "_law_most"]) (fun _ _ _ _ _ _ us hl => match us, hl with | [_, _], _ => rfl), .nil, fun _ => .nil⟩
  have G__law_ended : FnG l.prog w K mg base CX0 1 a__law_ended _ ["_law_lines_so"] (spD K 1 sp__law_ended) := ok__law_ended  F__law_ended
  have K__law_ended_1 : Def l.prog w K mg base 1 "_law_ended" 1 sp__law_ended [] := ⟨["_law_lines_so"], a__law_ended, _, [], [], G__law_ended, PySem.W.mg_of X G n__law_ended_, k__law_ended, F__law_ended.binds (ps := ["_law_lines_so"]) (fun _ _ _ _ _ _ us hl => match us, hl with | [_], _ => rfl), .nil, fun _ => .nil⟩
  have G_show_list : FnG l.prog w K mg base CX0 1 a_show_list _ ["things"] (spD K 1 sp_show_list) := ok_show_list m_str F_show_list
  have K_show_list_1 : Def l.prog w K mg base 1 "show_list" 1 sp_show_list [] := ⟨["things"], a_show_list, _, [], [], G_show_list, PySem.W.mg_of X G n_show_list_, k_show_list, F_show_list.binds (ps := ["things"]) (fun _ _ _ _ _ _ us hl => match us, hl with | [_], _ => rfl), .nil, fun _ => .nil⟩
  have G_show_piece : FnG l.prog w K mg base CX0 2 a_show_piece _ ["thing"] (spD K 1 sp_show_piece) := ok_show_piece kt_TRUTHS m_bool m_isinstance m_str m_tuple K_show_list_1 F_show_piece
  have K_show_piece_1 : Def l.prog w K mg base 2 "show_piece" 1 sp_show_piece [] := ⟨["thing"], a_show_piece, _, [], [], G_show_piece, PySem.W.mg_of X G n_show_piece_, k_show_piece, F_show_piece.binds (ps := ["thing"]) (fun _ _ _ _ _ _ us hl => match us, hl with | [_], _ => rfl), .nil, fun _ => .nil⟩
  have G_show_row : FnG l.prog w K mg base CX0 3 a_show_row _ ["row"] (spD K 1 sp_show_row) := ok_show_row kt_INPUTS m_str K_show_piece_1 F_show_row
  have K_show_row_1 : Def l.prog w K mg base 3 "show_row" 1 sp_show_row [] := ⟨["row"], a_show_row, _, [], [], G_show_row, PySem.W.mg_of X G n_show_row_, k_show_row, F_show_row.binds (ps := ["row"]) (fun _ _ _ _ _ _ us hl => match us, hl with | [_], _ => rfl), .nil, fun _ => .nil⟩
  have G_show_log : FnG l.prog w K mg base CX0 4 a_show_log _ ["log"] (spD K 1 sp_show_log) := ok_show_log K_show_row_1 F_show_log
  have K_show_log_1 : Def l.prog w K mg base 4 "show_log" 1 sp_show_log [] := ⟨["log"], a_show_log, _, [], [], G_show_log, PySem.W.mg_of X G n_show_log_, k_show_log, F_show_log.binds (ps := ["log"]) (fun _ _ _ _ _ _ us hl => match us, hl with | [_], _ => rfl), .nil, fun _ => .nil⟩
  have K_show_log_0_log : DefK l.prog w K mg base 4 "show_log" 1 sp_show_log 0 1 ["log"] [0] [] := ⟨["log"], a_show_log, _, [], [], G_show_log, PySem.W.mg_of X G n_show_log_, k_show_log, kbinds_of .nil (by decide) (fun s us ws _ h1 h2 => match us, ws, h1, h2 with | [], [v0], _, _ => .of_eq rfl), fun _ => .nil⟩
  have G__law_piece : FnG l.prog w K mg base CX0 1 a__law_piece _ ["_law_part"] (spD K 1 sp__law_piece) := ok__law_piece m_bool m_int m_isinstance m_str m_tuple F__law_piece
  have K__law_piece_1 : Def l.prog w K mg base 1 "_law_piece" 1 sp__law_piece [] := ⟨["_law_part"], a__law_piece, _, [], [], G__law_piece, PySem.W.mg_of X G n__law_piece_, k__law_piece, F__law_piece.binds (ps := ["_law_part"]) (fun _ _ _ _ _ _ us hl => match us, hl with | [_], _ => rfl), .nil, fun _ => .nil⟩
  have G__law_line : FnG l.prog w K mg base CX0 2 a__law_line _ ["_law_row"] (spD K 1 sp__law_line) := ok__law_line m_int m_isinstance m_str K__law_piece_1 F__law_line
  have K__law_line_1 : Def l.prog w K mg base 2 "_law_line" 1 sp__law_line [] := ⟨["_law_row"], a__law_line, _, [], [], G__law_line, PySem.W.mg_of X G n__law_line_, k__law_line, F__law_line.binds (ps := ["_law_row"]) (fun _ _ _ _ _ _ us hl => match us, hl with | [_], _ => rfl), .nil, fun _ => .nil⟩
  exact ok_law m_range m_repr K__law_ended_1 K__law_line_1 K__law_log_2 K__law_pen_1 K__law_pick_2 K_show_log_1 K_show_log_0_log F_law

end Ev83
open PySem PySem.W PyProof.Rows
set_option maxHeartbeats 0 in
theorem PySem.Challenge.cw_eventrooms_k83_logs_written_holds : PySem.Challenge.rw_eventrooms_k83_logs_written.Holds := by
  w_on; o_law; k_head; (case hw => w_witness2)
  k_fill
  refine Ev.walk_gM (l := PySem.Challenge.rw_eventrooms_k83_logs_written) (n := 63) (k := 6) (x := "_law_script") rfl (by decide) rfl ⟨rfl, by decide, by decide⟩ (ts := []) (fun w h Y => PySem.W.kIn_of Y) (fun _ _ _ _ h => (nomatch h)) ?F
  case F =>
    intro w mg fa h KX G hmg
    refine' Ev83.all_mk KX G hmg ?n__law_pen_ ?l__law_pen ?c__law_pen ?k__law_pen ?n__law_draw_ ?l__law_draw ?c__law_draw ?k__law_draw ?n__law_pick_ ?l__law_pick ?c__law_pick ?k__law_pick ?n__law_input_ ?l__law_input ?c__law_input ?k__law_input ?n__law_room_ ?l__law_room ?c__law_room ?k__law_room ?n__law_kinds_ ?l__law_kinds ?c__law_kinds ?k__law_kinds ?n__law_off_ ?l__law_off ?c__law_off ?k__law_off ?n__law_ask_ ?l__law_ask ?c__law_ask ?k__law_ask ?n__law_log_ ?l__law_log ?c__law_log ?k__law_log ?n__law_ended_ ?l__law_ended ?c__law_ended ?k__law_ended ?n_show_list_ ?l_show_list ?c_show_list ?k_show_list ?n_show_piece_ ?l_show_piece ?c_show_piece ?k_show_piece ?n_show_row_ ?l_show_row ?c_show_row ?k_show_row ?n_show_log_ ?l_show_log ?c_show_log ?k_show_log ?n__law_piece_ ?l__law_piece ?c__law_piece ?k__law_piece ?n__law_line_ ?l__law_line ?c__law_line ?k__law_line ?n_law_ ?l_law ?c_law ?k_law ?g_INPUTS ?l_INPUTS ?d_INPUTS ?o_INPUTS ?p_INPUTS ?g_TRUTHS ?l_TRUTHS ?p_TRUTHS ?z_abs ?z_bool ?z_int ?z_isinstance ?z_len ?z_range ?z_repr ?z_str ?z_tuple
    (case n__law_pen_ => k_is); (case l__law_pen => k_is); (case c__law_pen => k_is); (case k__law_pen => k_is); (case n__law_draw_ => k_is); (case l__law_draw => k_is)
    (case c__law_draw => k_is); (case k__law_draw => k_is); (case n__law_pick_ => k_is); (case l__law_pick => k_is); (case c__law_pick => k_is); (case k__law_pick => k_is)
    (case n__law_input_ => k_is); (case l__law_input => k_is); (case c__law_input => k_is); (case k__law_input => k_is); (case n__law_room_ => k_is); (case l__law_room => k_is)
    (case c__law_room => k_is); (case k__law_room => k_is); (case n__law_kinds_ => k_is); (case l__law_kinds => k_is); (case c__law_kinds => k_is); (case k__law_kinds => k_is)
    (case n__law_off_ => k_is); (case l__law_off => k_is); (case c__law_off => k_is); (case k__law_off => k_is); (case n__law_ask_ => k_is); (case l__law_ask => k_is)
    (case c__law_ask => k_is); (case k__law_ask => k_is); (case n__law_log_ => k_is); (case l__law_log => k_is); (case c__law_log => k_is); (case k__law_log => k_is)
    (case n__law_ended_ => k_is); (case l__law_ended => k_is); (case c__law_ended => k_is); (case k__law_ended => k_is); (case n_show_list_ => k_is); (case l_show_list => k_is)
    (case c_show_list => k_is); (case k_show_list => k_is); (case n_show_piece_ => k_is); (case l_show_piece => k_is); (case c_show_piece => k_is); (case k_show_piece => k_is)
    (case n_show_row_ => k_is); (case l_show_row => k_is); (case c_show_row => k_is); (case k_show_row => k_is); (case n_show_log_ => k_is); (case l_show_log => k_is)
    (case c_show_log => k_is); (case k_show_log => k_is); (case n__law_piece_ => k_is); (case l__law_piece => k_is); (case c__law_piece => k_is); (case k__law_piece => k_is)
    (case n__law_line_ => k_is); (case l__law_line => k_is); (case c__law_line => k_is); (case k__law_line => k_is); (case n_law_ => k_is); (case l_law => k_is)
    (case c_law => k_is); (case k_law => k_is); (case g_INPUTS => k_is); (case l_INPUTS => k_is); (case d_INPUTS => k_keys); (case o_INPUTS => rfl)
    (case p_INPUTS => exact (.cons ⟨⟨_, rfl⟩, rfl⟩ (.cons ⟨⟨_, rfl⟩, rfl⟩ (.cons ⟨⟨_, rfl⟩, rfl⟩ (.cons ⟨⟨_, rfl⟩, rfl⟩ .nil))))); (case g_TRUTHS => k_is); (case l_TRUTHS => k_is); (case p_TRUTHS => exact (.cons ⟨rfl, by decide +kernel, rfl⟩ (.cons ⟨rfl, by decide +kernel, rfl⟩ .nil))); (case z_abs => k_is); (case z_bool => k_is)
    (case z_int => k_is); (case z_isinstance => k_is); (case z_len => k_is); (case z_range => k_is); (case z_repr => k_is); (case z_str => k_is)
    (case z_tuple => k_is)
