import PyProof.Rows.All
import HandS.NoneIn
import HandS.Iter
import HandS.Lambda
import Wide.All
import OpenK.AllK
import Wide.FinOn
import HandS.ForMost
import HandS.TupAny
import HandS.Deep
import HandS.IsInst
import HandS.Walk
import HandS.CallSlots
import HandS.Exc
import HandS.RaiseMore
import HandS.Wide
import HandS.FStr
import KE.SortData
import HandS.Conv
import HandS.Style
import HandS.Rev
import HandS.Zip
import HandS.SortKw
import HandS.Defaults
import KE.KUnpackStar
import HandS.DictComp
import HandS.EndTab
import HandS.TryOnly
import KE.KNestM
import PyProof.EqAt
import HandS.SetKeys
import HandS.TupLen
import HandS.TupLe
import KE.KDictDisplayH
import KE.KEqDict
import KE.KDictZip
import HandS.ListItems
import PyProof.ListNew
import HandS.More
import KE.KDictCopyH
import KE.GoesEnumKw
import HandS.TupMul
import KE.KDictPairs
import HandS.Flow
import HandS.SetFor
import PyProof.Rows.IntBool
import HandS.ExcInit
import HandS.ExcOwn
import PyProof.ExcFactsAll.LookupError
import PyProof.ExcBaseAll.LookupError
import PyProof.Rows.FactsExc_KeyError
import HandS.TryMany
import HandS.ExcIs
import KE.KTryMore
import HandS.Words
import HandS.ExcField
import KE.KExcIs
import PySem.Challenge.RW_eventrooms_k07_books_known
set_option Elab.async false
set_option linter.all false
set_option maxRecDepth 100000
set_option maxHeartbeats 4000000
namespace Ev
open PySem PySem.Spec PyProof.Rows L2
abbrev NK := Option Int
def nkE : NK → Option Key := Option.map Sum.inl
theorem nkE_inj {a b : NK} (h : nkE a = nkE b) : a = b := by
  cases a with
  | none => cases b with
    | none => rfl
    | some j => cases h
  | some i => cases b with
    | none => cases h
    | some j => cases h; rfl
def nik (P : Program) (w : World) : PySem.KeyKind P w NK where
  is := fun k v => nkIs (nkE k) v
  hash := fun k => match k with
    | none => reduceHash 0xFCA86420
    | some i => hashInt i
  inj := fun v a b ha hb => nkE_inj ((noneKind P w).inj v _ _ ha hb)
  byValue := fun k v h => (noneKind P w).byValue (nkE k) v h
  pyHash := @fun A E s k v Q hv h => (noneKind P w).pyHash (k := nkE k) hv (by cases k <;> exact h)
  eqBool := @fun A E s a b u v Q hu hv h => (noneKind P w).eqBool (a := nkE a) (b := nkE b) hu hv (by
    have e : decide (nkE a = nkE b) = decide (a = b) := by
      by_cases c : a = b
      · rw [decide_eq_true c, c]; exact decide_eq_true rfl
      · rw [decide_eq_false c, decide_eq_false fun z => c (nkE_inj z)]
    rw [e]; exact h)
  «strs» := fun k x t v h => (noneKind P w).«strs» (nkE k) x t v h
def kN : NK → V
  | none => .non
  | some i => .int i
/-- a dict whose keys are numbers or None -/
def NoD (a : Addr) (kvs : List (NK × V)) : HO := .ext fun h => (a == sysModules) = false ∧ kvs.length ≤ sizeLine ∧ (∃ vs, KV kvs vs ∧ ∀ P w, h.DictOf (nik P w) a vs) ∧ ∃ o es ep, h.get? a = some o ∧ o.data = .dict es ep
section
variable {P : Program} {w : World} {H : Hp} {h : Heap} {a : Addr} {kvs : List (NK × V)}
theorem nod_code {c : Addr} {q : Str} : NoD a kvs ≠ LamX.CodeO c q := fun e => by
  have e' := HO.ext.inj e
  let oc : Obj := { cls := .none, data := .fields #[.none, .str q 0] }
  let hp : Heap := { objs := Array.replicate (c + 1) oc }
  have hc : hp.get? c = some oc := by
    have : hp.objs[c]? = some oc := by simp [hp]
    unfold Heap.get?
    rw [this]
  have g := (congrFun e' hp).mpr ⟨oc, _, 0, hc, rfl, rfl⟩
  obtain ⟨_, _, _, o, es, ep, h1, h3⟩ := g
  have : hp.objs[a]? = some oc ∨ hp.objs[a]? = none := by
    by_cases l : a < c + 1
    · exact .inl (by simp [hp, l])
    · exact .inr (Array.getElem?_eq_none (by show (Array.replicate (c + 1) oc).size ≤ a; rw [Array.size_replicate]; exact Nat.not_lt.mp l))
  unfold Heap.get? at h1
  rcases this with z | z
  · rw [z] at h1; cases h1; cases h3
  · rw [z] at h1; cases h1
end
end Ev
namespace Ev
open PySem PySem.Spec PyProof.Rows L2
inductive D where
  | non | bl (b : Bool) | int (i : Int) | str (x : Str)
  | tup (xs : List D) | lst (xs : List D)
  | dK (kvs : List (Key × D)) | dT (kvs : List (List Key × D))
  /-- .. locked: no one writes them any more, so that they can be walked -/
  | fK (kvs : List (Key × D)) | fT (kvs : List (List Key × D))
  | raw (v : V)
  | scr (ns : List Int)
  /-- a lambda, by its number, and what it captured -/
  | fn (k : Nat) (cs : List D)
  /-- a tuple of the module -/
  | kt (xs : List D)
  /-- a dict whose keys are numbers or None, that nobody changes any more -/
  | fN (kvs : List (NK × D))
  /-- an exception that was caught: its class by its number, its one field; one without a field -/
  | exc (c : Nat) (f : Str) (d : D) | exc0 (c : Nat)
/-- a lambda as it is written; caps: the names that it captures -/
structure Lam where
  params : Arguments
  body : Expr
  scope : Scope
  qual : Str
  caps : List Str
/-- what stands at an address is this object -/
def PinO (o : Obj) (a : Addr) : HO := .ext fun h => h.get? a = some o
/-- the tables of code objects of the defs that make lambdas, each with the lambdas' name: the same through a whole law -/
class TabC where
  tab : List (Addr × Str)
  lam : Nat → Option Lam
  /-- where the defs lie that are handed about -/
  ad : Nat → Addr
  /-- the classes of exceptions, by number -/
  xc : Nat → Value
  /-- the pen is a dict -/
  pk : Bool
variable [TabC]
/-- all that was known is known still -/
def Ex (H H' : Hp) : Prop := ∀ a o, H a = some o → H' a = some o
theorem Ex.refl (H : Hp) : Ex H H := fun _ _ h => h
theorem Ex.trans {H H1 H2 : Hp} (a : Ex H H1) (b : Ex H1 H2) : Ex H H2 := fun x o h => b x o (a x o h)
theorem Ex.new {H : Hp} {p : Addr} {o : HO} (h : H p = none) : Ex H (upd H p o) := fun a u e => by
  rw [upd_ne (ne_of_none e h)]
  exact e
theorem Ex.rd {H H' : Hp} {a : Addr} {u : HO} (e : Ex H H') (h : Rd H a u) : Rd H' a u := by
  rcases h with h | ⟨o, h⟩
  · exact Or.inl (e a _ h)
  · exact Or.inr ⟨o, e a _ h⟩
theorem Ex.sqT {K : PySem.W.Frag} {H H' : Hp} {a : Addr} {xs : List V} (e : Ex H H') (h : SqT K H a xs) : SqT K H' a xs := by
  rcases h with h | h
  · exact Or.inl (e.rd h)
  · exact Or.inr h
theorem Ex.sqL {K : PySem.W.Frag} {H H' : Hp} {a : Addr} {xs : List V} (e : Ex H H') (h : SqL K H a xs) : SqL K H' a xs := by
  rcases h with h | h
  · exact Or.inl (e.rd h)
  · exact Or.inr h
theorem Ex.none {H H' : Hp} {a : Addr} (e : Ex H H') (h : H' a = Option.none) : H a = Option.none := by
  cases q : H a with
  | none => rfl
  | some o => rw [e a o q] at h; cases h
/-- every tuple that is known is frozen -/
def TupIn (S H : Hp) : Prop := ∀ b vs, H b = some (.tup vs) → S b = some (.tup vs)
def HO.plain : HO → Bool
  | .tbl _ => false
  | .ext _ => false
  | _ => true
def NT (o : HO) : Prop := ∀ ps, o ≠ .tbl ps
theorem nt_plain {o : HO} (h : HO.plain o = true) : NT o := fun ps e => by subst e; cases h
/-- what may stand at an address of one's own: no table, nothing that a table tells -/
def HO.own (o : HO) : Prop := NT o ∧ ∀ c q, o ≠ LamX.CodeO c q
theorem own_plain {o : HO} (h : HO.plain o = true) : HO.own o := ⟨nt_plain h, fun c q e => by subst e; cases h⟩
theorem own_nod {a : Addr} {kvs : List (NK × V)} : HO.own (NoD a kvs) := ⟨(fun _ z => nomatch z), fun _ _ => nod_code⟩
/-- the tables are known, not frozen, and tell code objects that are known -/
def TbOk (S H : Hp) : Prop := ∀ p ∈ TabC.tab, S p.1 = none ∧ LamX.TabS H p.1 p.2
/-- all but one address stays, where nothing of the tables stood -/
theorem TbOk.at_ {S H S' H' : Hp} (t : TbOk S H) (p : Addr) (h : ∀ b o, b ≠ p → H b = some o → H' b = some o) (hp : ∀ o, H p = some o → HO.own o) (hS : ∀ b, b ≠ p → S b = none → S' b = none) : TbOk S' H' := fun q hq => by
  obtain ⟨h1, ps, h2, h3, h4⟩ := t q hq
  have ne : q.1 ≠ p := fun z => (hp _ (z ▸ h2)).1 _ rfl
  refine ⟨hS _ ne h1, ps, h _ _ ne h2, h3, fun pos cv hc => ?_⟩
  obtain ⟨c, e1, e2⟩ := h4 pos cv hc
  exact ⟨c, e1, h _ _ (fun z => (hp _ (z ▸ e2)).2 _ _ rfl) e2⟩
/-- what is frozen is known, the tuples among it -/
structure Sb (S H : Hp) : Prop where
  ex : Ex S H
  tp : TupIn S H
  tb : TbOk S H
/-- all but the tables -/
def noT (H : Hp) : Hp := fun b => match H b with | some (.tbl _) => none | o => o
theorem noT_pl {H : Hp} {b : Addr} {o : HO} (h : H b = some o) (n : NT o) : noT H b = some o := by
  unfold noT; rw [h]
  cases o with
  | tbl ps => exact absurd rfl (n ps)
  | _ => rfl
theorem noT_ex {H : Hp} : Ex (noT H) H := fun b o h => by
  unfold noT at h
  cases q : H b with
  | none => rw [q] at h; cases h
  | some u =>
    rw [q] at h
    cases u <;> first | exact h | cases h
theorem Sb.start {H : Hp} (h : ∀ p ∈ TabC.tab, H p.1 = some (.tbl #[])) : Sb (noT H) H := ⟨noT_ex, fun b vs e => noT_pl e fun _ z => (nomatch z), fun p hp => by
  refine ⟨?_, LamX.TabS.nil (h p hp)⟩
  unfold noT; rw [h p hp]⟩
/-- a heap that grows: tables may become longer -/
structure Ext (H H' : Hp) : Prop where
  h : ∀ a o, H a = some o → NT o → H' a = some o
  t : ∀ a ps, H a = some (.tbl ps) → ∃ qs, H' a = some (.tbl qs)
theorem Ext.refl (H : Hp) : Ext H H := ⟨fun _ _ h _ => h, fun _ ps h => ⟨ps, h⟩⟩
theorem Ext.trans {H H1 H2 : Hp} (a : Ext H H1) (b : Ext H1 H2) : Ext H H2 := ⟨fun x o h n => b.h x o (a.h x o h n) n, fun x ps h => by
  obtain ⟨qs, e⟩ := a.t x ps h
  exact b.t x qs e⟩
theorem Ext.of {H H' : Hp} (a : Ex H H') : Ext H H' := ⟨fun x o h _ => a x o h, fun x ps h => ⟨ps, a x _ h⟩⟩
theorem Ext.there {H H' : Hp} (e : Ext H H') {a : Addr} {o : HO} (h : H a = some o) : ∃ o', H' a = some o' := by
  cases o with
  | tbl ps => obtain ⟨qs, q⟩ := e.t a ps h; exact ⟨_, q⟩
  | ext φ => exact ⟨_, e.h a _ h fun _ z => nomatch z⟩
  | _ => exact ⟨_, e.h a _ h (nt_plain rfl)⟩
theorem Ext.pl {H H' : Hp} (e : Ext H H') {a : Addr} {o : HO} (h : H a = some o) (p : HO.plain o = true := by rfl) : H' a = some o := e.h a o h (nt_plain p)
instance {S H : Hp} : CoeFun (Sb S H) fun _ => ∀ a o, S a = some o → H a = some o := ⟨fun e => e.ex⟩
instance {S H : Hp} : Coe (Sb S H) (Ex S H) := ⟨fun e => e.ex⟩
theorem Sb.sqT {K : PySem.W.Frag} {H H' : Hp} {a : Addr} {xs : List V} (e : Sb H H') (h : SqT K H a xs) : SqT K H' a xs := e.ex.sqT h
theorem Sb.sqL {K : PySem.W.Frag} {H H' : Hp} {a : Addr} {xs : List V} (e : Sb H H') (h : SqL K H a xs) : SqL K H' a xs := e.ex.sqL h
theorem Sb.rd {H H' : Hp} {a : Addr} {u : HO} (e : Sb H H') (h : Rd H a u) : Rd H' a u := e.ex.rd h
theorem Sb.none {H H' : Hp} {a : Addr} (e : Sb H H') (h : H' a = Option.none) : H a = Option.none := e.ex.none h
/-- only the heap grows, by no tuple -/
theorem Sb.one {S H : Hp} (e : Sb S H) {p : Addr} {o : HO} (hp : H p = Option.none) (ho : ∀ vs, o ≠ .tup vs) : Sb S (upd H p o) := by
  refine ⟨fun a u h => Ex.new hp a u (e a u h), fun b vs h => ?_, e.tb.at_ p (fun b u n h => by rw [upd_ne n]; exact h) (fun u z => by rw [hp] at z; cases z) fun _ _ z => z⟩
  by_cases q : b = p
  · subst q; rw [upd_same] at h; exact absurd (Option.some.inj h) (ho vs)
  · rw [upd_ne q] at h; exact e.tp b vs h
/-- the cells at cs hold the values vs -/
def CellsAt (S : Hp) (cs : List Addr) (vs : List V) : Prop := Paired (fun c v => ∃ o u, S c = some (PinO o c) ∧ o.data = .cell (some u) ∧ RelV v u) cs vs
theorem CellsAt.mono {S S' : Hp} (e : Ex S S') {cs : List Addr} {vs : List V} (h : CellsAt S cs vs) : CellsAt S' cs vs := Paired.mapP h fun c v ⟨o, u, h1, h2⟩ => ⟨o, u, e _ _ h1, h2⟩
/-- a tuple that stands in the module -/
def KTup (K : PySem.W.Frag) (a : Addr) (vs : List V) : Prop := ∃ (o : Obj) (its : Array Value) (n : Nat), K.lookup a = some o ∧ o.cls = .type "tuple" ∧ o.data = .seq its n ∧ its.size ≤ sizeLine ∧ Vals vs its.toList
theorem KTup.sqT {K : PySem.W.Frag} {H : Hp} {a : Addr} {vs : List V} (h : KTup K a vs) : SqT K H a vs := .inr h
/-- a tuple that is known to have no dict of its own: one of the module, or one of which the object is known -/
def TupN (K : PySem.W.Frag) (S : Hp) (a : Addr) (vs : List V) : Prop := (KTup K a vs ∧ ∃ o, K.lookup a = some o ∧ o.dict = none) ∨ ∃ o : Obj, o.dict = none ∧ S a = some (.frz o (.tup vs))
theorem TupN.mono {K : PySem.W.Frag} {S S' : Hp} {a : Addr} {vs : List V} (e : Ex S S') (h : TupN K S a vs) : TupN K S' a vs := by
  rcases h with h | ⟨o, h1, h2⟩
  · exact .inl h
  · exact .inr ⟨o, h1, e _ _ h2⟩
theorem TupN.sqT {K : PySem.W.Frag} {S H : Hp} {a : Addr} {vs : List V} (h : TupN K S a vs) (e : Ex S H) : SqT K H a vs := by
  rcases h with h | ⟨o, _, h⟩
  · exact h.1.sqT
  · exact .inl (.inr ⟨o, e _ _ h⟩)
/-- at a stands an exception of the class cls, its own dict at od -/
def ExV (a : Addr) (cls : Value) (od : Option Addr) : HO := .ext fun h => ∃ oe vs, h.get? a = some oe ∧ oe.cls = cls ∧ oe.dict = od ∧ oe.data = .fields vs
mutual
/-- the value v bears the data d, by what is frozen in S -/
inductive Dn (K : PySem.W.Frag) (S : Hp) : V → D → Prop
  | non : Dn K S .non .non
  | bl (b : Bool) : Dn K S (.bl b) (.bl b)
  | int (i : Int) : Dn K S (.int i) (.int i)
  | str (x : Str) : Dn K S (.str x) (.str x)
  | raw (v : V) : Dn K S v (.raw v)
  | scr {a : Addr} {ns : List Int} : SqL K S a (ns.map V.int) → Dn K S (.ref a) (.scr ns)
  | tup {a : Addr} {vs : List V} {ds : List D} : S a = some (.tup vs) → DnA K S vs ds → Dn K S (.ref a) (.tup ds)
  | lst {a : Addr} {vs : List V} {ds : List D} : S a = some (.lst vs) → DnA K S vs ds → Dn K S (.ref a) (.lst ds)
  | dK {a : Addr} {kvs : List (Key × V)} {es : List (Key × D)} : S a = some (.dK kvs) → kvs.map (·.1) = es.map (·.1) → DnA K S (kvs.map (·.2)) (es.map (·.2)) → Dn K S (.ref a) (.dK es)
  | dT {a : Addr} {kvs : List (List Key × V)} {es : List (List Key × D)} : S a = some (.dT kvs) → kvs.map (·.1) = es.map (·.1) → DnA K S (kvs.map (·.2)) (es.map (·.2)) → Dn K S (.ref a) (.dT es)
  | fK {a : Addr} {o : Obj} {kvs : List (Key × V)} {es : List (Key × D)} : S a = some (.frz o (.dK kvs)) → kvs.map (·.1) = es.map (·.1) → DnA K S (kvs.map (·.2)) (es.map (·.2)) → Dn K S (.ref a) (.fK es)
  | fT {a : Addr} {o : Obj} {kvs : List (List Key × V)} {es : List (List Key × D)} : S a = some (.frz o (.dT kvs)) → kvs.map (·.1) = es.map (·.1) → DnA K S (kvs.map (·.2)) (es.map (·.2)) → Dn K S (.ref a) (.fT es)
  | fn {a c : Addr} {k : Nat} {l : Lam} {pm ctv : Value} {cl : List (Str × Addr)} {vs : List V} {ds : List D} : TabC.lam k = some l → S a = some (PinO (PySem.W.kla_obj "<lambda>" l.qual l.params l.body l.scope cl pm c ctv) a) → S c = some (LamX.CodeO c l.qual) → cl.map (·.1) = l.caps → (cl.map (·.2)).Nodup →
      CellsAt S (cl.map (·.2)) vs → DnA K S vs ds → Dn K S (.ref a) (.fn k ds)
  | kt {a : Addr} {vs : List V} {ds : List D} : TupN K S a vs → DnA K S vs ds → Dn K S (.ref a) (.kt ds)
  | fN {a : Addr} {kvs : List (NK × V)} {es : List (NK × D)} : S a = some (NoD a kvs) → kvs.map (·.1) = es.map (·.1) → DnA K S (kvs.map (·.2)) (es.map (·.2)) → Dn K S (.ref a) (.fN es)
  | exc {a dx : Addr} {c : Nat} {f : Str} {v : V} {d : D} : S a = some (ExV a (TabC.xc c) (some dx)) → S dx = some (.xd [(f, v)]) → Dn K S v d → Dn K S (.ref a) (.exc c f d)
  | exc0 {a : Addr} {c : Nat} : S a = some (ExV a (TabC.xc c) none) → Dn K S (.ref a) (.exc0 c)
inductive DnA (K : PySem.W.Frag) (S : Hp) : List V → List D → Prop
  | nil : DnA K S [] []
  | cons {v : V} {vs : List V} {d : D} {ds : List D} : Dn K S v d → DnA K S vs ds → DnA K S (v :: vs) (d :: ds)
end
variable {K : PySem.W.Frag} {S S' H H' : Hp}
mutual
theorem Dn.mono (e : Ex S S') : ∀ {v : V} {d : D}, Dn K S v d → Dn K S' v d
  | _, _, .non => .non
  | _, _, .bl b => .bl b
  | _, _, .int i => .int i
  | _, _, .str x => .str x
  | _, _, .raw v => .raw v
  | _, _, .scr h => .scr (e.sqL h)
  | _, _, .tup h a => .tup (e _ _ h) (DnA.mono e a)
  | _, _, .lst h a => .lst (e _ _ h) (DnA.mono e a)
  | _, _, .dK h k a => .dK (e _ _ h) k (DnA.mono e a)
  | _, _, .dT h k a => .dT (e _ _ h) k (DnA.mono e a)
  | _, _, .fK h k a => .fK (e _ _ h) k (DnA.mono e a)
  | _, _, .fT h k a => .fT (e _ _ h) k (DnA.mono e a)
  | _, _, .fn h1 h2 h3 h4 nd h5 a => .fn h1 (e _ _ h2) (e _ _ h3) h4 nd (h5.mono e) (DnA.mono e a)
  | _, _, .kt h a => .kt (h.mono e) (DnA.mono e a)
  | _, _, .fN h k a => .fN (e _ _ h) k (DnA.mono e a)
  | _, _, .exc h1 h2 a => .exc (e _ _ h1) (e _ _ h2) (Dn.mono e a)
  | _, _, .exc0 h => .exc0 (e _ _ h)
theorem DnA.mono (e : Ex S S') : ∀ {vs : List V} {ds : List D}, DnA K S vs ds → DnA K S' vs ds
  | _, _, .nil => .nil
  | _, _, .cons h a => .cons (Dn.mono e h) (DnA.mono e a)
end
theorem DnA.length : ∀ {vs : List V} {ds : List D}, DnA K S vs ds → vs.length = ds.length
  | _, _, .nil => rfl
  | _, _, .cons _ a => congrArg (· + 1) a.length
theorem DnA.append : ∀ {vs ws : List V} {ds es : List D}, DnA K S vs ds → DnA K S ws es → DnA K S (vs ++ ws) (ds ++ es)
  | _, _, _, _, .nil, b => b
  | _, _, _, _, .cons h a, b => .cons h (a.append b)
theorem DnA.get : ∀ {vs : List V} {ds : List D} {i : Nat} {d : D}, DnA K S vs ds → ds[i]? = some d → ∃ v, vs[i]? = some v ∧ Dn K S v d
  | _, _, _, _, .nil, e => by simp at e
  | _, _, 0, _, .cons h _, e => by simp at e; subst e; exact ⟨_, rfl, h⟩
  | _, _, i + 1, _, .cons _ a, e => by
    obtain ⟨v, h1, h2⟩ := a.get (i := i) (by simpa using e)
    exact ⟨v, by simpa using h1, h2⟩
theorem DnA.getV : ∀ {vs : List V} {ds : List D} {i : Nat} {v : V}, DnA K S vs ds → vs[i]? = some v → ∃ d, ds[i]? = some d ∧ Dn K S v d
  | _, _, _, _, .nil, e => by simp at e
  | _, _, 0, _, .cons h _, e => by simp at e; subst e; exact ⟨_, rfl, h⟩
  | _, _, i + 1, _, .cons _ a, e => by
    obtain ⟨v, h1, h2⟩ := a.getV (i := i) (by simpa using e)
    exact ⟨v, by simpa using h1, h2⟩
theorem DnA.set {v : V} {d : D} (h : Dn K S v d) : ∀ {vs : List V} {ds : List D} (i : Nat), DnA K S vs ds → DnA K S (vs.set i v) (ds.set i d)
  | _, _, _, .nil => .nil
  | _, _, 0, .cons _ a => .cons h a
  | _, _, i + 1, .cons q a => .cons q (a.set h i)
theorem DnA.take : ∀ {vs : List V} {ds : List D} (n : Nat), DnA K S vs ds → DnA K S (vs.take n) (ds.take n)
  | _, _, 0, _ => .nil
  | _, _, _ + 1, .nil => .nil
  | _, _, n + 1, .cons h a => .cons h (a.take n)
theorem DnA.drop : ∀ {vs : List V} {ds : List D} (n : Nat), DnA K S vs ds → DnA K S (vs.drop n) (ds.drop n)
  | _, _, 0, a => a
  | _, _, _ + 1, .nil => .nil
  | _, _, n + 1, .cons _ a => a.drop n
theorem DnA.eraseIdx : ∀ {vs : List V} {ds : List D} (n : Nat), DnA K S vs ds → DnA K S (vs.eraseIdx n) (ds.eraseIdx n)
  | _, _, _, .nil => .nil
  | _, _, 0, .cons _ a => a
  | _, _, n + 1, .cons h a => .cons h (a.eraseIdx n)
theorem DnA.reverse {vs : List V} {ds : List D} (a : DnA K S vs ds) : DnA K S vs.reverse ds.reverse := by
  induction vs generalizing ds with
  | nil => cases a; exact .nil
  | cons v vs ih =>
    cases a with
    | cons h a =>
      rw [List.reverse_cons, List.reverse_cons]
      exact (ih a).append (.cons h .nil)
theorem DnA.ints : ∀ ns : List Int, DnA K S (ns.map V.int) (ns.map D.int)
  | [] => .nil
  | n :: ns => .cons (.int n) (DnA.ints ns)
/-- the pen: where it stands, at most so many draws so far -/
abbrev Pen := Option (Addr × Nat)
/-- what stands where the pen is -/
def penO (ca : Addr) (k m : Int) : HO := if TabC.pk then .dK [(Sum.inr "cells", .ref ca), (Sum.inr "at", .int k), (Sum.inr "left", .int m)] else .lst [.ref ca, .int k, .int m]
class PkD [TabC] : Prop where
  pk : TabC.pk = true
theorem penO_d [PkD] {ca : Addr} {k m : Int} : penO ca k m = .dK [(Sum.inr "cells", .ref ca), (Sum.inr "at", .int k), (Sum.inr "left", .int m)] := by unfold penO; rw [PkD.pk]; rfl
theorem penO_pl {ca : Addr} {k m : Int} : HO.plain (penO ca k m) = true := by unfold penO; split <;> rfl
def PenOk (S H : Hp) : Pen → Prop
  | none => True
  | some (a, c) => S a = none ∧ ∃ (ca : Addr) (ns : List Int) (k m : Int), H a = some (penO ca k m) ∧ S ca = some (.lst (ns.map V.int)) ∧ ns.length ≤ 63 ∧ 0 ≤ k ∧ k ≤ c ∧ 0 ≤ m
/-- what stood at a def's entry; pa: what alone of it may change -/
structure Bs where
  S0 : Hp
  H0 : Hp
  pa : Option Addr
  pd : Bool := true
structure Frm (B : Bs) (S H : Hp) : Prop where
  s : Ex B.S0 S
  h : ∀ b o, B.H0 b = some o → B.pa ≠ some b → NT o → H b = some o
  t : ∀ b ps, B.H0 b = some (.tbl ps) → ∃ qs, H b = some (.tbl qs)
  no : ∀ b o, B.H0 b = some o → B.S0 b = none → S b = none
  pa : ∀ a, B.pa = some a → ∃ o, H a = some o
theorem Frm.pl {B : Bs} (f : Frm B S H) {b : Addr} {o : HO} (h : B.H0 b = some o) (n : B.pa ≠ some b) (p : HO.plain o = true := by rfl) : H b = some o := f.h b o h n (nt_plain p)
theorem Frm.there {B : Bs} (f : Frm B S H) {b : Addr} {o : HO} (h : B.H0 b = some o) : ∃ o', H b = some o' := by
  by_cases e : B.pa = some b
  · exact f.pa b e
  · cases o with
    | tbl ps => obtain ⟨qs, q⟩ := f.t b ps h; exact ⟨_, q⟩
    | ext φ => exact ⟨_, f.h b _ h e fun _ z => nomatch z⟩
    | _ => exact ⟨_, f.h b _ h e (nt_plain rfl)⟩
/-- a slot: not known, data, a list of one's own that may be changed, a dict of one's own -/
inductive Sl where
  | un | law (ns : List Int) | dat (d : D) | own (ds : List D) | hp (ds : List D) | ownK (kvs : List (Key × D)) | ownT (kvs : List (List Key × D))
  /-- a dict of one's own, its keys numbers or None; a list of one's own that no name holds, where it stands -/
  | ownN (kvs : List (NK × D)) | kp (a : Addr) (ds : List D)
  /-- a dict handed in that may be changed -/
  | hpK (kvs : List (Key × D))
structure DS where
  sl : List Sl
  pen : Pen
def SlOk (K : PySem.W.Frag) (B : Bs) (S H : Hp) (oa : Option Addr) (ov : Option (Option V)) : Sl → Prop
  | .un => oa = none
  | .law ns => oa = none ∧ B.pa = none ∧ ∃ a, ov = some (some (.ref a)) ∧ SqL K S a (ns.map V.int)
  | .dat d => oa = none ∧ ∃ v, ov = some (some v) ∧ Dn K S v d
  | .own ds => ∃ a vs, oa = some a ∧ B.H0 a = none ∧ B.pa ≠ some a ∧ ov = some (some (.ref a)) ∧ H a = some (.lst vs) ∧ DnA K S vs ds
  | .hp ds => ∃ a vs, oa = some a ∧ B.pa = some a ∧ ov = some (some (.ref a)) ∧ H a = some (.lst vs) ∧ DnA K S vs ds
  | .ownK es => ∃ a kvs, oa = some a ∧ B.H0 a = none ∧ B.pa ≠ some a ∧ ov = some (some (.ref a)) ∧ H a = some (.dK kvs) ∧ kvs.map (·.1) = es.map (·.1) ∧ DnA K S (kvs.map (·.2)) (es.map (·.2))
  | .ownT es => ∃ a kvs, oa = some a ∧ B.H0 a = none ∧ B.pa ≠ some a ∧ ov = some (some (.ref a)) ∧ H a = some (.dT kvs) ∧ kvs.map (·.1) = es.map (·.1) ∧ DnA K S (kvs.map (·.2)) (es.map (·.2))
  | .ownN es => ∃ a kvs, oa = some a ∧ B.H0 a = none ∧ B.pa ≠ some a ∧ ov = some (some (.ref a)) ∧ H a = some (NoD a kvs) ∧ kvs.map (·.1) = es.map (·.1) ∧ DnA K S (kvs.map (·.2)) (es.map (·.2))
  | .kp a ds => ∃ vs, oa = some a ∧ B.H0 a = none ∧ B.pa ≠ some a ∧ H a = some (.lst vs) ∧ DnA K S vs ds
  | .hpK es => ∃ a kvs, oa = some a ∧ B.pa = some a ∧ ov = some (some (.ref a)) ∧ H a = some (.dK kvs) ∧ kvs.map (·.1) = es.map (·.1) ∧ DnA K S (kvs.map (·.2)) (es.map (·.2))
/-- a heap that has grown: what was known is, what was known and not frozen is not frozen -/
structure Grow (S H S' H' : Hp) : Prop where
  s : Ex S S'
  h : Ext H H'
  ok : Sb S' H'
  no : ∀ b o, H b = some o → S b = none → S' b = none
theorem Grow.refl (e : Sb S H) : Grow S H S H := ⟨Ex.refl _, Ext.refl _, e, fun _ _ _ h => h⟩
theorem Grow.trans {S1 H1 : Hp} (a : Grow S H S1 H1) (b : Grow S1 H1 S' H') : Grow S H S' H' :=
  ⟨a.s.trans b.s, a.h.trans b.h, b.ok, fun c o h n => by
    obtain ⟨o', q⟩ := a.h.there h
    exact b.no c o' q (a.no c o h n)⟩
theorem Grow.new {p : Addr} {o : HO} (e : Sb S H) (hp : H p = none) : Grow S H (upd S p o) (upd H p o) := by
  have sp : S p = none := e.none hp
  refine ⟨Ex.new sp, Ext.of (Ex.new hp), ⟨fun a u h => ?_, fun a u h => ?_, e.tb.at_ p (fun b u n h => by rw [upd_ne n]; exact h) (fun u z => by rw [hp] at z; cases z) fun b n z => by rw [upd_ne n]; exact z⟩, fun b u h n => ?_⟩
  · by_cases q : a = p
    · subst q; rw [upd_same] at h ⊢; exact h
    · rw [upd_ne q] at h ⊢; exact e a u h
  · by_cases q : a = p
    · subst q; rw [upd_same] at h ⊢; exact h
    · rw [upd_ne q] at h ⊢; exact e.tp a u h
  · rw [upd_ne (ne_of_none h hp)]; exact n
/-- the pen is the one that B names, or it was born since -/
def PaOk (B : Bs) (p : Pen) : Prop := if B.pd = true ∧ B.pa ≠ none then p.map (·.1) = B.pa else ∀ a c, p = some (a, c) → B.H0 a = none ∧ B.pa ≠ some a
structure Rel (K : PySem.W.Frag) (B : Bs) (δ : DS) (S : Hp) (σ : L2.St) (H : Hp) : Prop where
  ex : Sb S H
  fr : Frm B S H
  pen : PenOk S H δ.pen
  pa : PaOk B δ.pen
  len : σ.length = δ.sl.length
  sl : ∃ ow : Nat → Option Addr, (∀ i x, δ.sl[i]? = some x → SlOk K B S H (ow i) σ[i]? x) ∧ (∀ i, δ.sl.length ≤ i → ow i = none) ∧ (∀ i j a, ow i = some a → ow j = some a → i = j) ∧
    ∀ i a, ow i = some a → S a = none ∧ (B.H0 a = none ∨ B.pa = some a) ∧ (∀ c, δ.pen ≠ some (a, c)) ∧ ∃ o, H a = some o
theorem SlOk.grow {B : Bs} {oa : Option Addr} {ov : Option (Option V)} {x : Sl} (e : Ex S S') (h : ∀ a o, oa = some a → H a = some o → NT o → H' a = some o) (q : SlOk K B S H oa ov x) : SlOk K B S' H' oa ov x := by
  cases x with
  | un => exact q
  | law ns => obtain ⟨a, v, b, c, d⟩ := q; exact ⟨a, v, b, c, e.sqL d⟩
  | dat d => obtain ⟨a, v, b, c⟩ := q; exact ⟨a, v, b, c.mono e⟩
  | own ds => obtain ⟨a, vs, p1, n1, n2, p2, p3, p4⟩ := q; exact ⟨a, vs, p1, n1, n2, p2, h a _ p1 p3 (nt_plain rfl), p4.mono e⟩
  | hp ds => obtain ⟨a, vs, p1, p0, p2, p3, p4⟩ := q; exact ⟨a, vs, p1, p0, p2, h a _ p1 p3 (nt_plain rfl), p4.mono e⟩
  | ownK es => obtain ⟨a, kvs, p1, n1, n2, p2, p3, p4, p5⟩ := q; exact ⟨a, kvs, p1, n1, n2, p2, h a _ p1 p3 (nt_plain rfl), p4, p5.mono e⟩
  | ownT es => obtain ⟨a, kvs, p1, n1, n2, p2, p3, p4, p5⟩ := q; exact ⟨a, kvs, p1, n1, n2, p2, h a _ p1 p3 (nt_plain rfl), p4, p5.mono e⟩
  | ownN es => obtain ⟨a, kvs, p1, n1, n2, p2, p3, p4, p5⟩ := q; exact ⟨a, kvs, p1, n1, n2, p2, h a _ p1 p3 own_nod.1, p4, p5.mono e⟩
  | kp a ds => obtain ⟨vs, p1, n1, n2, p3, p4⟩ := q; exact ⟨vs, p1, n1, n2, h a _ p1 p3 (nt_plain rfl), p4.mono e⟩
  | hpK es => obtain ⟨a, kvs, p1, p0, p2, p3, p4, p5⟩ := q; exact ⟨a, kvs, p1, p0, p2, h a _ p1 p3 (nt_plain rfl), p4, p5.mono e⟩
/-- what is one's own is no table -/
theorem SlOk.pl {B : Bs} {p : Addr} {ov : Option (Option V)} {x : Sl} (q : SlOk K B S H (some p) ov x) : ∃ o, H p = some o ∧ HO.own o := by
  cases x with
  | un => cases q
  | law ns => cases q.1
  | dat d => cases q.1
  | own ds => obtain ⟨a, vs, p1, n1, n2, p2, p3, p4⟩ := q; cases p1; exact ⟨_, p3, own_plain rfl⟩
  | hp ds => obtain ⟨a, vs, p1, p0, p2, p3, p4⟩ := q; cases p1; exact ⟨_, p3, own_plain rfl⟩
  | ownK es => obtain ⟨a, kvs, p1, n1, n2, p2, p3, p4, p5⟩ := q; cases p1; exact ⟨_, p3, own_plain rfl⟩
  | ownT es => obtain ⟨a, kvs, p1, n1, n2, p2, p3, p4, p5⟩ := q; cases p1; exact ⟨_, p3, own_plain rfl⟩
  | ownN es => obtain ⟨a, kvs, p1, n1, n2, p2, p3, p4, p5⟩ := q; cases p1; exact ⟨_, p3, own_nod⟩
  | kp a ds => obtain ⟨vs, p1, n1, n2, p3, p4⟩ := q; cases p1; exact ⟨_, p3, own_plain rfl⟩
  | hpK es => obtain ⟨a, vs, p1, p0, p2, p3, p4⟩ := q; cases p1; exact ⟨_, p3, own_plain rfl⟩
theorem SlOk.plA {B : Bs} {p : Addr} {oa : Option Addr} {ov : Option (Option V)} {x : Sl} (q : SlOk K B S H oa ov x) (e : oa = some p) : ∃ o, H p = some o ∧ HO.own o := by
  subst e; exact q.pl
theorem PenOk.grow {p : Pen} (g : Grow S H S' H') (q : PenOk S H p) : PenOk S' H' p := by
  match p, q with
  | none, _ => trivial
  | some (a, c), ⟨n, ca, ns, k, m, h1, h2, h3⟩ => exact ⟨g.no a _ h1 n, ca, ns, k, m, g.h.pl h1 penO_pl, g.s _ _ h2, h3⟩
theorem Frm.grow {B : Bs} (f : Frm B S H) (g : Grow S H S' H') : Frm B S' H' where
  s := f.s.trans g.s
  h := fun b o h q n => g.h.h _ _ (f.h b o h q n) n
  t := fun b ps h => by
    obtain ⟨qs, q⟩ := f.t b ps h
    exact g.h.t b qs q
  no := fun b o h n => by
    obtain ⟨o', q⟩ := f.there h
    exact g.no b o' q (f.no b o h n)
  pa := fun a e => by
    obtain ⟨o, q⟩ := f.pa a e
    exact g.h.there q
theorem Rel.grow {B : Bs} {δ : DS} {σ : L2.St} (R : Rel K B δ S σ H) (g : Grow S H S' H') : Rel K B δ S' σ H' := by
  obtain ⟨ow, h1, h2, h3, h4⟩ := R.sl
  refine ⟨g.ok, R.fr.grow g, R.pen.grow g, R.pa, R.len, ow, fun i x e => (h1 i x e).grow g.s fun a o _ q pl => g.h.h _ _ q pl, h2, h3, fun i a e => ?_⟩
  obtain ⟨q1, q2, q3, o, q4⟩ := h4 i a e
  exact ⟨g.no a o q4 q1, q2, q3, g.h.there q4⟩
/-- an exception: its class, its one field -/
structure Xc where
  cls : Nat
  at_ : Option (Str × D)
def XcOk (K : PySem.W.Frag) (S H : Hp) (c : Xc) (cls : Value) (od : Option Addr) : Prop :=
  cls = TabC.xc c.cls ∧ match c.at_ with
    | none => od = none
    | some (f, d) => ∃ a v, od = some a ∧ S a = some (.xd [(f, v)]) ∧ Dn K S v d
abbrev XW := Xc → DS → Prop
abbrev dE := XW → DS → (D → DS → Prop) → Prop
abbrev dF := XW → DS → (List D → DS → Prop) → Prop
abbrev dT := XW → DS → (Bool → DS → Prop) → Prop
abbrev dA := XW → DS → (List D → DS → Prop) → Prop
structure dEnds where
  nx : DS → Prop
  rt : D → DS → Prop
  bk : DS → Prop := fun _ => False
  ct : DS → Prop := fun _ => False
  rl : List D → DS → Prop := fun _ _ => False
abbrev dS := XW → dEnds → DS → Prop
abbrev dG := D → DS → (DS → Prop) → Prop
abbrev EK := L2.St → XK
def XOk (K : PySem.W.Frag) (B : Bs) (E : EK) (W : XW) (S : Hp) : Prop :=
  ∀ c δ' σ' S' H' cls od, W c δ' → Ex S S' → Rel K B δ' S' σ' H' → XcOk K S' H' c cls od → E σ' cls od H'
theorem XOk.mono {B : Bs} {E : EK} {W : XW} (h : XOk K B E W S) (e : Ex S S') : XOk K B E W S' :=
  fun c δ' σ' S1 H' cls od w x r k => h c δ' σ' S1 H' cls od w (e.trans x) r k
def liftE (K : PySem.W.Frag) (B : Bs) (E : EK) (d : dE) : TE := fun σ H Q => ∃ δ S W Q', Rel K B δ S σ H ∧ d W δ Q' ∧ XOk K B E W S ∧
  ∀ x δ' v S' H', Q' x δ' → Ex S S' → Rel K B δ' S' σ H' → Dn K S' v x → Q v H'
/-- a new list, of one's own still -/
def liftF (K : PySem.W.Frag) (B : Bs) (E : EK) (d : dF) : TE := fun σ H Q => ∃ δ S W Q', Rel K B δ S σ H ∧ d W δ Q' ∧ XOk K B E W S ∧
  ∀ xs δ' p vs S' H', Q' xs δ' → Ex S S' → Rel K B δ' S' σ H' → H' p = none → DnA K S' vs xs → Q (.ref p) (upd H' p (.lst vs))
def liftT (K : PySem.W.Frag) (B : Bs) (E : EK) (d : dT) : TT := fun σ H Q => ∃ δ S W Q', Rel K B δ S σ H ∧ d W δ Q' ∧ XOk K B E W S ∧
  ∀ x δ' S' H', Q' x δ' → Ex S S' → Rel K B δ' S' σ H' → Q x H'
def liftA (K : PySem.W.Frag) (B : Bs) (E : EK) (d : dA) : TA := fun σ H Q => ∃ δ S W Q', Rel K B δ S σ H ∧ d W δ Q' ∧ XOk K B E W S ∧
  ∀ xs δ' vs S' H', Q' xs δ' → Ex S S' → Rel K B δ' S' σ H' → DnA K S' vs xs → Q vs H'
def liftS (K : PySem.W.Frag) (B : Bs) (E : EK) (d : dS) : TS := fun Z σ H => ∃ δ S W N, Rel K B δ S σ H ∧ d W N δ ∧ XOk K B E W S ∧
  (∀ δ' σ' S' H', N.nx δ' → Ex S S' → Rel K B δ' S' σ' H' → Z.nx σ' H') ∧
  (∀ x δ' v σ' S' H', N.rt x δ' → Ex S S' → Rel K B δ' S' σ' H' → Dn K S' v x → Z.rt v H') ∧
  (∀ δ' σ' S' H', N.bk δ' → Ex S S' → Rel K B δ' S' σ' H' → Z.bk σ' H') ∧
  (∀ δ' σ' S' H', N.ct δ' → Ex S S' → Rel K B δ' S' σ' H' → Z.ct σ' H') ∧
  (∀ xs δ' p vs σ' S' H', N.rl xs δ' → Ex S S' → Rel K B δ' S' σ' H' → H' p = none → DnA K S' vs xs → Z.rt (.ref p) (upd H' p (.lst vs)))
def liftG (K : PySem.W.Frag) (B : Bs) (g : dG) (vs : List Nat) : TG := fun v σ H Q => ∃ δ S d Q', Rel K B δ S σ H ∧ Dn K S v d ∧ g d δ Q' ∧
  ∀ δ' σ' S' H', Q' δ' → Ex S S' → Rel K B δ' S' σ' H' → (∀ i, i ∉ vs → σ'[i]? = σ[i]?) → σ'.length = σ.length → Q σ' H'
structure DE (X : Cx) (E : EK) (e : Expr) (d : dE) : Prop where
  run : ∀ B, PE X e (liftE X.K B E d)
structure DF (X : Cx) (E : EK) (e : Expr) (d : dF) : Prop where
  run : ∀ B, PE X e (liftF X.K B E d)
structure DT (X : Cx) (E : EK) (e : Expr) (d : dT) : Prop where
  run : ∀ B, PT X e (liftT X.K B E d)
structure DA (X : Cx) (E : EK) (es : List Expr) (d : dA) : Prop where
  run : ∀ B, PA X es (liftA X.K B E d)
structure DSt (X : Cx) (E : EK) (st : Stmt) (d : dS) : Prop where
  run : ∀ B, PS X st (liftS X.K B E d)
structure DSs (X : Cx) (E : EK) (st : List Stmt) (d : dS) : Prop where
  run : ∀ B, PSs X st (liftS X.K B E d)
structure DG (X : Cx) (tg : Expr) (g : dG) (vs : List Nat) : Prop where
  run : ∀ B, PG X tg (liftG X.K B g vs)
section
variable {X : Cx} {e : Expr} {st : Stmt} {sts : List Stmt} {es : List Expr}
theorem pe_mono {t t' : TE} (h : PE X e t) (m : ∀ σ H Q, t' σ H Q → t σ H Q) : PE X e t' := ⟨fun pins s σ H Q I q => h.run pins s σ H Q I (m _ _ _ q)⟩
theorem pt_mono {t t' : TT} (h : PT X e t) (m : ∀ σ H Q, t' σ H Q → t σ H Q) : PT X e t' := ⟨fun pins s σ H Q I q => h.run pins s σ H Q I (m _ _ _ q)⟩
theorem pw_mono {t t' : TT} (h : PW X e t) (m : ∀ σ H Q, t' σ H Q → t σ H Q) : PW X e t' := ⟨fun wh pins s σ H Q I q => h.run wh pins s σ H Q I (m _ _ _ q)⟩
theorem pa_mono {t t' : TA} (h : PA X es t) (m : ∀ σ H Q, t' σ H Q → t σ H Q) : PA X es t' := ⟨fun pos pins s σ H Q I q => h.run pos pins s σ H Q I (m _ _ _ q)⟩
theorem ps_mono {t t' : TS} (h : PS X st t) (m : ∀ Z σ H, t' Z σ H → t Z σ H) : PS X st t' := ⟨fun pins s σ H Z I q => h.run pins s σ H Z I (m _ _ _ q)⟩
theorem pss_mono {t t' : TS} (h : PSs X sts t) (m : ∀ Z σ H, t' Z σ H → t Z σ H) : PSs X sts t' := ⟨fun pins s σ H Z I q => h.run pins s σ H Z I (m _ _ _ q)⟩
end
end Ev
namespace Ev
open PySem PySem.Spec PyProof.Rows L2
variable [TabC]
variable {K : PySem.W.Frag} {S S' H H' : Hp} {B : Bs} {δ : DS} {σ : L2.St}
theorem Rel.dat (R : Rel K B δ S σ H) {i : Nat} {d : D} (h : δ.sl[i]? = some (.dat d)) : ∃ v, σ[i]? = some (some v) ∧ Dn K S v d := by
  obtain ⟨ow, h1, _⟩ := R.sl
  obtain ⟨_, v, e, q⟩ := h1 i _ h
  exact ⟨v, e, q⟩
theorem Rel.law (R : Rel K B δ S σ H) {i : Nat} {ns : List Int} (h : δ.sl[i]? = some (.law ns)) : B.pa = none ∧ ∃ v, σ[i]? = some (some v) ∧ Dn K S v (.scr ns) := by
  obtain ⟨ow, h1, _⟩ := R.sl
  obtain ⟨_, e, a, q1, q2⟩ := h1 i _ h
  exact ⟨e, _, q1, .scr q2⟩
theorem Rel.new (R : Rel K B δ S σ H) {p : Addr} {o : HO} (hp : H p = none) : Rel K B δ (upd S p o) σ (upd H p o) := R.grow (Grow.new R.ex hp)
section
variable {X : Cx} {E : EK} {e a b c : Expr} {es : List Expr} {pos : Pos}
def dVar (i : Nat) : dE := fun _ δ Q => match δ.sl[i]? with | some (.dat d) => Q d δ | some (.law ns) => Q (.scr ns) δ | _ => False
theorem de_var {i : Nat} {x : Str} (h : PE X (.Name x pos) (tVar i)) : DE X E (.Name x pos) (dVar i) := ⟨fun B => pe_mono h fun σ H Q q => by
  obtain ⟨δ, S, W, Q', R, q, _, post⟩ := q
  unfold dVar at q
  split at q
  · rename_i d hd
    obtain ⟨v, e1, e2⟩ := R.dat hd
    exact ⟨v, e1, post _ _ _ _ _ q (Ex.refl _) R e2⟩
  · rename_i ns hd
    obtain ⟨_, v, e1, e2⟩ := R.law hd
    exact ⟨v, e1, post _ _ _ _ _ q (Ex.refl _) R e2⟩
  · exact q.elim⟩
def dC (d : D) : dE := fun _ δ Q => Q d δ
theorem de_c {v : V} {d : D} (h : PE X e (tC v)) (k : ∀ S, Dn X.K S v d) : DE X E e (dC d) := ⟨fun B => pe_mono h fun σ H Q q => by
  obtain ⟨δ, S, W, Q', R, q, _, post⟩ := q
  exact post _ _ _ _ _ q (Ex.refl _) R (k S)⟩
theorem de_int {i j} : DE X E (.Constant (.int i) j pos) (dC (.int i)) := de_c pe_int fun _ => .int i
theorem de_bl {i j} : DE X E (.Constant (.bool i) j pos) (dC (.bl i)) := de_c pe_bl fun _ => .bl i
theorem de_non {j} : DE X E (.Constant .none j pos) (dC .non) := de_c pe_non fun _ => .non
theorem de_str {i j} : DE X E (.Constant (.str i) j pos) (dC (.str i)) := de_c pe_str fun _ => .str i
abbrev DR2 := D → D → (D → Prop) → Prop
def liftR (K : PySem.W.Frag) (r : DR2) : R2 := fun x y H Q => ∃ S dx dy Q', Sb S H ∧ Dn K S x dx ∧ Dn K S y dy ∧ r dx dy Q' ∧ ∀ dz v S' H', Q' dz → Grow S H S' H' → Dn K S' v dz → Q v H'
def OpD (X : Cx) (f : Value → Value → Sem Value) (r : DR2) : Prop := OpR X f (liftR X.K r)
def dBin (r : DR2) (da db : dE) : dE := fun W δ Q => da W δ fun x δ1 => db W δ1 fun y δ2 => r x y fun z => Q z δ2
theorem lift_bin {r : DR2} {da db : dE} {σ : L2.St} {H : Hp} {Q : VK} (q : liftE K B E (dBin r da db) σ H Q) : tOp (liftR K r) (liftE K B E da) (liftE K B E db) σ H Q := by
  obtain ⟨δ, S, W, Q', R, q, xo, post⟩ := q
  refine ⟨δ, S, W, _, R, q, xo, fun x δ1 v S1 H1 q1 e1 R1 n1 => ?_⟩
  refine ⟨δ1, S1, W, _, R1, q1, xo.mono e1, fun y δ2 u S2 H2 q2 e2 R2 n2 => ?_⟩
  exact ⟨S2, x, y, _, R2.ex, n1.mono e2, n2, q2, fun dz v S' H' q3 g n3 => post _ _ _ _ _ q3 ((e1.trans e2).trans g.s) (R2.grow g) n3⟩
theorem de_op {op : Operator} {r : DR2} {da db : dE} (ho : OpD X (binaryOp op) r) (ha : DE X E a da) (hb : DE X E b db) : DE X E (.BinOp a op b pos) (dBin r da db) :=
  ⟨fun B => pe_mono (pe_op ho (ha.run B) (hb.run B)) fun σ H Q q => lift_bin q⟩
theorem de_cmp {op : CmpOp} {r : DR2} {da db : dE} (ho : OpD X (compareOp op) r) (ha : DE X E a da) (hb : DE X E b db) (hm : behindInMarks op b = false) : DE X E (.Compare a [op] [b] pos) (dBin r da db) :=
  ⟨fun B => pe_mono (pe_cmpR ho (ha.run B) (hb.run B) hm) fun σ H Q q => lift_bin q⟩
/-- an expression that gives a bool, as a test -/
def dB (d : dE) : dT := fun W δ Q => d W δ fun x δ' => match x with | .bl k => Q k δ' | _ => False
theorem lift_B {d : dE} {σ : L2.St} {H : Hp} {Q : Bool → Hp → Prop} (q : liftT K B E (dB d) σ H Q) : liftE K B E d σ H fun x H' => ∃ k, x = .bl k ∧ Q k H' := by
  obtain ⟨δ, S, W, Q', R, q, xo, post⟩ := q
  refine ⟨δ, S, W, _, R, q, xo, fun x δ1 v S1 H1 q1 e1 R1 n1 => ?_⟩
  cases x with
  | bl k => cases n1; exact ⟨k, rfl, post _ _ _ _ q1 e1 R1⟩
  | _ => exact q1.elim
theorem dt_cmp {op : CmpOp} {r : DR2} {da db : dE} (ho : OpD X (compareOp op) r) (ha : DE X E a da) (hb : DE X E b db) (hm : behindInMarks op b = false) : DT X E (.Compare a [op] [b] pos) (dB (dBin r da db)) :=
  ⟨fun B => pt_mono (pt_cmpR ho (ha.run B) (hb.run B) hm) fun σ H Q q => by
    have q := lift_B q
    exact lift_bin (Q := fun x H' => ∃ k, x = .bl k ∧ Q k H') q⟩
theorem dt_val {d : dE} (h : DE X E e d) (he : ∀ whole, isTrue e X.env whole = (do let v ← whole; standAt e.pos; holding [v] (truthy v)) := by intro _; rfl) : DT X E e (dB d) :=
  ⟨fun B => pt_mono (pt_val (h.run B) he) fun σ H Q q => lift_B q⟩
/-- a < b < c -/
def dChain (r r' : DR2) (da db dc : dE) : dE := fun W δ Q => da W δ fun x δ1 => db W δ1 fun y δ2 => r x y fun z => match z with
  | .bl true => dc W δ2 fun u δ3 => r' y u fun z' => Q z' δ3
  | .bl false => Q (.bl false) δ2
  | _ => False
theorem lift_chain {r r' : DR2} {da db dc : dE} {σ : L2.St} {H : Hp} {Q : VK} (q : liftE K B E (dChain r r' da db dc) σ H Q) : tChain (liftR K r) (liftR K r') (liftE K B E da) (liftE K B E db) (liftE K B E dc) σ H Q := by
  obtain ⟨δ, S, W, Q', R, q, xo, post⟩ := q
  refine ⟨δ, S, W, _, R, q, xo, fun x δ1 v S1 H1 q1 e1 R1 n1 => ?_⟩
  refine ⟨δ1, S1, W, _, R1, q1, xo.mono e1, fun y δ2 u S2 H2 q2 e2 R2 n2 => ?_⟩
  refine ⟨S2, x, y, _, R2.ex, n1.mono e2, n2, q2, fun dz vz S3 H3 q3 g n3 => ?_⟩
  cases dz with
  | bl k =>
    cases n3
    refine ⟨k, rfl, ?_⟩
    cases k with
    | true =>
      rw [if_pos rfl]
      refine ⟨δ2, S3, W, _, R2.grow g, q3, xo.mono ((e1.trans e2).trans g.s), fun z δ3 w S4 H4 q4 e4 R4 n4 => ?_⟩
      exact ⟨S4, y, z, _, R4.ex, n2.mono (g.s.trans e4), n4, q4, fun dz v S' H' q5 g5 n5 => post _ _ _ _ _ q5 ((((e1.trans e2).trans g.s).trans e4).trans g5.s) (R4.grow g5) n5⟩
    | false =>
      rw [if_neg Bool.false_ne_true]
      exact post _ _ _ _ _ q3 ((e1.trans e2).trans g.s) (R2.grow g) (.bl false)
  | _ => exact q3.elim
theorem de_chain {op op' : CmpOp} {r r' : DR2} {da db dc : dE} (ho : OpD X (compareOp op) r) (ho' : OpD X (compareOp op') r') (ha : DE X E a da) (hb : DE X E b db) (hc : DE X E c dc) (hm : lastMarks [op, op'] [b, c] = false := by with_unfolding_all rfl) :
    DE X E (.Compare a [op, op'] [b, c] pos) (dChain r r' da db dc) := ⟨fun B => pe_mono (pe_chain ho ho' (ha.run B) (hb.run B) (hc.run B) hm) fun σ H Q q => lift_chain q⟩
theorem dt_chain {op op' : CmpOp} {r r' : DR2} {da db dc : dE} (ho : OpD X (compareOp op) r) (ho' : OpD X (compareOp op') r') (ha : DE X E a da) (hb : DE X E b db) (hc : DE X E c dc) (hm : lastMarks [op, op'] [b, c] = false := by with_unfolding_all rfl) :
    DT X E (.Compare a [op, op'] [b, c] pos) (dB (dChain r r' da db dc)) := ⟨fun B => pt_mono (pt_chain ho ho' (ha.run B) (hb.run B) (hc.run B) hm) fun σ H Q q => by
      have q := lift_B q
      exact lift_chain (Q := fun x H' => ∃ k, x = .bl k ∧ Q k H') q⟩
variable {ta tb : dT} {da db : dE} {rest : List Expr}
structure DW (X : Cx) (E : EK) (e : Expr) (d : dT) : Prop where
  run : ∀ B, PW X e (liftT X.K B E d)
theorem DW.dt (h : DW X E e ta) : DT X E e ta := ⟨fun B => (h.run B).pt⟩
def dAnd (t u : dT) : dT := fun W δ Q => t W δ fun k δ1 => match k with | true => u W δ1 Q | false => Q false δ1
def dOr (t u : dT) : dT := fun W δ Q => t W δ fun k δ1 => match k with | true => Q true δ1 | false => u W δ1 Q
def dNot (t : dT) : dT := fun W δ Q => t W δ fun k δ1 => Q (!k) δ1
theorem dw_and1 (h : DT X E a ta) : DW X E (.BoolOp .And [a] pos) ta := ⟨fun B => pw_and1 (h.run B)⟩
theorem dw_or1 (h : DT X E a ta) : DW X E (.BoolOp .Or [a] pos) ta := ⟨fun B => pw_or1 (h.run B)⟩
theorem dw_and (h : DT X E a ta) (h2 : DW X E (.BoolOp .And (b :: rest) pos) tb) : DW X E (.BoolOp .And (a :: b :: rest) pos) (dAnd ta tb) :=
  ⟨fun B => pw_mono (pw_and (h.run B) (h2.run B)) fun σ H Q q => by
    obtain ⟨δ, S, W, Q', R, q, xo, post⟩ := q
    refine ⟨δ, S, W, _, R, q, xo, fun k δ1 S1 H1 q1 e1 R1 => ?_⟩
    cases k with
    | true => rw [if_pos rfl]; exact ⟨δ1, S1, W, _, R1, q1, xo.mono e1, fun k δ2 S2 H2 q2 e2 R2 => post _ _ _ _ q2 (e1.trans e2) R2⟩
    | false => rw [if_neg Bool.false_ne_true]; exact post _ _ _ _ q1 e1 R1⟩
theorem dw_or (h : DT X E a ta) (h2 : DW X E (.BoolOp .Or (b :: rest) pos) tb) : DW X E (.BoolOp .Or (a :: b :: rest) pos) (dOr ta tb) :=
  ⟨fun B => pw_mono (pw_or (h.run B) (h2.run B)) fun σ H Q q => by
    obtain ⟨δ, S, W, Q', R, q, xo, post⟩ := q
    refine ⟨δ, S, W, _, R, q, xo, fun k δ1 S1 H1 q1 e1 R1 => ?_⟩
    cases k with
    | false => rw [if_neg Bool.false_ne_true]; exact ⟨δ1, S1, W, _, R1, q1, xo.mono e1, fun k δ2 S2 H2 q2 e2 R2 => post _ _ _ _ q2 (e1.trans e2) R2⟩
    | true => rw [if_pos rfl]; exact post _ _ _ _ q1 e1 R1⟩
theorem dt_not (h : DT X E a ta) : DT X E (.UnaryOp .Not a pos) (dNot ta) := ⟨fun B => pt_mono (pt_not (h.run B)) fun σ H Q q => by
  obtain ⟨δ, S, W, Q', R, q, xo, post⟩ := q
  exact ⟨δ, S, W, _, R, q, xo, fun k δ1 S1 H1 q1 e1 R1 => post _ _ _ _ q1 e1 R1⟩⟩
/-- as values: bools -/
def dAndV (x y : dE) : dE := fun W δ Q => x W δ fun k δ1 => match k with | .bl true => y W δ1 Q | .bl false => Q (.bl false) δ1 | _ => False
def dOrV (x y : dE) : dE := fun W δ Q => x W δ fun k δ1 => match k with | .bl true => Q (.bl true) δ1 | .bl false => y W δ1 Q | _ => False
def dNotV (x : dE) : dE := fun W δ Q => x W δ fun k δ1 => match k with | .bl k => Q (.bl (!k)) δ1 | _ => False
theorem de_one {op} (h : DE X E a da) : DE X E (.BoolOp op [a] pos) da := ⟨fun B => pe_one (h.run B)⟩
theorem de_and (h : DE X E a da) (h2 : DE X E (.BoolOp .And (b :: rest) pos) db) : DE X E (.BoolOp .And (a :: b :: rest) pos) (dAndV da db) :=
  ⟨fun B => pe_mono (pe_and (h.run B) (h2.run B)) fun σ H Q q => by
    obtain ⟨δ, S, W, Q', R, q, xo, post⟩ := q
    refine ⟨δ, S, W, _, R, q, xo, fun k δ1 v S1 H1 q1 e1 R1 n1 => ?_⟩
    cases k with
    | bl k =>
      cases n1
      refine ⟨k, rfl, ?_⟩
      cases k with
      | true => rw [if_pos rfl]; exact ⟨δ1, S1, W, _, R1, q1, xo.mono e1, fun x δ2 v S2 H2 q2 e2 R2 n2 => post _ _ _ _ _ q2 (e1.trans e2) R2 n2⟩
      | false => rw [if_neg Bool.false_ne_true]; exact post _ _ _ _ _ q1 e1 R1 (.bl false)
    | _ => exact q1.elim⟩
theorem de_not (h : DE X E a da) : DE X E (.UnaryOp .Not a pos) (dNotV da) := ⟨fun B => pe_mono (pe_not (h.run B)) fun σ H Q q => by
  obtain ⟨δ, S, W, Q', R, q, xo, post⟩ := q
  refine ⟨δ, S, W, _, R, q, xo, fun k δ1 v S1 H1 q1 e1 R1 n1 => ?_⟩
  cases k with
  | bl k => cases n1; exact ⟨k, rfl, post _ _ _ _ _ q1 e1 R1 (.bl _)⟩
  | _ => exact q1.elim⟩
def dIf (t : dT) (x y : dE) : dE := fun W δ Q => t W δ fun k δ1 => match k with | true => x W δ1 Q | false => y W δ1 Q
def dNil : dA := fun _ δ Q => Q [] δ
def dCons (x : dE) (r : dA) : dA := fun W δ Q => x W δ fun d δ1 => r W δ1 fun ds δ2 => Q (d :: ds) δ2
theorem da_nil : DA X E [] dNil := ⟨fun B => pa_mono pa_nil fun σ H Q q => by
  obtain ⟨δ, S, W, Q', R, q, xo, post⟩ := q
  exact post _ _ _ _ _ q (Ex.refl _) R .nil⟩
theorem da_cons {r : dA} (h : DE X E e da) (hr : DA X E es r) (hs : starEach (e :: es) X.env = (false, eval e X.env) :: starEach es X.env := by rfl) : DA X E (e :: es) (dCons da r) := ⟨fun B => pa_mono (pa_cons (h.run B) (hr.run B) hs) fun σ H Q q => by
  obtain ⟨δ, S, W, Q', R, q, xo, post⟩ := q
  refine ⟨δ, S, W, _, R, q, xo, fun x δ1 v S1 H1 q1 e1 R1 n1 => ?_⟩
  exact ⟨δ1, S1, W, _, R1, q1, xo.mono e1, fun xs δ2 vs S2 H2 q2 e2 R2 n2 => post _ _ _ _ _ q2 (e1.trans e2) R2 (.cons (n1.mono e2) n2)⟩⟩
def dTup (r : dA) : dE := fun W δ Q => r W δ fun xs δ1 => xs.length ≤ sizeLine ∧ Q (.tup xs) δ1
theorem de_tup {r : dA} {x1} (h : DA X E es r) : DE X E (.Tuple es x1 pos) (dTup r) := ⟨fun B => pe_mono (pe_tup (h.run B)) fun σ H Q q => by
  obtain ⟨δ, S, W, Q', R, q, xo, post⟩ := q
  refine ⟨δ, S, W, _, R, q, xo, fun xs δ1 vs S1 H1 q1 e1 R1 n1 => ⟨by rw [n1.length]; exact q1.1, fun p hp => ?_⟩⟩
  have g := Grow.new (o := .tup vs) R1.ex hp
  exact post _ _ _ _ _ q1.2 (e1.trans g.s) (R1.grow g) (.tup upd_same (n1.mono g.s))⟩
def dLst (r : dA) : dF := fun W δ Q => r W δ fun xs δ1 => xs.length ≤ sizeLine ∧ Q xs δ1
theorem df_lst {r : dA} (h : DA X E es r) : DF X E (.List es pos) (dLst r) := ⟨fun B => pe_mono (pe_lst (h.run B)) fun σ H Q q => by
  obtain ⟨δ, S, W, Q', R, q, xo, post⟩ := q
  exact ⟨δ, S, W, _, R, q, xo, fun xs δ1 vs S1 H1 q1 e1 R1 n1 => ⟨by rw [n1.length]; exact q1.1, fun p hp => post _ _ _ _ _ _ q1.2 e1 R1 hp n1⟩⟩⟩
/-- a new list, frozen at once -/
def dFz (f : dF) : dE := fun W δ Q => f W δ fun xs δ1 => Q (.lst xs) δ1
theorem de_fz {f : dF} (h : DF X E e f) : DE X E e (dFz f) := ⟨fun B => pe_mono (h.run B) fun σ H Q q => by
  obtain ⟨δ, S, W, Q', R, q, xo, post⟩ := q
  refine ⟨δ, S, W, _, R, q, xo, fun xs δ1 p vs S1 H1 q1 e1 R1 hp n1 => ?_⟩
  have g := Grow.new (o := .lst vs) R1.ex hp
  exact post _ _ _ _ _ q1 (e1.trans g.s) (R1.grow g) (.lst upd_same (n1.mono g.s))⟩
end
end Ev
namespace Ev
open PySem PySem.Spec PyProof.Rows L2
variable [TabC]
variable {K : PySem.W.Frag} {S S' H H' : Hp} {B : Bs} {δ : DS} {σ : L2.St}
theorem Frm.fresh (f : Frm B S H) {p : Addr} (hp : H p = none) : B.H0 p = none ∧ B.pa ≠ some p := by
  refine ⟨?_, fun e => ?_⟩
  · cases q : B.H0 p with
    | none => rfl
    | some o =>
      obtain ⟨o', e⟩ := f.there q
      rw [hp] at e; cases e
  · obtain ⟨o, q⟩ := f.pa p e
    rw [hp] at q; cases q
theorem Rel.pen_ne (R : Rel K B δ S σ H) {p : Addr} (hp : B.pa ≠ some p) (h0 : ∃ o, B.H0 p = some o) : ∀ c, δ.pen ≠ some (p, c) := fun c e => by
  have h := R.pa
  unfold PaOk at h
  split at h
  · rw [e] at h; exact hp h.symm
  · obtain ⟨o, h0⟩ := h0
    rw [(h p c e).1] at h0; cases h0
theorem Rel.pen_new (R : Rel K B δ S σ H) {p : Addr} (hp : H p = none) : ∀ c, δ.pen ≠ some (p, c) := fun c e => by
  have h := R.pen
  rw [e] at h
  obtain ⟨_, _, _, _, _, q, _⟩ := h
  rw [hp] at q; cases q
theorem get_set {α : Type} {l : List α} {i j : Nat} {x y : α} (h : (l.set i x)[j]? = some y) : (j = i ∧ y = x) ∨ (j ≠ i ∧ l[j]? = some y) := by
  by_cases e : i = j
  · subst e
    by_cases hi : i < l.length
    · rw [List.getElem?_set_self hi] at h; exact .inl ⟨rfl, (Option.some.inj h).symm⟩
    · rw [List.getElem?_eq_none (by simpa using hi)] at h; cases h
  · rw [List.getElem?_set_ne e] at h; exact .inr ⟨fun q => e q.symm, h⟩
/-- slot i becomes data -/
theorem Rel.setDat (R : Rel K B δ S σ H) {i : Nat} {v : V} {d : D} (h : Dn K S v d) : Rel K B { δ with sl := δ.sl.set i (.dat d) } S (σ.set i (some v)) H := by
  obtain ⟨ow, h1, h2, h3, h4⟩ := R.sl
  refine ⟨R.ex, R.fr, R.pen, R.pa, by simpa using R.len, fun j => if j = i then none else ow j, fun j x e => ?_, fun j hj => ?_, fun j k a e1 e2 => ?_, fun j a e => ?_⟩
  · rcases get_set e with ⟨rfl, rfl⟩ | ⟨ne, e⟩
    · have hl : j < σ.length := by
        rw [R.len]
        have := (List.getElem?_eq_some_iff.mp e).1
        simpa using this
      exact ⟨by simp, v, List.getElem?_set_self hl, h⟩
    · have := h1 j x e
      simp only [ne, if_false]
      rw [List.getElem?_set_ne (Ne.symm ne)]
      exact this
  · show (if j = i then none else ow j) = none
    split
    · rfl
    · exact h2 j (by simpa using hj)
  · have e1 : (if j = i then none else ow j) = some a := e1
    have e2 : (if k = i then none else ow k) = some a := e2
    split at e1
    · cases e1
    · split at e2
      · cases e2
      · exact h3 j k a e1 e2
  · have e : (if j = i then none else ow j) = some a := e
    split at e
    · cases e
    · exact h4 j a e
/-- slot i is forgotten -/
theorem Rel.forget (R : Rel K B δ S σ H) {i : Nat} {o : Option V} : Rel K B { δ with sl := δ.sl.set i .un } S (σ.set i o) H := by
  obtain ⟨ow, h1, h2, h3, h4⟩ := R.sl
  refine ⟨R.ex, R.fr, R.pen, R.pa, by simpa using R.len, fun j => if j = i then none else ow j, fun j x e => ?_, fun j hj => ?_, fun j k a e1 e2 => ?_, fun j a e => ?_⟩
  · rcases get_set e with ⟨rfl, rfl⟩ | ⟨ne, e⟩
    · show (if j = j then none else ow j) = none
      simp
    · have := h1 j x e
      simp only [ne, if_false]
      rw [List.getElem?_set_ne (Ne.symm ne)]
      exact this
  · show (if j = i then none else ow j) = none
    split
    · rfl
    · exact h2 j (by simpa using hj)
  · have e1 : (if j = i then none else ow j) = some a := e1
    have e2 : (if k = i then none else ow k) = some a := e2
    split at e1
    · cases e1
    · split at e2
      · cases e2
      · exact h3 j k a e1 e2
  · have e : (if j = i then none else ow j) = some a := e
    split at e
    · cases e
    · exact h4 j a e
/-- other values in slots that are not known -/
theorem Rel.agree (R : Rel K B δ S σ H) {σ' : L2.St} (hl : σ'.length = σ.length) (h : ∀ i : Nat, σ'[i]? = σ[i]? ∨ δ.sl[i]? = some Sl.un) : Rel K B δ S σ' H := by
  obtain ⟨ow, h1, h2, h3, h4⟩ := R.sl
  refine ⟨R.ex, R.fr, R.pen, R.pa, hl.trans R.len, ow, fun i x e => ?_, h2, h3, h4⟩
  rcases h i with q | q
  · rw [q]; exact h1 i x e
  · rw [e] at q
    cases q
    exact h1 i _ e
/-- a new object in slot i, of one's own -/
theorem Rel.setNew (R : Rel K B δ S σ H) {i : Nat} {p : Addr} {o : HO} {x : Sl} (hp : H p = none) (ho : ∀ vs, o ≠ .tup vs)
    (hx : ∀ (H1 : Hp), H1 p = some o → B.H0 p = none → B.pa ≠ some p → SlOk K B S H1 (some p) (some (some (.ref p))) x) : Rel K B { δ with sl := δ.sl.set i x } S (σ.set i (some (.ref p))) (upd H p o) := by
  obtain ⟨f1, f2⟩ := R.fr.fresh hp
  have sp : S p = none := R.ex.none hp
  have g : Grow S H S (upd H p o) := ⟨Ex.refl _, Ext.of (Ex.new hp), R.ex.one hp ho, fun _ _ _ n => n⟩
  have R' := R.grow g
  obtain ⟨ow, h1, h2, h3, h4⟩ := R'.sl
  have np : ∀ j, ow j ≠ some p := fun j e => by
    obtain ⟨ow0, a1, a2, a3, a4⟩ := R.sl
    have := h4 j p e
    rcases Nat.lt_or_ge j δ.sl.length with hj | hj
    · have q := h1 j _ (List.getElem?_eq_getElem hj)
      have q0 := a1 j _ (List.getElem?_eq_getElem hj)
      cases hs : δ.sl[j] with
      | un => rw [hs] at q; rw [e] at q; cases q
      | law ns => rw [hs] at q; rw [e] at q; cases q.1
      | dat d => rw [hs] at q; rw [e] at q; cases q.1
      | own ds =>
        rw [hs] at q q0
        obtain ⟨a, vs, r1, _, _, r2, r3, _⟩ := q0
        obtain ⟨a', vs', t1, _, _, t2, t3, _⟩ := q
        rw [e] at t1; cases t1
        rw [r2] at t2; cases t2
        rw [hp] at r3; cases r3
      | hp ds =>
        rw [hs] at q
        obtain ⟨a', vs', t1, t0, _⟩ := q
        rw [e] at t1; cases t1
        exact f2 t0
      | hpK ds =>
        rw [hs] at q
        obtain ⟨a', vs', t1, t0, _⟩ := q
        rw [e] at t1; cases t1
        exact f2 t0
      | ownK ds =>
        rw [hs] at q q0
        obtain ⟨a, vs, r1, _, _, r2, r3, _⟩ := q0
        obtain ⟨a', vs', t1, _, _, t2, t3, _⟩ := q
        rw [e] at t1; cases t1
        rw [r2] at t2; cases t2
        rw [hp] at r3; cases r3
      | ownT ds =>
        rw [hs] at q q0
        obtain ⟨a, vs, r1, _, _, r2, r3, _⟩ := q0
        obtain ⟨a', vs', t1, _, _, t2, t3, _⟩ := q
        rw [e] at t1; cases t1
        rw [r2] at t2; cases t2
        rw [hp] at r3; cases r3
      | ownN ds =>
        rw [hs] at q q0
        obtain ⟨a, vs, r1, _, _, r2, r3, _⟩ := q0
        obtain ⟨a', vs', t1, _, _, t2, t3, _⟩ := q
        rw [e] at t1; cases t1
        rw [r2] at t2; cases t2
        rw [hp] at r3; cases r3
      | kp a ds =>
        rw [hs] at q q0
        obtain ⟨vs, r1, _, _, r3, _⟩ := q0
        obtain ⟨vs', t1, _, _, t3, _⟩ := q
        rw [e] at t1; cases t1
        rw [hp] at r3; cases r3
    · rw [h2 j hj] at e; cases e
  by_cases hi : i < δ.sl.length
  · refine ⟨R'.ex, R'.fr, R'.pen, R'.pa, by simpa using R'.len, fun j => if j = i then some p else ow j, fun j y e => ?_, fun j hj => ?_, fun j k a e1 e2 => ?_, fun j a e => ?_⟩
    · rcases get_set e with ⟨rfl, rfl⟩ | ⟨ne, e⟩
      · have hl : j < σ.length := by rw [R.len]; exact hi
        rw [List.getElem?_set_self hl]
        simp only [if_true]
        exact hx _ upd_same f1 f2
      · have := h1 j y e
        simp only [ne, if_false]
        rw [List.getElem?_set_ne (Ne.symm ne)]
        exact this
    · have hj' : δ.sl.length ≤ j := by simpa using hj
      have ne : j ≠ i := by omega
      show (if j = i then some p else ow j) = none
      rw [if_neg ne]
      exact h2 j hj'
    · have e1 : (if j = i then some p else ow j) = some a := e1
      have e2 : (if k = i then some p else ow k) = some a := e2
      split at e1
      · cases e1
        split at e2
        · exact (by assumption : j = i).trans (by assumption : k = i).symm
        · exact absurd e2 (np k)
      · split at e2
        · cases e2; exact absurd e1 (np j)
        · exact h3 j k a e1 e2
    · have e : (if j = i then some p else ow j) = some a := e
      split at e
      · cases e
        exact ⟨sp, .inl f1, R.pen_new hp, _, upd_same⟩
      · exact h4 j a e
  · have e1 : δ.sl.set i x = δ.sl := by rw [List.set_eq_of_length_le (by omega)]
    have e2 : σ.set i (some (V.ref p)) = σ := by rw [List.set_eq_of_length_le (by rw [R.len]; omega)]
    rw [e1, e2]
    exact R'
theorem Rel.setOwn (R : Rel K B δ S σ H) {i : Nat} {p : Addr} {vs : List V} {ds : List D} (hp : H p = none) (n : DnA K S vs ds) : Rel K B { δ with sl := δ.sl.set i (.own ds) } S (σ.set i (some (.ref p))) (upd H p (.lst vs)) :=
  R.setNew hp (fun _ z => nomatch z) fun H1 h1 a b => ⟨p, vs, rfl, a, b, rfl, h1, n⟩
/-- the object in slot i is changed -/
theorem Rel.mut (R : Rel K B δ S σ H) {i : Nat} {p : Addr} {o : HO} {x y : Sl} (ho : ∀ vs, o ≠ .tup vs) (hi : δ.sl[i]? = some x) (hx : ∀ oa, SlOk K B S H oa σ[i]? x → oa = some p)
    (hy : ∀ H1 : Hp, H1 p = some o → SlOk K B S H1 (some p) σ[i]? y) : Rel K B { δ with sl := δ.sl.set i y } S σ (upd H p o) := by
  obtain ⟨ow, h1, h2, h3, h4⟩ := R.sl
  have oi : ow i = some p := hx _ (h1 i x hi)
  obtain ⟨sp, q2, q3, o0, q4⟩ := h4 i p oi
  have ne : ∀ a, S a ≠ none → a ≠ p := fun a h e => h (e ▸ sp)
  refine ⟨⟨fun a u h => by rw [upd_ne (ne a (by rw [h]; simp))]; exact R.ex a u h, fun b vs h => by
    by_cases q : b = p
    · subst q; rw [upd_same] at h; exact absurd (Option.some.inj h) (ho vs)
    · rw [upd_ne q] at h; exact R.ex.tp b vs h, R.ex.tb.at_ p (fun b u n h => by rw [upd_ne n]; exact h) (fun u z => by
      obtain ⟨u', z1, z2⟩ := (h1 i x hi).plA oi
      rw [z1] at z; cases z; exact z2) fun _ _ z => z⟩, ⟨R.fr.s, fun b u h hb nb => ?_, fun b ps h => by
      obtain ⟨qs, z⟩ := R.fr.t b ps h
      refine ⟨qs, ?_⟩
      rw [upd_ne (fun e => by
        subst e
        obtain ⟨u', z1, z2⟩ := (h1 i x hi).plA oi
        rw [z1] at z; cases z; exact absurd rfl (z2.1 _))]
      exact z, R.fr.no, fun a e => ?_⟩, ?_, R.pa, by simpa using R.len, ow, fun j z e => ?_, fun j hj => h2 j (by simpa using hj), h3, fun j a e => ?_⟩
  · have : b ≠ p := fun e => by
      subst e
      rcases q2 with q2 | q2
      · rw [h] at q2; cases q2
      · exact hb q2
    rw [upd_ne this]
    exact R.fr.h b u h hb nb
  · by_cases e2 : a = p
    · subst e2; exact ⟨_, upd_same⟩
    · rw [upd_ne e2]; exact R.fr.pa a e
  · have hp := R.pen
    cases hpe : δ.pen with
    | none => trivial
    | some ac =>
      obtain ⟨a, c⟩ := ac
      rw [hpe] at hp
      have nap : a ≠ p := fun e => q3 c (by rw [hpe, e])
      obtain ⟨n, ca, ns, k, m, r1, r2, r3⟩ := hp
      exact ⟨n, ca, ns, k, m, by rw [upd_ne nap]; exact r1, r2, r3⟩
  · rcases get_set e with ⟨rfl, rfl⟩ | ⟨nj, e⟩
    · rw [oi]
      exact hy _ upd_same
    · refine (h1 j z e).grow (Ex.refl _) fun a u ea ha _ => ?_
      have : a ≠ p := fun q => nj (h3 j i a ea (by rw [q]; exact oi))
      rw [upd_ne this]
      exact ha
  · obtain ⟨r1, r2, r3, u, r4⟩ := h4 j a e
    refine ⟨r1, r2, r3, ?_⟩
    by_cases e2 : a = p
    · subst e2; exact ⟨_, upd_same⟩
    · rw [upd_ne e2]; exact ⟨u, r4⟩
/-- the list of slot i (of one's own, or the pen's): where it stands, what it becomes -/
theorem Rel.own (R : Rel K B δ S σ H) {i : Nat} {ds : List D} (hi : δ.sl[i]? = some (.own ds)) : ∃ p vs, σ[i]? = some (some (.ref p)) ∧ H p = some (.lst vs) ∧ DnA K S vs ds ∧ S p = none ∧ B.H0 p = none ∧ B.pa ≠ some p ∧
    ∀ vs' ds', DnA K S vs' ds' → Rel K B { δ with sl := δ.sl.set i (.own ds') } S σ (upd H p (.lst vs')) := by
  obtain ⟨ow, h1, h2, h3, h4⟩ := id R.sl
  obtain ⟨a, vs, r1, r2, r3, r4, r5, r6⟩ := h1 i _ hi
  refine ⟨a, vs, r4, r5, r6, (h4 i a r1).1, r2, r3, fun vs' ds' n => R.mut (fun _ z => nomatch z) hi (fun oa q => ?_) fun H1 e => ⟨a, vs', rfl, r2, r3, r4, e, n⟩⟩
  obtain ⟨a', _, t1, _, _, t4, _⟩ := q
  rw [r4] at t4; cases t4
  exact t1
theorem Rel.hp (R : Rel K B δ S σ H) {i : Nat} {ds : List D} (hi : δ.sl[i]? = some (.hp ds)) : ∃ p vs, σ[i]? = some (some (.ref p)) ∧ H p = some (.lst vs) ∧ DnA K S vs ds ∧ S p = none ∧ B.pa = some p ∧
    ∀ vs' ds', DnA K S vs' ds' → Rel K B { δ with sl := δ.sl.set i (.hp ds') } S σ (upd H p (.lst vs')) := by
  obtain ⟨ow, h1, h2, h3, h4⟩ := id R.sl
  obtain ⟨a, vs, r1, r2, r4, r5, r6⟩ := h1 i _ hi
  refine ⟨a, vs, r4, r5, r6, (h4 i a r1).1, r2, fun vs' ds' n => R.mut (fun _ z => nomatch z) hi (fun oa q => ?_) fun H1 e => ⟨a, vs', rfl, r2, r4, e, n⟩⟩
  obtain ⟨a', _, t1, _, t4, _⟩ := q
  rw [r4] at t4; cases t4
  exact t1
theorem Rel.hpK (R : Rel K B δ S σ H) {i : Nat} {es : List (Key × D)} (hi : δ.sl[i]? = some (.hpK es)) : ∃ p kvs, σ[i]? = some (some (.ref p)) ∧ H p = some (.dK kvs) ∧ kvs.map (·.1) = es.map (·.1) ∧ DnA K S (kvs.map (·.2)) (es.map (·.2)) ∧ S p = none ∧ B.pa = some p ∧
    ∀ kvs' es', kvs'.map (·.1) = es'.map (·.1) → DnA K S (kvs'.map (·.2)) (es'.map (·.2)) → Rel K B { δ with sl := δ.sl.set i (.hpK es') } S σ (upd H p (.dK kvs')) := by
  obtain ⟨ow, h1, h2, h3, h4⟩ := id R.sl
  obtain ⟨a, kvs, r1, r2, r4, r5, r6, r7⟩ := h1 i _ hi
  refine ⟨a, kvs, r4, r5, r6, r7, (h4 i a r1).1, r2, fun kvs' es' n1 n2 => R.mut (fun _ z => nomatch z) hi (fun oa q => ?_) fun H1 e => ⟨a, kvs', rfl, r2, r4, e, n1, n2⟩⟩
  obtain ⟨a', _, t1, _, t4, _⟩ := q
  rw [r4] at t4; cases t4
  exact t1
/-- slot i's list is frozen -/
theorem Rel.freeze (R : Rel K B δ S σ H) {i : Nat} {x : Sl} {d : D} {p : Addr} {o : HO} (hi : δ.sl[i]? = some x) (hx : ∀ oa, SlOk K B S H oa σ[i]? x → oa = some p) (ho : H p = some o) (h0 : B.H0 p = none) (hpa : B.pa ≠ some p)
    (hv : σ[i]? = some (some (.ref p))) (hd : ∀ S1 : Hp, S1 p = some o → Ex S S1 → Dn K S1 (.ref p) d) : ∃ S1, Ex S S1 ∧ Rel K B { δ with sl := δ.sl.set i (.dat d) } S1 σ H ∧ Dn K S1 (.ref p) d := by
  obtain ⟨ow, h1, h2, h3, h4⟩ := R.sl
  have oi : ow i = some p := hx _ (h1 i x hi)
  obtain ⟨sp, q2, q3, _⟩ := h4 i p oi
  have e1 : Ex S (upd S p o) := Ex.new sp
  have dn : Dn K (upd S p o) (.ref p) d := hd _ upd_same e1
  refine ⟨upd S p o, e1, ⟨⟨fun a u h => ?_, fun b vs h => e1 _ _ (R.ex.tp b vs h), R.ex.tb.at_ p (fun _ _ _ h => h) (fun u z => by
    obtain ⟨u', z1, z2⟩ := (h1 i x hi).plA oi
    rw [z1] at z; cases z; exact z2) fun b n z => by rw [upd_ne n]; exact z⟩, ⟨R.fr.s.trans e1, R.fr.h, R.fr.t, fun b u h n => ?_, R.fr.pa⟩, ?_, R.pa, by simpa using R.len, fun j => if j = i then none else ow j, fun j z e => ?_, fun j hj => ?_, fun j k a e1 e2 => ?_, fun j a e => ?_⟩, dn⟩
  · by_cases e : a = p
    · subst e; rw [upd_same] at h; rw [ho]; exact h
    · rw [upd_ne e] at h; exact R.ex a u h
  · have : b ≠ p := fun e => by subst e; rw [h] at h0; cases h0
    rw [upd_ne this]; exact R.fr.no b u h n
  · have hp := R.pen
    cases hpe : δ.pen with
    | none => trivial
    | some ac =>
      obtain ⟨a, c⟩ := ac
      rw [hpe] at hp
      have nap : a ≠ p := fun e => q3 c (by rw [hpe, e])
      obtain ⟨n, ca, ns, k, m, r1, r2, r3⟩ := hp
      exact ⟨by rw [upd_ne nap]; exact n, ca, ns, k, m, r1, e1 _ _ r2, r3⟩
  · rcases get_set e with ⟨rfl, rfl⟩ | ⟨ne, e⟩
    · exact ⟨by simp, _, hv, dn⟩
    · simp only [ne, if_false]
      exact (h1 j z e).grow e1 fun a u _ q _ => q
  · show (if j = i then none else ow j) = none
    split
    · rfl
    · exact h2 j (by simpa using hj)
  · have e1 : (if j = i then none else ow j) = some a := e1
    have e2 : (if k = i then none else ow k) = some a := e2
    split at e1
    · cases e1
    · split at e2
      · cases e2
      · exact h3 j k a e1 e2
  · have e : (if j = i then none else ow j) = some a := e
    split at e
    · cases e
    · rename_i nj
      obtain ⟨r1, r2, r3, r4⟩ := h4 j a e
      have : a ≠ p := fun q => nj (h3 j i a e (by rw [q]; exact oi))
      exact ⟨by rw [upd_ne this]; exact r1, r2, r3, r4⟩
theorem Rel.freezeL (R : Rel K B δ S σ H) {i : Nat} {ds : List D} (hi : δ.sl[i]? = some (.own ds)) : ∃ S1 v, Ex S S1 ∧ Rel K B { δ with sl := δ.sl.set i (.dat (.lst ds)) } S1 σ H ∧ σ[i]? = some (some v) ∧ Dn K S1 v (.lst ds) := by
  obtain ⟨p, vs, h1, h2, h3, h4, h5, h6, _⟩ := R.own hi
  obtain ⟨S1, e, R1, n⟩ := R.freeze (d := .lst ds) hi (fun oa q => by obtain ⟨a', _, t1, _, _, t4, _⟩ := q; rw [h1] at t4; cases t4; exact t1) h2 h5 h6 h1 fun S1 e x => .lst e (h3.mono x)
  exact ⟨S1, _, e, R1, h1, n⟩
end Ev
namespace Ev
open PySem PySem.Spec PyProof.Rows L2
variable [TabC]
variable {K : PySem.W.Frag} {S S' H H' : Hp} {B : Bs} {δ : DS} {σ : L2.St}
section
variable {X : Cx} {E : EK} {e a b c : Expr} {es : List Expr} {pos : Pos} {st : Stmt} {rest : List Stmt} {da db : dE} {t u : dS}
def dTake (i : Nat) : dE := fun _ δ Q => match δ.sl[i]? with
  | some (.dat d) => Q d δ
  | some (.own ds) => Q (.lst ds) { δ with sl := δ.sl.set i (.dat (.lst ds)) }
  | _ => False
theorem de_take {i : Nat} {x : Str} (h : PE X (.Name x pos) (tVar i)) : DE X E (.Name x pos) (dTake i) := ⟨fun B => pe_mono h fun σ H Q q => by
  obtain ⟨δ, S, W, Q', R, q, _, post⟩ := q
  unfold dTake at q
  split at q
  · rename_i d hd
    obtain ⟨v, e1, e2⟩ := R.dat hd
    exact ⟨v, e1, post _ _ _ _ _ q (Ex.refl _) R e2⟩
  · rename_i ds hd
    obtain ⟨S1, v, e1, R1, e2, n⟩ := R.freezeL hd
    exact ⟨v, e2, post _ _ _ _ _ q e1 R1 n⟩
  · exact q.elim⟩
def dNext : dS := fun _ N δ => N.nx δ
def dSeq (t u : dS) : dS := fun W N δ => t W { N with nx := fun δ' => u W N δ' } δ
theorem dss_nil : DSs X E [] dNext := ⟨fun B => pss_mono pss_nil fun Z σ H q => by
  obtain ⟨δ, S, W, N, R, q, xo, h1, _⟩ := q
  exact h1 _ _ _ _ q (Ex.refl _) R⟩
theorem dss_cons (h1 : DSt X E st t) (h2 : DSs X E rest u) : DSs X E (st :: rest) (dSeq t u) := ⟨fun B => pss_mono (pss_cons (h1.run B) (h2.run B)) fun Z σ H q => by
  obtain ⟨δ, S, W, N, R, q, xo, p1, p2, p3, p4⟩ := q
  refine ⟨δ, S, W, _, R, q, xo, fun δ1 σ1 S1 H1 q1 e1 R1 => ?_, p2, p3, p4⟩
  exact ⟨δ1, S1, W, N, R1, q1, xo.mono e1, fun δ2 σ2 S2 H2 q2 e2 R2 => p1 _ _ _ _ q2 (e1.trans e2) R2, fun x δ2 v σ2 S2 H2 q2 e2 R2 n2 => p2 _ _ _ _ _ _ q2 (e1.trans e2) R2 n2,
    fun δ2 σ2 S2 H2 q2 e2 R2 => p3 _ _ _ _ q2 (e1.trans e2) R2, fun δ2 σ2 S2 H2 q2 e2 R2 => p4.1 _ _ _ _ q2 (e1.trans e2) R2, fun xs δ2 p vs σ2 S2 H2 q2 e2 R2 hp n2 => p4.2 _ _ _ _ _ _ _ q2 (e1.trans e2) R2 hp n2⟩⟩
theorem dss_one (h1 : DSt X E st t) : DSs X E [st] t := ⟨fun B => pss_one (h1.run B)⟩
def dNever : dS := fun _ _ _ => False
def dBrk : dS := fun _ N δ => N.bk δ
def dCnt : dS := fun _ N δ => N.ct δ
def dRet (d : dE) : dS := fun W N δ => d W δ fun x δ' => N.rt x δ'
theorem ds_ret (h : DE X E e da) : DSt X E (.Return (some e) pos) (dRet da) := ⟨fun B => ps_mono (ps_ret (h.run B)) fun Z σ H q => by
  obtain ⟨δ, S, W, N, R, q, xo, _, h1, _⟩ := q
  exact ⟨δ, S, W, _, R, q, xo, fun x δ' v S' H' q1 e1 R1 n1 => h1 _ _ _ _ _ _ q1 e1 R1 n1⟩⟩
def dRetN : dS := fun W N δ => N.rt .non δ
def dExpr (d : dE) : dS := fun W N δ => d W δ fun _ δ' => N.nx δ'
theorem ds_expr (h : DE X E e da) (hs : swapsWith e none pos.line X.env = pure false := by rfl) : DSt X E (.Expr e pos) (dExpr da) := ⟨fun B => ps_mono (ps_expr (h.run B) hs) fun Z σ H q => by
  obtain ⟨δ, S, W, N, R, q, xo, h1, _⟩ := q
  exact ⟨δ, S, W, _, R, q, xo, fun x δ' v S' H' q1 e1 R1 n1 => h1 _ _ _ _ q1 e1 R1⟩⟩
def dIfS (c : dT) (t u : dS) : dS := fun W N δ => c W δ fun k δ' => match k with | true => t W N δ' | false => u W N δ'
theorem ds_if {tc : dT} {as bs : List Stmt} (hc : DT X E c tc) (ha : DSs X E as t) (hb : DSs X E bs u) : DSt X E (.If c as bs pos) (dIfS tc t u) := ⟨fun B => ps_mono (ps_if (hc.run B) (ha.run B) (hb.run B)) fun Z σ H q => by
  obtain ⟨δ, S, W, N, R, q, xo, p1, p2, p3, p4⟩ := q
  refine ⟨δ, S, W, _, R, q, xo, fun k δ1 S1 H1 q1 e1 R1 => ?_⟩
  have go : ∀ d : dS, d W N δ1 → liftS X.K B E d Z σ H1 := fun d q1 => ⟨δ1, S1, W, N, R1, q1, xo.mono e1, fun δ2 σ2 S2 H2 q2 e2 R2 => p1 _ _ _ _ q2 (e1.trans e2) R2, fun x δ2 v σ2 S2 H2 q2 e2 R2 n2 => p2 _ _ _ _ _ _ q2 (e1.trans e2) R2 n2,
    fun δ2 σ2 S2 H2 q2 e2 R2 => p3 _ _ _ _ q2 (e1.trans e2) R2, fun δ2 σ2 S2 H2 q2 e2 R2 => p4.1 _ _ _ _ q2 (e1.trans e2) R2, fun xs δ2 p vs σ2 S2 H2 q2 e2 R2 hp n2 => p4.2 _ _ _ _ _ _ _ q2 (e1.trans e2) R2 hp n2⟩
  cases k with
  | true => exact iteT (go _ q1)
  | false => exact iteF (go _ q1)⟩
def setSl (δ : DS) (i : Nat) (x : Sl) : DS := { δ with sl := δ.sl.set i x }
def dSet (i : Nat) (d : dE) : dS := fun W N δ => d W δ fun x δ' => N.nx (setSl δ' i (.dat x))
def dSetF (i : Nat) (d : dF) : dS := fun W N δ => d W δ fun xs δ' => N.nx (setSl δ' i (.own xs))
theorem ds_set {i : Nat} {x : Str} {pos' : Pos} (hN : X.N.Nodup) (hi : X.N[i]? = some x) (hx : Loc X.env.scope x) (h : DE X E e da) (hs : swapsWith e (some (.Name x pos')) pos.line X.env = pure false := by rfl) (hf : X.fn x = true ∨ X.env.scope.names.lookup x = some .local := by first | exact .inl rfl | exact .inr rfl | assumption) :
    DSt X E (.Assign [.Name x pos'] e pos) (dSet i da) := ⟨fun B => ps_mono (ps_set hN hi hx (h.run B) hs hf) fun Z σ H q => by
  obtain ⟨δ, S, W, N, R, q, xo, h1, _⟩ := q
  exact ⟨δ, S, W, _, R, q, xo, fun x δ' v S' H' q1 e1 R1 n1 => h1 _ _ _ _ q1 e1 (R1.setDat n1)⟩⟩
theorem ds_setF {i : Nat} {x : Str} {pos' : Pos} {d : dF} (hN : X.N.Nodup) (hi : X.N[i]? = some x) (hx : Loc X.env.scope x) (h : DF X E e d) (hs : swapsWith e (some (.Name x pos')) pos.line X.env = pure false := by rfl) (hf : X.fn x = true ∨ X.env.scope.names.lookup x = some .local := by first | exact .inl rfl | exact .inr rfl | assumption) :
    DSt X E (.Assign [.Name x pos'] e pos) (dSetF i d) := ⟨fun B => ps_mono (ps_set hN hi hx (h.run B) hs hf) fun Z σ H q => by
  obtain ⟨δ, S, W, N, R, q, xo, h1, _⟩ := q
  exact ⟨δ, S, W, _, R, q, xo, fun xs δ' p vs S' H' q1 e1 R1 hp n1 => h1 _ _ _ _ q1 e1 (R1.setOwn hp n1)⟩⟩
def gN (i : Nat) : dG := fun d δ Q => Q (setSl δ i (.dat d))
theorem dg_name {i : Nat} {x : Str} (h : PG X (.Name x pos) (gName i)) : DG X (.Name x pos) (gN i) [i] := ⟨fun B => ⟨fun pins s σ H v u Q I r q => h.run pins s σ H v u Q I r (by
  obtain ⟨δ, S, d, Q', R, n, q, post⟩ := q
  refine post _ _ _ _ q (Ex.refl _) (R.setDat n) (fun j hj => ?_) (by simp)
  have : j ≠ i := by simpa using hj
  rw [List.getElem?_set_ne (Ne.symm this)])⟩⟩
abbrev dGs := List D → DS → (DS → Prop) → Prop
def liftGs (K : PySem.W.Frag) (B : Bs) (g : dGs) (vs : List Nat) : TGs := fun us σ H Q => ∃ δ S ds Q', Rel K B δ S σ H ∧ DnA K S us ds ∧ g ds δ Q' ∧
  ∀ δ' σ' S' H', Q' δ' → Ex S S' → Rel K B δ' S' σ' H' → (∀ i, i ∉ vs → σ'[i]? = σ[i]?) → σ'.length = σ.length → Q σ' H'
structure DGs (X : Cx) (tg : List Expr) (g : dGs) (vs : List Nat) : Prop where
  run : ∀ B, PGs X tg (liftGs X.K B g vs)
def gsNil : dGs := fun ds δ Q => match ds with | [] => Q δ | _ => False
def gsCons (g : dG) (r : dGs) : dGs := fun ds δ Q => match ds with | d :: ds => g d δ fun δ' => r ds δ' Q | [] => False
theorem dgs_nil : DGs X [] gsNil [] := ⟨fun B => ⟨fun pins s σ H vs us Q I r q => pgs_nil.run pins s σ H vs us Q I r (by
  obtain ⟨δ, S, ds, Q', R, n, q, post⟩ := q
  cases n with
  | nil => exact ⟨rfl, post _ _ _ _ q (Ex.refl _) R (fun _ _ => rfl) rfl⟩
  | cons _ _ => exact q.elim)⟩⟩
theorem dgs_cons {g : dG} {r : dGs} {vs ws : List Nat} (h1 : DG X e g vs) (h2 : DGs X es r ws) (hs : (assignEach (e :: es) X.env).map (·.2) = assign e X.env :: (assignEach es X.env).map (·.2) := by rfl) : DGs X (e :: es) (gsCons g r) (vs ++ ws) :=
  ⟨fun B => ⟨fun pins s σ H us uu Q I rr q => (pgs_cons (h1.run B) (h2.run B) hs).run pins s σ H us uu Q I rr (by
    obtain ⟨δ, S, ds, Q', R, n, q, post⟩ := q
    cases n with
    | nil => exact q.elim
    | cons n ns =>
      refine ⟨_, _, rfl, δ, S, _, _, R, n, q, fun δ1 σ1 S1 H1 q1 e1 R1 a1 l1 => ?_⟩
      refine ⟨δ1, S1, _, _, R1, ns.mono e1, q1, fun δ2 σ2 S2 H2 q2 e2 R2 a2 l2 => post _ _ _ _ q2 (e1.trans e2) R2 (fun i hi => ?_) (l2.trans l1)⟩
      rw [a2 i (fun z => hi (by simp [z])), a1 i (fun z => hi (by simp [z]))])⟩⟩
def gT (n : Nat) (r : dGs) : dG := fun d δ Q => match d with | .tup ds => ds.length = n ∧ r ds δ Q | _ => False
theorem dg_tup {k : Nat} {r : dGs} {n : Nat} {vs : List Nat} (hc : X.calm = true) (h : DGs X es r vs) (hn : (assignEach es X.env).length = n := by rfl) (hst : (assignEach es X.env).findIdx? (·.1) = none := by rfl) :
    DG X (.Tuple es k pos) (gT n r) vs := ⟨fun B => ⟨fun pins s σ H v u Q I rv q => (pg_tup hc (h.run B) hn hst).run pins s σ H v u Q I rv (by
    obtain ⟨δ, S, d, Q', R, dn, q, post⟩ := q
    cases d with
    | tup ds =>
      cases dn with
      | tup hq ha => exact ⟨_, _, rfl, SqT.of (R.ex _ _ hq), ha.length.trans q.1, δ, S, ds, Q', R, ha, q.2, post⟩
    | _ => exact q.elim)⟩⟩
def dAsg (d : dE) (g : dG) : dS := fun W N δ => d W δ fun x δ' => g x δ' N.nx
theorem ds_asg {tg : Expr} {g : dG} {vs : List Nat} (h : DE X E e da) (hg : DG X tg g vs) (hs : swapsWithSole [tg] e pos.line X.env = pure false := by rfl) (hw : swappedStores [tg] e X.env = pure none := by rfl)
    (h1 : (assignEach [tg] X.env).map (·.2) = [assign tg X.env] := by rfl) : DSt X E (.Assign [tg] e pos) (dAsg da g) := ⟨fun B => ps_mono (ps_asg (h.run B) (hg.run B) hs hw h1) fun Z σ H q => by
  obtain ⟨δ, S, W, N, R, q, xo, p1, _⟩ := q
  refine ⟨δ, S, W, _, R, q, xo, fun x δ' v S' H' q1 e1 R1 n1 => ?_⟩
  exact ⟨δ', S', x, N.nx, R1, n1, q1, fun δ2 σ2 S2 H2 q2 e2 R2 _ _ => p1 _ _ _ _ q2 (e1.trans e2) R2⟩⟩
abbrev dI := XW → DS → (List D → DS → Prop) → Prop
structure ItOk (K : PySem.W.Frag) (J : It) (ds : List D) (S : Hp) : Prop where
  goes : ∀ i S1 H1, Ex S S1 → Sb S1 H1 → i < ds.length → J.go i H1
  stops : ∀ S1 H1, Ex S S1 → Sb S1 H1 → J.stop ds.length H1
  yields : ∀ i S1 H1 x H2, Ex S S1 → Sb S1 H1 → i < ds.length → J.yld i H1 x H2 → ∃ S2 d, Grow S1 H1 S2 H2 ∧ ds[i]? = some d ∧ Dn K S2 x d
theorem ItOk.mono {J : It} {ds : List D} (h : ItOk K J ds S) (e : Ex S S') : ItOk K J ds S' :=
  ⟨fun i S1 H1 a => h.goes i S1 H1 (e.trans a), fun S1 H1 a => h.stops S1 H1 (e.trans a), fun i S1 H1 x H2 a => h.yields i S1 H1 x H2 (e.trans a)⟩
def liftI (K : PySem.W.Frag) (B : Bs) (E : EK) (w : dI) : TI := fun σ H R => ∃ δ S W Q', Rel K B δ S σ H ∧ w W δ Q' ∧ XOk K B E W S ∧
  ∀ ds δ' S' H' J, Q' ds δ' → Ex S S' → Rel K B δ' S' σ H' → ItOk K J ds S' → R J H'
structure DI (X : Cx) (E : EK) (tg iter : Expr) (w : dI) : Prop where
  run : ∀ B, PI X tg iter (liftI X.K B E w)
theorem pi_mono {tg iter : Expr} {w w' : TI} (h : PI X tg iter w) (m : ∀ σ H R, w' σ H R → w σ H R) : PI X tg iter w' := ⟨fun pins s σ H R I q => h.run pins s σ H R I (m _ _ _ q)⟩
def wFor (g : dG) (b : dS) (W : XW) (N : dEnds) : List D → DS → Prop
  | [], δ => N.nx δ
  | d :: ds, δ => g d δ fun δ1 => b W { N with nx := wFor g b W N ds, ct := wFor g b W N ds, bk := N.nx } δ1
def dFor (it : dI) (g : dG) (b : dS) : dS := fun W N δ => it W δ fun ds δ1 => wFor g b W N ds δ1
theorem ds_for {tg iter : Expr} {body : List Stmt} {w : dI} {g : dG} {vs : List Nat} (hp : PassesOwn (model X.prog X.w) X.A X.env X.xe) (hc : X.calm = true) (hi : DI X E tg iter w) (hg : DG X tg g vs) (hb : DSs X E body t)
    (hs : ∀ x, foldedSetIterable iter X.env x = pure x := by intro _; rfl) : DSt X E (.For tg iter body [] pos) (dFor w g t) := ⟨fun B => ps_mono (ps_for hp hc (hi.run B) (hg.run B) (hb.run B) hs) fun Z σ H q => by
  obtain ⟨δ, S, W, N, R, q, xo, p1, p2, p3, p4⟩ := q
  refine ⟨δ, S, W, _, R, q, xo, fun ds δ1 S1 H1 J q1 e1 R1 it1 => ?_⟩
  refine ⟨fun i m σ H => m = ds.length - i ∧ i ≤ ds.length ∧ ∃ δ S2, Ex S1 S2 ∧ Rel X.K B δ S2 σ H ∧ wFor g t W N (ds.drop i) δ, ⟨_, rfl, Nat.zero_le _, δ1, S1, Ex.refl _, R1, q1⟩, ?_⟩
  rintro i m σ2 H2 ⟨rfl, hi, δ2, S2, e2, R2, q2⟩
  by_cases hlt : i < ds.length
  · refine .inr ⟨it1.goes i S2 H2 e2 R2.ex hlt, fun σ' H' => (fun i m σ H => m = ds.length - i ∧ i ≤ ds.length ∧ ∃ δ S2, Ex S1 S2 ∧ Rel X.K B δ S2 σ H ∧ wFor g t W N (ds.drop i) δ) (i + 1) (ds.length - (i + 1)) σ' H', fun σ' H' h => ⟨_, by omega, h⟩, fun x H3 y => ?_⟩
    obtain ⟨S3, d, g3, ed, dn⟩ := it1.yields i S2 H2 x H3 e2 R2.ex hlt y
    have hd : ds.drop i = d :: ds.drop (i + 1) := by
      obtain ⟨h1, h2⟩ := List.getElem?_eq_some_iff.mp ed
      rw [List.drop_eq_getElem_cons h1, h2]
    rw [hd] at q2
    refine ⟨δ2, S3, d, _, R2.grow g3, dn, q2, fun δ4 σ4 S4 H4 q4 e4 R4 _ _ => ?_⟩
    have e : Ex S S4 := (e1.trans e2).trans (g3.s.trans e4)
    refine ⟨δ4, S4, W, _, R4, q4, xo.mono e, fun δ5 σ5 S5 H5 q5 e5 R5 => ?_, fun x δ5 v σ5 S5 H5 q5 e5 R5 n5 => p2 _ _ _ _ _ _ q5 (e.trans e5) R5 n5, fun δ5 σ5 S5 H5 q5 e5 R5 => p1 _ _ _ _ q5 (e.trans e5) R5, fun δ5 σ5 S5 H5 q5 e5 R5 => ?_, fun xs δ5 p vs σ5 S5 H5 q5 e5 R5 hp n5 => p4.2 _ _ _ _ _ _ _ q5 (e.trans e5) R5 hp n5⟩
    · exact ⟨rfl, hlt, δ5, S5, e2.trans (g3.s.trans (e4.trans e5)), R5, q5⟩
    · exact ⟨rfl, hlt, δ5, S5, e2.trans (g3.s.trans (e4.trans e5)), R5, q5⟩
  · have e : i = ds.length := by omega
    subst e
    rw [List.drop_length] at q2
    exact .inl ⟨it1.stops S2 H2 e2 R2.ex, p1 _ _ _ _ q2 (e1.trans e2) R2⟩⟩
/-- while: an invariant with a measure -/
def dWhile (c : dT) (b : dS) : dS := fun W N δ => ∃ V : Nat → DS → Prop, (∃ m, V m δ) ∧ ∀ m δ, V m δ → c W δ fun k δ1 => match k with
  | true => b W { N with nx := fun δ' => ∃ m', m' < m ∧ V m' δ', ct := fun δ' => ∃ m', m' < m ∧ V m' δ', bk := N.nx } δ1
  | false => N.nx δ1
theorem ds_while {body : List Stmt} {tc : dT} (hp : PassesOwn (model X.prog X.w) X.A X.env X.xe) (hc : DT X E c tc) (hb : DSs X E body t) : DSt X E (.While c body [] pos) (dWhile tc t) := ⟨fun B => ps_mono (ps_while hp (hc.run B) (hb.run B)) fun Z σ H q => by
  obtain ⟨δ, S, W, N, R, ⟨V, ⟨m0, v0⟩, turn⟩, xo, p1, p2, p3, p4⟩ := q
  refine ⟨fun m σ H => ∃ δ S1, Ex S S1 ∧ Rel X.K B δ S1 σ H ∧ V m δ, ⟨m0, δ, S, Ex.refl _, R, v0⟩, ?_⟩
  rintro m σ1 H1 ⟨δ1, S1, e1, R1, v1⟩
  refine ⟨δ1, S1, W, _, R1, turn m δ1 v1, xo.mono e1, fun k δ2 S2 H2 q2 e2 R2 => ?_⟩
  cases k with
  | true =>
    have e := e1.trans e2
    refine iteT ⟨fun σ' H' => ∃ m', m' < m ∧ ∃ δ S1, Ex S S1 ∧ Rel X.K B δ S1 σ' H' ∧ V m' δ, fun σ' H' h => h, δ2, S2, W, _, R2, q2, xo.mono e, fun δ5 σ5 S5 H5 q5 e5 R5 => ?_, fun x δ5 v σ5 S5 H5 q5 e5 R5 n5 => p2 _ _ _ _ _ _ q5 (e.trans e5) R5 n5, fun δ5 σ5 S5 H5 q5 e5 R5 => p1 _ _ _ _ q5 (e.trans e5) R5, fun δ5 σ5 S5 H5 q5 e5 R5 => ?_, fun xs δ5 p vs σ5 S5 H5 q5 e5 R5 hp n5 => p4.2 _ _ _ _ _ _ _ q5 (e.trans e5) R5 hp n5⟩
    · obtain ⟨m', hm, v⟩ := q5
      exact ⟨m', hm, δ5, S5, e.trans e5, R5, v⟩
    · obtain ⟨m', hm, v⟩ := q5
      exact ⟨m', hm, δ5, S5, e.trans e5, R5, v⟩
  | false =>
    exact iteF (p1 _ _ _ _ q2 (e1.trans e2) R2)⟩
end
end Ev
namespace Ev
open PySem PySem.Spec PyProof.Rows L2
variable [TabC]
variable {K : PySem.W.Frag} {S S' H H' : Hp} {B : Bs} {δ : DS} {σ : L2.St}
section
variable {X : Cx} {E : EK} {e a b c tg : Expr} {es : List Expr} {pos : Pos} {st : Stmt} {rest : List Stmt} {da db : dE} {t u : dS}
/-- a list or a tuple -/
def iSeq (K : PySem.W.Frag) (tl : TE) : TI := fun σ H R => tl σ H fun x H1 => ∃ a, x = .ref a ∧ (((∃ xs, SqL K H1 a xs) ∧ R (Itl K a) H1) ∨ ((∃ xs, SqT K H1 a xs) ∧ R (Itt K a) H1))
theorem pi_seq {l : Expr} {tl : TE} (hl : PE X l tl) : PI X tg l (iSeq X.K tl) := by
  refine ⟨fun pins s σ H R I h => ?_⟩
  refine thn (hl.run pins s σ H _ I h) fun v s1 ⟨x, H1, I1, r1, q1⟩ => ?_
  obtain ⟨a, e, ⟨⟨xs, hq⟩, q⟩ | ⟨⟨xs, hq⟩, q⟩⟩ := q1
  · subst e
    cases r1
    obtain ⟨its, rv, p, hz⟩ := I1.list hq
    refine wpAny_pyIter_list p.isList ?_
    refine ⟨s1.heap.objs.size, [s1.heap.objs.size], _, _, H1, rfl, I1.kept (t' := s1.toks) fun b o e => Heap.get?_push_of_some _ e, turn_list a _, ⟨_, Heap.get?_push_size _ rfl, rfl, rfl⟩, fun b hb => ?_, q⟩
    have e : b = s1.heap.objs.size := by simpa using hb
    subst e
    exact I1.fpOk (Nat.le_refl _) (I1.hok.fresh (Nat.le_refl _))
  · subst e
    cases r1
    obtain ⟨its, rv, p, hz⟩ := I1.tuple hq
    refine wpAny_pyIter_tuple (show s1.heap.IsTuple a its.toArray from p) ?_
    refine ⟨s1.heap.objs.size, [s1.heap.objs.size], _, _, H1, rfl, I1.kept (t' := s1.toks) fun b o e => Heap.get?_push_of_some _ e, turn_tuple a _, ⟨_, Heap.get?_push_size _ rfl, rfl, rfl⟩, fun b hb => ?_, q⟩
    have e : b = s1.heap.objs.size := by simpa using hb
    subst e
    exact I1.fpOk (Nat.le_refl _) (I1.hok.fresh (Nat.le_refl _))
theorem it_list {a : Addr} {vs : List V} {ds : List D} (h : S a = some (.lst vs)) (n : DnA K S vs ds) : ItOk K (Itl K a) ds S := by
  have hl := n.length
  refine ⟨fun i S1 H1 e1 e2 hi => ?_, fun S1 H1 e1 e2 => ?_, fun i S1 H1 x H2 e1 e2 hi y => ?_⟩
  · exact (walk_list (xs := vs)).goes i H1 (by omega) (SqL.of (e2 _ _ (e1 _ _ h)))
  · rw [← hl]; exact walk_list.stops H1 (SqL.of (e2 _ _ (e1 _ _ h)))
  · obtain ⟨rfl, hx⟩ := (walk_list (xs := vs)).yields i H1 x H2 (by omega) (SqL.of (e2 _ _ (e1 _ _ h))) y
    obtain ⟨d, h1, h2⟩ := n.getV hx
    exact ⟨S1, d, Grow.refl e2, h1, h2.mono e1⟩
theorem it_tup {a : Addr} {vs : List V} {ds : List D} (h : S a = some (.tup vs)) (n : DnA K S vs ds) : ItOk K (Itt K a) ds S := by
  have hl := n.length
  refine ⟨fun i S1 H1 e1 e2 hi => ?_, fun S1 H1 e1 e2 => ?_, fun i S1 H1 x H2 e1 e2 hi y => ?_⟩
  · exact (walk_tup (xs := vs)).goes i H1 (by omega) (SqT.of (e2 _ _ (e1 _ _ h)))
  · rw [← hl]; exact walk_tup.stops H1 (SqT.of (e2 _ _ (e1 _ _ h)))
  · obtain ⟨rfl, hx⟩ := (walk_tup (xs := vs)).yields i H1 x H2 (by omega) (SqT.of (e2 _ _ (e1 _ _ h))) y
    obtain ⟨d, h1, h2⟩ := n.getV hx
    exact ⟨S1, d, Grow.refl e2, h1, h2.mono e1⟩
theorem it_kt {a : Addr} {vs : List V} {ds : List D} (h : TupN K S a vs) (n : DnA K S vs ds) : ItOk K (Itt K a) ds S := by
  have hl := n.length
  refine ⟨fun i S1 H1 e1 e2 hi => ?_, fun S1 H1 e1 e2 => ?_, fun i S1 H1 x H2 e1 e2 hi y => ?_⟩
  · exact (walk_tup (xs := vs)).goes i H1 (by omega) ((h.mono e1).sqT e2)
  · rw [← hl]; exact walk_tup.stops H1 ((h.mono e1).sqT e2)
  · obtain ⟨rfl, hx⟩ := (walk_tup (xs := vs)).yields i H1 x H2 (by omega) ((h.mono e1).sqT e2) y
    obtain ⟨d, h1, h2⟩ := n.getV hx
    exact ⟨S1, d, Grow.refl e2, h1, h2.mono e1⟩
def dSeqI (d : dE) : dI := fun W δ Q => d W δ fun x δ' => match x with | .lst ds => Q ds δ' | .tup ds => Q ds δ' | .kt ds => Q ds δ' | _ => False
theorem di_seq (h : DE X E e da) : DI X E tg e (dSeqI da) := ⟨fun B => pi_mono (pi_seq (h.run B)) fun σ H Rr q => by
  obtain ⟨δ, S, W, Q', R, q, xo, post⟩ := q
  refine ⟨δ, S, W, _, R, q, xo, fun x δ1 v S1 H1 q1 e1 R1 n1 => ?_⟩
  cases x with
  | lst ds =>
    cases n1 with
    | lst hs ha => exact ⟨_, rfl, .inl ⟨⟨_, SqL.of (R1.ex _ _ hs)⟩, post _ _ _ _ _ q1 e1 R1 (it_list hs ha)⟩⟩
  | tup ds =>
    cases n1 with
    | tup hs ha => exact ⟨_, rfl, .inr ⟨⟨_, SqT.of (R1.ex _ _ hs)⟩, post _ _ _ _ _ q1 e1 R1 (it_tup hs ha)⟩⟩
  | kt ds =>
    cases n1 with
    | kt hs ha => exact ⟨_, rfl, .inr ⟨⟨_, hs.sqT R1.ex⟩, post _ _ _ _ _ q1 e1 R1 (it_kt hs ha)⟩⟩
  | _ => exact q1.elim⟩
def intsFrom (lo : Int) (n : Nat) : List D := (List.range n).map fun i => .int (lo + (i : Nat))
theorem it_range {lo : Int} {n : Nat} : ItOk K (Itr lo n) (intsFrom lo n) S := by
  have hl : (intsFrom lo n).length = n := by simp [intsFrom]
  refine ⟨fun i S1 H1 e1 e2 hi => ?_, fun S1 H1 e1 e2 => ?_, fun i S1 H1 x H2 e1 e2 hi y => ?_⟩
  · rw [hl] at hi; exact hi
  · rw [hl]; exact Nat.le_refl _
  · obtain ⟨rfl, rfl⟩ := y
    rw [hl] at hi
    exact ⟨S1, .int (lo + (i : Nat)), Grow.refl e2, by simp [intsFrom, hi], .int _⟩
def dRng1 (d : dA) : dI := fun W δ Q => d W δ fun xs δ' => match xs with | [.int j] => -(2 ^ 62) ≤ j ∧ j < 2 ^ 62 ∧ Q (intsFrom 0 j.toNat) δ' | _ => False
def dRng2 (d : dA) : dI := fun W δ Q => d W δ fun xs δ' => match xs with | [.int i, .int j] => (-(2 ^ 62) ≤ i ∧ i < 2 ^ 62 ∧ -(2 ^ 62) ≤ j ∧ j < 2 ^ 62) ∧ Q (intsFrom i (j - i).toNat) δ' | _ => False
theorem DnA.int1 {vs : List V} {i : Int} (h : DnA K S vs [.int i]) : vs = [.int i] := by
  cases h with | cons h1 h2 => cases h1; cases h2; rfl
theorem di_range1 {p : Pos} {d : dA} (hg : Gl X "range") (hm : X.mg "range" = none) (ha : DA X E [a] d) (hs : starEach [a] X.env = [(false, eval a X.env)] := by rfl) : DI X E tg (.Call (.Name "range" p) [a] [] pos) (dRng1 d) := ⟨fun B => pi_mono (pi_range1 hg hm (ha.run B) hs) fun σ H Rr q => by
  obtain ⟨δ, S, W, Q', R, q, xo, post⟩ := q
  refine ⟨δ, S, W, _, R, q, xo, fun xs δ1 vs S1 H1 q1 e1 R1 n1 => ?_⟩
  match xs, q1, n1 with
  | [.int j], ⟨q1, q2, q3⟩, n1 => exact ⟨j, n1.int1, q1, q2, post _ _ _ _ _ q3 e1 R1 it_range⟩⟩
theorem di_range2 {p : Pos} {d : dA} (hg : Gl X "range") (hm : X.mg "range" = none) (ha : DA X E [a, b] d) (hs : starEach [a, b] X.env = [(false, eval a X.env), (false, eval b X.env)] := by rfl) (hs2 : starEach [b] X.env = [(false, eval b X.env)] := by rfl) : DI X E tg (.Call (.Name "range" p) [a, b] [] pos) (dRng2 d) := ⟨fun B => pi_mono (pi_range2 hg hm (ha.run B) hs hs2) fun σ H Rr q => by
  obtain ⟨δ, S, W, Q', R, q, xo, post⟩ := q
  refine ⟨δ, S, W, _, R, q, xo, fun xs δ1 vs S1 H1 q1 e1 R1 n1 => ?_⟩
  match xs, q1, n1 with
  | [.int i, .int j], ⟨q1, q3⟩, n1 =>
    cases n1 with
    | cons h1 h2 => cases h1; exact ⟨i, j, by rw [h2.int1], q1, post _ _ _ _ _ q3 e1 R1 it_range⟩⟩
def wipeD (δ : DS) : List Nat → DS
  | [] => δ
  | v :: vs => setSl (wipeD δ vs) v .un
theorem wipeD_len (δ : DS) : ∀ vs, (wipeD δ vs).sl.length = δ.sl.length
  | [] => rfl
  | v :: vs => by simp [wipeD, setSl, wipeD_len δ vs]
theorem Rel.wipe (R : Rel K B δ S σ H) : ∀ vs, Rel K B (wipeD δ vs) S (L2.wipe σ vs) H
  | [] => R
  | v :: vs => (R.wipe vs).forget
theorem wipeD_un (δ : DS) : ∀ {vs : List Nat} {i : Nat}, i ∈ vs → i < δ.sl.length → (wipeD δ vs).sl[i]? = some .un
  | v :: vs, i, h, hl => by
    by_cases e : v = i
    · subst e
      show ((wipeD δ vs).sl.set v Sl.un)[v]? = _
      rw [List.getElem?_set_self (by rw [wipeD_len]; exact hl)]
    · show ((wipeD δ vs).sl.set v Sl.un)[i]? = _
      rw [List.getElem?_set_ne e]
      exact wipeD_un δ ((List.mem_cons.mp h).resolve_left (Ne.symm e)) hl
theorem wipe_in {σ : L2.St} : ∀ {vs : List Nat} {i : Nat}, i ∈ vs → (L2.wipe σ vs)[i]? = (σ[i]?).map fun _ => none
  | v :: vs, i, h => by
    by_cases e : v = i
    · subst e
      show ((L2.wipe σ vs).set v none)[v]? = _
      by_cases hl : v < σ.length
      · rw [List.getElem?_set_self (by rw [wipe_length]; exact hl), List.getElem?_eq_getElem hl]; rfl
      · rw [List.getElem?_eq_none (by rw [List.length_set, wipe_length]; omega), List.getElem?_eq_none (by omega)]; rfl
    · show ((L2.wipe σ vs).set v none)[i]? = _
      rw [List.getElem?_set_ne e]
      exact wipe_in ((List.mem_cons.mp h).resolve_left (Ne.symm e))
theorem wipe_notin {σ : L2.St} : ∀ {vs : List Nat} {i : Nat}, i ∉ vs → (L2.wipe σ vs)[i]? = σ[i]?
  | [], _, _ => rfl
  | v :: vs, i, h => by
    have h1 : v ≠ i := fun e => h (by simp [e])
    show ((L2.wipe σ vs).set v none)[i]? = _
    rw [List.getElem?_set_ne h1]
    exact wipe_notin fun z => h (by simp [z])
theorem wipe_agree {σ σ' : L2.St} {vs ws : List Nat} (hl : σ'.length = σ.length) (h : ∀ i, i ∉ ws → σ'[i]? = σ[i]?) (hs : ∀ i ∈ ws, i ∈ vs) : L2.wipe σ' vs = L2.wipe σ vs := by
  apply List.ext_getElem?
  intro i
  by_cases hi : i ∈ vs
  · rw [wipe_in hi, wipe_in hi]
    by_cases hj : i < σ.length
    · rw [List.getElem?_eq_getElem hj, List.getElem?_eq_getElem (by omega)]; rfl
    · rw [List.getElem?_eq_none (by omega), List.getElem?_eq_none (by omega)]
  · rw [wipe_notin hi, wipe_notin hi]
    exact h i fun z => hi (hs i z)
/-- an object beside: B with it -/
def Bs.with (B : Bs) (L : Addr) (o : HO) : Bs := { B with H0 := upd B.H0 L o }
theorem Rel.pen_there (R : Rel K B δ S σ H) {L : Addr} (hL : H L = none) : ∀ a c, δ.pen = some (a, c) → a ≠ L := fun a c e z => by
  subst z
  exact R.pen_new hL c e
theorem PaOk.with_ {B : Bs} {p : Pen} (h : PaOk B p) {L : Addr} {o : HO} (hL : ∀ a c, p = some (a, c) → a ≠ L) : PaOk (B.with L o) p := by
  unfold PaOk at h ⊢
  by_cases q : B.pd = true ∧ B.pa ≠ none
  · rw [if_pos q] at h
    rw [if_pos (show (B.with L o).pd = true ∧ (B.with L o).pa ≠ none from q)]; exact h
  · rw [if_neg q] at h
    rw [if_neg (show ¬((B.with L o).pd = true ∧ (B.with L o).pa ≠ none) from q)]
    intro a c e
    refine ⟨?_, (h a c e).2⟩
    show upd B.H0 L o a = none
    rw [upd_ne (hL a c e)]; exact (h a c e).1
theorem PaOk.un {B : Bs} {p : Pen} {L : Addr} {o : HO} (h : PaOk (B.with L o) p) (hB : B.H0 L = none) : PaOk B p := by
  unfold PaOk at h ⊢
  by_cases q : B.pd = true ∧ B.pa ≠ none
  · rw [if_pos (show (B.with L o).pd = true ∧ (B.with L o).pa ≠ none from q)] at h
    rw [if_pos q]; exact h
  · rw [if_neg (show ¬((B.with L o).pd = true ∧ (B.with L o).pa ≠ none) from q)] at h
    rw [if_neg q]
    intro a c e
    refine ⟨?_, (h a c e).2⟩
    have e1 : upd B.H0 L o a = none := (h a c e).1
    by_cases z : a = L
    · subst z; exact hB
    · rw [upd_ne z] at e1; exact e1
theorem Rel.with_ (R : Rel K B δ S σ H) {L : Addr} {o : HO} (hL : H L = none) (ho : ∀ vs, o ≠ .tup vs) (pl : HO.plain o = true := by rfl) : Rel K (B.with L o) δ S σ (upd H L o) := by
  obtain ⟨f1, f2⟩ := R.fr.fresh hL
  have sL : S L = none := R.ex.none hL
  have g : Grow S H S (upd H L o) := ⟨Ex.refl _, Ext.of (Ex.new hL), R.ex.one hL ho, fun _ _ _ n => n⟩
  have R' := R.grow g
  obtain ⟨ow, h1, h2, h3, h4⟩ := R'.sl
  obtain ⟨ow0, a1, a2, a3, a4⟩ := R.sl
  have tr : ∀ i x, δ.sl[i]? = some x → SlOk K (B.with L o) S (upd H L o) (ow0 i) σ[i]? x := fun i x e => by
    have q := a1 i x e
    have q4 := a4 i
    cases x with
    | un => exact q
    | law ns => exact q
    | dat d => exact q
    | own ds =>
      obtain ⟨a, vs, p1, n1, n2, p2, p3, p4⟩ := q
      have ne : a ≠ L := fun z => by rw [z, hL] at p3; cases p3
      exact ⟨a, vs, p1, by show upd B.H0 L o a = none; rw [upd_ne ne]; exact n1, n2, p2, by rw [upd_ne ne]; exact p3, p4⟩
    | hp ds =>
      obtain ⟨a, vs, p1, n2, p2, p3, p4⟩ := q
      have ne : a ≠ L := fun z => by rw [z, hL] at p3; cases p3
      exact ⟨a, vs, p1, n2, p2, by rw [upd_ne ne]; exact p3, p4⟩
    | hpK ds =>
      obtain ⟨a, vs, p1, n2, p2, p3, p4⟩ := q
      have ne : a ≠ L := fun z => by rw [z, hL] at p3; cases p3
      exact ⟨a, vs, p1, n2, p2, by rw [upd_ne ne]; exact p3, p4⟩
    | ownK ds =>
      obtain ⟨a, vs, p1, n1, n2, p2, p3, p4⟩ := q
      have ne : a ≠ L := fun z => by rw [z, hL] at p3; cases p3
      exact ⟨a, vs, p1, by show upd B.H0 L o a = none; rw [upd_ne ne]; exact n1, n2, p2, by rw [upd_ne ne]; exact p3, p4⟩
    | ownT ds =>
      obtain ⟨a, vs, p1, n1, n2, p2, p3, p4⟩ := q
      have ne : a ≠ L := fun z => by rw [z, hL] at p3; cases p3
      exact ⟨a, vs, p1, by show upd B.H0 L o a = none; rw [upd_ne ne]; exact n1, n2, p2, by rw [upd_ne ne]; exact p3, p4⟩
    | ownN ds =>
      obtain ⟨a, vs, p1, n1, n2, p2, p3, p4⟩ := q
      have ne : a ≠ L := fun z => by rw [z, hL] at p3; cases p3
      exact ⟨a, vs, p1, by show upd B.H0 L o a = none; rw [upd_ne ne]; exact n1, n2, p2, by rw [upd_ne ne]; exact p3, p4⟩
    | kp a ds =>
      obtain ⟨vs, p1, n1, n2, p3, p4⟩ := q
      have ne : a ≠ L := fun z => by rw [z, hL] at p3; cases p3
      exact ⟨vs, p1, by show upd B.H0 L o a = none; rw [upd_ne ne]; exact n1, n2, by rw [upd_ne ne]; exact p3, p4⟩
  refine ⟨R'.ex, ⟨R'.fr.s, fun b u h hb nb => ?_, fun b ps h => ?_, fun b u h n => ?_, R'.fr.pa⟩, R'.pen, R.pa.with_ (R.pen_there hL), R.len, ow0, tr, a2, a3, fun i a e => ?_⟩
  · have h : upd B.H0 L o b = some u := h
    by_cases e : b = L
    · subst e; rw [upd_same] at h ⊢; exact h
    · rw [upd_ne e] at h; exact R'.fr.h b u h hb nb
  · have h : upd B.H0 L o b = some (.tbl ps) := h
    by_cases e : b = L
    · subst e; rw [upd_same] at h; cases h; cases pl
    · rw [upd_ne e] at h; exact R'.fr.t b ps h
  · have h : upd B.H0 L o b = some u := h
    by_cases e : b = L
    · subst e; exact sL
    · rw [upd_ne e] at h; exact R'.fr.no b u h n
  · obtain ⟨r1, r2, r3, u, r4⟩ := a4 i a e
    have ne : a ≠ L := fun z => by rw [z, hL] at r4; cases r4
    exact ⟨r1, r2.imp (fun q => by show upd B.H0 L o a = none; rw [upd_ne ne]; exact q) id, r3, u, by rw [upd_ne ne]; exact r4⟩
/-- .. and the object beside is changed -/
theorem Rel.with_upd {L : Addr} {o o' : HO} (R : Rel K (B.with L o) δ S σ H) (hB : B.H0 L = none) (hpa : B.pa ≠ some L) (sL : S L = none) (ho : ∀ vs, o' ≠ .tup vs) (pl : HO.plain o = true := by rfl) (pl2 : HO.plain o' = true := by rfl) : Rel K (B.with L o') δ S σ (upd H L o') := by
  obtain ⟨ow0, a1, a2, a3, a4⟩ := R.sl
  have Lh : ∀ a, (B.with L o).H0 a = none ∨ (B.with L o).pa = some a → a ≠ L := fun a h e => by
    subst e
    rcases h with h | h
    · have h : upd B.H0 a o a = none := h
      rw [upd_same] at h; cases h
    · exact hpa h
  refine ⟨⟨fun a u h => ?_, fun b vs h => by
    by_cases q : b = L
    · subst q; rw [upd_same] at h; exact absurd (Option.some.inj h) (ho vs)
    · rw [upd_ne q] at h; exact R.ex.tp b vs h, R.ex.tb.at_ L (fun b u n h => by rw [upd_ne n]; exact h) (fun u z => by
      rw [R.fr.pl (b := L) upd_same hpa pl] at z; cases z; exact own_plain pl) fun _ _ z => z⟩, ⟨R.fr.s, fun b u h hb nb => ?_, fun b ps h => ?_, fun b u h n => ?_, fun a e => ?_⟩, ?_, (R.pa.un hB).with_ fun a c e z => R.pen_ne (p := L) hpa ⟨_, upd_same⟩ c (by rw [e, z]), R.len, ow0, fun i x e => ?_, a2, a3, fun i a e => ?_⟩
  · have ne : a ≠ L := fun e => by rw [e, sL] at h; cases h
    rw [upd_ne ne]; exact R.ex a u h
  · have h : upd B.H0 L o' b = some u := h
    by_cases e : b = L
    · subst e; rw [upd_same] at h ⊢; exact h
    · rw [upd_ne e] at h ⊢
      exact R.fr.h b u (show upd B.H0 L o b = some u by rw [upd_ne e]; exact h) hb nb
  · have h : upd B.H0 L o' b = some (.tbl ps) := h
    by_cases e : b = L
    · subst e; rw [upd_same] at h; cases h; cases pl2
    · rw [upd_ne e] at h
      obtain ⟨qs, z⟩ := R.fr.t b ps (show upd B.H0 L o b = _ by rw [upd_ne e]; exact h)
      exact ⟨qs, by rw [upd_ne e]; exact z⟩
  · have h : upd B.H0 L o' b = some u := h
    by_cases e : b = L
    · subst e; exact sL
    · rw [upd_ne e] at h
      exact R.fr.no b u (show upd B.H0 L o b = some u by rw [upd_ne e]; exact h) n
  · obtain ⟨u, q⟩ := R.fr.pa a e
    have ne : a ≠ L := fun z => by subst z; exact hpa e
    exact ⟨u, by rw [upd_ne ne]; exact q⟩
  · have hp := R.pen
    cases hpe : δ.pen with
    | none => trivial
    | some ac =>
      obtain ⟨a, c⟩ := ac
      rw [hpe] at hp
      have ne : a ≠ L := fun z => R.pen_ne (p := L) hpa ⟨_, upd_same⟩ c (by rw [hpe, z])
      obtain ⟨n, ca, ns, k, m, r1, r2, r3⟩ := hp
      exact ⟨n, ca, ns, k, m, by rw [upd_ne ne]; exact r1, r2, r3⟩
  · have q := a1 i x e
    cases x with
    | un => exact q
    | law ns => exact q
    | dat d => exact q
    | own ds =>
      obtain ⟨a, vs, p1, n1, n2, p2, p3, p4⟩ := q
      have ne := Lh a (.inl n1)
      have n1 : upd B.H0 L o a = none := n1
      rw [upd_ne ne] at n1
      exact ⟨a, vs, p1, by show upd B.H0 L o' a = none; rw [upd_ne ne]; exact n1, n2, p2, by rw [upd_ne ne]; exact p3, p4⟩
    | hp ds =>
      obtain ⟨a, vs, p1, n2, p2, p3, p4⟩ := q
      exact ⟨a, vs, p1, n2, p2, by rw [upd_ne (Lh a (.inr n2))]; exact p3, p4⟩
    | hpK ds =>
      obtain ⟨a, vs, p1, n2, p2, p3, p4⟩ := q
      exact ⟨a, vs, p1, n2, p2, by rw [upd_ne (Lh a (.inr n2))]; exact p3, p4⟩
    | ownK ds =>
      obtain ⟨a, vs, p1, n1, n2, p2, p3, p4⟩ := q
      have ne := Lh a (.inl n1)
      have n1 : upd B.H0 L o a = none := n1
      rw [upd_ne ne] at n1
      exact ⟨a, vs, p1, by show upd B.H0 L o' a = none; rw [upd_ne ne]; exact n1, n2, p2, by rw [upd_ne ne]; exact p3, p4⟩
    | ownT ds =>
      obtain ⟨a, vs, p1, n1, n2, p2, p3, p4⟩ := q
      have ne := Lh a (.inl n1)
      have n1 : upd B.H0 L o a = none := n1
      rw [upd_ne ne] at n1
      exact ⟨a, vs, p1, by show upd B.H0 L o' a = none; rw [upd_ne ne]; exact n1, n2, p2, by rw [upd_ne ne]; exact p3, p4⟩
    | ownN ds =>
      obtain ⟨a, vs, p1, n1, n2, p2, p3, p4⟩ := q
      have ne := Lh a (.inl n1)
      have n1 : upd B.H0 L o a = none := n1
      rw [upd_ne ne] at n1
      exact ⟨a, vs, p1, by show upd B.H0 L o' a = none; rw [upd_ne ne]; exact n1, n2, p2, by rw [upd_ne ne]; exact p3, p4⟩
    | kp a ds =>
      obtain ⟨vs, p1, n1, n2, p3, p4⟩ := q
      have ne := Lh a (.inl n1)
      have n1 : upd B.H0 L o a = none := n1
      rw [upd_ne ne] at n1
      exact ⟨vs, p1, by show upd B.H0 L o' a = none; rw [upd_ne ne]; exact n1, n2, by rw [upd_ne ne]; exact p3, p4⟩
  · obtain ⟨r1, r2, r3, u, r4⟩ := a4 i a e
    have ne := Lh a r2
    refine ⟨r1, r2.imp (fun q => ?_) id, r3, u, by rw [upd_ne ne]; exact r4⟩
    have q : upd B.H0 L o a = none := q
    rw [upd_ne ne] at q
    show upd B.H0 L o' a = none
    rw [upd_ne ne]; exact q
def hide (H : Hp) (L : Addr) : Hp := fun b => if b = L then none else H b
theorem hide_same {H : Hp} {L : Addr} : hide H L L = none := if_pos rfl
/-- .. and taken as fresh again -/
theorem Rel.unwith {L : Addr} {o : HO} (R : Rel K (B.with L o) δ S σ H) (hB : B.H0 L = none) (hpa : B.pa ≠ some L) (sL : S L = none) (pl : HO.plain o = true := by rfl) : Rel K B δ S σ (hide H L) ∧ H L = some o ∧ H = upd (hide H L) L o := by
  have hL : H L = some o := R.fr.pl (b := L) upd_same hpa pl
  have er : ∀ a, a ≠ L → hide H L a = H a := fun a ne => if_neg ne
  obtain ⟨ow0, a1, a2, a3, a4⟩ := R.sl
  have Lh : ∀ a, (B.with L o).H0 a = none ∨ (B.with L o).pa = some a → a ≠ L := fun a h e => by
    subst e
    rcases h with h | h
    · have h : upd B.H0 a o a = none := h
      rw [upd_same] at h; cases h
    · exact hpa h
  refine ⟨⟨⟨fun a u h => ?_, fun b vs h => by
    by_cases q : b = L
    · rw [q, hide_same] at h; cases h
    · rw [er b q] at h; exact R.ex.tp b vs h, R.ex.tb.at_ L (fun b u n h => by rw [er b n]; exact h) (fun u z => by rw [hL] at z; cases z; exact own_plain pl) fun _ _ z => z⟩, ⟨R.fr.s, fun b u h hb nb => ?_, fun b ps h => ?_, fun b u h n => ?_, fun a e => ?_⟩, ?_, R.pa.un hB, R.len, ow0, fun i x e => ?_, a2, a3, fun i a e => ?_⟩, hL, ?_⟩
  · have ne : a ≠ L := fun e => by rw [e, sL] at h; cases h
    rw [er a ne]; exact R.ex a u h
  · have ne : b ≠ L := fun e => by rw [e, hB] at h; cases h
    rw [er b ne]
    exact R.fr.h b u (show upd B.H0 L o b = some u by rw [upd_ne ne]; exact h) hb nb
  · have ne : b ≠ L := fun e => by rw [e, hB] at h; cases h
    rw [er b ne]
    exact R.fr.t b ps (show upd B.H0 L o b = some (.tbl ps) by rw [upd_ne ne]; exact h)
  · have ne : b ≠ L := fun e => by rw [e, hB] at h; cases h
    exact R.fr.no b u (show upd B.H0 L o b = some u by rw [upd_ne ne]; exact h) n
  · obtain ⟨u, q⟩ := R.fr.pa a e
    have ne : a ≠ L := fun z => by subst z; exact hpa e
    exact ⟨u, by rw [er a ne]; exact q⟩
  · have hp := R.pen
    cases hpe : δ.pen with
    | none => trivial
    | some ac =>
      obtain ⟨a, c⟩ := ac
      rw [hpe] at hp
      have ne : a ≠ L := fun z => R.pen_ne (p := L) hpa ⟨_, upd_same⟩ c (by rw [hpe, z])
      obtain ⟨n, ca, ns, k, m, r1, r2, r3⟩ := hp
      exact ⟨n, ca, ns, k, m, by rw [er a ne]; exact r1, r2, r3⟩
  · have q := a1 i x e
    cases x with
    | un => exact q
    | law ns => exact q
    | dat d => exact q
    | own ds =>
      obtain ⟨a, vs, p1, n1, n2, p2, p3, p4⟩ := q
      have ne := Lh a (.inl n1)
      have n1 : upd B.H0 L o a = none := n1
      rw [upd_ne ne] at n1
      exact ⟨a, vs, p1, n1, n2, p2, by rw [er a ne]; exact p3, p4⟩
    | hp ds =>
      obtain ⟨a, vs, p1, n2, p2, p3, p4⟩ := q
      exact ⟨a, vs, p1, n2, p2, by rw [er a (Lh a (.inr n2))]; exact p3, p4⟩
    | hpK ds =>
      obtain ⟨a, vs, p1, n2, p2, p3, p4⟩ := q
      exact ⟨a, vs, p1, n2, p2, by rw [er a (Lh a (.inr n2))]; exact p3, p4⟩
    | ownK ds =>
      obtain ⟨a, vs, p1, n1, n2, p2, p3, p4⟩ := q
      have ne := Lh a (.inl n1)
      have n1 : upd B.H0 L o a = none := n1
      rw [upd_ne ne] at n1
      exact ⟨a, vs, p1, n1, n2, p2, by rw [er a ne]; exact p3, p4⟩
    | ownT ds =>
      obtain ⟨a, vs, p1, n1, n2, p2, p3, p4⟩ := q
      have ne := Lh a (.inl n1)
      have n1 : upd B.H0 L o a = none := n1
      rw [upd_ne ne] at n1
      exact ⟨a, vs, p1, n1, n2, p2, by rw [er a ne]; exact p3, p4⟩
    | ownN ds =>
      obtain ⟨a, vs, p1, n1, n2, p2, p3, p4⟩ := q
      have ne := Lh a (.inl n1)
      have n1 : upd B.H0 L o a = none := n1
      rw [upd_ne ne] at n1
      exact ⟨a, vs, p1, n1, n2, p2, by rw [er a ne]; exact p3, p4⟩
    | kp a ds =>
      obtain ⟨vs, p1, n1, n2, p3, p4⟩ := q
      have ne := Lh a (.inl n1)
      have n1 : upd B.H0 L o a = none := n1
      rw [upd_ne ne] at n1
      exact ⟨vs, p1, n1, n2, by rw [er a ne]; exact p3, p4⟩
  · obtain ⟨r1, r2, r3, u, r4⟩ := a4 i a e
    have ne := Lh a r2
    refine ⟨r1, r2.imp (fun q => ?_) id, r3, u, by rw [er a ne]; exact r4⟩
    have q : upd B.H0 L o a = none := q
    rw [upd_ne ne] at q
    exact q
  · funext b
    by_cases e : b = L
    · subst e; rw [upd_same]; exact hL
    · rw [upd_ne e]; exact (er b e).symm
end
end Ev
namespace Ev
open PySem PySem.Spec PyProof.Rows L2
variable [TabC]
variable {K : PySem.W.Frag} {S S' H H' : Hp} {B : Bs} {δ : DS} {σ : L2.St}
section
variable {X : Cx} {E E2 : EK} {e a b c tg : Expr} {es : List Expr} {pos : Pos} {st : Stmt} {rest : List Stmt} {da db : dE} {t u : dS}
def W0 : XW := fun _ _ => False
structure DTs (X : Cx) (E : EK) (ifs : List Expr) (d : dT) : Prop where
  run : ∀ B, PTs X ifs (liftT X.K B E d)
theorem pts_mono {ifs : List Expr} {t t' : TT} (h : PTs X ifs t) (m : ∀ σ H Q, t' σ H Q → t σ H Q) : PTs X ifs t' := ⟨fun pins s σ H Q I q => h.run pins s σ H Q I (m _ _ _ q)⟩
def dYes : dT := fun _ δ Q => Q true δ
theorem dts_nil : DTs X E [] dYes := ⟨fun B => pts_mono pts_nil fun σ H Q q => by
  obtain ⟨δ, S, W, Q', R, q, xo, post⟩ := q
  exact post _ _ _ _ q (Ex.refl _) R⟩
theorem dts_one {d : dT} (h : DT X E c d) : DTs X E [c] d := ⟨fun B => pts_one (h.run B)⟩
def wLC (g : dG) (tt : dT) (te : dE) (vs : List Nat) (Q : List D → DS → Prop) : List D → List D → DS → Prop
  | [], acc, δ => Q acc δ
  | d :: ds, acc, δ => g d δ fun δ1 => tt W0 δ1 fun k δ2 => match k with
    | true => te W0 δ2 fun y δ3 => acc.length < sizeLine ∧ wLC g tt te vs Q ds (acc ++ [y]) (wipeD δ3 vs)
    | false => wLC g tt te vs Q ds acc (wipeD δ2 vs)
def dLC (w : dI) (g : dG) (tt : dT) (te : dE) (vs : List Nat) : dF := fun W δ Q => w W δ fun ds δ1 => wLC g tt te vs Q ds [] (wipeD δ1 vs)
def exG (K : PySem.W.Frag) (g : dG) (ws : List Nat) : TG := fun v σ H Q => ∃ B, liftG K B g ws v σ H Q
def exT (K : PySem.W.Frag) (E : EK) (d : dT) : TT := fun σ H Q => ∃ B, liftT K B E d σ H Q
def exE (K : PySem.W.Frag) (E : EK) (d : dE) : TE := fun σ H Q => ∃ B, liftE K B E d σ H Q
theorem exG_ok {g : dG} {ws : List Nat} (h : DG X tg g ws) : PG X tg (exG X.K g ws) := ⟨fun pins s σ H v u Q I r ⟨B, q⟩ => (h.run B).run pins s σ H v u Q I r q⟩
theorem exT_ok {ifs : List Expr} {d : dT} (h : DTs X E ifs d) : PTs X ifs (exT X.K E d) := ⟨fun pins s σ H Q I ⟨B, q⟩ => (h.run B).run pins s σ H Q I q⟩
theorem exE_ok {d : dE} (h : DE X E e d) : PE X e (exE X.K E d) := ⟨fun pins s σ H Q I ⟨B, q⟩ => (h.run B).run pins s σ H Q I q⟩
theorem xok0 : XOk K B E W0 S := fun _ _ _ _ _ _ _ h => h.elim
theorem lc_read {w : dI} {g : dG} {tt : dT} {te : dE} {vs ws : List Nat} {W : XW} {Qd : List D → DS → Prop} {δ : DS} {Q : VK} (hws : ∀ i ∈ ws, i ∈ vs) (R : Rel K B δ S σ H) (q : dLC w g tt te vs W δ Qd) (xo : XOk K B E W S)
    (post : ∀ xs δ' p vs' S' H', Qd xs δ' → Ex S S' → Rel K B δ' S' σ H' → H' p = none → DnA K S' vs' xs → Q (.ref p) (upd H' p (.lst vs'))) : tLc (liftI K B E w) (exG K g ws) (exT K E2 tt) (exE K E2 te) vs σ H Q := by
  refine ⟨δ, S, W, _, R, q, xo, fun ds δ1 S1 H1 J q1 e1 R1 it1 => ?_⟩
  intro L hL
  obtain ⟨f1, f2⟩ := R1.fr.fresh hL
  have s1L : S1 L = none := R1.ex.none hL
  have Ln : ∀ {δ S2 σ2 H2 o}, Rel K (B.with L o) δ S2 σ2 H2 → S2 L = none := fun {δ S2 σ2 H2 o} R2 => R2.fr.no L o upd_same (R1.fr.s.none s1L)
  let Inv : Nat → Hp → Prop := fun i H2 => ∃ δ2 S2 acc vacc, Ex S1 S2 ∧ Rel K (B.with L (.lst vacc)) δ2 S2 (L2.wipe σ vs) H2 ∧ DnA K S2 vacc acc ∧ wLC g tt te vs Qd (ds.drop i) acc δ2 ∧ (∀ j ∈ vs, j < δ2.sl.length → δ2.sl[j]? = some .un)
  refine ⟨fun i m H2 => m = ds.length - i ∧ i ≤ ds.length ∧ Inv i H2, ⟨_, rfl, Nat.zero_le _, ?_⟩, ?_⟩
  · refine ⟨wipeD δ1 vs, S1, [], [], Ex.refl _, (R1.with_ hL (fun vs z => HO.noConfusion z)).wipe vs, .nil, q1, fun j hj hl => wipeD_un δ1 hj (by rw [wipeD_len] at hl; exact hl)⟩
  · rintro i m H2 ⟨rfl, hi, δ2, S2, acc, vacc, e2, R2, nacc, q2, hun⟩
    by_cases hlt : i < ds.length
    · refine .inr ⟨it1.goes i S2 H2 e2 R2.ex hlt, fun H' => i + 1 ≤ ds.length ∧ Inv (i + 1) H', fun H' h => ⟨ds.length - (i + 1), by omega, rfl, h⟩, fun x H3 y => ?_⟩
      obtain ⟨S3, d, g3, ed, dn⟩ := it1.yields i S2 H2 x H3 e2 R2.ex hlt y
      have hd : ds.drop i = d :: ds.drop (i + 1) := by
        obtain ⟨h1, h2⟩ := List.getElem?_eq_some_iff.mp ed
        rw [List.drop_eq_getElem_cons h1, h2]
      rw [hd] at q2
      refine ⟨B.with L (.lst vacc), δ2, S3, d, _, R2.grow g3, dn, q2, fun δ4 σ4 S4 H4 q4 e4 R4 a4 l4 => ?_⟩
      have hw : L2.wipe σ4 vs = L2.wipe σ vs := wipe_agree (l4.trans (wipe_length σ vs)) (fun j hj => by rw [a4 j (fun z => hj (hws j z)), wipe_notin hj]) (fun _ h => h)
      refine ⟨hw, B.with L (.lst vacc), δ4, S4, W0, _, R4, q4, xok0, fun k δ5 S5 H5 q5 e5 R5 => ?_⟩
      cases k with
      | true =>
        refine iteT ⟨B.with L (.lst vacc), δ5, S5, W0, _, R5, q5, xok0, fun y δ6 v S6 H6 q6 e6 R6 n6 => ?_⟩
        have l6 := Ln R6
        refine ⟨vacc, R6.fr.pl upd_same f2, ?_, hlt, wipeD δ6 vs, S6, acc ++ [y], vacc ++ [v], ?_, ?_, ?_, q6.2, fun j hj hl => wipeD_un δ6 hj (by rw [wipeD_len] at hl; exact hl)⟩
        · rw [nacc.length]; exact q6.1
        · exact e2.trans (g3.s.trans (e4.trans (e5.trans e6)))
        · have := (R6.with_upd (o' := .lst (vacc ++ [v])) f1 f2 l6 (fun vs z => HO.noConfusion z)).wipe vs
          rw [hw] at this
          exact this
        · exact (nacc.mono (g3.s.trans (e4.trans (e5.trans e6)))).append (.cons n6 .nil)
      | false =>
        refine iteF ⟨hlt, wipeD δ5 vs, S5, acc, vacc, e2.trans (g3.s.trans (e4.trans e5)), ?_, nacc.mono (g3.s.trans (e4.trans e5)), q5, fun j hj hl => wipeD_un δ5 hj (by rw [wipeD_len] at hl; exact hl)⟩
        have := R5.wipe vs
        rw [hw] at this
        exact this
    · have e : i = ds.length := by omega
      subst e
      rw [List.drop_length] at q2
      refine .inl ⟨it1.stops S2 H2 e2 R2.ex, ?_⟩
      have l2 := Ln R2
      obtain ⟨R3, _, eH⟩ := R2.unwith f1 f2 l2
      rw [eH]
      have hl : σ.length = (L2.wipe σ vs).length := (wipe_length σ vs).symm
      refine post acc δ2 L vacc S2 _ q2 (e1.trans e2) (R3.agree hl fun j => ?_) hide_same nacc
      by_cases hj : j ∈ vs
      · by_cases hk : j < δ2.sl.length
        · exact .inr (hun j hj hk)
        · left
          have h1 : σ.length ≤ j := by rw [hl, R3.len]; omega
          rw [List.getElem?_eq_none h1, List.getElem?_eq_none (by rw [wipe_length]; exact h1)]
      · exact .inl (wipe_notin hj).symm
/-- [elt for target in iter if ..] -/
theorem df_lc {elt iter : Expr} {ifs : List Expr} {scope : Scope} {own : List (Str × Nat)} {w : dI} {g : dG} {tt : dT} {te : dE} {ws : List Nat} (hc : X.calm = true) (hN : X.N.Nodup) (hi : DI X E tg iter w) (ok : BlkOk X.N X.env.scope scope own) (hws : ∀ i ∈ ws, i ∈ own.map (·.2))
    (hg : ∀ (s : Shared) (H : Hp) (C : Addr) (cl : List (Str × Addr)) (fp : List Addr), DG (X.blk s H scope (compEnvC scope cl C X.env) fp) tg g ws) (ht : ∀ (s : Shared) (H : Hp) (C : Addr) (cl : List (Str × Addr)) (fp : List Addr), DTs (X.blk s H scope (compEnvC scope cl C X.env) fp) E2 ifs tt)
    (he : ∀ (s : Shared) (H : Hp) (C : Addr) (cl : List (Str × Addr)) (fp : List Addr), DE (X.blk s H scope (compEnvC scope cl C X.env) fp) E2 elt te) (hs : ∀ x, foldedSetIterable iter X.env x = pure x := by intro _; rfl) :
    DF X E (.ListComp elt [⟨tg, iter, ifs, 0⟩] scope pos) (dLC w g tt te (own.map (·.2))) := ⟨fun B => pe_mono (pe_lc hc hN (hi.run B) ok (fun s H C cl fp => exG_ok (hg s H C cl fp)) (fun s H C cl fp => exT_ok (E := E2) (ht s H C cl fp)) (fun s H C cl fp => exE_ok (E := E2) (he s H C cl fp)) hs) fun σ H Q q => by
  obtain ⟨δ, S, W, Q', R, q, xo, post⟩ := q
  exact lc_read (E2 := E2) hws R q xo post⟩
/-- name = [..] in one line -/
theorem ds_setLc {i : Nat} {y : Str} {py spos : Pos} {elt iter : Expr} {ifs : List Expr} {scope : Scope} {own : List (Str × Nat)} {w : dI} {g : dG} {tt : dT} {te : dE} {ws : List Nat} (hc : X.calm = true) (hN : X.N.Nodup) (hy : X.N[i]? = some y) (hyl : X.env.scope.names.lookup y = some .local)
    (hsw : swapsWith (.ListComp elt [⟨tg, iter, ifs, 0⟩] scope pos) (some (.Name y py)) spos.line X.env = pure true) (hi : DI X E tg iter w) (ok : BlkOk X.N X.env.scope scope own) (hws : ∀ i ∈ ws, i ∈ own.map (·.2))
    (hg : ∀ (s : Shared) (H : Hp) (C : Addr) (cl : List (Str × Addr)) (fp : List Addr), DG (X.blk s H scope (compEnvC scope cl C X.env) fp) tg g ws) (ht : ∀ (s : Shared) (H : Hp) (C : Addr) (cl : List (Str × Addr)) (fp : List Addr), DTs (X.blk s H scope (compEnvC scope cl C X.env) fp) E2 ifs tt)
    (he : ∀ (s : Shared) (H : Hp) (C : Addr) (cl : List (Str × Addr)) (fp : List Addr), DE (X.blk s H scope (compEnvC scope cl C X.env) fp) E2 elt te) (hs : ∀ x, foldedSetIterable iter X.env x = pure x := by intro _; rfl) :
    DSt X E (.Assign [.Name y py] (.ListComp elt [⟨tg, iter, ifs, 0⟩] scope pos) spos) (dSetF i (dLC w g tt te (own.map (·.2)))) := ⟨fun B => ps_mono (ps_setLc hc hN hy hyl hsw (hi.run B) ok (fun s H C cl fp => exG_ok (hg s H C cl fp)) (fun s H C cl fp => exT_ok (E := E2) (ht s H C cl fp)) (fun s H C cl fp => exE_ok (E := E2) (he s H C cl fp)) hs) fun Z σ H q => by
  obtain ⟨δ, S, W, N, R, q, xo, p1, _⟩ := q
  exact lc_read (E2 := E2) hws R q xo fun xs δ' p vs' S' H' q1 e1 R1 hp n1 => p1 _ _ _ _ q1 e1 (R1.setOwn hp n1)⟩
end
end Ev
namespace Ev
open PySem PySem.Spec PyProof.Rows L2
variable [TabC]
/-- a promise of a def, wherever no repr is under way -/
structure FnG (P : Program) (w : World) (K : PySem.W.Frag) (mg : Str → Option Value) (base : Heap) (CX : CXT) (k : Nat) (f : Addr) (fd : FuncData) (ps : List Str) (sp : Sp) : Prop where
  len : ∀ vs H Q E, sp vs H Q E → vs.length = ps.length
  run : ∀ (A : Around) (out : List Env) (s : Shared) (H : Hp) (ar : Args) (us : List Value) (vs : List V) (Q : VK) (E : XK), A.guards = some [] → Room k A → Env0 P w K mg base A out s H →
    BindsTo s fd ar (ps.zip us) → Vals vs us → sp vs H Q E → codeAny (model P w) A (.call (.ref f) ar) (CR CX out P w H s Q E) s
theorem FnG.mono {P : Program} {w : World} {K : PySem.W.Frag} {mg : Str → Option Value} {base : Heap} {CX : CXT} {j k : Nat} {f : Addr} {fd : FuncData} {ps : List Str} {sp : Sp} (F : FnG P w K mg base CX j f fd ps sp) (h : j ≤ k) : FnG P w K mg base CX k f fd ps sp :=
  ⟨F.len, fun A out s H ar us vs Q E g r => F.run A out s H ar us vs Q E g (r.mono h)⟩
theorem FnG.imp {P : Program} {w : World} {K : PySem.W.Frag} {mg : Str → Option Value} {base : Heap} {CX : CXT} {k : Nat} {f : Addr} {fd : FuncData} {ps : List Str} {sp sp' : Sp} (F : FnG P w K mg base CX k f fd ps sp)
    (h : ∀ vs H Q E, sp' vs H Q E → sp vs H Q E) : FnG P w K mg base CX k f fd ps sp' :=
  ⟨fun vs H Q E q => F.len vs H Q E (h _ _ _ _ q), fun A out s H ar us vs Q E g r e b v q => F.run A out s H ar us vs Q E g r e b v (h _ _ _ _ q)⟩
section
variable {X : Cx} {CX : CXT} {k : Nat} {f : Addr} {fd : FuncData} {ps : List Str} {sp : Sp} {E : L2.St → XK}
/-- a callee runs, its arguments bound somehow -/
theorem run_g {pins : List (Addr × Obj)} {σ : L2.St} {H : Hp} {s : Shared} {Q : VK} {ar : Args} {us : List Value} {vs : List V} (F : FnG X.prog X.w X.K X.mg X.base CX k f fd ps sp) (hg : X.A.guards = some []) (hr : Room k X.A)
    (hx : PassesAt CX X σ (E σ)) (I : Inv X pins σ H s) (hb : BindsTo s fd ar (ps.zip us)) (r : Vals vs us) (h : sp vs H Q (E σ)) : codeAny (model X.prog X.w) X.A (.call (.ref f) ar) (callEnd (EP X pins σ Q) X.xe) s := by
  refine codeAny_mono (F.run X.A X.stack s H ar us vs Q (E σ) hg hr I.env0 hb r h) fun res s' hq => ?_
  match res, hq with
  | .error e, hq => exact hx pins H s e s' I hq
  | .ok (.ret u), hq => exact I.after hq
def tG (sp : Sp) (dv : List V) (E : L2.St → XK) (t : TA) : TE := fun σ H Q => t σ H fun vs H1 => sp (vs ++ dv) H1 Q (E σ)
theorem pe_callG {x : Str} {p pos : Pos} {e : Expr} {es : List Expr} {t : TA} {dv : List V} {ds : List Value} (F : FnG X.prog X.w X.K X.mg X.base CX k f fd ps sp) (hg : X.A.guards = some []) (hr : Room k X.A) (gl : Gl X x) (hm : X.mg x = some (.ref f))
    (hk : PySem.W.keepIn X.K (.ref f) = true) (hb : Binds X.K fd ps ds) (hd : Vals dv ds) (hx : ∀ σ, PassesAt CX X σ (E σ)) (ha : PA X (e :: es) t) (hdb : (x == ("__debug__" : Str)) = false := by decide)
    (he : starEach (e :: es) X.env = (false, eval e X.env) :: starEach es X.env := by rfl) (hpl : (backTo pos (starEach es X.env)).any (·.1) = false := by rfl) : PE X (.Call (.Name x p) (e :: es) [] pos) (tG sp dv E t) := by
  refine ⟨fun pins s σ H Q I h => wpAny_Call_Name_kw (ld_glob I gl hm ?_ hdb)⟩
  refine PySem.W.callWith_K (h₀ := X.base) I.ok.mod.kin hk (thn (ha.run pos pins s σ H _ I h) fun us s1 ⟨vs, H1, I1, r, q⟩ => ⟨I1.kIn, ?_⟩) he hpl
  have rr : Vals (vs ++ dv) (us ++ ds) := r.append hd
  have ln : (us ++ ds).length = ps.length := by rw [← rr.length]; exact F.len _ _ _ _ q
  exact wpAny_call (run_g F hg hr (hx σ) I1 (hb s1 us I1.kIn ln) rr q)
def tGK (sp : Sp) (gV : List V → List V → List V) (E : L2.St → XK) (t tk : TA) : TE := fun σ H Q => t σ H fun vs H1 => tk σ H1 fun zs H2 => sp (gV vs zs) H2 Q (E σ)
theorem pe_callGK0 {x : Str} {p pos : Pos} {kws : List Keyword} {ks : List Str} {tk : TA} {g : List Value → List Value → List Value} {gV : List V → List V → List V} (F : FnG X.prog X.w X.K X.mg X.base CX k f fd ps sp) (hg : X.A.guards = some []) (hr : Room k X.A)
    (gl : Gl X x) (hm : X.mg x = some (.ref f)) (hk : PySem.W.keepIn X.K (.ref f) = true) (hb : KBinds X.K fd ps ks g gV) (hx : ∀ σ, PassesAt CX X σ (E σ)) (hkw : PK X kws tk) (hall : (backToKw pos (keywordEach kws X.env)).all (·.1.isSome) = true := by rfl)
    (hks : (backToKw pos (keywordEach kws X.env)).filterMap (·.1) = ks := by rfl) (hdb : (x == ("__debug__" : Str)) = false := by decide)
    (hpl : ((backTo pos (starEach [] X.env)).any (·.1) || (backToKw pos (keywordEach kws X.env)).any (·.1.isNone)) = false := by rfl) : PE X (.Call (.Name x p) [] kws pos) (tGK sp gV E tNil tk) := by
  refine ⟨fun pins s σ H Q I h => wpAny_Call_Name_kw (ld_glob I gl hm ?_ hdb)⟩
  refine PySem.W.callWith_KW0 (h₀ := X.base) I.ok.mod.kin hk hall ?_ hpl
  refine thn (hkw.run pos pins s σ H _ I h) fun ws s2 ⟨zs, H2, I2, rz, q2⟩ => ⟨I2.kIn, ?_⟩
  rw [hks]
  have rr := hb.rel (vs := []) (us := []) .nil rz
  have ln : (g [] ws).length = ps.length := by rw [← rr.length]; exact F.len _ _ _ _ q2
  exact wpAny_call (run_g F hg hr (hx σ) I2 (hb.to s2 [] ws I2.kIn ln) rr q2)
end
/-- the code of the def at f -/
def CdOk (K : PySem.W.Frag) (f : Addr) (cdv : Value) : Prop := ∃ oc od fd osl, K.lookup f = some ⟨oc, od, .func fd, osl⟩ ∧ fd.code = cdv
/-- THE RULE for a def, by its body -/
theorem fn_g {CX : CXT} {P : Program} {w : World} {K : PySem.W.Frag} {mg : Str → Option Value} {base : Heap} {k : Nat} {f : Addr} {x qual : Str} {st : Stmt} {fd : FuncData} {N ps : List Str} {sp : Sp} (F : Fun K x qual st f fd) (S : FnScope N ps (defScope st))
    (len : ∀ vs H Q E, sp vs H Q E → vs.length = ps.length)
    (body : ∀ (cdv : Value), CdOk K f cdv → ∀ (A : Around) (out : List Env) (s : Shared) (H : Hp) (vs : List V) (Q : VK) (E : XK), A.guards = some [] → Room k (A.deeper (envOfC qual (defScope st) s.heap.objs.size f cdv)) → sp vs H Q E →
      ∃ t, PSs (cxOf CX P w K mg base N qual (defScope st) f cdv A out s H E) (defBody st) t ∧ t { nx := fun _ H' => Q .non H', rt := Q } (start N vs) H) : FnG P w K mg base CX (k + 1) f fd ps sp := by
  obtain ⟨oc, od, kV, doc, pm, an, cdv, ct, osl, rfl, lk, hcd⟩ := F.ex
  refine ⟨len, fun A out s H ar us vs Q E g hr e0 hb r hsp => ?_⟩
  have old : ∀ b o, base.get? b = some o → s.heap.get? b = some o := fun b o e => (e0.bs b o e).1
  have KX : K.In s.heap := e0.mod.kin.keeps old
  refine codeAny_call_function hr.depth (KX _ _ lk) rfl S.co S.gen rfl (PySem.W.codeRec_of KX hcd) (hb _ _ _ _ ?_)
  refine wpAny_newFunctionEnv_cells S.kind (fun y hy => (S.par y.1 (List.of_mem_zip (show (y.1, y.2) ∈ _ from hy)).1).imp id fun q => ⟨q, PySem.W.cellsFrom_some _ _ _ (.inl q)⟩) fun env he s1 z => ?_
  subst he
  refine ⟨(e0.mod.nolimit.keeps old).keeps z.toInCall.keep, codeAny_func ?_⟩
  obtain ⟨t, ht, hq⟩ := body cdv ⟨_, _, _, _, lk, rfl⟩ A out s H vs Q E g (hr.deeper _) hsp
  refine wpAny_mono (ht.run [] s1 (start N vs) H _ (inv_start S hr.hd e0 (len _ _ _ _ hsp) r z) hq) (fun fl s' hs => ?_) fun _ _ h => h
  match fl, hs with
  | .ret u, ⟨v, _, H', J, rv, q⟩ => exact ⟨v, H', J.os, J.bare, J.base, J.hok, rv, q⟩
  | .next, ⟨_, H', J, q⟩ => exact ⟨.non, H', J.os, J.bare, J.base, J.hok, rfl, q⟩
  | .brk, ⟨_, _, _, q⟩ => exact q.elim
  | .cont, ⟨_, _, _, q⟩ => exact q.elim
end Ev
namespace Ev
open PySem PySem.Spec PyProof.Rows L2
variable [TabC]
variable {K : PySem.W.Frag} {S S' H H' : Hp} {B : Bs} {δ : DS} {σ : L2.St}
/-- a promise over data: arguments, pen, what is wanted of the answer, what is wanted of an exception -/
abbrev dSp := List D → Pen → (D → Pen → Prop) → (Xc → Pen → Prop) → Prop
/-- behind a call -/
structure Fin (S H S' H' : Hp) (p p' : Pen) : Prop where
  s : Ex S S'
  ok : Sb S' H'
  pen : PenOk S' H' p'
  same : p'.map (·.1) = p.map (·.1) ∨ (p = none ∧ ∀ a c, p' = some (a, c) → H a = none)
  h : ∀ b o, H b = some o → p.map (·.1) ≠ some b → NT o → H' b = some o
  t : ∀ b ps, H b = some (.tbl ps) → ∃ qs, H' b = some (.tbl qs)
  no : ∀ b o, H b = some o → S b = none → S' b = none
def spD (K : PySem.W.Frag) (n : Nat) (sp : dSp) : Sp := fun vs H Q E => ∃ S ds p Q' W', Sb S H ∧ PenOk S H p ∧ DnA K S vs ds ∧ ds.length = n ∧ sp ds p Q' W' ∧
  (∀ x p' v S' H', Q' x p' → Fin S H S' H' p p' → Dn K S' v x → Q v H') ∧ ∀ c p' cls od S' H', W' c p' → Fin S H S' H' p p' → XcOk K S' H' c cls od → E cls od H'
theorem spD_len {n : Nat} {sp : dSp} : ∀ vs H Q E, spD K n sp vs H Q E → vs.length = n := fun vs H Q E ⟨S, ds, p, Q', W', _, _, a, l, _⟩ => a.length.trans l
theorem Pen.map_ne {p : Pen} {a : Addr} (h : ∀ c, p ≠ some (a, c)) : p.map (·.1) ≠ some a := fun z => by
  match hp : p, z with
  | some (a', c), z =>
    cases (show some a' = some a from z)
    exact h c rfl
theorem Fin.ne {p p' : Pen} (f : Fin S H S' H' p p') {a : Addr} (h : p.map (·.1) ≠ some a) {o : HO} (ho : H a = some o) : ∀ c, p' ≠ some (a, c) := fun c z => by
  rcases f.same with q | ⟨_, q⟩
  · rw [z] at q; exact h q.symm
  · rw [q a c z] at ho; cases ho
theorem Fin.there {p p' : Pen} (f : Fin S H S' H' p p') {a : Addr} {o : HO} (ho : H a = some o) (h : p.map (·.1) ≠ some a) : ∃ o', H' a = some o' := by
  cases o with
  | tbl ps => obtain ⟨qs, q⟩ := f.t a ps ho; exact ⟨_, q⟩
  | ext φ => exact ⟨_, f.h a _ ho h fun _ z => nomatch z⟩
  | _ => exact ⟨_, f.h a _ ho h (nt_plain rfl)⟩
theorem Rel.after (R : Rel K B δ S σ H) {p' : Pen} (f : Fin S H S' H' δ.pen p') : Rel K B { δ with pen := p' } S' σ H' := by
  obtain ⟨ow, h1, h2, h3, h4⟩ := R.sl
  have e0 : ∀ b, B.pa ≠ some b → (∃ o, B.H0 b = some o) → δ.pen.map (·.1) ≠ some b := fun b hb h0 => Pen.map_ne (R.pen_ne hb h0)
  refine ⟨f.ok, ⟨R.fr.s.trans f.s, fun b o h n nt => f.h b o (R.fr.h b o h n nt) (e0 b n ⟨o, h⟩) nt, fun b ps h => by
    obtain ⟨qs, z⟩ := R.fr.t b ps h
    exact f.t b qs z, fun b o h n => ?_, fun a e => ?_⟩, f.pen, ?_, R.len, ow, fun i x e => (h1 i x e).grow f.s fun a o ea ha pl => f.h a o ha (Pen.map_ne (h4 i a ea).2.2.1) pl, h2, h3, fun i a e => ?_⟩
  · obtain ⟨o', q⟩ := R.fr.there h
    exact f.no b o' q (R.fr.no b o h n)
  · obtain ⟨u, hu⟩ := R.fr.pa a e
    by_cases z : δ.pen.map (·.1) = some a
    · have e1 : p'.map (·.1) = some a := by
        rcases f.same with q | ⟨q, _⟩
        · exact q.trans z
        · rw [q] at z; cases z
      match p', e1, f.pen with
      | some (a', c), e1, ⟨_, ca, ns, k, m, q, _⟩ =>
        cases (show some a' = some a from e1)
        exact ⟨_, q⟩
    · exact f.there hu z
  · have q := R.pa
    unfold PaOk at q ⊢
    by_cases hp : B.pd = true ∧ B.pa ≠ none
    · rw [if_pos hp] at q ⊢
      rcases f.same with r | ⟨r, _⟩
      · exact r.trans q
      · rw [r] at q
        exact absurd q.symm hp.2
    · rw [if_neg hp] at q ⊢
      intro a c e
      have e : p' = some (a, c) := e
      rcases f.same with r | ⟨_, r⟩
      · rw [e] at r
        match hd : δ.pen, r with
        | some (a', c'), r =>
          cases (show some a = some a' from r)
          exact q a c' hd
      · have h0 := r a c e
        exact ⟨(R.fr.fresh h0).1, (R.fr.fresh h0).2⟩
  · obtain ⟨r1, r2, r3, u, r4⟩ := h4 i a e
    have ne := Pen.map_ne r3
    exact ⟨f.no a u r4 r1, r2, f.ne ne r4, f.there r4 ne⟩
section
variable {X : Cx} {E : EK} {CX : CXT} {k : Nat} {f : Addr} {fd : FuncData} {ps : List Str} {x : Str} {p pos : Pos} {e : Expr} {es : List Expr}
theorem call_read {sp : dSp} {W : XW} {Q' : D → DS → Prop} {δ1 : DS} {S S1 H1 : Hp} {Q : VK} {vs : List V} {xs : List D} (xo : XOk K B E W S) (e1 : Ex S S1) (R1 : Rel K B δ1 S1 σ H1) (n1 : DnA K S1 vs xs) {n : Nat} (hn : xs.length = n)
    (q : sp xs δ1.pen (fun x p' => Q' x { δ1 with pen := p' }) fun c p' => W c { δ1 with pen := p' }) (post : ∀ x δ' v S' H', Q' x δ' → Ex S S' → Rel K B δ' S' σ H' → Dn K S' v x → Q v H') : spD K n sp vs H1 Q (E σ) :=
  ⟨S1, xs, δ1.pen, _, _, R1.ex, R1.pen, n1, hn, q, fun x p' v S' H' q' f d => post _ _ _ _ _ q' (e1.trans f.s) (R1.after f) d, fun c p' cls od S' H' w f k => xo c _ σ S' H' cls od w (e1.trans f.s) (R1.after f) k⟩
end
def endsD (Q : D → Pen → Prop) : dEnds := { nx := fun δ => Q .non δ.pen, rt := fun x δ => Q x δ.pen }
def startD (m : Nat) (ds : List D) (p : Pen) : DS := ⟨ds.map .dat ++ List.replicate (m - ds.length) .un, p⟩
theorem startRel {N : List Str} {vs : List V} {ds : List D} {p : Pen} (e : Sb S H) (hp : PenOk S H p) (a : DnA K S vs ds) (hl : ds.length ≤ N.length) : Rel K ⟨S, H, p.map (·.1), true⟩ (startD N.length ds p) S (L2.start N vs) H := by
  have hln := a.length
  refine ⟨e, ⟨Ex.refl _, fun _ _ h _ _ => h, fun _ ps h => ⟨ps, h⟩, fun _ _ _ n => n, fun b z => ?_⟩, hp, ?_, ?_, (fun _ => none), fun i x h => ?_, fun _ _ => rfl, fun _ _ _ z => (nomatch z), fun _ _ z => (nomatch z)⟩
  · match p, z, hp with
    | some (a', c), z, ⟨_, ca, ns, k, m, q, _⟩ =>
      cases (show some a' = some b from z)
      exact ⟨_, q⟩
  · unfold PaOk
    by_cases q : p.map (·.1) = none
    · rw [if_neg (fun z => z.2 q)]
      intro a c e
      have e : p = some (a, c) := e
      rw [e] at q; cases q
    · rw [if_pos ⟨rfl, q⟩]; rfl
  · simp only [L2.start, startD, List.length_append, List.length_map, List.length_replicate]; omega
  · have h : (ds.map Sl.dat ++ List.replicate (N.length - ds.length) Sl.un)[i]? = some x := h
    by_cases hi : i < ds.length
    · rw [List.getElem?_append_left (by simpa using hi), List.getElem?_map, List.getElem?_eq_getElem hi] at h
      cases h
      obtain ⟨v, hv, dn⟩ := a.get (List.getElem?_eq_getElem hi)
      refine ⟨rfl, v, ?_, dn⟩
      unfold L2.start
      rw [List.getElem?_append_left (by rw [List.length_map]; omega), List.getElem?_map, hv]; rfl
    · rw [List.getElem?_append_right (by simpa using hi), List.getElem?_replicate] at h
      split at h
      · cases h; exact rfl
      · cases h
theorem Rel.fin {p : Pen} {S0 H0 : Hp} (R : Rel K ⟨S0, H0, p.map (·.1), true⟩ δ S σ H) : Fin S0 H0 S H p δ.pen := by
  have hp := R.pa
  unfold PaOk at hp
  refine ⟨R.fr.s, R.ex, R.pen, ?_, fun b o h n nt => R.fr.h b o h n nt, R.fr.t, R.fr.no⟩
  by_cases q : p.map (·.1) = none
  · rw [if_neg (fun z => z.2 q)] at hp
    refine .inr ⟨?_, fun a c e => (hp a c e).1⟩
    match p, q with
    | none, _ => rfl
  · rw [if_pos ⟨rfl, q⟩] at hp
    exact .inl hp
section
variable {P : Program} {w : World} {K : PySem.W.Frag} {mg : Str → Option Value} {base : Heap} {x qual : Str} {st : Stmt} {f : Addr} {fd : FuncData} {N ps : List Str} {k n : Nat} {sp : dSp} {d : dS}
/-- the context of the body of a def that lets nothing out -/
abbrev cx0 (P : Program) (w : World) (K : PySem.W.Frag) (mg : Str → Option Value) (base : Heap) (N : List Str) (qual : Str) (sc : Scope) (f : Addr) (cdv : Value) (A : Around) (out : List Env) (s : Shared) (H : Hp) (E : XK) : Cx := (cxOf CX0 P w K mg base N qual sc f cdv A out s H E).nox
abbrev E00 : EK := fun _ _ _ _ => False
/-- a def that lets nothing out keeps sp -/
theorem fn_d0 (F : Fun K x qual st f fd) (S : FnScope N ps (defScope st)) (hn : ps.length = n)
    (body : ∀ (cdv : Value) (A : Around) (out : List Env) (s : Shared) (H : Hp) (E : XK), A.guards = some [] → Room k (A.deeper (envOfC qual (defScope st) s.heap.objs.size f cdv)) → DSs (cx0 P w K mg base N qual (defScope st) f cdv A out s H E) E00 (defBody st) d)
    (hsp : ∀ ds p Q W, ds.length = n → sp ds p Q W → d W0 (endsD Q) (startD N.length ds p)) : FnG P w K mg base CX0 (k + 1) f fd ps (spD K n sp) := by
  refine fn_g F S (fun vs H Q E q => (spD_len vs H Q E q).trans hn.symm) fun cdv _ A out s H vs Q E g r q => ?_
  obtain ⟨S0, ds, p, Q', W', ex, hp, a, hl, q, post, _⟩ := q
  have hN : ds.length ≤ N.length := by
    have h1 := S.pre
    have h2 := congrArg List.length h1
    rw [List.length_take] at h2
    omega
  refine ⟨_, ((body cdv A out s H E g r).run ⟨S0, H, (Option.map Prod.fst p : Option Addr), true⟩).nox, startD N.length ds p, S0, W0, endsD Q', startRel ex hp a hN, hsp ds p Q' W' hl q, fun _ _ _ _ _ _ _ h => h.elim, fun δ' σ' S' H' q1 e1 R1 => ?_, fun x δ' v σ' S' H' q1 e1 R1 n1 => ?_, fun _ _ _ _ h => h.elim, fun _ _ _ _ h => h.elim, fun _ _ _ _ _ _ _ h => h.elim⟩
  · exact post _ _ _ _ _ q1 R1.fin .non
  · exact post _ _ _ _ _ q1 R1.fin n1
end
end Ev
namespace Ev
open PySem PySem.Spec PyProof.Rows L2
variable [TabC]
variable {K : PySem.W.Frag} {S S' H H' : Hp} {B : Bs} {δ : DS} {σ : L2.St}
mutual
def D.py : D → PyData
  | .non => .none
  | .bl b => .bool b
  | .int i => .int i
  | .str x => .str x
  | .tup xs => .tuple (D.pys xs)
  | .kt xs => .tuple (D.pys xs)
  | .lst xs => .list (D.pys xs)
  | .dK _ => .none
  | .dT _ => .none
  | .fK _ => .none
  | .fT _ => .none
  | .fN _ => .none
  | .exc _ _ _ => .none
  | .exc0 _ => .none
  | .raw _ => .none
  | .scr _ => .none
  | .fn _ _ => .none
def D.pys : List D → List PyData
  | [] => []
  | x :: xs => x.py :: D.pys xs
end
mutual
/-- none, truths, numbers, texts, tuples and lists of such -/
def D.lay : D → Bool
  | .non => true
  | .bl _ => true
  | .int _ => true
  | .str x => PyData.strOk x
  | .tup xs => D.lays xs
  | .kt xs => D.lays xs
  | .lst xs => D.lays xs
  | .dK _ => false
  | .dT _ => false
  | .fK _ => false
  | .fT _ => false
  | .fN _ => false
  | .exc _ _ _ => false
  | .exc0 _ => false
  | .raw _ => false
  | .scr _ => false
  | .fn _ _ => false
def D.lays : List D → Bool
  | [] => true
  | x :: xs => x.lay && D.lays xs
end
mutual
def D.dep : D → Nat
  | .tup xs => D.deps xs + 1
  | .kt xs => D.deps xs + 1
  | .lst xs => D.deps xs + 1
  | _ => 0
def D.deps : List D → Nat
  | [] => 0
  | x :: xs => max x.dep (D.deps xs)
end
mutual
theorem Dn.dp : ∀ {d : D} {v : V}, Dn K S v d → d.lay = true → Dp K S v d.py
  | .non, _, h, _ => by cases h; exact .non
  | .bl b, _, h, _ => by cases h; exact .bl b
  | .int i, _, h, _ => by cases h; exact .int i
  | .str x, _, h, _ => by cases h; exact .str x
  | .tup xs, _, h, l => by cases h with | tup h1 h2 => exact .tup (SqT.of h1) (DnA.dp h2 l)
  | .kt xs, _, h, l => by cases h with | kt h1 h2 => exact .tup (h1.sqT (Ex.refl S)) (DnA.dp h2 l)
  | .lst xs, _, h, l => by cases h with | lst h1 h2 => exact .lst (SqL.of h1) (DnA.dp h2 l)
  | .dK _, _, _, l => by cases l
  | .dT _, _, _, l => by cases l
  | .fK _, _, _, l => by cases l
  | .fT _, _, _, l => by cases l
  | .fN _, _, _, l => by cases l
  | .exc _ _ _, _, _, l => by cases l
  | .exc0 _, _, _, l => by cases l
  | .raw _, _, _, l => by cases l
  | .scr _, _, _, l => by cases l
  | .fn _ _, _, _, l => by cases l
theorem DnA.dp : ∀ {ds : List D} {vs : List V}, DnA K S vs ds → D.lays ds = true → DpAll K S vs (D.pys ds)
  | [], _, h, _ => by cases h; exact .nil
  | d :: ds, _, h, l => by
    have l' : (d.lay && D.lays ds) = true := l
    rw [Bool.and_eq_true] at l'
    cases h with | cons h1 h2 => exact .cons (Dn.dp h1 l'.1) (DnA.dp h2 l'.2)
end
mutual
theorem D.lay_can : ∀ d : D, d.lay = true → d.py.canLay0 = true
  | .non, _ => by simp [D.py, PyData.canLay0]
  | .bl b, _ => by simp [D.py, PyData.canLay0]
  | .int i, _ => by simp [D.py, PyData.canLay0]
  | .str x, h => by simpa [D.py, PyData.canLay0] using (show PyData.strOk x = true from h)
  | .tup xs, h => by simpa [D.py, PyData.canLay0] using D.lays_can xs h
  | .kt xs, h => by simpa [D.py, PyData.canLay0] using D.lays_can xs h
  | .lst xs, h => by simpa [D.py, PyData.canLay0] using D.lays_can xs h
  | .dK _, h => by cases h
  | .dT _, h => by cases h
  | .fK _, h => by cases h
  | .fT _, h => by cases h
  | .fN _, h => by cases h
  | .exc _ _ _, h => by cases h
  | .exc0 _, h => by cases h
  | .raw _, h => by cases h
  | .scr _, h => by cases h
  | .fn _ _, h => by cases h
theorem D.lays_can : ∀ ds : List D, D.lays ds = true → PyData.canLayAll0 (D.pys ds) = true
  | [], _ => by simp [D.pys, PyData.canLayAll0]
  | d :: ds, h => by
    have h' : (d.lay && D.lays ds) = true := h
    rw [Bool.and_eq_true] at h'
    simp [D.pys, PyData.canLayAll0, D.lay_can d h'.1, D.lays_can ds h'.2]
end
mutual
theorem D.py_dep : ∀ d : D, d.py.depth = d.dep
  | .non => by simp [D.py, PyData.depth, D.dep]
  | .bl b => by simp [D.py, PyData.depth, D.dep]
  | .int i => by simp [D.py, PyData.depth, D.dep]
  | .str x => by simp [D.py, PyData.depth, D.dep]
  | .tup xs => by simp [D.py, PyData.depth, D.dep, D.pys_dep xs]
  | .kt xs => by simp [D.py, PyData.depth, D.dep, D.pys_dep xs]
  | .lst xs => by simp [D.py, PyData.depth, D.dep, D.pys_dep xs]
  | .dK _ => by simp [D.py, PyData.depth, D.dep]
  | .dT _ => by simp [D.py, PyData.depth, D.dep]
  | .fK _ => by simp [D.py, PyData.depth, D.dep]
  | .fT _ => by simp [D.py, PyData.depth, D.dep]
  | .fN _ => by simp [D.py, PyData.depth, D.dep]
  | .exc _ _ _ => by simp [D.py, PyData.depth, D.dep]
  | .exc0 _ => by simp [D.py, PyData.depth, D.dep]
  | .raw _ => by simp [D.py, PyData.depth, D.dep]
  | .scr _ => by simp [D.py, PyData.depth, D.dep]
  | .fn _ _ => by simp [D.py, PyData.depth, D.dep]
theorem D.pys_dep : ∀ ds : List D, PyData.depthAll (D.pys ds) = D.deps ds
  | [] => by simp [D.pys, PyData.depthAll, D.deps]
  | d :: ds => by simp [D.pys, PyData.depthAll, D.deps, D.py_dep d, D.pys_dep ds]
end
theorem D.shaped {d : D} (l : d.lay = true) (h : d.dep ≤ 64) : SeqAt.shaped d.py = true := by
  show (d.py.canLay0 && decide (d.py.depth ≤ 64)) = true
  rw [Bool.and_eq_true]
  exact ⟨D.lay_can d l, decide_eq_true (by rw [D.py_dep]; exact h)⟩
/-- may be compared: d.cm = laid out of plain things, not too deep -/
def D.cm (d : D) : Prop := d.lay = true ∧ d.dep ≤ 64
theorem D.cm.sh {d : D} (h : d.cm) : SeqAt.shaped d.py = true := D.shaped h.1 h.2
/-- == -/
def D.eq (d e : D) : Bool := PyData.eqv d.py e.py
section
variable {X : Cx} {E : EK} {e a b c : Expr} {es : List Expr} {pos : Pos} {da db : dE}
def rEq : DR2 := fun x y Q => x.cm ∧ y.cm ∧ Q (.bl (x.eq y))
def rNe : DR2 := fun x y Q => x.cm ∧ y.cm ∧ Q (.bl (!x.eq y))
theorem od_eq (hu : X.A.units + 64 < cLine) : OpD X (compareOp .Eq) rEq := fun pins s σ H x y v u Q I rx ry ⟨S, dx, dy, Q', ex, n1, n2, ⟨c1, c2, q⟩, post⟩ =>
  op_eqD hu pins s σ H x y v u Q I rx ry ⟨_, _, (n1.mono ex).dp c1.1, (n2.mono ex).dp c2.1, c1.sh, c2.sh, post _ _ _ _ q (Grow.refl ex) (.bl _)⟩
theorem od_ne (hu : X.A.units + 64 < cLine) : OpD X (compareOp .NotEq) rNe := fun pins s σ H x y v u Q I rx ry ⟨S, dx, dy, Q', ex, n1, n2, ⟨c1, c2, q⟩, post⟩ =>
  op_neD hu pins s σ H x y v u Q I rx ry ⟨_, _, (n1.mono ex).dp c1.1, (n2.mono ex).dp c2.1, c1.sh, c2.sh, post _ _ _ _ q (Grow.refl ex) (.bl _)⟩
def rCI (p : Int → Int → Bool) : DR2 := fun x y Q => match x, y with | .int i, .int j => Q (.bl (p i j)) | _, _ => False
theorem od_ci {op : CmpOp} {p : Int → Int → Bool} (h : OpR X (compareOp op) (rI0 fun i j => .bl (p i j))) : OpD X (compareOp op) (rCI p) := fun pins s σ H x y v u Q I rx ry ⟨S, dx, dy, Q', ex, n1, n2, q, post⟩ => by
  match dx, dy, n1, n2, q with
  | .int i, .int j, .int _, .int _, q => exact h pins s σ H _ _ v u Q I rx ry ⟨i, j, rfl, rfl, post _ _ _ _ q (Grow.refl ex) (.bl _)⟩
abbrev rLt : DR2 := rCI fun i j => decide (i < j)
abbrev rLe : DR2 := rCI fun i j => decide (i ≤ j)
abbrev rGt : DR2 := rCI fun i j => decide (j < i)
abbrev rGe : DR2 := rCI fun i j => decide (j ≤ i)
theorem od_lt : OpD X (compareOp .Lt) rLt := od_ci op_lt
theorem od_le : OpD X (compareOp .LtE) rLe := od_ci op_le
theorem od_gt : OpD X (compareOp .Gt) rGt := od_ci op_gt
theorem od_ge : OpD X (compareOp .GtE) rGe := od_ci op_ge
/-- is None, is not None -/
def D.isN : D → Bool | .non => true | .raw v => decide (v = .non) | _ => false
theorem Dn.isN {v : V} {d : D} (h : Dn K S v d) : decide (v = .non) = d.isN := by
  cases h <;> simp [D.isN]
def rIsN : DR2 := fun x y Q => match y with | .non => Q (.bl x.isN) | _ => False
def rNotN : DR2 := fun x y Q => match y with | .non => Q (.bl (!x.isN)) | _ => False
theorem od_notN : OpD X (compareOp .IsNot) rNotN := fun pins s σ H x y v u Q I rx ry ⟨S, dx, dy, Q', ex, n1, n2, q, post⟩ => by
  match dy, n2, q with
  | .non, .non, q => exact op_notN pins s σ H _ _ v u Q I rx ry ⟨rfl, post _ _ _ _ q (Grow.refl ex) (by rw [n1.isN]; exact .bl _)⟩
def rIO (C : Int → Int → Prop) (g : Int → Int → Int) : DR2 := fun x y Q => match x, y with | .int i, .int j => C i j ∧ Q (.int (g i j)) | _, _ => False
theorem od_io {op : Operator} {C : Int → Int → Prop} {g : Int → Int → Int} (h : OpR X (binaryOp op) (rI C fun i j => .int (g i j))) : OpD X (binaryOp op) (rIO C g) := fun pins s σ H x y v u Q I rx ry ⟨S, dx, dy, Q', ex, n1, n2, q, post⟩ => by
  match dx, dy, n1, n2, q with
  | .int i, .int j, .int _, .int _, q => exact h pins s σ H _ _ v u Q I rx ry ⟨i, j, rfl, rfl, q.1, post _ _ _ _ q.2 (Grow.refl ex) (.int _)⟩
def rMulI : DR2 := rIO CMul fun i j => i * j
def rDivI : DR2 := rIO CDiv fun i j => i / j
def rModI : DR2 := rIO (fun _ j => 0 < j) fun i j => i % j
def rPowI : DR2 := rIO CPow fun i j => i ^ j.toNat
theorem od_mul : OpD X (binaryOp .Mult) rMulI := od_io op_mul
theorem od_div : OpD X (binaryOp .FloorDiv) rDivI := od_io op_fdiv
theorem od_mod : OpD X (binaryOp .Mod) rModI := od_io op_mod
theorem od_pow : OpD X (binaryOp .Pow) rPowI := od_io op_pow
def rSubI : DR2 := fun x y Q => match x, y with | .int i, .int j => Q (.int (i - j)) | _, _ => False
theorem od_sub : OpD X (binaryOp .Sub) rSubI := fun pins s σ H x y v u Q I rx ry ⟨S, dx, dy, Q', ex, n1, n2, q, post⟩ => by
  match dx, dy, n1, n2, q with
  | .int i, .int j, .int _, .int _, q => exact op_sub pins s σ H _ _ v u Q I rx ry ⟨i, j, rfl, rfl, post _ _ _ _ q (Grow.refl ex) (.int _)⟩
/-- + -/
def rAddD : DR2 := fun x y Q => match x, y with
  | .int i, .int j => Q (.int (i + j))
  | .str i, .str j => i.length + j.length ≤ sizeLine ∧ Q (.str (i ++ j))
  | .tup i, .tup j => i.length + j.length ≤ sizeLine ∧ Q (.tup (i ++ j))
  | _, _ => False
theorem od_add : OpD X (binaryOp .Add) rAddD := fun pins s σ H x y v u Q I rx ry ⟨S, dx, dy, Q', ex, n1, n2, q, post⟩ => by
  match dx, dy, n1, n2, q with
  | .int i, .int j, .int _, .int _, q => exact op_add pins s σ H _ _ v u Q I rx ry ⟨i, j, rfl, rfl, post _ _ _ _ q (Grow.refl ex) (.int _)⟩
  | .str i, .str j, .str _, .str _, q => exact op_add_str pins s σ H _ _ v u Q I rx ry ⟨i, j, rfl, rfl, q.1, post _ _ _ _ q.2 (Grow.refl ex) (.str _)⟩
  | .tup i, .tup j, .tup h1 a1, .tup h2 a2, q =>
    refine op_catA pins s σ H _ _ v u Q I rx ry ⟨_, _, _, _, rfl, rfl, SqT.of (ex _ _ h1), SqT.of (ex _ _ h2), by rw [a1.length, a2.length]; exact q.1, fun e => ?_, fun _ e => ?_, fun _ _ p hp => ?_⟩
    · subst e; cases a1; exact post _ _ _ _ q.2 (Grow.refl ex) (.tup h2 a2)
    · subst e; cases a2; have := q.2; rw [List.append_nil] at this; exact post _ _ _ _ this (Grow.refl ex) (.tup h1 a1)
    · exact post _ _ _ _ q.2 (Grow.new ex hp) (.tup upd_same ((a1.append a2).mono (Ex.new (ex.none hp))))
/-- lists: + , * -/
abbrev DF2 := D → D → (List D → Prop) → Prop
def liftRF (K : PySem.W.Frag) (r : DF2) : R2 := fun x y H Q => ∃ S dx dy Q', Sb S H ∧ Dn K S x dx ∧ Dn K S y dy ∧ r dx dy Q' ∧ ∀ xs p vs, Q' xs → H p = none → DnA K S vs xs → Q (.ref p) (upd H p (.lst vs))
def dBinF (r : DF2) (da db : dE) : dF := fun W δ Q => da W δ fun x δ1 => db W δ1 fun y δ2 => r x y fun z => Q z δ2
theorem df_op {op : Operator} {r : DF2} (ho : OpR X (binaryOp op) (liftRF X.K r)) (ha : DE X E a da) (hb : DE X E b db) : DF X E (.BinOp a op b pos) (dBinF r da db) := ⟨fun B => pe_mono (pe_op ho (ha.run B) (hb.run B)) fun σ H Q q => by
  obtain ⟨δ, S, W, Q', R, q, xo, post⟩ := q
  refine ⟨δ, S, W, _, R, q, xo, fun x δ1 v S1 H1 q1 e1 R1 n1 => ?_⟩
  refine ⟨δ1, S1, W, _, R1, q1, xo.mono e1, fun y δ2 u S2 H2 q2 e2 R2 n2 => ?_⟩
  exact ⟨S2, x, y, _, R2.ex, n1.mono e2, n2, q2, fun xs p vs q3 hp a => post _ _ _ _ _ _ q3 (e1.trans e2) R2 hp a⟩⟩
def rCatL : DF2 := fun x y Q => match x, y with | .lst i, .lst j => i.length + j.length ≤ sizeLine ∧ Q (i ++ j) | _, _ => False
theorem od_catL : OpR X (binaryOp .Add) (liftRF X.K rCatL) := fun pins s σ H x y v u Q I rx ry ⟨S, dx, dy, Q', ex, n1, n2, q, post⟩ => by
  match dx, dy, n1, n2, q with
  | .lst i, .lst j, .lst h1 a1, .lst h2 a2, q =>
    exact op_cat pins s σ H _ _ v u Q I rx ry ⟨_, _, _, _, rfl, rfl, ex _ _ h1, ex _ _ h2, by rw [a1.length, a2.length]; exact q.1, fun p hp => post _ _ _ q.2 hp (a1.append a2)⟩
def rRepL : DF2 := fun x y Q => match x, y with | .lst i, .int k => -(2 ^ 63) ≤ k ∧ k < 2 ^ 63 ∧ i.length * k.toNat ≤ sizeLine ∧ Q (List.replicate k.toNat i).flatten | _, _ => False
theorem DnA.rep {vs : List V} {ds : List D} (a : DnA K S vs ds) : ∀ n : Nat, DnA K S (List.replicate n vs).flatten (List.replicate n ds).flatten
  | 0 => .nil
  | n + 1 => by
    rw [List.replicate_succ, List.replicate_succ, List.flatten_cons, List.flatten_cons]
    exact a.append (a.rep n)
theorem od_repL : OpR X (binaryOp .Mult) (liftRF X.K rRepL) := fun pins s σ H x y v u Q I rx ry ⟨S, dx, dy, Q', ex, n1, n2, q, post⟩ => by
  match dx, dy, n1, n2, q with
  | .lst i, .int k, .lst h1 a1, .int _, q =>
    exact op_rep pins s σ H _ _ v u Q I rx ry ⟨_, k, _, rfl, rfl, ex _ _ h1, q.1, q.2.1, by rw [a1.length]; exact q.2.2.1, fun p hp => post _ _ _ q.2.2.2 hp (a1.rep _)⟩
/-- in, not in -/
def rInD (neg : Bool) : DR2 := fun x y Q => x.cm ∧ y.cm ∧ match y with
  | .lst ds => Q (.bl (if neg then !(ds.any fun z => z.eq x) else ds.any fun z => z.eq x))
  | .tup ds => Q (.bl (if neg then !(ds.any fun z => z.eq x) else ds.any fun z => z.eq x))
  | .kt ds => Q (.bl (if neg then !(ds.any fun z => z.eq x) else ds.any fun z => z.eq x))
  | _ => False
theorem D.any_py (x : D) : ∀ ds : List D, ((D.pys ds).any fun z => PyData.eqv z x.py) = ds.any fun z => z.eq x
  | [] => rfl
  | d :: ds => by
    have := D.any_py x ds
    simp only [D.pys, List.any_cons, this]
    rfl
end
end Ev
namespace Ev
open PySem PySem.Spec PyProof.Rows L2
variable [TabC]
variable {K : PySem.W.Frag} {S S' H H' : Hp} {B : Bs} {δ : DS} {σ : L2.St}
section
variable {X : Cx} {E : EK} {e a b c : Expr} {es : List Expr} {pos p : Pos} {da db : dE}
theorem room_in {A : Around} {ds : List D} {d : D} (h : d.dep ≤ 64) (hu : A.units + 65 < cLine) : A.units + 1 + min (PyData.depthAll (D.pys ds)) d.py.depth < cLine := by
  rw [D.py_dep]; omega
theorem od_in (hu : X.A.units + 65 < cLine) : OpD X (compareOp .In) (rInD false) := fun pins s σ H x y v u Q I rx ry ⟨S, dx, dy, Q', ex, n1, n2, ⟨c1, c2, q⟩, post⟩ => by
  obtain ⟨as, r1⟩ := Dp.reads I _ _ _ ((n1.mono ex).dp c1.1) rx
  match dy, n2, c2, q with
  | .lst ds, n2, c2, q =>
    obtain ⟨bs, r2⟩ := Dp.reads I _ _ _ ((n2.mono ex).dp c2.1) ry
    exact SeqAt.in_list_reads r2 r1 (D.lays_can ds c2.1) (D.lay_can dx c1.1) (room_in c1.2 hu) ⟨.bl _, H, I, rfl, post _ _ _ _ (by rw [D.any_py]; exact q) (Grow.refl ex) (.bl _)⟩
  | .tup ds, n2, c2, q =>
    obtain ⟨bs, r2⟩ := Dp.reads I _ _ _ ((n2.mono ex).dp c2.1) ry
    exact SeqAt.in_tuple_reads r2 r1 (D.lays_can ds c2.1) (D.lay_can dx c1.1) (room_in c1.2 hu) ⟨.bl _, H, I, rfl, post _ _ _ _ (by rw [D.any_py]; exact q) (Grow.refl ex) (.bl _)⟩
  | .kt ds, n2, c2, q =>
    obtain ⟨bs, r2⟩ := Dp.reads I _ _ _ ((n2.mono ex).dp c2.1) ry
    exact SeqAt.in_tuple_reads r2 r1 (D.lays_can ds c2.1) (D.lay_can dx c1.1) (room_in c1.2 hu) ⟨.bl _, H, I, rfl, post _ _ _ _ (by rw [D.any_py]; exact q) (Grow.refl ex) (.bl _)⟩
theorem od_notin (hu : X.A.units + 65 < cLine) : OpD X (compareOp .NotIn) (rInD true) := fun pins s σ H x y v u Q I rx ry ⟨S, dx, dy, Q', ex, n1, n2, ⟨c1, c2, q⟩, post⟩ => by
  obtain ⟨as, r1⟩ := Dp.reads I _ _ _ ((n1.mono ex).dp c1.1) rx
  match dy, n2, c2, q with
  | .lst ds, n2, c2, q =>
    obtain ⟨bs, r2⟩ := Dp.reads I _ _ _ ((n2.mono ex).dp c2.1) ry
    exact SeqAt.notIn_list_reads r2 r1 (D.lays_can ds c2.1) (D.lay_can dx c1.1) (room_in c1.2 hu) ⟨.bl _, H, I, rfl, post _ _ _ _ (by rw [D.any_py]; exact q) (Grow.refl ex) (.bl _)⟩
  | .tup ds, n2, c2, q =>
    obtain ⟨bs, r2⟩ := Dp.reads I _ _ _ ((n2.mono ex).dp c2.1) ry
    exact SeqAt.notIn_tuple_reads r2 r1 (D.lays_can ds c2.1) (D.lay_can dx c1.1) (room_in c1.2 hu) ⟨.bl _, H, I, rfl, post _ _ _ _ (by rw [D.any_py]; exact q) (Grow.refl ex) (.bl _)⟩
  | .kt ds, n2, c2, q =>
    obtain ⟨bs, r2⟩ := Dp.reads I _ _ _ ((n2.mono ex).dp c2.1) ry
    exact SeqAt.notIn_tuple_reads r2 r1 (D.lays_can ds c2.1) (D.lay_can dx c1.1) (room_in c1.2 hu) ⟨.bl _, H, I, rfl, post _ _ _ _ (by rw [D.any_py]; exact q) (Grow.refl ex) (.bl _)⟩
def optQ {α : Type} (o : Option α) (Q : α → Prop) : Prop := match o with | some d => Q d | none => False
theorem optQ_ex {α : Type} {o : Option α} {Q : α → Prop} (h : optQ o Q) : ∃ d, o = some d ∧ Q d := by
  cases o with
  | none => exact h.elim
  | some d => exact ⟨d, rfl, h⟩
def rIxD : DR2 := fun x y Q => match x, y with
  | .lst ds, .int i => optQ (atI ds i) Q
  | .tup ds, .int i => optQ (atI ds i) Q
  | .kt ds, .int i => optQ (atI ds i) Q
  | .str z, .int i => z.length ≤ sizeLine ∧ optQ (atI z.cps.toList i) fun c => Q (.str ⟨#[c]⟩)
  | _, _ => False
theorem DnA.atI {vs : List V} {ds : List D} {i : Int} {d : D} (a : DnA K S vs ds) (h : L2.atI ds i = some d) : ∃ v, L2.atI vs i = some v ∧ Dn K S v d := by
  unfold L2.atI at h ⊢
  rw [a.length]
  cases q : ixN ds.length i with
  | none => rw [q] at h; cases h
  | some j => rw [q] at h; exact a.get h
theorem ix_d : IxR X (liftR X.K rIxD) := fun value slice pins s σ H x y v u Q I rx ry ⟨S, dx, dy, Q', ex, n1, n2, q, post⟩ hs => by
  match dx, dy, n1, n2, q with
  | .lst ds, .int i, .lst h1 a1, .int _, q =>
    obtain ⟨d, hi, q⟩ := optQ_ex q
    obtain ⟨w, e1, e2⟩ := a1.atI hi
    exact ix_list value slice pins s σ H _ _ v u Q I rx ry ⟨_, _, i, w, rfl, rfl, SqL.of (ex _ _ h1), e1, post _ _ _ _ q (Grow.refl ex) e2⟩ hs
  | .tup ds, .int i, .tup h1 a1, .int _, q =>
    obtain ⟨d, hi, q⟩ := optQ_ex q
    obtain ⟨w, e1, e2⟩ := a1.atI hi
    exact ix_tup value slice pins s σ H _ _ v u Q I rx ry ⟨_, _, i, w, rfl, rfl, SqT.of (ex _ _ h1), e1, post _ _ _ _ q (Grow.refl ex) e2⟩ hs
  | .kt ds, .int i, .kt h1 a1, .int _, q =>
    obtain ⟨d, hi, q⟩ := optQ_ex q
    obtain ⟨w, e1, e2⟩ := a1.atI hi
    exact ix_tup value slice pins s σ H _ _ v u Q I rx ry ⟨_, _, i, w, rfl, rfl, h1.sqT ex, e1, post _ _ _ _ q (Grow.refl ex) e2⟩ hs
  | .str z, .int i, .str _, .int _, q =>
    obtain ⟨c, hi, q2⟩ := optQ_ex q.2
    exact ix_str value slice pins s σ H _ _ v u Q I rx ry ⟨z, i, c, rfl, rfl, q.1, hi, post _ _ _ _ q2 (Grow.refl ex) (.str _)⟩ hs
theorem de_ix (ha : DE X E a da) (hb : DE X E b db) (hs : PlainIx b) : DE X E (.Subscript a b pos) (dBin rIxD da db) := ⟨fun B => pe_mono (pe_ix ix_d (ha.run B) (hb.run B) hs) fun σ H Q q => lift_bin q⟩
/-- a list of one's own (or the pen's own) in a slot -/
def ownAt (δ : DS) (i : Nat) : Option (List D) := match δ.sl[i]? with
  | some (.own ds) => some ds
  | some (.hp ds) => some ds
  | _ => none
def setOwnAt (δ : DS) (i : Nat) (ds : List D) : DS := match δ.sl[i]? with
  | some (.own _) => setSl δ i (.own ds)
  | some (.hp _) => setSl δ i (.hp ds)
  | _ => δ
theorem Rel.ownAt (R : Rel K B δ S σ H) {i : Nat} {ds : List D} (h : ownAt δ i = some ds) : ∃ p vs, σ[i]? = some (some (.ref p)) ∧ H p = some (.lst vs) ∧ DnA K S vs ds ∧ S p = none ∧
    ∀ vs' ds', DnA K S vs' ds' → Rel K B (setOwnAt δ i ds') S σ (upd H p (.lst vs')) := by
  unfold Ev.ownAt at h
  unfold setOwnAt
  split at h
  · rename_i d hd
    cases h
    obtain ⟨p, vs, h1, h2, h3, h4, _, _, h5⟩ := R.own hd
    exact ⟨p, vs, h1, h2, h3, h4, h5⟩
  · rename_i d hd
    cases h
    obtain ⟨p, vs, h1, h2, h3, h4, _, h5⟩ := R.hp hd
    exact ⟨p, vs, h1, h2, h3, h4, h5⟩
  · cases h
/-- the list in slot i, of one's own or frozen, to be looked at -/
def lookAt (δ : DS) (i : Nat) : Option (List D) := match δ.sl[i]? with
  | some (.own ds) => some ds
  | some (.hp ds) => some ds
  | some (.dat (.lst ds)) => some ds
  | _ => none
theorem Rel.lookAt (R : Rel K B δ S σ H) {i : Nat} {ds : List D} (h : lookAt δ i = some ds) : ∃ p vs, σ[i]? = some (some (.ref p)) ∧ H p = some (.lst vs) ∧ DnA K S vs ds ∧ (S p = none ∨ S p = some (.lst vs)) := by
  unfold Ev.lookAt at h
  split at h
  · rename_i d hd
    cases h
    obtain ⟨p, vs, h1, h2, h3, h4, _⟩ := R.own hd
    exact ⟨p, vs, h1, h2, h3, .inl h4⟩
  · rename_i d hd
    cases h
    obtain ⟨p, vs, h1, h2, h3, h4, _⟩ := R.hp hd
    exact ⟨p, vs, h1, h2, h3, .inl h4⟩
  · rename_i d hd
    cases h
    obtain ⟨v, e1, e2⟩ := R.dat hd
    match v, e1, e2 with
    | .ref p, e1, .lst h1 h2 => exact ⟨p, _, e1, R.ex _ _ h1, h2, .inr h1⟩
  · cases h
/-- the list in slot i, an item of it -/
def dOwnIx (i : Nat) (d : dE) : dE := fun W δ Q => (∃ ds, lookAt δ i = some ds) ∧ d W δ fun y δ1 => match y with
  | .int j => optQ (lookAt δ1 i) fun ds => optQ (atI ds j) fun d => Q d δ1
  | _ => False
theorem de_ownIx {i : Nat} {x : Str} (hv : PE X (.Name x p) (tVar i)) (hb : DE X E b db) (hs : PlainIx b) : DE X E (.Subscript (.Name x p) b pos) (dOwnIx i db) := ⟨fun B => pe_mono (pe_ix ix_list hv (hb.run B) hs) fun σ H Q q => by
  obtain ⟨δ, S, W, Q', R, ⟨⟨ds0, h0⟩, q⟩, xo, post⟩ := q
  obtain ⟨p0, _, v0, _⟩ := R.lookAt h0
  refine ⟨.ref p0, v0, δ, S, W, _, R, q, xo, fun y δ1 v S1 H1 q1 e1 R1 n1 => ?_⟩
  match y, n1, q1 with
  | .int j, .int _, q1 =>
    obtain ⟨ds, h1, q1⟩ := optQ_ex q1
    obtain ⟨d, h2, q1⟩ := optQ_ex q1
    obtain ⟨p1, vs, v1, g1, a1, _⟩ := R1.lookAt h1
    rw [v0] at v1
    cases v1
    obtain ⟨w, w1, w2⟩ := a1.atI h2
    exact ⟨p0, vs, j, w, rfl, rfl, SqL.of g1, w1, post _ _ _ _ _ q1 e1 R1 w2⟩⟩
/-- name[i] = e, the list of one's own -/
def dSetIx (i : Nat) (di de : dE) : dS := fun W N δ => de W δ fun x δ1 => (∃ ds, ownAt δ1 i = some ds) ∧ di W δ1 fun y δ2 => match y with
  | .int k => optQ (ownAt δ2 i) fun ds => optQ (ixN ds.length k) fun j => N.nx (setOwnAt δ2 i (ds.set j x))
  | _ => False
theorem ds_setIx {i : Nat} {x : Str} {tp : Pos} (hv : PE X (.Name x p) (tVar i)) (hi : DE X E b db) (he : DE X E e da) (hs : swapsWithSole [.Subscript (.Name x p) b tp] e pos.line X.env = pure false := by rfl) (hw : swappedStores [.Subscript (.Name x p) b tp] e X.env = pure none := by rfl)
    (h1 : (assignEach [.Subscript (.Name x p) b tp] X.env).map (·.2) = [assign (.Subscript (.Name x p) b tp) X.env] := by rfl)
    (h2 : ∀ v, assign (.Subscript (.Name x p) b tp) X.env v = (do
      let ov ← holding [v] (eval (.Name x p) X.env)
      let iv ← holding [v, ov] (eval b X.env)
      standAt tp
      holding [v, ov, iv] (setItem ov iv v)
      release [v, ov, iv] []) := by intro _; rfl) : DSt X E (.Assign [.Subscript (.Name x p) b tp] e pos) (dSetIx i db da) := ⟨fun B => ps_mono (ps_asg (he.run B) (pg_sub hv (hi.run B) set_list h2) hs hw h1) fun Z σ H q => by
  obtain ⟨δ, S, W, N, R, q, xo, p1, _⟩ := q
  refine ⟨δ, S, W, _, R, q, xo, fun d δ1 v S1 H1 q1 e1 R1 n1 => ?_⟩
  obtain ⟨⟨ds0, h0⟩, q1⟩ := q1
  obtain ⟨p0, _, v0, _⟩ := R1.ownAt h0
  refine ⟨.ref p0, v0, δ1, S1, W, _, R1, q1, xo.mono e1, fun y δ2 u S2 H2 q2 e2 R2 n2 => ?_⟩
  match y, n2, q2 with
  | .int k, .int _, q2 =>
    obtain ⟨ds, h1, q2⟩ := optQ_ex q2
    obtain ⟨j, hj, q2⟩ := optQ_ex q2
    obtain ⟨p1', vs, v1, g1, a1, _, put⟩ := R2.ownAt h1
    rw [v0] at v1
    cases v1
    exact ⟨p0, vs, k, j, rfl, rfl, g1, by rw [a1.length]; exact hj, p1 _ _ _ _ q2 (e1.trans e2) (put _ _ (a1.set (n1.mono e2) j))⟩⟩
/-- e[lo:hi] -/
abbrev dO := XW → DS → (Option Int → DS → Prop) → Prop
def liftO (K : PySem.W.Frag) (B : Bs) (E : EK) (d : dO) : TO := fun σ H Q => ∃ δ S W Q', Rel K B δ S σ H ∧ d W δ Q' ∧ XOk K B E W S ∧ ∀ o δ' S' H', Q' o δ' → Ex S S' → Rel K B δ' S' σ H' → Q o H'
structure DO (X : Cx) (E : EK) (e : Option Expr) (d : dO) : Prop where
  run : ∀ B, PO X e (liftO X.K B E d)
def oNone : dO := fun _ δ Q => Q none δ
def oSome (d : dE) : dO := fun W δ Q => d W δ fun x δ' => match x with | .int i => Q (some i) δ' | _ => False
theorem po_mono {o : Option Expr} {t t' : TO} (h : PO X o t) (m : ∀ σ H Q, t' σ H Q → t σ H Q) : PO X o t' := ⟨fun pins s σ H Q I q => h.run pins s σ H Q I (m _ _ _ q)⟩
theorem do_none : DO X E none oNone := ⟨fun B => po_mono po_none fun σ H Q q => by
  obtain ⟨δ, S, W, Q', R, q, xo, post⟩ := q
  exact post _ _ _ _ q (Ex.refl _) R⟩
theorem do_some (h : DE X E e da) : DO X E (some e) (oSome da) := ⟨fun B => po_mono (po_some (h.run B)) fun σ H Q q => by
  obtain ⟨δ, S, W, Q', R, q, xo, post⟩ := q
  refine ⟨δ, S, W, _, R, q, xo, fun x δ1 v S1 H1 q1 e1 R1 n1 => ?_⟩
  match x, n1, q1 with
  | .int i, .int _, q1 => exact ⟨i, rfl, post _ _ _ _ q1 e1 R1⟩⟩
def cutD {α : Type} (xs : List α) (lo hi : Option Int) : List α := (xs.drop (HT.sIx xs.length 0 lo)).take (HT.sIx xs.length xs.length hi - HT.sIx xs.length 0 lo)
theorem DnA.cut {vs : List V} {ds : List D} (a : DnA K S vs ds) (lo hi : Option Int) : DnA K S (cutV vs lo hi) (cutD ds lo hi) := by
  unfold cutV cutD
  rw [a.length]
  exact (a.drop _).take _
theorem cut_whole {α : Type} {xs : List α} {lo hi : Option Int} (h : HT.sIx xs.length 0 lo = 0 ∧ HT.sIx xs.length xs.length hi = xs.length) : cutD xs lo hi = xs := by
  unfold cutD
  rw [h.1, h.2]
  simp
/-- a slice of a tuple, of a text -/
def dSlT (d : dE) (lo hi : dO) : dE := fun W δ Q => d W δ fun x δ1 => lo W δ1 fun l δ2 => hi W δ2 fun h δ3 => match x with
  | .tup ds => Q (.tup (cutD ds l h)) δ3
  | .str z => z.length ≤ sizeLine ∧ Q (.str (cutS z l h)) δ3
  | _ => False
/-- a slice of a list -/
def dSlL (d : dE) (lo hi : dO) : dF := fun W δ Q => d W δ fun x δ1 => lo W δ1 fun l δ2 => hi W δ2 fun h δ3 => match x with
  | .lst ds => Q (cutD ds l h) δ3
  | .scr ns => Q (cutD (ns.map .int) l h) δ3
  | _ => False
theorem de_slT {lo hi : Option Expr} {dl dh : dO} {p2 : Pos} (he : DE X E e da) (hl : DO X E lo dl) (hh : DO X E hi dh) : DE X E (.Subscript e (.Slice lo hi none p2) pos) (dSlT da dl dh) := ⟨fun B => pe_mono (pe_slice (SlR.or sl_tupA sl_str) (he.run B) (hl.run B) (hh.run B)) fun σ H Q q => by
  obtain ⟨δ, S, W, Q', R, q, xo, post⟩ := q
  refine ⟨δ, S, W, _, R, q, xo, fun x δ1 v S1 H1 q1 e1 R1 n1 => ⟨δ1, S1, W, _, R1, q1, xo.mono e1, fun l δ2 S2 H2 q2 e2 R2 => ⟨δ2, S2, W, _, R2, q2, xo.mono (e1.trans e2), fun h δ3 S3 H3 q3 e3 R3 => ?_⟩⟩⟩
  have e := (e1.trans e2).trans e3
  match x, n1.mono (e2.trans e3), q3 with
  | .tup ds, .tup h1 a1, q3 =>
    refine .inl ⟨_, _, rfl, SqT.of (R3.ex _ _ h1), fun hw => ?_, fun _ p hp => ?_⟩
    · rw [a1.length] at hw
      have q3 : Q' (.tup (cutD ds l h)) δ3 := q3
      rw [cut_whole hw] at q3
      exact post _ _ _ _ _ q3 e R3 (.tup h1 a1)
    · exact post _ _ _ _ _ q3 (e.trans (Ex.new (R3.ex.none hp))) (R3.new hp) (.tup upd_same ((a1.cut l h).mono (Ex.new (R3.ex.none hp))))
  | .str z, .str _, q3 => exact .inr ⟨z, rfl, q3.1, post _ _ _ _ _ q3.2 e R3 (.str _)⟩⟩
theorem df_slL {lo hi : Option Expr} {dl dh : dO} {p2 : Pos} (he : DE X E e da) (hl : DO X E lo dl) (hh : DO X E hi dh) : DF X E (.Subscript e (.Slice lo hi none p2) pos) (dSlL da dl dh) := ⟨fun B => pe_mono (pe_slice sl_list (he.run B) (hl.run B) (hh.run B)) fun σ H Q q => by
  obtain ⟨δ, S, W, Q', R, q, xo, post⟩ := q
  refine ⟨δ, S, W, _, R, q, xo, fun x δ1 v S1 H1 q1 e1 R1 n1 => ⟨δ1, S1, W, _, R1, q1, xo.mono e1, fun l δ2 S2 H2 q2 e2 R2 => ⟨δ2, S2, W, _, R2, q2, xo.mono (e1.trans e2), fun h δ3 S3 H3 q3 e3 R3 => ?_⟩⟩⟩
  match x, n1.mono (e2.trans e3), q3 with
  | .lst ds, .lst h1 a1, q3 => exact ⟨_, _, rfl, SqL.of (R3.ex _ _ h1), fun p hp => post _ _ _ _ _ _ q3 ((e1.trans e2).trans e3) R3 hp (a1.cut l h)⟩
  | .scr ns, .scr h1, q3 => exact ⟨_, _, rfl, R3.ex.sqL h1, fun p hp => post _ _ _ _ _ _ q3 ((e1.trans e2).trans e3) R3 hp ((DnA.ints ns).cut l h)⟩⟩
end
end Ev
namespace Ev
open PySem PySem.Spec PyProof.Rows L2
variable [TabC]
variable {K : PySem.W.Frag} {S S' H H' : Hp} {B : Bs} {δ : DS} {σ : L2.St}
section
variable {X : Cx} {E : EK} {e a b c : Expr} {es : List Expr} {pos p : Pos} {da db : dE} {x : Str}
abbrev DRC := List D → (D → Prop) → Prop
def liftC (K : PySem.W.Frag) (r : DRC) : List V → Hp → VK → Prop := fun vs H Q => ∃ S ds Q', Sb S H ∧ DnA K S vs ds ∧ r ds Q' ∧ ∀ dz v S' H', Q' dz → Grow S H S' H' → Dn K S' v dz → Q v H'
abbrev DRF := List D → (List D → Prop) → Prop
def liftCF (K : PySem.W.Frag) (r : DRF) : List V → Hp → VK → Prop := fun vs H Q => ∃ S ds Q', Sb S H ∧ DnA K S vs ds ∧ r ds Q' ∧ ∀ xs ws p, Q' xs → H p = none → DnA K S ws xs → Q (.ref p) (upd H p (.lst ws))
def dCB (r : DRC) (a : dA) : dE := fun W δ Q => a W δ fun xs δ1 => r xs fun z => Q z δ1
def dCBF (r : DRF) (a : dA) : dF := fun W δ Q => a W δ fun xs δ1 => r xs fun z => Q z δ1
theorem lift_CB {r : DRC} {d : dA} {Q : VK} (q : liftE K B E (dCB r d) σ H Q) : tCB (liftC K r) (liftA K B E d) σ H Q := by
  obtain ⟨δ, S, W, Q', R, q, xo, post⟩ := q
  exact ⟨δ, S, W, _, R, q, xo, fun xs δ1 vs S1 H1 q1 e1 R1 n1 => ⟨S1, xs, _, R1.ex, n1, q1, fun dz v S' H' q2 g n2 => post _ _ _ _ _ q2 (e1.trans g.s) (R1.grow g) n2⟩⟩
theorem lift_CBF {r : DRF} {d : dA} {Q : VK} (q : liftF K B E (dCBF r d) σ H Q) : tCB (liftCF K r) (liftA K B E d) σ H Q := by
  obtain ⟨δ, S, W, Q', R, q, xo, post⟩ := q
  exact ⟨δ, S, W, _, R, q, xo, fun xs δ1 vs S1 H1 q1 e1 R1 n1 => ⟨S1, xs, _, R1.ex, n1, q1, fun ys ws p q2 hp n2 => post _ _ _ _ _ _ q2 e1 R1 hp n2⟩⟩
theorem de_callB {id : String} {r : DRC} {d : dA} (hc : CallR X (.builtin id) (liftC X.K r)) (gl : Gl X x) (hm : X.mg x = none) (hv : bootBuiltins x = some (.builtin id)) (ha : DA X E (e :: es) d) (hn : x ≠ "__name__" := by decide) (hdb : (x == ("__debug__" : Str)) = false := by decide)
    (he : starEach (e :: es) X.env = (false, eval e X.env) :: starEach es X.env := by rfl) (hpl : (backTo pos (starEach es X.env)).any (·.1) = false := by rfl) : DE X E (.Call (.Name x p) (e :: es) [] pos) (dCB r d) :=
  ⟨fun B => pe_mono (pe_callB hc gl hm hv (ha.run B) hn hdb he hpl) fun σ H Q q => lift_CB q⟩
theorem de_callTy {T : String} {r : DRC} {d : dA} (hc : CallR X (.type T) (liftC X.K r)) (gl : Gl X x) (hm : X.mg x = none) (hv : bootBuiltins x = some (.type T)) (ha : DA X E (e :: es) d) (hn : x ≠ "__name__" := by decide) (hdb : (x == ("__debug__" : Str)) = false := by decide)
    (he : starEach (e :: es) X.env = (false, eval e X.env) :: starEach es X.env := by rfl) (hpl : (backTo pos (starEach es X.env)).any (·.1) = false := by rfl) : DE X E (.Call (.Name x p) (e :: es) [] pos) (dCB r d) :=
  ⟨fun B => pe_mono (pe_callTy hc gl hm hv (ha.run B) hn hdb he hpl) fun σ H Q q => lift_CB q⟩
theorem df_callTy {T : String} {r : DRF} {d : dA} (hc : CallR X (.type T) (liftCF X.K r)) (gl : Gl X x) (hm : X.mg x = none) (hv : bootBuiltins x = some (.type T)) (ha : DA X E (e :: es) d) (hn : x ≠ "__name__" := by decide) (hdb : (x == ("__debug__" : Str)) = false := by decide)
    (he : starEach (e :: es) X.env = (false, eval e X.env) :: starEach es X.env := by rfl) (hpl : (backTo pos (starEach es X.env)).any (·.1) = false := by rfl) : DF X E (.Call (.Name x p) (e :: es) [] pos) (dCBF r d) :=
  ⟨fun B => pe_mono (pe_callTy hc gl hm hv (ha.run B) hn hdb he hpl) fun σ H Q q => lift_CBF q⟩
theorem DnA.one {vs : List V} {d : D} (h : DnA K S vs [d]) : ∃ v, vs = [v] ∧ Dn K S v d := by
  cases h with | cons h1 h2 => cases h2; exact ⟨_, rfl, h1⟩
theorem DnA.two {vs : List V} {d d' : D} (h : DnA K S vs [d, d']) : ∃ v v', vs = [v, v'] ∧ Dn K S v d ∧ Dn K S v' d' := by
  cases h with | cons h1 h2 => obtain ⟨v', rfl, h3⟩ := h2.one; exact ⟨_, _, rfl, h1, h3⟩
/-- len -/
def rLen : DRC := fun xs Q => match xs with
  | [.lst ds] => Q (.int ds.length)
  | [.tup ds] => Q (.int ds.length)
  | [.kt ds] => Q (.int ds.length)
  | [.str z] => z.length ≤ sizeLine ∧ Q (.int z.length)
  | _ => False
theorem cd_len : CallR X (.builtin "len") (liftC X.K rLen) := fun pins s σ H vs us Q I r ⟨S, ds, Q', ex, n, q, post⟩ => by
  match ds, n, q with
  | [.lst ds], n, q =>
    obtain ⟨v, rfl, n1⟩ := n.one
    cases n1 with | lst h a =>
      refine call_len pins s σ H _ us Q I r ⟨_, ds.length, rfl, .inl ⟨_, SqL.of (ex _ _ h), a.length.symm⟩, post _ _ _ _ q (Grow.refl ex) (.int _)⟩
  | [.tup ds], n, q =>
    obtain ⟨v, rfl, n1⟩ := n.one
    cases n1 with | tup h a =>
      refine call_len pins s σ H _ us Q I r ⟨_, ds.length, rfl, .inr ⟨_, SqT.of (ex _ _ h), a.length.symm⟩, post _ _ _ _ q (Grow.refl ex) (.int _)⟩
  | [.kt ds], n, q =>
    obtain ⟨v, rfl, n1⟩ := n.one
    cases n1 with | kt h a =>
      refine call_len pins s σ H _ us Q I r ⟨_, ds.length, rfl, .inr ⟨_, h.sqT ex, a.length.symm⟩, post _ _ _ _ q (Grow.refl ex) (.int _)⟩
  | [.str z], n, q =>
    obtain ⟨v, rfl, n1⟩ := n.one
    cases n1
    exact call_len pins s σ H _ us Q I r ⟨_, z.length, rfl, ⟨q.1, rfl⟩, post _ _ _ _ q.2 (Grow.refl ex) (.int _)⟩
/-- tuple(x), list(x) -/
def rTuple : DRC := fun xs Q => match xs with | [.lst ds] => Q (.tup ds) | [.tup ds] => Q (.tup ds) | _ => False
theorem cd_tuple : CallR X (.type "tuple") (liftC X.K rTuple) := fun pins s σ H vs us Q I r ⟨S, ds, Q', ex, n, q, post⟩ => by
  match ds, n, q with
  | [.lst ds], n, q =>
    obtain ⟨v, rfl, n1⟩ := n.one
    cases n1 with | lst h a =>
      refine call_tuple_of pins s σ H _ us Q I r ⟨_, _, rfl, .inl ⟨SqL.of (ex _ _ h), fun l hl => ?_⟩⟩
      exact post _ _ _ _ q (Grow.new ex hl) (.tup upd_same (a.mono (Ex.new (ex.none hl))))
  | [.tup ds], n, q =>
    obtain ⟨v, rfl, n1⟩ := n.one
    cases n1 with | tup h a => exact call_tuple_of pins s σ H _ us Q I r ⟨_, _, rfl, .inr ⟨SqT.of (ex _ _ h), post _ _ _ _ q (Grow.refl ex) (.tup h a)⟩⟩
def rList : DRF := fun xs Q => match xs with | [.lst ds] => Q ds | [.tup ds] => Q ds | _ => False
theorem cd_list : CallR X (.type "list") (liftCF X.K rList) := fun pins s σ H vs us Q I r ⟨S, ds, Q', ex, n, q, post⟩ => by
  match ds, n, q with
  | [.lst ds], n, q =>
    obtain ⟨v, rfl, n1⟩ := n.one
    cases n1 with | lst h a => exact call_list_of pins s σ H _ us Q I r ⟨_, _, rfl, .inl (SqL.of (ex _ _ h)), fun l hl => post _ _ _ q hl a⟩
  | [.tup ds], n, q =>
    obtain ⟨v, rfl, n1⟩ := n.one
    cases n1 with | tup h a => exact call_list_of pins s σ H _ us Q I r ⟨_, _, rfl, .inr (SqT.of (ex _ _ h)), fun l hl => post _ _ _ q hl a⟩
mutual
def D.sho : D → Bool
  | .int i => decide (i.natAbs.log2 < 1920)
  | .tup xs => D.shos xs
  | .kt xs => D.shos xs
  | .lst xs => D.shos xs
  | _ => true
def D.shos : List D → Bool
  | [] => true
  | x :: xs => x.sho && D.shos xs
end
/-- may be shown -/
def D.sw (d : D) : Prop := d.lay = true ∧ d.dep ≤ 64 ∧ d.sho = true ∧ d.py.shown.length ≤ sizeLine
def D.rep (d : D) : Str := d.py.shown
def rRepr : DRC := fun xs Q => match xs with | [d] => d.sw ∧ Q (.str d.rep) | _ => False
theorem boot_repr : bootBuiltins "repr" = some (.builtin "repr") := by decide +kernel
def rAbs : DRC := fun xs Q => match xs with | [.int i] => Q (.int (if i < 0 then -i else i)) | _ => False
theorem cd_abs : CallR X (.builtin "abs") (liftC X.K rAbs) := fun pins s σ H vs us Q I r ⟨S, ds, Q', ex, n, q, post⟩ => by
  match ds, n, q with
  | [.int i], n, q =>
    obtain ⟨v, rfl, n1⟩ := n.one
    cases n1
    exact call_abs pins s σ H _ us Q I r ⟨i, rfl, post _ _ _ _ q (Grow.refl ex) (.int _)⟩
def rInt : DRC := fun xs Q => match xs with | [.int i] => Q (.int i) | [.bl k] => Q (.int (if k then 1 else 0)) | _ => False
def rStr : DRC := fun xs Q => match xs with | [.int i] => i.natAbs.log2 < 1920 ∧ Q (.str (toString i)) | [.str x] => Q (.str x) | _ => False
theorem cd_str : CallR X (.type "str") (liftC X.K rStr) := fun pins s σ H vs us Q I r ⟨S, ds, Q', ex, n, q, post⟩ => by
  match ds, n, q with
  | [.int i], n, q =>
    obtain ⟨v, rfl, n1⟩ := n.one
    cases n1
    exact call_str_int pins s σ H _ us Q I r ⟨i, rfl, q.1, post _ _ _ _ q.2 (Grow.refl ex) (.str _)⟩
  | [.str x], n, q =>
    obtain ⟨v, rfl, n1⟩ := n.one
    cases n1
    exact SkE.call_str_str pins s σ H _ us Q I r ⟨x, rfl, post _ _ _ _ q (Grow.refl ex) (.str _)⟩
/-- all, any of a list of truths; sum of a list of numbers -/
def blsOf : List D → Option (List Bool)
  | [] => some []
  | .bl b :: r => (blsOf r).map (b :: ·)
  | _ => none
theorem bls_vals : ∀ {ds : List D} {bs : List Bool} {vs : List V}, DnA K S vs ds → blsOf ds = some bs → vs = bs.map V.bl
  | [], _, _, .nil, h => by cases h; rfl
  | .bl b :: r, bs, _, .cons h1 h2, h => by
    cases h1
    cases hr : blsOf r with
    | none => simp [blsOf, hr] at h
    | some cs =>
      simp [blsOf, hr] at h
      subst h
      rw [bls_vals h2 hr]; rfl
def intsOf : List D → Option (List Int)
  | [] => some []
  | .int b :: r => (intsOf r).map (b :: ·)
  | _ => none
theorem ints_valsD : ∀ {ds : List D} {bs : List Int} {vs : List V}, DnA K S vs ds → intsOf ds = some bs → vs = bs.map V.int
  | [], _, _, .nil, h => by cases h; rfl
  | .int b :: r, bs, _, .cons h1 h2, h => by
    cases h1
    cases hr : intsOf r with
    | none => simp [intsOf, hr] at h
    | some cs =>
      simp [intsOf, hr] at h
      subst h
      rw [ints_valsD h2 hr]; rfl
def rAllD : DRC := fun xs Q => match xs with | [.lst ds] => optQ (blsOf ds) fun bs => Q (.bl (bs.all id)) | _ => False
def rSumD : DRC := fun xs Q => match xs with | [.lst ds] => optQ (intsOf ds) fun bs => Q (.int bs.sum) | _ => False
theorem cd_all (hc : X.calm = true) : CallR X (.builtin "all") (liftC X.K rAllD) := fun pins s σ H vs us Q I r ⟨S, ds, Q', ex, n, q, post⟩ => by
  match ds, n, q with
  | [.lst ds], n, q =>
    obtain ⟨v, rfl, n1⟩ := n.one
    obtain ⟨bs, hb, q⟩ := optQ_ex q
    cases n1 with | lst h a =>
      have e := bls_vals a hb
      exact cr_all hc pins s σ H _ us Q I r ⟨_, bs, rfl, SqL.of (by rw [← e]; exact ex _ _ h), post _ _ _ _ q (Grow.refl ex) (.bl _)⟩
/-- isinstance(x, T), T written: a built-in type -/
def D.ty : D → Option String
  | .non => some "NoneType"
  | .bl _ => some "bool"
  | .int _ => some "int"
  | .str _ => some "str"
  | .tup _ => some "tuple"
  | .kt _ => none
  | .lst _ => some "list"
  | .dK _ => some "dict"
  | .dT _ => some "dict"
  | .fK _ => none
  | .fT _ => none
  | .fN _ => none
  | .exc _ _ _ => none
  | .exc0 _ => none
  | .raw _ => none
  | .scr _ => none
  | .fn _ _ => none
theorem Dn.ty {v : V} {d : D} {t : String} (h : Dn K S v d) (ht : d.ty = some t) : TyX K S v (.type t) := by
  cases h with
  | non => cases ht; exact .base .non
  | bl b => cases ht; exact .base (.bl b)
  | int i => cases ht; exact .base (.int i)
  | str x => cases ht; exact .base (.str x)
  | raw v => cases ht
  | scr h => cases ht
  | fn _ _ _ _ _ _ _ => cases ht
  | tup h a => cases ht; exact .base (.tup h)
  | kt _ _ => cases ht
  | lst h a => cases ht; exact .base (.lst h)
  | dK h _ _ => cases ht; exact .base (.dK h)
  | dT h _ _ => cases ht; exact .base (.dT h)
  | fK h _ _ => cases ht
  | fT h _ _ => cases ht
  | fN _ _ _ => cases ht
  | exc _ _ _ => cases ht
  | exc0 _ => cases ht
/-- a built-in class, as a value -/
def D.cls (n : String) : D := .raw (.ty n)
def rIsi (n : String) : DRC := fun xs Q => match xs with
  | [d, .raw (.ty m)] => m = n ∧ optQ d.ty fun t => optQ (kitB t n) fun b => Q (.bl b)
  | _ => False
theorem TyX.mono {v : V} {t : Value} (e : Ex S S') (h : TyX K S v t) : TyX K S' v t := by
  cases h with
  | base b =>
    cases b with
    | non => exact .base .non
    | bl y => exact .base (.bl y)
    | int i => exact .base (.int i)
    | str y => exact .base (.str y)
    | flt y => exact .base (.flt y)
    | lst h => exact .base (.lst (e _ _ h))
    | frz h => exact .base (.frz (e _ _ h))
    | tup h => exact .base (.tup (e _ _ h))
    | dK h => exact .base (.dK (e _ _ h))
    | dT h => exact .base (.dT (e _ _ h))
    | ins h cl ha hn htk hm => exact .base (.ins (e _ _ h) cl ha hn htk hm)
  | byt y => exact .byt y
  | set h => exact .set (e _ _ h)
  | kList h c => exact .kList h c
  | kTuple h c => exact .kTuple h c
  | kDict h c => exact .kDict h c
  | fTuple h => exact .fTuple (e _ _ h)
  | fDict h => exact .fDict (e _ _ h)
theorem cd_isi (T : String) : CallR X (.builtin "isinstance") (liftC X.K (rIsi T)) := fun pins s σ H vs us Q I r ⟨S, ds, Q', ex, n, q, post⟩ => by
  match ds, n, q with
  | [d, .raw (.ty m)], n, q =>
    obtain ⟨rfl, q⟩ := q
    obtain ⟨v, v', rfl, n1, n2⟩ := n.two
    cases n2
    obtain ⟨t, ht, q⟩ := optQ_ex q
    obtain ⟨b, hb, q⟩ := optQ_ex q
    exact call_isi pins s σ H _ us Q I r ⟨v, .ty m, .type t, .type m, b, rfl, .ty m, TyX.mono ex (n1.ty ht), kit_ty hb, post _ _ _ _ q (Grow.refl ex) (.bl _)⟩
theorem de_ty {n : String} (gl : Gl X x) (hm : X.mg x = none) (hv : bootBuiltins x = some (.type n)) (hn : x ≠ "__name__" := by decide) (hd : (x == ("__debug__" : Str)) = false := by decide) : DE X E (.Name x p) (dC (.raw (.ty n))) :=
  de_c (pe_bltn (v := .ty n) gl hm hv (show RelV (.ty n) (.type n) from rfl) hn hd) fun _ => .raw _
end
end Ev
namespace Ev
open PySem PySem.Spec PyProof.Rows L2
variable [TabC]
variable {K : PySem.W.Frag} {S S' H H' : Hp} {B : Bs} {δ : DS} {σ : L2.St}
section
variable {X : Cx} {E : EK} {e a b c : Expr} {es : List Expr} {pos p ap cp : Pos} {da db : dE} {x : Str}
theorem tyL {K : PySem.W.Frag} {H : Hp} {p : Addr} {vs : List V} (h : H p = some (.lst vs)) : tyV K "list" (.ref p) H := Or.inl ⟨rfl, vs, SqL.of h⟩
/-- name.append(e) -/
def dApp (i : Nat) (d : dE) : dS := fun W N δ => (∃ ds, ownAt δ i = some ds) ∧ d W δ fun x δ1 => optQ (ownAt δ1 i) fun ds => ds.length < sizeLine ∧ N.nx (setOwnAt δ1 i (ds ++ [x]))
theorem ds_app {i : Nat} (hv : PE X (.Name x p) (tVar i)) (he : DE X E e da) (hbase : attributeBase (.Name x p) "append" X.env (eval (.Name x p) X.env) = eval (.Name x p) X.env := by rfl)
    (hfew : ((backTo cp (starEach [e] X.env)).all (fun x => !x.1) && (backToKw cp (keywordEach [] X.env)).all (fun x => x.1.isSome) && decide (([e] : List Expr).length + ([] : List Keyword).length + (if ([] : List Keyword).isEmpty then 0 else 1) < 30)) = true := by rfl)
    (hline : (ap.endLine == cp.line) = true := by rfl) (hs : starEach [e] X.env = (false, eval e X.env) :: starEach [] X.env := by rfl) (hpl : (backTo cp (starEach [] X.env)).any (·.1) = false := by rfl)
    (hsw : swapsWith (.Call (.Attribute (.Name x p) "append" ap) [e] [] cp) none pos.line X.env = pure false := by rfl) : DSt X E (.Expr (.Call (.Attribute (.Name x p) "append" ap) [e] [] cp) pos) (dApp i da) :=
  ⟨fun B => ps_mono (ps_expr (pe_bm PySem.F.plainAttrs_list PySem.F.slot_list_append PySem.F.type_list_append mt_append hv (pa_cons (he.run B) pa_nil hs) hbase hfew hline hs hpl) hsw) fun Z σ H q => by
    obtain ⟨δ, S, W, N, R, ⟨⟨ds0, h0⟩, q⟩, xo, p1, _⟩ := q
    obtain ⟨p0, _, v0, g0, _⟩ := R.ownAt h0
    refine ⟨.ref p0, v0, tyL g0, δ, S, W, _, R, q, xo, fun d δ1 v S1 H1 q1 e1 R1 n1 => ?_⟩
    obtain ⟨ds, h1, hz, q1⟩ := optQ_ex q1
    obtain ⟨p', vs, v1, g1, a1, _, put⟩ := R1.ownAt h1
    rw [v0] at v1; cases v1
    exact ⟨p0, vs, v, rfl, rfl, g1, by rw [a1.length]; exact hz, p1 _ _ _ _ q1 e1 (put _ _ (a1.append (.cons n1 .nil)))⟩⟩
/-- name.extend(e), e another list -/
def dExt (i : Nat) (d : dE) : dS := fun W N δ => (∃ ds, ownAt δ i = some ds) ∧ d W δ fun x δ1 => match x with
  | .lst zs => optQ (ownAt δ1 i) fun ds => ds.length + zs.length ≤ sizeLine ∧ N.nx (setOwnAt δ1 i (ds ++ zs))
  | _ => False
/-- name.pop() -/
def dPop (i : Nat) : dE := fun _ δ Q => optQ (ownAt δ i) fun ds => optQ ds[ds.length - 1]? fun d => Q d (setOwnAt δ i ds.dropLast)
theorem DnA.dropLast {vs : List V} {ds : List D} (a : DnA K S vs ds) : DnA K S vs.dropLast ds.dropLast := by
  rw [List.dropLast_eq_take, List.dropLast_eq_take, a.length]
  exact a.take _
/-- name.pop(e) -/
def dPopAt (i : Nat) (d : dE) : dE := fun W δ Q => (∃ ds, ownAt δ i = some ds) ∧ d W δ fun y δ1 => match y with
  | .int k => -(2 ^ 63) ≤ k ∧ k < 2 ^ 63 ∧ optQ (ownAt δ1 i) fun ds => optQ (ixN ds.length k) fun j => optQ ds[j]? fun d => Q d (setOwnAt δ1 i (ds.eraseIdx j))
  | _ => False
theorem de_popAt {i : Nat} (hv : PE X (.Name x p) (tVar i)) (he : DE X E e da) (hbase : attributeBase (.Name x p) "pop" X.env (eval (.Name x p) X.env) = eval (.Name x p) X.env := by rfl)
    (hfew : ((backTo cp (starEach [e] X.env)).all (fun x => !x.1) && (backToKw cp (keywordEach [] X.env)).all (fun x => x.1.isSome) && decide (([e] : List Expr).length + ([] : List Keyword).length + (if ([] : List Keyword).isEmpty then 0 else 1) < 30)) = true := by rfl)
    (hline : (ap.endLine == cp.line) = true := by rfl) (hs : starEach [e] X.env = (false, eval e X.env) :: starEach [] X.env := by rfl) (hpl : (backTo cp (starEach [] X.env)).any (·.1) = false := by rfl) : DE X E (.Call (.Attribute (.Name x p) "pop" ap) [e] [] cp) (dPopAt i da) :=
  ⟨fun B => pe_mono (pe_bm PySem.F.plainAttrs_list PySem.F.slot_list_pop PySem.F.type_list_pop mt_popAt hv (pa_cons (he.run B) pa_nil hs) hbase hfew hline hs hpl) fun σ H Q q => by
    obtain ⟨δ, S, W, Q', R, ⟨⟨ds0, h0⟩, q⟩, xo, post⟩ := q
    obtain ⟨p0, _, v0, g0, _⟩ := R.ownAt h0
    refine ⟨.ref p0, v0, tyL g0, δ, S, W, _, R, q, xo, fun y δ1 v S1 H1 q1 e1 R1 n1 => ?_⟩
    match y, n1, q1 with
    | .int k, .int _, q1 =>
      obtain ⟨b1, b2, q1⟩ := q1
      obtain ⟨ds, h1, q1⟩ := optQ_ex q1
      obtain ⟨j, hj, q1⟩ := optQ_ex q1
      obtain ⟨d, hd, q1⟩ := optQ_ex q1
      obtain ⟨p', vs, v1, g1, a1, _, put⟩ := R1.ownAt h1
      rw [v0] at v1; cases v1
      obtain ⟨w, w1, w2⟩ := a1.get hd
      exact ⟨p0, vs, k, j, w, rfl, rfl, g1, b1, b2, by rw [a1.length]; exact (ixN_seq hj).1, w1, post _ _ _ _ _ q1 e1 (put _ _ (a1.eraseIdx j)) w2⟩⟩
def D.flat : D → Bool | .non => true | .bl _ => true | .int _ => true | .str _ => true | _ => false
theorem Dn.flat {v : V} {d : D} (h : Dn K S v d) (f : d.flat = true) : Dn K S' v d := by
  cases h <;> first | exact .non | exact .bl _ | exact .int _ | exact .str _ | (cases f)
theorem Rel.look (R : Rel K B δ S σ H) {i : Nat} {ds : List D} (h : Ev.lookAt δ i = some ds) : ∃ p S1, σ[i]? = some (some (.ref p)) ∧ Ex S S1 ∧ Sb S1 H ∧ Dn K S1 (.ref p) (.lst ds) ∧ tyV K "list" (.ref p) H ∧ ∀ S2 H2, Grow S1 H S2 H2 → ∃ S3, Ex S S3 ∧ Rel K B δ S3 σ H2 := by
  obtain ⟨p, vs, h1, h2, h3, h4⟩ := R.lookAt h
  rcases h4 with h4 | h4
  · refine ⟨p, upd S p (.lst vs), h1, Ex.new h4, ⟨fun a o q => ?_, fun a o q => Ex.new h4 _ _ (R.ex.tp a o q), R.ex.tb.at_ p (fun _ _ _ h => h) (fun u z => by rw [h2] at z; cases z; exact own_plain rfl) fun b n z => by rw [upd_ne n]; exact z⟩, .lst upd_same (h3.mono (Ex.new h4)), tyL h2, fun S2 H2 g => ?_⟩
    · by_cases e : a = p
      · subst e; rw [upd_same] at q; rw [h2]; exact q
      · rw [upd_ne e] at q; exact R.ex a o q
    · refine ⟨fun b => if b = p then none else S2 b, fun a o q => ?_, R.grow ⟨fun a o q => ?_, g.h, ⟨fun a o q => ?_, fun a o q => ?_, g.ok.tb.at_ p (fun _ _ _ h => h) (fun u z => by rw [g.h.pl h2] at z; cases z; exact own_plain rfl) fun b n z => (if_neg n).trans z⟩, fun b o hb n => ?_⟩⟩
      · have ne : a ≠ p := fun e => by rw [e, h4] at q; cases q
        exact (if_neg ne).trans (g.s a o (Ex.new h4 a o q))
      · have ne : a ≠ p := fun e => by rw [e, h4] at q; cases q
        exact (if_neg ne).trans (g.s a o (Ex.new h4 a o q))
      · have q : (if a = p then none else S2 a) = some o := q
        split at q
        · cases q
        · exact g.ok a o q
      · have ne : a ≠ p := fun e => by
          have z := g.h.pl h2
          rw [← e, q] at z; cases z
        exact (if_neg ne).trans (g.ok.tp a o q)
      · show (if b = p then none else S2 b) = none
        split
        · rfl
        · rename_i ne
          exact g.no b o hb (by rw [upd_ne ne]; exact n)
  · exact ⟨p, S, h1, Ex.refl _, R.ex, .lst h4 h3, tyL h2, fun S2 H2 g => ⟨S2, g.s, R.grow g⟩⟩
/-- f(name) -/
def dOwnCB (i : Nat) (r : DRC) : dE := fun _ δ Q => optQ (lookAt δ i) fun ds => r [.lst ds] fun z => z.flat = true ∧ Q z δ
theorem own_CB {i : Nat} {r : DRC} {Q : VK} (q : liftE K B E (dOwnCB i r) σ H Q) : tCB (liftC K r) (tCons (tVar i) tNil) σ H Q := by
  obtain ⟨δ, S, W, Q', R, q, xo, post⟩ := q
  obtain ⟨ds, h, q⟩ := optQ_ex q
  obtain ⟨p, S1, h1, e1, e2, n, _, back⟩ := R.look h
  exact ⟨.ref p, h1, S1, [.lst ds], _, e2, .cons n .nil, q, fun dz v S2 H2 q2 g n2 => (back _ _ g).elim fun S3 b3 => post _ _ _ _ _ q2.2 b3.1 b3.2 (n2.flat q2.1)⟩
theorem de_ownB {id : String} {r : DRC} {i : Nat} {y : Str} {py : Pos} (hc : CallR X (.builtin id) (liftC X.K r)) (hv : PE X (.Name y py) (tVar i)) (gl : Gl X x) (hm : X.mg x = none) (hb : bootBuiltins x = some (.builtin id)) (hn : x ≠ "__name__" := by decide) (hdb : (x == ("__debug__" : Str)) = false := by decide)
    (he : starEach [.Name y py] X.env = (false, eval (.Name y py) X.env) :: starEach [] X.env := by rfl) (hpl : (backTo pos (starEach [] X.env)).any (·.1) = false := by rfl) : DE X E (.Call (.Name x p) [.Name y py] [] pos) (dOwnCB i r) :=
  ⟨fun B => pe_mono (pe_callB hc gl hm hb (pa_cons hv pa_nil he) hn hdb he hpl) fun σ H Q q => own_CB q⟩
/-- name op e, e op name -/
def dOwnL (i : Nat) (r : DR2) (d : dE) : dE := fun W δ Q => (∃ ds, lookAt δ i = some ds) ∧ d W δ fun y δ1 => optQ (lookAt δ1 i) fun ds => r (.lst ds) y fun z => z.flat = true ∧ Q z δ1
def dOwnR (i : Nat) (r : DR2) (d : dE) : dE := fun W δ Q => d W δ fun x δ1 => optQ (lookAt δ1 i) fun ds => r x (.lst ds) fun z => z.flat = true ∧ Q z δ1
theorem own_R {i : Nat} {r : DR2} {Q : VK} (q : liftE K B E (dOwnR i r da) σ H Q) : tOp (liftR K r) (liftE K B E da) (tVar i) σ H Q := by
  obtain ⟨δ, S, W, Q', R, q, xo, post⟩ := q
  refine ⟨δ, S, W, _, R, q, xo, fun y δ1 v S1 H1 q1 e1 R1 n1 => ?_⟩
  obtain ⟨ds, h, q1⟩ := optQ_ex q1
  obtain ⟨p, S2, h1, e2, e3, n, _, back⟩ := R1.look h
  exact ⟨.ref p, h1, S2, y, .lst ds, _, e3, n1.mono e2, n, q1, fun dz v S3 H3 q2 g n2 => (back _ _ g).elim fun S4 b4 => post _ _ _ _ _ q2.2 (e1.trans b4.1) b4.2 (n2.flat q2.1)⟩
theorem dt_ownR {op : CmpOp} {r : DR2} {i : Nat} {y : Str} {py : Pos} (ho : OpD X (compareOp op) r) (ha : DE X E a da) (hv : PE X (.Name y py) (tVar i)) (hm : behindInMarks op (.Name y py) = false) : DT X E (.Compare a [op] [.Name y py] pos) (dB (dOwnR i r da)) :=
  ⟨fun B => pt_mono (pt_cmpR ho (ha.run B) hv hm) fun σ H Q q => by
    have q := lift_B q
    exact own_R (Q := fun x H' => ∃ k, x = .bl k ∧ Q k H') q⟩
/-- name[lo:hi] -/
def dOwnSl (i : Nat) (lo hi : dO) : dF := fun W δ Q => (∃ ds, lookAt δ i = some ds) ∧ lo W δ fun l δ2 => hi W δ2 fun h δ3 => optQ (lookAt δ3 i) fun ds => Q (cutD ds l h) δ3
def strsOf : List D → Option (List Str)
  | [] => some []
  | .str b :: r => (strsOf r).map (b :: ·)
  | _ => none
/-- sep.join(e) -/
def dJoin (ds dx : dE) : dE := fun W δ Q => ds W δ fun s δ1 => dx W δ1 fun x δ2 => match s, x with
  | .str a, .lst zs => optQ (strsOf zs) fun ys => (ys.map (·.length)).sum + ys.length * a.length ≤ 16777216 ∧ Q (.str (Txt.join a ys)) δ2
  | .str a, .tup zs => optQ (strsOf zs) fun ys => (ys.map (·.length)).sum + ys.length * a.length ≤ 16777216 ∧ Q (.str (Txt.join a ys)) δ2
  | _, _ => False
/-- f'..' -/
def dFmt (d : dE) : dE := fun W δ Q => d W δ fun x δ1 => match x with
  | .str y => y.length ≤ sizeLine ∧ Q (.str y) δ1
  | .int i => i.natAbs.log2 < 1920 ∧ Q (.str (toString i)) δ1
  | _ => False
def dJs : List dE → Str → XW → DS → (Str → DS → Prop) → Prop
  | [], acc, _, δ, Q => Q acc δ
  | t :: ts, acc, W, δ, Q => t W δ fun x δ1 => match x with
    | .str y => (acc ++ y).length ≤ sizeLine ∧ dJs ts (acc ++ y) W δ1 Q
    | _ => False
def dFs (ts : List dE) : dE := fun W δ Q => dJs ts Str.empty W δ fun out δ' => Q (.str out) δ'
end
def penD (ns : List Int) (k m : Int) : List D := [.lst (ns.map D.int), .int k, .int m]
/-- what a draw tells: any number below many, one draw more -/
def spDraw (top : Nat) : dSp := fun ds p Q _ => match ds, p with
  | [.raw (.ref a), .int n], some (b, c) => a = b ∧ 0 < n ∧ n < 1000000 ∧ c < top ∧ ∀ r, 0 ≤ r → r < n → Q (.int r) (some (a, c + 1))
  | _, _ => False
section
variable {P : Program} {w : World} {K : PySem.W.Frag} {mg : Str → Option Value} {base : Heap} {x qual : Str} {st : Stmt} {f : Addr} {fd : FuncData} {N ps : List Str} {k : Nat} {d : dS}
theorem intsOf_ints : ∀ ns : List Int, intsOf (ns.map D.int) = some ns
  | [] => rfl
  | n :: ns => by simp [intsOf, intsOf_ints ns]
end
end Ev
namespace Ev
open PySem PySem.Spec PyProof.Rows L2
variable [TabC]
variable {K : PySem.W.Frag} {S S' H H' : Hp} {B : Bs} {δ : DS} {σ : L2.St}
section
variable {X : Cx} {E : EK} {e a b c : Expr} {es : List Expr} {pos p ap cp : Pos} {da db : dE} {x : Str}
/-- a new list that is a pen: from here on it is the pen -/
def dBorn (f : dF) : dE := fun W δ Q => f W δ fun xs δ1 => δ1.pen = none ∧ ∃ (ns : List Int) (k m : Int) (c : Nat), xs = penD ns k m ∧ ns.length ≤ 63 ∧ 0 ≤ k ∧ k ≤ c ∧ 0 ≤ m ∧ ∀ a, Q (.raw (.ref a)) { δ1 with pen := some (a, c) }
theorem Rel.free (R : Rel K B δ S σ H) (hn : δ.pen = none) : ¬(B.pd = true ∧ B.pa ≠ none) := fun z => by
  have q := R.pa
  unfold PaOk at q
  rw [if_pos z, hn] at q
  exact z.2 q.symm
theorem DnA.pen {vs : List V} {ns : List Int} {k m : Int} (h : DnA K S vs (penD ns k m)) : ∃ ca, vs = [.ref ca, .int k, .int m] ∧ S ca = some (.lst (ns.map V.int)) := by
  match vs, h with
  | [_, _, _], .cons t1 (.cons t2 (.cons t3 .nil)) =>
    cases t2; cases t3
    cases t1 with
    | lst u1 u2 =>
      have e := ints_valsD (bs := ns) u2 (intsOf_ints ns)
      subst e
      exact ⟨_, rfl, u1⟩
/-- f(..), n arguments in all, the last ones by default -/
def dCallD (n : Nat) (dd : List D) (sp : dSp) (a : dA) : dE := fun W δ Q => a W δ fun xs δ1 => (xs ++ dd).length = n ∧ sp (xs ++ dd) δ1.pen (fun x p' => Q x { δ1 with pen := p' }) fun c p' => W c { δ1 with pen := p' }
/-- the arguments us and those by keyword ws and the defaults, put in order -/
def pickL {α : Type} (p q : Nat) (idx : List Nat) (dd us ws : List α) : List α := if us.length = p ∧ ws.length = q then idx.filterMap ((us ++ ws ++ dd)[·]?) else []
theorem DnA.filterMap {vs : List V} {ds : List D} (a : DnA K S vs ds) : ∀ idx : List Nat, DnA K S (idx.filterMap (vs[·]?)) (idx.filterMap (ds[·]?))
  | [] => .nil
  | i :: idx => by
    have ih := a.filterMap idx
    rw [List.filterMap_cons, List.filterMap_cons]
    cases h : ds[i]? with
    | none =>
      have : vs[i]? = none := by
        rw [List.getElem?_eq_none_iff] at h ⊢
        rw [a.length]; exact h
      rw [this]; exact ih
    | some d =>
      obtain ⟨v, h1, h2⟩ := a.get h
      rw [h1]
      exact .cons h2 ih
theorem DnA.pick {p q : Nat} {idx : List Nat} {dv us ws : List V} {dd ds es : List D} (hd : DnA K S dv dd) (h1 : DnA K S us ds) (h2 : DnA K S ws es) : DnA K S (pickL p q idx dv us ws) (pickL p q idx dd ds es) := by
  unfold pickL
  rw [h1.length, h2.length]
  split
  · exact ((h1.append h2).append hd).filterMap idx
  · exact .nil
theorem vals_filterMap {vs : List V} {us : List Value} (a : Vals vs us) : ∀ idx : List Nat, Vals (idx.filterMap (vs[·]?)) (idx.filterMap (us[·]?))
  | [] => .nil
  | i :: idx => by
    have ih := vals_filterMap a idx
    rw [List.filterMap_cons, List.filterMap_cons]
    cases h : vs[i]? with
    | none =>
      rw [a.none_of h]; exact ih
    | some v =>
      obtain ⟨u, h1, h2⟩ := a.get h
      rw [h1]
      exact .cons h2 ih
theorem vals_pick {p q : Nat} {idx : List Nat} {dv us ws : List V} {dd ds es : List Value} (hd : Vals dv dd) (h1 : Vals us ds) (h2 : Vals ws es) : Vals (pickL p q idx dv us ws) (pickL p q idx dd ds es) := by
  unfold pickL
  rw [h1.length, h2.length]
  split
  · exact vals_filterMap ((h1.append h2).append hd) idx
  · exact .nil
/-- how a def's keywords bind -/
theorem kbinds_of {fd : FuncData} {ps ks : List Str} {p q : Nat} {idx : List Nat} {dv : List V} {ds : List Value} (hd : Vals dv ds) (hn : 0 < ps.length)
    (h : ∀ (s : Shared) (us ws : List Value), K.In s.heap → us.length = p → ws.length = q → BindsTo s fd ⟨us, ks.zip ws⟩ (ps.zip (idx.filterMap ((us ++ ws ++ ds)[·]?)))) : KBinds K fd ps ks (pickL p q idx ds) (pickL p q idx dv) where
  to := fun s us ws ki hl => by
    unfold pickL at hl ⊢
    split at hl
    · rename_i z
      rw [if_pos z]
      exact h s us ws ki z.1 z.2
    · rw [← hl] at hn
      exact absurd hn (Nat.lt_irrefl 0)
  rel := fun r rz => vals_pick hd r rz
/-- a def that lets nothing out: everything that a call wants to know of it; dd: the values by default -/
structure Def (P : Program) (w : World) (K : PySem.W.Frag) (mg : Str → Option Value) (base : Heap) (k : Nat) (x : Str) (n : Nat) (sp : dSp) (dd : List D) : Prop where
  ok : ∃ (ps : List Str) (f : Addr) (fd : FuncData) (dv : List V) (ds : List Value), FnG P w K mg base CX0 k f fd ps (spD K n sp) ∧ mg x = some (.ref f) ∧ PySem.W.keepIn K (.ref f) = true ∧ Binds K fd ps ds ∧ Vals dv ds ∧ ∀ S, DnA K S dv dd
structure DefK (P : Program) (w : World) (K : PySem.W.Frag) (mg : Str → Option Value) (base : Heap) (k : Nat) (x : Str) (n : Nat) (sp : dSp) (p q : Nat) (ks : List Str) (idx : List Nat) (dd : List D) : Prop where
  ok : ∃ (ps : List Str) (f : Addr) (fd : FuncData) (dv : List V) (ds : List Value), FnG P w K mg base CX0 k f fd ps (spD K n sp) ∧ mg x = some (.ref f) ∧ PySem.W.keepIn K (.ref f) = true ∧ KBinds K fd ps ks (pickL p q idx ds) (pickL p q idx dv) ∧ ∀ S, DnA K S dv dd
theorem pass_at {E : L2.St → XK} : ∀ σ, PassesAt CX0 X σ (E σ) := fun _ _ _ _ _ _ _ h => h.elim
variable {j k n : Nat} {sp : dSp} {dd : List D} {ta : dA}
theorem de_callD (h : Def X.prog X.w X.K X.mg X.base j x n sp dd) (hg : X.A.guards = some []) (hr : Room k X.A) (gl : Gl X x) (ha : DA X E (e :: es) ta) (hj : j ≤ k := by decide) (hdb : (x == ("__debug__" : Str)) = false := by decide)
    (he : starEach (e :: es) X.env = (false, eval e X.env) :: starEach es X.env := by rfl) (hpl : (backTo pos (starEach es X.env)).any (·.1) = false := by rfl) : DE X E (.Call (.Name x p) (e :: es) [] pos) (dCallD n dd sp ta) := by
  obtain ⟨ps, f, fd, dv, ds, F, m, kp, b, vd, dn⟩ := h.ok
  refine ⟨fun B => pe_mono (pe_callG F hg (hr.mono hj) gl m kp b vd (pass_at (E := E)) (ha.run B) hdb he hpl) fun σ H Q q => ?_⟩
  obtain ⟨δ, S, W, Q', R, q, xo, post⟩ := q
  refine ⟨δ, S, W, _, R, q, xo, fun xs δ1 vs S1 H1 q1 e1 R1 n1 => ?_⟩
  exact call_read xo e1 R1 (n1.append (dn S1)) q1.1 q1.2 post
/-- values by keyword -/
structure DK (X : Cx) (E : EK) (kws : List Keyword) (d : dA) : Prop where
  run : ∀ B, PK X kws (liftA X.K B E d)
theorem pk_mono {kws : List Keyword} {t t' : TA} (h : PK X kws t) (m : ∀ σ H Q, t' σ H Q → t σ H Q) : PK X kws t' := ⟨fun pos pins s σ H Q I q => h.run pos pins s σ H Q I (m _ _ _ q)⟩
theorem dk_nil : DK X E [] dNil := ⟨fun B => pk_mono pk_nil fun σ H Q q => by
  obtain ⟨δ, S, W, Q', R, q, xo, post⟩ := q
  exact post _ _ _ _ _ q (Ex.refl _) R .nil⟩
theorem dk_cons {nm : Option Str} {kpos : Pos} {kws : List Keyword} {r : dA} (h : DE X E e da) (hr : DK X E kws r) : DK X E (⟨nm, e, kpos⟩ :: kws) (dCons da r) := ⟨fun B => pk_mono (pk_cons (h.run B) (hr.run B)) fun σ H Q q => by
  obtain ⟨δ, S, W, Q', R, q, xo, post⟩ := q
  refine ⟨δ, S, W, _, R, q, xo, fun x δ1 v S1 H1 q1 e1 R1 n1 => ?_⟩
  exact ⟨δ1, S1, W, _, R1, q1, xo.mono e1, fun xs δ2 vs S2 H2 q2 e2 R2 n2 => post _ _ _ _ _ q2 (e1.trans e2) R2 (.cons (n1.mono e2) n2)⟩⟩
def dCallK (n p q : Nat) (idx : List Nat) (dd : List D) (sp : dSp) (a tk : dA) : dE := fun W δ Q => a W δ fun us δ1 => tk W δ1 fun ws δ2 => (pickL p q idx dd us ws).length = n ∧ sp (pickL p q idx dd us ws) δ2.pen (fun x p' => Q x { δ2 with pen := p' }) fun c p' => W c { δ2 with pen := p' }
variable {pp qq : Nat} {ks : List Str} {idx : List Nat} {kws : List Keyword} {tk : dA}
theorem de_callK0 (h : DefK X.prog X.w X.K X.mg X.base j x n sp pp qq ks idx dd) (hg : X.A.guards = some []) (hr : Room k X.A) (gl : Gl X x) (hk : DK X E kws tk) (hj : j ≤ k := by decide) (hall : (backToKw pos (keywordEach kws X.env)).all (·.1.isSome) = true := by rfl)
    (hks : (backToKw pos (keywordEach kws X.env)).filterMap (·.1) = ks := by rfl) (hdb : (x == ("__debug__" : Str)) = false := by decide)
    (hpl : ((backTo pos (starEach [] X.env)).any (·.1) || (backToKw pos (keywordEach kws X.env)).any (·.1.isNone)) = false := by rfl) : DE X E (.Call (.Name x p) [] kws pos) (dCallK n pp qq idx dd sp dNil tk) := by
  obtain ⟨ps, f, fd, dv, ds, F, m, kp, b, dn⟩ := h.ok
  refine ⟨fun B => pe_mono (pe_callGK0 F hg (hr.mono hj) gl m kp b (pass_at (E := E)) (hk.run B) hall hks hdb hpl) fun σ H Q q => ?_⟩
  obtain ⟨δ, S, W, Q', R, q, xo, post⟩ := q
  refine ⟨δ, S, W, _, R, q, xo, fun ws δ2 zs S2 H2 q2 e2 R2 n2 => ?_⟩
  exact call_read xo e2 R2 (DnA.pick (dn S2) .nil n2) q2.1 q2.2 post
end
end Ev
namespace Ev
open PySem PySem.Spec PyProof.Rows L2
variable [TabC]
variable {K : PySem.W.Frag} {S S' H H' : Hp} {B : Bs} {δ : DS} {σ : L2.St}
section
variable {X : Cx} {E : EK} {e a b c : Expr} {es : List Expr} {pos p ap cp : Pos} {da db : dE} {x : Str}
def dNeg (d : dE) : dE := fun W δ Q => d W δ fun x δ1 => match x with | .int i => Q (.int (-i)) δ1 | _ => False
theorem de_usub (h : DE X E e da) : DE X E (.UnaryOp .USub e pos) (dNeg da) := ⟨fun B => pe_mono (pe_un un_neg (h.run B)) fun σ H Q q => by
  obtain ⟨δ, S, W, Q', R, q, xo, post⟩ := q
  refine ⟨δ, S, W, _, R, q, xo, fun x δ1 v S1 H1 q1 e1 R1 n1 => ?_⟩
  match x, n1, q1 with
  | .int i, .int _, q1 => exact ⟨i, rfl, post _ _ _ _ _ q1 e1 R1 (.int _)⟩⟩
theorem de_neg {i : Int} {j} : DE X E (.UnaryOp .USub (.Constant (.int i) j p) pos) (dC (.int (-i))) := ⟨fun B => pe_mono ((de_usub (E := E) (de_int (i := i) (j := j))).run B) fun σ H Q q => q⟩
end
section
variable {g : dG} {b : dS} {W : XW} {N : dEnds} {tt : dT} {te : dE} {vs : List Nat} {Q : List D → DS → Prop}
/-- a for by what holds ahead of what is left -/
theorem wFor_ind (I : List D → DS → Prop) (h : ∀ d ds δ (k : DS → Prop), (∀ δ', I ds δ' → k δ') → I (d :: ds) δ → g d δ fun δ1 => b W { N with nx := k, ct := k, bk := N.nx } δ1) (h0 : ∀ δ, I [] δ → N.nx δ) : ∀ ds δ, I ds δ → wFor g b W N ds δ
  | [], δ, i => h0 δ i
  | d :: ds, δ, i => h d ds δ _ (fun δ' i' => wFor_ind I h h0 ds δ' i') i
theorem wLC_ind (I : List D → List D → DS → Prop) (h : ∀ d ds acc δ (k : List D → DS → Prop), (∀ acc' δ', I ds acc' δ' → k acc' δ') → I (d :: ds) acc δ → g d δ fun δ1 => tt W0 δ1 fun z δ2 => match z with
      | true => te W0 δ2 fun y δ3 => acc.length < sizeLine ∧ k (acc ++ [y]) (wipeD δ3 vs)
      | false => k acc (wipeD δ2 vs)) (h0 : ∀ acc δ, I [] acc δ → Q acc δ) : ∀ ds acc δ, I ds acc δ → wLC g tt te vs Q ds acc δ
  | [], acc, δ, i => h0 acc δ i
  | d :: ds, acc, δ, i => by
    have q := h d ds acc δ (fun acc' δ' => wLC g tt te vs Q ds acc' δ') (fun acc' δ' i' => wLC_ind I h h0 ds acc' δ' i') i
    exact q
end
theorem eq_int {i j : Int} : D.eq (.int i) (.int j) = decide (i = j) := by simp [D.eq, D.py, PyData.eqv]; rfl
theorem eq_str {i j : Str} : D.eq (.str i) (.str j) = decide (i = j) := by simp [D.eq, D.py, PyData.eqv]; rfl
theorem eq_bl {i j : Bool} : D.eq (.bl i) (.bl j) = decide (i = j) := by simp [D.eq, D.py, PyData.eqv]; rfl
theorem eq_non : D.eq .non .non = true := by simp [D.eq, D.py, PyData.eqv]
mutual
theorem D.eqv_refl : ∀ d : D, PyData.eqv d.py d.py = true
  | .non => by simp [D.py, PyData.eqv]
  | .bl b => by simp [D.py, PyData.eqv]
  | .int i => by simp [D.py, PyData.eqv]
  | .str x => by simp [D.py, PyData.eqv]
  | .tup xs => by simp [D.py, PyData.eqv, D.eqv_refls xs]
  | .kt xs => by simp [D.py, PyData.eqv, D.eqv_refls xs]
  | .lst xs => by simp [D.py, PyData.eqv, D.eqv_refls xs]
  | .dK _ => by simp [D.py, PyData.eqv]
  | .dT _ => by simp [D.py, PyData.eqv]
  | .fK _ => by simp [D.py, PyData.eqv]
  | .fT _ => by simp [D.py, PyData.eqv]
  | .fN _ => by simp [D.py, PyData.eqv]
  | .exc _ _ _ => by simp [D.py, PyData.eqv]
  | .exc0 _ => by simp [D.py, PyData.eqv]
  | .raw _ => by simp [D.py, PyData.eqv]
  | .scr _ => by simp [D.py, PyData.eqv]
  | .fn _ _ => by simp [D.py, PyData.eqv]
theorem D.eqv_refls : ∀ ds : List D, PyData.eqvAll (D.pys ds) (D.pys ds) = true
  | [] => by simp [D.pys, PyData.eqvAll]
  | d :: ds => by simp [D.pys, PyData.eqvAll, D.eqv_refl d, D.eqv_refls ds]
end
theorem D.eq_refl (d : D) : D.eq d d = true := D.eqv_refl d
def D.eqs : List D → List D → Bool
  | [], [] => true
  | x :: xs, y :: ys => D.eq x y && D.eqs xs ys
  | _, _ => false
theorem D.eqs_py : ∀ xs ys : List D, PyData.eqvAll (D.pys xs) (D.pys ys) = D.eqs xs ys
  | [], [] => by simp [D.pys, PyData.eqvAll, D.eqs]
  | x :: xs, y :: ys => by simp [D.pys, PyData.eqvAll, D.eqs, D.eqs_py xs ys, D.eq]
  | [], _ :: _ => by simp [D.pys, PyData.eqvAll, D.eqs]
  | _ :: _, [] => by simp [D.pys, PyData.eqvAll, D.eqs]
theorem eq_tup {xs ys : List D} : D.eq (.tup xs) (.tup ys) = D.eqs xs ys := by simp [D.eq, D.py, PyData.eqv, D.eqs_py]
theorem eq_lst {xs ys : List D} : D.eq (.lst xs) (.lst ys) = D.eqs xs ys := by simp [D.eq, D.py, PyData.eqv, D.eqs_py]
mutual
/-- texts of true signs, numbers of at most thirty digits, nothing but these within -/
def D.okd : D → Bool
  | .non => true
  | .bl _ => true
  | .int i => decide (i.natAbs < 10 ^ 30)
  | .str x => PyData.strOk x
  | .tup xs => D.okds xs
  | .kt xs => D.okds xs
  | .lst xs => D.okds xs
  | _ => false
def D.okds : List D → Bool
  | [] => true
  | x :: xs => x.okd && D.okds xs
end
mutual
/-- signs that are enough for its repr -/
def D.sz : D → Nat
  | .int _ => 31
  | .str x => 10 * x.length + 2
  | .tup xs => D.szs xs + 5
  | .kt xs => D.szs xs + 5
  | .lst xs => D.szs xs + 5
  | _ => 5
def D.szs : List D → Nat
  | [] => 0
  | x :: xs => x.sz + 2 + D.szs xs
end
mutual
theorem D.okd_lay : ∀ d : D, d.okd = true → d.lay = true
  | .non, _ => rfl
  | .bl b, _ => rfl
  | .int i, _ => rfl
  | .str x, h => h
  | .tup xs, h => D.okds_lay xs h
  | .kt xs, h => D.okds_lay xs h
  | .lst xs, h => D.okds_lay xs h
  | .dK _, h => by cases h
  | .dT _, h => by cases h
  | .fK _, h => by cases h
  | .fT _, h => by cases h
  | .fN _, h => by cases h
  | .exc _ _ _, h => by cases h
  | .exc0 _, h => by cases h
  | .raw _, h => by cases h
  | .scr _, h => by cases h
  | .fn _ _, h => by cases h
theorem D.okds_lay : ∀ ds : List D, D.okds ds = true → D.lays ds = true
  | [], _ => rfl
  | d :: ds, h => by
    have h' : (d.okd && D.okds ds) = true := h
    rw [Bool.and_eq_true] at h'
    show (d.lay && D.lays ds) = true
    rw [D.okd_lay d h'.1, D.okds_lay ds h'.2]; rfl
end
theorem log2_of {n : Nat} (h : n < 10 ^ 30) : n.log2 < 1920 := by
  by_cases z : n = 0
  · subst z; decide
  · rw [Nat.log2_lt z]
    exact Nat.lt_trans h (by decide +kernel)
mutual
theorem D.okd_sho : ∀ d : D, d.okd = true → d.sho = true
  | .non, _ => rfl
  | .bl b, _ => rfl
  | .int i, h => decide_eq_true (log2_of (of_decide_eq_true h))
  | .str x, h => rfl
  | .tup xs, h => D.okds_sho xs h
  | .kt xs, h => D.okds_sho xs h
  | .lst xs, h => D.okds_sho xs h
  | .dK _, h => by cases h
  | .dT _, h => by cases h
  | .fK _, h => by cases h
  | .fT _, h => by cases h
  | .fN _, h => by cases h
  | .exc _ _ _, h => by cases h
  | .exc0 _, h => by cases h
  | .raw _, h => by cases h
  | .scr _, h => by cases h
  | .fn _ _, h => by cases h
theorem D.okds_sho : ∀ ds : List D, D.okds ds = true → D.shos ds = true
  | [], _ => rfl
  | d :: ds, h => by
    have h' : (d.okd && D.okds ds) = true := h
    rw [Bool.and_eq_true] at h'
    show (d.sho && D.shos ds) = true
    rw [D.okd_sho d h'.1, D.okds_sho ds h'.2]; rfl
end
theorem ofString_length (s : String) : (Str.ofString s).length = s.length := by
  rw [Str.ofString_eq_toList]
  simp [Str.length, String.length_toList]
theorem join2_len (sep : Str) : ∀ ts : List Str, (Str.join sep ts).length ≤ (ts.map fun t => t.length + sep.length).sum
  | [] => by simp [Str.join, Str.empty, Str.length]
  | [x] => by simp [Str.join]
  | x :: y :: r => by
    have ih := join2_len sep (y :: r)
    show (x ++ sep ++ Str.join sep (y :: r)).length ≤ _
    rw [Str.length_append, Str.length_append, List.map_cons, List.sum_cons]
    omega
mutual
theorem D.sz_shown : ∀ d : D, d.okd = true → d.py.shown.length ≤ d.sz
  | .non, _ => by simp only [D.py, PyData.shown, D.sz]; decide +kernel
  | .bl b, _ => by cases b <;> simp only [D.py, PyData.shown, D.sz] <;> decide +kernel
  | .int i, h => by
    simp only [D.py, PyData.shown, D.sz]
    rw [ofString_length]
    exact int_text_length_le10 (k := 30) (by decide) (of_decide_eq_true h)
  | .str x, h => by
    simp only [D.py, PyData.shown, D.sz]
    refine StrLaws.reprText_len x fun c hc => ?_
    have h1 : x.cps.all (· < 0x110000) = true := h
    rw [Array.all_eq_true'] at h1
    have h2 := of_decide_eq_true (h1 c (by simpa using hc))
    exact Nat.lt_trans h2 (by decide)
  | .tup xs, h => by
    simp only [D.py, PyData.shown, D.sz]
    have q := D.szs_shown xs h
    have z := join2_len ", " (PyData.shownAll (D.pys xs))
    have hz : ((", " : String) : Str).length = 2 := by decide +kernel
    rw [hz] at z
    unfold tupleText
    rw [Str.length_append, Str.length_append]
    have h1 : (("(" : String) : Str).length = 1 := by decide +kernel
    have h2 : (Str.ofString (if (PyData.shownAll (D.pys xs)).length == 1 then ",)" else ")")).length ≤ 2 := by split <;> decide +kernel
    omega
  | .kt xs, h => by
    simp only [D.py, PyData.shown, D.sz]
    have q := D.szs_shown xs h
    have z := join2_len ", " (PyData.shownAll (D.pys xs))
    have hz : ((", " : String) : Str).length = 2 := by decide +kernel
    rw [hz] at z
    unfold tupleText
    rw [Str.length_append, Str.length_append]
    have h1 : (("(" : String) : Str).length = 1 := by decide +kernel
    have h2 : (Str.ofString (if (PyData.shownAll (D.pys xs)).length == 1 then ",)" else ")")).length ≤ 2 := by split <;> decide +kernel
    omega
  | .lst xs, h => by
    simp only [D.py, PyData.shown, D.sz]
    have q := D.szs_shown xs h
    have z := listText_len_le (PyData.shownAll (D.pys xs))
    have e : ((PyData.shownAll (D.pys xs)).map fun t => t.length + 2).sum = ((PyData.shownAll (D.pys xs)).map (·.length)).sum + 2 * (PyData.shownAll (D.pys xs)).length := by
      generalize PyData.shownAll (D.pys xs) = l
      induction l with
      | nil => rfl
      | cons a l ih => simp only [List.map_cons, List.sum_cons, List.length_cons, ih]; omega
    omega
  | .dK _, h => by cases h
  | .dT _, h => by cases h
  | .fK _, h => by cases h
  | .fT _, h => by cases h
  | .fN _, h => by cases h
  | .exc _ _ _, h => by cases h
  | .exc0 _, h => by cases h
  | .raw _, h => by cases h
  | .scr _, h => by cases h
  | .fn _ _, h => by cases h
theorem D.szs_shown : ∀ ds : List D, D.okds ds = true → ((PyData.shownAll (D.pys ds)).map fun t => t.length + 2).sum ≤ D.szs ds
  | [], _ => by simp [D.pys, PyData.shownAll, D.szs]
  | d :: ds, h => by
    have h' : (d.okd && D.okds ds) = true := h
    rw [Bool.and_eq_true] at h'
    have a := D.sz_shown d h'.1
    have b := D.szs_shown ds h'.2
    simp only [D.pys, PyData.shownAll, List.map_cons, List.sum_cons, D.szs]
    omega
end
/-- small: may be compared and shown in n signs, not deeper than k -/
structure D.sm (k n : Nat) (d : D) : Prop where
  ok : d.okd = true
  sz : d.sz ≤ n
  dep : d.dep ≤ k
theorem D.sm.cm {k n : Nat} {d : D} (h : d.sm k n) (hk : k ≤ 64 := by decide) : d.cm := ⟨D.okd_lay d h.ok, Nat.le_trans h.dep hk⟩
theorem D.sm.sw {k n : Nat} {d : D} (h : d.sm k n) (hk : k ≤ 64 := by decide) (hn : n ≤ 2 ^ 24 := by decide) : d.sw := ⟨D.okd_lay d h.ok, Nat.le_trans h.dep hk, D.okd_sho d h.ok, Nat.le_trans (D.sz_shown d h.ok) (Nat.le_trans h.sz hn)⟩
theorem D.sm.mono {k n k' n' : Nat} {d : D} (h : d.sm k n) (hk : k ≤ k') (hn : n ≤ n') : d.sm k' n' := ⟨h.ok, Nat.le_trans h.sz hn, Nat.le_trans h.dep hk⟩
/-- each of them small -/
structure D.sms (k n : Nat) (ds : List D) : Prop where
  ok : D.okds ds = true
  sz : D.szs ds ≤ n
  dep : D.deps ds ≤ k
theorem D.sms.nil {k n : Nat} : D.sms k n [] := ⟨rfl, Nat.zero_le _, Nat.zero_le _⟩
theorem D.sms.cons {k n m : Nat} {d : D} {ds : List D} (h : d.sm k n) (hs : D.sms k m ds) : D.sms k (n + 2 + m) (d :: ds) :=
  ⟨by show (d.okd && D.okds ds) = true; rw [h.ok, hs.ok]; rfl, by have := h.sz; have := hs.sz; show d.sz + 2 + D.szs ds ≤ _; omega, Nat.max_le.mpr ⟨h.dep, hs.dep⟩⟩
theorem D.sms.all {k n m : Nat} : ∀ {ds : List D}, (∀ d ∈ ds, d.sm k n) → ds.length ≤ m → D.sms k ((n + 2) * m) ds
  | [], _, _ => .nil
  | d :: ds, h, hl => by
    cases m with
    | zero => simp at hl
    | succ m =>
      have q := D.sms.cons (h d List.mem_cons_self) (D.sms.all (m := m) (fun z hz => h z (List.mem_cons_of_mem _ hz)) (by simpa using hl))
      refine ⟨q.ok, Nat.le_trans q.sz ?_, q.dep⟩
      rw [Nat.mul_succ]; omega
theorem D.sms.mono {k n k' n' : Nat} {d : List D} (h : D.sms k n d) (hk : k ≤ k') (hn : n ≤ n') : D.sms k' n' d := ⟨h.ok, Nat.le_trans h.sz hn, Nat.le_trans h.dep hk⟩
theorem D.sm.tup {k n : Nat} {ds : List D} (h : D.sms k n ds) : (D.tup ds).sm (k + 1) (n + 5) := ⟨h.ok, by have := h.sz; show D.szs ds + 5 ≤ _; omega, by have := h.dep; show D.deps ds + 1 ≤ _; omega⟩
theorem D.sm.lst {k n : Nat} {ds : List D} (h : D.sms k n ds) : (D.lst ds).sm (k + 1) (n + 5) := ⟨h.ok, by have := h.sz; show D.szs ds + 5 ≤ _; omega, by have := h.dep; show D.deps ds + 1 ≤ _; omega⟩
theorem D.sm.int {k : Nat} {i : Int} (h : i.natAbs < 10 ^ 30) : (D.int i).sm k 31 := ⟨decide_eq_true h, Nat.le_refl _, Nat.zero_le _⟩
theorem D.sm.str {k n : Nat} {x : Str} (h : PyData.strOk x = true) (hn : x.length ≤ n) : (D.str x).sm k (10 * n + 2) := ⟨h, by show 10 * x.length + 2 ≤ _; omega, Nat.zero_le _⟩
theorem D.sm.non {k : Nat} : D.non.sm k 5 := ⟨rfl, Nat.le_refl _, Nat.zero_le _⟩
theorem D.sm.bl {k : Nat} {b : Bool} : (D.bl b).sm k 5 := ⟨rfl, Nat.le_refl _, Nat.zero_le _⟩
theorem strOk_lit (s : String) : PyData.strOk (Str.ofString s) = true := by
  rw [Str.ofString_eq_toList]
  unfold PyData.strOk
  rw [Array.all_eq_true']
  intro c hc
  simp at hc
  obtain ⟨ch, _, rfl⟩ := hc
  have := ch.valid
  rcases ch.valid with h | h
  · exact decide_eq_true (by have : ch.toNat = ch.val.toNat := rfl; omega)
  · exact decide_eq_true (by have : ch.toNat = ch.val.toNat := rfl; omega)
theorem strOk_append {a b : Str} (h1 : PyData.strOk a = true) (h2 : PyData.strOk b = true) : PyData.strOk (a ++ b) = true := by
  unfold PyData.strOk at *
  rw [Str.cps_append, Array.all_append, h1, h2]; rfl
theorem strOk_join {sep : Str} (h : PyData.strOk sep = true) : ∀ ts : List Str, (∀ t ∈ ts, PyData.strOk t = true) → PyData.strOk (Str.join sep ts) = true
  | [], _ => by simp [Str.join, PyData.strOk, Str.empty]
  | [x], hx => hx x List.mem_cons_self
  | x :: y :: r, hx => strOk_append (strOk_append (hx x List.mem_cons_self) h) (strOk_join h (y :: r) fun t ht => hx t (List.mem_cons_of_mem _ ht))
theorem toNat_inj : ∀ l m : List Char, l.map Char.toNat = m.map Char.toNat → l = m
  | [], [], _ => rfl
  | a :: l, b :: m, h => by
    simp only [List.map_cons, List.cons.injEq] at h
    have : a = b := Char.ext (UInt32.toNat.inj h.1)
    rw [this, toNat_inj l m h.2]
  | [], _ :: _, h => by simp at h
  | _ :: _, [], h => by simp at h
theorem lit_eq {a b : String} : (Str.ofString a = Str.ofString b) ↔ a = b := by
  constructor
  · intro h
    rw [Str.ofString_eq_toList, Str.ofString_eq_toList] at h
    have h1 := congrArg (fun s : Str => s.cps.toList) h
    simp only at h1
    have := toNat_inj _ _ h1
    exact String.toList_inj.mp this
  · intro h; rw [h]
theorem txt_join (sep : Str) (ts : List Str) : Txt.join sep ts = Str.join sep ts := StrLaws.glued_eq_join sep ts
theorem join_nil (sep : Str) : Str.join sep [] = Str.empty := rfl
theorem join_one (sep x : Str) : Str.join sep [x] = x := rfl
theorem join_two (sep x y : Str) (r : List Str) : Str.join sep (x :: y :: r) = x ++ sep ++ Str.join sep (y :: r) := rfl
theorem sqL_noT {H : Hp} {a : Addr} {xs : List V} (h : SqL K H a xs) : SqL K (Ev.noT H) a xs := by
  rcases h with (h | ⟨o, h⟩) | h
  · exact .inl (.inl (noT_pl h fun _ z => nomatch z))
  · exact .inl (.inr ⟨o, noT_pl h fun _ z => nomatch z⟩)
  · exact .inr h
/-- the law's own promise -/
theorem law_sp {sp : dSp} {H : Hp} {a : Addr} {ns : List Int} (h : ∀ ns : List Int, ns.length ≤ 63 → sp [.scr ns] none (fun x _ => x = .bl true) fun _ _ => False) (hl : ns.length ≤ 63) (hS : SqL K H a (ns.map V.int)) (hT : ∀ p ∈ TabC.tab, H p.1 = some (.tbl #[])) : spD K 1 sp [.ref a] H (fun v _ => v = .bl true) fun _ _ _ => False := by
  refine ⟨Ev.noT H, [.scr ns], none, _, _, Sb.start hT, trivial, .cons (.scr (sqL_noT hS)) .nil, rfl, h ns hl, fun x p' v S' H' e _ n => ?_, fun c p' cls od S' H' w _ _ => w⟩
  subst e
  cases n
  rfl
theorem atI_nn {α : Type} {xs : List α} {i : Int} (h : 0 ≤ i) : atI xs i = xs[i.toNat]? := by
  unfold atI ixN
  rw [if_pos h]
  by_cases h1 : i < (xs.length : Int)
  · rw [if_pos h1]; rfl
  · rw [if_neg h1, List.getElem?_eq_none (by omega)]; rfl
theorem atI_ofNat {α : Type} {xs : List α} {n : Nat} : atI xs (no_index (@OfNat.ofNat Int n instOfNat)) = xs[(@OfNat.ofNat Nat n (instOfNatNat n))]? := atI_nn (Int.natCast_nonneg n)
theorem atI_neg1 {α : Type} {xs : List α} : atI xs (-1) = xs[xs.length - 1]? := by
  unfold atI ixN
  rw [if_neg (by decide)]
  by_cases h1 : -(xs.length : Int) ≤ -1
  · rw [if_pos h1]
    show xs[(-1 + (xs.length : Int)).toNat]? = _
    congr 1; omega
  · rw [if_neg h1, List.getElem?_eq_none (by omega)]; rfl
theorem ixN_ofNat {m n : Nat} : ixN m (no_index (@OfNat.ofNat Int n instOfNat)) = if n < m then some n else none := by
  show (if (0 : Int) ≤ (n : Int) then (if (n : Int) < (m : Int) then some n else none) else _) = _
  rw [if_pos (Int.natCast_nonneg n)]
  by_cases h : n < m
  · rw [if_pos h, if_pos (show (n : Int) < (m : Int) by omega)]
  · rw [if_neg h, if_neg (show ¬((n : Int) < (m : Int)) by omega)]
/-- the cell that the k-th draw reads -/
theorem cell_at {ns : List Int} {k : Int} (h0 : (0 : Int) < ns.length) : ∃ c, atI (ns.map D.int) (k % ns.length) = some (.int c) := by
  have h1 := Int.emod_nonneg k (show (ns.length : Int) ≠ 0 by omega)
  have h2 := Int.emod_lt_of_pos k h0
  have h3 : (k % (ns.length : Int)).toNat < ns.length := by omega
  exact ⟨ns[(k % (ns.length : Int)).toNat], by rw [atI_nn h1, List.getElem?_map, List.getElem?_eq_getElem h3]; rfl⟩
theorem lays_ints : ∀ zs : List Int, D.lays (zs.map D.int) = true
  | [] => rfl
  | z :: zs => by show (true && D.lays (zs.map D.int)) = true; rw [lays_ints zs]; rfl
theorem deps_ints : ∀ zs : List Int, D.deps (zs.map D.int) = 0
  | [] => rfl
  | z :: zs => by show max 0 (D.deps (zs.map D.int)) = 0; rw [deps_ints zs]; rfl
theorem lays_map {α : Type} {f : α → D} : ∀ {l : List α}, (∀ a ∈ l, (f a).lay = true) → D.lays (l.map f) = true
  | [], _ => rfl
  | a :: l, h => by
    show ((f a).lay && D.lays (l.map f)) = true
    rw [h a List.mem_cons_self, lays_map fun b hb => h b (List.mem_cons_of_mem _ hb)]; rfl
theorem deps_map {α : Type} {f : α → D} {n : Nat} : ∀ {l : List α}, (∀ a ∈ l, (f a).dep ≤ n) → D.deps (l.map f) ≤ n
  | [], _ => Nat.zero_le _
  | a :: l, h => Nat.max_le.mpr ⟨h a List.mem_cons_self, deps_map fun b hb => h b (List.mem_cons_of_mem _ hb)⟩
theorem cut_to {α : Type} {xs : List α} {n : Nat} : Ev.cutD xs none (some (n : Int)) = xs.take n := by
  unfold Ev.cutD
  rw [HT.sIx_none, HT.sIx_nat]
  simp
theorem cut_from {α : Type} {xs : List α} {n : Nat} : Ev.cutD xs (some (n : Int)) none = xs.drop n := by
  unfold Ev.cutD
  rw [HT.sIx_none, HT.sIx_nat]
  by_cases h : n ≤ xs.length
  · rw [Nat.min_eq_left h, List.take_of_length_le (by simp)]
  · rw [Nat.min_eq_right (by omega), List.drop_of_length_le (l := xs) (i := n) (by omega), List.drop_of_length_le (l := xs) (i := xs.length) (by omega)]; simp
theorem cut_toN {α : Type} {xs : List α} {n : Nat} : Ev.cutD xs none (some (no_index (@OfNat.ofNat Int n instOfNat))) = xs.take n := cut_to
theorem cut_fromN {α : Type} {xs : List α} {n : Nat} : Ev.cutD xs (some (no_index (@OfNat.ofNat Int n instOfNat))) none = xs.drop n := cut_from
theorem kit_tab : kitB "NoneType" "bool" = some false ∧
  kitB "NoneType" "int" = some false ∧
  kitB "NoneType" "str" = some false ∧
  kitB "NoneType" "tuple" = some false ∧
  kitB "NoneType" "list" = some false ∧
  kitB "NoneType" "dict" = some false ∧
  kitB "bool" "bool" = some true ∧
  kitB "bool" "int" = some true ∧
  kitB "bool" "str" = some false ∧
  kitB "bool" "tuple" = some false ∧
  kitB "bool" "list" = some false ∧
  kitB "bool" "dict" = some false ∧
  kitB "int" "bool" = some false ∧
  kitB "int" "int" = some true ∧
  kitB "int" "str" = some false ∧
  kitB "int" "tuple" = some false ∧
  kitB "int" "list" = some false ∧
  kitB "int" "dict" = some false ∧
  kitB "str" "bool" = some false ∧
  kitB "str" "int" = some false ∧
  kitB "str" "str" = some true ∧
  kitB "str" "tuple" = some false ∧
  kitB "str" "list" = some false ∧
  kitB "str" "dict" = some false ∧
  kitB "tuple" "bool" = some false ∧
  kitB "tuple" "int" = some false ∧
  kitB "tuple" "str" = some false ∧
  kitB "tuple" "tuple" = some true ∧
  kitB "tuple" "list" = some false ∧
  kitB "tuple" "dict" = some false ∧
  kitB "list" "bool" = some false ∧
  kitB "list" "int" = some false ∧
  kitB "list" "str" = some false ∧
  kitB "list" "tuple" = some false ∧
  kitB "list" "list" = some true ∧
  kitB "list" "dict" = some false ∧
  kitB "dict" "bool" = some false ∧
  kitB "dict" "int" = some false ∧
  kitB "dict" "str" = some false ∧
  kitB "dict" "tuple" = some false ∧
  kitB "dict" "list" = some false ∧
  kitB "dict" "dict" = some true := by
  refine ⟨?_, ?_, ?_, ?_, ?_, ?_, ?_, ?_, ?_, ?_, ?_, ?_, ?_, ?_, ?_, ?_, ?_, ?_, ?_, ?_, ?_, ?_, ?_, ?_, ?_, ?_, ?_, ?_, ?_, ?_, ?_, ?_, ?_, ?_, ?_, ?_, ?_, ?_, ?_, ?_, ?_, ?_⟩ <;> decide +kernel
/-- a comprehension over what is ι a for each a of l, that makes f a of it, nothing else changed -/
theorem wLC_maps {α : Type} {g : dG} {tt : dT} {te : dE} {vs : List Nat} {Q : List D → DS → Prop} {δ0 : DS} {ι f : α → D} : ∀ {l : List α}, (∀ a ∈ l, ∀ acc (k : List D → DS → Prop), acc.length < sizeLine → k (acc ++ [f a]) δ0 → g (ι a) δ0 fun δ1 => tt W0 δ1 fun z δ2 => match z with
      | true => te W0 δ2 fun y δ3 => acc.length < sizeLine ∧ k (acc ++ [y]) (wipeD δ3 vs)
      | false => k acc (wipeD δ2 vs)) → l.length ≤ sizeLine → Q (l.map f) δ0 → wLC g tt te vs Q (l.map ι) [] δ0 := by
  intro l h hl h0
  have go : ∀ (r : List α) (acc : List D), (∀ a ∈ r, a ∈ l) → acc.length + r.length ≤ sizeLine → acc ++ r.map f = l.map f → wLC g tt te vs Q (r.map ι) acc δ0 := by
    intro r
    induction r with
    | nil => intro acc _ _ e; rw [List.map_nil, List.append_nil] at e; subst e; exact h0
    | cons a r ih =>
      intro acc hm hz e
      rw [List.length_cons] at hz
      exact h a (hm a List.mem_cons_self) acc (fun acc' δ' => wLC g tt te vs Q (r.map ι) acc' δ') (by omega) (ih (acc ++ [f a]) (fun b hb => hm b (List.mem_cons_of_mem _ hb)) (by simp; omega) (by rw [← e]; simp))
  exact go l [] (fun _ h => h) (by simpa using hl) rfl
theorem intsFrom_len {lo : Int} {n : Nat} : (Ev.intsFrom lo n).length = n := by simp [Ev.intsFrom]
def sgn (c : Nat) : Prop := c < 0x110000
theorem hex_sgn {n : Nat} : ∀ x ∈ (Nat.toDigits 16 n).map Char.toNat, sgn x := fun x h => by
  obtain ⟨ch, _, rfl⟩ := List.mem_map.mp h
  have e : ch.toNat = ch.val.toNat := rfl
  rcases ch.valid with h | h <;> (unfold sgn; omega)
theorem pad_sgn {w : Nat} {l : List Nat} (h : ∀ x ∈ l, sgn x) : ∀ x ∈ List.replicate (w - l.length) 48 ++ l, sgn x := fun x hx => by
  rcases List.mem_append.mp hx with hx | hx
  · rw [(List.mem_replicate.mp hx).2]; unfold sgn; omega
  · exact h x hx
theorem reprChar_sgn {q c : Nat} (hc : sgn c) : ∀ x ∈ Builtin.Str.reprChar q c, sgn x := by
  have two : ∀ {a b : Nat}, sgn a → sgn b → ∀ x ∈ [a, b], sgn x := fun ha hb x hx => by
    rcases List.mem_cons.mp hx with rfl | hx
    · exact ha
    · rw [List.mem_singleton] at hx; subst hx; exact hb
  have lit : ∀ n : Nat, n < 200 → sgn n := fun n h => by unfold sgn; omega
  have app : ∀ {l m : List Nat}, (∀ x ∈ l, sgn x) → (∀ x ∈ m, sgn x) → ∀ x ∈ l ++ m, sgn x := fun h1 h2 x hx => (List.mem_append.mp hx).elim (h1 x) (h2 x)
  unfold Builtin.Str.reprChar
  split
  · exact two (lit 92 (by decide)) hc
  split
  · exact two (lit 92 (by decide)) (lit _ (by decide))
  split
  · exact two (lit 92 (by decide)) (lit _ (by decide))
  split
  · exact two (lit 92 (by decide)) (lit _ (by decide))
  split
  · intro x hx; rw [List.mem_singleton] at hx; subst hx; exact hc
  split
  · exact app (two (lit _ (by decide)) (lit _ (by decide))) (pad_sgn hex_sgn)
  split
  · exact app (two (lit _ (by decide)) (lit _ (by decide))) (pad_sgn hex_sgn)
  · exact app (two (lit _ (by decide)) (lit _ (by decide))) (pad_sgn hex_sgn)
theorem strOk_iff {x : Str} : PyData.strOk x = true ↔ ∀ c ∈ x.cps, sgn c := by
  unfold PyData.strOk sgn
  rw [Array.all_eq_true']
  exact ⟨fun h c hc => of_decide_eq_true (h c hc), fun h c hc => decide_eq_true (h c hc)⟩
theorem strOk_repr {x : Str} (h : PyData.strOk x = true) : PyData.strOk (reprText x) = true := by
  rw [strOk_iff] at h ⊢
  have hq : sgn (reprQuote x) := by unfold reprQuote; split <;> (unfold sgn; omega)
  have go : ∀ (l : List Nat) (acc : Array Nat), (∀ c ∈ l, sgn c) → (∀ c ∈ acc, sgn c) → ∀ c ∈ l.foldl (fun out c => out ++ (Builtin.Str.reprChar (reprQuote x) c).toArray) acc, sgn c := by
    intro l
    induction l with
    | nil => intro acc _ h2; exact h2
    | cons a l ih =>
      intro acc h1 h2
      refine ih _ (fun c hc => h1 c (List.mem_cons_of_mem _ hc)) fun c hc => ?_
      rcases Array.mem_append.mp hc with hc | hc
      · exact h2 c hc
      · exact reprChar_sgn (h1 a List.mem_cons_self) c (by simpa using hc)
  intro c hc
  unfold reprText at hc
  rcases Array.mem_push.mp hc with hc | hc
  · rw [← Array.foldl_toList] at hc
    exact go x.cps.toList _ (fun c hc => h c (by simpa using hc)) (fun c hc => by
      have : c = reprQuote x := by simpa using hc
      rw [this]; exact hq) c hc
  · rw [hc]; exact hq
mutual
theorem D.okd_rep : ∀ d : D, d.okd = true → PyData.strOk d.py.shown = true
  | .non, _ => by simp only [D.py, PyData.shown]; exact strOk_lit _
  | .bl b, _ => by simp only [D.py, PyData.shown]; split <;> exact strOk_lit _
  | .int i, _ => by simp only [D.py, PyData.shown]; exact strOk_lit _
  | .str x, h => by simp only [D.py, PyData.shown]; exact strOk_repr h
  | .tup xs, h => by
    simp only [D.py, PyData.shown]
    unfold tupleText
    exact strOk_append (strOk_append (strOk_lit _) (strOk_join (strOk_lit _) _ (D.okds_rep xs h))) (strOk_lit _)
  | .kt xs, h => by
    simp only [D.py, PyData.shown]
    unfold tupleText
    exact strOk_append (strOk_append (strOk_lit _) (strOk_join (strOk_lit _) _ (D.okds_rep xs h))) (strOk_lit _)
  | .lst xs, h => by
    simp only [D.py, PyData.shown]
    rw [listText_eq_join]
    exact strOk_append (strOk_append (strOk_lit _) (strOk_join (strOk_lit _) _ (D.okds_rep xs h))) (strOk_lit _)
  | .dK _, h => by cases h
  | .dT _, h => by cases h
  | .fK _, h => by cases h
  | .fT _, h => by cases h
  | .fN _, h => by cases h
  | .exc _ _ _, h => by cases h
  | .exc0 _, h => by cases h
  | .raw _, h => by cases h
  | .scr _, h => by cases h
  | .fn _ _, h => by cases h
theorem D.okds_rep : ∀ ds : List D, D.okds ds = true → ∀ t ∈ PyData.shownAll (D.pys ds), PyData.strOk t = true
  | [], _ => by simp [D.pys, PyData.shownAll]
  | d :: ds, h => by
    have h' : (d.okd && D.okds ds) = true := h
    rw [Bool.and_eq_true] at h'
    intro t ht
    simp only [D.pys, PyData.shownAll, List.mem_cons] at ht
    rcases ht with rfl | ht
    · exact D.okd_rep d h'.1
    · exact D.okds_rep ds h'.2 t ht
end
theorem D.sm.rep {k n : Nat} {d : D} (h : d.sm k n) : PyData.strOk d.rep = true := D.okd_rep d h.ok
theorem eqs_nil {ds : List D} : D.eqs ds [] = decide (ds = []) := by
  cases ds <;> simp [D.eqs]
theorem lst_nil {ds : List D} : D.eq (.lst ds) (.lst []) = decide (ds = []) := by rw [eq_lst, eqs_nil]
theorem tup_nil {ds : List D} : D.eq (.tup ds) (.tup []) = decide (ds = []) := by rw [eq_tup, eqs_nil]
end Ev
namespace Ev
open PySem PySem.Spec PyProof.Rows L2
variable [TabC]
variable {K : PySem.W.Frag} {S S' H H' : Hp} {B : Bs} {δ : DS} {σ : L2.St}
/-- may be sorted: every two of one form, tuples that are not empty, or no tuple and no None -/
def srtOk (ds : List D) : Prop := D.lays ds = true ∧ (∀ d ∈ ds, d.dep ≤ 64) ∧ PySem.W.AllAlike (ds.map D.py) ∧ PySem.W.Sortable (ds.map D.py) ∧ ds.length ≤ sizeLine
def sortD (ds : List D) : List D := ds.mergeSort (PySem.W.dataLe false D.py)
section
variable {X : Cx} {pins : List (Addr × Obj)} {s : Shared}
def rSrt : DRF := fun xs Q => match xs with | [.lst ds] => srtOk ds ∧ Q (sortD ds) | [.tup ds] => srtOk ds ∧ Q (sortD ds) | _ => False
end
end Ev
namespace Ev
open PySem PySem.Spec PyProof.Rows L2
variable [TabC]
variable {K : PySem.W.Frag} {S S' H H' : Hp} {B : Bs} {δ : DS} {σ : L2.St}
section
variable {κ : Type} [DecidableEq κ]
def valD (es : List (κ × D)) (k : κ) : Option D := (es.find? fun e => decide (e.1 = k)).map (·.2)
def putD (es : List (κ × D)) (k : κ) (d : D) : List (κ × D) := if (es.any fun e => decide (e.1 = k)) = true then es.map (fun e => if e.1 = k then (e.1, d) else e) else es ++ [(k, d)]
def KvR (K : PySem.W.Frag) (S : Hp) (kvs : List (κ × V)) (es : List (κ × D)) : Prop := kvs.map (·.1) = es.map (·.1) ∧ DnA K S (kvs.map (·.2)) (es.map (·.2))
theorem KvR.mono {kvs : List (κ × V)} {es : List (κ × D)} (h : KvR K S kvs es) (e : Ex S S') : KvR K S' kvs es := ⟨h.1, h.2.mono e⟩
theorem KvR.get {k : κ} : ∀ {kvs : List (κ × V)} {es : List (κ × D)}, KvR K S kvs es → (valV kvs k = none ∧ valD es k = none) ∨ ∃ v d, valV kvs k = some v ∧ valD es k = some d ∧ Dn K S v d
  | [], [], _ => .inl ⟨rfl, rfl⟩
  | [], _ :: _, h => by cases h.1
  | _ :: _, [], h => by cases h.1
  | (a, v) :: kvs, (b, d) :: es, h => by
    obtain ⟨h1, h2⟩ := h
    simp only [List.map_cons, List.cons.injEq] at h1
    simp only [List.map_cons] at h2
    cases h2 with
    | cons h2 h3 =>
      obtain ⟨rfl, h1⟩ := h1
      by_cases e : a = k
      · exact .inr ⟨v, d, by simp [valV, e], by simp [valD, e], h2⟩
      · rcases KvR.get (k := k) ⟨h1, h3⟩ with ⟨q1, q2⟩ | ⟨v', d', q1, q2, q3⟩
        · exact .inl ⟨by simpa [valV, e] using q1, by simpa [valD, e] using q2⟩
        · exact .inr ⟨v', d', by simpa [valV, e] using q1, by simpa [valD, e] using q2, q3⟩
theorem KvR.any {kvs : List (κ × V)} {es : List (κ × D)} (h : KvR K S kvs es) (k : κ) : (kvs.any fun e => decide (e.1 = k)) = es.any fun e => decide (e.1 = k) := by
  have e1 : (kvs.any fun e => decide (e.1 = k)) = (kvs.map (·.1)).any fun e => decide (e = k) := by rw [List.any_map]; rfl
  have e2 : (es.any fun e => decide (e.1 = k)) = (es.map (·.1)).any fun e => decide (e = k) := by rw [List.any_map]; rfl
  rw [e1, e2, h.1]
theorem KvR.map {v : V} {d : D} (dn : Dn K S v d) (k : κ) : ∀ {kvs : List (κ × V)} {es : List (κ × D)}, KvR K S kvs es → KvR K S (kvs.map fun e => if e.1 = k then (e.1, v) else e) (es.map fun e => if e.1 = k then (e.1, d) else e)
  | [], [], _ => ⟨rfl, .nil⟩
  | [], _ :: _, h => by cases h.1
  | _ :: _, [], h => by cases h.1
  | (a, x) :: kvs, (b, y) :: es, h => by
    obtain ⟨h1, h2⟩ := h
    simp only [List.map_cons, List.cons.injEq] at h1
    simp only [List.map_cons] at h2
    cases h2 with
    | cons h2 h3 =>
      obtain ⟨rfl, h1⟩ := h1
      have ih := KvR.map dn k (kvs := kvs) (es := es) ⟨h1, h3⟩
      by_cases e : a = k
      · simp only [List.map_cons, e, if_true]
        exact ⟨by simp only [List.map_cons]; exact congrArg _ ih.1, .cons dn ih.2⟩
      · simp only [List.map_cons, e, if_false]
        exact ⟨by simp only [List.map_cons]; exact congrArg _ ih.1, .cons h2 ih.2⟩
theorem KvR.put {v : V} {d : D} {kvs : List (κ × V)} {es : List (κ × D)} (h : KvR K S kvs es) (dn : Dn K S v d) (k : κ) : KvR K S (putK kvs k v) (putD es k d) := by
  unfold putK putD
  rw [h.any k]
  split
  · exact h.map dn k
  · exact ⟨by rw [List.map_append, List.map_append, h.1]; rfl, by rw [List.map_append, List.map_append]; exact h.2.append (.cons dn .nil)⟩
end
def D.key : D → Option Key
  | .int i => some (.inl i)
  | .str x => some (.inr x)
  | _ => none
def keysOf : List D → Option (List Key)
  | [] => some []
  | d :: ds => match d.key, keysOf ds with
    | some k, some ks => some (k :: ks)
    | _, _ => none
def D.keyT : D → Option (List Key)
  | .tup ds => keysOf ds
  | _ => none
def kD : Key → D
  | .inl i => .int i
  | .inr x => .str x
theorem Dn.key {v : V} {d : D} {k : Key} (h : Dn K S v d) (e : d.key = some k) : v = kV k := by
  cases h <;> first | (cases e; rfl) | cases e
theorem DnA.keys : ∀ {vs : List V} {ds : List D} {ks : List Key}, DnA K S vs ds → keysOf ds = some ks → vs = ks.map kV
  | [], _, _, .nil, e => by cases e; rfl
  | v :: vs, d :: ds, ks, .cons h a, e => by
    unfold keysOf at e
    split at e
    · rename_i k ks' e1 e2
      cases e
      rw [h.key e1, a.keys e2]; rfl
    · cases e
theorem Dn.keyT {v : V} {d : D} {ks : List Key} (h : Dn K S v d) (e : d.keyT = some ks) : ∃ b, v = .ref b ∧ S b = some (.tup (ks.map kV)) := by
  cases h with
  | tup h1 h2 =>
    have := h2.keys e
    subst this
    exact ⟨_, rfl, h1⟩
  | _ => cases e
section
variable {X : Cx} {E : EK} {e a b c : Expr} {es : List Expr} {pos p ap cp : Pos} {da db : dE} {x : Str}
/-- name = {}: keys tuples; keys numbers and texts -/
def dNewDT (i : Nat) : dS := fun _ N δ => N.nx (setSl δ i (.ownT []))
def dNewDK (i : Nat) : dS := fun _ N δ => N.nx (setSl δ i (.ownK []))
/-- what the dict in slot i holds at y -/
def dictGet (δ : DS) (i : Nat) (y : D) : Option (Option D) := match δ.sl[i]? with
  | some (.ownT es) => y.keyT.map (valD es)
  | some (.ownK es) => y.key.map (valD es)
  | some (.dat (.dT es)) => y.keyT.map (valD es)
  | some (.dat (.dK es)) => y.key.map (valD es)
  | _ => none
/-- slot i holds a dict: where -/
def isDict (δ : DS) (i : Nat) : Prop := ∃ x, δ.sl[i]? = some x ∧ match x with | .ownT _ => True | .ownK _ => True | .dat (.dT _) => True | .dat (.dK _) => True | _ => False
/-- name[e] of a dict -/
def dDGet (i : Nat) (d : dE) : dE := fun W δ Q => isDict δ i ∧ d W δ fun y δ1 => optQ (dictGet δ1 i y) fun r => optQ r fun z => Q z δ1
/-- e in name, e not in name -/
def dDIn (neg : Bool) (d : dE) (i : Nat) : dE := fun W δ Q => d W δ fun y δ1 => optQ (dictGet δ1 i y) fun r => Q (.bl (if neg then !r.isSome else r.isSome)) δ1
/-- name[i] = e -/
def dictPut (δ : DS) (i : Nat) (y z : D) : Option DS := match δ.sl[i]? with
  | some (.ownT es) => match y.keyT with | some k => if es.length < sizeLine then some (setSl δ i (.ownT (putD es k z))) else none | none => none
  | some (.ownK es) => match y.key with | some k => if es.length < sizeLine then some (setSl δ i (.ownK (putD es k z))) else none | none => none
  | _ => none
def dDPut (i : Nat) (dk dv : dE) : dS := fun W N δ => dv W δ fun z δ1 => isDict δ1 i ∧ dk W δ1 fun y δ2 => optQ (dictPut δ2 i y z) N.nx
/-- the keys of a dict with tuple keys, sorted -/
def keyD (es : List (List Key × D)) : List D := es.map fun e => .tup (e.1.map kD)
def dSortT (i : Nat) : dF := fun _ δ Q => match δ.sl[i]? with
  | some (.ownT es) => srtOk (keyD es) ∧ Q (sortD (keyD es)) δ
  | some (.dat (.dT es)) => srtOk (keyD es) ∧ Q (sortD (keyD es)) δ
  | _ => False
end
/-- a comprehension with a test, nothing else changed -/
theorem wLC_filt {α : Type} {g : dG} {tt : dT} {te : dE} {vs : List Nat} {Q : List D → DS → Prop} {δ0 : DS} {ι f : α → D} {t : α → Bool} : ∀ {l : List α}, (∀ a ∈ l, ∀ acc (k : List D → DS → Prop), acc.length < sizeLine → (t a = true → k (acc ++ [f a]) δ0) → (t a = false → k acc δ0) → g (ι a) δ0 fun δ1 => tt W0 δ1 fun z δ2 => match z with
      | true => te W0 δ2 fun y δ3 => acc.length < sizeLine ∧ k (acc ++ [y]) (wipeD δ3 vs)
      | false => k acc (wipeD δ2 vs)) → l.length ≤ sizeLine → Q ((l.filter t).map f) δ0 → wLC g tt te vs Q (l.map ι) [] δ0 := by
  intro l h hl h0
  have go : ∀ (r : List α) (acc : List D), (∀ a ∈ r, a ∈ l) → acc.length + r.length ≤ sizeLine → acc ++ (r.filter t).map f = (l.filter t).map f → wLC g tt te vs Q (r.map ι) acc δ0 := by
    intro r
    induction r with
    | nil => intro acc _ _ e; rw [List.filter_nil, List.map_nil, List.append_nil] at e; subst e; exact h0
    | cons a r ih =>
      intro acc hm hz e
      rw [List.length_cons] at hz
      refine h a (hm a List.mem_cons_self) acc (fun acc' δ' => wLC g tt te vs Q (r.map ι) acc' δ') (by omega) (fun ha => ih (acc ++ [f a]) (fun b hb => hm b (List.mem_cons_of_mem _ hb)) (by simp; omega) ?_) (fun ha => ih acc (fun b hb => hm b (List.mem_cons_of_mem _ hb)) (by omega) ?_)
      · rw [← e, List.filter_cons_of_pos ha]; simp
      · rw [← e, List.filter_cons_of_neg (by rw [ha]; decide)]
  exact go l [] (fun _ h => h) (by simpa using hl) rfl
end Ev
namespace Ev
open PySem PySem.Spec PyProof.Rows L2
variable [TabC]
variable {K : PySem.W.Frag} {S S' H H' : Hp} {B : Bs} {δ : DS} {σ : L2.St}
section
variable {X : Cx} {E : EK} {e a b c : Expr} {es : List Expr} {pos p ap cp : Pos} {da db : dE} {x : Str}
/-- return of a new list -/
def dRetF (f : dF) : dS := fun W N δ => f W δ fun xs δ' => N.rl xs δ'
/-- return name: the list of one's own -/
def dRetOwn (i : Nat) : dS := fun _ N δ => match δ.sl[i]? with | some (.own ds) => N.rl ds (setSl δ i .un) | _ => False
abbrev dSpL := List D → Pen → (List D → Pen → Prop) → (Xc → Pen → Prop) → Prop
def endsL (Q : List D → Pen → Prop) : dEnds := { nx := fun _ => False, rt := fun _ _ => False, rl := fun xs δ => Q xs δ.pen }
def dCallL (n : Nat) (dd : List D) (sp : dSpL) (a : dA) : dF := fun W δ Q => a W δ fun xs δ1 => (xs ++ dd).length = n ∧ sp (xs ++ dd) δ1.pen (fun x p' => Q x { δ1 with pen := p' }) fun c p' => W c { δ1 with pen := p' }
variable {j k n : Nat} {sp : dSpL} {dd : List D} {ta : dA}
def dCallLK (n p q : Nat) (idx : List Nat) (dd : List D) (sp : dSpL) (a tk : dA) : dF := fun W δ Q => a W δ fun us δ1 => tk W δ1 fun ws δ2 => (pickL p q idx dd us ws).length = n ∧ sp (pickL p q idx dd us ws) δ2.pen (fun x p' => Q x { δ2 with pen := p' }) fun c p' => W c { δ2 with pen := p' }
variable {pp qq : Nat} {ks : List Str} {idx : List Nat} {kws : List Keyword} {tk : dA}
end
end Ev
namespace Ev
open PySem PySem.Spec PyProof.Rows L2
variable [TabC]
variable {K : PySem.W.Frag} {S S' H H' : Hp} {B : Bs} {δ : DS} {σ : L2.St}
section
variable {X : Cx} {E : EK} {e a b c : Expr} {es : List Expr} {pos p ap cp : Pos} {da db : dE} {x y z : Str}
/-- [x, y][z]: the first pen, which is there; the second, which is made one -/
def dPen2 (i j t : Nat) : dE := fun _ δ Q => (∃ (q : Nat) (ns : List Int), δ.sl[q]? = some (.law ns)) ∧ match δ.sl[i]?, δ.sl[j]?, δ.sl[t]? with
  | some (.own xs), some (.own _), some (.dat (.int 0)) => ∃ (ns : List Int) (k m : Int) (c : Nat), xs = penD ns k m ∧ ns.length ≤ 63 ∧ 0 ≤ k ∧ k ≤ c ∧ 0 ≤ m ∧ ∀ p, Q (.raw (.ref p)) { setSl δ i (.dat (.raw (.ref p))) with pen := some (p, c) }
  | some (.dat (.raw (.ref a))), some (.own xs), some (.dat (.int 1)) => ∃ (ns : List Int) (k m : Int) (c : Nat), xs = penD ns k m ∧ ns.length ≤ 63 ∧ 0 ≤ k ∧ k ≤ c ∧ 0 ≤ m ∧ ∀ p, Q (.raw (.ref p)) { setSl δ j (.dat (.raw (.ref p))) with pen := some (p, c) }
  | some (.dat (.raw (.ref a))), some (.dat (.raw (.ref b))), some (.dat (.int 1)) => Q (.raw (.ref b)) δ
  | _, _, _ => False
theorem de_gint {i : Int} (gl : Gl X x) (h : ∃ t, X.mg x = some (.int i t)) (hd : (x == ("__debug__" : Str)) = false := by decide) : DE X E (.Name x pos) (dC (.int i)) := by
  obtain ⟨t, h⟩ := h
  exact de_c (pe_glob gl h (show RelV (.int i) (.int i t) from ⟨t, rfl⟩) hd) fun _ => .int i
def dRev (d : dE) : dF := fun W δ Q => d W δ fun x δ1 => match x with | .lst ds => Q ds.reverse δ1 | _ => False
def dRevI (d : dE) : dI := fun W δ Q => d W δ fun x δ' => match x with | .lst ds => Q ds.reverse δ' | _ => False
/-- the first place of an item -/
def firstAt (ds : List D) (d : D) : Option Nat := ds.findIdx? fun z => z.eq d
theorem pys_map : ∀ ds : List D, D.pys ds = ds.map D.py
  | [] => rfl
  | d :: ds => by show d.py :: D.pys ds = _; rw [pys_map ds]; rfl
/-- name.index(e) -/
def dIndex (i : Nat) (d : dE) : dE := fun W δ Q => (∃ ds, lookAt δ i = some ds) ∧ d W δ fun y δ1 => optQ (lookAt δ1 i) fun ds => (D.lst ds).cm ∧ y.cm ∧ optQ (firstAt ds y) fun j => Q (.int j) δ1
theorem de_index {i : Nat} (hu : X.A.units + 65 < cLine) (hv : PE X (.Name x p) (tVar i)) (he : DE X E e da) (hbase : attributeBase (.Name x p) "index" X.env (eval (.Name x p) X.env) = eval (.Name x p) X.env := by rfl)
    (hfew : ((backTo cp (starEach [e] X.env)).all (fun x => !x.1) && (backToKw cp (keywordEach [] X.env)).all (fun x => x.1.isSome) && decide (([e] : List Expr).length + ([] : List Keyword).length + (if ([] : List Keyword).isEmpty then 0 else 1) < 30)) = true := by rfl)
    (hline : (ap.endLine == cp.line) = true := by rfl) (hs : starEach [e] X.env = (false, eval e X.env) :: starEach [] X.env := by rfl) (hpl : (backTo cp (starEach [] X.env)).any (·.1) = false := by rfl) : DE X E (.Call (.Attribute (.Name x p) "index" ap) [e] [] cp) (dIndex i da) :=
  ⟨fun B => pe_mono (pe_bm PySem.F.plainAttrs_list PySem.F.slot_list_index PySem.F.type_list_index (mt_indexD hu) hv (pa_cons (he.run B) pa_nil hs) hbase hfew hline hs hpl) fun σ H Q q => by
    obtain ⟨δ, S, W, Q', R, ⟨⟨ds0, h0⟩, q⟩, xo, post⟩ := q
    obtain ⟨p0, vs0, v0, g0, _⟩ := R.lookAt h0
    refine ⟨.ref p0, v0, tyL g0, δ, S, W, _, R, q, xo, fun y δ1 v S1 H1 q1 e1 R1 n1 => ?_⟩
    obtain ⟨ds, h1, c1, c2, q1⟩ := optQ_ex q1
    obtain ⟨j, hj, q1⟩ := optQ_ex q1
    obtain ⟨p', S2, v1, e2, sb, dl, _, _⟩ := R1.look h1
    rw [v0] at v1; cases v1
    obtain ⟨hlt, y1, y2⟩ := List.findIdx?_eq_some_iff_getElem.mp hj
    have sh := c1.sh
    refine ⟨p0, v, y.py, D.pys ds, j, ds[j].py, rfl, rfl, ?_, ?_, ?_, c2.sh, ?_, y1, fun m z' hm hz => ?_, post _ _ _ _ _ q1 e1 R1 (.int _)⟩
    · exact (dl.mono sb).dp c1.1
    · exact (n1.mono R1.ex).dp c2.1
    · exact sh
    · rw [pys_map, List.getElem?_map, List.getElem?_eq_getElem hlt]; rfl
    · rw [pys_map, List.getElem?_map, List.getElem?_eq_getElem (by omega)] at hz
      cases hz
      have := y2 m hm
      simpa [D.eq] using this⟩
end
section
variable {X : Cx} {E : EK} {a b c : Expr} {pos : Pos} {ta : dT} {fa fb : dF}
def dIfF (t : dT) (x y : dF) : dF := fun W δ Q => t W δ fun k δ1 => match k with | true => x W δ1 Q | false => y W δ1 Q
end
section
variable {X : Cx} {E : EK} {a b : Expr} {pos px py pt pt2 : Pos} {x y : Str} {kt k2 : Nat} {d : dA}
/-- x, y = a, b -/
def dPar (i j : Nat) (d : dA) : dS := fun W N δ => d W δ fun xs δ1 => match xs with | [u, v] => N.nx (setSl (setSl δ1 i (.dat u)) j (.dat v)) | _ => False
theorem ds_par {i j : Nat} (hc : X.calm = true) (hN : X.N.Nodup) (hi : X.N[i]? = some x) (hj : X.N[j]? = some y) (hij : i ≠ j) (hx : X.env.scope.names.lookup x = some .local) (hy : X.env.scope.names.lookup y = some .local) (ha : DA X E [a, b] d)
    (hw : swappedStores [.Tuple [.Name x px, .Name y py] kt pt] (.Tuple [a, b] k2 pt2) X.env = pure (some [x, y])) : DSt X E (.Assign [.Tuple [.Name x px, .Name y py] kt pt] (.Tuple [a, b] k2 pt2) pos) (dPar i j d) := ⟨fun B => ps_mono (ps_par hc hN hi hj hij hx hy (ha.run B) hw) fun Z σ H q => by
  obtain ⟨δ, S, W, N, R, q, xo, p1, _⟩ := q
  refine ⟨δ, S, W, _, R, q, xo, fun xs δ1 vs S1 H1 q1 e1 R1 n1 => ?_⟩
  match xs, n1, q1 with
  | [u, v], n1, q1 =>
    obtain ⟨v1, v2, rfl, d1, d2⟩ := n1.two
    exact ⟨v1, v2, rfl, p1 _ _ _ _ q1 e1 ((R1.setDat d1).setDat d2)⟩⟩
end
def startL (m : Nat) (ns : List Int) : DS := ⟨.law ns :: List.replicate (m - 1) .un, none⟩
end Ev
namespace Ev
open PySem PySem.Spec PyProof.Rows L2
variable [TabC]
theorem ixN_in {n : Nat} {r : Int} (h0 : 0 ≤ r) (h1 : r < n) : ixN n r = some r.toNat := by
  unfold ixN
  rw [if_pos h0, if_pos h1]
theorem erase_map {α β : Type} (f : α → β) : ∀ (l : List α) (i : Nat), (l.map f).eraseIdx i = (l.eraseIdx i).map f
  | [], _ => rfl
  | _ :: _, 0 => rfl
  | x :: l, i + 1 => congrArg (f x :: ·) (erase_map f l i)
theorem erase_perm {α : Type} : ∀ {l : List α} {i : Nat} (h : i < l.length), (l[i] :: l.eraseIdx i).Perm l
  | _ :: _, 0, _ => .refl _
  | a :: l, i + 1, h => (List.Perm.swap a _ _).trans (.cons a (erase_perm (l := l) (i := i) (by simpa using h)))
theorem atI_mapLast {α : Type} {f : α → D} {xs : List α} (h : xs ≠ []) : ∃ x ∈ xs, atI (xs.map f) (-1) = some (f x) := by
  rw [atI_neg1, List.getElem?_map, List.length_map]
  have h2 : xs.length - 1 < xs.length := by
    cases xs with
    | nil => exact absurd rfl h
    | cons x r => simp
  exact ⟨xs[xs.length - 1], List.getElem_mem h2, by rw [List.getElem?_eq_getElem h2]; rfl⟩
variable {K : PySem.W.Frag} {S S' H H' : Hp} {B : Bs} {δ : DS} {σ : L2.St}
def roSl : Sl → Sl
  | .dat d => .dat d
  | .own ds => .dat (.lst ds)
  | .ownK es => .dat (.dK es)
  | .ownT es => .dat (.dT es)
  | _ => .un
theorem ro_un : roSl .un = .un := rfl
theorem ro_dat {d : D} : roSl (.dat d) = .dat d := rfl
theorem ro_own {ds : List D} : roSl (.own ds) = .dat (.lst ds) := rfl
theorem ro_hp {ds : List D} : roSl (.hp ds) = .un := rfl
theorem ro_law {ds : List Int} : roSl (.law ds) = .un := rfl
theorem ro_ownK {es : List (Key × D)} : roSl (.ownK es) = .dat (.dK es) := rfl
theorem ro_ownT {es : List (List Key × D)} : roSl (.ownT es) = .dat (.dT es) := rfl
theorem flat_int {i : Int} : (D.int i).flat = true := rfl
theorem flat_str {i : Str} : (D.str i).flat = true := rfl
theorem flat_bl {i : Bool} : (D.bl i).flat = true := rfl
theorem flat_non : D.non.flat = true := rfl
def roD (δ : DS) : DS := ⟨δ.sl.map roSl, none⟩
theorem Rel.ro (R : Rel K B δ S σ H) : ∃ (S1 : Hp) (B1 : Bs), Ex S S1 ∧ Rel K B1 (roD δ) S1 σ H ∧ ∀ δ2 S2 H2, Ex S1 S2 → Rel K B1 δ2 S2 σ H2 → ∃ S3, Grow S H S3 H2 ∧ ∀ b vs, S2 b = some (.tup vs) → S3 b = some (.tup vs) := by
  obtain ⟨ow, h1, h2, h3, h4⟩ := id R.sl
  let ownd : Addr → Prop := fun b => ∃ i x, δ.sl[i]? = some x ∧ ow i = some b ∧ ((∀ ds, x ≠ .hp ds) ∧ (∀ es, x ≠ .ownN es) ∧ ∀ a ds, x ≠ .kp a ds)
  have hown : ∀ b, ownd b → S b = none := fun b ⟨i, x, _, e, _⟩ => (h4 i b e).1
  have hnt : ∀ b, ownd b → ∃ o, H b = some o ∧ (∀ vs, o ≠ .tup vs) ∧ HO.plain o = true := fun b ⟨i, x, hx, e, nh⟩ => by
    have q := h1 i x hx
    cases x with
    | un => rw [e] at q; cases q
    | law ns => rw [e] at q; cases q.1
    | dat d => rw [e] at q; cases q.1
    | own ds => obtain ⟨a, vs, r1, _, _, _, r3, _⟩ := q; rw [e] at r1; cases r1; exact ⟨_, r3, (fun _ z => nomatch z), rfl⟩
    | hp ds => exact absurd rfl (nh.1 ds)
    | ownN ds => exact absurd rfl (nh.2.1 ds)
    | kp a ds => exact absurd rfl (nh.2.2 a ds)
    | hpK es => obtain ⟨a, vs, r1, _, _, r3, _⟩ := q; rw [e] at r1; cases r1; exact ⟨_, r3, (fun _ z => nomatch z), rfl⟩
    | ownK es => obtain ⟨a, vs, r1, _, _, _, r3, _⟩ := q; rw [e] at r1; cases r1; exact ⟨_, r3, (fun _ z => nomatch z), rfl⟩
    | ownT es => obtain ⟨a, vs, r1, _, _, _, r3, _⟩ := q; rw [e] at r1; cases r1; exact ⟨_, r3, (fun _ z => nomatch z), rfl⟩
  open Classical in
  let S1 : Hp := fun b => if ownd b then H b else S b
  have s1n : ∀ b, ¬ ownd b → S1 b = S b := fun b h => if_neg h
  have s1o : ∀ b, ownd b → S1 b = H b := fun b h => if_pos h
  have e1 : Ex S S1 := fun a o q => by
    rw [s1n a (fun z => by rw [hown a z] at q; cases q)]; exact q
  have sb1 : Sb S1 H := ⟨fun a o q => by
    by_cases z : ownd a
    · rw [s1o a z] at q; exact q
    · rw [s1n a z] at q; exact R.ex a o q, fun b vs q => e1 _ _ (R.ex.tp b vs q), fun p hp => by
    obtain ⟨t1, ps, t2, t3⟩ := R.ex.tb p hp
    refine ⟨(s1n _ (fun z => ?_)).trans t1, ps, t2, t3⟩
    obtain ⟨o, q1, _, q2⟩ := hnt _ z
    rw [t2] at q1; cases q1; cases q2⟩
  refine ⟨S1, ⟨S1, H, none, true⟩, e1, ⟨sb1, ⟨Ex.refl _, fun _ _ h _ _ => h, fun _ ps h => ⟨ps, h⟩, fun _ _ _ n => n, fun _ z => nomatch z⟩, trivial, ?_, by simpa [roD] using R.len, fun _ => none, fun i y e => ?_, fun _ _ => rfl, fun _ _ _ z => (nomatch z), fun _ _ z => nomatch z⟩, fun δ2 S2 H2 ex2 R2 => ?_⟩
  · unfold PaOk
    rw [if_neg (fun z => z.2 rfl)]
    exact fun _ _ z => nomatch z
  · unfold roD at e
    rw [List.getElem?_map] at e
    cases hx : δ.sl[i]? with
    | none => rw [hx] at e; cases e
    | some x =>
      rw [hx] at e
      cases e
      have q := h1 i x hx
      cases x with
      | un => exact rfl
      | law ns => exact rfl
      | dat d => obtain ⟨_, v, q1, q2⟩ := q; exact ⟨rfl, v, q1, q2.mono e1⟩
      | own ds =>
        obtain ⟨a, vs, r1, _, _, r2, r3, r4⟩ := q
        have oa : ownd a := ⟨i, _, hx, r1, (fun _ z => nomatch z), (fun _ z => nomatch z), fun _ _ z => nomatch z⟩
        exact ⟨rfl, _, r2, .lst (by rw [s1o a oa]; exact r3) (r4.mono e1)⟩
      | hp ds => exact rfl
      | ownN ds => exact rfl
      | kp a ds => exact rfl
      | hpK es => exact rfl
      | ownK es =>
        obtain ⟨a, vs, r1, _, _, r2, r3, r4, r5⟩ := q
        have oa : ownd a := ⟨i, _, hx, r1, (fun _ z => nomatch z), (fun _ z => nomatch z), fun _ _ z => nomatch z⟩
        exact ⟨rfl, _, r2, .dK (by rw [s1o a oa]; exact r3) r4 (r5.mono e1)⟩
      | ownT es =>
        obtain ⟨a, vs, r1, _, _, r2, r3, r4, r5⟩ := q
        have oa : ownd a := ⟨i, _, hx, r1, (fun _ z => nomatch z), (fun _ z => nomatch z), fun _ _ z => nomatch z⟩
        exact ⟨rfl, _, r2, .dT (by rw [s1o a oa]; exact r3) r4 (r5.mono e1)⟩
  · open Classical in
    let S3 : Hp := fun b => if ownd b then none else S2 b
    have s3n : ∀ b, ¬ ownd b → S3 b = S2 b := fun b h => if_neg h
    have s3o : ∀ b, ownd b → S3 b = none := fun b h => if_pos h
    have hh : Ext H H2 := ⟨fun b o q nt => R2.fr.h b o q (fun z => nomatch z) nt, R2.fr.t⟩
    have e3 : Ex S S3 := fun a o q => by
      rw [s3n a (fun z => by rw [hown a z] at q; cases q)]
      exact ex2 _ _ (e1 _ _ q)
    refine ⟨S3, ⟨e3, hh, ⟨fun a o q => ?_, fun b vs q => ?_, fun p hp => ?_⟩, fun b o q n => ?_⟩, fun b vs q => ?_⟩
    · by_cases z : ownd a
      · rw [s3o a z] at q; cases q
      · rw [s3n a z] at q; exact R2.ex a o q
    · by_cases z : ownd b
      · obtain ⟨o, q1, q2, q4⟩ := hnt b z
        rw [hh.pl q1 q4] at q
        exact absurd (Option.some.inj q) (q2 vs)
      · rw [s3n b z]; exact R2.ex.tp b vs q
    · obtain ⟨t1, t2⟩ := R2.ex.tb p hp
      refine ⟨?_, t2⟩
      by_cases z : ownd p.1
      · exact s3o _ z
      · rw [s3n _ z]; exact t1
    · by_cases z : ownd b
      · exact s3o b z
      · rw [s3n b z]; exact R2.fr.no b o q (by rw [show (Bs.mk S1 H none true).S0 b = S1 b from rfl, s1n b z]; exact n)
    · by_cases z : ownd b
      · obtain ⟨o, q1, q2, q4⟩ := hnt b z
        have q3 := R2.ex _ _ q
        rw [hh.pl q1 q4] at q3
        exact absurd (Option.some.inj q3) (q2 vs)
      · rw [s3n b z]; exact q
mutual
def D.solid : D → Bool
  | .non => true | .bl _ => true | .int _ => true | .str _ => true
  | .tup ds => D.solids ds
  | _ => false
def D.solids : List D → Bool
  | [] => true
  | d :: ds => d.solid && D.solids ds
end
mutual
theorem Dn.solid {S S' : Hp} (g : ∀ b vs, S b = some (.tup vs) → S' b = some (.tup vs)) : ∀ {v : V} {d : D}, Dn K S v d → d.solid = true → Dn K S' v d
  | _, _, .non, _ => .non
  | _, _, .bl _, _ => .bl _
  | _, _, .int _, _ => .int _
  | _, _, .str _, _ => .str _
  | _, _, .tup h a, f => .tup (g _ _ h) (DnA.solid g a f)
  | _, _, .kt _ _, f => absurd f (by intro z; cases z)
  | _, _, .raw _, f => absurd f (by intro z; cases z)
  | _, _, .scr _, f => absurd f (by intro z; cases z)
  | _, _, .fn _ _ _ _ _ _ _, f => absurd f (by intro z; cases z)
  | _, _, .lst _ _, f => absurd f (by intro z; cases z)
  | _, _, .dK _ _ _, f => absurd f (by intro z; cases z)
  | _, _, .dT _ _ _, f => absurd f (by intro z; cases z)
  | _, _, .fK _ _ _, f => absurd f (by intro z; cases z)
  | _, _, .fT _ _ _, f => absurd f (by intro z; cases z)
  | _, _, .fN _ _ _, f => absurd f (by intro z; cases z)
  | _, _, .exc _ _ _, f => absurd f (by intro z; cases z)
  | _, _, .exc0 _, f => absurd f (by intro z; cases z)
theorem DnA.solid {S S' : Hp} (g : ∀ b vs, S b = some (.tup vs) → S' b = some (.tup vs)) : ∀ {vs : List V} {ds : List D}, DnA K S vs ds → D.solids ds = true → DnA K S' vs ds
  | _, _, .nil, _ => .nil
  | _, _, .cons h a, f => by
    have f' := (Bool.and_eq_true _ _).mp (show (_ && _) = true from f)
    exact .cons (Dn.solid g h f'.1) (DnA.solid g a f'.2)
end
theorem DnA.solidsL {S S' : Hp} (g : ∀ b vs, S b = some (.tup vs) → S' b = some (.tup vs)) : ∀ {vs : List V} {ds : List D}, DnA K S vs ds → (∀ d ∈ ds, d.solid = true) → DnA K S' vs ds
  | _, _, .nil, _ => .nil
  | _, _, .cons h a, f => .cons (h.solid g (f _ List.mem_cons_self)) (a.solidsL g fun d hd => f d (List.mem_cons_of_mem _ hd))
theorem solid_int {i : Int} : (D.int i).solid = true := rfl
theorem solid_str {i : Str} : (D.str i).solid = true := rfl
theorem solid_bl {i : Bool} : (D.bl i).solid = true := rfl
theorem solid_non : D.non.solid = true := rfl
theorem solid_tup {ds : List D} : (D.tup ds).solid = D.solids ds := rfl
theorem solids_nil : D.solids [] = true := rfl
theorem solids_cons {d : D} {ds : List D} : D.solids (d :: ds) = (d.solid && D.solids ds) := rfl
section
variable {X : Cx} {E : EK} {e : Expr} {d : dE} {f : dF} {t : dT}
def dRo (d : dE) : dE := fun _ δ Q => d W0 (roD δ) fun x _ => x.solid = true ∧ Q x δ
def dRoF (f : dF) : dF := fun _ δ Q => f W0 (roD δ) fun xs _ => (∀ x ∈ xs, x.solid = true) ∧ Q xs δ
def dRoT (t : dT) : dT := fun _ δ Q => t W0 (roD δ) fun k _ => Q k δ
theorem de_ro (h : DE X E e d) : DE X E e (dRo d) := ⟨fun B => ⟨fun pins s σ H Q I q => by
  obtain ⟨δ, S, W, Q', R, q, xo, post⟩ := q
  obtain ⟨S1, B1, e1, R1, back⟩ := R.ro
  refine (h.run B1).run pins s σ H Q I ⟨roD δ, S1, W0, _, R1, q, xok0, fun x δ2 v S2 H2 q2 e2 R2 n2 => ?_⟩
  obtain ⟨S3, gg, g3⟩ := back δ2 S2 H2 e2 R2
  have e3 := gg.s
  have R3 := R.grow gg
  exact post _ _ _ _ _ q2.2 e3 R3 (n2.solid g3 q2.1)⟩⟩
theorem df_ro (h : DF X E e f) : DF X E e (dRoF f) := ⟨fun B => ⟨fun pins s σ H Q I q => by
  obtain ⟨δ, S, W, Q', R, q, xo, post⟩ := q
  obtain ⟨S1, B1, e1, R1, back⟩ := R.ro
  refine (h.run B1).run pins s σ H Q I ⟨roD δ, S1, W0, _, R1, q, xok0, fun xs δ2 p vs S2 H2 q2 e2 R2 hp n2 => ?_⟩
  obtain ⟨S3, gg, g3⟩ := back δ2 S2 H2 e2 R2
  have e3 := gg.s
  have R3 := R.grow gg
  exact post _ _ _ _ _ _ q2.2 e3 R3 hp (n2.solidsL g3 q2.1)⟩⟩
variable {E2 : EK} {tg : Expr} {pos : Pos}
theorem ps_pick {st : Stmt} {ι : Type} {t : ι → TS} {t' : TS} (h : ∀ b, PS X st (t b)) (m : ∀ Z σ H, t' Z σ H → ∃ b, t b Z σ H) : PS X st t' := ⟨fun pins s σ H Z I q => by
  obtain ⟨b, q⟩ := m Z σ H q
  exact (h b).run pins s σ H Z I q⟩
theorem ds_setLcRo {i : Nat} {y : Str} {py spos : Pos} {elt iter : Expr} {ifs : List Expr} {scope : Scope} {own : List (Str × Nat)} {w : dI} {g : dG} {tt : dT} {te : dE} {ws : List Nat} (hc : X.calm = true) (hN : X.N.Nodup) (hy : X.N[i]? = some y) (hyl : X.env.scope.names.lookup y = some .local)
    (hsw : swapsWith (.ListComp elt [⟨tg, iter, ifs, 0⟩] scope pos) (some (.Name y py)) spos.line X.env = pure true) (hi : DI X E tg iter w) (ok : BlkOk X.N X.env.scope scope own) (hws : ∀ i ∈ ws, i ∈ own.map (·.2))
    (hg : ∀ (s : Shared) (H : Hp) (C : Addr) (cl : List (Str × Addr)) (fp : List Addr), DG (X.blk s H scope (compEnvC scope cl C X.env) fp) tg g ws) (ht : ∀ (s : Shared) (H : Hp) (C : Addr) (cl : List (Str × Addr)) (fp : List Addr), DTs (X.blk s H scope (compEnvC scope cl C X.env) fp) E2 ifs tt)
    (he : ∀ (s : Shared) (H : Hp) (C : Addr) (cl : List (Str × Addr)) (fp : List Addr), DE (X.blk s H scope (compEnvC scope cl C X.env) fp) E2 elt te) (hs : ∀ x, foldedSetIterable iter X.env x = pure x := by intro _; rfl) :
    DSt X E (.Assign [.Name y py] (.ListComp elt [⟨tg, iter, ifs, 0⟩] scope pos) spos) (dSetF i (dRoF (dLC w g tt te (own.map (·.2))))) := ⟨fun B => ps_pick (fun B1 => ps_setLc hc hN hy hyl hsw (hi.run B1) ok (fun s H C cl fp => exG_ok (hg s H C cl fp)) (fun s H C cl fp => exT_ok (E := E2) (ht s H C cl fp)) (fun s H C cl fp => exE_ok (E := E2) (he s H C cl fp)) hs) fun Z σ H q => by
  obtain ⟨δ, S, W, N, R, q, xo, p1, _⟩ := q
  obtain ⟨S1, B1, e1, R1, back⟩ := R.ro
  refine ⟨B1, lc_read (E2 := E2) hws R1 q xok0 fun xs δ2 p vs S2 H2 q2 e2 R2 hp n2 => ?_⟩
  obtain ⟨S3, gg, g3⟩ := back δ2 S2 H2 e2 R2
  have e3 := gg.s
  have R3 := R.grow gg
  exact p1 _ _ _ _ q2.2 e3 (R3.setOwn hp (n2.solidsL g3 q2.1))⟩
end
end Ev
namespace Ev
open PySem PySem.Spec PyProof.Rows L2
variable [TabC]
variable {K : PySem.W.Frag} {S S' H H' : Hp} {B : Bs} {δ : DS} {σ : L2.St}
section
variable {X : Cx} {E : EK} {e a b c : Expr} {es : List Expr} {pos p p2 q : Pos} {da db : dE} {x : Str}
def dLenSet (d : dE) : dE := fun W δ Q => d W δ fun x δ1 => match x with
  | .lst ds => optQ (intsOf ds) fun ns => ns.Nodup ∧ ns.length ≤ 4000 ∧ Q (.int (ns.length : Nat)) δ1
  | _ => False
def sortDR (k : Bool) (ds : List D) : List D := ds.mergeSort (PySem.W.dataLe k D.py)
def dSrtR (k : Bool) (a : dA) : dF := fun W δ Q => a W δ fun xs δ1 => match xs with | [.lst ds] => srtOk ds ∧ Q (sortDR k ds) δ1 | _ => False
/-- a pen by its name: a list of one's own becomes the pen -/
def dPen1 (i : Nat) : dE := fun _ δ Q => match δ.sl[i]? with
  | some (.own xs) => (∃ (q : Nat) (ns : List Int), δ.sl[q]? = some (.law ns)) ∧ ∃ (ns : List Int) (k m : Int) (c : Nat), xs = penD ns k m ∧ ns.length ≤ 63 ∧ 0 ≤ k ∧ k ≤ c ∧ 0 ≤ m ∧ ∀ p, Q (.raw (.ref p)) { setSl δ i (.dat (.raw (.ref p))) with pen := some (p, c) }
  | some (.dat d) => Q d δ
  | _ => False
end
end Ev
namespace Ev
open PySem PySem.Spec PyProof.Rows L2
variable [TabC]
variable {K : PySem.W.Frag} {S S' H H' : Hp} {B : Bs} {δ : DS} {σ : L2.St}
section
variable {X : Cx} {E : EK} {e a b c : Expr} {es : List Expr} {pos p p2 q ap cp : Pos} {da db dd : dE} {x y : Str}
def maxI : Int → List Int → Int
  | m, [] => m
  | m, n :: ns => maxI (if n > m then n else m) ns
def minI : Int → List Int → Int
  | m, [] => m
  | m, n :: ns => minI (if n < m then n else m) ns
def rMaxD : DRC := fun xs Q => match xs with
  | [.int i, .int j] => Q (.int (if j > i then j else i))
  | [.lst ds] => optQ (intsOf ds) fun ns => match ns with | [] => False | n :: ns => Q (.int (maxI n ns))
  | _ => False
def rMinD : DRC := fun xs Q => match xs with
  | [.int i, .int j] => Q (.int (if j < i then j else i))
  | [.lst ds] => optQ (intsOf ds) fun ns => match ns with | [] => False | n :: ns => Q (.int (minI n ns))
  | _ => False
def dReverse (i : Nat) : dE := fun _ δ Q => optQ (ownAt δ i) fun ds => Q .non (setOwnAt δ i ds.reverse)
def dMove (i j : Nat) : dS := fun _ N δ => match δ.sl[i]?, δ.sl[j]? with
  | some _, some (.own ds) => i ≠ j ∧ N.nx { δ with sl := (δ.sl.set j .un).set i (.own ds) }
  | _, _ => False
def D.isD : D → Bool | .dK _ => true | .dT _ => true | .fK _ => true | .fT _ => true | _ => false
def getD2 : D → D → Option (Option D)
  | .dK es, y => y.key.map fun k => valD es k
  | .dT es, y => y.keyT.map fun k => valD es k
  | .fK es, y => y.key.map fun k => valD es k
  | .fT es, y => y.keyT.map fun k => valD es k
  | _, _ => none
def dDGet2 (d dk dx : dE) : dE := fun W δ Q => d W δ fun dd δ1 => dd.isD = true ∧ dk W δ1 fun y δ2 => dx W δ2 fun z δ3 => optQ (getD2 dd y) fun r => Q (r.getD z) δ3
def mergeD (kvs more : List (Key × D)) : List (Key × D) := more.foldl (fun acc kv => putD acc kv.1 kv.2) kvs
def pairsOf : List D → Option (List (Key × D))
  | [] => some []
  | .tup [k, v] :: r => match k.key, pairsOf r with | some kk, some l => some ((kk, v) :: l) | _, _ => none
  | _ :: _ => none
theorem KvR.merge : ∀ {more : List (Key × V)} {ms : List (Key × D)} {kvs : List (Key × V)} {es : List (Key × D)}, KvR K S more ms → KvR K S kvs es → KvR K S (mergeK kvs more) (mergeD es ms)
  | [], [], _, _, _, h => h
  | p :: ps, q :: qs, kvs, es, ⟨g1, g2⟩, h => by
    have e1 : p.1 = q.1 := (List.cons.inj g1).1
    cases g2 with
    | cons d1 d2 =>
      have hp : KvR K S (putK kvs p.1 p.2) (putD es q.1 q.2) := by rw [e1]; exact h.put d1 q.1
      exact KvR.merge (more := ps) (ms := qs) ⟨(List.cons.inj g1).2, d2⟩ hp
  | [], q :: qs, _, _, ⟨g1, _⟩, _ => nomatch g1
  | p :: ps, [], _, _, ⟨g1, _⟩, _ => nomatch g1
theorem pairs_read (sb : Sb S H) : ∀ {vs : List V} {ds : List D} {kvs : List (Key × D)}, DnA K S vs ds → pairsOf ds = some kvs → ∃ (ps : List Addr) (ks : List (Key × V)), vs = ps.map V.ref ∧ Paired (fun p kv => SqT K H p [kV kv.1, kv.2]) ps ks ∧ KvR K S ks kvs
  | _, _, _, .nil, e => by cases e; exact ⟨[], [], rfl, .nil, rfl, .nil⟩
  | _, _, _, .cons (d := .tup [k, x]) (ds := r) h a, e => by
    unfold pairsOf at e
    split at e
    · rename_i kk l e1 e2
      cases e
      obtain ⟨ps, ks, rfl, hp, hk⟩ := pairs_read sb a e2
      cases h with
      | tup h1 h2 =>
        obtain ⟨v1, v2, rfl, n1, n2⟩ := h2.two
        have := n1.key e1
        subst this
        exact ⟨_ :: ps, (kk, v2) :: ks, rfl, .cons (.inl (.inl (sb.ex _ _ h1))) hp, congrArg (kk :: ·) hk.1, .cons n2 hk.2⟩
    · cases e
  | _, _, _, .cons (d := .tup []) _ _, e => nomatch e
  | _, _, _, .cons (d := .tup [_]) _ _, e => nomatch e
  | _, _, _, .cons (d := .tup (_ :: _ :: _ :: _)) _ _, e => nomatch e
  | _, _, _, .cons (d := .non) _ _, e => nomatch e
  | _, _, _, .cons (d := .bl _) _ _, e => nomatch e
  | _, _, _, .cons (d := .int _) _ _, e => nomatch e
  | _, _, _, .cons (d := .str _) _ _, e => nomatch e
  | _, _, _, .cons (d := .lst _) _ _, e => nomatch e
  | _, _, _, .cons (d := .dK _) _ _, e => nomatch e
  | _, _, _, .cons (d := .dT _) _ _, e => nomatch e
  | _, _, _, .cons (d := .raw _) _ _, e => nomatch e
  | _, _, _, .cons (d := .scr _) _ _, e => nomatch e
  | _, _, _, .cons (d := .fn _ _) _ _, e => nomatch e
  | _, _, _, .cons (d := .kt _) _ _, e => nomatch e
def rDictP : DRC := fun xs Q => match xs with
  | [.lst ds] => optQ (pairsOf ds) fun kvs => Q (.dK (mergeD [] kvs))
  | _ => False
def dPairs : List (dE × dE) → XW → DS → (List (D × D) → DS → Prop) → Prop
  | [], _, δ, Q => Q [] δ
  | (k, v) :: r, W, δ, Q => k W δ fun x δ1 => v W δ1 fun y δ2 => dPairs r W δ2 fun ps δ3 => Q ((x, y) :: ps) δ3
def keysD : List (D × D) → Option (List (Key × D))
  | [] => some []
  | (k, v) :: r => match k.key, keysD r with | some kk, some l => some ((kk, v) :: l) | _, _ => none
def dDisp (prs : List (dE × dE)) : dE := fun W δ Q => dPairs prs W0 (roD δ) fun ps _ => optQ (keysD ps) fun kvs => kvs.length ≤ 15 ∧ (∀ kv ∈ kvs, kv.2.solid = true) ∧ Q (.dK (mergeD [] kvs)) δ
def liftX (K : PySem.W.Frag) (E : EK) (d : dE) : TE := fun σ H Q => ∃ B, liftE K B E d σ H Q
theorem DE.runX (h : DE X E e da) : PE X e (liftX X.K E da) := ⟨fun pins s σ H Q I ⟨B, q⟩ => (h.run B).run pins s σ H Q I q⟩
theorem KvR.solid {ks : List (Key × V)} {kvs : List (Key × D)} (g : ∀ b vs, S b = some (.tup vs) → S' b = some (.tup vs)) (h : KvR K S ks kvs) (f : ∀ kv ∈ kvs, kv.2.solid = true) : KvR K S' ks kvs :=
  ⟨h.1, h.2.solidsL g fun d hd => by obtain ⟨kv, hkv, rfl⟩ := List.mem_map.mp hd; exact f kv hkv⟩
end
end Ev
namespace Ev
open PySem PySem.Spec PyProof.Rows L2
variable [TabC]
section
variable {prog : Program} {w : World} {A : Around} {E : Value → Shared → Prop} {s : Shared}
/-- what is left of a tuple's iterator, collected: the heap is not smaller behind -/
theorem collect_tupIter {I : Addr} {fp wr : List Addr} {G : Array GenState → Array GenState → Prop} {n : Nat} {P : Nat → Value → Prop} {St : Nat → Shared → Prop} {Q : List Value → Shared → Prop}
    (W : WalksS prog w A.in1 I fp wr G n P St) (hT : ∀ i s, St i s → s.TypeIs (.ref I) "tuple_iterator") (hst : St 0 s) (hfp : ∀ b ∈ fp, b < s.heap.objs.size) (hI : I ∈ fp)
    (hQ : ∀ s' acc, Moved wr G s s' → s.heap.objs.size ≤ s'.heap.objs.size → ItemsOf P acc n → Q acc.toList s') (hn : n ≤ sizeLine) : wpAny (model prog w) A (collect (.ref I)) Q E s := by
  have hSf : s.heap.objs.size ∉ fp := fun hm => Nat.lt_irrefl _ (hfp _ hm)
  have hSI : s.heap.objs.size ≠ I := fun e => hSf (e ▸ hI)
  unfold collect
  refine wpAny_bind (wpAny_runValue (codeAny_builtin PySem.F.entry_proto_collect ?_))
  rw [Around.under_plainId PySem.F.plain_proto_collect _]
  show wpAny _ A.in1 (newList [] >>= fun l => again (.builtin "list.__iadd__" ⟨[l, .ref I], []⟩)) _ _ s
  refine wpAny_bind (wpAny_newObj_type ?_)
  refine wpAny_pure ⟨plainId_quiet PySem.F.plain_list_iadd _, codeAny_builtin PySem.F.entry_list_iadd ?_⟩
  rw [Around.under_plainId PySem.F.plain_list_iadd _]
  have hst₁ := W.frame 0 s (s.heap.push { cls := .type "list", data := .seq ([] : List Value).toArray }) s.toks hst (Nat.le_refl _) fun b _ o e => Heap.get?_push_of_some _ e
  have hS₁ : (s.heap.push { cls := .type "list", data := .seq ([] : List Value).toArray }).get? s.heap.objs.size = some { cls := .type "list", data := .seq ([] : List Value).toArray } := Heap.get?_push_size _ rfl
  have h1 : Builtin.List.listSameRef (.ref s.heap.objs.size) (.ref I) = false := by simp [Builtin.List.listSameRef, hSI]
  show wpAny _ A.in1 (Builtin.List.listExtendWith (.ref s.heap.objs.size) (.ref I) (.ref s.heap.objs.size)) _ _ _
  unfold Builtin.List.listExtendWith
  refine wpAny_bind (wpAny_typeOf (hT 0 _ hst₁) ?_)
  rw [if_neg (by rw [h1]; decide)]
  refine wpAny_bind (W.self 0 _ _ _ hst₁ ?_)
  refine wpAny_bind (wpAny_holding ?_)
  unfold Builtin.List.listLengthHint
  refine wpAny_bind (wpAny_specialOf (hT 0 _ hst₁) PySem.F.nolen_tu ?_)
  show wpAny _ A.in1 (specialOf (Value.ref I) (Str.ofString "__length_hint__") >>= _) _ _ _
  refine wpAny_bind (wpAny_specialOf (hT 0 _ hst₁) PySem.F.hint_tu ?_)
  generalize hid : ("tuple_iterator.__length_hint__" : String) = id0; (fail_if_success (clear hid id0)); wp_delta; rw [show splitId id0 = some ("tuple_iterator", "__length_hint__") from by subst hid; decide +kernel]; subst hid
  refine wpAny_bind (wpAny_isInstance (b := true) (hT 0 _ hst₁) (by rw [isSubtype_type]; kernel_rfl) ?_)
  refine wpAny_pure ?_
  rw [if_neg (by decide)]
  refine wpAny_pure ⟨plainId_quiet PySem.F.plain_extend_loop _, codeAny_extend_loopS W hn _ hSf _ n 0 _ _ _ rfl (Nat.zero_le _) hst₁ hS₁ (ItemsOf.nil P) fun s' acc' c' hm hS' hacc => ?_⟩
  show wpAny _ A (load s.heap.objs.size >>= _) _ _ s'
  refine wpAny_bind (wpAny_load hS' ?_)
  exact wpAny_pure (hQ s' acc' (Moved.drop_new (o := { cls := .type "list", data := .seq ([] : List Value).toArray }) (tk := s.toks) hm (Nat.le_refl _)) (Nat.le_of_lt (Heap.lt_size hS')) hacc)
theorem star_tuple {l : Addr} {items : Array Value} {n i : Nat} {Q : List Value → Shared → Prop} (hl : IsTup s.heap l items) (hh : A.handled = none) (hi : i < n) (hn : n ≤ items.size + 1) (hz : items.size ≤ 16384)
    (h : ∀ D h' tk nn, (∀ b o, s.heap.get? b = some o → h'.get? b = some o) → s.heap.objs.size ≤ D → h'.get? D = some (seqObj "list" ((items.toList.drop i).take (items.size + 1 - n)).toArray nn) →
      Q (items.toList.take i ++ [.ref D] ++ (items.toList.drop i).drop (items.size + 1 - n)) { s with heap := h', toks := tk }) : wpAny (model prog w) A (unpackItems (.ref l) n (some i)) Q E s := by
  have hlt : l ≠ s.heap.objs.size := by obtain ⟨o, ho, _⟩ := hl; exact Nat.ne_of_lt (Heap.lt_size ho)
  have hll : l < s.heap.objs.size := by obtain ⟨o, ho, _⟩ := hl; exact Heap.lt_size ho
  unfold unpackItems
  refine wpAny_bind ?_
  unfold notIterableAtAll
  refine wpAny_bind (wpAny_specialOf hl.typeIs PyProof.Rows.slot_tuple_iter.lookup ?_)
  refine wpAny_pure ?_
  simp only [Bool.false_eq_true, if_false]
  refine wpAny_bind (wpAny_holding (iter_tuple hl ?_))
  refine wpAny_bind (wpAny_holding (draw_tuple hlt i 0 _ _ ⟨_, Heap.get?_push_size _ rfl, rfl, rfl⟩ (hl.push _) (by omega) fun h₁ hit₁ hs₁ => ?_))
  have hl₁ : IsTup h₁ l items := (hl.push _).extBut hs₁.extBut hlt
  rw [Nat.zero_add] at hit₁
  have hit₁' := hit₁
  obtain ⟨oi, hoi, _⟩ := hit₁'
  have hl₁' := hl₁
  obtain ⟨ol, hol, _⟩ := hl₁'
  rw [List.drop_zero]
  have hfl : (items.toList.take i).length = i := by rw [List.length_take, Array.length_toList]; omega
  rw [if_neg (show ¬ ((items.toList.take i).length < i) by rw [hfl]; omega)]
  have hI2 : s.heap.objs.size < h₁.objs.size := Heap.lt_size hoi
  have WS := (PySem.W.kun_shift (Walks.tuple (prog := prog) (w := w) (A := A.in1) hh s.heap.objs.size l hlt items) (k := i) (by omega)).toS
  refine wpAny_bind (wpAny_holding (collect_tupIter (s := { s with heap := h₁ }) WS (fun j u st => st.1.typeIs) ⟨hit₁, hl₁⟩ (fun b hb => ?_) (List.mem_cons_self ..) (fun s' acc hm hsz ha => ?_) (by rw [sizeLine_eq]; omega)))
  · rcases List.mem_cons.mp hb with rfl | hb
    · exact hI2
    · rw [List.mem_singleton.mp hb]; exact Heap.lt_size hol
  obtain ⟨h₂, g', d', tk, o'⟩ := s'
  obtain ⟨m1, m2, m3, m4, _⟩ := hm
  have m2 : g' = s.gens := m2
  have m3 : d' = s.drawn := m3
  have m4 : o' = s.os := m4
  subst m2 m3 m4
  rw [PySem.W.kun_acc (by omega) ha]
  have hk : ∀ b o, b ≠ s.heap.objs.size → h₁.get? b = some o → h₂.get? b = some o := fun b o hb e => m1 b o (by simpa using hb) e
  have hrl : (items.toList.drop i).length = items.size - i := by rw [List.length_drop, Array.length_toList]
  have hmid : (items.toList.drop i).length - (n - 1 - i) = items.size + 1 - n := by rw [hrl]; omega
  show wpAny _ _ (if (items.toList.drop i).length < n - 1 - i then _ else _) _ _ _
  rw [if_neg (by rw [hrl]; omega)]
  show wpAny _ _ (newList ((items.toList.drop i).take ((items.toList.drop i).length - (n - 1 - i))) >>= fun d => pure (items.toList.take i ++ [d] ++ (items.toList.drop i).drop ((items.toList.drop i).length - (n - 1 - i)))) _ _ _
  rw [hmid]
  have he : ∀ b o, s.heap.get? b = some o → h₂.get? b = some o := fun b o e => by
    have hb : b ≠ s.heap.objs.size := Nat.ne_of_lt (Heap.lt_size e)
    exact hk b o hb (hs₁.extBut b o hb (Heap.get?_push_of_some _ e))
  have hz2 : s.heap.objs.size ≤ h₂.objs.size := Nat.le_trans (Nat.le_of_lt hI2) hsz
  refine wpAny_bind (wpAny_newList (wpAny_pure (h h₂.objs.size _ tk 0 (fun b o e => Heap.get?_push_of_some _ (he b o e)) hz2 (Heap.get?_push_size _ rfl))) ?_)
  rw [List.length_take, hrl, sizeLine_eq]; omega
end
section
variable {X : Cx} {e : Expr} {es : List Expr} {pos p : Pos}
theorem vals_take {vs : List V} {us : List Value} (r : Vals vs us) : ∀ n, Vals (vs.take n) (us.take n) := fun n => by
  induction r generalizing n with
  | nil => rw [List.take_nil, List.take_nil]; exact .nil
  | cons h _ ih =>
    cases n with
    | zero => exact .nil
    | succ n => exact .cons h (ih n)
theorem vals_drop {vs : List V} {us : List Value} (r : Vals vs us) : ∀ n, Vals (vs.drop n) (us.drop n) := fun n => by
  induction r generalizing n with
  | nil => rw [List.drop_nil, List.drop_nil]; exact .nil
  | cons h t ih =>
    cases n with
    | zero => exact .cons h t
    | succ n => exact ih n
/-- (a, .., *b, .., c) = a tuple of n - 1 items at least, the star at i -/
def gStar (K : PySem.W.Frag) (n i : Nat) (t : TGs) : TG := fun v σ H Q => ∃ a xs, v = .ref a ∧ SqT K H a xs ∧ i < n ∧ n ≤ xs.length + 1 ∧ xs.length ≤ 16384 ∧
  ∀ p, H p = none → t (xs.take i ++ [.ref p] ++ (xs.drop i).drop (xs.length + 1 - n)) σ (upd H p (.lst ((xs.drop i).take (xs.length + 1 - n)))) Q
theorem pg_star {k : Nat} {t : TGs} {n i : Nat} (hc : X.calm = true) (h : PGs X es t) (hn : (assignEach es X.env).length = n := by rfl) (hst : (assignEach es X.env).findIdx? (·.1) = some i := by rfl) : PG X (.Tuple es k pos) (gStar X.K n i t) := by
  refine ⟨fun pins s σ H v u Q I r hw => ?_⟩
  obtain ⟨a, xs, e1, hq, h1, h2, h3, hw⟩ := hw
  subst e1
  cases r
  obtain ⟨its, rv, ht, hz⟩ := I.tuple hq
  have hl : its.length = xs.length := rv.length.symm
  rw [assign_Tuple]
  refine wpAny_bind (wpAny_standAt ?_)
  unfold unpack
  rw [hn, hst]
  refine wpAny_bind (wpAny_holding (star_tuple ht (I.ok.hd hc) h1 (by rw [List.size_toArray, hl]; exact h2) (by rw [List.size_toArray, hl]; exact h3) fun D h' tk nn kp sz at_ => ?_))
  have e2 : its.toArray.size + 1 - n = xs.length + 1 - n := by rw [List.size_toArray, hl]
  rw [e2] at at_ ⊢
  have I1 : Inv X pins σ (upd H D (.lst ((xs.drop i).take (xs.length + 1 - n)))) { s with heap := h', toks := tk } := I.laid (t' := tk) kp sz ⟨by rw [List.length_take, List.length_drop]; omega, _, nn, vals_take (vals_drop rv i) _, at_⟩
  refine h.run pins _ σ _ _ _ Q I1 (((vals_take rv i).append (show Vals [V.ref D] [Value.ref D] from .cons rfl .nil)).append (vals_drop (vals_drop rv i) _)) (hw D (I.hok.fresh sz))
theorem pgs_star {t : TG} {u : TGs} (h1 : PG X e t) (h2 : PGs X es u) (hs : (assignEach (.Starred e p :: es) X.env).map (·.2) = assign e X.env :: (assignEach es X.env).map (·.2) := by rfl) : PGs X (.Starred e p :: es) (gCons t u) := by
  refine ⟨fun pins s σ H vs us Q I r h => ?_⟩
  obtain ⟨v, vr, e1, h⟩ := h
  subst e1
  cases r with
  | cons r rr =>
    rw [hs]
    refine assignInOrder_cons (thn (h1.run pins s σ H _ _ _ I r h) fun _ s1 ⟨σ1, H1, I1, q1⟩ => ?_)
    exact h2.run pins s1 σ1 H1 _ _ Q I1 rr q1
theorem dgs_star {g : dG} {r : dGs} {vs ws : List Nat} (h1 : DG X e g vs) (h2 : DGs X es r ws) (hs : (assignEach (.Starred e p :: es) X.env).map (·.2) = assign e X.env :: (assignEach es X.env).map (·.2) := by rfl) : DGs X (.Starred e p :: es) (gsCons g r) (vs ++ ws) :=
  ⟨fun B => ⟨fun pins s σ H us uu Q I rr q => (pgs_star (h1.run B) (h2.run B) hs).run pins s σ H us uu Q I rr (by
    obtain ⟨δ, S, ds, Q', R, n, q, post⟩ := q
    cases n with
    | nil => exact q.elim
    | cons n ns =>
      refine ⟨_, _, rfl, δ, S, _, _, R, n, q, fun δ1 σ1 S1 H1 q1 e1 R1 a1 l1 => ?_⟩
      refine ⟨δ1, S1, _, _, R1, ns.mono e1, q1, fun δ2 σ2 S2 H2 q2 e2 R2 a2 l2 => post _ _ _ _ q2 (e1.trans e2) R2 (fun i hi => ?_) (l2.trans l1)⟩
      rw [a2 i (fun z => hi (by simp [z])), a1 i (fun z => hi (by simp [z]))])⟩⟩
/-- the star's items are a list that is frozen -/
def gStarD (n i : Nat) (r : dGs) : dG := fun d δ Q => match d with
  | .tup ds => n ≤ ds.length + 1 ∧ ds.length ≤ 16384 ∧ r (ds.take i ++ [.lst ((ds.drop i).take (ds.length + 1 - n))] ++ (ds.drop i).drop (ds.length + 1 - n)) δ Q
  | _ => False
theorem dg_star {k : Nat} {r : dGs} {n i : Nat} {vs : List Nat} (hc : X.calm = true) (hi : i < n) (h : DGs X es r vs) (hn : (assignEach es X.env).length = n := by rfl) (hst : (assignEach es X.env).findIdx? (·.1) = some i := by rfl) :
    DG X (.Tuple es k pos) (gStarD n i r) vs := ⟨fun B => ⟨fun pins s σ H v u Q I rv q => (pg_star hc (h.run B) hn hst).run pins s σ H v u Q I rv (by
    obtain ⟨δ, S, d, Q', R, dn, q, post⟩ := q
    cases d with
    | tup ds =>
      cases dn with
      | @tup a vs0 _ hq ha =>
        have hl := ha.length
        refine ⟨_, _, rfl, SqT.of (R.ex _ _ hq), hi, by rw [hl]; exact q.1, by rw [hl]; exact q.2.1, fun p hp => ?_⟩
        rw [hl]
        have g := Grow.new (o := .lst ((List.drop i vs0).take (ds.length + 1 - n))) R.ex hp
        have ha2 := ha.mono g.s
        refine ⟨δ, _, _, Q', R.grow g, ((ha2.take i).append (.cons (.lst upd_same ((ha2.drop i).take _)) .nil)).append ((ha2.drop i).drop _), q.2.2, fun δ' σ' S' H' q1 e1 R1 a1 l1 => post _ _ _ _ q1 (g.s.trans e1) R1 a1 l1⟩
    | _ => exact q.elim)⟩⟩
end
end Ev
namespace Ev
open PySem PySem.Spec PyProof.Rows L2
variable [TabC]
variable {K : PySem.W.Frag} {S S' H H' : Hp} {B : Bs} {δ : DS} {σ : L2.St}
section
variable {X : Cx} {E : EK} {e tg : Expr} {pos p : Pos} {x : Str} {da : dE}
def dLock (i : Nat) : dE := fun _ δ Q => match δ.sl[i]? with
  | some (.ownT es) => Q (.fT es) (setSl δ i (.dat (.fT es)))
  | some (.ownK es) => Q (.fK es) (setSl δ i (.dat (.fK es)))
  | some (.dat d) => Q d δ
  | _ => False
def keyDK (es : List (Key × D)) : List D := es.map fun e => kD e.1
def dKeysI (d : dE) : dI := fun W δ Q => d W δ fun x δ' => match x with | .fT es => Q (keyD es) δ' | .fK es => Q (keyDK es) δ' | _ => False
end
end Ev
namespace Ev
open PySem PySem.Spec PyProof.Rows L2
variable [TabC]
abbrev TB := L2.St → Hp → (Hp → Prop) → Prop
end Ev
namespace Ev
open PySem PySem.Spec PyProof.Rows L2
variable [TabC]
variable {S S' H H' : Hp} {B : Bs} {δ : DS} {σ : L2.St}
abbrev dBd (α : Type) := α → DS → (α → DS → Prop) → Prop
def bEl (te : dE) : dBd (List D) := fun acc δ Q => te W0 δ fun y δ' => acc.length < sizeLine ∧ Q (acc ++ [y]) δ'
def bEd (tk tv : dE) : dBd (List (Key × D)) := fun acc δ Q => tk W0 δ fun y δ1 => tv W0 δ1 fun z δ2 => optQ y.key fun k => acc.length < sizeLine ∧ Q (putD acc k z) δ2
def wNest {α : Type} (g : dG) (tt : dT) (b : dBd α) (vs : List Nat) (Q : α → DS → Prop) : List D → α → DS → Prop
  | [], acc, δ => Q acc δ
  | d :: ds, acc, δ => g d δ fun δ1 => tt W0 δ1 fun k δ2 => match k with
    | true => b acc δ2 fun acc' δ3 => wNest g tt b vs Q ds acc' (wipeD δ3 vs)
    | false => wNest g tt b vs Q ds acc (wipeD δ2 vs)
def bNest {α : Type} (w : dI) (g : dG) (tt : dT) (b : dBd α) (vs : List Nat) : dBd α := fun acc δ Q => w W0 δ fun ds δ1 => wNest g tt b vs Q ds acc (wipeD δ1 vs)
def dLN (w : dI) (g : dG) (tt : dT) (b : dBd (List D)) (vs : List Nat) : dF := fun W δ Q => w W δ fun ds δ1 => wNest g tt b vs Q ds [] (wipeD δ1 vs)
def dDN (w : dI) (g : dG) (tt : dT) (b : dBd (List (Key × D))) (vs : List Nat) : dE := fun W δ Q => w W δ fun ds δ1 => wNest g tt b vs (fun es δ2 => Q (.dK es) δ2) ds [] (wipeD δ1 vs)
end Ev
namespace Ev
open PySem PySem.Spec PyProof.Rows L2
variable [TabC]
mutual
def D.nf : D → Bool
  | .fn _ _ => false
  | .tup xs => D.nfs xs
  | .kt xs => D.nfs xs
  | .lst xs => D.nfs xs
  | .dK es => D.nfk es
  | .dT es => D.nft es
  | .fK es => D.nfk es
  | .fT es => D.nft es
  | .fN _ => false
  | .exc _ _ _ => false
  | .exc0 _ => false
  | _ => true
def D.nfs : List D → Bool
  | [] => true
  | x :: xs => x.nf && D.nfs xs
def D.nfk : List (Key × D) → Bool
  | [] => true
  | (_, x) :: xs => x.nf && D.nfk xs
def D.nft : List (List Key × D) → Bool
  | [] => true
  | (_, x) :: xs => x.nf && D.nft xs
end
theorem nfk_map : ∀ es : List (Key × D), D.nfk es = D.nfs (es.map (·.2))
  | [] => rfl
  | (_, x) :: es => by show (x.nf && D.nfk es) = (x.nf && D.nfs (es.map (·.2))); rw [nfk_map es]
theorem nft_map : ∀ es : List (List Key × D), D.nft es = D.nfs (es.map (·.2))
  | [] => rfl
  | (_, x) :: es => by show (x.nf && D.nft es) = (x.nf && D.nfs (es.map (·.2))); rw [nft_map es]
variable {K : PySem.W.Frag} {S S' H H' : Hp} {B : Bs} {δ : DS} {σ : L2.St}
def NX (S S' : Hp) : Prop := ∀ b o, S b = some o → (∀ φ, o ≠ .ext φ) → S' b = some o
mutual
theorem Dn.nf (g : NX S S') : ∀ {v : V} {d : D}, Dn K S v d → d.nf = true → Dn K S' v d
  | _, _, .non, _ => .non
  | _, _, .bl _, _ => .bl _
  | _, _, .int _, _ => .int _
  | _, _, .str _, _ => .str _
  | _, _, .raw _, _ => .raw _
  | _, _, .scr h, _ => .scr (by
      rcases h with (h | ⟨o, h⟩) | h
      · exact .inl (.inl (g _ _ h fun _ z => nomatch z))
      · exact .inl (.inr ⟨o, g _ _ h fun _ z => nomatch z⟩)
      · exact .inr h)
  | _, _, .kt h a, f => .kt (by
      rcases h with h | ⟨o, h1, h2⟩
      · exact .inl h
      · exact .inr ⟨o, h1, g _ _ h2 fun _ z => nomatch z⟩) (DnA.nf g a f)
  | _, _, .tup h a, f => .tup (g _ _ h fun _ z => nomatch z) (DnA.nf g a f)
  | _, _, .lst h a, f => .lst (g _ _ h fun _ z => nomatch z) (DnA.nf g a f)
  | _, _, .dK h k a, f => .dK (g _ _ h fun _ z => nomatch z) k (DnA.nf g a (by rw [← nfk_map]; exact f))
  | _, _, .dT h k a, f => .dT (g _ _ h fun _ z => nomatch z) k (DnA.nf g a (by rw [← nft_map]; exact f))
  | _, _, .fK h k a, f => .fK (g _ _ h fun _ z => nomatch z) k (DnA.nf g a (by rw [← nfk_map]; exact f))
  | _, _, .fT h k a, f => .fT (g _ _ h fun _ z => nomatch z) k (DnA.nf g a (by rw [← nft_map]; exact f))
  | _, _, .fn _ _ _ _ _ _ _, f => absurd f (by intro z; cases z)
  | _, _, .fN _ _ _, f => absurd f (by intro z; cases z)
  | _, _, .exc _ _ _, f => absurd f (by intro z; cases z)
  | _, _, .exc0 _, f => absurd f (by intro z; cases z)
theorem DnA.nf (g : NX S S') : ∀ {vs : List V} {ds : List D}, DnA K S vs ds → D.nfs ds = true → DnA K S' vs ds
  | _, _, .nil, _ => .nil
  | _, _, .cons h a, f => by
    have f' := (Bool.and_eq_true _ _).mp (show (_ && _) = true from f)
    exact .cons (Dn.nf g h f'.1) (DnA.nf g a f'.2)
end
end Ev
namespace Ev
open PySem PySem.Spec PyProof.Rows L2
variable [TabC]
variable {K : PySem.W.Frag} {S S' H H' : Hp} {B : Bs} {δ : DS} {σ : L2.St}
/-- what is promised of the lambda of the number k, n parameters: of what it captured and its arguments -/
structure LamD (P : Program) (w : World) (K : PySem.W.Frag) (mg : Str → Option Value) (base : Heap) (j k n : Nat) (sp : List D → dSp) : Prop where
  run : ∀ (A : Around) (out : List Env) (s : Shared) (S H : Hp) (a : Addr) (ds xs : List D) (vs : List V) (us : List Value) (p : Pen) (Q : VK) (Q' : D → Pen → Prop), A.guards = some [] → Room j A → Env0 P w K mg base A out s H → Sb S H → PenOk S H p → Dn K S (.ref a) (.fn k ds) → D.nfs ds = true → Vals vs us →
    DnA K S vs xs → D.nfs xs = true → xs.length = n → sp ds xs p Q' (fun _ _ => False) → (∀ x p' v S' H', Q' x p' → Fin S H S' H' p p' → Dn K S' v x → Q v H') → codeAny (model P w) A (.call (.ref a) ⟨us, []⟩) (CR CX0 out P w H s Q (fun _ _ _ => False)) s
section
variable {P : Program} {w : World} {mg : Str → Option Value} {base : Heap} {N ps : List Str} {l : Lam} {j k : Nat}
theorem DnA.len {vs : List V} {ds : List D} (h : DnA K S vs ds) : vs.length = ds.length := h.length
end
end Ev
namespace Ev
open PySem PySem.Spec PyProof.Rows L2
variable [TabC]
variable {K : PySem.W.Frag} {S S' H H' : Hp} {B : Bs} {δ : DS} {σ : L2.St}
section
variable {X : Cx} {E : EK} {x : Str} {p pos lpos : Pos} {e : Expr} {es : List Expr} {j m n i : Nat} {LT : Nat → Option (List D → dSp)} {ta : dA}
/-- name(..), name a lambda -/
def dCallV (i n : Nat) (LT : Nat → Option (List D → dSp)) (a : dA) : dE := fun W δ Q => match δ.sl[i]? with
  | some (.dat (.fn k ds)) => optQ (LT k) fun sp => D.nfs ds = true ∧ a W δ fun xs δ1 => D.nfs xs = true ∧ xs.length = n ∧ sp ds xs δ1.pen (fun x p' => Q x { δ1 with pen := p' }) fun _ _ => False
  | _ => False
/-- data in slots -/
def capsD (δ : DS) : List Nat → Option (List D)
  | [] => some []
  | i :: is => match δ.sl[i]?, capsD δ is with
    | some (.dat d), some ds => some (d :: ds)
    | _, _ => none
def dCallLam (n : Nat) (sp : dSp) (k : Nat) (idx : List Nat) (a : dA) : dE := fun W δ Q => a W δ fun xs δ1 => optQ (capsD δ1 idx) fun ds => D.nfs ds = true ∧ (xs ++ [D.fn k ds]).length = n ∧ sp (xs ++ [D.fn k ds]) δ1.pen (fun x p' => x.nf = true ∧ Q x { δ1 with pen := p' }) fun _ _ => False
end
end Ev
namespace Ev
open PySem PySem.Spec PyProof.Rows L2
variable [TabC]
variable {K : PySem.W.Frag} {S S' H H' : Hp} {B : Bs} {δ : DS} {σ : L2.St}
section
variable {h : Heap} {cs : List Addr} {c : Addr} {q : Str} {p p' : Pen}
structure PlusOk (h : Heap) (S H : Hp) (cs : List Addr) (c : Addr) (q : Str) : Prop where
  sb : Sb S H
  hn : ∀ b ∈ cs, H b = none
  ho : ∀ b ∈ cs, ∃ o, h.get? b = some o
  hc : H c = some (LamX.CodeO c q)
theorem PlusOk.out (o : PlusOk h S H cs c q) {b : Addr} {u : HO} (e : H b = some u) : b ∉ cs := fun z => by rw [o.hn b z] at e; cases e
end
end Ev
namespace Ev
open PySem PySem.Spec PyProof.Rows L2
/-- the script, the tables: what is known at the law's start -/
theorem law_gT {P : Program} {w : World} {K : PySem.W.Frag} {mg mb : Str → Option Value} {CX : CXT} {k : Nat} {fa a : Addr} {cs : List (Addr × Addr)} {fd : FuncData} {x : Str} {sp : Sp} {s : Shared} {vs : List Value} {ns : List Int} (KX : K.In s.heap) (hns : s.heap.Ns mainGlobals mg) (hb : s.heap.Ns builtinsNs mb)
    (hbb : ∀ x : Str, x ≠ "__name__" → mb x = bootBuiltins x) (hlim : s.heap.NoLimit) (hg : s.gens = #[]) (hT : ∀ p ∈ cs, PySem.W.CodeHd s.heap p.1 p.2 ∧ s.heap.get? p.2 = some (PySem.W.tabObj #[])) (nT : ∀ p ∈ cs, K.lookup p.2 = none)
    (hbm : ∃ (bm : Addr) (ob : Obj), mg "__builtins__" = some (.ref bm) ∧ bm ≠ builtinsNs ∧ s.heap.get? bm = some ob ∧ ob.cls = .type "module" ∧ ob.dict = some builtinsNs ∧ ob.data = .plain)
    (ha : s.heap.get? a = some { cls := .type "list", data := .seq vs.toArray }) (hi : IntsAre vs ns) (hl : ns.length ≤ sizeLine) (hr : Room k callerA)
    (F : ∀ base : Heap, K.In base → base.Ns mainGlobals mg → (∀ p ∈ cs, LamX.TabB base mg p.1 p.2) → FnG P w K mg base CX k fa fd [x] sp) (hbind : ∀ (s : Shared) (u : Value), BindsTo s fd ⟨[u], []⟩ [(x, u)])
    (hsp : ∀ H : Hp, (∀ p ∈ cs, H p.2 = some (.tbl #[])) → SqL K H a (ns.map V.int) → sp [.ref a] H (fun v _ => v = .bl true) fun _ _ _ => False) (hCX : ∀ H e s', CX [] H s (fun _ _ _ => False) e s' → False) :
    codeAny (model P w) callerA (.call (.ref fa) ⟨[.ref a], []⟩) (fun r s' => r = .ok (.ret (.bool true)) ∧ OldK s.heap s'.heap ∧ s'.os = s.os ∧ AllBare s'.gens) s := by
  have rv := vals_ints hi
  let tabs := cs.map (·.2)
  have isT : ∀ b ∈ tabs, s.heap.get? b = some (PySem.W.tabObj #[]) := fun b hb => by
    obtain ⟨p, hp, e⟩ := List.mem_map.mp hb
    have e : p.2 = b := e
    rw [← e]; exact (hT p hp).2
  have memT : ∀ p ∈ cs, p.2 ∈ tabs := fun p hp => List.mem_map.mpr ⟨p, hp, rfl⟩
  have aT : a ∉ tabs := fun z => by
    have q := isT a z
    rw [ha] at q; cases q
  -- H knows at most the script, locked, and the tables, empty
  have core : ∀ H : Hp, (∀ b u, H b = some u → (b = a ∧ K.lookup a = none ∧ u = .frz { cls := .type "list", data := .seq vs.toArray } (.lst (ns.map V.int))) ∨ (b ∈ tabs ∧ u = .tbl #[])) → (∀ b ∈ tabs, H b = some (.tbl #[])) → SqL K H a (ns.map V.int) →
      codeAny (model P w) callerA (.call (.ref fa) ⟨[.ref a], []⟩) (fun r s' => r = .ok (.ret (.bool true)) ∧ OldK s.heap s'.heap ∧ s'.os = s.os ∧ AllBare s'.gens) s := by
    intro H hH hHT hS
    have ok : HOk P w H s.heap := fun b u e => by
      rcases hH b u e with ⟨rfl, _, rfl⟩ | ⟨hb, rfl⟩
      · exact ⟨ha, by rw [List.length_map]; exact hl, vs, _, rv, ha⟩
      · exact isT b hb
    have free : ∀ {b : Addr} {o : Obj}, s.heap.get? b = some o → (∀ vs n, o.data ≠ .seq vs n) → o.data ≠ .fields #[] → H b = none := fun {b o} e n1 n2 => by
      cases q : H b with
      | none => rfl
      | some u =>
        rcases hH b u q with ⟨rfl, _, _⟩ | ⟨hb, _⟩
        · rw [ha] at e; cases e; exact absurd rfl (n1 _ _)
        · rw [isT b hb] at e; cases e; exact absurd rfl n2
    have ns_of : ∀ {b : Addr} {m : Str → Option Value}, s.heap.Ns b m → (hidT s.heap H).Ns b m := fun ⟨o, es, ep, e, d, r⟩ => ⟨o, es, ep, hidT_get e (free e (fun _ _ z => by rw [d] at z; cases z) fun z => by rw [d] at z; cases z), d, r⟩
    have kin : K.In (hidT s.heap H) := fun b o e => hidT_get (KX b o e) (by
      cases q : H b with
      | none => rfl
      | some u =>
        rcases hH b u q with ⟨rfl, z, _⟩ | ⟨hb, _⟩
        · rw [z] at e; cases e
        · obtain ⟨p, hp, ep⟩ := List.mem_map.mp hb
          have ep : p.2 = b := ep
          rw [← ep, nT p hp] at e; cases e)
    have TB : ∀ p ∈ cs, LamX.TabB (hidT s.heap H) mg p.1 p.2 := fun p hp => by
      have hTp := (hT p hp).2
      refine ⟨?_, ?_, fun z => ?_⟩
      · obtain ⟨o, us, file, tf, flags, tg, inF, text, tt, e1, r1, r2, r3, r4⟩ := (hT p hp).1
        exact ⟨o, us, file, tf, flags, tg, inF, text, tt, hidT_get e1 (free e1 (fun _ _ z => by rw [r2] at z; cases z) fun z => by rw [r2] at z; cases z; simp at r3), r1, r2, r3, r4⟩
      · obtain ⟨bm, ob, b1, b2, b3, b4, b5, b6⟩ := hbm
        refine ⟨bm, ob, b1, b2, fun q => ?_, fun q => ?_, hidT_get b3 (free b3 (fun _ _ z => by rw [b6] at z; cases z) fun z => by rw [b6] at z; cases z), b4, b5, b6⟩
        · obtain ⟨o, es, ep, e, hd, _⟩ := hns
          rw [q, e] at b3; cases b3; rw [hd] at b6; cases b6
        · rw [q, hTp] at b3; cases b3; cases b6
      · obtain ⟨o, es, ep, e, hd, _⟩ := hns
        rw [z, hTp] at e; cases e; cases hd
    obtain ⟨mc, l1, l2⟩ := hlim
    have e0 : Env0 P w K mg (hidT s.heap H) callerA [] s H := ⟨rfl, ⟨kin, ns_of hns, ⟨mb, ns_of hb, hbb⟩, ⟨mc, ns_of l1, l2⟩⟩, fun b o e => of_hidT e, Nat.le_of_eq (hidT_size _ _), trivial, fun b z => (List.not_mem_nil z).elim, ok, .of_eq hg⟩
    refine codeAny_mono ((F _ kin (ns_of hns) TB).run callerA [] s H ⟨[.ref a], []⟩ [.ref a] [.ref a] _ _ rfl hr e0 (hbind s (.ref a)) (.cons rfl .nil) (hsp H (fun p hp => hHT _ (memT p hp)) hS)) fun r s' h => ?_
    match r, h with
    | .error e, h => exact (hCX H e s' h).elim
    | .ok (.ret u), ⟨v, H', os, bare, un, ok', rr, q⟩ =>
      subst q
      cases (show u = Value.bool true from rr)
      have key : ∀ b o, b ∉ tabs → s.heap.get? b = some o → s'.heap.get? b = some o := fun b o nb e => by
        cases q : H b with
        | none => exact un.keep b o e q (fun z => (List.not_mem_nil z).elim) (fun z => (List.not_mem_nil z).elim)
        | some u =>
          rcases hH b u q with ⟨rfl, _, rfl⟩ | ⟨hb, _⟩
          · have e2 := (ok' b _ (un.frzs b _ _ q)).1
            rw [ha] at e; cases e
            exact e2
          · exact absurd hb nb
      have grown : ∀ b ∈ tabs, ∃ more : Array Value, s'.heap.get? b = some (PySem.W.tabObj more) := fun b hb => by
        obtain ⟨more, z⟩ := un.tbls b #[] (hHT b hb)
        exact ⟨_, ok' b _ z⟩
      refine ⟨rfl, ⟨fun b o e => ?_, fun b o e => ?_⟩, os, bare⟩
      · by_cases hb : b ∈ tabs
        · obtain ⟨p, hp, ep⟩ := List.mem_map.mp hb
          have ep : p.2 = b := ep
          subst ep
          obtain ⟨more, hm⟩ := grown _ hb
          rw [(hT p hp).2] at e; cases e
          exact .inr (.inl ⟨((hT p hp).1.tab (hT p hp).2).isCodeTable, rfl, #[], more, rfl, by rw [Array.empty_append]; exact hm⟩)
        · exact .inl (key b o hb e)
      · by_cases hb : b ∈ tabs
        · obtain ⟨more, hm⟩ := grown b hb
          exact ⟨_, hm⟩
        · exact ⟨o, key b o hb e⟩
  cases hk : K.lookup a with
  | some o =>
    have e := KX a o hk
    rw [ha] at e; cases e
    refine core (fun b => if b ∈ tabs then some (.tbl #[]) else none) (fun b u z => ?_) (fun b hb => if_pos hb) (.inr ⟨_, vs.toArray, _, hk, rfl, rfl, rfl, by rw [List.size_toArray, hi.length]; exact hl, by simpa using rv⟩)
    by_cases q : b ∈ tabs
    · rw [if_pos q] at z; cases z; exact .inr ⟨q, rfl⟩
    · rw [if_neg q] at z; cases z
  | none =>
    refine core (fun b => if b = a then some (.frz { cls := .type "list", data := .seq vs.toArray } (.lst (ns.map V.int))) else if b ∈ tabs then some (.tbl #[]) else none) (fun b u z => ?_) (fun b hb => (if_neg (fun (e : b = a) => aT (e ▸ hb))).trans (if_pos hb)) (.inl (.inr ⟨_, if_pos rfl⟩))
    by_cases q : b = a
    · subst q
      rw [if_pos rfl] at z; cases z
      exact .inl ⟨rfl, hk, rfl⟩
    · rw [if_neg q] at z
      by_cases q2 : b ∈ tabs
      · rw [if_pos q2] at z; cases z; exact .inr ⟨q2, rfl⟩
      · rw [if_neg q2] at z; cases z
end Ev
namespace Ev
open PySem PySem.Spec PyProof.Rows L2
variable [TabC]
variable {K : PySem.W.Frag} {S S' H H' : Hp} {B : Bs} {δ : DS} {σ : L2.St}
section
variable {X : Cx} {E : EK} {a b : Expr} {p pos tpos : Pos} {elts : List Expr} {kk : Nat} {d : dA}
def zipD (xs ys : List D) : List D := (xs.zip ys).map fun q => .tup [q.1, q.2]
/-- a list's, a tuple's items -/
def seqOf : D → Option (Bool × List D)
  | .lst xs => some (false, xs)
  | .tup xs => some (true, xs)
  | _ => none
def dZip (d : dA) : dI := fun W δ Q => d W δ fun xs δ' => match xs with | [x, y] => optQ (seqOf x) fun p => optQ (seqOf y) fun q => p.1 = q.1 ∧ Q (zipD p.2 q.2) δ' | _ => False
theorem seq_at {S : Hp} {v : V} {x : D} {p : Bool × List D} (h : Dn K S v x) (e : seqOf x = some p) : ∃ a vs, v = .ref a ∧ DnA K S vs p.2 ∧ ((p.1 = false ∧ S a = some (.lst vs)) ∨ (p.1 = true ∧ S a = some (.tup vs))) := by
  cases h with
  | lst h1 a1 => cases e; exact ⟨_, _, rfl, a1, .inl ⟨rfl, h1⟩⟩
  | tup h1 a1 => cases e; exact ⟨_, _, rfl, a1, .inr ⟨rfl, h1⟩⟩
  | _ => cases e
def enumD (xs : List D) : List D := xs.mapIdx fun i d => .tup [.int (i : Nat), d]
theorem it_enum {a : Addr} {us : List V} {ds : List D} (h1 : S a = some (.lst us)) (n1 : DnA K S us ds) : ItOk K (Ite K a) (enumD ds) S := by
  have l1 := n1.length
  have hl : (enumD ds).length = us.length := by simp [enumD, l1]
  have sq : ∀ {S1 H1}, Ex S S1 → Sb S1 H1 → SqL K H1 a us := fun e1 e2 => SqL.of (e2 _ _ (e1 _ _ h1))
  refine ⟨fun i S1 H1 e1 e2 hi => ?_, fun S1 H1 e1 e2 => ?_, fun i S1 H1 x H2 e1 e2 hi y => ?_⟩
  · exact walk_enum.goes i H1 (by omega) (sq e1 e2)
  · rw [hl]; exact walk_enum.stops H1 (sq e1 e2)
  · obtain ⟨T, u, rfl, hT, rfl, hu⟩ := y
    have eu := hu us (sq e1 e2)
    obtain ⟨d, hd, dn⟩ := n1.getV eu
    have g := Grow.new (o := .tup [.int (i : Nat), u]) e2 hT
    refine ⟨_, .tup [.int (i : Nat), d], g, ?_, .tup upd_same (.cons (.int _) (.cons (dn.mono (e1.trans g.s)) .nil))⟩
    unfold enumD
    rw [List.getElem?_mapIdx, hd]; rfl
def dEnum (d : dA) : dI := fun W δ Q => d W δ fun xs δ' => match xs with | [x] => optQ (seqOf x) fun p => p.1 = false ∧ Q (enumD p.2) δ' | _ => False
theorem di_enum (hg : Gl X "enumerate") (hm : X.mg "enumerate" = none) (ha : DA X E [a] d) (hs : starEach [a] X.env = [(false, eval a X.env)] := by rfl) :
    DI X E (.Tuple elts kk tpos) (.Call (.Name "enumerate" p) [a] [] pos) (dEnum d) := ⟨fun B => pi_mono (pi_enum hg hm (ha.run B) hs) fun σ H Rr q => by
  obtain ⟨δ, S, W, Q', R, q, xo, post⟩ := q
  refine ⟨δ, S, W, _, R, q, xo, fun xs δ1 vs S1 H1 q1 e1 R1 n1 => ?_⟩
  rcases xs with _ | ⟨x, _ | ⟨y, xs⟩⟩
  · exact q1.elim
  · obtain ⟨p, hp, he, q1⟩ := optQ_ex q1
    obtain ⟨v, rfl, d1⟩ := n1.one
    obtain ⟨a1, us, rfl, n3, g3⟩ := seq_at d1 hp
    rcases g3 with ⟨k3, g3⟩ | ⟨k3, g3⟩
    · exact ⟨_, _, rfl, SqL.of (R1.ex _ _ g3), post _ _ _ _ _ q1 e1 R1 (it_enum g3 n3)⟩
    · rw [he] at k3; cases k3
  · exact q1.elim⟩
end
section
variable {X : Cx}
def dSortDK (d : dE) : dF := fun W δ Q => d W δ fun x δ1 => match x with | .dK es => srtOk (keyDK es) ∧ Q (sortD (keyDK es)) δ1 | _ => False
end
theorem LamD.mono {P : Program} {w : World} {K : PySem.W.Frag} {mg : Str → Option Value} {base : Heap} {j j2 k n : Nat} {sp : List D → dSp} (h : LamD P w K mg base j k n sp) (hj : j ≤ j2) : LamD P w K mg base j2 k n sp :=
  ⟨fun A out s S H a ds xs vs us p Q Q' g r => h.run A out s S H a ds xs vs us p Q Q' g (r.mono hj)⟩
end Ev
namespace Ev
open PySem PySem.Spec PyProof.Rows L2
variable [TabC]
section
variable {X : Cx} {es : List Expr} {pos : Pos}
def gL (n : Nat) (r : dGs) : dG := fun d δ Q => match d with | .lst ds => ds.length = n ∧ r ds δ Q | _ => False
end
end Ev
namespace Ev
open PySem PySem.Spec PyProof.Rows L2
/-- what is known of the law, its tables (of those in ts) beside -/
def LawM (P : Program) (w : World) (K : PySem.W.Frag) (mg : Str → Option Value) (k n : Nat) (fa : Addr) (x : Str) (ts : List Addr) : Prop :=
  ∃ (cs : List (Addr × Addr)) (fd : FuncData) (sp : Sp), (∀ p ∈ cs, PySem.W.codeHdIn K p.1 p.2 = true ∧ p.2 ∈ ts) ∧ (∀ p ∈ cs, K.lookup p.2 = none) ∧ (∀ (s : Shared) (u : Value), BindsTo s fd ⟨[u], []⟩ [(x, u)]) ∧
    (∀ (H : Hp) (a : Addr) (ns : List Int), ns.length ≤ n → (∀ p ∈ cs, H p.2 = some (.tbl #[])) → SqL K H a (ns.map V.int) → sp [.ref a] H (fun v _ => v = .bl true) fun _ _ _ => False) ∧
    ∀ base : Heap, K.In base → base.Ns mainGlobals mg → (∀ p ∈ cs, LamX.TabB base mg p.1 p.2) → FnG P w K mg base CX0 k fa fd [x] sp
theorem walk_gM {l : PySem.W.OpenLaw} {n k : Nat} {q : Program} {loose : List Str} {XP : (Str → Option Value) → Heap → Prop} {YP : World → Heap → Prop} {d : DefRec} {K : Params → PySem.W.Frag} {x : Str} {ts : List Addr} (hn : l.most = some n) (hn2 : n ≤ sizeLine) (hdf : d.params.defaults = []) (hr : Room k callerA)
    (hY : ∀ (w : World) (h : Heap), YP w h → (K w.params).In h) (hYT : ∀ (w : World) (h : Heap), YP w h → ∀ P ∈ ts, h.get? P = some (PySem.W.tabObj #[]))
    (F : ∀ (w : World) (mg : Str → Option Value) (fa : Addr) (h : Heap), (K w.params).In h → h.Ns mainGlobals mg → mg d.name = some (.ref fa) → LawM l.prog w (K w.params) mg k n fa x ts) : PySem.W.WalkO q loose XP YP l.row.toRowW d [] (fun f vs => PySem.call f vs) := by
  refine Att.attach_call hn hdf fun w s0 s1 mg mb fa o pm cd doc a vs ns G Y _ _ _ hmg hobj hints hlen hgens => ?_
  obtain ⟨cs, fd, sp, h1, h2, hb, hsp, hF⟩ := F w mg fa _ (hY w _ Y) G.T.g hmg
  exact law_gT (hY w _ Y) G.T.g G.T.b G.T.builtins G.T.nolimit hgens (fun p hp => ⟨PySem.W.codeHd_of_K (hY w _ Y) (h1 p hp).1, hYT w _ Y _ (h1 p hp).2⟩) h2 G.T.bmain hobj hints (Nat.le_trans hlen hn2) hr hF hb (fun H hH hS => hsp H a ns hlen hH hS) fun H e s' h => h
end Ev
namespace Ev
open PySem PySem.Spec PyProof.Rows L2
variable [TabC]
section
variable {X : Cx} {E : EK} {x : Str} {p pos : Pos} {e : Expr} {es : List Expr} {j m n i : Nat} {ta : dA}
/-- a def that lies at f -/
structure DefA (P : Program) (w : World) (K : PySem.W.Frag) (mg : Str → Option Value) (base : Heap) (k : Nat) (f : Addr) (n : Nat) (sp : dSp) : Prop where
  ok : ∃ (ps : List Str) (fd : FuncData), FnG P w K mg base CX0 k f fd ps (spD K n sp) ∧ PySem.W.keepIn K (.ref f) = true ∧ Binds K fd ps []
theorem DefA.mono {P : Program} {w : World} {K : PySem.W.Frag} {mg : Str → Option Value} {base : Heap} {k k2 : Nat} {f : Addr} {sp : dSp} (h : DefA P w K mg base k f n sp) (hk : k ≤ k2) : DefA P w K mg base k2 f n sp := by
  obtain ⟨ps, fd, F, a, b⟩ := h.ok
  exact ⟨ps, fd, ⟨F.len, fun A out s H ar us vs Q E g r => F.run A out s H ar us vs Q E g (r.mono hk)⟩, a, b⟩
/-- the defs that are handed about, by number -/
abbrev adD (k : Nat) : D := .raw (.ref (TabC.ad k))
/-- name(..), name one of the defs of T -/
def dCallR (i n : Nat) (T : List (Addr × dSp)) (a : dA) : dE := fun W δ Q => match δ.sl[i]? with
  | some (.dat (.raw (.ref f))) => ∃ sp, (f, sp) ∈ T ∧ a W δ fun xs δ1 => xs.length = n ∧ sp xs δ1.pen (fun x p' => Q x { δ1 with pen := p' }) fun c p' => W c { δ1 with pen := p' }
  | _ => False
/-- sorted(d), d a dict of one's own: its keys -/
def dSortKo (i : Nat) : dF := fun _ δ Q => match δ.sl[i]? with
  | some (.ownK es) => srtOk (keyDK es) ∧ Q (sortD (keyDK es)) δ
  | some (.dat (.dK es)) => srtOk (keyDK es) ∧ Q (sortD (keyDK es)) δ
  | _ => False
end
end Ev
namespace Pt
abbrev Sg := Int × Int
def inS (ss : List Sg) (x : Int) : Bool := ss.any fun s => decide (s.1 ≤ x ∧ x < s.2)
/-- canonical: rising, apart -/
def CanS (ss : List Sg) : Prop := (∀ s ∈ ss, s.1 < s.2) ∧ ss.Pairwise fun s t => s.2 < t.1
theorem inS_cons {s : Sg} {ss : List Sg} {x : Int} : inS (s :: ss) x = (decide (s.1 ≤ x ∧ x < s.2) || inS ss x) := rfl
theorem inS_iff {ss : List Sg} {x : Int} : inS ss x = true ↔ ∃ s ∈ ss, s.1 ≤ x ∧ x < s.2 := by
  unfold inS
  rw [List.any_eq_true]
  exact ⟨fun ⟨s, h1, h2⟩ => ⟨s, h1, of_decide_eq_true h2⟩, fun ⟨s, h1, h2⟩ => ⟨s, h1, decide_eq_true h2⟩⟩
theorem bool_ext {a b : Bool} (h : a = true ↔ b = true) : a = b := by
  cases a <;> cases b <;> simp at h ⊢
theorem CanS.tail {s : Sg} {ss : List Sg} (h : CanS (s :: ss)) : CanS ss := ⟨fun t ht => h.1 t (List.mem_cons_of_mem _ ht), (List.pairwise_cons.mp h.2).2⟩
theorem CanS.head {s : Sg} {ss : List Sg} (h : CanS (s :: ss)) : s.1 < s.2 ∧ ∀ t ∈ ss, s.2 < t.1 := ⟨h.1 s List.mem_cons_self, (List.pairwise_cons.mp h.2).1⟩
theorem CanS.nil : CanS [] := ⟨fun _ h => (nomatch h), .nil⟩
/-- a stretch, and what is not in what is behind it -/
theorem CanS.behind {s : Sg} {ss : List Sg} (h : CanS (s :: ss)) {x : Int} (hx : x ≤ s.2) : inS ss x = false := by
  cases q : inS ss x with
  | false => rfl
  | true =>
    obtain ⟨t, h1, h2, h3⟩ := inS_iff.mp q
    have := h.head.2 t h1
    omega
theorem canS_eq : ∀ {ss tt : List Sg}, CanS ss → CanS tt → (∀ x, inS ss x = inS tt x) → ss = tt
  | [], [], _, _, _ => rfl
  | [], t :: tt, _, h, e => by
    have := e t.1
    rw [inS_cons, decide_eq_true ⟨Int.le_refl _, h.head.1⟩] at this
    cases this
  | s :: ss, [], h, _, e => by
    have := e s.1
    rw [inS_cons, decide_eq_true ⟨Int.le_refl _, h.head.1⟩] at this
    cases this
  | s :: ss, t :: tt, h, k, e => by
    have h0 := h.head.1
    have k0 := k.head.1
    have e1 : s.1 = t.1 := by
      rcases Int.lt_trichotomy s.1 t.1 with q | q | q
      · have := e s.1
        rw [inS_cons, inS_cons, decide_eq_true ⟨Int.le_refl _, h0⟩, decide_eq_false (by omega), k.behind (by omega)] at this
        cases this
      · exact q
      · have := e t.1
        rw [inS_cons, inS_cons, decide_eq_true (p := t.1 ≤ t.1 ∧ _) ⟨Int.le_refl _, k0⟩, decide_eq_false (by omega), h.behind (by omega)] at this
        cases this
    have e2 : s.2 = t.2 := by
      rcases Int.lt_trichotomy s.2 t.2 with q | q | q
      · have := e s.2
        rw [inS_cons, inS_cons, decide_eq_false (by omega), h.behind (Int.le_refl _), decide_eq_true (p := t.1 ≤ s.2 ∧ _) (by omega)] at this
        cases this
      · exact q
      · have := e t.2
        rw [inS_cons, inS_cons, decide_eq_true (p := s.1 ≤ t.2 ∧ _) (by omega), decide_eq_false (by omega), k.behind (Int.le_refl _)] at this
        cases this
    have e3 : s = t := Prod.ext e1 e2
    subst e3
    rw [canS_eq h.tail k.tail fun x => ?_]
    by_cases q : x ≤ s.2
    · rw [h.behind q, k.behind q]
    · have := e x
      rw [inS_cons, inS_cons, decide_eq_false (by omega)] at this
      exact this
structure Band where
  t : Int
  b : Int
  ss : List Sg
def inBd (bs : List Band) (x y : Int) : Bool := bs.any fun b => decide (b.t ≤ y ∧ y < b.b) && inS b.ss x
/-- one behind the other, those alike apart -/
def RB (a b : Band) : Prop := a.b < b.t ∨ (a.b = b.t ∧ a.ss ≠ b.ss)
structure CanB (bs : List Band) : Prop where
  ok : ∀ b ∈ bs, b.t < b.b ∧ CanS b.ss
  pw : bs.Pairwise RB
theorem RB.le {a b : Band} (h : RB a b) : a.b ≤ b.t := by rcases h with h | h <;> omega
theorem CanB.tail {b : Band} {bs : List Band} (h : CanB (b :: bs)) : CanB bs := ⟨fun c hc => h.ok c (List.mem_cons_of_mem _ hc), (List.pairwise_cons.mp h.pw).2⟩
theorem CanB.nil : CanB [] := ⟨fun _ h => (nomatch h), .nil⟩
theorem inBd_cons {b : Band} {bs : List Band} {x y : Int} : inBd (b :: bs) x y = (decide (b.t ≤ y ∧ y < b.b) && inS b.ss x || inBd bs x y) := rfl
theorem inBd_iff {bs : List Band} {x y : Int} : inBd bs x y = true ↔ ∃ b ∈ bs, b.t ≤ y ∧ y < b.b ∧ inS b.ss x = true := by
  unfold inBd
  rw [List.any_eq_true]
  constructor
  · rintro ⟨b, h1, h2⟩
    rw [Bool.and_eq_true] at h2
    exact ⟨b, h1, (of_decide_eq_true h2.1).1, (of_decide_eq_true h2.1).2, h2.2⟩
  · rintro ⟨b, h1, h2, h3, h4⟩
    exact ⟨b, h1, by rw [decide_eq_true ⟨h2, h3⟩, h4]; rfl⟩
theorem CanB.behind {b : Band} {bs : List Band} (h : CanB (b :: bs)) {x y : Int} (hy : y < b.b) : inBd bs x y = false := by
  cases q : inBd bs x y with
  | false => rfl
  | true =>
    obtain ⟨c, h1, h2, _⟩ := inBd_iff.mp q
    have := ((List.pairwise_cons.mp h.pw).1 c h1).le
    omega
/-- the row of a band -/
theorem CanB.row : ∀ {bs : List Band}, CanB bs → ∀ {b : Band}, b ∈ bs → ∀ {x y : Int}, b.t ≤ y → y < b.b → inBd bs x y = inS b.ss x
  | c :: bs, h, b, hb, x, y, h1, h2 => by
    rcases List.mem_cons.mp hb with rfl | hb
    · rw [inBd_cons, decide_eq_true ⟨h1, h2⟩, h.behind h2, Bool.true_and, Bool.or_false]
    · have := ((List.pairwise_cons.mp h.pw).1 b hb).le
      rw [inBd_cons, decide_eq_false (by omega), Bool.false_and, Bool.false_or]
      exact h.tail.row hb h1 h2
theorem some_in {ss : List Sg} (h : CanS ss) (n : ss ≠ []) : ∃ x, inS ss x = true := by
  cases ss with
  | nil => exact absurd rfl n
  | cons s ss => exact ⟨s.1, by rw [inS_cons, decide_eq_true ⟨Int.le_refl _, h.head.1⟩]; rfl⟩
theorem canB_low {c : Band} {cs : List Band} (k : CanB (c :: cs)) {x y : Int} (h : y < c.t) : inBd (c :: cs) x y = false := by
  have := (k.ok c List.mem_cons_self).1
  rw [inBd_cons, decide_eq_false (by omega), k.behind (by omega)]; rfl
/-- no row ends there, none alike begins -/
theorem canB_end {b : Band} {bs : List Band} (h : CanB (b :: bs)) (hn : ∀ c ∈ b :: bs, c.ss ≠ []) (hr : ∀ x, inBd (b :: bs) x b.b = inS b.ss x) : False := by
  by_cases q : ∃ c ∈ bs, c.t ≤ b.b ∧ b.b < c.b
  · obtain ⟨c, h1, h2, h3⟩ := q
    have e : ∀ x, inS c.ss x = inS b.ss x := fun x => by rw [← h.row (List.mem_cons_of_mem _ h1) h2 h3, hr x]
    have e2 := canS_eq (h.ok c (List.mem_cons_of_mem _ h1)).2 (h.ok b List.mem_cons_self).2 e
    rcases (List.pairwise_cons.mp h.pw).1 c h1 with z | ⟨_, z⟩
    · omega
    · exact z e2.symm
  · obtain ⟨x, hx⟩ := some_in (h.ok b List.mem_cons_self).2 (hn b List.mem_cons_self)
    rw [← hr x] at hx
    obtain ⟨c, h1, h2, h3, _⟩ := inBd_iff.mp hx
    rcases List.mem_cons.mp h1 with rfl | h1
    · omega
    · exact q ⟨c, h1, h2, h3⟩
theorem canB_eq : ∀ {bs cs : List Band}, CanB bs → CanB cs → (∀ b ∈ bs, b.ss ≠ []) → (∀ b ∈ cs, b.ss ≠ []) → (∀ x y, inBd bs x y = inBd cs x y) → bs = cs
  | [], [], _, _, _, _, _ => rfl
  | [], c :: cs, _, k, _, nk, e => by
    obtain ⟨x, hx⟩ := some_in (k.ok c List.mem_cons_self).2 (nk c List.mem_cons_self)
    have := e x c.t
    rw [k.row List.mem_cons_self (Int.le_refl _) (k.ok c List.mem_cons_self).1, hx] at this
    cases this
  | b :: bs, [], h, _, nh, _, e => by
    obtain ⟨x, hx⟩ := some_in (h.ok b List.mem_cons_self).2 (nh b List.mem_cons_self)
    have := e x b.t
    rw [h.row List.mem_cons_self (Int.le_refl _) (h.ok b List.mem_cons_self).1, hx] at this
    cases this
  | b :: bs, c :: cs, h, k, nh, nk, e => by
    have hb := h.ok b List.mem_cons_self
    have hc := k.ok c List.mem_cons_self
    have e1 : b.t = c.t := by
      rcases Int.lt_trichotomy b.t c.t with q | q | q
      · obtain ⟨x, hx⟩ := some_in hb.2 (nh b List.mem_cons_self)
        have := e x b.t
        rw [h.row List.mem_cons_self (Int.le_refl _) hb.1, hx, canB_low k q] at this
        cases this
      · exact q
      · obtain ⟨x, hx⟩ := some_in hc.2 (nk c List.mem_cons_self)
        have := e x c.t
        rw [k.row List.mem_cons_self (Int.le_refl _) hc.1, hx, canB_low h q] at this
        cases this
    have e2 : b.ss = c.ss := canS_eq hb.2 hc.2 fun x => by
      have := e x b.t
      rw [h.row List.mem_cons_self (Int.le_refl _) hb.1, k.row List.mem_cons_self (by omega) (by omega)] at this
      exact this
    have e3 : b.b = c.b := by
      rcases Int.lt_trichotomy b.b c.b with q | q | q
      · refine (canB_end h nh fun x => ?_).elim
        rw [e x b.b, k.row List.mem_cons_self (by omega) q, e2]
      · exact q
      · refine (canB_end k nk fun x => ?_).elim
        rw [← e x c.b, h.row List.mem_cons_self (by omega) q, e2]
    have e4 : b = c := by
      obtain ⟨t, b', ss⟩ := b
      obtain ⟨t2, b2, ss2⟩ := c
      simp at e1 e2 e3
      rw [e1, e2, e3]
    subst e4
    rw [canB_eq h.tail k.tail (fun c hc => nh c (List.mem_cons_of_mem _ hc)) (fun c hc => nk c (List.mem_cons_of_mem _ hc)) fun x y => ?_]
    by_cases q : y < b.b
    · rw [h.behind q, k.behind q]
    · have := e x y
      rw [inBd_cons, inBd_cons, decide_eq_false (by omega)] at this
      exact this
structure Bx where
  x : Int
  y : Int
  w : Int
  h : Int
def inP (p : List Bx) (x y : Int) : Bool := p.any fun b => decide (b.x ≤ x ∧ x < b.x + b.w) && decide (b.y ≤ y ∧ y < b.y + b.h)
def bxs (b : Band) : List Bx := b.ss.map fun s => ⟨s.1, b.t, s.2 - s.1, b.b - b.t⟩
def boxesOf (bs : List Band) : List Bx := bs.flatMap bxs
theorem inP_app {p q : List Bx} {x y : Int} : inP (p ++ q) x y = (inP p x y || inP q x y) := by unfold inP; rw [List.any_append]
theorem inP_bxs {b : Band} {x y : Int} : inP (bxs b) x y = (decide (b.t ≤ y ∧ y < b.b) && inS b.ss x) := by
  unfold inP bxs inS
  rw [List.any_map]
  have e : ∀ s : Sg, ((fun b : Bx => decide (b.x ≤ x ∧ x < b.x + b.w) && decide (b.y ≤ y ∧ y < b.y + b.h)) ∘ fun s => (⟨s.1, b.t, s.2 - s.1, b.b - b.t⟩ : Bx)) s = (decide (b.t ≤ y ∧ y < b.b) && decide (s.1 ≤ x ∧ x < s.2)) := fun s => by
    apply bool_ext
    simp only [Function.comp, Bool.and_eq_true, decide_eq_true_eq]
    omega
  induction b.ss with
  | nil => simp
  | cons s ss ih =>
    rw [List.any_cons, List.any_cons, ih, e s]
    cases decide (b.t ≤ y ∧ y < b.b) <;> simp
theorem inP_boxes {x y : Int} : ∀ {bs : List Band}, inP (boxesOf bs) x y = inBd bs x y
  | [] => rfl
  | b :: bs => by
    show inP (bxs b ++ boxesOf bs) x y = _
    rw [inP_app, inP_bxs, inP_boxes, inBd_cons]
/-- told in the one way -/
def Can (p : List Bx) : Prop := ∃ bs, CanB bs ∧ (∀ b ∈ bs, b.ss ≠ []) ∧ p = boxesOf bs
theorem can_eq {p q : List Bx} (hp : Can p) (hq : Can q) (e : ∀ x y, inP p x y = inP q x y) : p = q := by
  obtain ⟨bs, h1, h2, rfl⟩ := hp
  obtain ⟨cs, k1, k2, rfl⟩ := hq
  rw [canB_eq h1 k1 h2 k2 fun x y => by rw [← inP_boxes, ← inP_boxes]; exact e x y]
end Pt
namespace Pt
def Pos (p : List Bx) : Prop := ∀ b ∈ p, 0 < b.w ∧ 0 < b.h
theorem inP_iff {p : List Bx} {x y : Int} : inP p x y = true ↔ ∃ b ∈ p, (b.x ≤ x ∧ x < b.x + b.w) ∧ b.y ≤ y ∧ y < b.y + b.h := by
  unfold inP
  rw [List.any_eq_true]
  constructor
  · rintro ⟨b, h1, h2⟩
    rw [Bool.and_eq_true] at h2
    exact ⟨b, h1, of_decide_eq_true h2.1, of_decide_eq_true h2.2⟩
  · rintro ⟨b, h1, h2, h3⟩
    exact ⟨b, h1, by rw [decide_eq_true h2, decide_eq_true h3]; rfl⟩
def sgOf (b : Bx) : Sg := (b.x, b.x + b.w)
def rowB (p : List Bx) (t : Int) : List Sg := (p.filter fun q => decide (q.y ≤ t) && decide (t < q.y + q.h)).map sgOf
theorem rise_len : ∀ {l : List Int} {lo : Int} {n : Nat}, l.Pairwise (· < ·) → (∀ x ∈ l, lo ≤ x ∧ x < lo + n) → l.length ≤ n
  | [], _, _, _, _ => Nat.zero_le _
  | a :: l, lo, n, h, hb => by
    have ha := hb a List.mem_cons_self
    have h' := List.pairwise_cons.mp h
    have := rise_len (l := l) (lo := a + 1) (n := (lo + n - (a + 1)).toNat) h'.2 fun x hx => by
      have h1 := h'.1 x hx
      have h2 := hb x (List.mem_cons_of_mem _ hx)
      omega
    rw [List.length_cons]
    omega
/-- within a window -/
def Win (lx ly : Int) (p : List Bx) : Prop := ∀ b ∈ p, (0 < b.w ∧ 0 < b.h) ∧ (lx ≤ b.x ∧ b.x + b.w ≤ lx + 2800) ∧ ly ≤ b.y ∧ b.y + b.h ≤ ly + 2800
theorem can_box {p : List Bx} (hp : Can p) : ∀ b ∈ p, 0 < b.w ∧ 0 < b.h := fun b hb => by
  obtain ⟨bs, h1, h2, rfl⟩ := hp
  obtain ⟨c, hc, hb⟩ := List.mem_flatMap.mp hb
  obtain ⟨s, hs, rfl⟩ := List.mem_map.mp hb
  have := h1.ok c hc
  have := this.2.1 s hs
  simp only
  omega
theorem box_corner {p : List Bx} {b : Bx} (hb : b ∈ p) (h : 0 < b.w ∧ 0 < b.h) : inP p b.x b.y = true ∧ inP p (b.x + b.w - 1) (b.y + b.h - 1) = true :=
  ⟨inP_iff.mpr ⟨b, hb, by omega⟩, inP_iff.mpr ⟨b, hb, by omega⟩⟩
/-- what a window's spots tell lies within it -/
theorem can_win {p : List Bx} {lx ly : Int} (hp : Can p) (h : ∀ x y, inP p x y = true → (lx ≤ x ∧ x < lx + 2800) ∧ ly ≤ y ∧ y < ly + 2800) : Win lx ly p := fun b hb => by
  have h0 := can_box hp b hb
  obtain ⟨c1, c2⟩ := box_corner hb h0
  have := h _ _ c1
  have := h _ _ c2
  omega
theorem bxs_len {b : Band} : (bxs b).length = b.ss.length := by unfold bxs; rw [List.length_map]
theorem flat_len {n : Nat} : ∀ {bs : List Band}, (∀ b ∈ bs, b.ss.length ≤ n) → (boxesOf bs).length ≤ bs.length * n
  | [], _ => Nat.zero_le _
  | b :: bs, h => by
    show (bxs b ++ boxesOf bs).length ≤ _
    rw [List.length_append, bxs_len, List.length_cons, Nat.succ_mul]
    have := h b List.mem_cons_self
    have := flat_len (bs := bs) fun c hc => h c (List.mem_cons_of_mem _ hc)
    omega
theorem can_len {p : List Bx} {lx ly : Int} (hp : Can p) (hw : Win lx ly p) : p.length ≤ 7840000 := by
  obtain ⟨bs, h1, h2, rfl⟩ := hp
  have mem : ∀ b ∈ bs, ∀ s ∈ b.ss, (⟨s.1, b.t, s.2 - s.1, b.b - b.t⟩ : Bx) ∈ boxesOf bs := fun b hb s hs => List.mem_flatMap.mpr ⟨b, hb, List.mem_map.mpr ⟨s, hs, rfl⟩⟩
  have l1 : bs.length ≤ 2800 := by
    rw [← List.length_map (f := fun b : Band => b.t)]
    refine rise_len (lo := ly) (List.pairwise_map.mpr (h1.pw.imp_of_mem fun {a b} ha hb r => ?_)) fun y hy => ?_
    · have := (h1.ok a ha).1
      have := r.le
      omega
    · obtain ⟨b, hb, rfl⟩ := List.mem_map.mp hy
      obtain ⟨s, hs⟩ := List.exists_mem_of_ne_nil _ (h2 b hb)
      have := hw _ (mem b hb s hs)
      simp only at this
      omega
  have l2 : ∀ b ∈ bs, b.ss.length ≤ 2800 := fun b hb => by
    rw [← List.length_map (f := fun s : Sg => s.1)]
    have hc := (h1.ok b hb).2
    refine rise_len (lo := lx) (List.pairwise_map.mpr (hc.2.imp_of_mem fun {s t} hs ht r => ?_)) fun x hx => ?_
    · have := hc.1 s hs
      omega
    · obtain ⟨s, hs, rfl⟩ := List.mem_map.mp hx
      have := hw _ (mem b hb s hs)
      simp only at this
      omega
  have := flat_len l2
  have := Nat.mul_le_mul_right 2800 l1
  omega
end Pt
namespace Pt
open PySem PySem.Spec PyProof.Rows L2 Ev
variable [TabC]
instance : DecidableEq Bx := fun a b => decidable_of_iff (a.x = b.x ∧ a.y = b.y ∧ a.w = b.w ∧ a.h = b.h) ⟨fun h => by
  cases a; cases b
  obtain ⟨h1, h2, h3, h4⟩ := h
  simp only at h1 h2 h3 h4
  subst h1 h2 h3 h4
  rfl, fun h => by subst h; exact ⟨rfl, rfl, rfl, rfl⟩⟩
end Pt
namespace Pt
def Tight (M : Int) (f : Int → Int → Bool) : Prop := ∀ x y, f x y = true → (-M ≤ x ∧ x < M) ∧ -M ≤ y ∧ y < M
theorem Tight.mono {M N : Int} {f : Int → Int → Bool} (h : Tight M f) (l : M ≤ N) : Tight N f := fun x y z => by
  have := h x y z
  omega
structure Pf (r : List Bx) (f : Int → Int → Bool) : Prop where
  can : Can r
  eq : ∀ x y, inP r x y = f x y
section
variable {p q : List Bx} {f g : Int → Int → Bool}
theorem Pf.win (h : Pf p f) (t : Tight 1400 f) : Win (-1400) (-1400) p := can_win h.can fun x y z => by
  rw [h.eq] at z
  have := t x y z
  omega
theorem Pf.len (h : Pf p f) (t : Tight 1400 f) : p.length ≤ 7840000 := can_len h.can (h.win t)
theorem Pf.same (h : Pf p f) (k : Pf q g) (e : ∀ x y, f x y = g x y) : p = q := can_eq h.can k.can fun x y => by rw [h.eq, k.eq, e]
end
end Pt
namespace Ev
open PySem PySem.Spec PyProof.Rows L2
variable [TabC]
section
variable {X : Cx} {E : EK} {o x : Expr} {cp ap : Pos} {da dx : dE}
/-- o.count(x), o a list -/
def dCount (d e : dE) : dE := fun W δ Q => d W δ fun z δ1 => match z with
  | .lst ds => e W δ1 fun y δ2 => (D.lst ds).cm ∧ y.cm ∧ Q (.int ((ds.countP fun z => z.eq y : Nat) : Int)) δ2
  | _ => False
end
end Ev
namespace Ev
open PySem PySem.Spec PyProof.Rows L2
variable [TabC]
variable {K : PySem.W.Frag} {S S' H H' : Hp} {B : Bs} {δ : DS} {σ : L2.St}
/-- a list of the growing dict: its key, where it stands, what it holds -/
structure GL where
  k : Key
  p : Addr
  vs : List V
  ds : List D
structure GrpOk (K : PySem.W.Frag) (B : Bs) (S M : Hp) (a : Addr) (ls : List GL) : Prop where
  dict : M a = some (.dK (ls.map fun l => (l.k, V.ref l.p)))
  a0 : B.H0 a = none ∧ B.pa ≠ some a ∧ B.S0 a = none
  at_ : ∀ l ∈ ls, M l.p = some (.lst l.vs) ∧ l.p ≠ a ∧ B.H0 l.p = none ∧ B.pa ≠ some l.p ∧ B.S0 l.p = none ∧ DnA K S l.vs l.ds
  nd : (ls.map (·.k)).Nodup
  ndp : (ls.map (·.p)).Nodup
  all : ∀ b o, M b = some o → b = a ∨ ∃ l ∈ ls, b = l.p
theorem GrpOk.mono {M : Hp} {a : Addr} {ls : List GL} (g : GrpOk K B S M a ls) (e : Ex S S') : GrpOk K B S' M a ls :=
  ⟨g.dict, g.a0, fun l h => let ⟨h1, h2, h3, h4, h5, h6⟩ := g.at_ l h; ⟨h1, h2, h3, h4, h5, h6.mono e⟩, g.nd, g.ndp, g.all⟩
/-- what is gathered: a thing more at k -/
def grpD (gs : List (Key × List D)) (k : Key) (x : D) : List (Key × List D) :=
  if (gs.any fun e => decide (e.1 = k)) = true then gs.map (fun e => if e.1 = k then (e.1, e.2 ++ [x]) else e) else gs ++ [(k, [x])]
def grpV (ls : List GL) (k : Key) (v : V) (x : D) : List GL := ls.map fun l => if l.k = k then ⟨l.k, l.p, l.vs ++ [v], l.ds ++ [x]⟩ else l
theorem grp_there {ls : List GL} {l : GL} (h : l ∈ ls) : valV (ls.map fun l => (l.k, V.ref l.p)) l.k ≠ none := by
  intro e
  induction ls with
  | nil => cases h
  | cons m ls ih =>
    by_cases z : m.k = l.k
    · rw [List.map_cons, valV_pos (p := (m.k, V.ref m.p)) z] at e; cases e
    · rw [List.map_cons, valV_neg (p := (m.k, V.ref m.p)) z] at e
      rcases List.mem_cons.mp h with rfl | h
      · exact z rfl
      · exact ih h e
theorem nodup_inj {α β : Type} {f : α → β} : ∀ {l : List α}, (l.map f).Nodup → ∀ {a b : α}, a ∈ l → b ∈ l → f a = f b → a = b
  | [], _, _, _, h, _, _ => nomatch h
  | c :: l, nd, a, b, ha, hb, e => by
    rw [List.map_cons, List.nodup_cons] at nd
    rcases List.mem_cons.mp ha with h1 | h1
    · rcases List.mem_cons.mp hb with h2 | h2
      · rw [h1, h2]
      · exact absurd (List.mem_map.mpr ⟨b, h2, by rw [← e, h1]⟩) nd.1
    · rcases List.mem_cons.mp hb with h2 | h2
      · exact absurd (List.mem_map.mpr ⟨a, h1, by rw [e, h2]⟩) nd.1
      · exact nodup_inj nd.2 h1 h2 e
theorem grpV_map {β : Type} {ls : List GL} {k : Key} {v : V} {x : D} (f : Key → Addr → β) : (grpV ls k v x).map (fun l => f l.k l.p) = ls.map fun l => f l.k l.p := by
  unfold grpV
  rw [List.map_map]
  refine List.map_congr_left fun l _ => ?_
  show f (if l.k = k then _ else l).k (if l.k = k then _ else l).p = _
  split <;> rfl
theorem GrpOk.there {M : Hp} {a : Addr} {ls : List GL} {l : GL} {v : V} {x : D} (G : GrpOk K B S M a ls) (hl : l ∈ ls) (n : Dn K S v x) : GrpOk K B S (upd M l.p (.lst (l.vs ++ [v]))) a (grpV ls l.k v x) := by
  obtain ⟨l1, l2, l3, l4, l5, l6⟩ := G.at_ l hl
  refine ⟨?_, G.a0, fun m hm => ?_, ?_, ?_, fun b o h => ?_⟩
  · rw [upd_ne (Ne.symm l2), grpV_map (fun k p => (k, V.ref p))]; exact G.dict
  · obtain ⟨m0, h0, rfl⟩ := List.mem_map.mp hm
    by_cases z : m0.k = l.k
    · obtain rfl := nodup_inj G.nd h0 hl z
      rw [if_pos rfl]
      exact ⟨upd_same, l2, l3, l4, l5, l6.append (.cons n .nil)⟩
    · rw [if_neg z]
      obtain ⟨t1, t2⟩ := G.at_ m0 h0
      have ne : m0.p ≠ l.p := fun e => z (by rw [nodup_inj G.ndp h0 hl e])
      exact ⟨by rw [upd_ne ne]; exact t1, t2⟩
  · rw [grpV_map (fun k _ => k)]; exact G.nd
  · rw [grpV_map (fun _ p => p)]; exact G.ndp
  · by_cases z : b = l.p
    · refine .inr ?_
      have : b ∈ (grpV ls l.k v x).map (·.p) := by rw [grpV_map (fun _ p => p), z]; exact List.mem_map.mpr ⟨l, hl, rfl⟩
      obtain ⟨m, h1, h2⟩ := List.mem_map.mp this
      exact ⟨m, h1, h2.symm⟩
    · rw [upd_ne z] at h
      rcases G.all b o h with h | ⟨m, h1, h2⟩
      · exact .inl h
      · refine .inr ?_
        have : b ∈ (grpV ls l.k v x).map (·.p) := by rw [grpV_map (fun _ p => p), h2]; exact List.mem_map.mpr ⟨m, h1, rfl⟩
        obtain ⟨m, h1, h2⟩ := List.mem_map.mp this
        exact ⟨m, h1, h2.symm⟩
theorem GrpOk.more {M : Hp} {a p : Addr} {ls : List GL} {k : Key} {v : V} {x : D} (G : GrpOk K B S M a ls) (hn : valV (ls.map fun l => (l.k, V.ref l.p)) k = none) (mp : M p = none) (bp : B.H0 p = none) (f2 : B.pa ≠ some p) (s0 : B.S0 p = none) (pa : p ≠ a) (n : Dn K S v x) :
    GrpOk K B S (upd (upd (upd M p (.lst [])) a (.dK (putK (ls.map fun l => (l.k, V.ref l.p)) k (.ref p)))) p (.lst ([] ++ [v]))) a (ls ++ [⟨k, p, [v], [x]⟩]) := by
  have np : ∀ l ∈ ls, l.p ≠ p := fun l hl z => by have := (G.at_ l hl).1; rw [z, mp] at this; cases this
  refine ⟨?_, G.a0, fun m hm => ?_, ?_, ?_, fun b o h => ?_⟩
  · rw [upd_ne (Ne.symm pa), upd_same, putK_new _ hn, List.map_append]; rfl
  · rcases List.mem_append.mp hm with hm | hm
    · obtain ⟨t1, t2, t3⟩ := G.at_ m hm
      exact ⟨by rw [upd_ne (np m hm), upd_ne t2, upd_ne (np m hm)]; exact t1, t2, t3⟩
    · obtain rfl := List.mem_singleton.mp hm
      exact ⟨upd_same, pa, bp, f2, s0, .cons n .nil⟩
  · rw [List.map_append]
    refine List.nodup_append.mpr ⟨G.nd, by simp, fun a ha b hb => ?_⟩
    obtain ⟨l, h1, rfl⟩ := List.mem_map.mp ha
    obtain rfl : b = k := by simpa using hb
    exact fun z => by subst z; exact grp_there h1 hn
  · rw [List.map_append]
    refine List.nodup_append.mpr ⟨G.ndp, by simp, fun a ha b hb => ?_⟩
    obtain ⟨l, h1, rfl⟩ := List.mem_map.mp ha
    obtain rfl : b = p := by simpa using hb
    exact np l h1
  · by_cases z : b = p
    · exact .inr ⟨_, List.mem_append_right _ (List.mem_singleton.mpr rfl), z⟩
    · by_cases z2 : b = a
      · exact .inl z2
      · rw [upd_ne z, upd_ne z2, upd_ne z] at h
        rcases G.all b o h with h | ⟨m, h1, h2⟩
        · exact .inl h
        · exact .inr ⟨m, List.mem_append_left _ h1, h2⟩
def wGrp (g : dG) (dk dx : dE) (Q : List (Key × List D) → DS → Prop) : List D → List (Key × List D) → DS → Prop
  | [], gs, δ => Q gs δ
  | d :: ds, gs, δ => g d δ fun δ1 => dk W0 δ1 fun y δ2 => δ2 = δ1 ∧ optQ y.key fun k => gs.length < sizeLine ∧ (∀ e ∈ gs, e.2.length < sizeLine) ∧ dx W0 δ1 fun x δ3 => δ3 = δ1 ∧ wGrp g dk dx Q ds (grpD gs k x) δ1
def dGroup (i : Nat) (w : dI) (g : dG) (dk dx : dE) : dS := fun W N δ => w W δ fun ds δ1 => δ1.sl[i]? = some (.ownK []) ∧
  wGrp g dk dx (fun gs δ2 => N.nx (setSl δ2 i (.ownK (gs.map fun e => (e.1, .lst e.2))))) ds [] (setSl δ1 i .un)
end Ev
namespace Ev
open PySem PySem.Spec PyProof.Rows L2
variable [TabC]
variable {K : PySem.W.Frag} {S S' H H' : Hp} {B : Bs} {δ : DS} {σ : L2.St}
section
variable {X : Cx} {E : EK} {e a b c : Expr} {es : List Expr} {pos p ap cp : Pos} {da db : dE} {x : Str}
/-- a dict with tuple keys, with keys numbers or texts -/
def asT : D → Option (List (List Key × D)) | .dT es => some es | .fT es => some es | _ => none
def asK : D → Option (List (Key × D)) | .dK es => some es | .fK es => some es | _ => none
theorem asT_at {v : V} {d : D} {es : List (List Key × D)} (n : Dn K S v d) (h : asT d = some es) : ∃ a kvs, v = .ref a ∧ Rd S a (.dT kvs) ∧ KvR K S kvs es := by
  cases n with
  | dT h1 h2 h3 => cases h; exact ⟨_, _, rfl, .inl h1, h2, h3⟩
  | fT h1 h2 h3 => cases h; exact ⟨_, _, rfl, .inr ⟨_, h1⟩, h2, h3⟩
  | _ => cases h
theorem asK_at {v : V} {d : D} {es : List (Key × D)} (n : Dn K S v d) (h : asK d = some es) : ∃ a kvs, v = .ref a ∧ Rd S a (.dK kvs) ∧ KvR K S kvs es := by
  cases n with
  | dK h1 h2 h3 => cases h; exact ⟨_, _, rfl, .inl h1, h2, h3⟩
  | fK h1 h2 h3 => cases h; exact ⟨_, _, rfl, .inr ⟨_, h1⟩, h2, h3⟩
  | _ => cases h
/-- the items of a list, a tuple; the keys of a dict -/
def itemsOf (d : D) : Option (List D) := match d with
  | .lst ds => some ds
  | .tup ds => some ds
  | .dT es => some (keyD es)
  | .fT es => some (keyD es)
  | .dK es => some (keyDK es)
  | .fK es => some (keyDK es)
  | _ => none
def rSrtA : DRF := fun xs Q => match xs with | [d] => optQ (itemsOf d) fun ds => srtOk ds ∧ Q (sortD ds) | _ => False
/-- len of whatever has items -/
def rLenA : DRC := fun xs Q => match xs with | [d] => optQ (itemsOf d) fun ds => Q (.int ds.length) | _ => False
/-- what a dict holds at y -/
def dictAt (d y : D) : Option (Option D) := match asT d with
  | some es => y.keyT.map (valD es)
  | none => match asK d with
    | some es => y.key.map (valD es)
    | none => none
theorem dictAt_get {v u : V} {d y : D} {r : Option D} (sb : Sb S H) (n : Dn K S v d) (m : Dn K S u y) (h : dictAt d y = some r) : ∃ a o, v = .ref a ∧ DGet H a u o ∧ ((o = none ∧ r = none) ∨ ∃ v d, o = some v ∧ r = some d ∧ Dn K S v d) := by
  unfold dictAt at h
  cases hT : asT d with
  | some es =>
    rw [hT] at h
    obtain ⟨a, kvs, rfl, h1, h2⟩ := asT_at n hT
    cases hk : y.keyT with
    | none => simp only [hk] at h; cases h
    | some k =>
      simp only [hk] at h; cases h
      obtain ⟨b, rfl, hb⟩ := m.keyT hk
      refine ⟨a, _, rfl, .inr ⟨kvs, k, b, sb.ex.rd h1, rfl, sb _ _ hb, rfl⟩, ?_⟩
      rcases h2.get (k := k) with ⟨q1, q2⟩ | ⟨v, d, q1, q2, q3⟩
      · exact .inl ⟨q1, q2⟩
      · exact .inr ⟨v, d, q1, q2, q3⟩
  | none =>
    rw [hT] at h
    cases hK : asK d with
    | none => simp only [hK] at h; cases h
    | some es =>
      simp only [hK] at h
      obtain ⟨a, kvs, rfl, h1, h2⟩ := asK_at n hK
      cases hk : y.key with
      | none => simp only [hk] at h; cases h
      | some k =>
        simp only [hk] at h; cases h
        rw [m.key hk]
        refine ⟨a, _, rfl, .inl ⟨kvs, k, sb.ex.rd h1, rfl, rfl⟩, ?_⟩
        rcases h2.get (k := k) with ⟨q1, q2⟩ | ⟨v, d, q1, q2, q3⟩
        · exact .inl ⟨q1, q2⟩
        · exact .inr ⟨v, d, q1, q2, q3⟩
/-- e in d, e not in d, d a dict -/
def dInV (neg : Bool) (db da : dE) : dE := fun W δ Q => db W δ fun y δ1 => da W δ1 fun z δ2 => optQ (dictAt z y) fun r => Q (.bl (if neg then !r.isSome else r.isSome)) δ2
/-- d[e], d a dict -/
def dIxV (da db : dE) : dE := fun W δ Q => da W δ fun z δ1 => db W δ1 fun y δ2 => optQ (dictAt z y) fun r => optQ r fun d => Q d δ2
theorem de_ixV (hu : X.A.units + 1 < cLine) (hv : DE X E a da) (hb : DE X E b db) (hs : NoSl b) : DE X E (.Subscript a b pos) (dIxV da db) := ⟨fun B => pe_mono (pe_dget hu (hv.run B) (hb.run B) hs) fun σ H Q q => by
  obtain ⟨δ, S, W, Q', R, q, xo, post⟩ := q
  refine ⟨δ, S, W, _, R, q, xo, fun z δ1 w S1 H1 q1 e1 R1 n1 => ?_⟩
  refine ⟨δ1, S1, W, _, R1, q1, xo.mono e1, fun y δ2 u S2 H2 q2 e2 R2 n2 => ?_⟩
  obtain ⟨r, h1, q2⟩ := optQ_ex q2
  obtain ⟨d, h2, q2⟩ := optQ_ex q2
  obtain ⟨a', o, rfl, g, wd⟩ := dictAt_get R2.ex (n1.mono e2) n2 h1
  subst h2
  rcases wd with ⟨_, h3⟩ | ⟨v, d', rfl, h3, n3⟩
  · cases h3
  · cases h3
    exact ⟨a', v, rfl, g, post _ _ _ _ _ q2 (e1.trans e2) R2 n3⟩⟩
end
end Ev
namespace Ev
open PySem PySem.Spec PyProof.Rows L2
variable [TabC]
section
variable {X : Cx}
def rIsTF (neg : Bool) : DR2 := fun x y Q => match x, y with | .bl a, .bl b => Q (.bl (if neg then !decide (a = b) else decide (a = b))) | _, _ => False
theorem od_notB : OpD X (compareOp .IsNot) (rIsTF true) := fun pins s σ H x y v u Q I rx ry ⟨S, dx, dy, Q', ex, n1, n2, q, post⟩ => by
  cases dx with
  | bl a =>
    cases dy with
    | bl b =>
      cases n1; cases n2
      exact op_isnot_bl pins s σ H _ _ v u Q I rx ry ⟨a, b, rfl, rfl, post _ _ _ _ q (Grow.refl ex) (.bl _)⟩
    | _ => exact q.elim
  | _ => exact q.elim
end
end Ev
namespace Pt
open PySem PySem.Spec PyProof.Rows L2 Ev
variable [TabC]
abbrev Spt := Int × Int
abbrev Grp := List (Int × List Int)
def gAdd (G : Grp) (s : Spt) : Grp := if (G.any fun g => decide (g.1 = s.2)) = true then G.map (fun g => if g.1 = s.2 then (g.1, g.2 ++ [s.1]) else g) else G ++ [(s.2, [s.1])]
structure GOk (G : Grp) (pre : List Spt) : Prop where
  nd : (G.map (·.1)).Nodup
  eq : ∀ g ∈ G, g.2 = (pre.filter fun s => decide (s.2 = g.1)).map (·.1)
  all : ∀ s ∈ pre, ∃ g ∈ G, g.1 = s.2
  ne : ∀ g ∈ G, ∃ s ∈ pre, s.2 = g.1
  len : G.length ≤ pre.length
theorem GOk.nil : GOk [] [] := ⟨.nil, fun _ h => (nomatch h), fun _ h => (nomatch h), fun _ h => (nomatch h), Nat.le_refl _⟩
theorem GOk.add {G : Grp} {pre : List Spt} (h : GOk G pre) (s : Spt) : GOk (gAdd G s) (pre ++ [s]) := by
  unfold gAdd
  by_cases q : (G.any fun g => decide (g.1 = s.2)) = true
  · rw [if_pos q]
    have em : (G.map fun g => if g.1 = s.2 then (g.1, g.2 ++ [s.1]) else g).map (·.1) = G.map (·.1) := by
      rw [List.map_map]
      refine List.map_congr_left fun g _ => ?_
      simp only [Function.comp]
      split <;> rfl
    refine ⟨by rw [em]; exact h.nd, fun g hg => ?_, fun t ht => ?_, fun g hg => ?_, by rw [List.length_map, List.length_append]; have := h.len; omega⟩
    · obtain ⟨g0, h0, rfl⟩ := List.mem_map.mp hg
      rw [List.filter_append, List.map_append]
      by_cases z : g0.1 = s.2
      · rw [if_pos z]
        show g0.2 ++ [s.1] = _
        rw [h.eq g0 h0]
        simp [z]
      · rw [if_neg z, h.eq g0 h0]
        have : decide (s.2 = g0.1) = false := decide_eq_false fun e => z e.symm
        simp [this]
    · have key : ∀ y, y ∈ G.map (·.1) → ∃ g ∈ G.map fun g => if g.1 = s.2 then (g.1, g.2 ++ [s.1]) else g, g.1 = y := fun y hy => by
        rw [← em] at hy
        obtain ⟨g, h1, h2⟩ := List.mem_map.mp hy
        exact ⟨g, h1, h2⟩
      rcases List.mem_append.mp ht with ht | ht
      · obtain ⟨g, h1, h2⟩ := h.all t ht
        exact key _ (List.mem_map.mpr ⟨g, h1, h2⟩)
      · rw [List.mem_singleton] at ht; subst ht
        obtain ⟨g, h1, h2⟩ := List.any_eq_true.mp q
        exact key _ (List.mem_map.mpr ⟨g, h1, of_decide_eq_true h2⟩)
    · obtain ⟨g0, h0, rfl⟩ := List.mem_map.mp hg
      obtain ⟨t, t1, t2⟩ := h.ne g0 h0
      refine ⟨t, List.mem_append_left _ t1, ?_⟩
      split <;> exact t2
  · rw [if_neg q]
    have nq : ∀ g ∈ G, g.1 ≠ s.2 := fun g hg e => q (List.any_eq_true.mpr ⟨g, hg, decide_eq_true e⟩)
    refine ⟨?_, fun g hg => ?_, fun t ht => ?_, fun g hg => ?_, by rw [List.length_append, List.length_append]; have := h.len; simp; omega⟩
    · rw [List.map_append, List.nodup_append]
      refine ⟨h.nd, by simp, fun a ha b hb => ?_⟩
      obtain ⟨g, h1, rfl⟩ := List.mem_map.mp ha
      have : b = s.2 := by simpa using hb
      rw [this]; exact nq g h1
    · rw [List.filter_append, List.map_append]
      rcases List.mem_append.mp hg with hg | hg
      · rw [h.eq g hg]
        have : decide (s.2 = g.1) = false := decide_eq_false fun e => nq g hg e.symm
        simp [this]
      · rw [List.mem_singleton] at hg; subst hg
        have : (pre.filter fun t => decide (t.2 = s.2)) = [] := List.filter_eq_nil_iff.mpr fun t ht e => by
          obtain ⟨g, h1, h2⟩ := h.all t ht
          exact nq g h1 (h2.trans (of_decide_eq_true e))
        simp [this]
    · rcases List.mem_append.mp ht with ht | ht
      · obtain ⟨g, h1, h2⟩ := h.all t ht
        exact ⟨g, List.mem_append_left _ h1, h2⟩
      · rw [List.mem_singleton] at ht; subst ht
        exact ⟨_, List.mem_append_right _ (List.mem_singleton.mpr rfl), rfl⟩
    · rcases List.mem_append.mp hg with hg | hg
      · obtain ⟨t, t1, t2⟩ := h.ne g hg
        exact ⟨t, List.mem_append_left _ t1, t2⟩
      · rw [List.mem_singleton] at hg; subst hg
        exact ⟨s, List.mem_append_right _ (List.mem_singleton.mpr rfl), rfl⟩
/-- stretches of one number each -/
def units (row : List Int) : List Sg := row.map fun x => (x, x + 1)
end Pt
namespace Ev
open PySem PySem.Spec PyProof.Rows L2
variable [TabC]
variable {K : PySem.W.Frag} {S S' H H' : Hp} {B : Bs} {δ : DS} {σ : L2.St}
section
variable {X : Cx} {E : EK} {e a b c k v : Expr} {es : List Expr} {pos p ap cp : Pos} {da db dk dv : dE} {x : Str}
theorem upd_upd {H : Hp} {p : Addr} {o u : HO} : upd (upd H p o) p u = upd H p u := by
  funext b
  by_cases z : b = p
  · subst z; rw [upd_same, upd_same]
  · rw [upd_ne z, upd_ne z, upd_ne z]
def dEmptyT : dE := fun _ δ Q => Q (.fT []) δ
def dNeE (d : dE) : dE := fun W δ Q => d W δ fun x δ1 => optQ (asT x) fun es => Q (.bl (!decide (es = []))) δ1
/-- list(d): its keys -/
def rListA : DRF := fun xs Q => match xs with | [d] => (match asT d with | some es => Q (keyD es) | none => match d with | .lst ds => Q ds | .tup ds => Q ds | _ => False) | _ => False
def dDispT1 (dk dv : dE) : dE := fun _ δ Q => dk W0 δ fun y δ1 => optQ y.keyT fun ks => dv W0 δ1 fun z δ2 => Q (.fT [(ks, z)]) δ2
def mergeDT (kvs more : List (List Key × D)) : List (List Key × D) := more.foldl (fun acc kv => putD acc kv.1 kv.2) kvs
def pairsOfT : List D → Option (List (List Key × D))
  | [] => some []
  | .tup [k, v] :: r => match k.keyT, pairsOfT r with | some kk, some l => some ((kk, v) :: l) | _, _ => none
  | _ :: _ => none
def rDictPT : DRC := fun xs Q => match xs with
  | [.lst ds] => optQ (pairsOfT ds) fun kvs => Q (.dT (mergeDT [] kvs))
  | _ => False
end
end Ev
namespace Ev
open PySem PySem.Spec PyProof.Rows L2
section
/-- the pairs that were drawn -/
def ZAcc (h : Heap) (xs ys : Array Value) (lo : Nat) (acc : Array Value) (i : Nat) : Prop :=
  ∃ as : List Addr, acc.toList = as.map Value.ref ∧ as.length = i ∧ as.Pairwise (fun a b : Nat => a < b) ∧ ∀ (j : Nat) (T : Addr), as[j]? = some T → lo ≤ T ∧ ∃ x y, xs[j]? = some x ∧ ys[j]? = some y ∧ IsPair h T x y
theorem ZAcc.size {h : Heap} {xs ys : Array Value} {lo : Nat} {acc : Array Value} {i : Nat} (z : ZAcc h xs ys lo acc i) : acc.size = i := by
  obtain ⟨as, e1, e2, _⟩ := z
  rw [← Array.length_toList, e1, List.length_map, e2]
theorem ZAcc.keep {h h' : Heap} {xs ys : Array Value} {lo : Nat} {acc : Array Value} {i : Nat} (z : ZAcc h xs ys lo acc i) (k : ∀ b o, lo ≤ b → h.get? b = some o → h'.get? b = some o) : ZAcc h' xs ys lo acc i := by
  obtain ⟨as, e1, e2, e3, e4⟩ := z
  refine ⟨as, e1, e2, e3, fun j T e => ?_⟩
  obtain ⟨l, x, y, f1, f2, f3⟩ := e4 j T e
  exact ⟨l, x, y, f1, f2, k _ _ l f3⟩
theorem ZAcc.push {h h' : Heap} {xs ys : Array Value} {lo : Nat} {acc : Array Value} {i : Nat} {x y : Value} (z : ZAcc h xs ys lo acc i) (k : ∀ b o, lo ≤ b → h.get? b = some o → h'.get? b = some o) (hx : xs[i]? = some x) (hy : ys[i]? = some y)
    (hT : IsPair h' h.objs.size x y) (hl : lo ≤ h.objs.size) : ZAcc h' xs ys lo (acc.push (.ref h.objs.size)) (i + 1) := by
  obtain ⟨as, e1, e2, e3, e4⟩ := z
  refine ⟨as ++ [h.objs.size], by rw [Array.toList_push, e1, List.map_append]; rfl, by rw [List.length_append, e2]; rfl, ?_, fun j T e => ?_⟩
  · rw [List.pairwise_append]
    refine ⟨e3, List.pairwise_singleton _ _, fun a ha b hb => ?_⟩
    obtain rfl := List.mem_singleton.mp hb
    obtain ⟨j, hj, ej⟩ := List.getElem_of_mem ha
    obtain ⟨_, x, y, _, _, f3⟩ := e4 j a (by rw [List.getElem?_eq_getElem hj, ej])
    exact Heap.lt_size f3
  · by_cases hj : j < as.length
    · rw [List.getElem?_append_left hj] at e
      obtain ⟨l, x, y, f1, f2, f3⟩ := e4 j T e
      exact ⟨l, x, y, f1, f2, k _ _ l f3⟩
    · rw [List.getElem?_append_right (by omega)] at e
      have hz : j - as.length = 0 := by
        have := (List.getElem?_eq_some_iff.mp e).1
        simp only [List.length_singleton] at this
        omega
      rw [hz] at e
      obtain rfl : h.objs.size = T := Option.some.inj e
      obtain rfl : j = i := by omega
      exact ⟨hl, x, y, hx, hy, hT⟩
variable {prog : Program} {w : World} {A : Around} {R : Result → Shared → Prop} {z TI TO i1 i2 l1 l2 S lo n : Nat} {xs ys : Array Value}
end
/-- list(zip(a, b)) as a list to be -/
def dZipL (a : dA) : dF := fun W δ Q => a W δ fun xs δ1 => match xs with | [.lst ds, .lst es] => ds.length = es.length ∧ Q (zipD ds es) δ1 | _ => False
variable [TabC]
variable {K : PySem.W.Frag}
/-- list(d) of a dict of one's own: its keys -/
def dListKo (i : Nat) : dF := fun _ δ Q => match δ.sl[i]? with
  | some (.ownK es) => Q (keyDK es) δ
  | some (.dat (.dK es)) => Q (keyDK es) δ
  | _ => False
end Ev
namespace Ev
open PySem PySem.Spec PyProof.Rows L2
variable [TabC]
variable {K : PySem.W.Frag} {S S' H H' : Hp} {B : Bs} {δ : DS} {σ : L2.St}
section
variable {X : Cx} {E : EK} {a b : Expr} {p p2 pos pos2 : Pos} {da db : dE}
def dListRg (da db : dE) : dF := fun W δ Q => da W δ fun x δ1 => db W δ1 fun y δ2 => match x, y with
  | .int i, .int j => (-(2 ^ 62) ≤ i ∧ i < 2 ^ 62 ∧ -(2 ^ 62) ≤ j ∧ j < 2 ^ 62 ∧ (j - i).toNat ≤ 2 ^ 24) ∧ Q (intsFrom i (j - i).toNat) δ2
  | _, _ => False
/-- dict(list of pairs), locked at once: it may be walked -/
def rDictPf : DRC := fun xs Q => match xs with
  | [.lst ds] => optQ (pairsOf ds) fun kvs => Q (.fK (mergeD [] kvs))
  | _ => False
theorem cd_dictPf (hc : X.calm = true) : CallR X (.type "dict") (liftC X.K rDictPf) := fun pins s σ H vs us Q I r ⟨S, ds, Q', ex, n, q, post⟩ => by
  match ds, n, q with
  | [.lst ds], n, q =>
    obtain ⟨v, rfl, n1⟩ := n.one
    cases n1 with
    | lst h a =>
      obtain ⟨kvs, hk, q⟩ := optQ_ex q
      obtain ⟨ps, ks, rfl, hp, hr⟩ := pairs_read ex a hk
      refine wpAny_mono (call_dictP hc pins s σ H _ us (fun v H' => ∃ p, H p = none ∧ v = .ref p ∧ H' = upd H p (.dK (mergeK [] ks))) I r ⟨_, ps, ks, rfl, SqL.of (ex _ _ h), hp, fun p hn => ⟨p, hn, rfl, rfl⟩⟩) (fun u s' ⟨v, H', I', rv, p, hn, ev, eH⟩ => ?_) fun _ _ z => z
      subst ev eH
      obtain ⟨od, I2⟩ := I'.lock (d := p) upd_same trivial
      rw [upd_upd] at I2
      have g := Grow.new (o := .frz od (.dK (mergeK [] ks))) ex hn
      have m : KvR X.K S (mergeK [] ks) (mergeD [] kvs) := KvR.merge hr ⟨rfl, .nil⟩
      exact ⟨_, _, I2, rv, post _ _ _ _ q g (.fK upd_same m.1 (m.2.mono g.s))⟩
end
end Ev
namespace Ev
open PySem PySem.Spec PyProof.Rows L2
variable [TabC]
variable {K : PySem.W.Frag} {S S' H H' : Hp} {B : Bs} {δ : DS} {σ : L2.St}
def lookS {α : Type} (kvs : List (Str × α)) (z : Str) : Option α := (kvs.find? fun p => decide (p.1 = z)).map (·.2)
section
variable {X : Cx} {E : EK} {x : Str} {e : Expr} {pos p : Pos} {da : dE} {ds : List D} {kvs : List (Str × D)}
/-- e in NAME, e not in NAME -/
def dGdIn (neg : Bool) (kvs : List (Str × D)) (da : dE) : dE := fun W δ Q => da W δ fun y δ1 => match y with
  | .str z => Q (.bl (neg != (lookS kvs z).isSome)) δ1
  | _ => False
/-- NAME[e] -/
def dGdIx (kvs : List (Str × D)) (da : dE) : dE := fun W δ Q => da W δ fun y δ1 => match y with
  | .str z => optQ (lookS kvs z) fun d => Q d δ1
  | _ => False
end
end Ev
namespace Ev
open PySem PySem.Spec PyProof.Rows L2
variable [TabC]
variable {K : PySem.W.Frag} {S S' H H' : Hp} {B : Bs} {δ : DS} {σ : L2.St}
section
variable {X : Cx} {E : EK} {x : Str} {e : Expr} {pos p : Pos} {da : dE} {ds : List D} {kvs : List (Str × D)}
/-- e in NAME, e not in NAME: e a text or a whole number -/
def dGcIn (neg : Bool) (kvs : List (Str × D)) (da : dE) : dE := fun W δ Q => da W δ fun y δ1 => match y with
  | .str z => Q (.bl (neg != (lookS kvs z).isSome)) δ1
  | .int _ => Q (.bl neg) δ1
  | _ => False
end
def lookB {α : Type} (kvs : List (Bool × α)) (z : Bool) : Option α := (kvs.find? fun p => p.1 == z).map (·.2)
section
variable {X : Cx} {E : EK} {x : Str} {e : Expr} {pos p : Pos} {da : dE} {kvs : List (Bool × D)}
/-- NAME[e], e a bool -/
def dGbIx (kvs : List (Bool × D)) (da : dE) : dE := fun W δ Q => da W δ fun y δ1 => match y with
  | .bl z => optQ (lookB kvs z) fun d => Q d δ1
  | _ => False
end
end Ev
namespace Ev
open PySem PySem.Spec PyProof.Rows L2
variable [TabC]
variable {K : PySem.W.Frag} {S S' H H' : Hp} {B : Bs} {δ : DS} {σ : L2.St}
/-- zip(a, b, strict=True) of a tuple and a list of one length -/
def dZipS (d : dA) : dI := fun W δ Q => d W δ fun xs δ' => match xs with
  | [.kt ds, .lst es] => ds.length = es.length ∧ Q (zipD ds es) δ'
  | [.tup ds, .lst es] => ds.length = es.length ∧ Q (zipD ds es) δ'
  | _ => False
end Ev
namespace Ev
open PySem PySem.Spec PyProof.Rows L2
variable [TabC]
section
variable {X : Cx} {E : EK} {o x : Expr} {ap cp : Pos} {da dx : dE}
def dIndexE (d e : dE) : dE := fun W δ Q => d W δ fun z δ1 => match z with
  | .lst ds => e W δ1 fun y δ2 => (D.lst ds).cm ∧ y.cm ∧ optQ (firstAt ds y) fun j => Q (.int j) δ2
  | _ => False
end
def dAug (f : Int → Int → Int) (i : Nat) (d : dE) : dS := fun W N δ => match δ.sl[i]? with
  | some (.dat (.int a)) => d W δ fun y δ1 => match y with
    | .int b => N.nx (setSl δ1 i (.dat (.int (f a b))))
    | _ => False
  | _ => False
end Ev
namespace Ev
open PySem PySem.Spec PyProof.Rows L2
variable [TabC]
section
variable {X : Cx} {e : Expr} {es : List Expr} {pos p : Pos}
/-- the star's items are a list that is frozen -/
def gStarDL (n i : Nat) (r : dGs) : dG := fun d δ Q => match d with
  | .lst ds => n ≤ ds.length + 1 ∧ ds.length ≤ 16384 ∧ r (ds.take i ++ [.lst ((ds.drop i).take (ds.length + 1 - n))] ++ (ds.drop i).drop (ds.length + 1 - n)) δ Q
  | _ => False
end
end Ev
namespace Ev
open PySem PySem.Spec PyProof.Rows L2
variable [TabC]
variable {K : PySem.W.Frag} {S S' H H' : Hp} {B : Bs} {δ : DS} {σ : L2.St}
section
variable {X : Cx} {E : EK} {x : Str} {p : Pos}
/-- the pen at slot i by its name; the one at slot j, if it is the pen, rests -/
def dPenS (i j : Nat) : dE := fun W δ Q => match δ.pen, δ.sl[j]?, δ.sl[i]? with
  | some (a, c), some (.dat (.raw (.ref b))), some (.own _) => a = b ∧ (∃ (q : Nat) (ns : List Int), δ.sl[q]? = some (.law ns)) ∧ ∀ (ns : List Int) (k m : Int), ns.length ≤ 63 → 0 ≤ k → k ≤ c → 0 ≤ m → dPen1 i W { setSl δ j (.own (penD ns k m)) with pen := none } Q
  | _, _, _ => dPen1 i W δ Q
end
end Ev
namespace Ev
open PySem PySem.Spec PyProof.Rows L2
variable [TabC]
variable {K : PySem.W.Frag} {S S' H H' : Hp} {B : Bs} {δ : DS} {σ : L2.St}
section
variable {prog : Program} {w : World} {A : Around} {E : Value → Shared → Prop} {s : Shared}
theorem sliceApplied_rev {sl : Addr} {vl vu vs : Value} {n : Nat} {Q : Int × Int × Nat → Shared → Prop} (hs : s.heap.IsSliceOf sl vl vu vs) (pl : IsPart vl none) (pu : IsPart vu none) (ps : IsPart vs (some (-1)))
    (h : Q ((n : Int) - 1, -1, n) s) : wpAny (model prog w) A (Builtin.Slice.sliceApplied (.ref sl) (pure (n : Int))) Q E s := by
  obtain ⟨os, hos, hcs, hds⟩ := id hs
  unfold Builtin.Slice.sliceApplied Builtin.Slice.sliceFields
  refine wpAny_bind (wpAny_bind (wpAny_field hos hds (x := vl) rfl (wpAny_bind (wpAny_field hos hds (x := vu) rfl (wpAny_bind (wpAny_field hos hds (x := vs) rfl (wpAny_pure ?_)))))))
  refine wpAny_bind (HT.slicePart_ ps ?_)
  show wpAny _ _ (if ((-1 : Int) == 0) = true then _ else _) _ _ s
  rw [if_neg (by decide)]
  refine wpAny_bind (HT.slicePart_ pl (wpAny_bind (HT.slicePart_ pu (wpAny_bind (wpAny_pure ?_)))))
  have e : Builtin.Slice.slicePlaces ((n : Int) - 1) (-1) (-1) = n := by
    unfold Builtin.Slice.slicePlaces
    have h1 : ¬ ((-1 : Int) > 0) := by omega
    simp only [h1, if_false]
    rw [show (- -1 : Int) = 1 by decide, Int.ediv_one]
    split <;> omega
  show wpAny _ _ (pure ((n : Int) - 1, (-1 : Int), Builtin.Slice.slicePlaces ((n : Int) - 1) (-1) (-1))) _ _ s
  rw [e]
  exact wpAny_pure h
theorem pick_rev (xs : Array Value) : ((List.range xs.size).filterMap fun (m : Nat) => xs[(((xs.size : Int) - 1) + (m : Int) * -1).toNat]?).toArray = xs.toList.reverse.toArray := by
  have e : (fun (m : Nat) => xs[(((xs.size : Int) - 1) + (m : Int) * -1).toNat]?) = (fun k => xs[k]?) ∘ fun m => xs.size - 1 - m := by
    funext m
    have : (((xs.size : Int) - 1) + (m : Int) * -1).toNat = xs.size - 1 - m := by omega
    show xs[(((xs.size : Int) - 1) + (m : Int) * -1).toNat]? = xs[xs.size - 1 - m]?
    rw [this]
  rw [e, ← List.filterMap_map, PySem.W.krv_range, List.filterMap_reverse, PySem.W.krv_all]
theorem getItem_tuple_rev {t sl : Addr} {items : Array Value} {vl vu vs : Value} {Q : Value → Shared → Prop} (ht : IsTup s.heap t items) (hs : s.heap.IsSliceOf sl vl vu vs) (pl : IsPart vl none) (pu : IsPart vu none) (ps : IsPart vs (some (-1)))
    (h : Q (.ref s.heap.objs.size) { s with heap := s.heap.push { cls := .type "tuple", data := .seq items.toList.reverse.toArray } })
    (hsz : items.size ≤ sizeLine) : wpAny (model prog w) A (getItem (.ref t) (.ref sl)) Q E s := by
  have htake : sizeOk (.seq items.toList.reverse.toArray) := by
    show items.toList.reverse.toArray.size ≤ sizeLine
    rw [List.size_toArray, List.length_reverse, Array.length_toList]
    omega
  obtain ⟨os, hos, hcs, hds⟩ := id hs
  have hTs : s.TypeIs (.ref sl) "slice" := ⟨os, hos, hcs⟩
  unfold getItem
  try with_reducible refine wpAny_holding ?_
  first | refine wpAny_bind (wpAny_pure ?_) | skip
  refine wpAny_bind (wpAny_sequenceKey ht.typeIs (by decide) ?_)
  refine wpAny_bind (wpAny_callSpecial?_slot (name := Str.ofString "__getitem__") ht.typeIs PyProof.Rows.slot_tuple_getitem
    (wpAny_call_entry PyProof.Rows.slot_tuple_getitem ht.typeIs entry_tuple_getitem ?_ (args_tuple_getitem _ _)))
  show wpAny _ _ (Builtin.Tuple.tupleItemsOf (.ref t) >>= _) _ _ s
  refine wpAny_bind (tupleItemsOf_ ht ?_)
  refine wpAny_bind (wpAny_typeOf hTs ?_)
  rw [if_pos (by decide)]
  refine wpAny_bind (sliceApplied_rev hs pl pu ps ?_)
  have hno : ¬ ((((items.size : Int) - 1) == 0 && (-1 : Int) == 1 && items.size == items.size) = true) := by
    intro q
    rw [Bool.and_eq_true, Bool.and_eq_true] at q
    exact absurd q.1.2 (by decide)
  show wpAny _ _ (if (((items.size : Int) - 1) == 0 && (-1 : Int) == 1 && items.size == items.size) = true then _ else _) _ _ s
  rw [if_neg hno, pick_rev]
  first
    | exact wpAny_bind (m := Builtin.Tuple.tupleExact _) (wpAny_newObj_type (wpAny_pure ⟨_, rfl, wpAny_pure h⟩) htake)
    | exact wpAny_bind (m := Builtin.Tuple.tupleExact _) (wpAny_newObj_type (wpAny_bind (wpAny_pure (wpAny_pure ⟨_, rfl, wpAny_pure h⟩))) htake)
    | exact wpAny_bind (wpAny_bind (m := Builtin.Tuple.tupleExact _) (wpAny_newObj_type (wpAny_pure (wpAny_pure ⟨_, rfl, wpAny_pure h⟩)) htake))
    | exact wpAny_bind (wpAny_bind (m := Builtin.Tuple.tupleExact _) (wpAny_newObj_type (wpAny_pure ⟨_, rfl, wpAny_pure h⟩) htake))
end
section
variable {X : Cx} {E : EK} {e a b c : Expr} {es : List Expr} {pos p p2 q : Pos} {da db : dE} {x : Str}
def tRevX (K : PySem.W.Frag) (te : TE) : TE := fun σ H Q => te σ H fun x H1 => (∃ a xs, x = .ref a ∧ SqL K H1 a xs ∧ ∀ p, H1 p = none → Q (.ref p) (upd H1 p (.lst xs.reverse))) ∨ ∃ a xs, x = .ref a ∧ SqT K H1 a xs ∧ ∀ p, H1 p = none → Q (.ref p) (upd H1 p (.tup xs.reverse))
theorem pe_revX {e : Expr} {te : TE} {k : Nat} {p1 p2 p3 pos : Pos} (he : PE X e te) : PE X (.Subscript e (.Slice none none (some (.UnaryOp .USub (.Constant (.int 1) k p1) p2)) p3) pos) (tRevX X.K te) := by
  refine ⟨fun pins s σ H Q I h => ?_⟩
  refine Subscript_ (thn (he.run pins s σ H _ I h) fun v s1 ⟨x, H1, I1, r1, q1⟩ => ?_)
  have hst : PO X (some (.UnaryOp .USub (.Constant (.int 1) k p1) p2)) (tPart (tUn (rU fun i => .int (-i)) (tC (.int 1)))) := po_some (pe_un un_neg pe_int)
  refine wpAny_Slice (thn (po_none.run pins s1 σ H1 (fun o H2 => o = none ∧ H2 = H1) I1 ⟨rfl, rfl⟩) fun vl s2 ⟨l, H2, I2, pl, el, e2⟩ => ?_)
  subst el e2
  refine thn (po_none.run pins s2 σ H2 (fun o H3 => o = none ∧ H3 = H2) I2 ⟨rfl, rfl⟩) fun vu s3 ⟨u, H3, I3, pu, eu, e3⟩ => ?_
  subst eu e3
  refine thn (hst.run pins s3 σ H3 (fun o H4 => o = some (-1) ∧ H4 = H3) I3 ⟨1, rfl, -1, rfl, rfl, rfl⟩) fun vs s4 ⟨o, H4, I4, ps, eo, e4⟩ => ?_
  subst eo e4
  have I5 : Inv X pins σ H4 { s4 with heap := s4.heap.push { cls := .type "slice", data := .fields #[vl, vu, vs] } } := I4.kept (t' := s4.toks) fun b ob q => Heap.get?_push_of_some _ q
  rcases q1 with ⟨a, xs, ex, hx, q⟩ | ⟨a, xs, ex, hx, q⟩
  · subst ex
    cases r1
    obtain ⟨its, r, ht, hz⟩ := I5.list hx
    have hlen := r.length
    show wpAny (model X.prog X.w) X.A (subscriptTail e (.Slice none none (some (.UnaryOp .USub (.Constant (.int 1) k p1) p2)) p3) (.ref a) (.ref s4.heap.objs.size)) (EP X pins σ Q) X.xe { s4 with heap := s4.heap.push { cls := .type "slice", data := .fields #[vl, vu, vs] } }
    refine tail_any (ops := [.ref a, .ref s4.heap.objs.size]) ht.isList.typeIs (PySem.slot_list_getitem.lookup) ?_ (by with_unfolding_all rfl)
    refine wpAny_getItem_list_slice ht.isList (Heap.IsSliceOf.new _ vl vu vs) pl pu ps (by decide) ?_ (by rw [List.size_toArray]; omega)
    rw [PySem.W.krv_pick]
    refine ⟨.ref _, _, I5.laid (t' := s4.toks) (o := .lst xs.reverse) (fun b ob q => Heap.get?_push_of_some _ q) (Nat.le_refl _) ?_, rfl, q _ (I5.hok.fresh (Nat.le_refl _))⟩
    exact ⟨by rw [List.length_reverse]; exact hz, _, 0, r.reverse, Heap.get?_push_size _ rfl⟩
  · subst ex
    cases r1
    obtain ⟨its, r, ht, hz⟩ := I5.tuple hx
    have hlen := r.length
    show wpAny (model X.prog X.w) X.A (subscriptTail e (.Slice none none (some (.UnaryOp .USub (.Constant (.int 1) k p1) p2)) p3) (.ref a) (.ref s4.heap.objs.size)) (EP X pins σ Q) X.xe { s4 with heap := s4.heap.push { cls := .type "slice", data := .fields #[vl, vu, vs] } }
    refine tail_any (ops := [.ref a, .ref s4.heap.objs.size]) ht.typeIs (PyProof.Rows.slot_tuple_getitem.lookup) ?_ (by with_unfolding_all rfl)
    refine getItem_tuple_rev ht (Heap.IsSliceOf.new _ vl vu vs) pl pu ps ?_ (by rw [List.size_toArray]; omega)
    refine ⟨.ref _, _, I5.laid (t' := s4.toks) (o := .tup xs.reverse) (fun b ob q => Heap.get?_push_of_some _ q) (Nat.le_refl _) ?_, rfl, q _ (I5.hok.fresh (Nat.le_refl _))⟩
    exact ⟨by rw [List.length_reverse]; exact hz, _, by simpa using r.reverse, IsTup.new _ _⟩
/-- x[::-1] of a list or a tuple, as data -/
def dRevX (d : dE) : dE := fun W δ Q => d W δ fun x δ1 => match x with | .lst ds => Q (.lst ds.reverse) δ1 | .tup ds => Q (.tup ds.reverse) δ1 | _ => False
theorem de_revX {k : Nat} {p1 p2 p3 : Pos} (h : DE X E e da) : DE X E (.Subscript e (.Slice none none (some (.UnaryOp .USub (.Constant (.int 1) k p1) p2)) p3) pos) (dRevX da) := ⟨fun B => pe_mono (pe_revX (h.run B)) fun σ H Q q => by
  obtain ⟨δ, S, W, Q', R, q, xo, post⟩ := q
  refine ⟨δ, S, W, _, R, q, xo, fun x δ1 v S1 H1 q1 e1 R1 n1 => ?_⟩
  match x, n1, q1 with
  | .lst ds, .lst (vs := vs) h a, q1 =>
    refine .inl ⟨_, vs, rfl, SqL.of (R1.ex _ _ h), fun p hp => ?_⟩
    have g := Grow.new (o := .lst vs.reverse) R1.ex hp
    exact post _ _ _ _ _ q1 (e1.trans g.s) (R1.grow g) (.lst upd_same (a.reverse.mono g.s))
  | .tup ds, .tup (vs := vs) h a, q1 =>
    refine .inr ⟨_, vs, rfl, SqT.of (R1.ex _ _ h), fun p hp => ?_⟩
    have g := Grow.new (o := .tup vs.reverse) R1.ex hp
    exact post _ _ _ _ _ q1 (e1.trans g.s) (R1.grow g) (.tup upd_same (a.reverse.mono g.s))⟩
def rMulX : DR2 := fun x y Q => match x, y with
  | .int i, .int j => CMul i j ∧ Q (.int (i * j))
  | .tup xs, .int k => xs ≠ [] ∧ 2 ≤ k ∧ k ≤ 1000 ∧ xs.length ≤ 1000 ∧ Q (.tup (List.replicate k.toNat xs).flatten)
  | _, _ => False
def strLt (x y : Str) : Bool := decide (x.cps.toList < y.cps.toList)
def rLtX : DR2 := fun x y Q => match x, y with
  | .int i, .int j => Q (.bl (decide (i < j)))
  | .str i, .str j => Q (.bl (strLt i j))
  | .tup xs, .tup ys => optQ (intsOf xs) fun ns => optQ (intsOf ys) fun ms => Q (.bl (HT.lexLt ns ms))
  | _, _ => False
def dLenSetN (d : dE) : dE := fun W δ Q => d W δ fun x δ1 => match x with
  | .lst ds => optQ (intsOf ds) fun ns => ns.length ≤ 4000 ∧ ∀ m : Nat, m ≤ ns.length → (m = ns.length ↔ ns.Nodup) → Q (.int (m : Nat)) δ1
  | _ => False
def dEmptyV : dE := fun _ δ Q => Q (.dT []) δ
theorem de_emptyV : DE X E (.Dict [] [] pos) dEmptyV := ⟨fun B => pe_mono pe_dnewT fun σ H Q q => by
  obtain ⟨δ, S, W, Q', R, q, xo, post⟩ := q
  intro p hp
  have g := Grow.new (o := .dT []) R.ex hp
  exact post _ _ _ _ _ q g.s (R.grow g) (.dT (kvs := []) upd_same rfl .nil)⟩
/-- x[lo:hi] of a tuple or a list, as data -/
def dSlX (d : dE) (lo hi : dO) : dE := fun W δ Q => d W δ fun x δ1 => lo W δ1 fun l δ2 => hi W δ2 fun h δ3 => match x with
  | .tup ds => Q (.tup (cutD ds l h)) δ3
  | .lst ds => Q (.lst (cutD ds l h)) δ3
  | _ => False
end
end Ev
namespace Ev
open PySem PySem.Spec PyProof.Rows L2
variable [TabC]
variable {K : PySem.W.Frag} {S S' H H' : Hp} {B : Bs} {δ : DS} {σ : L2.St}
/-- the one filled dict that may be shown: {0: 0} -/
def isD00 : List (Key × D) → Bool
  | [(.inl i, .int j)] => decide (i = 0) && decide (j = 0)
  | _ => false
theorem isD00_eq {es : List (Key × D)} (h : isD00 es = true) : es = [(.inl 0, .int 0)] := by
  unfold isD00 at h
  split at h
  · rename_i i j
    rw [Bool.and_eq_true] at h
    rw [of_decide_eq_true h.1, of_decide_eq_true h.2]
  · cases h
mutual
def D.pyR : D → PyData
  | .bl b => .bool b
  | .int i => .int i
  | .str x => .str x
  | .tup xs => .tuple (D.pyRs xs)
  | .kt xs => .tuple (D.pyRs xs)
  | .lst xs => .list (D.pyRs xs)
  | .dT _ => .dict []
  | .dK es => if isD00 es = true then .dict [(.int 0, .int 0)] else .none
  | _ => .none
def D.pyRs : List D → List PyData
  | [] => []
  | x :: xs => x.pyR :: D.pyRs xs
end
mutual
def D.okR : D → Bool
  | .non => true
  | .bl _ => true
  | .int i => decide (i.natAbs < 10 ^ 100)
  | .str x => PyData.strOk x
  | .tup xs => D.okRs xs
  | .kt xs => D.okRs xs
  | .lst xs => D.okRs xs
  | .dT es => es.isEmpty
  | .dK es => isD00 es
  | _ => false
def D.okRs : List D → Bool
  | [] => true
  | x :: xs => x.okR && D.okRs xs
end
mutual
def D.szR : D → Nat
  | .int _ => 101
  | .str x => 10 * x.length + 2
  | .tup xs => D.szRs xs + 5
  | .kt xs => D.szRs xs + 5
  | .lst xs => D.szRs xs + 5
  | .dK _ => 20
  | _ => 5
def D.szRs : List D → Nat
  | [] => 0
  | x :: xs => x.szR + 2 + D.szRs xs
end
mutual
def D.deR : D → Nat
  | .tup xs => D.deRs xs + 1
  | .kt xs => D.deRs xs + 1
  | .lst xs => D.deRs xs + 1
  | .dT _ => 1
  | .dK es => if isD00 es = true then 1 else 0
  | _ => 0
def D.deRs : List D → Nat
  | [] => 0
  | x :: xs => max x.deR (D.deRs xs)
end
theorem okRs_cons {d : D} {ds : List D} (h : D.okRs (d :: ds) = true) : d.okR = true ∧ D.okRs ds = true := by
  have h' : (d.okR && D.okRs ds) = true := h
  rw [Bool.and_eq_true] at h'
  exact h'
theorem log2_ofR {n : Nat} (h : n < 10 ^ 100) : n.log2 < 1920 := by
  by_cases z : n = 0
  · subst z; decide
  · rw [Nat.log2_lt z]
    exact Nat.lt_trans h (by decide +kernel)
mutual
theorem D.pyR_de : ∀ d : D, d.pyR.depth = d.deR
  | .non => by simp [D.pyR, PyData.depth, D.deR]
  | .bl b => by simp [D.pyR, PyData.depth, D.deR]
  | .int i => by simp [D.pyR, PyData.depth, D.deR]
  | .str x => by simp [D.pyR, PyData.depth, D.deR]
  | .tup xs => by simp [D.pyR, PyData.depth, D.deR, D.pyRs_de xs]
  | .kt xs => by simp [D.pyR, PyData.depth, D.deR, D.pyRs_de xs]
  | .lst xs => by simp [D.pyR, PyData.depth, D.deR, D.pyRs_de xs]
  | .dK es => by
    simp only [D.pyR, D.deR]
    split <;> simp [PyData.depth, PyData.depthKv]
  | .dT _ => by simp [D.pyR, PyData.depth, PyData.depthKv, D.deR]
  | .fK _ => by simp [D.pyR, PyData.depth, D.deR]
  | .fT _ => by simp [D.pyR, PyData.depth, D.deR]
  | .fN _ => by simp [D.pyR, PyData.depth, D.deR]
  | .exc _ _ _ => by simp [D.pyR, PyData.depth, D.deR]
  | .exc0 _ => by simp [D.pyR, PyData.depth, D.deR]
  | .raw _ => by simp [D.pyR, PyData.depth, D.deR]
  | .scr _ => by simp [D.pyR, PyData.depth, D.deR]
  | .fn _ _ => by simp [D.pyR, PyData.depth, D.deR]
theorem D.pyRs_de : ∀ ds : List D, PyData.depthAll (D.pyRs ds) = D.deRs ds
  | [] => by simp [D.pyRs, PyData.depthAll, D.deRs]
  | d :: ds => by simp [D.pyRs, PyData.depthAll, D.deRs, D.pyR_de d, D.pyRs_de ds]
end
mutual
theorem D.okR_sho : ∀ d : D, d.okR = true → d.pyR.showable = true
  | .non, _ => by simp [D.pyR, PyData.showable]
  | .bl b, _ => by simp [D.pyR, PyData.showable]
  | .int i, h => by
    simp only [D.pyR, PyData.showable]
    exact decide_eq_true (log2_ofR (of_decide_eq_true h))
  | .str x, _ => by simp [D.pyR, PyData.showable]
  | .tup xs, h => by simpa [D.pyR, PyData.showable] using D.okRs_sho xs h
  | .lst xs, h => by simpa [D.pyR, PyData.showable] using D.okRs_sho xs h
  | .dT _, h => by simp [D.pyR, PyData.showable, PyData.showableKv]
  | .kt xs, h => by simpa [D.pyR, PyData.showable] using D.okRs_sho xs h
  | .dK es, h => by
    have h : isD00 es = true := h
    simp only [D.pyR, if_pos h]
    decide +kernel
  | .fK _, h => by cases h
  | .fT _, h => by cases h
  | .fN _, h => by cases h
  | .exc _ _ _, h => by cases h
  | .exc0 _, h => by cases h
  | .raw _, h => by cases h
  | .scr _, h => by cases h
  | .fn _ _, h => by cases h
theorem D.okRs_sho : ∀ ds : List D, D.okRs ds = true → PyData.showableAll (D.pyRs ds) = true
  | [], _ => by simp [D.pyRs, PyData.showableAll]
  | d :: ds, h => by
    obtain ⟨h1, h2⟩ := okRs_cons h
    simp [D.pyRs, PyData.showableAll, D.okR_sho d h1, D.okRs_sho ds h2]
end
theorem dictText_nil : (dictText []).length ≤ 5 := by decide +kernel
mutual
theorem D.szR_shown : ∀ d : D, d.okR = true → d.pyR.shown.length ≤ d.szR
  | .non, _ => by simp only [D.pyR, PyData.shown, D.szR]; decide +kernel
  | .bl b, _ => by cases b <;> simp only [D.pyR, PyData.shown, D.szR] <;> decide +kernel
  | .int i, h => by
    simp only [D.pyR, PyData.shown, D.szR]
    rw [ofString_length]
    exact int_text_length_le10 (k := 100) (by decide) (of_decide_eq_true h)
  | .str x, h => by
    simp only [D.pyR, PyData.shown, D.szR]
    refine StrLaws.reprText_len x fun c hc => ?_
    have h1 : x.cps.all (· < 0x110000) = true := h
    rw [Array.all_eq_true'] at h1
    have h2 := of_decide_eq_true (h1 c (by simpa using hc))
    exact Nat.lt_trans h2 (by decide)
  | .tup xs, h => by
    simp only [D.pyR, PyData.shown, D.szR]
    have q := D.szRs_shown xs h
    have z := join2_len ", " (PyData.shownAll (D.pyRs xs))
    have hz : ((", " : String) : Str).length = 2 := by decide +kernel
    rw [hz] at z
    unfold tupleText
    rw [Str.length_append, Str.length_append]
    have h1 : (("(" : String) : Str).length = 1 := by decide +kernel
    have h2 : (Str.ofString (if (PyData.shownAll (D.pyRs xs)).length == 1 then ",)" else ")")).length ≤ 2 := by split <;> decide +kernel
    omega
  | .lst xs, h => by
    simp only [D.pyR, PyData.shown, D.szR]
    have q := D.szRs_shown xs h
    have z := listText_len_le (PyData.shownAll (D.pyRs xs))
    have e : ((PyData.shownAll (D.pyRs xs)).map fun t => t.length + 2).sum = ((PyData.shownAll (D.pyRs xs)).map (·.length)).sum + 2 * (PyData.shownAll (D.pyRs xs)).length := by
      generalize PyData.shownAll (D.pyRs xs) = l
      induction l with
      | nil => rfl
      | cons a l ih => simp only [List.map_cons, List.sum_cons, List.length_cons, ih]; omega
    omega
  | .dT _, h => by simp only [D.pyR, PyData.shown, PyData.shownKv, D.szR]; exact dictText_nil
  | .kt xs, h => by
    simp only [D.pyR, PyData.shown, D.szR]
    have q := D.szRs_shown xs h
    have z := join2_len ", " (PyData.shownAll (D.pyRs xs))
    have hz : ((", " : String) : Str).length = 2 := by decide +kernel
    rw [hz] at z
    unfold tupleText
    rw [Str.length_append, Str.length_append]
    have h1 : (("(" : String) : Str).length = 1 := by decide +kernel
    have h2 : (Str.ofString (if (PyData.shownAll (D.pyRs xs)).length == 1 then ",)" else ")")).length ≤ 2 := by split <;> decide +kernel
    omega
  | .dK es, h => by
    have h : isD00 es = true := h
    simp only [D.pyR, D.szR, if_pos h]
    decide +kernel
  | .fK _, h => by cases h
  | .fT _, h => by cases h
  | .fN _, h => by cases h
  | .exc _ _ _, h => by cases h
  | .exc0 _, h => by cases h
  | .raw _, h => by cases h
  | .scr _, h => by cases h
  | .fn _ _, h => by cases h
theorem D.szRs_shown : ∀ ds : List D, D.okRs ds = true → ((PyData.shownAll (D.pyRs ds)).map fun t => t.length + 2).sum ≤ D.szRs ds
  | [], _ => by simp [D.pyRs, PyData.shownAll, D.szRs]
  | d :: ds, h => by
    obtain ⟨h1, h2⟩ := okRs_cons h
    have a := D.szR_shown d h1
    have b := D.szRs_shown ds h2
    simp only [D.pyRs, PyData.shownAll, List.map_cons, List.sum_cons, D.szRs]
    omega
end
mutual
theorem D.okR_rep : ∀ d : D, d.okR = true → PyData.strOk d.pyR.shown = true
  | .non, _ => by simp only [D.pyR, PyData.shown]; exact strOk_lit _
  | .bl b, _ => by simp only [D.pyR, PyData.shown]; split <;> exact strOk_lit _
  | .int i, _ => by simp only [D.pyR, PyData.shown]; exact strOk_lit _
  | .str x, h => by simp only [D.pyR, PyData.shown]; exact strOk_repr h
  | .tup xs, h => by
    simp only [D.pyR, PyData.shown]
    unfold tupleText
    exact strOk_append (strOk_append (strOk_lit _) (strOk_join (strOk_lit _) _ (D.okRs_rep xs h))) (strOk_lit _)
  | .lst xs, h => by
    simp only [D.pyR, PyData.shown]
    rw [listText_eq_join]
    exact strOk_append (strOk_append (strOk_lit _) (strOk_join (strOk_lit _) _ (D.okRs_rep xs h))) (strOk_lit _)
  | .dT _, h => by simp only [D.pyR, PyData.shown, PyData.shownKv]; decide +kernel
  | .kt xs, h => by
    simp only [D.pyR, PyData.shown]
    unfold tupleText
    exact strOk_append (strOk_append (strOk_lit _) (strOk_join (strOk_lit _) _ (D.okRs_rep xs h))) (strOk_lit _)
  | .dK es, h => by
    have h : isD00 es = true := h
    simp only [D.pyR, if_pos h]
    decide +kernel
  | .fK _, h => by cases h
  | .fT _, h => by cases h
  | .fN _, h => by cases h
  | .exc _ _ _, h => by cases h
  | .exc0 _, h => by cases h
  | .raw _, h => by cases h
  | .scr _, h => by cases h
  | .fn _ _, h => by cases h
theorem D.okRs_rep : ∀ ds : List D, D.okRs ds = true → ∀ t ∈ PyData.shownAll (D.pyRs ds), PyData.strOk t = true
  | [], _ => by simp [D.pyRs, PyData.shownAll]
  | d :: ds, h => by
    obtain ⟨h1, h2⟩ := okRs_cons h
    intro t ht
    simp only [D.pyRs, PyData.shownAll, List.mem_cons] at ht
    rcases ht with rfl | ht
    · exact D.okR_rep d h1
    · exact D.okRs_rep ds h2 t ht
end
/-- small, for repr: n signs, not deeper than k -/
structure D.smR (k n : Nat) (d : D) : Prop where
  ok : d.okR = true
  sz : d.szR ≤ n
  de : d.deR ≤ k
structure D.smRs (k n : Nat) (ds : List D) : Prop where
  ok : D.okRs ds = true
  sz : D.szRs ds ≤ n
  de : D.deRs ds ≤ k
theorem D.smR.mono {k n k' n' : Nat} {d : D} (h : d.smR k n) (hk : k ≤ k') (hn : n ≤ n') : d.smR k' n' := ⟨h.ok, Nat.le_trans h.sz hn, Nat.le_trans h.de hk⟩
theorem D.smRs.mono {k n k' n' : Nat} {d : List D} (h : D.smRs k n d) (hk : k ≤ k') (hn : n ≤ n') : D.smRs k' n' d := ⟨h.ok, Nat.le_trans h.sz hn, Nat.le_trans h.de hk⟩
theorem D.smRs.nil {k n : Nat} : D.smRs k n [] := ⟨rfl, Nat.zero_le _, Nat.zero_le _⟩
theorem D.smRs.cons {k n m : Nat} {d : D} {ds : List D} (h : d.smR k n) (hs : D.smRs k m ds) : D.smRs k (n + 2 + m) (d :: ds) :=
  ⟨by show (d.okR && D.okRs ds) = true; rw [h.ok, hs.ok]; rfl, by have := h.sz; have := hs.sz; show d.szR + 2 + D.szRs ds ≤ _; omega, Nat.max_le.mpr ⟨h.de, hs.de⟩⟩
theorem D.smRs.mem {k n : Nat} : ∀ {ds : List D}, D.smRs k n ds → ∀ d ∈ ds, d.smR k n
  | d :: ds, h, x, hx => by
    obtain ⟨h1, h2⟩ := okRs_cons h.ok
    have z : d.szR + 2 + D.szRs ds ≤ n := h.sz
    have y : max d.deR (D.deRs ds) ≤ k := h.de
    rcases List.mem_cons.mp hx with rfl | hx
    · exact ⟨h1, by omega, by omega⟩
    · exact D.smRs.mem (ds := ds) ⟨h2, by omega, by omega⟩ x hx
theorem D.smRs.all {k n m : Nat} : ∀ {ds : List D}, (∀ d ∈ ds, d.smR k n) → ds.length ≤ m → D.smRs k ((n + 2) * m) ds
  | [], _, _ => .nil
  | d :: ds, h, hl => by
    cases m with
    | zero => simp at hl
    | succ m =>
      have q := D.smRs.cons (h d List.mem_cons_self) (D.smRs.all (m := m) (fun z hz => h z (List.mem_cons_of_mem _ hz)) (by simpa using hl))
      refine ⟨q.ok, Nat.le_trans q.sz ?_, q.de⟩
      rw [Nat.mul_succ]; omega
theorem D.smR.tup {k n : Nat} {ds : List D} (h : D.smRs k n ds) : (D.tup ds).smR (k + 1) (n + 5) := ⟨h.ok, by have := h.sz; show D.szRs ds + 5 ≤ _; omega, by have := h.de; show D.deRs ds + 1 ≤ _; omega⟩
theorem D.smR.lst {k n : Nat} {ds : List D} (h : D.smRs k n ds) : (D.lst ds).smR (k + 1) (n + 5) := ⟨h.ok, by have := h.sz; show D.szRs ds + 5 ≤ _; omega, by have := h.de; show D.deRs ds + 1 ≤ _; omega⟩
theorem D.smR.kt {k n : Nat} {ds : List D} (h : D.smRs k n ds) : (D.kt ds).smR (k + 1) (n + 5) := ⟨h.ok, by have := h.sz; show D.szRs ds + 5 ≤ _; omega, by have := h.de; show D.deRs ds + 1 ≤ _; omega⟩
theorem D.smR.int {k : Nat} {i : Int} (h : i.natAbs < 10 ^ 100) : (D.int i).smR k 101 := ⟨decide_eq_true h, Nat.le_refl _, Nat.zero_le _⟩
theorem D.smR.str {k n : Nat} {x : Str} (h : PyData.strOk x = true) (hn : x.length ≤ n) : (D.str x).smR k (10 * n + 2) := ⟨h, by show 10 * x.length + 2 ≤ _; omega, Nat.zero_le _⟩
theorem D.smR.non {k : Nat} : D.non.smR k 5 := ⟨rfl, Nat.le_refl _, Nat.zero_le _⟩
theorem D.smR.bl {k : Nat} {b : Bool} : (D.bl b).smR k 5 := ⟨rfl, Nat.le_refl _, Nat.zero_le _⟩
def D.repR (d : D) : Str := d.pyR.shown
theorem D.smR.rep {k n : Nat} {d : D} (h : d.smR k n) : PyData.strOk d.repR = true := D.okR_rep d h.ok
section
variable {X : Cx} {pins : List (Addr × Obj)} {s : Shared}
theorem emp_at (I : Inv X pins σ H s) (ex : Sb S H) {a : Addr} {kvs : List (List Key × V)} (h : S a = some (.dT kvs)) (e : kvs = []) : (a == sysModules) = false ∧ ∃ o n, s.heap.get? a = some o ∧ o.cls = .type "dict" ∧ o.data = .dict #[] n := by
  subst e
  obtain ⟨_, hs, xs, r, o, es, ep, h1, h2, h3, h4, _⟩ := dt_of I.hok (ex _ _ h)
  cases r
  have hz : es.toList.length = 0 := by
    have := congrArg List.length h4
    simpa using this
  have he : es = #[] := by
    cases es with
    | mk l => cases l with
      | nil => rfl
      | cons a b => simp at hz
  subst he
  exact ⟨hs, o, ep, h1, h2.1, h3⟩
theorem d00_at (I : Inv X pins σ H s) (ex : Sb S H) {a : Addr} {kvs : List (Key × V)} (hs : S a = some (.dK kvs)) (hk : kvs.map (·.1) = [(Sum.inl 0 : Key)]) (ha : DnA X.K S (kvs.map (·.2)) [D.int 0]) :
    (a == sysModules) = false ∧ ∃ o es ep e t1 t2, s.heap.get? a = some o ∧ o.cls = .type "dict" ∧ o.data = .dict es ep ∧ es.toList = [e] ∧ e.key = .int 0 t1 ∧ e.val = .int 0 t2 := by
  obtain ⟨v, e2⟩ : ∃ v, kvs = [(.inl 0, v)] := by
    match kvs, hk with
    | [(k, v)], hk =>
      simp only [List.map_cons, List.map_nil, List.cons.injEq, and_true] at hk
      exact ⟨v, by rw [hk]⟩
  subst e2
  have hv : v = .int 0 := by
    cases ha with
    | cons h1 _ => cases h1; rfl
  subst hv
  obtain ⟨_, hsys, vs, kv, o, es, ep, h1, h2, h3, _, pr, _⟩ := dk_of I.hok (ex _ _ hs)
  obtain ⟨q, qs, rfl, hq, hqs⟩ : ∃ q qs, vs = q :: qs ∧ ((Sum.inl 0 : Key) = q.1 ∧ RelV (.int 0) q.2) ∧ qs = [] := by
    cases kv with
    | cons h t => cases t; exact ⟨_, _, rfl, h, rfl⟩
  subst hqs
  obtain ⟨e, hes, he1, he2⟩ : ∃ e, es.toList = [e] ∧ (mixKind X.prog X.w).is q.1 e.key = true ∧ e.val = q.2 := by
    generalize es.toList = l at pr
    cases pr with
    | cons a b t => cases t; exact ⟨_, rfl, a, b⟩
  rw [← hq.1, mixKind_is] at he1
  obtain ⟨t1, hkey⟩ : ∃ t, e.key = .int 0 t := by
    rcases keyIs_shape he1 with ⟨i, t, e3, e4⟩ | ⟨x, t, e3, e4⟩
    · cases e3; exact ⟨t, e4⟩
    · cases e3
  obtain ⟨t2, hval⟩ : ∃ t, e.val = .int 0 t := by
    obtain ⟨t, ht⟩ := hq.2
    exact ⟨t, by rw [he2]; exact ht⟩
  exact ⟨hsys, o, es, ep, e, t1, t2, h1, h2.1, h3, hes, hkey, hval⟩
theorem d00_reads {h : Heap} {a : Addr} {o : Obj} {es : Array DictEntry} {ep : Nat} {e : DictEntry} {t1 t2 : Tok} (h1 : h.get? a = some o) (h2 : o.cls = .type "dict") (h3 : o.data = .dict es ep) (hes : es.toList = [e]) (hkey : e.key = .int 0 t1) (hval : e.val = .int 0 t2) :
    Reads h (.ref a) (.dict [(.int 0, .int 0)]) (a :: ([] ++ []) ++ ([] ++ [])) := by
  refine .dict h1 h2 h3 ?_ ?_
  · rw [hes, List.map_cons, hkey]
    exact .cons (.int 0 t1) .nil
  · rw [hes, List.map_cons, hval]
    exact .cons (.int 0 t2) .nil
mutual
theorem reprK_D {prog : Program} {w : World} (I : Inv X pins σ H s) (ex : Sb S H) : ∀ (d : D) (v : V) (u : Value), Dn X.K S v d → RelV v u → d.okR = true → d.szR ≤ sizeLine →
    (∃ as, Reads s.heap u d.pyR as) ∧ ∃ bs, ReadAtMost s.heap d.pyR.depth bs ∧ ReprK prog w bs s.heap d.pyR.depth u d.pyR.shown
  | .non, _, _, h, r, _, _ => by
    cases h; cases r
    exact ⟨⟨_, .none⟩, [], (fun _ h => nomatch h), by simp only [D.pyR, PyData.shown]; exact .of_is ReprIs.none _ _ _⟩
  | .bl b, _, _, h, r, _, _ => by
    cases h; cases r
    exact ⟨⟨_, .bool b⟩, [], (fun _ h => nomatch h), by simp only [D.pyR, PyData.shown]; exact .of_is (ReprIs.bool b) _ _ _⟩
  | .int i, _, _, h, r, ok, _ => by
    cases h; obtain ⟨t, rfl⟩ := r
    exact ⟨⟨_, .int i t⟩, [], (fun _ h => nomatch h), by simp only [D.pyR, PyData.shown]; exact .of_is (ReprIs.int t (by simpa [D.pyR, PyData.showable] using D.okR_sho (.int i) ok)) _ _ _⟩
  | .str x, _, _, h, r, ok, z => by
    cases h; obtain ⟨t, rfl⟩ := r
    exact ⟨⟨_, .str x t⟩, [], (fun _ h => nomatch h), by
      simp only [D.pyR, PyData.shown]
      exact .of_is (ReprIs.str x t (by have := D.szR_shown (.str x) ok; simp only [D.pyR, PyData.shown] at this; exact Nat.le_trans this z)) _ _ _⟩
  | .tup xs, _, _, h, r, ok, z => by
    cases h with
    | @tup a vs _ hs ha =>
      cases r
      obtain ⟨its, rv, ⟨o, h1, h2, n, h3⟩, _⟩ := I.tuple (SqT.of (ex _ _ hs))
      have z' : D.szRs xs + 5 ≤ sizeLine := z
      obtain ⟨⟨as, h4⟩, bs, hb, hk⟩ := reprK_Ds (prog := prog) (w := w) I ex xs vs its ha rv ok (by omega)
      have r : Reads s.heap (.ref a) (.tuple (D.pyRs xs)) _ := .tuple h1 h2 h3 h4
      have hna : a ∉ bs := not_mem_of_deeper r (by simp only [PyData.depth]; omega) hb
      refine ⟨⟨_, by simp only [D.pyR]; exact r⟩, a :: bs, ?_, ?_⟩
      · simp only [D.pyR]; exact ReadAtMost.cons r (by simp only [PyData.depth]; omega) hb
      · simp only [D.pyR, PyData.depth, PyData.shown]
        exact ReprK.tuple h1 h2 h3 hna hk
  | .lst xs, _, _, h, r, ok, z => by
    cases h with
    | @lst a vs _ hs ha =>
      cases r
      obtain ⟨its, rv, ⟨o, n, h1, h2, _, h3⟩, _⟩ := I.list (SqL.of (ex _ _ hs))
      have z' : D.szRs xs + 5 ≤ sizeLine := z
      obtain ⟨⟨as, h4⟩, bs, hb, hk⟩ := reprK_Ds (prog := prog) (w := w) I ex xs vs its ha rv ok (by omega)
      have r : Reads s.heap (.ref a) (.list (D.pyRs xs)) _ := .list h1 h2 h3 h4
      have hna : a ∉ bs := not_mem_of_deeper r (by simp only [PyData.depth]; omega) hb
      refine ⟨⟨_, by simp only [D.pyR]; exact r⟩, a :: bs, ?_, ?_⟩
      · simp only [D.pyR]; exact ReadAtMost.cons r (by simp only [PyData.depth]; omega) hb
      · simp only [D.pyR, PyData.depth, PyData.shown]
        cases its with
        | nil =>
          generalize D.pyRs xs = ys at h4
          cases h4
          simp only [PyData.shownAll, listText_nil]
          exact ReprK.listEmpty h1 h2 h3
        | cons x l => exact ReprK.list h1 h2 h3 hna (by simpa using hk.length_eq) (fun i y e => hk.item i y (by simpa using e))
  | .dT es, _, _, h, r, ok, z => by
    cases h with
    | @dT a kvs _ hs hk ha =>
      cases r
      have e1 : es = [] := by simpa [D.okR] using ok
      subst e1
      obtain ⟨hsys, o, n, h1, h2, h3⟩ := emp_at I ex hs (by simpa using hk)
      have r : Reads s.heap (.ref a) (.dict []) _ := .dict h1 h2 h3 .nil .nil
      refine ⟨⟨_, by simp only [D.pyR]; exact r⟩, a :: [], ?_, ?_⟩
      · simp only [D.pyR]; exact ReadAtMost.cons (n := 0) r (Nat.zero_le _) fun _ h => nomatch h
      · simp only [D.pyR, PyData.depth, PyData.depthKv, PyData.shown, PyData.shownKv]
        exact ReprK.dict h1 h2 h3 hsys (fun h => nomatch h) .nil
  | .kt xs, _, _, h, r, ok, z => by
    cases h with
    | @kt a vs _ hs ha =>
      cases r
      obtain ⟨its, rv, ⟨o, h1, h2, n, h3⟩, _⟩ := I.tuple (hs.sqT ex)
      have z' : D.szRs xs + 5 ≤ sizeLine := z
      obtain ⟨⟨as, h4⟩, bs, hb, hk⟩ := reprK_Ds (prog := prog) (w := w) I ex xs vs its ha rv ok (by omega)
      have r : Reads s.heap (.ref a) (.tuple (D.pyRs xs)) _ := .tuple h1 h2 h3 h4
      have hna : a ∉ bs := not_mem_of_deeper r (by simp only [PyData.depth]; omega) hb
      refine ⟨⟨_, by simp only [D.pyR]; exact r⟩, a :: bs, ?_, ?_⟩
      · simp only [D.pyR]; exact ReadAtMost.cons r (by simp only [PyData.depth]; omega) hb
      · simp only [D.pyR, PyData.depth, PyData.shown]
        exact ReprK.tuple h1 h2 h3 hna hk
  | .dK es, _, _, h, r, ok, z => by
    have ok : isD00 es = true := ok
    cases h with
    | @dK a kvs _ hs hk ha =>
      cases r
      have e1 := isD00_eq ok
      subst e1
      obtain ⟨hsys, o, es, ep, e, t1, t2, h1, h2, h3, hes, hkey, hval⟩ := d00_at I ex hs hk ha
      have r := d00_reads h1 h2 h3 hes hkey hval
      refine ⟨⟨_, by simp only [D.pyR, if_pos ok]; exact r⟩, a :: [], ?_, ?_⟩
      · simp only [D.pyR, if_pos ok]; exact ReadAtMost.cons (n := 0) r (by simp [PyData.depth, PyData.depthKv]) fun _ h => nomatch h
      · have hi : (PyData.int 0).showable = true := by decide +kernel
        have k1 : ReprK prog w [] s.heap 0 e.key (PyData.int 0).shown := by rw [hkey]; exact .of_is (ReprIs.int t1 (by simpa [PyData.showable] using hi)) _ _ _
        have k2 : ReprK prog w [] s.heap 0 e.val (PyData.int 0).shown := by rw [hval]; exact .of_is (ReprIs.int t2 (by simpa [PyData.showable] using hi)) _ _ _
        have hE : ReprEntriesK prog w [] s.heap 0 es.toList [(PyData.int 0).shown ++ ": " ++ (PyData.int 0).shown] := by rw [hes]; exact .cons k1 k2 .nil
        have := ReprK.dict h1 h2 h3 hsys (fun h => (by cases h)) hE
        simp only [D.pyR, if_pos ok]
        simpa [PyData.depth, PyData.depthKv, PyData.shown, PyData.shownKv] using this
  | .fK _, _, _, _, _, h, _ => by cases h
  | .fT _, _, _, _, _, h, _ => by cases h
  | .fN _, _, _, _, _, h, _ => by cases h
  | .exc _ _ _, _, _, _, _, h, _ => by cases h
  | .exc0 _, _, _, _, _, h, _ => by cases h
  | .raw _, _, _, _, _, h, _ => by cases h
  | .scr _, _, _, _, _, h, _ => by cases h
  | .fn _ _, _, _, _, _, h, _ => by cases h
theorem reprK_Ds {prog : Program} {w : World} (I : Inv X pins σ H s) (ex : Sb S H) : ∀ (ds : List D) (vs : List V) (us : List Value), DnA X.K S vs ds → Vals vs us → D.okRs ds = true → D.szRs ds ≤ sizeLine →
    (∃ as, ReadsAll s.heap us (D.pyRs ds) as) ∧ ∃ bs, ReadAtMost s.heap (PyData.depthAll (D.pyRs ds)) bs ∧ ReprAllK prog w bs s.heap (PyData.depthAll (D.pyRs ds)) us (PyData.shownAll (D.pyRs ds))
  | [], _, _, h, r, _, _ => by
    cases h; cases r
    exact ⟨⟨_, by simp only [D.pyRs]; exact .nil⟩, [], (fun _ h => nomatch h), by simp only [D.pyRs, PyData.shownAll]; exact .nil⟩
  | d :: ds, _, _, h, r, ok, z => by
    cases h with
    | cons g1 g2 =>
      cases r with
      | cons r1 r2 =>
        obtain ⟨o1, o2⟩ := okRs_cons ok
        have z' : d.szR + 2 + D.szRs ds ≤ sizeLine := z
        obtain ⟨⟨a1, q1⟩, b1, hb1, k1⟩ := reprK_D (prog := prog) (w := w) I ex d _ _ g1 r1 o1 (by omega)
        obtain ⟨⟨a2, q2⟩, b2, hb2, k2⟩ := reprK_Ds (prog := prog) (w := w) I ex ds _ _ g2 r2 o2 (by omega)
        refine ⟨⟨_, by simp only [D.pyRs]; exact .cons q1 q2⟩, b1 ++ b2, ?_, ?_⟩
        · simp only [D.pyRs, PyData.depthAll]
          exact (hb1.mono (Nat.le_max_left _ _)).append (hb2.mono (Nat.le_max_right _ _))
        · simp only [D.pyRs, PyData.depthAll, PyData.shownAll]
          exact .cons ((k1.more fun b hb => List.mem_append_left _ hb).level_le (Nat.le_max_left _ _)) (k2.more_le (fun b hb => List.mem_append_right _ hb) (Nat.le_max_right _ _))
end
def rReprX : DRC := fun xs Q => match xs with | [d] => d.smR 64 (2 ^ 20) ∧ Q (.str d.repR) | _ => False
theorem cd_reprX (hg : X.A.guards = some []) (hu : X.A.units + 66 < cLine) : CallR X (.builtin "repr") (liftC X.K rReprX) := fun pins s σ H vs us Q I r ⟨S, ds, Q', ex, n, q, post⟩ => by
  match ds, n, q with
  | [d], n, q =>
    obtain ⟨v, rfl, n1⟩ := n.one
    obtain ⟨u, rfl, ru⟩ := vals1 r
    obtain ⟨⟨ok, z, de⟩, q⟩ := q
    have fin : ∀ h' u tk, (∀ b o, s.heap.get? b = some o → h'.get? b = some o) → EP X pins σ Q (.str d.repR u) { s with heap := h', toks := tk } := fun h' u tk k => ⟨.str d.repR, H, I.kept k, ⟨_, rfl⟩, post _ _ _ _ q (Grow.refl ex) (.str _)⟩
    have keep0 : ∀ b o, s.heap.get? b = some o → s.heap.get? b = some o := fun _ _ e => e
    have szz : d.repR.length ≤ sizeLine := Nat.le_trans (D.szR_shown d ok) (Nat.le_trans z (by rw [sizeLine_eq]; decide))
    match d, n1, ok, z, de, fin, szz with
    | .non, n1, ok, z, de, fin, szz => cases n1; cases ru; exact P.repr_of_none (fin _ _ _ keep0)
    | .bl b, n1, ok, z, de, fin, szz => cases n1; cases ru; exact P.repr_of_bool (fin _ _ _ keep0)
    | .int i, n1, ok, z, de, fin, szz => cases n1; obtain ⟨t, rfl⟩ := ru; exact P.repr_of_int (log2_ofR (of_decide_eq_true ok)) (fin _ _ _ keep0)
    | .str x, n1, ok, z, de, fin, szz => cases n1; obtain ⟨t, rfl⟩ := ru; exact P.repr_of_str (fin _ _ _ keep0) (hsz := szz)
    | .tup xs, n1, ok, z, de, fin, szz =>
      cases n1 with
      | @tup a vs _ hs ha =>
        cases ru
        obtain ⟨its, rv, ⟨o, h1, h2, n, h3⟩, _⟩ := I.tuple (SqT.of (ex _ _ hs))
        have z' : D.szRs xs + 5 ≤ 2 ^ 20 := z
        obtain ⟨⟨as, h4⟩, bs, hb, hk⟩ := reprK_Ds (prog := X.prog) (w := X.w) I ex xs vs its (ha) rv ok (by rw [sizeLine_eq]; omega)
        have rr : Reads s.heap (.ref a) (.tuple (D.pyRs xs)) _ := .tuple h1 h2 h3 h4
        have na : a ∉ bs := not_mem_of_deeper rr (by simp only [PyData.depth]; omega) hb
        have hd : PyData.depthAll (D.pyRs xs) + 1 ≤ 64 := by rw [D.pyRs_de]; exact de
        refine call_repr_slot (by omega) ⟨o, h1, h2⟩ F.slot_tuple_repr ?_
        have e0 : (D.tup xs).repR = tupleText (PyData.shownAll (D.pyRs xs)) := by simp only [D.repR, D.pyR, PyData.shown]
        rw [e0] at fin szz
        exact call_tuple_reprK h1 h2 h3 na hk (A := X.A.in1) hg (fun b _ => Clear.nil b) (by show X.A.units + 1 + _ < _; omega) keep0 (fun h' u tk k => ⟨_, _, rfl, fin h' u tk k⟩) szz
    | .kt xs, n1, ok, z, de, fin, szz =>
      cases n1 with
      | @kt a vs _ hs ha =>
        cases ru
        obtain ⟨its, rv, ⟨o, h1, h2, n, h3⟩, _⟩ := I.tuple (hs.sqT ex)
        have z' : D.szRs xs + 5 ≤ 2 ^ 20 := z
        obtain ⟨⟨as, h4⟩, bs, hb, hk⟩ := reprK_Ds (prog := X.prog) (w := X.w) I ex xs vs its (ha) rv ok (by rw [sizeLine_eq]; omega)
        have rr : Reads s.heap (.ref a) (.tuple (D.pyRs xs)) _ := .tuple h1 h2 h3 h4
        have na : a ∉ bs := not_mem_of_deeper rr (by simp only [PyData.depth]; omega) hb
        have hd : PyData.depthAll (D.pyRs xs) + 1 ≤ 64 := by rw [D.pyRs_de]; exact de
        refine call_repr_slot (by omega) ⟨o, h1, h2⟩ F.slot_tuple_repr ?_
        have e0 : (D.kt xs).repR = tupleText (PyData.shownAll (D.pyRs xs)) := by simp only [D.repR, D.pyR, PyData.shown]
        rw [e0] at fin szz
        exact call_tuple_reprK h1 h2 h3 na hk (A := X.A.in1) hg (fun b _ => Clear.nil b) (by show X.A.units + 1 + _ < _; omega) keep0 (fun h' u tk k => ⟨_, _, rfl, fin h' u tk k⟩) szz
    | .lst xs, n1, ok, z, de, fin, szz =>
      cases n1 with
      | @lst a vs _ hs ha =>
        cases ru
        obtain ⟨its, rv, ⟨o, n, h1, h2, _, h3⟩, _⟩ := I.list (SqL.of (ex _ _ hs))
        have z' : D.szRs xs + 5 ≤ 2 ^ 20 := z
        obtain ⟨⟨as, h4⟩, bs, hb, hk⟩ := reprK_Ds (prog := X.prog) (w := X.w) I ex xs vs its (ha) rv ok (by rw [sizeLine_eq]; omega)
        have rr : Reads s.heap (.ref a) (.list (D.pyRs xs)) _ := .list h1 h2 h3 h4
        have na : a ∉ bs := not_mem_of_deeper rr (by simp only [PyData.depth]; omega) hb
        have hd : PyData.depthAll (D.pyRs xs) + 1 ≤ 64 := by rw [D.pyRs_de]; exact de
        refine call_repr_slot (by omega) ⟨o, h1, h2⟩ F.slot_list_repr.toG ?_
        have e0 : (D.lst xs).repR = listText (PyData.shownAll (D.pyRs xs)) := by simp only [D.repR, D.pyR, PyData.shown]
        rw [e0] at fin szz
        cases its with
        | nil =>
          generalize D.pyRs xs = ys at h4 fin
          cases h4
          simp only [PyData.shownAll, listText_nil] at fin
          exact call_list_repr_empty ⟨o, h1, h2⟩ h1 h3 ⟨_, _, rfl, fin s.heap _ _ keep0⟩
        | cons y l =>
          exact call_list_reprK h1 h2 h3 na (by simpa using hk.length_eq) (fun i z e => hk.item i z (by simpa using e)) (A := X.A.in1) hg (fun b _ => Clear.nil b) (by show X.A.units + 1 + _ < _; omega) keep0 (fun h' u tk k => ⟨_, _, rfl, fin h' u tk k⟩) szz
    | .dK es, n1, ok, z, de, fin, szz =>
      have ok : isD00 es = true := ok
      cases n1 with
      | @dK a kvs _ hs hk ha =>
        cases ru
        have e1 := isD00_eq ok
        subst e1
        obtain ⟨hsys, o, es, ep, e, t1, t2, h1, h2, h3, hes, hkey, hval⟩ := d00_at I ex hs hk ha
        have rr := d00_reads h1 h2 h3 hes hkey hval
        have e0 : (D.dK [(.inl 0, .int 0)]).repR = PyData.shown (.dict [(.int 0, .int 0)]) := by simp only [D.repR, D.pyR, if_pos ok]
        rw [e0] at fin szz
        have hna : sysModules ∉ (a :: ([] ++ []) ++ ([] ++ []) : List Addr) := fun hm => by
          have hm : sysModules = a := by simpa using hm
          rw [← hm] at hsys; simp at hsys
        exact repr_of_reads' rr (by decide +kernel) (fun _ => hna) hg (by simp only [PyData.depth, PyData.depthKv]; omega) keep0 (fun h' u tk k => fin h' u tk k) szz
    | .dT es, n1, ok, z, de, fin, szz =>
      cases n1 with
      | @dT a kvs _ hs hk ha =>
        cases ru
        have e1 : es = [] := by simpa [D.okR] using ok
        subst e1
        obtain ⟨hsys, o, n, h1, h2, h3⟩ := emp_at I ex hs (by simpa using hk)
        have rr : Reads s.heap (.ref a) (.dict []) (a :: [] ++ []) := .dict (as := []) (bs := []) h1 h2 h3 .nil .nil
        have e0 : (D.dT []).repR = PyData.shown (.dict []) := by simp only [D.repR, D.pyR]
        rw [e0] at fin szz
        have hna : sysModules ∉ (a :: [] ++ [] : List Addr) := fun hm => by
          have hm : sysModules = a := by simpa using hm
          rw [← hm] at hsys; simp at hsys
        exact repr_of_reads' rr (by simp [PyData.showable, PyData.showableKv]) (fun _ => hna) hg (by simp only [PyData.depth, PyData.depthKv]; omega) keep0 (fun h' u tk k => fin h' u tk k) szz
end
end Ev
namespace Ev
open PySem PySem.Spec PyProof.Rows L2
variable [TabC]
variable {K : PySem.W.Frag} {S S' H H' : Hp} {B : Bs} {δ : DS} {σ : L2.St}
section
variable {X : Cx} {E : EK} {e a b c : Expr} {es : List Expr} {pos p ap cp : Pos} {da db dk dv : dE} {x : Str}
def rTupleN : DRC := fun xs Q => match xs with | [.lst ds] => Q (.kt ds) | _ => False
def rDictN : DRC := fun xs Q => match xs with
  | [.kt ds] => optQ (pairsOf ds) fun kvs => Q (.dK (mergeD [] kvs))
  | _ => False
end
end Ev
namespace Ev
open PySem PySem.Spec PyProof.Rows L2
variable [TabC]
variable {K : PySem.W.Frag} {S S' H H' : Hp} {B : Bs} {δ : DS} {σ : L2.St}
section
variable {X : Cx} {E : EK} {e a b c : Expr} {es : List Expr} {pos p ap cp p2 : Pos} {da db dk dv : dE} {x : Str}
/-- a tuple that is written, known to have no dict -/
def dTupN (r : dA) : dE := fun W δ Q => r W δ fun xs δ1 => xs.length ≤ sizeLine ∧ Q (.kt xs) δ1
def dSlN (d : dE) (lo hi : dO) : dE := fun W δ Q => d W δ fun x δ1 => lo W δ1 fun l δ2 => hi W δ2 fun h δ3 => match x with
  | .kt ds => Q (.kt (Ev.cutD ds l h)) δ3
  | _ => False
def rAddN : DR2 := fun x y Q => match x, y with
  | .kt i, .kt j => i.length + j.length ≤ sizeLine ∧ Q (.kt (i ++ j))
  | _, _ => False
/-- sorted of such a tuple -/
def rSrtN : DRF := fun xs Q => match xs with | [.kt ds] => srtOk ds ∧ Q (sortD ds) | _ => False
/-- dict(x) of a list, or of a tuple that has no dict -/
def rDictX : DRC := fun xs Q => match xs with
  | [.lst ds] => optQ (pairsOf ds) fun kvs => Q (.dK (mergeD [] kvs))
  | [.kt ds] => optQ (pairsOf ds) fun kvs => Q (.dK (mergeD [] kvs))
  | _ => False
end
end Ev
namespace Ev
open PySem PySem.Spec PyProof.Rows L2
variable [TabC]
variable {K : PySem.W.Frag} {S S' H H' : Hp} {B : Bs} {δ : DS} {σ : L2.St}
/-- the truth of what is no text and no dict -/
def truD : D → Option Bool
  | .non => some false
  | .bl b => some b
  | .int i => some (i != 0)
  | .tup ds => some (!ds.isEmpty)
  | .kt ds => some (!ds.isEmpty)
  | .lst ds => some (!ds.isEmpty)
  | _ => none
section
variable {X : Cx} {E : EK} {e a b : Expr} {pos : Pos} {da db : dE} {rest : List Expr}
def dOrX (x y : dE) : dE := fun W δ Q => x W δ fun d δ1 => match truD d with | some true => Q d δ1 | some false => y W δ1 Q | none => False
end
end Ev
namespace Ev
open PySem PySem.Spec PyProof.Rows L2
variable [TabC]
def RdE (δ : DS) (d : dE) (v : D) : Prop := ∀ Q : D → DS → Prop, Q v δ → d W0 δ Q
def RdA (δ : DS) (a : dA) (vs : List D) : Prop := ∀ Q : List D → DS → Prop, Q vs δ → a W0 δ Q
def RdF (δ : DS) (f : dF) (vs : List D) : Prop := ∀ Q : List D → DS → Prop, Q vs δ → f W0 δ Q
def RdO (δ : DS) (o : dO) (v : Option Int) : Prop := ∀ Q : Option Int → DS → Prop, Q v δ → o W0 δ Q
section
variable {δ : DS} {a b : dE} {r : dA} {f : dF} {v x y d : D} {vs ds : List D} {i : Nat} {j : Int} {lo hi : Option Int} {l h : dO}
theorem hundred {n : Nat} (h : n ≤ 100) : n ≤ sizeLine := by rw [sizeLine_eq]; omega
theorem rd_c : RdE δ (dC x) x := fun _ q => q
theorem rd_var (e : δ.sl[i]? = some (.dat d)) : RdE δ (dVar i) d := fun Q q => by unfold dVar; rw [e]; exact q
theorem rd_nil : RdA δ dNil [] := fun _ q => q
theorem rd_cons (ha : RdE δ a v) (hr : RdA δ r vs) : RdA δ (dCons a r) (v :: vs) := fun Q q => ha _ (hr _ q)
theorem rd_tup (hr : RdA δ r vs) (hl : vs.length ≤ 100) : RdE δ (dTup r) (.tup vs) := fun Q q => hr _ ⟨hundred hl, q⟩
theorem rd_lst (hr : RdA δ r vs) (hl : vs.length ≤ 100) : RdF δ (dLst r) vs := fun Q q => hr _ ⟨hundred hl, q⟩
theorem rd_fz (hf : RdF δ f vs) : RdE δ (dFz f) (.lst vs) := fun Q q => hf _ q
theorem rd_ixL (ha : RdE δ a (.lst ds)) (hb : RdE δ b (.int j)) (e : atI ds j = some d) : RdE δ (dBin rIxD a b) d := fun Q q => ha _ (hb _ (by show optQ (atI ds j) _; rw [e]; exact q))
theorem rd_no : RdO δ oNone none := fun _ q => q
theorem rd_so (ha : RdE δ a (.int j)) : RdO δ (oSome a) (some j) := fun Q q => ha _ q
theorem rd_sl (ha : RdE δ a (.tup ds)) (hl : RdO δ l lo) (hh : RdO δ h hi) : RdE δ (dSlT a l h) (.tup (Ev.cutD ds lo hi)) := fun Q q => ha _ (hl _ (hh _ q))
theorem rd_listT (ha : RdE δ a (.tup ds)) : RdF δ (dCBF rList (dCons a dNil)) ds := fun Q q => ha _ q
theorem rd_revT (ha : RdE δ a (.tup ds)) : RdE δ (dRevX a) (.tup ds.reverse) := fun Q q => ha _ q
theorem rd_emp : RdE δ dEmptyV (.dT []) := fun _ q => q
variable {N : dEnds} {u : dS}
theorem go_set (ha : RdE δ a v) (q : u W0 N (setSl δ i (.dat v))) : dSeq (dSet i a) u W0 N δ := ha _ q
theorem go_setF (hf : RdF δ f vs) (q : u W0 N (setSl δ i (.own vs))) : dSeq (dSetF i f) u W0 N δ := hf _ q
end
end Ev
namespace Ev
open PySem PySem.Spec PyProof.Rows L2
end Ev
namespace Ev
open PySem PySem.Spec PyProof.Rows L2
section
variable [TabC]
variable {X : Cx} {E : EK} {a : Expr} {da : dE} {p p2 q pos : Pos}
def setQ (ds : List D) (Q : List D → Prop) : Prop := match strsOf ds with
  | some ks => ks.length ≤ 4000 ∧ ∀ m : List Str, m.Nodup → (∀ k, k ∈ m ↔ k ∈ ks) → Q (sortD (m.map .str))
  | none => optQ (intsOf ds) fun ks => ks.length ≤ 4000 ∧ ∀ m : List Int, m.Nodup → (∀ k, k ∈ m ↔ k ∈ ks) → Q (sortD (m.map .int))
/-- sorted(set(x)) of texts or numbers -/
def dSrtSet (d : dE) : dF := fun W δ Q => d W δ fun x δ1 => match x with
  | .lst ds => setQ ds fun r => Q r δ1
  | .tup ds => setQ ds fun r => Q r δ1
  | .kt ds => setQ ds fun r => Q r δ1
  | _ => False
end
end Ev
namespace Ev
open PySem PySem.Spec PyProof.Rows L2
end Ev
namespace Ev
open PySem PySem.Spec PyProof.Rows L2
end Ev
namespace Ev
open PySem PySem.Spec PyProof.Rows L2
end Ev
namespace Ev
open PySem PySem.Spec PyProof.Rows L2
variable [TabC]
def rEqE : DR2 := fun x y Q => match x, y with | .tup xs, .tup [] => Q (.bl xs.isEmpty) | _, _ => False
end Ev
namespace Ev
open PySem PySem.Spec PyProof.Rows L2
variable [TabC]
def b2n (b : Bool) : Int := if b = true then 1 else 0
def rAddB : DR2 := fun x y Q => match x, y with
  | .bl a, .int j => Q (.int (b2n a + j))
  | .int i, .int j => Q (.int (i + j))
  | _, _ => False
def rSubB : DR2 := fun x y Q => match x, y with
  | .bl a, .int j => Q (.int (b2n a - j))
  | .int i, .bl b => Q (.int (i - b2n b))
  | .int i, .int j => Q (.int (i - j))
  | _, _ => False
def rStrB : DRC := fun xs Q => match xs with
  | [.bl b] => Q (.str (if b = true then ("True" : Str) else "False"))
  | [.int i] => i.natAbs.log2 < 1920 ∧ Q (.str (toString i))
  | _ => False
end Ev
namespace Ev
open PySem PySem.Spec PyProof.Rows L2
variable [TabC]
def D.nkey : D → Option NK
  | .int i => some (some i)
  | .non => some none
  | _ => none
section
variable {K : PySem.W.Frag} {S S' H H' : Hp} {B : Bs} {δ : DS} {σ : L2.St}
theorem Dn.nkey {u : V} {y : D} {k : NK} (n : Dn K S u y) (h : y.nkey = some k) : u = kN k := by
  cases n with
  | int i => cases h; rfl
  | non => cases h; rfl
  | _ => cases h
def nGet (δ : DS) (i : Nat) (y : D) : Option (Option D) := match δ.sl[i]? with
  | some (.ownN es) => y.nkey.map (valD es)
  | _ => none
def isNo (δ : DS) (i : Nat) : Prop := match δ.sl[i]? with
  | some (.ownN _) => True
  | _ => False
def nPut (δ : DS) (i : Nat) (y z : D) : Option DS := match δ.sl[i]? with
  | some (.ownN es) => match y.nkey with | some k => if es.length < sizeLine then some (setSl δ i (.ownN (putD es k z))) else none | none => none
  | _ => none
end
section
variable {X : Cx} {E : EK} {e a b c : Expr} {pos p : Pos} {da db : dE} {x : Str}
def dNGet (i : Nat) (d : dE) : dE := fun W δ Q => isNo δ i ∧ d W δ fun y δ1 => optQ (nGet δ1 i y) fun r => optQ r fun z => Q z δ1
def dNPut (i : Nat) (dk dv : dE) : dS := fun W N δ => dv W δ fun z δ1 => isNo δ1 i ∧ dk W δ1 fun y δ2 => optQ (nPut δ2 i y z) N.nx
/-- name = {i: j, None: None} -/
def dNewN (i : Nat) (j k : Int) : dS := fun _ N δ => N.nx (setSl δ i (.ownN [(some j, .int k), (none, .non)]))
end
end Ev
namespace Ev
open PySem PySem.Spec PyProof.Rows L2
variable [TabC]
variable {K : PySem.W.Frag} {S S' H H' : Hp} {B : Bs} {δ : DS} {σ : L2.St}
/-- zip(a, b) of a tuple and a list -/
def dZipM (d : dA) : dI := fun W δ Q => d W δ fun xs δ' => match xs with
  | [.kt ds, .lst es] => Q (zipD ds es) δ'
  | [.tup ds, .lst es] => Q (zipD ds es) δ'
  | _ => False
end Ev
namespace PySem
end PySem
namespace L2
open PySem PySem.Spec PyProof.Rows
end L2
namespace L2
open PySem PySem.Spec PyProof.Rows
variable [Ev.TabC]
def TestOk (X : Cx) (t : Expr) (ex : Value → Option Bool) : Prop := ∀ (a : Addr) (pn : List (Addr × Obj)) (σ : St) (H : Hp) (s : Shared) (cls : Value) (b : Bool) (Q : Bool → Shared → Prop) (E : Value → Shared → Prop), Inv (X.suite a pn) [] σ H s →
  PySem.W.Looks (model X.prog X.w) s.heap (typeOf (.ref a)) cls → ex cls = some b → (∀ h', (∀ q o, s.heap.get? q = some o → h'.get? q = some o) → Q b { s with heap := h' }) →
  wpAny (model X.prog X.w) (X.A.mark (some (.ref a))) (eval t X.env) (fun c s₁ => wpAny (model X.prog X.w) (X.A.mark (some (.ref a))) (excMatches (.ref a) c) Q E s₁) E s
abbrev ClT := Addr → Value → Option Addr → TS
/-- the exception in slot i, known, while the suite runs -/
def nmd (i : Nat) (ts : Addr → TS) : ClT := fun a cls d D σ H => ts a { nx := fun σ' H' => D.nx (σ'.set i none) H', rt := D.rt, bk := fun σ' H' => D.bk (σ'.set i none) H', ct := fun σ' H' => D.ct (σ'.set i none) H' } (σ.set i (some (.ref a))) (upd H a (Ev.ExV a cls d))
inductive HdsOk2 (X : Cx) : List ExceptHandler → List ((Value → Option Bool) × ClT) → Prop
  | nil : HdsOk2 X [] []
  | plain {t : Expr} {ex : Value → Option Bool} {ts : Addr → TS} {b₀ : Stmt} {suite : List Stmt} {pos' : Pos} {hds : List ExceptHandler} {l : List ((Value → Option Bool) × ClT)} (ht : TestOk X t ex)
      (hsu : ∀ (a : Addr) (pn : List (Addr × Obj)), PSs (X.suite a pn) (b₀ :: suite) (ts a)) (r : HdsOk2 X hds l) :
      HdsOk2 X (.ExceptHandler (some t) none (b₀ :: suite) pos' :: hds) ((ex, fun a _ _ => ts a) :: l)
  | named {t : Expr} {ex : Value → Option Bool} {ts : Addr → TS} {i : Nat} {n : Str} {b₀ : Stmt} {suite : List Stmt} {pos' : Pos} {hds : List ExceptHandler} {l : List ((Value → Option Bool) × ClT)} (ht : TestOk X t ex) (hN : X.N.Nodup) (hi : X.N[i]? = some n) (hln : X.env.kindOf n = some .local)
      (hsu : ∀ (a : Addr) (pn : List (Addr × Obj)), PSs (X.suite a pn) (b₀ :: suite) (ts a)) (r : HdsOk2 X hds l) :
      HdsOk2 X (.ExceptHandler (some t) (some n) (b₀ :: suite) pos' :: hds) ((ex, nmd i ts) :: l)
end L2
namespace Ev
open PySem PySem.Spec PyProof.Rows L2
variable [TabC]
variable {K : PySem.W.Frag} {S S' H H' : Hp} {B : Bs} {δ : DS} {σ : L2.St}
section
variable {P : Program} {w : World} {K : PySem.W.Frag} {mg : Str → Option Value} {base : Heap} {x qual : Str} {st : Stmt} {f : Addr} {fd : FuncData} {N ps : List Str} {k n : Nat} {d : dS}
def WP (W : Xc → Pen → Prop) : XW := fun c δ => W c δ.pen
end
end Ev
namespace Ev
open PySem PySem.Spec PyProof.Rows L2
variable [TabC]
variable {K : PySem.W.Frag} {S S' H H' : Hp} {B : Bs} {δ : DS} {σ : L2.St}
def exS (i j : Nat) : Bool := i == j || (decide (i < 4) && (j == 0 || j == 6)) || (decide (3 < i) && j == 7)
def cV : Value → V
  | .ref a => .ref a
  | .type t => .ty t
  | _ => .non
section
variable {X : Cx} {E : EK} {e : Expr} {pos pos2 p p2 : Pos} {x m : Str} {c k : Nat} {da : dE} {jj : Nat}
/-- raise x(e) -/
def dRaise1 (c : Nat) (f : Str) (d : dE) : dS := fun W _ δ => d W δ fun x δ' => W ⟨c, some (f, x)⟩ δ'
def dRaise0 (c : Nat) : dS := fun W _ δ => W ⟨c, none⟩ δ
end
def excD (c : Xc) : D := match c.at_ with
  | none => .exc0 c.cls
  | some (f, d) => .exc c.cls f d
abbrev Cl := List Nat × Option Nat × dS
def wTry (is : List Nat) (W : XW) (N : dEnds) : List Cl → XW
  | [] => W
  | (js, o, h) :: r => fun c δ => c.cls ∈ is ∧ if (js.any fun j => exS c.cls j) = true then (match o with
    | none => h W0 N δ
    | some i => h W0 { N with nx := fun δ' => N.nx (setSl δ' i .un), bk := fun δ' => N.bk (setSl δ' i .un), ct := fun δ' => N.ct (setSl δ' i .un) } (setSl δ i (.dat (excD c)))) else wTry is W N r c δ
def dTry (is : List Nat) (db : dS) (l : List Cl) : dS := fun W N δ => db (wTry is W N l) N δ
/-- what the classes say of one another -/
def ExT (K : PySem.W.Frag) (is js : List Nat) : Prop := ∀ i ∈ is, ∀ j ∈ js, PySem.W.exmOne K (TabC.xc i) (TabC.xc j) = some (exS i j)
section
variable {X : Cx}
inductive HdD (X : Cx) (is : List Nat) : List ExceptHandler → List Cl → Prop
  | nil : HdD X is [] []
  | plain {t : Expr} {js : List Nat} {h : dS} {b₀ : Stmt} {suite : List Stmt} {pos' : Pos} {hds : List ExceptHandler} {l : List Cl} (ht : TestOk X t fun cls => PySem.W.exmAny X.K cls (js.map TabC.xc)) (hE : ExT X.K is js)
      (hsu : ∀ (a : Addr) (pn : List (Addr × Obj)), DSs (X.suite a pn) E00 (b₀ :: suite) h) (r : HdD X is hds l) : HdD X is (.ExceptHandler (some t) none (b₀ :: suite) pos' :: hds) ((js, none, h) :: l)
  | named {t : Expr} {js : List Nat} {h : dS} {i : Nat} {n : Str} {b₀ : Stmt} {suite : List Stmt} {pos' : Pos} {hds : List ExceptHandler} {l : List Cl} (ht : TestOk X t fun cls => PySem.W.exmAny X.K cls (js.map TabC.xc)) (hE : ExT X.K is js)
      (hN : X.N.Nodup) (hi : X.N[i]? = some n) (hln : X.env.kindOf n = some .local)
      (hsu : ∀ (a : Addr) (pn : List (Addr × Obj)), DSs (X.suite a pn) E00 (b₀ :: suite) h) (r : HdD X is hds l) : HdD X is (.ExceptHandler (some t) (some n) (b₀ :: suite) pos' :: hds) ((js, some i, h) :: l)
def lOf (K : PySem.W.Frag) (B : Bs) : List Cl → List ((Value → Option Bool) × ClT)
  | [] => []
  | (js, none, h) :: r => (fun cls => PySem.W.exmAny K cls (js.map TabC.xc), fun _ _ _ => liftS K B E00 h) :: lOf K B r
  | (js, some i, h) :: r => (fun cls => PySem.W.exmAny K cls (js.map TabC.xc), nmd i fun _ => liftS K B E00 h) :: lOf K B r
theorem HdD.ok {is : List Nat} {hds : List ExceptHandler} {l : List Cl} (h : HdD X is hds l) (B : Bs) : HdsOk2 X hds (lOf X.K B l) := by
  induction h with
  | nil => exact .nil
  | plain ht hE hsu r ih => exact .plain ht (fun a pn => (hsu a pn).run B) ih
  | named ht hE hN hi hln hsu r ih => exact .named ht hN hi hln (fun a pn => (hsu a pn).run B) ih
end
def KiT (K : PySem.W.Frag) (is js : List Nat) : Prop := ∀ i ∈ is, ∀ j ∈ js, PySem.W.kitOne K (TabC.xc i) (TabC.xc j) = some (exS i j)
abbrev clD (j : Nat) : D := .raw (cV (TabC.xc j))
def D.xcN : D → Option Nat
  | .exc c _ _ => some c
  | .exc0 c => some c
  | _ => none
def rIsE (is : List Nat) (j : Nat) : DRC := fun xs Q => match xs with
  | [x, y] => y = clD j ∧ optQ x.xcN fun c => c ∈ is ∧ Q (.bl (exS c j))
  | _ => False
def rIsEt (is js : List Nat) : DRC := fun xs Q => match xs with
  | [x, y] => y = .tup (js.map clD) ∧ optQ x.xcN fun c => c ∈ is ∧ Q (.bl (js.any fun j => exS c j))
  | _ => False
section
variable {X : Cx} {E : EK} {e : Expr} {pos : Pos} {da : dE} {is js : List Nat} {f : Str}
/-- e.f -/
def dFldE (is : List Nat) (f : Str) (d : dE) : dE := fun W δ Q => d W δ fun x δ' => match x with | .exc c g z => c ∈ is ∧ g = f ∧ Q z δ' | _ => False
end
end Ev
namespace Ev
open PySem PySem.Spec PyProof.Rows L2
variable [TabC]
variable {K : PySem.W.Frag} {S S' H H' : Hp} {B : Bs} {δ : DS} {σ : L2.St}
/-- what is promised of the lambda of the number k, which may let exceptions out -/
structure LamDX (P : Program) (w : World) (K : PySem.W.Frag) (mg : Str → Option Value) (base : Heap) (j k n : Nat) (sp : List D → dSp) : Prop where
  run : ∀ (A : Around) (out : List Env) (s : Shared) (S H : Hp) (a : Addr) (ds xs : List D) (vs : List V) (us : List Value) (p : Pen) (Q : VK) (Q' : D → Pen → Prop) (W' : Xc → Pen → Prop) (E : XK), A.guards = some [] → Room j A → Env0 P w K mg base A out s H → Sb S H → PenOk S H p → Dn K S (.ref a) (.fn k ds) → D.nfs ds = true → Vals vs us →
    DnA K S vs xs → D.nfs xs = true → xs.length = n → sp ds xs p Q' W' → (∀ x p' v S' H', Q' x p' → Fin S H S' H' p p' → Dn K S' v x → Q v H') → (∀ c p' cls od S' H', W' c p' → Fin S H S' H' p p' → XcOk K S' H' c cls od → E cls od H') → codeAny (model P w) A (.call (.ref a) ⟨us, []⟩) (CR (L2.CX P w) out P w H s Q E) s
section
variable {X : Cx} {E : EK} {x : Str} {p pos : Pos} {e : Expr} {es : List Expr} {j m n i : Nat} {LT : Nat → Option (List D → dSp)} {ta : dA}
def dCallVX (i n : Nat) (LT : Nat → Option (List D → dSp)) (a : dA) : dE := fun W δ Q => match δ.sl[i]? with
  | some (.dat (.fn k ds)) => optQ (LT k) fun sp => D.nfs ds = true ∧ a W δ fun xs δ1 => D.nfs xs = true ∧ xs.length = n ∧ sp ds xs δ1.pen (fun x p' => Q x { δ1 with pen := p' }) fun c p' => W c { δ1 with pen := p' }
  | _ => False
theorem LamDX.mono {P : Program} {w : World} {K : PySem.W.Frag} {mg : Str → Option Value} {base : Heap} {j j2 k n : Nat} {sp : List D → dSp} (h : LamDX P w K mg base j k n sp) (hj : j ≤ j2) : LamDX P w K mg base j2 k n sp :=
  ⟨fun A out s S H a ds xs vs us p Q Q' W' E g r => h.run A out s S H a ds xs vs us p Q Q' W' E g (r.mono hj)⟩
end
theorem KiT.sub {is js js' : List Nat} (h : KiT K is js) (hs : ∀ j ∈ js', j ∈ js) : KiT K is js' := fun i hi j hj => h i hi j (hs j hj)
theorem ExT.sub {is js js' : List Nat} (h : ExT K is js') (hs : ∀ j ∈ js, j ∈ js') : ExT K is js := fun i hi j hj => h i hi j (hs j hj)
/-- which class is beneath which, told by computing -/
theorem exS_tab : exS 4 0 = false ∧ exS 4 1 = false ∧ exS 4 2 = false ∧ exS 4 3 = false ∧ exS 4 4 = true ∧ exS 4 5 = false ∧ exS 4 6 = false ∧ exS 4 7 = true ∧
    exS 5 0 = false ∧ exS 5 1 = false ∧ exS 5 2 = false ∧ exS 5 3 = false ∧ exS 5 4 = false ∧ exS 5 5 = true ∧ exS 5 6 = false ∧ exS 5 7 = true ∧
    exS 2 0 = true ∧ exS 2 1 = false ∧ exS 2 2 = true ∧ exS 2 3 = false ∧ exS 2 4 = false ∧ exS 2 5 = false ∧ exS 2 6 = true ∧ exS 2 7 = false ∧
    exS 1 0 = true ∧ exS 1 1 = true ∧ exS 1 2 = false ∧ exS 1 3 = false ∧ exS 1 4 = false ∧ exS 1 5 = false ∧ exS 1 6 = true ∧ exS 1 7 = false ∧
    exS 3 0 = true ∧ exS 3 1 = false ∧ exS 3 2 = false ∧ exS 3 3 = true ∧ exS 3 4 = false ∧ exS 3 5 = false ∧ exS 3 6 = true ∧ exS 3 7 = false := by decide
end Ev
namespace Ev
open PySem PySem.Spec PyProof.Rows L2
variable [TabC]
variable {K : PySem.W.Frag} {S S' H H' : Hp} {B : Bs} {δ : DS} {σ : L2.St}
/-- such a list: where, what it becomes -/
theorem Rel.kp (R : Rel K B δ S σ H) {j : Nat} {a : Addr} {ds : List D} (hj : δ.sl[j]? = some (Sl.kp a ds)) : ∃ vs, H a = some (.lst vs) ∧ DnA K S vs ds ∧ ∀ vs' ds', DnA K S vs' ds' → Rel K B (setSl δ j (.kp a ds')) S σ (upd H a (.lst vs')) := by
  obtain ⟨ow, h1, h2, h3, h4⟩ := id R.sl
  obtain ⟨vs, r1, r2, r3, r5, r6⟩ := h1 j _ hj
  refine ⟨vs, r5, r6, fun vs' ds' n => R.mut (fun _ z => nomatch z) hj (fun oa q => ?_) fun H1 e => ⟨vs', rfl, r2, r3, e, n⟩⟩
  obtain ⟨_, t1, _⟩ := q
  exact t1
theorem DnA.insert {v : V} {d : D} {vs : List V} {ds : List D} (a : DnA K S vs ds) (h : Dn K S v d) (n : Nat) : DnA K S (vs.take n ++ [v] ++ vs.drop n) (ds.take n ++ [d] ++ ds.drop n) :=
  ((a.take n).append (.cons h .nil)).append (a.drop n)
section
variable {X : Cx} {E : EK} {e a b o : Expr} {es : List Expr} {pos p ap cp : Pos} {da db dn de : dE} {x : Str} {ta : dA}
/-- name.insert(n, e) -/
def dIns (i : Nat) (ta : dA) : dS := fun W N δ => (∃ ds, ownAt δ i = some ds) ∧ ta W δ fun xs δ1 => match xs with
  | [.int n, x] => optQ (ownAt δ1 i) fun ds => ds.length < sizeLine ∧ 0 ≤ n ∧ n < 2 ^ 63 ∧ N.nx (setOwnAt δ1 i (ds.take n.toNat ++ [x] ++ ds.drop n.toNat))
  | _ => False
theorem DnA.two_ {vs : List V} {n : Int} {d : D} (a : DnA K S vs [.int n, d]) : ∃ v, vs = [.int n, v] ∧ Dn K S v d := by
  cases a with
  | cons h1 a =>
    cases h1
    cases a with
    | cons h2 a => cases a; exact ⟨_, rfl, h2⟩
theorem ds_ins {i : Nat} (hv : PE X (.Name x p) (tVar i)) (ha : DA X E (a :: es) ta) (hbase : attributeBase (.Name x p) "insert" X.env (eval (.Name x p) X.env) = eval (.Name x p) X.env := by rfl)
    (hfew : ((backTo cp (starEach (a :: es) X.env)).all (fun x => !x.1) && (backToKw cp (keywordEach [] X.env)).all (fun x => x.1.isSome) && decide ((a :: es : List Expr).length + ([] : List Keyword).length + (if ([] : List Keyword).isEmpty then 0 else 1) < 30)) = true := by rfl)
    (hline : (ap.endLine == cp.line) = true := by rfl) (hs : starEach (a :: es) X.env = (false, eval a X.env) :: starEach es X.env := by rfl) (hpl : (backTo cp (starEach es X.env)).any (·.1) = false := by rfl)
    (hsw : swapsWith (.Call (.Attribute (.Name x p) "insert" ap) (a :: es) [] cp) none pos.line X.env = pure false := by rfl) : DSt X E (.Expr (.Call (.Attribute (.Name x p) "insert" ap) (a :: es) [] cp) pos) (dIns i ta) :=
  ⟨fun B => ps_mono (ps_expr (pe_bm PySem.F.plainAttrs_list PySem.F.slot_list_insert PySem.F.type_list_insert mt_insert hv (ha.run B) hbase hfew hline hs hpl) hsw) fun Z σ H q => by
    obtain ⟨δ, S, W, N, R, ⟨⟨ds0, h0⟩, q⟩, xo, p1, _⟩ := q
    obtain ⟨p0, _, v0, g0, _⟩ := R.ownAt h0
    refine ⟨.ref p0, v0, tyL g0, δ, S, W, _, R, q, xo, fun xs δ1 vs S1 H1 q1 e1 R1 n1 => ?_⟩
    match xs, n1, q1 with
    | [.int n, d], n1, q1 =>
      obtain ⟨v, rfl, n2⟩ := n1.two_
      obtain ⟨ds, h1, hz, hn0, hn1, q1⟩ := optQ_ex q1
      obtain ⟨p', vs, v1, g1, a1, _, put⟩ := R1.ownAt h1
      rw [v0] at v1; cases v1
      exact ⟨p0, vs, n, v, rfl, rfl, g1, by rw [a1.length]; exact hz, hn0, hn1, p1 _ _ _ _ q1 e1 (put _ _ (a1.insert n2 _))⟩⟩
/-- e.insert(n, x), e.append(x), e a list in a dict of one's own -/
def dKpIns (de : dE) (ta : dA) : dS := fun W N δ => de W δ fun y δ0 => ∃ a, y = .raw (.ref a) ∧ (∃ (j : Nat) (ds : List D), δ0.sl[j]? = some (Sl.kp a ds)) ∧ ta W δ0 fun xs δ1 => match xs with
  | [.int n, x] => 0 ≤ n ∧ n < 2 ^ 63 ∧ ∃ (j : Nat) (ds : List D), δ1.sl[j]? = some (Sl.kp a ds) ∧ ds.length < sizeLine ∧ N.nx (setSl δ1 j (Sl.kp a (ds.take n.toNat ++ [x] ++ ds.drop n.toNat)))
  | _ => False
def dKpApp (de dx : dE) : dS := fun W N δ => de W δ fun y δ0 => ∃ a, y = .raw (.ref a) ∧ (∃ (j : Nat) (ds : List D), δ0.sl[j]? = some (Sl.kp a ds)) ∧ dx W δ0 fun x δ1 => ∃ (j : Nat) (ds : List D), δ1.sl[j]? = some (Sl.kp a ds) ∧ ds.length < sizeLine ∧ N.nx (setSl δ1 j (Sl.kp a (ds ++ [x])))
/-- name[k] = a new list, a list of one's own from now on -/
def dKpPut (i : Nat) (dk : dE) (f : dF) : dS := fun W N δ => f W δ fun xs δ1 => isDict δ1 i ∧ ∃ j : Nat, δ1.sl[j]? = some Sl.un ∧ ∀ a, dk W (setSl δ1 j (Sl.kp a xs)) fun y δ2 => optQ (dictPut δ2 i y (.raw (.ref a))) N.nx
/-- name = {k: []}, a list of one's own from now on -/
def dKpNew (i : Nat) (k : Int) : dS := fun _ N δ => ∃ j : Nat, j ≠ i ∧ δ.sl[j]? = some Sl.un ∧ ∀ a, N.nx (setSl (setSl δ j (.kp a [])) i (.ownK [(.inl k, .raw (.ref a))]))
def tNil : TE := fun _ H Q => ∀ p, H p = none → Q (.ref p) (upd H p (.lst []))
end
end Ev
namespace Ev
open PySem PySem.Spec PyProof.Rows L2
variable [TabC]
variable {K : PySem.W.Frag} {S S' H H' : Hp} {B : Bs} {δ : DS} {σ : L2.St}
inductive KpV (δ : DS) : List (Key × D) → List (Key × D) → Prop
  | nil : KpV δ [] []
  | raw {j : Nat} {k : Key} {a : Addr} {ds : List D} {es fs : List (Key × D)} : δ.sl[j]? = some (.kp a ds) → KpV δ es fs → KpV δ ((k, .raw (.ref a)) :: es) ((k, .lst ds) :: fs)
/-- the look: the dict of slot i with its lists -/
def roK (δ : DS) (i : Nat) (d : D) : DS := ⟨(δ.sl.map roSl).set i (.dat d), none⟩
section
variable {X : Cx} {E : EK} {e : Expr} {d : dE} {f : dF} {t : dT}
def dRoK (i : Nat) (d : dE) : dE := fun _ δ Q => ∃ es fs, δ.sl[i]? = some (Sl.ownK es) ∧ KpV δ es fs ∧ d W0 (roK δ i (.dK fs)) fun x _ => x.solid = true ∧ Q x δ
def dRoL (i : Nat) (f : dF) : dF := fun _ δ Q => ∃ es, δ.sl[i]? = some (Sl.ownK es) ∧ f W0 (roK δ i (.fK es)) fun xs _ => (∀ x ∈ xs, x.solid = true) ∧ Q xs δ
end
end Ev
namespace Ev
open PySem PySem.Spec PyProof.Rows L2
variable [TabC]
variable {K : PySem.W.Frag} {S S' H H' : Hp} {B : Bs} {δ : DS} {σ : L2.St}
def unKp : Sl → Sl
  | .kp _ _ => .un
  | x => x
section
variable {X : Cx} {E : EK} {p : Pos} {x : Str}
def dKpFz (i : Nat) : dE := fun _ δ Q => ∃ es fs, δ.sl[i]? = some (Sl.ownK es) ∧ KpV δ es fs ∧ Q (.dK fs) ⟨(δ.sl.map unKp).set i (.dat (.dK fs)), δ.pen⟩
end
end Ev
namespace Ev
open PySem PySem.Spec PyProof.Rows L2
variable [TabC]
variable {K : PySem.W.Frag} {S S' H H' : Hp} {B : Bs} {δ : DS} {σ : L2.St}
section
variable {X : Cx} {E E2 : EK} {ke ve tg : Expr} {dk dv : dE} {pos : Pos}
def dNewK1 (i : Nat) (dk dv : dE) : dS := fun _ N δ => dk W0 δ fun y δ1 => dv W0 δ1 fun z δ2 => optQ y.key fun k => N.nx (setSl δ2 i (.ownK [(k, z)]))
end
end Ev
namespace Ev
open PySem PySem.Spec PyProof.Rows L2
variable [TabC]
section
variable {X : Cx} {E : EK} {a b : Expr} {pos p : Pos} {da db : dE} {x : Str}
/-- name, its dict given away -/
def dTakeN (i : Nat) : dE := fun _ δ Q => match δ.sl[i]? with
  | some (.ownN es) => Q (.fN es) (setSl δ i (.dat (.fN es)))
  | _ => False
/-- d[e], d such a dict -/
def dIxN (da db : dE) : dE := fun W δ Q => da W δ fun z δ1 => db W δ1 fun y δ2 => match z with
  | .fN es => optQ y.nkey fun k => optQ (valD es k) fun d => Q d δ2
  | _ => False
end
end Ev
namespace Ev
open PySem PySem.Spec PyProof.Rows L2
variable [TabC]
variable {K : PySem.W.Frag} {S S' H H' : Hp} {B : Bs} {δ : DS} {σ : L2.St}
section
variable {X : Cx} {E : EK} {e k f : Expr} {ap cp pos p : Pos} {da dk dx : dE} {x : Str} {ta : dA}
def ownKs (δ : DS) (i : Nat) : Prop := match δ.sl[i]? with | some (.ownK _) => True | _ => False
/-- name.get(k, x) of a dict of one's own with keys that are no None, k perhaps None -/
def dOwnGet2 (i : Nat) (dk dx : dE) : dE := fun W δ Q => isDict δ i ∧ dk W δ fun y δ1 => dx W δ1 fun z δ2 => match y with
  | .non => ownKs δ2 i ∧ Q z δ2
  | y => optQ (dictGet δ2 i y) fun r => Q (r.getD z) δ2
/-- [], a list of one's own that no name holds -/
def dKpL : dE := fun _ δ Q => ∃ j : Nat, δ.sl[j]? = some Sl.un ∧ ∀ a, Q (.raw (.ref a)) (setSl δ j (Sl.kp a []))
/-- name = dict(pairs), a dict of one's own -/
def dNewKd (i : Nat) (ta : dA) : dS := fun W N δ => ta W δ fun xs δ1 => match xs with
  | [.lst ds] => optQ (pairsOf ds) fun kvs => N.nx (setSl δ1 i (.ownK (mergeD [] kvs)))
  | _ => False
/-- dict(pairs), keys tuples, locked at once -/
def rDictPTf : DRC := fun xs Q => match xs with
  | [.lst ds] => optQ (pairsOfT ds) fun kvs => Q (.fT (mergeDT [] kvs))
  | _ => False
/-- name, a dict with its lists, locked from now on -/
def dKpLk (i : Nat) : dE := fun W δ Q => ∃ es fs, δ.sl[i]? = some (Sl.ownK es) ∧ KpV δ es fs ∧ dLock i W ⟨(δ.sl.map unKp).set i (.ownK fs), δ.pen⟩ Q
end
end Ev
namespace Ev
open PySem PySem.Spec PyProof.Rows L2
variable [TabC]
variable {K : PySem.W.Frag} {S S' H H' : Hp} {B : Bs} {δ : DS} {σ : L2.St}
def penK (ns : List Int) (k m : Int) : List (Key × D) := [(Sum.inr "cells", .lst (ns.map D.int)), (Sum.inr "at", .int k), (Sum.inr "left", .int m)]
theorem penK_cells {ns : List Int} {k m : Int} : valD (penK ns k m) (Sum.inr "cells") = some (.lst (ns.map D.int)) := rfl
theorem penK_at {ns : List Int} {k m : Int} : valD (penK ns k m) (Sum.inr "at") = some (.int k) := rfl
theorem penK_left {ns : List Int} {k m : Int} : valD (penK ns k m) (Sum.inr "left") = some (.int m) := rfl
theorem penK_pat {ns : List Int} {k m j : Int} : putD (penK ns k m) (Sum.inr "at") (.int j) = penK ns j m := rfl
theorem penK_pleft {ns : List Int} {k m j : Int} : putD (penK ns k m) (Sum.inr "left") (.int j) = penK ns k j := rfl
theorem ex_hpK {x : List (Key × D)} : (∃ es, Sl.hpK x = Sl.hpK es) = True := eq_true ⟨x, rfl⟩
theorem penK_len {ns : List Int} {k m : Int} : (penK ns k m).length = 3 := rfl
section
variable {X : Cx} {E : EK} {e b : Expr} {pos p tp : Pos} {x : Str} {da db : dE}
/-- name[e], the dict handed in -/
def dHGet (i : Nat) (d : dE) : dE := fun W δ Q => (∃ es, δ.sl[i]? = some (Sl.hpK es)) ∧ d W δ fun y δ1 => match δ1.sl[i]? with
  | some (.hpK es) => optQ y.key fun k => optQ (valD es k) fun z => Q z δ1
  | _ => False
theorem de_hget {i : Nat} (hu : X.A.units + 1 < cLine) (hv : PE X (.Name x p) (tVar i)) (hb : DE X E b db) (hs : NoSl b) : DE X E (.Subscript (.Name x p) b pos) (dHGet i db) := ⟨fun B => pe_mono (pe_dget hu hv (hb.run B) hs) fun σ H Q q => by
  obtain ⟨δ, S, W, Q', R, ⟨⟨es0, h0⟩, q⟩, xo, post⟩ := q
  obtain ⟨a, kvs0, ha, _⟩ := R.hpK h0
  refine ⟨.ref a, ha, δ, S, W, _, R, q, xo, fun y δ1 v S1 H1 q1 e1 R1 n1 => ?_⟩
  split at q1
  · rename_i es hs
    obtain ⟨k, hk, q1⟩ := optQ_ex q1
    obtain ⟨z, hz, q1⟩ := optQ_ex q1
    obtain ⟨a', kvs, ha', g, m1, m2, _⟩ := R1.hpK hs
    rw [ha] at ha'; cases ha'
    have ev := n1.key hk
    subst ev
    rcases KvR.get (k := k) ⟨m1, m2⟩ with ⟨q2, q3⟩ | ⟨v', d', q2, q3, n3⟩
    · rw [q3] at hz; cases hz
    · rw [q3] at hz; cases hz
      exact ⟨a, v', rfl, by rw [← q2]; exact DGet.k g, post _ _ _ _ _ q1 e1 R1 n3⟩
  · exact q1.elim⟩
/-- name[k] = v, the dict handed in -/
def dHPut (i : Nat) (dk dv : dE) : dS := fun W N δ => dv W δ fun z δ1 => (∃ es, δ1.sl[i]? = some (Sl.hpK es)) ∧ dk W δ1 fun y δ2 => match δ2.sl[i]? with
  | some (.hpK es) => optQ y.key fun k => es.length < sizeLine ∧ N.nx (setSl δ2 i (.hpK (putD es k z)))
  | _ => False
theorem ds_hput {i : Nat} (hu : X.A.units + 1 < cLine) (hv : PE X (.Name x p) (tVar i)) (hk : DE X E b db) (he : DE X E e da) (hs : swapsWith e (some (.Subscript (.Name x p) b tp)) pos.line X.env = pure false := by rfl) : DSt X E (.Assign [.Subscript (.Name x p) b tp] e pos) (dHPut i db da) :=
  ⟨fun B => ps_mono (ps_dput hu hv (hk.run B) (he.run B) hs) fun Z σ H q => by
    obtain ⟨δ, S, W, N, R, q, xo, p1, _⟩ := q
    refine ⟨δ, S, W, _, R, q, xo, fun z δ1 v S1 H1 q1 e1 R1 n1 => ?_⟩
    obtain ⟨⟨es0, h0⟩, q1⟩ := q1
    obtain ⟨a, kvs0, ha, _⟩ := R1.hpK h0
    refine ⟨.ref a, ha, δ1, S1, W, _, R1, q1, xo.mono e1, fun y δ2 u S2 H2 q2 e2 R2 n2 => ?_⟩
    split at q2
    · rename_i es hs
      obtain ⟨k, hk, hz, q2⟩ := optQ_ex q2
      obtain ⟨a', kvs, ha', g, m1, m2, _, _, put⟩ := R2.hpK hs
      rw [ha] at ha'; cases ha'
      have ev := n2.key hk
      subst ev
      have w := KvR.put ⟨m1, m2⟩ (n1.mono e2) k
      have hl : kvs.length = es.length := by simpa using congrArg List.length m1
      exact ⟨a, upd H2 a (.dK (putK kvs k v)), rfl, .inl ⟨kvs, k, g, rfl, by omega, rfl⟩, p1 _ _ _ _ q2 (e1.trans e2) (put _ _ w.1 w.2)⟩
    · exact q2.elim⟩
end
theorem Rel.bornO (R : Rel K B δ S σ H) (hn : δ.pen = none) (hb : ¬(B.pd = true ∧ B.pa ≠ none)) {p ca : Addr} {ns : List Int} {k m : Int} {c : Nat} (hp : H p = none) (hc : S ca = some (.lst (ns.map V.int))) (h63 : ns.length ≤ 63) (h0 : 0 ≤ k) (hk : k ≤ c) (hm : 0 ≤ m) :
    Rel K B { δ with pen := some (p, c) } S σ (upd H p (penO ca k m)) := by
  obtain ⟨f1, f2⟩ := R.fr.fresh hp
  have sp : S p = none := R.ex.none hp
  have nt : ∀ vs, penO ca k m ≠ .tup vs := fun vs z => by unfold penO at z; split at z <;> cases z
  have g : Grow S H S (upd H p (penO ca k m)) := ⟨Ex.refl _, Ext.of (Ex.new hp), R.ex.one hp nt, fun _ _ _ n => n⟩
  have R' := R.grow g
  obtain ⟨ow, h1, h2, h3, h4⟩ := R.sl
  obtain ⟨ow', h1', h2', h3', h4'⟩ := R'.sl
  refine ⟨R'.ex, R'.fr, ⟨sp, ca, ns, k, m, upd_same, hc, h63, h0, hk, hm⟩, ?_, R'.len, ow, fun i x e => (h1 i x e).grow (Ex.refl _) fun a o _ q _ => Ex.new hp a o q, h2, h3, fun i a e => ?_⟩
  · unfold PaOk
    rw [if_neg hb]
    intro a c' z
    cases z
    exact ⟨f1, f2⟩
  · obtain ⟨q1, q2, q3, o, q4⟩ := h4 i a e
    have ne : a ≠ p := fun z => by rw [z, hp] at q4; cases q4
    refine ⟨q1, q2, fun c' z => ?_, o, by rw [upd_ne ne]; exact q4⟩
    cases z
    exact ne rfl
section
variable {X : Cx} {E E2 : EK} {e : Expr} {pos p : Pos} {da : dE}
/-- {"cells": e, "at": 0, "left": 0}: from here on it is the pen -/
def dBornK (d : dE) : dE := fun _ δ Q => d W0 δ fun x δ1 => δ1.pen = none ∧ ∃ ns : List Int, x = .lst (ns.map D.int) ∧ ns.length ≤ 63 ∧ ∀ a, Q (.raw (.ref a)) { δ1 with pen := some (a, 0) }
theorem ints_dn {v : V} {ns : List Int} (h : Dn K S v (.lst (ns.map D.int))) : ∃ ca, v = .ref ca ∧ S ca = some (.lst (ns.map V.int)) := by
  cases h with
  | lst u1 u2 =>
    have e := ints_valsD (bs := ns) u2 (intsOf_ints ns)
    subst e
    exact ⟨_, rfl, u1⟩
theorem de_bornK [PkD] {j1 j2 j3 j4 j5 : Nat} {q1 q2 q3 q4 q5 : Pos} (h : DE X E2 e da) : DE X E (.Dict [some (.Constant (.str "cells") j1 q1), some (.Constant (.str "at") j2 q2), some (.Constant (.str "left") j3 q3)] [e, .Constant (.int 0) j4 q4, .Constant (.int 0) j5 q5] pos) (dBornK da) :=
  ⟨fun B => pe_mono (pe_disp (pps_cons pe_str h.runX (pps_cons pe_str pe_int (pps_cons pe_str pe_int pps_nil))) rfl rfl (by simp) (Nat.le_of_ble_eq_true rfl)) fun σ H Q q => by
  obtain ⟨δ, S, W, Q', R, q, xo, post⟩ := q
  intro p hp
  have sp : S p = none := R.ex.none hp
  obtain ⟨f1, f2⟩ := R.fr.fresh hp
  have Rw := R.with_ (L := p) (o := .dK []) hp (fun _ z => nomatch z)
  refine ⟨B.with p (.dK []), δ, S, W0, _, Rw, q, xok0, fun x δ1 u S1 H1 q1 e1 R1 n1 => ?_⟩
  obtain ⟨hn, ns, rfl, hl, q1⟩ := q1
  obtain ⟨ca, rfl, hca⟩ := ints_dn n1
  have s2 : S1 p = none := R1.fr.no p _ upd_same (by
    show B.S0 p = none
    cases e : B.S0 p with
    | none => rfl
    | some o => rw [R.fr.s p o e] at sp; cases sp)
  obtain ⟨R3, g1, g2⟩ := R1.unwith f1 f2 s2
  refine ⟨g1, [(Sum.inr "cells", .ref ca), (Sum.inr "at", .int 0), (Sum.inr "left", .int 0)], rfl, Nat.le_of_ble_eq_true rfl, ?_⟩
  rw [g2, upd_upd]
  have R4 := R3.bornO hn (R3.free hn) (k := 0) (m := 0) (c := 0) hide_same hca hl (by decide) (by decide) (by decide)
  rw [penO_d] at R4
  exact post _ _ _ _ _ (q1 p) e1 R4 (.raw _)⟩
end
section
variable {P : Program} {w : World} {K : PySem.W.Frag} {mg : Str → Option Value} {base : Heap} {x qual : Str} {st : Stmt} {f : Addr} {fd : FuncData} {N ps : List Str} {k : Nat} {d : dS}
theorem fn_penK [PkD] {top : Nat} (F : Fun K x qual st f fd) (Sc : FnScope N ps (defScope st)) (hn : ps.length = 2)
    (body : ∀ (cdv : Value) (A : Around) (out : List Env) (s : Shared) (H : Hp) (E : XK), A.guards = some [] → Room k (A.deeper (envOfC qual (defScope st) s.heap.objs.size f cdv)) → DSs (cx0 P w K mg base N qual (defScope st) f cdv A out s H E) E00 (defBody st) d)
    (hsp : ∀ (ns : List Int) (k m n : Int), ns.length ≤ 63 → 0 ≤ k → k < top → 0 ≤ m → 0 < n → n < 1000000 →
      d W0 { nx := fun _ => False, rt := fun x δ => ∃ r k' m' : Int, x = .int r ∧ 0 ≤ r ∧ r < n ∧ 0 ≤ k' ∧ k' ≤ k + 1 ∧ 0 ≤ m' ∧ δ.sl[0]? = some (.hpK (penK ns k' m')) } ⟨.hpK (penK ns k m) :: .dat (.int n) :: List.replicate (N.length - 2) .un, none⟩) :
    FnG P w K mg base CX0 (k + 1) f fd ps (spD K 2 (spDraw top)) := by
  refine fn_g F Sc (fun vs H Q E q => (spD_len vs H Q E q).trans hn.symm) fun cdv _ A out s H vs Q E g r q => ?_
  obtain ⟨S0, ds, p, Q', W', ex, hp, a, hl, q, post, _⟩ := q
  have hN : 2 ≤ N.length := by
    have h2 := congrArg List.length Sc.pre
    rw [List.length_take] at h2
    omega
  match ds, p, q, a, hp with
  | [.raw (.ref a0), .int n], some (b, c), ⟨e1, n1, n2, ct, q⟩, a, hp =>
    subst e1
    obtain ⟨v1, v2, rfl, d1, d2⟩ := a.two
    cases d1; cases d2
    obtain ⟨pn, ca, ns, kk, m, g1, g2, g3, g4, g5, g6⟩ := hp
    rw [penO_d] at g1
    have start0 : Rel K ⟨S0, H, some a0, false⟩ ⟨.hpK (penK ns kk m) :: .dat (.int n) :: List.replicate (N.length - 2) .un, none⟩ S0 (L2.start N [.ref a0, .int n]) H := by
      refine ⟨ex, ⟨Ex.refl _, fun _ _ h _ _ => h, fun _ ps h => ⟨ps, h⟩, fun _ _ _ n => n, fun b z => by cases z; exact ⟨_, g1⟩⟩, trivial, (by unfold PaOk; rw [if_neg (fun z => Bool.false_ne_true z.1)]; exact fun _ _ z => nomatch z), ?_, fun i => if i = 0 then some a0 else none, fun i y e => ?_, fun i hi => ?_, fun i j a e1 e2 => ?_, fun i a e => ?_⟩
      · simp only [L2.start, List.length_append, List.length_map, List.length_replicate, List.length_cons, List.length_nil]; omega
      · match i, e with
        | 0, e =>
          cases (show some (Sl.hpK (penK ns kk m)) = some y from e)
          exact ⟨a0, _, rfl, rfl, rfl, g1, rfl, .cons (.lst g2 (DnA.ints ns)) (.cons (.int _) (.cons (.int _) .nil))⟩
        | 1, e =>
          cases (show some (Sl.dat (.int n)) = some y from e)
          exact ⟨rfl, .int n, rfl, .int n⟩
        | i + 2, e =>
          have e : (List.replicate (N.length - 2) Sl.un)[i]? = some y := by simpa using e
          rw [List.getElem?_replicate] at e
          split at e
          · cases e; exact rfl
          · cases e
      · have : i ≠ 0 := fun z => by subst z; simp at hi
        simp [this]
      · have e1 : (if i = 0 then some a0 else none) = some a := e1
        have e2 : (if j = 0 then some a0 else none) = some a := e2
        split at e1
        · split at e2
          · exact (by assumption : i = 0).trans (by assumption : j = 0).symm
          · cases e2
        · cases e1
      · have e : (if i = 0 then some a0 else none) = some a := e
        split at e
        · cases e; exact ⟨pn, .inr rfl, (fun c z => (nomatch z)), _, g1⟩
        · cases e
    refine ⟨_, ((body cdv A out s H E g r).run ⟨S0, H, some a0, false⟩).nox, _, S0, W0, _, start0, hsp ns kk m n g3 g4 (by omega) g6 n1 n2, fun _ _ _ _ _ _ _ h => h.elim, fun _ _ _ _ h => h.elim, fun x δ' v σ' S' H' q1 e1 R1 dn => ?_, fun _ _ _ _ h => h.elim, fun _ _ _ _ h => h.elim, fun _ _ _ _ _ _ _ h => h.elim⟩
    obtain ⟨r, k', m', rfl, r1, r2, r3, r4, r5, r6⟩ := q1
    obtain ⟨p', kvs, s1, s2, t1, t2, s4, s5, _⟩ := R1.hpK r6
    cases s5
    match kvs, t1, t2, s2 with
    | [(k1, w1), (k2, w2), (k3, w3)], t1, .cons u1 (.cons u2 (.cons u3 .nil)), s2 =>
      simp only [penK, List.map_cons, List.map_nil, List.cons.injEq, and_true] at t1
      obtain ⟨rfl, rfl, rfl⟩ := t1
      cases u2; cases u3
      obtain ⟨ca', rfl, hca⟩ := ints_dn u1
      exact post _ (some (a0, c + 1)) _ _ _ (q r r1 r2) ⟨e1, R1.ex, ⟨s4, _, ns, k', m', by rw [penO_d]; exact s2, hca, g3, r3, by omega, r5⟩, .inl rfl, fun b o h nb nt => R1.fr.h b o h nb nt, R1.fr.t, R1.fr.no⟩ dn
end
end Ev
namespace Ev
open PySem PySem.Spec PyProof.Rows L2
variable [TabC]
def kitS (t : String) : List String → Option Bool
  | [] => some false
  | n :: ns => optQB (kitB t n) (kitS t ns)
where optQB : Option Bool → Option Bool → Option Bool
  | some true, _ => some true
  | some false, r => r
  | none, _ => none
def rIsS (ns : List String) : DRC := fun xs Q => match xs with
  | [d, .tup ts] => ts = ns.map D.cls ∧ optQ d.ty fun t => optQ (kitS t ns) fun b => Q (.bl b)
  | _ => False
end Ev
namespace Ev
open PySem PySem.Spec PyProof.Rows L2
variable [TabC]
def D.isB (b : Bool) : D → Bool | .bl a => decide (a = b) | .raw v => decide (v = .bl b) | _ => false
theorem Dn.isB {K : PySem.W.Frag} {S : Hp} {v : V} {d : D} {b : Bool} (h : Dn K S v d) : decide (v = .bl b) = d.isB b := by
  cases h <;> simp [D.isB]
def rIsA (neg : Bool) : DR2 := fun x y Q => match y with | .bl b => Q (.bl (if neg then !x.isB b else x.isB b)) | _ => False
section
variable {X : Cx}
theorem op_notA : OpR X (compareOp .IsNot) (fun x y H Q => ∃ b, y = .bl b ∧ Q (.bl (!decide (x = .bl b))) H) := by
  intro pins s σ H x y v u Q I rx ry h
  obtain ⟨b, rfl, q⟩ := h
  cases (show u = Value.bool b from ry)
  have no : ∀ w : Value, plainIs w (.bool b) = true → w ≠ .bool b → x ≠ .bl b → v = w → wpAny (model X.prog X.w) X.A (compareOp .IsNot v (.bool b)) (EP X pins σ Q) X.xe s := fun w h1 h2 h3 e => by
    subst e
    exact wpAny_isNot_other h1 h2 ⟨.bl true, H, I, rfl, by simpa [h3] using q⟩
  cases x with
  | bl a => exact op_isnot_bl pins s σ H _ _ v (Value.bool b) Q I rx ry ⟨a, b, rfl, rfl, by simpa using q⟩
  | ref a => exact no (.ref a) rfl (fun z => nomatch z) (fun z => nomatch z) rx
  | non => exact no .none rfl (fun z => nomatch z) (fun z => nomatch z) rx
  | int i => obtain ⟨t, e⟩ := rx; exact no (.int i t) rfl (fun z => nomatch z) (fun z => nomatch z) e
  | str i => obtain ⟨t, e⟩ := rx; exact no (.str i t) rfl (fun z => nomatch z) (fun z => nomatch z) e
  | byt i => obtain ⟨t, e⟩ := rx; exact no (.bytes i t) rfl (fun z => nomatch z) (fun z => nomatch z) e
  | flt i => obtain ⟨t, e⟩ := rx; exact no (.float i t) rfl (fun z => nomatch z) (fun z => nomatch z) e
  | ty n => exact no (.type n) rfl (fun z => nomatch z) (fun z => nomatch z) rx
theorem od_notA : OpD X (compareOp .IsNot) (rIsA true) := fun pins s σ H x y v u Q I rx ry ⟨S, dx, dy, Q', ex, n1, n2, q, post⟩ => by
  match dy, n2, q with
  | .bl b, .bl _, q => exact op_notA pins s σ H _ _ v u Q I rx ry ⟨b, rfl, post _ _ _ _ q (Grow.refl ex) (by rw [n1.isB]; exact .bl _)⟩
def gIx (i : Nat) (di : dE) : dG := fun x δ Q => (∃ ds, ownAt δ i = some ds) ∧ di W0 δ fun y δ2 => match y with
  | .int k => optQ (ownAt δ2 i) fun ds => optQ (ixN ds.length k) fun j => Q (setOwnAt δ2 i (ds.set j x))
  | _ => False
theorem dg_ix {i : Nat} {x : Str} {p tp : Pos} {b : Expr} {db : dE} (hv : PE X (.Name x p) (tVar i)) (hi : DE X E00 b db)
    (h2 : ∀ v, assign (.Subscript (.Name x p) b tp) X.env v = (do
      let ov ← holding [v] (eval (.Name x p) X.env)
      let iv ← holding [v, ov] (eval b X.env)
      standAt tp
      holding [v, ov, iv] (setItem ov iv v)
      release [v, ov, iv] []) := by intro _; rfl) : DG X (.Subscript (.Name x p) b tp) (gIx i db) [] := ⟨fun B => ⟨fun pins s σ H v u Q I r q => (pg_sub hv (hi.run B) set_list h2).run pins s σ H v u Q I r (by
  obtain ⟨δ, S, d, Q', R, n, q, post⟩ := q
  obtain ⟨⟨ds0, h0⟩, q⟩ := q
  obtain ⟨p0, _, v0, _⟩ := R.ownAt h0
  refine ⟨.ref p0, v0, δ, S, W0, _, R, q, xok0, fun y δ2 u S2 H2 q2 e2 R2 n2 => ?_⟩
  match y, n2, q2 with
  | .int k, .int _, q2 =>
    obtain ⟨ds, h1, q2⟩ := optQ_ex q2
    obtain ⟨j, hj, q2⟩ := optQ_ex q2
    obtain ⟨p1', vs, v1, g1, a1, _, put⟩ := R2.ownAt h1
    rw [v0] at v1
    cases v1
    exact ⟨p0, vs, k, j, rfl, rfl, g1, by rw [a1.length]; exact hj, post _ _ _ _ q2 e2 (put _ _ (a1.set (n.mono e2) j)) (fun _ _ => rfl) rfl⟩)⟩⟩
end
end Ev
namespace Ev
open PySem PySem.Spec PyProof.Rows L2
variable [TabC]
theorem pl_list {h : Heap} {a : Addr} {its : Array Value} (x : PlainL h a its) : h.IsList a its := by
  obtain ⟨o, n, e, c, _, d⟩ := x
  exact ⟨o, e, c, n, d⟩
def rEL (neg : Bool) : DR2 := fun x y Q => match x, y with | .lst xs, .lst [] => Q (.bl (if neg then !xs.isEmpty else xs.isEmpty)) | _, _ => False
theorem od_eqL {X : Cx} (hu : X.A.units < cLine) : OpD X (compareOp .Eq) (rEL false) := fun pins s σ H x y v u Q I rx ry ⟨S, dx, dy, Q', ex, n1, n2, q, post⟩ => by
  match dx, dy, n1, n2, q with
  | .lst xs, .lst [], .lst (a := a) (vs := vs) h1 a1, .lst (a := b) h2 a2, q =>
    cases a2
    cases rx
    cases ry
    obtain ⟨its, rv, ht, _⟩ := I.list (SqL.of (K := X.K) (ex _ _ h1))
    obtain ⟨its2, rv2, ht2, _⟩ := I.list (SqL.of (K := X.K) (ex _ _ h2))
    cases rv2
    have l : xs.length = its.length := a1.length.symm.trans rv.length
    cases xs with
    | nil =>
      cases its with
      | cons => cases l
      | nil => exact PySem.SeqAt.eq_listAt (items := #[]) (items2 := #[]) (e := fun _ => true) (pl_list ht) (pl_list ht2) rfl hu (fun j h _ => absurd h (by simp)) ⟨.bl true, H, I, rfl, post _ _ _ _ q (Grow.refl ex) (.bl _)⟩
    | cons x xs =>
      cases its with
      | nil => cases l
      | cons z its => exact PySem.SeqAt.eq_list_lengthsAt (pl_list ht) (pl_list ht2) (by simp) hu ⟨.bl false, H, I, rfl, post _ _ _ _ q (Grow.refl ex) (.bl _)⟩
theorem od_neL {X : Cx} (hu : X.A.units < cLine) : OpD X (compareOp .NotEq) (rEL true) := fun pins s σ H x y v u Q I rx ry ⟨S, dx, dy, Q', ex, n1, n2, q, post⟩ => by
  match dx, dy, n1, n2, q with
  | .lst xs, .lst [], .lst (a := a) (vs := vs) h1 a1, .lst (a := b) h2 a2, q =>
    cases a2
    cases rx
    cases ry
    obtain ⟨its, rv, ht, _⟩ := I.list (SqL.of (K := X.K) (ex _ _ h1))
    obtain ⟨its2, rv2, ht2, _⟩ := I.list (SqL.of (K := X.K) (ex _ _ h2))
    cases rv2
    have l : xs.length = its.length := a1.length.symm.trans rv.length
    cases xs with
    | nil =>
      cases its with
      | cons => cases l
      | nil => exact (SeqAt.RcNeAt.lists (items := #[]) (items2 := #[]) (e := fun _ => true) (pl_list ht) (pl_list ht2) rfl hu (fun j h _ => absurd h (by simp))) _ _ _ _ ⟨.bl false, H, I, rfl, post _ _ _ _ q (Grow.refl ex) (.bl _)⟩
    | cons x xs =>
      cases its with
      | nil => cases l
      | cons z its => exact (SeqAt.RcNeAt.lists_lengths (pl_list ht) (pl_list ht2) (by simp) hu) _ _ _ _ ⟨.bl true, H, I, rfl, post _ _ _ _ q (Grow.refl ex) (.bl _)⟩
end Ev
namespace Ev
open PySem PySem.Spec PyProof.Rows L2
variable [TabC]
def rNeE : DR2 := fun x y Q => match x, y with | .tup xs, .tup [] => Q (.bl (!xs.isEmpty)) | _, _ => False
theorem od_neE {X : Cx} (hu : X.A.units < cLine) : OpD X (compareOp .NotEq) rNeE := fun pins s σ H x y v u Q I rx ry ⟨S, dx, dy, Q', ex, n1, n2, q, post⟩ => by
  match dx, dy, n1, n2, q with
  | .tup xs, .tup [], .tup (a := a) (vs := vs) h1 a1, .tup (a := b) h2 a2, q =>
    cases a2
    cases rx
    cases ry
    obtain ⟨its, rv, ht, _⟩ := I.tuple (SqT.of (K := X.K) (ex _ _ h1))
    obtain ⟨its2, rv2, ht2, _⟩ := I.tuple (SqT.of (K := X.K) (ex _ _ h2))
    cases rv2
    have e : xs.isEmpty = its.isEmpty := by
      have l : xs.length = its.length := a1.length.symm.trans rv.length
      cases xs with
      | nil => cases its with
        | nil => rfl
        | cons => cases l
      | cons => cases its with
        | nil => cases l
        | cons => rfl
    refine (SeqAt.RcNeAt.tuples (e := fun _ => true) (show s.heap.IsTuple _ its.toArray from ht) (show s.heap.IsTuple _ ([] : List Value).toArray from ht2) hu (fun j _ h2 => absurd h2 (by simp))) _ _ _ _ ⟨.bl (!xs.isEmpty), H, I, ?_, post _ _ _ _ q (Grow.refl ex) (.bl _)⟩
    rw [e]
    cases its <;> rfl
end Ev
namespace Ev07
open PySem PySem.Spec PyProof.Rows L2 Ev
local macro_rules
  | `(tactic| simp only [DSIMP, $as,*] $[$l:location]?) => `(tactic| simp only [rNeE, rEL, List.isEmpty_nil, List.isEmpty_cons, gIx, rIsA, rIsS, kitS, kitS.optQB, D.cls, dHGet, dHPut, dBornK, penK_cells, penK_at, penK_left, penK_pat, penK_pleft, penK_len, ex_hpK, dOwnGet2, ownKs, dKpL, dNewKd, dKpLk, rDictPTf, dRaise1, dRaise0, excD, dTry, wTry, Ev.rIsE, Ev.rIsEt, D.xcN, dFldE, dCallVX, WP, exS_tab, dTakeN, dIxN, dKpNew, dKpPut, dKpIns, dKpApp, dKpFz, dRoK, dRoL, dNewK1, dIns, roK, dZipM, dNGet, dNPut, dNewN, isNo, Ev.nGet, Ev.nPut, D.nkey, b2n, rAddB, rSubB, rStrB, rEqE, dSrtSet, dOrX, truD, rDictX, dTupN, dSlN, rAddN, rSrtN, rTupleN, rDictN, dSlX, dRevX, dLenSetN, dEmptyV, rLtX, rMulX, Ev.rReprX, dPenS, gStarDL, dAug, dIndexE, dZipS, dGcIn, dGbIx, dGdIn, dGdIx, dListRg, rDictPf, dZipL, dListKo, dEmptyT, dDispT1, dNeE, rListA, rDictPT, rIsTF, dGroup, rSrtA, rLenA, dInV, dIxV, dCount, dSortKo, dCallR, adD, gL, dDN, dLN, wNest, bNest, bEl, bEd, dZip, seqOf, dSortDK, dCallV, dCallLam, optQ, dEnum, D.nf, D.nfs, Ev.rSumD, dLock, dKeysI, gStarD, dReverse, dMove, dDGet2, getD2, D.isD, dDisp, dPairs, keysD, Ev.rMaxD, Ev.rMinD, rDictP, Option.getD_some, Option.getD_none, Ev.D.eq_refl, dPen1, dLenSet, dSrtR, dRo, dRoF, dRoT, roD, ro_un, ro_dat, ro_own, ro_hp, ro_law, ro_ownK, ro_ownT, List.forall_mem_map, flat_int, flat_str, flat_bl, flat_non, solid_int, solid_str, solid_bl, solid_non, solid_tup, solids_nil, solids_cons, dSeq, dNext, dSet, dSetF, setSl, dVar, dTake, dC, dBin, dBinF, dB, dIfS, dIf, dRet, dRetN, dExpr, dNil, dCons, dTup, dLst, dFz, dAnd, dOr, dNot, dAndV, dOrV, dNotV, dCallD, dCallK, dCB, dCBF, dFor, dLC, dYes, dRng1, dRng2, dSeqI, gN, gT, gsNil, gsCons, dAsg, dNeg, dJoin, dFs, dJs, dFmt, dApp, dExt, dPop, dPopAt, dOwnIx, dOwnCB, dOwnL, dOwnR, dOwnSl, dSetIx, dSlT, dSlL, oNone, oSome, dBorn, optQ, ownAt, setOwnAt, lookAt, wipeD, dNewDT, dNewDK, dDGet, dDIn, dDPut, dSortT, rSrt, isDict, Ev.dictGet, Ev.dictPut, Option.isSome_none, Option.isSome_some, D.keyT, keysOf, D.key, exists_eq_left', exists_eq_left, Option.isSome, rRepL, rCatL, dRetF, dIfF, dPar, dRetOwn, dCallL, dCallLK, dPen2, dRev, dRevI, dIndex, endsL, startL, dNever, dBrk, dCnt, rAddD, rSubI, rIO, rMulI, rDivI, rModI, rPowI, rCI, Ev.rIxD, rIsN, rNotN, D.isN, Ev.rLen, rTuple, rList, rAbs, rInt, rStr, Ev.rRepr, Ev.rIsi, D.ty, kit_tab, startD, endsD, List.map_cons, List.map_nil, List.length_cons, List.length_nil, List.append_nil, List.nil_append, List.cons_append, List.getElem?_cons_zero, List.getElem?_cons_succ, List.getElem?_nil, List.set_cons_zero, List.set_cons_succ, List.replicate, List.replicate_succ, Nat.zero_add, Nat.zero_le, sizeLine, true_and, and_true, if_true, Ev.eq_int, Ev.eq_str, Ev.eq_bl, Ev.eq_non, lst_nil, tup_nil, List.map_eq_nil_iff, txt_join, rLt, rLe, rGt, rGe, atI_ofNat, atI_last, wLC, strsOf, intsOf, blsOf, Option.map_some, Ev.join_two, Ev.join_one, Ev.join_nil, List.sum_cons, List.sum_nil, PySem.Str.empty_append, ixN_ofNat, Option.some.injEq, exists_eq', List.length_map, decide_true, decide_false, Bool.not_true, Bool.not_false, Bool.true_eq_false, Bool.false_eq_true, false_and, and_false, if_false, ite_true, ite_false, Nat.reduceAdd, Nat.reduceSub, Nat.reduceMul, Nat.reduceLT, Nat.reduceLeDiff, Nat.reduceEqDiff, Nat.reducePow, Int.reduceToNat, Int.reducePow, pickL, List.filterMap_cons, List.filterMap_nil, and_self, Int.reduceLT, Int.reduceLE, Int.reduceNeg, Int.reduceAdd, Int.reduceMul, Int.reduceSub, Int.reduceEq, reduceIte, reduceCtorEq, lit_eq, String.reduceEq, Ev.rEq, Ev.rNe, Ev.rInD, cut_toN, cut_fromN, List.map_take, List.forall_mem_cons, List.forall_mem_nil, List.not_mem_nil, false_imp_iff, implies_true, forall_const, D.cm, D.lay, D.lays, D.dep, D.deps, strOk_lit, lays_ints, deps_ints, Nat.max_self, Nat.max_zero, Nat.zero_max, Bool.and_self, Bool.true_and, Bool.and_true, Bool.and_false, Bool.false_and, Bool.or_false, Bool.or_true, Bool.true_or, Bool.false_or, List.any_cons, List.any_nil, decide_eq_true_eq, eq_self, $as,*] $[$l]?)
  | `(tactic| simp only [DSIMP] $[$l:location]?) => `(tactic| simp only [rNeE, rEL, List.isEmpty_nil, List.isEmpty_cons, gIx, rIsA, rIsS, kitS, kitS.optQB, D.cls, dHGet, dHPut, dBornK, penK_cells, penK_at, penK_left, penK_pat, penK_pleft, penK_len, ex_hpK, dOwnGet2, ownKs, dKpL, dNewKd, dKpLk, rDictPTf, dRaise1, dRaise0, excD, dTry, wTry, Ev.rIsE, Ev.rIsEt, D.xcN, dFldE, dCallVX, WP, exS_tab, dTakeN, dIxN, dKpNew, dKpPut, dKpIns, dKpApp, dKpFz, dRoK, dRoL, dNewK1, dIns, roK, dZipM, dNGet, dNPut, dNewN, isNo, Ev.nGet, Ev.nPut, D.nkey, b2n, rAddB, rSubB, rStrB, rEqE, dSrtSet, dOrX, truD, rDictX, dTupN, dSlN, rAddN, rSrtN, rTupleN, rDictN, dSlX, dRevX, dLenSetN, dEmptyV, rLtX, rMulX, Ev.rReprX, dPenS, gStarDL, dAug, dIndexE, dZipS, dGcIn, dGbIx, dGdIn, dGdIx, dListRg, rDictPf, dZipL, dListKo, dEmptyT, dDispT1, dNeE, rListA, rDictPT, rIsTF, dGroup, rSrtA, rLenA, dInV, dIxV, dCount, dSortKo, dCallR, adD, gL, dDN, dLN, wNest, bNest, bEl, bEd, dZip, seqOf, dSortDK, dCallV, dCallLam, optQ, dEnum, D.nf, D.nfs, Ev.rSumD, dLock, dKeysI, gStarD, dReverse, dMove, dDGet2, getD2, D.isD, dDisp, dPairs, keysD, Ev.rMaxD, Ev.rMinD, rDictP, Option.getD_some, Option.getD_none, Ev.D.eq_refl, dPen1, dLenSet, dSrtR, dRo, dRoF, dRoT, roD, ro_un, ro_dat, ro_own, ro_hp, ro_law, ro_ownK, ro_ownT, List.forall_mem_map, flat_int, flat_str, flat_bl, flat_non, solid_int, solid_str, solid_bl, solid_non, solid_tup, solids_nil, solids_cons, dSeq, dNext, dSet, dSetF, setSl, dVar, dTake, dC, dBin, dBinF, dB, dIfS, dIf, dRet, dRetN, dExpr, dNil, dCons, dTup, dLst, dFz, dAnd, dOr, dNot, dAndV, dOrV, dNotV, dCallD, dCallK, dCB, dCBF, dFor, dLC, dYes, dRng1, dRng2, dSeqI, gN, gT, gsNil, gsCons, dAsg, dNeg, dJoin, dFs, dJs, dFmt, dApp, dExt, dPop, dPopAt, dOwnIx, dOwnCB, dOwnL, dOwnR, dOwnSl, dSetIx, dSlT, dSlL, oNone, oSome, dBorn, optQ, ownAt, setOwnAt, lookAt, wipeD, dNewDT, dNewDK, dDGet, dDIn, dDPut, dSortT, rSrt, isDict, Ev.dictGet, Ev.dictPut, Option.isSome_none, Option.isSome_some, D.keyT, keysOf, D.key, exists_eq_left', exists_eq_left, Option.isSome, rRepL, rCatL, dRetF, dIfF, dPar, dRetOwn, dCallL, dCallLK, dPen2, dRev, dRevI, dIndex, endsL, startL, dNever, dBrk, dCnt, rAddD, rSubI, rIO, rMulI, rDivI, rModI, rPowI, rCI, Ev.rIxD, rIsN, rNotN, D.isN, Ev.rLen, rTuple, rList, rAbs, rInt, rStr, Ev.rRepr, Ev.rIsi, D.ty, kit_tab, startD, endsD, List.map_cons, List.map_nil, List.length_cons, List.length_nil, List.append_nil, List.nil_append, List.cons_append, List.getElem?_cons_zero, List.getElem?_cons_succ, List.getElem?_nil, List.set_cons_zero, List.set_cons_succ, List.replicate, List.replicate_succ, Nat.zero_add, Nat.zero_le, sizeLine, true_and, and_true, if_true, Ev.eq_int, Ev.eq_str, Ev.eq_bl, Ev.eq_non, lst_nil, tup_nil, List.map_eq_nil_iff, txt_join, rLt, rLe, rGt, rGe, atI_ofNat, atI_last, wLC, strsOf, intsOf, blsOf, Option.map_some, Ev.join_two, Ev.join_one, Ev.join_nil, List.sum_cons, List.sum_nil, PySem.Str.empty_append, ixN_ofNat, Option.some.injEq, exists_eq', List.length_map, decide_true, decide_false, Bool.not_true, Bool.not_false, Bool.true_eq_false, Bool.false_eq_true, false_and, and_false, if_false, ite_true, ite_false, Nat.reduceAdd, Nat.reduceSub, Nat.reduceMul, Nat.reduceLT, Nat.reduceLeDiff, Nat.reduceEqDiff, Nat.reducePow, Int.reduceToNat, Int.reducePow, pickL, List.filterMap_cons, List.filterMap_nil, and_self, Int.reduceLT, Int.reduceLE, Int.reduceNeg, Int.reduceAdd, Int.reduceMul, Int.reduceSub, Int.reduceEq, reduceIte, reduceCtorEq, lit_eq, String.reduceEq, Ev.rEq, Ev.rNe, Ev.rInD, cut_toN, cut_fromN, List.map_take, List.forall_mem_cons, List.forall_mem_nil, List.not_mem_nil, false_imp_iff, implies_true, forall_const, D.cm, D.lay, D.lays, D.dep, D.deps, strOk_lit, lays_ints, deps_ints, Nat.max_self, Nat.max_zero, Nat.zero_max, Bool.and_self, Bool.true_and, Bool.and_true, Bool.and_false, Bool.false_and, Bool.or_false, Bool.or_true, Bool.true_or, Bool.false_or, List.any_cons, List.any_nil, decide_eq_true_eq, eq_self] $[$l]?)
variable [TabC] [PkD]
def topS (i : Nat) : Stmt := PySem.Challenge.pw_eventrooms_k07_books_known.main.body.getD i (.Pass ⟨0, 0, 0, 0⟩)
theorem atI_mem {xs : List D} {r : Int} (h0 : 0 ≤ r) (h1 : r < (xs.length : Nat)) : ∃ x ∈ xs, atI xs r = some x := by
  have h2 : r.toNat < xs.length := by omega
  exact ⟨xs[r.toNat], List.getElem_mem h2, by rw [atI_nn h0, List.getElem?_eq_getElem h2]⟩
theorem atI_ints {l : List Int} {r : Int} (h0 : 0 ≤ r) (h1 : r < (l.length : Nat)) : ∃ j ∈ l, atI (l.map D.int) r = some (.int j) := by
  obtain ⟨x, hx, e⟩ := atI_mem (xs := l.map D.int) h0 (by simpa using h1)
  obtain ⟨j, hj, rfl⟩ := List.mem_map.mp hx
  exact ⟨j, hj, e⟩
def sp__law_take : dSp := spDraw 65536
abbrev s__law_take : Stmt := topS 16
abbrev n__law_take : List Str := ["_law_pen_here", "_law_size", "_law_cells", "_law_found", "_law_at", "_law_raw", "_law_number"]
theorem sc__law_take : FnScope n__law_take ["_law_pen_here", "_law_size"] (defScope s__law_take) := ⟨rfl, rfl, rfl, by decide +kernel, rfl, by decide +kernel, by decide +kernel⟩
def p__law_take_x2_0 : dS := (dSet 3 (dBin rModI (dHGet 0 (dC (.str "left"))) (dVar 1)))
def p__law_take_x2_1 : dS := (dHPut 0 (dC (.str "left")) (dBin rDivI (dHGet 0 (dC (.str "left"))) (dVar 1)))
def p__law_take_x2_2 : dS := (dRet (dVar 3))
def b__law_take_x2_2 : dS := p__law_take_x2_2
def b__law_take_x2_1 : dS := dSeq (p__law_take_x2_1) (b__law_take_x2_2)
def b__law_take_x2_0 : dS := dSeq (p__law_take_x2_0) (b__law_take_x2_1)
def p__law_take_x4_0 : dS := (dHPut 0 (dC (.str "left")) (dBin rDivI (dCB rAbs (dCons (dVar 5) dNil)) (dVar 1)))
def p__law_take_x4_1 : dS := (dRet (dBin rModI (dCB rAbs (dCons (dVar 5) dNil)) (dVar 1)))
def b__law_take_x4_1 : dS := p__law_take_x4_1
def b__law_take_x4_0 : dS := dSeq (p__law_take_x4_0) (b__law_take_x4_1)
def p__law_take_x3_0 : dS := (dSet 5 (dBin rIxD (dVar 2) (dVar 4)))
def p__law_take_x3_1 : dS := (dIfS (dB (dBin (rGe) (dCB rAbs (dCons (dVar 5) dNil)) (dBin rPowI (dC (.int 10)) (dC (.int 18))))) b__law_take_x4_0 dNext)
def b__law_take_x3_1 : dS := p__law_take_x3_1
def b__law_take_x3_0 : dS := dSeq (p__law_take_x3_0) (b__law_take_x3_1)
def p__law_take_0 : dS := (dSet 2 (dHGet 0 (dC (.str "cells"))))
def p__law_take_1 : dS := (dIfS (dB (dBin (rGt) (dHGet 0 (dC (.str "left"))) (dC (.int 0)))) b__law_take_x2_0 dNext)
def p__law_take_2 : dS := (dSet 4 (dHGet 0 (dC (.str "at"))))
def p__law_take_3 : dS := (dHPut 0 (dC (.str "at")) (dBin rAddD (dVar 4) (dC (.int 1))))
def p__law_take_4 : dS := (dSet 5 (dBin rAddD (dBin rAddD (dBin rMulI (dBin rMulI (dC (.int 10037)) (dVar 4)) (dVar 4)) (dBin rMulI (dC (.int 127)) (dVar 4))) (dC (.int 53))))
def p__law_take_5 : dS := (dIfS (dB (dBin (rLt) (dVar 4) (dCB rLen (dCons (dVar 2) dNil)))) b__law_take_x3_0 (dIfS (dB (dBin (rGt) (dCB rLen (dCons (dVar 2) dNil)) (dC (.int 0)))) (dSet 5 (dBin rAddD (dBin rModI (dBin rIxD (dVar 2) (dBin rModI (dVar 4) (dCB rLen (dCons (dVar 2) dNil)))) (dBin rPowI (dC (.int 10)) (dC (.int 17)))) (dBin rMulI (dC (.int 40063)) (dVar 4)))) dNext))
def p__law_take_6 : dS := (dSet 6 (dBin rModI (dBin rMulI (dBin rAddD (dBin rAddD (dBin rModI (dVar 5) (dC (.int 2147483563))) (dBin rMulI (dC (.int 36037)) (dVar 4))) (dC (.int 37))) (dC (.int 69621))) (dC (.int 2147483629))))
def p__law_take_7 : dS := (dSet 6 (dBin rModI (dBin rAddD (dBin rMulI (dVar 6) (dBin rAddD (dBin rModI (dVar 6) (dC (.int 65437))) (dC (.int 17)))) (dBin rMulI (dC (.int 48271)) (dVar 4))) (dC (.int 2147483587))))
def p__law_take_8 : dS := (dRet (dBin rModI (dBin rDivI (dBin rModI (dBin rMulI (dVar 6) (dBin rAddD (dBin rModI (dVar 6) (dC (.int 9907))) (dC (.int 3)))) (dC (.int 2147483549))) (dC (.int 64))) (dVar 1)))
def b__law_take_8 : dS := p__law_take_8
def b__law_take_7 : dS := dSeq (p__law_take_7) (b__law_take_8)
def b__law_take_6 : dS := dSeq (p__law_take_6) (b__law_take_7)
def b__law_take_5 : dS := dSeq (p__law_take_5) (b__law_take_6)
def b__law_take_4 : dS := dSeq (p__law_take_4) (b__law_take_5)
def b__law_take_3 : dS := dSeq (p__law_take_3) (b__law_take_4)
def b__law_take_2 : dS := dSeq (p__law_take_2) (b__law_take_3)
def b__law_take_1 : dS := dSeq (p__law_take_1) (b__law_take_2)
def b__law_take_0 : dS := dSeq (p__law_take_0) (b__law_take_1)
def b__law_take : dS := b__law_take_0
theorem run__law_take {P : Program} {w : World} {K : PySem.W.Frag} {mg : Str → Option Value} {base : Heap} (m_abs : mg "abs" = none) (m_len : mg "len" = none) {f : Addr} (cdv : Value) (A : Around) (out : List Env) (s : Shared) (H : Hp) (E : XK) (g : A.guards = some []) (hrA : Room 0 (A.deeper (envOfC "_law_take" (defScope s__law_take) s.heap.objs.size f cdv))) :
  DSs (cx0 P w K mg base n__law_take "_law_take" (defScope s__law_take) f cdv A out s H E) E00 (defBody s__law_take) b__law_take := by
 have hgA : (A.deeper (envOfC "_law_take" (defScope s__law_take) s.heap.objs.size f cdv)).guards = some [] := g
 have hun := hrA.un
 exact (dss_cons (t := p__law_take_0) (u := b__law_take_1) (ds_set (i := 2) sc__law_take.nd rfl (by first | exact .inl rfl | exact .inr rfl) (de_hget (Nat.lt_of_le_of_lt (Nat.add_le_add_left (by decide) _) hun) (pv 0) de_str (fun _ _ => rfl)))
  (dss_cons (t := p__law_take_1) (u := b__law_take_2) (ds_if (dt_cmp (od_gt) (de_hget (Nat.lt_of_le_of_lt (Nat.add_le_add_left (by decide) _) hun) (pv 0) de_str (fun _ _ => rfl)) de_int (nomark _)) (dss_cons (t := p__law_take_x2_0) (u := b__law_take_x2_1) (ds_set (i := 3) sc__law_take.nd rfl (by first | exact .inl rfl | exact .inr rfl) (de_op od_mod (de_hget (Nat.lt_of_le_of_lt (Nat.add_le_add_left (by decide) _) hun) (pv 0) de_str (fun _ _ => rfl)) (de_var (pv 1))))
  (dss_cons (t := p__law_take_x2_1) (u := b__law_take_x2_2) (ds_hput (Nat.lt_of_le_of_lt (Nat.add_le_add_left (by decide) _) hun) (pv 0) de_str (de_op od_div (de_hget (Nat.lt_of_le_of_lt (Nat.add_le_add_left (by decide) _) hun) (pv 0) de_str (fun _ _ => rfl)) (de_var (pv 1))))
  (dss_one (t := p__law_take_x2_2) (ds_ret (de_var (pv 3)))))) dss_nil)
  (dss_cons (t := p__law_take_2) (u := b__law_take_3) (ds_set (i := 4) sc__law_take.nd rfl (by first | exact .inl rfl | exact .inr rfl) (de_hget (Nat.lt_of_le_of_lt (Nat.add_le_add_left (by decide) _) hun) (pv 0) de_str (fun _ _ => rfl)))
  (dss_cons (t := p__law_take_3) (u := b__law_take_4) (ds_hput (Nat.lt_of_le_of_lt (Nat.add_le_add_left (by decide) _) hun) (pv 0) de_str (de_op od_add (de_var (pv 4)) de_int))
  (dss_cons (t := p__law_take_4) (u := b__law_take_5) (ds_set (i := 5) sc__law_take.nd rfl (by first | exact .inl rfl | exact .inr rfl) (de_op od_add (de_op od_add (de_op od_mul (de_op od_mul de_int (de_var (pv 4))) (de_var (pv 4))) (de_op od_mul de_int (de_var (pv 4)))) de_int))
  (dss_cons (t := p__law_take_5) (u := b__law_take_6) (ds_if (dt_cmp (od_lt) (de_var (pv 4)) (de_callB (cd_len) (by rfl) m_len PySem.boot_len (da_cons (de_var (pv 2)) da_nil)) (nomark _)) (dss_cons (t := p__law_take_x3_0) (u := b__law_take_x3_1) (ds_set (i := 5) sc__law_take.nd rfl (by first | exact .inl rfl | exact .inr rfl) (de_ix (de_var (pv 2)) (de_var (pv 4)) (fun _ _ => rfl)))
  (dss_one (t := p__law_take_x3_1) (ds_if (dt_cmp (od_ge) (de_callB (cd_abs) (by rfl) m_abs (by decide +kernel) (da_cons (de_var (pv 5)) da_nil)) (de_op od_pow de_int de_int) (nomark _)) (dss_cons (t := p__law_take_x4_0) (u := b__law_take_x4_1) (ds_hput (Nat.lt_of_le_of_lt (Nat.add_le_add_left (by decide) _) hun) (pv 0) de_str (de_op od_div (de_callB (cd_abs) (by rfl) m_abs (by decide +kernel) (da_cons (de_var (pv 5)) da_nil)) (de_var (pv 1))))
  (dss_one (t := p__law_take_x4_1) (ds_ret (de_op od_mod (de_callB (cd_abs) (by rfl) m_abs (by decide +kernel) (da_cons (de_var (pv 5)) da_nil)) (de_var (pv 1)))))) dss_nil))) (dss_one (ds_if (dt_cmp (od_gt) (de_callB (cd_len) (by rfl) m_len PySem.boot_len (da_cons (de_var (pv 2)) da_nil)) de_int (nomark _)) (dss_one (ds_set (i := 5) sc__law_take.nd rfl (by first | exact .inl rfl | exact .inr rfl) (de_op od_add (de_op od_mod (de_ix (de_var (pv 2)) (de_op od_mod (de_var (pv 4)) (de_callB (cd_len) (by rfl) m_len PySem.boot_len (da_cons (de_var (pv 2)) da_nil))) (fun _ _ => rfl)) (de_op od_pow de_int de_int)) (de_op od_mul de_int (de_var (pv 4)))))) dss_nil)))
  (dss_cons (t := p__law_take_6) (u := b__law_take_7) (ds_set (i := 6) sc__law_take.nd rfl (by first | exact .inl rfl | exact .inr rfl) (de_op od_mod (de_op od_mul (de_op od_add (de_op od_add (de_op od_mod (de_var (pv 5)) de_int) (de_op od_mul de_int (de_var (pv 4)))) de_int) de_int) de_int))
  (dss_cons (t := p__law_take_7) (u := b__law_take_8) (ds_set (i := 6) sc__law_take.nd rfl (by first | exact .inl rfl | exact .inr rfl) (de_op od_mod (de_op od_add (de_op od_mul (de_var (pv 6)) (de_op od_add (de_op od_mod (de_var (pv 6)) de_int) de_int)) (de_op od_mul de_int (de_var (pv 4)))) de_int))
  (dss_one (t := p__law_take_8) (ds_ret (de_op od_mod (de_op od_div (de_op od_mod (de_op od_mul (de_var (pv 6)) (de_op od_add (de_op od_mod (de_var (pv 6)) de_int) de_int)) de_int) de_int) (de_var (pv 1)))))))))))))
theorem hsp__law_take : ∀ (ns : List Int) (k m n : Int), ns.length ≤ 63 → 0 ≤ k → k < (65536 : Nat) → 0 ≤ m → 0 < n → n < 1000000 →
      b__law_take W0 { nx := fun _ => False, rt := fun x δ => ∃ r k' m' : Int, x = .int r ∧ 0 ≤ r ∧ r < n ∧ 0 ≤ k' ∧ k' ≤ k + 1 ∧ 0 ≤ m' ∧ δ.sl[0]? = some (.hpK (penK ns k' m')) } ⟨.hpK (penK ns k m) :: .dat (.int n) :: List.replicate (n__law_take.length - 2) .un, none⟩ := by
  intro ns k m n hl k0 k1 m0 n0 n1
  have ab : ∀ i : Int, 0 ≤ (if i < 0 then -i else i) := fun i => by split <;> omega
  have dv : ∀ i : Int, 0 ≤ i → 0 ≤ i / n := fun i h => Int.ediv_nonneg h (by omega)
  by_cases hm : 0 < m
  · simp only [DSIMP, b__law_take, n__law_take, p__law_take_x2_0, p__law_take_x2_1, p__law_take_x2_2, b__law_take_x2_2, b__law_take_x2_1, b__law_take_x2_0, p__law_take_x4_0, p__law_take_x4_1, b__law_take_x4_1, b__law_take_x4_0, p__law_take_x3_0, p__law_take_x3_1, b__law_take_x3_1, b__law_take_x3_0, p__law_take_0, p__law_take_1, p__law_take_2, p__law_take_3, p__law_take_4, p__law_take_5, p__law_take_6, p__law_take_7, p__law_take_8, b__law_take_8, b__law_take_7, b__law_take_6, b__law_take_5, b__law_take_4, b__law_take_3, b__law_take_2, b__law_take_1, b__law_take_0, hm]
    refine ⟨n0, ⟨n0, by omega⟩, _, _, _, rfl, Int.emod_nonneg _ (by omega), Int.emod_lt_of_pos _ n0, k0, by omega, dv _ m0, rfl⟩
  · have low : ∀ z : Int, 0 ≤ z % 2147483563 ∧ z % 2147483563 < 2147483563 := fun z => ⟨Int.emod_nonneg _ (by decide), Int.emod_lt_of_pos _ (by decide)⟩
    have low2 : ∀ z : Int, 0 ≤ z % 2147483629 ∧ z % 2147483629 < 2147483629 := fun z => ⟨Int.emod_nonneg _ (by decide), Int.emod_lt_of_pos _ (by decide)⟩
    have low3 : ∀ z : Int, 0 ≤ z % 2147483587 ∧ z % 2147483587 < 2147483587 := fun z => ⟨Int.emod_nonneg _ (by decide), Int.emod_lt_of_pos _ (by decide)⟩
    have c0 : CMul 10037 k ∧ CMul (10037 * k) k ∧ CMul 127 k := ⟨.inl ⟨by decide, by decide⟩, .inl ⟨by omega, by omega⟩, .inl ⟨by decide, by decide⟩⟩
    have c1 : ∀ c : Int, CMul 36037 k ∧ CMul (c % 2147483563 + 36037 * k + 37) 69621 := fun c => ⟨.inl ⟨by decide, by decide⟩, .inr ⟨by decide, by decide⟩⟩
    have c2 : ∀ z y : Int, CMul (z % 2147483629) y ∧ CMul 48271 k := fun z y => ⟨.inl ⟨by have := low2 z; omega, by have := low2 z; omega⟩, .inl ⟨by decide, by decide⟩⟩
    have c3 : ∀ z y : Int, CMul (z % 2147483587) y := fun z y => .inl ⟨by have := low3 z; omega, by have := low3 z; omega⟩
    have cd : ∀ z : Int, CDiv z 64 := fun _ => ⟨by decide, by decide⟩
    have fin : ∀ c : Int, ∃ r k' m' : Int, D.int (c % n) = D.int r ∧ 0 ≤ r ∧ r < n ∧ 0 ≤ k' ∧ k' ≤ k + 1 ∧ 0 ≤ m' ∧ Sl.hpK (penK ns (k + 1) m) = Sl.hpK (penK ns k' m') := fun c =>
      ⟨_, _, _, rfl, Int.emod_nonneg _ (by omega), Int.emod_lt_of_pos _ n0, by omega, by omega, m0, rfl⟩
    by_cases hk : k < ns.length
    · obtain ⟨c, hc, ec⟩ := atI_ints (l := ns) k0 hk
      by_cases hb : 1000000000000000000 ≤ (if c < 0 then -c else c)
      · simp only [DSIMP, b__law_take, n__law_take, p__law_take_x2_0, p__law_take_x2_1, p__law_take_x2_2, b__law_take_x2_2, b__law_take_x2_1, b__law_take_x2_0, p__law_take_x4_0, p__law_take_x4_1, b__law_take_x4_1, b__law_take_x4_0, p__law_take_x3_0, p__law_take_x3_1, b__law_take_x3_1, b__law_take_x3_0, p__law_take_0, p__law_take_1, p__law_take_2, p__law_take_3, p__law_take_4, p__law_take_5, p__law_take_6, p__law_take_7, p__law_take_8, b__law_take_8, b__law_take_7, b__law_take_6, b__law_take_5, b__law_take_4, b__law_take_3, b__law_take_2, b__law_take_1, b__law_take_0, hm, hk, ec, hb]
        exact ⟨c0.1, c0.2.1, c0.2.2, ⟨by decide, by decide, by decide⟩, ⟨n0, by omega⟩, n0, _, _, _, rfl, Int.emod_nonneg _ (by omega), Int.emod_lt_of_pos _ n0, by omega, by omega, dv _ (ab c), rfl⟩
      · simp only [DSIMP, b__law_take, n__law_take, p__law_take_x2_0, p__law_take_x2_1, p__law_take_x2_2, b__law_take_x2_2, b__law_take_x2_1, b__law_take_x2_0, p__law_take_x4_0, p__law_take_x4_1, b__law_take_x4_1, b__law_take_x4_0, p__law_take_x3_0, p__law_take_x3_1, b__law_take_x3_1, b__law_take_x3_0, p__law_take_0, p__law_take_1, p__law_take_2, p__law_take_3, p__law_take_4, p__law_take_5, p__law_take_6, p__law_take_7, p__law_take_8, b__law_take_8, b__law_take_7, b__law_take_6, b__law_take_5, b__law_take_4, b__law_take_3, b__law_take_2, b__law_take_1, b__law_take_0, hm, hk, ec, hb]
        exact ⟨c0.1, c0.2.1, c0.2.2, ⟨by decide, by decide, by decide⟩, (c1 0).1, (c1 _).2, (c2 _ _).1, (c2 0 0).2, c3 _ _, cd _, n0, fin _⟩
    · by_cases h0 : (0 : Int) < ns.length
      · obtain ⟨c, hc⟩ := cell_at (k := k) h0
        simp only [DSIMP, b__law_take, n__law_take, p__law_take_x2_0, p__law_take_x2_1, p__law_take_x2_2, b__law_take_x2_2, b__law_take_x2_1, b__law_take_x2_0, p__law_take_x4_0, p__law_take_x4_1, b__law_take_x4_1, b__law_take_x4_0, p__law_take_x3_0, p__law_take_x3_1, b__law_take_x3_1, b__law_take_x3_0, p__law_take_0, p__law_take_1, p__law_take_2, p__law_take_3, p__law_take_4, p__law_take_5, p__law_take_6, p__law_take_7, p__law_take_8, b__law_take_8, b__law_take_7, b__law_take_6, b__law_take_5, b__law_take_4, b__law_take_3, b__law_take_2, b__law_take_1, b__law_take_0, hm, hk, h0, hc]
        exact ⟨c0.1, c0.2.1, c0.2.2, ⟨by decide, by decide, by decide⟩, .inl ⟨by decide, by decide⟩, (c1 0).1, (c1 _).2, (c2 _ _).1, (c2 0 0).2, c3 _ _, cd _, n0, fin _⟩
      · simp only [DSIMP, b__law_take, n__law_take, p__law_take_x2_0, p__law_take_x2_1, p__law_take_x2_2, b__law_take_x2_2, b__law_take_x2_1, b__law_take_x2_0, p__law_take_x4_0, p__law_take_x4_1, b__law_take_x4_1, b__law_take_x4_0, p__law_take_x3_0, p__law_take_x3_1, b__law_take_x3_1, b__law_take_x3_0, p__law_take_0, p__law_take_1, p__law_take_2, p__law_take_3, p__law_take_4, p__law_take_5, p__law_take_6, p__law_take_7, p__law_take_8, b__law_take_8, b__law_take_7, b__law_take_6, b__law_take_5, b__law_take_4, b__law_take_3, b__law_take_2, b__law_take_1, b__law_take_0, hm, hk, h0]
        exact ⟨c0.1, c0.2.1, c0.2.2, (c1 0).1, (c1 _).2, (c2 _ _).1, (c2 0 0).2, c3 _ _, cd _, n0, fin _⟩
theorem ok__law_take {P : Program} {w : World} {K : PySem.W.Frag} {mg : Str → Option Value} {base : Heap} (m_abs : mg "abs" = none) (m_len : mg "len" = none) {f : Addr} {fd : FuncData} (F : Fun K "_law_take" "_law_take" s__law_take f fd) : FnG P w K mg base CX0 1 f fd ["_law_pen_here", "_law_size"] (spD K 2 sp__law_take) :=
 fn_penK (top := 65536) F sc__law_take rfl (fun cdv A out s H E g r => run__law_take m_abs m_len cdv A out s H E g r) hsp__law_take
def sp__law_pen : dSp := fun ds p Q _ => ∃ ns, ds = [.scr ns] ∧ ns.length ≤ 63 ∧ p = none ∧ ∀ a, Q (.raw (.ref a)) (some (a, 0))
abbrev s__law_pen : Stmt := topS 15
abbrev n__law_pen : List Str := ["_law_script"]
theorem sc__law_pen : FnScope n__law_pen ["_law_script"] (defScope s__law_pen) := ⟨rfl, rfl, rfl, by decide +kernel, rfl, by decide +kernel, by decide +kernel⟩
def b__law_pen : dS := (dRet (dBornK (dFz (dSlL (dVar 0) oNone (oSome (dC (.int 63)))))))
theorem run__law_pen {P : Program} {w : World} {K : PySem.W.Frag} {mg : Str → Option Value} {base : Heap} {f : Addr} (cdv : Value) (A : Around) (out : List Env) (s : Shared) (H : Hp) (E : XK) (g : A.guards = some []) (hrA : Room 0 (A.deeper (envOfC "_law_pen" (defScope s__law_pen) s.heap.objs.size f cdv))) :
  DSs (cx0 P w K mg base n__law_pen "_law_pen" (defScope s__law_pen) f cdv A out s H E) E00 (defBody s__law_pen) b__law_pen := by
 have hgA : (A.deeper (envOfC "_law_pen" (defScope s__law_pen) s.heap.objs.size f cdv)).guards = some [] := g
 have hun := hrA.un
 exact (dss_one (ds_ret (de_bornK (E2 := E00) (de_fz (df_slL (de_var (pv 0)) do_none (do_some de_int))))))
theorem hsp__law_pen : ∀ ds p Q W, ds.length = 1 → sp__law_pen ds p Q W → b__law_pen W0 (endsD Q) (startD n__law_pen.length ds p) := by
  rintro _ p Q W - ⟨ns, rfl, hl, rfl, q⟩
  simp only [DSIMP, n__law_pen, b__law_pen]
  exact ⟨ns.take 63, by rw [List.map_take], by simp; omega, q⟩
theorem ok__law_pen {P : Program} {w : World} {K : PySem.W.Frag} {mg : Str → Option Value} {base : Heap} {f : Addr} {fd : FuncData} (F : Fun K "_law_pen" "_law_pen" s__law_pen f fd) : FnG P w K mg base CX0 1 f fd ["_law_script"] (spD K 1 sp__law_pen) :=
 fn_d0 F sc__law_pen rfl (fun cdv A out s H E g r => run__law_pen  cdv A out s H E g r) hsp__law_pen
def sp__law_pick : dSp := fun ds p Q _ => ∃ (a : Addr) (c : Nat) (xs : List D), ds = [.raw (.ref a), .lst xs] ∧ p = some (a, c) ∧ c + 1 < 65536 ∧ 0 < xs.length ∧ xs.length < 1000000 ∧ ∀ x ∈ xs, Q x (some (a, c + 1))
abbrev s__law_pick : Stmt := topS 17
abbrev n__law_pick : List Str := ["_law_pen_here", "_law_some"]
theorem sc__law_pick : FnScope n__law_pick ["_law_pen_here", "_law_some"] (defScope s__law_pick) := ⟨rfl, rfl, rfl, by decide +kernel, rfl, by decide +kernel, by decide +kernel⟩
def b__law_pick : dS := (dRet (dBin rIxD (dVar 1) (dCallD 2 [] sp__law_take (dCons (dVar 0) (dCons (dCB rLen (dCons (dVar 1) dNil)) dNil)))))
theorem run__law_pick {P : Program} {w : World} {K : PySem.W.Frag} {mg : Str → Option Value} {base : Heap} (m_len : mg "len" = none) (K__law_take_2 : Def P w K mg base 1 "_law_take" 2 sp__law_take []) {f : Addr} (cdv : Value) (A : Around) (out : List Env) (s : Shared) (H : Hp) (E : XK) (g : A.guards = some []) (hrA : Room 1 (A.deeper (envOfC "_law_pick" (defScope s__law_pick) s.heap.objs.size f cdv))) :
  DSs (cx0 P w K mg base n__law_pick "_law_pick" (defScope s__law_pick) f cdv A out s H E) E00 (defBody s__law_pick) b__law_pick := by
 have hgA : (A.deeper (envOfC "_law_pick" (defScope s__law_pick) s.heap.objs.size f cdv)).guards = some [] := g
 have hun := hrA.un
 exact (dss_one (ds_ret (de_ix (de_var (pv 1)) (de_callD K__law_take_2 hgA hrA (by rfl) (da_cons (de_var (pv 0)) (da_cons (de_callB (cd_len) (by rfl) m_len PySem.boot_len (da_cons (de_var (pv 1)) da_nil)) da_nil))) (fun _ _ => rfl))))
theorem hsp__law_pick : ∀ ds p Q W, ds.length = 2 → sp__law_pick ds p Q W → b__law_pick W0 (endsD Q) (startD n__law_pick.length ds p) := by
  rintro _ _ Q W - ⟨a, c, xs, rfl, rfl, hc, h0, h1, q⟩
  simp only [DSIMP, n__law_pick, b__law_pick, sp__law_take, spDraw]
  refine ⟨by omega, by omega, by omega, fun r r0 r1 => ?_⟩
  obtain ⟨x, hx, e⟩ := atI_mem r0 r1
  rw [e]
  exact q x hx
theorem ok__law_pick {P : Program} {w : World} {K : PySem.W.Frag} {mg : Str → Option Value} {base : Heap} (m_len : mg "len" = none) (K__law_take_2 : Def P w K mg base 1 "_law_take" 2 sp__law_take []) {f : Addr} {fd : FuncData} (F : Fun K "_law_pick" "_law_pick" s__law_pick f fd) : FnG P w K mg base CX0 2 f fd ["_law_pen_here", "_law_some"] (spD K 2 sp__law_pick) :=
 fn_d0 F sc__law_pick rfl (fun cdv A out s H E g r => run__law_pick m_len K__law_take_2 cdv A out s H E g r) hsp__law_pick
def sp__law_box : dSp := fun ds p Q _ => ∃ (a : Addr) (c : Nat), ds = [.raw (.ref a)] ∧ p = some (a, c) ∧ c + 20 < 65536 ∧ ∀ (x y w h : Int) (c' : Nat), x.natAbs ≤ 40 → y.natAbs ≤ 40 → 1 ≤ w → w ≤ 40 → 1 ≤ h → h ≤ 40 → c' ≤ c + 16 → Q (.tup [.int x, .int y, .int w, .int h]) (some (a, c'))
abbrev s__law_box : Stmt := topS 18
abbrev n__law_box : List Str := ["_law_pen_here", "_law_x", "_law_y", "_law_sizes", "_law_k"]
theorem sc__law_box : FnScope n__law_box ["_law_pen_here"] (defScope s__law_box) := ⟨rfl, rfl, rfl, by decide +kernel, rfl, by decide +kernel, by decide +kernel⟩
def p__law_box_0 : dS := (dSet 1 (dBin rIxD (dFz (dLst (dCons (dCallD 2 [] sp__law_take (dCons (dVar 0) (dCons (dC (.int 9)) dNil))) (dCons (dBin rSubI (dCallD 2 [] sp__law_take (dCons (dVar 0) (dCons (dC (.int 9)) dNil))) (dC (.int 4))) (dCons (dC (.int 0)) (dCons (dBin rIxD (dFz (dLst (dCons (dC (.int 40)) (dCons (dC (.int (-40))) (dCons (dC (.int 39)) dNil))))) (dCallD 2 [] sp__law_take (dCons (dVar 0) (dCons (dC (.int 3)) dNil)))) dNil)))))) (dCallD 2 [] sp__law_take (dCons (dVar 0) (dCons (dC (.int 4)) dNil)))))
def p__law_box_1 : dS := (dSet 2 (dBin rIxD (dFz (dLst (dCons (dCallD 2 [] sp__law_take (dCons (dVar 0) (dCons (dC (.int 9)) dNil))) (dCons (dBin rSubI (dCallD 2 [] sp__law_take (dCons (dVar 0) (dCons (dC (.int 9)) dNil))) (dC (.int 4))) (dCons (dC (.int 0)) (dCons (dBin rIxD (dFz (dLst (dCons (dC (.int 40)) (dCons (dC (.int (-40))) (dCons (dC (.int (-39))) dNil))))) (dCallD 2 [] sp__law_take (dCons (dVar 0) (dCons (dC (.int 3)) dNil)))) dNil)))))) (dCallD 2 [] sp__law_take (dCons (dVar 0) (dCons (dC (.int 4)) dNil)))))
def p__law_box_2 : dS := (dSetF 3 (dLC (dRng1 (dCons (dC (.int 2)) dNil)) (gN 4) dYes (dBin rIxD (dFz (dLst (dCons (dBin rAddD (dC (.int 1)) (dCallD 2 [] sp__law_take (dCons (dVar 0) (dCons (dC (.int 9)) dNil)))) (dCons (dC (.int 1)) (dCons (dBin rAddD (dC (.int 1)) (dCallD 2 [] sp__law_take (dCons (dVar 0) (dCons (dC (.int 40)) dNil)))) (dCons (dC (.int 40)) dNil)))))) (dCallD 2 [] sp__law_take (dCons (dVar 0) (dCons (dC (.int 4)) dNil)))) [4]))
def p__law_box_3 : dS := (dRet (dTup (dCons (dVar 1) (dCons (dVar 2) (dCons (dOwnIx 3 (dC (.int 0))) (dCons (dOwnIx 3 (dC (.int 1))) dNil))))))
def b__law_box_3 : dS := p__law_box_3
def b__law_box_2 : dS := dSeq (p__law_box_2) (b__law_box_3)
def b__law_box_1 : dS := dSeq (p__law_box_1) (b__law_box_2)
def b__law_box_0 : dS := dSeq (p__law_box_0) (b__law_box_1)
def b__law_box : dS := b__law_box_0
theorem run__law_box {P : Program} {w : World} {K : PySem.W.Frag} {mg : Str → Option Value} {base : Heap} (m_range : mg "range" = none) (K__law_take_2 : Def P w K mg base 1 "_law_take" 2 sp__law_take []) {f : Addr} (cdv : Value) (A : Around) (out : List Env) (s : Shared) (H : Hp) (E : XK) (g : A.guards = some []) (hrA : Room 1 (A.deeper (envOfC "_law_box" (defScope s__law_box) s.heap.objs.size f cdv))) :
  DSs (cx0 P w K mg base n__law_box "_law_box" (defScope s__law_box) f cdv A out s H E) E00 (defBody s__law_box) b__law_box := by
 have hgA : (A.deeper (envOfC "_law_box" (defScope s__law_box) s.heap.objs.size f cdv)).guards = some [] := g
 have hun := hrA.un
 exact (dss_cons (t := p__law_box_0) (u := b__law_box_1) (ds_set (i := 1) sc__law_box.nd rfl (by first | exact .inl rfl | exact .inr rfl) (de_ix (de_fz (df_lst (da_cons (de_callD K__law_take_2 hgA hrA (by rfl) (da_cons (de_var (pv 0)) (da_cons de_int da_nil))) (da_cons (de_op od_sub (de_callD K__law_take_2 hgA hrA (by rfl) (da_cons (de_var (pv 0)) (da_cons de_int da_nil))) de_int) (da_cons de_int (da_cons (de_ix (de_fz (df_lst (da_cons de_int (da_cons de_neg (da_cons de_int da_nil))))) (de_callD K__law_take_2 hgA hrA (by rfl) (da_cons (de_var (pv 0)) (da_cons de_int da_nil))) (fun _ _ => rfl)) da_nil)))))) (de_callD K__law_take_2 hgA hrA (by rfl) (da_cons (de_var (pv 0)) (da_cons de_int da_nil))) (fun _ _ => rfl)))
  (dss_cons (t := p__law_box_1) (u := b__law_box_2) (ds_set (i := 2) sc__law_box.nd rfl (by first | exact .inl rfl | exact .inr rfl) (de_ix (de_fz (df_lst (da_cons (de_callD K__law_take_2 hgA hrA (by rfl) (da_cons (de_var (pv 0)) (da_cons de_int da_nil))) (da_cons (de_op od_sub (de_callD K__law_take_2 hgA hrA (by rfl) (da_cons (de_var (pv 0)) (da_cons de_int da_nil))) de_int) (da_cons de_int (da_cons (de_ix (de_fz (df_lst (da_cons de_int (da_cons de_neg (da_cons de_neg da_nil))))) (de_callD K__law_take_2 hgA hrA (by rfl) (da_cons (de_var (pv 0)) (da_cons de_int da_nil))) (fun _ _ => rfl)) da_nil)))))) (de_callD K__law_take_2 hgA hrA (by rfl) (da_cons (de_var (pv 0)) (da_cons de_int da_nil))) (fun _ _ => rfl)))
  (dss_cons (t := p__law_box_2) (u := b__law_box_3) (ds_setLc (E2 := E00) (own := [("_law_k", 4)]) (i := 3) rfl sc__law_box.nd rfl rfl (sw_true rfl rfl rfl (by decide +kernel)) (di_range1 (by rfl) m_range (da_cons de_int da_nil)) (blkOk_by (N := n__law_box) (sc := (defScope s__law_box)) (own := [("_law_k", 4)]) (by decide +kernel)) (by decide) (fun _ _ _ _ _ => (dg_name (pg_name (i := 4) sc__law_box.nd rfl (by first | exact .inl rfl | exact .inr rfl)))) (fun _ _ _ _ _ => dts_nil) (fun _ _ _ _ _ => (de_ix (de_fz (df_lst (da_cons (de_op od_add de_int (de_callD K__law_take_2 hgA hrA (by rfl) (da_cons (de_var (pv 0)) (da_cons de_int da_nil)))) (da_cons de_int (da_cons (de_op od_add de_int (de_callD K__law_take_2 hgA hrA (by rfl) (da_cons (de_var (pv 0)) (da_cons de_int da_nil)))) (da_cons de_int da_nil)))))) (de_callD K__law_take_2 hgA hrA (by rfl) (da_cons (de_var (pv 0)) (da_cons de_int da_nil))) (fun _ _ => rfl))))
  (dss_one (t := p__law_box_3) (ds_ret (de_tup (da_cons (de_var (pv 1)) (da_cons (de_var (pv 2)) (da_cons (de_ownIx (pv 3) de_int (fun _ _ => rfl)) (da_cons (de_ownIx (pv 3) de_int (fun _ _ => rfl)) da_nil))))))))))
theorem hsp__law_box : ∀ ds p Q W, ds.length = 1 → sp__law_box ds p Q W → b__law_box W0 (endsD Q) (startD n__law_box.length ds p) := by
  rintro _ _ Q W - ⟨a, c, rfl, rfl, hc, q⟩
  simp only [DSIMP, n__law_box, b__law_box, b__law_box_0, p__law_box_0, sp__law_take, spDraw]
  refine ⟨by omega, fun r1 r10 r11 => ⟨by omega, fun r2 r20 r21 => ⟨by omega, fun r3 r30 r31 => ?_⟩⟩⟩
  obtain ⟨z, hz, ez⟩ := atI_ints (l := [40, -40, 39]) r30 (by simp; omega)
  have ez : atI [D.int 40, D.int (-40), D.int 39] r3 = some (.int z) := ez
  simp only [DSIMP, ez]
  refine ⟨by omega, fun r4 r40 r41 => ?_⟩
  obtain ⟨x, hx, ex⟩ := atI_ints (l := [r1, r2 - 4, 0, z]) r40 (by simp; omega)
  have ex : atI [D.int r1, D.int (r2 - 4), D.int 0, D.int z] r4 = some (.int x) := ex
  have hx : x.natAbs ≤ 40 := by
    simp only [List.mem_cons, List.not_mem_nil, or_false] at hx hz
    omega
  simp only [DSIMP, ex, b__law_box_1, p__law_box_1, sp__law_take, spDraw]
  refine ⟨by omega, fun r5 r50 r51 => ⟨by omega, fun r6 r60 r61 => ⟨by omega, fun r7 r70 r71 => ?_⟩⟩⟩
  obtain ⟨z2, hz2, ez2⟩ := atI_ints (l := [40, -40, -39]) r70 (by simp; omega)
  have ez2 : atI [D.int 40, D.int (-40), D.int (-39)] r7 = some (.int z2) := ez2
  simp only [DSIMP, ez2]
  refine ⟨by omega, fun r8 r80 r81 => ?_⟩
  obtain ⟨y, hy, ey⟩ := atI_ints (l := [r5, r6 - 4, 0, z2]) r80 (by simp; omega)
  have ey : atI [D.int r5, D.int (r6 - 4), D.int 0, D.int z2] r8 = some (.int y) := ey
  have hy : y.natAbs ≤ 40 := by
    simp only [List.mem_cons, List.not_mem_nil, or_false] at hy hz2
    omega
  have e2 : Ev.intsFrom 0 2 = [.int 0, .int 1] := rfl
  simp only [DSIMP, ey, b__law_box_2, p__law_box_2, e2, wLC, sp__law_take, spDraw]
  refine ⟨by omega, fun t1 t10 t11 => ⟨by omega, fun t2 t20 t21 => ⟨by omega, fun t3 t30 t31 => ?_⟩⟩⟩
  obtain ⟨w, hw, ew⟩ := atI_ints (l := [1 + t1, 1, 1 + t2, 40]) t30 (by simp; omega)
  have ew : atI [D.int (1 + t1), D.int 1, D.int (1 + t2), D.int 40] t3 = some (.int w) := ew
  have hw : 1 ≤ w ∧ w ≤ 40 := by
    simp only [List.mem_cons, List.not_mem_nil, or_false] at hw
    omega
  simp only [DSIMP, ew, wLC, sp__law_take, spDraw]
  refine ⟨by omega, fun u1 u10 u11 => ⟨by omega, fun u2 u20 u21 => ⟨by omega, fun u3 u30 u31 => ?_⟩⟩⟩
  obtain ⟨h, hh, eh⟩ := atI_ints (l := [1 + u1, 1, 1 + u2, 40]) u30 (by simp; omega)
  have eh : atI [D.int (1 + u1), D.int 1, D.int (1 + u2), D.int 40] u3 = some (.int h) := eh
  have hh : 1 ≤ h ∧ h ≤ 40 := by
    simp only [List.mem_cons, List.not_mem_nil, or_false] at hh
    omega
  simp only [DSIMP, eh, wLC, b__law_box_3, p__law_box_3]
  exact q _ _ _ _ _ hx hy hw.1 hw.2 hh.1 hh.2 (by omega)
theorem ok__law_box {P : Program} {w : World} {K : PySem.W.Frag} {mg : Str → Option Value} {base : Heap} (m_range : mg "range" = none) (K__law_take_2 : Def P w K mg base 1 "_law_take" 2 sp__law_take []) {f : Addr} {fd : FuncData} (F : Fun K "_law_box" "_law_box" s__law_box f fd) : FnG P w K mg base CX0 2 f fd ["_law_pen_here"] (spD K 1 sp__law_box) :=
 fn_d0 F sc__law_box rfl (fun cdv A out s H E g r => run__law_box m_range K__law_take_2 cdv A out s H E g r) hsp__law_box
end Ev07
namespace Ev07
open PySem PySem.Spec PyProof.Rows L2 Ev Pt
local macro_rules
  | `(tactic| simp only [DSIMP, $as,*] $[$l:location]?) => `(tactic| simp only [rNeE, rEL, List.isEmpty_nil, List.isEmpty_cons, gIx, rIsA, rIsS, kitS, kitS.optQB, D.cls, dHGet, dHPut, dBornK, penK_cells, penK_at, penK_left, penK_pat, penK_pleft, penK_len, ex_hpK, dOwnGet2, ownKs, dKpL, dNewKd, dKpLk, rDictPTf, dRaise1, dRaise0, excD, dTry, wTry, Ev.rIsE, Ev.rIsEt, D.xcN, dFldE, dCallVX, WP, exS_tab, dTakeN, dIxN, dKpNew, dKpPut, dKpIns, dKpApp, dKpFz, dRoK, dRoL, dNewK1, dIns, roK, dZipM, dNGet, dNPut, dNewN, isNo, Ev.nGet, Ev.nPut, D.nkey, b2n, rAddB, rSubB, rStrB, rEqE, dSrtSet, dOrX, truD, rDictX, dTupN, dSlN, rAddN, rSrtN, rTupleN, rDictN, dSlX, dRevX, dLenSetN, dEmptyV, rLtX, rMulX, Ev.rReprX, dPenS, gStarDL, dAug, dIndexE, dZipS, dGcIn, dGbIx, dGdIn, dGdIx, dListRg, rDictPf, dZipL, dListKo, dEmptyT, dDispT1, dNeE, rListA, rDictPT, rIsTF, dGroup, rSrtA, rLenA, dInV, dIxV, dCount, dSortKo, dCallR, adD, gL, dDN, dLN, wNest, bNest, bEl, bEd, dZip, seqOf, dSortDK, dCallV, dCallLam, optQ, dEnum, D.nf, D.nfs, Ev.rSumD, dLock, dKeysI, gStarD, dReverse, dMove, dDGet2, getD2, D.isD, dDisp, dPairs, keysD, Ev.rMaxD, Ev.rMinD, rDictP, Option.getD_some, Option.getD_none, Ev.D.eq_refl, dPen1, dLenSet, dSrtR, dRo, dRoF, dRoT, roD, ro_un, ro_dat, ro_own, ro_hp, ro_law, ro_ownK, ro_ownT, List.forall_mem_map, flat_int, flat_str, flat_bl, flat_non, solid_int, solid_str, solid_bl, solid_non, solid_tup, solids_nil, solids_cons, dSeq, dNext, dSet, dSetF, setSl, dVar, dTake, dC, dBin, dBinF, dB, dIfS, dIf, dRet, dRetN, dExpr, dNil, dCons, dTup, dLst, dFz, dAnd, dOr, dNot, dAndV, dOrV, dNotV, dCallD, dCallK, dCB, dCBF, dFor, dLC, dYes, dRng1, dRng2, dSeqI, gN, gT, gsNil, gsCons, dAsg, dNeg, dJoin, dFs, dJs, dFmt, dApp, dExt, dPop, dPopAt, dOwnIx, dOwnCB, dOwnL, dOwnR, dOwnSl, dSetIx, dSlT, dSlL, oNone, oSome, dBorn, optQ, ownAt, setOwnAt, lookAt, wipeD, dNewDT, dNewDK, dDGet, dDIn, dDPut, dSortT, rSrt, isDict, Ev.dictGet, Ev.dictPut, Option.isSome_none, Option.isSome_some, D.keyT, keysOf, D.key, exists_eq_left', exists_eq_left, Option.isSome, rRepL, rCatL, dRetF, dIfF, dPar, dRetOwn, dCallL, dCallLK, dPen2, dRev, dRevI, dIndex, endsL, startL, dNever, dBrk, dCnt, rAddD, rSubI, rIO, rMulI, rDivI, rModI, rPowI, rCI, Ev.rIxD, rIsN, rNotN, D.isN, Ev.rLen, rTuple, rList, rAbs, rInt, rStr, Ev.rRepr, Ev.rIsi, D.ty, kit_tab, startD, endsD, List.map_cons, List.map_nil, List.length_cons, List.length_nil, List.append_nil, List.nil_append, List.cons_append, List.getElem?_cons_zero, List.getElem?_cons_succ, List.getElem?_nil, List.set_cons_zero, List.set_cons_succ, List.replicate, List.replicate_succ, Nat.zero_add, Nat.zero_le, sizeLine, true_and, and_true, if_true, Ev.eq_int, Ev.eq_str, Ev.eq_bl, Ev.eq_non, lst_nil, tup_nil, List.map_eq_nil_iff, txt_join, rLt, rLe, rGt, rGe, atI_ofNat, atI_last, wLC, strsOf, intsOf, blsOf, Option.map_some, Ev.join_two, Ev.join_one, Ev.join_nil, List.sum_cons, List.sum_nil, PySem.Str.empty_append, ixN_ofNat, Option.some.injEq, exists_eq', List.length_map, decide_true, decide_false, Bool.not_true, Bool.not_false, Bool.true_eq_false, Bool.false_eq_true, false_and, and_false, if_false, ite_true, ite_false, Nat.reduceAdd, Nat.reduceSub, Nat.reduceMul, Nat.reduceLT, Nat.reduceLeDiff, Nat.reduceEqDiff, Nat.reducePow, Int.reduceToNat, Int.reducePow, pickL, List.filterMap_cons, List.filterMap_nil, and_self, Int.reduceLT, Int.reduceLE, Int.reduceNeg, Int.reduceAdd, Int.reduceMul, Int.reduceSub, Int.reduceEq, reduceIte, reduceCtorEq, lit_eq, String.reduceEq, Ev.rEq, Ev.rNe, Ev.rInD, cut_toN, cut_fromN, List.map_take, List.forall_mem_cons, List.forall_mem_nil, List.not_mem_nil, false_imp_iff, implies_true, forall_const, D.cm, D.lay, D.lays, D.dep, D.deps, strOk_lit, lays_ints, deps_ints, Nat.max_self, Nat.max_zero, Nat.zero_max, Bool.and_self, Bool.true_and, Bool.and_true, Bool.and_false, Bool.false_and, Bool.or_false, Bool.or_true, Bool.true_or, Bool.false_or, List.any_cons, List.any_nil, decide_eq_true_eq, eq_self, $as,*] $[$l]?)
  | `(tactic| simp only [DSIMP] $[$l:location]?) => `(tactic| simp only [rNeE, rEL, List.isEmpty_nil, List.isEmpty_cons, gIx, rIsA, rIsS, kitS, kitS.optQB, D.cls, dHGet, dHPut, dBornK, penK_cells, penK_at, penK_left, penK_pat, penK_pleft, penK_len, ex_hpK, dOwnGet2, ownKs, dKpL, dNewKd, dKpLk, rDictPTf, dRaise1, dRaise0, excD, dTry, wTry, Ev.rIsE, Ev.rIsEt, D.xcN, dFldE, dCallVX, WP, exS_tab, dTakeN, dIxN, dKpNew, dKpPut, dKpIns, dKpApp, dKpFz, dRoK, dRoL, dNewK1, dIns, roK, dZipM, dNGet, dNPut, dNewN, isNo, Ev.nGet, Ev.nPut, D.nkey, b2n, rAddB, rSubB, rStrB, rEqE, dSrtSet, dOrX, truD, rDictX, dTupN, dSlN, rAddN, rSrtN, rTupleN, rDictN, dSlX, dRevX, dLenSetN, dEmptyV, rLtX, rMulX, Ev.rReprX, dPenS, gStarDL, dAug, dIndexE, dZipS, dGcIn, dGbIx, dGdIn, dGdIx, dListRg, rDictPf, dZipL, dListKo, dEmptyT, dDispT1, dNeE, rListA, rDictPT, rIsTF, dGroup, rSrtA, rLenA, dInV, dIxV, dCount, dSortKo, dCallR, adD, gL, dDN, dLN, wNest, bNest, bEl, bEd, dZip, seqOf, dSortDK, dCallV, dCallLam, optQ, dEnum, D.nf, D.nfs, Ev.rSumD, dLock, dKeysI, gStarD, dReverse, dMove, dDGet2, getD2, D.isD, dDisp, dPairs, keysD, Ev.rMaxD, Ev.rMinD, rDictP, Option.getD_some, Option.getD_none, Ev.D.eq_refl, dPen1, dLenSet, dSrtR, dRo, dRoF, dRoT, roD, ro_un, ro_dat, ro_own, ro_hp, ro_law, ro_ownK, ro_ownT, List.forall_mem_map, flat_int, flat_str, flat_bl, flat_non, solid_int, solid_str, solid_bl, solid_non, solid_tup, solids_nil, solids_cons, dSeq, dNext, dSet, dSetF, setSl, dVar, dTake, dC, dBin, dBinF, dB, dIfS, dIf, dRet, dRetN, dExpr, dNil, dCons, dTup, dLst, dFz, dAnd, dOr, dNot, dAndV, dOrV, dNotV, dCallD, dCallK, dCB, dCBF, dFor, dLC, dYes, dRng1, dRng2, dSeqI, gN, gT, gsNil, gsCons, dAsg, dNeg, dJoin, dFs, dJs, dFmt, dApp, dExt, dPop, dPopAt, dOwnIx, dOwnCB, dOwnL, dOwnR, dOwnSl, dSetIx, dSlT, dSlL, oNone, oSome, dBorn, optQ, ownAt, setOwnAt, lookAt, wipeD, dNewDT, dNewDK, dDGet, dDIn, dDPut, dSortT, rSrt, isDict, Ev.dictGet, Ev.dictPut, Option.isSome_none, Option.isSome_some, D.keyT, keysOf, D.key, exists_eq_left', exists_eq_left, Option.isSome, rRepL, rCatL, dRetF, dIfF, dPar, dRetOwn, dCallL, dCallLK, dPen2, dRev, dRevI, dIndex, endsL, startL, dNever, dBrk, dCnt, rAddD, rSubI, rIO, rMulI, rDivI, rModI, rPowI, rCI, Ev.rIxD, rIsN, rNotN, D.isN, Ev.rLen, rTuple, rList, rAbs, rInt, rStr, Ev.rRepr, Ev.rIsi, D.ty, kit_tab, startD, endsD, List.map_cons, List.map_nil, List.length_cons, List.length_nil, List.append_nil, List.nil_append, List.cons_append, List.getElem?_cons_zero, List.getElem?_cons_succ, List.getElem?_nil, List.set_cons_zero, List.set_cons_succ, List.replicate, List.replicate_succ, Nat.zero_add, Nat.zero_le, sizeLine, true_and, and_true, if_true, Ev.eq_int, Ev.eq_str, Ev.eq_bl, Ev.eq_non, lst_nil, tup_nil, List.map_eq_nil_iff, txt_join, rLt, rLe, rGt, rGe, atI_ofNat, atI_last, wLC, strsOf, intsOf, blsOf, Option.map_some, Ev.join_two, Ev.join_one, Ev.join_nil, List.sum_cons, List.sum_nil, PySem.Str.empty_append, ixN_ofNat, Option.some.injEq, exists_eq', List.length_map, decide_true, decide_false, Bool.not_true, Bool.not_false, Bool.true_eq_false, Bool.false_eq_true, false_and, and_false, if_false, ite_true, ite_false, Nat.reduceAdd, Nat.reduceSub, Nat.reduceMul, Nat.reduceLT, Nat.reduceLeDiff, Nat.reduceEqDiff, Nat.reducePow, Int.reduceToNat, Int.reducePow, pickL, List.filterMap_cons, List.filterMap_nil, and_self, Int.reduceLT, Int.reduceLE, Int.reduceNeg, Int.reduceAdd, Int.reduceMul, Int.reduceSub, Int.reduceEq, reduceIte, reduceCtorEq, lit_eq, String.reduceEq, Ev.rEq, Ev.rNe, Ev.rInD, cut_toN, cut_fromN, List.map_take, List.forall_mem_cons, List.forall_mem_nil, List.not_mem_nil, false_imp_iff, implies_true, forall_const, D.cm, D.lay, D.lays, D.dep, D.deps, strOk_lit, lays_ints, deps_ints, Nat.max_self, Nat.max_zero, Nat.zero_max, Bool.and_self, Bool.true_and, Bool.and_true, Bool.and_false, Bool.false_and, Bool.or_false, Bool.or_true, Bool.true_or, Bool.false_or, List.any_cons, List.any_nil, decide_eq_true_eq, eq_self] $[$l]?)
variable [TabC] [PkD]
mutual
def okN (N : Nat) : D → Bool
  | .non => true
  | .bl _ => true
  | .int i => decide (i.natAbs ≤ N)
  | .str x => PyData.strOk x
  | .tup xs => okNs N xs
  | .lst xs => okNs N xs
  | .dT es => es.isEmpty
  | _ => false
def okNs (N : Nat) : List D → Bool
  | [] => true
  | x :: xs => okN N x && okNs N xs
end
theorem okNs_iff {N : Nat} : ∀ {xs : List D}, okNs N xs = true ↔ ∀ x ∈ xs, okN N x = true
  | [] => ⟨fun _ _ h => (nomatch h), fun _ => rfl⟩
  | x :: xs => by
    show (okN N x && okNs N xs) = true ↔ _
    rw [Bool.and_eq_true, okNs_iff, List.forall_mem_cons]
mutual
theorem okN_mono {N M : Nat} (hm : N ≤ M) : ∀ d : D, okN N d = true → okN M d = true
  | .non, _ => rfl
  | .bl _, _ => rfl
  | .int i, h => decide_eq_true (Nat.le_trans (of_decide_eq_true h) hm)
  | .str _, h => h
  | .tup xs, h => okNs_mono hm xs h
  | .lst xs, h => okNs_mono hm xs h
  | .dT _, h => h
  | .kt _, h => by cases h
  | .dK _, h => by cases h
  | .fK _, h => by cases h
  | .fT _, h => by cases h
  | .raw _, h => by cases h
  | .scr _, h => by cases h
  | .fn _ _, h => by cases h
theorem okNs_mono {N M : Nat} (hm : N ≤ M) : ∀ ds : List D, okNs N ds = true → okNs M ds = true
  | [], _ => rfl
  | d :: ds, h => by
    have h' : (okN N d && okNs N ds) = true := h
    rw [Bool.and_eq_true] at h'
    show (okN M d && okNs M ds) = true
    rw [okN_mono hm d h'.1, okNs_mono hm ds h'.2]; rfl
end
mutual
theorem okN_R {N : Nat} (hN : N < 10 ^ 100) : ∀ d : D, okN N d = true → d.okR = true
  | .non, _ => rfl
  | .bl _, _ => rfl
  | .int i, h => decide_eq_true (Nat.lt_of_le_of_lt (of_decide_eq_true h) hN)
  | .str _, h => h
  | .tup xs, h => okNs_R hN xs h
  | .lst xs, h => okNs_R hN xs h
  | .dT _, h => h
  | .kt _, h => by cases h
  | .dK _, h => by cases h
  | .fK _, h => by cases h
  | .fT _, h => by cases h
  | .raw _, h => by cases h
  | .scr _, h => by cases h
  | .fn _ _, h => by cases h
theorem okNs_R {N : Nat} (hN : N < 10 ^ 100) : ∀ ds : List D, okNs N ds = true → D.okRs ds = true
  | [], _ => rfl
  | d :: ds, h => by
    have h' : (okN N d && okNs N ds) = true := h
    rw [Bool.and_eq_true] at h'
    show (d.okR && D.okRs ds) = true
    rw [okN_R hN d h'.1, okNs_R hN ds h'.2]; rfl
end
def great : Nat := 10 ^ 62
theorem great_lt : great < 10 ^ 100 := by decide +kernel
def whole (lo hi : Int) : D → Bool
  | .int i => decide (lo ≤ i) && decide (i ≤ hi)
  | _ => false
def boxB : D → Bool
  | .tup [x, y, w, h] => (whole (-40) 40 x && whole (-40) 40 y) && (whole 1 40 w && whole 1 40 h)
  | _ => false
def spWhole : dSp := fun ds p Q _ => ∃ d lo hi, ds = [d, .int lo, .int hi] ∧ okN great d = true ∧ Q (.bl (whole lo hi d)) p
def sp_is_from_to : dSp := spWhole
abbrev s_is_from_to : Stmt := topS 8
abbrev n_is_from_to : List Str := ["thing", "least", "most"]
theorem sc_is_from_to : FnScope n_is_from_to ["thing", "least", "most"] (defScope s_is_from_to) := ⟨rfl, rfl, rfl, by decide +kernel, rfl, by decide +kernel, by decide +kernel⟩
def b_is_from_to : dS := (dRet (dAndV (dCB (rIsi "int") (dCons (dVar 0) (dCons (dC (.raw (.ty "int"))) dNil))) (dAndV (dNotV (dCB (rIsi "bool") (dCons (dVar 0) (dCons (dC (.raw (.ty "bool"))) dNil)))) (dChain rLe rLe (dVar 1) (dVar 0) (dVar 2)))))
theorem run_is_from_to {P : Program} {w : World} {K : PySem.W.Frag} {mg : Str → Option Value} {base : Heap} (m_bool : mg "bool" = none) (m_int : mg "int" = none) (m_isinstance : mg "isinstance" = none) {f : Addr} (cdv : Value) (A : Around) (out : List Env) (s : Shared) (H : Hp) (E : XK) (g : A.guards = some []) (hrA : Room 0 (A.deeper (envOfC "is_from_to" (defScope s_is_from_to) s.heap.objs.size f cdv))) :
  DSs (cx0 P w K mg base n_is_from_to "is_from_to" (defScope s_is_from_to) f cdv A out s H E) E00 (defBody s_is_from_to) b_is_from_to := by
 have hgA : (A.deeper (envOfC "is_from_to" (defScope s_is_from_to) s.heap.objs.size f cdv)).guards = some [] := g
 have hun := hrA.un
 exact (dss_one (ds_ret (de_and (de_callB (cd_isi "int") (by rfl) m_isinstance (by decide +kernel) (da_cons (de_var (pv 0)) (da_cons (de_ty (n := "int") (by rfl) m_int (by decide +kernel)) da_nil))) (de_and (de_not (de_callB (cd_isi "bool") (by rfl) m_isinstance (by decide +kernel) (da_cons (de_var (pv 0)) (da_cons (de_ty (n := "bool") (by rfl) m_bool (by decide +kernel)) da_nil)))) (de_one (de_chain (od_le) (od_le) (de_var (pv 1)) (de_var (pv 0)) (de_var (pv 2))))))))
theorem hsp_is_from_to : ∀ ds p Q W, ds.length = 3 → sp_is_from_to ds p Q W → b_is_from_to W0 (endsD Q) (startD n_is_from_to.length ds p) := by
  rintro _ p Q W - ⟨d, lo, hi, rfl, ok, q⟩
  cases d with
  | int i =>
    simp only [DSIMP, n_is_from_to, b_is_from_to, whole] at q ⊢
    by_cases c : lo ≤ i
    · simp only [DSIMP, c, dChain] at q ⊢
      exact q
    · simp only [DSIMP, c, dChain] at q ⊢
      exact q
  | non => simp only [DSIMP, n_is_from_to, b_is_from_to, whole] at q ⊢; exact q
  | bl b => simp only [DSIMP, n_is_from_to, b_is_from_to, whole] at q ⊢; exact q
  | str x => simp only [DSIMP, n_is_from_to, b_is_from_to, whole] at q ⊢; exact q
  | tup xs => simp only [DSIMP, n_is_from_to, b_is_from_to, whole] at q ⊢; exact q
  | lst xs => simp only [DSIMP, n_is_from_to, b_is_from_to, whole] at q ⊢; exact q
  | dT es => simp only [DSIMP, n_is_from_to, b_is_from_to, whole] at q ⊢; exact q
  | _ => cases ok
theorem ok_is_from_to {P : Program} {w : World} {K : PySem.W.Frag} {mg : Str → Option Value} {base : Heap} (m_bool : mg "bool" = none) (m_int : mg "int" = none) (m_isinstance : mg "isinstance" = none) {f : Addr} {fd : FuncData} (F : Fun K "is_from_to" "is_from_to" s_is_from_to f fd) : FnG P w K mg base CX0 1 f fd ["thing", "least", "most"] (spD K 3 sp_is_from_to) :=
 fn_d0 F sc_is_from_to rfl (fun cdv A out s H E g r => run_is_from_to m_bool m_int m_isinstance cdv A out s H E g r) hsp_is_from_to
def sp__law_whole : dSp := spWhole
abbrev s__law_whole : Stmt := topS 22
abbrev n__law_whole : List Str := ["_law_some", "_law_least", "_law_most"]
theorem sc__law_whole : FnScope n__law_whole ["_law_some", "_law_least", "_law_most"] (defScope s__law_whole) := ⟨rfl, rfl, rfl, by decide +kernel, rfl, by decide +kernel, by decide +kernel⟩
def b__law_whole : dS := (dRet (dAndV (dCB (rIsi "int") (dCons (dVar 0) (dCons (dC (.raw (.ty "int"))) dNil))) (dAndV (dNotV (dCB (rIsi "bool") (dCons (dVar 0) (dCons (dC (.raw (.ty "bool"))) dNil)))) (dChain rLe rLe (dVar 1) (dVar 0) (dVar 2)))))
theorem run__law_whole {P : Program} {w : World} {K : PySem.W.Frag} {mg : Str → Option Value} {base : Heap} (m_bool : mg "bool" = none) (m_int : mg "int" = none) (m_isinstance : mg "isinstance" = none) {f : Addr} (cdv : Value) (A : Around) (out : List Env) (s : Shared) (H : Hp) (E : XK) (g : A.guards = some []) (hrA : Room 0 (A.deeper (envOfC "_law_whole" (defScope s__law_whole) s.heap.objs.size f cdv))) :
  DSs (cx0 P w K mg base n__law_whole "_law_whole" (defScope s__law_whole) f cdv A out s H E) E00 (defBody s__law_whole) b__law_whole := by
 have hgA : (A.deeper (envOfC "_law_whole" (defScope s__law_whole) s.heap.objs.size f cdv)).guards = some [] := g
 have hun := hrA.un
 exact (dss_one (ds_ret (de_and (de_callB (cd_isi "int") (by rfl) m_isinstance (by decide +kernel) (da_cons (de_var (pv 0)) (da_cons (de_ty (n := "int") (by rfl) m_int (by decide +kernel)) da_nil))) (de_and (de_not (de_callB (cd_isi "bool") (by rfl) m_isinstance (by decide +kernel) (da_cons (de_var (pv 0)) (da_cons (de_ty (n := "bool") (by rfl) m_bool (by decide +kernel)) da_nil)))) (de_one (de_chain (od_le) (od_le) (de_var (pv 1)) (de_var (pv 0)) (de_var (pv 2))))))))
theorem hsp__law_whole : ∀ ds p Q W, ds.length = 3 → sp__law_whole ds p Q W → b__law_whole W0 (endsD Q) (startD n__law_whole.length ds p) := by
  rintro _ p Q W - ⟨d, lo, hi, rfl, ok, q⟩
  cases d with
  | int i =>
    simp only [DSIMP, n__law_whole, b__law_whole, whole] at q ⊢
    by_cases c : lo ≤ i
    · simp only [DSIMP, c, dChain] at q ⊢
      exact q
    · simp only [DSIMP, c, dChain] at q ⊢
      exact q
  | non => simp only [DSIMP, n__law_whole, b__law_whole, whole] at q ⊢; exact q
  | bl b => simp only [DSIMP, n__law_whole, b__law_whole, whole] at q ⊢; exact q
  | str x => simp only [DSIMP, n__law_whole, b__law_whole, whole] at q ⊢; exact q
  | tup xs => simp only [DSIMP, n__law_whole, b__law_whole, whole] at q ⊢; exact q
  | lst xs => simp only [DSIMP, n__law_whole, b__law_whole, whole] at q ⊢; exact q
  | dT es => simp only [DSIMP, n__law_whole, b__law_whole, whole] at q ⊢; exact q
  | _ => cases ok
theorem ok__law_whole {P : Program} {w : World} {K : PySem.W.Frag} {mg : Str → Option Value} {base : Heap} (m_bool : mg "bool" = none) (m_int : mg "int" = none) (m_isinstance : mg "isinstance" = none) {f : Addr} {fd : FuncData} (F : Fun K "_law_whole" "_law_whole" s__law_whole f fd) : FnG P w K mg base CX0 1 f fd ["_law_some", "_law_least", "_law_most"] (spD K 3 sp__law_whole) :=
 fn_d0 F sc__law_whole rfl (fun cdv A out s H E g r => run__law_whole m_bool m_int m_isinstance cdv A out s H E g r) hsp__law_whole
def spLook (f : D → Bool) : dSp := fun ds p Q _ => ∃ d, ds = [d] ∧ okN great d = true ∧ Q (.bl (f d)) p
theorem ok4 {N : Nat} {a b c d : D} (h : okN N (.tup [a, b, c, d]) = true) : okN N a = true ∧ okN N b = true ∧ okN N c = true ∧ okN N d = true := by
  have h : okNs N [a, b, c, d] = true := h
  rw [okNs_iff] at h
  exact ⟨h a (by simp), h b (by simp), h c (by simp), h d (by simp)⟩
theorem bls_maps {α : Type} (l : List α) (f : α → Bool) : blsOf (l.map fun a => D.bl (f a)) = some (l.map f) := by
  induction l with
  | nil => rfl
  | cons a l ih => rw [List.map_cons, blsOf, ih]; rfl
def sp_is_place : dSp := spLook boxB
abbrev s_is_place : Stmt := topS 9
abbrev n_is_place : List Str := ["thing", "x", "y", "sizes", "size"]
theorem sc_is_place : FnScope n_is_place ["thing"] (defScope s_is_place) := ⟨rfl, rfl, rfl, by decide +kernel, rfl, by decide +kernel, by decide +kernel⟩
def p_is_place_0 : dS := (dIfS (dOr (dNot (dB (dCB (rIsi "tuple") (dCons (dVar 0) (dCons (dC (.raw (.ty "tuple"))) dNil))))) (dB (dBin (rNe) (dCB rLen (dCons (dVar 0) dNil)) (dC (.int 4))))) (dRet (dC (.bl false))) dNext)
def p_is_place_1 : dS := (dAsg (dVar 0) (gStarD 3 2 (gsCons (gN 1) (gsCons (gN 2) (gsCons (gN 3) gsNil)))))
def p_is_place_2 : dS := (dIfS (dNot (dB (dCB rAllD (dCons (dFz (dLC (dSeqI (dVar 3)) (gN 4) dYes (dCallD 3 [] sp_is_from_to (dCons (dVar 4) (dCons (dC (.int 1)) (dCons (dC (.int 40)) dNil)))) [4])) dNil)))) (dRet (dC (.bl false))) dNext)
def p_is_place_3 : dS := (dRet (dAndV (dCallD 3 [] sp_is_from_to (dCons (dVar 1) (dCons (dNeg (dC (.int 40))) (dCons (dC (.int 40)) dNil)))) (dCallD 3 [] sp_is_from_to (dCons (dVar 2) (dCons (dNeg (dC (.int 40))) (dCons (dC (.int 40)) dNil))))))
def b_is_place_3 : dS := p_is_place_3
def b_is_place_2 : dS := dSeq (p_is_place_2) (b_is_place_3)
def b_is_place_1 : dS := dSeq (p_is_place_1) (b_is_place_2)
def b_is_place_0 : dS := dSeq (p_is_place_0) (b_is_place_1)
def b_is_place : dS := b_is_place_0
theorem run_is_place {P : Program} {w : World} {K : PySem.W.Frag} {mg : Str → Option Value} {base : Heap} (v_MOST_APART : ∃ t, mg "MOST_APART" = some (.int 40 t)) (v_MOST_SIZE : ∃ t, mg "MOST_SIZE" = some (.int 40 t)) (m_all : mg "all" = none) (m_isinstance : mg "isinstance" = none) (m_len : mg "len" = none) (m_tuple : mg "tuple" = none) (K_is_from_to_3 : Def P w K mg base 1 "is_from_to" 3 sp_is_from_to []) {f : Addr} (cdv : Value) (A : Around) (out : List Env) (s : Shared) (H : Hp) (E : XK) (g : A.guards = some []) (hrA : Room 1 (A.deeper (envOfC "is_place" (defScope s_is_place) s.heap.objs.size f cdv))) :
  DSs (cx0 P w K mg base n_is_place "is_place" (defScope s_is_place) f cdv A out s H E) E00 (defBody s_is_place) b_is_place := by
 have hgA : (A.deeper (envOfC "is_place" (defScope s_is_place) s.heap.objs.size f cdv)).guards = some [] := g
 have hun := hrA.un
 exact (dss_cons (t := p_is_place_0) (u := b_is_place_1) (ds_if ((dw_or (dt_not (dt_val (de_callB (cd_isi "tuple") (by rfl) m_isinstance (by decide +kernel) (da_cons (de_var (pv 0)) (da_cons (de_ty (n := "tuple") (by rfl) m_tuple (by decide +kernel)) da_nil))))) (dw_or1 (dt_cmp (od_ne (Nat.lt_of_le_of_lt (Nat.add_le_add_left (by decide) _) hun)) (de_callB (cd_len) (by rfl) m_len PySem.boot_len (da_cons (de_var (pv 0)) da_nil)) de_int (nomark _))))).dt (dss_one (ds_ret de_bl)) dss_nil)
  (dss_cons (t := p_is_place_1) (u := b_is_place_2) (ds_asg (de_var (pv 0)) (dg_star rfl (by decide) (dgs_cons (dg_name (pg_name (i := 1) sc_is_place.nd rfl (by first | exact .inl rfl | exact .inr rfl))) (dgs_cons (dg_name (pg_name (i := 2) sc_is_place.nd rfl (by first | exact .inl rfl | exact .inr rfl))) (dgs_star (dg_name (pg_name (i := 3) sc_is_place.nd rfl (by first | exact .inl rfl | exact .inr rfl))) dgs_nil)))))
  (dss_cons (t := p_is_place_2) (u := b_is_place_3) (ds_if (dt_not (dt_val (de_callB (cd_all rfl) (by rfl) m_all (by decide +kernel) (da_cons (de_fz (df_lc (E2 := E00) (own := [("size", 4)]) rfl sc_is_place.nd (di_seq (de_var (pv 3))) (blkOk_by (N := n_is_place) (sc := (defScope s_is_place)) (own := [("size", 4)]) (by decide +kernel)) (by decide) (fun _ _ _ _ _ => (dg_name (pg_name (i := 4) sc_is_place.nd rfl (by first | exact .inl rfl | exact .inr rfl)))) (fun _ _ _ _ _ => dts_nil) (fun _ _ _ _ _ => (de_callD K_is_from_to_3 hgA hrA (by rfl) (da_cons (de_var (pv 4)) (da_cons de_int (da_cons (de_gint (by rfl) v_MOST_SIZE) da_nil))))))) da_nil)))) (dss_one (ds_ret de_bl)) dss_nil)
  (dss_one (t := p_is_place_3) (ds_ret (de_and (de_callD K_is_from_to_3 hgA hrA (by rfl) (da_cons (de_var (pv 1)) (da_cons (de_usub (de_gint (by rfl) v_MOST_APART)) (da_cons (de_gint (by rfl) v_MOST_APART) da_nil)))) (de_one (de_callD K_is_from_to_3 hgA hrA (by rfl) (da_cons (de_var (pv 2)) (da_cons (de_usub (de_gint (by rfl) v_MOST_APART)) (da_cons (de_gint (by rfl) v_MOST_APART) da_nil)))))))))))
theorem hsp_is_place : ∀ ds p Q W, ds.length = 1 → sp_is_place ds p Q W → b_is_place W0 (endsD Q) (startD n_is_place.length ds p) := by
  rintro _ p Q W - ⟨d, rfl, ok, q⟩
  have no : ∀ xs : List D, xs.length ≠ 4 → Q (.bl false) p → b_is_place W0 (endsD Q) (startD n_is_place.length [.tup xs] p) := fun xs h q => by
    have h2 : ¬ ((xs.length : Nat) : Int) = 4 := by omega
    simp only [DSIMP, n_is_place, b_is_place, b_is_place_0, p_is_place_0, eq_false h2]
    exact q
  cases d with
  | non => simp only [DSIMP, n_is_place, b_is_place, b_is_place_0, p_is_place_0]; exact q
  | bl b => simp only [DSIMP, n_is_place, b_is_place, b_is_place_0, p_is_place_0]; exact q
  | int i => simp only [DSIMP, n_is_place, b_is_place, b_is_place_0, p_is_place_0]; exact q
  | str i => simp only [DSIMP, n_is_place, b_is_place, b_is_place_0, p_is_place_0]; exact q
  | lst i => simp only [DSIMP, n_is_place, b_is_place, b_is_place_0, p_is_place_0]; exact q
  | dT i => simp only [DSIMP, n_is_place, b_is_place, b_is_place_0, p_is_place_0]; exact q
  | tup xs =>
    rcases xs with _ | ⟨x, _ | ⟨y, _ | ⟨w, _ | ⟨h, _ | ⟨u, xs⟩⟩⟩⟩⟩
    · exact no _ (by simp) q
    · exact no _ (by simp) q
    · exact no _ (by simp) q
    · exact no _ (by simp) q
    · obtain ⟨o1, o2, o3, o4⟩ := ok4 ok
      have q : Q (.bl ((whole (-40) 40 x && whole (-40) 40 y) && (whole 1 40 w && whole 1 40 h))) p := q
      simp only [DSIMP, n_is_place, b_is_place, b_is_place_0, p_is_place_0, b_is_place_1, p_is_place_1, b_is_place_2, p_is_place_2, sp_is_from_to, List.take_succ_cons, List.take_zero, List.drop_succ_cons, List.drop_zero]
      refine ⟨w, 1, 40, rfl, o3, ?_⟩
      simp only [DSIMP]
      refine ⟨h, 1, 40, rfl, o4, ?_⟩
      simp only [rAllD, blsOf, Option.map_some, optQ, List.all_cons, List.all_nil, id, Bool.and_true]
      cases hw : whole 1 40 w && whole 1 40 h with
      | false =>
        rw [hw, Bool.and_false] at q
        exact q
      | true =>
        rw [hw, Bool.and_true] at q
        simp only [DSIMP, b_is_place_3, p_is_place_3, sp_is_from_to]
        refine ⟨x, -40, 40, rfl, o1, ?_⟩
        cases hx : whole (-40) 40 x with
        | false => rw [hx] at q; exact q
        | true =>
          rw [hx] at q
          exact ⟨y, -40, 40, rfl, o2, q⟩
    · exact no _ (by simp) q
  | _ => cases ok
theorem ok_is_place {P : Program} {w : World} {K : PySem.W.Frag} {mg : Str → Option Value} {base : Heap} (v_MOST_APART : ∃ t, mg "MOST_APART" = some (.int 40 t)) (v_MOST_SIZE : ∃ t, mg "MOST_SIZE" = some (.int 40 t)) (m_all : mg "all" = none) (m_isinstance : mg "isinstance" = none) (m_len : mg "len" = none) (m_tuple : mg "tuple" = none) (K_is_from_to_3 : Def P w K mg base 1 "is_from_to" 3 sp_is_from_to []) {f : Addr} {fd : FuncData} (F : Fun K "is_place" "is_place" s_is_place f fd) : FnG P w K mg base CX0 2 f fd ["thing"] (spD K 1 sp_is_place) :=
 fn_d0 F sc_is_place rfl (fun cdv A out s H E g r => run_is_place v_MOST_APART v_MOST_SIZE m_all m_isinstance m_len m_tuple K_is_from_to_3 cdv A out s H E g r) hsp_is_place
end Ev07
namespace Ev07
open PySem PySem.Spec PyProof.Rows L2 Ev Pt
local macro_rules
  | `(tactic| simp only [DSIMP, $as,*] $[$l:location]?) => `(tactic| simp only [rNeE, rEL, List.isEmpty_nil, List.isEmpty_cons, gIx, rIsA, rIsS, kitS, kitS.optQB, D.cls, dHGet, dHPut, dBornK, penK_cells, penK_at, penK_left, penK_pat, penK_pleft, penK_len, ex_hpK, dOwnGet2, ownKs, dKpL, dNewKd, dKpLk, rDictPTf, dRaise1, dRaise0, excD, dTry, wTry, Ev.rIsE, Ev.rIsEt, D.xcN, dFldE, dCallVX, WP, exS_tab, dTakeN, dIxN, dKpNew, dKpPut, dKpIns, dKpApp, dKpFz, dRoK, dRoL, dNewK1, dIns, roK, dZipM, dNGet, dNPut, dNewN, isNo, Ev.nGet, Ev.nPut, D.nkey, b2n, rAddB, rSubB, rStrB, rEqE, dSrtSet, dOrX, truD, rDictX, dTupN, dSlN, rAddN, rSrtN, rTupleN, rDictN, dSlX, dRevX, dLenSetN, dEmptyV, rLtX, rMulX, Ev.rReprX, dPenS, gStarDL, dAug, dIndexE, dZipS, dGcIn, dGbIx, dGdIn, dGdIx, dListRg, rDictPf, dZipL, dListKo, dEmptyT, dDispT1, dNeE, rListA, rDictPT, rIsTF, dGroup, rSrtA, rLenA, dInV, dIxV, dCount, dSortKo, dCallR, adD, gL, dDN, dLN, wNest, bNest, bEl, bEd, dZip, seqOf, dSortDK, dCallV, dCallLam, optQ, dEnum, D.nf, D.nfs, Ev.rSumD, dLock, dKeysI, gStarD, dReverse, dMove, dDGet2, getD2, D.isD, dDisp, dPairs, keysD, Ev.rMaxD, Ev.rMinD, rDictP, Option.getD_some, Option.getD_none, Ev.D.eq_refl, dPen1, dLenSet, dSrtR, dRo, dRoF, dRoT, roD, ro_un, ro_dat, ro_own, ro_hp, ro_law, ro_ownK, ro_ownT, List.forall_mem_map, flat_int, flat_str, flat_bl, flat_non, solid_int, solid_str, solid_bl, solid_non, solid_tup, solids_nil, solids_cons, dSeq, dNext, dSet, dSetF, setSl, dVar, dTake, dC, dBin, dBinF, dB, dIfS, dIf, dRet, dRetN, dExpr, dNil, dCons, dTup, dLst, dFz, dAnd, dOr, dNot, dAndV, dOrV, dNotV, dCallD, dCallK, dCB, dCBF, dFor, dLC, dYes, dRng1, dRng2, dSeqI, gN, gT, gsNil, gsCons, dAsg, dNeg, dJoin, dFs, dJs, dFmt, dApp, dExt, dPop, dPopAt, dOwnIx, dOwnCB, dOwnL, dOwnR, dOwnSl, dSetIx, dSlT, dSlL, oNone, oSome, dBorn, optQ, ownAt, setOwnAt, lookAt, wipeD, dNewDT, dNewDK, dDGet, dDIn, dDPut, dSortT, rSrt, isDict, Ev.dictGet, Ev.dictPut, Option.isSome_none, Option.isSome_some, D.keyT, keysOf, D.key, exists_eq_left', exists_eq_left, Option.isSome, rRepL, rCatL, dRetF, dIfF, dPar, dRetOwn, dCallL, dCallLK, dPen2, dRev, dRevI, dIndex, endsL, startL, dNever, dBrk, dCnt, rAddD, rSubI, rIO, rMulI, rDivI, rModI, rPowI, rCI, Ev.rIxD, rIsN, rNotN, D.isN, Ev.rLen, rTuple, rList, rAbs, rInt, rStr, Ev.rRepr, Ev.rIsi, D.ty, kit_tab, startD, endsD, List.map_cons, List.map_nil, List.length_cons, List.length_nil, List.append_nil, List.nil_append, List.cons_append, List.getElem?_cons_zero, List.getElem?_cons_succ, List.getElem?_nil, List.set_cons_zero, List.set_cons_succ, List.replicate, List.replicate_succ, Nat.zero_add, Nat.zero_le, sizeLine, true_and, and_true, if_true, Ev.eq_int, Ev.eq_str, Ev.eq_bl, Ev.eq_non, lst_nil, tup_nil, List.map_eq_nil_iff, txt_join, rLt, rLe, rGt, rGe, atI_ofNat, atI_last, wLC, strsOf, intsOf, blsOf, Option.map_some, Ev.join_two, Ev.join_one, Ev.join_nil, List.sum_cons, List.sum_nil, PySem.Str.empty_append, ixN_ofNat, Option.some.injEq, exists_eq', List.length_map, decide_true, decide_false, Bool.not_true, Bool.not_false, Bool.true_eq_false, Bool.false_eq_true, false_and, and_false, if_false, ite_true, ite_false, Nat.reduceAdd, Nat.reduceSub, Nat.reduceMul, Nat.reduceLT, Nat.reduceLeDiff, Nat.reduceEqDiff, Nat.reducePow, Int.reduceToNat, Int.reducePow, pickL, List.filterMap_cons, List.filterMap_nil, and_self, Int.reduceLT, Int.reduceLE, Int.reduceNeg, Int.reduceAdd, Int.reduceMul, Int.reduceSub, Int.reduceEq, reduceIte, reduceCtorEq, lit_eq, String.reduceEq, Ev.rEq, Ev.rNe, Ev.rInD, cut_toN, cut_fromN, List.map_take, List.forall_mem_cons, List.forall_mem_nil, List.not_mem_nil, false_imp_iff, implies_true, forall_const, D.cm, D.lay, D.lays, D.dep, D.deps, strOk_lit, lays_ints, deps_ints, Nat.max_self, Nat.max_zero, Nat.zero_max, Bool.and_self, Bool.true_and, Bool.and_true, Bool.and_false, Bool.false_and, Bool.or_false, Bool.or_true, Bool.true_or, Bool.false_or, List.any_cons, List.any_nil, decide_eq_true_eq, eq_self, $as,*] $[$l]?)
  | `(tactic| simp only [DSIMP] $[$l:location]?) => `(tactic| simp only [rNeE, rEL, List.isEmpty_nil, List.isEmpty_cons, gIx, rIsA, rIsS, kitS, kitS.optQB, D.cls, dHGet, dHPut, dBornK, penK_cells, penK_at, penK_left, penK_pat, penK_pleft, penK_len, ex_hpK, dOwnGet2, ownKs, dKpL, dNewKd, dKpLk, rDictPTf, dRaise1, dRaise0, excD, dTry, wTry, Ev.rIsE, Ev.rIsEt, D.xcN, dFldE, dCallVX, WP, exS_tab, dTakeN, dIxN, dKpNew, dKpPut, dKpIns, dKpApp, dKpFz, dRoK, dRoL, dNewK1, dIns, roK, dZipM, dNGet, dNPut, dNewN, isNo, Ev.nGet, Ev.nPut, D.nkey, b2n, rAddB, rSubB, rStrB, rEqE, dSrtSet, dOrX, truD, rDictX, dTupN, dSlN, rAddN, rSrtN, rTupleN, rDictN, dSlX, dRevX, dLenSetN, dEmptyV, rLtX, rMulX, Ev.rReprX, dPenS, gStarDL, dAug, dIndexE, dZipS, dGcIn, dGbIx, dGdIn, dGdIx, dListRg, rDictPf, dZipL, dListKo, dEmptyT, dDispT1, dNeE, rListA, rDictPT, rIsTF, dGroup, rSrtA, rLenA, dInV, dIxV, dCount, dSortKo, dCallR, adD, gL, dDN, dLN, wNest, bNest, bEl, bEd, dZip, seqOf, dSortDK, dCallV, dCallLam, optQ, dEnum, D.nf, D.nfs, Ev.rSumD, dLock, dKeysI, gStarD, dReverse, dMove, dDGet2, getD2, D.isD, dDisp, dPairs, keysD, Ev.rMaxD, Ev.rMinD, rDictP, Option.getD_some, Option.getD_none, Ev.D.eq_refl, dPen1, dLenSet, dSrtR, dRo, dRoF, dRoT, roD, ro_un, ro_dat, ro_own, ro_hp, ro_law, ro_ownK, ro_ownT, List.forall_mem_map, flat_int, flat_str, flat_bl, flat_non, solid_int, solid_str, solid_bl, solid_non, solid_tup, solids_nil, solids_cons, dSeq, dNext, dSet, dSetF, setSl, dVar, dTake, dC, dBin, dBinF, dB, dIfS, dIf, dRet, dRetN, dExpr, dNil, dCons, dTup, dLst, dFz, dAnd, dOr, dNot, dAndV, dOrV, dNotV, dCallD, dCallK, dCB, dCBF, dFor, dLC, dYes, dRng1, dRng2, dSeqI, gN, gT, gsNil, gsCons, dAsg, dNeg, dJoin, dFs, dJs, dFmt, dApp, dExt, dPop, dPopAt, dOwnIx, dOwnCB, dOwnL, dOwnR, dOwnSl, dSetIx, dSlT, dSlL, oNone, oSome, dBorn, optQ, ownAt, setOwnAt, lookAt, wipeD, dNewDT, dNewDK, dDGet, dDIn, dDPut, dSortT, rSrt, isDict, Ev.dictGet, Ev.dictPut, Option.isSome_none, Option.isSome_some, D.keyT, keysOf, D.key, exists_eq_left', exists_eq_left, Option.isSome, rRepL, rCatL, dRetF, dIfF, dPar, dRetOwn, dCallL, dCallLK, dPen2, dRev, dRevI, dIndex, endsL, startL, dNever, dBrk, dCnt, rAddD, rSubI, rIO, rMulI, rDivI, rModI, rPowI, rCI, Ev.rIxD, rIsN, rNotN, D.isN, Ev.rLen, rTuple, rList, rAbs, rInt, rStr, Ev.rRepr, Ev.rIsi, D.ty, kit_tab, startD, endsD, List.map_cons, List.map_nil, List.length_cons, List.length_nil, List.append_nil, List.nil_append, List.cons_append, List.getElem?_cons_zero, List.getElem?_cons_succ, List.getElem?_nil, List.set_cons_zero, List.set_cons_succ, List.replicate, List.replicate_succ, Nat.zero_add, Nat.zero_le, sizeLine, true_and, and_true, if_true, Ev.eq_int, Ev.eq_str, Ev.eq_bl, Ev.eq_non, lst_nil, tup_nil, List.map_eq_nil_iff, txt_join, rLt, rLe, rGt, rGe, atI_ofNat, atI_last, wLC, strsOf, intsOf, blsOf, Option.map_some, Ev.join_two, Ev.join_one, Ev.join_nil, List.sum_cons, List.sum_nil, PySem.Str.empty_append, ixN_ofNat, Option.some.injEq, exists_eq', List.length_map, decide_true, decide_false, Bool.not_true, Bool.not_false, Bool.true_eq_false, Bool.false_eq_true, false_and, and_false, if_false, ite_true, ite_false, Nat.reduceAdd, Nat.reduceSub, Nat.reduceMul, Nat.reduceLT, Nat.reduceLeDiff, Nat.reduceEqDiff, Nat.reducePow, Int.reduceToNat, Int.reducePow, pickL, List.filterMap_cons, List.filterMap_nil, and_self, Int.reduceLT, Int.reduceLE, Int.reduceNeg, Int.reduceAdd, Int.reduceMul, Int.reduceSub, Int.reduceEq, reduceIte, reduceCtorEq, lit_eq, String.reduceEq, Ev.rEq, Ev.rNe, Ev.rInD, cut_toN, cut_fromN, List.map_take, List.forall_mem_cons, List.forall_mem_nil, List.not_mem_nil, false_imp_iff, implies_true, forall_const, D.cm, D.lay, D.lays, D.dep, D.deps, strOk_lit, lays_ints, deps_ints, Nat.max_self, Nat.max_zero, Nat.zero_max, Bool.and_self, Bool.true_and, Bool.and_true, Bool.and_false, Bool.false_and, Bool.or_false, Bool.or_true, Bool.true_or, Bool.false_or, List.any_cons, List.any_nil, decide_eq_true_eq, eq_self] $[$l]?)
variable [TabC] [PkD]
def zeroXY : D → Bool
  | .tup (.int x :: .int y :: _) => decide (x = 0) && decide (y = 0)
  | _ => false
def screenB : D → Bool
  | .tup [a, b, c, s, e] => b.isN && (s.isB true && (whole 0 0 a && (whole 0 0 e && (boxB c && zeroXY c))))
  | _ => false
def isBl : D → Bool
  | .bl _ => true
  | _ => false
def rowB : D → Bool
  | .tup [a, b, c, s, e] => whole 1 9 a && (whole 0 9 b && (boxB c && (isBl s && whole 1 4 e)))
  | _ => false
def rowNE : D → Int × Int
  | .tup (.int a :: .int b :: _) => (a, b)
  | _ => (0, 0)
def standL : List Int → List Int → List (Int × Int) → Bool
  | _, _, [] => true
  | above, met, (n, u) :: rs => if u ∉ above ∨ n ∈ met then false else
    if 5 < (above.take (above.idxOf u + 1) ++ [n]).length then false else standL (above.take (above.idxOf u + 1) ++ [n]) (met ++ [n]) rs
def bookB : D → Bool
  | .tup ds => decide (1 ≤ ds.length ∧ ds.length ≤ 10) && (screenB (ds.headD .non) && ((ds.drop 1).all rowB && standL [0] [0] ((ds.drop 1).map rowNE)))
  | _ => false
theorem ok5 {N : Nat} {a b c d e : D} (h : okN N (.tup [a, b, c, d, e]) = true) : okN N a = true ∧ okN N b = true ∧ okN N c = true ∧ okN N d = true ∧ okN N e = true := by
  have h : okNs N [a, b, c, d, e] = true := h
  rw [okNs_iff] at h
  exact ⟨h a (by simp), h b (by simp), h c (by simp), h d (by simp), h e (by simp)⟩
theorem whole_ex {lo hi : Int} {d : D} (h : whole lo hi d = true) : ∃ i : Int, d = .int i ∧ lo ≤ i ∧ i ≤ hi := by
  cases d with
  | int i =>
    have h : (decide (lo ≤ i) && decide (i ≤ hi)) = true := h
    rw [Bool.and_eq_true, decide_eq_true_eq, decide_eq_true_eq] at h
    exact ⟨i, rfl, h⟩
  | _ => cases h
theorem boxB_ex {d : D} (h : boxB d = true) : ∃ x y w h : Int, d = .tup [.int x, .int y, .int w, .int h] ∧ -40 ≤ x ∧ x ≤ 40 ∧ -40 ≤ y ∧ y ≤ 40 ∧ 1 ≤ w ∧ w ≤ 40 ∧ 1 ≤ h ∧ h ≤ 40 := by
  unfold boxB at h
  split at h
  · rw [Bool.and_eq_true, Bool.and_eq_true, Bool.and_eq_true] at h
    obtain ⟨⟨h1, h2⟩, h3, h4⟩ := h
    obtain ⟨x, rfl, a1, a2⟩ := whole_ex h1
    obtain ⟨y, rfl, a3, a4⟩ := whole_ex h2
    obtain ⟨w, rfl, a5, a6⟩ := whole_ex h3
    obtain ⟨h, rfl, a7, a8⟩ := whole_ex h4
    exact ⟨x, y, w, h, rfl, a1, a2, a3, a4, a5, a6, a7, a8⟩
  · cases h
def sp_is_screen : dSp := spLook screenB
abbrev s_is_screen : Stmt := topS 10
abbrev n_is_screen : List Str := ["thing"]
theorem sc_is_screen : FnScope n_is_screen ["thing"] (defScope s_is_screen) := ⟨rfl, rfl, rfl, by decide +kernel, rfl, by decide +kernel, by decide +kernel⟩
def p_is_screen_0 : dS := (dIfS (dOr (dNot (dB (dCB (rIsi "tuple") (dCons (dVar 0) (dCons (dC (.raw (.ty "tuple"))) dNil))))) (dOr (dB (dBin (rNe) (dCB rLen (dCons (dVar 0) dNil)) (dC (.int 5)))) (dOr (dB (dBin (rNotN) (dBin rIxD (dVar 0) (dC (.int 1))) (dC .non))) (dB (dBin (rIsA true) (dBin rIxD (dVar 0) (dC (.int 3))) (dC (.bl true))))))) (dRet (dC (.bl false))) dNext)
def p_is_screen_1 : dS := (dIfS (dOr (dNot (dB (dCallD 3 [] sp_is_from_to (dCons (dBin rIxD (dVar 0) (dC (.int 0))) (dCons (dC (.int 0)) (dCons (dC (.int 0)) dNil)))))) (dNot (dB (dCallD 3 [] sp_is_from_to (dCons (dBin rIxD (dVar 0) (dC (.int 4))) (dCons (dC (.int 0)) (dCons (dC (.int 0)) dNil))))))) (dRet (dC (.bl false))) dNext)
def p_is_screen_2 : dS := (dRet (dAndV (dCallD 1 [] sp_is_place (dCons (dBin rIxD (dVar 0) (dC (.int 2))) dNil)) (dBin (rEq) (dSlT (dBin rIxD (dVar 0) (dC (.int 2))) oNone (oSome (dC (.int 2)))) (dTup (dCons (dC (.int 0)) (dCons (dC (.int 0)) dNil))))))
def b_is_screen_2 : dS := p_is_screen_2
def b_is_screen_1 : dS := dSeq (p_is_screen_1) (b_is_screen_2)
def b_is_screen_0 : dS := dSeq (p_is_screen_0) (b_is_screen_1)
def b_is_screen : dS := b_is_screen_0
theorem run_is_screen {P : Program} {w : World} {K : PySem.W.Frag} {mg : Str → Option Value} {base : Heap} (v_SCREEN : ∃ t, mg "SCREEN" = some (.int 0 t)) (m_isinstance : mg "isinstance" = none) (m_len : mg "len" = none) (m_tuple : mg "tuple" = none) (K_is_from_to_3 : Def P w K mg base 1 "is_from_to" 3 sp_is_from_to []) (K_is_place_1 : Def P w K mg base 2 "is_place" 1 sp_is_place []) {f : Addr} (cdv : Value) (A : Around) (out : List Env) (s : Shared) (H : Hp) (E : XK) (g : A.guards = some []) (hrA : Room 2 (A.deeper (envOfC "is_screen" (defScope s_is_screen) s.heap.objs.size f cdv))) :
  DSs (cx0 P w K mg base n_is_screen "is_screen" (defScope s_is_screen) f cdv A out s H E) E00 (defBody s_is_screen) b_is_screen := by
 have hgA : (A.deeper (envOfC "is_screen" (defScope s_is_screen) s.heap.objs.size f cdv)).guards = some [] := g
 have hun := hrA.un
 exact (dss_cons (t := p_is_screen_0) (u := b_is_screen_1) (ds_if ((dw_or (dt_not (dt_val (de_callB (cd_isi "tuple") (by rfl) m_isinstance (by decide +kernel) (da_cons (de_var (pv 0)) (da_cons (de_ty (n := "tuple") (by rfl) m_tuple (by decide +kernel)) da_nil))))) (dw_or (dt_cmp (od_ne (Nat.lt_of_le_of_lt (Nat.add_le_add_left (by decide) _) hun)) (de_callB (cd_len) (by rfl) m_len PySem.boot_len (da_cons (de_var (pv 0)) da_nil)) de_int (nomark _)) (dw_or (dt_cmp (od_notN) (de_ix (de_var (pv 0)) de_int (fun _ _ => rfl)) de_non (nomark _)) (dw_or1 (dt_cmp (od_notA) (de_ix (de_var (pv 0)) de_int (fun _ _ => rfl)) de_bl (nomark _))))))).dt (dss_one (ds_ret de_bl)) dss_nil)
  (dss_cons (t := p_is_screen_1) (u := b_is_screen_2) (ds_if ((dw_or (dt_not (dt_val (de_callD K_is_from_to_3 hgA hrA (by rfl) (da_cons (de_ix (de_var (pv 0)) de_int (fun _ _ => rfl)) (da_cons (de_gint (by rfl) v_SCREEN) (da_cons (de_gint (by rfl) v_SCREEN) da_nil)))))) (dw_or1 (dt_not (dt_val (de_callD K_is_from_to_3 hgA hrA (by rfl) (da_cons (de_ix (de_var (pv 0)) de_int (fun _ _ => rfl)) (da_cons de_int (da_cons de_int da_nil))))))))).dt (dss_one (ds_ret de_bl)) dss_nil)
  (dss_one (t := p_is_screen_2) (ds_ret (de_and (de_callD K_is_place_1 hgA hrA (by rfl) (da_cons (de_ix (de_var (pv 0)) de_int (fun _ _ => rfl)) da_nil)) (de_one (de_cmp (od_eq (Nat.lt_of_le_of_lt (Nat.add_le_add_left (by decide) _) hun)) (de_slT (de_ix (de_var (pv 0)) de_int (fun _ _ => rfl)) do_none (do_some de_int)) (de_tup (da_cons de_int (da_cons de_int da_nil))) (nomark _))))))))
theorem hsp_is_screen : ∀ ds p Q W, ds.length = 1 → sp_is_screen ds p Q W → b_is_screen W0 (endsD Q) (startD n_is_screen.length ds p) := by
  rintro _ p Q W - ⟨d, rfl, ok, q⟩
  have no : ∀ xs : List D, xs.length ≠ 5 → Q (.bl false) p → b_is_screen W0 (endsD Q) (startD n_is_screen.length [.tup xs] p) := fun xs h q => by
    have h2 : ¬ ((xs.length : Nat) : Int) = 5 := by omega
    simp only [DSIMP, n_is_screen, b_is_screen, b_is_screen_0, p_is_screen_0, eq_false h2]
    exact q
  cases d with
  | non => simp only [DSIMP, n_is_screen, b_is_screen, b_is_screen_0, p_is_screen_0]; exact q
  | bl b => simp only [DSIMP, n_is_screen, b_is_screen, b_is_screen_0, p_is_screen_0]; exact q
  | int i => simp only [DSIMP, n_is_screen, b_is_screen, b_is_screen_0, p_is_screen_0]; exact q
  | str i => simp only [DSIMP, n_is_screen, b_is_screen, b_is_screen_0, p_is_screen_0]; exact q
  | lst i => simp only [DSIMP, n_is_screen, b_is_screen, b_is_screen_0, p_is_screen_0]; exact q
  | dT i => simp only [DSIMP, n_is_screen, b_is_screen, b_is_screen_0, p_is_screen_0]; exact q
  | tup xs =>
    rcases xs with _ | ⟨a, _ | ⟨b, _ | ⟨c, _ | ⟨s, _ | ⟨e, _ | ⟨u, xs⟩⟩⟩⟩⟩⟩
    · exact no _ (by simp) q
    · exact no _ (by simp) q
    · exact no _ (by simp) q
    · exact no _ (by simp) q
    · exact no _ (by simp) q
    · obtain ⟨o1, o2, o3, o4, o5⟩ := ok5 ok
      have q : Q (.bl (b.isN && (s.isB true && (whole 0 0 a && (whole 0 0 e && (boxB c && zeroXY c)))))) p := q
      have e5 : ((5 : Nat) : Int) = 5 := rfl
      cases b with
      | bl b => simp only [DSIMP, n_is_screen, b_is_screen, b_is_screen_0, p_is_screen_0, e5]; exact q
      | int b => simp only [DSIMP, n_is_screen, b_is_screen, b_is_screen_0, p_is_screen_0, e5]; exact q
      | str b => simp only [DSIMP, n_is_screen, b_is_screen, b_is_screen_0, p_is_screen_0, e5]; exact q
      | lst b => simp only [DSIMP, n_is_screen, b_is_screen, b_is_screen_0, p_is_screen_0, e5]; exact q
      | dT b => simp only [DSIMP, n_is_screen, b_is_screen, b_is_screen_0, p_is_screen_0, e5]; exact q
      | tup b => simp only [DSIMP, n_is_screen, b_is_screen, b_is_screen_0, p_is_screen_0, e5]; exact q
      | non =>
        have q : Q (.bl (s.isB true && (whole 0 0 a && (whole 0 0 e && (boxB c && zeroXY c))))) p := q
        simp only [DSIMP, n_is_screen, b_is_screen, b_is_screen_0, p_is_screen_0, e5]
        cases hs : s.isB true with
        | false => rw [hs] at q; exact q
        | true =>
          rw [hs] at q
          simp only [DSIMP, b_is_screen_1, p_is_screen_1, sp_is_from_to]
          refine ⟨a, 0, 0, rfl, o1, ?_⟩
          cases ha : whole 0 0 a with
          | false => rw [ha] at q; exact q
          | true =>
            rw [ha] at q
            simp only [DSIMP]
            refine ⟨e, 0, 0, rfl, o5, ?_⟩
            cases he : whole 0 0 e with
            | false => rw [he] at q; exact q
            | true =>
              rw [he] at q
              simp only [DSIMP, b_is_screen_2, p_is_screen_2, b_is_screen_2, sp_is_place]
              refine ⟨c, rfl, o3, ?_⟩
              cases hc : boxB c with
              | false => rw [hc] at q; exact q
              | true =>
                rw [hc] at q
                obtain ⟨x, y, w, h, rfl, _⟩ := boxB_ex hc
                simp only [DSIMP, List.take_succ_cons, List.take_zero]
                have eq : (D.tup [.int x, .int y]).eq (.tup [.int 0, .int 0]) = (decide (x = 0) && decide (y = 0)) := by
                  show ((D.int x).eq (.int 0) && ((D.int y).eq (.int 0) && true)) = _
                  rw [Ev.eq_int, Ev.eq_int, Bool.and_true]
                rw [eq]
                exact q
      | _ => cases o2
    · exact no _ (by simp) q
  | _ => cases ok
theorem ok_is_screen {P : Program} {w : World} {K : PySem.W.Frag} {mg : Str → Option Value} {base : Heap} (v_SCREEN : ∃ t, mg "SCREEN" = some (.int 0 t)) (m_isinstance : mg "isinstance" = none) (m_len : mg "len" = none) (m_tuple : mg "tuple" = none) (K_is_from_to_3 : Def P w K mg base 1 "is_from_to" 3 sp_is_from_to []) (K_is_place_1 : Def P w K mg base 2 "is_place" 1 sp_is_place []) {f : Addr} {fd : FuncData} (F : Fun K "is_screen" "is_screen" s_is_screen f fd) : FnG P w K mg base CX0 3 f fd ["thing"] (spD K 1 sp_is_screen) :=
 fn_d0 F sc_is_screen rfl (fun cdv A out s H E g r => run_is_screen v_SCREEN m_isinstance m_len m_tuple K_is_from_to_3 K_is_place_1 cdv A out s H E g r) hsp_is_screen
def sp_is_row : dSp := spLook rowB
abbrev s_is_row : Stmt := topS 11
abbrev n_is_row : List Str := ["thing", "number", "elder", "box", "shown", "asker"]
theorem sc_is_row : FnScope n_is_row ["thing"] (defScope s_is_row) := ⟨rfl, rfl, rfl, by decide +kernel, rfl, by decide +kernel, by decide +kernel⟩
def p_is_row_0 : dS := (dIfS (dOr (dNot (dB (dCB (rIsi "tuple") (dCons (dVar 0) (dCons (dC (.raw (.ty "tuple"))) dNil))))) (dB (dBin (rNe) (dCB rLen (dCons (dVar 0) dNil)) (dC (.int 5))))) (dRet (dC (.bl false))) dNext)
def p_is_row_1 : dS := (dAsg (dVar 0) (gT 5 (gsCons (gN 1) (gsCons (gN 2) (gsCons (gN 3) (gsCons (gN 4) (gsCons (gN 5) gsNil)))))))
def p_is_row_2 : dS := (dIfS (dOr (dNot (dB (dCallD 3 [] sp_is_from_to (dCons (dVar 1) (dCons (dC (.int 1)) (dCons (dC (.int 9)) dNil)))))) (dNot (dB (dCallD 3 [] sp_is_from_to (dCons (dVar 2) (dCons (dC (.int 0)) (dCons (dC (.int 9)) dNil))))))) (dRet (dC (.bl false))) dNext)
def p_is_row_3 : dS := (dRet (dAndV (dCallD 1 [] sp_is_place (dCons (dVar 3) dNil)) (dAndV (dCB (rIsi "bool") (dCons (dVar 4) (dCons (dC (.raw (.ty "bool"))) dNil))) (dCallD 3 [] sp_is_from_to (dCons (dVar 5) (dCons (dC (.int 1)) (dCons (dC (.int 4)) dNil)))))))
def b_is_row_3 : dS := p_is_row_3
def b_is_row_2 : dS := dSeq (p_is_row_2) (b_is_row_3)
def b_is_row_1 : dS := dSeq (p_is_row_1) (b_is_row_2)
def b_is_row_0 : dS := dSeq (p_is_row_0) (b_is_row_1)
def b_is_row : dS := b_is_row_0
theorem run_is_row {P : Program} {w : World} {K : PySem.W.Frag} {mg : Str → Option Value} {base : Heap} (v_MOST_ASKER : ∃ t, mg "MOST_ASKER" = some (.int 4 t)) (v_MOST_NUMBER : ∃ t, mg "MOST_NUMBER" = some (.int 9 t)) (v_SCREEN : ∃ t, mg "SCREEN" = some (.int 0 t)) (m_bool : mg "bool" = none) (m_isinstance : mg "isinstance" = none) (m_len : mg "len" = none) (m_tuple : mg "tuple" = none) (K_is_from_to_3 : Def P w K mg base 1 "is_from_to" 3 sp_is_from_to []) (K_is_place_1 : Def P w K mg base 2 "is_place" 1 sp_is_place []) {f : Addr} (cdv : Value) (A : Around) (out : List Env) (s : Shared) (H : Hp) (E : XK) (g : A.guards = some []) (hrA : Room 2 (A.deeper (envOfC "is_row" (defScope s_is_row) s.heap.objs.size f cdv))) :
  DSs (cx0 P w K mg base n_is_row "is_row" (defScope s_is_row) f cdv A out s H E) E00 (defBody s_is_row) b_is_row := by
 have hgA : (A.deeper (envOfC "is_row" (defScope s_is_row) s.heap.objs.size f cdv)).guards = some [] := g
 have hun := hrA.un
 exact (dss_cons (t := p_is_row_0) (u := b_is_row_1) (ds_if ((dw_or (dt_not (dt_val (de_callB (cd_isi "tuple") (by rfl) m_isinstance (by decide +kernel) (da_cons (de_var (pv 0)) (da_cons (de_ty (n := "tuple") (by rfl) m_tuple (by decide +kernel)) da_nil))))) (dw_or1 (dt_cmp (od_ne (Nat.lt_of_le_of_lt (Nat.add_le_add_left (by decide) _) hun)) (de_callB (cd_len) (by rfl) m_len PySem.boot_len (da_cons (de_var (pv 0)) da_nil)) de_int (nomark _))))).dt (dss_one (ds_ret de_bl)) dss_nil)
  (dss_cons (t := p_is_row_1) (u := b_is_row_2) (ds_asg (de_var (pv 0)) (dg_tup rfl (dgs_cons (dg_name (pg_name (i := 1) sc_is_row.nd rfl (by first | exact .inl rfl | exact .inr rfl))) (dgs_cons (dg_name (pg_name (i := 2) sc_is_row.nd rfl (by first | exact .inl rfl | exact .inr rfl))) (dgs_cons (dg_name (pg_name (i := 3) sc_is_row.nd rfl (by first | exact .inl rfl | exact .inr rfl))) (dgs_cons (dg_name (pg_name (i := 4) sc_is_row.nd rfl (by first | exact .inl rfl | exact .inr rfl))) (dgs_cons (dg_name (pg_name (i := 5) sc_is_row.nd rfl (by first | exact .inl rfl | exact .inr rfl))) dgs_nil)))))))
  (dss_cons (t := p_is_row_2) (u := b_is_row_3) (ds_if ((dw_or (dt_not (dt_val (de_callD K_is_from_to_3 hgA hrA (by rfl) (da_cons (de_var (pv 1)) (da_cons de_int (da_cons (de_gint (by rfl) v_MOST_NUMBER) da_nil)))))) (dw_or1 (dt_not (dt_val (de_callD K_is_from_to_3 hgA hrA (by rfl) (da_cons (de_var (pv 2)) (da_cons (de_gint (by rfl) v_SCREEN) (da_cons (de_gint (by rfl) v_MOST_NUMBER) da_nil))))))))).dt (dss_one (ds_ret de_bl)) dss_nil)
  (dss_one (t := p_is_row_3) (ds_ret (de_and (de_callD K_is_place_1 hgA hrA (by rfl) (da_cons (de_var (pv 3)) da_nil)) (de_and (de_callB (cd_isi "bool") (by rfl) m_isinstance (by decide +kernel) (da_cons (de_var (pv 4)) (da_cons (de_ty (n := "bool") (by rfl) m_bool (by decide +kernel)) da_nil))) (de_one (de_callD K_is_from_to_3 hgA hrA (by rfl) (da_cons (de_var (pv 5)) (da_cons de_int (da_cons (de_gint (by rfl) v_MOST_ASKER) da_nil))))))))))))
theorem hsp_is_row : ∀ ds p Q W, ds.length = 1 → sp_is_row ds p Q W → b_is_row W0 (endsD Q) (startD n_is_row.length ds p) := by
  rintro _ p Q W - ⟨d, rfl, ok, q⟩
  have no : ∀ xs : List D, xs.length ≠ 5 → Q (.bl false) p → b_is_row W0 (endsD Q) (startD n_is_row.length [.tup xs] p) := fun xs h q => by
    have h2 : ¬ ((xs.length : Nat) : Int) = 5 := by omega
    simp only [DSIMP, n_is_row, b_is_row, b_is_row_0, p_is_row_0, eq_false h2]
    exact q
  cases d with
  | non => simp only [DSIMP, n_is_row, b_is_row, b_is_row_0, p_is_row_0]; exact q
  | bl b => simp only [DSIMP, n_is_row, b_is_row, b_is_row_0, p_is_row_0]; exact q
  | int i => simp only [DSIMP, n_is_row, b_is_row, b_is_row_0, p_is_row_0]; exact q
  | str i => simp only [DSIMP, n_is_row, b_is_row, b_is_row_0, p_is_row_0]; exact q
  | lst i => simp only [DSIMP, n_is_row, b_is_row, b_is_row_0, p_is_row_0]; exact q
  | dT i => simp only [DSIMP, n_is_row, b_is_row, b_is_row_0, p_is_row_0]; exact q
  | tup xs =>
    rcases xs with _ | ⟨a, _ | ⟨b, _ | ⟨c, _ | ⟨s, _ | ⟨e, _ | ⟨u, xs⟩⟩⟩⟩⟩⟩
    · exact no _ (by simp) q
    · exact no _ (by simp) q
    · exact no _ (by simp) q
    · exact no _ (by simp) q
    · exact no _ (by simp) q
    · obtain ⟨o1, o2, o3, o4, o5⟩ := ok5 ok
      have q : Q (.bl (whole 1 9 a && (whole 0 9 b && (boxB c && (isBl s && whole 1 4 e))))) p := q
      have e5 : ((5 : Nat) : Int) = 5 := rfl
      simp only [DSIMP, n_is_row, b_is_row, b_is_row_0, p_is_row_0, b_is_row_1, p_is_row_1, b_is_row_2, p_is_row_2, sp_is_from_to, sp_is_place, e5]
      refine ⟨a, 1, 9, rfl, o1, ?_⟩
      cases ha : whole 1 9 a with
      | false => rw [ha] at q; exact q
      | true =>
        rw [ha] at q
        simp only [DSIMP]
        refine ⟨b, 0, 9, rfl, o2, ?_⟩
        cases hb : whole 0 9 b with
        | false => rw [hb] at q; exact q
        | true =>
          rw [hb] at q
          simp only [DSIMP, b_is_row_3, p_is_row_3, b_is_row_3]
          refine ⟨c, rfl, o3, ?_⟩
          cases hc : boxB c with
          | false => rw [hc] at q; exact q
          | true =>
            rw [hc] at q
            cases s with
            | bl z => simp only [DSIMP]; exact ⟨e, 1, 4, rfl, o5, q⟩
            | non => simp only [DSIMP]; exact q
            | int i => simp only [DSIMP]; exact q
            | str i => simp only [DSIMP]; exact q
            | lst i => simp only [DSIMP]; exact q
            | dT i => simp only [DSIMP]; exact q
            | tup i => simp only [DSIMP]; exact q
            | _ => cases o4
    · exact no _ (by simp) q
  | _ => cases ok
theorem ok_is_row {P : Program} {w : World} {K : PySem.W.Frag} {mg : Str → Option Value} {base : Heap} (v_MOST_ASKER : ∃ t, mg "MOST_ASKER" = some (.int 4 t)) (v_MOST_NUMBER : ∃ t, mg "MOST_NUMBER" = some (.int 9 t)) (v_SCREEN : ∃ t, mg "SCREEN" = some (.int 0 t)) (m_bool : mg "bool" = none) (m_isinstance : mg "isinstance" = none) (m_len : mg "len" = none) (m_tuple : mg "tuple" = none) (K_is_from_to_3 : Def P w K mg base 1 "is_from_to" 3 sp_is_from_to []) (K_is_place_1 : Def P w K mg base 2 "is_place" 1 sp_is_place []) {f : Addr} {fd : FuncData} (F : Fun K "is_row" "is_row" s_is_row f fd) : FnG P w K mg base CX0 3 f fd ["thing"] (spD K 1 sp_is_row) :=
 fn_d0 F sc_is_row rfl (fun cdv A out s H E g r => run_is_row v_MOST_ASKER v_MOST_NUMBER v_SCREEN m_bool m_isinstance m_len m_tuple K_is_from_to_3 K_is_place_1 cdv A out s H E g r) hsp_is_row
def sp_do_stand : dSp := fun ds p Q _ => ∃ rs : List D, ds = [.tup rs] ∧ rs.length ≤ 10 ∧ (∀ r ∈ rs, rowB r = true) ∧ Q (.bl (standL [0] [0] (rs.map rowNE))) p
abbrev s_do_stand : Stmt := topS 12
abbrev n_do_stand : List Str := ["rows", "above", "met", "number", "elder", "rest"]
theorem sc_do_stand : FnScope n_do_stand ["rows"] (defScope s_do_stand) := ⟨rfl, rfl, rfl, by decide +kernel, rfl, by decide +kernel, by decide +kernel⟩
def p_do_stand_x2_0 : dS := (dIfS (dOr (dB (dBin (rInD true) (dVar 4) (dVar 1))) (dB (dOwnR 2 (rInD false) (dVar 3)))) (dRet (dC (.bl false))) dNext)
def p_do_stand_x2_1 : dS := (dSet 1 (dFz (dBinF rCatL (dFz (dSlL (dVar 1) oNone (oSome (dBin rAddD (dIndex 1 (dVar 4)) (dC (.int 1)))))) (dFz (dLst (dCons (dVar 3) dNil))))))
def p_do_stand_x2_2 : dS := (dIfS (dB (dBin (rGt) (dCB rLen (dCons (dVar 1) dNil)) (dC (.int 5)))) (dRet (dC (.bl false))) dNext)
def p_do_stand_x2_3 : dS := (dApp 2 (dVar 3))
def b_do_stand_x2_3 : dS := p_do_stand_x2_3
def b_do_stand_x2_2 : dS := dSeq (p_do_stand_x2_2) (b_do_stand_x2_3)
def b_do_stand_x2_1 : dS := dSeq (p_do_stand_x2_1) (b_do_stand_x2_2)
def b_do_stand_x2_0 : dS := dSeq (p_do_stand_x2_0) (b_do_stand_x2_1)
def p_do_stand_0 : dS := (dSet 1 (dFz (dLst (dCons (dC (.int 0)) dNil))))
def p_do_stand_1 : dS := (dSetF 2 (dLst (dCons (dC (.int 0)) dNil)))
def p_do_stand_2 : dS := (dFor (dSeqI (dVar 0)) (gStarD 3 2 (gsCons (gN 3) (gsCons (gN 4) (gsCons (gN 5) gsNil)))) b_do_stand_x2_0)
def p_do_stand_3 : dS := (dRet (dC (.bl true)))
def b_do_stand_3 : dS := p_do_stand_3
def b_do_stand_2 : dS := dSeq (p_do_stand_2) (b_do_stand_3)
def b_do_stand_1 : dS := dSeq (p_do_stand_1) (b_do_stand_2)
def b_do_stand_0 : dS := dSeq (p_do_stand_0) (b_do_stand_1)
def b_do_stand : dS := b_do_stand_0
theorem run_do_stand {P : Program} {w : World} {K : PySem.W.Frag} {mg : Str → Option Value} {base : Heap} (v_MOST_DEEP : ∃ t, mg "MOST_DEEP" = some (.int 5 t)) (v_SCREEN : ∃ t, mg "SCREEN" = some (.int 0 t)) (m_len : mg "len" = none) {f : Addr} (cdv : Value) (A : Around) (out : List Env) (s : Shared) (H : Hp) (E : XK) (g : A.guards = some []) (hrA : Room 0 (A.deeper (envOfC "do_stand" (defScope s_do_stand) s.heap.objs.size f cdv))) :
  DSs (cx0 P w K mg base n_do_stand "do_stand" (defScope s_do_stand) f cdv A out s H E) E00 (defBody s_do_stand) b_do_stand := by
 have hgA : (A.deeper (envOfC "do_stand" (defScope s_do_stand) s.heap.objs.size f cdv)).guards = some [] := g
 have hun := hrA.un
 exact (dss_cons (t := p_do_stand_0) (u := b_do_stand_1) (ds_set (i := 1) sc_do_stand.nd rfl (by first | exact .inl rfl | exact .inr rfl) (de_fz (df_lst (da_cons (de_gint (by rfl) v_SCREEN) da_nil))))
  (dss_cons (t := p_do_stand_1) (u := b_do_stand_2) (ds_setF (i := 2) sc_do_stand.nd rfl (by first | exact .inl rfl | exact .inr rfl) (df_lst (da_cons (de_gint (by rfl) v_SCREEN) da_nil)))
  (dss_cons (t := p_do_stand_2) (u := b_do_stand_3) (ds_for PassesOwn.never rfl (di_seq (de_var (pv 0))) (dg_star rfl (by decide) (dgs_cons (dg_name (pg_name (i := 3) sc_do_stand.nd rfl (by first | exact .inl rfl | exact .inr rfl))) (dgs_cons (dg_name (pg_name (i := 4) sc_do_stand.nd rfl (by first | exact .inl rfl | exact .inr rfl))) (dgs_star (dg_name (pg_name (i := 5) sc_do_stand.nd rfl (by first | exact .inl rfl | exact .inr rfl))) dgs_nil)))) (dss_cons (t := p_do_stand_x2_0) (u := b_do_stand_x2_1) (ds_if ((dw_or (dt_cmp (od_notin (Nat.lt_of_le_of_lt (Nat.add_le_add_left (by decide) _) hun)) (de_var (pv 4)) (de_var (pv 1)) (by with_unfolding_all rfl)) (dw_or1 (dt_ownR (od_in (Nat.lt_of_le_of_lt (Nat.add_le_add_left (by decide) _) hun)) (de_var (pv 3)) (pv 2) (by with_unfolding_all rfl))))).dt (dss_one (ds_ret de_bl)) dss_nil)
  (dss_cons (t := p_do_stand_x2_1) (u := b_do_stand_x2_2) (ds_set (i := 1) sc_do_stand.nd rfl (by first | exact .inl rfl | exact .inr rfl) (de_fz (df_op od_catL (de_fz (df_slL (de_var (pv 1)) do_none (do_some (de_op od_add (de_index (Nat.lt_of_le_of_lt (Nat.add_le_add_left (by decide) _) hun) (pv 1) (de_var (pv 4))) de_int)))) (de_fz (df_lst (da_cons (de_var (pv 3)) da_nil))))))
  (dss_cons (t := p_do_stand_x2_2) (u := b_do_stand_x2_3) (ds_if (dt_cmp (od_gt) (de_callB (cd_len) (by rfl) m_len PySem.boot_len (da_cons (de_var (pv 1)) da_nil)) (de_gint (by rfl) v_MOST_DEEP) (nomark _)) (dss_one (ds_ret de_bl)) dss_nil)
  (dss_one (t := p_do_stand_x2_3) (ds_app (pv 2) (de_var (pv 3))))))))
  (dss_one (t := p_do_stand_3) (ds_ret de_bl)))))
theorem in_ints (l : List Int) (n : Int) : ((l.map D.int).any fun z => z.eq (D.int n)) = decide (n ∈ l) := by
  induction l with
  | nil => rfl
  | cons x l ih => rw [List.map_cons, List.any_cons, ih, Ev.eq_int, ← Bool.decide_or]; exact decide_eq_decide.mpr (by rw [List.mem_cons, eq_comm])
theorem rowB_ex {d : D} (h : rowB d = true) : ∃ (n u : Int) (c : D) (s : Bool) (e : Int), d = .tup [.int n, .int u, c, .bl s, .int e] ∧ 1 ≤ n ∧ n ≤ 9 ∧ 0 ≤ u ∧ u ≤ 9 ∧ boxB c = true ∧ 1 ≤ e ∧ e ≤ 4 := by
  unfold rowB at h
  split at h
  · rw [Bool.and_eq_true, Bool.and_eq_true, Bool.and_eq_true, Bool.and_eq_true] at h
    obtain ⟨h1, h2, h3, h4, h5⟩ := h
    obtain ⟨n, rfl, a1, a2⟩ := whole_ex h1
    obtain ⟨u, rfl, a3, a4⟩ := whole_ex h2
    obtain ⟨e, rfl, a5, a6⟩ := whole_ex h5
    rename_i c s
    cases s with
    | bl z => exact ⟨n, u, c, z, e, rfl, a1, a2, a3, a4, h3, a5, a6⟩
    | _ => cases h4
  · cases h
theorem ints_at {l : List Int} {n : Int} (h : n ∈ l) : firstAt (l.map D.int) (D.int n) = some (l.idxOf n) := by
  unfold firstAt
  induction l with
  | nil => cases h
  | cons a l ih =>
    rw [List.map_cons, List.findIdx?_cons, List.idxOf_cons]
    by_cases c : a = n
    · subst c; simp [Ev.D.eq_refl]
    · have e1 : (D.int a).eq (D.int n) = false := by rw [Ev.eq_int]; exact decide_eq_false c
      rcases List.mem_cons.mp h with h | h
      · exact absurd h.symm c
      · rw [e1, if_neg (by decide), ih h, beq_eq_false_iff_ne.mpr c]; rfl
theorem wFor_cons {g : dG} {b : dS} {W : XW} {N : dEnds} {d : D} {ds : List D} {δ : DS} (h : ∀ k, k = wFor g b W N ds → g d δ fun δ1 => b W { N with nx := k, ct := k, bk := N.nx } δ1) : wFor g b W N (d :: ds) δ := h _ rfl
theorem stand_loop {N : dEnds} {s0 : Sl} {p : Pen} {Q : D → Pen → Prop} (hn : ∀ δ : DS, δ.pen = p → Q (.bl true) p → N.nx δ) (hr : N.rt = fun x δ => Q x δ.pen) : ∀ (rs : List D) (above met : List Int) (s3 s4 s5 : Sl), (∀ r ∈ rs, rowB r = true) → above.length ≤ 5 → met.length + rs.length ≤ 11 → Q (.bl (standL above met (rs.map rowNE))) p →
    wFor (gStarD 3 2 (gsCons (gN 3) (gsCons (gN 4) (gsCons (gN 5) gsNil)))) b_do_stand_x2_0 W0 N rs ⟨[s0, .dat (.lst (above.map .int)), .own (met.map .int), s3, s4, s5], p⟩
  | [], above, met, s3, s4, s5, _, _, _, q => hn _ rfl q
  | r :: rs, above, met, s3, s4, s5, ok, ha, hm, q => by
    obtain ⟨n, u, c, s, e, rfl, h1, h2, h3, h4, hc, h5, h6⟩ := rowB_ex (ok r List.mem_cons_self)
    obtain ⟨x, y, w, h, rfl, _⟩ := boxB_ex hc
    refine wFor_cons fun k ek => ?_
    have ly : D.lays (above.map D.int) = true := lays_map fun _ _ => rfl
    have dpp : D.deps (above.map D.int) ≤ 63 := deps_map fun _ _ => Nat.zero_le _
    have lym : D.lays (met.map D.int) = true := lays_map fun _ _ => rfl
    have dpm : D.deps (met.map D.int) ≤ 63 := deps_map fun _ _ => Nat.zero_le _
    have i1 := in_ints above u
    have i2 := in_ints met n
    have q : Q (.bl (if u ∉ above ∨ n ∈ met then false else if 5 < (above.take (above.idxOf u + 1) ++ [n]).length then false else standL (above.take (above.idxOf u + 1) ++ [n]) (met ++ [n]) (rs.map rowNE))) p := q
    by_cases c1 : u ∈ above
    · by_cases c2 : n ∈ met
      · rw [if_pos (.inr c2)] at q
        rw [decide_eq_true c1] at i1
        rw [decide_eq_true c2] at i2
        simp only [DSIMP, b_do_stand_x2_0, p_do_stand_x2_0, i1, i2, ly, dpp, lym, dpm, hr, List.take_succ_cons, List.take_zero, List.drop_succ_cons, List.drop_zero]
        exact q
      · rw [if_neg (fun z => z.elim (fun z => z c1) c2)] at q
        rw [decide_eq_true c1] at i1
        rw [decide_eq_false c2] at i2
        have fa := ints_at c1
        have ec : Ev.cutD (above.map D.int) none (some (((above.idxOf u : Nat) : Int) + 1)) = (above.take (above.idxOf u + 1)).map D.int := by
          rw [show ((above.idxOf u : Nat) : Int) + 1 = ((above.idxOf u + 1 : Nat) : Int) from rfl, cut_to, List.map_take]
        have tl : (above.take (above.idxOf u + 1)).length ≤ 5 := Nat.le_trans (List.length_take_le' _ _) ha
        obtain ⟨T, hT⟩ : ∃ T, T = above.take (above.idxOf u + 1) := ⟨_, rfl⟩
        rw [← hT] at ec tl q
        simp only [DSIMP, b_do_stand_x2_0, p_do_stand_x2_0, b_do_stand_x2_1, p_do_stand_x2_1, i1, i2, ly, dpp, lym, dpm, fa, ec, List.take_succ_cons, List.take_zero, List.drop_succ_cons, List.drop_zero]
        refine ⟨by omega, ?_⟩
        have ea : T.map D.int ++ [D.int n] = (T ++ [n]).map D.int := by rw [List.map_append]; rfl
        rw [ea]
        obtain ⟨A, hA⟩ : ∃ A, A = T ++ [n] := ⟨_, rfl⟩
        rw [← hA] at q ⊢
        simp only [DSIMP, b_do_stand_x2_2, p_do_stand_x2_2]
        by_cases c3 : 5 < A.length
        · have c4 : (5 : Int) < ((A.length : Nat) : Int) := by omega
          rw [if_pos c3] at q
          simp only [DSIMP, eq_true c4, hr]
          exact q
        · have c4 : ¬ (5 : Int) < ((A.length : Nat) : Int) := by omega
          rw [if_neg c3] at q
          have em : met.map D.int ++ [D.int n] = (met ++ [n]).map D.int := by rw [List.map_append]; rfl
          simp only [List.length_cons] at hm
          simp only [DSIMP, eq_false c4, b_do_stand_x2_3, p_do_stand_x2_3, b_do_stand_x2_3, em]
          rw [ek]
          exact ⟨by omega, stand_loop hn hr rs A (met ++ [n]) _ _ _ (fun r hr => ok r (List.mem_cons_of_mem _ hr)) (by omega) (by simp only [List.length_append, List.length_cons, List.length_nil]; omega) q⟩
    · rw [if_pos (.inl c1)] at q
      rw [decide_eq_false c1] at i1
      simp only [DSIMP, b_do_stand_x2_0, p_do_stand_x2_0, i1, ly, dpp, hr, List.take_succ_cons, List.take_zero, List.drop_succ_cons, List.drop_zero]
      exact q
theorem hsp_do_stand : ∀ ds p Q W, ds.length = 1 → sp_do_stand ds p Q W → b_do_stand W0 (endsD Q) (startD n_do_stand.length ds p) := by
  rintro _ p Q W - ⟨rs, rfl, rl, ok, q⟩
  simp only [DSIMP, n_do_stand, b_do_stand, b_do_stand_0, p_do_stand_0, b_do_stand_1, p_do_stand_1, b_do_stand_2, p_do_stand_2]
  refine stand_loop (Q := Q) (fun δ hp q => ?_) rfl rs [0] [0] _ _ _ ok (by decide) (by simp only [List.length_cons, List.length_nil]; omega) q
  simp only [DSIMP, b_do_stand_3, p_do_stand_3, b_do_stand_3, hp]
  exact q
theorem ok_do_stand {P : Program} {w : World} {K : PySem.W.Frag} {mg : Str → Option Value} {base : Heap} (v_MOST_DEEP : ∃ t, mg "MOST_DEEP" = some (.int 5 t)) (v_SCREEN : ∃ t, mg "SCREEN" = some (.int 0 t)) (m_len : mg "len" = none) {f : Addr} {fd : FuncData} (F : Fun K "do_stand" "do_stand" s_do_stand f fd) : FnG P w K mg base CX0 1 f fd ["rows"] (spD K 1 sp_do_stand) :=
 fn_d0 F sc_do_stand rfl (fun cdv A out s H E g r => run_do_stand v_MOST_DEEP v_SCREEN m_len cdv A out s H E g r) hsp_do_stand
def sp_is_book : dSp := spLook bookB
abbrev s_is_book : Stmt := topS 13
abbrev n_is_book : List Str := ["thing", "row"]
theorem sc_is_book : FnScope n_is_book ["thing"] (defScope s_is_book) := ⟨rfl, rfl, rfl, by decide +kernel, rfl, by decide +kernel, by decide +kernel⟩
def p_is_book_0 : dS := (dIfS (dOr (dNot (dB (dCB (rIsi "tuple") (dCons (dVar 0) (dCons (dC (.raw (.ty "tuple"))) dNil))))) (dOr (dNot (dB (dChain rLe rLe (dC (.int 1)) (dCB rLen (dCons (dVar 0) dNil)) (dC (.int 10))))) (dNot (dB (dCallD 1 [] sp_is_screen (dCons (dBin rIxD (dVar 0) (dC (.int 0))) dNil)))))) (dRet (dC (.bl false))) dNext)
def p_is_book_1 : dS := (dRet (dAndV (dCB rAllD (dCons (dFz (dLC (dSeqI (dSlT (dVar 0) (oSome (dC (.int 1))) oNone)) (gN 1) dYes (dCallD 1 [] sp_is_row (dCons (dVar 1) dNil)) [1])) dNil)) (dCallD 1 [] sp_do_stand (dCons (dSlT (dVar 0) (oSome (dC (.int 1))) oNone) dNil))))
def b_is_book_1 : dS := p_is_book_1
def b_is_book_0 : dS := dSeq (p_is_book_0) (b_is_book_1)
def b_is_book : dS := b_is_book_0
theorem run_is_book {P : Program} {w : World} {K : PySem.W.Frag} {mg : Str → Option Value} {base : Heap} (v_MOST_ROWS : ∃ t, mg "MOST_ROWS" = some (.int 10 t)) (m_all : mg "all" = none) (m_isinstance : mg "isinstance" = none) (m_len : mg "len" = none) (m_tuple : mg "tuple" = none) (K_do_stand_1 : Def P w K mg base 1 "do_stand" 1 sp_do_stand []) (K_is_row_1 : Def P w K mg base 3 "is_row" 1 sp_is_row []) (K_is_screen_1 : Def P w K mg base 3 "is_screen" 1 sp_is_screen []) {f : Addr} (cdv : Value) (A : Around) (out : List Env) (s : Shared) (H : Hp) (E : XK) (g : A.guards = some []) (hrA : Room 3 (A.deeper (envOfC "is_book" (defScope s_is_book) s.heap.objs.size f cdv))) :
  DSs (cx0 P w K mg base n_is_book "is_book" (defScope s_is_book) f cdv A out s H E) E00 (defBody s_is_book) b_is_book := by
 have hgA : (A.deeper (envOfC "is_book" (defScope s_is_book) s.heap.objs.size f cdv)).guards = some [] := g
 have hun := hrA.un
 exact (dss_cons (t := p_is_book_0) (u := b_is_book_1) (ds_if ((dw_or (dt_not (dt_val (de_callB (cd_isi "tuple") (by rfl) m_isinstance (by decide +kernel) (da_cons (de_var (pv 0)) (da_cons (de_ty (n := "tuple") (by rfl) m_tuple (by decide +kernel)) da_nil))))) (dw_or (dt_not (dt_chain (od_le) (od_le) de_int (de_callB (cd_len) (by rfl) m_len PySem.boot_len (da_cons (de_var (pv 0)) da_nil)) (de_gint (by rfl) v_MOST_ROWS))) (dw_or1 (dt_not (dt_val (de_callD K_is_screen_1 hgA hrA (by rfl) (da_cons (de_ix (de_var (pv 0)) de_int (fun _ _ => rfl)) da_nil)))))))).dt (dss_one (ds_ret de_bl)) dss_nil)
  (dss_one (t := p_is_book_1) (ds_ret (de_and (de_callB (cd_all rfl) (by rfl) m_all (by decide +kernel) (da_cons (de_fz (df_lc (E2 := E00) (own := [("row", 1)]) rfl sc_is_book.nd (di_seq (de_slT (de_var (pv 0)) (do_some de_int) do_none)) (blkOk_by (N := n_is_book) (sc := (defScope s_is_book)) (own := [("row", 1)]) (by decide +kernel)) (by decide) (fun _ _ _ _ _ => (dg_name (pg_name (i := 1) sc_is_book.nd rfl (by first | exact .inl rfl | exact .inr rfl)))) (fun _ _ _ _ _ => dts_nil) (fun _ _ _ _ _ => (de_callD K_is_row_1 hgA hrA (by rfl) (da_cons (de_var (pv 1)) da_nil))))) da_nil)) (de_one (de_callD K_do_stand_1 hgA hrA (by rfl) (da_cons (de_slT (de_var (pv 0)) (do_some de_int) do_none) da_nil)))))))
theorem hsp_is_book : ∀ ds p Q W, ds.length = 1 → sp_is_book ds p Q W → b_is_book W0 (endsD Q) (startD n_is_book.length ds p) := by
  rintro _ p Q W - ⟨d, rfl, ok, q⟩
  cases d with
  | non => simp only [DSIMP, n_is_book, b_is_book, b_is_book_0, p_is_book_0]; exact q
  | bl b => simp only [DSIMP, n_is_book, b_is_book, b_is_book_0, p_is_book_0]; exact q
  | int i => simp only [DSIMP, n_is_book, b_is_book, b_is_book_0, p_is_book_0]; exact q
  | str i => simp only [DSIMP, n_is_book, b_is_book, b_is_book_0, p_is_book_0]; exact q
  | lst i => simp only [DSIMP, n_is_book, b_is_book, b_is_book_0, p_is_book_0]; exact q
  | dT i => simp only [DSIMP, n_is_book, b_is_book, b_is_book_0, p_is_book_0]; exact q
  | tup xs =>
    have oks : ∀ x ∈ xs, okN great x = true := okNs_iff.mp ok
    have q : Q (.bl (decide (1 ≤ xs.length ∧ xs.length ≤ 10) && (screenB (xs.headD .non) && ((xs.drop 1).all rowB && standL [0] [0] ((xs.drop 1).map rowNE))))) p := q
    cases xs with
    | nil =>
      simp only [DSIMP, n_is_book, b_is_book, b_is_book_0, p_is_book_0, dChain]
      exact q
    | cons x rs =>
      have l1 : (1 : Int) ≤ ((rs.length + 1 : Nat) : Int) := by omega
      have ox := oks x List.mem_cons_self
      have orr : ∀ r ∈ rs, okN great r = true := fun r h => oks r (List.mem_cons_of_mem _ h)
      by_cases hl : rs.length ≤ 9
      · have l2 : ((rs.length + 1 : Nat) : Int) ≤ 10 := by omega
        have q : Q (.bl (screenB x && (rs.all rowB && standL [0] [0] (rs.map rowNE)))) p := by
          rw [decide_eq_true (show 1 ≤ (x :: rs).length ∧ (x :: rs).length ≤ 10 from ⟨by simp, by simp only [List.length_cons]; omega⟩)] at q
          exact q
        simp only [DSIMP, n_is_book, b_is_book, b_is_book_0, p_is_book_0, dChain, eq_true l1, eq_true l2, sp_is_screen]
        refine ⟨x, rfl, ox, ?_⟩
        cases hx : screenB x with
        | false => rw [hx] at q; exact q
        | true =>
          rw [hx] at q
          simp only [DSIMP, b_is_book_1, p_is_book_1, b_is_book_1, List.drop_succ_cons, List.drop_zero, sp_is_row]
          have hw : rs = rs.map id := (List.map_id rs).symm
          rw [hw]
          refine wLC_maps (l := rs) (ι := id) (f := fun r => .bl (rowB r)) (fun r hr acc k hz h => ?_) (by rw [sizeLine_eq]; omega) ?_
          · simp only [DSIMP]
            exact ⟨r, rfl, orr r hr, hz, h⟩
          have ai : (rs.map rowB).all id = rs.all rowB := by rw [List.all_map]; rfl
          rw [List.map_id]
          simp only [DSIMP, rAllD, bls_maps, ai]
          cases ha : rs.all rowB with
          | false => rw [ha] at q; exact q
          | true =>
            rw [ha] at q
            simp only [DSIMP, List.drop_succ_cons, List.drop_zero, sp_do_stand]
            exact ⟨rs, rfl, by omega, fun r hr => List.all_eq_true.mp ha r hr, q⟩
      · have l2 : ¬ ((rs.length + 1 : Nat) : Int) ≤ 10 := by omega
        simp only [DSIMP, n_is_book, b_is_book, b_is_book_0, p_is_book_0, dChain, eq_true l1, eq_false l2]
        rw [decide_eq_false (show ¬ (1 ≤ (x :: rs).length ∧ (x :: rs).length ≤ 10) from fun z => by have := z.2; simp only [List.length_cons] at this; omega)] at q
        exact q
  | _ => cases ok
theorem ok_is_book {P : Program} {w : World} {K : PySem.W.Frag} {mg : Str → Option Value} {base : Heap} (v_MOST_ROWS : ∃ t, mg "MOST_ROWS" = some (.int 10 t)) (m_all : mg "all" = none) (m_isinstance : mg "isinstance" = none) (m_len : mg "len" = none) (m_tuple : mg "tuple" = none) (K_do_stand_1 : Def P w K mg base 1 "do_stand" 1 sp_do_stand []) (K_is_row_1 : Def P w K mg base 3 "is_row" 1 sp_is_row []) (K_is_screen_1 : Def P w K mg base 3 "is_screen" 1 sp_is_screen []) {f : Addr} {fd : FuncData} (F : Fun K "is_book" "is_book" s_is_book f fd) : FnG P w K mg base CX0 4 f fd ["thing"] (spD K 1 sp_is_book) :=
 fn_d0 F sc_is_book rfl (fun cdv A out s H E g r => run_is_book v_MOST_ROWS m_all m_isinstance m_len m_tuple K_do_stand_1 K_is_row_1 K_is_screen_1 cdv A out s H E g r) hsp_is_book
end Ev07
namespace Ev07
open PySem PySem.Spec PyProof.Rows L2 Ev Pt
local macro_rules
  | `(tactic| simp only [DSIMP, $as,*] $[$l:location]?) => `(tactic| simp only [rNeE, rEL, List.isEmpty_nil, List.isEmpty_cons, gIx, rIsA, rIsS, kitS, kitS.optQB, D.cls, dHGet, dHPut, dBornK, penK_cells, penK_at, penK_left, penK_pat, penK_pleft, penK_len, ex_hpK, dOwnGet2, ownKs, dKpL, dNewKd, dKpLk, rDictPTf, dRaise1, dRaise0, excD, dTry, wTry, Ev.rIsE, Ev.rIsEt, D.xcN, dFldE, dCallVX, WP, exS_tab, dTakeN, dIxN, dKpNew, dKpPut, dKpIns, dKpApp, dKpFz, dRoK, dRoL, dNewK1, dIns, roK, dZipM, dNGet, dNPut, dNewN, isNo, Ev.nGet, Ev.nPut, D.nkey, b2n, rAddB, rSubB, rStrB, rEqE, dSrtSet, dOrX, truD, rDictX, dTupN, dSlN, rAddN, rSrtN, rTupleN, rDictN, dSlX, dRevX, dLenSetN, dEmptyV, rLtX, rMulX, Ev.rReprX, dPenS, gStarDL, dAug, dIndexE, dZipS, dGcIn, dGbIx, dGdIn, dGdIx, dListRg, rDictPf, dZipL, dListKo, dEmptyT, dDispT1, dNeE, rListA, rDictPT, rIsTF, dGroup, rSrtA, rLenA, dInV, dIxV, dCount, dSortKo, dCallR, adD, gL, dDN, dLN, wNest, bNest, bEl, bEd, dZip, seqOf, dSortDK, dCallV, dCallLam, optQ, dEnum, D.nf, D.nfs, Ev.rSumD, dLock, dKeysI, gStarD, dReverse, dMove, dDGet2, getD2, D.isD, dDisp, dPairs, keysD, Ev.rMaxD, Ev.rMinD, rDictP, Option.getD_some, Option.getD_none, Ev.D.eq_refl, dPen1, dLenSet, dSrtR, dRo, dRoF, dRoT, roD, ro_un, ro_dat, ro_own, ro_hp, ro_law, ro_ownK, ro_ownT, List.forall_mem_map, flat_int, flat_str, flat_bl, flat_non, solid_int, solid_str, solid_bl, solid_non, solid_tup, solids_nil, solids_cons, dSeq, dNext, dSet, dSetF, setSl, dVar, dTake, dC, dBin, dBinF, dB, dIfS, dIf, dRet, dRetN, dExpr, dNil, dCons, dTup, dLst, dFz, dAnd, dOr, dNot, dAndV, dOrV, dNotV, dCallD, dCallK, dCB, dCBF, dFor, dLC, dYes, dRng1, dRng2, dSeqI, gN, gT, gsNil, gsCons, dAsg, dNeg, dJoin, dFs, dJs, dFmt, dApp, dExt, dPop, dPopAt, dOwnIx, dOwnCB, dOwnL, dOwnR, dOwnSl, dSetIx, dSlT, dSlL, oNone, oSome, dBorn, optQ, ownAt, setOwnAt, lookAt, wipeD, dNewDT, dNewDK, dDGet, dDIn, dDPut, dSortT, rSrt, isDict, Ev.dictGet, Ev.dictPut, Option.isSome_none, Option.isSome_some, D.keyT, keysOf, D.key, exists_eq_left', exists_eq_left, Option.isSome, rRepL, rCatL, dRetF, dIfF, dPar, dRetOwn, dCallL, dCallLK, dPen2, dRev, dRevI, dIndex, endsL, startL, dNever, dBrk, dCnt, rAddD, rSubI, rIO, rMulI, rDivI, rModI, rPowI, rCI, Ev.rIxD, rIsN, rNotN, D.isN, Ev.rLen, rTuple, rList, rAbs, rInt, rStr, Ev.rRepr, Ev.rIsi, D.ty, kit_tab, startD, endsD, List.map_cons, List.map_nil, List.length_cons, List.length_nil, List.append_nil, List.nil_append, List.cons_append, List.getElem?_cons_zero, List.getElem?_cons_succ, List.getElem?_nil, List.set_cons_zero, List.set_cons_succ, List.replicate, List.replicate_succ, Nat.zero_add, Nat.zero_le, sizeLine, true_and, and_true, if_true, Ev.eq_int, Ev.eq_str, Ev.eq_bl, Ev.eq_non, lst_nil, tup_nil, List.map_eq_nil_iff, txt_join, rLt, rLe, rGt, rGe, atI_ofNat, atI_last, wLC, strsOf, intsOf, blsOf, Option.map_some, Ev.join_two, Ev.join_one, Ev.join_nil, List.sum_cons, List.sum_nil, PySem.Str.empty_append, ixN_ofNat, Option.some.injEq, exists_eq', List.length_map, decide_true, decide_false, Bool.not_true, Bool.not_false, Bool.true_eq_false, Bool.false_eq_true, false_and, and_false, if_false, ite_true, ite_false, Nat.reduceAdd, Nat.reduceSub, Nat.reduceMul, Nat.reduceLT, Nat.reduceLeDiff, Nat.reduceEqDiff, Nat.reducePow, Int.reduceToNat, Int.reducePow, pickL, List.filterMap_cons, List.filterMap_nil, and_self, Int.reduceLT, Int.reduceLE, Int.reduceNeg, Int.reduceAdd, Int.reduceMul, Int.reduceSub, Int.reduceEq, reduceIte, reduceCtorEq, lit_eq, String.reduceEq, Ev.rEq, Ev.rNe, Ev.rInD, cut_toN, cut_fromN, List.map_take, List.forall_mem_cons, List.forall_mem_nil, List.not_mem_nil, false_imp_iff, implies_true, forall_const, D.cm, D.lay, D.lays, D.dep, D.deps, strOk_lit, lays_ints, deps_ints, Nat.max_self, Nat.max_zero, Nat.zero_max, Bool.and_self, Bool.true_and, Bool.and_true, Bool.and_false, Bool.false_and, Bool.or_false, Bool.or_true, Bool.true_or, Bool.false_or, List.any_cons, List.any_nil, decide_eq_true_eq, eq_self, $as,*] $[$l]?)
  | `(tactic| simp only [DSIMP] $[$l:location]?) => `(tactic| simp only [rNeE, rEL, List.isEmpty_nil, List.isEmpty_cons, gIx, rIsA, rIsS, kitS, kitS.optQB, D.cls, dHGet, dHPut, dBornK, penK_cells, penK_at, penK_left, penK_pat, penK_pleft, penK_len, ex_hpK, dOwnGet2, ownKs, dKpL, dNewKd, dKpLk, rDictPTf, dRaise1, dRaise0, excD, dTry, wTry, Ev.rIsE, Ev.rIsEt, D.xcN, dFldE, dCallVX, WP, exS_tab, dTakeN, dIxN, dKpNew, dKpPut, dKpIns, dKpApp, dKpFz, dRoK, dRoL, dNewK1, dIns, roK, dZipM, dNGet, dNPut, dNewN, isNo, Ev.nGet, Ev.nPut, D.nkey, b2n, rAddB, rSubB, rStrB, rEqE, dSrtSet, dOrX, truD, rDictX, dTupN, dSlN, rAddN, rSrtN, rTupleN, rDictN, dSlX, dRevX, dLenSetN, dEmptyV, rLtX, rMulX, Ev.rReprX, dPenS, gStarDL, dAug, dIndexE, dZipS, dGcIn, dGbIx, dGdIn, dGdIx, dListRg, rDictPf, dZipL, dListKo, dEmptyT, dDispT1, dNeE, rListA, rDictPT, rIsTF, dGroup, rSrtA, rLenA, dInV, dIxV, dCount, dSortKo, dCallR, adD, gL, dDN, dLN, wNest, bNest, bEl, bEd, dZip, seqOf, dSortDK, dCallV, dCallLam, optQ, dEnum, D.nf, D.nfs, Ev.rSumD, dLock, dKeysI, gStarD, dReverse, dMove, dDGet2, getD2, D.isD, dDisp, dPairs, keysD, Ev.rMaxD, Ev.rMinD, rDictP, Option.getD_some, Option.getD_none, Ev.D.eq_refl, dPen1, dLenSet, dSrtR, dRo, dRoF, dRoT, roD, ro_un, ro_dat, ro_own, ro_hp, ro_law, ro_ownK, ro_ownT, List.forall_mem_map, flat_int, flat_str, flat_bl, flat_non, solid_int, solid_str, solid_bl, solid_non, solid_tup, solids_nil, solids_cons, dSeq, dNext, dSet, dSetF, setSl, dVar, dTake, dC, dBin, dBinF, dB, dIfS, dIf, dRet, dRetN, dExpr, dNil, dCons, dTup, dLst, dFz, dAnd, dOr, dNot, dAndV, dOrV, dNotV, dCallD, dCallK, dCB, dCBF, dFor, dLC, dYes, dRng1, dRng2, dSeqI, gN, gT, gsNil, gsCons, dAsg, dNeg, dJoin, dFs, dJs, dFmt, dApp, dExt, dPop, dPopAt, dOwnIx, dOwnCB, dOwnL, dOwnR, dOwnSl, dSetIx, dSlT, dSlL, oNone, oSome, dBorn, optQ, ownAt, setOwnAt, lookAt, wipeD, dNewDT, dNewDK, dDGet, dDIn, dDPut, dSortT, rSrt, isDict, Ev.dictGet, Ev.dictPut, Option.isSome_none, Option.isSome_some, D.keyT, keysOf, D.key, exists_eq_left', exists_eq_left, Option.isSome, rRepL, rCatL, dRetF, dIfF, dPar, dRetOwn, dCallL, dCallLK, dPen2, dRev, dRevI, dIndex, endsL, startL, dNever, dBrk, dCnt, rAddD, rSubI, rIO, rMulI, rDivI, rModI, rPowI, rCI, Ev.rIxD, rIsN, rNotN, D.isN, Ev.rLen, rTuple, rList, rAbs, rInt, rStr, Ev.rRepr, Ev.rIsi, D.ty, kit_tab, startD, endsD, List.map_cons, List.map_nil, List.length_cons, List.length_nil, List.append_nil, List.nil_append, List.cons_append, List.getElem?_cons_zero, List.getElem?_cons_succ, List.getElem?_nil, List.set_cons_zero, List.set_cons_succ, List.replicate, List.replicate_succ, Nat.zero_add, Nat.zero_le, sizeLine, true_and, and_true, if_true, Ev.eq_int, Ev.eq_str, Ev.eq_bl, Ev.eq_non, lst_nil, tup_nil, List.map_eq_nil_iff, txt_join, rLt, rLe, rGt, rGe, atI_ofNat, atI_last, wLC, strsOf, intsOf, blsOf, Option.map_some, Ev.join_two, Ev.join_one, Ev.join_nil, List.sum_cons, List.sum_nil, PySem.Str.empty_append, ixN_ofNat, Option.some.injEq, exists_eq', List.length_map, decide_true, decide_false, Bool.not_true, Bool.not_false, Bool.true_eq_false, Bool.false_eq_true, false_and, and_false, if_false, ite_true, ite_false, Nat.reduceAdd, Nat.reduceSub, Nat.reduceMul, Nat.reduceLT, Nat.reduceLeDiff, Nat.reduceEqDiff, Nat.reducePow, Int.reduceToNat, Int.reducePow, pickL, List.filterMap_cons, List.filterMap_nil, and_self, Int.reduceLT, Int.reduceLE, Int.reduceNeg, Int.reduceAdd, Int.reduceMul, Int.reduceSub, Int.reduceEq, reduceIte, reduceCtorEq, lit_eq, String.reduceEq, Ev.rEq, Ev.rNe, Ev.rInD, cut_toN, cut_fromN, List.map_take, List.forall_mem_cons, List.forall_mem_nil, List.not_mem_nil, false_imp_iff, implies_true, forall_const, D.cm, D.lay, D.lays, D.dep, D.deps, strOk_lit, lays_ints, deps_ints, Nat.max_self, Nat.max_zero, Nat.zero_max, Bool.and_self, Bool.true_and, Bool.and_true, Bool.and_false, Bool.false_and, Bool.or_false, Bool.or_true, Bool.true_or, Bool.false_or, List.any_cons, List.any_nil, decide_eq_true_eq, eq_self] $[$l]?)
variable [TabC] [PkD]
def tx (d : D) : List Nat := d.repR.cps.toList
theorem tx_int (i : Int) : tx (.int i) = (toString i).toList.map Char.toNat := by
  show (Str.ofString (toString i)).cps.toList = _
  rw [Str.ofString_eq_toList]
theorem nat_digits (n : Nat) : ∀ c ∈ n.repr.toList, 48 ≤ c.toNat ∧ c.toNat ≤ 57 := fun c hc => by
  rw [Nat.repr_eq_ofList_toDigits, String.toList_ofList] at hc
  have := Nat.isDigit_of_mem_toDigits (by decide) (by decide) hc
  unfold Char.isDigit at this
  rw [Bool.and_eq_true, decide_eq_true_eq, decide_eq_true_eq] at this
  exact ⟨this.1, this.2⟩
theorem int_str (i : Int) : toString i = i.repr := rfl
theorem int_chars (i : Int) : ∀ c ∈ tx (.int i), c = 45 ∨ (48 ≤ c ∧ c ≤ 57) := fun c hc => by
  rw [tx_int, int_str, Int.repr_eq_if] at hc
  obtain ⟨z, hz, rfl⟩ := List.mem_map.mp hc
  split at hz
  · exact .inr (nat_digits _ z hz)
  · rw [String.toList_append] at hz
    rcases List.mem_append.mp hz with h | h
    · have : z = '-' := by simpa using h
      subst this
      exact .inl rfl
    · exact .inr (nat_digits _ z h)
theorem tx_zero {i : Int} (h : tx (.int i) = [48]) : i = 0 := by
  have h0 : tx (.int 0) = [48] := by rw [tx_int]; rfl
  rw [← h0, tx_int, tx_int] at h
  have mi : ∀ (a b : List Char), a.map Char.toNat = b.map Char.toNat → a = b := fun a => by
    induction a with
    | nil => intro b e; cases b with | nil => rfl | cons _ _ => cases e
    | cons x a ih =>
      intro b e
      cases b with
      | nil => cases e
      | cons y b =>
        rw [List.map_cons, List.map_cons] at e
        injection e with e1 e2
        rw [Char.toNat_inj.mp e1, ih b e2]
  have : (toString i).toList = (toString (0 : Int)).toList := mi _ _ h
  exact Int.repr_injective (String.toList_injective this)
theorem int_ne (i : Int) : tx (.int i) ≠ [] := fun h => by
  rw [tx_int, int_str, Int.repr_eq_if] at h
  have h := List.map_eq_nil_iff.mp h
  split at h
  · exact Nat.repr_ne_empty (String.toList_eq_nil_iff.mp h)
  · rw [String.toList_append] at h
    exact absurd (List.append_eq_nil_iff.mp h).1 (by decide)
theorem fold_head {q : Nat} {f : Nat → List Nat} : ∀ (l : List Nat) (acc : Array Nat), acc.toList.head? = some q → (l.foldl (fun out c => out ++ (f c).toArray) acc).toList.head? = some q
  | [], acc, h => h
  | c :: l, acc, h => fold_head l _ (by
    rw [Array.toList_append]
    cases e : acc.toList with
    | nil => rw [e] at h; cases h
    | cons a t => rw [e] at h; exact h)
theorem str_head (x : Str) : (tx (.str x)).head? = some 39 ∨ (tx (.str x)).head? = some 34 := by
  have h : (tx (.str x)).head? = some (reprQuote x) := by
    show (reprText x).cps.toList.head? = _
    unfold reprText
    rw [Array.toList_push]
    have := fold_head (q := reprQuote x) (f := fun c => Builtin.Str.reprChar (reprQuote x) c) x.cps.toList #[reprQuote x] rfl
    rw [Array.foldl_toList] at this
    cases e : (x.cps.foldl (fun out c => out ++ (Builtin.Str.reprChar (reprQuote x) c).toArray) #[reprQuote x]).toList with
    | nil => rw [e] at this; cases this
    | cons a t => rw [e] at this; exact this
  rw [h]
  unfold reprQuote
  split
  · exact .inr rfl
  · exact .inl rfl
theorem tup_head (xs : List D) : (tx (.tup xs)).head? = some 40 := by
  show (tupleText (PyData.shownAll (D.pyRs xs))).cps.toList.head? = _
  unfold tupleText
  rw [Str.cps_append, Str.cps_append, Array.toList_append, Array.toList_append]
  rfl
theorem from_head {q : Nat} : ∀ (ts : List Str) (k : Nat) (acc : Str), acc.cps.toList.head? = some q → (textFrom k acc ts).cps.toList.head? = some q
  | [], _, _, h => h
  | t :: ts, k, acc, h => from_head ts (k + 1) _ (by
    rw [Str.cps_append, Str.cps_append, Array.toList_append, Array.toList_append]
    cases e : acc.cps.toList with
    | nil => rw [e] at h; cases h
    | cons a r => rw [e] at h; exact h)
theorem lst_head (xs : List D) : (tx (.lst xs)).head? = some 91 := by
  show (listText (PyData.shownAll (D.pyRs xs))).cps.toList.head? = _
  unfold listText
  have h := from_head (q := 91) (PyData.shownAll (D.pyRs xs)) 0 "[" rfl
  rw [Str.cps_append, Array.toList_append]
  cases e : (textFrom 0 "[" (PyData.shownAll (D.pyRs xs))).cps.toList with
  | nil => rw [e] at h; cases h
  | cons a r => rw [e] at h; exact h
/-- a text that begins as 0 does, and goes on with what is no digit -/
theorem zero_of {d : D} {N : Nat} {sep : Nat} {R R' : List Nat} (ok : okN N d = true) (hs : sep < 45) (h : tx d ++ sep :: R = 48 :: sep :: R') : d = .int 0 ∧ R = R' := by
  have hd : ∀ c, (tx d).head? = some c → c = 48 := fun c hc => by
    cases e : tx d with
    | nil => rw [e] at hc; cases hc
    | cons a t => rw [e] at hc h; injection h with h1 _; injection hc with h2; rw [← h2, h1]
  cases d with
  | non => exact absurd (hd 78 rfl) (by decide)
  | bl b => cases b with
    | true => exact absurd (hd 84 rfl) (by decide)
    | false => exact absurd (hd 70 rfl) (by decide)
  | str x => rcases str_head x with e | e <;> exact absurd (hd _ e) (by decide)
  | tup xs => exact absurd (hd 40 (tup_head xs)) (by decide)
  | lst xs =>
    refine absurd (hd 91 ?_) (by decide)
    exact lst_head xs
  | dT es => exact absurd (hd 123 rfl) (by decide)
  | int i =>
    have cs := int_chars i
    have ne := int_ne i
    cases e : tx (.int i) with
    | nil => exact absurd e ne
    | cons a t =>
      rw [e] at h cs
      injection h with h1 h2
      cases t with
      | nil =>
        injection h2 with _ h4
        exact ⟨by rw [tx_zero (i := i) (by rw [e, h1])], h4⟩
      | cons b t =>
        injection h2 with h3 _
        have := cs b (by simp)
        omega
  | _ => cases ok
theorem hd_of {d : D} {c : Nat} {R Y : List Nat} (hne : tx d ≠ []) (h : tx d ++ R = c :: Y) : (tx d).head? = some c := by
  cases e : tx d with
  | nil => exact absurd e hne
  | cons a t => rw [e] at h; injection h with h1 _; rw [h1]; rfl
theorem ne_of_head {d : D} {c : Nat} (h : (tx d).head? = some c) : tx d ≠ [] := fun e => by rw [e] at h; cases h
theorem int_hd {i : Int} {c : Nat} (h : (tx (.int i)).head? = some c) : c = 45 ∨ (48 ≤ c ∧ c ≤ 57) := int_chars i c (List.mem_of_mem_head? h)
theorem non_of {d : D} {N : Nat} {R Y : List Nat} (ok : okN N d = true) (h : tx d ++ R = 78 :: Y) : d = .non := by
  cases d with
  | non => rfl
  | bl b => cases b with
    | true => exact absurd (hd_of (ne_of_head (c := 84) rfl) h) (by decide)
    | false => exact absurd (hd_of (ne_of_head (c := 70) rfl) h) (by decide)
  | str x =>
    rcases str_head x with e | e
    · have := hd_of (ne_of_head e) h; rw [e] at this; cases this
    · have := hd_of (ne_of_head e) h; rw [e] at this; cases this
  | tup xs => have := hd_of (ne_of_head (tup_head xs)) h; rw [tup_head] at this; cases this
  | lst xs => have := hd_of (ne_of_head (lst_head xs)) h; rw [lst_head] at this; cases this
  | dT es =>
    have e0 : (tx (.dT es)).head? = some 123 := rfl
    have := hd_of (ne_of_head e0) h; rw [e0] at this; cases this
  | int i =>
    have := int_hd (hd_of (int_ne i) h)
    omega
  | _ => cases ok
theorem true_of {b : Bool} {R Y : List Nat} (h : tx (.bl b) ++ R = 84 :: Y) : b = true := by
  cases b with
  | true => rfl
  | false => exact absurd (hd_of (ne_of_head (c := 70) rfl) h) (by decide)
theorem tx2 (a b : D) : tx (.tup [a, b]) = 40 :: (tx a ++ 44 :: 32 :: (tx b ++ [41])) := by
  show (("(" : Str) ++ (a.repR ++ ", " ++ b.repR) ++ (")" : Str)).cps.toList = _
  simp only [Str.cps_append, Array.toList_append]
  show [40] ++ (tx a ++ [44, 32] ++ tx b) ++ [41] = _
  simp
theorem tx5 (a b c d e : D) : tx (.tup [a, b, c, d, e]) = 40 :: (tx a ++ 44 :: 32 :: (tx b ++ 44 :: 32 :: (tx c ++ 44 :: 32 :: (tx d ++ 44 :: 32 :: (tx e ++ [41]))))) := by
  show (("(" : Str) ++ (a.repR ++ ", " ++ (b.repR ++ ", " ++ (c.repR ++ ", " ++ (d.repR ++ ", " ++ e.repR)))) ++ (")" : Str)).cps.toList = _
  simp only [Str.cps_append, Array.toList_append]
  show [40] ++ (tx a ++ [44, 32] ++ (tx b ++ [44, 32] ++ (tx c ++ [44, 32] ++ (tx d ++ [44, 32] ++ tx e)))) ++ [41] = _
  simp
theorem row_says {N : Nat} {a b e : D} {x y : Int} {s : Bool} (oa : okN N a = true) (ob : okN N b = true) (oe : okN N e = true)
    (h : (D.tup [a, b, .tup [.int x, .int y], .bl s, e]).repR = (D.tup [.int 0, .non, .tup [.int 0, .int 0], .bl true, .int 0]).repR) : a = .int 0 ∧ b = .non ∧ x = 0 ∧ y = 0 ∧ s = true ∧ e = .int 0 := by
  have h : tx (D.tup [a, b, .tup [.int x, .int y], .bl s, e]) = tx (D.tup [.int 0, .non, .tup [.int 0, .int 0], .bl true, .int 0]) := congrArg (fun z : Str => z.cps.toList) h
  have t0 : tx (.int 0) = [48] := by rw [tx_int]; rfl
  have tn : tx .non = [78, 111, 110, 101] := rfl
  have tt : tx (.bl true) = [84, 114, 117, 101] := rfl
  rw [tx5, tx5, tx2, tx2, t0, tn, tt] at h
  simp only [List.cons_append, List.nil_append, List.cons.injEq, true_and, List.append_assoc] at h
  obtain ⟨h1, h⟩ := zero_of oa (by decide) h
  simp only [List.cons.injEq, true_and] at h
  have h2 := non_of ob h
  subst h2
  rw [tn] at h
  simp only [List.cons_append, List.nil_append, List.cons.injEq, true_and, List.append_assoc] at h
  obtain ⟨h3, h⟩ := zero_of (d := .int x) (N := x.natAbs) (decide_eq_true (Nat.le_refl x.natAbs)) (by decide) h
  simp only [List.cons.injEq, true_and] at h
  obtain ⟨h4, h⟩ := zero_of (d := .int y) (N := y.natAbs) (decide_eq_true (Nat.le_refl y.natAbs)) (by decide) h
  simp only [List.cons.injEq, true_and] at h
  have h5 := true_of h
  subst h5
  rw [tt] at h
  simp only [List.cons_append, List.nil_append, List.cons.injEq, true_and, List.append_assoc] at h
  obtain ⟨h6, _⟩ := zero_of oe (by decide) h
  exact ⟨h1, rfl, D.int.inj h3, D.int.inj h4, rfl, h6⟩
end Ev07
namespace Ev07
open PySem PySem.Spec PyProof.Rows L2 Ev Pt
local macro_rules
  | `(tactic| simp only [DSIMP, $as,*] $[$l:location]?) => `(tactic| simp only [rNeE, rEL, List.isEmpty_nil, List.isEmpty_cons, gIx, rIsA, rIsS, kitS, kitS.optQB, D.cls, dHGet, dHPut, dBornK, penK_cells, penK_at, penK_left, penK_pat, penK_pleft, penK_len, ex_hpK, dOwnGet2, ownKs, dKpL, dNewKd, dKpLk, rDictPTf, dRaise1, dRaise0, excD, dTry, wTry, Ev.rIsE, Ev.rIsEt, D.xcN, dFldE, dCallVX, WP, exS_tab, dTakeN, dIxN, dKpNew, dKpPut, dKpIns, dKpApp, dKpFz, dRoK, dRoL, dNewK1, dIns, roK, dZipM, dNGet, dNPut, dNewN, isNo, Ev.nGet, Ev.nPut, D.nkey, b2n, rAddB, rSubB, rStrB, rEqE, dSrtSet, dOrX, truD, rDictX, dTupN, dSlN, rAddN, rSrtN, rTupleN, rDictN, dSlX, dRevX, dLenSetN, dEmptyV, rLtX, rMulX, Ev.rReprX, dPenS, gStarDL, dAug, dIndexE, dZipS, dGcIn, dGbIx, dGdIn, dGdIx, dListRg, rDictPf, dZipL, dListKo, dEmptyT, dDispT1, dNeE, rListA, rDictPT, rIsTF, dGroup, rSrtA, rLenA, dInV, dIxV, dCount, dSortKo, dCallR, adD, gL, dDN, dLN, wNest, bNest, bEl, bEd, dZip, seqOf, dSortDK, dCallV, dCallLam, optQ, dEnum, D.nf, D.nfs, Ev.rSumD, dLock, dKeysI, gStarD, dReverse, dMove, dDGet2, getD2, D.isD, dDisp, dPairs, keysD, Ev.rMaxD, Ev.rMinD, rDictP, Option.getD_some, Option.getD_none, Ev.D.eq_refl, dPen1, dLenSet, dSrtR, dRo, dRoF, dRoT, roD, ro_un, ro_dat, ro_own, ro_hp, ro_law, ro_ownK, ro_ownT, List.forall_mem_map, flat_int, flat_str, flat_bl, flat_non, solid_int, solid_str, solid_bl, solid_non, solid_tup, solids_nil, solids_cons, dSeq, dNext, dSet, dSetF, setSl, dVar, dTake, dC, dBin, dBinF, dB, dIfS, dIf, dRet, dRetN, dExpr, dNil, dCons, dTup, dLst, dFz, dAnd, dOr, dNot, dAndV, dOrV, dNotV, dCallD, dCallK, dCB, dCBF, dFor, dLC, dYes, dRng1, dRng2, dSeqI, gN, gT, gsNil, gsCons, dAsg, dNeg, dJoin, dFs, dJs, dFmt, dApp, dExt, dPop, dPopAt, dOwnIx, dOwnCB, dOwnL, dOwnR, dOwnSl, dSetIx, dSlT, dSlL, oNone, oSome, dBorn, optQ, ownAt, setOwnAt, lookAt, wipeD, dNewDT, dNewDK, dDGet, dDIn, dDPut, dSortT, rSrt, isDict, Ev.dictGet, Ev.dictPut, Option.isSome_none, Option.isSome_some, D.keyT, keysOf, D.key, exists_eq_left', exists_eq_left, Option.isSome, rRepL, rCatL, dRetF, dIfF, dPar, dRetOwn, dCallL, dCallLK, dPen2, dRev, dRevI, dIndex, endsL, startL, dNever, dBrk, dCnt, rAddD, rSubI, rIO, rMulI, rDivI, rModI, rPowI, rCI, Ev.rIxD, rIsN, rNotN, D.isN, Ev.rLen, rTuple, rList, rAbs, rInt, rStr, Ev.rRepr, Ev.rIsi, D.ty, kit_tab, startD, endsD, List.map_cons, List.map_nil, List.length_cons, List.length_nil, List.append_nil, List.nil_append, List.cons_append, List.getElem?_cons_zero, List.getElem?_cons_succ, List.getElem?_nil, List.set_cons_zero, List.set_cons_succ, List.replicate, List.replicate_succ, Nat.zero_add, Nat.zero_le, sizeLine, true_and, and_true, if_true, Ev.eq_int, Ev.eq_str, Ev.eq_bl, Ev.eq_non, lst_nil, tup_nil, List.map_eq_nil_iff, txt_join, rLt, rLe, rGt, rGe, atI_ofNat, atI_last, wLC, strsOf, intsOf, blsOf, Option.map_some, Ev.join_two, Ev.join_one, Ev.join_nil, List.sum_cons, List.sum_nil, PySem.Str.empty_append, ixN_ofNat, Option.some.injEq, exists_eq', List.length_map, decide_true, decide_false, Bool.not_true, Bool.not_false, Bool.true_eq_false, Bool.false_eq_true, false_and, and_false, if_false, ite_true, ite_false, Nat.reduceAdd, Nat.reduceSub, Nat.reduceMul, Nat.reduceLT, Nat.reduceLeDiff, Nat.reduceEqDiff, Nat.reducePow, Int.reduceToNat, Int.reducePow, pickL, List.filterMap_cons, List.filterMap_nil, and_self, Int.reduceLT, Int.reduceLE, Int.reduceNeg, Int.reduceAdd, Int.reduceMul, Int.reduceSub, Int.reduceEq, reduceIte, reduceCtorEq, lit_eq, String.reduceEq, Ev.rEq, Ev.rNe, Ev.rInD, cut_toN, cut_fromN, List.map_take, List.forall_mem_cons, List.forall_mem_nil, List.not_mem_nil, false_imp_iff, implies_true, forall_const, D.cm, D.lay, D.lays, D.dep, D.deps, strOk_lit, lays_ints, deps_ints, Nat.max_self, Nat.max_zero, Nat.zero_max, Bool.and_self, Bool.true_and, Bool.and_true, Bool.and_false, Bool.false_and, Bool.or_false, Bool.or_true, Bool.true_or, Bool.false_or, List.any_cons, List.any_nil, decide_eq_true_eq, eq_self, $as,*] $[$l]?)
  | `(tactic| simp only [DSIMP] $[$l:location]?) => `(tactic| simp only [rNeE, rEL, List.isEmpty_nil, List.isEmpty_cons, gIx, rIsA, rIsS, kitS, kitS.optQB, D.cls, dHGet, dHPut, dBornK, penK_cells, penK_at, penK_left, penK_pat, penK_pleft, penK_len, ex_hpK, dOwnGet2, ownKs, dKpL, dNewKd, dKpLk, rDictPTf, dRaise1, dRaise0, excD, dTry, wTry, Ev.rIsE, Ev.rIsEt, D.xcN, dFldE, dCallVX, WP, exS_tab, dTakeN, dIxN, dKpNew, dKpPut, dKpIns, dKpApp, dKpFz, dRoK, dRoL, dNewK1, dIns, roK, dZipM, dNGet, dNPut, dNewN, isNo, Ev.nGet, Ev.nPut, D.nkey, b2n, rAddB, rSubB, rStrB, rEqE, dSrtSet, dOrX, truD, rDictX, dTupN, dSlN, rAddN, rSrtN, rTupleN, rDictN, dSlX, dRevX, dLenSetN, dEmptyV, rLtX, rMulX, Ev.rReprX, dPenS, gStarDL, dAug, dIndexE, dZipS, dGcIn, dGbIx, dGdIn, dGdIx, dListRg, rDictPf, dZipL, dListKo, dEmptyT, dDispT1, dNeE, rListA, rDictPT, rIsTF, dGroup, rSrtA, rLenA, dInV, dIxV, dCount, dSortKo, dCallR, adD, gL, dDN, dLN, wNest, bNest, bEl, bEd, dZip, seqOf, dSortDK, dCallV, dCallLam, optQ, dEnum, D.nf, D.nfs, Ev.rSumD, dLock, dKeysI, gStarD, dReverse, dMove, dDGet2, getD2, D.isD, dDisp, dPairs, keysD, Ev.rMaxD, Ev.rMinD, rDictP, Option.getD_some, Option.getD_none, Ev.D.eq_refl, dPen1, dLenSet, dSrtR, dRo, dRoF, dRoT, roD, ro_un, ro_dat, ro_own, ro_hp, ro_law, ro_ownK, ro_ownT, List.forall_mem_map, flat_int, flat_str, flat_bl, flat_non, solid_int, solid_str, solid_bl, solid_non, solid_tup, solids_nil, solids_cons, dSeq, dNext, dSet, dSetF, setSl, dVar, dTake, dC, dBin, dBinF, dB, dIfS, dIf, dRet, dRetN, dExpr, dNil, dCons, dTup, dLst, dFz, dAnd, dOr, dNot, dAndV, dOrV, dNotV, dCallD, dCallK, dCB, dCBF, dFor, dLC, dYes, dRng1, dRng2, dSeqI, gN, gT, gsNil, gsCons, dAsg, dNeg, dJoin, dFs, dJs, dFmt, dApp, dExt, dPop, dPopAt, dOwnIx, dOwnCB, dOwnL, dOwnR, dOwnSl, dSetIx, dSlT, dSlL, oNone, oSome, dBorn, optQ, ownAt, setOwnAt, lookAt, wipeD, dNewDT, dNewDK, dDGet, dDIn, dDPut, dSortT, rSrt, isDict, Ev.dictGet, Ev.dictPut, Option.isSome_none, Option.isSome_some, D.keyT, keysOf, D.key, exists_eq_left', exists_eq_left, Option.isSome, rRepL, rCatL, dRetF, dIfF, dPar, dRetOwn, dCallL, dCallLK, dPen2, dRev, dRevI, dIndex, endsL, startL, dNever, dBrk, dCnt, rAddD, rSubI, rIO, rMulI, rDivI, rModI, rPowI, rCI, Ev.rIxD, rIsN, rNotN, D.isN, Ev.rLen, rTuple, rList, rAbs, rInt, rStr, Ev.rRepr, Ev.rIsi, D.ty, kit_tab, startD, endsD, List.map_cons, List.map_nil, List.length_cons, List.length_nil, List.append_nil, List.nil_append, List.cons_append, List.getElem?_cons_zero, List.getElem?_cons_succ, List.getElem?_nil, List.set_cons_zero, List.set_cons_succ, List.replicate, List.replicate_succ, Nat.zero_add, Nat.zero_le, sizeLine, true_and, and_true, if_true, Ev.eq_int, Ev.eq_str, Ev.eq_bl, Ev.eq_non, lst_nil, tup_nil, List.map_eq_nil_iff, txt_join, rLt, rLe, rGt, rGe, atI_ofNat, atI_last, wLC, strsOf, intsOf, blsOf, Option.map_some, Ev.join_two, Ev.join_one, Ev.join_nil, List.sum_cons, List.sum_nil, PySem.Str.empty_append, ixN_ofNat, Option.some.injEq, exists_eq', List.length_map, decide_true, decide_false, Bool.not_true, Bool.not_false, Bool.true_eq_false, Bool.false_eq_true, false_and, and_false, if_false, ite_true, ite_false, Nat.reduceAdd, Nat.reduceSub, Nat.reduceMul, Nat.reduceLT, Nat.reduceLeDiff, Nat.reduceEqDiff, Nat.reducePow, Int.reduceToNat, Int.reducePow, pickL, List.filterMap_cons, List.filterMap_nil, and_self, Int.reduceLT, Int.reduceLE, Int.reduceNeg, Int.reduceAdd, Int.reduceMul, Int.reduceSub, Int.reduceEq, reduceIte, reduceCtorEq, lit_eq, String.reduceEq, Ev.rEq, Ev.rNe, Ev.rInD, cut_toN, cut_fromN, List.map_take, List.forall_mem_cons, List.forall_mem_nil, List.not_mem_nil, false_imp_iff, implies_true, forall_const, D.cm, D.lay, D.lays, D.dep, D.deps, strOk_lit, lays_ints, deps_ints, Nat.max_self, Nat.max_zero, Nat.zero_max, Bool.and_self, Bool.true_and, Bool.and_true, Bool.and_false, Bool.false_and, Bool.or_false, Bool.or_true, Bool.true_or, Bool.false_or, List.any_cons, List.any_nil, decide_eq_true_eq, eq_self] $[$l]?)
variable [TabC] [PkD]
def sp__law_is_box : dSp := spLook boxB
abbrev s__law_is_box : Stmt := topS 23
abbrev n__law_is_box : List Str := ["_law_some", "_law_one"]
theorem sc__law_is_box : FnScope n__law_is_box ["_law_some"] (defScope s__law_is_box) := ⟨rfl, rfl, rfl, by decide +kernel, rfl, by decide +kernel, by decide +kernel⟩
def p__law_is_box_0 : dS := (dIfS (dOr (dNot (dB (dCB (rIsi "tuple") (dCons (dVar 0) (dCons (dC (.raw (.ty "tuple"))) dNil))))) (dB (dBin (rNe) (dCB rLen (dCons (dVar 0) dNil)) (dC (.int 4))))) (dRet (dC (.bl false))) dNext)
def p__law_is_box_1 : dS := (dIfS (dB (dBin (rEL true) (dFz (dLC (dSeqI (dSlT (dVar 0) oNone (oSome (dC (.int 2))))) (gN 1) (dNot (dB (dCallD 3 [] sp__law_whole (dCons (dVar 1) (dCons (dC (.int (-40))) (dCons (dC (.int 40)) dNil)))))) (dVar 1) [1])) (dFz (dLst dNil)))) (dRet (dC (.bl false))) dNext)
def p__law_is_box_2 : dS := (dRet (dBin (rEL false) (dFz (dLC (dSeqI (dSlT (dVar 0) (oSome (dC (.int 2))) oNone)) (gN 1) (dNot (dB (dCallD 3 [] sp__law_whole (dCons (dVar 1) (dCons (dC (.int 1)) (dCons (dC (.int 40)) dNil)))))) (dVar 1) [1])) (dFz (dLst dNil))))
def b__law_is_box_2 : dS := p__law_is_box_2
def b__law_is_box_1 : dS := dSeq (p__law_is_box_1) (b__law_is_box_2)
def b__law_is_box_0 : dS := dSeq (p__law_is_box_0) (b__law_is_box_1)
def b__law_is_box : dS := b__law_is_box_0
theorem run__law_is_box {P : Program} {w : World} {K : PySem.W.Frag} {mg : Str → Option Value} {base : Heap} (m_isinstance : mg "isinstance" = none) (m_len : mg "len" = none) (m_tuple : mg "tuple" = none) (K__law_whole_3 : Def P w K mg base 1 "_law_whole" 3 sp__law_whole []) {f : Addr} (cdv : Value) (A : Around) (out : List Env) (s : Shared) (H : Hp) (E : XK) (g : A.guards = some []) (hrA : Room 1 (A.deeper (envOfC "_law_is_box" (defScope s__law_is_box) s.heap.objs.size f cdv))) :
  DSs (cx0 P w K mg base n__law_is_box "_law_is_box" (defScope s__law_is_box) f cdv A out s H E) E00 (defBody s__law_is_box) b__law_is_box := by
 have hgA : (A.deeper (envOfC "_law_is_box" (defScope s__law_is_box) s.heap.objs.size f cdv)).guards = some [] := g
 have hun := hrA.un
 exact (dss_cons (t := p__law_is_box_0) (u := b__law_is_box_1) (ds_if ((dw_or (dt_not (dt_val (de_callB (cd_isi "tuple") (by rfl) m_isinstance (by decide +kernel) (da_cons (de_var (pv 0)) (da_cons (de_ty (n := "tuple") (by rfl) m_tuple (by decide +kernel)) da_nil))))) (dw_or1 (dt_cmp (od_ne (Nat.lt_of_le_of_lt (Nat.add_le_add_left (by decide) _) hun)) (de_callB (cd_len) (by rfl) m_len PySem.boot_len (da_cons (de_var (pv 0)) da_nil)) de_int (nomark _))))).dt (dss_one (ds_ret de_bl)) dss_nil)
  (dss_cons (t := p__law_is_box_1) (u := b__law_is_box_2) (ds_if (dt_cmp (od_neL (Nat.lt_of_le_of_lt (Nat.le_add_right _ _) hun)) (de_fz (df_lc (E2 := E00) (own := [("_law_one", 1)]) rfl sc__law_is_box.nd (di_seq (de_slT (de_var (pv 0)) do_none (do_some de_int))) (blkOk_by (N := n__law_is_box) (sc := (defScope s__law_is_box)) (own := [("_law_one", 1)]) (by decide +kernel)) (by decide) (fun _ _ _ _ _ => (dg_name (pg_name (i := 1) sc__law_is_box.nd rfl (by first | exact .inl rfl | exact .inr rfl)))) (fun _ _ _ _ _ => (dts_one (dt_not (dt_val (de_callD K__law_whole_3 hgA hrA (by rfl) (da_cons (de_var (pv 1)) (da_cons de_neg (da_cons de_int da_nil)))))))) (fun _ _ _ _ _ => (de_var (pv 1))))) (de_fz (df_lst da_nil)) (nomark _)) (dss_one (ds_ret de_bl)) dss_nil)
  (dss_one (t := p__law_is_box_2) (ds_ret (de_cmp (od_eqL (Nat.lt_of_le_of_lt (Nat.le_add_right _ _) hun)) (de_fz (df_lc (E2 := E00) (own := [("_law_one", 1)]) rfl sc__law_is_box.nd (di_seq (de_slT (de_var (pv 0)) (do_some de_int) do_none)) (blkOk_by (N := n__law_is_box) (sc := (defScope s__law_is_box)) (own := [("_law_one", 1)]) (by decide +kernel)) (by decide) (fun _ _ _ _ _ => (dg_name (pg_name (i := 1) sc__law_is_box.nd rfl (by first | exact .inl rfl | exact .inr rfl)))) (fun _ _ _ _ _ => (dts_one (dt_not (dt_val (de_callD K__law_whole_3 hgA hrA (by rfl) (da_cons (de_var (pv 1)) (da_cons de_int (da_cons de_int da_nil)))))))) (fun _ _ _ _ _ => (de_var (pv 1))))) (de_fz (df_lst da_nil)) (nomark _))))))
theorem hsp__law_is_box : ∀ ds p Q W, ds.length = 1 → sp__law_is_box ds p Q W → b__law_is_box W0 (endsD Q) (startD n__law_is_box.length ds p) := by
  rintro _ p Q W - ⟨d, rfl, ok, q⟩
  have no : ∀ xs : List D, xs.length ≠ 4 → Q (.bl false) p → b__law_is_box W0 (endsD Q) (startD n__law_is_box.length [.tup xs] p) := fun xs h q => by
    have h2 : ¬ ((xs.length : Nat) : Int) = 4 := by omega
    simp only [DSIMP, n__law_is_box, b__law_is_box, b__law_is_box_0, p__law_is_box_0, eq_false h2]
    exact q
  cases d with
  | non => simp only [DSIMP, n__law_is_box, b__law_is_box, b__law_is_box_0, p__law_is_box_0]; exact q
  | bl b => simp only [DSIMP, n__law_is_box, b__law_is_box, b__law_is_box_0, p__law_is_box_0]; exact q
  | int i => simp only [DSIMP, n__law_is_box, b__law_is_box, b__law_is_box_0, p__law_is_box_0]; exact q
  | str i => simp only [DSIMP, n__law_is_box, b__law_is_box, b__law_is_box_0, p__law_is_box_0]; exact q
  | lst i => simp only [DSIMP, n__law_is_box, b__law_is_box, b__law_is_box_0, p__law_is_box_0]; exact q
  | dT i => simp only [DSIMP, n__law_is_box, b__law_is_box, b__law_is_box_0, p__law_is_box_0]; exact q
  | tup xs =>
    rcases xs with _ | ⟨x, _ | ⟨y, _ | ⟨w, _ | ⟨h, _ | ⟨u, xs⟩⟩⟩⟩⟩
    · exact no _ (by simp) q
    · exact no _ (by simp) q
    · exact no _ (by simp) q
    · exact no _ (by simp) q
    · obtain ⟨o1, o2, o3, o4⟩ := ok4 ok
      have e4 : ((4 : Nat) : Int) = 4 := rfl
      have q : Q (.bl ((whole (-40) 40 x && whole (-40) 40 y) && (whole 1 40 w && whole 1 40 h))) p := q
      simp only [DSIMP, n__law_is_box, b__law_is_box, b__law_is_box_0, p__law_is_box_0, b__law_is_box_1, p__law_is_box_1, sp__law_whole, List.take_succ_cons, List.take_zero, List.drop_succ_cons, List.drop_zero, e4]
      refine ⟨x, -40, 40, rfl, o1, ?_⟩
      cases hx : whole (-40) 40 x with
      | false =>
        rw [hx] at q
        simp only [DSIMP]
        refine ⟨y, -40, 40, rfl, o2, ?_⟩
        cases hy : whole (-40) 40 y <;> (simp only [DSIMP]; exact q)
      | true =>
        rw [hx] at q
        simp only [DSIMP]
        refine ⟨y, -40, 40, rfl, o2, ?_⟩
        cases hy : whole (-40) 40 y with
        | false =>
          rw [hy] at q
          simp only [DSIMP]
          exact q
        | true =>
          rw [hy] at q
          simp only [DSIMP, b__law_is_box_2, p__law_is_box_2, b__law_is_box_2, sp__law_whole, List.drop_succ_cons, List.drop_zero]
          refine ⟨w, 1, 40, rfl, o3, ?_⟩
          cases hw : whole 1 40 w with
          | false =>
            rw [hw] at q
            simp only [DSIMP]
            refine ⟨h, 1, 40, rfl, o4, ?_⟩
            cases hh : whole 1 40 h <;> (simp only [DSIMP]; exact q)
          | true =>
            rw [hw] at q
            simp only [DSIMP]
            refine ⟨h, 1, 40, rfl, o4, ?_⟩
            cases hh : whole 1 40 h with
            | false => rw [hh] at q; simp only [DSIMP]; exact q
            | true => rw [hh] at q; simp only [DSIMP]; exact q
    · exact no _ (by simp) q
  | _ => cases ok
theorem ok__law_is_box {P : Program} {w : World} {K : PySem.W.Frag} {mg : Str → Option Value} {base : Heap} (m_isinstance : mg "isinstance" = none) (m_len : mg "len" = none) (m_tuple : mg "tuple" = none) (K__law_whole_3 : Def P w K mg base 1 "_law_whole" 3 sp__law_whole []) {f : Addr} {fd : FuncData} (F : Fun K "_law_is_box" "_law_is_box" s__law_is_box f fd) : FnG P w K mg base CX0 2 f fd ["_law_some"] (spD K 1 sp__law_is_box) :=
 fn_d0 F sc__law_is_box rfl (fun cdv A out s H E g r => run__law_is_box m_isinstance m_len m_tuple K__law_whole_3 cdv A out s H E g r) hsp__law_is_box
end Ev07
namespace Ev07
open PySem PySem.Spec PyProof.Rows L2 Ev Pt
local macro_rules
  | `(tactic| simp only [DSIMP, $as,*] $[$l:location]?) => `(tactic| simp only [rNeE, rEL, List.isEmpty_nil, List.isEmpty_cons, gIx, rIsA, rIsS, kitS, kitS.optQB, D.cls, dHGet, dHPut, dBornK, penK_cells, penK_at, penK_left, penK_pat, penK_pleft, penK_len, ex_hpK, dOwnGet2, ownKs, dKpL, dNewKd, dKpLk, rDictPTf, dRaise1, dRaise0, excD, dTry, wTry, Ev.rIsE, Ev.rIsEt, D.xcN, dFldE, dCallVX, WP, exS_tab, dTakeN, dIxN, dKpNew, dKpPut, dKpIns, dKpApp, dKpFz, dRoK, dRoL, dNewK1, dIns, roK, dZipM, dNGet, dNPut, dNewN, isNo, Ev.nGet, Ev.nPut, D.nkey, b2n, rAddB, rSubB, rStrB, rEqE, dSrtSet, dOrX, truD, rDictX, dTupN, dSlN, rAddN, rSrtN, rTupleN, rDictN, dSlX, dRevX, dLenSetN, dEmptyV, rLtX, rMulX, Ev.rReprX, dPenS, gStarDL, dAug, dIndexE, dZipS, dGcIn, dGbIx, dGdIn, dGdIx, dListRg, rDictPf, dZipL, dListKo, dEmptyT, dDispT1, dNeE, rListA, rDictPT, rIsTF, dGroup, rSrtA, rLenA, dInV, dIxV, dCount, dSortKo, dCallR, adD, gL, dDN, dLN, wNest, bNest, bEl, bEd, dZip, seqOf, dSortDK, dCallV, dCallLam, optQ, dEnum, D.nf, D.nfs, Ev.rSumD, dLock, dKeysI, gStarD, dReverse, dMove, dDGet2, getD2, D.isD, dDisp, dPairs, keysD, Ev.rMaxD, Ev.rMinD, rDictP, Option.getD_some, Option.getD_none, Ev.D.eq_refl, dPen1, dLenSet, dSrtR, dRo, dRoF, dRoT, roD, ro_un, ro_dat, ro_own, ro_hp, ro_law, ro_ownK, ro_ownT, List.forall_mem_map, flat_int, flat_str, flat_bl, flat_non, solid_int, solid_str, solid_bl, solid_non, solid_tup, solids_nil, solids_cons, dSeq, dNext, dSet, dSetF, setSl, dVar, dTake, dC, dBin, dBinF, dB, dIfS, dIf, dRet, dRetN, dExpr, dNil, dCons, dTup, dLst, dFz, dAnd, dOr, dNot, dAndV, dOrV, dNotV, dCallD, dCallK, dCB, dCBF, dFor, dLC, dYes, dRng1, dRng2, dSeqI, gN, gT, gsNil, gsCons, dAsg, dNeg, dJoin, dFs, dJs, dFmt, dApp, dExt, dPop, dPopAt, dOwnIx, dOwnCB, dOwnL, dOwnR, dOwnSl, dSetIx, dSlT, dSlL, oNone, oSome, dBorn, optQ, ownAt, setOwnAt, lookAt, wipeD, dNewDT, dNewDK, dDGet, dDIn, dDPut, dSortT, rSrt, isDict, Ev.dictGet, Ev.dictPut, Option.isSome_none, Option.isSome_some, D.keyT, keysOf, D.key, exists_eq_left', exists_eq_left, Option.isSome, rRepL, rCatL, dRetF, dIfF, dPar, dRetOwn, dCallL, dCallLK, dPen2, dRev, dRevI, dIndex, endsL, startL, dNever, dBrk, dCnt, rAddD, rSubI, rIO, rMulI, rDivI, rModI, rPowI, rCI, Ev.rIxD, rIsN, rNotN, D.isN, Ev.rLen, rTuple, rList, rAbs, rInt, rStr, Ev.rRepr, Ev.rIsi, D.ty, kit_tab, startD, endsD, List.map_cons, List.map_nil, List.length_cons, List.length_nil, List.append_nil, List.nil_append, List.cons_append, List.getElem?_cons_zero, List.getElem?_cons_succ, List.getElem?_nil, List.set_cons_zero, List.set_cons_succ, List.replicate, List.replicate_succ, Nat.zero_add, Nat.zero_le, sizeLine, true_and, and_true, if_true, Ev.eq_int, Ev.eq_str, Ev.eq_bl, Ev.eq_non, lst_nil, tup_nil, List.map_eq_nil_iff, txt_join, rLt, rLe, rGt, rGe, atI_ofNat, atI_last, wLC, strsOf, intsOf, blsOf, Option.map_some, Ev.join_two, Ev.join_one, Ev.join_nil, List.sum_cons, List.sum_nil, PySem.Str.empty_append, ixN_ofNat, Option.some.injEq, exists_eq', List.length_map, decide_true, decide_false, Bool.not_true, Bool.not_false, Bool.true_eq_false, Bool.false_eq_true, false_and, and_false, if_false, ite_true, ite_false, Nat.reduceAdd, Nat.reduceSub, Nat.reduceMul, Nat.reduceLT, Nat.reduceLeDiff, Nat.reduceEqDiff, Nat.reducePow, Int.reduceToNat, Int.reducePow, pickL, List.filterMap_cons, List.filterMap_nil, and_self, Int.reduceLT, Int.reduceLE, Int.reduceNeg, Int.reduceAdd, Int.reduceMul, Int.reduceSub, Int.reduceEq, reduceIte, reduceCtorEq, lit_eq, String.reduceEq, Ev.rEq, Ev.rNe, Ev.rInD, cut_toN, cut_fromN, List.map_take, List.forall_mem_cons, List.forall_mem_nil, List.not_mem_nil, false_imp_iff, implies_true, forall_const, D.cm, D.lay, D.lays, D.dep, D.deps, strOk_lit, lays_ints, deps_ints, Nat.max_self, Nat.max_zero, Nat.zero_max, Bool.and_self, Bool.true_and, Bool.and_true, Bool.and_false, Bool.false_and, Bool.or_false, Bool.or_true, Bool.true_or, Bool.false_or, List.any_cons, List.any_nil, decide_eq_true_eq, eq_self, $as,*] $[$l]?)
  | `(tactic| simp only [DSIMP] $[$l:location]?) => `(tactic| simp only [rNeE, rEL, List.isEmpty_nil, List.isEmpty_cons, gIx, rIsA, rIsS, kitS, kitS.optQB, D.cls, dHGet, dHPut, dBornK, penK_cells, penK_at, penK_left, penK_pat, penK_pleft, penK_len, ex_hpK, dOwnGet2, ownKs, dKpL, dNewKd, dKpLk, rDictPTf, dRaise1, dRaise0, excD, dTry, wTry, Ev.rIsE, Ev.rIsEt, D.xcN, dFldE, dCallVX, WP, exS_tab, dTakeN, dIxN, dKpNew, dKpPut, dKpIns, dKpApp, dKpFz, dRoK, dRoL, dNewK1, dIns, roK, dZipM, dNGet, dNPut, dNewN, isNo, Ev.nGet, Ev.nPut, D.nkey, b2n, rAddB, rSubB, rStrB, rEqE, dSrtSet, dOrX, truD, rDictX, dTupN, dSlN, rAddN, rSrtN, rTupleN, rDictN, dSlX, dRevX, dLenSetN, dEmptyV, rLtX, rMulX, Ev.rReprX, dPenS, gStarDL, dAug, dIndexE, dZipS, dGcIn, dGbIx, dGdIn, dGdIx, dListRg, rDictPf, dZipL, dListKo, dEmptyT, dDispT1, dNeE, rListA, rDictPT, rIsTF, dGroup, rSrtA, rLenA, dInV, dIxV, dCount, dSortKo, dCallR, adD, gL, dDN, dLN, wNest, bNest, bEl, bEd, dZip, seqOf, dSortDK, dCallV, dCallLam, optQ, dEnum, D.nf, D.nfs, Ev.rSumD, dLock, dKeysI, gStarD, dReverse, dMove, dDGet2, getD2, D.isD, dDisp, dPairs, keysD, Ev.rMaxD, Ev.rMinD, rDictP, Option.getD_some, Option.getD_none, Ev.D.eq_refl, dPen1, dLenSet, dSrtR, dRo, dRoF, dRoT, roD, ro_un, ro_dat, ro_own, ro_hp, ro_law, ro_ownK, ro_ownT, List.forall_mem_map, flat_int, flat_str, flat_bl, flat_non, solid_int, solid_str, solid_bl, solid_non, solid_tup, solids_nil, solids_cons, dSeq, dNext, dSet, dSetF, setSl, dVar, dTake, dC, dBin, dBinF, dB, dIfS, dIf, dRet, dRetN, dExpr, dNil, dCons, dTup, dLst, dFz, dAnd, dOr, dNot, dAndV, dOrV, dNotV, dCallD, dCallK, dCB, dCBF, dFor, dLC, dYes, dRng1, dRng2, dSeqI, gN, gT, gsNil, gsCons, dAsg, dNeg, dJoin, dFs, dJs, dFmt, dApp, dExt, dPop, dPopAt, dOwnIx, dOwnCB, dOwnL, dOwnR, dOwnSl, dSetIx, dSlT, dSlL, oNone, oSome, dBorn, optQ, ownAt, setOwnAt, lookAt, wipeD, dNewDT, dNewDK, dDGet, dDIn, dDPut, dSortT, rSrt, isDict, Ev.dictGet, Ev.dictPut, Option.isSome_none, Option.isSome_some, D.keyT, keysOf, D.key, exists_eq_left', exists_eq_left, Option.isSome, rRepL, rCatL, dRetF, dIfF, dPar, dRetOwn, dCallL, dCallLK, dPen2, dRev, dRevI, dIndex, endsL, startL, dNever, dBrk, dCnt, rAddD, rSubI, rIO, rMulI, rDivI, rModI, rPowI, rCI, Ev.rIxD, rIsN, rNotN, D.isN, Ev.rLen, rTuple, rList, rAbs, rInt, rStr, Ev.rRepr, Ev.rIsi, D.ty, kit_tab, startD, endsD, List.map_cons, List.map_nil, List.length_cons, List.length_nil, List.append_nil, List.nil_append, List.cons_append, List.getElem?_cons_zero, List.getElem?_cons_succ, List.getElem?_nil, List.set_cons_zero, List.set_cons_succ, List.replicate, List.replicate_succ, Nat.zero_add, Nat.zero_le, sizeLine, true_and, and_true, if_true, Ev.eq_int, Ev.eq_str, Ev.eq_bl, Ev.eq_non, lst_nil, tup_nil, List.map_eq_nil_iff, txt_join, rLt, rLe, rGt, rGe, atI_ofNat, atI_last, wLC, strsOf, intsOf, blsOf, Option.map_some, Ev.join_two, Ev.join_one, Ev.join_nil, List.sum_cons, List.sum_nil, PySem.Str.empty_append, ixN_ofNat, Option.some.injEq, exists_eq', List.length_map, decide_true, decide_false, Bool.not_true, Bool.not_false, Bool.true_eq_false, Bool.false_eq_true, false_and, and_false, if_false, ite_true, ite_false, Nat.reduceAdd, Nat.reduceSub, Nat.reduceMul, Nat.reduceLT, Nat.reduceLeDiff, Nat.reduceEqDiff, Nat.reducePow, Int.reduceToNat, Int.reducePow, pickL, List.filterMap_cons, List.filterMap_nil, and_self, Int.reduceLT, Int.reduceLE, Int.reduceNeg, Int.reduceAdd, Int.reduceMul, Int.reduceSub, Int.reduceEq, reduceIte, reduceCtorEq, lit_eq, String.reduceEq, Ev.rEq, Ev.rNe, Ev.rInD, cut_toN, cut_fromN, List.map_take, List.forall_mem_cons, List.forall_mem_nil, List.not_mem_nil, false_imp_iff, implies_true, forall_const, D.cm, D.lay, D.lays, D.dep, D.deps, strOk_lit, lays_ints, deps_ints, Nat.max_self, Nat.max_zero, Nat.zero_max, Bool.and_self, Bool.true_and, Bool.and_true, Bool.and_false, Bool.false_and, Bool.or_false, Bool.or_true, Bool.true_or, Bool.false_or, List.any_cons, List.any_nil, decide_eq_true_eq, eq_self] $[$l]?)
variable [TabC] [PkD]
def rowC : D → Bool
  | .tup [_, _, c, s, _] => isBl s && boxB c
  | _ => false
theorem rowC_ex {d : D} (h : rowC d = true) : ∃ (a b c : D) (s : Bool) (e : D), d = .tup [a, b, c, .bl s, e] ∧ boxB c = true := by
  unfold rowC at h
  split at h
  · rename_i a b c s e
    rw [Bool.and_eq_true] at h
    cases s with
    | bl z => exact ⟨a, b, c, z, e, rfl, h.2⟩
    | _ => cases h.1
  · cases h
theorem rowB_C {d : D} (h : rowB d = true) : rowC d = true := by
  obtain ⟨n, u, c, s, e, rfl, _, _, _, _, hc, _⟩ := rowB_ex h
  show (isBl (.bl s) && boxB c) = true
  rw [hc]; rfl
theorem isB_ex {N : Nat} {s : D} (ok : okN N s = true) (h : s.isB true = true) : s = .bl true := by
  cases s with
  | bl z => cases z with
    | true => rfl
    | false => cases h
  | raw v => cases ok
  | _ => cases h
theorem screenB_ex {N : Nat} {d : D} (ok : okN N d = true) (h : screenB d = true) : ∃ (x y w hh : Int), d = .tup [.int 0, .non, .tup [.int x, .int y, .int w, .int hh], .bl true, .int 0] ∧ boxB (.tup [.int x, .int y, .int w, .int hh]) = true ∧ x = 0 ∧ y = 0 := by
  unfold screenB at h
  split at h
  · rename_i a b c s e
    obtain ⟨o1, o2, o3, o4, o5⟩ := ok5 ok
    rw [Bool.and_eq_true, Bool.and_eq_true, Bool.and_eq_true, Bool.and_eq_true, Bool.and_eq_true] at h
    obtain ⟨h1, h2, h3, h4, h5, h6⟩ := h
    have hb : b = .non := by
      cases b with
      | non => rfl
      | raw v => cases o2
      | _ => cases h1
    have hs := isB_ex o4 h2
    obtain ⟨i, rfl, i1, i2⟩ := whole_ex h3
    obtain ⟨j, rfl, j1, j2⟩ := whole_ex h4
    obtain ⟨x, y, w, hh, rfl, _⟩ := boxB_ex h5
    have h6 : (decide (x = 0) && decide (y = 0)) = true := h6
    rw [Bool.and_eq_true, decide_eq_true_eq, decide_eq_true_eq] at h6
    have e1 : i = 0 := by omega
    have e2 : j = 0 := by omega
    subst hb hs e1 e2
    exact ⟨x, y, w, hh, rfl, h5, h6⟩
  · cases h
def lawL : List Int → List Int → List D → Bool
  | _, _, [] => true
  | above, met, r :: rs => if rowB r = false then false else
    if (rowNE r).2 ∉ above ∨ (rowNE r).1 ∈ met then false else
    if 5 < (above.take (above.idxOf (rowNE r).2 + 1) ++ [(rowNE r).1]).length then false else lawL (above.take (above.idxOf (rowNE r).2 + 1) ++ [(rowNE r).1]) (met ++ [(rowNE r).1]) rs
theorem lawL_eq : ∀ (rs : List D) (above met : List Int), lawL above met rs = (rs.all rowB && standL above met (rs.map rowNE))
  | [], _, _ => rfl
  | r :: rs, above, met => by
    unfold lawL
    rw [List.all_cons, List.map_cons]
    cases hr : rowB r with
    | false => rfl
    | true =>
      rw [if_neg (by decide), lawL_eq rs]
      show _ = (true && rs.all rowB && (if (rowNE r).2 ∉ above ∨ (rowNE r).1 ∈ met then false else if 5 < (above.take (above.idxOf (rowNE r).2 + 1) ++ [(rowNE r).1]).length then false else standL (above.take (above.idxOf (rowNE r).2 + 1) ++ [(rowNE r).1]) (met ++ [(rowNE r).1]) (rs.map rowNE)))
      rw [Bool.true_and]
      split
      · rw [Bool.and_false]
      · split
        · rw [Bool.and_false]
        · rfl
theorem bookB_law {N : Nat} {x : D} {rs : List D} (ok : okN N x = true) (hl : rs.length ≤ 9) : bookB (.tup (x :: rs)) = (rowC x && (rs.all rowC && (screenB x && lawL [0] [0] rs))) := by
  have e : bookB (.tup (x :: rs)) = (decide (1 ≤ (x :: rs).length ∧ (x :: rs).length ≤ 10) && (screenB x && (rs.all rowB && standL [0] [0] (rs.map rowNE)))) := rfl
  rw [e, decide_eq_true ⟨by simp, by simp only [List.length_cons]; omega⟩, Bool.true_and, lawL_eq]
  cases hs : screenB x with
  | false => simp
  | true =>
    obtain ⟨a, b, w, h, rfl, hb, _⟩ := screenB_ex ok hs
    have hc : rowC (.tup [.int 0, .non, .tup [.int a, .int b, .int w, .int h], .bl true, .int 0]) = true := by
      show (isBl (.bl true) && boxB (.tup [.int a, .int b, .int w, .int h])) = true
      rw [hb]; rfl
    rw [hc]
    cases hr : rs.all rowB with
    | false => simp
    | true =>
      have : rs.all rowC = true := List.all_eq_true.mpr fun r h => rowB_C (List.all_eq_true.mp hr r h)
      rw [this]; rfl
def sp__law_is_book : dSp := fun ds p Q _ => ∃ d : D, ds = [d] ∧ okN great d = true ∧ d.szR ≤ 500000 ∧ d.deR ≤ 60 ∧ Q (.bl (bookB d)) p
abbrev s__law_is_book : Stmt := topS 24
abbrev n__law_is_book : List Str := ["_law_some", "_law_row", "_law_first", "_law_chain", "_law_met"]
theorem sc__law_is_book : FnScope n__law_is_book ["_law_some"] (defScope s__law_is_book) := ⟨rfl, rfl, rfl, by decide +kernel, rfl, by decide +kernel, by decide +kernel⟩
def b__law_is_book_f1 : dS := (dIfS (dOr (dNot (dB (dCB (rIsi "tuple") (dCons (dVar 1) (dCons (dC (.raw (.ty "tuple"))) dNil))))) (dOr (dB (dBin (rNe) (dCB rLen (dCons (dVar 1) dNil)) (dC (.int 5)))) (dOr (dNot (dB (dCB (rIsi "bool") (dCons (dBin rIxD (dVar 1) (dC (.int 3))) (dCons (dC (.raw (.ty "bool"))) dNil))))) (dNot (dB (dCallD 1 [] sp__law_is_box (dCons (dBin rIxD (dVar 1) (dC (.int 2))) dNil))))))) (dRet (dC (.bl false))) dNext)
def p__law_is_book_x2_0 : dS := (dIfS (dOr (dNot (dB (dCallD 3 [] sp__law_whole (dCons (dBin rIxD (dVar 1) (dC (.int 0))) (dCons (dC (.int 1)) (dCons (dC (.int 9)) dNil)))))) (dOr (dNot (dB (dCallD 3 [] sp__law_whole (dCons (dBin rIxD (dVar 1) (dC (.int 1))) (dCons (dC (.int 0)) (dCons (dC (.int 9)) dNil)))))) (dNot (dB (dCallD 3 [] sp__law_whole (dCons (dBin rIxD (dVar 1) (dC (.int 4))) (dCons (dC (.int 1)) (dCons (dC (.int 4)) dNil)))))))) (dRet (dC (.bl false))) dNext)
def p__law_is_book_x2_1 : dS := (dIfS (dOr (dB (dOwnR 4 (rInD false) (dBin rIxD (dVar 1) (dC (.int 0))))) (dB (dBin (rInD true) (dBin rIxD (dVar 1) (dC (.int 1))) (dVar 3)))) (dRet (dC (.bl false))) dNext)
def p__law_is_book_x2_2 : dS := (dApp 4 (dBin rIxD (dVar 1) (dC (.int 0))))
def p__law_is_book_x2_3 : dS := (dSet 3 (dFz (dBinF rCatL (dFz (dSlL (dVar 3) oNone (oSome (dBin rAddD (dIndex 3 (dBin rIxD (dVar 1) (dC (.int 1)))) (dC (.int 1)))))) (dFz (dLst (dCons (dBin rIxD (dVar 1) (dC (.int 0))) dNil))))))
def p__law_is_book_x2_4 : dS := (dIfS (dB (dBin (rGt) (dCB rLen (dCons (dVar 3) dNil)) (dC (.int 5)))) (dRet (dC (.bl false))) dNext)
def b__law_is_book_x2_4 : dS := p__law_is_book_x2_4
def b__law_is_book_x2_3 : dS := dSeq (p__law_is_book_x2_3) (b__law_is_book_x2_4)
def b__law_is_book_x2_2 : dS := dSeq (p__law_is_book_x2_2) (b__law_is_book_x2_3)
def b__law_is_book_x2_1 : dS := dSeq (p__law_is_book_x2_1) (b__law_is_book_x2_2)
def b__law_is_book_x2_0 : dS := dSeq (p__law_is_book_x2_0) (b__law_is_book_x2_1)
def p__law_is_book_0 : dS := (dIfS (dOr (dNot (dB (dCB (rIsi "tuple") (dCons (dVar 0) (dCons (dC (.raw (.ty "tuple"))) dNil))))) (dNot (dB (dChain rLe rLe (dC (.int 1)) (dCB rLen (dCons (dVar 0) dNil)) (dC (.int 10)))))) (dRet (dC (.bl false))) dNext)
def p__law_is_book_1 : dS := (dFor (dSeqI (dVar 0)) (gN 1) b__law_is_book_f1)
def p__law_is_book_2 : dS := (dSet 2 (dBin rIxD (dVar 0) (dC (.int 0))))
def p__law_is_book_3 : dS := (dIfS (dB (dBin (rNe) (dCB rReprX (dCons (dTup (dCons (dBin rIxD (dVar 2) (dC (.int 0))) (dCons (dBin rIxD (dVar 2) (dC (.int 1))) (dCons (dSlT (dBin rIxD (dVar 2) (dC (.int 2))) oNone (oSome (dC (.int 2)))) (dCons (dBin rIxD (dVar 2) (dC (.int 3))) (dCons (dBin rIxD (dVar 2) (dC (.int 4))) dNil)))))) dNil)) (dCB rReprX (dCons (dTup (dCons (dC (.int 0)) (dCons (dC .non) (dCons (dTup (dCons (dC (.int 0)) (dCons (dC (.int 0)) dNil))) (dCons (dC (.bl true)) (dCons (dC (.int 0)) dNil)))))) dNil)))) (dRet (dC (.bl false))) dNext)
def p__law_is_book_4 : dS := (dSet 3 (dFz (dLst (dCons (dC (.int 0)) dNil))))
def p__law_is_book_5 : dS := (dSetF 4 (dLst (dCons (dC (.int 0)) dNil)))
def p__law_is_book_6 : dS := (dFor (dSeqI (dSlT (dVar 0) (oSome (dC (.int 1))) oNone)) (gN 1) b__law_is_book_x2_0)
def p__law_is_book_7 : dS := (dRet (dC (.bl true)))
def b__law_is_book_7 : dS := p__law_is_book_7
def b__law_is_book_6 : dS := dSeq (p__law_is_book_6) (b__law_is_book_7)
def b__law_is_book_5 : dS := dSeq (p__law_is_book_5) (b__law_is_book_6)
def b__law_is_book_4 : dS := dSeq (p__law_is_book_4) (b__law_is_book_5)
def b__law_is_book_3 : dS := dSeq (p__law_is_book_3) (b__law_is_book_4)
def b__law_is_book_2 : dS := dSeq (p__law_is_book_2) (b__law_is_book_3)
def b__law_is_book_1 : dS := dSeq (p__law_is_book_1) (b__law_is_book_2)
def b__law_is_book_0 : dS := dSeq (p__law_is_book_0) (b__law_is_book_1)
def b__law_is_book : dS := b__law_is_book_0
theorem run__law_is_book {P : Program} {w : World} {K : PySem.W.Frag} {mg : Str → Option Value} {base : Heap} (m_bool : mg "bool" = none) (m_isinstance : mg "isinstance" = none) (m_len : mg "len" = none) (m_repr : mg "repr" = none) (m_tuple : mg "tuple" = none) (K__law_is_box_1 : Def P w K mg base 2 "_law_is_box" 1 sp__law_is_box []) (K__law_whole_3 : Def P w K mg base 1 "_law_whole" 3 sp__law_whole []) {f : Addr} (cdv : Value) (A : Around) (out : List Env) (s : Shared) (H : Hp) (E : XK) (g : A.guards = some []) (hrA : Room 2 (A.deeper (envOfC "_law_is_book" (defScope s__law_is_book) s.heap.objs.size f cdv))) :
  DSs (cx0 P w K mg base n__law_is_book "_law_is_book" (defScope s__law_is_book) f cdv A out s H E) E00 (defBody s__law_is_book) b__law_is_book := by
 have hgA : (A.deeper (envOfC "_law_is_book" (defScope s__law_is_book) s.heap.objs.size f cdv)).guards = some [] := g
 have hun := hrA.un
 exact (dss_cons (t := p__law_is_book_0) (u := b__law_is_book_1) (ds_if ((dw_or (dt_not (dt_val (de_callB (cd_isi "tuple") (by rfl) m_isinstance (by decide +kernel) (da_cons (de_var (pv 0)) (da_cons (de_ty (n := "tuple") (by rfl) m_tuple (by decide +kernel)) da_nil))))) (dw_or1 (dt_not (dt_chain (od_le) (od_le) de_int (de_callB (cd_len) (by rfl) m_len PySem.boot_len (da_cons (de_var (pv 0)) da_nil)) de_int))))).dt (dss_one (ds_ret de_bl)) dss_nil)
  (dss_cons (t := p__law_is_book_1) (u := b__law_is_book_2) (ds_for PassesOwn.never rfl (di_seq (de_var (pv 0))) (dg_name (pg_name (i := 1) sc__law_is_book.nd rfl (by first | exact .inl rfl | exact .inr rfl))) (dss_one (ds_if ((dw_or (dt_not (dt_val (de_callB (cd_isi "tuple") (by rfl) m_isinstance (by decide +kernel) (da_cons (de_var (pv 1)) (da_cons (de_ty (n := "tuple") (by rfl) m_tuple (by decide +kernel)) da_nil))))) (dw_or (dt_cmp (od_ne (Nat.lt_of_le_of_lt (Nat.add_le_add_left (by decide) _) hun)) (de_callB (cd_len) (by rfl) m_len PySem.boot_len (da_cons (de_var (pv 1)) da_nil)) de_int (nomark _)) (dw_or (dt_not (dt_val (de_callB (cd_isi "bool") (by rfl) m_isinstance (by decide +kernel) (da_cons (de_ix (de_var (pv 1)) de_int (fun _ _ => rfl)) (da_cons (de_ty (n := "bool") (by rfl) m_bool (by decide +kernel)) da_nil))))) (dw_or1 (dt_not (dt_val (de_callD K__law_is_box_1 hgA hrA (by rfl) (da_cons (de_ix (de_var (pv 1)) de_int (fun _ _ => rfl)) da_nil))))))))).dt (dss_one (ds_ret de_bl)) dss_nil)))
  (dss_cons (t := p__law_is_book_2) (u := b__law_is_book_3) (ds_set (i := 2) sc__law_is_book.nd rfl (by first | exact .inl rfl | exact .inr rfl) (de_ix (de_var (pv 0)) de_int (fun _ _ => rfl)))
  (dss_cons (t := p__law_is_book_3) (u := b__law_is_book_4) (ds_if (dt_cmp (od_ne (Nat.lt_of_le_of_lt (Nat.add_le_add_left (by decide) _) hun)) (de_callB (cd_reprX hgA (Nat.lt_of_le_of_lt (Nat.add_le_add_left (by decide) _) hun)) (by rfl) m_repr Ev.boot_repr (da_cons (de_tup (da_cons (de_ix (de_var (pv 2)) de_int (fun _ _ => rfl)) (da_cons (de_ix (de_var (pv 2)) de_int (fun _ _ => rfl)) (da_cons (de_slT (de_ix (de_var (pv 2)) de_int (fun _ _ => rfl)) do_none (do_some de_int)) (da_cons (de_ix (de_var (pv 2)) de_int (fun _ _ => rfl)) (da_cons (de_ix (de_var (pv 2)) de_int (fun _ _ => rfl)) da_nil)))))) da_nil)) (de_callB (cd_reprX hgA (Nat.lt_of_le_of_lt (Nat.add_le_add_left (by decide) _) hun)) (by rfl) m_repr Ev.boot_repr (da_cons (de_tup (da_cons de_int (da_cons de_non (da_cons (de_tup (da_cons de_int (da_cons de_int da_nil))) (da_cons de_bl (da_cons de_int da_nil)))))) da_nil)) (nomark _)) (dss_one (ds_ret de_bl)) dss_nil)
  (dss_cons (t := p__law_is_book_4) (u := b__law_is_book_5) (ds_set (i := 3) sc__law_is_book.nd rfl (by first | exact .inl rfl | exact .inr rfl) (de_fz (df_lst (da_cons de_int da_nil))))
  (dss_cons (t := p__law_is_book_5) (u := b__law_is_book_6) (ds_setF (i := 4) sc__law_is_book.nd rfl (by first | exact .inl rfl | exact .inr rfl) (df_lst (da_cons de_int da_nil)))
  (dss_cons (t := p__law_is_book_6) (u := b__law_is_book_7) (ds_for PassesOwn.never rfl (di_seq (de_slT (de_var (pv 0)) (do_some de_int) do_none)) (dg_name (pg_name (i := 1) sc__law_is_book.nd rfl (by first | exact .inl rfl | exact .inr rfl))) (dss_cons (t := p__law_is_book_x2_0) (u := b__law_is_book_x2_1) (ds_if ((dw_or (dt_not (dt_val (de_callD K__law_whole_3 hgA hrA (by rfl) (da_cons (de_ix (de_var (pv 1)) de_int (fun _ _ => rfl)) (da_cons de_int (da_cons de_int da_nil)))))) (dw_or (dt_not (dt_val (de_callD K__law_whole_3 hgA hrA (by rfl) (da_cons (de_ix (de_var (pv 1)) de_int (fun _ _ => rfl)) (da_cons de_int (da_cons de_int da_nil)))))) (dw_or1 (dt_not (dt_val (de_callD K__law_whole_3 hgA hrA (by rfl) (da_cons (de_ix (de_var (pv 1)) de_int (fun _ _ => rfl)) (da_cons de_int (da_cons de_int da_nil)))))))))).dt (dss_one (ds_ret de_bl)) dss_nil)
  (dss_cons (t := p__law_is_book_x2_1) (u := b__law_is_book_x2_2) (ds_if ((dw_or (dt_ownR (od_in (Nat.lt_of_le_of_lt (Nat.add_le_add_left (by decide) _) hun)) (de_ix (de_var (pv 1)) de_int (fun _ _ => rfl)) (pv 4) (by with_unfolding_all rfl)) (dw_or1 (dt_cmp (od_notin (Nat.lt_of_le_of_lt (Nat.add_le_add_left (by decide) _) hun)) (de_ix (de_var (pv 1)) de_int (fun _ _ => rfl)) (de_var (pv 3)) (by with_unfolding_all rfl))))).dt (dss_one (ds_ret de_bl)) dss_nil)
  (dss_cons (t := p__law_is_book_x2_2) (u := b__law_is_book_x2_3) (ds_app (pv 4) (de_ix (de_var (pv 1)) de_int (fun _ _ => rfl)))
  (dss_cons (t := p__law_is_book_x2_3) (u := b__law_is_book_x2_4) (ds_set (i := 3) sc__law_is_book.nd rfl (by first | exact .inl rfl | exact .inr rfl) (de_fz (df_op od_catL (de_fz (df_slL (de_var (pv 3)) do_none (do_some (de_op od_add (de_index (Nat.lt_of_le_of_lt (Nat.add_le_add_left (by decide) _) hun) (pv 3) (de_ix (de_var (pv 1)) de_int (fun _ _ => rfl))) de_int)))) (de_fz (df_lst (da_cons (de_ix (de_var (pv 1)) de_int (fun _ _ => rfl)) da_nil))))))
  (dss_one (t := p__law_is_book_x2_4) (ds_if (dt_cmp (od_gt) (de_callB (cd_len) (by rfl) m_len PySem.boot_len (da_cons (de_var (pv 3)) da_nil)) de_int (nomark _)) (dss_one (ds_ret de_bl)) dss_nil)))))))
  (dss_one (t := p__law_is_book_7) (ds_ret de_bl)))))))))
theorem boxes_loop {N : dEnds} {s0 s2 s3 s4 : Sl} {p : Pen} {Q : D → Pen → Prop} (hr : N.rt = fun x δ => Q x δ.pen) : ∀ (rs : List D) (s1 : Sl), (∀ r ∈ rs, okN great r = true) → (rs.all rowC = false → Q (.bl false) p) → (rs.all rowC = true → ∀ s1, N.nx ⟨[s0, s1, s2, s3, s4], p⟩) →
    wFor (gN 1) b__law_is_book_f1 W0 N rs ⟨[s0, s1, s2, s3, s4], p⟩
  | [], s1, _, _, h2 => h2 rfl s1
  | r :: rs, s1, ok, h1, h2 => by
    have okr := ok r List.mem_cons_self
    refine wFor_cons fun k ek => ?_
    have bad : rowC r = false → Q (.bl false) p := fun h => h1 (by rw [List.all_cons, h]; rfl)
    have no : ∀ xs : List D, r = .tup xs → xs.length ≠ 5 → gN 1 r ⟨[s0, s1, s2, s3, s4], p⟩ fun δ1 => b__law_is_book_f1 W0 { N with nx := k, ct := k, bk := N.nx } δ1 := fun xs e h => by
      subst e
      have h2 : ¬ ((xs.length : Nat) : Int) = 5 := by omega
      have hc : rowC (.tup xs) = false := by
        unfold rowC
        split
        · rename_i z; cases z; exact absurd rfl h
        · rfl
      simp only [DSIMP, b__law_is_book_f1, eq_false h2, hr]
      exact bad hc
    cases r with
    | non => simp only [DSIMP, b__law_is_book_f1, hr]; exact bad rfl
    | bl b => simp only [DSIMP, b__law_is_book_f1, hr]; exact bad rfl
    | int i => simp only [DSIMP, b__law_is_book_f1, hr]; exact bad rfl
    | str i => simp only [DSIMP, b__law_is_book_f1, hr]; exact bad rfl
    | lst i => simp only [DSIMP, b__law_is_book_f1, hr]; exact bad rfl
    | dT i => simp only [DSIMP, b__law_is_book_f1, hr]; exact bad rfl
    | tup xs =>
      rcases xs with _ | ⟨a, _ | ⟨b, _ | ⟨c, _ | ⟨s, _ | ⟨e, _ | ⟨u, xs⟩⟩⟩⟩⟩⟩
      · exact no _ rfl (by simp)
      · exact no _ rfl (by simp)
      · exact no _ rfl (by simp)
      · exact no _ rfl (by simp)
      · exact no _ rfl (by simp)
      · obtain ⟨o1, o2, o3, o4, o5⟩ := ok5 okr
        have e5 : ((5 : Nat) : Int) = 5 := rfl
        cases s with
        | bl z =>
          simp only [DSIMP, b__law_is_book_f1, hr, e5, sp__law_is_box]
          refine ⟨c, rfl, o3, ?_⟩
          cases hc : boxB c with
          | false => exact bad (by show (isBl (.bl z) && boxB c) = false; rw [hc]; rfl)
          | true =>
            have hC : rowC (.tup [a, b, c, .bl z, e]) = true := by show (isBl (.bl z) && boxB c) = true; rw [hc]; rfl
            rw [List.all_cons, hC, Bool.true_and] at h1 h2
            simp only [DSIMP]
            rw [ek]
            exact boxes_loop hr rs _ (fun r h => ok r (List.mem_cons_of_mem _ h)) h1 h2
        | non => simp only [DSIMP, b__law_is_book_f1, hr, e5]; exact bad rfl
        | int i => simp only [DSIMP, b__law_is_book_f1, hr, e5]; exact bad rfl
        | str i => simp only [DSIMP, b__law_is_book_f1, hr, e5]; exact bad rfl
        | lst i => simp only [DSIMP, b__law_is_book_f1, hr, e5]; exact bad rfl
        | dT i => simp only [DSIMP, b__law_is_book_f1, hr, e5]; exact bad rfl
        | tup i => simp only [DSIMP, b__law_is_book_f1, hr, e5]; exact bad rfl
        | _ => cases o4
      · exact no _ rfl (by simp)
    | _ => cases okr
theorem law_loop {N : dEnds} {s0 s2 : Sl} {p : Pen} {Q : D → Pen → Prop} (hn : ∀ δ : DS, δ.pen = p → Q (.bl true) p → N.nx δ) (hr : N.rt = fun x δ => Q x δ.pen) : ∀ (rs : List D) (above met : List Int) (s1 : Sl), (∀ r ∈ rs, okN great r = true) → rs.all rowC = true → above.length ≤ 5 → met.length + rs.length ≤ 11 → Q (.bl (lawL above met rs)) p →
    wFor (gN 1) b__law_is_book_x2_0 W0 N rs ⟨[s0, s1, s2, .dat (.lst (above.map .int)), .own (met.map .int)], p⟩
  | [], above, met, s1, _, _, _, _, q => hn _ rfl q
  | r :: rs, above, met, s1, ok, al, ha, hm, q => by
    rw [List.all_cons, Bool.and_eq_true] at al
    obtain ⟨hc, al⟩ := al
    have okr := ok r List.mem_cons_self
    obtain ⟨a, b, c, s, e, rfl, hbx⟩ := rowC_ex hc
    obtain ⟨o1, o2, o3, o4, o5⟩ := ok5 okr
    obtain ⟨x, y, w, h, rfl, _⟩ := boxB_ex hbx
    have q : Q (.bl (if (whole 1 9 a && (whole 0 9 b && (boxB (.tup [.int x, .int y, .int w, .int h]) && (isBl (.bl s) && whole 1 4 e)))) = false then false else
      if (rowNE (.tup [a, b, .tup [.int x, .int y, .int w, .int h], .bl s, e])).2 ∉ above ∨ (rowNE (.tup [a, b, .tup [.int x, .int y, .int w, .int h], .bl s, e])).1 ∈ met then false else
      if 5 < (above.take (above.idxOf (rowNE (.tup [a, b, .tup [.int x, .int y, .int w, .int h], .bl s, e])).2 + 1) ++ [(rowNE (.tup [a, b, .tup [.int x, .int y, .int w, .int h], .bl s, e])).1]).length then false else lawL (above.take (above.idxOf (rowNE (.tup [a, b, .tup [.int x, .int y, .int w, .int h], .bl s, e])).2 + 1) ++ [(rowNE (.tup [a, b, .tup [.int x, .int y, .int w, .int h], .bl s, e])).1]) (met ++ [(rowNE (.tup [a, b, .tup [.int x, .int y, .int w, .int h], .bl s, e])).1]) rs)) p := q
    rw [hbx] at q
    refine wFor_cons fun k ek => ?_
    simp only [DSIMP, b__law_is_book_x2_0, p__law_is_book_x2_0, sp__law_whole]
    refine ⟨a, 1, 9, rfl, o1, ?_⟩
    cases wa : whole 1 9 a with
    | false => rw [wa, if_pos (by simp)] at q; simp only [DSIMP, hr]; exact q
    | true =>
      simp only [DSIMP]
      refine ⟨b, 0, 9, rfl, o2, ?_⟩
      cases wb : whole 0 9 b with
      | false => rw [wb, if_pos (by simp)] at q; simp only [DSIMP, hr]; exact q
      | true =>
        simp only [DSIMP]
        refine ⟨e, 1, 4, rfl, o5, ?_⟩
        cases we : whole 1 4 e with
        | false => rw [we, if_pos (by simp)] at q; simp only [DSIMP, hr]; exact q
        | true =>
          rw [wa, wb, we, if_neg (by show ¬ (true && (true && (true && (true && true)))) = false; decide)] at q
          obtain ⟨n, rfl, _⟩ := whole_ex wa
          obtain ⟨u, rfl, _⟩ := whole_ex wb
          have q : Q (.bl (if u ∉ above ∨ n ∈ met then false else if 5 < (above.take (above.idxOf u + 1) ++ [n]).length then false else lawL (above.take (above.idxOf u + 1) ++ [n]) (met ++ [n]) rs)) p := q
          have ly : D.lays (above.map D.int) = true := lays_map fun _ _ => rfl
          have dpp : D.deps (above.map D.int) ≤ 63 := deps_map fun _ _ => Nat.zero_le _
          have lym : D.lays (met.map D.int) = true := lays_map fun _ _ => rfl
          have dpm : D.deps (met.map D.int) ≤ 63 := deps_map fun _ _ => Nat.zero_le _
          have i1 := in_ints above u
          have i2 := in_ints met n
          simp only [List.length_cons] at hm
          by_cases c2 : n ∈ met
          · rw [if_pos (.inr c2)] at q
            rw [decide_eq_true c2] at i2
            simp only [DSIMP, b__law_is_book_x2_1, p__law_is_book_x2_1, i2, ly, dpp, lym, dpm, hr]
            exact q
          · rw [decide_eq_false c2] at i2
            by_cases c1 : u ∈ above
            · rw [if_neg (fun z => z.elim (fun z => z c1) c2)] at q
              rw [decide_eq_true c1] at i1
              have fa := ints_at c1
              have ec : Ev.cutD (above.map D.int) none (some (((above.idxOf u : Nat) : Int) + 1)) = (above.take (above.idxOf u + 1)).map D.int := by
                rw [show ((above.idxOf u : Nat) : Int) + 1 = ((above.idxOf u + 1 : Nat) : Int) from rfl, cut_to, List.map_take]
              have tl : (above.take (above.idxOf u + 1)).length ≤ 5 := Nat.le_trans (List.length_take_le' _ _) ha
              obtain ⟨T, hT⟩ : ∃ T, T = above.take (above.idxOf u + 1) := ⟨_, rfl⟩
              rw [← hT] at ec tl q
              have em : met.map D.int ++ [D.int n] = (met ++ [n]).map D.int := by rw [List.map_append]; rfl
              have ea : T.map D.int ++ [D.int n] = (T ++ [n]).map D.int := by rw [List.map_append]; rfl
              obtain ⟨A, hA⟩ : ∃ A, A = T ++ [n] := ⟨_, rfl⟩
              rw [← hA] at q ea
              simp only [DSIMP, b__law_is_book_x2_1, p__law_is_book_x2_1, b__law_is_book_x2_2, p__law_is_book_x2_2, b__law_is_book_x2_3, p__law_is_book_x2_3, i1, i2, ly, dpp, lym, dpm, fa, ec, em, ea]
              refine ⟨by omega, by omega, ?_⟩
              simp only [DSIMP, b__law_is_book_x2_4, p__law_is_book_x2_4, b__law_is_book_x2_4]
              by_cases c3 : 5 < A.length
              · have c4 : (5 : Int) < ((A.length : Nat) : Int) := by omega
                rw [if_pos c3] at q
                simp only [DSIMP, eq_true c4, hr]
                exact q
              · have c4 : ¬ (5 : Int) < ((A.length : Nat) : Int) := by omega
                rw [if_neg c3] at q
                simp only [DSIMP, eq_false c4]
                rw [ek]
                exact law_loop hn hr rs A (met ++ [n]) _ (fun r hr => ok r (List.mem_cons_of_mem _ hr)) al (by omega) (by simp only [List.length_append, List.length_cons, List.length_nil]; omega) q
            · rw [if_pos (.inl c1)] at q
              rw [decide_eq_false c1] at i1
              simp only [DSIMP, b__law_is_book_x2_1, p__law_is_book_x2_1, i1, i2, ly, dpp, lym, dpm, hr]
              exact q
theorem first_sm {a b e : D} {x y w h : Int} {s : Bool} {n k : Nat} (ok : okN great (.tup [a, b, .tup [.int x, .int y, .int w, .int h], .bl s, e]) = true) (sz : (D.tup [a, b, .tup [.int x, .int y, .int w, .int h], .bl s, e]).szR ≤ n) (de : (D.tup [a, b, .tup [.int x, .int y, .int w, .int h], .bl s, e]).deR ≤ k) (hn : n ≤ 2 ^ 20) (hk : k ≤ 64) :
    (D.tup [a, b, .tup [.int x, .int y], .bl s, e]).smR 64 (2 ^ 20) := by
  obtain ⟨o1, o2, o3, o4, o5⟩ := ok5 ok
  obtain ⟨p1, p2, _, _⟩ := ok4 o3
  have okp : okN great (.tup [a, b, .tup [.int x, .int y], .bl s, e]) = true := by
    show (okN great a && (okN great b && ((okN great (.int x) && (okN great (.int y) && true)) && (okN great (.bl s) && (okN great e && true))))) = true
    rw [o1, o2, o5, p1, p2]; rfl
  have s1 : (D.tup [a, b, .tup [.int x, .int y, .int w, .int h], .bl s, e]).szR = a.szR + 2 + (b.szR + 2 + (((D.int x).szR + 2 + ((D.int y).szR + 2 + ((D.int w).szR + 2 + ((D.int h).szR + 2 + 0)))) + 5 + 2 + ((D.bl s).szR + 2 + (e.szR + 2 + 0)))) + 5 := rfl
  have s2 : (D.tup [a, b, .tup [.int x, .int y], .bl s, e]).szR = a.szR + 2 + (b.szR + 2 + (((D.int x).szR + 2 + ((D.int y).szR + 2 + 0)) + 5 + 2 + ((D.bl s).szR + 2 + (e.szR + 2 + 0)))) + 5 := rfl
  have d1 : (D.tup [a, b, .tup [.int x, .int y, .int w, .int h], .bl s, e]).deR = max a.deR (max b.deR (max (max (D.int x).deR (max (D.int y).deR (max (D.int w).deR (max (D.int h).deR 0))) + 1) (max (D.bl s).deR (max e.deR 0)))) + 1 := rfl
  have d2 : (D.tup [a, b, .tup [.int x, .int y], .bl s, e]).deR = max a.deR (max b.deR (max (max (D.int x).deR (max (D.int y).deR 0) + 1) (max (D.bl s).deR (max e.deR 0)))) + 1 := rfl
  exact ⟨okN_R great_lt _ okp, by omega, by omega⟩
theorem hsp__law_is_book : ∀ ds p Q W, ds.length = 1 → sp__law_is_book ds p Q W → b__law_is_book W0 (endsD Q) (startD n__law_is_book.length ds p) := by
  rintro _ p Q W - ⟨d, rfl, ok, sz, de, q⟩
  cases d with
  | non => simp only [DSIMP, n__law_is_book, b__law_is_book, b__law_is_book_0, p__law_is_book_0]; exact q
  | bl b => simp only [DSIMP, n__law_is_book, b__law_is_book, b__law_is_book_0, p__law_is_book_0]; exact q
  | int i => simp only [DSIMP, n__law_is_book, b__law_is_book, b__law_is_book_0, p__law_is_book_0]; exact q
  | str i => simp only [DSIMP, n__law_is_book, b__law_is_book, b__law_is_book_0, p__law_is_book_0]; exact q
  | lst i => simp only [DSIMP, n__law_is_book, b__law_is_book, b__law_is_book_0, p__law_is_book_0]; exact q
  | dT i => simp only [DSIMP, n__law_is_book, b__law_is_book, b__law_is_book_0, p__law_is_book_0]; exact q
  | tup xs =>
    have oks : ∀ x ∈ xs, okN great x = true := okNs_iff.mp ok
    cases xs with
    | nil =>
      simp only [DSIMP, n__law_is_book, b__law_is_book, b__law_is_book_0, p__law_is_book_0, dChain]
      exact q
    | cons x rs =>
      have l1 : (1 : Int) ≤ ((rs.length + 1 : Nat) : Int) := by omega
      have ox := oks x List.mem_cons_self
      have orr : ∀ r ∈ rs, okN great r = true := fun r h => oks r (List.mem_cons_of_mem _ h)
      by_cases hl : rs.length ≤ 9
      · have l2 : ((rs.length + 1 : Nat) : Int) ≤ 10 := by omega
        rw [bookB_law ox hl] at q
        simp only [DSIMP, n__law_is_book, b__law_is_book, b__law_is_book_0, p__law_is_book_0, b__law_is_book_1, p__law_is_book_1, dChain, eq_true l1, eq_true l2]
        refine boxes_loop (Q := Q) rfl (x :: rs) _ oks (fun h => ?_) fun h s1 => ?_
        · rw [List.all_cons] at h
          rw [← Bool.and_assoc, h] at q
          exact q
        · rw [List.all_cons] at h
          rw [← Bool.and_assoc, h, Bool.true_and] at q
          rw [Bool.and_eq_true] at h
          obtain ⟨a, b, c, s, e, rfl, hbx⟩ := rowC_ex h.1
          obtain ⟨bx, by', w, hh, rfl, _⟩ := boxB_ex hbx
          obtain ⟨o1, o2, o3, o4, o5⟩ := ok5 ox
          have szx : (D.tup [a, b, .tup [.int bx, .int by', .int w, .int hh], .bl s, e]).szR ≤ 500000 := by
            have : (D.tup (D.tup [a, b, .tup [.int bx, .int by', .int w, .int hh], .bl s, e] :: rs)).szR = (D.tup [a, b, .tup [.int bx, .int by', .int w, .int hh], .bl s, e]).szR + 2 + D.szRs rs + 5 := rfl
            omega
          have dex : (D.tup [a, b, .tup [.int bx, .int by', .int w, .int hh], .bl s, e]).deR ≤ 60 := by
            have : (D.tup (D.tup [a, b, .tup [.int bx, .int by', .int w, .int hh], .bl s, e] :: rs)).deR = max (D.tup [a, b, .tup [.int bx, .int by', .int w, .int hh], .bl s, e]).deR (D.deRs rs) + 1 := rfl
            omega
          have sm := first_sm ox szx dex (by decide) (by decide)
          have rp := sm.rep
          have zm : (D.tup [.int 0, .non, .tup [.int 0, .int 0], .bl true, .int 0]).smR 64 (2 ^ 20) := ⟨by decide +kernel, by decide +kernel, by decide +kernel⟩
          have zp := zm.rep
          obtain ⟨Z, hZ⟩ : ∃ Z, Z = D.tup [.int 0, .non, .tup [.int 0, .int 0], .bl true, .int 0] := ⟨_, rfl⟩
          obtain ⟨F, hF⟩ : ∃ F, F = D.tup [a, b, .tup [.int bx, .int by'], .bl s, e] := ⟨_, rfl⟩
          have hsc : screenB (.tup [a, b, .tup [.int bx, .int by', .int w, .int hh], .bl s, e]) = decide (F.repR = Z.repR) := by
            by_cases c : F.repR = Z.repR
            · rw [decide_eq_true c]
              rw [hF, hZ] at c
              obtain ⟨rfl, rfl, rfl, rfl, rfl, rfl⟩ := row_says o1 o2 o5 c
              show (true && (true && (true && (true && (boxB _ && (true && true)))))) = true
              rw [hbx]; rfl
            · rw [decide_eq_false c]
              cases hs : screenB (.tup [a, b, .tup [.int bx, .int by', .int w, .int hh], .bl s, e]) with
              | false => rfl
              | true =>
                obtain ⟨x, y, w2, h2, e1, _, e2, e3⟩ := screenB_ex ox hs
                subst e2 e3
                cases e1
                exact absurd (by rw [hF, hZ]) c
          rw [hsc] at q
          rw [← hF] at sm rp
          rw [← hZ] at zm zp
          simp only [DSIMP, b__law_is_book_2, p__law_is_book_2, b__law_is_book_3, p__law_is_book_3, List.take_succ_cons, List.take_zero]
          rw [← hF, ← hZ]
          simp only [DSIMP, sm, rp, zm, zp]
          cases c : decide (F.repR = Z.repR) with
          | false =>
            rw [c] at q
            simp only [DSIMP]
            exact q
          | true =>
            rw [c, Bool.true_and] at q
            simp only [DSIMP, b__law_is_book_4, p__law_is_book_4, b__law_is_book_5, p__law_is_book_5, b__law_is_book_6, p__law_is_book_6, List.drop_succ_cons, List.drop_zero]
            refine law_loop (Q := Q) (fun δ hp q => ?_) rfl rs [0] [0] _ orr h.2 (by decide) (by simp only [List.length_cons, List.length_nil]; omega) q
            simp only [DSIMP, b__law_is_book_7, p__law_is_book_7, b__law_is_book_7, hp]
            exact q
      · have l2 : ¬ ((rs.length + 1 : Nat) : Int) ≤ 10 := by omega
        have q : Q (.bl (decide (1 ≤ (x :: rs).length ∧ (x :: rs).length ≤ 10) && (screenB x && (rs.all rowB && standL [0] [0] (rs.map rowNE))))) p := q
        simp only [DSIMP, n__law_is_book, b__law_is_book, b__law_is_book_0, p__law_is_book_0, dChain, eq_true l1, eq_false l2]
        rw [decide_eq_false (show ¬ (1 ≤ (x :: rs).length ∧ (x :: rs).length ≤ 10) from fun z => by have := z.2; simp only [List.length_cons] at this; omega)] at q
        exact q
  | _ => cases ok
theorem ok__law_is_book {P : Program} {w : World} {K : PySem.W.Frag} {mg : Str → Option Value} {base : Heap} (m_bool : mg "bool" = none) (m_isinstance : mg "isinstance" = none) (m_len : mg "len" = none) (m_repr : mg "repr" = none) (m_tuple : mg "tuple" = none) (K__law_is_box_1 : Def P w K mg base 2 "_law_is_box" 1 sp__law_is_box []) (K__law_whole_3 : Def P w K mg base 1 "_law_whole" 3 sp__law_whole []) {f : Addr} {fd : FuncData} (F : Fun K "_law_is_book" "_law_is_book" s__law_is_book f fd) : FnG P w K mg base CX0 3 f fd ["_law_some"] (spD K 1 sp__law_is_book) :=
 fn_d0 F sc__law_is_book rfl (fun cdv A out s H E g r => run__law_is_book m_bool m_isinstance m_len m_repr m_tuple K__law_is_box_1 K__law_whole_3 cdv A out s H E g r) hsp__law_is_book
end Ev07
namespace Ev07
open PySem PySem.Spec PyProof.Rows L2 Ev Pt
local macro_rules
  | `(tactic| simp only [DSIMP, $as,*] $[$l:location]?) => `(tactic| simp only [rNeE, rEL, List.isEmpty_nil, List.isEmpty_cons, gIx, rIsA, rIsS, kitS, kitS.optQB, D.cls, dHGet, dHPut, dBornK, penK_cells, penK_at, penK_left, penK_pat, penK_pleft, penK_len, ex_hpK, dOwnGet2, ownKs, dKpL, dNewKd, dKpLk, rDictPTf, dRaise1, dRaise0, excD, dTry, wTry, Ev.rIsE, Ev.rIsEt, D.xcN, dFldE, dCallVX, WP, exS_tab, dTakeN, dIxN, dKpNew, dKpPut, dKpIns, dKpApp, dKpFz, dRoK, dRoL, dNewK1, dIns, roK, dZipM, dNGet, dNPut, dNewN, isNo, Ev.nGet, Ev.nPut, D.nkey, b2n, rAddB, rSubB, rStrB, rEqE, dSrtSet, dOrX, truD, rDictX, dTupN, dSlN, rAddN, rSrtN, rTupleN, rDictN, dSlX, dRevX, dLenSetN, dEmptyV, rLtX, rMulX, Ev.rReprX, dPenS, gStarDL, dAug, dIndexE, dZipS, dGcIn, dGbIx, dGdIn, dGdIx, dListRg, rDictPf, dZipL, dListKo, dEmptyT, dDispT1, dNeE, rListA, rDictPT, rIsTF, dGroup, rSrtA, rLenA, dInV, dIxV, dCount, dSortKo, dCallR, adD, gL, dDN, dLN, wNest, bNest, bEl, bEd, dZip, seqOf, dSortDK, dCallV, dCallLam, optQ, dEnum, D.nf, D.nfs, Ev.rSumD, dLock, dKeysI, gStarD, dReverse, dMove, dDGet2, getD2, D.isD, dDisp, dPairs, keysD, Ev.rMaxD, Ev.rMinD, rDictP, Option.getD_some, Option.getD_none, Ev.D.eq_refl, dPen1, dLenSet, dSrtR, dRo, dRoF, dRoT, roD, ro_un, ro_dat, ro_own, ro_hp, ro_law, ro_ownK, ro_ownT, List.forall_mem_map, flat_int, flat_str, flat_bl, flat_non, solid_int, solid_str, solid_bl, solid_non, solid_tup, solids_nil, solids_cons, dSeq, dNext, dSet, dSetF, setSl, dVar, dTake, dC, dBin, dBinF, dB, dIfS, dIf, dRet, dRetN, dExpr, dNil, dCons, dTup, dLst, dFz, dAnd, dOr, dNot, dAndV, dOrV, dNotV, dCallD, dCallK, dCB, dCBF, dFor, dLC, dYes, dRng1, dRng2, dSeqI, gN, gT, gsNil, gsCons, dAsg, dNeg, dJoin, dFs, dJs, dFmt, dApp, dExt, dPop, dPopAt, dOwnIx, dOwnCB, dOwnL, dOwnR, dOwnSl, dSetIx, dSlT, dSlL, oNone, oSome, dBorn, optQ, ownAt, setOwnAt, lookAt, wipeD, dNewDT, dNewDK, dDGet, dDIn, dDPut, dSortT, rSrt, isDict, Ev.dictGet, Ev.dictPut, Option.isSome_none, Option.isSome_some, D.keyT, keysOf, D.key, exists_eq_left', exists_eq_left, Option.isSome, rRepL, rCatL, dRetF, dIfF, dPar, dRetOwn, dCallL, dCallLK, dPen2, dRev, dRevI, dIndex, endsL, startL, dNever, dBrk, dCnt, rAddD, rSubI, rIO, rMulI, rDivI, rModI, rPowI, rCI, Ev.rIxD, rIsN, rNotN, D.isN, Ev.rLen, rTuple, rList, rAbs, rInt, rStr, Ev.rRepr, Ev.rIsi, D.ty, kit_tab, startD, endsD, List.map_cons, List.map_nil, List.length_cons, List.length_nil, List.append_nil, List.nil_append, List.cons_append, List.getElem?_cons_zero, List.getElem?_cons_succ, List.getElem?_nil, List.set_cons_zero, List.set_cons_succ, List.replicate, List.replicate_succ, Nat.zero_add, Nat.zero_le, sizeLine, true_and, and_true, if_true, Ev.eq_int, Ev.eq_str, Ev.eq_bl, Ev.eq_non, lst_nil, tup_nil, List.map_eq_nil_iff, txt_join, rLt, rLe, rGt, rGe, atI_ofNat, atI_last, wLC, strsOf, intsOf, blsOf, Option.map_some, Ev.join_two, Ev.join_one, Ev.join_nil, List.sum_cons, List.sum_nil, PySem.Str.empty_append, ixN_ofNat, Option.some.injEq, exists_eq', List.length_map, decide_true, decide_false, Bool.not_true, Bool.not_false, Bool.true_eq_false, Bool.false_eq_true, false_and, and_false, if_false, ite_true, ite_false, Nat.reduceAdd, Nat.reduceSub, Nat.reduceMul, Nat.reduceLT, Nat.reduceLeDiff, Nat.reduceEqDiff, Nat.reducePow, Int.reduceToNat, Int.reducePow, pickL, List.filterMap_cons, List.filterMap_nil, and_self, Int.reduceLT, Int.reduceLE, Int.reduceNeg, Int.reduceAdd, Int.reduceMul, Int.reduceSub, Int.reduceEq, reduceIte, reduceCtorEq, lit_eq, String.reduceEq, Ev.rEq, Ev.rNe, Ev.rInD, cut_toN, cut_fromN, List.map_take, List.forall_mem_cons, List.forall_mem_nil, List.not_mem_nil, false_imp_iff, implies_true, forall_const, D.cm, D.lay, D.lays, D.dep, D.deps, strOk_lit, lays_ints, deps_ints, Nat.max_self, Nat.max_zero, Nat.zero_max, Bool.and_self, Bool.true_and, Bool.and_true, Bool.and_false, Bool.false_and, Bool.or_false, Bool.or_true, Bool.true_or, Bool.false_or, List.any_cons, List.any_nil, decide_eq_true_eq, eq_self, $as,*] $[$l]?)
  | `(tactic| simp only [DSIMP] $[$l:location]?) => `(tactic| simp only [rNeE, rEL, List.isEmpty_nil, List.isEmpty_cons, gIx, rIsA, rIsS, kitS, kitS.optQB, D.cls, dHGet, dHPut, dBornK, penK_cells, penK_at, penK_left, penK_pat, penK_pleft, penK_len, ex_hpK, dOwnGet2, ownKs, dKpL, dNewKd, dKpLk, rDictPTf, dRaise1, dRaise0, excD, dTry, wTry, Ev.rIsE, Ev.rIsEt, D.xcN, dFldE, dCallVX, WP, exS_tab, dTakeN, dIxN, dKpNew, dKpPut, dKpIns, dKpApp, dKpFz, dRoK, dRoL, dNewK1, dIns, roK, dZipM, dNGet, dNPut, dNewN, isNo, Ev.nGet, Ev.nPut, D.nkey, b2n, rAddB, rSubB, rStrB, rEqE, dSrtSet, dOrX, truD, rDictX, dTupN, dSlN, rAddN, rSrtN, rTupleN, rDictN, dSlX, dRevX, dLenSetN, dEmptyV, rLtX, rMulX, Ev.rReprX, dPenS, gStarDL, dAug, dIndexE, dZipS, dGcIn, dGbIx, dGdIn, dGdIx, dListRg, rDictPf, dZipL, dListKo, dEmptyT, dDispT1, dNeE, rListA, rDictPT, rIsTF, dGroup, rSrtA, rLenA, dInV, dIxV, dCount, dSortKo, dCallR, adD, gL, dDN, dLN, wNest, bNest, bEl, bEd, dZip, seqOf, dSortDK, dCallV, dCallLam, optQ, dEnum, D.nf, D.nfs, Ev.rSumD, dLock, dKeysI, gStarD, dReverse, dMove, dDGet2, getD2, D.isD, dDisp, dPairs, keysD, Ev.rMaxD, Ev.rMinD, rDictP, Option.getD_some, Option.getD_none, Ev.D.eq_refl, dPen1, dLenSet, dSrtR, dRo, dRoF, dRoT, roD, ro_un, ro_dat, ro_own, ro_hp, ro_law, ro_ownK, ro_ownT, List.forall_mem_map, flat_int, flat_str, flat_bl, flat_non, solid_int, solid_str, solid_bl, solid_non, solid_tup, solids_nil, solids_cons, dSeq, dNext, dSet, dSetF, setSl, dVar, dTake, dC, dBin, dBinF, dB, dIfS, dIf, dRet, dRetN, dExpr, dNil, dCons, dTup, dLst, dFz, dAnd, dOr, dNot, dAndV, dOrV, dNotV, dCallD, dCallK, dCB, dCBF, dFor, dLC, dYes, dRng1, dRng2, dSeqI, gN, gT, gsNil, gsCons, dAsg, dNeg, dJoin, dFs, dJs, dFmt, dApp, dExt, dPop, dPopAt, dOwnIx, dOwnCB, dOwnL, dOwnR, dOwnSl, dSetIx, dSlT, dSlL, oNone, oSome, dBorn, optQ, ownAt, setOwnAt, lookAt, wipeD, dNewDT, dNewDK, dDGet, dDIn, dDPut, dSortT, rSrt, isDict, Ev.dictGet, Ev.dictPut, Option.isSome_none, Option.isSome_some, D.keyT, keysOf, D.key, exists_eq_left', exists_eq_left, Option.isSome, rRepL, rCatL, dRetF, dIfF, dPar, dRetOwn, dCallL, dCallLK, dPen2, dRev, dRevI, dIndex, endsL, startL, dNever, dBrk, dCnt, rAddD, rSubI, rIO, rMulI, rDivI, rModI, rPowI, rCI, Ev.rIxD, rIsN, rNotN, D.isN, Ev.rLen, rTuple, rList, rAbs, rInt, rStr, Ev.rRepr, Ev.rIsi, D.ty, kit_tab, startD, endsD, List.map_cons, List.map_nil, List.length_cons, List.length_nil, List.append_nil, List.nil_append, List.cons_append, List.getElem?_cons_zero, List.getElem?_cons_succ, List.getElem?_nil, List.set_cons_zero, List.set_cons_succ, List.replicate, List.replicate_succ, Nat.zero_add, Nat.zero_le, sizeLine, true_and, and_true, if_true, Ev.eq_int, Ev.eq_str, Ev.eq_bl, Ev.eq_non, lst_nil, tup_nil, List.map_eq_nil_iff, txt_join, rLt, rLe, rGt, rGe, atI_ofNat, atI_last, wLC, strsOf, intsOf, blsOf, Option.map_some, Ev.join_two, Ev.join_one, Ev.join_nil, List.sum_cons, List.sum_nil, PySem.Str.empty_append, ixN_ofNat, Option.some.injEq, exists_eq', List.length_map, decide_true, decide_false, Bool.not_true, Bool.not_false, Bool.true_eq_false, Bool.false_eq_true, false_and, and_false, if_false, ite_true, ite_false, Nat.reduceAdd, Nat.reduceSub, Nat.reduceMul, Nat.reduceLT, Nat.reduceLeDiff, Nat.reduceEqDiff, Nat.reducePow, Int.reduceToNat, Int.reducePow, pickL, List.filterMap_cons, List.filterMap_nil, and_self, Int.reduceLT, Int.reduceLE, Int.reduceNeg, Int.reduceAdd, Int.reduceMul, Int.reduceSub, Int.reduceEq, reduceIte, reduceCtorEq, lit_eq, String.reduceEq, Ev.rEq, Ev.rNe, Ev.rInD, cut_toN, cut_fromN, List.map_take, List.forall_mem_cons, List.forall_mem_nil, List.not_mem_nil, false_imp_iff, implies_true, forall_const, D.cm, D.lay, D.lays, D.dep, D.deps, strOk_lit, lays_ints, deps_ints, Nat.max_self, Nat.max_zero, Nat.zero_max, Bool.and_self, Bool.true_and, Bool.and_true, Bool.and_false, Bool.false_and, Bool.or_false, Bool.or_true, Bool.true_or, Bool.false_or, List.any_cons, List.any_nil, decide_eq_true_eq, eq_self] $[$l]?)
variable [TabC] [PkD]
structure Fit (d : D) : Prop where
  ok : okN great d = true
  sz : d.szR ≤ 500000
  de : d.deR ≤ 60
theorem Fit.sm {d : D} (f : Fit d) : d.smR 64 (2 ^ 20) := ⟨okN_R great_lt _ f.ok, by have := f.sz; omega, by have := f.de; omega⟩
def sp__law_right : dSp := fun ds p Q _ => ∃ d : D, ds = [d] ∧ Fit d ∧ Q (.bl true) p
abbrev s__law_right : Stmt := topS 28
abbrev n__law_right : List Str := ["_law_one", "_law_stays", "_law_due"]
theorem sc__law_right : FnScope n__law_right ["_law_one"] (defScope s__law_right) := ⟨rfl, rfl, rfl, by decide +kernel, rfl, by decide +kernel, by decide +kernel⟩
def p__law_right_0 : dS := (dSet 1 (dCB rReprX (dCons (dVar 0) dNil)))
def p__law_right_1 : dS := (dSet 2 (dCallD 1 [] sp__law_is_book (dCons (dVar 0) dNil)))
def p__law_right_2 : dS := (dRet (dAndV (dBin (rEq) (dCB rReprX (dCons (dFz (dLst (dCons (dCallD 1 [] sp_is_book (dCons (dVar 0) dNil)) (dCons (dCallK 1 0 1 [0] [] sp_is_book dNil (dCons (dVar 0) dNil)) dNil)))) dNil)) (dCB rReprX (dCons (dFz (dLst (dCons (dVar 2) (dCons (dVar 2) dNil)))) dNil))) (dBin (rEq) (dCB rReprX (dCons (dVar 0) dNil)) (dVar 1))))
def b__law_right_2 : dS := p__law_right_2
def b__law_right_1 : dS := dSeq (p__law_right_1) (b__law_right_2)
def b__law_right_0 : dS := dSeq (p__law_right_0) (b__law_right_1)
def b__law_right : dS := b__law_right_0
theorem run__law_right {P : Program} {w : World} {K : PySem.W.Frag} {mg : Str → Option Value} {base : Heap} (m_repr : mg "repr" = none) (K__law_is_book_1 : Def P w K mg base 3 "_law_is_book" 1 sp__law_is_book []) (K_is_book_1 : Def P w K mg base 4 "is_book" 1 sp_is_book []) (K_is_book_0_thing : DefK P w K mg base 4 "is_book" 1 sp_is_book 0 1 ["thing"] [0] []) {f : Addr} (cdv : Value) (A : Around) (out : List Env) (s : Shared) (H : Hp) (E : XK) (g : A.guards = some []) (hrA : Room 4 (A.deeper (envOfC "_law_right" (defScope s__law_right) s.heap.objs.size f cdv))) :
  DSs (cx0 P w K mg base n__law_right "_law_right" (defScope s__law_right) f cdv A out s H E) E00 (defBody s__law_right) b__law_right := by
 have hgA : (A.deeper (envOfC "_law_right" (defScope s__law_right) s.heap.objs.size f cdv)).guards = some [] := g
 have hun := hrA.un
 exact (dss_cons (t := p__law_right_0) (u := b__law_right_1) (ds_set (i := 1) sc__law_right.nd rfl (by first | exact .inl rfl | exact .inr rfl) (de_callB (cd_reprX hgA (Nat.lt_of_le_of_lt (Nat.add_le_add_left (by decide) _) hun)) (by rfl) m_repr Ev.boot_repr (da_cons (de_var (pv 0)) da_nil)))
  (dss_cons (t := p__law_right_1) (u := b__law_right_2) (ds_set (i := 2) sc__law_right.nd rfl (by first | exact .inl rfl | exact .inr rfl) (de_callD K__law_is_book_1 hgA hrA (by rfl) (da_cons (de_var (pv 0)) da_nil)))
  (dss_one (t := p__law_right_2) (ds_ret (de_and (de_cmp (od_eq (Nat.lt_of_le_of_lt (Nat.add_le_add_left (by decide) _) hun)) (de_callB (cd_reprX hgA (Nat.lt_of_le_of_lt (Nat.add_le_add_left (by decide) _) hun)) (by rfl) m_repr Ev.boot_repr (da_cons (de_fz (df_lst (da_cons (de_callD K_is_book_1 hgA hrA (by rfl) (da_cons (de_var (pv 0)) da_nil)) (da_cons (de_callK0 K_is_book_0_thing hgA hrA (by rfl) (dk_cons (de_var (pv 0)) dk_nil)) da_nil)))) da_nil)) (de_callB (cd_reprX hgA (Nat.lt_of_le_of_lt (Nat.add_le_add_left (by decide) _) hun)) (by rfl) m_repr Ev.boot_repr (da_cons (de_fz (df_lst (da_cons (de_var (pv 2)) (da_cons (de_var (pv 2)) da_nil)))) da_nil)) (nomark _)) (de_one (de_cmp (od_eq (Nat.lt_of_le_of_lt (Nat.add_le_add_left (by decide) _) hun)) (de_callB (cd_reprX hgA (Nat.lt_of_le_of_lt (Nat.add_le_add_left (by decide) _) hun)) (by rfl) m_repr Ev.boot_repr (da_cons (de_var (pv 0)) da_nil)) (de_var (pv 1)) (nomark _))))))))
theorem hsp__law_right : ∀ ds p Q W, ds.length = 1 → sp__law_right ds p Q W → b__law_right W0 (endsD Q) (startD n__law_right.length ds p) := by
  rintro _ p Q W - ⟨d, rfl, f, q⟩
  have sm := f.sm
  have rp := sm.rep
  simp only [DSIMP, n__law_right, b__law_right, b__law_right_0, p__law_right_0, b__law_right_1, p__law_right_1, sp__law_is_book, sm, rp]
  refine ⟨d, rfl, f.ok, f.sz, f.de, ?_⟩
  have s2 : (D.lst [.bl (bookB d), .bl (bookB d)]).smR 64 (2 ^ 20) := by
    cases bookB d
    · exact ⟨by decide +kernel, by decide +kernel, by decide +kernel⟩
    · exact ⟨by decide +kernel, by decide +kernel, by decide +kernel⟩
  have r2 := s2.rep
  simp only [DSIMP, b__law_right_2, p__law_right_2, b__law_right_2, sp_is_book]
  refine ⟨d, rfl, f.ok, d, rfl, f.ok, ?_⟩
  simp only [DSIMP, sm, rp, s2, r2]
  exact q
theorem ok__law_right {P : Program} {w : World} {K : PySem.W.Frag} {mg : Str → Option Value} {base : Heap} (m_repr : mg "repr" = none) (K__law_is_book_1 : Def P w K mg base 3 "_law_is_book" 1 sp__law_is_book []) (K_is_book_1 : Def P w K mg base 4 "is_book" 1 sp_is_book []) (K_is_book_0_thing : DefK P w K mg base 4 "is_book" 1 sp_is_book 0 1 ["thing"] [0] []) {f : Addr} {fd : FuncData} (F : Fun K "_law_right" "_law_right" s__law_right f fd) : FnG P w K mg base CX0 5 f fd ["_law_one"] (spD K 1 sp__law_right) :=
 fn_d0 F sc__law_right rfl (fun cdv A out s H E g r => run__law_right m_repr K__law_is_book_1 K_is_book_1 K_is_book_0_thing cdv A out s H E g r) hsp__law_right
end Ev07
namespace Ev07
open PySem PySem.Spec PyProof.Rows L2 Ev Pt
local macro_rules
  | `(tactic| simp only [DSIMP, $as,*] $[$l:location]?) => `(tactic| simp only [rNeE, rEL, List.isEmpty_nil, List.isEmpty_cons, gIx, rIsA, rIsS, kitS, kitS.optQB, D.cls, dHGet, dHPut, dBornK, penK_cells, penK_at, penK_left, penK_pat, penK_pleft, penK_len, ex_hpK, dOwnGet2, ownKs, dKpL, dNewKd, dKpLk, rDictPTf, dRaise1, dRaise0, excD, dTry, wTry, Ev.rIsE, Ev.rIsEt, D.xcN, dFldE, dCallVX, WP, exS_tab, dTakeN, dIxN, dKpNew, dKpPut, dKpIns, dKpApp, dKpFz, dRoK, dRoL, dNewK1, dIns, roK, dZipM, dNGet, dNPut, dNewN, isNo, Ev.nGet, Ev.nPut, D.nkey, b2n, rAddB, rSubB, rStrB, rEqE, dSrtSet, dOrX, truD, rDictX, dTupN, dSlN, rAddN, rSrtN, rTupleN, rDictN, dSlX, dRevX, dLenSetN, dEmptyV, rLtX, rMulX, Ev.rReprX, dPenS, gStarDL, dAug, dIndexE, dZipS, dGcIn, dGbIx, dGdIn, dGdIx, dListRg, rDictPf, dZipL, dListKo, dEmptyT, dDispT1, dNeE, rListA, rDictPT, rIsTF, dGroup, rSrtA, rLenA, dInV, dIxV, dCount, dSortKo, dCallR, adD, gL, dDN, dLN, wNest, bNest, bEl, bEd, dZip, seqOf, dSortDK, dCallV, dCallLam, optQ, dEnum, D.nf, D.nfs, Ev.rSumD, dLock, dKeysI, gStarD, dReverse, dMove, dDGet2, getD2, D.isD, dDisp, dPairs, keysD, Ev.rMaxD, Ev.rMinD, rDictP, Option.getD_some, Option.getD_none, Ev.D.eq_refl, dPen1, dLenSet, dSrtR, dRo, dRoF, dRoT, roD, ro_un, ro_dat, ro_own, ro_hp, ro_law, ro_ownK, ro_ownT, List.forall_mem_map, flat_int, flat_str, flat_bl, flat_non, solid_int, solid_str, solid_bl, solid_non, solid_tup, solids_nil, solids_cons, dSeq, dNext, dSet, dSetF, setSl, dVar, dTake, dC, dBin, dBinF, dB, dIfS, dIf, dRet, dRetN, dExpr, dNil, dCons, dTup, dLst, dFz, dAnd, dOr, dNot, dAndV, dOrV, dNotV, dCallD, dCallK, dCB, dCBF, dFor, dLC, dYes, dRng1, dRng2, dSeqI, gN, gT, gsNil, gsCons, dAsg, dNeg, dJoin, dFs, dJs, dFmt, dApp, dExt, dPop, dPopAt, dOwnIx, dOwnCB, dOwnL, dOwnR, dOwnSl, dSetIx, dSlT, dSlL, oNone, oSome, dBorn, optQ, ownAt, setOwnAt, lookAt, wipeD, dNewDT, dNewDK, dDGet, dDIn, dDPut, dSortT, rSrt, isDict, Ev.dictGet, Ev.dictPut, Option.isSome_none, Option.isSome_some, D.keyT, keysOf, D.key, exists_eq_left', exists_eq_left, Option.isSome, rRepL, rCatL, dRetF, dIfF, dPar, dRetOwn, dCallL, dCallLK, dPen2, dRev, dRevI, dIndex, endsL, startL, dNever, dBrk, dCnt, rAddD, rSubI, rIO, rMulI, rDivI, rModI, rPowI, rCI, Ev.rIxD, rIsN, rNotN, D.isN, Ev.rLen, rTuple, rList, rAbs, rInt, rStr, Ev.rRepr, Ev.rIsi, D.ty, kit_tab, startD, endsD, List.map_cons, List.map_nil, List.length_cons, List.length_nil, List.append_nil, List.nil_append, List.cons_append, List.getElem?_cons_zero, List.getElem?_cons_succ, List.getElem?_nil, List.set_cons_zero, List.set_cons_succ, List.replicate, List.replicate_succ, Nat.zero_add, Nat.zero_le, sizeLine, true_and, and_true, if_true, Ev.eq_int, Ev.eq_str, Ev.eq_bl, Ev.eq_non, lst_nil, tup_nil, List.map_eq_nil_iff, txt_join, rLt, rLe, rGt, rGe, atI_ofNat, atI_last, wLC, strsOf, intsOf, blsOf, Option.map_some, Ev.join_two, Ev.join_one, Ev.join_nil, List.sum_cons, List.sum_nil, PySem.Str.empty_append, ixN_ofNat, Option.some.injEq, exists_eq', List.length_map, decide_true, decide_false, Bool.not_true, Bool.not_false, Bool.true_eq_false, Bool.false_eq_true, false_and, and_false, if_false, ite_true, ite_false, Nat.reduceAdd, Nat.reduceSub, Nat.reduceMul, Nat.reduceLT, Nat.reduceLeDiff, Nat.reduceEqDiff, Nat.reducePow, Int.reduceToNat, Int.reducePow, pickL, List.filterMap_cons, List.filterMap_nil, and_self, Int.reduceLT, Int.reduceLE, Int.reduceNeg, Int.reduceAdd, Int.reduceMul, Int.reduceSub, Int.reduceEq, reduceIte, reduceCtorEq, lit_eq, String.reduceEq, Ev.rEq, Ev.rNe, Ev.rInD, cut_toN, cut_fromN, List.map_take, List.forall_mem_cons, List.forall_mem_nil, List.not_mem_nil, false_imp_iff, implies_true, forall_const, D.cm, D.lay, D.lays, D.dep, D.deps, strOk_lit, lays_ints, deps_ints, Nat.max_self, Nat.max_zero, Nat.zero_max, Bool.and_self, Bool.true_and, Bool.and_true, Bool.and_false, Bool.false_and, Bool.or_false, Bool.or_true, Bool.true_or, Bool.false_or, List.any_cons, List.any_nil, decide_eq_true_eq, eq_self, $as,*] $[$l]?)
  | `(tactic| simp only [DSIMP] $[$l:location]?) => `(tactic| simp only [rNeE, rEL, List.isEmpty_nil, List.isEmpty_cons, gIx, rIsA, rIsS, kitS, kitS.optQB, D.cls, dHGet, dHPut, dBornK, penK_cells, penK_at, penK_left, penK_pat, penK_pleft, penK_len, ex_hpK, dOwnGet2, ownKs, dKpL, dNewKd, dKpLk, rDictPTf, dRaise1, dRaise0, excD, dTry, wTry, Ev.rIsE, Ev.rIsEt, D.xcN, dFldE, dCallVX, WP, exS_tab, dTakeN, dIxN, dKpNew, dKpPut, dKpIns, dKpApp, dKpFz, dRoK, dRoL, dNewK1, dIns, roK, dZipM, dNGet, dNPut, dNewN, isNo, Ev.nGet, Ev.nPut, D.nkey, b2n, rAddB, rSubB, rStrB, rEqE, dSrtSet, dOrX, truD, rDictX, dTupN, dSlN, rAddN, rSrtN, rTupleN, rDictN, dSlX, dRevX, dLenSetN, dEmptyV, rLtX, rMulX, Ev.rReprX, dPenS, gStarDL, dAug, dIndexE, dZipS, dGcIn, dGbIx, dGdIn, dGdIx, dListRg, rDictPf, dZipL, dListKo, dEmptyT, dDispT1, dNeE, rListA, rDictPT, rIsTF, dGroup, rSrtA, rLenA, dInV, dIxV, dCount, dSortKo, dCallR, adD, gL, dDN, dLN, wNest, bNest, bEl, bEd, dZip, seqOf, dSortDK, dCallV, dCallLam, optQ, dEnum, D.nf, D.nfs, Ev.rSumD, dLock, dKeysI, gStarD, dReverse, dMove, dDGet2, getD2, D.isD, dDisp, dPairs, keysD, Ev.rMaxD, Ev.rMinD, rDictP, Option.getD_some, Option.getD_none, Ev.D.eq_refl, dPen1, dLenSet, dSrtR, dRo, dRoF, dRoT, roD, ro_un, ro_dat, ro_own, ro_hp, ro_law, ro_ownK, ro_ownT, List.forall_mem_map, flat_int, flat_str, flat_bl, flat_non, solid_int, solid_str, solid_bl, solid_non, solid_tup, solids_nil, solids_cons, dSeq, dNext, dSet, dSetF, setSl, dVar, dTake, dC, dBin, dBinF, dB, dIfS, dIf, dRet, dRetN, dExpr, dNil, dCons, dTup, dLst, dFz, dAnd, dOr, dNot, dAndV, dOrV, dNotV, dCallD, dCallK, dCB, dCBF, dFor, dLC, dYes, dRng1, dRng2, dSeqI, gN, gT, gsNil, gsCons, dAsg, dNeg, dJoin, dFs, dJs, dFmt, dApp, dExt, dPop, dPopAt, dOwnIx, dOwnCB, dOwnL, dOwnR, dOwnSl, dSetIx, dSlT, dSlL, oNone, oSome, dBorn, optQ, ownAt, setOwnAt, lookAt, wipeD, dNewDT, dNewDK, dDGet, dDIn, dDPut, dSortT, rSrt, isDict, Ev.dictGet, Ev.dictPut, Option.isSome_none, Option.isSome_some, D.keyT, keysOf, D.key, exists_eq_left', exists_eq_left, Option.isSome, rRepL, rCatL, dRetF, dIfF, dPar, dRetOwn, dCallL, dCallLK, dPen2, dRev, dRevI, dIndex, endsL, startL, dNever, dBrk, dCnt, rAddD, rSubI, rIO, rMulI, rDivI, rModI, rPowI, rCI, Ev.rIxD, rIsN, rNotN, D.isN, Ev.rLen, rTuple, rList, rAbs, rInt, rStr, Ev.rRepr, Ev.rIsi, D.ty, kit_tab, startD, endsD, List.map_cons, List.map_nil, List.length_cons, List.length_nil, List.append_nil, List.nil_append, List.cons_append, List.getElem?_cons_zero, List.getElem?_cons_succ, List.getElem?_nil, List.set_cons_zero, List.set_cons_succ, List.replicate, List.replicate_succ, Nat.zero_add, Nat.zero_le, sizeLine, true_and, and_true, if_true, Ev.eq_int, Ev.eq_str, Ev.eq_bl, Ev.eq_non, lst_nil, tup_nil, List.map_eq_nil_iff, txt_join, rLt, rLe, rGt, rGe, atI_ofNat, atI_last, wLC, strsOf, intsOf, blsOf, Option.map_some, Ev.join_two, Ev.join_one, Ev.join_nil, List.sum_cons, List.sum_nil, PySem.Str.empty_append, ixN_ofNat, Option.some.injEq, exists_eq', List.length_map, decide_true, decide_false, Bool.not_true, Bool.not_false, Bool.true_eq_false, Bool.false_eq_true, false_and, and_false, if_false, ite_true, ite_false, Nat.reduceAdd, Nat.reduceSub, Nat.reduceMul, Nat.reduceLT, Nat.reduceLeDiff, Nat.reduceEqDiff, Nat.reducePow, Int.reduceToNat, Int.reducePow, pickL, List.filterMap_cons, List.filterMap_nil, and_self, Int.reduceLT, Int.reduceLE, Int.reduceNeg, Int.reduceAdd, Int.reduceMul, Int.reduceSub, Int.reduceEq, reduceIte, reduceCtorEq, lit_eq, String.reduceEq, Ev.rEq, Ev.rNe, Ev.rInD, cut_toN, cut_fromN, List.map_take, List.forall_mem_cons, List.forall_mem_nil, List.not_mem_nil, false_imp_iff, implies_true, forall_const, D.cm, D.lay, D.lays, D.dep, D.deps, strOk_lit, lays_ints, deps_ints, Nat.max_self, Nat.max_zero, Nat.zero_max, Bool.and_self, Bool.true_and, Bool.and_true, Bool.and_false, Bool.false_and, Bool.or_false, Bool.or_true, Bool.true_or, Bool.false_or, List.any_cons, List.any_nil, decide_eq_true_eq, eq_self] $[$l]?)
variable [TabC] [PkD]
structure Es (N n k : Nat) (d : D) : Prop where
  ok : okN N d = true
  sz : d.szR ≤ n
  de : d.deR ≤ k
theorem Es.mono {N n k N' n' k' : Nat} {d : D} (h : Es N n k d) (hN : N ≤ N') (hn : n ≤ n') (hk : k ≤ k') : Es N' n' k' d := ⟨okN_mono hN d h.ok, Nat.le_trans h.sz hn, Nat.le_trans h.de hk⟩
theorem Es.smR {N n k : Nat} {d : D} (h : Es N n k d) (hN : N ≤ great) (hn : n ≤ 1000000) (hk : k ≤ 64) : d.smR 64 (2 ^ 20) := ⟨okN_R (Nat.lt_of_le_of_lt hN great_lt) d h.ok, Nat.le_trans h.sz (Nat.le_trans hn (by decide)), Nat.le_trans h.de hk⟩
structure Ls (N n k : Nat) (xs : List D) : Prop where
  ok : okNs N xs = true
  sz : D.szRs xs ≤ n
  de : D.deRs xs ≤ k
theorem szRs_app : ∀ a b : List D, D.szRs (a ++ b) = D.szRs a + D.szRs b
  | [], b => (Nat.zero_add _).symm
  | x :: a, b => by show x.szR + 2 + D.szRs (a ++ b) = x.szR + 2 + D.szRs a + D.szRs b; rw [szRs_app a b]; omega
theorem deRs_app : ∀ a b : List D, D.deRs (a ++ b) = max (D.deRs a) (D.deRs b)
  | [], b => (Nat.zero_max _).symm
  | x :: a, b => by show max x.deR (D.deRs (a ++ b)) = max (max x.deR (D.deRs a)) (D.deRs b); rw [deRs_app a b, Nat.max_assoc]
theorem okNs_app {N : Nat} : ∀ a b : List D, okNs N (a ++ b) = (okNs N a && okNs N b)
  | [], b => rfl
  | x :: a, b => by show (okN N x && okNs N (a ++ b)) = (okN N x && okNs N a && okNs N b); rw [okNs_app a b, Bool.and_assoc]
theorem Ls.app {N n m k : Nat} {a b : List D} (ha : Ls N n k a) (hb : Ls N m k b) : Ls N (n + m) k (a ++ b) :=
  ⟨by rw [okNs_app, ha.ok, hb.ok]; rfl, by rw [szRs_app]; have := ha.sz; have := hb.sz; omega, by rw [deRs_app]; exact Nat.max_le.mpr ⟨ha.de, hb.de⟩⟩
theorem Ls.one {N n k : Nat} {d : D} (h : Es N n k d) : Ls N (n + 2) k [d] := ⟨by show (okN N d && true) = true; rw [h.ok]; rfl, by show d.szR + 2 + 0 ≤ _; have := h.sz; omega, by show max d.deR 0 ≤ k; have := h.de; omega⟩
theorem Ls.sub {N n k : Nat} {a b : List D} (s : a.Sublist b) (h : Ls N n k b) : Ls N n k a := by
  refine ⟨okNs_iff.mpr fun x hx => okNs_iff.mp h.ok x (s.subset hx), Nat.le_trans ?_ h.sz, Nat.le_trans ?_ h.de⟩
  · clear h
    induction s with
    | slnil => exact Nat.le_refl _
    | @cons l1 l2 x s ih => show D.szRs l1 ≤ x.szR + 2 + D.szRs l2; omega
    | @cons_cons l1 l2 x s ih => show x.szR + 2 + D.szRs l1 ≤ x.szR + 2 + D.szRs l2; omega
  · clear h
    induction s with
    | slnil => exact Nat.le_refl _
    | @cons l1 l2 x s ih => show D.deRs l1 ≤ max x.deR (D.deRs l2); omega
    | @cons_cons l1 l2 x s ih => show max x.deR (D.deRs l1) ≤ max x.deR (D.deRs l2); omega
theorem Ls.rev {N n k : Nat} : ∀ {a : List D}, Ls N n k a → Ls N n k a.reverse := fun {a} h => by
  have e1 : ∀ a : List D, D.szRs a.reverse = D.szRs a := fun a => by
    induction a with
    | nil => rfl
    | cons x a ih => rw [List.reverse_cons, szRs_app, ih]; show D.szRs a + (x.szR + 2 + 0) = x.szR + 2 + D.szRs a; omega
  have e2 : ∀ a : List D, D.deRs a.reverse = D.deRs a := fun a => by
    induction a with
    | nil => rfl
    | cons x a ih => rw [List.reverse_cons, deRs_app, ih]; show max (D.deRs a) (max x.deR 0) = max x.deR (D.deRs a); omega
  exact ⟨okNs_iff.mpr fun x hx => okNs_iff.mp h.ok x (List.mem_reverse.mp hx), by rw [e1]; exact h.sz, by rw [e2]; exact h.de⟩
theorem Ls.mono {N n k N' n' k' : Nat} {a : List D} (h : Ls N n k a) (hN : N ≤ N') (hn : n ≤ n') (hk : k ≤ k') : Ls N' n' k' a := ⟨okNs_mono hN a h.ok, Nat.le_trans h.sz hn, Nat.le_trans h.de hk⟩
theorem Ls.tup {N n k : Nat} {a : List D} (h : Ls N n k a) : Es N (n + 5) (k + 1) (.tup a) := ⟨h.ok, by show D.szRs a + 5 ≤ _; have := h.sz; omega, by show D.deRs a + 1 ≤ _; have := h.de; omega⟩
theorem Ls.lst {N n k : Nat} {a : List D} (h : Ls N n k a) : Es N (n + 5) (k + 1) (.lst a) := ⟨h.ok, by show D.szRs a + 5 ≤ _; have := h.sz; omega, by show D.deRs a + 1 ≤ _; have := h.de; omega⟩
theorem Ls.mem {N n k : Nat} {a : List D} (h : Ls N n k a) {x : D} (hx : x ∈ a) : Es N n k x := by
  have := Ls.sub (List.singleton_sublist.mpr hx) h
  refine ⟨okNs_iff.mp h.ok x hx, ?_, ?_⟩
  · have : x.szR + 2 + 0 ≤ n := this.sz
    omega
  · have : max x.deR 0 ≤ k := this.de
    omega
theorem cut_sub {α : Type} (xs : List α) (lo hi : Option Int) : (Ev.cutD xs lo hi).Sublist xs := (List.take_sublist _ _).trans (List.drop_sublist _ _)
def elB (N n k : Nat) (d : D) : Bool := okN N d && (decide (d.szR ≤ n) && decide (d.deR ≤ k))
theorem of_elB {N n k : Nat} {L : List D} (h : L.all (elB N n k) = true) : ∀ x ∈ L, Es N n k x := fun x hx => by
  rw [List.all_eq_true] at h
  have := h x hx
  unfold elB at this
  simp only [Bool.and_eq_true, decide_eq_true_eq] at this
  exact ⟨this.1, this.2.1, this.2.2⟩
theorem len_szRs : ∀ ds : List D, 2 * ds.length ≤ D.szRs ds
  | [] => Nat.le_refl _
  | d :: ds => by
    have := len_szRs ds
    show 2 * (ds.length + 1) ≤ d.szR + 2 + D.szRs ds
    omega
theorem rd_40 {δ : DS} : RdE δ (dBin rPowI (dC (.int 10)) (dC (.int 40))) (.int 10000000000000000000000000000000000000000) := fun Q q => by
  have e : (10 : Int) ^ Int.toNat 40 = 10000000000000000000000000000000000000000 := by decide +kernel
  refine ⟨by unfold CPow; decide, ?_⟩
  show Q (.int ((10 : Int) ^ Int.toNat 40)) δ
  rw [e]; exact q
local macro_rules
  | `(tactic| simp only [RD]) => `(tactic| repeat' first
  | exact rd_c | exact rd_var rfl | exact rd_nil | exact rd_emp | exact rd_40
  | apply rd_cons | apply rd_tup | apply rd_lst | apply rd_fz | exact Nat.le_of_ble_eq_true rfl)
def big : Nat := 10 ^ 40
def oddA (d : D) : List D := [.non, .bl true, .bl false, .int 0, .int 1, .int 9, .int 10, .int (-1), .int 40, .int 41, .int (-40), .int (-41), .int 5, .int 10000000000000000000000000000000000000000, .str "", .str "a", .lst [], .tup [], .dT [], .lst [d], .tup [d]]
theorem fm_c {P : D → Prop} {d : D} {ds : List D} (h : P d) (hs : ∀ x ∈ ds, P x) : ∀ x ∈ d :: ds, P x := List.forall_mem_cons.mpr ⟨h, hs⟩
theorem fm_n {P : D → Prop} : ∀ x ∈ ([] : List D), P x := fun _ h => nomatch h
theorem Es.int {N n k : Nat} {i : Int} (h : i.natAbs ≤ N) (hn : 101 ≤ n) : Es N n k (.int i) := ⟨decide_eq_true h, hn, Nat.zero_le _⟩
theorem Es.bl {N n k : Nat} {b : Bool} (hn : 5 ≤ n) : Es N n k (.bl b) := ⟨rfl, hn, Nat.zero_le _⟩
theorem Es.digits {N n k : Nat} {i : Int} (h : i.natAbs < 10 ^ 100) (hn : 1100 ≤ n) : Es N n k (.str (Str.ofString (toString i))) := by
  refine ⟨strOk_lit _, ?_, Nat.zero_le _⟩
  show 10 * (Str.ofString (toString i)).length + 2 ≤ n
  have : (Str.ofString (toString i)).length ≤ 101 := by
    rw [PySem.ofString_length]
    exact int_text_length_le10 (k := 100) (by decide) h
  omega
theorem twice_len {six : List D} : [six, six].flatten.length = 2 * six.length := by
  simp only [List.flatten_cons, List.flatten_nil, List.length_append, List.length_nil]; omega
theorem twice {P : D → Prop} {L six : List D} (ob : ∀ x ∈ L, P x) (s : ∀ x ∈ six, P x) : ∀ x ∈ L ++ [six, six].flatten, P x := fun x hx => by
  rcases List.mem_append.mp hx with h | h
  · exact ob x h
  · obtain ⟨l, hl, hy⟩ := List.mem_flatten.mp h
    simp only [List.mem_cons, List.not_mem_nil, or_false, or_self] at hl
    subst hl
    exact s x hy
theorem oddA_ok {N n k : Nat} {d : D} (hN : big ≤ N) (e : Es N n k d) : ∀ x ∈ oddA d, Es (N + 1) (2 * n + 1100) (k + 1) x := by
  have c : ∀ x ∈ ([.non, .bl true, .bl false, .int 0, .int 1, .int 9, .int 10, .int (-1), .int 40, .int 41, .int (-40), .int (-41), .int 5, .int 10000000000000000000000000000000000000000, .str "", .str "a", .lst [], .tup [], .dT []] : List D), Es big 450 1 x := of_elB (by decide +kernel)
  intro x hx
  unfold oddA at hx
  have : x ∈ ([.non, .bl true, .bl false, .int 0, .int 1, .int 9, .int 10, .int (-1), .int 40, .int 41, .int (-40), .int (-41), .int 5, .int 10000000000000000000000000000000000000000, .str "", .str "a", .lst [], .tup [], .dT []] : List D) ∨ x = .lst [d] ∨ x = .tup [d] := by
    simp only [List.mem_cons, List.not_mem_nil, or_false] at hx ⊢
    simp only [or_assoc]
    exact hx
  rcases this with h | rfl | rfl
  · exact (c x h).mono (by omega) (by omega) (by omega)
  · exact (Ls.lst (.one e)).mono (by omega) (by omega) (by omega)
  · exact (Ls.tup (.one e)).mono (by omega) (by omega) (by omega)
def sp__law_odd : dSp := fun ds p Q _ => ∃ (a : Addr) (c N n k : Nat) (d : D), ds = [.raw (.ref a), d] ∧ p = some (a, c) ∧ c + 2 < 65536 ∧ Es N n k d ∧ big ≤ N ∧ N < great ∧ n ≤ 20000 ∧
  ∀ d' c', Es (N + 1) (2 * n + 1100) (k + 1) d' → c' ≤ c + 1 → Q d' (some (a, c'))
abbrev s__law_odd : Stmt := topS 25
abbrev n__law_odd : List Str := ["_law_pen_here", "_law_part", "_law_some"]
theorem sc__law_odd : FnScope n__law_odd ["_law_pen_here", "_law_part"] (defScope s__law_odd) := ⟨rfl, rfl, rfl, by decide +kernel, rfl, by decide +kernel, by decide +kernel⟩
def p__law_odd_0 : dS := (dSetF 2 (dLst (dCons (dC .non) (dCons (dC (.bl true)) (dCons (dC (.bl false)) (dCons (dC (.int 0)) (dCons (dC (.int 1)) (dCons (dC (.int 9)) (dCons (dC (.int 10)) (dCons (dC (.int (-1))) (dCons (dC (.int 40)) (dCons (dC (.int 41)) (dCons (dC (.int (-40))) (dCons (dC (.int (-41))) (dCons (dC (.int 5)) (dCons (dBin rPowI (dC (.int 10)) (dC (.int 40))) (dCons (dC (.str "")) (dCons (dC (.str "a")) (dCons (dFz (dLst dNil)) (dCons (dTup dNil) (dCons dEmptyV (dCons (dFz (dLst (dCons (dVar 1) dNil))) (dCons (dTup (dCons (dVar 1) dNil)) dNil)))))))))))))))))))))))
def p__law_odd_1 : dS := (dIfS (dAnd (dB (dCB (rIsi "int") (dCons (dVar 1) (dCons (dC (.raw (.ty "int"))) dNil)))) (dNot (dB (dCB (rIsi "bool") (dCons (dVar 1) (dCons (dC (.raw (.ty "bool"))) dNil)))))) (dSetF 2 (dBinF rCatL (dTake 2) (dFz (dBinF rRepL (dFz (dLst (dCons (dBin rAddD (dVar 1) (dC (.int 1))) (dCons (dBin rSubI (dVar 1) (dC (.int 1))) (dCons (dBin (rEq) (dVar 1) (dC (.int 1))) (dCons (dCB rStr (dCons (dVar 1) dNil)) dNil)))))) (dC (.int 2)))))) dNext)
def p__law_odd_2 : dS := (dIfS (dB (dCB (rIsi "tuple") (dCons (dVar 1) (dCons (dC (.raw (.ty "tuple"))) dNil)))) (dSetF 2 (dBinF rCatL (dTake 2) (dFz (dBinF rRepL (dFz (dLst (dCons (dFz (dCBF rList (dCons (dVar 1) dNil))) (dCons (dRevX (dVar 1)) (dCons (dBin rAddD (dVar 1) (dSlT (dVar 1) (oSome (dC (.int (-1)))) oNone)) (dCons (dSlT (dVar 1) oNone (oSome (dC (.int (-1))))) (dCons (dSlT (dVar 1) (oSome (dC (.int 1))) oNone) (dCons (dBin rAddD (dVar 1) (dTup (dCons (dTup dNil) dNil))) dNil)))))))) (dC (.int 2)))))) dNext)
def p__law_odd_3 : dS := (dRet (dCallD 2 [] sp__law_pick (dCons (dVar 0) (dCons (dTake 2) dNil))))
def b__law_odd_3 : dS := p__law_odd_3
def b__law_odd_2 : dS := dSeq (p__law_odd_2) (b__law_odd_3)
def b__law_odd_1 : dS := dSeq (p__law_odd_1) (b__law_odd_2)
def b__law_odd_0 : dS := dSeq (p__law_odd_0) (b__law_odd_1)
def b__law_odd : dS := b__law_odd_0
theorem run__law_odd {P : Program} {w : World} {K : PySem.W.Frag} {mg : Str → Option Value} {base : Heap} (m_bool : mg "bool" = none) (m_int : mg "int" = none) (m_isinstance : mg "isinstance" = none) (m_list : mg "list" = none) (m_str : mg "str" = none) (m_tuple : mg "tuple" = none) (K__law_pick_2 : Def P w K mg base 2 "_law_pick" 2 sp__law_pick []) {f : Addr} (cdv : Value) (A : Around) (out : List Env) (s : Shared) (H : Hp) (E : XK) (g : A.guards = some []) (hrA : Room 2 (A.deeper (envOfC "_law_odd" (defScope s__law_odd) s.heap.objs.size f cdv))) :
  DSs (cx0 P w K mg base n__law_odd "_law_odd" (defScope s__law_odd) f cdv A out s H E) E00 (defBody s__law_odd) b__law_odd := by
 have hgA : (A.deeper (envOfC "_law_odd" (defScope s__law_odd) s.heap.objs.size f cdv)).guards = some [] := g
 have hun := hrA.un
 exact (dss_cons (t := p__law_odd_0) (u := b__law_odd_1) (ds_setF (i := 2) sc__law_odd.nd rfl (by first | exact .inl rfl | exact .inr rfl) (df_lst (da_cons de_non (da_cons de_bl (da_cons de_bl (da_cons de_int (da_cons de_int (da_cons de_int (da_cons de_int (da_cons de_neg (da_cons de_int (da_cons de_int (da_cons de_neg (da_cons de_neg (da_cons de_int (da_cons (de_op od_pow de_int de_int) (da_cons de_str (da_cons de_str (da_cons (de_fz (df_lst da_nil)) (da_cons (de_tup da_nil) (da_cons de_emptyV (da_cons (de_fz (df_lst (da_cons (de_var (pv 1)) da_nil))) (da_cons (de_tup (da_cons (de_var (pv 1)) da_nil)) da_nil)))))))))))))))))))))))
  (dss_cons (t := p__law_odd_1) (u := b__law_odd_2) (ds_if ((dw_and (dt_val (de_callB (cd_isi "int") (by rfl) m_isinstance (by decide +kernel) (da_cons (de_var (pv 1)) (da_cons (de_ty (n := "int") (by rfl) m_int (by decide +kernel)) da_nil)))) (dw_and1 (dt_not (dt_val (de_callB (cd_isi "bool") (by rfl) m_isinstance (by decide +kernel) (da_cons (de_var (pv 1)) (da_cons (de_ty (n := "bool") (by rfl) m_bool (by decide +kernel)) da_nil)))))))).dt (dss_one (ds_setF (i := 2) sc__law_odd.nd rfl (by first | exact .inl rfl | exact .inr rfl) (df_op od_catL (de_take (pv 2)) (de_fz (df_op od_repL (de_fz (df_lst (da_cons (de_op od_add (de_var (pv 1)) de_int) (da_cons (de_op od_sub (de_var (pv 1)) de_int) (da_cons (de_cmp (od_eq (Nat.lt_of_le_of_lt (Nat.add_le_add_left (by decide) _) hun)) (de_var (pv 1)) de_int (nomark _)) (da_cons (de_callTy (cd_str) (by rfl) m_str (by decide +kernel) (da_cons (de_var (pv 1)) da_nil)) da_nil)))))) de_int))))) dss_nil)
  (dss_cons (t := p__law_odd_2) (u := b__law_odd_3) (ds_if (dt_val (de_callB (cd_isi "tuple") (by rfl) m_isinstance (by decide +kernel) (da_cons (de_var (pv 1)) (da_cons (de_ty (n := "tuple") (by rfl) m_tuple (by decide +kernel)) da_nil)))) (dss_one (ds_setF (i := 2) sc__law_odd.nd rfl (by first | exact .inl rfl | exact .inr rfl) (df_op od_catL (de_take (pv 2)) (de_fz (df_op od_repL (de_fz (df_lst (da_cons (de_fz (df_callTy cd_list (by rfl) m_list (by decide +kernel) (da_cons (de_var (pv 1)) da_nil))) (da_cons (de_revX (de_var (pv 1))) (da_cons (de_op od_add (de_var (pv 1)) (de_slT (de_var (pv 1)) (do_some de_neg) do_none)) (da_cons (de_slT (de_var (pv 1)) do_none (do_some de_neg)) (da_cons (de_slT (de_var (pv 1)) (do_some de_int) do_none) (da_cons (de_op od_add (de_var (pv 1)) (de_tup (da_cons (de_tup da_nil) da_nil))) da_nil)))))))) de_int))))) dss_nil)
  (dss_one (t := p__law_odd_3) (ds_ret (de_callD K__law_pick_2 hgA hrA (by rfl) (da_cons (de_var (pv 0)) (da_cons (de_take (pv 2)) da_nil))))))))
theorem hsp__law_odd : ∀ ds p Q W, ds.length = 2 → sp__law_odd ds p Q W → b__law_odd W0 (endsD Q) (startD n__law_odd.length ds p) := by
  rintro _ _ Q W - ⟨a, c, N, n, k, d, rfl, rfl, hc, e, hN, hG, hn, q⟩
  have pick : ∀ L : List D, L.length ≤ 100 → L ≠ [] → (∀ x ∈ L, Es (N + 1) (2 * n + 1100) (k + 1) x) → b__law_odd_3 W0 (endsD Q) ⟨[.dat (.raw (.ref a)), .dat d, .own L], some (a, c)⟩ := fun L hl h0 hL => by
    have lp : 0 < L.length := List.length_pos_iff.mpr h0
    simp only [DSIMP, b__law_odd_3, p__law_odd_3, b__law_odd_3, sp__law_pick]
    refine ⟨a, c, L, rfl, rfl, by omega, lp, by omega, fun x hx => ?_⟩
    exact q x _ (hL x hx) (by omega)
  have ob := oddA_ok hN e
  have ol : (oddA d).length = 21 := rfl
  have fin : b__law_odd_1 W0 (endsD Q) ⟨[.dat (.raw (.ref a)), .dat d, .own (oddA d)], some (a, c)⟩ := by
    have ok := e.ok
    generalize oddA d = L at ob ol
    have L0 : L ≠ [] := fun z => by rw [z] at ol; cases ol
    have pick2 : ∀ six : List D, six.length ≤ 6 → (∀ x ∈ six, Es (N + 1) (2 * n + 1100) (k + 1) x) → L.length + [six, six].flatten.length ≤ 16777216 ∧ b__law_odd_3 W0 (endsD Q) ⟨[.dat (.raw (.ref a)), .dat d, .own (L ++ [six, six].flatten)], some (a, c)⟩ := fun six h6 hs =>
      ⟨by rw [twice_len]; omega, pick _ (by rw [List.length_append, twice_len]; omega) (fun z => L0 (List.append_eq_nil_iff.mp z).1) (twice ob hs)⟩
    cases d with
    | non => simp only [DSIMP, b__law_odd_1, p__law_odd_1, b__law_odd_2, p__law_odd_2]; exact pick L (by omega) L0 ob
    | str x => simp only [DSIMP, b__law_odd_1, p__law_odd_1, b__law_odd_2, p__law_odd_2]; exact pick L (by omega) L0 ob
    | lst x => simp only [DSIMP, b__law_odd_1, p__law_odd_1, b__law_odd_2, p__law_odd_2]; exact pick L (by omega) L0 ob
    | dT x => simp only [DSIMP, b__law_odd_1, p__law_odd_1, b__law_odd_2, p__law_odd_2]; exact pick L (by omega) L0 ob
    | bl z => simp only [DSIMP, b__law_odd_1, p__law_odd_1, b__law_odd_2, p__law_odd_2]; exact pick L (by omega) L0 ob
    | int i =>
      have hi : i.natAbs ≤ N := of_decide_eq_true ok
      have hg : i.natAbs < 10 ^ 100 := Nat.lt_of_le_of_lt (Nat.le_trans hi (Nat.le_of_lt hG)) great_lt
      simp only [DSIMP, b__law_odd_1, p__law_odd_1, b__law_odd_2, p__law_odd_2]
      refine ⟨log2_ofR hg, pick2 _ (Nat.le_of_ble_eq_true rfl) (fm_c (.int ?_ (by omega)) (fm_c (.int ?_ (by omega)) (fm_c (.bl (by omega)) (fm_c (.digits hg (by omega)) fm_n))))⟩
      · omega
      · omega
    | tup xs =>
      have sz : D.szRs xs + 5 ≤ n := e.sz
      have de : D.deRs xs + 1 ≤ k := e.de
      have ls : Ls (N + 1) (D.szRs xs) k xs := ⟨okNs_mono (Nat.le_succ _) xs e.ok, Nat.le_refl _, by omega⟩
      have ln := len_szRs xs
      have cl := (cut_sub xs (some (-1)) none).length_le
      have one : Es (N + 1) 5 k (.tup []) := ⟨rfl, Nat.le_refl _, by show 0 + 1 ≤ k; omega⟩
      have up : ∀ {m : Nat} {d : D}, Es (N + 1) m (k + 1) d → m ≤ 2 * n + 1100 → Es (N + 1) (2 * n + 1100) (k + 1) d := fun h hm => h.mono (Nat.le_refl _) hm (Nat.le_refl _)
      simp only [DSIMP, b__law_odd_1, p__law_odd_1, b__law_odd_2, p__law_odd_2]
      refine ⟨by omega, by omega, pick2 _ (Nat.le_of_ble_eq_true rfl) (fm_c (up ls.lst (by omega)) (fm_c (up ls.rev.tup (by omega)) (fm_c (up (ls.app (ls.sub (cut_sub xs _ _))).tup (by omega)) (fm_c (up (ls.sub (cut_sub xs _ _)).tup (by omega)) (fm_c (up (ls.sub (List.drop_sublist 1 xs)).tup (by omega)) (fm_c (up (ls.app (.one one)).tup (by omega)) fm_n))))))⟩
    | _ => cases ok
  show dSeq p__law_odd_0 b__law_odd_1 W0 _ _
  refine go_setF (vs := oddA d) (by simp only [RD]) ?_
  exact fin
theorem ok__law_odd {P : Program} {w : World} {K : PySem.W.Frag} {mg : Str → Option Value} {base : Heap} (m_bool : mg "bool" = none) (m_int : mg "int" = none) (m_isinstance : mg "isinstance" = none) (m_list : mg "list" = none) (m_str : mg "str" = none) (m_tuple : mg "tuple" = none) (K__law_pick_2 : Def P w K mg base 2 "_law_pick" 2 sp__law_pick []) {f : Addr} {fd : FuncData} (F : Fun K "_law_odd" "_law_odd" s__law_odd f fd) : FnG P w K mg base CX0 3 f fd ["_law_pen_here", "_law_part"] (spD K 2 sp__law_odd) :=
 fn_d0 F sc__law_odd rfl (fun cdv A out s H E g r => run__law_odd m_bool m_int m_isinstance m_list m_str m_tuple K__law_pick_2 cdv A out s H E g r) hsp__law_odd
end Ev07
namespace Ev07
open PySem PySem.Spec PyProof.Rows L2 Ev Pt
local macro_rules
  | `(tactic| simp only [DSIMP, $as,*] $[$l:location]?) => `(tactic| simp only [rNeE, rEL, List.isEmpty_nil, List.isEmpty_cons, gIx, rIsA, rIsS, kitS, kitS.optQB, D.cls, dHGet, dHPut, dBornK, penK_cells, penK_at, penK_left, penK_pat, penK_pleft, penK_len, ex_hpK, dOwnGet2, ownKs, dKpL, dNewKd, dKpLk, rDictPTf, dRaise1, dRaise0, excD, dTry, wTry, Ev.rIsE, Ev.rIsEt, D.xcN, dFldE, dCallVX, WP, exS_tab, dTakeN, dIxN, dKpNew, dKpPut, dKpIns, dKpApp, dKpFz, dRoK, dRoL, dNewK1, dIns, roK, dZipM, dNGet, dNPut, dNewN, isNo, Ev.nGet, Ev.nPut, D.nkey, b2n, rAddB, rSubB, rStrB, rEqE, dSrtSet, dOrX, truD, rDictX, dTupN, dSlN, rAddN, rSrtN, rTupleN, rDictN, dSlX, dRevX, dLenSetN, dEmptyV, rLtX, rMulX, Ev.rReprX, dPenS, gStarDL, dAug, dIndexE, dZipS, dGcIn, dGbIx, dGdIn, dGdIx, dListRg, rDictPf, dZipL, dListKo, dEmptyT, dDispT1, dNeE, rListA, rDictPT, rIsTF, dGroup, rSrtA, rLenA, dInV, dIxV, dCount, dSortKo, dCallR, adD, gL, dDN, dLN, wNest, bNest, bEl, bEd, dZip, seqOf, dSortDK, dCallV, dCallLam, optQ, dEnum, D.nf, D.nfs, Ev.rSumD, dLock, dKeysI, gStarD, dReverse, dMove, dDGet2, getD2, D.isD, dDisp, dPairs, keysD, Ev.rMaxD, Ev.rMinD, rDictP, Option.getD_some, Option.getD_none, Ev.D.eq_refl, dPen1, dLenSet, dSrtR, dRo, dRoF, dRoT, roD, ro_un, ro_dat, ro_own, ro_hp, ro_law, ro_ownK, ro_ownT, List.forall_mem_map, flat_int, flat_str, flat_bl, flat_non, solid_int, solid_str, solid_bl, solid_non, solid_tup, solids_nil, solids_cons, dSeq, dNext, dSet, dSetF, setSl, dVar, dTake, dC, dBin, dBinF, dB, dIfS, dIf, dRet, dRetN, dExpr, dNil, dCons, dTup, dLst, dFz, dAnd, dOr, dNot, dAndV, dOrV, dNotV, dCallD, dCallK, dCB, dCBF, dFor, dLC, dYes, dRng1, dRng2, dSeqI, gN, gT, gsNil, gsCons, dAsg, dNeg, dJoin, dFs, dJs, dFmt, dApp, dExt, dPop, dPopAt, dOwnIx, dOwnCB, dOwnL, dOwnR, dOwnSl, dSetIx, dSlT, dSlL, oNone, oSome, dBorn, optQ, ownAt, setOwnAt, lookAt, wipeD, dNewDT, dNewDK, dDGet, dDIn, dDPut, dSortT, rSrt, isDict, Ev.dictGet, Ev.dictPut, Option.isSome_none, Option.isSome_some, D.keyT, keysOf, D.key, exists_eq_left', exists_eq_left, Option.isSome, rRepL, rCatL, dRetF, dIfF, dPar, dRetOwn, dCallL, dCallLK, dPen2, dRev, dRevI, dIndex, endsL, startL, dNever, dBrk, dCnt, rAddD, rSubI, rIO, rMulI, rDivI, rModI, rPowI, rCI, Ev.rIxD, rIsN, rNotN, D.isN, Ev.rLen, rTuple, rList, rAbs, rInt, rStr, Ev.rRepr, Ev.rIsi, D.ty, kit_tab, startD, endsD, List.map_cons, List.map_nil, List.length_cons, List.length_nil, List.append_nil, List.nil_append, List.cons_append, List.getElem?_cons_zero, List.getElem?_cons_succ, List.getElem?_nil, List.set_cons_zero, List.set_cons_succ, List.replicate, List.replicate_succ, Nat.zero_add, Nat.zero_le, sizeLine, true_and, and_true, if_true, Ev.eq_int, Ev.eq_str, Ev.eq_bl, Ev.eq_non, lst_nil, tup_nil, List.map_eq_nil_iff, txt_join, rLt, rLe, rGt, rGe, atI_ofNat, atI_last, wLC, strsOf, intsOf, blsOf, Option.map_some, Ev.join_two, Ev.join_one, Ev.join_nil, List.sum_cons, List.sum_nil, PySem.Str.empty_append, ixN_ofNat, Option.some.injEq, exists_eq', List.length_map, decide_true, decide_false, Bool.not_true, Bool.not_false, Bool.true_eq_false, Bool.false_eq_true, false_and, and_false, if_false, ite_true, ite_false, Nat.reduceAdd, Nat.reduceSub, Nat.reduceMul, Nat.reduceLT, Nat.reduceLeDiff, Nat.reduceEqDiff, Nat.reducePow, Int.reduceToNat, Int.reducePow, pickL, List.filterMap_cons, List.filterMap_nil, and_self, Int.reduceLT, Int.reduceLE, Int.reduceNeg, Int.reduceAdd, Int.reduceMul, Int.reduceSub, Int.reduceEq, reduceIte, reduceCtorEq, lit_eq, String.reduceEq, Ev.rEq, Ev.rNe, Ev.rInD, cut_toN, cut_fromN, List.map_take, List.forall_mem_cons, List.forall_mem_nil, List.not_mem_nil, false_imp_iff, implies_true, forall_const, D.cm, D.lay, D.lays, D.dep, D.deps, strOk_lit, lays_ints, deps_ints, Nat.max_self, Nat.max_zero, Nat.zero_max, Bool.and_self, Bool.true_and, Bool.and_true, Bool.and_false, Bool.false_and, Bool.or_false, Bool.or_true, Bool.true_or, Bool.false_or, List.any_cons, List.any_nil, decide_eq_true_eq, eq_self, $as,*] $[$l]?)
  | `(tactic| simp only [DSIMP] $[$l:location]?) => `(tactic| simp only [rNeE, rEL, List.isEmpty_nil, List.isEmpty_cons, gIx, rIsA, rIsS, kitS, kitS.optQB, D.cls, dHGet, dHPut, dBornK, penK_cells, penK_at, penK_left, penK_pat, penK_pleft, penK_len, ex_hpK, dOwnGet2, ownKs, dKpL, dNewKd, dKpLk, rDictPTf, dRaise1, dRaise0, excD, dTry, wTry, Ev.rIsE, Ev.rIsEt, D.xcN, dFldE, dCallVX, WP, exS_tab, dTakeN, dIxN, dKpNew, dKpPut, dKpIns, dKpApp, dKpFz, dRoK, dRoL, dNewK1, dIns, roK, dZipM, dNGet, dNPut, dNewN, isNo, Ev.nGet, Ev.nPut, D.nkey, b2n, rAddB, rSubB, rStrB, rEqE, dSrtSet, dOrX, truD, rDictX, dTupN, dSlN, rAddN, rSrtN, rTupleN, rDictN, dSlX, dRevX, dLenSetN, dEmptyV, rLtX, rMulX, Ev.rReprX, dPenS, gStarDL, dAug, dIndexE, dZipS, dGcIn, dGbIx, dGdIn, dGdIx, dListRg, rDictPf, dZipL, dListKo, dEmptyT, dDispT1, dNeE, rListA, rDictPT, rIsTF, dGroup, rSrtA, rLenA, dInV, dIxV, dCount, dSortKo, dCallR, adD, gL, dDN, dLN, wNest, bNest, bEl, bEd, dZip, seqOf, dSortDK, dCallV, dCallLam, optQ, dEnum, D.nf, D.nfs, Ev.rSumD, dLock, dKeysI, gStarD, dReverse, dMove, dDGet2, getD2, D.isD, dDisp, dPairs, keysD, Ev.rMaxD, Ev.rMinD, rDictP, Option.getD_some, Option.getD_none, Ev.D.eq_refl, dPen1, dLenSet, dSrtR, dRo, dRoF, dRoT, roD, ro_un, ro_dat, ro_own, ro_hp, ro_law, ro_ownK, ro_ownT, List.forall_mem_map, flat_int, flat_str, flat_bl, flat_non, solid_int, solid_str, solid_bl, solid_non, solid_tup, solids_nil, solids_cons, dSeq, dNext, dSet, dSetF, setSl, dVar, dTake, dC, dBin, dBinF, dB, dIfS, dIf, dRet, dRetN, dExpr, dNil, dCons, dTup, dLst, dFz, dAnd, dOr, dNot, dAndV, dOrV, dNotV, dCallD, dCallK, dCB, dCBF, dFor, dLC, dYes, dRng1, dRng2, dSeqI, gN, gT, gsNil, gsCons, dAsg, dNeg, dJoin, dFs, dJs, dFmt, dApp, dExt, dPop, dPopAt, dOwnIx, dOwnCB, dOwnL, dOwnR, dOwnSl, dSetIx, dSlT, dSlL, oNone, oSome, dBorn, optQ, ownAt, setOwnAt, lookAt, wipeD, dNewDT, dNewDK, dDGet, dDIn, dDPut, dSortT, rSrt, isDict, Ev.dictGet, Ev.dictPut, Option.isSome_none, Option.isSome_some, D.keyT, keysOf, D.key, exists_eq_left', exists_eq_left, Option.isSome, rRepL, rCatL, dRetF, dIfF, dPar, dRetOwn, dCallL, dCallLK, dPen2, dRev, dRevI, dIndex, endsL, startL, dNever, dBrk, dCnt, rAddD, rSubI, rIO, rMulI, rDivI, rModI, rPowI, rCI, Ev.rIxD, rIsN, rNotN, D.isN, Ev.rLen, rTuple, rList, rAbs, rInt, rStr, Ev.rRepr, Ev.rIsi, D.ty, kit_tab, startD, endsD, List.map_cons, List.map_nil, List.length_cons, List.length_nil, List.append_nil, List.nil_append, List.cons_append, List.getElem?_cons_zero, List.getElem?_cons_succ, List.getElem?_nil, List.set_cons_zero, List.set_cons_succ, List.replicate, List.replicate_succ, Nat.zero_add, Nat.zero_le, sizeLine, true_and, and_true, if_true, Ev.eq_int, Ev.eq_str, Ev.eq_bl, Ev.eq_non, lst_nil, tup_nil, List.map_eq_nil_iff, txt_join, rLt, rLe, rGt, rGe, atI_ofNat, atI_last, wLC, strsOf, intsOf, blsOf, Option.map_some, Ev.join_two, Ev.join_one, Ev.join_nil, List.sum_cons, List.sum_nil, PySem.Str.empty_append, ixN_ofNat, Option.some.injEq, exists_eq', List.length_map, decide_true, decide_false, Bool.not_true, Bool.not_false, Bool.true_eq_false, Bool.false_eq_true, false_and, and_false, if_false, ite_true, ite_false, Nat.reduceAdd, Nat.reduceSub, Nat.reduceMul, Nat.reduceLT, Nat.reduceLeDiff, Nat.reduceEqDiff, Nat.reducePow, Int.reduceToNat, Int.reducePow, pickL, List.filterMap_cons, List.filterMap_nil, and_self, Int.reduceLT, Int.reduceLE, Int.reduceNeg, Int.reduceAdd, Int.reduceMul, Int.reduceSub, Int.reduceEq, reduceIte, reduceCtorEq, lit_eq, String.reduceEq, Ev.rEq, Ev.rNe, Ev.rInD, cut_toN, cut_fromN, List.map_take, List.forall_mem_cons, List.forall_mem_nil, List.not_mem_nil, false_imp_iff, implies_true, forall_const, D.cm, D.lay, D.lays, D.dep, D.deps, strOk_lit, lays_ints, deps_ints, Nat.max_self, Nat.max_zero, Nat.zero_max, Bool.and_self, Bool.true_and, Bool.and_true, Bool.and_false, Bool.false_and, Bool.or_false, Bool.or_true, Bool.true_or, Bool.false_or, List.any_cons, List.any_nil, decide_eq_true_eq, eq_self] $[$l]?)
variable [TabC] [PkD]
theorem put18 {N k k' : Nat} {xs : List D} {i : Nat} {d : D} (hi : i < xs.length) (h : Ls N (D.szRs xs) k xs) (hd : Es N (3 * xs[i].szR + 1100) k' d) (hk : k ≤ k') : Es N (3 * D.szRs xs + 1105) (k' + 1) (.tup (xs.take i ++ [d] ++ xs.drop (i + 1))) := by
  have e : xs = xs.take i ++ ([xs[i]] ++ xs.drop (i + 1)) := by
    rw [List.singleton_append, List.getElem_cons_drop, List.take_append_drop]
  have z := congrArg D.szRs e
  rw [szRs_app, szRs_app] at z
  have o : D.szRs [xs[i]] = xs[i].szR + 2 + 0 := rfl
  have a1 : Ls N (D.szRs (xs.take i)) k' (xs.take i) := ⟨(h.sub (List.take_sublist _ _)).ok, Nat.le_refl _, Nat.le_trans (h.sub (List.take_sublist _ _)).de hk⟩
  have a2 : Ls N (D.szRs (xs.drop (i + 1))) k' (xs.drop (i + 1)) := ⟨(h.sub (List.drop_sublist _ _)).ok, Nat.le_refl _, Nat.le_trans (h.sub (List.drop_sublist _ _)).de hk⟩
  exact (Ls.tup ((a1.app (.one hd)).app a2)).mono (Nat.le_refl _) (by omega) (Nat.le_refl _)
def sp__law_bent : Nat → dSp
  | 0 => fun _ _ _ _ => False
  | m + 1 => fun ds p Q _ => ∃ (a : Addr) (c N n k : Nat) (d : D), ds = [.raw (.ref a), d, .int m] ∧ p = some (a, c) ∧ c + 2 * m + 6 < 65536 ∧ Es N n k d ∧ big ≤ N ∧ N < great ∧ n ≤ 20000 ∧
    ∀ d' c', Es (N + 1) (3 * n + 1100) (k + 1) d' → c' ≤ c + 2 * m + 2 → Q d' (some (a, c'))
abbrev s__law_bent : Stmt := topS 26
abbrev n__law_bent : List Str := ["_law_pen_here", "_law_now", "_law_deep_here", "_law_at"]
theorem sc__law_bent : FnScope n__law_bent ["_law_pen_here", "_law_now", "_law_deep_here"] (defScope s__law_bent) := ⟨rfl, rfl, rfl, by decide +kernel, rfl, by decide +kernel, by decide +kernel⟩
def p__law_bent_x2_0 (rs : dSp) : dS := (dSet 3 (dCallD 2 [] sp__law_take (dCons (dVar 0) (dCons (dCB rLen (dCons (dVar 1) dNil)) dNil))))
def p__law_bent_x2_1 (rs : dSp) : dS := (dRet (dBin rAddD (dBin rAddD (dSlT (dVar 1) oNone (oSome (dVar 3))) (dTup (dCons (dCallD 3 [] rs (dCons (dVar 0) (dCons (dBin rIxD (dVar 1) (dVar 3)) (dCons (dBin rSubI (dVar 2) (dC (.int 1))) dNil)))) dNil))) (dSlT (dVar 1) (oSome (dBin rAddD (dVar 3) (dC (.int 1)))) oNone)))
def b__law_bent_x2_1 (rs : dSp) : dS := p__law_bent_x2_1 rs
def b__law_bent_x2_0 (rs : dSp) : dS := dSeq (p__law_bent_x2_0 rs) (b__law_bent_x2_1 rs)
def p__law_bent_0 (rs : dSp) : dS := (dIfS (dAnd (dB (dCB (rIsi "tuple") (dCons (dVar 1) (dCons (dC (.raw (.ty "tuple"))) dNil)))) (dAnd (dB (dBin (rNeE) (dVar 1) (dTup dNil))) (dAnd (dB (dBin (rGt) (dVar 2) (dC (.int 0)))) (dB (dBin (rGt) (dCallD 2 [] sp__law_take (dCons (dVar 0) (dCons (dC (.int 6)) dNil))) (dC (.int 0))))))) (b__law_bent_x2_0 rs) dNext)
def p__law_bent_1 (rs : dSp) : dS := (dRet (dCallD 2 [] sp__law_odd (dCons (dVar 0) (dCons (dVar 1) dNil))))
def b__law_bent_1 (rs : dSp) : dS := p__law_bent_1 rs
def b__law_bent_0 (rs : dSp) : dS := dSeq (p__law_bent_0 rs) (b__law_bent_1 rs)
def b__law_bent (rs : dSp) : dS := (b__law_bent_0 rs)
theorem run__law_bent {P : Program} {w : World} {K : PySem.W.Frag} {mg : Str → Option Value} {base : Heap} (m_isinstance : mg "isinstance" = none) (m_len : mg "len" = none) (m_tuple : mg "tuple" = none) (K__law_odd_2 : Def P w K mg base 3 "_law_odd" 2 sp__law_odd []) (K__law_take_2 : Def P w K mg base 1 "_law_take" 2 sp__law_take []) (rs : dSp) (hm : Nat) (hle : 3 ≤ hm) (K__law_bent_3 : Def P w K mg base hm "_law_bent" 3 rs []) {f : Addr} (cdv : Value) (A : Around) (out : List Env) (s : Shared) (H : Hp) (E : XK) (g : A.guards = some []) (hrA : Room hm (A.deeper (envOfC "_law_bent" (defScope s__law_bent) s.heap.objs.size f cdv))) :
  DSs (cx0 P w K mg base n__law_bent "_law_bent" (defScope s__law_bent) f cdv A out s H E) E00 (defBody s__law_bent) (b__law_bent rs) := by
 have hgA : (A.deeper (envOfC "_law_bent" (defScope s__law_bent) s.heap.objs.size f cdv)).guards = some [] := g
 have hun : (A.deeper (envOfC "_law_bent" (defScope s__law_bent) s.heap.objs.size f cdv)).units + 200 < cLine := by have := hrA.un; omega
 exact (dss_cons (t := p__law_bent_0 rs) (u := b__law_bent_1 rs) (ds_if ((dw_and (dt_val (de_callB (cd_isi "tuple") (by rfl) m_isinstance (by decide +kernel) (da_cons (de_var (pv 1)) (da_cons (de_ty (n := "tuple") (by rfl) m_tuple (by decide +kernel)) da_nil)))) (dw_and (dt_cmp (od_neE (Nat.lt_of_le_of_lt (Nat.le_add_right _ _) hun)) (de_var (pv 1)) (de_tup da_nil) (nomark _)) (dw_and (dt_cmp (od_gt) (de_var (pv 2)) de_int (nomark _)) (dw_and1 (dt_cmp (od_gt) (de_callD (hj := by omega) K__law_take_2 hgA hrA (by rfl) (da_cons (de_var (pv 0)) (da_cons de_int da_nil))) de_int (nomark _))))))).dt (dss_cons (t := p__law_bent_x2_0 rs) (u := b__law_bent_x2_1 rs) (ds_set (i := 3) sc__law_bent.nd rfl (by first | exact .inl rfl | exact .inr rfl) (de_callD (hj := by omega) K__law_take_2 hgA hrA (by rfl) (da_cons (de_var (pv 0)) (da_cons (de_callB (cd_len) (by rfl) m_len PySem.boot_len (da_cons (de_var (pv 1)) da_nil)) da_nil))))
  (dss_one (t := p__law_bent_x2_1 rs) (ds_ret (de_op od_add (de_op od_add (de_slT (de_var (pv 1)) do_none (do_some (de_var (pv 3)))) (de_tup (da_cons (de_callD (hj := by omega) K__law_bent_3 hgA hrA (by rfl) (da_cons (de_var (pv 0)) (da_cons (de_ix (de_var (pv 1)) (de_var (pv 3)) (fun _ _ => rfl)) (da_cons (de_op od_sub (de_var (pv 2)) de_int) da_nil)))) da_nil))) (de_slT (de_var (pv 1)) (do_some (de_op od_add (de_var (pv 3)) de_int)) do_none))))) dss_nil)
  (dss_one (t := p__law_bent_1 rs) (ds_ret (de_callD (hj := by omega) K__law_odd_2 hgA hrA (by rfl) (da_cons (de_var (pv 0)) (da_cons (de_var (pv 1)) da_nil))))))
theorem hsp__law_bent : ∀ m ds p Q W, ds.length = 3 → sp__law_bent (m + 1) ds p Q W → b__law_bent (sp__law_bent m) W0 (endsD Q) (startD n__law_bent.length ds p) := by
  rintro m _ _ Q W - ⟨a, c, N, n, k, d, rfl, rfl, hc, e, hN, hG, hn, q⟩
  have odd : ∀ (c0 : Nat) W', c0 ≤ c + 1 → sp__law_odd [.raw (.ref a), d] (some (a, c0)) Q W' := fun c0 _ h0 =>
    ⟨a, c0, N, n, k, d, rfl, rfl, by omega, e, hN, hG, by omega, fun d' c' h hc' => q d' c' (h.mono (Nat.le_refl _) (by omega) (by omega)) (by omega)⟩
  have ok := e.ok
  cases d with
  | non => simp only [DSIMP, n__law_bent, b__law_bent, b__law_bent_0, p__law_bent_0, b__law_bent_1, p__law_bent_1]; exact odd c _ (by omega)
  | bl b => simp only [DSIMP, n__law_bent, b__law_bent, b__law_bent_0, p__law_bent_0, b__law_bent_1, p__law_bent_1]; exact odd c _ (by omega)
  | int i => simp only [DSIMP, n__law_bent, b__law_bent, b__law_bent_0, p__law_bent_0, b__law_bent_1, p__law_bent_1]; exact odd c _ (by omega)
  | str i => simp only [DSIMP, n__law_bent, b__law_bent, b__law_bent_0, p__law_bent_0, b__law_bent_1, p__law_bent_1]; exact odd c _ (by omega)
  | lst i => simp only [DSIMP, n__law_bent, b__law_bent, b__law_bent_0, p__law_bent_0, b__law_bent_1, p__law_bent_1]; exact odd c _ (by omega)
  | dT i => simp only [DSIMP, n__law_bent, b__law_bent, b__law_bent_0, p__law_bent_0, b__law_bent_1, p__law_bent_1]; exact odd c _ (by omega)
  | tup xs =>
    cases hx : xs with
    | nil =>
      subst hx
      simp only [DSIMP, n__law_bent, b__law_bent, b__law_bent_0, p__law_bent_0, b__law_bent_1, p__law_bent_1]
      exact odd c _ (by omega)
    | cons y ys =>
    have hne : xs.isEmpty = false := by rw [hx]; rfl
    have lp : 0 < xs.length := by rw [hx]; exact Nat.succ_pos _
    rw [← hx]
    clear hx y ys
    have sz : D.szRs xs + 5 ≤ n := e.sz
    have de : D.deRs xs + 1 ≤ k := e.de
    have ln := len_szRs xs
    by_cases hm : (m : Int) = 0
    · have gt : ¬ (0 : Int) < ((m : Nat) : Int) := by omega
      simp only [DSIMP, n__law_bent, b__law_bent, b__law_bent_0, p__law_bent_0, b__law_bent_1, p__law_bent_1, hne, eq_false gt]
      exact odd c _ (by omega)
    obtain ⟨m', rfl⟩ : ∃ m', m = m' + 1 := ⟨m - 1, by omega⟩
    have gt : (0 : Int) < ((m' + 1 : Nat) : Int) := by omega
    simp only [DSIMP, n__law_bent, b__law_bent, b__law_bent_0, p__law_bent_0, hne, eq_true gt, sp__law_take, spDraw]
    refine ⟨by omega, fun r r0 r1 => ?_⟩
    by_cases hr : 0 < r
    · simp only [DSIMP, eq_true hr, b__law_bent_x2_0, p__law_bent_x2_0, b__law_bent_x2_1, p__law_bent_x2_1, b__law_bent_x2_1, sp__law_take, spDraw]
      refine ⟨by omega, by omega, by omega, fun t t0 t1 => ?_⟩
      obtain ⟨i, rfl⟩ : ∃ i : Nat, t = (i : Int) := ⟨t.toNat, by omega⟩
      have ht : i < xs.length := by omega
      have ey : atI xs (i : Int) = some xs[i] := by rw [atI_nn t0, Int.toNat_natCast, List.getElem?_eq_getElem ht]
      have ls : Ls N (D.szRs xs) (k - 1) xs := ⟨e.ok, Nat.le_refl _, by omega⟩
      have lm := ls.mem (List.getElem_mem ht)
      simp only [DSIMP, ey, sp__law_bent]
      have sx : xs[i].szR + 2 ≤ D.szRs xs := by
        have := Ls.sub (List.singleton_sublist.mpr (List.getElem_mem ht)) ls
        have : xs[i].szR + 2 + 0 ≤ D.szRs xs := this.sz
        exact this
      refine ⟨a, c + 1 + 1, N, xs[i].szR, k - 1, xs[i], by rw [show (((m' + 1 : Nat) : Int) - 1) = (m' : Int) by omega], rfl, by omega, ⟨lm.ok, Nat.le_refl _, lm.de⟩, hN, hG, by omega, fun d' c' h hc' => ?_⟩
      have e1 : ((i : Int) + 1) = ((i + 1 : Nat) : Int) := rfl
      rw [cut_to, e1, cut_from]
      have h1 : (xs.take i).length ≤ xs.length := List.length_take_le' _ _
      have h2 : (xs.drop (i + 1)).length ≤ xs.length := (List.drop_sublist _ _).length_le
      refine ⟨by omega, by simp only [List.length_append, List.length_cons, List.length_nil]; omega, q _ _ ((put18 (N := N + 1) ht (ls.mono (Nat.le_succ _) (Nat.le_refl _) (Nat.le_refl _)) h (by omega)).mono (Nat.le_refl _) (by omega) (by omega)) (by omega)⟩
    · simp only [DSIMP, eq_false hr, b__law_bent_1, p__law_bent_1, b__law_bent_1]
      exact odd (c + 1) _ (by omega)
  | _ => cases ok
theorem ok__law_bent {P : Program} {w : World} {K : PySem.W.Frag} {mg : Str → Option Value} {base : Heap} (m_isinstance : mg "isinstance" = none) (m_len : mg "len" = none) (m_tuple : mg "tuple" = none) (K__law_odd_2 : Def P w K mg base 3 "_law_odd" 2 sp__law_odd []) (K__law_take_2 : Def P w K mg base 1 "_law_take" 2 sp__law_take []) {f : Addr} {fd : FuncData} (F : Fun K "_law_bent" "_law_bent" s__law_bent f fd) (nf : mg "_law_bent" = some (.ref f)) (kf : PySem.W.keepIn K (.ref f) = true) : ∀ m, FnG P w K mg base CX0 (3 + m) f fd ["_law_pen_here", "_law_now", "_law_deep_here"] (spD K 3 (sp__law_bent m))
  | 0 => ⟨fun vs H Q E q => spD_len vs H Q E q, fun A out s H ar us vs Q E _ _ _ _ _ q => by obtain ⟨S, ds, p, Q2, W2, _, _, _, _, h, _⟩ := q; exact h.elim⟩
  | m + 1 => fn_d0 F sc__law_bent rfl (fun cdv A out s H E g r => run__law_bent m_isinstance m_len m_tuple K__law_odd_2 K__law_take_2 (sp__law_bent m) (3 + m) (Nat.le_add_right _ _) ⟨["_law_pen_here", "_law_now", "_law_deep_here"], f, _, [], [], ok__law_bent m_isinstance m_len m_tuple K__law_odd_2 K__law_take_2 F nf kf m, nf, kf, F.binds (ps := ["_law_pen_here", "_law_now", "_law_deep_here"]) (fun _ _ _ _ _ _ us hl => match us, hl with | [_, _, _], _ => rfl), .nil, fun _ => .nil⟩ cdv A out s H E g r) (hsp__law_bent m)
end Ev07
namespace Ev07
open PySem PySem.Spec PyProof.Rows L2 Ev Pt
local macro_rules
  | `(tactic| simp only [DSIMP, $as,*] $[$l:location]?) => `(tactic| simp only [rNeE, rEL, List.isEmpty_nil, List.isEmpty_cons, gIx, rIsA, rIsS, kitS, kitS.optQB, D.cls, dHGet, dHPut, dBornK, penK_cells, penK_at, penK_left, penK_pat, penK_pleft, penK_len, ex_hpK, dOwnGet2, ownKs, dKpL, dNewKd, dKpLk, rDictPTf, dRaise1, dRaise0, excD, dTry, wTry, Ev.rIsE, Ev.rIsEt, D.xcN, dFldE, dCallVX, WP, exS_tab, dTakeN, dIxN, dKpNew, dKpPut, dKpIns, dKpApp, dKpFz, dRoK, dRoL, dNewK1, dIns, roK, dZipM, dNGet, dNPut, dNewN, isNo, Ev.nGet, Ev.nPut, D.nkey, b2n, rAddB, rSubB, rStrB, rEqE, dSrtSet, dOrX, truD, rDictX, dTupN, dSlN, rAddN, rSrtN, rTupleN, rDictN, dSlX, dRevX, dLenSetN, dEmptyV, rLtX, rMulX, Ev.rReprX, dPenS, gStarDL, dAug, dIndexE, dZipS, dGcIn, dGbIx, dGdIn, dGdIx, dListRg, rDictPf, dZipL, dListKo, dEmptyT, dDispT1, dNeE, rListA, rDictPT, rIsTF, dGroup, rSrtA, rLenA, dInV, dIxV, dCount, dSortKo, dCallR, adD, gL, dDN, dLN, wNest, bNest, bEl, bEd, dZip, seqOf, dSortDK, dCallV, dCallLam, optQ, dEnum, D.nf, D.nfs, Ev.rSumD, dLock, dKeysI, gStarD, dReverse, dMove, dDGet2, getD2, D.isD, dDisp, dPairs, keysD, Ev.rMaxD, Ev.rMinD, rDictP, Option.getD_some, Option.getD_none, Ev.D.eq_refl, dPen1, dLenSet, dSrtR, dRo, dRoF, dRoT, roD, ro_un, ro_dat, ro_own, ro_hp, ro_law, ro_ownK, ro_ownT, List.forall_mem_map, flat_int, flat_str, flat_bl, flat_non, solid_int, solid_str, solid_bl, solid_non, solid_tup, solids_nil, solids_cons, dSeq, dNext, dSet, dSetF, setSl, dVar, dTake, dC, dBin, dBinF, dB, dIfS, dIf, dRet, dRetN, dExpr, dNil, dCons, dTup, dLst, dFz, dAnd, dOr, dNot, dAndV, dOrV, dNotV, dCallD, dCallK, dCB, dCBF, dFor, dLC, dYes, dRng1, dRng2, dSeqI, gN, gT, gsNil, gsCons, dAsg, dNeg, dJoin, dFs, dJs, dFmt, dApp, dExt, dPop, dPopAt, dOwnIx, dOwnCB, dOwnL, dOwnR, dOwnSl, dSetIx, dSlT, dSlL, oNone, oSome, dBorn, optQ, ownAt, setOwnAt, lookAt, wipeD, dNewDT, dNewDK, dDGet, dDIn, dDPut, dSortT, rSrt, isDict, Ev.dictGet, Ev.dictPut, Option.isSome_none, Option.isSome_some, D.keyT, keysOf, D.key, exists_eq_left', exists_eq_left, Option.isSome, rRepL, rCatL, dRetF, dIfF, dPar, dRetOwn, dCallL, dCallLK, dPen2, dRev, dRevI, dIndex, endsL, startL, dNever, dBrk, dCnt, rAddD, rSubI, rIO, rMulI, rDivI, rModI, rPowI, rCI, Ev.rIxD, rIsN, rNotN, D.isN, Ev.rLen, rTuple, rList, rAbs, rInt, rStr, Ev.rRepr, Ev.rIsi, D.ty, kit_tab, startD, endsD, List.map_cons, List.map_nil, List.length_cons, List.length_nil, List.append_nil, List.nil_append, List.cons_append, List.getElem?_cons_zero, List.getElem?_cons_succ, List.getElem?_nil, List.set_cons_zero, List.set_cons_succ, List.replicate, List.replicate_succ, Nat.zero_add, Nat.zero_le, sizeLine, true_and, and_true, if_true, Ev.eq_int, Ev.eq_str, Ev.eq_bl, Ev.eq_non, lst_nil, tup_nil, List.map_eq_nil_iff, txt_join, rLt, rLe, rGt, rGe, atI_ofNat, atI_last, wLC, strsOf, intsOf, blsOf, Option.map_some, Ev.join_two, Ev.join_one, Ev.join_nil, List.sum_cons, List.sum_nil, PySem.Str.empty_append, ixN_ofNat, Option.some.injEq, exists_eq', List.length_map, decide_true, decide_false, Bool.not_true, Bool.not_false, Bool.true_eq_false, Bool.false_eq_true, false_and, and_false, if_false, ite_true, ite_false, Nat.reduceAdd, Nat.reduceSub, Nat.reduceMul, Nat.reduceLT, Nat.reduceLeDiff, Nat.reduceEqDiff, Nat.reducePow, Int.reduceToNat, Int.reducePow, pickL, List.filterMap_cons, List.filterMap_nil, and_self, Int.reduceLT, Int.reduceLE, Int.reduceNeg, Int.reduceAdd, Int.reduceMul, Int.reduceSub, Int.reduceEq, reduceIte, reduceCtorEq, lit_eq, String.reduceEq, Ev.rEq, Ev.rNe, Ev.rInD, cut_toN, cut_fromN, List.map_take, List.forall_mem_cons, List.forall_mem_nil, List.not_mem_nil, false_imp_iff, implies_true, forall_const, D.cm, D.lay, D.lays, D.dep, D.deps, strOk_lit, lays_ints, deps_ints, Nat.max_self, Nat.max_zero, Nat.zero_max, Bool.and_self, Bool.true_and, Bool.and_true, Bool.and_false, Bool.false_and, Bool.or_false, Bool.or_true, Bool.true_or, Bool.false_or, List.any_cons, List.any_nil, decide_eq_true_eq, eq_self, $as,*] $[$l]?)
  | `(tactic| simp only [DSIMP] $[$l:location]?) => `(tactic| simp only [rNeE, rEL, List.isEmpty_nil, List.isEmpty_cons, gIx, rIsA, rIsS, kitS, kitS.optQB, D.cls, dHGet, dHPut, dBornK, penK_cells, penK_at, penK_left, penK_pat, penK_pleft, penK_len, ex_hpK, dOwnGet2, ownKs, dKpL, dNewKd, dKpLk, rDictPTf, dRaise1, dRaise0, excD, dTry, wTry, Ev.rIsE, Ev.rIsEt, D.xcN, dFldE, dCallVX, WP, exS_tab, dTakeN, dIxN, dKpNew, dKpPut, dKpIns, dKpApp, dKpFz, dRoK, dRoL, dNewK1, dIns, roK, dZipM, dNGet, dNPut, dNewN, isNo, Ev.nGet, Ev.nPut, D.nkey, b2n, rAddB, rSubB, rStrB, rEqE, dSrtSet, dOrX, truD, rDictX, dTupN, dSlN, rAddN, rSrtN, rTupleN, rDictN, dSlX, dRevX, dLenSetN, dEmptyV, rLtX, rMulX, Ev.rReprX, dPenS, gStarDL, dAug, dIndexE, dZipS, dGcIn, dGbIx, dGdIn, dGdIx, dListRg, rDictPf, dZipL, dListKo, dEmptyT, dDispT1, dNeE, rListA, rDictPT, rIsTF, dGroup, rSrtA, rLenA, dInV, dIxV, dCount, dSortKo, dCallR, adD, gL, dDN, dLN, wNest, bNest, bEl, bEd, dZip, seqOf, dSortDK, dCallV, dCallLam, optQ, dEnum, D.nf, D.nfs, Ev.rSumD, dLock, dKeysI, gStarD, dReverse, dMove, dDGet2, getD2, D.isD, dDisp, dPairs, keysD, Ev.rMaxD, Ev.rMinD, rDictP, Option.getD_some, Option.getD_none, Ev.D.eq_refl, dPen1, dLenSet, dSrtR, dRo, dRoF, dRoT, roD, ro_un, ro_dat, ro_own, ro_hp, ro_law, ro_ownK, ro_ownT, List.forall_mem_map, flat_int, flat_str, flat_bl, flat_non, solid_int, solid_str, solid_bl, solid_non, solid_tup, solids_nil, solids_cons, dSeq, dNext, dSet, dSetF, setSl, dVar, dTake, dC, dBin, dBinF, dB, dIfS, dIf, dRet, dRetN, dExpr, dNil, dCons, dTup, dLst, dFz, dAnd, dOr, dNot, dAndV, dOrV, dNotV, dCallD, dCallK, dCB, dCBF, dFor, dLC, dYes, dRng1, dRng2, dSeqI, gN, gT, gsNil, gsCons, dAsg, dNeg, dJoin, dFs, dJs, dFmt, dApp, dExt, dPop, dPopAt, dOwnIx, dOwnCB, dOwnL, dOwnR, dOwnSl, dSetIx, dSlT, dSlL, oNone, oSome, dBorn, optQ, ownAt, setOwnAt, lookAt, wipeD, dNewDT, dNewDK, dDGet, dDIn, dDPut, dSortT, rSrt, isDict, Ev.dictGet, Ev.dictPut, Option.isSome_none, Option.isSome_some, D.keyT, keysOf, D.key, exists_eq_left', exists_eq_left, Option.isSome, rRepL, rCatL, dRetF, dIfF, dPar, dRetOwn, dCallL, dCallLK, dPen2, dRev, dRevI, dIndex, endsL, startL, dNever, dBrk, dCnt, rAddD, rSubI, rIO, rMulI, rDivI, rModI, rPowI, rCI, Ev.rIxD, rIsN, rNotN, D.isN, Ev.rLen, rTuple, rList, rAbs, rInt, rStr, Ev.rRepr, Ev.rIsi, D.ty, kit_tab, startD, endsD, List.map_cons, List.map_nil, List.length_cons, List.length_nil, List.append_nil, List.nil_append, List.cons_append, List.getElem?_cons_zero, List.getElem?_cons_succ, List.getElem?_nil, List.set_cons_zero, List.set_cons_succ, List.replicate, List.replicate_succ, Nat.zero_add, Nat.zero_le, sizeLine, true_and, and_true, if_true, Ev.eq_int, Ev.eq_str, Ev.eq_bl, Ev.eq_non, lst_nil, tup_nil, List.map_eq_nil_iff, txt_join, rLt, rLe, rGt, rGe, atI_ofNat, atI_last, wLC, strsOf, intsOf, blsOf, Option.map_some, Ev.join_two, Ev.join_one, Ev.join_nil, List.sum_cons, List.sum_nil, PySem.Str.empty_append, ixN_ofNat, Option.some.injEq, exists_eq', List.length_map, decide_true, decide_false, Bool.not_true, Bool.not_false, Bool.true_eq_false, Bool.false_eq_true, false_and, and_false, if_false, ite_true, ite_false, Nat.reduceAdd, Nat.reduceSub, Nat.reduceMul, Nat.reduceLT, Nat.reduceLeDiff, Nat.reduceEqDiff, Nat.reducePow, Int.reduceToNat, Int.reducePow, pickL, List.filterMap_cons, List.filterMap_nil, and_self, Int.reduceLT, Int.reduceLE, Int.reduceNeg, Int.reduceAdd, Int.reduceMul, Int.reduceSub, Int.reduceEq, reduceIte, reduceCtorEq, lit_eq, String.reduceEq, Ev.rEq, Ev.rNe, Ev.rInD, cut_toN, cut_fromN, List.map_take, List.forall_mem_cons, List.forall_mem_nil, List.not_mem_nil, false_imp_iff, implies_true, forall_const, D.cm, D.lay, D.lays, D.dep, D.deps, strOk_lit, lays_ints, deps_ints, Nat.max_self, Nat.max_zero, Nat.zero_max, Bool.and_self, Bool.true_and, Bool.and_true, Bool.and_false, Bool.false_and, Bool.or_false, Bool.or_true, Bool.true_or, Bool.false_or, List.any_cons, List.any_nil, decide_eq_true_eq, eq_self] $[$l]?)
variable [TabC] [PkD]
theorem Ls.set {N n k : Nat} {a : List D} (h : Ls N n k a) {i : Nat} (hi : i < a.length) {d : D} {m : Nat} (hd : Es N m k d) : Ls N (n + m + 2) k (a.set i d) := by
  have e : a.set i d = a.take i ++ ([d] ++ a.drop (i + 1)) := by rw [List.set_eq_take_append_cons_drop, if_pos hi]; rfl
  rw [e]
  have z : D.szRs (a.take i) + D.szRs (a.drop (i + 1)) ≤ n := by
    have h1 : D.szRs a = D.szRs (a.take i) + D.szRs (a.drop i) := by rw [← szRs_app, List.take_append_drop]
    have h2 : D.szRs (a.drop i) = a[i].szR + 2 + D.szRs (a.drop (i + 1)) := by rw [List.drop_eq_getElem_cons hi]; rfl
    have := h.sz
    omega
  have a1 : Ls N (D.szRs (a.take i)) k (a.take i) := ⟨(h.sub (List.take_sublist _ _)).ok, Nat.le_refl _, (h.sub (List.take_sublist _ _)).de⟩
  have a2 : Ls N (D.szRs (a.drop (i + 1))) k (a.drop (i + 1)) := ⟨(h.sub (List.drop_sublist _ _)).ok, Nat.le_refl _, (h.sub (List.drop_sublist _ _)).de⟩
  exact (a1.app ((Ls.one hd).app a2)).mono (Nat.le_refl _) (by omega) (Nat.le_refl _)
def sp__law_mixed : dSp := fun ds p Q _ => ∃ (a : Addr) (c : Nat) (xs : List D), ds = [.raw (.ref a), .tup xs] ∧ p = some (a, c) ∧ c + 10 < 65536 ∧ 0 < xs.length ∧ xs.length ≤ 10 ∧ (∀ x ∈ xs, ∃ (u v : D) (t : List D), x = .tup (u :: v :: t)) ∧ Ls 1000 20000 10 xs ∧ ∀ d c', Es 1000 100000 11 d → c' ≤ c + 3 → Q d (some (a, c'))
abbrev s__law_mixed : Stmt := topS 27
abbrev n__law_mixed : List Str := ["_law_pen_here", "_law_lines", "_law_at", "_law_to", "_law_found", "_law_way"]
theorem sc__law_mixed : FnScope n__law_mixed ["_law_pen_here", "_law_lines"] (defScope s__law_mixed) := ⟨rfl, rfl, rfl, by decide +kernel, rfl, by decide +kernel, by decide +kernel⟩
def p__law_mixed_0 : dS := (dPar 2 3 (dCons (dCallD 2 [] sp__law_take (dCons (dVar 0) (dCons (dCB rLen (dCons (dVar 1) dNil)) dNil))) (dCons (dCallD 2 [] sp__law_take (dCons (dVar 0) (dCons (dCB rLen (dCons (dVar 1) dNil)) dNil))) dNil)))
def p__law_mixed_1 : dS := (dSetF 4 (dCBF rList (dCons (dVar 1) dNil)))
def p__law_mixed_2 : dS := (dSet 5 (dCallD 2 [] sp__law_take (dCons (dVar 0) (dCons (dC (.int 5)) dNil))))
def p__law_mixed_3 : dS := (dIfS (dB (dBin (rEq) (dVar 5) (dC (.int 0)))) (dAsg (dTup (dCons (dOwnIx 4 (dVar 3)) (dCons (dOwnIx 4 (dVar 2)) dNil))) (gT 2 (gsCons (gIx 4 (dVar 2)) (gsCons (gIx 4 (dVar 3)) gsNil)))) dNext)
def p__law_mixed_4 : dS := (dIfS (dB (dBin (rEq) (dVar 5) (dC (.int 1)))) (dIns 4 (dCons (dVar 3) (dCons (dOwnIx 4 (dVar 2)) dNil))) dNext)
def p__law_mixed_5 : dS := (dIfS (dB (dBin (rEq) (dVar 5) (dC (.int 2)))) (dExpr (dPopAt 4 (dVar 2))) dNext)
def p__law_mixed_6 : dS := (dIfS (dB (dBin (rGt) (dVar 5) (dC (.int 2)))) (dSetIx 4 (dVar 2) (dBin rAddD (dTup (dCons (dBin rIxD (dOwnIx 4 (dVar 2)) (dC (.int 0))) (dCons (dBin rIxD (dOwnIx 4 (dVar 3)) (dC (.int 0))) dNil))) (dSlT (dOwnIx 4 (dVar 2)) (oSome (dC (.int 2))) oNone))) dNext)
def p__law_mixed_7 : dS := (dRet (dCB rTuple (dCons (dTake 4) dNil)))
def b__law_mixed_7 : dS := p__law_mixed_7
def b__law_mixed_6 : dS := dSeq (p__law_mixed_6) (b__law_mixed_7)
def b__law_mixed_5 : dS := dSeq (p__law_mixed_5) (b__law_mixed_6)
def b__law_mixed_4 : dS := dSeq (p__law_mixed_4) (b__law_mixed_5)
def b__law_mixed_3 : dS := dSeq (p__law_mixed_3) (b__law_mixed_4)
def b__law_mixed_2 : dS := dSeq (p__law_mixed_2) (b__law_mixed_3)
def b__law_mixed_1 : dS := dSeq (p__law_mixed_1) (b__law_mixed_2)
def b__law_mixed_0 : dS := dSeq (p__law_mixed_0) (b__law_mixed_1)
def b__law_mixed : dS := b__law_mixed_0
theorem run__law_mixed {P : Program} {w : World} {K : PySem.W.Frag} {mg : Str → Option Value} {base : Heap} (m_len : mg "len" = none) (m_list : mg "list" = none) (m_tuple : mg "tuple" = none) (K__law_take_2 : Def P w K mg base 1 "_law_take" 2 sp__law_take []) {f : Addr} (cdv : Value) (A : Around) (out : List Env) (s : Shared) (H : Hp) (E : XK) (g : A.guards = some []) (hrA : Room 1 (A.deeper (envOfC "_law_mixed" (defScope s__law_mixed) s.heap.objs.size f cdv))) :
  DSs (cx0 P w K mg base n__law_mixed "_law_mixed" (defScope s__law_mixed) f cdv A out s H E) E00 (defBody s__law_mixed) b__law_mixed := by
 have hgA : (A.deeper (envOfC "_law_mixed" (defScope s__law_mixed) s.heap.objs.size f cdv)).guards = some [] := g
 have hun := hrA.un
 exact (dss_cons (t := p__law_mixed_0) (u := b__law_mixed_1) (ds_par (i := 2) (j := 3) rfl sc__law_mixed.nd rfl rfl (by decide) rfl rfl (da_cons (de_callD K__law_take_2 hgA hrA (by rfl) (da_cons (de_var (pv 0)) (da_cons (de_callB (cd_len) (by rfl) m_len PySem.boot_len (da_cons (de_var (pv 1)) da_nil)) da_nil))) (da_cons (de_callD K__law_take_2 hgA hrA (by rfl) (da_cons (de_var (pv 0)) (da_cons (de_callB (cd_len) (by rfl) m_len PySem.boot_len (da_cons (de_var (pv 1)) da_nil)) da_nil))) da_nil)) (by rfl))
  (dss_cons (t := p__law_mixed_1) (u := b__law_mixed_2) (ds_setF (i := 4) sc__law_mixed.nd rfl (by first | exact .inl rfl | exact .inr rfl) (df_callTy cd_list (by rfl) m_list (by decide +kernel) (da_cons (de_var (pv 1)) da_nil)))
  (dss_cons (t := p__law_mixed_2) (u := b__law_mixed_3) (ds_set (i := 5) sc__law_mixed.nd rfl (by first | exact .inl rfl | exact .inr rfl) (de_callD K__law_take_2 hgA hrA (by rfl) (da_cons (de_var (pv 0)) (da_cons de_int da_nil))))
  (dss_cons (t := p__law_mixed_3) (u := b__law_mixed_4) (ds_if (dt_cmp (od_eq (Nat.lt_of_le_of_lt (Nat.add_le_add_left (by decide) _) hun)) (de_var (pv 5)) de_int (nomark _)) (dss_one (ds_asg (de_tup (da_cons (de_ownIx (pv 4) (de_var (pv 3)) (fun _ _ => rfl)) (da_cons (de_ownIx (pv 4) (de_var (pv 2)) (fun _ _ => rfl)) da_nil))) (dg_tup rfl (dgs_cons (dg_ix (pv 4) (de_var (pv 2))) (dgs_cons (dg_ix (pv 4) (de_var (pv 3))) dgs_nil))))) dss_nil)
  (dss_cons (t := p__law_mixed_4) (u := b__law_mixed_5) (ds_if (dt_cmp (od_eq (Nat.lt_of_le_of_lt (Nat.add_le_add_left (by decide) _) hun)) (de_var (pv 5)) de_int (nomark _)) (dss_one (ds_ins (pv 4) (da_cons (de_var (pv 3)) (da_cons (de_ownIx (pv 4) (de_var (pv 2)) (fun _ _ => rfl)) da_nil)))) dss_nil)
  (dss_cons (t := p__law_mixed_5) (u := b__law_mixed_6) (ds_if (dt_cmp (od_eq (Nat.lt_of_le_of_lt (Nat.add_le_add_left (by decide) _) hun)) (de_var (pv 5)) de_int (nomark _)) (dss_one (ds_expr (de_popAt (pv 4) (de_var (pv 2))))) dss_nil)
  (dss_cons (t := p__law_mixed_6) (u := b__law_mixed_7) (ds_if (dt_cmp (od_gt) (de_var (pv 5)) de_int (nomark _)) (dss_one (ds_setIx (pv 4) (de_var (pv 2)) (de_op od_add (de_tup (da_cons (de_ix (de_ownIx (pv 4) (de_var (pv 2)) (fun _ _ => rfl)) de_int (fun _ _ => rfl)) (da_cons (de_ix (de_ownIx (pv 4) (de_var (pv 3)) (fun _ _ => rfl)) de_int (fun _ _ => rfl)) da_nil))) (de_slT (de_ownIx (pv 4) (de_var (pv 2)) (fun _ _ => rfl)) (do_some de_int) do_none)))) dss_nil)
  (dss_one (t := p__law_mixed_7) (ds_ret (de_callTy (cd_tuple) (by rfl) m_tuple (by decide +kernel) (da_cons (de_take (pv 4)) da_nil)))))))))))
theorem hsp__law_mixed : ∀ ds p Q W, ds.length = 2 → sp__law_mixed ds p Q W → b__law_mixed W0 (endsD Q) (startD n__law_mixed.length ds p) := by
  rintro _ _ Q W - ⟨a, c, xs, rfl, rfl, hc, l0, l10, hx, ls, q⟩
  simp only [DSIMP, n__law_mixed, b__law_mixed, b__law_mixed_0, p__law_mixed_0, sp__law_take, spDraw]
  refine ⟨by omega, by omega, by omega, fun t t0 t1 => ⟨by omega, by omega, by omega, fun r r0 r1 => ?_⟩⟩
  simp only [DSIMP, b__law_mixed_1, p__law_mixed_1, b__law_mixed_2, p__law_mixed_2, sp__law_take, spDraw]
  refine ⟨by omega, fun w w0 w1 => ?_⟩
  obtain ⟨i, rfl⟩ : ∃ i : Nat, t = (i : Int) := ⟨t.toNat, by omega⟩
  obtain ⟨j, rfl⟩ : ∃ j : Nat, r = (j : Int) := ⟨r.toNat, by omega⟩
  have hi : i < xs.length := by omega
  have hj : j < xs.length := by omega
  have ai : atI xs (i : Int) = some xs[i] := by rw [atI_nn t0, Int.toNat_natCast, List.getElem?_eq_getElem hi]
  have aj : atI xs (j : Int) = some xs[j] := by rw [atI_nn r0, Int.toNat_natCast, List.getElem?_eq_getElem hj]
  have mi := ls.mem (List.getElem_mem hi)
  have mj := ls.mem (List.getElem_mem hj)
  have fin : ∀ (L : List D) (s5 : Sl), L.length ≤ 20 → Ls 1000 95000 10 L → b__law_mixed_7 W0 (endsD Q) ⟨[.dat (.raw (.ref a)), .dat (.tup xs), .dat (.int i), .dat (.int j), .own L, s5], some (a, c + 1 + 1 + 1)⟩ := fun L s5 hl h => by
    simp only [DSIMP, b__law_mixed_7, p__law_mixed_7, b__law_mixed_7]
    exact q _ _ (h.tup.mono (Nat.le_refl _) (by omega) (by omega)) (by omega)
  have ni : ∀ L : List D, L.length = xs.length → ixN L.length (i : Int) = some i := fun L h => by rw [ixN_in t0 (by rw [h]; exact t1), Int.toNat_natCast]
  have nj : ∀ L : List D, L.length = xs.length → ixN L.length (j : Int) = some j := fun L h => by rw [ixN_in r0 (by rw [h]; exact r1), Int.toNat_natCast]
  have n1 := ni xs rfl
  have n2 := nj (xs.set i xs[j]) (by rw [List.length_set])
  have n3 := nj xs rfl
  by_cases c0 : w = 0
  · subst c0
    simp only [DSIMP, b__law_mixed_3, p__law_mixed_3, b__law_mixed_4, p__law_mixed_4, b__law_mixed_5, p__law_mixed_5, b__law_mixed_6, p__law_mixed_6, ai, aj, n1, n2]
    exact fin _ _ (by simp only [List.length_set]; omega) (((ls.set hi mj).set (by rw [List.length_set]; exact hj) mi).mono (Nat.le_refl _) (by omega) (Nat.le_refl _))
  by_cases c1 : w = 1
  · subst c1
    simp only [DSIMP, b__law_mixed_3, p__law_mixed_3, b__law_mixed_4, p__law_mixed_4, b__law_mixed_5, p__law_mixed_5, b__law_mixed_6, p__law_mixed_6, ai, aj, n1, n2]
    exact ⟨by omega, by omega, by omega, fin _ _ (by simp only [List.length_append, List.length_take, List.length_drop, List.length_cons, List.length_nil]; omega) ((((ls.sub (List.take_sublist _ _)).app (.one mi)).app (ls.sub (List.drop_sublist _ _))).mono (Nat.le_refl _) (by omega) (Nat.le_refl _))⟩
  by_cases c2 : w = 2
  · subst c2
    simp only [DSIMP, b__law_mixed_3, p__law_mixed_3, b__law_mixed_4, p__law_mixed_4, b__law_mixed_5, p__law_mixed_5, b__law_mixed_6, p__law_mixed_6, ai, aj, n1, n2]
    refine ⟨by omega, by omega, ?_⟩
    rw [List.getElem?_eq_getElem hi]
    exact fin _ _ (Nat.le_trans (List.length_eraseIdx_le _ _) (by omega)) ((ls.sub (List.eraseIdx_sublist _ _)).mono (Nat.le_refl _) (by omega) (Nat.le_refl _))
  have c3 : 2 < w := by omega
  obtain ⟨u, v, t', ei⟩ := hx _ (List.getElem_mem hi)
  obtain ⟨u2, v2, t2, ej⟩ := hx _ (List.getElem_mem hj)
  rw [ei] at ai
  rw [ej] at aj
  simp only [DSIMP, b__law_mixed_3, p__law_mixed_3, b__law_mixed_4, p__law_mixed_4, b__law_mixed_5, p__law_mixed_5, b__law_mixed_6, p__law_mixed_6, ai, aj, n1, n2, eq_false c0, eq_false c1, eq_false c2, eq_true c3, List.drop_succ_cons, List.drop_zero]
  rw [ei] at mi
  rw [ej] at mj
  have mz : D.szRs (u :: v :: t') + 5 ≤ 20000 := mi.sz
  have md : D.deRs (u :: v :: t') + 1 ≤ 10 := mi.de
  have nz : D.szRs (u2 :: v2 :: t2) + 5 ≤ 20000 := mj.sz
  have nd : D.deRs (u2 :: v2 :: t2) + 1 ≤ 10 := mj.de
  have li : Ls 1000 19995 9 (u :: v :: t') := ⟨mi.ok, by omega, by omega⟩
  have lj : Ls 1000 19995 9 (u2 :: v2 :: t2) := ⟨mj.ok, by omega, by omega⟩
  have eu := li.mem List.mem_cons_self
  have eu2 := lj.mem List.mem_cons_self
  have lt := li.sub (List.Sublist.cons _ (List.Sublist.cons _ (List.Sublist.refl t')))
  have row : Es 1000 60000 10 (.tup (u :: u2 :: t')) := (Ls.tup ((Ls.one eu).app ((Ls.one eu2).app lt))).mono (Nat.le_refl _) (by omega) (by omega)
  have tl := len_szRs (u :: v :: t')
  simp only [List.length_cons] at tl
  exact ⟨by omega, fin _ _ (by rw [List.length_set]; omega) ((ls.set hi row).mono (Nat.le_refl _) (by omega) (Nat.le_refl _))⟩
theorem ok__law_mixed {P : Program} {w : World} {K : PySem.W.Frag} {mg : Str → Option Value} {base : Heap} (m_len : mg "len" = none) (m_list : mg "list" = none) (m_tuple : mg "tuple" = none) (K__law_take_2 : Def P w K mg base 1 "_law_take" 2 sp__law_take []) {f : Addr} {fd : FuncData} (F : Fun K "_law_mixed" "_law_mixed" s__law_mixed f fd) : FnG P w K mg base CX0 2 f fd ["_law_pen_here", "_law_lines"] (spD K 2 sp__law_mixed) :=
 fn_d0 F sc__law_mixed rfl (fun cdv A out s H E g r => run__law_mixed m_len m_list m_tuple K__law_take_2 cdv A out s H E g r) hsp__law_mixed
end Ev07
namespace Ev07
open PySem PySem.Spec PyProof.Rows L2 Ev Pt
local macro_rules
  | `(tactic| simp only [DSIMP, $as,*] $[$l:location]?) => `(tactic| simp only [rNeE, rEL, List.isEmpty_nil, List.isEmpty_cons, gIx, rIsA, rIsS, kitS, kitS.optQB, D.cls, dHGet, dHPut, dBornK, penK_cells, penK_at, penK_left, penK_pat, penK_pleft, penK_len, ex_hpK, dOwnGet2, ownKs, dKpL, dNewKd, dKpLk, rDictPTf, dRaise1, dRaise0, excD, dTry, wTry, Ev.rIsE, Ev.rIsEt, D.xcN, dFldE, dCallVX, WP, exS_tab, dTakeN, dIxN, dKpNew, dKpPut, dKpIns, dKpApp, dKpFz, dRoK, dRoL, dNewK1, dIns, roK, dZipM, dNGet, dNPut, dNewN, isNo, Ev.nGet, Ev.nPut, D.nkey, b2n, rAddB, rSubB, rStrB, rEqE, dSrtSet, dOrX, truD, rDictX, dTupN, dSlN, rAddN, rSrtN, rTupleN, rDictN, dSlX, dRevX, dLenSetN, dEmptyV, rLtX, rMulX, Ev.rReprX, dPenS, gStarDL, dAug, dIndexE, dZipS, dGcIn, dGbIx, dGdIn, dGdIx, dListRg, rDictPf, dZipL, dListKo, dEmptyT, dDispT1, dNeE, rListA, rDictPT, rIsTF, dGroup, rSrtA, rLenA, dInV, dIxV, dCount, dSortKo, dCallR, adD, gL, dDN, dLN, wNest, bNest, bEl, bEd, dZip, seqOf, dSortDK, dCallV, dCallLam, optQ, dEnum, D.nf, D.nfs, Ev.rSumD, dLock, dKeysI, gStarD, dReverse, dMove, dDGet2, getD2, D.isD, dDisp, dPairs, keysD, Ev.rMaxD, Ev.rMinD, rDictP, Option.getD_some, Option.getD_none, Ev.D.eq_refl, dPen1, dLenSet, dSrtR, dRo, dRoF, dRoT, roD, ro_un, ro_dat, ro_own, ro_hp, ro_law, ro_ownK, ro_ownT, List.forall_mem_map, flat_int, flat_str, flat_bl, flat_non, solid_int, solid_str, solid_bl, solid_non, solid_tup, solids_nil, solids_cons, dSeq, dNext, dSet, dSetF, setSl, dVar, dTake, dC, dBin, dBinF, dB, dIfS, dIf, dRet, dRetN, dExpr, dNil, dCons, dTup, dLst, dFz, dAnd, dOr, dNot, dAndV, dOrV, dNotV, dCallD, dCallK, dCB, dCBF, dFor, dLC, dYes, dRng1, dRng2, dSeqI, gN, gT, gsNil, gsCons, dAsg, dNeg, dJoin, dFs, dJs, dFmt, dApp, dExt, dPop, dPopAt, dOwnIx, dOwnCB, dOwnL, dOwnR, dOwnSl, dSetIx, dSlT, dSlL, oNone, oSome, dBorn, optQ, ownAt, setOwnAt, lookAt, wipeD, dNewDT, dNewDK, dDGet, dDIn, dDPut, dSortT, rSrt, isDict, Ev.dictGet, Ev.dictPut, Option.isSome_none, Option.isSome_some, D.keyT, keysOf, D.key, exists_eq_left', exists_eq_left, Option.isSome, rRepL, rCatL, dRetF, dIfF, dPar, dRetOwn, dCallL, dCallLK, dPen2, dRev, dRevI, dIndex, endsL, startL, dNever, dBrk, dCnt, rAddD, rSubI, rIO, rMulI, rDivI, rModI, rPowI, rCI, Ev.rIxD, rIsN, rNotN, D.isN, Ev.rLen, rTuple, rList, rAbs, rInt, rStr, Ev.rRepr, Ev.rIsi, D.ty, kit_tab, startD, endsD, List.map_cons, List.map_nil, List.length_cons, List.length_nil, List.append_nil, List.nil_append, List.cons_append, List.getElem?_cons_zero, List.getElem?_cons_succ, List.getElem?_nil, List.set_cons_zero, List.set_cons_succ, List.replicate, List.replicate_succ, Nat.zero_add, Nat.zero_le, sizeLine, true_and, and_true, if_true, Ev.eq_int, Ev.eq_str, Ev.eq_bl, Ev.eq_non, lst_nil, tup_nil, List.map_eq_nil_iff, txt_join, rLt, rLe, rGt, rGe, atI_ofNat, atI_last, wLC, strsOf, intsOf, blsOf, Option.map_some, Ev.join_two, Ev.join_one, Ev.join_nil, List.sum_cons, List.sum_nil, PySem.Str.empty_append, ixN_ofNat, Option.some.injEq, exists_eq', List.length_map, decide_true, decide_false, Bool.not_true, Bool.not_false, Bool.true_eq_false, Bool.false_eq_true, false_and, and_false, if_false, ite_true, ite_false, Nat.reduceAdd, Nat.reduceSub, Nat.reduceMul, Nat.reduceLT, Nat.reduceLeDiff, Nat.reduceEqDiff, Nat.reducePow, Int.reduceToNat, Int.reducePow, pickL, List.filterMap_cons, List.filterMap_nil, and_self, Int.reduceLT, Int.reduceLE, Int.reduceNeg, Int.reduceAdd, Int.reduceMul, Int.reduceSub, Int.reduceEq, reduceIte, reduceCtorEq, lit_eq, String.reduceEq, Ev.rEq, Ev.rNe, Ev.rInD, cut_toN, cut_fromN, List.map_take, List.forall_mem_cons, List.forall_mem_nil, List.not_mem_nil, false_imp_iff, implies_true, forall_const, D.cm, D.lay, D.lays, D.dep, D.deps, strOk_lit, lays_ints, deps_ints, Nat.max_self, Nat.max_zero, Nat.zero_max, Bool.and_self, Bool.true_and, Bool.and_true, Bool.and_false, Bool.false_and, Bool.or_false, Bool.or_true, Bool.true_or, Bool.false_or, List.any_cons, List.any_nil, decide_eq_true_eq, eq_self, $as,*] $[$l]?)
  | `(tactic| simp only [DSIMP] $[$l:location]?) => `(tactic| simp only [rNeE, rEL, List.isEmpty_nil, List.isEmpty_cons, gIx, rIsA, rIsS, kitS, kitS.optQB, D.cls, dHGet, dHPut, dBornK, penK_cells, penK_at, penK_left, penK_pat, penK_pleft, penK_len, ex_hpK, dOwnGet2, ownKs, dKpL, dNewKd, dKpLk, rDictPTf, dRaise1, dRaise0, excD, dTry, wTry, Ev.rIsE, Ev.rIsEt, D.xcN, dFldE, dCallVX, WP, exS_tab, dTakeN, dIxN, dKpNew, dKpPut, dKpIns, dKpApp, dKpFz, dRoK, dRoL, dNewK1, dIns, roK, dZipM, dNGet, dNPut, dNewN, isNo, Ev.nGet, Ev.nPut, D.nkey, b2n, rAddB, rSubB, rStrB, rEqE, dSrtSet, dOrX, truD, rDictX, dTupN, dSlN, rAddN, rSrtN, rTupleN, rDictN, dSlX, dRevX, dLenSetN, dEmptyV, rLtX, rMulX, Ev.rReprX, dPenS, gStarDL, dAug, dIndexE, dZipS, dGcIn, dGbIx, dGdIn, dGdIx, dListRg, rDictPf, dZipL, dListKo, dEmptyT, dDispT1, dNeE, rListA, rDictPT, rIsTF, dGroup, rSrtA, rLenA, dInV, dIxV, dCount, dSortKo, dCallR, adD, gL, dDN, dLN, wNest, bNest, bEl, bEd, dZip, seqOf, dSortDK, dCallV, dCallLam, optQ, dEnum, D.nf, D.nfs, Ev.rSumD, dLock, dKeysI, gStarD, dReverse, dMove, dDGet2, getD2, D.isD, dDisp, dPairs, keysD, Ev.rMaxD, Ev.rMinD, rDictP, Option.getD_some, Option.getD_none, Ev.D.eq_refl, dPen1, dLenSet, dSrtR, dRo, dRoF, dRoT, roD, ro_un, ro_dat, ro_own, ro_hp, ro_law, ro_ownK, ro_ownT, List.forall_mem_map, flat_int, flat_str, flat_bl, flat_non, solid_int, solid_str, solid_bl, solid_non, solid_tup, solids_nil, solids_cons, dSeq, dNext, dSet, dSetF, setSl, dVar, dTake, dC, dBin, dBinF, dB, dIfS, dIf, dRet, dRetN, dExpr, dNil, dCons, dTup, dLst, dFz, dAnd, dOr, dNot, dAndV, dOrV, dNotV, dCallD, dCallK, dCB, dCBF, dFor, dLC, dYes, dRng1, dRng2, dSeqI, gN, gT, gsNil, gsCons, dAsg, dNeg, dJoin, dFs, dJs, dFmt, dApp, dExt, dPop, dPopAt, dOwnIx, dOwnCB, dOwnL, dOwnR, dOwnSl, dSetIx, dSlT, dSlL, oNone, oSome, dBorn, optQ, ownAt, setOwnAt, lookAt, wipeD, dNewDT, dNewDK, dDGet, dDIn, dDPut, dSortT, rSrt, isDict, Ev.dictGet, Ev.dictPut, Option.isSome_none, Option.isSome_some, D.keyT, keysOf, D.key, exists_eq_left', exists_eq_left, Option.isSome, rRepL, rCatL, dRetF, dIfF, dPar, dRetOwn, dCallL, dCallLK, dPen2, dRev, dRevI, dIndex, endsL, startL, dNever, dBrk, dCnt, rAddD, rSubI, rIO, rMulI, rDivI, rModI, rPowI, rCI, Ev.rIxD, rIsN, rNotN, D.isN, Ev.rLen, rTuple, rList, rAbs, rInt, rStr, Ev.rRepr, Ev.rIsi, D.ty, kit_tab, startD, endsD, List.map_cons, List.map_nil, List.length_cons, List.length_nil, List.append_nil, List.nil_append, List.cons_append, List.getElem?_cons_zero, List.getElem?_cons_succ, List.getElem?_nil, List.set_cons_zero, List.set_cons_succ, List.replicate, List.replicate_succ, Nat.zero_add, Nat.zero_le, sizeLine, true_and, and_true, if_true, Ev.eq_int, Ev.eq_str, Ev.eq_bl, Ev.eq_non, lst_nil, tup_nil, List.map_eq_nil_iff, txt_join, rLt, rLe, rGt, rGe, atI_ofNat, atI_last, wLC, strsOf, intsOf, blsOf, Option.map_some, Ev.join_two, Ev.join_one, Ev.join_nil, List.sum_cons, List.sum_nil, PySem.Str.empty_append, ixN_ofNat, Option.some.injEq, exists_eq', List.length_map, decide_true, decide_false, Bool.not_true, Bool.not_false, Bool.true_eq_false, Bool.false_eq_true, false_and, and_false, if_false, ite_true, ite_false, Nat.reduceAdd, Nat.reduceSub, Nat.reduceMul, Nat.reduceLT, Nat.reduceLeDiff, Nat.reduceEqDiff, Nat.reducePow, Int.reduceToNat, Int.reducePow, pickL, List.filterMap_cons, List.filterMap_nil, and_self, Int.reduceLT, Int.reduceLE, Int.reduceNeg, Int.reduceAdd, Int.reduceMul, Int.reduceSub, Int.reduceEq, reduceIte, reduceCtorEq, lit_eq, String.reduceEq, Ev.rEq, Ev.rNe, Ev.rInD, cut_toN, cut_fromN, List.map_take, List.forall_mem_cons, List.forall_mem_nil, List.not_mem_nil, false_imp_iff, implies_true, forall_const, D.cm, D.lay, D.lays, D.dep, D.deps, strOk_lit, lays_ints, deps_ints, Nat.max_self, Nat.max_zero, Nat.zero_max, Bool.and_self, Bool.true_and, Bool.and_true, Bool.and_false, Bool.false_and, Bool.or_false, Bool.or_true, Bool.true_or, Bool.false_or, List.any_cons, List.any_nil, decide_eq_true_eq, eq_self] $[$l]?)
variable [TabC] [PkD]
/-- a row of a book: its number, its elder, its box, whether it is shown, its maker -/
structure Row where
  n : Int
  up : Option Int
  x : Int
  y : Int
  w : Int
  h : Int
  s : Bool
  a : Int
def optD : Option Int → D
  | none => .non
  | some i => .int i
def rowD (r : Row) : D := .tup [.int r.n, optD r.up, .tup [.int r.x, .int r.y, .int r.w, .int r.h], .bl r.s, .int r.a]
def bookD (b : List Row) : D := .tup (b.map rowD)
/-- all its numbers are small -/
structure rowOk (r : Row) : Prop where
  n0 : 0 ≤ r.n
  n9 : r.n ≤ 9
  x : r.x.natAbs ≤ 80
  y : r.y.natAbs ≤ 80
  w : 1 ≤ r.w ∧ r.w ≤ 40
  h : 1 ≤ r.h ∧ r.h ≤ 40
  a : r.a.natAbs < 10000
  up : ∀ i, r.up = some i → 0 ≤ i ∧ i ≤ 9
/-- a book: no number twice, an elder ahead of its kids -/
structure Wf (b : List Row) : Prop where
  nd : (b.map (·.n)).Nodup
  up : ∀ (i : Nat) (h : i < b.length), b[i].up = none ∨ ∃ (j : Nat) (h2 : j < b.length), j < i ∧ b[i].up = some b[j].n
  ok : ∀ r ∈ b, rowOk r
  len : b.length ≤ 10
def rowAt (b : List Row) (n : Int) : Option Row := b.find? fun r => decide (r.n = n)
/-- the line from a room upwards -/
inductive Up (b : List Row) : Option Int → List Int → Prop
  | nil : Up b none []
  | cons {n : Int} {r : Row} {l : List Int} : rowAt b n = some r → Up b r.up l → Up b (some n) (n :: l)
theorem Up.one {b : List Row} {o : Option Int} {l m : List Int} (h : Up b o l) (g : Up b o m) : l = m := by
  induction h generalizing m with
  | nil => cases g; rfl
  | cons h1 h2 ih =>
    cases g with
    | cons g1 g2 =>
      rw [h1] at g1; cases g1
      rw [ih g2]
theorem rowAt_get {b : List Row} (nd : (b.map (·.n)).Nodup) {i : Nat} (h : i < b.length) : rowAt b b[i].n = some b[i] := by
  unfold rowAt
  rw [List.find?_eq_some_iff_getElem]
  refine ⟨by simp, i, h, rfl, fun j hj => ?_⟩
  have : b[j].n ≠ b[i].n := fun z => by
    have h1 : (b.map (·.n))[j]'(by simp; omega) = (b.map (·.n))[i]'(by simp; omega) := by simpa using z
    have := (List.getElem_inj nd).mp h1
    omega
  simp [this]
theorem Wf.line {b : List Row} (w : Wf b) : ∀ (i : Nat) (h : i < b.length), ∃ l, Up b (some b[i].n) l ∧ l.length ≤ i + 1 ∧ ∀ x ∈ l, x ∈ b.map (·.n) := fun i => by
  induction i using Nat.strongRecOn with
  | ind i ih =>
    intro h
    have hm : b[i].n ∈ b.map (·.n) := List.mem_map.mpr ⟨_, List.getElem_mem h, rfl⟩
    rcases w.up i h with e | ⟨j, h2, hj, e⟩
    · exact ⟨[b[i].n], .cons (rowAt_get w.nd h) (by rw [e]; exact .nil), by simp, fun x hx => by rw [List.mem_singleton] at hx; subst hx; exact hm⟩
    · obtain ⟨l, u, hl, hx⟩ := ih j hj h2
      exact ⟨b[i].n :: l, .cons (rowAt_get w.nd h) (by rw [e]; exact u), by simp; omega, fun x hx' => by
        rcases List.mem_cons.mp hx' with rfl | hx'
        · exact hm
        · exact hx x hx'⟩
theorem Wf.lineM {b : List Row} (w : Wf b) {n : Int} (h : n ∈ b.map (·.n)) : ∃ l, Up b (some n) l ∧ l.length ≤ 10 ∧ ∀ x ∈ l, x ∈ b.map (·.n) := by
  obtain ⟨r, hr, rfl⟩ := List.mem_map.mp h
  obtain ⟨i, hi, rfl⟩ := List.getElem_of_mem hr
  obtain ⟨l, u, hl, hx⟩ := w.line i hi
  exact ⟨l, u, by have := w.len; omega, hx⟩
theorem Wf.row {b : List Row} (w : Wf b) {n : Int} (h : n ∈ b.map (·.n)) : ∃ r, rowAt b n = some r ∧ rowOk r ∧ r.n = n := by
  obtain ⟨r, hr, rfl⟩ := List.mem_map.mp h
  obtain ⟨i, hi, rfl⟩ := List.getElem_of_mem hr
  exact ⟨_, rowAt_get w.nd hi, w.ok _ (List.getElem_mem hi), rfl⟩
abbrev Ln := Row × List Int
structure PreL (B : List Ln) : Prop where
  root : ∃ r t, B = (r, [0]) :: t ∧ r.n = 0 ∧ r.up = none ∧ r.s = true ∧ r.x = 0 ∧ r.y = 0 ∧ 1 ≤ r.w ∧ r.w ≤ 40 ∧ 1 ≤ r.h ∧ r.h ≤ 40
  step : ∀ (i : Nat) (h : i + 1 < B.length), ∃ u l, B[i + 1].2 = B[i + 1].1.n :: u :: l ∧ (u :: l) <:+ B[i].2 ∧ B[i + 1].1.up = some u
  nd : (B.map (·.1.n)).Nodup
  ok : ∀ p ∈ B, rowOk p.1
  len : B.length ≤ 10
section
variable {B : List Ln} (P : PreL B)
include P
theorem PreL.pos : 0 < B.length := by
  obtain ⟨r, t, e, _⟩ := P.root
  rw [e]; simp
theorem PreL.hd (i : Nat) (h : i < B.length) : ∃ l, B[i].2 = B[i].1.n :: l := by
  cases i with
  | zero =>
    obtain ⟨r, t, e, e0, _⟩ := P.root
    subst e
    exact ⟨[], by simp [e0]⟩
  | succ i =>
    obtain ⟨u, l, e, _⟩ := P.step i h
    exact ⟨_, e⟩
/-- what is left of a line is a line ahead -/
theorem PreL.suff : ∀ (i : Nat) (h : i < B.length) (u : Int) (l : List Int), (u :: l) <:+ B[i].2 → ∃ (j : Nat) (hj : j < B.length), j ≤ i ∧ B[j].2 = u :: l ∧ B[j].1.n = u := fun i => by
  induction i with
  | zero =>
    intro h u l hs
    obtain ⟨r, t, e, e0, _⟩ := P.root
    subst e
    refine ⟨0, h, Nat.le_refl _, ?_⟩
    have hs : (u :: l) <:+ [0] := hs
    have hl := hs.length_le
    have : l = [] := by simpa using hl
    subst this
    have : [u] = [0] := hs.eq_of_length rfl
    simp only [List.cons.injEq, and_true] at this
    subst this
    exact ⟨rfl, e0⟩
  | succ i ih =>
    intro h u l hs
    obtain ⟨u2, l2, e, h2, _⟩ := P.step i h
    rw [e] at hs
    rcases List.suffix_cons_iff.mp hs with e2 | hs
    · exact ⟨i + 1, h, Nat.le_refl _, by rw [e, e2], by rw [List.cons.injEq] at e2; exact e2.1.symm⟩
    · obtain ⟨j, hj, hij, e3⟩ := ih (by omega) u l (hs.trans h2)
      exact ⟨j, hj, by omega, e3⟩
theorem PreL.one {i j : Nat} (hi : i < B.length) (hj : j < B.length) (e : B[i].1.n = B[j].1.n) : i = j := by
  have h1 : (B.map (·.1.n))[i]'(by simpa using hi) = (B.map (·.1.n))[j]'(by simpa using hj) := by simpa using e
  exact (List.getElem_inj P.nd).mp h1
theorem PreL.elder {i : Nat} (h : i + 1 < B.length) : ∃ (j : Nat) (hj : j < B.length), j ≤ i ∧ B[i + 1].1.up = some B[j].1.n ∧ B[i + 1].2 = B[i + 1].1.n :: B[j].2 := by
  obtain ⟨u, l, e, h2, e3⟩ := P.step i h
  obtain ⟨j, hj, hij, e4, e5⟩ := P.suff i (by omega) u l h2
  exact ⟨j, hj, hij, by rw [e3, e5], by rw [e, e4]⟩
theorem PreL.wf : Wf (B.map (·.1)) where
  nd := by rw [List.map_map]; exact P.nd
  up := fun i h => by
    rw [List.length_map] at h
    cases i with
    | zero =>
      obtain ⟨r, t, e, e0, e1, _⟩ := P.root
      subst e
      exact .inl (by simpa using e1)
    | succ i =>
      obtain ⟨j, hj, hij, e, _⟩ := P.elder h
      exact .inr ⟨j, by simpa using hj, by omega, by simpa using e⟩
  ok := fun r hr => by
    obtain ⟨p, hp, rfl⟩ := List.mem_map.mp hr
    exact P.ok p hp
  len := by simpa using P.len
theorem PreL.rowAt {i : Nat} (h : i < B.length) : rowAt (B.map (·.1)) B[i].1.n = some B[i].1 := by
  have := rowAt_get P.wf.nd (i := i) (by simpa using h)
  simpa using this
theorem PreL.up : ∀ (i : Nat) (h : i < B.length), Up (B.map (·.1)) (some B[i].1.n) B[i].2 := fun i => by
  induction i using Nat.strongRecOn with
  | ind i ih =>
    intro h
    cases i with
    | zero =>
      obtain ⟨r, t, e, e0, e1, _⟩ := P.root
      have hr := P.rowAt h
      subst e
      have e2 : ((r, [(0 : Int)]) :: t)[0].1.up = none := e1
      have e3 : ((r, [(0 : Int)]) :: t)[0].2 = [r.n] := by rw [e0]; rfl
      rw [e3]
      exact .cons hr (by rw [e2]; exact .nil)
    | succ i =>
      obtain ⟨j, hj, hij, e, e2⟩ := P.elder h
      rw [e2]
      exact .cons (P.rowAt h) (by rw [e]; exact ih j (by omega) hj)
theorem PreL.two {i : Nat} (h : i < B.length) {l : List Int} (u : Up (B.map (·.1)) (some B[i].1.n) l) : l = B[i].2 := u.one (P.up i h)
theorem PreL.mem_line {i : Nat} (h : i < B.length) {x : Int} (hx : x ∈ B[i].2) : ∃ (j : Nat) (hj : j < B.length), j ≤ i ∧ B[j].1.n = x ∧ B[j].2 <:+ B[i].2 := by
  obtain ⟨s, t, e⟩ := List.append_of_mem hx
  have hs : (x :: t) <:+ B[i].2 := ⟨s, e.symm⟩
  obtain ⟨j, hj, hij, e2, e3⟩ := P.suff i h x t hs
  exact ⟨j, hj, hij, e3, by rw [e2]; exact hs⟩
/-- what lies beneath a row stands right behind it -/
theorem PreL.within {c j : Nat} (hj : j < B.length) (hcj : c ≤ j) (hs : (B[c]'(by omega)).2 <:+ B[j].2) : ∀ t (ht : t ≤ j), c ≤ t → (B[c]'(by omega)).2 <:+ (B[t]'(by omega)).2 := fun t ht hct => by
  obtain ⟨d, hd⟩ : ∃ d, t + d = j := ⟨j - t, by omega⟩
  induction d generalizing j with
  | zero => subst hd; exact hs
  | succ d ih =>
    have hj2 : j - 1 + 1 < B.length := by omega
    obtain ⟨u, l, e, h2, _⟩ := P.step (j - 1) hj2
    have ej : j - 1 + 1 = j := by omega
    simp only [ej] at e
    obtain ⟨lc, ec⟩ := P.hd c (by omega)
    rw [e] at hs
    have hs2 : (B[c]'(by omega)).2 <:+ u :: l := by
      rcases List.suffix_cons_iff.mp hs with e2 | h
      · rw [ec, List.cons.injEq] at e2
        have := P.one (i := c) (j := j) (by omega) hj e2.1
        omega
      · exact h
    exact ih (j := j - 1) (by omega) (by omega) (hs2.trans h2) (by omega) (by omega)
/-- a new row, as the first or the last of its elder's kids -/
theorem PreL.put {a q : Nat} {x : Row} (ha : a < B.length) (hq : a < q) (hq2 : q ≤ B.length) (hin : ∀ j (hj : j < q), a < j → B[a].2.length < (B[j]'(by omega)).2.length)
    (hout : q = a + 1 ∨ ∀ (h : q < B.length), B[q].2.length ≤ B[a].2.length) (hx : x.n ∉ B.map (·.1.n)) (hu : x.up = some B[a].1.n) (ok : rowOk x) (hl : B.length < 10) :
    PreL (B.take q ++ [(x, x.n :: B[a].2)] ++ B.drop q) := by
  have hq1 : (B.take q).length = q := by rw [List.length_take]; omega
  have inn : ∀ j (hj : j < q), a ≤ j → B[a].2 <:+ (B[j]'(by omega)).2 := fun j => by
    induction j with
    | zero =>
      intro hj h0
      have : a = 0 := by omega
      subst this
      exact List.suffix_refl _
    | succ j ih =>
      intro hj h0
      by_cases e : a = j + 1
      · subst e; exact List.suffix_refl _
      · have h1 := ih (by omega) (by omega)
        obtain ⟨u, l, e2, h2, _⟩ := P.step j (by omega)
        have h3 := hin (j + 1) hj (by omega)
        rw [e2] at h3 ⊢
        have h4 : B[a].2 <:+ u :: l := List.suffix_of_suffix_length_le h1 h2 (by simpa using Nat.le_of_lt_succ h3)
        exact h4.trans (List.suffix_cons _ _)
  have at1 : ∀ (i : Nat) (h : i < q) (h2 : i < (B.take q ++ [(x, x.n :: B[a].2)] ++ B.drop q).length), (B.take q ++ [(x, x.n :: B[a].2)] ++ B.drop q)[i] = B[i]'(by omega) := fun i h h2 => by
    rw [List.getElem_append_left (by simp; omega), List.getElem_append_left (by omega), List.getElem_take]
  have at2 : ∀ (h2 : q < (B.take q ++ [(x, x.n :: B[a].2)] ++ B.drop q).length), (B.take q ++ [(x, x.n :: B[a].2)] ++ B.drop q)[q] = (x, x.n :: B[a].2) := fun h2 => by
    rw [List.getElem_append_left (by simp; omega), List.getElem_append_right (by omega)]
    simp [hq1]
  have at3 : ∀ (i : Nat) (h : q ≤ i) (h2 : i + 1 < (B.take q ++ [(x, x.n :: B[a].2)] ++ B.drop q).length), (B.take q ++ [(x, x.n :: B[a].2)] ++ B.drop q)[i + 1] = B[i]'(by simp at h2; omega) := fun i h h2 => by
    rw [List.getElem_append_right (by simp; omega), List.getElem_drop]
    congr 1
    simp; omega
  have ll : (B.take q ++ [(x, x.n :: B[a].2)] ++ B.drop q).length = B.length + 1 := by simp; omega
  refine ⟨?_, fun i h => ?_, ?_, fun p hp => ?_, by omega⟩
  · obtain ⟨r, t, e, e0⟩ := P.root
    subst e
    obtain ⟨q, rfl⟩ : ∃ m, q = m + 1 := ⟨q - 1, by omega⟩
    exact ⟨r, _, by simp; rfl, e0⟩
  · rw [ll] at h
    by_cases h1 : i + 1 < q
    · rw [at1 (i + 1) h1, at1 i (by omega)]
      exact P.step i (by omega)
    by_cases h2 : i + 1 = q
    · subst h2
      rw [at1 i (by omega), at2]
      obtain ⟨l, e⟩ := P.hd a ha
      exact ⟨B[a].1.n, l, by show x.n :: B[a].2 = _; rw [e], by rw [← e]; exact inn i (by omega) (by omega), hu⟩
    by_cases h3 : i = q
    · subst h3
      rw [at2, at3 i (by omega)]
      have hi : i - 1 + 1 < B.length := by omega
      have ei : i - 1 + 1 = i := by omega
      obtain ⟨u, l, e, h4, e3⟩ := P.step (i - 1) hi
      simp only [ei] at e e3
      refine ⟨u, l, e, ?_, e3⟩
      have h5 : (u :: l) <:+ B[a].2 := by
        rcases hout with h | h
        · have : i - 1 = a := by omega
          simp only [this] at h4
          exact h4
        · have h6 := h (by omega)
          rw [e] at h6
          exact List.suffix_of_suffix_length_le h4 (inn (i - 1) (by omega) (by omega)) (by simp only [List.length_cons] at h6 ⊢; omega)
      exact h5.trans (List.suffix_cons _ _)
    · obtain ⟨i, rfl⟩ : ∃ m, i = m + 1 := ⟨i - 1, by omega⟩
      rw [at3 (i + 1) (by omega), at3 i (by omega)]
      exact P.step i (by omega)
  · have e1 : ((B.take q ++ [(x, x.n :: B[a].2)] ++ B.drop q).map (·.1.n)).Perm (x.n :: B.map (·.1.n)) := by
      simp only [List.map_append, List.map_cons, List.map_nil]
      refine (List.Perm.trans (List.Perm.append_right _ (List.perm_append_comm)) ?_)
      rw [List.singleton_append, List.cons_append, ← List.map_append, List.take_append_drop]
    exact (e1.nodup_iff).mpr (List.nodup_cons.mpr ⟨hx, P.nd⟩)
  · simp only [List.mem_append, List.mem_singleton] at hp
    rcases hp with (hp | rfl) | hp
    · exact P.ok p (List.mem_of_mem_take hp)
    · exact ok
    · exact P.ok p (List.mem_of_mem_drop hp)
end
theorem PreL.kid {B : List Ln} (P : PreL B) {i j : Nat} (hi : i < B.length) (hj : j < B.length) (hs : B[i].2 <:+ B[j].2) (hne : i ≠ j) : ∃ (c : Nat) (hc : c < B.length), c ≤ j ∧ i < c ∧ B[c].1.up = some B[i].1.n ∧ B[c].2 = B[c].1.n :: B[i].2 ∧ B[c].2 <:+ B[j].2 := by
  obtain ⟨s, e⟩ := hs
  rcases List.eq_nil_or_concat s with rfl | ⟨s, c, rfl⟩
  · rw [List.nil_append] at e
    obtain ⟨l1, e1⟩ := P.hd i hi
    obtain ⟨l2, e2⟩ := P.hd j hj
    rw [e1, e2, List.cons.injEq] at e
    exact absurd (P.one hi hj e.1) hne
  · rw [List.concat_eq_append, List.append_assoc, List.singleton_append] at e
    obtain ⟨k, hk, hkj, e2, e3⟩ := P.suff j hj c B[i].2 ⟨s, e⟩
    cases k with
    | zero =>
      obtain ⟨l1, e1⟩ := P.hd i hi
      obtain ⟨r, t, e4, _⟩ := P.root
      subst e4
      rw [e1] at e2
      cases e2
    | succ k =>
      obtain ⟨m, hm, hmk, e4, e5⟩ := P.elder hk
      have e6 : B[m].2 = B[i].2 := by
        rw [e5, List.cons.injEq] at e2
        exact e2.2
      obtain ⟨l1, e1⟩ := P.hd i hi
      obtain ⟨l2, e7⟩ := P.hd m hm
      rw [e1, e7, List.cons.injEq] at e6
      have : m = i := P.one hm hi e6.1
      subst this
      exact ⟨k + 1, hk, hkj, by omega, e4, e5, by rw [e2]; exact ⟨s, e⟩⟩
theorem nums_in (l : List Int) (n : Int) : ((l.map D.int).any fun z => z.eq (.int n)) = decide (n ∈ l) := by
  induction l with
  | nil => simp
  | cons a l ih =>
    rw [List.map_cons, List.any_cons, ih, Ev.eq_int, Bool.eq_iff_iff]
    simp only [Bool.or_eq_true, decide_eq_true_eq, List.mem_cons]
    exact or_congr_left eq_comm
theorem val_put {κ : Type} [DecidableEq κ] (k k' : κ) (d : D) : ∀ es : List (κ × D), valD (putD es k d) k' = if k = k' then some d else valD es k' := by
  intro es
  unfold putD
  by_cases h : (es.any fun e => decide (e.1 = k)) = true
  · rw [if_pos h]
    induction es with
    | nil => simp at h
    | cons e es ih =>
      by_cases e1 : e.1 = k
      · by_cases e2 : k = k'
        · simp [valD, e1, e2]
        · have e3 : ¬ e.1 = k' := fun z => e2 (e1 ▸ z)
          have e4 : (es.map fun e => if e.1 = k then (e.1, d) else e).find? (fun e => decide (e.1 = k')) = es.find? fun e => decide (e.1 = k') := by
            clear ih h
            induction es with
            | nil => rfl
            | cons a es ih =>
              rw [List.map_cons]
              by_cases a1 : a.1 = k
              · have a2 : ¬ a.1 = k' := fun z => e2 (a1 ▸ z)
                simp [a1, e2, ih]
              · simp only [a1, if_false]
                rw [List.find?_cons, List.find?_cons, ih]
          simp only [valD, List.map_cons, e1, if_true, e2, if_false]
          rw [List.find?_cons, List.find?_cons]
          simp only [e1, e2, decide_false]
          rw [e4]
      · have h2 : (es.any fun e => decide (e.1 = k)) = true := by simpa [e1] using h
        have := ih h2
        simp only [valD, List.map_cons, e1, if_false] at this ⊢
        rw [List.find?_cons, List.find?_cons]
        cases z : decide (e.1 = k') with
        | true =>
          have : ¬ k = k' := fun q => e1 (by rw [q]; exact of_decide_eq_true z)
          simp [this]
        | false => exact this
  · rw [if_neg h]
    have h2 : ∀ e ∈ es, e.1 ≠ k := fun e he z => h (List.any_eq_true.mpr ⟨e, he, decide_eq_true z⟩)
    clear h
    induction es with
    | nil => by_cases q : k = k' <;> simp [valD, q]
    | cons e es ih =>
      have e1 := h2 e List.mem_cons_self
      have := ih fun x hx => h2 x (List.mem_cons_of_mem _ hx)
      simp only [valD, List.cons_append] at this ⊢
      rw [List.find?_cons, List.find?_cons]
      cases z : decide (e.1 = k') with
      | true =>
        have : ¬ k = k' := fun q => e1 (by rw [q]; exact of_decide_eq_true z)
        simp [this]
      | false => exact this
/-- a dict of pairs, no key twice: the pair found is the one -/
theorem val_merge {α : Type} (f : α → Int) (g : α → D) : ∀ (l : List α) (acc : List (Key × D)) (x : Int), (l.map f).Nodup → valD (mergeD acc (l.map fun a => (Sum.inl (f a), g a))) (Sum.inl x) = match l.find? (fun a => decide (f a = x)) with | some a => some (g a) | none => valD acc (Sum.inl x)
  | [], acc, x, _ => rfl
  | a :: l, acc, x, nd => by
    rw [List.map_cons, List.nodup_cons] at nd
    show valD (mergeD (putD acc (Sum.inl (f a)) (g a)) (l.map fun a => (Sum.inl (f a), g a))) (Sum.inl x) = _
    rw [val_merge f g l _ x nd.2, List.find?_cons]
    by_cases q : f a = x
    · have no : l.find? (fun a => decide (f a = x)) = none := List.find?_eq_none.mpr fun b hb z => nd.1 (List.mem_map.mpr ⟨b, hb, by rw [of_decide_eq_true z, q]⟩)
      rw [no, decide_eq_true q]
      simp only
      rw [val_put, if_pos (by rw [q])]
    · rw [decide_eq_false q]
      simp only
      split
      · rfl
      · rw [val_put, if_neg fun z => q (Sum.inl.inj z)]
theorem pairs_mapf {α : Type} (f : α → Int) (g : α → D) : ∀ l : List α, Ev.pairsOf (l.map fun a => D.tup [.int (f a), g a]) = some (l.map fun a => (Sum.inl (f a), g a))
  | [] => rfl
  | a :: l => by
    have := pairs_mapf f g l
    simp only [List.map_cons, Ev.pairsOf, D.key, this]
end Ev07
namespace Ev07
open PySem PySem.Spec PyProof.Rows L2 Ev Pt
local macro_rules
  | `(tactic| simp only [DSIMP, $as,*] $[$l:location]?) => `(tactic| simp only [rNeE, rEL, List.isEmpty_nil, List.isEmpty_cons, gIx, rIsA, rIsS, kitS, kitS.optQB, D.cls, dHGet, dHPut, dBornK, penK_cells, penK_at, penK_left, penK_pat, penK_pleft, penK_len, ex_hpK, dOwnGet2, ownKs, dKpL, dNewKd, dKpLk, rDictPTf, dRaise1, dRaise0, excD, dTry, wTry, Ev.rIsE, Ev.rIsEt, D.xcN, dFldE, dCallVX, WP, exS_tab, dTakeN, dIxN, dKpNew, dKpPut, dKpIns, dKpApp, dKpFz, dRoK, dRoL, dNewK1, dIns, roK, dZipM, dNGet, dNPut, dNewN, isNo, Ev.nGet, Ev.nPut, D.nkey, b2n, rAddB, rSubB, rStrB, rEqE, dSrtSet, dOrX, truD, rDictX, dTupN, dSlN, rAddN, rSrtN, rTupleN, rDictN, dSlX, dRevX, dLenSetN, dEmptyV, rLtX, rMulX, Ev.rReprX, dPenS, gStarDL, dAug, dIndexE, dZipS, dGcIn, dGbIx, dGdIn, dGdIx, dListRg, rDictPf, dZipL, dListKo, dEmptyT, dDispT1, dNeE, rListA, rDictPT, rIsTF, dGroup, rSrtA, rLenA, dInV, dIxV, dCount, dSortKo, dCallR, adD, gL, dDN, dLN, wNest, bNest, bEl, bEd, dZip, seqOf, dSortDK, dCallV, dCallLam, optQ, dEnum, D.nf, D.nfs, Ev.rSumD, dLock, dKeysI, gStarD, dReverse, dMove, dDGet2, getD2, D.isD, dDisp, dPairs, keysD, Ev.rMaxD, Ev.rMinD, rDictP, Option.getD_some, Option.getD_none, Ev.D.eq_refl, dPen1, dLenSet, dSrtR, dRo, dRoF, dRoT, roD, ro_un, ro_dat, ro_own, ro_hp, ro_law, ro_ownK, ro_ownT, List.forall_mem_map, flat_int, flat_str, flat_bl, flat_non, solid_int, solid_str, solid_bl, solid_non, solid_tup, solids_nil, solids_cons, dSeq, dNext, dSet, dSetF, setSl, dVar, dTake, dC, dBin, dBinF, dB, dIfS, dIf, dRet, dRetN, dExpr, dNil, dCons, dTup, dLst, dFz, dAnd, dOr, dNot, dAndV, dOrV, dNotV, dCallD, dCallK, dCB, dCBF, dFor, dLC, dYes, dRng1, dRng2, dSeqI, gN, gT, gsNil, gsCons, dAsg, dNeg, dJoin, dFs, dJs, dFmt, dApp, dExt, dPop, dPopAt, dOwnIx, dOwnCB, dOwnL, dOwnR, dOwnSl, dSetIx, dSlT, dSlL, oNone, oSome, dBorn, optQ, ownAt, setOwnAt, lookAt, wipeD, dNewDT, dNewDK, dDGet, dDIn, dDPut, dSortT, rSrt, isDict, Ev.dictGet, Ev.dictPut, Option.isSome_none, Option.isSome_some, D.keyT, keysOf, D.key, exists_eq_left', exists_eq_left, Option.isSome, rRepL, rCatL, dRetF, dIfF, dPar, dRetOwn, dCallL, dCallLK, dPen2, dRev, dRevI, dIndex, endsL, startL, dNever, dBrk, dCnt, rAddD, rSubI, rIO, rMulI, rDivI, rModI, rPowI, rCI, Ev.rIxD, rIsN, rNotN, D.isN, Ev.rLen, rTuple, rList, rAbs, rInt, rStr, Ev.rRepr, Ev.rIsi, D.ty, kit_tab, startD, endsD, List.map_cons, List.map_nil, List.length_cons, List.length_nil, List.append_nil, List.nil_append, List.cons_append, List.getElem?_cons_zero, List.getElem?_cons_succ, List.getElem?_nil, List.set_cons_zero, List.set_cons_succ, List.replicate, List.replicate_succ, Nat.zero_add, Nat.zero_le, sizeLine, true_and, and_true, if_true, Ev.eq_int, Ev.eq_str, Ev.eq_bl, Ev.eq_non, lst_nil, tup_nil, List.map_eq_nil_iff, txt_join, rLt, rLe, rGt, rGe, atI_ofNat, atI_last, wLC, strsOf, intsOf, blsOf, Option.map_some, Ev.join_two, Ev.join_one, Ev.join_nil, List.sum_cons, List.sum_nil, PySem.Str.empty_append, ixN_ofNat, Option.some.injEq, exists_eq', List.length_map, decide_true, decide_false, Bool.not_true, Bool.not_false, Bool.true_eq_false, Bool.false_eq_true, false_and, and_false, if_false, ite_true, ite_false, Nat.reduceAdd, Nat.reduceSub, Nat.reduceMul, Nat.reduceLT, Nat.reduceLeDiff, Nat.reduceEqDiff, Nat.reducePow, Int.reduceToNat, Int.reducePow, pickL, List.filterMap_cons, List.filterMap_nil, and_self, Int.reduceLT, Int.reduceLE, Int.reduceNeg, Int.reduceAdd, Int.reduceMul, Int.reduceSub, Int.reduceEq, reduceIte, reduceCtorEq, lit_eq, String.reduceEq, Ev.rEq, Ev.rNe, Ev.rInD, cut_toN, cut_fromN, List.map_take, List.forall_mem_cons, List.forall_mem_nil, List.not_mem_nil, false_imp_iff, implies_true, forall_const, D.cm, D.lay, D.lays, D.dep, D.deps, strOk_lit, lays_ints, deps_ints, Nat.max_self, Nat.max_zero, Nat.zero_max, Bool.and_self, Bool.true_and, Bool.and_true, Bool.and_false, Bool.false_and, Bool.or_false, Bool.or_true, Bool.true_or, Bool.false_or, List.any_cons, List.any_nil, decide_eq_true_eq, eq_self, $as,*] $[$l]?)
  | `(tactic| simp only [DSIMP] $[$l:location]?) => `(tactic| simp only [rNeE, rEL, List.isEmpty_nil, List.isEmpty_cons, gIx, rIsA, rIsS, kitS, kitS.optQB, D.cls, dHGet, dHPut, dBornK, penK_cells, penK_at, penK_left, penK_pat, penK_pleft, penK_len, ex_hpK, dOwnGet2, ownKs, dKpL, dNewKd, dKpLk, rDictPTf, dRaise1, dRaise0, excD, dTry, wTry, Ev.rIsE, Ev.rIsEt, D.xcN, dFldE, dCallVX, WP, exS_tab, dTakeN, dIxN, dKpNew, dKpPut, dKpIns, dKpApp, dKpFz, dRoK, dRoL, dNewK1, dIns, roK, dZipM, dNGet, dNPut, dNewN, isNo, Ev.nGet, Ev.nPut, D.nkey, b2n, rAddB, rSubB, rStrB, rEqE, dSrtSet, dOrX, truD, rDictX, dTupN, dSlN, rAddN, rSrtN, rTupleN, rDictN, dSlX, dRevX, dLenSetN, dEmptyV, rLtX, rMulX, Ev.rReprX, dPenS, gStarDL, dAug, dIndexE, dZipS, dGcIn, dGbIx, dGdIn, dGdIx, dListRg, rDictPf, dZipL, dListKo, dEmptyT, dDispT1, dNeE, rListA, rDictPT, rIsTF, dGroup, rSrtA, rLenA, dInV, dIxV, dCount, dSortKo, dCallR, adD, gL, dDN, dLN, wNest, bNest, bEl, bEd, dZip, seqOf, dSortDK, dCallV, dCallLam, optQ, dEnum, D.nf, D.nfs, Ev.rSumD, dLock, dKeysI, gStarD, dReverse, dMove, dDGet2, getD2, D.isD, dDisp, dPairs, keysD, Ev.rMaxD, Ev.rMinD, rDictP, Option.getD_some, Option.getD_none, Ev.D.eq_refl, dPen1, dLenSet, dSrtR, dRo, dRoF, dRoT, roD, ro_un, ro_dat, ro_own, ro_hp, ro_law, ro_ownK, ro_ownT, List.forall_mem_map, flat_int, flat_str, flat_bl, flat_non, solid_int, solid_str, solid_bl, solid_non, solid_tup, solids_nil, solids_cons, dSeq, dNext, dSet, dSetF, setSl, dVar, dTake, dC, dBin, dBinF, dB, dIfS, dIf, dRet, dRetN, dExpr, dNil, dCons, dTup, dLst, dFz, dAnd, dOr, dNot, dAndV, dOrV, dNotV, dCallD, dCallK, dCB, dCBF, dFor, dLC, dYes, dRng1, dRng2, dSeqI, gN, gT, gsNil, gsCons, dAsg, dNeg, dJoin, dFs, dJs, dFmt, dApp, dExt, dPop, dPopAt, dOwnIx, dOwnCB, dOwnL, dOwnR, dOwnSl, dSetIx, dSlT, dSlL, oNone, oSome, dBorn, optQ, ownAt, setOwnAt, lookAt, wipeD, dNewDT, dNewDK, dDGet, dDIn, dDPut, dSortT, rSrt, isDict, Ev.dictGet, Ev.dictPut, Option.isSome_none, Option.isSome_some, D.keyT, keysOf, D.key, exists_eq_left', exists_eq_left, Option.isSome, rRepL, rCatL, dRetF, dIfF, dPar, dRetOwn, dCallL, dCallLK, dPen2, dRev, dRevI, dIndex, endsL, startL, dNever, dBrk, dCnt, rAddD, rSubI, rIO, rMulI, rDivI, rModI, rPowI, rCI, Ev.rIxD, rIsN, rNotN, D.isN, Ev.rLen, rTuple, rList, rAbs, rInt, rStr, Ev.rRepr, Ev.rIsi, D.ty, kit_tab, startD, endsD, List.map_cons, List.map_nil, List.length_cons, List.length_nil, List.append_nil, List.nil_append, List.cons_append, List.getElem?_cons_zero, List.getElem?_cons_succ, List.getElem?_nil, List.set_cons_zero, List.set_cons_succ, List.replicate, List.replicate_succ, Nat.zero_add, Nat.zero_le, sizeLine, true_and, and_true, if_true, Ev.eq_int, Ev.eq_str, Ev.eq_bl, Ev.eq_non, lst_nil, tup_nil, List.map_eq_nil_iff, txt_join, rLt, rLe, rGt, rGe, atI_ofNat, atI_last, wLC, strsOf, intsOf, blsOf, Option.map_some, Ev.join_two, Ev.join_one, Ev.join_nil, List.sum_cons, List.sum_nil, PySem.Str.empty_append, ixN_ofNat, Option.some.injEq, exists_eq', List.length_map, decide_true, decide_false, Bool.not_true, Bool.not_false, Bool.true_eq_false, Bool.false_eq_true, false_and, and_false, if_false, ite_true, ite_false, Nat.reduceAdd, Nat.reduceSub, Nat.reduceMul, Nat.reduceLT, Nat.reduceLeDiff, Nat.reduceEqDiff, Nat.reducePow, Int.reduceToNat, Int.reducePow, pickL, List.filterMap_cons, List.filterMap_nil, and_self, Int.reduceLT, Int.reduceLE, Int.reduceNeg, Int.reduceAdd, Int.reduceMul, Int.reduceSub, Int.reduceEq, reduceIte, reduceCtorEq, lit_eq, String.reduceEq, Ev.rEq, Ev.rNe, Ev.rInD, cut_toN, cut_fromN, List.map_take, List.forall_mem_cons, List.forall_mem_nil, List.not_mem_nil, false_imp_iff, implies_true, forall_const, D.cm, D.lay, D.lays, D.dep, D.deps, strOk_lit, lays_ints, deps_ints, Nat.max_self, Nat.max_zero, Nat.zero_max, Bool.and_self, Bool.true_and, Bool.and_true, Bool.and_false, Bool.false_and, Bool.or_false, Bool.or_true, Bool.true_or, Bool.false_or, List.any_cons, List.any_nil, decide_eq_true_eq, eq_self] $[$l]?)
variable [TabC] [PkD]
theorem pair_look {R : List Row} (nd : (R.map (·.n)).Nodup) : ∀ y r, rowAt R y = some r → valD (mergeD [] (R.map fun r => (Sum.inl r.n, optD r.up))) (Sum.inl y) = some (optD r.up) := fun y r e => by
  rw [val_merge (fun r : Row => r.n) (fun r => optD r.up) R [] y nd]
  have e' : R.find? (fun r => decide (r.n = y)) = some r := e
  rw [e']
def sp__law_deep : dSp := fun ds p Q _ => ∃ (R : List Row) (n : Int) (l : List Int), ds = [.lst (R.map rowD), .int n] ∧ R.length ≤ 10 ∧ (R.map (·.n)).Nodup ∧ Up R (some n) l ∧ l.length ≤ 10 ∧ Q (.int l.length) p
abbrev s__law_deep : Stmt := topS 20
abbrev n__law_deep : List Str := ["_law_lines", "_law_number", "_law_above", "_law_found", "_law_row"]
theorem sc__law_deep : FnScope n__law_deep ["_law_lines", "_law_number"] (defScope s__law_deep) := ⟨rfl, rfl, rfl, by decide +kernel, rfl, by decide +kernel, by decide +kernel⟩
def p__law_deep_x2_0 : dS := (dSet 1 (dIxV (dVar 2) (dVar 1)))
def p__law_deep_x2_1 : dS := (dSet 3 (dBin rAddD (dVar 3) (dC (.int 1))))
def b__law_deep_x2_1 : dS := p__law_deep_x2_1
def b__law_deep_x2_0 : dS := dSeq (p__law_deep_x2_0) (b__law_deep_x2_1)
def p__law_deep_0 : dS := (dSet 2 (dCB rDictPf (dCons (dFz (dLC (dSeqI (dVar 0)) (gN 4) dYes (dTup (dCons (dBin rIxD (dVar 4) (dC (.int 0))) (dCons (dBin rIxD (dVar 4) (dC (.int 1))) dNil))) [4])) dNil)))
def p__law_deep_1 : dS := (dSet 3 (dC (.int 1)))
def p__law_deep_2 : dS := (dWhile (dB (dBin (rNotN) (dIxV (dVar 2) (dVar 1)) (dC .non))) b__law_deep_x2_0)
def p__law_deep_3 : dS := (dRet (dVar 3))
def b__law_deep_3 : dS := p__law_deep_3
def b__law_deep_2 : dS := dSeq (p__law_deep_2) (b__law_deep_3)
def b__law_deep_1 : dS := dSeq (p__law_deep_1) (b__law_deep_2)
def b__law_deep_0 : dS := dSeq (p__law_deep_0) (b__law_deep_1)
def b__law_deep : dS := b__law_deep_0
theorem run__law_deep {P : Program} {w : World} {K : PySem.W.Frag} {mg : Str → Option Value} {base : Heap} (m_dict : mg "dict" = none) {f : Addr} (cdv : Value) (A : Around) (out : List Env) (s : Shared) (H : Hp) (E : XK) (g : A.guards = some []) (hrA : Room 0 (A.deeper (envOfC "_law_deep" (defScope s__law_deep) s.heap.objs.size f cdv))) :
  DSs (cx0 P w K mg base n__law_deep "_law_deep" (defScope s__law_deep) f cdv A out s H E) E00 (defBody s__law_deep) b__law_deep := by
 have hgA : (A.deeper (envOfC "_law_deep" (defScope s__law_deep) s.heap.objs.size f cdv)).guards = some [] := g
 have hun := hrA.un
 exact (dss_cons (t := p__law_deep_0) (u := b__law_deep_1) (ds_set (i := 2) sc__law_deep.nd rfl (by first | exact .inl rfl | exact .inr rfl) (de_callTy (cd_dictPf rfl) (by rfl) m_dict (by decide +kernel) (da_cons (de_fz (df_lc (E2 := E00) (own := [("_law_row", 4)]) rfl sc__law_deep.nd (di_seq (de_var (pv 0))) (blkOk_by (N := n__law_deep) (sc := (defScope s__law_deep)) (own := [("_law_row", 4)]) (by decide +kernel)) (by decide) (fun _ _ _ _ _ => (dg_name (pg_name (i := 4) sc__law_deep.nd rfl (by first | exact .inl rfl | exact .inr rfl)))) (fun _ _ _ _ _ => dts_nil) (fun _ _ _ _ _ => (de_tup (da_cons (de_ix (de_var (pv 4)) de_int (fun _ _ => rfl)) (da_cons (de_ix (de_var (pv 4)) de_int (fun _ _ => rfl)) da_nil)))))) da_nil)))
  (dss_cons (t := p__law_deep_1) (u := b__law_deep_2) (ds_set (i := 3) sc__law_deep.nd rfl (by first | exact .inl rfl | exact .inr rfl) de_int)
  (dss_cons (t := p__law_deep_2) (u := b__law_deep_3) (ds_while PassesOwn.never (dt_cmp (od_notN) (de_ixV (Nat.lt_of_le_of_lt (Nat.add_le_add_left (by decide) _) hun) (de_var (pv 2)) (de_var (pv 1)) (fun _ _ => rfl)) de_non (nomark _)) (dss_cons (t := p__law_deep_x2_0) (u := b__law_deep_x2_1) (ds_set (i := 1) sc__law_deep.nd rfl (by first | exact .inl rfl | exact .inr rfl) (de_ixV (Nat.lt_of_le_of_lt (Nat.add_le_add_left (by decide) _) hun) (de_var (pv 2)) (de_var (pv 1)) (fun _ _ => rfl)))
  (dss_one (t := p__law_deep_x2_1) (ds_set (i := 3) sc__law_deep.nd rfl (by first | exact .inl rfl | exact .inr rfl) (de_op od_add (de_var (pv 3)) de_int)))))
  (dss_one (t := p__law_deep_3) (ds_ret (de_var (pv 3)))))))
theorem hsp__law_deep : ∀ ds p Q W, ds.length = 2 → sp__law_deep ds p Q W → b__law_deep W0 (endsD Q) (startD n__law_deep.length ds p) := by
  rintro _ p Q W - ⟨R, n, l, rfl, hR, nd, u, hl, q⟩
  simp only [DSIMP, n__law_deep, b__law_deep, b__law_deep_0, p__law_deep_0]
  refine wLC_maps (l := R) (ι := rowD) (f := fun r => .tup [.int r.n, optD r.up]) (fun r hr acc k hk q => ?_) (by rw [sizeLine_eq]; omega) ?_
  · simp only [DSIMP, rowD]
    exact ⟨hk, q⟩
  have e1 := pairs_mapf (fun r : Row => r.n) (fun r => optD r.up) R
  simp only [DSIMP, e1]
  have look := pair_look nd
  generalize mergeD [] (R.map fun r => ((Sum.inl r.n : Key), optD r.up)) = dict at look
  simp only [DSIMP, b__law_deep_1, p__law_deep_1, b__law_deep_2, p__law_deep_2]
  cases u with
  | @cons _ r l e u =>
    refine ⟨fun m δ => ∃ (k : Nat) (y : Int) (r : Row) (l2 : List Int), δ = ⟨[.dat (.lst (R.map rowD)), .dat (.int y), .dat (.fK dict), .dat (.int (k : Nat)), .un], p⟩ ∧ rowAt R y = some r ∧ Up R r.up l2 ∧ k + l2.length = l.length + 1 ∧ m = l2.length, ⟨_, 1, n, r, l, rfl, e, u, by omega, rfl⟩, ?_⟩
    rintro m _ ⟨k, y, r2, l2, rfl, e2, u2, hk, rfl⟩
    have lk := look y r2 e2
    simp only [DSIMP, dictAt, asT, asK, lk]
    cases hu : r2.up with
    | none =>
      rw [hu] at u2
      cases u2
      simp only [DSIMP, optD, b__law_deep_3, p__law_deep_3, b__law_deep_3]
      simp only [List.length_nil, Nat.add_zero] at hk
      subst hk
      exact q
    | some z =>
      rw [hu] at u2
      cases u2 with
      | @cons _ r3 l3 e3 u3 =>
        simp only [DSIMP, optD, b__law_deep_x2_0, p__law_deep_x2_0, b__law_deep_x2_1, p__law_deep_x2_1, dictAt, asT, asK, lk, hu, b__law_deep_x2_1]
        simp only [List.length_cons] at hk
        exact ⟨l3.length, by simp, k + 1, z, r3, l3, rfl, e3, u3, by omega, rfl⟩
theorem ok__law_deep {P : Program} {w : World} {K : PySem.W.Frag} {mg : Str → Option Value} {base : Heap} (m_dict : mg "dict" = none) {f : Addr} {fd : FuncData} (F : Fun K "_law_deep" "_law_deep" s__law_deep f fd) : FnG P w K mg base CX0 1 f fd ["_law_lines", "_law_number"] (spD K 2 sp__law_deep) :=
 fn_d0 F sc__law_deep rfl (fun cdv A out s H E g r => run__law_deep m_dict cdv A out s H E g r) hsp__law_deep
end Ev07
namespace Ev07
open PySem PySem.Spec PyProof.Rows L2 Ev Pt
local macro_rules
  | `(tactic| simp only [DSIMP, $as,*] $[$l:location]?) => `(tactic| simp only [rNeE, rEL, List.isEmpty_nil, List.isEmpty_cons, gIx, rIsA, rIsS, kitS, kitS.optQB, D.cls, dHGet, dHPut, dBornK, penK_cells, penK_at, penK_left, penK_pat, penK_pleft, penK_len, ex_hpK, dOwnGet2, ownKs, dKpL, dNewKd, dKpLk, rDictPTf, dRaise1, dRaise0, excD, dTry, wTry, Ev.rIsE, Ev.rIsEt, D.xcN, dFldE, dCallVX, WP, exS_tab, dTakeN, dIxN, dKpNew, dKpPut, dKpIns, dKpApp, dKpFz, dRoK, dRoL, dNewK1, dIns, roK, dZipM, dNGet, dNPut, dNewN, isNo, Ev.nGet, Ev.nPut, D.nkey, b2n, rAddB, rSubB, rStrB, rEqE, dSrtSet, dOrX, truD, rDictX, dTupN, dSlN, rAddN, rSrtN, rTupleN, rDictN, dSlX, dRevX, dLenSetN, dEmptyV, rLtX, rMulX, Ev.rReprX, dPenS, gStarDL, dAug, dIndexE, dZipS, dGcIn, dGbIx, dGdIn, dGdIx, dListRg, rDictPf, dZipL, dListKo, dEmptyT, dDispT1, dNeE, rListA, rDictPT, rIsTF, dGroup, rSrtA, rLenA, dInV, dIxV, dCount, dSortKo, dCallR, adD, gL, dDN, dLN, wNest, bNest, bEl, bEd, dZip, seqOf, dSortDK, dCallV, dCallLam, optQ, dEnum, D.nf, D.nfs, Ev.rSumD, dLock, dKeysI, gStarD, dReverse, dMove, dDGet2, getD2, D.isD, dDisp, dPairs, keysD, Ev.rMaxD, Ev.rMinD, rDictP, Option.getD_some, Option.getD_none, Ev.D.eq_refl, dPen1, dLenSet, dSrtR, dRo, dRoF, dRoT, roD, ro_un, ro_dat, ro_own, ro_hp, ro_law, ro_ownK, ro_ownT, List.forall_mem_map, flat_int, flat_str, flat_bl, flat_non, solid_int, solid_str, solid_bl, solid_non, solid_tup, solids_nil, solids_cons, dSeq, dNext, dSet, dSetF, setSl, dVar, dTake, dC, dBin, dBinF, dB, dIfS, dIf, dRet, dRetN, dExpr, dNil, dCons, dTup, dLst, dFz, dAnd, dOr, dNot, dAndV, dOrV, dNotV, dCallD, dCallK, dCB, dCBF, dFor, dLC, dYes, dRng1, dRng2, dSeqI, gN, gT, gsNil, gsCons, dAsg, dNeg, dJoin, dFs, dJs, dFmt, dApp, dExt, dPop, dPopAt, dOwnIx, dOwnCB, dOwnL, dOwnR, dOwnSl, dSetIx, dSlT, dSlL, oNone, oSome, dBorn, optQ, ownAt, setOwnAt, lookAt, wipeD, dNewDT, dNewDK, dDGet, dDIn, dDPut, dSortT, rSrt, isDict, Ev.dictGet, Ev.dictPut, Option.isSome_none, Option.isSome_some, D.keyT, keysOf, D.key, exists_eq_left', exists_eq_left, Option.isSome, rRepL, rCatL, dRetF, dIfF, dPar, dRetOwn, dCallL, dCallLK, dPen2, dRev, dRevI, dIndex, endsL, startL, dNever, dBrk, dCnt, rAddD, rSubI, rIO, rMulI, rDivI, rModI, rPowI, rCI, Ev.rIxD, rIsN, rNotN, D.isN, Ev.rLen, rTuple, rList, rAbs, rInt, rStr, Ev.rRepr, Ev.rIsi, D.ty, kit_tab, startD, endsD, List.map_cons, List.map_nil, List.length_cons, List.length_nil, List.append_nil, List.nil_append, List.cons_append, List.getElem?_cons_zero, List.getElem?_cons_succ, List.getElem?_nil, List.set_cons_zero, List.set_cons_succ, List.replicate, List.replicate_succ, Nat.zero_add, Nat.zero_le, sizeLine, true_and, and_true, if_true, Ev.eq_int, Ev.eq_str, Ev.eq_bl, Ev.eq_non, lst_nil, tup_nil, List.map_eq_nil_iff, txt_join, rLt, rLe, rGt, rGe, atI_ofNat, atI_last, wLC, strsOf, intsOf, blsOf, Option.map_some, Ev.join_two, Ev.join_one, Ev.join_nil, List.sum_cons, List.sum_nil, PySem.Str.empty_append, ixN_ofNat, Option.some.injEq, exists_eq', List.length_map, decide_true, decide_false, Bool.not_true, Bool.not_false, Bool.true_eq_false, Bool.false_eq_true, false_and, and_false, if_false, ite_true, ite_false, Nat.reduceAdd, Nat.reduceSub, Nat.reduceMul, Nat.reduceLT, Nat.reduceLeDiff, Nat.reduceEqDiff, Nat.reducePow, Int.reduceToNat, Int.reducePow, pickL, List.filterMap_cons, List.filterMap_nil, and_self, Int.reduceLT, Int.reduceLE, Int.reduceNeg, Int.reduceAdd, Int.reduceMul, Int.reduceSub, Int.reduceEq, reduceIte, reduceCtorEq, lit_eq, String.reduceEq, Ev.rEq, Ev.rNe, Ev.rInD, cut_toN, cut_fromN, List.map_take, List.forall_mem_cons, List.forall_mem_nil, List.not_mem_nil, false_imp_iff, implies_true, forall_const, D.cm, D.lay, D.lays, D.dep, D.deps, strOk_lit, lays_ints, deps_ints, Nat.max_self, Nat.max_zero, Nat.zero_max, Bool.and_self, Bool.true_and, Bool.and_true, Bool.and_false, Bool.false_and, Bool.or_false, Bool.or_true, Bool.true_or, Bool.false_or, List.any_cons, List.any_nil, decide_eq_true_eq, eq_self, $as,*] $[$l]?)
  | `(tactic| simp only [DSIMP] $[$l:location]?) => `(tactic| simp only [rNeE, rEL, List.isEmpty_nil, List.isEmpty_cons, gIx, rIsA, rIsS, kitS, kitS.optQB, D.cls, dHGet, dHPut, dBornK, penK_cells, penK_at, penK_left, penK_pat, penK_pleft, penK_len, ex_hpK, dOwnGet2, ownKs, dKpL, dNewKd, dKpLk, rDictPTf, dRaise1, dRaise0, excD, dTry, wTry, Ev.rIsE, Ev.rIsEt, D.xcN, dFldE, dCallVX, WP, exS_tab, dTakeN, dIxN, dKpNew, dKpPut, dKpIns, dKpApp, dKpFz, dRoK, dRoL, dNewK1, dIns, roK, dZipM, dNGet, dNPut, dNewN, isNo, Ev.nGet, Ev.nPut, D.nkey, b2n, rAddB, rSubB, rStrB, rEqE, dSrtSet, dOrX, truD, rDictX, dTupN, dSlN, rAddN, rSrtN, rTupleN, rDictN, dSlX, dRevX, dLenSetN, dEmptyV, rLtX, rMulX, Ev.rReprX, dPenS, gStarDL, dAug, dIndexE, dZipS, dGcIn, dGbIx, dGdIn, dGdIx, dListRg, rDictPf, dZipL, dListKo, dEmptyT, dDispT1, dNeE, rListA, rDictPT, rIsTF, dGroup, rSrtA, rLenA, dInV, dIxV, dCount, dSortKo, dCallR, adD, gL, dDN, dLN, wNest, bNest, bEl, bEd, dZip, seqOf, dSortDK, dCallV, dCallLam, optQ, dEnum, D.nf, D.nfs, Ev.rSumD, dLock, dKeysI, gStarD, dReverse, dMove, dDGet2, getD2, D.isD, dDisp, dPairs, keysD, Ev.rMaxD, Ev.rMinD, rDictP, Option.getD_some, Option.getD_none, Ev.D.eq_refl, dPen1, dLenSet, dSrtR, dRo, dRoF, dRoT, roD, ro_un, ro_dat, ro_own, ro_hp, ro_law, ro_ownK, ro_ownT, List.forall_mem_map, flat_int, flat_str, flat_bl, flat_non, solid_int, solid_str, solid_bl, solid_non, solid_tup, solids_nil, solids_cons, dSeq, dNext, dSet, dSetF, setSl, dVar, dTake, dC, dBin, dBinF, dB, dIfS, dIf, dRet, dRetN, dExpr, dNil, dCons, dTup, dLst, dFz, dAnd, dOr, dNot, dAndV, dOrV, dNotV, dCallD, dCallK, dCB, dCBF, dFor, dLC, dYes, dRng1, dRng2, dSeqI, gN, gT, gsNil, gsCons, dAsg, dNeg, dJoin, dFs, dJs, dFmt, dApp, dExt, dPop, dPopAt, dOwnIx, dOwnCB, dOwnL, dOwnR, dOwnSl, dSetIx, dSlT, dSlL, oNone, oSome, dBorn, optQ, ownAt, setOwnAt, lookAt, wipeD, dNewDT, dNewDK, dDGet, dDIn, dDPut, dSortT, rSrt, isDict, Ev.dictGet, Ev.dictPut, Option.isSome_none, Option.isSome_some, D.keyT, keysOf, D.key, exists_eq_left', exists_eq_left, Option.isSome, rRepL, rCatL, dRetF, dIfF, dPar, dRetOwn, dCallL, dCallLK, dPen2, dRev, dRevI, dIndex, endsL, startL, dNever, dBrk, dCnt, rAddD, rSubI, rIO, rMulI, rDivI, rModI, rPowI, rCI, Ev.rIxD, rIsN, rNotN, D.isN, Ev.rLen, rTuple, rList, rAbs, rInt, rStr, Ev.rRepr, Ev.rIsi, D.ty, kit_tab, startD, endsD, List.map_cons, List.map_nil, List.length_cons, List.length_nil, List.append_nil, List.nil_append, List.cons_append, List.getElem?_cons_zero, List.getElem?_cons_succ, List.getElem?_nil, List.set_cons_zero, List.set_cons_succ, List.replicate, List.replicate_succ, Nat.zero_add, Nat.zero_le, sizeLine, true_and, and_true, if_true, Ev.eq_int, Ev.eq_str, Ev.eq_bl, Ev.eq_non, lst_nil, tup_nil, List.map_eq_nil_iff, txt_join, rLt, rLe, rGt, rGe, atI_ofNat, atI_last, wLC, strsOf, intsOf, blsOf, Option.map_some, Ev.join_two, Ev.join_one, Ev.join_nil, List.sum_cons, List.sum_nil, PySem.Str.empty_append, ixN_ofNat, Option.some.injEq, exists_eq', List.length_map, decide_true, decide_false, Bool.not_true, Bool.not_false, Bool.true_eq_false, Bool.false_eq_true, false_and, and_false, if_false, ite_true, ite_false, Nat.reduceAdd, Nat.reduceSub, Nat.reduceMul, Nat.reduceLT, Nat.reduceLeDiff, Nat.reduceEqDiff, Nat.reducePow, Int.reduceToNat, Int.reducePow, pickL, List.filterMap_cons, List.filterMap_nil, and_self, Int.reduceLT, Int.reduceLE, Int.reduceNeg, Int.reduceAdd, Int.reduceMul, Int.reduceSub, Int.reduceEq, reduceIte, reduceCtorEq, lit_eq, String.reduceEq, Ev.rEq, Ev.rNe, Ev.rInD, cut_toN, cut_fromN, List.map_take, List.forall_mem_cons, List.forall_mem_nil, List.not_mem_nil, false_imp_iff, implies_true, forall_const, D.cm, D.lay, D.lays, D.dep, D.deps, strOk_lit, lays_ints, deps_ints, Nat.max_self, Nat.max_zero, Nat.zero_max, Bool.and_self, Bool.true_and, Bool.and_true, Bool.and_false, Bool.false_and, Bool.or_false, Bool.or_true, Bool.true_or, Bool.false_or, List.any_cons, List.any_nil, decide_eq_true_eq, eq_self] $[$l]?)
variable [TabC] [PkD]
structure EndAt (B : List Ln) (a q : Nat) : Prop where
  lt : a < q
  le : q ≤ B.length
  inn : ∀ j (hj : j < B.length) (ha : a < B.length), a < j → j < q → B[a].2 <:+ B[j].2
  out : ∀ (h : q < B.length) (ha : a < B.length), ¬ B[a].2 <:+ B[q].2
theorem PreL.above {B : List Ln} (P : PreL B) {i j : Nat} (hi : i < B.length) (hj : j < B.length) (h : B[i].2 <:+ B[j].2) : i ≤ j := by
  obtain ⟨l, hl⟩ := P.hd i hi
  rw [hl] at h
  obtain ⟨k, hk, h1, h2, h3⟩ := P.suff j hj _ _ h
  have := P.one hk hi h3
  omega
/-- behind all beneath it nothing is deeper -/
theorem EndAt.deep {B : List Ln} (P : PreL B) {a q : Nat} (ha : a < B.length) (e : EndAt B a q) : q = a + 1 ∨ ∀ (h : q < B.length), B[q].2.length ≤ B[a].2.length := by
  refine .inr fun h => ?_
  obtain ⟨i, rfl⟩ : ∃ i, q = i + 1 := ⟨q - 1, by have := e.lt; omega⟩
  obtain ⟨u, l, h1, h2, h3⟩ := P.step i h
  have ia : B[a].2 <:+ (B[i]'(by omega)).2 := by
    by_cases c : a = i
    · subst c; exact List.suffix_rfl
    · exact e.inn i (by omega) ha (by have := e.lt; omega) (by omega)
  have no := e.out h ha
  rcases List.suffix_or_suffix_of_suffix ia h2 with s | s
  · exact absurd (s.trans (by rw [h1]; exact List.suffix_cons _ _)) no
  · have hl := s.length_le
    rcases Nat.lt_or_eq_of_le hl with hl | hl
    · rw [h1]; simp only [List.length_cons] at hl ⊢; omega
    · have := s.eq_of_length hl
      exact absurd (by rw [h1, this]; exact List.suffix_cons _ _) no
theorem EndAt.deeper {B : List Ln} (P : PreL B) {a q : Nat} (ha : a < B.length) (e : EndAt B a q) : ∀ j (hj : j < q), a < j → B[a].2.length < (B[j]'(by have := e.le; omega)).2.length := fun j hj haj => by
  have hjl : j < B.length := by have := e.le; omega
  have s := e.inn j hjl ha haj hj
  rcases Nat.lt_or_eq_of_le s.length_le with h | h
  · exact h
  · have eq := s.eq_of_length h
    have := P.above hjl ha (by rw [eq]; exact List.suffix_rfl)
    omega
def sp__law_end : dSp := fun ds p Q _ => ∃ (B : List Ln) (i : Nat), ds = [.lst ((B.map (·.1)).map rowD), .int i] ∧ i < B.length ∧ PreL B ∧ ∀ q : Nat, EndAt B i q → Q (.int q) p
abbrev s__law_end : Stmt := topS 19
abbrev n__law_end : List Str := ["_law_lines", "_law_at", "_law_known", "_law_end_here"]
theorem sc__law_end : FnScope n__law_end ["_law_lines", "_law_at"] (defScope s__law_end) := ⟨rfl, rfl, rfl, by decide +kernel, rfl, by decide +kernel, by decide +kernel⟩
def p__law_end_x2_0 : dS := (dApp 2 (dBin rIxD (dBin rIxD (dVar 0) (dVar 3)) (dC (.int 0))))
def p__law_end_x2_1 : dS := (dSet 3 (dBin rAddD (dVar 3) (dC (.int 1))))
def b__law_end_x2_1 : dS := p__law_end_x2_1
def b__law_end_x2_0 : dS := dSeq (p__law_end_x2_0) (b__law_end_x2_1)
def p__law_end_0 : dS := (dSetF 2 (dLst (dCons (dBin rIxD (dBin rIxD (dVar 0) (dVar 1)) (dC (.int 0))) dNil)))
def p__law_end_1 : dS := (dSet 3 (dBin rAddD (dVar 1) (dC (.int 1))))
def p__law_end_2 : dS := (dWhile (dAnd (dB (dBin (rLt) (dVar 3) (dCB rLen (dCons (dVar 0) dNil)))) (dB (dOwnR 2 (rInD false) (dBin rIxD (dBin rIxD (dVar 0) (dVar 3)) (dC (.int 1)))))) b__law_end_x2_0)
def p__law_end_3 : dS := (dRet (dVar 3))
def b__law_end_3 : dS := p__law_end_3
def b__law_end_2 : dS := dSeq (p__law_end_2) (b__law_end_3)
def b__law_end_1 : dS := dSeq (p__law_end_1) (b__law_end_2)
def b__law_end_0 : dS := dSeq (p__law_end_0) (b__law_end_1)
def b__law_end : dS := b__law_end_0
theorem run__law_end {P : Program} {w : World} {K : PySem.W.Frag} {mg : Str → Option Value} {base : Heap} (m_len : mg "len" = none) {f : Addr} (cdv : Value) (A : Around) (out : List Env) (s : Shared) (H : Hp) (E : XK) (g : A.guards = some []) (hrA : Room 0 (A.deeper (envOfC "_law_end" (defScope s__law_end) s.heap.objs.size f cdv))) :
  DSs (cx0 P w K mg base n__law_end "_law_end" (defScope s__law_end) f cdv A out s H E) E00 (defBody s__law_end) b__law_end := by
 have hgA : (A.deeper (envOfC "_law_end" (defScope s__law_end) s.heap.objs.size f cdv)).guards = some [] := g
 have hun := hrA.un
 exact (dss_cons (t := p__law_end_0) (u := b__law_end_1) (ds_setF (i := 2) sc__law_end.nd rfl (by first | exact .inl rfl | exact .inr rfl) (df_lst (da_cons (de_ix (de_ix (de_var (pv 0)) (de_var (pv 1)) (fun _ _ => rfl)) de_int (fun _ _ => rfl)) da_nil)))
  (dss_cons (t := p__law_end_1) (u := b__law_end_2) (ds_set (i := 3) sc__law_end.nd rfl (by first | exact .inl rfl | exact .inr rfl) (de_op od_add (de_var (pv 1)) de_int))
  (dss_cons (t := p__law_end_2) (u := b__law_end_3) (ds_while PassesOwn.never ((dw_and (dt_cmp (od_lt) (de_var (pv 3)) (de_callB (cd_len) (by rfl) m_len PySem.boot_len (da_cons (de_var (pv 0)) da_nil)) (nomark _)) (dw_and1 (dt_ownR (od_in (Nat.lt_of_le_of_lt (Nat.add_le_add_left (by decide) _) hun)) (de_ix (de_ix (de_var (pv 0)) (de_var (pv 3)) (fun _ _ => rfl)) de_int (fun _ _ => rfl)) (pv 2) (by with_unfolding_all rfl))))).dt (dss_cons (t := p__law_end_x2_0) (u := b__law_end_x2_1) (ds_app (pv 2) (de_ix (de_ix (de_var (pv 0)) (de_var (pv 3)) (fun _ _ => rfl)) de_int (fun _ _ => rfl)))
  (dss_one (t := p__law_end_x2_1) (ds_set (i := 3) sc__law_end.nd rfl (by first | exact .inl rfl | exact .inr rfl) (de_op od_add (de_var (pv 3)) de_int)))))
  (dss_one (t := p__law_end_3) (ds_ret (de_var (pv 3)))))))
theorem ln_at {B : List Ln} {i : Nat} (h : i < B.length) : atI ((B.map (·.1)).map rowD) (i : Int) = some (rowD B[i].1) := by
  rw [atI_nn (by omega), Int.toNat_natCast, List.getElem?_map, List.getElem?_map, List.getElem?_eq_getElem h]; rfl
def knL (B : List Ln) (i e : Nat) : List Int := ((B.drop i).take (e - i)).map (·.1.n)
theorem hsp__law_end : ∀ ds p Q W, ds.length = 2 → sp__law_end ds p Q W → b__law_end W0 (endsD Q) (startD n__law_end.length ds p) := by
  rintro _ p Q W - ⟨B, i, rfl, hi, P, q⟩
  have rl := P.len
  have li := ln_at hi
  simp only [DSIMP, n__law_end, b__law_end, b__law_end_0, p__law_end_0, b__law_end_1, p__law_end_1, b__law_end_2, p__law_end_2, li, rowD.eq_1 B[i].1]
  refine ⟨fun m δ => ∃ e : Nat, δ = ⟨[.dat (.lst ((B.map (·.1)).map rowD)), .dat (.int i), .own ((knL B i e).map .int), .dat (.int (e : Nat))], p⟩ ∧ i < e ∧ e ≤ B.length ∧ (∀ j (hj : j < B.length), i < j → j < e → B[i].2 <:+ B[j].2) ∧ m = B.length - e, ⟨_, i + 1, ?_, by omega, by omega, fun j hj h1 h2 => by omega, rfl⟩, ?_⟩
  · unfold knL
    rw [show i + 1 - i = 1 by omega, List.take_one, List.head?_drop, List.getElem?_eq_getElem hi]
    rfl
  rintro m _ ⟨e, rfl, h1, h2, h3, rfl⟩
  have suf : ∀ j (hj : j < B.length), i ≤ j → j < e → B[i].2 <:+ B[j].2 := fun j hj c1 c2 => by
    by_cases c : i = j
    · subst c; exact List.suffix_rfl
    · exact h3 j hj (by omega) c2
  by_cases he : e < B.length
  · have le := ln_at he
    have he2 : ((e : Nat) : Int) < ((B.length : Nat) : Int) := by omega
    obtain ⟨k, rfl⟩ : ∃ k, e = k + 1 := ⟨e - 1, by omega⟩
    obtain ⟨j, hj, hjk, up, ln⟩ := P.elder he
    have hm : decide (B[j].1.n ∈ knL B i (k + 1)) = decide (i ≤ j) := by
      unfold knL
      apply decide_eq_decide.mpr
      constructor
      · intro h
        obtain ⟨p0, hp0, e0⟩ := List.mem_map.mp h
        obtain ⟨t, ht, et⟩ := List.getElem_of_mem (List.mem_of_mem_take hp0)
        rw [List.getElem_drop] at et
        have ht2 : i + t < B.length := by rw [List.length_drop] at ht; omega
        have := P.one ht2 hj (by rw [et]; exact e0)
        omega
      · intro h
        refine List.mem_map.mpr ⟨B[j], ?_, rfl⟩
        rw [List.mem_take_iff_getElem]
        refine ⟨j - i, by rw [List.length_drop]; omega, ?_⟩
        rw [List.getElem_drop]
        simp only [show i + (j - i) = j by omega]
    have ni := nums_in (knL B i (k + 1)) B[j].1.n
    rw [hm] at ni
    have ly : D.lays ((knL B i (k + 1)).map D.int) = true := lays_map fun _ _ => rfl
    have dp : D.deps ((knL B i (k + 1)).map D.int) ≤ 63 := deps_map fun _ _ => Nat.zero_le _
    simp only [DSIMP, List.length_map, he2, le, rowD.eq_1 B[k + 1].1, up, optD, ni, ly, dp]
    by_cases c : i ≤ j
    · have nl : (knL B i (k + 1)).length ≤ 10 := by
        unfold knL
        rw [List.length_map, List.length_take]
        have := Nat.min_le_right (k + 1 - i) (B.drop i).length
        rw [List.length_drop] at this ⊢
        omega
      simp only [DSIMP, decide_eq_true c, b__law_end_x2_0, p__law_end_x2_0, b__law_end_x2_1, p__law_end_x2_1, le, rowD.eq_1 B[k + 1].1, List.length_map]
      refine ⟨by omega, B.length - (k + 1 + 1), by omega, k + 1 + 1, ?_, by omega, by omega, fun t ht c1 c2 => ?_, rfl⟩
      · have e2 : (B.drop i).take (k + 1 + 1 - i) = (B.drop i).take (k + 1 - i) ++ [B[k + 1]] := by
          have : k + 1 + 1 - i = (k + 1 - i) + 1 := by omega
          rw [this, List.take_add_one, List.getElem?_drop, show i + (k + 1 - i) = k + 1 by omega, List.getElem?_eq_getElem he]
          rfl
        unfold knL
        rw [e2, List.map_append, List.map_append]
        rfl
      · by_cases ct : t = k + 1
        · subst ct
          rw [ln]
          exact (suf j hj c (by omega)).trans (List.suffix_cons _ _)
        · exact h3 t ht c1 (by omega)
    · simp only [DSIMP, decide_eq_false c, b__law_end_3, p__law_end_3, b__law_end_3]
      refine q (k + 1) ⟨h1, h2, fun t ht _ c1 c2 => h3 t ht c1 c2, fun h ha z => c ?_⟩
      rw [ln] at z
      rcases List.suffix_cons_iff.mp z with z | z
      · have := P.above he hi (by rw [ln, z]; exact List.suffix_rfl)
        omega
      · exact P.above hi hj z
  · have he2 : ¬ ((e : Nat) : Int) < ((B.length : Nat) : Int) := by omega
    simp only [DSIMP, List.length_map, he2, b__law_end_3, p__law_end_3, b__law_end_3]
    exact q e ⟨h1, h2, fun t ht _ c1 c2 => h3 t ht c1 c2, fun h => absurd h he⟩
theorem ok__law_end {P : Program} {w : World} {K : PySem.W.Frag} {mg : Str → Option Value} {base : Heap} (m_len : mg "len" = none) {f : Addr} {fd : FuncData} (F : Fun K "_law_end" "_law_end" s__law_end f fd) : FnG P w K mg base CX0 1 f fd ["_law_lines", "_law_at"] (spD K 2 sp__law_end) :=
 fn_d0 F sc__law_end rfl (fun cdv A out s H E g r => run__law_end m_len cdv A out s H E g r) hsp__law_end
end Ev07
namespace Ev07
open PySem PySem.Spec PyProof.Rows L2 Ev Pt
local macro_rules
  | `(tactic| simp only [DSIMP, $as,*] $[$l:location]?) => `(tactic| simp only [rNeE, rEL, List.isEmpty_nil, List.isEmpty_cons, gIx, rIsA, rIsS, kitS, kitS.optQB, D.cls, dHGet, dHPut, dBornK, penK_cells, penK_at, penK_left, penK_pat, penK_pleft, penK_len, ex_hpK, dOwnGet2, ownKs, dKpL, dNewKd, dKpLk, rDictPTf, dRaise1, dRaise0, excD, dTry, wTry, Ev.rIsE, Ev.rIsEt, D.xcN, dFldE, dCallVX, WP, exS_tab, dTakeN, dIxN, dKpNew, dKpPut, dKpIns, dKpApp, dKpFz, dRoK, dRoL, dNewK1, dIns, roK, dZipM, dNGet, dNPut, dNewN, isNo, Ev.nGet, Ev.nPut, D.nkey, b2n, rAddB, rSubB, rStrB, rEqE, dSrtSet, dOrX, truD, rDictX, dTupN, dSlN, rAddN, rSrtN, rTupleN, rDictN, dSlX, dRevX, dLenSetN, dEmptyV, rLtX, rMulX, Ev.rReprX, dPenS, gStarDL, dAug, dIndexE, dZipS, dGcIn, dGbIx, dGdIn, dGdIx, dListRg, rDictPf, dZipL, dListKo, dEmptyT, dDispT1, dNeE, rListA, rDictPT, rIsTF, dGroup, rSrtA, rLenA, dInV, dIxV, dCount, dSortKo, dCallR, adD, gL, dDN, dLN, wNest, bNest, bEl, bEd, dZip, seqOf, dSortDK, dCallV, dCallLam, optQ, dEnum, D.nf, D.nfs, Ev.rSumD, dLock, dKeysI, gStarD, dReverse, dMove, dDGet2, getD2, D.isD, dDisp, dPairs, keysD, Ev.rMaxD, Ev.rMinD, rDictP, Option.getD_some, Option.getD_none, Ev.D.eq_refl, dPen1, dLenSet, dSrtR, dRo, dRoF, dRoT, roD, ro_un, ro_dat, ro_own, ro_hp, ro_law, ro_ownK, ro_ownT, List.forall_mem_map, flat_int, flat_str, flat_bl, flat_non, solid_int, solid_str, solid_bl, solid_non, solid_tup, solids_nil, solids_cons, dSeq, dNext, dSet, dSetF, setSl, dVar, dTake, dC, dBin, dBinF, dB, dIfS, dIf, dRet, dRetN, dExpr, dNil, dCons, dTup, dLst, dFz, dAnd, dOr, dNot, dAndV, dOrV, dNotV, dCallD, dCallK, dCB, dCBF, dFor, dLC, dYes, dRng1, dRng2, dSeqI, gN, gT, gsNil, gsCons, dAsg, dNeg, dJoin, dFs, dJs, dFmt, dApp, dExt, dPop, dPopAt, dOwnIx, dOwnCB, dOwnL, dOwnR, dOwnSl, dSetIx, dSlT, dSlL, oNone, oSome, dBorn, optQ, ownAt, setOwnAt, lookAt, wipeD, dNewDT, dNewDK, dDGet, dDIn, dDPut, dSortT, rSrt, isDict, Ev.dictGet, Ev.dictPut, Option.isSome_none, Option.isSome_some, D.keyT, keysOf, D.key, exists_eq_left', exists_eq_left, Option.isSome, rRepL, rCatL, dRetF, dIfF, dPar, dRetOwn, dCallL, dCallLK, dPen2, dRev, dRevI, dIndex, endsL, startL, dNever, dBrk, dCnt, rAddD, rSubI, rIO, rMulI, rDivI, rModI, rPowI, rCI, Ev.rIxD, rIsN, rNotN, D.isN, Ev.rLen, rTuple, rList, rAbs, rInt, rStr, Ev.rRepr, Ev.rIsi, D.ty, kit_tab, startD, endsD, List.map_cons, List.map_nil, List.length_cons, List.length_nil, List.append_nil, List.nil_append, List.cons_append, List.getElem?_cons_zero, List.getElem?_cons_succ, List.getElem?_nil, List.set_cons_zero, List.set_cons_succ, List.replicate, List.replicate_succ, Nat.zero_add, Nat.zero_le, sizeLine, true_and, and_true, if_true, Ev.eq_int, Ev.eq_str, Ev.eq_bl, Ev.eq_non, lst_nil, tup_nil, List.map_eq_nil_iff, txt_join, rLt, rLe, rGt, rGe, atI_ofNat, atI_last, wLC, strsOf, intsOf, blsOf, Option.map_some, Ev.join_two, Ev.join_one, Ev.join_nil, List.sum_cons, List.sum_nil, PySem.Str.empty_append, ixN_ofNat, Option.some.injEq, exists_eq', List.length_map, decide_true, decide_false, Bool.not_true, Bool.not_false, Bool.true_eq_false, Bool.false_eq_true, false_and, and_false, if_false, ite_true, ite_false, Nat.reduceAdd, Nat.reduceSub, Nat.reduceMul, Nat.reduceLT, Nat.reduceLeDiff, Nat.reduceEqDiff, Nat.reducePow, Int.reduceToNat, Int.reducePow, pickL, List.filterMap_cons, List.filterMap_nil, and_self, Int.reduceLT, Int.reduceLE, Int.reduceNeg, Int.reduceAdd, Int.reduceMul, Int.reduceSub, Int.reduceEq, reduceIte, reduceCtorEq, lit_eq, String.reduceEq, Ev.rEq, Ev.rNe, Ev.rInD, cut_toN, cut_fromN, List.map_take, List.forall_mem_cons, List.forall_mem_nil, List.not_mem_nil, false_imp_iff, implies_true, forall_const, D.cm, D.lay, D.lays, D.dep, D.deps, strOk_lit, lays_ints, deps_ints, Nat.max_self, Nat.max_zero, Nat.zero_max, Bool.and_self, Bool.true_and, Bool.and_true, Bool.and_false, Bool.false_and, Bool.or_false, Bool.or_true, Bool.true_or, Bool.false_or, List.any_cons, List.any_nil, decide_eq_true_eq, eq_self, $as,*] $[$l]?)
  | `(tactic| simp only [DSIMP] $[$l:location]?) => `(tactic| simp only [rNeE, rEL, List.isEmpty_nil, List.isEmpty_cons, gIx, rIsA, rIsS, kitS, kitS.optQB, D.cls, dHGet, dHPut, dBornK, penK_cells, penK_at, penK_left, penK_pat, penK_pleft, penK_len, ex_hpK, dOwnGet2, ownKs, dKpL, dNewKd, dKpLk, rDictPTf, dRaise1, dRaise0, excD, dTry, wTry, Ev.rIsE, Ev.rIsEt, D.xcN, dFldE, dCallVX, WP, exS_tab, dTakeN, dIxN, dKpNew, dKpPut, dKpIns, dKpApp, dKpFz, dRoK, dRoL, dNewK1, dIns, roK, dZipM, dNGet, dNPut, dNewN, isNo, Ev.nGet, Ev.nPut, D.nkey, b2n, rAddB, rSubB, rStrB, rEqE, dSrtSet, dOrX, truD, rDictX, dTupN, dSlN, rAddN, rSrtN, rTupleN, rDictN, dSlX, dRevX, dLenSetN, dEmptyV, rLtX, rMulX, Ev.rReprX, dPenS, gStarDL, dAug, dIndexE, dZipS, dGcIn, dGbIx, dGdIn, dGdIx, dListRg, rDictPf, dZipL, dListKo, dEmptyT, dDispT1, dNeE, rListA, rDictPT, rIsTF, dGroup, rSrtA, rLenA, dInV, dIxV, dCount, dSortKo, dCallR, adD, gL, dDN, dLN, wNest, bNest, bEl, bEd, dZip, seqOf, dSortDK, dCallV, dCallLam, optQ, dEnum, D.nf, D.nfs, Ev.rSumD, dLock, dKeysI, gStarD, dReverse, dMove, dDGet2, getD2, D.isD, dDisp, dPairs, keysD, Ev.rMaxD, Ev.rMinD, rDictP, Option.getD_some, Option.getD_none, Ev.D.eq_refl, dPen1, dLenSet, dSrtR, dRo, dRoF, dRoT, roD, ro_un, ro_dat, ro_own, ro_hp, ro_law, ro_ownK, ro_ownT, List.forall_mem_map, flat_int, flat_str, flat_bl, flat_non, solid_int, solid_str, solid_bl, solid_non, solid_tup, solids_nil, solids_cons, dSeq, dNext, dSet, dSetF, setSl, dVar, dTake, dC, dBin, dBinF, dB, dIfS, dIf, dRet, dRetN, dExpr, dNil, dCons, dTup, dLst, dFz, dAnd, dOr, dNot, dAndV, dOrV, dNotV, dCallD, dCallK, dCB, dCBF, dFor, dLC, dYes, dRng1, dRng2, dSeqI, gN, gT, gsNil, gsCons, dAsg, dNeg, dJoin, dFs, dJs, dFmt, dApp, dExt, dPop, dPopAt, dOwnIx, dOwnCB, dOwnL, dOwnR, dOwnSl, dSetIx, dSlT, dSlL, oNone, oSome, dBorn, optQ, ownAt, setOwnAt, lookAt, wipeD, dNewDT, dNewDK, dDGet, dDIn, dDPut, dSortT, rSrt, isDict, Ev.dictGet, Ev.dictPut, Option.isSome_none, Option.isSome_some, D.keyT, keysOf, D.key, exists_eq_left', exists_eq_left, Option.isSome, rRepL, rCatL, dRetF, dIfF, dPar, dRetOwn, dCallL, dCallLK, dPen2, dRev, dRevI, dIndex, endsL, startL, dNever, dBrk, dCnt, rAddD, rSubI, rIO, rMulI, rDivI, rModI, rPowI, rCI, Ev.rIxD, rIsN, rNotN, D.isN, Ev.rLen, rTuple, rList, rAbs, rInt, rStr, Ev.rRepr, Ev.rIsi, D.ty, kit_tab, startD, endsD, List.map_cons, List.map_nil, List.length_cons, List.length_nil, List.append_nil, List.nil_append, List.cons_append, List.getElem?_cons_zero, List.getElem?_cons_succ, List.getElem?_nil, List.set_cons_zero, List.set_cons_succ, List.replicate, List.replicate_succ, Nat.zero_add, Nat.zero_le, sizeLine, true_and, and_true, if_true, Ev.eq_int, Ev.eq_str, Ev.eq_bl, Ev.eq_non, lst_nil, tup_nil, List.map_eq_nil_iff, txt_join, rLt, rLe, rGt, rGe, atI_ofNat, atI_last, wLC, strsOf, intsOf, blsOf, Option.map_some, Ev.join_two, Ev.join_one, Ev.join_nil, List.sum_cons, List.sum_nil, PySem.Str.empty_append, ixN_ofNat, Option.some.injEq, exists_eq', List.length_map, decide_true, decide_false, Bool.not_true, Bool.not_false, Bool.true_eq_false, Bool.false_eq_true, false_and, and_false, if_false, ite_true, ite_false, Nat.reduceAdd, Nat.reduceSub, Nat.reduceMul, Nat.reduceLT, Nat.reduceLeDiff, Nat.reduceEqDiff, Nat.reducePow, Int.reduceToNat, Int.reducePow, pickL, List.filterMap_cons, List.filterMap_nil, and_self, Int.reduceLT, Int.reduceLE, Int.reduceNeg, Int.reduceAdd, Int.reduceMul, Int.reduceSub, Int.reduceEq, reduceIte, reduceCtorEq, lit_eq, String.reduceEq, Ev.rEq, Ev.rNe, Ev.rInD, cut_toN, cut_fromN, List.map_take, List.forall_mem_cons, List.forall_mem_nil, List.not_mem_nil, false_imp_iff, implies_true, forall_const, D.cm, D.lay, D.lays, D.dep, D.deps, strOk_lit, lays_ints, deps_ints, Nat.max_self, Nat.max_zero, Nat.zero_max, Bool.and_self, Bool.true_and, Bool.and_true, Bool.and_false, Bool.false_and, Bool.or_false, Bool.or_true, Bool.true_or, Bool.false_or, List.any_cons, List.any_nil, decide_eq_true_eq, eq_self] $[$l]?)
variable [TabC] [PkD]
/-- what a row of these books is -/
structure RowG (p : Ln) : Prop where
  d : p.2.length ≤ 5
  a0 : p.1.up = none → p.1.a = 0
  kid : p.1.up ≠ none → 1 ≤ p.1.n ∧ p.1.x.natAbs ≤ 40 ∧ p.1.y.natAbs ≤ 40 ∧ 1 ≤ p.1.w ∧ p.1.w ≤ 40 ∧ 1 ≤ p.1.h ∧ p.1.h ≤ 40 ∧ 1 ≤ p.1.a ∧ p.1.a ≤ 4
theorem filt_seg {α : Type} {p : α → Bool} : ∀ {l : List α} {a b : Nat}, a ≤ b → b ≤ l.length → (∀ j (hj : j < l.length), p l[j] = decide (a ≤ j ∧ j < b)) → l.filter p = (l.drop a).take (b - a) := fun {l} => by
  induction l with
  | nil => intro a b _ _ _; simp
  | cons x l ih =>
    intro a b h1 h2 h
    have hx := h 0 (by simp)
    have ht : ∀ j (hj : j < l.length), p l[j] = decide (a ≤ j + 1 ∧ j + 1 < b) := fun j hj => h (j + 1) (by simp; omega)
    simp only [List.length_cons] at h2
    simp only [List.getElem_cons_zero] at hx
    cases b with
    | zero =>
      have : a = 0 := by omega
      subst this
      rw [List.filter_cons, hx, ih (a := 0) (b := 0) (by omega) (by omega) (fun j hj => by rw [ht j hj]; congr 1; simp)]
      simp
    | succ b =>
      cases a with
      | zero =>
        rw [List.filter_cons, hx, ih (a := 0) (b := b) (by omega) (by omega) (fun j hj => by rw [ht j hj]; congr 1; simp)]
        simp
      | succ a =>
        rw [List.filter_cons, hx, ih (a := a) (b := b) (by omega) (by omega) (fun j hj => by rw [ht j hj]; congr 1; simp)]
        simp
theorem EndAt.ex {B : List Ln} {i : Nat} (hi : i < B.length) : ∃ q, EndAt B i q := by
  have key : ∀ (m e : Nat), m = B.length - e → i < e → e ≤ B.length → (∀ j (hj : j < B.length), i < j → j < e → B[i].2 <:+ B[j].2) → ∃ q, EndAt B i q := by
    intro m
    induction m with
    | zero => intro e h1 h2 h3 h4; exact ⟨e, h2, h3, fun j hj _ a b => h4 j hj a b, fun h => by omega⟩
    | succ m ih =>
      intro e h1 h2 h3 h4
      have he : e < B.length := by omega
      by_cases c : B[i].2 <:+ B[e].2
      · exact ih (e + 1) (by omega) (by omega) (by omega) fun j hj a b => by
          by_cases ce : j = e
          · subst ce; exact c
          · exact h4 j hj a (by omega)
      · exact ⟨e, h2, h3, fun j hj _ a b => h4 j hj a b, fun _ _ => c⟩
  exact key _ (i + 1) rfl (by omega) (by omega) fun j hj a b => by omega
theorem EndAt.iff {B : List Ln} (P : PreL B) {i q : Nat} (hi : i < B.length) (e : EndAt B i q) (j : Nat) (hj : j < B.length) : B[i].2 <:+ B[j].2 ↔ i ≤ j ∧ j < q := by
  constructor
  · intro s
    have h1 := P.above hi hj s
    refine ⟨h1, ?_⟩
    rcases Nat.lt_or_ge j q with h | h
    · exact h
    · exact absurd (P.within hj h1 s q h (by have := e.lt; omega)) (e.out (by omega) hi)
  · rintro ⟨h1, h2⟩
    by_cases c : i = j
    · subst c; exact List.suffix_rfl
    · exact e.inn j hj hi (by omega) h2
theorem PreL.in_line {B : List Ln} (P : PreL B) {i j : Nat} (hi : i < B.length) (hj : j < B.length) : B[i].1.n ∈ B[j].2 ↔ B[i].2 <:+ B[j].2 := by
  constructor
  · intro h
    obtain ⟨k, hk, _, h2, h3⟩ := P.mem_line hj h
    have := P.one hk hi h2
    subst this
    exact h3
  · intro h
    obtain ⟨l, e⟩ := P.hd i hi
    exact h.subset (by rw [e]; exact List.mem_cons_self)
theorem EndAt.blk {B : List Ln} (P : PreL B) {i q : Nat} (hi : i < B.length) (e : EndAt B i q) : (B.filter fun y => decide (B[i].1.n ∈ y.2)) = (B.drop i).take (q - i) :=
  filt_seg (by have := e.lt; omega) e.le fun j hj => by
    have := (P.in_line hi hj).trans (e.iff P hi j hj)
    exact decide_eq_decide.mpr this
/-- a book without a room and all beneath it -/
theorem EndAt.cut {B : List Ln} (P : PreL B) {i q : Nat} (hi : i < B.length) (h0 : 0 < i) (e : EndAt B i q) : PreL (B.take i ++ B.drop q) := by
  have lt := e.lt
  have le := e.le
  have sub : (B.take i ++ B.drop q).Sublist B := by
    have h1 := List.take_append_drop i B
    have h2 : (B.drop q).Sublist (B.drop i) := by
      rw [show q = i + (q - i) by omega, ← List.drop_drop]
      exact List.drop_sublist _ _
    exact (List.Sublist.append_left h2 (B.take i)).trans (by rw [h1]; exact List.Sublist.refl _)
  have tl : (B.take i).length = i := by rw [List.length_take]; omega
  have at1 : ∀ (j : Nat) (h : j < i) (h2 : j < (B.take i ++ B.drop q).length), (B.take i ++ B.drop q)[j] = B[j] := fun j h h2 => by
    rw [List.getElem_append_left (by omega), List.getElem_take]
  have at2 : ∀ (j : Nat) (h : i ≤ j) (h2 : j < (B.take i ++ B.drop q).length), (B.take i ++ B.drop q)[j] = B[q + (j - i)]'(by rw [List.length_append, tl, List.length_drop] at h2; omega) := fun j h h2 => by
    rw [List.getElem_append_right (by omega), List.getElem_drop]
    congr 1
    omega
  refine ⟨?_, fun j h => ?_, (sub.map _).nodup P.nd, fun p hp => P.ok p (sub.subset hp), Nat.le_trans sub.length_le P.len⟩
  · obtain ⟨r, t, eB, h⟩ := P.root
    obtain ⟨k, rfl⟩ : ∃ k, i = k + 1 := ⟨i - 1, by omega⟩
    exact ⟨r, t.take k ++ B.drop q, by rw [eB]; simp, h⟩
  · have hl : (B.take i ++ B.drop q).length = i + (B.length - q) := by rw [List.length_append, tl, List.length_drop]
    by_cases c1 : j + 1 < i
    · rw [at1 (j + 1) c1, at1 j (by omega)]
      exact P.step j (by omega)
    · by_cases c2 : i ≤ j
      · rw [at2 (j + 1) (by omega), at2 j c2]
        have := P.step (q + (j - i)) (by omega)
        have e1 : q + (j + 1 - i) = q + (j - i) + 1 := by omega
        simp only [e1]
        exact this
      · have c3 : i = j + 1 := by omega
        subst c3
        rw [at2 (j + 1) (by omega), at1 j (by omega)]
        simp only [Nat.sub_self, Nat.add_zero]
        have hq : q < B.length := by omega
        obtain ⟨k, rfl⟩ : ∃ k, q = k + 1 := ⟨q - 1, by omega⟩
        obtain ⟨u, l, h1, h2, h3⟩ := P.step k hq
        refine ⟨u, l, h1, ?_, h3⟩
        obtain ⟨v, m, g1, g2, g3⟩ := P.step j hi
        have s1 := (e.iff P hi k (by omega)).mpr ⟨by omega, by omega⟩
        have no := e.out hq hi
        have no2 : ¬ B[j + 1].2 <:+ u :: l := fun s => no (s.trans (by rw [h1]; exact List.suffix_cons _ _))
        rcases List.suffix_or_suffix_of_suffix s1 h2 with s | s
        · exact absurd s no2
        · rw [g1] at s no2
          rcases List.suffix_cons_iff.mp s with c | c
          · exact absurd (by rw [c]; exact List.suffix_rfl) no2
          · exact c.trans g2
end Ev07
namespace Ev07
open PySem PySem.Spec PyProof.Rows L2 Ev Pt
local macro_rules
  | `(tactic| simp only [DSIMP, $as,*] $[$l:location]?) => `(tactic| simp only [rNeE, rEL, List.isEmpty_nil, List.isEmpty_cons, gIx, rIsA, rIsS, kitS, kitS.optQB, D.cls, dHGet, dHPut, dBornK, penK_cells, penK_at, penK_left, penK_pat, penK_pleft, penK_len, ex_hpK, dOwnGet2, ownKs, dKpL, dNewKd, dKpLk, rDictPTf, dRaise1, dRaise0, excD, dTry, wTry, Ev.rIsE, Ev.rIsEt, D.xcN, dFldE, dCallVX, WP, exS_tab, dTakeN, dIxN, dKpNew, dKpPut, dKpIns, dKpApp, dKpFz, dRoK, dRoL, dNewK1, dIns, roK, dZipM, dNGet, dNPut, dNewN, isNo, Ev.nGet, Ev.nPut, D.nkey, b2n, rAddB, rSubB, rStrB, rEqE, dSrtSet, dOrX, truD, rDictX, dTupN, dSlN, rAddN, rSrtN, rTupleN, rDictN, dSlX, dRevX, dLenSetN, dEmptyV, rLtX, rMulX, Ev.rReprX, dPenS, gStarDL, dAug, dIndexE, dZipS, dGcIn, dGbIx, dGdIn, dGdIx, dListRg, rDictPf, dZipL, dListKo, dEmptyT, dDispT1, dNeE, rListA, rDictPT, rIsTF, dGroup, rSrtA, rLenA, dInV, dIxV, dCount, dSortKo, dCallR, adD, gL, dDN, dLN, wNest, bNest, bEl, bEd, dZip, seqOf, dSortDK, dCallV, dCallLam, optQ, dEnum, D.nf, D.nfs, Ev.rSumD, dLock, dKeysI, gStarD, dReverse, dMove, dDGet2, getD2, D.isD, dDisp, dPairs, keysD, Ev.rMaxD, Ev.rMinD, rDictP, Option.getD_some, Option.getD_none, Ev.D.eq_refl, dPen1, dLenSet, dSrtR, dRo, dRoF, dRoT, roD, ro_un, ro_dat, ro_own, ro_hp, ro_law, ro_ownK, ro_ownT, List.forall_mem_map, flat_int, flat_str, flat_bl, flat_non, solid_int, solid_str, solid_bl, solid_non, solid_tup, solids_nil, solids_cons, dSeq, dNext, dSet, dSetF, setSl, dVar, dTake, dC, dBin, dBinF, dB, dIfS, dIf, dRet, dRetN, dExpr, dNil, dCons, dTup, dLst, dFz, dAnd, dOr, dNot, dAndV, dOrV, dNotV, dCallD, dCallK, dCB, dCBF, dFor, dLC, dYes, dRng1, dRng2, dSeqI, gN, gT, gsNil, gsCons, dAsg, dNeg, dJoin, dFs, dJs, dFmt, dApp, dExt, dPop, dPopAt, dOwnIx, dOwnCB, dOwnL, dOwnR, dOwnSl, dSetIx, dSlT, dSlL, oNone, oSome, dBorn, optQ, ownAt, setOwnAt, lookAt, wipeD, dNewDT, dNewDK, dDGet, dDIn, dDPut, dSortT, rSrt, isDict, Ev.dictGet, Ev.dictPut, Option.isSome_none, Option.isSome_some, D.keyT, keysOf, D.key, exists_eq_left', exists_eq_left, Option.isSome, rRepL, rCatL, dRetF, dIfF, dPar, dRetOwn, dCallL, dCallLK, dPen2, dRev, dRevI, dIndex, endsL, startL, dNever, dBrk, dCnt, rAddD, rSubI, rIO, rMulI, rDivI, rModI, rPowI, rCI, Ev.rIxD, rIsN, rNotN, D.isN, Ev.rLen, rTuple, rList, rAbs, rInt, rStr, Ev.rRepr, Ev.rIsi, D.ty, kit_tab, startD, endsD, List.map_cons, List.map_nil, List.length_cons, List.length_nil, List.append_nil, List.nil_append, List.cons_append, List.getElem?_cons_zero, List.getElem?_cons_succ, List.getElem?_nil, List.set_cons_zero, List.set_cons_succ, List.replicate, List.replicate_succ, Nat.zero_add, Nat.zero_le, sizeLine, true_and, and_true, if_true, Ev.eq_int, Ev.eq_str, Ev.eq_bl, Ev.eq_non, lst_nil, tup_nil, List.map_eq_nil_iff, txt_join, rLt, rLe, rGt, rGe, atI_ofNat, atI_last, wLC, strsOf, intsOf, blsOf, Option.map_some, Ev.join_two, Ev.join_one, Ev.join_nil, List.sum_cons, List.sum_nil, PySem.Str.empty_append, ixN_ofNat, Option.some.injEq, exists_eq', List.length_map, decide_true, decide_false, Bool.not_true, Bool.not_false, Bool.true_eq_false, Bool.false_eq_true, false_and, and_false, if_false, ite_true, ite_false, Nat.reduceAdd, Nat.reduceSub, Nat.reduceMul, Nat.reduceLT, Nat.reduceLeDiff, Nat.reduceEqDiff, Nat.reducePow, Int.reduceToNat, Int.reducePow, pickL, List.filterMap_cons, List.filterMap_nil, and_self, Int.reduceLT, Int.reduceLE, Int.reduceNeg, Int.reduceAdd, Int.reduceMul, Int.reduceSub, Int.reduceEq, reduceIte, reduceCtorEq, lit_eq, String.reduceEq, Ev.rEq, Ev.rNe, Ev.rInD, cut_toN, cut_fromN, List.map_take, List.forall_mem_cons, List.forall_mem_nil, List.not_mem_nil, false_imp_iff, implies_true, forall_const, D.cm, D.lay, D.lays, D.dep, D.deps, strOk_lit, lays_ints, deps_ints, Nat.max_self, Nat.max_zero, Nat.zero_max, Bool.and_self, Bool.true_and, Bool.and_true, Bool.and_false, Bool.false_and, Bool.or_false, Bool.or_true, Bool.true_or, Bool.false_or, List.any_cons, List.any_nil, decide_eq_true_eq, eq_self, $as,*] $[$l]?)
  | `(tactic| simp only [DSIMP] $[$l:location]?) => `(tactic| simp only [rNeE, rEL, List.isEmpty_nil, List.isEmpty_cons, gIx, rIsA, rIsS, kitS, kitS.optQB, D.cls, dHGet, dHPut, dBornK, penK_cells, penK_at, penK_left, penK_pat, penK_pleft, penK_len, ex_hpK, dOwnGet2, ownKs, dKpL, dNewKd, dKpLk, rDictPTf, dRaise1, dRaise0, excD, dTry, wTry, Ev.rIsE, Ev.rIsEt, D.xcN, dFldE, dCallVX, WP, exS_tab, dTakeN, dIxN, dKpNew, dKpPut, dKpIns, dKpApp, dKpFz, dRoK, dRoL, dNewK1, dIns, roK, dZipM, dNGet, dNPut, dNewN, isNo, Ev.nGet, Ev.nPut, D.nkey, b2n, rAddB, rSubB, rStrB, rEqE, dSrtSet, dOrX, truD, rDictX, dTupN, dSlN, rAddN, rSrtN, rTupleN, rDictN, dSlX, dRevX, dLenSetN, dEmptyV, rLtX, rMulX, Ev.rReprX, dPenS, gStarDL, dAug, dIndexE, dZipS, dGcIn, dGbIx, dGdIn, dGdIx, dListRg, rDictPf, dZipL, dListKo, dEmptyT, dDispT1, dNeE, rListA, rDictPT, rIsTF, dGroup, rSrtA, rLenA, dInV, dIxV, dCount, dSortKo, dCallR, adD, gL, dDN, dLN, wNest, bNest, bEl, bEd, dZip, seqOf, dSortDK, dCallV, dCallLam, optQ, dEnum, D.nf, D.nfs, Ev.rSumD, dLock, dKeysI, gStarD, dReverse, dMove, dDGet2, getD2, D.isD, dDisp, dPairs, keysD, Ev.rMaxD, Ev.rMinD, rDictP, Option.getD_some, Option.getD_none, Ev.D.eq_refl, dPen1, dLenSet, dSrtR, dRo, dRoF, dRoT, roD, ro_un, ro_dat, ro_own, ro_hp, ro_law, ro_ownK, ro_ownT, List.forall_mem_map, flat_int, flat_str, flat_bl, flat_non, solid_int, solid_str, solid_bl, solid_non, solid_tup, solids_nil, solids_cons, dSeq, dNext, dSet, dSetF, setSl, dVar, dTake, dC, dBin, dBinF, dB, dIfS, dIf, dRet, dRetN, dExpr, dNil, dCons, dTup, dLst, dFz, dAnd, dOr, dNot, dAndV, dOrV, dNotV, dCallD, dCallK, dCB, dCBF, dFor, dLC, dYes, dRng1, dRng2, dSeqI, gN, gT, gsNil, gsCons, dAsg, dNeg, dJoin, dFs, dJs, dFmt, dApp, dExt, dPop, dPopAt, dOwnIx, dOwnCB, dOwnL, dOwnR, dOwnSl, dSetIx, dSlT, dSlL, oNone, oSome, dBorn, optQ, ownAt, setOwnAt, lookAt, wipeD, dNewDT, dNewDK, dDGet, dDIn, dDPut, dSortT, rSrt, isDict, Ev.dictGet, Ev.dictPut, Option.isSome_none, Option.isSome_some, D.keyT, keysOf, D.key, exists_eq_left', exists_eq_left, Option.isSome, rRepL, rCatL, dRetF, dIfF, dPar, dRetOwn, dCallL, dCallLK, dPen2, dRev, dRevI, dIndex, endsL, startL, dNever, dBrk, dCnt, rAddD, rSubI, rIO, rMulI, rDivI, rModI, rPowI, rCI, Ev.rIxD, rIsN, rNotN, D.isN, Ev.rLen, rTuple, rList, rAbs, rInt, rStr, Ev.rRepr, Ev.rIsi, D.ty, kit_tab, startD, endsD, List.map_cons, List.map_nil, List.length_cons, List.length_nil, List.append_nil, List.nil_append, List.cons_append, List.getElem?_cons_zero, List.getElem?_cons_succ, List.getElem?_nil, List.set_cons_zero, List.set_cons_succ, List.replicate, List.replicate_succ, Nat.zero_add, Nat.zero_le, sizeLine, true_and, and_true, if_true, Ev.eq_int, Ev.eq_str, Ev.eq_bl, Ev.eq_non, lst_nil, tup_nil, List.map_eq_nil_iff, txt_join, rLt, rLe, rGt, rGe, atI_ofNat, atI_last, wLC, strsOf, intsOf, blsOf, Option.map_some, Ev.join_two, Ev.join_one, Ev.join_nil, List.sum_cons, List.sum_nil, PySem.Str.empty_append, ixN_ofNat, Option.some.injEq, exists_eq', List.length_map, decide_true, decide_false, Bool.not_true, Bool.not_false, Bool.true_eq_false, Bool.false_eq_true, false_and, and_false, if_false, ite_true, ite_false, Nat.reduceAdd, Nat.reduceSub, Nat.reduceMul, Nat.reduceLT, Nat.reduceLeDiff, Nat.reduceEqDiff, Nat.reducePow, Int.reduceToNat, Int.reducePow, pickL, List.filterMap_cons, List.filterMap_nil, and_self, Int.reduceLT, Int.reduceLE, Int.reduceNeg, Int.reduceAdd, Int.reduceMul, Int.reduceSub, Int.reduceEq, reduceIte, reduceCtorEq, lit_eq, String.reduceEq, Ev.rEq, Ev.rNe, Ev.rInD, cut_toN, cut_fromN, List.map_take, List.forall_mem_cons, List.forall_mem_nil, List.not_mem_nil, false_imp_iff, implies_true, forall_const, D.cm, D.lay, D.lays, D.dep, D.deps, strOk_lit, lays_ints, deps_ints, Nat.max_self, Nat.max_zero, Nat.zero_max, Bool.and_self, Bool.true_and, Bool.and_true, Bool.and_false, Bool.false_and, Bool.or_false, Bool.or_true, Bool.true_or, Bool.false_or, List.any_cons, List.any_nil, decide_eq_true_eq, eq_self] $[$l]?)
variable [TabC] [PkD]
structure MkP (B : List Ln) (left : List Int) : Prop where
  P : PreL B
  G : ∀ p ∈ B, RowG p
  nd : (B.map (·.1.n) ++ left).Nodup
  lf : ∀ x ∈ left, 1 ≤ x ∧ x ≤ 9
  len : B.length + left.length = 10
theorem MkP.add {B : List Ln} {left : List Int} (m : MkP B left) {i a q : Nat} (hi : i < left.length) (ha : a < B.length) (e : EndAt B a q) {x : Row} (hn : x.n = left[i]) (hu : x.up = some B[a].1.n) (ok : rowOk x) (g : RowG (x, x.n :: B[a].2)) : MkP (B.take q ++ [(x, x.n :: B[a].2)] ++ B.drop q) (left.eraseIdx i) := by
  have pm : (left[i] :: left.eraseIdx i).Perm left := erase_perm hi
  have nin : x.n ∉ B.map (·.1.n) := fun z => by
    rw [hn] at z
    exact (List.nodup_append.mp m.nd).2.2 _ z _ (List.getElem_mem hi) rfl
  have ml := m.len
  have P2 := m.P.put ha e.lt e.le (e.deeper m.P ha) (e.deep m.P ha) nin hu ok (by omega)
  have le : (left.eraseIdx i).length + 1 = left.length := by rw [List.length_eraseIdx, if_pos hi]; omega
  have pn : ((B.take q ++ [(x, x.n :: B[a].2)] ++ B.drop q).map (·.1.n) ++ left.eraseIdx i).Perm (B.map (·.1.n) ++ left) := by
    have h1 : (B.take q ++ [(x, x.n :: B[a].2)] ++ B.drop q).Perm ((x, x.n :: B[a].2) :: B) := by
      have := List.take_append_drop q B
      rw [List.append_assoc, List.singleton_append]
      refine List.perm_middle.trans ?_
      rw [this]
    refine (List.Perm.append_right _ (h1.map _)).trans ?_
    rw [List.map_cons, hn, List.cons_append]
    exact List.perm_middle.symm.trans (List.Perm.append_left _ pm)
  have G2 : ∀ p ∈ B.take q ++ [(x, x.n :: B[a].2)] ++ B.drop q, RowG p := fun p hp => by
    simp only [List.mem_append, List.mem_singleton] at hp
    rcases hp with (hp | rfl) | hp
    · exact m.G p (List.mem_of_mem_take hp)
    · exact g
    · exact m.G p (List.mem_of_mem_drop hp)
  refine ⟨P2, G2, pn.nodup_iff.mpr m.nd, fun y hy => m.lf y (List.mem_of_mem_eraseIdx hy), ?_⟩
  have h2 := pn.length_eq
  rw [List.length_append, List.length_append, List.length_map, List.length_map] at h2
  omega
theorem atI_mapLast {α : Type} {f : α → D} {l : List α} (h : l ≠ []) : ∃ x ∈ l, atI (l.map f) (-1) = some (f x) := by
  rw [atI_neg1, ← List.getLast?_eq_getElem?]
  refine ⟨l.getLast h, List.getLast_mem h, ?_⟩
  rw [List.getLast?_map, List.getLast?_eq_some_getLast h]; rfl
def sp__law_rows_of : dSp := fun ds p Q _ => ∃ (a : Addr) (c : Nat), ds = [.raw (.ref a), .int 9] ∧ p = some (a, c) ∧ c + 400 < 65536 ∧ ∀ (B : List Ln) (c' : Nat), PreL B → (∀ p ∈ B, RowG p) → c' ≤ c + 300 → Q (bookD (B.map (·.1))) (some (a, c'))
abbrev s__law_rows_of : Stmt := topS 21
abbrev n__law_rows_of : List Str := ["_law_pen_here", "_law_most", "_law_lines", "_law_left", "_law_k", "_law_number", "_law_some", "_law_upper", "_law_at", "_law_row", "_law_j"]
theorem sc__law_rows_of : FnScope n__law_rows_of ["_law_pen_here", "_law_most"] (defScope s__law_rows_of) := ⟨rfl, rfl, rfl, by decide +kernel, rfl, by decide +kernel, by decide +kernel⟩
def p__law_rows_of_x2_0 : dS := (dSet 5 (dPopAt 3 (dCallD 2 [] sp__law_take (dCons (dVar 0) (dCons (dOwnCB 3 rLen) dNil)))))
def p__law_rows_of_x2_1 : dS := (dSetF 6 (dRoF (dLC (dSeqI (dTake 2)) (gN 9) (dB (dBin (rLt) (dCallD 2 [] sp__law_deep (dCons (dTake 2) (dCons (dBin rIxD (dVar 9) (dC (.int 0))) dNil))) (dC (.int 5)))) (dBin rIxD (dVar 9) (dC (.int 0))) [9])))
def p__law_rows_of_x2_2 : dS := (dSet 7 (dBin rIxD (dFz (dLst (dCons (dCallD 2 [] sp__law_pick (dCons (dVar 0) (dCons (dTake 6) dNil))) (dCons (dOwnIx 6 (dC (.int (-1)))) (dCons (dC (.int 0)) dNil))))) (dCallD 2 [] sp__law_take (dCons (dVar 0) (dCons (dC (.int 3)) dNil)))))
def p__law_rows_of_x2_3 : dS := (dSet 8 (dBin rIxD (dFz (dRoF (dLC (dEnum (dCons (dTake 2) dNil)) (gT 2 (gsCons (gN 10) (gsCons (gN 9) gsNil))) (dB (dBin (rEq) (dBin rIxD (dVar 9) (dC (.int 0))) (dVar 7))) (dVar 10) [10, 9]))) (dC (.int 0))))
def p__law_rows_of_x2_4 : dS := (dSet 9 (dTup (dCons (dVar 5) (dCons (dVar 7) (dCons (dCallD 1 [] sp__law_box (dCons (dVar 0) dNil)) (dCons (dBin (rGt) (dCallD 2 [] sp__law_take (dCons (dVar 0) (dCons (dC (.int 4)) dNil))) (dC (.int 0))) (dCons (dBin rAddD (dC (.int 1)) (dCallD 2 [] sp__law_take (dCons (dVar 0) (dCons (dC (.int 4)) dNil)))) dNil)))))))
def p__law_rows_of_x2_5 : dS := (dIns 2 (dCons (dRo (dCallD 2 [] sp__law_end (dCons (dTake 2) (dCons (dVar 8) dNil)))) (dCons (dVar 9) dNil)))
def b__law_rows_of_x2_5 : dS := p__law_rows_of_x2_5
def b__law_rows_of_x2_4 : dS := dSeq (p__law_rows_of_x2_4) (b__law_rows_of_x2_5)
def b__law_rows_of_x2_3 : dS := dSeq (p__law_rows_of_x2_3) (b__law_rows_of_x2_4)
def b__law_rows_of_x2_2 : dS := dSeq (p__law_rows_of_x2_2) (b__law_rows_of_x2_3)
def b__law_rows_of_x2_1 : dS := dSeq (p__law_rows_of_x2_1) (b__law_rows_of_x2_2)
def b__law_rows_of_x2_0 : dS := dSeq (p__law_rows_of_x2_0) (b__law_rows_of_x2_1)
def p__law_rows_of_0 : dS := (dSetF 2 (dLst (dCons (dTup (dCons (dC (.int 0)) (dCons (dC .non) (dCons (dTup (dCons (dC (.int 0)) (dCons (dC (.int 0)) (dCons (dBin rAddD (dC (.int 1)) (dCallD 2 [] sp__law_take (dCons (dVar 0) (dCons (dC (.int 12)) dNil)))) (dCons (dBin rAddD (dC (.int 1)) (dCallD 2 [] sp__law_take (dCons (dVar 0) (dCons (dC (.int 12)) dNil)))) dNil))))) (dCons (dC (.bl true)) (dCons (dC (.int 0)) dNil)))))) dNil)))
def p__law_rows_of_1 : dS := (dSetF 3 (dLst (dCons (dC (.int 1)) (dCons (dC (.int 2)) (dCons (dC (.int 3)) (dCons (dC (.int 4)) (dCons (dC (.int 5)) (dCons (dC (.int 6)) (dCons (dC (.int 7)) (dCons (dC (.int 8)) (dCons (dC (.int 9)) dNil)))))))))))
def p__law_rows_of_2 : dS := (dFor (dRng1 (dCons (dBin rIxD (dFz (dLst (dCons (dVar 1) (dCons (dCallD 2 [] sp__law_take (dCons (dVar 0) (dCons (dBin rAddD (dVar 1) (dC (.int 1))) dNil))) dNil)))) (dCallD 2 [] sp__law_take (dCons (dVar 0) (dCons (dC (.int 2)) dNil)))) dNil)) (gN 4) b__law_rows_of_x2_0)
def p__law_rows_of_3 : dS := (dRet (dCB rTuple (dCons (dTake 2) dNil)))
def b__law_rows_of_3 : dS := p__law_rows_of_3
def b__law_rows_of_2 : dS := dSeq (p__law_rows_of_2) (b__law_rows_of_3)
def b__law_rows_of_1 : dS := dSeq (p__law_rows_of_1) (b__law_rows_of_2)
def b__law_rows_of_0 : dS := dSeq (p__law_rows_of_0) (b__law_rows_of_1)
def b__law_rows_of : dS := b__law_rows_of_0
theorem run__law_rows_of {P : Program} {w : World} {K : PySem.W.Frag} {mg : Str → Option Value} {base : Heap} (m_enumerate : mg "enumerate" = none) (m_len : mg "len" = none) (m_range : mg "range" = none) (m_tuple : mg "tuple" = none) (K__law_box_1 : Def P w K mg base 2 "_law_box" 1 sp__law_box []) (K__law_deep_2 : Def P w K mg base 1 "_law_deep" 2 sp__law_deep []) (K__law_end_2 : Def P w K mg base 1 "_law_end" 2 sp__law_end []) (K__law_pick_2 : Def P w K mg base 2 "_law_pick" 2 sp__law_pick []) (K__law_take_2 : Def P w K mg base 1 "_law_take" 2 sp__law_take []) {f : Addr} (cdv : Value) (A : Around) (out : List Env) (s : Shared) (H : Hp) (E : XK) (g : A.guards = some []) (hrA : Room 2 (A.deeper (envOfC "_law_rows_of" (defScope s__law_rows_of) s.heap.objs.size f cdv))) :
  DSs (cx0 P w K mg base n__law_rows_of "_law_rows_of" (defScope s__law_rows_of) f cdv A out s H E) E00 (defBody s__law_rows_of) b__law_rows_of := by
 have hgA : (A.deeper (envOfC "_law_rows_of" (defScope s__law_rows_of) s.heap.objs.size f cdv)).guards = some [] := g
 have hun := hrA.un
 exact (dss_cons (t := p__law_rows_of_0) (u := b__law_rows_of_1) (ds_setF (i := 2) sc__law_rows_of.nd rfl (by first | exact .inl rfl | exact .inr rfl) (df_lst (da_cons (de_tup (da_cons de_int (da_cons de_non (da_cons (de_tup (da_cons de_int (da_cons de_int (da_cons (de_op od_add de_int (de_callD K__law_take_2 hgA hrA (by rfl) (da_cons (de_var (pv 0)) (da_cons de_int da_nil)))) (da_cons (de_op od_add de_int (de_callD K__law_take_2 hgA hrA (by rfl) (da_cons (de_var (pv 0)) (da_cons de_int da_nil)))) da_nil))))) (da_cons de_bl (da_cons de_int da_nil)))))) da_nil)))
  (dss_cons (t := p__law_rows_of_1) (u := b__law_rows_of_2) (ds_setF (i := 3) sc__law_rows_of.nd rfl (by first | exact .inl rfl | exact .inr rfl) (df_lst (da_cons de_int (da_cons de_int (da_cons de_int (da_cons de_int (da_cons de_int (da_cons de_int (da_cons de_int (da_cons de_int (da_cons de_int da_nil)))))))))))
  (dss_cons (t := p__law_rows_of_2) (u := b__law_rows_of_3) (ds_for PassesOwn.never rfl (di_range1 (by rfl) m_range (da_cons (de_ix (de_fz (df_lst (da_cons (de_var (pv 1)) (da_cons (de_callD K__law_take_2 hgA hrA (by rfl) (da_cons (de_var (pv 0)) (da_cons (de_op od_add (de_var (pv 1)) de_int) da_nil))) da_nil)))) (de_callD K__law_take_2 hgA hrA (by rfl) (da_cons (de_var (pv 0)) (da_cons de_int da_nil))) (fun _ _ => rfl)) da_nil)) (dg_name (pg_name (i := 4) sc__law_rows_of.nd rfl (by first | exact .inl rfl | exact .inr rfl))) (dss_cons (t := p__law_rows_of_x2_0) (u := b__law_rows_of_x2_1) (ds_set (i := 5) sc__law_rows_of.nd rfl (by first | exact .inl rfl | exact .inr rfl) (de_popAt (pv 3) (de_callD K__law_take_2 hgA hrA (by rfl) (da_cons (de_var (pv 0)) (da_cons (de_ownB (cd_len) (pv 3) (by rfl) m_len PySem.boot_len) da_nil)))))
  (dss_cons (t := p__law_rows_of_x2_1) (u := b__law_rows_of_x2_2) (ds_setLcRo (E2 := E00) (own := [("_law_row", 9)]) (i := 6) rfl sc__law_rows_of.nd rfl rfl (sw_true rfl rfl rfl (by decide +kernel)) (di_seq (de_take (pv 2))) (blkOk_by (N := n__law_rows_of) (sc := (defScope s__law_rows_of)) (own := [("_law_row", 9)]) (by decide +kernel)) (by decide) (fun _ _ _ _ _ => (dg_name (pg_name (i := 9) sc__law_rows_of.nd rfl (by first | exact .inl rfl | exact .inr rfl)))) (fun _ _ _ _ _ => (dts_one (dt_cmp (od_lt) (de_callD K__law_deep_2 hgA hrA (by rfl) (da_cons (de_take (pv 2)) (da_cons (de_ix (de_var (pv 9)) de_int (fun _ _ => rfl)) da_nil))) de_int (nomark _)))) (fun _ _ _ _ _ => (de_ix (de_var (pv 9)) de_int (fun _ _ => rfl))))
  (dss_cons (t := p__law_rows_of_x2_2) (u := b__law_rows_of_x2_3) (ds_set (i := 7) sc__law_rows_of.nd rfl (by first | exact .inl rfl | exact .inr rfl) (de_ix (de_fz (df_lst (da_cons (de_callD K__law_pick_2 hgA hrA (by rfl) (da_cons (de_var (pv 0)) (da_cons (de_take (pv 6)) da_nil))) (da_cons (de_ownIx (pv 6) de_neg (fun _ _ => rfl)) (da_cons de_int da_nil))))) (de_callD K__law_take_2 hgA hrA (by rfl) (da_cons (de_var (pv 0)) (da_cons de_int da_nil))) (fun _ _ => rfl)))
  (dss_cons (t := p__law_rows_of_x2_3) (u := b__law_rows_of_x2_4) (ds_set (i := 8) sc__law_rows_of.nd rfl (by first | exact .inl rfl | exact .inr rfl) (de_ix (de_fz (df_ro (df_lc (E2 := E00) (own := [("_law_j", 10), ("_law_row", 9)]) rfl sc__law_rows_of.nd (di_enum (by rfl) m_enumerate (da_cons (de_take (pv 2)) da_nil)) (blkOk_by (N := n__law_rows_of) (sc := (defScope s__law_rows_of)) (own := [("_law_j", 10), ("_law_row", 9)]) (by decide +kernel)) (by decide) (fun _ _ _ _ _ => (dg_tup rfl (dgs_cons (dg_name (pg_name (i := 10) sc__law_rows_of.nd rfl (by first | exact .inl rfl | exact .inr rfl))) (dgs_cons (dg_name (pg_name (i := 9) sc__law_rows_of.nd rfl (by first | exact .inl rfl | exact .inr rfl))) dgs_nil)))) (fun _ _ _ _ _ => (dts_one (dt_cmp (od_eq (Nat.lt_of_le_of_lt (Nat.add_le_add_left (by decide) _) hun)) (de_ix (de_var (pv 9)) de_int (fun _ _ => rfl)) (de_var (pv 7)) (nomark _)))) (fun _ _ _ _ _ => (de_var (pv 10)))))) de_int (fun _ _ => rfl)))
  (dss_cons (t := p__law_rows_of_x2_4) (u := b__law_rows_of_x2_5) (ds_set (i := 9) sc__law_rows_of.nd rfl (by first | exact .inl rfl | exact .inr rfl) (de_tup (da_cons (de_var (pv 5)) (da_cons (de_var (pv 7)) (da_cons (de_callD K__law_box_1 hgA hrA (by rfl) (da_cons (de_var (pv 0)) da_nil)) (da_cons (de_cmp (od_gt) (de_callD K__law_take_2 hgA hrA (by rfl) (da_cons (de_var (pv 0)) (da_cons de_int da_nil))) de_int (nomark _)) (da_cons (de_op od_add de_int (de_callD K__law_take_2 hgA hrA (by rfl) (da_cons (de_var (pv 0)) (da_cons de_int da_nil)))) da_nil)))))))
  (dss_one (t := p__law_rows_of_x2_5) (ds_ins (pv 2) (da_cons (de_ro (de_callD K__law_end_2 hgA hrA (by rfl) (da_cons (de_take (pv 2)) (da_cons (de_var (pv 8)) da_nil)))) (da_cons (de_var (pv 9)) da_nil))))))))))
  (dss_one (t := p__law_rows_of_3) (ds_ret (de_callTy (cd_tuple) (by rfl) m_tuple (by decide +kernel) (da_cons (de_take (pv 2)) da_nil)))))))
abbrev rowsS (a : Addr) (B : List Ln) (left : List Int) (s4 s5 s6 s7 s8 s9 : Sl) : List Sl := [.dat (.raw (.ref a)), .dat (.int 9), .own ((B.map (·.1)).map rowD), .own (left.map .int), s4, s5, s6, s7, s8, s9, .un]
theorem turn_rows {a : Addr} {B : List Ln} {left : List Int} {s4 s5 s6 s7 s8 s9 : Sl} {c : Nat} {N : dEnds} (hc : c + 60 < 65536) (mk : MkP B left) (hl : B.length ≤ 9)
    (hN : ∀ B2 left2 s5 s6 s7 s8 s9 c2, MkP B2 left2 → B2.length = B.length + 1 → c2 ≤ c + 24 → N.nx ⟨rowsS a B2 left2 s4 s5 s6 s7 s8 s9, some (a, c2)⟩) :
    b__law_rows_of_x2_0 W0 N ⟨rowsS a B left s4 s5 s6 s7 s8 s9, some (a, c)⟩ := by
  unfold rowsS at hN ⊢
  have ml := mk.len
  have P := mk.P
  have wf := P.wf
  simp only [DSIMP, b__law_rows_of_x2_0, p__law_rows_of_x2_0, sp__law_take, spDraw]
  refine ⟨by omega, by omega, by omega, fun r r0 r1 => ⟨by omega, by omega, ?_⟩⟩
  have ht : r.toNat < left.length := by omega
  rw [ixN_in r0 r1]
  simp only [List.getElem?_map, List.getElem?_eq_getElem ht, Option.map_some, erase_map]
  have lr := mk.lf _ (List.getElem_mem ht)
  -- rooms that are not too deep
  have emap : (B.map (·.1)).map rowD = B.map fun p => rowD p.1 := by rw [List.map_map]; rfl
  simp only [DSIMP, b__law_rows_of_x2_1, p__law_rows_of_x2_1, sp__law_deep]
  rw [emap]
  refine wLC_filt (l := B) (ι := fun p => rowD p.1) (f := fun p => .int p.1.n) (t := fun p => decide (p.2.length < 5)) (fun p hp acc k hz g1 g2 => ?_) (by rw [sizeLine_eq]; omega) ?_
  · obtain ⟨i, hi, rfl⟩ := List.getElem_of_mem hp
    obtain ⟨l, u, hl2, _⟩ := wf.lineM (n := B[i].1.n) (List.mem_map.mpr ⟨B[i].1, List.mem_map.mpr ⟨_, hp, rfl⟩, rfl⟩)
    have el := P.two hi u
    subst el
    simp only [DSIMP, rowD]
    refine ⟨B.map (·.1), B[i].1.n, B[i].2, by rw [emap]; rfl, wf.len, wf.nd, u, hl2, ?_⟩
    by_cases h : B[i].2.length < 5
    · have h2 : ((B[i].2.length : Nat) : Int) < 5 := by omega
      simp only [DSIMP, eq_true h2]
      exact ⟨hz, g1 (by simp [h])⟩
    · have h2 : ¬ ((B[i].2.length : Nat) : Int) < 5 := by omega
      simp only [DSIMP, eq_false h2]
      exact g2 (by simp [h])
  have pos := P.pos
  have r0n : (B[0].1.n = 0) ∧ B[0].2.length < 5 := by obtain ⟨r, t, e, e2, _⟩ := P.root; subst e; exact ⟨e2, by show 1 < 5; decide⟩
  have hso : (B.filter fun p => decide (p.2.length < 5)) ≠ [] := List.ne_nil_of_mem (a := B[0]) (List.mem_filter.mpr ⟨List.getElem_mem pos, decide_eq_true r0n.2⟩)
  have hsl : (B.filter fun p => decide (p.2.length < 5)).length ≤ 10 := Nat.le_trans (List.length_filter_le _ _) P.len
  have hsm : ∀ p ∈ B.filter fun p => decide (p.2.length < 5), p ∈ B ∧ p.2.length < 5 := fun p hp => ⟨(List.mem_filter.mp hp).1, of_decide_eq_true (List.mem_filter.mp hp).2⟩
  generalize (B.filter fun p => decide (p.2.length < 5)) = so at hso hsl hsm
  have hs0 : 0 < so.length := List.length_pos_iff.mpr hso
  refine ⟨fun x hx => by obtain ⟨p, _, rfl⟩ := List.mem_map.mp hx; rfl, ?_⟩
  simp only [DSIMP, b__law_rows_of_x2_2, p__law_rows_of_x2_2, sp__law_pick, sp__law_take, spDraw]
  refine ⟨a, c + 1, _, rfl, rfl, by omega, by rw [List.length_map]; omega, by rw [List.length_map]; omega, fun y hy => ?_⟩
  obtain ⟨p1, hp1, rfl⟩ := List.mem_map.mp hy
  obtain ⟨p2, hp2, e2⟩ := atI_mapLast (f := fun p : Ln => D.int p.1.n) hso
  simp only [DSIMP, e2]
  refine ⟨by omega, fun d2 d20 d21 => ?_⟩
  obtain ⟨h, hh, eh⟩ : ∃ h ∈ ([p1.1.n, p2.1.n, 0] : List Int), atI [D.int p1.1.n, D.int p2.1.n, D.int 0] d2 = some (.int h) := atI_ints d20 d21
  obtain ⟨i, hi, ei, edeep⟩ : ∃ (i : Nat) (hi : i < B.length), B[i].1.n = h ∧ B[i].2.length < 5 := by
    have of : ∀ p ∈ so, ∃ (i : Nat) (hi : i < B.length), B[i].1.n = p.1.n ∧ B[i].2.length < 5 := fun p hp => by
      obtain ⟨i, hi, e⟩ := List.getElem_of_mem (hsm p hp).1
      exact ⟨i, hi, by rw [e], by rw [e]; exact (hsm p hp).2⟩
    simp only [List.mem_cons, List.not_mem_nil, or_false] at hh
    rcases hh with rfl | rfl | rfl
    · exact of _ hp1
    · exact of _ hp2
    · exact ⟨0, pos, r0n.1, r0n.2⟩
  simp only [DSIMP, eh, b__law_rows_of_x2_3, p__law_rows_of_x2_3]
  -- where it stands
  have een : enumD (B.map fun p => rowD p.1) = B.zipIdx.map fun q => D.tup [.int (q.2 : Nat), rowD q.1.1] := by
    unfold enumD
    rw [List.mapIdx_eq_zipIdx_map, List.zipIdx_map, List.map_map]
    rfl
  rw [een]
  refine wLC_filt (l := B.zipIdx) (ι := fun q => D.tup [.int (q.2 : Nat), rowD q.1.1]) (f := fun q => .int (q.2 : Nat)) (t := fun q => decide (q.1.1.n = h)) (fun q hq acc k hz g1 g2 => ?_) (by rw [sizeLine_eq, List.length_zipIdx]; omega) ?_
  · by_cases c : q.1.1.n = h
    · simp only [DSIMP, rowD, c]
      exact ⟨hz, g1 (by simp [c])⟩
    · simp only [DSIMP, rowD, c]
      exact g2 (by simp [c])
  have hf : (B.zipIdx.filter fun q => decide (q.1.1.n = h)).head? = some (B[i], i) := by
    rw [List.head?_filter]
    cases hq : B.zipIdx.find? (fun q => decide (q.1.1.n = h)) with
    | none =>
      have := List.find?_eq_none.mp hq (B[i], i) (List.mem_zipIdx_iff_getElem?.mpr (by rw [List.getElem?_eq_getElem hi]))
      exact absurd ei (by simpa using this)
    | some q =>
      have h1 := List.mem_of_find?_eq_some hq
      have h2 := List.find?_some hq
      have h2 : q.1.1.n = h := of_decide_eq_true h2
      have h3 := List.mem_zipIdx_iff_getElem?.mp h1
      obtain ⟨hj, ej⟩ := List.getElem?_eq_some_iff.mp h3
      have : q.2 = i := P.one hj hi (by rw [ej, h2, ei])
      obtain ⟨q1, q2⟩ := q
      simp only at this ej
      subst this
      rw [← ej]
  refine ⟨fun x hx => by obtain ⟨q, _, rfl⟩ := List.mem_map.mp hx; rfl, ?_⟩
  rw [List.getElem?_map, ← List.head?_eq_getElem?, hf]
  simp only [DSIMP, b__law_rows_of_x2_4, p__law_rows_of_x2_4, sp__law_box, sp__law_take, spDraw]
  refine ⟨a, c + 1 + 1 + 1, rfl, rfl, by omega, fun x y w h' c' hx hy hw1 hw2 hh1 hh2' hc' => ?_⟩
  try simp only [DSIMP]
  refine ⟨by omega, fun q1 q10 q11 => ⟨by omega, fun q2 q20 q21 => ?_⟩⟩
  simp only [DSIMP, b__law_rows_of_x2_5, p__law_rows_of_x2_5, b__law_rows_of_x2_5, sp__law_end]
  have hh9 : 0 ≤ h ∧ h ≤ 9 := by
    have ok := P.ok B[i] (List.getElem_mem hi)
    rw [← ei]
    exact ⟨ok.n0, ok.n9⟩
  refine ⟨B, i, by rw [emap], hi, P, fun q eq => ?_⟩
  have qle := eq.le
  have m2 := mk.add ht hi eq (x := ⟨left[r.toNat], some h, x, y, w, h', decide (0 < q1), 1 + q2⟩) rfl (by rw [ei]) ⟨by show 0 ≤ left[r.toNat]; omega, by show left[r.toNat] ≤ 9; omega, by show x.natAbs ≤ 80; omega, by show y.natAbs ≤ 80; omega, ⟨hw1, hw2⟩, ⟨hh1, hh2'⟩, by show (1 + q2).natAbs < 10000; omega, fun i e => by cases e; exact hh9⟩ ⟨by simp only [List.length_cons]; omega, fun e => (nomatch e), fun _ => ⟨lr.1, hx, hy, hw1, hw2, hh1, hh2', by show 1 ≤ 1 + q2; omega, by show 1 + q2 ≤ 4; omega⟩⟩
  have fin := hN _ _ (.dat (.int left[r.toNat])) (.dat (.lst (so.map fun p => D.int p.1.n))) (.dat (.int h)) (.dat (.int (i : Nat))) (.dat (.tup [.int left[r.toNat], .int h, .tup [.int x, .int y, .int w, .int h'], .bl (decide (0 < q1)), .int (1 + q2)])) (c' + 1 + 1) m2 (by simp; omega) (by omega)
  try simp only [Int.toNat_natCast]
  refine ⟨by omega, by omega, by omega, ?_⟩
  have ee : ((B.take q ++ [((⟨left[r.toNat], some h, x, y, w, h', decide (0 < q1), 1 + q2⟩ : Row), left[r.toNat] :: B[i].2)] ++ B.drop q).map (·.1)).map rowD = ((B.map fun p => rowD p.1).take q ++ [D.tup [.int left[r.toNat], .int h, .tup [.int x, .int y, .int w, .int h'], .bl (decide (0 < q1)), .int (1 + q2)]] ++ (B.map fun p => rowD p.1).drop q) := by
    simp only [List.map_append, List.map_map, List.map_take, List.map_drop]
    rfl
  rw [ee] at fin
  try simp only [List.map_take, List.map_drop] at fin
  exact fin
theorem hsp__law_rows_of : ∀ ds p Q W, ds.length = 2 → sp__law_rows_of ds p Q W → b__law_rows_of W0 (endsD Q) (startD n__law_rows_of.length ds p) := by
  rintro _ _ Q W - ⟨a, c, rfl, rfl, hc, q⟩
  simp only [DSIMP, n__law_rows_of, b__law_rows_of, b__law_rows_of_0, p__law_rows_of_0, sp__law_take, spDraw]
  refine ⟨by omega, fun w w0 w1 => ⟨by omega, fun h h0 h1 => ?_⟩⟩
  have m0 : MkP [((⟨0, none, 0, 0, 1 + w, 1 + h, true, 0⟩ : Row), [0])] [1, 2, 3, 4, 5, 6, 7, 8, 9] := by
    refine ⟨⟨⟨_, _, rfl, rfl, rfl, rfl, rfl, rfl, by show 1 ≤ 1 + w; omega, by show 1 + w ≤ 40; omega, by show 1 ≤ 1 + h; omega, by show 1 + h ≤ 40; omega⟩, fun i hi => by simp at hi, by simp, fun p hp => ?_, by show 1 ≤ 10; decide⟩, fun p hp => by rw [List.mem_singleton] at hp; subst hp; exact ⟨by show 1 ≤ 5; decide, fun _ => rfl, fun e => absurd rfl e⟩, by show ([0, 1, 2, 3, 4, 5, 6, 7, 8, 9] : List Int).Nodup; decide, by decide, rfl⟩
    rw [List.mem_singleton] at hp; subst hp
    exact ⟨by show (0 : Int) ≤ 0; decide, by show (0 : Int) ≤ 9; decide, by show (0 : Int).natAbs ≤ 80; decide, by show (0 : Int).natAbs ≤ 80; decide, ⟨by show 1 ≤ 1 + w; omega, by show 1 + w ≤ 40; omega⟩, ⟨by show 1 ≤ 1 + h; omega, by show 1 + h ≤ 40; omega⟩, by show (0 : Int).natAbs < 10000; decide, fun i e => nomatch e⟩
  simp only [DSIMP, b__law_rows_of_1, p__law_rows_of_1, b__law_rows_of_2, p__law_rows_of_2, sp__law_take, spDraw]
  refine ⟨by omega, fun d1 d10 d11 => ⟨by omega, fun d2 d20 d21 => ?_⟩⟩
  obtain ⟨k, hk, ek⟩ : ∃ k ∈ ([9, d1] : List Int), atI [D.int 9, D.int d1] d2 = some (.int k) := atI_ints d20 d21
  have hk2 : 0 ≤ k ∧ k ≤ 9 := by
    simp only [List.mem_cons, List.not_mem_nil, or_false] at hk
    omega
  simp only [DSIMP, ek]
  refine ⟨by omega, by omega, ?_⟩
  refine wFor_ind (fun ds δ => ∃ B left s4 s5 s6 s7 s8 s9 c', δ = ⟨rowsS a B left s4 s5 s6 s7 s8 s9, some (a, c')⟩ ∧ MkP B left ∧ ds.length + B.length ≤ 10 ∧ c' + 24 * ds.length ≤ c + 240) ?_ ?_ _ _ ⟨_, _, .un, .un, .un, .un, .un, .un, c + 1 + 1 + 1 + 1, rfl, m0, by rw [intsFrom_len]; simp; omega, by rw [intsFrom_len]; omega⟩
  · rintro d ds _ kk hkk ⟨B, left, s4, s5, s6, s7, s8, s9, c', rfl, mk, hl, hc'⟩
    simp only [List.length_cons] at hl hc'
    have t := turn_rows (a := a) (s4 := .dat d) (s5 := s5) (s6 := s6) (s7 := s7) (s8 := s8) (s9 := s9) (c := c') (N := { (endsD Q) with nx := kk, ct := kk, bk := fun δ' => b__law_rows_of_3 W0 (endsD Q) δ' }) (by omega) mk (by omega) fun B2 left2 s5 s6 s7 s8 s9 c2 m2 h1 h2 => hkk _ ⟨B2, left2, .dat d, s5, s6, s7, s8, s9, c2, rfl, m2, by omega, by omega⟩
    unfold rowsS at t ⊢
    simp only [DSIMP]
    exact t
  · rintro _ ⟨B, left, s4, s5, s6, s7, s8, s9, c', rfl, mk, hl, hc'⟩
    unfold rowsS
    simp only [DSIMP, b__law_rows_of_3, p__law_rows_of_3, b__law_rows_of_3]
    exact q B c' mk.P mk.G (by simp only [List.length_nil] at hc'; omega)
theorem ok__law_rows_of {P : Program} {w : World} {K : PySem.W.Frag} {mg : Str → Option Value} {base : Heap} (m_enumerate : mg "enumerate" = none) (m_len : mg "len" = none) (m_range : mg "range" = none) (m_tuple : mg "tuple" = none) (K__law_box_1 : Def P w K mg base 2 "_law_box" 1 sp__law_box []) (K__law_deep_2 : Def P w K mg base 1 "_law_deep" 2 sp__law_deep []) (K__law_end_2 : Def P w K mg base 1 "_law_end" 2 sp__law_end []) (K__law_pick_2 : Def P w K mg base 2 "_law_pick" 2 sp__law_pick []) (K__law_take_2 : Def P w K mg base 1 "_law_take" 2 sp__law_take []) {f : Addr} {fd : FuncData} (F : Fun K "_law_rows_of" "_law_rows_of" s__law_rows_of f fd) : FnG P w K mg base CX0 3 f fd ["_law_pen_here", "_law_most"] (spD K 2 sp__law_rows_of) :=
 fn_d0 F sc__law_rows_of rfl (fun cdv A out s H E g r => run__law_rows_of m_enumerate m_len m_range m_tuple K__law_box_1 K__law_deep_2 K__law_end_2 K__law_pick_2 K__law_take_2 cdv A out s H E g r) hsp__law_rows_of
end Ev07
namespace Ev07
open PySem PySem.Spec PyProof.Rows L2 Ev Pt
local macro_rules
  | `(tactic| simp only [DSIMP, $as,*] $[$l:location]?) => `(tactic| simp only [rNeE, rEL, List.isEmpty_nil, List.isEmpty_cons, gIx, rIsA, rIsS, kitS, kitS.optQB, D.cls, dHGet, dHPut, dBornK, penK_cells, penK_at, penK_left, penK_pat, penK_pleft, penK_len, ex_hpK, dOwnGet2, ownKs, dKpL, dNewKd, dKpLk, rDictPTf, dRaise1, dRaise0, excD, dTry, wTry, Ev.rIsE, Ev.rIsEt, D.xcN, dFldE, dCallVX, WP, exS_tab, dTakeN, dIxN, dKpNew, dKpPut, dKpIns, dKpApp, dKpFz, dRoK, dRoL, dNewK1, dIns, roK, dZipM, dNGet, dNPut, dNewN, isNo, Ev.nGet, Ev.nPut, D.nkey, b2n, rAddB, rSubB, rStrB, rEqE, dSrtSet, dOrX, truD, rDictX, dTupN, dSlN, rAddN, rSrtN, rTupleN, rDictN, dSlX, dRevX, dLenSetN, dEmptyV, rLtX, rMulX, Ev.rReprX, dPenS, gStarDL, dAug, dIndexE, dZipS, dGcIn, dGbIx, dGdIn, dGdIx, dListRg, rDictPf, dZipL, dListKo, dEmptyT, dDispT1, dNeE, rListA, rDictPT, rIsTF, dGroup, rSrtA, rLenA, dInV, dIxV, dCount, dSortKo, dCallR, adD, gL, dDN, dLN, wNest, bNest, bEl, bEd, dZip, seqOf, dSortDK, dCallV, dCallLam, optQ, dEnum, D.nf, D.nfs, Ev.rSumD, dLock, dKeysI, gStarD, dReverse, dMove, dDGet2, getD2, D.isD, dDisp, dPairs, keysD, Ev.rMaxD, Ev.rMinD, rDictP, Option.getD_some, Option.getD_none, Ev.D.eq_refl, dPen1, dLenSet, dSrtR, dRo, dRoF, dRoT, roD, ro_un, ro_dat, ro_own, ro_hp, ro_law, ro_ownK, ro_ownT, List.forall_mem_map, flat_int, flat_str, flat_bl, flat_non, solid_int, solid_str, solid_bl, solid_non, solid_tup, solids_nil, solids_cons, dSeq, dNext, dSet, dSetF, setSl, dVar, dTake, dC, dBin, dBinF, dB, dIfS, dIf, dRet, dRetN, dExpr, dNil, dCons, dTup, dLst, dFz, dAnd, dOr, dNot, dAndV, dOrV, dNotV, dCallD, dCallK, dCB, dCBF, dFor, dLC, dYes, dRng1, dRng2, dSeqI, gN, gT, gsNil, gsCons, dAsg, dNeg, dJoin, dFs, dJs, dFmt, dApp, dExt, dPop, dPopAt, dOwnIx, dOwnCB, dOwnL, dOwnR, dOwnSl, dSetIx, dSlT, dSlL, oNone, oSome, dBorn, optQ, ownAt, setOwnAt, lookAt, wipeD, dNewDT, dNewDK, dDGet, dDIn, dDPut, dSortT, rSrt, isDict, Ev.dictGet, Ev.dictPut, Option.isSome_none, Option.isSome_some, D.keyT, keysOf, D.key, exists_eq_left', exists_eq_left, Option.isSome, rRepL, rCatL, dRetF, dIfF, dPar, dRetOwn, dCallL, dCallLK, dPen2, dRev, dRevI, dIndex, endsL, startL, dNever, dBrk, dCnt, rAddD, rSubI, rIO, rMulI, rDivI, rModI, rPowI, rCI, Ev.rIxD, rIsN, rNotN, D.isN, Ev.rLen, rTuple, rList, rAbs, rInt, rStr, Ev.rRepr, Ev.rIsi, D.ty, kit_tab, startD, endsD, List.map_cons, List.map_nil, List.length_cons, List.length_nil, List.append_nil, List.nil_append, List.cons_append, List.getElem?_cons_zero, List.getElem?_cons_succ, List.getElem?_nil, List.set_cons_zero, List.set_cons_succ, List.replicate, List.replicate_succ, Nat.zero_add, Nat.zero_le, sizeLine, true_and, and_true, if_true, Ev.eq_int, Ev.eq_str, Ev.eq_bl, Ev.eq_non, lst_nil, tup_nil, List.map_eq_nil_iff, txt_join, rLt, rLe, rGt, rGe, atI_ofNat, atI_last, wLC, strsOf, intsOf, blsOf, Option.map_some, Ev.join_two, Ev.join_one, Ev.join_nil, List.sum_cons, List.sum_nil, PySem.Str.empty_append, ixN_ofNat, Option.some.injEq, exists_eq', List.length_map, decide_true, decide_false, Bool.not_true, Bool.not_false, Bool.true_eq_false, Bool.false_eq_true, false_and, and_false, if_false, ite_true, ite_false, Nat.reduceAdd, Nat.reduceSub, Nat.reduceMul, Nat.reduceLT, Nat.reduceLeDiff, Nat.reduceEqDiff, Nat.reducePow, Int.reduceToNat, Int.reducePow, pickL, List.filterMap_cons, List.filterMap_nil, and_self, Int.reduceLT, Int.reduceLE, Int.reduceNeg, Int.reduceAdd, Int.reduceMul, Int.reduceSub, Int.reduceEq, reduceIte, reduceCtorEq, lit_eq, String.reduceEq, Ev.rEq, Ev.rNe, Ev.rInD, cut_toN, cut_fromN, List.map_take, List.forall_mem_cons, List.forall_mem_nil, List.not_mem_nil, false_imp_iff, implies_true, forall_const, D.cm, D.lay, D.lays, D.dep, D.deps, strOk_lit, lays_ints, deps_ints, Nat.max_self, Nat.max_zero, Nat.zero_max, Bool.and_self, Bool.true_and, Bool.and_true, Bool.and_false, Bool.false_and, Bool.or_false, Bool.or_true, Bool.true_or, Bool.false_or, List.any_cons, List.any_nil, decide_eq_true_eq, eq_self, $as,*] $[$l]?)
  | `(tactic| simp only [DSIMP] $[$l:location]?) => `(tactic| simp only [rNeE, rEL, List.isEmpty_nil, List.isEmpty_cons, gIx, rIsA, rIsS, kitS, kitS.optQB, D.cls, dHGet, dHPut, dBornK, penK_cells, penK_at, penK_left, penK_pat, penK_pleft, penK_len, ex_hpK, dOwnGet2, ownKs, dKpL, dNewKd, dKpLk, rDictPTf, dRaise1, dRaise0, excD, dTry, wTry, Ev.rIsE, Ev.rIsEt, D.xcN, dFldE, dCallVX, WP, exS_tab, dTakeN, dIxN, dKpNew, dKpPut, dKpIns, dKpApp, dKpFz, dRoK, dRoL, dNewK1, dIns, roK, dZipM, dNGet, dNPut, dNewN, isNo, Ev.nGet, Ev.nPut, D.nkey, b2n, rAddB, rSubB, rStrB, rEqE, dSrtSet, dOrX, truD, rDictX, dTupN, dSlN, rAddN, rSrtN, rTupleN, rDictN, dSlX, dRevX, dLenSetN, dEmptyV, rLtX, rMulX, Ev.rReprX, dPenS, gStarDL, dAug, dIndexE, dZipS, dGcIn, dGbIx, dGdIn, dGdIx, dListRg, rDictPf, dZipL, dListKo, dEmptyT, dDispT1, dNeE, rListA, rDictPT, rIsTF, dGroup, rSrtA, rLenA, dInV, dIxV, dCount, dSortKo, dCallR, adD, gL, dDN, dLN, wNest, bNest, bEl, bEd, dZip, seqOf, dSortDK, dCallV, dCallLam, optQ, dEnum, D.nf, D.nfs, Ev.rSumD, dLock, dKeysI, gStarD, dReverse, dMove, dDGet2, getD2, D.isD, dDisp, dPairs, keysD, Ev.rMaxD, Ev.rMinD, rDictP, Option.getD_some, Option.getD_none, Ev.D.eq_refl, dPen1, dLenSet, dSrtR, dRo, dRoF, dRoT, roD, ro_un, ro_dat, ro_own, ro_hp, ro_law, ro_ownK, ro_ownT, List.forall_mem_map, flat_int, flat_str, flat_bl, flat_non, solid_int, solid_str, solid_bl, solid_non, solid_tup, solids_nil, solids_cons, dSeq, dNext, dSet, dSetF, setSl, dVar, dTake, dC, dBin, dBinF, dB, dIfS, dIf, dRet, dRetN, dExpr, dNil, dCons, dTup, dLst, dFz, dAnd, dOr, dNot, dAndV, dOrV, dNotV, dCallD, dCallK, dCB, dCBF, dFor, dLC, dYes, dRng1, dRng2, dSeqI, gN, gT, gsNil, gsCons, dAsg, dNeg, dJoin, dFs, dJs, dFmt, dApp, dExt, dPop, dPopAt, dOwnIx, dOwnCB, dOwnL, dOwnR, dOwnSl, dSetIx, dSlT, dSlL, oNone, oSome, dBorn, optQ, ownAt, setOwnAt, lookAt, wipeD, dNewDT, dNewDK, dDGet, dDIn, dDPut, dSortT, rSrt, isDict, Ev.dictGet, Ev.dictPut, Option.isSome_none, Option.isSome_some, D.keyT, keysOf, D.key, exists_eq_left', exists_eq_left, Option.isSome, rRepL, rCatL, dRetF, dIfF, dPar, dRetOwn, dCallL, dCallLK, dPen2, dRev, dRevI, dIndex, endsL, startL, dNever, dBrk, dCnt, rAddD, rSubI, rIO, rMulI, rDivI, rModI, rPowI, rCI, Ev.rIxD, rIsN, rNotN, D.isN, Ev.rLen, rTuple, rList, rAbs, rInt, rStr, Ev.rRepr, Ev.rIsi, D.ty, kit_tab, startD, endsD, List.map_cons, List.map_nil, List.length_cons, List.length_nil, List.append_nil, List.nil_append, List.cons_append, List.getElem?_cons_zero, List.getElem?_cons_succ, List.getElem?_nil, List.set_cons_zero, List.set_cons_succ, List.replicate, List.replicate_succ, Nat.zero_add, Nat.zero_le, sizeLine, true_and, and_true, if_true, Ev.eq_int, Ev.eq_str, Ev.eq_bl, Ev.eq_non, lst_nil, tup_nil, List.map_eq_nil_iff, txt_join, rLt, rLe, rGt, rGe, atI_ofNat, atI_last, wLC, strsOf, intsOf, blsOf, Option.map_some, Ev.join_two, Ev.join_one, Ev.join_nil, List.sum_cons, List.sum_nil, PySem.Str.empty_append, ixN_ofNat, Option.some.injEq, exists_eq', List.length_map, decide_true, decide_false, Bool.not_true, Bool.not_false, Bool.true_eq_false, Bool.false_eq_true, false_and, and_false, if_false, ite_true, ite_false, Nat.reduceAdd, Nat.reduceSub, Nat.reduceMul, Nat.reduceLT, Nat.reduceLeDiff, Nat.reduceEqDiff, Nat.reducePow, Int.reduceToNat, Int.reducePow, pickL, List.filterMap_cons, List.filterMap_nil, and_self, Int.reduceLT, Int.reduceLE, Int.reduceNeg, Int.reduceAdd, Int.reduceMul, Int.reduceSub, Int.reduceEq, reduceIte, reduceCtorEq, lit_eq, String.reduceEq, Ev.rEq, Ev.rNe, Ev.rInD, cut_toN, cut_fromN, List.map_take, List.forall_mem_cons, List.forall_mem_nil, List.not_mem_nil, false_imp_iff, implies_true, forall_const, D.cm, D.lay, D.lays, D.dep, D.deps, strOk_lit, lays_ints, deps_ints, Nat.max_self, Nat.max_zero, Nat.zero_max, Bool.and_self, Bool.true_and, Bool.and_true, Bool.and_false, Bool.false_and, Bool.or_false, Bool.or_true, Bool.true_or, Bool.false_or, List.any_cons, List.any_nil, decide_eq_true_eq, eq_self] $[$l]?)
variable [TabC] [PkD]
theorem row_good {B : List Ln} (P : PreL B) (G : ∀ x ∈ B, RowG x) : ∀ x ∈ B.drop 1, rowB (rowD x.1) = true := fun x hx => by
  obtain ⟨j, hj, rfl⟩ := List.getElem_of_mem hx
  rw [List.length_drop] at hj
  rw [List.getElem_drop]
  have e1 : 1 + j = j + 1 := by omega
  simp only [e1]
  have hj2 : j + 1 < B.length := by omega
  obtain ⟨u, l, _, _, h3⟩ := P.step j hj2
  have ok := P.ok _ (List.getElem_mem hj2)
  obtain ⟨u0, u9⟩ := ok.up u h3
  obtain ⟨g1, g2, g3, g4, g5, g6, g7, g8, g9⟩ := (G _ (List.getElem_mem hj2)).kid (by rw [h3]; exact fun e => (nomatch e))
  have n9 := ok.n9
  generalize B[j + 1].1 = r at *
  have hrow : rowD r = .tup [.int r.n, .int u, .tup [.int r.x, .int r.y, .int r.w, .int r.h], .bl r.s, .int r.a] := by
    unfold rowD; rw [h3]; rfl
  rw [hrow]
  show ((decide (1 ≤ r.n) && decide (r.n ≤ 9)) && ((decide (0 ≤ u) && decide (u ≤ 9)) && ((((decide (-40 ≤ r.x) && decide (r.x ≤ 40)) && (decide (-40 ≤ r.y) && decide (r.y ≤ 40))) && ((decide (1 ≤ r.w) && decide (r.w ≤ 40)) && (decide (1 ≤ r.h) && decide (r.h ≤ 40)))) && (true && (decide (1 ≤ r.a) && decide (r.a ≤ 4)))))) = true
  simp only [Bool.and_eq_true, decide_eq_true_eq, true_and]
  omega
theorem idx_mid {l t : List Int} {u : Int} (h : u ∉ l) : (l ++ u :: t).idxOf u = l.length := by
  induction l with
  | nil => simp
  | cons a l ih =>
    rw [List.mem_cons, not_or] at h
    rw [List.cons_append, List.idxOf_cons, ih h.2, beq_eq_false_iff_ne.mpr (Ne.symm h.1)]
    rfl
theorem PreL.line_new {B : List Ln} (P : PreL B) {j : Nat} (hj : j < B.length) {x : Int} {t : List Int} (e : B[j].2 = x :: t) : x ∉ t := by
  cases j with
  | zero =>
    obtain ⟨r, z, eB, _⟩ := P.root
    subst eB
    cases e
    exact List.not_mem_nil
  | succ j =>
    obtain ⟨m, hm, hmj, _, h2⟩ := P.elder hj
    rw [e] at h2
    injection h2 with h3 h4
    intro hx
    rw [h4] at hx
    obtain ⟨k, hk, hkm, h5, _⟩ := P.mem_line hm hx
    have := P.one hk hj (by rw [h5, h3])
    omega
theorem PreL.take_line {B : List Ln} (P : PreL B) {i : Nat} (hi : i < B.length) {u : Int} {l : List Int} (h : (u :: l) <:+ B[i].2) : B[i].2.reverse.take (B[i].2.reverse.idxOf u + 1) = (u :: l).reverse := by
  obtain ⟨j, hj, _, ej, _⟩ := P.suff i hi u l h
  have hu := P.line_new hj ej
  obtain ⟨t, ht⟩ := h
  have er : B[i].2.reverse = l.reverse ++ (u :: t.reverse) := by rw [← ht]; simp
  have ix : B[i].2.reverse.idxOf u = l.length := by
    rw [er, idx_mid (by rw [List.mem_reverse]; exact hu), List.length_reverse]
  rw [ix, er]
  rw [List.take_append, List.length_reverse, List.take_of_length_le (by rw [List.length_reverse]; omega), show l.length + 1 - l.length = 1 by omega, List.take_succ_cons, List.take_zero, List.reverse_cons]
theorem stand_good {B : List Ln} (P : PreL B) (G : ∀ x ∈ B, RowG x) : ∀ (m i : Nat) (hi : i < B.length), m = B.length - i → standL B[i].2.reverse ((B.take (i + 1)).map (·.1.n)) ((B.drop (i + 1)).map fun x => rowNE (rowD x.1)) = true := fun m => by
  induction m with
  | zero => intro i hi h; omega
  | succ m ih =>
    intro i hi h
    by_cases hi2 : i + 1 < B.length
    · obtain ⟨u, l, h1, h2, h3⟩ := P.step i hi2
      have hu : u ∈ B[i].2 := h2.subset List.mem_cons_self
      have hn : B[i + 1].1.n ∉ (B.take (i + 1)).map (·.1.n) := fun hm => by
        obtain ⟨z, hz, ez⟩ := List.mem_map.mp hm
        obtain ⟨j, hj, rfl⟩ := List.getElem_of_mem hz
        rw [List.length_take] at hj
        rw [List.getElem_take] at ez
        have := P.one (i := j) (by omega) hi2 ez
        omega
      have er : rowNE (rowD B[i + 1].1) = (B[i + 1].1.n, u) := by unfold rowD; rw [h3]; rfl
      have ec := P.take_line hi h2
      have hd2 := (G _ (List.getElem_mem hi2)).d
      have l2 : B[i + 1].2.length = l.length + 2 := by rw [h1]; rfl
      rw [List.drop_eq_getElem_cons hi2, List.map_cons, er]
      unfold standL
      rw [if_neg (fun z => z.elim (fun z => z (List.mem_reverse.mpr hu)) hn), ec]
      have eA : (u :: l).reverse ++ [B[i + 1].1.n] = B[i + 1].2.reverse := by rw [h1, List.reverse_cons (a := B[i + 1].1.n)]
      rw [eA, if_neg (by rw [List.length_reverse, l2]; omega)]
      have em : (B.take (i + 1)).map (·.1.n) ++ [B[i + 1].1.n] = (B.take (i + 1 + 1)).map (·.1.n) := by
        rw [List.take_add_one (i := i + 1), List.getElem?_eq_getElem hi2, List.map_append]; rfl
      rw [em]
      exact ih (i + 1) hi2 (by omega)
    · rw [List.drop_eq_nil_of_le (by omega)]
      rfl
theorem good_book {B : List Ln} (P : PreL B) (G : ∀ x ∈ B, RowG x) : bookB (bookD (B.map (·.1))) = true := by
  have rl := P.len
  have pos := P.pos
  obtain ⟨r, t, eB, r0, ru, rs, rx, ry, rw1, rw2, rh1, rh2⟩ := P.root
  have ra : r.a = 0 := (G (r, [0]) (by rw [eB]; exact List.mem_cons_self)).a0 ru
  have rr : rowD r = .tup [.int 0, .non, .tup [.int 0, .int 0, .int r.w, .int r.h], .bl true, .int 0] := by
    unfold rowD; rw [r0, ru, rs, rx, ry, ra]; rfl
  have hb : bookD (B.map (·.1)) = .tup (rowD r :: t.map fun x => rowD x.1) := by
    rw [eB]; unfold bookD; rw [List.map_map, List.map_cons]; rfl
  have tl : t.length ≤ 9 := by rw [eB] at rl; simp only [List.length_cons] at rl; omega
  have rg := row_good P G
  have st := stand_good P G _ 0 pos rfl
  have d1 : B.drop 1 = t := by rw [eB]; rfl
  rw [d1] at rg
  have st : standL [0] [0] ((t.map fun x => rowD x.1).map rowNE) = true := by
    have e1 : B[0].2.reverse = [0] := by subst eB; rfl
    have e2 : (B.take (0 + 1)).map (·.1.n) = [0] := by subst eB; show [r.n] = [0]; rw [r0]
    rw [e1, e2, show B.drop (0 + 1) = t from d1] at st
    rw [List.map_map]
    exact st
  have al : (t.map fun x => rowD x.1).all rowB = true := List.all_eq_true.mpr fun z hz => by
    obtain ⟨x, hx, rfl⟩ := List.mem_map.mp hz
    exact rg x hx
  have sc : screenB (rowD r) = true := by
    rw [rr]
    show (true && (true && ((decide ((0 : Int) ≤ 0) && decide ((0 : Int) ≤ 0)) && ((decide ((0 : Int) ≤ 0) && decide ((0 : Int) ≤ 0)) && ((((decide ((-40 : Int) ≤ 0) && decide ((0 : Int) ≤ 40)) && (decide ((-40 : Int) ≤ 0) && decide ((0 : Int) ≤ 40))) && ((decide (1 ≤ r.w) && decide (r.w ≤ 40)) && (decide (1 ≤ r.h) && decide (r.h ≤ 40)))) && (decide ((0 : Int) = 0) && decide ((0 : Int) = 0))))))) = true
    simp [rw1, rw2, rh1, rh2]
  rw [hb]
  show (decide (1 ≤ (rowD r :: t.map fun x => rowD x.1).length ∧ (rowD r :: t.map fun x => rowD x.1).length ≤ 10) && (screenB (rowD r) && ((t.map fun x => rowD x.1).all rowB && standL [0] [0] ((t.map fun x => rowD x.1).map rowNE)))) = true
  rw [sc, al, st, decide_eq_true ⟨by simp, by simp only [List.length_cons, List.length_map]; omega⟩]
  rfl
end Ev07
namespace Ev07
open PySem PySem.Spec PyProof.Rows L2 Ev Pt
local macro_rules
  | `(tactic| simp only [DSIMP, $as,*] $[$l:location]?) => `(tactic| simp only [rNeE, rEL, List.isEmpty_nil, List.isEmpty_cons, gIx, rIsA, rIsS, kitS, kitS.optQB, D.cls, dHGet, dHPut, dBornK, penK_cells, penK_at, penK_left, penK_pat, penK_pleft, penK_len, ex_hpK, dOwnGet2, ownKs, dKpL, dNewKd, dKpLk, rDictPTf, dRaise1, dRaise0, excD, dTry, wTry, Ev.rIsE, Ev.rIsEt, D.xcN, dFldE, dCallVX, WP, exS_tab, dTakeN, dIxN, dKpNew, dKpPut, dKpIns, dKpApp, dKpFz, dRoK, dRoL, dNewK1, dIns, roK, dZipM, dNGet, dNPut, dNewN, isNo, Ev.nGet, Ev.nPut, D.nkey, b2n, rAddB, rSubB, rStrB, rEqE, dSrtSet, dOrX, truD, rDictX, dTupN, dSlN, rAddN, rSrtN, rTupleN, rDictN, dSlX, dRevX, dLenSetN, dEmptyV, rLtX, rMulX, Ev.rReprX, dPenS, gStarDL, dAug, dIndexE, dZipS, dGcIn, dGbIx, dGdIn, dGdIx, dListRg, rDictPf, dZipL, dListKo, dEmptyT, dDispT1, dNeE, rListA, rDictPT, rIsTF, dGroup, rSrtA, rLenA, dInV, dIxV, dCount, dSortKo, dCallR, adD, gL, dDN, dLN, wNest, bNest, bEl, bEd, dZip, seqOf, dSortDK, dCallV, dCallLam, optQ, dEnum, D.nf, D.nfs, Ev.rSumD, dLock, dKeysI, gStarD, dReverse, dMove, dDGet2, getD2, D.isD, dDisp, dPairs, keysD, Ev.rMaxD, Ev.rMinD, rDictP, Option.getD_some, Option.getD_none, Ev.D.eq_refl, dPen1, dLenSet, dSrtR, dRo, dRoF, dRoT, roD, ro_un, ro_dat, ro_own, ro_hp, ro_law, ro_ownK, ro_ownT, List.forall_mem_map, flat_int, flat_str, flat_bl, flat_non, solid_int, solid_str, solid_bl, solid_non, solid_tup, solids_nil, solids_cons, dSeq, dNext, dSet, dSetF, setSl, dVar, dTake, dC, dBin, dBinF, dB, dIfS, dIf, dRet, dRetN, dExpr, dNil, dCons, dTup, dLst, dFz, dAnd, dOr, dNot, dAndV, dOrV, dNotV, dCallD, dCallK, dCB, dCBF, dFor, dLC, dYes, dRng1, dRng2, dSeqI, gN, gT, gsNil, gsCons, dAsg, dNeg, dJoin, dFs, dJs, dFmt, dApp, dExt, dPop, dPopAt, dOwnIx, dOwnCB, dOwnL, dOwnR, dOwnSl, dSetIx, dSlT, dSlL, oNone, oSome, dBorn, optQ, ownAt, setOwnAt, lookAt, wipeD, dNewDT, dNewDK, dDGet, dDIn, dDPut, dSortT, rSrt, isDict, Ev.dictGet, Ev.dictPut, Option.isSome_none, Option.isSome_some, D.keyT, keysOf, D.key, exists_eq_left', exists_eq_left, Option.isSome, rRepL, rCatL, dRetF, dIfF, dPar, dRetOwn, dCallL, dCallLK, dPen2, dRev, dRevI, dIndex, endsL, startL, dNever, dBrk, dCnt, rAddD, rSubI, rIO, rMulI, rDivI, rModI, rPowI, rCI, Ev.rIxD, rIsN, rNotN, D.isN, Ev.rLen, rTuple, rList, rAbs, rInt, rStr, Ev.rRepr, Ev.rIsi, D.ty, kit_tab, startD, endsD, List.map_cons, List.map_nil, List.length_cons, List.length_nil, List.append_nil, List.nil_append, List.cons_append, List.getElem?_cons_zero, List.getElem?_cons_succ, List.getElem?_nil, List.set_cons_zero, List.set_cons_succ, List.replicate, List.replicate_succ, Nat.zero_add, Nat.zero_le, sizeLine, true_and, and_true, if_true, Ev.eq_int, Ev.eq_str, Ev.eq_bl, Ev.eq_non, lst_nil, tup_nil, List.map_eq_nil_iff, txt_join, rLt, rLe, rGt, rGe, atI_ofNat, atI_last, wLC, strsOf, intsOf, blsOf, Option.map_some, Ev.join_two, Ev.join_one, Ev.join_nil, List.sum_cons, List.sum_nil, PySem.Str.empty_append, ixN_ofNat, Option.some.injEq, exists_eq', List.length_map, decide_true, decide_false, Bool.not_true, Bool.not_false, Bool.true_eq_false, Bool.false_eq_true, false_and, and_false, if_false, ite_true, ite_false, Nat.reduceAdd, Nat.reduceSub, Nat.reduceMul, Nat.reduceLT, Nat.reduceLeDiff, Nat.reduceEqDiff, Nat.reducePow, Int.reduceToNat, Int.reducePow, pickL, List.filterMap_cons, List.filterMap_nil, and_self, Int.reduceLT, Int.reduceLE, Int.reduceNeg, Int.reduceAdd, Int.reduceMul, Int.reduceSub, Int.reduceEq, reduceIte, reduceCtorEq, lit_eq, String.reduceEq, Ev.rEq, Ev.rNe, Ev.rInD, cut_toN, cut_fromN, List.map_take, List.forall_mem_cons, List.forall_mem_nil, List.not_mem_nil, false_imp_iff, implies_true, forall_const, D.cm, D.lay, D.lays, D.dep, D.deps, strOk_lit, lays_ints, deps_ints, Nat.max_self, Nat.max_zero, Nat.zero_max, Bool.and_self, Bool.true_and, Bool.and_true, Bool.and_false, Bool.false_and, Bool.or_false, Bool.or_true, Bool.true_or, Bool.false_or, List.any_cons, List.any_nil, decide_eq_true_eq, eq_self, $as,*] $[$l]?)
  | `(tactic| simp only [DSIMP] $[$l:location]?) => `(tactic| simp only [rNeE, rEL, List.isEmpty_nil, List.isEmpty_cons, gIx, rIsA, rIsS, kitS, kitS.optQB, D.cls, dHGet, dHPut, dBornK, penK_cells, penK_at, penK_left, penK_pat, penK_pleft, penK_len, ex_hpK, dOwnGet2, ownKs, dKpL, dNewKd, dKpLk, rDictPTf, dRaise1, dRaise0, excD, dTry, wTry, Ev.rIsE, Ev.rIsEt, D.xcN, dFldE, dCallVX, WP, exS_tab, dTakeN, dIxN, dKpNew, dKpPut, dKpIns, dKpApp, dKpFz, dRoK, dRoL, dNewK1, dIns, roK, dZipM, dNGet, dNPut, dNewN, isNo, Ev.nGet, Ev.nPut, D.nkey, b2n, rAddB, rSubB, rStrB, rEqE, dSrtSet, dOrX, truD, rDictX, dTupN, dSlN, rAddN, rSrtN, rTupleN, rDictN, dSlX, dRevX, dLenSetN, dEmptyV, rLtX, rMulX, Ev.rReprX, dPenS, gStarDL, dAug, dIndexE, dZipS, dGcIn, dGbIx, dGdIn, dGdIx, dListRg, rDictPf, dZipL, dListKo, dEmptyT, dDispT1, dNeE, rListA, rDictPT, rIsTF, dGroup, rSrtA, rLenA, dInV, dIxV, dCount, dSortKo, dCallR, adD, gL, dDN, dLN, wNest, bNest, bEl, bEd, dZip, seqOf, dSortDK, dCallV, dCallLam, optQ, dEnum, D.nf, D.nfs, Ev.rSumD, dLock, dKeysI, gStarD, dReverse, dMove, dDGet2, getD2, D.isD, dDisp, dPairs, keysD, Ev.rMaxD, Ev.rMinD, rDictP, Option.getD_some, Option.getD_none, Ev.D.eq_refl, dPen1, dLenSet, dSrtR, dRo, dRoF, dRoT, roD, ro_un, ro_dat, ro_own, ro_hp, ro_law, ro_ownK, ro_ownT, List.forall_mem_map, flat_int, flat_str, flat_bl, flat_non, solid_int, solid_str, solid_bl, solid_non, solid_tup, solids_nil, solids_cons, dSeq, dNext, dSet, dSetF, setSl, dVar, dTake, dC, dBin, dBinF, dB, dIfS, dIf, dRet, dRetN, dExpr, dNil, dCons, dTup, dLst, dFz, dAnd, dOr, dNot, dAndV, dOrV, dNotV, dCallD, dCallK, dCB, dCBF, dFor, dLC, dYes, dRng1, dRng2, dSeqI, gN, gT, gsNil, gsCons, dAsg, dNeg, dJoin, dFs, dJs, dFmt, dApp, dExt, dPop, dPopAt, dOwnIx, dOwnCB, dOwnL, dOwnR, dOwnSl, dSetIx, dSlT, dSlL, oNone, oSome, dBorn, optQ, ownAt, setOwnAt, lookAt, wipeD, dNewDT, dNewDK, dDGet, dDIn, dDPut, dSortT, rSrt, isDict, Ev.dictGet, Ev.dictPut, Option.isSome_none, Option.isSome_some, D.keyT, keysOf, D.key, exists_eq_left', exists_eq_left, Option.isSome, rRepL, rCatL, dRetF, dIfF, dPar, dRetOwn, dCallL, dCallLK, dPen2, dRev, dRevI, dIndex, endsL, startL, dNever, dBrk, dCnt, rAddD, rSubI, rIO, rMulI, rDivI, rModI, rPowI, rCI, Ev.rIxD, rIsN, rNotN, D.isN, Ev.rLen, rTuple, rList, rAbs, rInt, rStr, Ev.rRepr, Ev.rIsi, D.ty, kit_tab, startD, endsD, List.map_cons, List.map_nil, List.length_cons, List.length_nil, List.append_nil, List.nil_append, List.cons_append, List.getElem?_cons_zero, List.getElem?_cons_succ, List.getElem?_nil, List.set_cons_zero, List.set_cons_succ, List.replicate, List.replicate_succ, Nat.zero_add, Nat.zero_le, sizeLine, true_and, and_true, if_true, Ev.eq_int, Ev.eq_str, Ev.eq_bl, Ev.eq_non, lst_nil, tup_nil, List.map_eq_nil_iff, txt_join, rLt, rLe, rGt, rGe, atI_ofNat, atI_last, wLC, strsOf, intsOf, blsOf, Option.map_some, Ev.join_two, Ev.join_one, Ev.join_nil, List.sum_cons, List.sum_nil, PySem.Str.empty_append, ixN_ofNat, Option.some.injEq, exists_eq', List.length_map, decide_true, decide_false, Bool.not_true, Bool.not_false, Bool.true_eq_false, Bool.false_eq_true, false_and, and_false, if_false, ite_true, ite_false, Nat.reduceAdd, Nat.reduceSub, Nat.reduceMul, Nat.reduceLT, Nat.reduceLeDiff, Nat.reduceEqDiff, Nat.reducePow, Int.reduceToNat, Int.reducePow, pickL, List.filterMap_cons, List.filterMap_nil, and_self, Int.reduceLT, Int.reduceLE, Int.reduceNeg, Int.reduceAdd, Int.reduceMul, Int.reduceSub, Int.reduceEq, reduceIte, reduceCtorEq, lit_eq, String.reduceEq, Ev.rEq, Ev.rNe, Ev.rInD, cut_toN, cut_fromN, List.map_take, List.forall_mem_cons, List.forall_mem_nil, List.not_mem_nil, false_imp_iff, implies_true, forall_const, D.cm, D.lay, D.lays, D.dep, D.deps, strOk_lit, lays_ints, deps_ints, Nat.max_self, Nat.max_zero, Nat.zero_max, Bool.and_self, Bool.true_and, Bool.and_true, Bool.and_false, Bool.false_and, Bool.or_false, Bool.or_true, Bool.true_or, Bool.false_or, List.any_cons, List.any_nil, decide_eq_true_eq, eq_self] $[$l]?)
variable [TabC] [PkD]
theorem Ls.nil {N k : Nat} : Ls N 0 k [] := ⟨rfl, Nat.le_refl _, Nat.zero_le _⟩
theorem Ls.cons {N n m k : Nat} {d : D} {xs : List D} (h : Es N n k d) (hs : Ls N m k xs) : Ls N (n + 2 + m) k (d :: xs) := (Ls.one h).app hs
theorem Es.fit {N n k : Nat} {d : D} (h : Es N n k d) (hN : N ≤ great) (hn : n ≤ 500000) (hk : k ≤ 60) : Fit d := ⟨okN_mono hN d h.ok, Nat.le_trans h.sz hn, Nat.le_trans h.de hk⟩
theorem row_es {x : Ln} (k : rowOk x.1) (g : RowG x) : Es 1000 740 2 (rowD x.1) := by
  have ha : x.1.a.natAbs ≤ 4 := by
    cases e : x.1.up with
    | none => rw [g.a0 e]; decide
    | some u => have := g.kid (by rw [e]; exact fun z => nomatch z); omega
  have eu : Es 1000 101 1 (optD x.1.up) := by
    cases e : x.1.up with
    | none => exact ⟨rfl, by decide, by decide⟩
    | some u => have := k.up u e; exact .int (by omega) (Nat.le_refl _)
  have i1 := k.n0
  have i2 := k.n9
  have i3 := k.x
  have i4 := k.y
  have i5 := k.w
  have i6 := k.h
  have box : Es 1000 417 1 (.tup [.int x.1.x, .int x.1.y, .int x.1.w, .int x.1.h]) := Ls.tup (n := 412) (k := 0) (.cons (n := 101) (m := 309) (.int (by omega) (Nat.le_refl _)) (.cons (n := 101) (m := 206) (.int (by omega) (Nat.le_refl _)) (.cons (n := 101) (m := 103) (.int (by omega) (Nat.le_refl _)) (.cons (n := 101) (m := 0) (.int (by omega) (Nat.le_refl _)) .nil))))
  unfold rowD
  exact Ls.tup (n := 735) (k := 1) (.cons (n := 101) (m := 632) (.int (by omega) (Nat.le_refl _)) (.cons (n := 101) (m := 529) eu (.cons (n := 417) (m := 110) box (.cons (n := 5) (m := 103) (.bl (Nat.le_refl _)) (.cons (n := 101) (m := 0) (.int (by omega) (Nat.le_refl _)) .nil)))))
theorem Ls.all {N n k : Nat} : ∀ {xs : List D}, (∀ x ∈ xs, Es N n k x) → Ls N ((n + 2) * xs.length) k xs
  | [], _ => .nil
  | x :: xs, h => by
    have a := Ls.cons (h x List.mem_cons_self) (Ls.all fun y hy => h y (List.mem_cons_of_mem _ hy))
    refine a.mono (Nat.le_refl _) ?_ (Nat.le_refl _)
    rw [List.length_cons, Nat.mul_add]
    omega
theorem book_ls {B : List Ln} (P : PreL B) (G : ∀ x ∈ B, RowG x) : Ls 1000 7420 2 (B.map fun x => rowD x.1) := by
  have h := Ls.all (N := 1000) (n := 740) (k := 2) (xs := B.map fun x => rowD x.1) fun y hy => by
    obtain ⟨x, hx, rfl⟩ := List.mem_map.mp hy
    exact row_es (P.ok x hx) (G x hx)
  refine h.mono (Nat.le_refl _) ?_ (Nat.le_refl _)
  rw [List.length_map]
  have := P.len
  omega
def scrD : D := .tup [.int 0, .non, .tup [.int 0, .int 0, .int 9, .int 9], .bl true, .int 0]
def chD (k : Int) : D := .tup [.int k, .int (k - 1), .tup [.int 0, .int 0, .int 2, .int 2], .bl true, .int 1]
def bsD (k : Int) : D := .tup [.int k, .int 0, .tup [.int 0, .int 0, .int 2, .int 2], .bl false, .int 4]
def oneNine : List Int := [1, 2, 3, 4, 5, 6, 7, 8, 9]
def chL : List D := [scrD] ++ oneNine.map chD
def bsL : List D := [scrD] ++ oneNine.map bsD
def apartD : D := .tup [scrD, bsD 1, bsD 2, .tup [.int 3, .int 1, .tup [.int 0, .int 0, .int 1, .int 1], .bl true, .int 1]]
def elevenD : D := .tup (bsL ++ [.tup [.int 9, .int 0, .tup [.int 0, .int 0, .int 1, .int 1], .bl true, .int 1]])
theorem rng9 : Ev.intsFrom 1 (10 - 1 : Int).toNat = oneNine.map .int := by rfl
theorem rng10 : Ev.intsFrom 1 (11 - 1 : Int).toNat = ([1, 2, 3, 4, 5, 6, 7, 8, 9, 10] : List Nat).map fun (i : Nat) => D.int (i : Int) := by rfl
theorem ten_ch : ∀ i ∈ ([1, 2, 3, 4, 5, 6, 7, 8, 9, 10] : List Nat), bookB (.tup (chL.take i)) = decide ((i : Int) < 6) ∧ bookB (.tup (bsL.take i)) = true ∧ okN great (.tup (chL.take i)) = true ∧ okN great (.tup (bsL.take i)) = true := by decide +kernel
theorem apart_no : bookB apartD = false ∧ okN great apartD = true ∧ bookB elevenD = false ∧ okN great elevenD = true := by decide +kernel
theorem rd_cat {δ : DS} {a b : dE} {xs ys : List D} (ha : RdE δ a (.lst xs)) (hb : RdE δ b (.lst ys)) (hl : xs.length + ys.length ≤ 100) : RdF δ (dBinF rCatL a b) (xs ++ ys) := fun Q q => ha _ (hb _ ⟨hundred hl, q⟩)
theorem rd_rng9 {δ : DS} {te : dE} {f : Int → D} (hw : wipeD δ [10] = δ) (h : ∀ i, RdE (setSl δ 10 (.dat (.int i))) te (f i)) (hb : ∀ i, wipeD (setSl δ 10 (.dat (.int i))) [10] = δ) : RdF δ (dLC (dRng2 (dCons (dC (.int 1)) (dCons (dC (.int 10)) dNil))) (gN 10) dYes te [10]) (oneNine.map f) := fun Q q => by
  refine ⟨by decide, ?_⟩
  show wLC (gN 10) dYes te [10] Q (Ev.intsFrom 1 (10 - 1 : Int).toNat) [] (wipeD δ [10])
  rw [hw, rng9]
  refine wLC_maps (l := oneNine) (ι := .int) (f := f) (fun i hi acc k hz hk => ?_) (by rw [sizeLine_eq]; decide) q
  refine h i _ ⟨hz, ?_⟩
  rw [hb]
  exact hk
def sp_law : dSp := fun ds p Q _ => ∃ ns : List Int, ds = [.scr ns] ∧ ns.length ≤ 63 ∧ p = none ∧ ∀ p', Q (.bl true) p'
abbrev s_law : Stmt := topS 29
abbrev n_law : List Str := ["_law_script", "_law_pen_here", "_law_screen", "_law_chain", "_law_beside", "_law_size", "_law_apart_now", "_law_turn", "_law_now", "_law_things", "_law_k", "_law_rows", "_law_one"]
theorem sc_law : FnScope n_law ["_law_script"] (defScope s_law) := ⟨rfl, rfl, rfl, by decide +kernel, rfl, by decide +kernel, by decide +kernel⟩
def b_law_f1 : dS := (dIfS (dB (dBin (rNe) (dFz (dLC (dSeqI (dTup (dCons (dVar 3) (dCons (dVar 4) dNil)))) (gN 11) dYes (dCallD 1 [] sp_is_book (dCons (dCB rTuple (dCons (dFz (dSlL (dVar 11) oNone (oSome (dVar 5)))) dNil)) dNil)) [11])) (dFz (dLst (dCons (dBin (rLt) (dVar 5) (dC (.int 6))) (dCons (dC (.bl true)) dNil)))))) (dRet (dC (.bl false))) dNext)
def b_law_f2 : dS := (dApp 9 (dCallD 2 [] sp__law_mixed (dCons (dVar 1) (dCons (dVar 8) dNil))))
def p_law_x2_0 : dS := (dSet 8 (dCallD 2 [] sp__law_rows_of (dCons (dVar 1) (dCons (dC (.int 9)) dNil))))
def p_law_x2_1 : dS := (dSetF 9 (dLst (dCons (dVar 8) (dCons (dSlT (dVar 8) oNone (oSome (dC (.int 1)))) (dCons (dSlT (dVar 8) (oSome (dC (.int 1))) oNone) (dCons (dFz (dCBF rList (dCons (dVar 8) dNil))) (dCons (dRevX (dVar 8)) (dCons (dTup (dCons (dVar 8) dNil)) (dCons (dTup dNil) (dCons (dC .non) (dCons (dFz (dLst dNil)) (dCons dEmptyV (dCons (dC (.int 0)) (dCons (dC (.bl true)) (dCons (dC (.str "book")) dNil)))))))))))))))
def p_law_x2_2 : dS := (dSetF 9 (dBinF rCatL (dTake 9) (dFz (dLC (dRng1 (dCons (dC (.int 8)) dNil)) (gN 10) dYes (dCallD 3 [] (sp__law_bent 4) (dCons (dVar 1) (dCons (dVar 8) (dCons (dC (.int 3)) dNil)))) [10]))))
def p_law_x2_3 : dS := (dFor (dRng1 (dCons (dC (.int 6)) dNil)) (gN 10) b_law_f2)
def p_law_x2_4 : dS := (dIfS (dB (dBin (rEL true) (dFz (dLC (dSeqI (dTake 9)) (gN 12) (dNot (dB (dCallD 1 [] sp__law_right (dCons (dVar 12) dNil)))) (dVar 12) [12])) (dFz (dLst dNil)))) (dRet (dC (.bl false))) dNext)
def p_law_x2_5 : dS := (dIfS (dB (dBin (rIsTF true) (dCallD 1 [] sp_is_book (dCons (dVar 8) dNil)) (dC (.bl true)))) (dRet (dC (.bl false))) dNext)
def b_law_x2_5 : dS := p_law_x2_5
def b_law_x2_4 : dS := dSeq (p_law_x2_4) (b_law_x2_5)
def b_law_x2_3 : dS := dSeq (p_law_x2_3) (b_law_x2_4)
def b_law_x2_2 : dS := dSeq (p_law_x2_2) (b_law_x2_3)
def b_law_x2_1 : dS := dSeq (p_law_x2_1) (b_law_x2_2)
def b_law_x2_0 : dS := dSeq (p_law_x2_0) (b_law_x2_1)
def p_law_0 : dS := (dSet 1 (dCallD 1 [] sp__law_pen (dCons (dVar 0) dNil)))
def p_law_1 : dS := (dSet 2 (dTup (dCons (dC (.int 0)) (dCons (dC .non) (dCons (dTup (dCons (dC (.int 0)) (dCons (dC (.int 0)) (dCons (dC (.int 9)) (dCons (dC (.int 9)) dNil))))) (dCons (dC (.bl true)) (dCons (dC (.int 0)) dNil)))))))
def p_law_2 : dS := (dSet 3 (dFz (dBinF rCatL (dFz (dLst (dCons (dVar 2) dNil))) (dFz (dLC (dRng2 (dCons (dC (.int 1)) (dCons (dC (.int 10)) dNil))) (gN 10) dYes (dTup (dCons (dVar 10) (dCons (dBin rSubI (dVar 10) (dC (.int 1))) (dCons (dTup (dCons (dC (.int 0)) (dCons (dC (.int 0)) (dCons (dC (.int 2)) (dCons (dC (.int 2)) dNil))))) (dCons (dC (.bl true)) (dCons (dC (.int 1)) dNil)))))) [10])))))
def p_law_3 : dS := (dSet 4 (dFz (dBinF rCatL (dFz (dLst (dCons (dVar 2) dNil))) (dFz (dLC (dRng2 (dCons (dC (.int 1)) (dCons (dC (.int 10)) dNil))) (gN 10) dYes (dTup (dCons (dVar 10) (dCons (dC (.int 0)) (dCons (dTup (dCons (dC (.int 0)) (dCons (dC (.int 0)) (dCons (dC (.int 2)) (dCons (dC (.int 2)) dNil))))) (dCons (dC (.bl false)) (dCons (dC (.int 4)) dNil)))))) [10])))))
def p_law_4 : dS := (dFor (dRng2 (dCons (dC (.int 1)) (dCons (dC (.int 11)) dNil))) (gN 5) b_law_f1)
def p_law_5 : dS := (dSet 6 (dTup (dCons (dVar 2) (dCons (dBin rIxD (dVar 4) (dC (.int 1))) (dCons (dBin rIxD (dVar 4) (dC (.int 2))) (dCons (dTup (dCons (dC (.int 3)) (dCons (dC (.int 1)) (dCons (dTup (dCons (dC (.int 0)) (dCons (dC (.int 0)) (dCons (dC (.int 1)) (dCons (dC (.int 1)) dNil))))) (dCons (dC (.bl true)) (dCons (dC (.int 1)) dNil)))))) dNil))))))
def p_law_6 : dS := (dIfS (dOr (dB (dBin (rIsTF true) (dCallD 1 [] sp_is_book (dCons (dVar 6) dNil)) (dC (.bl false)))) (dB (dBin (rIsTF true) (dCallD 1 [] sp_is_book (dCons (dCB rTuple (dCons (dFz (dBinF rCatL (dVar 4) (dFz (dLst (dCons (dTup (dCons (dC (.int 9)) (dCons (dC (.int 0)) (dCons (dTup (dCons (dC (.int 0)) (dCons (dC (.int 0)) (dCons (dC (.int 1)) (dCons (dC (.int 1)) dNil))))) (dCons (dC (.bl true)) (dCons (dC (.int 1)) dNil)))))) dNil))))) dNil)) dNil)) (dC (.bl false))))) (dRet (dC (.bl false))) dNext)
def p_law_7 : dS := (dFor (dRng1 (dCons (dC (.int 3)) dNil)) (gN 7) b_law_x2_0)
def p_law_8 : dS := (dRet (dC (.bl true)))
def b_law_8 : dS := p_law_8
def b_law_7 : dS := dSeq (p_law_7) (b_law_8)
def b_law_6 : dS := dSeq (p_law_6) (b_law_7)
def b_law_5 : dS := dSeq (p_law_5) (b_law_6)
def b_law_4 : dS := dSeq (p_law_4) (b_law_5)
def b_law_3 : dS := dSeq (p_law_3) (b_law_4)
def b_law_2 : dS := dSeq (p_law_2) (b_law_3)
def b_law_1 : dS := dSeq (p_law_1) (b_law_2)
def b_law_0 : dS := dSeq (p_law_0) (b_law_1)
def b_law : dS := b_law_0
theorem run_law {P : Program} {w : World} {K : PySem.W.Frag} {mg : Str → Option Value} {base : Heap} (m_list : mg "list" = none) (m_range : mg "range" = none) (m_tuple : mg "tuple" = none) (K__law_bent_3 : Def P w K mg base 7 "_law_bent" 3 (sp__law_bent 4) []) (K__law_mixed_2 : Def P w K mg base 2 "_law_mixed" 2 sp__law_mixed []) (K__law_pen_1 : Def P w K mg base 1 "_law_pen" 1 sp__law_pen []) (K__law_right_1 : Def P w K mg base 5 "_law_right" 1 sp__law_right []) (K__law_rows_of_2 : Def P w K mg base 3 "_law_rows_of" 2 sp__law_rows_of []) (K_is_book_1 : Def P w K mg base 4 "is_book" 1 sp_is_book []) {f : Addr} (cdv : Value) (A : Around) (out : List Env) (s : Shared) (H : Hp) (E : XK) (g : A.guards = some []) (hrA : Room 7 (A.deeper (envOfC "law" (defScope s_law) s.heap.objs.size f cdv))) :
  DSs (cx0 P w K mg base n_law "law" (defScope s_law) f cdv A out s H E) E00 (defBody s_law) b_law := by
 have hgA : (A.deeper (envOfC "law" (defScope s_law) s.heap.objs.size f cdv)).guards = some [] := g
 have hun := hrA.un
 exact (dss_cons (t := p_law_0) (u := b_law_1) (ds_set (i := 1) sc_law.nd rfl (by first | exact .inl rfl | exact .inr rfl) (de_callD K__law_pen_1 hgA hrA (by rfl) (da_cons (de_var (pv 0)) da_nil)))
  (dss_cons (t := p_law_1) (u := b_law_2) (ds_set (i := 2) sc_law.nd rfl (by first | exact .inl rfl | exact .inr rfl) (de_tup (da_cons de_int (da_cons de_non (da_cons (de_tup (da_cons de_int (da_cons de_int (da_cons de_int (da_cons de_int da_nil))))) (da_cons de_bl (da_cons de_int da_nil)))))))
  (dss_cons (t := p_law_2) (u := b_law_3) (ds_set (i := 3) sc_law.nd rfl (by first | exact .inl rfl | exact .inr rfl) (de_fz (df_op od_catL (de_fz (df_lst (da_cons (de_var (pv 2)) da_nil))) (de_fz (df_lc (E2 := E00) (own := [("_law_k", 10)]) rfl sc_law.nd (di_range2 (by rfl) m_range (da_cons de_int (da_cons de_int da_nil))) (blkOk_by (N := n_law) (sc := (defScope s_law)) (own := [("_law_k", 10)]) (by decide +kernel)) (by decide) (fun _ _ _ _ _ => (dg_name (pg_name (i := 10) sc_law.nd rfl (by first | exact .inl rfl | exact .inr rfl)))) (fun _ _ _ _ _ => dts_nil) (fun _ _ _ _ _ => (de_tup (da_cons (de_var (pv 10)) (da_cons (de_op od_sub (de_var (pv 10)) de_int) (da_cons (de_tup (da_cons de_int (da_cons de_int (da_cons de_int (da_cons de_int da_nil))))) (da_cons de_bl (da_cons de_int da_nil))))))))))))
  (dss_cons (t := p_law_3) (u := b_law_4) (ds_set (i := 4) sc_law.nd rfl (by first | exact .inl rfl | exact .inr rfl) (de_fz (df_op od_catL (de_fz (df_lst (da_cons (de_var (pv 2)) da_nil))) (de_fz (df_lc (E2 := E00) (own := [("_law_k", 10)]) rfl sc_law.nd (di_range2 (by rfl) m_range (da_cons de_int (da_cons de_int da_nil))) (blkOk_by (N := n_law) (sc := (defScope s_law)) (own := [("_law_k", 10)]) (by decide +kernel)) (by decide) (fun _ _ _ _ _ => (dg_name (pg_name (i := 10) sc_law.nd rfl (by first | exact .inl rfl | exact .inr rfl)))) (fun _ _ _ _ _ => dts_nil) (fun _ _ _ _ _ => (de_tup (da_cons (de_var (pv 10)) (da_cons de_int (da_cons (de_tup (da_cons de_int (da_cons de_int (da_cons de_int (da_cons de_int da_nil))))) (da_cons de_bl (da_cons de_int da_nil))))))))))))
  (dss_cons (t := p_law_4) (u := b_law_5) (ds_for PassesOwn.never rfl (di_range2 (by rfl) m_range (da_cons de_int (da_cons de_int da_nil))) (dg_name (pg_name (i := 5) sc_law.nd rfl (by first | exact .inl rfl | exact .inr rfl))) (dss_one (ds_if (dt_cmp (od_ne (Nat.lt_of_le_of_lt (Nat.add_le_add_left (by decide) _) hun)) (de_fz (df_lc (E2 := E00) (own := [("_law_rows", 11)]) rfl sc_law.nd (di_seq (de_tup (da_cons (de_var (pv 3)) (da_cons (de_var (pv 4)) da_nil)))) (blkOk_by (N := n_law) (sc := (defScope s_law)) (own := [("_law_rows", 11)]) (by decide +kernel)) (by decide) (fun _ _ _ _ _ => (dg_name (pg_name (i := 11) sc_law.nd rfl (by first | exact .inl rfl | exact .inr rfl)))) (fun _ _ _ _ _ => dts_nil) (fun _ _ _ _ _ => (de_callD K_is_book_1 hgA hrA (by rfl) (da_cons (de_callTy (cd_tuple) (by rfl) m_tuple (by decide +kernel) (da_cons (de_fz (df_slL (de_var (pv 11)) do_none (do_some (de_var (pv 5))))) da_nil)) da_nil))))) (de_fz (df_lst (da_cons (de_cmp (od_lt) (de_var (pv 5)) de_int (nomark _)) (da_cons de_bl da_nil)))) (nomark _)) (dss_one (ds_ret de_bl)) dss_nil)))
  (dss_cons (t := p_law_5) (u := b_law_6) (ds_set (i := 6) sc_law.nd rfl (by first | exact .inl rfl | exact .inr rfl) (de_tup (da_cons (de_var (pv 2)) (da_cons (de_ix (de_var (pv 4)) de_int (fun _ _ => rfl)) (da_cons (de_ix (de_var (pv 4)) de_int (fun _ _ => rfl)) (da_cons (de_tup (da_cons de_int (da_cons de_int (da_cons (de_tup (da_cons de_int (da_cons de_int (da_cons de_int (da_cons de_int da_nil))))) (da_cons de_bl (da_cons de_int da_nil)))))) da_nil))))))
  (dss_cons (t := p_law_6) (u := b_law_7) (ds_if ((dw_or (dt_cmp (od_notB) (de_callD K_is_book_1 hgA hrA (by rfl) (da_cons (de_var (pv 6)) da_nil)) de_bl (nomark _)) (dw_or1 (dt_cmp (od_notB) (de_callD K_is_book_1 hgA hrA (by rfl) (da_cons (de_callTy (cd_tuple) (by rfl) m_tuple (by decide +kernel) (da_cons (de_fz (df_op od_catL (de_var (pv 4)) (de_fz (df_lst (da_cons (de_tup (da_cons de_int (da_cons de_int (da_cons (de_tup (da_cons de_int (da_cons de_int (da_cons de_int (da_cons de_int da_nil))))) (da_cons de_bl (da_cons de_int da_nil)))))) da_nil))))) da_nil)) da_nil)) de_bl (nomark _))))).dt (dss_one (ds_ret de_bl)) dss_nil)
  (dss_cons (t := p_law_7) (u := b_law_8) (ds_for PassesOwn.never rfl (di_range1 (by rfl) m_range (da_cons de_int da_nil)) (dg_name (pg_name (i := 7) sc_law.nd rfl (by first | exact .inl rfl | exact .inr rfl))) (dss_cons (t := p_law_x2_0) (u := b_law_x2_1) (ds_set (i := 8) sc_law.nd rfl (by first | exact .inl rfl | exact .inr rfl) (de_callD K__law_rows_of_2 hgA hrA (by rfl) (da_cons (de_var (pv 1)) (da_cons de_int da_nil))))
  (dss_cons (t := p_law_x2_1) (u := b_law_x2_2) (ds_setF (i := 9) sc_law.nd rfl (by first | exact .inl rfl | exact .inr rfl) (df_lst (da_cons (de_var (pv 8)) (da_cons (de_slT (de_var (pv 8)) do_none (do_some de_int)) (da_cons (de_slT (de_var (pv 8)) (do_some de_int) do_none) (da_cons (de_fz (df_callTy cd_list (by rfl) m_list (by decide +kernel) (da_cons (de_var (pv 8)) da_nil))) (da_cons (de_revX (de_var (pv 8))) (da_cons (de_tup (da_cons (de_var (pv 8)) da_nil)) (da_cons (de_tup da_nil) (da_cons de_non (da_cons (de_fz (df_lst da_nil)) (da_cons de_emptyV (da_cons de_int (da_cons de_bl (da_cons de_str da_nil)))))))))))))))
  (dss_cons (t := p_law_x2_2) (u := b_law_x2_3) (ds_setF (i := 9) sc_law.nd rfl (by first | exact .inl rfl | exact .inr rfl) (df_op od_catL (de_take (pv 9)) (de_fz (df_lc (E2 := E00) (own := [("_law_k", 10)]) rfl sc_law.nd (di_range1 (by rfl) m_range (da_cons de_int da_nil)) (blkOk_by (N := n_law) (sc := (defScope s_law)) (own := [("_law_k", 10)]) (by decide +kernel)) (by decide) (fun _ _ _ _ _ => (dg_name (pg_name (i := 10) sc_law.nd rfl (by first | exact .inl rfl | exact .inr rfl)))) (fun _ _ _ _ _ => dts_nil) (fun _ _ _ _ _ => (de_callD K__law_bent_3 hgA hrA (by rfl) (da_cons (de_var (pv 1)) (da_cons (de_var (pv 8)) (da_cons de_int da_nil)))))))))
  (dss_cons (t := p_law_x2_3) (u := b_law_x2_4) (ds_for PassesOwn.never rfl (di_range1 (by rfl) m_range (da_cons de_int da_nil)) (dg_name (pg_name (i := 10) sc_law.nd rfl (by first | exact .inl rfl | exact .inr rfl))) (dss_one (ds_app (pv 9) (de_callD K__law_mixed_2 hgA hrA (by rfl) (da_cons (de_var (pv 1)) (da_cons (de_var (pv 8)) da_nil))))))
  (dss_cons (t := p_law_x2_4) (u := b_law_x2_5) (ds_if (dt_cmp (od_neL (Nat.lt_of_le_of_lt (Nat.le_add_right _ _) hun)) (de_fz (df_lc (E2 := E00) (own := [("_law_one", 12)]) rfl sc_law.nd (di_seq (de_take (pv 9))) (blkOk_by (N := n_law) (sc := (defScope s_law)) (own := [("_law_one", 12)]) (by decide +kernel)) (by decide) (fun _ _ _ _ _ => (dg_name (pg_name (i := 12) sc_law.nd rfl (by first | exact .inl rfl | exact .inr rfl)))) (fun _ _ _ _ _ => (dts_one (dt_not (dt_val (de_callD K__law_right_1 hgA hrA (by rfl) (da_cons (de_var (pv 12)) da_nil)))))) (fun _ _ _ _ _ => (de_var (pv 12))))) (de_fz (df_lst da_nil)) (nomark _)) (dss_one (ds_ret de_bl)) dss_nil)
  (dss_one (t := p_law_x2_5) (ds_if (dt_cmp (od_notB) (de_callD K_is_book_1 hgA hrA (by rfl) (da_cons (de_var (pv 8)) da_nil)) de_bl (nomark _)) (dss_one (ds_ret de_bl)) dss_nil))))))))
  (dss_one (t := p_law_8) (ds_ret de_bl))))))))))
abbrev lwS (s0 s2 s3 s4 s5 s6 s7 s8 s9 s10 s11 s12 : Sl) (a : Addr) : List Sl := [s0, .dat (.raw (.ref a)), s2, s3, s4, s5, s6, s7, s8, s9, s10, s11, s12]
end Ev07
namespace Ev07
open PySem PySem.Spec PyProof.Rows L2 Ev Pt
local macro_rules
  | `(tactic| simp only [DSIMP, $as,*] $[$l:location]?) => `(tactic| simp only [rNeE, rEL, List.isEmpty_nil, List.isEmpty_cons, gIx, rIsA, rIsS, kitS, kitS.optQB, D.cls, dHGet, dHPut, dBornK, penK_cells, penK_at, penK_left, penK_pat, penK_pleft, penK_len, ex_hpK, dOwnGet2, ownKs, dKpL, dNewKd, dKpLk, rDictPTf, dRaise1, dRaise0, excD, dTry, wTry, Ev.rIsE, Ev.rIsEt, D.xcN, dFldE, dCallVX, WP, exS_tab, dTakeN, dIxN, dKpNew, dKpPut, dKpIns, dKpApp, dKpFz, dRoK, dRoL, dNewK1, dIns, roK, dZipM, dNGet, dNPut, dNewN, isNo, Ev.nGet, Ev.nPut, D.nkey, b2n, rAddB, rSubB, rStrB, rEqE, dSrtSet, dOrX, truD, rDictX, dTupN, dSlN, rAddN, rSrtN, rTupleN, rDictN, dSlX, dRevX, dLenSetN, dEmptyV, rLtX, rMulX, Ev.rReprX, dPenS, gStarDL, dAug, dIndexE, dZipS, dGcIn, dGbIx, dGdIn, dGdIx, dListRg, rDictPf, dZipL, dListKo, dEmptyT, dDispT1, dNeE, rListA, rDictPT, rIsTF, dGroup, rSrtA, rLenA, dInV, dIxV, dCount, dSortKo, dCallR, adD, gL, dDN, dLN, wNest, bNest, bEl, bEd, dZip, seqOf, dSortDK, dCallV, dCallLam, optQ, dEnum, D.nf, D.nfs, Ev.rSumD, dLock, dKeysI, gStarD, dReverse, dMove, dDGet2, getD2, D.isD, dDisp, dPairs, keysD, Ev.rMaxD, Ev.rMinD, rDictP, Option.getD_some, Option.getD_none, Ev.D.eq_refl, dPen1, dLenSet, dSrtR, dRo, dRoF, dRoT, roD, ro_un, ro_dat, ro_own, ro_hp, ro_law, ro_ownK, ro_ownT, List.forall_mem_map, flat_int, flat_str, flat_bl, flat_non, solid_int, solid_str, solid_bl, solid_non, solid_tup, solids_nil, solids_cons, dSeq, dNext, dSet, dSetF, setSl, dVar, dTake, dC, dBin, dBinF, dB, dIfS, dIf, dRet, dRetN, dExpr, dNil, dCons, dTup, dLst, dFz, dAnd, dOr, dNot, dAndV, dOrV, dNotV, dCallD, dCallK, dCB, dCBF, dFor, dLC, dYes, dRng1, dRng2, dSeqI, gN, gT, gsNil, gsCons, dAsg, dNeg, dJoin, dFs, dJs, dFmt, dApp, dExt, dPop, dPopAt, dOwnIx, dOwnCB, dOwnL, dOwnR, dOwnSl, dSetIx, dSlT, dSlL, oNone, oSome, dBorn, optQ, ownAt, setOwnAt, lookAt, wipeD, dNewDT, dNewDK, dDGet, dDIn, dDPut, dSortT, rSrt, isDict, Ev.dictGet, Ev.dictPut, Option.isSome_none, Option.isSome_some, D.keyT, keysOf, D.key, exists_eq_left', exists_eq_left, Option.isSome, rRepL, rCatL, dRetF, dIfF, dPar, dRetOwn, dCallL, dCallLK, dPen2, dRev, dRevI, dIndex, endsL, startL, dNever, dBrk, dCnt, rAddD, rSubI, rIO, rMulI, rDivI, rModI, rPowI, rCI, Ev.rIxD, rIsN, rNotN, D.isN, Ev.rLen, rTuple, rList, rAbs, rInt, rStr, Ev.rRepr, Ev.rIsi, D.ty, kit_tab, startD, endsD, List.map_cons, List.map_nil, List.length_cons, List.length_nil, List.append_nil, List.nil_append, List.cons_append, List.getElem?_cons_zero, List.getElem?_cons_succ, List.getElem?_nil, List.set_cons_zero, List.set_cons_succ, List.replicate, List.replicate_succ, Nat.zero_add, Nat.zero_le, sizeLine, true_and, and_true, if_true, Ev.eq_int, Ev.eq_str, Ev.eq_bl, Ev.eq_non, lst_nil, tup_nil, List.map_eq_nil_iff, txt_join, rLt, rLe, rGt, rGe, atI_ofNat, atI_last, wLC, strsOf, intsOf, blsOf, Option.map_some, Ev.join_two, Ev.join_one, Ev.join_nil, List.sum_cons, List.sum_nil, PySem.Str.empty_append, ixN_ofNat, Option.some.injEq, exists_eq', List.length_map, decide_true, decide_false, Bool.not_true, Bool.not_false, Bool.true_eq_false, Bool.false_eq_true, false_and, and_false, if_false, ite_true, ite_false, Nat.reduceAdd, Nat.reduceSub, Nat.reduceMul, Nat.reduceLT, Nat.reduceLeDiff, Nat.reduceEqDiff, Nat.reducePow, Int.reduceToNat, Int.reducePow, pickL, List.filterMap_cons, List.filterMap_nil, and_self, Int.reduceLT, Int.reduceLE, Int.reduceNeg, Int.reduceAdd, Int.reduceMul, Int.reduceSub, Int.reduceEq, reduceIte, reduceCtorEq, lit_eq, String.reduceEq, Ev.rEq, Ev.rNe, Ev.rInD, cut_toN, cut_fromN, List.map_take, List.forall_mem_cons, List.forall_mem_nil, List.not_mem_nil, false_imp_iff, implies_true, forall_const, D.cm, D.lay, D.lays, D.dep, D.deps, strOk_lit, lays_ints, deps_ints, Nat.max_self, Nat.max_zero, Nat.zero_max, Bool.and_self, Bool.true_and, Bool.and_true, Bool.and_false, Bool.false_and, Bool.or_false, Bool.or_true, Bool.true_or, Bool.false_or, List.any_cons, List.any_nil, decide_eq_true_eq, eq_self, $as,*] $[$l]?)
  | `(tactic| simp only [DSIMP] $[$l:location]?) => `(tactic| simp only [rNeE, rEL, List.isEmpty_nil, List.isEmpty_cons, gIx, rIsA, rIsS, kitS, kitS.optQB, D.cls, dHGet, dHPut, dBornK, penK_cells, penK_at, penK_left, penK_pat, penK_pleft, penK_len, ex_hpK, dOwnGet2, ownKs, dKpL, dNewKd, dKpLk, rDictPTf, dRaise1, dRaise0, excD, dTry, wTry, Ev.rIsE, Ev.rIsEt, D.xcN, dFldE, dCallVX, WP, exS_tab, dTakeN, dIxN, dKpNew, dKpPut, dKpIns, dKpApp, dKpFz, dRoK, dRoL, dNewK1, dIns, roK, dZipM, dNGet, dNPut, dNewN, isNo, Ev.nGet, Ev.nPut, D.nkey, b2n, rAddB, rSubB, rStrB, rEqE, dSrtSet, dOrX, truD, rDictX, dTupN, dSlN, rAddN, rSrtN, rTupleN, rDictN, dSlX, dRevX, dLenSetN, dEmptyV, rLtX, rMulX, Ev.rReprX, dPenS, gStarDL, dAug, dIndexE, dZipS, dGcIn, dGbIx, dGdIn, dGdIx, dListRg, rDictPf, dZipL, dListKo, dEmptyT, dDispT1, dNeE, rListA, rDictPT, rIsTF, dGroup, rSrtA, rLenA, dInV, dIxV, dCount, dSortKo, dCallR, adD, gL, dDN, dLN, wNest, bNest, bEl, bEd, dZip, seqOf, dSortDK, dCallV, dCallLam, optQ, dEnum, D.nf, D.nfs, Ev.rSumD, dLock, dKeysI, gStarD, dReverse, dMove, dDGet2, getD2, D.isD, dDisp, dPairs, keysD, Ev.rMaxD, Ev.rMinD, rDictP, Option.getD_some, Option.getD_none, Ev.D.eq_refl, dPen1, dLenSet, dSrtR, dRo, dRoF, dRoT, roD, ro_un, ro_dat, ro_own, ro_hp, ro_law, ro_ownK, ro_ownT, List.forall_mem_map, flat_int, flat_str, flat_bl, flat_non, solid_int, solid_str, solid_bl, solid_non, solid_tup, solids_nil, solids_cons, dSeq, dNext, dSet, dSetF, setSl, dVar, dTake, dC, dBin, dBinF, dB, dIfS, dIf, dRet, dRetN, dExpr, dNil, dCons, dTup, dLst, dFz, dAnd, dOr, dNot, dAndV, dOrV, dNotV, dCallD, dCallK, dCB, dCBF, dFor, dLC, dYes, dRng1, dRng2, dSeqI, gN, gT, gsNil, gsCons, dAsg, dNeg, dJoin, dFs, dJs, dFmt, dApp, dExt, dPop, dPopAt, dOwnIx, dOwnCB, dOwnL, dOwnR, dOwnSl, dSetIx, dSlT, dSlL, oNone, oSome, dBorn, optQ, ownAt, setOwnAt, lookAt, wipeD, dNewDT, dNewDK, dDGet, dDIn, dDPut, dSortT, rSrt, isDict, Ev.dictGet, Ev.dictPut, Option.isSome_none, Option.isSome_some, D.keyT, keysOf, D.key, exists_eq_left', exists_eq_left, Option.isSome, rRepL, rCatL, dRetF, dIfF, dPar, dRetOwn, dCallL, dCallLK, dPen2, dRev, dRevI, dIndex, endsL, startL, dNever, dBrk, dCnt, rAddD, rSubI, rIO, rMulI, rDivI, rModI, rPowI, rCI, Ev.rIxD, rIsN, rNotN, D.isN, Ev.rLen, rTuple, rList, rAbs, rInt, rStr, Ev.rRepr, Ev.rIsi, D.ty, kit_tab, startD, endsD, List.map_cons, List.map_nil, List.length_cons, List.length_nil, List.append_nil, List.nil_append, List.cons_append, List.getElem?_cons_zero, List.getElem?_cons_succ, List.getElem?_nil, List.set_cons_zero, List.set_cons_succ, List.replicate, List.replicate_succ, Nat.zero_add, Nat.zero_le, sizeLine, true_and, and_true, if_true, Ev.eq_int, Ev.eq_str, Ev.eq_bl, Ev.eq_non, lst_nil, tup_nil, List.map_eq_nil_iff, txt_join, rLt, rLe, rGt, rGe, atI_ofNat, atI_last, wLC, strsOf, intsOf, blsOf, Option.map_some, Ev.join_two, Ev.join_one, Ev.join_nil, List.sum_cons, List.sum_nil, PySem.Str.empty_append, ixN_ofNat, Option.some.injEq, exists_eq', List.length_map, decide_true, decide_false, Bool.not_true, Bool.not_false, Bool.true_eq_false, Bool.false_eq_true, false_and, and_false, if_false, ite_true, ite_false, Nat.reduceAdd, Nat.reduceSub, Nat.reduceMul, Nat.reduceLT, Nat.reduceLeDiff, Nat.reduceEqDiff, Nat.reducePow, Int.reduceToNat, Int.reducePow, pickL, List.filterMap_cons, List.filterMap_nil, and_self, Int.reduceLT, Int.reduceLE, Int.reduceNeg, Int.reduceAdd, Int.reduceMul, Int.reduceSub, Int.reduceEq, reduceIte, reduceCtorEq, lit_eq, String.reduceEq, Ev.rEq, Ev.rNe, Ev.rInD, cut_toN, cut_fromN, List.map_take, List.forall_mem_cons, List.forall_mem_nil, List.not_mem_nil, false_imp_iff, implies_true, forall_const, D.cm, D.lay, D.lays, D.dep, D.deps, strOk_lit, lays_ints, deps_ints, Nat.max_self, Nat.max_zero, Nat.zero_max, Bool.and_self, Bool.true_and, Bool.and_true, Bool.and_false, Bool.false_and, Bool.or_false, Bool.or_true, Bool.true_or, Bool.false_or, List.any_cons, List.any_nil, decide_eq_true_eq, eq_self] $[$l]?)
variable [TabC] [PkD]
theorem turn_size {N : dEnds} {s0 s2 s5 s6 s7 s8 s9 s10 s11 s12 : Sl} {a : Addr} {pe : Pen} {CH BS : List D} {i : Nat}
    (h : bookB (.tup (CH.take i)) = decide ((i : Int) < 6) ∧ bookB (.tup (BS.take i)) = true ∧ okN great (.tup (CH.take i)) = true ∧ okN great (.tup (BS.take i)) = true)
    (hN : ∀ s11, N.nx ⟨lwS s0 s2 (.dat (.lst CH)) (.dat (.lst BS)) (.dat (.int i)) s6 s7 s8 s9 s10 s11 s12 a, pe⟩) :
    b_law_f1 W0 N ⟨lwS s0 s2 (.dat (.lst CH)) (.dat (.lst BS)) (.dat (.int i)) s6 s7 s8 s9 s10 s11 s12 a, pe⟩ := by
  obtain ⟨h1, h2, h3, h4⟩ := h
  unfold lwS at hN ⊢
  simp only [DSIMP, b_law_f1, sp_is_book, spLook, cut_to]
  refine ⟨_, rfl, h3, ?_⟩
  simp only [DSIMP, h1]
  refine ⟨_, rfl, h4, ?_⟩
  simp only [DSIMP, h2]
  exact hN _
end Ev07
namespace Ev07
open PySem PySem.Spec PyProof.Rows L2 Ev Pt
local macro_rules
  | `(tactic| simp only [DSIMP, $as,*] $[$l:location]?) => `(tactic| simp only [rNeE, rEL, List.isEmpty_nil, List.isEmpty_cons, gIx, rIsA, rIsS, kitS, kitS.optQB, D.cls, dHGet, dHPut, dBornK, penK_cells, penK_at, penK_left, penK_pat, penK_pleft, penK_len, ex_hpK, dOwnGet2, ownKs, dKpL, dNewKd, dKpLk, rDictPTf, dRaise1, dRaise0, excD, dTry, wTry, Ev.rIsE, Ev.rIsEt, D.xcN, dFldE, dCallVX, WP, exS_tab, dTakeN, dIxN, dKpNew, dKpPut, dKpIns, dKpApp, dKpFz, dRoK, dRoL, dNewK1, dIns, roK, dZipM, dNGet, dNPut, dNewN, isNo, Ev.nGet, Ev.nPut, D.nkey, b2n, rAddB, rSubB, rStrB, rEqE, dSrtSet, dOrX, truD, rDictX, dTupN, dSlN, rAddN, rSrtN, rTupleN, rDictN, dSlX, dRevX, dLenSetN, dEmptyV, rLtX, rMulX, Ev.rReprX, dPenS, gStarDL, dAug, dIndexE, dZipS, dGcIn, dGbIx, dGdIn, dGdIx, dListRg, rDictPf, dZipL, dListKo, dEmptyT, dDispT1, dNeE, rListA, rDictPT, rIsTF, dGroup, rSrtA, rLenA, dInV, dIxV, dCount, dSortKo, dCallR, adD, gL, dDN, dLN, wNest, bNest, bEl, bEd, dZip, seqOf, dSortDK, dCallV, dCallLam, optQ, dEnum, D.nf, D.nfs, Ev.rSumD, dLock, dKeysI, gStarD, dReverse, dMove, dDGet2, getD2, D.isD, dDisp, dPairs, keysD, Ev.rMaxD, Ev.rMinD, rDictP, Option.getD_some, Option.getD_none, Ev.D.eq_refl, dPen1, dLenSet, dSrtR, dRo, dRoF, dRoT, roD, ro_un, ro_dat, ro_own, ro_hp, ro_law, ro_ownK, ro_ownT, List.forall_mem_map, flat_int, flat_str, flat_bl, flat_non, solid_int, solid_str, solid_bl, solid_non, solid_tup, solids_nil, solids_cons, dSeq, dNext, dSet, dSetF, setSl, dVar, dTake, dC, dBin, dBinF, dB, dIfS, dIf, dRet, dRetN, dExpr, dNil, dCons, dTup, dLst, dFz, dAnd, dOr, dNot, dAndV, dOrV, dNotV, dCallD, dCallK, dCB, dCBF, dFor, dLC, dYes, dRng1, dRng2, dSeqI, gN, gT, gsNil, gsCons, dAsg, dNeg, dJoin, dFs, dJs, dFmt, dApp, dExt, dPop, dPopAt, dOwnIx, dOwnCB, dOwnL, dOwnR, dOwnSl, dSetIx, dSlT, dSlL, oNone, oSome, dBorn, optQ, ownAt, setOwnAt, lookAt, wipeD, dNewDT, dNewDK, dDGet, dDIn, dDPut, dSortT, rSrt, isDict, Ev.dictGet, Ev.dictPut, Option.isSome_none, Option.isSome_some, D.keyT, keysOf, D.key, exists_eq_left', exists_eq_left, Option.isSome, rRepL, rCatL, dRetF, dIfF, dPar, dRetOwn, dCallL, dCallLK, dPen2, dRev, dRevI, dIndex, endsL, startL, dNever, dBrk, dCnt, rAddD, rSubI, rIO, rMulI, rDivI, rModI, rPowI, rCI, Ev.rIxD, rIsN, rNotN, D.isN, Ev.rLen, rTuple, rList, rAbs, rInt, rStr, Ev.rRepr, Ev.rIsi, D.ty, kit_tab, startD, endsD, List.map_cons, List.map_nil, List.length_cons, List.length_nil, List.append_nil, List.nil_append, List.cons_append, List.getElem?_cons_zero, List.getElem?_cons_succ, List.getElem?_nil, List.set_cons_zero, List.set_cons_succ, List.replicate, List.replicate_succ, Nat.zero_add, Nat.zero_le, sizeLine, true_and, and_true, if_true, Ev.eq_int, Ev.eq_str, Ev.eq_bl, Ev.eq_non, lst_nil, tup_nil, List.map_eq_nil_iff, txt_join, rLt, rLe, rGt, rGe, atI_ofNat, atI_last, wLC, strsOf, intsOf, blsOf, Option.map_some, Ev.join_two, Ev.join_one, Ev.join_nil, List.sum_cons, List.sum_nil, PySem.Str.empty_append, ixN_ofNat, Option.some.injEq, exists_eq', List.length_map, decide_true, decide_false, Bool.not_true, Bool.not_false, Bool.true_eq_false, Bool.false_eq_true, false_and, and_false, if_false, ite_true, ite_false, Nat.reduceAdd, Nat.reduceSub, Nat.reduceMul, Nat.reduceLT, Nat.reduceLeDiff, Nat.reduceEqDiff, Nat.reducePow, Int.reduceToNat, Int.reducePow, pickL, List.filterMap_cons, List.filterMap_nil, and_self, Int.reduceLT, Int.reduceLE, Int.reduceNeg, Int.reduceAdd, Int.reduceMul, Int.reduceSub, Int.reduceEq, reduceIte, reduceCtorEq, lit_eq, String.reduceEq, Ev.rEq, Ev.rNe, Ev.rInD, cut_toN, cut_fromN, List.map_take, List.forall_mem_cons, List.forall_mem_nil, List.not_mem_nil, false_imp_iff, implies_true, forall_const, D.cm, D.lay, D.lays, D.dep, D.deps, strOk_lit, lays_ints, deps_ints, Nat.max_self, Nat.max_zero, Nat.zero_max, Bool.and_self, Bool.true_and, Bool.and_true, Bool.and_false, Bool.false_and, Bool.or_false, Bool.or_true, Bool.true_or, Bool.false_or, List.any_cons, List.any_nil, decide_eq_true_eq, eq_self, $as,*] $[$l]?)
  | `(tactic| simp only [DSIMP] $[$l:location]?) => `(tactic| simp only [rNeE, rEL, List.isEmpty_nil, List.isEmpty_cons, gIx, rIsA, rIsS, kitS, kitS.optQB, D.cls, dHGet, dHPut, dBornK, penK_cells, penK_at, penK_left, penK_pat, penK_pleft, penK_len, ex_hpK, dOwnGet2, ownKs, dKpL, dNewKd, dKpLk, rDictPTf, dRaise1, dRaise0, excD, dTry, wTry, Ev.rIsE, Ev.rIsEt, D.xcN, dFldE, dCallVX, WP, exS_tab, dTakeN, dIxN, dKpNew, dKpPut, dKpIns, dKpApp, dKpFz, dRoK, dRoL, dNewK1, dIns, roK, dZipM, dNGet, dNPut, dNewN, isNo, Ev.nGet, Ev.nPut, D.nkey, b2n, rAddB, rSubB, rStrB, rEqE, dSrtSet, dOrX, truD, rDictX, dTupN, dSlN, rAddN, rSrtN, rTupleN, rDictN, dSlX, dRevX, dLenSetN, dEmptyV, rLtX, rMulX, Ev.rReprX, dPenS, gStarDL, dAug, dIndexE, dZipS, dGcIn, dGbIx, dGdIn, dGdIx, dListRg, rDictPf, dZipL, dListKo, dEmptyT, dDispT1, dNeE, rListA, rDictPT, rIsTF, dGroup, rSrtA, rLenA, dInV, dIxV, dCount, dSortKo, dCallR, adD, gL, dDN, dLN, wNest, bNest, bEl, bEd, dZip, seqOf, dSortDK, dCallV, dCallLam, optQ, dEnum, D.nf, D.nfs, Ev.rSumD, dLock, dKeysI, gStarD, dReverse, dMove, dDGet2, getD2, D.isD, dDisp, dPairs, keysD, Ev.rMaxD, Ev.rMinD, rDictP, Option.getD_some, Option.getD_none, Ev.D.eq_refl, dPen1, dLenSet, dSrtR, dRo, dRoF, dRoT, roD, ro_un, ro_dat, ro_own, ro_hp, ro_law, ro_ownK, ro_ownT, List.forall_mem_map, flat_int, flat_str, flat_bl, flat_non, solid_int, solid_str, solid_bl, solid_non, solid_tup, solids_nil, solids_cons, dSeq, dNext, dSet, dSetF, setSl, dVar, dTake, dC, dBin, dBinF, dB, dIfS, dIf, dRet, dRetN, dExpr, dNil, dCons, dTup, dLst, dFz, dAnd, dOr, dNot, dAndV, dOrV, dNotV, dCallD, dCallK, dCB, dCBF, dFor, dLC, dYes, dRng1, dRng2, dSeqI, gN, gT, gsNil, gsCons, dAsg, dNeg, dJoin, dFs, dJs, dFmt, dApp, dExt, dPop, dPopAt, dOwnIx, dOwnCB, dOwnL, dOwnR, dOwnSl, dSetIx, dSlT, dSlL, oNone, oSome, dBorn, optQ, ownAt, setOwnAt, lookAt, wipeD, dNewDT, dNewDK, dDGet, dDIn, dDPut, dSortT, rSrt, isDict, Ev.dictGet, Ev.dictPut, Option.isSome_none, Option.isSome_some, D.keyT, keysOf, D.key, exists_eq_left', exists_eq_left, Option.isSome, rRepL, rCatL, dRetF, dIfF, dPar, dRetOwn, dCallL, dCallLK, dPen2, dRev, dRevI, dIndex, endsL, startL, dNever, dBrk, dCnt, rAddD, rSubI, rIO, rMulI, rDivI, rModI, rPowI, rCI, Ev.rIxD, rIsN, rNotN, D.isN, Ev.rLen, rTuple, rList, rAbs, rInt, rStr, Ev.rRepr, Ev.rIsi, D.ty, kit_tab, startD, endsD, List.map_cons, List.map_nil, List.length_cons, List.length_nil, List.append_nil, List.nil_append, List.cons_append, List.getElem?_cons_zero, List.getElem?_cons_succ, List.getElem?_nil, List.set_cons_zero, List.set_cons_succ, List.replicate, List.replicate_succ, Nat.zero_add, Nat.zero_le, sizeLine, true_and, and_true, if_true, Ev.eq_int, Ev.eq_str, Ev.eq_bl, Ev.eq_non, lst_nil, tup_nil, List.map_eq_nil_iff, txt_join, rLt, rLe, rGt, rGe, atI_ofNat, atI_last, wLC, strsOf, intsOf, blsOf, Option.map_some, Ev.join_two, Ev.join_one, Ev.join_nil, List.sum_cons, List.sum_nil, PySem.Str.empty_append, ixN_ofNat, Option.some.injEq, exists_eq', List.length_map, decide_true, decide_false, Bool.not_true, Bool.not_false, Bool.true_eq_false, Bool.false_eq_true, false_and, and_false, if_false, ite_true, ite_false, Nat.reduceAdd, Nat.reduceSub, Nat.reduceMul, Nat.reduceLT, Nat.reduceLeDiff, Nat.reduceEqDiff, Nat.reducePow, Int.reduceToNat, Int.reducePow, pickL, List.filterMap_cons, List.filterMap_nil, and_self, Int.reduceLT, Int.reduceLE, Int.reduceNeg, Int.reduceAdd, Int.reduceMul, Int.reduceSub, Int.reduceEq, reduceIte, reduceCtorEq, lit_eq, String.reduceEq, Ev.rEq, Ev.rNe, Ev.rInD, cut_toN, cut_fromN, List.map_take, List.forall_mem_cons, List.forall_mem_nil, List.not_mem_nil, false_imp_iff, implies_true, forall_const, D.cm, D.lay, D.lays, D.dep, D.deps, strOk_lit, lays_ints, deps_ints, Nat.max_self, Nat.max_zero, Nat.zero_max, Bool.and_self, Bool.true_and, Bool.and_true, Bool.and_false, Bool.false_and, Bool.or_false, Bool.or_true, Bool.true_or, Bool.false_or, List.any_cons, List.any_nil, decide_eq_true_eq, eq_self] $[$l]?)
variable [TabC] [PkD]
local macro_rules
  | `(tactic| simp only [RD]) => `(tactic| repeat' first
  | exact rd_c | exact rd_var rfl | exact rd_nil | exact rd_emp | exact rd_no
  | apply rd_so | apply rd_sl | apply rd_revT | apply rd_listT
  | apply rd_cons | apply rd_tup | apply rd_lst | apply rd_fz | exact Nat.le_of_ble_eq_true rfl)
theorem turn_law {N : dEnds} {a : Addr} {c : Nat} {s0 s2 s3 s4 s5 s6 s7 s8 s9 s10 s11 s12 : Sl} (hc : c + 600 < 65536)
    (hN : ∀ s8 s9 s10 s11 s12 c2, c2 ≤ c + 500 → N.nx ⟨lwS s0 s2 s3 s4 s5 s6 s7 s8 s9 s10 s11 s12 a, some (a, c2)⟩) :
    b_law_x2_0 W0 N ⟨lwS s0 s2 s3 s4 s5 s6 s7 s8 s9 s10 s11 s12 a, some (a, c)⟩ := by
  unfold lwS at hN ⊢
  simp only [DSIMP, b_law_x2_0, p_law_x2_0, sp__law_rows_of]
  refine ⟨a, c, rfl, rfl, by omega, fun B c1 P G h1 => ?_⟩
  have gb := good_book P G
  have ls := book_ls P G
  have rl := P.len
  have pos := P.pos
  have hb : bookD (B.map (·.1)) = .tup (B.map fun x => rowD x.1) := by unfold bookD; rw [List.map_map]; rfl
  have hx : ∀ x ∈ B.map fun x => rowD x.1, ∃ (u v : D) (t : List D), x = .tup (u :: v :: t) := fun x hx => by
    obtain ⟨y, _, rfl⟩ := List.mem_map.mp hx
    exact ⟨_, _, _, rfl⟩
  rw [hb] at gb ⊢
  have rl2 : (B.map fun x => rowD x.1).length ≤ 10 := by rw [List.length_map]; exact rl
  have pos2 : 0 < (B.map fun x => rowD x.1).length := by rw [List.length_map]; exact pos
  generalize (B.map fun x => rowD x.1) = R at gb ls hx rl2 pos2 ⊢
  clear hb pos rl P G
  show dSeq p_law_x2_1 b_law_x2_2 W0 _ _
  refine go_setF (vs := [.tup R, .tup (Ev.cutD R none (some 1)), .tup (Ev.cutD R (some 1) none), .lst R, .tup R.reverse, .tup [.tup R], .tup [], .non, .lst [], .dT [], .int 0, .bl true, .str "book"]) (by simp only [RD]) ?_
  have lz : Ls great 7420 2 R := ls.mono (by decide) (Nat.le_refl _) (Nat.le_refl _)
  have fits : ∀ x ∈ ([.tup R, .tup (Ev.cutD R none (some 1)), .tup (Ev.cutD R (some 1) none), .lst R, .tup R.reverse, .tup [.tup R], .tup [], .non, .lst [], .dT [], .int 0, .bl true, .str "book"] : List D), Fit x := by
    have f : ∀ {n k : Nat} {d : D}, Es great n k d → n ≤ 500000 → k ≤ 60 → Fit d := fun h hn hk => h.fit (Nat.le_refl _) hn hk
    have r : ∀ x ∈ ([.tup [], .non, .lst [], .dT [], .int 0, .bl true, .str "book"] : List D), Es great 450 1 x := of_elB (by decide +kernel)
    refine fm_c (f lz.tup (by decide) (by decide)) (fm_c (f (lz.sub (cut_sub R _ _)).tup (by decide) (by decide)) (fm_c (f (lz.sub (cut_sub R _ _)).tup (by decide) (by decide)) (fm_c (f lz.lst (by decide) (by decide)) (fm_c (f lz.rev.tup (by decide) (by decide)) (fm_c (f (Ls.one lz.tup).tup (by decide) (by decide)) fun x hx => f (r x hx) (by decide) (by decide))))))
  have ln : ([.tup R, .tup (Ev.cutD R none (some 1)), .tup (Ev.cutD R (some 1) none), .lst R, .tup R.reverse, .tup [.tup R], .tup [], .non, .lst [], .dT [], .int 0, .bl true, .str "book"] : List D).length = 13 := rfl
  generalize ([.tup R, .tup (Ev.cutD R none (some 1)), .tup (Ev.cutD R (some 1) none), .lst R, .tup R.reverse, .tup [.tup R], .tup [], .non, .lst [], .dT [], .int 0, .bl true, .str "book"] : List D) = T at fits ln
  simp only [DSIMP, b_law_x2_2, p_law_x2_2]
  refine wLC_ind (fun ds acc δ => ∃ c' s10, c' + 10 * ds.length ≤ c1 + 80 ∧ acc.length + ds.length ≤ 8 ∧ (∀ x ∈ acc, Fit x) ∧ δ = ⟨[s0, .dat (.raw (.ref a)), s2, s3, s4, s5, s6, s7, .dat (.tup R), .dat (.lst T), s10, s11, s12], some (a, c')⟩) ?_ ?_ _ _ _ ⟨c1, _, by rw [intsFrom_len]; exact Nat.le_refl _, by rw [intsFrom_len]; exact Nat.le_refl _, fun _ h => (nomatch h), rfl⟩
  · rintro d ds acc _ k hk ⟨c', s10, h2, h3, h4, rfl⟩
    simp only [List.length_cons] at h2 h3
    simp only [DSIMP, sp__law_bent]
    refine ⟨a, c', big, 7425, 3, .tup R, rfl, rfl, by omega, ls.tup.mono (by decide) (Nat.le_refl _) (Nat.le_refl _), Nat.le_refl _, by decide, by decide, fun d' c'' hd hc' => ⟨by omega, hk _ _ ⟨c'', _, by omega, by simp only [List.length_append, List.length_cons, List.length_nil]; omega, ?_, rfl⟩⟩⟩
    intro x hx
    rcases List.mem_append.mp hx with hx | hx
    · exact h4 x hx
    · rw [List.mem_singleton] at hx
      subst hx
      exact hd.fit (by decide) (by decide) (by decide)
  rintro acc _ ⟨c2, s10', h2, h3, h4, rfl⟩
  simp only [DSIMP]
  have f2 : ∀ x ∈ T ++ acc, Fit x := fun x hx => (List.mem_append.mp hx).elim (fits x) (h4 x)
  have l2 : (T ++ acc).length ≤ 21 := by rw [List.length_append]; simp only [List.length_nil] at h3; omega
  refine ⟨by rw [List.length_append] at l2; omega, ?_⟩
  simp only [List.length_nil] at h2
  generalize T ++ acc = T2 at f2 l2
  clear fits ln h3 h4
  simp only [DSIMP, b_law_x2_3, p_law_x2_3]
  refine wFor_ind (fun ds δ => ∃ T2 c' s10, c' + 10 * ds.length ≤ c2 + 60 ∧ T2.length + ds.length ≤ 27 ∧ (∀ x ∈ T2, Fit x) ∧ δ = ⟨[s0, .dat (.raw (.ref a)), s2, s3, s4, s5, s6, s7, .dat (.tup R), .own T2, s10, s11, s12], some (a, c')⟩) ?_ ?_ _ _ ⟨T2, c2, _, by rw [intsFrom_len]; omega, by rw [intsFrom_len]; omega, f2, rfl⟩
  · rintro d ds _ kk hk ⟨T2, c', s10, h2, h3, h4, rfl⟩
    simp only [List.length_cons] at h2 h3
    simp only [DSIMP, b_law_f2, sp__law_mixed]
    refine ⟨a, c', R, rfl, rfl, by omega, pos2, rl2, hx, ls.mono (Nat.le_refl _) (by decide) (by decide), fun d' c'' hd hc' => ⟨by omega, hk _ ⟨T2 ++ [d'], c'', _, by omega, by simp only [List.length_append, List.length_cons, List.length_nil]; omega, ?_, rfl⟩⟩⟩
    intro x hx
    rcases List.mem_append.mp hx with hx | hx
    · exact h4 x hx
    · rw [List.mem_singleton] at hx
      subst hx
      exact hd.fit (by decide) (by decide) (by decide)
  rintro _ ⟨T3, c3, s10, h2, h3, h4, rfl⟩
  simp only [DSIMP, b_law_x2_4, p_law_x2_4]
  have hw : T3 = T3.map id := (List.map_id T3).symm
  simp only [List.length_nil] at h2 h3
  rw [hw]
  refine wLC_filt (l := T3) (ι := id) (f := id) (t := fun _ => false) (fun x hx acc k hz g1 g2 => ?_) (by rw [sizeLine_eq]; omega) ?_
  · simp only [DSIMP, sp__law_right]
    exact ⟨x, rfl, h4 x hx, g2 rfl⟩
  have fn : (T3.filter fun _ => false) = [] := List.filter_eq_nil_iff.mpr fun _ _ h => by cases h
  rw [fn]
  simp only [DSIMP, b_law_x2_5, p_law_x2_5, b_law_x2_5, sp_is_book, spLook]
  refine ⟨_, rfl, (lz.tup).ok, ?_⟩
  rw [gb]
  simp only [DSIMP]
  exact hN _ _ _ _ _ _ (by omega)
end Ev07
namespace Ev07
open PySem PySem.Spec PyProof.Rows L2 Ev Pt
local macro_rules
  | `(tactic| simp only [DSIMP, $as,*] $[$l:location]?) => `(tactic| simp only [rNeE, rEL, List.isEmpty_nil, List.isEmpty_cons, gIx, rIsA, rIsS, kitS, kitS.optQB, D.cls, dHGet, dHPut, dBornK, penK_cells, penK_at, penK_left, penK_pat, penK_pleft, penK_len, ex_hpK, dOwnGet2, ownKs, dKpL, dNewKd, dKpLk, rDictPTf, dRaise1, dRaise0, excD, dTry, wTry, Ev.rIsE, Ev.rIsEt, D.xcN, dFldE, dCallVX, WP, exS_tab, dTakeN, dIxN, dKpNew, dKpPut, dKpIns, dKpApp, dKpFz, dRoK, dRoL, dNewK1, dIns, roK, dZipM, dNGet, dNPut, dNewN, isNo, Ev.nGet, Ev.nPut, D.nkey, b2n, rAddB, rSubB, rStrB, rEqE, dSrtSet, dOrX, truD, rDictX, dTupN, dSlN, rAddN, rSrtN, rTupleN, rDictN, dSlX, dRevX, dLenSetN, dEmptyV, rLtX, rMulX, Ev.rReprX, dPenS, gStarDL, dAug, dIndexE, dZipS, dGcIn, dGbIx, dGdIn, dGdIx, dListRg, rDictPf, dZipL, dListKo, dEmptyT, dDispT1, dNeE, rListA, rDictPT, rIsTF, dGroup, rSrtA, rLenA, dInV, dIxV, dCount, dSortKo, dCallR, adD, gL, dDN, dLN, wNest, bNest, bEl, bEd, dZip, seqOf, dSortDK, dCallV, dCallLam, optQ, dEnum, D.nf, D.nfs, Ev.rSumD, dLock, dKeysI, gStarD, dReverse, dMove, dDGet2, getD2, D.isD, dDisp, dPairs, keysD, Ev.rMaxD, Ev.rMinD, rDictP, Option.getD_some, Option.getD_none, Ev.D.eq_refl, dPen1, dLenSet, dSrtR, dRo, dRoF, dRoT, roD, ro_un, ro_dat, ro_own, ro_hp, ro_law, ro_ownK, ro_ownT, List.forall_mem_map, flat_int, flat_str, flat_bl, flat_non, solid_int, solid_str, solid_bl, solid_non, solid_tup, solids_nil, solids_cons, dSeq, dNext, dSet, dSetF, setSl, dVar, dTake, dC, dBin, dBinF, dB, dIfS, dIf, dRet, dRetN, dExpr, dNil, dCons, dTup, dLst, dFz, dAnd, dOr, dNot, dAndV, dOrV, dNotV, dCallD, dCallK, dCB, dCBF, dFor, dLC, dYes, dRng1, dRng2, dSeqI, gN, gT, gsNil, gsCons, dAsg, dNeg, dJoin, dFs, dJs, dFmt, dApp, dExt, dPop, dPopAt, dOwnIx, dOwnCB, dOwnL, dOwnR, dOwnSl, dSetIx, dSlT, dSlL, oNone, oSome, dBorn, optQ, ownAt, setOwnAt, lookAt, wipeD, dNewDT, dNewDK, dDGet, dDIn, dDPut, dSortT, rSrt, isDict, Ev.dictGet, Ev.dictPut, Option.isSome_none, Option.isSome_some, D.keyT, keysOf, D.key, exists_eq_left', exists_eq_left, Option.isSome, rRepL, rCatL, dRetF, dIfF, dPar, dRetOwn, dCallL, dCallLK, dPen2, dRev, dRevI, dIndex, endsL, startL, dNever, dBrk, dCnt, rAddD, rSubI, rIO, rMulI, rDivI, rModI, rPowI, rCI, Ev.rIxD, rIsN, rNotN, D.isN, Ev.rLen, rTuple, rList, rAbs, rInt, rStr, Ev.rRepr, Ev.rIsi, D.ty, kit_tab, startD, endsD, List.map_cons, List.map_nil, List.length_cons, List.length_nil, List.append_nil, List.nil_append, List.cons_append, List.getElem?_cons_zero, List.getElem?_cons_succ, List.getElem?_nil, List.set_cons_zero, List.set_cons_succ, List.replicate, List.replicate_succ, Nat.zero_add, Nat.zero_le, sizeLine, true_and, and_true, if_true, Ev.eq_int, Ev.eq_str, Ev.eq_bl, Ev.eq_non, lst_nil, tup_nil, List.map_eq_nil_iff, txt_join, rLt, rLe, rGt, rGe, atI_ofNat, atI_last, wLC, strsOf, intsOf, blsOf, Option.map_some, Ev.join_two, Ev.join_one, Ev.join_nil, List.sum_cons, List.sum_nil, PySem.Str.empty_append, ixN_ofNat, Option.some.injEq, exists_eq', List.length_map, decide_true, decide_false, Bool.not_true, Bool.not_false, Bool.true_eq_false, Bool.false_eq_true, false_and, and_false, if_false, ite_true, ite_false, Nat.reduceAdd, Nat.reduceSub, Nat.reduceMul, Nat.reduceLT, Nat.reduceLeDiff, Nat.reduceEqDiff, Nat.reducePow, Int.reduceToNat, Int.reducePow, pickL, List.filterMap_cons, List.filterMap_nil, and_self, Int.reduceLT, Int.reduceLE, Int.reduceNeg, Int.reduceAdd, Int.reduceMul, Int.reduceSub, Int.reduceEq, reduceIte, reduceCtorEq, lit_eq, String.reduceEq, Ev.rEq, Ev.rNe, Ev.rInD, cut_toN, cut_fromN, List.map_take, List.forall_mem_cons, List.forall_mem_nil, List.not_mem_nil, false_imp_iff, implies_true, forall_const, D.cm, D.lay, D.lays, D.dep, D.deps, strOk_lit, lays_ints, deps_ints, Nat.max_self, Nat.max_zero, Nat.zero_max, Bool.and_self, Bool.true_and, Bool.and_true, Bool.and_false, Bool.false_and, Bool.or_false, Bool.or_true, Bool.true_or, Bool.false_or, List.any_cons, List.any_nil, decide_eq_true_eq, eq_self, $as,*] $[$l]?)
  | `(tactic| simp only [DSIMP] $[$l:location]?) => `(tactic| simp only [rNeE, rEL, List.isEmpty_nil, List.isEmpty_cons, gIx, rIsA, rIsS, kitS, kitS.optQB, D.cls, dHGet, dHPut, dBornK, penK_cells, penK_at, penK_left, penK_pat, penK_pleft, penK_len, ex_hpK, dOwnGet2, ownKs, dKpL, dNewKd, dKpLk, rDictPTf, dRaise1, dRaise0, excD, dTry, wTry, Ev.rIsE, Ev.rIsEt, D.xcN, dFldE, dCallVX, WP, exS_tab, dTakeN, dIxN, dKpNew, dKpPut, dKpIns, dKpApp, dKpFz, dRoK, dRoL, dNewK1, dIns, roK, dZipM, dNGet, dNPut, dNewN, isNo, Ev.nGet, Ev.nPut, D.nkey, b2n, rAddB, rSubB, rStrB, rEqE, dSrtSet, dOrX, truD, rDictX, dTupN, dSlN, rAddN, rSrtN, rTupleN, rDictN, dSlX, dRevX, dLenSetN, dEmptyV, rLtX, rMulX, Ev.rReprX, dPenS, gStarDL, dAug, dIndexE, dZipS, dGcIn, dGbIx, dGdIn, dGdIx, dListRg, rDictPf, dZipL, dListKo, dEmptyT, dDispT1, dNeE, rListA, rDictPT, rIsTF, dGroup, rSrtA, rLenA, dInV, dIxV, dCount, dSortKo, dCallR, adD, gL, dDN, dLN, wNest, bNest, bEl, bEd, dZip, seqOf, dSortDK, dCallV, dCallLam, optQ, dEnum, D.nf, D.nfs, Ev.rSumD, dLock, dKeysI, gStarD, dReverse, dMove, dDGet2, getD2, D.isD, dDisp, dPairs, keysD, Ev.rMaxD, Ev.rMinD, rDictP, Option.getD_some, Option.getD_none, Ev.D.eq_refl, dPen1, dLenSet, dSrtR, dRo, dRoF, dRoT, roD, ro_un, ro_dat, ro_own, ro_hp, ro_law, ro_ownK, ro_ownT, List.forall_mem_map, flat_int, flat_str, flat_bl, flat_non, solid_int, solid_str, solid_bl, solid_non, solid_tup, solids_nil, solids_cons, dSeq, dNext, dSet, dSetF, setSl, dVar, dTake, dC, dBin, dBinF, dB, dIfS, dIf, dRet, dRetN, dExpr, dNil, dCons, dTup, dLst, dFz, dAnd, dOr, dNot, dAndV, dOrV, dNotV, dCallD, dCallK, dCB, dCBF, dFor, dLC, dYes, dRng1, dRng2, dSeqI, gN, gT, gsNil, gsCons, dAsg, dNeg, dJoin, dFs, dJs, dFmt, dApp, dExt, dPop, dPopAt, dOwnIx, dOwnCB, dOwnL, dOwnR, dOwnSl, dSetIx, dSlT, dSlL, oNone, oSome, dBorn, optQ, ownAt, setOwnAt, lookAt, wipeD, dNewDT, dNewDK, dDGet, dDIn, dDPut, dSortT, rSrt, isDict, Ev.dictGet, Ev.dictPut, Option.isSome_none, Option.isSome_some, D.keyT, keysOf, D.key, exists_eq_left', exists_eq_left, Option.isSome, rRepL, rCatL, dRetF, dIfF, dPar, dRetOwn, dCallL, dCallLK, dPen2, dRev, dRevI, dIndex, endsL, startL, dNever, dBrk, dCnt, rAddD, rSubI, rIO, rMulI, rDivI, rModI, rPowI, rCI, Ev.rIxD, rIsN, rNotN, D.isN, Ev.rLen, rTuple, rList, rAbs, rInt, rStr, Ev.rRepr, Ev.rIsi, D.ty, kit_tab, startD, endsD, List.map_cons, List.map_nil, List.length_cons, List.length_nil, List.append_nil, List.nil_append, List.cons_append, List.getElem?_cons_zero, List.getElem?_cons_succ, List.getElem?_nil, List.set_cons_zero, List.set_cons_succ, List.replicate, List.replicate_succ, Nat.zero_add, Nat.zero_le, sizeLine, true_and, and_true, if_true, Ev.eq_int, Ev.eq_str, Ev.eq_bl, Ev.eq_non, lst_nil, tup_nil, List.map_eq_nil_iff, txt_join, rLt, rLe, rGt, rGe, atI_ofNat, atI_last, wLC, strsOf, intsOf, blsOf, Option.map_some, Ev.join_two, Ev.join_one, Ev.join_nil, List.sum_cons, List.sum_nil, PySem.Str.empty_append, ixN_ofNat, Option.some.injEq, exists_eq', List.length_map, decide_true, decide_false, Bool.not_true, Bool.not_false, Bool.true_eq_false, Bool.false_eq_true, false_and, and_false, if_false, ite_true, ite_false, Nat.reduceAdd, Nat.reduceSub, Nat.reduceMul, Nat.reduceLT, Nat.reduceLeDiff, Nat.reduceEqDiff, Nat.reducePow, Int.reduceToNat, Int.reducePow, pickL, List.filterMap_cons, List.filterMap_nil, and_self, Int.reduceLT, Int.reduceLE, Int.reduceNeg, Int.reduceAdd, Int.reduceMul, Int.reduceSub, Int.reduceEq, reduceIte, reduceCtorEq, lit_eq, String.reduceEq, Ev.rEq, Ev.rNe, Ev.rInD, cut_toN, cut_fromN, List.map_take, List.forall_mem_cons, List.forall_mem_nil, List.not_mem_nil, false_imp_iff, implies_true, forall_const, D.cm, D.lay, D.lays, D.dep, D.deps, strOk_lit, lays_ints, deps_ints, Nat.max_self, Nat.max_zero, Nat.zero_max, Bool.and_self, Bool.true_and, Bool.and_true, Bool.and_false, Bool.false_and, Bool.or_false, Bool.or_true, Bool.true_or, Bool.false_or, List.any_cons, List.any_nil, decide_eq_true_eq, eq_self] $[$l]?)
variable [TabC] [PkD]
local macro_rules
  | `(tactic| simp only [RD]) => `(tactic| repeat' first
  | exact rd_c | exact rd_var rfl | exact rd_nil | exact rd_emp | exact rd_no
  | apply rd_so | apply rd_sl | apply rd_revT | apply rd_listT
  | apply rd_cons | apply rd_tup | apply rd_lst | apply rd_fz | exact Nat.le_of_ble_eq_true rfl)
theorem rd_tupL {δ : DS} {a : dE} {ds : List D} (ha : RdE δ a (.lst ds)) : RdE δ (dCB rTuple (dCons a dNil)) (.tup ds) := fun Q q => ha _ q
theorem six_law {N : dEnds} {u : dS} {X : dE} {δ : DS} {A E : D} (h6 : δ.sl[6]? = some (.dat A)) (hX : RdE δ X E) (a1 : bookB A = false) (a2 : okN great A = true) (a3 : bookB E = false) (a4 : okN great E = true) (q : u W0 N δ) :
    dSeq (dIfS (dOr (dB (dBin (rIsTF true) (dCallD 1 [] sp_is_book (dCons (dVar 6) dNil)) (dC (.bl false)))) (dB (dBin (rIsTF true) (dCallD 1 [] sp_is_book (dCons X dNil)) (dC (.bl false))))) (dRet (dC (.bl false))) dNext) u W0 N δ := by
  unfold dSeq dIfS dOr dB dBin dCallD dCons dVar dNil
  rw [h6]
  refine ⟨rfl, A, rfl, a2, ?_⟩
  rw [a1]
  refine hX _ ⟨rfl, E, rfl, a4, ?_⟩
  rw [a3]
  exact q
theorem hsp_law : ∀ ds p Q W, ds.length = 1 → sp_law ds p Q W → b_law W0 (endsD Q) (startD n_law.length ds p) := by
  rintro _ _ Q W - ⟨ns, rfl, hl, rfl, q⟩
  simp only [DSIMP, n_law, b_law, b_law_0, p_law_0, b_law_1, p_law_1, sp__law_pen]
  refine ⟨ns, rfl, hl, fun a => ?_⟩
  show dSeq p_law_2 b_law_3 W0 _ _
  refine go_set (v := .lst chL) (rd_fz (rd_cat (rd_fz (rd_lst (rd_cons (rd_var rfl) rd_nil) (by decide))) (rd_fz (rd_rng9 (f := chD) rfl (fun i => fun Q q => ?_) (fun i => rfl))) (by decide))) ?_
  · simp only [DSIMP]
    exact q
  show dSeq p_law_3 b_law_4 W0 _ _
  refine go_set (v := .lst bsL) (rd_fz (rd_cat (rd_fz (rd_lst (rd_cons (rd_var rfl) rd_nil) (by decide))) (rd_fz (rd_rng9 (f := bsD) rfl (fun i => fun Q q => ?_) (fun i => rfl))) (by decide))) ?_
  · simp only [DSIMP]
    exact q
  have i1 : atI bsL 1 = some (bsD 1) := by rfl
  have i2 : atI bsL 2 = some (bsD 2) := by rfl
  have tc := ten_ch
  obtain ⟨a1, a2, a3, a4⟩ := apart_no
  have ln : bsL.length = 10 := rfl
  unfold apartD at a1 a2
  unfold elevenD at a3 a4
  generalize chL = CH at *
  generalize bsL = BS at *
  show dSeq p_law_4 b_law_5 W0 _ _
  refine ⟨by decide, ?_⟩
  rw [rng10]
  show wFor _ _ _ _ _ ⟨lwS (.dat (.scr ns)) (.dat scrD) (.dat (.lst CH)) (.dat (.lst BS)) .un .un .un .un .un .un .un .un a, some (a, 0)⟩
  refine wFor_ind (fun ds δ => ∃ (l : List Nat) (s5 s11 : Sl), ds = l.map (fun (i : Nat) => D.int (i : Int)) ∧ (∀ i ∈ l, i ∈ ([1, 2, 3, 4, 5, 6, 7, 8, 9, 10] : List Nat)) ∧ δ = ⟨lwS (.dat (.scr ns)) (.dat scrD) (.dat (.lst CH)) (.dat (.lst BS)) s5 .un .un .un .un .un s11 .un a, some (a, 0)⟩) ?_ ?_ _ _ ⟨_, _, _, rfl, fun _ h => h, rfl⟩
  · rintro d ds _ kk hk ⟨l, s5, s11, el, hm, rfl⟩
    cases l with
    | nil => cases el
    | cons i l =>
      cases el
      have t := turn_size (N := { nx := kk, rt := (endsD Q).rt, bk := fun δ' => b_law_5 W0 (endsD Q) δ', ct := kk, rl := (endsD Q).rl }) (s0 := .dat (.scr ns)) (s2 := .dat scrD) (s5 := .un) (s6 := .un) (s7 := .un) (s8 := .un) (s9 := .un) (s10 := .un) (s11 := s11) (s12 := .un) (a := a) (pe := some (a, 0)) (CH := CH) (BS := BS) (tc i (hm i List.mem_cons_self)) fun s11 => hk _ ⟨l, _, s11, rfl, fun x hx => hm x (List.mem_cons_of_mem _ hx), rfl⟩
      unfold lwS at t ⊢
      simp only [DSIMP]
      exact t
  rintro _ ⟨l, s5, s11, _, _, rfl⟩
  unfold lwS
  show dSeq p_law_5 b_law_6 W0 (endsD Q) ⟨[.dat (.scr ns), .dat (.raw (.ref a)), .dat scrD, .dat (.lst CH), .dat (.lst BS), s5, .un, .un, .un, .un, .un, s11, .un], some (a, 0)⟩
  refine go_set (v := .tup [scrD, bsD 1, bsD 2, .tup [.int 3, .int 1, .tup [.int 0, .int 0, .int 1, .int 1], .bl true, .int 1]]) (rd_tup (rd_cons (rd_var rfl) (rd_cons (rd_ixL (rd_var rfl) rd_c i1) (rd_cons (rd_ixL (rd_var rfl) rd_c i2) (rd_cons ?_ rd_nil)))) (by decide)) ?_
  · simp only [RD]
  show dSeq p_law_6 b_law_7 W0 _ _
  refine six_law rfl (rd_tupL (rd_fz (rd_cat (rd_var rfl) (rd_fz (vs := [.tup [.int 9, .int 0, .tup [.int 0, .int 0, .int 1, .int 1], .bl true, .int 1]]) ?_) (by rw [ln]; decide)))) a1 a2 a3 a4 ?_
  · simp only [RD]
  show dSeq p_law_7 b_law_8 W0 (endsD Q) ⟨[.dat (.scr ns), .dat (.raw (.ref a)), .dat scrD, .dat (.lst CH), .dat (.lst BS), s5, .dat (.tup [scrD, bsD 1, bsD 2, .tup [.int 3, .int 1, .tup [.int 0, .int 0, .int 1, .int 1], .bl true, .int 1]]), .un, .un, .un, .un, s11, .un], some (a, 0)⟩
  generalize Sl.dat (.tup [scrD, bsD 1, bsD 2, .tup [.int 3, .int 1, .tup [.int 0, .int 0, .int 1, .int 1], .bl true, .int 1]]) = s6
  generalize Sl.dat scrD = s2
  simp only [DSIMP, b_law_7, p_law_7]
  refine wFor_ind (fun ds δ => ∃ s7 s8 s9 s10 s11 s12 c', c' + 500 * ds.length ≤ 1500 ∧ δ = ⟨lwS (.dat (.scr ns)) s2 (.dat (.lst CH)) (.dat (.lst BS)) s5 s6 s7 s8 s9 s10 s11 s12 a, some (a, c')⟩) ?_ ?_ _ _ ⟨_, _, _, _, _, _, 0, by rw [intsFrom_len]; decide, rfl⟩
  · rintro d ds _ kk hk ⟨s7, s8, s9, s10, s11, s12, c', hc', rfl⟩
    simp only [List.length_cons] at hc'
    have t := turn_law (N := { (endsD Q) with nx := kk, ct := kk, bk := fun δ' => b_law_8 W0 (endsD Q) δ' }) (s0 := .dat (.scr ns)) (s2 := s2) (s3 := .dat (.lst CH)) (s4 := .dat (.lst BS)) (s5 := s5) (s6 := s6) (s7 := .dat d) (s8 := s8) (s9 := s9) (s10 := s10) (s11 := s11) (s12 := s12) (a := a) (c := c') (by omega) fun s8 s9 s10 s11 s12 c2 h2 => hk _ ⟨_, s8, s9, s10, s11, s12, c2, by omega, rfl⟩
    unfold lwS at t ⊢
    simp only [DSIMP]
    exact t
  rintro _ ⟨s7, s8, s9, s10, s11, s12, c', _, rfl⟩
  unfold lwS
  simp only [DSIMP, b_law_8, p_law_8, b_law_8]
  exact q _
theorem ok_law {P : Program} {w : World} {K : PySem.W.Frag} {mg : Str → Option Value} {base : Heap} (m_list : mg "list" = none) (m_range : mg "range" = none) (m_tuple : mg "tuple" = none) (K__law_bent_3 : Def P w K mg base 7 "_law_bent" 3 (sp__law_bent 4) []) (K__law_mixed_2 : Def P w K mg base 2 "_law_mixed" 2 sp__law_mixed []) (K__law_pen_1 : Def P w K mg base 1 "_law_pen" 1 sp__law_pen []) (K__law_right_1 : Def P w K mg base 5 "_law_right" 1 sp__law_right []) (K__law_rows_of_2 : Def P w K mg base 3 "_law_rows_of" 2 sp__law_rows_of []) (K_is_book_1 : Def P w K mg base 4 "is_book" 1 sp_is_book []) {f : Addr} {fd : FuncData} (F : Fun K "law" "law" s_law f fd) : FnG P w K mg base CX0 8 f fd ["_law_script"] (spD K 1 sp_law) :=
 fn_d0 F sc_law rfl (fun cdv A out s H E g r => run_law m_list m_range m_tuple K__law_bent_3 K__law_mixed_2 K__law_pen_1 K__law_right_1 K__law_rows_of_2 K_is_book_1 cdv A out s H E g r) hsp_law
end Ev07
namespace Ev07
open PySem PySem.Spec PyProof.Rows L2 Ev Pt
local macro_rules
  | `(tactic| simp only [DSIMP, $as,*] $[$l:location]?) => `(tactic| simp only [rNeE, rEL, List.isEmpty_nil, List.isEmpty_cons, gIx, rIsA, rIsS, kitS, kitS.optQB, D.cls, dHGet, dHPut, dBornK, penK_cells, penK_at, penK_left, penK_pat, penK_pleft, penK_len, ex_hpK, dOwnGet2, ownKs, dKpL, dNewKd, dKpLk, rDictPTf, dRaise1, dRaise0, excD, dTry, wTry, Ev.rIsE, Ev.rIsEt, D.xcN, dFldE, dCallVX, WP, exS_tab, dTakeN, dIxN, dKpNew, dKpPut, dKpIns, dKpApp, dKpFz, dRoK, dRoL, dNewK1, dIns, roK, dZipM, dNGet, dNPut, dNewN, isNo, Ev.nGet, Ev.nPut, D.nkey, b2n, rAddB, rSubB, rStrB, rEqE, dSrtSet, dOrX, truD, rDictX, dTupN, dSlN, rAddN, rSrtN, rTupleN, rDictN, dSlX, dRevX, dLenSetN, dEmptyV, rLtX, rMulX, Ev.rReprX, dPenS, gStarDL, dAug, dIndexE, dZipS, dGcIn, dGbIx, dGdIn, dGdIx, dListRg, rDictPf, dZipL, dListKo, dEmptyT, dDispT1, dNeE, rListA, rDictPT, rIsTF, dGroup, rSrtA, rLenA, dInV, dIxV, dCount, dSortKo, dCallR, adD, gL, dDN, dLN, wNest, bNest, bEl, bEd, dZip, seqOf, dSortDK, dCallV, dCallLam, optQ, dEnum, D.nf, D.nfs, Ev.rSumD, dLock, dKeysI, gStarD, dReverse, dMove, dDGet2, getD2, D.isD, dDisp, dPairs, keysD, Ev.rMaxD, Ev.rMinD, rDictP, Option.getD_some, Option.getD_none, Ev.D.eq_refl, dPen1, dLenSet, dSrtR, dRo, dRoF, dRoT, roD, ro_un, ro_dat, ro_own, ro_hp, ro_law, ro_ownK, ro_ownT, List.forall_mem_map, flat_int, flat_str, flat_bl, flat_non, solid_int, solid_str, solid_bl, solid_non, solid_tup, solids_nil, solids_cons, dSeq, dNext, dSet, dSetF, setSl, dVar, dTake, dC, dBin, dBinF, dB, dIfS, dIf, dRet, dRetN, dExpr, dNil, dCons, dTup, dLst, dFz, dAnd, dOr, dNot, dAndV, dOrV, dNotV, dCallD, dCallK, dCB, dCBF, dFor, dLC, dYes, dRng1, dRng2, dSeqI, gN, gT, gsNil, gsCons, dAsg, dNeg, dJoin, dFs, dJs, dFmt, dApp, dExt, dPop, dPopAt, dOwnIx, dOwnCB, dOwnL, dOwnR, dOwnSl, dSetIx, dSlT, dSlL, oNone, oSome, dBorn, optQ, ownAt, setOwnAt, lookAt, wipeD, dNewDT, dNewDK, dDGet, dDIn, dDPut, dSortT, rSrt, isDict, Ev.dictGet, Ev.dictPut, Option.isSome_none, Option.isSome_some, D.keyT, keysOf, D.key, exists_eq_left', exists_eq_left, Option.isSome, rRepL, rCatL, dRetF, dIfF, dPar, dRetOwn, dCallL, dCallLK, dPen2, dRev, dRevI, dIndex, endsL, startL, dNever, dBrk, dCnt, rAddD, rSubI, rIO, rMulI, rDivI, rModI, rPowI, rCI, Ev.rIxD, rIsN, rNotN, D.isN, Ev.rLen, rTuple, rList, rAbs, rInt, rStr, Ev.rRepr, Ev.rIsi, D.ty, kit_tab, startD, endsD, List.map_cons, List.map_nil, List.length_cons, List.length_nil, List.append_nil, List.nil_append, List.cons_append, List.getElem?_cons_zero, List.getElem?_cons_succ, List.getElem?_nil, List.set_cons_zero, List.set_cons_succ, List.replicate, List.replicate_succ, Nat.zero_add, Nat.zero_le, sizeLine, true_and, and_true, if_true, Ev.eq_int, Ev.eq_str, Ev.eq_bl, Ev.eq_non, lst_nil, tup_nil, List.map_eq_nil_iff, txt_join, rLt, rLe, rGt, rGe, atI_ofNat, atI_last, wLC, strsOf, intsOf, blsOf, Option.map_some, Ev.join_two, Ev.join_one, Ev.join_nil, List.sum_cons, List.sum_nil, PySem.Str.empty_append, ixN_ofNat, Option.some.injEq, exists_eq', List.length_map, decide_true, decide_false, Bool.not_true, Bool.not_false, Bool.true_eq_false, Bool.false_eq_true, false_and, and_false, if_false, ite_true, ite_false, Nat.reduceAdd, Nat.reduceSub, Nat.reduceMul, Nat.reduceLT, Nat.reduceLeDiff, Nat.reduceEqDiff, Nat.reducePow, Int.reduceToNat, Int.reducePow, pickL, List.filterMap_cons, List.filterMap_nil, and_self, Int.reduceLT, Int.reduceLE, Int.reduceNeg, Int.reduceAdd, Int.reduceMul, Int.reduceSub, Int.reduceEq, reduceIte, reduceCtorEq, lit_eq, String.reduceEq, Ev.rEq, Ev.rNe, Ev.rInD, cut_toN, cut_fromN, List.map_take, List.forall_mem_cons, List.forall_mem_nil, List.not_mem_nil, false_imp_iff, implies_true, forall_const, D.cm, D.lay, D.lays, D.dep, D.deps, strOk_lit, lays_ints, deps_ints, Nat.max_self, Nat.max_zero, Nat.zero_max, Bool.and_self, Bool.true_and, Bool.and_true, Bool.and_false, Bool.false_and, Bool.or_false, Bool.or_true, Bool.true_or, Bool.false_or, List.any_cons, List.any_nil, decide_eq_true_eq, eq_self, $as,*] $[$l]?)
  | `(tactic| simp only [DSIMP] $[$l:location]?) => `(tactic| simp only [rNeE, rEL, List.isEmpty_nil, List.isEmpty_cons, gIx, rIsA, rIsS, kitS, kitS.optQB, D.cls, dHGet, dHPut, dBornK, penK_cells, penK_at, penK_left, penK_pat, penK_pleft, penK_len, ex_hpK, dOwnGet2, ownKs, dKpL, dNewKd, dKpLk, rDictPTf, dRaise1, dRaise0, excD, dTry, wTry, Ev.rIsE, Ev.rIsEt, D.xcN, dFldE, dCallVX, WP, exS_tab, dTakeN, dIxN, dKpNew, dKpPut, dKpIns, dKpApp, dKpFz, dRoK, dRoL, dNewK1, dIns, roK, dZipM, dNGet, dNPut, dNewN, isNo, Ev.nGet, Ev.nPut, D.nkey, b2n, rAddB, rSubB, rStrB, rEqE, dSrtSet, dOrX, truD, rDictX, dTupN, dSlN, rAddN, rSrtN, rTupleN, rDictN, dSlX, dRevX, dLenSetN, dEmptyV, rLtX, rMulX, Ev.rReprX, dPenS, gStarDL, dAug, dIndexE, dZipS, dGcIn, dGbIx, dGdIn, dGdIx, dListRg, rDictPf, dZipL, dListKo, dEmptyT, dDispT1, dNeE, rListA, rDictPT, rIsTF, dGroup, rSrtA, rLenA, dInV, dIxV, dCount, dSortKo, dCallR, adD, gL, dDN, dLN, wNest, bNest, bEl, bEd, dZip, seqOf, dSortDK, dCallV, dCallLam, optQ, dEnum, D.nf, D.nfs, Ev.rSumD, dLock, dKeysI, gStarD, dReverse, dMove, dDGet2, getD2, D.isD, dDisp, dPairs, keysD, Ev.rMaxD, Ev.rMinD, rDictP, Option.getD_some, Option.getD_none, Ev.D.eq_refl, dPen1, dLenSet, dSrtR, dRo, dRoF, dRoT, roD, ro_un, ro_dat, ro_own, ro_hp, ro_law, ro_ownK, ro_ownT, List.forall_mem_map, flat_int, flat_str, flat_bl, flat_non, solid_int, solid_str, solid_bl, solid_non, solid_tup, solids_nil, solids_cons, dSeq, dNext, dSet, dSetF, setSl, dVar, dTake, dC, dBin, dBinF, dB, dIfS, dIf, dRet, dRetN, dExpr, dNil, dCons, dTup, dLst, dFz, dAnd, dOr, dNot, dAndV, dOrV, dNotV, dCallD, dCallK, dCB, dCBF, dFor, dLC, dYes, dRng1, dRng2, dSeqI, gN, gT, gsNil, gsCons, dAsg, dNeg, dJoin, dFs, dJs, dFmt, dApp, dExt, dPop, dPopAt, dOwnIx, dOwnCB, dOwnL, dOwnR, dOwnSl, dSetIx, dSlT, dSlL, oNone, oSome, dBorn, optQ, ownAt, setOwnAt, lookAt, wipeD, dNewDT, dNewDK, dDGet, dDIn, dDPut, dSortT, rSrt, isDict, Ev.dictGet, Ev.dictPut, Option.isSome_none, Option.isSome_some, D.keyT, keysOf, D.key, exists_eq_left', exists_eq_left, Option.isSome, rRepL, rCatL, dRetF, dIfF, dPar, dRetOwn, dCallL, dCallLK, dPen2, dRev, dRevI, dIndex, endsL, startL, dNever, dBrk, dCnt, rAddD, rSubI, rIO, rMulI, rDivI, rModI, rPowI, rCI, Ev.rIxD, rIsN, rNotN, D.isN, Ev.rLen, rTuple, rList, rAbs, rInt, rStr, Ev.rRepr, Ev.rIsi, D.ty, kit_tab, startD, endsD, List.map_cons, List.map_nil, List.length_cons, List.length_nil, List.append_nil, List.nil_append, List.cons_append, List.getElem?_cons_zero, List.getElem?_cons_succ, List.getElem?_nil, List.set_cons_zero, List.set_cons_succ, List.replicate, List.replicate_succ, Nat.zero_add, Nat.zero_le, sizeLine, true_and, and_true, if_true, Ev.eq_int, Ev.eq_str, Ev.eq_bl, Ev.eq_non, lst_nil, tup_nil, List.map_eq_nil_iff, txt_join, rLt, rLe, rGt, rGe, atI_ofNat, atI_last, wLC, strsOf, intsOf, blsOf, Option.map_some, Ev.join_two, Ev.join_one, Ev.join_nil, List.sum_cons, List.sum_nil, PySem.Str.empty_append, ixN_ofNat, Option.some.injEq, exists_eq', List.length_map, decide_true, decide_false, Bool.not_true, Bool.not_false, Bool.true_eq_false, Bool.false_eq_true, false_and, and_false, if_false, ite_true, ite_false, Nat.reduceAdd, Nat.reduceSub, Nat.reduceMul, Nat.reduceLT, Nat.reduceLeDiff, Nat.reduceEqDiff, Nat.reducePow, Int.reduceToNat, Int.reducePow, pickL, List.filterMap_cons, List.filterMap_nil, and_self, Int.reduceLT, Int.reduceLE, Int.reduceNeg, Int.reduceAdd, Int.reduceMul, Int.reduceSub, Int.reduceEq, reduceIte, reduceCtorEq, lit_eq, String.reduceEq, Ev.rEq, Ev.rNe, Ev.rInD, cut_toN, cut_fromN, List.map_take, List.forall_mem_cons, List.forall_mem_nil, List.not_mem_nil, false_imp_iff, implies_true, forall_const, D.cm, D.lay, D.lays, D.dep, D.deps, strOk_lit, lays_ints, deps_ints, Nat.max_self, Nat.max_zero, Nat.zero_max, Bool.and_self, Bool.true_and, Bool.and_true, Bool.and_false, Bool.false_and, Bool.or_false, Bool.or_true, Bool.true_or, Bool.false_or, List.any_cons, List.any_nil, decide_eq_true_eq, eq_self] $[$l]?)
variable [TabC] [PkD]
end Ev07
namespace Ev07
open PySem PySem.Spec PyProof.Rows L2 Ev
theorem all_mk {l : PySem.W.OpenLaw} {ts : List Addr} {w : World} {K : PySem.W.Frag} {h : Heap} {mg : Str → Option Value} {fa a__law_pen a__law_take a__law_box a__law_end a__law_pick a__law_deep a__law_rows_of a_do_stand a_is_from_to a_is_place a_is_screen a_is_row a_is_book a__law_odd a__law_bent a__law_mixed a__law_whole a__law_is_box a__law_is_book a__law_right a_law : Addr} (X : K.In h) (G : h.Ns mainGlobals mg) (hfa : mg "law" = some (.ref fa))
 {od__law_pen an__law_pen : Option Addr} {sl__law_pen : Array (Option Value)} {oc__law_pen kV__law_pen dc__law_pen pm__law_pen cd__law_pen ct__law_pen : Value}
 (n__law_pen_ : PySem.W.nsIn K mainGlobals "_law_pen" = some (some (.ref a__law_pen))) (l__law_pen : K.lookup a__law_pen = some ⟨oc__law_pen, od__law_pen, .func (PySem.W.fnOf "_law_pen" "_law_pen" (defArgs s__law_pen) (defBody s__law_pen) (defScope s__law_pen) .none kV__law_pen dc__law_pen pm__law_pen an__law_pen cd__law_pen ct__law_pen), sl__law_pen⟩) (c__law_pen : PySem.W.codeIn K cd__law_pen "_law_pen" = true) (k__law_pen : PySem.W.keepIn K (.ref a__law_pen) = true)
 {od__law_take an__law_take : Option Addr} {sl__law_take : Array (Option Value)} {oc__law_take kV__law_take dc__law_take pm__law_take cd__law_take ct__law_take : Value}
 (n__law_take_ : PySem.W.nsIn K mainGlobals "_law_take" = some (some (.ref a__law_take))) (l__law_take : K.lookup a__law_take = some ⟨oc__law_take, od__law_take, .func (PySem.W.fnOf "_law_take" "_law_take" (defArgs s__law_take) (defBody s__law_take) (defScope s__law_take) .none kV__law_take dc__law_take pm__law_take an__law_take cd__law_take ct__law_take), sl__law_take⟩) (c__law_take : PySem.W.codeIn K cd__law_take "_law_take" = true) (k__law_take : PySem.W.keepIn K (.ref a__law_take) = true)
 {od__law_box an__law_box : Option Addr} {sl__law_box : Array (Option Value)} {oc__law_box kV__law_box dc__law_box pm__law_box cd__law_box ct__law_box : Value}
 (n__law_box_ : PySem.W.nsIn K mainGlobals "_law_box" = some (some (.ref a__law_box))) (l__law_box : K.lookup a__law_box = some ⟨oc__law_box, od__law_box, .func (PySem.W.fnOf "_law_box" "_law_box" (defArgs s__law_box) (defBody s__law_box) (defScope s__law_box) .none kV__law_box dc__law_box pm__law_box an__law_box cd__law_box ct__law_box), sl__law_box⟩) (c__law_box : PySem.W.codeIn K cd__law_box "_law_box" = true) (k__law_box : PySem.W.keepIn K (.ref a__law_box) = true)
 {od__law_end an__law_end : Option Addr} {sl__law_end : Array (Option Value)} {oc__law_end kV__law_end dc__law_end pm__law_end cd__law_end ct__law_end : Value}
 (n__law_end_ : PySem.W.nsIn K mainGlobals "_law_end" = some (some (.ref a__law_end))) (l__law_end : K.lookup a__law_end = some ⟨oc__law_end, od__law_end, .func (PySem.W.fnOf "_law_end" "_law_end" (defArgs s__law_end) (defBody s__law_end) (defScope s__law_end) .none kV__law_end dc__law_end pm__law_end an__law_end cd__law_end ct__law_end), sl__law_end⟩) (c__law_end : PySem.W.codeIn K cd__law_end "_law_end" = true) (k__law_end : PySem.W.keepIn K (.ref a__law_end) = true)
 {od__law_pick an__law_pick : Option Addr} {sl__law_pick : Array (Option Value)} {oc__law_pick kV__law_pick dc__law_pick pm__law_pick cd__law_pick ct__law_pick : Value}
 (n__law_pick_ : PySem.W.nsIn K mainGlobals "_law_pick" = some (some (.ref a__law_pick))) (l__law_pick : K.lookup a__law_pick = some ⟨oc__law_pick, od__law_pick, .func (PySem.W.fnOf "_law_pick" "_law_pick" (defArgs s__law_pick) (defBody s__law_pick) (defScope s__law_pick) .none kV__law_pick dc__law_pick pm__law_pick an__law_pick cd__law_pick ct__law_pick), sl__law_pick⟩) (c__law_pick : PySem.W.codeIn K cd__law_pick "_law_pick" = true) (k__law_pick : PySem.W.keepIn K (.ref a__law_pick) = true)
 {od__law_deep an__law_deep : Option Addr} {sl__law_deep : Array (Option Value)} {oc__law_deep kV__law_deep dc__law_deep pm__law_deep cd__law_deep ct__law_deep : Value}
 (n__law_deep_ : PySem.W.nsIn K mainGlobals "_law_deep" = some (some (.ref a__law_deep))) (l__law_deep : K.lookup a__law_deep = some ⟨oc__law_deep, od__law_deep, .func (PySem.W.fnOf "_law_deep" "_law_deep" (defArgs s__law_deep) (defBody s__law_deep) (defScope s__law_deep) .none kV__law_deep dc__law_deep pm__law_deep an__law_deep cd__law_deep ct__law_deep), sl__law_deep⟩) (c__law_deep : PySem.W.codeIn K cd__law_deep "_law_deep" = true) (k__law_deep : PySem.W.keepIn K (.ref a__law_deep) = true)
 {od__law_rows_of an__law_rows_of : Option Addr} {sl__law_rows_of : Array (Option Value)} {oc__law_rows_of kV__law_rows_of dc__law_rows_of pm__law_rows_of cd__law_rows_of ct__law_rows_of : Value}
 (n__law_rows_of_ : PySem.W.nsIn K mainGlobals "_law_rows_of" = some (some (.ref a__law_rows_of))) (l__law_rows_of : K.lookup a__law_rows_of = some ⟨oc__law_rows_of, od__law_rows_of, .func (PySem.W.fnOf "_law_rows_of" "_law_rows_of" (defArgs s__law_rows_of) (defBody s__law_rows_of) (defScope s__law_rows_of) .none kV__law_rows_of dc__law_rows_of pm__law_rows_of an__law_rows_of cd__law_rows_of ct__law_rows_of), sl__law_rows_of⟩) (c__law_rows_of : PySem.W.codeIn K cd__law_rows_of "_law_rows_of" = true) (k__law_rows_of : PySem.W.keepIn K (.ref a__law_rows_of) = true)
 {od_do_stand an_do_stand : Option Addr} {sl_do_stand : Array (Option Value)} {oc_do_stand kV_do_stand dc_do_stand pm_do_stand cd_do_stand ct_do_stand : Value}
 (n_do_stand_ : PySem.W.nsIn K mainGlobals "do_stand" = some (some (.ref a_do_stand))) (l_do_stand : K.lookup a_do_stand = some ⟨oc_do_stand, od_do_stand, .func (PySem.W.fnOf "do_stand" "do_stand" (defArgs s_do_stand) (defBody s_do_stand) (defScope s_do_stand) .none kV_do_stand dc_do_stand pm_do_stand an_do_stand cd_do_stand ct_do_stand), sl_do_stand⟩) (c_do_stand : PySem.W.codeIn K cd_do_stand "do_stand" = true) (k_do_stand : PySem.W.keepIn K (.ref a_do_stand) = true)
 {od_is_from_to an_is_from_to : Option Addr} {sl_is_from_to : Array (Option Value)} {oc_is_from_to kV_is_from_to dc_is_from_to pm_is_from_to cd_is_from_to ct_is_from_to : Value}
 (n_is_from_to_ : PySem.W.nsIn K mainGlobals "is_from_to" = some (some (.ref a_is_from_to))) (l_is_from_to : K.lookup a_is_from_to = some ⟨oc_is_from_to, od_is_from_to, .func (PySem.W.fnOf "is_from_to" "is_from_to" (defArgs s_is_from_to) (defBody s_is_from_to) (defScope s_is_from_to) .none kV_is_from_to dc_is_from_to pm_is_from_to an_is_from_to cd_is_from_to ct_is_from_to), sl_is_from_to⟩) (c_is_from_to : PySem.W.codeIn K cd_is_from_to "is_from_to" = true) (k_is_from_to : PySem.W.keepIn K (.ref a_is_from_to) = true)
 {od_is_place an_is_place : Option Addr} {sl_is_place : Array (Option Value)} {oc_is_place kV_is_place dc_is_place pm_is_place cd_is_place ct_is_place : Value}
 (n_is_place_ : PySem.W.nsIn K mainGlobals "is_place" = some (some (.ref a_is_place))) (l_is_place : K.lookup a_is_place = some ⟨oc_is_place, od_is_place, .func (PySem.W.fnOf "is_place" "is_place" (defArgs s_is_place) (defBody s_is_place) (defScope s_is_place) .none kV_is_place dc_is_place pm_is_place an_is_place cd_is_place ct_is_place), sl_is_place⟩) (c_is_place : PySem.W.codeIn K cd_is_place "is_place" = true) (k_is_place : PySem.W.keepIn K (.ref a_is_place) = true)
 {od_is_screen an_is_screen : Option Addr} {sl_is_screen : Array (Option Value)} {oc_is_screen kV_is_screen dc_is_screen pm_is_screen cd_is_screen ct_is_screen : Value}
 (n_is_screen_ : PySem.W.nsIn K mainGlobals "is_screen" = some (some (.ref a_is_screen))) (l_is_screen : K.lookup a_is_screen = some ⟨oc_is_screen, od_is_screen, .func (PySem.W.fnOf "is_screen" "is_screen" (defArgs s_is_screen) (defBody s_is_screen) (defScope s_is_screen) .none kV_is_screen dc_is_screen pm_is_screen an_is_screen cd_is_screen ct_is_screen), sl_is_screen⟩) (c_is_screen : PySem.W.codeIn K cd_is_screen "is_screen" = true) (k_is_screen : PySem.W.keepIn K (.ref a_is_screen) = true)
 {od_is_row an_is_row : Option Addr} {sl_is_row : Array (Option Value)} {oc_is_row kV_is_row dc_is_row pm_is_row cd_is_row ct_is_row : Value}
 (n_is_row_ : PySem.W.nsIn K mainGlobals "is_row" = some (some (.ref a_is_row))) (l_is_row : K.lookup a_is_row = some ⟨oc_is_row, od_is_row, .func (PySem.W.fnOf "is_row" "is_row" (defArgs s_is_row) (defBody s_is_row) (defScope s_is_row) .none kV_is_row dc_is_row pm_is_row an_is_row cd_is_row ct_is_row), sl_is_row⟩) (c_is_row : PySem.W.codeIn K cd_is_row "is_row" = true) (k_is_row : PySem.W.keepIn K (.ref a_is_row) = true)
 {od_is_book an_is_book : Option Addr} {sl_is_book : Array (Option Value)} {oc_is_book kV_is_book dc_is_book pm_is_book cd_is_book ct_is_book : Value}
 (n_is_book_ : PySem.W.nsIn K mainGlobals "is_book" = some (some (.ref a_is_book))) (l_is_book : K.lookup a_is_book = some ⟨oc_is_book, od_is_book, .func (PySem.W.fnOf "is_book" "is_book" (defArgs s_is_book) (defBody s_is_book) (defScope s_is_book) .none kV_is_book dc_is_book pm_is_book an_is_book cd_is_book ct_is_book), sl_is_book⟩) (c_is_book : PySem.W.codeIn K cd_is_book "is_book" = true) (k_is_book : PySem.W.keepIn K (.ref a_is_book) = true)
 {od__law_odd an__law_odd : Option Addr} {sl__law_odd : Array (Option Value)} {oc__law_odd kV__law_odd dc__law_odd pm__law_odd cd__law_odd ct__law_odd : Value}
 (n__law_odd_ : PySem.W.nsIn K mainGlobals "_law_odd" = some (some (.ref a__law_odd))) (l__law_odd : K.lookup a__law_odd = some ⟨oc__law_odd, od__law_odd, .func (PySem.W.fnOf "_law_odd" "_law_odd" (defArgs s__law_odd) (defBody s__law_odd) (defScope s__law_odd) .none kV__law_odd dc__law_odd pm__law_odd an__law_odd cd__law_odd ct__law_odd), sl__law_odd⟩) (c__law_odd : PySem.W.codeIn K cd__law_odd "_law_odd" = true) (k__law_odd : PySem.W.keepIn K (.ref a__law_odd) = true)
 {od__law_bent an__law_bent : Option Addr} {sl__law_bent : Array (Option Value)} {oc__law_bent kV__law_bent dc__law_bent pm__law_bent cd__law_bent ct__law_bent : Value}
 (n__law_bent_ : PySem.W.nsIn K mainGlobals "_law_bent" = some (some (.ref a__law_bent))) (l__law_bent : K.lookup a__law_bent = some ⟨oc__law_bent, od__law_bent, .func (PySem.W.fnOf "_law_bent" "_law_bent" (defArgs s__law_bent) (defBody s__law_bent) (defScope s__law_bent) .none kV__law_bent dc__law_bent pm__law_bent an__law_bent cd__law_bent ct__law_bent), sl__law_bent⟩) (c__law_bent : PySem.W.codeIn K cd__law_bent "_law_bent" = true) (k__law_bent : PySem.W.keepIn K (.ref a__law_bent) = true)
 {od__law_mixed an__law_mixed : Option Addr} {sl__law_mixed : Array (Option Value)} {oc__law_mixed kV__law_mixed dc__law_mixed pm__law_mixed cd__law_mixed ct__law_mixed : Value}
 (n__law_mixed_ : PySem.W.nsIn K mainGlobals "_law_mixed" = some (some (.ref a__law_mixed))) (l__law_mixed : K.lookup a__law_mixed = some ⟨oc__law_mixed, od__law_mixed, .func (PySem.W.fnOf "_law_mixed" "_law_mixed" (defArgs s__law_mixed) (defBody s__law_mixed) (defScope s__law_mixed) .none kV__law_mixed dc__law_mixed pm__law_mixed an__law_mixed cd__law_mixed ct__law_mixed), sl__law_mixed⟩) (c__law_mixed : PySem.W.codeIn K cd__law_mixed "_law_mixed" = true) (k__law_mixed : PySem.W.keepIn K (.ref a__law_mixed) = true)
 {od__law_whole an__law_whole : Option Addr} {sl__law_whole : Array (Option Value)} {oc__law_whole kV__law_whole dc__law_whole pm__law_whole cd__law_whole ct__law_whole : Value}
 (n__law_whole_ : PySem.W.nsIn K mainGlobals "_law_whole" = some (some (.ref a__law_whole))) (l__law_whole : K.lookup a__law_whole = some ⟨oc__law_whole, od__law_whole, .func (PySem.W.fnOf "_law_whole" "_law_whole" (defArgs s__law_whole) (defBody s__law_whole) (defScope s__law_whole) .none kV__law_whole dc__law_whole pm__law_whole an__law_whole cd__law_whole ct__law_whole), sl__law_whole⟩) (c__law_whole : PySem.W.codeIn K cd__law_whole "_law_whole" = true) (k__law_whole : PySem.W.keepIn K (.ref a__law_whole) = true)
 {od__law_is_box an__law_is_box : Option Addr} {sl__law_is_box : Array (Option Value)} {oc__law_is_box kV__law_is_box dc__law_is_box pm__law_is_box cd__law_is_box ct__law_is_box : Value}
 (n__law_is_box_ : PySem.W.nsIn K mainGlobals "_law_is_box" = some (some (.ref a__law_is_box))) (l__law_is_box : K.lookup a__law_is_box = some ⟨oc__law_is_box, od__law_is_box, .func (PySem.W.fnOf "_law_is_box" "_law_is_box" (defArgs s__law_is_box) (defBody s__law_is_box) (defScope s__law_is_box) .none kV__law_is_box dc__law_is_box pm__law_is_box an__law_is_box cd__law_is_box ct__law_is_box), sl__law_is_box⟩) (c__law_is_box : PySem.W.codeIn K cd__law_is_box "_law_is_box" = true) (k__law_is_box : PySem.W.keepIn K (.ref a__law_is_box) = true)
 {od__law_is_book an__law_is_book : Option Addr} {sl__law_is_book : Array (Option Value)} {oc__law_is_book kV__law_is_book dc__law_is_book pm__law_is_book cd__law_is_book ct__law_is_book : Value}
 (n__law_is_book_ : PySem.W.nsIn K mainGlobals "_law_is_book" = some (some (.ref a__law_is_book))) (l__law_is_book : K.lookup a__law_is_book = some ⟨oc__law_is_book, od__law_is_book, .func (PySem.W.fnOf "_law_is_book" "_law_is_book" (defArgs s__law_is_book) (defBody s__law_is_book) (defScope s__law_is_book) .none kV__law_is_book dc__law_is_book pm__law_is_book an__law_is_book cd__law_is_book ct__law_is_book), sl__law_is_book⟩) (c__law_is_book : PySem.W.codeIn K cd__law_is_book "_law_is_book" = true) (k__law_is_book : PySem.W.keepIn K (.ref a__law_is_book) = true)
 {od__law_right an__law_right : Option Addr} {sl__law_right : Array (Option Value)} {oc__law_right kV__law_right dc__law_right pm__law_right cd__law_right ct__law_right : Value}
 (n__law_right_ : PySem.W.nsIn K mainGlobals "_law_right" = some (some (.ref a__law_right))) (l__law_right : K.lookup a__law_right = some ⟨oc__law_right, od__law_right, .func (PySem.W.fnOf "_law_right" "_law_right" (defArgs s__law_right) (defBody s__law_right) (defScope s__law_right) .none kV__law_right dc__law_right pm__law_right an__law_right cd__law_right ct__law_right), sl__law_right⟩) (c__law_right : PySem.W.codeIn K cd__law_right "_law_right" = true) (k__law_right : PySem.W.keepIn K (.ref a__law_right) = true)
 {od_law an_law : Option Addr} {sl_law : Array (Option Value)} {oc_law kV_law dc_law pm_law cd_law ct_law : Value}
 (n_law_ : PySem.W.nsIn K mainGlobals "law" = some (some (.ref a_law))) (l_law : K.lookup a_law = some ⟨oc_law, od_law, .func (PySem.W.fnOf "law" "law" (defArgs s_law) (defBody s_law) (defScope s_law) .none kV_law dc_law pm_law an_law cd_law ct_law), sl_law⟩) (c_law : PySem.W.codeIn K cd_law "law" = true) (k_law : PySem.W.keepIn K (.ref a_law) = true)
 {t_MOST_APART : Tok} (g_MOST_APART : PySem.W.nsIn K mainGlobals "MOST_APART" = some (some (.int 40 t_MOST_APART))) {t_MOST_ASKER : Tok} (g_MOST_ASKER : PySem.W.nsIn K mainGlobals "MOST_ASKER" = some (some (.int 4 t_MOST_ASKER))) {t_MOST_DEEP : Tok} (g_MOST_DEEP : PySem.W.nsIn K mainGlobals "MOST_DEEP" = some (some (.int 5 t_MOST_DEEP))) {t_MOST_NUMBER : Tok} (g_MOST_NUMBER : PySem.W.nsIn K mainGlobals "MOST_NUMBER" = some (some (.int 9 t_MOST_NUMBER))) {t_MOST_ROWS : Tok} (g_MOST_ROWS : PySem.W.nsIn K mainGlobals "MOST_ROWS" = some (some (.int 10 t_MOST_ROWS))) {t_MOST_SIZE : Tok} (g_MOST_SIZE : PySem.W.nsIn K mainGlobals "MOST_SIZE" = some (some (.int 40 t_MOST_SIZE))) {t_SCREEN : Tok} (g_SCREEN : PySem.W.nsIn K mainGlobals "SCREEN" = some (some (.int 0 t_SCREEN))) (z_abs : PySem.W.nsIn K mainGlobals "abs" = some none) (z_all : PySem.W.nsIn K mainGlobals "all" = some none) (z_bool : PySem.W.nsIn K mainGlobals "bool" = some none) (z_dict : PySem.W.nsIn K mainGlobals "dict" = some none) (z_enumerate : PySem.W.nsIn K mainGlobals "enumerate" = some none) (z_int : PySem.W.nsIn K mainGlobals "int" = some none) (z_isinstance : PySem.W.nsIn K mainGlobals "isinstance" = some none) (z_len : PySem.W.nsIn K mainGlobals "len" = some none) (z_list : PySem.W.nsIn K mainGlobals "list" = some none) (z_range : PySem.W.nsIn K mainGlobals "range" = some none) (z_repr : PySem.W.nsIn K mainGlobals "repr" = some none) (z_str : PySem.W.nsIn K mainGlobals "str" = some none) (z_tuple : PySem.W.nsIn K mainGlobals "tuple" = some none) :
 LawM l.prog w K mg 8 63 fa "_law_script" ts := by
  have e := hfa.symm.trans (PySem.W.mg_of X G n_law_)
  cases e
  letI : Ev.TabC := ⟨[], fun _ => none, fun _ => 0, fun _ => .none, true⟩
  haveI : Ev.PkD := ⟨rfl⟩
  have v_MOST_APART : ∃ t, mg "MOST_APART" = some (.int 40 t) := ⟨_, PySem.W.mg_of X G g_MOST_APART⟩
  have v_MOST_ASKER : ∃ t, mg "MOST_ASKER" = some (.int 4 t) := ⟨_, PySem.W.mg_of X G g_MOST_ASKER⟩
  have v_MOST_DEEP : ∃ t, mg "MOST_DEEP" = some (.int 5 t) := ⟨_, PySem.W.mg_of X G g_MOST_DEEP⟩
  have v_MOST_NUMBER : ∃ t, mg "MOST_NUMBER" = some (.int 9 t) := ⟨_, PySem.W.mg_of X G g_MOST_NUMBER⟩
  have v_MOST_ROWS : ∃ t, mg "MOST_ROWS" = some (.int 10 t) := ⟨_, PySem.W.mg_of X G g_MOST_ROWS⟩
  have v_MOST_SIZE : ∃ t, mg "MOST_SIZE" = some (.int 40 t) := ⟨_, PySem.W.mg_of X G g_MOST_SIZE⟩
  have v_SCREEN : ∃ t, mg "SCREEN" = some (.int 0 t) := ⟨_, PySem.W.mg_of X G g_SCREEN⟩
  have m_abs := PySem.W.mg_none_of X G z_abs
  have m_all := PySem.W.mg_none_of X G z_all
  have m_bool := PySem.W.mg_none_of X G z_bool
  have m_dict := PySem.W.mg_none_of X G z_dict
  have m_enumerate := PySem.W.mg_none_of X G z_enumerate
  have m_int := PySem.W.mg_none_of X G z_int
  have m_isinstance := PySem.W.mg_none_of X G z_isinstance
  have m_len := PySem.W.mg_none_of X G z_len
  have m_list := PySem.W.mg_none_of X G z_list
  have m_range := PySem.W.mg_none_of X G z_range
  have m_repr := PySem.W.mg_none_of X G z_repr
  have m_str := PySem.W.mg_none_of X G z_str
  have m_tuple := PySem.W.mg_none_of X G z_tuple
  have F__law_pen := fun_mk (st := s__law_pen) l__law_pen c__law_pen k__law_pen
  have F__law_take := fun_mk (st := s__law_take) l__law_take c__law_take k__law_take
  have F__law_box := fun_mk (st := s__law_box) l__law_box c__law_box k__law_box
  have F__law_end := fun_mk (st := s__law_end) l__law_end c__law_end k__law_end
  have F__law_pick := fun_mk (st := s__law_pick) l__law_pick c__law_pick k__law_pick
  have F__law_deep := fun_mk (st := s__law_deep) l__law_deep c__law_deep k__law_deep
  have F__law_rows_of := fun_mk (st := s__law_rows_of) l__law_rows_of c__law_rows_of k__law_rows_of
  have F_do_stand := fun_mk (st := s_do_stand) l_do_stand c_do_stand k_do_stand
  have F_is_from_to := fun_mk (st := s_is_from_to) l_is_from_to c_is_from_to k_is_from_to
  have F_is_place := fun_mk (st := s_is_place) l_is_place c_is_place k_is_place
  have F_is_screen := fun_mk (st := s_is_screen) l_is_screen c_is_screen k_is_screen
  have F_is_row := fun_mk (st := s_is_row) l_is_row c_is_row k_is_row
  have F_is_book := fun_mk (st := s_is_book) l_is_book c_is_book k_is_book
  have F__law_odd := fun_mk (st := s__law_odd) l__law_odd c__law_odd k__law_odd
  have F__law_bent := fun_mk (st := s__law_bent) l__law_bent c__law_bent k__law_bent
  have F__law_mixed := fun_mk (st := s__law_mixed) l__law_mixed c__law_mixed k__law_mixed
  have F__law_whole := fun_mk (st := s__law_whole) l__law_whole c__law_whole k__law_whole
  have F__law_is_box := fun_mk (st := s__law_is_box) l__law_is_box c__law_is_box k__law_is_box
  have F__law_is_book := fun_mk (st := s__law_is_book) l__law_is_book c__law_is_book k__law_is_book
  have F__law_right := fun_mk (st := s__law_right) l__law_right c__law_right k__law_right
  have F_law := fun_mk (st := s_law) l_law c_law k_law
  refine ⟨[], PySem.W.fnOf "law" "law" (defArgs s_law) (defBody s_law) (defScope s_law) .none kV_law dc_law pm_law an_law cd_law ct_law, spD K 1 sp_law, fun _ h => (nomatch h), fun _ h => (nomatch h), fun s v => .of_eq rfl, fun H a ns hl hT hS => law_sp (fun ns hn => ⟨ns, rfl, hn, rfl, fun _ => rfl⟩) hl hS (fun _ h => (nomatch h)), fun base _ _ TBs => ?_⟩
  have G__law_pen : FnG l.prog w K mg base CX0 1 a__law_pen _ ["_law_script"] (spD K 1 sp__law_pen) := ok__law_pen  F__law_pen
  have K__law_pen_1 : Def l.prog w K mg base 1 "_law_pen" 1 sp__law_pen [] := ⟨["_law_script"], a__law_pen, _, [], [], G__law_pen, PySem.W.mg_of X G n__law_pen_, k__law_pen, F__law_pen.binds (ps := ["_law_script"]) (fun _ _ _ _ _ _ us hl => match us, hl with | [_], _ => rfl), .nil, fun _ => .nil⟩
  have G__law_take : FnG l.prog w K mg base CX0 1 a__law_take _ ["_law_pen_here", "_law_size"] (spD K 2 sp__law_take) := ok__law_take m_abs m_len F__law_take
  have K__law_take_2 : Def l.prog w K mg base 1 "_law_take" 2 sp__law_take [] := ⟨["_law_pen_here", "_law_size"], a__law_take, _, [], [], G__law_take, PySem.W.mg_of X G n__law_take_, k__law_take, F__law_take.binds (ps := ["_law_pen_here", "_law_size"]) (fun _ _ _ _ _ _ us hl => match us, hl with | [_, _], _ => rfl), .nil, fun _ => .nil⟩
  have G__law_box : FnG l.prog w K mg base CX0 2 a__law_box _ ["_law_pen_here"] (spD K 1 sp__law_box) := ok__law_box m_range K__law_take_2 F__law_box
  have K__law_box_1 : Def l.prog w K mg base 2 "_law_box" 1 sp__law_box [] := ⟨["_law_pen_here"], a__law_box, _, [], [], G__law_box, PySem.W.mg_of X G n__law_box_, k__law_box, F__law_box.binds (ps := ["_law_pen_here"]) (fun _ _ _ _ _ _ us hl => match us, hl with | [_], _ => rfl), .nil, fun _ => .nil⟩
  have G__law_end : FnG l.prog w K mg base CX0 1 a__law_end _ ["_law_lines", "_law_at"] (spD K 2 sp__law_end) := ok__law_end m_len F__law_end
  have K__law_end_2 : Def l.prog w K mg base 1 "_law_end" 2 sp__law_end [] := ⟨["_law_lines", "_law_at"], a__law_end, _, [], [], G__law_end, PySem.W.mg_of X G n__law_end_, k__law_end, F__law_end.binds (ps := ["_law_lines", "_law_at"]) (fun _ _ _ _ _ _ us hl => match us, hl with | [_, _], _ => rfl), .nil, fun _ => .nil⟩
  have G__law_pick : FnG l.prog w K mg base CX0 2 a__law_pick _ ["_law_pen_here", "_law_some"] (spD K 2 sp__law_pick) := ok__law_pick m_len K__law_take_2 F__law_pick
  have K__law_pick_2 : Def l.prog w K mg base 2 "_law_pick" 2 sp__law_pick [] := ⟨["_law_pen_here", "_law_some"], a__law_pick, _, [], [], G__law_pick, PySem.W.mg_of X G n__law_pick_, k__law_pick, F__law_pick.binds (ps := ["_law_pen_here", "_law_some"]) (fun _ _ _ _ _ _ us hl => match us, hl with | [_, _], _ => rfl), .nil, fun _ => .nil⟩
  have G__law_deep : FnG l.prog w K mg base CX0 1 a__law_deep _ ["_law_lines", "_law_number"] (spD K 2 sp__law_deep) := ok__law_deep m_dict F__law_deep
  have K__law_deep_2 : Def l.prog w K mg base 1 "_law_deep" 2 sp__law_deep [] := ⟨["_law_lines", "_law_number"], a__law_deep, _, [], [], G__law_deep, PySem.W.mg_of X G n__law_deep_, k__law_deep, F__law_deep.binds (ps := ["_law_lines", "_law_number"]) (fun _ _ _ _ _ _ us hl => match us, hl with | [_, _], _ => rfl), .nil, fun _ => .nil⟩
  have G__law_rows_of : FnG l.prog w K mg base CX0 3 a__law_rows_of _ ["_law_pen_here", "_law_most"] (spD K 2 sp__law_rows_of) := ok__law_rows_of m_enumerate m_len m_range m_tuple K__law_box_1 K__law_deep_2 K__law_end_2 K__law_pick_2 K__law_take_2 F__law_rows_of
  have K__law_rows_of_2 : Def l.prog w K mg base 3 "_law_rows_of" 2 sp__law_rows_of [] := ⟨["_law_pen_here", "_law_most"], a__law_rows_of, _, [], [], G__law_rows_of, PySem.W.mg_of X G n__law_rows_of_, k__law_rows_of, F__law_rows_of.binds (ps := ["_law_pen_here", "_law_most"]) (fun _ _ _ _ _ _ us hl => match us, hl with | [_, _], _ => rfl), .nil, fun _ => .nil⟩
  have G_do_stand : FnG l.prog w K mg base CX0 1 a_do_stand _ ["rows"] (spD K 1 sp_do_stand) := ok_do_stand v_MOST_DEEP v_SCREEN m_len F_do_stand
  have K_do_stand_1 : Def l.prog w K mg base 1 "do_stand" 1 sp_do_stand [] := ⟨["rows"], a_do_stand, _, [], [], G_do_stand, PySem.W.mg_of X G n_do_stand_, k_do_stand, F_do_stand.binds (ps := ["rows"]) (fun _ _ _ _ _ _ us hl => match us, hl with | [_], _ => rfl), .nil, fun _ => .nil⟩
  have G_is_from_to : FnG l.prog w K mg base CX0 1 a_is_from_to _ ["thing", "least", "most"] (spD K 3 sp_is_from_to) := ok_is_from_to m_bool m_int m_isinstance F_is_from_to
  have K_is_from_to_3 : Def l.prog w K mg base 1 "is_from_to" 3 sp_is_from_to [] := ⟨["thing", "least", "most"], a_is_from_to, _, [], [], G_is_from_to, PySem.W.mg_of X G n_is_from_to_, k_is_from_to, F_is_from_to.binds (ps := ["thing", "least", "most"]) (fun _ _ _ _ _ _ us hl => match us, hl with | [_, _, _], _ => rfl), .nil, fun _ => .nil⟩
  have G_is_place : FnG l.prog w K mg base CX0 2 a_is_place _ ["thing"] (spD K 1 sp_is_place) := ok_is_place v_MOST_APART v_MOST_SIZE m_all m_isinstance m_len m_tuple K_is_from_to_3 F_is_place
  have K_is_place_1 : Def l.prog w K mg base 2 "is_place" 1 sp_is_place [] := ⟨["thing"], a_is_place, _, [], [], G_is_place, PySem.W.mg_of X G n_is_place_, k_is_place, F_is_place.binds (ps := ["thing"]) (fun _ _ _ _ _ _ us hl => match us, hl with | [_], _ => rfl), .nil, fun _ => .nil⟩
  have G_is_screen : FnG l.prog w K mg base CX0 3 a_is_screen _ ["thing"] (spD K 1 sp_is_screen) := ok_is_screen v_SCREEN m_isinstance m_len m_tuple K_is_from_to_3 K_is_place_1 F_is_screen
  have K_is_screen_1 : Def l.prog w K mg base 3 "is_screen" 1 sp_is_screen [] := ⟨["thing"], a_is_screen, _, [], [], G_is_screen, PySem.W.mg_of X G n_is_screen_, k_is_screen, F_is_screen.binds (ps := ["thing"]) (fun _ _ _ _ _ _ us hl => match us, hl with | [_], _ => rfl), .nil, fun _ => .nil⟩
  have G_is_row : FnG l.prog w K mg base CX0 3 a_is_row _ ["thing"] (spD K 1 sp_is_row) := ok_is_row v_MOST_ASKER v_MOST_NUMBER v_SCREEN m_bool m_isinstance m_len m_tuple K_is_from_to_3 K_is_place_1 F_is_row
  have K_is_row_1 : Def l.prog w K mg base 3 "is_row" 1 sp_is_row [] := ⟨["thing"], a_is_row, _, [], [], G_is_row, PySem.W.mg_of X G n_is_row_, k_is_row, F_is_row.binds (ps := ["thing"]) (fun _ _ _ _ _ _ us hl => match us, hl with | [_], _ => rfl), .nil, fun _ => .nil⟩
  have G_is_book : FnG l.prog w K mg base CX0 4 a_is_book _ ["thing"] (spD K 1 sp_is_book) := ok_is_book v_MOST_ROWS m_all m_isinstance m_len m_tuple K_do_stand_1 K_is_row_1 K_is_screen_1 F_is_book
  have K_is_book_1 : Def l.prog w K mg base 4 "is_book" 1 sp_is_book [] := ⟨["thing"], a_is_book, _, [], [], G_is_book, PySem.W.mg_of X G n_is_book_, k_is_book, F_is_book.binds (ps := ["thing"]) (fun _ _ _ _ _ _ us hl => match us, hl with | [_], _ => rfl), .nil, fun _ => .nil⟩
  have K_is_book_0_thing : DefK l.prog w K mg base 4 "is_book" 1 sp_is_book 0 1 ["thing"] [0] [] := ⟨["thing"], a_is_book, _, [], [], G_is_book, PySem.W.mg_of X G n_is_book_, k_is_book, kbinds_of .nil (by decide) (fun s us ws _ h1 h2 => match us, ws, h1, h2 with | [], [v0], _, _ => .of_eq rfl), fun _ => .nil⟩
  have G__law_odd : FnG l.prog w K mg base CX0 3 a__law_odd _ ["_law_pen_here", "_law_part"] (spD K 2 sp__law_odd) := ok__law_odd m_bool m_int m_isinstance m_list m_str m_tuple K__law_pick_2 F__law_odd
  have K__law_odd_2 : Def l.prog w K mg base 3 "_law_odd" 2 sp__law_odd [] := ⟨["_law_pen_here", "_law_part"], a__law_odd, _, [], [], G__law_odd, PySem.W.mg_of X G n__law_odd_, k__law_odd, F__law_odd.binds (ps := ["_law_pen_here", "_law_part"]) (fun _ _ _ _ _ _ us hl => match us, hl with | [_, _], _ => rfl), .nil, fun _ => .nil⟩
  have G__law_bent : FnG l.prog w K mg base CX0 7 a__law_bent _ ["_law_pen_here", "_law_now", "_law_deep_here"] (spD K 3 (sp__law_bent 4)) := ok__law_bent m_isinstance m_len m_tuple K__law_odd_2 K__law_take_2 F__law_bent (PySem.W.mg_of X G n__law_bent_) k__law_bent 4
  have K__law_bent_3 : Def l.prog w K mg base 7 "_law_bent" 3 (sp__law_bent 4) [] := ⟨["_law_pen_here", "_law_now", "_law_deep_here"], a__law_bent, _, [], [], G__law_bent, PySem.W.mg_of X G n__law_bent_, k__law_bent, F__law_bent.binds (ps := ["_law_pen_here", "_law_now", "_law_deep_here"]) (fun _ _ _ _ _ _ us hl => match us, hl with | [_, _, _], _ => rfl), .nil, fun _ => .nil⟩
  have G__law_mixed : FnG l.prog w K mg base CX0 2 a__law_mixed _ ["_law_pen_here", "_law_lines"] (spD K 2 sp__law_mixed) := ok__law_mixed m_len m_list m_tuple K__law_take_2 F__law_mixed
  have K__law_mixed_2 : Def l.prog w K mg base 2 "_law_mixed" 2 sp__law_mixed [] := ⟨["_law_pen_here", "_law_lines"], a__law_mixed, _, [], [], G__law_mixed, PySem.W.mg_of X G n__law_mixed_, k__law_mixed, F__law_mixed.binds (ps := ["_law_pen_here", "_law_lines"]) (fun _ _ _ _ _ _ us hl => match us, hl with | [_, _], _ => rfl), .nil, fun _ => .nil⟩
  have G__law_whole : FnG l.prog w K mg base CX0 1 a__law_whole _ ["_law_some", "_law_least", "_law_most"] (spD K 3 sp__law_whole) := ok__law_whole m_bool m_int m_isinstance F__law_whole
  have K__law_whole_3 : Def l.prog w K mg base 1 "_law_whole" 3 sp__law_whole [] := ⟨["_law_some", "_law_least", "_law_most"], a__law_whole, _, [], [], G__law_whole, PySem.W.mg_of X G n__law_whole_, k__law_whole, F__law_whole.binds (ps := ["_law_some", "_law_least", "_law_most"]) (fun _ _ _ _ _ _ us hl => match us, hl with | [_, _, _], _ => rfl), .nil, fun _ => .nil⟩
  have G__law_is_box : FnG l.prog w K mg base CX0 2 a__law_is_box _ ["_law_some"] (spD K 1 sp__law_is_box) := ok__law_is_box m_isinstance m_len m_tuple K__law_whole_3 F__law_is_box
  have K__law_is_box_1 : Def l.prog w K mg base 2 "_law_is_box" 1 sp__law_is_box [] := ⟨["_law_some"], a__law_is_box, _, [], [], G__law_is_box, PySem.W.mg_of X G n__law_is_box_, k__law_is_box, F__law_is_box.binds (ps := ["_law_some"]) (fun _ _ _ _ _ _ us hl => match us, hl with | [_], _ => rfl), .nil, fun _ => .nil⟩
  have G__law_is_book : FnG l.prog w K mg base CX0 3 a__law_is_book _ ["_law_some"] (spD K 1 sp__law_is_book) := ok__law_is_book m_bool m_isinstance m_len m_repr m_tuple K__law_is_box_1 K__law_whole_3 F__law_is_book
  have K__law_is_book_1 : Def l.prog w K mg base 3 "_law_is_book" 1 sp__law_is_book [] := ⟨["_law_some"], a__law_is_book, _, [], [], G__law_is_book, PySem.W.mg_of X G n__law_is_book_, k__law_is_book, F__law_is_book.binds (ps := ["_law_some"]) (fun _ _ _ _ _ _ us hl => match us, hl with | [_], _ => rfl), .nil, fun _ => .nil⟩
  have G__law_right : FnG l.prog w K mg base CX0 5 a__law_right _ ["_law_one"] (spD K 1 sp__law_right) := ok__law_right m_repr K__law_is_book_1 K_is_book_1 K_is_book_0_thing F__law_right
  have K__law_right_1 : Def l.prog w K mg base 5 "_law_right" 1 sp__law_right [] := ⟨["_law_one"], a__law_right, _, [], [], G__law_right, PySem.W.mg_of X G n__law_right_, k__law_right, F__law_right.binds (ps := ["_law_one"]) (fun _ _ _ _ _ _ us hl => match us, hl with | [_], _ => rfl), .nil, fun _ => .nil⟩
  exact ok_law m_list m_range m_tuple K__law_bent_3 K__law_mixed_2 K__law_pen_1 K__law_right_1 K__law_rows_of_2 K_is_book_1 F_law
end Ev07
open PySem PySem.W PyProof.Rows
set_option maxHeartbeats 0 in
theorem PySem.Challenge.cw_eventrooms_k07_books_known_holds : PySem.Challenge.rw_eventrooms_k07_books_known.Holds := by
  w_on; o_law; k_head; (case hw => w_witness2)
  k_fill
  refine Ev.walk_gM (l := PySem.Challenge.rw_eventrooms_k07_books_known) (n := 63) (k := 8) (x := "_law_script") rfl (by decide) rfl ⟨rfl, by decide, by decide⟩ (ts := []) (fun w h Y => PySem.W.kIn_of Y) (fun _ _ _ _ h => (nomatch h)) ?F
  case F =>
    intro w mg fa h KX G hmg
    refine' Ev07.all_mk KX G hmg ?n__law_pen_ ?l__law_pen ?c__law_pen ?k__law_pen ?n__law_take_ ?l__law_take ?c__law_take ?k__law_take ?n__law_box_ ?l__law_box ?c__law_box ?k__law_box ?n__law_end_ ?l__law_end ?c__law_end ?k__law_end ?n__law_pick_ ?l__law_pick ?c__law_pick ?k__law_pick ?n__law_deep_ ?l__law_deep ?c__law_deep ?k__law_deep ?n__law_rows_of_ ?l__law_rows_of ?c__law_rows_of ?k__law_rows_of ?n_do_stand_ ?l_do_stand ?c_do_stand ?k_do_stand ?n_is_from_to_ ?l_is_from_to ?c_is_from_to ?k_is_from_to ?n_is_place_ ?l_is_place ?c_is_place ?k_is_place ?n_is_screen_ ?l_is_screen ?c_is_screen ?k_is_screen ?n_is_row_ ?l_is_row ?c_is_row ?k_is_row ?n_is_book_ ?l_is_book ?c_is_book ?k_is_book ?n__law_odd_ ?l__law_odd ?c__law_odd ?k__law_odd ?n__law_bent_ ?l__law_bent ?c__law_bent ?k__law_bent ?n__law_mixed_ ?l__law_mixed ?c__law_mixed ?k__law_mixed ?n__law_whole_ ?l__law_whole ?c__law_whole ?k__law_whole ?n__law_is_box_ ?l__law_is_box ?c__law_is_box ?k__law_is_box ?n__law_is_book_ ?l__law_is_book ?c__law_is_book ?k__law_is_book ?n__law_right_ ?l__law_right ?c__law_right ?k__law_right ?n_law_ ?l_law ?c_law ?k_law ?g_MOST_APART ?g_MOST_ASKER ?g_MOST_DEEP ?g_MOST_NUMBER ?g_MOST_ROWS ?g_MOST_SIZE ?g_SCREEN ?z_abs ?z_all ?z_bool ?z_dict ?z_enumerate ?z_int ?z_isinstance ?z_len ?z_list ?z_range ?z_repr ?z_str ?z_tuple
    (case n__law_pen_ => k_is); (case l__law_pen => k_is); (case c__law_pen => k_is); (case k__law_pen => k_is); (case n__law_take_ => k_is); (case l__law_take => k_is)
    (case c__law_take => k_is); (case k__law_take => k_is); (case n__law_box_ => k_is); (case l__law_box => k_is); (case c__law_box => k_is); (case k__law_box => k_is)
    (case n__law_end_ => k_is); (case l__law_end => k_is); (case c__law_end => k_is); (case k__law_end => k_is); (case n__law_pick_ => k_is); (case l__law_pick => k_is)
    (case c__law_pick => k_is); (case k__law_pick => k_is); (case n__law_deep_ => k_is); (case l__law_deep => k_is); (case c__law_deep => k_is); (case k__law_deep => k_is)
    (case n__law_rows_of_ => k_is); (case l__law_rows_of => k_is); (case c__law_rows_of => k_is); (case k__law_rows_of => k_is); (case n_do_stand_ => k_is); (case l_do_stand => k_is)
    (case c_do_stand => k_is); (case k_do_stand => k_is); (case n_is_from_to_ => k_is); (case l_is_from_to => k_is); (case c_is_from_to => k_is); (case k_is_from_to => k_is)
    (case n_is_place_ => k_is); (case l_is_place => k_is); (case c_is_place => k_is); (case k_is_place => k_is); (case n_is_screen_ => k_is); (case l_is_screen => k_is)
    (case c_is_screen => k_is); (case k_is_screen => k_is); (case n_is_row_ => k_is); (case l_is_row => k_is); (case c_is_row => k_is); (case k_is_row => k_is)
    (case n_is_book_ => k_is); (case l_is_book => k_is); (case c_is_book => k_is); (case k_is_book => k_is); (case n__law_odd_ => k_is); (case l__law_odd => k_is)
    (case c__law_odd => k_is); (case k__law_odd => k_is); (case n__law_bent_ => k_is); (case l__law_bent => k_is); (case c__law_bent => k_is); (case k__law_bent => k_is)
    (case n__law_mixed_ => k_is); (case l__law_mixed => k_is); (case c__law_mixed => k_is); (case k__law_mixed => k_is); (case n__law_whole_ => k_is); (case l__law_whole => k_is)
    (case c__law_whole => k_is); (case k__law_whole => k_is); (case n__law_is_box_ => k_is); (case l__law_is_box => k_is); (case c__law_is_box => k_is); (case k__law_is_box => k_is)
    (case n__law_is_book_ => k_is); (case l__law_is_book => k_is); (case c__law_is_book => k_is); (case k__law_is_book => k_is); (case n__law_right_ => k_is); (case l__law_right => k_is)
    (case c__law_right => k_is); (case k__law_right => k_is); (case n_law_ => k_is); (case l_law => k_is); (case c_law => k_is); (case k_law => k_is)
    (case g_MOST_APART => k_is); (case g_MOST_ASKER => k_is); (case g_MOST_DEEP => k_is); (case g_MOST_NUMBER => k_is); (case g_MOST_ROWS => k_is); (case g_MOST_SIZE => k_is)
    (case g_SCREEN => k_is); (case z_abs => k_is); (case z_all => k_is); (case z_bool => k_is); (case z_dict => k_is); (case z_enumerate => k_is)
    (case z_int => k_is); (case z_isinstance => k_is); (case z_len => k_is); (case z_list => k_is); (case z_range => k_is); (case z_repr => k_is)
    (case z_str => k_is); (case z_tuple => k_is)
