import PyProof.Rows.All
import HandS.NoneIn
import HandS.Iter
import HandS.Lambda
import Wide.All
import OpenK.AllK
import Wide.FinOn
import HandS.ForMost
import HandS.TupAny
import HandS.Deep
import HandS.IsInst
import HandS.Walk
import HandS.CallSlots
import HandS.Exc
import HandS.RaiseMore
import HandS.Wide
import HandS.FStr
import KE.SortData
import HandS.Conv
import HandS.Style
import HandS.Rev
import HandS.Zip
import HandS.SortKw
import HandS.Defaults
import KE.KUnpackStar
import HandS.DictComp
import HandS.EndTab
import HandS.TryOnly
import KE.KNestM
import PyProof.EqAt
import HandS.SetKeys
import HandS.TupLen
import HandS.TupLe
import KE.KDictDisplayH
import KE.KEqDict
import KE.KDictZip
import HandS.ListItems
import PyProof.ListNew
import HandS.More
import KE.KDictCopyH
import KE.GoesEnumKw
import HandS.TupMul
import KE.KDictPairs
import HandS.Flow
import HandS.SetFor
import HandS.ExcInit
import HandS.ExcOwn
import PyProof.ExcFactsAll.LookupError
import PyProof.ExcBaseAll.LookupError
import PyProof.Rows.FactsExc_KeyError
import HandS.TryMany
import HandS.ExcIs
import KE.KTryMore
import HandS.Words
import HandS.ExcField
import KE.KExcIs
import HandS.ExcValue
import OpenK.KCls
import PySem.Challenge.RW_eventrooms_k01_boxes_and_parts_known
set_option Elab.async false
set_option linter.all false
set_option maxRecDepth 100000
set_option maxHeartbeats 4000000
namespace Ev
open PySem PySem.Spec PyProof.Rows L2
abbrev NK := Option Int
def nkE : NK → Option Key := Option.map Sum.inl
theorem nkE_inj {a b : NK} (h : nkE a = nkE b) : a = b := by
  cases a with
  | none => cases b with
    | none => rfl
    | some j => cases h
  | some i => cases b with
    | none => cases h
    | some j => cases h; rfl
def nik (P : Program) (w : World) : PySem.KeyKind P w NK where
  is := fun k v => nkIs (nkE k) v
  hash := fun k => match k with
    | none => reduceHash 0xFCA86420
    | some i => hashInt i
  inj := fun v a b ha hb => nkE_inj ((noneKind P w).inj v _ _ ha hb)
  byValue := fun k v h => (noneKind P w).byValue (nkE k) v h
  pyHash := @fun A E s k v Q hv h => (noneKind P w).pyHash (k := nkE k) hv (by cases k <;> exact h)
  eqBool := @fun A E s a b u v Q hu hv h => (noneKind P w).eqBool (a := nkE a) (b := nkE b) hu hv (by
    have e : decide (nkE a = nkE b) = decide (a = b) := by
      by_cases c : a = b
      · rw [decide_eq_true c, c]; exact decide_eq_true rfl
      · rw [decide_eq_false c, decide_eq_false fun z => c (nkE_inj z)]
    rw [e]; exact h)
  «strs» := fun k x t v h => (noneKind P w).«strs» (nkE k) x t v h
def kN : NK → V
  | none => .non
  | some i => .int i
/-- a dict whose keys are numbers or None -/
def NoD (a : Addr) (kvs : List (NK × V)) : HO := .ext fun h => (a == sysModules) = false ∧ kvs.length ≤ sizeLine ∧ (∃ vs, KV kvs vs ∧ ∀ P w, h.DictOf (nik P w) a vs) ∧ ∃ o es ep, h.get? a = some o ∧ o.data = .dict es ep
section
variable {P : Program} {w : World} {H : Hp} {h : Heap} {a : Addr} {kvs : List (NK × V)}
theorem nod_code {c : Addr} {q : Str} : NoD a kvs ≠ LamX.CodeO c q := fun e => by
  have e' := HO.ext.inj e
  let oc : Obj := { cls := .none, data := .fields #[.none, .str q 0] }
  let hp : Heap := { objs := Array.replicate (c + 1) oc }
  have hc : hp.get? c = some oc := by
    have : hp.objs[c]? = some oc := by simp [hp]
    unfold Heap.get?
    rw [this]
  have g := (congrFun e' hp).mpr ⟨oc, _, 0, hc, rfl, rfl⟩
  obtain ⟨_, _, _, o, es, ep, h1, h3⟩ := g
  have : hp.objs[a]? = some oc ∨ hp.objs[a]? = none := by
    by_cases l : a < c + 1
    · exact .inl (by simp [hp, l])
    · exact .inr (Array.getElem?_eq_none (by show (Array.replicate (c + 1) oc).size ≤ a; rw [Array.size_replicate]; exact Nat.not_lt.mp l))
  unfold Heap.get? at h1
  rcases this with z | z
  · rw [z] at h1; cases h1; cases h3
  · rw [z] at h1; cases h1
end
end Ev
namespace Ev
open PySem PySem.Spec PyProof.Rows L2
inductive D where
  | non | bl (b : Bool) | int (i : Int) | str (x : Str)
  | tup (xs : List D) | lst (xs : List D)
  | dK (kvs : List (Key × D)) | dT (kvs : List (List Key × D))
  /-- .. locked: no one writes them any more, so that they can be walked -/
  | fK (kvs : List (Key × D)) | fT (kvs : List (List Key × D))
  | raw (v : V)
  | scr (ns : List Int)
  /-- a lambda, by its number, and what it captured -/
  | fn (k : Nat) (cs : List D)
  /-- a tuple of the module -/
  | kt (xs : List D)
  /-- a dict whose keys are numbers or None, that nobody changes any more -/
  | fN (kvs : List (NK × D))
  /-- an exception that was caught: its class by its number, its one field; one without a field -/
  | exc (c : Nat) (f : Str) (d : D) | exc0 (c : Nat)
/-- a lambda as it is written; caps: the names that it captures -/
structure Lam where
  params : Arguments
  body : Expr
  scope : Scope
  qual : Str
  caps : List Str
/-- what stands at an address is this object -/
def PinO (o : Obj) (a : Addr) : HO := .ext fun h => h.get? a = some o
/-- the tables of code objects of the defs that make lambdas, each with the lambdas' name: the same through a whole law -/
class TabC where
  tab : List (Addr × Str)
  lam : Nat → Option Lam
  /-- where the defs lie that are handed about -/
  ad : Nat → Addr
  /-- the classes of exceptions, by number -/
  xc : Nat → Value
  /-- the pen is a dict -/
  pk : Bool
variable [TabC]
/-- all that was known is known still -/
def Ex (H H' : Hp) : Prop := ∀ a o, H a = some o → H' a = some o
theorem Ex.refl (H : Hp) : Ex H H := fun _ _ h => h
theorem Ex.trans {H H1 H2 : Hp} (a : Ex H H1) (b : Ex H1 H2) : Ex H H2 := fun x o h => b x o (a x o h)
theorem Ex.new {H : Hp} {p : Addr} {o : HO} (h : H p = none) : Ex H (upd H p o) := fun a u e => by
  rw [upd_ne (ne_of_none e h)]
  exact e
theorem Ex.rd {H H' : Hp} {a : Addr} {u : HO} (e : Ex H H') (h : Rd H a u) : Rd H' a u := by
  rcases h with h | ⟨o, h⟩
  · exact Or.inl (e a _ h)
  · exact Or.inr ⟨o, e a _ h⟩
theorem Ex.sqT {K : PySem.W.Frag} {H H' : Hp} {a : Addr} {xs : List V} (e : Ex H H') (h : SqT K H a xs) : SqT K H' a xs := by
  rcases h with h | h
  · exact Or.inl (e.rd h)
  · exact Or.inr h
theorem Ex.sqL {K : PySem.W.Frag} {H H' : Hp} {a : Addr} {xs : List V} (e : Ex H H') (h : SqL K H a xs) : SqL K H' a xs := by
  rcases h with h | h
  · exact Or.inl (e.rd h)
  · exact Or.inr h
theorem Ex.none {H H' : Hp} {a : Addr} (e : Ex H H') (h : H' a = Option.none) : H a = Option.none := by
  cases q : H a with
  | none => rfl
  | some o => rw [e a o q] at h; cases h
/-- every tuple that is known is frozen -/
def TupIn (S H : Hp) : Prop := ∀ b vs, H b = some (.tup vs) → S b = some (.tup vs)
def HO.plain : HO → Bool
  | .tbl _ => false
  | .ext _ => false
  | _ => true
def NT (o : HO) : Prop := ∀ ps, o ≠ .tbl ps
theorem nt_plain {o : HO} (h : HO.plain o = true) : NT o := fun ps e => by subst e; cases h
/-- what may stand at an address of one's own: no table, nothing that a table tells -/
def HO.own (o : HO) : Prop := NT o ∧ ∀ c q, o ≠ LamX.CodeO c q
theorem own_plain {o : HO} (h : HO.plain o = true) : HO.own o := ⟨nt_plain h, fun c q e => by subst e; cases h⟩
theorem own_nod {a : Addr} {kvs : List (NK × V)} : HO.own (NoD a kvs) := ⟨(fun _ z => nomatch z), fun _ _ => nod_code⟩
/-- the tables are known, not frozen, and tell code objects that are known -/
def TbOk (S H : Hp) : Prop := ∀ p ∈ TabC.tab, S p.1 = none ∧ LamX.TabS H p.1 p.2
/-- all but one address stays, where nothing of the tables stood -/
theorem TbOk.at_ {S H S' H' : Hp} (t : TbOk S H) (p : Addr) (h : ∀ b o, b ≠ p → H b = some o → H' b = some o) (hp : ∀ o, H p = some o → HO.own o) (hS : ∀ b, b ≠ p → S b = none → S' b = none) : TbOk S' H' := fun q hq => by
  obtain ⟨h1, ps, h2, h3, h4⟩ := t q hq
  have ne : q.1 ≠ p := fun z => (hp _ (z ▸ h2)).1 _ rfl
  refine ⟨hS _ ne h1, ps, h _ _ ne h2, h3, fun pos cv hc => ?_⟩
  obtain ⟨c, e1, e2⟩ := h4 pos cv hc
  exact ⟨c, e1, h _ _ (fun z => (hp _ (z ▸ e2)).2 _ _ rfl) e2⟩
/-- what is frozen is known, the tuples among it -/
structure Sb (S H : Hp) : Prop where
  ex : Ex S H
  tp : TupIn S H
  tb : TbOk S H
/-- all but the tables -/
def noT (H : Hp) : Hp := fun b => match H b with | some (.tbl _) => none | o => o
theorem noT_pl {H : Hp} {b : Addr} {o : HO} (h : H b = some o) (n : NT o) : noT H b = some o := by
  unfold noT; rw [h]
  cases o with
  | tbl ps => exact absurd rfl (n ps)
  | _ => rfl
theorem noT_ex {H : Hp} : Ex (noT H) H := fun b o h => by
  unfold noT at h
  cases q : H b with
  | none => rw [q] at h; cases h
  | some u =>
    rw [q] at h
    cases u <;> first | exact h | cases h
theorem Sb.start {H : Hp} (h : ∀ p ∈ TabC.tab, H p.1 = some (.tbl #[])) : Sb (noT H) H := ⟨noT_ex, fun b vs e => noT_pl e fun _ z => (nomatch z), fun p hp => by
  refine ⟨?_, LamX.TabS.nil (h p hp)⟩
  unfold noT; rw [h p hp]⟩
/-- a heap that grows: tables may become longer -/
structure Ext (H H' : Hp) : Prop where
  h : ∀ a o, H a = some o → NT o → H' a = some o
  t : ∀ a ps, H a = some (.tbl ps) → ∃ qs, H' a = some (.tbl qs)
theorem Ext.refl (H : Hp) : Ext H H := ⟨fun _ _ h _ => h, fun _ ps h => ⟨ps, h⟩⟩
theorem Ext.trans {H H1 H2 : Hp} (a : Ext H H1) (b : Ext H1 H2) : Ext H H2 := ⟨fun x o h n => b.h x o (a.h x o h n) n, fun x ps h => by
  obtain ⟨qs, e⟩ := a.t x ps h
  exact b.t x qs e⟩
theorem Ext.of {H H' : Hp} (a : Ex H H') : Ext H H' := ⟨fun x o h _ => a x o h, fun x ps h => ⟨ps, a x _ h⟩⟩
theorem Ext.there {H H' : Hp} (e : Ext H H') {a : Addr} {o : HO} (h : H a = some o) : ∃ o', H' a = some o' := by
  cases o with
  | tbl ps => obtain ⟨qs, q⟩ := e.t a ps h; exact ⟨_, q⟩
  | ext φ => exact ⟨_, e.h a _ h fun _ z => nomatch z⟩
  | _ => exact ⟨_, e.h a _ h (nt_plain rfl)⟩
theorem Ext.pl {H H' : Hp} (e : Ext H H') {a : Addr} {o : HO} (h : H a = some o) (p : HO.plain o = true := by rfl) : H' a = some o := e.h a o h (nt_plain p)
instance {S H : Hp} : CoeFun (Sb S H) fun _ => ∀ a o, S a = some o → H a = some o := ⟨fun e => e.ex⟩
instance {S H : Hp} : Coe (Sb S H) (Ex S H) := ⟨fun e => e.ex⟩
theorem Sb.sqT {K : PySem.W.Frag} {H H' : Hp} {a : Addr} {xs : List V} (e : Sb H H') (h : SqT K H a xs) : SqT K H' a xs := e.ex.sqT h
theorem Sb.sqL {K : PySem.W.Frag} {H H' : Hp} {a : Addr} {xs : List V} (e : Sb H H') (h : SqL K H a xs) : SqL K H' a xs := e.ex.sqL h
theorem Sb.rd {H H' : Hp} {a : Addr} {u : HO} (e : Sb H H') (h : Rd H a u) : Rd H' a u := e.ex.rd h
theorem Sb.none {H H' : Hp} {a : Addr} (e : Sb H H') (h : H' a = Option.none) : H a = Option.none := e.ex.none h
/-- only the heap grows, by no tuple -/
theorem Sb.one {S H : Hp} (e : Sb S H) {p : Addr} {o : HO} (hp : H p = Option.none) (ho : ∀ vs, o ≠ .tup vs) : Sb S (upd H p o) := by
  refine ⟨fun a u h => Ex.new hp a u (e a u h), fun b vs h => ?_, e.tb.at_ p (fun b u n h => by rw [upd_ne n]; exact h) (fun u z => by rw [hp] at z; cases z) fun _ _ z => z⟩
  by_cases q : b = p
  · subst q; rw [upd_same] at h; exact absurd (Option.some.inj h) (ho vs)
  · rw [upd_ne q] at h; exact e.tp b vs h
/-- the cells at cs hold the values vs -/
def CellsAt (S : Hp) (cs : List Addr) (vs : List V) : Prop := Paired (fun c v => ∃ o u, S c = some (PinO o c) ∧ o.data = .cell (some u) ∧ RelV v u) cs vs
theorem CellsAt.mono {S S' : Hp} (e : Ex S S') {cs : List Addr} {vs : List V} (h : CellsAt S cs vs) : CellsAt S' cs vs := Paired.mapP h fun c v ⟨o, u, h1, h2⟩ => ⟨o, u, e _ _ h1, h2⟩
/-- a tuple that stands in the module -/
def KTup (K : PySem.W.Frag) (a : Addr) (vs : List V) : Prop := ∃ (o : Obj) (its : Array Value) (n : Nat), K.lookup a = some o ∧ o.cls = .type "tuple" ∧ o.data = .seq its n ∧ its.size ≤ sizeLine ∧ Vals vs its.toList
theorem KTup.sqT {K : PySem.W.Frag} {H : Hp} {a : Addr} {vs : List V} (h : KTup K a vs) : SqT K H a vs := .inr h
/-- a tuple that is known to have no dict of its own: one of the module, or one of which the object is known -/
def TupN (K : PySem.W.Frag) (S : Hp) (a : Addr) (vs : List V) : Prop := (KTup K a vs ∧ ∃ o, K.lookup a = some o ∧ o.dict = none) ∨ ∃ o : Obj, o.dict = none ∧ S a = some (.frz o (.tup vs))
theorem TupN.mono {K : PySem.W.Frag} {S S' : Hp} {a : Addr} {vs : List V} (e : Ex S S') (h : TupN K S a vs) : TupN K S' a vs := by
  rcases h with h | ⟨o, h1, h2⟩
  · exact .inl h
  · exact .inr ⟨o, h1, e _ _ h2⟩
theorem TupN.sqT {K : PySem.W.Frag} {S H : Hp} {a : Addr} {vs : List V} (h : TupN K S a vs) (e : Ex S H) : SqT K H a vs := by
  rcases h with h | ⟨o, _, h⟩
  · exact h.1.sqT
  · exact .inl (.inr ⟨o, e _ _ h⟩)
/-- at a stands an exception of the class cls, its own dict at od -/
def ExV (a : Addr) (cls : Value) (od : Option Addr) : HO := .ext fun h => ∃ oe vs, h.get? a = some oe ∧ oe.cls = cls ∧ oe.dict = od ∧ oe.data = .fields vs
mutual
/-- the value v bears the data d, by what is frozen in S -/
inductive Dn (K : PySem.W.Frag) (S : Hp) : V → D → Prop
  | non : Dn K S .non .non
  | bl (b : Bool) : Dn K S (.bl b) (.bl b)
  | int (i : Int) : Dn K S (.int i) (.int i)
  | str (x : Str) : Dn K S (.str x) (.str x)
  | raw (v : V) : Dn K S v (.raw v)
  | scr {a : Addr} {ns : List Int} : SqL K S a (ns.map V.int) → Dn K S (.ref a) (.scr ns)
  | tup {a : Addr} {vs : List V} {ds : List D} : S a = some (.tup vs) → DnA K S vs ds → Dn K S (.ref a) (.tup ds)
  | lst {a : Addr} {vs : List V} {ds : List D} : S a = some (.lst vs) → DnA K S vs ds → Dn K S (.ref a) (.lst ds)
  | dK {a : Addr} {kvs : List (Key × V)} {es : List (Key × D)} : S a = some (.dK kvs) → kvs.map (·.1) = es.map (·.1) → DnA K S (kvs.map (·.2)) (es.map (·.2)) → Dn K S (.ref a) (.dK es)
  | dT {a : Addr} {kvs : List (List Key × V)} {es : List (List Key × D)} : S a = some (.dT kvs) → kvs.map (·.1) = es.map (·.1) → DnA K S (kvs.map (·.2)) (es.map (·.2)) → Dn K S (.ref a) (.dT es)
  | fK {a : Addr} {o : Obj} {kvs : List (Key × V)} {es : List (Key × D)} : S a = some (.frz o (.dK kvs)) → kvs.map (·.1) = es.map (·.1) → DnA K S (kvs.map (·.2)) (es.map (·.2)) → Dn K S (.ref a) (.fK es)
  | fT {a : Addr} {o : Obj} {kvs : List (List Key × V)} {es : List (List Key × D)} : S a = some (.frz o (.dT kvs)) → kvs.map (·.1) = es.map (·.1) → DnA K S (kvs.map (·.2)) (es.map (·.2)) → Dn K S (.ref a) (.fT es)
  | fn {a c : Addr} {k : Nat} {l : Lam} {pm ctv : Value} {cl : List (Str × Addr)} {vs : List V} {ds : List D} : TabC.lam k = some l → S a = some (PinO (PySem.W.kla_obj "<lambda>" l.qual l.params l.body l.scope cl pm c ctv) a) → S c = some (LamX.CodeO c l.qual) → cl.map (·.1) = l.caps → (cl.map (·.2)).Nodup →
      CellsAt S (cl.map (·.2)) vs → DnA K S vs ds → Dn K S (.ref a) (.fn k ds)
  | kt {a : Addr} {vs : List V} {ds : List D} : TupN K S a vs → DnA K S vs ds → Dn K S (.ref a) (.kt ds)
  | fN {a : Addr} {kvs : List (NK × V)} {es : List (NK × D)} : S a = some (NoD a kvs) → kvs.map (·.1) = es.map (·.1) → DnA K S (kvs.map (·.2)) (es.map (·.2)) → Dn K S (.ref a) (.fN es)
  | exc {a dx : Addr} {c : Nat} {f : Str} {v : V} {d : D} : S a = some (ExV a (TabC.xc c) (some dx)) → S dx = some (.xd [(f, v)]) → Dn K S v d → Dn K S (.ref a) (.exc c f d)
  | exc0 {a : Addr} {c : Nat} : S a = some (ExV a (TabC.xc c) none) → Dn K S (.ref a) (.exc0 c)
inductive DnA (K : PySem.W.Frag) (S : Hp) : List V → List D → Prop
  | nil : DnA K S [] []
  | cons {v : V} {vs : List V} {d : D} {ds : List D} : Dn K S v d → DnA K S vs ds → DnA K S (v :: vs) (d :: ds)
end
variable {K : PySem.W.Frag} {S S' H H' : Hp}
mutual
theorem Dn.mono (e : Ex S S') : ∀ {v : V} {d : D}, Dn K S v d → Dn K S' v d
  | _, _, .non => .non
  | _, _, .bl b => .bl b
  | _, _, .int i => .int i
  | _, _, .str x => .str x
  | _, _, .raw v => .raw v
  | _, _, .scr h => .scr (e.sqL h)
  | _, _, .tup h a => .tup (e _ _ h) (DnA.mono e a)
  | _, _, .lst h a => .lst (e _ _ h) (DnA.mono e a)
  | _, _, .dK h k a => .dK (e _ _ h) k (DnA.mono e a)
  | _, _, .dT h k a => .dT (e _ _ h) k (DnA.mono e a)
  | _, _, .fK h k a => .fK (e _ _ h) k (DnA.mono e a)
  | _, _, .fT h k a => .fT (e _ _ h) k (DnA.mono e a)
  | _, _, .fn h1 h2 h3 h4 nd h5 a => .fn h1 (e _ _ h2) (e _ _ h3) h4 nd (h5.mono e) (DnA.mono e a)
  | _, _, .kt h a => .kt (h.mono e) (DnA.mono e a)
  | _, _, .fN h k a => .fN (e _ _ h) k (DnA.mono e a)
  | _, _, .exc h1 h2 a => .exc (e _ _ h1) (e _ _ h2) (Dn.mono e a)
  | _, _, .exc0 h => .exc0 (e _ _ h)
theorem DnA.mono (e : Ex S S') : ∀ {vs : List V} {ds : List D}, DnA K S vs ds → DnA K S' vs ds
  | _, _, .nil => .nil
  | _, _, .cons h a => .cons (Dn.mono e h) (DnA.mono e a)
end
theorem DnA.length : ∀ {vs : List V} {ds : List D}, DnA K S vs ds → vs.length = ds.length
  | _, _, .nil => rfl
  | _, _, .cons _ a => congrArg (· + 1) a.length
theorem DnA.append : ∀ {vs ws : List V} {ds es : List D}, DnA K S vs ds → DnA K S ws es → DnA K S (vs ++ ws) (ds ++ es)
  | _, _, _, _, .nil, b => b
  | _, _, _, _, .cons h a, b => .cons h (a.append b)
theorem DnA.get : ∀ {vs : List V} {ds : List D} {i : Nat} {d : D}, DnA K S vs ds → ds[i]? = some d → ∃ v, vs[i]? = some v ∧ Dn K S v d
  | _, _, _, _, .nil, e => by simp at e
  | _, _, 0, _, .cons h _, e => by simp at e; subst e; exact ⟨_, rfl, h⟩
  | _, _, i + 1, _, .cons _ a, e => by
    obtain ⟨v, h1, h2⟩ := a.get (i := i) (by simpa using e)
    exact ⟨v, by simpa using h1, h2⟩
theorem DnA.getV : ∀ {vs : List V} {ds : List D} {i : Nat} {v : V}, DnA K S vs ds → vs[i]? = some v → ∃ d, ds[i]? = some d ∧ Dn K S v d
  | _, _, _, _, .nil, e => by simp at e
  | _, _, 0, _, .cons h _, e => by simp at e; subst e; exact ⟨_, rfl, h⟩
  | _, _, i + 1, _, .cons _ a, e => by
    obtain ⟨v, h1, h2⟩ := a.getV (i := i) (by simpa using e)
    exact ⟨v, by simpa using h1, h2⟩
theorem DnA.set {v : V} {d : D} (h : Dn K S v d) : ∀ {vs : List V} {ds : List D} (i : Nat), DnA K S vs ds → DnA K S (vs.set i v) (ds.set i d)
  | _, _, _, .nil => .nil
  | _, _, 0, .cons _ a => .cons h a
  | _, _, i + 1, .cons q a => .cons q (a.set h i)
theorem DnA.take : ∀ {vs : List V} {ds : List D} (n : Nat), DnA K S vs ds → DnA K S (vs.take n) (ds.take n)
  | _, _, 0, _ => .nil
  | _, _, _ + 1, .nil => .nil
  | _, _, n + 1, .cons h a => .cons h (a.take n)
theorem DnA.drop : ∀ {vs : List V} {ds : List D} (n : Nat), DnA K S vs ds → DnA K S (vs.drop n) (ds.drop n)
  | _, _, 0, a => a
  | _, _, _ + 1, .nil => .nil
  | _, _, n + 1, .cons _ a => a.drop n
theorem DnA.eraseIdx : ∀ {vs : List V} {ds : List D} (n : Nat), DnA K S vs ds → DnA K S (vs.eraseIdx n) (ds.eraseIdx n)
  | _, _, _, .nil => .nil
  | _, _, 0, .cons _ a => a
  | _, _, n + 1, .cons h a => .cons h (a.eraseIdx n)
theorem DnA.reverse {vs : List V} {ds : List D} (a : DnA K S vs ds) : DnA K S vs.reverse ds.reverse := by
  induction vs generalizing ds with
  | nil => cases a; exact .nil
  | cons v vs ih =>
    cases a with
    | cons h a =>
      rw [List.reverse_cons, List.reverse_cons]
      exact (ih a).append (.cons h .nil)
theorem DnA.ints : ∀ ns : List Int, DnA K S (ns.map V.int) (ns.map D.int)
  | [] => .nil
  | n :: ns => .cons (.int n) (DnA.ints ns)
/-- the pen: where it stands, at most so many draws so far -/
abbrev Pen := Option (Addr × Nat)
/-- what stands where the pen is -/
def penO (ca : Addr) (k m : Int) : HO := if TabC.pk then .dK [(Sum.inr "cells", .ref ca), (Sum.inr "at", .int k), (Sum.inr "left", .int m)] else .lst [.ref ca, .int k, .int m]
/-- the pen is a list; it is a dict -/
class PkL [TabC] : Prop where
  pk : TabC.pk = false
theorem penO_l [PkL] {ca : Addr} {k m : Int} : penO ca k m = .lst [.ref ca, .int k, .int m] := by unfold penO; rw [PkL.pk]; rfl
theorem penO_pl {ca : Addr} {k m : Int} : HO.plain (penO ca k m) = true := by unfold penO; split <;> rfl
def PenOk (S H : Hp) : Pen → Prop
  | none => True
  | some (a, c) => S a = none ∧ ∃ (ca : Addr) (ns : List Int) (k m : Int), H a = some (penO ca k m) ∧ S ca = some (.lst (ns.map V.int)) ∧ ns.length ≤ 63 ∧ 0 ≤ k ∧ k ≤ c ∧ 0 ≤ m
/-- what stood at a def's entry; pa: what alone of it may change -/
structure Bs where
  S0 : Hp
  H0 : Hp
  pa : Option Addr
  pd : Bool := true
structure Frm (B : Bs) (S H : Hp) : Prop where
  s : Ex B.S0 S
  h : ∀ b o, B.H0 b = some o → B.pa ≠ some b → NT o → H b = some o
  t : ∀ b ps, B.H0 b = some (.tbl ps) → ∃ qs, H b = some (.tbl qs)
  no : ∀ b o, B.H0 b = some o → B.S0 b = none → S b = none
  pa : ∀ a, B.pa = some a → ∃ o, H a = some o
theorem Frm.pl {B : Bs} (f : Frm B S H) {b : Addr} {o : HO} (h : B.H0 b = some o) (n : B.pa ≠ some b) (p : HO.plain o = true := by rfl) : H b = some o := f.h b o h n (nt_plain p)
theorem Frm.there {B : Bs} (f : Frm B S H) {b : Addr} {o : HO} (h : B.H0 b = some o) : ∃ o', H b = some o' := by
  by_cases e : B.pa = some b
  · exact f.pa b e
  · cases o with
    | tbl ps => obtain ⟨qs, q⟩ := f.t b ps h; exact ⟨_, q⟩
    | ext φ => exact ⟨_, f.h b _ h e fun _ z => nomatch z⟩
    | _ => exact ⟨_, f.h b _ h e (nt_plain rfl)⟩
/-- a slot: not known, data, a list of one's own that may be changed, a dict of one's own -/
inductive Sl where
  | un | law (ns : List Int) | dat (d : D) | own (ds : List D) | hp (ds : List D) | ownK (kvs : List (Key × D)) | ownT (kvs : List (List Key × D))
  /-- a dict of one's own, its keys numbers or None; a list of one's own that no name holds, where it stands -/
  | ownN (kvs : List (NK × D)) | kp (a : Addr) (ds : List D)
  /-- a dict handed in that may be changed -/
  | hpK (kvs : List (Key × D))
structure DS where
  sl : List Sl
  pen : Pen
def SlOk (K : PySem.W.Frag) (B : Bs) (S H : Hp) (oa : Option Addr) (ov : Option (Option V)) : Sl → Prop
  | .un => oa = none
  | .law ns => oa = none ∧ B.pa = none ∧ ∃ a, ov = some (some (.ref a)) ∧ SqL K S a (ns.map V.int)
  | .dat d => oa = none ∧ ∃ v, ov = some (some v) ∧ Dn K S v d
  | .own ds => ∃ a vs, oa = some a ∧ B.H0 a = none ∧ B.pa ≠ some a ∧ ov = some (some (.ref a)) ∧ H a = some (.lst vs) ∧ DnA K S vs ds
  | .hp ds => ∃ a vs, oa = some a ∧ B.pa = some a ∧ ov = some (some (.ref a)) ∧ H a = some (.lst vs) ∧ DnA K S vs ds
  | .ownK es => ∃ a kvs, oa = some a ∧ B.H0 a = none ∧ B.pa ≠ some a ∧ ov = some (some (.ref a)) ∧ H a = some (.dK kvs) ∧ kvs.map (·.1) = es.map (·.1) ∧ DnA K S (kvs.map (·.2)) (es.map (·.2))
  | .ownT es => ∃ a kvs, oa = some a ∧ B.H0 a = none ∧ B.pa ≠ some a ∧ ov = some (some (.ref a)) ∧ H a = some (.dT kvs) ∧ kvs.map (·.1) = es.map (·.1) ∧ DnA K S (kvs.map (·.2)) (es.map (·.2))
  | .ownN es => ∃ a kvs, oa = some a ∧ B.H0 a = none ∧ B.pa ≠ some a ∧ ov = some (some (.ref a)) ∧ H a = some (NoD a kvs) ∧ kvs.map (·.1) = es.map (·.1) ∧ DnA K S (kvs.map (·.2)) (es.map (·.2))
  | .kp a ds => ∃ vs, oa = some a ∧ B.H0 a = none ∧ B.pa ≠ some a ∧ H a = some (.lst vs) ∧ DnA K S vs ds
  | .hpK es => ∃ a kvs, oa = some a ∧ B.pa = some a ∧ ov = some (some (.ref a)) ∧ H a = some (.dK kvs) ∧ kvs.map (·.1) = es.map (·.1) ∧ DnA K S (kvs.map (·.2)) (es.map (·.2))
/-- a heap that has grown: what was known is, what was known and not frozen is not frozen -/
structure Grow (S H S' H' : Hp) : Prop where
  s : Ex S S'
  h : Ext H H'
  ok : Sb S' H'
  no : ∀ b o, H b = some o → S b = none → S' b = none
theorem Grow.refl (e : Sb S H) : Grow S H S H := ⟨Ex.refl _, Ext.refl _, e, fun _ _ _ h => h⟩
theorem Grow.trans {S1 H1 : Hp} (a : Grow S H S1 H1) (b : Grow S1 H1 S' H') : Grow S H S' H' :=
  ⟨a.s.trans b.s, a.h.trans b.h, b.ok, fun c o h n => by
    obtain ⟨o', q⟩ := a.h.there h
    exact b.no c o' q (a.no c o h n)⟩
theorem Grow.new {p : Addr} {o : HO} (e : Sb S H) (hp : H p = none) : Grow S H (upd S p o) (upd H p o) := by
  have sp : S p = none := e.none hp
  refine ⟨Ex.new sp, Ext.of (Ex.new hp), ⟨fun a u h => ?_, fun a u h => ?_, e.tb.at_ p (fun b u n h => by rw [upd_ne n]; exact h) (fun u z => by rw [hp] at z; cases z) fun b n z => by rw [upd_ne n]; exact z⟩, fun b u h n => ?_⟩
  · by_cases q : a = p
    · subst q; rw [upd_same] at h ⊢; exact h
    · rw [upd_ne q] at h ⊢; exact e a u h
  · by_cases q : a = p
    · subst q; rw [upd_same] at h ⊢; exact h
    · rw [upd_ne q] at h ⊢; exact e.tp a u h
  · rw [upd_ne (ne_of_none h hp)]; exact n
/-- the pen is the one that B names, or it was born since -/
def PaOk (B : Bs) (p : Pen) : Prop := if B.pd = true ∧ B.pa ≠ none then p.map (·.1) = B.pa else ∀ a c, p = some (a, c) → B.H0 a = none ∧ B.pa ≠ some a
structure Rel (K : PySem.W.Frag) (B : Bs) (δ : DS) (S : Hp) (σ : L2.St) (H : Hp) : Prop where
  ex : Sb S H
  fr : Frm B S H
  pen : PenOk S H δ.pen
  pa : PaOk B δ.pen
  len : σ.length = δ.sl.length
  sl : ∃ ow : Nat → Option Addr, (∀ i x, δ.sl[i]? = some x → SlOk K B S H (ow i) σ[i]? x) ∧ (∀ i, δ.sl.length ≤ i → ow i = none) ∧ (∀ i j a, ow i = some a → ow j = some a → i = j) ∧
    ∀ i a, ow i = some a → S a = none ∧ (B.H0 a = none ∨ B.pa = some a) ∧ (∀ c, δ.pen ≠ some (a, c)) ∧ ∃ o, H a = some o
theorem SlOk.grow {B : Bs} {oa : Option Addr} {ov : Option (Option V)} {x : Sl} (e : Ex S S') (h : ∀ a o, oa = some a → H a = some o → NT o → H' a = some o) (q : SlOk K B S H oa ov x) : SlOk K B S' H' oa ov x := by
  cases x with
  | un => exact q
  | law ns => obtain ⟨a, v, b, c, d⟩ := q; exact ⟨a, v, b, c, e.sqL d⟩
  | dat d => obtain ⟨a, v, b, c⟩ := q; exact ⟨a, v, b, c.mono e⟩
  | own ds => obtain ⟨a, vs, p1, n1, n2, p2, p3, p4⟩ := q; exact ⟨a, vs, p1, n1, n2, p2, h a _ p1 p3 (nt_plain rfl), p4.mono e⟩
  | hp ds => obtain ⟨a, vs, p1, p0, p2, p3, p4⟩ := q; exact ⟨a, vs, p1, p0, p2, h a _ p1 p3 (nt_plain rfl), p4.mono e⟩
  | ownK es => obtain ⟨a, kvs, p1, n1, n2, p2, p3, p4, p5⟩ := q; exact ⟨a, kvs, p1, n1, n2, p2, h a _ p1 p3 (nt_plain rfl), p4, p5.mono e⟩
  | ownT es => obtain ⟨a, kvs, p1, n1, n2, p2, p3, p4, p5⟩ := q; exact ⟨a, kvs, p1, n1, n2, p2, h a _ p1 p3 (nt_plain rfl), p4, p5.mono e⟩
  | ownN es => obtain ⟨a, kvs, p1, n1, n2, p2, p3, p4, p5⟩ := q; exact ⟨a, kvs, p1, n1, n2, p2, h a _ p1 p3 own_nod.1, p4, p5.mono e⟩
  | kp a ds => obtain ⟨vs, p1, n1, n2, p3, p4⟩ := q; exact ⟨vs, p1, n1, n2, h a _ p1 p3 (nt_plain rfl), p4.mono e⟩
  | hpK es => obtain ⟨a, kvs, p1, p0, p2, p3, p4, p5⟩ := q; exact ⟨a, kvs, p1, p0, p2, h a _ p1 p3 (nt_plain rfl), p4, p5.mono e⟩
/-- what is one's own is no table -/
theorem SlOk.pl {B : Bs} {p : Addr} {ov : Option (Option V)} {x : Sl} (q : SlOk K B S H (some p) ov x) : ∃ o, H p = some o ∧ HO.own o := by
  cases x with
  | un => cases q
  | law ns => cases q.1
  | dat d => cases q.1
  | own ds => obtain ⟨a, vs, p1, n1, n2, p2, p3, p4⟩ := q; cases p1; exact ⟨_, p3, own_plain rfl⟩
  | hp ds => obtain ⟨a, vs, p1, p0, p2, p3, p4⟩ := q; cases p1; exact ⟨_, p3, own_plain rfl⟩
  | ownK es => obtain ⟨a, kvs, p1, n1, n2, p2, p3, p4, p5⟩ := q; cases p1; exact ⟨_, p3, own_plain rfl⟩
  | ownT es => obtain ⟨a, kvs, p1, n1, n2, p2, p3, p4, p5⟩ := q; cases p1; exact ⟨_, p3, own_plain rfl⟩
  | ownN es => obtain ⟨a, kvs, p1, n1, n2, p2, p3, p4, p5⟩ := q; cases p1; exact ⟨_, p3, own_nod⟩
  | kp a ds => obtain ⟨vs, p1, n1, n2, p3, p4⟩ := q; cases p1; exact ⟨_, p3, own_plain rfl⟩
  | hpK es => obtain ⟨a, vs, p1, p0, p2, p3, p4⟩ := q; cases p1; exact ⟨_, p3, own_plain rfl⟩
theorem SlOk.plA {B : Bs} {p : Addr} {oa : Option Addr} {ov : Option (Option V)} {x : Sl} (q : SlOk K B S H oa ov x) (e : oa = some p) : ∃ o, H p = some o ∧ HO.own o := by
  subst e; exact q.pl
theorem PenOk.grow {p : Pen} (g : Grow S H S' H') (q : PenOk S H p) : PenOk S' H' p := by
  match p, q with
  | none, _ => trivial
  | some (a, c), ⟨n, ca, ns, k, m, h1, h2, h3⟩ => exact ⟨g.no a _ h1 n, ca, ns, k, m, g.h.pl h1 penO_pl, g.s _ _ h2, h3⟩
theorem Frm.grow {B : Bs} (f : Frm B S H) (g : Grow S H S' H') : Frm B S' H' where
  s := f.s.trans g.s
  h := fun b o h q n => g.h.h _ _ (f.h b o h q n) n
  t := fun b ps h => by
    obtain ⟨qs, q⟩ := f.t b ps h
    exact g.h.t b qs q
  no := fun b o h n => by
    obtain ⟨o', q⟩ := f.there h
    exact g.no b o' q (f.no b o h n)
  pa := fun a e => by
    obtain ⟨o, q⟩ := f.pa a e
    exact g.h.there q
theorem Rel.grow {B : Bs} {δ : DS} {σ : L2.St} (R : Rel K B δ S σ H) (g : Grow S H S' H') : Rel K B δ S' σ H' := by
  obtain ⟨ow, h1, h2, h3, h4⟩ := R.sl
  refine ⟨g.ok, R.fr.grow g, R.pen.grow g, R.pa, R.len, ow, fun i x e => (h1 i x e).grow g.s fun a o _ q pl => g.h.h _ _ q pl, h2, h3, fun i a e => ?_⟩
  obtain ⟨q1, q2, q3, o, q4⟩ := h4 i a e
  exact ⟨g.no a o q4 q1, q2, q3, g.h.there q4⟩
/-- an exception: its class, its one field -/
structure Xc where
  cls : Nat
  at_ : Option (Str × D)
def XcOk (K : PySem.W.Frag) (S H : Hp) (c : Xc) (cls : Value) (od : Option Addr) : Prop :=
  cls = TabC.xc c.cls ∧ match c.at_ with
    | none => od = none
    | some (f, d) => ∃ a v, od = some a ∧ S a = some (.xd [(f, v)]) ∧ Dn K S v d
abbrev XW := Xc → DS → Prop
abbrev dE := XW → DS → (D → DS → Prop) → Prop
abbrev dF := XW → DS → (List D → DS → Prop) → Prop
abbrev dT := XW → DS → (Bool → DS → Prop) → Prop
abbrev dA := XW → DS → (List D → DS → Prop) → Prop
structure dEnds where
  nx : DS → Prop
  rt : D → DS → Prop
  bk : DS → Prop := fun _ => False
  ct : DS → Prop := fun _ => False
  rl : List D → DS → Prop := fun _ _ => False
abbrev dS := XW → dEnds → DS → Prop
abbrev dG := D → DS → (DS → Prop) → Prop
abbrev EK := L2.St → XK
def XOk (K : PySem.W.Frag) (B : Bs) (E : EK) (W : XW) (S : Hp) : Prop :=
  ∀ c δ' σ' S' H' cls od, W c δ' → Ex S S' → Rel K B δ' S' σ' H' → XcOk K S' H' c cls od → E σ' cls od H'
theorem XOk.mono {B : Bs} {E : EK} {W : XW} (h : XOk K B E W S) (e : Ex S S') : XOk K B E W S' :=
  fun c δ' σ' S1 H' cls od w x r k => h c δ' σ' S1 H' cls od w (e.trans x) r k
def liftE (K : PySem.W.Frag) (B : Bs) (E : EK) (d : dE) : TE := fun σ H Q => ∃ δ S W Q', Rel K B δ S σ H ∧ d W δ Q' ∧ XOk K B E W S ∧
  ∀ x δ' v S' H', Q' x δ' → Ex S S' → Rel K B δ' S' σ H' → Dn K S' v x → Q v H'
/-- a new list, of one's own still -/
def liftF (K : PySem.W.Frag) (B : Bs) (E : EK) (d : dF) : TE := fun σ H Q => ∃ δ S W Q', Rel K B δ S σ H ∧ d W δ Q' ∧ XOk K B E W S ∧
  ∀ xs δ' p vs S' H', Q' xs δ' → Ex S S' → Rel K B δ' S' σ H' → H' p = none → DnA K S' vs xs → Q (.ref p) (upd H' p (.lst vs))
def liftT (K : PySem.W.Frag) (B : Bs) (E : EK) (d : dT) : TT := fun σ H Q => ∃ δ S W Q', Rel K B δ S σ H ∧ d W δ Q' ∧ XOk K B E W S ∧
  ∀ x δ' S' H', Q' x δ' → Ex S S' → Rel K B δ' S' σ H' → Q x H'
def liftA (K : PySem.W.Frag) (B : Bs) (E : EK) (d : dA) : TA := fun σ H Q => ∃ δ S W Q', Rel K B δ S σ H ∧ d W δ Q' ∧ XOk K B E W S ∧
  ∀ xs δ' vs S' H', Q' xs δ' → Ex S S' → Rel K B δ' S' σ H' → DnA K S' vs xs → Q vs H'
def liftS (K : PySem.W.Frag) (B : Bs) (E : EK) (d : dS) : TS := fun Z σ H => ∃ δ S W N, Rel K B δ S σ H ∧ d W N δ ∧ XOk K B E W S ∧
  (∀ δ' σ' S' H', N.nx δ' → Ex S S' → Rel K B δ' S' σ' H' → Z.nx σ' H') ∧
  (∀ x δ' v σ' S' H', N.rt x δ' → Ex S S' → Rel K B δ' S' σ' H' → Dn K S' v x → Z.rt v H') ∧
  (∀ δ' σ' S' H', N.bk δ' → Ex S S' → Rel K B δ' S' σ' H' → Z.bk σ' H') ∧
  (∀ δ' σ' S' H', N.ct δ' → Ex S S' → Rel K B δ' S' σ' H' → Z.ct σ' H') ∧
  (∀ xs δ' p vs σ' S' H', N.rl xs δ' → Ex S S' → Rel K B δ' S' σ' H' → H' p = none → DnA K S' vs xs → Z.rt (.ref p) (upd H' p (.lst vs)))
def liftG (K : PySem.W.Frag) (B : Bs) (g : dG) (vs : List Nat) : TG := fun v σ H Q => ∃ δ S d Q', Rel K B δ S σ H ∧ Dn K S v d ∧ g d δ Q' ∧
  ∀ δ' σ' S' H', Q' δ' → Ex S S' → Rel K B δ' S' σ' H' → (∀ i, i ∉ vs → σ'[i]? = σ[i]?) → σ'.length = σ.length → Q σ' H'
structure DE (X : Cx) (E : EK) (e : Expr) (d : dE) : Prop where
  run : ∀ B, PE X e (liftE X.K B E d)
structure DF (X : Cx) (E : EK) (e : Expr) (d : dF) : Prop where
  run : ∀ B, PE X e (liftF X.K B E d)
structure DT (X : Cx) (E : EK) (e : Expr) (d : dT) : Prop where
  run : ∀ B, PT X e (liftT X.K B E d)
structure DA (X : Cx) (E : EK) (es : List Expr) (d : dA) : Prop where
  run : ∀ B, PA X es (liftA X.K B E d)
structure DSt (X : Cx) (E : EK) (st : Stmt) (d : dS) : Prop where
  run : ∀ B, PS X st (liftS X.K B E d)
structure DSs (X : Cx) (E : EK) (st : List Stmt) (d : dS) : Prop where
  run : ∀ B, PSs X st (liftS X.K B E d)
structure DG (X : Cx) (tg : Expr) (g : dG) (vs : List Nat) : Prop where
  run : ∀ B, PG X tg (liftG X.K B g vs)
section
variable {X : Cx} {e : Expr} {st : Stmt} {sts : List Stmt} {es : List Expr}
theorem pe_mono {t t' : TE} (h : PE X e t) (m : ∀ σ H Q, t' σ H Q → t σ H Q) : PE X e t' := ⟨fun pins s σ H Q I q => h.run pins s σ H Q I (m _ _ _ q)⟩
theorem pt_mono {t t' : TT} (h : PT X e t) (m : ∀ σ H Q, t' σ H Q → t σ H Q) : PT X e t' := ⟨fun pins s σ H Q I q => h.run pins s σ H Q I (m _ _ _ q)⟩
theorem pw_mono {t t' : TT} (h : PW X e t) (m : ∀ σ H Q, t' σ H Q → t σ H Q) : PW X e t' := ⟨fun wh pins s σ H Q I q => h.run wh pins s σ H Q I (m _ _ _ q)⟩
theorem pa_mono {t t' : TA} (h : PA X es t) (m : ∀ σ H Q, t' σ H Q → t σ H Q) : PA X es t' := ⟨fun pos pins s σ H Q I q => h.run pos pins s σ H Q I (m _ _ _ q)⟩
theorem ps_mono {t t' : TS} (h : PS X st t) (m : ∀ Z σ H, t' Z σ H → t Z σ H) : PS X st t' := ⟨fun pins s σ H Z I q => h.run pins s σ H Z I (m _ _ _ q)⟩
theorem pss_mono {t t' : TS} (h : PSs X sts t) (m : ∀ Z σ H, t' Z σ H → t Z σ H) : PSs X sts t' := ⟨fun pins s σ H Z I q => h.run pins s σ H Z I (m _ _ _ q)⟩
end
end Ev
namespace Ev
open PySem PySem.Spec PyProof.Rows L2
variable [TabC]
variable {K : PySem.W.Frag} {S S' H H' : Hp} {B : Bs} {δ : DS} {σ : L2.St}
theorem Rel.dat (R : Rel K B δ S σ H) {i : Nat} {d : D} (h : δ.sl[i]? = some (.dat d)) : ∃ v, σ[i]? = some (some v) ∧ Dn K S v d := by
  obtain ⟨ow, h1, _⟩ := R.sl
  obtain ⟨_, v, e, q⟩ := h1 i _ h
  exact ⟨v, e, q⟩
theorem Rel.law (R : Rel K B δ S σ H) {i : Nat} {ns : List Int} (h : δ.sl[i]? = some (.law ns)) : B.pa = none ∧ ∃ v, σ[i]? = some (some v) ∧ Dn K S v (.scr ns) := by
  obtain ⟨ow, h1, _⟩ := R.sl
  obtain ⟨_, e, a, q1, q2⟩ := h1 i _ h
  exact ⟨e, _, q1, .scr q2⟩
theorem Rel.new (R : Rel K B δ S σ H) {p : Addr} {o : HO} (hp : H p = none) : Rel K B δ (upd S p o) σ (upd H p o) := R.grow (Grow.new R.ex hp)
section
variable {X : Cx} {E : EK} {e a b c : Expr} {es : List Expr} {pos : Pos}
def dVar (i : Nat) : dE := fun _ δ Q => match δ.sl[i]? with | some (.dat d) => Q d δ | some (.law ns) => Q (.scr ns) δ | _ => False
theorem de_var {i : Nat} {x : Str} (h : PE X (.Name x pos) (tVar i)) : DE X E (.Name x pos) (dVar i) := ⟨fun B => pe_mono h fun σ H Q q => by
  obtain ⟨δ, S, W, Q', R, q, _, post⟩ := q
  unfold dVar at q
  split at q
  · rename_i d hd
    obtain ⟨v, e1, e2⟩ := R.dat hd
    exact ⟨v, e1, post _ _ _ _ _ q (Ex.refl _) R e2⟩
  · rename_i ns hd
    obtain ⟨_, v, e1, e2⟩ := R.law hd
    exact ⟨v, e1, post _ _ _ _ _ q (Ex.refl _) R e2⟩
  · exact q.elim⟩
def dC (d : D) : dE := fun _ δ Q => Q d δ
theorem de_c {v : V} {d : D} (h : PE X e (tC v)) (k : ∀ S, Dn X.K S v d) : DE X E e (dC d) := ⟨fun B => pe_mono h fun σ H Q q => by
  obtain ⟨δ, S, W, Q', R, q, _, post⟩ := q
  exact post _ _ _ _ _ q (Ex.refl _) R (k S)⟩
theorem de_int {i j} : DE X E (.Constant (.int i) j pos) (dC (.int i)) := de_c pe_int fun _ => .int i
theorem de_bl {i j} : DE X E (.Constant (.bool i) j pos) (dC (.bl i)) := de_c pe_bl fun _ => .bl i
theorem de_non {j} : DE X E (.Constant .none j pos) (dC .non) := de_c pe_non fun _ => .non
theorem de_str {i j} : DE X E (.Constant (.str i) j pos) (dC (.str i)) := de_c pe_str fun _ => .str i
abbrev DR2 := D → D → (D → Prop) → Prop
def liftR (K : PySem.W.Frag) (r : DR2) : R2 := fun x y H Q => ∃ S dx dy Q', Sb S H ∧ Dn K S x dx ∧ Dn K S y dy ∧ r dx dy Q' ∧ ∀ dz v S' H', Q' dz → Grow S H S' H' → Dn K S' v dz → Q v H'
def OpD (X : Cx) (f : Value → Value → Sem Value) (r : DR2) : Prop := OpR X f (liftR X.K r)
def dBin (r : DR2) (da db : dE) : dE := fun W δ Q => da W δ fun x δ1 => db W δ1 fun y δ2 => r x y fun z => Q z δ2
theorem lift_bin {r : DR2} {da db : dE} {σ : L2.St} {H : Hp} {Q : VK} (q : liftE K B E (dBin r da db) σ H Q) : tOp (liftR K r) (liftE K B E da) (liftE K B E db) σ H Q := by
  obtain ⟨δ, S, W, Q', R, q, xo, post⟩ := q
  refine ⟨δ, S, W, _, R, q, xo, fun x δ1 v S1 H1 q1 e1 R1 n1 => ?_⟩
  refine ⟨δ1, S1, W, _, R1, q1, xo.mono e1, fun y δ2 u S2 H2 q2 e2 R2 n2 => ?_⟩
  exact ⟨S2, x, y, _, R2.ex, n1.mono e2, n2, q2, fun dz v S' H' q3 g n3 => post _ _ _ _ _ q3 ((e1.trans e2).trans g.s) (R2.grow g) n3⟩
theorem de_op {op : Operator} {r : DR2} {da db : dE} (ho : OpD X (binaryOp op) r) (ha : DE X E a da) (hb : DE X E b db) : DE X E (.BinOp a op b pos) (dBin r da db) :=
  ⟨fun B => pe_mono (pe_op ho (ha.run B) (hb.run B)) fun σ H Q q => lift_bin q⟩
theorem de_cmp {op : CmpOp} {r : DR2} {da db : dE} (ho : OpD X (compareOp op) r) (ha : DE X E a da) (hb : DE X E b db) (hm : behindInMarks op b = false) : DE X E (.Compare a [op] [b] pos) (dBin r da db) :=
  ⟨fun B => pe_mono (pe_cmpR ho (ha.run B) (hb.run B) hm) fun σ H Q q => lift_bin q⟩
/-- an expression that gives a bool, as a test -/
def dB (d : dE) : dT := fun W δ Q => d W δ fun x δ' => match x with | .bl k => Q k δ' | _ => False
theorem lift_B {d : dE} {σ : L2.St} {H : Hp} {Q : Bool → Hp → Prop} (q : liftT K B E (dB d) σ H Q) : liftE K B E d σ H fun x H' => ∃ k, x = .bl k ∧ Q k H' := by
  obtain ⟨δ, S, W, Q', R, q, xo, post⟩ := q
  refine ⟨δ, S, W, _, R, q, xo, fun x δ1 v S1 H1 q1 e1 R1 n1 => ?_⟩
  cases x with
  | bl k => cases n1; exact ⟨k, rfl, post _ _ _ _ q1 e1 R1⟩
  | _ => exact q1.elim
theorem dt_cmp {op : CmpOp} {r : DR2} {da db : dE} (ho : OpD X (compareOp op) r) (ha : DE X E a da) (hb : DE X E b db) (hm : behindInMarks op b = false) : DT X E (.Compare a [op] [b] pos) (dB (dBin r da db)) :=
  ⟨fun B => pt_mono (pt_cmpR ho (ha.run B) (hb.run B) hm) fun σ H Q q => by
    have q := lift_B q
    exact lift_bin (Q := fun x H' => ∃ k, x = .bl k ∧ Q k H') q⟩
theorem dt_val {d : dE} (h : DE X E e d) (he : ∀ whole, isTrue e X.env whole = (do let v ← whole; standAt e.pos; holding [v] (truthy v)) := by intro _; rfl) : DT X E e (dB d) :=
  ⟨fun B => pt_mono (pt_val (h.run B) he) fun σ H Q q => lift_B q⟩
/-- a < b < c -/
def dChain (r r' : DR2) (da db dc : dE) : dE := fun W δ Q => da W δ fun x δ1 => db W δ1 fun y δ2 => r x y fun z => match z with
  | .bl true => dc W δ2 fun u δ3 => r' y u fun z' => Q z' δ3
  | .bl false => Q (.bl false) δ2
  | _ => False
theorem lift_chain {r r' : DR2} {da db dc : dE} {σ : L2.St} {H : Hp} {Q : VK} (q : liftE K B E (dChain r r' da db dc) σ H Q) : tChain (liftR K r) (liftR K r') (liftE K B E da) (liftE K B E db) (liftE K B E dc) σ H Q := by
  obtain ⟨δ, S, W, Q', R, q, xo, post⟩ := q
  refine ⟨δ, S, W, _, R, q, xo, fun x δ1 v S1 H1 q1 e1 R1 n1 => ?_⟩
  refine ⟨δ1, S1, W, _, R1, q1, xo.mono e1, fun y δ2 u S2 H2 q2 e2 R2 n2 => ?_⟩
  refine ⟨S2, x, y, _, R2.ex, n1.mono e2, n2, q2, fun dz vz S3 H3 q3 g n3 => ?_⟩
  cases dz with
  | bl k =>
    cases n3
    refine ⟨k, rfl, ?_⟩
    cases k with
    | true =>
      rw [if_pos rfl]
      refine ⟨δ2, S3, W, _, R2.grow g, q3, xo.mono ((e1.trans e2).trans g.s), fun z δ3 w S4 H4 q4 e4 R4 n4 => ?_⟩
      exact ⟨S4, y, z, _, R4.ex, n2.mono (g.s.trans e4), n4, q4, fun dz v S' H' q5 g5 n5 => post _ _ _ _ _ q5 ((((e1.trans e2).trans g.s).trans e4).trans g5.s) (R4.grow g5) n5⟩
    | false =>
      rw [if_neg Bool.false_ne_true]
      exact post _ _ _ _ _ q3 ((e1.trans e2).trans g.s) (R2.grow g) (.bl false)
  | _ => exact q3.elim
theorem de_chain {op op' : CmpOp} {r r' : DR2} {da db dc : dE} (ho : OpD X (compareOp op) r) (ho' : OpD X (compareOp op') r') (ha : DE X E a da) (hb : DE X E b db) (hc : DE X E c dc) (hm : lastMarks [op, op'] [b, c] = false := by with_unfolding_all rfl) :
    DE X E (.Compare a [op, op'] [b, c] pos) (dChain r r' da db dc) := ⟨fun B => pe_mono (pe_chain ho ho' (ha.run B) (hb.run B) (hc.run B) hm) fun σ H Q q => lift_chain q⟩
variable {ta tb : dT} {da db : dE} {rest : List Expr}
structure DW (X : Cx) (E : EK) (e : Expr) (d : dT) : Prop where
  run : ∀ B, PW X e (liftT X.K B E d)
theorem DW.dt (h : DW X E e ta) : DT X E e ta := ⟨fun B => (h.run B).pt⟩
def dAnd (t u : dT) : dT := fun W δ Q => t W δ fun k δ1 => match k with | true => u W δ1 Q | false => Q false δ1
def dOr (t u : dT) : dT := fun W δ Q => t W δ fun k δ1 => match k with | true => Q true δ1 | false => u W δ1 Q
def dNot (t : dT) : dT := fun W δ Q => t W δ fun k δ1 => Q (!k) δ1
theorem dw_and1 (h : DT X E a ta) : DW X E (.BoolOp .And [a] pos) ta := ⟨fun B => pw_and1 (h.run B)⟩
theorem dw_or1 (h : DT X E a ta) : DW X E (.BoolOp .Or [a] pos) ta := ⟨fun B => pw_or1 (h.run B)⟩
theorem dw_and (h : DT X E a ta) (h2 : DW X E (.BoolOp .And (b :: rest) pos) tb) : DW X E (.BoolOp .And (a :: b :: rest) pos) (dAnd ta tb) :=
  ⟨fun B => pw_mono (pw_and (h.run B) (h2.run B)) fun σ H Q q => by
    obtain ⟨δ, S, W, Q', R, q, xo, post⟩ := q
    refine ⟨δ, S, W, _, R, q, xo, fun k δ1 S1 H1 q1 e1 R1 => ?_⟩
    cases k with
    | true => rw [if_pos rfl]; exact ⟨δ1, S1, W, _, R1, q1, xo.mono e1, fun k δ2 S2 H2 q2 e2 R2 => post _ _ _ _ q2 (e1.trans e2) R2⟩
    | false => rw [if_neg Bool.false_ne_true]; exact post _ _ _ _ q1 e1 R1⟩
theorem dw_or (h : DT X E a ta) (h2 : DW X E (.BoolOp .Or (b :: rest) pos) tb) : DW X E (.BoolOp .Or (a :: b :: rest) pos) (dOr ta tb) :=
  ⟨fun B => pw_mono (pw_or (h.run B) (h2.run B)) fun σ H Q q => by
    obtain ⟨δ, S, W, Q', R, q, xo, post⟩ := q
    refine ⟨δ, S, W, _, R, q, xo, fun k δ1 S1 H1 q1 e1 R1 => ?_⟩
    cases k with
    | false => rw [if_neg Bool.false_ne_true]; exact ⟨δ1, S1, W, _, R1, q1, xo.mono e1, fun k δ2 S2 H2 q2 e2 R2 => post _ _ _ _ q2 (e1.trans e2) R2⟩
    | true => rw [if_pos rfl]; exact post _ _ _ _ q1 e1 R1⟩
theorem dt_not (h : DT X E a ta) : DT X E (.UnaryOp .Not a pos) (dNot ta) := ⟨fun B => pt_mono (pt_not (h.run B)) fun σ H Q q => by
  obtain ⟨δ, S, W, Q', R, q, xo, post⟩ := q
  exact ⟨δ, S, W, _, R, q, xo, fun k δ1 S1 H1 q1 e1 R1 => post _ _ _ _ q1 e1 R1⟩⟩
/-- as values: bools -/
def dAndV (x y : dE) : dE := fun W δ Q => x W δ fun k δ1 => match k with | .bl true => y W δ1 Q | .bl false => Q (.bl false) δ1 | _ => False
def dOrV (x y : dE) : dE := fun W δ Q => x W δ fun k δ1 => match k with | .bl true => Q (.bl true) δ1 | .bl false => y W δ1 Q | _ => False
def dNotV (x : dE) : dE := fun W δ Q => x W δ fun k δ1 => match k with | .bl k => Q (.bl (!k)) δ1 | _ => False
theorem de_one {op} (h : DE X E a da) : DE X E (.BoolOp op [a] pos) da := ⟨fun B => pe_one (h.run B)⟩
theorem de_and (h : DE X E a da) (h2 : DE X E (.BoolOp .And (b :: rest) pos) db) : DE X E (.BoolOp .And (a :: b :: rest) pos) (dAndV da db) :=
  ⟨fun B => pe_mono (pe_and (h.run B) (h2.run B)) fun σ H Q q => by
    obtain ⟨δ, S, W, Q', R, q, xo, post⟩ := q
    refine ⟨δ, S, W, _, R, q, xo, fun k δ1 v S1 H1 q1 e1 R1 n1 => ?_⟩
    cases k with
    | bl k =>
      cases n1
      refine ⟨k, rfl, ?_⟩
      cases k with
      | true => rw [if_pos rfl]; exact ⟨δ1, S1, W, _, R1, q1, xo.mono e1, fun x δ2 v S2 H2 q2 e2 R2 n2 => post _ _ _ _ _ q2 (e1.trans e2) R2 n2⟩
      | false => rw [if_neg Bool.false_ne_true]; exact post _ _ _ _ _ q1 e1 R1 (.bl false)
    | _ => exact q1.elim⟩
theorem de_not (h : DE X E a da) : DE X E (.UnaryOp .Not a pos) (dNotV da) := ⟨fun B => pe_mono (pe_not (h.run B)) fun σ H Q q => by
  obtain ⟨δ, S, W, Q', R, q, xo, post⟩ := q
  refine ⟨δ, S, W, _, R, q, xo, fun k δ1 v S1 H1 q1 e1 R1 n1 => ?_⟩
  cases k with
  | bl k => cases n1; exact ⟨k, rfl, post _ _ _ _ _ q1 e1 R1 (.bl _)⟩
  | _ => exact q1.elim⟩
def dIf (t : dT) (x y : dE) : dE := fun W δ Q => t W δ fun k δ1 => match k with | true => x W δ1 Q | false => y W δ1 Q
def dNil : dA := fun _ δ Q => Q [] δ
def dCons (x : dE) (r : dA) : dA := fun W δ Q => x W δ fun d δ1 => r W δ1 fun ds δ2 => Q (d :: ds) δ2
theorem da_nil : DA X E [] dNil := ⟨fun B => pa_mono pa_nil fun σ H Q q => by
  obtain ⟨δ, S, W, Q', R, q, xo, post⟩ := q
  exact post _ _ _ _ _ q (Ex.refl _) R .nil⟩
theorem da_cons {r : dA} (h : DE X E e da) (hr : DA X E es r) (hs : starEach (e :: es) X.env = (false, eval e X.env) :: starEach es X.env := by rfl) : DA X E (e :: es) (dCons da r) := ⟨fun B => pa_mono (pa_cons (h.run B) (hr.run B) hs) fun σ H Q q => by
  obtain ⟨δ, S, W, Q', R, q, xo, post⟩ := q
  refine ⟨δ, S, W, _, R, q, xo, fun x δ1 v S1 H1 q1 e1 R1 n1 => ?_⟩
  exact ⟨δ1, S1, W, _, R1, q1, xo.mono e1, fun xs δ2 vs S2 H2 q2 e2 R2 n2 => post _ _ _ _ _ q2 (e1.trans e2) R2 (.cons (n1.mono e2) n2)⟩⟩
def dTup (r : dA) : dE := fun W δ Q => r W δ fun xs δ1 => xs.length ≤ sizeLine ∧ Q (.tup xs) δ1
theorem de_tup {r : dA} {x1} (h : DA X E es r) : DE X E (.Tuple es x1 pos) (dTup r) := ⟨fun B => pe_mono (pe_tup (h.run B)) fun σ H Q q => by
  obtain ⟨δ, S, W, Q', R, q, xo, post⟩ := q
  refine ⟨δ, S, W, _, R, q, xo, fun xs δ1 vs S1 H1 q1 e1 R1 n1 => ⟨by rw [n1.length]; exact q1.1, fun p hp => ?_⟩⟩
  have g := Grow.new (o := .tup vs) R1.ex hp
  exact post _ _ _ _ _ q1.2 (e1.trans g.s) (R1.grow g) (.tup upd_same (n1.mono g.s))⟩
def dLst (r : dA) : dF := fun W δ Q => r W δ fun xs δ1 => xs.length ≤ sizeLine ∧ Q xs δ1
theorem df_lst {r : dA} (h : DA X E es r) : DF X E (.List es pos) (dLst r) := ⟨fun B => pe_mono (pe_lst (h.run B)) fun σ H Q q => by
  obtain ⟨δ, S, W, Q', R, q, xo, post⟩ := q
  exact ⟨δ, S, W, _, R, q, xo, fun xs δ1 vs S1 H1 q1 e1 R1 n1 => ⟨by rw [n1.length]; exact q1.1, fun p hp => post _ _ _ _ _ _ q1.2 e1 R1 hp n1⟩⟩⟩
/-- a new list, frozen at once -/
def dFz (f : dF) : dE := fun W δ Q => f W δ fun xs δ1 => Q (.lst xs) δ1
theorem de_fz {f : dF} (h : DF X E e f) : DE X E e (dFz f) := ⟨fun B => pe_mono (h.run B) fun σ H Q q => by
  obtain ⟨δ, S, W, Q', R, q, xo, post⟩ := q
  refine ⟨δ, S, W, _, R, q, xo, fun xs δ1 p vs S1 H1 q1 e1 R1 hp n1 => ?_⟩
  have g := Grow.new (o := .lst vs) R1.ex hp
  exact post _ _ _ _ _ q1 (e1.trans g.s) (R1.grow g) (.lst upd_same (n1.mono g.s))⟩
end
end Ev
namespace Ev
open PySem PySem.Spec PyProof.Rows L2
variable [TabC]
variable {K : PySem.W.Frag} {S S' H H' : Hp} {B : Bs} {δ : DS} {σ : L2.St}
theorem Frm.fresh (f : Frm B S H) {p : Addr} (hp : H p = none) : B.H0 p = none ∧ B.pa ≠ some p := by
  refine ⟨?_, fun e => ?_⟩
  · cases q : B.H0 p with
    | none => rfl
    | some o =>
      obtain ⟨o', e⟩ := f.there q
      rw [hp] at e; cases e
  · obtain ⟨o, q⟩ := f.pa p e
    rw [hp] at q; cases q
theorem Rel.pen_ne (R : Rel K B δ S σ H) {p : Addr} (hp : B.pa ≠ some p) (h0 : ∃ o, B.H0 p = some o) : ∀ c, δ.pen ≠ some (p, c) := fun c e => by
  have h := R.pa
  unfold PaOk at h
  split at h
  · rw [e] at h; exact hp h.symm
  · obtain ⟨o, h0⟩ := h0
    rw [(h p c e).1] at h0; cases h0
theorem Rel.pen_new (R : Rel K B δ S σ H) {p : Addr} (hp : H p = none) : ∀ c, δ.pen ≠ some (p, c) := fun c e => by
  have h := R.pen
  rw [e] at h
  obtain ⟨_, _, _, _, _, q, _⟩ := h
  rw [hp] at q; cases q
theorem get_set {α : Type} {l : List α} {i j : Nat} {x y : α} (h : (l.set i x)[j]? = some y) : (j = i ∧ y = x) ∨ (j ≠ i ∧ l[j]? = some y) := by
  by_cases e : i = j
  · subst e
    by_cases hi : i < l.length
    · rw [List.getElem?_set_self hi] at h; exact .inl ⟨rfl, (Option.some.inj h).symm⟩
    · rw [List.getElem?_eq_none (by simpa using hi)] at h; cases h
  · rw [List.getElem?_set_ne e] at h; exact .inr ⟨fun q => e q.symm, h⟩
/-- slot i becomes data -/
theorem Rel.setDat (R : Rel K B δ S σ H) {i : Nat} {v : V} {d : D} (h : Dn K S v d) : Rel K B { δ with sl := δ.sl.set i (.dat d) } S (σ.set i (some v)) H := by
  obtain ⟨ow, h1, h2, h3, h4⟩ := R.sl
  refine ⟨R.ex, R.fr, R.pen, R.pa, by simpa using R.len, fun j => if j = i then none else ow j, fun j x e => ?_, fun j hj => ?_, fun j k a e1 e2 => ?_, fun j a e => ?_⟩
  · rcases get_set e with ⟨rfl, rfl⟩ | ⟨ne, e⟩
    · have hl : j < σ.length := by
        rw [R.len]
        have := (List.getElem?_eq_some_iff.mp e).1
        simpa using this
      exact ⟨by simp, v, List.getElem?_set_self hl, h⟩
    · have := h1 j x e
      simp only [ne, if_false]
      rw [List.getElem?_set_ne (Ne.symm ne)]
      exact this
  · show (if j = i then none else ow j) = none
    split
    · rfl
    · exact h2 j (by simpa using hj)
  · have e1 : (if j = i then none else ow j) = some a := e1
    have e2 : (if k = i then none else ow k) = some a := e2
    split at e1
    · cases e1
    · split at e2
      · cases e2
      · exact h3 j k a e1 e2
  · have e : (if j = i then none else ow j) = some a := e
    split at e
    · cases e
    · exact h4 j a e
/-- slot i is forgotten -/
theorem Rel.forget (R : Rel K B δ S σ H) {i : Nat} {o : Option V} : Rel K B { δ with sl := δ.sl.set i .un } S (σ.set i o) H := by
  obtain ⟨ow, h1, h2, h3, h4⟩ := R.sl
  refine ⟨R.ex, R.fr, R.pen, R.pa, by simpa using R.len, fun j => if j = i then none else ow j, fun j x e => ?_, fun j hj => ?_, fun j k a e1 e2 => ?_, fun j a e => ?_⟩
  · rcases get_set e with ⟨rfl, rfl⟩ | ⟨ne, e⟩
    · show (if j = j then none else ow j) = none
      simp
    · have := h1 j x e
      simp only [ne, if_false]
      rw [List.getElem?_set_ne (Ne.symm ne)]
      exact this
  · show (if j = i then none else ow j) = none
    split
    · rfl
    · exact h2 j (by simpa using hj)
  · have e1 : (if j = i then none else ow j) = some a := e1
    have e2 : (if k = i then none else ow k) = some a := e2
    split at e1
    · cases e1
    · split at e2
      · cases e2
      · exact h3 j k a e1 e2
  · have e : (if j = i then none else ow j) = some a := e
    split at e
    · cases e
    · exact h4 j a e
/-- other values in slots that are not known -/
theorem Rel.agree (R : Rel K B δ S σ H) {σ' : L2.St} (hl : σ'.length = σ.length) (h : ∀ i : Nat, σ'[i]? = σ[i]? ∨ δ.sl[i]? = some Sl.un) : Rel K B δ S σ' H := by
  obtain ⟨ow, h1, h2, h3, h4⟩ := R.sl
  refine ⟨R.ex, R.fr, R.pen, R.pa, hl.trans R.len, ow, fun i x e => ?_, h2, h3, h4⟩
  rcases h i with q | q
  · rw [q]; exact h1 i x e
  · rw [e] at q
    cases q
    exact h1 i _ e
/-- a new object in slot i, of one's own -/
theorem Rel.setNew (R : Rel K B δ S σ H) {i : Nat} {p : Addr} {o : HO} {x : Sl} (hp : H p = none) (ho : ∀ vs, o ≠ .tup vs)
    (hx : ∀ (H1 : Hp), H1 p = some o → B.H0 p = none → B.pa ≠ some p → SlOk K B S H1 (some p) (some (some (.ref p))) x) : Rel K B { δ with sl := δ.sl.set i x } S (σ.set i (some (.ref p))) (upd H p o) := by
  obtain ⟨f1, f2⟩ := R.fr.fresh hp
  have sp : S p = none := R.ex.none hp
  have g : Grow S H S (upd H p o) := ⟨Ex.refl _, Ext.of (Ex.new hp), R.ex.one hp ho, fun _ _ _ n => n⟩
  have R' := R.grow g
  obtain ⟨ow, h1, h2, h3, h4⟩ := R'.sl
  have np : ∀ j, ow j ≠ some p := fun j e => by
    obtain ⟨ow0, a1, a2, a3, a4⟩ := R.sl
    have := h4 j p e
    rcases Nat.lt_or_ge j δ.sl.length with hj | hj
    · have q := h1 j _ (List.getElem?_eq_getElem hj)
      have q0 := a1 j _ (List.getElem?_eq_getElem hj)
      cases hs : δ.sl[j] with
      | un => rw [hs] at q; rw [e] at q; cases q
      | law ns => rw [hs] at q; rw [e] at q; cases q.1
      | dat d => rw [hs] at q; rw [e] at q; cases q.1
      | own ds =>
        rw [hs] at q q0
        obtain ⟨a, vs, r1, _, _, r2, r3, _⟩ := q0
        obtain ⟨a', vs', t1, _, _, t2, t3, _⟩ := q
        rw [e] at t1; cases t1
        rw [r2] at t2; cases t2
        rw [hp] at r3; cases r3
      | hp ds =>
        rw [hs] at q
        obtain ⟨a', vs', t1, t0, _⟩ := q
        rw [e] at t1; cases t1
        exact f2 t0
      | hpK ds =>
        rw [hs] at q
        obtain ⟨a', vs', t1, t0, _⟩ := q
        rw [e] at t1; cases t1
        exact f2 t0
      | ownK ds =>
        rw [hs] at q q0
        obtain ⟨a, vs, r1, _, _, r2, r3, _⟩ := q0
        obtain ⟨a', vs', t1, _, _, t2, t3, _⟩ := q
        rw [e] at t1; cases t1
        rw [r2] at t2; cases t2
        rw [hp] at r3; cases r3
      | ownT ds =>
        rw [hs] at q q0
        obtain ⟨a, vs, r1, _, _, r2, r3, _⟩ := q0
        obtain ⟨a', vs', t1, _, _, t2, t3, _⟩ := q
        rw [e] at t1; cases t1
        rw [r2] at t2; cases t2
        rw [hp] at r3; cases r3
      | ownN ds =>
        rw [hs] at q q0
        obtain ⟨a, vs, r1, _, _, r2, r3, _⟩ := q0
        obtain ⟨a', vs', t1, _, _, t2, t3, _⟩ := q
        rw [e] at t1; cases t1
        rw [r2] at t2; cases t2
        rw [hp] at r3; cases r3
      | kp a ds =>
        rw [hs] at q q0
        obtain ⟨vs, r1, _, _, r3, _⟩ := q0
        obtain ⟨vs', t1, _, _, t3, _⟩ := q
        rw [e] at t1; cases t1
        rw [hp] at r3; cases r3
    · rw [h2 j hj] at e; cases e
  by_cases hi : i < δ.sl.length
  · refine ⟨R'.ex, R'.fr, R'.pen, R'.pa, by simpa using R'.len, fun j => if j = i then some p else ow j, fun j y e => ?_, fun j hj => ?_, fun j k a e1 e2 => ?_, fun j a e => ?_⟩
    · rcases get_set e with ⟨rfl, rfl⟩ | ⟨ne, e⟩
      · have hl : j < σ.length := by rw [R.len]; exact hi
        rw [List.getElem?_set_self hl]
        simp only [if_true]
        exact hx _ upd_same f1 f2
      · have := h1 j y e
        simp only [ne, if_false]
        rw [List.getElem?_set_ne (Ne.symm ne)]
        exact this
    · have hj' : δ.sl.length ≤ j := by simpa using hj
      have ne : j ≠ i := by omega
      show (if j = i then some p else ow j) = none
      rw [if_neg ne]
      exact h2 j hj'
    · have e1 : (if j = i then some p else ow j) = some a := e1
      have e2 : (if k = i then some p else ow k) = some a := e2
      split at e1
      · cases e1
        split at e2
        · exact (by assumption : j = i).trans (by assumption : k = i).symm
        · exact absurd e2 (np k)
      · split at e2
        · cases e2; exact absurd e1 (np j)
        · exact h3 j k a e1 e2
    · have e : (if j = i then some p else ow j) = some a := e
      split at e
      · cases e
        exact ⟨sp, .inl f1, R.pen_new hp, _, upd_same⟩
      · exact h4 j a e
  · have e1 : δ.sl.set i x = δ.sl := by rw [List.set_eq_of_length_le (by omega)]
    have e2 : σ.set i (some (V.ref p)) = σ := by rw [List.set_eq_of_length_le (by rw [R.len]; omega)]
    rw [e1, e2]
    exact R'
theorem Rel.setOwn (R : Rel K B δ S σ H) {i : Nat} {p : Addr} {vs : List V} {ds : List D} (hp : H p = none) (n : DnA K S vs ds) : Rel K B { δ with sl := δ.sl.set i (.own ds) } S (σ.set i (some (.ref p))) (upd H p (.lst vs)) :=
  R.setNew hp (fun _ z => nomatch z) fun H1 h1 a b => ⟨p, vs, rfl, a, b, rfl, h1, n⟩
/-- the object in slot i is changed -/
theorem Rel.mut (R : Rel K B δ S σ H) {i : Nat} {p : Addr} {o : HO} {x y : Sl} (ho : ∀ vs, o ≠ .tup vs) (hi : δ.sl[i]? = some x) (hx : ∀ oa, SlOk K B S H oa σ[i]? x → oa = some p)
    (hy : ∀ H1 : Hp, H1 p = some o → SlOk K B S H1 (some p) σ[i]? y) : Rel K B { δ with sl := δ.sl.set i y } S σ (upd H p o) := by
  obtain ⟨ow, h1, h2, h3, h4⟩ := R.sl
  have oi : ow i = some p := hx _ (h1 i x hi)
  obtain ⟨sp, q2, q3, o0, q4⟩ := h4 i p oi
  have ne : ∀ a, S a ≠ none → a ≠ p := fun a h e => h (e ▸ sp)
  refine ⟨⟨fun a u h => by rw [upd_ne (ne a (by rw [h]; simp))]; exact R.ex a u h, fun b vs h => by
    by_cases q : b = p
    · subst q; rw [upd_same] at h; exact absurd (Option.some.inj h) (ho vs)
    · rw [upd_ne q] at h; exact R.ex.tp b vs h, R.ex.tb.at_ p (fun b u n h => by rw [upd_ne n]; exact h) (fun u z => by
      obtain ⟨u', z1, z2⟩ := (h1 i x hi).plA oi
      rw [z1] at z; cases z; exact z2) fun _ _ z => z⟩, ⟨R.fr.s, fun b u h hb nb => ?_, fun b ps h => by
      obtain ⟨qs, z⟩ := R.fr.t b ps h
      refine ⟨qs, ?_⟩
      rw [upd_ne (fun e => by
        subst e
        obtain ⟨u', z1, z2⟩ := (h1 i x hi).plA oi
        rw [z1] at z; cases z; exact absurd rfl (z2.1 _))]
      exact z, R.fr.no, fun a e => ?_⟩, ?_, R.pa, by simpa using R.len, ow, fun j z e => ?_, fun j hj => h2 j (by simpa using hj), h3, fun j a e => ?_⟩
  · have : b ≠ p := fun e => by
      subst e
      rcases q2 with q2 | q2
      · rw [h] at q2; cases q2
      · exact hb q2
    rw [upd_ne this]
    exact R.fr.h b u h hb nb
  · by_cases e2 : a = p
    · subst e2; exact ⟨_, upd_same⟩
    · rw [upd_ne e2]; exact R.fr.pa a e
  · have hp := R.pen
    cases hpe : δ.pen with
    | none => trivial
    | some ac =>
      obtain ⟨a, c⟩ := ac
      rw [hpe] at hp
      have nap : a ≠ p := fun e => q3 c (by rw [hpe, e])
      obtain ⟨n, ca, ns, k, m, r1, r2, r3⟩ := hp
      exact ⟨n, ca, ns, k, m, by rw [upd_ne nap]; exact r1, r2, r3⟩
  · rcases get_set e with ⟨rfl, rfl⟩ | ⟨nj, e⟩
    · rw [oi]
      exact hy _ upd_same
    · refine (h1 j z e).grow (Ex.refl _) fun a u ea ha _ => ?_
      have : a ≠ p := fun q => nj (h3 j i a ea (by rw [q]; exact oi))
      rw [upd_ne this]
      exact ha
  · obtain ⟨r1, r2, r3, u, r4⟩ := h4 j a e
    refine ⟨r1, r2, r3, ?_⟩
    by_cases e2 : a = p
    · subst e2; exact ⟨_, upd_same⟩
    · rw [upd_ne e2]; exact ⟨u, r4⟩
/-- the list of slot i (of one's own, or the pen's): where it stands, what it becomes -/
theorem Rel.own (R : Rel K B δ S σ H) {i : Nat} {ds : List D} (hi : δ.sl[i]? = some (.own ds)) : ∃ p vs, σ[i]? = some (some (.ref p)) ∧ H p = some (.lst vs) ∧ DnA K S vs ds ∧ S p = none ∧ B.H0 p = none ∧ B.pa ≠ some p ∧
    ∀ vs' ds', DnA K S vs' ds' → Rel K B { δ with sl := δ.sl.set i (.own ds') } S σ (upd H p (.lst vs')) := by
  obtain ⟨ow, h1, h2, h3, h4⟩ := id R.sl
  obtain ⟨a, vs, r1, r2, r3, r4, r5, r6⟩ := h1 i _ hi
  refine ⟨a, vs, r4, r5, r6, (h4 i a r1).1, r2, r3, fun vs' ds' n => R.mut (fun _ z => nomatch z) hi (fun oa q => ?_) fun H1 e => ⟨a, vs', rfl, r2, r3, r4, e, n⟩⟩
  obtain ⟨a', _, t1, _, _, t4, _⟩ := q
  rw [r4] at t4; cases t4
  exact t1
theorem Rel.hp (R : Rel K B δ S σ H) {i : Nat} {ds : List D} (hi : δ.sl[i]? = some (.hp ds)) : ∃ p vs, σ[i]? = some (some (.ref p)) ∧ H p = some (.lst vs) ∧ DnA K S vs ds ∧ S p = none ∧ B.pa = some p ∧
    ∀ vs' ds', DnA K S vs' ds' → Rel K B { δ with sl := δ.sl.set i (.hp ds') } S σ (upd H p (.lst vs')) := by
  obtain ⟨ow, h1, h2, h3, h4⟩ := id R.sl
  obtain ⟨a, vs, r1, r2, r4, r5, r6⟩ := h1 i _ hi
  refine ⟨a, vs, r4, r5, r6, (h4 i a r1).1, r2, fun vs' ds' n => R.mut (fun _ z => nomatch z) hi (fun oa q => ?_) fun H1 e => ⟨a, vs', rfl, r2, r4, e, n⟩⟩
  obtain ⟨a', _, t1, _, t4, _⟩ := q
  rw [r4] at t4; cases t4
  exact t1
theorem Rel.hpK (R : Rel K B δ S σ H) {i : Nat} {es : List (Key × D)} (hi : δ.sl[i]? = some (.hpK es)) : ∃ p kvs, σ[i]? = some (some (.ref p)) ∧ H p = some (.dK kvs) ∧ kvs.map (·.1) = es.map (·.1) ∧ DnA K S (kvs.map (·.2)) (es.map (·.2)) ∧ S p = none ∧ B.pa = some p ∧
    ∀ kvs' es', kvs'.map (·.1) = es'.map (·.1) → DnA K S (kvs'.map (·.2)) (es'.map (·.2)) → Rel K B { δ with sl := δ.sl.set i (.hpK es') } S σ (upd H p (.dK kvs')) := by
  obtain ⟨ow, h1, h2, h3, h4⟩ := id R.sl
  obtain ⟨a, kvs, r1, r2, r4, r5, r6, r7⟩ := h1 i _ hi
  refine ⟨a, kvs, r4, r5, r6, r7, (h4 i a r1).1, r2, fun kvs' es' n1 n2 => R.mut (fun _ z => nomatch z) hi (fun oa q => ?_) fun H1 e => ⟨a, kvs', rfl, r2, r4, e, n1, n2⟩⟩
  obtain ⟨a', _, t1, _, t4, _⟩ := q
  rw [r4] at t4; cases t4
  exact t1
/-- slot i's list is frozen -/
theorem Rel.freeze (R : Rel K B δ S σ H) {i : Nat} {x : Sl} {d : D} {p : Addr} {o : HO} (hi : δ.sl[i]? = some x) (hx : ∀ oa, SlOk K B S H oa σ[i]? x → oa = some p) (ho : H p = some o) (h0 : B.H0 p = none) (hpa : B.pa ≠ some p)
    (hv : σ[i]? = some (some (.ref p))) (hd : ∀ S1 : Hp, S1 p = some o → Ex S S1 → Dn K S1 (.ref p) d) : ∃ S1, Ex S S1 ∧ Rel K B { δ with sl := δ.sl.set i (.dat d) } S1 σ H ∧ Dn K S1 (.ref p) d := by
  obtain ⟨ow, h1, h2, h3, h4⟩ := R.sl
  have oi : ow i = some p := hx _ (h1 i x hi)
  obtain ⟨sp, q2, q3, _⟩ := h4 i p oi
  have e1 : Ex S (upd S p o) := Ex.new sp
  have dn : Dn K (upd S p o) (.ref p) d := hd _ upd_same e1
  refine ⟨upd S p o, e1, ⟨⟨fun a u h => ?_, fun b vs h => e1 _ _ (R.ex.tp b vs h), R.ex.tb.at_ p (fun _ _ _ h => h) (fun u z => by
    obtain ⟨u', z1, z2⟩ := (h1 i x hi).plA oi
    rw [z1] at z; cases z; exact z2) fun b n z => by rw [upd_ne n]; exact z⟩, ⟨R.fr.s.trans e1, R.fr.h, R.fr.t, fun b u h n => ?_, R.fr.pa⟩, ?_, R.pa, by simpa using R.len, fun j => if j = i then none else ow j, fun j z e => ?_, fun j hj => ?_, fun j k a e1 e2 => ?_, fun j a e => ?_⟩, dn⟩
  · by_cases e : a = p
    · subst e; rw [upd_same] at h; rw [ho]; exact h
    · rw [upd_ne e] at h; exact R.ex a u h
  · have : b ≠ p := fun e => by subst e; rw [h] at h0; cases h0
    rw [upd_ne this]; exact R.fr.no b u h n
  · have hp := R.pen
    cases hpe : δ.pen with
    | none => trivial
    | some ac =>
      obtain ⟨a, c⟩ := ac
      rw [hpe] at hp
      have nap : a ≠ p := fun e => q3 c (by rw [hpe, e])
      obtain ⟨n, ca, ns, k, m, r1, r2, r3⟩ := hp
      exact ⟨by rw [upd_ne nap]; exact n, ca, ns, k, m, r1, e1 _ _ r2, r3⟩
  · rcases get_set e with ⟨rfl, rfl⟩ | ⟨ne, e⟩
    · exact ⟨by simp, _, hv, dn⟩
    · simp only [ne, if_false]
      exact (h1 j z e).grow e1 fun a u _ q _ => q
  · show (if j = i then none else ow j) = none
    split
    · rfl
    · exact h2 j (by simpa using hj)
  · have e1 : (if j = i then none else ow j) = some a := e1
    have e2 : (if k = i then none else ow k) = some a := e2
    split at e1
    · cases e1
    · split at e2
      · cases e2
      · exact h3 j k a e1 e2
  · have e : (if j = i then none else ow j) = some a := e
    split at e
    · cases e
    · rename_i nj
      obtain ⟨r1, r2, r3, r4⟩ := h4 j a e
      have : a ≠ p := fun q => nj (h3 j i a e (by rw [q]; exact oi))
      exact ⟨by rw [upd_ne this]; exact r1, r2, r3, r4⟩
theorem Rel.freezeL (R : Rel K B δ S σ H) {i : Nat} {ds : List D} (hi : δ.sl[i]? = some (.own ds)) : ∃ S1 v, Ex S S1 ∧ Rel K B { δ with sl := δ.sl.set i (.dat (.lst ds)) } S1 σ H ∧ σ[i]? = some (some v) ∧ Dn K S1 v (.lst ds) := by
  obtain ⟨p, vs, h1, h2, h3, h4, h5, h6, _⟩ := R.own hi
  obtain ⟨S1, e, R1, n⟩ := R.freeze (d := .lst ds) hi (fun oa q => by obtain ⟨a', _, t1, _, _, t4, _⟩ := q; rw [h1] at t4; cases t4; exact t1) h2 h5 h6 h1 fun S1 e x => .lst e (h3.mono x)
  exact ⟨S1, _, e, R1, h1, n⟩
end Ev
namespace Ev
open PySem PySem.Spec PyProof.Rows L2
variable [TabC]
variable {K : PySem.W.Frag} {S S' H H' : Hp} {B : Bs} {δ : DS} {σ : L2.St}
section
variable {X : Cx} {E : EK} {e a b c : Expr} {es : List Expr} {pos : Pos} {st : Stmt} {rest : List Stmt} {da db : dE} {t u : dS}
def dTake (i : Nat) : dE := fun _ δ Q => match δ.sl[i]? with
  | some (.dat d) => Q d δ
  | some (.own ds) => Q (.lst ds) { δ with sl := δ.sl.set i (.dat (.lst ds)) }
  | _ => False
theorem de_take {i : Nat} {x : Str} (h : PE X (.Name x pos) (tVar i)) : DE X E (.Name x pos) (dTake i) := ⟨fun B => pe_mono h fun σ H Q q => by
  obtain ⟨δ, S, W, Q', R, q, _, post⟩ := q
  unfold dTake at q
  split at q
  · rename_i d hd
    obtain ⟨v, e1, e2⟩ := R.dat hd
    exact ⟨v, e1, post _ _ _ _ _ q (Ex.refl _) R e2⟩
  · rename_i ds hd
    obtain ⟨S1, v, e1, R1, e2, n⟩ := R.freezeL hd
    exact ⟨v, e2, post _ _ _ _ _ q e1 R1 n⟩
  · exact q.elim⟩
def dNext : dS := fun _ N δ => N.nx δ
def dSeq (t u : dS) : dS := fun W N δ => t W { N with nx := fun δ' => u W N δ' } δ
theorem dss_nil : DSs X E [] dNext := ⟨fun B => pss_mono pss_nil fun Z σ H q => by
  obtain ⟨δ, S, W, N, R, q, xo, h1, _⟩ := q
  exact h1 _ _ _ _ q (Ex.refl _) R⟩
theorem dss_cons (h1 : DSt X E st t) (h2 : DSs X E rest u) : DSs X E (st :: rest) (dSeq t u) := ⟨fun B => pss_mono (pss_cons (h1.run B) (h2.run B)) fun Z σ H q => by
  obtain ⟨δ, S, W, N, R, q, xo, p1, p2, p3, p4⟩ := q
  refine ⟨δ, S, W, _, R, q, xo, fun δ1 σ1 S1 H1 q1 e1 R1 => ?_, p2, p3, p4⟩
  exact ⟨δ1, S1, W, N, R1, q1, xo.mono e1, fun δ2 σ2 S2 H2 q2 e2 R2 => p1 _ _ _ _ q2 (e1.trans e2) R2, fun x δ2 v σ2 S2 H2 q2 e2 R2 n2 => p2 _ _ _ _ _ _ q2 (e1.trans e2) R2 n2,
    fun δ2 σ2 S2 H2 q2 e2 R2 => p3 _ _ _ _ q2 (e1.trans e2) R2, fun δ2 σ2 S2 H2 q2 e2 R2 => p4.1 _ _ _ _ q2 (e1.trans e2) R2, fun xs δ2 p vs σ2 S2 H2 q2 e2 R2 hp n2 => p4.2 _ _ _ _ _ _ _ q2 (e1.trans e2) R2 hp n2⟩⟩
theorem dss_one (h1 : DSt X E st t) : DSs X E [st] t := ⟨fun B => pss_one (h1.run B)⟩
def dNever : dS := fun _ _ _ => False
def dBrk : dS := fun _ N δ => N.bk δ
def dCnt : dS := fun _ N δ => N.ct δ
def dRet (d : dE) : dS := fun W N δ => d W δ fun x δ' => N.rt x δ'
theorem ds_ret (h : DE X E e da) : DSt X E (.Return (some e) pos) (dRet da) := ⟨fun B => ps_mono (ps_ret (h.run B)) fun Z σ H q => by
  obtain ⟨δ, S, W, N, R, q, xo, _, h1, _⟩ := q
  exact ⟨δ, S, W, _, R, q, xo, fun x δ' v S' H' q1 e1 R1 n1 => h1 _ _ _ _ _ _ q1 e1 R1 n1⟩⟩
def dRetN : dS := fun W N δ => N.rt .non δ
def dExpr (d : dE) : dS := fun W N δ => d W δ fun _ δ' => N.nx δ'
def dIfS (c : dT) (t u : dS) : dS := fun W N δ => c W δ fun k δ' => match k with | true => t W N δ' | false => u W N δ'
theorem ds_if {tc : dT} {as bs : List Stmt} (hc : DT X E c tc) (ha : DSs X E as t) (hb : DSs X E bs u) : DSt X E (.If c as bs pos) (dIfS tc t u) := ⟨fun B => ps_mono (ps_if (hc.run B) (ha.run B) (hb.run B)) fun Z σ H q => by
  obtain ⟨δ, S, W, N, R, q, xo, p1, p2, p3, p4⟩ := q
  refine ⟨δ, S, W, _, R, q, xo, fun k δ1 S1 H1 q1 e1 R1 => ?_⟩
  have go : ∀ d : dS, d W N δ1 → liftS X.K B E d Z σ H1 := fun d q1 => ⟨δ1, S1, W, N, R1, q1, xo.mono e1, fun δ2 σ2 S2 H2 q2 e2 R2 => p1 _ _ _ _ q2 (e1.trans e2) R2, fun x δ2 v σ2 S2 H2 q2 e2 R2 n2 => p2 _ _ _ _ _ _ q2 (e1.trans e2) R2 n2,
    fun δ2 σ2 S2 H2 q2 e2 R2 => p3 _ _ _ _ q2 (e1.trans e2) R2, fun δ2 σ2 S2 H2 q2 e2 R2 => p4.1 _ _ _ _ q2 (e1.trans e2) R2, fun xs δ2 p vs σ2 S2 H2 q2 e2 R2 hp n2 => p4.2 _ _ _ _ _ _ _ q2 (e1.trans e2) R2 hp n2⟩
  cases k with
  | true => exact iteT (go _ q1)
  | false => exact iteF (go _ q1)⟩
def setSl (δ : DS) (i : Nat) (x : Sl) : DS := { δ with sl := δ.sl.set i x }
def dSet (i : Nat) (d : dE) : dS := fun W N δ => d W δ fun x δ' => N.nx (setSl δ' i (.dat x))
def dSetF (i : Nat) (d : dF) : dS := fun W N δ => d W δ fun xs δ' => N.nx (setSl δ' i (.own xs))
theorem ds_set {i : Nat} {x : Str} {pos' : Pos} (hN : X.N.Nodup) (hi : X.N[i]? = some x) (hx : Loc X.env.scope x) (h : DE X E e da) (hs : swapsWith e (some (.Name x pos')) pos.line X.env = pure false := by rfl) (hf : X.fn x = true ∨ X.env.scope.names.lookup x = some .local := by first | exact .inl rfl | exact .inr rfl | assumption) :
    DSt X E (.Assign [.Name x pos'] e pos) (dSet i da) := ⟨fun B => ps_mono (ps_set hN hi hx (h.run B) hs hf) fun Z σ H q => by
  obtain ⟨δ, S, W, N, R, q, xo, h1, _⟩ := q
  exact ⟨δ, S, W, _, R, q, xo, fun x δ' v S' H' q1 e1 R1 n1 => h1 _ _ _ _ q1 e1 (R1.setDat n1)⟩⟩
theorem ds_setF {i : Nat} {x : Str} {pos' : Pos} {d : dF} (hN : X.N.Nodup) (hi : X.N[i]? = some x) (hx : Loc X.env.scope x) (h : DF X E e d) (hs : swapsWith e (some (.Name x pos')) pos.line X.env = pure false := by rfl) (hf : X.fn x = true ∨ X.env.scope.names.lookup x = some .local := by first | exact .inl rfl | exact .inr rfl | assumption) :
    DSt X E (.Assign [.Name x pos'] e pos) (dSetF i d) := ⟨fun B => ps_mono (ps_set hN hi hx (h.run B) hs hf) fun Z σ H q => by
  obtain ⟨δ, S, W, N, R, q, xo, h1, _⟩ := q
  exact ⟨δ, S, W, _, R, q, xo, fun xs δ' p vs S' H' q1 e1 R1 hp n1 => h1 _ _ _ _ q1 e1 (R1.setOwn hp n1)⟩⟩
def gN (i : Nat) : dG := fun d δ Q => Q (setSl δ i (.dat d))
theorem dg_name {i : Nat} {x : Str} (h : PG X (.Name x pos) (gName i)) : DG X (.Name x pos) (gN i) [i] := ⟨fun B => ⟨fun pins s σ H v u Q I r q => h.run pins s σ H v u Q I r (by
  obtain ⟨δ, S, d, Q', R, n, q, post⟩ := q
  refine post _ _ _ _ q (Ex.refl _) (R.setDat n) (fun j hj => ?_) (by simp)
  have : j ≠ i := by simpa using hj
  rw [List.getElem?_set_ne (Ne.symm this)])⟩⟩
abbrev dGs := List D → DS → (DS → Prop) → Prop
def liftGs (K : PySem.W.Frag) (B : Bs) (g : dGs) (vs : List Nat) : TGs := fun us σ H Q => ∃ δ S ds Q', Rel K B δ S σ H ∧ DnA K S us ds ∧ g ds δ Q' ∧
  ∀ δ' σ' S' H', Q' δ' → Ex S S' → Rel K B δ' S' σ' H' → (∀ i, i ∉ vs → σ'[i]? = σ[i]?) → σ'.length = σ.length → Q σ' H'
structure DGs (X : Cx) (tg : List Expr) (g : dGs) (vs : List Nat) : Prop where
  run : ∀ B, PGs X tg (liftGs X.K B g vs)
def gsNil : dGs := fun ds δ Q => match ds with | [] => Q δ | _ => False
def gsCons (g : dG) (r : dGs) : dGs := fun ds δ Q => match ds with | d :: ds => g d δ fun δ' => r ds δ' Q | [] => False
theorem dgs_nil : DGs X [] gsNil [] := ⟨fun B => ⟨fun pins s σ H vs us Q I r q => pgs_nil.run pins s σ H vs us Q I r (by
  obtain ⟨δ, S, ds, Q', R, n, q, post⟩ := q
  cases n with
  | nil => exact ⟨rfl, post _ _ _ _ q (Ex.refl _) R (fun _ _ => rfl) rfl⟩
  | cons _ _ => exact q.elim)⟩⟩
theorem dgs_cons {g : dG} {r : dGs} {vs ws : List Nat} (h1 : DG X e g vs) (h2 : DGs X es r ws) (hs : (assignEach (e :: es) X.env).map (·.2) = assign e X.env :: (assignEach es X.env).map (·.2) := by rfl) : DGs X (e :: es) (gsCons g r) (vs ++ ws) :=
  ⟨fun B => ⟨fun pins s σ H us uu Q I rr q => (pgs_cons (h1.run B) (h2.run B) hs).run pins s σ H us uu Q I rr (by
    obtain ⟨δ, S, ds, Q', R, n, q, post⟩ := q
    cases n with
    | nil => exact q.elim
    | cons n ns =>
      refine ⟨_, _, rfl, δ, S, _, _, R, n, q, fun δ1 σ1 S1 H1 q1 e1 R1 a1 l1 => ?_⟩
      refine ⟨δ1, S1, _, _, R1, ns.mono e1, q1, fun δ2 σ2 S2 H2 q2 e2 R2 a2 l2 => post _ _ _ _ q2 (e1.trans e2) R2 (fun i hi => ?_) (l2.trans l1)⟩
      rw [a2 i (fun z => hi (by simp [z])), a1 i (fun z => hi (by simp [z]))])⟩⟩
def gT (n : Nat) (r : dGs) : dG := fun d δ Q => match d with | .tup ds => ds.length = n ∧ r ds δ Q | _ => False
theorem dg_tup {k : Nat} {r : dGs} {n : Nat} {vs : List Nat} (hc : X.calm = true) (h : DGs X es r vs) (hn : (assignEach es X.env).length = n := by rfl) (hst : (assignEach es X.env).findIdx? (·.1) = none := by rfl) :
    DG X (.Tuple es k pos) (gT n r) vs := ⟨fun B => ⟨fun pins s σ H v u Q I rv q => (pg_tup hc (h.run B) hn hst).run pins s σ H v u Q I rv (by
    obtain ⟨δ, S, d, Q', R, dn, q, post⟩ := q
    cases d with
    | tup ds =>
      cases dn with
      | tup hq ha => exact ⟨_, _, rfl, SqT.of (R.ex _ _ hq), ha.length.trans q.1, δ, S, ds, Q', R, ha, q.2, post⟩
    | _ => exact q.elim)⟩⟩
def dAsg (d : dE) (g : dG) : dS := fun W N δ => d W δ fun x δ' => g x δ' N.nx
theorem ds_asg {tg : Expr} {g : dG} {vs : List Nat} (h : DE X E e da) (hg : DG X tg g vs) (hs : swapsWithSole [tg] e pos.line X.env = pure false := by rfl) (hw : swappedStores [tg] e X.env = pure none := by rfl)
    (h1 : (assignEach [tg] X.env).map (·.2) = [assign tg X.env] := by rfl) : DSt X E (.Assign [tg] e pos) (dAsg da g) := ⟨fun B => ps_mono (ps_asg (h.run B) (hg.run B) hs hw h1) fun Z σ H q => by
  obtain ⟨δ, S, W, N, R, q, xo, p1, _⟩ := q
  refine ⟨δ, S, W, _, R, q, xo, fun x δ' v S' H' q1 e1 R1 n1 => ?_⟩
  exact ⟨δ', S', x, N.nx, R1, n1, q1, fun δ2 σ2 S2 H2 q2 e2 R2 _ _ => p1 _ _ _ _ q2 (e1.trans e2) R2⟩⟩
abbrev dI := XW → DS → (List D → DS → Prop) → Prop
structure ItOk (K : PySem.W.Frag) (J : It) (ds : List D) (S : Hp) : Prop where
  goes : ∀ i S1 H1, Ex S S1 → Sb S1 H1 → i < ds.length → J.go i H1
  stops : ∀ S1 H1, Ex S S1 → Sb S1 H1 → J.stop ds.length H1
  yields : ∀ i S1 H1 x H2, Ex S S1 → Sb S1 H1 → i < ds.length → J.yld i H1 x H2 → ∃ S2 d, Grow S1 H1 S2 H2 ∧ ds[i]? = some d ∧ Dn K S2 x d
theorem ItOk.mono {J : It} {ds : List D} (h : ItOk K J ds S) (e : Ex S S') : ItOk K J ds S' :=
  ⟨fun i S1 H1 a => h.goes i S1 H1 (e.trans a), fun S1 H1 a => h.stops S1 H1 (e.trans a), fun i S1 H1 x H2 a => h.yields i S1 H1 x H2 (e.trans a)⟩
def liftI (K : PySem.W.Frag) (B : Bs) (E : EK) (w : dI) : TI := fun σ H R => ∃ δ S W Q', Rel K B δ S σ H ∧ w W δ Q' ∧ XOk K B E W S ∧
  ∀ ds δ' S' H' J, Q' ds δ' → Ex S S' → Rel K B δ' S' σ H' → ItOk K J ds S' → R J H'
structure DI (X : Cx) (E : EK) (tg iter : Expr) (w : dI) : Prop where
  run : ∀ B, PI X tg iter (liftI X.K B E w)
theorem pi_mono {tg iter : Expr} {w w' : TI} (h : PI X tg iter w) (m : ∀ σ H R, w' σ H R → w σ H R) : PI X tg iter w' := ⟨fun pins s σ H R I q => h.run pins s σ H R I (m _ _ _ q)⟩
def wFor (g : dG) (b : dS) (W : XW) (N : dEnds) : List D → DS → Prop
  | [], δ => N.nx δ
  | d :: ds, δ => g d δ fun δ1 => b W { N with nx := wFor g b W N ds, ct := wFor g b W N ds, bk := N.nx } δ1
def dFor (it : dI) (g : dG) (b : dS) : dS := fun W N δ => it W δ fun ds δ1 => wFor g b W N ds δ1
theorem ds_for {tg iter : Expr} {body : List Stmt} {w : dI} {g : dG} {vs : List Nat} (hp : PassesOwn (model X.prog X.w) X.A X.env X.xe) (hc : X.calm = true) (hi : DI X E tg iter w) (hg : DG X tg g vs) (hb : DSs X E body t)
    (hs : ∀ x, foldedSetIterable iter X.env x = pure x := by intro _; rfl) : DSt X E (.For tg iter body [] pos) (dFor w g t) := ⟨fun B => ps_mono (ps_for hp hc (hi.run B) (hg.run B) (hb.run B) hs) fun Z σ H q => by
  obtain ⟨δ, S, W, N, R, q, xo, p1, p2, p3, p4⟩ := q
  refine ⟨δ, S, W, _, R, q, xo, fun ds δ1 S1 H1 J q1 e1 R1 it1 => ?_⟩
  refine ⟨fun i m σ H => m = ds.length - i ∧ i ≤ ds.length ∧ ∃ δ S2, Ex S1 S2 ∧ Rel X.K B δ S2 σ H ∧ wFor g t W N (ds.drop i) δ, ⟨_, rfl, Nat.zero_le _, δ1, S1, Ex.refl _, R1, q1⟩, ?_⟩
  rintro i m σ2 H2 ⟨rfl, hi, δ2, S2, e2, R2, q2⟩
  by_cases hlt : i < ds.length
  · refine .inr ⟨it1.goes i S2 H2 e2 R2.ex hlt, fun σ' H' => (fun i m σ H => m = ds.length - i ∧ i ≤ ds.length ∧ ∃ δ S2, Ex S1 S2 ∧ Rel X.K B δ S2 σ H ∧ wFor g t W N (ds.drop i) δ) (i + 1) (ds.length - (i + 1)) σ' H', fun σ' H' h => ⟨_, by omega, h⟩, fun x H3 y => ?_⟩
    obtain ⟨S3, d, g3, ed, dn⟩ := it1.yields i S2 H2 x H3 e2 R2.ex hlt y
    have hd : ds.drop i = d :: ds.drop (i + 1) := by
      obtain ⟨h1, h2⟩ := List.getElem?_eq_some_iff.mp ed
      rw [List.drop_eq_getElem_cons h1, h2]
    rw [hd] at q2
    refine ⟨δ2, S3, d, _, R2.grow g3, dn, q2, fun δ4 σ4 S4 H4 q4 e4 R4 _ _ => ?_⟩
    have e : Ex S S4 := (e1.trans e2).trans (g3.s.trans e4)
    refine ⟨δ4, S4, W, _, R4, q4, xo.mono e, fun δ5 σ5 S5 H5 q5 e5 R5 => ?_, fun x δ5 v σ5 S5 H5 q5 e5 R5 n5 => p2 _ _ _ _ _ _ q5 (e.trans e5) R5 n5, fun δ5 σ5 S5 H5 q5 e5 R5 => p1 _ _ _ _ q5 (e.trans e5) R5, fun δ5 σ5 S5 H5 q5 e5 R5 => ?_, fun xs δ5 p vs σ5 S5 H5 q5 e5 R5 hp n5 => p4.2 _ _ _ _ _ _ _ q5 (e.trans e5) R5 hp n5⟩
    · exact ⟨rfl, hlt, δ5, S5, e2.trans (g3.s.trans (e4.trans e5)), R5, q5⟩
    · exact ⟨rfl, hlt, δ5, S5, e2.trans (g3.s.trans (e4.trans e5)), R5, q5⟩
  · have e : i = ds.length := by omega
    subst e
    rw [List.drop_length] at q2
    exact .inl ⟨it1.stops S2 H2 e2 R2.ex, p1 _ _ _ _ q2 (e1.trans e2) R2⟩⟩
end
end Ev
namespace Ev
open PySem PySem.Spec PyProof.Rows L2
variable [TabC]
variable {K : PySem.W.Frag} {S S' H H' : Hp} {B : Bs} {δ : DS} {σ : L2.St}
section
variable {X : Cx} {E : EK} {e a b c tg : Expr} {es : List Expr} {pos : Pos} {st : Stmt} {rest : List Stmt} {da db : dE} {t u : dS}
/-- a list or a tuple -/
def iSeq (K : PySem.W.Frag) (tl : TE) : TI := fun σ H R => tl σ H fun x H1 => ∃ a, x = .ref a ∧ (((∃ xs, SqL K H1 a xs) ∧ R (Itl K a) H1) ∨ ((∃ xs, SqT K H1 a xs) ∧ R (Itt K a) H1))
theorem pi_seq {l : Expr} {tl : TE} (hl : PE X l tl) : PI X tg l (iSeq X.K tl) := by
  refine ⟨fun pins s σ H R I h => ?_⟩
  refine thn (hl.run pins s σ H _ I h) fun v s1 ⟨x, H1, I1, r1, q1⟩ => ?_
  obtain ⟨a, e, ⟨⟨xs, hq⟩, q⟩ | ⟨⟨xs, hq⟩, q⟩⟩ := q1
  · subst e
    cases r1
    obtain ⟨its, rv, p, hz⟩ := I1.list hq
    refine wpAny_pyIter_list p.isList ?_
    refine ⟨s1.heap.objs.size, [s1.heap.objs.size], _, _, H1, rfl, I1.kept (t' := s1.toks) fun b o e => Heap.get?_push_of_some _ e, turn_list a _, ⟨_, Heap.get?_push_size _ rfl, rfl, rfl⟩, fun b hb => ?_, q⟩
    have e : b = s1.heap.objs.size := by simpa using hb
    subst e
    exact I1.fpOk (Nat.le_refl _) (I1.hok.fresh (Nat.le_refl _))
  · subst e
    cases r1
    obtain ⟨its, rv, p, hz⟩ := I1.tuple hq
    refine wpAny_pyIter_tuple (show s1.heap.IsTuple a its.toArray from p) ?_
    refine ⟨s1.heap.objs.size, [s1.heap.objs.size], _, _, H1, rfl, I1.kept (t' := s1.toks) fun b o e => Heap.get?_push_of_some _ e, turn_tuple a _, ⟨_, Heap.get?_push_size _ rfl, rfl, rfl⟩, fun b hb => ?_, q⟩
    have e : b = s1.heap.objs.size := by simpa using hb
    subst e
    exact I1.fpOk (Nat.le_refl _) (I1.hok.fresh (Nat.le_refl _))
theorem it_list {a : Addr} {vs : List V} {ds : List D} (h : S a = some (.lst vs)) (n : DnA K S vs ds) : ItOk K (Itl K a) ds S := by
  have hl := n.length
  refine ⟨fun i S1 H1 e1 e2 hi => ?_, fun S1 H1 e1 e2 => ?_, fun i S1 H1 x H2 e1 e2 hi y => ?_⟩
  · exact (walk_list (xs := vs)).goes i H1 (by omega) (SqL.of (e2 _ _ (e1 _ _ h)))
  · rw [← hl]; exact walk_list.stops H1 (SqL.of (e2 _ _ (e1 _ _ h)))
  · obtain ⟨rfl, hx⟩ := (walk_list (xs := vs)).yields i H1 x H2 (by omega) (SqL.of (e2 _ _ (e1 _ _ h))) y
    obtain ⟨d, h1, h2⟩ := n.getV hx
    exact ⟨S1, d, Grow.refl e2, h1, h2.mono e1⟩
theorem it_tup {a : Addr} {vs : List V} {ds : List D} (h : S a = some (.tup vs)) (n : DnA K S vs ds) : ItOk K (Itt K a) ds S := by
  have hl := n.length
  refine ⟨fun i S1 H1 e1 e2 hi => ?_, fun S1 H1 e1 e2 => ?_, fun i S1 H1 x H2 e1 e2 hi y => ?_⟩
  · exact (walk_tup (xs := vs)).goes i H1 (by omega) (SqT.of (e2 _ _ (e1 _ _ h)))
  · rw [← hl]; exact walk_tup.stops H1 (SqT.of (e2 _ _ (e1 _ _ h)))
  · obtain ⟨rfl, hx⟩ := (walk_tup (xs := vs)).yields i H1 x H2 (by omega) (SqT.of (e2 _ _ (e1 _ _ h))) y
    obtain ⟨d, h1, h2⟩ := n.getV hx
    exact ⟨S1, d, Grow.refl e2, h1, h2.mono e1⟩
theorem it_kt {a : Addr} {vs : List V} {ds : List D} (h : TupN K S a vs) (n : DnA K S vs ds) : ItOk K (Itt K a) ds S := by
  have hl := n.length
  refine ⟨fun i S1 H1 e1 e2 hi => ?_, fun S1 H1 e1 e2 => ?_, fun i S1 H1 x H2 e1 e2 hi y => ?_⟩
  · exact (walk_tup (xs := vs)).goes i H1 (by omega) ((h.mono e1).sqT e2)
  · rw [← hl]; exact walk_tup.stops H1 ((h.mono e1).sqT e2)
  · obtain ⟨rfl, hx⟩ := (walk_tup (xs := vs)).yields i H1 x H2 (by omega) ((h.mono e1).sqT e2) y
    obtain ⟨d, h1, h2⟩ := n.getV hx
    exact ⟨S1, d, Grow.refl e2, h1, h2.mono e1⟩
def dSeqI (d : dE) : dI := fun W δ Q => d W δ fun x δ' => match x with | .lst ds => Q ds δ' | .tup ds => Q ds δ' | .kt ds => Q ds δ' | _ => False
theorem di_seq (h : DE X E e da) : DI X E tg e (dSeqI da) := ⟨fun B => pi_mono (pi_seq (h.run B)) fun σ H Rr q => by
  obtain ⟨δ, S, W, Q', R, q, xo, post⟩ := q
  refine ⟨δ, S, W, _, R, q, xo, fun x δ1 v S1 H1 q1 e1 R1 n1 => ?_⟩
  cases x with
  | lst ds =>
    cases n1 with
    | lst hs ha => exact ⟨_, rfl, .inl ⟨⟨_, SqL.of (R1.ex _ _ hs)⟩, post _ _ _ _ _ q1 e1 R1 (it_list hs ha)⟩⟩
  | tup ds =>
    cases n1 with
    | tup hs ha => exact ⟨_, rfl, .inr ⟨⟨_, SqT.of (R1.ex _ _ hs)⟩, post _ _ _ _ _ q1 e1 R1 (it_tup hs ha)⟩⟩
  | kt ds =>
    cases n1 with
    | kt hs ha => exact ⟨_, rfl, .inr ⟨⟨_, hs.sqT R1.ex⟩, post _ _ _ _ _ q1 e1 R1 (it_kt hs ha)⟩⟩
  | _ => exact q1.elim⟩
def intsFrom (lo : Int) (n : Nat) : List D := (List.range n).map fun i => .int (lo + (i : Nat))
theorem it_range {lo : Int} {n : Nat} : ItOk K (Itr lo n) (intsFrom lo n) S := by
  have hl : (intsFrom lo n).length = n := by simp [intsFrom]
  refine ⟨fun i S1 H1 e1 e2 hi => ?_, fun S1 H1 e1 e2 => ?_, fun i S1 H1 x H2 e1 e2 hi y => ?_⟩
  · rw [hl] at hi; exact hi
  · rw [hl]; exact Nat.le_refl _
  · obtain ⟨rfl, rfl⟩ := y
    rw [hl] at hi
    exact ⟨S1, .int (lo + (i : Nat)), Grow.refl e2, by simp [intsFrom, hi], .int _⟩
def dRng1 (d : dA) : dI := fun W δ Q => d W δ fun xs δ' => match xs with | [.int j] => -(2 ^ 62) ≤ j ∧ j < 2 ^ 62 ∧ Q (intsFrom 0 j.toNat) δ' | _ => False
def dRng2 (d : dA) : dI := fun W δ Q => d W δ fun xs δ' => match xs with | [.int i, .int j] => (-(2 ^ 62) ≤ i ∧ i < 2 ^ 62 ∧ -(2 ^ 62) ≤ j ∧ j < 2 ^ 62) ∧ Q (intsFrom i (j - i).toNat) δ' | _ => False
theorem DnA.int1 {vs : List V} {i : Int} (h : DnA K S vs [.int i]) : vs = [.int i] := by
  cases h with | cons h1 h2 => cases h1; cases h2; rfl
theorem di_range1 {p : Pos} {d : dA} (hg : Gl X "range") (hm : X.mg "range" = none) (ha : DA X E [a] d) (hs : starEach [a] X.env = [(false, eval a X.env)] := by rfl) : DI X E tg (.Call (.Name "range" p) [a] [] pos) (dRng1 d) := ⟨fun B => pi_mono (pi_range1 hg hm (ha.run B) hs) fun σ H Rr q => by
  obtain ⟨δ, S, W, Q', R, q, xo, post⟩ := q
  refine ⟨δ, S, W, _, R, q, xo, fun xs δ1 vs S1 H1 q1 e1 R1 n1 => ?_⟩
  match xs, q1, n1 with
  | [.int j], ⟨q1, q2, q3⟩, n1 => exact ⟨j, n1.int1, q1, q2, post _ _ _ _ _ q3 e1 R1 it_range⟩⟩
def wipeD (δ : DS) : List Nat → DS
  | [] => δ
  | v :: vs => setSl (wipeD δ vs) v .un
theorem wipeD_len (δ : DS) : ∀ vs, (wipeD δ vs).sl.length = δ.sl.length
  | [] => rfl
  | v :: vs => by simp [wipeD, setSl, wipeD_len δ vs]
theorem Rel.wipe (R : Rel K B δ S σ H) : ∀ vs, Rel K B (wipeD δ vs) S (L2.wipe σ vs) H
  | [] => R
  | v :: vs => (R.wipe vs).forget
theorem wipeD_un (δ : DS) : ∀ {vs : List Nat} {i : Nat}, i ∈ vs → i < δ.sl.length → (wipeD δ vs).sl[i]? = some .un
  | v :: vs, i, h, hl => by
    by_cases e : v = i
    · subst e
      show ((wipeD δ vs).sl.set v Sl.un)[v]? = _
      rw [List.getElem?_set_self (by rw [wipeD_len]; exact hl)]
    · show ((wipeD δ vs).sl.set v Sl.un)[i]? = _
      rw [List.getElem?_set_ne e]
      exact wipeD_un δ ((List.mem_cons.mp h).resolve_left (Ne.symm e)) hl
theorem wipe_in {σ : L2.St} : ∀ {vs : List Nat} {i : Nat}, i ∈ vs → (L2.wipe σ vs)[i]? = (σ[i]?).map fun _ => none
  | v :: vs, i, h => by
    by_cases e : v = i
    · subst e
      show ((L2.wipe σ vs).set v none)[v]? = _
      by_cases hl : v < σ.length
      · rw [List.getElem?_set_self (by rw [wipe_length]; exact hl), List.getElem?_eq_getElem hl]; rfl
      · rw [List.getElem?_eq_none (by rw [List.length_set, wipe_length]; omega), List.getElem?_eq_none (by omega)]; rfl
    · show ((L2.wipe σ vs).set v none)[i]? = _
      rw [List.getElem?_set_ne e]
      exact wipe_in ((List.mem_cons.mp h).resolve_left (Ne.symm e))
theorem wipe_notin {σ : L2.St} : ∀ {vs : List Nat} {i : Nat}, i ∉ vs → (L2.wipe σ vs)[i]? = σ[i]?
  | [], _, _ => rfl
  | v :: vs, i, h => by
    have h1 : v ≠ i := fun e => h (by simp [e])
    show ((L2.wipe σ vs).set v none)[i]? = _
    rw [List.getElem?_set_ne h1]
    exact wipe_notin fun z => h (by simp [z])
theorem wipe_agree {σ σ' : L2.St} {vs ws : List Nat} (hl : σ'.length = σ.length) (h : ∀ i, i ∉ ws → σ'[i]? = σ[i]?) (hs : ∀ i ∈ ws, i ∈ vs) : L2.wipe σ' vs = L2.wipe σ vs := by
  apply List.ext_getElem?
  intro i
  by_cases hi : i ∈ vs
  · rw [wipe_in hi, wipe_in hi]
    by_cases hj : i < σ.length
    · rw [List.getElem?_eq_getElem hj, List.getElem?_eq_getElem (by omega)]; rfl
    · rw [List.getElem?_eq_none (by omega), List.getElem?_eq_none (by omega)]
  · rw [wipe_notin hi, wipe_notin hi]
    exact h i fun z => hi (hs i z)
/-- an object beside: B with it -/
def Bs.with (B : Bs) (L : Addr) (o : HO) : Bs := { B with H0 := upd B.H0 L o }
theorem Rel.pen_there (R : Rel K B δ S σ H) {L : Addr} (hL : H L = none) : ∀ a c, δ.pen = some (a, c) → a ≠ L := fun a c e z => by
  subst z
  exact R.pen_new hL c e
theorem PaOk.with_ {B : Bs} {p : Pen} (h : PaOk B p) {L : Addr} {o : HO} (hL : ∀ a c, p = some (a, c) → a ≠ L) : PaOk (B.with L o) p := by
  unfold PaOk at h ⊢
  by_cases q : B.pd = true ∧ B.pa ≠ none
  · rw [if_pos q] at h
    rw [if_pos (show (B.with L o).pd = true ∧ (B.with L o).pa ≠ none from q)]; exact h
  · rw [if_neg q] at h
    rw [if_neg (show ¬((B.with L o).pd = true ∧ (B.with L o).pa ≠ none) from q)]
    intro a c e
    refine ⟨?_, (h a c e).2⟩
    show upd B.H0 L o a = none
    rw [upd_ne (hL a c e)]; exact (h a c e).1
theorem PaOk.un {B : Bs} {p : Pen} {L : Addr} {o : HO} (h : PaOk (B.with L o) p) (hB : B.H0 L = none) : PaOk B p := by
  unfold PaOk at h ⊢
  by_cases q : B.pd = true ∧ B.pa ≠ none
  · rw [if_pos (show (B.with L o).pd = true ∧ (B.with L o).pa ≠ none from q)] at h
    rw [if_pos q]; exact h
  · rw [if_neg (show ¬((B.with L o).pd = true ∧ (B.with L o).pa ≠ none) from q)] at h
    rw [if_neg q]
    intro a c e
    refine ⟨?_, (h a c e).2⟩
    have e1 : upd B.H0 L o a = none := (h a c e).1
    by_cases z : a = L
    · subst z; exact hB
    · rw [upd_ne z] at e1; exact e1
theorem Rel.with_ (R : Rel K B δ S σ H) {L : Addr} {o : HO} (hL : H L = none) (ho : ∀ vs, o ≠ .tup vs) (pl : HO.plain o = true := by rfl) : Rel K (B.with L o) δ S σ (upd H L o) := by
  obtain ⟨f1, f2⟩ := R.fr.fresh hL
  have sL : S L = none := R.ex.none hL
  have g : Grow S H S (upd H L o) := ⟨Ex.refl _, Ext.of (Ex.new hL), R.ex.one hL ho, fun _ _ _ n => n⟩
  have R' := R.grow g
  obtain ⟨ow, h1, h2, h3, h4⟩ := R'.sl
  obtain ⟨ow0, a1, a2, a3, a4⟩ := R.sl
  have tr : ∀ i x, δ.sl[i]? = some x → SlOk K (B.with L o) S (upd H L o) (ow0 i) σ[i]? x := fun i x e => by
    have q := a1 i x e
    have q4 := a4 i
    cases x with
    | un => exact q
    | law ns => exact q
    | dat d => exact q
    | own ds =>
      obtain ⟨a, vs, p1, n1, n2, p2, p3, p4⟩ := q
      have ne : a ≠ L := fun z => by rw [z, hL] at p3; cases p3
      exact ⟨a, vs, p1, by show upd B.H0 L o a = none; rw [upd_ne ne]; exact n1, n2, p2, by rw [upd_ne ne]; exact p3, p4⟩
    | hp ds =>
      obtain ⟨a, vs, p1, n2, p2, p3, p4⟩ := q
      have ne : a ≠ L := fun z => by rw [z, hL] at p3; cases p3
      exact ⟨a, vs, p1, n2, p2, by rw [upd_ne ne]; exact p3, p4⟩
    | hpK ds =>
      obtain ⟨a, vs, p1, n2, p2, p3, p4⟩ := q
      have ne : a ≠ L := fun z => by rw [z, hL] at p3; cases p3
      exact ⟨a, vs, p1, n2, p2, by rw [upd_ne ne]; exact p3, p4⟩
    | ownK ds =>
      obtain ⟨a, vs, p1, n1, n2, p2, p3, p4⟩ := q
      have ne : a ≠ L := fun z => by rw [z, hL] at p3; cases p3
      exact ⟨a, vs, p1, by show upd B.H0 L o a = none; rw [upd_ne ne]; exact n1, n2, p2, by rw [upd_ne ne]; exact p3, p4⟩
    | ownT ds =>
      obtain ⟨a, vs, p1, n1, n2, p2, p3, p4⟩ := q
      have ne : a ≠ L := fun z => by rw [z, hL] at p3; cases p3
      exact ⟨a, vs, p1, by show upd B.H0 L o a = none; rw [upd_ne ne]; exact n1, n2, p2, by rw [upd_ne ne]; exact p3, p4⟩
    | ownN ds =>
      obtain ⟨a, vs, p1, n1, n2, p2, p3, p4⟩ := q
      have ne : a ≠ L := fun z => by rw [z, hL] at p3; cases p3
      exact ⟨a, vs, p1, by show upd B.H0 L o a = none; rw [upd_ne ne]; exact n1, n2, p2, by rw [upd_ne ne]; exact p3, p4⟩
    | kp a ds =>
      obtain ⟨vs, p1, n1, n2, p3, p4⟩ := q
      have ne : a ≠ L := fun z => by rw [z, hL] at p3; cases p3
      exact ⟨vs, p1, by show upd B.H0 L o a = none; rw [upd_ne ne]; exact n1, n2, by rw [upd_ne ne]; exact p3, p4⟩
  refine ⟨R'.ex, ⟨R'.fr.s, fun b u h hb nb => ?_, fun b ps h => ?_, fun b u h n => ?_, R'.fr.pa⟩, R'.pen, R.pa.with_ (R.pen_there hL), R.len, ow0, tr, a2, a3, fun i a e => ?_⟩
  · have h : upd B.H0 L o b = some u := h
    by_cases e : b = L
    · subst e; rw [upd_same] at h ⊢; exact h
    · rw [upd_ne e] at h; exact R'.fr.h b u h hb nb
  · have h : upd B.H0 L o b = some (.tbl ps) := h
    by_cases e : b = L
    · subst e; rw [upd_same] at h; cases h; cases pl
    · rw [upd_ne e] at h; exact R'.fr.t b ps h
  · have h : upd B.H0 L o b = some u := h
    by_cases e : b = L
    · subst e; exact sL
    · rw [upd_ne e] at h; exact R'.fr.no b u h n
  · obtain ⟨r1, r2, r3, u, r4⟩ := a4 i a e
    have ne : a ≠ L := fun z => by rw [z, hL] at r4; cases r4
    exact ⟨r1, r2.imp (fun q => by show upd B.H0 L o a = none; rw [upd_ne ne]; exact q) id, r3, u, by rw [upd_ne ne]; exact r4⟩
/-- .. and the object beside is changed -/
theorem Rel.with_upd {L : Addr} {o o' : HO} (R : Rel K (B.with L o) δ S σ H) (hB : B.H0 L = none) (hpa : B.pa ≠ some L) (sL : S L = none) (ho : ∀ vs, o' ≠ .tup vs) (pl : HO.plain o = true := by rfl) (pl2 : HO.plain o' = true := by rfl) : Rel K (B.with L o') δ S σ (upd H L o') := by
  obtain ⟨ow0, a1, a2, a3, a4⟩ := R.sl
  have Lh : ∀ a, (B.with L o).H0 a = none ∨ (B.with L o).pa = some a → a ≠ L := fun a h e => by
    subst e
    rcases h with h | h
    · have h : upd B.H0 a o a = none := h
      rw [upd_same] at h; cases h
    · exact hpa h
  refine ⟨⟨fun a u h => ?_, fun b vs h => by
    by_cases q : b = L
    · subst q; rw [upd_same] at h; exact absurd (Option.some.inj h) (ho vs)
    · rw [upd_ne q] at h; exact R.ex.tp b vs h, R.ex.tb.at_ L (fun b u n h => by rw [upd_ne n]; exact h) (fun u z => by
      rw [R.fr.pl (b := L) upd_same hpa pl] at z; cases z; exact own_plain pl) fun _ _ z => z⟩, ⟨R.fr.s, fun b u h hb nb => ?_, fun b ps h => ?_, fun b u h n => ?_, fun a e => ?_⟩, ?_, (R.pa.un hB).with_ fun a c e z => R.pen_ne (p := L) hpa ⟨_, upd_same⟩ c (by rw [e, z]), R.len, ow0, fun i x e => ?_, a2, a3, fun i a e => ?_⟩
  · have ne : a ≠ L := fun e => by rw [e, sL] at h; cases h
    rw [upd_ne ne]; exact R.ex a u h
  · have h : upd B.H0 L o' b = some u := h
    by_cases e : b = L
    · subst e; rw [upd_same] at h ⊢; exact h
    · rw [upd_ne e] at h ⊢
      exact R.fr.h b u (show upd B.H0 L o b = some u by rw [upd_ne e]; exact h) hb nb
  · have h : upd B.H0 L o' b = some (.tbl ps) := h
    by_cases e : b = L
    · subst e; rw [upd_same] at h; cases h; cases pl2
    · rw [upd_ne e] at h
      obtain ⟨qs, z⟩ := R.fr.t b ps (show upd B.H0 L o b = _ by rw [upd_ne e]; exact h)
      exact ⟨qs, by rw [upd_ne e]; exact z⟩
  · have h : upd B.H0 L o' b = some u := h
    by_cases e : b = L
    · subst e; exact sL
    · rw [upd_ne e] at h
      exact R.fr.no b u (show upd B.H0 L o b = some u by rw [upd_ne e]; exact h) n
  · obtain ⟨u, q⟩ := R.fr.pa a e
    have ne : a ≠ L := fun z => by subst z; exact hpa e
    exact ⟨u, by rw [upd_ne ne]; exact q⟩
  · have hp := R.pen
    cases hpe : δ.pen with
    | none => trivial
    | some ac =>
      obtain ⟨a, c⟩ := ac
      rw [hpe] at hp
      have ne : a ≠ L := fun z => R.pen_ne (p := L) hpa ⟨_, upd_same⟩ c (by rw [hpe, z])
      obtain ⟨n, ca, ns, k, m, r1, r2, r3⟩ := hp
      exact ⟨n, ca, ns, k, m, by rw [upd_ne ne]; exact r1, r2, r3⟩
  · have q := a1 i x e
    cases x with
    | un => exact q
    | law ns => exact q
    | dat d => exact q
    | own ds =>
      obtain ⟨a, vs, p1, n1, n2, p2, p3, p4⟩ := q
      have ne := Lh a (.inl n1)
      have n1 : upd B.H0 L o a = none := n1
      rw [upd_ne ne] at n1
      exact ⟨a, vs, p1, by show upd B.H0 L o' a = none; rw [upd_ne ne]; exact n1, n2, p2, by rw [upd_ne ne]; exact p3, p4⟩
    | hp ds =>
      obtain ⟨a, vs, p1, n2, p2, p3, p4⟩ := q
      exact ⟨a, vs, p1, n2, p2, by rw [upd_ne (Lh a (.inr n2))]; exact p3, p4⟩
    | hpK ds =>
      obtain ⟨a, vs, p1, n2, p2, p3, p4⟩ := q
      exact ⟨a, vs, p1, n2, p2, by rw [upd_ne (Lh a (.inr n2))]; exact p3, p4⟩
    | ownK ds =>
      obtain ⟨a, vs, p1, n1, n2, p2, p3, p4⟩ := q
      have ne := Lh a (.inl n1)
      have n1 : upd B.H0 L o a = none := n1
      rw [upd_ne ne] at n1
      exact ⟨a, vs, p1, by show upd B.H0 L o' a = none; rw [upd_ne ne]; exact n1, n2, p2, by rw [upd_ne ne]; exact p3, p4⟩
    | ownT ds =>
      obtain ⟨a, vs, p1, n1, n2, p2, p3, p4⟩ := q
      have ne := Lh a (.inl n1)
      have n1 : upd B.H0 L o a = none := n1
      rw [upd_ne ne] at n1
      exact ⟨a, vs, p1, by show upd B.H0 L o' a = none; rw [upd_ne ne]; exact n1, n2, p2, by rw [upd_ne ne]; exact p3, p4⟩
    | ownN ds =>
      obtain ⟨a, vs, p1, n1, n2, p2, p3, p4⟩ := q
      have ne := Lh a (.inl n1)
      have n1 : upd B.H0 L o a = none := n1
      rw [upd_ne ne] at n1
      exact ⟨a, vs, p1, by show upd B.H0 L o' a = none; rw [upd_ne ne]; exact n1, n2, p2, by rw [upd_ne ne]; exact p3, p4⟩
    | kp a ds =>
      obtain ⟨vs, p1, n1, n2, p3, p4⟩ := q
      have ne := Lh a (.inl n1)
      have n1 : upd B.H0 L o a = none := n1
      rw [upd_ne ne] at n1
      exact ⟨vs, p1, by show upd B.H0 L o' a = none; rw [upd_ne ne]; exact n1, n2, by rw [upd_ne ne]; exact p3, p4⟩
  · obtain ⟨r1, r2, r3, u, r4⟩ := a4 i a e
    have ne := Lh a r2
    refine ⟨r1, r2.imp (fun q => ?_) id, r3, u, by rw [upd_ne ne]; exact r4⟩
    have q : upd B.H0 L o a = none := q
    rw [upd_ne ne] at q
    show upd B.H0 L o' a = none
    rw [upd_ne ne]; exact q
def hide (H : Hp) (L : Addr) : Hp := fun b => if b = L then none else H b
theorem hide_same {H : Hp} {L : Addr} : hide H L L = none := if_pos rfl
/-- .. and taken as fresh again -/
theorem Rel.unwith {L : Addr} {o : HO} (R : Rel K (B.with L o) δ S σ H) (hB : B.H0 L = none) (hpa : B.pa ≠ some L) (sL : S L = none) (pl : HO.plain o = true := by rfl) : Rel K B δ S σ (hide H L) ∧ H L = some o ∧ H = upd (hide H L) L o := by
  have hL : H L = some o := R.fr.pl (b := L) upd_same hpa pl
  have er : ∀ a, a ≠ L → hide H L a = H a := fun a ne => if_neg ne
  obtain ⟨ow0, a1, a2, a3, a4⟩ := R.sl
  have Lh : ∀ a, (B.with L o).H0 a = none ∨ (B.with L o).pa = some a → a ≠ L := fun a h e => by
    subst e
    rcases h with h | h
    · have h : upd B.H0 a o a = none := h
      rw [upd_same] at h; cases h
    · exact hpa h
  refine ⟨⟨⟨fun a u h => ?_, fun b vs h => by
    by_cases q : b = L
    · rw [q, hide_same] at h; cases h
    · rw [er b q] at h; exact R.ex.tp b vs h, R.ex.tb.at_ L (fun b u n h => by rw [er b n]; exact h) (fun u z => by rw [hL] at z; cases z; exact own_plain pl) fun _ _ z => z⟩, ⟨R.fr.s, fun b u h hb nb => ?_, fun b ps h => ?_, fun b u h n => ?_, fun a e => ?_⟩, ?_, R.pa.un hB, R.len, ow0, fun i x e => ?_, a2, a3, fun i a e => ?_⟩, hL, ?_⟩
  · have ne : a ≠ L := fun e => by rw [e, sL] at h; cases h
    rw [er a ne]; exact R.ex a u h
  · have ne : b ≠ L := fun e => by rw [e, hB] at h; cases h
    rw [er b ne]
    exact R.fr.h b u (show upd B.H0 L o b = some u by rw [upd_ne ne]; exact h) hb nb
  · have ne : b ≠ L := fun e => by rw [e, hB] at h; cases h
    rw [er b ne]
    exact R.fr.t b ps (show upd B.H0 L o b = some (.tbl ps) by rw [upd_ne ne]; exact h)
  · have ne : b ≠ L := fun e => by rw [e, hB] at h; cases h
    exact R.fr.no b u (show upd B.H0 L o b = some u by rw [upd_ne ne]; exact h) n
  · obtain ⟨u, q⟩ := R.fr.pa a e
    have ne : a ≠ L := fun z => by subst z; exact hpa e
    exact ⟨u, by rw [er a ne]; exact q⟩
  · have hp := R.pen
    cases hpe : δ.pen with
    | none => trivial
    | some ac =>
      obtain ⟨a, c⟩ := ac
      rw [hpe] at hp
      have ne : a ≠ L := fun z => R.pen_ne (p := L) hpa ⟨_, upd_same⟩ c (by rw [hpe, z])
      obtain ⟨n, ca, ns, k, m, r1, r2, r3⟩ := hp
      exact ⟨n, ca, ns, k, m, by rw [er a ne]; exact r1, r2, r3⟩
  · have q := a1 i x e
    cases x with
    | un => exact q
    | law ns => exact q
    | dat d => exact q
    | own ds =>
      obtain ⟨a, vs, p1, n1, n2, p2, p3, p4⟩ := q
      have ne := Lh a (.inl n1)
      have n1 : upd B.H0 L o a = none := n1
      rw [upd_ne ne] at n1
      exact ⟨a, vs, p1, n1, n2, p2, by rw [er a ne]; exact p3, p4⟩
    | hp ds =>
      obtain ⟨a, vs, p1, n2, p2, p3, p4⟩ := q
      exact ⟨a, vs, p1, n2, p2, by rw [er a (Lh a (.inr n2))]; exact p3, p4⟩
    | hpK ds =>
      obtain ⟨a, vs, p1, n2, p2, p3, p4⟩ := q
      exact ⟨a, vs, p1, n2, p2, by rw [er a (Lh a (.inr n2))]; exact p3, p4⟩
    | ownK ds =>
      obtain ⟨a, vs, p1, n1, n2, p2, p3, p4⟩ := q
      have ne := Lh a (.inl n1)
      have n1 : upd B.H0 L o a = none := n1
      rw [upd_ne ne] at n1
      exact ⟨a, vs, p1, n1, n2, p2, by rw [er a ne]; exact p3, p4⟩
    | ownT ds =>
      obtain ⟨a, vs, p1, n1, n2, p2, p3, p4⟩ := q
      have ne := Lh a (.inl n1)
      have n1 : upd B.H0 L o a = none := n1
      rw [upd_ne ne] at n1
      exact ⟨a, vs, p1, n1, n2, p2, by rw [er a ne]; exact p3, p4⟩
    | ownN ds =>
      obtain ⟨a, vs, p1, n1, n2, p2, p3, p4⟩ := q
      have ne := Lh a (.inl n1)
      have n1 : upd B.H0 L o a = none := n1
      rw [upd_ne ne] at n1
      exact ⟨a, vs, p1, n1, n2, p2, by rw [er a ne]; exact p3, p4⟩
    | kp a ds =>
      obtain ⟨vs, p1, n1, n2, p3, p4⟩ := q
      have ne := Lh a (.inl n1)
      have n1 : upd B.H0 L o a = none := n1
      rw [upd_ne ne] at n1
      exact ⟨vs, p1, n1, n2, by rw [er a ne]; exact p3, p4⟩
  · obtain ⟨r1, r2, r3, u, r4⟩ := a4 i a e
    have ne := Lh a r2
    refine ⟨r1, r2.imp (fun q => ?_) id, r3, u, by rw [er a ne]; exact r4⟩
    have q : upd B.H0 L o a = none := q
    rw [upd_ne ne] at q
    exact q
  · funext b
    by_cases e : b = L
    · subst e; rw [upd_same]; exact hL
    · rw [upd_ne e]; exact (er b e).symm
end
end Ev
namespace Ev
open PySem PySem.Spec PyProof.Rows L2
variable [TabC]
variable {K : PySem.W.Frag} {S S' H H' : Hp} {B : Bs} {δ : DS} {σ : L2.St}
section
variable {X : Cx} {E E2 : EK} {e a b c tg : Expr} {es : List Expr} {pos : Pos} {st : Stmt} {rest : List Stmt} {da db : dE} {t u : dS}
def W0 : XW := fun _ _ => False
structure DTs (X : Cx) (E : EK) (ifs : List Expr) (d : dT) : Prop where
  run : ∀ B, PTs X ifs (liftT X.K B E d)
theorem pts_mono {ifs : List Expr} {t t' : TT} (h : PTs X ifs t) (m : ∀ σ H Q, t' σ H Q → t σ H Q) : PTs X ifs t' := ⟨fun pins s σ H Q I q => h.run pins s σ H Q I (m _ _ _ q)⟩
def dYes : dT := fun _ δ Q => Q true δ
theorem dts_nil : DTs X E [] dYes := ⟨fun B => pts_mono pts_nil fun σ H Q q => by
  obtain ⟨δ, S, W, Q', R, q, xo, post⟩ := q
  exact post _ _ _ _ q (Ex.refl _) R⟩
theorem dts_one {d : dT} (h : DT X E c d) : DTs X E [c] d := ⟨fun B => pts_one (h.run B)⟩
def wLC (g : dG) (tt : dT) (te : dE) (vs : List Nat) (Q : List D → DS → Prop) : List D → List D → DS → Prop
  | [], acc, δ => Q acc δ
  | d :: ds, acc, δ => g d δ fun δ1 => tt W0 δ1 fun k δ2 => match k with
    | true => te W0 δ2 fun y δ3 => acc.length < sizeLine ∧ wLC g tt te vs Q ds (acc ++ [y]) (wipeD δ3 vs)
    | false => wLC g tt te vs Q ds acc (wipeD δ2 vs)
def dLC (w : dI) (g : dG) (tt : dT) (te : dE) (vs : List Nat) : dF := fun W δ Q => w W δ fun ds δ1 => wLC g tt te vs Q ds [] (wipeD δ1 vs)
def exG (K : PySem.W.Frag) (g : dG) (ws : List Nat) : TG := fun v σ H Q => ∃ B, liftG K B g ws v σ H Q
def exT (K : PySem.W.Frag) (E : EK) (d : dT) : TT := fun σ H Q => ∃ B, liftT K B E d σ H Q
def exE (K : PySem.W.Frag) (E : EK) (d : dE) : TE := fun σ H Q => ∃ B, liftE K B E d σ H Q
theorem exG_ok {g : dG} {ws : List Nat} (h : DG X tg g ws) : PG X tg (exG X.K g ws) := ⟨fun pins s σ H v u Q I r ⟨B, q⟩ => (h.run B).run pins s σ H v u Q I r q⟩
theorem exT_ok {ifs : List Expr} {d : dT} (h : DTs X E ifs d) : PTs X ifs (exT X.K E d) := ⟨fun pins s σ H Q I ⟨B, q⟩ => (h.run B).run pins s σ H Q I q⟩
theorem exE_ok {d : dE} (h : DE X E e d) : PE X e (exE X.K E d) := ⟨fun pins s σ H Q I ⟨B, q⟩ => (h.run B).run pins s σ H Q I q⟩
theorem xok0 : XOk K B E W0 S := fun _ _ _ _ _ _ _ h => h.elim
theorem lc_read {w : dI} {g : dG} {tt : dT} {te : dE} {vs ws : List Nat} {W : XW} {Qd : List D → DS → Prop} {δ : DS} {Q : VK} (hws : ∀ i ∈ ws, i ∈ vs) (R : Rel K B δ S σ H) (q : dLC w g tt te vs W δ Qd) (xo : XOk K B E W S)
    (post : ∀ xs δ' p vs' S' H', Qd xs δ' → Ex S S' → Rel K B δ' S' σ H' → H' p = none → DnA K S' vs' xs → Q (.ref p) (upd H' p (.lst vs'))) : tLc (liftI K B E w) (exG K g ws) (exT K E2 tt) (exE K E2 te) vs σ H Q := by
  refine ⟨δ, S, W, _, R, q, xo, fun ds δ1 S1 H1 J q1 e1 R1 it1 => ?_⟩
  intro L hL
  obtain ⟨f1, f2⟩ := R1.fr.fresh hL
  have s1L : S1 L = none := R1.ex.none hL
  have Ln : ∀ {δ S2 σ2 H2 o}, Rel K (B.with L o) δ S2 σ2 H2 → S2 L = none := fun {δ S2 σ2 H2 o} R2 => R2.fr.no L o upd_same (R1.fr.s.none s1L)
  let Inv : Nat → Hp → Prop := fun i H2 => ∃ δ2 S2 acc vacc, Ex S1 S2 ∧ Rel K (B.with L (.lst vacc)) δ2 S2 (L2.wipe σ vs) H2 ∧ DnA K S2 vacc acc ∧ wLC g tt te vs Qd (ds.drop i) acc δ2 ∧ (∀ j ∈ vs, j < δ2.sl.length → δ2.sl[j]? = some .un)
  refine ⟨fun i m H2 => m = ds.length - i ∧ i ≤ ds.length ∧ Inv i H2, ⟨_, rfl, Nat.zero_le _, ?_⟩, ?_⟩
  · refine ⟨wipeD δ1 vs, S1, [], [], Ex.refl _, (R1.with_ hL (fun vs z => HO.noConfusion z)).wipe vs, .nil, q1, fun j hj hl => wipeD_un δ1 hj (by rw [wipeD_len] at hl; exact hl)⟩
  · rintro i m H2 ⟨rfl, hi, δ2, S2, acc, vacc, e2, R2, nacc, q2, hun⟩
    by_cases hlt : i < ds.length
    · refine .inr ⟨it1.goes i S2 H2 e2 R2.ex hlt, fun H' => i + 1 ≤ ds.length ∧ Inv (i + 1) H', fun H' h => ⟨ds.length - (i + 1), by omega, rfl, h⟩, fun x H3 y => ?_⟩
      obtain ⟨S3, d, g3, ed, dn⟩ := it1.yields i S2 H2 x H3 e2 R2.ex hlt y
      have hd : ds.drop i = d :: ds.drop (i + 1) := by
        obtain ⟨h1, h2⟩ := List.getElem?_eq_some_iff.mp ed
        rw [List.drop_eq_getElem_cons h1, h2]
      rw [hd] at q2
      refine ⟨B.with L (.lst vacc), δ2, S3, d, _, R2.grow g3, dn, q2, fun δ4 σ4 S4 H4 q4 e4 R4 a4 l4 => ?_⟩
      have hw : L2.wipe σ4 vs = L2.wipe σ vs := wipe_agree (l4.trans (wipe_length σ vs)) (fun j hj => by rw [a4 j (fun z => hj (hws j z)), wipe_notin hj]) (fun _ h => h)
      refine ⟨hw, B.with L (.lst vacc), δ4, S4, W0, _, R4, q4, xok0, fun k δ5 S5 H5 q5 e5 R5 => ?_⟩
      cases k with
      | true =>
        refine iteT ⟨B.with L (.lst vacc), δ5, S5, W0, _, R5, q5, xok0, fun y δ6 v S6 H6 q6 e6 R6 n6 => ?_⟩
        have l6 := Ln R6
        refine ⟨vacc, R6.fr.pl upd_same f2, ?_, hlt, wipeD δ6 vs, S6, acc ++ [y], vacc ++ [v], ?_, ?_, ?_, q6.2, fun j hj hl => wipeD_un δ6 hj (by rw [wipeD_len] at hl; exact hl)⟩
        · rw [nacc.length]; exact q6.1
        · exact e2.trans (g3.s.trans (e4.trans (e5.trans e6)))
        · have := (R6.with_upd (o' := .lst (vacc ++ [v])) f1 f2 l6 (fun vs z => HO.noConfusion z)).wipe vs
          rw [hw] at this
          exact this
        · exact (nacc.mono (g3.s.trans (e4.trans (e5.trans e6)))).append (.cons n6 .nil)
      | false =>
        refine iteF ⟨hlt, wipeD δ5 vs, S5, acc, vacc, e2.trans (g3.s.trans (e4.trans e5)), ?_, nacc.mono (g3.s.trans (e4.trans e5)), q5, fun j hj hl => wipeD_un δ5 hj (by rw [wipeD_len] at hl; exact hl)⟩
        have := R5.wipe vs
        rw [hw] at this
        exact this
    · have e : i = ds.length := by omega
      subst e
      rw [List.drop_length] at q2
      refine .inl ⟨it1.stops S2 H2 e2 R2.ex, ?_⟩
      have l2 := Ln R2
      obtain ⟨R3, _, eH⟩ := R2.unwith f1 f2 l2
      rw [eH]
      have hl : σ.length = (L2.wipe σ vs).length := (wipe_length σ vs).symm
      refine post acc δ2 L vacc S2 _ q2 (e1.trans e2) (R3.agree hl fun j => ?_) hide_same nacc
      by_cases hj : j ∈ vs
      · by_cases hk : j < δ2.sl.length
        · exact .inr (hun j hj hk)
        · left
          have h1 : σ.length ≤ j := by rw [hl, R3.len]; omega
          rw [List.getElem?_eq_none h1, List.getElem?_eq_none (by rw [wipe_length]; exact h1)]
      · exact .inl (wipe_notin hj).symm
/-- [elt for target in iter if ..] -/
theorem df_lc {elt iter : Expr} {ifs : List Expr} {scope : Scope} {own : List (Str × Nat)} {w : dI} {g : dG} {tt : dT} {te : dE} {ws : List Nat} (hc : X.calm = true) (hN : X.N.Nodup) (hi : DI X E tg iter w) (ok : BlkOk X.N X.env.scope scope own) (hws : ∀ i ∈ ws, i ∈ own.map (·.2))
    (hg : ∀ (s : Shared) (H : Hp) (C : Addr) (cl : List (Str × Addr)) (fp : List Addr), DG (X.blk s H scope (compEnvC scope cl C X.env) fp) tg g ws) (ht : ∀ (s : Shared) (H : Hp) (C : Addr) (cl : List (Str × Addr)) (fp : List Addr), DTs (X.blk s H scope (compEnvC scope cl C X.env) fp) E2 ifs tt)
    (he : ∀ (s : Shared) (H : Hp) (C : Addr) (cl : List (Str × Addr)) (fp : List Addr), DE (X.blk s H scope (compEnvC scope cl C X.env) fp) E2 elt te) (hs : ∀ x, foldedSetIterable iter X.env x = pure x := by intro _; rfl) :
    DF X E (.ListComp elt [⟨tg, iter, ifs, 0⟩] scope pos) (dLC w g tt te (own.map (·.2))) := ⟨fun B => pe_mono (pe_lc hc hN (hi.run B) ok (fun s H C cl fp => exG_ok (hg s H C cl fp)) (fun s H C cl fp => exT_ok (E := E2) (ht s H C cl fp)) (fun s H C cl fp => exE_ok (E := E2) (he s H C cl fp)) hs) fun σ H Q q => by
  obtain ⟨δ, S, W, Q', R, q, xo, post⟩ := q
  exact lc_read (E2 := E2) hws R q xo post⟩
/-- name = [..] in one line -/
theorem ds_setLc {i : Nat} {y : Str} {py spos : Pos} {elt iter : Expr} {ifs : List Expr} {scope : Scope} {own : List (Str × Nat)} {w : dI} {g : dG} {tt : dT} {te : dE} {ws : List Nat} (hc : X.calm = true) (hN : X.N.Nodup) (hy : X.N[i]? = some y) (hyl : X.env.scope.names.lookup y = some .local)
    (hsw : swapsWith (.ListComp elt [⟨tg, iter, ifs, 0⟩] scope pos) (some (.Name y py)) spos.line X.env = pure true) (hi : DI X E tg iter w) (ok : BlkOk X.N X.env.scope scope own) (hws : ∀ i ∈ ws, i ∈ own.map (·.2))
    (hg : ∀ (s : Shared) (H : Hp) (C : Addr) (cl : List (Str × Addr)) (fp : List Addr), DG (X.blk s H scope (compEnvC scope cl C X.env) fp) tg g ws) (ht : ∀ (s : Shared) (H : Hp) (C : Addr) (cl : List (Str × Addr)) (fp : List Addr), DTs (X.blk s H scope (compEnvC scope cl C X.env) fp) E2 ifs tt)
    (he : ∀ (s : Shared) (H : Hp) (C : Addr) (cl : List (Str × Addr)) (fp : List Addr), DE (X.blk s H scope (compEnvC scope cl C X.env) fp) E2 elt te) (hs : ∀ x, foldedSetIterable iter X.env x = pure x := by intro _; rfl) :
    DSt X E (.Assign [.Name y py] (.ListComp elt [⟨tg, iter, ifs, 0⟩] scope pos) spos) (dSetF i (dLC w g tt te (own.map (·.2)))) := ⟨fun B => ps_mono (ps_setLc hc hN hy hyl hsw (hi.run B) ok (fun s H C cl fp => exG_ok (hg s H C cl fp)) (fun s H C cl fp => exT_ok (E := E2) (ht s H C cl fp)) (fun s H C cl fp => exE_ok (E := E2) (he s H C cl fp)) hs) fun Z σ H q => by
  obtain ⟨δ, S, W, N, R, q, xo, p1, _⟩ := q
  exact lc_read (E2 := E2) hws R q xo fun xs δ' p vs' S' H' q1 e1 R1 hp n1 => p1 _ _ _ _ q1 e1 (R1.setOwn hp n1)⟩
end
end Ev
namespace Ev
open PySem PySem.Spec PyProof.Rows L2
variable [TabC]
/-- a promise of a def, wherever no repr is under way -/
structure FnG (P : Program) (w : World) (K : PySem.W.Frag) (mg : Str → Option Value) (base : Heap) (CX : CXT) (k : Nat) (f : Addr) (fd : FuncData) (ps : List Str) (sp : Sp) : Prop where
  len : ∀ vs H Q E, sp vs H Q E → vs.length = ps.length
  run : ∀ (A : Around) (out : List Env) (s : Shared) (H : Hp) (ar : Args) (us : List Value) (vs : List V) (Q : VK) (E : XK), A.guards = some [] → Room k A → Env0 P w K mg base A out s H →
    BindsTo s fd ar (ps.zip us) → Vals vs us → sp vs H Q E → codeAny (model P w) A (.call (.ref f) ar) (CR CX out P w H s Q E) s
theorem FnG.mono {P : Program} {w : World} {K : PySem.W.Frag} {mg : Str → Option Value} {base : Heap} {CX : CXT} {j k : Nat} {f : Addr} {fd : FuncData} {ps : List Str} {sp : Sp} (F : FnG P w K mg base CX j f fd ps sp) (h : j ≤ k) : FnG P w K mg base CX k f fd ps sp :=
  ⟨F.len, fun A out s H ar us vs Q E g r => F.run A out s H ar us vs Q E g (r.mono h)⟩
theorem FnG.imp {P : Program} {w : World} {K : PySem.W.Frag} {mg : Str → Option Value} {base : Heap} {CX : CXT} {k : Nat} {f : Addr} {fd : FuncData} {ps : List Str} {sp sp' : Sp} (F : FnG P w K mg base CX k f fd ps sp)
    (h : ∀ vs H Q E, sp' vs H Q E → sp vs H Q E) : FnG P w K mg base CX k f fd ps sp' :=
  ⟨fun vs H Q E q => F.len vs H Q E (h _ _ _ _ q), fun A out s H ar us vs Q E g r e b v q => F.run A out s H ar us vs Q E g r e b v (h _ _ _ _ q)⟩
section
variable {X : Cx} {CX : CXT} {k : Nat} {f : Addr} {fd : FuncData} {ps : List Str} {sp : Sp} {E : L2.St → XK}
/-- a callee runs, its arguments bound somehow -/
theorem run_g {pins : List (Addr × Obj)} {σ : L2.St} {H : Hp} {s : Shared} {Q : VK} {ar : Args} {us : List Value} {vs : List V} (F : FnG X.prog X.w X.K X.mg X.base CX k f fd ps sp) (hg : X.A.guards = some []) (hr : Room k X.A)
    (hx : PassesAt CX X σ (E σ)) (I : Inv X pins σ H s) (hb : BindsTo s fd ar (ps.zip us)) (r : Vals vs us) (h : sp vs H Q (E σ)) : codeAny (model X.prog X.w) X.A (.call (.ref f) ar) (callEnd (EP X pins σ Q) X.xe) s := by
  refine codeAny_mono (F.run X.A X.stack s H ar us vs Q (E σ) hg hr I.env0 hb r h) fun res s' hq => ?_
  match res, hq with
  | .error e, hq => exact hx pins H s e s' I hq
  | .ok (.ret u), hq => exact I.after hq
def tG (sp : Sp) (dv : List V) (E : L2.St → XK) (t : TA) : TE := fun σ H Q => t σ H fun vs H1 => sp (vs ++ dv) H1 Q (E σ)
theorem pe_callG {x : Str} {p pos : Pos} {e : Expr} {es : List Expr} {t : TA} {dv : List V} {ds : List Value} (F : FnG X.prog X.w X.K X.mg X.base CX k f fd ps sp) (hg : X.A.guards = some []) (hr : Room k X.A) (gl : Gl X x) (hm : X.mg x = some (.ref f))
    (hk : PySem.W.keepIn X.K (.ref f) = true) (hb : Binds X.K fd ps ds) (hd : Vals dv ds) (hx : ∀ σ, PassesAt CX X σ (E σ)) (ha : PA X (e :: es) t) (hdb : (x == ("__debug__" : Str)) = false := by decide)
    (he : starEach (e :: es) X.env = (false, eval e X.env) :: starEach es X.env := by rfl) (hpl : (backTo pos (starEach es X.env)).any (·.1) = false := by rfl) : PE X (.Call (.Name x p) (e :: es) [] pos) (tG sp dv E t) := by
  refine ⟨fun pins s σ H Q I h => wpAny_Call_Name_kw (ld_glob I gl hm ?_ hdb)⟩
  refine PySem.W.callWith_K (h₀ := X.base) I.ok.mod.kin hk (thn (ha.run pos pins s σ H _ I h) fun us s1 ⟨vs, H1, I1, r, q⟩ => ⟨I1.kIn, ?_⟩) he hpl
  have rr : Vals (vs ++ dv) (us ++ ds) := r.append hd
  have ln : (us ++ ds).length = ps.length := by rw [← rr.length]; exact F.len _ _ _ _ q
  exact wpAny_call (run_g F hg hr (hx σ) I1 (hb s1 us I1.kIn ln) rr q)
def tGK (sp : Sp) (gV : List V → List V → List V) (E : L2.St → XK) (t tk : TA) : TE := fun σ H Q => t σ H fun vs H1 => tk σ H1 fun zs H2 => sp (gV vs zs) H2 Q (E σ)
theorem pe_callGK0 {x : Str} {p pos : Pos} {kws : List Keyword} {ks : List Str} {tk : TA} {g : List Value → List Value → List Value} {gV : List V → List V → List V} (F : FnG X.prog X.w X.K X.mg X.base CX k f fd ps sp) (hg : X.A.guards = some []) (hr : Room k X.A)
    (gl : Gl X x) (hm : X.mg x = some (.ref f)) (hk : PySem.W.keepIn X.K (.ref f) = true) (hb : KBinds X.K fd ps ks g gV) (hx : ∀ σ, PassesAt CX X σ (E σ)) (hkw : PK X kws tk) (hall : (backToKw pos (keywordEach kws X.env)).all (·.1.isSome) = true := by rfl)
    (hks : (backToKw pos (keywordEach kws X.env)).filterMap (·.1) = ks := by rfl) (hdb : (x == ("__debug__" : Str)) = false := by decide)
    (hpl : ((backTo pos (starEach [] X.env)).any (·.1) || (backToKw pos (keywordEach kws X.env)).any (·.1.isNone)) = false := by rfl) : PE X (.Call (.Name x p) [] kws pos) (tGK sp gV E tNil tk) := by
  refine ⟨fun pins s σ H Q I h => wpAny_Call_Name_kw (ld_glob I gl hm ?_ hdb)⟩
  refine PySem.W.callWith_KW0 (h₀ := X.base) I.ok.mod.kin hk hall ?_ hpl
  refine thn (hkw.run pos pins s σ H _ I h) fun ws s2 ⟨zs, H2, I2, rz, q2⟩ => ⟨I2.kIn, ?_⟩
  rw [hks]
  have rr := hb.rel (vs := []) (us := []) .nil rz
  have ln : (g [] ws).length = ps.length := by rw [← rr.length]; exact F.len _ _ _ _ q2
  exact wpAny_call (run_g F hg hr (hx σ) I2 (hb.to s2 [] ws I2.kIn ln) rr q2)
end
/-- the code of the def at f -/
def CdOk (K : PySem.W.Frag) (f : Addr) (cdv : Value) : Prop := ∃ oc od fd osl, K.lookup f = some ⟨oc, od, .func fd, osl⟩ ∧ fd.code = cdv
/-- THE RULE for a def, by its body -/
theorem fn_g {CX : CXT} {P : Program} {w : World} {K : PySem.W.Frag} {mg : Str → Option Value} {base : Heap} {k : Nat} {f : Addr} {x qual : Str} {st : Stmt} {fd : FuncData} {N ps : List Str} {sp : Sp} (F : Fun K x qual st f fd) (S : FnScope N ps (defScope st))
    (len : ∀ vs H Q E, sp vs H Q E → vs.length = ps.length)
    (body : ∀ (cdv : Value), CdOk K f cdv → ∀ (A : Around) (out : List Env) (s : Shared) (H : Hp) (vs : List V) (Q : VK) (E : XK), A.guards = some [] → Room k (A.deeper (envOfC qual (defScope st) s.heap.objs.size f cdv)) → sp vs H Q E →
      ∃ t, PSs (cxOf CX P w K mg base N qual (defScope st) f cdv A out s H E) (defBody st) t ∧ t { nx := fun _ H' => Q .non H', rt := Q } (start N vs) H) : FnG P w K mg base CX (k + 1) f fd ps sp := by
  obtain ⟨oc, od, kV, doc, pm, an, cdv, ct, osl, rfl, lk, hcd⟩ := F.ex
  refine ⟨len, fun A out s H ar us vs Q E g hr e0 hb r hsp => ?_⟩
  have old : ∀ b o, base.get? b = some o → s.heap.get? b = some o := fun b o e => (e0.bs b o e).1
  have KX : K.In s.heap := e0.mod.kin.keeps old
  refine codeAny_call_function hr.depth (KX _ _ lk) rfl S.co S.gen rfl (PySem.W.codeRec_of KX hcd) (hb _ _ _ _ ?_)
  refine wpAny_newFunctionEnv_cells S.kind (fun y hy => (S.par y.1 (List.of_mem_zip (show (y.1, y.2) ∈ _ from hy)).1).imp id fun q => ⟨q, PySem.W.cellsFrom_some _ _ _ (.inl q)⟩) fun env he s1 z => ?_
  subst he
  refine ⟨(e0.mod.nolimit.keeps old).keeps z.toInCall.keep, codeAny_func ?_⟩
  obtain ⟨t, ht, hq⟩ := body cdv ⟨_, _, _, _, lk, rfl⟩ A out s H vs Q E g (hr.deeper _) hsp
  refine wpAny_mono (ht.run [] s1 (start N vs) H _ (inv_start S hr.hd e0 (len _ _ _ _ hsp) r z) hq) (fun fl s' hs => ?_) fun _ _ h => h
  match fl, hs with
  | .ret u, ⟨v, _, H', J, rv, q⟩ => exact ⟨v, H', J.os, J.bare, J.base, J.hok, rv, q⟩
  | .next, ⟨_, H', J, q⟩ => exact ⟨.non, H', J.os, J.bare, J.base, J.hok, rfl, q⟩
  | .brk, ⟨_, _, _, q⟩ => exact q.elim
  | .cont, ⟨_, _, _, q⟩ => exact q.elim
end Ev
namespace Ev
open PySem PySem.Spec PyProof.Rows L2
variable [TabC]
variable {K : PySem.W.Frag} {S S' H H' : Hp} {B : Bs} {δ : DS} {σ : L2.St}
/-- a promise over data: arguments, pen, what is wanted of the answer, what is wanted of an exception -/
abbrev dSp := List D → Pen → (D → Pen → Prop) → (Xc → Pen → Prop) → Prop
/-- behind a call -/
structure Fin (S H S' H' : Hp) (p p' : Pen) : Prop where
  s : Ex S S'
  ok : Sb S' H'
  pen : PenOk S' H' p'
  same : p'.map (·.1) = p.map (·.1) ∨ (p = none ∧ ∀ a c, p' = some (a, c) → H a = none)
  h : ∀ b o, H b = some o → p.map (·.1) ≠ some b → NT o → H' b = some o
  t : ∀ b ps, H b = some (.tbl ps) → ∃ qs, H' b = some (.tbl qs)
  no : ∀ b o, H b = some o → S b = none → S' b = none
def spD (K : PySem.W.Frag) (n : Nat) (sp : dSp) : Sp := fun vs H Q E => ∃ S ds p Q' W', Sb S H ∧ PenOk S H p ∧ DnA K S vs ds ∧ ds.length = n ∧ sp ds p Q' W' ∧
  (∀ x p' v S' H', Q' x p' → Fin S H S' H' p p' → Dn K S' v x → Q v H') ∧ ∀ c p' cls od S' H', W' c p' → Fin S H S' H' p p' → XcOk K S' H' c cls od → E cls od H'
theorem spD_len {n : Nat} {sp : dSp} : ∀ vs H Q E, spD K n sp vs H Q E → vs.length = n := fun vs H Q E ⟨S, ds, p, Q', W', _, _, a, l, _⟩ => a.length.trans l
theorem Pen.map_ne {p : Pen} {a : Addr} (h : ∀ c, p ≠ some (a, c)) : p.map (·.1) ≠ some a := fun z => by
  match hp : p, z with
  | some (a', c), z =>
    cases (show some a' = some a from z)
    exact h c rfl
theorem Fin.ne {p p' : Pen} (f : Fin S H S' H' p p') {a : Addr} (h : p.map (·.1) ≠ some a) {o : HO} (ho : H a = some o) : ∀ c, p' ≠ some (a, c) := fun c z => by
  rcases f.same with q | ⟨_, q⟩
  · rw [z] at q; exact h q.symm
  · rw [q a c z] at ho; cases ho
theorem Fin.there {p p' : Pen} (f : Fin S H S' H' p p') {a : Addr} {o : HO} (ho : H a = some o) (h : p.map (·.1) ≠ some a) : ∃ o', H' a = some o' := by
  cases o with
  | tbl ps => obtain ⟨qs, q⟩ := f.t a ps ho; exact ⟨_, q⟩
  | ext φ => exact ⟨_, f.h a _ ho h fun _ z => nomatch z⟩
  | _ => exact ⟨_, f.h a _ ho h (nt_plain rfl)⟩
theorem Rel.after (R : Rel K B δ S σ H) {p' : Pen} (f : Fin S H S' H' δ.pen p') : Rel K B { δ with pen := p' } S' σ H' := by
  obtain ⟨ow, h1, h2, h3, h4⟩ := R.sl
  have e0 : ∀ b, B.pa ≠ some b → (∃ o, B.H0 b = some o) → δ.pen.map (·.1) ≠ some b := fun b hb h0 => Pen.map_ne (R.pen_ne hb h0)
  refine ⟨f.ok, ⟨R.fr.s.trans f.s, fun b o h n nt => f.h b o (R.fr.h b o h n nt) (e0 b n ⟨o, h⟩) nt, fun b ps h => by
    obtain ⟨qs, z⟩ := R.fr.t b ps h
    exact f.t b qs z, fun b o h n => ?_, fun a e => ?_⟩, f.pen, ?_, R.len, ow, fun i x e => (h1 i x e).grow f.s fun a o ea ha pl => f.h a o ha (Pen.map_ne (h4 i a ea).2.2.1) pl, h2, h3, fun i a e => ?_⟩
  · obtain ⟨o', q⟩ := R.fr.there h
    exact f.no b o' q (R.fr.no b o h n)
  · obtain ⟨u, hu⟩ := R.fr.pa a e
    by_cases z : δ.pen.map (·.1) = some a
    · have e1 : p'.map (·.1) = some a := by
        rcases f.same with q | ⟨q, _⟩
        · exact q.trans z
        · rw [q] at z; cases z
      match p', e1, f.pen with
      | some (a', c), e1, ⟨_, ca, ns, k, m, q, _⟩ =>
        cases (show some a' = some a from e1)
        exact ⟨_, q⟩
    · exact f.there hu z
  · have q := R.pa
    unfold PaOk at q ⊢
    by_cases hp : B.pd = true ∧ B.pa ≠ none
    · rw [if_pos hp] at q ⊢
      rcases f.same with r | ⟨r, _⟩
      · exact r.trans q
      · rw [r] at q
        exact absurd q.symm hp.2
    · rw [if_neg hp] at q ⊢
      intro a c e
      have e : p' = some (a, c) := e
      rcases f.same with r | ⟨_, r⟩
      · rw [e] at r
        match hd : δ.pen, r with
        | some (a', c'), r =>
          cases (show some a = some a' from r)
          exact q a c' hd
      · have h0 := r a c e
        exact ⟨(R.fr.fresh h0).1, (R.fr.fresh h0).2⟩
  · obtain ⟨r1, r2, r3, u, r4⟩ := h4 i a e
    have ne := Pen.map_ne r3
    exact ⟨f.no a u r4 r1, r2, f.ne ne r4, f.there r4 ne⟩
section
variable {X : Cx} {E : EK} {CX : CXT} {k : Nat} {f : Addr} {fd : FuncData} {ps : List Str} {x : Str} {p pos : Pos} {e : Expr} {es : List Expr}
theorem call_read {sp : dSp} {W : XW} {Q' : D → DS → Prop} {δ1 : DS} {S S1 H1 : Hp} {Q : VK} {vs : List V} {xs : List D} (xo : XOk K B E W S) (e1 : Ex S S1) (R1 : Rel K B δ1 S1 σ H1) (n1 : DnA K S1 vs xs) {n : Nat} (hn : xs.length = n)
    (q : sp xs δ1.pen (fun x p' => Q' x { δ1 with pen := p' }) fun c p' => W c { δ1 with pen := p' }) (post : ∀ x δ' v S' H', Q' x δ' → Ex S S' → Rel K B δ' S' σ H' → Dn K S' v x → Q v H') : spD K n sp vs H1 Q (E σ) :=
  ⟨S1, xs, δ1.pen, _, _, R1.ex, R1.pen, n1, hn, q, fun x p' v S' H' q' f d => post _ _ _ _ _ q' (e1.trans f.s) (R1.after f) d, fun c p' cls od S' H' w f k => xo c _ σ S' H' cls od w (e1.trans f.s) (R1.after f) k⟩
end
def endsD (Q : D → Pen → Prop) : dEnds := { nx := fun δ => Q .non δ.pen, rt := fun x δ => Q x δ.pen }
def startD (m : Nat) (ds : List D) (p : Pen) : DS := ⟨ds.map .dat ++ List.replicate (m - ds.length) .un, p⟩
theorem startRel {N : List Str} {vs : List V} {ds : List D} {p : Pen} (e : Sb S H) (hp : PenOk S H p) (a : DnA K S vs ds) (hl : ds.length ≤ N.length) : Rel K ⟨S, H, p.map (·.1), true⟩ (startD N.length ds p) S (L2.start N vs) H := by
  have hln := a.length
  refine ⟨e, ⟨Ex.refl _, fun _ _ h _ _ => h, fun _ ps h => ⟨ps, h⟩, fun _ _ _ n => n, fun b z => ?_⟩, hp, ?_, ?_, (fun _ => none), fun i x h => ?_, fun _ _ => rfl, fun _ _ _ z => (nomatch z), fun _ _ z => (nomatch z)⟩
  · match p, z, hp with
    | some (a', c), z, ⟨_, ca, ns, k, m, q, _⟩ =>
      cases (show some a' = some b from z)
      exact ⟨_, q⟩
  · unfold PaOk
    by_cases q : p.map (·.1) = none
    · rw [if_neg (fun z => z.2 q)]
      intro a c e
      have e : p = some (a, c) := e
      rw [e] at q; cases q
    · rw [if_pos ⟨rfl, q⟩]; rfl
  · simp only [L2.start, startD, List.length_append, List.length_map, List.length_replicate]; omega
  · have h : (ds.map Sl.dat ++ List.replicate (N.length - ds.length) Sl.un)[i]? = some x := h
    by_cases hi : i < ds.length
    · rw [List.getElem?_append_left (by simpa using hi), List.getElem?_map, List.getElem?_eq_getElem hi] at h
      cases h
      obtain ⟨v, hv, dn⟩ := a.get (List.getElem?_eq_getElem hi)
      refine ⟨rfl, v, ?_, dn⟩
      unfold L2.start
      rw [List.getElem?_append_left (by rw [List.length_map]; omega), List.getElem?_map, hv]; rfl
    · rw [List.getElem?_append_right (by simpa using hi), List.getElem?_replicate] at h
      split at h
      · cases h; exact rfl
      · cases h
theorem Rel.fin {p : Pen} {S0 H0 : Hp} (R : Rel K ⟨S0, H0, p.map (·.1), true⟩ δ S σ H) : Fin S0 H0 S H p δ.pen := by
  have hp := R.pa
  unfold PaOk at hp
  refine ⟨R.fr.s, R.ex, R.pen, ?_, fun b o h n nt => R.fr.h b o h n nt, R.fr.t, R.fr.no⟩
  by_cases q : p.map (·.1) = none
  · rw [if_neg (fun z => z.2 q)] at hp
    refine .inr ⟨?_, fun a c e => (hp a c e).1⟩
    match p, q with
    | none, _ => rfl
  · rw [if_pos ⟨rfl, q⟩] at hp
    exact .inl hp
section
variable {P : Program} {w : World} {K : PySem.W.Frag} {mg : Str → Option Value} {base : Heap} {x qual : Str} {st : Stmt} {f : Addr} {fd : FuncData} {N ps : List Str} {k n : Nat} {sp : dSp} {d : dS}
/-- the context of the body of a def that lets nothing out -/
abbrev cx0 (P : Program) (w : World) (K : PySem.W.Frag) (mg : Str → Option Value) (base : Heap) (N : List Str) (qual : Str) (sc : Scope) (f : Addr) (cdv : Value) (A : Around) (out : List Env) (s : Shared) (H : Hp) (E : XK) : Cx := (cxOf CX0 P w K mg base N qual sc f cdv A out s H E).nox
abbrev E00 : EK := fun _ _ _ _ => False
/-- a def that lets nothing out keeps sp -/
theorem fn_d0 (F : Fun K x qual st f fd) (S : FnScope N ps (defScope st)) (hn : ps.length = n)
    (body : ∀ (cdv : Value) (A : Around) (out : List Env) (s : Shared) (H : Hp) (E : XK), A.guards = some [] → Room k (A.deeper (envOfC qual (defScope st) s.heap.objs.size f cdv)) → DSs (cx0 P w K mg base N qual (defScope st) f cdv A out s H E) E00 (defBody st) d)
    (hsp : ∀ ds p Q W, ds.length = n → sp ds p Q W → d W0 (endsD Q) (startD N.length ds p)) : FnG P w K mg base CX0 (k + 1) f fd ps (spD K n sp) := by
  refine fn_g F S (fun vs H Q E q => (spD_len vs H Q E q).trans hn.symm) fun cdv _ A out s H vs Q E g r q => ?_
  obtain ⟨S0, ds, p, Q', W', ex, hp, a, hl, q, post, _⟩ := q
  have hN : ds.length ≤ N.length := by
    have h1 := S.pre
    have h2 := congrArg List.length h1
    rw [List.length_take] at h2
    omega
  refine ⟨_, ((body cdv A out s H E g r).run ⟨S0, H, (Option.map Prod.fst p : Option Addr), true⟩).nox, startD N.length ds p, S0, W0, endsD Q', startRel ex hp a hN, hsp ds p Q' W' hl q, fun _ _ _ _ _ _ _ h => h.elim, fun δ' σ' S' H' q1 e1 R1 => ?_, fun x δ' v σ' S' H' q1 e1 R1 n1 => ?_, fun _ _ _ _ h => h.elim, fun _ _ _ _ h => h.elim, fun _ _ _ _ _ _ _ h => h.elim⟩
  · exact post _ _ _ _ _ q1 R1.fin .non
  · exact post _ _ _ _ _ q1 R1.fin n1
end
end Ev
namespace Ev
open PySem PySem.Spec PyProof.Rows L2
variable [TabC]
variable {K : PySem.W.Frag} {S S' H H' : Hp} {B : Bs} {δ : DS} {σ : L2.St}
mutual
def D.py : D → PyData
  | .non => .none
  | .bl b => .bool b
  | .int i => .int i
  | .str x => .str x
  | .tup xs => .tuple (D.pys xs)
  | .kt xs => .tuple (D.pys xs)
  | .lst xs => .list (D.pys xs)
  | .dK _ => .none
  | .dT _ => .none
  | .fK _ => .none
  | .fT _ => .none
  | .fN _ => .none
  | .exc _ _ _ => .none
  | .exc0 _ => .none
  | .raw _ => .none
  | .scr _ => .none
  | .fn _ _ => .none
def D.pys : List D → List PyData
  | [] => []
  | x :: xs => x.py :: D.pys xs
end
mutual
/-- none, truths, numbers, texts, tuples and lists of such -/
def D.lay : D → Bool
  | .non => true
  | .bl _ => true
  | .int _ => true
  | .str x => PyData.strOk x
  | .tup xs => D.lays xs
  | .kt xs => D.lays xs
  | .lst xs => D.lays xs
  | .dK _ => false
  | .dT _ => false
  | .fK _ => false
  | .fT _ => false
  | .fN _ => false
  | .exc _ _ _ => false
  | .exc0 _ => false
  | .raw _ => false
  | .scr _ => false
  | .fn _ _ => false
def D.lays : List D → Bool
  | [] => true
  | x :: xs => x.lay && D.lays xs
end
mutual
def D.dep : D → Nat
  | .tup xs => D.deps xs + 1
  | .kt xs => D.deps xs + 1
  | .lst xs => D.deps xs + 1
  | _ => 0
def D.deps : List D → Nat
  | [] => 0
  | x :: xs => max x.dep (D.deps xs)
end
mutual
theorem Dn.dp : ∀ {d : D} {v : V}, Dn K S v d → d.lay = true → Dp K S v d.py
  | .non, _, h, _ => by cases h; exact .non
  | .bl b, _, h, _ => by cases h; exact .bl b
  | .int i, _, h, _ => by cases h; exact .int i
  | .str x, _, h, _ => by cases h; exact .str x
  | .tup xs, _, h, l => by cases h with | tup h1 h2 => exact .tup (SqT.of h1) (DnA.dp h2 l)
  | .kt xs, _, h, l => by cases h with | kt h1 h2 => exact .tup (h1.sqT (Ex.refl S)) (DnA.dp h2 l)
  | .lst xs, _, h, l => by cases h with | lst h1 h2 => exact .lst (SqL.of h1) (DnA.dp h2 l)
  | .dK _, _, _, l => by cases l
  | .dT _, _, _, l => by cases l
  | .fK _, _, _, l => by cases l
  | .fT _, _, _, l => by cases l
  | .fN _, _, _, l => by cases l
  | .exc _ _ _, _, _, l => by cases l
  | .exc0 _, _, _, l => by cases l
  | .raw _, _, _, l => by cases l
  | .scr _, _, _, l => by cases l
  | .fn _ _, _, _, l => by cases l
theorem DnA.dp : ∀ {ds : List D} {vs : List V}, DnA K S vs ds → D.lays ds = true → DpAll K S vs (D.pys ds)
  | [], _, h, _ => by cases h; exact .nil
  | d :: ds, _, h, l => by
    have l' : (d.lay && D.lays ds) = true := l
    rw [Bool.and_eq_true] at l'
    cases h with | cons h1 h2 => exact .cons (Dn.dp h1 l'.1) (DnA.dp h2 l'.2)
end
mutual
theorem D.lay_can : ∀ d : D, d.lay = true → d.py.canLay0 = true
  | .non, _ => by simp [D.py, PyData.canLay0]
  | .bl b, _ => by simp [D.py, PyData.canLay0]
  | .int i, _ => by simp [D.py, PyData.canLay0]
  | .str x, h => by simpa [D.py, PyData.canLay0] using (show PyData.strOk x = true from h)
  | .tup xs, h => by simpa [D.py, PyData.canLay0] using D.lays_can xs h
  | .kt xs, h => by simpa [D.py, PyData.canLay0] using D.lays_can xs h
  | .lst xs, h => by simpa [D.py, PyData.canLay0] using D.lays_can xs h
  | .dK _, h => by cases h
  | .dT _, h => by cases h
  | .fK _, h => by cases h
  | .fT _, h => by cases h
  | .fN _, h => by cases h
  | .exc _ _ _, h => by cases h
  | .exc0 _, h => by cases h
  | .raw _, h => by cases h
  | .scr _, h => by cases h
  | .fn _ _, h => by cases h
theorem D.lays_can : ∀ ds : List D, D.lays ds = true → PyData.canLayAll0 (D.pys ds) = true
  | [], _ => by simp [D.pys, PyData.canLayAll0]
  | d :: ds, h => by
    have h' : (d.lay && D.lays ds) = true := h
    rw [Bool.and_eq_true] at h'
    simp [D.pys, PyData.canLayAll0, D.lay_can d h'.1, D.lays_can ds h'.2]
end
mutual
theorem D.py_dep : ∀ d : D, d.py.depth = d.dep
  | .non => by simp [D.py, PyData.depth, D.dep]
  | .bl b => by simp [D.py, PyData.depth, D.dep]
  | .int i => by simp [D.py, PyData.depth, D.dep]
  | .str x => by simp [D.py, PyData.depth, D.dep]
  | .tup xs => by simp [D.py, PyData.depth, D.dep, D.pys_dep xs]
  | .kt xs => by simp [D.py, PyData.depth, D.dep, D.pys_dep xs]
  | .lst xs => by simp [D.py, PyData.depth, D.dep, D.pys_dep xs]
  | .dK _ => by simp [D.py, PyData.depth, D.dep]
  | .dT _ => by simp [D.py, PyData.depth, D.dep]
  | .fK _ => by simp [D.py, PyData.depth, D.dep]
  | .fT _ => by simp [D.py, PyData.depth, D.dep]
  | .fN _ => by simp [D.py, PyData.depth, D.dep]
  | .exc _ _ _ => by simp [D.py, PyData.depth, D.dep]
  | .exc0 _ => by simp [D.py, PyData.depth, D.dep]
  | .raw _ => by simp [D.py, PyData.depth, D.dep]
  | .scr _ => by simp [D.py, PyData.depth, D.dep]
  | .fn _ _ => by simp [D.py, PyData.depth, D.dep]
theorem D.pys_dep : ∀ ds : List D, PyData.depthAll (D.pys ds) = D.deps ds
  | [] => by simp [D.pys, PyData.depthAll, D.deps]
  | d :: ds => by simp [D.pys, PyData.depthAll, D.deps, D.py_dep d, D.pys_dep ds]
end
theorem D.shaped {d : D} (l : d.lay = true) (h : d.dep ≤ 64) : SeqAt.shaped d.py = true := by
  show (d.py.canLay0 && decide (d.py.depth ≤ 64)) = true
  rw [Bool.and_eq_true]
  exact ⟨D.lay_can d l, decide_eq_true (by rw [D.py_dep]; exact h)⟩
/-- may be compared: d.cm = laid out of plain things, not too deep -/
def D.cm (d : D) : Prop := d.lay = true ∧ d.dep ≤ 64
theorem D.cm.sh {d : D} (h : d.cm) : SeqAt.shaped d.py = true := D.shaped h.1 h.2
/-- == -/
def D.eq (d e : D) : Bool := PyData.eqv d.py e.py
section
variable {X : Cx} {E : EK} {e a b c : Expr} {es : List Expr} {pos : Pos} {da db : dE}
def rEq : DR2 := fun x y Q => x.cm ∧ y.cm ∧ Q (.bl (x.eq y))
def rNe : DR2 := fun x y Q => x.cm ∧ y.cm ∧ Q (.bl (!x.eq y))
theorem od_eq (hu : X.A.units + 64 < cLine) : OpD X (compareOp .Eq) rEq := fun pins s σ H x y v u Q I rx ry ⟨S, dx, dy, Q', ex, n1, n2, ⟨c1, c2, q⟩, post⟩ =>
  op_eqD hu pins s σ H x y v u Q I rx ry ⟨_, _, (n1.mono ex).dp c1.1, (n2.mono ex).dp c2.1, c1.sh, c2.sh, post _ _ _ _ q (Grow.refl ex) (.bl _)⟩
theorem od_ne (hu : X.A.units + 64 < cLine) : OpD X (compareOp .NotEq) rNe := fun pins s σ H x y v u Q I rx ry ⟨S, dx, dy, Q', ex, n1, n2, ⟨c1, c2, q⟩, post⟩ =>
  op_neD hu pins s σ H x y v u Q I rx ry ⟨_, _, (n1.mono ex).dp c1.1, (n2.mono ex).dp c2.1, c1.sh, c2.sh, post _ _ _ _ q (Grow.refl ex) (.bl _)⟩
def rCI (p : Int → Int → Bool) : DR2 := fun x y Q => match x, y with | .int i, .int j => Q (.bl (p i j)) | _, _ => False
theorem od_ci {op : CmpOp} {p : Int → Int → Bool} (h : OpR X (compareOp op) (rI0 fun i j => .bl (p i j))) : OpD X (compareOp op) (rCI p) := fun pins s σ H x y v u Q I rx ry ⟨S, dx, dy, Q', ex, n1, n2, q, post⟩ => by
  match dx, dy, n1, n2, q with
  | .int i, .int j, .int _, .int _, q => exact h pins s σ H _ _ v u Q I rx ry ⟨i, j, rfl, rfl, post _ _ _ _ q (Grow.refl ex) (.bl _)⟩
abbrev rLt : DR2 := rCI fun i j => decide (i < j)
abbrev rLe : DR2 := rCI fun i j => decide (i ≤ j)
abbrev rGt : DR2 := rCI fun i j => decide (j < i)
abbrev rGe : DR2 := rCI fun i j => decide (j ≤ i)
theorem od_lt : OpD X (compareOp .Lt) rLt := od_ci op_lt
theorem od_le : OpD X (compareOp .LtE) rLe := od_ci op_le
theorem od_gt : OpD X (compareOp .Gt) rGt := od_ci op_gt
theorem od_ge : OpD X (compareOp .GtE) rGe := od_ci op_ge
/-- is None, is not None -/
def D.isN : D → Bool | .non => true | .raw v => decide (v = .non) | _ => false
theorem Dn.isN {v : V} {d : D} (h : Dn K S v d) : decide (v = .non) = d.isN := by
  cases h <;> simp [D.isN]
def rIsN : DR2 := fun x y Q => match y with | .non => Q (.bl x.isN) | _ => False
def rNotN : DR2 := fun x y Q => match y with | .non => Q (.bl (!x.isN)) | _ => False
def rIO (C : Int → Int → Prop) (g : Int → Int → Int) : DR2 := fun x y Q => match x, y with | .int i, .int j => C i j ∧ Q (.int (g i j)) | _, _ => False
theorem od_io {op : Operator} {C : Int → Int → Prop} {g : Int → Int → Int} (h : OpR X (binaryOp op) (rI C fun i j => .int (g i j))) : OpD X (binaryOp op) (rIO C g) := fun pins s σ H x y v u Q I rx ry ⟨S, dx, dy, Q', ex, n1, n2, q, post⟩ => by
  match dx, dy, n1, n2, q with
  | .int i, .int j, .int _, .int _, q => exact h pins s σ H _ _ v u Q I rx ry ⟨i, j, rfl, rfl, q.1, post _ _ _ _ q.2 (Grow.refl ex) (.int _)⟩
def rMulI : DR2 := rIO CMul fun i j => i * j
def rDivI : DR2 := rIO CDiv fun i j => i / j
def rModI : DR2 := rIO (fun _ j => 0 < j) fun i j => i % j
def rPowI : DR2 := rIO CPow fun i j => i ^ j.toNat
theorem od_mul : OpD X (binaryOp .Mult) rMulI := od_io op_mul
theorem od_div : OpD X (binaryOp .FloorDiv) rDivI := od_io op_fdiv
theorem od_mod : OpD X (binaryOp .Mod) rModI := od_io op_mod
theorem od_pow : OpD X (binaryOp .Pow) rPowI := od_io op_pow
def rSubI : DR2 := fun x y Q => match x, y with | .int i, .int j => Q (.int (i - j)) | _, _ => False
theorem od_sub : OpD X (binaryOp .Sub) rSubI := fun pins s σ H x y v u Q I rx ry ⟨S, dx, dy, Q', ex, n1, n2, q, post⟩ => by
  match dx, dy, n1, n2, q with
  | .int i, .int j, .int _, .int _, q => exact op_sub pins s σ H _ _ v u Q I rx ry ⟨i, j, rfl, rfl, post _ _ _ _ q (Grow.refl ex) (.int _)⟩
/-- + -/
def rAddD : DR2 := fun x y Q => match x, y with
  | .int i, .int j => Q (.int (i + j))
  | .str i, .str j => i.length + j.length ≤ sizeLine ∧ Q (.str (i ++ j))
  | .tup i, .tup j => i.length + j.length ≤ sizeLine ∧ Q (.tup (i ++ j))
  | _, _ => False
theorem od_add : OpD X (binaryOp .Add) rAddD := fun pins s σ H x y v u Q I rx ry ⟨S, dx, dy, Q', ex, n1, n2, q, post⟩ => by
  match dx, dy, n1, n2, q with
  | .int i, .int j, .int _, .int _, q => exact op_add pins s σ H _ _ v u Q I rx ry ⟨i, j, rfl, rfl, post _ _ _ _ q (Grow.refl ex) (.int _)⟩
  | .str i, .str j, .str _, .str _, q => exact op_add_str pins s σ H _ _ v u Q I rx ry ⟨i, j, rfl, rfl, q.1, post _ _ _ _ q.2 (Grow.refl ex) (.str _)⟩
  | .tup i, .tup j, .tup h1 a1, .tup h2 a2, q =>
    refine op_catA pins s σ H _ _ v u Q I rx ry ⟨_, _, _, _, rfl, rfl, SqT.of (ex _ _ h1), SqT.of (ex _ _ h2), by rw [a1.length, a2.length]; exact q.1, fun e => ?_, fun _ e => ?_, fun _ _ p hp => ?_⟩
    · subst e; cases a1; exact post _ _ _ _ q.2 (Grow.refl ex) (.tup h2 a2)
    · subst e; cases a2; have := q.2; rw [List.append_nil] at this; exact post _ _ _ _ this (Grow.refl ex) (.tup h1 a1)
    · exact post _ _ _ _ q.2 (Grow.new ex hp) (.tup upd_same ((a1.append a2).mono (Ex.new (ex.none hp))))
/-- lists: + , * -/
abbrev DF2 := D → D → (List D → Prop) → Prop
def liftRF (K : PySem.W.Frag) (r : DF2) : R2 := fun x y H Q => ∃ S dx dy Q', Sb S H ∧ Dn K S x dx ∧ Dn K S y dy ∧ r dx dy Q' ∧ ∀ xs p vs, Q' xs → H p = none → DnA K S vs xs → Q (.ref p) (upd H p (.lst vs))
def dBinF (r : DF2) (da db : dE) : dF := fun W δ Q => da W δ fun x δ1 => db W δ1 fun y δ2 => r x y fun z => Q z δ2
theorem df_op {op : Operator} {r : DF2} (ho : OpR X (binaryOp op) (liftRF X.K r)) (ha : DE X E a da) (hb : DE X E b db) : DF X E (.BinOp a op b pos) (dBinF r da db) := ⟨fun B => pe_mono (pe_op ho (ha.run B) (hb.run B)) fun σ H Q q => by
  obtain ⟨δ, S, W, Q', R, q, xo, post⟩ := q
  refine ⟨δ, S, W, _, R, q, xo, fun x δ1 v S1 H1 q1 e1 R1 n1 => ?_⟩
  refine ⟨δ1, S1, W, _, R1, q1, xo.mono e1, fun y δ2 u S2 H2 q2 e2 R2 n2 => ?_⟩
  exact ⟨S2, x, y, _, R2.ex, n1.mono e2, n2, q2, fun xs p vs q3 hp a => post _ _ _ _ _ _ q3 (e1.trans e2) R2 hp a⟩⟩
def rCatL : DF2 := fun x y Q => match x, y with | .lst i, .lst j => i.length + j.length ≤ sizeLine ∧ Q (i ++ j) | _, _ => False
theorem od_catL : OpR X (binaryOp .Add) (liftRF X.K rCatL) := fun pins s σ H x y v u Q I rx ry ⟨S, dx, dy, Q', ex, n1, n2, q, post⟩ => by
  match dx, dy, n1, n2, q with
  | .lst i, .lst j, .lst h1 a1, .lst h2 a2, q =>
    exact op_cat pins s σ H _ _ v u Q I rx ry ⟨_, _, _, _, rfl, rfl, ex _ _ h1, ex _ _ h2, by rw [a1.length, a2.length]; exact q.1, fun p hp => post _ _ _ q.2 hp (a1.append a2)⟩
def rRepL : DF2 := fun x y Q => match x, y with | .lst i, .int k => -(2 ^ 63) ≤ k ∧ k < 2 ^ 63 ∧ i.length * k.toNat ≤ sizeLine ∧ Q (List.replicate k.toNat i).flatten | _, _ => False
theorem DnA.rep {vs : List V} {ds : List D} (a : DnA K S vs ds) : ∀ n : Nat, DnA K S (List.replicate n vs).flatten (List.replicate n ds).flatten
  | 0 => .nil
  | n + 1 => by
    rw [List.replicate_succ, List.replicate_succ, List.flatten_cons, List.flatten_cons]
    exact a.append (a.rep n)
theorem od_repL : OpR X (binaryOp .Mult) (liftRF X.K rRepL) := fun pins s σ H x y v u Q I rx ry ⟨S, dx, dy, Q', ex, n1, n2, q, post⟩ => by
  match dx, dy, n1, n2, q with
  | .lst i, .int k, .lst h1 a1, .int _, q =>
    exact op_rep pins s σ H _ _ v u Q I rx ry ⟨_, k, _, rfl, rfl, ex _ _ h1, q.1, q.2.1, by rw [a1.length]; exact q.2.2.1, fun p hp => post _ _ _ q.2.2.2 hp (a1.rep _)⟩
/-- in, not in -/
def rInD (neg : Bool) : DR2 := fun x y Q => x.cm ∧ y.cm ∧ match y with
  | .lst ds => Q (.bl (if neg then !(ds.any fun z => z.eq x) else ds.any fun z => z.eq x))
  | .tup ds => Q (.bl (if neg then !(ds.any fun z => z.eq x) else ds.any fun z => z.eq x))
  | .kt ds => Q (.bl (if neg then !(ds.any fun z => z.eq x) else ds.any fun z => z.eq x))
  | _ => False
end
end Ev
namespace Ev
open PySem PySem.Spec PyProof.Rows L2
variable [TabC]
variable {K : PySem.W.Frag} {S S' H H' : Hp} {B : Bs} {δ : DS} {σ : L2.St}
section
variable {X : Cx} {E : EK} {e a b c : Expr} {es : List Expr} {pos p : Pos} {da db : dE}
def optQ {α : Type} (o : Option α) (Q : α → Prop) : Prop := match o with | some d => Q d | none => False
theorem optQ_ex {α : Type} {o : Option α} {Q : α → Prop} (h : optQ o Q) : ∃ d, o = some d ∧ Q d := by
  cases o with
  | none => exact h.elim
  | some d => exact ⟨d, rfl, h⟩
def rIxD : DR2 := fun x y Q => match x, y with
  | .lst ds, .int i => optQ (atI ds i) Q
  | .tup ds, .int i => optQ (atI ds i) Q
  | .kt ds, .int i => optQ (atI ds i) Q
  | .str z, .int i => z.length ≤ sizeLine ∧ optQ (atI z.cps.toList i) fun c => Q (.str ⟨#[c]⟩)
  | _, _ => False
theorem DnA.atI {vs : List V} {ds : List D} {i : Int} {d : D} (a : DnA K S vs ds) (h : L2.atI ds i = some d) : ∃ v, L2.atI vs i = some v ∧ Dn K S v d := by
  unfold L2.atI at h ⊢
  rw [a.length]
  cases q : ixN ds.length i with
  | none => rw [q] at h; cases h
  | some j => rw [q] at h; exact a.get h
theorem ix_d : IxR X (liftR X.K rIxD) := fun value slice pins s σ H x y v u Q I rx ry ⟨S, dx, dy, Q', ex, n1, n2, q, post⟩ hs => by
  match dx, dy, n1, n2, q with
  | .lst ds, .int i, .lst h1 a1, .int _, q =>
    obtain ⟨d, hi, q⟩ := optQ_ex q
    obtain ⟨w, e1, e2⟩ := a1.atI hi
    exact ix_list value slice pins s σ H _ _ v u Q I rx ry ⟨_, _, i, w, rfl, rfl, SqL.of (ex _ _ h1), e1, post _ _ _ _ q (Grow.refl ex) e2⟩ hs
  | .tup ds, .int i, .tup h1 a1, .int _, q =>
    obtain ⟨d, hi, q⟩ := optQ_ex q
    obtain ⟨w, e1, e2⟩ := a1.atI hi
    exact ix_tup value slice pins s σ H _ _ v u Q I rx ry ⟨_, _, i, w, rfl, rfl, SqT.of (ex _ _ h1), e1, post _ _ _ _ q (Grow.refl ex) e2⟩ hs
  | .kt ds, .int i, .kt h1 a1, .int _, q =>
    obtain ⟨d, hi, q⟩ := optQ_ex q
    obtain ⟨w, e1, e2⟩ := a1.atI hi
    exact ix_tup value slice pins s σ H _ _ v u Q I rx ry ⟨_, _, i, w, rfl, rfl, h1.sqT ex, e1, post _ _ _ _ q (Grow.refl ex) e2⟩ hs
  | .str z, .int i, .str _, .int _, q =>
    obtain ⟨c, hi, q2⟩ := optQ_ex q.2
    exact ix_str value slice pins s σ H _ _ v u Q I rx ry ⟨z, i, c, rfl, rfl, q.1, hi, post _ _ _ _ q2 (Grow.refl ex) (.str _)⟩ hs
theorem de_ix (ha : DE X E a da) (hb : DE X E b db) (hs : PlainIx b) : DE X E (.Subscript a b pos) (dBin rIxD da db) := ⟨fun B => pe_mono (pe_ix ix_d (ha.run B) (hb.run B) hs) fun σ H Q q => lift_bin q⟩
/-- a list of one's own (or the pen's own) in a slot -/
def ownAt (δ : DS) (i : Nat) : Option (List D) := match δ.sl[i]? with
  | some (.own ds) => some ds
  | some (.hp ds) => some ds
  | _ => none
def setOwnAt (δ : DS) (i : Nat) (ds : List D) : DS := match δ.sl[i]? with
  | some (.own _) => setSl δ i (.own ds)
  | some (.hp _) => setSl δ i (.hp ds)
  | _ => δ
theorem Rel.ownAt (R : Rel K B δ S σ H) {i : Nat} {ds : List D} (h : ownAt δ i = some ds) : ∃ p vs, σ[i]? = some (some (.ref p)) ∧ H p = some (.lst vs) ∧ DnA K S vs ds ∧ S p = none ∧
    ∀ vs' ds', DnA K S vs' ds' → Rel K B (setOwnAt δ i ds') S σ (upd H p (.lst vs')) := by
  unfold Ev.ownAt at h
  unfold setOwnAt
  split at h
  · rename_i d hd
    cases h
    obtain ⟨p, vs, h1, h2, h3, h4, _, _, h5⟩ := R.own hd
    exact ⟨p, vs, h1, h2, h3, h4, h5⟩
  · rename_i d hd
    cases h
    obtain ⟨p, vs, h1, h2, h3, h4, _, h5⟩ := R.hp hd
    exact ⟨p, vs, h1, h2, h3, h4, h5⟩
  · cases h
/-- the list in slot i, of one's own or frozen, to be looked at -/
def lookAt (δ : DS) (i : Nat) : Option (List D) := match δ.sl[i]? with
  | some (.own ds) => some ds
  | some (.hp ds) => some ds
  | some (.dat (.lst ds)) => some ds
  | _ => none
theorem Rel.lookAt (R : Rel K B δ S σ H) {i : Nat} {ds : List D} (h : lookAt δ i = some ds) : ∃ p vs, σ[i]? = some (some (.ref p)) ∧ H p = some (.lst vs) ∧ DnA K S vs ds ∧ (S p = none ∨ S p = some (.lst vs)) := by
  unfold Ev.lookAt at h
  split at h
  · rename_i d hd
    cases h
    obtain ⟨p, vs, h1, h2, h3, h4, _⟩ := R.own hd
    exact ⟨p, vs, h1, h2, h3, .inl h4⟩
  · rename_i d hd
    cases h
    obtain ⟨p, vs, h1, h2, h3, h4, _⟩ := R.hp hd
    exact ⟨p, vs, h1, h2, h3, .inl h4⟩
  · rename_i d hd
    cases h
    obtain ⟨v, e1, e2⟩ := R.dat hd
    match v, e1, e2 with
    | .ref p, e1, .lst h1 h2 => exact ⟨p, _, e1, R.ex _ _ h1, h2, .inr h1⟩
  · cases h
/-- the list in slot i, an item of it -/
def dOwnIx (i : Nat) (d : dE) : dE := fun W δ Q => (∃ ds, lookAt δ i = some ds) ∧ d W δ fun y δ1 => match y with
  | .int j => optQ (lookAt δ1 i) fun ds => optQ (atI ds j) fun d => Q d δ1
  | _ => False
theorem de_ownIx {i : Nat} {x : Str} (hv : PE X (.Name x p) (tVar i)) (hb : DE X E b db) (hs : PlainIx b) : DE X E (.Subscript (.Name x p) b pos) (dOwnIx i db) := ⟨fun B => pe_mono (pe_ix ix_list hv (hb.run B) hs) fun σ H Q q => by
  obtain ⟨δ, S, W, Q', R, ⟨⟨ds0, h0⟩, q⟩, xo, post⟩ := q
  obtain ⟨p0, _, v0, _⟩ := R.lookAt h0
  refine ⟨.ref p0, v0, δ, S, W, _, R, q, xo, fun y δ1 v S1 H1 q1 e1 R1 n1 => ?_⟩
  match y, n1, q1 with
  | .int j, .int _, q1 =>
    obtain ⟨ds, h1, q1⟩ := optQ_ex q1
    obtain ⟨d, h2, q1⟩ := optQ_ex q1
    obtain ⟨p1, vs, v1, g1, a1, _⟩ := R1.lookAt h1
    rw [v0] at v1
    cases v1
    obtain ⟨w, w1, w2⟩ := a1.atI h2
    exact ⟨p0, vs, j, w, rfl, rfl, SqL.of g1, w1, post _ _ _ _ _ q1 e1 R1 w2⟩⟩
/-- name[i] = e, the list of one's own -/
def dSetIx (i : Nat) (di de : dE) : dS := fun W N δ => de W δ fun x δ1 => (∃ ds, ownAt δ1 i = some ds) ∧ di W δ1 fun y δ2 => match y with
  | .int k => optQ (ownAt δ2 i) fun ds => optQ (ixN ds.length k) fun j => N.nx (setOwnAt δ2 i (ds.set j x))
  | _ => False
theorem ds_setIx {i : Nat} {x : Str} {tp : Pos} (hv : PE X (.Name x p) (tVar i)) (hi : DE X E b db) (he : DE X E e da) (hs : swapsWithSole [.Subscript (.Name x p) b tp] e pos.line X.env = pure false := by rfl) (hw : swappedStores [.Subscript (.Name x p) b tp] e X.env = pure none := by rfl)
    (h1 : (assignEach [.Subscript (.Name x p) b tp] X.env).map (·.2) = [assign (.Subscript (.Name x p) b tp) X.env] := by rfl)
    (h2 : ∀ v, assign (.Subscript (.Name x p) b tp) X.env v = (do
      let ov ← holding [v] (eval (.Name x p) X.env)
      let iv ← holding [v, ov] (eval b X.env)
      standAt tp
      holding [v, ov, iv] (setItem ov iv v)
      release [v, ov, iv] []) := by intro _; rfl) : DSt X E (.Assign [.Subscript (.Name x p) b tp] e pos) (dSetIx i db da) := ⟨fun B => ps_mono (ps_asg (he.run B) (pg_sub hv (hi.run B) set_list h2) hs hw h1) fun Z σ H q => by
  obtain ⟨δ, S, W, N, R, q, xo, p1, _⟩ := q
  refine ⟨δ, S, W, _, R, q, xo, fun d δ1 v S1 H1 q1 e1 R1 n1 => ?_⟩
  obtain ⟨⟨ds0, h0⟩, q1⟩ := q1
  obtain ⟨p0, _, v0, _⟩ := R1.ownAt h0
  refine ⟨.ref p0, v0, δ1, S1, W, _, R1, q1, xo.mono e1, fun y δ2 u S2 H2 q2 e2 R2 n2 => ?_⟩
  match y, n2, q2 with
  | .int k, .int _, q2 =>
    obtain ⟨ds, h1, q2⟩ := optQ_ex q2
    obtain ⟨j, hj, q2⟩ := optQ_ex q2
    obtain ⟨p1', vs, v1, g1, a1, _, put⟩ := R2.ownAt h1
    rw [v0] at v1
    cases v1
    exact ⟨p0, vs, k, j, rfl, rfl, g1, by rw [a1.length]; exact hj, p1 _ _ _ _ q2 (e1.trans e2) (put _ _ (a1.set (n1.mono e2) j))⟩⟩
/-- e[lo:hi] -/
abbrev dO := XW → DS → (Option Int → DS → Prop) → Prop
def liftO (K : PySem.W.Frag) (B : Bs) (E : EK) (d : dO) : TO := fun σ H Q => ∃ δ S W Q', Rel K B δ S σ H ∧ d W δ Q' ∧ XOk K B E W S ∧ ∀ o δ' S' H', Q' o δ' → Ex S S' → Rel K B δ' S' σ H' → Q o H'
structure DO (X : Cx) (E : EK) (e : Option Expr) (d : dO) : Prop where
  run : ∀ B, PO X e (liftO X.K B E d)
def oNone : dO := fun _ δ Q => Q none δ
def oSome (d : dE) : dO := fun W δ Q => d W δ fun x δ' => match x with | .int i => Q (some i) δ' | _ => False
theorem po_mono {o : Option Expr} {t t' : TO} (h : PO X o t) (m : ∀ σ H Q, t' σ H Q → t σ H Q) : PO X o t' := ⟨fun pins s σ H Q I q => h.run pins s σ H Q I (m _ _ _ q)⟩
theorem do_none : DO X E none oNone := ⟨fun B => po_mono po_none fun σ H Q q => by
  obtain ⟨δ, S, W, Q', R, q, xo, post⟩ := q
  exact post _ _ _ _ q (Ex.refl _) R⟩
theorem do_some (h : DE X E e da) : DO X E (some e) (oSome da) := ⟨fun B => po_mono (po_some (h.run B)) fun σ H Q q => by
  obtain ⟨δ, S, W, Q', R, q, xo, post⟩ := q
  refine ⟨δ, S, W, _, R, q, xo, fun x δ1 v S1 H1 q1 e1 R1 n1 => ?_⟩
  match x, n1, q1 with
  | .int i, .int _, q1 => exact ⟨i, rfl, post _ _ _ _ q1 e1 R1⟩⟩
def cutD {α : Type} (xs : List α) (lo hi : Option Int) : List α := (xs.drop (HT.sIx xs.length 0 lo)).take (HT.sIx xs.length xs.length hi - HT.sIx xs.length 0 lo)
theorem DnA.cut {vs : List V} {ds : List D} (a : DnA K S vs ds) (lo hi : Option Int) : DnA K S (cutV vs lo hi) (cutD ds lo hi) := by
  unfold cutV cutD
  rw [a.length]
  exact (a.drop _).take _
theorem cut_whole {α : Type} {xs : List α} {lo hi : Option Int} (h : HT.sIx xs.length 0 lo = 0 ∧ HT.sIx xs.length xs.length hi = xs.length) : cutD xs lo hi = xs := by
  unfold cutD
  rw [h.1, h.2]
  simp
/-- a slice of a tuple, of a text -/
def dSlT (d : dE) (lo hi : dO) : dE := fun W δ Q => d W δ fun x δ1 => lo W δ1 fun l δ2 => hi W δ2 fun h δ3 => match x with
  | .tup ds => Q (.tup (cutD ds l h)) δ3
  | .str z => z.length ≤ sizeLine ∧ Q (.str (cutS z l h)) δ3
  | _ => False
/-- a slice of a list -/
def dSlL (d : dE) (lo hi : dO) : dF := fun W δ Q => d W δ fun x δ1 => lo W δ1 fun l δ2 => hi W δ2 fun h δ3 => match x with
  | .lst ds => Q (cutD ds l h) δ3
  | .scr ns => Q (cutD (ns.map .int) l h) δ3
  | _ => False
theorem de_slT {lo hi : Option Expr} {dl dh : dO} {p2 : Pos} (he : DE X E e da) (hl : DO X E lo dl) (hh : DO X E hi dh) : DE X E (.Subscript e (.Slice lo hi none p2) pos) (dSlT da dl dh) := ⟨fun B => pe_mono (pe_slice (SlR.or sl_tupA sl_str) (he.run B) (hl.run B) (hh.run B)) fun σ H Q q => by
  obtain ⟨δ, S, W, Q', R, q, xo, post⟩ := q
  refine ⟨δ, S, W, _, R, q, xo, fun x δ1 v S1 H1 q1 e1 R1 n1 => ⟨δ1, S1, W, _, R1, q1, xo.mono e1, fun l δ2 S2 H2 q2 e2 R2 => ⟨δ2, S2, W, _, R2, q2, xo.mono (e1.trans e2), fun h δ3 S3 H3 q3 e3 R3 => ?_⟩⟩⟩
  have e := (e1.trans e2).trans e3
  match x, n1.mono (e2.trans e3), q3 with
  | .tup ds, .tup h1 a1, q3 =>
    refine .inl ⟨_, _, rfl, SqT.of (R3.ex _ _ h1), fun hw => ?_, fun _ p hp => ?_⟩
    · rw [a1.length] at hw
      have q3 : Q' (.tup (cutD ds l h)) δ3 := q3
      rw [cut_whole hw] at q3
      exact post _ _ _ _ _ q3 e R3 (.tup h1 a1)
    · exact post _ _ _ _ _ q3 (e.trans (Ex.new (R3.ex.none hp))) (R3.new hp) (.tup upd_same ((a1.cut l h).mono (Ex.new (R3.ex.none hp))))
  | .str z, .str _, q3 => exact .inr ⟨z, rfl, q3.1, post _ _ _ _ _ q3.2 e R3 (.str _)⟩⟩
theorem df_slL {lo hi : Option Expr} {dl dh : dO} {p2 : Pos} (he : DE X E e da) (hl : DO X E lo dl) (hh : DO X E hi dh) : DF X E (.Subscript e (.Slice lo hi none p2) pos) (dSlL da dl dh) := ⟨fun B => pe_mono (pe_slice sl_list (he.run B) (hl.run B) (hh.run B)) fun σ H Q q => by
  obtain ⟨δ, S, W, Q', R, q, xo, post⟩ := q
  refine ⟨δ, S, W, _, R, q, xo, fun x δ1 v S1 H1 q1 e1 R1 n1 => ⟨δ1, S1, W, _, R1, q1, xo.mono e1, fun l δ2 S2 H2 q2 e2 R2 => ⟨δ2, S2, W, _, R2, q2, xo.mono (e1.trans e2), fun h δ3 S3 H3 q3 e3 R3 => ?_⟩⟩⟩
  match x, n1.mono (e2.trans e3), q3 with
  | .lst ds, .lst h1 a1, q3 => exact ⟨_, _, rfl, SqL.of (R3.ex _ _ h1), fun p hp => post _ _ _ _ _ _ q3 ((e1.trans e2).trans e3) R3 hp (a1.cut l h)⟩
  | .scr ns, .scr h1, q3 => exact ⟨_, _, rfl, R3.ex.sqL h1, fun p hp => post _ _ _ _ _ _ q3 ((e1.trans e2).trans e3) R3 hp ((DnA.ints ns).cut l h)⟩⟩
end
end Ev
namespace Ev
open PySem PySem.Spec PyProof.Rows L2
variable [TabC]
variable {K : PySem.W.Frag} {S S' H H' : Hp} {B : Bs} {δ : DS} {σ : L2.St}
section
variable {X : Cx} {E : EK} {e a b c : Expr} {es : List Expr} {pos p : Pos} {da db : dE} {x : Str}
abbrev DRC := List D → (D → Prop) → Prop
def liftC (K : PySem.W.Frag) (r : DRC) : List V → Hp → VK → Prop := fun vs H Q => ∃ S ds Q', Sb S H ∧ DnA K S vs ds ∧ r ds Q' ∧ ∀ dz v S' H', Q' dz → Grow S H S' H' → Dn K S' v dz → Q v H'
abbrev DRF := List D → (List D → Prop) → Prop
def liftCF (K : PySem.W.Frag) (r : DRF) : List V → Hp → VK → Prop := fun vs H Q => ∃ S ds Q', Sb S H ∧ DnA K S vs ds ∧ r ds Q' ∧ ∀ xs ws p, Q' xs → H p = none → DnA K S ws xs → Q (.ref p) (upd H p (.lst ws))
def dCB (r : DRC) (a : dA) : dE := fun W δ Q => a W δ fun xs δ1 => r xs fun z => Q z δ1
def dCBF (r : DRF) (a : dA) : dF := fun W δ Q => a W δ fun xs δ1 => r xs fun z => Q z δ1
theorem lift_CB {r : DRC} {d : dA} {Q : VK} (q : liftE K B E (dCB r d) σ H Q) : tCB (liftC K r) (liftA K B E d) σ H Q := by
  obtain ⟨δ, S, W, Q', R, q, xo, post⟩ := q
  exact ⟨δ, S, W, _, R, q, xo, fun xs δ1 vs S1 H1 q1 e1 R1 n1 => ⟨S1, xs, _, R1.ex, n1, q1, fun dz v S' H' q2 g n2 => post _ _ _ _ _ q2 (e1.trans g.s) (R1.grow g) n2⟩⟩
theorem lift_CBF {r : DRF} {d : dA} {Q : VK} (q : liftF K B E (dCBF r d) σ H Q) : tCB (liftCF K r) (liftA K B E d) σ H Q := by
  obtain ⟨δ, S, W, Q', R, q, xo, post⟩ := q
  exact ⟨δ, S, W, _, R, q, xo, fun xs δ1 vs S1 H1 q1 e1 R1 n1 => ⟨S1, xs, _, R1.ex, n1, q1, fun ys ws p q2 hp n2 => post _ _ _ _ _ _ q2 e1 R1 hp n2⟩⟩
theorem de_callB {id : String} {r : DRC} {d : dA} (hc : CallR X (.builtin id) (liftC X.K r)) (gl : Gl X x) (hm : X.mg x = none) (hv : bootBuiltins x = some (.builtin id)) (ha : DA X E (e :: es) d) (hn : x ≠ "__name__" := by decide) (hdb : (x == ("__debug__" : Str)) = false := by decide)
    (he : starEach (e :: es) X.env = (false, eval e X.env) :: starEach es X.env := by rfl) (hpl : (backTo pos (starEach es X.env)).any (·.1) = false := by rfl) : DE X E (.Call (.Name x p) (e :: es) [] pos) (dCB r d) :=
  ⟨fun B => pe_mono (pe_callB hc gl hm hv (ha.run B) hn hdb he hpl) fun σ H Q q => lift_CB q⟩
theorem de_callTy {T : String} {r : DRC} {d : dA} (hc : CallR X (.type T) (liftC X.K r)) (gl : Gl X x) (hm : X.mg x = none) (hv : bootBuiltins x = some (.type T)) (ha : DA X E (e :: es) d) (hn : x ≠ "__name__" := by decide) (hdb : (x == ("__debug__" : Str)) = false := by decide)
    (he : starEach (e :: es) X.env = (false, eval e X.env) :: starEach es X.env := by rfl) (hpl : (backTo pos (starEach es X.env)).any (·.1) = false := by rfl) : DE X E (.Call (.Name x p) (e :: es) [] pos) (dCB r d) :=
  ⟨fun B => pe_mono (pe_callTy hc gl hm hv (ha.run B) hn hdb he hpl) fun σ H Q q => lift_CB q⟩
theorem df_callB {id : String} {r : DRF} {d : dA} (hc : CallR X (.builtin id) (liftCF X.K r)) (gl : Gl X x) (hm : X.mg x = none) (hv : bootBuiltins x = some (.builtin id)) (ha : DA X E (e :: es) d) (hn : x ≠ "__name__" := by decide) (hdb : (x == ("__debug__" : Str)) = false := by decide)
    (he : starEach (e :: es) X.env = (false, eval e X.env) :: starEach es X.env := by rfl) (hpl : (backTo pos (starEach es X.env)).any (·.1) = false := by rfl) : DF X E (.Call (.Name x p) (e :: es) [] pos) (dCBF r d) :=
  ⟨fun B => pe_mono (pe_callB hc gl hm hv (ha.run B) hn hdb he hpl) fun σ H Q q => lift_CBF q⟩
theorem df_callTy {T : String} {r : DRF} {d : dA} (hc : CallR X (.type T) (liftCF X.K r)) (gl : Gl X x) (hm : X.mg x = none) (hv : bootBuiltins x = some (.type T)) (ha : DA X E (e :: es) d) (hn : x ≠ "__name__" := by decide) (hdb : (x == ("__debug__" : Str)) = false := by decide)
    (he : starEach (e :: es) X.env = (false, eval e X.env) :: starEach es X.env := by rfl) (hpl : (backTo pos (starEach es X.env)).any (·.1) = false := by rfl) : DF X E (.Call (.Name x p) (e :: es) [] pos) (dCBF r d) :=
  ⟨fun B => pe_mono (pe_callTy hc gl hm hv (ha.run B) hn hdb he hpl) fun σ H Q q => lift_CBF q⟩
theorem DnA.one {vs : List V} {d : D} (h : DnA K S vs [d]) : ∃ v, vs = [v] ∧ Dn K S v d := by
  cases h with | cons h1 h2 => cases h2; exact ⟨_, rfl, h1⟩
theorem DnA.two {vs : List V} {d d' : D} (h : DnA K S vs [d, d']) : ∃ v v', vs = [v, v'] ∧ Dn K S v d ∧ Dn K S v' d' := by
  cases h with | cons h1 h2 => obtain ⟨v', rfl, h3⟩ := h2.one; exact ⟨_, _, rfl, h1, h3⟩
/-- len -/
def rLen : DRC := fun xs Q => match xs with
  | [.lst ds] => Q (.int ds.length)
  | [.tup ds] => Q (.int ds.length)
  | [.kt ds] => Q (.int ds.length)
  | [.str z] => z.length ≤ sizeLine ∧ Q (.int z.length)
  | _ => False
theorem cd_len : CallR X (.builtin "len") (liftC X.K rLen) := fun pins s σ H vs us Q I r ⟨S, ds, Q', ex, n, q, post⟩ => by
  match ds, n, q with
  | [.lst ds], n, q =>
    obtain ⟨v, rfl, n1⟩ := n.one
    cases n1 with | lst h a =>
      refine call_len pins s σ H _ us Q I r ⟨_, ds.length, rfl, .inl ⟨_, SqL.of (ex _ _ h), a.length.symm⟩, post _ _ _ _ q (Grow.refl ex) (.int _)⟩
  | [.tup ds], n, q =>
    obtain ⟨v, rfl, n1⟩ := n.one
    cases n1 with | tup h a =>
      refine call_len pins s σ H _ us Q I r ⟨_, ds.length, rfl, .inr ⟨_, SqT.of (ex _ _ h), a.length.symm⟩, post _ _ _ _ q (Grow.refl ex) (.int _)⟩
  | [.kt ds], n, q =>
    obtain ⟨v, rfl, n1⟩ := n.one
    cases n1 with | kt h a =>
      refine call_len pins s σ H _ us Q I r ⟨_, ds.length, rfl, .inr ⟨_, h.sqT ex, a.length.symm⟩, post _ _ _ _ q (Grow.refl ex) (.int _)⟩
  | [.str z], n, q =>
    obtain ⟨v, rfl, n1⟩ := n.one
    cases n1
    exact call_len pins s σ H _ us Q I r ⟨_, z.length, rfl, ⟨q.1, rfl⟩, post _ _ _ _ q.2 (Grow.refl ex) (.int _)⟩
/-- tuple(x), list(x) -/
def rTuple : DRC := fun xs Q => match xs with | [.lst ds] => Q (.tup ds) | [.tup ds] => Q (.tup ds) | _ => False
theorem cd_tuple : CallR X (.type "tuple") (liftC X.K rTuple) := fun pins s σ H vs us Q I r ⟨S, ds, Q', ex, n, q, post⟩ => by
  match ds, n, q with
  | [.lst ds], n, q =>
    obtain ⟨v, rfl, n1⟩ := n.one
    cases n1 with | lst h a =>
      refine call_tuple_of pins s σ H _ us Q I r ⟨_, _, rfl, .inl ⟨SqL.of (ex _ _ h), fun l hl => ?_⟩⟩
      exact post _ _ _ _ q (Grow.new ex hl) (.tup upd_same (a.mono (Ex.new (ex.none hl))))
  | [.tup ds], n, q =>
    obtain ⟨v, rfl, n1⟩ := n.one
    cases n1 with | tup h a => exact call_tuple_of pins s σ H _ us Q I r ⟨_, _, rfl, .inr ⟨SqT.of (ex _ _ h), post _ _ _ _ q (Grow.refl ex) (.tup h a)⟩⟩
def rList : DRF := fun xs Q => match xs with | [.lst ds] => Q ds | [.tup ds] => Q ds | _ => False
theorem cd_list : CallR X (.type "list") (liftCF X.K rList) := fun pins s σ H vs us Q I r ⟨S, ds, Q', ex, n, q, post⟩ => by
  match ds, n, q with
  | [.lst ds], n, q =>
    obtain ⟨v, rfl, n1⟩ := n.one
    cases n1 with | lst h a => exact call_list_of pins s σ H _ us Q I r ⟨_, _, rfl, .inl (SqL.of (ex _ _ h)), fun l hl => post _ _ _ q hl a⟩
  | [.tup ds], n, q =>
    obtain ⟨v, rfl, n1⟩ := n.one
    cases n1 with | tup h a => exact call_list_of pins s σ H _ us Q I r ⟨_, _, rfl, .inr (SqT.of (ex _ _ h)), fun l hl => post _ _ _ q hl a⟩
mutual
def D.sho : D → Bool
  | .int i => decide (i.natAbs.log2 < 1920)
  | .tup xs => D.shos xs
  | .kt xs => D.shos xs
  | .lst xs => D.shos xs
  | _ => true
def D.shos : List D → Bool
  | [] => true
  | x :: xs => x.sho && D.shos xs
end
/-- may be shown -/
def D.sw (d : D) : Prop := d.lay = true ∧ d.dep ≤ 64 ∧ d.sho = true ∧ d.py.shown.length ≤ sizeLine
def D.rep (d : D) : Str := d.py.shown
def rRepr : DRC := fun xs Q => match xs with | [d] => d.sw ∧ Q (.str d.rep) | _ => False
theorem boot_repr : bootBuiltins "repr" = some (.builtin "repr") := by decide +kernel
def rAbs : DRC := fun xs Q => match xs with | [.int i] => Q (.int (if i < 0 then -i else i)) | _ => False
theorem cd_abs : CallR X (.builtin "abs") (liftC X.K rAbs) := fun pins s σ H vs us Q I r ⟨S, ds, Q', ex, n, q, post⟩ => by
  match ds, n, q with
  | [.int i], n, q =>
    obtain ⟨v, rfl, n1⟩ := n.one
    cases n1
    exact call_abs pins s σ H _ us Q I r ⟨i, rfl, post _ _ _ _ q (Grow.refl ex) (.int _)⟩
def rInt : DRC := fun xs Q => match xs with | [.int i] => Q (.int i) | [.bl k] => Q (.int (if k then 1 else 0)) | _ => False
def rStr : DRC := fun xs Q => match xs with | [.int i] => i.natAbs.log2 < 1920 ∧ Q (.str (toString i)) | [.str x] => Q (.str x) | _ => False
/-- all, any of a list of truths; sum of a list of numbers -/
def blsOf : List D → Option (List Bool)
  | [] => some []
  | .bl b :: r => (blsOf r).map (b :: ·)
  | _ => none
theorem bls_vals : ∀ {ds : List D} {bs : List Bool} {vs : List V}, DnA K S vs ds → blsOf ds = some bs → vs = bs.map V.bl
  | [], _, _, .nil, h => by cases h; rfl
  | .bl b :: r, bs, _, .cons h1 h2, h => by
    cases h1
    cases hr : blsOf r with
    | none => simp [blsOf, hr] at h
    | some cs =>
      simp [blsOf, hr] at h
      subst h
      rw [bls_vals h2 hr]; rfl
def intsOf : List D → Option (List Int)
  | [] => some []
  | .int b :: r => (intsOf r).map (b :: ·)
  | _ => none
theorem ints_valsD : ∀ {ds : List D} {bs : List Int} {vs : List V}, DnA K S vs ds → intsOf ds = some bs → vs = bs.map V.int
  | [], _, _, .nil, h => by cases h; rfl
  | .int b :: r, bs, _, .cons h1 h2, h => by
    cases h1
    cases hr : intsOf r with
    | none => simp [intsOf, hr] at h
    | some cs =>
      simp [intsOf, hr] at h
      subst h
      rw [ints_valsD h2 hr]; rfl
def rAllD : DRC := fun xs Q => match xs with | [.lst ds] => optQ (blsOf ds) fun bs => Q (.bl (bs.all id)) | _ => False
def rSumD : DRC := fun xs Q => match xs with | [.lst ds] => optQ (intsOf ds) fun bs => Q (.int bs.sum) | _ => False
theorem cd_all (hc : X.calm = true) : CallR X (.builtin "all") (liftC X.K rAllD) := fun pins s σ H vs us Q I r ⟨S, ds, Q', ex, n, q, post⟩ => by
  match ds, n, q with
  | [.lst ds], n, q =>
    obtain ⟨v, rfl, n1⟩ := n.one
    obtain ⟨bs, hb, q⟩ := optQ_ex q
    cases n1 with | lst h a =>
      have e := bls_vals a hb
      exact cr_all hc pins s σ H _ us Q I r ⟨_, bs, rfl, SqL.of (by rw [← e]; exact ex _ _ h), post _ _ _ _ q (Grow.refl ex) (.bl _)⟩
/-- isinstance(x, T), T written: a built-in type -/
def D.ty : D → Option String
  | .non => some "NoneType"
  | .bl _ => some "bool"
  | .int _ => some "int"
  | .str _ => some "str"
  | .tup _ => some "tuple"
  | .kt _ => none
  | .lst _ => some "list"
  | .dK _ => some "dict"
  | .dT _ => some "dict"
  | .fK _ => none
  | .fT _ => none
  | .fN _ => none
  | .exc _ _ _ => none
  | .exc0 _ => none
  | .raw _ => none
  | .scr _ => none
  | .fn _ _ => none
theorem Dn.ty {v : V} {d : D} {t : String} (h : Dn K S v d) (ht : d.ty = some t) : TyX K S v (.type t) := by
  cases h with
  | non => cases ht; exact .base .non
  | bl b => cases ht; exact .base (.bl b)
  | int i => cases ht; exact .base (.int i)
  | str x => cases ht; exact .base (.str x)
  | raw v => cases ht
  | scr h => cases ht
  | fn _ _ _ _ _ _ _ => cases ht
  | tup h a => cases ht; exact .base (.tup h)
  | kt _ _ => cases ht
  | lst h a => cases ht; exact .base (.lst h)
  | dK h _ _ => cases ht; exact .base (.dK h)
  | dT h _ _ => cases ht; exact .base (.dT h)
  | fK h _ _ => cases ht
  | fT h _ _ => cases ht
  | fN _ _ _ => cases ht
  | exc _ _ _ => cases ht
  | exc0 _ => cases ht
/-- a built-in class, as a value -/
def D.cls (n : String) : D := .raw (.ty n)
def rIsi (n : String) : DRC := fun xs Q => match xs with
  | [d, .raw (.ty m)] => m = n ∧ optQ d.ty fun t => optQ (kitB t n) fun b => Q (.bl b)
  | _ => False
theorem TyX.mono {v : V} {t : Value} (e : Ex S S') (h : TyX K S v t) : TyX K S' v t := by
  cases h with
  | base b =>
    cases b with
    | non => exact .base .non
    | bl y => exact .base (.bl y)
    | int i => exact .base (.int i)
    | str y => exact .base (.str y)
    | flt y => exact .base (.flt y)
    | lst h => exact .base (.lst (e _ _ h))
    | frz h => exact .base (.frz (e _ _ h))
    | tup h => exact .base (.tup (e _ _ h))
    | dK h => exact .base (.dK (e _ _ h))
    | dT h => exact .base (.dT (e _ _ h))
    | ins h cl ha hn htk hm => exact .base (.ins (e _ _ h) cl ha hn htk hm)
  | byt y => exact .byt y
  | set h => exact .set (e _ _ h)
  | kList h c => exact .kList h c
  | kTuple h c => exact .kTuple h c
  | kDict h c => exact .kDict h c
  | fTuple h => exact .fTuple (e _ _ h)
  | fDict h => exact .fDict (e _ _ h)
theorem cd_isi (T : String) : CallR X (.builtin "isinstance") (liftC X.K (rIsi T)) := fun pins s σ H vs us Q I r ⟨S, ds, Q', ex, n, q, post⟩ => by
  match ds, n, q with
  | [d, .raw (.ty m)], n, q =>
    obtain ⟨rfl, q⟩ := q
    obtain ⟨v, v', rfl, n1, n2⟩ := n.two
    cases n2
    obtain ⟨t, ht, q⟩ := optQ_ex q
    obtain ⟨b, hb, q⟩ := optQ_ex q
    exact call_isi pins s σ H _ us Q I r ⟨v, .ty m, .type t, .type m, b, rfl, .ty m, TyX.mono ex (n1.ty ht), kit_ty hb, post _ _ _ _ q (Grow.refl ex) (.bl _)⟩
theorem de_ty {n : String} (gl : Gl X x) (hm : X.mg x = none) (hv : bootBuiltins x = some (.type n)) (hn : x ≠ "__name__" := by decide) (hd : (x == ("__debug__" : Str)) = false := by decide) : DE X E (.Name x p) (dC (.raw (.ty n))) :=
  de_c (pe_bltn (v := .ty n) gl hm hv (show RelV (.ty n) (.type n) from rfl) hn hd) fun _ => .raw _
end
end Ev
namespace Ev
open PySem PySem.Spec PyProof.Rows L2
variable [TabC]
variable {K : PySem.W.Frag} {S S' H H' : Hp} {B : Bs} {δ : DS} {σ : L2.St}
section
variable {X : Cx} {E : EK} {e a b c : Expr} {es : List Expr} {pos p ap cp : Pos} {da db : dE} {x : Str}
theorem tyL {K : PySem.W.Frag} {H : Hp} {p : Addr} {vs : List V} (h : H p = some (.lst vs)) : tyV K "list" (.ref p) H := Or.inl ⟨rfl, vs, SqL.of h⟩
/-- name.append(e) -/
def dApp (i : Nat) (d : dE) : dS := fun W N δ => (∃ ds, ownAt δ i = some ds) ∧ d W δ fun x δ1 => optQ (ownAt δ1 i) fun ds => ds.length < sizeLine ∧ N.nx (setOwnAt δ1 i (ds ++ [x]))
theorem ds_app {i : Nat} (hv : PE X (.Name x p) (tVar i)) (he : DE X E e da) (hbase : attributeBase (.Name x p) "append" X.env (eval (.Name x p) X.env) = eval (.Name x p) X.env := by rfl)
    (hfew : ((backTo cp (starEach [e] X.env)).all (fun x => !x.1) && (backToKw cp (keywordEach [] X.env)).all (fun x => x.1.isSome) && decide (([e] : List Expr).length + ([] : List Keyword).length + (if ([] : List Keyword).isEmpty then 0 else 1) < 30)) = true := by rfl)
    (hline : (ap.endLine == cp.line) = true := by rfl) (hs : starEach [e] X.env = (false, eval e X.env) :: starEach [] X.env := by rfl) (hpl : (backTo cp (starEach [] X.env)).any (·.1) = false := by rfl)
    (hsw : swapsWith (.Call (.Attribute (.Name x p) "append" ap) [e] [] cp) none pos.line X.env = pure false := by rfl) : DSt X E (.Expr (.Call (.Attribute (.Name x p) "append" ap) [e] [] cp) pos) (dApp i da) :=
  ⟨fun B => ps_mono (ps_expr (pe_bm PySem.F.plainAttrs_list PySem.F.slot_list_append PySem.F.type_list_append mt_append hv (pa_cons (he.run B) pa_nil hs) hbase hfew hline hs hpl) hsw) fun Z σ H q => by
    obtain ⟨δ, S, W, N, R, ⟨⟨ds0, h0⟩, q⟩, xo, p1, _⟩ := q
    obtain ⟨p0, _, v0, g0, _⟩ := R.ownAt h0
    refine ⟨.ref p0, v0, tyL g0, δ, S, W, _, R, q, xo, fun d δ1 v S1 H1 q1 e1 R1 n1 => ?_⟩
    obtain ⟨ds, h1, hz, q1⟩ := optQ_ex q1
    obtain ⟨p', vs, v1, g1, a1, _, put⟩ := R1.ownAt h1
    rw [v0] at v1; cases v1
    exact ⟨p0, vs, v, rfl, rfl, g1, by rw [a1.length]; exact hz, p1 _ _ _ _ q1 e1 (put _ _ (a1.append (.cons n1 .nil)))⟩⟩
/-- name.extend(e), e another list -/
def dExt (i : Nat) (d : dE) : dS := fun W N δ => (∃ ds, ownAt δ i = some ds) ∧ d W δ fun x δ1 => match x with
  | .lst zs => optQ (ownAt δ1 i) fun ds => ds.length + zs.length ≤ sizeLine ∧ N.nx (setOwnAt δ1 i (ds ++ zs))
  | _ => False
theorem ds_ext {i : Nat} (hv : PE X (.Name x p) (tVar i)) (he : DE X E e da) (hbase : attributeBase (.Name x p) "extend" X.env (eval (.Name x p) X.env) = eval (.Name x p) X.env := by rfl)
    (hfew : ((backTo cp (starEach [e] X.env)).all (fun x => !x.1) && (backToKw cp (keywordEach [] X.env)).all (fun x => x.1.isSome) && decide (([e] : List Expr).length + ([] : List Keyword).length + (if ([] : List Keyword).isEmpty then 0 else 1) < 30)) = true := by rfl)
    (hline : (ap.endLine == cp.line) = true := by rfl) (hs : starEach [e] X.env = (false, eval e X.env) :: starEach [] X.env := by rfl) (hpl : (backTo cp (starEach [] X.env)).any (·.1) = false := by rfl)
    (hsw : swapsWith (.Call (.Attribute (.Name x p) "extend" ap) [e] [] cp) none pos.line X.env = pure false := by rfl) : DSt X E (.Expr (.Call (.Attribute (.Name x p) "extend" ap) [e] [] cp) pos) (dExt i da) :=
  ⟨fun B => ps_mono (ps_expr (pe_bm PySem.F.plainAttrs_list PySem.F.slot_list_extend PySem.F.type_list_extend mt_extend hv (pa_cons (he.run B) pa_nil hs) hbase hfew hline hs hpl) hsw) fun Z σ H q => by
    obtain ⟨δ, S, W, N, R, ⟨⟨ds0, h0⟩, q⟩, xo, p1, _⟩ := q
    obtain ⟨p0, _, v0, g0, _⟩ := R.ownAt h0
    refine ⟨.ref p0, v0, tyL g0, δ, S, W, _, R, q, xo, fun d δ1 v S1 H1 q1 e1 R1 n1 => ?_⟩
    match d, n1, q1 with
    | .lst zs, .lst hz az, q1 =>
      obtain ⟨ds, h1, hz2, q1⟩ := optQ_ex q1
      obtain ⟨p', vs, v1, g1, a1, _, put⟩ := R1.ownAt h1
      rw [v0] at v1; cases v1
      exact ⟨p0, _, vs, _, rfl, rfl, g1, R1.ex _ _ hz, by rw [a1.length, az.length]; exact hz2, p1 _ _ _ _ q1 e1 (put _ _ (a1.append az))⟩⟩
/-- name.pop() -/
def dPop (i : Nat) : dE := fun _ δ Q => optQ (ownAt δ i) fun ds => optQ ds[ds.length - 1]? fun d => Q d (setOwnAt δ i ds.dropLast)
theorem DnA.dropLast {vs : List V} {ds : List D} (a : DnA K S vs ds) : DnA K S vs.dropLast ds.dropLast := by
  rw [List.dropLast_eq_take, List.dropLast_eq_take, a.length]
  exact a.take _
theorem de_pop {i : Nat} (hv : PE X (.Name x p) (tVar i)) (hbase : attributeBase (.Name x p) "pop" X.env (eval (.Name x p) X.env) = eval (.Name x p) X.env := by rfl) (hline : (ap.endLine == cp.line) = true := by rfl) :
    DE X E (.Call (.Attribute (.Name x p) "pop" ap) [] [] cp) (dPop i) := ⟨fun B => pe_mono (pe_bm0 PySem.F.plainAttrs_list PySem.F.slot_list_pop PySem.F.type_list_pop mt_pop hv hbase hline) fun σ H Q q => by
    obtain ⟨δ, S, W, Q', R, q, xo, post⟩ := q
    obtain ⟨ds, h1, q⟩ := optQ_ex q
    obtain ⟨d, h2, q⟩ := optQ_ex q
    obtain ⟨p', vs, v1, g1, a1, _, put⟩ := R.ownAt h1
    obtain ⟨v, w1, w2⟩ := a1.get h2
    exact ⟨.ref p', v1, tyL g1, p', vs, v, rfl, rfl, g1, by rw [a1.length]; exact w1, post _ _ _ _ _ q (Ex.refl _) (put _ _ a1.dropLast) w2⟩⟩
/-- name.pop(e) -/
def dPopAt (i : Nat) (d : dE) : dE := fun W δ Q => (∃ ds, ownAt δ i = some ds) ∧ d W δ fun y δ1 => match y with
  | .int k => -(2 ^ 63) ≤ k ∧ k < 2 ^ 63 ∧ optQ (ownAt δ1 i) fun ds => optQ (ixN ds.length k) fun j => optQ ds[j]? fun d => Q d (setOwnAt δ1 i (ds.eraseIdx j))
  | _ => False
def D.flat : D → Bool | .non => true | .bl _ => true | .int _ => true | .str _ => true | _ => false
theorem Dn.flat {v : V} {d : D} (h : Dn K S v d) (f : d.flat = true) : Dn K S' v d := by
  cases h <;> first | exact .non | exact .bl _ | exact .int _ | exact .str _ | (cases f)
theorem Rel.look (R : Rel K B δ S σ H) {i : Nat} {ds : List D} (h : Ev.lookAt δ i = some ds) : ∃ p S1, σ[i]? = some (some (.ref p)) ∧ Ex S S1 ∧ Sb S1 H ∧ Dn K S1 (.ref p) (.lst ds) ∧ tyV K "list" (.ref p) H ∧ ∀ S2 H2, Grow S1 H S2 H2 → ∃ S3, Ex S S3 ∧ Rel K B δ S3 σ H2 := by
  obtain ⟨p, vs, h1, h2, h3, h4⟩ := R.lookAt h
  rcases h4 with h4 | h4
  · refine ⟨p, upd S p (.lst vs), h1, Ex.new h4, ⟨fun a o q => ?_, fun a o q => Ex.new h4 _ _ (R.ex.tp a o q), R.ex.tb.at_ p (fun _ _ _ h => h) (fun u z => by rw [h2] at z; cases z; exact own_plain rfl) fun b n z => by rw [upd_ne n]; exact z⟩, .lst upd_same (h3.mono (Ex.new h4)), tyL h2, fun S2 H2 g => ?_⟩
    · by_cases e : a = p
      · subst e; rw [upd_same] at q; rw [h2]; exact q
      · rw [upd_ne e] at q; exact R.ex a o q
    · refine ⟨fun b => if b = p then none else S2 b, fun a o q => ?_, R.grow ⟨fun a o q => ?_, g.h, ⟨fun a o q => ?_, fun a o q => ?_, g.ok.tb.at_ p (fun _ _ _ h => h) (fun u z => by rw [g.h.pl h2] at z; cases z; exact own_plain rfl) fun b n z => (if_neg n).trans z⟩, fun b o hb n => ?_⟩⟩
      · have ne : a ≠ p := fun e => by rw [e, h4] at q; cases q
        exact (if_neg ne).trans (g.s a o (Ex.new h4 a o q))
      · have ne : a ≠ p := fun e => by rw [e, h4] at q; cases q
        exact (if_neg ne).trans (g.s a o (Ex.new h4 a o q))
      · have q : (if a = p then none else S2 a) = some o := q
        split at q
        · cases q
        · exact g.ok a o q
      · have ne : a ≠ p := fun e => by
          have z := g.h.pl h2
          rw [← e, q] at z; cases z
        exact (if_neg ne).trans (g.ok.tp a o q)
      · show (if b = p then none else S2 b) = none
        split
        · rfl
        · rename_i ne
          exact g.no b o hb (by rw [upd_ne ne]; exact n)
  · exact ⟨p, S, h1, Ex.refl _, R.ex, .lst h4 h3, tyL h2, fun S2 H2 g => ⟨S2, g.s, R.grow g⟩⟩
/-- f(name) -/
def dOwnCB (i : Nat) (r : DRC) : dE := fun _ δ Q => optQ (lookAt δ i) fun ds => r [.lst ds] fun z => z.flat = true ∧ Q z δ
theorem own_CB {i : Nat} {r : DRC} {Q : VK} (q : liftE K B E (dOwnCB i r) σ H Q) : tCB (liftC K r) (tCons (tVar i) tNil) σ H Q := by
  obtain ⟨δ, S, W, Q', R, q, xo, post⟩ := q
  obtain ⟨ds, h, q⟩ := optQ_ex q
  obtain ⟨p, S1, h1, e1, e2, n, _, back⟩ := R.look h
  exact ⟨.ref p, h1, S1, [.lst ds], _, e2, .cons n .nil, q, fun dz v S2 H2 q2 g n2 => (back _ _ g).elim fun S3 b3 => post _ _ _ _ _ q2.2 b3.1 b3.2 (n2.flat q2.1)⟩
theorem de_ownB {id : String} {r : DRC} {i : Nat} {y : Str} {py : Pos} (hc : CallR X (.builtin id) (liftC X.K r)) (hv : PE X (.Name y py) (tVar i)) (gl : Gl X x) (hm : X.mg x = none) (hb : bootBuiltins x = some (.builtin id)) (hn : x ≠ "__name__" := by decide) (hdb : (x == ("__debug__" : Str)) = false := by decide)
    (he : starEach [.Name y py] X.env = (false, eval (.Name y py) X.env) :: starEach [] X.env := by rfl) (hpl : (backTo pos (starEach [] X.env)).any (·.1) = false := by rfl) : DE X E (.Call (.Name x p) [.Name y py] [] pos) (dOwnCB i r) :=
  ⟨fun B => pe_mono (pe_callB hc gl hm hb (pa_cons hv pa_nil he) hn hdb he hpl) fun σ H Q q => own_CB q⟩
/-- name op e, e op name -/
def dOwnL (i : Nat) (r : DR2) (d : dE) : dE := fun W δ Q => (∃ ds, lookAt δ i = some ds) ∧ d W δ fun y δ1 => optQ (lookAt δ1 i) fun ds => r (.lst ds) y fun z => z.flat = true ∧ Q z δ1
def dOwnR (i : Nat) (r : DR2) (d : dE) : dE := fun W δ Q => d W δ fun x δ1 => optQ (lookAt δ1 i) fun ds => r x (.lst ds) fun z => z.flat = true ∧ Q z δ1
theorem own_L {i : Nat} {r : DR2} {Q : VK} (q : liftE K B E (dOwnL i r db) σ H Q) : tOp (liftR K r) (tVar i) (liftE K B E db) σ H Q := by
  obtain ⟨δ, S, W, Q', R, ⟨⟨ds0, h0⟩, q⟩, xo, post⟩ := q
  obtain ⟨p0, _, v0, _⟩ := R.lookAt h0
  refine ⟨.ref p0, v0, δ, S, W, _, R, q, xo, fun y δ1 v S1 H1 q1 e1 R1 n1 => ?_⟩
  obtain ⟨ds, h, q1⟩ := optQ_ex q1
  obtain ⟨p, S2, h1, e2, e3, n, _, back⟩ := R1.look h
  rw [v0] at h1; cases h1
  exact ⟨S2, .lst ds, y, _, e3, n, n1.mono e2, q1, fun dz v S3 H3 q2 g n2 => (back _ _ g).elim fun S4 b4 => post _ _ _ _ _ q2.2 (e1.trans b4.1) b4.2 (n2.flat q2.1)⟩
theorem dt_ownL {op : CmpOp} {r : DR2} {i : Nat} {y : Str} {py : Pos} (ho : OpD X (compareOp op) r) (hv : PE X (.Name y py) (tVar i)) (hb : DE X E b db) (hm : behindInMarks op b = false) : DT X E (.Compare (.Name y py) [op] [b] pos) (dB (dOwnL i r db)) :=
  ⟨fun B => pt_mono (pt_cmpR ho hv (hb.run B) hm) fun σ H Q q => by
    have q := lift_B q
    exact own_L (Q := fun x H' => ∃ k, x = .bl k ∧ Q k H') q⟩
/-- name[lo:hi] -/
def dOwnSl (i : Nat) (lo hi : dO) : dF := fun W δ Q => (∃ ds, lookAt δ i = some ds) ∧ lo W δ fun l δ2 => hi W δ2 fun h δ3 => optQ (lookAt δ3 i) fun ds => Q (cutD ds l h) δ3
def strsOf : List D → Option (List Str)
  | [] => some []
  | .str b :: r => (strsOf r).map (b :: ·)
  | _ => none
/-- sep.join(e) -/
def dJoin (ds dx : dE) : dE := fun W δ Q => ds W δ fun s δ1 => dx W δ1 fun x δ2 => match s, x with
  | .str a, .lst zs => optQ (strsOf zs) fun ys => (ys.map (·.length)).sum + ys.length * a.length ≤ 16777216 ∧ Q (.str (Txt.join a ys)) δ2
  | .str a, .tup zs => optQ (strsOf zs) fun ys => (ys.map (·.length)).sum + ys.length * a.length ≤ 16777216 ∧ Q (.str (Txt.join a ys)) δ2
  | _, _ => False
/-- f'..' -/
def dFmt (d : dE) : dE := fun W δ Q => d W δ fun x δ1 => match x with
  | .str y => y.length ≤ sizeLine ∧ Q (.str y) δ1
  | .int i => i.natAbs.log2 < 1920 ∧ Q (.str (toString i)) δ1
  | _ => False
def dJs : List dE → Str → XW → DS → (Str → DS → Prop) → Prop
  | [], acc, _, δ, Q => Q acc δ
  | t :: ts, acc, W, δ, Q => t W δ fun x δ1 => match x with
    | .str y => (acc ++ y).length ≤ sizeLine ∧ dJs ts (acc ++ y) W δ1 Q
    | _ => False
def dFs (ts : List dE) : dE := fun W δ Q => dJs ts Str.empty W δ fun out δ' => Q (.str out) δ'
end
def penD (ns : List Int) (k m : Int) : List D := [.lst (ns.map D.int), .int k, .int m]
/-- what a draw tells: any number below many, one draw more -/
def spDraw (top : Nat) : dSp := fun ds p Q _ => match ds, p with
  | [.raw (.ref a), .int n], some (b, c) => a = b ∧ 0 < n ∧ n < 1000000 ∧ c < top ∧ ∀ r, 0 ≤ r → r < n → Q (.int r) (some (a, c + 1))
  | _, _ => False
section
variable {P : Program} {w : World} {K : PySem.W.Frag} {mg : Str → Option Value} {base : Heap} {x qual : Str} {st : Stmt} {f : Addr} {fd : FuncData} {N ps : List Str} {k : Nat} {d : dS}
theorem intsOf_ints : ∀ ns : List Int, intsOf (ns.map D.int) = some ns
  | [] => rfl
  | n :: ns => by simp [intsOf, intsOf_ints ns]
theorem fn_pen [PkL] {top : Nat} (F : Fun K x qual st f fd) (Sc : FnScope N ps (defScope st)) (hn : ps.length = 2)
    (body : ∀ (cdv : Value) (A : Around) (out : List Env) (s : Shared) (H : Hp) (E : XK), A.guards = some [] → Room k (A.deeper (envOfC qual (defScope st) s.heap.objs.size f cdv)) → DSs (cx0 P w K mg base N qual (defScope st) f cdv A out s H E) E00 (defBody st) d)
    (hsp : ∀ (ns : List Int) (k m n : Int), ns.length ≤ 63 → 0 ≤ k → k < top → 0 ≤ m → 0 < n → n < 1000000 →
      d W0 { nx := fun _ => False, rt := fun x δ => ∃ r k' m' : Int, x = .int r ∧ 0 ≤ r ∧ r < n ∧ 0 ≤ k' ∧ k' ≤ k + 1 ∧ 0 ≤ m' ∧ δ.sl[0]? = some (.hp (penD ns k' m')) } ⟨.hp (penD ns k m) :: .dat (.int n) :: List.replicate (N.length - 2) .un, none⟩) :
    FnG P w K mg base CX0 (k + 1) f fd ps (spD K 2 (spDraw top)) := by
  refine fn_g F Sc (fun vs H Q E q => (spD_len vs H Q E q).trans hn.symm) fun cdv _ A out s H vs Q E g r q => ?_
  obtain ⟨S0, ds, p, Q', W', ex, hp, a, hl, q, post, _⟩ := q
  have hN : 2 ≤ N.length := by
    have h2 := congrArg List.length Sc.pre
    rw [List.length_take] at h2
    omega
  match ds, p, q, a, hp with
  | [.raw (.ref a0), .int n], some (b, c), ⟨e1, n1, n2, ct, q⟩, a, hp =>
    subst e1
    obtain ⟨v1, v2, rfl, d1, d2⟩ := a.two
    cases d1; cases d2
    obtain ⟨pn, ca, ns, kk, m, g1, g2, g3, g4, g5, g6⟩ := hp
    rw [penO_l] at g1
    have start0 : Rel K ⟨S0, H, some a0, false⟩ ⟨.hp (penD ns kk m) :: .dat (.int n) :: List.replicate (N.length - 2) .un, none⟩ S0 (L2.start N [.ref a0, .int n]) H := by
      refine ⟨ex, ⟨Ex.refl _, fun _ _ h _ _ => h, fun _ ps h => ⟨ps, h⟩, fun _ _ _ n => n, fun b z => by cases z; exact ⟨_, g1⟩⟩, trivial, (by unfold PaOk; rw [if_neg (fun z => Bool.false_ne_true z.1)]; exact fun _ _ z => nomatch z), ?_, fun i => if i = 0 then some a0 else none, fun i y e => ?_, fun i hi => ?_, fun i j a e1 e2 => ?_, fun i a e => ?_⟩
      · simp only [L2.start, List.length_append, List.length_map, List.length_replicate, List.length_cons, List.length_nil]; omega
      · match i, e with
        | 0, e =>
          cases (show some (Sl.hp (penD ns kk m)) = some y from e)
          exact ⟨a0, [.ref ca, .int kk, .int m], rfl, rfl, rfl, g1, .cons (.lst g2 (DnA.ints ns)) (.cons (.int _) (.cons (.int _) .nil))⟩
        | 1, e =>
          cases (show some (Sl.dat (.int n)) = some y from e)
          exact ⟨rfl, .int n, rfl, .int n⟩
        | i + 2, e =>
          have e : (List.replicate (N.length - 2) Sl.un)[i]? = some y := by simpa using e
          rw [List.getElem?_replicate] at e
          split at e
          · cases e; exact rfl
          · cases e
      · have : i ≠ 0 := fun z => by subst z; simp at hi
        simp [this]
      · have e1 : (if i = 0 then some a0 else none) = some a := e1
        have e2 : (if j = 0 then some a0 else none) = some a := e2
        split at e1
        · split at e2
          · exact (by assumption : i = 0).trans (by assumption : j = 0).symm
          · cases e2
        · cases e1
      · have e : (if i = 0 then some a0 else none) = some a := e
        split at e
        · cases e; exact ⟨pn, .inr rfl, (fun c z => (nomatch z)), _, g1⟩
        · cases e
    refine ⟨_, ((body cdv A out s H E g r).run ⟨S0, H, some a0, false⟩).nox, _, S0, W0, _, start0, hsp ns kk m n g3 g4 (by omega) g6 n1 n2, fun _ _ _ _ _ _ _ h => h.elim, fun _ _ _ _ h => h.elim, fun x δ' v σ' S' H' q1 e1 R1 dn => ?_, fun _ _ _ _ h => h.elim, fun _ _ _ _ h => h.elim, fun _ _ _ _ _ _ _ h => h.elim⟩
    obtain ⟨r, k', m', rfl, r1, r2, r3, r4, r5, r6⟩ := q1
    obtain ⟨p', vs, s1, s2, s3, s4, s5, _⟩ := R1.hp r6
    cases s5
    match vs, s3, s2 with
    | [_, _, _], .cons t1 (.cons t2 (.cons t3 .nil)), s2 =>
      cases t2; cases t3
      cases t1 with
      | lst u1 u2 =>
        have e := ints_valsD (bs := ns) u2 (intsOf_ints ns)
        subst e
        exact post _ (some (a0, c + 1)) _ _ _ (q r r1 r2) ⟨e1, R1.ex, ⟨s4, _, ns, k', m', by rw [penO_l]; exact s2, u1, g3, r3, by omega, r5⟩, .inl rfl, fun b o h nb nt => R1.fr.h b o h nb nt, R1.fr.t, R1.fr.no⟩ dn
end
end Ev
namespace Ev
open PySem PySem.Spec PyProof.Rows L2
variable [TabC]
variable {K : PySem.W.Frag} {S S' H H' : Hp} {B : Bs} {δ : DS} {σ : L2.St}
section
variable {X : Cx} {E : EK} {e a b c : Expr} {es : List Expr} {pos p ap cp : Pos} {da db : dE} {x : Str}
/-- a new list that is a pen: from here on it is the pen -/
def dBorn (f : dF) : dE := fun W δ Q => f W δ fun xs δ1 => δ1.pen = none ∧ ∃ (ns : List Int) (k m : Int) (c : Nat), xs = penD ns k m ∧ ns.length ≤ 63 ∧ 0 ≤ k ∧ k ≤ c ∧ 0 ≤ m ∧ ∀ a, Q (.raw (.ref a)) { δ1 with pen := some (a, c) }
theorem Rel.born [PkL] (R : Rel K B δ S σ H) (hn : δ.pen = none) (hb : ¬(B.pd = true ∧ B.pa ≠ none)) {p ca : Addr} {ns : List Int} {k m : Int} {c : Nat} (hp : H p = none) (hc : S ca = some (.lst (ns.map V.int))) (h63 : ns.length ≤ 63) (h0 : 0 ≤ k) (hk : k ≤ c) (hm : 0 ≤ m) :
    Rel K B { δ with pen := some (p, c) } S σ (upd H p (.lst [.ref ca, .int k, .int m])) := by
  obtain ⟨f1, f2⟩ := R.fr.fresh hp
  have sp : S p = none := R.ex.none hp
  have g : Grow S H S (upd H p (.lst [.ref ca, .int k, .int m])) := ⟨Ex.refl _, Ext.of (Ex.new hp), R.ex.one hp (fun vs z => HO.noConfusion z), fun _ _ _ n => n⟩
  have R' := R.grow g
  obtain ⟨ow, h1, h2, h3, h4⟩ := R.sl
  obtain ⟨ow', h1', h2', h3', h4'⟩ := R'.sl
  refine ⟨R'.ex, R'.fr, ⟨sp, ca, ns, k, m, by rw [penO_l]; exact upd_same, hc, h63, h0, hk, hm⟩, ?_, R'.len, ow, fun i x e => (h1 i x e).grow (Ex.refl _) fun a o _ q _ => Ex.new hp a o q, h2, h3, fun i a e => ?_⟩
  · unfold PaOk
    rw [if_neg hb]
    intro a c' z
    cases z
    exact ⟨f1, f2⟩
  · obtain ⟨q1, q2, q3, o, q4⟩ := h4 i a e
    have ne : a ≠ p := fun z => by rw [z, hp] at q4; cases q4
    refine ⟨q1, q2, fun c' z => ?_, o, by rw [upd_ne ne]; exact q4⟩
    cases z
    exact ne rfl
theorem Rel.free (R : Rel K B δ S σ H) (hn : δ.pen = none) : ¬(B.pd = true ∧ B.pa ≠ none) := fun z => by
  have q := R.pa
  unfold PaOk at q
  rw [if_pos z, hn] at q
  exact z.2 q.symm
theorem DnA.pen {vs : List V} {ns : List Int} {k m : Int} (h : DnA K S vs (penD ns k m)) : ∃ ca, vs = [.ref ca, .int k, .int m] ∧ S ca = some (.lst (ns.map V.int)) := by
  match vs, h with
  | [_, _, _], .cons t1 (.cons t2 (.cons t3 .nil)) =>
    cases t2; cases t3
    cases t1 with
    | lst u1 u2 =>
      have e := ints_valsD (bs := ns) u2 (intsOf_ints ns)
      subst e
      exact ⟨_, rfl, u1⟩
theorem de_born [PkL] {f : dF} (h : DF X E e f) : DE X E e (dBorn f) := ⟨fun B => pe_mono (h.run B) fun σ H Q q => by
  obtain ⟨δ, S, W, Q', R, q, xo, post⟩ := q
  refine ⟨δ, S, W, _, R, q, xo, fun xs δ1 p vs S1 H1 q1 e1 R1 hp n1 => ?_⟩
  obtain ⟨hn, ns, k, m, c, rfl, z1, z2, z3, z4, q1⟩ := q1
  obtain ⟨ca, rfl, hc⟩ := n1.pen
  exact post _ _ _ _ _ (q1 p) e1 (R1.born hn (R1.free hn) hp hc z1 z2 z3 z4) (.raw _)⟩
/-- f(..), n arguments in all, the last ones by default -/
def dCallD (n : Nat) (dd : List D) (sp : dSp) (a : dA) : dE := fun W δ Q => a W δ fun xs δ1 => (xs ++ dd).length = n ∧ sp (xs ++ dd) δ1.pen (fun x p' => Q x { δ1 with pen := p' }) fun c p' => W c { δ1 with pen := p' }
/-- the arguments us and those by keyword ws and the defaults, put in order -/
def pickL {α : Type} (p q : Nat) (idx : List Nat) (dd us ws : List α) : List α := if us.length = p ∧ ws.length = q then idx.filterMap ((us ++ ws ++ dd)[·]?) else []
theorem DnA.filterMap {vs : List V} {ds : List D} (a : DnA K S vs ds) : ∀ idx : List Nat, DnA K S (idx.filterMap (vs[·]?)) (idx.filterMap (ds[·]?))
  | [] => .nil
  | i :: idx => by
    have ih := a.filterMap idx
    rw [List.filterMap_cons, List.filterMap_cons]
    cases h : ds[i]? with
    | none =>
      have : vs[i]? = none := by
        rw [List.getElem?_eq_none_iff] at h ⊢
        rw [a.length]; exact h
      rw [this]; exact ih
    | some d =>
      obtain ⟨v, h1, h2⟩ := a.get h
      rw [h1]
      exact .cons h2 ih
theorem DnA.pick {p q : Nat} {idx : List Nat} {dv us ws : List V} {dd ds es : List D} (hd : DnA K S dv dd) (h1 : DnA K S us ds) (h2 : DnA K S ws es) : DnA K S (pickL p q idx dv us ws) (pickL p q idx dd ds es) := by
  unfold pickL
  rw [h1.length, h2.length]
  split
  · exact ((h1.append h2).append hd).filterMap idx
  · exact .nil
theorem vals_filterMap {vs : List V} {us : List Value} (a : Vals vs us) : ∀ idx : List Nat, Vals (idx.filterMap (vs[·]?)) (idx.filterMap (us[·]?))
  | [] => .nil
  | i :: idx => by
    have ih := vals_filterMap a idx
    rw [List.filterMap_cons, List.filterMap_cons]
    cases h : vs[i]? with
    | none =>
      rw [a.none_of h]; exact ih
    | some v =>
      obtain ⟨u, h1, h2⟩ := a.get h
      rw [h1]
      exact .cons h2 ih
theorem vals_pick {p q : Nat} {idx : List Nat} {dv us ws : List V} {dd ds es : List Value} (hd : Vals dv dd) (h1 : Vals us ds) (h2 : Vals ws es) : Vals (pickL p q idx dv us ws) (pickL p q idx dd ds es) := by
  unfold pickL
  rw [h1.length, h2.length]
  split
  · exact vals_filterMap ((h1.append h2).append hd) idx
  · exact .nil
/-- how a def's keywords bind -/
theorem kbinds_of {fd : FuncData} {ps ks : List Str} {p q : Nat} {idx : List Nat} {dv : List V} {ds : List Value} (hd : Vals dv ds) (hn : 0 < ps.length)
    (h : ∀ (s : Shared) (us ws : List Value), K.In s.heap → us.length = p → ws.length = q → BindsTo s fd ⟨us, ks.zip ws⟩ (ps.zip (idx.filterMap ((us ++ ws ++ ds)[·]?)))) : KBinds K fd ps ks (pickL p q idx ds) (pickL p q idx dv) where
  to := fun s us ws ki hl => by
    unfold pickL at hl ⊢
    split at hl
    · rename_i z
      rw [if_pos z]
      exact h s us ws ki z.1 z.2
    · rw [← hl] at hn
      exact absurd hn (Nat.lt_irrefl 0)
  rel := fun r rz => vals_pick hd r rz
/-- a def that lets nothing out: everything that a call wants to know of it; dd: the values by default -/
structure Def (P : Program) (w : World) (K : PySem.W.Frag) (mg : Str → Option Value) (base : Heap) (k : Nat) (x : Str) (n : Nat) (sp : dSp) (dd : List D) : Prop where
  ok : ∃ (ps : List Str) (f : Addr) (fd : FuncData) (dv : List V) (ds : List Value), FnG P w K mg base CX0 k f fd ps (spD K n sp) ∧ mg x = some (.ref f) ∧ PySem.W.keepIn K (.ref f) = true ∧ Binds K fd ps ds ∧ Vals dv ds ∧ ∀ S, DnA K S dv dd
structure DefK (P : Program) (w : World) (K : PySem.W.Frag) (mg : Str → Option Value) (base : Heap) (k : Nat) (x : Str) (n : Nat) (sp : dSp) (p q : Nat) (ks : List Str) (idx : List Nat) (dd : List D) : Prop where
  ok : ∃ (ps : List Str) (f : Addr) (fd : FuncData) (dv : List V) (ds : List Value), FnG P w K mg base CX0 k f fd ps (spD K n sp) ∧ mg x = some (.ref f) ∧ PySem.W.keepIn K (.ref f) = true ∧ KBinds K fd ps ks (pickL p q idx ds) (pickL p q idx dv) ∧ ∀ S, DnA K S dv dd
theorem pass_at {E : L2.St → XK} : ∀ σ, PassesAt CX0 X σ (E σ) := fun _ _ _ _ _ _ _ h => h.elim
variable {j k n : Nat} {sp : dSp} {dd : List D} {ta : dA}
theorem de_callD (h : Def X.prog X.w X.K X.mg X.base j x n sp dd) (hg : X.A.guards = some []) (hr : Room k X.A) (gl : Gl X x) (ha : DA X E (e :: es) ta) (hj : j ≤ k := by decide) (hdb : (x == ("__debug__" : Str)) = false := by decide)
    (he : starEach (e :: es) X.env = (false, eval e X.env) :: starEach es X.env := by rfl) (hpl : (backTo pos (starEach es X.env)).any (·.1) = false := by rfl) : DE X E (.Call (.Name x p) (e :: es) [] pos) (dCallD n dd sp ta) := by
  obtain ⟨ps, f, fd, dv, ds, F, m, kp, b, vd, dn⟩ := h.ok
  refine ⟨fun B => pe_mono (pe_callG F hg (hr.mono hj) gl m kp b vd (pass_at (E := E)) (ha.run B) hdb he hpl) fun σ H Q q => ?_⟩
  obtain ⟨δ, S, W, Q', R, q, xo, post⟩ := q
  refine ⟨δ, S, W, _, R, q, xo, fun xs δ1 vs S1 H1 q1 e1 R1 n1 => ?_⟩
  exact call_read xo e1 R1 (n1.append (dn S1)) q1.1 q1.2 post
/-- values by keyword -/
structure DK (X : Cx) (E : EK) (kws : List Keyword) (d : dA) : Prop where
  run : ∀ B, PK X kws (liftA X.K B E d)
theorem pk_mono {kws : List Keyword} {t t' : TA} (h : PK X kws t) (m : ∀ σ H Q, t' σ H Q → t σ H Q) : PK X kws t' := ⟨fun pos pins s σ H Q I q => h.run pos pins s σ H Q I (m _ _ _ q)⟩
theorem dk_nil : DK X E [] dNil := ⟨fun B => pk_mono pk_nil fun σ H Q q => by
  obtain ⟨δ, S, W, Q', R, q, xo, post⟩ := q
  exact post _ _ _ _ _ q (Ex.refl _) R .nil⟩
theorem dk_cons {nm : Option Str} {kpos : Pos} {kws : List Keyword} {r : dA} (h : DE X E e da) (hr : DK X E kws r) : DK X E (⟨nm, e, kpos⟩ :: kws) (dCons da r) := ⟨fun B => pk_mono (pk_cons (h.run B) (hr.run B)) fun σ H Q q => by
  obtain ⟨δ, S, W, Q', R, q, xo, post⟩ := q
  refine ⟨δ, S, W, _, R, q, xo, fun x δ1 v S1 H1 q1 e1 R1 n1 => ?_⟩
  exact ⟨δ1, S1, W, _, R1, q1, xo.mono e1, fun xs δ2 vs S2 H2 q2 e2 R2 n2 => post _ _ _ _ _ q2 (e1.trans e2) R2 (.cons (n1.mono e2) n2)⟩⟩
def dCallK (n p q : Nat) (idx : List Nat) (dd : List D) (sp : dSp) (a tk : dA) : dE := fun W δ Q => a W δ fun us δ1 => tk W δ1 fun ws δ2 => (pickL p q idx dd us ws).length = n ∧ sp (pickL p q idx dd us ws) δ2.pen (fun x p' => Q x { δ2 with pen := p' }) fun c p' => W c { δ2 with pen := p' }
variable {pp qq : Nat} {ks : List Str} {idx : List Nat} {kws : List Keyword} {tk : dA}
theorem de_callK0 (h : DefK X.prog X.w X.K X.mg X.base j x n sp pp qq ks idx dd) (hg : X.A.guards = some []) (hr : Room k X.A) (gl : Gl X x) (hk : DK X E kws tk) (hj : j ≤ k := by decide) (hall : (backToKw pos (keywordEach kws X.env)).all (·.1.isSome) = true := by rfl)
    (hks : (backToKw pos (keywordEach kws X.env)).filterMap (·.1) = ks := by rfl) (hdb : (x == ("__debug__" : Str)) = false := by decide)
    (hpl : ((backTo pos (starEach [] X.env)).any (·.1) || (backToKw pos (keywordEach kws X.env)).any (·.1.isNone)) = false := by rfl) : DE X E (.Call (.Name x p) [] kws pos) (dCallK n pp qq idx dd sp dNil tk) := by
  obtain ⟨ps, f, fd, dv, ds, F, m, kp, b, dn⟩ := h.ok
  refine ⟨fun B => pe_mono (pe_callGK0 F hg (hr.mono hj) gl m kp b (pass_at (E := E)) (hk.run B) hall hks hdb hpl) fun σ H Q q => ?_⟩
  obtain ⟨δ, S, W, Q', R, q, xo, post⟩ := q
  refine ⟨δ, S, W, _, R, q, xo, fun ws δ2 zs S2 H2 q2 e2 R2 n2 => ?_⟩
  exact call_read xo e2 R2 (DnA.pick (dn S2) .nil n2) q2.1 q2.2 post
end
end Ev
namespace Ev
open PySem PySem.Spec PyProof.Rows L2
variable [TabC]
variable {K : PySem.W.Frag} {S S' H H' : Hp} {B : Bs} {δ : DS} {σ : L2.St}
section
variable {X : Cx} {E : EK} {e a b c : Expr} {es : List Expr} {pos p ap cp : Pos} {da db : dE} {x : Str}
def dNeg (d : dE) : dE := fun W δ Q => d W δ fun x δ1 => match x with | .int i => Q (.int (-i)) δ1 | _ => False
theorem de_usub (h : DE X E e da) : DE X E (.UnaryOp .USub e pos) (dNeg da) := ⟨fun B => pe_mono (pe_un un_neg (h.run B)) fun σ H Q q => by
  obtain ⟨δ, S, W, Q', R, q, xo, post⟩ := q
  refine ⟨δ, S, W, _, R, q, xo, fun x δ1 v S1 H1 q1 e1 R1 n1 => ?_⟩
  match x, n1, q1 with
  | .int i, .int _, q1 => exact ⟨i, rfl, post _ _ _ _ _ q1 e1 R1 (.int _)⟩⟩
theorem de_neg {i : Int} {j} : DE X E (.UnaryOp .USub (.Constant (.int i) j p) pos) (dC (.int (-i))) := ⟨fun B => pe_mono ((de_usub (E := E) (de_int (i := i) (j := j))).run B) fun σ H Q q => q⟩
end
section
variable {g : dG} {b : dS} {W : XW} {N : dEnds} {tt : dT} {te : dE} {vs : List Nat} {Q : List D → DS → Prop}
/-- a for by what holds ahead of what is left -/
theorem wFor_ind (I : List D → DS → Prop) (h : ∀ d ds δ (k : DS → Prop), (∀ δ', I ds δ' → k δ') → I (d :: ds) δ → g d δ fun δ1 => b W { N with nx := k, ct := k, bk := N.nx } δ1) (h0 : ∀ δ, I [] δ → N.nx δ) : ∀ ds δ, I ds δ → wFor g b W N ds δ
  | [], δ, i => h0 δ i
  | d :: ds, δ, i => h d ds δ _ (fun δ' i' => wFor_ind I h h0 ds δ' i') i
end
theorem eq_int {i j : Int} : D.eq (.int i) (.int j) = decide (i = j) := by simp [D.eq, D.py, PyData.eqv]; rfl
theorem eq_str {i j : Str} : D.eq (.str i) (.str j) = decide (i = j) := by simp [D.eq, D.py, PyData.eqv]; rfl
theorem eq_bl {i j : Bool} : D.eq (.bl i) (.bl j) = decide (i = j) := by simp [D.eq, D.py, PyData.eqv]; rfl
theorem eq_non : D.eq .non .non = true := by simp [D.eq, D.py, PyData.eqv]
mutual
theorem D.eqv_refl : ∀ d : D, PyData.eqv d.py d.py = true
  | .non => by simp [D.py, PyData.eqv]
  | .bl b => by simp [D.py, PyData.eqv]
  | .int i => by simp [D.py, PyData.eqv]
  | .str x => by simp [D.py, PyData.eqv]
  | .tup xs => by simp [D.py, PyData.eqv, D.eqv_refls xs]
  | .kt xs => by simp [D.py, PyData.eqv, D.eqv_refls xs]
  | .lst xs => by simp [D.py, PyData.eqv, D.eqv_refls xs]
  | .dK _ => by simp [D.py, PyData.eqv]
  | .dT _ => by simp [D.py, PyData.eqv]
  | .fK _ => by simp [D.py, PyData.eqv]
  | .fT _ => by simp [D.py, PyData.eqv]
  | .fN _ => by simp [D.py, PyData.eqv]
  | .exc _ _ _ => by simp [D.py, PyData.eqv]
  | .exc0 _ => by simp [D.py, PyData.eqv]
  | .raw _ => by simp [D.py, PyData.eqv]
  | .scr _ => by simp [D.py, PyData.eqv]
  | .fn _ _ => by simp [D.py, PyData.eqv]
theorem D.eqv_refls : ∀ ds : List D, PyData.eqvAll (D.pys ds) (D.pys ds) = true
  | [] => by simp [D.pys, PyData.eqvAll]
  | d :: ds => by simp [D.pys, PyData.eqvAll, D.eqv_refl d, D.eqv_refls ds]
end
theorem D.eq_refl (d : D) : D.eq d d = true := D.eqv_refl d
def D.eqs : List D → List D → Bool
  | [], [] => true
  | x :: xs, y :: ys => D.eq x y && D.eqs xs ys
  | _, _ => false
theorem D.eqs_py : ∀ xs ys : List D, PyData.eqvAll (D.pys xs) (D.pys ys) = D.eqs xs ys
  | [], [] => by simp [D.pys, PyData.eqvAll, D.eqs]
  | x :: xs, y :: ys => by simp [D.pys, PyData.eqvAll, D.eqs, D.eqs_py xs ys, D.eq]
  | [], _ :: _ => by simp [D.pys, PyData.eqvAll, D.eqs]
  | _ :: _, [] => by simp [D.pys, PyData.eqvAll, D.eqs]
theorem eq_tup {xs ys : List D} : D.eq (.tup xs) (.tup ys) = D.eqs xs ys := by simp [D.eq, D.py, PyData.eqv, D.eqs_py]
theorem eq_lst {xs ys : List D} : D.eq (.lst xs) (.lst ys) = D.eqs xs ys := by simp [D.eq, D.py, PyData.eqv, D.eqs_py]
mutual
/-- texts of true signs, numbers of at most thirty digits, nothing but these within -/
def D.okd : D → Bool
  | .non => true
  | .bl _ => true
  | .int i => decide (i.natAbs < 10 ^ 30)
  | .str x => PyData.strOk x
  | .tup xs => D.okds xs
  | .kt xs => D.okds xs
  | .lst xs => D.okds xs
  | _ => false
def D.okds : List D → Bool
  | [] => true
  | x :: xs => x.okd && D.okds xs
end
mutual
/-- signs that are enough for its repr -/
def D.sz : D → Nat
  | .int _ => 31
  | .str x => 10 * x.length + 2
  | .tup xs => D.szs xs + 5
  | .kt xs => D.szs xs + 5
  | .lst xs => D.szs xs + 5
  | _ => 5
def D.szs : List D → Nat
  | [] => 0
  | x :: xs => x.sz + 2 + D.szs xs
end
mutual
theorem D.okd_lay : ∀ d : D, d.okd = true → d.lay = true
  | .non, _ => rfl
  | .bl b, _ => rfl
  | .int i, _ => rfl
  | .str x, h => h
  | .tup xs, h => D.okds_lay xs h
  | .kt xs, h => D.okds_lay xs h
  | .lst xs, h => D.okds_lay xs h
  | .dK _, h => by cases h
  | .dT _, h => by cases h
  | .fK _, h => by cases h
  | .fT _, h => by cases h
  | .fN _, h => by cases h
  | .exc _ _ _, h => by cases h
  | .exc0 _, h => by cases h
  | .raw _, h => by cases h
  | .scr _, h => by cases h
  | .fn _ _, h => by cases h
theorem D.okds_lay : ∀ ds : List D, D.okds ds = true → D.lays ds = true
  | [], _ => rfl
  | d :: ds, h => by
    have h' : (d.okd && D.okds ds) = true := h
    rw [Bool.and_eq_true] at h'
    show (d.lay && D.lays ds) = true
    rw [D.okd_lay d h'.1, D.okds_lay ds h'.2]; rfl
end
theorem log2_of {n : Nat} (h : n < 10 ^ 30) : n.log2 < 1920 := by
  by_cases z : n = 0
  · subst z; decide
  · rw [Nat.log2_lt z]
    exact Nat.lt_trans h (by decide +kernel)
mutual
theorem D.okd_sho : ∀ d : D, d.okd = true → d.sho = true
  | .non, _ => rfl
  | .bl b, _ => rfl
  | .int i, h => decide_eq_true (log2_of (of_decide_eq_true h))
  | .str x, h => rfl
  | .tup xs, h => D.okds_sho xs h
  | .kt xs, h => D.okds_sho xs h
  | .lst xs, h => D.okds_sho xs h
  | .dK _, h => by cases h
  | .dT _, h => by cases h
  | .fK _, h => by cases h
  | .fT _, h => by cases h
  | .fN _, h => by cases h
  | .exc _ _ _, h => by cases h
  | .exc0 _, h => by cases h
  | .raw _, h => by cases h
  | .scr _, h => by cases h
  | .fn _ _, h => by cases h
theorem D.okds_sho : ∀ ds : List D, D.okds ds = true → D.shos ds = true
  | [], _ => rfl
  | d :: ds, h => by
    have h' : (d.okd && D.okds ds) = true := h
    rw [Bool.and_eq_true] at h'
    show (d.sho && D.shos ds) = true
    rw [D.okd_sho d h'.1, D.okds_sho ds h'.2]; rfl
end
theorem ofString_length (s : String) : (Str.ofString s).length = s.length := by
  rw [Str.ofString_eq_toList]
  simp [Str.length, String.length_toList]
theorem join2_len (sep : Str) : ∀ ts : List Str, (Str.join sep ts).length ≤ (ts.map fun t => t.length + sep.length).sum
  | [] => by simp [Str.join, Str.empty, Str.length]
  | [x] => by simp [Str.join]
  | x :: y :: r => by
    have ih := join2_len sep (y :: r)
    show (x ++ sep ++ Str.join sep (y :: r)).length ≤ _
    rw [Str.length_append, Str.length_append, List.map_cons, List.sum_cons]
    omega
mutual
theorem D.sz_shown : ∀ d : D, d.okd = true → d.py.shown.length ≤ d.sz
  | .non, _ => by simp only [D.py, PyData.shown, D.sz]; decide +kernel
  | .bl b, _ => by cases b <;> simp only [D.py, PyData.shown, D.sz] <;> decide +kernel
  | .int i, h => by
    simp only [D.py, PyData.shown, D.sz]
    rw [ofString_length]
    exact int_text_length_le10 (k := 30) (by decide) (of_decide_eq_true h)
  | .str x, h => by
    simp only [D.py, PyData.shown, D.sz]
    refine StrLaws.reprText_len x fun c hc => ?_
    have h1 : x.cps.all (· < 0x110000) = true := h
    rw [Array.all_eq_true'] at h1
    have h2 := of_decide_eq_true (h1 c (by simpa using hc))
    exact Nat.lt_trans h2 (by decide)
  | .tup xs, h => by
    simp only [D.py, PyData.shown, D.sz]
    have q := D.szs_shown xs h
    have z := join2_len ", " (PyData.shownAll (D.pys xs))
    have hz : ((", " : String) : Str).length = 2 := by decide +kernel
    rw [hz] at z
    unfold tupleText
    rw [Str.length_append, Str.length_append]
    have h1 : (("(" : String) : Str).length = 1 := by decide +kernel
    have h2 : (Str.ofString (if (PyData.shownAll (D.pys xs)).length == 1 then ",)" else ")")).length ≤ 2 := by split <;> decide +kernel
    omega
  | .kt xs, h => by
    simp only [D.py, PyData.shown, D.sz]
    have q := D.szs_shown xs h
    have z := join2_len ", " (PyData.shownAll (D.pys xs))
    have hz : ((", " : String) : Str).length = 2 := by decide +kernel
    rw [hz] at z
    unfold tupleText
    rw [Str.length_append, Str.length_append]
    have h1 : (("(" : String) : Str).length = 1 := by decide +kernel
    have h2 : (Str.ofString (if (PyData.shownAll (D.pys xs)).length == 1 then ",)" else ")")).length ≤ 2 := by split <;> decide +kernel
    omega
  | .lst xs, h => by
    simp only [D.py, PyData.shown, D.sz]
    have q := D.szs_shown xs h
    have z := listText_len_le (PyData.shownAll (D.pys xs))
    have e : ((PyData.shownAll (D.pys xs)).map fun t => t.length + 2).sum = ((PyData.shownAll (D.pys xs)).map (·.length)).sum + 2 * (PyData.shownAll (D.pys xs)).length := by
      generalize PyData.shownAll (D.pys xs) = l
      induction l with
      | nil => rfl
      | cons a l ih => simp only [List.map_cons, List.sum_cons, List.length_cons, ih]; omega
    omega
  | .dK _, h => by cases h
  | .dT _, h => by cases h
  | .fK _, h => by cases h
  | .fT _, h => by cases h
  | .fN _, h => by cases h
  | .exc _ _ _, h => by cases h
  | .exc0 _, h => by cases h
  | .raw _, h => by cases h
  | .scr _, h => by cases h
  | .fn _ _, h => by cases h
theorem D.szs_shown : ∀ ds : List D, D.okds ds = true → ((PyData.shownAll (D.pys ds)).map fun t => t.length + 2).sum ≤ D.szs ds
  | [], _ => by simp [D.pys, PyData.shownAll, D.szs]
  | d :: ds, h => by
    have h' : (d.okd && D.okds ds) = true := h
    rw [Bool.and_eq_true] at h'
    have a := D.sz_shown d h'.1
    have b := D.szs_shown ds h'.2
    simp only [D.pys, PyData.shownAll, List.map_cons, List.sum_cons, D.szs]
    omega
end
/-- small: may be compared and shown in n signs, not deeper than k -/
structure D.sm (k n : Nat) (d : D) : Prop where
  ok : d.okd = true
  sz : d.sz ≤ n
  dep : d.dep ≤ k
theorem D.sm.cm {k n : Nat} {d : D} (h : d.sm k n) (hk : k ≤ 64 := by decide) : d.cm := ⟨D.okd_lay d h.ok, Nat.le_trans h.dep hk⟩
theorem D.sm.sw {k n : Nat} {d : D} (h : d.sm k n) (hk : k ≤ 64 := by decide) (hn : n ≤ 2 ^ 24 := by decide) : d.sw := ⟨D.okd_lay d h.ok, Nat.le_trans h.dep hk, D.okd_sho d h.ok, Nat.le_trans (D.sz_shown d h.ok) (Nat.le_trans h.sz hn)⟩
theorem D.sm.mono {k n k' n' : Nat} {d : D} (h : d.sm k n) (hk : k ≤ k') (hn : n ≤ n') : d.sm k' n' := ⟨h.ok, Nat.le_trans h.sz hn, Nat.le_trans h.dep hk⟩
/-- each of them small -/
structure D.sms (k n : Nat) (ds : List D) : Prop where
  ok : D.okds ds = true
  sz : D.szs ds ≤ n
  dep : D.deps ds ≤ k
theorem D.sms.nil {k n : Nat} : D.sms k n [] := ⟨rfl, Nat.zero_le _, Nat.zero_le _⟩
theorem D.sms.cons {k n m : Nat} {d : D} {ds : List D} (h : d.sm k n) (hs : D.sms k m ds) : D.sms k (n + 2 + m) (d :: ds) :=
  ⟨by show (d.okd && D.okds ds) = true; rw [h.ok, hs.ok]; rfl, by have := h.sz; have := hs.sz; show d.sz + 2 + D.szs ds ≤ _; omega, Nat.max_le.mpr ⟨h.dep, hs.dep⟩⟩
theorem D.sms.all {k n m : Nat} : ∀ {ds : List D}, (∀ d ∈ ds, d.sm k n) → ds.length ≤ m → D.sms k ((n + 2) * m) ds
  | [], _, _ => .nil
  | d :: ds, h, hl => by
    cases m with
    | zero => simp at hl
    | succ m =>
      have q := D.sms.cons (h d List.mem_cons_self) (D.sms.all (m := m) (fun z hz => h z (List.mem_cons_of_mem _ hz)) (by simpa using hl))
      refine ⟨q.ok, Nat.le_trans q.sz ?_, q.dep⟩
      rw [Nat.mul_succ]; omega
theorem D.sms.mono {k n k' n' : Nat} {d : List D} (h : D.sms k n d) (hk : k ≤ k') (hn : n ≤ n') : D.sms k' n' d := ⟨h.ok, Nat.le_trans h.sz hn, Nat.le_trans h.dep hk⟩
theorem D.sm.tup {k n : Nat} {ds : List D} (h : D.sms k n ds) : (D.tup ds).sm (k + 1) (n + 5) := ⟨h.ok, by have := h.sz; show D.szs ds + 5 ≤ _; omega, by have := h.dep; show D.deps ds + 1 ≤ _; omega⟩
theorem D.sm.lst {k n : Nat} {ds : List D} (h : D.sms k n ds) : (D.lst ds).sm (k + 1) (n + 5) := ⟨h.ok, by have := h.sz; show D.szs ds + 5 ≤ _; omega, by have := h.dep; show D.deps ds + 1 ≤ _; omega⟩
theorem D.sm.int {k : Nat} {i : Int} (h : i.natAbs < 10 ^ 30) : (D.int i).sm k 31 := ⟨decide_eq_true h, Nat.le_refl _, Nat.zero_le _⟩
theorem D.sm.str {k n : Nat} {x : Str} (h : PyData.strOk x = true) (hn : x.length ≤ n) : (D.str x).sm k (10 * n + 2) := ⟨h, by show 10 * x.length + 2 ≤ _; omega, Nat.zero_le _⟩
theorem D.sm.non {k : Nat} : D.non.sm k 5 := ⟨rfl, Nat.le_refl _, Nat.zero_le _⟩
theorem D.sm.bl {k : Nat} {b : Bool} : (D.bl b).sm k 5 := ⟨rfl, Nat.le_refl _, Nat.zero_le _⟩
theorem strOk_lit (s : String) : PyData.strOk (Str.ofString s) = true := by
  rw [Str.ofString_eq_toList]
  unfold PyData.strOk
  rw [Array.all_eq_true']
  intro c hc
  simp at hc
  obtain ⟨ch, _, rfl⟩ := hc
  have := ch.valid
  rcases ch.valid with h | h
  · exact decide_eq_true (by have : ch.toNat = ch.val.toNat := rfl; omega)
  · exact decide_eq_true (by have : ch.toNat = ch.val.toNat := rfl; omega)
theorem strOk_append {a b : Str} (h1 : PyData.strOk a = true) (h2 : PyData.strOk b = true) : PyData.strOk (a ++ b) = true := by
  unfold PyData.strOk at *
  rw [Str.cps_append, Array.all_append, h1, h2]; rfl
theorem strOk_join {sep : Str} (h : PyData.strOk sep = true) : ∀ ts : List Str, (∀ t ∈ ts, PyData.strOk t = true) → PyData.strOk (Str.join sep ts) = true
  | [], _ => by simp [Str.join, PyData.strOk, Str.empty]
  | [x], hx => hx x List.mem_cons_self
  | x :: y :: r, hx => strOk_append (strOk_append (hx x List.mem_cons_self) h) (strOk_join h (y :: r) fun t ht => hx t (List.mem_cons_of_mem _ ht))
theorem toNat_inj : ∀ l m : List Char, l.map Char.toNat = m.map Char.toNat → l = m
  | [], [], _ => rfl
  | a :: l, b :: m, h => by
    simp only [List.map_cons, List.cons.injEq] at h
    have : a = b := Char.ext (UInt32.toNat.inj h.1)
    rw [this, toNat_inj l m h.2]
  | [], _ :: _, h => by simp at h
  | _ :: _, [], h => by simp at h
theorem lit_eq {a b : String} : (Str.ofString a = Str.ofString b) ↔ a = b := by
  constructor
  · intro h
    rw [Str.ofString_eq_toList, Str.ofString_eq_toList] at h
    have h1 := congrArg (fun s : Str => s.cps.toList) h
    simp only at h1
    have := toNat_inj _ _ h1
    exact String.toList_inj.mp this
  · intro h; rw [h]
theorem txt_join (sep : Str) (ts : List Str) : Txt.join sep ts = Str.join sep ts := StrLaws.glued_eq_join sep ts
theorem join_nil (sep : Str) : Str.join sep [] = Str.empty := rfl
theorem join_one (sep x : Str) : Str.join sep [x] = x := rfl
theorem join_two (sep x y : Str) (r : List Str) : Str.join sep (x :: y :: r) = x ++ sep ++ Str.join sep (y :: r) := rfl
theorem sqL_noT {H : Hp} {a : Addr} {xs : List V} (h : SqL K H a xs) : SqL K (Ev.noT H) a xs := by
  rcases h with (h | ⟨o, h⟩) | h
  · exact .inl (.inl (noT_pl h fun _ z => nomatch z))
  · exact .inl (.inr ⟨o, noT_pl h fun _ z => nomatch z⟩)
  · exact .inr h
/-- the law's own promise -/
theorem law_sp {sp : dSp} {H : Hp} {a : Addr} {ns : List Int} (h : ∀ ns : List Int, ns.length ≤ 63 → sp [.scr ns] none (fun x _ => x = .bl true) fun _ _ => False) (hl : ns.length ≤ 63) (hS : SqL K H a (ns.map V.int)) (hT : ∀ p ∈ TabC.tab, H p.1 = some (.tbl #[])) : spD K 1 sp [.ref a] H (fun v _ => v = .bl true) fun _ _ _ => False := by
  refine ⟨Ev.noT H, [.scr ns], none, _, _, Sb.start hT, trivial, .cons (.scr (sqL_noT hS)) .nil, rfl, h ns hl, fun x p' v S' H' e _ n => ?_, fun c p' cls od S' H' w _ _ => w⟩
  subst e
  cases n
  rfl
theorem atI_nn {α : Type} {xs : List α} {i : Int} (h : 0 ≤ i) : atI xs i = xs[i.toNat]? := by
  unfold atI ixN
  rw [if_pos h]
  by_cases h1 : i < (xs.length : Int)
  · rw [if_pos h1]; rfl
  · rw [if_neg h1, List.getElem?_eq_none (by omega)]; rfl
theorem atI_ofNat {α : Type} {xs : List α} {n : Nat} : atI xs (no_index (@OfNat.ofNat Int n instOfNat)) = xs[(@OfNat.ofNat Nat n (instOfNatNat n))]? := atI_nn (Int.natCast_nonneg n)
theorem atI_neg1 {α : Type} {xs : List α} : atI xs (-1) = xs[xs.length - 1]? := by
  unfold atI ixN
  rw [if_neg (by decide)]
  by_cases h1 : -(xs.length : Int) ≤ -1
  · rw [if_pos h1]
    show xs[(-1 + (xs.length : Int)).toNat]? = _
    congr 1; omega
  · rw [if_neg h1, List.getElem?_eq_none (by omega)]; rfl
theorem ixN_ofNat {m n : Nat} : ixN m (no_index (@OfNat.ofNat Int n instOfNat)) = if n < m then some n else none := by
  show (if (0 : Int) ≤ (n : Int) then (if (n : Int) < (m : Int) then some n else none) else _) = _
  rw [if_pos (Int.natCast_nonneg n)]
  by_cases h : n < m
  · rw [if_pos h, if_pos (show (n : Int) < (m : Int) by omega)]
  · rw [if_neg h, if_neg (show ¬((n : Int) < (m : Int)) by omega)]
theorem mul_bnd {a b A B : Int} (h1 : 0 ≤ a) (h2 : a ≤ A) (h3 : 0 ≤ b) (h4 : b ≤ B) : 0 ≤ a * b ∧ a * b ≤ A * B :=
  ⟨Int.mul_nonneg h1 h3, Int.mul_le_mul h2 h4 h3 (Int.le_trans h1 h2)⟩
/-- the cell that the k-th draw reads -/
theorem cell_at {ns : List Int} {k : Int} (h0 : (0 : Int) < ns.length) : ∃ c, atI (ns.map D.int) (k % ns.length) = some (.int c) := by
  have h1 := Int.emod_nonneg k (show (ns.length : Int) ≠ 0 by omega)
  have h2 := Int.emod_lt_of_pos k h0
  have h3 : (k % (ns.length : Int)).toNat < ns.length := by omega
  exact ⟨ns[(k % (ns.length : Int)).toNat], by rw [atI_nn h1, List.getElem?_map, List.getElem?_eq_getElem h3]; rfl⟩
theorem lays_ints : ∀ zs : List Int, D.lays (zs.map D.int) = true
  | [] => rfl
  | z :: zs => by show (true && D.lays (zs.map D.int)) = true; rw [lays_ints zs]; rfl
theorem deps_ints : ∀ zs : List Int, D.deps (zs.map D.int) = 0
  | [] => rfl
  | z :: zs => by show max 0 (D.deps (zs.map D.int)) = 0; rw [deps_ints zs]; rfl
theorem lays_map {α : Type} {f : α → D} : ∀ {l : List α}, (∀ a ∈ l, (f a).lay = true) → D.lays (l.map f) = true
  | [], _ => rfl
  | a :: l, h => by
    show ((f a).lay && D.lays (l.map f)) = true
    rw [h a List.mem_cons_self, lays_map fun b hb => h b (List.mem_cons_of_mem _ hb)]; rfl
theorem deps_map {α : Type} {f : α → D} {n : Nat} : ∀ {l : List α}, (∀ a ∈ l, (f a).dep ≤ n) → D.deps (l.map f) ≤ n
  | [], _ => Nat.zero_le _
  | a :: l, h => Nat.max_le.mpr ⟨h a List.mem_cons_self, deps_map fun b hb => h b (List.mem_cons_of_mem _ hb)⟩
theorem cut_to {α : Type} {xs : List α} {n : Nat} : Ev.cutD xs none (some (n : Int)) = xs.take n := by
  unfold Ev.cutD
  rw [HT.sIx_none, HT.sIx_nat]
  simp
theorem cut_from {α : Type} {xs : List α} {n : Nat} : Ev.cutD xs (some (n : Int)) none = xs.drop n := by
  unfold Ev.cutD
  rw [HT.sIx_none, HT.sIx_nat]
  by_cases h : n ≤ xs.length
  · rw [Nat.min_eq_left h, List.take_of_length_le (by simp)]
  · rw [Nat.min_eq_right (by omega), List.drop_of_length_le (l := xs) (i := n) (by omega), List.drop_of_length_le (l := xs) (i := xs.length) (by omega)]; simp
theorem cut_toN {α : Type} {xs : List α} {n : Nat} : Ev.cutD xs none (some (no_index (@OfNat.ofNat Int n instOfNat))) = xs.take n := cut_to
theorem cut_fromN {α : Type} {xs : List α} {n : Nat} : Ev.cutD xs (some (no_index (@OfNat.ofNat Int n instOfNat))) none = xs.drop n := cut_from
theorem kit_tab : kitB "NoneType" "bool" = some false ∧
  kitB "NoneType" "int" = some false ∧
  kitB "NoneType" "str" = some false ∧
  kitB "NoneType" "tuple" = some false ∧
  kitB "NoneType" "list" = some false ∧
  kitB "NoneType" "dict" = some false ∧
  kitB "bool" "bool" = some true ∧
  kitB "bool" "int" = some true ∧
  kitB "bool" "str" = some false ∧
  kitB "bool" "tuple" = some false ∧
  kitB "bool" "list" = some false ∧
  kitB "bool" "dict" = some false ∧
  kitB "int" "bool" = some false ∧
  kitB "int" "int" = some true ∧
  kitB "int" "str" = some false ∧
  kitB "int" "tuple" = some false ∧
  kitB "int" "list" = some false ∧
  kitB "int" "dict" = some false ∧
  kitB "str" "bool" = some false ∧
  kitB "str" "int" = some false ∧
  kitB "str" "str" = some true ∧
  kitB "str" "tuple" = some false ∧
  kitB "str" "list" = some false ∧
  kitB "str" "dict" = some false ∧
  kitB "tuple" "bool" = some false ∧
  kitB "tuple" "int" = some false ∧
  kitB "tuple" "str" = some false ∧
  kitB "tuple" "tuple" = some true ∧
  kitB "tuple" "list" = some false ∧
  kitB "tuple" "dict" = some false ∧
  kitB "list" "bool" = some false ∧
  kitB "list" "int" = some false ∧
  kitB "list" "str" = some false ∧
  kitB "list" "tuple" = some false ∧
  kitB "list" "list" = some true ∧
  kitB "list" "dict" = some false ∧
  kitB "dict" "bool" = some false ∧
  kitB "dict" "int" = some false ∧
  kitB "dict" "str" = some false ∧
  kitB "dict" "tuple" = some false ∧
  kitB "dict" "list" = some false ∧
  kitB "dict" "dict" = some true := by
  refine ⟨?_, ?_, ?_, ?_, ?_, ?_, ?_, ?_, ?_, ?_, ?_, ?_, ?_, ?_, ?_, ?_, ?_, ?_, ?_, ?_, ?_, ?_, ?_, ?_, ?_, ?_, ?_, ?_, ?_, ?_, ?_, ?_, ?_, ?_, ?_, ?_, ?_, ?_, ?_, ?_, ?_, ?_⟩ <;> decide +kernel
/-- a comprehension over what is ι a for each a of l, that makes f a of it, nothing else changed -/
theorem wLC_maps {α : Type} {g : dG} {tt : dT} {te : dE} {vs : List Nat} {Q : List D → DS → Prop} {δ0 : DS} {ι f : α → D} : ∀ {l : List α}, (∀ a ∈ l, ∀ acc (k : List D → DS → Prop), acc.length < sizeLine → k (acc ++ [f a]) δ0 → g (ι a) δ0 fun δ1 => tt W0 δ1 fun z δ2 => match z with
      | true => te W0 δ2 fun y δ3 => acc.length < sizeLine ∧ k (acc ++ [y]) (wipeD δ3 vs)
      | false => k acc (wipeD δ2 vs)) → l.length ≤ sizeLine → Q (l.map f) δ0 → wLC g tt te vs Q (l.map ι) [] δ0 := by
  intro l h hl h0
  have go : ∀ (r : List α) (acc : List D), (∀ a ∈ r, a ∈ l) → acc.length + r.length ≤ sizeLine → acc ++ r.map f = l.map f → wLC g tt te vs Q (r.map ι) acc δ0 := by
    intro r
    induction r with
    | nil => intro acc _ _ e; rw [List.map_nil, List.append_nil] at e; subst e; exact h0
    | cons a r ih =>
      intro acc hm hz e
      rw [List.length_cons] at hz
      exact h a (hm a List.mem_cons_self) acc (fun acc' δ' => wLC g tt te vs Q (r.map ι) acc' δ') (by omega) (ih (acc ++ [f a]) (fun b hb => hm b (List.mem_cons_of_mem _ hb)) (by simp; omega) (by rw [← e]; simp))
  exact go l [] (fun _ h => h) (by simpa using hl) rfl
theorem intsFrom_len {lo : Int} {n : Nat} : (Ev.intsFrom lo n).length = n := by simp [Ev.intsFrom]
def sgn (c : Nat) : Prop := c < 0x110000
theorem hex_sgn {n : Nat} : ∀ x ∈ (Nat.toDigits 16 n).map Char.toNat, sgn x := fun x h => by
  obtain ⟨ch, _, rfl⟩ := List.mem_map.mp h
  have e : ch.toNat = ch.val.toNat := rfl
  rcases ch.valid with h | h <;> (unfold sgn; omega)
theorem pad_sgn {w : Nat} {l : List Nat} (h : ∀ x ∈ l, sgn x) : ∀ x ∈ List.replicate (w - l.length) 48 ++ l, sgn x := fun x hx => by
  rcases List.mem_append.mp hx with hx | hx
  · rw [(List.mem_replicate.mp hx).2]; unfold sgn; omega
  · exact h x hx
theorem reprChar_sgn {q c : Nat} (hc : sgn c) : ∀ x ∈ Builtin.Str.reprChar q c, sgn x := by
  have two : ∀ {a b : Nat}, sgn a → sgn b → ∀ x ∈ [a, b], sgn x := fun ha hb x hx => by
    rcases List.mem_cons.mp hx with rfl | hx
    · exact ha
    · rw [List.mem_singleton] at hx; subst hx; exact hb
  have lit : ∀ n : Nat, n < 200 → sgn n := fun n h => by unfold sgn; omega
  have app : ∀ {l m : List Nat}, (∀ x ∈ l, sgn x) → (∀ x ∈ m, sgn x) → ∀ x ∈ l ++ m, sgn x := fun h1 h2 x hx => (List.mem_append.mp hx).elim (h1 x) (h2 x)
  unfold Builtin.Str.reprChar
  split
  · exact two (lit 92 (by decide)) hc
  split
  · exact two (lit 92 (by decide)) (lit _ (by decide))
  split
  · exact two (lit 92 (by decide)) (lit _ (by decide))
  split
  · exact two (lit 92 (by decide)) (lit _ (by decide))
  split
  · intro x hx; rw [List.mem_singleton] at hx; subst hx; exact hc
  split
  · exact app (two (lit _ (by decide)) (lit _ (by decide))) (pad_sgn hex_sgn)
  split
  · exact app (two (lit _ (by decide)) (lit _ (by decide))) (pad_sgn hex_sgn)
  · exact app (two (lit _ (by decide)) (lit _ (by decide))) (pad_sgn hex_sgn)
theorem strOk_iff {x : Str} : PyData.strOk x = true ↔ ∀ c ∈ x.cps, sgn c := by
  unfold PyData.strOk sgn
  rw [Array.all_eq_true']
  exact ⟨fun h c hc => of_decide_eq_true (h c hc), fun h c hc => decide_eq_true (h c hc)⟩
theorem strOk_repr {x : Str} (h : PyData.strOk x = true) : PyData.strOk (reprText x) = true := by
  rw [strOk_iff] at h ⊢
  have hq : sgn (reprQuote x) := by unfold reprQuote; split <;> (unfold sgn; omega)
  have go : ∀ (l : List Nat) (acc : Array Nat), (∀ c ∈ l, sgn c) → (∀ c ∈ acc, sgn c) → ∀ c ∈ l.foldl (fun out c => out ++ (Builtin.Str.reprChar (reprQuote x) c).toArray) acc, sgn c := by
    intro l
    induction l with
    | nil => intro acc _ h2; exact h2
    | cons a l ih =>
      intro acc h1 h2
      refine ih _ (fun c hc => h1 c (List.mem_cons_of_mem _ hc)) fun c hc => ?_
      rcases Array.mem_append.mp hc with hc | hc
      · exact h2 c hc
      · exact reprChar_sgn (h1 a List.mem_cons_self) c (by simpa using hc)
  intro c hc
  unfold reprText at hc
  rcases Array.mem_push.mp hc with hc | hc
  · rw [← Array.foldl_toList] at hc
    exact go x.cps.toList _ (fun c hc => h c (by simpa using hc)) (fun c hc => by
      have : c = reprQuote x := by simpa using hc
      rw [this]; exact hq) c hc
  · rw [hc]; exact hq
mutual
theorem D.okd_rep : ∀ d : D, d.okd = true → PyData.strOk d.py.shown = true
  | .non, _ => by simp only [D.py, PyData.shown]; exact strOk_lit _
  | .bl b, _ => by simp only [D.py, PyData.shown]; split <;> exact strOk_lit _
  | .int i, _ => by simp only [D.py, PyData.shown]; exact strOk_lit _
  | .str x, h => by simp only [D.py, PyData.shown]; exact strOk_repr h
  | .tup xs, h => by
    simp only [D.py, PyData.shown]
    unfold tupleText
    exact strOk_append (strOk_append (strOk_lit _) (strOk_join (strOk_lit _) _ (D.okds_rep xs h))) (strOk_lit _)
  | .kt xs, h => by
    simp only [D.py, PyData.shown]
    unfold tupleText
    exact strOk_append (strOk_append (strOk_lit _) (strOk_join (strOk_lit _) _ (D.okds_rep xs h))) (strOk_lit _)
  | .lst xs, h => by
    simp only [D.py, PyData.shown]
    rw [listText_eq_join]
    exact strOk_append (strOk_append (strOk_lit _) (strOk_join (strOk_lit _) _ (D.okds_rep xs h))) (strOk_lit _)
  | .dK _, h => by cases h
  | .dT _, h => by cases h
  | .fK _, h => by cases h
  | .fT _, h => by cases h
  | .fN _, h => by cases h
  | .exc _ _ _, h => by cases h
  | .exc0 _, h => by cases h
  | .raw _, h => by cases h
  | .scr _, h => by cases h
  | .fn _ _, h => by cases h
theorem D.okds_rep : ∀ ds : List D, D.okds ds = true → ∀ t ∈ PyData.shownAll (D.pys ds), PyData.strOk t = true
  | [], _ => by simp [D.pys, PyData.shownAll]
  | d :: ds, h => by
    have h' : (d.okd && D.okds ds) = true := h
    rw [Bool.and_eq_true] at h'
    intro t ht
    simp only [D.pys, PyData.shownAll, List.mem_cons] at ht
    rcases ht with rfl | ht
    · exact D.okd_rep d h'.1
    · exact D.okds_rep ds h'.2 t ht
end
theorem D.sm.rep {k n : Nat} {d : D} (h : d.sm k n) : PyData.strOk d.rep = true := D.okd_rep d h.ok
theorem eqs_nil {ds : List D} : D.eqs ds [] = decide (ds = []) := by
  cases ds <;> simp [D.eqs]
theorem lst_nil {ds : List D} : D.eq (.lst ds) (.lst []) = decide (ds = []) := by rw [eq_lst, eqs_nil]
theorem tup_nil {ds : List D} : D.eq (.tup ds) (.tup []) = decide (ds = []) := by rw [eq_tup, eqs_nil]
end Ev
namespace Ev
open PySem PySem.Spec PyProof.Rows L2
variable [TabC]
variable {K : PySem.W.Frag} {S S' H H' : Hp} {B : Bs} {δ : DS} {σ : L2.St}
section
variable {prog : Program} {w : World} {A : Around} {E : Value → Shared → Prop} {s : Shared} {β : Type} {R : Value → β → Prop} {enc : β → PyData} {vs : List Value} {bs : List β}
/-- what is walked by a source's own iterator, collected: the heap is not smaller behind -/
theorem collect_src {T : String} {r d : Addr} {n : Nat} {P : Nat → Value → Prop} {OK : Heap → Prop} {C : List Value → Shared → Prop} (KS : PySem.W.KdlSrc prog w T r d n P OK) (hh : A.handled = none) (ok : OK s.heap) (hn : n ≤ sizeLine)
    (h : ∀ (h' : Heap) (tk : Nat) (acc : Array Value), (∀ b o, s.heap.get? b = some o → h'.get? b = some o) → s.heap.objs.size ≤ h'.objs.size → ItemsOf P acc n → C acc.toList { s with heap := h', toks := tk }) : wpAny (model prog w) A (collect (.ref r)) C E s := by
  have lt := KS.there _ ok
  unfold collect
  refine wpAny_bind (wpAny_runValue (codeAny_builtin PyProof.Rows.entry_proto_collect' ?_)); rw [Around.under_plainId PySem.F.plain_proto_collect _]
  show wpAny _ A.in1 (newList [] >>= fun z => again (.builtin "list.__iadd__" ⟨[z, .ref r], []⟩)) _ _ s
  refine wpAny_bind (wpAny_newObj_type (wpAny_pure ⟨plainId_quiet PySem.F.plain_list_iadd _, codeAny_builtin PyProof.Rows.entry_list_iadd' ?_⟩)); rw [Around.under_plainId PySem.F.plain_list_iadd _]
  have new : (s.heap.push { cls := .type "list", data := .seq ([] : List Value).toArray }).get? s.heap.objs.size = some { cls := .type "list", data := .seq #[] } := Heap.get?_push_size _ rfl
  have key := PySem.W.kdl_extend (prog := prog) (w := w) (A := A) (s := { s with heap := s.heap.push { cls := .type "list", data := .seq ([] : List Value).toArray } })
    (R := fun (q : Result) (s' : Shared) => ∃ (h' : Heap) (tk : Nat) (acc : Array Value) (c : Nat), q = .ok (.ret (.ref s.heap.objs.size)) ∧ s' = { s with heap := h', toks := tk } ∧ (∀ b o, s.heap.get? b = some o → h'.get? b = some o) ∧
      h'.get? s.heap.objs.size = some { cls := .type "list", dict := none, data := .seq acc c, slots := #[] } ∧ ItemsOf P acc n)
    KS hh (KS.keep _ _ ok fun b _ o z => Heap.get?_push_of_some _ z) s.heap.objs.size (Nat.ne_of_gt lt.1) (Nat.ne_of_gt lt.2) (.ref s.heap.objs.size) 0 new
    (fun h' tk acc c k at_ it => ⟨h', tk, acc, c, rfl, rfl, fun b o z => k b o (Nat.ne_of_lt (Heap.lt_size z)) (Heap.get?_push_of_some _ z), at_, it⟩) hn
  have fin : ∀ (q : Result) (s' : Shared), (∃ (h' : Heap) (tk : Nat) (acc : Array Value) (c : Nat), q = .ok (.ret (.ref s.heap.objs.size)) ∧ s' = { s with heap := h', toks := tk } ∧ (∀ b o, s.heap.get? b = some o → h'.get? b = some o) ∧
      h'.get? s.heap.objs.size = some { cls := .type "list", dict := none, data := .seq acc c, slots := #[] } ∧ ItemsOf P acc n) → ∃ u, q = .ok (.ret u) ∧ wpAny (model prog w) A (match u with
      | .ref a => do match (← load a).data with
          | .seq xs _ => pure xs.toList
          | _ => unsupported "internal:collect"
      | _ => unsupported "internal:collect") C E s' := by
    rintro q s' ⟨h', tk, acc, c, rfl, rfl, k, at_, it⟩
    refine ⟨_, rfl, ?_⟩
    show wpAny _ A (load s.heap.objs.size >>= _) _ _ _
    exact wpAny_bind (wpAny_load at_ (wpAny_pure (h h' tk acc k (Nat.le_of_lt (Heap.lt_size at_)) it)))
  refine wpAny_mono key (fun g s' x => ?_) fun e s' x => ?_
  · match g, x with
    | .done f, x =>
      obtain ⟨u, e, q⟩ := fin _ _ x
      cases e
      exact q
    | .again c1, x =>
      refine ⟨x.1, codeAny_mono x.2 fun q s2 y => ?_⟩
      obtain ⟨u, rfl, z⟩ := fin _ _ y
      exact z
  · obtain ⟨u, e, _⟩ := fin _ _ x
    cases e
theorem sorted_col {v : Value} {Q : Value → Shared → Prop} (hcol : ∀ (C : List Value → Shared → Prop) (E' : Value → Shared → Prop), (∀ h' tk, (∀ b o, s.heap.get? b = some o → h'.get? b = some o) → s.heap.objs.size ≤ h'.objs.size → C vs { s with heap := h', toks := tk }) → wpAny (model prog w) A.in1 (collect v) C E' s)
    (e : PySem.W.EachIs R vs bs) (er : PySem.W.EachIs (fun v b => ∃ as, Reads s.heap v (enc b) as) vs bs) (hal : PySem.W.AllAlike (bs.map enc)) (hk : PySem.W.Sortable (bs.map enc)) (hL : bs.length ≤ sizeLine) (hu : ∀ b, b ∈ bs → A.units + 2 + (enc b).depth < cLine)
    (h : ∀ (h' : Heap) (tk : Nat) (d : Addr) (n : Nat) (out : List Value), out.length = bs.length → PySem.W.EachIs R out (bs.mergeSort (PySem.W.dataLe false enc)) → (∀ b o, s.heap.get? b = some o → h'.get? b = some o) → s.heap.objs.size ≤ d → h'.get? d = some (seqObj "list" out.toArray n) → Q (.ref d) { s with heap := h', toks := tk }) :
    wpAny (model prog w) A (call (.builtin "sorted") [v]) Q E s := by
  have hz : vs.length ≤ sizeLine := by rw [e.length]; exact hL
  refine PySem.Calls.call_function_entry kind_sorted plain_sorted entry_sorted (args_sorted1 _) ?_
  unfold Builtin.«sorted»
  refine wpAny_bind (m := checkCount "sorted" 1 1 _) (wpAny_pure ?_)
  refine wpAny_bind (hcol _ _ fun h1 tk k1 hs => ?_)
  refine wpAny_bind (wpAny_newList ?_ hz)
  have ho : (h1.push (seqObj "list" vs.toArray 0)).get? h1.objs.size = some (seqObj "list" vs.toArray 0) := Heap.get?_push_size _ rfl
  have k2 : ∀ b o, s.heap.get? b = some o → (h1.push (seqObj "list" vs.toArray 0)).get? b = some o := fun b o q => Heap.get?_push_of_some _ (k1 b o q)
  have ne : ∀ b o, s.heap.get? b = some o → b ≠ h1.objs.size := fun b o q => Nat.ne_of_lt (Heap.lt_size (k1 b o q))
  have er' : PySem.W.EachIs (fun v b => ∃ as, Reads (PySem.W.sortingHeap (h1.push (seqObj "list" vs.toArray 0)) h1.objs.size vs) v (enc b) as) vs bs := er.mono fun _ _ ⟨as, r⟩ => ⟨as, PyProof.Rows.Reads.keeps (fun b o q => PySem.W.sortingHeap_old (ne b o q) (k2 b o q)) r⟩
  refine wpAny_bind (wpAny_holding (wpAny_call_entry slot_list_sort ⟨_, ho, rfl⟩ entry_list_sort ?body (args_list_sort _)))
  case body =>
    refine PySem.W.list_sort_vals (κ := PySem.W.dataKind (PySem.W.sortingHeap (h1.push (seqObj "list" vs.toArray 0)) h1.objs.size vs) (bs.map enc)) (s := { s with heap := h1.push (seqObj "list" vs.toArray 0), toks := tk }) ho
      (PySem.W.SortsAt.data (s := { s with heap := PySem.W.sortingHeap (h1.push (seqObj "list" vs.toArray 0)) h1.objs.size vs, toks := tk }) (PySem.W.each_map (R := fun v d => ∃ as, Reads (PySem.W.sortingHeap (h1.push (seqObj "list" vs.toArray 0)) h1.objs.size vs) v d as) enc er') hal hk (PySem.W.bound_map hu)) hz ⟨_, rfl, ?_⟩
    refine wpAny_pure ⟨_, rfl, ?_⟩
    obtain ⟨n, at_⟩ := sortedHeap_at (out := (PySem.W.sortVals (PySem.W.dataKind (PySem.W.sortingHeap (h1.push (seqObj "list" vs.toArray 0)) h1.objs.size vs) (bs.map enc)) false vs vs).toArray) ho
    exact h _ _ _ n _ (by rw [PySem.W.sortVals_length false rfl]; exact e.length) (PySem.W.sortVals_data false e er' hal) (fun b o q => (sortedHeap_old (ne b o q) (Heap.lt_size (k2 b o q))).trans (k2 b o q)) hs at_
/-- a list's, a tuple's items, collected -/
theorem collect_seqS {T : String} {a : Addr} {o : Obj} {n : Nat} {C : List Value → Shared → Prop} (hT : T = "list" ∨ T = "tuple") (ho : s.heap.get? a = some o) (hc : o.cls = .type T) (hd : o.data = .seq vs.toArray n) (hz : vs.length ≤ sizeLine)
    (h : ∀ (h' : Heap) (tk : Nat), (∀ b o, s.heap.get? b = some o → h'.get? b = some o) → s.heap.objs.size ≤ h'.objs.size → C vs { s with heap := h', toks := tk }) : wpAny (model prog w) A (collect (.ref a)) C E s := by
  unfold collect
  refine wpAny_bind (wpAny_runValue (codeAny_builtin PyProof.Rows.entry_proto_collect' ?_)); rw [Around.under_plainId PySem.F.plain_proto_collect _]
  show wpAny _ A.in1 (newList [] >>= fun z => again (.builtin "list.__iadd__" ⟨[z, .ref a], []⟩)) _ _ s
  refine wpAny_bind (wpAny_newObj_type (wpAny_pure ⟨plainId_quiet PySem.F.plain_list_iadd _, codeAny_builtin PyProof.Rows.entry_list_iadd' ?_⟩)); rw [Around.under_plainId PySem.F.plain_list_iadd _]
  have new : (s.heap.push { cls := .type "list", data := .seq ([] : List Value).toArray }).get? s.heap.objs.size = some { cls := .type "list", data := .seq #[] 0 } := Heap.get?_push_size _ rfl
  have at_ := Heap.get?_update_self (Obj.mapSeq (· ++ vs.toArray)) new rfl
  have key := wpAny_extend_seq (prog := prog) (w := w) (hsz := by rw [List.size_toArray]; exact hz) (A := A) (s := { s with heap := s.heap.push { cls := .type "list", data := .seq ([] : List Value).toArray } })
    (R := fun (q : Result) (s' : Shared) => q = .ok (.ret (.ref s.heap.objs.size)) ∧ s' = { s with heap := (s.heap.push { cls := .type "list", data := .seq ([] : List Value).toArray }).update s.heap.objs.size (Obj.mapSeq (· ++ vs.toArray)) })
    s.heap.objs.size a (.ref s.heap.objs.size) 0 hT new (Heap.get?_push_of_some _ ho) hc hd ⟨rfl, rfl⟩
  have fin : ∀ (q : Result) (s' : Shared), (q = .ok (.ret (.ref s.heap.objs.size)) ∧ s' = { s with heap := (s.heap.push { cls := .type "list", data := .seq ([] : List Value).toArray }).update s.heap.objs.size (Obj.mapSeq (· ++ vs.toArray)) }) →
      ∃ u, q = .ok (.ret u) ∧ wpAny (model prog w) A (match u with
      | .ref a => do match (← load a).data with
          | .seq xs _ => pure xs.toList
          | _ => unsupported "internal:collect"
      | _ => unsupported "internal:collect") C E s' := by
    rintro q s' ⟨rfl, rfl⟩
    refine ⟨_, rfl, ?_⟩
    show wpAny _ A (load s.heap.objs.size >>= _) _ _ _
    refine wpAny_bind (wpAny_load at_ (wpAny_pure ?_))
    show C ((#[] : Array Value) ++ vs.toArray).toList _
    rw [show ((#[] : Array Value) ++ vs.toArray).toList = vs by simp]
    exact h _ s.toks (fun b o' z => (Heap.get?_update_other _ _ (Nat.ne_of_gt (Heap.lt_size z))).trans (Heap.get?_push_of_some _ z)) (Nat.le_of_lt (Heap.lt_size at_))
  refine wpAny_mono key (fun g s' x => ?_) fun e s' x => ?_
  · match g, x with
    | .done f, x =>
      obtain ⟨u, e, q⟩ := fin _ _ x
      cases e
      exact q
    | .again c1, x =>
      refine ⟨x.1, codeAny_mono x.2 fun q s2 y => ?_⟩
      obtain ⟨u, rfl, z⟩ := fin _ _ y
      exact z
  · obtain ⟨u, e, _⟩ := fin _ _ x
    cases e
end
/-- may be sorted: every two of one form, tuples that are not empty, or no tuple and no None -/
def srtOk (ds : List D) : Prop := D.lays ds = true ∧ (∀ d ∈ ds, d.dep ≤ 64) ∧ PySem.W.AllAlike (ds.map D.py) ∧ PySem.W.Sortable (ds.map D.py) ∧ ds.length ≤ sizeLine
def sortD (ds : List D) : List D := ds.mergeSort (PySem.W.dataLe false D.py)
section
variable {X : Cx} {pins : List (Addr × Obj)} {s : Shared}
theorem each_dn {S : Hp} : ∀ {vs : List V} {us : List Value} {ds : List D}, Vals vs us → DnA K S vs ds → PySem.W.EachIs (fun u d => ∃ v, RelV v u ∧ Dn K S v d) us ds
  | [], _, _, r, .nil => by rw [r.zero]; exact .nil
  | v :: vs, us, _, r, .cons h t => by
    cases r with
    | cons r1 r2 => exact .cons ⟨v, r1, h⟩ (each_dn r2 t)
theorem dn_each {S : Hp} : ∀ {us : List Value} {ds : List D}, PySem.W.EachIs (fun u d => ∃ v, RelV v u ∧ Dn K S v d) us ds → ∃ vs, Vals vs us ∧ DnA K S vs ds
  | _, _, .nil => ⟨[], .nil, .nil⟩
  | _, _, .cons ⟨v, r, h⟩ t => by
    obtain ⟨vs, r2, a⟩ := dn_each t
    exact ⟨v :: vs, .cons r r2, .cons h a⟩
theorem each_reads (I : Inv X pins σ H s) (ex : Ex S H) : ∀ {vs : List V} {us : List Value} {ds : List D}, Vals vs us → DnA X.K S vs ds → D.lays ds = true → PySem.W.EachIs (fun u d => ∃ as, Reads s.heap u d.py as) us ds
  | [], _, _, r, .nil, _ => by rw [r.zero]; exact .nil
  | v :: vs, us, d :: ds, r, .cons h t, l => by
    have h' : (d.lay && D.lays ds) = true := l
    rw [Bool.and_eq_true] at h'
    cases r with
    | cons r1 r2 => exact .cons (Dp.reads I _ _ _ ((h.mono ex).dp h'.1) r1) (each_reads I ex r2 t h'.2)
/-- the end of every sorted -/
theorem sorted_end (I : Inv X pins σ H s) (hu : X.A.units + 66 < cLine) (ex : Ex S H) {v : Value} {us : List Value} {vs : List V} {ds : List D} {Q : VK} (r : Vals vs us) (a : DnA X.K S vs ds) (ok : srtOk ds)
    (hcol : ∀ (C : List Value → Shared → Prop) (E' : Value → Shared → Prop), (∀ h' tk, (∀ b o, s.heap.get? b = some o → h'.get? b = some o) → s.heap.objs.size ≤ h'.objs.size → C us { s with heap := h', toks := tk }) → wpAny (model X.prog X.w) X.A.in1 (collect v) C E' s)
    (q : ∀ ws p, H p = none → DnA X.K S ws (sortD ds) → Q (.ref p) (upd H p (.lst ws))) : wpAny (model X.prog X.w) X.A (call (.builtin "sorted") [v]) (EP X pins σ Q) X.xe s := by
  obtain ⟨l, dp, al, so, hz⟩ := ok
  refine sorted_col (R := fun u d => ∃ v, RelV v u ∧ Dn X.K S v d) (enc := D.py) hcol (each_dn r a) (each_reads I ex r a l) al so hz (fun d hd => ?_) fun h' tk d n out hl eo kp sz at_ => ?_
  · rw [D.py_dep]; have := dp d hd; omega
  · obtain ⟨ws, rw_, aw⟩ := dn_each eo
    exact ⟨.ref d, upd H d (.lst ws), I.laid (t' := tk) kp sz ⟨by rw [rw_.length, hl]; exact hz, out, n, rw_, at_⟩, rfl, q ws d (I.hok.fresh sz) aw⟩
def rSrt : DRF := fun xs Q => match xs with | [.lst ds] => srtOk ds ∧ Q (sortD ds) | [.tup ds] => srtOk ds ∧ Q (sortD ds) | _ => False
theorem cd_sorted (hu : X.A.units + 66 < cLine) : CallR X (.builtin "sorted") (liftCF X.K rSrt) := fun pins s σ H vs us Q I r ⟨S, ds, Q', ex, n, q, post⟩ => by
  match ds, n, q with
  | [.lst ds], n, q =>
    obtain ⟨v, rfl, n1⟩ := n.one
    obtain ⟨u, rfl, ru⟩ := vals1 r
    cases n1 with
    | lst h a =>
      obtain rfl : u = Value.ref _ := ru
      obtain ⟨its, rv, hl, hz⟩ := I.list (SqL.of (ex _ _ h))
      obtain ⟨o, ho, hc, m, hd⟩ := hl.isList
      exact sorted_end I hu ex rv a q.1 (fun C E' hC => collect_seqS (.inl rfl) ho hc hd (by rw [← rv.length]; exact hz) hC) fun ws p hp aw => post _ _ _ q.2 hp aw
  | [.tup ds], n, q =>
    obtain ⟨v, rfl, n1⟩ := n.one
    obtain ⟨u, rfl, ru⟩ := vals1 r
    cases n1 with
    | tup h a =>
      obtain rfl : u = Value.ref _ := ru
      obtain ⟨hz, its, rv, o, ho, hc, m, hd⟩ := I.hok _ _ (ex _ _ h)
      exact sorted_end I hu ex rv a q.1 (fun C E' hC => collect_seqS (.inr rfl) ho hc hd (by rw [← rv.length]; exact hz) hC) fun ws p hp aw => post _ _ _ q.2 hp aw
end
end Ev
namespace Ev
open PySem PySem.Spec PyProof.Rows L2
variable [TabC]
variable {K : PySem.W.Frag} {S S' H H' : Hp} {B : Bs} {δ : DS} {σ : L2.St}
section
variable {κ : Type} [DecidableEq κ]
def valD (es : List (κ × D)) (k : κ) : Option D := (es.find? fun e => decide (e.1 = k)).map (·.2)
def putD (es : List (κ × D)) (k : κ) (d : D) : List (κ × D) := if (es.any fun e => decide (e.1 = k)) = true then es.map (fun e => if e.1 = k then (e.1, d) else e) else es ++ [(k, d)]
def KvR (K : PySem.W.Frag) (S : Hp) (kvs : List (κ × V)) (es : List (κ × D)) : Prop := kvs.map (·.1) = es.map (·.1) ∧ DnA K S (kvs.map (·.2)) (es.map (·.2))
theorem KvR.mono {kvs : List (κ × V)} {es : List (κ × D)} (h : KvR K S kvs es) (e : Ex S S') : KvR K S' kvs es := ⟨h.1, h.2.mono e⟩
theorem KvR.get {k : κ} : ∀ {kvs : List (κ × V)} {es : List (κ × D)}, KvR K S kvs es → (valV kvs k = none ∧ valD es k = none) ∨ ∃ v d, valV kvs k = some v ∧ valD es k = some d ∧ Dn K S v d
  | [], [], _ => .inl ⟨rfl, rfl⟩
  | [], _ :: _, h => by cases h.1
  | _ :: _, [], h => by cases h.1
  | (a, v) :: kvs, (b, d) :: es, h => by
    obtain ⟨h1, h2⟩ := h
    simp only [List.map_cons, List.cons.injEq] at h1
    simp only [List.map_cons] at h2
    cases h2 with
    | cons h2 h3 =>
      obtain ⟨rfl, h1⟩ := h1
      by_cases e : a = k
      · exact .inr ⟨v, d, by simp [valV, e], by simp [valD, e], h2⟩
      · rcases KvR.get (k := k) ⟨h1, h3⟩ with ⟨q1, q2⟩ | ⟨v', d', q1, q2, q3⟩
        · exact .inl ⟨by simpa [valV, e] using q1, by simpa [valD, e] using q2⟩
        · exact .inr ⟨v', d', by simpa [valV, e] using q1, by simpa [valD, e] using q2, q3⟩
theorem KvR.any {kvs : List (κ × V)} {es : List (κ × D)} (h : KvR K S kvs es) (k : κ) : (kvs.any fun e => decide (e.1 = k)) = es.any fun e => decide (e.1 = k) := by
  have e1 : (kvs.any fun e => decide (e.1 = k)) = (kvs.map (·.1)).any fun e => decide (e = k) := by rw [List.any_map]; rfl
  have e2 : (es.any fun e => decide (e.1 = k)) = (es.map (·.1)).any fun e => decide (e = k) := by rw [List.any_map]; rfl
  rw [e1, e2, h.1]
theorem KvR.map {v : V} {d : D} (dn : Dn K S v d) (k : κ) : ∀ {kvs : List (κ × V)} {es : List (κ × D)}, KvR K S kvs es → KvR K S (kvs.map fun e => if e.1 = k then (e.1, v) else e) (es.map fun e => if e.1 = k then (e.1, d) else e)
  | [], [], _ => ⟨rfl, .nil⟩
  | [], _ :: _, h => by cases h.1
  | _ :: _, [], h => by cases h.1
  | (a, x) :: kvs, (b, y) :: es, h => by
    obtain ⟨h1, h2⟩ := h
    simp only [List.map_cons, List.cons.injEq] at h1
    simp only [List.map_cons] at h2
    cases h2 with
    | cons h2 h3 =>
      obtain ⟨rfl, h1⟩ := h1
      have ih := KvR.map dn k (kvs := kvs) (es := es) ⟨h1, h3⟩
      by_cases e : a = k
      · simp only [List.map_cons, e, if_true]
        exact ⟨by simp only [List.map_cons]; exact congrArg _ ih.1, .cons dn ih.2⟩
      · simp only [List.map_cons, e, if_false]
        exact ⟨by simp only [List.map_cons]; exact congrArg _ ih.1, .cons h2 ih.2⟩
theorem KvR.put {v : V} {d : D} {kvs : List (κ × V)} {es : List (κ × D)} (h : KvR K S kvs es) (dn : Dn K S v d) (k : κ) : KvR K S (putK kvs k v) (putD es k d) := by
  unfold putK putD
  rw [h.any k]
  split
  · exact h.map dn k
  · exact ⟨by rw [List.map_append, List.map_append, h.1]; rfl, by rw [List.map_append, List.map_append]; exact h.2.append (.cons dn .nil)⟩
end
def D.key : D → Option Key
  | .int i => some (.inl i)
  | .str x => some (.inr x)
  | _ => none
def keysOf : List D → Option (List Key)
  | [] => some []
  | d :: ds => match d.key, keysOf ds with
    | some k, some ks => some (k :: ks)
    | _, _ => none
def D.keyT : D → Option (List Key)
  | .tup ds => keysOf ds
  | _ => none
def kD : Key → D
  | .inl i => .int i
  | .inr x => .str x
theorem Dn.key {v : V} {d : D} {k : Key} (h : Dn K S v d) (e : d.key = some k) : v = kV k := by
  cases h <;> first | (cases e; rfl) | cases e
theorem DnA.keys : ∀ {vs : List V} {ds : List D} {ks : List Key}, DnA K S vs ds → keysOf ds = some ks → vs = ks.map kV
  | [], _, _, .nil, e => by cases e; rfl
  | v :: vs, d :: ds, ks, .cons h a, e => by
    unfold keysOf at e
    split at e
    · rename_i k ks' e1 e2
      cases e
      rw [h.key e1, a.keys e2]; rfl
    · cases e
theorem Dn.keyT {v : V} {d : D} {ks : List Key} (h : Dn K S v d) (e : d.keyT = some ks) : ∃ b, v = .ref b ∧ S b = some (.tup (ks.map kV)) := by
  cases h with
  | tup h1 h2 =>
    have := h2.keys e
    subst this
    exact ⟨_, rfl, h1⟩
  | _ => cases e
theorem Dn.kd (k : Key) : Dn K S (kV k) (kD k) := by cases k <;> constructor
theorem DnA.kds : ∀ ks : List Key, DnA K S (ks.map kV) (ks.map kD)
  | [] => .nil
  | k :: ks => .cons (.kd k) (DnA.kds ks)
section
variable {X : Cx} {E : EK} {e a b c : Expr} {es : List Expr} {pos p ap cp : Pos} {da db : dE} {x : Str}
/-- name = {}: keys tuples; keys numbers and texts -/
def dNewDT (i : Nat) : dS := fun _ N δ => N.nx (setSl δ i (.ownT []))
def dNewDK (i : Nat) : dS := fun _ N δ => N.nx (setSl δ i (.ownK []))
theorem ds_newT {i : Nat} {x : Str} {pos' p2 : Pos} (hN : X.N.Nodup) (hi : X.N[i]? = some x) (hx : Loc X.env.scope x) (hs : swapsWith (.Dict [] [] p2) (some (.Name x pos')) pos.line X.env = pure false := by rfl) (hf : X.fn x = true ∨ X.env.scope.names.lookup x = some .local := by first | exact .inl rfl | exact .inr rfl | assumption) :
    DSt X E (.Assign [.Name x pos'] (.Dict [] [] p2) pos) (dNewDT i) := ⟨fun B => ps_mono (ps_set hN hi hx pe_dnewT hs hf) fun Z σ H q => by
  obtain ⟨δ, S, W, N, R, q, xo, h1, _⟩ := q
  exact fun p hp => h1 _ _ _ _ q (Ex.refl _) (R.setNew hp (fun vs z => HO.noConfusion z) fun H1 e1 a b => ⟨p, [], rfl, a, b, rfl, e1, rfl, .nil⟩)⟩
theorem ds_newK {i : Nat} {x : Str} {pos' p2 : Pos} (hN : X.N.Nodup) (hi : X.N[i]? = some x) (hx : Loc X.env.scope x) (hs : swapsWith (.Dict [] [] p2) (some (.Name x pos')) pos.line X.env = pure false := by rfl) (hf : X.fn x = true ∨ X.env.scope.names.lookup x = some .local := by first | exact .inl rfl | exact .inr rfl | assumption) :
    DSt X E (.Assign [.Name x pos'] (.Dict [] [] p2) pos) (dNewDK i) := ⟨fun B => ps_mono (ps_set hN hi hx pe_dnewK hs hf) fun Z σ H q => by
  obtain ⟨δ, S, W, N, R, q, xo, h1, _⟩ := q
  exact fun p hp => h1 _ _ _ _ q (Ex.refl _) (R.setNew hp (fun vs z => HO.noConfusion z) fun H1 e1 a b => ⟨p, [], rfl, a, b, rfl, e1, rfl, .nil⟩)⟩
/-- what the dict in slot i holds at y -/
def dictGet (δ : DS) (i : Nat) (y : D) : Option (Option D) := match δ.sl[i]? with
  | some (.ownT es) => y.keyT.map (valD es)
  | some (.ownK es) => y.key.map (valD es)
  | some (.dat (.dT es)) => y.keyT.map (valD es)
  | some (.dat (.dK es)) => y.key.map (valD es)
  | _ => none
theorem Rel.dget (R : Rel K B δ S σ H) {i : Nat} {y : D} {u : V} {r : Option D} (n : Dn K S u y) (h : dictGet δ i y = some r) : ∃ a o, σ[i]? = some (some (.ref a)) ∧ DGet H a u o ∧ ((o = none ∧ r = none) ∨ ∃ v d, o = some v ∧ r = some d ∧ Dn K S v d) := by
  have fk : ∀ {a : Addr} {kvs : List (Key × V)} {es : List (Key × D)}, σ[i]? = some (some (.ref a)) → H a = some (.dK kvs) → KvR K S kvs es → y.key.map (valD es) = some r → ∃ a o, σ[i]? = some (some (.ref a)) ∧ DGet H a u o ∧ ((o = none ∧ r = none) ∨ ∃ v d, o = some v ∧ r = some d ∧ Dn K S v d) := by
    intro a kvs es h1 h2 h3 h4
    cases hk : y.key with
    | none => rw [hk] at h4; cases h4
    | some k =>
      rw [hk] at h4
      cases h4
      rw [n.key hk]
      refine ⟨a, _, h1, DGet.k h2, ?_⟩
      rcases h3.get (k := k) with ⟨q1, q2⟩ | ⟨v, d, q1, q2, q3⟩
      · exact .inl ⟨q1, q2⟩
      · exact .inr ⟨v, d, q1, q2, q3⟩
  have ft : ∀ {a : Addr} {kvs : List (List Key × V)} {es : List (List Key × D)}, σ[i]? = some (some (.ref a)) → H a = some (.dT kvs) → KvR K S kvs es → y.keyT.map (valD es) = some r → ∃ a o, σ[i]? = some (some (.ref a)) ∧ DGet H a u o ∧ ((o = none ∧ r = none) ∨ ∃ v d, o = some v ∧ r = some d ∧ Dn K S v d) := by
    intro a kvs es h1 h2 h3 h4
    cases hk : y.keyT with
    | none => rw [hk] at h4; cases h4
    | some k =>
      rw [hk] at h4
      cases h4
      obtain ⟨b, rfl, hb⟩ := n.keyT hk
      refine ⟨a, _, h1, DGet.t h2 (R.ex _ _ hb), ?_⟩
      rcases h3.get (k := k) with ⟨q1, q2⟩ | ⟨v, d, q1, q2, q3⟩
      · exact .inl ⟨q1, q2⟩
      · exact .inr ⟨v, d, q1, q2, q3⟩
  obtain ⟨ow, h1, _⟩ := R.sl
  unfold dictGet at h
  split at h
  · rename_i es hs
    obtain ⟨a, kvs, r1, r2, r3, r4, r5, r6, r7⟩ := h1 i _ hs
    exact ft r4 r5 ⟨r6, r7⟩ h
  · rename_i es hs
    obtain ⟨a, kvs, r1, r2, r3, r4, r5, r6, r7⟩ := h1 i _ hs
    exact fk r4 r5 ⟨r6, r7⟩ h
  · rename_i es hs
    obtain ⟨v, e1, e2⟩ := R.dat hs
    cases e2 with
    | dT h1 h2 h3 => exact ft e1 (R.ex _ _ h1) ⟨h2, h3⟩ h
  · rename_i es hs
    obtain ⟨v, e1, e2⟩ := R.dat hs
    cases e2 with
    | dK h1 h2 h3 => exact fk e1 (R.ex _ _ h1) ⟨h2, h3⟩ h
  · cases h
/-- slot i holds a dict: where -/
def isDict (δ : DS) (i : Nat) : Prop := ∃ x, δ.sl[i]? = some x ∧ match x with | .ownT _ => True | .ownK _ => True | .dat (.dT _) => True | .dat (.dK _) => True | _ => False
theorem Rel.dict_at (R : Rel K B δ S σ H) {i : Nat} (h : isDict δ i) : ∃ a, σ[i]? = some (some (.ref a)) := by
  obtain ⟨x, hx, h⟩ := h
  obtain ⟨ow, h1, _⟩ := R.sl
  match x, hx, h with
  | .ownT es, hx, _ => obtain ⟨a, kvs, r1, r2, r3, r4, _⟩ := h1 i _ hx; exact ⟨a, r4⟩
  | .ownK es, hx, _ => obtain ⟨a, kvs, r1, r2, r3, r4, _⟩ := h1 i _ hx; exact ⟨a, r4⟩
  | .dat (.dT es), hx, _ =>
    obtain ⟨v, e1, e2⟩ := R.dat hx
    cases e2; exact ⟨_, e1⟩
  | .dat (.dK es), hx, _ =>
    obtain ⟨v, e1, e2⟩ := R.dat hx
    cases e2; exact ⟨_, e1⟩
/-- name[e] of a dict -/
def dDGet (i : Nat) (d : dE) : dE := fun W δ Q => isDict δ i ∧ d W δ fun y δ1 => optQ (dictGet δ1 i y) fun r => optQ r fun z => Q z δ1
theorem de_dget {i : Nat} {x : Str} (hu : X.A.units + 1 < cLine) (hv : PE X (.Name x p) (tVar i)) (hb : DE X E b db) (hs : NoSl b) : DE X E (.Subscript (.Name x p) b pos) (dDGet i db) := ⟨fun B => pe_mono (pe_dget hu hv (hb.run B) hs) fun σ H Q q => by
  obtain ⟨δ, S, W, Q', R, ⟨hd, q⟩, xo, post⟩ := q
  obtain ⟨a, ha⟩ := R.dict_at hd
  refine ⟨.ref a, ha, δ, S, W, _, R, q, xo, fun y δ1 v S1 H1 q1 e1 R1 n1 => ?_⟩
  obtain ⟨r, h1, q1⟩ := optQ_ex q1
  obtain ⟨z, rfl, q1⟩ := optQ_ex q1
  obtain ⟨a', o, ha', g, w⟩ := R1.dget n1 h1
  rw [ha] at ha'; cases ha'
  rcases w with ⟨_, w⟩ | ⟨v', d', rfl, w, dn⟩
  · cases w
  · cases w
    exact ⟨a, v', rfl, g, post _ _ _ _ _ q1 e1 R1 dn⟩⟩
/-- e in name, e not in name -/
def dDIn (neg : Bool) (d : dE) (i : Nat) : dE := fun W δ Q => d W δ fun y δ1 => optQ (dictGet δ1 i y) fun r => Q (.bl (if neg then !r.isSome else r.isSome)) δ1
/-- name[i] = e -/
def dictPut (δ : DS) (i : Nat) (y z : D) : Option DS := match δ.sl[i]? with
  | some (.ownT es) => match y.keyT with | some k => if es.length < sizeLine then some (setSl δ i (.ownT (putD es k z))) else none | none => none
  | some (.ownK es) => match y.key with | some k => if es.length < sizeLine then some (setSl δ i (.ownK (putD es k z))) else none | none => none
  | _ => none
theorem Rel.dput (R : Rel K B δ S σ H) {i : Nat} {y z : D} {u v : V} {δ' : DS} (n : Dn K S u y) (m : Dn K S v z) (h : dictPut δ i y z = some δ') : ∃ a H1, σ[i]? = some (some (.ref a)) ∧ DPut H a u v H1 ∧ Rel K B δ' S σ H1 := by
  unfold dictPut at h
  split at h
  · rename_i es hs
    split at h
    · rename_i k hk
      split at h
      · rename_i hz
        cases h
        obtain ⟨ow, h1, _⟩ := id R.sl
        obtain ⟨a, kvs, r1, r2, r3, r4, r5, r6, r7⟩ := h1 i _ hs
        obtain ⟨b, rfl, hb⟩ := n.keyT hk
        have hl : kvs.length = es.length := by simpa using congrArg List.length r6
        refine ⟨a, _, r4, DPut.t r5 (R.ex _ _ hb) (by omega), R.mut (fun vs z => HO.noConfusion z) hs (fun oa q => ?_) fun H1 e => ?_⟩
        · obtain ⟨a', _, t1, _, _, t4, _⟩ := q
          rw [r4] at t4; cases t4
          exact t1
        · have w := KvR.put ⟨r6, r7⟩ m k
          exact ⟨a, _, rfl, r2, r3, r4, e, w.1, w.2⟩
      · cases h
    · cases h
  · rename_i es hs
    split at h
    · rename_i k hk
      split at h
      · rename_i hz
        cases h
        obtain ⟨ow, h1, _⟩ := id R.sl
        obtain ⟨a, kvs, r1, r2, r3, r4, r5, r6, r7⟩ := h1 i _ hs
        have hl : kvs.length = es.length := by simpa using congrArg List.length r6
        rw [n.key hk]
        refine ⟨a, _, r4, DPut.k r5 (by omega), R.mut (fun vs z => HO.noConfusion z) hs (fun oa q => ?_) fun H1 e => ?_⟩
        · obtain ⟨a', _, t1, _, _, t4, _⟩ := q
          rw [r4] at t4; cases t4
          exact t1
        · have w := KvR.put ⟨r6, r7⟩ m k
          exact ⟨a, _, rfl, r2, r3, r4, e, w.1, w.2⟩
      · cases h
    · cases h
  · cases h
def dDPut (i : Nat) (dk dv : dE) : dS := fun W N δ => dv W δ fun z δ1 => isDict δ1 i ∧ dk W δ1 fun y δ2 => optQ (dictPut δ2 i y z) N.nx
theorem ds_dput {i : Nat} {x : Str} {tp : Pos} (hu : X.A.units + 1 < cLine) (hv : PE X (.Name x p) (tVar i)) (hk : DE X E b db) (he : DE X E e da) (hs : swapsWith e (some (.Subscript (.Name x p) b tp)) pos.line X.env = pure false := by rfl) : DSt X E (.Assign [.Subscript (.Name x p) b tp] e pos) (dDPut i db da) :=
  ⟨fun B => ps_mono (ps_dput hu hv (hk.run B) (he.run B) hs) fun Z σ H q => by
    obtain ⟨δ, S, W, N, R, q, xo, p1, _⟩ := q
    refine ⟨δ, S, W, _, R, q, xo, fun z δ1 v S1 H1 q1 e1 R1 n1 => ?_⟩
    obtain ⟨hd, q1⟩ := q1
    obtain ⟨a, ha⟩ := R1.dict_at hd
    refine ⟨.ref a, ha, δ1, S1, W, _, R1, q1, xo.mono e1, fun y δ2 u S2 H2 q2 e2 R2 n2 => ?_⟩
    obtain ⟨δ3, h3, q2⟩ := optQ_ex q2
    obtain ⟨a', H3, ha', g, R3⟩ := R2.dput n2 (n1.mono e2) h3
    rw [ha] at ha'; cases ha'
    exact ⟨a, H3, rfl, g, p1 _ _ _ _ q2 (e1.trans e2) R3⟩⟩
/-- the keys of a dict with tuple keys, sorted -/
def keyD (es : List (List Key × D)) : List D := es.map fun e => .tup (e.1.map kD)
theorem keys_dn (sb : Sb S H) : ∀ {kvs : List (List Key × V)} {xs : List (List Key × Addr × Value)}, Paired (fun (p : List Key × V) (q : List Key × Addr × Value) => p.1 = q.1 ∧ H q.2.1 = some (.tup (p.1.map kV)) ∧ RelV p.2 q.2.2) kvs xs →
    DnA K S (xs.map fun q => V.ref q.2.1) (kvs.map fun e => D.tup (e.1.map kD))
  | _, _, .nil => .nil
  | _, _, .cons h t => .cons (.tup (sb.tp _ _ h.2.1) (DnA.kds _)) (keys_dn sb t)
def dSortT (i : Nat) : dF := fun _ δ Q => match δ.sl[i]? with
  | some (.ownT es) => srtOk (keyD es) ∧ Q (sortD (keyD es)) δ
  | some (.dat (.dT es)) => srtOk (keyD es) ∧ Q (sortD (keyD es)) δ
  | _ => False
theorem keyD_of {kvs : List (List Key × V)} {es : List (List Key × D)} (h : kvs.map (·.1) = es.map (·.1)) : (kvs.map fun e => D.tup (e.1.map kD)) = keyD es := by
  have e1 : (kvs.map fun e => D.tup (e.1.map kD)) = (kvs.map (·.1)).map fun k => D.tup (k.map kD) := by rw [List.map_map]; rfl
  have e2 : keyD es = (es.map (·.1)).map fun k => D.tup (k.map kD) := by unfold keyD; rw [List.map_map]; rfl
  rw [e1, e2, h]
end
/-- a comprehension with a test, nothing else changed -/
theorem wLC_filt {α : Type} {g : dG} {tt : dT} {te : dE} {vs : List Nat} {Q : List D → DS → Prop} {δ0 : DS} {ι f : α → D} {t : α → Bool} : ∀ {l : List α}, (∀ a ∈ l, ∀ acc (k : List D → DS → Prop), acc.length < sizeLine → (t a = true → k (acc ++ [f a]) δ0) → (t a = false → k acc δ0) → g (ι a) δ0 fun δ1 => tt W0 δ1 fun z δ2 => match z with
      | true => te W0 δ2 fun y δ3 => acc.length < sizeLine ∧ k (acc ++ [y]) (wipeD δ3 vs)
      | false => k acc (wipeD δ2 vs)) → l.length ≤ sizeLine → Q ((l.filter t).map f) δ0 → wLC g tt te vs Q (l.map ι) [] δ0 := by
  intro l h hl h0
  have go : ∀ (r : List α) (acc : List D), (∀ a ∈ r, a ∈ l) → acc.length + r.length ≤ sizeLine → acc ++ (r.filter t).map f = (l.filter t).map f → wLC g tt te vs Q (r.map ι) acc δ0 := by
    intro r
    induction r with
    | nil => intro acc _ _ e; rw [List.filter_nil, List.map_nil, List.append_nil] at e; subst e; exact h0
    | cons a r ih =>
      intro acc hm hz e
      rw [List.length_cons] at hz
      refine h a (hm a List.mem_cons_self) acc (fun acc' δ' => wLC g tt te vs Q (r.map ι) acc' δ') (by omega) (fun ha => ih (acc ++ [f a]) (fun b hb => hm b (List.mem_cons_of_mem _ hb)) (by simp; omega) ?_) (fun ha => ih acc (fun b hb => hm b (List.mem_cons_of_mem _ hb)) (by omega) ?_)
      · rw [← e, List.filter_cons_of_pos ha]; simp
      · rw [← e, List.filter_cons_of_neg (by rw [ha]; decide)]
  exact go l [] (fun _ h => h) (by simpa using hl) rfl
theorem from_succ {lo : Int} {n : Nat} : Ev.intsFrom lo (n + 1) = .int lo :: Ev.intsFrom (lo + 1) n := by
  unfold Ev.intsFrom
  rw [List.range_succ_eq_map, List.map_cons, List.map_map]
  congr 1
  · simp
  · apply List.map_congr_left
    intro i _
    show D.int (lo + ((i + 1 : Nat) : Int)) = D.int (lo + 1 + (i : Int))
    congr 1; omega
end Ev
namespace Ev
open PySem PySem.Spec PyProof.Rows L2
variable [TabC]
variable {K : PySem.W.Frag} {S S' H H' : Hp} {B : Bs} {δ : DS} {σ : L2.St}
section
variable {X : Cx} {E : EK} {e a b c : Expr} {es : List Expr} {pos p ap cp : Pos} {da db : dE} {x : Str}
/-- return of a new list -/
def dRetF (f : dF) : dS := fun W N δ => f W δ fun xs δ' => N.rl xs δ'
/-- return name: the list of one's own -/
def dRetOwn (i : Nat) : dS := fun _ N δ => match δ.sl[i]? with | some (.own ds) => N.rl ds (setSl δ i .un) | _ => False
abbrev dSpL := List D → Pen → (List D → Pen → Prop) → (Xc → Pen → Prop) → Prop
def endsL (Q : List D → Pen → Prop) : dEnds := { nx := fun _ => False, rt := fun _ _ => False, rl := fun xs δ => Q xs δ.pen }
def dCallL (n : Nat) (dd : List D) (sp : dSpL) (a : dA) : dF := fun W δ Q => a W δ fun xs δ1 => (xs ++ dd).length = n ∧ sp (xs ++ dd) δ1.pen (fun x p' => Q x { δ1 with pen := p' }) fun c p' => W c { δ1 with pen := p' }
variable {j k n : Nat} {sp : dSpL} {dd : List D} {ta : dA}
def dCallLK (n p q : Nat) (idx : List Nat) (dd : List D) (sp : dSpL) (a tk : dA) : dF := fun W δ Q => a W δ fun us δ1 => tk W δ1 fun ws δ2 => (pickL p q idx dd us ws).length = n ∧ sp (pickL p q idx dd us ws) δ2.pen (fun x p' => Q x { δ2 with pen := p' }) fun c p' => W c { δ2 with pen := p' }
variable {pp qq : Nat} {ks : List Str} {idx : List Nat} {kws : List Keyword} {tk : dA}
end
end Ev
namespace Ev
open PySem PySem.Spec PyProof.Rows L2
variable [TabC]
variable {K : PySem.W.Frag} {S S' H H' : Hp} {B : Bs} {δ : DS} {σ : L2.St}
section
variable {X : Cx} {E : EK} {e a b c : Expr} {es : List Expr} {pos p ap cp : Pos} {da db : dE} {x y z : Str}
/-- [x, y][z]: the first pen, which is there; the second, which is made one -/
def dPen2 (i j t : Nat) : dE := fun _ δ Q => (∃ (q : Nat) (ns : List Int), δ.sl[q]? = some (.law ns)) ∧ match δ.sl[i]?, δ.sl[j]?, δ.sl[t]? with
  | some (.own xs), some (.own _), some (.dat (.int 0)) => ∃ (ns : List Int) (k m : Int) (c : Nat), xs = penD ns k m ∧ ns.length ≤ 63 ∧ 0 ≤ k ∧ k ≤ c ∧ 0 ≤ m ∧ ∀ p, Q (.raw (.ref p)) { setSl δ i (.dat (.raw (.ref p))) with pen := some (p, c) }
  | some (.dat (.raw (.ref a))), some (.own xs), some (.dat (.int 1)) => ∃ (ns : List Int) (k m : Int) (c : Nat), xs = penD ns k m ∧ ns.length ≤ 63 ∧ 0 ≤ k ∧ k ≤ c ∧ 0 ≤ m ∧ ∀ p, Q (.raw (.ref p)) { setSl δ j (.dat (.raw (.ref p))) with pen := some (p, c) }
  | some (.dat (.raw (.ref a))), some (.dat (.raw (.ref b))), some (.dat (.int 1)) => Q (.raw (.ref b)) δ
  | _, _, _ => False
theorem de_gint {i : Int} (gl : Gl X x) (h : ∃ t, X.mg x = some (.int i t)) (hd : (x == ("__debug__" : Str)) = false := by decide) : DE X E (.Name x pos) (dC (.int i)) := by
  obtain ⟨t, h⟩ := h
  exact de_c (pe_glob gl h (show RelV (.int i) (.int i t) from ⟨t, rfl⟩) hd) fun _ => .int i
def dRev (d : dE) : dF := fun W δ Q => d W δ fun x δ1 => match x with | .lst ds => Q ds.reverse δ1 | _ => False
def dRevI (d : dE) : dI := fun W δ Q => d W δ fun x δ' => match x with | .lst ds => Q ds.reverse δ' | _ => False
/-- the first place of an item -/
def firstAt (ds : List D) (d : D) : Option Nat := ds.findIdx? fun z => z.eq d
/-- name.index(e) -/
def dIndex (i : Nat) (d : dE) : dE := fun W δ Q => (∃ ds, lookAt δ i = some ds) ∧ d W δ fun y δ1 => optQ (lookAt δ1 i) fun ds => (D.lst ds).cm ∧ y.cm ∧ optQ (firstAt ds y) fun j => Q (.int j) δ1
end
section
variable {X : Cx} {E : EK} {a b c : Expr} {pos : Pos} {ta : dT} {fa fb : dF}
def dIfF (t : dT) (x y : dF) : dF := fun W δ Q => t W δ fun k δ1 => match k with | true => x W δ1 Q | false => y W δ1 Q
end
section
variable {X : Cx} {E : EK} {a b : Expr} {pos px py pt pt2 : Pos} {x y : Str} {kt k2 : Nat} {d : dA}
/-- x, y = a, b -/
def dPar (i j : Nat) (d : dA) : dS := fun W N δ => d W δ fun xs δ1 => match xs with | [u, v] => N.nx (setSl (setSl δ1 i (.dat u)) j (.dat v)) | _ => False
theorem ds_par {i j : Nat} (hc : X.calm = true) (hN : X.N.Nodup) (hi : X.N[i]? = some x) (hj : X.N[j]? = some y) (hij : i ≠ j) (hx : X.env.scope.names.lookup x = some .local) (hy : X.env.scope.names.lookup y = some .local) (ha : DA X E [a, b] d)
    (hw : swappedStores [.Tuple [.Name x px, .Name y py] kt pt] (.Tuple [a, b] k2 pt2) X.env = pure (some [x, y])) : DSt X E (.Assign [.Tuple [.Name x px, .Name y py] kt pt] (.Tuple [a, b] k2 pt2) pos) (dPar i j d) := ⟨fun B => ps_mono (ps_par hc hN hi hj hij hx hy (ha.run B) hw) fun Z σ H q => by
  obtain ⟨δ, S, W, N, R, q, xo, p1, _⟩ := q
  refine ⟨δ, S, W, _, R, q, xo, fun xs δ1 vs S1 H1 q1 e1 R1 n1 => ?_⟩
  match xs, n1, q1 with
  | [u, v], n1, q1 =>
    obtain ⟨v1, v2, rfl, d1, d2⟩ := n1.two
    exact ⟨v1, v2, rfl, p1 _ _ _ _ q1 e1 ((R1.setDat d1).setDat d2)⟩⟩
end
def startL (m : Nat) (ns : List Int) : DS := ⟨.law ns :: List.replicate (m - 1) .un, none⟩
end Ev
namespace Ev
open PySem PySem.Spec PyProof.Rows L2
variable [TabC]
variable {K : PySem.W.Frag} {S S' H H' : Hp} {B : Bs} {δ : DS} {σ : L2.St}
def roSl : Sl → Sl
  | .dat d => .dat d
  | .own ds => .dat (.lst ds)
  | .ownK es => .dat (.dK es)
  | .ownT es => .dat (.dT es)
  | _ => .un
theorem ro_un : roSl .un = .un := rfl
theorem ro_dat {d : D} : roSl (.dat d) = .dat d := rfl
theorem ro_own {ds : List D} : roSl (.own ds) = .dat (.lst ds) := rfl
theorem ro_hp {ds : List D} : roSl (.hp ds) = .un := rfl
theorem ro_law {ds : List Int} : roSl (.law ds) = .un := rfl
theorem ro_ownK {es : List (Key × D)} : roSl (.ownK es) = .dat (.dK es) := rfl
theorem ro_ownT {es : List (List Key × D)} : roSl (.ownT es) = .dat (.dT es) := rfl
theorem flat_int {i : Int} : (D.int i).flat = true := rfl
theorem flat_str {i : Str} : (D.str i).flat = true := rfl
theorem flat_bl {i : Bool} : (D.bl i).flat = true := rfl
theorem flat_non : D.non.flat = true := rfl
def roD (δ : DS) : DS := ⟨δ.sl.map roSl, none⟩
mutual
def D.solid : D → Bool
  | .non => true | .bl _ => true | .int _ => true | .str _ => true
  | .tup ds => D.solids ds
  | _ => false
def D.solids : List D → Bool
  | [] => true
  | d :: ds => d.solid && D.solids ds
end
mutual
theorem Dn.solid {S S' : Hp} (g : ∀ b vs, S b = some (.tup vs) → S' b = some (.tup vs)) : ∀ {v : V} {d : D}, Dn K S v d → d.solid = true → Dn K S' v d
  | _, _, .non, _ => .non
  | _, _, .bl _, _ => .bl _
  | _, _, .int _, _ => .int _
  | _, _, .str _, _ => .str _
  | _, _, .tup h a, f => .tup (g _ _ h) (DnA.solid g a f)
  | _, _, .kt _ _, f => absurd f (by intro z; cases z)
  | _, _, .raw _, f => absurd f (by intro z; cases z)
  | _, _, .scr _, f => absurd f (by intro z; cases z)
  | _, _, .fn _ _ _ _ _ _ _, f => absurd f (by intro z; cases z)
  | _, _, .lst _ _, f => absurd f (by intro z; cases z)
  | _, _, .dK _ _ _, f => absurd f (by intro z; cases z)
  | _, _, .dT _ _ _, f => absurd f (by intro z; cases z)
  | _, _, .fK _ _ _, f => absurd f (by intro z; cases z)
  | _, _, .fT _ _ _, f => absurd f (by intro z; cases z)
  | _, _, .fN _ _ _, f => absurd f (by intro z; cases z)
  | _, _, .exc _ _ _, f => absurd f (by intro z; cases z)
  | _, _, .exc0 _, f => absurd f (by intro z; cases z)
theorem DnA.solid {S S' : Hp} (g : ∀ b vs, S b = some (.tup vs) → S' b = some (.tup vs)) : ∀ {vs : List V} {ds : List D}, DnA K S vs ds → D.solids ds = true → DnA K S' vs ds
  | _, _, .nil, _ => .nil
  | _, _, .cons h a, f => by
    have f' := (Bool.and_eq_true _ _).mp (show (_ && _) = true from f)
    exact .cons (Dn.solid g h f'.1) (DnA.solid g a f'.2)
end
theorem DnA.solidsL {S S' : Hp} (g : ∀ b vs, S b = some (.tup vs) → S' b = some (.tup vs)) : ∀ {vs : List V} {ds : List D}, DnA K S vs ds → (∀ d ∈ ds, d.solid = true) → DnA K S' vs ds
  | _, _, .nil, _ => .nil
  | _, _, .cons h a, f => .cons (h.solid g (f _ List.mem_cons_self)) (a.solidsL g fun d hd => f d (List.mem_cons_of_mem _ hd))
theorem solid_int {i : Int} : (D.int i).solid = true := rfl
theorem solid_str {i : Str} : (D.str i).solid = true := rfl
theorem solid_bl {i : Bool} : (D.bl i).solid = true := rfl
theorem solid_non : D.non.solid = true := rfl
theorem solid_tup {ds : List D} : (D.tup ds).solid = D.solids ds := rfl
theorem solids_nil : D.solids [] = true := rfl
theorem solids_cons {d : D} {ds : List D} : D.solids (d :: ds) = (d.solid && D.solids ds) := rfl
section
variable {X : Cx} {E : EK} {e : Expr} {d : dE} {f : dF} {t : dT}
def dRo (d : dE) : dE := fun _ δ Q => d W0 (roD δ) fun x _ => x.solid = true ∧ Q x δ
def dRoF (f : dF) : dF := fun _ δ Q => f W0 (roD δ) fun xs _ => (∀ x ∈ xs, x.solid = true) ∧ Q xs δ
def dRoT (t : dT) : dT := fun _ δ Q => t W0 (roD δ) fun k _ => Q k δ
variable {E2 : EK} {tg : Expr} {pos : Pos}
end
end Ev
namespace Ev
open PySem PySem.Spec PyProof.Rows L2
variable [TabC]
variable {K : PySem.W.Frag} {S S' H H' : Hp} {B : Bs} {δ : DS} {σ : L2.St}
section
variable {X : Cx} {E : EK} {e a b c : Expr} {es : List Expr} {pos p p2 q : Pos} {da db : dE} {x : Str}
def dLenSet (d : dE) : dE := fun W δ Q => d W δ fun x δ1 => match x with
  | .lst ds => optQ (intsOf ds) fun ns => ns.Nodup ∧ ns.length ≤ 4000 ∧ Q (.int (ns.length : Nat)) δ1
  | _ => False
def sortDR (k : Bool) (ds : List D) : List D := ds.mergeSort (PySem.W.dataLe k D.py)
def dSrtR (k : Bool) (a : dA) : dF := fun W δ Q => a W δ fun xs δ1 => match xs with | [.lst ds] => srtOk ds ∧ Q (sortDR k ds) δ1 | _ => False
/-- a pen by its name: a list of one's own becomes the pen -/
def dPen1 (i : Nat) : dE := fun _ δ Q => match δ.sl[i]? with
  | some (.own xs) => (∃ (q : Nat) (ns : List Int), δ.sl[q]? = some (.law ns)) ∧ ∃ (ns : List Int) (k m : Int) (c : Nat), xs = penD ns k m ∧ ns.length ≤ 63 ∧ 0 ≤ k ∧ k ≤ c ∧ 0 ≤ m ∧ ∀ p, Q (.raw (.ref p)) { setSl δ i (.dat (.raw (.ref p))) with pen := some (p, c) }
  | some (.dat d) => Q d δ
  | _ => False
end
end Ev
namespace Ev
open PySem PySem.Spec PyProof.Rows L2
variable [TabC]
variable {K : PySem.W.Frag} {S S' H H' : Hp} {B : Bs} {δ : DS} {σ : L2.St}
section
variable {X : Cx} {E : EK} {e a b c : Expr} {es : List Expr} {pos p p2 q ap cp : Pos} {da db dd : dE} {x y : Str}
def maxI : Int → List Int → Int
  | m, [] => m
  | m, n :: ns => maxI (if n > m then n else m) ns
def minI : Int → List Int → Int
  | m, [] => m
  | m, n :: ns => minI (if n < m then n else m) ns
theorem maxI_ge : ∀ (ns : List Int) (m : Int), m ≤ maxI m ns ∧ ∀ y ∈ ns, y ≤ maxI m ns
  | [], m => ⟨Int.le_refl _, fun _ h => nomatch h⟩
  | n :: ns, m => by
    obtain ⟨h1, h2⟩ := maxI_ge ns (if n > m then n else m)
    have h0 : m ≤ (if n > m then n else m) ∧ n ≤ (if n > m then n else m) := by split <;> omega
    refine ⟨Int.le_trans h0.1 h1, fun y hy => ?_⟩
    rcases List.mem_cons.mp hy with rfl | hy
    · exact Int.le_trans h0.2 h1
    · exact h2 y hy
theorem maxI_mem : ∀ (ns : List Int) (m : Int), maxI m ns = m ∨ maxI m ns ∈ ns
  | [], m => .inl rfl
  | n :: ns, m => by
    show maxI (if n > m then n else m) ns = m ∨ maxI (if n > m then n else m) ns ∈ n :: ns
    rcases maxI_mem ns (if n > m then n else m) with h | h
    · rw [h]
      split
      · exact .inr List.mem_cons_self
      · exact .inl rfl
    · exact .inr (List.mem_cons_of_mem _ h)
def rMaxD : DRC := fun xs Q => match xs with
  | [.int i, .int j] => Q (.int (if j > i then j else i))
  | [.lst ds] => optQ (intsOf ds) fun ns => match ns with | [] => False | n :: ns => Q (.int (maxI n ns))
  | _ => False
def rMinD : DRC := fun xs Q => match xs with
  | [.int i, .int j] => Q (.int (if j < i then j else i))
  | [.lst ds] => optQ (intsOf ds) fun ns => match ns with | [] => False | n :: ns => Q (.int (minI n ns))
  | _ => False
theorem cd_max (hc : X.calm = true) : CallR X (.builtin "max") (liftC X.K rMaxD) := fun pins s σ H vs us Q I r ⟨S, ds, Q', ex, n, q, post⟩ => by
  match ds, n, q with
  | [.int i, .int j], n, q =>
    obtain ⟨v1, v2, rfl, d1, d2⟩ := n.two
    cases d1; cases d2
    exact call_max2 hc pins s σ H _ us Q I r ⟨i, j, rfl, post _ _ _ _ q (Grow.refl ex) (.int _)⟩
  | [.lst ds], n, q =>
    obtain ⟨v, rfl, n1⟩ := n.one
    cases n1 with
    | lst h a =>
      obtain ⟨ns, hn, q⟩ := optQ_ex q
      have e := ints_valsD a hn
      subst e
      match ns, q, a, h with
      | n :: ns, q, a, h =>
        refine cr_max hc pins s σ H _ us Q I r ⟨_, n :: ns, rfl, SqL.of (ex _ _ h), by simp, fun m hm hy => ?_⟩
        have h1 := maxI_ge ns n
        have h2 := maxI_mem ns n
        have h3 : maxI n ns ∈ n :: ns := by
          rcases h2 with h2 | h2
          · rw [h2]; exact List.mem_cons_self
          · exact List.mem_cons_of_mem _ h2
        have e : m = maxI n ns := by
          have k1 := hy _ h3
          have k2 : m ≤ maxI n ns := by
            rcases List.mem_cons.mp hm with rfl | hm
            · exact h1.1
            · exact h1.2 m hm
          omega
        subst e
        exact post _ _ _ _ q (Grow.refl ex) (.int _)
def dReverse (i : Nat) : dE := fun _ δ Q => optQ (ownAt δ i) fun ds => Q .non (setOwnAt δ i ds.reverse)
def dMove (i j : Nat) : dS := fun _ N δ => match δ.sl[i]?, δ.sl[j]? with
  | some _, some (.own ds) => i ≠ j ∧ N.nx { δ with sl := (δ.sl.set j .un).set i (.own ds) }
  | _, _ => False
def D.isD : D → Bool | .dK _ => true | .dT _ => true | .fK _ => true | .fT _ => true | _ => false
def getD2 : D → D → Option (Option D)
  | .dK es, y => y.key.map fun k => valD es k
  | .dT es, y => y.keyT.map fun k => valD es k
  | .fK es, y => y.key.map fun k => valD es k
  | .fT es, y => y.keyT.map fun k => valD es k
  | _, _ => none
def dDGet2 (d dk dx : dE) : dE := fun W δ Q => d W δ fun dd δ1 => dd.isD = true ∧ dk W δ1 fun y δ2 => dx W δ2 fun z δ3 => optQ (getD2 dd y) fun r => Q (r.getD z) δ3
def mergeD (kvs more : List (Key × D)) : List (Key × D) := more.foldl (fun acc kv => putD acc kv.1 kv.2) kvs
def pairsOf : List D → Option (List (Key × D))
  | [] => some []
  | .tup [k, v] :: r => match k.key, pairsOf r with | some kk, some l => some ((kk, v) :: l) | _, _ => none
  | _ :: _ => none
def rDictP : DRC := fun xs Q => match xs with
  | [.lst ds] => optQ (pairsOf ds) fun kvs => Q (.dK (mergeD [] kvs))
  | _ => False
def dPairs : List (dE × dE) → XW → DS → (List (D × D) → DS → Prop) → Prop
  | [], _, δ, Q => Q [] δ
  | (k, v) :: r, W, δ, Q => k W δ fun x δ1 => v W δ1 fun y δ2 => dPairs r W δ2 fun ps δ3 => Q ((x, y) :: ps) δ3
def keysD : List (D × D) → Option (List (Key × D))
  | [] => some []
  | (k, v) :: r => match k.key, keysD r with | some kk, some l => some ((kk, v) :: l) | _, _ => none
def dDisp (prs : List (dE × dE)) : dE := fun W δ Q => dPairs prs W0 (roD δ) fun ps _ => optQ (keysD ps) fun kvs => kvs.length ≤ 15 ∧ (∀ kv ∈ kvs, kv.2.solid = true) ∧ Q (.dK (mergeD [] kvs)) δ
theorem KvR.solid {ks : List (Key × V)} {kvs : List (Key × D)} (g : ∀ b vs, S b = some (.tup vs) → S' b = some (.tup vs)) (h : KvR K S ks kvs) (f : ∀ kv ∈ kvs, kv.2.solid = true) : KvR K S' ks kvs :=
  ⟨h.1, h.2.solidsL g fun d hd => by obtain ⟨kv, hkv, rfl⟩ := List.mem_map.mp hd; exact f kv hkv⟩
end
end Ev
namespace Ev
open PySem PySem.Spec PyProof.Rows L2
variable [TabC]
section
variable {X : Cx} {e : Expr} {es : List Expr} {pos p : Pos}
/-- the star's items are a list that is frozen -/
def gStarD (n i : Nat) (r : dGs) : dG := fun d δ Q => match d with
  | .tup ds => n ≤ ds.length + 1 ∧ ds.length ≤ 16384 ∧ r (ds.take i ++ [.lst ((ds.drop i).take (ds.length + 1 - n))] ++ (ds.drop i).drop (ds.length + 1 - n)) δ Q
  | _ => False
end
end Ev
namespace Ev
open PySem PySem.Spec PyProof.Rows L2
variable [TabC]
variable {K : PySem.W.Frag} {S S' H H' : Hp} {B : Bs} {δ : DS} {σ : L2.St}
/-- slot i's object becomes another one, frozen -/
theorem Rel.freezeTo (R : Rel K B δ S σ H) {i : Nat} {x : Sl} {d : D} {p : Addr} {o : HO} (hi : δ.sl[i]? = some x) (hx : ∀ oa, SlOk K B S H oa σ[i]? x → oa = some p) (hno : ∀ vs, o ≠ .tup vs) (hpl : ∀ ps, o ≠ .tbl ps) (h0 : B.H0 p = none) (hpa : B.pa ≠ some p)
    (hv : σ[i]? = some (some (.ref p))) (hd : ∀ S1 : Hp, S1 p = some o → Ex S S1 → Dn K S1 (.ref p) d) : ∃ S1, Ex S S1 ∧ Rel K B { δ with sl := δ.sl.set i (.dat d) } S1 σ (upd H p o) ∧ Dn K S1 (.ref p) d := by
  obtain ⟨ow, h1, h2, h3, h4⟩ := R.sl
  have oi : ow i = some p := hx _ (h1 i x hi)
  obtain ⟨sp, q2, q3, _⟩ := h4 i p oi
  have e1 : Ex S (upd S p o) := Ex.new sp
  have dn : Dn K (upd S p o) (.ref p) d := hd _ upd_same e1
  refine ⟨upd S p o, e1, ⟨⟨fun a u h => ?_, fun b vs h => ?_, R.ex.tb.at_ p (fun b u n h => by rw [upd_ne n]; exact h) (fun u z => by
    obtain ⟨u2, z1, z2⟩ := (h1 i x hi).plA oi
    rw [z1] at z; cases z; exact z2) fun b n z => by rw [upd_ne n]; exact z⟩, ⟨R.fr.s.trans e1, fun b u h hb nb => ?_, fun b ps h => ?_, fun b u h n => ?_, fun a e => ?_⟩, ?_, R.pa, by simpa using R.len, fun j => if j = i then none else ow j, fun j z e => ?_, fun j hj => ?_, fun j k a e1 e2 => ?_, fun j a e => ?_⟩, dn⟩
  · by_cases e : a = p
    · subst e; rw [upd_same] at h ⊢; exact h
    · rw [upd_ne e] at h ⊢; exact R.ex a u h
  · by_cases q : b = p
    · subst q; rw [upd_same] at h; exact absurd (Option.some.inj h) (hno vs)
    · rw [upd_ne q] at h; exact e1 _ _ (R.ex.tp b vs h)
  · have : b ≠ p := fun e => by subst e; rw [h] at h0; cases h0
    rw [upd_ne this]; exact R.fr.h b u h hb nb
  · have : b ≠ p := fun e => by subst e; rw [h] at h0; cases h0
    rw [upd_ne this]; exact R.fr.t b ps h
  · have : b ≠ p := fun e => by subst e; rw [h] at h0; cases h0
    rw [upd_ne this]; exact R.fr.no b u h n
  · have : a ≠ p := fun q => hpa (by rw [e, q])
    rw [upd_ne this]; exact R.fr.pa a e
  · have hp := R.pen
    cases hpe : δ.pen with
    | none => trivial
    | some ac =>
      obtain ⟨a, c⟩ := ac
      rw [hpe] at hp
      have nap : a ≠ p := fun e => q3 c (by rw [hpe, e])
      obtain ⟨n, ca, ns, k, m, r1, r2, r3⟩ := hp
      exact ⟨by rw [upd_ne nap]; exact n, ca, ns, k, m, by rw [upd_ne nap]; exact r1, e1 _ _ r2, r3⟩
  · rcases get_set e with ⟨rfl, rfl⟩ | ⟨ne, e⟩
    · exact ⟨by simp, _, hv, dn⟩
    · simp only [ne, if_false]
      refine (h1 j z e).grow e1 fun a u ea ha _ => ?_
      have : a ≠ p := fun q => ne (h3 j i a ea (by rw [q]; exact oi))
      rw [upd_ne this]; exact ha
  · show (if j = i then none else ow j) = none
    split
    · rfl
    · exact h2 j (by simpa using hj)
  · have e1 : (if j = i then none else ow j) = some a := e1
    have e2 : (if k = i then none else ow k) = some a := e2
    split at e1
    · cases e1
    · split at e2
      · cases e2
      · exact h3 j k a e1 e2
  · have e : (if j = i then none else ow j) = some a := e
    split at e
    · cases e
    · rename_i nj
      obtain ⟨r1, r2, r3, u, r4⟩ := h4 j a e
      have : a ≠ p := fun q => nj (h3 j i a e (by rw [q]; exact oi))
      exact ⟨by rw [upd_ne this]; exact r1, r2, r3, u, by rw [upd_ne this]; exact r4⟩
section
variable {X : Cx} {E : EK} {e tg : Expr} {pos p : Pos} {x : Str} {da : dE}
/-- a thing in a slot, locked from now on -/
def tVarL (i : Nat) : TE := fun σ H Q => tVar i σ H Q ∨ ∃ a u, σ[i]? = some (some (.ref a)) ∧ H a = some u ∧ Mut (some u) ∧ ∀ od, Q (.ref a) (upd H a (.frz od u))
theorem pe_lock {i : Nat} (h : PE X (.Name x p) (tVar i)) : PE X (.Name x p) (tVarL i) := ⟨fun pins s σ H Q I q => by
  rcases q with q | ⟨a, u, h1, h2, mu, q⟩
  · exact h.run pins s σ H Q I q
  refine thn (h.run pins s σ H (fun v H' => v = .ref a ∧ H' = H) I ⟨_, h1, rfl, rfl⟩) fun v s1 ⟨y, H1, I1, r1, e1, e2⟩ => ?_
  subst e1 e2
  obtain ⟨od, I2⟩ := I1.lock h2 mu
  exact ⟨_, _, I2, r1, q od⟩⟩
def dLock (i : Nat) : dE := fun _ δ Q => match δ.sl[i]? with
  | some (.ownT es) => Q (.fT es) (setSl δ i (.dat (.fT es)))
  | some (.ownK es) => Q (.fK es) (setSl δ i (.dat (.fK es)))
  | some (.dat d) => Q d δ
  | _ => False
theorem de_lock {i : Nat} (h : PE X (.Name x p) (tVar i)) : DE X E (.Name x p) (dLock i) := ⟨fun B => pe_mono (pe_lock h) fun σ H Q q => by
  obtain ⟨δ, S, W, Q', R, q, _, post⟩ := q
  unfold dLock at q
  split at q
  · rename_i es hs
    refine .inr ?_
    obtain ⟨ow, h1, _⟩ := id R.sl
    obtain ⟨a, kvs, r1, r2, r3, r4, r5, r6, r7⟩ := h1 i _ hs
    refine ⟨a, _, r4, r5, trivial, fun od => ?_⟩
    obtain ⟨S1, e1, R1, n1⟩ := R.freezeTo (d := .fT es) (o := .frz od (.dT kvs)) hs (fun oa q => by obtain ⟨a', _, t1, _, _, t4, _⟩ := q; rw [r4] at t4; cases t4; exact t1) (fun _ z => nomatch z) (fun _ z => nomatch z) r2 r3 r4 fun S1 q1 q2 => .fT q1 r6 (r7.mono q2)
    exact post _ _ _ _ _ q e1 R1 n1
  · rename_i es hs
    refine .inr ?_
    obtain ⟨ow, h1, _⟩ := id R.sl
    obtain ⟨a, kvs, r1, r2, r3, r4, r5, r6, r7⟩ := h1 i _ hs
    refine ⟨a, _, r4, r5, trivial, fun od => ?_⟩
    obtain ⟨S1, e1, R1, n1⟩ := R.freezeTo (d := .fK es) (o := .frz od (.dK kvs)) hs (fun oa q => by obtain ⟨a', _, t1, _, _, t4, _⟩ := q; rw [r4] at t4; cases t4; exact t1) (fun _ z => nomatch z) (fun _ z => nomatch z) r2 r3 r4 fun S1 q1 q2 => .fK q1 r6 (r7.mono q2)
    exact post _ _ _ _ _ q e1 R1 n1
  · rename_i d hd
    obtain ⟨v, e1, e2⟩ := R.dat hd
    exact .inl ⟨v, e1, post _ _ _ _ _ q (Ex.refl _) R e2⟩
  · exact q.elim⟩
def keyDK (es : List (Key × D)) : List D := es.map fun e => kD e.1
def dKeysI (d : dE) : dI := fun W δ Q => d W δ fun x δ' => match x with | .fT es => Q (keyD es) δ' | .fK es => Q (keyDK es) δ' | _ => False
end
end Ev
namespace Ev
open PySem PySem.Spec PyProof.Rows L2
variable [TabC]
/-- the pair goes to the new dict -/
def emD (k v : Expr) (a : Value) (n : Env) : Sem Unit := do { let x ← eval k n; let y ← holding [x] (eval v n); match a with
  | .ref d => do { standAt { k.pos with endLine := v.pos.endLine, endCol := v.pos.endCol }; holding [x, y] (dictSet d x y) }
  | _ => unsupported "internal:dictcomp" }
/-- what is done within a clause: a further one, or what is given; k: what follows -/
def payN (c i : Expr) (j : Nat) (a : Value) (n : Env) (k : Sem PySem.Fin) : Sem PySem.Fin := do { let x ← eval i n; standAt i.pos; let y ← foldedSetIterable i n x; let _ ← runOwn (.compStart c j (← holding [y] (pyIter y)) a n) n; k }
def payE (em : Sem Unit) (k : Sem PySem.Fin) : Sem PySem.Fin := do { em; k }
def turnC (c t i0 : Expr) (fs : List Expr) (pay : Sem PySem.Fin → Sem PySem.Fin) (j : Nat) (it a : Value) (n : Env) : Sem PySem.Fin := do
  standAt i0.pos
  match ← pyNext it with
  | none => pure (.done .next)
  | some v => do
    letOwnedTupleGo t it v; assign t n v
    let mut ok := true
    for f in fs do { if ok then ok ← isTrue f n (eval f n) }
    if ok then pay (again (.compLoop c j it a n)) else again (.compLoop c j it a n)
inductive IsLD : Expr → Prop where
  | l (elt : Expr) (gs : List Comprehension) (sc : Scope) (pos : Pos) : IsLD (.ListComp elt gs sc pos)
  | d (kx vx : Expr) (gs : List Comprehension) (sc : Scope) (pos : Pos) : IsLD (.DictComp kx vx gs sc pos)
/-- how a clause's turn goes -/
def TurnIs (c t i0 : Expr) (fs : List Expr) (pay : Value → Env → Sem PySem.Fin → Sem PySem.Fin) (j : Nat) : Prop := ∀ it a n, compTurn c j it a n = turnC c t i0 fs (pay a n) j it a n
theorem turn_DN {kx vx t i0 t1 i1 : Expr} {fs fs1 : List Expr} {gs : List Comprehension} {sc : Scope} {pos : Pos} {j : Nat} (h : gs[j]? = some ⟨t, i0, fs, 0⟩) (h1 : gs[j + 1]? = some ⟨t1, i1, fs1, 0⟩) :
    TurnIs (.DictComp kx vx gs sc pos) t i0 fs (payN (.DictComp kx vx gs sc pos) i1 (j + 1)) j := fun it a n => by
  unfold compTurn turnC payN
  simp only [h, h1]
  rfl
theorem turn_DE {kx vx t i0 : Expr} {fs : List Expr} {gs : List Comprehension} {sc : Scope} {pos : Pos} {j : Nat} (h : gs[j]? = some ⟨t, i0, fs, 0⟩) (h1 : gs[j + 1]? = none) :
    TurnIs (.DictComp kx vx gs sc pos) t i0 fs (fun a n => payE (emD kx vx a n)) j := fun it a n => by
  unfold compTurn turnC payE emD
  simp only [h, h1]
  rfl
section
variable {prog : Program} {w : World} {A : Around} {R : Result → Shared → Prop} {s : Shared} {c t i0 : Expr} {fs : List Expr} {gs : List Comprehension} {j : Nat} {it a : Value} {n : Env} {pay : Value → Env → Sem PySem.Fin → Sem PySem.Fin}
/-- a clause's loop -/
theorem loopC (hk : IsLD c) (heq : TurnIs c t i0 fs pay j) (I : Nat → Shared → Prop)
    (turn : ∀ m s, I m s → wpAny (model prog w) A (pyNext it) (fun r s1 => match r with
      | none => R (.ok .next) s1
      | some v => wpAny (model prog w) A (letOwnedTupleGo t it v) (fun _ s2 => wpAny (model prog w) A (assign t n v) (fun _ s3 =>
          wpAny (model prog w) A (forIn fs true fun f r => if r = true then do let ok ← isTrue f n (eval f n); pure (ForInStep.yield ok) else pure (ForInStep.yield r)) (fun ok s4 =>
            if ok = true then ∀ (k : Sem PySem.Fin) (Q : PySem.Fin → Shared → Prop) (E : Value → Shared → Prop), (∀ s5, (∃ m', m' < m ∧ I m' s5) → wpAny (model prog w) A k Q E s5) → wpAny (model prog w) A (pay a n k) Q E s4 else ∃ m', m' < m ∧ I m' s4) (fun _ _ => False) s3) (fun _ _ => False) s2) (fun _ _ => False) s1) (fun _ _ => False) s)
    (m : Nat) (h : I m s) : codeAny (model prog w) A (.compLoop c j it a n) R s := by
  refine codeAny_loop rfl I (fun m s hI => ?_) m h
  have e0 : wpAny (model prog w) A ((compTurn c j it a n).onRaise (fun x => do noteFrame x n; theTreesLotGoes x)) (fun fin s' => match fin with
      | .done f => R (.ok f) s'
      | .again c' => c' = Code.compLoop c j it a n ∧ ∃ m', m' < m ∧ I m' s') (fun e s' => R (.error e) s') s → wpAny (model prog w) (A.under (Code.compLoop c j it a n)) ((model prog w).den (Code.compLoop c j it a n)) (fun fin s' => match fin with
      | .done f => R (.ok f) s'
      | .again c' => c' = Code.compLoop c j it a n ∧ ∃ m', m' < m ∧ I m' s') (fun e s' => R (.error e) s') s := by
    cases hk <;> exact id
  refine e0 (wpAny_noted ?_)
  rw [heq]
  unfold turnC
  have no : ∀ (e : Value) (s' : Shared), False → notedBy (model prog w) A n (fun e s' => R (.error e) s') e s' := fun _ _ z => z.elim
  refine wpAny_bind (wpAny_standAt (wpAny_bind (wpAny_mono (turn m s hI) (fun r s₁ h₁ => ?_) no)))
  cases r with
  | none => exact wpAny_pure h₁
  | some v =>
    refine wpAny_bind (wpAny_mono h₁ (fun _ s₂ h₂ => ?_) no)
    refine wpAny_bind (wpAny_mono h₂ (fun _ s₃ h₃ => wpAny_bind (wpAny_mono h₃ (fun ok s₄ h₄ => ?_) no)) no)
    cases ok with
    | false => exact wpAny_pure ⟨rfl, h₄⟩
    | true => exact h₄ _ _ _ fun s₅ h₅ => wpAny_pure ⟨rfl, h₅⟩
/-- a clause's start -/
theorem startC (hk : IsLD c) (hg : (clausesOf c)[j]? = some ⟨t, i0, fs, 0⟩) (h0 : codeAny (model prog w) A (.compLoop c j it a n) R s)
    (h : wpAny (model prog w) A (pyIter it) (fun it' s' => codeAny (model prog w) A (.compLoop c j it' a n) R s') (notedBy (model prog w) A n fun x s' => R (.error x) s') s) :
    codeAny (model prog w) A (.compStart c j it a n) R s := by
  refine codeAny_of_tree ?_
  have e0 : wpAny (model prog w) A ((compStart c j it a n).onRaise (fun x => do noteFrame x n; standAt theWindowsPlace)) (fun fin s' => match fin with
      | .done f => R (.ok f) s'
      | .again c' => c'.quiet = true ∧ codeAny (model prog w) A c' R s') (fun e s' => R (.error e) s') s → wpAny (model prog w) (A.under (Code.compStart c j it a n)) ((model prog w).den (Code.compStart c j it a n)) (fun fin s' => match fin with
      | .done f => R (.ok f) s'
      | .again c' => c'.quiet = true ∧ codeAny (model prog w) A c' R s') (fun e s' => R (.error e) s') s := by
    cases hk <;> exact id
  refine e0 (wpAny_notedAt ?_)
  unfold compStart
  simp only [hg]
  show wpAny _ _ (ask >>= _) _ _ s
  refine wpAny_bind (wpAny_askSetting (wpAny_ite ?_))
  split
  · first
      | exact wpAny_bind (wpAny_pure (wpAny_pure (And.intro rfl h0)))
      | exact wpAny_pure (And.intro rfl h0)
  · first
      | exact wpAny_bind (wpAny_rule (wpAny_bind (wpAny_standAt (wpAny_bind (wpAny_mono h (fun it' s' h' => wpAny_pure (And.intro rfl h')) fun _ _ x => x)))))
      | (refine wpAny_bind (wpAny_rule ?_); show wpAny _ _ (standAt i0.pos >>= _) _ _ s; exact wpAny_bind (wpAny_standAt (wpAny_bind (wpAny_mono h (fun it' s' h' => wpAny_pure (And.intro rfl h')) fun _ _ x => x))))
end
abbrev TB := L2.St → Hp → (Hp → Prop) → Prop
/-- vs: the slots that it stores -/
structure PBd (X : Cx) (p : Sem PySem.Fin → Sem PySem.Fin) (vs : List Nat) (t : TB) : Prop where
  run : ∀ (pins : List (Addr × Obj)) (s : Shared) (σ : L2.St) (H : Hp) (Nx : Hp → Prop) (k : Sem PySem.Fin) (Q : PySem.Fin → Shared → Prop) (E : Value → Shared → Prop), Inv X pins σ H s → t σ H Nx → (∀ s' H', Inv X pins (wipe σ vs) H' s' → Nx H' → wpAny (model X.prog X.w) X.A k Q E s') → wpAny (model X.prog X.w) X.A (p k) Q E s
theorem noF {α : Type} {M : Model} {A : Around} {t : Sem α} {Q Q' : α → Shared → Prop} {E : Value → Shared → Prop} {s : Shared} (h : wpAny M A t Q (fun _ _ => False) s) (hQ : ∀ a s, Q a s → Q' a s) : wpAny M A t Q' E s := wpAny_mono h hQ fun _ _ z => False.elim z
def tEmD (D : Addr) (tk tv : TE) : TB := fun σ H Nx => tk σ H fun y H1 => tv σ H1 fun z H2 => ∃ kvs k, y = kV k ∧ H2 D = some (.dK kvs) ∧ kvs.length < sizeLine ∧ Nx (upd H2 D (.dK (putK kvs k z)))
/-- a clause within: wi what is walked, t what is done within it, vs all the slots -/
def tNest (wi : TI) (g : TG) (tt : TT) (t : TB) (vs : List Nat) : TB := fun σ H Nx => wi σ H fun J H1 => ∃ W : Nat → Nat → Hp → Prop, (∃ m, W 0 m H1) ∧ ∀ i m H, W i m H →
  (J.stop i H ∧ Nx H) ∨ (J.go i H ∧ ∃ N1 : Hp → Prop, (∀ H', N1 H' → ∃ m', m' < m ∧ W (i + 1) m' H') ∧ ∀ x H', J.yld i H x H' → g x (wipe σ vs) H' fun σ2 H2 => wipe σ2 vs = wipe σ vs ∧ tt σ2 H2 fun b H3 => if b = true then t σ2 H3 N1 else N1 H3)
section
variable {X : Cx}
theorem pbd_D {D : Addr} {kx vx : Expr} {tk tv : TE} (hx : X.xe = fun _ _ => False) (hk : PE X kx tk) (hv : PE X vx tv) : PBd X (payE (emD kx vx (.ref D) X.env)) [] (tEmD D tk tv) := ⟨fun pins s σ H Nx k Q E I q kk => by
  unfold payE emD
  have h1 := hk.run pins s σ H _ I q
  rw [hx] at h1
  refine wpAny_bind (wpAny_bind (noF h1 fun v s1 ⟨y, H1, I1, r1, q1⟩ => ?_))
  have h2 := hv.run pins s1 σ H1 _ I1 q1
  rw [hx] at h2
  refine wpAny_bind (wpAny_holding (noF h2 fun v2 s2 ⟨z, H2, I2, r2, kvs, kk2, ek, hD, hz, nx⟩ => ?_))
  subst ek
  exact wpAny_bind (wpAny_standAt (wpAny_holding (d_dictSet I2 hD hz r1 r2 fun s3 I3 => kk _ _ I3 nx)))⟩
theorem pbd_nest {c tg iter : Expr} {ifs : List Expr} {gs : List Comprehension} {pay : Value → Env → Sem PySem.Fin → Sem PySem.Fin} {j : Nat} {D : Addr} {wi : TI} {g : TG} {tt : TT} {t : TB} {vs ws : List Nat} (hc : X.calm = true) (hx : X.xe = fun _ _ => False) (hgs : gs[j]? = some ⟨tg, iter, ifs, 0⟩) (hcl : clausesOf c = gs)
    (hk : IsLD c) (heq : TurnIs c tg iter ifs pay j) (hi : PI X tg iter wi) (hg : PG X tg g) (ht : PTs X ifs tt) (hp : PBd X (pay (.ref D) X.env) ws t) (hws : ∀ i ∈ ws, i ∈ vs) (hs : ∀ env x, foldedSetIterable iter env x = pure x) :
    PBd X (payN c iter j (.ref D) X.env) vs (tNest wi g tt t vs) := ⟨fun pins s σ H Nx k Q E I q kk => by
  unfold payN
  have h1 := hi.run pins s σ H _ I q
  rw [hx] at h1
  refine wpAny_bind (noF h1 fun xv s1 hx1 => wpAny_bind (wpAny_standAt (wpAny_bind (wpAny_of_eq (hs X.env xv) (wpAny_bind (wpAny_holding (noF hx1 fun itv s2 h2 => ?_)))))))
  obtain ⟨it, fp, tn, J, H1, e1, I1, T, st, f1, W, ⟨m0, w0⟩, turn⟩ := h2
  subst e1
  refine wpAny_bind (wpAny_runOwn ?_)
  rw [Around.mark_none]
  have stat : ∀ {H' : Hp}, (∀ b ∈ fp, H' b = none) → ∀ b ∈ fp, FpOk X pins H' b := fun hn b hb => ⟨hn b hb, (f1 b hb).2⟩
  have loop : codeAny (model X.prog X.w) X.A (.compLoop c j (.ref it) (.ref D) X.env) (fun r s' => match r with
      | .ok _ => ∃ H', Inv X pins (wipe σ vs) H' s' ∧ Nx H'
      | .error _ => False) s2 := by
    refine loopC hk heq (fun k s' => ∃ i H', Inv X pins (wipe σ vs) H' s' ∧ tn i s'.heap ∧ (∀ b ∈ fp, H' b = none) ∧ W i k H') ?_ m0 ⟨0, H1, I1.weak (wipe_length _ _) (fun j v e => (wipe_some e).1), st, fun b hb => (f1 b hb).1, w0⟩
    rintro k s3 ⟨i, H3, I3, st3, n3, w3⟩
    rcases turn i k H3 w3 with ⟨stop, nx⟩ | ⟨go, N1, hN1, step⟩
    · refine thnF (T.done X rfl rfl rfl hc i _ s3 (wipe σ vs) H3 (fun _ _ => False) I3 (stat n3) st3 stop) fun r s4 ⟨hr, I4⟩ => ?_
      subst hr
      exact ⟨H3, I4, nx⟩
    · refine thnF (T.item X rfl rfl rfl hc i _ s3 (wipe σ vs) H3 (fun _ _ => False) I3 (stat n3) st3 go) fun r s4 ⟨u, hr, h4⟩ => ?_
      subst hr
      refine thnF h4 fun _ s5 ⟨x, H5, I5, r5, y5, st5, n5⟩ => ?_
      have I5' := I5.pinned (stat n5) (T.obj _ _ st5)
      have hgr := hg.run _ s5 (wipe σ vs) H5 x u _ I5' r5 (step x H5 y5)
      rw [hx] at hgr
      refine thnF hgr fun _ s6 ⟨σ6, H6, I6, hw6, q6⟩ => ?_
      have htr := ht.run _ s6 σ6 H6 _ I6 q6
      rw [hx] at htr
      refine thnF htr fun b s7 ⟨H7, I7, q7⟩ => ?_
      have fin : ∀ {σ9 : L2.St} {s' : Shared} {H' : Hp}, Inv X (pins ++ pinsAt fp s5.heap) σ9 H' s' → (wipe σ vs).length = σ9.length → (∀ (j : Nat) v, (wipe σ vs)[j]? = some (some v) → σ9[j]? = some (some v)) → N1 H' → ∃ m, m < k ∧ ∃ i H', Inv X pins (wipe σ vs) H' s' ∧ tn i s'.heap ∧ (∀ b ∈ fp, H' b = none) ∧ W i m H' := fun {σ9 s' H'} I' hl hk nx => by
        obtain ⟨m', hm, w'⟩ := hN1 H' nx
        have pin' : ∀ b ∈ fp, ∀ o, s5.heap.get? b = some o → s'.heap.get? b = some o ∧ H' b = none := fun b hb o e =>
          have z := I'.pin (b, o) (List.mem_append_right _ (List.mem_append_right _ (mem_pinsAt hb e)))
          ⟨z.1, z.2.1⟩
        refine ⟨m', hm, i + 1, H', I'.unpinned.weak hl hk, T.keep _ _ _ st5 fun b hb o e => (pin' b hb o e).1, fun b hb => ?_, w'⟩
        obtain ⟨o, e, _⟩ := T.obj _ _ st5 b hb
        exact (pin' b hb o e).2
      have hl6 : (wipe σ vs).length = σ6.length := by rw [← hw6, wipe_length]
      cases b with
      | false =>
        simp only [Bool.false_eq_true, if_false] at q7 ⊢
        exact fin I7 hl6 (fun j v e => by rw [← hw6] at e; exact (wipe_some e).1) q7
      | true =>
        simp only [if_true] at q7 ⊢
        intro k2 Q2 E2 kk2
        refine hp.run _ s7 σ6 H7 _ k2 Q2 E2 I7 q7 fun s8 H8 I8 nx8 => kk2 _ ?_
        refine fin I8 (hl6.trans (wipe_length σ6 ws).symm) (fun j v e => ?_) nx8
        rw [← hw6] at e
        obtain ⟨e1, e2⟩ := wipe_some e
        rw [L2.wipe_out fun z => e2 (hws j z)]
        exact e1
  refine codeAny_mono (startC hk (by rw [hcl]; exact hgs) loop (T.self X.A 0 _ _ _ st loop)) fun r s' hr => ?_
  cases r with
  | ok f =>
    obtain ⟨H', I', nx⟩ := hr
    exact kk _ _ I' nx
  | error e => exact hr.elim⟩
/-- a comprehension: what is walked, what is done with each item; o0: the new thing at first -/
def tComp (o0 : HO) (wi : TI) (g : TG) (tt : TT) (t : Addr → TB) (vs : List Nat) : TE := fun σ H Q => wi σ H fun J H1 => ∀ D, H1 D = none → ∃ W : Nat → Nat → Hp → Prop, (∃ m, W 0 m (upd H1 D o0)) ∧ ∀ i m H, W i m H →
  (J.stop i H ∧ Q (.ref D) H) ∨ (J.go i H ∧ ∃ N1 : Hp → Prop, (∀ H', N1 H' → ∃ m', m' < m ∧ W (i + 1) m' H') ∧ ∀ x H', J.yld i H x H' → g x (wipe σ vs) H' fun σ2 H2 => wipe σ2 vs = wipe σ vs ∧ tt σ2 H2 fun b H3 => if b = true then t D σ2 H3 N1 else N1 H3)
theorem comp_core {pins : List (Addr × Obj)} {s : Shared} {σ : L2.St} {H : Hp} {Q : VK} {c tg iter : Expr} {ifs : List Expr} {rest : List Comprehension} {scope : Scope} {own : List (Str × Nat)} {pos' : Pos} {wi : TI} {g : TG} {tt : TT} {t : Addr → TB} {ws : List Nat}
    {pay : Value → Env → Sem PySem.Fin → Sem PySem.Fin} {use : Option (Value → Sem Unit)} {Qf : Value → Shared → Prop} {mk : Sem Value} {ob : Obj} {o0 : HO} (hk : IsLD c) (hcl : clausesOf c = ⟨tg, iter, ifs, 0⟩ :: rest) (heq : TurnIs c tg iter ifs pay 0)
    (hmk : ∀ (s : Shared) (Q : Value → Shared → Prop), Q (.ref s.heap.objs.size) { s with heap := s.heap.push ob } → wpAny (model X.prog X.w) X.A mk Q X.xe s)
    (hob : ∀ {H : Hp} {s : Shared}, Inv X pins σ H s → Inv X pins σ (upd H s.heap.objs.size o0) { s with heap := s.heap.push ob })
    (hc : X.calm = true) (hN : X.N.Nodup) (I : Inv X pins σ H s) (hi : PI X tg iter wi) (ok : BlkOk X.N X.env.scope scope own) (hws : ∀ i ∈ ws, i ∈ own.map (·.2))
    (hg : ∀ (s : Shared) (H : Hp) (C : Addr) (cl : List (Str × Addr)) (fp : List Addr), PG (X.blk s H scope (compEnvC scope cl C X.env) fp) tg g) (ht : ∀ (s : Shared) (H : Hp) (C : Addr) (cl : List (Str × Addr)) (fp : List Addr), PTs (X.blk s H scope (compEnvC scope cl C X.env) fp) ifs tt)
    (hp : ∀ (s : Shared) (H : Hp) (C : Addr) (cl : List (Str × Addr)) (fp : List Addr) (D : Addr), PBd (X.blk s H scope (compEnvC scope cl C X.env) fp) (pay (.ref D) (compEnvC scope cl C X.env)) ws (t D))
    (hs : ∀ x, foldedSetIterable iter X.env x = pure x) (h : tComp o0 wi g tt t (own.map (·.2)) σ H Q)
    (hRR : ∀ D C s' m H', Inv X pins σ H' s' → Q (.ref D) H' → s'.heap.Ns C m → FpOk X pins H' C → compPost (model X.prog X.w) X.A X.xe use Qf (.ref D) C (.ok .next) s') :
    wpAny (model X.prog X.w) X.A (comprehension c scope X.env pos' mk false (eval iter X.env) use) Qf X.xe s := by
  have hfree : ∀ y ∈ scope.names, y.2 = .free → ∃ c, X.env.cells.lookup y.1 = some c := fun y hy e => (ok.free y hy e).elim (fun k => I.ok.has _ (.inl k)) fun k => I.ok.has _ (.inr k)
  refine wpAny_comprehension_free (use := use) hcl hs (closure_ok hfree) ok.kind (fun y hy e => by rw [ok.uniq y hy, e]) (thn (hi.run pins s σ H _ I h) fun xv s1 hx => thn hx fun itv s2 h2 => ?_)
  obtain ⟨it, fp, tn, J, H2, e, I2, T, st2, f2, q⟩ := h2
  subst e
  refine hmk _ _ (newEnv_comp ?_)
  have I3 := hob I2
  generalize hD : s2.heap.objs.size = D at I3 ⊢
  have hDn : H2 D = none := I2.hok.fresh (Nat.le_of_eq hD)
  obtain ⟨W, ⟨m0, w0⟩, turn⟩ := q D hDn
  generalize hs3 : ({ s2 with heap := s2.heap.push ob } : Shared) = s3 at I3
  have h3 : s3.heap = s2.heap.push ob := by rw [← hs3]
  have sz : ∀ b ∈ fp, b < s2.heap.objs.size := fun b hb => (T.obj _ _ st2 b hb).elim fun o e => Heap.lt_size e.1
  have f3 : ∀ b ∈ fp, FpOk X pins (upd H2 D o0) b ∧ b < s3.heap.objs.size := fun b hb => by
    have hlt := sz b hb
    refine ⟨⟨?_, (f2 b hb).2⟩, by rw [h3, Heap.size_push]; exact Nat.lt_succ_of_lt hlt⟩
    rw [upd_ne (by rw [← hD]; exact Nat.ne_of_lt hlt)]; exact (f2 b hb).1
  have st3 : tn 0 s3.heap := T.keep _ _ _ st2 fun b _ o e => by rw [h3]; exact Heap.get?_push_of_some _ e
  have I4 := block_start I3 ok hN f3
  have pg := hg s3 (upd H2 D o0) s3.heap.objs.size (cellsFrom (s3.heap.objs.size + 1) scope.names (cloFrom X.env.cells scope.names [])) fp
  have pt := ht s3 (upd H2 D o0) s3.heap.objs.size (cellsFrom (s3.heap.objs.size + 1) scope.names (cloFrom X.env.cells scope.names [])) fp
  have pb := hp s3 (upd H2 D o0) s3.heap.objs.size (cellsFrom (s3.heap.objs.size + 1) scope.names (cloFrom X.env.cells scope.names [])) fp D
  show codeAny _ _ (.compStart c 0 (.ref it) (.ref D) (compEnvC scope (cellsFrom (s3.heap.objs.size + 1) scope.names (cloFrom X.env.cells scope.names [])) s3.heap.objs.size X.env)) (compPost (model X.prog X.w) X.A X.xe use Qf (.ref D) s3.heap.objs.size) { s3 with heap := pushCells (s3.heap.push { cls := .type "dict", data := .dict #[] }) scope.names }
  have nfp : ∀ b ∈ fp, (upd H2 D o0) b = none := fun b hb => (f3 b hb).1.1
  generalize hce : compEnvC scope (cellsFrom (s3.heap.objs.size + 1) scope.names (cloFrom X.env.cells scope.names [])) s3.heap.objs.size X.env = ce at I4 pg pt pb ⊢
  have cL : ce.locals = s3.heap.objs.size := by subst hce; rfl
  generalize hH3 : upd H2 D o0 = H3 at I3 I4 pg pt pb w0 nfp f3
  generalize hs4 : ({ s3 with heap := pushCells (s3.heap.push { cls := .type "dict", data := .dict #[] }) scope.names } : Shared) = s4 at I4 ⊢
  have st4 : tn 0 s4.heap := T.keep _ _ _ st3 fun b _ o e => by rw [← hs4]; exact pushCells_keeps _ _ _ _ (Heap.get?_push_of_some _ e)
  have stat : ∀ {σ' : L2.St} {H' : Hp} {s' : Shared}, Inv (X.blk s3 H3 scope ce fp) [] σ' H' s' → (∀ b ∈ fp, H' b = none) → ∀ b ∈ fp, FpOk (X.blk s3 H3 scope ce fp) [] H' b := fun {σ' H' s'} I' hn b hb =>
    ⟨hn b hb, (I'.ok.exf b hb).1, I'.ok.exfs b hb, .inl hb, fun x c e => (I'.ok.exf b hb).2 x c e, fun p hp => absurd (show p ∈ ([] : List (Addr × Obj)) ++ [] from hp) (by simp)⟩
  have loop : codeAny (model X.prog X.w) X.A (.compLoop c 0 (.ref it) (.ref D) ce) (compPost (model X.prog X.w) X.A X.xe use Qf (.ref D) s3.heap.objs.size) s4 := by
    refine loopC hk heq (fun n s' => ∃ i H', Inv (X.blk s3 H3 scope ce fp) [] (wipe σ (own.map (·.2))) H' s' ∧ tn i s'.heap ∧ (∀ b ∈ fp, H' b = none) ∧ W i n H') ?_ m0 ⟨0, H3, I4, st4, nfp, w0⟩
    rintro n s5 ⟨i, H5, I5, st5, n5, w5⟩
    rcases turn i n H5 w5 with ⟨stop, qq⟩ | ⟨go, Nx, hNx, step⟩
    · refine thnF (T.done (X.blk s3 H3 scope ce fp) rfl rfl rfl hc i [] s5 _ H5 (fun _ _ => False) I5 (stat I5 n5) st5 stop) fun r s6 ⟨hr, I6⟩ => ?_
      subst hr
      have I7 : Inv X pins σ H5 s6 := I3.call' (ch := fp) I6.os I6.base I6.hok I6.bare fun b hb => ⟨(f3 b hb).1.2.2.2.1, (f3 b hb).1.2.1, (f3 b hb).1.2.2.2.2.1, (f3 b hb).1.2.2.2.2.2⟩
      have nC : H5 s3.heap.objs.size = none := by
        have z : H5 ce.locals = none := I6.free
        rw [cL] at z; exact z
      obtain ⟨m, hn, _⟩ := I6.loc
      have hn : s6.heap.Ns ce.locals m := hn
      rw [cL] at hn
      exact hRR D s3.heap.objs.size s6 m H5 I7 qq hn (I3.fpOk (Nat.le_refl _) nC)
    · refine thnF (T.item (X.blk s3 H3 scope ce fp) rfl rfl rfl hc i [] s5 _ H5 (fun _ _ => False) I5 (stat I5 n5) st5 go) fun r s6 ⟨u, hr, h6⟩ => ?_
      subst hr
      refine thnF h6 fun _ s7 ⟨x, H7, I7, r7, y7, st7, n7⟩ => ?_
      have I7' := I7.pinned (stat I7 n7) (T.obj _ _ st7)
      refine thnF (pg.run _ s7 _ H7 x u _ I7' r7 (step x H7 y7)) fun _ s8 ⟨σ8, H8, I8, hw8, q8⟩ => ?_
      refine thnF (pt.run _ s8 σ8 H8 _ I8 q8) fun b s9 ⟨H9, I9, q9⟩ => ?_
      have fin : ∀ {σ9 : L2.St} {s' : Shared} {H' : Hp}, Inv (X.blk s3 H3 scope ce fp) ([] ++ pinsAt fp s7.heap) σ9 H' s' → (wipe σ (own.map (·.2))).length = σ9.length → (∀ (j : Nat) v, (wipe σ (own.map (·.2)))[j]? = some (some v) → σ9[j]? = some (some v)) → Nx H' →
          ∃ m, m < n ∧ ∃ i H', Inv (X.blk s3 H3 scope ce fp) [] (wipe σ (own.map (·.2))) H' s' ∧ tn i s'.heap ∧ (∀ b ∈ fp, H' b = none) ∧ W i m H' := fun {σ9 s' H'} I' hl hk nx => by
        obtain ⟨m', hm, w'⟩ := hNx H' nx
        have pin' : ∀ b ∈ fp, ∀ o, s7.heap.get? b = some o → s'.heap.get? b = some o ∧ H' b = none := fun b hb o e =>
          have z := I'.pin (b, o) (List.mem_append_right _ (List.mem_append_right _ (mem_pinsAt hb e)))
          ⟨z.1, z.2.1⟩
        refine ⟨m', hm, i + 1, H', (I'.unpinned (pins := [])).weak hl hk, T.keep _ _ _ st7 fun b hb o e => (pin' b hb o e).1, fun b hb => ?_, w'⟩
        obtain ⟨o, e, _⟩ := T.obj _ _ st7 b hb
        exact (pin' b hb o e).2
      have hl8 : (wipe σ (own.map (·.2))).length = σ8.length := by rw [← hw8, wipe_length]
      cases b with
      | false =>
        simp only [Bool.false_eq_true, if_false] at q9 ⊢
        exact fin I9 hl8 (fun j v e => by rw [← hw8] at e; exact (wipe_some e).1) q9
      | true =>
        simp only [if_true] at q9 ⊢
        intro k2 Q2 E2 kk2
        refine pb.run _ s9 σ8 H9 _ k2 Q2 E2 I9 q9 fun s10 H10 I10 nx10 => kk2 _ ?_
        refine fin I10 (hl8.trans (wipe_length σ8 ws).symm) (fun j v e => ?_) nx10
        rw [← hw8] at e
        obtain ⟨e1, e2⟩ := wipe_some e
        rw [L2.wipe_out fun z => e2 (hws j z)]
        exact e1
  exact startC hk (by rw [hcl]; rfl) loop (T.self X.A 0 _ _ _ st4 loop)
theorem mk_dict {s : Shared} {Q : Value → Shared → Prop} (q : Q (.ref s.heap.objs.size) { s with heap := s.heap.push { cls := .type "dict", data := .dict #[] } }) : wpAny (model X.prog X.w) X.A newDict Q X.xe s := wpAny_newObj_type q
theorem ob_dict {pins : List (Addr × Obj)} {σ : L2.St} {H : Hp} {s : Shared} (I : Inv X pins σ H s) : Inv X pins σ (upd H s.heap.objs.size (.dK [])) { s with heap := s.heap.push { cls := .type "dict", data := .dict #[] } } :=
  I.laid (t' := s.toks) (fun b o e => Heap.get?_push_of_some _ e) (Nat.le_refl _) (dk_empty s.heap I.big)
section
variable {tg iter elt kx vx : Expr} {ifs : List Expr} {rest : List Comprehension} {scope : Scope} {own : List (Str × Nat)} {pos : Pos} {wi : TI} {g : TG} {tt : TT} {t : Addr → TB} {ws : List Nat} {pay : Value → Env → Sem PySem.Fin → Sem PySem.Fin}
/-- {k: v ..}, of any number of clauses, keys numbers and texts -/
theorem pe_dcN (heq : TurnIs (.DictComp kx vx (⟨tg, iter, ifs, 0⟩ :: rest) scope pos) tg iter ifs pay 0) (hc : X.calm = true) (hN : X.N.Nodup) (hi : PI X tg iter wi) (ok : BlkOk X.N X.env.scope scope own) (hws : ∀ i ∈ ws, i ∈ own.map (·.2))
    (hg : ∀ (s : Shared) (H : Hp) (C : Addr) (cl : List (Str × Addr)) (fp : List Addr), PG (X.blk s H scope (compEnvC scope cl C X.env) fp) tg g) (ht : ∀ (s : Shared) (H : Hp) (C : Addr) (cl : List (Str × Addr)) (fp : List Addr), PTs (X.blk s H scope (compEnvC scope cl C X.env) fp) ifs tt)
    (hp : ∀ (s : Shared) (H : Hp) (C : Addr) (cl : List (Str × Addr)) (fp : List Addr) (D : Addr), PBd (X.blk s H scope (compEnvC scope cl C X.env) fp) (pay (.ref D) (compEnvC scope cl C X.env)) ws (t D)) (hs : ∀ x, foldedSetIterable iter X.env x = pure x := by intro _; rfl) :
    PE X (.DictComp kx vx (⟨tg, iter, ifs, 0⟩ :: rest) scope pos) (tComp (.dK []) wi g tt t (own.map (·.2))) := by
  refine ⟨fun pins s σ H Q I h => ?_⟩
  rw [arm_eval_DictComp]
  refine comp_core (.d ..) rfl heq (fun s Q q => mk_dict q) ob_dict hc hN I hi ok hws hg ht hp hs h fun D C s' m H' I' q hn f => ⟨m, hn, fun h'' sb => ?_⟩
  obtain ⟨f0, f1, f2, f3, f4, f5⟩ := f
  exact ⟨.ref D, H', I'.turned (t' := s'.toks) (fun b o hb e => (sb.2 b hb).trans e) f0 f1 f3 f4 f5, rfl, q⟩
end
end
end Ev
namespace Ev
open PySem PySem.Spec PyProof.Rows L2
variable [TabC]
variable {S S' H H' : Hp} {B : Bs} {δ : DS} {σ : L2.St}
/-- what is gathered: a list, a dict -/
structure AccK (K : PySem.W.Frag) (α : Type) where
  β : Type
  ob : β → HO
  rel : Hp → β → α → Prop
  nt : ∀ b vs, ob b ≠ .tup vs
  pl : ∀ b, HO.plain (ob b) = true
  mono : ∀ {S S' : Hp} {b : β} {a : α}, Ex S S' → rel S b a → rel S' b a
def accD (K : PySem.W.Frag) : AccK K (List (Key × D)) := ⟨List (Key × V), .dK, fun S vs ds => KvR K S vs ds, (fun _ _ z => nomatch z), fun _ => rfl, fun e h => ⟨h.1, h.2.mono e⟩⟩
abbrev dBd (α : Type) := α → DS → (α → DS → Prop) → Prop
def bEl (te : dE) : dBd (List D) := fun acc δ Q => te W0 δ fun y δ' => acc.length < sizeLine ∧ Q (acc ++ [y]) δ'
def bEd (tk tv : dE) : dBd (List (Key × D)) := fun acc δ Q => tk W0 δ fun y δ1 => tv W0 δ1 fun z δ2 => optQ y.key fun k => acc.length < sizeLine ∧ Q (putD acc k z) δ2
def wNest {α : Type} (g : dG) (tt : dT) (b : dBd α) (vs : List Nat) (Q : α → DS → Prop) : List D → α → DS → Prop
  | [], acc, δ => Q acc δ
  | d :: ds, acc, δ => g d δ fun δ1 => tt W0 δ1 fun k δ2 => match k with
    | true => b acc δ2 fun acc' δ3 => wNest g tt b vs Q ds acc' (wipeD δ3 vs)
    | false => wNest g tt b vs Q ds acc (wipeD δ2 vs)
def bNest {α : Type} (w : dI) (g : dG) (tt : dT) (b : dBd α) (vs : List Nat) : dBd α := fun acc δ Q => w W0 δ fun ds δ1 => wNest g tt b vs Q ds acc (wipeD δ1 vs)
def dLN (w : dI) (g : dG) (tt : dT) (b : dBd (List D)) (vs : List Nat) : dF := fun W δ Q => w W δ fun ds δ1 => wNest g tt b vs Q ds [] (wipeD δ1 vs)
def dDN (w : dI) (g : dG) (tt : dT) (b : dBd (List (Key × D))) (vs : List Nat) : dE := fun W δ Q => w W δ fun ds δ1 => wNest g tt b vs (fun es δ2 => Q (.dK es) δ2) ds [] (wipeD δ1 vs)
def liftBd {K : PySem.W.Frag} {α : Type} (A : AccK K α) (b : dBd α) (vs : List Nat) (L : Addr) : TB := fun σ H Nx => ∃ (B : Bs) (δ : DS) (S : Hp) (acc : α) (vacc : A.β) (Q' : α → DS → Prop), B.H0 L = none ∧ B.pa ≠ some L ∧ S L = none ∧ Rel K (B.with L (A.ob vacc)) δ S σ H ∧ A.rel S vacc acc ∧ b acc δ Q' ∧
  ∀ acc' δ' S' H' vacc', Q' acc' δ' → Ex S S' → Rel K (B.with L (A.ob vacc')) δ' S' (L2.wipe σ vs) H' → A.rel S' vacc' acc' → Nx H'
structure DBd {α : Type} (X : Cx) (pay : Addr → Sem PySem.Fin → Sem PySem.Fin) (A : AccK X.K α) (vs : List Nat) (b : dBd α) : Prop where
  run : ∀ L, PBd X (pay L) vs (liftBd A b vs L)
theorem pbd_mono {X : Cx} {p : Sem PySem.Fin → Sem PySem.Fin} {vs : List Nat} {t t' : TB} (h : PBd X p vs t) (m : ∀ σ H Nx, t' σ H Nx → t σ H Nx) : PBd X p vs t' := ⟨fun pins s σ H Nx k Q E I q kk => h.run pins s σ H Nx k Q E I (m _ _ _ q) kk⟩
theorem Rel.noL {K : PySem.W.Frag} {L : Addr} {o : HO} (R : Rel K (B.with L o) δ S σ H) (h : B.S0 L = none) : S L = none := R.fr.no L o upd_same h
section
variable {X : Cx} {E E2 : EK} {elt kx vx tg iter : Expr} {te tk tv : dE} {w : dI} {g : dG} {tt : dT} {ifs : List Expr} {α : Type}
theorem dbd_D (hx : X.xe = fun _ _ => False) (hk : DE X E kx tk) (hv : DE X E vx tv) : DBd X (fun L => payE (emD kx vx (.ref L) X.env)) (accD X.K) [] (bEd tk tv) := ⟨fun L => pbd_mono (pbd_D (tk := exE X.K E tk) (tv := exE X.K E tv) hx (exE_ok hk) (exE_ok hv)) fun σ H Nx q => by
  obtain ⟨B, δ, S, acc, (vacc : List (Key × V)), Q', f1, f2, sL, R, r, q, post⟩ := q
  have r : KvR X.K S vacc acc := r
  have s0 : (B.with L (.dK vacc)).S0 L = none := by
    have := R.fr.s
    cases z : (B.with L (.dK vacc)).S0 L with
    | none => rfl
    | some o => rw [this L o z] at sL; cases sL
  refine ⟨B.with L (.dK vacc), δ, S, W0, _, R, q, xok0, fun y δ1 u S1 H1 q1 e1 R1 n1 => ?_⟩
  refine ⟨B.with L (.dK vacc), δ1, S1, W0, _, R1, q1, xok0, fun z δ2 v S2 H2 q2 e2 R2 n2 => ?_⟩
  obtain ⟨k, hk, hz, q3⟩ := optQ_ex q2
  have ek := n1.key hk
  have r2 : KvR X.K S2 vacc acc := ⟨r.1, r.2.mono (e1.trans e2)⟩
  have hl : vacc.length = acc.length := by have := congrArg List.length r.1; rw [List.length_map, List.length_map] at this; exact this
  refine ⟨vacc, k, ek, R2.fr.pl upd_same f2, by omega, ?_⟩
  exact post _ _ _ _ (putK vacc k v) q3 (e1.trans e2) (R2.with_upd (o' := .dK (putK vacc k v)) f1 f2 (R2.fr.no L _ upd_same s0) (fun vs z => HO.noConfusion z)) (KvR.put r2 n2 k)⟩
def exI (K : PySem.W.Frag) (E : EK) (w : dI) : TI := fun σ H R => ∃ B, liftI K B E w σ H R
theorem exI_ok (h : DI X E tg iter w) : PI X tg iter (exI X.K E w) := ⟨fun pins s σ H R I ⟨B, q⟩ => (h.run B).run pins s σ H R I q⟩
/-- the loop of a clause -/
theorem nest_read {K : PySem.W.Frag} {A : AccK K α} {b : dBd α} {vs vs2 ws : List Nat} {ds : List D} {J : It} {S1 H1 : Hp} {δ1 : DS} {acc : α} {vacc : A.β} {L : Addr} {Qd : α → DS → Prop} {QQ : Hp → Prop} (hws : ∀ i ∈ ws, i ∈ vs) (hvs : ∀ i ∈ vs2, i ∈ vs) (f1 : B.H0 L = none) (f2 : B.pa ≠ some L) (s0 : B.S0 L = none)
    (it1 : ItOk K J ds S1) (R1 : Rel K (B.with L (A.ob vacc)) δ1 S1 (L2.wipe σ vs) H1) (r1 : A.rel S1 vacc acc) (hun : ∀ j ∈ vs, j < δ1.sl.length → δ1.sl[j]? = some .un) (q1 : wNest g tt b vs Qd ds acc δ1)
    (post : ∀ acc' δ' S' H' vacc', Qd acc' δ' → (∀ j ∈ vs, j < δ'.sl.length → δ'.sl[j]? = some .un) → Ex S1 S' → Rel K (B.with L (A.ob vacc')) δ' S' (L2.wipe σ vs) H' → A.rel S' vacc' acc' → QQ H') :
    ∃ W : Nat → Nat → Hp → Prop, (∃ m, W 0 m H1) ∧ ∀ i m H, W i m H → (J.stop i H ∧ QQ H) ∨ (J.go i H ∧ ∃ N1 : Hp → Prop, (∀ H', N1 H' → ∃ m', m' < m ∧ W (i + 1) m' H') ∧ ∀ x H', J.yld i H x H' → exG K g ws x (L2.wipe σ vs) H' fun σ2 H2 => L2.wipe σ2 vs = L2.wipe σ vs ∧ exT K E2 tt σ2 H2 fun k H3 => if k = true then liftBd A b vs2 L σ2 H3 N1 else N1 H3) := by
  have Ln : ∀ {δ S2 σ2 H2 o}, Rel K (B.with L o) δ S2 σ2 H2 → S2 L = none := fun {δ S2 σ2 H2 o} R2 => R2.fr.no L o upd_same s0
  let Inv : Nat → Hp → Prop := fun i H2 => ∃ δ2 S2 acc vacc, Ex S1 S2 ∧ Rel K (B.with L (A.ob vacc)) δ2 S2 (L2.wipe σ vs) H2 ∧ A.rel S2 vacc acc ∧ wNest g tt b vs Qd (ds.drop i) acc δ2 ∧ (∀ j ∈ vs, j < δ2.sl.length → δ2.sl[j]? = some .un)
  refine ⟨fun i m H2 => m = ds.length - i ∧ i ≤ ds.length ∧ Inv i H2, ⟨_, rfl, Nat.zero_le _, δ1, S1, acc, vacc, Ex.refl _, R1, r1, q1, hun⟩, ?_⟩
  rintro i m H2 ⟨rfl, hi, δ2, S2, acc, vacc, e2, R2, nacc, q2, hun⟩
  by_cases hlt : i < ds.length
  · refine .inr ⟨it1.goes i S2 H2 e2 R2.ex hlt, fun H' => i + 1 ≤ ds.length ∧ Inv (i + 1) H', fun H' h => ⟨ds.length - (i + 1), by omega, rfl, h⟩, fun x H3 y => ?_⟩
    obtain ⟨S3, d, g3, ed, dn⟩ := it1.yields i S2 H2 x H3 e2 R2.ex hlt y
    have hd : ds.drop i = d :: ds.drop (i + 1) := by
      obtain ⟨h1, h2⟩ := List.getElem?_eq_some_iff.mp ed
      rw [List.drop_eq_getElem_cons h1, h2]
    rw [hd] at q2
    refine ⟨B.with L (A.ob vacc), δ2, S3, d, _, R2.grow g3, dn, q2, fun δ4 σ4 S4 H4 q4 e4 R4 a4 l4 => ?_⟩
    have hw : L2.wipe σ4 vs = L2.wipe σ vs := wipe_agree (l4.trans (wipe_length σ vs)) (fun j hj => by rw [a4 j (fun z => hj (hws j z)), wipe_notin hj]) (fun _ h => h)
    refine ⟨hw, B.with L (A.ob vacc), δ4, S4, W0, _, R4, q4, xok0, fun k δ5 S5 H5 q5 e5 R5 => ?_⟩
    have e15 := e2.trans (g3.s.trans (e4.trans e5))
    cases k with
    | true =>
      refine iteT ⟨B, δ5, S5, acc, vacc, _, f1, f2, Ln R5, R5, A.mono (g3.s.trans (e4.trans e5)) nacc, q5, fun acc' δ6 S6 H6 vacc' q6 e6 R6 r6 => ?_⟩
      refine ⟨hlt, wipeD δ6 vs, S6, acc', vacc', e15.trans e6, ?_, r6, q6, fun j hj hl => wipeD_un δ6 hj (by rw [wipeD_len] at hl; exact hl)⟩
      have := R6.wipe vs
      rw [show L2.wipe (L2.wipe σ4 vs2) vs = L2.wipe σ vs from (by rw [← hw]; exact wipe_agree (wipe_length σ4 vs2) (fun j hj => wipe_notin hj) hvs)] at this
      exact this
    | false =>
      refine iteF ⟨hlt, wipeD δ5 vs, S5, acc, vacc, e15, ?_, A.mono (g3.s.trans (e4.trans e5)) nacc, q5, fun j hj hl => wipeD_un δ5 hj (by rw [wipeD_len] at hl; exact hl)⟩
      have := R5.wipe vs
      rw [hw] at this
      exact this
  · have e : i = ds.length := by omega
    subst e
    rw [List.drop_length] at q2
    exact .inl ⟨it1.stops S2 H2 e2 R2.ex, post acc δ2 S2 H2 vacc q2 hun e2 R2 nacc⟩
theorem Rel.re {K : PySem.W.Frag} {vs : List Nat} (R : Rel K B δ S (L2.wipe σ vs) H) (hun : ∀ j ∈ vs, j < δ.sl.length → δ.sl[j]? = some .un) : Rel K B δ S σ H := by
  have hl : σ.length = (L2.wipe σ vs).length := (wipe_length σ vs).symm
  refine R.agree hl fun j => ?_
  by_cases hj : j ∈ vs
  · by_cases hk : j < δ.sl.length
    · exact .inr (hun j hj hk)
    · left
      have h1 : σ.length ≤ j := by rw [hl, R.len]; omega
      rw [List.getElem?_eq_none h1, List.getElem?_eq_none (by rw [wipe_length]; exact h1)]
  · exact .inl (wipe_notin hj).symm
theorem dbd_nest {c : Expr} {gs : List Comprehension} {pay : Value → Env → Sem PySem.Fin → Sem PySem.Fin} {j : Nat} {A : AccK X.K α} {b : dBd α} {vs vs2 ws : List Nat} (hc : X.calm = true) (hx : X.xe = fun _ _ => False) (hgs : gs[j]? = some ⟨tg, iter, ifs, 0⟩) (hcl : clausesOf c = gs) (hk : IsLD c) (heq : TurnIs c tg iter ifs pay j)
    (hi : DI X E tg iter w) (hg : DG X tg g ws) (ht : DTs X E2 ifs tt) (hb : DBd X (fun L => pay (.ref L) X.env) A vs2 b) (hws : ∀ i ∈ ws, i ∈ vs) (hvs : ∀ i ∈ vs2, i ∈ vs) (hs : ∀ env x, foldedSetIterable iter env x = pure x) :
    DBd X (fun L => payN c iter j (.ref L) X.env) A vs (bNest w g tt b vs) := ⟨fun L => pbd_mono (pbd_nest hc hx hgs hcl hk heq (exI_ok hi) (exG_ok hg) (exT_ok ht) (hb.run L) hvs hs) fun σ H Nx q => by
  obtain ⟨B, δ, S, acc, vacc, Q', f1, f2, sL, R, r, q, post⟩ := q
  have s0 : B.S0 L = none := by
    have := R.fr.s
    cases z : B.S0 L with
    | none => rfl
    | some o => rw [this L o z] at sL; cases sL
  refine ⟨B.with L (A.ob vacc), δ, S, W0, _, R, q, xok0, fun ds δ1 S1 H1 J q1 e1 R1 it1 => ?_⟩
  exact nest_read (σ := σ) hws hvs f1 f2 s0 it1 (R1.wipe vs) (A.mono e1 r) (fun j hj hl => wipeD_un δ1 hj (by rw [wipeD_len] at hl; exact hl)) q1 fun acc' δ' S' H' vacc' q' _ e' R' r' => post _ _ _ _ vacc' q' (e1.trans e') R' r'⟩
variable {rest : List Comprehension} {scope : Scope} {own : List (Str × Nat)} {pos : Pos} {ws vs2 : List Nat} {pay : Value → Env → Sem PySem.Fin → Sem PySem.Fin}
theorem de_dcN {b : dBd (List (Key × D))} (heq : TurnIs (.DictComp kx vx (⟨tg, iter, ifs, 0⟩ :: rest) scope pos) tg iter ifs pay 0) (hc : X.calm = true) (hN : X.N.Nodup) (hi : DI X E tg iter w) (ok : BlkOk X.N X.env.scope scope own) (hws : ∀ i ∈ ws, i ∈ own.map (·.2)) (hvs : ∀ i ∈ vs2, i ∈ own.map (·.2))
    (hg : ∀ (s : Shared) (H : Hp) (C : Addr) (cl : List (Str × Addr)) (fp : List Addr), DG (X.blk s H scope (compEnvC scope cl C X.env) fp) tg g ws) (ht : ∀ (s : Shared) (H : Hp) (C : Addr) (cl : List (Str × Addr)) (fp : List Addr), DTs (X.blk s H scope (compEnvC scope cl C X.env) fp) E2 ifs tt)
    (hb : ∀ (s : Shared) (H : Hp) (C : Addr) (cl : List (Str × Addr)) (fp : List Addr), DBd (X.blk s H scope (compEnvC scope cl C X.env) fp) (fun L => pay (.ref L) (compEnvC scope cl C X.env)) (accD X.K) vs2 b) (hs : ∀ x, foldedSetIterable iter X.env x = pure x := by intro _; rfl) :
    DE X E (.DictComp kx vx (⟨tg, iter, ifs, 0⟩ :: rest) scope pos) (dDN w g tt b (own.map (·.2))) := ⟨fun B => pe_mono (pe_dcN heq hc hN (hi.run B) ok hvs (fun s H C cl fp => exG_ok (hg s H C cl fp)) (fun s H C cl fp => exT_ok (ht s H C cl fp)) (fun s H C cl fp L => (hb s H C cl fp).run L) hs) fun σ H Q q => by
  obtain ⟨δ, S, W, Q', R, q, xo, post⟩ := q
  refine ⟨δ, S, W, _, R, q, xo, fun ds δ1 S1 H1 J q1 e1 R1 it1 L hL => ?_⟩
  obtain ⟨f1, f2⟩ := R1.fr.fresh hL
  have s1L : S1 L = none := R1.ex.none hL
  refine nest_read (E2 := E2) (A := accD X.K) (acc := ([] : List (Key × D))) (vacc := ([] : List (Key × V))) (σ := σ) (QQ := fun H' => Q (.ref L) H') hws hvs f1 f2 (R1.fr.s.none s1L) it1 ((R1.with_ hL (fun vs z => HO.noConfusion z)).wipe (own.map (·.2))) ⟨rfl, .nil⟩ (fun j hj hl => wipeD_un δ1 hj (by rw [wipeD_len] at hl; exact hl)) q1 fun acc' δ' S' H' vacc' q' hun e' R' r' => ?_
  have l2 := R'.noL (R1.fr.s.none s1L)
  obtain ⟨R3, _, eH⟩ := R'.unwith f1 f2 l2
  show Q (.ref L) H'
  rw [eH]
  have g0 := Grow.new (o := .dK vacc') R3.ex (p := L) hide_same
  have r' : KvR X.K S' vacc' acc' := r'
  exact post _ _ _ _ _ q' ((e1.trans e').trans g0.s) ((R3.re hun).grow g0) (.dK upd_same r'.1 (r'.2.mono g0.s))⟩
end
end Ev
namespace Ev
open PySem PySem.Spec PyProof.Rows L2
variable [TabC]
mutual
def D.nf : D → Bool
  | .fn _ _ => false
  | .tup xs => D.nfs xs
  | .kt xs => D.nfs xs
  | .lst xs => D.nfs xs
  | .dK es => D.nfk es
  | .dT es => D.nft es
  | .fK es => D.nfk es
  | .fT es => D.nft es
  | .fN _ => false
  | .exc _ _ _ => false
  | .exc0 _ => false
  | _ => true
def D.nfs : List D → Bool
  | [] => true
  | x :: xs => x.nf && D.nfs xs
def D.nfk : List (Key × D) → Bool
  | [] => true
  | (_, x) :: xs => x.nf && D.nfk xs
def D.nft : List (List Key × D) → Bool
  | [] => true
  | (_, x) :: xs => x.nf && D.nft xs
end
theorem nfk_map : ∀ es : List (Key × D), D.nfk es = D.nfs (es.map (·.2))
  | [] => rfl
  | (_, x) :: es => by show (x.nf && D.nfk es) = (x.nf && D.nfs (es.map (·.2))); rw [nfk_map es]
theorem nft_map : ∀ es : List (List Key × D), D.nft es = D.nfs (es.map (·.2))
  | [] => rfl
  | (_, x) :: es => by show (x.nf && D.nft es) = (x.nf && D.nfs (es.map (·.2))); rw [nft_map es]
variable {K : PySem.W.Frag} {S S' H H' : Hp} {B : Bs} {δ : DS} {σ : L2.St}
def NX (S S' : Hp) : Prop := ∀ b o, S b = some o → (∀ φ, o ≠ .ext φ) → S' b = some o
mutual
theorem Dn.nf (g : NX S S') : ∀ {v : V} {d : D}, Dn K S v d → d.nf = true → Dn K S' v d
  | _, _, .non, _ => .non
  | _, _, .bl _, _ => .bl _
  | _, _, .int _, _ => .int _
  | _, _, .str _, _ => .str _
  | _, _, .raw _, _ => .raw _
  | _, _, .scr h, _ => .scr (by
      rcases h with (h | ⟨o, h⟩) | h
      · exact .inl (.inl (g _ _ h fun _ z => nomatch z))
      · exact .inl (.inr ⟨o, g _ _ h fun _ z => nomatch z⟩)
      · exact .inr h)
  | _, _, .kt h a, f => .kt (by
      rcases h with h | ⟨o, h1, h2⟩
      · exact .inl h
      · exact .inr ⟨o, h1, g _ _ h2 fun _ z => nomatch z⟩) (DnA.nf g a f)
  | _, _, .tup h a, f => .tup (g _ _ h fun _ z => nomatch z) (DnA.nf g a f)
  | _, _, .lst h a, f => .lst (g _ _ h fun _ z => nomatch z) (DnA.nf g a f)
  | _, _, .dK h k a, f => .dK (g _ _ h fun _ z => nomatch z) k (DnA.nf g a (by rw [← nfk_map]; exact f))
  | _, _, .dT h k a, f => .dT (g _ _ h fun _ z => nomatch z) k (DnA.nf g a (by rw [← nft_map]; exact f))
  | _, _, .fK h k a, f => .fK (g _ _ h fun _ z => nomatch z) k (DnA.nf g a (by rw [← nfk_map]; exact f))
  | _, _, .fT h k a, f => .fT (g _ _ h fun _ z => nomatch z) k (DnA.nf g a (by rw [← nft_map]; exact f))
  | _, _, .fn _ _ _ _ _ _ _, f => absurd f (by intro z; cases z)
  | _, _, .fN _ _ _, f => absurd f (by intro z; cases z)
  | _, _, .exc _ _ _, f => absurd f (by intro z; cases z)
  | _, _, .exc0 _, f => absurd f (by intro z; cases z)
theorem DnA.nf (g : NX S S') : ∀ {vs : List V} {ds : List D}, DnA K S vs ds → D.nfs ds = true → DnA K S' vs ds
  | _, _, .nil, _ => .nil
  | _, _, .cons h a, f => by
    have f' := (Bool.and_eq_true _ _).mp (show (_ && _) = true from f)
    exact .cons (Dn.nf g h f'.1) (DnA.nf g a f'.2)
end
end Ev
namespace Ev
open PySem PySem.Spec PyProof.Rows L2
variable [TabC]
variable {K : PySem.W.Frag} {S S' H H' : Hp} {B : Bs} {δ : DS} {σ : L2.St}
/-- what is promised of the lambda of the number k, n parameters: of what it captured and its arguments -/
structure LamD (P : Program) (w : World) (K : PySem.W.Frag) (mg : Str → Option Value) (base : Heap) (j k n : Nat) (sp : List D → dSp) : Prop where
  run : ∀ (A : Around) (out : List Env) (s : Shared) (S H : Hp) (a : Addr) (ds xs : List D) (vs : List V) (us : List Value) (p : Pen) (Q : VK) (Q' : D → Pen → Prop), A.guards = some [] → Room j A → Env0 P w K mg base A out s H → Sb S H → PenOk S H p → Dn K S (.ref a) (.fn k ds) → D.nfs ds = true → Vals vs us →
    DnA K S vs xs → D.nfs xs = true → xs.length = n → sp ds xs p Q' (fun _ _ => False) → (∀ x p' v S' H', Q' x p' → Fin S H S' H' p p' → Dn K S' v x → Q v H') → codeAny (model P w) A (.call (.ref a) ⟨us, []⟩) (CR CX0 out P w H s Q (fun _ _ _ => False)) s
section
variable {P : Program} {w : World} {mg : Str → Option Value} {base : Heap} {N ps : List Str} {l : Lam} {j k : Nat}
theorem DnA.len {vs : List V} {ds : List D} (h : DnA K S vs ds) : vs.length = ds.length := h.length
end
end Ev
namespace Ev
open PySem PySem.Spec PyProof.Rows L2
variable [TabC]
variable {K : PySem.W.Frag} {S S' H H' : Hp} {B : Bs} {δ : DS} {σ : L2.St}
section
variable {X : Cx} {E : EK} {x : Str} {p pos lpos : Pos} {e : Expr} {es : List Expr} {j m n i : Nat} {LT : Nat → Option (List D → dSp)} {ta : dA}
/-- name(..), name a lambda -/
def dCallV (i n : Nat) (LT : Nat → Option (List D → dSp)) (a : dA) : dE := fun W δ Q => match δ.sl[i]? with
  | some (.dat (.fn k ds)) => optQ (LT k) fun sp => D.nfs ds = true ∧ a W δ fun xs δ1 => D.nfs xs = true ∧ xs.length = n ∧ sp ds xs δ1.pen (fun x p' => Q x { δ1 with pen := p' }) fun _ _ => False
  | _ => False
/-- data in slots -/
def capsD (δ : DS) : List Nat → Option (List D)
  | [] => some []
  | i :: is => match δ.sl[i]?, capsD δ is with
    | some (.dat d), some ds => some (d :: ds)
    | _, _ => none
def dCallLam (n : Nat) (sp : dSp) (k : Nat) (idx : List Nat) (a : dA) : dE := fun W δ Q => a W δ fun xs δ1 => optQ (capsD δ1 idx) fun ds => D.nfs ds = true ∧ (xs ++ [D.fn k ds]).length = n ∧ sp (xs ++ [D.fn k ds]) δ1.pen (fun x p' => x.nf = true ∧ Q x { δ1 with pen := p' }) fun _ _ => False
end
end Ev
namespace Ev
open PySem PySem.Spec PyProof.Rows L2
end Ev
namespace Ev
open PySem PySem.Spec PyProof.Rows L2
/-- the script, the tables: what is known at the law's start -/
theorem law_gT {P : Program} {w : World} {K : PySem.W.Frag} {mg mb : Str → Option Value} {CX : CXT} {k : Nat} {fa a : Addr} {cs : List (Addr × Addr)} {fd : FuncData} {x : Str} {sp : Sp} {s : Shared} {vs : List Value} {ns : List Int} (KX : K.In s.heap) (hns : s.heap.Ns mainGlobals mg) (hb : s.heap.Ns builtinsNs mb)
    (hbb : ∀ x : Str, x ≠ "__name__" → mb x = bootBuiltins x) (hlim : s.heap.NoLimit) (hg : s.gens = #[]) (hT : ∀ p ∈ cs, PySem.W.CodeHd s.heap p.1 p.2 ∧ s.heap.get? p.2 = some (PySem.W.tabObj #[])) (nT : ∀ p ∈ cs, K.lookup p.2 = none)
    (hbm : ∃ (bm : Addr) (ob : Obj), mg "__builtins__" = some (.ref bm) ∧ bm ≠ builtinsNs ∧ s.heap.get? bm = some ob ∧ ob.cls = .type "module" ∧ ob.dict = some builtinsNs ∧ ob.data = .plain)
    (ha : s.heap.get? a = some { cls := .type "list", data := .seq vs.toArray }) (hi : IntsAre vs ns) (hl : ns.length ≤ sizeLine) (hr : Room k callerA)
    (F : ∀ base : Heap, K.In base → base.Ns mainGlobals mg → (∀ p ∈ cs, LamX.TabB base mg p.1 p.2) → FnG P w K mg base CX k fa fd [x] sp) (hbind : ∀ (s : Shared) (u : Value), BindsTo s fd ⟨[u], []⟩ [(x, u)])
    (hsp : ∀ H : Hp, (∀ p ∈ cs, H p.2 = some (.tbl #[])) → SqL K H a (ns.map V.int) → sp [.ref a] H (fun v _ => v = .bl true) fun _ _ _ => False) (hCX : ∀ H e s', CX [] H s (fun _ _ _ => False) e s' → False) :
    codeAny (model P w) callerA (.call (.ref fa) ⟨[.ref a], []⟩) (fun r s' => r = .ok (.ret (.bool true)) ∧ OldK s.heap s'.heap ∧ s'.os = s.os ∧ AllBare s'.gens) s := by
  have rv := vals_ints hi
  let tabs := cs.map (·.2)
  have isT : ∀ b ∈ tabs, s.heap.get? b = some (PySem.W.tabObj #[]) := fun b hb => by
    obtain ⟨p, hp, e⟩ := List.mem_map.mp hb
    have e : p.2 = b := e
    rw [← e]; exact (hT p hp).2
  have memT : ∀ p ∈ cs, p.2 ∈ tabs := fun p hp => List.mem_map.mpr ⟨p, hp, rfl⟩
  have aT : a ∉ tabs := fun z => by
    have q := isT a z
    rw [ha] at q; cases q
  -- H knows at most the script, locked, and the tables, empty
  have core : ∀ H : Hp, (∀ b u, H b = some u → (b = a ∧ K.lookup a = none ∧ u = .frz { cls := .type "list", data := .seq vs.toArray } (.lst (ns.map V.int))) ∨ (b ∈ tabs ∧ u = .tbl #[])) → (∀ b ∈ tabs, H b = some (.tbl #[])) → SqL K H a (ns.map V.int) →
      codeAny (model P w) callerA (.call (.ref fa) ⟨[.ref a], []⟩) (fun r s' => r = .ok (.ret (.bool true)) ∧ OldK s.heap s'.heap ∧ s'.os = s.os ∧ AllBare s'.gens) s := by
    intro H hH hHT hS
    have ok : HOk P w H s.heap := fun b u e => by
      rcases hH b u e with ⟨rfl, _, rfl⟩ | ⟨hb, rfl⟩
      · exact ⟨ha, by rw [List.length_map]; exact hl, vs, _, rv, ha⟩
      · exact isT b hb
    have free : ∀ {b : Addr} {o : Obj}, s.heap.get? b = some o → (∀ vs n, o.data ≠ .seq vs n) → o.data ≠ .fields #[] → H b = none := fun {b o} e n1 n2 => by
      cases q : H b with
      | none => rfl
      | some u =>
        rcases hH b u q with ⟨rfl, _, _⟩ | ⟨hb, _⟩
        · rw [ha] at e; cases e; exact absurd rfl (n1 _ _)
        · rw [isT b hb] at e; cases e; exact absurd rfl n2
    have ns_of : ∀ {b : Addr} {m : Str → Option Value}, s.heap.Ns b m → (hidT s.heap H).Ns b m := fun ⟨o, es, ep, e, d, r⟩ => ⟨o, es, ep, hidT_get e (free e (fun _ _ z => by rw [d] at z; cases z) fun z => by rw [d] at z; cases z), d, r⟩
    have kin : K.In (hidT s.heap H) := fun b o e => hidT_get (KX b o e) (by
      cases q : H b with
      | none => rfl
      | some u =>
        rcases hH b u q with ⟨rfl, z, _⟩ | ⟨hb, _⟩
        · rw [z] at e; cases e
        · obtain ⟨p, hp, ep⟩ := List.mem_map.mp hb
          have ep : p.2 = b := ep
          rw [← ep, nT p hp] at e; cases e)
    have TB : ∀ p ∈ cs, LamX.TabB (hidT s.heap H) mg p.1 p.2 := fun p hp => by
      have hTp := (hT p hp).2
      refine ⟨?_, ?_, fun z => ?_⟩
      · obtain ⟨o, us, file, tf, flags, tg, inF, text, tt, e1, r1, r2, r3, r4⟩ := (hT p hp).1
        exact ⟨o, us, file, tf, flags, tg, inF, text, tt, hidT_get e1 (free e1 (fun _ _ z => by rw [r2] at z; cases z) fun z => by rw [r2] at z; cases z; simp at r3), r1, r2, r3, r4⟩
      · obtain ⟨bm, ob, b1, b2, b3, b4, b5, b6⟩ := hbm
        refine ⟨bm, ob, b1, b2, fun q => ?_, fun q => ?_, hidT_get b3 (free b3 (fun _ _ z => by rw [b6] at z; cases z) fun z => by rw [b6] at z; cases z), b4, b5, b6⟩
        · obtain ⟨o, es, ep, e, hd, _⟩ := hns
          rw [q, e] at b3; cases b3; rw [hd] at b6; cases b6
        · rw [q, hTp] at b3; cases b3; cases b6
      · obtain ⟨o, es, ep, e, hd, _⟩ := hns
        rw [z, hTp] at e; cases e; cases hd
    obtain ⟨mc, l1, l2⟩ := hlim
    have e0 : Env0 P w K mg (hidT s.heap H) callerA [] s H := ⟨rfl, ⟨kin, ns_of hns, ⟨mb, ns_of hb, hbb⟩, ⟨mc, ns_of l1, l2⟩⟩, fun b o e => of_hidT e, Nat.le_of_eq (hidT_size _ _), trivial, fun b z => (List.not_mem_nil z).elim, ok, .of_eq hg⟩
    refine codeAny_mono ((F _ kin (ns_of hns) TB).run callerA [] s H ⟨[.ref a], []⟩ [.ref a] [.ref a] _ _ rfl hr e0 (hbind s (.ref a)) (.cons rfl .nil) (hsp H (fun p hp => hHT _ (memT p hp)) hS)) fun r s' h => ?_
    match r, h with
    | .error e, h => exact (hCX H e s' h).elim
    | .ok (.ret u), ⟨v, H', os, bare, un, ok', rr, q⟩ =>
      subst q
      cases (show u = Value.bool true from rr)
      have key : ∀ b o, b ∉ tabs → s.heap.get? b = some o → s'.heap.get? b = some o := fun b o nb e => by
        cases q : H b with
        | none => exact un.keep b o e q (fun z => (List.not_mem_nil z).elim) (fun z => (List.not_mem_nil z).elim)
        | some u =>
          rcases hH b u q with ⟨rfl, _, rfl⟩ | ⟨hb, _⟩
          · have e2 := (ok' b _ (un.frzs b _ _ q)).1
            rw [ha] at e; cases e
            exact e2
          · exact absurd hb nb
      have grown : ∀ b ∈ tabs, ∃ more : Array Value, s'.heap.get? b = some (PySem.W.tabObj more) := fun b hb => by
        obtain ⟨more, z⟩ := un.tbls b #[] (hHT b hb)
        exact ⟨_, ok' b _ z⟩
      refine ⟨rfl, ⟨fun b o e => ?_, fun b o e => ?_⟩, os, bare⟩
      · by_cases hb : b ∈ tabs
        · obtain ⟨p, hp, ep⟩ := List.mem_map.mp hb
          have ep : p.2 = b := ep
          subst ep
          obtain ⟨more, hm⟩ := grown _ hb
          rw [(hT p hp).2] at e; cases e
          exact .inr (.inl ⟨((hT p hp).1.tab (hT p hp).2).isCodeTable, rfl, #[], more, rfl, by rw [Array.empty_append]; exact hm⟩)
        · exact .inl (key b o hb e)
      · by_cases hb : b ∈ tabs
        · obtain ⟨more, hm⟩ := grown b hb
          exact ⟨_, hm⟩
        · exact ⟨o, key b o hb e⟩
  cases hk : K.lookup a with
  | some o =>
    have e := KX a o hk
    rw [ha] at e; cases e
    refine core (fun b => if b ∈ tabs then some (.tbl #[]) else none) (fun b u z => ?_) (fun b hb => if_pos hb) (.inr ⟨_, vs.toArray, _, hk, rfl, rfl, rfl, by rw [List.size_toArray, hi.length]; exact hl, by simpa using rv⟩)
    by_cases q : b ∈ tabs
    · rw [if_pos q] at z; cases z; exact .inr ⟨q, rfl⟩
    · rw [if_neg q] at z; cases z
  | none =>
    refine core (fun b => if b = a then some (.frz { cls := .type "list", data := .seq vs.toArray } (.lst (ns.map V.int))) else if b ∈ tabs then some (.tbl #[]) else none) (fun b u z => ?_) (fun b hb => (if_neg (fun (e : b = a) => aT (e ▸ hb))).trans (if_pos hb)) (.inl (.inr ⟨_, if_pos rfl⟩))
    by_cases q : b = a
    · subst q
      rw [if_pos rfl] at z; cases z
      exact .inl ⟨rfl, hk, rfl⟩
    · rw [if_neg q] at z
      by_cases q2 : b ∈ tabs
      · rw [if_pos q2] at z; cases z; exact .inr ⟨q2, rfl⟩
      · rw [if_neg q2] at z; cases z
end Ev
namespace Ev
open PySem PySem.Spec PyProof.Rows L2
variable [TabC]
variable {K : PySem.W.Frag} {S S' H H' : Hp} {B : Bs} {δ : DS} {σ : L2.St}
section
variable {X : Cx} {E : EK} {a b : Expr} {p pos tpos : Pos} {elts : List Expr} {kk : Nat} {d : dA}
def zipD (xs ys : List D) : List D := (xs.zip ys).map fun q => .tup [q.1, q.2]
theorem it_zip {a b : Addr} {us vs : List V} {ds es : List D} (h1 : S a = some (.lst us)) (h2 : S b = some (.lst vs)) (n1 : DnA K S us ds) (n2 : DnA K S vs es) : ItOk K (Itz K a b) (zipD ds es) S := by
  have l1 := n1.length
  have l2 := n2.length
  have hl : (zipD ds es).length = min us.length vs.length := by simp [zipD, l1, l2]
  have sq : ∀ {S1 H1}, Ex S S1 → Sb S1 H1 → SqL K H1 a us ∧ SqL K H1 b vs := fun e1 e2 => ⟨SqL.of (e2 _ _ (e1 _ _ h1)), SqL.of (e2 _ _ (e1 _ _ h2))⟩
  refine ⟨fun i S1 H1 e1 e2 hi => ?_, fun S1 H1 e1 e2 => ?_, fun i S1 H1 x H2 e1 e2 hi y => ?_⟩
  · exact (walk_zip (xs := us) (ys := vs) rfl).goes i H1 (by omega) (sq e1 e2)
  · rw [hl]; exact (walk_zip rfl).stops H1 (sq e1 e2)
  · obtain ⟨T, u, v, rfl, hT, rfl, hu, hv⟩ := y
    have q := sq e1 e2
    have eu := hu us q.1
    have ev := hv vs q.2
    obtain ⟨d, hd, dn⟩ := n1.getV eu
    obtain ⟨e, he, en⟩ := n2.getV ev
    have g := Grow.new (o := .tup [u, v]) e2 hT
    refine ⟨_, .tup [d, e], g, ?_, .tup upd_same (.cons (dn.mono (e1.trans g.s)) (.cons (en.mono (e1.trans g.s)) .nil))⟩
    unfold zipD
    rw [List.getElem?_map, (show (ds.zip es)[i]? = some (d, e) by rw [List.getElem?_zip_eq_some]; exact ⟨hd, he⟩)]; rfl
theorem it_zipT {a b : Addr} {us vs : List V} {ds es : List D} (h1 : S a = some (.tup us)) (h2 : S b = some (.tup vs)) (n1 : DnA K S us ds) (n2 : DnA K S vs es) : ItOk K (RZ.ItzT K a b) (zipD ds es) S := by
  have l1 := n1.length
  have l2 := n2.length
  have hl : (zipD ds es).length = min us.length vs.length := by simp [zipD, l1, l2]
  have sq : ∀ {S1 H1}, Ex S S1 → Sb S1 H1 → SqT K H1 a us ∧ SqT K H1 b vs := fun e1 e2 => ⟨SqT.of (e2 _ _ (e1 _ _ h1)), SqT.of (e2 _ _ (e1 _ _ h2))⟩
  refine ⟨fun i S1 H1 e1 e2 hi => ?_, fun S1 H1 e1 e2 => ?_, fun i S1 H1 x H2 e1 e2 hi y => ?_⟩
  · have q := sq e1 e2
    exact ⟨us, vs, us[i]'(by omega), vs[i]'(by omega), q.1, q.2, List.getElem?_eq_getElem _, List.getElem?_eq_getElem _⟩
  · have q := sq e1 e2
    exact ⟨us, vs, q.1, q.2, by omega⟩
  · obtain ⟨T, u, v, rfl, hT, rfl, hu, hv⟩ := y
    have q := sq e1 e2
    have eu := hu us q.1
    have ev := hv vs q.2
    obtain ⟨d, hd, dn⟩ := n1.getV eu
    obtain ⟨e, he, en⟩ := n2.getV ev
    have g := Grow.new (o := .tup [u, v]) e2 hT
    refine ⟨_, .tup [d, e], g, ?_, .tup upd_same (.cons (dn.mono (e1.trans g.s)) (.cons (en.mono (e1.trans g.s)) .nil))⟩
    unfold zipD
    rw [List.getElem?_map, (show (ds.zip es)[i]? = some (d, e) by rw [List.getElem?_zip_eq_some]; exact ⟨hd, he⟩)]; rfl
/-- a list's, a tuple's items -/
def seqOf : D → Option (Bool × List D)
  | .lst xs => some (false, xs)
  | .tup xs => some (true, xs)
  | _ => none
def dZip (d : dA) : dI := fun W δ Q => d W δ fun xs δ' => match xs with | [x, y] => optQ (seqOf x) fun p => optQ (seqOf y) fun q => p.1 = q.1 ∧ Q (zipD p.2 q.2) δ' | _ => False
theorem seq_at {S : Hp} {v : V} {x : D} {p : Bool × List D} (h : Dn K S v x) (e : seqOf x = some p) : ∃ a vs, v = .ref a ∧ DnA K S vs p.2 ∧ ((p.1 = false ∧ S a = some (.lst vs)) ∨ (p.1 = true ∧ S a = some (.tup vs))) := by
  cases h with
  | lst h1 a1 => cases e; exact ⟨_, _, rfl, a1, .inl ⟨rfl, h1⟩⟩
  | tup h1 a1 => cases e; exact ⟨_, _, rfl, a1, .inr ⟨rfl, h1⟩⟩
  | _ => cases e
theorem di_zip (hg : Gl X "zip") (hm : X.mg "zip" = none) (ha : DA X E [a, b] d) (hs : starEach [a, b] X.env = (false, eval a X.env) :: starEach [b] X.env := by rfl) (hpl : (backTo pos (starEach [b] X.env)).any (·.1) = false := by rfl) :
    DI X E (.Tuple elts kk tpos) (.Call (.Name "zip" p) [a, b] [] pos) (dZip d) := ⟨fun B => pi_mono (RZ.pi_zipA hg hm (ha.run B) hs hpl) fun σ H Rr q => by
  obtain ⟨δ, S, W, Q', R, q, xo, post⟩ := q
  refine ⟨δ, S, W, _, R, q, xo, fun xs δ1 vs S1 H1 q1 e1 R1 n1 => ?_⟩
  rcases xs with _ | ⟨x, _ | ⟨y, _ | ⟨z, xs⟩⟩⟩
  · exact q1.elim
  · exact q1.elim
  · obtain ⟨p, hp, q1⟩ := optQ_ex q1
    obtain ⟨r, hr, he, q1⟩ := optQ_ex q1
    obtain ⟨v, v', rfl, d1, d2⟩ := n1.two
    obtain ⟨a1, us, rfl, n3, g3⟩ := seq_at d1 hp
    obtain ⟨a2, ws, rfl, n4, g4⟩ := seq_at d2 hr
    rcases g3 with ⟨k3, g3⟩ | ⟨k3, g3⟩
    · rcases g4 with ⟨k4, g4⟩ | ⟨k4, g4⟩
      · exact ⟨_, _, _, _, rfl, .inl ⟨SqL.of (R1.ex _ _ g3), SqL.of (R1.ex _ _ g4), post _ _ _ _ _ q1 e1 R1 (it_zip g3 g4 n3 n4)⟩⟩
      · rw [k3, k4] at he; cases he
    · rcases g4 with ⟨k4, g4⟩ | ⟨k4, g4⟩
      · rw [k3, k4] at he; cases he
      · exact ⟨_, _, _, _, rfl, .inr ⟨SqT.of (R1.ex _ _ g3), SqT.of (R1.ex _ _ g4), post _ _ _ _ _ q1 e1 R1 (it_zipT g3 g4 n3 n4)⟩⟩
  · exact q1.elim⟩
def enumD (xs : List D) : List D := xs.mapIdx fun i d => .tup [.int (i : Nat), d]
def dEnum (d : dA) : dI := fun W δ Q => d W δ fun xs δ' => match xs with | [x] => optQ (seqOf x) fun p => p.1 = false ∧ Q (enumD p.2) δ' | _ => False
end
section
variable {X : Cx}
theorem keyIs_rel {k : Key} {u : Value} (h : keyIs k u = true) : RelV (kV k) u := by
  rcases keyIs_shape h with ⟨i, t, rfl, rfl⟩ | ⟨x, t, rfl, rfl⟩
  · exact ⟨t, rfl⟩
  · exact ⟨t, rfl⟩
theorem pairs_keys {P : Program} {w : World} {es : List DictEntry} {ks : List (Key × Value)} (h : PySem.Pairs (mixKind P w) es ks) : ∀ {kvs : List (Key × V)}, KV kvs ks → Vals (kvs.map fun e => kV e.1) (es.map (·.key)) := by
  induction h with
  | nil => intro kvs r; cases r; exact .nil
  | cons h1 _ _ ih =>
    intro kvs r
    cases r with
    | cons r t => exact .cons (by show RelV (kV _) _; rw [r.1]; exact keyIs_rel h1) (ih t)
theorem DnA.kD1 {S : Hp} : ∀ kvs : List (Key × V), DnA K S (kvs.map fun e => kV e.1) (kvs.map fun e => kD e.1)
  | [] => .nil
  | e :: kvs => .cons (.kd e.1) (DnA.kD1 kvs)
def rSrtK (K : PySem.W.Frag) : List V → Hp → VK → Prop := fun vs H Q => ∃ S a kvs, vs = [.ref a] ∧ Sb S H ∧ H a = some (.dK kvs) ∧ srtOk (kvs.map fun e => kD e.1) ∧ ∀ ws p, H p = none → DnA K S ws (sortD (kvs.map fun e => kD e.1)) → Q (.ref p) (upd H p (.lst ws))
theorem cd_sortedK (hc : X.calm = true) (hu : X.A.units + 66 < cLine) : CallR X (.builtin "sorted") (rSrtK X.K) := fun pins s σ H vs us Q I r ⟨S, a, kvs, e, sb, ha, ok, q⟩ => by
  subst e
  obtain ⟨u, rfl, ru⟩ := vals1 r
  obtain rfl : u = Value.ref a := ru
  obtain ⟨hz, hs, ks, rel, o, es, ep, ho, hx, hdt, hk, hp, hn⟩ := I.hok _ _ ha
  have rv := pairs_keys hp rel
  have l1 : es.size = kvs.length := by have := rv.length; rw [List.length_map, List.length_map, Array.length_toList] at this; exact this.symm
  refine sorted_end I hu sb (us := es.toList.map (·.key)) (vs := kvs.map fun e => kV e.1) rv (DnA.kD1 kvs) ok (fun C E' hC => ?_) fun ws p hp aw => q ws p hp aw
  refine collect_src (kdl_raw hs hx hdt) (I.ok.hd hc) ho (by omega) fun h' tk acc kp sz it => ?_
  have ea : acc.toList = es.toList.map (·.key) := by
    apply List.ext_getElem?
    intro j
    rw [List.getElem?_map]
    have hl : acc.toList.length = es.toList.length := by rw [Array.length_toList, Array.length_toList]; exact it.1
    by_cases hj : j < es.toList.length
    · have hj2 : j < acc.size := by rw [← Array.length_toList]; omega
      obtain ⟨en, h1, h2⟩ := it.2 j acc[j] (Array.getElem?_eq_getElem hj2)
      rw [Array.getElem?_toList, Array.getElem?_eq_getElem hj2, Array.getElem?_toList, h1, h2]; rfl
    · rw [List.getElem?_eq_none (by omega), List.getElem?_eq_none (by omega)]; rfl
  rw [ea]
  exact hC h' tk kp sz
def dSortDK (d : dE) : dF := fun W δ Q => d W δ fun x δ1 => match x with | .dK es => srtOk (keyDK es) ∧ Q (sortD (keyDK es)) δ1 | _ => False
theorem keyDK_of {kvs : List (Key × V)} {es : List (Key × D)} (h : kvs.map (·.1) = es.map (·.1)) : (kvs.map fun e => kD e.1) = keyDK es := by
  have e1 : (kvs.map fun e => kD e.1) = (kvs.map (·.1)).map kD := by rw [List.map_map]; rfl
  have e2 : keyDK es = (es.map (·.1)).map kD := by unfold keyDK; rw [List.map_map]; rfl
  rw [e1, e2, h]
theorem df_sortedK {E : EK} {a : Expr} {p pos : Pos} {x : Str} {da : dE} (hc : X.calm = true) (hu : X.A.units + 66 < cLine) (ha : DE X E a da) (gl : Gl X x) (hm : X.mg x = none) (hb : bootBuiltins x = some (.builtin "sorted")) (hn : x ≠ "__name__" := by decide) (hdb : (x == ("__debug__" : Str)) = false := by decide)
    (he : starEach [a] X.env = (false, eval a X.env) :: starEach [] X.env := by rfl) (hpl : (backTo pos (starEach [] X.env)).any (·.1) = false := by rfl) : DF X E (.Call (.Name x p) [a] [] pos) (dSortDK da) :=
  ⟨fun B => pe_mono (pe_callB (cd_sortedK hc hu) gl hm hb (pa_cons (ha.run B) pa_nil he) hn hdb he hpl) fun σ H Q q => by
    obtain ⟨δ, S, W, Q', R, q, xo, post⟩ := q
    refine ⟨δ, S, W, _, R, q, xo, fun x δ1 v S1 H1 q1 e1 R1 n1 => ?_⟩
    cases x with
    | dK es =>
      cases n1 with
      | dK h1 h2 h3 =>
        refine (⟨S1, _, _, rfl, R1.ex, R1.ex _ _ h1, by rw [keyDK_of h2]; exact q1.1, fun ws p hp aw => ?_⟩ : rSrtK X.K _ H1 Q)
        rw [keyDK_of h2] at aw
        exact post _ _ _ _ _ _ q1.2 e1 R1 hp aw
    | _ => exact q1.elim⟩
end
theorem LamD.mono {P : Program} {w : World} {K : PySem.W.Frag} {mg : Str → Option Value} {base : Heap} {j j2 k n : Nat} {sp : List D → dSp} (h : LamD P w K mg base j k n sp) (hj : j ≤ j2) : LamD P w K mg base j2 k n sp :=
  ⟨fun A out s S H a ds xs vs us p Q Q' g r => h.run A out s S H a ds xs vs us p Q Q' g (r.mono hj)⟩
end Ev
namespace Ev
open PySem PySem.Spec PyProof.Rows L2
variable [TabC]
section
variable {X : Cx} {es : List Expr} {pos : Pos}
def gL (n : Nat) (r : dGs) : dG := fun d δ Q => match d with | .lst ds => ds.length = n ∧ r ds δ Q | _ => False
end
end Ev
namespace Ev
open PySem PySem.Spec PyProof.Rows L2
/-- what is known of the law, its tables (of those in ts) beside -/
def LawM (P : Program) (w : World) (K : PySem.W.Frag) (mg : Str → Option Value) (k n : Nat) (fa : Addr) (x : Str) (ts : List Addr) : Prop :=
  ∃ (cs : List (Addr × Addr)) (fd : FuncData) (sp : Sp), (∀ p ∈ cs, PySem.W.codeHdIn K p.1 p.2 = true ∧ p.2 ∈ ts) ∧ (∀ p ∈ cs, K.lookup p.2 = none) ∧ (∀ (s : Shared) (u : Value), BindsTo s fd ⟨[u], []⟩ [(x, u)]) ∧
    (∀ (H : Hp) (a : Addr) (ns : List Int), ns.length ≤ n → (∀ p ∈ cs, H p.2 = some (.tbl #[])) → SqL K H a (ns.map V.int) → sp [.ref a] H (fun v _ => v = .bl true) fun _ _ _ => False) ∧
    ∀ base : Heap, K.In base → base.Ns mainGlobals mg → (∀ p ∈ cs, LamX.TabB base mg p.1 p.2) → FnG P w K mg base CX0 k fa fd [x] sp
theorem walk_gM {l : PySem.W.OpenLaw} {n k : Nat} {q : Program} {loose : List Str} {XP : (Str → Option Value) → Heap → Prop} {YP : World → Heap → Prop} {d : DefRec} {K : Params → PySem.W.Frag} {x : Str} {ts : List Addr} (hn : l.most = some n) (hn2 : n ≤ sizeLine) (hdf : d.params.defaults = []) (hr : Room k callerA)
    (hY : ∀ (w : World) (h : Heap), YP w h → (K w.params).In h) (hYT : ∀ (w : World) (h : Heap), YP w h → ∀ P ∈ ts, h.get? P = some (PySem.W.tabObj #[]))
    (F : ∀ (w : World) (mg : Str → Option Value) (fa : Addr) (h : Heap), (K w.params).In h → h.Ns mainGlobals mg → mg d.name = some (.ref fa) → LawM l.prog w (K w.params) mg k n fa x ts) : PySem.W.WalkO q loose XP YP l.row.toRowW d [] (fun f vs => PySem.call f vs) := by
  refine Att.attach_call hn hdf fun w s0 s1 mg mb fa o pm cd doc a vs ns G Y _ _ _ hmg hobj hints hlen hgens => ?_
  obtain ⟨cs, fd, sp, h1, h2, hb, hsp, hF⟩ := F w mg fa _ (hY w _ Y) G.T.g hmg
  exact law_gT (hY w _ Y) G.T.g G.T.b G.T.builtins G.T.nolimit hgens (fun p hp => ⟨PySem.W.codeHd_of_K (hY w _ Y) (h1 p hp).1, hYT w _ Y _ (h1 p hp).2⟩) h2 G.T.bmain hobj hints (Nat.le_trans hlen hn2) hr hF hb (fun H hH hS => hsp H a ns hlen hH hS) fun H e s' h => h
end Ev
namespace Ev
open PySem PySem.Spec PyProof.Rows L2
variable [TabC]
section
variable {X : Cx} {E : EK} {x : Str} {p pos : Pos} {e : Expr} {es : List Expr} {j m n i : Nat} {ta : dA}
/-- a def that lies at f -/
structure DefA (P : Program) (w : World) (K : PySem.W.Frag) (mg : Str → Option Value) (base : Heap) (k : Nat) (f : Addr) (n : Nat) (sp : dSp) : Prop where
  ok : ∃ (ps : List Str) (fd : FuncData), FnG P w K mg base CX0 k f fd ps (spD K n sp) ∧ PySem.W.keepIn K (.ref f) = true ∧ Binds K fd ps []
theorem DefA.mono {P : Program} {w : World} {K : PySem.W.Frag} {mg : Str → Option Value} {base : Heap} {k k2 : Nat} {f : Addr} {sp : dSp} (h : DefA P w K mg base k f n sp) (hk : k ≤ k2) : DefA P w K mg base k2 f n sp := by
  obtain ⟨ps, fd, F, a, b⟩ := h.ok
  exact ⟨ps, fd, ⟨F.len, fun A out s H ar us vs Q E g r => F.run A out s H ar us vs Q E g (r.mono hk)⟩, a, b⟩
/-- the defs that are handed about, by number -/
abbrev adD (k : Nat) : D := .raw (.ref (TabC.ad k))
/-- name(..), name one of the defs of T -/
def dCallR (i n : Nat) (T : List (Addr × dSp)) (a : dA) : dE := fun W δ Q => match δ.sl[i]? with
  | some (.dat (.raw (.ref f))) => ∃ sp, (f, sp) ∈ T ∧ a W δ fun xs δ1 => xs.length = n ∧ sp xs δ1.pen (fun x p' => Q x { δ1 with pen := p' }) fun c p' => W c { δ1 with pen := p' }
  | _ => False
/-- sorted(d), d a dict of one's own: its keys -/
def dSortKo (i : Nat) : dF := fun _ δ Q => match δ.sl[i]? with
  | some (.ownK es) => srtOk (keyDK es) ∧ Q (sortD (keyDK es)) δ
  | some (.dat (.dK es)) => srtOk (keyDK es) ∧ Q (sortD (keyDK es)) δ
  | _ => False
theorem df_sortedKo {i : Nat} {y : Str} {py : Pos} (hc : X.calm = true) (hu : X.A.units + 66 < cLine) (hv : PE X (.Name y py) (tVar i)) (gl : Gl X x) (hm : X.mg x = none) (hb : bootBuiltins x = some (.builtin "sorted")) (hn : x ≠ "__name__" := by decide) (hdb : (x == ("__debug__" : Str)) = false := by decide)
    (he : starEach [.Name y py] X.env = (false, eval (.Name y py) X.env) :: starEach [] X.env := by rfl) (hpl : (backTo pos (starEach [] X.env)).any (·.1) = false := by rfl) : DF X E (.Call (.Name x p) [.Name y py] [] pos) (dSortKo i) :=
  ⟨fun B => pe_mono (pe_callB (cd_sortedK hc hu) gl hm hb (pa_cons hv pa_nil he) hn hdb he hpl) fun σ H Q q => by
    obtain ⟨δ, S, W, Q', R, q, xo, post⟩ := q
    unfold dSortKo at q
    split at q
    · rename_i es hs
      obtain ⟨ow, h1, _⟩ := id R.sl
      obtain ⟨a, kvs, r1, r2, r3, r4, r5, r6, r7⟩ := h1 i _ hs
      refine ⟨.ref a, r4, (⟨S, a, kvs, rfl, R.ex, r5, by rw [keyDK_of r6]; exact q.1, fun ws p hp aw => ?_⟩ : rSrtK X.K _ H Q)⟩
      rw [keyDK_of r6] at aw
      exact post _ _ _ _ _ _ q.2 (Ex.refl _) R hp aw
    · rename_i es hs
      obtain ⟨v, e1, e2⟩ := R.dat hs
      cases e2 with
      | dK h1 h2 h3 =>
        refine ⟨_, e1, (⟨S, _, _, rfl, R.ex, R.ex _ _ h1, by rw [keyDK_of h2]; exact q.1, fun ws p hp aw => ?_⟩ : rSrtK X.K _ H Q)⟩
        rw [keyDK_of h2] at aw
        exact post _ _ _ _ _ _ q.2 (Ex.refl _) R hp aw
    · exact q.elim⟩
end
end Ev
namespace Pt
abbrev Sg := Int × Int
def inS (ss : List Sg) (x : Int) : Bool := ss.any fun s => decide (s.1 ≤ x ∧ x < s.2)
/-- canonical: rising, apart -/
def CanS (ss : List Sg) : Prop := (∀ s ∈ ss, s.1 < s.2) ∧ ss.Pairwise fun s t => s.2 < t.1
theorem inS_cons {s : Sg} {ss : List Sg} {x : Int} : inS (s :: ss) x = (decide (s.1 ≤ x ∧ x < s.2) || inS ss x) := rfl
theorem inS_iff {ss : List Sg} {x : Int} : inS ss x = true ↔ ∃ s ∈ ss, s.1 ≤ x ∧ x < s.2 := by
  unfold inS
  rw [List.any_eq_true]
  exact ⟨fun ⟨s, h1, h2⟩ => ⟨s, h1, of_decide_eq_true h2⟩, fun ⟨s, h1, h2⟩ => ⟨s, h1, decide_eq_true h2⟩⟩
theorem bool_ext {a b : Bool} (h : a = true ↔ b = true) : a = b := by
  cases a <;> cases b <;> simp at h ⊢
theorem CanS.tail {s : Sg} {ss : List Sg} (h : CanS (s :: ss)) : CanS ss := ⟨fun t ht => h.1 t (List.mem_cons_of_mem _ ht), (List.pairwise_cons.mp h.2).2⟩
theorem CanS.head {s : Sg} {ss : List Sg} (h : CanS (s :: ss)) : s.1 < s.2 ∧ ∀ t ∈ ss, s.2 < t.1 := ⟨h.1 s List.mem_cons_self, (List.pairwise_cons.mp h.2).1⟩
theorem CanS.nil : CanS [] := ⟨fun _ h => (nomatch h), .nil⟩
/-- a stretch, and what is not in what is behind it -/
theorem CanS.behind {s : Sg} {ss : List Sg} (h : CanS (s :: ss)) {x : Int} (hx : x ≤ s.2) : inS ss x = false := by
  cases q : inS ss x with
  | false => rfl
  | true =>
    obtain ⟨t, h1, h2, h3⟩ := inS_iff.mp q
    have := h.head.2 t h1
    omega
theorem canS_eq : ∀ {ss tt : List Sg}, CanS ss → CanS tt → (∀ x, inS ss x = inS tt x) → ss = tt
  | [], [], _, _, _ => rfl
  | [], t :: tt, _, h, e => by
    have := e t.1
    rw [inS_cons, decide_eq_true ⟨Int.le_refl _, h.head.1⟩] at this
    cases this
  | s :: ss, [], h, _, e => by
    have := e s.1
    rw [inS_cons, decide_eq_true ⟨Int.le_refl _, h.head.1⟩] at this
    cases this
  | s :: ss, t :: tt, h, k, e => by
    have h0 := h.head.1
    have k0 := k.head.1
    have e1 : s.1 = t.1 := by
      rcases Int.lt_trichotomy s.1 t.1 with q | q | q
      · have := e s.1
        rw [inS_cons, inS_cons, decide_eq_true ⟨Int.le_refl _, h0⟩, decide_eq_false (by omega), k.behind (by omega)] at this
        cases this
      · exact q
      · have := e t.1
        rw [inS_cons, inS_cons, decide_eq_true (p := t.1 ≤ t.1 ∧ _) ⟨Int.le_refl _, k0⟩, decide_eq_false (by omega), h.behind (by omega)] at this
        cases this
    have e2 : s.2 = t.2 := by
      rcases Int.lt_trichotomy s.2 t.2 with q | q | q
      · have := e s.2
        rw [inS_cons, inS_cons, decide_eq_false (by omega), h.behind (Int.le_refl _), decide_eq_true (p := t.1 ≤ s.2 ∧ _) (by omega)] at this
        cases this
      · exact q
      · have := e t.2
        rw [inS_cons, inS_cons, decide_eq_true (p := s.1 ≤ t.2 ∧ _) (by omega), decide_eq_false (by omega), k.behind (Int.le_refl _)] at this
        cases this
    have e3 : s = t := Prod.ext e1 e2
    subst e3
    rw [canS_eq h.tail k.tail fun x => ?_]
    by_cases q : x ≤ s.2
    · rw [h.behind q, k.behind q]
    · have := e x
      rw [inS_cons, inS_cons, decide_eq_false (by omega)] at this
      exact this
/-- stretches joined: those found, turned about; those left -/
def joinR : List Sg → List Sg → List Sg
  | racc, [] => racc
  | [], s :: r => joinR [s] r
  | l :: racc, s :: r => if s.1 ≤ l.2 then joinR ((l.1, if s.2 > l.2 then s.2 else l.2) :: racc) r else joinR (s :: l :: racc) r
def joined (ss : List Sg) : List Sg := (joinR [] ss).reverse
def CanSR (ss : List Sg) : Prop := (∀ s ∈ ss, s.1 < s.2) ∧ ss.Pairwise fun s t => t.2 < s.1
theorem joinR_ok : ∀ (r racc : List Sg), CanSR racc → (∀ s ∈ r, s.1 < s.2) → r.Pairwise (fun s t => s.1 ≤ t.1) → (∀ l ∈ racc, ∀ s ∈ r, l.1 ≤ s.1) → CanSR (joinR racc r) ∧ ∀ x, inS (joinR racc r) x = (inS racc x || inS r x)
  | [], racc, h, _, _, _ => by
    have e : joinR racc [] = racc := by cases racc <;> rfl
    rw [e]
    exact ⟨h, fun x => by simp [inS]⟩
  | s :: r, [], h, h1, h2, _ => by
    obtain ⟨a, b⟩ := joinR_ok r [s] ⟨fun t ht => by rw [List.mem_singleton.mp ht]; exact h1 s List.mem_cons_self, List.pairwise_singleton _ _⟩ (fun t ht => h1 t (List.mem_cons_of_mem _ ht)) (List.pairwise_cons.mp h2).2
      (fun l hl t ht => by rw [List.mem_singleton.mp hl]; exact (List.pairwise_cons.mp h2).1 t ht)
    refine ⟨a, fun x => ?_⟩
    rw [show joinR [] (s :: r) = joinR [s] r from rfl, b x]
    simp [inS]
  | s :: r, l :: racc, h, h1, h2, h3 => by
    have hs := h1 s List.mem_cons_self
    have hl := h.1 l List.mem_cons_self
    have hls := h3 l List.mem_cons_self s List.mem_cons_self
    have h1' : ∀ t ∈ r, t.1 < t.2 := fun t ht => h1 t (List.mem_cons_of_mem _ ht)
    have h2' := List.pairwise_cons.mp h2
    have hp := List.pairwise_cons.mp h.2
    by_cases q : s.1 ≤ l.2
    · obtain ⟨a, b⟩ := joinR_ok r ((l.1, if s.2 > l.2 then s.2 else l.2) :: racc) ⟨fun t ht => by
        rcases List.mem_cons.mp ht with rfl | ht
        · show l.1 < if s.2 > l.2 then s.2 else l.2
          split <;> omega
        · exact h.1 t (List.mem_cons_of_mem _ ht), List.pairwise_cons.mpr ⟨hp.1, hp.2⟩⟩ h1' h2'.2 (fun m hm t ht => by
        rcases List.mem_cons.mp hm with rfl | hm
        · exact h3 l List.mem_cons_self t (List.mem_cons_of_mem _ ht)
        · exact h3 m (List.mem_cons_of_mem _ hm) t (List.mem_cons_of_mem _ ht))
      have e : joinR (l :: racc) (s :: r) = joinR ((l.1, if s.2 > l.2 then s.2 else l.2) :: racc) r := by
        show (if s.1 ≤ l.2 then _ else _) = _
        rw [if_pos q]
      rw [e]
      refine ⟨a, fun x => ?_⟩
      rw [b x, inS_cons, inS_cons, inS_cons]
      have : decide (l.1 ≤ x ∧ x < if s.2 > l.2 then s.2 else l.2) = (decide (l.1 ≤ x ∧ x < l.2) || decide (s.1 ≤ x ∧ x < s.2)) := by
        apply bool_ext
        simp only [decide_eq_true_eq, Bool.or_eq_true]
        split <;> omega
      rw [show decide ((l.1, if s.2 > l.2 then s.2 else l.2).1 ≤ x ∧ x < (l.1, if s.2 > l.2 then s.2 else l.2).2) = decide (l.1 ≤ x ∧ x < if s.2 > l.2 then s.2 else l.2) from rfl, this]
      cases decide (l.1 ≤ x ∧ x < l.2) <;> cases decide (s.1 ≤ x ∧ x < s.2) <;> cases inS racc x <;> rfl
    · obtain ⟨a, b⟩ := joinR_ok r (s :: l :: racc) ⟨fun t ht => by
        rcases List.mem_cons.mp ht with rfl | ht
        · exact hs
        · exact h.1 t ht, List.pairwise_cons.mpr ⟨fun t ht => by
          rcases List.mem_cons.mp ht with rfl | ht
          · omega
          · have := hp.1 t ht; omega, h.2⟩⟩ h1' h2'.2 (fun m hm t ht => by
        rcases List.mem_cons.mp hm with rfl | hm
        · exact h2'.1 t ht
        · exact h3 m hm t (List.mem_cons_of_mem _ ht))
      have e : joinR (l :: racc) (s :: r) = joinR (s :: l :: racc) r := by
        show (if s.1 ≤ l.2 then _ else _) = _
        rw [if_neg q]
      rw [e]
      refine ⟨a, fun x => ?_⟩
      rw [b x, inS_cons, inS_cons, inS_cons]
      cases decide (l.1 ≤ x ∧ x < l.2) <;> cases decide (s.1 ≤ x ∧ x < s.2) <;> cases inS racc x <;> rfl
theorem inS_rev {ss : List Sg} {x : Int} : inS ss.reverse x = inS ss x := by unfold inS; rw [List.any_reverse]
theorem joined_ok {ss : List Sg} (h1 : ∀ s ∈ ss, s.1 < s.2) (h2 : ss.Pairwise fun s t => s.1 ≤ t.1) : CanS (joined ss) ∧ ∀ x, inS (joined ss) x = inS ss x := by
  obtain ⟨a, b⟩ := joinR_ok ss [] ⟨fun _ h => (nomatch h), .nil⟩ h1 h2 (fun _ h => nomatch h)
  unfold joined
  refine ⟨⟨fun s hs => a.1 s (List.mem_reverse.mp hs), List.pairwise_reverse.mpr a.2⟩, fun x => ?_⟩
  rw [inS_rev, b x]
  simp [inS]
structure Band where
  t : Int
  b : Int
  ss : List Sg
def inBd (bs : List Band) (x y : Int) : Bool := bs.any fun b => decide (b.t ≤ y ∧ y < b.b) && inS b.ss x
/-- one behind the other, those alike apart -/
def RB (a b : Band) : Prop := a.b < b.t ∨ (a.b = b.t ∧ a.ss ≠ b.ss)
structure CanB (bs : List Band) : Prop where
  ok : ∀ b ∈ bs, b.t < b.b ∧ CanS b.ss
  pw : bs.Pairwise RB
theorem RB.le {a b : Band} (h : RB a b) : a.b ≤ b.t := by rcases h with h | h <;> omega
theorem CanB.tail {b : Band} {bs : List Band} (h : CanB (b :: bs)) : CanB bs := ⟨fun c hc => h.ok c (List.mem_cons_of_mem _ hc), (List.pairwise_cons.mp h.pw).2⟩
theorem CanB.nil : CanB [] := ⟨fun _ h => (nomatch h), .nil⟩
theorem inBd_cons {b : Band} {bs : List Band} {x y : Int} : inBd (b :: bs) x y = (decide (b.t ≤ y ∧ y < b.b) && inS b.ss x || inBd bs x y) := rfl
theorem inBd_iff {bs : List Band} {x y : Int} : inBd bs x y = true ↔ ∃ b ∈ bs, b.t ≤ y ∧ y < b.b ∧ inS b.ss x = true := by
  unfold inBd
  rw [List.any_eq_true]
  constructor
  · rintro ⟨b, h1, h2⟩
    rw [Bool.and_eq_true] at h2
    exact ⟨b, h1, (of_decide_eq_true h2.1).1, (of_decide_eq_true h2.1).2, h2.2⟩
  · rintro ⟨b, h1, h2, h3, h4⟩
    exact ⟨b, h1, by rw [decide_eq_true ⟨h2, h3⟩, h4]; rfl⟩
theorem CanB.behind {b : Band} {bs : List Band} (h : CanB (b :: bs)) {x y : Int} (hy : y < b.b) : inBd bs x y = false := by
  cases q : inBd bs x y with
  | false => rfl
  | true =>
    obtain ⟨c, h1, h2, _⟩ := inBd_iff.mp q
    have := ((List.pairwise_cons.mp h.pw).1 c h1).le
    omega
/-- the row of a band -/
theorem CanB.row : ∀ {bs : List Band}, CanB bs → ∀ {b : Band}, b ∈ bs → ∀ {x y : Int}, b.t ≤ y → y < b.b → inBd bs x y = inS b.ss x
  | c :: bs, h, b, hb, x, y, h1, h2 => by
    rcases List.mem_cons.mp hb with rfl | hb
    · rw [inBd_cons, decide_eq_true ⟨h1, h2⟩, h.behind h2, Bool.true_and, Bool.or_false]
    · have := ((List.pairwise_cons.mp h.pw).1 b hb).le
      rw [inBd_cons, decide_eq_false (by omega), Bool.false_and, Bool.false_or]
      exact h.tail.row hb h1 h2
theorem some_in {ss : List Sg} (h : CanS ss) (n : ss ≠ []) : ∃ x, inS ss x = true := by
  cases ss with
  | nil => exact absurd rfl n
  | cons s ss => exact ⟨s.1, by rw [inS_cons, decide_eq_true ⟨Int.le_refl _, h.head.1⟩]; rfl⟩
theorem canB_low {c : Band} {cs : List Band} (k : CanB (c :: cs)) {x y : Int} (h : y < c.t) : inBd (c :: cs) x y = false := by
  have := (k.ok c List.mem_cons_self).1
  rw [inBd_cons, decide_eq_false (by omega), k.behind (by omega)]; rfl
/-- no row ends there, none alike begins -/
theorem canB_end {b : Band} {bs : List Band} (h : CanB (b :: bs)) (hn : ∀ c ∈ b :: bs, c.ss ≠ []) (hr : ∀ x, inBd (b :: bs) x b.b = inS b.ss x) : False := by
  by_cases q : ∃ c ∈ bs, c.t ≤ b.b ∧ b.b < c.b
  · obtain ⟨c, h1, h2, h3⟩ := q
    have e : ∀ x, inS c.ss x = inS b.ss x := fun x => by rw [← h.row (List.mem_cons_of_mem _ h1) h2 h3, hr x]
    have e2 := canS_eq (h.ok c (List.mem_cons_of_mem _ h1)).2 (h.ok b List.mem_cons_self).2 e
    rcases (List.pairwise_cons.mp h.pw).1 c h1 with z | ⟨_, z⟩
    · omega
    · exact z e2.symm
  · obtain ⟨x, hx⟩ := some_in (h.ok b List.mem_cons_self).2 (hn b List.mem_cons_self)
    rw [← hr x] at hx
    obtain ⟨c, h1, h2, h3, _⟩ := inBd_iff.mp hx
    rcases List.mem_cons.mp h1 with rfl | h1
    · omega
    · exact q ⟨c, h1, h2, h3⟩
theorem canB_eq : ∀ {bs cs : List Band}, CanB bs → CanB cs → (∀ b ∈ bs, b.ss ≠ []) → (∀ b ∈ cs, b.ss ≠ []) → (∀ x y, inBd bs x y = inBd cs x y) → bs = cs
  | [], [], _, _, _, _, _ => rfl
  | [], c :: cs, _, k, _, nk, e => by
    obtain ⟨x, hx⟩ := some_in (k.ok c List.mem_cons_self).2 (nk c List.mem_cons_self)
    have := e x c.t
    rw [k.row List.mem_cons_self (Int.le_refl _) (k.ok c List.mem_cons_self).1, hx] at this
    cases this
  | b :: bs, [], h, _, nh, _, e => by
    obtain ⟨x, hx⟩ := some_in (h.ok b List.mem_cons_self).2 (nh b List.mem_cons_self)
    have := e x b.t
    rw [h.row List.mem_cons_self (Int.le_refl _) (h.ok b List.mem_cons_self).1, hx] at this
    cases this
  | b :: bs, c :: cs, h, k, nh, nk, e => by
    have hb := h.ok b List.mem_cons_self
    have hc := k.ok c List.mem_cons_self
    have e1 : b.t = c.t := by
      rcases Int.lt_trichotomy b.t c.t with q | q | q
      · obtain ⟨x, hx⟩ := some_in hb.2 (nh b List.mem_cons_self)
        have := e x b.t
        rw [h.row List.mem_cons_self (Int.le_refl _) hb.1, hx, canB_low k q] at this
        cases this
      · exact q
      · obtain ⟨x, hx⟩ := some_in hc.2 (nk c List.mem_cons_self)
        have := e x c.t
        rw [k.row List.mem_cons_self (Int.le_refl _) hc.1, hx, canB_low h q] at this
        cases this
    have e2 : b.ss = c.ss := canS_eq hb.2 hc.2 fun x => by
      have := e x b.t
      rw [h.row List.mem_cons_self (Int.le_refl _) hb.1, k.row List.mem_cons_self (by omega) (by omega)] at this
      exact this
    have e3 : b.b = c.b := by
      rcases Int.lt_trichotomy b.b c.b with q | q | q
      · refine (canB_end h nh fun x => ?_).elim
        rw [e x b.b, k.row List.mem_cons_self (by omega) q, e2]
      · exact q
      · refine (canB_end k nk fun x => ?_).elim
        rw [← e x c.b, h.row List.mem_cons_self (by omega) q, e2]
    have e4 : b = c := by
      obtain ⟨t, b', ss⟩ := b
      obtain ⟨t2, b2, ss2⟩ := c
      simp at e1 e2 e3
      rw [e1, e2, e3]
    subst e4
    rw [canB_eq h.tail k.tail (fun c hc => nh c (List.mem_cons_of_mem _ hc)) (fun c hc => nk c (List.mem_cons_of_mem _ hc)) fun x y => ?_]
    by_cases q : y < b.b
    · rw [h.behind q, k.behind q]
    · have := e x y
      rw [inBd_cons, inBd_cons, decide_eq_false (by omega)] at this
      exact this
/-- bands joined: those found, turned about; those left -/
def joinB : List Band → List Band → List Band
  | racc, [] => racc
  | [], s :: r => joinB [s] r
  | l :: racc, s :: r => if l.b = s.t ∧ l.ss = s.ss then joinB (⟨l.t, s.b, s.ss⟩ :: racc) r else joinB (s :: l :: racc) r
theorem joinB_ok : ∀ (r racc : List Band), (∀ b ∈ racc, b.t < b.b ∧ CanS b.ss) → racc.Pairwise (fun s l => RB l s) → (∀ b ∈ r, b.t < b.b ∧ CanS b.ss) → r.Pairwise (fun s t => s.b ≤ t.t) → (∀ l ∈ racc, ∀ s ∈ r, l.b ≤ s.t) →
    (∀ b ∈ joinB racc r, b.t < b.b ∧ CanS b.ss) ∧ (joinB racc r).Pairwise (fun s l => RB l s) ∧ ∀ x y, inBd (joinB racc r) x y = (inBd racc x y || inBd r x y)
  | [], racc, h, hp, _, _, _ => by
    have e : joinB racc [] = racc := by cases racc <;> rfl
    rw [e]
    exact ⟨h, hp, fun x y => by simp [inBd]⟩
  | s :: r, [], h, hp, h1, h2, _ => by
    obtain ⟨a, b, c⟩ := joinB_ok r [s] (fun t ht => by rw [List.mem_singleton.mp ht]; exact h1 s List.mem_cons_self) (List.pairwise_singleton _ _) (fun t ht => h1 t (List.mem_cons_of_mem _ ht)) (List.pairwise_cons.mp h2).2
      (fun l hl t ht => by rw [List.mem_singleton.mp hl]; exact (List.pairwise_cons.mp h2).1 t ht)
    refine ⟨a, b, fun x y => ?_⟩
    rw [show joinB [] (s :: r) = joinB [s] r from rfl, c x y]
    simp [inBd]
  | s :: r, l :: racc, h, hp, h1, h2, h3 => by
    have hs := h1 s List.mem_cons_self
    have hl := h l List.mem_cons_self
    have hls := h3 l List.mem_cons_self s List.mem_cons_self
    have h1' : ∀ t ∈ r, t.t < t.b ∧ CanS t.ss := fun t ht => h1 t (List.mem_cons_of_mem _ ht)
    have h2' := List.pairwise_cons.mp h2
    have hp' := List.pairwise_cons.mp hp
    by_cases q : l.b = s.t ∧ l.ss = s.ss
    · obtain ⟨a, b, c⟩ := joinB_ok r (⟨l.t, s.b, s.ss⟩ :: racc) (fun t ht => by
        rcases List.mem_cons.mp ht with rfl | ht
        · exact ⟨by show l.t < s.b; omega, hs.2⟩
        · exact h t (List.mem_cons_of_mem _ ht)) (List.pairwise_cons.mpr ⟨fun t ht => by
          rcases hp'.1 t ht with z | ⟨z1, z2⟩
          · exact .inl z
          · exact .inr ⟨z1, fun z => z2 (z.trans q.2.symm)⟩, hp'.2⟩) h1' h2'.2 (fun m hm t ht => by
        rcases List.mem_cons.mp hm with rfl | hm
        · exact h2'.1 t ht
        · exact h3 m (List.mem_cons_of_mem _ hm) t (List.mem_cons_of_mem _ ht))
      have e : joinB (l :: racc) (s :: r) = joinB (⟨l.t, s.b, s.ss⟩ :: racc) r := by
        show (if _ then _ else _) = _
        rw [if_pos q]
      rw [e]
      refine ⟨a, b, fun x y => ?_⟩
      rw [c x y, inBd_cons, inBd_cons, inBd_cons, q.2]
      have : decide (l.t ≤ y ∧ y < s.b) = (decide (l.t ≤ y ∧ y < l.b) || decide (s.t ≤ y ∧ y < s.b)) := by
        apply bool_ext
        simp only [decide_eq_true_eq, Bool.or_eq_true]
        omega
      rw [this]
      cases decide (l.t ≤ y ∧ y < l.b) <;> cases decide (s.t ≤ y ∧ y < s.b) <;> cases inS s.ss x <;> cases inBd racc x y <;> rfl
    · obtain ⟨a, b, c⟩ := joinB_ok r (s :: l :: racc) (fun t ht => by
        rcases List.mem_cons.mp ht with rfl | ht
        · exact hs
        · exact h t ht) (List.pairwise_cons.mpr ⟨fun t ht => by
          rcases List.mem_cons.mp ht with rfl | ht
          · by_cases z : t.b = s.t
            · exact .inr ⟨z, fun z2 => q ⟨z, z2⟩⟩
            · exact .inl (by omega)
          · have := (hp'.1 t ht).le
            exact .inl (by omega), hp⟩) h1' h2'.2 (fun m hm t ht => by
        rcases List.mem_cons.mp hm with rfl | hm
        · exact h2'.1 t ht
        · exact h3 m hm t (List.mem_cons_of_mem _ ht))
      have e : joinB (l :: racc) (s :: r) = joinB (s :: l :: racc) r := by
        show (if _ then _ else _) = _
        rw [if_neg q]
      rw [e]
      refine ⟨a, b, fun x y => ?_⟩
      rw [c x y, inBd_cons, inBd_cons, inBd_cons]
      cases decide (l.t ≤ y ∧ y < l.b) && inS l.ss x <;> cases decide (s.t ≤ y ∧ y < s.b) && inS s.ss x <;> cases inBd racc x y <;> rfl
theorem inBd_rev {bs : List Band} {x y : Int} : inBd bs.reverse x y = inBd bs x y := by unfold inBd; rw [List.any_reverse]
theorem joinB_can {r : List Band} (h1 : ∀ b ∈ r, b.t < b.b ∧ CanS b.ss) (h2 : r.Pairwise fun s t => s.b ≤ t.t) : CanB (joinB [] r).reverse ∧ ∀ x y, inBd (joinB [] r).reverse x y = inBd r x y := by
  obtain ⟨a, b, c⟩ := joinB_ok r [] (fun _ h => nomatch h) .nil h1 h2 (fun _ h => nomatch h)
  exact ⟨⟨fun t ht => a t (List.mem_reverse.mp ht), List.pairwise_reverse.mpr b⟩, fun x y => by rw [inBd_rev, c x y]; simp [inBd]⟩
structure Bx where
  x : Int
  y : Int
  w : Int
  h : Int
def inP (p : List Bx) (x y : Int) : Bool := p.any fun b => decide (b.x ≤ x ∧ x < b.x + b.w) && decide (b.y ≤ y ∧ y < b.y + b.h)
def bxs (b : Band) : List Bx := b.ss.map fun s => ⟨s.1, b.t, s.2 - s.1, b.b - b.t⟩
def boxesOf (bs : List Band) : List Bx := bs.flatMap bxs
theorem inP_app {p q : List Bx} {x y : Int} : inP (p ++ q) x y = (inP p x y || inP q x y) := by unfold inP; rw [List.any_append]
theorem inP_bxs {b : Band} {x y : Int} : inP (bxs b) x y = (decide (b.t ≤ y ∧ y < b.b) && inS b.ss x) := by
  unfold inP bxs inS
  rw [List.any_map]
  have e : ∀ s : Sg, ((fun b : Bx => decide (b.x ≤ x ∧ x < b.x + b.w) && decide (b.y ≤ y ∧ y < b.y + b.h)) ∘ fun s => (⟨s.1, b.t, s.2 - s.1, b.b - b.t⟩ : Bx)) s = (decide (b.t ≤ y ∧ y < b.b) && decide (s.1 ≤ x ∧ x < s.2)) := fun s => by
    apply bool_ext
    simp only [Function.comp, Bool.and_eq_true, decide_eq_true_eq]
    omega
  induction b.ss with
  | nil => simp
  | cons s ss ih =>
    rw [List.any_cons, List.any_cons, ih, e s]
    cases decide (b.t ≤ y ∧ y < b.b) <;> simp
theorem inP_boxes {x y : Int} : ∀ {bs : List Band}, inP (boxesOf bs) x y = inBd bs x y
  | [] => rfl
  | b :: bs => by
    show inP (bxs b ++ boxesOf bs) x y = _
    rw [inP_app, inP_bxs, inP_boxes, inBd_cons]
theorem boxes_filter : ∀ bs : List Band, boxesOf bs = boxesOf (bs.filter fun b => !b.ss.isEmpty)
  | [] => rfl
  | b :: bs => by
    show bxs b ++ boxesOf bs = _
    rw [boxes_filter bs]
    by_cases q : b.ss = []
    · rw [List.filter_cons_of_neg (by simp [q])]
      simp [bxs, q]
    · rw [List.filter_cons_of_pos (by simp [q])]
      rfl
/-- told in the one way -/
def Can (p : List Bx) : Prop := ∃ bs, CanB bs ∧ (∀ b ∈ bs, b.ss ≠ []) ∧ p = boxesOf bs
theorem can_eq {p q : List Bx} (hp : Can p) (hq : Can q) (e : ∀ x y, inP p x y = inP q x y) : p = q := by
  obtain ⟨bs, h1, h2, rfl⟩ := hp
  obtain ⟨cs, k1, k2, rfl⟩ := hq
  rw [canB_eq h1 k1 h2 k2 fun x y => by rw [← inP_boxes, ← inP_boxes]; exact e x y]
theorem can_of {bs : List Band} (h : CanB bs) : Can (boxesOf bs) := by
  refine ⟨bs.filter fun b => !b.ss.isEmpty, ⟨fun b hb => h.ok b (List.mem_filter.mp hb).1, h.pw.filter _⟩, fun b hb => ?_, boxes_filter bs⟩
  have := (List.mem_filter.mp hb).2
  simpa using this
theorem can_nil : Can [] := ⟨[], .nil, fun _ h => (nomatch h), rfl⟩
/-- the part of bands one behind the other -/
def partBy (r : List Band) : List Bx := boxesOf (joinB [] r).reverse
theorem partBy_ok {r : List Band} (h1 : ∀ b ∈ r, b.t < b.b ∧ CanS b.ss) (h2 : r.Pairwise fun s t => s.b ≤ t.t) : Can (partBy r) ∧ ∀ x y, inP (partBy r) x y = inBd r x y := by
  obtain ⟨a, b⟩ := joinB_can h1 h2
  exact ⟨can_of a, fun x y => by unfold partBy; rw [inP_boxes, b]⟩
end Pt
namespace Pt
def pairs (es : List Int) : List (Int × Int) := es.zip es.tail
theorem pairs_cons {a b : Int} {r : List Int} : pairs (a :: b :: r) = (a, b) :: pairs (b :: r) := rfl
theorem pairs_mem : ∀ {es : List Int}, es.Pairwise (· < ·) → ∀ p ∈ pairs es, p.1 ∈ es ∧ p.2 ∈ es ∧ p.1 < p.2 ∧ ∀ e ∈ es, ¬ (p.1 < e ∧ e < p.2)
  | [], _, p, hp => nomatch hp
  | [a], _, p, hp => nomatch hp
  | a :: b :: r, h, p, hp => by
    have h' := List.pairwise_cons.mp h
    rw [pairs_cons] at hp
    rcases List.mem_cons.mp hp with rfl | hp
    · refine ⟨List.mem_cons_self, List.mem_cons_of_mem _ List.mem_cons_self, h'.1 b List.mem_cons_self, fun e he z => ?_⟩
      rcases List.mem_cons.mp he with rfl | he
      · exact Int.lt_irrefl _ z.1
      · rcases List.mem_cons.mp he with rfl | he
        · exact Int.lt_irrefl _ z.2
        · have := (List.pairwise_cons.mp h'.2).1 e he
          simp only at z
          omega
    · obtain ⟨h1, h2, h3, h4⟩ := pairs_mem h'.2 p hp
      refine ⟨List.mem_cons_of_mem _ h1, List.mem_cons_of_mem _ h2, h3, fun e he z => ?_⟩
      rcases List.mem_cons.mp he with rfl | he
      · have := h'.1 p.1 h1
        omega
      · exact h4 e he z
theorem pairs_pw : ∀ {es : List Int}, es.Pairwise (· < ·) → (pairs es).Pairwise fun p q => p.2 ≤ q.1
  | [], _ => .nil
  | [a], _ => .nil
  | a :: b :: r, h => by
    have h' := List.pairwise_cons.mp h
    rw [pairs_cons]
    refine List.pairwise_cons.mpr ⟨fun q hq => ?_, pairs_pw h'.2⟩
    have := (pairs_mem h'.2 q hq).1
    rcases List.mem_cons.mp this with e | e
    · exact Int.le_of_eq e.symm
    · exact Int.le_of_lt ((List.pairwise_cons.mp h'.2).1 _ e)
theorem pairs_at : ∀ {es : List Int}, es.Pairwise (· < ·) → ∀ {e f y : Int}, e ∈ es → f ∈ es → e ≤ y → y < f → ∃ p ∈ pairs es, p.1 ≤ y ∧ y < p.2
  | [], _, _, _, _, he, _, _, _ => nomatch he
  | [a], _, e, f, y, he, hf, h1, h2 => by
    rw [List.mem_singleton.mp he] at h1
    rw [List.mem_singleton.mp hf] at h2
    omega
  | a :: b :: r, h, e, f, y, he, hf, h1, h2 => by
    have h' := List.pairwise_cons.mp h
    by_cases q : y < b
    · refine ⟨(a, b), by rw [pairs_cons]; exact List.mem_cons_self, ?_, q⟩
      rcases List.mem_cons.mp he with rfl | he
      · exact h1
      · have : b ≤ e := by
          rcases List.mem_cons.mp he with rfl | he
          · exact Int.le_refl _
          · exact Int.le_of_lt ((List.pairwise_cons.mp h'.2).1 _ he)
        omega
    · have hf' : f ∈ b :: r := by
        rcases List.mem_cons.mp hf with rfl | hf
        · have := h'.1 b List.mem_cons_self
          omega
        · exact hf
      obtain ⟨p, hp, z⟩ := pairs_at h'.2 (e := b) (f := f) (y := y) List.mem_cons_self hf' (by omega) h2
      exact ⟨p, by rw [pairs_cons]; exact List.mem_cons_of_mem _ hp, z⟩
def Pos (p : List Bx) : Prop := ∀ b ∈ p, 0 < b.w ∧ 0 < b.h
theorem inP_iff {p : List Bx} {x y : Int} : inP p x y = true ↔ ∃ b ∈ p, (b.x ≤ x ∧ x < b.x + b.w) ∧ b.y ≤ y ∧ y < b.y + b.h := by
  unfold inP
  rw [List.any_eq_true]
  constructor
  · rintro ⟨b, h1, h2⟩
    rw [Bool.and_eq_true] at h2
    exact ⟨b, h1, of_decide_eq_true h2.1, of_decide_eq_true h2.2⟩
  · rintro ⟨b, h1, h2, h3⟩
    exact ⟨b, h1, by rw [decide_eq_true h2, decide_eq_true h3]; rfl⟩
def sgOf (b : Bx) : Sg := (b.x, b.x + b.w)
/-- the rising list of edges -/
def Edges (p : List Bx) (es : List Int) : Prop := es.Pairwise (· < ·) ∧ ∀ e, e ∈ es ↔ ∃ b ∈ p, e = b.y ∨ e = b.y + b.h
def selB (p : List Bx) (t b : Int) : List Sg := (p.filter fun q => decide (q.y ≤ t) && decide (b ≤ q.y + q.h)).map sgOf
theorem selB_iff {p : List Bx} {t b x : Int} : inS (selB p t b) x = true ↔ ∃ q ∈ p, q.y ≤ t ∧ b ≤ q.y + q.h ∧ q.x ≤ x ∧ x < q.x + q.w := by
  rw [inS_iff]
  constructor
  · rintro ⟨s, hs, h⟩
    obtain ⟨q, hq, rfl⟩ := List.mem_map.mp hs
    obtain ⟨h1, h2⟩ := List.mem_filter.mp hq
    rw [Bool.and_eq_true] at h2
    exact ⟨q, h1, of_decide_eq_true h2.1, of_decide_eq_true h2.2, h⟩
  · rintro ⟨q, h1, h2, h3, h4⟩
    exact ⟨sgOf q, List.mem_map.mpr ⟨q, List.mem_filter.mpr ⟨h1, by rw [decide_eq_true h2, decide_eq_true h3]; rfl⟩, rfl⟩, h4⟩
theorem inBd_pairs {r : List Band} {es : List Int} (hr : r.map (fun b => (b.t, b.b)) = pairs es) (x y : Int) : inBd r x y = true ↔ ∃ b ∈ r, (b.t, b.b) ∈ pairs es ∧ b.t ≤ y ∧ y < b.b ∧ inS b.ss x = true := by
  rw [inBd_iff]
  constructor
  · rintro ⟨b, h1, h2⟩
    exact ⟨b, h1, by rw [← hr]; exact List.mem_map.mpr ⟨b, h1, rfl⟩, h2⟩
  · rintro ⟨b, h1, _, h2⟩
    exact ⟨b, h1, h2⟩
theorem bands_can {r : List Band} {es : List Int} (he : es.Pairwise (· < ·)) (hr : r.map (fun b => (b.t, b.b)) = pairs es) (hs : ∀ b ∈ r, CanS b.ss) : Can (partBy r) ∧ ∀ x y, inP (partBy r) x y = inBd r x y := by
  refine partBy_ok (fun b hb => ⟨?_, hs b hb⟩) ?_
  · have : (b.t, b.b) ∈ pairs es := by rw [← hr]; exact List.mem_map.mpr ⟨b, hb, rfl⟩
    exact (pairs_mem he _ this).2.2.1
  · have := pairs_pw he
    rw [← hr, List.pairwise_map] at this
    exact this
theorem band_of {r : List Band} {es : List Int} (hr : r.map (fun b => (b.t, b.b)) = pairs es) {p : Int × Int} (hp : p ∈ pairs es) : ∃ b ∈ r, b.t = p.1 ∧ b.b = p.2 := by
  rw [← hr] at hp
  obtain ⟨b, hb, e⟩ := List.mem_map.mp hp
  exact ⟨b, hb, by rw [← e], by rw [← e]⟩
theorem partOf_ok {p : List Bx} {r : List Band} {es : List Int} (he : Edges p es) (hr : r.map (fun b => (b.t, b.b)) = pairs es) (hs : ∀ b ∈ r, CanS b.ss ∧ ∀ x, inS b.ss x = inS (selB p b.t b.b) x) : Can (partBy r) ∧ ∀ x y, inP (partBy r) x y = inP p x y := by
  obtain ⟨a, b⟩ := bands_can he.1 hr fun b hb => (hs b hb).1
  refine ⟨a, fun x y => ?_⟩
  rw [b]
  apply bool_ext
  rw [inBd_pairs hr, inP_iff]
  constructor
  · rintro ⟨c, hc, hm, h1, h2, h3⟩
    rw [(hs c hc).2, selB_iff] at h3
    obtain ⟨q, h4, h5, h6, h7⟩ := h3
    exact ⟨q, h4, h7, by omega, by omega⟩
  · rintro ⟨q, h4, h7, h8, h9⟩
    obtain ⟨pr, hp, h1, h2⟩ := pairs_at he.1 ((he.2 q.y).mpr ⟨q, h4, .inl rfl⟩) ((he.2 (q.y + q.h)).mpr ⟨q, h4, .inr rfl⟩) h8 h9
    obtain ⟨c, hc, e1, e2⟩ := band_of hr hp
    have no := (pairs_mem he.1 pr hp).2.2.2
    have n1 := no q.y ((he.2 q.y).mpr ⟨q, h4, .inl rfl⟩)
    have n2 := no (q.y + q.h) ((he.2 _).mpr ⟨q, h4, .inr rfl⟩)
    refine ⟨c, hc, by rw [e1, e2]; exact hp, by omega, by omega, ?_⟩
    rw [(hs c hc).2, selB_iff]
    exact ⟨q, h4, by omega, by omega, h7⟩
theorem rise_len : ∀ {l : List Int} {lo : Int} {n : Nat}, l.Pairwise (· < ·) → (∀ x ∈ l, lo ≤ x ∧ x < lo + n) → l.length ≤ n
  | [], _, _, _, _ => Nat.zero_le _
  | a :: l, lo, n, h, hb => by
    have ha := hb a List.mem_cons_self
    have h' := List.pairwise_cons.mp h
    have := rise_len (l := l) (lo := a + 1) (n := (lo + n - (a + 1)).toNat) h'.2 fun x hx => by
      have h1 := h'.1 x hx
      have h2 := hb x (List.mem_cons_of_mem _ hx)
      omega
    rw [List.length_cons]
    omega
theorem nodup_len {l : List Int} {lo : Int} {n : Nat} (h : l.Nodup) (hb : ∀ x ∈ l, lo ≤ x ∧ x < lo + n) : l.length ≤ n := by
  have pm := List.mergeSort_perm l (fun a b => decide (a ≤ b))
  rw [← pm.length_eq]
  have so : (l.mergeSort fun a b => decide (a ≤ b)).Pairwise (fun a b => decide (a ≤ b) = true) := List.pairwise_mergeSort (fun a b c h1 h2 => by simp only [decide_eq_true_eq] at *; omega) (fun a b => by simp only [Bool.or_eq_true, decide_eq_true_eq]; omega) l
  have nd : (l.mergeSort fun a b => decide (a ≤ b)).Nodup := pm.nodup_iff.mpr h
  refine rise_len (lo := lo) ((List.Pairwise.and so nd).imp fun {a b} z => ?_) fun x hx => hb x (pm.mem_iff.mp hx)
  have := of_decide_eq_true z.1
  have := z.2
  omega
/-- within a window -/
def Win (lx ly : Int) (p : List Bx) : Prop := ∀ b ∈ p, (0 < b.w ∧ 0 < b.h) ∧ (lx ≤ b.x ∧ b.x + b.w ≤ lx + 2800) ∧ ly ≤ b.y ∧ b.y + b.h ≤ ly + 2800
theorem Win.spot {lx ly : Int} {p : List Bx} (h : Win lx ly p) {x y : Int} (hx : inP p x y = true) : (lx ≤ x ∧ x < lx + 2800) ∧ ly ≤ y ∧ y < ly + 2800 := by
  obtain ⟨b, hb, z⟩ := inP_iff.mp hx
  have := h b hb
  omega
theorem can_box {p : List Bx} (hp : Can p) : ∀ b ∈ p, 0 < b.w ∧ 0 < b.h := fun b hb => by
  obtain ⟨bs, h1, h2, rfl⟩ := hp
  obtain ⟨c, hc, hb⟩ := List.mem_flatMap.mp hb
  obtain ⟨s, hs, rfl⟩ := List.mem_map.mp hb
  have := h1.ok c hc
  have := this.2.1 s hs
  simp only
  omega
theorem box_corner {p : List Bx} {b : Bx} (hb : b ∈ p) (h : 0 < b.w ∧ 0 < b.h) : inP p b.x b.y = true ∧ inP p (b.x + b.w - 1) (b.y + b.h - 1) = true :=
  ⟨inP_iff.mpr ⟨b, hb, by omega⟩, inP_iff.mpr ⟨b, hb, by omega⟩⟩
/-- what a window's spots tell lies within it -/
theorem can_win {p : List Bx} {lx ly : Int} (hp : Can p) (h : ∀ x y, inP p x y = true → (lx ≤ x ∧ x < lx + 2800) ∧ ly ≤ y ∧ y < ly + 2800) : Win lx ly p := fun b hb => by
  have h0 := can_box hp b hb
  obtain ⟨c1, c2⟩ := box_corner hb h0
  have := h _ _ c1
  have := h _ _ c2
  omega
theorem bxs_len {b : Band} : (bxs b).length = b.ss.length := by unfold bxs; rw [List.length_map]
theorem flat_len {n : Nat} : ∀ {bs : List Band}, (∀ b ∈ bs, b.ss.length ≤ n) → (boxesOf bs).length ≤ bs.length * n
  | [], _ => Nat.zero_le _
  | b :: bs, h => by
    show (bxs b ++ boxesOf bs).length ≤ _
    rw [List.length_append, bxs_len, List.length_cons, Nat.succ_mul]
    have := h b List.mem_cons_self
    have := flat_len (bs := bs) fun c hc => h c (List.mem_cons_of_mem _ hc)
    omega
theorem can_len {p : List Bx} {lx ly : Int} (hp : Can p) (hw : Win lx ly p) : p.length ≤ 7840000 := by
  obtain ⟨bs, h1, h2, rfl⟩ := hp
  have mem : ∀ b ∈ bs, ∀ s ∈ b.ss, (⟨s.1, b.t, s.2 - s.1, b.b - b.t⟩ : Bx) ∈ boxesOf bs := fun b hb s hs => List.mem_flatMap.mpr ⟨b, hb, List.mem_map.mpr ⟨s, hs, rfl⟩⟩
  have l1 : bs.length ≤ 2800 := by
    rw [← List.length_map (f := fun b : Band => b.t)]
    refine rise_len (lo := ly) (List.pairwise_map.mpr (h1.pw.imp_of_mem fun {a b} ha hb r => ?_)) fun y hy => ?_
    · have := (h1.ok a ha).1
      have := r.le
      omega
    · obtain ⟨b, hb, rfl⟩ := List.mem_map.mp hy
      obtain ⟨s, hs⟩ := List.exists_mem_of_ne_nil _ (h2 b hb)
      have := hw _ (mem b hb s hs)
      simp only at this
      omega
  have l2 : ∀ b ∈ bs, b.ss.length ≤ 2800 := fun b hb => by
    rw [← List.length_map (f := fun s : Sg => s.1)]
    have hc := (h1.ok b hb).2
    refine rise_len (lo := lx) (List.pairwise_map.mpr (hc.2.imp_of_mem fun {s t} hs ht r => ?_)) fun x hx => ?_
    · have := hc.1 s hs
      omega
    · obtain ⟨s, hs, rfl⟩ := List.mem_map.mp hx
      have := hw _ (mem b hb s hs)
      simp only at this
      omega
  have := flat_len l2
  have := Nat.mul_le_mul_right 2800 l1
  omega
def cnt (P : Int → Bool) (lo : Int) : Nat → Int
  | 0 => 0
  | n + 1 => (if P lo then 1 else 0) + cnt P (lo + 1) n
def sumF (F : Int → Int) (lo : Int) : Nat → Int
  | 0 => 0
  | n + 1 => F lo + sumF F (lo + 1) n
theorem cnt_add (P : Int → Bool) : ∀ (m : Nat) (lo : Int) (n : Nat), cnt P lo (m + n) = cnt P lo m + cnt P (lo + m) n
  | 0, lo, n => by simp [cnt]
  | m + 1, lo, n => by
    rw [show m + 1 + n = (m + n) + 1 by omega]
    show (if P lo then 1 else 0) + cnt P (lo + 1) (m + n) = (if P lo then 1 else 0) + cnt P (lo + 1) m + _
    rw [cnt_add P m (lo + 1) n, show lo + 1 + (m : Int) = lo + ((m + 1 : Nat) : Int) by omega]
    omega
theorem sumF_add (F : Int → Int) : ∀ (m : Nat) (lo : Int) (n : Nat), sumF F lo (m + n) = sumF F lo m + sumF F (lo + m) n
  | 0, lo, n => by simp [sumF]
  | m + 1, lo, n => by
    rw [show m + 1 + n = (m + n) + 1 by omega]
    show F lo + sumF F (lo + 1) (m + n) = F lo + sumF F (lo + 1) m + _
    rw [sumF_add F m (lo + 1) n, show lo + 1 + (m : Int) = lo + ((m + 1 : Nat) : Int) by omega]
    omega
theorem cnt_true {P : Int → Bool} : ∀ (n : Nat) (lo : Int), (∀ x, lo ≤ x → x < lo + n → P x = true) → cnt P lo n = n
  | 0, _, _ => rfl
  | n + 1, lo, h => by
    show (if P lo then 1 else 0) + cnt P (lo + 1) n = _
    rw [h lo (Int.le_refl _) (by omega), cnt_true n (lo + 1) fun x h1 h2 => h x (by omega) (by omega)]
    simp; omega
theorem cnt_false {P : Int → Bool} : ∀ (n : Nat) (lo : Int), (∀ x, lo ≤ x → x < lo + n → P x = false) → cnt P lo n = 0
  | 0, _, _ => rfl
  | n + 1, lo, h => by
    show (if P lo then 1 else 0) + cnt P (lo + 1) n = _
    rw [h lo (Int.le_refl _) (by omega), cnt_false n (lo + 1) fun x h1 h2 => h x (by omega) (by omega)]
    simp
theorem sumF_const {F : Int → Int} {c : Int} : ∀ (n : Nat) (lo : Int), (∀ x, lo ≤ x → x < lo + n → F x = c) → sumF F lo n = n * c
  | 0, _, _ => by simp [sumF]
  | n + 1, lo, h => by
    show F lo + sumF F (lo + 1) n = _
    rw [h lo (Int.le_refl _) (by omega), sumF_const n (lo + 1) fun x h1 h2 => h x (by omega) (by omega)]
    rw [show ((n + 1 : Nat) : Int) = (n : Int) + 1 by omega, Int.add_mul]; omega
theorem cnt_congr {P Q : Int → Bool} : ∀ (n : Nat) (lo : Int), (∀ x, lo ≤ x → x < lo + n → P x = Q x) → cnt P lo n = cnt Q lo n
  | 0, _, _ => rfl
  | n + 1, lo, h => by
    show (if P lo then 1 else 0) + cnt P (lo + 1) n = (if Q lo then 1 else 0) + cnt Q (lo + 1) n
    rw [h lo (Int.le_refl _) (by omega), cnt_congr n (lo + 1) fun x h1 h2 => h x (by omega) (by omega)]
theorem sumF_congr {F G : Int → Int} : ∀ (n : Nat) (lo : Int), (∀ x, lo ≤ x → x < lo + n → F x = G x) → sumF F lo n = sumF G lo n
  | 0, _, _ => rfl
  | n + 1, lo, h => by
    show F lo + sumF F (lo + 1) n = G lo + sumF G (lo + 1) n
    rw [h lo (Int.le_refl _) (by omega), sumF_congr n (lo + 1) fun x h1 h2 => h x (by omega) (by omega)]
theorem cnt_incl {P Q : Int → Bool} : ∀ (n : Nat) (lo : Int), cnt (fun x => P x || Q x) lo n + cnt (fun x => P x && Q x) lo n = cnt P lo n + cnt Q lo n
  | 0, _ => rfl
  | n + 1, lo => by
    have := cnt_incl (P := P) (Q := Q) n (lo + 1)
    show (if P lo || Q lo then 1 else 0) + cnt (fun x => P x || Q x) (lo + 1) n + ((if P lo && Q lo then 1 else 0) + cnt (fun x => P x && Q x) (lo + 1) n) = (if P lo then 1 else 0) + cnt P (lo + 1) n + ((if Q lo then 1 else 0) + cnt Q (lo + 1) n)
    cases P lo <;> cases Q lo <;> simp <;> omega
theorem sumF_plus {F G : Int → Int} : ∀ (n : Nat) (lo : Int), sumF (fun x => F x + G x) lo n = sumF F lo n + sumF G lo n
  | 0, _ => rfl
  | n + 1, lo => by
    have := sumF_plus (F := F) (G := G) n (lo + 1)
    show F lo + G lo + sumF (fun x => F x + G x) (lo + 1) n = F lo + sumF F (lo + 1) n + (G lo + sumF G (lo + 1) n)
    omega
theorem cnt3 {P : Int → Bool} {lo x y : Int} {n : Nat} (h1 : lo ≤ x) (h2 : x ≤ y) (h3 : y ≤ lo + n) : cnt P lo n = cnt P lo (x - lo).toNat + (cnt P x (y - x).toNat + cnt P y (lo + n - y).toNat) := by
  have e : n = (x - lo).toNat + ((y - x).toNat + (lo + n - y).toNat) := by omega
  have q1 := cnt_add P (x - lo).toNat lo ((y - x).toNat + (lo + n - y).toNat)
  have q2 := cnt_add P (y - x).toNat x (lo + n - y).toNat
  have ex : lo + ((x - lo).toNat : Int) = x := by omega
  have ey : x + ((y - x).toNat : Int) = y := by omega
  rw [ex] at q1
  rw [ey] at q2
  have : cnt P lo n = cnt P lo ((x - lo).toNat + ((y - x).toNat + (lo + n - y).toNat)) := congrArg (cnt P lo) e
  omega
theorem sumF3 {P : Int → Int} {lo x y : Int} {n : Nat} (h1 : lo ≤ x) (h2 : x ≤ y) (h3 : y ≤ lo + n) : sumF P lo n = sumF P lo (x - lo).toNat + (sumF P x (y - x).toNat + sumF P y (lo + n - y).toNat) := by
  have e : n = (x - lo).toNat + ((y - x).toNat + (lo + n - y).toNat) := by omega
  have q1 := sumF_add P (x - lo).toNat lo ((y - x).toNat + (lo + n - y).toNat)
  have q2 := sumF_add P (y - x).toNat x (lo + n - y).toNat
  have ex : lo + ((x - lo).toNat : Int) = x := by omega
  have ey : x + ((y - x).toNat : Int) = y := by omega
  rw [ex] at q1
  rw [ey] at q2
  have : sumF P lo n = sumF P lo ((x - lo).toNat + ((y - x).toNat + (lo + n - y).toNat)) := congrArg (sumF P lo) e
  omega
theorem len_cnt : ∀ {ss : List Sg} {lo : Int} {n : Nat}, CanS ss → (∀ s ∈ ss, lo ≤ s.1 ∧ s.2 ≤ lo + n) → (ss.map fun s => s.2 - s.1).sum = cnt (inS ss) lo n
  | [], lo, n, _, _ => (cnt_false n lo fun _ _ _ => rfl).symm
  | s :: ss, lo, n, h, hb => by
    have hs := hb s List.mem_cons_self
    have h0 := h.head
    have ih := len_cnt (ss := ss) (lo := s.2) (n := (lo + n - s.2).toNat) h.tail fun t ht => by
      have := h0.2 t ht
      have := hb t (List.mem_cons_of_mem _ ht)
      omega
    rw [List.map_cons, List.sum_cons, ih, cnt3 (x := s.1) (y := s.2) hs.1 (Int.le_of_lt h0.1) hs.2]
    have a1 : cnt (inS (s :: ss)) lo (s.1 - lo).toNat = 0 := cnt_false _ _ fun x h1 h2 => by
      rw [inS_cons, decide_eq_false (by omega)]
      exact h.behind (by omega)
    have a2 : cnt (inS (s :: ss)) s.1 (s.2 - s.1).toNat = (s.2 - s.1).toNat := cnt_true _ _ fun x h1 h2 => by
      rw [inS_cons, decide_eq_true (by omega)]; rfl
    have a3 : cnt (inS (s :: ss)) s.2 (lo + n - s.2).toNat = cnt (inS ss) s.2 (lo + n - s.2).toNat := cnt_congr _ _ fun x h1 h2 => by
      rw [inS_cons, decide_eq_false (by omega)]; rfl
    rw [a1, a2, a3]
    omega
def area (p : List Bx) : Int := (p.map fun b => b.w * b.h).sum
theorem area_app {p q : List Bx} : area (p ++ q) = area p + area q := by unfold area; rw [List.map_append, List.sum_append]
theorem area_bxs {b : Band} : area (bxs b) = (b.b - b.t) * (b.ss.map fun s => s.2 - s.1).sum := by
  unfold area bxs
  rw [List.map_map]
  induction b.ss with
  | nil => simp
  | cons s ss ih =>
    rw [List.map_cons, List.sum_cons, ih, List.map_cons, List.sum_cons, Int.mul_add]
    simp only [Function.comp]
    rw [Int.mul_comm]
theorem area_bands : ∀ {bs : List Band} {lx ly : Int} {m n : Nat}, CanB bs → (∀ b ∈ bs, (ly ≤ b.t ∧ b.b ≤ ly + n) ∧ ∀ s ∈ b.ss, lx ≤ s.1 ∧ s.2 ≤ lx + m) → area (boxesOf bs) = sumF (fun y => cnt (fun x => inBd bs x y) lx m) ly n
  | [], lx, ly, m, n, _, _ => by
    have := sumF_const (F := fun y => cnt (fun x => inBd [] x y) lx m) (c := 0) n ly fun y _ _ => cnt_false m lx fun _ _ _ => rfl
    rw [this]
    simp [area, boxesOf]
  | b :: bs, lx, ly, m, n, h, hb => by
    have hbb := hb b List.mem_cons_self
    have h0 := h.ok b List.mem_cons_self
    have ih := area_bands (bs := bs) (lx := lx) (ly := b.b) (m := m) (n := (ly + n - b.b).toNat) h.tail fun c hc => by
      have := ((List.pairwise_cons.mp h.pw).1 c hc).le
      have := hb c (List.mem_cons_of_mem _ hc)
      exact ⟨by omega, this.2⟩
    show area (bxs b ++ boxesOf bs) = _
    rw [area_app, area_bxs, ih, len_cnt h0.2 hbb.2]
    have hlt := h0.1
    rw [sumF3 (x := b.t) (y := b.b) hbb.1.1 (by omega) hbb.1.2]
    have a1 : sumF (fun y => cnt (fun x => inBd (b :: bs) x y) lx m) ly (b.t - ly).toNat = (b.t - ly).toNat * 0 := sumF_const _ _ fun y h1 h2 => cnt_false m lx fun x _ _ => canB_low h (by omega)
    have a2 : sumF (fun y => cnt (fun x => inBd (b :: bs) x y) lx m) b.t (b.b - b.t).toNat = (b.b - b.t).toNat * cnt (inS b.ss) lx m := sumF_const _ _ fun y h1 h2 => cnt_congr m lx fun x _ _ => h.row List.mem_cons_self (by omega) (by omega)
    have a3 : sumF (fun y => cnt (fun x => inBd (b :: bs) x y) lx m) b.b (ly + n - b.b).toNat = sumF (fun y => cnt (fun x => inBd bs x y) lx m) b.b (ly + n - b.b).toNat := sumF_congr _ _ fun y h1 h2 => cnt_congr m lx fun x _ _ => by
      rw [inBd_cons, decide_eq_false (by omega)]; rfl
    rw [a1, a2, a3, show (((b.b - b.t).toNat : Nat) : Int) = b.b - b.t by omega]
    omega
/-- spots in a window -/
def spots (P : Int → Int → Bool) (lx ly : Int) : Int := sumF (fun y => cnt (fun x => P x y) lx 2800) ly 2800
theorem area_can {p : List Bx} {lx ly : Int} (hp : Can p) (hw : Win lx ly p) : area p = spots (inP p) lx ly := by
  obtain ⟨bs, h1, h2, rfl⟩ := hp
  rw [area_bands h1 (lx := lx) (ly := ly) (m := 2800) (n := 2800) fun b hb => ?_]
  · unfold spots
    exact sumF_congr 2800 ly fun y _ _ => cnt_congr 2800 lx fun x _ _ => inP_boxes.symm
  · have mem : ∀ s ∈ b.ss, (⟨s.1, b.t, s.2 - s.1, b.b - b.t⟩ : Bx) ∈ boxesOf bs := fun s hs => List.mem_flatMap.mpr ⟨b, hb, List.mem_map.mpr ⟨s, hs, rfl⟩⟩
    refine ⟨?_, fun s hs => ?_⟩
    · obtain ⟨s, hs⟩ := List.exists_mem_of_ne_nil _ (h2 b hb)
      have := hw _ (mem s hs)
      simp only at this
      omega
    · have := hw _ (mem s hs)
      simp only at this
      omega
theorem spots_incl {P Q : Int → Int → Bool} {lx ly : Int} : spots (fun x y => P x y || Q x y) lx ly + spots (fun x y => P x y && Q x y) lx ly = spots P lx ly + spots Q lx ly := by
  unfold spots
  rw [← sumF_plus, ← sumF_plus]
  exact sumF_congr 2800 ly fun y _ _ => cnt_incl 2800 lx
theorem spots_congr {P Q : Int → Int → Bool} {lx ly : Int} (h : ∀ x y, P x y = Q x y) : spots P lx ly = spots Q lx ly := by
  have : P = Q := funext fun x => funext fun y => h x y
  rw [this]
end Pt
namespace Pt
open PySem PySem.Spec PyProof.Rows L2 Ev
variable [TabC]
instance : DecidableEq Bx := fun a b => decidable_of_iff (a.x = b.x ∧ a.y = b.y ∧ a.w = b.w ∧ a.h = b.h) ⟨fun h => by
  cases a; cases b
  obtain ⟨h1, h2, h3, h4⟩ := h
  simp only at h1 h2 h3 h4
  subst h1 h2 h3 h4
  rfl, fun h => by subst h; exact ⟨rfl, rfl, rfl, rfl⟩⟩
def sgD (s : Sg) : D := .tup [.int s.1, .int s.2]
def bxD (b : Bx) : D := .tup [.int b.x, .int b.y, .int b.w, .int b.h]
def bdD (b : Band) : D := .tup [.int b.t, .int b.b, .tup (b.ss.map sgD)]
def partD (p : List Bx) : D := .tup (p.map bxD)
theorem eqs_map {α : Type} [DecidableEq α] {f : α → D} (h : ∀ a b, D.eq (f a) (f b) = decide (a = b)) : ∀ xs ys : List α, D.eqs (xs.map f) (ys.map f) = decide (xs = ys)
  | [], [] => by simp [D.eqs]
  | [], y :: ys => by simp [D.eqs]
  | x :: xs, [] => by simp [D.eqs]
  | x :: xs, y :: ys => by
    rw [List.map_cons, List.map_cons, D.eqs, h, eqs_map h xs ys]
    by_cases e1 : x = y <;> by_cases e2 : xs = ys <;> simp [e1, e2]
theorem eq_ints : ∀ xs ys : List Int, D.eqs (xs.map D.int) (ys.map D.int) = decide (xs = ys) := eqs_map fun a b => by rw [Ev.eq_int]
theorem eq_sg (a b : Sg) : D.eq (sgD a) (sgD b) = decide (a = b) := by
  have := eq_ints [a.1, a.2] [b.1, b.2]
  show D.eq (.tup _) (.tup _) = _
  rw [eq_tup]
  refine this.trans (decide_eq_decide.mpr ?_)
  rw [Prod.ext_iff]
  simp
theorem eq_bx (a b : Bx) : D.eq (bxD a) (bxD b) = decide (a = b) := by
  have := eq_ints [a.x, a.y, a.w, a.h] [b.x, b.y, b.w, b.h]
  show D.eq (.tup _) (.tup _) = _
  rw [eq_tup]
  refine this.trans (decide_eq_decide.mpr ?_)
  cases a; cases b
  simp
theorem eq_sgs (a b : List Sg) : D.eq (.tup (a.map sgD)) (.tup (b.map sgD)) = decide (a = b) := by rw [eq_tup]; exact eqs_map eq_sg a b
theorem eq_part (a b : List Bx) : D.eq (partD a) (partD b) = decide (a = b) := by
  show D.eq (.tup _) (.tup _) = _
  rw [eq_tup]; exact eqs_map eq_bx a b
theorem lay_sgs (ss : List Sg) : D.lays (ss.map sgD) = true := lays_map fun _ _ => rfl
theorem dep_sgs (ss : List Sg) : D.deps (ss.map sgD) ≤ 1 := deps_map fun _ _ => Nat.le_refl _
theorem lay_bxs (p : List Bx) : D.lays (p.map bxD) = true := lays_map fun _ _ => rfl
theorem dep_bxs (p : List Bx) : D.deps (p.map bxD) ≤ 1 := deps_map fun _ _ => Nat.le_refl _
theorem cm_part (p : List Bx) : (partD p).cm := ⟨lay_bxs p, by have := dep_bxs p; show D.deps _ + 1 ≤ 64; omega⟩
theorem sort_map {α : Type} {f : α → D} {r : α → α → Bool} {l : List α} (h : ∀ a b, r a b = PySem.W.dataLe false D.py (f a) (f b)) : sortD (l.map f) = (l.mergeSort r).map f :=
  (List.map_mergeSort (r := r) (s := PySem.W.dataLe false D.py) (f := f) (l := l) fun a _ b _ => h a b).symm
theorem le_int (a b : Int) : decide (a ≤ b) = PySem.W.dataLe false D.py (D.int a) (D.int b) := (congrFun (congrFun (PySem.W.dataLe_int (β := Int) id) a) b).symm
theorem le_sg (a b : Sg) : decide (a.1 < b.1 ∨ (a.1 = b.1 ∧ a.2 ≤ b.2)) = PySem.W.dataLe false D.py (sgD a) (sgD b) := by
  have := (congrFun (congrFun (PySem.W.dataLe_ii (β := Sg) (·.1) (·.2)) a) b).symm
  refine this.trans ?_
  simp only [PySem.W.dataLe_eq, sgD, D.py, D.pys]
theorem sorted_ints (l : List Int) : ∃ m : List Int, sortD (l.map D.int) = m.map D.int ∧ m.Perm l ∧ m.Pairwise (· ≤ ·) := by
  refine ⟨_, sort_map le_int, List.mergeSort_perm _ _, ?_⟩
  have := List.pairwise_mergeSort (le := fun x y : Int => decide (x ≤ y)) (by intro x y z h1 h2; simp only [decide_eq_true_eq] at *; omega) (by intro x y; simp only [Bool.or_eq_true, decide_eq_true_eq]; omega) l
  exact this.imp fun h => of_decide_eq_true h
theorem sorted_nodup {l : List Int} (h : l.Nodup) : ∃ m : List Int, sortD (l.map D.int) = m.map D.int ∧ m.Perm l ∧ m.Pairwise (· < ·) := by
  obtain ⟨m, e, p, w⟩ := sorted_ints l
  refine ⟨m, e, p, ?_⟩
  have n : m.Nodup := p.nodup_iff.mpr h
  exact (w.and n).imp fun ⟨a, b⟩ => by omega
theorem sorted_sgs (l : List Sg) : ∃ m : List Sg, sortD (l.map sgD) = m.map sgD ∧ m.Perm l ∧ m.Pairwise fun s t => s.1 ≤ t.1 := by
  refine ⟨_, sort_map le_sg, List.mergeSort_perm _ _, ?_⟩
  have := List.pairwise_mergeSort (le := fun a b : Sg => decide (a.1 < b.1 ∨ (a.1 = b.1 ∧ a.2 ≤ b.2))) (by intro x y z h1 h2; simp only [decide_eq_true_eq] at *; omega) (by intro x y; simp only [Bool.or_eq_true, decide_eq_true_eq]; omega) l
  exact this.imp fun h => by
    have := of_decide_eq_true h
    omega
theorem srt_ints {l : List Int} (hl : l.length ≤ sizeLine) : srtOk (l.map D.int) := by
  refine ⟨lays_map fun _ _ => rfl, fun d hd => ?_, ?_, ?_, by simpa using hl⟩
  · obtain ⟨a, _, rfl⟩ := List.mem_map.mp hd
    show 0 ≤ 64
    decide
  · rw [List.map_map]
    exact PySem.W.AllAlike.of fun a b => by simp [D.py, PySem.W.alike]
  · rw [List.map_map]
    exact PySem.W.Sortable.others fun a => ⟨by simp [D.py], fun xs => by simp [D.py]⟩
theorem srt_sgs {l : List Sg} (hl : l.length ≤ sizeLine) : srtOk (l.map sgD) := by
  refine ⟨lays_map fun a _ => rfl, fun d hd => ?_, ?_, ?_, by simpa using hl⟩
  · obtain ⟨a, _, rfl⟩ := List.mem_map.mp hd
    show 1 ≤ 64
    decide
  · rw [List.map_map]
    exact PySem.W.AllAlike.of fun a b => by simp [sgD, D.py, D.pys, PySem.W.alike, PySem.W.alikeAll]
  · rw [List.map_map]
    exact PySem.W.Sortable.tuples fun a => ⟨.int a.1, [.int a.2], by simp [sgD, D.py, D.pys]⟩
def keyed (ns : List Int) : List (Key × D) := ns.map fun n => (Sum.inl n, D.bl true)
theorem put_keyed (ns : List Int) (n : Int) : putD (keyed ns) (Sum.inl n) (.bl true) = keyed (if n ∈ ns then ns else ns ++ [n]) := by
  unfold putD keyed
  by_cases h : n ∈ ns
  · rw [if_pos h, if_pos]
    · rw [List.map_map]
      refine List.map_congr_left fun a _ => ?_
      simp only [Function.comp]
      split <;> rfl
    · rw [List.any_map, List.any_eq_true]
      exact ⟨n, h, by simp⟩
  · rw [if_neg h, if_neg, List.map_append]
    · rfl
    · rw [List.any_map, List.any_eq_true]
      rintro ⟨a, ha, e⟩
      simp only [Function.comp, decide_eq_true_eq, Sum.inl.injEq] at e
      exact h (e ▸ ha)
theorem key_keyed (ns : List Int) : keyDK (keyed ns) = ns.map D.int := by
  unfold keyDK keyed
  rw [List.map_map]; rfl
/-- the numbers met, each once, in the order in which they come -/
def once (acc : List Int) : List Int → List Int
  | [] => acc
  | n :: ns => once (if n ∈ acc then acc else acc ++ [n]) ns
theorem once_mem : ∀ (ns acc : List Int) (x : Int), x ∈ once acc ns ↔ x ∈ acc ∨ x ∈ ns
  | [], acc, x => by simp [once]
  | n :: ns, acc, x => by
    rw [once, once_mem ns]
    by_cases h : n ∈ acc
    · rw [if_pos h, List.mem_cons]
      constructor
      · rintro (q | q)
        · exact .inl q
        · exact .inr (.inr q)
      · rintro (q | rfl | q)
        · exact .inl q
        · exact .inl h
        · exact .inr q
    · rw [if_neg h]
      simp [or_assoc]
theorem once_nodup : ∀ (ns acc : List Int), acc.Nodup → (once acc ns).Nodup
  | [], _, h => h
  | n :: ns, acc, h => by
    rw [once]
    refine once_nodup ns _ ?_
    split
    · exact h
    · rename_i q
      rw [List.nodup_append]
      exact ⟨h, by simp, fun a ha b hb => by rw [List.mem_singleton] at hb; subst hb; exact fun z => q (z ▸ ha)⟩
theorem once_len {ns : List Int} {lo : Int} {n : Nat} (h : ∀ x ∈ ns, lo ≤ x ∧ x < lo + n) : (once [] ns).length ≤ n :=
  nodup_len (once_nodup ns [] .nil) fun x hx => h x (((once_mem ns [] x).mp hx).resolve_left (by simp))
theorem once_app (acc xs ys : List Int) : once acc (xs ++ ys) = once (once acc xs) ys := by
  induction xs generalizing acc with
  | nil => rfl
  | cons x xs ih => exact ih _
end Pt
namespace Pt
def Tight (M : Int) (f : Int → Int → Bool) : Prop := ∀ x y, f x y = true → (-M ≤ x ∧ x < M) ∧ -M ≤ y ∧ y < M
theorem Tight.mono {M N : Int} {f : Int → Int → Bool} (h : Tight M f) (l : M ≤ N) : Tight N f := fun x y z => by
  have := h x y z
  omega
structure Pf (r : List Bx) (f : Int → Int → Bool) : Prop where
  can : Can r
  eq : ∀ x y, inP r x y = f x y
section
variable {p q : List Bx} {f g : Int → Int → Bool}
theorem Pf.win (h : Pf p f) (t : Tight 1400 f) : Win (-1400) (-1400) p := can_win h.can fun x y z => by
  rw [h.eq] at z
  have := t x y z
  omega
theorem Pf.len (h : Pf p f) (t : Tight 1400 f) : p.length ≤ 7840000 := can_len h.can (h.win t)
theorem Pf.same (h : Pf p f) (k : Pf q g) (e : ∀ x y, f x y = g x y) : p = q := can_eq h.can k.can fun x y => by rw [h.eq, k.eq, e]
end
end Pt
namespace Ev
open PySem PySem.Spec PyProof.Rows L2
variable [TabC]
section
variable {X : Cx} {E : EK} {o x : Expr} {cp ap : Pos} {da dx : dE}
/-- o.count(x), o a list -/
def dCount (d e : dE) : dE := fun W δ Q => d W δ fun z δ1 => match z with
  | .lst ds => e W δ1 fun y δ2 => (D.lst ds).cm ∧ y.cm ∧ Q (.int ((ds.countP fun z => z.eq y : Nat) : Int)) δ2
  | _ => False
end
end Ev
namespace Ev
open PySem PySem.Spec PyProof.Rows L2
variable [TabC]
variable {K : PySem.W.Frag} {S S' H H' : Hp} {B : Bs} {δ : DS} {σ : L2.St}
/-- the object of slot i, of one's own, taken out of it -/
theorem Rel.unslot (R : Rel K B δ S σ H) {i : Nat} {x : Sl} {p : Addr} {o : HO} (hi : δ.sl[i]? = some x) (hx : ∀ oa, SlOk K B S H oa σ[i]? x → oa = some p) (r2 : B.H0 p = none) (r3 : B.pa ≠ some p) (r5 : H p = some o) (pl : HO.plain o = true) :
    Rel K B (setSl δ i .un) S σ (hide H p) ∧ S p = none ∧ hide H p p = none ∧ H = upd (hide H p) p o := by
  obtain ⟨ow, h1, h2, h3, h4⟩ := id R.sl
  have r1 : ow i = some p := hx _ (h1 i x hi)
  obtain ⟨sp, q2, q3, _⟩ := h4 i p r1
  have er : ∀ a, a ≠ p → hide H p a = H a := fun a ne => if_neg ne
  have oj : ∀ j a, j ≠ i → ow j = some a → a ≠ p := fun j a nj e z => nj (h3 j i a e (by rw [z]; exact r1))
  refine ⟨⟨⟨fun a u h => ?_, fun b us h => ?_, R.ex.tb.at_ p (fun b u n h => by rw [er b n]; exact h) (fun u z => by rw [r5] at z; cases z; exact own_plain pl) fun _ _ z => z⟩, ⟨R.fr.s, fun b u h hb nb => ?_, fun b ps h => by
    obtain ⟨qs, z⟩ := R.fr.t b ps h
    exact ⟨qs, by rw [er b (fun e => by subst e; rw [r5] at z; cases z; cases pl)]; exact z⟩, R.fr.no, fun a e => ?_⟩, ?_, R.pa, by simpa [setSl] using R.len, fun j => if j = i then none else ow j, fun j x e => ?_, fun j hj => ?_, fun j k a e1 e2 => ?_, fun j a e => ?_⟩, sp, hide_same, ?_⟩
  · rw [er a (fun z => by rw [z, sp] at h; cases h)]; exact R.ex a u h
  · have ne : b ≠ p := fun z => by rw [z, hide_same] at h; cases h
    rw [er b ne] at h; exact R.ex.tp b us h
  · rw [er b (fun z => by rw [z, r2] at h; cases h)]; exact R.fr.h b u h hb nb
  · obtain ⟨u, q⟩ := R.fr.pa a e
    have ne : a ≠ p := fun z => r3 (by rw [← z]; exact e)
    exact ⟨u, by rw [er a ne]; exact q⟩
  · have hp := R.pen
    show PenOk S (hide H p) δ.pen
    cases hpe : δ.pen with
    | none => trivial
    | some ac =>
      obtain ⟨a, c⟩ := ac
      rw [hpe] at hp
      have ne : a ≠ p := fun z => q3 c (by rw [hpe, z])
      obtain ⟨n, ca, ns, k, m, t1, t2, t3⟩ := hp
      exact ⟨n, ca, ns, k, m, by rw [er a ne]; exact t1, t2, t3⟩
  · rcases get_set (show (δ.sl.set i .un)[j]? = some x from e) with ⟨rfl, rfl⟩ | ⟨nj, e⟩
    · show (if j = j then none else ow j) = none
      simp
    · have q := h1 j x e
      have ej : (if j = i then none else ow j) = ow j := if_neg nj
      show SlOk K B S (hide H p) (if j = i then none else ow j) σ[j]? x
      rw [ej]
      exact q.grow (Ex.refl _) fun a o ea ha _ => by rw [er a (oj j a nj ea)]; exact ha
  · show (if j = i then none else ow j) = none
    split
    · rfl
    · exact h2 j (by simpa [setSl] using hj)
  · have e1 : (if j = i then none else ow j) = some a := e1
    have e2 : (if k = i then none else ow k) = some a := e2
    split at e1
    · cases e1
    · split at e2
      · cases e2
      · exact h3 j k a e1 e2
  · have e : (if j = i then none else ow j) = some a := e
    split at e
    · cases e
    · rename_i nj
      obtain ⟨t1, t2, t3, u, t4⟩ := h4 j a e
      exact ⟨t1, t2, t3, u, by rw [er a (oj j a nj e)]; exact t4⟩
  · funext b
    by_cases z : b = p
    · subst z; rw [upd_same]; exact r5
    · rw [upd_ne z]; exact (er b z).symm
def Bs.over (B : Bs) (M : Hp) : Bs := { B with H0 := fun b => match M b with | some o => some o | none => B.H0 b }
theorem over_with {M : Hp} {p : Addr} {o : HO} : (B.over M).with p o = B.over (upd M p o) := by
  have e : upd (B.over M).H0 p o = (B.over (upd M p o)).H0 := by
    funext b
    by_cases z : b = p
    · subst z
      show upd _ b o b = match upd M b o b with | some o => some o | none => B.H0 b
      rw [upd_same, upd_same]
    · rw [upd_ne z]
      show (match M b with | some o => some o | none => B.H0 b) = match upd M p o b with | some o => some o | none => B.H0 b
      rw [upd_ne z]
  show ({ B with H0 := upd (B.over M).H0 p o } : Bs) = { B with H0 := (B.over (upd M p o)).H0 }
  rw [e]
theorem upd_hide {M : Hp} {p : Addr} {o : HO} (h : M p = some o) : upd (hide M p) p o = M := by
  funext b
  by_cases z : b = p
  · subst z; rw [upd_same, h]
  · rw [upd_ne z]; exact if_neg z
theorem upd_hide2 {M : Hp} {p : Addr} {o : HO} : upd (hide M p) p o = upd M p o := by
  funext b
  by_cases z : b = p
  · subst z; rw [upd_same, upd_same]
  · rw [upd_ne z, upd_ne z]; exact if_neg z
theorem over_hide {M : Hp} {p : Addr} {o : HO} (h : M p = some o) : B.over M = (B.over (hide M p)).with p o := by
  rw [over_with, upd_hide h]
theorem over_at {M : Hp} {p : Addr} (h : M p = none) (hB : B.H0 p = none) : (B.over M).H0 p = none := by
  show (match M p with | some o => some o | none => B.H0 p) = none
  rw [h]; exact hB
theorem over_in {M : Hp} {p : Addr} {o : HO} (h : M p = some o) : (B.over M).H0 p = some o := by
  show (match M p with | some o => some o | none => B.H0 p) = some o
  rw [h]
/-- an object beside is there, not frozen -/
theorem Rel.beside {M : Hp} {p : Addr} {o : HO} (R : Rel K (B.over M) δ S σ H) (h : M p = some o) (hp : B.pa ≠ some p) (h0 : B.S0 p = none) (pl : HO.plain o = true := by rfl) : H p = some o ∧ S p = none :=
  ⟨R.fr.pl (over_in h) hp pl, R.fr.no p o (over_in h) h0⟩
/-- .. it is changed -/
theorem Rel.over_upd {M : Hp} {p : Addr} {o o' : HO} (R : Rel K (B.over M) δ S σ H) (h : M p = some o) (hp : B.pa ≠ some p) (h0 : B.S0 p = none) (hB : B.H0 p = none) (ho : ∀ vs, o' ≠ .tup vs) (pl : HO.plain o = true := by rfl) (pl2 : HO.plain o' = true := by rfl) :
    Rel K (B.over (upd M p o')) δ S σ (upd H p o') := by
  have sp := (R.beside h hp h0 pl).2
  rw [over_hide h] at R
  have := R.with_upd (o' := o') (over_at hide_same hB) hp sp ho pl pl2
  rw [over_with, upd_hide2] at this
  exact this
/-- .. it is frozen -/
theorem Rel.over_freeze {M : Hp} {p : Addr} {o : HO} (R : Rel K (B.over M) δ S σ H) (h : M p = some o) (hp : B.pa ≠ some p) (h0 : B.S0 p = none) (hB : B.H0 p = none) (pl : HO.plain o = true := by rfl) :
    Rel K (B.over (hide M p)) δ (upd S p o) σ H ∧ Ex S (upd S p o) := by
  have sp := (R.beside h hp h0 pl).2
  rw [over_hide h] at R
  obtain ⟨R1, e1, e2⟩ := R.unwith (over_at hide_same hB) hp sp pl
  have R2 := R1.new (o := o) (show hide H p p = none from hide_same)
  rw [← e2] at R2
  exact ⟨R2, Ex.new sp⟩
/-- a list of the growing dict: its key, where it stands, what it holds -/
structure GL where
  k : Key
  p : Addr
  vs : List V
  ds : List D
structure GrpOk (K : PySem.W.Frag) (B : Bs) (S M : Hp) (a : Addr) (ls : List GL) : Prop where
  dict : M a = some (.dK (ls.map fun l => (l.k, V.ref l.p)))
  a0 : B.H0 a = none ∧ B.pa ≠ some a ∧ B.S0 a = none
  at_ : ∀ l ∈ ls, M l.p = some (.lst l.vs) ∧ l.p ≠ a ∧ B.H0 l.p = none ∧ B.pa ≠ some l.p ∧ B.S0 l.p = none ∧ DnA K S l.vs l.ds
  nd : (ls.map (·.k)).Nodup
  ndp : (ls.map (·.p)).Nodup
  all : ∀ b o, M b = some o → b = a ∨ ∃ l ∈ ls, b = l.p
theorem GrpOk.mono {M : Hp} {a : Addr} {ls : List GL} (g : GrpOk K B S M a ls) (e : Ex S S') : GrpOk K B S' M a ls :=
  ⟨g.dict, g.a0, fun l h => let ⟨h1, h2, h3, h4, h5, h6⟩ := g.at_ l h; ⟨h1, h2, h3, h4, h5, h6.mono e⟩, g.nd, g.ndp, g.all⟩
/-- what is gathered: a thing more at k -/
def grpD (gs : List (Key × List D)) (k : Key) (x : D) : List (Key × List D) :=
  if (gs.any fun e => decide (e.1 = k)) = true then gs.map (fun e => if e.1 = k then (e.1, e.2 ++ [x]) else e) else gs ++ [(k, [x])]
def grpV (ls : List GL) (k : Key) (v : V) (x : D) : List GL := ls.map fun l => if l.k = k then ⟨l.k, l.p, l.vs ++ [v], l.ds ++ [x]⟩ else l
theorem grp_there {ls : List GL} {l : GL} (h : l ∈ ls) : valV (ls.map fun l => (l.k, V.ref l.p)) l.k ≠ none := by
  intro e
  induction ls with
  | nil => cases h
  | cons m ls ih =>
    by_cases z : m.k = l.k
    · rw [List.map_cons, valV_pos (p := (m.k, V.ref m.p)) z] at e; cases e
    · rw [List.map_cons, valV_neg (p := (m.k, V.ref m.p)) z] at e
      rcases List.mem_cons.mp h with rfl | h
      · exact z rfl
      · exact ih h e
theorem grp_find {ls : List GL} {k : Key} {v : V} (e : valV (ls.map fun l => (l.k, V.ref l.p)) k = some v) : ∃ l ∈ ls, l.k = k ∧ v = .ref l.p := by
  induction ls with
  | nil => cases e
  | cons m ls ih =>
    by_cases z : m.k = k
    · rw [List.map_cons, valV_pos (p := (m.k, V.ref m.p)) z] at e; cases e
      exact ⟨m, List.mem_cons_self .., z, rfl⟩
    · rw [List.map_cons, valV_neg (p := (m.k, V.ref m.p)) z] at e
      obtain ⟨l, h1, h2⟩ := ih e
      exact ⟨l, List.mem_cons_of_mem _ h1, h2⟩
theorem grp_any {ls : List GL} {k : Key} : ((ls.map fun l => (l.k, l.ds)).any fun e => decide (e.1 = k)) = ls.any fun l => decide (l.k = k) := by
  rw [List.any_map]; rfl
theorem nodup_inj {α β : Type} {f : α → β} : ∀ {l : List α}, (l.map f).Nodup → ∀ {a b : α}, a ∈ l → b ∈ l → f a = f b → a = b
  | [], _, _, _, h, _, _ => nomatch h
  | c :: l, nd, a, b, ha, hb, e => by
    rw [List.map_cons, List.nodup_cons] at nd
    rcases List.mem_cons.mp ha with h1 | h1
    · rcases List.mem_cons.mp hb with h2 | h2
      · rw [h1, h2]
      · exact absurd (List.mem_map.mpr ⟨b, h2, by rw [← e, h1]⟩) nd.1
    · rcases List.mem_cons.mp hb with h2 | h2
      · exact absurd (List.mem_map.mpr ⟨a, h1, by rw [e, h2]⟩) nd.1
      · exact nodup_inj nd.2 h1 h2 e
theorem grpV_map {β : Type} {ls : List GL} {k : Key} {v : V} {x : D} (f : Key → Addr → β) : (grpV ls k v x).map (fun l => f l.k l.p) = ls.map fun l => f l.k l.p := by
  unfold grpV
  rw [List.map_map]
  refine List.map_congr_left fun l _ => ?_
  show f (if l.k = k then _ else l).k (if l.k = k then _ else l).p = _
  split <;> rfl
theorem grpV_ds {ls : List GL} {l : GL} {v : V} {x : D} (hl : l ∈ ls) : ((grpV ls l.k v x).map fun l => (l.k, l.ds)) = grpD (ls.map fun l => (l.k, l.ds)) l.k x := by
  unfold grpD grpV
  rw [grp_any, if_pos (List.any_eq_true.mpr ⟨l, hl, decide_eq_true rfl⟩), List.map_map, List.map_map]
  refine List.map_congr_left fun m _ => ?_
  show ((if m.k = l.k then _ else m).k, (if m.k = l.k then _ else m).ds) = if m.k = l.k then _ else _
  split <;> rfl
theorem GrpOk.there {M : Hp} {a : Addr} {ls : List GL} {l : GL} {v : V} {x : D} (G : GrpOk K B S M a ls) (hl : l ∈ ls) (n : Dn K S v x) : GrpOk K B S (upd M l.p (.lst (l.vs ++ [v]))) a (grpV ls l.k v x) := by
  obtain ⟨l1, l2, l3, l4, l5, l6⟩ := G.at_ l hl
  refine ⟨?_, G.a0, fun m hm => ?_, ?_, ?_, fun b o h => ?_⟩
  · rw [upd_ne (Ne.symm l2), grpV_map (fun k p => (k, V.ref p))]; exact G.dict
  · obtain ⟨m0, h0, rfl⟩ := List.mem_map.mp hm
    by_cases z : m0.k = l.k
    · obtain rfl := nodup_inj G.nd h0 hl z
      rw [if_pos rfl]
      exact ⟨upd_same, l2, l3, l4, l5, l6.append (.cons n .nil)⟩
    · rw [if_neg z]
      obtain ⟨t1, t2⟩ := G.at_ m0 h0
      have ne : m0.p ≠ l.p := fun e => z (by rw [nodup_inj G.ndp h0 hl e])
      exact ⟨by rw [upd_ne ne]; exact t1, t2⟩
  · rw [grpV_map (fun k _ => k)]; exact G.nd
  · rw [grpV_map (fun _ p => p)]; exact G.ndp
  · by_cases z : b = l.p
    · refine .inr ?_
      have : b ∈ (grpV ls l.k v x).map (·.p) := by rw [grpV_map (fun _ p => p), z]; exact List.mem_map.mpr ⟨l, hl, rfl⟩
      obtain ⟨m, h1, h2⟩ := List.mem_map.mp this
      exact ⟨m, h1, h2.symm⟩
    · rw [upd_ne z] at h
      rcases G.all b o h with h | ⟨m, h1, h2⟩
      · exact .inl h
      · refine .inr ?_
        have : b ∈ (grpV ls l.k v x).map (·.p) := by rw [grpV_map (fun _ p => p), h2]; exact List.mem_map.mpr ⟨m, h1, rfl⟩
        obtain ⟨m, h1, h2⟩ := List.mem_map.mp this
        exact ⟨m, h1, h2.symm⟩
theorem GrpOk.more {M : Hp} {a p : Addr} {ls : List GL} {k : Key} {v : V} {x : D} (G : GrpOk K B S M a ls) (hn : valV (ls.map fun l => (l.k, V.ref l.p)) k = none) (mp : M p = none) (bp : B.H0 p = none) (f2 : B.pa ≠ some p) (s0 : B.S0 p = none) (pa : p ≠ a) (n : Dn K S v x) :
    GrpOk K B S (upd (upd (upd M p (.lst [])) a (.dK (putK (ls.map fun l => (l.k, V.ref l.p)) k (.ref p)))) p (.lst ([] ++ [v]))) a (ls ++ [⟨k, p, [v], [x]⟩]) := by
  have np : ∀ l ∈ ls, l.p ≠ p := fun l hl z => by have := (G.at_ l hl).1; rw [z, mp] at this; cases this
  refine ⟨?_, G.a0, fun m hm => ?_, ?_, ?_, fun b o h => ?_⟩
  · rw [upd_ne (Ne.symm pa), upd_same, putK_new _ hn, List.map_append]; rfl
  · rcases List.mem_append.mp hm with hm | hm
    · obtain ⟨t1, t2, t3⟩ := G.at_ m hm
      exact ⟨by rw [upd_ne (np m hm), upd_ne t2, upd_ne (np m hm)]; exact t1, t2, t3⟩
    · obtain rfl := List.mem_singleton.mp hm
      exact ⟨upd_same, pa, bp, f2, s0, .cons n .nil⟩
  · rw [List.map_append]
    refine List.nodup_append.mpr ⟨G.nd, by simp, fun a ha b hb => ?_⟩
    obtain ⟨l, h1, rfl⟩ := List.mem_map.mp ha
    obtain rfl : b = k := by simpa using hb
    exact fun z => by subst z; exact grp_there h1 hn
  · rw [List.map_append]
    refine List.nodup_append.mpr ⟨G.ndp, by simp, fun a ha b hb => ?_⟩
    obtain ⟨l, h1, rfl⟩ := List.mem_map.mp ha
    obtain rfl : b = p := by simpa using hb
    exact np l h1
  · by_cases z : b = p
    · exact .inr ⟨_, List.mem_append_right _ (List.mem_singleton.mpr rfl), z⟩
    · by_cases z2 : b = a
      · exact .inl z2
      · rw [upd_ne z, upd_ne z2, upd_ne z] at h
        rcases G.all b o h with h | ⟨m, h1, h2⟩
        · exact .inl h
        · exact .inr ⟨m, List.mem_append_left _ h1, h2⟩
/-- all lists are frozen -/
theorem grp_freeze {a : Addr} {o : HO} : ∀ {ls : List GL} {M S : Hp}, Rel K (B.over M) δ S σ H → M a = some o → (∀ l ∈ ls, M l.p = some (.lst l.vs) ∧ l.p ≠ a ∧ B.H0 l.p = none ∧ B.pa ≠ some l.p ∧ B.S0 l.p = none) → (ls.map (·.p)).Nodup →
    (∀ b u, M b = some u → b = a ∨ ∃ l ∈ ls, b = l.p) → ∃ S', Ex S S' ∧ Rel K (B.with a o) δ S' σ H ∧ ∀ l ∈ ls, S' l.p = some (.lst l.vs)
  | [], M, S, R, ha, _, _, all => by
    refine ⟨S, Ex.refl _, ?_, fun _ h => (nomatch h)⟩
    have e : M = upd (fun _ => none) a o := by
      funext b
      by_cases z : b = a
      · subst z; rw [upd_same, ha]
      · rw [upd_ne z]
        cases q : M b with
        | none => rfl
        | some u => rcases all b u q with h | ⟨l, h, _⟩
                    · exact absurd h z
                    · cases h
    rw [e, ← over_with] at R
    exact R
  | l :: ls, M, S, R, ha, at_, nd, all => by
    obtain ⟨h1, h2, h3, h4, h5⟩ := at_ l (List.mem_cons_self ..)
    obtain ⟨R1, e1⟩ := R.over_freeze h1 h4 h5 h3
    rw [List.map_cons, List.nodup_cons] at nd
    obtain ⟨S', e2, R2, t⟩ := grp_freeze (ls := ls) R1 (by rw [show hide M l.p a = M a from if_neg (Ne.symm h2)]; exact ha) (fun m hm => by
      obtain ⟨t1, t2, t3⟩ := at_ m (List.mem_cons_of_mem _ hm)
      have ne : m.p ≠ l.p := fun z => nd.1 (List.mem_map.mpr ⟨m, hm, z⟩)
      exact ⟨by rw [show hide M l.p m.p = M m.p from if_neg ne]; exact t1, t2, t3⟩) nd.2 (fun b u q => by
      have ne : b ≠ l.p := fun z => by rw [z, hide_same] at q; cases q
      rw [show hide M l.p b = M b from if_neg ne] at q
      rcases all b u q with h | ⟨m, hm, h⟩
      · exact .inl h
      · rcases List.mem_cons.mp hm with rfl | hm
        · exact absurd h ne
        · exact .inr ⟨m, hm, h⟩)
    refine ⟨S', e1.trans e2, R2, fun m hm => ?_⟩
    rcases List.mem_cons.mp hm with rfl | hm
    · exact e2 _ _ upd_same
    · exact t m hm
def wGrp (g : dG) (dk dx : dE) (Q : List (Key × List D) → DS → Prop) : List D → List (Key × List D) → DS → Prop
  | [], gs, δ => Q gs δ
  | d :: ds, gs, δ => g d δ fun δ1 => dk W0 δ1 fun y δ2 => δ2 = δ1 ∧ optQ y.key fun k => gs.length < sizeLine ∧ (∀ e ∈ gs, e.2.length < sizeLine) ∧ dx W0 δ1 fun x δ3 => δ3 = δ1 ∧ wGrp g dk dx Q ds (grpD gs k x) δ1
def dGroup (i : Nat) (w : dI) (g : dG) (dk dx : dE) : dS := fun W N δ => w W δ fun ds δ1 => δ1.sl[i]? = some (.ownK []) ∧
  wGrp g dk dx (fun gs δ2 => N.nx (setSl δ2 i (.ownK (gs.map fun e => (e.1, .lst e.2))))) ds [] (setSl δ1 i .un)
section
variable {X : Cx} {E : EK} {e a b c kx vx : Expr} {es : List Expr} {pos p ap cp ap2 cp2 lp pos2 : Pos} {da db dk dx : dE} {x : Str}
theorem ds_group {i : Nat} {tg iter : Expr} {w : dI} {g : dG} {vs : List Nat} (hp : PassesOwn (model X.prog X.w) X.A X.env X.xe) (hc : X.calm = true) (hi : DI X E tg iter w) (hg : DG X tg g vs) (hiv : i ∉ vs)
    (hv : PE X (.Name x p) (tVar i)) (hk : DE X E kx dk) (hx : DE X E vx dx)
    (hm : M2 X (.Name x p) "setdefault" ap kx (.List [] lp) cp) (hs : ∀ x, foldedSetIterable iter X.env x = pure x := by intro _; rfl)
    (hbase : attributeBase (.Call (.Attribute (.Name x p) "setdefault" ap) [kx, .List [] lp] [] cp) "append" X.env (eval (.Call (.Attribute (.Name x p) "setdefault" ap) [kx, .List [] lp] [] cp) X.env) = eval (.Call (.Attribute (.Name x p) "setdefault" ap) [kx, .List [] lp] [] cp) X.env := by rfl)
    (hfew : ((backTo cp2 (starEach [vx] X.env)).all (fun x => !x.1) && (backToKw cp2 (keywordEach [] X.env)).all (fun x => x.1.isSome) && decide (([vx] : List Expr).length + ([] : List Keyword).length + (if ([] : List Keyword).isEmpty then 0 else 1) < 30)) = true := by rfl)
    (hline : (ap2.endLine == cp2.line) = true := by rfl) (hst : starEach [vx] X.env = (false, eval vx X.env) :: starEach [] X.env := by rfl) (hpl : (backTo cp2 (starEach [] X.env)).any (·.1) = false := by rfl)
    (hsw : swapsWith (.Call (.Attribute (.Call (.Attribute (.Name x p) "setdefault" ap) [kx, .List [] lp] [] cp) "append" ap2) [vx] [] cp2) none pos2.line X.env = pure false := by rfl) :
    DSt X E (.For tg iter [.Expr (.Call (.Attribute (.Call (.Attribute (.Name x p) "setdefault" ap) [kx, .List [] lp] [] cp) "append" ap2) [vx] [] cp2) pos2] [] pos) (dGroup i w g dk dx) :=
  ⟨fun B => ps_mono (ps_for hp hc (hi.run B) (exG_ok hg) (pss_one (ps_expr (pe_bm PySem.F.plainAttrs_list PySem.F.slot_list_append PySem.F.type_list_append mt_append (pe_dsetd hv (exE_ok hk) (pe_lst pa_nil) hm) (pa_cons (exE_ok hx) pa_nil hst) hbase hfew hline hst hpl) hsw)) hs) fun Z σ H q => by
    obtain ⟨δ, S, W, N, R, q, xo, p1, _⟩ := q
    refine ⟨δ, S, W, _, R, q, xo, fun ds δ1 S1 H1 J q1 e1 R1 it1 => ?_⟩
    obtain ⟨hd, q1⟩ := q1
    obtain ⟨ow, s1, _⟩ := id R1.sl
    obtain ⟨a, kvs, r1, r2, r3, r4, r5, r6, r7⟩ := s1 i _ hd
    have kn : kvs = [] := by simpa using r6
    subst kn
    obtain ⟨R2, sa, ha, he⟩ := R1.unslot (p := a) hd (fun oa q => by
      obtain ⟨a', _, t1, _, _, t4, _⟩ := q
      rw [r4] at t4; cases t4; exact t1) r2 r3 r5 rfl
    have a0 : B.S0 a = none := by
      cases z : B.S0 a with
      | none => rfl
      | some u => have := R1.fr.s a u z; rw [sa] at this; cases this
    have R3 := R2.with_ (o := .dK []) ha (fun _ z => nomatch z)
    rw [← he] at R3
    have R3 : Rel X.K (B.over (upd (fun _ => none) a (.dK []))) (setSl δ1 i .un) S1 σ H1 := by rw [← over_with]; exact R3
    refine ⟨fun j m σ H => m = ds.length - j ∧ j ≤ ds.length ∧ ∃ δ S2 M ls, Ex S1 S2 ∧ Rel X.K (B.over M) δ S2 σ H ∧ σ[i]? = some (some (.ref a)) ∧ GrpOk X.K B S2 M a ls ∧ wGrp g dk dx (fun gs δ2 => N.nx (setSl δ2 i (.ownK (gs.map fun e => (e.1, .lst e.2))))) (ds.drop j) (ls.map fun l => (l.k, l.ds)) δ,
      ⟨_, rfl, Nat.zero_le _, _, S1, _, [], Ex.refl _, R3, r4, ⟨upd_same, ⟨r2, r3, a0⟩, fun _ h => (nomatch h), .nil, .nil, fun b o h => by
        by_cases z : b = a
        · exact .inl z
        · rw [upd_ne z] at h; cases h⟩, q1⟩, ?_⟩
    rintro j m σ2 H2 ⟨rfl, hj, δ2, S2, M, ls, e2, R4, sv, G, q2⟩
    by_cases hlt : j < ds.length
    · refine .inr ⟨it1.goes j S2 H2 e2 R4.ex hlt, fun σ' H' => (fun j m σ H => m = ds.length - j ∧ j ≤ ds.length ∧ ∃ δ S2 M ls, Ex S1 S2 ∧ Rel X.K (B.over M) δ S2 σ H ∧ σ[i]? = some (some (.ref a)) ∧ GrpOk X.K B S2 M a ls ∧ wGrp g dk dx (fun gs δ2 => N.nx (setSl δ2 i (.ownK (gs.map fun e => (e.1, .lst e.2))))) (ds.drop j) (ls.map fun l => (l.k, l.ds)) δ) (j + 1) (ds.length - (j + 1)) σ' H', fun σ' H' h => ⟨_, by omega, h⟩, fun x H3 y => ?_⟩
      obtain ⟨S3, d, g3, ed, dn⟩ := it1.yields j S2 H2 x H3 e2 R4.ex hlt y
      have hdr : ds.drop j = d :: ds.drop (j + 1) := by
        obtain ⟨h1, h2⟩ := List.getElem?_eq_some_iff.mp ed
        rw [List.drop_eq_getElem_cons h1, h2]
      rw [hdr] at q2
      refine ⟨B.over M, δ2, S3, d, _, R4.grow g3, dn, q2, fun δ4 σ4 S4 H4 q4 e4 R5 sl4 _ => ?_⟩
      have sv4 : σ4[i]? = some (some (.ref a)) := by rw [sl4 i hiv]; exact sv
      have G4 := G.mono (g3.s.trans e4)
      obtain ⟨ga1, ga2, ga3⟩ := G.a0
      have Ha := R5.beside G.dict ga2 ga3
      refine ⟨.ref a, sv4, a, rfl, .inl ⟨_, .inl Ha.1⟩, B.over M, δ4, S4, W0, _, R5, q4, xok0, fun y δ5 u S5 H5 q5 e5 R6 n5 => ?_⟩
      obtain ⟨rfl, q5⟩ := q5
      obtain ⟨k, hk, q5⟩ := optQ_ex q5
      obtain rfl := n5.key hk
      refine ⟨Nat.zero_le _, fun p hpn => ?_⟩
      have G5 := G4.mono e5
      have Hb := R6.beside G.dict ga2 ga3
      have pa : p ≠ a := fun z => by subst z; rw [Hb.1] at hpn; cases hpn
      obtain ⟨z1, z2, q5⟩ := q5
      have z2' : ∀ l ∈ ls, l.vs.length < sizeLine := fun l hl => by
        rw [(G5.at_ l hl).2.2.2.2.2.length]
        exact z2 _ (List.mem_map.mpr ⟨l, hl, rfl⟩)
      refine ⟨_, k, by rw [upd_ne (Ne.symm pa)]; exact Hb.1, rfl, by simpa using z1, fun v hvv => ?_, fun hn => ?_⟩
      · -- the key is there
        obtain ⟨l, hl, rfl, rfl⟩ := grp_find hvv
        obtain ⟨l1, l2, l3, l4, l5, l6⟩ := G5.at_ l hl
        have R7 := R6.new (o := .lst []) hpn
        have e7 : Ex S5 (upd S5 p (.lst [])) := Ex.new (R6.ex.none hpn)
        have Hl := R7.beside l1 l4 l5
        refine ⟨tyL Hl.1, B.over M, δ5, _, W0, _, R7, q5, xok0, fun x δ6 v S6 H6 q6 e6 R8 n6 => ?_⟩
        obtain ⟨rfl, q6⟩ := q6
        have Hl2 := R8.beside l1 l4 l5
        refine ⟨l.p, l.vs, v, rfl, rfl, Hl2.1, z2' l hl, ?_⟩
        have R9 := R8.over_upd (o' := .lst (l.vs ++ [v])) l1 l4 l5 l3 (fun _ z => nomatch z)
        have G6 := G5.mono (e7.trans e6)
        refine ⟨rfl, hlt, δ6, S6, _, grpV ls l.k v x, e2.trans (g3.s.trans (e4.trans (e5.trans (e7.trans e6)))), R9, sv4, G6.there hl n6, ?_⟩
        rw [grpV_ds hl]; exact q6
      · -- a key more
        obtain ⟨f1, f2⟩ := R6.fr.fresh hpn
        have mp : M p = none := by
          cases z : M p with
          | none => rfl
          | some u => rw [over_in z] at f1; cases f1
        have bp : B.H0 p = none := by
          have : (match M p with | some o => some o | none => B.H0 p) = none := f1
          rw [mp] at this; exact this
        have s0p : B.S0 p = none := by
          cases z : B.S0 p with
          | none => rfl
          | some u => have := R6.fr.s p u z; rw [R6.ex.none hpn] at this; cases this
        have R7 := R6.with_ (o := .lst []) hpn (fun _ z => nomatch z)
        rw [over_with] at R7
        have d7 : upd M p (.lst []) a = some (.dK (ls.map fun l => (l.k, V.ref l.p))) := by rw [upd_ne (Ne.symm pa)]; exact G.dict
        have R8 := R7.over_upd (o' := .dK (putK (ls.map fun l => (l.k, V.ref l.p)) k (.ref p))) d7 ga2 ga3 ga1 (fun _ z => nomatch z)
        have p8 : upd (upd M p (.lst [])) a (.dK (putK (ls.map fun l => (l.k, V.ref l.p)) k (.ref p))) p = some (.lst []) := by rw [upd_ne pa, upd_same]
        refine ⟨tyL (R8.beside p8 f2 s0p).1, _, δ5, _, W0, _, R8, q5, xok0, fun x δ6 v S6 H6 q6 e6 R9 n6 => ?_⟩
        obtain ⟨rfl, q6⟩ := q6
        refine ⟨p, [], v, rfl, rfl, (R9.beside p8 f2 s0p).1, by show 0 < sizeLine; decide, ?_⟩
        have R10 := R9.over_upd (o' := .lst ([] ++ [v])) p8 f2 s0p bp (fun _ z => nomatch z)
        have G6 := G5.mono e6
        refine ⟨rfl, hlt, δ6, S6, _, ls ++ [⟨k, p, [v], [x]⟩], e2.trans (g3.s.trans (e4.trans (e5.trans e6))), R10, sv4, G6.more hn mp bp f2 s0p pa n6, ?_⟩
        have : grpD (ls.map fun l => (l.k, l.ds)) k x = (ls ++ [(⟨k, p, [v], [x]⟩ : GL)]).map fun l => (l.k, l.ds) := by
          unfold grpD
          rw [grp_any, if_neg (fun z => by
            obtain ⟨l, h1, h2⟩ := List.any_eq_true.mp z
            have h2 := of_decide_eq_true h2
            subst h2
            exact grp_there h1 hn), List.map_append]; rfl
        rw [this] at q6; exact q6
    · have ej : j = ds.length := by omega
      subst ej
      rw [List.drop_length] at q2
      refine .inl ⟨it1.stops S2 H2 e2 R4.ex, ?_⟩
      obtain ⟨S3, e3, R5, t5⟩ := grp_freeze (o := .dK (ls.map fun l => (l.k, V.ref l.p))) R4 G.dict (fun l h => by obtain ⟨h1, h2, h3, h4, h5, _⟩ := G.at_ l h; exact ⟨h1, h2, h3, h4, h5⟩) G.ndp G.all
      obtain ⟨ga1, ga2, ga3⟩ := G.a0
      have sa3 : S3 a = none := R5.fr.no a _ upd_same ga3
      obtain ⟨R6, h6, h7⟩ := R5.unwith ga1 ga2 sa3
      have R7 := R6.setNew (i := i) (x := .ownK ((ls.map fun l => (l.k, l.ds)).map fun e => (e.1, .lst e.2))) (p := a) (o := .dK (ls.map fun l => (l.k, V.ref l.p))) hide_same (fun _ z => nomatch z) fun H1 h1 b1 b2 => ⟨a, _, rfl, b1, b2, rfl, h1, by simp [List.map_map, Function.comp_def], by
        have : ∀ ls' : List GL, (∀ l ∈ ls', S3 l.p = some (.lst l.vs) ∧ DnA X.K S3 l.vs l.ds) → DnA X.K S3 (ls'.map fun l => V.ref l.p) (ls'.map fun l => D.lst l.ds) := fun ls' h => by
          induction ls' with
          | nil => exact .nil
          | cons l ls' ih =>
            exact .cons (.lst (h l (List.mem_cons_self ..)).1 (h l (List.mem_cons_self ..)).2) (ih fun m hm => h m (List.mem_cons_of_mem _ hm))
        have := this ls fun l h => ⟨t5 l h, (G.at_ l h).2.2.2.2.2.mono e3⟩
        simpa [List.map_map, Function.comp_def] using this⟩
      rw [← h7] at R7
      have es : σ2.set i (some (.ref a)) = σ2 := by
        apply List.ext_getElem? ; intro n
        by_cases z : i = n
        · subst z
          have hlt' : i < σ2.length := by
            rcases Nat.lt_or_ge i σ2.length with h | h
            · exact h
            · rw [List.getElem?_eq_none h] at sv; cases sv
          rw [List.getElem?_set_self hlt', sv]
        · rw [List.getElem?_set_ne z]
      rw [es] at R7
      exact p1 _ _ _ _ q2 (e1.trans (e2.trans e3)) R7⟩
end
end Ev
namespace Ev
open PySem PySem.Spec PyProof.Rows L2
variable [TabC]
variable {K : PySem.W.Frag} {S S' H H' : Hp} {B : Bs} {δ : DS} {σ : L2.St}
section
variable {X : Cx} {E : EK} {e a b c : Expr} {es : List Expr} {pos p ap cp : Pos} {da db : dE} {x : Str}
def rSrtT2 (K : PySem.W.Frag) : List V → Hp → VK → Prop := fun vs H Q => ∃ S a kvs, vs = [.ref a] ∧ Sb S H ∧ Rd H a (.dT kvs) ∧ srtOk (kvs.map fun e => D.tup (e.1.map kD)) ∧ ∀ ws p, H p = none → DnA K S ws (sortD (kvs.map fun e => D.tup (e.1.map kD))) → Q (.ref p) (upd H p (.lst ws))
theorem cd_sortedT2 (hc : X.calm = true) (hu : X.A.units + 66 < cLine) : CallR X (.builtin "sorted") (rSrtT2 X.K) := fun pins s σ H vs us Q I r ⟨S, a, kvs, e, sb, ha, ok, q⟩ => by
  subst e
  obtain ⟨u, rfl, ru⟩ := vals1 r
  obtain rfl : u = Value.ref a := ru
  obtain ⟨hz, hs, ks, pr, o, es, ep, ho, hx, hdt, he, hn⟩ := Rd.ok ha I.hok
  have l1 : es.size = ks.length := by rw [← Array.length_toList, he, List.length_map]
  have l2 : kvs.length = ks.length := Paired.length pr
  refine sorted_end I hu sb (us := ks.map fun q => Value.ref q.2.1) (vs := ks.map fun q => V.ref q.2.1) ?_ (keys_dn sb pr) ok (fun C E' hC => ?_) fun ws p hp aw => q ws p hp aw
  · clear pr he hn l1 l2
    induction ks with
    | nil => exact .nil
    | cons k ks ih => exact .cons rfl ih
  · refine collect_src (kdl_raw hs hx hdt) (I.ok.hd hc) ho (by omega) fun h' tk acc kp sz it => ?_
    have ea : acc.toList = ks.map fun q => Value.ref q.2.1 := by
      have hl : acc.toList.length = ks.length := by rw [Array.length_toList, it.1, l1]
      apply List.ext_getElem?
      intro j
      rw [List.getElem?_map]
      by_cases hj : j < ks.length
      · have hj2 : j < acc.size := by rw [← Array.length_toList]; omega
        obtain ⟨en, h1, h2⟩ := it.2 j acc[j] (Array.getElem?_eq_getElem hj2)
        have h3 : es.toList[j]? = some en := by rw [Array.getElem?_toList]; exact h1
        rw [he, List.getElem?_map, List.getElem?_eq_getElem hj] at h3
        rw [Array.getElem?_toList, Array.getElem?_eq_getElem hj2, List.getElem?_eq_getElem hj, h2, ← Option.some.inj h3]
        rfl
      · rw [List.getElem?_eq_none (by omega), List.getElem?_eq_none (by omega)]; rfl
    rw [ea]
    exact hC h' tk kp sz
def rSrtK2 (K : PySem.W.Frag) : List V → Hp → VK → Prop := fun vs H Q => ∃ S a kvs, vs = [.ref a] ∧ Sb S H ∧ Rd H a (.dK kvs) ∧ srtOk (kvs.map fun e => kD e.1) ∧ ∀ ws p, H p = none → DnA K S ws (sortD (kvs.map fun e => kD e.1)) → Q (.ref p) (upd H p (.lst ws))
theorem cd_sortedK2 (hc : X.calm = true) (hu : X.A.units + 66 < cLine) : CallR X (.builtin "sorted") (rSrtK2 X.K) := fun pins s σ H vs us Q I r ⟨S, a, kvs, e, sb, ha, ok, q⟩ => by
  subst e
  obtain ⟨u, rfl, ru⟩ := vals1 r
  obtain rfl : u = Value.ref a := ru
  obtain ⟨hz, hs, ks, rel, o, es, ep, ho, hx, hdt, hk, hp, hn⟩ := Rd.ok ha I.hok
  have rv := pairs_keys hp rel
  have l1 : es.size = kvs.length := by have := rv.length; rw [List.length_map, List.length_map, Array.length_toList] at this; exact this.symm
  refine sorted_end I hu sb (us := es.toList.map (·.key)) (vs := kvs.map fun e => kV e.1) rv (DnA.kD1 kvs) ok (fun C E' hC => ?_) fun ws p hp aw => q ws p hp aw
  refine collect_src (kdl_raw hs hx hdt) (I.ok.hd hc) ho (by omega) fun h' tk acc kp sz it => ?_
  have ea : acc.toList = es.toList.map (·.key) := by
    apply List.ext_getElem?
    intro j
    rw [List.getElem?_map]
    have hl : acc.toList.length = es.toList.length := by rw [Array.length_toList, Array.length_toList]; exact it.1
    by_cases hj : j < es.toList.length
    · have hj2 : j < acc.size := by rw [← Array.length_toList]; omega
      obtain ⟨en, h1, h2⟩ := it.2 j acc[j] (Array.getElem?_eq_getElem hj2)
      rw [Array.getElem?_toList, Array.getElem?_eq_getElem hj2, Array.getElem?_toList, h1, h2]; rfl
    · rw [List.getElem?_eq_none (by omega), List.getElem?_eq_none (by omega)]; rfl
  rw [ea]
  exact hC h' tk kp sz
/-- a dict with tuple keys, with keys numbers or texts -/
def asT : D → Option (List (List Key × D)) | .dT es => some es | .fT es => some es | _ => none
def asK : D → Option (List (Key × D)) | .dK es => some es | .fK es => some es | _ => none
theorem asT_at {v : V} {d : D} {es : List (List Key × D)} (n : Dn K S v d) (h : asT d = some es) : ∃ a kvs, v = .ref a ∧ Rd S a (.dT kvs) ∧ KvR K S kvs es := by
  cases n with
  | dT h1 h2 h3 => cases h; exact ⟨_, _, rfl, .inl h1, h2, h3⟩
  | fT h1 h2 h3 => cases h; exact ⟨_, _, rfl, .inr ⟨_, h1⟩, h2, h3⟩
  | _ => cases h
theorem asK_at {v : V} {d : D} {es : List (Key × D)} (n : Dn K S v d) (h : asK d = some es) : ∃ a kvs, v = .ref a ∧ Rd S a (.dK kvs) ∧ KvR K S kvs es := by
  cases n with
  | dK h1 h2 h3 => cases h; exact ⟨_, _, rfl, .inl h1, h2, h3⟩
  | fK h1 h2 h3 => cases h; exact ⟨_, _, rfl, .inr ⟨_, h1⟩, h2, h3⟩
  | _ => cases h
/-- the items of a list, a tuple; the keys of a dict -/
def itemsOf (d : D) : Option (List D) := match d with
  | .lst ds => some ds
  | .tup ds => some ds
  | .dT es => some (keyD es)
  | .fT es => some (keyD es)
  | .dK es => some (keyDK es)
  | .fK es => some (keyDK es)
  | _ => none
def rSrtA : DRF := fun xs Q => match xs with | [d] => optQ (itemsOf d) fun ds => srtOk ds ∧ Q (sortD ds) | _ => False
theorem cd_sortedA (hc : X.calm = true) (hu : X.A.units + 66 < cLine) : CallR X (.builtin "sorted") (liftCF X.K rSrtA) := fun pins s σ H vs us Q I r ⟨S, ds, Q', ex, n, q, post⟩ => by
  match ds, n, q with
  | [d], n, q =>
    obtain ⟨v, rfl, n1⟩ := n.one
    obtain ⟨zs, hz, q1, q2⟩ := optQ_ex q
    have fT : ∀ es, asT d = some es → zs = keyD es → wpAny (model X.prog X.w) X.A (call (.builtin "sorted") us) (EP X pins σ Q) X.xe s := fun es h e => by
      obtain ⟨a, kvs, rfl, h1, h2, h3⟩ := asT_at n1 h
      refine cd_sortedT2 hc hu pins s σ H _ us Q I r ⟨S, a, kvs, rfl, ex, ex.ex.rd h1, by rw [keyD_of h2, ← e]; exact q1, fun ws p hp aw => ?_⟩
      rw [keyD_of h2, ← e] at aw
      exact post _ _ _ q2 hp aw
    have fK : ∀ es, asK d = some es → zs = keyDK es → wpAny (model X.prog X.w) X.A (call (.builtin "sorted") us) (EP X pins σ Q) X.xe s := fun es h e => by
      obtain ⟨a, kvs, rfl, h1, h2, h3⟩ := asK_at n1 h
      refine cd_sortedK2 hc hu pins s σ H _ us Q I r ⟨S, a, kvs, rfl, ex, ex.ex.rd h1, by rw [keyDK_of h2, ← e]; exact q1, fun ws p hp aw => ?_⟩
      rw [keyDK_of h2, ← e] at aw
      exact post _ _ _ q2 hp aw
    cases d with
    | lst ds => cases hz; exact cd_sorted hu pins s σ H _ us Q I r ⟨S, [.lst zs], Q', ex, n, ⟨q1, q2⟩, post⟩
    | tup ds => cases hz; exact cd_sorted hu pins s σ H _ us Q I r ⟨S, [.tup zs], Q', ex, n, ⟨q1, q2⟩, post⟩
    | dT es => cases hz; exact fT es rfl rfl
    | fT es => cases hz; exact fT es rfl rfl
    | dK es => cases hz; exact fK es rfl rfl
    | fK es => cases hz; exact fK es rfl rfl
    | _ => cases hz
/-- len of whatever has items -/
def rLenA : DRC := fun xs Q => match xs with | [d] => optQ (itemsOf d) fun ds => Q (.int ds.length) | _ => False
/-- what a dict holds at y -/
def dictAt (d y : D) : Option (Option D) := match asT d with
  | some es => y.keyT.map (valD es)
  | none => match asK d with
    | some es => y.key.map (valD es)
    | none => none
/-- e in d, e not in d, d a dict -/
def dInV (neg : Bool) (db da : dE) : dE := fun W δ Q => db W δ fun y δ1 => da W δ1 fun z δ2 => optQ (dictAt z y) fun r => Q (.bl (if neg then !r.isSome else r.isSome)) δ2
/-- d[e], d a dict -/
def dIxV (da db : dE) : dE := fun W δ Q => da W δ fun z δ1 => db W δ1 fun y δ2 => optQ (dictAt z y) fun r => optQ r fun d => Q d δ2
end
end Ev
namespace Ev
open PySem PySem.Spec PyProof.Rows L2
variable [TabC]
section
variable {X : Cx}
def rIsTF (neg : Bool) : DR2 := fun x y Q => match x, y with | .bl a, .bl b => Q (.bl (if neg then !decide (a = b) else decide (a = b))) | _, _ => False
theorem od_isB : OpD X (compareOp .Is) (rIsTF false) := fun pins s σ H x y v u Q I rx ry ⟨S, dx, dy, Q', ex, n1, n2, q, post⟩ => by
  cases dx with
  | bl a =>
    cases dy with
    | bl b =>
      cases n1; cases n2
      exact op_is_bl pins s σ H _ _ v u Q I rx ry ⟨a, b, rfl, rfl, post _ _ _ _ q (Grow.refl ex) (.bl _)⟩
    | _ => exact q.elim
  | _ => exact q.elim
theorem od_notB : OpD X (compareOp .IsNot) (rIsTF true) := fun pins s σ H x y v u Q I rx ry ⟨S, dx, dy, Q', ex, n1, n2, q, post⟩ => by
  cases dx with
  | bl a =>
    cases dy with
    | bl b =>
      cases n1; cases n2
      exact op_isnot_bl pins s σ H _ _ v u Q I rx ry ⟨a, b, rfl, rfl, post _ _ _ _ q (Grow.refl ex) (.bl _)⟩
    | _ => exact q.elim
  | _ => exact q.elim
end
end Ev
namespace Pt
open PySem PySem.Spec PyProof.Rows L2 Ev
variable [TabC]
abbrev Spt := Int × Int
def spotK (s : Spt) : List Key := [Sum.inl s.1, Sum.inl s.2]
theorem spotK_inj {s t : Spt} : spotK s = spotK t ↔ s = t := by
  unfold spotK
  rw [Prod.ext_iff]
  simp
def spotsD (L : List Spt) : List (List Key × D) := L.map fun s => (spotK s, D.bl true)
theorem put_spot (L : List Spt) (s : Spt) : putD (spotsD L) (spotK s) (.bl true) = spotsD (if s ∈ L then L else L ++ [s]) := by
  unfold putD spotsD
  by_cases h : s ∈ L
  · rw [if_pos h, if_pos]
    · rw [List.map_map]
      refine List.map_congr_left fun a _ => ?_
      simp only [Function.comp]
      split <;> rfl
    · rw [List.any_map, List.any_eq_true]
      exact ⟨s, h, by simp⟩
  · rw [if_neg h, if_neg, List.map_append]
    · rfl
    · rw [List.any_map, List.any_eq_true]
      rintro ⟨a, ha, e⟩
      simp only [Function.comp, decide_eq_true_eq, spotK_inj] at e
      exact h (e ▸ ha)
theorem key_spots (L : List Spt) : keyD (spotsD L) = L.map sgD := by
  unfold keyD spotsD
  rw [List.map_map]; rfl
/-- spots met, each once -/
def onceP (acc : List Spt) : List Spt → List Spt
  | [] => acc
  | n :: ns => onceP (if n ∈ acc then acc else acc ++ [n]) ns
theorem onceP_mem : ∀ (ns acc : List Spt) (x : Spt), x ∈ onceP acc ns ↔ x ∈ acc ∨ x ∈ ns
  | [], acc, x => by simp [onceP]
  | n :: ns, acc, x => by
    rw [onceP, onceP_mem ns]
    by_cases h : n ∈ acc
    · rw [if_pos h, List.mem_cons]
      constructor
      · rintro (q | q)
        · exact .inl q
        · exact .inr (.inr q)
      · rintro (q | rfl | q)
        · exact .inl q
        · exact .inl h
        · exact .inr q
    · rw [if_neg h]
      simp [or_assoc]
theorem onceP_nodup : ∀ (ns acc : List Spt), acc.Nodup → (onceP acc ns).Nodup
  | [], _, h => h
  | n :: ns, acc, h => by
    rw [onceP]
    refine onceP_nodup ns _ ?_
    split
    · exact h
    · rename_i q
      rw [List.nodup_append]
      exact ⟨h, by simp, fun a ha b hb => by rw [List.mem_singleton] at hb; subst hb; exact fun z => q (z ▸ ha)⟩
theorem onceP_app (acc xs ys : List Spt) : onceP acc (xs ++ ys) = onceP (onceP acc xs) ys := by
  induction xs generalizing acc with
  | nil => rfl
  | cons x xs ih => exact ih _
theorem onceP_len : ∀ (ns acc : List Spt), (onceP acc ns).length ≤ acc.length + ns.length
  | [], acc => Nat.le_refl _
  | n :: ns, acc => by
    rw [onceP]
    have := onceP_len ns (if n ∈ acc then acc else acc ++ [n])
    have h2 : (if n ∈ acc then acc else acc ++ [n]).length ≤ acc.length + 1 := by
      split
      · omega
      · rw [List.length_append, List.length_singleton]; exact Nat.le_refl _
    rw [List.length_cons]; omega
/-- the spots of a box, column by column -/
def colOf (x y : Int) (h : Nat) : List Spt := (List.range h).map fun j => (x, y + (j : Nat))
def spotsOf (b : Bx) : List Spt := (List.range b.w.toNat).flatMap fun i => colOf (b.x + (i : Nat)) b.y b.h.toNat
theorem colOf_mem {x y : Int} {h : Nat} {s : Spt} : s ∈ colOf x y h ↔ s.1 = x ∧ y ≤ s.2 ∧ s.2 < y + h := by
  unfold colOf
  rw [List.mem_map]
  constructor
  · rintro ⟨j, hj, rfl⟩
    rw [List.mem_range] at hj
    exact ⟨rfl, by show y ≤ y + _; omega, by show y + _ < _; omega⟩
  · rintro ⟨h1, h2, h3⟩
    refine ⟨(s.2 - y).toNat, by rw [List.mem_range]; omega, ?_⟩
    rw [Prod.ext_iff]
    exact ⟨h1.symm, by show y + _ = _; omega⟩
theorem spotsOf_mem {b : Bx} {s : Spt} (hw : 0 ≤ b.w) (hh : 0 ≤ b.h) : s ∈ spotsOf b ↔ (b.x ≤ s.1 ∧ s.1 < b.x + b.w) ∧ b.y ≤ s.2 ∧ s.2 < b.y + b.h := by
  unfold spotsOf
  rw [List.mem_flatMap]
  constructor
  · rintro ⟨i, hi, h⟩
    rw [List.mem_range] at hi
    obtain ⟨h1, h2, h3⟩ := colOf_mem.mp h
    omega
  · rintro ⟨h1, h2⟩
    exact ⟨(s.1 - b.x).toNat, by rw [List.mem_range]; omega, colOf_mem.mpr ⟨by omega, by omega, by omega⟩⟩
def allSpots (bs : List Bx) : List Spt := bs.flatMap spotsOf
theorem allSpots_mem {bs : List Bx} (hb : ∀ b ∈ bs, 0 ≤ b.w ∧ 0 ≤ b.h) (s : Spt) : s ∈ allSpots bs ↔ inP bs s.1 s.2 = true := by
  unfold allSpots
  rw [List.mem_flatMap, inP_iff]
  constructor
  · rintro ⟨b, h1, h2⟩
    exact ⟨b, h1, (spotsOf_mem (hb b h1).1 (hb b h1).2).mp h2⟩
  · rintro ⟨b, h1, h2⟩
    exact ⟨b, h1, (spotsOf_mem (hb b h1).1 (hb b h1).2).mpr h2⟩
theorem colOf_len {x y : Int} {h : Nat} : (colOf x y h).length = h := by unfold colOf; simp
theorem flat_le {α β : Type} {f : α → List β} {n : Nat} : ∀ {l : List α}, (∀ a ∈ l, (f a).length ≤ n) → (l.flatMap f).length ≤ l.length * n
  | [], _ => by simp
  | a :: l, h => by
    have := flat_le (l := l) fun b hb => h b (List.mem_cons_of_mem _ hb)
    have := h a List.mem_cons_self
    rw [List.flatMap_cons, List.length_append, List.length_cons, Nat.succ_mul]; omega
theorem spotsOf_len {b : Bx} : (spotsOf b).length ≤ b.w.toNat * b.h.toNat := by
  unfold spotsOf
  have := flat_le (f := fun i : Nat => colOf (b.x + i) b.y b.h.toNat) (n := b.h.toNat) (l := List.range b.w.toNat) fun a _ => Nat.le_of_eq colOf_len
  rw [List.length_range] at this; exact this
abbrev Grp := List (Int × List Int)
def gAdd (G : Grp) (s : Spt) : Grp := if (G.any fun g => decide (g.1 = s.2)) = true then G.map (fun g => if g.1 = s.2 then (g.1, g.2 ++ [s.1]) else g) else G ++ [(s.2, [s.1])]
def gDat (G : Grp) : List (Key × List D) := G.map fun g => (Sum.inl g.1, g.2.map D.int)
theorem grp_gDat (G : Grp) (s : Spt) : grpD (gDat G) (Sum.inl s.2) (.int s.1) = gDat (gAdd G s) := by
  unfold grpD gAdd gDat
  have e : ((G.map fun g => ((Sum.inl g.1 : Key), g.2.map D.int)).any fun e => decide (e.1 = Sum.inl s.2)) = G.any fun g => decide (g.1 = s.2) := by
    rw [List.any_map]
    congr 1
    funext g
    simp only [Function.comp, Sum.inl.injEq]
  rw [e]
  by_cases h : (G.any fun g => decide (g.1 = s.2)) = true
  · rw [if_pos h, if_pos h, List.map_map, List.map_map]
    refine List.map_congr_left fun g _ => ?_
    simp only [Function.comp, Sum.inl.injEq]
    split
    · simp
    · rfl
  · rw [if_neg h, if_neg h, List.map_append]; rfl
structure GOk (G : Grp) (pre : List Spt) : Prop where
  nd : (G.map (·.1)).Nodup
  eq : ∀ g ∈ G, g.2 = (pre.filter fun s => decide (s.2 = g.1)).map (·.1)
  all : ∀ s ∈ pre, ∃ g ∈ G, g.1 = s.2
  ne : ∀ g ∈ G, ∃ s ∈ pre, s.2 = g.1
  len : G.length ≤ pre.length
theorem GOk.nil : GOk [] [] := ⟨.nil, fun _ h => (nomatch h), fun _ h => (nomatch h), fun _ h => (nomatch h), Nat.le_refl _⟩
theorem GOk.add {G : Grp} {pre : List Spt} (h : GOk G pre) (s : Spt) : GOk (gAdd G s) (pre ++ [s]) := by
  unfold gAdd
  by_cases q : (G.any fun g => decide (g.1 = s.2)) = true
  · rw [if_pos q]
    have em : (G.map fun g => if g.1 = s.2 then (g.1, g.2 ++ [s.1]) else g).map (·.1) = G.map (·.1) := by
      rw [List.map_map]
      refine List.map_congr_left fun g _ => ?_
      simp only [Function.comp]
      split <;> rfl
    refine ⟨by rw [em]; exact h.nd, fun g hg => ?_, fun t ht => ?_, fun g hg => ?_, by rw [List.length_map, List.length_append]; have := h.len; omega⟩
    · obtain ⟨g0, h0, rfl⟩ := List.mem_map.mp hg
      rw [List.filter_append, List.map_append]
      by_cases z : g0.1 = s.2
      · rw [if_pos z]
        show g0.2 ++ [s.1] = _
        rw [h.eq g0 h0]
        simp [z]
      · rw [if_neg z, h.eq g0 h0]
        have : decide (s.2 = g0.1) = false := decide_eq_false fun e => z e.symm
        simp [this]
    · have key : ∀ y, y ∈ G.map (·.1) → ∃ g ∈ G.map fun g => if g.1 = s.2 then (g.1, g.2 ++ [s.1]) else g, g.1 = y := fun y hy => by
        rw [← em] at hy
        obtain ⟨g, h1, h2⟩ := List.mem_map.mp hy
        exact ⟨g, h1, h2⟩
      rcases List.mem_append.mp ht with ht | ht
      · obtain ⟨g, h1, h2⟩ := h.all t ht
        exact key _ (List.mem_map.mpr ⟨g, h1, h2⟩)
      · rw [List.mem_singleton] at ht; subst ht
        obtain ⟨g, h1, h2⟩ := List.any_eq_true.mp q
        exact key _ (List.mem_map.mpr ⟨g, h1, of_decide_eq_true h2⟩)
    · obtain ⟨g0, h0, rfl⟩ := List.mem_map.mp hg
      obtain ⟨t, t1, t2⟩ := h.ne g0 h0
      refine ⟨t, List.mem_append_left _ t1, ?_⟩
      split <;> exact t2
  · rw [if_neg q]
    have nq : ∀ g ∈ G, g.1 ≠ s.2 := fun g hg e => q (List.any_eq_true.mpr ⟨g, hg, decide_eq_true e⟩)
    refine ⟨?_, fun g hg => ?_, fun t ht => ?_, fun g hg => ?_, by rw [List.length_append, List.length_append]; have := h.len; simp; omega⟩
    · rw [List.map_append, List.nodup_append]
      refine ⟨h.nd, by simp, fun a ha b hb => ?_⟩
      obtain ⟨g, h1, rfl⟩ := List.mem_map.mp ha
      have : b = s.2 := by simpa using hb
      rw [this]; exact nq g h1
    · rw [List.filter_append, List.map_append]
      rcases List.mem_append.mp hg with hg | hg
      · rw [h.eq g hg]
        have : decide (s.2 = g.1) = false := decide_eq_false fun e => nq g hg e.symm
        simp [this]
      · rw [List.mem_singleton] at hg; subst hg
        have : (pre.filter fun t => decide (t.2 = s.2)) = [] := List.filter_eq_nil_iff.mpr fun t ht e => by
          obtain ⟨g, h1, h2⟩ := h.all t ht
          exact nq g h1 (h2.trans (of_decide_eq_true e))
        simp [this]
    · rcases List.mem_append.mp ht with ht | ht
      · obtain ⟨g, h1, h2⟩ := h.all t ht
        exact ⟨g, List.mem_append_left _ h1, h2⟩
      · rw [List.mem_singleton] at ht; subst ht
        exact ⟨_, List.mem_append_right _ (List.mem_singleton.mpr rfl), rfl⟩
    · rcases List.mem_append.mp hg with hg | hg
      · obtain ⟨t, t1, t2⟩ := h.ne g hg
        exact ⟨t, List.mem_append_left _ t1, t2⟩
      · rw [List.mem_singleton] at hg; subst hg
        exact ⟨s, List.mem_append_right _ (List.mem_singleton.mpr rfl), rfl⟩
theorem GOk.small {G : Grp} {pre : List Spt} (h : GOk G pre) : ∀ g ∈ G, g.2.length ≤ pre.length := fun g hg => by
  rw [h.eq g hg, List.length_map]; exact List.length_filter_le ..
/-- in rows of sorted spots the numbers rise -/
theorem rows_rise {m : List Spt} (hs : m.Pairwise fun s t => s.1 ≤ t.1) (hn : m.Nodup) (y : Int) : ((m.filter fun s => decide (s.2 = y)).map (·.1)).Pairwise (· < ·) := by
  rw [List.pairwise_map]
  have h := (hs.and hn).filter (fun s : Spt => decide (s.2 = y))
  refine List.Pairwise.imp_of_mem (fun {a b} ha hb ⟨h1, h2⟩ => ?_) h
  have e1 : a.2 = y := of_decide_eq_true (List.mem_filter.mp ha).2
  have e2 : b.2 = y := of_decide_eq_true (List.mem_filter.mp hb).2
  rcases Int.lt_or_eq_of_le h1 with h | h
  · exact h
  · exact absurd (Prod.ext_iff.mpr ⟨h, e1.trans e2.symm⟩) h2
def lstD (G : Grp) : List (Key × D) := (gDat G).map fun e => (e.1, D.lst e.2)
theorem lstD_keys (G : Grp) : keyDK (lstD G) = (G.map (·.1)).map D.int := by
  unfold keyDK lstD gDat
  simp only [List.map_map]; rfl
theorem lstD_val : ∀ {G : Grp} {g : Int × List Int}, (G.map (·.1)).Nodup → g ∈ G → valD (lstD G) (Sum.inl g.1) = some (.lst (g.2.map D.int))
  | [], _, _, h => nomatch h
  | c :: G, g, nd, h => by
    rw [List.map_cons, List.nodup_cons] at nd
    unfold lstD gDat valD
    rw [List.map_cons, List.map_cons, List.find?_cons]
    by_cases e : c.1 = g.1
    · have : decide (((Sum.inl c.1 : Key)) = Sum.inl g.1) = true := by simp [e]
      simp only [this]
      rcases List.mem_cons.mp h with rfl | h
      · rfl
      · exact absurd (List.mem_map.mpr ⟨g, h, e.symm⟩) nd.1
    · have : decide (((Sum.inl c.1 : Key)) = Sum.inl g.1) = false := by simp [e]
      simp only [this]
      rcases List.mem_cons.mp h with rfl | h
      · exact absurd rfl e
      · exact lstD_val nd.2 h
def swD (s : Sg) : D := .tup [.int s.1, .int (s.2 - s.1)]
def bwD (b : Band) : D := .tup [.int b.t, .int (b.b - b.t), .lst (b.ss.map swD)]
theorem eq_sw (a b : Sg) : D.eq (swD a) (swD b) = decide (a = b) := by
  have := eq_ints [a.1, a.2 - a.1] [b.1, b.2 - b.1]
  show D.eq (.tup _) (.tup _) = _
  rw [eq_tup]
  refine this.trans (decide_eq_decide.mpr ?_)
  rw [Prod.ext_iff]
  simp only [List.cons.injEq, and_true]
  omega
theorem eq_sws (a b : List Sg) : D.eq (.lst (a.map swD)) (.lst (b.map swD)) = decide (a = b) := by rw [eq_lst]; exact eqs_map eq_sw a b
theorem lay_sws (ss : List Sg) : D.lays (ss.map swD) = true := lays_map fun _ _ => rfl
theorem dep_sws (ss : List Sg) : D.deps (ss.map swD) ≤ 1 := deps_map fun _ _ => Nat.le_refl _
theorem dep_sws63 (ss : List Sg) : D.deps (ss.map swD) ≤ 63 := Nat.le_trans (dep_sws ss) (by decide)
theorem lay_bws (r : List Band) : D.lays (r.map bwD) = true := lays_map fun b _ => by simp only [bwD, D.lay, D.lays, lay_sws]; rfl
theorem dep_bws (r : List Band) : D.deps (r.map bwD) ≤ 63 := deps_map fun b _ => by
  have := dep_sws b.ss
  simp only [bwD, D.dep, D.deps]
  omega
/-- stretches of one number each -/
def units (row : List Int) : List Sg := row.map fun x => (x, x + 1)
theorem units_in {row : List Int} {x : Int} : inS (units row) x = decide (x ∈ row) := by
  apply bool_ext
  rw [inS_iff, decide_eq_true_eq]
  constructor
  · rintro ⟨s, hs, h1, h2⟩
    obtain ⟨y, hy, rfl⟩ := List.mem_map.mp hs
    have : x = y := by simp only at h1 h2; omega
    exact this ▸ hy
  · intro h
    exact ⟨_, List.mem_map.mpr ⟨x, h, rfl⟩, by simp only; omega, by simp only; omega⟩
theorem units_can {row : List Int} (h : row.Pairwise (· < ·)) : CanS (joined (units row)) ∧ ∀ x, inS (joined (units row)) x = decide (x ∈ row) := by
  obtain ⟨a, b⟩ := joined_ok (ss := units row) (fun s hs => by obtain ⟨y, _, rfl⟩ := List.mem_map.mp hs; simp only; omega) (by
    unfold units
    rw [List.pairwise_map]
    exact h.imp fun h => by omega)
  exact ⟨a, fun x => (b x).trans units_in⟩
theorem joinB_len : ∀ (r racc : List Band), (joinB racc r).length ≤ racc.length + r.length
  | [], racc => by cases racc <;> exact Nat.le_refl _
  | s :: r, [] => by
    have := joinB_len r [s]
    simp only [joinB, List.length_cons, List.length_nil] at this ⊢; omega
  | s :: r, l :: racc => by
    rw [joinB]
    split
    · have := joinB_len r (⟨l.t, s.b, s.ss⟩ :: racc)
      simp only [List.length_cons] at this ⊢; omega
    · have := joinB_len r (s :: l :: racc)
      simp only [List.length_cons] at this ⊢; omega
/-- what is told of the spots m, row by row -/
def rowBd (G : Grp) (y : Int) : Band := ⟨y, y + 1, joined (units (((G.find? fun g => decide (g.1 = y)).map (·.2)).getD []))⟩
theorem row_find : ∀ {G : Grp} {g : Int × List Int}, (G.map (·.1)).Nodup → g ∈ G → G.find? (fun h => decide (h.1 = g.1)) = some g
  | [], _, _, h => nomatch h
  | c :: G, g, nd, h => by
    rw [List.map_cons, List.nodup_cons] at nd
    rw [List.find?_cons]
    by_cases e : c.1 = g.1
    · simp only [e, decide_true]
      rcases List.mem_cons.mp h with rfl | h
      · rfl
      · exact absurd (List.mem_map.mpr ⟨g, h, e.symm⟩) nd.1
    · simp only [e, decide_false]
      rcases List.mem_cons.mp h with rfl | h
      · exact absurd rfl e
      · exact row_find nd.2 h
theorem told_ok {L m : List Spt} {G : Grp} {ys : List Int} (pm : m.Perm L) (hs : m.Pairwise fun s t => s.1 ≤ t.1) (hn : L.Nodup) (hG : GOk G m) (py : ys.Perm (G.map (·.1))) (hy : ys.Pairwise (· < ·)) :
    Can (partBy (ys.map (rowBd G))) ∧ ∀ x y, inP (partBy (ys.map (rowBd G))) x y = decide ((x, y) ∈ L) := by
  have row : ∀ y ∈ ys, CanS (rowBd G y).ss ∧ ∀ x, inS (rowBd G y).ss x = decide ((x, y) ∈ L) := fun y h => by
    obtain ⟨g, h1, rfl⟩ := List.mem_map.mp (py.mem_iff.mp h)
    have e : rowBd G g.1 = ⟨g.1, g.1 + 1, joined (units g.2)⟩ := by unfold rowBd; rw [row_find hG.nd h1]; rfl
    rw [e]
    have rise := rows_rise hs (pm.nodup_iff.mpr hn) g.1
    rw [← hG.eq g h1] at rise
    obtain ⟨a, b⟩ := units_can rise
    refine ⟨a, fun x => (b x).trans (decide_eq_decide.mpr ?_)⟩
    rw [hG.eq g h1, ← pm.mem_iff, List.mem_map]
    constructor
    · rintro ⟨s, h2, rfl⟩
      obtain ⟨h2, h3⟩ := List.mem_filter.mp h2
      have : s.2 = g.1 := of_decide_eq_true h3
      rw [← this]; exact h2
    · intro h2
      exact ⟨_, List.mem_filter.mpr ⟨h2, decide_eq_true rfl⟩, rfl⟩
  obtain ⟨c, e⟩ := partBy_ok (r := ys.map (rowBd G)) (fun b hb => by
    obtain ⟨y, h, rfl⟩ := List.mem_map.mp hb
    exact ⟨by show y < y + 1; omega, (row y h).1⟩) (by
    rw [List.pairwise_map]
    exact hy.imp fun {a b} h => by show a + 1 ≤ b; omega)
  refine ⟨c, fun x y => (e x y).trans (bool_ext ?_)⟩
  rw [inBd_iff, decide_eq_true_eq]
  constructor
  · rintro ⟨b, hb, h1, h2, h3⟩
    obtain ⟨z, h, rfl⟩ := List.mem_map.mp hb
    have h1 : z ≤ y := h1
    have h2 : y < z + 1 := h2
    obtain rfl : z = y := by omega
    rw [(row z h).2] at h3
    exact of_decide_eq_true h3
  · intro h
    obtain ⟨g, h1, h2⟩ := hG.all _ (pm.mem_iff.mpr h)
    have hy' : y ∈ ys := py.mem_iff.mpr (List.mem_map.mpr ⟨g, h1, h2⟩)
    exact ⟨_, List.mem_map.mpr ⟨y, hy', rfl⟩, by show y ≤ y; omega, by show y < y + 1; omega, by rw [(row y hy').2]; exact decide_eq_true h⟩
theorem can_1 (b : Bx) (hw : 0 < b.w) (hh : 0 < b.h) : Can [b] := by
  refine ⟨[⟨b.y, b.y + b.h, [(b.x, b.x + b.w)]⟩], ⟨fun c hc => ?_, List.pairwise_singleton _ _⟩, fun c hc => ?_, ?_⟩
  · rw [List.mem_singleton] at hc; subst hc
    exact ⟨by simp only []; omega, ⟨fun s hs => by rw [List.mem_singleton] at hs; subst hs; simp only []; omega, List.pairwise_singleton _ _⟩⟩
  · rw [List.mem_singleton] at hc; subst hc
    simp
  · cases b
    simp only [boxesOf, bxs, List.flatMap_cons, List.flatMap_nil, List.map_cons, List.map_nil, List.append_nil, List.cons.injEq, Bx.mk.injEq, and_true, true_and]
    omega
theorem spots_one {lx ly x y : Int} (h : (lx ≤ x ∧ x < lx + 2800) ∧ ly ≤ y ∧ y < ly + 2800) : spots (fun u v => decide ((u, v) = (x, y))) lx ly = 1 := by
  have a := area_can (p := [⟨x, y, 1, 1⟩]) (lx := lx) (ly := ly) (can_1 _ (by show (0:Int) < 1; decide) (by show (0:Int) < 1; decide)) (fun b hb => by rw [List.mem_singleton] at hb; subst hb; simp only; omega)
  have e : spots (fun u v => decide ((u, v) = (x, y))) lx ly = spots (inP [⟨x, y, 1, 1⟩]) lx ly := spots_congr fun u v => bool_ext (by
    rw [decide_eq_true_eq, inP_iff, Prod.ext_iff]
    constructor
    · rintro ⟨h1, h2⟩
      exact ⟨_, List.mem_singleton.mpr rfl, by simp only at h1 h2 ⊢; omega, by simp only at h1 h2 ⊢; omega⟩
    · rintro ⟨b, hb, h1, h2⟩
      rw [List.mem_singleton] at hb; subst hb
      simp only at h1 h2 ⊢; omega)
  rw [e, ← a]; rfl
theorem spots_none {lx ly : Int} {P : Int → Int → Bool} (h : ∀ x y, P x y = false) : spots P lx ly = 0 := by
  have : spots P lx ly = spots (inP []) lx ly := spots_congr fun x y => by rw [h]; rfl
  rw [this, ← area_can can_nil (fun _ h => (nomatch h))]; rfl
theorem spots_len {lx ly : Int} : ∀ {L : List Spt}, L.Nodup → (∀ s ∈ L, (lx ≤ s.1 ∧ s.1 < lx + 2800) ∧ ly ≤ s.2 ∧ s.2 < ly + 2800) → spots (fun x y => decide ((x, y) ∈ L)) lx ly = L.length
  | [], _, _ => spots_none fun x y => by simp
  | s :: L, nd, h => by
    rw [List.nodup_cons] at nd
    have ih := spots_len (lx := lx) (ly := ly) nd.2 fun t ht => h t (List.mem_cons_of_mem _ ht)
    have o := spots_one (h s List.mem_cons_self)
    have i := spots_incl (P := fun u v => decide ((u, v) = (s.1, s.2))) (Q := fun x y => decide ((x, y) ∈ L)) (lx := lx) (ly := ly)
    have z : spots (fun x y => decide ((x, y) = (s.1, s.2)) && decide ((x, y) ∈ L)) lx ly = 0 := spots_none fun x y => by
      by_cases e : (x, y) = (s.1, s.2)
      · have : (x, y) ∉ L := by rw [e]; exact nd.1
        simp [this]
      · simp [e]
    have c : spots (fun x y => decide ((x, y) ∈ s :: L)) lx ly = spots (fun x y => decide ((x, y) = (s.1, s.2)) || decide ((x, y) ∈ L)) lx ly := spots_congr fun x y => by
      apply bool_ext
      rw [Bool.or_eq_true, decide_eq_true_eq, decide_eq_true_eq, decide_eq_true_eq, List.mem_cons]
    rw [c, List.length_cons]
    omega
theorem area_ge : ∀ {p : List Bx}, (∀ b ∈ p, 0 < b.w ∧ 0 < b.h) → (p.length : Int) ≤ area p
  | [], _ => by decide
  | b :: p, h => by
    have ih := area_ge (p := p) fun c hc => h c (List.mem_cons_of_mem _ hc)
    obtain ⟨h1, h2⟩ := h b List.mem_cons_self
    have : (1 : Int) * 1 ≤ b.w * b.h := Int.mul_le_mul (by omega) (by omega) (by omega) (by omega)
    unfold area at ih ⊢
    rw [List.map_cons, List.sum_cons, List.length_cons]
    omega
/-- a part has as many spots as are listed, and no more boxes -/
theorem can_count {p : List Bx} {L : List Spt} {lx ly : Int} (hp : Can p) (e : ∀ x y, inP p x y = decide ((x, y) ∈ L)) (nd : L.Nodup) (hw : ∀ s ∈ L, (lx ≤ s.1 ∧ s.1 < lx + 2800) ∧ ly ≤ s.2 ∧ s.2 < ly + 2800) : area p = L.length ∧ p.length ≤ L.length := by
  have w := can_win (lx := lx) (ly := ly) hp fun x y h => by rw [e] at h; exact hw _ (of_decide_eq_true h)
  have a : area p = L.length := by rw [area_can hp w, spots_congr e, spots_len nd hw]
  have := area_ge (can_box hp)
  exact ⟨a, by omega⟩
end Pt
namespace Ev
open PySem PySem.Spec PyProof.Rows L2
variable [TabC]
variable {K : PySem.W.Frag} {S S' H H' : Hp} {B : Bs} {δ : DS} {σ : L2.St}
section
variable {X : Cx} {E : EK} {e a b c k v : Expr} {es : List Expr} {pos p ap cp : Pos} {da db dk dv : dE} {x : Str}
def dEmptyT : dE := fun _ δ Q => Q (.fT []) δ
def dNeE (d : dE) : dE := fun W δ Q => d W δ fun x δ1 => optQ (asT x) fun es => Q (.bl (!decide (es = []))) δ1
/-- list(d): its keys -/
def rListA : DRF := fun xs Q => match xs with | [d] => (match asT d with | some es => Q (keyD es) | none => match d with | .lst ds => Q ds | .tup ds => Q ds | _ => False) | _ => False
def dDispT1 (dk dv : dE) : dE := fun _ δ Q => dk W0 δ fun y δ1 => optQ y.keyT fun ks => dv W0 δ1 fun z δ2 => Q (.fT [(ks, z)]) δ2
def mergeDT (kvs more : List (List Key × D)) : List (List Key × D) := more.foldl (fun acc kv => putD acc kv.1 kv.2) kvs
def pairsOfT : List D → Option (List (List Key × D))
  | [] => some []
  | .tup [k, v] :: r => match k.keyT, pairsOfT r with | some kk, some l => some ((kk, v) :: l) | _, _ => none
  | _ :: _ => none
def rDictPT : DRC := fun xs Q => match xs with
  | [.lst ds] => optQ (pairsOfT ds) fun kvs => Q (.dT (mergeDT [] kvs))
  | _ => False
end
end Ev
namespace Ev
open PySem PySem.Spec PyProof.Rows L2
section
/-- the pairs that were drawn -/
def ZAcc (h : Heap) (xs ys : Array Value) (lo : Nat) (acc : Array Value) (i : Nat) : Prop :=
  ∃ as : List Addr, acc.toList = as.map Value.ref ∧ as.length = i ∧ as.Pairwise (fun a b : Nat => a < b) ∧ ∀ (j : Nat) (T : Addr), as[j]? = some T → lo ≤ T ∧ ∃ x y, xs[j]? = some x ∧ ys[j]? = some y ∧ IsPair h T x y
theorem ZAcc.size {h : Heap} {xs ys : Array Value} {lo : Nat} {acc : Array Value} {i : Nat} (z : ZAcc h xs ys lo acc i) : acc.size = i := by
  obtain ⟨as, e1, e2, _⟩ := z
  rw [← Array.length_toList, e1, List.length_map, e2]
theorem ZAcc.keep {h h' : Heap} {xs ys : Array Value} {lo : Nat} {acc : Array Value} {i : Nat} (z : ZAcc h xs ys lo acc i) (k : ∀ b o, lo ≤ b → h.get? b = some o → h'.get? b = some o) : ZAcc h' xs ys lo acc i := by
  obtain ⟨as, e1, e2, e3, e4⟩ := z
  refine ⟨as, e1, e2, e3, fun j T e => ?_⟩
  obtain ⟨l, x, y, f1, f2, f3⟩ := e4 j T e
  exact ⟨l, x, y, f1, f2, k _ _ l f3⟩
theorem ZAcc.push {h h' : Heap} {xs ys : Array Value} {lo : Nat} {acc : Array Value} {i : Nat} {x y : Value} (z : ZAcc h xs ys lo acc i) (k : ∀ b o, lo ≤ b → h.get? b = some o → h'.get? b = some o) (hx : xs[i]? = some x) (hy : ys[i]? = some y)
    (hT : IsPair h' h.objs.size x y) (hl : lo ≤ h.objs.size) : ZAcc h' xs ys lo (acc.push (.ref h.objs.size)) (i + 1) := by
  obtain ⟨as, e1, e2, e3, e4⟩ := z
  refine ⟨as ++ [h.objs.size], by rw [Array.toList_push, e1, List.map_append]; rfl, by rw [List.length_append, e2]; rfl, ?_, fun j T e => ?_⟩
  · rw [List.pairwise_append]
    refine ⟨e3, List.pairwise_singleton _ _, fun a ha b hb => ?_⟩
    obtain rfl := List.mem_singleton.mp hb
    obtain ⟨j, hj, ej⟩ := List.getElem_of_mem ha
    obtain ⟨_, x, y, _, _, f3⟩ := e4 j a (by rw [List.getElem?_eq_getElem hj, ej])
    exact Heap.lt_size f3
  · by_cases hj : j < as.length
    · rw [List.getElem?_append_left hj] at e
      obtain ⟨l, x, y, f1, f2, f3⟩ := e4 j T e
      exact ⟨l, x, y, f1, f2, k _ _ l f3⟩
    · rw [List.getElem?_append_right (by omega)] at e
      have hz : j - as.length = 0 := by
        have := (List.getElem?_eq_some_iff.mp e).1
        simp only [List.length_singleton] at this
        omega
      rw [hz] at e
      obtain rfl : h.objs.size = T := Option.some.inj e
      obtain rfl : j = i := by omega
      exact ⟨hl, x, y, hx, hy, hT⟩
variable {prog : Program} {w : World} {A : Around} {R : Result → Shared → Prop} {z TI TO i1 i2 l1 l2 S lo n : Nat} {xs ys : Array Value}
structure ZFar (z TI TO i1 i2 l1 l2 S lo : Nat) : Prop where
  D : ZipApart z TI TO i1 i2 l1 l2
  zl : z < lo
  tl : TO < lo
  al : i1 < lo
  bl : i2 < lo
  sl : S < lo
  sz : S ≠ z
  sT : S ≠ TI
  sO : S ≠ TO
  sa : S ≠ i1
  sb : S ≠ i2
  sl1 : S ≠ l1
  sl2 : S ≠ l2
/-- the state in which a fresh zip is walked into S -/
structure ZNew (h : Heap) (z TI TO i1 i2 l1 l2 S : Nat) (xs ys : Array Value) (c : Nat) : Prop where
  hz : IsZip h z TI TO .none
  hTI : IsPair h TI (.ref i1) (.ref i2)
  hTO : ∃ a b, IsPair h TO a b
  h1 : h.IsListIter i1 l1 0
  h2 : h.IsListIter i2 l2 0
  q1 : h.IsList l1 xs
  q2 : h.IsList l2 ys
  hS : h.get? S = some { cls := .type "list", dict := none, data := .seq #[] c, slots := #[] }
theorem ZNew.at {h h' : Heap} {c c' : Nat} (q : ZNew h z TI TO i1 i2 l1 l2 S xs ys c) (F : ZFar z TI TO i1 i2 l1 l2 S lo) (k : ∀ b o, b ≠ S → h.get? b = some o → h'.get? b = some o)
    (hS : h'.get? S = some { cls := .type "list", dict := none, data := .seq #[] c', slots := #[] }) : ZNew h' z TI TO i1 i2 l1 l2 S xs ys c' := by
  obtain ⟨a, b, e⟩ := q.hTO
  exact ⟨k _ _ F.sz.symm q.hz, k _ _ F.sT.symm q.hTI, ⟨a, b, k _ _ F.sO.symm e⟩, q.h1.at fun o e => k _ _ F.sa.symm e, q.h2.at fun o e => k _ _ F.sb.symm e,
    (by obtain ⟨o, e, r⟩ := q.q1; exact ⟨o, k _ _ F.sl1.symm e, r⟩), (by obtain ⟨o, e, r⟩ := q.q2; exact ⟨o, k _ _ F.sl2.symm e, r⟩), hS⟩
end
/-- list(zip(a, b)) as a list to be -/
def dZipL (a : dA) : dF := fun W δ Q => a W δ fun xs δ1 => match xs with | [.lst ds, .lst es] => ds.length = es.length ∧ Q (zipD ds es) δ1 | _ => False
variable [TabC]
variable {K : PySem.W.Frag}
/-- list(d) of a dict of one's own: its keys -/
def dListKo (i : Nat) : dF := fun _ δ Q => match δ.sl[i]? with
  | some (.ownK es) => Q (keyDK es) δ
  | some (.dat (.dK es)) => Q (keyDK es) δ
  | _ => False
end Ev
namespace Ev
open PySem PySem.Spec PyProof.Rows L2
variable [TabC]
variable {K : PySem.W.Frag} {S S' H H' : Hp} {B : Bs} {δ : DS} {σ : L2.St}
section
variable {X : Cx} {E : EK} {a b : Expr} {p p2 pos pos2 : Pos} {da db : dE}
def dListRg (da db : dE) : dF := fun W δ Q => da W δ fun x δ1 => db W δ1 fun y δ2 => match x, y with
  | .int i, .int j => (-(2 ^ 62) ≤ i ∧ i < 2 ^ 62 ∧ -(2 ^ 62) ≤ j ∧ j < 2 ^ 62 ∧ (j - i).toNat ≤ 2 ^ 24) ∧ Q (intsFrom i (j - i).toNat) δ2
  | _, _ => False
/-- dict(list of pairs), locked at once: it may be walked -/
def rDictPf : DRC := fun xs Q => match xs with
  | [.lst ds] => optQ (pairsOf ds) fun kvs => Q (.fK (mergeD [] kvs))
  | _ => False
end
end Ev
namespace Ev
open PySem PySem.Spec PyProof.Rows L2
variable [TabC]
variable {K : PySem.W.Frag} {S S' H H' : Hp} {B : Bs} {δ : DS} {σ : L2.St}
def lookS {α : Type} (kvs : List (Str × α)) (z : Str) : Option α := (kvs.find? fun p => decide (p.1 = z)).map (·.2)
section
variable {X : Cx} {E : EK} {x : Str} {e : Expr} {pos p : Pos} {da : dE} {ds : List D} {kvs : List (Str × D)}
/-- e in NAME, e not in NAME -/
def dGdIn (neg : Bool) (kvs : List (Str × D)) (da : dE) : dE := fun W δ Q => da W δ fun y δ1 => match y with
  | .str z => Q (.bl (neg != (lookS kvs z).isSome)) δ1
  | _ => False
/-- NAME[e] -/
def dGdIx (kvs : List (Str × D)) (da : dE) : dE := fun W δ Q => da W δ fun y δ1 => match y with
  | .str z => optQ (lookS kvs z) fun d => Q d δ1
  | _ => False
end
end Ev
namespace Ev
open PySem PySem.Spec PyProof.Rows L2
variable [TabC]
variable {K : PySem.W.Frag} {S S' H H' : Hp} {B : Bs} {δ : DS} {σ : L2.St}
section
variable {X : Cx} {E : EK} {x : Str} {e : Expr} {pos p : Pos} {da : dE} {ds : List D} {kvs : List (Str × D)}
/-- e in NAME, e not in NAME: e a text or a whole number -/
def dGcIn (neg : Bool) (kvs : List (Str × D)) (da : dE) : dE := fun W δ Q => da W δ fun y δ1 => match y with
  | .str z => Q (.bl (neg != (lookS kvs z).isSome)) δ1
  | .int _ => Q (.bl neg) δ1
  | _ => False
end
def lookB {α : Type} (kvs : List (Bool × α)) (z : Bool) : Option α := (kvs.find? fun p => p.1 == z).map (·.2)
section
variable {X : Cx} {E : EK} {x : Str} {e : Expr} {pos p : Pos} {da : dE} {kvs : List (Bool × D)}
/-- NAME[e], e a bool -/
def dGbIx (kvs : List (Bool × D)) (da : dE) : dE := fun W δ Q => da W δ fun y δ1 => match y with
  | .bl z => optQ (lookB kvs z) fun d => Q d δ1
  | _ => False
end
end Ev
namespace Ev
open PySem PySem.Spec PyProof.Rows L2
variable [TabC]
variable {K : PySem.W.Frag} {S S' H H' : Hp} {B : Bs} {δ : DS} {σ : L2.St}
/-- zip(a, b, strict=True) of a tuple and a list of one length -/
def dZipS (d : dA) : dI := fun W δ Q => d W δ fun xs δ' => match xs with
  | [.kt ds, .lst es] => ds.length = es.length ∧ Q (zipD ds es) δ'
  | [.tup ds, .lst es] => ds.length = es.length ∧ Q (zipD ds es) δ'
  | _ => False
end Ev
namespace Ev
open PySem PySem.Spec PyProof.Rows L2
variable [TabC]
section
variable {X : Cx} {E : EK} {o x : Expr} {ap cp : Pos} {da dx : dE}
def dIndexE (d e : dE) : dE := fun W δ Q => d W δ fun z δ1 => match z with
  | .lst ds => e W δ1 fun y δ2 => (D.lst ds).cm ∧ y.cm ∧ optQ (firstAt ds y) fun j => Q (.int j) δ2
  | _ => False
end
def dAug (f : Int → Int → Int) (i : Nat) (d : dE) : dS := fun W N δ => match δ.sl[i]? with
  | some (.dat (.int a)) => d W δ fun y δ1 => match y with
    | .int b => N.nx (setSl δ1 i (.dat (.int (f a b))))
    | _ => False
  | _ => False
end Ev
namespace Ev
open PySem PySem.Spec PyProof.Rows L2
variable [TabC]
section
variable {X : Cx} {e : Expr} {es : List Expr} {pos p : Pos}
/-- the star's items are a list that is frozen -/
def gStarDL (n i : Nat) (r : dGs) : dG := fun d δ Q => match d with
  | .lst ds => n ≤ ds.length + 1 ∧ ds.length ≤ 16384 ∧ r (ds.take i ++ [.lst ((ds.drop i).take (ds.length + 1 - n))] ++ (ds.drop i).drop (ds.length + 1 - n)) δ Q
  | _ => False
end
end Ev
namespace Ev
open PySem PySem.Spec PyProof.Rows L2
variable [TabC]
variable {K : PySem.W.Frag} {S S' H H' : Hp} {B : Bs} {δ : DS} {σ : L2.St}
section
variable {X : Cx} {E : EK} {x : Str} {p : Pos}
/-- the pen at slot i by its name; the one at slot j, if it is the pen, rests -/
def dPenS (i j : Nat) : dE := fun W δ Q => match δ.pen, δ.sl[j]?, δ.sl[i]? with
  | some (a, c), some (.dat (.raw (.ref b))), some (.own _) => a = b ∧ (∃ (q : Nat) (ns : List Int), δ.sl[q]? = some (.law ns)) ∧ ∀ (ns : List Int) (k m : Int), ns.length ≤ 63 → 0 ≤ k → k ≤ c → 0 ≤ m → dPen1 i W { setSl δ j (.own (penD ns k m)) with pen := none } Q
  | _, _, _ => dPen1 i W δ Q
end
end Ev
namespace Ev
open PySem PySem.Spec PyProof.Rows L2
variable [TabC]
variable {K : PySem.W.Frag} {S S' H H' : Hp} {B : Bs} {δ : DS} {σ : L2.St}
section
variable {prog : Program} {w : World} {A : Around} {E : Value → Shared → Prop} {s : Shared}
theorem sliceApplied_rev {sl : Addr} {vl vu vs : Value} {n : Nat} {Q : Int × Int × Nat → Shared → Prop} (hs : s.heap.IsSliceOf sl vl vu vs) (pl : IsPart vl none) (pu : IsPart vu none) (ps : IsPart vs (some (-1)))
    (h : Q ((n : Int) - 1, -1, n) s) : wpAny (model prog w) A (Builtin.Slice.sliceApplied (.ref sl) (pure (n : Int))) Q E s := by
  obtain ⟨os, hos, hcs, hds⟩ := id hs
  unfold Builtin.Slice.sliceApplied Builtin.Slice.sliceFields
  refine wpAny_bind (wpAny_bind (wpAny_field hos hds (x := vl) rfl (wpAny_bind (wpAny_field hos hds (x := vu) rfl (wpAny_bind (wpAny_field hos hds (x := vs) rfl (wpAny_pure ?_)))))))
  refine wpAny_bind (HT.slicePart_ ps ?_)
  show wpAny _ _ (if ((-1 : Int) == 0) = true then _ else _) _ _ s
  rw [if_neg (by decide)]
  refine wpAny_bind (HT.slicePart_ pl (wpAny_bind (HT.slicePart_ pu (wpAny_bind (wpAny_pure ?_)))))
  have e : Builtin.Slice.slicePlaces ((n : Int) - 1) (-1) (-1) = n := by
    unfold Builtin.Slice.slicePlaces
    have h1 : ¬ ((-1 : Int) > 0) := by omega
    simp only [h1, if_false]
    rw [show (- -1 : Int) = 1 by decide, Int.ediv_one]
    split <;> omega
  show wpAny _ _ (pure ((n : Int) - 1, (-1 : Int), Builtin.Slice.slicePlaces ((n : Int) - 1) (-1) (-1))) _ _ s
  rw [e]
  exact wpAny_pure h
theorem pick_rev (xs : Array Value) : ((List.range xs.size).filterMap fun (m : Nat) => xs[(((xs.size : Int) - 1) + (m : Int) * -1).toNat]?).toArray = xs.toList.reverse.toArray := by
  have e : (fun (m : Nat) => xs[(((xs.size : Int) - 1) + (m : Int) * -1).toNat]?) = (fun k => xs[k]?) ∘ fun m => xs.size - 1 - m := by
    funext m
    have : (((xs.size : Int) - 1) + (m : Int) * -1).toNat = xs.size - 1 - m := by omega
    show xs[(((xs.size : Int) - 1) + (m : Int) * -1).toNat]? = xs[xs.size - 1 - m]?
    rw [this]
  rw [e, ← List.filterMap_map, PySem.W.krv_range, List.filterMap_reverse, PySem.W.krv_all]
theorem getItem_tuple_rev {t sl : Addr} {items : Array Value} {vl vu vs : Value} {Q : Value → Shared → Prop} (ht : IsTup s.heap t items) (hs : s.heap.IsSliceOf sl vl vu vs) (pl : IsPart vl none) (pu : IsPart vu none) (ps : IsPart vs (some (-1)))
    (h : Q (.ref s.heap.objs.size) { s with heap := s.heap.push { cls := .type "tuple", data := .seq items.toList.reverse.toArray } })
    (hsz : items.size ≤ sizeLine) : wpAny (model prog w) A (getItem (.ref t) (.ref sl)) Q E s := by
  have htake : sizeOk (.seq items.toList.reverse.toArray) := by
    show items.toList.reverse.toArray.size ≤ sizeLine
    rw [List.size_toArray, List.length_reverse, Array.length_toList]
    omega
  obtain ⟨os, hos, hcs, hds⟩ := id hs
  have hTs : s.TypeIs (.ref sl) "slice" := ⟨os, hos, hcs⟩
  unfold getItem
  try with_reducible refine wpAny_holding ?_
  first | refine wpAny_bind (wpAny_pure ?_) | skip
  refine wpAny_bind (wpAny_sequenceKey ht.typeIs (by decide) ?_)
  refine wpAny_bind (wpAny_callSpecial?_slot (name := Str.ofString "__getitem__") ht.typeIs PyProof.Rows.slot_tuple_getitem
    (wpAny_call_entry PyProof.Rows.slot_tuple_getitem ht.typeIs entry_tuple_getitem ?_ (args_tuple_getitem _ _)))
  show wpAny _ _ (Builtin.Tuple.tupleItemsOf (.ref t) >>= _) _ _ s
  refine wpAny_bind (tupleItemsOf_ ht ?_)
  refine wpAny_bind (wpAny_typeOf hTs ?_)
  rw [if_pos (by decide)]
  refine wpAny_bind (sliceApplied_rev hs pl pu ps ?_)
  have hno : ¬ ((((items.size : Int) - 1) == 0 && (-1 : Int) == 1 && items.size == items.size) = true) := by
    intro q
    rw [Bool.and_eq_true, Bool.and_eq_true] at q
    exact absurd q.1.2 (by decide)
  show wpAny _ _ (if (((items.size : Int) - 1) == 0 && (-1 : Int) == 1 && items.size == items.size) = true then _ else _) _ _ s
  rw [if_neg hno, pick_rev]
  first
    | exact wpAny_bind (m := Builtin.Tuple.tupleExact _) (wpAny_newObj_type (wpAny_pure ⟨_, rfl, wpAny_pure h⟩) htake)
    | exact wpAny_bind (m := Builtin.Tuple.tupleExact _) (wpAny_newObj_type (wpAny_bind (wpAny_pure (wpAny_pure ⟨_, rfl, wpAny_pure h⟩))) htake)
    | exact wpAny_bind (wpAny_bind (m := Builtin.Tuple.tupleExact _) (wpAny_newObj_type (wpAny_pure (wpAny_pure ⟨_, rfl, wpAny_pure h⟩)) htake))
    | exact wpAny_bind (wpAny_bind (m := Builtin.Tuple.tupleExact _) (wpAny_newObj_type (wpAny_pure ⟨_, rfl, wpAny_pure h⟩) htake))
end
section
variable {X : Cx} {E : EK} {e a b c : Expr} {es : List Expr} {pos p p2 q : Pos} {da db : dE} {x : Str}
def tRevX (K : PySem.W.Frag) (te : TE) : TE := fun σ H Q => te σ H fun x H1 => (∃ a xs, x = .ref a ∧ SqL K H1 a xs ∧ ∀ p, H1 p = none → Q (.ref p) (upd H1 p (.lst xs.reverse))) ∨ ∃ a xs, x = .ref a ∧ SqT K H1 a xs ∧ ∀ p, H1 p = none → Q (.ref p) (upd H1 p (.tup xs.reverse))
theorem pe_revX {e : Expr} {te : TE} {k : Nat} {p1 p2 p3 pos : Pos} (he : PE X e te) : PE X (.Subscript e (.Slice none none (some (.UnaryOp .USub (.Constant (.int 1) k p1) p2)) p3) pos) (tRevX X.K te) := by
  refine ⟨fun pins s σ H Q I h => ?_⟩
  refine Subscript_ (thn (he.run pins s σ H _ I h) fun v s1 ⟨x, H1, I1, r1, q1⟩ => ?_)
  have hst : PO X (some (.UnaryOp .USub (.Constant (.int 1) k p1) p2)) (tPart (tUn (rU fun i => .int (-i)) (tC (.int 1)))) := po_some (pe_un un_neg pe_int)
  refine wpAny_Slice (thn (po_none.run pins s1 σ H1 (fun o H2 => o = none ∧ H2 = H1) I1 ⟨rfl, rfl⟩) fun vl s2 ⟨l, H2, I2, pl, el, e2⟩ => ?_)
  subst el e2
  refine thn (po_none.run pins s2 σ H2 (fun o H3 => o = none ∧ H3 = H2) I2 ⟨rfl, rfl⟩) fun vu s3 ⟨u, H3, I3, pu, eu, e3⟩ => ?_
  subst eu e3
  refine thn (hst.run pins s3 σ H3 (fun o H4 => o = some (-1) ∧ H4 = H3) I3 ⟨1, rfl, -1, rfl, rfl, rfl⟩) fun vs s4 ⟨o, H4, I4, ps, eo, e4⟩ => ?_
  subst eo e4
  have I5 : Inv X pins σ H4 { s4 with heap := s4.heap.push { cls := .type "slice", data := .fields #[vl, vu, vs] } } := I4.kept (t' := s4.toks) fun b ob q => Heap.get?_push_of_some _ q
  rcases q1 with ⟨a, xs, ex, hx, q⟩ | ⟨a, xs, ex, hx, q⟩
  · subst ex
    cases r1
    obtain ⟨its, r, ht, hz⟩ := I5.list hx
    have hlen := r.length
    show wpAny (model X.prog X.w) X.A (subscriptTail e (.Slice none none (some (.UnaryOp .USub (.Constant (.int 1) k p1) p2)) p3) (.ref a) (.ref s4.heap.objs.size)) (EP X pins σ Q) X.xe { s4 with heap := s4.heap.push { cls := .type "slice", data := .fields #[vl, vu, vs] } }
    refine tail_any (ops := [.ref a, .ref s4.heap.objs.size]) ht.isList.typeIs (PySem.slot_list_getitem.lookup) ?_ (by with_unfolding_all rfl)
    refine wpAny_getItem_list_slice ht.isList (Heap.IsSliceOf.new _ vl vu vs) pl pu ps (by decide) ?_ (by rw [List.size_toArray]; omega)
    rw [PySem.W.krv_pick]
    refine ⟨.ref _, _, I5.laid (t' := s4.toks) (o := .lst xs.reverse) (fun b ob q => Heap.get?_push_of_some _ q) (Nat.le_refl _) ?_, rfl, q _ (I5.hok.fresh (Nat.le_refl _))⟩
    exact ⟨by rw [List.length_reverse]; exact hz, _, 0, r.reverse, Heap.get?_push_size _ rfl⟩
  · subst ex
    cases r1
    obtain ⟨its, r, ht, hz⟩ := I5.tuple hx
    have hlen := r.length
    show wpAny (model X.prog X.w) X.A (subscriptTail e (.Slice none none (some (.UnaryOp .USub (.Constant (.int 1) k p1) p2)) p3) (.ref a) (.ref s4.heap.objs.size)) (EP X pins σ Q) X.xe { s4 with heap := s4.heap.push { cls := .type "slice", data := .fields #[vl, vu, vs] } }
    refine tail_any (ops := [.ref a, .ref s4.heap.objs.size]) ht.typeIs (PyProof.Rows.slot_tuple_getitem.lookup) ?_ (by with_unfolding_all rfl)
    refine getItem_tuple_rev ht (Heap.IsSliceOf.new _ vl vu vs) pl pu ps ?_ (by rw [List.size_toArray]; omega)
    refine ⟨.ref _, _, I5.laid (t' := s4.toks) (o := .tup xs.reverse) (fun b ob q => Heap.get?_push_of_some _ q) (Nat.le_refl _) ?_, rfl, q _ (I5.hok.fresh (Nat.le_refl _))⟩
    exact ⟨by rw [List.length_reverse]; exact hz, _, by simpa using r.reverse, IsTup.new _ _⟩
/-- x[::-1] of a list or a tuple, as data -/
def dRevX (d : dE) : dE := fun W δ Q => d W δ fun x δ1 => match x with | .lst ds => Q (.lst ds.reverse) δ1 | .tup ds => Q (.tup ds.reverse) δ1 | _ => False
theorem de_revX {k : Nat} {p1 p2 p3 : Pos} (h : DE X E e da) : DE X E (.Subscript e (.Slice none none (some (.UnaryOp .USub (.Constant (.int 1) k p1) p2)) p3) pos) (dRevX da) := ⟨fun B => pe_mono (pe_revX (h.run B)) fun σ H Q q => by
  obtain ⟨δ, S, W, Q', R, q, xo, post⟩ := q
  refine ⟨δ, S, W, _, R, q, xo, fun x δ1 v S1 H1 q1 e1 R1 n1 => ?_⟩
  match x, n1, q1 with
  | .lst ds, .lst (vs := vs) h a, q1 =>
    refine .inl ⟨_, vs, rfl, SqL.of (R1.ex _ _ h), fun p hp => ?_⟩
    have g := Grow.new (o := .lst vs.reverse) R1.ex hp
    exact post _ _ _ _ _ q1 (e1.trans g.s) (R1.grow g) (.lst upd_same (a.reverse.mono g.s))
  | .tup ds, .tup (vs := vs) h a, q1 =>
    refine .inr ⟨_, vs, rfl, SqT.of (R1.ex _ _ h), fun p hp => ?_⟩
    have g := Grow.new (o := .tup vs.reverse) R1.ex hp
    exact post _ _ _ _ _ q1 (e1.trans g.s) (R1.grow g) (.tup upd_same (a.reverse.mono g.s))⟩
def rMulX : DR2 := fun x y Q => match x, y with
  | .int i, .int j => CMul i j ∧ Q (.int (i * j))
  | .tup xs, .int k => xs ≠ [] ∧ 2 ≤ k ∧ k ≤ 1000 ∧ xs.length ≤ 1000 ∧ Q (.tup (List.replicate k.toNat xs).flatten)
  | _, _ => False
def strLt (x y : Str) : Bool := decide (x.cps.toList < y.cps.toList)
def rLtX : DR2 := fun x y Q => match x, y with
  | .int i, .int j => Q (.bl (decide (i < j)))
  | .str i, .str j => Q (.bl (strLt i j))
  | .tup xs, .tup ys => optQ (intsOf xs) fun ns => optQ (intsOf ys) fun ms => Q (.bl (HT.lexLt ns ms))
  | _, _ => False
def dLenSetN (d : dE) : dE := fun W δ Q => d W δ fun x δ1 => match x with
  | .lst ds => optQ (intsOf ds) fun ns => ns.length ≤ 4000 ∧ ∀ m : Nat, m ≤ ns.length → (m = ns.length ↔ ns.Nodup) → Q (.int (m : Nat)) δ1
  | _ => False
def dEmptyV : dE := fun _ δ Q => Q (.dT []) δ
theorem de_emptyV : DE X E (.Dict [] [] pos) dEmptyV := ⟨fun B => pe_mono pe_dnewT fun σ H Q q => by
  obtain ⟨δ, S, W, Q', R, q, xo, post⟩ := q
  intro p hp
  have g := Grow.new (o := .dT []) R.ex hp
  exact post _ _ _ _ _ q g.s (R.grow g) (.dT (kvs := []) upd_same rfl .nil)⟩
/-- x[lo:hi] of a tuple or a list, as data -/
def dSlX (d : dE) (lo hi : dO) : dE := fun W δ Q => d W δ fun x δ1 => lo W δ1 fun l δ2 => hi W δ2 fun h δ3 => match x with
  | .tup ds => Q (.tup (cutD ds l h)) δ3
  | .lst ds => Q (.lst (cutD ds l h)) δ3
  | _ => False
end
end Ev
namespace Ev
open PySem PySem.Spec PyProof.Rows L2
variable [TabC]
variable {K : PySem.W.Frag} {S S' H H' : Hp} {B : Bs} {δ : DS} {σ : L2.St}
/-- the one filled dict that may be shown: {0: 0} -/
def isD00 : List (Key × D) → Bool
  | [(.inl i, .int j)] => decide (i = 0) && decide (j = 0)
  | _ => false
theorem isD00_eq {es : List (Key × D)} (h : isD00 es = true) : es = [(.inl 0, .int 0)] := by
  unfold isD00 at h
  split at h
  · rename_i i j
    rw [Bool.and_eq_true] at h
    rw [of_decide_eq_true h.1, of_decide_eq_true h.2]
  · cases h
mutual
def D.pyR : D → PyData
  | .bl b => .bool b
  | .int i => .int i
  | .str x => .str x
  | .tup xs => .tuple (D.pyRs xs)
  | .kt xs => .tuple (D.pyRs xs)
  | .lst xs => .list (D.pyRs xs)
  | .dT _ => .dict []
  | .dK es => if isD00 es = true then .dict [(.int 0, .int 0)] else .none
  | _ => .none
def D.pyRs : List D → List PyData
  | [] => []
  | x :: xs => x.pyR :: D.pyRs xs
end
mutual
def D.okR : D → Bool
  | .non => true
  | .bl _ => true
  | .int i => decide (i.natAbs < 10 ^ 100)
  | .str x => PyData.strOk x
  | .tup xs => D.okRs xs
  | .kt xs => D.okRs xs
  | .lst xs => D.okRs xs
  | .dT es => es.isEmpty
  | .dK es => isD00 es
  | _ => false
def D.okRs : List D → Bool
  | [] => true
  | x :: xs => x.okR && D.okRs xs
end
mutual
def D.szR : D → Nat
  | .int _ => 101
  | .str x => 10 * x.length + 2
  | .tup xs => D.szRs xs + 5
  | .kt xs => D.szRs xs + 5
  | .lst xs => D.szRs xs + 5
  | .dK _ => 20
  | _ => 5
def D.szRs : List D → Nat
  | [] => 0
  | x :: xs => x.szR + 2 + D.szRs xs
end
mutual
def D.deR : D → Nat
  | .tup xs => D.deRs xs + 1
  | .kt xs => D.deRs xs + 1
  | .lst xs => D.deRs xs + 1
  | .dT _ => 1
  | .dK es => if isD00 es = true then 1 else 0
  | _ => 0
def D.deRs : List D → Nat
  | [] => 0
  | x :: xs => max x.deR (D.deRs xs)
end
theorem okRs_cons {d : D} {ds : List D} (h : D.okRs (d :: ds) = true) : d.okR = true ∧ D.okRs ds = true := by
  have h' : (d.okR && D.okRs ds) = true := h
  rw [Bool.and_eq_true] at h'
  exact h'
theorem log2_ofR {n : Nat} (h : n < 10 ^ 100) : n.log2 < 1920 := by
  by_cases z : n = 0
  · subst z; decide
  · rw [Nat.log2_lt z]
    exact Nat.lt_trans h (by decide +kernel)
mutual
theorem D.pyR_de : ∀ d : D, d.pyR.depth = d.deR
  | .non => by simp [D.pyR, PyData.depth, D.deR]
  | .bl b => by simp [D.pyR, PyData.depth, D.deR]
  | .int i => by simp [D.pyR, PyData.depth, D.deR]
  | .str x => by simp [D.pyR, PyData.depth, D.deR]
  | .tup xs => by simp [D.pyR, PyData.depth, D.deR, D.pyRs_de xs]
  | .kt xs => by simp [D.pyR, PyData.depth, D.deR, D.pyRs_de xs]
  | .lst xs => by simp [D.pyR, PyData.depth, D.deR, D.pyRs_de xs]
  | .dK es => by
    simp only [D.pyR, D.deR]
    split <;> simp [PyData.depth, PyData.depthKv]
  | .dT _ => by simp [D.pyR, PyData.depth, PyData.depthKv, D.deR]
  | .fK _ => by simp [D.pyR, PyData.depth, D.deR]
  | .fT _ => by simp [D.pyR, PyData.depth, D.deR]
  | .fN _ => by simp [D.pyR, PyData.depth, D.deR]
  | .exc _ _ _ => by simp [D.pyR, PyData.depth, D.deR]
  | .exc0 _ => by simp [D.pyR, PyData.depth, D.deR]
  | .raw _ => by simp [D.pyR, PyData.depth, D.deR]
  | .scr _ => by simp [D.pyR, PyData.depth, D.deR]
  | .fn _ _ => by simp [D.pyR, PyData.depth, D.deR]
theorem D.pyRs_de : ∀ ds : List D, PyData.depthAll (D.pyRs ds) = D.deRs ds
  | [] => by simp [D.pyRs, PyData.depthAll, D.deRs]
  | d :: ds => by simp [D.pyRs, PyData.depthAll, D.deRs, D.pyR_de d, D.pyRs_de ds]
end
mutual
theorem D.okR_sho : ∀ d : D, d.okR = true → d.pyR.showable = true
  | .non, _ => by simp [D.pyR, PyData.showable]
  | .bl b, _ => by simp [D.pyR, PyData.showable]
  | .int i, h => by
    simp only [D.pyR, PyData.showable]
    exact decide_eq_true (log2_ofR (of_decide_eq_true h))
  | .str x, _ => by simp [D.pyR, PyData.showable]
  | .tup xs, h => by simpa [D.pyR, PyData.showable] using D.okRs_sho xs h
  | .lst xs, h => by simpa [D.pyR, PyData.showable] using D.okRs_sho xs h
  | .dT _, h => by simp [D.pyR, PyData.showable, PyData.showableKv]
  | .kt xs, h => by simpa [D.pyR, PyData.showable] using D.okRs_sho xs h
  | .dK es, h => by
    have h : isD00 es = true := h
    simp only [D.pyR, if_pos h]
    decide +kernel
  | .fK _, h => by cases h
  | .fT _, h => by cases h
  | .fN _, h => by cases h
  | .exc _ _ _, h => by cases h
  | .exc0 _, h => by cases h
  | .raw _, h => by cases h
  | .scr _, h => by cases h
  | .fn _ _, h => by cases h
theorem D.okRs_sho : ∀ ds : List D, D.okRs ds = true → PyData.showableAll (D.pyRs ds) = true
  | [], _ => by simp [D.pyRs, PyData.showableAll]
  | d :: ds, h => by
    obtain ⟨h1, h2⟩ := okRs_cons h
    simp [D.pyRs, PyData.showableAll, D.okR_sho d h1, D.okRs_sho ds h2]
end
theorem dictText_nil : (dictText []).length ≤ 5 := by decide +kernel
mutual
theorem D.szR_shown : ∀ d : D, d.okR = true → d.pyR.shown.length ≤ d.szR
  | .non, _ => by simp only [D.pyR, PyData.shown, D.szR]; decide +kernel
  | .bl b, _ => by cases b <;> simp only [D.pyR, PyData.shown, D.szR] <;> decide +kernel
  | .int i, h => by
    simp only [D.pyR, PyData.shown, D.szR]
    rw [ofString_length]
    exact int_text_length_le10 (k := 100) (by decide) (of_decide_eq_true h)
  | .str x, h => by
    simp only [D.pyR, PyData.shown, D.szR]
    refine StrLaws.reprText_len x fun c hc => ?_
    have h1 : x.cps.all (· < 0x110000) = true := h
    rw [Array.all_eq_true'] at h1
    have h2 := of_decide_eq_true (h1 c (by simpa using hc))
    exact Nat.lt_trans h2 (by decide)
  | .tup xs, h => by
    simp only [D.pyR, PyData.shown, D.szR]
    have q := D.szRs_shown xs h
    have z := join2_len ", " (PyData.shownAll (D.pyRs xs))
    have hz : ((", " : String) : Str).length = 2 := by decide +kernel
    rw [hz] at z
    unfold tupleText
    rw [Str.length_append, Str.length_append]
    have h1 : (("(" : String) : Str).length = 1 := by decide +kernel
    have h2 : (Str.ofString (if (PyData.shownAll (D.pyRs xs)).length == 1 then ",)" else ")")).length ≤ 2 := by split <;> decide +kernel
    omega
  | .lst xs, h => by
    simp only [D.pyR, PyData.shown, D.szR]
    have q := D.szRs_shown xs h
    have z := listText_len_le (PyData.shownAll (D.pyRs xs))
    have e : ((PyData.shownAll (D.pyRs xs)).map fun t => t.length + 2).sum = ((PyData.shownAll (D.pyRs xs)).map (·.length)).sum + 2 * (PyData.shownAll (D.pyRs xs)).length := by
      generalize PyData.shownAll (D.pyRs xs) = l
      induction l with
      | nil => rfl
      | cons a l ih => simp only [List.map_cons, List.sum_cons, List.length_cons, ih]; omega
    omega
  | .dT _, h => by simp only [D.pyR, PyData.shown, PyData.shownKv, D.szR]; exact dictText_nil
  | .kt xs, h => by
    simp only [D.pyR, PyData.shown, D.szR]
    have q := D.szRs_shown xs h
    have z := join2_len ", " (PyData.shownAll (D.pyRs xs))
    have hz : ((", " : String) : Str).length = 2 := by decide +kernel
    rw [hz] at z
    unfold tupleText
    rw [Str.length_append, Str.length_append]
    have h1 : (("(" : String) : Str).length = 1 := by decide +kernel
    have h2 : (Str.ofString (if (PyData.shownAll (D.pyRs xs)).length == 1 then ",)" else ")")).length ≤ 2 := by split <;> decide +kernel
    omega
  | .dK es, h => by
    have h : isD00 es = true := h
    simp only [D.pyR, D.szR, if_pos h]
    decide +kernel
  | .fK _, h => by cases h
  | .fT _, h => by cases h
  | .fN _, h => by cases h
  | .exc _ _ _, h => by cases h
  | .exc0 _, h => by cases h
  | .raw _, h => by cases h
  | .scr _, h => by cases h
  | .fn _ _, h => by cases h
theorem D.szRs_shown : ∀ ds : List D, D.okRs ds = true → ((PyData.shownAll (D.pyRs ds)).map fun t => t.length + 2).sum ≤ D.szRs ds
  | [], _ => by simp [D.pyRs, PyData.shownAll, D.szRs]
  | d :: ds, h => by
    obtain ⟨h1, h2⟩ := okRs_cons h
    have a := D.szR_shown d h1
    have b := D.szRs_shown ds h2
    simp only [D.pyRs, PyData.shownAll, List.map_cons, List.sum_cons, D.szRs]
    omega
end
mutual
theorem D.okR_rep : ∀ d : D, d.okR = true → PyData.strOk d.pyR.shown = true
  | .non, _ => by simp only [D.pyR, PyData.shown]; exact strOk_lit _
  | .bl b, _ => by simp only [D.pyR, PyData.shown]; split <;> exact strOk_lit _
  | .int i, _ => by simp only [D.pyR, PyData.shown]; exact strOk_lit _
  | .str x, h => by simp only [D.pyR, PyData.shown]; exact strOk_repr h
  | .tup xs, h => by
    simp only [D.pyR, PyData.shown]
    unfold tupleText
    exact strOk_append (strOk_append (strOk_lit _) (strOk_join (strOk_lit _) _ (D.okRs_rep xs h))) (strOk_lit _)
  | .lst xs, h => by
    simp only [D.pyR, PyData.shown]
    rw [listText_eq_join]
    exact strOk_append (strOk_append (strOk_lit _) (strOk_join (strOk_lit _) _ (D.okRs_rep xs h))) (strOk_lit _)
  | .dT _, h => by simp only [D.pyR, PyData.shown, PyData.shownKv]; decide +kernel
  | .kt xs, h => by
    simp only [D.pyR, PyData.shown]
    unfold tupleText
    exact strOk_append (strOk_append (strOk_lit _) (strOk_join (strOk_lit _) _ (D.okRs_rep xs h))) (strOk_lit _)
  | .dK es, h => by
    have h : isD00 es = true := h
    simp only [D.pyR, if_pos h]
    decide +kernel
  | .fK _, h => by cases h
  | .fT _, h => by cases h
  | .fN _, h => by cases h
  | .exc _ _ _, h => by cases h
  | .exc0 _, h => by cases h
  | .raw _, h => by cases h
  | .scr _, h => by cases h
  | .fn _ _, h => by cases h
theorem D.okRs_rep : ∀ ds : List D, D.okRs ds = true → ∀ t ∈ PyData.shownAll (D.pyRs ds), PyData.strOk t = true
  | [], _ => by simp [D.pyRs, PyData.shownAll]
  | d :: ds, h => by
    obtain ⟨h1, h2⟩ := okRs_cons h
    intro t ht
    simp only [D.pyRs, PyData.shownAll, List.mem_cons] at ht
    rcases ht with rfl | ht
    · exact D.okR_rep d h1
    · exact D.okRs_rep ds h2 t ht
end
/-- small, for repr: n signs, not deeper than k -/
structure D.smR (k n : Nat) (d : D) : Prop where
  ok : d.okR = true
  sz : d.szR ≤ n
  de : d.deR ≤ k
structure D.smRs (k n : Nat) (ds : List D) : Prop where
  ok : D.okRs ds = true
  sz : D.szRs ds ≤ n
  de : D.deRs ds ≤ k
theorem D.smR.mono {k n k' n' : Nat} {d : D} (h : d.smR k n) (hk : k ≤ k') (hn : n ≤ n') : d.smR k' n' := ⟨h.ok, Nat.le_trans h.sz hn, Nat.le_trans h.de hk⟩
theorem D.smRs.mono {k n k' n' : Nat} {d : List D} (h : D.smRs k n d) (hk : k ≤ k') (hn : n ≤ n') : D.smRs k' n' d := ⟨h.ok, Nat.le_trans h.sz hn, Nat.le_trans h.de hk⟩
theorem D.smRs.nil {k n : Nat} : D.smRs k n [] := ⟨rfl, Nat.zero_le _, Nat.zero_le _⟩
theorem D.smRs.cons {k n m : Nat} {d : D} {ds : List D} (h : d.smR k n) (hs : D.smRs k m ds) : D.smRs k (n + 2 + m) (d :: ds) :=
  ⟨by show (d.okR && D.okRs ds) = true; rw [h.ok, hs.ok]; rfl, by have := h.sz; have := hs.sz; show d.szR + 2 + D.szRs ds ≤ _; omega, Nat.max_le.mpr ⟨h.de, hs.de⟩⟩
theorem D.smRs.all {k n m : Nat} : ∀ {ds : List D}, (∀ d ∈ ds, d.smR k n) → ds.length ≤ m → D.smRs k ((n + 2) * m) ds
  | [], _, _ => .nil
  | d :: ds, h, hl => by
    cases m with
    | zero => simp at hl
    | succ m =>
      have q := D.smRs.cons (h d List.mem_cons_self) (D.smRs.all (m := m) (fun z hz => h z (List.mem_cons_of_mem _ hz)) (by simpa using hl))
      refine ⟨q.ok, Nat.le_trans q.sz ?_, q.de⟩
      rw [Nat.mul_succ]; omega
theorem D.smR.tup {k n : Nat} {ds : List D} (h : D.smRs k n ds) : (D.tup ds).smR (k + 1) (n + 5) := ⟨h.ok, by have := h.sz; show D.szRs ds + 5 ≤ _; omega, by have := h.de; show D.deRs ds + 1 ≤ _; omega⟩
theorem D.smR.lst {k n : Nat} {ds : List D} (h : D.smRs k n ds) : (D.lst ds).smR (k + 1) (n + 5) := ⟨h.ok, by have := h.sz; show D.szRs ds + 5 ≤ _; omega, by have := h.de; show D.deRs ds + 1 ≤ _; omega⟩
theorem D.smR.kt {k n : Nat} {ds : List D} (h : D.smRs k n ds) : (D.kt ds).smR (k + 1) (n + 5) := ⟨h.ok, by have := h.sz; show D.szRs ds + 5 ≤ _; omega, by have := h.de; show D.deRs ds + 1 ≤ _; omega⟩
theorem D.smR.int {k : Nat} {i : Int} (h : i.natAbs < 10 ^ 100) : (D.int i).smR k 101 := ⟨decide_eq_true h, Nat.le_refl _, Nat.zero_le _⟩
theorem D.smR.str {k n : Nat} {x : Str} (h : PyData.strOk x = true) (hn : x.length ≤ n) : (D.str x).smR k (10 * n + 2) := ⟨h, by show 10 * x.length + 2 ≤ _; omega, Nat.zero_le _⟩
theorem D.smR.non {k : Nat} : D.non.smR k 5 := ⟨rfl, Nat.le_refl _, Nat.zero_le _⟩
theorem D.smR.bl {k : Nat} {b : Bool} : (D.bl b).smR k 5 := ⟨rfl, Nat.le_refl _, Nat.zero_le _⟩
def D.repR (d : D) : Str := d.pyR.shown
theorem D.smR.rep {k n : Nat} {d : D} (h : d.smR k n) : PyData.strOk d.repR = true := D.okR_rep d h.ok
section
variable {X : Cx} {pins : List (Addr × Obj)} {s : Shared}
theorem emp_at (I : Inv X pins σ H s) (ex : Sb S H) {a : Addr} {kvs : List (List Key × V)} (h : S a = some (.dT kvs)) (e : kvs = []) : (a == sysModules) = false ∧ ∃ o n, s.heap.get? a = some o ∧ o.cls = .type "dict" ∧ o.data = .dict #[] n := by
  subst e
  obtain ⟨_, hs, xs, r, o, es, ep, h1, h2, h3, h4, _⟩ := dt_of I.hok (ex _ _ h)
  cases r
  have hz : es.toList.length = 0 := by
    have := congrArg List.length h4
    simpa using this
  have he : es = #[] := by
    cases es with
    | mk l => cases l with
      | nil => rfl
      | cons a b => simp at hz
  subst he
  exact ⟨hs, o, ep, h1, h2.1, h3⟩
theorem d00_at (I : Inv X pins σ H s) (ex : Sb S H) {a : Addr} {kvs : List (Key × V)} (hs : S a = some (.dK kvs)) (hk : kvs.map (·.1) = [(Sum.inl 0 : Key)]) (ha : DnA X.K S (kvs.map (·.2)) [D.int 0]) :
    (a == sysModules) = false ∧ ∃ o es ep e t1 t2, s.heap.get? a = some o ∧ o.cls = .type "dict" ∧ o.data = .dict es ep ∧ es.toList = [e] ∧ e.key = .int 0 t1 ∧ e.val = .int 0 t2 := by
  obtain ⟨v, e2⟩ : ∃ v, kvs = [(.inl 0, v)] := by
    match kvs, hk with
    | [(k, v)], hk =>
      simp only [List.map_cons, List.map_nil, List.cons.injEq, and_true] at hk
      exact ⟨v, by rw [hk]⟩
  subst e2
  have hv : v = .int 0 := by
    cases ha with
    | cons h1 _ => cases h1; rfl
  subst hv
  obtain ⟨_, hsys, vs, kv, o, es, ep, h1, h2, h3, _, pr, _⟩ := dk_of I.hok (ex _ _ hs)
  obtain ⟨q, qs, rfl, hq, hqs⟩ : ∃ q qs, vs = q :: qs ∧ ((Sum.inl 0 : Key) = q.1 ∧ RelV (.int 0) q.2) ∧ qs = [] := by
    cases kv with
    | cons h t => cases t; exact ⟨_, _, rfl, h, rfl⟩
  subst hqs
  obtain ⟨e, hes, he1, he2⟩ : ∃ e, es.toList = [e] ∧ (mixKind X.prog X.w).is q.1 e.key = true ∧ e.val = q.2 := by
    generalize es.toList = l at pr
    cases pr with
    | cons a b t => cases t; exact ⟨_, rfl, a, b⟩
  rw [← hq.1, mixKind_is] at he1
  obtain ⟨t1, hkey⟩ : ∃ t, e.key = .int 0 t := by
    rcases keyIs_shape he1 with ⟨i, t, e3, e4⟩ | ⟨x, t, e3, e4⟩
    · cases e3; exact ⟨t, e4⟩
    · cases e3
  obtain ⟨t2, hval⟩ : ∃ t, e.val = .int 0 t := by
    obtain ⟨t, ht⟩ := hq.2
    exact ⟨t, by rw [he2]; exact ht⟩
  exact ⟨hsys, o, es, ep, e, t1, t2, h1, h2.1, h3, hes, hkey, hval⟩
theorem d00_reads {h : Heap} {a : Addr} {o : Obj} {es : Array DictEntry} {ep : Nat} {e : DictEntry} {t1 t2 : Tok} (h1 : h.get? a = some o) (h2 : o.cls = .type "dict") (h3 : o.data = .dict es ep) (hes : es.toList = [e]) (hkey : e.key = .int 0 t1) (hval : e.val = .int 0 t2) :
    Reads h (.ref a) (.dict [(.int 0, .int 0)]) (a :: ([] ++ []) ++ ([] ++ [])) := by
  refine .dict h1 h2 h3 ?_ ?_
  · rw [hes, List.map_cons, hkey]
    exact .cons (.int 0 t1) .nil
  · rw [hes, List.map_cons, hval]
    exact .cons (.int 0 t2) .nil
mutual
theorem reprK_D {prog : Program} {w : World} (I : Inv X pins σ H s) (ex : Sb S H) : ∀ (d : D) (v : V) (u : Value), Dn X.K S v d → RelV v u → d.okR = true → d.szR ≤ sizeLine →
    (∃ as, Reads s.heap u d.pyR as) ∧ ∃ bs, ReadAtMost s.heap d.pyR.depth bs ∧ ReprK prog w bs s.heap d.pyR.depth u d.pyR.shown
  | .non, _, _, h, r, _, _ => by
    cases h; cases r
    exact ⟨⟨_, .none⟩, [], (fun _ h => nomatch h), by simp only [D.pyR, PyData.shown]; exact .of_is ReprIs.none _ _ _⟩
  | .bl b, _, _, h, r, _, _ => by
    cases h; cases r
    exact ⟨⟨_, .bool b⟩, [], (fun _ h => nomatch h), by simp only [D.pyR, PyData.shown]; exact .of_is (ReprIs.bool b) _ _ _⟩
  | .int i, _, _, h, r, ok, _ => by
    cases h; obtain ⟨t, rfl⟩ := r
    exact ⟨⟨_, .int i t⟩, [], (fun _ h => nomatch h), by simp only [D.pyR, PyData.shown]; exact .of_is (ReprIs.int t (by simpa [D.pyR, PyData.showable] using D.okR_sho (.int i) ok)) _ _ _⟩
  | .str x, _, _, h, r, ok, z => by
    cases h; obtain ⟨t, rfl⟩ := r
    exact ⟨⟨_, .str x t⟩, [], (fun _ h => nomatch h), by
      simp only [D.pyR, PyData.shown]
      exact .of_is (ReprIs.str x t (by have := D.szR_shown (.str x) ok; simp only [D.pyR, PyData.shown] at this; exact Nat.le_trans this z)) _ _ _⟩
  | .tup xs, _, _, h, r, ok, z => by
    cases h with
    | @tup a vs _ hs ha =>
      cases r
      obtain ⟨its, rv, ⟨o, h1, h2, n, h3⟩, _⟩ := I.tuple (SqT.of (ex _ _ hs))
      have z' : D.szRs xs + 5 ≤ sizeLine := z
      obtain ⟨⟨as, h4⟩, bs, hb, hk⟩ := reprK_Ds (prog := prog) (w := w) I ex xs vs its ha rv ok (by omega)
      have r : Reads s.heap (.ref a) (.tuple (D.pyRs xs)) _ := .tuple h1 h2 h3 h4
      have hna : a ∉ bs := not_mem_of_deeper r (by simp only [PyData.depth]; omega) hb
      refine ⟨⟨_, by simp only [D.pyR]; exact r⟩, a :: bs, ?_, ?_⟩
      · simp only [D.pyR]; exact ReadAtMost.cons r (by simp only [PyData.depth]; omega) hb
      · simp only [D.pyR, PyData.depth, PyData.shown]
        exact ReprK.tuple h1 h2 h3 hna hk
  | .lst xs, _, _, h, r, ok, z => by
    cases h with
    | @lst a vs _ hs ha =>
      cases r
      obtain ⟨its, rv, ⟨o, n, h1, h2, _, h3⟩, _⟩ := I.list (SqL.of (ex _ _ hs))
      have z' : D.szRs xs + 5 ≤ sizeLine := z
      obtain ⟨⟨as, h4⟩, bs, hb, hk⟩ := reprK_Ds (prog := prog) (w := w) I ex xs vs its ha rv ok (by omega)
      have r : Reads s.heap (.ref a) (.list (D.pyRs xs)) _ := .list h1 h2 h3 h4
      have hna : a ∉ bs := not_mem_of_deeper r (by simp only [PyData.depth]; omega) hb
      refine ⟨⟨_, by simp only [D.pyR]; exact r⟩, a :: bs, ?_, ?_⟩
      · simp only [D.pyR]; exact ReadAtMost.cons r (by simp only [PyData.depth]; omega) hb
      · simp only [D.pyR, PyData.depth, PyData.shown]
        cases its with
        | nil =>
          generalize D.pyRs xs = ys at h4
          cases h4
          simp only [PyData.shownAll, listText_nil]
          exact ReprK.listEmpty h1 h2 h3
        | cons x l => exact ReprK.list h1 h2 h3 hna (by simpa using hk.length_eq) (fun i y e => hk.item i y (by simpa using e))
  | .dT es, _, _, h, r, ok, z => by
    cases h with
    | @dT a kvs _ hs hk ha =>
      cases r
      have e1 : es = [] := by simpa [D.okR] using ok
      subst e1
      obtain ⟨hsys, o, n, h1, h2, h3⟩ := emp_at I ex hs (by simpa using hk)
      have r : Reads s.heap (.ref a) (.dict []) _ := .dict h1 h2 h3 .nil .nil
      refine ⟨⟨_, by simp only [D.pyR]; exact r⟩, a :: [], ?_, ?_⟩
      · simp only [D.pyR]; exact ReadAtMost.cons (n := 0) r (Nat.zero_le _) fun _ h => nomatch h
      · simp only [D.pyR, PyData.depth, PyData.depthKv, PyData.shown, PyData.shownKv]
        exact ReprK.dict h1 h2 h3 hsys (fun h => nomatch h) .nil
  | .kt xs, _, _, h, r, ok, z => by
    cases h with
    | @kt a vs _ hs ha =>
      cases r
      obtain ⟨its, rv, ⟨o, h1, h2, n, h3⟩, _⟩ := I.tuple (hs.sqT ex)
      have z' : D.szRs xs + 5 ≤ sizeLine := z
      obtain ⟨⟨as, h4⟩, bs, hb, hk⟩ := reprK_Ds (prog := prog) (w := w) I ex xs vs its ha rv ok (by omega)
      have r : Reads s.heap (.ref a) (.tuple (D.pyRs xs)) _ := .tuple h1 h2 h3 h4
      have hna : a ∉ bs := not_mem_of_deeper r (by simp only [PyData.depth]; omega) hb
      refine ⟨⟨_, by simp only [D.pyR]; exact r⟩, a :: bs, ?_, ?_⟩
      · simp only [D.pyR]; exact ReadAtMost.cons r (by simp only [PyData.depth]; omega) hb
      · simp only [D.pyR, PyData.depth, PyData.shown]
        exact ReprK.tuple h1 h2 h3 hna hk
  | .dK es, _, _, h, r, ok, z => by
    have ok : isD00 es = true := ok
    cases h with
    | @dK a kvs _ hs hk ha =>
      cases r
      have e1 := isD00_eq ok
      subst e1
      obtain ⟨hsys, o, es, ep, e, t1, t2, h1, h2, h3, hes, hkey, hval⟩ := d00_at I ex hs hk ha
      have r := d00_reads h1 h2 h3 hes hkey hval
      refine ⟨⟨_, by simp only [D.pyR, if_pos ok]; exact r⟩, a :: [], ?_, ?_⟩
      · simp only [D.pyR, if_pos ok]; exact ReadAtMost.cons (n := 0) r (by simp [PyData.depth, PyData.depthKv]) fun _ h => nomatch h
      · have hi : (PyData.int 0).showable = true := by decide +kernel
        have k1 : ReprK prog w [] s.heap 0 e.key (PyData.int 0).shown := by rw [hkey]; exact .of_is (ReprIs.int t1 (by simpa [PyData.showable] using hi)) _ _ _
        have k2 : ReprK prog w [] s.heap 0 e.val (PyData.int 0).shown := by rw [hval]; exact .of_is (ReprIs.int t2 (by simpa [PyData.showable] using hi)) _ _ _
        have hE : ReprEntriesK prog w [] s.heap 0 es.toList [(PyData.int 0).shown ++ ": " ++ (PyData.int 0).shown] := by rw [hes]; exact .cons k1 k2 .nil
        have := ReprK.dict h1 h2 h3 hsys (fun h => (by cases h)) hE
        simp only [D.pyR, if_pos ok]
        simpa [PyData.depth, PyData.depthKv, PyData.shown, PyData.shownKv] using this
  | .fK _, _, _, _, _, h, _ => by cases h
  | .fT _, _, _, _, _, h, _ => by cases h
  | .fN _, _, _, _, _, h, _ => by cases h
  | .exc _ _ _, _, _, _, _, h, _ => by cases h
  | .exc0 _, _, _, _, _, h, _ => by cases h
  | .raw _, _, _, _, _, h, _ => by cases h
  | .scr _, _, _, _, _, h, _ => by cases h
  | .fn _ _, _, _, _, _, h, _ => by cases h
theorem reprK_Ds {prog : Program} {w : World} (I : Inv X pins σ H s) (ex : Sb S H) : ∀ (ds : List D) (vs : List V) (us : List Value), DnA X.K S vs ds → Vals vs us → D.okRs ds = true → D.szRs ds ≤ sizeLine →
    (∃ as, ReadsAll s.heap us (D.pyRs ds) as) ∧ ∃ bs, ReadAtMost s.heap (PyData.depthAll (D.pyRs ds)) bs ∧ ReprAllK prog w bs s.heap (PyData.depthAll (D.pyRs ds)) us (PyData.shownAll (D.pyRs ds))
  | [], _, _, h, r, _, _ => by
    cases h; cases r
    exact ⟨⟨_, by simp only [D.pyRs]; exact .nil⟩, [], (fun _ h => nomatch h), by simp only [D.pyRs, PyData.shownAll]; exact .nil⟩
  | d :: ds, _, _, h, r, ok, z => by
    cases h with
    | cons g1 g2 =>
      cases r with
      | cons r1 r2 =>
        obtain ⟨o1, o2⟩ := okRs_cons ok
        have z' : d.szR + 2 + D.szRs ds ≤ sizeLine := z
        obtain ⟨⟨a1, q1⟩, b1, hb1, k1⟩ := reprK_D (prog := prog) (w := w) I ex d _ _ g1 r1 o1 (by omega)
        obtain ⟨⟨a2, q2⟩, b2, hb2, k2⟩ := reprK_Ds (prog := prog) (w := w) I ex ds _ _ g2 r2 o2 (by omega)
        refine ⟨⟨_, by simp only [D.pyRs]; exact .cons q1 q2⟩, b1 ++ b2, ?_, ?_⟩
        · simp only [D.pyRs, PyData.depthAll]
          exact (hb1.mono (Nat.le_max_left _ _)).append (hb2.mono (Nat.le_max_right _ _))
        · simp only [D.pyRs, PyData.depthAll, PyData.shownAll]
          exact .cons ((k1.more fun b hb => List.mem_append_left _ hb).level_le (Nat.le_max_left _ _)) (k2.more_le (fun b hb => List.mem_append_right _ hb) (Nat.le_max_right _ _))
end
def rReprX : DRC := fun xs Q => match xs with | [d] => d.smR 64 (2 ^ 20) ∧ Q (.str d.repR) | _ => False
theorem cd_reprX (hg : X.A.guards = some []) (hu : X.A.units + 66 < cLine) : CallR X (.builtin "repr") (liftC X.K rReprX) := fun pins s σ H vs us Q I r ⟨S, ds, Q', ex, n, q, post⟩ => by
  match ds, n, q with
  | [d], n, q =>
    obtain ⟨v, rfl, n1⟩ := n.one
    obtain ⟨u, rfl, ru⟩ := vals1 r
    obtain ⟨⟨ok, z, de⟩, q⟩ := q
    have fin : ∀ h' u tk, (∀ b o, s.heap.get? b = some o → h'.get? b = some o) → EP X pins σ Q (.str d.repR u) { s with heap := h', toks := tk } := fun h' u tk k => ⟨.str d.repR, H, I.kept k, ⟨_, rfl⟩, post _ _ _ _ q (Grow.refl ex) (.str _)⟩
    have keep0 : ∀ b o, s.heap.get? b = some o → s.heap.get? b = some o := fun _ _ e => e
    have szz : d.repR.length ≤ sizeLine := Nat.le_trans (D.szR_shown d ok) (Nat.le_trans z (by rw [sizeLine_eq]; decide))
    match d, n1, ok, z, de, fin, szz with
    | .non, n1, ok, z, de, fin, szz => cases n1; cases ru; exact P.repr_of_none (fin _ _ _ keep0)
    | .bl b, n1, ok, z, de, fin, szz => cases n1; cases ru; exact P.repr_of_bool (fin _ _ _ keep0)
    | .int i, n1, ok, z, de, fin, szz => cases n1; obtain ⟨t, rfl⟩ := ru; exact P.repr_of_int (log2_ofR (of_decide_eq_true ok)) (fin _ _ _ keep0)
    | .str x, n1, ok, z, de, fin, szz => cases n1; obtain ⟨t, rfl⟩ := ru; exact P.repr_of_str (fin _ _ _ keep0) (hsz := szz)
    | .tup xs, n1, ok, z, de, fin, szz =>
      cases n1 with
      | @tup a vs _ hs ha =>
        cases ru
        obtain ⟨its, rv, ⟨o, h1, h2, n, h3⟩, _⟩ := I.tuple (SqT.of (ex _ _ hs))
        have z' : D.szRs xs + 5 ≤ 2 ^ 20 := z
        obtain ⟨⟨as, h4⟩, bs, hb, hk⟩ := reprK_Ds (prog := X.prog) (w := X.w) I ex xs vs its (ha) rv ok (by rw [sizeLine_eq]; omega)
        have rr : Reads s.heap (.ref a) (.tuple (D.pyRs xs)) _ := .tuple h1 h2 h3 h4
        have na : a ∉ bs := not_mem_of_deeper rr (by simp only [PyData.depth]; omega) hb
        have hd : PyData.depthAll (D.pyRs xs) + 1 ≤ 64 := by rw [D.pyRs_de]; exact de
        refine call_repr_slot (by omega) ⟨o, h1, h2⟩ F.slot_tuple_repr ?_
        have e0 : (D.tup xs).repR = tupleText (PyData.shownAll (D.pyRs xs)) := by simp only [D.repR, D.pyR, PyData.shown]
        rw [e0] at fin szz
        exact call_tuple_reprK h1 h2 h3 na hk (A := X.A.in1) hg (fun b _ => Clear.nil b) (by show X.A.units + 1 + _ < _; omega) keep0 (fun h' u tk k => ⟨_, _, rfl, fin h' u tk k⟩) szz
    | .kt xs, n1, ok, z, de, fin, szz =>
      cases n1 with
      | @kt a vs _ hs ha =>
        cases ru
        obtain ⟨its, rv, ⟨o, h1, h2, n, h3⟩, _⟩ := I.tuple (hs.sqT ex)
        have z' : D.szRs xs + 5 ≤ 2 ^ 20 := z
        obtain ⟨⟨as, h4⟩, bs, hb, hk⟩ := reprK_Ds (prog := X.prog) (w := X.w) I ex xs vs its (ha) rv ok (by rw [sizeLine_eq]; omega)
        have rr : Reads s.heap (.ref a) (.tuple (D.pyRs xs)) _ := .tuple h1 h2 h3 h4
        have na : a ∉ bs := not_mem_of_deeper rr (by simp only [PyData.depth]; omega) hb
        have hd : PyData.depthAll (D.pyRs xs) + 1 ≤ 64 := by rw [D.pyRs_de]; exact de
        refine call_repr_slot (by omega) ⟨o, h1, h2⟩ F.slot_tuple_repr ?_
        have e0 : (D.kt xs).repR = tupleText (PyData.shownAll (D.pyRs xs)) := by simp only [D.repR, D.pyR, PyData.shown]
        rw [e0] at fin szz
        exact call_tuple_reprK h1 h2 h3 na hk (A := X.A.in1) hg (fun b _ => Clear.nil b) (by show X.A.units + 1 + _ < _; omega) keep0 (fun h' u tk k => ⟨_, _, rfl, fin h' u tk k⟩) szz
    | .lst xs, n1, ok, z, de, fin, szz =>
      cases n1 with
      | @lst a vs _ hs ha =>
        cases ru
        obtain ⟨its, rv, ⟨o, n, h1, h2, _, h3⟩, _⟩ := I.list (SqL.of (ex _ _ hs))
        have z' : D.szRs xs + 5 ≤ 2 ^ 20 := z
        obtain ⟨⟨as, h4⟩, bs, hb, hk⟩ := reprK_Ds (prog := X.prog) (w := X.w) I ex xs vs its (ha) rv ok (by rw [sizeLine_eq]; omega)
        have rr : Reads s.heap (.ref a) (.list (D.pyRs xs)) _ := .list h1 h2 h3 h4
        have na : a ∉ bs := not_mem_of_deeper rr (by simp only [PyData.depth]; omega) hb
        have hd : PyData.depthAll (D.pyRs xs) + 1 ≤ 64 := by rw [D.pyRs_de]; exact de
        refine call_repr_slot (by omega) ⟨o, h1, h2⟩ F.slot_list_repr.toG ?_
        have e0 : (D.lst xs).repR = listText (PyData.shownAll (D.pyRs xs)) := by simp only [D.repR, D.pyR, PyData.shown]
        rw [e0] at fin szz
        cases its with
        | nil =>
          generalize D.pyRs xs = ys at h4 fin
          cases h4
          simp only [PyData.shownAll, listText_nil] at fin
          exact call_list_repr_empty ⟨o, h1, h2⟩ h1 h3 ⟨_, _, rfl, fin s.heap _ _ keep0⟩
        | cons y l =>
          exact call_list_reprK h1 h2 h3 na (by simpa using hk.length_eq) (fun i z e => hk.item i z (by simpa using e)) (A := X.A.in1) hg (fun b _ => Clear.nil b) (by show X.A.units + 1 + _ < _; omega) keep0 (fun h' u tk k => ⟨_, _, rfl, fin h' u tk k⟩) szz
    | .dK es, n1, ok, z, de, fin, szz =>
      have ok : isD00 es = true := ok
      cases n1 with
      | @dK a kvs _ hs hk ha =>
        cases ru
        have e1 := isD00_eq ok
        subst e1
        obtain ⟨hsys, o, es, ep, e, t1, t2, h1, h2, h3, hes, hkey, hval⟩ := d00_at I ex hs hk ha
        have rr := d00_reads h1 h2 h3 hes hkey hval
        have e0 : (D.dK [(.inl 0, .int 0)]).repR = PyData.shown (.dict [(.int 0, .int 0)]) := by simp only [D.repR, D.pyR, if_pos ok]
        rw [e0] at fin szz
        have hna : sysModules ∉ (a :: ([] ++ []) ++ ([] ++ []) : List Addr) := fun hm => by
          have hm : sysModules = a := by simpa using hm
          rw [← hm] at hsys; simp at hsys
        exact repr_of_reads' rr (by decide +kernel) (fun _ => hna) hg (by simp only [PyData.depth, PyData.depthKv]; omega) keep0 (fun h' u tk k => fin h' u tk k) szz
    | .dT es, n1, ok, z, de, fin, szz =>
      cases n1 with
      | @dT a kvs _ hs hk ha =>
        cases ru
        have e1 : es = [] := by simpa [D.okR] using ok
        subst e1
        obtain ⟨hsys, o, n, h1, h2, h3⟩ := emp_at I ex hs (by simpa using hk)
        have rr : Reads s.heap (.ref a) (.dict []) (a :: [] ++ []) := .dict (as := []) (bs := []) h1 h2 h3 .nil .nil
        have e0 : (D.dT []).repR = PyData.shown (.dict []) := by simp only [D.repR, D.pyR]
        rw [e0] at fin szz
        have hna : sysModules ∉ (a :: [] ++ [] : List Addr) := fun hm => by
          have hm : sysModules = a := by simpa using hm
          rw [← hm] at hsys; simp at hsys
        exact repr_of_reads' rr (by simp [PyData.showable, PyData.showableKv]) (fun _ => hna) hg (by simp only [PyData.depth, PyData.depthKv]; omega) keep0 (fun h' u tk k => fin h' u tk k) szz
end
end Ev
namespace Ev
open PySem PySem.Spec PyProof.Rows L2
variable [TabC]
variable {K : PySem.W.Frag} {S S' H H' : Hp} {B : Bs} {δ : DS} {σ : L2.St}
section
variable {X : Cx} {E : EK} {e a b c : Expr} {es : List Expr} {pos p ap cp : Pos} {da db dk dv : dE} {x : Str}
def rTupleN : DRC := fun xs Q => match xs with | [.lst ds] => Q (.kt ds) | _ => False
def rDictN : DRC := fun xs Q => match xs with
  | [.kt ds] => optQ (pairsOf ds) fun kvs => Q (.dK (mergeD [] kvs))
  | _ => False
end
end Ev
namespace Ev
open PySem PySem.Spec PyProof.Rows L2
variable [TabC]
variable {K : PySem.W.Frag} {S S' H H' : Hp} {B : Bs} {δ : DS} {σ : L2.St}
section
variable {X : Cx} {E : EK} {e a b c : Expr} {es : List Expr} {pos p ap cp p2 : Pos} {da db dk dv : dE} {x : Str}
/-- a tuple that is written, known to have no dict -/
def dTupN (r : dA) : dE := fun W δ Q => r W δ fun xs δ1 => xs.length ≤ sizeLine ∧ Q (.kt xs) δ1
def dSlN (d : dE) (lo hi : dO) : dE := fun W δ Q => d W δ fun x δ1 => lo W δ1 fun l δ2 => hi W δ2 fun h δ3 => match x with
  | .kt ds => Q (.kt (Ev.cutD ds l h)) δ3
  | _ => False
def rAddN : DR2 := fun x y Q => match x, y with
  | .kt i, .kt j => i.length + j.length ≤ sizeLine ∧ Q (.kt (i ++ j))
  | _, _ => False
/-- sorted of such a tuple -/
def rSrtN : DRF := fun xs Q => match xs with | [.kt ds] => srtOk ds ∧ Q (sortD ds) | _ => False
/-- dict(x) of a list, or of a tuple that has no dict -/
def rDictX : DRC := fun xs Q => match xs with
  | [.lst ds] => optQ (pairsOf ds) fun kvs => Q (.dK (mergeD [] kvs))
  | [.kt ds] => optQ (pairsOf ds) fun kvs => Q (.dK (mergeD [] kvs))
  | _ => False
end
end Ev
namespace Ev
open PySem PySem.Spec PyProof.Rows L2
variable [TabC]
variable {K : PySem.W.Frag} {S S' H H' : Hp} {B : Bs} {δ : DS} {σ : L2.St}
/-- the truth of what is no text and no dict -/
def truD : D → Option Bool
  | .non => some false
  | .bl b => some b
  | .int i => some (i != 0)
  | .tup ds => some (!ds.isEmpty)
  | .kt ds => some (!ds.isEmpty)
  | .lst ds => some (!ds.isEmpty)
  | _ => none
section
variable {X : Cx} {E : EK} {e a b : Expr} {pos : Pos} {da db : dE} {rest : List Expr}
def dOrX (x y : dE) : dE := fun W δ Q => x W δ fun d δ1 => match truD d with | some true => Q d δ1 | some false => y W δ1 Q | none => False
end
end Ev
namespace Ev
open PySem PySem.Spec PyProof.Rows L2
variable [TabC]
def RdE (δ : DS) (d : dE) (v : D) : Prop := ∀ Q : D → DS → Prop, Q v δ → d W0 δ Q
def RdA (δ : DS) (a : dA) (vs : List D) : Prop := ∀ Q : List D → DS → Prop, Q vs δ → a W0 δ Q
def RdF (δ : DS) (f : dF) (vs : List D) : Prop := ∀ Q : List D → DS → Prop, Q vs δ → f W0 δ Q
def RdO (δ : DS) (o : dO) (v : Option Int) : Prop := ∀ Q : Option Int → DS → Prop, Q v δ → o W0 δ Q
section
variable {δ : DS} {a b : dE} {r : dA} {f : dF} {v x y d : D} {vs ds : List D} {i : Nat} {j : Int} {lo hi : Option Int} {l h : dO}
theorem hundred {n : Nat} (h : n ≤ 100) : n ≤ sizeLine := by rw [sizeLine_eq]; omega
theorem rd_c : RdE δ (dC x) x := fun _ q => q
theorem rd_var (e : δ.sl[i]? = some (.dat d)) : RdE δ (dVar i) d := fun Q q => by unfold dVar; rw [e]; exact q
theorem rd_nil : RdA δ dNil [] := fun _ q => q
theorem rd_cons (ha : RdE δ a v) (hr : RdA δ r vs) : RdA δ (dCons a r) (v :: vs) := fun Q q => ha _ (hr _ q)
theorem rd_tup (hr : RdA δ r vs) (hl : vs.length ≤ 100) : RdE δ (dTup r) (.tup vs) := fun Q q => hr _ ⟨hundred hl, q⟩
theorem rd_lst (hr : RdA δ r vs) (hl : vs.length ≤ 100) : RdF δ (dLst r) vs := fun Q q => hr _ ⟨hundred hl, q⟩
theorem rd_fz (hf : RdF δ f vs) : RdE δ (dFz f) (.lst vs) := fun Q q => hf _ q
theorem rd_addI {m n : Int} (ha : RdE δ a (.int m)) (hb : RdE δ b (.int n)) : RdE δ (dBin rAddD a b) (.int (m + n)) := fun Q q => ha _ (hb _ q)
theorem rd_no : RdO δ oNone none := fun _ q => q
theorem rd_so (ha : RdE δ a (.int j)) : RdO δ (oSome a) (some j) := fun Q q => ha _ q
theorem rd_sl (ha : RdE δ a (.tup ds)) (hl : RdO δ l lo) (hh : RdO δ h hi) : RdE δ (dSlT a l h) (.tup (Ev.cutD ds lo hi)) := fun Q q => ha _ (hl _ (hh _ q))
theorem rd_listT (ha : RdE δ a (.tup ds)) : RdF δ (dCBF rList (dCons a dNil)) ds := fun Q q => ha _ q
theorem rd_revT (ha : RdE δ a (.tup ds)) : RdE δ (dRevX a) (.tup ds.reverse) := fun Q q => ha _ q
theorem rd_emp : RdE δ dEmptyV (.dT []) := fun _ q => q
variable {N : dEnds} {u : dS}
theorem go_set (ha : RdE δ a v) (q : u W0 N (setSl δ i (.dat v))) : dSeq (dSet i a) u W0 N δ := ha _ q
theorem go_setF (hf : RdF δ f vs) (q : u W0 N (setSl δ i (.own vs))) : dSeq (dSetF i f) u W0 N δ := hf _ q
theorem go_app (e : ownAt δ i = some ds) (ha : RdE δ a v) (hl : ds.length ≤ 100) (q : u W0 N (setOwnAt δ i (ds ++ [v]))) : dSeq (dApp i a) u W0 N δ := ⟨⟨ds, e⟩, ha _ (by show optQ (ownAt δ i) _; rw [e]; exact ⟨by rw [sizeLine_eq]; omega, q⟩)⟩
end
end Ev
namespace Ev
open PySem PySem.Spec PyProof.Rows L2
section
variable {P : Program} {w : World} {K : Type} [DecidableEq K] (knd : KeyKind P w K)
def Unlike (e f : Int × Value) : Prop := ∀ k, knd.is k e.2 = true → knd.is k f.2 = true → False
/-- the set at q: its members T, n of them; its table's places rise -/
def SetG (hp : Heap) (q : Addr) (T : K → Bool) (n : Nat) : Prop :=
  ∃ ob es ep tb, hp.get? q = some ob ∧ ob.ExactSet ∧ ob.data = .set es ep tb ∧ ElemsOf knd es.toList ∧ es.toList.Pairwise (Unlike knd) ∧ (∀ k, T k = true ↔ ∃ e ∈ es.toList, knd.is k e.2 = true) ∧
    es.size < scanBound ∧ tb.fits es.size = true ∧ es.size = n ∧ Ris tb.place.toList ∧ (w.params.followText "set-order" = true ∨ tb.led = true)
variable {knd}
theorem SetG.at {hp hp' : Heap} {q : Addr} {T : K → Bool} {n : Nat} (R : SetG knd hp q T n) (hk : ∀ ob, hp.get? q = some ob → hp'.get? q = some ob) : SetG knd hp' q T n := by
  obtain ⟨ob, es, ep, tb, h0, rest⟩ := R
  exact ⟨ob, es, ep, tb, hk ob h0, rest⟩
end
end Ev
namespace Ev
open PySem PySem.Spec PyProof.Rows L2
variable [TabC]
def D.nkey : D → Option NK
  | .int i => some (some i)
  | .non => some none
  | _ => none
section
variable {K : PySem.W.Frag} {S S' H H' : Hp} {B : Bs} {δ : DS} {σ : L2.St}
theorem Dn.nkey {u : V} {y : D} {k : NK} (n : Dn K S u y) (h : y.nkey = some k) : u = kN k := by
  cases n with
  | int i => cases h; rfl
  | non => cases h; rfl
  | _ => cases h
def nGet (δ : DS) (i : Nat) (y : D) : Option (Option D) := match δ.sl[i]? with
  | some (.ownN es) => y.nkey.map (valD es)
  | _ => none
def isNo (δ : DS) (i : Nat) : Prop := match δ.sl[i]? with
  | some (.ownN _) => True
  | _ => False
def nPut (δ : DS) (i : Nat) (y z : D) : Option DS := match δ.sl[i]? with
  | some (.ownN es) => match y.nkey with | some k => if es.length < sizeLine then some (setSl δ i (.ownN (putD es k z))) else none | none => none
  | _ => none
end
section
variable {X : Cx} {E : EK} {e a b c : Expr} {pos p : Pos} {da db : dE} {x : Str}
def dNGet (i : Nat) (d : dE) : dE := fun W δ Q => isNo δ i ∧ d W δ fun y δ1 => optQ (nGet δ1 i y) fun r => optQ r fun z => Q z δ1
def dNPut (i : Nat) (dk dv : dE) : dS := fun W N δ => dv W δ fun z δ1 => isNo δ1 i ∧ dk W δ1 fun y δ2 => optQ (nPut δ2 i y z) N.nx
/-- name = {i: j, None: None} -/
def dNewN (i : Nat) (j k : Int) : dS := fun _ N δ => N.nx (setSl δ i (.ownN [(some j, .int k), (none, .non)]))
end
end Ev
namespace Ev
open PySem PySem.Spec PyProof.Rows L2
variable [TabC]
variable {K : PySem.W.Frag} {S S' H H' : Hp} {B : Bs} {δ : DS} {σ : L2.St}
/-- zip(a, b) of a tuple and a list -/
def dZipM (d : dA) : dI := fun W δ Q => d W δ fun xs δ' => match xs with
  | [.kt ds, .lst es] => Q (zipD ds es) δ'
  | [.tup ds, .lst es] => Q (zipD ds es) δ'
  | _ => False
end Ev
namespace PySem
namespace KX
open PySem.W PySem.Calls PyProof.Rows PySem.HandSPX
abbrev keTail : List Value := [.type "KeyError", .type "LookupError", .type "Exception", .type "BaseException", .type "object"]
theorem FL : ExcBaseFacts "LookupError" "LookupError.__new__" "LookupError.__init__" [.type "LookupError", .type "Exception", .type "BaseException", .type "object"] := F.excBase_LookupError
theorem ke_initKind : builtinKind "KeyError.__init__" = some .slot := by kernel_rfl
theorem ke_initSplit : splitId "KeyError.__init__" = some ("KeyError", "__init__") := by kernel_rfl
theorem ke_initRow : Manifest.signature? "KeyError.__init__" = some ⟨.positional, "*", "KeyError", .self, [⟨"args", .varPos, false⟩]⟩ := by kernel_rfl
theorem ke_init : Slot "KeyError" "__init__" "KeyError.__init__" := excClass_KeyError.init
theorem ke_initEntry : entryFor table "KeyError.__init__" = some Builtin.«BaseException.__init__» := entryFor_alias (id' := "BaseException.__init__") (by rw [fastTable_eq_tree]; kernel_rfl) (by first | rfl | decide +kernel) (by decide +kernel) (by rw [fastTable_eq_tree]; kernel_rfl)
theorem ke_pass (self : Value) (C : Addr) : refuseLoop self "__setattr__" (.ref C :: keTail) = pure () := by
  rw [refuseLoop_ref]; kernel_rfl
section
variable {M : Model} {A : Around} {E : Value → Shared → Prop} {h : Heap} {g : Array GenState} {d : Drawn} {t : Nat} {os : OsState}
variable {nm q : Str} {C N : Addr} {bs bm : List Value} {hdct : Bool} {sn : List Str} {sub : List Value} {ab : Bool} {col : Option Bool} {dd : Option Addr} {k0 k1 k2 k3 k5 : Option Value}
theorem check_new_own (hT : bm = keTail) {rest : List Value} {Q : Unit → Shared → Prop}
    (hC : h.get? C = some (excClassObj nm q C N bs bm hdct sn sub ab col dd k0 k1 k2 k3 k5 "LookupError.__new__")) (hq : Q () ⟨h, g, d, t, os⟩) : wpAny M A (checkBuiltinCall "LookupError.__new__" ⟨.ref C :: rest, []⟩) Q E ⟨h, g, d, t, os⟩ := by
  have hcont : (Value.ref C :: bm).contains (.type "LookupError") = true := by rw [hT, List.contains_cons, (show keTail.contains (.type "LookupError") = true by decide +kernel), Bool.or_true]
  have hstar := FL.noStar
  simp only [checkBuiltinCall, FL.newKind, FL.newSplit, FL.newRow]
  repeat (first | refine wpAny_loadPart_at hC ?_ | (refine wpAny_isSubtype_exc hC ?_; rw [hcont]) | refine wpAny_staticBase_exc hC ?_ | refine wpAny_madeBy_exc hC ?_ | simp only [bne_self_eq_false, Bool.false_eq_true, if_false] | wp_step)
  exact hq
theorem check_init_own (hT : bm = keTail) {e : Addr} {oe : Obj} {rest : List Value} {Q : Unit → Shared → Prop}
    (hC : h.get? C = some (excClassObj nm q C N bs bm hdct sn sub ab col dd k0 k1 k2 k3 k5 "LookupError.__new__")) (he : h.get? e = some oe) (hcls : oe.cls = .ref C) (hq : Q () ⟨h, g, d, t, os⟩) :
    wpAny M A (checkBuiltinCall "KeyError.__init__" ⟨.ref e :: rest, []⟩) Q E ⟨h, g, d, t, os⟩ := by
  have hcB : (Value.ref C :: bm).contains (.type "KeyError") = true := by rw [hT, List.contains_cons, (show keTail.contains (.type "KeyError") = true by decide +kernel), Bool.or_true]
  have hshort : ("KeyError" != "*") = true := by decide +kernel
  simp only [checkBuiltinCall, ke_initKind, ke_initSplit, ke_initRow]
  repeat (first | (with_reducible refine wpAny_loadPart_at he ?_; rw [hcls]) | with_reducible refine wpAny_loadPart_at hC ?_ | (with_reducible refine wpAny_isSubtype_exc hC ?_; rw [hcB]) | wp_step)
  refine wpAny_onRaise ?_
  rw [show ∀ (a b : String) (n : Nat), Bind.check ⟨.positional, "*", "KeyError", .self, [⟨"args", .varPos, false⟩]⟩ a b n (List.map (fun x => x.fst) ({ pos := Value.ref e :: rest } : Args).kw) = pure () from
    fun a b n => check_star_args _ _ _ _ _ _]
  exact wpAny_pure hq
end
section
variable {prog : Program} {w : World} {A : Around} {E : Value → Shared → Prop} {R : Result → Shared → Prop} {h : Heap} {g : Array GenState} {d : Drawn} {t : Nat} {os : OsState}
variable {nm q : Str} {C N : Addr} {bs bm : List Value} {hdct : Bool} {sn : List Str} {sub : List Value} {ab : Bool} {col : Option Bool} {dd : Option Addr} {k0 k1 k2 k3 k5 : Option Value}
theorem new_own (hT : bm = keTail) {rest : List Value}
    (hC : h.get? C = some (excClassObj nm q C N bs bm hdct sn sub ab col dd k0 k1 k2 k3 k5 "LookupError.__new__"))
    (hq : R (.ok (.ret (.ref (h.objs.size + 1)))) ⟨(h.push { cls := .type "tuple", data := .seq rest.toArray }).push
      { cls := .ref C, data := .fields #[.ref h.objs.size, .none, .none, .none, .bool false, .none] }, g, d, t, os⟩) (hrest : rest.length ≤ sizeLine) :
    codeAny (model prog w) A (.builtin "LookupError.__new__" ⟨.ref C :: rest, []⟩) R ⟨h, g, d, t, os⟩ := by
  have hends := FL.ends
  have hcB : (Value.ref C :: bm).contains (.type "LookupError") = true := by rw [hT, List.contains_cons, (show keTail.contains (.type "LookupError") = true by decide +kernel), Bool.or_true]
  have hcA : (Value.ref C :: bm).contains (.type "AttributeError") = false := by rw [hT, List.contains_cons, (show keTail.contains (.type "AttributeError") = false by decide +kernel)]; rfl
  have hcN : (Value.ref C :: bm).contains (.type "NameError") = false := by rw [hT, List.contains_cons, (show keTail.contains (.type "NameError") = false by decide +kernel)]; rfl
  refine codeAny_builtinAt FL.entry ?_
  unfold Builtin.«BaseException.__new__»
  refine wpAt_bind ?_
  show wpAt _ _ _ (stack >>= _) _ _ _
  refine wpAt_bind (wpAt_stack fun p below => wpAt_of_wpAny ?_)
  wp_walk
  refine wpAt_of_wpAny ?_
  rw [FL.owner]
  repeat (first | with_reducible refine wpAny_madeHere_exc FL.canon hC ?_ | with_reducible refine wpAny_loadPart_at hC ?_ | (with_reducible refine wpAny_isSubtype_exc hC ?_; first | rw [hcB] | rw [hcA] | rw [hcN]) | wp_step)
  show R _ _
  rw [Heap.size_push]
  exact hq
theorem type_call_own (hT : bm = keTail) {rest : List Value} {fI : Addr} {Q : Fin → Shared → Prop}
    (hC : h.get? C = some (excClassObj nm q C N bs bm hdct sn sub ab col dd k0 k1 k2 k3 k5 "LookupError.__new__"))
    (hi : W.Looks (model prog w) h (typeLookup (.ref C) "__init__") (some (.ref fI))) (hb : ∀ self, W.Looks (model prog w) h (bindSpecial (.ref fI) self) (.ref fI, [self])) (hrest : rest.length ≤ sizeLine)
    (hq : codeAny (model prog w) A (.call (.ref fI) ⟨.ref (h.objs.size + 1) :: rest, []⟩)
      (fun r s' => match r with | .ok (.ret v) => v = .none ∧ Q (.done (.ret (.ref (h.objs.size + 1)))) s' | .ok _ => False | .error e => E e s')
      ⟨(h.push (W.kdv_tup rest)).push (excO C h.objs.size), g, d, t, os⟩) :
    wpAny (model prog w) A (Builtin.«type.__call__» ⟨.ref C :: rest, []⟩) Q E ⟨h, g, d, t, os⟩ := by
  repeat (first | with_reducible refine wpAny_loadPart_at hC ?_ | with_reducible refine wpAny_madeBy_exc hC ?_ | wp_step)
  refine codeAny_call_builtin_code (Code.quiet_builtin _ FL.quiet) (check_new_own hT hC ?_)
  refine new_own hT hC ?_ hrest
  show wpAny _ _ _ _ _ _
  have k : ∀ b o, h.get? b = some o → ((h.push (W.kdv_tup rest)).push (excO C h.objs.size)).get? b = some o := fun b o e => Heap.get?_push_of_some _ (Heap.get?_push_of_some _ e)
  have hC₁ := k _ _ hC
  have hget : ((h.push (W.kdv_tup rest)).push (excO C h.objs.size)).get? (h.objs.size + 1) = some (excO C h.objs.size) := by heap_get
  have hcC : (Value.ref C :: bm).contains (.ref C) = true := by simp
  have i1 := hi.keeps k
  have b1 := (hb (.ref (h.objs.size + 1))).keeps k
  unfold isInstance
  repeat (first | with_reducible refine wpAny_loadPart_at hget ?_ | (with_reducible refine wpAny_isSubtype_exc hC₁ ?_; rw [hcC]) | wp_step)
  show wpAny _ _ (typeLookup (.ref C) _) _ _ _
  refine i1.at ?_
  refine wpAny_holding (wpAny_bind (b1.at ?_))
  refine wpAny_bind (wpAny_call (codeAny_mono hq fun r s' z => ?_))
  rcases r with e | (v | _ | _ | _) <;> first | exact z | exact z.elim | skip
  obtain ⟨rfl, z⟩ := z
  first
    | exact wpAny_pure (wpAny_pure z)
    | (wp_walk; exact z)
theorem call_own (hT : bm = keTail) {rest : List Value} {fI : Addr}
    (hC : h.get? C = some (excClassObj nm q C N bs bm hdct sn sub ab col dd k0 k1 k2 k3 k5 "LookupError.__new__"))
    (hi : W.Looks (model prog w) h (typeLookup (.ref C) "__init__") (some (.ref fI))) (hb : ∀ self, W.Looks (model prog w) h (bindSpecial (.ref fI) self) (.ref fI, [self])) (hrest : rest.length ≤ sizeLine)
    (hq : codeAny (model prog w) (A.under (.builtin "type.__call__" ⟨.ref C :: rest, []⟩)) (.call (.ref fI) ⟨.ref (h.objs.size + 1) :: rest, []⟩) (W.InitBack (h.objs.size + 1) R)
      ⟨(h.push (W.kdv_tup rest)).push (excO C h.objs.size), g, d, t, os⟩) :
    codeAny (model prog w) A (.call (.ref C) ⟨rest, []⟩) R ⟨h, g, d, t, os⟩ := by
  have f1 := tc_lookup
  have f2 := tc_bind (.ref C)
  have hTy : (⟨h, g, d, t, os⟩ : Shared).TypeIs (.ref C) "type" := ⟨_, hC, rfl⟩
  refine codeAny_of_tree ?_
  show wpAny _ _ (callAny (.ref C) _) _ _ _
  repeat (any_goals (first | assumption | with_reducible refine wpAny_loadPart_at hC ?_ | wp_step))
  refine ⟨rfl, ?_⟩
  refine codeAny_call_builtin_at (Code.quiet_builtin _ (by decide +kernel)) entry_typeCall (wpAny_check_type_call_sub hC (type_call_own hT hC hi hb hrest ?_))
  refine codeAny_mono hq fun r s' z => ?_
  rcases r with e | (v | _ | _ | _) <;> exact z
/-- ValueError.__init__(e, ..): the args are laid anew -/
theorem init_base (hT : bm = keTail) {e t0 : Addr} {rest : List Value}
    (hC : h.get? C = some (excClassObj nm q C N bs bm hdct sn sub ab col dd k0 k1 k2 k3 k5 "LookupError.__new__")) (he : h.get? e = some (excO C t0)) (hrest : rest.length ≤ sizeLine)
    (hq : ∀ h' t1, (∀ b o, b ≠ e → h.get? b = some o → h'.get? b = some o) → h'.get? e = some (excO C t1) → R (.ok (.ret .none)) ⟨h', g, d, t, os⟩) :
    codeAny (model prog w) A (.call (.builtin "KeyError.__init__") ⟨.ref e :: rest, []⟩) R ⟨h, g, d, t, os⟩ := by
  refine codeAny_call_builtin ke_init.plain ke_initEntry (check_init_own hT hC he rfl ?_)
  wp_walk
  refine hq _ h.objs.size (fun b o hb ho => ?_) ?_
  · rw [Heap.get?_update_other _ _ (Ne.symm hb)]
    exact Heap.get?_push_of_some _ ho
  · rw [Heap.get?_update_self _ (Heap.get?_push_of_some _ he) rfl]
    rfl
end
section
open Builtin Builtin.ObjectAttr
variable {prog : Program} {w : World} {A : Around} {E : Value → Shared → Prop} {R : Result → Shared → Prop} {hp : Heap} {g : Array GenState} {d : Drawn} {t : Nat} {os : OsState}
theorem store_in_new {M : Model} {dx : Addr} {name : Str} {tk : Tok} {v : Value} {Q : Fin → Shared → Prop} (hnd : hp.Ns dx (fun _ => none))
    (hq : ∀ h' tk', h'.Ns1 dx (fun y => if y = name then some v else none) → Heap.SameBut dx hp h' → Q (.done (.ret .none)) ⟨h', g, d, tk', os⟩) :
    wpAny M A (storeInDict dx (.str name tk) name v) Q E ⟨hp, g, d, t, os⟩ := by
  unfold storeInDict newKeyGuard
  refine wpAny_bind (wpAny_pure (wpAny_bind (wpAny_nsSet1 (Heap.Ns1.of_empty hnd) fun h' hn' hs => ?_)))
  obtain ⟨oD, esD, epD, hoD, hdD, hcD⟩ := hn'.count (Within.cons name v Within.nil)
  refine wpAny_bind (wpAny_lookBehind hoD (by rw [hdD]; exact pastItsLine_dict (Nat.le_trans hcD (by rw [List.length_cons, List.length_nil, sizeLine_eq]; omega))) ?_)
  wp_walk
  exact hq h' _ hn' hs
theorem exc_osa {K : W.Frag} {name : Str} {tk : Tok} {v : Value} {x C : Addr} {fv : Array Value} {cd : ClassData}
    (X : K.In hp) (hx : hp.get? x = some { cls := .ref C, data := .fields fv }) (hcd : W.clsIn K C = some cd) (hm : cd.mro = .ref C :: keTail) (hh : cd.hasDict = true) (ha : W.findIn K (.ref C) name = some none)
    (hq : ∀ h' tk' dx, (∀ b o, b ≠ x → hp.get? b = some o → h'.get? b = some o) → hp.objs.size ≤ dx → dx ≠ x → h'.get? x = some { cls := .ref C, dict := some dx, data := .fields fv } →
      h'.Ns1 dx (fun y => if y = name then some v else none) → R (.ok (.ret .none)) ⟨h', g, d, tk', os⟩) :
    codeAny (model prog w) A (.call (.builtin "object.__setattr__") ⟨[.ref x, .str name tk, v], []⟩) R ⟨hp, g, d, t, os⟩ := by
  have I : W.InstAt hp x { cls := .ref C, data := .fields fv } C none := ⟨hx, rfl, rfl, trivial⟩
  have SF := F.store_object
  have ne : cd.mro.isEmpty = false := by rw [hm]; rfl
  have hob : cd.mro.contains (.type "object") = true := by rw [hm, List.contains_cons, (show keTail.contains (.type "object") = true by decide +kernel), Bool.or_true]
  have hxs : x ≠ hp.objs.size := Nat.ne_of_lt (Heap.lt_size hx)
  have sub : W.Looks (model prog w) hp (isInstance (.ref x) (.type "object")) true := I.type.andThen (W.looks_mroIn X (by unfold W.mroIn; rw [hcd, Option.bind_some, if_neg (by rw [ne]; decide), hob]))
  refine codeAny_call_builtin SF.slot.plain SF.entry (@W.check_slot (model prog w) _ _ ⟨hp, g, d, t, os⟩ "object.__setattr__" "object" "__setattr__" (.ref x) [.str name tk, v] [] _ SF.kind SF.split sub (SF.args (.ref x) (.str name tk) v) ?_)
  have hmr : W.Looks (model prog w) hp (mroOf (.ref C)) cd.mro := (W.looks_clsIn X hcd).andThen .now
  have L3 : W.Looks (model prog w) hp (storeTaker? none) none := .now
  have hcls : W.Looks (model prog w) hp (classData C) cd := W.looks_clsIn X hcd
  rw [W.osa_eq, refuse_eq]
  refine wpAny_bind (wpAny_bind (I.type.at (wpAny_bind (hmr.at ?_))))
  rw [hm, ke_pass]
  refine wpAny_pure (wpAny_bind (I.type.at (wpAny_bind ((W.looks_findIn X ha).at (wpAny_bind (L3.at ?_))))))
  show wpAny _ _ (storeInOwnDict (.ref x) (.ref C) (.str name tk) name v false) _ _ _
  obtain ⟨nm, bs, mro, ns, qn, hd, sn, sb, ab, col, del⟩ := cd
  dsimp only at hh
  subst hh
  unfold storeInOwnDict ownDictForStores
  repeat (first | with_reducible refine store_in_new ?_ ?_ | with_reducible refine wpAny_loadPart_at hx ?_ | with_reducible refine hcls.at ?_ | wp_step)
  · exact ⟨_, #[], _, (Heap.get?_update_ne _ _ _ _ hxs.symm).trans (Heap.get?_push_at rfl rfl), rfl, fun e he => absurd he (by simp), fun _ => rfl⟩
  · intro h' tk' hn' hs
    have hx₁ : (hp.push { cls := .type "dict", data := .dict #[] }).get? x = some { cls := .ref C, data := .fields fv } := Heap.get?_push_of_some _ hx
    refine hq h' tk' hp.objs.size (fun b o hb ho => ?_) (Nat.le_refl _) hxs.symm ?_ hn'
    · exact (hs.2 b (Nat.ne_of_lt (Heap.lt_size ho))).trans ((Heap.get?_update_ne _ _ _ _ hb).trans (Heap.get?_push_of_some _ ho))
    · exact (hs.2 x hxs).trans (Heap.get?_update_self _ hx₁ rfl)
theorem store_in_old {M : Model} {dx : Addr} {name : Str} {tk : Tok} {v : Value} {m0 : Str → Option Value} {ns : List Str} {Q : Fin → Shared → Prop} (hn : hp.Ns1 dx m0) (hw : Within m0 ns) (hz : ns.length ≤ 1000)
    (hq : ∀ h' tk', h'.Ns1 dx (fun y => if y = name then some v else m0 y) → Heap.SameBut dx hp h' → Q (.done (.ret .none)) ⟨h', g, d, tk', os⟩) :
    wpAny M A (storeInDict dx (.str name tk) name v) Q E ⟨hp, g, d, t, os⟩ := by
  unfold storeInDict newKeyGuard
  refine wpAny_bind (wpAny_pure (wpAny_bind (wpAny_nsSet1 hn fun h' hn' hs => ?_)))
  obtain ⟨oD, esD, epD, hoD, hdD, hcD⟩ := hn'.count (Within.cons name v hw)
  refine wpAny_bind (wpAny_lookBehind hoD (by rw [hdD]; exact pastItsLine_dict (Nat.le_trans hcD (by rw [List.length_cons, sizeLine_eq]; omega))) ?_)
  wp_walk
  exact hq h' _ hn' hs
/-- a further field of an exception that has its dict -/
theorem osa_old {K : W.Frag} {name : Str} {tk : Tok} {v : Value} {x C dx : Addr} {fv : Array Value} {cd : ClassData} {m0 : Str → Option Value} {nl : List Str}
    (X : K.In hp) (hx : hp.get? x = some { cls := .ref C, dict := some dx, data := .fields fv }) (hns : hp.Ns1 dx m0) (hw : Within m0 nl) (hz : nl.length ≤ 1000) (hcd : W.clsIn K C = some cd) (hm : cd.mro = .ref C :: keTail) (hh : cd.hasDict = true)
    (ha : W.findIn K (.ref C) name = some none)
    (hq : ∀ h' tk', (∀ b o, b ≠ dx → hp.get? b = some o → h'.get? b = some o) → h'.Ns1 dx (fun y => if y = name then some v else m0 y) → R (.ok (.ret .none)) ⟨h', g, d, tk', os⟩) :
    codeAny (model prog w) A (.call (.builtin "object.__setattr__") ⟨[.ref x, .str name tk, v], []⟩) R ⟨hp, g, d, t, os⟩ := by
  obtain ⟨oD, esD, epD, hoD, hdD, _⟩ := hns.count hw
  have I : W.InstAt hp x { cls := .ref C, dict := some dx, data := .fields fv } C (some oD) := ⟨hx, rfl, rfl, hoD⟩
  have SF := F.store_object
  have ne : cd.mro.isEmpty = false := by rw [hm]; rfl
  have hob : cd.mro.contains (.type "object") = true := by rw [hm, List.contains_cons, (show keTail.contains (.type "object") = true by decide +kernel), Bool.or_true]
  have sub : W.Looks (model prog w) hp (isInstance (.ref x) (.type "object")) true := I.type.andThen (W.looks_mroIn X (by unfold W.mroIn; rw [hcd, Option.bind_some, if_neg (by rw [ne]; decide), hob]))
  refine codeAny_call_builtin SF.slot.plain SF.entry (@W.check_slot (model prog w) _ _ ⟨hp, g, d, t, os⟩ "object.__setattr__" "object" "__setattr__" (.ref x) [.str name tk, v] [] _ SF.kind SF.split sub (SF.args (.ref x) (.str name tk) v) ?_)
  have hmr : W.Looks (model prog w) hp (mroOf (.ref C)) cd.mro := (W.looks_clsIn X hcd).andThen .now
  have L3 : W.Looks (model prog w) hp (storeTaker? none) none := .now
  have hcls : W.Looks (model prog w) hp (classData C) cd := W.looks_clsIn X hcd
  rw [W.osa_eq, refuse_eq]
  refine wpAny_bind (wpAny_bind (I.type.at (wpAny_bind (hmr.at ?_))))
  rw [hm, ke_pass]
  refine wpAny_pure (wpAny_bind (I.type.at (wpAny_bind ((W.looks_findIn X ha).at (wpAny_bind (L3.at ?_))))))
  show wpAny _ _ (storeInOwnDict (.ref x) (.ref C) (.str name tk) name v false) _ _ _
  obtain ⟨nm, bs, mro, ns, qn, hd, sn, sb, ab, col, del⟩ := cd
  dsimp only at hh
  subst hh
  unfold storeInOwnDict ownDictForStores
  repeat (first | with_reducible refine store_in_old hns hw hz ?_ | with_reducible refine wpAny_loadPart_at hx ?_ | with_reducible refine hcls.at ?_ | wp_step)
  intro h' tk' hn' hs
  exact hq h' tk' (fun b o hb ho => (hs.2 b hb).trans ho) hn'
end
theorem typ_KE : typeOf (.type "KeyError") = pure (.type "type") := by kernel_rfl
end KX
end PySem
namespace L2
open PySem PySem.Spec PyProof.Rows
/-- what the written part says of the class -/
structure OexK (K : PySem.W.Frag) (C : Addr) : Prop where
  cls : ∃ nm q N bs bm sn sub ab col dd k0 k1 k2 k3 k5, K.lookup C = some (excClassObj nm q C N bs bm true sn sub ab col dd k0 k1 k2 k3 k5 "LookupError.__new__") ∧ bm = PySem.KX.keTail
  sa : PySem.W.findIn K (.ref C) "__setattr__" = some (some (.builtin "object.__setattr__"))
  exC : PySem.W.subIn K (.ref C) (.type "BaseException") = some true
  tyC : PySem.W.typeIn K (.ref C) = some (.type "type")
  kC : PySem.W.keepIn K (.ref C) = true
section
variable {X : Cx} {pins : List (Addr × Obj)} {σ : St} {H : Hp} {s : Shared} {a C dx : Addr} {f : Str} {y : V} {u : Value} {fs : List (Str × V)} {Q : Unit → Shared → Prop} {E : Value → Shared → Prop} {A : Around}
/-- self.f = y, the first one -/
theorem osk_new (T : OexK X.K C) (I : Inv X pins σ H s) (e : H a = some (exo a C none)) (hno : PySem.W.findIn X.K (.ref C) f = some none) (ry : RelV y u)
    (h : ∀ dx s', H dx = none → dx ≠ a → Inv X pins σ (upd (upd H dx (exd dx [(f, y)])) a (exo a C (some dx))) s' → Q () s') : wpAny (model X.prog X.w) A (setAttr (.ref a) f u) Q E s := by
  obtain ⟨nm, q, N, bs, bm, sn, sub, ab, col, dd, k0, k1, k2, k3, k5, hC, hbm⟩ := T.cls
  have hcl : PySem.W.clsIn X.K C = some { name := nm, bases := bs, mro := .ref C :: bm, ns := N, qualname := q, hasDict := true, slotNames := sn, subclasses := sub, abstract := ab, collection := col, hasDel := false } := by unfold PySem.W.clsIn; rw [hC] <;> rfl
  obtain ⟨t1, ho⟩ := exo_at I.hok e
  obtain ⟨hp, g, d, t, os⟩ := s
  refine PySem.W.set_plain I.kIn (ox := { cls := .ref C, dict := none, data := .fields #[.ref t1, .none, .none, .none, .bool false, .none] }) (od := none) ⟨ho, rfl, rfl, trivial⟩ T.sa ?_
  refine PySem.KX.exc_osa I.kIn ho hcl (show (.ref C :: bm : List Value) = .ref C :: PySem.KX.keTail by rw [hbm]) rfl hno (fun h' tk' dx k dn dne hx hn => ?_)
  have hnd : H dx = none := I.hok.fresh dn
  have nd : ∀ {b : Addr} {o : Obj}, hp.get? b = some o → b ≠ dx := fun {b o} q => Nat.ne_of_lt (Nat.lt_of_lt_of_le (Heap.lt_size q) dn)
  have na : ∀ {b : Addr}, H b = none → b ≠ a := fun {b} n z => by
    rw [z, e] at n
    cases n
  have Un1 : Un X.fs [] H (upd (upd H dx (exd dx [(f, y)])) a (exo a C (some dx))) hp h' := {
    keep := fun b o q n _ _ => k b o (na n) q
    slot := fun b o q n _ _ => ⟨o.slots, k b o (na n) q⟩
    free := fun b o q n _ => by rw [upd_ne (na n), upd_ne (nd q)]; exact n
    there := fun b o q _ => by
      by_cases hb : b = a
      · exact ⟨_, by rw [hb]; exact hx⟩
      · exact ⟨o, k b o hb q⟩
    tups := fun b xs q => by rw [upd_ne (at_ne e q exo_tup), upd_ne (ne_of_none q hnd)]; exact q
    frzs := fun b o v q => by rw [upd_ne (at_ne e q exo_frz), upd_ne (ne_of_none q hnd)]; exact q
    tbls := fun b ps q => ⟨#[], by rw [upd_ne (at_ne e q exo_tbl), upd_ne (ne_of_none q hnd), q]; simp⟩ }
  refine h dx _ hnd dne (I.un (t' := tk') Un1 fun b o q => ?_)
  by_cases hb : b = a
  · subst hb
    rw [upd_same] at q
    cases q
    exact exo_ok hx
  · rw [upd_ne hb] at q
    by_cases hd : b = dx
    · subst hd
      rw [upd_same] at q
      cases q
      exact exd_ok hn (relO_put (fs := []) ry fun g => True.intro)
    · rw [upd_ne hd] at q
      exact (I.hok b o q).stay (fun c v hc z => k c v (by
          rcases hc with hc | hc
          · rw [hc]
            exact hb
          · exact at_ne e hc exo_own) z)
        (fun c hc => by rw [upd_ne (at_ne e hc exo_own), upd_ne (ne_of_none hc hnd)]; exact hc) (fun c xs hc => by rw [upd_ne (at_ne e hc exo_tup), upd_ne (ne_of_none hc hnd)]; exact hc)
/-- self.f = y, a further one -/
theorem osk_old (T : OexK X.K C) (I : Inv X pins σ H s) (e : H a = some (exo a C (some dx))) (ed : H dx = some (exd dx fs)) (hl : fs.length ≤ 900) (hno : PySem.W.findIn X.K (.ref C) f = some none) (ry : RelV y u)
    (h : ∀ s', Inv X pins σ (upd H dx (exd dx ((f, y) :: fs))) s' → Q () s') : wpAny (model X.prog X.w) A (setAttr (.ref a) f u) Q E s := by
  obtain ⟨nm, q, N, bs, bm, sn, sub, ab, col, dd, k0, k1, k2, k3, k5, hC, hbm⟩ := T.cls
  have hcl : PySem.W.clsIn X.K C = some { name := nm, bases := bs, mro := .ref C :: bm, ns := N, qualname := q, hasDict := true, slotNames := sn, subclasses := sub, abstract := ab, collection := col, hasDel := false } := by unfold PySem.W.clsIn; rw [hC] <;> rfl
  obtain ⟨t1, ho⟩ := exo_at I.hok e
  obtain ⟨mA, hns, rel⟩ := exd_at I.hok ed
  have hw := within_of rel
  obtain ⟨hp, g, d, t, os⟩ := s
  obtain ⟨oD, _, _, hoD, _, _⟩ := hns.count hw
  refine PySem.W.set_plain I.kIn (ox := { cls := .ref C, dict := some dx, data := .fields #[.ref t1, .none, .none, .none, .bool false, .none] }) (od := some oD) ⟨ho, rfl, rfl, hoD⟩ T.sa ?_
  refine PySem.KX.osa_old I.kIn ho hns hw (by rw [List.length_map]; omega) hcl (show (.ref C :: bm : List Value) = .ref C :: PySem.KX.keTail by rw [hbm]) rfl hno (fun h' tk' k hn => ?_)
  have hd : ∃ o, h'.get? dx = some o := by
    obtain ⟨o, _, _, e', _⟩ := hn
    exact ⟨o, e'⟩
  exact h _ (I.write (t' := tk') (x := dx) (e := dx) (o := exd dx ((f, y) :: fs)) (by rw [ed]; exact True.intro) (.inl rfl) k hd (exd_ok hn (relO_put ry rel)))
/-- KeyError.__init__(self, ..): nothing of it is told -/
theorem kinit_ok {us : List Value} {Q : Value → Shared → Prop} (T : OexK X.K C) (I : Inv X pins σ H s) (e : H a = some (exo a C none)) (hl : us.length ≤ sizeLine) (h : ∀ s', Inv X pins σ H s' → Q .none s') :
    wpAny (model X.prog X.w) A (call (.builtin "KeyError.__init__") (.ref a :: us)) Q E s := by
  obtain ⟨nm, q, N, bs, bm, sn, sub, ab, col, dd, k0, k1, k2, k3, k5, hC, hbm⟩ := T.cls
  obtain ⟨t1, ho⟩ := exo_at I.hok e
  obtain ⟨hp, g, d, t, os⟩ := s
  refine wpAny_call (PySem.KX.init_base hbm (I.kIn _ _ hC) ho hl fun h' t2 k hx => ?_)
  have J := I.write (t' := t) (x := a) (e := a) (o := exo a C none) (by rw [e]; exact True.intro) (.inl rfl) k ⟨_, hx⟩ (exo_ok hx)
  have eu : upd H a (exo a C none) = H := by
    funext b
    by_cases hb : b = a
    · rw [hb, upd_same, e]
    · rw [upd_ne hb]
  rw [eu] at J
  exact h _ J
end
/-- KeyError.__init__(self, ..) -/
def tKeI (K : PySem.W.Frag) (ta : TA) : TE := fun σ H Q => ta σ H fun vs H1 => ∃ (a C : Addr) (ws : List V), vs = .ref a :: ws ∧ ws.length ≤ 1000 ∧ OexK K C ∧ H1 a = some (exo a C none) ∧ Q .non H1
/-- self.f = e -/
def tOsk (K : PySem.W.Frag) (f : Str) (to te : TE) : TS := fun D σ H => te σ H fun y H1 => to σ H1 fun x H2 => ∃ a C : Addr, x = .ref a ∧ OexK K C ∧ PySem.W.findIn K (.ref C) f = some none ∧
  ((H2 a = some (exo a C none) ∧ ∀ dx, H2 dx = none → dx ≠ a → D.nx σ (upd (upd H2 dx (exd dx [(f, y)])) a (exo a C (some dx)))) ∨
    ∃ (dx : Addr) (fs : List (Str × V)), H2 a = some (exo a C (some dx)) ∧ H2 dx = some (exd dx fs) ∧ fs.length ≤ 900 ∧ D.nx σ (upd H2 dx (exd dx ((f, y) :: fs))))
/-- C(e, ..), C's own __init__ keeping sp -/
def tMkK (C : Addr) (sp : Sp) (dvs : List V) (ta : TA) : St → Hp → XK → Prop := fun σ H Q => ta σ H fun vs H1 => vs.length ≤ 1000 ∧ ∀ a, H1 a = none → sp (.ref a :: (vs ++ dvs)) (upd H1 a (exo a C none))
  (fun v H2 => v = .non ∧ ∃ (d : Addr) (fs : List (Str × V)), H2 a = some (exo a C (some d)) ∧ H2 d = some (exd d fs) ∧ H1 d = none ∧ Q (.ref C) (some d) (upd (del H2 a) d (.xd fs))) (fun _ _ _ => False)
section
variable {X : Cx} {o e : Expr} {es : List Expr} {to te : TE} {ta : TA} {f : Str} {p p' p1 p2 pos : Pos}
theorem pe_keinit {pl : Sem Bool} (hg : Gl X "KeyError") (hm : X.mg "KeyError" = none) (vV : PySem.W.findCls X.K (.type "KeyError") (.type "type") "__init__" = some (.val (.builtin "KeyError.__init__"))) (ha : PA X (e :: es) ta)
    (hc : eval (.Call (.Attribute (.Name "KeyError" p1) "__init__" p2) (e :: es) [] pos) X.env = (do
      let ov ← eval (.Name "KeyError" p1) X.env
      standAt p2.atName
      let (f, first) ← holding [ov] (getMethod ov "__init__" pl)
      callWith pos f first (backTo pos (starEach (e :: es) X.env)) (backToKw pos (keywordEach [] X.env))) := by rfl)
    (he : starEach (e :: es) X.env = (false, eval e X.env) :: starEach es X.env := by rfl) (hpl : (backTo pos (starEach es X.env)).any (·.1) = false := by rfl) :
    PE X (.Call (.Attribute (.Name "KeyError" p1) "__init__" p2) (e :: es) [] pos) (tKeI X.K ta) := by
  refine ⟨fun pins s σ H Q I h => ?_⟩
  refine PySem.W.methodCall_KW (ld_blt I hg hm PyProof.Rows.Boot.«KeyError» ?_ (by decide) (by decide)) hc
  obtain ⟨m, fr⟩ := I.fr
  refine PySem.W.method_type fr I.ok.mod.kin PySem.KX.typ_KE (by decide +kernel) vV (by decide +kernel) ?_
  show wpAny _ _ (callWith pos (Value.builtin "KeyError.__init__") [] (backTo pos (starEach (e :: es) X.env)) []) _ _ _
  refine PyProof.Rows.callWith_method1 (thn (ha.run pos pins _ σ H _ (I.tok _) h) fun us s1 ⟨vs, H1, I1, r1, a, C, ws, ev, hl, T, ea, q⟩ => ?_) he hpl
  subst ev
  cases r1 with
  | @cons _ u0 _ ur ra rw' =>
    obtain rfl : u0 = Value.ref a := ra
    have hlen : ur.length ≤ sizeLine := by
      rw [← Paired.length rw', sizeLine_eq]
      omega
    exact kinit_ok T I1 ea hlen fun s' J => ⟨.non, H1, J, rfl, q⟩
theorem ps_osk (ho : PE X o to) (he : PE X e te) (hs : swapsWith e (some (.Attribute o f p')) pos.line X.env = pure false := by rfl) : PS X (.Assign [.Attribute o f p'] e pos) (tOsk X.K f to te) := by
  refine ⟨fun pins s σ H D I h => ?_⟩
  refine plainObj_wpAny_Assign_Attribute (thn (he.run pins s σ H _ I h) fun v s1 ⟨y, H1, I1, r1, q1⟩ => thn (ho.run pins s1 σ H1 _ I1 q1) fun u s2 ⟨x, H2, I2, r2, a, C, ex, T, hno, q⟩ => ?_) hs
  subst ex
  obtain rfl : u = Value.ref a := r2
  rcases q with ⟨ea, q⟩ | ⟨dx, fs, ea, ed, hl, q⟩
  · exact osk_new T I2 ea hno r1 fun dx s' n ne J => ⟨σ, _, J, q dx n ne⟩
  · exact osk_old T I2 ea ed hl hno r1 fun s' J => ⟨σ, _, J, q⟩
end
section
variable {X : Cx} {o e : Expr} {es : List Expr} {to te : TE} {ta : TA} {f : Str} {p p' p1 p2 pos : Pos}
theorem pmk_kex {CX : CXT} {x : Str} {C fI : Addr} {k : Nat} {fd : FuncData} {ps : List Str} {sp : Sp} {ds : List Value} {dvs : List V} (T : OexK X.K C) (iC : PySem.W.findIn X.K (.ref C) "__init__" = some (some (.ref fI))) (tI : PySem.W.typeIn X.K (.ref fI) = some (.type "function"))
    (F1 : FnOk X.prog X.w X.K X.mg X.base CX k fI fd ps sp) (hr : Room (k + 1) X.A) (hb : Binds X.K fd ps ds) (hd : Vals dvs ds) (hx : Passes CX X (fun _ _ _ => False)) (hg : Gl X x) (hm : X.mg x = some (.ref C)) (ha : PA X (e :: es) ta)
    (hdb : (x == ("__debug__" : Str)) = false := by decide) (he : starEach (e :: es) X.env = (false, eval e X.env) :: starEach es X.env := by rfl) (hpl : (backTo pos (starEach es X.env)).any (·.1) = false := by rfl) :
    PMk X (.Call (.Name x p) (e :: es) [] pos) (tMkK C sp dvs ta) := by
  intro pins s σ H Q I h
  obtain ⟨nm, q, N, bs, bm, sn, sub, ab, col, dd, k0, k1, k2, k3, k5, hC, hbm⟩ := T.cls
  refine wpAny_Call_Name_kw (ld_glob I hg hm ?_ hdb)
  refine PySem.W.callWith_K (h₀ := X.base) I.ok.mod.kin T.kC (thn (ha.run pos pins s σ H _ I h) fun us s1 ⟨vs, H1, I1, r1, hz, q1⟩ => ⟨I1.kIn, ?_⟩) he hpl
  show wpAny _ _ (call (.ref C) us) _ _ _
  obtain ⟨hp, g, dr, tk, os⟩ := s1
  have hsz : hp.objs.size ≤ hp.objs.size + 1 := Nat.le_succ _
  have hn : H1 (hp.objs.size + 1) = none := I1.hok.fresh hsz
  have hq := q1 (hp.objs.size + 1) hn
  have kk : ∀ b o, hp.get? b = some o → ((hp.push (PySem.W.kdv_tup us)).push (PySem.HandSPX.excO C hp.objs.size)).get? b = some o := fun b o e => Heap.get?_push_of_some _ (Heap.get?_push_of_some _ e)
  have hget : ((hp.push (PySem.W.kdv_tup us)).push (PySem.HandSPX.excO C hp.objs.size)).get? (hp.objs.size + 1) = some (PySem.HandSPX.excO C hp.objs.size) := by heap_get
  have I2 : Inv X pins σ (upd H1 (hp.objs.size + 1) (exo (hp.objs.size + 1) C none)) ⟨(hp.push (PySem.W.kdv_tup us)).push (PySem.HandSPX.excO C hp.objs.size), g, dr, tk, os⟩ :=
    I1.laid (t' := tk) (a := hp.objs.size + 1) (o := exo (hp.objs.size + 1) C none) (h' := (hp.push (PySem.W.kdv_tup us)).push (PySem.HandSPX.excO C hp.objs.size)) kk hsz (exo_ok hget)
  have r2 : Vals (V.ref (hp.objs.size + 1) :: (vs ++ dvs)) (Value.ref (hp.objs.size + 1) :: (us ++ ds)) := .cons rfl (r1.append hd)
  have hl : (Value.ref (hp.objs.size + 1) :: us ++ ds).length = ps.length := by
    have e := r2.length
    rw [F1.len _ _ _ _ hq] at e
    exact e.symm
  have hus : us.length ≤ sizeLine := by
    rw [← Paired.length r1, sizeLine_eq]
    omega
  refine wpAny_call (PySem.KX.call_own hbm (I1.kIn _ _ hC) (PySem.W.looks_findIn I1.kIn iC) (fun self => PySem.W.bind_fn I1.kIn self tI) hus
    (codeAny_mono (F1.run _ X.stack _ _ ⟨Value.ref (hp.objs.size + 1) :: us, []⟩ (Value.ref (hp.objs.size + 1) :: (us ++ ds)) _ _ (fun _ _ _ => False) (hr.make C us []) (I2.env0.make C us []) (hb _ (Value.ref (hp.objs.size + 1) :: us) I2.kIn hl) r2 hq) fun r s' hq' => ?_))
  cases r with
  | error er => exact hx pins σ _ _ er s' I2 hq'
  | ok fl =>
    cases fl with
    | ret u =>
      obtain ⟨v, H2, os2, bare2, un2, hok2, rv, ev, d, fs, ea, ed, hd1, q2⟩ := hq'
      subst ev
      obtain ⟨h2, g2, d2, t2, os'⟩ := s'
      exact ⟨rv, mk_end (raises_own T.exC T.tyC) I1 hsz kk un2 hok2 os2 bare2 ea ed hd1 q2⟩
    | next => exact False.elim hq'
    | brk => exact False.elim hq'
    | cont => exact False.elim hq'
end
end L2
namespace L2
open PySem PySem.Spec PyProof.Rows
variable [Ev.TabC]
section
variable {X : Cx} {pins : List (Addr × Obj)} {σ : St} {H : Hp} {s : Shared}
theorem exv_ok {P : Program} {w : World} {H : Hp} {h : Heap} {a : Addr} {cls : Value} {d : Option Addr} {oe : Obj} {vs : Array Value} (he : h.get? a = some oe) (hz : Zc cls d oe) (hd : oe.data = .fields vs) : ObjOk P w H h a (Ev.ExV a cls d) :=
  ⟨⟨oe, vs, he, hz.1, hz.2, hd⟩, ⟨_, he⟩, fun h1 h2 z k => by
    obtain ⟨oe, vs, q1, q2, q3, q4⟩ := z
    exact ⟨oe, vs, k _ q1, q2, q3, q4⟩⟩
theorem exv_at {P : Program} {w : World} {H : Hp} {h : Heap} {a : Addr} {cls : Value} {d : Option Addr} (hok : HOk P w H h) (he : H a = some (Ev.ExV a cls d)) : ∃ oe vs, h.get? a = some oe ∧ oe.cls = cls ∧ oe.dict = d ∧ oe.data = .fields vs := by
  have x : ObjOk P w H h a (.ext fun h => ∃ oe vs, h.get? a = some oe ∧ oe.cls = cls ∧ oe.dict = d ∧ oe.data = .fields vs) := hok a _ he
  exact x.1
end
def TestOk (X : Cx) (t : Expr) (ex : Value → Option Bool) : Prop := ∀ (a : Addr) (pn : List (Addr × Obj)) (σ : St) (H : Hp) (s : Shared) (cls : Value) (b : Bool) (Q : Bool → Shared → Prop) (E : Value → Shared → Prop), Inv (X.suite a pn) [] σ H s →
  PySem.W.Looks (model X.prog X.w) s.heap (typeOf (.ref a)) cls → ex cls = some b → (∀ h', (∀ q o, s.heap.get? q = some o → h'.get? q = some o) → Q b { s with heap := h' }) →
  wpAny (model X.prog X.w) (X.A.mark (some (.ref a))) (eval t X.env) (fun c s₁ => wpAny (model X.prog X.w) (X.A.mark (some (.ref a))) (excMatches (.ref a) c) Q E s₁) E s
abbrev ClT := Addr → Value → Option Addr → TS
/-- the exception in slot i, known, while the suite runs -/
def nmd (i : Nat) (ts : Addr → TS) : ClT := fun a cls d D σ H => ts a { nx := fun σ' H' => D.nx (σ'.set i none) H', rt := D.rt, bk := fun σ' H' => D.bk (σ'.set i none) H', ct := fun σ' H' => D.ct (σ'.set i none) H' } (σ.set i (some (.ref a))) (upd H a (Ev.ExV a cls d))
inductive HdsOk2 (X : Cx) : List ExceptHandler → List ((Value → Option Bool) × ClT) → Prop
  | nil : HdsOk2 X [] []
  | plain {t : Expr} {ex : Value → Option Bool} {ts : Addr → TS} {b₀ : Stmt} {suite : List Stmt} {pos' : Pos} {hds : List ExceptHandler} {l : List ((Value → Option Bool) × ClT)} (ht : TestOk X t ex)
      (hsu : ∀ (a : Addr) (pn : List (Addr × Obj)), PSs (X.suite a pn) (b₀ :: suite) (ts a)) (r : HdsOk2 X hds l) :
      HdsOk2 X (.ExceptHandler (some t) none (b₀ :: suite) pos' :: hds) ((ex, fun a _ _ => ts a) :: l)
  | named {t : Expr} {ex : Value → Option Bool} {ts : Addr → TS} {i : Nat} {n : Str} {b₀ : Stmt} {suite : List Stmt} {pos' : Pos} {hds : List ExceptHandler} {l : List ((Value → Option Bool) × ClT)} (ht : TestOk X t ex) (hN : X.N.Nodup) (hi : X.N[i]? = some n) (hln : X.env.kindOf n = some .local)
      (hsu : ∀ (a : Addr) (pn : List (Addr × Obj)), PSs (X.suite a pn) (b₀ :: suite) (ts a)) (r : HdsOk2 X hds l) :
      HdsOk2 X (.ExceptHandler (some t) (some n) (b₀ :: suite) pos' :: hds) ((ex, nmd i ts) :: l)
end L2
namespace Ev
open PySem PySem.Spec PyProof.Rows L2
variable [TabC]
variable {K : PySem.W.Frag} {S S' H H' : Hp} {B : Bs} {δ : DS} {σ : L2.St}
section
variable {P : Program} {w : World} {K : PySem.W.Frag} {mg : Str → Option Value} {base : Heap} {x qual : Str} {st : Stmt} {f : Addr} {fd : FuncData} {N ps : List Str} {k n : Nat} {d : dS}
def WP (W : Xc → Pen → Prop) : XW := fun c δ => W c δ.pen
end
end Ev
namespace Ev
open PySem PySem.Spec PyProof.Rows L2
variable [TabC]
variable {K : PySem.W.Frag} {S S' H H' : Hp} {B : Bs} {δ : DS} {σ : L2.St}
def exS (i j : Nat) : Bool := i == j || (decide (i < 4) && (j == 0 || j == 6)) || (decide (3 < i) && j == 7)
def cV : Value → V
  | .ref a => .ref a
  | .type t => .ty t
  | _ => .non
def kiS : Scope := { kind := .function, names := [(PySem.Str.ofString "self", .local), (PySem.Str.ofString "room", .local), (PySem.Str.ofString "KeyError", .globalImplicit)], isGenerator := false, isCoroutine := false, more := [] }
def kiB (m : Str) (j : Nat) (p1 p2 p3 p4 p5 p6 q1 q2 q3 q4 : Pos) : List Stmt := [.Expr (.Call (.Attribute (.Name "KeyError" p1) "__init__" p2) [.Name "self" p3, .Constant (.str m) j p4] [] p5) p6, .Assign [.Attribute (.Name "self" q1) "room" q2] (.Name "room" q3) q4]
/-- how the call of KeyError.__init__ goes (its places in the text are told, so that this is told by computing) -/
def KiC (m : Str) (j : Nat) (p1 p2 p3 p4 p5 : Pos) : Prop := ∀ env : Env, ∃ pl : Sem Bool, eval (.Call (.Attribute (.Name "KeyError" p1) "__init__" p2) [.Name "self" p3, .Constant (.str m) j p4] [] p5) env = (do
      let ov ← eval (.Name "KeyError" p1) env
      standAt p2.atName
      let (f, first) ← holding [ov] (getMethod ov "__init__" pl)
      callWith p5 f first (backTo p5 (starEach [.Name "self" p3, .Constant (.str m) j p4] env)) (backToKw p5 (keywordEach [] env)))
def spKI (C : Addr) : Sp := fun vs H Q _ => ∃ a v, vs = [.ref a, v] ∧ H a = some (exo a C none) ∧ ∀ dx, H dx = none → dx ≠ a → Q .non (upd (upd H dx (exd dx [(("room" : Str), v)])) a (exo a C (some dx)))
theorem kiScope {st : Stmt} (hS : defScope st = kiS) : FnScope ["self", "room"] ["self", "room"] (defScope st) := by
  rw [hS]
  exact ⟨rfl, rfl, rfl, by decide +kernel, rfl, by decide +kernel, by decide +kernel⟩
section
variable {P : Program} {w : World} {mg : Str → Option Value} {base : Heap}
theorem ok_kinit {C fI : Addr} {fd : FuncData} {qual : Str} {st : Stmt} {m : Str} {j : Nat} {p1 p2 p3 p4 p5 p6 q1 q2 q3 q4 : Pos} (F : Fun K "__init__" qual st fI fd) (hS : defScope st = kiS) (hB : defBody st = kiB m j p1 p2 p3 p4 p5 p6 q1 q2 q3 q4) (hc : KiC m j p1 p2 p3 p4 p5) (T : OexK K C)
    (hno : PySem.W.findIn K (.ref C) "room" = some none) (hK : mg "KeyError" = none) (vV : PySem.W.findCls K (.type "KeyError") (.type "type") "__init__" = some (.val (.builtin "KeyError.__init__"))) : FnOk P w K mg base CX0 1 fI fd ["self", "room"] (spKI C) := by
  refine F.ok (kiScope hS) (fun vs H Q E h => by obtain ⟨a, v, rfl, _⟩ := h; rfl) fun cdv A outer s H vs Q E hr h => ?_
  have sc := kiScope hS
  rw [hB]
  revert sc
  rw [hS]
  intro sc
  obtain ⟨pl, hc⟩ := hc (cxOf CX0 P w K mg base ["self", "room"] qual kiS fI cdv A outer s H E).nox.env
  refine ⟨_, pss_cons (ps_expr (pe_keinit (by rfl) hK vV (pa_cons (pv 0) (pa_cons pe_str pa_nil)) hc)) (pss_one (ps_osk (pv 0) (pv 1))), ?_⟩
  obtain ⟨a, v, rfl, ha, q⟩ := h
  refine ⟨.ref a, rfl, a, C, _, rfl, by show 1 ≤ 1000; decide, T, ha, v, rfl, .ref a, rfl, a, C, rfl, T, hno, .inl ⟨ha, fun dx hd ne => q dx hd ne⟩⟩
/-- everything that raise x(..) wants, x of the number c with the field room -/
structure RaiseK (P : Program) (w : World) (K : PySem.W.Frag) (mg : Str → Option Value) (base : Heap) (x : Str) (c : Nat) : Prop where
  ok : ∃ (C fI : Addr) (fd : FuncData), TabC.xc c = .ref C ∧ OexK K C ∧ PySem.W.findIn K (.ref C) "__init__" = some (some (.ref fI)) ∧ PySem.W.typeIn K (.ref fI) = some (.type "function") ∧ mg x = some (.ref C) ∧
    FnOk P w K mg base CX0 1 fI fd ["self", "room"] (spKI C) ∧ Binds K fd ["self", "room"] []
/-- .. of a class over ValueError, made with a text -/
structure RaiseO (K : PySem.W.Frag) (mg : Str → Option Value) (x : Str) (c : Nat) : Prop where
  ok : ∃ (C : Addr), TabC.xc c = .ref C ∧ PySem.W.excIn K C [.type "ValueError", .type "Exception", .type "BaseException", .type "object"] "ValueError.__new__" = true ∧ mg x = some (.ref C) ∧ PySem.W.keepIn K (.ref C) = true ∧
    PySem.W.subIn K (.ref C) (.type "BaseException") = some true ∧ PySem.W.typeIn K (.ref C) = some (.type "type")
end
section
variable {X : Cx} {E : EK} {e : Expr} {pos pos2 p p2 : Pos} {x m : Str} {c k : Nat} {da : dE} {jj : Nat}
/-- raise x(e) -/
def dRaise1 (c : Nat) (f : Str) (d : dE) : dS := fun W _ δ => d W δ fun x δ' => W ⟨c, some (f, x)⟩ δ'
def dRaise0 (c : Nat) : dS := fun W _ δ => W ⟨c, none⟩ δ
end
def excD (c : Xc) : D := match c.at_ with
  | none => .exc0 c.cls
  | some (f, d) => .exc c.cls f d
abbrev Cl := List Nat × Option Nat × dS
def wTry (is : List Nat) (W : XW) (N : dEnds) : List Cl → XW
  | [] => W
  | (js, o, h) :: r => fun c δ => c.cls ∈ is ∧ if (js.any fun j => exS c.cls j) = true then (match o with
    | none => h W0 N δ
    | some i => h W0 { N with nx := fun δ' => N.nx (setSl δ' i .un), bk := fun δ' => N.bk (setSl δ' i .un), ct := fun δ' => N.ct (setSl δ' i .un) } (setSl δ i (.dat (excD c)))) else wTry is W N r c δ
def dTry (is : List Nat) (db : dS) (l : List Cl) : dS := fun W N δ => db (wTry is W N l) N δ
/-- what the classes say of one another -/
def ExT (K : PySem.W.Frag) (is js : List Nat) : Prop := ∀ i ∈ is, ∀ j ∈ js, PySem.W.exmOne K (TabC.xc i) (TabC.xc j) = some (exS i j)
section
variable {X : Cx}
inductive HdD (X : Cx) (is : List Nat) : List ExceptHandler → List Cl → Prop
  | nil : HdD X is [] []
  | plain {t : Expr} {js : List Nat} {h : dS} {b₀ : Stmt} {suite : List Stmt} {pos' : Pos} {hds : List ExceptHandler} {l : List Cl} (ht : TestOk X t fun cls => PySem.W.exmAny X.K cls (js.map TabC.xc)) (hE : ExT X.K is js)
      (hsu : ∀ (a : Addr) (pn : List (Addr × Obj)), DSs (X.suite a pn) E00 (b₀ :: suite) h) (r : HdD X is hds l) : HdD X is (.ExceptHandler (some t) none (b₀ :: suite) pos' :: hds) ((js, none, h) :: l)
  | named {t : Expr} {js : List Nat} {h : dS} {i : Nat} {n : Str} {b₀ : Stmt} {suite : List Stmt} {pos' : Pos} {hds : List ExceptHandler} {l : List Cl} (ht : TestOk X t fun cls => PySem.W.exmAny X.K cls (js.map TabC.xc)) (hE : ExT X.K is js)
      (hN : X.N.Nodup) (hi : X.N[i]? = some n) (hln : X.env.kindOf n = some .local)
      (hsu : ∀ (a : Addr) (pn : List (Addr × Obj)), DSs (X.suite a pn) E00 (b₀ :: suite) h) (r : HdD X is hds l) : HdD X is (.ExceptHandler (some t) (some n) (b₀ :: suite) pos' :: hds) ((js, some i, h) :: l)
def lOf (K : PySem.W.Frag) (B : Bs) : List Cl → List ((Value → Option Bool) × ClT)
  | [] => []
  | (js, none, h) :: r => (fun cls => PySem.W.exmAny K cls (js.map TabC.xc), fun _ _ _ => liftS K B E00 h) :: lOf K B r
  | (js, some i, h) :: r => (fun cls => PySem.W.exmAny K cls (js.map TabC.xc), nmd i fun _ => liftS K B E00 h) :: lOf K B r
theorem HdD.ok {is : List Nat} {hds : List ExceptHandler} {l : List Cl} (h : HdD X is hds l) (B : Bs) : HdsOk2 X hds (lOf X.K B l) := by
  induction h with
  | nil => exact .nil
  | plain ht hE hsu r ih => exact .plain ht (fun a pn => (hsu a pn).run B) ih
  | named ht hE hN hi hln hsu r ih => exact .named ht hN hi hln (fun a pn => (hsu a pn).run B) ih
end
/-- what the class of the number i must say -/
structure XcC (K : PySem.W.Frag) (i : Nat) : Prop where
  ok : ∃ C, TabC.xc i = .ref C ∧ PySem.W.findIn K (.ref C) "__getattribute__" = some (some (.builtin "BaseException.__getattribute__")) ∧ PySem.W.findIn K (.ref C) "__getattr__" = some none ∧ PySem.W.subIn K (.ref C) (.type "BaseException") = some true ∧ PySem.W.hasDictIn K C = true ∧
    PySem.W.findIn K (.ref C) "__class__" = some (some (.builtin "object.__class__")) ∧ PySem.W.specialIn K (.builtin "object.__class__") "__get__" = some (some (.builtin "getset_descriptor.__get__")) ∧ PySem.W.takesIn K (.builtin "object.__class__") = some true ∧ PySem.W.mroIn K C (.type "object") = some true
def KiT (K : PySem.W.Frag) (is js : List Nat) : Prop := ∀ i ∈ is, ∀ j ∈ js, PySem.W.kitOne K (TabC.xc i) (TabC.xc j) = some (exS i j)
def ClsK (j : Nat) : Prop := (∃ C, TabC.xc j = .ref C) ∨ ∃ T, TabC.xc j = .type T
abbrev clD (j : Nat) : D := .raw (cV (TabC.xc j))
theorem cv_val {j : Nat} (h : ClsK j) {u : Value} (r : RelV (cV (TabC.xc j)) u) : u = TabC.xc j := by
  rcases h with ⟨C, e⟩ | ⟨T, e⟩
  · rw [e] at r ⊢; exact r
  · rw [e] at r ⊢; exact r
def D.xcN : D → Option Nat
  | .exc c _ _ => some c
  | .exc0 c => some c
  | _ => none
def rIsE (is : List Nat) (j : Nat) : DRC := fun xs Q => match xs with
  | [x, y] => y = clD j ∧ optQ x.xcN fun c => c ∈ is ∧ Q (.bl (exS c j))
  | _ => False
def rIsEt (is js : List Nat) : DRC := fun xs Q => match xs with
  | [x, y] => y = .tup (js.map clD) ∧ optQ x.xcN fun c => c ∈ is ∧ Q (.bl (js.any fun j => exS c j))
  | _ => False
section
variable {X : Cx} {E : EK} {e : Expr} {pos : Pos} {da : dE} {is js : List Nat} {f : Str}
theorem inst_of {pins : List (Addr × Obj)} {s : Shared} (I : Inv X pins σ H s) (sb : Sb S H) {v : V} {x : D} {c : Nat} (n : Dn X.K S v x) (h : x.xcN = some c) {C : Addr} (hC : TabC.xc c = .ref C) : ∃ a oe od, v = .ref a ∧ PySem.W.InstAt s.heap a oe C od := by
  cases n with
  | exc h1 h2 h3 =>
    cases h
    obtain ⟨oe, vs, g1, g2, g3, g4⟩ := exv_at I.hok (sb.ex _ _ h1)
    obtain ⟨mA, hns, hr⟩ := (show ObjOk X.prog X.w H s.heap _ (.xd _) from I.hok _ _ (sb.ex _ _ h2))
    obtain ⟨od, ho, hl⟩ := lookIn_ns hns
    exact ⟨_, oe, some od, rfl, g1, g2.trans hC, by unfold PySem.W.notCls; rw [g4] <;> rfl, by rw [g3]; exact ho⟩
  | exc0 h1 =>
    cases h
    obtain ⟨oe, vs, g1, g2, g3, g4⟩ := exv_at I.hok (sb.ex _ _ h1)
    exact ⟨_, oe, none, rfl, g1, g2.trans hC, by unfold PySem.W.notCls; rw [g4] <;> rfl, by rw [g3]; trivial⟩
  | _ => cases h
theorem fld_of {pins : List (Addr × Obj)} {s : Shared} (I : Inv X pins σ H s) (sb : Sb S H) {v : V} {d : D} {c : Nat} (n : Dn X.K S v (.exc c f d)) {C : Addr} (hC : TabC.xc c = .ref C) : ∃ a oe od w u, v = .ref a ∧ PySem.W.InstAt s.heap a oe C (some od) ∧ PySem.W.lookIn f od = some (some u) ∧ RelV w u ∧ Dn X.K S w d := by
  cases n with
  | @exc a dx _ _ w _ h1 h2 h3 =>
    obtain ⟨oe, vs, g1, g2, g3, g4⟩ := exv_at I.hok (sb.ex _ _ h1)
    obtain ⟨mA, hns, hr⟩ := (show ObjOk X.prog X.w H s.heap _ (.xd _) from I.hok _ _ (sb.ex _ _ h2))
    obtain ⟨od, ho, hl⟩ := lookIn_ns hns
    have l : List.lookup f [(f, w)] = some w := by simp [List.lookup]
    obtain ⟨u, hu, ru⟩ := RelO.some_of (v := w) (o := mA f) (by rw [← l]; exact hr f)
    exact ⟨_, oe, od, w, u, rfl, ⟨g1, g2.trans hC, by unfold PySem.W.notCls; rw [g4] <;> rfl, by rw [g3]; exact ho⟩, by rw [hl, hu], ru, h3⟩
theorem cd_isE {j : Nat} (hX : ∀ i ∈ is, XcC X.K i) (hK : KiT X.K is [j]) (hj : ClsK j) : CallR X (.builtin "isinstance") (liftC X.K (rIsE is j)) := fun pins s σ H vs us Q I r ⟨S, ds, Q', ex, n, q, post⟩ => by
  rcases ds with _ | ⟨x, _ | ⟨y, _ | ⟨z, ds⟩⟩⟩
  · exact q.elim
  · exact q.elim
  · obtain ⟨ey, q⟩ := q
    subst ey
    obtain ⟨c, hc, hi, q⟩ := optQ_ex q
    obtain ⟨v, v', rfl, n1, n2⟩ := n.two
    obtain ⟨C, hC, g1, g2, g3, g4, g5, g6, g7, g8⟩ := (hX c hi).ok
    obtain ⟨a, oe, od, rfl, J⟩ := inst_of I ex n1 hc hC
    cases n2
    cases r with
    | cons rx rr =>
      cases rr with
      | cons rt rr =>
        cases rr
        cases rx
        have et := cv_val hj rt
        subst et
        obtain ⟨cd, hcd, _⟩ := PySem.W.any_some g4
        have hk := hK c hi j (List.mem_singleton.mpr rfl)
        rw [hC] at hk
        exact PySem.W.kia_one (PySem.W.kitx_exc (by rw [hcd]; rfl) g1 g2 g3 g5 g6 g7 g8) I.kIn J hk (fun z => nomatch z) fun tk => ⟨.bl _, H, I.kept (t' := tk) fun _ _ z => z, rfl, post _ _ _ _ q (Grow.refl ex) (.bl _)⟩
  · exact q.elim
theorem de_clT {x : Str} {p : Pos} {j : Nat} {T : String} (hC : TabC.xc j = .type T) (gl : Gl X x) (hm : X.mg x = none) (hv : bootBuiltins x = some (.type T)) (hn : x ≠ "__name__" := by decide) (hd : (x == ("__debug__" : Str)) = false := by decide) : DE X E (.Name x p) (dC (clD j)) := by
  have e : clD j = .raw (.ty T) := by show D.raw (cV (TabC.xc j)) = _; rw [hC]; rfl
  rw [e]
  exact de_c (pe_bltn (v := .ty T) gl hm hv (show RelV (.ty T) (.type T) from rfl) hn hd) fun _ => .raw _
/-- e.f -/
def dFldE (is : List Nat) (f : Str) (d : dE) : dE := fun W δ Q => d W δ fun x δ' => match x with | .exc c g z => c ∈ is ∧ g = f ∧ Q z δ' | _ => False
def NoF (K : PySem.W.Frag) (is : List Nat) (f : Str) : Prop := ∀ i ∈ is, ∀ C, TabC.xc i = .ref C → PySem.W.findIn K (.ref C) f = some none
theorem de_fldE (hX : ∀ i ∈ is, XcC X.K i) (hno : NoF X.K is f) (ha : DE X E e da) (hb : attributeBase e f X.env (eval e X.env) = eval e X.env := by rfl) : DE X E (.Attribute e f pos) (dFldE is f da) := ⟨fun B => ⟨fun pins s σ H Q I q => by
  obtain ⟨δ, S, W, Q', R, q, xo, post⟩ := q
  refine attr_of hb (thn ((ha.run B).run pins s σ H (fun v H1 => ∃ S1 c z, Sb S1 H1 ∧ c ∈ is ∧ Dn X.K S1 v (.exc c f z) ∧ ∀ w, Dn X.K S1 w z → Q w H1) I ⟨δ, S, W, _, R, q, xo, fun x δ1 v S1 H1 q1 e1 R1 n1 => ?_⟩) fun u s1 ⟨v, H1, I1, r1, S1, c, z, sb, hi, n1, hq⟩ => ?_)
  · cases x with
    | exc c g z =>
      obtain ⟨hi, eg, q1⟩ := q1
      subst eg
      exact ⟨S1, c, z, R1.ex, hi, n1, fun w nw => post _ _ _ _ _ q1 e1 R1 nw⟩
    | _ => exact q1.elim
  · obtain ⟨C, hC, g1, g2, g3, g4, _⟩ := (hX c hi).ok
    obtain ⟨a, oe, od, w, uu, rfl, J, hl, ru, nw⟩ := fld_of I1 sb n1 hC
    obtain rfl : u = Value.ref a := r1
    exact HandSPX.exc_get I1.kIn J g1 g2 g3 (PySem.W.findObj_own g4 (hno c hi C hC) rfl hl) (handed_of ru) ⟨w, H1, I1.tok _, ru, hq w nw⟩⟩⟩
end
end Ev
namespace Ev
open PySem PySem.Spec PyProof.Rows L2
variable [TabC]
variable {K : PySem.W.Frag} {S S' H H' : Hp} {B : Bs} {δ : DS} {σ : L2.St}
/-- what is promised of the lambda of the number k, which may let exceptions out -/
structure LamDX (P : Program) (w : World) (K : PySem.W.Frag) (mg : Str → Option Value) (base : Heap) (j k n : Nat) (sp : List D → dSp) : Prop where
  run : ∀ (A : Around) (out : List Env) (s : Shared) (S H : Hp) (a : Addr) (ds xs : List D) (vs : List V) (us : List Value) (p : Pen) (Q : VK) (Q' : D → Pen → Prop) (W' : Xc → Pen → Prop) (E : XK), A.guards = some [] → Room j A → Env0 P w K mg base A out s H → Sb S H → PenOk S H p → Dn K S (.ref a) (.fn k ds) → D.nfs ds = true → Vals vs us →
    DnA K S vs xs → D.nfs xs = true → xs.length = n → sp ds xs p Q' W' → (∀ x p' v S' H', Q' x p' → Fin S H S' H' p p' → Dn K S' v x → Q v H') → (∀ c p' cls od S' H', W' c p' → Fin S H S' H' p p' → XcOk K S' H' c cls od → E cls od H') → codeAny (model P w) A (.call (.ref a) ⟨us, []⟩) (CR (L2.CX P w) out P w H s Q E) s
section
variable {X : Cx} {E : EK} {x : Str} {p pos : Pos} {e : Expr} {es : List Expr} {j m n i : Nat} {LT : Nat → Option (List D → dSp)} {ta : dA}
def dCallVX (i n : Nat) (LT : Nat → Option (List D → dSp)) (a : dA) : dE := fun W δ Q => match δ.sl[i]? with
  | some (.dat (.fn k ds)) => optQ (LT k) fun sp => D.nfs ds = true ∧ a W δ fun xs δ1 => D.nfs xs = true ∧ xs.length = n ∧ sp ds xs δ1.pen (fun x p' => Q x { δ1 with pen := p' }) fun c p' => W c { δ1 with pen := p' }
  | _ => False
theorem LamDX.mono {P : Program} {w : World} {K : PySem.W.Frag} {mg : Str → Option Value} {base : Heap} {j j2 k n : Nat} {sp : List D → dSp} (h : LamDX P w K mg base j k n sp) (hj : j ≤ j2) : LamDX P w K mg base j2 k n sp :=
  ⟨fun A out s S H a ds xs vs us p Q Q' W' E g r => h.run A out s S H a ds xs vs us p Q Q' W' E g (r.mono hj)⟩
end
theorem KiT.sub {is js js' : List Nat} (h : KiT K is js) (hs : ∀ j ∈ js', j ∈ js) : KiT K is js' := fun i hi j hj => h i hi j (hs j hj)
theorem ExT.sub {is js js' : List Nat} (h : ExT K is js') (hs : ∀ j ∈ js, j ∈ js') : ExT K is js := fun i hi j hj => h i hi j (hs j hj)
theorem de_clN {X : Cx} {E : EK} {x : Str} {p : Pos} {j : Nat} (hj : ClsK j) (gl : Gl X x) (hm : X.mg x = some (TabC.xc j)) (hd : (x == ("__debug__" : Str)) = false := by decide) : DE X E (.Name x p) (dC (clD j)) :=
  de_c (pe_glob gl hm (by rcases hj with ⟨C, e⟩ | ⟨T, e⟩ <;> rw [e] <;> exact rfl) hd) fun _ => .raw _
/-- which class is beneath which, told by computing -/
theorem exS_tab : exS 4 0 = false ∧ exS 4 1 = false ∧ exS 4 2 = false ∧ exS 4 3 = false ∧ exS 4 4 = true ∧ exS 4 5 = false ∧ exS 4 6 = false ∧ exS 4 7 = true ∧
    exS 5 0 = false ∧ exS 5 1 = false ∧ exS 5 2 = false ∧ exS 5 3 = false ∧ exS 5 4 = false ∧ exS 5 5 = true ∧ exS 5 6 = false ∧ exS 5 7 = true ∧
    exS 2 0 = true ∧ exS 2 1 = false ∧ exS 2 2 = true ∧ exS 2 3 = false ∧ exS 2 4 = false ∧ exS 2 5 = false ∧ exS 2 6 = true ∧ exS 2 7 = false ∧
    exS 1 0 = true ∧ exS 1 1 = true ∧ exS 1 2 = false ∧ exS 1 3 = false ∧ exS 1 4 = false ∧ exS 1 5 = false ∧ exS 1 6 = true ∧ exS 1 7 = false ∧
    exS 3 0 = true ∧ exS 3 1 = false ∧ exS 3 2 = false ∧ exS 3 3 = true ∧ exS 3 4 = false ∧ exS 3 5 = false ∧ exS 3 6 = true ∧ exS 3 7 = false := by decide
end Ev
namespace Ev
open PySem PySem.Spec PyProof.Rows L2
variable [TabC]
variable {K : PySem.W.Frag} {S S' H H' : Hp} {B : Bs} {δ : DS} {σ : L2.St}
theorem pe_mk {X : Cx} {e : Expr} {t : L2.St → Hp → XK → Prop} (hm : PMk X e t) : PE X e (fun σ H Q => t σ H fun cls d H' => ∀ a, H' a = none → Q (.ref a) (upd H' a (ExV a cls d))) := by
  refine ⟨fun pins s σ H Q I h => wpAny_mono (hm pins s σ H _ I h) (fun u s1 hu => ?_) fun _ _ x => x⟩
  obtain ⟨a, oe, vs, sI, H', cls, d, rfl, J, k, hne, ha, hz, hd, h1, na, os, ag, r, q⟩ := hu
  have J2 := J.laidN (t' := s1.toks) k hne na (o := ExV a cls d) (exv_ok ha hz hd)
  exact ⟨.ref a, _, ⟨J2.ok, by rw [os]; exact J.os, ag, J2.base, J2.loc, J2.cell, J2.free, J2.freeC, J2.pin, J2.hok, J2.len⟩, rfl, q a na⟩
def dMk1 (c : Nat) (f : Str) (d : dE) : dE := fun W δ Q => d W δ fun x δ' => Q (.exc c f x) δ'
def dMk0 (c : Nat) : dE := fun _ δ Q => Q (.exc0 c) δ
section
variable {X : Cx} {E : EK} {e : Expr} {pos pos2 p p2 : Pos} {x m : Str} {c k : Nat} {da : dE} {jj : Nat}
theorem de_mkK (h : RaiseK X.prog X.w X.K X.mg X.base x c) (hr : Room k X.A) (gl : Gl X x) (ha : DE X E e da) (hk : 2 ≤ k := by decide) (hdb : (x == ("__debug__" : Str)) = false := by decide)
    (he : starEach [e] X.env = (false, eval e X.env) :: starEach [] X.env := by rfl) (hpl : (backTo pos (starEach [] X.env)).any (·.1) = false := by rfl) : DE X E (.Call (.Name x p) [e] [] pos) (dMk1 c "room" da) := by
  obtain ⟨C, fI, fd, hC, T, iC, tI, hm, F1, hb⟩ := h.ok
  refine ⟨fun B => pe_mono (pe_mk (pmk_kex T iC tI F1 (hr.mono hk) hb .nil (fun _ _ _ _ _ _ _ z => z.elim) gl hm (pa_cons (ha.run B) pa_nil he) hdb he hpl)) fun σ H Q q => ?_⟩
  obtain ⟨δ, S, W, Q', R, q, xo, post⟩ := q
  refine ⟨δ, S, W, _, R, q, xo, fun y δ1 v S1 H1 q1 e1 R1 n1 => ?_⟩
  refine ⟨by show 1 ≤ 1000; decide, fun a na => ⟨a, v, rfl, upd_same, fun dx hd ne => ⟨rfl, dx, [(("room" : Str), v)], upd_same, by rw [upd_ne ne]; exact upd_same, ?_, fun b nb => ?_⟩⟩⟩
  · rw [upd_ne ne] at hd; exact hd
  · have hd1 : H1 dx = none := by rw [upd_ne ne] at hd; exact hd
    have eq : upd (del (upd (upd (upd H1 a (exo a C none)) dx (exd dx [(("room" : Str), v)])) a (exo a C (some dx))) a) dx (.xd [(("room" : Str), v)]) = upd H1 dx (.xd [(("room" : Str), v)]) := by
      funext b
      by_cases z : b = dx
      · rw [z, upd_same, upd_same]
      · rw [upd_ne z, upd_ne z]
        by_cases y : b = a
        · rw [y, del_same, na]
        · rw [del_ne y, upd_ne y, upd_ne z, upd_ne y]
    rw [eq] at nb ⊢
    have R2 := R1.new (o := HO.xd [(("room" : Str), v)]) hd1
    have e2 : Ex S1 (upd S1 dx (HO.xd [(("room" : Str), v)])) := Ex.new (R1.ex.none hd1)
    have R3 := R2.new (o := ExV b (.ref C) (some dx)) nb
    have sb := R2.ex.none nb
    have e3 := Ex.new (o := ExV b (.ref C) (some dx)) sb
    refine post _ _ _ _ _ q1 ((e1.trans e2).trans e3) R3 (.exc (dx := dx) (v := v) ?_ ?_ (n1.mono (e2.trans e3)))
    · rw [hC]; exact upd_same
    · exact e3 _ _ upd_same
theorem de_mkO (h : RaiseO X.K X.mg x c) (gl : Gl X x) (hdb : (x == ("__debug__" : Str)) = false := by decide) : DE X E (.Call (.Name x p) [.Constant (.str m) jj p2] [] pos) (dMk0 c) := by
  obtain ⟨C, hC, q, hm, kC, bP, tP⟩ := h.ok
  refine ⟨fun B => pe_mono (pe_mk (pmk_own PySem.F.excBase_ValueError q hm kC (raises_own bP tP) gl hdb)) fun σ H Q q => ?_⟩
  obtain ⟨δ, S, W, Q', R, q, xo, post⟩ := q
  intro a na
  have R3 := R.new (o := ExV a (.ref C) none) na
  exact post _ _ _ _ _ q (Ex.new (R.ex.none na)) R3 (.exc0 (by rw [hC]; exact upd_same))
end
def tiS : Scope := { kind := .function, names := [(PySem.Str.ofString "self", .local), (PySem.Str.ofString "at", .local), (PySem.Str.ofString "RoomError", .globalImplicit)], isGenerator := false, isCoroutine := false, more := [] }
def tiB (m : Str) (j : Nat) (p1 p2 p3 p4 p5 p6 q1 q2 q3 q4 : Pos) : List Stmt := [.Expr (.Call (.Attribute (.Name "RoomError" p1) "__init__" p2) [.Name "self" p3, .Constant (.str m) j p4] [] p5) p6, .Assign [.Attribute (.Name "self" q1) "at" q2] (.Name "at" q3) q4]
def TiC (m : Str) (j : Nat) (p1 p2 p3 p4 p5 : Pos) : Prop := ∀ env : Env, ∃ pl : Sem Bool, eval (.Call (.Attribute (.Name "RoomError" p1) "__init__" p2) [.Name "self" p3, .Constant (.str m) j p4] [] p5) env = (do
      let ov ← eval (.Name "RoomError" p1) env
      standAt p2.atName
      let (f, first) ← holding [ov] (getMethod ov "__init__" pl)
      callWith p5 f first (backTo p5 (starEach [.Name "self" p3, .Constant (.str m) j p4] env)) (backToKw p5 (keywordEach [] env)))
def spTI (C : Addr) : Sp := fun vs H Q _ => ∃ a v, vs = [.ref a, v] ∧ H a = some (exo a C none) ∧ ∀ dx, H dx = none → dx ≠ a → Q .non (upd (upd H dx (exd dx [(("at" : Str), v)])) a (exo a C (some dx)))
theorem tiScope {st : Stmt} (hS : defScope st = tiS) : FnScope ["self", "at"] ["self", "at"] (defScope st) := by
  rw [hS]
  exact ⟨rfl, rfl, rfl, by decide +kernel, rfl, by decide +kernel, by decide +kernel⟩
section
variable {X : Cx} {e : Expr} {es : List Expr} {ta : TA} {p1 p2 pos : Pos} {x : Str} {C0 : Addr}
/-- C0.__init__(self, ..), C0 a class over ValueError without an __init__ of its own -/
theorem pe_clinit {pl : Sem Bool} (hg : Gl X x) (hm : X.mg x = some (.ref C0)) (ga : PySem.W.specialIn X.K (.ref C0) "__getattribute__" = some (some (.builtin "type.__getattribute__"))) (rd : PySem.W.readsIn X.K C0 (.type "type") = true)
    (vV : PySem.W.findCls X.K (.ref C0) (.type "type") "__init__" = some (.val (.builtin "ValueError.__init__"))) (ha : PA X (e :: es) ta)
    (hc : eval (.Call (.Attribute (.Name x p1) "__init__" p2) (e :: es) [] pos) X.env = (do
      let ov ← eval (.Name x p1) X.env
      standAt p2.atName
      let (f, first) ← holding [ov] (getMethod ov "__init__" pl)
      callWith pos f first (backTo pos (starEach (e :: es) X.env)) (backToKw pos (keywordEach [] X.env))) := by rfl)
    (he : starEach (e :: es) X.env = (false, eval e X.env) :: starEach es X.env := by rfl) (hpl : (backTo pos (starEach es X.env)).any (·.1) = false := by rfl) (hdb : (x == ("__debug__" : Str)) = false := by decide) :
    PE X (.Call (.Attribute (.Name x p1) "__init__" p2) (e :: es) [] pos) (tVeI X.K ta) := by
  refine ⟨fun pins s σ H Q I h => ?_⟩
  refine PySem.W.methodCall_KW (ld_glob I hg hm ?_ hdb) hc
  refine PySem.W.method_cls I.kIn ga (PySem.W.cls_value I.kIn rd vV (by decide +kernel) ?_)
  show wpAny _ _ (callWith pos (Value.builtin "ValueError.__init__") [] (backTo pos (starEach (e :: es) X.env)) []) _ _ _
  refine PyProof.Rows.callWith_method1 (thn (ha.run pos pins _ σ H _ (I.tok _) h) fun us s1 ⟨vs, H1, I1, r1, a, C, ws, ev, hl, T, ea, q⟩ => ?_) he hpl
  subst ev
  cases r1 with
  | @cons _ u0 _ ur ra rw' =>
    obtain rfl : u0 = Value.ref a := ra
    have hlen : ur.length ≤ sizeLine := by
      rw [← Paired.length rw', sizeLine_eq]
      omega
    exact oinit_ok T I1 ea hlen fun s' J => ⟨.non, H1, J, rfl, q⟩
end
section
variable {P : Program} {w : World} {mg : Str → Option Value} {base : Heap}
theorem ok_tinit {C fI C0 : Addr} {fd : FuncData} {qual : Str} {st : Stmt} {m : Str} {j : Nat} {p1 p2 p3 p4 p5 p6 q1 q2 q3 q4 : Pos} (F : Fun K "__init__" qual st fI fd) (hS : defScope st = tiS) (hB : defBody st = tiB m j p1 p2 p3 p4 p5 p6 q1 q2 q3 q4) (hc : TiC m j p1 p2 p3 p4 p5) (T : OexC K C)
    (hno : PySem.W.findIn K (.ref C) "at" = some none) (hK : mg "RoomError" = some (.ref C0)) (ga : PySem.W.specialIn K (.ref C0) "__getattribute__" = some (some (.builtin "type.__getattribute__"))) (rd : PySem.W.readsIn K C0 (.type "type") = true)
    (vV : PySem.W.findCls K (.ref C0) (.type "type") "__init__" = some (.val (.builtin "ValueError.__init__"))) : FnOk P w K mg base CX0 1 fI fd ["self", "at"] (spTI C) := by
  refine F.ok (tiScope hS) (fun vs H Q E h => by obtain ⟨a, v, rfl, _⟩ := h; rfl) fun cdv A outer s H vs Q E hr h => ?_
  have sc := tiScope hS
  rw [hB]
  revert sc
  rw [hS]
  intro sc
  obtain ⟨pl, hc⟩ := hc (cxOf CX0 P w K mg base ["self", "at"] qual tiS fI cdv A outer s H E).nox.env
  refine ⟨_, pss_cons (ps_expr (pe_clinit (by rfl) hK ga rd vV (pa_cons (pv 0) (pa_cons pe_str pa_nil)) hc)) (pss_one (ps_ost (pv 0) (pv 1))), ?_⟩
  obtain ⟨a, v, rfl, ha, q⟩ := h
  refine ⟨.ref a, rfl, a, C, _, rfl, by show 1 ≤ 1000; decide, T, ha, v, rfl, .ref a, rfl, a, C, rfl, T, hno, .inl ⟨ha, fun dx hd ne => q dx hd ne⟩⟩
/-- everything that raise x(..) wants, x of the number c with the field at -/
structure RaiseT (P : Program) (w : World) (K : PySem.W.Frag) (mg : Str → Option Value) (base : Heap) (x : Str) (c : Nat) : Prop where
  ok : ∃ (C fI : Addr) (fd : FuncData), TabC.xc c = .ref C ∧ OexC K C ∧ PySem.W.findIn K (.ref C) "__init__" = some (some (.ref fI)) ∧ PySem.W.typeIn K (.ref fI) = some (.type "function") ∧ mg x = some (.ref C) ∧
    FnOk P w K mg base CX0 1 fI fd ["self", "at"] (spTI C) ∧ Binds K fd ["self", "at"] []
end
section
variable {X : Cx} {E : EK} {e : Expr} {pos pos2 p p2 : Pos} {x m : Str} {c k : Nat} {da : dE} {jj : Nat}
theorem tmk_eq {H1 : Hp} {a dx C : Addr} {f : Str} {v : V} (na : H1 a = none) (ne : dx ≠ a) : upd (del (upd (upd (upd H1 a (exo a C none)) dx (exd dx [(f, v)])) a (exo a C (some dx))) a) dx (.xd [(f, v)]) = upd H1 dx (.xd [(f, v)]) := by
  funext b
  by_cases z : b = dx
  · rw [z, upd_same, upd_same]
  · rw [upd_ne z, upd_ne z]
    by_cases y : b = a
    · rw [y, del_same, na]
    · rw [del_ne y, upd_ne y, upd_ne z, upd_ne y]
theorem de_mkT (h : RaiseT X.prog X.w X.K X.mg X.base x c) (hr : Room k X.A) (gl : Gl X x) (ha : DE X E e da) (hk : 2 ≤ k := by decide) (hdb : (x == ("__debug__" : Str)) = false := by decide)
    (he : starEach [e] X.env = (false, eval e X.env) :: starEach [] X.env := by rfl) (hpl : (backTo pos (starEach [] X.env)).any (·.1) = false := by rfl) : DE X E (.Call (.Name x p) [e] [] pos) (dMk1 c "at" da) := by
  obtain ⟨C, fI, fd, hC, T, iC, tI, hm, F1, hb⟩ := h.ok
  refine ⟨fun B => pe_mono (pe_mk (pmk_oex T iC tI F1 (hr.mono hk) hb .nil (fun _ _ _ _ _ _ _ z => z.elim) gl hm (pa_cons (ha.run B) pa_nil he) hdb he hpl)) fun σ H Q q => ?_⟩
  obtain ⟨δ, S, W, Q', R, q, xo, post⟩ := q
  refine ⟨δ, S, W, _, R, q, xo, fun y δ1 v S1 H1 q1 e1 R1 n1 => ?_⟩
  refine ⟨by show 1 ≤ 1000; decide, fun a na => ⟨a, v, rfl, upd_same, fun dx hd ne => ⟨rfl, dx, [(("at" : Str), v)], upd_same, by rw [upd_ne ne]; exact upd_same, ?_, fun b nb => ?_⟩⟩⟩
  · rw [upd_ne ne] at hd; exact hd
  · have hd1 : H1 dx = none := by rw [upd_ne ne] at hd; exact hd
    rw [tmk_eq na ne] at nb ⊢
    have R2 := R1.new (o := HO.xd [(("at" : Str), v)]) hd1
    have e2 : Ex S1 (upd S1 dx (HO.xd [(("at" : Str), v)])) := Ex.new (R1.ex.none hd1)
    have R3 := R2.new (o := ExV b (.ref C) (some dx)) nb
    have e3 := Ex.new (o := ExV b (.ref C) (some dx)) (R2.ex.none nb)
    refine post _ _ _ _ _ q1 ((e1.trans e2).trans e3) R3 (.exc (dx := dx) (v := v) ?_ ?_ (n1.mono (e2.trans e3)))
    · rw [hC]; exact upd_same
    · exact e3 _ _ upd_same
end
end Ev
namespace Ev
open PySem PySem.Spec PyProof.Rows L2
variable [TabC]
variable {K : PySem.W.Frag} {S S' H H' : Hp} {B : Bs} {δ : DS} {σ : L2.St}
/-- such a list: where, what it becomes -/
theorem Rel.kp (R : Rel K B δ S σ H) {j : Nat} {a : Addr} {ds : List D} (hj : δ.sl[j]? = some (Sl.kp a ds)) : ∃ vs, H a = some (.lst vs) ∧ DnA K S vs ds ∧ ∀ vs' ds', DnA K S vs' ds' → Rel K B (setSl δ j (.kp a ds')) S σ (upd H a (.lst vs')) := by
  obtain ⟨ow, h1, h2, h3, h4⟩ := id R.sl
  obtain ⟨vs, r1, r2, r3, r5, r6⟩ := h1 j _ hj
  refine ⟨vs, r5, r6, fun vs' ds' n => R.mut (fun _ z => nomatch z) hj (fun oa q => ?_) fun H1 e => ⟨vs', rfl, r2, r3, e, n⟩⟩
  obtain ⟨_, t1, _⟩ := q
  exact t1
section
variable {X : Cx} {E : EK} {e a b o : Expr} {es : List Expr} {pos p ap cp : Pos} {da db dn de : dE} {x : Str} {ta : dA}
/-- name.insert(n, e) -/
def dIns (i : Nat) (ta : dA) : dS := fun W N δ => (∃ ds, ownAt δ i = some ds) ∧ ta W δ fun xs δ1 => match xs with
  | [.int n, x] => optQ (ownAt δ1 i) fun ds => ds.length < sizeLine ∧ 0 ≤ n ∧ n < 2 ^ 63 ∧ N.nx (setOwnAt δ1 i (ds.take n.toNat ++ [x] ++ ds.drop n.toNat))
  | _ => False
/-- e.insert(n, x), e.append(x), e a list in a dict of one's own -/
def dKpIns (de : dE) (ta : dA) : dS := fun W N δ => de W δ fun y δ0 => ∃ a, y = .raw (.ref a) ∧ (∃ (j : Nat) (ds : List D), δ0.sl[j]? = some (Sl.kp a ds)) ∧ ta W δ0 fun xs δ1 => match xs with
  | [.int n, x] => 0 ≤ n ∧ n < 2 ^ 63 ∧ ∃ (j : Nat) (ds : List D), δ1.sl[j]? = some (Sl.kp a ds) ∧ ds.length < sizeLine ∧ N.nx (setSl δ1 j (Sl.kp a (ds.take n.toNat ++ [x] ++ ds.drop n.toNat)))
  | _ => False
def dKpApp (de dx : dE) : dS := fun W N δ => de W δ fun y δ0 => ∃ a, y = .raw (.ref a) ∧ (∃ (j : Nat) (ds : List D), δ0.sl[j]? = some (Sl.kp a ds)) ∧ dx W δ0 fun x δ1 => ∃ (j : Nat) (ds : List D), δ1.sl[j]? = some (Sl.kp a ds) ∧ ds.length < sizeLine ∧ N.nx (setSl δ1 j (Sl.kp a (ds ++ [x])))
/-- name[k] = a new list, a list of one's own from now on -/
def dKpPut (i : Nat) (dk : dE) (f : dF) : dS := fun W N δ => f W δ fun xs δ1 => isDict δ1 i ∧ ∃ j : Nat, δ1.sl[j]? = some Sl.un ∧ ∀ a, dk W (setSl δ1 j (Sl.kp a xs)) fun y δ2 => optQ (dictPut δ2 i y (.raw (.ref a))) N.nx
/-- name = {k: []}, a list of one's own from now on -/
def dKpNew (i : Nat) (k : Int) : dS := fun _ N δ => ∃ j : Nat, j ≠ i ∧ δ.sl[j]? = some Sl.un ∧ ∀ a, N.nx (setSl (setSl δ j (.kp a [])) i (.ownK [(.inl k, .raw (.ref a))]))
def tNil : TE := fun _ H Q => ∀ p, H p = none → Q (.ref p) (upd H p (.lst []))
end
end Ev
namespace Ev
open PySem PySem.Spec PyProof.Rows L2
variable [TabC]
variable {K : PySem.W.Frag} {S S' H H' : Hp} {B : Bs} {δ : DS} {σ : L2.St}
inductive KpV (δ : DS) : List (Key × D) → List (Key × D) → Prop
  | nil : KpV δ [] []
  | raw {j : Nat} {k : Key} {a : Addr} {ds : List D} {es fs : List (Key × D)} : δ.sl[j]? = some (.kp a ds) → KpV δ es fs → KpV δ ((k, .raw (.ref a)) :: es) ((k, .lst ds) :: fs)
/-- the look: the dict of slot i with its lists -/
def roK (δ : DS) (i : Nat) (d : D) : DS := ⟨(δ.sl.map roSl).set i (.dat d), none⟩
section
variable {X : Cx} {E : EK} {e : Expr} {d : dE} {f : dF} {t : dT}
def dRoK (i : Nat) (d : dE) : dE := fun _ δ Q => ∃ es fs, δ.sl[i]? = some (Sl.ownK es) ∧ KpV δ es fs ∧ d W0 (roK δ i (.dK fs)) fun x _ => x.solid = true ∧ Q x δ
def dRoL (i : Nat) (f : dF) : dF := fun _ δ Q => ∃ es, δ.sl[i]? = some (Sl.ownK es) ∧ f W0 (roK δ i (.fK es)) fun xs _ => (∀ x ∈ xs, x.solid = true) ∧ Q xs δ
end
end Ev
namespace Ev
open PySem PySem.Spec PyProof.Rows L2
variable [TabC]
variable {K : PySem.W.Frag} {S S' H H' : Hp} {B : Bs} {δ : DS} {σ : L2.St}
def unKp : Sl → Sl
  | .kp _ _ => .un
  | x => x
section
variable {X : Cx} {E : EK} {p : Pos} {x : Str}
def dKpFz (i : Nat) : dE := fun _ δ Q => ∃ es fs, δ.sl[i]? = some (Sl.ownK es) ∧ KpV δ es fs ∧ Q (.dK fs) ⟨(δ.sl.map unKp).set i (.dat (.dK fs)), δ.pen⟩
end
end Ev
namespace Ev
open PySem PySem.Spec PyProof.Rows L2
variable [TabC]
variable {K : PySem.W.Frag} {S S' H H' : Hp} {B : Bs} {δ : DS} {σ : L2.St}
section
variable {X : Cx} {E E2 : EK} {ke ve tg : Expr} {dk dv : dE} {pos : Pos}
def dNewK1 (i : Nat) (dk dv : dE) : dS := fun _ N δ => dk W0 δ fun y δ1 => dv W0 δ1 fun z δ2 => optQ y.key fun k => N.nx (setSl δ2 i (.ownK [(k, z)]))
end
end Ev
namespace Ev
open PySem PySem.Spec PyProof.Rows L2
variable [TabC]
section
variable {X : Cx} {E : EK} {a b : Expr} {pos p : Pos} {da db : dE} {x : Str}
/-- name, its dict given away -/
def dTakeN (i : Nat) : dE := fun _ δ Q => match δ.sl[i]? with
  | some (.ownN es) => Q (.fN es) (setSl δ i (.dat (.fN es)))
  | _ => False
/-- d[e], d such a dict -/
def dIxN (da db : dE) : dE := fun W δ Q => da W δ fun z δ1 => db W δ1 fun y δ2 => match z with
  | .fN es => optQ y.nkey fun k => optQ (valD es k) fun d => Q d δ2
  | _ => False
end
end Ev
namespace Ev
open PySem PySem.Spec PyProof.Rows L2
variable [TabC]
variable {K : PySem.W.Frag} {S S' H H' : Hp} {B : Bs} {δ : DS} {σ : L2.St}
section
variable {X : Cx} {E : EK} {e k f : Expr} {ap cp pos p : Pos} {da dk dx : dE} {x : Str} {ta : dA}
def ownKs (δ : DS) (i : Nat) : Prop := match δ.sl[i]? with | some (.ownK _) => True | _ => False
/-- name.get(k, x) of a dict of one's own with keys that are no None, k perhaps None -/
def dOwnGet2 (i : Nat) (dk dx : dE) : dE := fun W δ Q => isDict δ i ∧ dk W δ fun y δ1 => dx W δ1 fun z δ2 => match y with
  | .non => ownKs δ2 i ∧ Q z δ2
  | y => optQ (dictGet δ2 i y) fun r => Q (r.getD z) δ2
/-- [], a list of one's own that no name holds -/
def dKpL : dE := fun _ δ Q => ∃ j : Nat, δ.sl[j]? = some Sl.un ∧ ∀ a, Q (.raw (.ref a)) (setSl δ j (Sl.kp a []))
/-- name = dict(pairs), a dict of one's own -/
def dNewKd (i : Nat) (ta : dA) : dS := fun W N δ => ta W δ fun xs δ1 => match xs with
  | [.lst ds] => optQ (pairsOf ds) fun kvs => N.nx (setSl δ1 i (.ownK (mergeD [] kvs)))
  | _ => False
/-- dict(pairs), keys tuples, locked at once -/
def rDictPTf : DRC := fun xs Q => match xs with
  | [.lst ds] => optQ (pairsOfT ds) fun kvs => Q (.fT (mergeDT [] kvs))
  | _ => False
/-- name, a dict with its lists, locked from now on -/
def dKpLk (i : Nat) : dE := fun W δ Q => ∃ es fs, δ.sl[i]? = some (Sl.ownK es) ∧ KpV δ es fs ∧ dLock i W ⟨(δ.sl.map unKp).set i (.ownK fs), δ.pen⟩ Q
end
end Ev
namespace Ev
open PySem PySem.Spec PyProof.Rows L2
variable [TabC]
variable {K : PySem.W.Frag} {S S' H H' : Hp} {B : Bs} {δ : DS} {σ : L2.St}
def penK (ns : List Int) (k m : Int) : List (Key × D) := [(Sum.inr "cells", .lst (ns.map D.int)), (Sum.inr "at", .int k), (Sum.inr "left", .int m)]
theorem penK_cells {ns : List Int} {k m : Int} : valD (penK ns k m) (Sum.inr "cells") = some (.lst (ns.map D.int)) := rfl
theorem penK_at {ns : List Int} {k m : Int} : valD (penK ns k m) (Sum.inr "at") = some (.int k) := rfl
theorem penK_left {ns : List Int} {k m : Int} : valD (penK ns k m) (Sum.inr "left") = some (.int m) := rfl
theorem penK_pat {ns : List Int} {k m j : Int} : putD (penK ns k m) (Sum.inr "at") (.int j) = penK ns j m := rfl
theorem penK_pleft {ns : List Int} {k m j : Int} : putD (penK ns k m) (Sum.inr "left") (.int j) = penK ns k j := rfl
theorem ex_hpK {x : List (Key × D)} : (∃ es, Sl.hpK x = Sl.hpK es) = True := eq_true ⟨x, rfl⟩
theorem penK_len {ns : List Int} {k m : Int} : (penK ns k m).length = 3 := rfl
section
variable {X : Cx} {E : EK} {e b : Expr} {pos p tp : Pos} {x : Str} {da db : dE}
/-- name[e], the dict handed in -/
def dHGet (i : Nat) (d : dE) : dE := fun W δ Q => (∃ es, δ.sl[i]? = some (Sl.hpK es)) ∧ d W δ fun y δ1 => match δ1.sl[i]? with
  | some (.hpK es) => optQ y.key fun k => optQ (valD es k) fun z => Q z δ1
  | _ => False
/-- name[k] = v, the dict handed in -/
def dHPut (i : Nat) (dk dv : dE) : dS := fun W N δ => dv W δ fun z δ1 => (∃ es, δ1.sl[i]? = some (Sl.hpK es)) ∧ dk W δ1 fun y δ2 => match δ2.sl[i]? with
  | some (.hpK es) => optQ y.key fun k => es.length < sizeLine ∧ N.nx (setSl δ2 i (.hpK (putD es k z)))
  | _ => False
end
section
variable {X : Cx} {E E2 : EK} {e : Expr} {pos p : Pos} {da : dE}
/-- {"cells": e, "at": 0, "left": 0}: from here on it is the pen -/
def dBornK (d : dE) : dE := fun _ δ Q => d W0 δ fun x δ1 => δ1.pen = none ∧ ∃ ns : List Int, x = .lst (ns.map D.int) ∧ ns.length ≤ 63 ∧ ∀ a, Q (.raw (.ref a)) { δ1 with pen := some (a, 0) }
end
end Ev
namespace Ev
open PySem PySem.Spec PyProof.Rows L2
variable [TabC]
def kitS (t : String) : List String → Option Bool
  | [] => some false
  | n :: ns => optQB (kitB t n) (kitS t ns)
where optQB : Option Bool → Option Bool → Option Bool
  | some true, _ => some true
  | some false, r => r
  | none, _ => none
def rIsS (ns : List String) : DRC := fun xs Q => match xs with
  | [d, .tup ts] => ts = ns.map D.cls ∧ optQ d.ty fun t => optQ (kitS t ns) fun b => Q (.bl b)
  | _ => False
end Ev
namespace Ev
open PySem PySem.Spec PyProof.Rows L2
variable [TabC]
def D.isB (b : Bool) : D → Bool | .bl a => decide (a = b) | .raw v => decide (v = .bl b) | _ => false
theorem Dn.isB {K : PySem.W.Frag} {S : Hp} {v : V} {d : D} {b : Bool} (h : Dn K S v d) : decide (v = .bl b) = d.isB b := by
  cases h <;> simp [D.isB]
def rIsA (neg : Bool) : DR2 := fun x y Q => match y with | .bl b => Q (.bl (if neg then !x.isB b else x.isB b)) | _ => False
section
variable {X : Cx}
def gIx (i : Nat) (di : dE) : dG := fun x δ Q => (∃ ds, ownAt δ i = some ds) ∧ di W0 δ fun y δ2 => match y with
  | .int k => optQ (ownAt δ2 i) fun ds => optQ (ixN ds.length k) fun j => Q (setOwnAt δ2 i (ds.set j x))
  | _ => False
end
end Ev
namespace Ev
open PySem PySem.Spec PyProof.Rows L2
end Ev
namespace Ev
open PySem PySem.Spec PyProof.Rows L2
end Ev
namespace Ev
open PySem PySem.Spec PyProof.Rows L2
end Ev
namespace Ev
open PySem PySem.Spec PyProof.Rows L2
end Ev
namespace Ev
open PySem PySem.Spec PyProof.Rows L2
end Ev
namespace Ev
open PySem PySem.Spec PyProof.Rows L2
variable [TabC]
theorem pl_list {h : Heap} {a : Addr} {its : Array Value} (x : PlainL h a its) : h.IsList a its := by
  obtain ⟨o, n, e, c, _, d⟩ := x
  exact ⟨o, e, c, n, d⟩
def rEL (neg : Bool) : DR2 := fun x y Q => match x, y with | .lst xs, .lst [] => Q (.bl (if neg then !xs.isEmpty else xs.isEmpty)) | _, _ => False
theorem od_neL {X : Cx} (hu : X.A.units < cLine) : OpD X (compareOp .NotEq) (rEL true) := fun pins s σ H x y v u Q I rx ry ⟨S, dx, dy, Q', ex, n1, n2, q, post⟩ => by
  match dx, dy, n1, n2, q with
  | .lst xs, .lst [], .lst (a := a) (vs := vs) h1 a1, .lst (a := b) h2 a2, q =>
    cases a2
    cases rx
    cases ry
    obtain ⟨its, rv, ht, _⟩ := I.list (SqL.of (K := X.K) (ex _ _ h1))
    obtain ⟨its2, rv2, ht2, _⟩ := I.list (SqL.of (K := X.K) (ex _ _ h2))
    cases rv2
    have l : xs.length = its.length := a1.length.symm.trans rv.length
    cases xs with
    | nil =>
      cases its with
      | cons => cases l
      | nil => exact (SeqAt.RcNeAt.lists (items := #[]) (items2 := #[]) (e := fun _ => true) (pl_list ht) (pl_list ht2) rfl hu (fun j h _ => absurd h (by simp))) _ _ _ _ ⟨.bl false, H, I, rfl, post _ _ _ _ q (Grow.refl ex) (.bl _)⟩
    | cons x xs =>
      cases its with
      | nil => cases l
      | cons z its => exact (SeqAt.RcNeAt.lists_lengths (pl_list ht) (pl_list ht2) (by simp) hu) _ _ _ _ ⟨.bl true, H, I, rfl, post _ _ _ _ q (Grow.refl ex) (.bl _)⟩
end Ev
namespace Ev
open PySem PySem.Spec PyProof.Rows L2
variable [TabC]
def rNeE : DR2 := fun x y Q => match x, y with | .tup xs, .tup [] => Q (.bl (!xs.isEmpty)) | _, _ => False
end Ev
namespace Ev
open PySem PySem.Spec PyProof.Rows L2
variable [TabC]
def rIsSK (ns : List String) : DRC := fun xs Q => match xs with
  | [.kt _, .tup ts] => ts = ns.map D.cls ∧ optQ (kitS "tuple" ns) fun b => Q (.bl b)
  | _ => rIsS ns xs Q
theorem TupN.ty {K : PySem.W.Frag} {S H : Hp} {a : Addr} {vs : List V} (h : TupN K S a vs) (ex : Ex S H) : TyX K H (.ref a) (.type "tuple") := by
  rcases h with ⟨⟨o, its, n, h1, h2, _⟩, _⟩ | ⟨o, _, h1⟩
  · exact .kTuple h1 h2
  · exact .fTuple (ex _ _ h1)
def rTupleK : DRC := fun xs Q => match xs with | [.kt ds] => Q (.kt ds) | _ => rTuple xs Q
def rAddK : DR2 := fun x y Q => match x, y with
  | .tup i, .kt j => i ≠ [] ∧ i.length + j.length ≤ sizeLine ∧ Q (.tup (i ++ j))
  | _, _ => rAddD x y Q
end Ev
namespace Ev01
open PySem PySem.Spec PyProof.Rows L2 Ev Pt
local macro_rules
  | `(tactic| simp only [DSIMP, $as,*] $[$l:location]?) => `(tactic| simp only [dMk1, dMk0, rIsSK, rTupleK, rAddK, rNeE, rEL, List.isEmpty_nil, List.isEmpty_cons, gIx, rIsA, rIsS, kitS, kitS.optQB, D.cls, dHGet, dHPut, dBornK, penK_cells, penK_at, penK_left, penK_pat, penK_pleft, penK_len, ex_hpK, dOwnGet2, ownKs, dKpL, dNewKd, dKpLk, rDictPTf, dRaise1, dRaise0, excD, dTry, wTry, Ev.rIsE, Ev.rIsEt, D.xcN, dFldE, dCallVX, WP, exS_tab, dTakeN, dIxN, dKpNew, dKpPut, dKpIns, dKpApp, dKpFz, dRoK, dRoL, dNewK1, dIns, roK, dZipM, dNGet, dNPut, dNewN, isNo, Ev.nGet, Ev.nPut, D.nkey, dOrX, truD, rDictX, dTupN, dSlN, rAddN, rSrtN, rTupleN, rDictN, dSlX, dRevX, dLenSetN, dEmptyV, rLtX, rMulX, Ev.rReprX, dPenS, gStarDL, dAug, dIndexE, dZipS, dGcIn, dGbIx, dGdIn, dGdIx, dListRg, rDictPf, dZipL, dListKo, dEmptyT, dDispT1, dNeE, rListA, rDictPT, rIsTF, dGroup, rSrtA, rLenA, dInV, dIxV, dCount, dSortKo, dCallR, adD, gL, dDN, dLN, wNest, bNest, bEl, bEd, dZip, seqOf, dSortDK, dCallV, dCallLam, optQ, dEnum, D.nf, D.nfs, Ev.rSumD, dLock, dKeysI, gStarD, dReverse, dMove, dDGet2, getD2, D.isD, dDisp, dPairs, keysD, Ev.rMaxD, Ev.rMinD, rDictP, Option.getD_some, Option.getD_none, Ev.D.eq_refl, dPen1, dLenSet, dSrtR, dRo, dRoF, dRoT, roD, ro_un, ro_dat, ro_own, ro_hp, ro_law, ro_ownK, ro_ownT, List.forall_mem_map, flat_int, flat_str, flat_bl, flat_non, solid_int, solid_str, solid_bl, solid_non, solid_tup, solids_nil, solids_cons, dSeq, dNext, dSet, dSetF, setSl, dVar, dTake, dC, dBin, dBinF, dB, dIfS, dIf, dRet, dRetN, dExpr, dNil, dCons, dTup, dLst, dFz, dAnd, dOr, dNot, dAndV, dOrV, dNotV, dCallD, dCallK, dCB, dCBF, dFor, dLC, dYes, dRng1, dRng2, dSeqI, gN, gT, gsNil, gsCons, dAsg, dNeg, dJoin, dFs, dJs, dFmt, dApp, dExt, dPop, dPopAt, dOwnIx, dOwnCB, dOwnL, dOwnR, dOwnSl, dSetIx, dSlT, dSlL, oNone, oSome, dBorn, optQ, ownAt, setOwnAt, lookAt, wipeD, dNewDT, dNewDK, dDGet, dDIn, dDPut, dSortT, rSrt, isDict, Ev.dictGet, Ev.dictPut, Option.isSome_none, Option.isSome_some, D.keyT, keysOf, D.key, exists_eq_left', exists_eq_left, Option.isSome, rRepL, rCatL, dRetF, dIfF, dPar, dRetOwn, dCallL, dCallLK, dPen2, dRev, dRevI, dIndex, endsL, startL, dNever, dBrk, dCnt, rAddD, rSubI, rIO, rMulI, rDivI, rModI, rPowI, rCI, Ev.rIxD, rIsN, rNotN, D.isN, Ev.rLen, rTuple, rList, rAbs, rInt, rStr, Ev.rRepr, Ev.rIsi, D.ty, kit_tab, startD, endsD, List.map_cons, List.map_nil, List.length_cons, List.length_nil, List.append_nil, List.nil_append, List.cons_append, List.getElem?_cons_zero, List.getElem?_cons_succ, List.getElem?_nil, List.set_cons_zero, List.set_cons_succ, List.replicate, List.replicate_succ, Nat.zero_add, Nat.zero_le, sizeLine, true_and, and_true, if_true, Ev.eq_int, Ev.eq_str, Ev.eq_bl, Ev.eq_non, lst_nil, tup_nil, List.map_eq_nil_iff, txt_join, rLt, rLe, rGt, rGe, atI_ofNat, atI_last, wLC, strsOf, intsOf, blsOf, Option.map_some, Ev.join_two, Ev.join_one, Ev.join_nil, List.sum_cons, List.sum_nil, PySem.Str.empty_append, ixN_ofNat, Option.some.injEq, exists_eq', List.length_map, decide_true, decide_false, Bool.not_true, Bool.not_false, Bool.true_eq_false, Bool.false_eq_true, false_and, and_false, if_false, ite_true, ite_false, Nat.reduceAdd, Nat.reduceSub, Nat.reduceMul, Nat.reduceLT, Nat.reduceLeDiff, Nat.reduceEqDiff, Nat.reducePow, Int.reduceToNat, Int.reducePow, pickL, List.filterMap_cons, List.filterMap_nil, and_self, Int.reduceLT, Int.reduceLE, Int.reduceNeg, Int.reduceAdd, Int.reduceMul, Int.reduceSub, Int.reduceEq, reduceIte, reduceCtorEq, lit_eq, String.reduceEq, Ev.rEq, Ev.rNe, Ev.rInD, cut_toN, cut_fromN, List.map_take, List.forall_mem_cons, List.forall_mem_nil, List.not_mem_nil, false_imp_iff, implies_true, forall_const, D.cm, D.lay, D.lays, D.dep, D.deps, strOk_lit, lays_ints, deps_ints, Nat.max_self, Nat.max_zero, Nat.zero_max, Bool.and_self, Bool.true_and, Bool.and_true, Bool.and_false, Bool.false_and, Bool.or_false, Bool.or_true, Bool.true_or, Bool.false_or, List.any_cons, List.any_nil, decide_eq_true_eq, eq_self, $as,*] $[$l]?)
  | `(tactic| simp only [DSIMP] $[$l:location]?) => `(tactic| simp only [dMk1, dMk0, rIsSK, rTupleK, rAddK, rNeE, rEL, List.isEmpty_nil, List.isEmpty_cons, gIx, rIsA, rIsS, kitS, kitS.optQB, D.cls, dHGet, dHPut, dBornK, penK_cells, penK_at, penK_left, penK_pat, penK_pleft, penK_len, ex_hpK, dOwnGet2, ownKs, dKpL, dNewKd, dKpLk, rDictPTf, dRaise1, dRaise0, excD, dTry, wTry, Ev.rIsE, Ev.rIsEt, D.xcN, dFldE, dCallVX, WP, exS_tab, dTakeN, dIxN, dKpNew, dKpPut, dKpIns, dKpApp, dKpFz, dRoK, dRoL, dNewK1, dIns, roK, dZipM, dNGet, dNPut, dNewN, isNo, Ev.nGet, Ev.nPut, D.nkey, dOrX, truD, rDictX, dTupN, dSlN, rAddN, rSrtN, rTupleN, rDictN, dSlX, dRevX, dLenSetN, dEmptyV, rLtX, rMulX, Ev.rReprX, dPenS, gStarDL, dAug, dIndexE, dZipS, dGcIn, dGbIx, dGdIn, dGdIx, dListRg, rDictPf, dZipL, dListKo, dEmptyT, dDispT1, dNeE, rListA, rDictPT, rIsTF, dGroup, rSrtA, rLenA, dInV, dIxV, dCount, dSortKo, dCallR, adD, gL, dDN, dLN, wNest, bNest, bEl, bEd, dZip, seqOf, dSortDK, dCallV, dCallLam, optQ, dEnum, D.nf, D.nfs, Ev.rSumD, dLock, dKeysI, gStarD, dReverse, dMove, dDGet2, getD2, D.isD, dDisp, dPairs, keysD, Ev.rMaxD, Ev.rMinD, rDictP, Option.getD_some, Option.getD_none, Ev.D.eq_refl, dPen1, dLenSet, dSrtR, dRo, dRoF, dRoT, roD, ro_un, ro_dat, ro_own, ro_hp, ro_law, ro_ownK, ro_ownT, List.forall_mem_map, flat_int, flat_str, flat_bl, flat_non, solid_int, solid_str, solid_bl, solid_non, solid_tup, solids_nil, solids_cons, dSeq, dNext, dSet, dSetF, setSl, dVar, dTake, dC, dBin, dBinF, dB, dIfS, dIf, dRet, dRetN, dExpr, dNil, dCons, dTup, dLst, dFz, dAnd, dOr, dNot, dAndV, dOrV, dNotV, dCallD, dCallK, dCB, dCBF, dFor, dLC, dYes, dRng1, dRng2, dSeqI, gN, gT, gsNil, gsCons, dAsg, dNeg, dJoin, dFs, dJs, dFmt, dApp, dExt, dPop, dPopAt, dOwnIx, dOwnCB, dOwnL, dOwnR, dOwnSl, dSetIx, dSlT, dSlL, oNone, oSome, dBorn, optQ, ownAt, setOwnAt, lookAt, wipeD, dNewDT, dNewDK, dDGet, dDIn, dDPut, dSortT, rSrt, isDict, Ev.dictGet, Ev.dictPut, Option.isSome_none, Option.isSome_some, D.keyT, keysOf, D.key, exists_eq_left', exists_eq_left, Option.isSome, rRepL, rCatL, dRetF, dIfF, dPar, dRetOwn, dCallL, dCallLK, dPen2, dRev, dRevI, dIndex, endsL, startL, dNever, dBrk, dCnt, rAddD, rSubI, rIO, rMulI, rDivI, rModI, rPowI, rCI, Ev.rIxD, rIsN, rNotN, D.isN, Ev.rLen, rTuple, rList, rAbs, rInt, rStr, Ev.rRepr, Ev.rIsi, D.ty, kit_tab, startD, endsD, List.map_cons, List.map_nil, List.length_cons, List.length_nil, List.append_nil, List.nil_append, List.cons_append, List.getElem?_cons_zero, List.getElem?_cons_succ, List.getElem?_nil, List.set_cons_zero, List.set_cons_succ, List.replicate, List.replicate_succ, Nat.zero_add, Nat.zero_le, sizeLine, true_and, and_true, if_true, Ev.eq_int, Ev.eq_str, Ev.eq_bl, Ev.eq_non, lst_nil, tup_nil, List.map_eq_nil_iff, txt_join, rLt, rLe, rGt, rGe, atI_ofNat, atI_last, wLC, strsOf, intsOf, blsOf, Option.map_some, Ev.join_two, Ev.join_one, Ev.join_nil, List.sum_cons, List.sum_nil, PySem.Str.empty_append, ixN_ofNat, Option.some.injEq, exists_eq', List.length_map, decide_true, decide_false, Bool.not_true, Bool.not_false, Bool.true_eq_false, Bool.false_eq_true, false_and, and_false, if_false, ite_true, ite_false, Nat.reduceAdd, Nat.reduceSub, Nat.reduceMul, Nat.reduceLT, Nat.reduceLeDiff, Nat.reduceEqDiff, Nat.reducePow, Int.reduceToNat, Int.reducePow, pickL, List.filterMap_cons, List.filterMap_nil, and_self, Int.reduceLT, Int.reduceLE, Int.reduceNeg, Int.reduceAdd, Int.reduceMul, Int.reduceSub, Int.reduceEq, reduceIte, reduceCtorEq, lit_eq, String.reduceEq, Ev.rEq, Ev.rNe, Ev.rInD, cut_toN, cut_fromN, List.map_take, List.forall_mem_cons, List.forall_mem_nil, List.not_mem_nil, false_imp_iff, implies_true, forall_const, D.cm, D.lay, D.lays, D.dep, D.deps, strOk_lit, lays_ints, deps_ints, Nat.max_self, Nat.max_zero, Nat.zero_max, Bool.and_self, Bool.true_and, Bool.and_true, Bool.and_false, Bool.false_and, Bool.or_false, Bool.or_true, Bool.true_or, Bool.false_or, List.any_cons, List.any_nil, decide_eq_true_eq, eq_self] $[$l]?)
variable [TabC] [PkL]
def topS (i : Nat) : Stmt := PySem.Challenge.pw_eventrooms_k01_boxes_and_parts_known.main.body.getD i (.Pass ⟨0, 0, 0, 0⟩)
def sp_joined_stretches : dSp := fun ds p Q _ => ∃ ss : List Sg, ds = [.lst (ss.map sgD)] ∧ ss.length ≤ 16000000 ∧ (∀ s ∈ ss, s.1 < s.2) ∧ ∀ tt : List Sg, CanS tt → (∀ x, inS tt x = inS ss x) → Q (.tup (tt.map sgD)) p
abbrev s_joined_stretches : Stmt := topS 5
abbrev n_joined_stretches : List Str := ["stretches", "found", "start", "end", "first", "last"]
theorem sc_joined_stretches : FnScope n_joined_stretches ["stretches"] (defScope s_joined_stretches) := ⟨rfl, rfl, rfl, by decide +kernel, rfl, by decide +kernel, by decide +kernel⟩
def p_joined_stretches_x2_0 : dS := (dAsg (dPop 1) (gT 2 (gsCons (gN 4) (gsCons (gN 5) gsNil))))
def p_joined_stretches_x2_1 : dS := (dApp 1 (dTup (dCons (dVar 4) (dCons (dCB Ev.rMaxD (dCons (dVar 5) (dCons (dVar 3) dNil))) dNil))))
def b_joined_stretches_x2_1 : dS := p_joined_stretches_x2_1
def b_joined_stretches_x2_0 : dS := dSeq (p_joined_stretches_x2_0) (b_joined_stretches_x2_1)
def b_joined_stretches_f1 : dS := (dIfS (dAnd (dB (dOwnL 1 (rNe) (dFz (dLst dNil)))) (dB (dBin (rLe) (dVar 2) (dBin rIxD (dOwnIx 1 (dC (.int (-1)))) (dC (.int 1)))))) b_joined_stretches_x2_0 (dApp 1 (dTup (dCons (dVar 2) (dCons (dVar 3) dNil)))))
def p_joined_stretches_0 : dS := (dSetF 1 (dLst dNil))
def p_joined_stretches_1 : dS := (dFor (dSeqI (dFz (dCBF rSrt (dCons (dVar 0) dNil)))) (gT 2 (gsCons (gN 2) (gsCons (gN 3) gsNil))) b_joined_stretches_f1)
def p_joined_stretches_2 : dS := (dRet (dCB rTuple (dCons (dTake 1) dNil)))
def b_joined_stretches_2 : dS := p_joined_stretches_2
def b_joined_stretches_1 : dS := dSeq (p_joined_stretches_1) (b_joined_stretches_2)
def b_joined_stretches_0 : dS := dSeq (p_joined_stretches_0) (b_joined_stretches_1)
def b_joined_stretches : dS := b_joined_stretches_0
theorem run_joined_stretches {P : Program} {w : World} {K : PySem.W.Frag} {mg : Str → Option Value} {base : Heap} (m_max : mg "max" = none) (m_sorted : mg "sorted" = none) (m_tuple : mg "tuple" = none) {f : Addr} (cdv : Value) (A : Around) (out : List Env) (s : Shared) (H : Hp) (E : XK) (g : A.guards = some []) (hrA : Room 0 (A.deeper (envOfC "joined_stretches" (defScope s_joined_stretches) s.heap.objs.size f cdv))) :
  DSs (cx0 P w K mg base n_joined_stretches "joined_stretches" (defScope s_joined_stretches) f cdv A out s H E) E00 (defBody s_joined_stretches) b_joined_stretches := by
 have hgA : (A.deeper (envOfC "joined_stretches" (defScope s_joined_stretches) s.heap.objs.size f cdv)).guards = some [] := g
 have hun := hrA.un
 exact (dss_cons (t := p_joined_stretches_0) (u := b_joined_stretches_1) (ds_setF (i := 1) sc_joined_stretches.nd rfl (by first | exact .inl rfl | exact .inr rfl) (df_lst da_nil))
  (dss_cons (t := p_joined_stretches_1) (u := b_joined_stretches_2) (ds_for PassesOwn.never rfl (di_seq (de_fz (df_callB (cd_sorted (Nat.lt_of_le_of_lt (Nat.add_le_add_left (by decide) _) hun)) (by rfl) m_sorted (by decide +kernel) (da_cons (de_var (pv 0)) da_nil)))) (dg_tup rfl (dgs_cons (dg_name (pg_name (i := 2) sc_joined_stretches.nd rfl (by first | exact .inl rfl | exact .inr rfl))) (dgs_cons (dg_name (pg_name (i := 3) sc_joined_stretches.nd rfl (by first | exact .inl rfl | exact .inr rfl))) dgs_nil))) (dss_one (ds_if ((dw_and (dt_ownL (od_ne (Nat.lt_of_le_of_lt (Nat.add_le_add_left (by decide) _) hun)) (pv 1) (de_fz (df_lst da_nil)) (nomark _)) (dw_and1 (dt_cmp (od_le) (de_var (pv 2)) (de_ix (de_ownIx (pv 1) de_neg (fun _ _ => rfl)) de_int (fun _ _ => rfl)) (nomark _))))).dt (dss_cons (t := p_joined_stretches_x2_0) (u := b_joined_stretches_x2_1) (ds_asg (de_pop (pv 1)) (dg_tup rfl (dgs_cons (dg_name (pg_name (i := 4) sc_joined_stretches.nd rfl (by first | exact .inl rfl | exact .inr rfl))) (dgs_cons (dg_name (pg_name (i := 5) sc_joined_stretches.nd rfl (by first | exact .inl rfl | exact .inr rfl))) dgs_nil))))
  (dss_one (t := p_joined_stretches_x2_1) (ds_app (pv 1) (de_tup (da_cons (de_var (pv 4)) (da_cons (de_callB (cd_max rfl) (by rfl) m_max (by decide +kernel) (da_cons (de_var (pv 5)) (da_cons (de_var (pv 3)) da_nil))) da_nil)))))) (dss_one (ds_app (pv 1) (de_tup (da_cons (de_var (pv 2)) (da_cons (de_var (pv 3)) da_nil))))))))
  (dss_one (t := p_joined_stretches_2) (ds_ret (de_callTy (cd_tuple) (by rfl) m_tuple (by decide +kernel) (da_cons (de_take (pv 1)) da_nil))))))
theorem inS_perm {a b : List Sg} (h : a.Perm b) (x : Int) : inS a x = inS b x := by
  apply bool_ext
  rw [inS_iff, inS_iff]
  exact ⟨fun ⟨s, h1, h2⟩ => ⟨s, h.mem_iff.mp h1, h2⟩, fun ⟨s, h1, h2⟩ => ⟨s, h.mem_iff.mpr h1, h2⟩⟩
def jS (d : D) (racc : List Sg) (s2 s3 s4 s5 : Sl) : List Sl := [.dat d, .own (racc.reverse.map sgD), s2, s3, s4, s5]
theorem rev_last {α : Type} {l : α} {r : List α} {f : α → D} : atI ((l :: r).reverse.map f) (-1) = some (f l) := by
  rw [atI_neg1]; simp
theorem rev_ne {α : Type} {l : α} {r : List α} : ((l :: r).reverse = []) = False := by simp
theorem rev_pop {α : Type} {l : α} {r : List α} {f : α → D} : ((l :: r).reverse.map f)[(l :: r).reverse.length - 1]? = some (f l) := by simp
theorem rev_drop {α : Type} {l : α} {r : List α} {f : α → D} : ((l :: r).reverse.map f).dropLast = r.reverse.map f := by
  rw [List.reverse_cons, List.map_append, List.map_singleton, List.dropLast_concat]
theorem rev_app {α : Type} {l : α} {r : List α} {f : α → D} : r.reverse.map f ++ [f l] = (l :: r).reverse.map f := by
  rw [List.reverse_cons, List.map_append, List.map_singleton]
theorem dep_sgs63 (ss : List Sg) : D.deps (ss.map sgD) ≤ 63 := Nat.le_trans (dep_sgs ss) (by decide)
theorem loop_joined {d0 : D} {p : Pen} {N : dEnds} : ∀ (r racc : List Sg) (s2 s3 s4 s5 : Sl), racc.length + r.length ≤ 16000000 → (∀ s2 s3 s4 s5, N.nx ⟨jS d0 (joinR racc r) s2 s3 s4 s5, p⟩) →
    wFor (gT 2 (gsCons (gN 2) (gsCons (gN 3) gsNil))) b_joined_stretches_f1 W0 N (r.map sgD) ⟨jS d0 racc s2 s3 s4 s5, p⟩
  | [], racc, s2, s3, s4, s5, _, h => by
    have e : joinR racc [] = racc := by cases racc <;> rfl
    rw [e] at h
    exact h _ _ _ _
  | s :: r, [], s2, s3, s4, s5, hl, h => by
    have ih := loop_joined (d0 := d0) (p := p) (N := N) r [s]
    rw [List.map_cons, wFor]
    generalize wFor (gT 2 (gsCons (gN 2) (gsCons (gN 3) gsNil))) b_joined_stretches_f1 W0 N (r.map sgD) = k at ih ⊢
    unfold jS at ih h ⊢
    simp only [DSIMP, b_joined_stretches_f1, sgD, List.reverse_nil]
    rw [List.length_cons, List.length_nil] at hl
    exact ih _ _ _ _ (by simp only [List.length_cons, List.length_nil]; omega) h
  | s :: r, l :: racc, s2, s3, s4, s5, hl, h => by
    rw [List.map_cons, wFor]
    have ih1 := loop_joined (d0 := d0) (p := p) (N := N) r ((l.1, if s.2 > l.2 then s.2 else l.2) :: racc)
    have ih2 := loop_joined (d0 := d0) (p := p) (N := N) r (s :: l :: racc)
    generalize wFor (gT 2 (gsCons (gN 2) (gsCons (gN 3) gsNil))) b_joined_stretches_f1 W0 N (r.map sgD) = k at ih1 ih2 ⊢
    rw [joinR] at h
    simp only [List.length_cons] at hl ih1 ih2
    unfold jS at ih1 ih2 h ⊢
    have hz : (l :: racc).reverse.length < 16777216 := by rw [List.length_reverse, List.length_cons]; omega
    have hz2 : racc.reverse.length < 16777216 := by rw [List.length_reverse]; omega
    simp only [DSIMP, b_joined_stretches_f1, rev_last, rev_ne, lay_sgs, dep_sgs63, sgD.eq_1 s, sgD.eq_1 l]
    by_cases q : s.1 ≤ l.2
    · rw [if_pos q] at h
      simp only [DSIMP, b_joined_stretches_x2_0, p_joined_stretches_x2_0, b_joined_stretches_x2_1, p_joined_stretches_x2_1, q, rev_pop, rev_drop, sgD.eq_1 l, hz2]
      by_cases q2 : s.2 > l.2
      · simp only [DSIMP, q2]
        rw [if_pos q2] at ih1 h
        have w := ih1 (.dat (.int s.1)) (.dat (.int s.2)) (.dat (.int l.1)) (.dat (.int l.2)) (by omega) h
        rw [← rev_app] at w
        exact w
      · simp only [DSIMP, q2]
        rw [if_neg q2] at ih1 h
        have w := ih1 (.dat (.int s.1)) (.dat (.int s.2)) (.dat (.int l.1)) (.dat (.int l.2)) (by omega) h
        rw [← rev_app] at w
        exact w
    · rw [if_neg q] at h
      simp only [DSIMP, q, hz]
      have w := ih2 (.dat (.int s.1)) (.dat (.int s.2)) s4 s5 (by omega) h
      rw [← rev_app] at w
      exact w
theorem hsp_joined_stretches : ∀ ds p Q W, ds.length = 1 → sp_joined_stretches ds p Q W → b_joined_stretches W0 (endsD Q) (startD n_joined_stretches.length ds p) := by
  rintro _ p Q W - ⟨ss, rfl, hl, pos, q⟩
  have hs : ss.length ≤ sizeLine := by rw [sizeLine_eq]; omega
  obtain ⟨m, em, pm, wm⟩ := sorted_sgs ss
  simp only [DSIMP, b_joined_stretches, n_joined_stretches, p_joined_stretches_x2_0, p_joined_stretches_x2_1, b_joined_stretches_x2_1, b_joined_stretches_x2_0, p_joined_stretches_0, p_joined_stretches_1, p_joined_stretches_2, b_joined_stretches_2, b_joined_stretches_1, b_joined_stretches_0, em]
  refine ⟨srt_sgs hs, ?_⟩
  have ml := pm.length_eq
  have same : ∀ x, inS m x = inS ss x := fun x => inS_perm pm x
  refine loop_joined m [] _ _ _ _ (by rw [List.length_nil]; omega) fun s2 s3 s4 s5 => ?_
  obtain ⟨a, b⟩ := joined_ok (ss := m) (fun s h => pos s (pm.mem_iff.mp h)) wm
  exact q (joined m) a fun x => (b x).trans (same x)
theorem ok_joined_stretches {P : Program} {w : World} {K : PySem.W.Frag} {mg : Str → Option Value} {base : Heap} (m_max : mg "max" = none) (m_sorted : mg "sorted" = none) (m_tuple : mg "tuple" = none) {f : Addr} {fd : FuncData} (F : Fun K "joined_stretches" "joined_stretches" s_joined_stretches f fd) : FnG P w K mg base CX0 1 f fd ["stretches"] (spD K 1 sp_joined_stretches) :=
 fn_d0 F sc_joined_stretches rfl (fun cdv A out s H E g r => run_joined_stretches m_max m_sorted m_tuple cdv A out s H E g r) hsp_joined_stretches
def sp_part_by : dSp := fun ds p Q _ => ∃ r : List Band, ds = [.lst (r.map bdD)] ∧ r.length ≤ 8000000 ∧ (partBy r).length ≤ 8000000 ∧ Q (partD (partBy r)) p
abbrev s_part_by : Stmt := topS 7
abbrev n_part_by : List Str := ["bands", "joined", "top", "bottom", "stretches", "found", "start", "end"]
theorem sc_part_by : FnScope n_part_by ["bands"] (defScope s_part_by) := ⟨rfl, rfl, rfl, by decide +kernel, rfl, by decide +kernel, by decide +kernel⟩
def b_part_by_f1 : dS := (dIfS (dAnd (dB (dOwnL 1 (rNe) (dFz (dLst dNil)))) (dAnd (dB (dBin (rEq) (dBin rIxD (dOwnIx 1 (dC (.int (-1)))) (dC (.int 1))) (dVar 2))) (dB (dBin (rEq) (dBin rIxD (dOwnIx 1 (dC (.int (-1)))) (dC (.int 2))) (dVar 4))))) (dApp 1 (dTup (dCons (dBin rIxD (dPop 1) (dC (.int 0))) (dCons (dVar 3) (dCons (dVar 4) dNil))))) (dApp 1 (dTup (dCons (dVar 2) (dCons (dVar 3) (dCons (dVar 4) dNil))))))
def b_part_by_f2 : dS := (dExt 5 (dFz (dLC (dSeqI (dVar 4)) (gT 2 (gsCons (gN 6) (gsCons (gN 7) gsNil))) dYes (dTup (dCons (dVar 6) (dCons (dVar 2) (dCons (dBin rSubI (dVar 7) (dVar 6)) (dCons (dBin rSubI (dVar 3) (dVar 2)) dNil))))) [6, 7])))
def p_part_by_0 : dS := (dSetF 1 (dLst dNil))
def p_part_by_1 : dS := (dFor (dSeqI (dVar 0)) (gT 3 (gsCons (gN 2) (gsCons (gN 3) (gsCons (gN 4) gsNil)))) b_part_by_f1)
def p_part_by_2 : dS := (dSetF 5 (dLst dNil))
def p_part_by_3 : dS := (dFor (dSeqI (dTake 1)) (gT 3 (gsCons (gN 2) (gsCons (gN 3) (gsCons (gN 4) gsNil)))) b_part_by_f2)
def p_part_by_4 : dS := (dRet (dCB rTuple (dCons (dTake 5) dNil)))
def b_part_by_4 : dS := p_part_by_4
def b_part_by_3 : dS := dSeq (p_part_by_3) (b_part_by_4)
def b_part_by_2 : dS := dSeq (p_part_by_2) (b_part_by_3)
def b_part_by_1 : dS := dSeq (p_part_by_1) (b_part_by_2)
def b_part_by_0 : dS := dSeq (p_part_by_0) (b_part_by_1)
def b_part_by : dS := b_part_by_0
theorem run_part_by {P : Program} {w : World} {K : PySem.W.Frag} {mg : Str → Option Value} {base : Heap} (m_tuple : mg "tuple" = none) {f : Addr} (cdv : Value) (A : Around) (out : List Env) (s : Shared) (H : Hp) (E : XK) (g : A.guards = some []) (hrA : Room 0 (A.deeper (envOfC "part_by" (defScope s_part_by) s.heap.objs.size f cdv))) :
  DSs (cx0 P w K mg base n_part_by "part_by" (defScope s_part_by) f cdv A out s H E) E00 (defBody s_part_by) b_part_by := by
 have hgA : (A.deeper (envOfC "part_by" (defScope s_part_by) s.heap.objs.size f cdv)).guards = some [] := g
 have hun := hrA.un
 exact (dss_cons (t := p_part_by_0) (u := b_part_by_1) (ds_setF (i := 1) sc_part_by.nd rfl (by first | exact .inl rfl | exact .inr rfl) (df_lst da_nil))
  (dss_cons (t := p_part_by_1) (u := b_part_by_2) (ds_for PassesOwn.never rfl (di_seq (de_var (pv 0))) (dg_tup rfl (dgs_cons (dg_name (pg_name (i := 2) sc_part_by.nd rfl (by first | exact .inl rfl | exact .inr rfl))) (dgs_cons (dg_name (pg_name (i := 3) sc_part_by.nd rfl (by first | exact .inl rfl | exact .inr rfl))) (dgs_cons (dg_name (pg_name (i := 4) sc_part_by.nd rfl (by first | exact .inl rfl | exact .inr rfl))) dgs_nil)))) (dss_one (ds_if ((dw_and (dt_ownL (od_ne (Nat.lt_of_le_of_lt (Nat.add_le_add_left (by decide) _) hun)) (pv 1) (de_fz (df_lst da_nil)) (nomark _)) (dw_and (dt_cmp (od_eq (Nat.lt_of_le_of_lt (Nat.add_le_add_left (by decide) _) hun)) (de_ix (de_ownIx (pv 1) de_neg (fun _ _ => rfl)) de_int (fun _ _ => rfl)) (de_var (pv 2)) (nomark _)) (dw_and1 (dt_cmp (od_eq (Nat.lt_of_le_of_lt (Nat.add_le_add_left (by decide) _) hun)) (de_ix (de_ownIx (pv 1) de_neg (fun _ _ => rfl)) de_int (fun _ _ => rfl)) (de_var (pv 4)) (nomark _)))))).dt (dss_one (ds_app (pv 1) (de_tup (da_cons (de_ix (de_pop (pv 1)) de_int (fun _ _ => rfl)) (da_cons (de_var (pv 3)) (da_cons (de_var (pv 4)) da_nil)))))) (dss_one (ds_app (pv 1) (de_tup (da_cons (de_var (pv 2)) (da_cons (de_var (pv 3)) (da_cons (de_var (pv 4)) da_nil)))))))))
  (dss_cons (t := p_part_by_2) (u := b_part_by_3) (ds_setF (i := 5) sc_part_by.nd rfl (by first | exact .inl rfl | exact .inr rfl) (df_lst da_nil))
  (dss_cons (t := p_part_by_3) (u := b_part_by_4) (ds_for PassesOwn.never rfl (di_seq (de_take (pv 1))) (dg_tup rfl (dgs_cons (dg_name (pg_name (i := 2) sc_part_by.nd rfl (by first | exact .inl rfl | exact .inr rfl))) (dgs_cons (dg_name (pg_name (i := 3) sc_part_by.nd rfl (by first | exact .inl rfl | exact .inr rfl))) (dgs_cons (dg_name (pg_name (i := 4) sc_part_by.nd rfl (by first | exact .inl rfl | exact .inr rfl))) dgs_nil)))) (dss_one (ds_ext (pv 5) (de_fz (df_lc (E2 := E00) (own := [("start", 6), ("end", 7)]) rfl sc_part_by.nd (di_seq (de_var (pv 4))) (blkOk_by (N := n_part_by) (sc := (defScope s_part_by)) (own := [("start", 6), ("end", 7)]) (by decide +kernel)) (by decide) (fun _ _ _ _ _ => (dg_tup rfl (dgs_cons (dg_name (pg_name (i := 6) sc_part_by.nd rfl (by first | exact .inl rfl | exact .inr rfl))) (dgs_cons (dg_name (pg_name (i := 7) sc_part_by.nd rfl (by first | exact .inl rfl | exact .inr rfl))) dgs_nil)))) (fun _ _ _ _ _ => dts_nil) (fun _ _ _ _ _ => (de_tup (da_cons (de_var (pv 6)) (da_cons (de_var (pv 2)) (da_cons (de_op od_sub (de_var (pv 7)) (de_var (pv 6))) (da_cons (de_op od_sub (de_var (pv 3)) (de_var (pv 2))) da_nil)))))))))))
  (dss_one (t := p_part_by_4) (ds_ret (de_callTy (cd_tuple) (by rfl) m_tuple (by decide +kernel) (da_cons (de_take (pv 5)) da_nil))))))))
def bS (d : D) (racc : List Band) (s2 s3 s4 : Sl) : List Sl := [.dat d, .own (racc.reverse.map bdD), s2, s3, s4, .un, .un, .un]
theorem lay_bds (r : List Band) : D.lays (r.map bdD) = true := lays_map fun b _ => by simp only [bdD, D.lay, D.lays, lay_sgs]; rfl
theorem dep_bds (r : List Band) : D.deps (r.map bdD) ≤ 63 := deps_map fun b _ => by
  have := dep_sgs b.ss
  simp only [bdD, D.dep, D.deps]
  omega
theorem loop_bands {d0 : D} {p : Pen} {N : dEnds} : ∀ (r racc : List Band) (s2 s3 s4 : Sl), racc.length + r.length ≤ 8000000 → (∀ s2 s3 s4, N.nx ⟨bS d0 (joinB racc r) s2 s3 s4, p⟩) →
    wFor (gT 3 (gsCons (gN 2) (gsCons (gN 3) (gsCons (gN 4) gsNil)))) b_part_by_f1 W0 N (r.map bdD) ⟨bS d0 racc s2 s3 s4, p⟩
  | [], racc, s2, s3, s4, _, h => by
    have e : joinB racc [] = racc := by cases racc <;> rfl
    rw [e] at h
    exact h _ _ _
  | s :: r, [], s2, s3, s4, hl, h => by
    have ih := loop_bands (d0 := d0) (p := p) (N := N) r [s]
    rw [List.map_cons, wFor]
    generalize wFor (gT 3 (gsCons (gN 2) (gsCons (gN 3) (gsCons (gN 4) gsNil)))) b_part_by_f1 W0 N (r.map bdD) = k at ih ⊢
    unfold bS at ih h ⊢
    simp only [DSIMP, b_part_by_f1, bdD, List.reverse_nil]
    rw [List.length_cons, List.length_nil] at hl
    exact ih _ _ _ (by simp only [List.length_cons, List.length_nil]; omega) h
  | s :: r, l :: racc, s2, s3, s4, hl, h => by
    rw [List.map_cons, wFor]
    have ih1 := loop_bands (d0 := d0) (p := p) (N := N) r (⟨l.t, s.b, s.ss⟩ :: racc)
    have ih2 := loop_bands (d0 := d0) (p := p) (N := N) r (s :: l :: racc)
    generalize wFor (gT 3 (gsCons (gN 2) (gsCons (gN 3) (gsCons (gN 4) gsNil)))) b_part_by_f1 W0 N (r.map bdD) = k at ih1 ih2 ⊢
    rw [joinB] at h
    simp only [List.length_cons] at hl ih1 ih2
    unfold bS at ih1 ih2 h ⊢
    have hz : (l :: racc).reverse.length < 16777216 := by rw [List.length_reverse, List.length_cons]; omega
    have hz2 : racc.reverse.length < 16777216 := by rw [List.length_reverse]; omega
    have w2 := ih2 (.dat (.int s.t)) (.dat (.int s.b)) (.dat (.tup (s.ss.map sgD))) (by omega)
    rw [← rev_app] at w2
    simp only [DSIMP, b_part_by_f1, rev_last, rev_ne, lay_bds, dep_bds, bdD.eq_1 s, bdD.eq_1 l]
    by_cases q : l.b = s.t
    · by_cases q2 : l.ss = s.ss
      · rw [if_pos ⟨q, q2⟩] at h
        have w := ih1 (.dat (.int s.t)) (.dat (.int s.b)) (.dat (.tup (s.ss.map sgD))) (by omega) h
        rw [← rev_app] at w
        simp only [DSIMP, q, rev_pop, rev_drop, bdD.eq_1 l, hz2, eq_sgs, q2, lay_sgs, dep_sgs63]
        exact w
      · rw [if_neg fun z => q2 z.2] at h
        simp only [DSIMP, q, eq_sgs, q2, lay_sgs, dep_sgs63, hz]
        exact w2 h
    · rw [if_neg fun z => q z.1] at h
      simp only [DSIMP, q, hz]
      exact w2 h
def cS (d e : D) (bs : List Bx) (s2 s3 s4 : Sl) : List Sl := [.dat d, .dat e, s2, s3, s4, .own (bs.map bxD), .un, .un]
theorem loop_boxes {d0 d1 : D} {p : Pen} {N : dEnds} : ∀ (r done : List Band) (s2 s3 s4 : Sl), (boxesOf (done ++ r)).length ≤ 8000000 → (∀ s2 s3 s4, N.nx ⟨cS d0 d1 (boxesOf (done ++ r)) s2 s3 s4, p⟩) →
    wFor (gT 3 (gsCons (gN 2) (gsCons (gN 3) (gsCons (gN 4) gsNil)))) b_part_by_f2 W0 N (r.map bdD) ⟨cS d0 d1 (boxesOf done) s2 s3 s4, p⟩
  | [], done, s2, s3, s4, hl, h => by
    rw [List.append_nil] at h
    exact h _ _ _
  | s :: r, done, s2, s3, s4, hl, h => by
    have e : done ++ s :: r = (done ++ [s]) ++ r := by simp
    rw [e] at hl h
    have ih := loop_boxes (d0 := d0) (d1 := d1) (p := p) (N := N) r (done ++ [s]) (.dat (.int s.t)) (.dat (.int s.b)) (.dat (.tup (s.ss.map sgD))) hl h
    have e2 : boxesOf (done ++ [s]) = boxesOf done ++ bxs s := by simp [boxesOf]
    have hl2 : (boxesOf done).length + (bxs s).length ≤ 8000000 := by
      have : boxesOf (done ++ [s] ++ r) = boxesOf done ++ bxs s ++ boxesOf r := by simp [boxesOf]
      rw [this, List.length_append, List.length_append] at hl
      omega
    rw [List.map_cons, wFor]
    generalize wFor (gT 3 (gsCons (gN 2) (gsCons (gN 3) (gsCons (gN 4) gsNil)))) b_part_by_f2 W0 N (r.map bdD) = k at ih ⊢
    rw [e2] at ih
    unfold cS at ih ⊢
    rw [bxs_len] at hl2
    simp only [DSIMP, b_part_by_f2, bdD]
    refine wLC_maps (l := s.ss) (ι := sgD) (f := fun g => bxD ⟨g.1, s.t, g.2 - g.1, s.b - s.t⟩) (fun g hg acc k2 hk q => ?_) (by rw [sizeLine_eq]; omega) ?_
    · simp only [DSIMP, sgD]
      exact ⟨hk, q⟩
    · simp only [DSIMP]
      have e3 : (s.ss.map fun g => bxD ⟨g.1, s.t, g.2 - g.1, s.b - s.t⟩) = (bxs s).map bxD := by unfold bxs; rw [List.map_map]; rfl
      rw [e3, ← List.map_append]
      exact ⟨by omega, ih⟩
theorem hsp_part_by : ∀ ds p Q W, ds.length = 1 → sp_part_by ds p Q W → b_part_by W0 (endsD Q) (startD n_part_by.length ds p) := by
  rintro _ p Q W - ⟨r, rfl, hl, h2, q⟩
  simp only [DSIMP, b_part_by, n_part_by, p_part_by_0, p_part_by_1, p_part_by_2, p_part_by_3, p_part_by_4, b_part_by_4, b_part_by_3, b_part_by_2, b_part_by_1, b_part_by_0]
  refine loop_bands r [] _ _ _ (by rw [List.length_nil]; omega) fun s2 s3 s4 => ?_
  unfold bS
  simp only [DSIMP, b_part_by, n_part_by, p_part_by_0, p_part_by_1, p_part_by_2, p_part_by_3, p_part_by_4, b_part_by_4, b_part_by_3, b_part_by_2, b_part_by_1, b_part_by_0]
  refine loop_boxes _ [] _ _ _ h2 fun s2 s3 s4 => ?_
  exact q
theorem ok_part_by {P : Program} {w : World} {K : PySem.W.Frag} {mg : Str → Option Value} {base : Heap} (m_tuple : mg "tuple" = none) {f : Addr} {fd : FuncData} (F : Fun K "part_by" "part_by" s_part_by f fd) : FnG P w K mg base CX0 1 f fd ["bands"] (spD K 1 sp_part_by) :=
 fn_d0 F sc_part_by rfl (fun cdv A out s H E g r => run_part_by m_tuple cdv A out s H E g r) hsp_part_by
def sp_bands_of : dSp := fun ds pe Q _ => ∃ (p : List Bx) (lx ly : Int), ds = [.lst (p.map bxD)] ∧ p.length ≤ 16000000 ∧ Win lx ly p ∧
  ∀ (r : List Band) (es : List Int), Edges p es → r.map (fun b => (b.t, b.b)) = pairs es → r.length ≤ 2801 → (∀ b ∈ r, CanS b.ss ∧ ∀ x, inS b.ss x = inS (selB p b.t b.b) x) → Q (.lst (r.map bdD)) pe
abbrev s_bands_of : Stmt := topS 6
abbrev n_bands_of : List Str := ["boxes", "edges", "found", "top", "bottom", "some", "x", "y", "wide", "high", "edge"]
theorem sc_bands_of : FnScope n_bands_of ["boxes"] (defScope s_bands_of) := ⟨rfl, rfl, rfl, by decide +kernel, rfl, by decide +kernel, by decide +kernel⟩
def p_bands_of_x2_0 : dS := (dSetF 5 (dLC (dSeqI (dVar 0)) (gT 4 (gsCons (gN 6) (gsCons (gN 7) (gsCons (gN 8) (gsCons (gN 9) gsNil))))) (dAnd (dB (dBin (rLe) (dVar 7) (dVar 3))) (dB (dBin (rLe) (dVar 4) (dBin rAddD (dVar 7) (dVar 9))))) (dTup (dCons (dVar 6) (dCons (dBin rAddD (dVar 6) (dVar 8)) dNil))) [6, 7, 8, 9]))
def p_bands_of_x2_1 : dS := (dApp 2 (dTup (dCons (dVar 3) (dCons (dVar 4) (dCons (dCallD 1 [] sp_joined_stretches (dCons (dTake 5) dNil)) dNil)))))
def b_bands_of_x2_1 : dS := p_bands_of_x2_1
def b_bands_of_x2_0 : dS := dSeq (p_bands_of_x2_0) (b_bands_of_x2_1)
def p_bands_of_0 : dS := (dSet 1 (dFz (dSortDK (dDN (dSeqI (dVar 0)) (gT 4 (gsCons (gN 6) (gsCons (gN 7) (gsCons (gN 8) (gsCons (gN 9) gsNil))))) dYes (bNest (dSeqI (dTup (dCons (dVar 7) (dCons (dBin rAddD (dVar 7) (dVar 9)) dNil)))) (gN 10) dYes (bEd (dVar 10) (dC (.bl true))) [10]) [6, 7, 8, 9, 10]))))
def p_bands_of_1 : dS := (dSetF 2 (dLst dNil))
def p_bands_of_2 : dS := (dFor (dZip (dCons (dVar 1) (dCons (dFz (dSlL (dVar 1) (oSome (dC (.int 1))) oNone)) dNil))) (gT 2 (gsCons (gN 3) (gsCons (gN 4) gsNil))) b_bands_of_x2_0)
def p_bands_of_3 : dS := (dRet (dTake 2))
def b_bands_of_3 : dS := p_bands_of_3
def b_bands_of_2 : dS := dSeq (p_bands_of_2) (b_bands_of_3)
def b_bands_of_1 : dS := dSeq (p_bands_of_1) (b_bands_of_2)
def b_bands_of_0 : dS := dSeq (p_bands_of_0) (b_bands_of_1)
def b_bands_of : dS := b_bands_of_0
theorem run_bands_of {P : Program} {w : World} {K : PySem.W.Frag} {mg : Str → Option Value} {base : Heap} (m_sorted : mg "sorted" = none) (m_zip : mg "zip" = none) (K_joined_stretches_1 : Def P w K mg base 1 "joined_stretches" 1 sp_joined_stretches []) {f : Addr} (cdv : Value) (A : Around) (out : List Env) (s : Shared) (H : Hp) (E : XK) (g : A.guards = some []) (hrA : Room 1 (A.deeper (envOfC "bands_of" (defScope s_bands_of) s.heap.objs.size f cdv))) :
  DSs (cx0 P w K mg base n_bands_of "bands_of" (defScope s_bands_of) f cdv A out s H E) E00 (defBody s_bands_of) b_bands_of := by
 have hgA : (A.deeper (envOfC "bands_of" (defScope s_bands_of) s.heap.objs.size f cdv)).guards = some [] := g
 have hun := hrA.un
 exact (dss_cons (t := p_bands_of_0) (u := b_bands_of_1) (ds_set (i := 1) sc_bands_of.nd rfl (by first | exact .inl rfl | exact .inr rfl) (de_fz (df_sortedK rfl (Nat.lt_of_le_of_lt (Nat.add_le_add_left (by decide) _) hun) (de_dcN (E2 := E00) (own := [("x", 6), ("y", 7), ("wide", 8), ("high", 9), ("edge", 10)]) (vs2 := [10]) (turn_DN rfl rfl) rfl sc_bands_of.nd (di_seq (de_var (pv 0))) (blkOk_by (N := n_bands_of) (sc := (defScope s_bands_of)) (own := [("x", 6), ("y", 7), ("wide", 8), ("high", 9), ("edge", 10)]) (by decide +kernel)) (by decide) (by decide) (fun _ _ _ _ _ => (dg_tup rfl (dgs_cons (dg_name (pg_name (i := 6) sc_bands_of.nd rfl (by first | exact .inl rfl | exact .inr rfl))) (dgs_cons (dg_name (pg_name (i := 7) sc_bands_of.nd rfl (by first | exact .inl rfl | exact .inr rfl))) (dgs_cons (dg_name (pg_name (i := 8) sc_bands_of.nd rfl (by first | exact .inl rfl | exact .inr rfl))) (dgs_cons (dg_name (pg_name (i := 9) sc_bands_of.nd rfl (by first | exact .inl rfl | exact .inr rfl))) dgs_nil)))))) (fun _ _ _ _ _ => dts_nil) (fun _ _ _ _ _ => (dbd_nest (E := E00) (E2 := E00) (vs := [10]) rfl rfl rfl rfl (.d ..) (turn_DE rfl rfl) (di_seq (de_tup (da_cons (de_var (pv 7)) (da_cons (de_op od_add (de_var (pv 7)) (de_var (pv 9))) da_nil)))) (dg_name (pg_name (i := 10) sc_bands_of.nd rfl (by first | exact .inl rfl | exact .inr rfl))) dts_nil (dbd_D (E := E00) rfl (de_var (pv 10)) de_bl) (by decide) (by decide) (fun _ _ => rfl)))) (by rfl) m_sorted (by decide +kernel))))
  (dss_cons (t := p_bands_of_1) (u := b_bands_of_2) (ds_setF (i := 2) sc_bands_of.nd rfl (by first | exact .inl rfl | exact .inr rfl) (df_lst da_nil))
  (dss_cons (t := p_bands_of_2) (u := b_bands_of_3) (ds_for PassesOwn.never rfl (di_zip (by rfl) m_zip (da_cons (de_var (pv 1)) (da_cons (de_fz (df_slL (de_var (pv 1)) (do_some de_int) do_none)) da_nil))) (dg_tup rfl (dgs_cons (dg_name (pg_name (i := 3) sc_bands_of.nd rfl (by first | exact .inl rfl | exact .inr rfl))) (dgs_cons (dg_name (pg_name (i := 4) sc_bands_of.nd rfl (by first | exact .inl rfl | exact .inr rfl))) dgs_nil))) (dss_cons (t := p_bands_of_x2_0) (u := b_bands_of_x2_1) (ds_setLc (E2 := E00) (own := [("x", 6), ("y", 7), ("wide", 8), ("high", 9)]) (i := 5) rfl sc_bands_of.nd rfl rfl (sw_true rfl rfl rfl (by decide +kernel)) (di_seq (de_var (pv 0))) (blkOk_by (N := n_bands_of) (sc := (defScope s_bands_of)) (own := [("x", 6), ("y", 7), ("wide", 8), ("high", 9)]) (by decide +kernel)) (by decide) (fun _ _ _ _ _ => (dg_tup rfl (dgs_cons (dg_name (pg_name (i := 6) sc_bands_of.nd rfl (by first | exact .inl rfl | exact .inr rfl))) (dgs_cons (dg_name (pg_name (i := 7) sc_bands_of.nd rfl (by first | exact .inl rfl | exact .inr rfl))) (dgs_cons (dg_name (pg_name (i := 8) sc_bands_of.nd rfl (by first | exact .inl rfl | exact .inr rfl))) (dgs_cons (dg_name (pg_name (i := 9) sc_bands_of.nd rfl (by first | exact .inl rfl | exact .inr rfl))) dgs_nil)))))) (fun _ _ _ _ _ => (dts_one ((dw_and (dt_cmp (od_le) (de_var (pv 7)) (de_var (pv 3)) (nomark _)) (dw_and1 (dt_cmp (od_le) (de_var (pv 4)) (de_op od_add (de_var (pv 7)) (de_var (pv 9))) (nomark _))))).dt)) (fun _ _ _ _ _ => (de_tup (da_cons (de_var (pv 6)) (da_cons (de_op od_add (de_var (pv 6)) (de_var (pv 8))) da_nil)))))
  (dss_one (t := p_bands_of_x2_1) (ds_app (pv 2) (de_tup (da_cons (de_var (pv 3)) (da_cons (de_var (pv 4)) (da_cons (de_callD K_joined_stretches_1 hgA hrA (by rfl) (da_cons (de_take (pv 5)) da_nil)) da_nil))))))))
  (dss_one (t := p_bands_of_3) (ds_ret (de_take (pv 2)))))))
theorem keyed_len (ns : List Int) : (keyed ns).length = ns.length := by unfold keyed; rw [List.length_map]
theorem nest_keyed {β : Type} {g : dG} {tt : dT} {b : dBd (List (Key × D))} {vs : List Nat} {Q : List (Key × D) → DS → Prop} {δ0 : DS} {ι : β → D} {f : β → List Int} {lo : Int} {M : Nat} : ∀ {l : List β} {ns : List Int}, (∀ a ∈ l, ∀ (ns : List Int) (k : List (Key × D) → DS → Prop), ns.length ≤ M → k (keyed (once ns (f a))) δ0 → g (ι a) δ0 fun δ1 => tt W0 δ1 fun z δ2 => match z with
      | true => b (keyed ns) δ2 fun acc' δ3 => k acc' (wipeD δ3 vs)
      | false => k (keyed ns) (wipeD δ2 vs)) → (∀ a ∈ l, ∀ x ∈ f a, lo ≤ x ∧ x < lo + M) → ns.Nodup → (∀ x ∈ ns, lo ≤ x ∧ x < lo + M) → Q (keyed (once ns (l.flatMap f))) δ0 → wNest g tt b vs Q (l.map ι) (keyed ns) δ0
  | [], _, _, _, _, _, q => q
  | a :: l, ns, h, hb, nd, hn, q => by
    rw [List.map_cons, wNest]
    refine h a List.mem_cons_self ns (fun acc' δ' => wNest g tt b vs Q (l.map ι) acc' δ') (nodup_len nd hn) ?_
    refine nest_keyed (lo := lo) (M := M) (fun a ha => h a (List.mem_cons_of_mem _ ha)) (fun a ha => hb a (List.mem_cons_of_mem _ ha)) (once_nodup _ _ nd) (fun x hx => ?_) ?_
    · rcases (once_mem _ _ _).mp hx with q | q
      · exact hn x q
      · exact hb a List.mem_cons_self x q
    · rw [List.flatMap_cons, once_app] at q; exact q
theorem zip_pairs (es : List Int) : zipD (es.map D.int) ((es.map D.int).drop 1) = (pairs es).map sgD := by
  unfold zipD pairs
  rw [← List.map_drop, List.zip_map, List.map_map, List.drop_one]
  rfl
def edgesOf (b : Bx) : List Int := [b.y, b.y + b.h]
theorem edges_in {lx ly : Int} {p : List Bx} (h : Win lx ly p) : ∀ b ∈ p, ∀ x ∈ edgesOf b, ly ≤ x ∧ x < ly + (2801 : Nat) := fun b hb x hx => by
  have := h b hb
  simp only [edgesOf, List.mem_cons, List.not_mem_nil, or_false] at hx
  omega
theorem edges_ok {p : List Bx} {m : List Int} (hp : m.Perm (once [] (p.flatMap edgesOf))) (hw : m.Pairwise (· < ·)) : Edges p m := by
  refine ⟨hw, fun e => ?_⟩
  rw [hp.mem_iff, once_mem]
  simp [edgesOf]
theorem pairs_len (es : List Int) : (pairs es).length ≤ es.length := by unfold pairs; rw [List.length_zip, List.length_tail]; omega
theorem Win.sg {lx ly : Int} {p : List Bx} (h : Win lx ly p) {t b : Int} : ∀ s ∈ selB p t b, s.1 < s.2 := fun s hs => by
  obtain ⟨q, hq, rfl⟩ := List.mem_map.mp hs
  have := h q (List.mem_filter.mp hq).1
  simp only [sgOf]
  omega
def eS (d e : D) (r : List Band) (s3 s4 s5 : Sl) : List Sl := [.dat d, .dat e, .own (r.map bdD), s3, s4, s5, .un, .un, .un, .un, .un]
theorem loop_edges {p : List Bx} {d1 : D} {pe : Pen} {N : dEnds} {lx ly : Int} (hl : p.length ≤ 16000000) (hw : Win lx ly p) : ∀ (ps : List Sg) (r : List Band) (s3 s4 s5 : Sl), r.length + ps.length ≤ 2801 → (∀ b ∈ r, CanS b.ss ∧ ∀ x, inS b.ss x = inS (selB p b.t b.b) x) →
    (∀ (r2 : List Band) s3 s4 s5, r2.map (fun b => (b.t, b.b)) = r.map (fun b => (b.t, b.b)) ++ ps → r2.length ≤ 2801 → (∀ b ∈ r2, CanS b.ss ∧ ∀ x, inS b.ss x = inS (selB p b.t b.b) x) → N.nx ⟨eS (.lst (p.map bxD)) d1 r2 s3 s4 s5, pe⟩) →
    wFor (gT 2 (gsCons (gN 3) (gsCons (gN 4) gsNil))) b_bands_of_x2_0 W0 N (ps.map sgD) ⟨eS (.lst (p.map bxD)) d1 r s3 s4 s5, pe⟩
  | [], r, s3, s4, s5, h1, h2, h => h r _ _ _ (by simp) (by simpa using h1) h2
  | e :: ps, r, s3, s4, s5, h1, h2, h => by
    rw [List.length_cons] at h1
    rw [List.map_cons, wFor]
    have ih : ∀ tt, CanS tt → (∀ x, inS tt x = inS (selB p e.1 e.2) x) → _ := fun tt c1 c2 => loop_edges (d1 := d1) (pe := pe) (N := N) hl hw ps (r ++ [⟨e.1, e.2, tt⟩]) (.dat (.int e.1)) (.dat (.int e.2)) (.dat (.lst ((selB p e.1 e.2).map sgD))) (by simp; omega) (fun b hb => by
      rcases List.mem_append.mp hb with hb | hb
      · exact h2 b hb
      · rw [List.mem_singleton] at hb; subst hb; exact ⟨c1, c2⟩) fun r2 s3 s4 s5 e2 => h r2 s3 s4 s5 (by rw [e2]; simp)
    generalize wFor (gT 2 (gsCons (gN 3) (gsCons (gN 4) gsNil))) b_bands_of_x2_0 W0 N (ps.map sgD) = k at ih ⊢
    unfold eS at ih ⊢
    simp only [DSIMP, b_bands_of, n_bands_of, p_bands_of_x2_0, p_bands_of_x2_1, b_bands_of_x2_1, b_bands_of_x2_0, p_bands_of_0, p_bands_of_1, p_bands_of_2, p_bands_of_3, b_bands_of_3, b_bands_of_2, b_bands_of_1, b_bands_of_0, sgD]
    refine wLC_filt (l := p) (ι := bxD) (f := fun b => sgD (sgOf b)) (t := fun q => decide (q.y ≤ e.1) && decide (e.2 ≤ q.y + q.h)) (fun b hb acc k2 hk q1 q2 => ?_) (by rw [sizeLine_eq]; omega) ?_
    · simp only [DSIMP, bxD]
      by_cases z1 : b.y ≤ e.1
      · by_cases z2 : e.2 ≤ b.y + b.h
        · simp only [DSIMP, z1, z2] at q1 ⊢
          exact ⟨hk, q1⟩
        · simp only [DSIMP, z1, z2] at q2 ⊢
          exact q2
      · simp only [DSIMP, z1] at q2 ⊢
        exact q2
    · have e3 : (p.filter fun q => decide (q.y ≤ e.1) && decide (e.2 ≤ q.y + q.h)).map (fun b => sgD (sgOf b)) = (selB p e.1 e.2).map sgD := by unfold selB; rw [List.map_map]; rfl
      rw [e3]
      simp only [DSIMP, b_bands_of, n_bands_of, p_bands_of_x2_0, p_bands_of_x2_1, b_bands_of_x2_1, b_bands_of_x2_0, p_bands_of_0, p_bands_of_1, p_bands_of_2, p_bands_of_3, b_bands_of_3, b_bands_of_2, b_bands_of_1, b_bands_of_0, sp_joined_stretches]
      have l1 : (selB p e.1 e.2).length ≤ 16000000 := by
        unfold selB; rw [List.length_map]; exact Nat.le_trans (List.length_filter_le _ _) hl
      refine ⟨selB p e.1 e.2, rfl, l1, Win.sg hw, fun tt c1 c2 => ?_⟩
      have w := ih tt c1 c2
      rw [List.map_append] at w
      exact ⟨by omega, w⟩
theorem hsp_bands_of : ∀ ds p Q W, ds.length = 1 → sp_bands_of ds p Q W → b_bands_of W0 (endsD Q) (startD n_bands_of.length ds p) := by
  rintro _ pe Q W - ⟨p, lx, ly, rfl, hl, hw, q⟩
  simp only [DSIMP, b_bands_of, n_bands_of, p_bands_of_x2_0, p_bands_of_x2_1, b_bands_of_x2_1, b_bands_of_x2_0, p_bands_of_0, p_bands_of_1, p_bands_of_2, p_bands_of_3, b_bands_of_3, b_bands_of_2, b_bands_of_1, b_bands_of_0]
  refine nest_keyed (lo := ly) (M := 2801) (ns := []) (f := edgesOf) (fun a ha ns k hk q => ?_) (edges_in hw) .nil (by simp) ?_
  · simp only [DSIMP, bxD, put_keyed, keyed_len]
    have h1 : ns.length < 16777216 := by omega
    have h2 : (if a.y ∈ ns then ns else ns ++ [a.y]).length < 16777216 := by
      split
      · exact h1
      · rw [List.length_append]; simp only [List.length_cons, List.length_nil]; omega
    exact ⟨h1, h2, q⟩
  · obtain ⟨m, em, pm, wm⟩ := sorted_nodup (once_nodup (p.flatMap edgesOf) [] .nil)
    simp only [DSIMP, b_bands_of, n_bands_of, p_bands_of_x2_0, p_bands_of_x2_1, b_bands_of_x2_1, b_bands_of_x2_0, p_bands_of_0, p_bands_of_1, p_bands_of_2, p_bands_of_3, b_bands_of_3, b_bands_of_2, b_bands_of_1, b_bands_of_0, key_keyed, em, zip_pairs]
    have ml : m.length ≤ 2801 := pm.length_eq ▸ once_len fun x hx => by
      obtain ⟨b, hb, hx⟩ := List.mem_flatMap.mp hx
      exact edges_in hw b hb x hx
    refine ⟨srt_ints (by rw [← pm.length_eq, sizeLine_eq]; omega), ?_⟩
    have ml2 := pairs_len m
    exact loop_edges (r := []) hl hw (pairs m) _ _ _ (by rw [List.length_nil]; omega) (by simp) fun r2 s3 s4 s5 e1 e2 e3 => q r2 m (edges_ok pm wm) e1 e2 e3
theorem ok_bands_of {P : Program} {w : World} {K : PySem.W.Frag} {mg : Str → Option Value} {base : Heap} (m_sorted : mg "sorted" = none) (m_zip : mg "zip" = none) (K_joined_stretches_1 : Def P w K mg base 1 "joined_stretches" 1 sp_joined_stretches []) {f : Addr} {fd : FuncData} (F : Fun K "bands_of" "bands_of" s_bands_of f fd) : FnG P w K mg base CX0 2 f fd ["boxes"] (spD K 1 sp_bands_of) :=
 fn_d0 F sc_bands_of rfl (fun cdv A out s H E g r => run_bands_of m_sorted m_zip K_joined_stretches_1 cdv A out s H E g r) hsp_bands_of
def sp_part_of : dSp := fun ds pe Q _ => ∃ (x : D) (p : List Bx) (lx ly : Int), ds = [x] ∧ (x = .lst (p.map bxD) ∨ x = partD p) ∧ p.length ≤ 16000000 ∧ Win lx ly p ∧ ∀ q : List Bx, Can q → (∀ x y, inP q x y = inP p x y) → Win lx ly q → q.length ≤ 7840000 → Q (partD q) pe
abbrev s_part_of : Stmt := topS 8
abbrev n_part_of : List Str := ["boxes"]
theorem sc_part_of : FnScope n_part_of ["boxes"] (defScope s_part_of) := ⟨rfl, rfl, rfl, by decide +kernel, rfl, by decide +kernel, by decide +kernel⟩
def b_part_of : dS := (dRet (dCallD 1 [] sp_part_by (dCons (dCallD 1 [] sp_bands_of (dCons (dFz (dCBF rList (dCons (dVar 0) dNil))) dNil)) dNil)))
theorem run_part_of {P : Program} {w : World} {K : PySem.W.Frag} {mg : Str → Option Value} {base : Heap} (m_list : mg "list" = none) (K_bands_of_1 : Def P w K mg base 2 "bands_of" 1 sp_bands_of []) (K_part_by_1 : Def P w K mg base 1 "part_by" 1 sp_part_by []) {f : Addr} (cdv : Value) (A : Around) (out : List Env) (s : Shared) (H : Hp) (E : XK) (g : A.guards = some []) (hrA : Room 2 (A.deeper (envOfC "part_of" (defScope s_part_of) s.heap.objs.size f cdv))) :
  DSs (cx0 P w K mg base n_part_of "part_of" (defScope s_part_of) f cdv A out s H E) E00 (defBody s_part_of) b_part_of := by
 have hgA : (A.deeper (envOfC "part_of" (defScope s_part_of) s.heap.objs.size f cdv)).guards = some [] := g
 have hun := hrA.un
 exact (dss_one (ds_ret (de_callD K_part_by_1 hgA hrA (by rfl) (da_cons (de_callD K_bands_of_1 hgA hrA (by rfl) (da_cons (de_fz (df_callTy cd_list (by rfl) m_list (by decide +kernel) (da_cons (de_var (pv 0)) da_nil))) da_nil)) da_nil))))
theorem hsp_part_of : ∀ ds p Q W, ds.length = 1 → sp_part_of ds p Q W → b_part_of W0 (endsD Q) (startD n_part_of.length ds p) := by
  rintro _ pe Q W - ⟨x, p, lx, ly, rfl, hx, hl, hw, q⟩
  have fin : sp_bands_of [.lst (p.map bxD)] pe (fun x p2 => sp_part_by [x] p2 Q fun _ _ => False) fun _ _ => False := by
    refine ⟨p, lx, ly, rfl, hl, hw, fun r es he hr h1 h2 => ?_⟩
    obtain ⟨c1, c2⟩ := partOf_ok he hr h2
    have w := can_win (lx := lx) (ly := ly) c1 fun x y h => by rw [c2] at h; exact hw.spot h
    have l := can_len c1 w
    exact ⟨r, rfl, by omega, by omega, q _ c1 c2 w l⟩
  rcases hx with rfl | rfl
  · simp only [DSIMP, b_part_of, n_part_of]
    exact fin
  · simp only [DSIMP, b_part_of, n_part_of, partD]
    exact fin
theorem ok_part_of {P : Program} {w : World} {K : PySem.W.Frag} {mg : Str → Option Value} {base : Heap} (m_list : mg "list" = none) (K_bands_of_1 : Def P w K mg base 2 "bands_of" 1 sp_bands_of []) (K_part_by_1 : Def P w K mg base 1 "part_by" 1 sp_part_by []) {f : Addr} {fd : FuncData} (F : Fun K "part_of" "part_of" s_part_of f fd) : FnG P w K mg base CX0 3 f fd ["boxes"] (spD K 1 sp_part_of) :=
 fn_d0 F sc_part_of rfl (fun cdv A out s H E g r => run_part_of m_list K_bands_of_1 K_part_by_1 cdv A out s H E g r) hsp_part_of
def areaN (bs : List Bx) : Nat := (bs.map fun b => b.w.toNat * b.h.toNat).sum
theorem areaN_cons (b : Bx) (bs : List Bx) : areaN (b :: bs) = b.w.toNat * b.h.toNat + areaN bs := by unfold areaN; rw [List.map_cons, List.sum_cons]
def sp__law_spots : dSp := fun ds pe Q _ => ∃ (x : D) (bs : List Bx), ds = [x] ∧ (x = .lst (bs.map bxD) ∨ x = partD bs) ∧ bs.length ≤ 10000 ∧ (∀ b ∈ bs, (0 < b.w ∧ b.w ≤ 10000) ∧ 0 < b.h ∧ b.h ≤ 10000) ∧ areaN bs ≤ 20000 ∧ ∀ L : List Spt, L.Nodup → (∀ s, s ∈ L ↔ inP bs s.1 s.2 = true) → L.length ≤ areaN bs → Q (.fT (spotsD L)) pe
abbrev s__law_spots : Stmt := topS 20
abbrev n__law_spots : List Str := ["_law_boxes_here", "_law_found", "_law_x", "_law_y", "_law_wide", "_law_high", "_law_k", "_law_j"]
theorem sc__law_spots : FnScope n__law_spots ["_law_boxes_here"] (defScope s__law_spots) := ⟨rfl, rfl, rfl, by decide +kernel, rfl, by decide +kernel, by decide +kernel⟩
def b__law_spots_f1 : dS := (dDPut 1 (dTup (dCons (dBin rAddD (dVar 2) (dVar 6)) (dCons (dBin rAddD (dVar 3) (dVar 7)) dNil))) (dC (.bl true)))
def b__law_spots_f2 : dS := (dFor (dRng1 (dCons (dVar 5) dNil)) (gN 7) b__law_spots_f1)
def b__law_spots_f3 : dS := (dFor (dRng1 (dCons (dVar 4) dNil)) (gN 6) b__law_spots_f2)
def p__law_spots_0 : dS := (dNewDT 1)
def p__law_spots_1 : dS := (dFor (dSeqI (dVar 0)) (gT 4 (gsCons (gN 2) (gsCons (gN 3) (gsCons (gN 4) (gsCons (gN 5) gsNil))))) b__law_spots_f3)
def p__law_spots_2 : dS := (dRet (dLock 1))
def b__law_spots_2 : dS := p__law_spots_2
def b__law_spots_1 : dS := dSeq (p__law_spots_1) (b__law_spots_2)
def b__law_spots_0 : dS := dSeq (p__law_spots_0) (b__law_spots_1)
def b__law_spots : dS := b__law_spots_0
theorem run__law_spots {P : Program} {w : World} {K : PySem.W.Frag} {mg : Str → Option Value} {base : Heap} (m_range : mg "range" = none) {f : Addr} (cdv : Value) (A : Around) (out : List Env) (s : Shared) (H : Hp) (E : XK) (g : A.guards = some []) (hrA : Room 0 (A.deeper (envOfC "_law_spots" (defScope s__law_spots) s.heap.objs.size f cdv))) :
  DSs (cx0 P w K mg base n__law_spots "_law_spots" (defScope s__law_spots) f cdv A out s H E) E00 (defBody s__law_spots) b__law_spots := by
 have hgA : (A.deeper (envOfC "_law_spots" (defScope s__law_spots) s.heap.objs.size f cdv)).guards = some [] := g
 have hun := hrA.un
 exact (dss_cons (t := p__law_spots_0) (u := b__law_spots_1) (ds_newT (i := 1) sc__law_spots.nd rfl (by first | exact .inl rfl | exact .inr rfl))
  (dss_cons (t := p__law_spots_1) (u := b__law_spots_2) (ds_for PassesOwn.never rfl (di_seq (de_var (pv 0))) (dg_tup rfl (dgs_cons (dg_name (pg_name (i := 2) sc__law_spots.nd rfl (by first | exact .inl rfl | exact .inr rfl))) (dgs_cons (dg_name (pg_name (i := 3) sc__law_spots.nd rfl (by first | exact .inl rfl | exact .inr rfl))) (dgs_cons (dg_name (pg_name (i := 4) sc__law_spots.nd rfl (by first | exact .inl rfl | exact .inr rfl))) (dgs_cons (dg_name (pg_name (i := 5) sc__law_spots.nd rfl (by first | exact .inl rfl | exact .inr rfl))) dgs_nil))))) (dss_one (ds_for PassesOwn.never rfl (di_range1 (by rfl) m_range (da_cons (de_var (pv 4)) da_nil)) (dg_name (pg_name (i := 6) sc__law_spots.nd rfl (by first | exact .inl rfl | exact .inr rfl))) (dss_one (ds_for PassesOwn.never rfl (di_range1 (by rfl) m_range (da_cons (de_var (pv 5)) da_nil)) (dg_name (pg_name (i := 7) sc__law_spots.nd rfl (by first | exact .inl rfl | exact .inr rfl))) (dss_one (ds_dput (Nat.lt_of_le_of_lt (Nat.add_le_add_left (by decide) _) hun) (pv 1) (de_tup (da_cons (de_op od_add (de_var (pv 2)) (de_var (pv 6))) (da_cons (de_op od_add (de_var (pv 3)) (de_var (pv 7))) da_nil))) de_bl)))))))
  (dss_one (t := p__law_spots_2) (ds_ret (de_lock (pv 1))))))
def sptS (d : D) (L : List Spt) (s2 s3 s4 s5 s6 s7 : Sl) : List Sl := [.dat d, .ownT (spotsD L), s2, s3, s4, s5, s6, s7]
theorem col_succ (x y : Int) (n : Nat) : colOf x y (n + 1) = (x, y) :: colOf x (y + 1) n := by
  unfold colOf
  rw [List.range_succ_eq_map, List.map_cons, List.map_map]
  congr 1
  · simp
  · refine List.map_congr_left fun j _ => ?_
    simp only [Function.comp, Prod.mk.injEq, true_and]
    omega
def cols (x y : Int) (h : Nat) : Nat → List Spt
  | 0 => []
  | n + 1 => colOf x y h ++ cols (x + 1) y h n
theorem cols_eq (x y : Int) (h : Nat) : ∀ n : Nat, cols x y h n = (List.range n).flatMap fun i => colOf (x + (i : Nat)) y h
  | 0 => rfl
  | n + 1 => by
    rw [cols, cols_eq (x + 1) y h n, List.range_succ_eq_map, List.flatMap_cons, List.flatMap_map]
    congr 1
    · simp
    · congr 1
      funext i
      show colOf (x + 1 + (i : Nat)) y h = colOf (x + ((i + 1 : Nat))) y h
      congr 1; omega
theorem loop_sptj {d : D} {pe : Pen} {N : dEnds} {x y w h k : Int} : ∀ (n : Nat) (lo : Int) (L : List Spt) (s7 : Sl), L.length + n ≤ 1000000 →
    (∀ s7, N.nx ⟨sptS d (onceP L (colOf (x + k) (y + lo) n)) (.dat (.int x)) (.dat (.int y)) (.dat (.int w)) (.dat (.int h)) (.dat (.int k)) s7, pe⟩) →
    wFor (gN 7) b__law_spots_f1 W0 N (Ev.intsFrom lo n) ⟨sptS d L (.dat (.int x)) (.dat (.int y)) (.dat (.int w)) (.dat (.int h)) (.dat (.int k)) s7, pe⟩
  | 0, lo, L, s7, _, q => q _
  | n + 1, lo, L, s7, hl, q => by
    have ih := loop_sptj (d := d) (pe := pe) (N := N) (x := x) (y := y) (w := w) (h := h) (k := k) n (lo + 1) (if (x + k, y + lo) ∈ L then L else L ++ [(x + k, y + lo)]) (.dat (.int lo)) (by
      have : (if (x + k, y + lo) ∈ L then L else L ++ [(x + k, y + lo)]).length ≤ L.length + 1 := by
        split
        · omega
        · rw [List.length_append, List.length_singleton]; exact Nat.le_refl _
      omega) (fun s7 => by
      have w := q s7
      rw [col_succ, onceP] at w
      rw [← Int.add_assoc]; exact w)
    rw [from_succ, wFor]
    generalize wFor (gN 7) b__law_spots_f1 W0 N (Ev.intsFrom (lo + 1) n) = k2 at ih ⊢
    unfold sptS at ih ⊢
    have hz : (spotsD L).length < 16777216 := by unfold spotsD; rw [List.length_map]; omega
    have e := put_spot L (x + k, y + lo)
    unfold spotK at e
    simp only [DSIMP, b__law_spots_f1, hz, e]
    exact ih
theorem loop_sptk {d : D} {pe : Pen} {N : dEnds} {x y w h : Int} (h0 : 0 ≤ h ∧ h ≤ 10000) : ∀ (n : Nat) (lo : Int) (L : List Spt) (s6 s7 : Sl), L.length + n * h.toNat ≤ 1000000 →
    (∀ s6 s7, N.nx ⟨sptS d (onceP L (cols (x + lo) y h.toNat n)) (.dat (.int x)) (.dat (.int y)) (.dat (.int w)) (.dat (.int h)) s6 s7, pe⟩) →
    wFor (gN 6) b__law_spots_f2 W0 N (Ev.intsFrom lo n) ⟨sptS d L (.dat (.int x)) (.dat (.int y)) (.dat (.int w)) (.dat (.int h)) s6 s7, pe⟩
  | 0, lo, L, s6, s7, _, q => q _ _
  | n + 1, lo, L, s6, s7, hl, q => by
    rw [Nat.succ_mul] at hl
    have ih := fun s7 => loop_sptk (d := d) (pe := pe) (N := N) (x := x) (y := y) (w := w) (h := h) h0 n (lo + 1) (onceP L (colOf (x + lo) y h.toNat)) (.dat (.int lo)) s7 (by
      have := onceP_len (colOf (x + lo) y h.toNat) L
      rw [colOf_len] at this
      omega) (fun s6 s7 => by
      have w := q s6 s7
      rw [cols, onceP_app] at w
      rw [← Int.add_assoc]; exact w)
    rw [from_succ, wFor]
    generalize wFor (gN 6) b__law_spots_f2 W0 N (Ev.intsFrom (lo + 1) n) = k2 at ih ⊢
    unfold sptS at ih ⊢
    simp only [DSIMP, b__law_spots_f2]
    refine ⟨by omega, by omega, ?_⟩
    have := loop_sptj (d := d) (pe := pe) (N := { N with nx := k2, ct := k2, bk := N.nx }) (x := x) (y := y) (w := w) (h := h) (k := lo) h.toNat 0 L s7 (by omega) (fun s7 => by
      have := ih s7
      unfold sptS
      rw [Int.add_zero]; exact this)
    unfold sptS at this
    exact this
theorem loop_spts {d : D} {pe : Pen} {N : dEnds} : ∀ (bs : List Bx) (L : List Spt) (s2 s3 s4 s5 s6 s7 : Sl), (∀ b ∈ bs, (0 < b.w ∧ b.w ≤ 10000) ∧ 0 < b.h ∧ b.h ≤ 10000) → L.length + areaN bs ≤ 1000000 →
    (∀ s2 s3 s4 s5 s6 s7, N.nx ⟨sptS d (onceP L (allSpots bs)) s2 s3 s4 s5 s6 s7, pe⟩) →
    wFor (gT 4 (gsCons (gN 2) (gsCons (gN 3) (gsCons (gN 4) (gsCons (gN 5) gsNil))))) b__law_spots_f3 W0 N (bs.map bxD) ⟨sptS d L s2 s3 s4 s5 s6 s7, pe⟩
  | [], L, s2, s3, s4, s5, s6, s7, _, _, q => q _ _ _ _ _ _
  | b :: bs, L, s2, s3, s4, s5, s6, s7, hb, hl, q => by
    obtain ⟨⟨w0, w1⟩, h0, h1⟩ := hb b List.mem_cons_self
    rw [areaN_cons] at hl
    have sl : (spotsOf b).length ≤ b.w.toNat * b.h.toNat := spotsOf_len
    have ih := fun s2 s3 s4 s5 s6 s7 => loop_spts (d := d) (pe := pe) (N := N) bs (onceP L (spotsOf b)) s2 s3 s4 s5 s6 s7 (fun c hc => hb c (List.mem_cons_of_mem _ hc)) (by
      have := onceP_len (spotsOf b) L
      omega) (fun s2 s3 s4 s5 s6 s7 => by
      have w := q s2 s3 s4 s5 s6 s7
      unfold allSpots at w
      rw [List.flatMap_cons, onceP_app] at w
      exact w)
    rw [List.map_cons, wFor]
    generalize wFor (gT 4 (gsCons (gN 2) (gsCons (gN 3) (gsCons (gN 4) (gsCons (gN 5) gsNil))))) b__law_spots_f3 W0 N (bs.map bxD) = k2 at ih ⊢
    unfold sptS at ih ⊢
    simp only [DSIMP, b__law_spots_f3, bxD]
    refine ⟨by omega, by omega, ?_⟩
    have e : cols b.x b.y b.h.toNat b.w.toNat = spotsOf b := cols_eq _ _ _ _
    have := loop_sptk (d := d) (pe := pe) (N := { N with nx := k2, ct := k2, bk := N.nx }) (x := b.x) (y := b.y) (w := b.w) (h := b.h) ⟨by omega, h1⟩ b.w.toNat 0 L s6 s7 (by omega) (fun s6 s7 => by
      have := ih (.dat (.int b.x)) (.dat (.int b.y)) (.dat (.int b.w)) (.dat (.int b.h)) s6 s7
      unfold sptS
      rw [Int.add_zero, e]; exact this)
    unfold sptS at this
    exact this
theorem allSpots_lenA : ∀ bs : List Bx, (allSpots bs).length ≤ areaN bs
  | [] => Nat.le_refl _
  | b :: bs => by
    have ih := allSpots_lenA bs
    have s : (spotsOf b).length ≤ b.w.toNat * b.h.toNat := spotsOf_len
    unfold allSpots at ih ⊢
    rw [List.flatMap_cons, List.length_append, areaN_cons]
    omega
theorem hsp__law_spots : ∀ ds p Q W, ds.length = 1 → sp__law_spots ds p Q W → b__law_spots W0 (endsD Q) (startD n__law_spots.length ds p) := by
  rintro _ pe Q W - ⟨x, bs, rfl, hx, hl, hb, ha, q⟩
  have go : ∀ d : D, wFor (gT 4 (gsCons (gN 2) (gsCons (gN 3) (gsCons (gN 4) (gsCons (gN 5) gsNil))))) b__law_spots_f3 W0 ⟨fun δ' => b__law_spots_2 W0 (endsD Q) δ', (endsD Q).rt, (endsD Q).bk, (endsD Q).ct, (endsD Q).rl⟩ (bs.map bxD) ⟨sptS d [] .un .un .un .un .un .un, pe⟩ := fun d =>
    loop_spts (d := d) (pe := pe) (N := ⟨fun δ' => b__law_spots_2 W0 (endsD Q) δ', (endsD Q).rt, (endsD Q).bk, (endsD Q).ct, (endsD Q).rl⟩) bs [] .un .un .un .un .un .un hb (by rw [List.length_nil]; omega) (fun s2 s3 s4 s5 s6 s7 => by
      unfold sptS
      simp only [DSIMP, b__law_spots_2, p__law_spots_2]
      refine q _ (onceP_nodup _ _ .nil) (fun s => ?_) ?_
      · rw [onceP_mem, allSpots_mem (fun b h => by have := hb b h; omega)]
        simp
      · have h1 := onceP_len (allSpots bs) []
        have h2 := allSpots_lenA bs
        rw [List.length_nil] at h1
        omega)
  unfold sptS at go
  rcases hx with rfl | rfl
  · simp only [DSIMP, b__law_spots, n__law_spots, p__law_spots_0, p__law_spots_1, p__law_spots_2, b__law_spots_2, b__law_spots_1, b__law_spots_0]
    exact go _
  · unfold partD
    simp only [DSIMP, b__law_spots, n__law_spots, p__law_spots_0, p__law_spots_1, p__law_spots_2, b__law_spots_2, b__law_spots_1, b__law_spots_0]
    exact go _
theorem ok__law_spots {P : Program} {w : World} {K : PySem.W.Frag} {mg : Str → Option Value} {base : Heap} (m_range : mg "range" = none) {f : Addr} {fd : FuncData} (F : Fun K "_law_spots" "_law_spots" s__law_spots f fd) : FnG P w K mg base CX0 1 f fd ["_law_boxes_here"] (spD K 1 sp__law_spots) :=
 fn_d0 F sc__law_spots rfl (fun cdv A out s H E g r => run__law_spots m_range cdv A out s H E g r) hsp__law_spots
def sp__law_stretches : dSp := fun ds pe Q _ => ∃ row : List Int, ds = [.lst (row.map D.int)] ∧ row.Pairwise (· < ·) ∧ row.length ≤ 4000000 ∧ Q (.lst ((joined (units row)).map swD)) pe
abbrev s__law_stretches : Stmt := topS 21
abbrev n__law_stretches : List Str := ["_law_row", "_law_found", "_law_x"]
theorem sc__law_stretches : FnScope n__law_stretches ["_law_row"] (defScope s__law_stretches) := ⟨rfl, rfl, rfl, by decide +kernel, rfl, by decide +kernel, by decide +kernel⟩
def b__law_stretches_f1 : dS := (dIfS (dAnd (dB (dOwnL 1 (rNe) (dFz (dLst dNil)))) (dB (dBin (rEq) (dBin rAddD (dBin rIxD (dOwnIx 1 (dC (.int (-1)))) (dC (.int 0))) (dBin rIxD (dOwnIx 1 (dC (.int (-1)))) (dC (.int 1)))) (dVar 2)))) (dApp 1 (dTup (dCons (dBin rIxD (dOwnIx 1 (dC (.int (-1)))) (dC (.int 0))) (dCons (dBin rAddD (dBin rIxD (dPop 1) (dC (.int 1))) (dC (.int 1))) dNil)))) (dApp 1 (dTup (dCons (dVar 2) (dCons (dC (.int 1)) dNil)))))
def p__law_stretches_0 : dS := (dSetF 1 (dLst dNil))
def p__law_stretches_1 : dS := (dFor (dSeqI (dVar 0)) (gN 2) b__law_stretches_f1)
def p__law_stretches_2 : dS := (dRet (dTake 1))
def b__law_stretches_2 : dS := p__law_stretches_2
def b__law_stretches_1 : dS := dSeq (p__law_stretches_1) (b__law_stretches_2)
def b__law_stretches_0 : dS := dSeq (p__law_stretches_0) (b__law_stretches_1)
def b__law_stretches : dS := b__law_stretches_0
theorem run__law_stretches {P : Program} {w : World} {K : PySem.W.Frag} {mg : Str → Option Value} {base : Heap} {f : Addr} (cdv : Value) (A : Around) (out : List Env) (s : Shared) (H : Hp) (E : XK) (g : A.guards = some []) (hrA : Room 0 (A.deeper (envOfC "_law_stretches" (defScope s__law_stretches) s.heap.objs.size f cdv))) :
  DSs (cx0 P w K mg base n__law_stretches "_law_stretches" (defScope s__law_stretches) f cdv A out s H E) E00 (defBody s__law_stretches) b__law_stretches := by
 have hgA : (A.deeper (envOfC "_law_stretches" (defScope s__law_stretches) s.heap.objs.size f cdv)).guards = some [] := g
 have hun := hrA.un
 exact (dss_cons (t := p__law_stretches_0) (u := b__law_stretches_1) (ds_setF (i := 1) sc__law_stretches.nd rfl (by first | exact .inl rfl | exact .inr rfl) (df_lst da_nil))
  (dss_cons (t := p__law_stretches_1) (u := b__law_stretches_2) (ds_for PassesOwn.never rfl (di_seq (de_var (pv 0))) (dg_name (pg_name (i := 2) sc__law_stretches.nd rfl (by first | exact .inl rfl | exact .inr rfl))) (dss_one (ds_if ((dw_and (dt_ownL (od_ne (Nat.lt_of_le_of_lt (Nat.add_le_add_left (by decide) _) hun)) (pv 1) (de_fz (df_lst da_nil)) (nomark _)) (dw_and1 (dt_cmp (od_eq (Nat.lt_of_le_of_lt (Nat.add_le_add_left (by decide) _) hun)) (de_op od_add (de_ix (de_ownIx (pv 1) de_neg (fun _ _ => rfl)) de_int (fun _ _ => rfl)) (de_ix (de_ownIx (pv 1) de_neg (fun _ _ => rfl)) de_int (fun _ _ => rfl))) (de_var (pv 2)) (nomark _))))).dt (dss_one (ds_app (pv 1) (de_tup (da_cons (de_ix (de_ownIx (pv 1) de_neg (fun _ _ => rfl)) de_int (fun _ _ => rfl)) (da_cons (de_op od_add (de_ix (de_pop (pv 1)) de_int (fun _ _ => rfl)) de_int) da_nil))))) (dss_one (ds_app (pv 1) (de_tup (da_cons (de_var (pv 2)) (da_cons de_int da_nil))))))))
  (dss_one (t := p__law_stretches_2) (ds_ret (de_take (pv 1))))))
def tstrS (d : D) (racc : List Sg) (s2 : Sl) : List Sl := [.dat d, .own (racc.reverse.map swD), s2]
theorem revw_last {α : Type} {l : α} {r : List α} {f : α → D} : atI ((l :: r).reverse.map f) (-1) = some (f l) := by
  rw [atI_neg1]; simp
theorem revw_ne {α : Type} {l : α} {r : List α} : ((l :: r).reverse = []) = False := by simp
theorem revw_pop {α : Type} {l : α} {r : List α} {f : α → D} : ((l :: r).reverse.map f)[(l :: r).reverse.length - 1]? = some (f l) := by simp
theorem revw_drop {α : Type} {l : α} {r : List α} {f : α → D} : ((l :: r).reverse.map f).dropLast = r.reverse.map f := by
  rw [List.reverse_cons, List.map_append, List.map_singleton, List.dropLast_concat]
theorem revw_app {α : Type} {l : α} {r : List α} {f : α → D} : r.reverse.map f ++ [f l] = (l :: r).reverse.map f := by
  rw [List.reverse_cons, List.map_append, List.map_singleton]
theorem loop_tstr {d0 : D} {p : Pen} {N : dEnds} : ∀ (r : List Int) (racc : List Sg) (s2 : Sl), racc.length + r.length ≤ 4000000 → r.Pairwise (· < ·) → (∀ l rr, racc = l :: rr → ∀ x ∈ r, l.2 ≤ x) → (∀ s2, N.nx ⟨tstrS d0 (joinR racc (units r)) s2, p⟩) →
    wFor (gN 2) b__law_stretches_f1 W0 N (r.map D.int) ⟨tstrS d0 racc s2, p⟩
  | [], racc, s2, _, _, _, h => by
    have e : joinR racc (units []) = racc := by cases racc <;> rfl
    rw [e] at h
    exact h _
  | x :: r, [], s2, hl, hp, _, h => by
    rw [List.pairwise_cons] at hp
    have ih := loop_tstr (d0 := d0) (p := p) (N := N) r [(x, x + 1)] (.dat (.int x)) (by simp only [List.length_cons, List.length_nil] at hl ⊢; omega) hp.2 (fun l rr e y hy => by
      have := hp.1 y hy
      cases e; show x + 1 ≤ y; omega) h
    rw [List.map_cons, wFor]
    generalize wFor (gN 2) b__law_stretches_f1 W0 N (r.map D.int) = k at ih ⊢
    unfold tstrS at ih ⊢
    simp only [DSIMP, b__law_stretches_f1, List.reverse_nil]
    simp only [List.reverse_cons, List.reverse_nil, List.nil_append, List.map_cons, List.map_nil, swD, show x + 1 - x = 1 by omega] at ih
    exact ih
  | x :: r, l :: racc, s2, hl, hp, hm, h => by
    rw [List.pairwise_cons] at hp
    have lx := hm l racc rfl x List.mem_cons_self
    simp only [List.length_cons] at hl
    have hz : (l :: racc).reverse.length < 16777216 := by rw [List.length_reverse, List.length_cons]; omega
    have hz2 : racc.reverse.length < 16777216 := by rw [List.length_reverse]; omega
    rw [List.map_cons, wFor]
    have ih1 := loop_tstr (d0 := d0) (p := p) (N := N) r ((l.1, x + 1) :: racc) (.dat (.int x)) (by simp only [List.length_cons]; omega) hp.2 (fun l' rr e y hy => by
      have := hp.1 y hy
      cases e; show x + 1 ≤ y; omega)
    have ih2 := loop_tstr (d0 := d0) (p := p) (N := N) r ((x, x + 1) :: l :: racc) (.dat (.int x)) (by simp only [List.length_cons]; omega) hp.2 (fun l' rr e y hy => by
      have := hp.1 y hy
      cases e; show x + 1 ≤ y; omega)
    generalize wFor (gN 2) b__law_stretches_f1 W0 N (r.map D.int) = k at ih1 ih2 ⊢
    have hj : joinR (l :: racc) (units (x :: r)) = if x ≤ l.2 then joinR ((l.1, if x + 1 > l.2 then x + 1 else l.2) :: racc) (units r) else joinR ((x, x + 1) :: l :: racc) (units r) := by
      show joinR (l :: racc) ((x, x + 1) :: units r) = _
      rw [joinR]
    rw [hj] at h
    unfold tstrS at ih1 ih2 h ⊢
    have ad : l.1 + (l.2 - l.1) = l.2 := by omega
    simp only [DSIMP, b__law_stretches_f1, revw_last, revw_ne, lay_sws, dep_sws63, swD.eq_1 l, ad]
    by_cases q : l.2 = x
    · rw [if_pos (by omega : x ≤ l.2), if_pos (by omega : x + 1 > l.2)] at h
      have w := ih1 h
      rw [← revw_app, swD.eq_1 (l.1, x + 1)] at w
      have ee : l.2 - l.1 + 1 = x + 1 - l.1 := by omega
      simp only [DSIMP, q, revw_last, revw_pop, revw_drop, swD.eq_1 l, hz2]
      rw [← q] at w ⊢
      simp only [show l.2 + 1 - l.1 = l.2 - l.1 + 1 by omega] at w
      exact w
    · rw [if_neg (by omega : ¬ x ≤ l.2)] at h
      have w := ih2 h
      rw [← revw_app, swD.eq_1 (x, x + 1)] at w
      simp only [show x + 1 - x = 1 by omega] at w
      simp only [DSIMP, q, hz]
      exact w
theorem hsp__law_stretches : ∀ ds p Q W, ds.length = 1 → sp__law_stretches ds p Q W → b__law_stretches W0 (endsD Q) (startD n__law_stretches.length ds p) := by
  rintro _ pe Q W - ⟨row, rfl, hp, hl, q⟩
  simp only [DSIMP, b__law_stretches, n__law_stretches, p__law_stretches_0, p__law_stretches_1, p__law_stretches_2, b__law_stretches_2, b__law_stretches_1, b__law_stretches_0]
  have := loop_tstr (d0 := .lst (row.map D.int)) (p := pe) (N := ⟨fun δ' => b__law_stretches_2 W0 (endsD Q) δ', (endsD Q).rt, (endsD Q).bk, (endsD Q).ct, (endsD Q).rl⟩) row [] .un (by rw [List.length_nil]; omega) hp (fun l rr e => nomatch e) (fun s2 => by
    unfold tstrS
    simp only [DSIMP, b__law_stretches_2, p__law_stretches_2]
    exact q)
  unfold tstrS at this
  exact this
theorem ok__law_stretches {P : Program} {w : World} {K : PySem.W.Frag} {mg : Str → Option Value} {base : Heap} {f : Addr} {fd : FuncData} (F : Fun K "_law_stretches" "_law_stretches" s__law_stretches f fd) : FnG P w K mg base CX0 1 f fd ["_law_row"] (spD K 1 sp__law_stretches) :=
 fn_d0 F sc__law_stretches rfl (fun cdv A out s H E g r => run__law_stretches  cdv A out s H E g r) hsp__law_stretches
def sp__law_told : dSp := fun ds pe Q _ => ∃ (x : D) (L : List Spt) (lx ly : Int), ds = [x] ∧ itemsOf x = some (L.map sgD) ∧ L.Nodup ∧ L.length ≤ 4000000 ∧ (∀ s ∈ L, (lx ≤ s.1 ∧ s.1 < lx + 2800) ∧ ly ≤ s.2 ∧ s.2 < ly + 2800) ∧
  ∀ p : List Bx, Can p → (∀ x y, inP p x y = decide ((x, y) ∈ L)) → Win lx ly p → p.length ≤ 7840000 → Q (partD p) pe
abbrev s__law_told : Stmt := topS 22
abbrev n__law_told : List Str := ["_law_spots_here", "_law_rows", "_law_x", "_law_y", "_law_bands", "_law_row", "_law_found", "_law_top", "_law_high", "_law_wide"]
theorem sc__law_told : FnScope n__law_told ["_law_spots_here"] (defScope s__law_told) := ⟨rfl, rfl, rfl, by decide +kernel, rfl, by decide +kernel, by decide +kernel⟩
def p__law_told_x2_0 : dS := (dSet 5 (dCallD 1 [] sp__law_stretches (dCons (dDGet 1 (dVar 3)) dNil)))
def p__law_told_x2_1 : dS := (dIfS (dAnd (dB (dOwnL 4 (rNe) (dFz (dLst dNil)))) (dAnd (dB (dBin (rEq) (dBin rAddD (dBin rIxD (dOwnIx 4 (dC (.int (-1)))) (dC (.int 0))) (dBin rIxD (dOwnIx 4 (dC (.int (-1)))) (dC (.int 1)))) (dVar 3))) (dB (dBin (rEq) (dBin rIxD (dOwnIx 4 (dC (.int (-1)))) (dC (.int 2))) (dVar 5))))) (dApp 4 (dTup (dCons (dBin rIxD (dOwnIx 4 (dC (.int (-1)))) (dC (.int 0))) (dCons (dBin rAddD (dBin rIxD (dPop 4) (dC (.int 1))) (dC (.int 1))) (dCons (dVar 5) dNil))))) (dApp 4 (dTup (dCons (dVar 3) (dCons (dC (.int 1)) (dCons (dVar 5) dNil))))))
def b__law_told_x2_1 : dS := p__law_told_x2_1
def b__law_told_x2_0 : dS := dSeq (p__law_told_x2_0) (b__law_told_x2_1)
def b__law_told_f1 : dS := (dSet 6 (dFz (dBinF rCatL (dVar 6) (dFz (dLC (dSeqI (dVar 5)) (gT 2 (gsCons (gN 2) (gsCons (gN 9) gsNil))) dYes (dTup (dCons (dVar 2) (dCons (dVar 7) (dCons (dVar 9) (dCons (dVar 8) dNil))))) [2, 9])))))
def p__law_told_0 : dS := (dNewDK 1)
def p__law_told_1 : dS := (dGroup 1 (dSeqI (dFz (dCBF rSrtA (dCons (dVar 0) dNil)))) (gT 2 (gsCons (gN 2) (gsCons (gN 3) gsNil))) (dVar 3) (dVar 2))
def p__law_told_2 : dS := (dSetF 4 (dLst dNil))
def p__law_told_3 : dS := (dFor (dSeqI (dFz (dSortKo 1))) (gN 3) b__law_told_x2_0)
def p__law_told_4 : dS := (dSet 6 (dFz (dLst dNil)))
def p__law_told_5 : dS := (dFor (dSeqI (dTake 4)) (gT 3 (gsCons (gN 7) (gsCons (gN 8) (gsCons (gN 5) gsNil)))) b__law_told_f1)
def p__law_told_6 : dS := (dRet (dCB rTuple (dCons (dVar 6) dNil)))
def b__law_told_6 : dS := p__law_told_6
def b__law_told_5 : dS := dSeq (p__law_told_5) (b__law_told_6)
def b__law_told_4 : dS := dSeq (p__law_told_4) (b__law_told_5)
def b__law_told_3 : dS := dSeq (p__law_told_3) (b__law_told_4)
def b__law_told_2 : dS := dSeq (p__law_told_2) (b__law_told_3)
def b__law_told_1 : dS := dSeq (p__law_told_1) (b__law_told_2)
def b__law_told_0 : dS := dSeq (p__law_told_0) (b__law_told_1)
def b__law_told : dS := b__law_told_0
theorem run__law_told {P : Program} {w : World} {K : PySem.W.Frag} {mg : Str → Option Value} {base : Heap} (m_sorted : mg "sorted" = none) (m_tuple : mg "tuple" = none) (K__law_stretches_1 : Def P w K mg base 1 "_law_stretches" 1 sp__law_stretches []) {f : Addr} (cdv : Value) (A : Around) (out : List Env) (s : Shared) (H : Hp) (E : XK) (g : A.guards = some []) (hrA : Room 1 (A.deeper (envOfC "_law_told" (defScope s__law_told) s.heap.objs.size f cdv))) :
  DSs (cx0 P w K mg base n__law_told "_law_told" (defScope s__law_told) f cdv A out s H E) E00 (defBody s__law_told) b__law_told := by
 have hgA : (A.deeper (envOfC "_law_told" (defScope s__law_told) s.heap.objs.size f cdv)).guards = some [] := g
 have hun := hrA.un
 exact (dss_cons (t := p__law_told_0) (u := b__law_told_1) (ds_newK (i := 1) sc__law_told.nd rfl (by first | exact .inl rfl | exact .inr rfl))
  (dss_cons (t := p__law_told_1) (u := b__law_told_2) (ds_group (i := 1) PassesOwn.never rfl (di_seq (de_fz (df_callB (cd_sortedA rfl (Nat.lt_of_le_of_lt (Nat.add_le_add_left (by decide) _) hun)) (by rfl) m_sorted (by decide +kernel) (da_cons (de_var (pv 0)) da_nil)))) (dg_tup rfl (dgs_cons (dg_name (pg_name (i := 2) sc__law_told.nd rfl (by first | exact .inl rfl | exact .inr rfl))) (dgs_cons (dg_name (pg_name (i := 3) sc__law_told.nd rfl (by first | exact .inl rfl | exact .inr rfl))) dgs_nil))) (by decide) (pv 1) (de_var (pv 3)) (de_var (pv 2)) ⟨rfl, rfl, rfl, rfl⟩)
  (dss_cons (t := p__law_told_2) (u := b__law_told_3) (ds_setF (i := 4) sc__law_told.nd rfl (by first | exact .inl rfl | exact .inr rfl) (df_lst da_nil))
  (dss_cons (t := p__law_told_3) (u := b__law_told_4) (ds_for PassesOwn.never rfl (di_seq (de_fz (df_sortedKo rfl (Nat.lt_of_le_of_lt (Nat.add_le_add_left (by decide) _) hun) (pv 1) (by rfl) m_sorted (by decide +kernel)))) (dg_name (pg_name (i := 3) sc__law_told.nd rfl (by first | exact .inl rfl | exact .inr rfl))) (dss_cons (t := p__law_told_x2_0) (u := b__law_told_x2_1) (ds_set (i := 5) sc__law_told.nd rfl (by first | exact .inl rfl | exact .inr rfl) (de_callD K__law_stretches_1 hgA hrA (by rfl) (da_cons (de_dget (Nat.lt_of_le_of_lt (Nat.add_le_add_left (by decide) _) hun) (pv 1) (de_var (pv 3)) (fun _ _ => rfl)) da_nil)))
  (dss_one (t := p__law_told_x2_1) (ds_if ((dw_and (dt_ownL (od_ne (Nat.lt_of_le_of_lt (Nat.add_le_add_left (by decide) _) hun)) (pv 4) (de_fz (df_lst da_nil)) (nomark _)) (dw_and (dt_cmp (od_eq (Nat.lt_of_le_of_lt (Nat.add_le_add_left (by decide) _) hun)) (de_op od_add (de_ix (de_ownIx (pv 4) de_neg (fun _ _ => rfl)) de_int (fun _ _ => rfl)) (de_ix (de_ownIx (pv 4) de_neg (fun _ _ => rfl)) de_int (fun _ _ => rfl))) (de_var (pv 3)) (nomark _)) (dw_and1 (dt_cmp (od_eq (Nat.lt_of_le_of_lt (Nat.add_le_add_left (by decide) _) hun)) (de_ix (de_ownIx (pv 4) de_neg (fun _ _ => rfl)) de_int (fun _ _ => rfl)) (de_var (pv 5)) (nomark _)))))).dt (dss_one (ds_app (pv 4) (de_tup (da_cons (de_ix (de_ownIx (pv 4) de_neg (fun _ _ => rfl)) de_int (fun _ _ => rfl)) (da_cons (de_op od_add (de_ix (de_pop (pv 4)) de_int (fun _ _ => rfl)) de_int) (da_cons (de_var (pv 5)) da_nil)))))) (dss_one (ds_app (pv 4) (de_tup (da_cons (de_var (pv 3)) (da_cons de_int (da_cons (de_var (pv 5)) da_nil))))))))))
  (dss_cons (t := p__law_told_4) (u := b__law_told_5) (ds_set (i := 6) sc__law_told.nd rfl (by first | exact .inl rfl | exact .inr rfl) (de_fz (df_lst da_nil)))
  (dss_cons (t := p__law_told_5) (u := b__law_told_6) (ds_for PassesOwn.never rfl (di_seq (de_take (pv 4))) (dg_tup rfl (dgs_cons (dg_name (pg_name (i := 7) sc__law_told.nd rfl (by first | exact .inl rfl | exact .inr rfl))) (dgs_cons (dg_name (pg_name (i := 8) sc__law_told.nd rfl (by first | exact .inl rfl | exact .inr rfl))) (dgs_cons (dg_name (pg_name (i := 5) sc__law_told.nd rfl (by first | exact .inl rfl | exact .inr rfl))) dgs_nil)))) (dss_one (ds_set (i := 6) sc__law_told.nd rfl (by first | exact .inl rfl | exact .inr rfl) (de_fz (df_op od_catL (de_var (pv 6)) (de_fz (df_lc (E2 := E00) (own := [("_law_x", 2), ("_law_wide", 9)]) rfl sc__law_told.nd (di_seq (de_var (pv 5))) (blkOk_by (N := n__law_told) (sc := (defScope s__law_told)) (own := [("_law_x", 2), ("_law_wide", 9)]) (by decide +kernel)) (by decide) (fun _ _ _ _ _ => (dg_tup rfl (dgs_cons (dg_name (pg_name (i := 2) sc__law_told.nd rfl (by first | exact .inl rfl | exact .inr rfl))) (dgs_cons (dg_name (pg_name (i := 9) sc__law_told.nd rfl (by first | exact .inl rfl | exact .inr rfl))) dgs_nil)))) (fun _ _ _ _ _ => dts_nil) (fun _ _ _ _ _ => (de_tup (da_cons (de_var (pv 2)) (da_cons (de_var (pv 7)) (da_cons (de_var (pv 9)) (da_cons (de_var (pv 8)) da_nil)))))))))))))
  (dss_one (t := p__law_told_6) (ds_ret (de_callTy (cd_tuple) (by rfl) m_tuple (by decide +kernel) (da_cons (de_var (pv 6)) da_nil))))))))))
theorem wgrp_run {d0 : D} {pe : Pen} {Q : List (Key × List D) → DS → Prop} : ∀ (l pre : List Spt) (G : Grp) (s2 s3 : Sl), GOk G pre → pre.length + l.length ≤ 4000000 →
    (∀ s2 s3, Q (gDat (l.foldl gAdd G)) ⟨[.dat d0, .un, s2, s3, .un, .un, .un, .un, .un, .un], pe⟩) →
    wGrp (gT 2 (gsCons (gN 2) (gsCons (gN 3) gsNil))) (dVar 3) (dVar 2) Q (l.map sgD) (gDat G) ⟨[.dat d0, .un, s2, s3, .un, .un, .un, .un, .un, .un], pe⟩
  | [], pre, G, s2, s3, _, _, q => q _ _
  | s :: l, pre, G, s2, s3, hG, hl, q => by
    rw [List.length_cons] at hl
    have ih := wgrp_run (d0 := d0) (pe := pe) (Q := Q) l (pre ++ [s]) (gAdd G s) (.dat (.int s.1)) (.dat (.int s.2)) (hG.add s) (by rw [List.length_append, List.length_singleton]; omega) q
    rw [List.map_cons, wGrp]
    generalize wGrp (gT 2 (gsCons (gN 2) (gsCons (gN 3) gsNil))) (dVar 3) (dVar 2) Q (l.map sgD) = k at ih ⊢
    have g1 := hG.len
    have g2 := hG.small
    have e := grp_gDat G s
    have z1 : (gDat G).length < 16777216 := by unfold gDat; rw [List.length_map]; omega
    have z2 : ∀ e ∈ gDat G, e.2.length < 16777216 := fun e he => by
      obtain ⟨g, h1, rfl⟩ := List.mem_map.mp he
      have := g2 g h1
      show (g.2.map D.int).length < _
      rw [List.length_map]; omega
    simp only [DSIMP, sgD, e]
    exact ⟨z1, z2, ih⟩
def trowS (d : D) (G : Grp) (racc : List Band) (s2 s3 s5 : Sl) : List Sl := [.dat d, .ownK (lstD G), s2, s3, .own (racc.reverse.map bwD), s5, .un, .un, .un, .un]
theorem loop_trow {d0 : D} {pe : Pen} {N : dEnds} {G : Grp} (hG : ∀ y, y ∈ G.map (·.1) → ∃ xs : List Int, valD (lstD G) (Sum.inl y) = some (.lst (xs.map D.int)) ∧ xs.Pairwise (· < ·) ∧ xs.length ≤ 4000000 ∧ (rowBd G y).ss = joined (units xs)) :
    ∀ (ys : List Int) (racc : List Band) (s2 s3 s5 : Sl), (∀ y ∈ ys, y ∈ G.map (·.1)) → racc.length + ys.length ≤ 4000000 → (∀ s2 s3 s5, N.nx ⟨trowS d0 G (joinB racc (ys.map (rowBd G))) s2 s3 s5, pe⟩) →
    wFor (gN 3) b__law_told_x2_0 W0 N (ys.map D.int) ⟨trowS d0 G racc s2 s3 s5, pe⟩
  | [], racc, s2, s3, s5, _, _, h => by
    have e : joinB racc (([] : List Int).map (rowBd G)) = racc := by cases racc <;> rfl
    rw [e] at h
    exact h _ _ _
  | y :: ys, [], s2, s3, s5, hy, hl, h => by
    obtain ⟨xs, v1, v2, v3, v4⟩ := hG y (hy y List.mem_cons_self)
    have ih := loop_trow (d0 := d0) (pe := pe) (N := N) hG ys [rowBd G y] s2 (.dat (.int y)) (.dat (.lst ((joined (units xs)).map swD))) (fun z hz => hy z (List.mem_cons_of_mem _ hz)) (by simp only [List.length_cons, List.length_nil] at hl ⊢; omega) h
    rw [List.map_cons, wFor]
    generalize wFor (gN 3) b__law_told_x2_0 W0 N (ys.map D.int) = k at ih ⊢
    unfold trowS at ih ⊢
    simp only [List.reverse_cons, List.reverse_nil, List.nil_append, List.map_cons, List.map_nil, bwD, v4] at ih
    simp only [DSIMP, b__law_told_x2_0, p__law_told_x2_0, b__law_told_x2_1, p__law_told_x2_1, v1, sp__law_stretches]
    refine ⟨xs, rfl, v2, v3, ?_⟩
    simp only [DSIMP, List.reverse_nil]
    have e1 : (rowBd G y).b - (rowBd G y).t = 1 := by show y + 1 - y = 1; omega
    rw [e1] at ih
    exact ih
  | y :: ys, l :: racc, s2, s3, s5, hy, hl, h => by
    obtain ⟨xs, v1, v2, v3, v4⟩ := hG y (hy y List.mem_cons_self)
    simp only [List.length_cons] at hl
    have hz : (l :: racc).reverse.length < 16777216 := by rw [List.length_reverse, List.length_cons]; omega
    have hz2 : racc.reverse.length < 16777216 := by rw [List.length_reverse]; omega
    have ih1 := loop_trow (d0 := d0) (pe := pe) (N := N) hG ys (⟨l.t, y + 1, (rowBd G y).ss⟩ :: racc) s2 (.dat (.int y)) (.dat (.lst ((joined (units xs)).map swD))) (fun z hz => hy z (List.mem_cons_of_mem _ hz)) (by simp only [List.length_cons]; omega)
    have ih2 := loop_trow (d0 := d0) (pe := pe) (N := N) hG ys (rowBd G y :: l :: racc) s2 (.dat (.int y)) (.dat (.lst ((joined (units xs)).map swD))) (fun z hz => hy z (List.mem_cons_of_mem _ hz)) (by simp only [List.length_cons]; omega)
    rw [List.map_cons, wFor]
    generalize wFor (gN 3) b__law_told_x2_0 W0 N (ys.map D.int) = k at ih1 ih2 ⊢
    have hj : joinB (l :: racc) ((y :: ys).map (rowBd G)) = if l.b = y ∧ l.ss = (rowBd G y).ss then joinB (⟨l.t, y + 1, (rowBd G y).ss⟩ :: racc) (ys.map (rowBd G)) else joinB (rowBd G y :: l :: racc) (ys.map (rowBd G)) := by
      rw [List.map_cons, joinB]; rfl
    rw [hj] at h
    rw [v4] at h ih1
    have eb : bwD (rowBd G y) = .tup [.int y, .int 1, .lst ((joined (units xs)).map swD)] := by
      unfold bwD
      rw [v4]
      have : (rowBd G y).b - (rowBd G y).t = 1 := by show y + 1 - y = 1; omega
      rw [this]; rfl
    have ad : l.t + (l.b - l.t) = l.b := by omega
    unfold trowS at ih1 ih2 h ⊢
    simp only [DSIMP, b__law_told_x2_0, p__law_told_x2_0, b__law_told_x2_1, p__law_told_x2_1, v1, sp__law_stretches]
    refine ⟨xs, rfl, v2, v3, ?_⟩
    simp only [DSIMP, revw_last, revw_ne, lay_bws, dep_bws, bwD.eq_1 l, ad]
    by_cases q : l.b = y
    · simp only [DSIMP, q, revw_last, bwD.eq_1 l, lay_sws, dep_sws63, eq_sws]
      by_cases q2 : l.ss = joined (units xs)
      · rw [if_pos ⟨q, q2⟩] at h
        have w := ih1 h
        rw [← revw_app, bwD.eq_1 ⟨l.t, y + 1, joined (units xs)⟩] at w
        simp only [show y + 1 - l.t = l.b - l.t + 1 by omega] at w
        simp only [DSIMP, q2, revw_last, revw_pop, revw_drop, bwD.eq_1 l, hz2]
        exact w
      · rw [if_neg (fun z => q2 z.2)] at h
        have w := ih2 h
        rw [← revw_app, eb] at w
        simp only [DSIMP, q2, hz]
        exact w
    · rw [if_neg (fun z => q z.1)] at h
      have w := ih2 h
      rw [← revw_app, eb] at w
      simp only [DSIMP, q, hz]
      exact w
def tbxS (d : D) (G : Grp) (bs : List Band) (acc : List Bx) (s2 s3 s5 s7 s8 s9 : Sl) : List Sl := [.dat d, .ownK (lstD G), s2, s3, .dat (.lst (bs.map bwD)), s5, .dat (.lst (acc.map bxD)), s7, s8, s9]
theorem loop_tbx {d0 : D} {pe : Pen} {N : dEnds} {G : Grp} {b0 : List Band} : ∀ (bs : List Band) (acc : List Bx) (s2 s3 s5 s7 s8 s9 : Sl), acc.length + (boxesOf bs).length ≤ 8000000 → (∀ s2 s3 s5 s7 s8 s9, N.nx ⟨tbxS d0 G b0 (acc ++ boxesOf bs) s2 s3 s5 s7 s8 s9, pe⟩) →
    wFor (gT 3 (gsCons (gN 7) (gsCons (gN 8) (gsCons (gN 5) gsNil)))) b__law_told_f1 W0 N (bs.map bwD) ⟨tbxS d0 G b0 acc s2 s3 s5 s7 s8 s9, pe⟩
  | [], acc, s2, s3, s5, s7, s8, s9, _, h => by
    have := h s2 s3 s5 s7 s8 s9
    rw [show boxesOf [] = [] from rfl, List.append_nil] at this
    exact this
  | b :: bs, acc, s2, s3, s5, s7, s8, s9, hl, h => by
    have eb : boxesOf (b :: bs) = bxs b ++ boxesOf bs := by unfold boxesOf; rw [List.flatMap_cons]
    rw [eb, List.length_append, bxs_len] at hl
    have ih := loop_tbx (d0 := d0) (pe := pe) (N := N) (G := G) (b0 := b0) bs (acc ++ bxs b) .un s3 (.dat (.lst (b.ss.map swD))) (.dat (.int b.t)) (.dat (.int (b.b - b.t))) .un (by rw [List.length_append, bxs_len]; omega) (fun s2 s3 s5 s7 s8 s9 => by
      have := h s2 s3 s5 s7 s8 s9
      rw [eb, ← List.append_assoc] at this
      exact this)
    rw [List.map_cons, wFor]
    generalize wFor (gT 3 (gsCons (gN 7) (gsCons (gN 8) (gsCons (gN 5) gsNil)))) b__law_told_f1 W0 N (bs.map bwD) = k at ih ⊢
    unfold tbxS at ih ⊢
    simp only [DSIMP, b__law_told_f1, bwD.eq_1 b]
    refine wLC_maps (l := b.ss) (ι := swD) (f := fun s => bxD ⟨s.1, b.t, s.2 - s.1, b.b - b.t⟩) (fun s hs acc k hk q => ?_) (by rw [sizeLine_eq]; omega) ?_
    · simp only [DSIMP, swD]
      exact ⟨hk, q⟩
    · have e : (b.ss.map fun s => bxD ⟨s.1, b.t, s.2 - s.1, b.b - b.t⟩) = (bxs b).map bxD := by unfold bxs; rw [List.map_map]; rfl
      rw [e]
      simp only [DSIMP]
      refine ⟨by rw [bxs_len]; omega, ?_⟩
      rw [List.map_append] at ih
      exact ih
theorem hsp__law_told : ∀ ds p Q W, ds.length = 1 → sp__law_told ds p Q W → b__law_told W0 (endsD Q) (startD n__law_told.length ds p) := by
  rintro _ pe Q W - ⟨x, L, lx, ly, rfl, hx, hn, hl, hw, q⟩
  obtain ⟨m, em, pm, wm⟩ := sorted_sgs L
  have ml := pm.length_eq
  simp only [DSIMP, b__law_told_0, p__law_told_0, b__law_told_1, p__law_told_1, b__law_told, hx, em]
  refine ⟨srt_sgs (by rw [sizeLine_eq]; omega), ?_⟩
  have hG0 : ∀ (l pre : List Spt) (G : Grp), GOk G pre → GOk (l.foldl gAdd G) (pre ++ l) := fun l => by
    induction l with
    | nil => intro pre G h; rw [List.append_nil]; exact h
    | cons s l ih => intro pre G h; have := ih (pre ++ [s]) (gAdd G s) (h.add s); rw [List.append_assoc] at this; exact this
  have hG := hG0 m [] [] .nil
  rw [List.nil_append] at hG
  refine wgrp_run (d0 := x) (pe := pe) m [] [] _ _ .nil (by rw [List.length_nil]; omega) fun s2 s3 => ?_
  generalize m.foldl gAdd [] = G at hG
  obtain ⟨ys, ey, py, wy⟩ := sorted_nodup hG.nd
  have yl := py.length_eq
  rw [List.length_map] at yl
  have gl := hG.len
  have e3 : keyDK ((gDat G).map fun e => (e.1, D.lst e.2)) = (G.map (·.1)).map D.int := lstD_keys G
  simp only [DSIMP, b__law_told_2, p__law_told_2, b__law_told_3, p__law_told_3, e3, ey]
  refine ⟨srt_ints (by rw [List.length_map, sizeLine_eq]; omega), ?_⟩
  obtain ⟨c1, c2⟩ := told_ok pm wm hn hG py wy
  have rows : ∀ y, y ∈ G.map (·.1) → ∃ xs : List Int, valD (lstD G) (Sum.inl y) = some (.lst (xs.map D.int)) ∧ xs.Pairwise (· < ·) ∧ xs.length ≤ 4000000 ∧ (rowBd G y).ss = joined (units xs) := fun y h => by
    obtain ⟨g, h1, rfl⟩ := List.mem_map.mp h
    have r := rows_rise wm (pm.nodup_iff.mpr hn) g.1
    rw [← hG.eq g h1] at r
    refine ⟨g.2, lstD_val hG.nd h1, r, by have := hG.small g h1; omega, ?_⟩
    show joined (units _) = _
    rw [row_find hG.nd h1]; rfl
  have w := can_win (lx := lx) (ly := ly) c1 fun x y h => by rw [c2] at h; exact hw _ (of_decide_eq_true h)
  have l := can_len c1 w
  have jl := joinB_len (ys.map (rowBd G)) []
  rw [List.length_nil, List.length_map] at jl
  have := loop_trow (d0 := x) (pe := pe) (G := G) (N := ⟨fun δ' => b__law_told_4 W0 (endsD Q) δ', (endsD Q).rt, (endsD Q).bk, (endsD Q).ct, (endsD Q).rl⟩) rows ys [] s2 s3 .un (fun y h => py.mem_iff.mp h) (by rw [List.length_nil]; omega) (fun s2 s3 s5 => by
    unfold trowS
    simp only [DSIMP, b__law_told_4, p__law_told_4, b__law_told_5, p__law_told_5]
    have := loop_tbx (d0 := x) (pe := pe) (G := G) (b0 := (joinB [] (ys.map (rowBd G))).reverse) (N := ⟨fun δ' => b__law_told_6 W0 (endsD Q) δ', (endsD Q).rt, (endsD Q).bk, (endsD Q).ct, (endsD Q).rl⟩) (joinB [] (ys.map (rowBd G))).reverse [] s2 s3 s5 .un .un .un (by
      have : (boxesOf (joinB [] (ys.map (rowBd G))).reverse).length ≤ 7840000 := l
      rw [List.length_nil]; omega) (fun s2 s3 s5 s7 s8 s9 => by
      unfold tbxS
      simp only [DSIMP, b__law_told_6, p__law_told_6]
      exact q _ c1 c2 w l)
    unfold tbxS at this
    exact this)
  unfold trowS at this
  exact this
theorem ok__law_told {P : Program} {w : World} {K : PySem.W.Frag} {mg : Str → Option Value} {base : Heap} (m_sorted : mg "sorted" = none) (m_tuple : mg "tuple" = none) (K__law_stretches_1 : Def P w K mg base 1 "_law_stretches" 1 sp__law_stretches []) {f : Addr} {fd : FuncData} (F : Fun K "_law_told" "_law_told" s__law_told f fd) : FnG P w K mg base CX0 2 f fd ["_law_spots_here"] (spD K 1 sp__law_told) :=
 fn_d0 F sc__law_told rfl (fun cdv A out s H E g r => run__law_told m_sorted m_tuple K__law_stretches_1 cdv A out s H E g r) hsp__law_told
end Ev01
namespace Ev01
open PySem PySem.Spec PyProof.Rows L2 Ev Pt
local macro_rules
  | `(tactic| simp only [DSIMP, $as,*] $[$l:location]?) => `(tactic| simp only [dMk1, dMk0, rIsSK, rTupleK, rAddK, rNeE, rEL, List.isEmpty_nil, List.isEmpty_cons, gIx, rIsA, rIsS, kitS, kitS.optQB, D.cls, dHGet, dHPut, dBornK, penK_cells, penK_at, penK_left, penK_pat, penK_pleft, penK_len, ex_hpK, dOwnGet2, ownKs, dKpL, dNewKd, dKpLk, rDictPTf, dRaise1, dRaise0, excD, dTry, wTry, Ev.rIsE, Ev.rIsEt, D.xcN, dFldE, dCallVX, WP, exS_tab, dTakeN, dIxN, dKpNew, dKpPut, dKpIns, dKpApp, dKpFz, dRoK, dRoL, dNewK1, dIns, roK, dZipM, dNGet, dNPut, dNewN, isNo, Ev.nGet, Ev.nPut, D.nkey, dOrX, truD, rDictX, dTupN, dSlN, rAddN, rSrtN, rTupleN, rDictN, dSlX, dRevX, dLenSetN, dEmptyV, rLtX, rMulX, Ev.rReprX, dPenS, gStarDL, dAug, dIndexE, dZipS, dGcIn, dGbIx, dGdIn, dGdIx, dListRg, rDictPf, dZipL, dListKo, dEmptyT, dDispT1, dNeE, rListA, rDictPT, rIsTF, dGroup, rSrtA, rLenA, dInV, dIxV, dCount, dSortKo, dCallR, adD, gL, dDN, dLN, wNest, bNest, bEl, bEd, dZip, seqOf, dSortDK, dCallV, dCallLam, optQ, dEnum, D.nf, D.nfs, Ev.rSumD, dLock, dKeysI, gStarD, dReverse, dMove, dDGet2, getD2, D.isD, dDisp, dPairs, keysD, Ev.rMaxD, Ev.rMinD, rDictP, Option.getD_some, Option.getD_none, Ev.D.eq_refl, dPen1, dLenSet, dSrtR, dRo, dRoF, dRoT, roD, ro_un, ro_dat, ro_own, ro_hp, ro_law, ro_ownK, ro_ownT, List.forall_mem_map, flat_int, flat_str, flat_bl, flat_non, solid_int, solid_str, solid_bl, solid_non, solid_tup, solids_nil, solids_cons, dSeq, dNext, dSet, dSetF, setSl, dVar, dTake, dC, dBin, dBinF, dB, dIfS, dIf, dRet, dRetN, dExpr, dNil, dCons, dTup, dLst, dFz, dAnd, dOr, dNot, dAndV, dOrV, dNotV, dCallD, dCallK, dCB, dCBF, dFor, dLC, dYes, dRng1, dRng2, dSeqI, gN, gT, gsNil, gsCons, dAsg, dNeg, dJoin, dFs, dJs, dFmt, dApp, dExt, dPop, dPopAt, dOwnIx, dOwnCB, dOwnL, dOwnR, dOwnSl, dSetIx, dSlT, dSlL, oNone, oSome, dBorn, optQ, ownAt, setOwnAt, lookAt, wipeD, dNewDT, dNewDK, dDGet, dDIn, dDPut, dSortT, rSrt, isDict, Ev.dictGet, Ev.dictPut, Option.isSome_none, Option.isSome_some, D.keyT, keysOf, D.key, exists_eq_left', exists_eq_left, Option.isSome, rRepL, rCatL, dRetF, dIfF, dPar, dRetOwn, dCallL, dCallLK, dPen2, dRev, dRevI, dIndex, endsL, startL, dNever, dBrk, dCnt, rAddD, rSubI, rIO, rMulI, rDivI, rModI, rPowI, rCI, Ev.rIxD, rIsN, rNotN, D.isN, Ev.rLen, rTuple, rList, rAbs, rInt, rStr, Ev.rRepr, Ev.rIsi, D.ty, kit_tab, startD, endsD, List.map_cons, List.map_nil, List.length_cons, List.length_nil, List.append_nil, List.nil_append, List.cons_append, List.getElem?_cons_zero, List.getElem?_cons_succ, List.getElem?_nil, List.set_cons_zero, List.set_cons_succ, List.replicate, List.replicate_succ, Nat.zero_add, Nat.zero_le, sizeLine, true_and, and_true, if_true, Ev.eq_int, Ev.eq_str, Ev.eq_bl, Ev.eq_non, lst_nil, tup_nil, List.map_eq_nil_iff, txt_join, rLt, rLe, rGt, rGe, atI_ofNat, atI_last, wLC, strsOf, intsOf, blsOf, Option.map_some, Ev.join_two, Ev.join_one, Ev.join_nil, List.sum_cons, List.sum_nil, PySem.Str.empty_append, ixN_ofNat, Option.some.injEq, exists_eq', List.length_map, decide_true, decide_false, Bool.not_true, Bool.not_false, Bool.true_eq_false, Bool.false_eq_true, false_and, and_false, if_false, ite_true, ite_false, Nat.reduceAdd, Nat.reduceSub, Nat.reduceMul, Nat.reduceLT, Nat.reduceLeDiff, Nat.reduceEqDiff, Nat.reducePow, Int.reduceToNat, Int.reducePow, pickL, List.filterMap_cons, List.filterMap_nil, and_self, Int.reduceLT, Int.reduceLE, Int.reduceNeg, Int.reduceAdd, Int.reduceMul, Int.reduceSub, Int.reduceEq, reduceIte, reduceCtorEq, lit_eq, String.reduceEq, Ev.rEq, Ev.rNe, Ev.rInD, cut_toN, cut_fromN, List.map_take, List.forall_mem_cons, List.forall_mem_nil, List.not_mem_nil, false_imp_iff, implies_true, forall_const, D.cm, D.lay, D.lays, D.dep, D.deps, strOk_lit, lays_ints, deps_ints, Nat.max_self, Nat.max_zero, Nat.zero_max, Bool.and_self, Bool.true_and, Bool.and_true, Bool.and_false, Bool.false_and, Bool.or_false, Bool.or_true, Bool.true_or, Bool.false_or, List.any_cons, List.any_nil, decide_eq_true_eq, eq_self, $as,*] $[$l]?)
  | `(tactic| simp only [DSIMP] $[$l:location]?) => `(tactic| simp only [dMk1, dMk0, rIsSK, rTupleK, rAddK, rNeE, rEL, List.isEmpty_nil, List.isEmpty_cons, gIx, rIsA, rIsS, kitS, kitS.optQB, D.cls, dHGet, dHPut, dBornK, penK_cells, penK_at, penK_left, penK_pat, penK_pleft, penK_len, ex_hpK, dOwnGet2, ownKs, dKpL, dNewKd, dKpLk, rDictPTf, dRaise1, dRaise0, excD, dTry, wTry, Ev.rIsE, Ev.rIsEt, D.xcN, dFldE, dCallVX, WP, exS_tab, dTakeN, dIxN, dKpNew, dKpPut, dKpIns, dKpApp, dKpFz, dRoK, dRoL, dNewK1, dIns, roK, dZipM, dNGet, dNPut, dNewN, isNo, Ev.nGet, Ev.nPut, D.nkey, dOrX, truD, rDictX, dTupN, dSlN, rAddN, rSrtN, rTupleN, rDictN, dSlX, dRevX, dLenSetN, dEmptyV, rLtX, rMulX, Ev.rReprX, dPenS, gStarDL, dAug, dIndexE, dZipS, dGcIn, dGbIx, dGdIn, dGdIx, dListRg, rDictPf, dZipL, dListKo, dEmptyT, dDispT1, dNeE, rListA, rDictPT, rIsTF, dGroup, rSrtA, rLenA, dInV, dIxV, dCount, dSortKo, dCallR, adD, gL, dDN, dLN, wNest, bNest, bEl, bEd, dZip, seqOf, dSortDK, dCallV, dCallLam, optQ, dEnum, D.nf, D.nfs, Ev.rSumD, dLock, dKeysI, gStarD, dReverse, dMove, dDGet2, getD2, D.isD, dDisp, dPairs, keysD, Ev.rMaxD, Ev.rMinD, rDictP, Option.getD_some, Option.getD_none, Ev.D.eq_refl, dPen1, dLenSet, dSrtR, dRo, dRoF, dRoT, roD, ro_un, ro_dat, ro_own, ro_hp, ro_law, ro_ownK, ro_ownT, List.forall_mem_map, flat_int, flat_str, flat_bl, flat_non, solid_int, solid_str, solid_bl, solid_non, solid_tup, solids_nil, solids_cons, dSeq, dNext, dSet, dSetF, setSl, dVar, dTake, dC, dBin, dBinF, dB, dIfS, dIf, dRet, dRetN, dExpr, dNil, dCons, dTup, dLst, dFz, dAnd, dOr, dNot, dAndV, dOrV, dNotV, dCallD, dCallK, dCB, dCBF, dFor, dLC, dYes, dRng1, dRng2, dSeqI, gN, gT, gsNil, gsCons, dAsg, dNeg, dJoin, dFs, dJs, dFmt, dApp, dExt, dPop, dPopAt, dOwnIx, dOwnCB, dOwnL, dOwnR, dOwnSl, dSetIx, dSlT, dSlL, oNone, oSome, dBorn, optQ, ownAt, setOwnAt, lookAt, wipeD, dNewDT, dNewDK, dDGet, dDIn, dDPut, dSortT, rSrt, isDict, Ev.dictGet, Ev.dictPut, Option.isSome_none, Option.isSome_some, D.keyT, keysOf, D.key, exists_eq_left', exists_eq_left, Option.isSome, rRepL, rCatL, dRetF, dIfF, dPar, dRetOwn, dCallL, dCallLK, dPen2, dRev, dRevI, dIndex, endsL, startL, dNever, dBrk, dCnt, rAddD, rSubI, rIO, rMulI, rDivI, rModI, rPowI, rCI, Ev.rIxD, rIsN, rNotN, D.isN, Ev.rLen, rTuple, rList, rAbs, rInt, rStr, Ev.rRepr, Ev.rIsi, D.ty, kit_tab, startD, endsD, List.map_cons, List.map_nil, List.length_cons, List.length_nil, List.append_nil, List.nil_append, List.cons_append, List.getElem?_cons_zero, List.getElem?_cons_succ, List.getElem?_nil, List.set_cons_zero, List.set_cons_succ, List.replicate, List.replicate_succ, Nat.zero_add, Nat.zero_le, sizeLine, true_and, and_true, if_true, Ev.eq_int, Ev.eq_str, Ev.eq_bl, Ev.eq_non, lst_nil, tup_nil, List.map_eq_nil_iff, txt_join, rLt, rLe, rGt, rGe, atI_ofNat, atI_last, wLC, strsOf, intsOf, blsOf, Option.map_some, Ev.join_two, Ev.join_one, Ev.join_nil, List.sum_cons, List.sum_nil, PySem.Str.empty_append, ixN_ofNat, Option.some.injEq, exists_eq', List.length_map, decide_true, decide_false, Bool.not_true, Bool.not_false, Bool.true_eq_false, Bool.false_eq_true, false_and, and_false, if_false, ite_true, ite_false, Nat.reduceAdd, Nat.reduceSub, Nat.reduceMul, Nat.reduceLT, Nat.reduceLeDiff, Nat.reduceEqDiff, Nat.reducePow, Int.reduceToNat, Int.reducePow, pickL, List.filterMap_cons, List.filterMap_nil, and_self, Int.reduceLT, Int.reduceLE, Int.reduceNeg, Int.reduceAdd, Int.reduceMul, Int.reduceSub, Int.reduceEq, reduceIte, reduceCtorEq, lit_eq, String.reduceEq, Ev.rEq, Ev.rNe, Ev.rInD, cut_toN, cut_fromN, List.map_take, List.forall_mem_cons, List.forall_mem_nil, List.not_mem_nil, false_imp_iff, implies_true, forall_const, D.cm, D.lay, D.lays, D.dep, D.deps, strOk_lit, lays_ints, deps_ints, Nat.max_self, Nat.max_zero, Nat.zero_max, Bool.and_self, Bool.true_and, Bool.and_true, Bool.and_false, Bool.false_and, Bool.or_false, Bool.or_true, Bool.true_or, Bool.false_or, List.any_cons, List.any_nil, decide_eq_true_eq, eq_self] $[$l]?)
variable [TabC] [PkL]
def sp__law_draw : dSp := spDraw 65536
abbrev s__law_draw : Stmt := topS 19
abbrev n__law_draw : List Str := ["_law_pen", "_law_many", "_law_digit", "_law_at", "_law_cell", "_law_stirred"]
theorem sc__law_draw : FnScope n__law_draw ["_law_pen", "_law_many"] (defScope s__law_draw) := ⟨rfl, rfl, rfl, by decide +kernel, rfl, by decide +kernel, by decide +kernel⟩
def p__law_draw_x2_0 : dS := (dSet 2 (dBin rModI (dOwnIx 0 (dC (.int 2))) (dVar 1)))
def p__law_draw_x2_1 : dS := (dSetIx 0 (dC (.int 2)) (dBin rDivI (dOwnIx 0 (dC (.int 2))) (dVar 1)))
def p__law_draw_x2_2 : dS := (dRet (dVar 2))
def b__law_draw_x2_2 : dS := p__law_draw_x2_2
def b__law_draw_x2_1 : dS := dSeq (p__law_draw_x2_1) (b__law_draw_x2_2)
def b__law_draw_x2_0 : dS := dSeq (p__law_draw_x2_0) (b__law_draw_x2_1)
def p__law_draw_x3_0 : dS := (dSetIx 0 (dC (.int 2)) (dBin rDivI (dCB rAbs (dCons (dVar 4) dNil)) (dVar 1)))
def p__law_draw_x3_1 : dS := (dRet (dBin rModI (dCB rAbs (dCons (dVar 4) dNil)) (dVar 1)))
def b__law_draw_x3_1 : dS := p__law_draw_x3_1
def b__law_draw_x3_0 : dS := dSeq (p__law_draw_x3_0) (b__law_draw_x3_1)
def p__law_draw_0 : dS := (dIfS (dB (dBin (rGt) (dOwnIx 0 (dC (.int 2))) (dC (.int 0)))) b__law_draw_x2_0 dNext)
def p__law_draw_1 : dS := (dSet 3 (dOwnIx 0 (dC (.int 1))))
def p__law_draw_2 : dS := (dSetIx 0 (dC (.int 1)) (dBin rAddD (dVar 3) (dC (.int 1))))
def p__law_draw_3 : dS := (dSet 4 (dBin rAddD (dBin rMulI (dC (.int 40009)) (dVar 3)) (dC (.int 101))))
def p__law_draw_4 : dS := (dIfS (dB (dBin (rNe) (dOwnIx 0 (dC (.int 0))) (dFz (dLst dNil)))) (dSet 4 (dBin rIxD (dOwnIx 0 (dC (.int 0))) (dBin rModI (dVar 3) (dCB rLen (dCons (dOwnIx 0 (dC (.int 0))) dNil))))) dNext)
def p__law_draw_5 : dS := (dIfS (dAnd (dB (dBin (rLt) (dVar 3) (dCB rLen (dCons (dOwnIx 0 (dC (.int 0))) dNil)))) (dB (dBin (rGe) (dCB rAbs (dCons (dVar 4) dNil)) (dBin rPowI (dC (.int 10)) (dC (.int 18)))))) b__law_draw_x3_0 dNext)
def p__law_draw_6 : dS := (dSet 5 (dBin rModI (dBin rPowI (dBin rAddD (dBin rAddD (dBin rAddD (dBin rModI (dVar 4) (dC (.int 2147483563))) (dBin rMulI (dBin rMulI (dC (.int 90001)) (dVar 3)) (dVar 3))) (dBin rMulI (dC (.int 30011)) (dVar 3))) (dC (.int 61))) (dC (.int 3))) (dC (.int 2147483647))))
def p__law_draw_7 : dS := (dSet 5 (dBin rModI (dBin rPowI (dBin rAddD (dBin rMulI (dVar 5) (dBin rAddD (dBin rMulI (dC (.int 15)) (dVar 3)) (dC (.int 10)))) (dC (.int 80021))) (dC (.int 3))) (dC (.int 2147483587))))
def p__law_draw_8 : dS := (dRet (dBin rModI (dBin rDivI (dVar 5) (dC (.int 32))) (dVar 1)))
def b__law_draw_8 : dS := p__law_draw_8
def b__law_draw_7 : dS := dSeq (p__law_draw_7) (b__law_draw_8)
def b__law_draw_6 : dS := dSeq (p__law_draw_6) (b__law_draw_7)
def b__law_draw_5 : dS := dSeq (p__law_draw_5) (b__law_draw_6)
def b__law_draw_4 : dS := dSeq (p__law_draw_4) (b__law_draw_5)
def b__law_draw_3 : dS := dSeq (p__law_draw_3) (b__law_draw_4)
def b__law_draw_2 : dS := dSeq (p__law_draw_2) (b__law_draw_3)
def b__law_draw_1 : dS := dSeq (p__law_draw_1) (b__law_draw_2)
def b__law_draw_0 : dS := dSeq (p__law_draw_0) (b__law_draw_1)
def b__law_draw : dS := b__law_draw_0
theorem run__law_draw {P : Program} {w : World} {K : PySem.W.Frag} {mg : Str → Option Value} {base : Heap} (m_abs : mg "abs" = none) (m_len : mg "len" = none) {f : Addr} (cdv : Value) (A : Around) (out : List Env) (s : Shared) (H : Hp) (E : XK) (g : A.guards = some []) (hrA : Room 0 (A.deeper (envOfC "_law_draw" (defScope s__law_draw) s.heap.objs.size f cdv))) :
  DSs (cx0 P w K mg base n__law_draw "_law_draw" (defScope s__law_draw) f cdv A out s H E) E00 (defBody s__law_draw) b__law_draw := by
 have hgA : (A.deeper (envOfC "_law_draw" (defScope s__law_draw) s.heap.objs.size f cdv)).guards = some [] := g
 have hun := hrA.un
 exact (dss_cons (t := p__law_draw_0) (u := b__law_draw_1) (ds_if (dt_cmp (od_gt) (de_ownIx (pv 0) de_int (fun _ _ => rfl)) de_int (nomark _)) (dss_cons (t := p__law_draw_x2_0) (u := b__law_draw_x2_1) (ds_set (i := 2) sc__law_draw.nd rfl (by first | exact .inl rfl | exact .inr rfl) (de_op od_mod (de_ownIx (pv 0) de_int (fun _ _ => rfl)) (de_var (pv 1))))
  (dss_cons (t := p__law_draw_x2_1) (u := b__law_draw_x2_2) (ds_setIx (pv 0) de_int (de_op od_div (de_ownIx (pv 0) de_int (fun _ _ => rfl)) (de_var (pv 1))))
  (dss_one (t := p__law_draw_x2_2) (ds_ret (de_var (pv 2)))))) dss_nil)
  (dss_cons (t := p__law_draw_1) (u := b__law_draw_2) (ds_set (i := 3) sc__law_draw.nd rfl (by first | exact .inl rfl | exact .inr rfl) (de_ownIx (pv 0) de_int (fun _ _ => rfl)))
  (dss_cons (t := p__law_draw_2) (u := b__law_draw_3) (ds_setIx (pv 0) de_int (de_op od_add (de_var (pv 3)) de_int))
  (dss_cons (t := p__law_draw_3) (u := b__law_draw_4) (ds_set (i := 4) sc__law_draw.nd rfl (by first | exact .inl rfl | exact .inr rfl) (de_op od_add (de_op od_mul de_int (de_var (pv 3))) de_int))
  (dss_cons (t := p__law_draw_4) (u := b__law_draw_5) (ds_if (dt_cmp (od_ne (Nat.lt_of_le_of_lt (Nat.add_le_add_left (by decide) _) hun)) (de_ownIx (pv 0) de_int (fun _ _ => rfl)) (de_fz (df_lst da_nil)) (nomark _)) (dss_one (ds_set (i := 4) sc__law_draw.nd rfl (by first | exact .inl rfl | exact .inr rfl) (de_ix (de_ownIx (pv 0) de_int (fun _ _ => rfl)) (de_op od_mod (de_var (pv 3)) (de_callB (cd_len) (by rfl) m_len PySem.boot_len (da_cons (de_ownIx (pv 0) de_int (fun _ _ => rfl)) da_nil))) (fun _ _ => rfl)))) dss_nil)
  (dss_cons (t := p__law_draw_5) (u := b__law_draw_6) (ds_if ((dw_and (dt_cmp (od_lt) (de_var (pv 3)) (de_callB (cd_len) (by rfl) m_len PySem.boot_len (da_cons (de_ownIx (pv 0) de_int (fun _ _ => rfl)) da_nil)) (nomark _)) (dw_and1 (dt_cmp (od_ge) (de_callB (cd_abs) (by rfl) m_abs (by decide +kernel) (da_cons (de_var (pv 4)) da_nil)) (de_op od_pow de_int de_int) (nomark _))))).dt (dss_cons (t := p__law_draw_x3_0) (u := b__law_draw_x3_1) (ds_setIx (pv 0) de_int (de_op od_div (de_callB (cd_abs) (by rfl) m_abs (by decide +kernel) (da_cons (de_var (pv 4)) da_nil)) (de_var (pv 1))))
  (dss_one (t := p__law_draw_x3_1) (ds_ret (de_op od_mod (de_callB (cd_abs) (by rfl) m_abs (by decide +kernel) (da_cons (de_var (pv 4)) da_nil)) (de_var (pv 1)))))) dss_nil)
  (dss_cons (t := p__law_draw_6) (u := b__law_draw_7) (ds_set (i := 5) sc__law_draw.nd rfl (by first | exact .inl rfl | exact .inr rfl) (de_op od_mod (de_op od_pow (de_op od_add (de_op od_add (de_op od_add (de_op od_mod (de_var (pv 4)) de_int) (de_op od_mul (de_op od_mul de_int (de_var (pv 3))) (de_var (pv 3)))) (de_op od_mul de_int (de_var (pv 3)))) de_int) de_int) de_int))
  (dss_cons (t := p__law_draw_7) (u := b__law_draw_8) (ds_set (i := 5) sc__law_draw.nd rfl (by first | exact .inl rfl | exact .inr rfl) (de_op od_mod (de_op od_pow (de_op od_add (de_op od_mul (de_var (pv 5)) (de_op od_add (de_op od_mul de_int (de_var (pv 3))) de_int)) de_int) de_int) de_int))
  (dss_one (t := p__law_draw_8) (ds_ret (de_op od_mod (de_op od_div (de_var (pv 5)) de_int) (de_var (pv 1)))))))))))))
theorem hsp__law_draw : ∀ (ns : List Int) (k m n : Int), ns.length ≤ 63 → 0 ≤ k → k < (65536 : Nat) → 0 ≤ m → 0 < n → n < 1000000 →
      b__law_draw W0 { nx := fun _ => False, rt := fun x δ => ∃ r k' m' : Int, x = .int r ∧ 0 ≤ r ∧ r < n ∧ 0 ≤ k' ∧ k' ≤ k + 1 ∧ 0 ≤ m' ∧ δ.sl[0]? = some (.hp (penD ns k' m')) } ⟨.hp (penD ns k m) :: .dat (.int n) :: List.replicate (n__law_draw.length - 2) .un, none⟩ := by
  intro ns k m n hl k0 k1 m0 n0 n1
  have ab : ∀ i : Int, 0 ≤ (if i < 0 then -i else i) := fun i => by split <;> omega
  have dv : ∀ i : Int, 0 ≤ i → 0 ≤ i / n := fun i h => Int.ediv_nonneg h (by omega)
  by_cases hm : 0 < m
  · simp only [DSIMP, b__law_draw, n__law_draw, p__law_draw_x2_0, p__law_draw_x2_1, p__law_draw_x2_2, b__law_draw_x2_2, b__law_draw_x2_1, b__law_draw_x2_0, p__law_draw_x3_0, p__law_draw_x3_1, b__law_draw_x3_1, b__law_draw_x3_0, p__law_draw_0, p__law_draw_1, p__law_draw_2, p__law_draw_3, p__law_draw_4, p__law_draw_5, p__law_draw_6, p__law_draw_7, p__law_draw_8, b__law_draw_8, b__law_draw_7, b__law_draw_6, b__law_draw_5, b__law_draw_4, b__law_draw_3, b__law_draw_2, b__law_draw_1, b__law_draw_0, penD, hm]
    refine ⟨n0, ⟨n0, by omega⟩, _, _, _, rfl, Int.emod_nonneg _ (by omega), Int.emod_lt_of_pos _ n0, k0, by omega, dv _ m0, rfl⟩
  · have t0 := mul_bnd (a := 90001 * k) (b := k) (A := 90001 * 65536) (B := 65536) (by omega) (by omega) k0 (by omega)
    have leaf : ∀ c : Int, CMul 90001 k ∧ CMul (90001 * k) k ∧ CMul 30011 k ∧ CPow (c % 2147483563 + 90001 * k * k + 30011 * k + 61) 3 := fun c =>
      ⟨.inl ⟨by decide, by decide⟩, .inr ⟨by omega, by omega⟩, .inl ⟨by decide, by decide⟩, ⟨by decide, by decide, by
        have := Int.emod_nonneg c (show (2147483563 : Int) ≠ 0 by decide)
        have := Int.emod_lt_of_pos c (show (0 : Int) < 2147483563 by decide)
        omega⟩⟩
    have m15 : CMul 15 k := .inl ⟨by decide, by decide⟩
    have top : ∀ z : Int, CMul z (15 * k + 10) := fun z => .inr ⟨by omega, by omega⟩
    have pw : ∀ z : Int, CPow (z % 2147483647 * (15 * k + 10) + 80021) 3 := fun z => ⟨by decide, by decide, by
      have h1 := Int.emod_nonneg z (show (2147483647 : Int) ≠ 0 by decide)
      have h2 := Int.emod_lt_of_pos z (show (0 : Int) < 2147483647 by decide)
      have := mul_bnd (a := z % 2147483647) (b := 15 * k + 10) (A := 2147483647) (B := 983050) h1 (by omega) (by omega) (by omega)
      omega⟩
    have fin : ∀ c : Int, ∃ r k' m' : Int, D.int (c % n) = D.int r ∧ 0 ≤ r ∧ r < n ∧ 0 ≤ k' ∧ k' ≤ k + 1 ∧ 0 ≤ m' ∧ Sl.hp [D.lst (ns.map D.int), D.int (k + 1), D.int m] = Sl.hp [D.lst (ns.map D.int), D.int k', D.int m'] := fun c =>
      ⟨_, _, _, rfl, Int.emod_nonneg _ (by omega), Int.emod_lt_of_pos _ n0, by omega, by omega, m0, rfl⟩
    have cm : CMul 40009 k := .inl ⟨by decide, by decide⟩
    have cd : ∀ z : Int, CDiv z 32 := fun _ => ⟨by decide, by decide⟩
    by_cases hn : ns = []
    · have hk : ¬ k < ns.length := by rw [hn]; simp; omega
      obtain ⟨l1, l2, l3, l4⟩ := leaf (40009 * k + 101)
      simp only [DSIMP, b__law_draw, n__law_draw, p__law_draw_x2_0, p__law_draw_x2_1, p__law_draw_x2_2, b__law_draw_x2_2, b__law_draw_x2_1, b__law_draw_x2_0, p__law_draw_x3_0, p__law_draw_x3_1, b__law_draw_x3_1, b__law_draw_x3_0, p__law_draw_0, p__law_draw_1, p__law_draw_2, p__law_draw_3, p__law_draw_4, p__law_draw_5, p__law_draw_6, p__law_draw_7, p__law_draw_8, b__law_draw_8, b__law_draw_7, b__law_draw_6, b__law_draw_5, b__law_draw_4, b__law_draw_3, b__law_draw_2, b__law_draw_1, b__law_draw_0, penD, hm, eq_true hn, hk]
      exact ⟨cm, l1, l2, l3, l4, m15, top _, pw _, cd _, n0, fin _⟩
    · have h0 : (0 : Int) < ns.length := by
        cases ns with
        | nil => exact absurd rfl hn
        | cons x r => simp only [List.length_cons]; omega
      obtain ⟨c, hc⟩ := cell_at (k := k) h0
      obtain ⟨l1, l2, l3, l4⟩ := leaf c
      by_cases hk : k < ns.length
      · by_cases hb : 1000000000000000000 ≤ (if c < 0 then -c else c)
        · simp only [DSIMP, b__law_draw, n__law_draw, p__law_draw_x2_0, p__law_draw_x2_1, p__law_draw_x2_2, b__law_draw_x2_2, b__law_draw_x2_1, b__law_draw_x2_0, p__law_draw_x3_0, p__law_draw_x3_1, b__law_draw_x3_1, b__law_draw_x3_0, p__law_draw_0, p__law_draw_1, p__law_draw_2, p__law_draw_3, p__law_draw_4, p__law_draw_5, p__law_draw_6, p__law_draw_7, p__law_draw_8, b__law_draw_8, b__law_draw_7, b__law_draw_6, b__law_draw_5, b__law_draw_4, b__law_draw_3, b__law_draw_2, b__law_draw_1, b__law_draw_0, penD, hm, eq_false hn, hc, hk, hb]
          exact ⟨cm, h0, ⟨by decide, by decide, by decide⟩, ⟨n0, by omega⟩, n0, _, _, _, rfl, Int.emod_nonneg _ (by omega), Int.emod_lt_of_pos _ n0, by omega, by omega, dv _ (ab c), rfl⟩
        · simp only [DSIMP, b__law_draw, n__law_draw, p__law_draw_x2_0, p__law_draw_x2_1, p__law_draw_x2_2, b__law_draw_x2_2, b__law_draw_x2_1, b__law_draw_x2_0, p__law_draw_x3_0, p__law_draw_x3_1, b__law_draw_x3_1, b__law_draw_x3_0, p__law_draw_0, p__law_draw_1, p__law_draw_2, p__law_draw_3, p__law_draw_4, p__law_draw_5, p__law_draw_6, p__law_draw_7, p__law_draw_8, b__law_draw_8, b__law_draw_7, b__law_draw_6, b__law_draw_5, b__law_draw_4, b__law_draw_3, b__law_draw_2, b__law_draw_1, b__law_draw_0, penD, hm, eq_false hn, hc, hk, hb]
          exact ⟨cm, h0, ⟨by decide, by decide, by decide⟩, l1, l2, l3, l4, m15, top _, pw _, cd _, n0, fin _⟩
      · simp only [DSIMP, b__law_draw, n__law_draw, p__law_draw_x2_0, p__law_draw_x2_1, p__law_draw_x2_2, b__law_draw_x2_2, b__law_draw_x2_1, b__law_draw_x2_0, p__law_draw_x3_0, p__law_draw_x3_1, b__law_draw_x3_1, b__law_draw_x3_0, p__law_draw_0, p__law_draw_1, p__law_draw_2, p__law_draw_3, p__law_draw_4, p__law_draw_5, p__law_draw_6, p__law_draw_7, p__law_draw_8, b__law_draw_8, b__law_draw_7, b__law_draw_6, b__law_draw_5, b__law_draw_4, b__law_draw_3, b__law_draw_2, b__law_draw_1, b__law_draw_0, penD, hm, eq_false hn, hc, hk]
        exact ⟨cm, h0, l1, l2, l3, l4, m15, top _, pw _, cd _, n0, fin _⟩
theorem ok__law_draw {P : Program} {w : World} {K : PySem.W.Frag} {mg : Str → Option Value} {base : Heap} (m_abs : mg "abs" = none) (m_len : mg "len" = none) {f : Addr} {fd : FuncData} (F : Fun K "_law_draw" "_law_draw" s__law_draw f fd) : FnG P w K mg base CX0 1 f fd ["_law_pen", "_law_many"] (spD K 2 sp__law_draw) :=
 fn_pen (top := 65536) F sc__law_draw rfl (fun cdv A out s H E g r => run__law_draw m_abs m_len cdv A out s H E g r) hsp__law_draw
theorem dep_bxs63 (p : List Bx) : D.deps (p.map bxD) ≤ 63 := Nat.le_trans (dep_bxs p) (by decide)
structure okB (i : Nat) (b : Bx) : Prop where
  x0 : -999 ≤ b.x
  x1 : b.x ≤ 900 + 40 * i
  y0 : -999 ≤ b.y
  y1 : b.y ≤ 900 + 40 * i
  w0 : 1 ≤ b.w
  w1 : b.w ≤ 40
  h0 : 1 ≤ b.h
  h1 : b.h ≤ 40
  z : b.w ≤ 6 ∨ b.h ≤ 6
def sp__law_boxes : dSp := fun ds pe Q _ => ∃ (a : Addr) (c m : Nat), ds = [.raw (.ref a), .int m] ∧ pe = some (a, c) ∧ m ≤ 8 ∧ c + 80 < 65536 ∧ ∀ (bs : List Bx) (c' : Nat), bs.length ≤ 8 → (∀ b ∈ bs, okB 8 b) → c' ≤ c + 70 → Q (.lst (bs.map bxD)) (some (a, c'))
abbrev s__law_boxes : Stmt := topS 23
abbrev n__law_boxes : List Str := ["_law_pen", "_law_most", "_law_found", "_law_k", "_law_x", "_law_y", "_law_wide", "_law_high", "_law_way"]
theorem sc__law_boxes : FnScope n__law_boxes ["_law_pen", "_law_most"] (defScope s__law_boxes) := ⟨rfl, rfl, rfl, by decide +kernel, rfl, by decide +kernel, by decide +kernel⟩
def p__law_boxes_x3_0 : dS := (dAsg (dOwnIx 2 (dCallD 2 [] sp__law_draw (dCons (dVar 0) (dCons (dOwnCB 2 rLen) dNil)))) (gT 4 (gsCons (gN 4) (gsCons (gN 5) (gsCons (gN 6) (gsCons (gN 7) gsNil))))))
def p__law_boxes_x3_1 : dS := (dAsg (dBin rIxD (dFz (dLst (dCons (dTup (dCons (dBin rAddD (dVar 4) (dVar 6)) (dCons (dVar 5) dNil))) (dCons (dTup (dCons (dVar 4) (dCons (dBin rAddD (dVar 5) (dVar 7)) dNil))) (dCons (dTup (dCons (dVar 4) (dCons (dVar 5) dNil))) dNil))))) (dCallD 2 [] sp__law_draw (dCons (dVar 0) (dCons (dC (.int 3)) dNil)))) (gT 2 (gsCons (gN 4) (gsCons (gN 5) gsNil))))
def b__law_boxes_x3_1 : dS := p__law_boxes_x3_1
def b__law_boxes_x3_0 : dS := dSeq (p__law_boxes_x3_0) (b__law_boxes_x3_1)
def p__law_boxes_x2_0 : dS := (dPar 4 5 (dCons (dBin rSubI (dCallD 2 [] sp__law_draw (dCons (dVar 0) (dCons (dC (.int 9)) dNil))) (dC (.int 4))) (dCons (dBin rSubI (dCallD 2 [] sp__law_draw (dCons (dVar 0) (dCons (dC (.int 9)) dNil))) (dC (.int 4))) dNil)))
def p__law_boxes_x2_1 : dS := (dPar 6 7 (dCons (dBin rAddD (dC (.int 1)) (dCallD 2 [] sp__law_draw (dCons (dVar 0) (dCons (dC (.int 6)) dNil)))) (dCons (dBin rAddD (dC (.int 1)) (dCallD 2 [] sp__law_draw (dCons (dVar 0) (dCons (dC (.int 6)) dNil)))) dNil)))
def p__law_boxes_x2_2 : dS := (dSet 8 (dCallD 2 [] sp__law_draw (dCons (dVar 0) (dCons (dC (.int 8)) dNil))))
def p__law_boxes_x2_3 : dS := (dIfS (dAnd (dB (dBin (rEq) (dVar 8) (dC (.int 0)))) (dB (dOwnL 2 (rNe) (dFz (dLst dNil))))) b__law_boxes_x3_0 dNext)
def p__law_boxes_x2_4 : dS := (dIfS (dB (dBin (rEq) (dVar 8) (dC (.int 2)))) (dPar 4 5 (dCons (dBin rIxD (dFz (dLst (dCons (dC (.int (-999))) (dCons (dC (.int 900)) (dCons (dVar 5) dNil))))) (dCallD 2 [] sp__law_draw (dCons (dVar 0) (dCons (dC (.int 3)) dNil)))) (dCons (dBin rIxD (dFz (dLst (dCons (dC (.int (-999))) (dCons (dC (.int 900)) (dCons (dVar 4) dNil))))) (dCallD 2 [] sp__law_draw (dCons (dVar 0) (dCons (dC (.int 3)) dNil)))) dNil))) dNext)
def p__law_boxes_x2_5 : dS := (dIfS (dB (dBin (rEq) (dVar 8) (dC (.int 1)))) (dAsg (dBin rIxD (dFz (dLst (dCons (dTup (dCons (dBin rAddD (dC (.int 1)) (dCallD 2 [] sp__law_draw (dCons (dVar 0) (dCons (dC (.int 40)) dNil)))) (dCons (dVar 7) dNil))) (dCons (dTup (dCons (dVar 6) (dCons (dBin rAddD (dC (.int 1)) (dCallD 2 [] sp__law_draw (dCons (dVar 0) (dCons (dC (.int 40)) dNil)))) dNil))) dNil)))) (dCallD 2 [] sp__law_draw (dCons (dVar 0) (dCons (dC (.int 2)) dNil)))) (gT 2 (gsCons (gN 6) (gsCons (gN 7) gsNil)))) dNext)
def p__law_boxes_x2_6 : dS := (dApp 2 (dTup (dCons (dVar 4) (dCons (dVar 5) (dCons (dVar 6) (dCons (dVar 7) dNil))))))
def b__law_boxes_x2_6 : dS := p__law_boxes_x2_6
def b__law_boxes_x2_5 : dS := dSeq (p__law_boxes_x2_5) (b__law_boxes_x2_6)
def b__law_boxes_x2_4 : dS := dSeq (p__law_boxes_x2_4) (b__law_boxes_x2_5)
def b__law_boxes_x2_3 : dS := dSeq (p__law_boxes_x2_3) (b__law_boxes_x2_4)
def b__law_boxes_x2_2 : dS := dSeq (p__law_boxes_x2_2) (b__law_boxes_x2_3)
def b__law_boxes_x2_1 : dS := dSeq (p__law_boxes_x2_1) (b__law_boxes_x2_2)
def b__law_boxes_x2_0 : dS := dSeq (p__law_boxes_x2_0) (b__law_boxes_x2_1)
def p__law_boxes_0 : dS := (dSetF 2 (dLst dNil))
def p__law_boxes_1 : dS := (dFor (dRng1 (dCons (dBin rIxD (dFz (dLst (dCons (dC (.int 0)) (dCons (dC (.int 1)) (dCons (dVar 1) (dCons (dCallD 2 [] sp__law_draw (dCons (dVar 0) (dCons (dBin rAddD (dVar 1) (dC (.int 1))) dNil))) dNil)))))) (dCallD 2 [] sp__law_draw (dCons (dVar 0) (dCons (dC (.int 4)) dNil)))) dNil)) (gN 3) b__law_boxes_x2_0)
def p__law_boxes_2 : dS := (dRet (dTake 2))
def b__law_boxes_2 : dS := p__law_boxes_2
def b__law_boxes_1 : dS := dSeq (p__law_boxes_1) (b__law_boxes_2)
def b__law_boxes_0 : dS := dSeq (p__law_boxes_0) (b__law_boxes_1)
def b__law_boxes : dS := b__law_boxes_0
theorem run__law_boxes {P : Program} {w : World} {K : PySem.W.Frag} {mg : Str → Option Value} {base : Heap} (m_len : mg "len" = none) (m_range : mg "range" = none) (K__law_draw_2 : Def P w K mg base 1 "_law_draw" 2 sp__law_draw []) {f : Addr} (cdv : Value) (A : Around) (out : List Env) (s : Shared) (H : Hp) (E : XK) (g : A.guards = some []) (hrA : Room 1 (A.deeper (envOfC "_law_boxes" (defScope s__law_boxes) s.heap.objs.size f cdv))) :
  DSs (cx0 P w K mg base n__law_boxes "_law_boxes" (defScope s__law_boxes) f cdv A out s H E) E00 (defBody s__law_boxes) b__law_boxes := by
 have hgA : (A.deeper (envOfC "_law_boxes" (defScope s__law_boxes) s.heap.objs.size f cdv)).guards = some [] := g
 have hun := hrA.un
 exact (dss_cons (t := p__law_boxes_0) (u := b__law_boxes_1) (ds_setF (i := 2) sc__law_boxes.nd rfl (by first | exact .inl rfl | exact .inr rfl) (df_lst da_nil))
  (dss_cons (t := p__law_boxes_1) (u := b__law_boxes_2) (ds_for PassesOwn.never rfl (di_range1 (by rfl) m_range (da_cons (de_ix (de_fz (df_lst (da_cons de_int (da_cons de_int (da_cons (de_var (pv 1)) (da_cons (de_callD K__law_draw_2 hgA hrA (by rfl) (da_cons (de_var (pv 0)) (da_cons (de_op od_add (de_var (pv 1)) de_int) da_nil))) da_nil)))))) (de_callD K__law_draw_2 hgA hrA (by rfl) (da_cons (de_var (pv 0)) (da_cons de_int da_nil))) (fun _ _ => rfl)) da_nil)) (dg_name (pg_name (i := 3) sc__law_boxes.nd rfl (by first | exact .inl rfl | exact .inr rfl))) (dss_cons (t := p__law_boxes_x2_0) (u := b__law_boxes_x2_1) (ds_par (i := 4) (j := 5) rfl sc__law_boxes.nd rfl rfl (by decide) rfl rfl (da_cons (de_op od_sub (de_callD K__law_draw_2 hgA hrA (by rfl) (da_cons (de_var (pv 0)) (da_cons de_int da_nil))) de_int) (da_cons (de_op od_sub (de_callD K__law_draw_2 hgA hrA (by rfl) (da_cons (de_var (pv 0)) (da_cons de_int da_nil))) de_int) da_nil)) (by rfl))
  (dss_cons (t := p__law_boxes_x2_1) (u := b__law_boxes_x2_2) (ds_par (i := 6) (j := 7) rfl sc__law_boxes.nd rfl rfl (by decide) rfl rfl (da_cons (de_op od_add de_int (de_callD K__law_draw_2 hgA hrA (by rfl) (da_cons (de_var (pv 0)) (da_cons de_int da_nil)))) (da_cons (de_op od_add de_int (de_callD K__law_draw_2 hgA hrA (by rfl) (da_cons (de_var (pv 0)) (da_cons de_int da_nil)))) da_nil)) (by rfl))
  (dss_cons (t := p__law_boxes_x2_2) (u := b__law_boxes_x2_3) (ds_set (i := 8) sc__law_boxes.nd rfl (by first | exact .inl rfl | exact .inr rfl) (de_callD K__law_draw_2 hgA hrA (by rfl) (da_cons (de_var (pv 0)) (da_cons de_int da_nil))))
  (dss_cons (t := p__law_boxes_x2_3) (u := b__law_boxes_x2_4) (ds_if ((dw_and (dt_cmp (od_eq (Nat.lt_of_le_of_lt (Nat.add_le_add_left (by decide) _) hun)) (de_var (pv 8)) de_int (nomark _)) (dw_and1 (dt_ownL (od_ne (Nat.lt_of_le_of_lt (Nat.add_le_add_left (by decide) _) hun)) (pv 2) (de_fz (df_lst da_nil)) (nomark _))))).dt (dss_cons (t := p__law_boxes_x3_0) (u := b__law_boxes_x3_1) (ds_asg (de_ownIx (pv 2) (de_callD K__law_draw_2 hgA hrA (by rfl) (da_cons (de_var (pv 0)) (da_cons (de_ownB (cd_len) (pv 2) (by rfl) m_len PySem.boot_len) da_nil))) (fun _ _ => rfl)) (dg_tup rfl (dgs_cons (dg_name (pg_name (i := 4) sc__law_boxes.nd rfl (by first | exact .inl rfl | exact .inr rfl))) (dgs_cons (dg_name (pg_name (i := 5) sc__law_boxes.nd rfl (by first | exact .inl rfl | exact .inr rfl))) (dgs_cons (dg_name (pg_name (i := 6) sc__law_boxes.nd rfl (by first | exact .inl rfl | exact .inr rfl))) (dgs_cons (dg_name (pg_name (i := 7) sc__law_boxes.nd rfl (by first | exact .inl rfl | exact .inr rfl))) dgs_nil))))))
  (dss_one (t := p__law_boxes_x3_1) (ds_asg (de_ix (de_fz (df_lst (da_cons (de_tup (da_cons (de_op od_add (de_var (pv 4)) (de_var (pv 6))) (da_cons (de_var (pv 5)) da_nil))) (da_cons (de_tup (da_cons (de_var (pv 4)) (da_cons (de_op od_add (de_var (pv 5)) (de_var (pv 7))) da_nil))) (da_cons (de_tup (da_cons (de_var (pv 4)) (da_cons (de_var (pv 5)) da_nil))) da_nil))))) (de_callD K__law_draw_2 hgA hrA (by rfl) (da_cons (de_var (pv 0)) (da_cons de_int da_nil))) (fun _ _ => rfl)) (dg_tup rfl (dgs_cons (dg_name (pg_name (i := 4) sc__law_boxes.nd rfl (by first | exact .inl rfl | exact .inr rfl))) (dgs_cons (dg_name (pg_name (i := 5) sc__law_boxes.nd rfl (by first | exact .inl rfl | exact .inr rfl))) dgs_nil)))))) dss_nil)
  (dss_cons (t := p__law_boxes_x2_4) (u := b__law_boxes_x2_5) (ds_if (dt_cmp (od_eq (Nat.lt_of_le_of_lt (Nat.add_le_add_left (by decide) _) hun)) (de_var (pv 8)) de_int (nomark _)) (dss_one (ds_par (i := 4) (j := 5) rfl sc__law_boxes.nd rfl rfl (by decide) rfl rfl (da_cons (de_ix (de_fz (df_lst (da_cons de_neg (da_cons de_int (da_cons (de_var (pv 5)) da_nil))))) (de_callD K__law_draw_2 hgA hrA (by rfl) (da_cons (de_var (pv 0)) (da_cons de_int da_nil))) (fun _ _ => rfl)) (da_cons (de_ix (de_fz (df_lst (da_cons de_neg (da_cons de_int (da_cons (de_var (pv 4)) da_nil))))) (de_callD K__law_draw_2 hgA hrA (by rfl) (da_cons (de_var (pv 0)) (da_cons de_int da_nil))) (fun _ _ => rfl)) da_nil)) (by rfl))) dss_nil)
  (dss_cons (t := p__law_boxes_x2_5) (u := b__law_boxes_x2_6) (ds_if (dt_cmp (od_eq (Nat.lt_of_le_of_lt (Nat.add_le_add_left (by decide) _) hun)) (de_var (pv 8)) de_int (nomark _)) (dss_one (ds_asg (de_ix (de_fz (df_lst (da_cons (de_tup (da_cons (de_op od_add de_int (de_callD K__law_draw_2 hgA hrA (by rfl) (da_cons (de_var (pv 0)) (da_cons de_int da_nil)))) (da_cons (de_var (pv 7)) da_nil))) (da_cons (de_tup (da_cons (de_var (pv 6)) (da_cons (de_op od_add de_int (de_callD K__law_draw_2 hgA hrA (by rfl) (da_cons (de_var (pv 0)) (da_cons de_int da_nil)))) da_nil))) da_nil)))) (de_callD K__law_draw_2 hgA hrA (by rfl) (da_cons (de_var (pv 0)) (da_cons de_int da_nil))) (fun _ _ => rfl)) (dg_tup rfl (dgs_cons (dg_name (pg_name (i := 6) sc__law_boxes.nd rfl (by first | exact .inl rfl | exact .inr rfl))) (dgs_cons (dg_name (pg_name (i := 7) sc__law_boxes.nd rfl (by first | exact .inl rfl | exact .inr rfl))) dgs_nil))))) dss_nil)
  (dss_one (t := p__law_boxes_x2_6) (ds_app (pv 2) (de_tup (da_cons (de_var (pv 4)) (da_cons (de_var (pv 5)) (da_cons (de_var (pv 6)) (da_cons (de_var (pv 7)) da_nil))))))))))))))
  (dss_one (t := p__law_boxes_2) (ds_ret (de_take (pv 2))))))
theorem okB.of {i : Nat} {x y w h : Int} (z : (-999 ≤ x ∧ x ≤ 900 + 40 * i) ∧ (-999 ≤ y ∧ y ≤ 900 + 40 * i) ∧ (1 ≤ w ∧ w ≤ 40) ∧ (1 ≤ h ∧ h ≤ 40) ∧ (w ≤ 6 ∨ h ≤ 6)) : okB i ⟨x, y, w, h⟩ := ⟨z.1.1, z.1.2, z.2.1.1, z.2.1.2, z.2.2.1.1, z.2.2.1.2, z.2.2.2.1.1, z.2.2.2.1.2, z.2.2.2.2⟩
theorem okB.mono {i j : Nat} {b : Bx} (h : okB i b) (l : i ≤ j) : okB j b := ⟨h.x0, by have := h.x1; omega, h.y0, by have := h.y1; omega, h.w0, h.w1, h.h0, h.h1, h.z⟩
def hS (a : Addr) (m : Int) (fs : List Bx) (s3 s4 s5 s6 s7 s8 : Sl) : List Sl := [.dat (.raw (.ref a)), .dat (.int m), .own (fs.map bxD), s3, s4, s5, s6, s7, s8]
def tS (a : Addr) (m : Int) (fs : List Bx) (s3 : Sl) (b : Bx) (way : Int) : List Sl := hS a m fs s3 (.dat (.int b.x)) (.dat (.int b.y)) (.dat (.int b.w)) (.dat (.int b.h)) (.dat (.int way))
theorem at_3 {α : Type} (x y z : α) {r : Int} (r0 : 0 ≤ r) (r1 : r < 3) : atI [x, y, z] r = some x ∨ atI [x, y, z] r = some y ∨ atI [x, y, z] r = some z := by
  have h : r = 0 ∨ r = 1 ∨ r = 2 := by omega
  rcases h with rfl | rfl | rfl
  · exact .inl rfl
  · exact .inr (.inl rfl)
  · exact .inr (.inr rfl)
theorem at_2 {α : Type} (x y : α) {r : Int} (r0 : 0 ≤ r) (r1 : r < 2) : atI [x, y] r = some x ∨ atI [x, y] r = some y := by
  have h : r = 0 ∨ r = 1 := by omega
  rcases h with rfl | rfl
  · exact .inl rfl
  · exact .inr rfl
theorem at_map {α : Type} {f : α → D} {l : List α} {r : Int} (r0 : 0 ≤ r) (r1 : r < (l.length : Nat)) : ∃ x ∈ l, atI (l.map f) r = some (f x) := by
  have h2 : r.toNat < l.length := by omega
  exact ⟨_, List.getElem_mem h2, by rw [atI_nn r0, List.getElem?_map, List.getElem?_eq_getElem h2]; rfl⟩
theorem turn_box {a : Addr} {m : Int} {fs : List Bx} {s3 s4 s5 s6 s7 s8 : Sl} {c : Nat} {N : dEnds} (hc : c + 10 < 65536) (hl : fs.length < 8) (ok : ∀ b ∈ fs, okB fs.length b) (hN : ∀ (b : Bx) (way : Int) (c' : Nat), okB (fs.length + 1) b → c' ≤ c + 8 → N.nx ⟨tS a m (fs ++ [b]) s3 b way, some (a, c')⟩) :
    b__law_boxes_x2_0 W0 N ⟨hS a m fs s3 s4 s5 s6 s7 s8, some (a, c)⟩ := by
  have t6 : ∀ (b : Bx) (way : Int) (c' : Nat), okB (fs.length + 1) b → c' ≤ c + 8 → b__law_boxes_x2_6 W0 N ⟨tS a m fs s3 b way, some (a, c')⟩ := fun b way c' o h => by
    have w := hN b way c' o h
    have hz : fs.length < 16777216 := by omega
    unfold tS hS at w ⊢
    rw [List.map_append] at w
    simp only [DSIMP, b__law_boxes_x2_6, p__law_boxes_x2_6, hz]
    exact w
  have t5 : ∀ (b : Bx) (way : Int) (c' : Nat), okB (fs.length + 1) b → (b.w ≤ 6 ∧ b.h ≤ 6) → c' ≤ c + 5 → b__law_boxes_x2_5 W0 N ⟨tS a m fs s3 b way, some (a, c')⟩ := fun b way c' o sm h => by
    have k0 := t6 b way
    unfold tS hS at k0 t6 ⊢
    by_cases q : way = 1
    · simp only [DSIMP, b__law_boxes_x2_5, p__law_boxes_x2_5, q, sp__law_draw, spDraw]
      refine ⟨by omega, fun r r0 r1 => ⟨by omega, fun r2 r20 r21 => ⟨by omega, fun r3 r30 r31 => ?_⟩⟩⟩
      rcases at_2 (D.tup [.int (1 + r), .int b.h]) (D.tup [.int b.w, .int (1 + r2)]) r30 r31 with e | e
      · simp only [DSIMP, e]
        exact t6 ⟨b.x, b.y, 1 + r, b.h⟩ 1 _ (.of ⟨⟨o.x0, o.x1⟩, ⟨o.y0, o.y1⟩, ⟨by omega, by omega⟩, ⟨o.h0, o.h1⟩, .inr sm.2⟩) (by omega)
      · simp only [DSIMP, e]
        exact t6 ⟨b.x, b.y, b.w, 1 + r2⟩ 1 _ (.of ⟨⟨o.x0, o.x1⟩, ⟨o.y0, o.y1⟩, ⟨o.w0, o.w1⟩, ⟨by omega, by omega⟩, .inl sm.1⟩) (by omega)
    · simp only [DSIMP, b__law_boxes_x2_5, p__law_boxes_x2_5, q]
      exact k0 c' o (by omega)
  have t4 : ∀ (b : Bx) (way : Int) (c' : Nat), okB (fs.length + 1) b → (b.w ≤ 6 ∧ b.h ≤ 6) → c' ≤ c + 5 → b__law_boxes_x2_4 W0 N ⟨tS a m fs s3 b way, some (a, c')⟩ := fun b way c' o sm h => by
    have k0 := t5 b way
    have k2 := fun b => t6 b 2
    unfold tS hS at k0 k2 ⊢
    by_cases q : way = 2
    · simp only [DSIMP, b__law_boxes_x2_4, p__law_boxes_x2_4, b__law_boxes_x2_5, p__law_boxes_x2_5, q, sp__law_draw, spDraw]
      refine ⟨by omega, fun r r0 r1 => ?_⟩
      have e1 : ∃ x : Int, atI [D.int (-999), .int 900, .int b.y] r = some (.int x) ∧ -999 ≤ x ∧ x ≤ 900 + 40 * (fs.length + 1 : Nat) := by
        rcases at_3 (D.int (-999)) (.int 900) (.int b.y) r0 r1 with e | e | e
        · exact ⟨_, e, by omega, by omega⟩
        · exact ⟨_, e, by omega, by omega⟩
        · exact ⟨_, e, o.y0, o.y1⟩
      obtain ⟨x, e1, hx⟩ := e1
      simp only [DSIMP, e1]
      refine ⟨by omega, fun r2 r20 r21 => ?_⟩
      have e2 : ∃ x : Int, atI [D.int (-999), .int 900, .int b.x] r2 = some (.int x) ∧ -999 ≤ x ∧ x ≤ 900 + 40 * (fs.length + 1 : Nat) := by
        rcases at_3 (D.int (-999)) (.int 900) (.int b.x) r20 r21 with e | e | e
        · exact ⟨_, e, by omega, by omega⟩
        · exact ⟨_, e, by omega, by omega⟩
        · exact ⟨_, e, o.x0, o.x1⟩
      obtain ⟨y, e2, hy⟩ := e2
      simp only [DSIMP, e2]
      exact k2 ⟨x, y, b.w, b.h⟩ _ (.of ⟨hx, hy, ⟨o.w0, o.w1⟩, ⟨o.h0, o.h1⟩, o.z⟩) (by omega)
    · simp only [DSIMP, b__law_boxes_x2_4, p__law_boxes_x2_4, q]
      exact k0 c' o sm (by omega)
  have t3 : ∀ (b : Bx) (way : Int) (c' : Nat), okB (fs.length + 1) b → (b.w ≤ 6 ∧ b.h ≤ 6) → c' ≤ c + 5 → b__law_boxes_x2_3 W0 N ⟨tS a m fs s3 b way, some (a, c')⟩ := fun b way c' o sm h => by
    have k0 := t4 b way
    have k2 := fun b => t6 b 0
    unfold tS hS at k0 k2 ⊢
    by_cases q : way = 0
    · by_cases q2 : fs = []
      · simp only [DSIMP, b__law_boxes_x2_3, p__law_boxes_x2_3, q, lay_bxs, dep_bxs63, eq_true q2]
        rw [q] at k0
        exact k0 c' o sm (by omega)
      · simp only [DSIMP, b__law_boxes_x2_3, p__law_boxes_x2_3, b__law_boxes_x2_4, p__law_boxes_x2_4, b__law_boxes_x2_5, p__law_boxes_x2_5, b__law_boxes_x3_0, p__law_boxes_x3_0, b__law_boxes_x3_1, p__law_boxes_x3_1, q, lay_bxs, dep_bxs63, eq_false q2, sp__law_draw, spDraw]
        have pos : 0 < fs.length := by
          cases fs with
          | nil => exact absurd rfl q2
          | cons x r => simp
        refine ⟨by omega, by omega, by omega, fun r r0 r1 => ?_⟩
        obtain ⟨f, hf, e⟩ := at_map (f := bxD) r0 r1
        have of := ok f hf
        have a1 := of.x0
        have a2 := of.x1
        have a3 := of.y0
        have a4 := of.y1
        have a5 := of.w0
        have a6 := of.w1
        have a7 := of.h0
        have a8 := of.h1
        have a9 := of.z
        simp only [DSIMP, e, bxD.eq_1 f]
        refine ⟨by omega, fun r2 r20 r21 => ?_⟩
        rcases at_3 (D.tup [.int (f.x + f.w), .int f.y]) (.tup [.int f.x, .int (f.y + f.h)]) (.tup [.int f.x, .int f.y]) r20 r21 with e | e | e
        · simp only [DSIMP, e]
          exact k2 ⟨f.x + f.w, f.y, f.w, f.h⟩ _ (.of (by omega)) (by omega)
        · simp only [DSIMP, e]
          exact k2 ⟨f.x, f.y + f.h, f.w, f.h⟩ _ (.of (by omega)) (by omega)
        · simp only [DSIMP, e]
          exact k2 ⟨f.x, f.y, f.w, f.h⟩ _ (.of (by omega)) (by omega)
    · simp only [DSIMP, b__law_boxes_x2_3, p__law_boxes_x2_3, q]
      exact k0 c' o sm (by omega)
  unfold hS
  unfold tS hS at t3
  simp only [DSIMP, b__law_boxes_x2_0, p__law_boxes_x2_0, b__law_boxes_x2_1, p__law_boxes_x2_1, b__law_boxes_x2_2, p__law_boxes_x2_2, sp__law_draw, spDraw]
  refine ⟨by omega, fun x x0 x1 => ⟨by omega, fun y y0 y1 => ⟨by omega, fun w w0 w1 => ⟨by omega, fun h h0 h1 => ⟨by omega, fun way _ _ => ?_⟩⟩⟩⟩⟩
  exact t3 ⟨x - 4, y - 4, 1 + w, 1 + h⟩ way _ (.of (by omega)) ⟨by show 1 + w ≤ 6; omega, by show 1 + h ≤ 6; omega⟩ (by omega)
theorem loop_box {a : Addr} {m : Int} {c0 : Nat} {N : dEnds} (hc : c0 + 80 < 65536) (hN : ∀ (fs : List Bx) (s3 s4 s5 s6 s7 s8 : Sl) (c' : Nat), fs.length ≤ 8 → (∀ b ∈ fs, okB fs.length b) → c' ≤ c0 + 70 → N.nx ⟨hS a m fs s3 s4 s5 s6 s7 s8, some (a, c')⟩) :
    ∀ (rest : List D) (fs : List Bx) (s3 s4 s5 s6 s7 s8 : Sl) (c : Nat), fs.length + rest.length ≤ 8 → (∀ b ∈ fs, okB fs.length b) → c + 8 * rest.length ≤ c0 + 70 → wFor (gN 3) b__law_boxes_x2_0 W0 N rest ⟨hS a m fs s3 s4 s5 s6 s7 s8, some (a, c)⟩
  | [], fs, s3, s4, s5, s6, s7, s8, c, h1, h2, h3 => hN fs _ _ _ _ _ _ c (by simpa using h1) h2 (by simpa using h3)
  | d :: rest, fs, s3, s4, s5, s6, s7, s8, c, h1, h2, h3 => by
    rw [List.length_cons] at h1 h3
    rw [wFor]
    have tn := turn_box (a := a) (m := m) (fs := fs) (c := c) (s3 := .dat d) (s4 := s4) (s5 := s5) (s6 := s6) (s7 := s7) (s8 := s8) (N := { N with nx := wFor (gN 3) b__law_boxes_x2_0 W0 N rest, ct := wFor (gN 3) b__law_boxes_x2_0 W0 N rest, bk := N.nx }) (by omega) (by omega) h2 fun b way c' o h => loop_box hc hN rest (fs ++ [b]) _ _ _ _ _ _ c' (by rw [List.length_append, List.length_singleton]; omega) (fun z hz => by
      rw [List.length_append, List.length_singleton]
      rcases List.mem_append.mp hz with hz | hz
      · exact (h2 z hz).mono (by omega)
      · rw [List.mem_singleton] at hz; subst hz; exact o) (by omega)
    unfold hS at tn ⊢
    simp only [DSIMP]
    exact tn
theorem hsp__law_boxes : ∀ ds p Q W, ds.length = 2 → sp__law_boxes ds p Q W → b__law_boxes W0 (endsD Q) (startD n__law_boxes.length ds p) := by
  rintro _ _ Q W - ⟨a, c, m, rfl, rfl, hm, hc, q⟩
  simp only [DSIMP, b__law_boxes_0, p__law_boxes_0, b__law_boxes_1, p__law_boxes_1, b__law_boxes, spDraw, sp__law_draw]
  refine ⟨by omega, by omega, by omega, fun r r0 r1 => ⟨by omega, fun r2 r20 r21 => ?_⟩⟩
  have e : ∃ n : Int, atI [D.int 0, D.int 1, D.int m, D.int r] r2 = some (.int n) ∧ 0 ≤ n ∧ n ≤ 8 := by
    have h : r2 = 0 ∨ r2 = 1 ∨ r2 = 2 ∨ r2 = 3 := by omega
    rcases h with rfl | rfl | rfl | rfl
    · exact ⟨0, rfl, by omega, by omega⟩
    · exact ⟨1, rfl, by omega, by omega⟩
    · exact ⟨m, rfl, by omega, by omega⟩
    · exact ⟨r, rfl, by omega, by omega⟩
  obtain ⟨n, e, n0, n1⟩ := e
  simp only [DSIMP, e]
  refine ⟨by omega, by omega, ?_⟩
  refine loop_box (fs := []) (c0 := c) hc (fun fs s3 s4 s5 s6 s7 s8 c' h1 h2 h3 => ?_) _ _ _ _ _ _ _ _ (by rw [intsFrom_len, List.length_nil]; omega) (by simp) (by rw [intsFrom_len]; omega)
  unfold hS
  simp only [DSIMP, b__law_boxes_2, p__law_boxes_2]
  exact q fs c' h1 (fun b hb => (h2 b hb).mono h1) h3
theorem ok__law_boxes {P : Program} {w : World} {K : PySem.W.Frag} {mg : Str → Option Value} {base : Heap} (m_len : mg "len" = none) (m_range : mg "range" = none) (K__law_draw_2 : Def P w K mg base 1 "_law_draw" 2 sp__law_draw []) {f : Addr} {fd : FuncData} (F : Fun K "_law_boxes" "_law_boxes" s__law_boxes f fd) : FnG P w K mg base CX0 2 f fd ["_law_pen", "_law_most"] (spD K 2 sp__law_boxes) :=
 fn_d0 F sc__law_boxes rfl (fun cdv A out s H E g r => run__law_boxes m_len m_range K__law_draw_2 cdv A out s H E g r) hsp__law_boxes
end Ev01
namespace Ev01
open PySem PySem.Spec PyProof.Rows L2 Ev Pt
local macro_rules
  | `(tactic| simp only [DSIMP, $as,*] $[$l:location]?) => `(tactic| simp only [dMk1, dMk0, rIsSK, rTupleK, rAddK, rNeE, rEL, List.isEmpty_nil, List.isEmpty_cons, gIx, rIsA, rIsS, kitS, kitS.optQB, D.cls, dHGet, dHPut, dBornK, penK_cells, penK_at, penK_left, penK_pat, penK_pleft, penK_len, ex_hpK, dOwnGet2, ownKs, dKpL, dNewKd, dKpLk, rDictPTf, dRaise1, dRaise0, excD, dTry, wTry, Ev.rIsE, Ev.rIsEt, D.xcN, dFldE, dCallVX, WP, exS_tab, dTakeN, dIxN, dKpNew, dKpPut, dKpIns, dKpApp, dKpFz, dRoK, dRoL, dNewK1, dIns, roK, dZipM, dNGet, dNPut, dNewN, isNo, Ev.nGet, Ev.nPut, D.nkey, dOrX, truD, rDictX, dTupN, dSlN, rAddN, rSrtN, rTupleN, rDictN, dSlX, dRevX, dLenSetN, dEmptyV, rLtX, rMulX, Ev.rReprX, dPenS, gStarDL, dAug, dIndexE, dZipS, dGcIn, dGbIx, dGdIn, dGdIx, dListRg, rDictPf, dZipL, dListKo, dEmptyT, dDispT1, dNeE, rListA, rDictPT, rIsTF, dGroup, rSrtA, rLenA, dInV, dIxV, dCount, dSortKo, dCallR, adD, gL, dDN, dLN, wNest, bNest, bEl, bEd, dZip, seqOf, dSortDK, dCallV, dCallLam, optQ, dEnum, D.nf, D.nfs, Ev.rSumD, dLock, dKeysI, gStarD, dReverse, dMove, dDGet2, getD2, D.isD, dDisp, dPairs, keysD, Ev.rMaxD, Ev.rMinD, rDictP, Option.getD_some, Option.getD_none, Ev.D.eq_refl, dPen1, dLenSet, dSrtR, dRo, dRoF, dRoT, roD, ro_un, ro_dat, ro_own, ro_hp, ro_law, ro_ownK, ro_ownT, List.forall_mem_map, flat_int, flat_str, flat_bl, flat_non, solid_int, solid_str, solid_bl, solid_non, solid_tup, solids_nil, solids_cons, dSeq, dNext, dSet, dSetF, setSl, dVar, dTake, dC, dBin, dBinF, dB, dIfS, dIf, dRet, dRetN, dExpr, dNil, dCons, dTup, dLst, dFz, dAnd, dOr, dNot, dAndV, dOrV, dNotV, dCallD, dCallK, dCB, dCBF, dFor, dLC, dYes, dRng1, dRng2, dSeqI, gN, gT, gsNil, gsCons, dAsg, dNeg, dJoin, dFs, dJs, dFmt, dApp, dExt, dPop, dPopAt, dOwnIx, dOwnCB, dOwnL, dOwnR, dOwnSl, dSetIx, dSlT, dSlL, oNone, oSome, dBorn, optQ, ownAt, setOwnAt, lookAt, wipeD, dNewDT, dNewDK, dDGet, dDIn, dDPut, dSortT, rSrt, isDict, Ev.dictGet, Ev.dictPut, Option.isSome_none, Option.isSome_some, D.keyT, keysOf, D.key, exists_eq_left', exists_eq_left, Option.isSome, rRepL, rCatL, dRetF, dIfF, dPar, dRetOwn, dCallL, dCallLK, dPen2, dRev, dRevI, dIndex, endsL, startL, dNever, dBrk, dCnt, rAddD, rSubI, rIO, rMulI, rDivI, rModI, rPowI, rCI, Ev.rIxD, rIsN, rNotN, D.isN, Ev.rLen, rTuple, rList, rAbs, rInt, rStr, Ev.rRepr, Ev.rIsi, D.ty, kit_tab, startD, endsD, List.map_cons, List.map_nil, List.length_cons, List.length_nil, List.append_nil, List.nil_append, List.cons_append, List.getElem?_cons_zero, List.getElem?_cons_succ, List.getElem?_nil, List.set_cons_zero, List.set_cons_succ, List.replicate, List.replicate_succ, Nat.zero_add, Nat.zero_le, sizeLine, true_and, and_true, if_true, Ev.eq_int, Ev.eq_str, Ev.eq_bl, Ev.eq_non, lst_nil, tup_nil, List.map_eq_nil_iff, txt_join, rLt, rLe, rGt, rGe, atI_ofNat, atI_last, wLC, strsOf, intsOf, blsOf, Option.map_some, Ev.join_two, Ev.join_one, Ev.join_nil, List.sum_cons, List.sum_nil, PySem.Str.empty_append, ixN_ofNat, Option.some.injEq, exists_eq', List.length_map, decide_true, decide_false, Bool.not_true, Bool.not_false, Bool.true_eq_false, Bool.false_eq_true, false_and, and_false, if_false, ite_true, ite_false, Nat.reduceAdd, Nat.reduceSub, Nat.reduceMul, Nat.reduceLT, Nat.reduceLeDiff, Nat.reduceEqDiff, Nat.reducePow, Int.reduceToNat, Int.reducePow, pickL, List.filterMap_cons, List.filterMap_nil, and_self, Int.reduceLT, Int.reduceLE, Int.reduceNeg, Int.reduceAdd, Int.reduceMul, Int.reduceSub, Int.reduceEq, reduceIte, reduceCtorEq, lit_eq, String.reduceEq, Ev.rEq, Ev.rNe, Ev.rInD, cut_toN, cut_fromN, List.map_take, List.forall_mem_cons, List.forall_mem_nil, List.not_mem_nil, false_imp_iff, implies_true, forall_const, D.cm, D.lay, D.lays, D.dep, D.deps, strOk_lit, lays_ints, deps_ints, Nat.max_self, Nat.max_zero, Nat.zero_max, Bool.and_self, Bool.true_and, Bool.and_true, Bool.and_false, Bool.false_and, Bool.or_false, Bool.or_true, Bool.true_or, Bool.false_or, List.any_cons, List.any_nil, decide_eq_true_eq, eq_self, $as,*] $[$l]?)
  | `(tactic| simp only [DSIMP] $[$l:location]?) => `(tactic| simp only [dMk1, dMk0, rIsSK, rTupleK, rAddK, rNeE, rEL, List.isEmpty_nil, List.isEmpty_cons, gIx, rIsA, rIsS, kitS, kitS.optQB, D.cls, dHGet, dHPut, dBornK, penK_cells, penK_at, penK_left, penK_pat, penK_pleft, penK_len, ex_hpK, dOwnGet2, ownKs, dKpL, dNewKd, dKpLk, rDictPTf, dRaise1, dRaise0, excD, dTry, wTry, Ev.rIsE, Ev.rIsEt, D.xcN, dFldE, dCallVX, WP, exS_tab, dTakeN, dIxN, dKpNew, dKpPut, dKpIns, dKpApp, dKpFz, dRoK, dRoL, dNewK1, dIns, roK, dZipM, dNGet, dNPut, dNewN, isNo, Ev.nGet, Ev.nPut, D.nkey, dOrX, truD, rDictX, dTupN, dSlN, rAddN, rSrtN, rTupleN, rDictN, dSlX, dRevX, dLenSetN, dEmptyV, rLtX, rMulX, Ev.rReprX, dPenS, gStarDL, dAug, dIndexE, dZipS, dGcIn, dGbIx, dGdIn, dGdIx, dListRg, rDictPf, dZipL, dListKo, dEmptyT, dDispT1, dNeE, rListA, rDictPT, rIsTF, dGroup, rSrtA, rLenA, dInV, dIxV, dCount, dSortKo, dCallR, adD, gL, dDN, dLN, wNest, bNest, bEl, bEd, dZip, seqOf, dSortDK, dCallV, dCallLam, optQ, dEnum, D.nf, D.nfs, Ev.rSumD, dLock, dKeysI, gStarD, dReverse, dMove, dDGet2, getD2, D.isD, dDisp, dPairs, keysD, Ev.rMaxD, Ev.rMinD, rDictP, Option.getD_some, Option.getD_none, Ev.D.eq_refl, dPen1, dLenSet, dSrtR, dRo, dRoF, dRoT, roD, ro_un, ro_dat, ro_own, ro_hp, ro_law, ro_ownK, ro_ownT, List.forall_mem_map, flat_int, flat_str, flat_bl, flat_non, solid_int, solid_str, solid_bl, solid_non, solid_tup, solids_nil, solids_cons, dSeq, dNext, dSet, dSetF, setSl, dVar, dTake, dC, dBin, dBinF, dB, dIfS, dIf, dRet, dRetN, dExpr, dNil, dCons, dTup, dLst, dFz, dAnd, dOr, dNot, dAndV, dOrV, dNotV, dCallD, dCallK, dCB, dCBF, dFor, dLC, dYes, dRng1, dRng2, dSeqI, gN, gT, gsNil, gsCons, dAsg, dNeg, dJoin, dFs, dJs, dFmt, dApp, dExt, dPop, dPopAt, dOwnIx, dOwnCB, dOwnL, dOwnR, dOwnSl, dSetIx, dSlT, dSlL, oNone, oSome, dBorn, optQ, ownAt, setOwnAt, lookAt, wipeD, dNewDT, dNewDK, dDGet, dDIn, dDPut, dSortT, rSrt, isDict, Ev.dictGet, Ev.dictPut, Option.isSome_none, Option.isSome_some, D.keyT, keysOf, D.key, exists_eq_left', exists_eq_left, Option.isSome, rRepL, rCatL, dRetF, dIfF, dPar, dRetOwn, dCallL, dCallLK, dPen2, dRev, dRevI, dIndex, endsL, startL, dNever, dBrk, dCnt, rAddD, rSubI, rIO, rMulI, rDivI, rModI, rPowI, rCI, Ev.rIxD, rIsN, rNotN, D.isN, Ev.rLen, rTuple, rList, rAbs, rInt, rStr, Ev.rRepr, Ev.rIsi, D.ty, kit_tab, startD, endsD, List.map_cons, List.map_nil, List.length_cons, List.length_nil, List.append_nil, List.nil_append, List.cons_append, List.getElem?_cons_zero, List.getElem?_cons_succ, List.getElem?_nil, List.set_cons_zero, List.set_cons_succ, List.replicate, List.replicate_succ, Nat.zero_add, Nat.zero_le, sizeLine, true_and, and_true, if_true, Ev.eq_int, Ev.eq_str, Ev.eq_bl, Ev.eq_non, lst_nil, tup_nil, List.map_eq_nil_iff, txt_join, rLt, rLe, rGt, rGe, atI_ofNat, atI_last, wLC, strsOf, intsOf, blsOf, Option.map_some, Ev.join_two, Ev.join_one, Ev.join_nil, List.sum_cons, List.sum_nil, PySem.Str.empty_append, ixN_ofNat, Option.some.injEq, exists_eq', List.length_map, decide_true, decide_false, Bool.not_true, Bool.not_false, Bool.true_eq_false, Bool.false_eq_true, false_and, and_false, if_false, ite_true, ite_false, Nat.reduceAdd, Nat.reduceSub, Nat.reduceMul, Nat.reduceLT, Nat.reduceLeDiff, Nat.reduceEqDiff, Nat.reducePow, Int.reduceToNat, Int.reducePow, pickL, List.filterMap_cons, List.filterMap_nil, and_self, Int.reduceLT, Int.reduceLE, Int.reduceNeg, Int.reduceAdd, Int.reduceMul, Int.reduceSub, Int.reduceEq, reduceIte, reduceCtorEq, lit_eq, String.reduceEq, Ev.rEq, Ev.rNe, Ev.rInD, cut_toN, cut_fromN, List.map_take, List.forall_mem_cons, List.forall_mem_nil, List.not_mem_nil, false_imp_iff, implies_true, forall_const, D.cm, D.lay, D.lays, D.dep, D.deps, strOk_lit, lays_ints, deps_ints, Nat.max_self, Nat.max_zero, Nat.zero_max, Bool.and_self, Bool.true_and, Bool.and_true, Bool.and_false, Bool.false_and, Bool.or_false, Bool.or_true, Bool.true_or, Bool.false_or, List.any_cons, List.any_nil, decide_eq_true_eq, eq_self] $[$l]?)
variable [TabC] [PkL]
mutual
def okN (N : Nat) : D → Bool
  | .non => true
  | .bl _ => true
  | .int i => decide (i.natAbs ≤ N)
  | .str x => PyData.strOk x
  | .tup xs => okNs N xs
  | .lst xs => okNs N xs
  | .dT es => es.isEmpty
  | _ => false
def okNs (N : Nat) : List D → Bool
  | [] => true
  | x :: xs => okN N x && okNs N xs
end
theorem okNs_iff {N : Nat} : ∀ {xs : List D}, okNs N xs = true ↔ ∀ x ∈ xs, okN N x = true
  | [] => ⟨fun _ _ h => (nomatch h), fun _ => rfl⟩
  | x :: xs => by
    show (okN N x && okNs N xs) = true ↔ _
    rw [Bool.and_eq_true, okNs_iff, List.forall_mem_cons]
mutual
theorem okN_R {N : Nat} (hN : N < 10 ^ 100) : ∀ d : D, okN N d = true → d.okR = true
  | .non, _ => rfl
  | .bl _, _ => rfl
  | .int i, h => decide_eq_true (Nat.lt_of_le_of_lt (of_decide_eq_true h) hN)
  | .str _, h => h
  | .tup xs, h => okNs_R hN xs h
  | .lst xs, h => okNs_R hN xs h
  | .dT _, h => h
  | .kt _, h => by cases h
  | .dK _, h => by cases h
  | .fK _, h => by cases h
  | .fT _, h => by cases h
  | .raw _, h => by cases h
  | .scr _, h => by cases h
  | .fn _ _, h => by cases h
theorem okNs_R {N : Nat} (hN : N < 10 ^ 100) : ∀ ds : List D, okNs N ds = true → D.okRs ds = true
  | [], _ => rfl
  | d :: ds, h => by
    have h' : (okN N d && okNs N ds) = true := h
    rw [Bool.and_eq_true] at h'
    show (d.okR && D.okRs ds) = true
    rw [okN_R hN d h'.1, okNs_R hN ds h'.2]; rfl
end
def great : Nat := 10 ^ 62
theorem great_lt : great < 10 ^ 100 := by decide +kernel
def whole (lo hi : Int) : D → Bool
  | .int i => decide (lo ≤ i) && decide (i ≤ hi)
  | _ => false
def whole0 : D → Bool
  | .int _ => true
  | _ => false
def spLook (f : D → Bool) : dSp := fun ds p Q _ => ∃ d, ds = [d] ∧ okN great d = true ∧ Q (.bl (f d)) p
def intO : D → Option Int
  | .int i => some i
  | _ => none
def quad (x y w h : D) : Option Bx := match intO x, intO y, intO w, intO h with
  | some a, some b, some c, some d => if 0 < c ∧ 0 < d then some ⟨a, b, c, d⟩ else none
  | _, _, _, _ => none
def boxO : D → Option Bx
  | .tup [x, y, w, h] => quad x y w h
  | _ => none
theorem intO_some {d : D} {i : Int} (h : intO d = some i) : d = .int i := by
  cases d <;> cases h
  rfl
def boxesO : List D → Option (List Bx)
  | [] => some []
  | d :: ds => match boxO d, boxesO ds with
    | some b, some bs => some (b :: bs)
    | _, _ => none
def isBx (d : D) : Bool := (boxO d).isSome
theorem boxO_some {d : D} {b : Bx} (h : boxO d = some b) : d = bxD b ∧ 0 < b.w ∧ 0 < b.h := by
  unfold boxO at h
  split at h
  · unfold quad at h
    split at h
    · rename_i e1 e2 e3 e4
      rw [intO_some e1, intO_some e2, intO_some e3, intO_some e4]
      split at h
      · rename_i c
        cases h
        exact ⟨rfl, c⟩
      · cases h
    · cases h
  · cases h
theorem boxO_bx {b : Bx} (h : 0 < b.w ∧ 0 < b.h) : boxO (bxD b) = some b := by
  show (if 0 < b.w ∧ 0 < b.h then some (⟨b.x, b.y, b.w, b.h⟩ : Bx) else none) = _
  rw [if_pos h]
theorem boxesO_some : ∀ {xs : List D} {bs : List Bx}, boxesO xs = some bs → xs = bs.map bxD ∧ (∀ b ∈ bs, 0 < b.w ∧ 0 < b.h) ∧ ∀ d ∈ xs, isBx d = true
  | [], _, h => by cases h; exact ⟨rfl, fun _ h => (nomatch h), fun _ h => (nomatch h)⟩
  | d :: ds, bs, h => by
    unfold boxesO at h
    cases hd : boxO d with
    | none => rw [hd] at h; cases h
    | some b =>
      cases hs : boxesO ds with
      | none => rw [hd, hs] at h; cases h
      | some cs =>
        rw [hd, hs] at h
        cases h
        obtain ⟨e1, e2, e3⟩ := boxesO_some hs
        obtain ⟨f1, f2⟩ := boxO_some hd
        exact ⟨by rw [f1, e1]; rfl, List.forall_mem_cons.mpr ⟨f2, e2⟩, List.forall_mem_cons.mpr ⟨by unfold isBx; rw [hd]; rfl, e3⟩⟩
theorem boxesO_none : ∀ {xs : List D}, boxesO xs = none → ∃ pre d post, xs = pre ++ d :: post ∧ boxO d = none ∧ ∀ e ∈ pre, isBx e = true
  | [], h => by cases h
  | d :: ds, h => by
    unfold boxesO at h
    cases hd : boxO d with
    | none => exact ⟨[], d, ds, rfl, hd, fun _ h => (nomatch h)⟩
    | some b =>
      cases hs : boxesO ds with
      | none =>
        obtain ⟨pre, e, post, e1, e2, e3⟩ := boxesO_none hs
        exact ⟨d :: pre, e, post, by rw [e1]; rfl, e2, List.forall_mem_cons.mpr ⟨by unfold isBx; rw [hd]; rfl, e3⟩⟩
      | some cs => rw [hd, hs] at h; cases h
open Classical in
noncomputable def partOk : D → Bool
  | .tup xs => match boxesO xs with
    | some bs => decide (Can bs)
    | none => false
  | _ => false
theorem partOk_some {xs : List D} {bs : List Bx} (h : boxesO xs = some bs) : partOk (.tup xs) = @decide (Can bs) (Classical.propDecidable _) := by
  show (match boxesO xs with | some bs => _ | none => false) = _
  rw [h]
theorem partOk_none {xs : List D} (h : boxesO xs = none) : partOk (.tup xs) = false := by
  show (match boxesO xs with | some bs => _ | none => false) = _
  rw [h]
structure Bnd (b : Bx) : Prop where
  win : Win (-1300) (-1300) [b]
  w : b.w ≤ 5000
  h : b.h ≤ 5000
  a : b.w * b.h ≤ 9999
structure Bt (x : D) : Prop where
  ok : okN great x = true
  sz : x.szR ≤ 900000
  de : x.deR ≤ 8
  ln : ∀ xs, x = .tup xs → xs.length ≤ 2000
  el : ∀ xs, x = .tup xs → ∀ d ∈ xs, ∀ b, boxO d = some b → Bnd b
  ar : ∀ xs, x = .tup xs → ∀ bs, boxesO xs = some bs → areaN bs ≤ 20000
theorem Bt.win {xs : List D} {bs : List Bx} (t : Bt (.tup xs)) (h : boxesO xs = some bs) : Win (-1300) (-1300) bs := fun b hb => by
  obtain ⟨e1, e2, _⟩ := boxesO_some h
  exact (t.el xs rfl (bxD b) (by rw [e1]; exact List.mem_map.mpr ⟨b, hb, rfl⟩) b (boxO_bx (e2 b hb))).win b List.mem_cons_self
theorem bls_maps {α : Type} (l : List α) (f : α → Bool) : blsOf (l.map fun a => D.bl (f a)) = some (l.map f) := by
  induction l with
  | nil => rfl
  | cons a l ih => rw [List.map_cons, blsOf, ih]; rfl
theorem ok4 {N : Nat} {a b c d : D} (h : okN N (.tup [a, b, c, d]) = true) : okN N a = true ∧ okN N b = true ∧ okN N c = true ∧ okN N d = true := by
  have h : okNs N [a, b, c, d] = true := h
  rw [okNs_iff] at h
  exact ⟨h a (by simp), h b (by simp), h c (by simp), h d (by simp)⟩
def spWhole : dSp := fun ds p Q _ => ∃ d lo hi, ds = [d, .int lo, .int hi] ∧ okN great d = true ∧ Q (.bl (whole lo hi d)) p
def sp_is_from_to : dSp := spWhole
abbrev s_is_from_to : Stmt := topS 3
abbrev n_is_from_to : List Str := ["thing", "least", "most"]
theorem sc_is_from_to : FnScope n_is_from_to ["thing", "least", "most"] (defScope s_is_from_to) := ⟨rfl, rfl, rfl, by decide +kernel, rfl, by decide +kernel, by decide +kernel⟩
def b_is_from_to : dS := (dRet (dAndV (dCB (rIsi "int") (dCons (dVar 0) (dCons (dC (.raw (.ty "int"))) dNil))) (dAndV (dNotV (dCB (rIsi "bool") (dCons (dVar 0) (dCons (dC (.raw (.ty "bool"))) dNil)))) (dChain rLe rLe (dVar 1) (dVar 0) (dVar 2)))))
theorem run_is_from_to {P : Program} {w : World} {K : PySem.W.Frag} {mg : Str → Option Value} {base : Heap} (m_bool : mg "bool" = none) (m_int : mg "int" = none) (m_isinstance : mg "isinstance" = none) {f : Addr} (cdv : Value) (A : Around) (out : List Env) (s : Shared) (H : Hp) (E : XK) (g : A.guards = some []) (hrA : Room 0 (A.deeper (envOfC "is_from_to" (defScope s_is_from_to) s.heap.objs.size f cdv))) :
  DSs (cx0 P w K mg base n_is_from_to "is_from_to" (defScope s_is_from_to) f cdv A out s H E) E00 (defBody s_is_from_to) b_is_from_to := by
 have hgA : (A.deeper (envOfC "is_from_to" (defScope s_is_from_to) s.heap.objs.size f cdv)).guards = some [] := g
 have hun := hrA.un
 exact (dss_one (ds_ret (de_and (de_callB (cd_isi "int") (by rfl) m_isinstance (by decide +kernel) (da_cons (de_var (pv 0)) (da_cons (de_ty (n := "int") (by rfl) m_int (by decide +kernel)) da_nil))) (de_and (de_not (de_callB (cd_isi "bool") (by rfl) m_isinstance (by decide +kernel) (da_cons (de_var (pv 0)) (da_cons (de_ty (n := "bool") (by rfl) m_bool (by decide +kernel)) da_nil)))) (de_one (de_chain (od_le) (od_le) (de_var (pv 1)) (de_var (pv 0)) (de_var (pv 2))))))))
theorem hsp_is_from_to : ∀ ds p Q W, ds.length = 3 → sp_is_from_to ds p Q W → b_is_from_to W0 (endsD Q) (startD n_is_from_to.length ds p) := by
  rintro _ p Q W - ⟨d, lo, hi, rfl, ok, q⟩
  cases d with
  | int i =>
    simp only [DSIMP, n_is_from_to, b_is_from_to, whole] at q ⊢
    by_cases c : lo ≤ i
    · simp only [DSIMP, c, dChain] at q ⊢
      exact q
    · simp only [DSIMP, c, dChain] at q ⊢
      exact q
  | non => simp only [DSIMP, n_is_from_to, b_is_from_to, whole] at q ⊢; exact q
  | bl b => simp only [DSIMP, n_is_from_to, b_is_from_to, whole] at q ⊢; exact q
  | str x => simp only [DSIMP, n_is_from_to, b_is_from_to, whole] at q ⊢; exact q
  | tup xs => simp only [DSIMP, n_is_from_to, b_is_from_to, whole] at q ⊢; exact q
  | lst xs => simp only [DSIMP, n_is_from_to, b_is_from_to, whole] at q ⊢; exact q
  | dT es => simp only [DSIMP, n_is_from_to, b_is_from_to, whole] at q ⊢; exact q
  | _ => cases ok
theorem ok_is_from_to {P : Program} {w : World} {K : PySem.W.Frag} {mg : Str → Option Value} {base : Heap} (m_bool : mg "bool" = none) (m_int : mg "int" = none) (m_isinstance : mg "isinstance" = none) {f : Addr} {fd : FuncData} (F : Fun K "is_from_to" "is_from_to" s_is_from_to f fd) : FnG P w K mg base CX0 1 f fd ["thing", "least", "most"] (spD K 3 sp_is_from_to) :=
 fn_d0 F sc_is_from_to rfl (fun cdv A out s H E g r => run_is_from_to m_bool m_int m_isinstance cdv A out s H E g r) hsp_is_from_to
def sp__law_whole : dSp := spLook whole0
abbrev s__law_whole : Stmt := topS 24
abbrev n__law_whole : List Str := ["_law_some"]
theorem sc__law_whole : FnScope n__law_whole ["_law_some"] (defScope s__law_whole) := ⟨rfl, rfl, rfl, by decide +kernel, rfl, by decide +kernel, by decide +kernel⟩
def b__law_whole : dS := (dRet (dAndV (dCB (rIsi "int") (dCons (dVar 0) (dCons (dC (.raw (.ty "int"))) dNil))) (dNotV (dCB (rIsi "bool") (dCons (dVar 0) (dCons (dC (.raw (.ty "bool"))) dNil))))))
theorem run__law_whole {P : Program} {w : World} {K : PySem.W.Frag} {mg : Str → Option Value} {base : Heap} (m_bool : mg "bool" = none) (m_int : mg "int" = none) (m_isinstance : mg "isinstance" = none) {f : Addr} (cdv : Value) (A : Around) (out : List Env) (s : Shared) (H : Hp) (E : XK) (g : A.guards = some []) (hrA : Room 0 (A.deeper (envOfC "_law_whole" (defScope s__law_whole) s.heap.objs.size f cdv))) :
  DSs (cx0 P w K mg base n__law_whole "_law_whole" (defScope s__law_whole) f cdv A out s H E) E00 (defBody s__law_whole) b__law_whole := by
 have hgA : (A.deeper (envOfC "_law_whole" (defScope s__law_whole) s.heap.objs.size f cdv)).guards = some [] := g
 have hun := hrA.un
 exact (dss_one (ds_ret (de_and (de_callB (cd_isi "int") (by rfl) m_isinstance (by decide +kernel) (da_cons (de_var (pv 0)) (da_cons (de_ty (n := "int") (by rfl) m_int (by decide +kernel)) da_nil))) (de_one (de_not (de_callB (cd_isi "bool") (by rfl) m_isinstance (by decide +kernel) (da_cons (de_var (pv 0)) (da_cons (de_ty (n := "bool") (by rfl) m_bool (by decide +kernel)) da_nil))))))))
theorem hsp__law_whole : ∀ ds p Q W, ds.length = 1 → sp__law_whole ds p Q W → b__law_whole W0 (endsD Q) (startD n__law_whole.length ds p) := by
  rintro _ p Q W - ⟨d, rfl, ok, q⟩
  cases d with
  | int i => simp only [DSIMP, n__law_whole, b__law_whole, whole0] at q ⊢; exact q
  | non => simp only [DSIMP, n__law_whole, b__law_whole, whole0] at q ⊢; exact q
  | bl b => simp only [DSIMP, n__law_whole, b__law_whole, whole0] at q ⊢; exact q
  | str x => simp only [DSIMP, n__law_whole, b__law_whole, whole0] at q ⊢; exact q
  | tup xs => simp only [DSIMP, n__law_whole, b__law_whole, whole0] at q ⊢; exact q
  | lst xs => simp only [DSIMP, n__law_whole, b__law_whole, whole0] at q ⊢; exact q
  | dT es => simp only [DSIMP, n__law_whole, b__law_whole, whole0] at q ⊢; exact q
  | _ => cases ok
theorem ok__law_whole {P : Program} {w : World} {K : PySem.W.Frag} {mg : Str → Option Value} {base : Heap} (m_bool : mg "bool" = none) (m_int : mg "int" = none) (m_isinstance : mg "isinstance" = none) {f : Addr} {fd : FuncData} (F : Fun K "_law_whole" "_law_whole" s__law_whole f fd) : FnG P w K mg base CX0 1 f fd ["_law_some"] (spD K 1 sp__law_whole) :=
 fn_d0 F sc__law_whole rfl (fun cdv A out s H E g r => run__law_whole m_bool m_int m_isinstance cdv A out s H E g r) hsp__law_whole
def boxB : D → Bool
  | .tup [x, y, w, h] => (whole (-999) 999 x && whole (-999) 999 y) && (whole 1 99 w && whole 1 99 h)
  | _ => false
def sp_is_box : dSp := spLook boxB
abbrev s_is_box : Stmt := topS 4
abbrev n_is_box : List Str := ["thing", "x", "y", "wide", "high", "one"]
theorem sc_is_box : FnScope n_is_box ["thing"] (defScope s_is_box) := ⟨rfl, rfl, rfl, by decide +kernel, rfl, by decide +kernel, by decide +kernel⟩
def p_is_box_0 : dS := (dIfS (dOr (dNot (dB (dCB (rIsi "tuple") (dCons (dVar 0) (dCons (dC (.raw (.ty "tuple"))) dNil))))) (dB (dBin (rNe) (dCB rLen (dCons (dVar 0) dNil)) (dC (.int 4))))) (dRet (dC (.bl false))) dNext)
def p_is_box_1 : dS := (dAsg (dVar 0) (gT 4 (gsCons (gN 1) (gsCons (gN 2) (gsCons (gN 3) (gsCons (gN 4) gsNil))))))
def p_is_box_2 : dS := (dIfS (dNot (dB (dCB rAllD (dCons (dFz (dLC (dSeqI (dTup (dCons (dVar 1) (dCons (dVar 2) dNil)))) (gN 5) dYes (dCallD 3 [] sp_is_from_to (dCons (dVar 5) (dCons (dNeg (dC (.int 999))) (dCons (dC (.int 999)) dNil)))) [5])) dNil)))) (dRet (dC (.bl false))) dNext)
def p_is_box_3 : dS := (dRet (dCB rAllD (dCons (dFz (dLC (dSeqI (dTup (dCons (dVar 3) (dCons (dVar 4) dNil)))) (gN 5) dYes (dCallD 3 [] sp_is_from_to (dCons (dVar 5) (dCons (dC (.int 1)) (dCons (dC (.int 99)) dNil)))) [5])) dNil)))
def b_is_box_3 : dS := p_is_box_3
def b_is_box_2 : dS := dSeq (p_is_box_2) (b_is_box_3)
def b_is_box_1 : dS := dSeq (p_is_box_1) (b_is_box_2)
def b_is_box_0 : dS := dSeq (p_is_box_0) (b_is_box_1)
def b_is_box : dS := b_is_box_0
theorem run_is_box {P : Program} {w : World} {K : PySem.W.Frag} {mg : Str → Option Value} {base : Heap} (v_FAR : ∃ t, mg "FAR" = some (.int 999 t)) (v_MOST_WIDE : ∃ t, mg "MOST_WIDE" = some (.int 99 t)) (m_all : mg "all" = none) (m_isinstance : mg "isinstance" = none) (m_len : mg "len" = none) (m_tuple : mg "tuple" = none) (K_is_from_to_3 : Def P w K mg base 1 "is_from_to" 3 sp_is_from_to []) {f : Addr} (cdv : Value) (A : Around) (out : List Env) (s : Shared) (H : Hp) (E : XK) (g : A.guards = some []) (hrA : Room 1 (A.deeper (envOfC "is_box" (defScope s_is_box) s.heap.objs.size f cdv))) :
  DSs (cx0 P w K mg base n_is_box "is_box" (defScope s_is_box) f cdv A out s H E) E00 (defBody s_is_box) b_is_box := by
 have hgA : (A.deeper (envOfC "is_box" (defScope s_is_box) s.heap.objs.size f cdv)).guards = some [] := g
 have hun := hrA.un
 exact (dss_cons (t := p_is_box_0) (u := b_is_box_1) (ds_if ((dw_or (dt_not (dt_val (de_callB (cd_isi "tuple") (by rfl) m_isinstance (by decide +kernel) (da_cons (de_var (pv 0)) (da_cons (de_ty (n := "tuple") (by rfl) m_tuple (by decide +kernel)) da_nil))))) (dw_or1 (dt_cmp (od_ne (Nat.lt_of_le_of_lt (Nat.add_le_add_left (by decide) _) hun)) (de_callB (cd_len) (by rfl) m_len PySem.boot_len (da_cons (de_var (pv 0)) da_nil)) de_int (nomark _))))).dt (dss_one (ds_ret de_bl)) dss_nil)
  (dss_cons (t := p_is_box_1) (u := b_is_box_2) (ds_asg (de_var (pv 0)) (dg_tup rfl (dgs_cons (dg_name (pg_name (i := 1) sc_is_box.nd rfl (by first | exact .inl rfl | exact .inr rfl))) (dgs_cons (dg_name (pg_name (i := 2) sc_is_box.nd rfl (by first | exact .inl rfl | exact .inr rfl))) (dgs_cons (dg_name (pg_name (i := 3) sc_is_box.nd rfl (by first | exact .inl rfl | exact .inr rfl))) (dgs_cons (dg_name (pg_name (i := 4) sc_is_box.nd rfl (by first | exact .inl rfl | exact .inr rfl))) dgs_nil))))))
  (dss_cons (t := p_is_box_2) (u := b_is_box_3) (ds_if (dt_not (dt_val (de_callB (cd_all rfl) (by rfl) m_all (by decide +kernel) (da_cons (de_fz (df_lc (E2 := E00) (own := [("one", 5)]) rfl sc_is_box.nd (di_seq (de_tup (da_cons (de_var (pv 1)) (da_cons (de_var (pv 2)) da_nil)))) (blkOk_by (N := n_is_box) (sc := (defScope s_is_box)) (own := [("one", 5)]) (by decide +kernel)) (by decide) (fun _ _ _ _ _ => (dg_name (pg_name (i := 5) sc_is_box.nd rfl (by first | exact .inl rfl | exact .inr rfl)))) (fun _ _ _ _ _ => dts_nil) (fun _ _ _ _ _ => (de_callD K_is_from_to_3 hgA hrA (by rfl) (da_cons (de_var (pv 5)) (da_cons (de_usub (de_gint (by rfl) v_FAR)) (da_cons (de_gint (by rfl) v_FAR) da_nil))))))) da_nil)))) (dss_one (ds_ret de_bl)) dss_nil)
  (dss_one (t := p_is_box_3) (ds_ret (de_callB (cd_all rfl) (by rfl) m_all (by decide +kernel) (da_cons (de_fz (df_lc (E2 := E00) (own := [("one", 5)]) rfl sc_is_box.nd (di_seq (de_tup (da_cons (de_var (pv 3)) (da_cons (de_var (pv 4)) da_nil)))) (blkOk_by (N := n_is_box) (sc := (defScope s_is_box)) (own := [("one", 5)]) (by decide +kernel)) (by decide) (fun _ _ _ _ _ => (dg_name (pg_name (i := 5) sc_is_box.nd rfl (by first | exact .inl rfl | exact .inr rfl)))) (fun _ _ _ _ _ => dts_nil) (fun _ _ _ _ _ => (de_callD K_is_from_to_3 hgA hrA (by rfl) (da_cons (de_var (pv 5)) (da_cons de_int (da_cons (de_gint (by rfl) v_MOST_WIDE) da_nil))))))) da_nil)))))))
theorem hsp_is_box : ∀ ds p Q W, ds.length = 1 → sp_is_box ds p Q W → b_is_box W0 (endsD Q) (startD n_is_box.length ds p) := by
  rintro _ p Q W - ⟨d, rfl, ok, q⟩
  have no : ∀ xs : List D, xs.length ≠ 4 → Q (.bl false) p → b_is_box W0 (endsD Q) (startD n_is_box.length [.tup xs] p) := fun xs h q => by
    have h2 : ¬ ((xs.length : Nat) : Int) = 4 := by omega
    simp only [DSIMP, n_is_box, b_is_box, b_is_box_0, p_is_box_0, eq_false h2]
    exact q
  cases d with
  | non => simp only [DSIMP, n_is_box, b_is_box, b_is_box_0, p_is_box_0]; exact q
  | bl b => simp only [DSIMP, n_is_box, b_is_box, b_is_box_0, p_is_box_0]; exact q
  | int i => simp only [DSIMP, n_is_box, b_is_box, b_is_box_0, p_is_box_0]; exact q
  | str i => simp only [DSIMP, n_is_box, b_is_box, b_is_box_0, p_is_box_0]; exact q
  | lst i => simp only [DSIMP, n_is_box, b_is_box, b_is_box_0, p_is_box_0]; exact q
  | dT i => simp only [DSIMP, n_is_box, b_is_box, b_is_box_0, p_is_box_0]; exact q
  | tup xs =>
    rcases xs with _ | ⟨x, _ | ⟨y, _ | ⟨w, _ | ⟨h, _ | ⟨u, xs⟩⟩⟩⟩⟩
    · exact no _ (by simp) q
    · exact no _ (by simp) q
    · exact no _ (by simp) q
    · exact no _ (by simp) q
    · obtain ⟨o1, o2, o3, o4⟩ := ok4 ok
      have e4 : ((4 : Nat) : Int) = 4 := rfl
      have q : Q (.bl ((whole (-999) 999 x && whole (-999) 999 y) && (whole 1 99 w && whole 1 99 h))) p := q
      simp only [DSIMP, n_is_box, b_is_box, b_is_box_0, p_is_box_0, b_is_box_1, p_is_box_1, b_is_box_2, p_is_box_2, sp_is_from_to, e4]
      refine ⟨x, -999, 999, rfl, o1, ?_⟩
      simp only [DSIMP]
      refine ⟨y, -999, 999, rfl, o2, ?_⟩
      have b2 : ∀ a b : Bool, blsOf [D.bl a, D.bl b] = some [a, b] := fun _ _ => rfl
      have a2 : ∀ a b : Bool, [a, b].all id = (a && b) := fun a b => by cases a <;> cases b <;> rfl
      unfold rAllD
      simp only [DSIMP, b2, a2]
      cases hx : (whole (-999) 999 x && whole (-999) 999 y) with
      | false => rw [hx] at q; exact q
      | true =>
        rw [hx] at q
        simp only [DSIMP, b_is_box_3, p_is_box_3, b_is_box_3, sp_is_from_to]
        refine ⟨w, 1, 99, rfl, o3, ?_⟩
        simp only [DSIMP]
        refine ⟨h, 1, 99, rfl, o4, ?_⟩
        unfold rAllD
        simp only [DSIMP, b2, a2]
        exact q
    · exact no _ (by simp) q
  | _ => cases ok
theorem ok_is_box {P : Program} {w : World} {K : PySem.W.Frag} {mg : Str → Option Value} {base : Heap} (v_FAR : ∃ t, mg "FAR" = some (.int 999 t)) (v_MOST_WIDE : ∃ t, mg "MOST_WIDE" = some (.int 99 t)) (m_all : mg "all" = none) (m_isinstance : mg "isinstance" = none) (m_len : mg "len" = none) (m_tuple : mg "tuple" = none) (K_is_from_to_3 : Def P w K mg base 1 "is_from_to" 3 sp_is_from_to []) {f : Addr} {fd : FuncData} (F : Fun K "is_box" "is_box" s_is_box f fd) : FnG P w K mg base CX0 2 f fd ["thing"] (spD K 1 sp_is_box) :=
 fn_d0 F sc_is_box rfl (fun cdv A out s H E g r => run_is_box v_FAR v_MOST_WIDE m_all m_isinstance m_len m_tuple K_is_from_to_3 cdv A out s H E g r) hsp_is_box
theorem filt_any {xs : List D} {t : D → Bool} : (!(xs.filter t).isEmpty) = xs.any t := by
  induction xs with
  | nil => rfl
  | cons x xs ih =>
    rw [List.filter_cons, List.any_cons]
    cases t x with
    | true => rfl
    | false => simpa using ih
theorem rd_notw {δ : DS} {i j : Nat} {xs : List D} (hi : δ.sl[i]? = some (.dat (.tup xs))) (hw : wipeD δ [j] = δ) (hs : ∀ x, (setSl δ j (.dat x)).sl[j]? = some (.dat x)) (hb : ∀ x, wipeD (setSl δ j (.dat x)) [j] = δ) (ok : ∀ x ∈ xs, okN great x = true) (hl : xs.length ≤ 1000000) :
    RdE δ (dBin (rEL true) (dFz (dLC (dSeqI (dVar i)) (gN j) (dNot (dB (dCallD 1 [] sp__law_whole (dCons (dVar j) dNil)))) (dVar j) [j])) (dFz (dLst dNil))) (.bl (xs.any fun x => !whole0 x)) := fun Q q => by
  unfold dBin dFz dLC dSeqI
  refine rd_var hi _ ?_
  show wLC (gN j) (dNot (dB (dCallD 1 [] sp__law_whole (dCons (dVar j) dNil)))) (dVar j) [j] _ xs [] (wipeD δ [j])
  have hxs : xs = xs.map id := (List.map_id xs).symm
  rw [hw, hxs]
  refine wLC_filt (l := xs) (ι := id) (f := id) (t := fun x => !whole0 x) (fun x hx acc k hz g1 g2 => ?_) (by rw [sizeLine_eq]; omega) ?_
  · show dNot (dB (dCallD 1 [] sp__law_whole (dCons (dVar j) dNil))) W0 (setSl δ j (.dat x)) (fun z δ2 => match z with | true => dVar j W0 δ2 fun y δ3 => acc.length < sizeLine ∧ k (acc ++ [y]) (wipeD δ3 [j]) | false => k acc (wipeD δ2 [j]))
    unfold dNot dB dCallD dCons dNil
    refine rd_var (hs x) _ ⟨rfl, x, rfl, ok x hx, ?_⟩
    cases hb' : whole0 x with
    | true => 
      show k acc (wipeD (setSl δ j (.dat x)) [j])
      rw [hb]
      exact g2 (by rw [hb']; rfl)
    | false =>
      refine rd_var (hs x) (fun y δ3 => acc.length < sizeLine ∧ k (acc ++ [y]) (wipeD δ3 [j])) ⟨hz, ?_⟩
      rw [hb]
      exact g1 (by rw [hb']; rfl)
  · rw [List.map_id]
    refine ⟨by rw [sizeLine_eq]; decide, ?_⟩
    show Q (.bl (!(xs.filter fun x => !whole0 x).isEmpty)) δ
    rw [filt_any]
    rw [← hxs] at *
    exact q
def sp__law_is_box : dSp := spLook boxB
abbrev s__law_is_box : Stmt := topS 25
abbrev n__law_is_box : List Str := ["_law_some", "_law_one"]
theorem sc__law_is_box : FnScope n__law_is_box ["_law_some"] (defScope s__law_is_box) := ⟨rfl, rfl, rfl, by decide +kernel, rfl, by decide +kernel, by decide +kernel⟩
def p__law_is_box_0 : dS := (dIfS (dOr (dNot (dB (dCB (rIsi "tuple") (dCons (dVar 0) (dCons (dC (.raw (.ty "tuple"))) dNil))))) (dOr (dB (dBin (rNe) (dCB rLen (dCons (dVar 0) dNil)) (dC (.int 4)))) (dB (dBin (rEL true) (dFz (dLC (dSeqI (dVar 0)) (gN 1) (dNot (dB (dCallD 1 [] sp__law_whole (dCons (dVar 1) dNil)))) (dVar 1) [1])) (dFz (dLst dNil)))))) (dRet (dC (.bl false))) dNext)
def p__law_is_box_1 : dS := (dRet (dAndV (dBin (rLe) (dCB rAbs (dCons (dBin rIxD (dVar 0) (dC (.int 0))) dNil)) (dC (.int 999))) (dAndV (dBin (rLe) (dCB rAbs (dCons (dBin rIxD (dVar 0) (dC (.int 1))) dNil)) (dC (.int 999))) (dAndV (dChain rLt rLt (dC (.int 0)) (dBin rIxD (dVar 0) (dC (.int 2))) (dC (.int 100))) (dChain rLt rLt (dC (.int 0)) (dBin rIxD (dVar 0) (dC (.int 3))) (dC (.int 100)))))))
def b__law_is_box_1 : dS := p__law_is_box_1
def b__law_is_box_0 : dS := dSeq (p__law_is_box_0) (b__law_is_box_1)
def b__law_is_box : dS := b__law_is_box_0
theorem run__law_is_box {P : Program} {w : World} {K : PySem.W.Frag} {mg : Str → Option Value} {base : Heap} (m_abs : mg "abs" = none) (m_isinstance : mg "isinstance" = none) (m_len : mg "len" = none) (m_tuple : mg "tuple" = none) (K__law_whole_1 : Def P w K mg base 1 "_law_whole" 1 sp__law_whole []) {f : Addr} (cdv : Value) (A : Around) (out : List Env) (s : Shared) (H : Hp) (E : XK) (g : A.guards = some []) (hrA : Room 1 (A.deeper (envOfC "_law_is_box" (defScope s__law_is_box) s.heap.objs.size f cdv))) :
  DSs (cx0 P w K mg base n__law_is_box "_law_is_box" (defScope s__law_is_box) f cdv A out s H E) E00 (defBody s__law_is_box) b__law_is_box := by
 have hgA : (A.deeper (envOfC "_law_is_box" (defScope s__law_is_box) s.heap.objs.size f cdv)).guards = some [] := g
 have hun := hrA.un
 exact (dss_cons (t := p__law_is_box_0) (u := b__law_is_box_1) (ds_if ((dw_or (dt_not (dt_val (de_callB (cd_isi "tuple") (by rfl) m_isinstance (by decide +kernel) (da_cons (de_var (pv 0)) (da_cons (de_ty (n := "tuple") (by rfl) m_tuple (by decide +kernel)) da_nil))))) (dw_or (dt_cmp (od_ne (Nat.lt_of_le_of_lt (Nat.add_le_add_left (by decide) _) hun)) (de_callB (cd_len) (by rfl) m_len PySem.boot_len (da_cons (de_var (pv 0)) da_nil)) de_int (nomark _)) (dw_or1 (dt_cmp (od_neL (Nat.lt_of_le_of_lt (Nat.le_add_right _ _) hun)) (de_fz (df_lc (E2 := E00) (own := [("_law_one", 1)]) rfl sc__law_is_box.nd (di_seq (de_var (pv 0))) (blkOk_by (N := n__law_is_box) (sc := (defScope s__law_is_box)) (own := [("_law_one", 1)]) (by decide +kernel)) (by decide) (fun _ _ _ _ _ => (dg_name (pg_name (i := 1) sc__law_is_box.nd rfl (by first | exact .inl rfl | exact .inr rfl)))) (fun _ _ _ _ _ => (dts_one (dt_not (dt_val (de_callD K__law_whole_1 hgA hrA (by rfl) (da_cons (de_var (pv 1)) da_nil)))))) (fun _ _ _ _ _ => (de_var (pv 1))))) (de_fz (df_lst da_nil)) (nomark _)))))).dt (dss_one (ds_ret de_bl)) dss_nil)
  (dss_one (t := p__law_is_box_1) (ds_ret (de_and (de_cmp (od_le) (de_callB (cd_abs) (by rfl) m_abs (by decide +kernel) (da_cons (de_ix (de_var (pv 0)) de_int (fun _ _ => rfl)) da_nil)) de_int (nomark _)) (de_and (de_cmp (od_le) (de_callB (cd_abs) (by rfl) m_abs (by decide +kernel) (da_cons (de_ix (de_var (pv 0)) de_int (fun _ _ => rfl)) da_nil)) de_int (nomark _)) (de_and (de_chain (od_lt) (od_lt) de_int (de_ix (de_var (pv 0)) de_int (fun _ _ => rfl)) de_int) (de_one (de_chain (od_lt) (od_lt) de_int (de_ix (de_var (pv 0)) de_int (fun _ _ => rfl)) de_int))))))))
theorem all4 {x y w h : D} (hx : whole0 x = true) (hy : whole0 y = true) (hw : whole0 w = true) (hh : whole0 h = true) : ∃ a b c d : Int, x = .int a ∧ y = .int b ∧ w = .int c ∧ h = .int d := by
  cases x <;> cases hx
  cases y <;> cases hy
  cases w <;> cases hw
  cases h <;> cases hh
  exact ⟨_, _, _, _, rfl, rfl, rfl, rfl⟩
theorem natabs_le {a : Int} : (decide ((a.natAbs : Int) ≤ 999)) = (decide (-999 ≤ a) && decide (a ≤ 999)) := by
  rw [← Bool.decide_and]
  exact decide_eq_decide.mpr (by omega)
theorem hsp__law_is_box : ∀ ds p Q W, ds.length = 1 → sp__law_is_box ds p Q W → b__law_is_box W0 (endsD Q) (startD n__law_is_box.length ds p) := by
  rintro _ p Q W - ⟨d, rfl, ok, q⟩
  have no : ∀ xs : List D, xs.length ≠ 4 → Q (.bl false) p → b__law_is_box W0 (endsD Q) (startD n__law_is_box.length [.tup xs] p) := fun xs h q => by
    have h2 : ¬ ((xs.length : Nat) : Int) = 4 := by omega
    simp only [DSIMP, n__law_is_box, b__law_is_box, b__law_is_box_0, p__law_is_box_0, eq_false h2]
    exact q
  cases d with
  | non => simp only [DSIMP, n__law_is_box, b__law_is_box, b__law_is_box_0, p__law_is_box_0]; exact q
  | bl b => simp only [DSIMP, n__law_is_box, b__law_is_box, b__law_is_box_0, p__law_is_box_0]; exact q
  | int i => simp only [DSIMP, n__law_is_box, b__law_is_box, b__law_is_box_0, p__law_is_box_0]; exact q
  | str i => simp only [DSIMP, n__law_is_box, b__law_is_box, b__law_is_box_0, p__law_is_box_0]; exact q
  | lst i => simp only [DSIMP, n__law_is_box, b__law_is_box, b__law_is_box_0, p__law_is_box_0]; exact q
  | dT i => simp only [DSIMP, n__law_is_box, b__law_is_box, b__law_is_box_0, p__law_is_box_0]; exact q
  | tup xs =>
    rcases xs with _ | ⟨x, _ | ⟨y, _ | ⟨w, _ | ⟨h, _ | ⟨u, xs⟩⟩⟩⟩⟩
    · exact no _ (by simp) q
    · exact no _ (by simp) q
    · exact no _ (by simp) q
    · exact no _ (by simp) q
    · obtain ⟨o1, o2, o3, o4⟩ := ok4 ok
      have e4 : ((4 : Nat) : Int) = 4 := rfl
      have q : Q (.bl ((whole (-999) 999 x && whole (-999) 999 y) && (whole 1 99 w && whole 1 99 h))) p := q
      have ok' : ∀ z ∈ [x, y, w, h], okN great z = true := by
        intro z hz
        simp only [List.mem_cons, List.not_mem_nil, or_false] at hz
        rcases hz with rfl | rfl | rfl | rfl <;> assumption
      have hX := rd_notw (δ := startD n__law_is_box.length [.tup [x, y, w, h]] p) (i := 0) (j := 1) (xs := [x, y, w, h]) rfl rfl (fun _ => rfl) (fun _ => rfl) ok' (by simp)
      unfold b__law_is_box b__law_is_box_0 p__law_is_box_0
      obtain ⟨m, hn⟩ : ∃ m, ([x, y, w, h].any fun x => !whole0 x) = m := ⟨_, rfl⟩
      rw [hn] at hX
      generalize (dBin (rEL true) (dFz (dLC (dSeqI (dVar 0)) (gN 1) (dNot (dB (dCallD 1 [] sp__law_whole (dCons (dVar 1) dNil)))) (dVar 1) [1])) (dFz (dLst dNil))) = X at hX ⊢
      simp only [DSIMP, n__law_is_box, e4] at hX ⊢
      refine hX _ ?_
      simp only [List.any_cons, List.any_nil, Bool.or_false] at hn
      cases m with
      | true =>
        have q0 : ((whole (-999) 999 x && whole (-999) 999 y) && (whole 1 99 w && whole 1 99 h)) = false := by
          simp only [Bool.or_eq_true, Bool.not_eq_true'] at hn
          have wz : ∀ (lo hi : Int) (d : D), whole0 d = false → whole lo hi d = false := fun lo hi d h => by cases d <;> first | rfl | cases h
          rcases hn with h | h | h | h <;> rw [wz _ _ _ h] <;> simp
        rw [q0] at q
        exact q
      | false =>
        simp only [Bool.or_eq_false_iff, Bool.not_eq_false'] at hn
        obtain ⟨z1, z2, z3, z4⟩ := hn
        obtain ⟨i, j, k, l, rfl, rfl, rfl, rfl⟩ := all4 z1 z2 z3 z4
        have a0 : atI [D.int i, .int j, .int k, .int l] 0 = some (.int i) := rfl
        have a1 : atI [D.int i, .int j, .int k, .int l] 1 = some (.int j) := rfl
        have a2 : atI [D.int i, .int j, .int k, .int l] 2 = some (.int k) := rfl
        have a3 : atI [D.int i, .int j, .int k, .int l] 3 = some (.int l) := rfl
        simp only [DSIMP, b__law_is_box_1, p__law_is_box_1, b__law_is_box_1, a0, a1, a2, a3, natabs_le, dChain]
        have ab : ∀ i : Int, decide ((if i < 0 then -i else i) ≤ 999) = (decide (-999 ≤ i) && decide (i ≤ 999)) := fun i => by
          rw [← Bool.decide_and]
          refine decide_eq_decide.mpr ?_
          split <;> omega
        have l1 : ∀ i : Int, decide (0 < i) = decide (1 ≤ i) := fun i => decide_eq_decide.mpr (by omega)
        have l2 : ∀ i : Int, decide (i < 100) = decide (i ≤ 99) := fun i => decide_eq_decide.mpr (by omega)
        have q : Q (.bl (((decide (-999 ≤ i) && decide (i ≤ 999)) && (decide (-999 ≤ j) && decide (j ≤ 999))) && ((decide (1 ≤ k) && decide (k ≤ 99)) && (decide (1 ≤ l) && decide (l ≤ 99))))) p := q
        rw [ab, ab, l1, l1, l2, l2]
        generalize (decide (-999 ≤ i) && decide (i ≤ 999)) = b1 at q ⊢
        generalize (decide (-999 ≤ j) && decide (j ≤ 999)) = b2 at q ⊢
        generalize decide (1 ≤ k) = b3 at q ⊢
        generalize decide (k ≤ 99) = b4 at q ⊢
        generalize decide (1 ≤ l) = b5 at q ⊢
        generalize decide (l ≤ 99) = b6 at q ⊢
        cases b1 <;> cases b2 <;> cases b3 <;> cases b4 <;> cases b5 <;> first | exact q | (cases b6 <;> exact q)
    · exact no _ (by simp) q
  | _ => cases ok
theorem ok__law_is_box {P : Program} {w : World} {K : PySem.W.Frag} {mg : Str → Option Value} {base : Heap} (m_abs : mg "abs" = none) (m_isinstance : mg "isinstance" = none) (m_len : mg "len" = none) (m_tuple : mg "tuple" = none) (K__law_whole_1 : Def P w K mg base 1 "_law_whole" 1 sp__law_whole []) {f : Addr} {fd : FuncData} (F : Fun K "_law_is_box" "_law_is_box" s__law_is_box f fd) : FnG P w K mg base CX0 2 f fd ["_law_some"] (spD K 1 sp__law_is_box) :=
 fn_d0 F sc__law_is_box rfl (fun cdv A out s H E g r => run__law_is_box m_abs m_isinstance m_len m_tuple K__law_whole_1 cdv A out s H E g r) hsp__law_is_box
end Ev01
namespace Ev01
open PySem PySem.Spec PyProof.Rows L2 Ev Pt
local macro_rules
  | `(tactic| simp only [DSIMP, $as,*] $[$l:location]?) => `(tactic| simp only [dMk1, dMk0, rIsSK, rTupleK, rAddK, rNeE, rEL, List.isEmpty_nil, List.isEmpty_cons, gIx, rIsA, rIsS, kitS, kitS.optQB, D.cls, dHGet, dHPut, dBornK, penK_cells, penK_at, penK_left, penK_pat, penK_pleft, penK_len, ex_hpK, dOwnGet2, ownKs, dKpL, dNewKd, dKpLk, rDictPTf, dRaise1, dRaise0, excD, dTry, wTry, Ev.rIsE, Ev.rIsEt, D.xcN, dFldE, dCallVX, WP, exS_tab, dTakeN, dIxN, dKpNew, dKpPut, dKpIns, dKpApp, dKpFz, dRoK, dRoL, dNewK1, dIns, roK, dZipM, dNGet, dNPut, dNewN, isNo, Ev.nGet, Ev.nPut, D.nkey, dOrX, truD, rDictX, dTupN, dSlN, rAddN, rSrtN, rTupleN, rDictN, dSlX, dRevX, dLenSetN, dEmptyV, rLtX, rMulX, Ev.rReprX, dPenS, gStarDL, dAug, dIndexE, dZipS, dGcIn, dGbIx, dGdIn, dGdIx, dListRg, rDictPf, dZipL, dListKo, dEmptyT, dDispT1, dNeE, rListA, rDictPT, rIsTF, dGroup, rSrtA, rLenA, dInV, dIxV, dCount, dSortKo, dCallR, adD, gL, dDN, dLN, wNest, bNest, bEl, bEd, dZip, seqOf, dSortDK, dCallV, dCallLam, optQ, dEnum, D.nf, D.nfs, Ev.rSumD, dLock, dKeysI, gStarD, dReverse, dMove, dDGet2, getD2, D.isD, dDisp, dPairs, keysD, Ev.rMaxD, Ev.rMinD, rDictP, Option.getD_some, Option.getD_none, Ev.D.eq_refl, dPen1, dLenSet, dSrtR, dRo, dRoF, dRoT, roD, ro_un, ro_dat, ro_own, ro_hp, ro_law, ro_ownK, ro_ownT, List.forall_mem_map, flat_int, flat_str, flat_bl, flat_non, solid_int, solid_str, solid_bl, solid_non, solid_tup, solids_nil, solids_cons, dSeq, dNext, dSet, dSetF, setSl, dVar, dTake, dC, dBin, dBinF, dB, dIfS, dIf, dRet, dRetN, dExpr, dNil, dCons, dTup, dLst, dFz, dAnd, dOr, dNot, dAndV, dOrV, dNotV, dCallD, dCallK, dCB, dCBF, dFor, dLC, dYes, dRng1, dRng2, dSeqI, gN, gT, gsNil, gsCons, dAsg, dNeg, dJoin, dFs, dJs, dFmt, dApp, dExt, dPop, dPopAt, dOwnIx, dOwnCB, dOwnL, dOwnR, dOwnSl, dSetIx, dSlT, dSlL, oNone, oSome, dBorn, optQ, ownAt, setOwnAt, lookAt, wipeD, dNewDT, dNewDK, dDGet, dDIn, dDPut, dSortT, rSrt, isDict, Ev.dictGet, Ev.dictPut, Option.isSome_none, Option.isSome_some, D.keyT, keysOf, D.key, exists_eq_left', exists_eq_left, Option.isSome, rRepL, rCatL, dRetF, dIfF, dPar, dRetOwn, dCallL, dCallLK, dPen2, dRev, dRevI, dIndex, endsL, startL, dNever, dBrk, dCnt, rAddD, rSubI, rIO, rMulI, rDivI, rModI, rPowI, rCI, Ev.rIxD, rIsN, rNotN, D.isN, Ev.rLen, rTuple, rList, rAbs, rInt, rStr, Ev.rRepr, Ev.rIsi, D.ty, kit_tab, startD, endsD, List.map_cons, List.map_nil, List.length_cons, List.length_nil, List.append_nil, List.nil_append, List.cons_append, List.getElem?_cons_zero, List.getElem?_cons_succ, List.getElem?_nil, List.set_cons_zero, List.set_cons_succ, List.replicate, List.replicate_succ, Nat.zero_add, Nat.zero_le, sizeLine, true_and, and_true, if_true, Ev.eq_int, Ev.eq_str, Ev.eq_bl, Ev.eq_non, lst_nil, tup_nil, List.map_eq_nil_iff, txt_join, rLt, rLe, rGt, rGe, atI_ofNat, atI_last, wLC, strsOf, intsOf, blsOf, Option.map_some, Ev.join_two, Ev.join_one, Ev.join_nil, List.sum_cons, List.sum_nil, PySem.Str.empty_append, ixN_ofNat, Option.some.injEq, exists_eq', List.length_map, decide_true, decide_false, Bool.not_true, Bool.not_false, Bool.true_eq_false, Bool.false_eq_true, false_and, and_false, if_false, ite_true, ite_false, Nat.reduceAdd, Nat.reduceSub, Nat.reduceMul, Nat.reduceLT, Nat.reduceLeDiff, Nat.reduceEqDiff, Nat.reducePow, Int.reduceToNat, Int.reducePow, pickL, List.filterMap_cons, List.filterMap_nil, and_self, Int.reduceLT, Int.reduceLE, Int.reduceNeg, Int.reduceAdd, Int.reduceMul, Int.reduceSub, Int.reduceEq, reduceIte, reduceCtorEq, lit_eq, String.reduceEq, Ev.rEq, Ev.rNe, Ev.rInD, cut_toN, cut_fromN, List.map_take, List.forall_mem_cons, List.forall_mem_nil, List.not_mem_nil, false_imp_iff, implies_true, forall_const, D.cm, D.lay, D.lays, D.dep, D.deps, strOk_lit, lays_ints, deps_ints, Nat.max_self, Nat.max_zero, Nat.zero_max, Bool.and_self, Bool.true_and, Bool.and_true, Bool.and_false, Bool.false_and, Bool.or_false, Bool.or_true, Bool.true_or, Bool.false_or, List.any_cons, List.any_nil, decide_eq_true_eq, eq_self, $as,*] $[$l]?)
  | `(tactic| simp only [DSIMP] $[$l:location]?) => `(tactic| simp only [dMk1, dMk0, rIsSK, rTupleK, rAddK, rNeE, rEL, List.isEmpty_nil, List.isEmpty_cons, gIx, rIsA, rIsS, kitS, kitS.optQB, D.cls, dHGet, dHPut, dBornK, penK_cells, penK_at, penK_left, penK_pat, penK_pleft, penK_len, ex_hpK, dOwnGet2, ownKs, dKpL, dNewKd, dKpLk, rDictPTf, dRaise1, dRaise0, excD, dTry, wTry, Ev.rIsE, Ev.rIsEt, D.xcN, dFldE, dCallVX, WP, exS_tab, dTakeN, dIxN, dKpNew, dKpPut, dKpIns, dKpApp, dKpFz, dRoK, dRoL, dNewK1, dIns, roK, dZipM, dNGet, dNPut, dNewN, isNo, Ev.nGet, Ev.nPut, D.nkey, dOrX, truD, rDictX, dTupN, dSlN, rAddN, rSrtN, rTupleN, rDictN, dSlX, dRevX, dLenSetN, dEmptyV, rLtX, rMulX, Ev.rReprX, dPenS, gStarDL, dAug, dIndexE, dZipS, dGcIn, dGbIx, dGdIn, dGdIx, dListRg, rDictPf, dZipL, dListKo, dEmptyT, dDispT1, dNeE, rListA, rDictPT, rIsTF, dGroup, rSrtA, rLenA, dInV, dIxV, dCount, dSortKo, dCallR, adD, gL, dDN, dLN, wNest, bNest, bEl, bEd, dZip, seqOf, dSortDK, dCallV, dCallLam, optQ, dEnum, D.nf, D.nfs, Ev.rSumD, dLock, dKeysI, gStarD, dReverse, dMove, dDGet2, getD2, D.isD, dDisp, dPairs, keysD, Ev.rMaxD, Ev.rMinD, rDictP, Option.getD_some, Option.getD_none, Ev.D.eq_refl, dPen1, dLenSet, dSrtR, dRo, dRoF, dRoT, roD, ro_un, ro_dat, ro_own, ro_hp, ro_law, ro_ownK, ro_ownT, List.forall_mem_map, flat_int, flat_str, flat_bl, flat_non, solid_int, solid_str, solid_bl, solid_non, solid_tup, solids_nil, solids_cons, dSeq, dNext, dSet, dSetF, setSl, dVar, dTake, dC, dBin, dBinF, dB, dIfS, dIf, dRet, dRetN, dExpr, dNil, dCons, dTup, dLst, dFz, dAnd, dOr, dNot, dAndV, dOrV, dNotV, dCallD, dCallK, dCB, dCBF, dFor, dLC, dYes, dRng1, dRng2, dSeqI, gN, gT, gsNil, gsCons, dAsg, dNeg, dJoin, dFs, dJs, dFmt, dApp, dExt, dPop, dPopAt, dOwnIx, dOwnCB, dOwnL, dOwnR, dOwnSl, dSetIx, dSlT, dSlL, oNone, oSome, dBorn, optQ, ownAt, setOwnAt, lookAt, wipeD, dNewDT, dNewDK, dDGet, dDIn, dDPut, dSortT, rSrt, isDict, Ev.dictGet, Ev.dictPut, Option.isSome_none, Option.isSome_some, D.keyT, keysOf, D.key, exists_eq_left', exists_eq_left, Option.isSome, rRepL, rCatL, dRetF, dIfF, dPar, dRetOwn, dCallL, dCallLK, dPen2, dRev, dRevI, dIndex, endsL, startL, dNever, dBrk, dCnt, rAddD, rSubI, rIO, rMulI, rDivI, rModI, rPowI, rCI, Ev.rIxD, rIsN, rNotN, D.isN, Ev.rLen, rTuple, rList, rAbs, rInt, rStr, Ev.rRepr, Ev.rIsi, D.ty, kit_tab, startD, endsD, List.map_cons, List.map_nil, List.length_cons, List.length_nil, List.append_nil, List.nil_append, List.cons_append, List.getElem?_cons_zero, List.getElem?_cons_succ, List.getElem?_nil, List.set_cons_zero, List.set_cons_succ, List.replicate, List.replicate_succ, Nat.zero_add, Nat.zero_le, sizeLine, true_and, and_true, if_true, Ev.eq_int, Ev.eq_str, Ev.eq_bl, Ev.eq_non, lst_nil, tup_nil, List.map_eq_nil_iff, txt_join, rLt, rLe, rGt, rGe, atI_ofNat, atI_last, wLC, strsOf, intsOf, blsOf, Option.map_some, Ev.join_two, Ev.join_one, Ev.join_nil, List.sum_cons, List.sum_nil, PySem.Str.empty_append, ixN_ofNat, Option.some.injEq, exists_eq', List.length_map, decide_true, decide_false, Bool.not_true, Bool.not_false, Bool.true_eq_false, Bool.false_eq_true, false_and, and_false, if_false, ite_true, ite_false, Nat.reduceAdd, Nat.reduceSub, Nat.reduceMul, Nat.reduceLT, Nat.reduceLeDiff, Nat.reduceEqDiff, Nat.reducePow, Int.reduceToNat, Int.reducePow, pickL, List.filterMap_cons, List.filterMap_nil, and_self, Int.reduceLT, Int.reduceLE, Int.reduceNeg, Int.reduceAdd, Int.reduceMul, Int.reduceSub, Int.reduceEq, reduceIte, reduceCtorEq, lit_eq, String.reduceEq, Ev.rEq, Ev.rNe, Ev.rInD, cut_toN, cut_fromN, List.map_take, List.forall_mem_cons, List.forall_mem_nil, List.not_mem_nil, false_imp_iff, implies_true, forall_const, D.cm, D.lay, D.lays, D.dep, D.deps, strOk_lit, lays_ints, deps_ints, Nat.max_self, Nat.max_zero, Nat.zero_max, Bool.and_self, Bool.true_and, Bool.and_true, Bool.and_false, Bool.false_and, Bool.or_false, Bool.or_true, Bool.true_or, Bool.false_or, List.any_cons, List.any_nil, decide_eq_true_eq, eq_self] $[$l]?)
variable [TabC] [PkL]
def sp_is_part_box : dSp := spLook isBx
abbrev s_is_part_box : Stmt := topS 10
abbrev n_is_part_box : List Str := ["thing", "one"]
theorem sc_is_part_box : FnScope n_is_part_box ["thing"] (defScope s_is_part_box) := ⟨rfl, rfl, rfl, by decide +kernel, rfl, by decide +kernel, by decide +kernel⟩
def p_is_part_box_0 : dS := (dIfS (dOr (dNot (dB (dCB (rIsi "tuple") (dCons (dVar 0) (dCons (dC (.raw (.ty "tuple"))) dNil))))) (dB (dBin (rNe) (dCB rLen (dCons (dVar 0) dNil)) (dC (.int 4))))) (dRet (dC (.bl false))) dNext)
def p_is_part_box_1 : dS := (dIfS (dNot (dB (dCB rAllD (dCons (dFz (dLC (dSeqI (dVar 0)) (gN 1) dYes (dAndV (dCB (rIsi "int") (dCons (dVar 1) (dCons (dC (.raw (.ty "int"))) dNil))) (dNotV (dCB (rIsi "bool") (dCons (dVar 1) (dCons (dC (.raw (.ty "bool"))) dNil))))) [1])) dNil)))) (dRet (dC (.bl false))) dNext)
def p_is_part_box_2 : dS := (dRet (dAndV (dBin (rGt) (dBin rIxD (dVar 0) (dC (.int 2))) (dC (.int 0))) (dBin (rGt) (dBin rIxD (dVar 0) (dC (.int 3))) (dC (.int 0)))))
def b_is_part_box_2 : dS := p_is_part_box_2
def b_is_part_box_1 : dS := dSeq (p_is_part_box_1) (b_is_part_box_2)
def b_is_part_box_0 : dS := dSeq (p_is_part_box_0) (b_is_part_box_1)
def b_is_part_box : dS := b_is_part_box_0
theorem run_is_part_box {P : Program} {w : World} {K : PySem.W.Frag} {mg : Str → Option Value} {base : Heap} (m_all : mg "all" = none) (m_bool : mg "bool" = none) (m_int : mg "int" = none) (m_isinstance : mg "isinstance" = none) (m_len : mg "len" = none) (m_tuple : mg "tuple" = none) {f : Addr} (cdv : Value) (A : Around) (out : List Env) (s : Shared) (H : Hp) (E : XK) (g : A.guards = some []) (hrA : Room 0 (A.deeper (envOfC "is_part_box" (defScope s_is_part_box) s.heap.objs.size f cdv))) :
  DSs (cx0 P w K mg base n_is_part_box "is_part_box" (defScope s_is_part_box) f cdv A out s H E) E00 (defBody s_is_part_box) b_is_part_box := by
 have hgA : (A.deeper (envOfC "is_part_box" (defScope s_is_part_box) s.heap.objs.size f cdv)).guards = some [] := g
 have hun := hrA.un
 exact (dss_cons (t := p_is_part_box_0) (u := b_is_part_box_1) (ds_if ((dw_or (dt_not (dt_val (de_callB (cd_isi "tuple") (by rfl) m_isinstance (by decide +kernel) (da_cons (de_var (pv 0)) (da_cons (de_ty (n := "tuple") (by rfl) m_tuple (by decide +kernel)) da_nil))))) (dw_or1 (dt_cmp (od_ne (Nat.lt_of_le_of_lt (Nat.add_le_add_left (by decide) _) hun)) (de_callB (cd_len) (by rfl) m_len PySem.boot_len (da_cons (de_var (pv 0)) da_nil)) de_int (nomark _))))).dt (dss_one (ds_ret de_bl)) dss_nil)
  (dss_cons (t := p_is_part_box_1) (u := b_is_part_box_2) (ds_if (dt_not (dt_val (de_callB (cd_all rfl) (by rfl) m_all (by decide +kernel) (da_cons (de_fz (df_lc (E2 := E00) (own := [("one", 1)]) rfl sc_is_part_box.nd (di_seq (de_var (pv 0))) (blkOk_by (N := n_is_part_box) (sc := (defScope s_is_part_box)) (own := [("one", 1)]) (by decide +kernel)) (by decide) (fun _ _ _ _ _ => (dg_name (pg_name (i := 1) sc_is_part_box.nd rfl (by first | exact .inl rfl | exact .inr rfl)))) (fun _ _ _ _ _ => dts_nil) (fun _ _ _ _ _ => (de_and (de_callB (cd_isi "int") (by rfl) m_isinstance (by decide +kernel) (da_cons (de_var (pv 1)) (da_cons (de_ty (n := "int") (by rfl) m_int (by decide +kernel)) da_nil))) (de_one (de_not (de_callB (cd_isi "bool") (by rfl) m_isinstance (by decide +kernel) (da_cons (de_var (pv 1)) (da_cons (de_ty (n := "bool") (by rfl) m_bool (by decide +kernel)) da_nil))))))))) da_nil)))) (dss_one (ds_ret de_bl)) dss_nil)
  (dss_one (t := p_is_part_box_2) (ds_ret (de_and (de_cmp (od_gt) (de_ix (de_var (pv 0)) de_int (fun _ _ => rfl)) de_int (nomark _)) (de_one (de_cmp (od_gt) (de_ix (de_var (pv 0)) de_int (fun _ _ => rfl)) de_int (nomark _))))))))
theorem all_ok {ds : List D} {bs : List Bool} {Q : D → Prop} (e : blsOf ds = some bs) (q : Q (.bl (bs.all id))) : rAllD [.lst ds] Q := by
  unfold rAllD
  simp only [e]
  exact q
theorem isi_ok {d : D} {n t : String} {b : Bool} {Q : D → Prop} (h : d.ty = some t) (hk : kitB t n = some b) (q : Q (.bl b)) : Ev.rIsi n [d, .raw (.ty n)] Q := by
  refine ⟨rfl, ?_⟩
  rw [h]
  show optQ (kitB t n) _
  rw [hk]
  exact q
theorem quad_no {x y w h : D} (hn : ¬ (whole0 x = true ∧ whole0 y = true ∧ whole0 w = true ∧ whole0 h = true)) : quad x y w h = none := by
  unfold quad
  split
  · rename_i e1 e2 e3 e4
    rw [intO_some e1, intO_some e2, intO_some e3, intO_some e4] at hn
    exact absurd ⟨rfl, rfl, rfl, rfl⟩ hn
  · rfl
theorem rd_isi {δ : DS} {a : dE} {d : D} {n t : String} {b : Bool} (ha : RdE δ a d) (h : d.ty = some t) (hk : kitB t n = some b) : RdE δ (dCB (Ev.rIsi n) (dCons a (dCons (dC (.raw (.ty n))) dNil))) (.bl b) := fun Q q => by
  unfold dCB dCons dNil
  refine ha _ ?_
  exact isi_ok (Q := fun z => Q z δ) h hk q
theorem rd_and1 {δ : DS} {a b : dE} {v : D} (ha : RdE δ a (.bl true)) (hb : RdE δ b v) : RdE δ (dAndV a b) v := fun Q q => ha _ (hb _ q)
theorem rd_and0 {δ : DS} {a b : dE} (ha : RdE δ a (.bl false)) : RdE δ (dAndV a b) (.bl false) := fun Q q => ha _ q
theorem rd_not {δ : DS} {a : dE} {k : Bool} (ha : RdE δ a (.bl k)) : RdE δ (dNotV a) (.bl (!k)) := fun Q q => ha _ q
theorem rd_int {δ : DS} {a : dE} {d : D} (ha : RdE δ a d) (o : okN great d = true) : RdE δ (dAndV (dCB (Ev.rIsi "int") (dCons a (dCons (dC (.raw (.ty "int"))) dNil))) (dNotV (dCB (Ev.rIsi "bool") (dCons a (dCons (dC (.raw (.ty "bool"))) dNil))))) (.bl (whole0 d)) := by
  cases d with
  | int i => exact rd_and1 (rd_isi (t := "int") ha rfl (by decide +kernel)) (rd_not (k := false) (rd_isi (t := "int") ha rfl (by decide +kernel)))
  | bl i => exact rd_and1 (rd_isi (t := "bool") ha rfl (by decide +kernel)) (rd_not (k := true) (rd_isi (t := "bool") ha rfl (by decide +kernel)))
  | non => exact rd_and0 (rd_isi (t := "NoneType") ha rfl (by decide +kernel))
  | str s => exact rd_and0 (rd_isi (t := "str") ha rfl (by decide +kernel))
  | tup s => exact rd_and0 (rd_isi (t := "tuple") ha rfl (by decide +kernel))
  | lst s => exact rd_and0 (rd_isi (t := "list") ha rfl (by decide +kernel))
  | dT s => exact rd_and0 (rd_isi (t := "dict") ha rfl (by decide +kernel))
  | _ => cases o
theorem int_test {δ : DS} {j : Nat} {xs : List D} {w : dE} (hw0 : RdE δ w (.tup xs)) (hw : wipeD δ [j] = δ) (hs : ∀ x, (setSl δ j (.dat x)).sl[j]? = some (.dat x)) (hb : ∀ x, wipeD (setSl δ j (.dat x)) [j] = δ) (ok : ∀ x ∈ xs, okN great x = true) (hl : xs.length ≤ 1000000) :
    RdF δ (dLC (dSeqI w) (gN j) dYes (dAndV (dCB (rIsi "int") (dCons (dVar j) (dCons (dC (.raw (.ty "int"))) dNil))) (dNotV (dCB (rIsi "bool") (dCons (dVar j) (dCons (dC (.raw (.ty "bool"))) dNil))))) [j]) (xs.map fun x => .bl (whole0 x)) := fun Q q => by
  unfold dLC dSeqI
  refine hw0 _ ?_
  show wLC (gN j) dYes _ [j] Q xs [] (wipeD δ [j])
  have hxs : xs.map id = xs := List.map_id xs
  rw [hw, ← hxs]
  refine wLC_maps (l := xs) (ι := id) (f := fun x => .bl (whole0 x)) (fun x hx acc k hz g => ?_) (by rw [sizeLine_eq]; omega) q
  have hv : RdE (setSl δ j (.dat x)) (dVar j) x := rd_var (hs x)
  have fin : acc.length < sizeLine ∧ k (acc ++ [.bl (whole0 x)]) (wipeD (setSl δ j (.dat x)) [j]) := ⟨hz, by rw [hb]; exact g⟩
  have o := ok x hx
  refine rd_int hv o (fun y δ3 => acc.length < sizeLine ∧ k (acc ++ [y]) (wipeD δ3 [j])) fin
theorem hsp_is_part_box : ∀ ds p Q W, ds.length = 1 → sp_is_part_box ds p Q W → b_is_part_box W0 (endsD Q) (startD n_is_part_box.length ds p) := by
  rintro _ p Q W - ⟨d, rfl, ok, q⟩
  have no : ∀ xs : List D, xs.length ≠ 4 → Q (.bl false) p → b_is_part_box W0 (endsD Q) (startD n_is_part_box.length [.tup xs] p) := fun xs h q => by
    have h2 : ¬ ((xs.length : Nat) : Int) = 4 := by omega
    simp only [DSIMP, n_is_part_box, b_is_part_box, b_is_part_box_0, p_is_part_box_0, eq_false h2]
    exact q
  cases d with
  | non => simp only [DSIMP, n_is_part_box, b_is_part_box, b_is_part_box_0, p_is_part_box_0]; exact q
  | bl b => simp only [DSIMP, n_is_part_box, b_is_part_box, b_is_part_box_0, p_is_part_box_0]; exact q
  | int i => simp only [DSIMP, n_is_part_box, b_is_part_box, b_is_part_box_0, p_is_part_box_0]; exact q
  | str i => simp only [DSIMP, n_is_part_box, b_is_part_box, b_is_part_box_0, p_is_part_box_0]; exact q
  | lst i => simp only [DSIMP, n_is_part_box, b_is_part_box, b_is_part_box_0, p_is_part_box_0]; exact q
  | dT i => simp only [DSIMP, n_is_part_box, b_is_part_box, b_is_part_box_0, p_is_part_box_0]; exact q
  | tup xs =>
    rcases xs with _ | ⟨x, _ | ⟨y, _ | ⟨w, _ | ⟨h, _ | ⟨u, xs⟩⟩⟩⟩⟩
    · exact no _ (by simp) q
    · exact no _ (by simp) q
    · exact no _ (by simp) q
    · exact no _ (by simp) q
    · obtain ⟨o1, o2, o3, o4⟩ := ok4 ok
      have e4 : ((4 : Nat) : Int) = 4 := rfl
      have hw : [x, y, w, h] = [x, y, w, h].map id := rfl
      simp only [DSIMP, n_is_part_box, b_is_part_box, b_is_part_box_0, p_is_part_box_0, e4]
      have ok' : ∀ z ∈ [x, y, w, h], okN great z = true := by
        intro z hz
        simp only [List.mem_cons, List.not_mem_nil, or_false] at hz
        rcases hz with rfl | rfl | rfl | rfl <;> assumption
      show dSeq p_is_part_box_1 b_is_part_box_2 W0 (endsD Q) ⟨[.dat (.tup [x, y, w, h]), .un], p⟩
      have hX := int_test (δ := ⟨[.dat (.tup [x, y, w, h]), .un], p⟩) (j := 1) (xs := [x, y, w, h]) (w := dVar 0) (rd_var rfl) rfl (fun _ => rfl) (fun _ => rfl) ok' (by simp)
      unfold p_is_part_box_1
      generalize (dLC (dSeqI (dVar 0)) (gN 1) dYes (dAndV (dCB (rIsi "int") (dCons (dVar 1) (dCons (dC (.raw (.ty "int"))) dNil))) (dNotV (dCB (rIsi "bool") (dCons (dVar 1) (dCons (dC (.raw (.ty "bool"))) dNil))))) [1]) = X at hX ⊢
      unfold dSeq dIfS dNot dB dCB dCons dNil dFz
      refine hX _ ?_
      have e5 : blsOf ([x, y, w, h].map fun x => D.bl (whole0 x)) = some [whole0 x, whole0 y, whole0 w, whole0 h] := rfl
      refine all_ok e5 ?_
      by_cases hn : whole0 x = true ∧ whole0 y = true ∧ whole0 w = true ∧ whole0 h = true
      · obtain ⟨z1, z2, z3, z4⟩ := hn
        obtain ⟨i, j, k, l, rfl, rfl, rfl, rfl⟩ := all4 z1 z2 z3 z4
        have a2 : atI [D.int i, .int j, .int k, .int l] 2 = some (.int k) := rfl
        have a3 : atI [D.int i, .int j, .int k, .int l] 3 = some (.int l) := rfl
        have q : Q (.bl (if 0 < k ∧ 0 < l then some (⟨i, j, k, l⟩ : Bx) else none).isSome) p := q
        have q : Q (.bl (decide (0 < k) && decide (0 < l))) p := by
          by_cases c : 0 < k ∧ 0 < l
          · rw [if_pos c] at q; rw [decide_eq_true c.1, decide_eq_true c.2]; exact q
          · rw [if_neg c] at q
            have : (decide (0 < k) && decide (0 < l)) = false := by rw [← Bool.decide_and]; exact decide_eq_false c
            rw [this]; exact q
        show b_is_part_box_2 W0 (endsD Q) ⟨[.dat (.tup [.int i, .int j, .int k, .int l]), .un], p⟩
        simp only [DSIMP, b_is_part_box_2, p_is_part_box_2, b_is_part_box_2, a2, a3]
        generalize decide (0 < k) = b1 at q ⊢
        cases b1 <;> exact q
      · have q0 := quad_no hn
        have q : Q (.bl (quad x y w h).isSome) p := q
        rw [q0] at q
        have hf : [whole0 x, whole0 y, whole0 w, whole0 h].all id = false := by
          simp only [List.all_cons, List.all_nil, id, Bool.and_true]
          rw [← Bool.not_eq_true, Bool.and_eq_true, Bool.and_eq_true, Bool.and_eq_true]
          exact hn
        generalize [whole0 x, whole0 y, whole0 w, whole0 h] = L at hf
        rw [hf]
        exact q
    · exact no _ (by simp) q
  | _ => cases ok
theorem ok_is_part_box {P : Program} {w : World} {K : PySem.W.Frag} {mg : Str → Option Value} {base : Heap} (m_all : mg "all" = none) (m_bool : mg "bool" = none) (m_int : mg "int" = none) (m_isinstance : mg "isinstance" = none) (m_len : mg "len" = none) (m_tuple : mg "tuple" = none) {f : Addr} {fd : FuncData} (F : Fun K "is_part_box" "is_part_box" s_is_part_box f fd) : FnG P w K mg base CX0 1 f fd ["thing"] (spD K 1 sp_is_part_box) :=
 fn_d0 F sc_is_part_box rfl (fun cdv A out s H E g r => run_is_part_box m_all m_bool m_int m_isinstance m_len m_tuple cdv A out s H E g r) hsp_is_part_box
def sp_is_part : dSp := fun ds p Q _ => ∃ x, ds = [x] ∧ Bt x ∧ Q (.bl (partOk x)) p
abbrev s_is_part : Stmt := topS 9
abbrev n_is_part : List Str := ["thing", "one"]
theorem sc_is_part : FnScope n_is_part ["thing"] (defScope s_is_part) := ⟨rfl, rfl, rfl, by decide +kernel, rfl, by decide +kernel, by decide +kernel⟩
def p_is_part_0 : dS := (dIfS (dOr (dNot (dB (dCB (rIsi "tuple") (dCons (dVar 0) (dCons (dC (.raw (.ty "tuple"))) dNil))))) (dNot (dB (dCB rAllD (dCons (dFz (dLC (dSeqI (dVar 0)) (gN 1) dYes (dCallD 1 [] sp_is_part_box (dCons (dVar 1) dNil)) [1])) dNil))))) (dRet (dC (.bl false))) dNext)
def p_is_part_1 : dS := (dRet (dBin (rEq) (dVar 0) (dCallD 1 [] sp_part_of (dCons (dVar 0) dNil))))
def b_is_part_1 : dS := p_is_part_1
def b_is_part_0 : dS := dSeq (p_is_part_0) (b_is_part_1)
def b_is_part : dS := b_is_part_0
theorem run_is_part {P : Program} {w : World} {K : PySem.W.Frag} {mg : Str → Option Value} {base : Heap} (m_all : mg "all" = none) (m_isinstance : mg "isinstance" = none) (m_tuple : mg "tuple" = none) (K_is_part_box_1 : Def P w K mg base 1 "is_part_box" 1 sp_is_part_box []) (K_part_of_1 : Def P w K mg base 3 "part_of" 1 sp_part_of []) {f : Addr} (cdv : Value) (A : Around) (out : List Env) (s : Shared) (H : Hp) (E : XK) (g : A.guards = some []) (hrA : Room 3 (A.deeper (envOfC "is_part" (defScope s_is_part) s.heap.objs.size f cdv))) :
  DSs (cx0 P w K mg base n_is_part "is_part" (defScope s_is_part) f cdv A out s H E) E00 (defBody s_is_part) b_is_part := by
 have hgA : (A.deeper (envOfC "is_part" (defScope s_is_part) s.heap.objs.size f cdv)).guards = some [] := g
 have hun := hrA.un
 exact (dss_cons (t := p_is_part_0) (u := b_is_part_1) (ds_if ((dw_or (dt_not (dt_val (de_callB (cd_isi "tuple") (by rfl) m_isinstance (by decide +kernel) (da_cons (de_var (pv 0)) (da_cons (de_ty (n := "tuple") (by rfl) m_tuple (by decide +kernel)) da_nil))))) (dw_or1 (dt_not (dt_val (de_callB (cd_all rfl) (by rfl) m_all (by decide +kernel) (da_cons (de_fz (df_lc (E2 := E00) (own := [("one", 1)]) rfl sc_is_part.nd (di_seq (de_var (pv 0))) (blkOk_by (N := n_is_part) (sc := (defScope s_is_part)) (own := [("one", 1)]) (by decide +kernel)) (by decide) (fun _ _ _ _ _ => (dg_name (pg_name (i := 1) sc_is_part.nd rfl (by first | exact .inl rfl | exact .inr rfl)))) (fun _ _ _ _ _ => dts_nil) (fun _ _ _ _ _ => (de_callD K_is_part_box_1 hgA hrA (by rfl) (da_cons (de_var (pv 1)) da_nil))))) da_nil))))))).dt (dss_one (ds_ret de_bl)) dss_nil)
  (dss_one (t := p_is_part_1) (ds_ret (de_cmp (od_eq (Nat.lt_of_le_of_lt (Nat.add_le_add_left (by decide) _) hun)) (de_var (pv 0)) (de_callD K_part_of_1 hgA hrA (by rfl) (da_cons (de_var (pv 0)) da_nil)) (nomark _)))))
theorem hsp_is_part : ∀ ds p Q W, ds.length = 1 → sp_is_part ds p Q W → b_is_part W0 (endsD Q) (startD n_is_part.length ds p) := by
  rintro _ p Q W - ⟨d, rfl, t, q⟩
  have ok := t.ok
  cases d with
  | non => simp only [DSIMP, n_is_part, b_is_part, b_is_part_0, p_is_part_0]; exact q
  | bl b => simp only [DSIMP, n_is_part, b_is_part, b_is_part_0, p_is_part_0]; exact q
  | int i => simp only [DSIMP, n_is_part, b_is_part, b_is_part_0, p_is_part_0]; exact q
  | str i => simp only [DSIMP, n_is_part, b_is_part, b_is_part_0, p_is_part_0]; exact q
  | lst i => simp only [DSIMP, n_is_part, b_is_part, b_is_part_0, p_is_part_0]; exact q
  | dT i => simp only [DSIMP, n_is_part, b_is_part, b_is_part_0, p_is_part_0]; exact q
  | tup xs =>
    have oks : ∀ x ∈ xs, okN great x = true := okNs_iff.mp ok
    have ln := t.ln xs rfl
    have bx : (boxesO xs = none → Q (.bl false) p) ∧ (∀ bs, boxesO xs = some bs → Q (.bl (@decide (Can bs) (Classical.propDecidable _))) p) :=
      ⟨fun h => by rw [partOk_none h] at q; exact q, fun bs h => by rw [partOk_some h] at q; exact q⟩
    simp only [DSIMP, n_is_part, b_is_part, b_is_part_0, p_is_part_0, sp_is_part_box]
    have hxs : xs = xs.map id := (List.map_id xs).symm
    have core : ∀ δ : DS, δ = ⟨[.dat (.tup xs), .un], p⟩ → ∀ K : List D → DS → Prop, K (xs.map fun d => .bl (isBx d)) δ → wLC (gN 1) dYes (dCallD 1 [] sp_is_part_box (dCons (dVar 1) dNil)) [1] K xs [] δ := fun δ e K k => by
      subst e
      conv => arg 6; rw [hxs]
      refine wLC_maps (l := xs) (ι := id) (f := fun d => .bl (isBx d)) (fun x hx acc k hz g => ?_) (by rw [sizeLine_eq]; omega) k
      simp only [DSIMP, sp_is_part_box]
      exact ⟨x, rfl, oks x hx, hz, g⟩
    refine core _ rfl _ (all_ok (bls_maps xs isBx) ?_)
    simp only [List.all_map]
    cases hb : boxesO xs with
    | none =>
      obtain ⟨pre, e, post, e1, e2, _⟩ := boxesO_none hb
      have hf : xs.all (id ∘ isBx) = false := by
        rw [List.all_eq_false]
        exact ⟨e, by rw [e1]; simp, by show ¬ isBx e = true; unfold isBx; rw [e2]; decide⟩
      rw [hf]
      exact bx.1 hb
    | some bs =>
      obtain ⟨e1, e2, e3⟩ := boxesO_some hb
      have ht : xs.all (id ∘ isBx) = true := List.all_eq_true.mpr e3
      have w := t.win hb
      have qq := bx.2 bs hb
      clear bx
      rw [ht]
      have lb : bs.length ≤ 2000 := by rw [e1, List.length_map] at ln; exact ln
      subst e1
      simp only [DSIMP, b_is_part_1, p_is_part_1, b_is_part_1, sp_part_of]
      refine ⟨_, bs, -1300, -1300, rfl, .inr rfl, by omega, w, fun r c1 c2 _ _ => ⟨⟨lay_bxs bs, dep_bxs63 bs⟩, cm_part r, ?_⟩⟩
      have e4 : D.eq (.tup (bs.map bxD)) (partD r) = decide (bs = r) := eq_part bs r
      rw [e4]
      have e5 : decide (bs = r) = @decide (Can bs) (Classical.propDecidable _) := by
        by_cases c : Can bs
        · rw [@decide_eq_true _ (Classical.propDecidable _) c]
          exact decide_eq_true (can_eq c c1 fun x y => (c2 x y).symm)
        · rw [@decide_eq_false _ (Classical.propDecidable _) c]
          exact decide_eq_false fun z => c (by rw [z]; exact c1)
      rw [e5]
      exact qq
  | _ => cases ok
theorem ok_is_part {P : Program} {w : World} {K : PySem.W.Frag} {mg : Str → Option Value} {base : Heap} (m_all : mg "all" = none) (m_isinstance : mg "isinstance" = none) (m_tuple : mg "tuple" = none) (K_is_part_box_1 : Def P w K mg base 1 "is_part_box" 1 sp_is_part_box []) (K_part_of_1 : Def P w K mg base 3 "part_of" 1 sp_part_of []) {f : Addr} {fd : FuncData} (F : Fun K "is_part" "is_part" s_is_part f fd) : FnG P w K mg base CX0 4 f fd ["thing"] (spD K 1 sp_is_part) :=
 fn_d0 F sc_is_part rfl (fun cdv A out s H E g r => run_is_part m_all m_isinstance m_tuple K_is_part_box_1 K_part_of_1 cdv A out s H E g r) hsp_is_part
def sp__law_is_part : dSp := fun ds p Q _ => ∃ x, ds = [x] ∧ Bt x ∧ Q (.bl (partOk x)) p
abbrev s__law_is_part : Stmt := topS 26
abbrev n__law_is_part : List Str := ["_law_some", "_law_one", "_law_part"]
theorem sc__law_is_part : FnScope n__law_is_part ["_law_some"] (defScope s__law_is_part) := ⟨rfl, rfl, rfl, by decide +kernel, rfl, by decide +kernel, by decide +kernel⟩
def p__law_is_part_x2_0 : dS := (dIfS (dOr (dNot (dB (dCB (rIsi "tuple") (dCons (dVar 1) (dCons (dC (.raw (.ty "tuple"))) dNil))))) (dOr (dB (dBin (rNe) (dCB rLen (dCons (dVar 1) dNil)) (dC (.int 4)))) (dB (dBin (rEL true) (dFz (dLC (dSeqI (dVar 1)) (gN 2) (dNot (dB (dCallD 1 [] sp__law_whole (dCons (dVar 2) dNil)))) (dVar 2) [2])) (dFz (dLst dNil)))))) (dRet (dC (.bl false))) dNext)
def p__law_is_part_x2_1 : dS := (dIfS (dOr (dB (dBin (rLt) (dBin rIxD (dVar 1) (dC (.int 2))) (dC (.int 1)))) (dOr (dB (dBin (rLt) (dBin rIxD (dVar 1) (dC (.int 3))) (dC (.int 1)))) (dB (dBin (rGt) (dBin rMulI (dBin rIxD (dVar 1) (dC (.int 2))) (dBin rIxD (dVar 1) (dC (.int 3)))) (dC (.int 9999)))))) (dRet (dC (.bl false))) dNext)
def b__law_is_part_x2_1 : dS := p__law_is_part_x2_1
def b__law_is_part_x2_0 : dS := dSeq (p__law_is_part_x2_0) (b__law_is_part_x2_1)
def p__law_is_part_0 : dS := (dIfS (dNot (dB (dCB (rIsi "tuple") (dCons (dVar 0) (dCons (dC (.raw (.ty "tuple"))) dNil))))) (dRet (dC (.bl false))) dNext)
def p__law_is_part_1 : dS := (dFor (dSeqI (dVar 0)) (gN 1) b__law_is_part_x2_0)
def p__law_is_part_2 : dS := (dRet (dBin (rEq) (dVar 0) (dCallD 1 [] sp__law_told (dCons (dCallD 1 [] sp__law_spots (dCons (dVar 0) dNil)) dNil))))
def b__law_is_part_2 : dS := p__law_is_part_2
def b__law_is_part_1 : dS := dSeq (p__law_is_part_1) (b__law_is_part_2)
def b__law_is_part_0 : dS := dSeq (p__law_is_part_0) (b__law_is_part_1)
def b__law_is_part : dS := b__law_is_part_0
theorem run__law_is_part {P : Program} {w : World} {K : PySem.W.Frag} {mg : Str → Option Value} {base : Heap} (m_isinstance : mg "isinstance" = none) (m_len : mg "len" = none) (m_tuple : mg "tuple" = none) (K__law_spots_1 : Def P w K mg base 1 "_law_spots" 1 sp__law_spots []) (K__law_told_1 : Def P w K mg base 2 "_law_told" 1 sp__law_told []) (K__law_whole_1 : Def P w K mg base 1 "_law_whole" 1 sp__law_whole []) {f : Addr} (cdv : Value) (A : Around) (out : List Env) (s : Shared) (H : Hp) (E : XK) (g : A.guards = some []) (hrA : Room 2 (A.deeper (envOfC "_law_is_part" (defScope s__law_is_part) s.heap.objs.size f cdv))) :
  DSs (cx0 P w K mg base n__law_is_part "_law_is_part" (defScope s__law_is_part) f cdv A out s H E) E00 (defBody s__law_is_part) b__law_is_part := by
 have hgA : (A.deeper (envOfC "_law_is_part" (defScope s__law_is_part) s.heap.objs.size f cdv)).guards = some [] := g
 have hun := hrA.un
 exact (dss_cons (t := p__law_is_part_0) (u := b__law_is_part_1) (ds_if (dt_not (dt_val (de_callB (cd_isi "tuple") (by rfl) m_isinstance (by decide +kernel) (da_cons (de_var (pv 0)) (da_cons (de_ty (n := "tuple") (by rfl) m_tuple (by decide +kernel)) da_nil))))) (dss_one (ds_ret de_bl)) dss_nil)
  (dss_cons (t := p__law_is_part_1) (u := b__law_is_part_2) (ds_for PassesOwn.never rfl (di_seq (de_var (pv 0))) (dg_name (pg_name (i := 1) sc__law_is_part.nd rfl (by first | exact .inl rfl | exact .inr rfl))) (dss_cons (t := p__law_is_part_x2_0) (u := b__law_is_part_x2_1) (ds_if ((dw_or (dt_not (dt_val (de_callB (cd_isi "tuple") (by rfl) m_isinstance (by decide +kernel) (da_cons (de_var (pv 1)) (da_cons (de_ty (n := "tuple") (by rfl) m_tuple (by decide +kernel)) da_nil))))) (dw_or (dt_cmp (od_ne (Nat.lt_of_le_of_lt (Nat.add_le_add_left (by decide) _) hun)) (de_callB (cd_len) (by rfl) m_len PySem.boot_len (da_cons (de_var (pv 1)) da_nil)) de_int (nomark _)) (dw_or1 (dt_cmp (od_neL (Nat.lt_of_le_of_lt (Nat.le_add_right _ _) hun)) (de_fz (df_lc (E2 := E00) (own := [("_law_part", 2)]) rfl sc__law_is_part.nd (di_seq (de_var (pv 1))) (blkOk_by (N := n__law_is_part) (sc := (defScope s__law_is_part)) (own := [("_law_part", 2)]) (by decide +kernel)) (by decide) (fun _ _ _ _ _ => (dg_name (pg_name (i := 2) sc__law_is_part.nd rfl (by first | exact .inl rfl | exact .inr rfl)))) (fun _ _ _ _ _ => (dts_one (dt_not (dt_val (de_callD K__law_whole_1 hgA hrA (by rfl) (da_cons (de_var (pv 2)) da_nil)))))) (fun _ _ _ _ _ => (de_var (pv 2))))) (de_fz (df_lst da_nil)) (nomark _)))))).dt (dss_one (ds_ret de_bl)) dss_nil)
  (dss_one (t := p__law_is_part_x2_1) (ds_if ((dw_or (dt_cmp (od_lt) (de_ix (de_var (pv 1)) de_int (fun _ _ => rfl)) de_int (nomark _)) (dw_or (dt_cmp (od_lt) (de_ix (de_var (pv 1)) de_int (fun _ _ => rfl)) de_int (nomark _)) (dw_or1 (dt_cmp (od_gt) (de_op od_mul (de_ix (de_var (pv 1)) de_int (fun _ _ => rfl)) (de_ix (de_var (pv 1)) de_int (fun _ _ => rfl))) de_int (nomark _)))))).dt (dss_one (ds_ret de_bl)) dss_nil))))
  (dss_one (t := p__law_is_part_2) (ds_ret (de_cmp (od_eq (Nat.lt_of_le_of_lt (Nat.add_le_add_left (by decide) _) hun)) (de_var (pv 0)) (de_callD K__law_told_1 hgA hrA (by rfl) (da_cons (de_callD K__law_spots_1 hgA hrA (by rfl) (da_cons (de_var (pv 0)) da_nil)) da_nil)) (nomark _))))))
theorem lpart_loop {N : dEnds} {s0 : Sl} {p : Pen} {Q : D → Pen → Prop} (hr : N.rt = fun x δ => Q x δ.pen) : ∀ (xs : List D) (s1 : Sl), (∀ x ∈ xs, okN great x = true) → (∀ d ∈ xs, ∀ b, boxO d = some b → Bnd b) → (∀ s1, xs.all isBx = true → N.nx ⟨[s0, s1, .un], p⟩) → (xs.all isBx = false → Q (.bl false) p) →
    wFor (gN 1) b__law_is_part_x2_0 W0 N xs ⟨[s0, s1, .un], p⟩
  | [], s1, _, _, h1, _ => h1 s1 rfl
  | d :: xs, s1, ok, el, h1, h2 => by
    have o := ok d List.mem_cons_self
    have go : isBx d = true → ∀ k, k = wFor (gN 1) b__law_is_part_x2_0 W0 N xs → k ⟨[s0, .dat d, .un], p⟩ := fun hb k hk => by
      rw [hk]
      exact lpart_loop hr xs (.dat d) (fun x hx => ok x (List.mem_cons_of_mem _ hx)) (fun x hx => el x (List.mem_cons_of_mem _ hx)) (fun s h => h1 s (by rw [List.all_cons, hb, h]; rfl)) fun h => h2 (by rw [List.all_cons, hb, h]; rfl)
    have no : isBx d = false → Q (.bl false) p := fun hb => h2 (by rw [List.all_cons, hb]; rfl)
    rw [wFor]
    generalize wFor (gN 1) b__law_is_part_x2_0 W0 N xs = kk at go
    have short : ∀ ys : List D, d = .tup ys → ys.length ≠ 4 → isBx d = false := fun ys e h => by
      subst e
      rcases ys with _ | ⟨x, _ | ⟨y, _ | ⟨w, _ | ⟨h', _ | ⟨u, xs⟩⟩⟩⟩⟩
      · rfl
      · rfl
      · rfl
      · rfl
      · exact absurd rfl h
      · rfl
    cases d with
    | non => simp only [DSIMP, b__law_is_part_x2_0, p__law_is_part_x2_0, hr]; exact no rfl
    | bl b => simp only [DSIMP, b__law_is_part_x2_0, p__law_is_part_x2_0, hr]; exact no rfl
    | int i => simp only [DSIMP, b__law_is_part_x2_0, p__law_is_part_x2_0, hr]; exact no rfl
    | str i => simp only [DSIMP, b__law_is_part_x2_0, p__law_is_part_x2_0, hr]; exact no rfl
    | lst i => simp only [DSIMP, b__law_is_part_x2_0, p__law_is_part_x2_0, hr]; exact no rfl
    | dT i => simp only [DSIMP, b__law_is_part_x2_0, p__law_is_part_x2_0, hr]; exact no rfl
    | tup ys =>
      by_cases h4 : ys.length = 4
      · obtain ⟨x, y, w, h, rfl⟩ : ∃ x y w h, ys = [x, y, w, h] := by
          rcases ys with _ | ⟨x, _ | ⟨y, _ | ⟨w, _ | ⟨h', _ | ⟨u, xs⟩⟩⟩⟩⟩ <;> simp at h4
          exact ⟨x, y, w, h', rfl⟩
        obtain ⟨o1, o2, o3, o4⟩ := ok4 o
        have e4 : ((4 : Nat) : Int) = 4 := rfl
        have ok' : ∀ z ∈ [x, y, w, h], okN great z = true := by
          intro z hz
          simp only [List.mem_cons, List.not_mem_nil, or_false] at hz
          rcases hz with rfl | rfl | rfl | rfl <;> assumption
        have hX := rd_notw (δ := ⟨[s0, .dat (.tup [x, y, w, h]), .un], p⟩) (i := 1) (j := 2) (xs := [x, y, w, h]) rfl rfl (fun _ => rfl) (fun _ => rfl) ok' (by simp)
        obtain ⟨m, hn⟩ : ∃ m, ([x, y, w, h].any fun x => !whole0 x) = m := ⟨_, rfl⟩
        rw [hn] at hX
        unfold b__law_is_part_x2_0 p__law_is_part_x2_0
        generalize (dBin (rEL true) (dFz (dLC (dSeqI (dVar 1)) (gN 2) (dNot (dB (dCallD 1 [] sp__law_whole (dCons (dVar 2) dNil)))) (dVar 2) [2])) (dFz (dLst dNil))) = X at hX ⊢
        simp only [DSIMP, e4]
        refine hX _ ?_
        simp only [List.any_cons, List.any_nil, Bool.or_false] at hn
        cases m with
        | true =>
          simp only [hr]
          refine no ?_
          show (quad x y w h).isSome = false
          rw [quad_no fun z => by rw [z.1, z.2.1, z.2.2.1, z.2.2.2] at hn; cases hn]
          rfl
        | false =>
          simp only [Bool.or_eq_false_iff, Bool.not_eq_false'] at hn
          obtain ⟨z1, z2, z3, z4⟩ := hn
          obtain ⟨i, j, k, l, rfl, rfl, rfl, rfl⟩ := all4 z1 z2 z3 z4
          have a2 : atI [D.int i, .int j, .int k, .int l] 2 = some (.int k) := rfl
          have a3 : atI [D.int i, .int j, .int k, .int l] 3 = some (.int l) := rfl
          simp only [DSIMP, b__law_is_part_x2_1, p__law_is_part_x2_1, b__law_is_part_x2_1, a2, a3]
          have qd : quad (.int i) (.int j) (.int k) (.int l) = if 0 < k ∧ 0 < l then some ⟨i, j, k, l⟩ else none := rfl
          by_cases ck : k < 1
          · rw [decide_eq_true ck]
            rw [hr]
            refine no ?_
            show (quad (.int i) (.int j) (.int k) (.int l)).isSome = false
            rw [qd, if_neg (by omega)]
            rfl
          · by_cases cl : l < 1
            · rw [decide_eq_false ck, decide_eq_true cl]
              rw [hr]
              refine no ?_
              show (quad (.int i) (.int j) (.int k) (.int l)).isSome = false
              rw [qd, if_neg (by omega)]
              rfl
            · have hq : quad (.int i) (.int j) (.int k) (.int l) = some ⟨i, j, k, l⟩ := by rw [qd, if_pos (by omega)]
              have bn := el _ List.mem_cons_self ⟨i, j, k, l⟩ hq
              have b1 : k ≤ 5000 := bn.w
              have b2 : l ≤ 5000 := bn.h
              have b3 : k * l ≤ 9999 := bn.a
              have b4 : ¬ 9999 < k * l := by omega
              rw [decide_eq_false ck, decide_eq_false cl, decide_eq_false b4]
              refine ⟨?_, go (by show (quad (.int i) (.int j) (.int k) (.int l)).isSome = true; rw [hq]; rfl) _ rfl⟩
              exact .inl ⟨by omega, by omega⟩
      · have h5 : ¬ ((ys.length : Nat) : Int) = 4 := by omega
        simp only [DSIMP, b__law_is_part_x2_0, p__law_is_part_x2_0, eq_false h5, hr]
        exact no (short ys rfl h4)
    | _ => cases o
theorem hsp__law_is_part : ∀ ds p Q W, ds.length = 1 → sp__law_is_part ds p Q W → b__law_is_part W0 (endsD Q) (startD n__law_is_part.length ds p) := by
  rintro _ p Q W - ⟨d, rfl, t, q⟩
  have ok := t.ok
  cases d with
  | non => simp only [DSIMP, n__law_is_part, b__law_is_part, b__law_is_part_0, p__law_is_part_0]; exact q
  | bl b => simp only [DSIMP, n__law_is_part, b__law_is_part, b__law_is_part_0, p__law_is_part_0]; exact q
  | int i => simp only [DSIMP, n__law_is_part, b__law_is_part, b__law_is_part_0, p__law_is_part_0]; exact q
  | str i => simp only [DSIMP, n__law_is_part, b__law_is_part, b__law_is_part_0, p__law_is_part_0]; exact q
  | lst i => simp only [DSIMP, n__law_is_part, b__law_is_part, b__law_is_part_0, p__law_is_part_0]; exact q
  | dT i => simp only [DSIMP, n__law_is_part, b__law_is_part, b__law_is_part_0, p__law_is_part_0]; exact q
  | tup xs =>
    have oks : ∀ x ∈ xs, okN great x = true := okNs_iff.mp ok
    have ln := t.ln xs rfl
    have bx : (boxesO xs = none → Q (.bl false) p) ∧ (∀ bs, boxesO xs = some bs → Q (.bl (@decide (Can bs) (Classical.propDecidable _))) p) :=
      ⟨fun h => by rw [partOk_none h] at q; exact q, fun bs h => by rw [partOk_some h] at q; exact q⟩
    simp only [DSIMP, n__law_is_part, b__law_is_part, b__law_is_part_0, p__law_is_part_0, b__law_is_part_1, p__law_is_part_1]
    refine lpart_loop (Q := Q) rfl xs _ oks (t.el xs rfl) (fun s1 ha => ?_) (fun ha => ?_)
    · cases hb : boxesO xs with
      | none =>
        obtain ⟨pre, e, post, e1, e2, _⟩ := boxesO_none hb
        have := List.all_eq_true.mp ha e (by rw [e1]; simp)
        unfold isBx at this
        rw [e2] at this
        cases this
      | some bs =>
        obtain ⟨e1, e2, e3⟩ := boxesO_some hb
        have w := t.win hb
        have ar := t.ar xs rfl bs hb
        have qq := bx.2 bs hb
        clear bx
        have lb : bs.length ≤ 2000 := by rw [e1, List.length_map] at ln; exact ln
        have dim : ∀ b ∈ bs, (0 < b.w ∧ b.w ≤ 10000) ∧ 0 < b.h ∧ b.h ≤ 10000 := fun b hb' => by
          have := w b hb'
          omega
        subst e1
        simp only [DSIMP, b__law_is_part_2, p__law_is_part_2, b__law_is_part_2, sp__law_spots]
        refine ⟨_, bs, rfl, .inr rfl, by omega, dim, ar, fun L nd hL ll => ?_⟩
        simp only [DSIMP, sp__law_told]
        refine ⟨_, L, -1300, -1300, rfl, by show some (keyD (spotsD L)) = _; rw [key_spots], nd, by omega, fun s hs => w.spot ((hL s).mp hs), fun r c1 c2 _ _ => ⟨⟨lay_bxs bs, dep_bxs63 bs⟩, cm_part r, ?_⟩⟩
        have e4 : D.eq (.tup (bs.map bxD)) (partD r) = decide (bs = r) := eq_part bs r
        rw [e4]
        have e5 : decide (bs = r) = @decide (Can bs) (Classical.propDecidable _) := by
          by_cases c : Can bs
          · rw [@decide_eq_true _ (Classical.propDecidable _) c]
            exact decide_eq_true (can_eq c c1 fun x y => by rw [c2]; apply bool_ext; rw [decide_eq_true_eq, hL])
          · rw [@decide_eq_false _ (Classical.propDecidable _) c]
            exact decide_eq_false fun z => c (by rw [z]; exact c1)
        rw [e5]
        exact qq
    · cases hb : boxesO xs with
      | none => exact bx.1 hb
      | some bs =>
        obtain ⟨e1, e2, e3⟩ := boxesO_some hb
        rw [List.all_eq_true.mpr e3] at ha
        cases ha
  | _ => cases ok
theorem ok__law_is_part {P : Program} {w : World} {K : PySem.W.Frag} {mg : Str → Option Value} {base : Heap} (m_isinstance : mg "isinstance" = none) (m_len : mg "len" = none) (m_tuple : mg "tuple" = none) (K__law_spots_1 : Def P w K mg base 1 "_law_spots" 1 sp__law_spots []) (K__law_told_1 : Def P w K mg base 2 "_law_told" 1 sp__law_told []) (K__law_whole_1 : Def P w K mg base 1 "_law_whole" 1 sp__law_whole []) {f : Addr} {fd : FuncData} (F : Fun K "_law_is_part" "_law_is_part" s__law_is_part f fd) : FnG P w K mg base CX0 3 f fd ["_law_some"] (spD K 1 sp__law_is_part) :=
 fn_d0 F sc__law_is_part rfl (fun cdv A out s H E g r => run__law_is_part m_isinstance m_len m_tuple K__law_spots_1 K__law_told_1 K__law_whole_1 cdv A out s H E g r) hsp__law_is_part
end Ev01
namespace Ev01
open PySem PySem.Spec PyProof.Rows L2 Ev Pt
local macro_rules
  | `(tactic| simp only [DSIMP, $as,*] $[$l:location]?) => `(tactic| simp only [dMk1, dMk0, rIsSK, rTupleK, rAddK, rNeE, rEL, List.isEmpty_nil, List.isEmpty_cons, gIx, rIsA, rIsS, kitS, kitS.optQB, D.cls, dHGet, dHPut, dBornK, penK_cells, penK_at, penK_left, penK_pat, penK_pleft, penK_len, ex_hpK, dOwnGet2, ownKs, dKpL, dNewKd, dKpLk, rDictPTf, dRaise1, dRaise0, excD, dTry, wTry, Ev.rIsE, Ev.rIsEt, D.xcN, dFldE, dCallVX, WP, exS_tab, dTakeN, dIxN, dKpNew, dKpPut, dKpIns, dKpApp, dKpFz, dRoK, dRoL, dNewK1, dIns, roK, dZipM, dNGet, dNPut, dNewN, isNo, Ev.nGet, Ev.nPut, D.nkey, dOrX, truD, rDictX, dTupN, dSlN, rAddN, rSrtN, rTupleN, rDictN, dSlX, dRevX, dLenSetN, dEmptyV, rLtX, rMulX, Ev.rReprX, dPenS, gStarDL, dAug, dIndexE, dZipS, dGcIn, dGbIx, dGdIn, dGdIx, dListRg, rDictPf, dZipL, dListKo, dEmptyT, dDispT1, dNeE, rListA, rDictPT, rIsTF, dGroup, rSrtA, rLenA, dInV, dIxV, dCount, dSortKo, dCallR, adD, gL, dDN, dLN, wNest, bNest, bEl, bEd, dZip, seqOf, dSortDK, dCallV, dCallLam, optQ, dEnum, D.nf, D.nfs, Ev.rSumD, dLock, dKeysI, gStarD, dReverse, dMove, dDGet2, getD2, D.isD, dDisp, dPairs, keysD, Ev.rMaxD, Ev.rMinD, rDictP, Option.getD_some, Option.getD_none, Ev.D.eq_refl, dPen1, dLenSet, dSrtR, dRo, dRoF, dRoT, roD, ro_un, ro_dat, ro_own, ro_hp, ro_law, ro_ownK, ro_ownT, List.forall_mem_map, flat_int, flat_str, flat_bl, flat_non, solid_int, solid_str, solid_bl, solid_non, solid_tup, solids_nil, solids_cons, dSeq, dNext, dSet, dSetF, setSl, dVar, dTake, dC, dBin, dBinF, dB, dIfS, dIf, dRet, dRetN, dExpr, dNil, dCons, dTup, dLst, dFz, dAnd, dOr, dNot, dAndV, dOrV, dNotV, dCallD, dCallK, dCB, dCBF, dFor, dLC, dYes, dRng1, dRng2, dSeqI, gN, gT, gsNil, gsCons, dAsg, dNeg, dJoin, dFs, dJs, dFmt, dApp, dExt, dPop, dPopAt, dOwnIx, dOwnCB, dOwnL, dOwnR, dOwnSl, dSetIx, dSlT, dSlL, oNone, oSome, dBorn, optQ, ownAt, setOwnAt, lookAt, wipeD, dNewDT, dNewDK, dDGet, dDIn, dDPut, dSortT, rSrt, isDict, Ev.dictGet, Ev.dictPut, Option.isSome_none, Option.isSome_some, D.keyT, keysOf, D.key, exists_eq_left', exists_eq_left, Option.isSome, rRepL, rCatL, dRetF, dIfF, dPar, dRetOwn, dCallL, dCallLK, dPen2, dRev, dRevI, dIndex, endsL, startL, dNever, dBrk, dCnt, rAddD, rSubI, rIO, rMulI, rDivI, rModI, rPowI, rCI, Ev.rIxD, rIsN, rNotN, D.isN, Ev.rLen, rTuple, rList, rAbs, rInt, rStr, Ev.rRepr, Ev.rIsi, D.ty, kit_tab, startD, endsD, List.map_cons, List.map_nil, List.length_cons, List.length_nil, List.append_nil, List.nil_append, List.cons_append, List.getElem?_cons_zero, List.getElem?_cons_succ, List.getElem?_nil, List.set_cons_zero, List.set_cons_succ, List.replicate, List.replicate_succ, Nat.zero_add, Nat.zero_le, sizeLine, true_and, and_true, if_true, Ev.eq_int, Ev.eq_str, Ev.eq_bl, Ev.eq_non, lst_nil, tup_nil, List.map_eq_nil_iff, txt_join, rLt, rLe, rGt, rGe, atI_ofNat, atI_last, wLC, strsOf, intsOf, blsOf, Option.map_some, Ev.join_two, Ev.join_one, Ev.join_nil, List.sum_cons, List.sum_nil, PySem.Str.empty_append, ixN_ofNat, Option.some.injEq, exists_eq', List.length_map, decide_true, decide_false, Bool.not_true, Bool.not_false, Bool.true_eq_false, Bool.false_eq_true, false_and, and_false, if_false, ite_true, ite_false, Nat.reduceAdd, Nat.reduceSub, Nat.reduceMul, Nat.reduceLT, Nat.reduceLeDiff, Nat.reduceEqDiff, Nat.reducePow, Int.reduceToNat, Int.reducePow, pickL, List.filterMap_cons, List.filterMap_nil, and_self, Int.reduceLT, Int.reduceLE, Int.reduceNeg, Int.reduceAdd, Int.reduceMul, Int.reduceSub, Int.reduceEq, reduceIte, reduceCtorEq, lit_eq, String.reduceEq, Ev.rEq, Ev.rNe, Ev.rInD, cut_toN, cut_fromN, List.map_take, List.forall_mem_cons, List.forall_mem_nil, List.not_mem_nil, false_imp_iff, implies_true, forall_const, D.cm, D.lay, D.lays, D.dep, D.deps, strOk_lit, lays_ints, deps_ints, Nat.max_self, Nat.max_zero, Nat.zero_max, Bool.and_self, Bool.true_and, Bool.and_true, Bool.and_false, Bool.false_and, Bool.or_false, Bool.or_true, Bool.true_or, Bool.false_or, List.any_cons, List.any_nil, decide_eq_true_eq, eq_self, $as,*] $[$l]?)
  | `(tactic| simp only [DSIMP] $[$l:location]?) => `(tactic| simp only [dMk1, dMk0, rIsSK, rTupleK, rAddK, rNeE, rEL, List.isEmpty_nil, List.isEmpty_cons, gIx, rIsA, rIsS, kitS, kitS.optQB, D.cls, dHGet, dHPut, dBornK, penK_cells, penK_at, penK_left, penK_pat, penK_pleft, penK_len, ex_hpK, dOwnGet2, ownKs, dKpL, dNewKd, dKpLk, rDictPTf, dRaise1, dRaise0, excD, dTry, wTry, Ev.rIsE, Ev.rIsEt, D.xcN, dFldE, dCallVX, WP, exS_tab, dTakeN, dIxN, dKpNew, dKpPut, dKpIns, dKpApp, dKpFz, dRoK, dRoL, dNewK1, dIns, roK, dZipM, dNGet, dNPut, dNewN, isNo, Ev.nGet, Ev.nPut, D.nkey, dOrX, truD, rDictX, dTupN, dSlN, rAddN, rSrtN, rTupleN, rDictN, dSlX, dRevX, dLenSetN, dEmptyV, rLtX, rMulX, Ev.rReprX, dPenS, gStarDL, dAug, dIndexE, dZipS, dGcIn, dGbIx, dGdIn, dGdIx, dListRg, rDictPf, dZipL, dListKo, dEmptyT, dDispT1, dNeE, rListA, rDictPT, rIsTF, dGroup, rSrtA, rLenA, dInV, dIxV, dCount, dSortKo, dCallR, adD, gL, dDN, dLN, wNest, bNest, bEl, bEd, dZip, seqOf, dSortDK, dCallV, dCallLam, optQ, dEnum, D.nf, D.nfs, Ev.rSumD, dLock, dKeysI, gStarD, dReverse, dMove, dDGet2, getD2, D.isD, dDisp, dPairs, keysD, Ev.rMaxD, Ev.rMinD, rDictP, Option.getD_some, Option.getD_none, Ev.D.eq_refl, dPen1, dLenSet, dSrtR, dRo, dRoF, dRoT, roD, ro_un, ro_dat, ro_own, ro_hp, ro_law, ro_ownK, ro_ownT, List.forall_mem_map, flat_int, flat_str, flat_bl, flat_non, solid_int, solid_str, solid_bl, solid_non, solid_tup, solids_nil, solids_cons, dSeq, dNext, dSet, dSetF, setSl, dVar, dTake, dC, dBin, dBinF, dB, dIfS, dIf, dRet, dRetN, dExpr, dNil, dCons, dTup, dLst, dFz, dAnd, dOr, dNot, dAndV, dOrV, dNotV, dCallD, dCallK, dCB, dCBF, dFor, dLC, dYes, dRng1, dRng2, dSeqI, gN, gT, gsNil, gsCons, dAsg, dNeg, dJoin, dFs, dJs, dFmt, dApp, dExt, dPop, dPopAt, dOwnIx, dOwnCB, dOwnL, dOwnR, dOwnSl, dSetIx, dSlT, dSlL, oNone, oSome, dBorn, optQ, ownAt, setOwnAt, lookAt, wipeD, dNewDT, dNewDK, dDGet, dDIn, dDPut, dSortT, rSrt, isDict, Ev.dictGet, Ev.dictPut, Option.isSome_none, Option.isSome_some, D.keyT, keysOf, D.key, exists_eq_left', exists_eq_left, Option.isSome, rRepL, rCatL, dRetF, dIfF, dPar, dRetOwn, dCallL, dCallLK, dPen2, dRev, dRevI, dIndex, endsL, startL, dNever, dBrk, dCnt, rAddD, rSubI, rIO, rMulI, rDivI, rModI, rPowI, rCI, Ev.rIxD, rIsN, rNotN, D.isN, Ev.rLen, rTuple, rList, rAbs, rInt, rStr, Ev.rRepr, Ev.rIsi, D.ty, kit_tab, startD, endsD, List.map_cons, List.map_nil, List.length_cons, List.length_nil, List.append_nil, List.nil_append, List.cons_append, List.getElem?_cons_zero, List.getElem?_cons_succ, List.getElem?_nil, List.set_cons_zero, List.set_cons_succ, List.replicate, List.replicate_succ, Nat.zero_add, Nat.zero_le, sizeLine, true_and, and_true, if_true, Ev.eq_int, Ev.eq_str, Ev.eq_bl, Ev.eq_non, lst_nil, tup_nil, List.map_eq_nil_iff, txt_join, rLt, rLe, rGt, rGe, atI_ofNat, atI_last, wLC, strsOf, intsOf, blsOf, Option.map_some, Ev.join_two, Ev.join_one, Ev.join_nil, List.sum_cons, List.sum_nil, PySem.Str.empty_append, ixN_ofNat, Option.some.injEq, exists_eq', List.length_map, decide_true, decide_false, Bool.not_true, Bool.not_false, Bool.true_eq_false, Bool.false_eq_true, false_and, and_false, if_false, ite_true, ite_false, Nat.reduceAdd, Nat.reduceSub, Nat.reduceMul, Nat.reduceLT, Nat.reduceLeDiff, Nat.reduceEqDiff, Nat.reducePow, Int.reduceToNat, Int.reducePow, pickL, List.filterMap_cons, List.filterMap_nil, and_self, Int.reduceLT, Int.reduceLE, Int.reduceNeg, Int.reduceAdd, Int.reduceMul, Int.reduceSub, Int.reduceEq, reduceIte, reduceCtorEq, lit_eq, String.reduceEq, Ev.rEq, Ev.rNe, Ev.rInD, cut_toN, cut_fromN, List.map_take, List.forall_mem_cons, List.forall_mem_nil, List.not_mem_nil, false_imp_iff, implies_true, forall_const, D.cm, D.lay, D.lays, D.dep, D.deps, strOk_lit, lays_ints, deps_ints, Nat.max_self, Nat.max_zero, Nat.zero_max, Bool.and_self, Bool.true_and, Bool.and_true, Bool.and_false, Bool.false_and, Bool.or_false, Bool.or_true, Bool.true_or, Bool.false_or, List.any_cons, List.any_nil, decide_eq_true_eq, eq_self] $[$l]?)
variable [TabC] [PkL]
theorem fm_c {P : D → Prop} {d : D} {ds : List D} (h : P d) (hs : ∀ x ∈ ds, P x) : ∀ x ∈ d :: ds, P x := List.forall_mem_cons.mpr ⟨h, hs⟩
theorem fm_n {P : D → Prop} : ∀ x ∈ ([] : List D), P x := fun _ h => nomatch h
structure SB (b : Bx) : Prop where
  x0 : -1300 ≤ b.x
  x1 : b.x + b.w ≤ 1400
  y0 : -1300 ≤ b.y
  y1 : b.y + b.h ≤ 1400
  w0 : 0 < b.w
  h0 : 0 < b.h
  w1 : b.w ≤ 1920
  h1 : b.h ≤ 1920
  a : b.w * b.h ≤ 1920
theorem SB.of {b : Bx} (x0 : -1300 ≤ b.x) (x1 : b.x + b.w ≤ 1400) (y0 : -1300 ≤ b.y) (y1 : b.y + b.h ≤ 1400) (w0 : 0 < b.w) (h0 : 0 < b.h) (a : b.w * b.h ≤ 1920) : SB b :=
  ⟨x0, x1, y0, y1, w0, h0, Int.le_trans (by have := Int.mul_le_mul_of_nonneg_left (show 1 ≤ b.h by omega) (show 0 ≤ b.w by omega); omega) a, Int.le_trans (by have := Int.mul_le_mul_of_nonneg_right (show 1 ≤ b.w by omega) (show 0 ≤ b.h by omega); omega) a, a⟩
theorem bnd_of {b : Bx} (x0 : -1300 ≤ b.x) (x1 : b.x + b.w ≤ 1500) (y0 : -1300 ≤ b.y) (y1 : b.y + b.h ≤ 1500) (w0 : 0 < b.w) (h0 : 0 < b.h) (w1 : b.w ≤ 5000) (h1 : b.h ≤ 5000) (a : b.w * b.h ≤ 4000) : Bnd b :=
  ⟨fun c hc => by rw [List.mem_singleton] at hc; subst hc; omega, w1, h1, by omega⟩
/-- what may stand amid a bent part -/
structure ME (m : D) : Prop where
  ok : okN great m = true
  sz : m.szR ≤ 430
  de : m.deR ≤ 2
  bx : ∀ b, boxO m = some b → Bnd b ∧ b.w.toNat * b.h.toNat ≤ 4000
theorem toNat_mul {a b : Int} (ha : 0 ≤ a) (hb : 0 ≤ b) : ((a.toNat * b.toNat : Nat) : Int) = a * b := by
  rw [Int.natCast_mul, Int.toNat_of_nonneg ha, Int.toNat_of_nonneg hb]
theorem gr {i : Int} (h : -100000 ≤ i ∧ i ≤ 100000) : okN great (.int i) = true := decide_eq_true (Nat.le_trans (show i.natAbs ≤ 100000 by omega) (by decide))
theorem bx_ok {b : Bx} (s : -100000 ≤ b.x ∧ b.x ≤ 100000) (t : -100000 ≤ b.y ∧ b.y ≤ 100000) (u : -100000 ≤ b.w ∧ b.w ≤ 100000) (v : -100000 ≤ b.h ∧ b.h ≤ 100000) : okN great (bxD b) = true := by
  show (okN great (.int b.x) && (okN great (.int b.y) && (okN great (.int b.w) && (okN great (.int b.h) && true)))) = true
  rw [gr s, gr t, gr u, gr v]; rfl
theorem me_box {b : Bx} (x0 : -1300 ≤ b.x) (x1 : b.x + b.w ≤ 1500) (y0 : -1300 ≤ b.y) (y1 : b.y + b.h ≤ 1500) (w0 : 0 < b.w) (h0 : 0 < b.h) (w1 : b.w ≤ 5000) (h1 : b.h ≤ 5000) (a : b.w * b.h ≤ 4000) : ME (bxD b) := by
  refine ⟨bx_ok (by omega) (by omega) (by omega) (by omega), (by decide : 417 ≤ 430), (by decide : 1 ≤ 2), fun c hc => ?_⟩
  rw [boxO_bx ⟨w0, h0⟩] at hc
  cases hc
  exact ⟨bnd_of x0 x1 y0 y1 w0 h0 w1 h1 a, by have := toNat_mul (a := b.w) (b := b.h) (by omega) (by omega); omega⟩
theorem boxesO_app : ∀ {a b : List D} {bs : List Bx}, boxesO (a ++ b) = some bs → ∃ b1 b2, bs = b1 ++ b2 ∧ boxesO a = some b1 ∧ boxesO b = some b2
  | [], b, bs, h => ⟨[], bs, rfl, rfl, h⟩
  | d :: a, b, bs, h => by
    rw [List.cons_append] at h
    unfold boxesO at h
    cases hd : boxO d with
    | none => rw [hd] at h; cases h
    | some x =>
      cases hs : boxesO (a ++ b) with
      | none => rw [hd, hs] at h; cases h
      | some cs =>
        rw [hd, hs] at h
        cases h
        obtain ⟨b1, b2, e1, e2, e3⟩ := boxesO_app hs
        exact ⟨x :: b1, b2, by rw [e1]; rfl, by unfold boxesO; rw [hd, e2], e3⟩
theorem boxesO_map : ∀ {p : List Bx}, (∀ b ∈ p, SB b) → boxesO (p.map bxD) = some p
  | [], _ => rfl
  | b :: p, h => by
    have s := h b List.mem_cons_self
    rw [List.map_cons]
    unfold boxesO
    rw [boxO_bx ⟨s.w0, s.h0⟩, boxesO_map fun c hc => h c (List.mem_cons_of_mem _ hc)]
theorem areaN_app {a b : List Bx} : areaN (a ++ b) = areaN a + areaN b := by unfold areaN; rw [List.map_append, List.sum_append]
theorem me_area : ∀ {M : List D} {bs : List Bx}, (∀ m ∈ M, ME m) → boxesO M = some bs → areaN bs ≤ 4000 * M.length
  | [], _, _, h => by cases h; decide
  | d :: M, bs, hm, h => by
    unfold boxesO at h
    cases hd : boxO d with
    | none => rw [hd] at h; cases h
    | some x =>
      cases hs : boxesO M with
      | none => rw [hd, hs] at h; cases h
      | some cs =>
        rw [hd, hs] at h
        cases h
        have ih := me_area (fun m h => hm m (List.mem_cons_of_mem _ h)) hs
        have := ((hm d List.mem_cons_self).bx x hd).2
        rw [areaN_cons, List.length_cons]
        omega
theorem szRs_le {n : Nat} : ∀ {xs : List D}, (∀ x ∈ xs, x.szR ≤ n) → D.szRs xs ≤ (n + 2) * xs.length
  | [], _ => Nat.zero_le _
  | x :: xs, h => by
    have := szRs_le fun y hy => h y (List.mem_cons_of_mem _ hy)
    have := h x List.mem_cons_self
    show x.szR + 2 + D.szRs xs ≤ (n + 2) * (xs.length + 1)
    rw [Nat.mul_add]
    omega
theorem deRs_le {n : Nat} : ∀ {xs : List D}, (∀ x ∈ xs, x.deR ≤ n) → D.deRs xs ≤ n
  | [], _ => Nat.zero_le _
  | x :: xs, h => Nat.max_le.mpr ⟨h x List.mem_cons_self, deRs_le fun y hy => h y (List.mem_cons_of_mem _ hy)⟩
theorem bt_of {xs : List D} (hl : xs.length ≤ 1930) (h : ∀ x ∈ xs, ME x) (ha : ∀ bs, boxesO xs = some bs → areaN bs ≤ 20000) : Bt (.tup xs) where
  ok := okNs_iff.mpr fun x hx => (h x hx).ok
  sz := by
    have := szRs_le (n := 430) fun x hx => (h x hx).sz
    show D.szRs xs + 5 ≤ 900000
    omega
  de := by
    have := deRs_le (n := 2) fun x hx => (h x hx).de
    show D.deRs xs + 1 ≤ 8
    omega
  ln := fun ys e => by cases e; omega
  el := fun ys e d hd b hb => by cases e; exact ((h d hd).bx b hb).1
  ar := fun ys e bs hb => by cases e; exact ha bs hb
theorem SB.me {b : Bx} (s : SB b) : ME (bxD b) := me_box s.x0 (by have := s.x1; omega) s.y0 (by have := s.y1; omega) s.w0 s.h0 (by have := s.w1; omega) (by have := s.h1; omega) (by have := s.a; omega)
theorem bt_mid {A B : List Bx} {M : List D} (hA : ∀ b ∈ A, SB b) (hB : ∀ b ∈ B, SB b) (hM : ∀ m ∈ M, ME m) (hl : A.length + B.length ≤ 1925) (lM : M.length ≤ 3) (ha : areaN A + areaN B ≤ 6000) : Bt (.tup (A.map bxD ++ M ++ B.map bxD)) := by
  refine bt_of ?_ ?_ ?_
  · simp only [List.length_append, List.length_map]; omega
  · intro x hx
    rcases List.mem_append.mp hx with hx | hx
    · rcases List.mem_append.mp hx with hx | hx
      · obtain ⟨b, hb, rfl⟩ := List.mem_map.mp hx
        exact (hA b hb).me
      · exact hM x hx
    · obtain ⟨b, hb, rfl⟩ := List.mem_map.mp hx
      exact (hB b hb).me
  · intro bs hb
    obtain ⟨b1, b2, rfl, h1, h2⟩ := boxesO_app hb
    obtain ⟨b3, b4, rfl, h3, h4⟩ := boxesO_app h1
    rw [boxesO_map hA] at h3
    rw [boxesO_map hB] at h2
    cases h3
    cases h2
    have := me_area hM h4
    rw [areaN_app, areaN_app]
    omega
/-- the part that is bent -/
structure PB (p : List Bx) : Prop where
  sb : ∀ b ∈ p, SB b
  ln : p.length ≤ 1920
  ar : areaN p ≤ 1920
theorem areaN_sub {a b : List Bx} (h : a.Sublist b) : areaN a ≤ areaN b := by
  induction h with
  | slnil => exact Nat.le_refl _
  | cons x _ ih => rw [areaN_cons]; omega
  | cons_cons x _ ih => rw [areaN_cons, areaN_cons]; omega
theorem at_any {L : List D} {r : Int} (h0 : 0 ≤ r) (h1 : r < (L.length : Nat)) : ∃ d ∈ L, atI L r = some d := by
  have h2 : r.toNat < L.length := by omega
  exact ⟨L[r.toNat], List.getElem_mem h2, by rw [atI_nn h0, List.getElem?_eq_getElem h2]⟩
def sp__law_bent : dSp := fun ds pe Q _ => ∃ (a : Addr) (c : Nat) (p : List Bx), ds = [.raw (.ref a), partD p] ∧ pe = some (a, c) ∧ c + 10 < 65536 ∧ PB p ∧ ∀ d c', Bt d → c' ≤ c + 3 → Q d (some (a, c'))
abbrev s__law_bent : Stmt := topS 27
abbrev n__law_bent : List Str := ["_law_pen", "_law_part", "_law_at", "_law_x", "_law_y", "_law_wide", "_law_high", "_law_odd", "_law_some", "_law_cut", "_law_way"]
theorem sc__law_bent : FnScope n__law_bent ["_law_pen", "_law_part"] (defScope s__law_bent) := ⟨rfl, rfl, rfl, by decide +kernel, rfl, by decide +kernel, by decide +kernel⟩
def p__law_bent_0 : dS := (dSet 2 (dCallD 2 [] sp__law_draw (dCons (dVar 0) (dCons (dBin rAddD (dCB rLen (dCons (dVar 1) dNil)) (dC (.int 1))) dNil))))
def p__law_bent_1 : dS := (dAsg (dBin rIxD (dBin rAddD (dVar 1) (dTup (dCons (dTup (dCons (dC (.int 0)) (dCons (dC (.int 0)) (dCons (dC (.int 1)) (dCons (dC (.int 1)) dNil))))) dNil))) (dVar 2)) (gT 4 (gsCons (gN 3) (gsCons (gN 4) (gsCons (gN 5) (gsCons (gN 6) gsNil))))))
def p__law_bent_2 : dS := (dSetF 7 (dLst (dCons (dC .non) (dCons (dTup dNil) (dCons (dTup (dCons (dVar 3) (dCons (dVar 4) (dCons (dVar 5) dNil)))) (dCons (dFz (dLst (dCons (dVar 3) (dCons (dVar 4) (dCons (dVar 5) (dCons (dVar 6) dNil)))))) (dCons (dTup (dCons (dVar 3) (dCons (dVar 4) (dCons (dC (.int 0)) (dCons (dVar 6) dNil))))) (dCons (dTup (dCons (dVar 3) (dCons (dVar 4) (dCons (dVar 5) (dCons (dC (.int (-1))) dNil))))) (dCons (dTup (dCons (dVar 3) (dCons (dVar 4) (dCons (dC (.bl true)) (dCons (dC (.int 1)) dNil))))) dNil)))))))))
def p__law_bent_3 : dS := (dApp 7 (dTup (dCons (dVar 3) (dCons (dC (.str "0")) (dCons (dC (.int 1)) (dCons (dC (.int 1)) dNil))))))
def p__law_bent_4 : dS := (dSet 8 (dFz (dLst (dCons (dTup (dCons (dBin rAddD (dVar 3) (dC (.int 1))) (dCons (dVar 4) (dCons (dVar 5) (dCons (dVar 6) dNil))))) (dCons (dTup (dCons (dVar 3) (dCons (dBin rAddD (dVar 4) (dC (.int 1))) (dCons (dVar 5) (dCons (dVar 6) dNil))))) (dCons (dTup (dCons (dVar 3) (dCons (dVar 4) (dCons (dBin rAddD (dVar 5) (dC (.int 1))) (dCons (dVar 6) dNil))))) (dCons (dTup (dCons (dVar 3) (dCons (dVar 4) (dCons (dVar 5) (dCons (dBin rAddD (dVar 6) (dC (.int 1))) dNil))))) dNil)))))))
def p__law_bent_5 : dS := (dSet 9 (dTup (dCons (dTup (dCons (dVar 3) (dCons (dVar 4) (dCons (dC (.int 1)) (dCons (dVar 6) dNil))))) (dCons (dTup (dCons (dBin rAddD (dVar 3) (dC (.int 1))) (dCons (dVar 4) (dCons (dVar 5) (dCons (dVar 6) dNil))))) dNil))))
def p__law_bent_6 : dS := (dSet 10 (dCallD 2 [] sp__law_draw (dCons (dVar 0) (dCons (dC (.int 7)) dNil))))
def p__law_bent_7 : dS := (dIfS (dB (dBin (rEq) (dVar 10) (dC (.int 0)))) (dRet (dBin rAddD (dSlT (dVar 1) oNone (oSome (dVar 2))) (dSlT (dVar 1) (oSome (dBin rAddD (dVar 2) (dC (.int 1)))) oNone))) dNext)
def p__law_bent_8 : dS := (dIfS (dB (dBin (rEq) (dVar 10) (dC (.int 1)))) (dRet (dBin rAddD (dBin rAddD (dSlT (dVar 1) oNone (oSome (dVar 2))) (dTup (dCons (dOwnIx 7 (dCallD 2 [] sp__law_draw (dCons (dVar 0) (dCons (dC (.int 8)) dNil)))) dNil))) (dSlT (dVar 1) (oSome (dBin rAddD (dVar 2) (dC (.int 1)))) oNone))) dNext)
def p__law_bent_9 : dS := (dIfS (dB (dBin (rEq) (dVar 10) (dC (.int 2)))) (dRet (dBin rAddD (dBin rAddD (dSlT (dVar 1) oNone (oSome (dVar 2))) (dTup (dCons (dBin rIxD (dVar 8) (dCallD 2 [] sp__law_draw (dCons (dVar 0) (dCons (dC (.int 4)) dNil)))) dNil))) (dSlT (dVar 1) (oSome (dBin rAddD (dVar 2) (dC (.int 1)))) oNone))) dNext)
def p__law_bent_10 : dS := (dIfS (dB (dBin (rEq) (dVar 10) (dC (.int 3)))) (dRet (dBin rAddD (dBin rAddD (dSlT (dVar 1) oNone (oSome (dVar 2))) (dVar 9)) (dSlT (dVar 1) (oSome (dBin rAddD (dVar 2) (dC (.int 1)))) oNone))) dNext)
def p__law_bent_11 : dS := (dRet (dBin rIxD (dFz (dLst (dCons (dBin rAddD (dVar 1) (dSlT (dVar 1) oNone (oSome (dC (.int 1))))) (dCons (dRevX (dVar 1)) (dCons (dFz (dCBF rList (dCons (dVar 1) dNil))) dNil))))) (dBin rSubI (dVar 10) (dC (.int 4)))))
def b__law_bent_11 : dS := p__law_bent_11
def b__law_bent_10 : dS := dSeq (p__law_bent_10) (b__law_bent_11)
def b__law_bent_9 : dS := dSeq (p__law_bent_9) (b__law_bent_10)
def b__law_bent_8 : dS := dSeq (p__law_bent_8) (b__law_bent_9)
def b__law_bent_7 : dS := dSeq (p__law_bent_7) (b__law_bent_8)
def b__law_bent_6 : dS := dSeq (p__law_bent_6) (b__law_bent_7)
def b__law_bent_5 : dS := dSeq (p__law_bent_5) (b__law_bent_6)
def b__law_bent_4 : dS := dSeq (p__law_bent_4) (b__law_bent_5)
def b__law_bent_3 : dS := dSeq (p__law_bent_3) (b__law_bent_4)
def b__law_bent_2 : dS := dSeq (p__law_bent_2) (b__law_bent_3)
def b__law_bent_1 : dS := dSeq (p__law_bent_1) (b__law_bent_2)
def b__law_bent_0 : dS := dSeq (p__law_bent_0) (b__law_bent_1)
def b__law_bent : dS := b__law_bent_0
theorem run__law_bent {P : Program} {w : World} {K : PySem.W.Frag} {mg : Str → Option Value} {base : Heap} (m_len : mg "len" = none) (m_list : mg "list" = none) (K__law_draw_2 : Def P w K mg base 1 "_law_draw" 2 sp__law_draw []) {f : Addr} (cdv : Value) (A : Around) (out : List Env) (s : Shared) (H : Hp) (E : XK) (g : A.guards = some []) (hrA : Room 1 (A.deeper (envOfC "_law_bent" (defScope s__law_bent) s.heap.objs.size f cdv))) :
  DSs (cx0 P w K mg base n__law_bent "_law_bent" (defScope s__law_bent) f cdv A out s H E) E00 (defBody s__law_bent) b__law_bent := by
 have hgA : (A.deeper (envOfC "_law_bent" (defScope s__law_bent) s.heap.objs.size f cdv)).guards = some [] := g
 have hun := hrA.un
 exact (dss_cons (t := p__law_bent_0) (u := b__law_bent_1) (ds_set (i := 2) sc__law_bent.nd rfl (by first | exact .inl rfl | exact .inr rfl) (de_callD K__law_draw_2 hgA hrA (by rfl) (da_cons (de_var (pv 0)) (da_cons (de_op od_add (de_callB (cd_len) (by rfl) m_len PySem.boot_len (da_cons (de_var (pv 1)) da_nil)) de_int) da_nil))))
  (dss_cons (t := p__law_bent_1) (u := b__law_bent_2) (ds_asg (de_ix (de_op od_add (de_var (pv 1)) (de_tup (da_cons (de_tup (da_cons de_int (da_cons de_int (da_cons de_int (da_cons de_int da_nil))))) da_nil))) (de_var (pv 2)) (fun _ _ => rfl)) (dg_tup rfl (dgs_cons (dg_name (pg_name (i := 3) sc__law_bent.nd rfl (by first | exact .inl rfl | exact .inr rfl))) (dgs_cons (dg_name (pg_name (i := 4) sc__law_bent.nd rfl (by first | exact .inl rfl | exact .inr rfl))) (dgs_cons (dg_name (pg_name (i := 5) sc__law_bent.nd rfl (by first | exact .inl rfl | exact .inr rfl))) (dgs_cons (dg_name (pg_name (i := 6) sc__law_bent.nd rfl (by first | exact .inl rfl | exact .inr rfl))) dgs_nil))))))
  (dss_cons (t := p__law_bent_2) (u := b__law_bent_3) (ds_setF (i := 7) sc__law_bent.nd rfl (by first | exact .inl rfl | exact .inr rfl) (df_lst (da_cons de_non (da_cons (de_tup da_nil) (da_cons (de_tup (da_cons (de_var (pv 3)) (da_cons (de_var (pv 4)) (da_cons (de_var (pv 5)) da_nil)))) (da_cons (de_fz (df_lst (da_cons (de_var (pv 3)) (da_cons (de_var (pv 4)) (da_cons (de_var (pv 5)) (da_cons (de_var (pv 6)) da_nil)))))) (da_cons (de_tup (da_cons (de_var (pv 3)) (da_cons (de_var (pv 4)) (da_cons de_int (da_cons (de_var (pv 6)) da_nil))))) (da_cons (de_tup (da_cons (de_var (pv 3)) (da_cons (de_var (pv 4)) (da_cons (de_var (pv 5)) (da_cons de_neg da_nil))))) (da_cons (de_tup (da_cons (de_var (pv 3)) (da_cons (de_var (pv 4)) (da_cons de_bl (da_cons de_int da_nil))))) da_nil)))))))))
  (dss_cons (t := p__law_bent_3) (u := b__law_bent_4) (ds_app (pv 7) (de_tup (da_cons (de_var (pv 3)) (da_cons de_str (da_cons de_int (da_cons de_int da_nil))))))
  (dss_cons (t := p__law_bent_4) (u := b__law_bent_5) (ds_set (i := 8) sc__law_bent.nd rfl (by first | exact .inl rfl | exact .inr rfl) (de_fz (df_lst (da_cons (de_tup (da_cons (de_op od_add (de_var (pv 3)) de_int) (da_cons (de_var (pv 4)) (da_cons (de_var (pv 5)) (da_cons (de_var (pv 6)) da_nil))))) (da_cons (de_tup (da_cons (de_var (pv 3)) (da_cons (de_op od_add (de_var (pv 4)) de_int) (da_cons (de_var (pv 5)) (da_cons (de_var (pv 6)) da_nil))))) (da_cons (de_tup (da_cons (de_var (pv 3)) (da_cons (de_var (pv 4)) (da_cons (de_op od_add (de_var (pv 5)) de_int) (da_cons (de_var (pv 6)) da_nil))))) (da_cons (de_tup (da_cons (de_var (pv 3)) (da_cons (de_var (pv 4)) (da_cons (de_var (pv 5)) (da_cons (de_op od_add (de_var (pv 6)) de_int) da_nil))))) da_nil)))))))
  (dss_cons (t := p__law_bent_5) (u := b__law_bent_6) (ds_set (i := 9) sc__law_bent.nd rfl (by first | exact .inl rfl | exact .inr rfl) (de_tup (da_cons (de_tup (da_cons (de_var (pv 3)) (da_cons (de_var (pv 4)) (da_cons de_int (da_cons (de_var (pv 6)) da_nil))))) (da_cons (de_tup (da_cons (de_op od_add (de_var (pv 3)) de_int) (da_cons (de_var (pv 4)) (da_cons (de_var (pv 5)) (da_cons (de_var (pv 6)) da_nil))))) da_nil))))
  (dss_cons (t := p__law_bent_6) (u := b__law_bent_7) (ds_set (i := 10) sc__law_bent.nd rfl (by first | exact .inl rfl | exact .inr rfl) (de_callD K__law_draw_2 hgA hrA (by rfl) (da_cons (de_var (pv 0)) (da_cons de_int da_nil))))
  (dss_cons (t := p__law_bent_7) (u := b__law_bent_8) (ds_if (dt_cmp (od_eq (Nat.lt_of_le_of_lt (Nat.add_le_add_left (by decide) _) hun)) (de_var (pv 10)) de_int (nomark _)) (dss_one (ds_ret (de_op od_add (de_slT (de_var (pv 1)) do_none (do_some (de_var (pv 2)))) (de_slT (de_var (pv 1)) (do_some (de_op od_add (de_var (pv 2)) de_int)) do_none)))) dss_nil)
  (dss_cons (t := p__law_bent_8) (u := b__law_bent_9) (ds_if (dt_cmp (od_eq (Nat.lt_of_le_of_lt (Nat.add_le_add_left (by decide) _) hun)) (de_var (pv 10)) de_int (nomark _)) (dss_one (ds_ret (de_op od_add (de_op od_add (de_slT (de_var (pv 1)) do_none (do_some (de_var (pv 2)))) (de_tup (da_cons (de_ownIx (pv 7) (de_callD K__law_draw_2 hgA hrA (by rfl) (da_cons (de_var (pv 0)) (da_cons de_int da_nil))) (fun _ _ => rfl)) da_nil))) (de_slT (de_var (pv 1)) (do_some (de_op od_add (de_var (pv 2)) de_int)) do_none)))) dss_nil)
  (dss_cons (t := p__law_bent_9) (u := b__law_bent_10) (ds_if (dt_cmp (od_eq (Nat.lt_of_le_of_lt (Nat.add_le_add_left (by decide) _) hun)) (de_var (pv 10)) de_int (nomark _)) (dss_one (ds_ret (de_op od_add (de_op od_add (de_slT (de_var (pv 1)) do_none (do_some (de_var (pv 2)))) (de_tup (da_cons (de_ix (de_var (pv 8)) (de_callD K__law_draw_2 hgA hrA (by rfl) (da_cons (de_var (pv 0)) (da_cons de_int da_nil))) (fun _ _ => rfl)) da_nil))) (de_slT (de_var (pv 1)) (do_some (de_op od_add (de_var (pv 2)) de_int)) do_none)))) dss_nil)
  (dss_cons (t := p__law_bent_10) (u := b__law_bent_11) (ds_if (dt_cmp (od_eq (Nat.lt_of_le_of_lt (Nat.add_le_add_left (by decide) _) hun)) (de_var (pv 10)) de_int (nomark _)) (dss_one (ds_ret (de_op od_add (de_op od_add (de_slT (de_var (pv 1)) do_none (do_some (de_var (pv 2)))) (de_var (pv 9))) (de_slT (de_var (pv 1)) (do_some (de_op od_add (de_var (pv 2)) de_int)) do_none)))) dss_nil)
  (dss_one (t := p__law_bent_11) (ds_ret (de_ix (de_fz (df_lst (da_cons (de_op od_add (de_var (pv 1)) (de_slT (de_var (pv 1)) do_none (do_some de_int))) (da_cons (de_revX (de_var (pv 1))) (da_cons (de_fz (df_callTy cd_list (by rfl) m_list (by decide +kernel) (da_cons (de_var (pv 1)) da_nil))) da_nil))))) (de_op od_sub (de_var (pv 10)) de_int) (fun _ _ => rfl)))))))))))))))
local macro_rules
  | `(tactic| simp only [RD]) => `(tactic| repeat' first
  | exact rd_c | exact rd_var rfl | exact rd_nil | exact rd_emp | exact rd_no
  | apply rd_so | apply rd_sl | apply rd_revT | apply rd_listT | apply rd_addI
  | apply rd_cons | apply rd_tup | apply rd_lst | apply rd_fz | exact Nat.le_of_ble_eq_true rfl)
theorem hsp__law_bent : ∀ ds p Q W, ds.length = 2 → sp__law_bent ds p Q W → b__law_bent W0 (endsD Q) (startD n__law_bent.length ds p) := by
  rintro _ _ Q W - ⟨a, c, p, rfl, rfl, hc, pb, q⟩
  have pl := pb.ln
  unfold partD
  simp only [DSIMP, n__law_bent, b__law_bent, b__law_bent_0, p__law_bent_0, sp__law_draw, spDraw]
  refine ⟨by omega, by omega, by omega, fun t t0 t1 => ?_⟩
  have em : p.map bxD ++ [D.tup [.int 0, .int 0, .int 1, .int 1]] = (p ++ [(⟨0, 0, 1, 1⟩ : Bx)]).map bxD := by rw [List.map_append]; rfl
  obtain ⟨b, hb, eb⟩ := at_map (f := bxD) (l := p ++ [(⟨0, 0, 1, 1⟩ : Bx)]) t0 (by rw [List.length_append]; simp only [List.length_cons, List.length_nil]; omega)
  have sb : SB b := by
    rcases List.mem_append.mp hb with h | h
    · exact pb.sb b h
    · rw [List.mem_singleton] at h
      subst h
      exact .of (by decide) (by decide) (by decide) (by decide) (by decide) (by decide) (by decide)
  obtain ⟨x0, x1, y0, y1, w0, h0, w1, h1, ar⟩ := sb
  obtain ⟨x, y, w, h⟩ := b
  simp only at x0 x1 y0 y1 w0 h0 w1 h1 ar
  have eb : atI ((p ++ [(⟨0, 0, 1, 1⟩ : Bx)]).map bxD) t = some (.tup [.int x, .int y, .int w, .int h]) := eb
  obtain ⟨i, rfl⟩ : ∃ i : Nat, t = (i : Int) := ⟨t.toNat, by omega⟩
  simp only [DSIMP, b__law_bent_1, p__law_bent_1, em, eb]
  refine ⟨by omega, ?_⟩
  show dSeq p__law_bent_2 b__law_bent_3 W0 _ _
  refine go_setF (vs := [.non, .tup [], .tup [.int x, .int y, .int w], .lst [.int x, .int y, .int w, .int h], .tup [.int x, .int y, .int 0, .int h], .tup [.int x, .int y, .int w, .int (-1)], .tup [.int x, .int y, .bl true, .int 1]]) (by simp only [RD]) ?_
  show dSeq p__law_bent_3 b__law_bent_4 W0 _ _
  refine go_app (ds := [.non, .tup [], .tup [.int x, .int y, .int w], .lst [.int x, .int y, .int w, .int h], .tup [.int x, .int y, .int 0, .int h], .tup [.int x, .int y, .int w, .int (-1)], .tup [.int x, .int y, .bl true, .int 1]]) (v := .tup [.int x, .str "0", .int 1, .int 1]) rfl (by simp only [RD]) (Nat.le_of_ble_eq_true rfl) ?_
  have mO : ∀ m ∈ ([.non, .tup [], .tup [.int x, .int y, .int w], .lst [.int x, .int y, .int w, .int h], .tup [.int x, .int y, .int 0, .int h], .tup [.int x, .int y, .int w, .int (-1)], .tup [.int x, .int y, .bl true, .int 1]] ++ [.tup [.int x, .str "0", .int 1, .int 1]] : List D), ME m := by
    have gx : okN great (.int x) = true := gr (by omega)
    have gy : okN great (.int y) = true := gr (by omega)
    have gw : okN great (.int w) = true := gr (by omega)
    have gh : okN great (.int h) = true := gr (by omega)
    have g1 : okN great (.int 1) = true := gr (by omega)
    have no : ∀ {d : D}, okN great d = true → d.szR ≤ 430 → d.deR ≤ 2 → boxO d = none → ME d := fun a1 a2 a3 a4 => ⟨a1, a2, a3, fun b hb => by rw [a4] at hb; cases hb⟩
    refine fm_c (no rfl (by decide) (by decide) rfl) (fm_c (no rfl (by decide) (by decide) rfl) (fm_c (no ?_ (show 314 ≤ 430 by decide) (show 1 ≤ 2 by decide) rfl) (fm_c (no ?_ (show 417 ≤ 430 by decide) (show 1 ≤ 2 by decide) rfl) (fm_c (no ?_ (show 417 ≤ 430 by decide) (show 1 ≤ 2 by decide) ?_) (fm_c (no ?_ (show 417 ≤ 430 by decide) (show 1 ≤ 2 by decide) ?_) (fm_c (no ?_ (show 321 ≤ 430 by decide) (show 1 ≤ 2 by decide) rfl) (fm_c (no ?_ (show 328 ≤ 430 by decide) (show 1 ≤ 2 by decide) rfl) fm_n)))))))
    · show (okN great (.int x) && (okN great (.int y) && (okN great (.int w) && true))) = true
      rw [gx, gy, gw]; rfl
    · show (okN great (.int x) && (okN great (.int y) && (okN great (.int w) && (okN great (.int h) && true)))) = true
      rw [gx, gy, gw, gh]; rfl
    · show (okN great (.int x) && (okN great (.int y) && (okN great (.int 0) && (okN great (.int h) && true)))) = true
      rw [gx, gy, gr (show -100000 ≤ (0 : Int) ∧ (0 : Int) ≤ 100000 by omega), gh]; rfl
    · show (if (0 : Int) < 0 ∧ 0 < h then some (⟨x, y, 0, h⟩ : Bx) else none) = none
      rw [if_neg (by omega)]
    · show (okN great (.int x) && (okN great (.int y) && (okN great (.int w) && (okN great (.int (-1)) && true)))) = true
      rw [gx, gy, gw, gr (show -100000 ≤ (-1 : Int) ∧ (-1 : Int) ≤ 100000 by omega)]; rfl
    · show (if 0 < w ∧ (0 : Int) < -1 then some (⟨x, y, w, -1⟩ : Bx) else none) = none
      rw [if_neg (by omega)]
    · show (okN great (.int x) && (okN great (.int y) && (true && (okN great (.int 1) && true)))) = true
      rw [gx, gy, g1]; rfl
    · show (okN great (.int x) && (PyData.strOk "0" && (okN great (.int 1) && (okN great (.int 1) && true)))) = true
      rw [gx, g1, show PyData.strOk (Str.ofString "0") = true from strOk_lit _]; rfl
  have lO : ([.non, .tup [], .tup [.int x, .int y, .int w], .lst [.int x, .int y, .int w, .int h], .tup [.int x, .int y, .int 0, .int h], .tup [.int x, .int y, .int w, .int (-1)], .tup [.int x, .int y, .bl true, .int 1]] ++ [.tup [.int x, .str "0", .int 1, .int 1]] : List D).length = 8 := rfl
  generalize ([.non, .tup [], .tup [.int x, .int y, .int w], .lst [.int x, .int y, .int w, .int h], .tup [.int x, .int y, .int 0, .int h], .tup [.int x, .int y, .int w, .int (-1)], .tup [.int x, .int y, .bl true, .int 1]] ++ [.tup [.int x, .str "0", .int 1, .int 1]] : List D) = O at mO lO
  show dSeq p__law_bent_4 b__law_bent_5 W0 _ _
  refine go_set (v := .lst [.tup [.int (x + 1), .int y, .int w, .int h], .tup [.int x, .int (y + 1), .int w, .int h], .tup [.int x, .int y, .int (w + 1), .int h], .tup [.int x, .int y, .int w, .int (h + 1)]]) (by simp only [RD]) ?_
  have e1 : (w + 1) * h ≤ 4000 := by rw [Int.add_mul, Int.one_mul]; omega
  have e2 : w * (h + 1) ≤ 4000 := by rw [Int.mul_add, Int.mul_one]; omega
  have mS : ∀ m ∈ ([.tup [.int (x + 1), .int y, .int w, .int h], .tup [.int x, .int (y + 1), .int w, .int h], .tup [.int x, .int y, .int (w + 1), .int h], .tup [.int x, .int y, .int w, .int (h + 1)]] : List D), ME m :=
    fm_c (me_box (b := ⟨x + 1, y, w, h⟩) (by show -1300 ≤ x + 1; omega) (by show x + 1 + w ≤ 1500; omega) y0 (by show y + h ≤ 1500; omega) w0 h0 (by show w ≤ 5000; omega) (by show h ≤ 5000; omega) (by show w * h ≤ 4000; omega))
      (fm_c (me_box (b := ⟨x, y + 1, w, h⟩) x0 (by show x + w ≤ 1500; omega) (by show -1300 ≤ y + 1; omega) (by show y + 1 + h ≤ 1500; omega) w0 h0 (by show w ≤ 5000; omega) (by show h ≤ 5000; omega) (by show w * h ≤ 4000; omega))
      (fm_c (me_box (b := ⟨x, y, w + 1, h⟩) x0 (by show x + (w + 1) ≤ 1500; omega) y0 (by show y + h ≤ 1500; omega) (by show 0 < w + 1; omega) h0 (by show w + 1 ≤ 5000; omega) (by show h ≤ 5000; omega) e1)
      (fm_c (me_box (b := ⟨x, y, w, h + 1⟩) x0 (by show x + w ≤ 1500; omega) y0 (by show y + (h + 1) ≤ 1500; omega) w0 (by show 0 < h + 1; omega) (by show w ≤ 5000; omega) (by show h + 1 ≤ 5000; omega) e2) fm_n)))
  have lS : ([.tup [.int (x + 1), .int y, .int w, .int h], .tup [.int x, .int (y + 1), .int w, .int h], .tup [.int x, .int y, .int (w + 1), .int h], .tup [.int x, .int y, .int w, .int (h + 1)]] : List D).length = 4 := rfl
  generalize ([.tup [.int (x + 1), .int y, .int w, .int h], .tup [.int x, .int (y + 1), .int w, .int h], .tup [.int x, .int y, .int (w + 1), .int h], .tup [.int x, .int y, .int w, .int (h + 1)]] : List D) = S at mS lS
  show dSeq p__law_bent_5 b__law_bent_6 W0 _ _
  refine go_set (v := .tup [.tup [.int x, .int y, .int 1, .int h], .tup [.int (x + 1), .int y, .int w, .int h]]) (by simp only [RD]) ?_
  have mC : ∀ m ∈ ([.tup [.int x, .int y, .int 1, .int h], .tup [.int (x + 1), .int y, .int w, .int h]] : List D), ME m :=
    fm_c (me_box (b := ⟨x, y, 1, h⟩) x0 (by show x + 1 ≤ 1500; omega) y0 (by show y + h ≤ 1500; omega) (by show (0 : Int) < 1; omega) h0 (by show (1 : Int) ≤ 5000; omega) (by show h ≤ 5000; omega) (by show 1 * h ≤ 4000; omega))
      (fm_c (me_box (b := ⟨x + 1, y, w, h⟩) (by show -1300 ≤ x + 1; omega) (by show x + 1 + w ≤ 1500; omega) y0 (by show y + h ≤ 1500; omega) w0 h0 (by show w ≤ 5000; omega) (by show h ≤ 5000; omega) (by show w * h ≤ 4000; omega)) fm_n)
  have lC : ([.tup [.int x, .int y, .int 1, .int h], .tup [.int (x + 1), .int y, .int w, .int h]] : List D).length = 2 := rfl
  generalize ([.tup [.int x, .int y, .int 1, .int h], .tup [.int (x + 1), .int y, .int w, .int h]] : List D) = C at mC lC
  have cut1 : Ev.cutD (p.map bxD) none (some (i : Int)) = (p.take i).map bxD := by rw [cut_to, List.map_take]
  have cut2 : Ev.cutD (p.map bxD) (some ((i : Int) + 1)) none = (p.drop (i + 1)).map bxD := by rw [show (i : Int) + 1 = ((i + 1 : Nat) : Int) from rfl, cut_from, List.map_drop]
  have lA : (p.take i).length ≤ p.length := List.length_take_le' _ _
  have lB : (p.drop (i + 1)).length ≤ p.length := (List.drop_sublist _ _).length_le
  have lAB : (p.take i).length + (p.drop (i + 1)).length ≤ 1920 := by rw [List.length_take, List.length_drop]; omega
  have sA : ∀ b ∈ p.take i, SB b := fun b hb => pb.sb b (List.mem_of_mem_take hb)
  have sB : ∀ b ∈ p.drop (i + 1), SB b := fun b hb => pb.sb b (List.mem_of_mem_drop hb)
  have aA := areaN_sub (List.take_sublist i p)
  have aB := areaN_sub (List.drop_sublist (i + 1) p)
  have pa := pb.ar
  have mid : ∀ M : List D, (∀ m ∈ M, ME m) → M.length ≤ 3 → Bt (.tup ((p.take i).map bxD ++ M ++ (p.drop (i + 1)).map bxD)) := fun M hM hl => bt_mid sA sB hM (by omega) hl (by omega)
  have one : ∀ m : D, ME m → Bt (.tup ((p.take i).map bxD ++ [m] ++ (p.drop (i + 1)).map bxD)) := fun m hm => mid [m] (fm_c hm fm_n) (Nat.le_of_ble_eq_true rfl)
  have w0' : Bt (.tup ((p.take i).map bxD ++ (p.drop (i + 1)).map bxD)) := by have := mid [] fm_n (Nat.le_of_ble_eq_true rfl); rw [List.append_nil] at this; exact this
  have w4 : Bt (.tup (p.map bxD ++ (p.map bxD).take 1)) := by
    have l1 : (p.take 1).length ≤ 1 := by rw [List.length_take]; omega
    have := bt_mid (A := p) (B := p.take 1) (M := []) pb.sb (fun b hb => pb.sb b (List.mem_of_mem_take hb)) fm_n (by omega) (Nat.le_of_ble_eq_true rfl) (by have := areaN_sub (List.take_sublist 1 p); omega)
    rw [List.append_nil, List.map_take] at this
    exact this
  have w5 : Bt (.tup (p.map bxD).reverse) := by
    have ra : areaN p.reverse = areaN p := by unfold areaN; rw [List.map_reverse, List.sum_reverse]
    have := bt_mid (A := p.reverse) (B := []) (M := []) (fun b hb => pb.sb b (List.mem_reverse.mp hb)) (fun _ h => nomatch h) fm_n (by rw [List.length_reverse]; simp only [List.length_nil]; omega) (Nat.le_of_ble_eq_true rfl) (by rw [ra]; show _ + 0 ≤ 6000; omega)
    rw [List.append_nil, List.map_nil, List.append_nil, List.map_reverse] at this
    exact this
  have w6 : Bt (.lst (p.map bxD)) := by
    have := bt_mid (A := p) (B := []) (M := []) pb.sb (fun _ h => nomatch h) fm_n (by simp only [List.length_nil]; omega) (Nat.le_of_ble_eq_true rfl) (by show _ + 0 ≤ 6000; omega)
    rw [List.append_nil, List.map_nil, List.append_nil] at this
    exact ⟨this.ok, this.sz, this.de, fun xs e => (nomatch e), fun xs e => (nomatch e), fun xs e => (nomatch e)⟩
  have lP : (p.map bxD).length = p.length := List.length_map ..
  have lP1 : ((p.map bxD).take 1).length ≤ 1 := by rw [List.length_take]; omega
  have lA' : ((p.take i).map bxD).length ≤ 1920 := by rw [List.length_map]; omega
  have lB' : ((p.drop (i + 1)).map bxD).length ≤ 1920 := by rw [List.length_map]; omega
  generalize p.map bxD = P at *
  generalize (p.take i).map bxD = A at *
  generalize (p.drop (i + 1)).map bxD = B at *
  show b__law_bent_6 W0 (endsD Q) ⟨[.dat (.raw (.ref a)), .dat (.tup P), .dat (.int i), .dat (.int x), .dat (.int y), .dat (.int w), .dat (.int h), .own O, .dat (.lst S), .dat (.tup C), .un], some (a, c + 1)⟩
  simp only [DSIMP, b__law_bent_6, p__law_bent_6, sp__law_draw, spDraw]
  refine ⟨by omega, fun v v0 v1 => ?_⟩
  by_cases c0 : v = 0
  · simp only [DSIMP, b__law_bent_7, p__law_bent_7, eq_true c0, cut1, cut2]
    exact ⟨by omega, q _ _ w0' (by omega)⟩
  by_cases c1 : v = 1
  · simp only [DSIMP, b__law_bent_7, p__law_bent_7, b__law_bent_8, p__law_bent_8, eq_false c0, eq_true c1, cut1, cut2, sp__law_draw, spDraw]
    refine ⟨by omega, fun r r0 r1 => ?_⟩
    obtain ⟨m, hm, em⟩ := at_any (L := O) r0 (by omega)
    simp only [DSIMP, em]
    exact ⟨by omega, by simp only [List.length_append, List.length_cons, List.length_nil]; omega, q _ _ (one m (mO m hm)) (by omega)⟩
  by_cases c2 : v = 2
  · simp only [DSIMP, b__law_bent_7, p__law_bent_7, b__law_bent_8, p__law_bent_8, b__law_bent_9, p__law_bent_9, eq_false c0, eq_false c1, eq_true c2, cut1, cut2, sp__law_draw, spDraw]
    refine ⟨by omega, fun r r0 r1 => ?_⟩
    obtain ⟨m, hm, em⟩ := at_any (L := S) r0 (by omega)
    simp only [DSIMP, em]
    exact ⟨by omega, by simp only [List.length_append, List.length_cons, List.length_nil]; omega, q _ _ (one m (mS m hm)) (by omega)⟩
  by_cases c3 : v = 3
  · simp only [DSIMP, b__law_bent_7, p__law_bent_7, b__law_bent_8, p__law_bent_8, b__law_bent_9, p__law_bent_9, b__law_bent_10, p__law_bent_10, eq_false c0, eq_false c1, eq_false c2, eq_true c3, cut1, cut2]
    exact ⟨by omega, by simp only [List.length_append]; omega, q _ _ (mid C mC (by omega)) (by omega)⟩
  simp only [DSIMP, b__law_bent_7, p__law_bent_7, b__law_bent_8, p__law_bent_8, b__law_bent_9, p__law_bent_9, b__law_bent_10, p__law_bent_10, b__law_bent_11, p__law_bent_11, b__law_bent_11, eq_false c0, eq_false c1, eq_false c2, eq_false c3]
  refine ⟨by omega, ?_⟩
  have h3 : v = 4 ∨ v = 5 ∨ v = 6 := by omega
  rcases h3 with rfl | rfl | rfl
  · exact q _ _ w4 (by omega)
  · exact q _ _ w5 (by omega)
  · exact q _ _ w6 (by omega)
theorem ok__law_bent {P : Program} {w : World} {K : PySem.W.Frag} {mg : Str → Option Value} {base : Heap} (m_len : mg "len" = none) (m_list : mg "list" = none) (K__law_draw_2 : Def P w K mg base 1 "_law_draw" 2 sp__law_draw []) {f : Addr} {fd : FuncData} (F : Fun K "_law_bent" "_law_bent" s__law_bent f fd) : FnG P w K mg base CX0 2 f fd ["_law_pen", "_law_part"] (spD K 2 sp__law_bent) :=
 fn_d0 F sc__law_bent rfl (fun cdv A out s H E g r => run__law_bent m_len m_list K__law_draw_2 cdv A out s H E g r) hsp__law_bent
end Ev01
namespace Ev01
open PySem PySem.Spec PyProof.Rows L2 Ev Pt
local macro_rules
  | `(tactic| simp only [DSIMP, $as,*] $[$l:location]?) => `(tactic| simp only [dMk1, dMk0, rIsSK, rTupleK, rAddK, rNeE, rEL, List.isEmpty_nil, List.isEmpty_cons, gIx, rIsA, rIsS, kitS, kitS.optQB, D.cls, dHGet, dHPut, dBornK, penK_cells, penK_at, penK_left, penK_pat, penK_pleft, penK_len, ex_hpK, dOwnGet2, ownKs, dKpL, dNewKd, dKpLk, rDictPTf, dRaise1, dRaise0, excD, dTry, wTry, Ev.rIsE, Ev.rIsEt, D.xcN, dFldE, dCallVX, WP, exS_tab, dTakeN, dIxN, dKpNew, dKpPut, dKpIns, dKpApp, dKpFz, dRoK, dRoL, dNewK1, dIns, roK, dZipM, dNGet, dNPut, dNewN, isNo, Ev.nGet, Ev.nPut, D.nkey, dOrX, truD, rDictX, dTupN, dSlN, rAddN, rSrtN, rTupleN, rDictN, dSlX, dRevX, dLenSetN, dEmptyV, rLtX, rMulX, Ev.rReprX, dPenS, gStarDL, dAug, dIndexE, dZipS, dGcIn, dGbIx, dGdIn, dGdIx, dListRg, rDictPf, dZipL, dListKo, dEmptyT, dDispT1, dNeE, rListA, rDictPT, rIsTF, dGroup, rSrtA, rLenA, dInV, dIxV, dCount, dSortKo, dCallR, adD, gL, dDN, dLN, wNest, bNest, bEl, bEd, dZip, seqOf, dSortDK, dCallV, dCallLam, optQ, dEnum, D.nf, D.nfs, Ev.rSumD, dLock, dKeysI, gStarD, dReverse, dMove, dDGet2, getD2, D.isD, dDisp, dPairs, keysD, Ev.rMaxD, Ev.rMinD, rDictP, Option.getD_some, Option.getD_none, Ev.D.eq_refl, dPen1, dLenSet, dSrtR, dRo, dRoF, dRoT, roD, ro_un, ro_dat, ro_own, ro_hp, ro_law, ro_ownK, ro_ownT, List.forall_mem_map, flat_int, flat_str, flat_bl, flat_non, solid_int, solid_str, solid_bl, solid_non, solid_tup, solids_nil, solids_cons, dSeq, dNext, dSet, dSetF, setSl, dVar, dTake, dC, dBin, dBinF, dB, dIfS, dIf, dRet, dRetN, dExpr, dNil, dCons, dTup, dLst, dFz, dAnd, dOr, dNot, dAndV, dOrV, dNotV, dCallD, dCallK, dCB, dCBF, dFor, dLC, dYes, dRng1, dRng2, dSeqI, gN, gT, gsNil, gsCons, dAsg, dNeg, dJoin, dFs, dJs, dFmt, dApp, dExt, dPop, dPopAt, dOwnIx, dOwnCB, dOwnL, dOwnR, dOwnSl, dSetIx, dSlT, dSlL, oNone, oSome, dBorn, optQ, ownAt, setOwnAt, lookAt, wipeD, dNewDT, dNewDK, dDGet, dDIn, dDPut, dSortT, rSrt, isDict, Ev.dictGet, Ev.dictPut, Option.isSome_none, Option.isSome_some, D.keyT, keysOf, D.key, exists_eq_left', exists_eq_left, Option.isSome, rRepL, rCatL, dRetF, dIfF, dPar, dRetOwn, dCallL, dCallLK, dPen2, dRev, dRevI, dIndex, endsL, startL, dNever, dBrk, dCnt, rAddD, rSubI, rIO, rMulI, rDivI, rModI, rPowI, rCI, Ev.rIxD, rIsN, rNotN, D.isN, Ev.rLen, rTuple, rList, rAbs, rInt, rStr, Ev.rRepr, Ev.rIsi, D.ty, kit_tab, startD, endsD, List.map_cons, List.map_nil, List.length_cons, List.length_nil, List.append_nil, List.nil_append, List.cons_append, List.getElem?_cons_zero, List.getElem?_cons_succ, List.getElem?_nil, List.set_cons_zero, List.set_cons_succ, List.replicate, List.replicate_succ, Nat.zero_add, Nat.zero_le, sizeLine, true_and, and_true, if_true, Ev.eq_int, Ev.eq_str, Ev.eq_bl, Ev.eq_non, lst_nil, tup_nil, List.map_eq_nil_iff, txt_join, rLt, rLe, rGt, rGe, atI_ofNat, atI_last, wLC, strsOf, intsOf, blsOf, Option.map_some, Ev.join_two, Ev.join_one, Ev.join_nil, List.sum_cons, List.sum_nil, PySem.Str.empty_append, ixN_ofNat, Option.some.injEq, exists_eq', List.length_map, decide_true, decide_false, Bool.not_true, Bool.not_false, Bool.true_eq_false, Bool.false_eq_true, false_and, and_false, if_false, ite_true, ite_false, Nat.reduceAdd, Nat.reduceSub, Nat.reduceMul, Nat.reduceLT, Nat.reduceLeDiff, Nat.reduceEqDiff, Nat.reducePow, Int.reduceToNat, Int.reducePow, pickL, List.filterMap_cons, List.filterMap_nil, and_self, Int.reduceLT, Int.reduceLE, Int.reduceNeg, Int.reduceAdd, Int.reduceMul, Int.reduceSub, Int.reduceEq, reduceIte, reduceCtorEq, lit_eq, String.reduceEq, Ev.rEq, Ev.rNe, Ev.rInD, cut_toN, cut_fromN, List.map_take, List.forall_mem_cons, List.forall_mem_nil, List.not_mem_nil, false_imp_iff, implies_true, forall_const, D.cm, D.lay, D.lays, D.dep, D.deps, strOk_lit, lays_ints, deps_ints, Nat.max_self, Nat.max_zero, Nat.zero_max, Bool.and_self, Bool.true_and, Bool.and_true, Bool.and_false, Bool.false_and, Bool.or_false, Bool.or_true, Bool.true_or, Bool.false_or, List.any_cons, List.any_nil, decide_eq_true_eq, eq_self, $as,*] $[$l]?)
  | `(tactic| simp only [DSIMP] $[$l:location]?) => `(tactic| simp only [dMk1, dMk0, rIsSK, rTupleK, rAddK, rNeE, rEL, List.isEmpty_nil, List.isEmpty_cons, gIx, rIsA, rIsS, kitS, kitS.optQB, D.cls, dHGet, dHPut, dBornK, penK_cells, penK_at, penK_left, penK_pat, penK_pleft, penK_len, ex_hpK, dOwnGet2, ownKs, dKpL, dNewKd, dKpLk, rDictPTf, dRaise1, dRaise0, excD, dTry, wTry, Ev.rIsE, Ev.rIsEt, D.xcN, dFldE, dCallVX, WP, exS_tab, dTakeN, dIxN, dKpNew, dKpPut, dKpIns, dKpApp, dKpFz, dRoK, dRoL, dNewK1, dIns, roK, dZipM, dNGet, dNPut, dNewN, isNo, Ev.nGet, Ev.nPut, D.nkey, dOrX, truD, rDictX, dTupN, dSlN, rAddN, rSrtN, rTupleN, rDictN, dSlX, dRevX, dLenSetN, dEmptyV, rLtX, rMulX, Ev.rReprX, dPenS, gStarDL, dAug, dIndexE, dZipS, dGcIn, dGbIx, dGdIn, dGdIx, dListRg, rDictPf, dZipL, dListKo, dEmptyT, dDispT1, dNeE, rListA, rDictPT, rIsTF, dGroup, rSrtA, rLenA, dInV, dIxV, dCount, dSortKo, dCallR, adD, gL, dDN, dLN, wNest, bNest, bEl, bEd, dZip, seqOf, dSortDK, dCallV, dCallLam, optQ, dEnum, D.nf, D.nfs, Ev.rSumD, dLock, dKeysI, gStarD, dReverse, dMove, dDGet2, getD2, D.isD, dDisp, dPairs, keysD, Ev.rMaxD, Ev.rMinD, rDictP, Option.getD_some, Option.getD_none, Ev.D.eq_refl, dPen1, dLenSet, dSrtR, dRo, dRoF, dRoT, roD, ro_un, ro_dat, ro_own, ro_hp, ro_law, ro_ownK, ro_ownT, List.forall_mem_map, flat_int, flat_str, flat_bl, flat_non, solid_int, solid_str, solid_bl, solid_non, solid_tup, solids_nil, solids_cons, dSeq, dNext, dSet, dSetF, setSl, dVar, dTake, dC, dBin, dBinF, dB, dIfS, dIf, dRet, dRetN, dExpr, dNil, dCons, dTup, dLst, dFz, dAnd, dOr, dNot, dAndV, dOrV, dNotV, dCallD, dCallK, dCB, dCBF, dFor, dLC, dYes, dRng1, dRng2, dSeqI, gN, gT, gsNil, gsCons, dAsg, dNeg, dJoin, dFs, dJs, dFmt, dApp, dExt, dPop, dPopAt, dOwnIx, dOwnCB, dOwnL, dOwnR, dOwnSl, dSetIx, dSlT, dSlL, oNone, oSome, dBorn, optQ, ownAt, setOwnAt, lookAt, wipeD, dNewDT, dNewDK, dDGet, dDIn, dDPut, dSortT, rSrt, isDict, Ev.dictGet, Ev.dictPut, Option.isSome_none, Option.isSome_some, D.keyT, keysOf, D.key, exists_eq_left', exists_eq_left, Option.isSome, rRepL, rCatL, dRetF, dIfF, dPar, dRetOwn, dCallL, dCallLK, dPen2, dRev, dRevI, dIndex, endsL, startL, dNever, dBrk, dCnt, rAddD, rSubI, rIO, rMulI, rDivI, rModI, rPowI, rCI, Ev.rIxD, rIsN, rNotN, D.isN, Ev.rLen, rTuple, rList, rAbs, rInt, rStr, Ev.rRepr, Ev.rIsi, D.ty, kit_tab, startD, endsD, List.map_cons, List.map_nil, List.length_cons, List.length_nil, List.append_nil, List.nil_append, List.cons_append, List.getElem?_cons_zero, List.getElem?_cons_succ, List.getElem?_nil, List.set_cons_zero, List.set_cons_succ, List.replicate, List.replicate_succ, Nat.zero_add, Nat.zero_le, sizeLine, true_and, and_true, if_true, Ev.eq_int, Ev.eq_str, Ev.eq_bl, Ev.eq_non, lst_nil, tup_nil, List.map_eq_nil_iff, txt_join, rLt, rLe, rGt, rGe, atI_ofNat, atI_last, wLC, strsOf, intsOf, blsOf, Option.map_some, Ev.join_two, Ev.join_one, Ev.join_nil, List.sum_cons, List.sum_nil, PySem.Str.empty_append, ixN_ofNat, Option.some.injEq, exists_eq', List.length_map, decide_true, decide_false, Bool.not_true, Bool.not_false, Bool.true_eq_false, Bool.false_eq_true, false_and, and_false, if_false, ite_true, ite_false, Nat.reduceAdd, Nat.reduceSub, Nat.reduceMul, Nat.reduceLT, Nat.reduceLeDiff, Nat.reduceEqDiff, Nat.reducePow, Int.reduceToNat, Int.reducePow, pickL, List.filterMap_cons, List.filterMap_nil, and_self, Int.reduceLT, Int.reduceLE, Int.reduceNeg, Int.reduceAdd, Int.reduceMul, Int.reduceSub, Int.reduceEq, reduceIte, reduceCtorEq, lit_eq, String.reduceEq, Ev.rEq, Ev.rNe, Ev.rInD, cut_toN, cut_fromN, List.map_take, List.forall_mem_cons, List.forall_mem_nil, List.not_mem_nil, false_imp_iff, implies_true, forall_const, D.cm, D.lay, D.lays, D.dep, D.deps, strOk_lit, lays_ints, deps_ints, Nat.max_self, Nat.max_zero, Nat.zero_max, Bool.and_self, Bool.true_and, Bool.and_true, Bool.and_false, Bool.false_and, Bool.or_false, Bool.or_true, Bool.true_or, Bool.false_or, List.any_cons, List.any_nil, decide_eq_true_eq, eq_self] $[$l]?)
variable [TabC] [PkL]
def sp_law : dSp := fun ds p Q _ => ∃ ns : List Int, ds = [.scr ns] ∧ ns.length ≤ 63 ∧ p = none ∧ ∀ p', Q (.bl true) p'
abbrev s_law : Stmt := topS 28
abbrev n_law : List Str := ["_law_script", "_law_pen", "_law_turn", "_law_part", "_law_k", "_law_one", "_law_before", "_law_x", "_law_wide", "_law_fields", "_law_bases", "_law_marks"]
theorem sc_law : FnScope n_law ["_law_script"] (defScope s_law) := ⟨rfl, rfl, rfl, by decide +kernel, rfl, by decide +kernel, by decide +kernel⟩
def p_law_x3_0 : dS := (dSet 5 (dCallD 2 [] sp__law_bent (dCons (dVar 1) (dCons (dVar 3) dNil))))
def p_law_x3_1 : dS := (dSet 6 (dCB rReprX (dCons (dVar 5) dNil)))
def p_law_x3_2 : dS := (dIfS (dOr (dB (dBin (rNe) (dCB rReprX (dCons (dCallD 1 [] sp_is_part (dCons (dVar 5) dNil)) dNil)) (dCB rReprX (dCons (dCallD 1 [] sp__law_is_part (dCons (dVar 5) dNil)) dNil)))) (dB (dBin (rNe) (dCB rReprX (dCons (dVar 5) dNil)) (dVar 6)))) (dRet (dC (.bl false))) dNext)
def b_law_x3_2 : dS := p_law_x3_2
def b_law_x3_1 : dS := dSeq (p_law_x3_1) (b_law_x3_2)
def b_law_x3_0 : dS := dSeq (p_law_x3_0) (b_law_x3_1)
def p_law_x2_0 : dS := (dSet 3 (dCallD 1 [] sp__law_told (dCons (dCallD 1 [] sp__law_spots (dCons (dCallD 2 [] sp__law_boxes (dCons (dVar 1) (dCons (dC (.int 6)) dNil))) dNil)) dNil)))
def p_law_x2_1 : dS := (dIfS (dOr (dB (dBin (rIsTF true) (dCallD 1 [] sp_is_part (dCons (dVar 3) dNil)) (dC (.bl true)))) (dB (dBin (rIsTF true) (dCallK 1 0 1 [0] [] sp_is_part dNil (dCons (dVar 3) dNil)) (dC (.bl true))))) (dRet (dC (.bl false))) dNext)
def p_law_x2_2 : dS := (dFor (dRng1 (dCons (dC (.int 10)) dNil)) (gN 4) b_law_x3_0)
def b_law_x2_2 : dS := p_law_x2_2
def b_law_x2_1 : dS := dSeq (p_law_x2_1) (b_law_x2_2)
def b_law_x2_0 : dS := dSeq (p_law_x2_0) (b_law_x2_1)
def b_law_f1 : dS := (dIfS (dB (dBin (rNe) (dCB rReprX (dCons (dFz (dLst (dCons (dCallD 1 [] sp_is_box (dCons (dVar 5) dNil)) (dCons (dCallK 1 0 1 [0] [] sp_is_box dNil (dCons (dVar 5) dNil)) dNil)))) dNil)) (dCB rReprX (dCons (dFz (dBinF rRepL (dFz (dLst (dCons (dCallD 1 [] sp__law_is_box (dCons (dVar 5) dNil)) dNil))) (dC (.int 2)))) dNil)))) (dRet (dC (.bl false))) dNext)
def b_law_f2 : dS := (dFor (dSeqI (dTup (dCons (dTup (dCons (dVar 7) (dCons (dC (.int 0)) (dCons (dVar 8) (dCons (dC (.int 1)) dNil))))) (dCons (dTup (dCons (dC (.int 0)) (dCons (dVar 7) (dCons (dC (.int 1)) (dCons (dVar 8) dNil))))) (dCons (dTup (dCons (dVar 7) (dCons (dVar 7) (dCons (dVar 8) (dCons (dVar 8) dNil))))) (dCons (dFz (dLst (dCons (dVar 7) (dCons (dC (.int 0)) (dCons (dVar 8) (dCons (dC (.int 1)) dNil)))))) (dCons (dTup (dCons (dVar 7) (dCons (dC (.int 0)) (dCons (dVar 8) dNil)))) dNil))))))) (gN 5) b_law_f1)
def b_law_f3 : dS := (dFor (dSeqI (dTup (dCons (dC (.int 0)) (dCons (dC (.int 1)) (dCons (dC (.int 99)) (dCons (dC (.int 100)) (dCons (dC (.int (-1))) (dCons (dC (.bl true)) (dCons (dC .non) dNil))))))))) (gN 8) b_law_f2)
def b_law_f4 : dS := (dIfS (dOr (dB (dBin (rIsTF true) (dCallD 1 [] sp_is_part (dCons (dVar 5) dNil)) (dC (.bl false)))) (dB (dBin (rIsTF true) (dCallD 1 [] sp_is_box (dCons (dVar 5) dNil)) (dC (.bl false))))) (dRet (dC (.bl false))) dNext)
def p_law_0 : dS := (dSet 1 (dBorn (dLst (dCons (dFz (dCBF rList (dCons (dFz (dSlL (dVar 0) oNone (oSome (dC (.int 63))))) dNil))) (dCons (dC (.int 0)) (dCons (dC (.int 0)) dNil))))))
def p_law_1 : dS := (dFor (dRng1 (dCons (dC (.int 8)) dNil)) (gN 2) b_law_x2_0)
def p_law_2 : dS := (dFor (dSeqI (dTup (dCons (dC (.int (-1000))) (dCons (dC (.int (-999))) (dCons (dC (.int 0)) (dCons (dC (.int 999)) (dCons (dC (.int 1000)) (dCons (dC (.bl true)) (dCons (dC .non) (dCons (dC (.str "1")) (dCons (dBin rPowI (dC (.int 10)) (dC (.int 20))) dNil))))))))))) (gN 7) b_law_f3)
def p_law_3 : dS := (dFor (dSeqI (dTup (dCons (dC .non) (dCons (dC (.bl true)) (dCons (dC (.int 0)) (dCons (dC (.str "")) (dCons (dFz (dLst dNil)) (dCons dEmptyV (dCons (dC (.str "part")) (dCons (dTup (dCons (dTup dNil) dNil)) (dCons (dTup (dCons (dTup (dCons (dC (.int 0)) (dCons (dC (.int 0)) (dCons (dC (.int 1)) (dCons (dC (.int 1)) dNil))))) (dCons (dC .non) dNil))) dNil))))))))))) (gN 5) b_law_f4)
def p_law_4 : dS := (dSet 9 (dFz (dLst (dCons (dFldE [0, 1, 2, 3, 4, 5] "at" (dMk1 3 "at" (dC (.int 3)))) (dCons (dFldE [0, 1, 2, 3, 4, 5] "at" (dMk1 3 "at" (dC .non))) (dCons (dFldE [0, 1, 2, 3, 4, 5] "room" (dMk1 4 "room" (dC (.int 7)))) (dCons (dFldE [0, 1, 2, 3, 4, 5] "room" (dMk1 5 "room" (dC (.str "x")))) dNil)))))))
def p_law_5 : dS := (dSet 10 (dFz (dLst (dCons (dCB (Ev.rIsE [0, 1, 2, 3, 4, 5] 0) (dCons (dMk0 1) (dCons (dC (clD 0)) dNil))) (dCons (dCB (Ev.rIsE [0, 1, 2, 3, 4, 5] 6) (dCons (dMk0 2) (dCons (dC (clD 6)) dNil))) (dCons (dCB (Ev.rIsE [0, 1, 2, 3, 4, 5] 0) (dCons (dMk1 3 "at" (dC (.int 1))) (dCons (dC (clD 0)) dNil))) dNil))))))
def p_law_6 : dS := (dSet 11 (dFz (dLst (dCons (dCB (Ev.rIsE [0, 1, 2, 3, 4, 5] 0) (dCons (dMk1 4 "room" (dC (.int 1))) (dCons (dC (clD 0)) dNil))) (dCons (dCB (Ev.rIsE [0, 1, 2, 3, 4, 5] 0) (dCons (dMk1 5 "room" (dC (.int 1))) (dCons (dC (clD 0)) dNil))) (dCons (dCB (Ev.rIsE [0, 1, 2, 3, 4, 5] 7) (dCons (dMk1 4 "room" (dC (.int 1))) (dCons (dC (clD 7)) dNil))) dNil))))))
def p_law_7 : dS := (dRet (dAndV (dBin (rEq) (dVar 9) (dFz (dLst (dCons (dC (.int 3)) (dCons (dC .non) (dCons (dC (.int 7)) (dCons (dC (.str "x")) dNil))))))) (dAndV (dBin (rEq) (dVar 10) (dFz (dBinF rRepL (dFz (dLst (dCons (dC (.bl true)) dNil))) (dC (.int 3))))) (dAndV (dBin (rEq) (dVar 11) (dFz (dLst (dCons (dC (.bl false)) (dCons (dC (.bl false)) (dCons (dC (.bl true)) dNil)))))) (dBin (rIsTF false) (dCallD 1 [] sp_is_part (dCons (dTup dNil) dNil)) (dC (.bl true)))))))
def b_law_7 : dS := p_law_7
def b_law_6 : dS := dSeq (p_law_6) (b_law_7)
def b_law_5 : dS := dSeq (p_law_5) (b_law_6)
def b_law_4 : dS := dSeq (p_law_4) (b_law_5)
def b_law_3 : dS := dSeq (p_law_3) (b_law_4)
def b_law_2 : dS := dSeq (p_law_2) (b_law_3)
def b_law_1 : dS := dSeq (p_law_1) (b_law_2)
def b_law_0 : dS := dSeq (p_law_0) (b_law_1)
def b_law : dS := b_law_0
theorem run_law {P : Program} {w : World} {K : PySem.W.Frag} {mg : Str → Option Value} {base : Heap} (CLK : ∀ j ∈ ([0, 1, 2, 3, 4, 5, 6, 7] : List Nat), ClsK j) (KIT : KiT K [0, 1, 2, 3, 4, 5] [0, 1, 2, 3, 4, 5, 6, 7]) (NOA : NoF K [0, 1, 2, 3, 4, 5] "at") (NOF : NoF K [0, 1, 2, 3, 4, 5] "room") (RK_NoRoom : RaiseK P w K mg base "NoRoom" 4) (RK_Taken : RaiseK P w K mg base "Taken" 5) (RO_NoBook : RaiseO K mg "NoBook" 1) (RO_NoDeed : RaiseO K mg "NoDeed" 2) (RT_NoText : RaiseT P w K mg base "NoText" 3) (XCC : ∀ i ∈ ([0, 1, 2, 3, 4, 5] : List Nat), XcC K i) (xn_RoomError : mg "RoomError" = some (TabC.xc 0)) (xq_6 : TabC.xc 6 = .type "ValueError") (xq_7 : TabC.xc 7 = .type "KeyError") (m_KeyError : mg "KeyError" = none) (m_ValueError : mg "ValueError" = none) (m_isinstance : mg "isinstance" = none) (m_list : mg "list" = none) (m_range : mg "range" = none) (m_repr : mg "repr" = none) (K__law_bent_2 : Def P w K mg base 2 "_law_bent" 2 sp__law_bent []) (K__law_boxes_2 : Def P w K mg base 2 "_law_boxes" 2 sp__law_boxes []) (K__law_is_box_1 : Def P w K mg base 2 "_law_is_box" 1 sp__law_is_box []) (K__law_is_part_1 : Def P w K mg base 3 "_law_is_part" 1 sp__law_is_part []) (K__law_spots_1 : Def P w K mg base 1 "_law_spots" 1 sp__law_spots []) (K__law_told_1 : Def P w K mg base 2 "_law_told" 1 sp__law_told []) (K_is_box_1 : Def P w K mg base 2 "is_box" 1 sp_is_box []) (K_is_part_1 : Def P w K mg base 4 "is_part" 1 sp_is_part []) (K_is_box_0_thing : DefK P w K mg base 2 "is_box" 1 sp_is_box 0 1 ["thing"] [0] []) (K_is_part_0_thing : DefK P w K mg base 4 "is_part" 1 sp_is_part 0 1 ["thing"] [0] []) {f : Addr} (cdv : Value) (A : Around) (out : List Env) (s : Shared) (H : Hp) (E : XK) (g : A.guards = some []) (hrA : Room 4 (A.deeper (envOfC "law" (defScope s_law) s.heap.objs.size f cdv))) :
  DSs (cx0 P w K mg base n_law "law" (defScope s_law) f cdv A out s H E) E00 (defBody s_law) b_law := by
 have hgA : (A.deeper (envOfC "law" (defScope s_law) s.heap.objs.size f cdv)).guards = some [] := g
 have hun := hrA.un
 exact (dss_cons (t := p_law_0) (u := b_law_1) (ds_set (i := 1) sc_law.nd rfl (by first | exact .inl rfl | exact .inr rfl) (de_born (df_lst (da_cons (de_fz (df_callTy cd_list (by rfl) m_list (by decide +kernel) (da_cons (de_fz (df_slL (de_var (pv 0)) do_none (do_some de_int))) da_nil))) (da_cons de_int (da_cons de_int da_nil))))))
  (dss_cons (t := p_law_1) (u := b_law_2) (ds_for PassesOwn.never rfl (di_range1 (by rfl) m_range (da_cons de_int da_nil)) (dg_name (pg_name (i := 2) sc_law.nd rfl (by first | exact .inl rfl | exact .inr rfl))) (dss_cons (t := p_law_x2_0) (u := b_law_x2_1) (ds_set (i := 3) sc_law.nd rfl (by first | exact .inl rfl | exact .inr rfl) (de_callD K__law_told_1 hgA hrA (by rfl) (da_cons (de_callD K__law_spots_1 hgA hrA (by rfl) (da_cons (de_callD K__law_boxes_2 hgA hrA (by rfl) (da_cons (de_var (pv 1)) (da_cons de_int da_nil))) da_nil)) da_nil)))
  (dss_cons (t := p_law_x2_1) (u := b_law_x2_2) (ds_if ((dw_or (dt_cmp (od_notB) (de_callD K_is_part_1 hgA hrA (by rfl) (da_cons (de_var (pv 3)) da_nil)) de_bl (nomark _)) (dw_or1 (dt_cmp (od_notB) (de_callK0 K_is_part_0_thing hgA hrA (by rfl) (dk_cons (de_var (pv 3)) dk_nil)) de_bl (nomark _))))).dt (dss_one (ds_ret de_bl)) dss_nil)
  (dss_one (t := p_law_x2_2) (ds_for PassesOwn.never rfl (di_range1 (by rfl) m_range (da_cons de_int da_nil)) (dg_name (pg_name (i := 4) sc_law.nd rfl (by first | exact .inl rfl | exact .inr rfl))) (dss_cons (t := p_law_x3_0) (u := b_law_x3_1) (ds_set (i := 5) sc_law.nd rfl (by first | exact .inl rfl | exact .inr rfl) (de_callD K__law_bent_2 hgA hrA (by rfl) (da_cons (de_var (pv 1)) (da_cons (de_var (pv 3)) da_nil))))
  (dss_cons (t := p_law_x3_1) (u := b_law_x3_2) (ds_set (i := 6) sc_law.nd rfl (by first | exact .inl rfl | exact .inr rfl) (de_callB (cd_reprX hgA (Nat.lt_of_le_of_lt (Nat.add_le_add_left (by decide) _) hun)) (by rfl) m_repr Ev.boot_repr (da_cons (de_var (pv 5)) da_nil)))
  (dss_one (t := p_law_x3_2) (ds_if ((dw_or (dt_cmp (od_ne (Nat.lt_of_le_of_lt (Nat.add_le_add_left (by decide) _) hun)) (de_callB (cd_reprX hgA (Nat.lt_of_le_of_lt (Nat.add_le_add_left (by decide) _) hun)) (by rfl) m_repr Ev.boot_repr (da_cons (de_callD K_is_part_1 hgA hrA (by rfl) (da_cons (de_var (pv 5)) da_nil)) da_nil)) (de_callB (cd_reprX hgA (Nat.lt_of_le_of_lt (Nat.add_le_add_left (by decide) _) hun)) (by rfl) m_repr Ev.boot_repr (da_cons (de_callD K__law_is_part_1 hgA hrA (by rfl) (da_cons (de_var (pv 5)) da_nil)) da_nil)) (nomark _)) (dw_or1 (dt_cmp (od_ne (Nat.lt_of_le_of_lt (Nat.add_le_add_left (by decide) _) hun)) (de_callB (cd_reprX hgA (Nat.lt_of_le_of_lt (Nat.add_le_add_left (by decide) _) hun)) (by rfl) m_repr Ev.boot_repr (da_cons (de_var (pv 5)) da_nil)) (de_var (pv 6)) (nomark _))))).dt (dss_one (ds_ret de_bl)) dss_nil)))))))))
  (dss_cons (t := p_law_2) (u := b_law_3) (ds_for PassesOwn.never rfl (di_seq (de_tup (da_cons de_neg (da_cons de_neg (da_cons de_int (da_cons de_int (da_cons de_int (da_cons de_bl (da_cons de_non (da_cons de_str (da_cons (de_op od_pow de_int de_int) da_nil))))))))))) (dg_name (pg_name (i := 7) sc_law.nd rfl (by first | exact .inl rfl | exact .inr rfl))) (dss_one (ds_for PassesOwn.never rfl (di_seq (de_tup (da_cons de_int (da_cons de_int (da_cons de_int (da_cons de_int (da_cons de_neg (da_cons de_bl (da_cons de_non da_nil))))))))) (dg_name (pg_name (i := 8) sc_law.nd rfl (by first | exact .inl rfl | exact .inr rfl))) (dss_one (ds_for PassesOwn.never rfl (di_seq (de_tup (da_cons (de_tup (da_cons (de_var (pv 7)) (da_cons de_int (da_cons (de_var (pv 8)) (da_cons de_int da_nil))))) (da_cons (de_tup (da_cons de_int (da_cons (de_var (pv 7)) (da_cons de_int (da_cons (de_var (pv 8)) da_nil))))) (da_cons (de_tup (da_cons (de_var (pv 7)) (da_cons (de_var (pv 7)) (da_cons (de_var (pv 8)) (da_cons (de_var (pv 8)) da_nil))))) (da_cons (de_fz (df_lst (da_cons (de_var (pv 7)) (da_cons de_int (da_cons (de_var (pv 8)) (da_cons de_int da_nil)))))) (da_cons (de_tup (da_cons (de_var (pv 7)) (da_cons de_int (da_cons (de_var (pv 8)) da_nil)))) da_nil))))))) (dg_name (pg_name (i := 5) sc_law.nd rfl (by first | exact .inl rfl | exact .inr rfl))) (dss_one (ds_if (dt_cmp (od_ne (Nat.lt_of_le_of_lt (Nat.add_le_add_left (by decide) _) hun)) (de_callB (cd_reprX hgA (Nat.lt_of_le_of_lt (Nat.add_le_add_left (by decide) _) hun)) (by rfl) m_repr Ev.boot_repr (da_cons (de_fz (df_lst (da_cons (de_callD K_is_box_1 hgA hrA (by rfl) (da_cons (de_var (pv 5)) da_nil)) (da_cons (de_callK0 K_is_box_0_thing hgA hrA (by rfl) (dk_cons (de_var (pv 5)) dk_nil)) da_nil)))) da_nil)) (de_callB (cd_reprX hgA (Nat.lt_of_le_of_lt (Nat.add_le_add_left (by decide) _) hun)) (by rfl) m_repr Ev.boot_repr (da_cons (de_fz (df_op od_repL (de_fz (df_lst (da_cons (de_callD K__law_is_box_1 hgA hrA (by rfl) (da_cons (de_var (pv 5)) da_nil)) da_nil))) de_int)) da_nil)) (nomark _)) (dss_one (ds_ret de_bl)) dss_nil)))))))
  (dss_cons (t := p_law_3) (u := b_law_4) (ds_for PassesOwn.never rfl (di_seq (de_tup (da_cons de_non (da_cons de_bl (da_cons de_int (da_cons de_str (da_cons (de_fz (df_lst da_nil)) (da_cons de_emptyV (da_cons de_str (da_cons (de_tup (da_cons (de_tup da_nil) da_nil)) (da_cons (de_tup (da_cons (de_tup (da_cons de_int (da_cons de_int (da_cons de_int (da_cons de_int da_nil))))) (da_cons de_non da_nil))) da_nil))))))))))) (dg_name (pg_name (i := 5) sc_law.nd rfl (by first | exact .inl rfl | exact .inr rfl))) (dss_one (ds_if ((dw_or (dt_cmp (od_notB) (de_callD K_is_part_1 hgA hrA (by rfl) (da_cons (de_var (pv 5)) da_nil)) de_bl (nomark _)) (dw_or1 (dt_cmp (od_notB) (de_callD K_is_box_1 hgA hrA (by rfl) (da_cons (de_var (pv 5)) da_nil)) de_bl (nomark _))))).dt (dss_one (ds_ret de_bl)) dss_nil)))
  (dss_cons (t := p_law_4) (u := b_law_5) (ds_set (i := 9) sc_law.nd rfl (by first | exact .inl rfl | exact .inr rfl) (de_fz (df_lst (da_cons (de_fldE XCC NOA (de_mkT RT_NoText hrA (by rfl) de_int)) (da_cons (de_fldE XCC NOA (de_mkT RT_NoText hrA (by rfl) de_non)) (da_cons (de_fldE XCC NOF (de_mkK RK_NoRoom hrA (by rfl) de_int)) (da_cons (de_fldE XCC NOF (de_mkK RK_Taken hrA (by rfl) de_str)) da_nil)))))))
  (dss_cons (t := p_law_5) (u := b_law_6) (ds_set (i := 10) sc_law.nd rfl (by first | exact .inl rfl | exact .inr rfl) (de_fz (df_lst (da_cons (de_callB (cd_isE XCC (KIT.sub (by decide)) (CLK 0 (by decide))) (by rfl) m_isinstance (by decide +kernel) (da_cons (de_mkO RO_NoBook (by rfl)) (da_cons (de_clN (j := 0) (CLK 0 (by decide)) (by rfl) xn_RoomError) da_nil))) (da_cons (de_callB (cd_isE XCC (KIT.sub (by decide)) (CLK 6 (by decide))) (by rfl) m_isinstance (by decide +kernel) (da_cons (de_mkO RO_NoDeed (by rfl)) (da_cons (de_clT xq_6 (by rfl) m_ValueError (by decide +kernel)) da_nil))) (da_cons (de_callB (cd_isE XCC (KIT.sub (by decide)) (CLK 0 (by decide))) (by rfl) m_isinstance (by decide +kernel) (da_cons (de_mkT RT_NoText hrA (by rfl) de_int) (da_cons (de_clN (j := 0) (CLK 0 (by decide)) (by rfl) xn_RoomError) da_nil))) da_nil))))))
  (dss_cons (t := p_law_6) (u := b_law_7) (ds_set (i := 11) sc_law.nd rfl (by first | exact .inl rfl | exact .inr rfl) (de_fz (df_lst (da_cons (de_callB (cd_isE XCC (KIT.sub (by decide)) (CLK 0 (by decide))) (by rfl) m_isinstance (by decide +kernel) (da_cons (de_mkK RK_NoRoom hrA (by rfl) de_int) (da_cons (de_clN (j := 0) (CLK 0 (by decide)) (by rfl) xn_RoomError) da_nil))) (da_cons (de_callB (cd_isE XCC (KIT.sub (by decide)) (CLK 0 (by decide))) (by rfl) m_isinstance (by decide +kernel) (da_cons (de_mkK RK_Taken hrA (by rfl) de_int) (da_cons (de_clN (j := 0) (CLK 0 (by decide)) (by rfl) xn_RoomError) da_nil))) (da_cons (de_callB (cd_isE XCC (KIT.sub (by decide)) (CLK 7 (by decide))) (by rfl) m_isinstance (by decide +kernel) (da_cons (de_mkK RK_NoRoom hrA (by rfl) de_int) (da_cons (de_clT xq_7 (by rfl) m_KeyError (by decide +kernel)) da_nil))) da_nil))))))
  (dss_one (t := p_law_7) (ds_ret (de_and (de_cmp (od_eq (Nat.lt_of_le_of_lt (Nat.add_le_add_left (by decide) _) hun)) (de_var (pv 9)) (de_fz (df_lst (da_cons de_int (da_cons de_non (da_cons de_int (da_cons de_str da_nil)))))) (nomark _)) (de_and (de_cmp (od_eq (Nat.lt_of_le_of_lt (Nat.add_le_add_left (by decide) _) hun)) (de_var (pv 10)) (de_fz (df_op od_repL (de_fz (df_lst (da_cons de_bl da_nil))) de_int)) (nomark _)) (de_and (de_cmp (od_eq (Nat.lt_of_le_of_lt (Nat.add_le_add_left (by decide) _) hun)) (de_var (pv 11)) (de_fz (df_lst (da_cons de_bl (da_cons de_bl (da_cons de_bl da_nil))))) (nomark _)) (de_one (de_cmp (od_isB) (de_callD K_is_part_1 hgA hrA (by rfl) (da_cons (de_tup da_nil) da_nil)) de_bl (nomark _)))))))))))))))
abbrev lwS (s0 : Sl) (a : Addr) (s2 s3 s4 s5 s6 s7 s8 : Sl) : List Sl := [s0, .dat (.raw (.ref a)), s2, s3, s4, s5, s6, s7, s8, .un, .un, .un]
theorem bls_sm {b : Bool} : (D.lst [.bl b, .bl b]).smR 64 (2 ^ 20) := by
  cases b
  · exact ⟨by decide +kernel, by decide +kernel, by decide +kernel⟩
  · exact ⟨by decide +kernel, by decide +kernel, by decide +kernel⟩
theorem bl_sm {b : Bool} : (D.bl b).smR 64 (2 ^ 20) := by
  cases b
  · exact ⟨by decide +kernel, by decide +kernel, by decide +kernel⟩
  · exact ⟨by decide +kernel, by decide +kernel, by decide +kernel⟩
theorem Bt.sm {d : D} (t : Bt d) : d.smR 64 (2 ^ 20) := ⟨okN_R great_lt _ t.ok, by have := t.sz; omega, by have := t.de; omega⟩
/-- one bent part -/
theorem turn_bent {N : dEnds} {s0 s2 s4 s5 s6 s7 s8 : Sl} {a : Addr} {c : Nat} {p : List Bx} (hc : c + 20 < 65536) (pb : PB p)
    (hN : ∀ s5 s6 c2, c2 ≤ c + 3 → N.nx ⟨lwS s0 a s2 (.dat (partD p)) s4 s5 s6 s7 s8, some (a, c2)⟩) : b_law_x3_0 W0 N ⟨lwS s0 a s2 (.dat (partD p)) s4 s5 s6 s7 s8, some (a, c)⟩ := by
  unfold lwS at hN ⊢
  simp only [DSIMP, b_law_x3_0, p_law_x3_0, sp__law_bent]
  refine ⟨a, c, p, rfl, rfl, by omega, pb, fun d c1 t h1 => ?_⟩
  have sm := t.sm
  have rp := sm.rep
  have sb : (D.bl (partOk d)).smR 64 (2 ^ 20) := bl_sm
  have rb := sb.rep
  simp only [DSIMP, b_law_x3_1, p_law_x3_1, sm, rp]
  simp only [DSIMP, b_law_x3_2, p_law_x3_2, b_law_x3_2, sp_is_part, sp__law_is_part]
  refine ⟨d, rfl, t, ?_⟩
  simp only [DSIMP, sb, rb]
  refine ⟨d, rfl, t, ?_⟩
  simp only [DSIMP, sb, rb, sm, rp]
  exact hN _ _ _ h1
theorem area_one {p : List Bx} (h : ∀ b ∈ p, 0 < b.w ∧ 0 < b.h) : ∀ b ∈ p, b.w * b.h ≤ area p := by
  induction p with
  | nil => exact fun _ h => (nomatch h)
  | cons c p ih =>
    have hc := h c List.mem_cons_self
    have ih := ih fun b hb => h b (List.mem_cons_of_mem _ hb)
    have pos : (0 : Int) ≤ area p := Int.le_trans (Int.natCast_nonneg _) (area_ge fun b hb => h b (List.mem_cons_of_mem _ hb))
    have e : area (c :: p) = c.w * c.h + area p := by unfold area; rw [List.map_cons, List.sum_cons]
    have cp : 0 ≤ c.w * c.h := Int.mul_nonneg (by omega) (by omega)
    intro b hb
    rw [e]
    rcases List.mem_cons.mp hb with rfl | hb
    · omega
    · have := ih b hb; omega
theorem areaN_area {p : List Bx} (h : ∀ b ∈ p, 0 < b.w ∧ 0 < b.h) : ((areaN p : Nat) : Int) = area p := by
  induction p with
  | nil => rfl
  | cons c p ih =>
    have hc := h c List.mem_cons_self
    rw [areaN_cons, Int.natCast_add, ih fun b hb => h b (List.mem_cons_of_mem _ hb), toNat_mul (by omega) (by omega)]
    unfold area
    rw [List.map_cons, List.sum_cons]
theorem PB.bt {p : List Bx} (pb : PB p) : Bt (partD p) := by
  have pl := pb.ln
  have pa := pb.ar
  have := bt_mid (A := p) (B := []) (M := []) pb.sb (fun _ h => nomatch h) fm_n (by simp only [List.length_nil]; omega) (Nat.le_of_ble_eq_true rfl) (by show _ + 0 ≤ 6000; omega)
  rw [List.append_nil, List.map_nil, List.append_nil] at this
  exact this
theorem PB.yes {p : List Bx} (pb : PB p) (cp : Can p) : partOk (partD p) = true := by
  show partOk (.tup (p.map bxD)) = true
  rw [partOk_some (boxesO_map pb.sb)]
  exact @decide_eq_true _ (Classical.propDecidable _) cp
theorem okB_area {bs : List Bx} (h : ∀ b ∈ bs, okB 8 b) : areaN bs ≤ 240 * bs.length := by
  induction bs with
  | nil => exact Nat.le_refl _
  | cons b bs ih =>
    have ih := ih fun c hc => h c (List.mem_cons_of_mem _ hc)
    have o := h b List.mem_cons_self
    have a1 := o.w0
    have a2 := o.w1
    have a3 := o.h0
    have a4 := o.h1
    have m : b.w.toNat * b.h.toNat ≤ 240 := by
      rcases o.z with z | z
      · exact Nat.mul_le_mul (show b.w.toNat ≤ 6 by omega) (show b.h.toNat ≤ 40 by omega)
      · exact Nat.mul_le_mul (show b.w.toNat ≤ 40 by omega) (show b.h.toNat ≤ 6 by omega)
    rw [areaN_cons, List.length_cons]
    omega
theorem turn_law {N : dEnds} {s0 s2 s3 s4 s5 s6 s7 s8 : Sl} {a : Addr} {c : Nat} (hc : c + 200 < 65536)
    (hN : ∀ s3 s4 s5 s6 c2, c2 ≤ c + 100 → N.nx ⟨lwS s0 a s2 s3 s4 s5 s6 s7 s8, some (a, c2)⟩) : b_law_x2_0 W0 N ⟨lwS s0 a s2 s3 s4 s5 s6 s7 s8, some (a, c)⟩ := by
  unfold lwS at hN ⊢
  simp only [DSIMP, b_law_x2_0, p_law_x2_0, sp__law_boxes]
  refine ⟨a, c, 6, rfl, rfl, by decide, by omega, fun bs c1 lb hb h1 => ?_⟩
  have ab := okB_area hb
  have spot : ∀ {x y : Int}, inP bs x y = true → (-999 ≤ x ∧ x < 1260) ∧ -999 ≤ y ∧ y < 1260 := fun {x y} h => by
    obtain ⟨b, hb', z⟩ := inP_iff.mp h
    have o := hb b hb'
    have a1 := o.x0
    have a2 := o.x1
    have a3 := o.y0
    have a4 := o.y1
    have a5 := o.w1
    have a6 := o.h1
    omega
  refine ⟨_, bs, rfl, .inl rfl, by omega, fun b hb' => by have o := hb b hb'; have := o.w0; have := o.w1; have := o.h0; have := o.h1; omega, by omega, fun L nd hL ll => ?_⟩
  refine ⟨_, L, -1300, -1300, rfl, by show some (keyD (spotsD L)) = _; rw [key_spots], nd, by omega, fun s hs => by have := spot ((hL s).mp hs); omega, fun p cp ep wp _ => ?_⟩
  have w2 : Win (-1400) (-1400) p := can_win cp fun x y h => by
    rw [ep] at h
    have := spot ((hL (x, y)).mp (of_decide_eq_true h))
    omega
  obtain ⟨ar, pl⟩ := can_count (lx := -1300) (ly := -1300) cp ep nd fun s hs => by have := spot ((hL s).mp hs); omega
  have bx := can_box cp
  have pb : PB p := by
    refine ⟨fun b hb' => ?_, by omega, by have := areaN_area bx; omega⟩
    have z1 := wp b hb'
    have z2 := w2 b hb'
    have := area_one bx b hb'
    exact .of (by omega) (by omega) (by omega) (by omega) (by omega) (by omega) (by omega)
  have yes := pb.yes cp
  have bt := pb.bt
  simp only [DSIMP, b_law_x2_1, p_law_x2_1, sp_is_part]
  refine ⟨_, rfl, bt, ?_⟩
  rw [yes]
  simp only [DSIMP]
  refine ⟨_, rfl, bt, ?_⟩
  rw [yes]
  simp only [DSIMP, b_law_x2_2, p_law_x2_2, b_law_x2_2]
  refine wFor_ind (fun ds δ => ∃ s4 s5 s6 c', c' + 3 * ds.length ≤ c1 + 30 ∧ δ = ⟨lwS s0 a s2 (.dat (partD p)) s4 s5 s6 s7 s8, some (a, c')⟩) ?_ ?_ _ _ ⟨_, _, _, c1, by rw [intsFrom_len]; exact Nat.le_refl _, rfl⟩
  · rintro d ds _ kk hk ⟨s4, s5, s6, c', h2, rfl⟩
    simp only [List.length_cons] at h2
    have t := turn_bent (N := { N with nx := kk, ct := kk, bk := N.nx }) (s0 := s0) (s2 := s2) (s4 := .dat d) (s5 := s5) (s6 := s6) (s7 := s7) (s8 := s8) (a := a) (c := c') (p := p) (by omega) pb fun s5 s6 c2 h3 => hk _ ⟨_, s5, s6, c2, by omega, rfl⟩
    unfold lwS at t ⊢
    simp only [DSIMP]
    exact t
  rintro _ ⟨s4, s5, s6, c2, h2, rfl⟩
  simp only [List.length_nil] at h2
  exact hN _ _ _ _ _ (by omega)
/-- one box looked at -/
theorem turn_bx {N : dEnds} {s0 s2 s3 s4 s6 s7 s8 : Sl} {a : Addr} {pe : Pen} {d : D} (ok : okN great d = true) (hN : ∀ s5, N.nx ⟨lwS s0 a s2 s3 s4 s5 s6 s7 s8, pe⟩) : b_law_f1 W0 N ⟨lwS s0 a s2 s3 s4 (.dat d) s6 s7 s8, pe⟩ := by
  unfold lwS at hN ⊢
  have sm := bls_sm (b := boxB d)
  have rp := sm.rep
  simp only [DSIMP, b_law_f1, sp_is_box, sp__law_is_box, spLook]
  refine ⟨d, rfl, ok, d, rfl, ok, ?_⟩
  simp only [DSIMP, sm, rp]
  refine ⟨d, rfl, ok, ?_⟩
  have e2 : [[D.bl (boxB d)], [D.bl (boxB d)]].flatten = [D.bl (boxB d), D.bl (boxB d)] := rfl
  simp only [DSIMP, e2, sm, rp]
  exact hN _
theorem go_forT {δ : DS} {r : dA} {g : dG} {b : dS} {N : dEnds} {vs : List D} (hr : RdA δ r vs) (hl : vs.length ≤ 100) (q : wFor g b W0 N vs δ) : dFor (dSeqI (dTup r)) g b W0 N δ := hr _ ⟨hundred hl, q⟩
theorem rd_20 {δ : DS} : RdE δ (dBin rPowI (dC (.int 10)) (dC (.int 20))) (.int 100000000000000000000) := fun Q q => by
  have e : (10 : Int) ^ Int.toNat 20 = 100000000000000000000 := by decide +kernel
  refine ⟨by unfold CPow; decide, ?_⟩
  show Q (.int ((10 : Int) ^ Int.toNat 20)) δ
  rw [e]; exact q
local macro_rules
  | `(tactic| simp only [RD]) => `(tactic| repeat' first
  | exact rd_c | exact rd_var rfl | exact rd_nil | exact rd_emp | exact rd_no | exact rd_20
  | apply rd_so | apply rd_sl | apply rd_revT | apply rd_listT | apply rd_addI
  | apply rd_cons | apply rd_tup | apply rd_lst | apply rd_fz | exact Nat.le_of_ble_eq_true rfl)
theorem turn_five {N : dEnds} {s0 s2 s3 s4 s5 s6 : Sl} {a : Addr} {pe : Pen} {x w : D} (ox : okN great x = true) (ow : okN great w = true) (hN : ∀ s5, N.nx ⟨lwS s0 a s2 s3 s4 s5 s6 (.dat x) (.dat w), pe⟩) : b_law_f2 W0 N ⟨lwS s0 a s2 s3 s4 s5 s6 (.dat x) (.dat w), pe⟩ := by
  unfold b_law_f2 lwS
  refine go_forT (vs := [.tup [x, .int 0, w, .int 1], .tup [.int 0, x, .int 1, w], .tup [x, x, w, w], .lst [x, .int 0, w, .int 1], .tup [x, .int 0, w]]) (by simp only [RD]) (Nat.le_of_ble_eq_true rfl) ?_
  have g0 : okN great (.int 0) = true := by decide +kernel
  have g1 : okN great (.int 1) = true := by decide +kernel
  have ok : ∀ d ∈ ([.tup [x, .int 0, w, .int 1], .tup [.int 0, x, .int 1, w], .tup [x, x, w, w], .lst [x, .int 0, w, .int 1], .tup [x, .int 0, w]] : List D), okN great d = true := by
    refine fm_c ?_ (fm_c ?_ (fm_c ?_ (fm_c ?_ (fm_c ?_ fm_n))))
    · show (okN great x && (okN great (.int 0) && (okN great w && (okN great (.int 1) && true)))) = true
      rw [ox, ow, g0, g1]; rfl
    · show (okN great (.int 0) && (okN great x && (okN great (.int 1) && (okN great w && true)))) = true
      rw [ox, ow, g0, g1]; rfl
    · show (okN great x && (okN great x && (okN great w && (okN great w && true)))) = true
      rw [ox, ow]; rfl
    · show (okN great x && (okN great (.int 0) && (okN great w && (okN great (.int 1) && true)))) = true
      rw [ox, ow, g0, g1]; rfl
    · show (okN great x && (okN great (.int 0) && (okN great w && true))) = true
      rw [ox, ow, g0]; rfl
  generalize ([.tup [x, .int 0, w, .int 1], .tup [.int 0, x, .int 1, w], .tup [x, x, w, w], .lst [x, .int 0, w, .int 1], .tup [x, .int 0, w]] : List D) = L at ok
  refine wFor_ind (fun ds δ => ∃ s5, (∀ d ∈ ds, okN great d = true) ∧ δ = ⟨lwS s0 a s2 s3 s4 s5 s6 (.dat x) (.dat w), pe⟩) ?_ ?_ _ _ ⟨s5, ok, rfl⟩
  · rintro d ds _ kk hk ⟨s5, h, rfl⟩
    have t := turn_bx (N := { N with nx := kk, ct := kk, bk := N.nx }) (s0 := s0) (s2 := s2) (s3 := s3) (s4 := s4) (s6 := s6) (s7 := .dat x) (s8 := .dat w) (a := a) (pe := pe) (h d List.mem_cons_self) fun s5 => hk _ ⟨s5, fun y hy => h y (List.mem_cons_of_mem _ hy), rfl⟩
    unfold lwS at t ⊢
    simp only [DSIMP]
    exact t
  · rintro _ ⟨s5, _, rfl⟩
    exact hN _
theorem turn_wide {N : dEnds} {s0 s2 s3 s4 s5 s6 s8 : Sl} {a : Addr} {pe : Pen} {x : D} (ox : okN great x = true) (hN : ∀ s5 s8, N.nx ⟨lwS s0 a s2 s3 s4 s5 s6 (.dat x) s8, pe⟩) : b_law_f3 W0 N ⟨lwS s0 a s2 s3 s4 s5 s6 (.dat x) s8, pe⟩ := by
  unfold b_law_f3 lwS
  refine go_forT (vs := [.int 0, .int 1, .int 99, .int 100, .int (-1), .bl true, .non]) (by simp only [RD]) (Nat.le_of_ble_eq_true rfl) ?_
  have ok : ∀ d ∈ ([.int 0, .int 1, .int 99, .int 100, .int (-1), .bl true, .non] : List D), okN great d = true := List.all_eq_true.mp (by decide +kernel)
  generalize ([.int 0, .int 1, .int 99, .int 100, .int (-1), .bl true, .non] : List D) = L at ok
  refine wFor_ind (fun ds δ => ∃ s5 s8, (∀ d ∈ ds, okN great d = true) ∧ δ = ⟨lwS s0 a s2 s3 s4 s5 s6 (.dat x) s8, pe⟩) ?_ ?_ _ _ ⟨s5, s8, ok, rfl⟩
  · rintro d ds _ kk hk ⟨s5, s8, h, rfl⟩
    have t := turn_five (N := { N with nx := kk, ct := kk, bk := N.nx }) (s0 := s0) (s2 := s2) (s3 := s3) (s4 := s4) (s5 := s5) (s6 := s6) (a := a) (pe := pe) ox (h d List.mem_cons_self) fun s5 => hk _ ⟨s5, _, fun y hy => h y (List.mem_cons_of_mem _ hy), rfl⟩
    unfold lwS at t ⊢
    simp only [DSIMP]
    exact t
  · rintro _ ⟨s5, s8, _, rfl⟩
    exact hN _ _
theorem odd_bt : ∀ d ∈ ([.non, .bl true, .int 0, .str "", .lst [], .dT [], .str "part", .tup [.tup []], .tup [.tup [.int 0, .int 0, .int 1, .int 1], .non]] : List D), okN great d = true ∧ boxB d = false ∧ Bt d ∧ partOk d = false := by
  have tr : ∀ {d : D}, okN great d = true → d.szR ≤ 900000 → d.deR ≤ 8 → (∀ xs, d ≠ .tup xs) → Bt d := fun a b c h => ⟨a, b, c, fun xs e => absurd e (h xs), fun xs e => absurd e (h xs), fun xs e => absurd e (h xs)⟩
  have s0 : okN great (.str "") = true := strOk_lit _
  have s1 : okN great (.str "part") = true := strOk_lit _
  refine fm_c ⟨rfl, rfl, tr rfl (by decide) (by decide) (fun _ => nofun), rfl⟩ (fm_c ⟨rfl, rfl, tr rfl (by decide) (by decide) (fun _ => nofun), rfl⟩ (fm_c ⟨by decide +kernel, rfl, tr (by decide +kernel) (by decide) (by decide) (fun _ => nofun), rfl⟩ (fm_c ⟨s0, rfl, tr s0 (by decide +kernel) (by decide) (fun _ => nofun), rfl⟩ (fm_c ⟨rfl, rfl, tr rfl (by decide) (by decide) (fun _ => nofun), rfl⟩ (fm_c ⟨rfl, rfl, tr rfl (by decide) (by decide) (fun _ => nofun), rfl⟩ (fm_c ⟨s1, rfl, tr s1 (by decide +kernel) (by decide) (fun _ => nofun), rfl⟩ (fm_c ⟨rfl, rfl, ?_, partOk_none rfl⟩ (fm_c ⟨by decide +kernel, rfl, ?_, partOk_none rfl⟩ fm_n))))))))
  · refine ⟨rfl, by decide, by decide, fun xs e => by cases e; decide, fun xs e d hd b hb => ?_, fun xs e bs hb => ?_⟩
    · cases e
      rw [List.mem_singleton] at hd
      subst hd
      cases hb
    · cases e
      cases hb
  · refine ⟨by decide +kernel, by decide, by decide, fun xs e => by cases e; decide, fun xs e d hd b hb => ?_, fun xs e bs hb => by cases e; cases hb⟩
    cases e
    simp only [List.mem_cons, List.not_mem_nil, or_false] at hd
    rcases hd with rfl | rfl
    · cases hb
      exact bnd_of (by decide) (by decide) (by decide) (by decide) (by decide) (by decide) (by decide) (by decide) (by decide)
    · cases hb
theorem turn_odd {N : dEnds} {s0 s2 s3 s4 s6 s7 s8 : Sl} {a : Addr} {pe : Pen} {d : D} (h : okN great d = true ∧ boxB d = false ∧ Bt d ∧ partOk d = false) (hN : ∀ s5, N.nx ⟨lwS s0 a s2 s3 s4 s5 s6 s7 s8, pe⟩) : b_law_f4 W0 N ⟨lwS s0 a s2 s3 s4 (.dat d) s6 s7 s8, pe⟩ := by
  obtain ⟨h1, h2, h3, h4⟩ := h
  unfold lwS at hN ⊢
  simp only [DSIMP, b_law_f4, sp_is_part, sp_is_box, spLook]
  refine ⟨d, rfl, h3, ?_⟩
  rw [h4]
  simp only [DSIMP]
  refine ⟨d, rfl, h1, ?_⟩
  rw [h2]
  exact hN _
theorem hsp_law : ∀ ds p Q W, ds.length = 1 → sp_law ds p Q W → b_law W0 (endsD Q) (startD n_law.length ds p) := by
  rintro _ _ Q W - ⟨ns, rfl, hl, rfl, q⟩
  simp only [DSIMP, b_law, b_law_0, p_law_0, b_law_1, p_law_1]
  refine ⟨ns.take 63, 0, 0, 0, by rw [← List.map_take]; rfl, by rw [List.length_take]; omega, by decide, by decide, by decide, fun a => ?_⟩
  refine wFor_ind (fun ds δ => ∃ s2 s3 s4 s5 s6 c', c' + 100 * ds.length ≤ 800 ∧ δ = ⟨lwS (.dat (.scr ns)) a s2 s3 s4 s5 s6 .un .un, some (a, c')⟩) ?_ ?_ _ _ ⟨_, _, _, _, _, 0, by rw [intsFrom_len]; decide, rfl⟩
  · rintro d ds _ kk hk ⟨s2, s3, s4, s5, s6, c', hc', rfl⟩
    simp only [List.length_cons] at hc'
    have t := turn_law (N := { (endsD Q) with nx := kk, ct := kk, bk := fun δ' => b_law_2 W0 (endsD Q) δ' }) (s0 := .dat (.scr ns)) (s2 := .dat d) (s3 := s3) (s4 := s4) (s5 := s5) (s6 := s6) (s7 := .un) (s8 := .un) (a := a) (c := c') (by omega) fun s3 s4 s5 s6 c2 h2 => hk _ ⟨_, s3, s4, s5, s6, c2, by omega, rfl⟩
    unfold lwS at t ⊢
    simp only [DSIMP]
    exact t
  rintro _ ⟨s2, s3, s4, s5, s6, c', _, rfl⟩
  show dSeq p_law_2 b_law_3 W0 (endsD Q) _
  refine go_forT (N := { (endsD Q) with nx := fun δ' => b_law_3 W0 (endsD Q) δ' }) (vs := [.int (-1000), .int (-999), .int 0, .int 999, .int 1000, .bl true, .non, .str "1", .int 100000000000000000000]) (by simp only [RD]) (Nat.le_of_ble_eq_true rfl) ?_
  have ok : ∀ d ∈ ([.int (-1000), .int (-999), .int 0, .int 999, .int 1000, .bl true, .non, .str "1", .int 100000000000000000000] : List D), okN great d = true := List.all_eq_true.mp (by decide +kernel)
  generalize ([.int (-1000), .int (-999), .int 0, .int 999, .int 1000, .bl true, .non, .str "1", .int 100000000000000000000] : List D) = L at ok
  refine wFor_ind (fun ds δ => ∃ s5 s7 s8, (∀ d ∈ ds, okN great d = true) ∧ δ = ⟨lwS (.dat (.scr ns)) a s2 s3 s4 s5 s6 s7 s8, some (a, c')⟩) ?_ ?_ _ _ ⟨s5, _, _, ok, rfl⟩
  · rintro d ds _ kk hk ⟨s5, s7, s8, h, rfl⟩
    have t := turn_wide (N := { (endsD Q) with nx := kk, ct := kk, bk := fun δ' => b_law_3 W0 (endsD Q) δ' }) (s0 := .dat (.scr ns)) (s2 := s2) (s3 := s3) (s4 := s4) (s5 := s5) (s6 := s6) (s8 := s8) (a := a) (pe := some (a, c')) (h d List.mem_cons_self) fun s5 s8 => hk _ ⟨s5, _, s8, fun y hy => h y (List.mem_cons_of_mem _ hy), rfl⟩
    unfold lwS at t ⊢
    simp only [DSIMP]
    exact t
  rintro _ ⟨s5, s7, s8, _, rfl⟩
  show dSeq p_law_3 b_law_4 W0 (endsD Q) _
  refine go_forT (N := { (endsD Q) with nx := fun δ' => b_law_4 W0 (endsD Q) δ' }) (vs := [.non, .bl true, .int 0, .str "", .lst [], .dT [], .str "part", .tup [.tup []], .tup [.tup [.int 0, .int 0, .int 1, .int 1], .non]]) (by simp only [RD]) (Nat.le_of_ble_eq_true rfl) ?_
  have od := odd_bt
  generalize ([.non, .bl true, .int 0, .str "", .lst [], .dT [], .str "part", .tup [.tup []], .tup [.tup [.int 0, .int 0, .int 1, .int 1], .non]] : List D) = L2 at od
  refine wFor_ind (fun ds δ => ∃ s5, (∀ d ∈ ds, okN great d = true ∧ boxB d = false ∧ Bt d ∧ partOk d = false) ∧ δ = ⟨lwS (.dat (.scr ns)) a s2 s3 s4 s5 s6 s7 s8, some (a, c')⟩) ?_ ?_ _ _ ⟨s5, od, rfl⟩
  · rintro d ds _ kk hk ⟨s5, h, rfl⟩
    have t := turn_odd (N := { (endsD Q) with nx := kk, ct := kk, bk := fun δ' => b_law_4 W0 (endsD Q) δ' }) (s0 := .dat (.scr ns)) (s2 := s2) (s3 := s3) (s4 := s4) (s6 := s6) (s7 := s7) (s8 := s8) (a := a) (pe := some (a, c')) (h d List.mem_cons_self) fun s5 => hk _ ⟨s5, fun y hy => h y (List.mem_cons_of_mem _ hy), rfl⟩
    unfold lwS at t ⊢
    simp only [DSIMP]
    exact t
  rintro _ ⟨s5, _, rfl⟩
  unfold lwS
  have b0 : Bt (.tup []) := by
    refine ⟨rfl, by decide, by decide, fun xs e => ?_, fun xs e d hd => ?_, fun xs e bs hb => ?_⟩
    · cases e; decide
    · cases e; cases hd
    · cases e; cases hb; decide
  have y0 : partOk (.tup []) = true := by
    rw [partOk_some (bs := []) rfl]
    exact @decide_eq_true _ (Classical.propDecidable _) can_nil
  simp only [DSIMP, b_law_4, p_law_4]
  refine ⟨by decide, by decide, by decide, by decide, ?_⟩
  simp only [DSIMP, b_law_5, p_law_5]
  refine ⟨by decide, by decide, by decide, ?_⟩
  simp only [DSIMP, b_law_6, p_law_6]
  refine ⟨by decide, by decide, by decide, ?_⟩
  simp only [DSIMP, b_law_7, p_law_7, b_law_7, sp_is_part]
  refine ⟨⟨rfl, by decide⟩, _, rfl, b0, ?_⟩
  rw [y0]
  exact q _
theorem ok_law {P : Program} {w : World} {K : PySem.W.Frag} {mg : Str → Option Value} {base : Heap} (CLK : ∀ j ∈ ([0, 1, 2, 3, 4, 5, 6, 7] : List Nat), ClsK j) (KIT : KiT K [0, 1, 2, 3, 4, 5] [0, 1, 2, 3, 4, 5, 6, 7]) (NOA : NoF K [0, 1, 2, 3, 4, 5] "at") (NOF : NoF K [0, 1, 2, 3, 4, 5] "room") (RK_NoRoom : RaiseK P w K mg base "NoRoom" 4) (RK_Taken : RaiseK P w K mg base "Taken" 5) (RO_NoBook : RaiseO K mg "NoBook" 1) (RO_NoDeed : RaiseO K mg "NoDeed" 2) (RT_NoText : RaiseT P w K mg base "NoText" 3) (XCC : ∀ i ∈ ([0, 1, 2, 3, 4, 5] : List Nat), XcC K i) (xn_RoomError : mg "RoomError" = some (TabC.xc 0)) (xq_6 : TabC.xc 6 = .type "ValueError") (xq_7 : TabC.xc 7 = .type "KeyError") (m_KeyError : mg "KeyError" = none) (m_ValueError : mg "ValueError" = none) (m_isinstance : mg "isinstance" = none) (m_list : mg "list" = none) (m_range : mg "range" = none) (m_repr : mg "repr" = none) (K__law_bent_2 : Def P w K mg base 2 "_law_bent" 2 sp__law_bent []) (K__law_boxes_2 : Def P w K mg base 2 "_law_boxes" 2 sp__law_boxes []) (K__law_is_box_1 : Def P w K mg base 2 "_law_is_box" 1 sp__law_is_box []) (K__law_is_part_1 : Def P w K mg base 3 "_law_is_part" 1 sp__law_is_part []) (K__law_spots_1 : Def P w K mg base 1 "_law_spots" 1 sp__law_spots []) (K__law_told_1 : Def P w K mg base 2 "_law_told" 1 sp__law_told []) (K_is_box_1 : Def P w K mg base 2 "is_box" 1 sp_is_box []) (K_is_part_1 : Def P w K mg base 4 "is_part" 1 sp_is_part []) (K_is_box_0_thing : DefK P w K mg base 2 "is_box" 1 sp_is_box 0 1 ["thing"] [0] []) (K_is_part_0_thing : DefK P w K mg base 4 "is_part" 1 sp_is_part 0 1 ["thing"] [0] []) {f : Addr} {fd : FuncData} (F : Fun K "law" "law" s_law f fd) : FnG P w K mg base CX0 5 f fd ["_law_script"] (spD K 1 sp_law) :=
 fn_d0 F sc_law rfl (fun cdv A out s H E g r => run_law CLK KIT NOA NOF RK_NoRoom RK_Taken RO_NoBook RO_NoDeed RT_NoText XCC xn_RoomError xq_6 xq_7 m_KeyError m_ValueError m_isinstance m_list m_range m_repr K__law_bent_2 K__law_boxes_2 K__law_is_box_1 K__law_is_part_1 K__law_spots_1 K__law_told_1 K_is_box_1 K_is_part_1 K_is_box_0_thing K_is_part_0_thing cdv A out s H E g r) hsp_law
end Ev01
namespace Ev01
open PySem PySem.Spec PyProof.Rows L2 Ev Pt
local macro_rules
  | `(tactic| simp only [DSIMP, $as,*] $[$l:location]?) => `(tactic| simp only [dMk1, dMk0, rIsSK, rTupleK, rAddK, rNeE, rEL, List.isEmpty_nil, List.isEmpty_cons, gIx, rIsA, rIsS, kitS, kitS.optQB, D.cls, dHGet, dHPut, dBornK, penK_cells, penK_at, penK_left, penK_pat, penK_pleft, penK_len, ex_hpK, dOwnGet2, ownKs, dKpL, dNewKd, dKpLk, rDictPTf, dRaise1, dRaise0, excD, dTry, wTry, Ev.rIsE, Ev.rIsEt, D.xcN, dFldE, dCallVX, WP, exS_tab, dTakeN, dIxN, dKpNew, dKpPut, dKpIns, dKpApp, dKpFz, dRoK, dRoL, dNewK1, dIns, roK, dZipM, dNGet, dNPut, dNewN, isNo, Ev.nGet, Ev.nPut, D.nkey, dOrX, truD, rDictX, dTupN, dSlN, rAddN, rSrtN, rTupleN, rDictN, dSlX, dRevX, dLenSetN, dEmptyV, rLtX, rMulX, Ev.rReprX, dPenS, gStarDL, dAug, dIndexE, dZipS, dGcIn, dGbIx, dGdIn, dGdIx, dListRg, rDictPf, dZipL, dListKo, dEmptyT, dDispT1, dNeE, rListA, rDictPT, rIsTF, dGroup, rSrtA, rLenA, dInV, dIxV, dCount, dSortKo, dCallR, adD, gL, dDN, dLN, wNest, bNest, bEl, bEd, dZip, seqOf, dSortDK, dCallV, dCallLam, optQ, dEnum, D.nf, D.nfs, Ev.rSumD, dLock, dKeysI, gStarD, dReverse, dMove, dDGet2, getD2, D.isD, dDisp, dPairs, keysD, Ev.rMaxD, Ev.rMinD, rDictP, Option.getD_some, Option.getD_none, Ev.D.eq_refl, dPen1, dLenSet, dSrtR, dRo, dRoF, dRoT, roD, ro_un, ro_dat, ro_own, ro_hp, ro_law, ro_ownK, ro_ownT, List.forall_mem_map, flat_int, flat_str, flat_bl, flat_non, solid_int, solid_str, solid_bl, solid_non, solid_tup, solids_nil, solids_cons, dSeq, dNext, dSet, dSetF, setSl, dVar, dTake, dC, dBin, dBinF, dB, dIfS, dIf, dRet, dRetN, dExpr, dNil, dCons, dTup, dLst, dFz, dAnd, dOr, dNot, dAndV, dOrV, dNotV, dCallD, dCallK, dCB, dCBF, dFor, dLC, dYes, dRng1, dRng2, dSeqI, gN, gT, gsNil, gsCons, dAsg, dNeg, dJoin, dFs, dJs, dFmt, dApp, dExt, dPop, dPopAt, dOwnIx, dOwnCB, dOwnL, dOwnR, dOwnSl, dSetIx, dSlT, dSlL, oNone, oSome, dBorn, optQ, ownAt, setOwnAt, lookAt, wipeD, dNewDT, dNewDK, dDGet, dDIn, dDPut, dSortT, rSrt, isDict, Ev.dictGet, Ev.dictPut, Option.isSome_none, Option.isSome_some, D.keyT, keysOf, D.key, exists_eq_left', exists_eq_left, Option.isSome, rRepL, rCatL, dRetF, dIfF, dPar, dRetOwn, dCallL, dCallLK, dPen2, dRev, dRevI, dIndex, endsL, startL, dNever, dBrk, dCnt, rAddD, rSubI, rIO, rMulI, rDivI, rModI, rPowI, rCI, Ev.rIxD, rIsN, rNotN, D.isN, Ev.rLen, rTuple, rList, rAbs, rInt, rStr, Ev.rRepr, Ev.rIsi, D.ty, kit_tab, startD, endsD, List.map_cons, List.map_nil, List.length_cons, List.length_nil, List.append_nil, List.nil_append, List.cons_append, List.getElem?_cons_zero, List.getElem?_cons_succ, List.getElem?_nil, List.set_cons_zero, List.set_cons_succ, List.replicate, List.replicate_succ, Nat.zero_add, Nat.zero_le, sizeLine, true_and, and_true, if_true, Ev.eq_int, Ev.eq_str, Ev.eq_bl, Ev.eq_non, lst_nil, tup_nil, List.map_eq_nil_iff, txt_join, rLt, rLe, rGt, rGe, atI_ofNat, atI_last, wLC, strsOf, intsOf, blsOf, Option.map_some, Ev.join_two, Ev.join_one, Ev.join_nil, List.sum_cons, List.sum_nil, PySem.Str.empty_append, ixN_ofNat, Option.some.injEq, exists_eq', List.length_map, decide_true, decide_false, Bool.not_true, Bool.not_false, Bool.true_eq_false, Bool.false_eq_true, false_and, and_false, if_false, ite_true, ite_false, Nat.reduceAdd, Nat.reduceSub, Nat.reduceMul, Nat.reduceLT, Nat.reduceLeDiff, Nat.reduceEqDiff, Nat.reducePow, Int.reduceToNat, Int.reducePow, pickL, List.filterMap_cons, List.filterMap_nil, and_self, Int.reduceLT, Int.reduceLE, Int.reduceNeg, Int.reduceAdd, Int.reduceMul, Int.reduceSub, Int.reduceEq, reduceIte, reduceCtorEq, lit_eq, String.reduceEq, Ev.rEq, Ev.rNe, Ev.rInD, cut_toN, cut_fromN, List.map_take, List.forall_mem_cons, List.forall_mem_nil, List.not_mem_nil, false_imp_iff, implies_true, forall_const, D.cm, D.lay, D.lays, D.dep, D.deps, strOk_lit, lays_ints, deps_ints, Nat.max_self, Nat.max_zero, Nat.zero_max, Bool.and_self, Bool.true_and, Bool.and_true, Bool.and_false, Bool.false_and, Bool.or_false, Bool.or_true, Bool.true_or, Bool.false_or, List.any_cons, List.any_nil, decide_eq_true_eq, eq_self, $as,*] $[$l]?)
  | `(tactic| simp only [DSIMP] $[$l:location]?) => `(tactic| simp only [dMk1, dMk0, rIsSK, rTupleK, rAddK, rNeE, rEL, List.isEmpty_nil, List.isEmpty_cons, gIx, rIsA, rIsS, kitS, kitS.optQB, D.cls, dHGet, dHPut, dBornK, penK_cells, penK_at, penK_left, penK_pat, penK_pleft, penK_len, ex_hpK, dOwnGet2, ownKs, dKpL, dNewKd, dKpLk, rDictPTf, dRaise1, dRaise0, excD, dTry, wTry, Ev.rIsE, Ev.rIsEt, D.xcN, dFldE, dCallVX, WP, exS_tab, dTakeN, dIxN, dKpNew, dKpPut, dKpIns, dKpApp, dKpFz, dRoK, dRoL, dNewK1, dIns, roK, dZipM, dNGet, dNPut, dNewN, isNo, Ev.nGet, Ev.nPut, D.nkey, dOrX, truD, rDictX, dTupN, dSlN, rAddN, rSrtN, rTupleN, rDictN, dSlX, dRevX, dLenSetN, dEmptyV, rLtX, rMulX, Ev.rReprX, dPenS, gStarDL, dAug, dIndexE, dZipS, dGcIn, dGbIx, dGdIn, dGdIx, dListRg, rDictPf, dZipL, dListKo, dEmptyT, dDispT1, dNeE, rListA, rDictPT, rIsTF, dGroup, rSrtA, rLenA, dInV, dIxV, dCount, dSortKo, dCallR, adD, gL, dDN, dLN, wNest, bNest, bEl, bEd, dZip, seqOf, dSortDK, dCallV, dCallLam, optQ, dEnum, D.nf, D.nfs, Ev.rSumD, dLock, dKeysI, gStarD, dReverse, dMove, dDGet2, getD2, D.isD, dDisp, dPairs, keysD, Ev.rMaxD, Ev.rMinD, rDictP, Option.getD_some, Option.getD_none, Ev.D.eq_refl, dPen1, dLenSet, dSrtR, dRo, dRoF, dRoT, roD, ro_un, ro_dat, ro_own, ro_hp, ro_law, ro_ownK, ro_ownT, List.forall_mem_map, flat_int, flat_str, flat_bl, flat_non, solid_int, solid_str, solid_bl, solid_non, solid_tup, solids_nil, solids_cons, dSeq, dNext, dSet, dSetF, setSl, dVar, dTake, dC, dBin, dBinF, dB, dIfS, dIf, dRet, dRetN, dExpr, dNil, dCons, dTup, dLst, dFz, dAnd, dOr, dNot, dAndV, dOrV, dNotV, dCallD, dCallK, dCB, dCBF, dFor, dLC, dYes, dRng1, dRng2, dSeqI, gN, gT, gsNil, gsCons, dAsg, dNeg, dJoin, dFs, dJs, dFmt, dApp, dExt, dPop, dPopAt, dOwnIx, dOwnCB, dOwnL, dOwnR, dOwnSl, dSetIx, dSlT, dSlL, oNone, oSome, dBorn, optQ, ownAt, setOwnAt, lookAt, wipeD, dNewDT, dNewDK, dDGet, dDIn, dDPut, dSortT, rSrt, isDict, Ev.dictGet, Ev.dictPut, Option.isSome_none, Option.isSome_some, D.keyT, keysOf, D.key, exists_eq_left', exists_eq_left, Option.isSome, rRepL, rCatL, dRetF, dIfF, dPar, dRetOwn, dCallL, dCallLK, dPen2, dRev, dRevI, dIndex, endsL, startL, dNever, dBrk, dCnt, rAddD, rSubI, rIO, rMulI, rDivI, rModI, rPowI, rCI, Ev.rIxD, rIsN, rNotN, D.isN, Ev.rLen, rTuple, rList, rAbs, rInt, rStr, Ev.rRepr, Ev.rIsi, D.ty, kit_tab, startD, endsD, List.map_cons, List.map_nil, List.length_cons, List.length_nil, List.append_nil, List.nil_append, List.cons_append, List.getElem?_cons_zero, List.getElem?_cons_succ, List.getElem?_nil, List.set_cons_zero, List.set_cons_succ, List.replicate, List.replicate_succ, Nat.zero_add, Nat.zero_le, sizeLine, true_and, and_true, if_true, Ev.eq_int, Ev.eq_str, Ev.eq_bl, Ev.eq_non, lst_nil, tup_nil, List.map_eq_nil_iff, txt_join, rLt, rLe, rGt, rGe, atI_ofNat, atI_last, wLC, strsOf, intsOf, blsOf, Option.map_some, Ev.join_two, Ev.join_one, Ev.join_nil, List.sum_cons, List.sum_nil, PySem.Str.empty_append, ixN_ofNat, Option.some.injEq, exists_eq', List.length_map, decide_true, decide_false, Bool.not_true, Bool.not_false, Bool.true_eq_false, Bool.false_eq_true, false_and, and_false, if_false, ite_true, ite_false, Nat.reduceAdd, Nat.reduceSub, Nat.reduceMul, Nat.reduceLT, Nat.reduceLeDiff, Nat.reduceEqDiff, Nat.reducePow, Int.reduceToNat, Int.reducePow, pickL, List.filterMap_cons, List.filterMap_nil, and_self, Int.reduceLT, Int.reduceLE, Int.reduceNeg, Int.reduceAdd, Int.reduceMul, Int.reduceSub, Int.reduceEq, reduceIte, reduceCtorEq, lit_eq, String.reduceEq, Ev.rEq, Ev.rNe, Ev.rInD, cut_toN, cut_fromN, List.map_take, List.forall_mem_cons, List.forall_mem_nil, List.not_mem_nil, false_imp_iff, implies_true, forall_const, D.cm, D.lay, D.lays, D.dep, D.deps, strOk_lit, lays_ints, deps_ints, Nat.max_self, Nat.max_zero, Nat.zero_max, Bool.and_self, Bool.true_and, Bool.and_true, Bool.and_false, Bool.false_and, Bool.or_false, Bool.or_true, Bool.true_or, Bool.false_or, List.any_cons, List.any_nil, decide_eq_true_eq, eq_self] $[$l]?)
variable [TabC] [PkL]
end Ev01
namespace Ev01
open PySem PySem.Spec PyProof.Rows L2 Ev
def clsFirst (s : Stmt) : Stmt := match s with
  | .ClassDef (body := b :: _) .. => b
  | s => s
theorem all_mk {l : PySem.W.OpenLaw} {ts : List Addr} {w : World} {K : PySem.W.Frag} {h : Heap} {mg : Str → Option Value} {fa a__law_stretches a__law_told a__law_spots a__law_draw a__law_bent a_part_by a_joined_stretches a_bands_of a_part_of a_is_part_box a_is_part a__law_boxes a_is_from_to a_is_box a__law_whole a__law_is_part a__law_is_box a_law : Addr} (X : K.In h) (G : h.Ns mainGlobals mg) (hfa : mg "law" = some (.ref fa))
 {od__law_stretches an__law_stretches : Option Addr} {sl__law_stretches : Array (Option Value)} {oc__law_stretches kV__law_stretches dc__law_stretches pm__law_stretches cd__law_stretches ct__law_stretches : Value}
 (n__law_stretches_ : PySem.W.nsIn K mainGlobals "_law_stretches" = some (some (.ref a__law_stretches))) (l__law_stretches : K.lookup a__law_stretches = some ⟨oc__law_stretches, od__law_stretches, .func (PySem.W.fnOf "_law_stretches" "_law_stretches" (defArgs s__law_stretches) (defBody s__law_stretches) (defScope s__law_stretches) .none kV__law_stretches dc__law_stretches pm__law_stretches an__law_stretches cd__law_stretches ct__law_stretches), sl__law_stretches⟩) (c__law_stretches : PySem.W.codeIn K cd__law_stretches "_law_stretches" = true) (k__law_stretches : PySem.W.keepIn K (.ref a__law_stretches) = true)
 {od__law_told an__law_told : Option Addr} {sl__law_told : Array (Option Value)} {oc__law_told kV__law_told dc__law_told pm__law_told cd__law_told ct__law_told : Value}
 (n__law_told_ : PySem.W.nsIn K mainGlobals "_law_told" = some (some (.ref a__law_told))) (l__law_told : K.lookup a__law_told = some ⟨oc__law_told, od__law_told, .func (PySem.W.fnOf "_law_told" "_law_told" (defArgs s__law_told) (defBody s__law_told) (defScope s__law_told) .none kV__law_told dc__law_told pm__law_told an__law_told cd__law_told ct__law_told), sl__law_told⟩) (c__law_told : PySem.W.codeIn K cd__law_told "_law_told" = true) (k__law_told : PySem.W.keepIn K (.ref a__law_told) = true)
 {od__law_spots an__law_spots : Option Addr} {sl__law_spots : Array (Option Value)} {oc__law_spots kV__law_spots dc__law_spots pm__law_spots cd__law_spots ct__law_spots : Value}
 (n__law_spots_ : PySem.W.nsIn K mainGlobals "_law_spots" = some (some (.ref a__law_spots))) (l__law_spots : K.lookup a__law_spots = some ⟨oc__law_spots, od__law_spots, .func (PySem.W.fnOf "_law_spots" "_law_spots" (defArgs s__law_spots) (defBody s__law_spots) (defScope s__law_spots) .none kV__law_spots dc__law_spots pm__law_spots an__law_spots cd__law_spots ct__law_spots), sl__law_spots⟩) (c__law_spots : PySem.W.codeIn K cd__law_spots "_law_spots" = true) (k__law_spots : PySem.W.keepIn K (.ref a__law_spots) = true)
 {od__law_draw an__law_draw : Option Addr} {sl__law_draw : Array (Option Value)} {oc__law_draw kV__law_draw dc__law_draw pm__law_draw cd__law_draw ct__law_draw : Value}
 (n__law_draw_ : PySem.W.nsIn K mainGlobals "_law_draw" = some (some (.ref a__law_draw))) (l__law_draw : K.lookup a__law_draw = some ⟨oc__law_draw, od__law_draw, .func (PySem.W.fnOf "_law_draw" "_law_draw" (defArgs s__law_draw) (defBody s__law_draw) (defScope s__law_draw) .none kV__law_draw dc__law_draw pm__law_draw an__law_draw cd__law_draw ct__law_draw), sl__law_draw⟩) (c__law_draw : PySem.W.codeIn K cd__law_draw "_law_draw" = true) (k__law_draw : PySem.W.keepIn K (.ref a__law_draw) = true)
 {od__law_bent an__law_bent : Option Addr} {sl__law_bent : Array (Option Value)} {oc__law_bent kV__law_bent dc__law_bent pm__law_bent cd__law_bent ct__law_bent : Value}
 (n__law_bent_ : PySem.W.nsIn K mainGlobals "_law_bent" = some (some (.ref a__law_bent))) (l__law_bent : K.lookup a__law_bent = some ⟨oc__law_bent, od__law_bent, .func (PySem.W.fnOf "_law_bent" "_law_bent" (defArgs s__law_bent) (defBody s__law_bent) (defScope s__law_bent) .none kV__law_bent dc__law_bent pm__law_bent an__law_bent cd__law_bent ct__law_bent), sl__law_bent⟩) (c__law_bent : PySem.W.codeIn K cd__law_bent "_law_bent" = true) (k__law_bent : PySem.W.keepIn K (.ref a__law_bent) = true)
 {od_part_by an_part_by : Option Addr} {sl_part_by : Array (Option Value)} {oc_part_by kV_part_by dc_part_by pm_part_by cd_part_by ct_part_by : Value}
 (n_part_by_ : PySem.W.nsIn K mainGlobals "part_by" = some (some (.ref a_part_by))) (l_part_by : K.lookup a_part_by = some ⟨oc_part_by, od_part_by, .func (PySem.W.fnOf "part_by" "part_by" (defArgs s_part_by) (defBody s_part_by) (defScope s_part_by) .none kV_part_by dc_part_by pm_part_by an_part_by cd_part_by ct_part_by), sl_part_by⟩) (c_part_by : PySem.W.codeIn K cd_part_by "part_by" = true) (k_part_by : PySem.W.keepIn K (.ref a_part_by) = true)
 {od_joined_stretches an_joined_stretches : Option Addr} {sl_joined_stretches : Array (Option Value)} {oc_joined_stretches kV_joined_stretches dc_joined_stretches pm_joined_stretches cd_joined_stretches ct_joined_stretches : Value}
 (n_joined_stretches_ : PySem.W.nsIn K mainGlobals "joined_stretches" = some (some (.ref a_joined_stretches))) (l_joined_stretches : K.lookup a_joined_stretches = some ⟨oc_joined_stretches, od_joined_stretches, .func (PySem.W.fnOf "joined_stretches" "joined_stretches" (defArgs s_joined_stretches) (defBody s_joined_stretches) (defScope s_joined_stretches) .none kV_joined_stretches dc_joined_stretches pm_joined_stretches an_joined_stretches cd_joined_stretches ct_joined_stretches), sl_joined_stretches⟩) (c_joined_stretches : PySem.W.codeIn K cd_joined_stretches "joined_stretches" = true) (k_joined_stretches : PySem.W.keepIn K (.ref a_joined_stretches) = true)
 {od_bands_of an_bands_of : Option Addr} {sl_bands_of : Array (Option Value)} {oc_bands_of kV_bands_of dc_bands_of pm_bands_of cd_bands_of ct_bands_of : Value}
 (n_bands_of_ : PySem.W.nsIn K mainGlobals "bands_of" = some (some (.ref a_bands_of))) (l_bands_of : K.lookup a_bands_of = some ⟨oc_bands_of, od_bands_of, .func (PySem.W.fnOf "bands_of" "bands_of" (defArgs s_bands_of) (defBody s_bands_of) (defScope s_bands_of) .none kV_bands_of dc_bands_of pm_bands_of an_bands_of cd_bands_of ct_bands_of), sl_bands_of⟩) (c_bands_of : PySem.W.codeIn K cd_bands_of "bands_of" = true) (k_bands_of : PySem.W.keepIn K (.ref a_bands_of) = true)
 {od_part_of an_part_of : Option Addr} {sl_part_of : Array (Option Value)} {oc_part_of kV_part_of dc_part_of pm_part_of cd_part_of ct_part_of : Value}
 (n_part_of_ : PySem.W.nsIn K mainGlobals "part_of" = some (some (.ref a_part_of))) (l_part_of : K.lookup a_part_of = some ⟨oc_part_of, od_part_of, .func (PySem.W.fnOf "part_of" "part_of" (defArgs s_part_of) (defBody s_part_of) (defScope s_part_of) .none kV_part_of dc_part_of pm_part_of an_part_of cd_part_of ct_part_of), sl_part_of⟩) (c_part_of : PySem.W.codeIn K cd_part_of "part_of" = true) (k_part_of : PySem.W.keepIn K (.ref a_part_of) = true)
 {od_is_part_box an_is_part_box : Option Addr} {sl_is_part_box : Array (Option Value)} {oc_is_part_box kV_is_part_box dc_is_part_box pm_is_part_box cd_is_part_box ct_is_part_box : Value}
 (n_is_part_box_ : PySem.W.nsIn K mainGlobals "is_part_box" = some (some (.ref a_is_part_box))) (l_is_part_box : K.lookup a_is_part_box = some ⟨oc_is_part_box, od_is_part_box, .func (PySem.W.fnOf "is_part_box" "is_part_box" (defArgs s_is_part_box) (defBody s_is_part_box) (defScope s_is_part_box) .none kV_is_part_box dc_is_part_box pm_is_part_box an_is_part_box cd_is_part_box ct_is_part_box), sl_is_part_box⟩) (c_is_part_box : PySem.W.codeIn K cd_is_part_box "is_part_box" = true) (k_is_part_box : PySem.W.keepIn K (.ref a_is_part_box) = true)
 {od_is_part an_is_part : Option Addr} {sl_is_part : Array (Option Value)} {oc_is_part kV_is_part dc_is_part pm_is_part cd_is_part ct_is_part : Value}
 (n_is_part_ : PySem.W.nsIn K mainGlobals "is_part" = some (some (.ref a_is_part))) (l_is_part : K.lookup a_is_part = some ⟨oc_is_part, od_is_part, .func (PySem.W.fnOf "is_part" "is_part" (defArgs s_is_part) (defBody s_is_part) (defScope s_is_part) .none kV_is_part dc_is_part pm_is_part an_is_part cd_is_part ct_is_part), sl_is_part⟩) (c_is_part : PySem.W.codeIn K cd_is_part "is_part" = true) (k_is_part : PySem.W.keepIn K (.ref a_is_part) = true)
 {od__law_boxes an__law_boxes : Option Addr} {sl__law_boxes : Array (Option Value)} {oc__law_boxes kV__law_boxes dc__law_boxes pm__law_boxes cd__law_boxes ct__law_boxes : Value}
 (n__law_boxes_ : PySem.W.nsIn K mainGlobals "_law_boxes" = some (some (.ref a__law_boxes))) (l__law_boxes : K.lookup a__law_boxes = some ⟨oc__law_boxes, od__law_boxes, .func (PySem.W.fnOf "_law_boxes" "_law_boxes" (defArgs s__law_boxes) (defBody s__law_boxes) (defScope s__law_boxes) .none kV__law_boxes dc__law_boxes pm__law_boxes an__law_boxes cd__law_boxes ct__law_boxes), sl__law_boxes⟩) (c__law_boxes : PySem.W.codeIn K cd__law_boxes "_law_boxes" = true) (k__law_boxes : PySem.W.keepIn K (.ref a__law_boxes) = true)
 {od_is_from_to an_is_from_to : Option Addr} {sl_is_from_to : Array (Option Value)} {oc_is_from_to kV_is_from_to dc_is_from_to pm_is_from_to cd_is_from_to ct_is_from_to : Value}
 (n_is_from_to_ : PySem.W.nsIn K mainGlobals "is_from_to" = some (some (.ref a_is_from_to))) (l_is_from_to : K.lookup a_is_from_to = some ⟨oc_is_from_to, od_is_from_to, .func (PySem.W.fnOf "is_from_to" "is_from_to" (defArgs s_is_from_to) (defBody s_is_from_to) (defScope s_is_from_to) .none kV_is_from_to dc_is_from_to pm_is_from_to an_is_from_to cd_is_from_to ct_is_from_to), sl_is_from_to⟩) (c_is_from_to : PySem.W.codeIn K cd_is_from_to "is_from_to" = true) (k_is_from_to : PySem.W.keepIn K (.ref a_is_from_to) = true)
 {od_is_box an_is_box : Option Addr} {sl_is_box : Array (Option Value)} {oc_is_box kV_is_box dc_is_box pm_is_box cd_is_box ct_is_box : Value}
 (n_is_box_ : PySem.W.nsIn K mainGlobals "is_box" = some (some (.ref a_is_box))) (l_is_box : K.lookup a_is_box = some ⟨oc_is_box, od_is_box, .func (PySem.W.fnOf "is_box" "is_box" (defArgs s_is_box) (defBody s_is_box) (defScope s_is_box) .none kV_is_box dc_is_box pm_is_box an_is_box cd_is_box ct_is_box), sl_is_box⟩) (c_is_box : PySem.W.codeIn K cd_is_box "is_box" = true) (k_is_box : PySem.W.keepIn K (.ref a_is_box) = true)
 {od__law_whole an__law_whole : Option Addr} {sl__law_whole : Array (Option Value)} {oc__law_whole kV__law_whole dc__law_whole pm__law_whole cd__law_whole ct__law_whole : Value}
 (n__law_whole_ : PySem.W.nsIn K mainGlobals "_law_whole" = some (some (.ref a__law_whole))) (l__law_whole : K.lookup a__law_whole = some ⟨oc__law_whole, od__law_whole, .func (PySem.W.fnOf "_law_whole" "_law_whole" (defArgs s__law_whole) (defBody s__law_whole) (defScope s__law_whole) .none kV__law_whole dc__law_whole pm__law_whole an__law_whole cd__law_whole ct__law_whole), sl__law_whole⟩) (c__law_whole : PySem.W.codeIn K cd__law_whole "_law_whole" = true) (k__law_whole : PySem.W.keepIn K (.ref a__law_whole) = true)
 {od__law_is_part an__law_is_part : Option Addr} {sl__law_is_part : Array (Option Value)} {oc__law_is_part kV__law_is_part dc__law_is_part pm__law_is_part cd__law_is_part ct__law_is_part : Value}
 (n__law_is_part_ : PySem.W.nsIn K mainGlobals "_law_is_part" = some (some (.ref a__law_is_part))) (l__law_is_part : K.lookup a__law_is_part = some ⟨oc__law_is_part, od__law_is_part, .func (PySem.W.fnOf "_law_is_part" "_law_is_part" (defArgs s__law_is_part) (defBody s__law_is_part) (defScope s__law_is_part) .none kV__law_is_part dc__law_is_part pm__law_is_part an__law_is_part cd__law_is_part ct__law_is_part), sl__law_is_part⟩) (c__law_is_part : PySem.W.codeIn K cd__law_is_part "_law_is_part" = true) (k__law_is_part : PySem.W.keepIn K (.ref a__law_is_part) = true)
 {od__law_is_box an__law_is_box : Option Addr} {sl__law_is_box : Array (Option Value)} {oc__law_is_box kV__law_is_box dc__law_is_box pm__law_is_box cd__law_is_box ct__law_is_box : Value}
 (n__law_is_box_ : PySem.W.nsIn K mainGlobals "_law_is_box" = some (some (.ref a__law_is_box))) (l__law_is_box : K.lookup a__law_is_box = some ⟨oc__law_is_box, od__law_is_box, .func (PySem.W.fnOf "_law_is_box" "_law_is_box" (defArgs s__law_is_box) (defBody s__law_is_box) (defScope s__law_is_box) .none kV__law_is_box dc__law_is_box pm__law_is_box an__law_is_box cd__law_is_box ct__law_is_box), sl__law_is_box⟩) (c__law_is_box : PySem.W.codeIn K cd__law_is_box "_law_is_box" = true) (k__law_is_box : PySem.W.keepIn K (.ref a__law_is_box) = true)
 {od_law an_law : Option Addr} {sl_law : Array (Option Value)} {oc_law kV_law dc_law pm_law cd_law ct_law : Value}
 (n_law_ : PySem.W.nsIn K mainGlobals "law" = some (some (.ref a_law))) (l_law : K.lookup a_law = some ⟨oc_law, od_law, .func (PySem.W.fnOf "law" "law" (defArgs s_law) (defBody s_law) (defScope s_law) .none kV_law dc_law pm_law an_law cd_law ct_law), sl_law⟩) (c_law : PySem.W.codeIn K cd_law "law" = true) (k_law : PySem.W.keepIn K (.ref a_law) = true)
 {t_FAR : Tok} (g_FAR : PySem.W.nsIn K mainGlobals "FAR" = some (some (.int 999 t_FAR))) {t_MOST_WIDE : Tok} (g_MOST_WIDE : PySem.W.nsIn K mainGlobals "MOST_WIDE" = some (some (.int 99 t_MOST_WIDE))) (z_KeyError : PySem.W.nsIn K mainGlobals "KeyError" = some none) (z_ValueError : PySem.W.nsIn K mainGlobals "ValueError" = some none) (z_abs : PySem.W.nsIn K mainGlobals "abs" = some none) (z_all : PySem.W.nsIn K mainGlobals "all" = some none) (z_bool : PySem.W.nsIn K mainGlobals "bool" = some none) (z_int : PySem.W.nsIn K mainGlobals "int" = some none) (z_isinstance : PySem.W.nsIn K mainGlobals "isinstance" = some none) (z_len : PySem.W.nsIn K mainGlobals "len" = some none) (z_list : PySem.W.nsIn K mainGlobals "list" = some none) (z_max : PySem.W.nsIn K mainGlobals "max" = some none) (z_range : PySem.W.nsIn K mainGlobals "range" = some none) (z_repr : PySem.W.nsIn K mainGlobals "repr" = some none) (z_sorted : PySem.W.nsIn K mainGlobals "sorted" = some none) (z_tuple : PySem.W.nsIn K mainGlobals "tuple" = some none) (z_zip : PySem.W.nsIn K mainGlobals "zip" = some none) {C_0 : Addr} {C_1 : Addr} {C_2 : Addr} {C_3 : Addr} {C_4 : Addr} {C_5 : Addr} {fi_3 : Addr} {io_3 in_3 : Option Addr} {is_3 : Array (Option Value)} {ic_3 ik_3 id_3 ip_3 ie_3 it_3 : Value} {xnm_3 xq_3 : Str} {xN_3 : Addr} {xbs_3 xbm_3 : List Value} {xsn_3 : List Str} {xsub_3 : List Value} {xab_3 : Bool} {xcol_3 : Option Bool} {xdd_3 : Option Addr} {x0_3 x1_3 x2_3 x3_3 x5_3 : Option Value} {fi_4 : Addr} {io_4 in_4 : Option Addr} {is_4 : Array (Option Value)} {ic_4 ik_4 id_4 ip_4 ie_4 it_4 : Value} {xnm_4 xq_4 : Str} {xN_4 : Addr} {xbs_4 xbm_4 : List Value} {xsn_4 : List Str} {xsub_4 : List Value} {xab_4 : Bool} {xcol_4 : Option Bool} {xdd_4 : Option Addr} {x0_4 x1_4 x2_4 x3_4 x5_4 : Option Value} {fi_5 : Addr} {io_5 in_5 : Option Addr} {is_5 : Array (Option Value)} {ic_5 ik_5 id_5 ip_5 ie_5 it_5 : Value} {xnm_5 xq_5 : Str} {xN_5 : Addr} {xbs_5 xbm_5 : List Value} {xsn_5 : List Str} {xsub_5 : List Value} {xab_5 : Bool} {xcol_5 : Option Bool} {xdd_5 : Option Addr} {x0_5 x1_5 x2_5 x3_5 x5_5 : Option Value} (xg_0 : PySem.W.nsIn K mainGlobals "RoomError" = some (some (.ref C_0))) (xg_1 : PySem.W.nsIn K mainGlobals "NoBook" = some (some (.ref C_1))) (xg_2 : PySem.W.nsIn K mainGlobals "NoDeed" = some (some (.ref C_2))) (xg_3 : PySem.W.nsIn K mainGlobals "NoText" = some (some (.ref C_3))) (xg_4 : PySem.W.nsIn K mainGlobals "NoRoom" = some (some (.ref C_4))) (xg_5 : PySem.W.nsIn K mainGlobals "Taken" = some (some (.ref C_5))) (xa_0 : PySem.W.findIn K (.ref C_0) "__getattribute__" = some (some (.builtin "BaseException.__getattribute__"))) (xb_0 : PySem.W.findIn K (.ref C_0) "__getattr__" = some none) (xs_0 : PySem.W.subIn K (.ref C_0) (.type "BaseException") = some true) (xd_0 : PySem.W.hasDictIn K C_0 = true) (xc_0 : PySem.W.findIn K (.ref C_0) "__class__" = some (some (.builtin "object.__class__"))) (xo_0 : PySem.W.mroIn K C_0 (.type "object") = some true) (xr_0 : PySem.W.findIn K (.ref C_0) "room" = some none) (xra_0 : PySem.W.findIn K (.ref C_0) "at" = some none) (xe_0_0 : PySem.W.exmOne K (.ref C_0) (.ref C_0) = some true) (xk_0_0 : PySem.W.kitOne K (.ref C_0) (.ref C_0) = some true) (xe_0_1 : PySem.W.exmOne K (.ref C_0) (.ref C_1) = some false) (xk_0_1 : PySem.W.kitOne K (.ref C_0) (.ref C_1) = some false) (xe_0_2 : PySem.W.exmOne K (.ref C_0) (.ref C_2) = some false) (xk_0_2 : PySem.W.kitOne K (.ref C_0) (.ref C_2) = some false) (xe_0_3 : PySem.W.exmOne K (.ref C_0) (.ref C_3) = some false) (xk_0_3 : PySem.W.kitOne K (.ref C_0) (.ref C_3) = some false) (xe_0_4 : PySem.W.exmOne K (.ref C_0) (.ref C_4) = some false) (xk_0_4 : PySem.W.kitOne K (.ref C_0) (.ref C_4) = some false) (xe_0_5 : PySem.W.exmOne K (.ref C_0) (.ref C_5) = some false) (xk_0_5 : PySem.W.kitOne K (.ref C_0) (.ref C_5) = some false) (xe_0_6 : PySem.W.exmOne K (.ref C_0) (.type "ValueError") = some true) (xk_0_6 : PySem.W.kitOne K (.ref C_0) (.type "ValueError") = some true) (xe_0_7 : PySem.W.exmOne K (.ref C_0) (.type "KeyError") = some false) (xk_0_7 : PySem.W.kitOne K (.ref C_0) (.type "KeyError") = some false) (xa_1 : PySem.W.findIn K (.ref C_1) "__getattribute__" = some (some (.builtin "BaseException.__getattribute__"))) (xb_1 : PySem.W.findIn K (.ref C_1) "__getattr__" = some none) (xs_1 : PySem.W.subIn K (.ref C_1) (.type "BaseException") = some true) (xd_1 : PySem.W.hasDictIn K C_1 = true) (xc_1 : PySem.W.findIn K (.ref C_1) "__class__" = some (some (.builtin "object.__class__"))) (xo_1 : PySem.W.mroIn K C_1 (.type "object") = some true) (xr_1 : PySem.W.findIn K (.ref C_1) "room" = some none) (xra_1 : PySem.W.findIn K (.ref C_1) "at" = some none) (xe_1_0 : PySem.W.exmOne K (.ref C_1) (.ref C_0) = some true) (xk_1_0 : PySem.W.kitOne K (.ref C_1) (.ref C_0) = some true) (xe_1_1 : PySem.W.exmOne K (.ref C_1) (.ref C_1) = some true) (xk_1_1 : PySem.W.kitOne K (.ref C_1) (.ref C_1) = some true) (xe_1_2 : PySem.W.exmOne K (.ref C_1) (.ref C_2) = some false) (xk_1_2 : PySem.W.kitOne K (.ref C_1) (.ref C_2) = some false) (xe_1_3 : PySem.W.exmOne K (.ref C_1) (.ref C_3) = some false) (xk_1_3 : PySem.W.kitOne K (.ref C_1) (.ref C_3) = some false) (xe_1_4 : PySem.W.exmOne K (.ref C_1) (.ref C_4) = some false) (xk_1_4 : PySem.W.kitOne K (.ref C_1) (.ref C_4) = some false) (xe_1_5 : PySem.W.exmOne K (.ref C_1) (.ref C_5) = some false) (xk_1_5 : PySem.W.kitOne K (.ref C_1) (.ref C_5) = some false) (xe_1_6 : PySem.W.exmOne K (.ref C_1) (.type "ValueError") = some true) (xk_1_6 : PySem.W.kitOne K (.ref C_1) (.type "ValueError") = some true) (xe_1_7 : PySem.W.exmOne K (.ref C_1) (.type "KeyError") = some false) (xk_1_7 : PySem.W.kitOne K (.ref C_1) (.type "KeyError") = some false) (xa_2 : PySem.W.findIn K (.ref C_2) "__getattribute__" = some (some (.builtin "BaseException.__getattribute__"))) (xb_2 : PySem.W.findIn K (.ref C_2) "__getattr__" = some none) (xs_2 : PySem.W.subIn K (.ref C_2) (.type "BaseException") = some true) (xd_2 : PySem.W.hasDictIn K C_2 = true) (xc_2 : PySem.W.findIn K (.ref C_2) "__class__" = some (some (.builtin "object.__class__"))) (xo_2 : PySem.W.mroIn K C_2 (.type "object") = some true) (xr_2 : PySem.W.findIn K (.ref C_2) "room" = some none) (xra_2 : PySem.W.findIn K (.ref C_2) "at" = some none) (xe_2_0 : PySem.W.exmOne K (.ref C_2) (.ref C_0) = some true) (xk_2_0 : PySem.W.kitOne K (.ref C_2) (.ref C_0) = some true) (xe_2_1 : PySem.W.exmOne K (.ref C_2) (.ref C_1) = some false) (xk_2_1 : PySem.W.kitOne K (.ref C_2) (.ref C_1) = some false) (xe_2_2 : PySem.W.exmOne K (.ref C_2) (.ref C_2) = some true) (xk_2_2 : PySem.W.kitOne K (.ref C_2) (.ref C_2) = some true) (xe_2_3 : PySem.W.exmOne K (.ref C_2) (.ref C_3) = some false) (xk_2_3 : PySem.W.kitOne K (.ref C_2) (.ref C_3) = some false) (xe_2_4 : PySem.W.exmOne K (.ref C_2) (.ref C_4) = some false) (xk_2_4 : PySem.W.kitOne K (.ref C_2) (.ref C_4) = some false) (xe_2_5 : PySem.W.exmOne K (.ref C_2) (.ref C_5) = some false) (xk_2_5 : PySem.W.kitOne K (.ref C_2) (.ref C_5) = some false) (xe_2_6 : PySem.W.exmOne K (.ref C_2) (.type "ValueError") = some true) (xk_2_6 : PySem.W.kitOne K (.ref C_2) (.type "ValueError") = some true) (xe_2_7 : PySem.W.exmOne K (.ref C_2) (.type "KeyError") = some false) (xk_2_7 : PySem.W.kitOne K (.ref C_2) (.type "KeyError") = some false) (xa_3 : PySem.W.findIn K (.ref C_3) "__getattribute__" = some (some (.builtin "BaseException.__getattribute__"))) (xb_3 : PySem.W.findIn K (.ref C_3) "__getattr__" = some none) (xs_3 : PySem.W.subIn K (.ref C_3) (.type "BaseException") = some true) (xd_3 : PySem.W.hasDictIn K C_3 = true) (xc_3 : PySem.W.findIn K (.ref C_3) "__class__" = some (some (.builtin "object.__class__"))) (xo_3 : PySem.W.mroIn K C_3 (.type "object") = some true) (xr_3 : PySem.W.findIn K (.ref C_3) "room" = some none) (xra_3 : PySem.W.findIn K (.ref C_3) "at" = some none) (xe_3_0 : PySem.W.exmOne K (.ref C_3) (.ref C_0) = some true) (xk_3_0 : PySem.W.kitOne K (.ref C_3) (.ref C_0) = some true) (xe_3_1 : PySem.W.exmOne K (.ref C_3) (.ref C_1) = some false) (xk_3_1 : PySem.W.kitOne K (.ref C_3) (.ref C_1) = some false) (xe_3_2 : PySem.W.exmOne K (.ref C_3) (.ref C_2) = some false) (xk_3_2 : PySem.W.kitOne K (.ref C_3) (.ref C_2) = some false) (xe_3_3 : PySem.W.exmOne K (.ref C_3) (.ref C_3) = some true) (xk_3_3 : PySem.W.kitOne K (.ref C_3) (.ref C_3) = some true) (xe_3_4 : PySem.W.exmOne K (.ref C_3) (.ref C_4) = some false) (xk_3_4 : PySem.W.kitOne K (.ref C_3) (.ref C_4) = some false) (xe_3_5 : PySem.W.exmOne K (.ref C_3) (.ref C_5) = some false) (xk_3_5 : PySem.W.kitOne K (.ref C_3) (.ref C_5) = some false) (xe_3_6 : PySem.W.exmOne K (.ref C_3) (.type "ValueError") = some true) (xk_3_6 : PySem.W.kitOne K (.ref C_3) (.type "ValueError") = some true) (xe_3_7 : PySem.W.exmOne K (.ref C_3) (.type "KeyError") = some false) (xk_3_7 : PySem.W.kitOne K (.ref C_3) (.type "KeyError") = some false) (xa_4 : PySem.W.findIn K (.ref C_4) "__getattribute__" = some (some (.builtin "BaseException.__getattribute__"))) (xb_4 : PySem.W.findIn K (.ref C_4) "__getattr__" = some none) (xs_4 : PySem.W.subIn K (.ref C_4) (.type "BaseException") = some true) (xd_4 : PySem.W.hasDictIn K C_4 = true) (xc_4 : PySem.W.findIn K (.ref C_4) "__class__" = some (some (.builtin "object.__class__"))) (xo_4 : PySem.W.mroIn K C_4 (.type "object") = some true) (xr_4 : PySem.W.findIn K (.ref C_4) "room" = some none) (xra_4 : PySem.W.findIn K (.ref C_4) "at" = some none) (xe_4_0 : PySem.W.exmOne K (.ref C_4) (.ref C_0) = some false) (xk_4_0 : PySem.W.kitOne K (.ref C_4) (.ref C_0) = some false) (xe_4_1 : PySem.W.exmOne K (.ref C_4) (.ref C_1) = some false) (xk_4_1 : PySem.W.kitOne K (.ref C_4) (.ref C_1) = some false) (xe_4_2 : PySem.W.exmOne K (.ref C_4) (.ref C_2) = some false) (xk_4_2 : PySem.W.kitOne K (.ref C_4) (.ref C_2) = some false) (xe_4_3 : PySem.W.exmOne K (.ref C_4) (.ref C_3) = some false) (xk_4_3 : PySem.W.kitOne K (.ref C_4) (.ref C_3) = some false) (xe_4_4 : PySem.W.exmOne K (.ref C_4) (.ref C_4) = some true) (xk_4_4 : PySem.W.kitOne K (.ref C_4) (.ref C_4) = some true) (xe_4_5 : PySem.W.exmOne K (.ref C_4) (.ref C_5) = some false) (xk_4_5 : PySem.W.kitOne K (.ref C_4) (.ref C_5) = some false) (xe_4_6 : PySem.W.exmOne K (.ref C_4) (.type "ValueError") = some false) (xk_4_6 : PySem.W.kitOne K (.ref C_4) (.type "ValueError") = some false) (xe_4_7 : PySem.W.exmOne K (.ref C_4) (.type "KeyError") = some true) (xk_4_7 : PySem.W.kitOne K (.ref C_4) (.type "KeyError") = some true) (xa_5 : PySem.W.findIn K (.ref C_5) "__getattribute__" = some (some (.builtin "BaseException.__getattribute__"))) (xb_5 : PySem.W.findIn K (.ref C_5) "__getattr__" = some none) (xs_5 : PySem.W.subIn K (.ref C_5) (.type "BaseException") = some true) (xd_5 : PySem.W.hasDictIn K C_5 = true) (xc_5 : PySem.W.findIn K (.ref C_5) "__class__" = some (some (.builtin "object.__class__"))) (xo_5 : PySem.W.mroIn K C_5 (.type "object") = some true) (xr_5 : PySem.W.findIn K (.ref C_5) "room" = some none) (xra_5 : PySem.W.findIn K (.ref C_5) "at" = some none) (xe_5_0 : PySem.W.exmOne K (.ref C_5) (.ref C_0) = some false) (xk_5_0 : PySem.W.kitOne K (.ref C_5) (.ref C_0) = some false) (xe_5_1 : PySem.W.exmOne K (.ref C_5) (.ref C_1) = some false) (xk_5_1 : PySem.W.kitOne K (.ref C_5) (.ref C_1) = some false) (xe_5_2 : PySem.W.exmOne K (.ref C_5) (.ref C_2) = some false) (xk_5_2 : PySem.W.kitOne K (.ref C_5) (.ref C_2) = some false) (xe_5_3 : PySem.W.exmOne K (.ref C_5) (.ref C_3) = some false) (xk_5_3 : PySem.W.kitOne K (.ref C_5) (.ref C_3) = some false) (xe_5_4 : PySem.W.exmOne K (.ref C_5) (.ref C_4) = some false) (xk_5_4 : PySem.W.kitOne K (.ref C_5) (.ref C_4) = some false) (xe_5_5 : PySem.W.exmOne K (.ref C_5) (.ref C_5) = some true) (xk_5_5 : PySem.W.kitOne K (.ref C_5) (.ref C_5) = some true) (xe_5_6 : PySem.W.exmOne K (.ref C_5) (.type "ValueError") = some false) (xk_5_6 : PySem.W.kitOne K (.ref C_5) (.type "ValueError") = some false) (xe_5_7 : PySem.W.exmOne K (.ref C_5) (.type "KeyError") = some true) (xk_5_7 : PySem.W.kitOne K (.ref C_5) (.type "KeyError") = some true) (xh_get : PySem.W.specialIn K (.builtin "object.__class__") "__get__" = some (some (.builtin "getset_descriptor.__get__"))) (xh_tak : PySem.W.takesIn K (.builtin "object.__class__") = some true) (xx_0 : PySem.W.excIn K C_0 [.type "ValueError", .type "Exception", .type "BaseException", .type "object"] "ValueError.__new__" = true) (xp_0 : PySem.W.keepIn K (.ref C_0) = true) (xy_0 : PySem.W.typeIn K (.ref C_0) = some (.type "type")) (xx_1 : PySem.W.excIn K C_1 [.type "ValueError", .type "Exception", .type "BaseException", .type "object"] "ValueError.__new__" = true) (xp_1 : PySem.W.keepIn K (.ref C_1) = true) (xy_1 : PySem.W.typeIn K (.ref C_1) = some (.type "type")) (xx_2 : PySem.W.excIn K C_2 [.type "ValueError", .type "Exception", .type "BaseException", .type "object"] "ValueError.__new__" = true) (xp_2 : PySem.W.keepIn K (.ref C_2) = true) (xy_2 : PySem.W.typeIn K (.ref C_2) = some (.type "type")) (xi_3 : PySem.W.findIn K (.ref C_3) "__init__" = some (some (.ref fi_3))) (xt_3 : PySem.W.typeIn K (.ref fi_3) = some (.type "function")) (xl_3 : K.lookup C_3 = some (excClassObj xnm_3 xq_3 C_3 xN_3 xbs_3 xbm_3 true xsn_3 xsub_3 xab_3 xcol_3 xdd_3 x0_3 x1_3 x2_3 x3_3 x5_3 "ValueError.__new__")) (xm_3 : PySem.HandSPX.refsVE xbm_3 = true) (xf_3 : PySem.W.findIn K (.ref C_3) "__setattr__" = some (some (.builtin "object.__setattr__"))) (xy_3 : PySem.W.typeIn K (.ref C_3) = some (.type "type")) (xp_3 : PySem.W.keepIn K (.ref C_3) = true) (xj_3 : K.lookup fi_3 = some ⟨ic_3, io_3, .func (PySem.W.fnOf "__init__" "NoText.__init__" (defArgs (clsFirst (topS 15))) (defBody (clsFirst (topS 15))) (defScope (clsFirst (topS 15))) .none ik_3 id_3 ip_3 in_3 ie_3 it_3), is_3⟩) (xi_4 : PySem.W.findIn K (.ref C_4) "__init__" = some (some (.ref fi_4))) (xt_4 : PySem.W.typeIn K (.ref fi_4) = some (.type "function")) (xl_4 : K.lookup C_4 = some (excClassObj xnm_4 xq_4 C_4 xN_4 xbs_4 xbm_4 true xsn_4 xsub_4 xab_4 xcol_4 xdd_4 x0_4 x1_4 x2_4 x3_4 x5_4 "LookupError.__new__")) (xm_4 : xbm_4 = PySem.KX.keTail) (xf_4 : PySem.W.findIn K (.ref C_4) "__setattr__" = some (some (.builtin "object.__setattr__"))) (xy_4 : PySem.W.typeIn K (.ref C_4) = some (.type "type")) (xp_4 : PySem.W.keepIn K (.ref C_4) = true) (xj_4 : K.lookup fi_4 = some ⟨ic_4, io_4, .func (PySem.W.fnOf "__init__" "NoRoom.__init__" (defArgs (clsFirst (topS 16))) (defBody (clsFirst (topS 16))) (defScope (clsFirst (topS 16))) .none ik_4 id_4 ip_4 in_4 ie_4 it_4), is_4⟩) (xi_5 : PySem.W.findIn K (.ref C_5) "__init__" = some (some (.ref fi_5))) (xt_5 : PySem.W.typeIn K (.ref fi_5) = some (.type "function")) (xl_5 : K.lookup C_5 = some (excClassObj xnm_5 xq_5 C_5 xN_5 xbs_5 xbm_5 true xsn_5 xsub_5 xab_5 xcol_5 xdd_5 x0_5 x1_5 x2_5 x3_5 x5_5 "LookupError.__new__")) (xm_5 : xbm_5 = PySem.KX.keTail) (xf_5 : PySem.W.findIn K (.ref C_5) "__setattr__" = some (some (.builtin "object.__setattr__"))) (xy_5 : PySem.W.typeIn K (.ref C_5) = some (.type "type")) (xp_5 : PySem.W.keepIn K (.ref C_5) = true) (xj_5 : K.lookup fi_5 = some ⟨ic_5, io_5, .func (PySem.W.fnOf "__init__" "Taken.__init__" (defArgs (clsFirst (topS 17))) (defBody (clsFirst (topS 17))) (defScope (clsFirst (topS 17))) .none ik_5 id_5 ip_5 in_5 ie_5 it_5), is_5⟩) (xw_3 : PySem.W.codeIn K ie_3 "NoText.__init__" = true) (xu_3 : PySem.W.keepIn K (.ref fi_3) = true) (xw_4 : PySem.W.codeIn K ie_4 "NoRoom.__init__" = true) (xu_4 : PySem.W.keepIn K (.ref fi_4) = true) (xw_5 : PySem.W.codeIn K ie_5 "Taken.__init__" = true) (xu_5 : PySem.W.keepIn K (.ref fi_5) = true) (xv3 : PySem.W.findCls K (.ref C_0) (.type "type") "__init__" = some (.val (.builtin "ValueError.__init__"))) (xv3g : PySem.W.specialIn K (.ref C_0) "__getattribute__" = some (some (.builtin "type.__getattribute__"))) (xv3r : PySem.W.readsIn K C_0 (.type "type") = true) (xv : PySem.W.findCls K (.type "KeyError") (.type "type") "__init__" = some (.val (.builtin "KeyError.__init__"))) :
 LawM l.prog w K mg 5 63 fa "_law_script" ts := by
  have e := hfa.symm.trans (PySem.W.mg_of X G n_law_)
  cases e
  letI : Ev.TabC := ⟨[], fun _ => none, fun _ => 0, fun k => match k with | 0 => .ref C_0 | 1 => .ref C_1 | 2 => .ref C_2 | 3 => .ref C_3 | 4 => .ref C_4 | 5 => .ref C_5 | 6 => .type "ValueError" | 7 => .type "KeyError" | _ => .none, false⟩
  haveI : Ev.PkL := ⟨rfl⟩
  have v_FAR : ∃ t, mg "FAR" = some (.int 999 t) := ⟨_, PySem.W.mg_of X G g_FAR⟩
  have v_MOST_WIDE : ∃ t, mg "MOST_WIDE" = some (.int 99 t) := ⟨_, PySem.W.mg_of X G g_MOST_WIDE⟩
  have m_KeyError := PySem.W.mg_none_of X G z_KeyError
  have m_ValueError := PySem.W.mg_none_of X G z_ValueError
  have m_abs := PySem.W.mg_none_of X G z_abs
  have m_all := PySem.W.mg_none_of X G z_all
  have m_bool := PySem.W.mg_none_of X G z_bool
  have m_int := PySem.W.mg_none_of X G z_int
  have m_isinstance := PySem.W.mg_none_of X G z_isinstance
  have m_len := PySem.W.mg_none_of X G z_len
  have m_list := PySem.W.mg_none_of X G z_list
  have m_max := PySem.W.mg_none_of X G z_max
  have m_range := PySem.W.mg_none_of X G z_range
  have m_repr := PySem.W.mg_none_of X G z_repr
  have m_sorted := PySem.W.mg_none_of X G z_sorted
  have m_tuple := PySem.W.mg_none_of X G z_tuple
  have m_zip := PySem.W.mg_none_of X G z_zip
  have XCC : ∀ i ∈ ([0, 1, 2, 3, 4, 5] : List Nat), XcC K i := fun i hi => by
    simp only [List.mem_cons, List.not_mem_nil, or_false] at hi
    rcases hi with rfl | rfl | rfl | rfl | rfl | rfl
    · exact ⟨C_0, rfl, xa_0, xb_0, xs_0, xd_0, xc_0, xh_get, xh_tak, xo_0⟩
    · exact ⟨C_1, rfl, xa_1, xb_1, xs_1, xd_1, xc_1, xh_get, xh_tak, xo_1⟩
    · exact ⟨C_2, rfl, xa_2, xb_2, xs_2, xd_2, xc_2, xh_get, xh_tak, xo_2⟩
    · exact ⟨C_3, rfl, xa_3, xb_3, xs_3, xd_3, xc_3, xh_get, xh_tak, xo_3⟩
    · exact ⟨C_4, rfl, xa_4, xb_4, xs_4, xd_4, xc_4, xh_get, xh_tak, xo_4⟩
    · exact ⟨C_5, rfl, xa_5, xb_5, xs_5, xd_5, xc_5, xh_get, xh_tak, xo_5⟩
  have KIT : KiT K [0, 1, 2, 3, 4, 5] [0, 1, 2, 3, 4, 5, 6, 7] := fun i hi j hj => by
    simp only [List.mem_cons, List.not_mem_nil, or_false] at hi hj
    rcases hi with rfl | rfl | rfl | rfl | rfl | rfl
    · rcases hj with rfl | rfl | rfl | rfl | rfl | rfl | rfl | rfl
      · exact xk_0_0
      · exact xk_0_1
      · exact xk_0_2
      · exact xk_0_3
      · exact xk_0_4
      · exact xk_0_5
      · exact xk_0_6
      · exact xk_0_7
    · rcases hj with rfl | rfl | rfl | rfl | rfl | rfl | rfl | rfl
      · exact xk_1_0
      · exact xk_1_1
      · exact xk_1_2
      · exact xk_1_3
      · exact xk_1_4
      · exact xk_1_5
      · exact xk_1_6
      · exact xk_1_7
    · rcases hj with rfl | rfl | rfl | rfl | rfl | rfl | rfl | rfl
      · exact xk_2_0
      · exact xk_2_1
      · exact xk_2_2
      · exact xk_2_3
      · exact xk_2_4
      · exact xk_2_5
      · exact xk_2_6
      · exact xk_2_7
    · rcases hj with rfl | rfl | rfl | rfl | rfl | rfl | rfl | rfl
      · exact xk_3_0
      · exact xk_3_1
      · exact xk_3_2
      · exact xk_3_3
      · exact xk_3_4
      · exact xk_3_5
      · exact xk_3_6
      · exact xk_3_7
    · rcases hj with rfl | rfl | rfl | rfl | rfl | rfl | rfl | rfl
      · exact xk_4_0
      · exact xk_4_1
      · exact xk_4_2
      · exact xk_4_3
      · exact xk_4_4
      · exact xk_4_5
      · exact xk_4_6
      · exact xk_4_7
    · rcases hj with rfl | rfl | rfl | rfl | rfl | rfl | rfl | rfl
      · exact xk_5_0
      · exact xk_5_1
      · exact xk_5_2
      · exact xk_5_3
      · exact xk_5_4
      · exact xk_5_5
      · exact xk_5_6
      · exact xk_5_7
  have EXT : ExT K [0, 1, 2, 3, 4, 5] [0, 1, 2, 3, 4, 5, 6, 7] := fun i hi j hj => by
    simp only [List.mem_cons, List.not_mem_nil, or_false] at hi hj
    rcases hi with rfl | rfl | rfl | rfl | rfl | rfl
    · rcases hj with rfl | rfl | rfl | rfl | rfl | rfl | rfl | rfl
      · exact xe_0_0
      · exact xe_0_1
      · exact xe_0_2
      · exact xe_0_3
      · exact xe_0_4
      · exact xe_0_5
      · exact xe_0_6
      · exact xe_0_7
    · rcases hj with rfl | rfl | rfl | rfl | rfl | rfl | rfl | rfl
      · exact xe_1_0
      · exact xe_1_1
      · exact xe_1_2
      · exact xe_1_3
      · exact xe_1_4
      · exact xe_1_5
      · exact xe_1_6
      · exact xe_1_7
    · rcases hj with rfl | rfl | rfl | rfl | rfl | rfl | rfl | rfl
      · exact xe_2_0
      · exact xe_2_1
      · exact xe_2_2
      · exact xe_2_3
      · exact xe_2_4
      · exact xe_2_5
      · exact xe_2_6
      · exact xe_2_7
    · rcases hj with rfl | rfl | rfl | rfl | rfl | rfl | rfl | rfl
      · exact xe_3_0
      · exact xe_3_1
      · exact xe_3_2
      · exact xe_3_3
      · exact xe_3_4
      · exact xe_3_5
      · exact xe_3_6
      · exact xe_3_7
    · rcases hj with rfl | rfl | rfl | rfl | rfl | rfl | rfl | rfl
      · exact xe_4_0
      · exact xe_4_1
      · exact xe_4_2
      · exact xe_4_3
      · exact xe_4_4
      · exact xe_4_5
      · exact xe_4_6
      · exact xe_4_7
    · rcases hj with rfl | rfl | rfl | rfl | rfl | rfl | rfl | rfl
      · exact xe_5_0
      · exact xe_5_1
      · exact xe_5_2
      · exact xe_5_3
      · exact xe_5_4
      · exact xe_5_5
      · exact xe_5_6
      · exact xe_5_7
  have CLK : ∀ j ∈ ([0, 1, 2, 3, 4, 5, 6, 7] : List Nat), ClsK j := fun j hj => by
    simp only [List.mem_cons, List.not_mem_nil, or_false] at hj
    rcases hj with rfl | rfl | rfl | rfl | rfl | rfl | rfl | rfl
    · exact .inl ⟨_, rfl⟩
    · exact .inl ⟨_, rfl⟩
    · exact .inl ⟨_, rfl⟩
    · exact .inl ⟨_, rfl⟩
    · exact .inl ⟨_, rfl⟩
    · exact .inl ⟨_, rfl⟩
    · exact .inr ⟨_, rfl⟩
    · exact .inr ⟨_, rfl⟩
  have NOF : NoF K [0, 1, 2, 3, 4, 5] "room" := fun i hi C hC => by
    simp only [List.mem_cons, List.not_mem_nil, or_false] at hi
    rcases hi with rfl | rfl | rfl | rfl | rfl | rfl
    · have h : Value.ref C_0 = Value.ref C := hC
      cases h; exact xr_0
    · have h : Value.ref C_1 = Value.ref C := hC
      cases h; exact xr_1
    · have h : Value.ref C_2 = Value.ref C := hC
      cases h; exact xr_2
    · have h : Value.ref C_3 = Value.ref C := hC
      cases h; exact xr_3
    · have h : Value.ref C_4 = Value.ref C := hC
      cases h; exact xr_4
    · have h : Value.ref C_5 = Value.ref C := hC
      cases h; exact xr_5
  have NOA : NoF K [0, 1, 2, 3, 4, 5] "at" := fun i hi C hC => by
    simp only [List.mem_cons, List.not_mem_nil, or_false] at hi
    rcases hi with rfl | rfl | rfl | rfl | rfl | rfl
    · have h : Value.ref C_0 = Value.ref C := hC
      cases h; exact xra_0
    · have h : Value.ref C_1 = Value.ref C := hC
      cases h; exact xra_1
    · have h : Value.ref C_2 = Value.ref C := hC
      cases h; exact xra_2
    · have h : Value.ref C_3 = Value.ref C := hC
      cases h; exact xra_3
    · have h : Value.ref C_4 = Value.ref C := hC
      cases h; exact xra_4
    · have h : Value.ref C_5 = Value.ref C := hC
      cases h; exact xra_5
  have xn_RoomError : mg "RoomError" = some (TabC.xc 0) := PySem.W.mg_of X G xg_0
  have xn_NoBook : mg "NoBook" = some (TabC.xc 1) := PySem.W.mg_of X G xg_1
  have xn_NoDeed : mg "NoDeed" = some (TabC.xc 2) := PySem.W.mg_of X G xg_2
  have xn_NoText : mg "NoText" = some (TabC.xc 3) := PySem.W.mg_of X G xg_3
  have xn_NoRoom : mg "NoRoom" = some (TabC.xc 4) := PySem.W.mg_of X G xg_4
  have xn_Taken : mg "Taken" = some (TabC.xc 5) := PySem.W.mg_of X G xg_5
  have xq_6 : TabC.xc 6 = .type "ValueError" := rfl
  have xq_7 : TabC.xc 7 = .type "KeyError" := rfl
  have RO_RoomError : RaiseO K mg "RoomError" 0 := ⟨C_0, rfl, xx_0, PySem.W.mg_of X G xg_0, xp_0, xs_0, xy_0⟩
  have RO_NoBook : RaiseO K mg "NoBook" 1 := ⟨C_1, rfl, xx_1, PySem.W.mg_of X G xg_1, xp_1, xs_1, xy_1⟩
  have RO_NoDeed : RaiseO K mg "NoDeed" 2 := ⟨C_2, rfl, xx_2, PySem.W.mg_of X G xg_2, xp_2, xs_2, xy_2⟩
  have XT_3 : OexC K C_3 := ⟨⟨_, _, _, _, _, _, _, _, _, _, _, _, _, _, _, xl_3, xm_3⟩, xf_3, xs_3, xy_3, xp_3⟩
  have XF_3 := fun_mk (st := (clsFirst (topS 15))) xj_3 xw_3 xu_3
  have xkic_3 : TiC "no such text" 0 ⟨62, 8, 62, 17⟩ ⟨62, 8, 62, 26⟩ ⟨62, 27, 62, 31⟩ ⟨62, 33, 62, 47⟩ ⟨62, 8, 62, 48⟩ := fun env => ⟨_, by rfl⟩
  have XR_3 := fun base => ok_tinit (P := l.prog) (w := w) (mg := mg) (base := base) XF_3 (by rfl) (show defBody (clsFirst (topS 15)) = tiB "no such text" 0 ⟨62, 8, 62, 17⟩ ⟨62, 8, 62, 26⟩ ⟨62, 27, 62, 31⟩ ⟨62, 33, 62, 47⟩ ⟨62, 8, 62, 48⟩ ⟨62, 8, 62, 48⟩ ⟨63, 8, 63, 12⟩ ⟨63, 8, 63, 15⟩ ⟨63, 18, 63, 20⟩ ⟨63, 8, 63, 20⟩ by rfl) xkic_3 XT_3 xra_3 (PySem.W.mg_of X G xg_0) xv3g xv3r xv3
  have XT_4 : OexK K C_4 := ⟨⟨_, _, _, _, _, _, _, _, _, _, _, _, _, _, _, xl_4, xm_4⟩, xf_4, xs_4, xy_4, xp_4⟩
  have XF_4 := fun_mk (st := (clsFirst (topS 16))) xj_4 xw_4 xu_4
  have xkic_4 : KiC "no such room" 0 ⟨67, 8, 67, 16⟩ ⟨67, 8, 67, 25⟩ ⟨67, 26, 67, 30⟩ ⟨67, 32, 67, 46⟩ ⟨67, 8, 67, 47⟩ := fun env => ⟨_, by rfl⟩
  have XR_4 := fun base => ok_kinit (P := l.prog) (w := w) (mg := mg) (base := base) XF_4 (by rfl) (show defBody (clsFirst (topS 16)) = kiB "no such room" 0 ⟨67, 8, 67, 16⟩ ⟨67, 8, 67, 25⟩ ⟨67, 26, 67, 30⟩ ⟨67, 32, 67, 46⟩ ⟨67, 8, 67, 47⟩ ⟨67, 8, 67, 47⟩ ⟨68, 8, 68, 12⟩ ⟨68, 8, 68, 17⟩ ⟨68, 20, 68, 24⟩ ⟨68, 8, 68, 24⟩ by rfl) xkic_4 XT_4 xr_4 m_KeyError xv
  have XT_5 : OexK K C_5 := ⟨⟨_, _, _, _, _, _, _, _, _, _, _, _, _, _, _, xl_5, xm_5⟩, xf_5, xs_5, xy_5, xp_5⟩
  have XF_5 := fun_mk (st := (clsFirst (topS 17))) xj_5 xw_5 xu_5
  have xkic_5 : KiC "taken already" 0 ⟨72, 8, 72, 16⟩ ⟨72, 8, 72, 25⟩ ⟨72, 26, 72, 30⟩ ⟨72, 32, 72, 47⟩ ⟨72, 8, 72, 48⟩ := fun env => ⟨_, by rfl⟩
  have XR_5 := fun base => ok_kinit (P := l.prog) (w := w) (mg := mg) (base := base) XF_5 (by rfl) (show defBody (clsFirst (topS 17)) = kiB "taken already" 0 ⟨72, 8, 72, 16⟩ ⟨72, 8, 72, 25⟩ ⟨72, 26, 72, 30⟩ ⟨72, 32, 72, 47⟩ ⟨72, 8, 72, 48⟩ ⟨72, 8, 72, 48⟩ ⟨73, 8, 73, 12⟩ ⟨73, 8, 73, 17⟩ ⟨73, 20, 73, 24⟩ ⟨73, 8, 73, 24⟩ by rfl) xkic_5 XT_5 xr_5 m_KeyError xv
  have F__law_stretches := fun_mk (st := s__law_stretches) l__law_stretches c__law_stretches k__law_stretches
  have F__law_told := fun_mk (st := s__law_told) l__law_told c__law_told k__law_told
  have F__law_spots := fun_mk (st := s__law_spots) l__law_spots c__law_spots k__law_spots
  have F__law_draw := fun_mk (st := s__law_draw) l__law_draw c__law_draw k__law_draw
  have F__law_bent := fun_mk (st := s__law_bent) l__law_bent c__law_bent k__law_bent
  have F_part_by := fun_mk (st := s_part_by) l_part_by c_part_by k_part_by
  have F_joined_stretches := fun_mk (st := s_joined_stretches) l_joined_stretches c_joined_stretches k_joined_stretches
  have F_bands_of := fun_mk (st := s_bands_of) l_bands_of c_bands_of k_bands_of
  have F_part_of := fun_mk (st := s_part_of) l_part_of c_part_of k_part_of
  have F_is_part_box := fun_mk (st := s_is_part_box) l_is_part_box c_is_part_box k_is_part_box
  have F_is_part := fun_mk (st := s_is_part) l_is_part c_is_part k_is_part
  have F__law_boxes := fun_mk (st := s__law_boxes) l__law_boxes c__law_boxes k__law_boxes
  have F_is_from_to := fun_mk (st := s_is_from_to) l_is_from_to c_is_from_to k_is_from_to
  have F_is_box := fun_mk (st := s_is_box) l_is_box c_is_box k_is_box
  have F__law_whole := fun_mk (st := s__law_whole) l__law_whole c__law_whole k__law_whole
  have F__law_is_part := fun_mk (st := s__law_is_part) l__law_is_part c__law_is_part k__law_is_part
  have F__law_is_box := fun_mk (st := s__law_is_box) l__law_is_box c__law_is_box k__law_is_box
  have F_law := fun_mk (st := s_law) l_law c_law k_law
  refine ⟨[], PySem.W.fnOf "law" "law" (defArgs s_law) (defBody s_law) (defScope s_law) .none kV_law dc_law pm_law an_law cd_law ct_law, spD K 1 sp_law, fun _ h => (nomatch h), fun _ h => (nomatch h), fun s v => .of_eq rfl, fun H a ns hl hT hS => law_sp (fun ns hn => ⟨ns, rfl, hn, rfl, fun _ => rfl⟩) hl hS (fun _ h => (nomatch h)), fun base _ _ TBs => ?_⟩
  have RT_NoText : RaiseT l.prog w K mg base "NoText" 3 := ⟨C_3, fi_3, _, rfl, XT_3, xi_3, xt_3, PySem.W.mg_of X G xg_3, XR_3 base, XF_3.binds (ps := ["self", "at"]) (fun _ _ _ _ _ _ us hl => match us, hl with | [_, _], _ => rfl)⟩
  have RK_NoRoom : RaiseK l.prog w K mg base "NoRoom" 4 := ⟨C_4, fi_4, _, rfl, XT_4, xi_4, xt_4, PySem.W.mg_of X G xg_4, XR_4 base, XF_4.binds (ps := ["self", "room"]) (fun _ _ _ _ _ _ us hl => match us, hl with | [_, _], _ => rfl)⟩
  have RK_Taken : RaiseK l.prog w K mg base "Taken" 5 := ⟨C_5, fi_5, _, rfl, XT_5, xi_5, xt_5, PySem.W.mg_of X G xg_5, XR_5 base, XF_5.binds (ps := ["self", "room"]) (fun _ _ _ _ _ _ us hl => match us, hl with | [_, _], _ => rfl)⟩
  have G__law_stretches : FnG l.prog w K mg base CX0 1 a__law_stretches _ ["_law_row"] (spD K 1 sp__law_stretches) := ok__law_stretches  F__law_stretches
  have K__law_stretches_1 : Def l.prog w K mg base 1 "_law_stretches" 1 sp__law_stretches [] := ⟨["_law_row"], a__law_stretches, _, [], [], G__law_stretches, PySem.W.mg_of X G n__law_stretches_, k__law_stretches, F__law_stretches.binds (ps := ["_law_row"]) (fun _ _ _ _ _ _ us hl => match us, hl with | [_], _ => rfl), .nil, fun _ => .nil⟩
  have G__law_told : FnG l.prog w K mg base CX0 2 a__law_told _ ["_law_spots_here"] (spD K 1 sp__law_told) := ok__law_told m_sorted m_tuple K__law_stretches_1 F__law_told
  have K__law_told_1 : Def l.prog w K mg base 2 "_law_told" 1 sp__law_told [] := ⟨["_law_spots_here"], a__law_told, _, [], [], G__law_told, PySem.W.mg_of X G n__law_told_, k__law_told, F__law_told.binds (ps := ["_law_spots_here"]) (fun _ _ _ _ _ _ us hl => match us, hl with | [_], _ => rfl), .nil, fun _ => .nil⟩
  have G__law_spots : FnG l.prog w K mg base CX0 1 a__law_spots _ ["_law_boxes_here"] (spD K 1 sp__law_spots) := ok__law_spots m_range F__law_spots
  have K__law_spots_1 : Def l.prog w K mg base 1 "_law_spots" 1 sp__law_spots [] := ⟨["_law_boxes_here"], a__law_spots, _, [], [], G__law_spots, PySem.W.mg_of X G n__law_spots_, k__law_spots, F__law_spots.binds (ps := ["_law_boxes_here"]) (fun _ _ _ _ _ _ us hl => match us, hl with | [_], _ => rfl), .nil, fun _ => .nil⟩
  have G__law_draw : FnG l.prog w K mg base CX0 1 a__law_draw _ ["_law_pen", "_law_many"] (spD K 2 sp__law_draw) := ok__law_draw m_abs m_len F__law_draw
  have K__law_draw_2 : Def l.prog w K mg base 1 "_law_draw" 2 sp__law_draw [] := ⟨["_law_pen", "_law_many"], a__law_draw, _, [], [], G__law_draw, PySem.W.mg_of X G n__law_draw_, k__law_draw, F__law_draw.binds (ps := ["_law_pen", "_law_many"]) (fun _ _ _ _ _ _ us hl => match us, hl with | [_, _], _ => rfl), .nil, fun _ => .nil⟩
  have G__law_bent : FnG l.prog w K mg base CX0 2 a__law_bent _ ["_law_pen", "_law_part"] (spD K 2 sp__law_bent) := ok__law_bent m_len m_list K__law_draw_2 F__law_bent
  have K__law_bent_2 : Def l.prog w K mg base 2 "_law_bent" 2 sp__law_bent [] := ⟨["_law_pen", "_law_part"], a__law_bent, _, [], [], G__law_bent, PySem.W.mg_of X G n__law_bent_, k__law_bent, F__law_bent.binds (ps := ["_law_pen", "_law_part"]) (fun _ _ _ _ _ _ us hl => match us, hl with | [_, _], _ => rfl), .nil, fun _ => .nil⟩
  have G_part_by : FnG l.prog w K mg base CX0 1 a_part_by _ ["bands"] (spD K 1 sp_part_by) := ok_part_by m_tuple F_part_by
  have K_part_by_1 : Def l.prog w K mg base 1 "part_by" 1 sp_part_by [] := ⟨["bands"], a_part_by, _, [], [], G_part_by, PySem.W.mg_of X G n_part_by_, k_part_by, F_part_by.binds (ps := ["bands"]) (fun _ _ _ _ _ _ us hl => match us, hl with | [_], _ => rfl), .nil, fun _ => .nil⟩
  have G_joined_stretches : FnG l.prog w K mg base CX0 1 a_joined_stretches _ ["stretches"] (spD K 1 sp_joined_stretches) := ok_joined_stretches m_max m_sorted m_tuple F_joined_stretches
  have K_joined_stretches_1 : Def l.prog w K mg base 1 "joined_stretches" 1 sp_joined_stretches [] := ⟨["stretches"], a_joined_stretches, _, [], [], G_joined_stretches, PySem.W.mg_of X G n_joined_stretches_, k_joined_stretches, F_joined_stretches.binds (ps := ["stretches"]) (fun _ _ _ _ _ _ us hl => match us, hl with | [_], _ => rfl), .nil, fun _ => .nil⟩
  have G_bands_of : FnG l.prog w K mg base CX0 2 a_bands_of _ ["boxes"] (spD K 1 sp_bands_of) := ok_bands_of m_sorted m_zip K_joined_stretches_1 F_bands_of
  have K_bands_of_1 : Def l.prog w K mg base 2 "bands_of" 1 sp_bands_of [] := ⟨["boxes"], a_bands_of, _, [], [], G_bands_of, PySem.W.mg_of X G n_bands_of_, k_bands_of, F_bands_of.binds (ps := ["boxes"]) (fun _ _ _ _ _ _ us hl => match us, hl with | [_], _ => rfl), .nil, fun _ => .nil⟩
  have G_part_of : FnG l.prog w K mg base CX0 3 a_part_of _ ["boxes"] (spD K 1 sp_part_of) := ok_part_of m_list K_bands_of_1 K_part_by_1 F_part_of
  have K_part_of_1 : Def l.prog w K mg base 3 "part_of" 1 sp_part_of [] := ⟨["boxes"], a_part_of, _, [], [], G_part_of, PySem.W.mg_of X G n_part_of_, k_part_of, F_part_of.binds (ps := ["boxes"]) (fun _ _ _ _ _ _ us hl => match us, hl with | [_], _ => rfl), .nil, fun _ => .nil⟩
  have G_is_part_box : FnG l.prog w K mg base CX0 1 a_is_part_box _ ["thing"] (spD K 1 sp_is_part_box) := ok_is_part_box m_all m_bool m_int m_isinstance m_len m_tuple F_is_part_box
  have K_is_part_box_1 : Def l.prog w K mg base 1 "is_part_box" 1 sp_is_part_box [] := ⟨["thing"], a_is_part_box, _, [], [], G_is_part_box, PySem.W.mg_of X G n_is_part_box_, k_is_part_box, F_is_part_box.binds (ps := ["thing"]) (fun _ _ _ _ _ _ us hl => match us, hl with | [_], _ => rfl), .nil, fun _ => .nil⟩
  have G_is_part : FnG l.prog w K mg base CX0 4 a_is_part _ ["thing"] (spD K 1 sp_is_part) := ok_is_part m_all m_isinstance m_tuple K_is_part_box_1 K_part_of_1 F_is_part
  have K_is_part_1 : Def l.prog w K mg base 4 "is_part" 1 sp_is_part [] := ⟨["thing"], a_is_part, _, [], [], G_is_part, PySem.W.mg_of X G n_is_part_, k_is_part, F_is_part.binds (ps := ["thing"]) (fun _ _ _ _ _ _ us hl => match us, hl with | [_], _ => rfl), .nil, fun _ => .nil⟩
  have K_is_part_0_thing : DefK l.prog w K mg base 4 "is_part" 1 sp_is_part 0 1 ["thing"] [0] [] := ⟨["thing"], a_is_part, _, [], [], G_is_part, PySem.W.mg_of X G n_is_part_, k_is_part, kbinds_of .nil (by decide) (fun s us ws _ h1 h2 => match us, ws, h1, h2 with | [], [v0], _, _ => .of_eq rfl), fun _ => .nil⟩
  have G__law_boxes : FnG l.prog w K mg base CX0 2 a__law_boxes _ ["_law_pen", "_law_most"] (spD K 2 sp__law_boxes) := ok__law_boxes m_len m_range K__law_draw_2 F__law_boxes
  have K__law_boxes_2 : Def l.prog w K mg base 2 "_law_boxes" 2 sp__law_boxes [] := ⟨["_law_pen", "_law_most"], a__law_boxes, _, [], [], G__law_boxes, PySem.W.mg_of X G n__law_boxes_, k__law_boxes, F__law_boxes.binds (ps := ["_law_pen", "_law_most"]) (fun _ _ _ _ _ _ us hl => match us, hl with | [_, _], _ => rfl), .nil, fun _ => .nil⟩
  have G_is_from_to : FnG l.prog w K mg base CX0 1 a_is_from_to _ ["thing", "least", "most"] (spD K 3 sp_is_from_to) := ok_is_from_to m_bool m_int m_isinstance F_is_from_to
  have K_is_from_to_3 : Def l.prog w K mg base 1 "is_from_to" 3 sp_is_from_to [] := ⟨["thing", "least", "most"], a_is_from_to, _, [], [], G_is_from_to, PySem.W.mg_of X G n_is_from_to_, k_is_from_to, F_is_from_to.binds (ps := ["thing", "least", "most"]) (fun _ _ _ _ _ _ us hl => match us, hl with | [_, _, _], _ => rfl), .nil, fun _ => .nil⟩
  have G_is_box : FnG l.prog w K mg base CX0 2 a_is_box _ ["thing"] (spD K 1 sp_is_box) := ok_is_box v_FAR v_MOST_WIDE m_all m_isinstance m_len m_tuple K_is_from_to_3 F_is_box
  have K_is_box_1 : Def l.prog w K mg base 2 "is_box" 1 sp_is_box [] := ⟨["thing"], a_is_box, _, [], [], G_is_box, PySem.W.mg_of X G n_is_box_, k_is_box, F_is_box.binds (ps := ["thing"]) (fun _ _ _ _ _ _ us hl => match us, hl with | [_], _ => rfl), .nil, fun _ => .nil⟩
  have K_is_box_0_thing : DefK l.prog w K mg base 2 "is_box" 1 sp_is_box 0 1 ["thing"] [0] [] := ⟨["thing"], a_is_box, _, [], [], G_is_box, PySem.W.mg_of X G n_is_box_, k_is_box, kbinds_of .nil (by decide) (fun s us ws _ h1 h2 => match us, ws, h1, h2 with | [], [v0], _, _ => .of_eq rfl), fun _ => .nil⟩
  have G__law_whole : FnG l.prog w K mg base CX0 1 a__law_whole _ ["_law_some"] (spD K 1 sp__law_whole) := ok__law_whole m_bool m_int m_isinstance F__law_whole
  have K__law_whole_1 : Def l.prog w K mg base 1 "_law_whole" 1 sp__law_whole [] := ⟨["_law_some"], a__law_whole, _, [], [], G__law_whole, PySem.W.mg_of X G n__law_whole_, k__law_whole, F__law_whole.binds (ps := ["_law_some"]) (fun _ _ _ _ _ _ us hl => match us, hl with | [_], _ => rfl), .nil, fun _ => .nil⟩
  have G__law_is_part : FnG l.prog w K mg base CX0 3 a__law_is_part _ ["_law_some"] (spD K 1 sp__law_is_part) := ok__law_is_part m_isinstance m_len m_tuple K__law_spots_1 K__law_told_1 K__law_whole_1 F__law_is_part
  have K__law_is_part_1 : Def l.prog w K mg base 3 "_law_is_part" 1 sp__law_is_part [] := ⟨["_law_some"], a__law_is_part, _, [], [], G__law_is_part, PySem.W.mg_of X G n__law_is_part_, k__law_is_part, F__law_is_part.binds (ps := ["_law_some"]) (fun _ _ _ _ _ _ us hl => match us, hl with | [_], _ => rfl), .nil, fun _ => .nil⟩
  have G__law_is_box : FnG l.prog w K mg base CX0 2 a__law_is_box _ ["_law_some"] (spD K 1 sp__law_is_box) := ok__law_is_box m_abs m_isinstance m_len m_tuple K__law_whole_1 F__law_is_box
  have K__law_is_box_1 : Def l.prog w K mg base 2 "_law_is_box" 1 sp__law_is_box [] := ⟨["_law_some"], a__law_is_box, _, [], [], G__law_is_box, PySem.W.mg_of X G n__law_is_box_, k__law_is_box, F__law_is_box.binds (ps := ["_law_some"]) (fun _ _ _ _ _ _ us hl => match us, hl with | [_], _ => rfl), .nil, fun _ => .nil⟩
  exact ok_law CLK KIT NOA NOF RK_NoRoom RK_Taken RO_NoBook RO_NoDeed RT_NoText XCC xn_RoomError xq_6 xq_7 m_KeyError m_ValueError m_isinstance m_list m_range m_repr K__law_bent_2 K__law_boxes_2 K__law_is_box_1 K__law_is_part_1 K__law_spots_1 K__law_told_1 K_is_box_1 K_is_part_1 K_is_box_0_thing K_is_part_0_thing F_law
end Ev01
open PySem PySem.W PyProof.Rows
set_option maxHeartbeats 0 in
theorem PySem.Challenge.cw_eventrooms_k01_boxes_and_parts_known_holds : PySem.Challenge.rw_eventrooms_k01_boxes_and_parts_known.Holds := by
  w_on; o_law; k_head; (case hw => w_witness2)
  k_fill
  refine Ev.walk_gM (l := PySem.Challenge.rw_eventrooms_k01_boxes_and_parts_known) (n := 63) (k := 5) (x := "_law_script") rfl (by decide) rfl ⟨rfl, by decide, by decide⟩ (ts := []) (fun w h Y => PySem.W.kIn_of Y) (fun _ _ _ _ h => (nomatch h)) ?F
  case F =>
    intro w mg fa h KX G hmg
    refine' Ev01.all_mk KX G hmg ?n__law_stretches_ ?l__law_stretches ?c__law_stretches ?k__law_stretches ?n__law_told_ ?l__law_told ?c__law_told ?k__law_told ?n__law_spots_ ?l__law_spots ?c__law_spots ?k__law_spots ?n__law_draw_ ?l__law_draw ?c__law_draw ?k__law_draw ?n__law_bent_ ?l__law_bent ?c__law_bent ?k__law_bent ?n_part_by_ ?l_part_by ?c_part_by ?k_part_by ?n_joined_stretches_ ?l_joined_stretches ?c_joined_stretches ?k_joined_stretches ?n_bands_of_ ?l_bands_of ?c_bands_of ?k_bands_of ?n_part_of_ ?l_part_of ?c_part_of ?k_part_of ?n_is_part_box_ ?l_is_part_box ?c_is_part_box ?k_is_part_box ?n_is_part_ ?l_is_part ?c_is_part ?k_is_part ?n__law_boxes_ ?l__law_boxes ?c__law_boxes ?k__law_boxes ?n_is_from_to_ ?l_is_from_to ?c_is_from_to ?k_is_from_to ?n_is_box_ ?l_is_box ?c_is_box ?k_is_box ?n__law_whole_ ?l__law_whole ?c__law_whole ?k__law_whole ?n__law_is_part_ ?l__law_is_part ?c__law_is_part ?k__law_is_part ?n__law_is_box_ ?l__law_is_box ?c__law_is_box ?k__law_is_box ?n_law_ ?l_law ?c_law ?k_law ?g_FAR ?g_MOST_WIDE ?z_KeyError ?z_ValueError ?z_abs ?z_all ?z_bool ?z_int ?z_isinstance ?z_len ?z_list ?z_max ?z_range ?z_repr ?z_sorted ?z_tuple ?z_zip ?xg_0 ?xg_1 ?xg_2 ?xg_3 ?xg_4 ?xg_5 ?xa_0 ?xb_0 ?xs_0 ?xd_0 ?xc_0 ?xo_0 ?xr_0 ?xra_0 ?xe_0_0 ?xk_0_0 ?xe_0_1 ?xk_0_1 ?xe_0_2 ?xk_0_2 ?xe_0_3 ?xk_0_3 ?xe_0_4 ?xk_0_4 ?xe_0_5 ?xk_0_5 ?xe_0_6 ?xk_0_6 ?xe_0_7 ?xk_0_7 ?xa_1 ?xb_1 ?xs_1 ?xd_1 ?xc_1 ?xo_1 ?xr_1 ?xra_1 ?xe_1_0 ?xk_1_0 ?xe_1_1 ?xk_1_1 ?xe_1_2 ?xk_1_2 ?xe_1_3 ?xk_1_3 ?xe_1_4 ?xk_1_4 ?xe_1_5 ?xk_1_5 ?xe_1_6 ?xk_1_6 ?xe_1_7 ?xk_1_7 ?xa_2 ?xb_2 ?xs_2 ?xd_2 ?xc_2 ?xo_2 ?xr_2 ?xra_2 ?xe_2_0 ?xk_2_0 ?xe_2_1 ?xk_2_1 ?xe_2_2 ?xk_2_2 ?xe_2_3 ?xk_2_3 ?xe_2_4 ?xk_2_4 ?xe_2_5 ?xk_2_5 ?xe_2_6 ?xk_2_6 ?xe_2_7 ?xk_2_7 ?xa_3 ?xb_3 ?xs_3 ?xd_3 ?xc_3 ?xo_3 ?xr_3 ?xra_3 ?xe_3_0 ?xk_3_0 ?xe_3_1 ?xk_3_1 ?xe_3_2 ?xk_3_2 ?xe_3_3 ?xk_3_3 ?xe_3_4 ?xk_3_4 ?xe_3_5 ?xk_3_5 ?xe_3_6 ?xk_3_6 ?xe_3_7 ?xk_3_7 ?xa_4 ?xb_4 ?xs_4 ?xd_4 ?xc_4 ?xo_4 ?xr_4 ?xra_4 ?xe_4_0 ?xk_4_0 ?xe_4_1 ?xk_4_1 ?xe_4_2 ?xk_4_2 ?xe_4_3 ?xk_4_3 ?xe_4_4 ?xk_4_4 ?xe_4_5 ?xk_4_5 ?xe_4_6 ?xk_4_6 ?xe_4_7 ?xk_4_7 ?xa_5 ?xb_5 ?xs_5 ?xd_5 ?xc_5 ?xo_5 ?xr_5 ?xra_5 ?xe_5_0 ?xk_5_0 ?xe_5_1 ?xk_5_1 ?xe_5_2 ?xk_5_2 ?xe_5_3 ?xk_5_3 ?xe_5_4 ?xk_5_4 ?xe_5_5 ?xk_5_5 ?xe_5_6 ?xk_5_6 ?xe_5_7 ?xk_5_7 ?xh_get ?xh_tak ?xx_0 ?xp_0 ?xy_0 ?xx_1 ?xp_1 ?xy_1 ?xx_2 ?xp_2 ?xy_2 ?xi_3 ?xt_3 ?xl_3 ?xm_3 ?xf_3 ?xy_3 ?xp_3 ?xj_3 ?xi_4 ?xt_4 ?xl_4 ?xm_4 ?xf_4 ?xy_4 ?xp_4 ?xj_4 ?xi_5 ?xt_5 ?xl_5 ?xm_5 ?xf_5 ?xy_5 ?xp_5 ?xj_5 ?xw_3 ?xu_3 ?xw_4 ?xu_4 ?xw_5 ?xu_5 ?xv3 ?xv3g ?xv3r ?xv
    (case n__law_stretches_ => k_is); (case l__law_stretches => k_is); (case c__law_stretches => k_is); (case k__law_stretches => k_is); (case n__law_told_ => k_is); (case l__law_told => k_is)
    (case c__law_told => k_is); (case k__law_told => k_is); (case n__law_spots_ => k_is); (case l__law_spots => k_is); (case c__law_spots => k_is); (case k__law_spots => k_is)
    (case n__law_draw_ => k_is); (case l__law_draw => k_is); (case c__law_draw => k_is); (case k__law_draw => k_is); (case n__law_bent_ => k_is); (case l__law_bent => k_is)
    (case c__law_bent => k_is); (case k__law_bent => k_is); (case n_part_by_ => k_is); (case l_part_by => k_is); (case c_part_by => k_is); (case k_part_by => k_is)
    (case n_joined_stretches_ => k_is); (case l_joined_stretches => k_is); (case c_joined_stretches => k_is); (case k_joined_stretches => k_is); (case n_bands_of_ => k_is); (case l_bands_of => k_is)
    (case c_bands_of => k_is); (case k_bands_of => k_is); (case n_part_of_ => k_is); (case l_part_of => k_is); (case c_part_of => k_is); (case k_part_of => k_is)
    (case n_is_part_box_ => k_is); (case l_is_part_box => k_is); (case c_is_part_box => k_is); (case k_is_part_box => k_is); (case n_is_part_ => k_is); (case l_is_part => k_is)
    (case c_is_part => k_is); (case k_is_part => k_is); (case n__law_boxes_ => k_is); (case l__law_boxes => k_is); (case c__law_boxes => k_is); (case k__law_boxes => k_is)
    (case n_is_from_to_ => k_is); (case l_is_from_to => k_is); (case c_is_from_to => k_is); (case k_is_from_to => k_is); (case n_is_box_ => k_is); (case l_is_box => k_is)
    (case c_is_box => k_is); (case k_is_box => k_is); (case n__law_whole_ => k_is); (case l__law_whole => k_is); (case c__law_whole => k_is); (case k__law_whole => k_is)
    (case n__law_is_part_ => k_is); (case l__law_is_part => k_is); (case c__law_is_part => k_is); (case k__law_is_part => k_is); (case n__law_is_box_ => k_is); (case l__law_is_box => k_is)
    (case c__law_is_box => k_is); (case k__law_is_box => k_is); (case n_law_ => k_is); (case l_law => k_is); (case c_law => k_is); (case k_law => k_is)
    (case g_FAR => k_is); (case g_MOST_WIDE => k_is); (case z_KeyError => k_is); (case z_ValueError => k_is); (case z_abs => k_is); (case z_all => k_is)
    (case z_bool => k_is); (case z_int => k_is); (case z_isinstance => k_is); (case z_len => k_is); (case z_list => k_is); (case z_max => k_is)
    (case z_range => k_is); (case z_repr => k_is); (case z_sorted => k_is); (case z_tuple => k_is); (case z_zip => k_is); (case xg_0 => k_is)
    (case xg_1 => k_is); (case xg_2 => k_is); (case xg_3 => k_is); (case xg_4 => k_is); (case xg_5 => k_is); (case xa_0 => first | k_is | kernel_rfl)
    (case xb_0 => first | k_is | kernel_rfl); (case xs_0 => first | k_is | kernel_rfl); (case xd_0 => first | k_is | kernel_rfl); (case xc_0 => first | k_is | kernel_rfl); (case xo_0 => first | k_is | kernel_rfl); (case xr_0 => first | k_is | kernel_rfl)
    (case xra_0 => first | k_is | kernel_rfl); (case xe_0_0 => first | k_is | kernel_rfl); (case xk_0_0 => first | k_is | kernel_rfl); (case xe_0_1 => first | k_is | kernel_rfl); (case xk_0_1 => first | k_is | kernel_rfl); (case xe_0_2 => first | k_is | kernel_rfl)
    (case xk_0_2 => first | k_is | kernel_rfl); (case xe_0_3 => first | k_is | kernel_rfl); (case xk_0_3 => first | k_is | kernel_rfl); (case xe_0_4 => first | k_is | kernel_rfl); (case xk_0_4 => first | k_is | kernel_rfl); (case xe_0_5 => first | k_is | kernel_rfl)
    (case xk_0_5 => first | k_is | kernel_rfl); (case xe_0_6 => first | k_is | kernel_rfl); (case xk_0_6 => first | k_is | kernel_rfl); (case xe_0_7 => first | k_is | kernel_rfl); (case xk_0_7 => first | k_is | kernel_rfl); (case xa_1 => first | k_is | kernel_rfl)
    (case xb_1 => first | k_is | kernel_rfl); (case xs_1 => first | k_is | kernel_rfl); (case xd_1 => first | k_is | kernel_rfl); (case xc_1 => first | k_is | kernel_rfl); (case xo_1 => first | k_is | kernel_rfl); (case xr_1 => first | k_is | kernel_rfl)
    (case xra_1 => first | k_is | kernel_rfl); (case xe_1_0 => first | k_is | kernel_rfl); (case xk_1_0 => first | k_is | kernel_rfl); (case xe_1_1 => first | k_is | kernel_rfl); (case xk_1_1 => first | k_is | kernel_rfl); (case xe_1_2 => first | k_is | kernel_rfl)
    (case xk_1_2 => first | k_is | kernel_rfl); (case xe_1_3 => first | k_is | kernel_rfl); (case xk_1_3 => first | k_is | kernel_rfl); (case xe_1_4 => first | k_is | kernel_rfl); (case xk_1_4 => first | k_is | kernel_rfl); (case xe_1_5 => first | k_is | kernel_rfl)
    (case xk_1_5 => first | k_is | kernel_rfl); (case xe_1_6 => first | k_is | kernel_rfl); (case xk_1_6 => first | k_is | kernel_rfl); (case xe_1_7 => first | k_is | kernel_rfl); (case xk_1_7 => first | k_is | kernel_rfl); (case xa_2 => first | k_is | kernel_rfl)
    (case xb_2 => first | k_is | kernel_rfl); (case xs_2 => first | k_is | kernel_rfl); (case xd_2 => first | k_is | kernel_rfl); (case xc_2 => first | k_is | kernel_rfl); (case xo_2 => first | k_is | kernel_rfl); (case xr_2 => first | k_is | kernel_rfl)
    (case xra_2 => first | k_is | kernel_rfl); (case xe_2_0 => first | k_is | kernel_rfl); (case xk_2_0 => first | k_is | kernel_rfl); (case xe_2_1 => first | k_is | kernel_rfl); (case xk_2_1 => first | k_is | kernel_rfl); (case xe_2_2 => first | k_is | kernel_rfl)
    (case xk_2_2 => first | k_is | kernel_rfl); (case xe_2_3 => first | k_is | kernel_rfl); (case xk_2_3 => first | k_is | kernel_rfl); (case xe_2_4 => first | k_is | kernel_rfl); (case xk_2_4 => first | k_is | kernel_rfl); (case xe_2_5 => first | k_is | kernel_rfl)
    (case xk_2_5 => first | k_is | kernel_rfl); (case xe_2_6 => first | k_is | kernel_rfl); (case xk_2_6 => first | k_is | kernel_rfl); (case xe_2_7 => first | k_is | kernel_rfl); (case xk_2_7 => first | k_is | kernel_rfl); (case xa_3 => first | k_is | kernel_rfl)
    (case xb_3 => first | k_is | kernel_rfl); (case xs_3 => first | k_is | kernel_rfl); (case xd_3 => first | k_is | kernel_rfl); (case xc_3 => first | k_is | kernel_rfl); (case xo_3 => first | k_is | kernel_rfl); (case xr_3 => first | k_is | kernel_rfl)
    (case xra_3 => first | k_is | kernel_rfl); (case xe_3_0 => first | k_is | kernel_rfl); (case xk_3_0 => first | k_is | kernel_rfl); (case xe_3_1 => first | k_is | kernel_rfl); (case xk_3_1 => first | k_is | kernel_rfl); (case xe_3_2 => first | k_is | kernel_rfl)
    (case xk_3_2 => first | k_is | kernel_rfl); (case xe_3_3 => first | k_is | kernel_rfl); (case xk_3_3 => first | k_is | kernel_rfl); (case xe_3_4 => first | k_is | kernel_rfl); (case xk_3_4 => first | k_is | kernel_rfl); (case xe_3_5 => first | k_is | kernel_rfl)
    (case xk_3_5 => first | k_is | kernel_rfl); (case xe_3_6 => first | k_is | kernel_rfl); (case xk_3_6 => first | k_is | kernel_rfl); (case xe_3_7 => first | k_is | kernel_rfl); (case xk_3_7 => first | k_is | kernel_rfl); (case xa_4 => first | k_is | kernel_rfl)
    (case xb_4 => first | k_is | kernel_rfl); (case xs_4 => first | k_is | kernel_rfl); (case xd_4 => first | k_is | kernel_rfl); (case xc_4 => first | k_is | kernel_rfl); (case xo_4 => first | k_is | kernel_rfl); (case xr_4 => first | k_is | kernel_rfl)
    (case xra_4 => first | k_is | kernel_rfl); (case xe_4_0 => first | k_is | kernel_rfl); (case xk_4_0 => first | k_is | kernel_rfl); (case xe_4_1 => first | k_is | kernel_rfl); (case xk_4_1 => first | k_is | kernel_rfl); (case xe_4_2 => first | k_is | kernel_rfl)
    (case xk_4_2 => first | k_is | kernel_rfl); (case xe_4_3 => first | k_is | kernel_rfl); (case xk_4_3 => first | k_is | kernel_rfl); (case xe_4_4 => first | k_is | kernel_rfl); (case xk_4_4 => first | k_is | kernel_rfl); (case xe_4_5 => first | k_is | kernel_rfl)
    (case xk_4_5 => first | k_is | kernel_rfl); (case xe_4_6 => first | k_is | kernel_rfl); (case xk_4_6 => first | k_is | kernel_rfl); (case xe_4_7 => first | k_is | kernel_rfl); (case xk_4_7 => first | k_is | kernel_rfl); (case xa_5 => first | k_is | kernel_rfl)
    (case xb_5 => first | k_is | kernel_rfl); (case xs_5 => first | k_is | kernel_rfl); (case xd_5 => first | k_is | kernel_rfl); (case xc_5 => first | k_is | kernel_rfl); (case xo_5 => first | k_is | kernel_rfl); (case xr_5 => first | k_is | kernel_rfl)
    (case xra_5 => first | k_is | kernel_rfl); (case xe_5_0 => first | k_is | kernel_rfl); (case xk_5_0 => first | k_is | kernel_rfl); (case xe_5_1 => first | k_is | kernel_rfl); (case xk_5_1 => first | k_is | kernel_rfl); (case xe_5_2 => first | k_is | kernel_rfl)
    (case xk_5_2 => first | k_is | kernel_rfl); (case xe_5_3 => first | k_is | kernel_rfl); (case xk_5_3 => first | k_is | kernel_rfl); (case xe_5_4 => first | k_is | kernel_rfl); (case xk_5_4 => first | k_is | kernel_rfl); (case xe_5_5 => first | k_is | kernel_rfl)
    (case xk_5_5 => first | k_is | kernel_rfl); (case xe_5_6 => first | k_is | kernel_rfl); (case xk_5_6 => first | k_is | kernel_rfl); (case xe_5_7 => first | k_is | kernel_rfl); (case xk_5_7 => first | k_is | kernel_rfl); (case xh_get => first | k_is | kernel_rfl)
    (case xh_tak => first | k_is | kernel_rfl); (case xx_0 => k_exc); (case xp_0 => first | k_is | kernel_rfl); (case xy_0 => first | k_is | kernel_rfl); (case xx_1 => k_exc); (case xp_1 => first | k_is | kernel_rfl)
    (case xy_1 => first | k_is | kernel_rfl); (case xx_2 => k_exc); (case xp_2 => first | k_is | kernel_rfl); (case xy_2 => first | k_is | kernel_rfl); (case xi_3 => first | k_is | kernel_rfl); (case xt_3 => first | k_is | kernel_rfl)
    (case xl_3 => k_is); (case xm_3 => first | rfl | kernel_rfl); (case xf_3 => first | k_is | kernel_rfl); (case xy_3 => first | k_is | kernel_rfl); (case xp_3 => first | k_is | kernel_rfl); (case xj_3 => k_is)
    (case xi_4 => first | k_is | kernel_rfl); (case xt_4 => first | k_is | kernel_rfl); (case xl_4 => k_is); (case xm_4 => first | rfl | kernel_rfl); (case xf_4 => first | k_is | kernel_rfl); (case xy_4 => first | k_is | kernel_rfl)
    (case xp_4 => first | k_is | kernel_rfl); (case xj_4 => k_is); (case xi_5 => first | k_is | kernel_rfl); (case xt_5 => first | k_is | kernel_rfl); (case xl_5 => k_is); (case xm_5 => first | rfl | kernel_rfl)
    (case xf_5 => first | k_is | kernel_rfl); (case xy_5 => first | k_is | kernel_rfl); (case xp_5 => first | k_is | kernel_rfl); (case xj_5 => k_is); (case xw_3 => k_is); (case xu_3 => k_is)
    (case xw_4 => k_is); (case xu_4 => k_is); (case xw_5 => k_is); (case xu_5 => k_is); (case xv3 => first | k_is | kernel_rfl); (case xv3g => first | k_is | kernel_rfl)
    (case xv3r => first | k_is | kernel_rfl); (case xv => first | k_is | kernel_rfl)
