import PyProof.Rows.All
import HandS.ForMost
import HandS.ForExc
import HandS.DeepEq
import KE.KEqNest
import HandS.Wide
import HandS.IsInst
import HandS.TupAny
import HandS.Flow
import HandS.Slots
import HandS.Set
import HandS.Lambda
import HandS.Text
import HandS.RaiseMore
import HandS.Iter
import HandS.Comp
import HandS.WordsExc
import HandS.ExcOwn
import PyProof.StrOps2
import KE.IntTextText
import HandS.Codes
import HandS.TryMany
import HandS.TryOnly
import HandS.ExcField
import HandS.Style
import HandS.Deep
import HandS.Small
import HandS.TupLen
import HandS.WordsDict
import HandS.Zip
import HandS.SortRule
import HandS.SortInts
import PyProof.Rows.SortKeyStr
import HandS.SetFor
import HandS.TupSets
import KE.KeyNested
import KE.KExcSuper
import KE.KExcPX
import HandS.ExcValue
import PyProof.ReprRoads
import PyProof.ReprText
import HandS.ExcIs
import KE.KExcIs
import HandS.SlotsOwn
import HandS.DictComp
import KE.KDictSum
import KE.KDictCopyH
import HandS.Star
import PyProof.FString5
import KE.KOpsOwn
import PyProof.FactsAll.object_2
import HandS.TupLe
import KE.KCallOwn
import KE.KOwnIter
import HandS.IterVal
import HandS.FStr
import HandS.DictEq
import HandS.GenList
import HandS.ListItems
import KE.KDictZip
import HandS.EndTab
import KE.KNestM
import PyProof.EnumMake
import KE.GoesMore
import HandS.Strs
import HandS.StrMore
import PyProof.ListStr
import HandS.Conv
import PyProof.RulesMatchSeq
import PyProof.Rows.MatchSeqLen
import KE.KUnpackStar
import HandS.TupMul
import HandS.Sort
import HandS.AnyAll
import PySem.Challenge.RW_wheelgrown_k19_errors_of_partings
import Wide.All
import OpenK.AllK
import Wide.FinOn
import KE.RegKTryMore
import KE.KExcLine
import KE.RegKSuper
import KE.RegKIsAll
set_option Elab.async false
set_option linter.all false
set_option maxRecDepth 100000
namespace Wg
open PySem PySem.Spec PyProof.Rows L2
open AutoSeq1 (wpAny_loadPart')
open MeetsSeq
theorem dict_declines_tuple (l b : Addr) (es : Array DictEntry) (items2 : Array Value) (n n2 : Nat) (dd dd2 : Option Addr) (sl sl2 : Array (Option Value)) :
    Meets (Builtin.«dict.__eq__» ⟨[.ref l, .ref b], []⟩) (fun _ R s => s.heap.get? l = some { cls := .type "dict", dict := dd, data := .dict es n, slots := sl } ∧ s.heap.get? b = some { cls := .type "tuple", dict := dd2, data := .seq items2 n2, slots := sl2 } ∧ R (.ok (.ret .notImplemented)) s) :=
  .of_wp fun prog w A R s h => by obtain ⟨hp, g, d, tk, os⟩ := s; obtain ⟨hl, hb, h⟩ := h; have f1 := PySem.F.sub_tuple_dict; wp_walk using wpAny_loadPart' hl, wpAny_loadPart' hb; exact ⟨_, rfl, h⟩
theorem tuple_declines_dict (l b : Addr) (items : Array Value) (es : Array DictEntry) (n n2 : Nat) (dd dd2 : Option Addr) (sl sl2 : Array (Option Value)) :
    Meets (Builtin.«tuple.__eq__» ⟨[.ref l, .ref b], []⟩) (fun _ R s => s.heap.get? l = some { cls := .type "tuple", dict := dd, data := .seq items n, slots := sl } ∧ s.heap.get? b = some { cls := .type "dict", dict := dd2, data := .dict es n2, slots := sl2 } ∧ R (.ok (.ret .notImplemented)) s) :=
  .of_wp fun prog w A R s h => by obtain ⟨hp, g, d, tk, os⟩ := s; obtain ⟨hl, hb, h⟩ := h; have f1 : isSubtype (.type "dict") (.type "tuple") = pure false := PySem.F.sub_dict_tuple; wp_walk using wpAny_loadPart' hl, wpAny_loadPart' hb; exact ⟨_, rfl, h⟩
section
variable {X : Cx}
noncomputable def rEqDT (K : PySem.W.Frag) : R2 := fun x y H Q => ∃ a b ys, x = .ref a ∧ y = .ref b ∧ ((∃ kvs, Rd H a (.dK kvs)) ∨ ∃ kvs, Rd H a (.dT kvs)) ∧ SqT K H b ys ∧ Q (.bl false) H
theorem op_eqDT (hu : X.A.units + 64 < cLine) : OpR X (compareOp .Eq) (rEqDT X.K) := by
  intro pins s σ H x y v u Q I rx ry hh
  obtain ⟨a, b, ys, rfl, rfl, ha, hb, q⟩ := hh
  cases rx; cases ry
  have hob : ∃ (ob : Obj) (es : Array DictEntry) (ep : Nat), s.heap.get? a = some ob ∧ ob.ExactDict ∧ ob.data = .dict es ep := by
    rcases ha with ⟨kvs, ha⟩ | ⟨kvs, ha⟩
    · obtain ⟨z, hS, vs, r, ob, es, ep, h1, h2, h3, _⟩ := dk_rd I.hok ha
      exact ⟨ob, es, ep, h1, h2, h3⟩
    · obtain ⟨z, hS, vs, r, ob, es, ep, h1, h2, h3, _⟩ := dt_rd I.hok ha
      exact ⟨ob, es, ep, h1, h2, h3⟩
  obtain ⟨ob, es, ep, h1, h2, h3⟩ := hob
  obtain ⟨its, rt, ⟨o2, t1, t2, n2, t3⟩, _⟩ := I.tuple hb
  obtain ⟨oc, od, dt, osl⟩ := ob
  obtain ⟨oc2, od2, dt2, osl2⟩ := o2
  obtain ⟨c1, c2⟩ := h2
  simp only at c1 c2 h3 t2 t3
  subst c1 h3 t2 t3
  have hne : a ≠ b := fun e => by subst e; rw [h1] at t1; exact absurd (congrArg Obj.cls (Option.some.inj t1)) (by simp)
  show wpAny _ _ (richCompare .Eq (.ref a) (.ref b)) _ _ _
  refine SeqAt.rc_eq_decline_or (k := false) ⟨_, h1, rfl⟩ ⟨_, t1, rfl⟩ (by decide) PySem.F.sub_tuple_dict PySem.F.slot_dict_eq PySem.F.slot_tuple_eq_refl
    (fun _ hq => call_meets PySem.F.slot_dict_eq ⟨_, h1, rfl⟩ PySem.F.entry_dict_eq (PySem.F.args_dict_eq_2 _ _) (dict_declines_tuple a b es its.toArray ep n2 od od2 osl osl2) ⟨h1, t1, hq⟩)
    (fun _ hq => call_meets PySem.F.slot_tuple_eq_refl ⟨_, t1, rfl⟩ PySem.F.entry_tuple_eq (PySem.F.args_tuple_eq_2 _ _) (tuple_declines_dict b a its.toArray es n2 ep od2 od osl2 osl) ⟨t1, h1, hq⟩)
    (fun _ hq => wpAny_isSame_ref_other hne h1 t1 (by simp) hq) (.inr (by omega)) ⟨.bl false, H, I, rfl, q⟩
end
end Wg

namespace Wg
open PySem PySem.Spec PyProof.Rows L2 SlX

/-- a value, told as a tree; what may still be changed is told by its place in the store -/
inductive PV where
  | non | bl (b : Bool) | int (i : Int) | str (x : List Nat) | ty (n : String) | adr (a : Nat)
  | ref (a : Nat)
  | tup (xs : List PV) | lst (xs : List PV) | scr (xs : List PV)
  /-- dicts: keys ints and texts; keys tuples of these -/
  | dct (kvs : List (PV × PV)) | dcT (kvs : List (PV × PV))
  /-- a class of the text, by its name; an instance with slots, that nobody changes -/
  | cls (n : Str)
  | ins (n : Str) (xs : List PV)
  /-- a set that nobody changes, in the order of its making -/
  | set (xs : List PV)
  /-- a dict that nobody changes, of which the keys alone are told: none, truths, texts; an error that is not raised -/
  | dctO (ks : List PV)
  | exn (n : Str)
  /-- a lambda of ours: itself, its code object, its name, its maker's slots -/
  | lam (f c : Nat) (q : Str) (σ : L2.St) (l : List (Option PV))

/-- what stands at a place of the store -/
inductive Cell where
  | lst (xs : List PV)
  | dct (kvs : List (PV × PV))
  | dcT (kvs : List (PV × PV))
  /-- an instance with slots, the place of its dict; such a dict -/
  | ins (n : Str) (j : Nat) (xs : List (Option PV))
  | own
  /-- the table of code objects of the def x, whose lambdas bear the name q -/
  | tab (x q : Str)

noncomputable abbrev Store := List Cell
/-- where the store's cells stand; what is being made just now, and is no cell -/
structure Pl where
  c : List Addr
  hid : List Addr := []
noncomputable def Pl.has (ρ : Pl) (p : Addr) : Prop := p ∈ ρ.c ∨ p ∈ ρ.hid
noncomputable abbrev Lv := List (Option PV)

/-- an error under way -/
structure Ex where
  cls : PV
  fld : List (Str × PV) := []

inductive R (α : Type) where
  | ok (a : α) (h : Store) | exc (e : Ex) (h : Store) | no

noncomputable def R.bind {α β : Type} (r : R α) (k : α → Store → R β) : R β :=
  match r with
  | .ok a h => k a h
  | .exc e h => .exc e h
  | .no => .no

@[simp] theorem R.bind_ok {α β : Type} (a : α) (h : Store) (k : α → Store → R β) : (R.ok a h).bind k = k a h := (rfl)
@[simp] theorem R.bind_exc {α β : Type} (a : Ex) (h : Store) (k : α → Store → R β) : (R.exc a h).bind k = .exc a h := (rfl)
@[simp] theorem R.bind_no {α β : Type} (k : α → Store → R β) : (R.no).bind k = .no := (rfl)

/-- the error that is handled, at a, held by slot i: of the class x, its dict, what it keeps -/
structure Cur where
  i : Nat
  a : Addr
  x : Str
  cls : Value
  d : Option Addr
  fs : List (Str × PV)
noncomputable def curNe (c : Option Cur) (j : Nat) : Bool := match c with
  | none => true
  | some c => c.i != j
/-- where a text stands: its written part, its module's names, the error at hand -/
structure KC where
  K : PySem.W.Frag
  mg : Str → Option Value
  cur : Option Cur
  w : World
instance : Coe KC PySem.W.Frag := ⟨KC.K⟩
/-- what is wished of errors, and which error is at hand -/
structure WQ where
  w : WX
  cur : Option Cur := none
instance : CoeFun WQ (fun _ => WX) := ⟨WQ.w⟩
noncomputable abbrev kc (X : Cx) (W : WQ) : KC := ⟨X.K, X.mg, W.cur, X.w⟩
noncomputable abbrev strV (x : List Nat) : V := V.str ⟨x.toArray⟩

noncomputable def KLst (K : PySem.W.Frag) (p : Addr) (vs : List V) : Prop :=
  ∃ (o : Obj) (its : Array Value) (n : Nat), K.lookup p = some o ∧ o.cls = .type "list" ∧ o.dict = none ∧ o.data = .seq its n ∧ its.size ≤ sizeLine ∧ Vals vs its.toList
/-- how a tuple is tracked: of up to two entries as it is (a key of a dict may be); of more, with its object, that has no dict of its own -/
noncomputable def TupO (vs : List V) (o : HO) : Prop := if vs.length ≤ 2 then o = .tup vs else ∃ ob : Obj, ob.dict = none ∧ o = .frz ob (.tup vs)
noncomputable def TupAt (K : PySem.W.Frag) (ρ : Pl) (H : Hp) (p : Addr) (vs : List V) : Prop := ¬ ρ.has p ∧ ∃ o, H p = some o ∧ TupO vs o
theorem TupO.two {vs : List V} (l : vs.length ≤ 2) : TupO vs (.tup vs) := by unfold TupO; rw [if_pos l]
theorem TupO.cases {vs : List V} {o : HO} (t : TupO vs o) : o = .tup vs ∨ ∃ ob : Obj, ob.dict = none ∧ o = .frz ob (.tup vs) := by
  unfold TupO at t
  split at t
  · exact .inl t
  · exact .inr t
theorem TupO.rd {H : Hp} {p : Addr} {vs : List V} {o : HO} (t : TupO vs o) (e : H p = some o) : Rd H p (.tup vs) := by
  rcases t.cases with z | ⟨ob, _, z⟩
  · subst z; exact .inl e
  · subst z; exact .inr ⟨ob, e⟩
theorem TupAt.exact {K : PySem.W.Frag} {ρ : Pl} {H : Hp} {p : Addr} {vs : List V} (t : TupAt K ρ H p vs) (l : vs.length ≤ 2) : H p = some (.tup vs) := by
  obtain ⟨_, o, e, q⟩ := t
  unfold TupO at q
  rw [if_pos l] at q
  rw [← q]; exact e
theorem TupAt.good {K : PySem.W.Frag} {ρ : Pl} {H : Hp} {p : Addr} {vs : List V} (t : TupAt K ρ H p vs) (l : 2 < vs.length) : ∃ ob : Obj, ob.dict = none ∧ H p = some (.frz ob (.tup vs)) := by
  obtain ⟨_, o, e, q⟩ := t
  unfold TupO at q
  rw [if_neg (by omega)] at q
  obtain ⟨ob, d, z⟩ := q
  subst z
  exact ⟨ob, d, e⟩
theorem TupAt.read {K : PySem.W.Frag} {ρ : Pl} {H : Hp} {p : Addr} {vs : List V} (t : TupAt K ρ H p vs) : Rd H p (.tup vs) := let ⟨_, _, e, q⟩ := t; q.rd e
noncomputable def LstAt (ρ : Pl) (H : Hp) (p : Addr) (vs : List V) : Prop := ¬ ρ.has p ∧ H p = some (.lst vs)
/-- a list that is read alone -/
noncomputable def ScrAt (K : PySem.W.Frag) (ρ : Pl) (H : Hp) (p : Addr) (vs : List V) : Prop := (¬ ρ.has p ∧ Rd H p (.lst vs)) ∨ KLst K p vs

/-- a set of these values at a -/
noncomputable def SetHo (w : World) (a : Addr) (vs : List V) (h : Heap) : Prop :=
  ∃ o es ep t us, h.get? a = some o ∧ o.ExactSet ∧ o.data = .set es ep t ∧ (es.toList.map (·.2)).Perm us ∧ Vals vs us ∧ es.size < scanBound ∧ t.fits es.size = true ∧ Ris t.place.toList ∧ (w.params.followText "set-order" = true ∨ t.led = true)
/-- just this object stands at p -/
noncomputable def Pin (p : Addr) (o : Obj) (h : Heap) : Prop := h.get? p = some o
/-- a dict of these keys -/
noncomputable def OddObj (o : Obj) (vs : List V) : Prop := ∃ es ep, o.ExactDict ∧ o.data = .dict es ep ∧ Vals vs (es.toList.map (·.key))
/-- an error of the class at C, d its dict -/
noncomputable def ErrPh (a C : Addr) (d : Option Addr) (φ : Heap → Prop) : Prop := ∀ h, φ h → ∃ (oe : Obj) (ws : Array Value), h.get? a = some oe ∧ oe.cls = .ref C ∧ oe.dict = d ∧ oe.data = .fields ws
/-- a key of a dict -/
noncomputable def keyP : PV → Option Key
  | .int i => some (.inl i)
  | .str x => some (.inr ⟨x.toArray⟩)
  | _ => none
/-- .. that is a tuple -/
noncomputable def keysP : List PV → Option (List Key)
  | [] => some []
  | x :: xs => (keyP x).bind fun c => (keysP xs).map (c :: ·)
noncomputable def keyT : PV → Option (List Key)
  | .tup xs => if xs.length ≤ 2 then keysP xs else none
  | _ => none
mutual
/-- the value x of ours is v of the layer -/
noncomputable def RV (K : KC) (ρ : Pl) (H : Hp) : PV → V → Prop
  | .non, v => v = .non
  | .bl b, v => v = .bl b
  | .int i, v => v = .int i
  | .str x, v => v = strV x
  | .ty n, v => v = .ty n
  | .adr a, v => v = .ref a
  | .ref a, v => ∃ p, ρ.c[a]? = some p ∧ v = .ref p
  | .tup xs, v => ∃ p vs, v = .ref p ∧ TupAt K ρ H p vs ∧ RVs K ρ H xs vs
  | .lst xs, v => ∃ p vs, v = .ref p ∧ LstAt ρ H p vs ∧ RVs K ρ H xs vs
  | .scr xs, v => ∃ p vs, v = .ref p ∧ ScrAt K ρ H p vs ∧ RVs K ρ H xs vs
  | .dct kvs, v => ∃ p vs, v = .ref p ∧ (¬ ρ.has p ∧ Rd H p (.dK vs)) ∧ RVd K ρ H kvs vs
  | .dcT kvs, v => ∃ p vs, v = .ref p ∧ (¬ ρ.has p ∧ Rd H p (.dT vs)) ∧ RVt K ρ H kvs vs
  | .cls n, v => ∃ a, K.mg n = some (.ref a) ∧ v = .ref a
  | .ins n xs, v => ∃ p C dx vs, v = .ref p ∧ K.mg n = some (.ref C) ∧ (¬ ρ.has p ∧ ¬ ρ.has dx ∧ H p = some (SlO p C dx (vs.map some)) ∧ H dx = some (.xd [])) ∧ RVs K ρ H xs vs
  | .set xs, v => ∃ p vs, v = .ref p ∧ (¬ ρ.has p ∧ H p = some (.ext (SetHo K.w p vs))) ∧ RVs K ρ H xs vs
  | .dctO ks, v => ∃ p o vs, v = .ref p ∧ (¬ ρ.has p ∧ H p = some (.ext (Pin p o))) ∧ ((p == sysModules) = false ∧ OddObj o vs) ∧ RVs K ρ H ks vs
  | .exn n, v => ∃ a C d φ, v = .ref a ∧ K.mg n = some (.ref C) ∧ (¬ ρ.has a ∧ H a = some (.ext φ)) ∧ ErrPh a C d φ ∧ (d = none ∨ ∃ dd us, d = some dd ∧ ¬ ρ.has dd ∧ H dd = some (.xd us))
  | .lam f c q σ l, v => v = .ref f ∧ (¬ ρ.has c ∧ H c = some (LamX.CodeO c q)) ∧ RVo K ρ H l σ
noncomputable def RVs (K : KC) (ρ : Pl) (H : Hp) : List PV → List V → Prop
  | [], vs => vs = []
  | x :: xs, vs => ∃ v r, vs = v :: r ∧ RV K ρ H x v ∧ RVs K ρ H xs r
noncomputable def RVd (K : KC) (ρ : Pl) (H : Hp) : List (PV × PV) → List (Key × V) → Prop
  | [], vs => vs = []
  | (k, x) :: xs, vs => ∃ c v r, vs = (c, v) :: r ∧ keyP k = some c ∧ RV K ρ H x v ∧ RVd K ρ H xs r
noncomputable def RVt (K : KC) (ρ : Pl) (H : Hp) : List (PV × PV) → List (List Key × V) → Prop
  | [], vs => vs = []
  | (k, x) :: xs, vs => ∃ c v r, vs = (c, v) :: r ∧ keyT k = some c ∧ RV K ρ H x v ∧ RVt K ρ H xs r
noncomputable def RVo (K : KC) (ρ : Pl) (H : Hp) : List (Option PV) → L2.St → Prop
  | [], σ => σ = []
  | none :: l, σ => ∃ o r, σ = o :: r ∧ RVo K ρ H l r
  | some x :: l, σ => ∃ v r, σ = some v :: r ∧ RV K ρ H x v ∧ RVo K ρ H l r
noncomputable def RVx (K : KC) (ρ : Pl) (H : Hp) (us : List (Str × V)) : List (Str × PV) → Prop
  | [] => True
  | (f, x) :: xs => (∃ v, us.lookup f = some v ∧ RV K ρ H x v) ∧ RVx K ρ H us xs
end
section
variable {K : KC} {ρ ρ' ρ1 : Pl} {H H' H1 : Hp}

theorem keyT_two {xs : List PV} {c : List Key} (e : keyT (.tup xs) = some c) : xs.length ≤ 2 ∧ keysP xs = some c := by
  have e : (if xs.length ≤ 2 then keysP xs else none) = some c := e
  by_cases l : xs.length ≤ 2
  · rw [if_pos l] at e; exact ⟨l, e⟩
  · rw [if_neg l] at e; cases e
theorem TupAt.sq {p vs} (h : TupAt K ρ H p vs) : SqT K H p vs := .inl h.read
theorem ScrAt.sq {p vs} (h : ScrAt K ρ H p vs) : SqL K H p vs := by
  rcases h with ⟨_, h⟩ | ⟨o, its, n, h⟩
  · exact .inl h
  · exact .inr ⟨o, its, n, h⟩

/-- a dict may be locked while it is walked -/
noncomputable def IsDct : HO → Prop
  | .dK _ => True
  | .dT _ => True
  | _ => False
noncomputable def Sm (o : HO) (r : Option HO) : Prop := r = some o ∨ (IsDct o ∧ ∃ od, r = some (.frz od o))
theorem Sm.trans {o : HO} {r : Option HO} (a : Sm o r) {q : Option HO} (b : ∀ u, r = some u → Sm u q) : Sm o q := by
  rcases a with a | ⟨du, od, a⟩
  · exact b o a
  · rcases b _ a with b | ⟨d2, _, b⟩
    · exact .inr ⟨du, od, b⟩
    · exact d2.elim
/-- what is no dict stays as it is -/
noncomputable def Stiff : HO → Prop
  | .dK _ => False
  | .dT _ => False
  | _ => True
theorem Stiff.no {o : HO} (st : Stiff o) (d : IsDct o) : False := by
  cases o <;> first | exact d.elim | exact st.elim
/-- the store may have grown; what is tracked outside it stands as it stood, but that a dict may have been locked -/
structure Ext (ρ : Pl) (H : Hp) (ρ' : Pl) (H' : Hp) : Prop where
  pre : ∃ more, ρ'.c = ρ.c ++ more ∧ ∀ p ∈ more, ¬ ρ.has p ∧ H p = none
  hid : ρ'.hid = ρ.hid
  old : ∀ p o, p ∉ ρ.c → p ∈ ρ.hid ∨ Stiff o → H p = some o → H' p = some o
  lok : ∀ p o, p ∉ ρ.c → H p = some o → Sm o (H' p)
theorem Ext.of (pre : ∃ more, ρ'.c = ρ.c ++ more ∧ ∀ p ∈ more, ¬ ρ.has p ∧ H p = none) (hid : ρ'.hid = ρ.hid) (old : ∀ p o, p ∉ ρ.c → H p = some o → H' p = some o) : Ext ρ H ρ' H' :=
  ⟨pre, hid, fun p o hp _ e => old p o hp e, fun p o hp e => .inl (old p o hp e)⟩
theorem Ext.refl (ρ : Pl) (H : Hp) : Ext ρ H ρ H := .of ⟨[], by simp, by simp⟩ rfl fun _ _ _ h => h
theorem Ext.notin (a : Ext ρ H ρ' H') {p : Addr} {o : HO} (hp : ¬ ρ.has p) (e : H p = some o) : ¬ ρ'.has p := by
  obtain ⟨m1, e1, f1⟩ := a.pre
  rintro (z | z)
  · rw [e1] at z
    rcases List.mem_append.mp z with z | z
    · exact hp (.inl z)
    · rw [(f1 p z).2] at e; cases e
  · rw [a.hid] at z; exact hp (.inr z)
theorem Sm.some {o : HO} {r : Option HO} (a : Sm o r) : ∃ u, r = some u := by
  rcases a with a | ⟨_, od, a⟩ <;> exact ⟨_, a⟩
theorem Ext.trans (a : Ext ρ H ρ1 H1) (b : Ext ρ1 H1 ρ' H') : Ext ρ H ρ' H' := by
  obtain ⟨m1, e1, f1⟩ := a.pre
  obtain ⟨m2, e2, f2⟩ := b.pre
  have ni : ∀ p o, p ∉ ρ.c → H p = some o → p ∉ ρ1.c := fun p o hp e z => by
    rw [e1] at z
    rcases List.mem_append.mp z with z | z
    · exact hp z
    · rw [(f1 p z).2] at e; cases e
  refine ⟨⟨m1 ++ m2, by rw [e2, e1, List.append_assoc], fun p hp => ?_⟩, b.hid.trans a.hid, fun p o hp st e => b.old p o (ni p o hp e) (st.imp (fun z => by rw [a.hid]; exact z) id) (a.old p o hp st e),
    fun p o hp e => (a.lok p o hp e).trans fun u hu => b.lok p u (ni p o hp e) hu⟩
  rcases List.mem_append.mp hp with h | h
  · exact f1 p h
  · obtain ⟨n1, n2⟩ := f2 p h
    have np : p ∉ ρ.c := fun z => n1 (.inl (by rw [e1]; exact List.mem_append_left _ z))
    refine ⟨fun z => z.elim np fun z => n1 (.inr (by rw [a.hid]; exact z)), ?_⟩
    cases q : H p with
    | none => rfl
    | some o =>
      obtain ⟨u, hu⟩ := (a.lok p o np q).some
      rw [hu] at n2; cases n2
theorem Ext.look (a : Ext ρ H ρ' H') {i : Nat} {p : Addr} (h : ρ.c[i]? = some p) : ρ'.c[i]? = some p := by
  obtain ⟨m1, e1, _⟩ := a.pre
  rw [e1, List.getElem?_append_left (List.getElem?_eq_some_iff.mp h).1]; exact h
theorem Ext.at_ (a : Ext ρ H ρ' H') {p : Addr} {o : HO} (st : Stiff o) (hp : ¬ ρ.has p) (e : H p = some o) : H' p = some o := a.old p o (fun z => hp (.inl z)) (.inr st) e

/-- what values need to stay values -/
structure Kp (ρ : Pl) (H : Hp) (ρ' : Pl) (H' : Hp) : Prop where
  look : ∀ (i : Nat) (p : Addr), ρ.c[i]? = some p → ρ'.c[i]? = some p
  old : ∀ p o, ¬ ρ.has p → H p = some o → ¬ ρ'.has p ∧ Sm o (H' p)
theorem Ext.kp (a : Ext ρ H ρ' H') : Kp ρ H ρ' H' := ⟨fun _ _ h => a.look h, fun _ _ hp e => ⟨a.notin hp e, a.lok _ _ (fun z => hp (.inl z)) e⟩⟩
theorem Kp.trans (a : Kp ρ H ρ1 H1) (b : Kp ρ1 H1 ρ' H') : Kp ρ H ρ' H' := ⟨fun i p h => b.look i p (a.look i p h), fun p o hp e => by
  obtain ⟨a1, a2⟩ := a.old p o hp e
  refine ⟨?_, a2.trans fun u hu => (b.old p u a1 hu).2⟩
  obtain ⟨u, hu⟩ := a2.some
  exact (b.old p u a1 hu).1⟩
theorem Kp.at_ (a : Kp ρ H ρ' H') {p : Addr} {o : HO} (st : Stiff o) (hp : ¬ ρ.has p) (e : H p = some o) : ¬ ρ'.has p ∧ H' p = some o := by
  obtain ⟨a1, a2⟩ := a.old p o hp e
  exact ⟨a1, a2.elim id fun z => (st.no z.1).elim⟩
theorem Kp.atD (a : Kp ρ H ρ' H') {p : Addr} {u : HO} (du : IsDct u) (hp : ¬ ρ.has p) (h : Rd H p u) : ¬ ρ'.has p ∧ Rd H' p u := by
  rcases h with h | ⟨od, h⟩
  · obtain ⟨a1, a2⟩ := a.old p _ hp h
    exact ⟨a1, a2.imp id fun z => z.2⟩
  · obtain ⟨a1, a2⟩ := a.at_ (o := .frz od u) trivial hp h
    exact ⟨a1, .inr ⟨od, a2⟩⟩
theorem Rd.kpK (a : Kp ρ H ρ' H') {p : Addr} {vs : List (Key × V)} (hp : ¬ ρ.has p) (h : Rd H p (.dK vs)) : ¬ ρ'.has p ∧ Rd H' p (.dK vs) := a.atD trivial hp h
theorem Rd.kpT (a : Kp ρ H ρ' H') {p : Addr} {vs : List (List Key × V)} (hp : ¬ ρ.has p) (h : Rd H p (.dT vs)) : ¬ ρ'.has p ∧ Rd H' p (.dT vs) := a.atD trivial hp h
theorem Rd.kpL (a : Kp ρ H ρ' H') {p : Addr} {vs : List V} (hp : ¬ ρ.has p) (h : Rd H p (.lst vs)) : ¬ ρ'.has p ∧ Rd H' p (.lst vs) := by
  rcases h with h | ⟨o, h⟩
  · have := a.at_ (o := .lst vs) trivial hp h; exact ⟨this.1, .inl this.2⟩
  · have := a.at_ (o := .frz o (.lst vs)) trivial hp h; exact ⟨this.1, .inr ⟨o, this.2⟩⟩
theorem TupO.stiff {vs : List V} {o : HO} (t : TupO vs o) : Stiff o := by
  rcases t.cases with z | ⟨ob, _, z⟩ <;> subst z <;> trivial
theorem TupAt.kp (a : Kp ρ H ρ' H') {p vs} (h : TupAt K ρ H p vs) : TupAt K ρ' H' p vs := by
  obtain ⟨n, o, e, t⟩ := h
  obtain ⟨a1, a2⟩ := a.at_ t.stiff n e
  exact ⟨a1, o, a2, t⟩
theorem LstAt.kp (a : Kp ρ H ρ' H') {p vs} (h : LstAt ρ H p vs) : LstAt ρ' H' p vs := a.at_ (o := .lst vs) trivial h.1 h.2
theorem ScrAt.kp (a : Kp ρ H ρ' H') {p vs} (h : ScrAt K ρ H p vs) : ScrAt K ρ' H' p vs := h.imp (fun z => Rd.kpL a z.1 z.2) id
theorem Slt.kp (a : Kp ρ H ρ' H') {p C dx : Addr} {vs : List (Option V)} (t : ¬ ρ.has p ∧ ¬ ρ.has dx ∧ H p = some (SlO p C dx vs) ∧ H dx = some (.xd [])) : ¬ ρ'.has p ∧ ¬ ρ'.has dx ∧ H' p = some (SlO p C dx vs) ∧ H' dx = some (.xd []) :=
  have h1 := a.at_ (o := SlO p C dx vs) trivial t.1 t.2.2.1
  have h2 := a.at_ (o := .xd []) trivial t.2.1 t.2.2.2
  ⟨h1.1, h2.1, h1.2, h2.2⟩
mutual
theorem RV.kp (a : Kp ρ H ρ' H') : ∀ (x : PV) (v : V), RV K ρ H x v → RV K ρ' H' x v
  | .non, _, h => h
  | .bl _, _, h => h
  | .int _, _, h => h
  | .str _, _, h => h
  | .ty _, _, h => h
  | .adr _, _, h => h
  | .ref _, _, ⟨p, h, e⟩ => ⟨p, a.look _ _ h, e⟩
  | .tup xs, _, ⟨p, vs, e, t, r⟩ => ⟨p, vs, e, t.kp a, RVs.kp a xs vs r⟩
  | .lst xs, _, ⟨p, vs, e, t, r⟩ => ⟨p, vs, e, t.kp a, RVs.kp a xs vs r⟩
  | .scr xs, _, ⟨p, vs, e, t, r⟩ => ⟨p, vs, e, t.kp a, RVs.kp a xs vs r⟩
  | .dct kvs, _, ⟨p, vs, e, t, r⟩ => ⟨p, vs, e, Rd.kpK a t.1 t.2, RVd.kp a kvs vs r⟩
  | .dcT kvs, _, ⟨p, vs, e, t, r⟩ => ⟨p, vs, e, Rd.kpT a t.1 t.2, RVt.kp a kvs vs r⟩
  | .cls _, _, h => h
  | .ins _ xs, _, ⟨p, C, dx, vs, e, m, t, r⟩ => ⟨p, C, dx, vs, e, m, Slt.kp a t, RVs.kp a xs vs r⟩
  | .set xs, _, ⟨p, vs, e, t, r⟩ => ⟨p, vs, e, a.at_ trivial t.1 t.2, RVs.kp a xs vs r⟩
  | .dctO ks, _, ⟨p, o, vs, e, t, u, r⟩ => ⟨p, o, vs, e, a.at_ trivial t.1 t.2, u, RVs.kp a ks vs r⟩
  | .exn _, _, ⟨p, C, d, φ, e, m, t, f, q⟩ => ⟨p, C, d, φ, e, m, a.at_ trivial t.1 t.2, f, q.imp id fun ⟨dd, us, e1, n, h⟩ => ⟨dd, us, e1, a.at_ (o := .xd us) trivial n h⟩⟩
  | .lam _ _ _ σ l, _, ⟨e, t, r⟩ => ⟨e, a.at_ (o := LamX.CodeO _ _) trivial t.1 t.2, RVo.kp a l σ r⟩
theorem RVs.kp (a : Kp ρ H ρ' H') : ∀ (xs : List PV) (vs : List V), RVs K ρ H xs vs → RVs K ρ' H' xs vs
  | [], _, h => h
  | x :: xs, _, ⟨v, r, e, h1, h2⟩ => ⟨v, r, e, RV.kp a x v h1, RVs.kp a xs r h2⟩
theorem RVd.kp (a : Kp ρ H ρ' H') : ∀ (kvs : List (PV × PV)) (vs : List (Key × V)), RVd K ρ H kvs vs → RVd K ρ' H' kvs vs
  | [], _, h => h
  | (k, x) :: xs, _, ⟨c, v, r, e, h0, h1, h2⟩ => ⟨c, v, r, e, h0, RV.kp a x v h1, RVd.kp a xs r h2⟩
theorem RVt.kp (a : Kp ρ H ρ' H') : ∀ (kvs : List (PV × PV)) (vs : List (List Key × V)), RVt K ρ H kvs vs → RVt K ρ' H' kvs vs
  | [], _, h => h
  | (k, x) :: xs, _, ⟨c, v, r, e, h0, h1, h2⟩ => ⟨c, v, r, e, h0, RV.kp a x v h1, RVt.kp a xs r h2⟩
theorem RVo.kp (a : Kp ρ H ρ' H') : ∀ (l : List (Option PV)) (σ : L2.St), RVo K ρ H l σ → RVo K ρ' H' l σ
  | [], _, h => h
  | none :: l, _, ⟨o, r, e, h2⟩ => ⟨o, r, e, RVo.kp a l r h2⟩
  | some x :: l, _, ⟨v, r, e, h1, h2⟩ => ⟨v, r, e, RV.kp a x v h1, RVo.kp a l r h2⟩
theorem RVx.kp (a : Kp ρ H ρ' H') (us : List (Str × V)) : ∀ (fs : List (Str × PV)), RVx K ρ H us fs → RVx K ρ' H' us fs
  | [], h => h
  | (f, x) :: xs, ⟨⟨v, e, h1⟩, h2⟩ => ⟨⟨v, e, RV.kp a x v h1⟩, RVx.kp a us xs h2⟩
end
theorem RV.ext (a : Ext ρ H ρ' H') {x : PV} {v : V} (h : RV K ρ H x v) : RV K ρ' H' x v := RV.kp a.kp x v h
theorem RVs.ext (a : Ext ρ H ρ' H') (xs : List PV) (vs : List V) (h : RVs K ρ H xs vs) : RVs K ρ' H' xs vs := RVs.kp a.kp xs vs h
theorem RVd.ext (a : Ext ρ H ρ' H') (kvs : List (PV × PV)) (vs : List (Key × V)) (h : RVd K ρ H kvs vs) : RVd K ρ' H' kvs vs := RVd.kp a.kp kvs vs h

/-- the table of the def x stands at P, its code object at c -/
noncomputable def TabOf (K : PySem.W.Frag) (mg : Str → Option Value) (x : Str) (c P : Addr) : Prop := ∃ (f : Addr) (o oc : Obj) (fd : FuncData) (vs : Array Value),
  mg x = some (.ref f) ∧ K.lookup f = some o ∧ o.data = .func fd ∧ fd.code = .ref c ∧ K.lookup c = some oc ∧ oc.data = .fields vs ∧ vs[11]? = some (.ref P)
theorem TabOf.uniq {K : PySem.W.Frag} {mg : Str → Option Value} {x : Str} {c P c' P' : Addr} (a : TabOf K mg x c P) (b : TabOf K mg x c' P') : c = c' ∧ P = P' := by
  obtain ⟨f, o, oc, fd, vs, a1, a2, a3, a4, a5, a6, a7⟩ := a
  obtain ⟨f', o', oc', fd', vs', b1, b2, b3, b4, b5, b6, b7⟩ := b
  rw [a1] at b1; cases b1
  rw [a2] at b2; cases b2
  rw [a3] at b3; cases b3
  rw [a4] at b4; cases b4
  rw [a5] at b5; cases b5
  rw [a6] at b6; cases b6
  rw [a7] at b7; cases b7
  exact ⟨rfl, rfl⟩
/-- no tuple, nor what is told by its object -/
noncomputable def NT : HO → Prop
  | .tup _ => False
  | .ext _ => False
  | _ => True
/-- a cell stands at p -/
noncomputable def RC (K : KC) (ρ : Pl) (h : Store) (H : Hp) : Cell → Addr → Prop
  | .lst xs, p => ∃ vs, H p = some (.lst vs) ∧ RVs K ρ H xs vs
  | .dct kvs, p => ∃ vs, H p = some (.dK vs) ∧ RVd K ρ H kvs vs
  | .dcT kvs, p => ∃ vs, H p = some (.dT vs) ∧ RVt K ρ H kvs vs
  | .ins n j xs, p => ∃ C dx vs, K.mg n = some (.ref C) ∧ h[j]? = some .own ∧ ρ.c[j]? = some dx ∧ (Slt H p C dx vs ∧ vs.length = xs.length) ∧ ∀ (i : Nat) (x : PV), xs[i]? = some (some x) → ∃ v, vs[i]? = some (some v) ∧ RV K ρ H x v
  | .own, p => ∃ o, H p = some o ∧ NT o
  | .tab x q, p => (∃ c, TabOf K.K K.mg x c p) ∧ ∃ ps : Array Value, H p = some (.tbl ps) ∧ TriplesOk ps.toList ∧ ∀ (pos : Pos) (cv : Value), codeAmong pos ps.toList = some cv → ∃ c, cv = .ref c ∧ ¬ ρ.has c ∧ H c = some (LamX.CodeO c q)
/-- the store h stands at the addresses ρ -/
structure Rep (K : KC) (ρ : Pl) (h : Store) (H : Hp) : Prop where
  len : h.length = ρ.c.length
  nd : ρ.c.Nodup
  at_ : ∀ (i : Nat) (c : Cell) (p : Addr), h[i]? = some c → ρ.c[i]? = some p → RC K ρ h H c p
  hid : ∀ p ∈ ρ.hid, ∃ o, H p = some o ∧ NT o
  dj : ∀ p ∈ ρ.c, p ∉ ρ.hid
/-- the slots -/
inductive RL0 (K : KC) (ρ : Pl) (H : Hp) : Lv → L2.St → Prop
  | nil : RL0 K ρ H [] []
  | skip {l σ o} : RL0 K ρ H l σ → RL0 K ρ H (none :: l) (o :: σ)
  | put {l σ x v} : RV K ρ H x v → RL0 K ρ H l σ → RL0 K ρ H (some x :: l) (some v :: σ)
/-- the error at hand is in its slot, and keeps what it keeps -/
noncomputable def CurOk (K : KC) (ρ : Pl) (H : Hp) (σ : L2.St) : Prop := match K.cur with
  | none => True
  | some c => σ[c.i]? = some (some (.ref c.a)) ∧ (∃ C, K.mg c.x = some (.ref C) ∧ c.cls = .ref C) ∧ (c.fs = [] ∨ ∃ dd us, c.d = some dd ∧ (¬ ρ.has dd ∧ H dd = some (.xd us)) ∧ RVx K ρ H us c.fs)
structure RL (K : KC) (ρ : Pl) (H : Hp) (l : Lv) (σ : L2.St) : Prop where
  s : RL0 K ρ H l σ
  cur : CurOk K ρ H σ
theorem rvo_iff : ∀ {l : List (Option PV)} {σ : L2.St}, RVo K ρ H l σ ↔ RL0 K ρ H l σ
  | [], σ => ⟨fun h => by rw [show σ = [] from h]; exact .nil, fun h => by cases h; rfl⟩
  | none :: l, σ => ⟨fun ⟨o, r, e, h⟩ => by rw [e]; exact .skip (rvo_iff.mp h), fun h => by
      cases h with
      | skip h => exact ⟨_, _, rfl, rvo_iff.mpr h⟩⟩
  | some x :: l, σ => ⟨fun ⟨v, r, e, h1, h2⟩ => by rw [e]; exact .put h1 (rvo_iff.mp h2), fun h => by
      cases h with
      | put h1 h2 => exact ⟨_, _, rfl, h1, rvo_iff.mpr h2⟩⟩
theorem RL0.kp (a : Kp ρ H ρ' H') {l σ} (h : RL0 K ρ H l σ) : RL0 K ρ' H' l σ := by
  induction h with
  | nil => exact .nil
  | skip _ ih => exact .skip ih
  | put r _ ih => exact .put (RV.kp a _ _ r) ih
theorem CurOk.kp (a : Kp ρ H ρ' H') {σ} (h : CurOk K ρ H σ) : CurOk K ρ' H' σ := by
  unfold CurOk at h ⊢
  cases q : K.cur with
  | none => trivial
  | some c =>
    rw [q] at h
    exact ⟨h.1, h.2.1, h.2.2.imp id fun ⟨dd, us, e2, t, r⟩ => ⟨dd, us, e2, a.at_ (o := .xd us) trivial t.1 t.2, RVx.kp a us _ r⟩⟩
theorem CurOk.set {σ : L2.St} {j : Nat} {o : Option V} (h : CurOk K ρ H σ) (n : curNe K.cur j = true) : CurOk K ρ H (σ.set j o) := by
  unfold CurOk at h ⊢
  cases q : K.cur with
  | none => trivial
  | some c =>
    rw [q] at h n
    refine ⟨?_, h.2⟩
    rw [List.getElem?_set_ne (fun e => by simp [curNe, e] at n)]
    exact h.1
theorem RL.kp (a : Kp ρ H ρ' H') {l σ} (h : RL K ρ H l σ) : RL K ρ' H' l σ := ⟨h.s.kp a, h.cur.kp a⟩
theorem RL.ext (a : Ext ρ H ρ' H') {l σ} (h : RL K ρ H l σ) : RL K ρ' H' l σ := h.kp a.kp
theorem RL0.get {l : Lv} {σ : L2.St} {i : Nat} {x : PV} (h : RL0 K ρ H l σ) : l[i]? = some (some x) → ∃ v, σ[i]? = some (some v) ∧ RV K ρ H x v := by
  induction h generalizing i with
  | nil => intro e; simp at e
  | skip _ ih =>
    intro e
    cases i with
    | zero => simp at e
    | succ i => simpa using ih (by simpa using e)
  | put r _ ih =>
    intro e
    cases i with
    | zero => simp at e; subst e; exact ⟨_, rfl, r⟩
    | succ i => simpa using ih (by simpa using e)
theorem RL.get {l : Lv} {σ : L2.St} {i : Nat} {x : PV} (h : RL K ρ H l σ) : l[i]? = some (some x) → ∃ v, σ[i]? = some (some v) ∧ RV K ρ H x v := h.s.get
theorem RL0.set {l : Lv} {σ : L2.St} {i : Nat} {x : PV} {v : V} (r : RV K ρ H x v) (h : RL0 K ρ H l σ) : RL0 K ρ H (l.set i (some x)) (σ.set i (some v)) := by
  induction h generalizing i with
  | nil => exact .nil
  | skip h ih =>
    cases i with
    | zero => exact .put r h
    | succ i => exact .skip ih
  | put q h ih =>
    cases i with
    | zero => exact .put r h
    | succ i => exact .put q ih
theorem RL.set {l : Lv} {σ : L2.St} {i : Nat} {x : PV} {v : V} (h : RL K ρ H l σ) (n : curNe K.cur i = true) (r : RV K ρ H x v) : RL K ρ H (l.set i (some x)) (σ.set i (some v)) := ⟨h.s.set r, h.cur.set n⟩
theorem RL0.len {l σ} (h : RL0 K ρ H l σ) : l.length = σ.length := by
  induction h with
  | nil => rfl
  | skip _ ih => simp [ih]
  | put _ _ ih => simp [ih]
theorem RL.len {l σ} (h : RL K ρ H l σ) : l.length = σ.length := h.s.len
/-- fewer slots told -/
theorem RL0.wipe {l : Lv} {σ : L2.St} (h : RL0 K ρ H l σ) (i : Nat) (o : Option V := none) : RL0 K ρ H (l.set i none) (σ.set i o) := by
  induction h generalizing i with
  | nil => exact .nil
  | skip h ih =>
    cases i with
    | zero => exact .skip h
    | succ i => exact .skip (ih i)
  | put q h ih =>
    cases i with
    | zero => exact .skip h
    | succ i => exact .put q (ih i)
theorem RL.wipe {l : Lv} {σ : L2.St} (h : RL K ρ H l σ) (i : Nat) (n : curNe K.cur i = true) : RL K ρ H (l.set i none) (σ.set i none) := ⟨h.s.wipe i, h.cur.set n⟩

theorem RVs.len : ∀ {xs : List PV} {vs : List V}, RVs K ρ H xs vs → xs.length = vs.length
  | [], _, h => by rw [show _ = [] from h] <;> rfl
  | x :: xs, _, ⟨v, r, e, _, h2⟩ => by rw [e, List.length_cons, List.length_cons, RVs.len h2]
theorem RVs.get : ∀ {xs : List PV} {vs : List V} {i : Nat} {x : PV}, RVs K ρ H xs vs → xs[i]? = some x → ∃ v, vs[i]? = some v ∧ RV K ρ H x v
  | [], _, _, _, _, e => by simp at e
  | y :: xs, _, 0, x, ⟨v, r, e, h1, _⟩, q => by simp at q; subst q; exact ⟨v, by rw [e]; rfl, h1⟩
  | y :: xs, _, i + 1, x, ⟨v, r, e, _, h2⟩, q => by
    obtain ⟨u, h, k⟩ := RVs.get (i := i) (x := x) h2 (by simpa using q)
    exact ⟨u, by rw [e]; simpa using h, k⟩
theorem RVs.app : ∀ {xs ys : List PV} {vs ws : List V}, RVs K ρ H xs vs → RVs K ρ H ys ws → RVs K ρ H (xs ++ ys) (vs ++ ws)
  | [], _, _, _, h, k => by rw [show _ = [] from h]; exact k
  | x :: xs, _, _, _, ⟨v, r, e, h1, h2⟩, k => by rw [e]; exact ⟨v, _, rfl, h1, RVs.app h2 k⟩
theorem RVs.one {x v} (h : RV K ρ H x v) : RVs K ρ H [x] [v] := ⟨v, [], rfl, h, rfl⟩
theorem RVs.set : ∀ {xs : List PV} {vs : List V} {i : Nat} {x : PV} {v : V}, RVs K ρ H xs vs → RV K ρ H x v → RVs K ρ H (xs.set i x) (vs.set i v)
  | [], _, _, _, _, h, _ => by rw [show _ = [] from h]; rfl
  | y :: xs, _, 0, x, v, ⟨u, r, e, h1, h2⟩, k => by rw [e]; exact ⟨v, r, rfl, k, h2⟩
  | y :: xs, _, i + 1, x, v, ⟨u, r, e, h1, h2⟩, k => by rw [e]; exact ⟨u, _, rfl, h1, RVs.set h2 k⟩

/-! ### what comes out -/
/-- the error at hand is as told -/
noncomputable def RX (K : KC) (ρ : Pl) (H : Hp) (e : Ex) (cls : Value) (d : Option Addr) : Prop :=
  ∃ c, RV K ρ H e.cls c ∧ RelV c cls ∧ (e.fld = [] ∨ ∃ dd us, d = some dd ∧ (¬ ρ.has dd ∧ H dd = some (.xd us)) ∧ RVx K ρ H us e.fld)
/-- a result r, and what is wanted of it -/
noncomputable def Out {α β : Type} (K : KC) (ρ : Pl) (H : Hp) (rel : Pl → Hp → α → β → Prop) (W : Value → Option Addr → Hp → Prop) (r : R α) (Q : β → Hp → Prop) : Prop :=
  match r with
  | .ok x h => ∀ ρ' H' v, Ext ρ H ρ' H' → Rep K ρ' h H' → rel ρ' H' x v → Q v H'
  | .exc e h => ∀ ρ' H' cls d, Ext ρ H ρ' H' → Rep K ρ' h H' → RX K ρ' H' e cls d → W cls d H'
  | .no => False

section
variable {α β γ δ : Type} {rel : Pl → Hp → α → β → Prop} {rel2 : Pl → Hp → γ → δ → Prop} {W : Value → Option Addr → Hp → Prop}
theorem Out.ext {r : R α} {Q : β → Hp → Prop} (a : Ext ρ H ρ1 H1) (o : Out K ρ H rel W r Q) : Out K ρ1 H1 rel W r Q := by
  cases r with
  | ok x h => exact fun ρ' H' v b p q => o ρ' H' v (a.trans b) p q
  | exc e h => exact fun ρ' H' c d b p q => o ρ' H' c d (a.trans b) p q
  | no => exact o
theorem Out.bind {r : R α} {k : α → Store → R γ} {Q : δ → Hp → Prop} (o : Out K ρ H rel2 W (r.bind k) Q) :
    Out K ρ H rel W r (fun v H1 => ∃ x h1 ρ1, Ext ρ H ρ1 H1 ∧ Rep K ρ1 h1 H1 ∧ rel ρ1 H1 x v ∧ Out K ρ1 H1 rel2 W (k x h1) Q) := by
  cases r with
  | ok x h => exact fun ρ' H' v a p q => ⟨x, h, ρ', a, p, q, Out.ext a o⟩
  | exc e h => exact o
  | no => exact o
theorem Out.mono {r : R α} {Q Q' : β → Hp → Prop} (o : Out K ρ H rel W r Q) (m : ∀ v H', Q v H' → Q' v H') : Out K ρ H rel W r Q' := by
  cases r with
  | ok x h => exact fun ρ' H' v a p q => m _ _ (o ρ' H' v a p q)
  | exc e h => exact o
  | no => exact o
theorem Out.ok {x : α} {h : Store} {v : β} {Q : β → Hp → Prop} (o : Out K ρ H rel W (.ok x h) Q) (p : Rep K ρ h H) (q : rel ρ H x v) : Q v H := o ρ H v (Ext.refl _ _) p q
end
end
noncomputable abbrev M (α : Type) := Lv → Store → R α
/-- expressions -/
noncomputable def tM (K : KC) (W : WQ) (m : M PV) : TE := fun σ H Q => ∃ ρ h l, Rep K ρ h H ∧ RL K ρ H l σ ∧ Out K ρ H (RV K) (fun c d H' => W c d σ H') (m l h) Q
/-- tests -/
noncomputable def tT (K : KC) (W : WQ) (m : M Bool) : TT := fun σ H Q => ∃ ρ h l, Rep K ρ h H ∧ RL K ρ H l σ ∧ Out K ρ H (fun _ _ a b => a = b) (fun c d H' => W c d σ H') (m l h) Q
/-- argument lists -/
noncomputable def tA (K : KC) (W : WQ) (m : M (List PV)) : TA := fun σ H Q => ∃ ρ h l, Rep K ρ h H ∧ RL K ρ H l σ ∧ Out K ρ H (RVs K) (fun c d H' => W c d σ H') (m l h) Q

noncomputable abbrev XE (X : Cx) (W : WQ) (e : Expr) (m : M PV) : Prop := PE X e (tM (kc X W) W m)
noncomputable abbrev XT (X : Cx) (W : WQ) (e : Expr) (m : M Bool) : Prop := PT X e (tT (kc X W) W m)
noncomputable abbrev XA (X : Cx) (W : WQ) (es : List Expr) (m : M (List PV)) : Prop := PA X es (tA (kc X W) W m)

theorem pe_weak {X e t t'} (h : PE X e t) (w : ∀ σ H Q, t' σ H Q → t σ H Q) : PE X e t' := ⟨fun pins s σ H Q I q => h.run pins s σ H Q I (w _ _ _ q)⟩
theorem pt_weak {X e t t'} (h : PT X e t) (w : ∀ σ H Q, t' σ H Q → t σ H Q) : PT X e t' := ⟨fun pins s σ H Q I q => h.run pins s σ H Q I (w _ _ _ q)⟩
theorem pa_weak {X e t t'} (h : PA X e t) (w : ∀ σ H Q, t' σ H Q → t σ H Q) : PA X e t' := ⟨fun pos pins s σ H Q I q => h.run pos pins s σ H Q I (w _ _ _ q)⟩

/-! ### names, constants -/
theorem RV_self {K : KC} {ρ : Pl} {H : Hp} {x : PV} {v : V} (e : RV K ρ H x v = (v = v)) : RV K ρ H x v := by rw [e]
noncomputable def mVar (i : Nat) : M PV := fun l h => match l[i]? with
  | some (some x) => .ok x h
  | _ => .no
noncomputable def mC (x : PV) : M PV := fun _ h => .ok x h
section
variable {X : Cx} {W : WQ} {pos : Pos}
theorem xe_var {i : Nat} {x : Str} (h : PE X (.Name x pos) (tVar i)) : XE X W (.Name x pos) (mVar i) := pe_weak h fun σ H Q ⟨ρ, h, l, p, r, o⟩ => by
  unfold mVar at o
  revert o
  split
  · rename_i x e
    intro o
    obtain ⟨v, e2, q⟩ := r.get e
    exact ⟨v, e2, o.ok p q⟩
  · intro o; exact o.elim
theorem tM_const {x : PV} {v : V} {σ H Q} (hv : ∀ ρ h, Rep (kc X W) ρ h H → RV (kc X W) ρ H x v) (t : tM (kc X W) W (mC x) σ H Q) : Q v H := by
  obtain ⟨ρ, h, l, p, r, o⟩ := t
  exact o.ok p (hv ρ h p)
theorem xe_int {i j} : XE X W (.Constant (.int i) j pos) (mC (.int i)) := pe_weak pe_int fun σ H Q t => tM_const (fun _ _ _ => RV_self rfl) t
theorem xe_bl {b j} : XE X W (.Constant (.bool b) j pos) (mC (.bl b)) := pe_weak pe_bl fun σ H Q t => tM_const (fun _ _ _ => RV_self rfl) t
theorem xe_non {j} : XE X W (.Constant .none j pos) (mC .non) := pe_weak pe_non fun σ H Q t => tM_const (fun _ _ _ => RV_self rfl) t
theorem xe_str {x : Str} {y : List Nat} {j} (e : x = ⟨y.toArray⟩ := by decide +kernel) : XE X W (.Constant (.str x) j pos) (mC (.str y)) := pe_weak pe_str fun σ H Q t => tM_const (fun _ _ _ => by rw [e]; rfl) t
theorem xe_glob {x : Str} {v : V} {y : PV} (h : PE X (.Name x pos) (tC v)) (hv : ∀ ρ H h, Rep (kc X W) ρ h H → RV (kc X W) ρ H y v) : XE X W (.Name x pos) (mC y) := pe_weak h fun σ H Q t => tM_const (fun ρ h p => hv ρ H h p) t

/-! ### two places -/
noncomputable def mBin (f : PV → PV → Store → R PV) (a b : M PV) : M PV := fun l h => (a l h).bind fun x h1 => (b l h1).bind fun y h2 => f x y h2
/-- r reads what f tells -/
noncomputable def OpX (X : Cx) (W : WQ) (f : PV → PV → Store → R PV) (r : R2) : Prop :=
  ∀ (ρ : Pl) (h : Store) (σ : L2.St) (H : Hp) (x y : PV) (v w : V) (Q : VK), Rep (kc X W) ρ h H → RV (kc X W) ρ H x v → RV (kc X W) ρ H y w →
    Out (kc X W) ρ H (RV (kc X W)) (fun c d H' => W c d σ H') (f x y h) Q → r v w H Q
theorem tM_bin {f a b r} (ho : OpX X W f r) : ∀ σ H Q, tM (kc X W) W (mBin f a b) σ H Q → tOp r (tM (kc X W) W a) (tM (kc X W) W b) σ H Q := by
  intro σ H Q ⟨ρ, h, l, p, rl, o⟩
  refine ⟨ρ, h, l, p, rl, Out.mono (Out.bind o) ?_⟩
  intro v H1 ⟨x, h1, ρ1, e1, p1, r1, o1⟩
  refine ⟨ρ1, h1, l, p1, rl.ext e1, Out.mono (Out.bind o1) ?_⟩
  intro w H2 ⟨y, h2, ρ2, e2, p2, r2, o2⟩
  exact ho ρ2 h2 σ H2 x y v w Q p2 (r1.ext e2) r2 o2
theorem xe_bin {a b : Expr} {op : Operator} {f ma mb r} (hr : OpR X (binaryOp op) r) (ho : OpX X W f r) (ha : XE X W a ma) (hb : XE X W b mb) : XE X W (.BinOp a op b pos) (mBin f ma mb) := pe_weak (pe_op hr ha hb) (tM_bin ho)
theorem xe_cmp {a b : Expr} {op : CmpOp} {f ma mb r} (hr : OpR X (compareOp op) r) (ho : OpX X W f r) (ha : XE X W a ma) (hb : XE X W b mb) (hm : behindInMarks op b = false) : XE X W (.Compare a [op] [b] pos) (mBin f ma mb) := pe_weak (pe_cmpR hr ha hb hm) (tM_bin ho)
end
end Wg

namespace Wg
open PySem PySem.Spec PyProof.Rows L2 SlX
section
variable {K : KC} {ρ ρ' ρ1 : Pl} {H H' H1 : Hp} {h : Store}

/-! ### the store's keeping -/
theorem RC.there {c : Cell} {p : Addr} (r : RC K ρ h H c p) : ∃ o, H p = some o := by
  cases c with
  | lst xs => obtain ⟨vs, e, _⟩ := r; exact ⟨_, e⟩
  | dct xs => obtain ⟨vs, e, _⟩ := r; exact ⟨_, e⟩
  | dcT xs => obtain ⟨vs, e, _⟩ := r; exact ⟨_, e⟩
  | ins n j xs => obtain ⟨C, dx, vs, _, _, _, ⟨t, _⟩, _⟩ := r; rcases t with ⟨e, _⟩ | ⟨e, _⟩ <;> exact ⟨_, e⟩
  | own => obtain ⟨o, q, _⟩ := r; exact ⟨o, q⟩
  | tab x y => obtain ⟨_, ps, q, _⟩ := r; exact ⟨_, q⟩
/-- a cell stands as it stood: its own place and the dicts of instances are as they were -/
theorem RC.kp (a : Kp ρ H ρ' H') {h' : Store} {c : Cell} {p : Addr} (e : H' p = H p) (eo : ∀ (j : Nat) (dx : Addr), h[j]? = some Cell.own → ρ.c[j]? = some dx → h'[j]? = some Cell.own ∧ H' dx = H dx) (r : RC K ρ h H c p) : RC K ρ' h' H' c p := by
  cases c with
  | lst xs => obtain ⟨vs, q, rs⟩ := r; exact ⟨vs, by rw [e]; exact q, RVs.kp a _ _ rs⟩
  | dct xs => obtain ⟨vs, q, rs⟩ := r; exact ⟨vs, by rw [e]; exact q, RVd.kp a _ _ rs⟩
  | dcT xs => obtain ⟨vs, q, rs⟩ := r; exact ⟨vs, by rw [e]; exact q, RVt.kp a _ _ rs⟩
  | ins n j xs =>
    obtain ⟨C, dx, vs, m, q1, q2, ⟨t, tl⟩, rs⟩ := r
    obtain ⟨w1, w2⟩ := eo j dx q1 q2
    refine ⟨C, dx, vs, m, w1, a.look _ _ q2, ⟨?_, tl⟩, fun i x hx => ?_⟩
    · rcases t with ⟨t1, t2⟩ | ⟨t1, t2⟩
      · exact .inl ⟨by rw [e]; exact t1, t2⟩
      · exact .inr ⟨by rw [e]; exact t1, by rw [w2]; exact t2⟩
    · obtain ⟨v, e1, e2⟩ := rs i x hx
      exact ⟨v, e1, RV.kp a _ _ e2⟩
  | own => obtain ⟨o, q, nt⟩ := r; exact ⟨o, by rw [e]; exact q, nt⟩
  | tab x y =>
    obtain ⟨t, ps, q, t2, t3⟩ := r
    refine ⟨t, ps, by rw [e]; exact q, t2, fun pos cv hc => ?_⟩
    obtain ⟨c, e1, e2⟩ := t3 pos cv hc
    exact ⟨c, e1, a.at_ (o := LamX.CodeO _ _) trivial e2.1 e2.2⟩
theorem Rep.cell (p : Rep K ρ h H) {a : Addr} (m : a ∈ ρ.c) : ∃ o, H a = some o := by
  obtain ⟨i, hi, e⟩ := List.mem_iff_getElem.mp m
  have hl : i < h.length := by rw [p.len]; exact hi
  exact (p.at_ i h[i] a (by simp [hl]) (by simp [hi, e])).there
theorem Rep.there (p : Rep K ρ h H) {a : Addr} (m : ρ.has a) : ∃ o, H a = some o := m.elim p.cell fun z => let ⟨o, q, _⟩ := p.hid a z; ⟨o, q⟩
theorem Rep.fresh (p : Rep K ρ h H) {a : Addr} (e : H a = none) : ¬ ρ.has a := fun m => by
  obtain ⟨o, q⟩ := p.there m
  rw [e] at q; cases q
/-- the same cells, all as they stood -/
theorem Rep.same (p : Rep K ρ h H) (a : Kp ρ H ρ' H') (hc : ρ'.c = ρ.c) (k : ∀ b ∈ ρ.c, H' b = H b) (hh : ∀ q ∈ ρ'.hid, ∃ o, H' q = some o ∧ NT o) (dj : ∀ q ∈ ρ'.c, q ∉ ρ'.hid) : Rep K ρ' h H' :=
  ⟨by rw [hc]; exact p.len, by rw [hc]; exact p.nd, fun i c q e1 e2 => by
    rw [hc] at e2
    exact (p.at_ i c q e1 e2).kp a (k q (List.mem_of_getElem? e2)) fun j dx q1 q2 => ⟨q1, k dx (List.mem_of_getElem? q2)⟩, hh, dj⟩
theorem Rep.keep (p : Rep K ρ h H) (a : Ext ρ H ρ H') (k : ∀ b, ρ.has b → H' b = H b) : Rep K ρ h H' :=
  p.same a.kp rfl (fun b hb => k b (.inl hb)) (fun q hq => by rw [k q (.inr hq)]; exact p.hid q hq) p.dj
theorem Ext.upd_new {a : Addr} (e : H a = none) (o : HO) : Ext ρ H ρ (upd H a o) := .of ⟨[], by simp, by simp⟩ rfl (fun b u _ q => by rw [upd_ne (ne_of_none q e)]; exact q)
theorem Ext.upd_in {a : Addr} (e : a ∈ ρ.c) (o : HO) : Ext ρ H ρ (upd H a o) := .of ⟨[], by simp, by simp⟩ rfl fun b u hb q => by rw [upd_ne (fun z => hb (by rw [z]; exact e))]; exact q
/-- a new object outside the store -/
theorem Rep.new (p : Rep K ρ h H) {a : Addr} (e : H a = none) (o : HO) : Ext ρ H ρ (upd H a o) ∧ Rep K ρ h (upd H a o) :=
  ⟨Ext.upd_new e o, p.keep (Ext.upd_new e o) fun b hb => upd_ne (fun z => p.fresh e (by rw [← z]; exact hb))⟩
/-- the places with one more -/
noncomputable abbrev Pl.add (ρ : Pl) (a : Addr) : Pl := ⟨ρ.c ++ [a], ρ.hid⟩
theorem Ext.upd_add (p : Rep K ρ h H) {a : Addr} (e : H a = none) (o : HO) : Ext ρ H (ρ.add a) (upd H a o) :=
  .of ⟨[a], rfl, fun b hb => by rw [List.mem_singleton.mp hb]; exact ⟨p.fresh e, e⟩⟩ rfl fun b u _ q => by rw [upd_ne (ne_of_none q e)]; exact q
/-- a cell more, that stands already, outside the store -/
theorem Rep.join {c : Cell} {a : Addr} (p : Rep K ρ h H) (hc : ρ'.c = ρ.c ++ [a]) (k : Kp ρ H ρ' H') (na : a ∉ ρ.c) (same : ∀ b ∈ ρ.c, H' b = H b) (hh : ∀ q ∈ ρ'.hid, ∃ o, H' q = some o ∧ NT o) (dj : ∀ q ∈ ρ'.c, q ∉ ρ'.hid) (r : RC K ρ' (h ++ [c]) H' c a) : Rep K ρ' (h ++ [c]) H' := by
  refine ⟨by rw [hc]; simp [p.len], by rw [hc]; exact List.nodup_append.mpr ⟨p.nd, by simp, fun b hb c hc z => by rw [List.mem_singleton.mp hc] at z; exact na (by rw [← z]; exact hb)⟩, fun i c' q e1 e2 => ?_, hh, dj⟩
  rw [hc] at e2
  by_cases hi : i < ρ.c.length
  · rw [List.getElem?_append_left (by rw [p.len]; exact hi)] at e1
    rw [List.getElem?_append_left hi] at e2
    refine (p.at_ i c' q e1 e2).kp k (same q (List.mem_of_getElem? e2)) fun j dx q1 q2 => ⟨?_, same dx (List.mem_of_getElem? q2)⟩
    rw [List.getElem?_append_left (List.getElem?_eq_some_iff.mp q1).1]; exact q1
  · have hl := p.len
    rw [List.getElem?_append_right (by omega)] at e1 e2
    have : i = ρ.c.length := by
      by_cases z : i - ρ.c.length = 0
      · omega
      · obtain ⟨n, hn⟩ := Nat.exists_eq_succ_of_ne_zero z
        rw [hn] at e2; simp at e2
    subst this
    simp [hl] at e1
    simp at e2
    rw [← e1, ← e2]; exact r
/-- a new cell -/
theorem Rep.grow (p : Rep K ρ h H) {a : Addr} (e : H a = none) {o : HO} {c : Cell} (r : RC K (ρ.add a) (h ++ [c]) (upd H a o) c a) : Rep K (ρ.add a) (h ++ [c]) (upd H a o) :=
  p.join rfl (Ext.upd_add p e o).kp (fun z => p.fresh e (.inl z)) (fun b hb => upd_ne (fun z => p.fresh e (.inl (by rw [← z]; exact hb)))) (fun q hq => by
    obtain ⟨u, z, nt⟩ := p.hid q hq
    exact ⟨u, by rw [upd_ne (ne_of_none z e)]; exact z, nt⟩) (fun q hq => (List.mem_append.mp hq).elim (p.dj q) fun z w => p.fresh e (.inr (by rw [← List.mem_singleton.mp z]; exact w))) r
/-- a cell written -/
theorem Rep.put (p : Rep K ρ h H) {i : Nat} {a : Addr} (e : ρ.c[i]? = some a) {o : HO} {c : Cell} (ho : h[i]? ≠ some Cell.own ∨ c = Cell.own ∧ H a = some o) (r : RC K ρ (h.set i c) (upd H a o) c a) : Rep K ρ (h.set i c) (upd H a o) := by
  have ma := List.mem_of_getElem? e
  have x : Ext ρ H ρ (upd H a o) := Ext.upd_in ma o
  have ne : ∀ j q, ρ.c[j]? = some q → j ≠ i → q ≠ a := fun j q e2 hj z => by
    subst z
    obtain ⟨h1, q1⟩ := List.getElem?_eq_some_iff.mp e2
    obtain ⟨h2, q2⟩ := List.getElem?_eq_some_iff.mp e
    exact hj ((List.getElem_inj p.nd).mp (q1.trans q2.symm))
  refine ⟨by simp [p.len], p.nd, fun j c' q e1 e2 => ?_, fun q hq => ?_, p.dj⟩
  · by_cases hj : j = i
    · subst hj
      rw [e] at e2; cases e2
      have : j < h.length := by rw [p.len]; exact (List.getElem?_eq_some_iff.mp e).1
      rw [List.getElem?_set_self this] at e1
      cases e1; exact r
    · rw [List.getElem?_set_ne (Ne.symm hj)] at e1
      refine (p.at_ j c' q e1 e2).kp x.kp (upd_ne (ne j q e2 hj)) fun k dx q1 q2 => ?_
      by_cases hk : k = i
      · subst hk
        rcases ho with ho | ⟨ho, ho2⟩
        · exact absurd q1 ho
        · rw [e] at q2; cases q2
          refine ⟨by rw [ho]; exact (by rw [List.getElem?_set_self (List.getElem?_eq_some_iff.mp q1).1]), ?_⟩
          rw [upd_same, ho2]
      · rw [List.getElem?_set_ne (Ne.symm hk)]
        exact ⟨q1, upd_ne (ne k dx q2 hk)⟩
  · have hz : q ≠ a := fun z => p.dj a ma (z ▸ hq)
    rw [upd_ne hz]; exact p.hid q hq
/-- a tuple is no cell, nor hidden -/
theorem Rep.no_tup (p : Rep K ρ h H) {a : Addr} {vs : List V} (e : H a = some (.tup vs)) : ¬ ρ.has a := by
  rintro (m | m)
  · obtain ⟨i, hi, q⟩ := List.mem_iff_getElem.mp m
    have hl : i < h.length := by rw [p.len]; exact hi
    have r := p.at_ i h[i] a (by simp [hl]) (by simp [hi, q])
    cases c : h[i] with
    | lst xs => rw [c] at r; obtain ⟨us, q2, _⟩ := r; rw [e] at q2; cases q2
    | dct xs => rw [c] at r; obtain ⟨us, q2, _⟩ := r; rw [e] at q2; cases q2
    | dcT xs => rw [c] at r; obtain ⟨us, q2, _⟩ := r; rw [e] at q2; cases q2
    | ins n j xs =>
      rw [c] at r
      obtain ⟨C, dx, us, _, _, _, ⟨t, _⟩, _⟩ := r
      rcases t with ⟨t, _⟩ | ⟨t, _⟩
      · rw [e] at t; cases t
      · rw [e] at t; unfold SlO at t; cases t
    | own => rw [c] at r; obtain ⟨o, q2, nt⟩ := r; rw [e] at q2; cases q2; exact nt
    | tab x y => rw [c] at r; obtain ⟨_, ps, q2, _⟩ := r; rw [e] at q2; cases q2
  · obtain ⟨o, q2, nt⟩ := p.hid a m
    rw [e] at q2; cases q2; exact nt

/-- the items of a list -/
noncomputable def lstOf (h : Store) : PV → Option (List PV)
  | .lst xs => some xs
  | .ref a => match h[a]? with
    | some (.lst xs) => some xs
    | _ => none
  | _ => none
theorem lstOf_at (p : Rep K ρ h H) {x : PV} {v : V} {xs : List PV} (r : RV K ρ H x v) (e : lstOf h x = some xs) : ∃ a vs, v = .ref a ∧ H a = some (.lst vs) ∧ RVs K ρ H xs vs := by
  cases x with
  | lst ys =>
    obtain ⟨a, vs, e1, t, rs⟩ := r
    cases e
    exact ⟨a, vs, e1, t.2, rs⟩
  | ref i =>
    obtain ⟨a, e1, e2⟩ := r
    simp only [lstOf] at e
    cases q : h[i]? with
    | none => rw [q] at e; cases e
    | some c =>
      cases c with
      | lst ys =>
        rw [q] at e
        cases e
        obtain ⟨vs, q1, rs⟩ := p.at_ i _ a q e1
        exact ⟨a, vs, e2, q1, rs⟩
      | _ => rw [q] at e; cases e
  | _ => cases e
/-- .. that is read -/
noncomputable def lstRd (h : Store) : PV → Option (List PV)
  | .scr xs => some xs
  | x => lstOf h x
theorem lstRd_at (p : Rep K ρ h H) {x : PV} {v : V} {xs : List PV} (r : RV K ρ H x v) (e : lstRd h x = some xs) : ∃ a vs, v = .ref a ∧ SqL K H a vs ∧ RVs K ρ H xs vs := by
  cases x with
  | scr ys =>
    obtain ⟨a, vs, e1, t, rs⟩ := r
    cases e
    exact ⟨a, vs, e1, t.sq, rs⟩
  | _ =>
    obtain ⟨a, vs, e1, t, rs⟩ := lstOf_at p r e
    exact ⟨a, vs, e1, SqL.of t, rs⟩

/-! ### operators -/
variable {X : Cx} {W : WQ}
/-- a tuple that was laid just now -/
noncomputable abbrev tupOb (its : List Value) : Obj := { cls := .type "tuple", data := .seq its.toArray }
noncomputable def tupH (its : List Value) (vs : List V) : HO := if vs.length ≤ 2 then .tup vs else .frz (tupOb its) (.tup vs)
theorem tupH_o (its : List Value) (vs : List V) : TupO vs (tupH its vs) := by
  unfold TupO tupH
  by_cases c : vs.length ≤ 2
  · rw [if_pos c, if_pos c]
  · rw [if_neg c, if_neg c]; exact ⟨_, rfl, rfl⟩
theorem tupH_ok {P : Program} {w : World} {H : Hp} {h : Heap} {a : Addr} {its : List Value} {vs : List V} (z : vs.length ≤ sizeLine) (r : Vals vs its) (e : h.get? a = some (tupOb its)) : ObjOk P w H h a (tupH its vs) := by
  have k : ObjOk P w H h a (.tup vs) := ⟨z, its, r, ⟨_, e, rfl, _, rfl⟩⟩
  unfold tupH
  by_cases c : vs.length ≤ 2
  · rw [if_pos c]; exact k
  · rw [if_neg c]; exact ⟨e, k⟩
/-- t + u -/
noncomputable def rCatG (K : PySem.W.Frag) : R2 := fun x y H Q => ∃ a b xs ys, x = .ref a ∧ y = .ref b ∧ SqT K H a xs ∧ SqT K H b ys ∧ xs.length + ys.length ≤ sizeLine ∧
  (xs = [] → Q (.ref b) H) ∧ (xs ≠ [] → ys = [] → Q (.ref a) H) ∧ (xs ≠ [] → ys ≠ [] → ∀ p o, H p = none → TupO (xs ++ ys) o → Q (.ref p) (upd H p o))
theorem op_catG : OpR X (binaryOp .Add) (rCatG X.K) := by
  intro pins s σ H x y v u Q I rx ry h
  obtain ⟨a, b, xs, ys, rfl, rfl, ha, hb, hz, q0, q1, q2⟩ := h
  cases rx
  cases ry
  obtain ⟨its, r1, p1, _⟩ := I.tuple ha
  obtain ⟨its2, r2, p2, _⟩ := I.tuple hb
  by_cases hx : xs = []
  · subst hx
    cases r1
    exact cat_tup0 p1 p2 ⟨.ref b, H, I, rfl, q0 rfl⟩
  · refine HT.cat_tup p1 p2 (fun z => hx (r1.nil_iff.mp z)) (fun z => ⟨.ref a, H, I, rfl, q1 hx (r2.nil_iff.mp z)⟩) (fun z => ?_) (by rw [← r1.length, ← r2.length]; exact hz)
    refine ⟨.ref s.heap.objs.size, _, I.laid (t' := s.toks) (o := tupH (its ++ its2) (xs ++ ys)) (fun b ob q => Heap.get?_push_of_some _ q) (Nat.le_refl _) ?_, rfl, q2 hx (fun w => z (r2.nil_iff.mpr w)) _ _ (I.hok.fresh (Nat.le_refl _)) (tupH_o _ _)⟩
    exact tupH_ok (by rw [List.length_append]; exact hz) (r1.append r2) (Heap.get?_push_size _ rfl)
noncomputable def rAddA (K : PySem.W.Frag) : R2 := fun x y H Q => (∃ i j, x = .int i ∧ y = .int j ∧ Q (.int (i + j)) H) ∨ (∃ i j, x = .str i ∧ y = .str j ∧ i.length + j.length ≤ sizeLine ∧ Q (.str (i ++ j)) H) ∨ rCatG K x y H Q ∨ rCat x y H Q
theorem op_addA : OpR X (binaryOp .Add) (rAddA X.K) := op_add.or (op_add_str.or (op_catG.or op_cat))
noncomputable def fAdd (x y : PV) (h : Store) : R PV :=
  match x, y with
  | .int i, .int j => .ok (.int (i + j)) h
  | .str x, .str y => if x.length + y.length ≤ sizeLine then .ok (.str (x ++ y)) h else .no
  | .tup xs, .tup ys => if xs.length + ys.length ≤ sizeLine then .ok (.tup (xs ++ ys)) h else .no
  | x, y => match lstOf h x, lstOf h y with
    | some xs, some ys => if xs.length + ys.length ≤ sizeLine then .ok (.lst (xs ++ ys)) h else .no
    | _, _ => .no
theorem tup_at {xs : List PV} {v : V} (r : RV K ρ H (.tup xs) v) : ∃ a vs, v = .ref a ∧ SqT K H a vs ∧ RVs K ρ H xs vs := by
  obtain ⟨a, vs, e, t, rs⟩ := r
  exact ⟨a, vs, e, t.sq, rs⟩
/-- a new tuple, a new list -/
theorem new_tupO (p : Rep K ρ h H) {a : Addr} (e : H a = none) {xs : List PV} {vs : List V} (r : RVs K ρ H xs vs) {o : HO} (t : TupO vs o) :
    Ext ρ H ρ (upd H a o) ∧ Rep K ρ h (upd H a o) ∧ RV K ρ (upd H a o) (.tup xs) (.ref a) := by
  obtain ⟨x, q⟩ := p.new e o
  exact ⟨x, q, a, vs, rfl, ⟨p.fresh e, o, upd_same, t⟩, RVs.ext x _ _ r⟩
theorem new_tup (p : Rep K ρ h H) {a : Addr} (e : H a = none) {xs : List PV} {vs : List V} (r : RVs K ρ H xs vs) (l : vs.length ≤ 2) :
    Ext ρ H ρ (upd H a (.tup vs)) ∧ Rep K ρ h (upd H a (.tup vs)) ∧ RV K ρ (upd H a (.tup vs)) (.tup xs) (.ref a) := new_tupO p e r (.two l)
theorem new_lst (p : Rep K ρ h H) {a : Addr} (e : H a = none) {xs : List PV} {vs : List V} (r : RVs K ρ H xs vs) :
    Ext ρ H ρ (upd H a (.lst vs)) ∧ Rep K ρ h (upd H a (.lst vs)) ∧ RV K ρ (upd H a (.lst vs)) (.lst xs) (.ref a) := by
  obtain ⟨x, q⟩ := p.new e (.lst vs)
  exact ⟨x, q, a, vs, rfl, ⟨p.fresh e, upd_same⟩, RVs.ext x _ _ r⟩
theorem out_if {α β : Type} {rel : Pl → Hp → α → β → Prop} {WW : Value → Option Addr → Hp → Prop} {c : Prop} [Decidable c] {r : R α} {Q : β → Hp → Prop} (o : Out K ρ H rel WW (if c then r else .no) Q) : c ∧ Out K ρ H rel WW r Q := by
  by_cases hc : c
  · rw [if_pos hc] at o; exact ⟨hc, o⟩
  · rw [if_neg hc] at o; exact o.elim
theorem str_app (x y : List Nat) : strV (x ++ y) = V.str ((⟨x.toArray⟩ : Str) ++ ⟨y.toArray⟩) := by
  have e : ((⟨x.toArray⟩ : Str) ++ ⟨y.toArray⟩) = ⟨x.toArray ++ y.toArray⟩ := rfl
  rw [e, List.append_toArray]
theorem ox_add : OpX X W fAdd (rAddA X.K) := by
  intro ρ h σ H x y v w Q p rx ry o
  unfold fAdd at o
  split at o
  next i j =>
    cases rx; cases ry
    exact .inl ⟨_, _, rfl, rfl, o.ok p rfl⟩
  next i j =>
    cases rx; cases ry
    obtain ⟨c, o⟩ := out_if o
    exact .inr (.inl ⟨_, _, rfl, rfl, by simpa [Str.length] using c, o.ok p (str_app i j).symm⟩)
  next xs ys =>
    obtain ⟨a, vs, e1, t1, r1⟩ := tup_at rx
    obtain ⟨b, ws, e2, t2, r2⟩ := tup_at ry
    obtain ⟨c, o⟩ := out_if o
    subst e1; subst e2
    refine .inr (.inr (.inl ⟨a, b, vs, ws, rfl, rfl, t1, t2, by rw [← r1.len, ← r2.len]; exact c, fun z => ?_, fun _ z => ?_, fun _ _ q ob hq ho => ?_⟩))
    · subst z
      have : xs = [] := List.length_eq_zero_iff.mp r1.len
      subst this
      exact o.ok p (by simpa using ry)
    · subst z
      have : ys = [] := List.length_eq_zero_iff.mp r2.len
      subst this
      exact o.ok p (by simpa using rx)
    · obtain ⟨x, p', r'⟩ := new_tupO p hq (r1.app r2) ho
      exact o ρ _ _ x p' r'
  next =>
    split at o
    next xs ys e1 e2 =>
      obtain ⟨c, o⟩ := out_if o
      obtain ⟨a, vs, e1, t1, r1⟩ := lstOf_at p rx e1
      obtain ⟨b, ws, e2, t2, r2⟩ := lstOf_at p ry e2
      exact .inr (.inr (.inr ⟨a, b, vs, ws, e1, e2, t1, t2, by rw [← r1.len, ← r2.len]; exact c, fun q hq =>
        let ⟨x, p', r'⟩ := new_lst p hq (r1.app r2); o ρ _ _ x p' r'⟩))
    next => exact o.elim

/-- ints alone -/
noncomputable def fInt (c : Int → Int → Bool) (g : Int → Int → Int) (x y : PV) (h : Store) : R PV :=
  match x, y with
  | .int i, .int j => if c i j = true then .ok (.int (g i j)) h else .no
  | _, _ => .no
theorem ox_int {C : Int → Int → Prop} {c : Int → Int → Bool} {g : Int → Int → Int} (hc : ∀ i j, c i j = true → C i j) : OpX X W (fInt c g) (rI C fun i j => .int (g i j)) := by
  intro ρ h σ H x y v w Q p rx ry o
  unfold fInt at o
  split at o
  next i j =>
    cases rx; cases ry
    obtain ⟨k, o⟩ := out_if o
    exact ⟨i, j, rfl, rfl, hc i j k, o.ok p rfl⟩
  next => exact o.elim
theorem ox_int0 {g : Int → Int → Int} : OpX X W (fInt (fun _ _ => true) g) (rI0 fun i j => .int (g i j)) := by
  intro ρ h σ H x y v w Q p rx ry o
  unfold fInt at o
  split at o
  next i j =>
    cases rx; cases ry
    obtain ⟨k, o⟩ := out_if o
    exact ⟨i, j, rfl, rfl, o.ok p rfl⟩
  next => exact o.elim
noncomputable abbrev fSub := fInt (fun _ _ => true) fun i j => i - j
noncomputable abbrev fMul := fInt (fun i j => (decide (-(2 ^ 64) < i) && decide (i < 2 ^ 64)) || (decide (-(2 ^ 64) < j) && decide (j < 2 ^ 64)) || decide (i.natAbs.log2 + j.natAbs.log2 < 1000000)) fun i j => i * j
noncomputable abbrev fDiv := fInt (fun _ j => decide (0 < j) && decide (j < 2 ^ 8000)) fun i j => i / j
noncomputable abbrev fMod := fInt (fun _ j => decide (0 < j)) fun i j => i % j
noncomputable abbrev fPow := fInt (fun i j => decide (0 ≤ j) && decide (j ≤ 1000000) && decide (i.natAbs < 2 ^ 64)) fun i j => i ^ j.toNat
noncomputable def rMulA : R2 := fun x y H Q => rI CMul (fun i j => .int (i * j)) x y H Q ∨ rI CMulW (fun i j => .int (i * j)) x y H Q
theorem op_mulA : OpR X (binaryOp .Mult) rMulA := op_mul.or op_mulW
theorem ox_sub : OpX X W fSub (rI0 fun i j => .int (i - j)) := ox_int0
theorem ox_mul : OpX X W fMul rMulA := by
  intro ρ h σ H x y v w Q p rx ry o
  unfold fMul fInt at o
  split at o
  next i j =>
    cases rx; cases ry
    obtain ⟨k, o⟩ := out_if o
    simp only [Bool.or_eq_true, Bool.and_eq_true, decide_eq_true_eq] at k
    rcases k with k | k
    · exact .inl ⟨i, j, rfl, rfl, k, o.ok p rfl⟩
    · exact .inr ⟨i, j, rfl, rfl, k, o.ok p rfl⟩
  next => exact o.elim
theorem ox_div : OpX X W fDiv (rI CDivW fun i j => .int (i / j)) := ox_int fun i j k => by
  simp only [Bool.and_eq_true, decide_eq_true_eq] at k
  have h2 : j.natAbs < 2 ^ 8000 := by omega
  refine ⟨k.1, ?_⟩
  by_cases z : j.natAbs = 0
  · rw [z]; decide
  · exact Nat.lt_trans ((Nat.log2_lt z).mpr h2) (by decide)
theorem ox_mod : OpX X W fMod (rI (fun _ j => 0 < j) fun i j => .int (i % j)) := ox_int fun i j k => by simpa using k
theorem ox_pow : OpX X W fPow (rI CPow fun i j => .int (i ^ j.toNat)) := ox_int fun i j k => by
  simp only [Bool.and_eq_true, decide_eq_true_eq] at k
  exact ⟨k.1.1, k.1.2, k.2⟩
end
end Wg

namespace Wg
open PySem PySem.Spec PyProof.Rows L2 SlX
section
variable {K : KC} {ρ ρ' ρ1 : Pl} {H H' H1 : Hp} {h : Store}

/-! ### == -/
mutual
noncomputable def toD : PV → Option PyData
  | .non => some .none
  | .bl b => some (.bool b)
  | .int i => some (.int i)
  | .str x => some (.str ⟨x.toArray⟩)
  | .tup xs => (toDs xs).map .tuple
  | .lst xs => (toDs xs).map .list
  | .scr xs => (toDs xs).map .list
  | _ => none
noncomputable def toDs : List PV → Option (List PyData)
  | [] => some []
  | x :: xs => (toD x).bind fun d => (toDs xs).map (d :: ·)
end
/-- a cell's list as a value -/
noncomputable def seen (h : Store) : PV → PV
  | .ref a => match h[a]? with
    | some (.lst xs) => .lst xs
    | _ => .ref a
  | x => x
mutual
theorem toD_dp : ∀ (x : PV) (v : V) (d : PyData), RV K ρ H x v → toD x = some d → Dp K H v d
  | .non, _, _, r, e => by cases e; rw [show _ = V.non from r]; exact .non
  | .bl b, _, _, r, e => by cases e; rw [show _ = V.bl b from r]; exact .bl b
  | .int i, _, _, r, e => by cases e; rw [show _ = V.int i from r]; exact .int i
  | .str x, _, _, r, e => by cases e; rw [show _ = strV x from r]; exact .str _
  | .tup xs, _, _, ⟨p, vs, e1, t, r⟩, e => by
    unfold toD at e
    cases q : toDs xs with
    | none => rw [q] at e; cases e
    | some ds => rw [q] at e; cases e; rw [e1]; exact .tup t.sq (toDs_dp xs vs ds r q)
  | .lst xs, _, _, ⟨p, vs, e1, t, r⟩, e => by
    unfold toD at e
    cases q : toDs xs with
    | none => rw [q] at e; cases e
    | some ds => rw [q] at e; cases e; rw [e1]; exact .lst (SqL.of t.2) (toDs_dp xs vs ds r q)
  | .scr xs, _, _, ⟨p, vs, e1, t, r⟩, e => by
    unfold toD at e
    cases q : toDs xs with
    | none => rw [q] at e; cases e
    | some ds => rw [q] at e; cases e; rw [e1]; exact .lst t.sq (toDs_dp xs vs ds r q)
  | .ty _, _, _, _, e => by cases e
  | .adr _, _, _, _, e => by cases e
  | .ref _, _, _, _, e => by cases e
  | .dct _, _, _, _, e => by cases e
  | .dcT _, _, _, _, e => by cases e
  | .cls _, _, _, _, e => by cases e
  | .ins _ _, _, _, _, e => by cases e
  | .set _, _, _, _, e => by cases e
  | .dctO _, _, _, _, e => by cases e
  | .exn _, _, _, _, e => by cases e
  | .lam _ _ _ _ _, _, _, _, e => by cases e
theorem toDs_dp : ∀ (xs : List PV) (vs : List V) (ds : List PyData), RVs K ρ H xs vs → toDs xs = some ds → DpAll K H vs ds
  | [], _, _, r, e => by cases e; rw [show _ = [] from r]; exact .nil
  | x :: xs, _, _, ⟨v, rr, e1, h1, h2⟩, e => by
    unfold toDs at e
    cases q1 : toD x with
    | none => rw [q1] at e; cases e
    | some d =>
      cases q2 : toDs xs with
      | none => rw [q1, q2] at e; cases e
      | some ds => rw [q1, q2] at e; cases e; rw [e1]; exact .cons (toD_dp x v d h1 q1) (toDs_dp xs rr ds h2 q2)
end
theorem seen_dp (p : Rep K ρ h H) {x : PV} {v : V} {d : PyData} (r : RV K ρ H x v) (e : toD (seen h x) = some d) : Dp K H v d := by
  cases x with
  | ref i =>
    obtain ⟨a, e1, e2⟩ := r
    cases q : h[i]? with
    | none => simp [seen, q, toD] at e
    | some c =>
      cases c with
      | lst ys =>
        simp only [seen, q] at e
        obtain ⟨vs, q1, rs⟩ := p.at_ i _ a q e1
        simp only [toD] at e
        cases q2 : toDs ys with
        | none => rw [q2] at e; cases e
        | some ds => rw [q2] at e; cases e; rw [e2]; exact .lst (SqL.of q1) (toDs_dp ys vs ds rs q2)
      | _ => simp [seen, q, toD] at e
  | _ => exact toD_dp _ v d r e
/-- scalars -/
noncomputable def eqS : PV → PV → Option Bool
  | .non, .non => some true
  | .non, .int _ => some false | .int _, .non => some false
  | .non, .bl _ => some false | .bl _, .non => some false
  | .non, .str _ => some false | .str _, .non => some false
  | .int i, .int j => some (decide (i = j))
  | .bl a, .bl b => some (a == b)
  | .str x, .str y => some (decide (x = y))
  | .int _, .str _ => some false | .str _, .int _ => some false
  | .bl _, .str _ => some false | .str _, .bl _ => some false
  | _, _ => none
noncomputable def shD (d : PyData) : Bool := SeqAt.shaped d
noncomputable def fEqB (x y : PV) (h : Store) : Option Bool :=
  match eqS x y with
  | some b => some b
  | none => match toD (seen h x), toD (seen h y) with
    | some d, some e => if (shD d && shD e) = true then some (PyData.eqv d e) else none
    | _, _ => none
/-- a dict and a tuple -/
noncomputable def eqDT : PV → PV → Bool
  | .dct _, .tup _ => true
  | .dcT _, .tup _ => true
  | _, _ => false
/-- against the empty tuple, the empty list: whatever the other one has -/
noncomputable def eqE : PV → PV → Option Bool
  | .tup xs, .tup [] => some xs.isEmpty
  | .lst xs, .lst [] => some xs.isEmpty
  | _, _ => none
noncomputable def fEq (x y : PV) (h : Store) : R PV := match fEqB x y h with
  | some b => .ok (.bl b) h
  | none => match eqE x y with
    | some b => .ok (.bl b) h
    | none => if eqDT x y = true then .ok (.bl false) h else .no
noncomputable def fNe (x y : PV) (h : Store) : R PV := match fEqB x y h with
  | some b => .ok (.bl (!b)) h
  | none => match eqE x y with
    | some b => .ok (.bl (!b)) h
    | none => .no
theorem eqS_scal {x y : PV} {v w : V} {b : Bool} (rx : RV K ρ H x v) (ry : RV K ρ H y w) (e : eqS x y = some b) : scal v w = true ∧ decide (v = w) = b := by
  cases x <;> cases y <;> simp only [eqS] at e <;> first | (cases e; done) | skip
  all_goals (rw [show v = _ from rx, show w = _ from ry]; cases e; simp [scal, strV])
  all_goals first
    | (rename_i a b; cases a <;> cases b <;> rfl)
    | skip
variable {X : Cx} {W : WQ}
noncomputable def rEqE (g : Bool → Bool) (K : PySem.W.Frag) : R2 := fun x y H Q => ∃ a b xs, x = .ref a ∧ y = .ref b ∧ ((SqT K H a xs ∧ SqT K H b []) ∨ (SqL K H a xs ∧ SqL K H b [])) ∧ Q (.bl (g xs.isEmpty)) H
theorem isE {xs : List V} {its : List Value} (r : Vals xs its) : (its.toArray.size == (#[] : Array Value).size) = xs.isEmpty := by
  cases r <;> rfl
theorem op_eqE (hu : X.A.units + 64 < cLine) : OpR X (compareOp .Eq) (rEqE id X.K) := by
  intro pins s σ H x y v u Q I rx ry h
  obtain ⟨a, b, xs, rfl, rfl, ⟨h1, h2⟩ | ⟨h1, h2⟩, q⟩ := h
  · cases rx; cases ry
    obtain ⟨its, r, p, _⟩ := I.tuple h1
    obtain ⟨its2, r2, p2, _⟩ := I.tuple h2
    cases r2
    have e : ((List.range (min its.toArray.size ([] : List Value).toArray.size)).all (fun _ => true) && its.toArray.size == ([] : List Value).toArray.size) = xs.isEmpty := by
      rw [← isE r]; simp
    refine SeqAt.RcAt.tuples (e := fun _ => true) (show s.heap.IsTuple a its.toArray from p) (show s.heap.IsTuple b [].toArray from p2) (by omega) (fun j _ h2 => absurd h2 (Nat.not_lt_zero _)) _ _ _ _ ?_
    rw [e]
    exact ⟨.bl _, H, I, rfl, q⟩
  · cases rx; cases ry
    obtain ⟨its, r, p, _⟩ := I.list h1
    obtain ⟨its2, r2, p2, _⟩ := I.list h2
    cases r2
    cases r with
    | nil => exact SeqAt.RcAt.lists (e := fun _ => true) p.isList p2.isList rfl (by omega) (fun j _ h2 => absurd h2 (Nat.not_lt_zero _)) _ _ _ _ ⟨.bl true, H, I, rfl, q⟩
    | cons r rr => exact SeqAt.RcAt.lists_lengths p.isList p2.isList rfl (by omega) _ _ _ _ ⟨.bl false, H, I, rfl, q⟩
theorem op_neE (hu : X.A.units + 64 < cLine) : OpR X (compareOp .NotEq) (rEqE not X.K) := by
  intro pins s σ H x y v u Q I rx ry h
  obtain ⟨a, b, xs, rfl, rfl, ⟨h1, h2⟩ | ⟨h1, h2⟩, q⟩ := h
  · cases rx; cases ry
    obtain ⟨its, r, p, _⟩ := I.tuple h1
    obtain ⟨its2, r2, p2, _⟩ := I.tuple h2
    cases r2
    have e : (!((List.range (min its.toArray.size ([] : List Value).toArray.size)).all (fun _ => true) && its.toArray.size == ([] : List Value).toArray.size)) = !xs.isEmpty := by
      rw [← isE r]; simp
    refine SeqAt.RcNeAt.tuples (e := fun _ => true) (show s.heap.IsTuple a its.toArray from p) (show s.heap.IsTuple b [].toArray from p2) (by omega) (fun j _ h2 => absurd h2 (Nat.not_lt_zero _)) _ _ _ _ ?_
    rw [e]
    exact ⟨.bl _, H, I, rfl, q⟩
  · cases rx; cases ry
    obtain ⟨its, r, p, _⟩ := I.list h1
    obtain ⟨its2, r2, p2, _⟩ := I.list h2
    cases r2
    cases r with
    | nil => exact SeqAt.RcNeAt.lists (e := fun _ => true) p.isList p2.isList rfl (by omega) (fun j _ h2 => absurd h2 (Nat.not_lt_zero _)) _ _ _ _ ⟨.bl false, H, I, rfl, q⟩
    | cons r rr => exact SeqAt.RcNeAt.lists_lengths p.isList p2.isList rfl (by omega) _ _ _ _ ⟨.bl true, H, I, rfl, q⟩
noncomputable def rEqA (K : PySem.W.Frag) : R2 := fun x y H Q => rEq x y H Q ∨ rEqD K x y H Q ∨ rEqDT K x y H Q ∨ rEqE id K x y H Q
noncomputable def rNeA (K : PySem.W.Frag) : R2 := fun x y H Q => rNe x y H Q ∨ rNeD K x y H Q ∨ rEqE not K x y H Q
theorem op_eqA (hu : X.A.units + 64 < cLine) : OpR X (compareOp .Eq) (rEqA X.K) := op_eq.or ((op_eqD hu).or ((op_eqDT hu).or (op_eqE hu)))
theorem op_neA (hu : X.A.units + 64 < cLine) : OpR X (compareOp .NotEq) (rNeA X.K) := op_ne.or ((op_neD hu).or (op_neE hu))
theorem eqE_at {x y : PV} {v w : V} {b : Bool} (rx : RV K ρ H x v) (ry : RV K ρ H y w) (e : eqE x y = some b) :
    ∃ a c xs, v = .ref a ∧ w = .ref c ∧ ((SqT K H a xs ∧ SqT K H c []) ∨ (SqL K H a xs ∧ SqL K H c [])) ∧ b = xs.isEmpty := by
  unfold eqE at e
  split at e
  next xs =>
    cases e
    obtain ⟨a, vs, e1, t1, r1⟩ := tup_at rx
    obtain ⟨c, ws, e2, t2, r2⟩ := tup_at ry
    cases (show ws = [] from r2)
    refine ⟨a, c, vs, e1, e2, .inl ⟨t1, t2⟩, ?_⟩
    have := r1.len
    cases xs <;> cases vs <;> first | rfl | (simp at this)
  next xs =>
    cases e
    obtain ⟨a, vs, e1, t1, r1⟩ := rx
    obtain ⟨c, ws, e2, t2, r2⟩ := ry
    cases (show ws = [] from r2)
    refine ⟨a, c, vs, e1, e2, .inr ⟨SqL.of t1.2, SqL.of t2.2⟩, ?_⟩
    have := r1.len
    cases xs <;> cases vs <;> first | rfl | (simp at this)
  next => cases e
theorem fEqB_at (p : Rep K ρ h H) {x y : PV} {v w : V} {b : Bool} (rx : RV K ρ H x v) (ry : RV K ρ H y w) (e : fEqB x y h = some b) :
    (scal v w = true ∧ decide (v = w) = b) ∨ ∃ d e, Dp K H v d ∧ Dp K H w e ∧ SeqAt.shaped d = true ∧ SeqAt.shaped e = true ∧ PyData.eqv d e = b := by
  unfold fEqB at e
  split at e
  next b' q => cases e; exact .inl (eqS_scal rx ry q)
  next =>
    split at e
    next d d' q1 q2 =>
      by_cases c : (shD d && shD d') = true
      · rw [if_pos c] at e
        cases e
        rw [Bool.and_eq_true] at c
        exact .inr ⟨d, d', seen_dp p rx q1, seen_dp p ry q2, c.1, c.2, rfl⟩
      · rw [if_neg c] at e; cases e
    next => cases e
theorem ox_eq : OpX X W fEq (rEqA X.K) := by
  intro ρ h σ H x y v w Q p rx ry o
  unfold fEq at o
  split at o
  next b q =>
    rcases fEqB_at p rx ry q with ⟨a, c⟩ | ⟨d, e, a1, a2, a3, a4, c⟩
    · exact .inl ⟨a, by rw [c]; exact o.ok p rfl⟩
    · exact .inr (.inl ⟨d, e, a1, a2, a3, a4, by rw [c]; exact o.ok p rfl⟩)
  next =>
    split at o
    next b q =>
      obtain ⟨a, c, xs, e1, e2, t, eb⟩ := eqE_at rx ry q
      exact .inr (.inr (.inr ⟨a, c, xs, e1, e2, t, by rw [← eb]; exact o.ok p rfl⟩))
    next =>
      obtain ⟨c, o⟩ := out_if o
      cases x <;> first | (cases c; done) | skip
      all_goals (cases y <;> first | (cases c; done) | skip)
      all_goals
        obtain ⟨a, vs, e1, t, _⟩ := rx
        obtain ⟨b, ws, e2, t2, _⟩ := tup_at ry
      · exact .inr (.inr (.inl ⟨a, b, ws, e1, e2, .inl ⟨vs, t.2⟩, t2, o.ok p rfl⟩))
      · exact .inr (.inr (.inl ⟨a, b, ws, e1, e2, .inr ⟨vs, t.2⟩, t2, o.ok p rfl⟩))
theorem ox_ne : OpX X W fNe (rNeA X.K) := by
  intro ρ h σ H x y v w Q p rx ry o
  unfold fNe at o
  split at o
  next b q =>
    rcases fEqB_at p rx ry q with ⟨a, c⟩ | ⟨d, e, a1, a2, a3, a4, c⟩
    · exact .inl ⟨a, by rw [c]; exact o.ok p rfl⟩
    · exact .inr (.inl ⟨d, e, a1, a2, a3, a4, by rw [c]; exact o.ok p rfl⟩)
  next =>
    split at o
    next b q =>
      obtain ⟨a, c, xs, e1, e2, t, eb⟩ := eqE_at rx ry q
      exact .inr (.inr ⟨a, c, xs, e1, e2, t, by rw [← eb]; exact o.ok p rfl⟩)
    next => exact o.elim

/-! ### < <= > >= -/
noncomputable def fOrd (g : Int → Int → Bool) (k : List Nat → List Nat → Bool) (x y : PV) (h : Store) : R PV :=
  match x, y with
  | .int i, .int j => .ok (.bl (g i j)) h
  | .str i, .str j => .ok (.bl (k i j)) h
  | _, _ => .no
noncomputable def rOrd (g : Int → Int → Bool) (k : List Nat → List Nat → Bool) : R2 := fun x y H Q => (∃ i j, x = .int i ∧ y = .int j ∧ Q (.bl (g i j)) H) ∨ (∃ i j, x = .str i ∧ y = .str j ∧ Q (.bl (k i.cps.toList j.cps.toList)) H)
theorem ox_ord {g k} : OpX X W (fOrd g k) (rOrd g k) := by
  intro ρ h σ H x y v w Q p rx ry o
  unfold fOrd at o
  split at o
  next i j => cases rx; cases ry; exact .inl ⟨i, j, rfl, rfl, o.ok p rfl⟩
  next i j => cases rx; cases ry; exact .inr ⟨_, _, rfl, rfl, o.ok p rfl⟩
  next => exact o.elim
noncomputable abbrev fLt := fOrd (fun i j => decide (i < j)) (fun i j => decide (i < j))
noncomputable abbrev fLe := fOrd (fun i j => decide (i ≤ j)) (fun i j => !decide (j < i))
noncomputable abbrev fGt := fOrd (fun i j => decide (j < i)) (fun i j => decide (j < i))
noncomputable abbrev fGe := fOrd (fun i j => decide (j ≤ i)) (fun i j => !decide (i < j))
theorem op_ltA : OpR X (compareOp .Lt) (rOrd (fun i j => decide (i < j)) (fun i j => decide (i < j))) := op_lt.or op_lt_str
theorem op_leA : OpR X (compareOp .LtE) (rOrd (fun i j => decide (i ≤ j)) (fun i j => !decide (j < i))) := op_le.or op_le_str
theorem op_gtA : OpR X (compareOp .Gt) (rOrd (fun i j => decide (j < i)) (fun i j => decide (j < i))) := op_gt.or op_gt_str
end
end Wg

namespace Wg
open PySem PySem.Spec PyProof.Rows L2 SlX
section
variable {X : Cx} {W : WQ} {a b c e : Expr} {ma mb mc m : M PV} {pos : Pos}

/-! ### tests -/
noncomputable def mB (m : M PV) : M Bool := fun l h => (m l h).bind fun x h1 => match x with
  | .bl b => .ok b h1
  | _ => .no
theorem tB_of : ∀ σ H Q, tT (kc X W) W (mB m) σ H Q → tM (kc X W) W m σ H fun x H' => ∃ k, x = .bl k ∧ Q k H' := by
  intro σ H Q ⟨ρ, h, l, p, rl, o⟩
  refine ⟨ρ, h, l, p, rl, Out.mono (Out.bind o) ?_⟩
  intro v H1 ⟨x, h1, ρ1, e1, p1, r1, o1⟩
  cases x with
  | bl b => exact ⟨b, r1, o1.ok p1 rfl⟩
  | _ => exact o1.elim
theorem xt_val (h : XE X W e m) (he : ∀ whole, isTrue e X.env whole = (do let v ← whole; standAt e.pos; holding [v] (truthy v)) := by intro _; rfl) : XT X W e (mB m) := pt_weak (pt_val h he) tB_of
theorem xt_cmp {op : CmpOp} {f r} (hr : OpR X (compareOp op) r) (ho : OpX X W f r) (ha : XE X W a ma) (hb : XE X W b mb) (hm : behindInMarks op b = false) : XT X W (.Compare a [op] [b] pos) (mB (mBin f ma mb)) :=
  pt_weak (pt_cmpR hr ha hb hm) fun σ H Q t => tM_bin ho _ _ _ (tB_of _ _ _ t)
noncomputable def mAndT (a b : M Bool) : M Bool := fun l h => (a l h).bind fun c h1 => if c = true then b l h1 else .ok false h1
noncomputable def mOrT (a b : M Bool) : M Bool := fun l h => (a l h).bind fun c h1 => if c = true then .ok true h1 else b l h1
noncomputable def mNotT (a : M Bool) : M Bool := fun l h => (a l h).bind fun c h1 => .ok (!c) h1
noncomputable abbrev XW (X : Cx) (W : WQ) (e : Expr) (m : M Bool) : Prop := PW X e (tT (kc X W) W m)
theorem pw_weak {X e t t'} (h : PW X e t) (w : ∀ σ H Q, t' σ H Q → t σ H Q) : PW X e t' := ⟨fun wh pins s σ H Q I q => h.run wh pins s σ H Q I (w _ _ _ q)⟩
variable {ta tb : M Bool} {rest : List Expr}
theorem xw_and1 (ha : XT X W a ta) : XW X W (.BoolOp .And [a] pos) ta := pw_and1 ha
theorem xw_or1 (ha : XT X W a ta) : XW X W (.BoolOp .Or [a] pos) ta := pw_or1 ha
theorem xw_and (ha : XT X W a ta) (hb : XW X W (.BoolOp .And (b :: rest) pos) tb) : XW X W (.BoolOp .And (a :: b :: rest) pos) (mAndT ta tb) :=
  pw_weak (pw_and ha hb) fun σ H Q ⟨ρ, h, l, p, rl, o⟩ => ⟨ρ, h, l, p, rl, Out.mono (Out.bind o) fun v H1 ⟨x, h1, ρ1, e1, p1, r1, o1⟩ => by
    cases r1
    cases v with
    | true => exact ⟨ρ1, h1, l, p1, rl.ext e1, o1⟩
    | false => exact o1.ok p1 rfl⟩
theorem xw_or (ha : XT X W a ta) (hb : XW X W (.BoolOp .Or (b :: rest) pos) tb) : XW X W (.BoolOp .Or (a :: b :: rest) pos) (mOrT ta tb) :=
  pw_weak (pw_or ha hb) fun σ H Q ⟨ρ, h, l, p, rl, o⟩ => ⟨ρ, h, l, p, rl, Out.mono (Out.bind o) fun v H1 ⟨x, h1, ρ1, e1, p1, r1, o1⟩ => by
    cases r1
    cases v with
    | true => exact o1.ok p1 rfl
    | false => exact ⟨ρ1, h1, l, p1, rl.ext e1, o1⟩⟩
theorem xt_not (ha : XT X W a ta) : XT X W (.UnaryOp .Not a pos) (mNotT ta) :=
  pt_weak (pt_not ha) fun σ H Q ⟨ρ, h, l, p, rl, o⟩ => ⟨ρ, h, l, p, rl, Out.mono (Out.bind o) fun v H1 ⟨x, h1, ρ1, e1, p1, r1, o1⟩ => by
    cases r1
    exact o1.ok p1 rfl⟩
/-! .. as values -/
noncomputable def mAnd (a b : M PV) : M PV := fun l h => (a l h).bind fun x h1 => match x with
  | .bl c => if c = true then b l h1 else .ok (.bl false) h1
  | _ => .no
noncomputable def mOr (a b : M PV) : M PV := fun l h => (a l h).bind fun x h1 => match x with
  | .bl c => if c = true then .ok (.bl true) h1 else b l h1
  | _ => .no
noncomputable def mNot (a : M PV) : M PV := fun l h => (a l h).bind fun x h1 => match x with
  | .bl c => .ok (.bl (!c)) h1
  | _ => .no
theorem xe_one {op} (h : XE X W a ma) : XE X W (.BoolOp op [a] pos) ma := pe_one h
theorem xe_and (ha : XE X W a ma) (hb : XE X W (.BoolOp .And (b :: rest) pos) mb) : XE X W (.BoolOp .And (a :: b :: rest) pos) (mAnd ma mb) :=
  pe_weak (pe_and ha hb) fun σ H Q ⟨ρ, h, l, p, rl, o⟩ => ⟨ρ, h, l, p, rl, Out.mono (Out.bind o) fun v H1 ⟨x, h1, ρ1, e1, p1, r1, o1⟩ => by
    cases x with
    | bl k =>
      refine ⟨k, r1, ?_⟩
      cases k with
      | true => exact ⟨ρ1, h1, l, p1, rl.ext e1, o1⟩
      | false => exact o1.ok p1 rfl
    | _ => exact o1.elim⟩
noncomputable def mIfE (c : M Bool) (a b : M PV) : M PV := fun l h => (c l h).bind fun k h1 => if k = true then a l h1 else b l h1
theorem xe_ifE (hc : XT X W c ta) (ha : XE X W a ma) (hb : XE X W b mb) : XE X W (.IfExp c a b pos) (mIfE ta ma mb) :=
  pe_weak (pe_ifExp hc ha hb) fun σ H Q ⟨ρ, h, l, p, rl, o⟩ => ⟨ρ, h, l, p, rl, Out.mono (Out.bind o) fun v H1 ⟨x, h1, ρ1, e1, p1, r1, o1⟩ => by
    cases r1
    cases v with
    | true => exact ⟨ρ1, h1, l, p1, rl.ext e1, o1⟩
    | false => exact ⟨ρ1, h1, l, p1, rl.ext e1, o1⟩⟩
/-! chains -/
noncomputable def mChain (f g : PV → PV → Store → R PV) (a b c : M PV) : M PV := fun l h => (a l h).bind fun x h1 => (b l h1).bind fun y h2 => (f x y h2).bind fun k h3 => match k with
  | .bl k => if k = true then (c l h3).bind fun z h4 => g y z h4 else .ok (.bl false) h3
  | _ => .no
theorem tM_chain {f g : PV → PV → Store → R PV} {r r' : R2} (hf : OpX X W f r) (hg : OpX X W g r') : ∀ σ H Q, tM (kc X W) W (mChain f g ma mb mc) σ H Q → tChain r r' (tM (kc X W) W ma) (tM (kc X W) W mb) (tM (kc X W) W mc) σ H Q := by
  intro σ H Q ⟨ρ, h, l, p, rl, o⟩
  refine ⟨ρ, h, l, p, rl, Out.mono (Out.bind o) ?_⟩
  intro v H1 ⟨x, h1, ρ1, e1, p1, r1, o1⟩
  refine ⟨ρ1, h1, l, p1, rl.ext e1, Out.mono (Out.bind o1) ?_⟩
  intro w H2 ⟨y, h2, ρ2, e2, p2, r2, o2⟩
  refine hf ρ2 h2 σ H2 x y v w _ p2 (r1.ext e2) r2 (Out.mono (Out.bind o2) ?_)
  intro u H3 ⟨k, h3, ρ3, e3, p3, r3, o3⟩
  cases k with
  | bl k =>
    refine ⟨k, r3, ?_⟩
    cases k with
    | false => exact o3.ok p3 rfl
    | true =>
      refine ⟨ρ3, h3, l, p3, ((rl.ext e1).ext e2).ext e3, Out.mono (Out.bind o3) ?_⟩
      intro t H4 ⟨z, h4, ρ4, e4, p4, r4, o4⟩
      exact hg ρ4 h4 σ H4 y z w t Q p4 ((r2.ext e3).ext e4) r4 o4
  | _ => exact o3.elim
theorem xt_chain {op op' : CmpOp} {f g : PV → PV → Store → R PV} {r r' : R2} (hr : OpR X (compareOp op) r) (hf : OpX X W f r) (hr' : OpR X (compareOp op') r') (hg : OpX X W g r') (ha : XE X W a ma) (hb : XE X W b mb) (hc : XE X W c mc)
    (hm : lastMarks [op, op'] [b, c] = false := by with_unfolding_all rfl) : XT X W (.Compare a [op, op'] [b, c] pos) (mB (mChain f g ma mb mc)) := pt_weak (pt_chain hr hr' ha hb hc hm) fun σ H Q t => tM_chain hf hg _ _ _ (tB_of _ _ _ t)

/-! ### argument lists, displays -/
noncomputable def mNil : M (List PV) := fun _ h => .ok [] h
noncomputable def mCons (a : M PV) (r : M (List PV)) : M (List PV) := fun l h => (a l h).bind fun x h1 => (r l h1).bind fun xs h2 => .ok (x :: xs) h2
variable {es : List Expr} {ms : M (List PV)}
theorem xa_nil : XA X W [] mNil := pa_weak pa_nil fun σ H Q ⟨ρ, h, l, p, rl, o⟩ => o.ok p rfl
theorem xa_cons (ha : XE X W a ma) (hr : XA X W es ms) (hs : starEach (a :: es) X.env = (false, eval a X.env) :: starEach es X.env := by rfl) : XA X W (a :: es) (mCons ma ms) :=
  pa_weak (pa_cons ha hr hs) fun σ H Q ⟨ρ, h, l, p, rl, o⟩ => ⟨ρ, h, l, p, rl, Out.mono (Out.bind o) fun v H1 ⟨x, h1, ρ1, e1, p1, r1, o1⟩ =>
    ⟨ρ1, h1, l, p1, rl.ext e1, Out.mono (Out.bind o1) fun vs H2 ⟨xs, h2, ρ2, e2, p2, r2, o2⟩ => o2.ok p2 ⟨v, vs, rfl, r1.ext e2, r2⟩⟩⟩
noncomputable def mTup (m : M (List PV)) : M PV := fun l h => (m l h).bind fun xs h1 => if xs.length ≤ sizeLine then .ok (.tup xs) h1 else .no
/-- a list that stays as it is made; one that may be changed -/
noncomputable def mLst (m : M (List PV)) : M PV := fun l h => (m l h).bind fun xs h1 => if xs.length ≤ sizeLine then .ok (.lst xs) h1 else .no
noncomputable def mLstN (m : M (List PV)) : M PV := fun l h => (m l h).bind fun xs h1 => if xs.length ≤ sizeLine then .ok (.ref h1.length) (h1 ++ [.lst xs]) else .no
noncomputable def tTupG (t : TA) : TE := fun σ H Q => t σ H fun xs H1 => xs.length ≤ sizeLine ∧ ∀ p o, H1 p = none → TupO xs o → Q (.ref p) (upd H1 p o)
theorem pe_tupG {x1 : Nat} {es : List Expr} {t : TA} (h : PA X es t) : PE X (.Tuple es x1 pos) (tTupG t) := by
  refine ⟨fun pins s σ H Q I hq => ?_⟩
  refine wpAny_Tuple_spliced (thn (h.run pos pins s σ H _ I hq) fun us s1 ⟨xs, H1, I1, r, z, q⟩ => ⟨by rw [← r.length]; exact z, ?_⟩)
  have hf : H1 s1.heap.objs.size = none := I1.hok.fresh (Nat.le_refl _)
  refine ⟨.ref s1.heap.objs.size, upd H1 s1.heap.objs.size (tupH us xs), I1.laid (t' := s1.toks) (fun b u e => Heap.get?_push_of_some _ e) (Nat.le_refl _) ?_, rfl, q _ _ hf (tupH_o _ _)⟩
  exact tupH_ok z r (Heap.get?_push_size _ rfl)
theorem xe_tup {k} (h : XA X W es ms) : XE X W (.Tuple es k pos) (mTup ms) :=
  pe_weak (pe_tupG h) fun σ H Q ⟨ρ, h, l, p, rl, o⟩ => ⟨ρ, h, l, p, rl, Out.mono (Out.bind o) fun vs H1 ⟨xs, h1, ρ1, e1, p1, r1, o1⟩ => by
    obtain ⟨c, o1⟩ := out_if o1
    refine ⟨by rw [← r1.len]; exact c, fun q ob hq ho => ?_⟩
    obtain ⟨x, p', r'⟩ := new_tupO p1 hq r1 ho
    exact o1 ρ1 _ _ x p' r'⟩
theorem xe_lst (h : XA X W es ms) : XE X W (.List es pos) (mLst ms) :=
  pe_weak (pe_lst h) fun σ H Q ⟨ρ, h, l, p, rl, o⟩ => ⟨ρ, h, l, p, rl, Out.mono (Out.bind o) fun vs H1 ⟨xs, h1, ρ1, e1, p1, r1, o1⟩ => by
    obtain ⟨c, o1⟩ := out_if o1
    refine ⟨by rw [← r1.len]; exact c, fun q hq => ?_⟩
    obtain ⟨x, p', r'⟩ := new_lst p1 hq r1
    exact o1 ρ1 _ _ x p' r'⟩
theorem new_cell {K : KC} {ρ : Pl} {H : Hp} {h : Store} (p : Rep K ρ h H) {q : Addr} (hq : H q = none) {xs : List PV} {vs : List V} (r : RVs K ρ H xs vs) :
    Ext ρ H (ρ.add q) (upd H q (.lst vs)) ∧ Rep K (ρ.add q) (h ++ [.lst xs]) (upd H q (.lst vs)) ∧ RV K (ρ.add q) (upd H q (.lst vs)) (.ref h.length) (.ref q) := by
  have x := Ext.upd_add p hq (.lst vs)
  refine ⟨x, p.grow (c := .lst xs) hq ⟨vs, upd_same, RVs.ext x _ _ r⟩, q, ?_, rfl⟩
  rw [p.len]
  show (ρ.c ++ [q])[ρ.c.length]? = some q
  rw [List.getElem?_append_right (Nat.le_refl _)]
  simp
theorem xe_lstN (h : XA X W es ms) : XE X W (.List es pos) (mLstN ms) :=
  pe_weak (pe_lst h) fun σ H Q ⟨ρ, h, l, p, rl, o⟩ => ⟨ρ, h, l, p, rl, Out.mono (Out.bind o) fun vs H1 ⟨xs, h1, ρ1, e1, p1, r1, o1⟩ => by
    obtain ⟨c, o1⟩ := out_if o1
    refine ⟨by rw [← r1.len]; exact c, fun q hq => ?_⟩
    obtain ⟨x, p', r'⟩ := new_cell p1 hq r1
    exact o1 _ _ _ x p' r'⟩

/-! ### built-in functions by values -/
/-- r reads what f tells -/
noncomputable def CallX (X : Cx) (W : WQ) (f : List PV → Store → R PV) (r : List V → Hp → VK → Prop) : Prop :=
  ∀ (ρ : Pl) (h : Store) (σ : L2.St) (H : Hp) (xs : List PV) (vs : List V) (Q : VK), Rep (kc X W) ρ h H → RVs (kc X W) ρ H xs vs →
    Out (kc X W) ρ H (RV (kc X W)) (fun c d H' => W c d σ H') (f xs h) Q → r vs H Q
noncomputable def mCall (f : List PV → Store → R PV) (m : M (List PV)) : M PV := fun l h => (m l h).bind f
theorem tM_call {f r} (ho : CallX X W f r) : ∀ σ H Q, tM (kc X W) W (mCall f ms) σ H Q → tCB r (tA (kc X W) W ms) σ H Q := fun σ H Q ⟨ρ, h, l, p, rl, o⟩ =>
  ⟨ρ, h, l, p, rl, Out.mono (Out.bind o) fun vs H1 ⟨xs, h1, ρ1, e1, p1, r1, o1⟩ => ho ρ1 h1 σ H1 xs vs Q p1 r1 o1⟩
theorem xe_callB {x : Str} {p0 : Pos} {id : String} {f r} (hr : CallR X (.builtin id) r) (ho : CallX X W f r) (hm : X.mg x = none) (hv : bootBuiltins x = some (.builtin id)) (ha : XA X W (e :: es) ms) (hg : Gl X x := by rfl) (hn : x ≠ "__name__" := by decide) (hdb : (x == ("__debug__" : Str)) = false := by decide)
    (he : starEach (e :: es) X.env = (false, eval e X.env) :: starEach es X.env := by rfl) (hpl : (backTo pos (starEach es X.env)).any (·.1) = false := by rfl) : XE X W (.Call (.Name x p0) (e :: es) [] pos) (mCall f ms) :=
  pe_weak (pe_callB hr hg hm hv ha hn hdb he hpl) (tM_call ho)
theorem xe_callTy {x : Str} {p0 : Pos} {T : String} {f r} (hr : CallR X (.type T) r) (ho : CallX X W f r) (hm : X.mg x = none) (hv : bootBuiltins x = some (.type T)) (ha : XA X W (e :: es) ms) (hg : Gl X x := by rfl) (hn : x ≠ "__name__" := by decide) (hdb : (x == ("__debug__" : Str)) = false := by decide)
    (he : starEach (e :: es) X.env = (false, eval e X.env) :: starEach es X.env := by rfl) (hpl : (backTo pos (starEach es X.env)).any (·.1) = false := by rfl) : XE X W (.Call (.Name x p0) (e :: es) [] pos) (mCall f ms) :=
  pe_weak (pe_callTy hr hg hm hv ha hn hdb he hpl) (tM_call ho)
end
end Wg

namespace Wg
open PySem PySem.Spec PyProof.Rows L2 SlX
section
variable {K : KC} {ρ ρ' ρ1 : Pl} {H H' H1 : Hp} {h : Store} {X : Cx} {W : WQ}

theorem rvs1 {x : PV} {vs : List V} (r : RVs K ρ H [x] vs) : ∃ v, vs = [v] ∧ RV K ρ H x v := by
  obtain ⟨v, r, e, h1, h2⟩ := r
  rw [show r = [] from h2] at e
  exact ⟨v, e, h1⟩
theorem rvs2 {x y : PV} {vs : List V} (r : RVs K ρ H [x, y] vs) : ∃ v w, vs = [v, w] ∧ RV K ρ H x v ∧ RV K ρ H y w := by
  obtain ⟨v, r, e, h1, h2⟩ := r
  obtain ⟨w, e2, h3⟩ := rvs1 h2
  exact ⟨v, w, by rw [e, e2], h1, h3⟩

/-! ### isinstance with a built-in class -/
noncomputable def tyN (h : Store) : PV → Option String
  | .non => some "NoneType" | .bl _ => some "bool" | .int _ => some "int" | .str _ => some "str"
  | .tup _ => some "tuple" | .lst _ => some "list" | .scr _ => some "list" | .dct _ => some "dict"
  | .ref a => match h[a]? with
    | some (.lst _) => some "list"
    | some (.dct _) => some "dict"
    | some (.dcT _) => some "dict"
    | _ => none
  | _ => none
noncomputable def tysA : List String := ["NoneType", "bool", "int", "str", "tuple", "list", "dict"]
noncomputable def tysB : List String := ["bool", "int", "str", "tuple", "list", "dict"]
noncomputable def isTy (t n : String) : Bool := t == n || (t == "bool" && n == "int")
theorem kitAll : (tysA.all fun t => tysB.all fun n => kitB t n == some (isTy t n)) = true := by decide +kernel
theorem kit_at {t n : String} (ht : t ∈ tysA) (hn : n ∈ tysB) : kitB t n = some (isTy t n) := by
  have z := List.all_eq_true.mp (List.all_eq_true.mp kitAll t ht) n hn
  exact beq_iff_eq.mp z
noncomputable def fIsi (xs : List PV) (h : Store) : R PV := match xs with
  | [x, .ty n] => match tyN h x with
    | some t => if (tysB.contains n) = true then .ok (.bl (isTy t n)) h else .no
    | none => .no
  | _ => .no
theorem tyN_at (p : Rep K ρ h H) {x : PV} {v : V} {t : String} (r : RV K ρ H x v) (e : tyN h x = some t) : TyX K H v (.type t) ∧ t ∈ tysA := by
  cases x with
  | non => cases e; rw [show v = _ from r]; exact ⟨.base .non, by decide⟩
  | bl b => cases e; rw [show v = _ from r]; exact ⟨.base (.bl b), by decide⟩
  | int i => cases e; rw [show v = _ from r]; exact ⟨.base (.int i), by decide⟩
  | str i => cases e; rw [show v = _ from r]; exact ⟨.base (.str _), by decide⟩
  | tup xs =>
    cases e
    obtain ⟨a, vs, e1, t, _⟩ := r
    rw [e1]
    exact ⟨t.read.elim (fun q => .base (.tup q)) fun ⟨_, q⟩ => .fTuple q, by decide⟩
  | lst xs =>
    cases e
    obtain ⟨a, vs, e1, t, _⟩ := r
    rw [e1]
    exact ⟨.base (.lst t.2), by decide⟩
  | scr xs =>
    cases e
    obtain ⟨a, vs, e1, t, _⟩ := r
    rw [e1]
    refine ⟨?_, by decide⟩
    rcases t with ⟨_, t | ⟨o, t⟩⟩ | ⟨o, its, n, t, c, _⟩
    · exact .base (.lst t)
    · exact .base (.frz t)
    · exact .kList t c
  | dct xs =>
    cases e
    obtain ⟨a, vs, e1, t, _⟩ := r
    rw [e1]
    exact ⟨t.2.elim (fun q => .base (.dK q)) fun ⟨_, q⟩ => .fDict q, by decide⟩
  | ref i =>
    obtain ⟨a, e1, e2⟩ := r
    rw [e2]
    unfold tyN at e
    cases q : h[i]? with
    | none => simp [q] at e
    | some c =>
      cases c with
      | lst ys =>
        simp only [q] at e
        cases e
        obtain ⟨vs, q1, _⟩ := p.at_ i _ a q e1
        exact ⟨.base (.lst q1), by decide⟩
      | dct ys =>
        simp only [q] at e
        cases e
        obtain ⟨_, q1, _⟩ := p.at_ i _ a q e1
        exact ⟨.base (.dK q1), by decide⟩
      | dcT ys =>
        simp only [q] at e
        cases e
        obtain ⟨_, q1, _⟩ := p.at_ i _ a q e1
        exact ⟨.base (.dT q1), by decide⟩
      | _ => simp [q] at e
  | _ => cases e
theorem cx_isi : CallX X W fIsi (rIsi X.K) := by
  intro ρ h σ H xs vs Q p r o
  unfold fIsi at o
  split at o
  next x n =>
    obtain ⟨v, w, e, r1, r2⟩ := rvs2 r
    split at o
    next t q =>
      obtain ⟨c, o⟩ := out_if o
      obtain ⟨t1, t2⟩ := tyN_at p r1 q
      refine ⟨v, w, _, _, _, e, ?_, t1, kit_ty (kit_at t2 (List.contains_iff_mem.mp c)), o.ok p rfl⟩
      rw [show w = _ from r2]; exact .ty n
    next => exact o.elim
  next => exact o.elim

/-! ### len -/
noncomputable def fLen (xs : List PV) (h : Store) : R PV := match xs with
  | [.str x] => if x.length ≤ sizeLine then .ok (.int x.length) h else .no
  | [.tup ys] => .ok (.int ys.length) h
  | [x] => match lstRd h x with
    | some ys => .ok (.int ys.length) h
    | none => .no
  | _ => .no
theorem cx_len : CallX X W fLen (fun xs H Q => ∃ x n, xs = [x] ∧ LenV X.K x H n ∧ Q (.int n) H) := by
  intro ρ h σ H xs vs Q p r o
  unfold fLen at o
  split at o
  next x =>
    obtain ⟨v, e, r1⟩ := rvs1 r
    obtain ⟨c, o⟩ := out_if o
    refine ⟨v, x.length, e, ?_, o.ok p rfl⟩
    rw [show v = _ from r1]
    exact ⟨by simpa [Str.length] using c, by simp [Str.length]⟩
  next ys =>
    obtain ⟨v, e, r1⟩ := rvs1 r
    obtain ⟨a, ws, e2, t, rs⟩ := tup_at r1
    refine ⟨v, ys.length, e, ?_, o.ok p rfl⟩
    rw [e2]
    exact .inr ⟨ws, t, rs.len⟩
  next x _ _ =>
    obtain ⟨v, e, r1⟩ := rvs1 r
    split at o
    next ys q =>
      obtain ⟨a, ws, e2, t, rs⟩ := lstRd_at p r1 q
      refine ⟨v, ys.length, e, ?_, o.ok p rfl⟩
      rw [e2]
      exact .inl ⟨ws, t, rs.len⟩
    next => exact o.elim
  next => exact o.elim

/-! ### int(x), str(x), abs, max, min -/
noncomputable def fIntOf (xs : List PV) (h : Store) : R PV := match xs with
  | [.int i] => .ok (.int i) h
  | [.bl b] => .ok (.int (if b = true then 1 else 0)) h
  | [.str x] => match intText? ⟨x.toArray⟩ with
    | some n => if x.length ≤ 640 then .ok (.int n) h else .no
    | none => .no
  | _ => .no
noncomputable def rIntA : List V → Hp → VK → Prop := fun xs H Q => ((∃ i, xs = [.int i] ∧ Q (.int i) H) ∨ ∃ k, xs = [.bl k] ∧ Q (.int (if k then 1 else 0)) H) ∨ ∃ a n, xs = [.str a] ∧ PySem.intText? a = some n ∧ a.length ≤ 640 ∧ Q (.int n) H
theorem cr_intA : CallR X (.type "int") rIntA := call_int1.or call_int_str
theorem cx_int : CallX X W fIntOf rIntA := by
  intro ρ h σ H xs vs Q p r o
  unfold fIntOf at o
  split at o
  next i =>
    obtain ⟨v, e, r1⟩ := rvs1 r
    rw [show v = _ from r1] at e
    exact .inl (.inl ⟨i, e, o.ok p rfl⟩)
  next i =>
    obtain ⟨v, e, r1⟩ := rvs1 r
    rw [show v = _ from r1] at e
    exact .inl (.inr ⟨i, e, o.ok p rfl⟩)
  next x =>
    obtain ⟨v, e, r1⟩ := rvs1 r
    rw [show v = _ from r1] at e
    split at o
    next n q =>
      obtain ⟨c, o⟩ := out_if o
      exact .inr ⟨_, n, e, q, by simpa [Str.length] using c, o.ok p rfl⟩
    next => exact o.elim
  next => exact o.elim
/-- the figures of a number -/
noncomputable def digs (i : Int) : List Nat := (toString i).toList.map Char.toNat
noncomputable def fStrOf (xs : List PV) (h : Store) : R PV := match xs with
  | [.int i] => if i.natAbs.log2 < 1920 then .ok (.str (digs i)) h else .no
  | [.str x] => .ok (.str x) h
  | _ => .no
noncomputable def fAbs (xs : List PV) (h : Store) : R PV := match xs with
  | [.int i] => .ok (.int (if i < 0 then -i else i)) h
  | _ => .no
theorem cx_abs : CallX X W fAbs (fun xs H Q => ∃ i, xs = [.int i] ∧ Q (.int (if i < 0 then -i else i)) H) := by
  intro ρ h σ H xs vs Q p r o
  unfold fAbs at o
  split at o
  next i =>
    obtain ⟨v, e, r1⟩ := rvs1 r
    rw [show v = _ from r1] at e
    exact ⟨i, e, o.ok p rfl⟩
  next => exact o.elim
noncomputable def fMax2 (xs : List PV) (h : Store) : R PV := match xs with
  | [.int i, .int j] => .ok (.int (if j > i then j else i)) h
  | _ => .no
noncomputable def fMin2 (xs : List PV) (h : Store) : R PV := match xs with
  | [.int i, .int j] => .ok (.int (if j < i then j else i)) h
  | _ => .no
theorem cx_max2 : CallX X W fMax2 (fun xs H Q => ∃ i j, xs = [.int i, .int j] ∧ Q (.int (if j > i then j else i)) H) := by
  intro ρ h σ H xs vs Q p r o
  unfold fMax2 at o
  split at o
  next i j =>
    obtain ⟨v, w, e, r1, r2⟩ := rvs2 r
    rw [show v = _ from r1, show w = _ from r2] at e
    exact ⟨i, j, e, o.ok p rfl⟩
  next => exact o.elim
theorem cx_min2 : CallX X W fMin2 (fun xs H Q => ∃ i j, xs = [.int i, .int j] ∧ Q (.int (if j < i then j else i)) H) := by
  intro ρ h σ H xs vs Q p r o
  unfold fMin2 at o
  split at o
  next i j =>
    obtain ⟨v, w, e, r1, r2⟩ := rvs2 r
    rw [show v = _ from r1, show w = _ from r2] at e
    exact ⟨i, j, e, o.ok p rfl⟩
  next => exact o.elim

/-! ### all, any, tuple, list -/
noncomputable def bools : List PV → Option (List Bool)
  | [] => some []
  | .bl b :: r => (bools r).map (b :: ·)
  | _ :: _ => none
theorem bools_at : ∀ {xs : List PV} {vs : List V} {bs : List Bool}, RVs K ρ H xs vs → bools xs = some bs → vs = bs.map V.bl
  | [], _, _, r, e => by cases e; exact r
  | x :: xs, _, bs, ⟨v, r, e, h1, h2⟩, q => by
    cases x with
    | bl b =>
      simp only [bools] at q
      cases q2 : bools xs with
      | none => rw [q2] at q; cases q
      | some cs =>
        rw [q2] at q
        cases q
        rw [e, show v = _ from h1, bools_at h2 q2]
        rfl
    | _ => cases q
noncomputable def fAll (xs : List PV) (h : Store) : R PV := match xs with
  | [x] => match lstRd h x with
    | some ys => match bools ys with
      | some bs => .ok (.bl (bs.all id)) h
      | none => .no
    | none => .no
  | _ => .no
theorem cx_all : CallX X W fAll (rAll X.K) := by
  intro ρ h σ H xs vs Q p r o
  unfold fAll at o
  split at o
  next x =>
    obtain ⟨v, e, r1⟩ := rvs1 r
    split at o
    next ys q =>
      obtain ⟨a, ws, e2, t, rs⟩ := lstRd_at p r1 q
      split at o
      next bs q2 =>
        refine ⟨a, bs, by rw [e, e2], ?_, o.ok p rfl⟩
        rw [← bools_at rs q2]; exact t
      next => exact o.elim
    next => exact o.elim
  next => exact o.elim
noncomputable def fTuple (xs : List PV) (h : Store) : R PV := match xs with
  | [.tup ys] => .ok (.tup ys) h
  | [x] => match lstRd h x with
    | some ys => .ok (.tup ys) h
    | none => .no
  | _ => .no
noncomputable def rTupleA (K : PySem.W.Frag) : List V → Hp → VK → Prop := fun xs H Q => ∃ p ys, xs = [.ref p] ∧ ((SqL K H p ys ∧ ∀ l o, H l = none → TupO ys o → Q (.ref l) (upd H l o)) ∨ (SqT K H p ys ∧ Q (.ref p) H))
theorem cr_tupleG : CallR X (.type "tuple") (rTupleA X.K) := by
  intro pins s σ H xs us Q I r h
  obtain ⟨p, ys, rfl, h⟩ := h
  obtain ⟨u, rfl, ru⟩ := vals1 r
  cases ru
  rcases h with ⟨hs, q⟩ | ⟨hs, q⟩
  · obtain ⟨its, rv, pl, hz⟩ := I.list hs
    refine call_tuple_list pl.isList (fun h' hk => ?_) (by rw [List.size_toArray, ← rv.length]; exact hz)
    have I1 : Inv X pins σ H { s with heap := h' } := I.kept (t' := s.toks) hk
    have I2 : Inv X pins σ (upd H h'.objs.size (tupH its ys)) { s with heap := h'.push (tupOb its) } :=
      I1.laid (t' := s.toks) (fun b o e => Heap.get?_push_of_some _ e) (Nat.le_refl _) (tupH_ok hz rv (Heap.get?_push_size _ rfl))
    exact ⟨.ref h'.objs.size, upd H h'.objs.size (tupH its ys), I2, rfl, q _ _ (I1.hok.fresh (Nat.le_refl _)) (tupH_o _ _)⟩
  · obtain ⟨its, rv, pl, hz⟩ := I.tuple hs
    exact call_tuple_tup pl ⟨.ref p, H, I, rfl, q⟩
theorem cx_tuple : CallX X W fTuple (rTupleA X.K) := by
  intro ρ h σ H xs vs Q p r o
  unfold fTuple at o
  split at o
  next ys =>
    obtain ⟨v, e, r1⟩ := rvs1 r
    obtain ⟨a, ws, e2, t, rs⟩ := tup_at r1
    rw [e2] at e r1
    exact ⟨a, ws, e, .inr ⟨t, o.ok p r1⟩⟩
  next x _ =>
    obtain ⟨v, e, r1⟩ := rvs1 r
    split at o
    next ys q =>
      obtain ⟨a, ws, e2, t, rs⟩ := lstRd_at p r1 q
      refine ⟨a, ws, by rw [e, e2], .inl ⟨t, fun l ob hl ho => ?_⟩⟩
      obtain ⟨x', p', r'⟩ := new_tupO p hl rs ho
      exact o ρ _ _ x' p' r'
    next => exact o.elim
  next => exact o.elim
/-- the items of a list or a tuple -/
noncomputable def seqRd (h : Store) : PV → Option (List PV)
  | .tup xs => some xs
  | x => lstRd h x
theorem seqRd_at (p : Rep K ρ h H) {x : PV} {v : V} {xs : List PV} (r : RV K ρ H x v) (e : seqRd h x = some xs) : ∃ a vs, v = .ref a ∧ (SqL K H a vs ∨ SqT K H a vs) ∧ RVs K ρ H xs vs := by
  cases x with
  | tup ys =>
    cases e
    obtain ⟨a, ws, e2, t, rs⟩ := tup_at r
    exact ⟨a, ws, e2, .inr t, rs⟩
  | _ =>
    obtain ⟨a, ws, e2, t, rs⟩ := lstRd_at p r e
    exact ⟨a, ws, e2, .inl t, rs⟩
noncomputable def fList (xs : List PV) (h : Store) : R PV := match xs with
  | [x] => match seqRd h x with
    | some ys => .ok (.lst ys) h
    | none => .no
  | _ => .no
noncomputable def fListN (xs : List PV) (h : Store) : R PV := match xs with
  | [x] => match seqRd h x with
    | some ys => .ok (.ref h.length) (h ++ [.lst ys])
    | none => .no
  | _ => .no
noncomputable def rListA (K : PySem.W.Frag) : List V → Hp → VK → Prop := fun xs H Q => ∃ p ys, xs = [.ref p] ∧ (SqL K H p ys ∨ SqT K H p ys) ∧ ∀ l, H l = none → Q (.ref l) (upd H l (.lst ys))
theorem cx_list : CallX X W fList (rListA X.K) := by
  intro ρ h σ H xs vs Q p r o
  unfold fList at o
  split at o
  next x =>
    obtain ⟨v, e, r1⟩ := rvs1 r
    split at o
    next ys q =>
      obtain ⟨a, ws, e2, t, rs⟩ := seqRd_at p r1 q
      refine ⟨a, ws, by rw [e, e2], t, fun l hl => ?_⟩
      obtain ⟨x', p', r'⟩ := new_lst p hl rs
      exact o ρ _ _ x' p' r'
    next => exact o.elim
  next => exact o.elim
theorem cx_listN : CallX X W fListN (rListA X.K) := by
  intro ρ h σ H xs vs Q p r o
  unfold fListN at o
  split at o
  next x =>
    obtain ⟨v, e, r1⟩ := rvs1 r
    split at o
    next ys q =>
      obtain ⟨a, ws, e2, t, rs⟩ := seqRd_at p r1 q
      refine ⟨a, ws, by rw [e, e2], t, fun l hl => ?_⟩
      obtain ⟨x', p', r'⟩ := new_cell p hl rs
      exact o _ _ _ x' p' r'
    next => exact o.elim
  next => exact o.elim

/-! ### items by place -/
theorem atI_rvs {xs : List PV} {vs : List V} {i : Int} {x : PV} (r : RVs K ρ H xs vs) (e : atI xs i = some x) : ∃ v, atI vs i = some v ∧ RV K ρ H x v := by
  unfold atI at e ⊢
  rw [← r.len]
  cases q : ixN xs.length i with
  | none => rw [q] at e; cases e
  | some j =>
    rw [q] at e
    exact r.get e
noncomputable def fIx (x y : PV) (h : Store) : R PV := match x, y with
  | .str z, .int i => match atI z i with
    | some c => if z.length ≤ sizeLine then .ok (.str [c]) h else .no
    | none => .no
  | x, .int i => match seqRd h x with
    | some ys => match atI ys i with
      | some z => .ok z h
      | none => .no
    | none => .no
  | _, _ => .no
theorem ox_ix : OpX X W fIx (rIx X.K) := by
  intro ρ h σ H x y v w Q p rx ry o
  unfold fIx at o
  split at o
  next z i =>
    cases rx; cases ry
    split at o
    next c q =>
      obtain ⟨k, o⟩ := out_if o
      exact .inr (.inr ⟨_, i, c, rfl, rfl, by simpa [Str.length] using k, q, o.ok p rfl⟩)
    next => exact o.elim
  next i _ =>
    cases ry
    split at o
    next ys q =>
      split at o
      next z q2 =>
        obtain ⟨a, ws, e2, t, rs⟩ := seqRd_at p rx q
        obtain ⟨u, q3, ru⟩ := atI_rvs rs q2
        rcases t with t | t
        · exact .inl ⟨a, ws, i, u, e2, rfl, t, q3, o.ok p ru⟩
        · exact .inr (.inl ⟨a, ws, i, u, e2, rfl, t, q3, o.ok p ru⟩)
      next => exact o.elim
    next => exact o.elim
  next => exact o.elim
theorem xe_ix {a b : Expr} {ma mb : M PV} {pos : Pos} (ha : XE X W a ma) (hb : XE X W b mb) (hs : PlainIx b := by exact fun _ _ => rfl) : XE X W (.Subscript a b pos) (mBin fIx ma mb) := pe_weak (pe_ix ix_seq ha hb hs) (tM_bin ox_ix)
end
end Wg

namespace Wg
open PySem PySem.Spec PyProof.Rows L2 SlX
section
variable {K : KC} {ρ ρ' ρ1 : Pl} {H H' H1 : Hp} {h : Store} {X : Cx} {W : WQ}

/-! ### methods of built-in classes, by values -/
/-- the receiver is of that class -/
noncomputable def tyM (h : Store) (T : String) (x : PV) : Bool := match x with
  | .str _ => T == "str"
  | .lst _ => T == "list"
  | .ref a => match h[a]? with
    | some (.lst _) => T == "list"
    | some (.dct _) => T == "dict"
    | some (.dcT _) => T == "dict"
    | _ => false
  | _ => false
theorem tyM_at (p : Rep K ρ h H) {x : PV} {v : V} {T : String} (r : RV K ρ H x v) (e : tyM h T x = true) : tyV K T v H := by
  cases x with
  | str z =>
    rw [show v = _ from r]
    exact beq_iff_eq.mp e
  | lst xs =>
    obtain ⟨a, vs, e1, t, _⟩ := r
    rw [e1]
    exact .inl ⟨beq_iff_eq.mp e, vs, SqL.of t.2⟩
  | ref i =>
    obtain ⟨a, e1, e2⟩ := r
    rw [e2]
    unfold tyM at e
    cases q : h[i]? with
    | none => simp [q] at e
    | some c =>
      cases c with
      | lst ys =>
        obtain ⟨vs, q1, _⟩ := p.at_ i _ a q e1
        exact .inl ⟨by simpa [q] using e, vs, SqL.of q1⟩
      | dct ys =>
        obtain ⟨vs, q1, _⟩ := p.at_ i _ a q e1
        exact .inr (.inr (.inl ⟨by simpa [q] using e, .inl ⟨vs, q1⟩⟩))
      | dcT ys =>
        obtain ⟨vs, q1, _⟩ := p.at_ i _ a q e1
        exact .inr (.inr (.inl ⟨by simpa [q] using e, .inr ⟨vs, q1⟩⟩))
      | _ => simp [q] at e
  | _ => cases e
noncomputable def MtX (X : Cx) (W : WQ) (f : PV → List PV → Store → R PV) (r : V → List V → Hp → VK → Prop) : Prop :=
  ∀ (ρ : Pl) (h : Store) (σ : L2.St) (H : Hp) (x : PV) (xs : List PV) (v : V) (vs : List V) (Q : VK), Rep (kc X W) ρ h H → RV (kc X W) ρ H x v → RVs (kc X W) ρ H xs vs →
    Out (kc X W) ρ H (RV (kc X W)) (fun c d H' => W c d σ H') (f x xs h) Q → r v vs H Q
noncomputable def mMeth (T : String) (f : PV → List PV → Store → R PV) (o : M PV) (a : M (List PV)) : M PV := fun l h => (o l h).bind fun x h1 => if tyM h1 T x = true then (a l h1).bind fun xs h2 => f x xs h2 else .no
variable {o e : Expr} {es : List Expr} {mo : M PV} {ms : M (List PV)} {name : Str} {apos cpos : Pos} {T id : String} {r : V → List V → Hp → VK → Prop} {f : PV → List PV → Store → R PV}
theorem xe_bm (pa : PlainAttrs T) (slot : Slot T name id) (hty : typeOf (.builtin id) = pure (.type "method_descriptor")) (hm : MtR X id r) (hx : MtX X W f r) (ho : XE X W o mo) (ha : XA X W (e :: es) ms)
    (hbase : attributeBase o name X.env (eval o X.env) = eval o X.env := by rfl)
    (hfew : ((backTo cpos (starEach (e :: es) X.env)).all (fun x => !x.1) && (backToKw cpos (keywordEach [] X.env)).all (fun x => x.1.isSome)
      && decide ((e :: es).length + ([] : List Keyword).length + (if ([] : List Keyword).isEmpty then 0 else 1) < 30)) = true := by rfl)
    (hline : (apos.endLine == cpos.line) = true := by rfl) (hs : starEach (e :: es) X.env = (false, eval e X.env) :: starEach es X.env := by rfl) (hplain : (backTo cpos (starEach es X.env)).any (·.1) = false := by rfl) :
    XE X W (.Call (.Attribute o name apos) (e :: es) [] cpos) (mMeth T f mo ms) :=
  pe_weak (pe_bm pa slot hty hm ho ha hbase hfew hline hs hplain) fun σ H Q ⟨ρ, h, l, p, rl, oo⟩ => ⟨ρ, h, l, p, rl, Out.mono (Out.bind oo) fun v H1 ⟨x, h1, ρ1, e1, p1, r1, o1⟩ => by
    obtain ⟨c, o1⟩ := out_if o1
    exact ⟨tyM_at p1 r1 c, ρ1, h1, l, p1, rl.ext e1, Out.mono (Out.bind o1) fun vs H2 ⟨xs, h2, ρ2, e2, p2, r2, o2⟩ => hx ρ2 h2 σ H2 x xs v vs Q p2 (r1.ext e2) r2 o2⟩⟩
theorem xe_bm0 (pa : PlainAttrs T) (slot : Slot T name id) (hty : typeOf (.builtin id) = pure (.type "method_descriptor")) (hm : MtR X id r) (hx : MtX X W f r) (ho : XE X W o mo)
    (hbase : attributeBase o name X.env (eval o X.env) = eval o X.env := by rfl) (hline : (apos.endLine == cpos.line) = true := by rfl) : XE X W (.Call (.Attribute o name apos) [] [] cpos) (mMeth T f mo mNil) :=
  pe_weak (pe_bm0 pa slot hty hm ho hbase hline) fun σ H Q ⟨ρ, h, l, p, rl, oo⟩ => ⟨ρ, h, l, p, rl, Out.mono (Out.bind oo) fun v H1 ⟨x, h1, ρ1, e1, p1, r1, o1⟩ => by
    obtain ⟨c, o1⟩ := out_if o1
    exact ⟨tyM_at p1 r1 c, hx ρ1 h1 σ H1 x [] v [] Q p1 r1 rfl o1⟩⟩

/-- the cell of a list -/
noncomputable def cellL (h : Store) : PV → Option (Nat × List PV)
  | .ref i => match h[i]? with
    | some (.lst xs) => some (i, xs)
    | _ => none
  | _ => none
theorem cellL_at (p : Rep K ρ h H) {x : PV} {v : V} {i : Nat} {xs : List PV} (r : RV K ρ H x v) (e : cellL h x = some (i, xs)) : ∃ a vs, (ρ.c[i]? = some a ∧ h[i]? ≠ some Cell.own) ∧ v = .ref a ∧ H a = some (.lst vs) ∧ RVs K ρ H xs vs := by
  cases x with
  | ref j =>
    obtain ⟨a, e1, e2⟩ := r
    simp only [cellL] at e
    cases q : h[j]? with
    | none => rw [q] at e; cases e
    | some c =>
      cases c with
      | lst ys =>
        rw [q] at e
        cases e
        obtain ⟨vs, q1, rs⟩ := p.at_ _ _ a q e1
        exact ⟨a, vs, ⟨e1, by rw [q]; intro z; cases z⟩, e2, q1, rs⟩
      | _ => rw [q] at e; cases e
  | _ => cases e
theorem put_lst (p : Rep K ρ h H) {i : Nat} {a : Addr} (e : ρ.c[i]? = some a ∧ h[i]? ≠ some Cell.own) {xs : List PV} {vs : List V} (r : RVs K ρ H xs vs) : Ext ρ H ρ (upd H a (.lst vs)) ∧ Rep K ρ (h.set i (.lst xs)) (upd H a (.lst vs)) := by
  have x : Ext ρ H ρ (upd H a (.lst vs)) := Ext.upd_in (List.mem_of_getElem? e.1) _
  exact ⟨x, p.put e.1 (.inl e.2) ⟨vs, upd_same, RVs.ext x _ _ r⟩⟩
noncomputable def fAppend (x : PV) (ys : List PV) (h : Store) : R PV := match cellL h x, ys with
  | some (i, xs), [y] => if xs.length < sizeLine then .ok .non (h.set i (.lst (xs ++ [y]))) else .no
  | _, _ => .no
theorem mx_append : MtX X W fAppend rAppend := by
  intro ρ h σ H x xs v vs Q p rx rs o
  unfold fAppend at o
  split at o
  next i zs y q =>
    obtain ⟨c, o⟩ := out_if o
    obtain ⟨a, ws, e1, e2, e3, r1⟩ := cellL_at p rx q
    obtain ⟨u, e4, r2⟩ := rvs1 rs
    refine ⟨a, ws, u, e2, e4, e3, by rw [← r1.len]; exact c, ?_⟩
    obtain ⟨x', p'⟩ := put_lst p e1 (r1.app (RVs.one r2))
    exact o ρ _ _ x' p' rfl
  next => exact o.elim
noncomputable def fPop (x : PV) (ys : List PV) (h : Store) : R PV := match cellL h x, ys with
  | some (i, xs), [] => match xs[xs.length - 1]? with
    | some y => .ok y (h.set i (.lst xs.dropLast))
    | none => .no
  | _, _ => .no
theorem RVs.dropLast : ∀ {xs : List PV} {vs : List V}, RVs K ρ H xs vs → RVs K ρ H xs.dropLast vs.dropLast
  | [], _, h => by rw [show _ = [] from h]; rfl
  | [x], _, h => by obtain ⟨v, e, _⟩ := rvs1 h; rw [e]; rfl
  | x :: y :: xs, _, ⟨v, r, e, h1, h2⟩ => by
    have ih := RVs.dropLast h2
    obtain ⟨w, r', e', _, _⟩ := h2
    subst e'; subst e
    exact ⟨v, _, rfl, h1, ih⟩
theorem mx_pop : MtX X W fPop rPop := by
  intro ρ h σ H x xs v vs Q p rx rs o
  unfold fPop at o
  split at o
  next i zs q =>
    split at o
    next y q2 =>
      obtain ⟨a, ws, e1, e2, e3, r1⟩ := cellL_at p rx q
      obtain ⟨u, e4, r2⟩ := r1.get q2
      rw [r1.len] at e4
      refine ⟨a, ws, u, e2, rs, e3, e4, ?_⟩
      obtain ⟨x', p'⟩ := put_lst p e1 r1.dropLast
      exact o ρ _ _ x' p' (r2.ext x')
    next => exact o.elim
  next => exact o.elim
noncomputable def fExtend (x : PV) (ys : List PV) (h : Store) : R PV := match cellL h x, ys with
  | some (i, xs), [y] => match lstOf h y with
    | some zs => if xs.length + zs.length ≤ sizeLine then .ok .non (h.set i (.lst (xs ++ zs))) else .no
    | none => .no
  | _, _ => .no
theorem mx_extend : MtX X W fExtend rExtend := by
  intro ρ h σ H x xs v vs Q p rx rs o
  unfold fExtend at o
  split at o
  next i zs y q =>
    split at o
    next us q2 =>
      obtain ⟨c, o⟩ := out_if o
      obtain ⟨a, ws, e1, e2, e3, r1⟩ := cellL_at p rx q
      obtain ⟨u, e4, r2⟩ := rvs1 rs
      obtain ⟨b, ts, e5, e6, r3⟩ := lstOf_at p r2 q2
      refine ⟨a, b, ws, ts, e2, by rw [e4, e5], e3, e6, by rw [← r1.len, ← r3.len]; exact c, ?_⟩
      obtain ⟨x', p'⟩ := put_lst p e1 (r1.app r3)
      exact o ρ _ _ x' p' rfl
    next => exact o.elim
  next => exact o.elim

/-! ### sep.join -/
noncomputable def strsOf : List PV → Option (List (List Nat))
  | [] => some []
  | .str x :: r => (strsOf r).map (x :: ·)
  | _ :: _ => none
theorem strsOf_at : ∀ {xs : List PV} {vs : List V} {ys : List (List Nat)}, RVs K ρ H xs vs → strsOf xs = some ys → vs = (ys.map fun x => (⟨x.toArray⟩ : Str)).map V.str
  | [], _, _, r, e => by cases e; exact r
  | x :: xs, _, bs, ⟨v, r, e, h1, h2⟩, q => by
    cases x with
    | str b =>
      simp only [strsOf] at q
      cases q2 : strsOf xs with
      | none => rw [q2] at q; cases q
      | some cs =>
        rw [q2] at q
        cases q
        rw [e, show v = _ from h1, strsOf_at h2 q2]
        rfl
    | _ => cases q
/-- one sign in a text -/
noncomputable def fInStr (x y : PV) (h : Store) : R PV := match x, y with
  | .str [c], .str z => .ok (.bl (decide (c ∈ z))) h
  | _, _ => .no
end
end Wg

namespace Wg
open PySem PySem.Spec PyProof.Rows L2 SlX

/-! ### statements -/
inductive Fl where
  | nx (l : Lv) | rt (x : PV) | bk (l : Lv) | ct (l : Lv)
  /-- an error on its way, the slots as they were -/
  | ex (e : Ex) (l : Lv)
noncomputable abbrev MS := Lv → Store → R Fl
/-- a statement's result, and what is wanted of it -/
noncomputable def OutS (K : KC) (W : WQ) (ρ : Pl) (H : Hp) (r : R Fl) (D : Ends) : Prop :=
  match r with
  | .ok (.nx l) h => ∀ ρ' H' σ', Ext ρ H ρ' H' → Rep K ρ' h H' → RL K ρ' H' l σ' → D.nx σ' H'
  | .ok (.bk l) h => ∀ ρ' H' σ', Ext ρ H ρ' H' → Rep K ρ' h H' → RL K ρ' H' l σ' → D.bk σ' H'
  | .ok (.ct l) h => ∀ ρ' H' σ', Ext ρ H ρ' H' → Rep K ρ' h H' → RL K ρ' H' l σ' → D.ct σ' H'
  | .ok (.rt x) h => ∀ ρ' H' v, Ext ρ H ρ' H' → Rep K ρ' h H' → RV K ρ' H' x v → D.rt v H'
  | .ok (.ex e l) h => ∀ ρ' H' cls d σ', Ext ρ H ρ' H' → Rep K ρ' h H' → RL K ρ' H' l σ' → RX K ρ' H' e cls d → W cls d σ' H'
  | .exc _ _ => False
  | .no => False
noncomputable def tS (K : KC) (W : WQ) (m : MS) : TS := fun D σ H => ∃ ρ h l, Rep K ρ h H ∧ RL K ρ H l σ ∧ OutS K W ρ H (m l h) D
noncomputable abbrev XS (X : Cx) (W : WQ) (st : Stmt) (m : MS) : Prop := PS X st (tS (kc X W) W m)
noncomputable abbrev XSs (X : Cx) (W : WQ) (st : List Stmt) (m : MS) : Prop := PSs X st (tS (kc X W) W m)
theorem ps_weak {X st t t'} (h : PS X st t) (w : ∀ D σ H, t' D σ H → t D σ H) : PS X st t' := ⟨fun pins s σ H D I q => h.run pins s σ H D I (w _ _ _ q)⟩
theorem pss_weak {X st t t'} (h : PSs X st t) (w : ∀ D σ H, t' D σ H → t D σ H) : PSs X st t' := ⟨fun pins s σ H D I q => h.run pins s σ H D I (w _ _ _ q)⟩
noncomputable def R.noX {α : Type} (r : R α) : R α := match r with
  | .ok a h => .ok a h
  | _ => .no
/-- an expression within a statement -/
noncomputable def R.bs {α : Type} (r : R α) (l : Lv) (k : α → Store → R Fl) : R Fl := match r with
  | .ok a h => k a h
  | .exc e h => .ok (.ex e l) h
  | .no => .no
/-- on from a statement's end -/
noncomputable def Fl.on (f : Fl) (h : Store) (k : Lv → Store → R Fl) : R Fl := match f with
  | .nx l => k l h
  | f => .ok f h
section
variable {K : KC} {ρ ρ' ρ1 : Pl} {H H' H1 : Hp} {h : Store} {X : Cx} {W : WQ} {D : Ends}
theorem OutS.ext {r : R Fl} (a : Ext ρ H ρ1 H1) (o : OutS K W ρ H r D) : OutS K W ρ1 H1 r D := by
  cases r with
  | ok x h =>
    cases x with
    | rt x => exact fun ρ' H' v b p q => o ρ' H' v (a.trans b) p q
    | ex e l => exact fun ρ' H' c d s b p q => o ρ' H' c d s (a.trans b) p q
    | _ => exact fun ρ' H' v b p q => o ρ' H' v (a.trans b) p q
  | exc e h => exact o
  | no => exact o
/-- an expression first -/
theorem OutS.bs {α β : Type} {rel : Pl → Hp → α → β → Prop} {r : R α} {k : α → Store → R Fl} {l : Lv} {σ : L2.St} (rl : RL K ρ H l σ) (o : OutS K W ρ H (r.bs l k) D) :
    Out K ρ H rel (fun c d H' => W c d σ H') r (fun v H1 => ∃ x h1 ρ1, Ext ρ H ρ1 H1 ∧ Rep K ρ1 h1 H1 ∧ rel ρ1 H1 x v ∧ OutS K W ρ1 H1 (k x h1) D) := by
  cases r with
  | ok x h => exact fun ρ' H' v a p q => ⟨x, h, ρ', a, p, q, OutS.ext a o⟩
  | exc e h => exact fun ρ' H' c d a p q => o ρ' H' c d σ a p (rl.ext a) q
  | no => exact o
/-- a statement first -/
theorem OutS.seq {r : R Fl} {k : Lv → Store → R Fl} {u : TS} (hu : ∀ D σ H, tS K W k D σ H → u D σ H) (o : OutS K W ρ H (r.bind fun f h => f.on h k) D) : OutS K W ρ H r { D with nx := u D } := by
  cases r with
  | ok x h =>
    cases x with
    | nx l => exact fun ρ' H' σ' a p q => hu D σ' H' ⟨ρ', h, l, p, q, OutS.ext a o⟩
    | _ => exact o
  | exc e h => exact o
  | no => exact o
noncomputable def mDone : MS := fun l h => .ok (.nx l) h
noncomputable def mSeq (a b : MS) : MS := fun l h => (a l h).bind fun f h1 => f.on h1 b
variable {st : Stmt} {rest : List Stmt} {ma mb : MS} {e : Expr} {m : M PV} {pos : Pos}
theorem xss_nil : XSs X W [] mDone := pss_weak pss_nil fun D σ H ⟨ρ, h, l, p, rl, o⟩ => o ρ H σ (Ext.refl _ _) p rl
theorem xss_cons (h1 : XS X W st ma) (h2 : XSs X W rest mb) : XSs X W (st :: rest) (mSeq ma mb) :=
  pss_weak (pss_cons h1 h2) fun D σ H ⟨ρ, h, l, p, rl, o⟩ => ⟨ρ, h, l, p, rl, OutS.seq (fun _ _ _ q => q) o⟩
theorem xss_one (h1 : XS X W st ma) : XSs X W [st] ma := pss_one h1
noncomputable def mRet (m : M PV) : MS := fun l h => (m l h).bs l fun x h1 => .ok (.rt x) h1
theorem xs_ret (he : XE X W e m) : XS X W (.Return (some e) pos) (mRet m) :=
  ps_weak (ps_ret he) fun D σ H ⟨ρ, h, l, p, rl, o⟩ => ⟨ρ, h, l, p, rl, Out.mono (OutS.bs rl o) fun v H1 ⟨x, h1, ρ1, e1, p1, r1, o1⟩ => o1 ρ1 H1 v (Ext.refl _ _) p1 r1⟩
noncomputable def mRetN : MS := fun _ h => .ok (.rt .non) h
noncomputable def mDrop (m : M PV) : MS := fun l h => (m l h).bs l fun _ h1 => .ok (.nx l) h1
theorem xs_expr (he : XE X W e m) (hs : swapsWith e none pos.line X.env = pure false := by rfl) : XS X W (.Expr e pos) (mDrop m) :=
  ps_weak (ps_expr he hs) fun D σ H ⟨ρ, h, l, p, rl, o⟩ => ⟨ρ, h, l, p, rl, Out.mono (OutS.bs rl o) fun v H1 ⟨x, h1, ρ1, e1, p1, r1, o1⟩ => o1 ρ1 H1 σ (Ext.refl _ _) p1 (rl.ext e1)⟩
noncomputable def mBreak : MS := fun l h => .ok (.bk l) h
noncomputable def mCont : MS := fun l h => .ok (.ct l) h
noncomputable def mIf (c : M Bool) (a b : MS) : MS := fun l h => (c l h).bs l fun k h1 => if k = true then a l h1 else b l h1
theorem xs_if {c : Expr} {mc : M Bool} {sa sb : List Stmt} (hc : XT X W c mc) (ha : XSs X W sa ma) (hb : XSs X W sb mb) : XS X W (.If c sa sb pos) (mIf mc ma mb) :=
  ps_weak (ps_if hc ha hb) fun D σ H ⟨ρ, h, l, p, rl, o⟩ => ⟨ρ, h, l, p, rl, Out.mono (OutS.bs rl o) fun v H1 ⟨x, h1, ρ1, e1, p1, r1, o1⟩ => by
    cases r1
    cases v with
    | true => exact ⟨ρ1, h1, l, p1, rl.ext e1, o1⟩
    | false => exact ⟨ρ1, h1, l, p1, rl.ext e1, o1⟩⟩

/-! ### targets -/
noncomputable abbrev MG := PV → Lv → Store → R Lv
noncomputable def tG (K : KC) (W : WQ) (g : MG) : TG := fun v σ H Q => ∃ ρ h l x, Rep K ρ h H ∧ RL K ρ H l σ ∧ RV K ρ H x v ∧ Out K ρ H (RL K) (fun c d H' => ∀ σ', W c d σ' H') (g x l h) Q
noncomputable abbrev XG (X : Cx) (W : WQ) (tg : Expr) (g : MG) : Prop := PG X tg (tG (kc X W) W g)
theorem pg_weak {X tg} {t t' : TG} (h : PG X tg t) (w : ∀ v σ H Q, t' v σ H Q → t v σ H Q) : PG X tg t' := ⟨fun pins s σ H v u Q I r q => h.run pins s σ H v u Q I r (w _ _ _ _ q)⟩
noncomputable def gVar (i : Nat) : MG := fun x l h => .ok (l.set i (some x)) h
theorem xg_name {i : Nat} {x : Str} (hN : X.N.Nodup) (hc : curNe W.cur i = true := by rfl) (hi : X.N[i]? = some x := by rfl) (hx : Loc X.env.scope x := by first | exact Or.inl rfl | exact Or.inr rfl) (hf : X.fn x = true ∨ X.env.scope.names.lookup x = some .local := by first | exact .inl rfl | exact .inr rfl | assumption) : XG X W (.Name x pos) (gVar i) :=
  pg_weak (pg_name hN hi hx hf) fun v σ H Q ⟨ρ, h, l, x, p, rl, r, o⟩ => o.ok p (rl.set hc r)
/-- name = e -/
noncomputable def mSet (i : Nat) (m : M PV) : MS := fun l h => (m l h).bs l fun x h1 => .ok (.nx (l.set i (some x))) h1
theorem tS_set {i : Nat} {m : M PV} (hc : curNe K.cur i = true) : ∀ D σ H, tS K W (mSet i m) D σ H → tAsg (tM K W m) (gName i) D σ H := fun D σ H ⟨ρ, h, l, p, rl, o⟩ =>
  ⟨ρ, h, l, p, rl, Out.mono (OutS.bs rl o) fun v H1 ⟨x, h1, ρ1, e1, p1, r1, o1⟩ => o1 ρ1 H1 _ (Ext.refl _ _) p1 ((rl.ext e1).set hc r1)⟩
theorem xs_set {i : Nat} {x : Str} {pos' : Pos} (hN : X.N.Nodup) (he : XE X W e m) (hc : curNe W.cur i = true := by rfl) (hi : X.N[i]? = some x := by rfl) (hx : Loc X.env.scope x := by first | exact Or.inl rfl | exact Or.inr rfl) (hs : swapsWith e (some (.Name x pos')) pos.line X.env = pure false := by rfl)
    (hf : X.fn x = true ∨ X.env.scope.names.lookup x = some .local := by first | exact .inl rfl | exact .inr rfl | assumption) : XS X W (.Assign [.Name x pos'] e pos) (mSet i m) := ps_weak (ps_set hN hi hx he hs hf) (tS_set hc)
/-- o[i] = e -/
noncomputable def SetX (X : Cx) (W : WQ) (f : PV → PV → PV → Store → R Unit) (t : TSet) : Prop :=
  ∀ (ρ : Pl) (h : Store) (H : Hp) (x y z : PV) (v w u : V) (Q : Hp → Prop), Rep (kc X W) ρ h H → RV (kc X W) ρ H x v → RV (kc X W) ρ H y w → RV (kc X W) ρ H z u →
    Out (kc X W) ρ H (fun _ _ (_ : Unit) (_ : Unit) => True) (fun c d H' => ∀ σ', W c d σ' H') (f x y z h) (fun _ => Q) → t v w u H Q
noncomputable def gSubX (f : PV → PV → PV → Store → R Unit) (o i : M PV) : MG := fun z l h => (o l h).bind fun x h1 => (i l h1).bind fun y h2 => (f x y z h2).bind fun _ h3 => .ok l h3
theorem all_w {α β : Type} {rel : Pl → Hp → α → β → Prop} {r : R α} {Q : β → Hp → Prop} {σ : L2.St} (o : Out K ρ H rel (fun c d H' => ∀ σ', W c d σ' H') r Q) : Out K ρ H rel (fun c d H' => W c d σ H') r Q := by
  cases r with
  | ok x h => exact o
  | exc e h => exact fun ρ' H' c d a p q => o ρ' H' c d a p q σ
  | no => exact o
theorem xg_sub {a b : Expr} {mx my : M PV} {f : PV → PV → PV → Store → R Unit} {t : TSet} (ha : XE X W a mx) (hb : XE X W b my) (hs : PSet X t) (hx : SetX X W f t)
    (hr : ∀ v, assign (.Subscript a b pos) X.env v = (do
      let ov ← holding [v] (eval a X.env)
      let iv ← holding [v, ov] (eval b X.env)
      standAt pos
      holding [v, ov, iv] (setItem ov iv v)
      release [v, ov, iv] []) := by intro _; rfl) : XG X W (.Subscript a b pos) (gSubX f mx my) :=
  pg_weak (pg_sub ha hb hs hr) fun u σ H Q ⟨ρ, h, l, z, p, rl, r, o⟩ => ⟨ρ, h, l, p, rl, Out.mono (all_w (Out.bind o)) fun v H1 ⟨x, h1, ρ1, e1, p1, r1, o1⟩ =>
    ⟨ρ1, h1, l, p1, rl.ext e1, Out.mono (all_w (Out.bind o1)) fun w H2 ⟨y, h2, ρ2, e2, p2, r2, o2⟩ =>
      hx ρ2 h2 H2 x y z v w u _ p2 (r1.ext e2) r2 ((r.ext e1).ext e2) (Out.mono (Out.bind o2) fun _ H3 ⟨_, h3, ρ3, e3, p3, _, o3⟩ => o3.ok p3 (((rl.ext e1).ext e2).ext e3))⟩⟩
noncomputable def mAsg (m : M PV) (g : MG) : MS := fun l h => (m l h).bs l fun x h1 => (g x l h1).noX.bind fun l2 h2 => .ok (.nx l2) h2
theorem tS_asg {g : MG} : ∀ D σ H, tS K W (mAsg m g) D σ H → tAsg (tM K W m) (tG K W g) D σ H := fun D σ H ⟨ρ, h, l, p, rl, o⟩ =>
  ⟨ρ, h, l, p, rl, Out.mono (OutS.bs rl o) fun v H1 ⟨x, h1, ρ1, e1, p1, r1, o1⟩ => ⟨ρ1, h1, l, x, p1, rl.ext e1, r1, by
    have o1 : OutS K W ρ1 H1 ((g x l h1).noX.bind fun l2 h2 => .ok (.nx l2) h2) D := o1
    cases q : g x l h1 with
    | ok l2 h2 =>
      rw [q] at o1
      exact fun ρ' H' σ' a p r => o1 ρ' H' σ' a p r
    | exc e h =>
      rw [q] at o1
      exact o1.elim
    | no => rw [q] at o1; exact o1.elim⟩⟩
theorem xs_asg {tg : Expr} {g : MG} (he : XE X W e m) (hg : XG X W tg g) (hs : swapsWithSole [tg] e pos.line X.env = pure false := by rfl) (hw : swappedStores [tg] e X.env = pure none := by rfl)
    (h1 : (assignEach [tg] X.env).map (·.2) = [assign tg X.env] := by rfl) : XS X W (.Assign [tg] e pos) (mAsg m g) := ps_weak (ps_asg he hg hs hw h1) tS_asg
noncomputable def fSetL (x y z : PV) (h : Store) : R Unit := match cellL h x, y with
  | some (n, xs), .int k => match ixN xs.length k with
    | some j => .ok () (h.set n (.lst (xs.set j z)))
    | none => .no
  | _, _ => .no
theorem sx_list : SetX X W fSetL rSetL := by
  intro ρ h H x y z v w u Q p rx ry rz o
  unfold fSetL at o
  split at o
  next n xs k q =>
    split at o
    next j q2 =>
      obtain ⟨a, ws, e1, e2, e3, r1⟩ := cellL_at p rx q
      rw [show w = _ from ry]
      refine ⟨a, ws, k, j, e2, rfl, e3, by rw [← r1.len]; exact q2, ?_⟩
      obtain ⟨x', p'⟩ := put_lst p e1 (r1.set (i := j) rz)
      exact o ρ _ () x' p' trivial
    next => exact o.elim
  next => exact o.elim
end
end Wg

namespace Wg
open PySem PySem.Spec PyProof.Rows L2 SlX
section
variable {K : KC} {ρ ρ' ρ1 ρ0 : Pl} {H H' H1 H0 : Hp} {h : Store} {X : Cx} {W : WQ} {D : Ends}

/-! ### what is walked -/
/-- from (ρ0, H0) on, wherever values stay values, the walk J yields ys -/
structure Yields (K : KC) (ρ0 : Pl) (H0 : Hp) (J : It) (ys : List PV) : Prop where
  go : ∀ (i : Nat) ρ h H, Kp ρ0 H0 ρ H → Rep K ρ h H → i < ys.length → J.go i H
  stop : ∀ (i : Nat) ρ h H, Kp ρ0 H0 ρ H → Rep K ρ h H → ys.length ≤ i → J.stop i H
  yld : ∀ (i : Nat) ρ h H y x H', Kp ρ0 H0 ρ H → Rep K ρ h H → ys[i]? = some y → J.yld i H x H' → Ext ρ H ρ H' ∧ Rep K ρ h H' ∧ RV K ρ H' y x
noncomputable def tI (K : KC) (W : WQ) (m : M (List PV)) : TI := fun σ H R => ∃ ρ h l, Rep K ρ h H ∧ RL K ρ H l σ ∧
  Out K ρ H (fun ρ' H' ys J => Yields K ρ' H' J ys) (fun c d H' => W c d σ H') (m l h) (fun J H' => R J H')
noncomputable abbrev XI (X : Cx) (W : WQ) (tg iter : Expr) (m : M (List PV)) : Prop := PI X tg iter (tI (kc X W) W m)
theorem pi_weak {tg iter : Expr} {w w' : TI} (h : PI X tg iter w) (k : ∀ σ H R, w' σ H R → w σ H R) : PI X tg iter w' := ⟨fun pins s σ H R I q => h.run pins s σ H R I (k _ _ _ q)⟩

/-- a list that nobody changes -/
noncomputable def mItL (m : M PV) : M (List PV) := fun l h => (m l h).bind fun x h1 => match x with
  | .lst xs => .ok xs h1
  | .scr xs => .ok xs h1
  | _ => .no
theorem ScrAt.of_lst {p : Addr} {vs : List V} (t : LstAt ρ H p vs) : ScrAt K ρ H p vs := .inl ⟨t.1, .inl t.2⟩
theorem yields_list {p : Addr} {vs : List V} {ys : List PV} (t : ScrAt K ρ H p vs) (r : RVs K ρ H ys vs) : Yields K ρ H (Itl K p) ys where
  go := fun i ρ' h' H' a _ hi => by
    obtain ⟨v, e, _⟩ := r.get (i := i) (x := ys[i]) (by simp [hi])
    exact ⟨vs, v, (t.kp a).sq, e⟩
  stop := fun i ρ' h' H' a _ hi => ⟨vs, (t.kp a).sq, by rw [← r.len]; exact hi⟩
  yld := fun i ρ' h' H' y x H2 a p' e q => by
    obtain ⟨e1, e2⟩ := q
    subst e1
    obtain ⟨v, e3, rv⟩ := r.get e
    have := e2 vs (t.kp a).sq
    rw [e3] at this; cases this
    exact ⟨Ext.refl _ _, p', RV.kp a _ _ rv⟩
theorem xi_list {tg e : Expr} {m : M PV} (he : XE X W e m) : XI X W tg e (mItL m) := pi_weak (pi_list he) fun σ H R ⟨ρ, h, l, p, rl, o⟩ =>
  ⟨ρ, h, l, p, rl, Out.mono (Out.bind o) fun v H1 ⟨x, h1, ρ1, e1, p1, r1, o1⟩ => by
    cases x with
    | lst xs =>
      obtain ⟨a, vs, e2, t, rs⟩ := r1
      exact ⟨a, e2, ⟨vs, SqL.of t.2⟩, o1.ok p1 (yields_list (ScrAt.of_lst t) rs)⟩
    | scr xs =>
      obtain ⟨a, vs, e2, t, rs⟩ := r1
      exact ⟨a, e2, ⟨vs, t.sq⟩, o1.ok p1 (yields_list t rs)⟩
    | _ => exact o1.elim⟩
noncomputable def mItT (m : M PV) : M (List PV) := fun l h => (m l h).bind fun x h1 => match x with
  | .tup xs => .ok xs h1
  | _ => .no
theorem xi_tup {tg e : Expr} {m : M PV} (he : XE X W e m) : XI X W tg e (mItT m) := pi_weak (pi_tup he) fun σ H R ⟨ρ, h, l, p, rl, o⟩ =>
  ⟨ρ, h, l, p, rl, Out.mono (Out.bind o) fun v H1 ⟨x, h1, ρ1, e1, p1, r1, o1⟩ => by
    cases x with
    | tup xs =>
      obtain ⟨a, vs, e2, t, rs⟩ := r1
      refine ⟨a, e2, ⟨vs, t.sq⟩, o1.ok p1 ⟨fun i ρ' h' H' k _ hi => ?_, fun i ρ' h' H' k _ hi => ⟨vs, (t.kp k).sq, by rw [← rs.len]; exact hi⟩, fun i ρ' h' H' y x H2 k p' e q => ?_⟩⟩
      · obtain ⟨v, e, _⟩ := rs.get (i := i) (x := xs[i]) (by simp [hi])
        exact ⟨vs, v, (t.kp k).sq, e⟩
      · obtain ⟨e1, e2⟩ := q
        subst e1
        obtain ⟨v, e3, rv⟩ := rs.get e
        have := e2 vs (t.kp k).sq
        rw [e3] at this; cases this
        exact ⟨Ext.refl _ _, p', RV.kp k _ _ rv⟩
    | _ => exact o1.elim⟩
noncomputable def mItS (m : M PV) : M (List PV) := fun l h => (m l h).bind fun x h1 => match x with
  | .str z => .ok (z.map fun c => .str [c]) h1
  | _ => .no
theorem xi_str {tg e : Expr} {m : M PV} (he : XE X W e m) : XI X W tg e (mItS m) := pi_weak (pi_str he) fun σ H R ⟨ρ, h, l, p, rl, o⟩ =>
  ⟨ρ, h, l, p, rl, Out.mono (Out.bind o) fun v H1 ⟨x, h1, ρ1, e1, p1, r1, o1⟩ => by
    cases x with
    | str z =>
      refine ⟨_, r1, o1.ok p1 ⟨fun i ρ' h' H' k _ hi => by show i < z.toArray.size; simpa using hi, fun i ρ' h' H' k _ hi => by show z.toArray.size ≤ i; simpa using hi, fun i ρ' h' H' y x H2 k p' e q => ?_⟩⟩
      obtain ⟨e1, c, e2, e3⟩ := q
      subst e1
      rw [List.getElem?_map] at e
      simp only [List.getElem?_toArray] at e2
      rw [e2] at e
      cases e
      exact ⟨Ext.refl _ _, p', e3⟩
    | _ => exact o1.elim⟩
/-- range(a), range(a, b) -/
noncomputable def runI (lo : Int) (n : Nat) : List PV := (List.range n).map fun (k : Nat) => .int (lo + (k : Int))
theorem yields_range {lo : Int} {n : Nat} : Yields K ρ H (Itr lo n) (runI lo n) where
  go := fun i _ _ _ _ _ hi => by show i < n; simpa [runI] using hi
  stop := fun i _ _ _ _ _ hi => by show n ≤ i; simpa [runI] using hi
  yld := fun i ρ' h' H' y x H2 a p' e q => by
    obtain ⟨e1, e2⟩ := q
    subst e1
    unfold runI at e
    rw [List.getElem?_map] at e
    cases z : (List.range n)[i]? with
    | none => rw [z] at e; cases e
    | some k =>
      rw [z] at e
      cases e
      obtain ⟨_, z2⟩ := List.getElem?_eq_some_iff.mp z
      rw [List.getElem_range] at z2
      subst z2
      exact ⟨Ext.refl _ _, p', e2⟩
noncomputable def fRange1 (xs : List PV) (h : Store) : R (List PV) := match xs with
  | [.int j] => if -(2 ^ 62) ≤ j ∧ j < 2 ^ 62 then .ok (runI 0 j.toNat) h else .no
  | _ => .no
noncomputable def fRange2 (xs : List PV) (h : Store) : R (List PV) := match xs with
  | [.int i, .int j] => if -(2 ^ 62) ≤ i ∧ i < 2 ^ 62 ∧ -(2 ^ 62) ≤ j ∧ j < 2 ^ 62 then .ok (runI i (j - i).toNat) h else .no
  | _ => .no
noncomputable def mItC (f : List PV → Store → R (List PV)) (m : M (List PV)) : M (List PV) := fun l h => (m l h).bind f
theorem xi_range1 {tg a : Expr} {ms : M (List PV)} {p0 pos : Pos} (hm : X.mg "range" = none) (ha : XA X W [a] ms) (hg : Gl X "range" := by rfl) (hs : starEach [a] X.env = [(false, eval a X.env)] := by rfl) : XI X W tg (.Call (.Name "range" p0) [a] [] pos) (mItC fRange1 ms) :=
  pi_weak (pi_range1 hg hm ha hs) fun σ H R ⟨ρ, h, l, p, rl, o⟩ => ⟨ρ, h, l, p, rl, Out.mono (Out.bind o) fun v H1 ⟨x, h1, ρ1, e1, p1, r1, o1⟩ => by
    unfold fRange1 at o1
    split at o1
    next j =>
      obtain ⟨c, o1⟩ := out_if o1
      obtain ⟨w, e, r⟩ := rvs1 r1
      exact ⟨j, by rw [e, show w = _ from r], c.1, c.2, o1.ok p1 yields_range⟩
    next => exact o1.elim⟩
/-! ### for -/
noncomputable def forL (g : MG) (body : MS) : List PV → MS
  | [], l, h => .ok (.nx l) h
  | y :: ys, l, h => (g y l h).noX.bind fun l1 h1 => (body l1 h1).bind fun f h2 => match f with
    | .nx l2 => forL g body ys l2 h2
    | .ct l2 => forL g body ys l2 h2
    | .bk l2 => .ok (.nx l2) h2
    | .rt x => .ok (.rt x) h2
    | .ex e l2 => .ok (.ex e l2) h2
noncomputable def mFor (src : M (List PV)) (g : MG) (body : MS) : MS := fun l h => (src l h).bs l fun ys h1 => forL g body ys l h1
theorem xs_for {tg iter : Expr} {body : List Stmt} {src : M (List PV)} {g : MG} {mb : MS} {pos : Pos} (hp : PassesOwn (model X.prog X.w) X.A X.env X.xe) (hc : X.calm = true) (hi : XI X W tg iter src) (hg : XG X W tg g) (hb : XSs X W body mb)
    (hs : ∀ x, foldedSetIterable iter X.env x = pure x := by intro _; rfl) : XS X W (.For tg iter body [] pos) (mFor src g mb) :=
  ps_weak (ps_for hp hc hi hg hb hs) fun D σ H ⟨ρ, h, l, p, rl, o⟩ => ⟨ρ, h, l, p, rl, Out.mono (OutS.bs rl o) fun J H1 ⟨ys, h1, ρ1, e1, p1, y1, o1⟩ => by
    refine ⟨fun i m σ H => m = ys.length - i ∧ i ≤ ys.length ∧ ∃ ρ h l, Ext ρ1 H1 ρ H ∧ Rep (kc X W) ρ h H ∧ RL (kc X W) ρ H l σ ∧ OutS (kc X W) W ρ H (forL g mb (ys.drop i) l h) D,
      ⟨_, rfl, Nat.zero_le _, ρ1, h1, l, Ext.refl _ _, p1, rl.ext e1, o1⟩, ?_⟩
    rintro i m σ2 H2 ⟨rfl, hi, ρ2, h2, l2, e2, p2, rl2, o2⟩
    by_cases hlt : i < ys.length
    · refine .inr ⟨y1.go i ρ2 h2 H2 e2.kp p2 hlt, fun σ H => ∃ ρ h l, Ext ρ1 H1 ρ H ∧ Rep (kc X W) ρ h H ∧ RL (kc X W) ρ H l σ ∧ OutS (kc X W) W ρ H (forL g mb (ys.drop (i + 1)) l h) D,
        fun σ' H' z => ⟨ys.length - (i + 1), by omega, rfl, hlt, z⟩, fun x H3 hy => ?_⟩
      obtain ⟨e3, p3, r3⟩ := y1.yld i ρ2 h2 H2 ys[i] x H3 e2.kp p2 (by simp [hlt]) hy
      rw [List.drop_eq_getElem_cons hlt] at o2
      refine ⟨ρ2, h2, l2, ys[i], p3, rl2.ext e3, r3, ?_⟩
      have o3 : OutS (kc X W) W ρ2 H3 ((g ys[i] l2 h2).noX.bind fun l1 h1 => (mb l1 h1).bind fun f h2 => match f with
        | .nx l2 => forL g mb (ys.drop (i + 1)) l2 h2
        | .ct l2 => forL g mb (ys.drop (i + 1)) l2 h2
        | .bk l2 => .ok (.nx l2) h2
        | .rt x => .ok (.rt x) h2
        | .ex e l2 => .ok (.ex e l2) h2) D := o2.ext e3
      cases q : g ys[i] l2 h2 with
      | no => rw [q] at o3; exact o3.elim
      | exc e h => rw [q] at o3; exact o3.elim
      | ok l4 h4 =>
        rw [q] at o3
        intro ρ4 H4 σ4 e4 p4 rl4
        refine ⟨ρ4, h4, l4, p4, rl4, ?_⟩
        have o4 : OutS (kc X W) W ρ4 H4 ((mb l4 h4).bind fun f h2 => match f with
          | .nx l2 => forL g mb (ys.drop (i + 1)) l2 h2
          | .ct l2 => forL g mb (ys.drop (i + 1)) l2 h2
          | .bk l2 => .ok (.nx l2) h2
          | .rt x => .ok (.rt x) h2
          | .ex e l2 => .ok (.ex e l2) h2) D := OutS.ext e4 o3
        have ee : Ext ρ1 H1 ρ4 H4 := (e2.trans e3).trans e4
        cases q5 : mb l4 h4 with
        | no => rw [q5] at o4; exact o4
        | exc e h => rw [q5] at o4; exact o4
        | ok f h5 =>
          rw [q5] at o4
          cases f with
          | nx l5 => exact fun ρ5 H5 σ5 e5 p5 rl5 => ⟨ρ5, h5, l5, ee.trans e5, p5, rl5, OutS.ext e5 o4⟩
          | ct l5 => exact fun ρ5 H5 σ5 e5 p5 rl5 => ⟨ρ5, h5, l5, ee.trans e5, p5, rl5, OutS.ext e5 o4⟩
          | bk l5 => exact o4
          | rt x => exact o4
          | ex e l5 => exact o4
    · have e : i = ys.length := by omega
      subst e
      rw [List.drop_length] at o2
      exact .inl ⟨y1.stop _ ρ2 h2 H2 e2.kp p2 (Nat.le_refl _), o2 ρ2 H2 σ2 (Ext.refl _ _) p2 rl2⟩⟩

/-! ### while -/
noncomputable def whileL (c : M Bool) (body : MS) : Nat → MS
  | 0, _, _ => .no
  | n + 1, l, h => (c l h).bs l fun b h1 => if b = true then (body l h1).bind fun f h2 => match f with
      | .nx l2 => whileL c body n l2 h2
      | .ct l2 => whileL c body n l2 h2
      | .bk l2 => .ok (.nx l2) h2
      | .rt x => .ok (.rt x) h2
      | .ex e l2 => .ok (.ex e l2) h2
    else .ok (.nx l) h1
noncomputable def mWhile (n : Nat) (c : M Bool) (body : MS) : MS := whileL c body n
theorem xs_while {c : Expr} {body : List Stmt} {mc : M Bool} {mb : MS} {pos : Pos} (n : Nat) (hp : PassesOwn (model X.prog X.w) X.A X.env X.xe) (hc : XT X W c mc) (hb : XSs X W body mb) : XS X W (.While c body [] pos) (mWhile n mc mb) :=
  ps_weak (ps_while hp hc hb) fun D σ H ⟨ρ, h, l, p, rl, o⟩ => by
    refine ⟨fun m σ H => ∃ ρ h l, Rep (kc X W) ρ h H ∧ RL (kc X W) ρ H l σ ∧ OutS (kc X W) W ρ H (whileL mc mb m l h) D, ⟨n, ρ, h, l, p, rl, o⟩, ?_⟩
    rintro m σ H ⟨ρ, h, l, p, rl, o⟩
    cases m with
    | zero => exact o.elim
    | succ m =>
      refine ⟨ρ, h, l, p, rl, Out.mono (OutS.bs rl o) fun b H1 ⟨b', h1, ρ1, e1, p1, r1, o1⟩ => ?_⟩
      cases r1
      cases b with
      | false => exact o1 ρ1 H1 σ (Ext.refl _ _) p1 (rl.ext e1)
      | true =>
        refine ⟨fun σ H => ∃ ρ h l, Rep (kc X W) ρ h H ∧ RL (kc X W) ρ H l σ ∧ OutS (kc X W) W ρ H (whileL mc mb m l h) D, fun σ' H' z => ⟨m, Nat.lt_succ_self _, z⟩, ρ1, h1, l, p1, rl.ext e1, ?_⟩
        have o4 : OutS (kc X W) W ρ1 H1 ((mb l h1).bind fun f h2 => match f with
          | .nx l2 => whileL mc mb m l2 h2
          | .ct l2 => whileL mc mb m l2 h2
          | .bk l2 => .ok (.nx l2) h2
          | .rt x => .ok (.rt x) h2
          | .ex e l2 => .ok (.ex e l2) h2) D := o1
        cases q5 : mb l h1 with
        | no => rw [q5] at o4; exact o4
        | exc e h => rw [q5] at o4; exact o4
        | ok f h5 =>
          rw [q5] at o4
          cases f with
          | nx l5 => exact fun ρ5 H5 σ5 e5 p5 rl5 => ⟨ρ5, h5, l5, p5, rl5, OutS.ext e5 o4⟩
          | ct l5 => exact fun ρ5 H5 σ5 e5 p5 rl5 => ⟨ρ5, h5, l5, p5, rl5, OutS.ext e5 o4⟩
          | bk l5 => exact o4
          | rt x => exact o4
          | ex e l5 => exact o4
end
end Wg

namespace Wg
open PySem PySem.Spec PyProof.Rows L2 SlX
section
variable {K : KC} {ρ ρ' ρ1 ρ0 : Pl} {H H' H1 H0 : Hp} {h : Store} {X : Cx} {W : WQ}

/-! ### what is being made at A, hidden -/
theorem Kp.hid_upd {a : Addr} (m : a ∈ ρ.hid) (o : HO) : Kp ρ H ρ (upd H a o) := ⟨fun _ _ h => h, fun p u hp e => ⟨hp, .inl (by rw [upd_ne (fun z => hp (.inr (by rw [z]; exact m)))]; exact e)⟩⟩
theorem Rep.hid_upd (p : Rep K ρ h H) {a : Addr} (m : a ∈ ρ.hid) (nc : a ∉ ρ.c) (o : HO) (nt : NT o := by exact True.intro) : Rep K ρ h (upd H a o) :=
  p.same (Kp.hid_upd m o) rfl (fun b hb => upd_ne fun z => nc (by rw [← z]; exact hb)) (fun q hq => by
    by_cases z : q = a
    · exact ⟨o, by rw [z, upd_same], nt⟩
    · rw [upd_ne z]; exact p.hid q hq) p.dj
/-- one more hidden -/
noncomputable abbrev Pl.hide (ρ : Pl) (a : Addr) : Pl := ⟨ρ.c, a :: ρ.hid⟩
theorem Kp.hide {a : Addr} (e : H a = none) (o : HO) : Kp ρ H (ρ.hide a) (upd H a o) := ⟨fun _ _ h => h, fun p u hp q => by
  have ne : p ≠ a := ne_of_none q e
  refine ⟨fun z => z.elim (fun z => hp (.inl z)) fun z => ?_, .inl (by rw [upd_ne ne]; exact q)⟩
  rcases List.mem_cons.mp z with z | z
  · exact ne z
  · exact hp (.inr z)⟩
theorem Rep.hide (p : Rep K ρ h H) {a : Addr} (e : H a = none) (o : HO) (nt : NT o := by exact True.intro) : Rep K (ρ.hide a) h (upd H a o) :=
  p.same (Kp.hide e o) rfl (fun b hb => upd_ne fun z => p.fresh e (.inl (by rw [← z]; exact hb))) (fun q hq => by
    rcases List.mem_cons.mp hq with z | z
    · exact ⟨o, by rw [z, upd_same], nt⟩
    · obtain ⟨u, w, nu⟩ := p.hid q z
      exact ⟨u, by rw [upd_ne (ne_of_none w e)]; exact w, nu⟩) fun q hq z => (List.mem_cons.mp z).elim (fun z => p.fresh e (.inl (by rw [← z]; exact hq))) (p.dj q hq)
/-- the hidden one comes out -/
theorem Kp.out {c l : List Addr} {a : Addr} : Kp ⟨c, a :: l⟩ H ⟨c, l⟩ H := ⟨fun _ _ h => h, fun p u hp q => ⟨fun z => z.elim (fun z => hp (.inl z)) fun z => hp (.inr (List.mem_cons_of_mem _ z)), .inl q⟩⟩
theorem Rep.out {c l : List Addr} {a : Addr} (p : Rep K ⟨c, a :: l⟩ h H) : Rep K ⟨c, l⟩ h H :=
  p.same Kp.out rfl (fun _ _ => rfl) (fun q hq => p.hid q (List.mem_cons_of_mem _ hq)) fun q hq z => p.dj q hq (List.mem_cons_of_mem _ z)

/-! ### targets within a block: the block's own slots alone change -/
noncomputable def tGw (K : KC) (W : WQ) (vs : List Nat) (g : MG) : TG := fun v σ H Q => ∃ ρ h l x, Rep K ρ h H ∧ RL K ρ H l σ ∧ RV K ρ H x v ∧
  Out K ρ H (fun ρ' H' l' σ' => RL K ρ' H' l' σ' ∧ wipe σ' vs = wipe σ vs) (fun c d H' => ∀ σ', W c d σ' H') (g x l h) Q
noncomputable abbrev XGw (X : Cx) (W : WQ) (vs : List Nat) (tg : Expr) (g : MG) : Prop := PG X tg (tGw (kc X W) W vs g)
theorem wipe_set {σ : L2.St} {i : Nat} {o : Option V} : ∀ {vs : List Nat}, i ∈ vs → wipe (σ.set i o) vs = wipe σ vs
  | [], h => by simp at h
  | v :: vs, h => by
    show (wipe (σ.set i o) vs).set v none = (wipe σ vs).set v none
    by_cases hi : i ∈ vs
    · rw [wipe_set hi]
    · have e : v = i := (List.mem_cons.mp h).elim Eq.symm fun z => absurd z hi
      subst e
      clear h
      induction vs with
      | nil => simp [wipe]
      | cons u us ih =>
        have hu : v ≠ u := fun z => hi (by rw [z]; exact List.mem_cons_self)
        show ((wipe (σ.set v o) us).set u none).set v none = ((wipe σ us).set u none).set v none
        rw [List.set_comm _ _ (Ne.symm hu), ih (fun z => hi (List.mem_cons_of_mem _ z)), List.set_comm _ _ hu]
theorem xgw_name {i : Nat} {x : Str} {pos : Pos} {vs : List Nat} (hN : X.N.Nodup) (hc : curNe W.cur i = true := by rfl) (hv : i ∈ vs := by simp) (hi : X.N[i]? = some x := by rfl) (hx : Loc X.env.scope x := by first | exact Or.inl rfl | exact Or.inr rfl) (hf : X.fn x = true ∨ X.env.scope.names.lookup x = some .local := by first | exact .inl rfl | exact .inr rfl | assumption) : XGw X W vs (.Name x pos) (gVar i) :=
  pg_weak (pg_name hN hi hx hf) fun v σ H Q ⟨ρ, h, l, x, p, rl, r, o⟩ => o.ok p ⟨rl.set hc r, wipe_set hv⟩
/-! tests within a block -/
noncomputable abbrev XTs (X : Cx) (W : WQ) (ifs : List Expr) (m : M Bool) : Prop := PTs X ifs (tT (kc X W) W m)
noncomputable def mYes : M Bool := fun _ h => .ok true h
theorem pts_weak {ifs : List Expr} {t t' : TT} (h : PTs X ifs t) (w : ∀ σ H Q, t' σ H Q → t σ H Q) : PTs X ifs t' := ⟨fun pins s σ H Q I q => h.run pins s σ H Q I (w _ _ _ q)⟩
theorem xts_nil : XTs X W [] mYes := pts_weak pts_nil fun σ H Q ⟨ρ, h, l, p, rl, o⟩ => o.ok p rfl
theorem xts_one {c : Expr} {m : M Bool} (h : XT X W c m) : XTs X W [c] m := pts_one h

/-! ### list comprehensions -/
noncomputable def lcL (g : MG) (t : M Bool) (e : M PV) : List PV → Lv → Store → R (List PV)
  | [], _, h => .ok [] h
  | y :: ys, l, h => (g y l h).noX.bind fun l1 h1 => (t l1 h1).noX.bind fun b h2 =>
    if b = true then (e l1 h2).noX.bind fun z h3 => (lcL g t e ys l h3).bind fun zs h4 => .ok (z :: zs) h4
    else lcL g t e ys l h2
noncomputable def wipeL (l : Lv) : List Nat → Lv
  | [] => l
  | v :: vs => (wipeL l vs).set v none
theorem RL.wipes {l : Lv} {σ : L2.St} (r : RL K ρ H l σ) : ∀ vs : List Nat, (∀ v ∈ vs, curNe K.cur v = true) → RL K ρ H (wipeL l vs) (L2.wipe σ vs)
  | [], _ => r
  | v :: vs, n => (RL.wipes r vs fun u hu => n u (List.mem_cons_of_mem _ hu)).wipe v (n v List.mem_cons_self)
noncomputable def mLc (src : M (List PV)) (own : List Nat) (g : MG) (t : M Bool) (e : M PV) : M PV := fun l h => (src l h).bind fun ys h1 =>
  if ys.length ≤ sizeLine then (lcL g t e ys (wipeL l own) h1).bind fun zs h2 => .ok (.lst zs) h2 else .no
/-- the same into a new cell -/
noncomputable def mLcN (src : M (List PV)) (own : List Nat) (g : MG) (t : M Bool) (e : M PV) : M PV := fun l h => (src l h).bind fun ys h1 =>
  if ys.length ≤ sizeLine then (lcL g t e ys (wipeL l own) h1).bind fun zs h2 => .ok (.ref h2.length) (h2 ++ [.lst zs]) else .no
noncomputable abbrev WF (W : WQ) : WQ := ⟨fun _ _ _ _ => False, W.cur⟩
theorem Out.noX {α β : Type} {rel : Pl → Hp → α → β → Prop} {W W' : Value → Option Addr → Hp → Prop} {r : R α} {Q : β → Hp → Prop} (o : Out K ρ H rel W r.noX Q) : Out K ρ H rel W' r Q := by
  cases r with
  | ok a h => exact o
  | exc e h => exact o.elim
  | no => exact o.elim
/-- the heart: at the turn i, zs made so far, the rest as lcL tells -/
theorem lc_turns {U : WQ} {g : MG} {t : M Bool} {e : M PV} {J : It} {ys : List PV} {own : List Nat} {σ : L2.St} {l : Lv} {D : Addr} {Q : Hp → Prop} (p1 : Rep K ρ1 h H1) (y1 : Yields K ρ1 H1 J ys) (rl : RL K ρ1 H1 l σ) (hcn : ∀ v ∈ own, curNe K.cur v = true) (hD : H1 D = none) (hz : ys.length ≤ sizeLine) {zs' : List PV} {h' : Store}
    (er : lcL g t e ys (wipeL l own) h = .ok zs' h')
    (fin : ∀ ρ H vs, Ext ρ1 H1 ⟨ρ.c, ρ1.hid⟩ H → ρ.hid = D :: ρ1.hid → D ∉ ρ.c → Rep K ρ h' H → H D = some (.lst vs) → RVs K ρ H zs' vs → Q H) :
    ∃ W : Nat → Nat → Hp → Prop, (∃ m, W 0 m (upd H1 D (.lst []))) ∧ ∀ i m H, W i m H →
      (J.stop i H ∧ Q H) ∨ (J.go i H ∧ ∃ Nx : Hp → Prop, (∀ H', Nx H' → ∃ m', m' < m ∧ W (i + 1) m' H') ∧ ∀ x H', J.yld i H x H' → tGw K U own g x (wipe σ own) H' fun σ2 H2 => wipe σ2 own = wipe σ own ∧ tT K U t σ2 H2 fun b H3 =>
        if b = true then tM K U e σ2 H3 fun y H4 => ∃ acc, H4 D = some (.lst acc) ∧ acc.length < sizeLine ∧ Nx (upd H4 D (.lst (acc ++ [y]))) else Nx H3) := by
  refine ⟨fun i m H => m = ys.length - i ∧ i ≤ ys.length ∧ ∃ ρ h vs zs rs, Ext ρ1 H1 ⟨ρ.c, ρ1.hid⟩ H ∧ Kp ρ1 H1 ρ H ∧ ρ.hid = D :: ρ1.hid ∧ D ∉ ρ.c ∧ Rep K ρ h H ∧ H D = some (.lst vs) ∧ RVs K ρ H zs vs ∧ zs.length ≤ i ∧
    lcL g t e (ys.drop i) (wipeL l own) h = .ok rs h' ∧ zs ++ rs = zs', ⟨_, rfl, Nat.zero_le _, ρ1.hide D, h, [], [], zs', ?_⟩, ?_⟩
  · refine ⟨Ext.upd_new hD _, Kp.hide hD _, rfl, fun z => p1.fresh hD (.inl z), p1.hide hD _, upd_same, rfl, Nat.le_refl _, er, rfl⟩
  rintro i m H ⟨rfl, hi, ρ, h2, vs, zs, rs, x1, k1, hh, nD, p2, hv, rz, hlz, er2, hzs⟩
  by_cases hlt : i < ys.length
  · rw [List.drop_eq_getElem_cons hlt] at er2
    refine .inr ⟨y1.go i ρ h2 H k1 p2 hlt, fun H => ∃ ρ h vs zs rs, Ext ρ1 H1 ⟨ρ.c, ρ1.hid⟩ H ∧ Kp ρ1 H1 ρ H ∧ ρ.hid = D :: ρ1.hid ∧ D ∉ ρ.c ∧ Rep K ρ h H ∧ H D = some (.lst vs) ∧ RVs K ρ H zs vs ∧ zs.length ≤ i + 1 ∧
      lcL g t e (ys.drop (i + 1)) (wipeL l own) h = .ok rs h' ∧ zs ++ rs = zs', fun H' z => ⟨ys.length - (i + 1), by omega, rfl, hlt, z⟩, fun x H3 hy => ?_⟩
    obtain ⟨e3, p3, r3⟩ := y1.yld i ρ h2 H ys[i] x H3 k1 p2 (by simp [hlt]) hy
    -- what is kept when the state goes on by an Ext
    have onE : ∀ {ρa ρb : Pl} {Ha Hb : Hp}, Ext ρ1 H1 ⟨ρa.c, ρ1.hid⟩ Ha → Kp ρ1 H1 ρa Ha → ρa.hid = D :: ρ1.hid → D ∉ ρa.c → Ha D = some (.lst vs) → RVs K ρa Ha zs vs → Ext ρa Ha ρb Hb →
        Ext ρ1 H1 ⟨ρb.c, ρ1.hid⟩ Hb ∧ Kp ρ1 H1 ρb Hb ∧ ρb.hid = D :: ρ1.hid ∧ D ∉ ρb.c ∧ Hb D = some (.lst vs) ∧ RVs K ρb Hb zs vs := by
      intro ρa ρb Ha Hb a1 a2 a3 a4 a5 a6 b
      obtain ⟨m1, q1, f1⟩ := b.pre
      refine ⟨a1.trans ⟨⟨m1, q1, fun p hp => ⟨fun z => (f1 p hp).1 (z.elim .inl fun z => .inr (by rw [a3]; exact List.mem_cons_of_mem _ z)), (f1 p hp).2⟩⟩, rfl, fun p o hp st e => b.old p o hp (st.imp (fun z => by rw [a3]; exact List.mem_cons_of_mem _ z) id) e, b.lok⟩, a2.trans b.kp, b.hid.trans a3, fun z => ?_, b.old _ _ a4 (.inl (by rw [a3]; exact List.mem_cons_self)) a5, RVs.ext b _ _ a6⟩
      rw [q1] at z
      rcases List.mem_append.mp z with z | z
      · exact a4 z
      · exact (f1 D z).1 (.inr (by rw [a3]; exact List.mem_cons_self))
    obtain ⟨x3, k3, hh3, nD3, hv3, rz3⟩ := onE x1 k1 hh nD hv rz e3
    refine ⟨ρ, h2, wipeL l own, ys[i], p3, ((rl.kp k3).wipes own hcn), r3, ?_⟩
    have er3 : (g ys[i] (wipeL l own) h2).noX.bind (fun l1 h1 => (t l1 h1).noX.bind fun b h2 =>
      if b = true then (e l1 h2).noX.bind fun z h3 => (lcL g t e (ys.drop (i + 1)) (wipeL l own) h3).bind fun zs h4 => .ok (z :: zs) h4
      else lcL g t e (ys.drop (i + 1)) (wipeL l own) h2) = .ok rs h' := er2
    cases q4 : g ys[i] (wipeL l own) h2 with
    | no => rw [q4] at er3; cases er3
    | exc _ _ => rw [q4] at er3; cases er3
    | ok l4 h4 =>
      rw [q4] at er3
      rintro ρ4 H4 σ4 e4 p4 ⟨rl4, w4⟩
      obtain ⟨x4, k4, hh4, nD4, hv4, rz4⟩ := onE x3 k3 hh3 nD3 hv3 rz3 e4
      have w4' : wipe σ4 own = wipe σ own := by
        rw [w4]
        clear er3 er2 w4
        have : ∀ vs ws : List Nat, (∀ v ∈ vs, v ∈ ws) → wipe (wipe σ ws) vs = wipe σ ws := by
          intro vs ws hs
          induction vs with
          | nil => rfl
          | cons v vs ih =>
            show (wipe (wipe σ ws) vs).set v none = wipe σ ws
            rw [ih fun u hu => hs u (List.mem_cons_of_mem _ hu)]
            have hm := hs v List.mem_cons_self
            clear ih hs
            induction ws with
            | nil => simp at hm
            | cons w ws ih2 =>
              show ((wipe σ ws).set w none).set v none = (wipe σ ws).set w none
              by_cases hz : v = w
              · subst hz; rw [List.set_set]
              · rw [List.set_comm _ _ (Ne.symm hz), ih2 ((List.mem_cons.mp hm).elim (fun z => absurd z hz) id)]
        exact this own own fun _ h => h
      refine ⟨w4', ρ4, h4, l4, p4, rl4, ?_⟩
      have er4 : (t l4 h4).noX.bind (fun b h2 => if b = true then (e l4 h2).noX.bind fun z h3 => (lcL g t e (ys.drop (i + 1)) (wipeL l own) h3).bind fun zs h4 => .ok (z :: zs) h4
        else lcL g t e (ys.drop (i + 1)) (wipeL l own) h2) = .ok rs h' := er3
      cases q5 : t l4 h4 with
      | no => rw [q5] at er4; cases er4
      | exc _ _ => rw [q5] at er4; cases er4
      | ok b h5 =>
        rw [q5] at er4
        rintro ρ5 H5 b' e5 p5 rb
        cases rb
        obtain ⟨x5, k5, hh5, nD5, hv5, rz5⟩ := onE x4 k4 hh4 nD4 hv4 rz4 e5
        cases b with
        | false => exact ⟨ρ5, h5, vs, zs, rs, x5, k5, hh5, nD5, p5, hv5, rz5, Nat.le_succ_of_le hlz, er4, hzs⟩
        | true =>
          refine ⟨ρ5, h5, l4, p5, rl4.ext e5, ?_⟩
          have er5 : (e l4 h5).noX.bind (fun z h3 => (lcL g t e (ys.drop (i + 1)) (wipeL l own) h3).bind fun zs h4 => .ok (z :: zs) h4) = .ok rs h' := er4
          cases q6 : e l4 h5 with
          | no => rw [q6] at er5; cases er5
          | exc _ _ => rw [q6] at er5; cases er5
          | ok z h6 =>
            rw [q6] at er5
            rintro ρ6 H6 zv e6 p6 rz'
            obtain ⟨x6, k6, hh6, nD6, hv6, rz6⟩ := onE x5 k5 hh5 nD5 hv5 rz5 e6
            have er6 : (lcL g t e (ys.drop (i + 1)) (wipeL l own) h6).bind (fun zs h4 => .ok (z :: zs) h4) = .ok rs h' := er5
            cases q7 : lcL g t e (ys.drop (i + 1)) (wipeL l own) h6 with
            | no => rw [q7] at er6; cases er6
            | exc _ _ => rw [q7] at er6; cases er6
            | ok rs7 h7 =>
              rw [q7] at er6
              have er7 : R.ok (z :: rs7) h7 = R.ok rs h' := er6
              injection er7 with er7 er8
              subst er7; subst er8
              have mD : D ∈ ρ6.hid := by rw [hh6]; exact List.mem_cons_self
              have kd : Kp ρ6 H6 ρ6 (upd H6 D (.lst (vs ++ [zv]))) := Kp.hid_upd mD _
              refine ⟨vs, hv6, by rw [← rz6.len]; omega, ρ6, h6, vs ++ [zv], zs ++ [z], rs7, ⟨x6.pre, x6.hid, fun q o hq st eq => ?_, fun q o hq eq => ?_⟩, k6.trans kd, hh6, nD6, p6.hid_upd mD nD6 _, upd_same, ?_, by rw [List.length_append, List.length_singleton]; omega, q7, by rw [← hzs]; simp⟩
              · rw [upd_ne (ne_of_none eq hD)]; exact x6.old q o hq st eq
              · rw [upd_ne (ne_of_none eq hD)]; exact x6.lok q o hq eq
              · exact (RVs.kp kd _ _ rz6).app (RVs.one (RV.kp kd _ _ rz'))
  · have e : i = ys.length := by omega
    subst e
    rw [List.drop_length] at er2
    have er3 : R.ok ([] : List PV) h2 = R.ok rs h' := er2
    injection er3 with er3 er4
    subst er3; subst er4
    rw [List.append_nil] at hzs
    subst hzs
    exact .inl ⟨y1.stop _ ρ h2 H k1 p2 (Nat.le_refl _), fin ρ H vs x1 hh nD p2 hv rz⟩

theorem lc_out {U : WQ} {g : MG} {t : M Bool} {e : M PV} {src : M (List PV)} {own : List Nat} {σ : L2.St} {Q : VK} {mk : List PV → Store → R PV} (hcn : ∀ v ∈ own, curNe K.cur v = true)
    (hmk : ∀ ρ ρ1 H H1 (D : Addr) zs h vs, Ext ρ1 H1 ⟨ρ.c, ρ1.hid⟩ H → ρ.hid = D :: ρ1.hid → D ∉ ρ.c → Rep K ρ h H → H1 D = none → ¬ ρ1.has D → H D = some (.lst vs) → RVs K ρ H zs vs → Out K ρ1 H1 (RV K) (fun c d H' => W c d σ H') (mk zs h) Q → Q (.ref D) H)
    (q : tM K W (fun l h => (src l h).bind fun ys h1 => if ys.length ≤ sizeLine then (lcL g t e ys (wipeL l own) h1).bind mk else .no) σ H Q) : tLc (tI K W src) (tGw K U own g) (tT K U t) (tM K U e) own σ H Q := by
  obtain ⟨ρ, h, l, p, rl, o⟩ := q
  refine ⟨ρ, h, l, p, rl, Out.mono (Out.bind o) fun J H1 ⟨ys, h1, ρ1, e1, p1, y1, o1⟩ => ?_⟩
  intro D hD
  obtain ⟨hz, o1⟩ := out_if o1
  cases q : lcL g t e ys (wipeL l own) h1 with
  | no => rw [q] at o1; exact o1.elim
  | exc ex hx =>
    -- lcL raises nothing
    exfalso
    have nx : ∀ (ys : List PV) (l : Lv) (h : Store) ex hx, lcL g t e ys l h ≠ .exc ex hx := by
      intro ys
      induction ys with
      | nil => intro l h ex hx z; cases z
      | cons y ys ih =>
        intro l h ex hx z
        have z : (g y l h).noX.bind (fun l1 h1 => (t l1 h1).noX.bind fun b h2 =>
          if b = true then (e l1 h2).noX.bind fun z h3 => (lcL g t e ys l h3).bind fun zs h4 => .ok (z :: zs) h4
          else lcL g t e ys l h2) = .exc ex hx := z
        cases q4 : g y l h with
        | no => rw [q4] at z; cases z
        | exc _ _ => rw [q4] at z; cases z
        | ok l4 h4 =>
          rw [q4] at z
          have z : (t l4 h4).noX.bind (fun b h2 => if b = true then (e l4 h2).noX.bind fun z h3 => (lcL g t e ys l h3).bind fun zs h4 => .ok (z :: zs) h4
            else lcL g t e ys l h2) = .exc ex hx := z
          cases q5 : t l4 h4 with
          | no => rw [q5] at z; cases z
          | exc _ _ => rw [q5] at z; cases z
          | ok b h5 =>
            rw [q5] at z
            cases b with
            | false => exact ih _ _ _ _ z
            | true =>
              have z : (e l4 h5).noX.bind (fun z h3 => (lcL g t e ys l h3).bind fun zs h4 => .ok (z :: zs) h4) = .exc ex hx := z
              cases q6 : e l4 h5 with
              | no => rw [q6] at z; cases z
              | exc _ _ => rw [q6] at z; cases z
              | ok u h6 =>
                rw [q6] at z
                have z : (lcL g t e ys l h6).bind (fun zs h4 => .ok (u :: zs) h4) = .exc ex hx := z
                cases q7 : lcL g t e ys l h6 with
                | no => rw [q7] at z; cases z
                | exc a b => exact ih _ _ _ _ q7
                | ok _ _ => rw [q7] at z; cases z
    exact nx _ _ _ _ _ q
  | ok zs' h' =>
    rw [q] at o1
    have na := p1.fresh hD
    exact lc_turns (Q := fun H => Q (.ref D) H) p1 y1 (rl.ext e1) hcn hD hz q fun ρ H vs x hh nD p hv rz => hmk ρ ρ1 H H1 D zs' h' vs x hh nD p hD na hv rz o1
theorem lc_mk_lst : ∀ ρ ρ1 H H1 (D : Addr) zs h vs {σ : L2.St} {Q : VK}, Ext ρ1 H1 ⟨ρ.c, ρ1.hid⟩ H → ρ.hid = D :: ρ1.hid → D ∉ ρ.c → Rep K ρ h H → H1 D = none → ¬ ρ1.has D → H D = some (.lst vs) → RVs K ρ H zs vs → Out K ρ1 H1 (RV K) (fun c d H' => W c d σ H') (.ok (.lst zs) h) Q → Q (.ref D) H := by
  intro ρ ρ1 H H1 D zs h vs σ Q x hh nD p hD na hv rz o
  obtain ⟨c, hid⟩ := ρ
  cases hh
  exact o ⟨c, ρ1.hid⟩ H (.ref D) x p.out ⟨D, vs, rfl, ⟨fun z => z.elim nD fun z => na (.inr z), hv⟩, RVs.kp Kp.out _ _ rz⟩
variable {elt tg iter : Expr} {ifs : List Expr} {scope : Scope} {own : List (Str × Nat)} {pos : Pos} {src : M (List PV)} {g : MG} {t : M Bool} {e : M PV}
theorem xe_lc (hc : X.calm = true) (hN : X.N.Nodup) (hi : XI X W tg iter src) (ok : BlkOk X.N X.env.scope scope own)
    (hg : ∀ (s : Shared) (H : Hp) (C : Addr) (cl : List (Str × Addr)) (fp : List Addr), XGw (X.blk s H scope (compEnvC scope cl C X.env) fp) (WF W) (own.map (·.2)) tg g)
    (ht : ∀ (s : Shared) (H : Hp) (C : Addr) (cl : List (Str × Addr)) (fp : List Addr), XTs (X.blk s H scope (compEnvC scope cl C X.env) fp) (WF W) ifs t)
    (he : ∀ (s : Shared) (H : Hp) (C : Addr) (cl : List (Str × Addr)) (fp : List Addr), XE (X.blk s H scope (compEnvC scope cl C X.env) fp) (WF W) elt e) (hs : ∀ x, foldedSetIterable iter X.env x = pure x := by intro _; rfl) (hcn : ∀ v ∈ own.map (·.2), curNe W.cur v = true := by first | exact fun _ _ => rfl | simp [curNe]) :
    XE X W (.ListComp elt [⟨tg, iter, ifs, 0⟩] scope pos) (mLc src (own.map (·.2)) g t e) :=
  pe_weak (pe_lc hc hN hi ok hg ht he hs) fun σ H Q q => lc_out hcn (fun ρ ρ1 H H1 D zs h vs => lc_mk_lst ρ ρ1 H H1 D zs h vs) q
/-- name = [..] on one line, the name a local -/
theorem xs_setLc {i : Nat} {y : Str} {py spos : Pos} (hc : X.calm = true) (hN : X.N.Nodup) (hi : XI X W tg iter src) (ok : BlkOk X.N X.env.scope scope own)
    (hg : ∀ (s : Shared) (H : Hp) (C : Addr) (cl : List (Str × Addr)) (fp : List Addr), XGw (X.blk s H scope (compEnvC scope cl C X.env) fp) (WF W) (own.map (·.2)) tg g)
    (ht : ∀ (s : Shared) (H : Hp) (C : Addr) (cl : List (Str × Addr)) (fp : List Addr), XTs (X.blk s H scope (compEnvC scope cl C X.env) fp) (WF W) ifs t)
    (he : ∀ (s : Shared) (H : Hp) (C : Addr) (cl : List (Str × Addr)) (fp : List Addr), XE (X.blk s H scope (compEnvC scope cl C X.env) fp) (WF W) elt e)
    (hy : X.N[i]? = some y := by rfl) (hyl : X.env.scope.names.lookup y = some .local := by rfl)
    (hsw : swapsWith (.ListComp elt [⟨tg, iter, ifs, 0⟩] scope pos) (some (.Name y py)) spos.line X.env = pure true := by exact sw_true rfl rfl rfl (by decide +kernel)) (hcy : curNe W.cur i = true := by rfl) (hs : ∀ x, foldedSetIterable iter X.env x = pure x := by intro _; rfl) (hcn : ∀ v ∈ own.map (·.2), curNe W.cur v = true := by first | exact fun _ _ => rfl | simp [curNe]) :
    XS X W (.Assign [.Name y py] (.ListComp elt [⟨tg, iter, ifs, 0⟩] scope pos) spos) (mSet i (mLc src (own.map (·.2)) g t e)) :=
  ps_weak (ps_setLc hc hN hy hyl hsw hi ok hg ht he hs) fun D σ H q => by
    show tLc _ _ _ _ _ σ H fun x H1 => gName i x σ H1 D.nx
    exact lc_out (U := WF W) hcn (fun ρ ρ1 H H1 D zs h vs => lc_mk_lst ρ ρ1 H H1 D zs h vs) (tS_set hcy D σ H q)
end
end Wg

namespace Wg
open PySem PySem.Spec PyProof.Rows L2
/-! ### promises of defs that run where no repr is under way -/
noncomputable abbrev NoG (A : Around) : Prop := A.guards = some []
structure FnG (P : Program) (w : World) (K : PySem.W.Frag) (mg : Str → Option Value) (base : Heap) (CX : CXT) (k : Nat) (f : Addr) (fd : FuncData) (ps : List Str) (sp : Sp) : Prop where
  len : ∀ xs H Q E, sp xs H Q E → xs.length = ps.length
  run : ∀ (A : Around) (out : List Env) (s : Shared) (H : Hp) (ar : Args) (us : List Value) (xs : List V) (Q : VK) (E : XK), Room k A → NoG A → Env0 P w K mg base A out s H → BindsTo s fd ar (ps.zip us) → Vals xs us → sp xs H Q E →
    codeAny (model P w) A (.call (.ref f) ar) (CR CX out P w H s Q E) s
section
variable {P : Program} {w : World} {K : PySem.W.Frag} {mg : Str → Option Value} {base : Heap} {k : Nat}
/-- by its body -/
theorem fnG_of {CX : CXT} {f : Addr} {nm qual : Str} {par : Arguments} {body : List Stmt} {sc : Scope} {dV kV doc pm cdv ct oc : Value} {an od : Option Addr} {osl : Array (Option Value)} {N ps : List Str} {sp : Sp}
    (lk : K.lookup f = some ⟨oc, od, .func (PySem.W.fnOf nm qual par body sc dV kV doc pm an cdv ct), osl⟩) (cI : PySem.W.codeIn K cdv qual = true) (S : FnScope N ps sc) (len : ∀ xs H Q E, sp xs H Q E → xs.length = ps.length)
    (go : ∀ (A : Around) (out : List Env) (s : Shared) (H : Hp) (xs : List V) (Q : VK) (E : XK), Room k (A.deeper (envOfC qual sc s.heap.objs.size f cdv)) → NoG A → sp xs H Q E →
      ∃ t, PSs (cxOf CX P w K mg base N qual sc f cdv A out s H E) body t ∧ t { nx := fun _ H' => Q .non H', rt := Q } (start N xs) H) :
    FnG P w K mg base CX (k + 1) f (PySem.W.fnOf nm qual par body sc dV kV doc pm an cdv ct) ps sp where
  len := len
  run := fun A out s H ar us xs Q E room ng e0 bi rv q0 => by
    have kin : K.In s.heap := e0.mod.kin.keeps fun b o z => (e0.bs b o z).1
    have nl : s.heap.NoLimit := e0.mod.nolimit.keeps fun b o z => (e0.bs b o z).1
    have kd : ∀ y ∈ ps.zip us, sc.names.lookup y.1 = some .local ∨ (sc.names.lookup y.1 = some .cell ∧ ((cellsFrom (s.heap.objs.size + 1) sc.names []).lookup y.1).isSome = true) := fun ⟨a, b⟩ hy =>
      (S.par a (List.of_mem_zip hy).1).imp id fun z => ⟨z, PySem.W.cellsFrom_some _ _ _ (.inl z)⟩
    refine codeAny_call_function room.depth (kin _ _ lk) rfl S.co S.gen rfl (PySem.W.codeRec_of kin cI) (bi _ _ _ _ (wpAny_newFunctionEnv_cells S.kind kd fun env ee s1 y => ?_))
    subst ee
    obtain ⟨t, d, q⟩ := go A out s H xs Q E (room.deeper _) ng q0
    refine ⟨nl.keeps y.toInCall.keep, codeAny_func (wpAny_mono (d.run [] s1 (start N xs) H _ (inv_start S room.hd e0 (len _ _ _ _ q0) rv y) q) (fun fl s' z => ?_) fun _ _ z => z)⟩
    cases fl with
    | ret u => obtain ⟨v, σ', H', J, r', q'⟩ := z; exact ⟨v, H', J.os, J.bare, J.base, J.hok, r', q'⟩
    | next => obtain ⟨σ', H', J, q'⟩ := z; exact ⟨V.non, H', J.os, J.bare, J.base, J.hok, rfl, q'⟩
    | brk => exact z.elim fun _ z => z.elim fun _ z => z.elim fun _ z => z.elim
    | cont => exact z.elim fun _ z => z.elim fun _ z => z.elim fun _ z => z.elim
theorem okG {x qual : Str} {st : Stmt} {f : Addr} {fd : FuncData} {N ps : List Str} {sp : Sp} (F : Fun K x qual st f fd) (S : FnScope N ps (defScope st)) (len : ∀ xs H Q E, sp xs H Q E → xs.length = ps.length)
    (go : ∀ (cdv : Value) (A : Around) (out : List Env) (s : Shared) (H : Hp) (xs : List V) (Q : VK) (E : XK), Room k (A.deeper (envOfC qual (defScope st) s.heap.objs.size f cdv)) → NoG A → sp xs H Q E →
      ∃ t, PSs (cxOf (L2.CX P w) P w K mg base N qual (defScope st) f cdv A out s H E) (defBody st) t ∧ t { nx := fun _ H' => Q .non H', rt := Q } (start N xs) H) : FnG P w K mg base (L2.CX P w) (k + 1) f fd ps sp := by
  obtain ⟨oc, od, kV, doc, pm, an, cdv, ct, osl, rfl, lk, cI⟩ := F.ex
  exact fnG_of lk cI S len fun A out s H xs Q E r g q => go cdv A out s H xs Q E r g q
end
section
variable {X : Cx} {CX : CXT} {k : Nat} {f : Addr} {fd : FuncData} {ps : List Str} {sp : Sp} {E : L2.St → XK} {x : Str} {p pos : Pos} {e : Expr} {es : List Expr} {t : TA}
/-- a call -/
theorem pe_callG (F : FnG X.prog X.w X.K X.mg X.base CX k f fd ps sp) (room : Room k X.A) (ng : NoG X.A) (gx : Gl X x) (mx : X.mg x = some (.ref f)) (kp : PySem.W.keepIn X.K (.ref f) = true) (bi : Binds X.K fd ps []) (pa : ∀ σ, PassesAt CX X σ (E σ)) (ha : PA X (e :: es) t)
    (hdb : (x == ("__debug__" : Str)) = false := by decide) (st : starEach (e :: es) X.env = (false, eval e X.env) :: starEach es X.env := by rfl) (pl : (backTo pos (starEach es X.env)).any (·.1) = false := by rfl) : PE X (.Call (.Name x p) (e :: es) [] pos) (tCallS sp E t) := ⟨fun pins s σ H Q I q => by
  refine wpAny_Call_Name_kw (ld_glob I gx mx ?_ hdb)
  refine PySem.W.callWith_K (h₀ := X.base) I.ok.mod.kin kp (thn (ha.run pos pins s σ H _ I q) fun us s1 ⟨xs, H1, I1, rv, q1⟩ => ⟨I1.kIn, ?_⟩) st pl
  have b := bi s1 us I1.kIn (by rw [List.append_nil, ← rv.length]; exact F.len _ _ _ _ q1)
  rw [List.append_nil] at b
  refine wpAny_call (codeAny_mono (F.run X.A X.stack s1 H1 ⟨us, []⟩ us xs Q (E σ) room ng I1.env0 b rv q1) fun r s' z => ?_)
  cases r with
  | error er => exact pa σ pins H1 s1 er s' I1 z
  | ok fl => cases fl <;> first | exact I1.after z | exact False.elim z⟩
end
/-! ### the end: a law's call -/
end Wg

namespace Wg
open PySem PySem.Spec PyProof.Rows L2 SlX

/-! ### what a def has made is handed over as it stands, never to be changed again -/
mutual
/-- no place of the store but those below n is named -/
noncomputable def below (n : Nat) : PV → Bool
  | .ref a => decide (a < n)
  | .tup xs => belows n xs
  | .lst xs => belows n xs
  | .scr xs => belows n xs
  | .dct kvs => belowd n kvs
  | .dcT kvs => belowd n kvs
  | .ins _ xs => belows n xs
  | .set xs => belows n xs
  | .dctO xs => belows n xs
  | .lam _ _ _ _ _ => false
  | _ => true
noncomputable def belows (n : Nat) : List PV → Bool
  | [] => true
  | x :: xs => below n x && belows n xs
noncomputable def belowd (n : Nat) : List (PV × PV) → Bool
  | [] => true
  | (_, x) :: xs => below n x && belowd n xs
end
noncomputable def belowC (n : Nat) : Cell → Bool
  | .lst xs => belows n xs
  | .dct kvs => belowd n kvs
  | .dcT kvs => belowd n kvs
  | .ins _ j xs => decide (j < n) && xs.all fun o => match o with
    | some x => below n x
    | none => true
  | .own => true
  | .tab _ _ => true
noncomputable def mapO {α β : Type} (f : α → Option β) : List α → Option (List β)
  | [] => some []
  | x :: xs => (f x).bind fun y => (mapO f xs).map (y :: ·)
/-- x as it stands, the places from n on read -/
noncomputable def frz (h : Store) (n : Nat) : Nat → PV → Option PV
  | 0, _ => none
  | k + 1, x => if below n x = true then some x else match x with
    | .ref a => match h[a]? with
      | some (.lst xs) => (mapO (frz h n k) xs).map .lst
      | some (.dct kvs) => (mapO (fun kv => (frz h n k kv.2).map fun y => (kv.1, y)) kvs).map .dct
      | some (.dcT kvs) => (mapO (fun kv => (frz h n k kv.2).map fun y => (kv.1, y)) kvs).map .dcT
      | some (.ins c j xs) => if n ≤ j ∧ xs ≠ [] then (mapO (fun o => match o with
        | some x => frz h n k x
        | none => none) xs).map (.ins c) else none
      | _ => none
    | .tup xs => (mapO (frz h n k) xs).map .tup
    | .lst xs => (mapO (frz h n k) xs).map .lst
    | .dct kvs => (mapO (fun kv => (frz h n k kv.2).map fun y => (kv.1, y)) kvs).map .dct
    | .dcT kvs => (mapO (fun kv => (frz h n k kv.2).map fun y => (kv.1, y)) kvs).map .dcT
    | .ins c xs => (mapO (frz h n k) xs).map (.ins c)
    | _ => none
section
variable {K : KC} {ρ ρ' : Pl} {H : Hp} {h : Store} {n : Nat}
/-- fewer cells -/
structure Cut (n : Nat) (ρ ρ' : Pl) : Prop where
  look : ∀ (i : Nat) (p : Addr), i < n → ρ.c[i]? = some p → ρ'.c[i]? = some p
  has : ∀ p, ¬ ρ.has p → ¬ ρ'.has p
mutual
theorem RV.below (a : Cut n ρ ρ') : ∀ (x : PV) (v : V), below n x = true → RV K ρ H x v → RV K ρ' H x v
  | .non, _, _, h => h
  | .bl _, _, _, h => h
  | .int _, _, _, h => h
  | .str _, _, _, h => h
  | .ty _, _, _, h => h
  | .adr _, _, _, h => h
  | .cls _, _, _, h => h
  | .ref i, _, b, ⟨p, h, e⟩ => ⟨p, a.look _ _ (by simpa only [below, decide_eq_true_eq] using b) h, e⟩
  | .tup xs, _, b, ⟨p, vs, e, t, r⟩ => ⟨p, vs, e, ⟨a.has _ t.1, t.2⟩, RVs.below a xs vs (by simpa only [below] using b) r⟩
  | .lst xs, _, b, ⟨p, vs, e, t, r⟩ => ⟨p, vs, e, ⟨a.has _ t.1, t.2⟩, RVs.below a xs vs (by simpa only [below] using b) r⟩
  | .scr xs, _, b, ⟨p, vs, e, t, r⟩ => ⟨p, vs, e, t.imp (fun z => ⟨a.has _ z.1, z.2⟩) id, RVs.below a xs vs (by simpa only [below] using b) r⟩
  | .dct kvs, _, b, ⟨p, vs, e, t, r⟩ => ⟨p, vs, e, ⟨a.has _ t.1, t.2⟩, RVd.below a kvs vs (by simpa only [below] using b) r⟩
  | .dcT kvs, _, b, ⟨p, vs, e, t, r⟩ => ⟨p, vs, e, ⟨a.has _ t.1, t.2⟩, RVt.below a kvs vs (by simpa only [below] using b) r⟩
  | .ins _ xs, _, b, ⟨p, C, dx, vs, e, m, t, r⟩ => ⟨p, C, dx, vs, e, m, ⟨a.has _ t.1, a.has _ t.2.1, t.2.2⟩, RVs.below a xs vs (by simpa only [below] using b) r⟩
  | .set xs, _, b, ⟨p, vs, e, t, r⟩ => ⟨p, vs, e, ⟨a.has _ t.1, t.2⟩, RVs.below a xs vs (by simpa only [below] using b) r⟩
  | .dctO xs, _, b, ⟨p, o, vs, e, t, u, r⟩ => ⟨p, o, vs, e, ⟨a.has _ t.1, t.2⟩, u, RVs.below a xs vs (by simpa only [below] using b) r⟩
  | .exn _, _, _, ⟨p, C, d, φ, e, m, t, f, q⟩ => ⟨p, C, d, φ, e, m, ⟨a.has _ t.1, t.2⟩, f, q.imp id fun ⟨dd, us, e1, n, h⟩ => ⟨dd, us, e1, a.has _ n, h⟩⟩
  | .lam _ _ _ _ _, _, b, _ => by simp only [below, Bool.false_eq_true] at b
theorem RVs.below (a : Cut n ρ ρ') : ∀ (xs : List PV) (vs : List V), belows n xs = true → RVs K ρ H xs vs → RVs K ρ' H xs vs
  | [], _, _, h => h
  | x :: xs, _, b, ⟨v, r, e, h1, h2⟩ => by
    simp only [belows, Bool.and_eq_true] at b
    exact ⟨v, r, e, RV.below a x v b.1 h1, RVs.below a xs r b.2 h2⟩
theorem RVd.below (a : Cut n ρ ρ') : ∀ (kvs : List (PV × PV)) (vs : List (Key × V)), belowd n kvs = true → RVd K ρ H kvs vs → RVd K ρ' H kvs vs
  | [], _, _, h => h
  | (k, x) :: xs, _, b, ⟨c, v, r, e, h0, h1, h2⟩ => by
    simp only [belowd, Bool.and_eq_true] at b
    exact ⟨c, v, r, e, h0, RV.below a x v b.1 h1, RVd.below a xs r b.2 h2⟩
theorem RVt.below (a : Cut n ρ ρ') : ∀ (kvs : List (PV × PV)) (vs : List (List Key × V)), belowd n kvs = true → RVt K ρ H kvs vs → RVt K ρ' H kvs vs
  | [], _, _, h => h
  | (k, x) :: xs, _, b, ⟨c, v, r, e, h0, h1, h2⟩ => by
    simp only [belowd, Bool.and_eq_true] at b
    exact ⟨c, v, r, e, h0, RV.below a x v b.1 h1, RVt.below a xs r b.2 h2⟩
end
noncomputable abbrev Pl.cut (ρ : Pl) (n : Nat) : Pl := ⟨ρ.c.take n, ρ.hid⟩
theorem cut_of : Cut n ρ (ρ.cut n) := ⟨fun i p hi e => by
  show (ρ.c.take n)[i]? = some p
  rw [List.getElem?_take, if_pos hi]; exact e, fun p hp z => hp (z.imp List.mem_of_mem_take id)⟩
theorem RVs.mapO {f : PV → Option PV} (hf : ∀ x y v, f x = some y → RV K ρ H x v → RV K ρ' H y v) : ∀ {xs ys : List PV} {vs : List V}, mapO f xs = some ys → RVs K ρ H xs vs → RVs K ρ' H ys vs
  | [], _, _, e, r => by cases e; exact r
  | x :: xs, ys, _, e, ⟨v, r, e1, h1, h2⟩ => by
    simp only [Wg.mapO, Option.bind_eq_some_iff, Option.map_eq_some_iff] at e
    obtain ⟨y, e2, ys', e3, rfl⟩ := e
    exact ⟨v, r, e1, hf _ _ _ e2 h1, RVs.mapO hf e3 h2⟩
theorem RVd.mapO {f : PV → Option PV} (hf : ∀ x y v, f x = some y → RV K ρ H x v → RV K ρ' H y v) : ∀ {xs ys : List (PV × PV)} {vs : List (Key × V)}, mapO (fun kv => (f kv.2).map fun y => (kv.1, y)) xs = some ys → RVd K ρ H xs vs → RVd K ρ' H ys vs
  | [], _, _, e, r => by cases e; exact r
  | (k, x) :: xs, ys, _, e, ⟨c, v, r, e1, h0, h1, h2⟩ => by
    simp only [Wg.mapO, Option.bind_eq_some_iff, Option.map_eq_some_iff] at e
    obtain ⟨y, ⟨z, e2, rfl⟩, ys', e3, rfl⟩ := e
    exact ⟨c, v, r, e1, h0, hf _ _ _ e2 h1, RVd.mapO hf e3 h2⟩
theorem RVt.mapO {f : PV → Option PV} (hf : ∀ x y v, f x = some y → RV K ρ H x v → RV K ρ' H y v) : ∀ {xs ys : List (PV × PV)} {vs : List (List Key × V)}, mapO (fun kv => (f kv.2).map fun y => (kv.1, y)) xs = some ys → RVt K ρ H xs vs → RVt K ρ' H ys vs
  | [], _, _, e, r => by cases e; exact r
  | (k, x) :: xs, ys, _, e, ⟨c, v, r, e1, h0, h1, h2⟩ => by
    simp only [Wg.mapO, Option.bind_eq_some_iff, Option.map_eq_some_iff] at e
    obtain ⟨y, ⟨z, e2, rfl⟩, ys', e3, rfl⟩ := e
    exact ⟨c, v, r, e1, h0, hf _ _ _ e2 h1, RVt.mapO hf e3 h2⟩
theorem not_cut (p : Rep K ρ h H) {i : Nat} {a : Addr} (e : ρ.c[i]? = some a) (hi : n ≤ i) : ¬ (ρ.cut n).has a := fun z => by
  rcases z with z | z
  · obtain ⟨j, hj, e2⟩ := List.mem_iff_getElem.mp z
    have hj : j < (ρ.c.take n).length := hj
    have hj' : j < n := by
      have := List.length_take_le n ρ.c
      omega
    have e2 : (ρ.c.take n)[j] = a := e2
    rw [List.getElem_take] at e2
    obtain ⟨h1, q1⟩ := List.getElem?_eq_some_iff.mp e
    have := (List.getElem_inj p.nd).mp (e2.trans q1.symm)
    omega
  · exact p.dj a (List.mem_of_getElem? e) z
theorem insO {f : PV → Option PV} : ∀ {xs : List (Option PV)} {ys : List PV} {us : List (Option V)}, us.length = xs.length → mapO (fun o => match o with
      | some x => f x
      | none => none) xs = some ys → (∀ (i : Nat) (x : PV), xs[i]? = some (some x) → ∃ v, us[i]? = some (some v) ∧ RV K ρ H x v) → (∀ x y v, f x = some y → RV K ρ H x v → RV K ρ' H y v) → ∃ vs, us = vs.map some ∧ RVs K ρ' H ys vs
  | [], _, us, hl, e, _, _ => by cases e; exact ⟨[], List.length_eq_zero_iff.mp hl, rfl⟩
  | none :: xs, _, us, hl, e, _, _ => by simp only [Wg.mapO, Option.bind_eq_some_iff] at e; obtain ⟨y, e, _⟩ := e; cases e
  | some x :: xs, ys, [], hl, e, _, _ => by cases hl
  | some x :: xs, ys, u :: us, hl, e, hr, hf => by
    simp only [Wg.mapO, Option.bind_eq_some_iff, Option.map_eq_some_iff] at e
    obtain ⟨y, e2, ys', e3, rfl⟩ := e
    obtain ⟨v, e4, r⟩ := hr 0 x rfl
    simp only [List.getElem?_cons_zero, Option.some.injEq] at e4
    obtain ⟨vs, e5, rs⟩ := insO (by simpa using hl) e3 (fun i x hx => by simpa using hr (i + 1) x (by simpa using hx)) hf
    exact ⟨v :: vs, by rw [e4, e5]; rfl, v, vs, rfl, hf _ _ _ e2 r, rs⟩
theorem frz_ok (p : Rep K ρ h H) : ∀ (k : Nat) (x y : PV) (v : V), frz h n k x = some y → RV K ρ H x v → RV K (ρ.cut n) H y v := by
  intro k
  induction k with
  | zero => intro x y v e r; cases e
  | succ k ih =>
    intro x y v e r
    unfold frz at e
    by_cases b : below n x = true
    · rw [if_pos b] at e
      cases e
      exact RV.below cut_of _ _ b r
    · rw [if_neg b] at e
      cases x with
      | ref a =>
        have ha : n ≤ a := by
          simp only [below, decide_eq_true_eq] at b
          omega
        obtain ⟨q, e1, e2⟩ := r
        simp only at e
        cases hc : h[a]? with
        | none => rw [hc] at e; cases e
        | some c =>
          rw [hc] at e
          have rc := p.at_ a c q hc e1
          have nc := not_cut p e1 ha
          cases c with
          | lst xs =>
            simp only [Option.map_eq_some_iff] at e
            obtain ⟨ys, e3, rfl⟩ := e
            obtain ⟨vs, q1, rs⟩ := rc
            exact ⟨q, vs, e2, ⟨nc, q1⟩, RVs.mapO ih e3 rs⟩
          | dct kvs =>
            simp only [Option.map_eq_some_iff] at e
            obtain ⟨ys, e3, rfl⟩ := e
            obtain ⟨vs, q1, rs⟩ := rc
            exact ⟨q, vs, e2, ⟨nc, .inl q1⟩, RVd.mapO ih e3 rs⟩
          | dcT kvs =>
            simp only [Option.map_eq_some_iff] at e
            obtain ⟨ys, e3, rfl⟩ := e
            obtain ⟨vs, q1, rs⟩ := rc
            exact ⟨q, vs, e2, ⟨nc, .inl q1⟩, RVt.mapO ih e3 rs⟩
          | ins c j xs =>
            simp only at e
            by_cases z : n ≤ j ∧ xs ≠ []
            · rw [if_pos z] at e
              simp only [Option.map_eq_some_iff] at e
              obtain ⟨ys, e3, rfl⟩ := e
              obtain ⟨C, dx, us, m, q1, q2, ⟨t, tl⟩, rs⟩ := rc
              obtain ⟨vs, rfl, rs2⟩ := insO tl e3 rs ih
              rcases t with ⟨_, t⟩ | ⟨t1, t2⟩
              · exact absurd (List.length_eq_zero_iff.mp (by rw [← tl, t]; rfl)) z.2
              · exact ⟨q, C, dx, vs, e2, m, ⟨nc, not_cut p q2 z.1, t1, t2⟩, rs2⟩
            · rw [if_neg z] at e; cases e
          | own => cases e
          | tab _ _ => cases e
      | tup xs =>
        simp only [Option.map_eq_some_iff] at e
        obtain ⟨ys, e3, rfl⟩ := e
        obtain ⟨q, vs, e2, t, rs⟩ := r
        exact ⟨q, vs, e2, ⟨cut_of.has _ t.1, t.2⟩, RVs.mapO ih e3 rs⟩
      | lst xs =>
        simp only [Option.map_eq_some_iff] at e
        obtain ⟨ys, e3, rfl⟩ := e
        obtain ⟨q, vs, e2, t, rs⟩ := r
        exact ⟨q, vs, e2, ⟨cut_of.has _ t.1, t.2⟩, RVs.mapO ih e3 rs⟩
      | dct kvs =>
        simp only [Option.map_eq_some_iff] at e
        obtain ⟨ys, e3, rfl⟩ := e
        obtain ⟨q, vs, e2, t, rs⟩ := r
        exact ⟨q, vs, e2, ⟨cut_of.has _ t.1, t.2⟩, RVd.mapO ih e3 rs⟩
      | dcT kvs =>
        simp only [Option.map_eq_some_iff] at e
        obtain ⟨ys, e3, rfl⟩ := e
        obtain ⟨q, vs, e2, t, rs⟩ := r
        exact ⟨q, vs, e2, ⟨cut_of.has _ t.1, t.2⟩, RVt.mapO ih e3 rs⟩
      | ins c xs =>
        simp only [Option.map_eq_some_iff] at e
        obtain ⟨ys, e3, rfl⟩ := e
        obtain ⟨q, C, dx, vs, e2, m, t, rs⟩ := r
        exact ⟨q, C, dx, vs, e2, m, ⟨cut_of.has _ t.1, cut_of.has _ t.2.1, t.2.2⟩, RVs.mapO ih e3 rs⟩
      | _ => cases e
theorem Rep.cut (p : Rep K ρ h H) (b : (h.take n).all (belowC n) = true) : Rep K (ρ.cut n) (h.take n) H := by
  refine ⟨by simp [p.len], p.nd.sublist (List.take_sublist _ _), fun i c q e1 e2 => ?_, p.hid, fun q hq => p.dj q (List.mem_of_mem_take hq)⟩
  have hi : i < n := by
    obtain ⟨h1, _⟩ := List.getElem?_eq_some_iff.mp e1
    have := List.length_take_le n h
    omega
  have hb := List.all_eq_true.mp b c (List.mem_of_getElem? e1)
  have e2 : (ρ.c.take n)[i]? = some q := e2
  rw [List.getElem?_take, if_pos hi] at e1 e2
  have rc := p.at_ i c q e1 e2
  cases c with
  | lst xs => obtain ⟨vs, q1, rs⟩ := rc; exact ⟨vs, q1, RVs.below cut_of _ _ (by simpa only [belowC] using hb) rs⟩
  | dct kvs => obtain ⟨vs, q1, rs⟩ := rc; exact ⟨vs, q1, RVd.below cut_of _ _ (by simpa only [belowC] using hb) rs⟩
  | dcT kvs => obtain ⟨vs, q1, rs⟩ := rc; exact ⟨vs, q1, RVt.below cut_of _ _ (by simpa only [belowC] using hb) rs⟩
  | ins c j xs =>
    simp only [belowC, Bool.and_eq_true, decide_eq_true_eq] at hb
    obtain ⟨C, dx, us, m, q1, q2, t, rs⟩ := rc
    refine ⟨C, dx, us, m, by rw [List.getElem?_take, if_pos hb.1]; exact q1, cut_of.look _ _ hb.1 q2, t, fun k x hx => ?_⟩
    obtain ⟨v, e3, r⟩ := rs k x hx
    exact ⟨v, e3, RV.below cut_of _ _ (List.all_eq_true.mp hb.2 _ (List.mem_of_getElem? hx)) r⟩
  | own => exact rc
  | tab x y =>
    obtain ⟨t, ps, q1, t2, t3⟩ := rc
    refine ⟨t, ps, q1, t2, fun pos cv hc => ?_⟩
    obtain ⟨c, e3, e4⟩ := t3 pos cv hc
    exact ⟨c, e3, cut_of.has _ e4.1, e4.2⟩
theorem Ext.cut {H0 : Hp} (a : Ext ρ H0 ρ' H) : Ext ρ H0 (ρ'.cut ρ.c.length) H := by
  obtain ⟨m, e, f⟩ := a.pre
  refine ⟨⟨[], ?_, fun p hp => by cases hp⟩, a.hid, a.old, a.lok⟩
  show ρ'.c.take ρ.c.length = _
  rw [e, List.take_left, List.append_nil]
end

/-! ### defs -/
noncomputable abbrev FN := List PV → Store → R PV
noncomputable def initL (n : Nat) (args : List PV) : Lv := args.map some ++ List.replicate (n - args.length) none
noncomputable def handX (n0 : Nat) (e : Ex) (h : Store) : R PV :=
  if h.length = n0 then .exc e h else if (h.take n0).all (belowC n0) = true ∧ below 0 e.cls = true then match mapO (fun fx => (frz h n0 40 fx.2).map fun y => (fx.1, y)) e.fld with
    | some fs => .exc ⟨e.cls, fs⟩ (h.take n0)
    | none => .no
  else .no
noncomputable def handO (n0 : Nat) (x : PV) (h : Store) : R PV := if h.length = n0 then .ok x h else if (h.take n0).all (belowC n0) = true then match frz h n0 40 x with
  | some y => .ok y (h.take n0)
  | none => .no
  else .no
/-- a def of np parameters and n names; what it gives is handed over as it stands -/
noncomputable def runDef (np n : Nat) (body : MS) : FN := fun args h => if args.length = np then
    match body (initL n args) h with
    | .ok (.rt x) h' => handO h.length x h'
    | .ok (.nx _) h' => handO h.length .non h'
    | .ok (.ex e _) h' => handX h.length e h'
    | _ => .no
  else .no
/-- .. that gives what it made, to be changed by others -/
noncomputable def runDefN (np n : Nat) (body : MS) : FN := fun args h => if args.length = np then
    match body (initL n args) h with
    | .ok (.rt x) h' => .ok x h'
    | .ok (.nx _) h' => .ok .non h'
    | .ok (.ex e _) h' => .exc e h'
    | _ => .no
  else .no
noncomputable def spM (w : World) (K : PySem.W.Frag) (mg : Str → Option Value) (f : FN) : Sp := fun vs H Q E => ∃ ρ h args, Rep ⟨K, mg, none, w⟩ ρ h H ∧ RVs ⟨K, mg, none, w⟩ ρ H args vs ∧ Out ⟨K, mg, none, w⟩ ρ H (RV ⟨K, mg, none, w⟩) E (f args h) Q
/-- a def of the text does what f tells -/
structure Def (P : Program) (w : World) (K : PySem.W.Frag) (mg : Str → Option Value) (base : Heap) (k : Nat) (x : Str) (F : FN) : Prop where
  ex : ∃ f fd ps, mg x = some (.ref f) ∧ PySem.W.keepIn K (.ref f) = true ∧ Binds K fd ps [] ∧ FnG P w K mg base (L2.CX P w) k f fd ps (spM w K mg F)
section
variable {P : Program} {w : World} {K : PySem.W.Frag} {mg : Str → Option Value} {base : Heap} {k : Nat} {KK : KC} {ρ : Pl} {H : Hp} {h : Store}
theorem RL.start {N : List Str} {args : List PV} {vs : List V} (hn : KK.cur = none) (r : RVs KK ρ H args vs) : RL KK ρ H (initL N.length args) (L2.start N vs) := by
  refine ⟨?_, by unfold CurOk; rw [hn]; trivial⟩
  unfold initL L2.start
  rw [r.len]
  generalize N.length - vs.length = m
  have base : RL0 KK ρ H (List.replicate m none) (List.replicate m none) := by
    induction m with
    | zero => exact .nil
    | succ m ih => exact .skip ih
  induction args generalizing vs with
  | nil => rw [show vs = [] from r]; exact base
  | cons x xs ih =>
    obtain ⟨v, rr, e, h1, h2⟩ := r
    subst e
    exact .put h1 (ih h2)
theorem RVx.mapO {ρ' : Pl} {us : List (Str × V)} {f : PV → Option PV} (hf : ∀ x y v, f x = some y → RV KK ρ H x v → RV KK ρ' H y v) : ∀ {xs ys : List (Str × PV)}, mapO (fun kv => (f kv.2).map fun y => (kv.1, y)) xs = some ys → RVx KK ρ H us xs → RVx KK ρ' H us ys
  | [], _, e, r => by cases e; exact r
  | (k, x) :: xs, ys, e, ⟨⟨v, e1, h1⟩, h2⟩ => by
    simp only [Wg.mapO, Option.bind_eq_some_iff, Option.map_eq_some_iff] at e
    obtain ⟨y, ⟨z, e2, rfl⟩, ys', e3, rfl⟩ := e
    exact ⟨⟨v, e1, hf _ _ _ e2 h1⟩, RVx.mapO hf e3 h2⟩
theorem out_handO {E : Value → Option Addr → Hp → Prop} {x : PV} {h' : Store} {Q : VK} (p : Rep KK ρ h H) (o : Out KK ρ H (RV KK) E (handO h.length x h') Q) : ∀ ρ' H' v, Ext ρ H ρ' H' → Rep KK ρ' h' H' → RV KK ρ' H' x v → Q v H' := by
  intro ρ' H' v a p' r
  unfold handO at o
  by_cases z : h'.length = h.length
  · rw [if_pos z] at o
    exact o ρ' H' v a p' r
  rw [if_neg z] at o
  by_cases c : (h'.take h.length).all (belowC h.length) = true
  · rw [if_pos c] at o
    cases q : frz h' h.length 40 x with
    | none => rw [q] at o; exact o.elim
    | some y =>
      rw [q] at o
      have e : Ext ρ H (ρ'.cut h.length) H' := by rw [p.len]; exact a.cut
      exact o _ H' v e (p'.cut c) (frz_ok p' _ _ _ _ q r)
  · rw [if_neg c] at o; exact o.elim
theorem out_handX {E : Value → Option Addr → Hp → Prop} {e : Ex} {h' : Store} {Q : VK} (p : Rep KK ρ h H) (o : Out KK ρ H (RV KK) E (handX h.length e h') Q) : ∀ ρ' H' cls d, Ext ρ H ρ' H' → Rep KK ρ' h' H' → RX KK ρ' H' e cls d → E cls d H' := by
  intro ρ' H' cls d a p' r
  unfold handX at o
  by_cases z : h'.length = h.length
  · rw [if_pos z] at o
    exact o ρ' H' cls d a p' r
  rw [if_neg z] at o
  by_cases c : (h'.take h.length).all (belowC h.length) = true ∧ below 0 e.cls = true
  · rw [if_pos c] at o
    split at o
    next fs q =>
      have x : Ext ρ H (ρ'.cut h.length) H' := by rw [p.len]; exact a.cut
      obtain ⟨cv, r1, r2, r3⟩ := r
      refine o _ H' cls d x (p'.cut c.1) ⟨cv, ?_, r2, ?_⟩
      · have b : ∀ (n : Nat) (x : PV), below 0 x = true → (∀ xs, x ≠ .tup xs) → True := fun _ _ _ _ => trivial
        refine RV.below (n := 0) ⟨fun i p hi => absurd hi (Nat.not_lt_zero i), cut_of.has⟩ _ _ c.2 r1
      · rcases r3 with r3 | ⟨dd, us, e1, e2, e3⟩
        · left
          rw [r3] at q
          cases q; rfl
        · exact .inr ⟨dd, us, e1, ⟨cut_of.has _ e2.1, e2.2⟩, RVx.mapO (fun x y v => frz_ok p' _ _ _ _) q e3⟩
    next => exact o.elim
  · rw [if_neg c] at o; exact o.elim
theorem fn_okM {x qual : Str} {st : Stmt} {f : Addr} {fd : FuncData} {N ps : List Str} {mb : MS} (F : Fun K x qual st f fd) (S : FnScope N ps (defScope st))
    (hbody : ∀ (cdv : Value) (A : Around) (outer : List Env) (s : Shared) (H : Hp) (E : XK), Room k (A.deeper (envOfC qual (defScope st) s.heap.objs.size f cdv)) → NoG A →
      XSs (cxOf (L2.CX P w) P w K mg base N qual (defScope st) f cdv A outer s H E) ⟨fun cls d _ H' => E cls d H', none⟩ (defBody st) mb) : FnG P w K mg base (L2.CX P w) (k + 1) f fd ps (spM w K mg (runDef ps.length N.length mb)) := by
  refine okG F S (fun vs H Q E h => ?_) (fun cdv A outer s H vs Q E hr hG h => ?_)
  · obtain ⟨ρ, h, args, p, r, o⟩ := h
    by_cases hl : args.length = ps.length
    · rw [← r.len]; exact hl
    · unfold runDef at o
      rw [if_neg hl] at o
      exact o.elim
  · obtain ⟨ρ, h, args, p, r, o⟩ := h
    refine ⟨_, hbody cdv A outer s H E hr hG, ρ, h, initL N.length args, p, RL.start rfl r, ?_⟩
    unfold runDef at o
    by_cases hl : args.length = ps.length
    · rw [if_pos hl] at o
      cases q : mb (initL N.length args) h with
      | no => rw [q] at o; exact o
      | exc e h' => rw [q] at o; exact o
      | ok fl h' =>
        rw [q] at o
        cases fl with
        | rt x => exact out_handO p o
        | nx l => exact fun ρ' H' σ' a p' _ => out_handO p o ρ' H' .non a p' rfl
        | bk l => exact o.elim
        | ct l => exact o.elim
        | ex e l => exact fun ρ' H' c' d σ' a p' _ r => out_handX p o ρ' H' c' d a p' r
    · rw [if_neg hl] at o; exact o.elim
theorem fn_okN {x qual : Str} {st : Stmt} {f : Addr} {fd : FuncData} {N ps : List Str} {mb : MS} (F : Fun K x qual st f fd) (S : FnScope N ps (defScope st))
    (hbody : ∀ (cdv : Value) (A : Around) (outer : List Env) (s : Shared) (H : Hp) (E : XK), Room k (A.deeper (envOfC qual (defScope st) s.heap.objs.size f cdv)) → NoG A →
      XSs (cxOf (L2.CX P w) P w K mg base N qual (defScope st) f cdv A outer s H E) ⟨fun cls d _ H' => E cls d H', none⟩ (defBody st) mb) : FnG P w K mg base (L2.CX P w) (k + 1) f fd ps (spM w K mg (runDefN ps.length N.length mb)) := by
  refine okG F S (fun vs H Q E h => ?_) (fun cdv A outer s H vs Q E hr hG h => ?_)
  · obtain ⟨ρ, h, args, p, r, o⟩ := h
    by_cases hl : args.length = ps.length
    · rw [← r.len]; exact hl
    · unfold runDefN at o
      rw [if_neg hl] at o
      exact o.elim
  · obtain ⟨ρ, h, args, p, r, o⟩ := h
    refine ⟨_, hbody cdv A outer s H E hr hG, ρ, h, initL N.length args, p, RL.start rfl r, ?_⟩
    unfold runDefN at o
    by_cases hl : args.length = ps.length
    · rw [if_pos hl] at o
      cases q : mb (initL N.length args) h with
      | no => rw [q] at o; exact o
      | exc e h' => rw [q] at o; exact o
      | ok fl h' =>
        rw [q] at o
        cases fl with
        | rt x => exact o
        | nx l => exact fun ρ' H' σ' a p' _ => o ρ' H' .non a p' rfl
        | bk l => exact o.elim
        | ct l => exact o.elim
        | ex e l => exact fun ρ' H' c' d σ' a p' _ r => o ρ' H' c' d a p' r
    · rw [if_neg hl] at o; exact o.elim
end
section
variable {X : Cx} {W : WQ} {k : Nat} {x : Str} {F : FN} {p0 pos : Pos} {e : Expr} {es : List Expr} {ms : M (List PV)}
/-- f(e, ..) -/
theorem xe_call (D : Def X.prog X.w X.K X.mg X.base k x F) (hr : Room k X.A) (hG : NoG X.A) (tk : Takes X W.w) (ha : XA X W (e :: es) ms) (hcur : W.cur = none := by rfl) (hg : Gl X x := by rfl) (hdb : (x == ("__debug__" : Str)) = false := by decide)
    (he : starEach (e :: es) X.env = (false, eval e X.env) :: starEach es X.env := by rfl) (hpl : (backTo pos (starEach es X.env)).any (·.1) = false := by rfl) : XE X W (.Call (.Name x p0) (e :: es) [] pos) (mCall F ms) := by
  obtain ⟨f, fd, ps, hm, hk, hb, ok⟩ := D.ex
  obtain ⟨w, c⟩ := W
  obtain rfl : c = none := hcur
  exact pe_weak (pe_callG ok hr hG hg hm hk hb (fun σ => passAt tk σ) ha hdb he hpl) fun σ H Q ⟨ρ, h, l, p, rl, o⟩ => ⟨ρ, h, l, p, rl, Out.mono (Out.bind o) fun vs H1 ⟨xs, h1, ρ1, e1, p1, r1, o1⟩ => ⟨ρ1, h1, xs, p1, r1, o1⟩⟩
end
end Wg

namespace Wg
open PySem PySem.Spec PyProof.Rows L2 SlX
section
variable {X : Cx} {W : WQ} {k : Nat} {p0 p1 pos : Pos} {a b c e : Expr} {es : List Expr} {ma mb mc : M PV} {ms : M (List PV)}
theorem xe_len (hm : X.mg "len" = none) (ha : XA X W (e :: es) ms) (hg : Gl X "len" := by rfl) (he : starEach (e :: es) X.env = (false, eval e X.env) :: starEach es X.env := by rfl) (hpl : (backTo pos (starEach es X.env)).any (·.1) = false := by rfl) :
    XE X W (.Call (.Name "len" p0) (e :: es) [] pos) (mCall fLen ms) := xe_callB call_len cx_len hm boot_len ha hg (by decide) (by decide) he hpl
theorem xe_int_ (hm : X.mg "int" = none) (ha : XA X W (e :: es) ms) (hg : Gl X "int" := by rfl) (he : starEach (e :: es) X.env = (false, eval e X.env) :: starEach es X.env := by rfl) (hpl : (backTo pos (starEach es X.env)).any (·.1) = false := by rfl) :
    XE X W (.Call (.Name "int" p0) (e :: es) [] pos) (mCall fIntOf ms) := xe_callTy cr_intA cx_int hm PyProof.Rows.boot_int ha hg (by decide) (by decide) he hpl
theorem xe_abs (hm : X.mg "abs" = none) (ha : XA X W (e :: es) ms) (hg : Gl X "abs" := by rfl) (he : starEach (e :: es) X.env = (false, eval e X.env) :: starEach es X.env := by rfl) (hpl : (backTo pos (starEach es X.env)).any (·.1) = false := by rfl) :
    XE X W (.Call (.Name "abs" p0) (e :: es) [] pos) (mCall fAbs ms) := xe_callB call_abs cx_abs hm boot_abs ha hg (by decide) (by decide) he hpl
theorem xe_max2 (hc : X.calm = true) (hm : X.mg "max" = none) (ha : XA X W (e :: es) ms) (hg : Gl X "max" := by rfl) (he : starEach (e :: es) X.env = (false, eval e X.env) :: starEach es X.env := by rfl) (hpl : (backTo pos (starEach es X.env)).any (·.1) = false := by rfl) :
    XE X W (.Call (.Name "max" p0) (e :: es) [] pos) (mCall fMax2 ms) := xe_callB (call_max2 hc) cx_max2 hm boot_max ha hg (by decide) (by decide) he hpl
theorem xe_min2 (hc : X.calm = true) (hm : X.mg "min" = none) (ha : XA X W (e :: es) ms) (hg : Gl X "min" := by rfl) (he : starEach (e :: es) X.env = (false, eval e X.env) :: starEach es X.env := by rfl) (hpl : (backTo pos (starEach es X.env)).any (·.1) = false := by rfl) :
    XE X W (.Call (.Name "min" p0) (e :: es) [] pos) (mCall fMin2 ms) := xe_callB (call_min2 hc) cx_min2 hm boot_min ha hg (by decide) (by decide) he hpl
theorem xe_all (hc : X.calm = true) (hm : X.mg "all" = none) (ha : XA X W (e :: es) ms) (hg : Gl X "all" := by rfl) (he : starEach (e :: es) X.env = (false, eval e X.env) :: starEach es X.env := by rfl) (hpl : (backTo pos (starEach es X.env)).any (·.1) = false := by rfl) :
    XE X W (.Call (.Name "all" p0) (e :: es) [] pos) (mCall fAll ms) := xe_callB (cr_all hc) cx_all hm boot_all ha hg (by decide) (by decide) he hpl
theorem xe_tuple (hm : X.mg "tuple" = none) (ha : XA X W (e :: es) ms) (hg : Gl X "tuple" := by rfl) (he : starEach (e :: es) X.env = (false, eval e X.env) :: starEach es X.env := by rfl) (hpl : (backTo pos (starEach es X.env)).any (·.1) = false := by rfl) :
    XE X W (.Call (.Name "tuple" p0) (e :: es) [] pos) (mCall fTuple ms) := xe_callTy cr_tupleG cx_tuple hm PyProof.Rows.boot_tuple ha hg (by decide) (by decide) he hpl
theorem xe_listN (hm : X.mg "list" = none) (ha : XA X W (e :: es) ms) (hg : Gl X "list" := by rfl) (he : starEach (e :: es) X.env = (false, eval e X.env) :: starEach es X.env := by rfl) (hpl : (backTo pos (starEach es X.env)).any (·.1) = false := by rfl) :
    XE X W (.Call (.Name "list" p0) (e :: es) [] pos) (mCall fListN ms) := xe_callTy call_list_of cx_listN hm PyProof.Rows.boot_list ha hg (by decide) (by decide) he hpl
theorem xe_Tstr (hm : X.mg "str" = none) (hg : Gl X "str" := by rfl) : XE X W (.Name "str" pos) (mC (.ty "str")) := xe_glob (pe_bltn (v := .ty "str") hg hm PyProof.Rows.boot_str rfl) fun _ _ _ _ => rfl
theorem xe_Ttuple (hm : X.mg "tuple" = none) (hg : Gl X "tuple" := by rfl) : XE X W (.Name "tuple" pos) (mC (.ty "tuple")) := xe_glob (pe_bltn (v := .ty "tuple") hg hm PyProof.Rows.boot_tuple rfl) fun _ _ _ _ => rfl
theorem xe_add (ha : XE X W a ma) (hb : XE X W b mb) : XE X W (.BinOp a .Add b pos) (mBin fAdd ma mb) := xe_bin op_addA ox_add ha hb
theorem xe_sub (ha : XE X W a ma) (hb : XE X W b mb) : XE X W (.BinOp a .Sub b pos) (mBin fSub ma mb) := xe_bin op_sub ox_sub ha hb
theorem xe_div (ha : XE X W a ma) (hb : XE X W b mb) : XE X W (.BinOp a .FloorDiv b pos) (mBin fDiv ma mb) := xe_bin op_fdivW ox_div ha hb
theorem xe_mod (ha : XE X W a ma) (hb : XE X W b mb) : XE X W (.BinOp a .Mod b pos) (mBin fMod ma mb) := xe_bin op_mod ox_mod ha hb
theorem xe_pow (ha : XE X W a ma) (hb : XE X W b mb) : XE X W (.BinOp a .Pow b pos) (mBin fPow ma mb) := xe_bin op_pow ox_pow ha hb
theorem xe_lt (ha : XE X W a ma) (hb : XE X W b mb) : XE X W (.Compare a [.Lt] [b] pos) (mBin fLt ma mb) := xe_cmp op_ltA ox_ord ha hb (nomark _)
theorem xt_lt (ha : XE X W a ma) (hb : XE X W b mb) : XT X W (.Compare a [.Lt] [b] pos) (mB (mBin fLt ma mb)) := xt_cmp op_ltA ox_ord ha hb (nomark _)
theorem xe_gt (ha : XE X W a ma) (hb : XE X W b mb) : XE X W (.Compare a [.Gt] [b] pos) (mBin fGt ma mb) := xe_cmp op_gtA ox_ord ha hb (nomark _)
theorem xt_gt (ha : XE X W a ma) (hb : XE X W b mb) : XT X W (.Compare a [.Gt] [b] pos) (mB (mBin fGt ma mb)) := xt_cmp op_gtA ox_ord ha hb (nomark _)
theorem xe_eq (hr : Room k X.A) (ha : XE X W a ma) (hb : XE X W b mb) : XE X W (.Compare a [.Eq] [b] pos) (mBin fEq ma mb) := xe_cmp (op_eqA hr.units) ox_eq ha hb (nomark _)
theorem xt_eq (hr : Room k X.A) (ha : XE X W a ma) (hb : XE X W b mb) : XT X W (.Compare a [.Eq] [b] pos) (mB (mBin fEq ma mb)) := xt_cmp (op_eqA hr.units) ox_eq ha hb (nomark _)
theorem xt_ne (hr : Room k X.A) (ha : XE X W a ma) (hb : XE X W b mb) : XT X W (.Compare a [.NotEq] [b] pos) (mB (mBin fNe ma mb)) := xt_cmp (op_neA hr.units) ox_ne ha hb (nomark _)
noncomputable def fNeg (x : PV) (h : Store) : R PV := match x with
  | .int i => .ok (.int (-i)) h
  | _ => .no
noncomputable def mUn (f : PV → Store → R PV) (a : M PV) : M PV := fun l h => (a l h).bind f
theorem xt_le_le (ha : XE X W a ma) (hb : XE X W b mb) (hc : XE X W c mc) (hm : lastMarks [.LtE, .LtE] [b, c] = false := by with_unfolding_all rfl) : XT X W (.Compare a [.LtE, .LtE] [b, c] pos) (mB (mChain fLe fLe ma mb mc)) := xt_chain op_leA ox_ord op_leA ox_ord ha hb hc hm
theorem xe_append (ho : XE X W a ma) (ha : XA X W (e :: es) ms) (hbase : attributeBase a "append" X.env (eval a X.env) = eval a X.env := by rfl)
    (hfew : ((backTo pos (starEach (e :: es) X.env)).all (fun x => !x.1) && (backToKw pos (keywordEach [] X.env)).all (fun x => x.1.isSome) && decide ((e :: es).length + ([] : List Keyword).length + (if ([] : List Keyword).isEmpty then 0 else 1) < 30)) = true := by rfl)
    (hline : (p0.endLine == pos.line) = true := by rfl) (hs : starEach (e :: es) X.env = (false, eval e X.env) :: starEach es X.env := by rfl) (hplain : (backTo pos (starEach es X.env)).any (·.1) = false := by rfl) :
    XE X W (.Call (.Attribute a "append" p0) (e :: es) [] pos) (mMeth "list" fAppend ma ms) := xe_bm PySem.F.plainAttrs_list PySem.F.slot_list_append PySem.F.type_list_append mt_append mx_append ho ha hbase hfew hline hs hplain
theorem xe_extend (ho : XE X W a ma) (ha : XA X W (e :: es) ms) (hbase : attributeBase a "extend" X.env (eval a X.env) = eval a X.env := by rfl)
    (hfew : ((backTo pos (starEach (e :: es) X.env)).all (fun x => !x.1) && (backToKw pos (keywordEach [] X.env)).all (fun x => x.1.isSome) && decide ((e :: es).length + ([] : List Keyword).length + (if ([] : List Keyword).isEmpty then 0 else 1) < 30)) = true := by rfl)
    (hline : (p0.endLine == pos.line) = true := by rfl) (hs : starEach (e :: es) X.env = (false, eval e X.env) :: starEach es X.env := by rfl) (hplain : (backTo pos (starEach es X.env)).any (·.1) = false := by rfl) :
    XE X W (.Call (.Attribute a "extend" p0) (e :: es) [] pos) (mMeth "list" fExtend ma ms) := xe_bm PySem.F.plainAttrs_list PySem.F.slot_list_extend PySem.F.type_list_extend mt_extend mx_extend ho ha hbase hfew hline hs hplain
theorem xe_pop (ho : XE X W a ma) (hbase : attributeBase a "pop" X.env (eval a X.env) = eval a X.env := by rfl) (hline : (p0.endLine == pos.line) = true := by rfl) :
    XE X W (.Call (.Attribute a "pop" p0) [] [] pos) (mMeth "list" fPop ma mNil) := xe_bm0 PySem.F.plainAttrs_list PySem.F.slot_list_pop PySem.F.type_list_pop mt_pop mx_pop ho hbase hline
theorem xg_subL (ha : XE X W a ma) (hb : XE X W b mb) (hr : ∀ v, assign (.Subscript a b pos) X.env v = (do
      let ov ← holding [v] (eval a X.env)
      let iv ← holding [v, ov] (eval b X.env)
      standAt pos
      holding [v, ov, iv] (setItem ov iv v)
      release [v, ov, iv] []) := by intro _; rfl) : XG X W (.Subscript a b pos) (gSubX fSetL ma mb) := xg_sub ha hb set_list sx_list hr
theorem xv (i : Nat) {x : Str} {pos : Pos} (hN : X.N[i]? = some x := by rfl) (hv : Vis X.env.scope x := by first | exact Or.inl rfl | exact Or.inr (Or.inl rfl) | exact Or.inr (Or.inr rfl)) (hd : (x == ("__debug__" : Str)) = false := by decide)
    (hcd : (x == ("__classdict__" : Str)) = false := by decide) : XE X W (.Name x pos) (mVar i) := xe_var (pe_var hN hv hd hcd)

/-! ### dict displays, keys ints and texts -/
noncomputable def mPairs : List (M PV × M PV) → M (List (PV × PV))
  | [] => fun _ h => .ok [] h
  | (mk, mv) :: r => fun l h => (mk l h).bind fun x h1 => (mv l h1).bind fun y h2 => (mPairs r l h2).bind fun ps h3 => .ok ((x, y) :: ps) h3
noncomputable def keyEq (a b : PV) : Bool := decide (keyP a = keyP b)
noncomputable def putP (kvs : List (PV × PV)) (k v : PV) : List (PV × PV) :=
  if (kvs.any fun kv => keyEq kv.1 k) = true then kvs.map fun kv => if keyEq kv.1 k = true then (kv.1, v) else kv else kvs ++ [(k, v)]
theorem xe_dct0 : XE X W (.Dict [] [] pos) (mC (.dct [])) := pe_weak pe_dnewK fun σ H Q ⟨ρ, h, l, p, rl, o⟩ q hq => by
  have e := p.new hq (.dK [])
  exact o ρ _ (.ref q) e.1 e.2 ⟨q, [], rfl, ⟨p.fresh hq, .inl upd_same⟩, rfl⟩
end
end Wg

namespace Wg
open PySem PySem.Spec PyProof.Rows L2 SlX
section
variable {K : KC} {ρ ρ' ρ1 : Pl} {H H' H1 : Hp} {h : Store} {X : Cx} {W : WQ} {pos : Pos}
theorem keyP_kV {k : PV} {c : Key} {v : V} (e : keyP k = some c) (r : RV K ρ H k v) : v = kV c := by
  cases k with
  | int i => cases e; exact r
  | str x => cases e; exact r
  | _ => cases e
theorem RVd.any {k : PV} {c : Key} (e : keyP k = some c) : ∀ {kvs : List (PV × PV)} {vs : List (Key × V)}, RVd K ρ H kvs vs → (kvs.any fun kv => keyEq kv.1 k) = vs.any fun kv => decide (kv.1 = c)
  | [], _, r => by rw [show _ = [] from r]; rfl
  | (k0, x) :: xs, _, ⟨c0, v, r, e1, e2, h1, h2⟩ => by
    subst e1
    rw [List.any_cons, List.any_cons, RVd.any e h2]
    congr 1
    show decide (keyP k0 = keyP k) = decide (c0 = c)
    rw [e2, e]
    by_cases z : c0 = c
    · subst z; simp
    · rw [decide_eq_false (fun q => z (Option.some.inj q)), decide_eq_false z]
theorem RVd.repl {k : PV} {c : Key} {y : PV} {u : V} (e : keyP k = some c) (ry : RV K ρ H y u) : ∀ {kvs : List (PV × PV)} {vs : List (Key × V)}, RVd K ρ H kvs vs →
    RVd K ρ H (kvs.map fun kv => if keyEq kv.1 k = true then (kv.1, y) else kv) (vs.map fun kv => if kv.1 = c then (kv.1, u) else kv)
  | [], _, r => by rw [show _ = [] from r]; rfl
  | (k0, x) :: xs, _, ⟨c0, v, r, e1, e2, h1, h2⟩ => by
    subst e1
    have ih := RVd.repl e ry h2
    rw [List.map_cons, List.map_cons]
    show RVd K ρ H ((if decide (keyP k0 = keyP k) = true then (k0, y) else (k0, x)) :: _) ((if c0 = c then (c0, u) else (c0, v)) :: _)
    rw [e2, e]
    by_cases z : c0 = c
    · subst z
      rw [if_pos (by simp), if_pos rfl]
      exact ⟨c0, u, _, rfl, e2, ry, ih⟩
    · rw [if_neg (by rw [decide_eq_false (fun q => z (Option.some.inj q))]; exact Bool.false_ne_true), if_neg z]
      exact ⟨c0, v, _, rfl, e2, h1, ih⟩
theorem RVd.app : ∀ {kvs ls : List (PV × PV)} {vs ws : List (Key × V)}, RVd K ρ H kvs vs → RVd K ρ H ls ws → RVd K ρ H (kvs ++ ls) (vs ++ ws)
  | [], _, _, _, r, q => by rw [show _ = [] from r]; exact q
  | (k0, x) :: xs, _, _, _, ⟨c0, v, r, e1, e2, h1, h2⟩, q => by subst e1; exact ⟨c0, v, _, rfl, e2, h1, RVd.app h2 q⟩
theorem RVd.len : ∀ {kvs : List (PV × PV)} {vs : List (Key × V)}, RVd K ρ H kvs vs → kvs.length = vs.length
  | [], _, r => by rw [show _ = [] from r] <;> rfl
  | (k0, x) :: xs, _, ⟨c0, v, r, e1, e2, h1, h2⟩ => by subst e1; rw [List.length_cons, List.length_cons, RVd.len h2]
theorem RVd.put {k : PV} {c : Key} {y : PV} {u : V} (e : keyP k = some c) (ry : RV K ρ H y u) {kvs : List (PV × PV)} {vs : List (Key × V)} (r : RVd K ρ H kvs vs) : RVd K ρ H (putP kvs k y) (putK vs c u) := by
  unfold putP putK
  rw [r.any e]
  split
  · exact r.repl e ry
  · exact r.app ⟨c, u, [], rfl, e, ry, rfl⟩

/-! ### displays of dicts -/
inductive XPs (X : Cx) (W : WQ) (pos : Pos) : List (Option Expr) → List Expr → List (M PV × M PV) → Prop
  | nil : XPs X W pos [] [] []
  | cons {k v : Expr} {ks vs mk mv r} : XE X W k mk → XE X W v mv → XPs X W pos ks vs r → XPs X W pos (some k :: ks) (v :: vs) ((mk, mv) :: r)
theorem xps_pps {ks : List (Option Expr)} {vs : List Expr} {r : List (M PV × M PV)} (h : XPs X W pos ks vs r) : PPs X pos ks vs (r.map fun p => (tM (kc X W) W p.1, tM (kc X W) W p.2)) := by
  induction h with
  | nil => exact pps_nil
  | cons h1 h2 _ ih => exact pps_cons h1 h2 ih
/-- pairs of values -/
noncomputable def RVp (K : KC) (ρ : Pl) (H : Hp) : List (PV × PV) → List (V × V) → Prop
  | [], ps => ps = []
  | (k, x) :: r, ps => ∃ a b q, ps = (a, b) :: q ∧ RV K ρ H k a ∧ RV K ρ H x b ∧ RVp K ρ H r q
theorem tPairs_of {K : KC} {W : WQ} {l : Lv} {σ : L2.St} : ∀ {r : List (M PV × M PV)} {ρ : Pl} {h : Store} {H : Hp} {Q : List (V × V) → Hp → Prop}, Rep K ρ h H → RL K ρ H l σ →
    Out K ρ H (RVp K) (fun c d H' => W c d σ H') (mPairs r l h) Q → tPairs (r.map fun p => (tM K W p.1, tM K W p.2)) σ H Q
  | [], ρ, h, H, Q, p, rl, o => o.ok p rfl
  | (mk, mv) :: r, ρ, h, H, Q, p, rl, o => ⟨ρ, h, l, p, rl, Out.mono (Out.bind o) fun a H1 ⟨x, h1, ρ1, e1, p1, r1, o1⟩ => ⟨ρ1, h1, l, p1, rl.ext e1, Out.mono (Out.bind o1) fun b H2 ⟨y, h2, ρ2, e2, p2, r2, o2⟩ =>
      tPairs_of p2 ((rl.ext e1).ext e2) (Out.mono (Out.bind o2) fun ps H3 ⟨zs, h3, ρ3, e3, p3, r3, o3⟩ => o3.ok p3 ⟨a, b, ps, rfl, (r1.ext e2).ext e3, r2.ext e3, r3⟩)⟩⟩
theorem RVp.keys : ∀ {kvs : List (PV × PV)} {ps : List (V × V)}, RVp K ρ H kvs ps → (kvs.all fun kv => (keyP kv.1).isSome) = true → ∃ cs : List (Key × V), ps = cs.map (fun kv => (kV kv.1, kv.2)) ∧ cs.length = kvs.length ∧
    ∀ {ρ2 : Pl} {H2 : Hp} {acc : List (PV × PV)} {ac : List (Key × V)}, Kp ρ H ρ2 H2 → RVd K ρ2 H2 acc ac → RVd K ρ2 H2 (kvs.foldl (fun acc kv => putP acc kv.1 kv.2) acc) (mergeK ac cs)
  | [], _, r, _ => ⟨[], by rw [show _ = [] from r]; rfl, rfl, fun _ q => q⟩
  | (k, x) :: rs, _, ⟨a, b, q, e1, h1, h2, h3⟩, hall => by
    rw [List.all_cons, Bool.and_eq_true] at hall
    obtain ⟨c, hc⟩ := Option.isSome_iff_exists.mp hall.1
    obtain ⟨cs, e2, e3, f⟩ := RVp.keys h3 hall.2
    refine ⟨(c, b) :: cs, by rw [e1, e2, keyP_kV hc h1]; rfl, by rw [List.length_cons, List.length_cons, e3], fun {ρ2 H2 acc ac} k2 q2 => ?_⟩
    exact f k2 (q2.put hc (RV.kp k2 _ _ h2))
noncomputable def mDctX (ps : List (M PV × M PV)) : M PV := fun l h => (mPairs ps l h).noX.bind fun kvs h1 => if kvs.length ≤ 15 ∧ (kvs.all fun kv => (keyP kv.1).isSome) = true then .ok (.dct (kvs.foldl (fun acc kv => putP acc kv.1 kv.2) [])) h1 else .no
theorem xe_dct {ks : List (Option Expr)} {vs : List Expr} {r : List (M PV × M PV)} (h : XPs X W pos ks vs r) (hall : ks.all (·.isSome) = true := by rfl) (hl : ks.length = vs.length := by rfl) (h0 : ks ≠ [] := by exact List.cons_ne_nil _ _) (h15 : ks.length ≤ 15 := by decide) :
    XE X W (.Dict ks vs pos) (mDctX r) := pe_weak (pe_disp (xps_pps h) hall hl h0 h15) fun σ H Q ⟨ρ, h, l, p, rl, o⟩ q hq => by
  unfold mDctX at o
  cases e : mPairs r l h with
  | no => rw [e] at o; exact o.elim
  | exc _ _ => rw [e] at o; exact o.elim
  | ok kvs h' =>
    rw [e] at o
    have o : Out (kc X W) ρ H (RV (kc X W)) (fun c d H' => W c d σ H') (if kvs.length ≤ 15 ∧ (kvs.all fun kv => (keyP kv.1).isSome) = true then .ok (.dct (kvs.foldl (fun acc kv => putP acc kv.1 kv.2) [])) h' else .no) Q := o
    obtain ⟨⟨c1, c2⟩, o⟩ := out_if o
    have nq := p.fresh hq
    refine tPairs_of (p.hide hq _) (rl.kp (Kp.hide hq _)) ?_
    rw [e]
    intro ρ' H2 ps x p2 rps
    obtain ⟨cs, e1, e2, f⟩ := RVp.keys rps c2
    have ncq : q ∉ (ρ.hide q).c := fun z => nq (.inl z)
    have hv : H2 q = some (.dK []) := x.old q _ ncq (.inl (by rw [show (ρ.hide q).hid = q :: ρ.hid from rfl]; exact List.mem_cons_self)) upd_same
    have nc' : q ∉ ρ'.c := by
      obtain ⟨m, m1, m2⟩ := x.pre
      intro z
      rw [m1] at z
      rcases List.mem_append.mp z with z | z
      · exact ncq z
      · exact (m2 q z).1 (.inr List.mem_cons_self)
    refine ⟨hv, cs, e1, by rw [e2]; exact c1, ?_⟩
    have hh : ρ'.hid = q :: ρ.hid := x.hid
    obtain ⟨c', hid'⟩ := ρ'
    cases hh
    have k2 : Kp ⟨c', q :: ρ.hid⟩ H2 ⟨c', ρ.hid⟩ (upd H2 q (.dK (mergeK [] cs))) := (Kp.hid_upd List.mem_cons_self _).trans Kp.out
    refine o ⟨c', ρ.hid⟩ _ (.ref q) ⟨?_, rfl, fun b u hb st hu => ?_, fun b u hb hu => ?_⟩ (p2.hid_upd List.mem_cons_self nc' _).out ⟨q, _, rfl, ⟨fun z => z.elim nc' fun z => nq (.inr z), .inl upd_same⟩, f k2 rfl⟩
    · obtain ⟨m, m1, m2⟩ := x.pre
      refine ⟨m, m1, fun b hb => ⟨fun z => (m2 b hb).1 (z.elim .inl fun z => .inr (List.mem_cons_of_mem _ z)), ?_⟩⟩
      have z := (m2 b hb).2
      rwa [upd_ne (fun z => (m2 b hb).1 (.inr (by rw [z]; exact List.mem_cons_self)))] at z
    · rw [upd_ne (ne_of_none hu hq)]
      exact x.old b u hb (st.imp (fun z => List.mem_cons_of_mem _ z) id) (by rw [upd_ne (ne_of_none hu hq)]; exact hu)
    · rw [upd_ne (ne_of_none hu hq)]
      exact x.lok b u hb (by rw [upd_ne (ne_of_none hu hq)]; exact hu)
end
end Wg

namespace Wg
open PySem PySem.Spec PyProof.Rows L2 SlX
theorem foldRep (z : List Nat) : ∀ (m : Nat) (acc : List Nat), List.foldl (fun x1 x2 => x1 ++ x2) acc.toArray (List.replicate m z.toArray) = (acc ++ (List.replicate m z).flatten).toArray
  | 0, acc => by simp
  | m + 1, acc => by
    rw [List.replicate_succ, List.foldl_cons, List.append_toArray, foldRep z m, List.replicate_succ, List.flatten_cons, List.append_assoc]
section
variable {K : KC} {ρ : Pl} {H : Hp} {h : Store} {X : Cx} {W : WQ} {pos : Pos} {a b : Expr} {ma mb : M PV}
/-- a text some times -/
noncomputable def rMulS : R2 := fun x y H Q => ∃ (z : List Nat) (k : Int), x = strV z ∧ y = .int k ∧ 2 ≤ k ∧ k ≤ 1000 ∧ z.length ≤ 1000 ∧ z ≠ [] ∧ Q (strV (List.replicate k.toNat z).flatten) H
theorem op_mulS : OpR X (binaryOp .Mult) rMulS := by
  intro pins s σ H x y v u Q I rx ry h
  obtain ⟨z, k, rfl, rfl, h1, h2, h3, h4, q⟩ := h
  obtain ⟨t, rfl⟩ := rx
  obtain ⟨t', rfl⟩ := ry
  have hz : (⟨z.toArray⟩ : Str).length = z.length := by simp [Str.length]
  have h5 : z.length ≠ 0 := fun e => h4 (List.length_eq_zero_iff.mp e)
  have n1 : ¬ k < 1 := by omega
  have n2 : (k == 1 || (⟨z.toArray⟩ : Str).length == 0) = false := by
    rw [hz]
    simp only [Bool.or_eq_false_iff, beq_eq_false_iff_ne]
    exact ⟨by omega, h5⟩
  refine PySem.P.mul_str (by
      have a1 : ¬ k < -(2 ^ 63 : Int) := by omega
      have a2 : ¬ k ≥ 2 ^ 63 := by omega
      rw [decide_eq_false a1, decide_eq_false a2]; rfl) (fun _ _ => ?_) (fun _ _ => ?_) ?_
  · rw [hz]
    have : (1000 : Int) ≤ (2 ^ 63 - 1) / k := by
      rw [Int.le_ediv_iff_mul_le (by omega)]
      omega
    omega
  · rw [hz]
    have : z.length * k.toNat ≤ 1000 * 1000 := Nat.mul_le_mul h3 (by omega)
    refine decide_eq_false ?_
    have : (sizeLine : Nat) = 16777216 := by decide
    omega
  · rw [if_neg n1, if_neg (by rw [n2]; exact Bool.false_ne_true)]
    have e := foldRep z k.toNat []
    rw [List.nil_append] at e
    show (Made.str ⟨(List.replicate k.toNat z.toArray).foldl (· ++ ·) #[]⟩).post _ s
    have e' : List.foldl (fun x1 x2 => x1 ++ x2) (#[] : Array Nat) (List.replicate k.toNat z.toArray) = ((List.replicate k.toNat z).flatten).toArray := e
    rw [e']
    have hl : (List.replicate k.toNat z).flatten.length ≤ 1000000 := by
      rw [List.length_flatten, List.map_replicate, List.sum_replicate_nat]
      have : k.toNat * z.length ≤ 1000 * 1000 := Nat.mul_le_mul (by omega) h3
      omega
    exact ⟨by show _ ≤ 16777216; simp only [Str.length, List.size_toArray]; omega, .str _, H, I.tok _, ⟨_, rfl⟩, q⟩
noncomputable def fMulA (x y : PV) (h : Store) : R PV := match x, y with
  | .str z, .int k => if 2 ≤ k ∧ k ≤ 1000 ∧ z.length ≤ 1000 ∧ z ≠ [] then .ok (.str (List.replicate k.toNat z).flatten) h else .no
  | _, _ => fMul x y h
theorem ox_mulA : OpX X W fMulA (fun x y H Q => rMulA x y H Q ∨ rMulS x y H Q) := by
  intro ρ h σ H x y v w Q p rx ry o
  unfold fMulA at o
  split at o
  next z k =>
    cases rx; cases ry
    obtain ⟨c, o⟩ := out_if o
    exact .inr ⟨z, k, rfl, rfl, c.1, c.2.1, c.2.2.1, c.2.2.2, o.ok p rfl⟩
  next => exact .inl (ox_mul ρ h σ H x y v w Q p rx ry o)
theorem xe_mulA (ha : XE X W a ma) (hb : XE X W b mb) : XE X W (.BinOp a .Mult b pos) (mBin fMulA ma mb) := xe_bin (op_mulA.or op_mulS) ox_mulA ha hb
theorem xe_gInt {x : Str} {i : Int} {t : Tok} (hm : X.mg x = some (.int i t)) (hg : Gl X x := by rfl) (hd : (x == ("__debug__" : Str)) = false := by decide) : XE X W (.Name x pos) (mC (.int i)) := xe_glob (pe_glob (v := .int i) hg hm ⟨t, rfl⟩ hd) fun _ _ _ _ => rfl
theorem xe_gStr {x : Str} {z : List Nat} {t : Tok} (hm : X.mg x = some (.str ⟨z.toArray⟩ t)) (hg : Gl X x := by rfl) (hd : (x == ("__debug__" : Str)) = false := by decide) : XE X W (.Name x pos) (mC (.str z)) := xe_glob (pe_glob (v := strV z) hg hm ⟨t, rfl⟩ hd) fun _ _ _ _ => rfl
end
end Wg

namespace Wg
open PySem PySem.Spec PyProof.Rows L2 SlX
theorem rvs_ints {K : KC} {ρ : Pl} {H : Hp} : ∀ ns : List Int, RVs K ρ H (ns.map .int) (ns.map V.int)
  | [] => rfl
  | n :: ns => ⟨.int n, _, rfl, rfl, rvs_ints ns⟩
theorem cx_none {P : Program} {w : World} {H : Hp} {s s' : Shared} {e : Value} (z : L2.CX P w [] H s (fun _ _ _ => False) e s') : False := by
  obtain ⟨_, _, _, _, _, _, _, _, _, _, _, _, z⟩ := z
  exact z
end Wg

namespace Wg
open PySem
/-! ### reasoning about what the functions tell -/
noncomputable def Ok {α : Type} (r : R α) (Q : α → Store → Prop) : Prop := ∃ a h, r = .ok a h ∧ Q a h
section
variable {α β : Type}
@[simp] theorem Ok_ok (a : α) (h : Store) (Q : α → Store → Prop) : Ok (.ok a h) Q = Q a h := propext ⟨fun ⟨_, _, e, q⟩ => by cases e; exact q, fun q => ⟨a, h, rfl, q⟩⟩
@[simp] theorem Ok_no (Q : α → Store → Prop) : Ok (.no : R α) Q = False := propext ⟨fun ⟨_, _, e, _⟩ => (by cases e), False.elim⟩
@[simp] theorem Ok_exc (e : Ex) (h : Store) (Q : α → Store → Prop) : Ok (.exc e h : R α) Q = False := propext ⟨fun ⟨_, _, e, _⟩ => (by cases e), False.elim⟩
theorem Ok.mono {r : R α} {P Q : α → Store → Prop} (o : Ok r P) (m : ∀ a h, P a h → Q a h) : Ok r Q := let ⟨a, h, e, q⟩ := o; ⟨a, h, e, m a h q⟩
theorem Ok.call {r : R α} {P : α → Store → Prop} {k : α → Store → R β} {Q : β → Store → Prop} (o : Ok r P) (m : ∀ a h, P a h → Ok (k a h) Q) : Ok (r.bind k) Q := by
  obtain ⟨a, h, rfl, q⟩ := o
  exact m a h q
theorem Ok.noX {r : R α} {Q : α → Store → Prop} (o : Ok r Q) : Ok r.noX Q := by
  obtain ⟨a, h, rfl, q⟩ := o
  exact ⟨a, h, rfl, q⟩
theorem Ok.out {r : R α} {Q : α → Store → Prop} (o : Ok r Q) : ∃ a h, r = .ok a h ∧ Q a h := o
theorem Ok.of {r : R α} {a : α} {h : Store} (e : r = .ok a h) {Q : α → Store → Prop} (q : Q a h) : Ok r Q := ⟨a, h, e, q⟩
theorem Ok.ret {a : α} {h : Store} {Q : α → Store → Prop} (q : Q a h) : Ok (.ok a h) Q := ⟨a, h, rfl, q⟩
@[simp] theorem bs_ok (a : α) (h : Store) (l : Lv) (k : α → Store → R Fl) : (R.ok a h).bs l k = k a h := (rfl)
@[simp] theorem bs_exc (e : Ex) (h : Store) (l : Lv) (k : α → Store → R Fl) : (R.exc e h : R α).bs l k = .ok (.ex e l) h := (rfl)
@[simp] theorem noX_ok (a : α) (h : Store) : (R.ok a h).noX = .ok a h := (rfl)
end
/-- a value that is handed over -/
theorem handO_same {n0 : Nat} {x : PV} {h : Store} (e : h.length = n0) : handO n0 x h = .ok x h := if_pos e
@[simp] theorem handO_self {x : PV} {h : Store} : handO h.length x h = .ok x h := if_pos rfl
theorem handO_cut {x y : PV} {h ls : Store} (hl : ls ≠ []) (hb : h.all (belowC h.length) = true) (e : frz (h ++ ls) h.length 40 x = some y) : handO h.length x (h ++ ls) = .ok y h := by
  unfold handO
  have z : ¬ (h ++ ls).length = h.length := by
    have := List.length_pos_iff.mpr hl
    rw [List.length_append]; omega
  rw [if_neg z, List.take_left, if_pos hb, e]
/-- of a def -/
theorem Ok.def {np n : Nat} {body : MS} {args : List PV} {h : Store} {Q : PV → Store → Prop} (hl : args.length = np)
    (o : Ok (body (initL n args) h) fun f h' => match f with
      | .rt x => Ok (handO h.length x h') Q
      | .nx _ => Ok (handO h.length .non h') Q
      | _ => False) : Ok (runDef np n body args h) Q := by
  unfold runDef
  rw [if_pos hl]
  obtain ⟨f, h', e, o⟩ := o
  rw [e]
  cases f with
  | rt x => exact o
  | nx l => exact o
  | bk l => exact o.elim
  | ct l => exact o.elim
  | ex e l => exact o.elim
theorem Ok.defN {np n : Nat} {body : MS} {args : List PV} {h : Store} {Q : PV → Store → Prop} (hl : args.length = np)
    (o : Ok (body (initL n args) h) fun f h' => match f with
      | .rt x => Q x h'
      | .nx _ => Q .non h'
      | _ => False) : Ok (runDefN np n body args h) Q := by
  unfold runDefN
  rw [if_pos hl]
  obtain ⟨f, h', e, o⟩ := o
  rw [e]
  cases f with
  | rt x => exact ⟨_, _, rfl, o⟩
  | nx l => exact ⟨_, _, rfl, o⟩
  | bk l => exact o.elim
  | ct l => exact o.elim
  | ex e l => exact o.elim
theorem Ok.bs {α : Type} {r : R α} {P : α → Store → Prop} {l : Lv} {k : α → Store → R Fl} {Q : Fl → Store → Prop} (o : Ok r P) (m : ∀ a h, P a h → Ok (k a h) Q) : Ok (r.bs l k) Q := by
  obtain ⟨a, h, rfl, q⟩ := o
  exact m a h q
section
variable {a b c : M PV} {ta tb tc : M Bool} {ms : M (List PV)} {s s1 s2 : MS} {l : Lv} {h : Store} {g : MG} {src : M (List PV)}
@[simp] theorem mVar_at (i : Nat) : mVar i l h = match l[i]? with
  | some (some x) => .ok x h
  | _ => .no := (rfl)
@[simp] theorem mC_at (x : PV) : mC x l h = .ok x h := (rfl)
@[simp] theorem mBin_at (f) : mBin f a b l h = (a l h).bind fun x h1 => (b l h1).bind fun y h2 => f x y h2 := (rfl)
@[simp] theorem mB_at : mB a l h = (a l h).bind fun x h1 => match x with
  | .bl b => .ok b h1
  | _ => .no := (rfl)
@[simp] theorem mAndT_at : mAndT ta tb l h = (ta l h).bind fun c h1 => if c = true then tb l h1 else .ok false h1 := (rfl)
@[simp] theorem mOrT_at : mOrT ta tb l h = (ta l h).bind fun c h1 => if c = true then .ok true h1 else tb l h1 := (rfl)
@[simp] theorem mNotT_at : mNotT ta l h = (ta l h).bind fun c h1 => .ok (!c) h1 := (rfl)
@[simp] theorem mAnd_at : mAnd a b l h = (a l h).bind fun x h1 => match x with
  | .bl c => if c = true then b l h1 else .ok (.bl false) h1
  | _ => .no := (rfl)
@[simp] theorem mOr_at : mOr a b l h = (a l h).bind fun x h1 => match x with
  | .bl c => if c = true then .ok (.bl true) h1 else b l h1
  | _ => .no := (rfl)
@[simp] theorem mNot_at : mNot a l h = (a l h).bind fun x h1 => match x with
  | .bl c => .ok (.bl (!c)) h1
  | _ => .no := (rfl)
@[simp] theorem mIfE_at : mIfE ta a b l h = (ta l h).bind fun k h1 => if k = true then a l h1 else b l h1 := (rfl)
@[simp] theorem mChain_at (f g) : mChain f g a b c l h = (a l h).bind fun x h1 => (b l h1).bind fun y h2 => (f x y h2).bind fun k h3 => match k with
  | .bl k => if k = true then (c l h3).bind fun z h4 => g y z h4 else .ok (.bl false) h3
  | _ => .no := (rfl)
@[simp] theorem mNil_at : mNil l h = .ok [] h := (rfl)
@[simp] theorem mCons_at : mCons a ms l h = (a l h).bind fun x h1 => (ms l h1).bind fun xs h2 => .ok (x :: xs) h2 := (rfl)
@[simp] theorem mTup_at : mTup ms l h = (ms l h).bind fun xs h1 => if xs.length ≤ sizeLine then .ok (.tup xs) h1 else .no := (rfl)
@[simp] theorem mLst_at : mLst ms l h = (ms l h).bind fun xs h1 => if xs.length ≤ sizeLine then .ok (.lst xs) h1 else .no := (rfl)
@[simp] theorem mLstN_at : mLstN ms l h = (ms l h).bind fun xs h1 => if xs.length ≤ sizeLine then .ok (.ref h1.length) (h1 ++ [.lst xs]) else .no := (rfl)
@[simp] theorem mCall_at (f : FN) : mCall f ms l h = (ms l h).bind f := (rfl)
@[simp] theorem mUn_at (f) : mUn f a l h = (a l h).bind f := (rfl)
@[simp] theorem mMeth_at (T f) : mMeth T f a ms l h = (a l h).bind fun x h1 => if tyM h1 T x = true then (ms l h1).bind fun xs h2 => f x xs h2 else .no := (rfl)
@[simp] theorem mDone_at : mDone l h = .ok (.nx l) h := (rfl)
@[simp] theorem mSeq_at : mSeq s1 s2 l h = (s1 l h).bind fun f h1 => f.on h1 s2 := (rfl)
@[simp] theorem on_nx (h : Store) (k : Lv → Store → R Fl) : (Fl.nx l).on h k = k l h := (rfl)
@[simp] theorem on_rt (x : PV) (h : Store) (k : Lv → Store → R Fl) : (Fl.rt x).on h k = .ok (.rt x) h := (rfl)
@[simp] theorem on_bk (h : Store) (k : Lv → Store → R Fl) : (Fl.bk l).on h k = .ok (.bk l) h := (rfl)
@[simp] theorem on_ct (h : Store) (k : Lv → Store → R Fl) : (Fl.ct l).on h k = .ok (.ct l) h := (rfl)
@[simp] theorem mRet_at : mRet a l h = (a l h).bs l fun x h1 => .ok (.rt x) h1 := (rfl)
@[simp] theorem mRetN_at : mRetN l h = .ok (.rt .non) h := (rfl)
@[simp] theorem mDrop_at : mDrop a l h = (a l h).bs l fun _ h1 => .ok (.nx l) h1 := (rfl)
@[simp] theorem mBreak_at : mBreak l h = .ok (.bk l) h := (rfl)
@[simp] theorem mCont_at : mCont l h = .ok (.ct l) h := (rfl)
@[simp] theorem mIf_at : mIf tc s1 s2 l h = (tc l h).bs l fun k h1 => if k = true then s1 l h1 else s2 l h1 := (rfl)
@[simp] theorem gVar_at (i : Nat) (x : PV) : gVar i x l h = .ok (l.set i (some x)) h := (rfl)
@[simp] theorem mSet_at (i : Nat) : mSet i a l h = (a l h).bs l fun x h1 => .ok (.nx (l.set i (some x))) h1 := (rfl)
@[simp] theorem gSubX_at (f) (z : PV) : gSubX f a b z l h = (a l h).bind fun x h1 => (b l h1).bind fun y h2 => (f x y z h2).bind fun _ h3 => .ok l h3 := (rfl)
@[simp] theorem mAsg_at : mAsg a g l h = (a l h).bs l fun x h1 => (g x l h1).noX.bind fun l2 h2 => .ok (.nx l2) h2 := (rfl)
@[simp] theorem mYes_at : mYes l h = .ok true h := (rfl)
@[simp] theorem mItC_at (f) : mItC f ms l h = (ms l h).bind f := (rfl)
@[simp] theorem mItS_at : mItS a l h = (a l h).bind fun x h1 => match x with
  | .str z => .ok (z.map fun c => .str [c]) h1
  | _ => .no := (rfl)
@[simp] theorem mFor_at : mFor src g s l h = (src l h).bs l fun ys h1 => forL g s ys l h1 := (rfl)
@[simp] theorem mLc_at (own : List Nat) (t : M Bool) (e : M PV) : mLc src own g t e l h = (src l h).bind fun ys h1 =>
  if ys.length ≤ sizeLine then (lcL g t e ys (wipeL l own) h1).bind fun zs h2 => .ok (.lst zs) h2 else .no := (rfl)
@[simp] theorem mLcN_at (own : List Nat) (t : M Bool) (e : M PV) : mLcN src own g t e l h = (src l h).bind fun ys h1 =>
  if ys.length ≤ sizeLine then (lcL g t e ys (wipeL l own) h1).bind fun zs h2 => .ok (.ref h2.length) (h2 ++ [.lst zs]) else .no := (rfl)
@[simp] theorem wipeL_nil : wipeL l [] = l := (rfl)
@[simp] theorem wipeL_cons (v : Nat) (vs : List Nat) : wipeL l (v :: vs) = (wipeL l vs).set v none := (rfl)
/-- a for loop by an invariant -/
theorem Ok.forL {body : MS} {Q : Fl → Store → Prop} (Inv : Lv → Store → Prop) (hQ : ∀ l h, Inv l h → Q (.nx l) h) : ∀ {ys : List PV} {l : Lv} {h : Store}, Inv l h →
    (∀ y ∈ ys, ∀ l h, Inv l h → Ok (g y l h) fun l1 h1 => Ok (body l1 h1) fun f h2 => match f with
      | .nx l2 => Inv l2 h2
      | .ct l2 => Inv l2 h2
      | .bk l2 => Q (.nx l2) h2
      | .rt x => Q (.rt x) h2
      | .ex e l2 => Q (.ex e l2) h2) → Ok (forL g body ys l h) Q
  | [], l, h, i, _ => ⟨_, _, rfl, hQ l h i⟩
  | y :: ys, l, h, i, st => by
    refine Ok.call (st y List.mem_cons_self l h i).noX fun l1 h1 o => Ok.call o fun f h2 o2 => ?_
    cases f with
    | nx l2 => exact Ok.forL Inv hQ o2 fun y hy => st y (List.mem_cons_of_mem _ hy)
    | ct l2 => exact Ok.forL Inv hQ o2 fun y hy => st y (List.mem_cons_of_mem _ hy)
    | bk l2 => exact ⟨_, _, rfl, o2⟩
    | rt x => exact ⟨_, _, rfl, o2⟩
    | ex e l2 => exact ⟨_, _, rfl, o2⟩
/-- a comprehension that changes the store: what holds of each element -/
theorem Ok.lcL {t : M Bool} {e : M PV} (Inv : Store → Prop) (P : PV → Prop) : ∀ {ys : List PV} {l : Lv} {h : Store}, Inv h →
    (∀ y ∈ ys, ∀ h, Inv h → Ok (g y l h) fun l1 h1 => Ok (t l1 h1) fun b h2 => if b = true then Ok (e l1 h2) fun z h3 => P z ∧ Inv h3 else Inv h2) →
    Ok (lcL g t e ys l h) fun zs h' => Inv h' ∧ (∀ z ∈ zs, P z) ∧ zs.length ≤ ys.length
  | [], l, h, i, _ => ⟨_, _, rfl, i, (fun z hz => absurd hz List.not_mem_nil), Nat.le_refl _⟩
  | y :: ys, l, h, i, st => by
    refine Ok.call (st y List.mem_cons_self h i).noX fun l1 h1 o => Ok.call o.noX fun b h2 o2 => ?_
    cases b with
    | false => exact (Ok.lcL Inv P o2 fun y hy => st y (List.mem_cons_of_mem _ hy)).mono fun zs h' q => ⟨q.1, q.2.1, Nat.le_succ_of_le q.2.2⟩
    | true =>
      refine Ok.call (Ok.noX o2) fun z h3 o3 => Ok.call (Ok.lcL Inv P o3.2 fun y hy => st y (List.mem_cons_of_mem _ hy)) fun zs h4 q => ⟨_, _, rfl, q.1, fun w hw => ?_, Nat.succ_le_succ q.2.2⟩
      rcases List.mem_cons.mp hw with z' | z'
      · rw [z']; exact o3.1
      · exact q.2.1 w z'
end
/-! ### figures of numbers -/
open PySem.NumText in
/-! ### the draws -/
/-- the dice of a law stand at a -/
noncomputable def Dice (h : Store) (a : Nat) : Prop := ∃ l b c : Int, h[a]? = some (.lst [.int l, .int b, .int c]) ∧ 0 ≤ l
/-- the dice at a have been rolled, and nothing else has been done -/
noncomputable def Roll (a : Nat) (h h' : Store) : Prop := Dice h a ∧ ∃ l b c : Int, 0 ≤ l ∧ h' = h.set a (.lst [.int l, .int b, .int c])
theorem Dice.lt {h : Store} {a : Nat} (d : Dice h a) : a < h.length := by
  obtain ⟨l, b, c, e, _⟩ := d
  exact (List.getElem?_eq_some_iff.mp e).1
theorem Dice.self {h : Store} {a : Nat} (d : Dice h a) : Roll a h h := by
  refine ⟨d, ?_⟩
  obtain ⟨l, b, c, e, hl⟩ := d
  refine ⟨l, b, c, hl, ?_⟩
  obtain ⟨h1, e⟩ := List.getElem?_eq_some_iff.mp e
  rw [← e, List.set_getElem_self]
theorem Roll.dice {h h' : Store} {a : Nat} (r : Roll a h h') : Dice h' a := by
  obtain ⟨d, l, b, c, hl, rfl⟩ := r
  exact ⟨l, b, c, by simp [d.lt], hl⟩
theorem Roll.len {h h' : Store} {a : Nat} (r : Roll a h h') : h'.length = h.length := by
  obtain ⟨d, l, b, c, hl, rfl⟩ := r
  simp
theorem Roll.trans {h h1 h2 : Store} {a : Nat} (r : Roll a h h1) (s : Roll a h1 h2) : Roll a h h2 := by
  obtain ⟨d, l, b, c, hl, rfl⟩ := r
  obtain ⟨_, l', b', c', hl', rfl⟩ := s
  exact ⟨d, l', b', c', hl', by simp⟩
theorem Roll.all {h h' : Store} {a n : Nat} (r : Roll a h h') (c : h.all (belowC n) = true) : h'.all (belowC n) = true := by
  obtain ⟨d, l, b, c', hl, rfl⟩ := r
  rw [List.all_eq_true] at c ⊢
  intro x hx
  rcases List.mem_or_eq_of_mem_set hx with q | q
  · exact c x q
  · rw [q]; rfl
/-- the dice within a store that has grown -/
theorem Dice.app {h ls : Store} {a : Nat} (d : Dice h a) : Dice (h ++ ls) a := by
  have := d.lt
  obtain ⟨l, b, c, e, hl⟩ := d
  exact ⟨l, b, c, by rw [List.getElem?_append_left this]; exact e, hl⟩
theorem Roll.app {h ls h' : Store} {a : Nat} (d : Dice h a) (r : Roll a (h ++ ls) h') : ∃ h1, h' = h1 ++ ls ∧ Roll a h h1 := by
  obtain ⟨_, l, b, c, hl, rfl⟩ := r
  exact ⟨_, List.set_append_left _ _ d.lt, d, l, b, c, hl, rfl⟩
/-- a store of whose cells none names a place that is not there -/
noncomputable def Closed (h : Store) : Prop := h.all (belowC h.length) = true
theorem Roll.closed {h h' : Store} {a : Nat} (r : Roll a h h') (c : Closed h) : Closed h' := by
  unfold Closed
  rw [r.len]
  exact r.all c
end Wg

namespace Wg
open PySem
/-! ### what the operators tell, as rules for simp -/
section
variable {h : Store} {i j : Int} {x y : List Nat} {xs ys : List PV} {b c : Bool} {a : Nat}
@[simp] theorem fAdd_int : fAdd (.int i) (.int j) h = .ok (.int (i + j)) h := (rfl)
@[simp] theorem fSub_int : fSub (.int i) (.int j) h = .ok (.int (i - j)) h := (rfl)
@[simp] theorem fMulA_l (k : -(2 ^ 64) < i ∧ i < 2 ^ 64) : fMulA (.int i) (.int j) h = .ok (.int (i * j)) h := by
  show (if _ then _ else _) = _
  rw [if_pos]
  simp only [Bool.or_eq_true, Bool.and_eq_true, decide_eq_true_eq]
  exact .inl (.inl k)
@[simp] theorem fMulA_r (k : -(2 ^ 64) < j ∧ j < 2 ^ 64) : fMulA (.int i) (.int j) h = .ok (.int (i * j)) h := by
  show (if _ then _ else _) = _
  rw [if_pos]
  simp only [Bool.or_eq_true, Bool.and_eq_true, decide_eq_true_eq]
  exact .inl (.inr k)
@[simp] theorem fMulA_60 : fMulA (.int 1000000000000000000000000000000000000000000000000000000000000) (.int 1000000000000000000000000000000000000000000000000000000000000) h = .ok (.int (10 ^ 60 * 10 ^ 60)) h := by
  unfold fMulA fMul fInt
  exact if_pos (by decide +kernel)
@[simp] theorem fDiv_int (k : 0 < j) (k2 : j < 2 ^ 200) : fDiv (.int i) (.int j) h = .ok (.int (i / j)) h := by
  show (if _ then _ else _) = _
  rw [if_pos]
  rw [Bool.and_eq_true, decide_eq_true_eq, decide_eq_true_eq]
  exact ⟨k, Int.lt_of_lt_of_le k2 (by decide +kernel)⟩
@[simp] theorem fMod_int (k : 0 < j) : fMod (.int i) (.int j) h = .ok (.int (i % j)) h := by
  show (if _ then _ else _) = _
  rw [if_pos (by rw [decide_eq_true_eq]; exact k)]
@[simp] theorem fPow_int (k1 : 0 ≤ j) (k2 : j ≤ 1000000) (k3 : i.natAbs < 2 ^ 64) : fPow (.int i) (.int j) h = .ok (.int (i ^ j.toNat)) h := by
  show (if _ then _ else _) = _
  rw [if_pos]
  simp only [Bool.and_eq_true, decide_eq_true_eq]
  exact ⟨⟨k1, k2⟩, k3⟩
@[simp] theorem fNeg_int : fNeg (.int i) h = .ok (.int (-i)) h := (rfl)
@[simp] theorem fLt_int : fLt (.int i) (.int j) h = .ok (.bl (decide (i < j))) h := (rfl)
@[simp] theorem fLe_int : fLe (.int i) (.int j) h = .ok (.bl (decide (i ≤ j))) h := (rfl)
@[simp] theorem fGt_int : fGt (.int i) (.int j) h = .ok (.bl (decide (j < i))) h := (rfl)
@[simp] theorem fGe_int : fGe (.int i) (.int j) h = .ok (.bl (decide (j ≤ i))) h := (rfl)
@[simp] theorem fLt_str : fLt (.str x) (.str y) h = .ok (.bl (decide (x < y))) h := (rfl)
@[simp] theorem fLe_str : fLe (.str x) (.str y) h = .ok (.bl (!decide (y < x))) h := (rfl)
@[simp] theorem fGt_str : fGt (.str x) (.str y) h = .ok (.bl (decide (y < x))) h := (rfl)
@[simp] theorem fGe_str : fGe (.str x) (.str y) h = .ok (.bl (!decide (x < y))) h := (rfl)
@[simp] theorem fIntOf_int : fIntOf [.int i] h = .ok (.int i) h := (rfl)
@[simp] theorem fIntOf_bl : fIntOf [.bl b] h = .ok (.int (if b = true then 1 else 0)) h := (rfl)
@[simp] theorem fAbs_int : fAbs [.int i] h = .ok (.int (if i < 0 then -i else i)) h := (rfl)
@[simp] theorem fMax2_int : fMax2 [.int i, .int j] h = .ok (.int (if j > i then j else i)) h := (rfl)
@[simp] theorem fMin2_int : fMin2 [.int i, .int j] h = .ok (.int (if j < i then j else i)) h := (rfl)
@[simp] theorem fStrOf_str : fStrOf [.str x] h = .ok (.str x) h := (rfl)
@[simp] theorem fLen_str (k : x.length ≤ 1000000) : fLen [.str x] h = .ok (.int x.length) h := if_pos (show _ ≤ 16777216 by omega)
@[simp] theorem fLen_tup : fLen [.tup xs] h = .ok (.int xs.length) h := (rfl)
@[simp] theorem fLen_lst : fLen [.lst xs] h = .ok (.int xs.length) h := (rfl)
@[simp] theorem fLen_scr : fLen [.scr xs] h = .ok (.int xs.length) h := (rfl)
@[simp] theorem fTuple_tup : fTuple [.tup xs] h = .ok (.tup xs) h := (rfl)
@[simp] theorem fTuple_lst : fTuple [.lst xs] h = .ok (.tup xs) h := (rfl)
@[simp] theorem fTuple_scr : fTuple [.scr xs] h = .ok (.tup xs) h := (rfl)
@[simp] theorem fList_tup : fList [.tup xs] h = .ok (.lst xs) h := (rfl)
@[simp] theorem fList_lst : fList [.lst xs] h = .ok (.lst xs) h := (rfl)
@[simp] theorem fList_scr : fList [.scr xs] h = .ok (.lst xs) h := (rfl)
/-- places -/
theorem fIx_seq {x : PV} {zs : List PV} {z : PV} (hs : ∀ w, x ≠ .str w) (k : seqRd h x = some zs) (k2 : L2.atI zs i = some z) : fIx x (.int i) h = .ok z h := by
  cases x with
  | str w => exact absurd rfl (hs w)
  | _ => simp only [fIx, k, k2]
theorem atI_nat {α : Type} {zs : List α} {n : Nat} : L2.atI zs (n : Int) = zs[n]? := by
  unfold L2.atI L2.ixN
  by_cases k : n < zs.length
  · simp [k]
  · simp [k]
theorem fIx_lst {n : Nat} {z : PV} (k : xs[n]? = some z) : fIx (.lst xs) (.int (n : Int)) h = .ok z h := fIx_seq (by intro w e; cases e) rfl (by rw [atI_nat]; exact k)
theorem fIx_scr {n : Nat} {z : PV} (k : xs[n]? = some z) : fIx (.scr xs) (.int (n : Int)) h = .ok z h := fIx_seq (by intro w e; cases e) rfl (by rw [atI_nat]; exact k)
theorem fIx_ref {n : Nat} {z : PV} (k0 : h[a]? = some (.lst xs)) (k : xs[n]? = some z) : fIx (.ref a) (.int (n : Int)) h = .ok z h :=
  fIx_seq (by intro w e; cases e) (by show (match h[a]? with | some (.lst xs) => some xs | _ => none) = _; rw [k0]) (by rw [atI_nat]; exact k)
theorem fSetL_ref {n : Nat} {z : PV} (k0 : h[a]? = some (.lst xs)) (k : n < xs.length) : fSetL (.ref a) (.int (n : Int)) z h = .ok () (h.set a (.lst (xs.set n z))) := by
  unfold fSetL cellL
  simp only [k0]
  have : L2.ixN xs.length (n : Int) = some n := by
    unfold L2.ixN
    simp [k]
  rw [this]
@[simp] theorem tyM_str : tyM h "str" (.str x) = true := (rfl)
@[simp] theorem tyM_lst : tyM h "list" (.lst xs) = true := (rfl)
@[simp] theorem fRange1_int (k : -1000000000 ≤ j ∧ j ≤ 1000000000) : fRange1 [.int j] h = .ok (runI 0 j.toNat) h := if_pos (by omega)
@[simp] theorem fRange2_int (k : -1000000000 ≤ i ∧ i ≤ 1000000000 ∧ -1000000000 ≤ j ∧ j ≤ 1000000000) : fRange2 [.int i, .int j] h = .ok (runI i (j - i).toNat) h := if_pos (by omega)
theorem mem_runI {lo : Int} {n : Nat} {y : PV} (k : y ∈ runI lo n) : ∃ m : Nat, m < n ∧ y = .int (lo + m) := by
  obtain ⟨m, hm, e⟩ := List.mem_map.mp k
  exact ⟨m, List.mem_range.mp hm, e.symm⟩
@[simp] theorem runI_len {lo : Int} {n : Nat} : (runI lo n).length = n := by unfold runI; simp
@[simp] theorem fInStr_str {c : Nat} : fInStr (.str [c]) (.str y) h = .ok (.bl (decide (c ∈ y))) h := (rfl)
end
end Wg

namespace Wg
open PySem
noncomputable def s__law_dice_0 : MS := mSet 2 (mIfE (mB (mBin fLt (mVar 1) (mCall fLen (mCons (mVar 0) (mNil))))) (mCall fIntOf (mCons (mBin fIx (mVar 0) (mVar 1)) (mNil))) (mBin fAdd (mBin fMulA (mC (.int 53)) (mVar 1)) (mC (.int 17))))
noncomputable def s__law_dice_1 : MS := mSet 3 (mBin fMod (mCall fMax2 (mCons (mC (.int 0)) (mCons (mBin fSub (mCall fAbs (mCons (mVar 2) (mNil))) (mBin fPow (mC (.int 10)) (mC (.int 16)))) (mNil)))) (mBin fMulA (mBin fPow (mC (.int 10)) (mC (.int 60))) (mBin fPow (mC (.int 10)) (mC (.int 60)))))
noncomputable def s__law_dice_2 : MS := mRet (mLstN (mCons (mVar 3) (mCons (mBin fAdd (mBin fAdd (mBin fAdd (mBin fMulA (mBin fMod (mCall fAbs (mCons (mVar 2) (mNil))) (mC (.int 1152921504606846883))) (mC (.int 43))) (mBin fMulA (mC (.int 701)) (mVar 1))) (mBin fMulA (mC (.int 29)) (mCall fIntOf (mCons (mBin fLt (mVar 2) (mC (.int 0))) (mNil))))) (mC (.int 11))) (mCons (mC (.int 0)) (mNil)))))
noncomputable def m__law_dice : MS := mSeq s__law_dice_0 (mSeq s__law_dice_1 (s__law_dice_2))
noncomputable def f__law_dice : FN := runDefN 2 4 m__law_dice
noncomputable def s__law_roll_0 : MS := mIf (mB (mBin fGt (mBin fIx (mVar 0) (mC (.int 0))) (mC (.int 0)))) (mSeq (mSet 2 (mBin fMod (mCall fIntOf (mCons (mBin fIx (mVar 0) (mC (.int 0))) (mNil))) (mVar 1))) (mSeq (mAsg (mBin fDiv (mBin fIx (mVar 0) (mC (.int 0))) (mVar 1)) (gSubX fSetL (mVar 0) (mC (.int 0)))) (mRet (mVar 2)))) (mDone)
noncomputable def s__law_roll_1 : MS := mAsg (mBin fAdd (mBin fIx (mVar 0) (mC (.int 2))) (mC (.int 1))) (gSubX fSetL (mVar 0) (mC (.int 2)))
noncomputable def s__law_roll_2 : MS := mSet 3 (mBin fMod (mCall fIntOf (mCons (mBin fAdd (mBin fIx (mVar 0) (mC (.int 1))) (mBin fMulA (mC (.int 49979687)) (mBin fIx (mVar 0) (mC (.int 2))))) (mNil))) (mC (.int 2305843009213693921)))
noncomputable def s__law_roll_3 : MS := mSet 4 (mBin fAdd (mBin fMulA (mBin fMod (mCall fIntOf (mCons (mBin fAdd (mBin fMulA (mVar 3) (mVar 3)) (mBin fMulA (mC (.int 83)) (mBin fIx (mVar 0) (mC (.int 2))))) (mNil))) (mC (.int 2305843009213693907))) (mC (.int 7368787))) (mVar 3))
noncomputable def s__law_roll_4 : MS := mRet (mBin fMod (mCall fIntOf (mCons (mBin fDiv (mVar 4) (mC (.int 65536))) (mNil))) (mVar 1))
noncomputable def m__law_roll : MS := mSeq s__law_roll_0 (mSeq s__law_roll_1 (mSeq s__law_roll_2 (mSeq s__law_roll_3 (s__law_roll_4))))
noncomputable def f__law_roll : FN := runDef 2 5 m__law_roll
noncomputable def s__law_pick_0 : MS := mRet (mBin fIx (mVar 1) (mCall f__law_roll (mCons (mVar 0) (mCons (mCall fLen (mCons (mVar 1) (mNil))) (mNil)))))
noncomputable def m__law_pick : MS := s__law_pick_0
noncomputable def f__law_pick : FN := runDef 2 2 m__law_pick
/-- a new dice -/
theorem ok_dice {ns : List Int} {i : Nat} {h : Store} (hi : i < 1000000) : Ok (f__law_dice [.scr (ns.map .int), .int (i : Int)] h) fun v h' => v = .ref h.length ∧ ∃ l b c : Int, h' = h ++ [.lst [.int l, .int b, .int c]] ∧ 0 ≤ l := by
  have key : ∀ (cell : Int) (h : Store), Ok ((mSeq s__law_dice_1 s__law_dice_2) [some (.scr (ns.map .int)), some (.int i), some (.int cell), none] h) fun f h' => match f with
      | .rt x => x = .ref h.length ∧ ∃ l b c : Int, h' = h ++ [.lst [.int l, .int b, .int c]] ∧ 0 ≤ l
      | .nx _ => False
      | _ => False := by
    intro cell h
    simp [s__law_dice_1, s__law_dice_2, sizeLine]
    exact Int.emod_nonneg _ (by decide)
  refine Ok.defN rfl ?_
  have e0 : s__law_dice_0 (initL 4 [.scr (ns.map .int), .int (i : Int)]) h = .ok (.nx [some (.scr (ns.map .int)), some (.int i), some (.int (if hk : i < ns.length then ns[i] else 53 * i + 17)), none]) h := by
    by_cases hk : i < ns.length
    · have e1 : fIx (.scr (ns.map .int)) (.int (i : Int)) h = .ok (.int ns[i]) h := fIx_scr (by simp [hk])
      simp [s__law_dice_0, initL, hk, e1]
    · simp [s__law_dice_0, initL, hk]
  have e1 : m__law_dice (initL 4 [.scr (ns.map .int), .int (i : Int)]) h = (mSeq s__law_dice_1 s__law_dice_2) [some (.scr (ns.map .int)), some (.int i), some (.int (if hk : i < ns.length then ns[i] else 53 * i + 17)), none] h := by
    unfold m__law_dice
    rw [mSeq_at, e0]
    rfl
  show Ok (m__law_dice (initL 4 [.scr (ns.map .int), .int (i : Int)]) h) _
  rw [e1]
  exact (key _ h).mono fun f h' q => by
    cases f <;> first | exact q | exact q.elim
/-- a roll -/
theorem ok_roll {a : Nat} {h : Store} {t : Int} (ht : 0 < t) (ht2 : t < 2 ^ 200) (d : Dice h a) : Ok (f__law_roll [.ref a, .int t] h) fun v h' => Roll a h h' ∧ ∃ r : Int, v = .int r ∧ 0 ≤ r ∧ r < t := by
  have dd := d
  obtain ⟨l, b, c, e, hl⟩ := d
  have ha : a < h.length := (List.getElem?_eq_some_iff.mp e).1
  have s0 : ∀ {h : Store} {x y z : PV}, h[a]? = some (.lst [x, y, z]) → fIx (.ref a) (.int 0) h = .ok x h := fun k => fIx_ref (n := 0) k rfl
  have s1 : ∀ {h : Store} {x y z : PV}, h[a]? = some (.lst [x, y, z]) → fIx (.ref a) (.int 1) h = .ok y h := fun k => fIx_ref (n := 1) k rfl
  have s2 : ∀ {h : Store} {x y z : PV}, h[a]? = some (.lst [x, y, z]) → fIx (.ref a) (.int 2) h = .ok z h := fun k => fIx_ref (n := 2) k rfl
  have w0 : ∀ {h : Store} {x y z u : PV}, h[a]? = some (.lst [x, y, z]) → fSetL (.ref a) (.int 0) u h = .ok () (h.set a (.lst [u, y, z])) := fun k => fSetL_ref (n := 0) k (by simp)
  have w2 : ∀ {h : Store} {x y z u : PV}, h[a]? = some (.lst [x, y, z]) → fSetL (.ref a) (.int 2) u h = .ok () (h.set a (.lst [x, y, u])) := fun k => fSetL_ref (n := 2) k (by simp)
  have g : ∀ c : Cell, (h.set a c)[a]? = some c := fun c => by simp [ha]
  refine Ok.def rfl ?_
  by_cases hp : 0 < l
  · simp only [m__law_roll, s__law_roll_0, initL, mSeq_at, mIf_at, mB_at, mBin_at, mVar_at, mC_at, List.map_cons, List.map_nil, List.length_cons, List.length_nil, List.cons_append, List.nil_append, List.getElem?_cons_zero, List.getElem?_cons_succ, R.bind_ok, bs_ok, noX_ok, s0 e, fGt_int, decide_eq_true hp, if_true, mSet_at, mCall_at, mCons_at, mNil_at, fIntOf_int, fMod_int ht, fDiv_int ht ht2, on_nx, mAsg_at, gSubX_at, List.set_cons_zero, List.set_cons_succ, List.replicate, w0 e, mRet_at, on_rt, Ok_ok]
    rw [handO_same (by simp), Ok_ok]
    exact ⟨⟨dd, _, _, _, Int.ediv_nonneg hl (by omega), rfl⟩, _, rfl, Int.emod_nonneg _ (by omega), Int.emod_lt_of_pos _ ht⟩
  · have hp' : decide (0 < l) = false := decide_eq_false hp
    have k1 : (0 : Int) < 2305843009213693921 := by decide
    have k2 : (0 : Int) < 2305843009213693907 := by decide
    have one : ∀ m : Int, -(2 ^ 64) < m % 2305843009213693921 ∧ m % 2305843009213693921 < 2 ^ 64 := fun m => by omega
    simp only [m__law_roll, s__law_roll_0, s__law_roll_1, s__law_roll_2, s__law_roll_3, s__law_roll_4, initL, mSeq_at, mIf_at, mB_at, mBin_at, mVar_at, mC_at, List.map_cons, List.map_nil, List.length_cons, List.length_nil, List.cons_append, List.nil_append, List.getElem?_cons_zero, List.getElem?_cons_succ, R.bind_ok, bs_ok, noX_ok, s0 e, s2 e, fGt_int, hp', Bool.false_eq_true, if_false, mDone_at, mSet_at, mCall_at, mCons_at, mNil_at, fIntOf_int, on_nx, mAsg_at, gSubX_at, List.set_cons_zero, List.set_cons_succ, List.replicate, w2 e, mRet_at, on_rt, fAdd_int, s1 (g _), s2 (g _)]
    simp only [mSeq_at, mBin_at, mVar_at, mC_at, mSet_at, mCall_at, mCons_at, mNil_at, mRet_at, on_rt, fMulA_l (show -(2 ^ 64) < (49979687 : Int) ∧ (49979687 : Int) < 2 ^ 64 by decide), fMulA_l (show -(2 ^ 64) < (83 : Int) ∧ (83 : Int) < 2 ^ 64 by decide), fMulA_r (show -(2 ^ 64) < (7368787 : Int) ∧ (7368787 : Int) < 2 ^ 64 by decide), fMod_int k1, fMod_int k2, R.bind_ok, bs_ok, noX_ok, fAdd_int, on_nx, fMulA_l (one _), List.set_cons_zero, List.set_cons_succ, List.getElem?_cons_zero, List.getElem?_cons_succ, s2 (g _), fIntOf_int,
      fDiv_int (show (0 : Int) < 65536 by decide) (show (65536 : Int) < 2 ^ 200 by decide), fMod_int ht, Ok_ok]
    rw [handO_same (by simp), Ok_ok]
    exact ⟨⟨dd, _, _, _, hl, rfl⟩, _, rfl, Int.emod_nonneg _ (by omega), Int.emod_lt_of_pos _ ht⟩
/-- a pick out of a list -/
theorem ok_pick {a : Nat} {h : Store} {xs : List PV} (hx : xs ≠ []) (hx2 : xs.length < 1000000) (d : Dice h a) : Ok (f__law_pick [.ref a, .lst xs] h) fun v h' => Roll a h h' ∧ v ∈ xs := by
  have h0 : 0 < xs.length := List.length_pos_iff.mpr hx
  refine Ok.def rfl ?_
  simp only [m__law_pick, s__law_pick_0, initL, mRet_at, mBin_at, mVar_at, mCall_at, mCons_at, mNil_at, List.map_cons, List.map_nil, List.length_cons, List.length_nil, List.cons_append, List.nil_append, List.getElem?_cons_zero, List.getElem?_cons_succ, R.bind_ok, bs_ok, noX_ok, fLen_lst]
  refine Ok.bs (P := fun v h' => Roll a h h' ∧ v ∈ xs) (Ok.call (ok_roll (by omega) (by omega) d) ?_) fun v h' q => by rw [Ok_ok]; show Ok (handO _ _ _) _; rw [handO_same q.1.len, Ok_ok]; exact q
  rintro v h' ⟨d', r, rfl, r0, r1⟩
  obtain ⟨n, rfl⟩ := Int.eq_ofNat_of_zero_le r0
  have hn : n < xs.length := by omega
  rw [fIx_lst (show xs[n]? = some xs[n] by simp [hn])]
  rw [Ok_ok]
  exact ⟨d', List.getElem_mem hn⟩
end Wg

namespace Wg
open PySem
/-! ### == of data -/
mutual
noncomputable def eqPV : PV → PV → Bool
  | .non, .non => true
  | .bl a, .bl b => a == b
  | .bl a, .int j => (if a then 1 else 0) == j
  | .int i, .bl b => i == (if b then 1 else 0)
  | .int i, .int j => i == j
  | .str x, .str y => decide (x = y)
  | .lst xs, .lst ys => eqPVs xs ys
  | .lst xs, .scr ys => eqPVs xs ys
  | .scr xs, .lst ys => eqPVs xs ys
  | .scr xs, .scr ys => eqPVs xs ys
  | .tup xs, .tup ys => eqPVs xs ys
  | _, _ => false
noncomputable def eqPVs : List PV → List PV → Bool
  | [], [] => true
  | x :: xs, y :: ys => eqPV x y && eqPVs xs ys
  | _, _ => false
end
theorem str_beq (x y : List Nat) : ((⟨x.toArray⟩ : Str) == ⟨y.toArray⟩) = decide (x = y) := by
  by_cases h : x = y
  · subst h; simp
  · rw [decide_eq_false h]
    have : (⟨x.toArray⟩ : Str) ≠ ⟨y.toArray⟩ := fun e => h (by
      injection e with e
      exact congrArg Array.toList e)
    simpa using this
mutual
theorem eqv_eq : ∀ (x y : PV) (d e : PyData), toD x = some d → toD y = some e → PyData.eqv d e = eqPV x y
  | .lst xs, y, d, e, h1, h2 => by
    simp only [toD, Option.map_eq_some_iff] at h1
    obtain ⟨ds, q1, rfl⟩ := h1
    cases y with
    | lst ys => simp only [toD, Option.map_eq_some_iff] at h2; obtain ⟨es, q2, rfl⟩ := h2; simp only [PyData.eqv, eqPV]; exact eqvs_eq xs ys ds es q1 q2
    | scr ys => simp only [toD, Option.map_eq_some_iff] at h2; obtain ⟨es, q2, rfl⟩ := h2; simp only [PyData.eqv, eqPV]; exact eqvs_eq xs ys ds es q1 q2
    | tup ys => simp only [toD, Option.map_eq_some_iff] at h2; obtain ⟨es, q2, rfl⟩ := h2; simp only [PyData.eqv, eqPV]
    | _ => first | (cases h2; simp only [PyData.eqv, eqPV]; done) | (cases h2; done)
  | .scr xs, y, d, e, h1, h2 => by
    simp only [toD, Option.map_eq_some_iff] at h1
    obtain ⟨ds, q1, rfl⟩ := h1
    cases y with
    | lst ys => simp only [toD, Option.map_eq_some_iff] at h2; obtain ⟨es, q2, rfl⟩ := h2; simp only [PyData.eqv, eqPV]; exact eqvs_eq xs ys ds es q1 q2
    | scr ys => simp only [toD, Option.map_eq_some_iff] at h2; obtain ⟨es, q2, rfl⟩ := h2; simp only [PyData.eqv, eqPV]; exact eqvs_eq xs ys ds es q1 q2
    | tup ys => simp only [toD, Option.map_eq_some_iff] at h2; obtain ⟨es, q2, rfl⟩ := h2; simp only [PyData.eqv, eqPV]
    | _ => first | (cases h2; simp only [PyData.eqv, eqPV]; done) | (cases h2; done)
  | .tup xs, y, d, e, h1, h2 => by
    simp only [toD, Option.map_eq_some_iff] at h1
    obtain ⟨ds, q1, rfl⟩ := h1
    cases y with
    | lst ys => simp only [toD, Option.map_eq_some_iff] at h2; obtain ⟨es, q2, rfl⟩ := h2; simp only [PyData.eqv, eqPV]
    | scr ys => simp only [toD, Option.map_eq_some_iff] at h2; obtain ⟨es, q2, rfl⟩ := h2; simp only [PyData.eqv, eqPV]
    | tup ys => simp only [toD, Option.map_eq_some_iff] at h2; obtain ⟨es, q2, rfl⟩ := h2; simp only [PyData.eqv, eqPV]; exact eqvs_eq xs ys ds es q1 q2
    | _ => first | (cases h2; simp only [PyData.eqv, eqPV]; done) | (cases h2; done)
  | .non, y, d, e, h1, h2 => by
    cases h1
    cases y with
    | lst ys => simp only [toD, Option.map_eq_some_iff] at h2; obtain ⟨es, q2, rfl⟩ := h2; simp only [PyData.eqv, eqPV]
    | scr ys => simp only [toD, Option.map_eq_some_iff] at h2; obtain ⟨es, q2, rfl⟩ := h2; simp only [PyData.eqv, eqPV]
    | tup ys => simp only [toD, Option.map_eq_some_iff] at h2; obtain ⟨es, q2, rfl⟩ := h2; simp only [PyData.eqv, eqPV]
    | _ => first | (cases h2; simp only [PyData.eqv, eqPV]; done) | (cases h2; done)
  | .bl _, y, d, e, h1, h2 => by
    cases h1
    cases y with
    | lst ys => simp only [toD, Option.map_eq_some_iff] at h2; obtain ⟨es, q2, rfl⟩ := h2; simp only [PyData.eqv, eqPV]
    | scr ys => simp only [toD, Option.map_eq_some_iff] at h2; obtain ⟨es, q2, rfl⟩ := h2; simp only [PyData.eqv, eqPV]
    | tup ys => simp only [toD, Option.map_eq_some_iff] at h2; obtain ⟨es, q2, rfl⟩ := h2; simp only [PyData.eqv, eqPV]
    | _ => first | (cases h2; simp only [PyData.eqv, eqPV]; done) | (cases h2; done)
  | .int _, y, d, e, h1, h2 => by
    cases h1
    cases y with
    | lst ys => simp only [toD, Option.map_eq_some_iff] at h2; obtain ⟨es, q2, rfl⟩ := h2; simp only [PyData.eqv, eqPV]
    | scr ys => simp only [toD, Option.map_eq_some_iff] at h2; obtain ⟨es, q2, rfl⟩ := h2; simp only [PyData.eqv, eqPV]
    | tup ys => simp only [toD, Option.map_eq_some_iff] at h2; obtain ⟨es, q2, rfl⟩ := h2; simp only [PyData.eqv, eqPV]
    | _ => first | (cases h2; simp only [PyData.eqv, eqPV]; done) | (cases h2; done)
  | .str x, y, d, e, h1, h2 => by
    cases h1
    cases y with
    | lst ys => simp only [toD, Option.map_eq_some_iff] at h2; obtain ⟨es, q2, rfl⟩ := h2; simp only [PyData.eqv, eqPV]
    | scr ys => simp only [toD, Option.map_eq_some_iff] at h2; obtain ⟨es, q2, rfl⟩ := h2; simp only [PyData.eqv, eqPV]
    | tup ys => simp only [toD, Option.map_eq_some_iff] at h2; obtain ⟨es, q2, rfl⟩ := h2; simp only [PyData.eqv, eqPV]
    | str y => cases h2; simp only [PyData.eqv, eqPV]; exact str_beq x y
    | _ => first | (cases h2; simp only [PyData.eqv, eqPV]; done) | (cases h2; done)
  | .ty _, _, _, _, h1, _ => by cases h1
  | .adr _, _, _, _, h1, _ => by cases h1
  | .ref _, _, _, _, h1, _ => by cases h1
  | .dct _, _, _, _, h1, _ => by cases h1
  | .dcT _, _, _, _, h1, _ => by cases h1
  | .cls _, _, _, _, h1, _ => by cases h1
  | .ins _ _, _, _, _, h1, _ => by cases h1
  | .set _, _, _, _, h1, _ => by cases h1
  | .dctO _, _, _, _, h1, _ => by cases h1
  | .exn _, _, _, _, h1, _ => by cases h1
  | .lam _ _ _ _ _, _, _, _, h1, _ => by cases h1
theorem eqvs_eq : ∀ (xs ys : List PV) (ds es : List PyData), toDs xs = some ds → toDs ys = some es → PyData.eqvAll ds es = eqPVs xs ys
  | [], [], _, _, h1, h2 => by cases h1; cases h2; simp only [PyData.eqvAll, eqPVs]
  | x :: xs, [], ds, _, h1, h2 => by
    cases h2
    simp only [toDs, Option.bind_eq_some_iff, Option.map_eq_some_iff] at h1
    obtain ⟨d, _, ds', _, rfl⟩ := h1
    simp only [PyData.eqvAll, eqPVs]
  | [], y :: ys, _, es, h1, h2 => by
    cases h1
    simp only [toDs, Option.bind_eq_some_iff, Option.map_eq_some_iff] at h2
    obtain ⟨d, _, ds', _, rfl⟩ := h2
    simp only [PyData.eqvAll, eqPVs]
  | x :: xs, y :: ys, ds, es, h1, h2 => by
    simp only [toDs, Option.bind_eq_some_iff, Option.map_eq_some_iff] at h1 h2
    obtain ⟨d, a1, ds', a2, rfl⟩ := h1
    obtain ⟨e, b1, es', b2, rfl⟩ := h2
    simp only [PyData.eqvAll, eqPVs]
    rw [eqv_eq x y d e a1 b1, eqvs_eq xs ys ds' es' a2 b2]
end
/-- data of a depth of at most n -/
noncomputable def okD : Nat → PV → Bool
  | _, .non => true
  | _, .bl _ => true
  | _, .int _ => true
  | _, .str x => x.all fun c => decide (c < 0x110000)
  | 0, _ => false
  | n + 1, .tup xs => xs.all (okD n)
  | n + 1, .lst xs => xs.all (okD n)
  | n + 1, .scr xs => xs.all (okD n)
  | _, _ => false
theorem okD_all {n : Nat} (ih : ∀ x, okD n x = true → ∃ d, toD x = some d ∧ d.canLay0 = true ∧ d.depth ≤ n) : ∀ xs : List PV, xs.all (okD n) = true → ∃ ds, toDs xs = some ds ∧ PyData.canLayAll0 ds = true ∧ PyData.depthAll ds ≤ n
  | [], _ => ⟨[], rfl, by simp only [PyData.canLayAll0], by simp only [PyData.depthAll]; omega⟩
  | x :: xs, h => by
    rw [List.all_cons, Bool.and_eq_true] at h
    obtain ⟨d, a1, a2, a3⟩ := ih x h.1
    obtain ⟨ds, b1, b2, b3⟩ := okD_all ih xs h.2
    refine ⟨d :: ds, by simp only [toDs, a1, b1, Option.bind_some, Option.map_some], by simp only [PyData.canLayAll0, a2, b2, Bool.and_self], ?_⟩
    simp only [PyData.depthAll]
    omega
theorem okD_at : ∀ (n : Nat) (x : PV), okD n x = true → ∃ d, toD x = some d ∧ d.canLay0 = true ∧ d.depth ≤ n := by
  intro n
  induction n with
  | zero =>
    intro x h
    cases x with
    | non => exact ⟨_, rfl, by simp only [PyData.canLay0], by simp only [PyData.depth]; omega⟩
    | bl b => exact ⟨_, rfl, by simp only [PyData.canLay0], by simp only [PyData.depth]; omega⟩
    | int b => exact ⟨_, rfl, by simp only [PyData.canLay0], by simp only [PyData.depth]; omega⟩
    | str z => exact ⟨_, rfl, by simp only [PyData.canLay0, PyData.strOk, List.all_toArray]; simpa [okD] using h, by simp only [PyData.depth]; omega⟩
    | _ => simp [okD] at h
  | succ n ih =>
    intro x h
    cases x with
    | non => exact ⟨_, rfl, by simp only [PyData.canLay0], by simp only [PyData.depth]; omega⟩
    | bl b => exact ⟨_, rfl, by simp only [PyData.canLay0], by simp only [PyData.depth]; omega⟩
    | int b => exact ⟨_, rfl, by simp only [PyData.canLay0], by simp only [PyData.depth]; omega⟩
    | str z => exact ⟨_, rfl, by simp only [PyData.canLay0, PyData.strOk, List.all_toArray]; simpa [okD] using h, by simp only [PyData.depth]; omega⟩
    | tup xs =>
      obtain ⟨ds, a, b, c⟩ := okD_all ih xs (by simpa only [okD] using h)
      exact ⟨.tuple ds, by simp only [toD, a, Option.map_some], by simp only [PyData.canLay0, b], by simp only [PyData.depth]; omega⟩
    | lst xs =>
      obtain ⟨ds, a, b, c⟩ := okD_all ih xs (by simpa only [okD] using h)
      exact ⟨.list ds, by simp only [toD, a, Option.map_some], by simp only [PyData.canLay0, b], by simp only [PyData.depth]; omega⟩
    | scr xs =>
      obtain ⟨ds, a, b, c⟩ := okD_all ih xs (by simpa only [okD] using h)
      exact ⟨.list ds, by simp only [toD, a, Option.map_some], by simp only [PyData.canLay0, b], by simp only [PyData.depth]; omega⟩
    | _ => simp [okD] at h
theorem seen_data {h : Store} : ∀ {n : Nat} {x : PV}, okD n x = true → seen h x = x
  | n, .ref a, q => by cases n <;> simp [okD] at q
  | _, .non, _ => rfl
  | _, .bl _, _ => rfl
  | _, .int _, _ => rfl
  | _, .str _, _ => rfl
  | _, .ty _, _ => rfl
  | _, .adr _, _ => rfl
  | _, .tup _, _ => rfl
  | _, .lst _, _ => rfl
  | _, .scr _, _ => rfl
  | _, .dct _, _ => rfl
  | _, .dcT _, _ => rfl
  | _, .cls _, _ => rfl
  | _, .ins _ _, _ => rfl
  | _, .set _, _ => rfl
  | _, .dctO _, _ => rfl
  | _, .exn _, _ => rfl
  | _, .lam _ _ _ _ _, _ => rfl
theorem eqS_eq {x y : PV} {b : Bool} (e : eqS x y = some b) : eqPV x y = b := by
  cases x <;> cases y <;> simp only [eqS] at e <;> first | (cases e; done) | skip
  all_goals (cases e; simp only [eqPV])
  all_goals first
    | rfl
    | (rename_i a b; by_cases h : a = b <;> simp [h])
theorem fEqB_ok {n : Nat} (hn : n ≤ 64) {x y : PV} {h : Store} (hx : okD n x = true) (hy : okD n y = true) : fEqB x y h = some (eqPV x y) := by
  unfold fEqB
  cases e : eqS x y with
  | some b => simp only; rw [eqS_eq e]
  | none =>
    simp only
    rw [seen_data hx, seen_data hy]
    obtain ⟨d, a1, a2, a3⟩ := okD_at n x hx
    obtain ⟨d', b1, b2, b3⟩ := okD_at n y hy
    rw [a1, b1]
    have s1 : shD d = true := by
      show (_ && decide _) = true
      rw [a2, decide_eq_true (show d.depth ≤ 64 by omega)]; rfl
    have s2 : shD d' = true := by
      show (_ && decide _) = true
      rw [b2, decide_eq_true (show d'.depth ≤ 64 by omega)]; rfl
    simp only [s1, s2, Bool.and_self, if_true]
    rw [eqv_eq x y d d' a1 b1]
theorem fEq_ok {n : Nat} (hn : n ≤ 64) {x y : PV} {h : Store} (hx : okD n x = true) (hy : okD n y = true) : fEq x y h = .ok (.bl (eqPV x y)) h := by
  unfold fEq
  rw [fEqB_ok hn hx hy]
theorem fNe_ok {n : Nat} (hn : n ≤ 64) {x y : PV} {h : Store} (hx : okD n x = true) (hy : okD n y = true) : fNe x y h = .ok (.bl (!eqPV x y)) h := by
  unfold fNe
  rw [fEqB_ok hn hx hy]
section
variable {h : Store} {i j : Int} {x y : List Nat} {b c : Bool}
@[simp] theorem fEq_int : fEq (.int i) (.int j) h = .ok (.bl (decide (i = j))) h := by
  rw [fEq_ok (n := 0) (by decide) rfl rfl]
  simp only [eqPV]
  by_cases e : i = j <;> simp [e]
@[simp] theorem fNe_int : fNe (.int i) (.int j) h = .ok (.bl (!decide (i = j))) h := by
  rw [fNe_ok (n := 0) (by decide) rfl rfl]
  simp only [eqPV]
  by_cases e : i = j <;> simp [e]
@[simp] theorem fEq_bl : fEq (.bl b) (.bl c) h = .ok (.bl (b == c)) h := by rw [fEq_ok (n := 0) (by decide) rfl rfl]; simp only [eqPV]
@[simp] theorem fNe_bl : fNe (.bl b) (.bl c) h = .ok (.bl (!(b == c))) h := by rw [fNe_ok (n := 0) (by decide) rfl rfl]; simp only [eqPV]
end
end Wg

namespace Wg
open PySem
theorem R.bind_assoc {α β γ : Type} (r : R α) (k : α → Store → R β) (k' : β → Store → R γ) : (r.bind k).bind k' = r.bind fun a h => (k a h).bind k' := by cases r <;> rfl
section
variable {h : Store}
end
end Wg

namespace Wg
open PySem PySem.Spec PyProof.Rows L2 SlX
section
variable {K : KC} {ρ ρ' : Pl} {H H' : Hp} {h : Store} {X : Cx} {W : WQ} {D : Ends} {pos : Pos}
/-! ### what is never come to -/
noncomputable def mNo : MS := fun _ _ => .no
theorem xs_never {st : Stmt} : XS X W st mNo := ⟨fun _ _ _ _ _ _ ⟨_, _, _, _, _, o⟩ => o.elim⟩
/-! ### the error at hand does not matter to values -/
mutual
theorem RV.cur {c : Option Cur} : ∀ (x : PV) (v : V), RV K ρ H x v → RV ⟨K.K, K.mg, c, K.w⟩ ρ H x v
  | .non, _, h => h
  | .bl _, _, h => h
  | .int _, _, h => h
  | .str _, _, h => h
  | .ty _, _, h => h
  | .adr _, _, h => h
  | .cls _, _, h => h
  | .ref _, _, h => h
  | .tup xs, _, ⟨p, vs, e, t, r⟩ => ⟨p, vs, e, t, RVs.cur xs vs r⟩
  | .lst xs, _, ⟨p, vs, e, t, r⟩ => ⟨p, vs, e, t, RVs.cur xs vs r⟩
  | .scr xs, _, ⟨p, vs, e, t, r⟩ => ⟨p, vs, e, t, RVs.cur xs vs r⟩
  | .dct kvs, _, ⟨p, vs, e, t, r⟩ => ⟨p, vs, e, t, RVd.cur kvs vs r⟩
  | .dcT kvs, _, ⟨p, vs, e, t, r⟩ => ⟨p, vs, e, t, RVt.cur kvs vs r⟩
  | .ins _ xs, _, ⟨p, C, dx, vs, e, m, t, r⟩ => ⟨p, C, dx, vs, e, m, t, RVs.cur xs vs r⟩
  | .set xs, _, ⟨p, vs, e, t, r⟩ => ⟨p, vs, e, t, RVs.cur xs vs r⟩
  | .dctO xs, _, ⟨p, o, vs, e, t, u, r⟩ => ⟨p, o, vs, e, t, u, RVs.cur xs vs r⟩
  | .exn _, _, h => h
  | .lam _ _ _ σ l, _, ⟨e, t, r⟩ => ⟨e, t, RVo.cur l σ r⟩
theorem RVs.cur {c : Option Cur} : ∀ (xs : List PV) (vs : List V), RVs K ρ H xs vs → RVs ⟨K.K, K.mg, c, K.w⟩ ρ H xs vs
  | [], _, h => h
  | x :: xs, _, ⟨v, r, e, h1, h2⟩ => ⟨v, r, e, RV.cur x v h1, RVs.cur xs r h2⟩
theorem RVd.cur {c : Option Cur} : ∀ (kvs : List (PV × PV)) (vs : List (Key × V)), RVd K ρ H kvs vs → RVd ⟨K.K, K.mg, c, K.w⟩ ρ H kvs vs
  | [], _, h => h
  | (k, x) :: xs, _, ⟨cc, v, r, e, h0, h1, h2⟩ => ⟨cc, v, r, e, h0, RV.cur x v h1, RVd.cur xs r h2⟩
theorem RVt.cur {c : Option Cur} : ∀ (kvs : List (PV × PV)) (vs : List (List Key × V)), RVt K ρ H kvs vs → RVt ⟨K.K, K.mg, c, K.w⟩ ρ H kvs vs
  | [], _, h => h
  | (k, x) :: xs, _, ⟨cc, v, r, e, h0, h1, h2⟩ => ⟨cc, v, r, e, h0, RV.cur x v h1, RVt.cur xs r h2⟩
theorem RVo.cur {c : Option Cur} : ∀ (l : List (Option PV)) (σ : L2.St), RVo K ρ H l σ → RVo ⟨K.K, K.mg, c, K.w⟩ ρ H l σ
  | [], _, h => h
  | none :: l, _, ⟨o, r, e, h2⟩ => ⟨o, r, e, RVo.cur l r h2⟩
  | some x :: l, _, ⟨v, r, e, h1, h2⟩ => ⟨v, r, e, RV.cur x v h1, RVo.cur l r h2⟩
end
theorem RVx.cur {c : Option Cur} {us : List (Str × V)} : ∀ (fs : List (Str × PV)), RVx K ρ H us fs → RVx ⟨K.K, K.mg, c, K.w⟩ ρ H us fs
  | [], h => h
  | (f, x) :: xs, ⟨⟨v, e, h1⟩, h2⟩ => ⟨⟨v, e, RV.cur x v h1⟩, RVx.cur xs h2⟩
theorem RC.cur {c : Option Cur} {ce : Cell} {p : Addr} (r : RC K ρ h H ce p) : RC ⟨K.K, K.mg, c, K.w⟩ ρ h H ce p := by
  cases ce with
  | lst xs => obtain ⟨vs, q, rs⟩ := r; exact ⟨vs, q, RVs.cur _ _ rs⟩
  | dct xs => obtain ⟨vs, q, rs⟩ := r; exact ⟨vs, q, RVd.cur _ _ rs⟩
  | dcT xs => obtain ⟨vs, q, rs⟩ := r; exact ⟨vs, q, RVt.cur _ _ rs⟩
  | ins n j xs =>
    obtain ⟨C, dx, vs, m, q1, q2, t, rs⟩ := r
    exact ⟨C, dx, vs, m, q1, q2, t, fun i x hx => let ⟨v, e1, e2⟩ := rs i x hx; ⟨v, e1, RV.cur _ _ e2⟩⟩
  | own => exact r
  | tab x y => exact r
theorem Rep.cur {c : Option Cur} (p : Rep K ρ h H) : Rep ⟨K.K, K.mg, c, K.w⟩ ρ h H := ⟨p.len, p.nd, fun i ce a e1 e2 => (p.at_ i ce a e1 e2).cur, p.hid, p.dj⟩
theorem RL0.cur {c : Option Cur} {l : Lv} {σ : L2.St} (r : RL0 K ρ H l σ) : RL0 ⟨K.K, K.mg, c, K.w⟩ ρ H l σ := by
  induction r with
  | nil => exact .nil
  | skip _ ih => exact .skip ih
  | put r _ ih => exact .put (RV.cur _ _ r) ih

/-! ### raise -/
/-- an error class of the text, without an own __init__ -/
structure ErrK (K : PySem.W.Frag) (mg : Str → Option Value) (x : Str) : Prop where
  ex : ∃ (C : Addr) (B newId initId : String) (bmB : List Value), ExcBaseFacts B newId initId bmB ∧ PySem.W.excIn K C bmB newId = true ∧ mg x = some (.ref C) ∧ PySem.W.keepIn K (.ref C) = true ∧ PySem.W.subIn K (.ref C) (.type "BaseException") = some true ∧ PySem.W.typeIn K (.ref C) = some (.type "type")
noncomputable def mRaise (x : Str) : MS := fun l h => .ok (.ex ⟨.cls x, []⟩ l) h
theorem xs_raise {x m : Str} {j : Nat} {p p2 p3 : Pos} (hc : X.calm = true) (tk : Takes X W.w) (k : ErrK X.K X.mg x) (hg : Gl X x := by rfl) (hdb : (x == ("__debug__" : Str)) = false := by decide) :
    XS X W (.Raise (some (.Call (.Name x p) [.Constant (.str m) j p2] [] p3)) none pos) (mRaise x) := by
  obtain ⟨C, B, newId, initId, bmB, F, q, gC, kC, s1, s2⟩ := k.ex
  exact ps_weak (ps_raise hc tk (pmk_own F q gC kC (raises_own s1 s2) hg hdb)) fun D σ H ⟨ρ, h, l, p, rl, o⟩ => o ρ H (.ref C) none σ (Ext.refl _ _) p rl ⟨.ref C, ⟨C, gC, rfl⟩, rfl, .inl rfl⟩

end
end Wg

namespace Wg
open PySem PySem.Spec PyProof.Rows L2 SlX
/-- a clause: the class, the slot of its name, what its suite does -/
structure Cls1 where
  c : Value
  i : Option Nat
  ts : Addr → Value → Option Addr → TS
noncomputable def Cls1.ends (k : Cls1) (D : Ends) : Ends := match k.i with
  | none => D
  | some i => { nx := fun σ H => D.nx (σ.set i none) H, rt := D.rt, bk := fun σ H => D.bk (σ.set i none) H, ct := fun σ H => D.ct (σ.set i none) H }
noncomputable def Cls1.slots (k : Cls1) (a : Addr) (σ : L2.St) : L2.St := match k.i with
  | none => σ
  | some i => σ.set i (some (.ref a))
/-- what the clauses wish of an error of the body -/
noncomputable def wAll (K : PySem.W.Frag) (Wout : WX) (D : Ends) : List Cls1 → WX
  | [] => Wout
  | k :: r => fun cls d σ H => ∃ b, PySem.W.exmOne K cls k.c = some b ∧ (b = true → ∀ a, H a = none → k.ts a cls d (k.ends D) (k.slots a σ) H) ∧ (b = false → wAll K Wout D r cls d σ H)
noncomputable abbrev Suite (X : Cx) (st : List Stmt) (ts : Addr → Value → Option Addr → TS) : Prop :=
  ∀ (a : Addr) (oe : Obj) (cls : Value) (d : Option Addr) (pn : List (Addr × Obj)), Zc cls d oe → (∃ vs, oe.data = .fields vs) → PSs (X.suite a ((a, oe) :: pn)) st (ts a cls d)
inductive Hds (X : Cx) : List ExceptHandler → List Cls1 → Prop
  | nil : Hds X [] []
  | bare {x : Str} {c : Value} {ts : Addr → Value → Option Addr → TS} {b0 : Stmt} {st : List Stmt} {p1 p2 : Pos} {r : List ExceptHandler} {l : List Cls1} (hc : Names X x c) (su : Suite X (b0 :: st) ts) (k : Hds X r l) : Hds X (.ExceptHandler (some (.Name x p1)) none (b0 :: st) p2 :: r) (⟨c, none, ts⟩ :: l)
  | named {x n : Str} {i : Nat} {c : Value} {ts : Addr → Value → Option Addr → TS} {b0 : Stmt} {st : List Stmt} {p1 p2 : Pos} {r : List ExceptHandler} {l : List Cls1} (hi : X.N[i]? = some n) (hl : X.env.kindOf n = some .local) (hc : Names X x c) (su : Suite X (b0 :: st) ts) (k : Hds X r l) :
      Hds X (.ExceptHandler (some (.Name x p1)) (some n) (b0 :: st) p2 :: r) (⟨c, some i, ts⟩ :: l)
section
variable {X : Cx} {body : List Stmt} {h0 : ExceptHandler} {hds : List ExceptHandler} {l : List Cls1} {pos : Pos} {tb : WX → TS} {Wout : WX}
theorem ps_try_all (hs : X.stack = X.env :: X.outer) (hf : X.env.frame = some X.env.locals) (hN : X.N.Nodup) (tk : Takes X Wout)
    (hb : ∀ (W : WX) (pn : List (Addr × Obj)) (xe : Value → Shared → Prop), Takes (X.tr pn xe) W → PassesOwn (model X.prog X.w) X.A X.env xe → PSs (X.tr pn xe) body (tb W))
    (hh : Hds X (h0 :: hds) l) : PS X (.Try body (h0 :: hds) [] [] pos) (fun D σ H => tb (wAll X.K Wout D l) D σ H) := ⟨fun pins s σ H D I h => by
  have ok := I.ok
  have frA : X.A.frames = some (X.env :: X.outer) := by rw [ok.frames, hs]
  refine wpAny_Try_except (wpAny_mono ((hb (wAll X.K Wout D l) (X.pn ++ pins) (fun e s1 => wpAny (model X.prog X.w) X.A (noteFrame e X.env) (fun _ s2 => wpAny (model X.prog X.w) X.A (setFlight e none) (fun _ s3 =>
    wpAny (model X.prog X.w) X.A (handleBy e X.env (h0 :: hds)) (SP X pins D) X.xe s3) X.xe s2) X.xe s1) (fun u t xx => ?_) PassesOwn.looking).run [] s σ H D (I.toTry _) h) (fun f t hsp => ?_) (fun e t he => he))
  · obtain ⟨a, B, sI, pins2, τ, G, cls, d, rfl, JT, nb, up, sky, na, os, ag, w⟩ := xx
    have J : Inv X pins τ G sI := JT.ofTry ok
    show wpAny (model X.prog X.w) X.A (noteFrame (.ref a) X.env) _ _ _
    refine Sky.land (B := B) (Z := Zc cls d) Zc.steady frA hf (by rw [← hs]; exact sky) fun h3 f3 u3 => ?_
    have J3 : Inv X pins τ G { t with heap := h3 } := J.landed nb f3.1 (up.trans u3) os ag
    obtain ⟨oe, vs, g3, z3, d3⟩ := f3.there
    have out : a ∉ frs (X.env :: X.outer) := fun hm => by
      obtain ⟨_, o', q, nf⟩ := f3.2.2.1.mem hm
      rw [g3] at q; cases q
      exact nf _ d3
    have nL : a ≠ X.env.locals := fun z => out (List.mem_filterMap.mpr ⟨X.env, List.mem_cons_self, by rw [hf, z]⟩)
    have nF : a ∉ X.fs := fun hm => by
      obtain ⟨e, he, q⟩ := List.mem_filterMap.mp hm
      exact out (List.mem_filterMap.mpr ⟨e, List.mem_cons_of_mem _ he, q⟩)
    have S3 := J3.suite g3 d3 na nL nF
    have LT : PySem.W.Looks (model X.prog X.w) h3 (typeOf (.ref a)) cls := fun A Q E s k q => wpAny_typeOf_ref (k _ _ g3) (by rw [z3.1]; exact q)
    have test : ∀ {x : Str} {c : Value} {np : Pos} {Q : Value → Shared → Prop} {E : Value → Shared → Prop}, Names X x c → Q c { t with heap := h3 } → wpAny (model X.prog X.w) (X.A.mark (some (.ref a))) (eval (.Name x np) X.env) Q E { t with heap := h3 } := fun {x c np Q E} hc q => by
      obtain ⟨g1, g2, m | ⟨m1, m2, m3⟩⟩ := hc
      · exact ld_glob (X := X.suite a ((a, oe) :: (X.pn ++ pins))) S3 g1 m q g2
      · exact ld_blt (X := X.suite a ((a, oe) :: (X.pn ++ pins))) S3 g1 m1 m2 q m3 g2
    have go : ∀ {r : List ExceptHandler} {k : List Cls1}, Hds X r k → wAll X.K Wout D k cls d τ G → wpAny (model X.prog X.w) X.A (handleBy (.ref a) X.env r) (SP X pins D) X.xe { t with heap := h3 } := by
      intro r k hk
      induction hk with
      | nil =>
        intro w
        refine wpAny_handleBy_nil ?_
        obtain ⟨_, _, _, o5, v5, T, oT, _, q5, _, dd5, h15, _⟩ := id f3
        unfold PySem.passOn
        refine wpAny_bind (wpAny_field q5 dd5 h15 ?_)
        rw [if_neg (show ¬ ((Value.ref T == Value.none) = true) from by simp)]
        have fin : wpAny (model X.prog X.w) X.A (setFlight (.ref a) X.env.frame) (fun _ s4 => wpAny (model X.prog X.w) X.A (throw (.ref a) : Sem Flow) (SP X pins D) X.xe s4) X.xe { t with heap := h3 } := by
          rw [hf]
          exact HandSPX.setFlight_upZ f3 fun h4 hh4 u4 => wpAny_throw (tk _ _ ⟨a, B, sI, pins, τ, G, cls, d, rfl, J, nb, (up.trans u3).trans u4, .inr (.inr (by rw [hs]; exact hh4)), na, os, ag, w⟩)
        first | exact wpAny_bind (wpAny_pure (wpAny_bind fin)) | exact wpAny_bind fin
      | bare hc su k2 ih =>
        intro w
        obtain ⟨b, hb1, yes, no⟩ := w
        refine wpAny_handleBy_cons (codeAny_handlers_test (test hc ((PySem.W.exm_one (M := model X.prog X.w) J3.kIn LT hb1).here ?_))) (by intro q; cases q)
        cases b with
        | false => exact ih (no rfl)
        | true =>
          refine codeAny_handlers_suite (HandSPX.lands_againZ f3 fun h4 f4 u4 => ?_)
          have J4 : Inv X pins τ G { t with heap := h4 } := J.landed nb f4.1 ((up.trans u3).trans u4) os ag
          obtain ⟨oe4, vs4, g4, z4, d4⟩ := f4.there
          refine wpAny_mono ((su a oe4 cls d (X.pn ++ pins) z4 ⟨_, d4⟩).run [] _ _ G _ (J4.suite g4 d4 na nL nF) (yes rfl a na)) (fun f s6 hsp => ?_) (fun _ _ z => False.elim z)
          cases f with
          | ret u => obtain ⟨v6, σ6, H6, S6, r6, q6⟩ := hsp; exact ⟨_, _, _, S6.unsuite ok, r6, q6⟩
          | _ => obtain ⟨σ6, H6, S6, q6⟩ := hsp; exact ⟨_, _, S6.unsuite ok, q6⟩
      | named hi hl hc su k2 ih =>
        intro w
        obtain ⟨b, hb1, yes, no⟩ := w
        refine wpAny_handleBy_cons (codeAny_handlers_test (test hc ((PySem.W.exm_one (M := model X.prog X.w) J3.kIn LT hb1).here ?_))) (by intro q; cases q)
        cases b with
        | false => exact ih (no rfl)
        | true =>
          refine codeAny_handlers_suite_as (HandSPX.lands_againZ f3 fun h4 f4 u4 => ?_)
          have J4 : Inv X pins τ G { t with heap := h4 } := J.landed nb f4.1 ((up.trans u3).trans u4) os ag
          obtain ⟨oe4, vs4, g4, z4, d4⟩ := f4.there
          refine store_ok (X := X.suite a ((a, oe4) :: (X.pn ++ pins))) (v := .ref a) (J4.suite g4 d4 na nL nF) hN hi (.inl hl) rfl (fun s5 S5 => ?_) (.inr hl)
          refine wpAny_mono ((su a oe4 cls d (X.pn ++ pins) z4 ⟨_, d4⟩).run [] s5 _ G _ S5 (yes rfl a na)) (fun f s6 hsp => ?_) (fun _ _ z => False.elim z)
          cases f with
          | ret u => obtain ⟨v6, σ6, H6, S6, r6, q6⟩ := hsp; exact gone_ok (S6.unsuite ok) hN hi hl fun s7 J7 => ⟨_, _, _, J7, r6, q6⟩
          | _ => obtain ⟨σ6, H6, S6, q6⟩ := hsp; exact gone_ok (S6.unsuite ok) hN hi hl fun s7 J7 => ⟨_, _, J7, q6⟩
    exact go hh w
  · cases f with
    | next => obtain ⟨σ2, H2, J2, q⟩ := hsp; exact wpAny_execs_nil ⟨σ2, H2, J2.ofTry ok, q⟩
    | ret u => obtain ⟨v, σ2, H2, J2, r, q⟩ := hsp; exact ⟨v, σ2, H2, J2.ofTry ok, r, q⟩
    | _ => obtain ⟨σ2, H2, J2, q⟩ := hsp; exact ⟨σ2, H2, J2.ofTry ok, q⟩⟩
end
end Wg

namespace Wg
open PySem PySem.Spec PyProof.Rows L2 SlX
/-! ### try -/
/-- a clause: does it catch, what then, the slot of its name -/
structure HC where
  ct : PV → Option Bool
  m : Ex → MS
  i : Option Nat := none
noncomputable def HC.wipe (k : HC) (l : Lv) : Lv := match k.i with
  | none => l
  | some i => l.set i none
noncomputable def HC.fits (k : HC) (l : Lv) : Bool := match k.i with
  | none => true
  | some i => decide (i < l.length)
noncomputable def HC.back (k : HC) (r : R Fl) : R Fl := match r with
  | .ok (.nx l) h => .ok (.nx (k.wipe l)) h
  | .ok (.bk l) h => .ok (.bk (k.wipe l)) h
  | .ok (.ct l) h => .ok (.ct (k.wipe l)) h
  | .ok (.rt x) h => .ok (.rt x) h
  | _ => .no
noncomputable def handle : List HC → Ex → MS
  | [], e => fun l h => .ok (.ex e l) h
  | k :: r, e => fun l h => match k.ct e.cls with
    | some true => if k.fits l = true then k.back (k.m e (k.wipe l) h) else .no
    | some false => handle r e l h
    | none => .no
noncomputable def mTry (body : MS) (hs : List HC) : MS := fun l h => match body l h with
  | .ok (.ex e l') h' => handle hs e l' h'
  | r => r
/-- the class of an error -/
noncomputable def ClsOf (mg : Str → Option Value) : PV → Value → Prop
  | .cls n, c => ∃ C, mg n = some (.ref C) ∧ c = .ref C
  | .ty n, c => c = .type n
  | _, _ => False
/-- what a clause for c catches -/
noncomputable def Catch (K : PySem.W.Frag) (mg : Str → Option Value) (c : Value) (ct : PV → Option Bool) : Prop := ∀ (x : PV) (b : Bool), ct x = some b → ∀ v, ClsOf mg x v → PySem.W.exmOne K v c = some b
/-- .. that catches just what the table tells -/
noncomputable def ctOf (t : List (Str × Bool)) : PV → Option Bool
  | .cls n => t.lookup n
  | _ => none
noncomputable abbrev WNo (c : Option Cur) : WQ := ⟨fun _ _ _ _ => False, c⟩
inductive XHds (X : Cx) : List ExceptHandler → List HC → Prop
  | nil : XHds X [] []
  | bare {x : Str} {c : Value} {ct : PV → Option Bool} {m : MS} {b0 : Stmt} {st : List Stmt} {p1 p2 : Pos} {r : List ExceptHandler} {l : List HC} (hc : Names X x c) (ck : Catch X.K X.mg c ct)
      (su : ∀ (a : Addr) (oe : Obj) (cls : Value) (d : Option Addr) (pn : List (Addr × Obj)), Zc cls d oe → (∃ vs, oe.data = .fields vs) → XSs (X.suite a ((a, oe) :: pn)) (WNo none) (b0 :: st) m) (k : XHds X r l) :
      XHds X (.ExceptHandler (some (.Name x p1)) none (b0 :: st) p2 :: r) (⟨ct, fun _ => m, none⟩ :: l)
  | named {x n : Str} {i : Nat} {c : Value} {ct : PV → Option Bool} {m : List (Str × PV) → MS} {b0 : Stmt} {st : List Stmt} {p1 p2 : Pos} {r : List ExceptHandler} {l : List HC} (hi : X.N[i]? = some n) (hl : X.env.kindOf n = some .local) (hc : Names X x c) (ck : Catch X.K X.mg c ct)
      (only : ∀ y, ct y = some true → y = .cls x)
      (su : ∀ (a : Addr) (oe : Obj) (cls : Value) (d : Option Addr) (pn : List (Addr × Obj)) (fs : List (Str × PV)), Zc cls d oe → (∃ vs, oe.data = .fields vs) → XSs (X.suite a ((a, oe) :: pn)) (WNo (some ⟨i, a, x, cls, d, fs⟩)) (b0 :: st) (m fs)) (k : XHds X r l) :
      XHds X (.ExceptHandler (some (.Name x p1)) (some n) (b0 :: st) p2 :: r) (⟨ct, fun e => m e.fld, some i⟩ :: l)
section
variable {X : Cx} {pos : Pos}
theorem rx_cls {K : KC} {ρ : Pl} {H : Hp} {e : Ex} {cls : Value} {d : Option Addr} (r : RX K ρ H e cls d) {b : Bool} {ct : PV → Option Bool} {Kf : PySem.W.Frag} {c : Value} (ck : Catch Kf K.mg c ct) (h : ct e.cls = some b) (hx : ∀ n, e.cls = .cls n ∨ (∃ n, e.cls = .ty n) → True) (hk : (∃ n, e.cls = .cls n) ∨ ∃ n, e.cls = .ty n) :
    PySem.W.exmOne Kf cls c = some b := by
  obtain ⟨v, r1, r2, _⟩ := r
  rcases hk with ⟨n, hk⟩ | ⟨n, hk⟩
  · rw [hk] at r1 h
    obtain ⟨C, m, rfl⟩ := r1
    obtain rfl : cls = .ref C := r2
    exact ck _ _ h _ ⟨C, m, rfl⟩
  · rw [hk] at r1 h
    obtain rfl : v = .ty n := r1
    obtain rfl : cls = .type n := r2
    exact ck _ _ h _ rfl
/-- classes alone -/
noncomputable def isCls : PV → Bool
  | .cls _ => true
  | .ty _ => true
  | _ => false
theorem XHds.to {hds : List ExceptHandler} {ks : List HC} (hk : XHds X hds ks) : ∃ l : List Cls1, Hds X hds l ∧ ∀ (W : WX) (D : Ends) (e : Ex) (l0 : Lv) (h : Store) (ρ : Pl) (H : Hp) (cls : Value) (d : Option Addr) (σ : L2.St), isCls e.cls = true →
    Rep ⟨X.K, X.mg, none, X.w⟩ ρ h H → RL ⟨X.K, X.mg, none, X.w⟩ ρ H l0 σ → RX ⟨X.K, X.mg, none, X.w⟩ ρ H e cls d → OutS ⟨X.K, X.mg, none, X.w⟩ ⟨W, none⟩ ρ H (handle ks e l0 h) D → wAll X.K W D l cls d σ H := by
  induction hk with
  | nil => exact ⟨[], .nil, fun W D e l0 h ρ H cls d σ _ p rl r o => o ρ H cls d σ (Ext.refl _ _) p rl r⟩
  | @bare x c ct m b0 st p1 p2 r l hc ck su k ih =>
    obtain ⟨l2, h2, f⟩ := ih
    refine ⟨⟨c, none, fun a cls d => tS ⟨X.K, X.mg, none, X.w⟩ (WNo none) m⟩ :: l2, .bare hc (fun a oe cls d pn z v => su a oe cls d pn z v) h2, fun W D e l0 h ρ H cls d σ ec p rl r o => ?_⟩
    unfold handle at o
    have hcl : (∃ n, e.cls = .cls n) ∨ ∃ n, e.cls = .ty n := by
      cases q : e.cls with
      | cls n => exact .inl ⟨n, rfl⟩
      | ty n => exact .inr ⟨n, rfl⟩
      | _ => rw [q] at ec; cases ec
    cases q : ct e.cls with
    | none => simp only [q] at o; exact o.elim
    | some b =>
      simp only [q] at o
      refine ⟨b, rx_cls r ck q (fun _ _ => trivial) hcl, fun hb a ha => ?_, fun hb => ?_⟩
      · subst hb
        refine ⟨ρ, h, l0, p, rl, ?_⟩
        have o : OutS ⟨X.K, X.mg, none, X.w⟩ ⟨W, none⟩ ρ H (HC.back ⟨ct, fun _ => m, none⟩ (m l0 h)) D := o
        cases q2 : m l0 h with
        | no => rw [q2] at o; exact o
        | exc _ _ => rw [q2] at o; exact o.elim
        | ok fl h' =>
          rw [q2] at o
          cases fl with
          | ex _ _ => exact o.elim
          | _ => exact o
      · subst hb
        exact f W D e l0 h ρ H cls d σ ec p rl r o
  | @named x n i c ct m b0 st p1 p2 r l hi hl hc ck only su k ih =>
    obtain ⟨l2, h2, f⟩ := ih
    refine ⟨⟨c, some i, fun a cls d D σ H => ∃ fs, tS ⟨X.K, X.mg, some ⟨i, a, x, cls, d, fs⟩, X.w⟩ (WNo (some ⟨i, a, x, cls, d, fs⟩)) (m fs) D σ H⟩ :: l2, .named hi hl hc (fun a oe cls d pn z v => ⟨fun pins s σ H D I ⟨fs, q⟩ => (su a oe cls d pn fs z v).run pins s σ H D I q⟩) h2, fun W D e l0 h ρ H cls d σ ec p rl r o => ?_⟩
    unfold handle at o
    have hcl : (∃ n, e.cls = .cls n) ∨ ∃ n, e.cls = .ty n := by
      cases q : e.cls with
      | cls n => exact .inl ⟨n, rfl⟩
      | ty n => exact .inr ⟨n, rfl⟩
      | _ => rw [q] at ec; cases ec
    cases q : ct e.cls with
    | none => simp only [q] at o; exact o.elim
    | some b =>
      simp only [q] at o
      refine ⟨b, rx_cls r ck q (fun _ _ => trivial) hcl, fun hb a ha => ?_, fun hb => ?_⟩
      · subst hb
        have o : OutS ⟨X.K, X.mg, none, X.w⟩ ⟨W, none⟩ ρ H (if decide (i < l0.length) = true then HC.back ⟨ct, fun e => m e.fld, some i⟩ (m e.fld (l0.set i none) h) else .no) D := o
        by_cases hll : i < l0.length
        case neg => rw [decide_eq_false hll] at o; exact o.elim
        rw [decide_eq_true hll] at o
        have o : OutS ⟨X.K, X.mg, none, X.w⟩ ⟨W, none⟩ ρ H (HC.back ⟨ct, fun e => m e.fld, some i⟩ (m e.fld (l0.set i none) h)) D := o
        have hlt : i < σ.length := by rw [← rl.s.len]; exact hll
        have ex := only _ q
        obtain ⟨v, r1, r2, r3⟩ := r
        rw [ex] at r1
        obtain ⟨C, mC, rfl⟩ := r1
        obtain rfl : cls = .ref C := r2
        refine ⟨e.fld, ρ, h, l0.set i none, p.cur, ⟨(rl.s.wipe i (some (.ref a))).cur, ?_⟩, ?_⟩
        · refine ⟨?_, ⟨C, mC, rfl⟩, r3.imp id fun ⟨dd, us, q1, q2, q3⟩ => ⟨dd, us, q1, q2, RVx.cur _ q3⟩⟩
          show (σ.set i (some (.ref a)))[i]? = _
          rw [List.getElem?_set_self hlt]
        · cases q2 : m e.fld (l0.set i none) h with
            | no => rw [q2] at o; exact o
            | exc _ _ => rw [q2] at o; exact o.elim
            | ok fl h' =>
              rw [q2] at o
              cases fl with
              | ex _ _ => exact o.elim
              | rt x => exact fun ρ' H' v x p r => o ρ' H' v x p.cur (RV.cur _ _ r)
              | nx l' => exact fun ρ' H' σ' x p rl => o ρ' H' (σ'.set i none) x p.cur ⟨(rl.s.wipe i).cur, trivial⟩
              | bk l' => exact fun ρ' H' σ' x p rl => o ρ' H' (σ'.set i none) x p.cur ⟨(rl.s.wipe i).cur, trivial⟩
              | ct l' => exact fun ρ' H' σ' x p rl => o ρ' H' (σ'.set i none) x p.cur ⟨(rl.s.wipe i).cur, trivial⟩
      · subst hb
        exact f W D e l0 h ρ H cls d σ ec p rl r o
/-- errors of classes alone -/
noncomputable def chkB (mb : MS) : MS := fun l h => match mb l h with
  | .ok (.ex e l') h' => if isCls e.cls = true then .ok (.ex e l') h' else .no
  | r => r
theorem xs_try {W : WQ} {body : List Stmt} {h0 : ExceptHandler} {hds : List ExceptHandler} {mb : MS} {ks : List HC} (hs : X.stack = X.env :: X.outer) (hf : X.env.frame = some X.env.locals) (hN : X.N.Nodup) (tk : Takes X W.w) (hcur : W.cur = none)
    (hb : ∀ (W' : WX) (pn : List (Addr × Obj)) (xe : Value → Shared → Prop), Takes (X.tr pn xe) W' → PassesOwn (model X.prog X.w) X.A X.env xe → XSs (X.tr pn xe) ⟨W', none⟩ body mb) (hk : XHds X (h0 :: hds) ks) : XS X W (.Try body (h0 :: hds) [] [] pos) (mTry (chkB mb) ks) := by
  obtain ⟨w, c⟩ := W
  obtain rfl : c = none := hcur
  obtain ⟨l, hl, f⟩ := hk.to
  refine ps_weak (ps_try_all (tb := fun W' => tS ⟨X.K, X.mg, none, X.w⟩ ⟨W', none⟩ mb) hs hf hN tk (fun W' pn xe t p => hb W' pn xe t p) hl) fun D σ H ⟨ρ, h, l0, p, rl, o⟩ => ⟨ρ, h, l0, p, rl, ?_⟩
  have o : OutS ⟨X.K, X.mg, none, X.w⟩ ⟨w, none⟩ ρ H (mTry _ ks l0 h) D := o
  unfold mTry chkB at o
  cases q : mb l0 h with
  | no => simp only [q] at o; exact o
  | exc _ _ => simp only [q] at o; exact o
  | ok fl h' =>
    simp only [q] at o
    cases fl with
    | ex e l' =>
      by_cases hc : isCls e.cls = true
      · simp only [hc, if_true] at o
        exact fun ρ' H' cls d σ' a p' rl' r => f w D e l' h' ρ' H' cls d σ' hc p' rl' r (OutS.ext a o)
      · simp only [hc] at o; exact o.elim
    | _ => exact o
/-- e.f, e the error at hand -/
noncomputable def mFld (f : Str) (fs : List (Str × PV)) : M PV := fun _ h => match fs.lookup f with
  | some x => .ok x h
  | none => .no
theorem RVx.get {K : KC} {ρ : Pl} {H : Hp} {us : List (Str × V)} {f : Str} {x : PV} : ∀ {fs : List (Str × PV)}, RVx K ρ H us fs → fs.lookup f = some x → ∃ v, us.lookup f = some v ∧ RV K ρ H x v
  | [], _, e => by cases e
  | (g, y) :: r, ⟨⟨v, e1, h1⟩, h2⟩, e => by
    simp only [List.lookup] at e
    split at e
    next q =>
      cases e
      have : f = g := by simpa using q
      rw [this]
      exact ⟨v, e1, h1⟩
    next => exact RVx.get h2 e
theorem xe_fld {a : Addr} {oe : Obj} {pn : List (Addr × Obj)} {i : Nat} {x n f : Str} {cls : Value} {d : Option Addr} {fs : List (Str × PV)} {p : Pos} (T : ∀ C, X.mg x = some (.ref C) → XfC X.K C ∧ PySem.W.findIn X.K (.ref C) f = some none) (hz : Zc cls d oe) (hf : ∃ vs, oe.data = .fields vs)
    (hN : X.N[i]? = some n := by rfl) (hv : Vis X.env.scope n := by first | exact Or.inl rfl | exact Or.inr (Or.inl rfl) | exact Or.inr (Or.inr rfl)) (hd : (n == ("__debug__" : Str)) = false := by decide) (hcd : (n == ("__classdict__" : Str)) = false := by decide)
    (hb : attributeBase (.Name n p) f X.env (eval (.Name n p) X.env) = eval (.Name n p) X.env := by rfl) : XE (X.suite a ((a, oe) :: pn)) (WNo (some ⟨i, a, x, cls, d, fs⟩)) (.Attribute (.Name n p) f pos) (mFld f fs) := by
  by_cases hm : ∃ C, X.mg x = some (.ref C)
  · obtain ⟨C, hm⟩ := hm
    obtain ⟨T1, T2⟩ := T C hm
    refine pe_weak (pe_xf (C := C) T1 T2 hz hf (pe_var (X := X.suite a ((a, oe) :: pn)) hN hv hd hcd) hb) fun σ H Q ⟨ρ, h, l, p, rl, o⟩ => ?_
    obtain ⟨q1, ⟨C', m', e'⟩, q3⟩ := rl.cur
    have m' : X.mg x = some (.ref C') := m'
    rw [hm] at m'
    cases m'
    refine ⟨_, q1, rfl, e', ?_⟩
    unfold mFld at o
    cases q : fs.lookup f with
    | none => simp only [q] at o; exact o.elim
    | some y =>
      simp only [q] at o
      rcases q3 with q3 | ⟨dd, us, e1, e2, e3⟩
      · have q3 : fs = [] := q3
        rw [q3] at q; cases q
      · obtain ⟨v, e4, e5⟩ := RVx.get e3 q
        exact ⟨dd, us, v, e1, e2.2, e4, o.ok p e5⟩
  · refine ⟨fun pins s σ H Q I ⟨ρ, h, l, p, rl, o⟩ => ?_⟩
    obtain ⟨q1, ⟨C', m', e'⟩, q3⟩ := rl.cur
    exact absurd ⟨C', m'⟩ hm
end
end Wg

namespace Wg
open PySem PySem.Spec PyProof.Rows L2 SlX
section
variable {K : KC} {ρ ρ' : Pl} {H H' : Hp} {h : Store} {X : Cx} {W : WQ} {D : Ends} {pos : Pos} {a b e : Expr} {ma mb m : M PV} {k : Nat}
/-! ### slices -/
noncomputable abbrev MO := M (Option Int)
noncomputable def tO (K : KC) (W : WQ) (m : MO) : TO := fun σ H Q => ∃ ρ h l, Rep K ρ h H ∧ RL K ρ H l σ ∧ Out K ρ H (fun _ _ a b => a = b) (fun c d H' => W c d σ H') (m l h) Q
noncomputable abbrev XO (X : Cx) (W : WQ) (e : Option Expr) (m : MO) : Prop := PO X e (tO (kc X W) W m)
theorem po_weak {e : Option Expr} {t t' : TO} (h : PO X e t) (w : ∀ σ H Q, t' σ H Q → t σ H Q) : PO X e t' := ⟨fun pins s σ H Q I q => h.run pins s σ H Q I (w _ _ _ q)⟩
noncomputable def mNoO : MO := fun _ h => .ok none h
noncomputable def mSoO (m : M PV) : MO := fun l h => (m l h).bind fun x h1 => match x with
  | .int i => .ok (some i) h1
  | _ => .no
theorem xo_none : XO X W none mNoO := po_weak po_none fun σ H Q ⟨ρ, h, l, p, rl, o⟩ => o.ok p rfl
theorem xo_some (he : XE X W e m) : XO X W (some e) (mSoO m) := po_weak (po_some he) fun σ H Q ⟨ρ, h, l, p, rl, o⟩ => ⟨ρ, h, l, p, rl, Out.mono (Out.bind o) fun v H1 ⟨x, h1, ρ1, e1, p1, r1, o1⟩ => by
  cases x with
  | int i => exact ⟨i, r1, o1.ok p1 rfl⟩
  | _ => exact o1.elim⟩
noncomputable def cutP {α : Type} (xs : List α) (lo hi : Option Int) : List α := (xs.drop (HT.sIx xs.length 0 lo)).take (HT.sIx xs.length xs.length hi - HT.sIx xs.length 0 lo)
theorem RVs.drop : ∀ {n : Nat} {xs : List PV} {vs : List V}, RVs K ρ H xs vs → RVs K ρ H (xs.drop n) (vs.drop n)
  | 0, _, _, h => h
  | _ + 1, [], _, h => by rw [show _ = [] from h]; rfl
  | n + 1, x :: xs, _, ⟨v, r, e, _, h2⟩ => by rw [e]; exact RVs.drop (n := n) h2
theorem RVs.take : ∀ {n : Nat} {xs : List PV} {vs : List V}, RVs K ρ H xs vs → RVs K ρ H (xs.take n) (vs.take n)
  | 0, _, _, _ => rfl
  | _ + 1, [], _, h => by rw [show _ = [] from h]; rfl
  | n + 1, x :: xs, _, ⟨v, r, e, h1, h2⟩ => by rw [e]; exact ⟨v, _, rfl, h1, RVs.take (n := n) h2⟩
theorem RVs.cutP {xs : List PV} {vs : List V} {lo hi : Option Int} (r : RVs K ρ H xs vs) : RVs K ρ H (cutP xs lo hi) (cutV vs lo hi) := by
  unfold Wg.cutP cutV
  rw [r.len]
  exact r.drop.take
noncomputable def fSl (x : PV) (lo hi : Option Int) (h : Store) : R PV := match x with
  | .tup xs => .ok (.tup (cutP xs lo hi)) h
  | .str z => if z.length ≤ sizeLine then .ok (.str (cutP z lo hi)) h else .no
  | x => match lstRd h x with
    | some xs => .ok (.lst (cutP xs lo hi)) h
    | none => .no
noncomputable def mSl (m : M PV) (lo hi : MO) : M PV := fun l h => (m l h).bind fun x h1 => (lo l h1).bind fun a h2 => (hi l h2).bind fun b h3 => fSl x a b h3
/-- t[lo:hi]: the whole of it is t itself -/
noncomputable def rSlG (K : PySem.W.Frag) : V → Option Int → Option Int → Hp → VK → Prop := fun x lo hi H Q => ∃ a xs, x = .ref a ∧ SqT K H a xs ∧
  (HT.sIx xs.length 0 lo = 0 ∧ HT.sIx xs.length xs.length hi = xs.length → Q (.ref a) H) ∧ (¬ (HT.sIx xs.length 0 lo = 0 ∧ HT.sIx xs.length xs.length hi = xs.length) → ∀ p o, H p = none → TupO (cutV xs lo hi) o → Q (.ref p) (upd H p o))
theorem sl_tupG : SlR X (rSlG X.K) := by
  intro pins s σ H x v vl vu lo hi sl Q I rx hs pl pu h
  obtain ⟨a, xs, rfl, hx, q1, q2⟩ := h
  cases rx
  obtain ⟨its, r, ht, hz⟩ := I.tuple hx
  have hlen : its.toArray.size = xs.length := by rw [List.size_toArray]; exact r.length.symm
  refine ⟨"tuple", _, PyProof.Rows.slot_tuple_getitem.lookup, ht.typeIs, ?_⟩
  by_cases hw : HT.sIx xs.length 0 lo = 0 ∧ HT.sIx xs.length xs.length hi = xs.length
  · exact getItem_tuple_whole ht hs pl pu (by rw [hlen]; exact hw) ⟨.ref a, H, I, rfl, q1 hw⟩
  · refine HT.getItem_tuple_cut ht hs pl pu (by rw [hlen]; exact hw) ?_ (by rw [hlen]; exact hz)
    rw [hlen]
    refine ⟨.ref s.heap.objs.size, _, I.laid (t' := s.toks) (o := tupH ((its.drop (HT.sIx xs.length 0 lo)).take (HT.sIx xs.length xs.length hi - HT.sIx xs.length 0 lo)) (cutV xs lo hi)) (fun b ob q => Heap.get?_push_of_some _ q) (Nat.le_refl _) ?_, rfl, q2 hw _ _ (I.hok.fresh (Nat.le_refl _)) (tupH_o _ _)⟩
    exact tupH_ok (Nat.le_trans (cutV_length xs lo hi) hz) ((r.drop (HT.sIx xs.length 0 lo)).take (HT.sIx xs.length xs.length hi - HT.sIx xs.length 0 lo)) (Heap.get?_push_size _ rfl)
noncomputable def rSlW (K : PySem.W.Frag) : V → Option Int → Option Int → Hp → VK → Prop := fun x lo hi H Q => rSlL K x lo hi H Q ∨ rSlG K x lo hi H Q ∨ rSlS x lo hi H Q
theorem sl_all : SlR X (rSlW X.K) := sl_list.or (sl_tupG.or sl_str)
theorem sx_sl {σ : L2.St} {x : PV} {v : V} {lo hi : Option Int} {Q : VK} (p : Rep K ρ h H) (r : RV K ρ H x v) (o : Out K ρ H (RV K) (fun c d H' => W c d σ H') (fSl x lo hi h) Q) : rSlW K v lo hi H Q := by
  unfold fSl at o
  split at o
  next xs =>
    obtain ⟨a, vs, e1, t, r1⟩ := tup_at r
    subst e1
    refine .inr (.inl ⟨a, vs, rfl, t, fun w => ?_, fun w q ob hq ho => ?_⟩)
    · have : cutP xs lo hi = xs := by
        unfold Wg.cutP
        rw [r1.len, w.1, w.2, List.drop_zero, Nat.sub_zero, ← r1.len, List.take_length]
      rw [this] at o
      exact o.ok p r
    · obtain ⟨x', p', r'⟩ := new_tupO p hq (r1.cutP (lo := lo) (hi := hi)) ho
      exact o ρ _ _ x' p' r'
  next z =>
    obtain ⟨c, o⟩ := out_if o
    rw [show v = _ from r]
    exact .inr (.inr ⟨_, rfl, by simpa [Str.length] using c, o.ok p (by
      show V.str (cutS ⟨z.toArray⟩ lo hi) = strV (cutP z lo hi)
      unfold cutS Wg.cutP
      simp [Str.length])⟩)
  next =>
    split at o
    next xs q =>
      obtain ⟨a, vs, e1, t, rs⟩ := lstRd_at p r q
      exact .inl ⟨a, vs, e1, t, fun q hq => let ⟨x', p', r'⟩ := new_lst p hq (rs.cutP (lo := lo) (hi := hi)); o ρ _ _ x' p' r'⟩
    next => exact o.elim
theorem xe_slice {lo hi : Option Expr} {ml mh : MO} {p2 : Pos} (he : XE X W e m) (hl : XO X W lo ml) (hh : XO X W hi mh) : XE X W (.Subscript e (.Slice lo hi none p2) pos) (mSl m ml mh) :=
  pe_weak (pe_slice sl_all he hl hh) fun σ H Q ⟨ρ, h, l, p, rl, o⟩ => ⟨ρ, h, l, p, rl, Out.mono (Out.bind o) fun v H1 ⟨x, h1, ρ1, e1, p1, r1, o1⟩ => ⟨ρ1, h1, l, p1, rl.ext e1, Out.mono (Out.bind o1) fun u H2 ⟨a, h2, ρ2, e2, p2, r2, o2⟩ => by
    subst r2
    exact ⟨ρ2, h2, l, p2, (rl.ext e1).ext e2, Out.mono (Out.bind o2) fun w H3 ⟨b, h3, ρ3, e3, p3, r3, o3⟩ => by
      subst r3
      exact sx_sl (W := W) (σ := σ) p3 ((r1.ext e2).ext e3) o3⟩⟩⟩
/-! ### is None -/
noncomputable def isNon : PV → Bool
  | .non => true
  | _ => false
noncomputable def fIs (x y : PV) (h : Store) : R PV := match y with
  | .non => .ok (.bl (isNon x)) h
  | _ => .no
theorem isNon_at {x : PV} {v : V} (r : RV K ρ H x v) : decide (v = .non) = isNon x := by
  cases x with
  | non => rw [show v = _ from r]; rfl
  | bl b => rw [show v = _ from r]; rfl
  | int b => rw [show v = _ from r]; rfl
  | str b => rw [show v = _ from r]; rfl
  | ty b => rw [show v = _ from r]; rfl
  | adr b => rw [show v = _ from r]; rfl
  | ref i => obtain ⟨p, _, e⟩ := r; rw [e]; rfl
  | tup xs => obtain ⟨p, _, e, _⟩ := r; rw [e]; rfl
  | lst xs => obtain ⟨p, _, e, _⟩ := r; rw [e]; rfl
  | scr xs => obtain ⟨p, _, e, _⟩ := r; rw [e]; rfl
  | dct xs => obtain ⟨p, _, e, _⟩ := r; rw [e]; rfl
  | dcT xs => obtain ⟨p, _, e, _⟩ := r; rw [e]; rfl
  | cls n => obtain ⟨p, _, e⟩ := r; rw [e]; rfl
  | ins n xs => obtain ⟨p, _, _, _, e, _⟩ := r; rw [e]; rfl
  | set xs => obtain ⟨p, _, e, _⟩ := r; rw [e]; rfl
  | dctO xs => obtain ⟨p, _, _, e, _⟩ := r; rw [e]; rfl
  | exn n => obtain ⟨p, _, _, _, e, _⟩ := r; rw [e]; rfl
  | lam f c q σ l => rw [r.1]; rfl
theorem ox_is : OpX X W fIs (fun x y H Q => y = .non ∧ Q (.bl (decide (x = .non))) H) := by
  intro ρ h σ H x y v w Q p rx ry o
  unfold fIs at o
  split at o
  next => exact ⟨ry, by rw [isNon_at rx]; exact o.ok p rfl⟩
  next => exact o.elim
theorem xt_is (ha : XE X W a ma) (hb : XE X W b mb) (hm : behindInMarks .Is b = false := by with_unfolding_all rfl) : XT X W (.Compare a [.Is] [b] pos) (mB (mBin fIs ma mb)) := xt_cmp op_isN ox_is ha hb hm

/-! ### targets (a, b, ..) -/
noncomputable abbrev MGs := List PV → Lv → Store → R Lv
noncomputable def tGs (K : KC) (W : WQ) (g : MGs) : TGs := fun vs σ H Q => ∃ ρ h l xs, Rep K ρ h H ∧ RL K ρ H l σ ∧ RVs K ρ H xs vs ∧ Out K ρ H (RL K) (fun c d H' => ∀ σ', W c d σ' H') (g xs l h) Q
theorem pgs_weak {es : List Expr} {t t' : TGs} (h : PGs X es t) (w : ∀ v σ H Q, t' v σ H Q → t v σ H Q) : PGs X es t' := ⟨fun pins s σ H v u Q I r q => h.run pins s σ H v u Q I r (w _ _ _ _ q)⟩
noncomputable abbrev XGs (X : Cx) (W : WQ) (es : List Expr) (g : MGs) : Prop := PGs X es (tGs (kc X W) W g)
noncomputable def gNilX : MGs := fun xs l h => match xs with
  | [] => .ok l h
  | _ => .no
noncomputable def gConsX (g : MG) (gs : MGs) : MGs := fun xs l h => match xs with
  | x :: r => (g x l h).noX.bind fun l1 h1 => gs r l1 h1
  | [] => .no
theorem xgs_nil : XGs X W [] gNilX := pgs_weak pgs_nil fun v σ H Q ⟨ρ, h, l, xs, p, rl, r, o⟩ => by
  cases xs with
  | nil => exact ⟨r, o.ok p rl⟩
  | cons x xs => exact o.elim
theorem xgs_cons {t : Expr} {ts : List Expr} {g : MG} {gs : MGs} (h1 : XG X W t g) (h2 : XGs X W ts gs) (hs : (assignEach (t :: ts) X.env).map (·.2) = assign t X.env :: (assignEach ts X.env).map (·.2) := by rfl) : XGs X W (t :: ts) (gConsX g gs) :=
  pgs_weak (pgs_cons h1 h2 hs) fun v σ H Q ⟨ρ, h, l, xs, p, rl, r, o⟩ => by
    cases xs with
    | nil => exact o.elim
    | cons x xs =>
      obtain ⟨v, rr, e, r1, r2⟩ := r
      refine ⟨v, rr, e, ρ, h, l, x, p, rl, r1, ?_⟩
      have o : Out (kc X W) ρ H (RL (kc X W)) (fun c d H' => ∀ σ', W c d σ' H') ((g x l h).noX.bind fun l1 h1 => gs xs l1 h1) Q := o
      cases q : g x l h with
      | no => rw [q] at o; exact o.elim
      | exc _ _ => rw [q] at o; exact o.elim
      | ok l1 h1 =>
        rw [q] at o
        exact fun ρ' H' σ' x' p' rl' => ⟨ρ', h1, l1, xs, p', rl', RVs.ext x' _ _ r2, Out.ext x' o⟩
noncomputable def gTupX (n : Nat) (g : MGs) : MG := fun x l h => match x with
  | .tup xs => if xs.length = n then g xs l h else .no
  | _ => .no
theorem xg_tup {ts : List Expr} {k : Nat} {g : MGs} {n : Nat} (hc : X.calm = true) (h : XGs X W ts g) (hn : (assignEach ts X.env).length = n := by rfl) (hst : (assignEach ts X.env).findIdx? (·.1) = none := by rfl) : XG X W (.Tuple ts k pos) (gTupX n g) :=
  pg_weak (pg_tup hc h hn hst) fun v σ H Q ⟨ρ, h, l, x, p, rl, r, o⟩ => by
    cases x with
    | tup xs =>
      obtain ⟨c, o⟩ := out_if o
      obtain ⟨a, vs, e, t, rs⟩ := tup_at r
      exact ⟨a, vs, e, t, by rw [← rs.len]; exact c, ρ, h, l, xs, p, rl, rs, o⟩
    | _ => exact o.elim
/-! .. within a block -/
noncomputable def tGsw (K : KC) (W : WQ) (vs : List Nat) (g : MGs) : TGs := fun us σ H Q => ∃ ρ h l xs, Rep K ρ h H ∧ RL K ρ H l σ ∧ RVs K ρ H xs us ∧ Out K ρ H (fun ρ' H' l' σ' => RL K ρ' H' l' σ' ∧ wipe σ' vs = wipe σ vs) (fun c d H' => ∀ σ', W c d σ' H') (g xs l h) Q
noncomputable abbrev XGsw (X : Cx) (W : WQ) (vs : List Nat) (es : List Expr) (g : MGs) : Prop := PGs X es (tGsw (kc X W) W vs g)
variable {vs : List Nat}
theorem xgsw_nil : XGsw X W vs [] gNilX := pgs_weak pgs_nil fun v σ H Q ⟨ρ, h, l, xs, p, rl, r, o⟩ => by
  cases xs with
  | nil => exact ⟨r, o.ok p ⟨rl, rfl⟩⟩
  | cons x xs => exact o.elim
theorem xgsw_cons {t : Expr} {ts : List Expr} {g : MG} {gs : MGs} (h1 : XGw X W vs t g) (h2 : XGsw X W vs ts gs) (hs : (assignEach (t :: ts) X.env).map (·.2) = assign t X.env :: (assignEach ts X.env).map (·.2) := by rfl) : XGsw X W vs (t :: ts) (gConsX g gs) :=
  pgs_weak (pgs_cons h1 h2 hs) fun v σ H Q ⟨ρ, h, l, xs, p, rl, r, o⟩ => by
    cases xs with
    | nil => exact o.elim
    | cons x xs =>
      obtain ⟨v, rr, e, r1, r2⟩ := r
      refine ⟨v, rr, e, ρ, h, l, x, p, rl, r1, ?_⟩
      have o : Out (kc X W) ρ H (fun ρ' H' l' σ' => RL (kc X W) ρ' H' l' σ' ∧ wipe σ' vs = wipe σ vs) (fun c d H' => ∀ σ', W c d σ' H') ((g x l h).noX.bind fun l1 h1 => gs xs l1 h1) Q := o
      cases q : g x l h with
      | no => rw [q] at o; exact o.elim
      | exc _ _ => rw [q] at o; exact o.elim
      | ok l1 h1 =>
        rw [q] at o
        rintro ρ' H' σ' x' p' ⟨rl', w'⟩
        refine ⟨ρ', h1, l1, xs, p', rl', RVs.ext x' _ _ r2, ?_⟩
        rw [w']
        exact Out.ext x' o
theorem xgw_tup {ts : List Expr} {k : Nat} {g : MGs} {n : Nat} (hc : X.calm = true) (h : XGsw X W vs ts g) (hn : (assignEach ts X.env).length = n := by rfl) (hst : (assignEach ts X.env).findIdx? (·.1) = none := by rfl) : XGw X W vs (.Tuple ts k pos) (gTupX n g) :=
  pg_weak (pg_tup hc h hn hst) fun v σ H Q ⟨ρ, h, l, x, p, rl, r, o⟩ => by
    cases x with
    | tup xs =>
      obtain ⟨c, o⟩ := out_if o
      obtain ⟨a, us, e, t, rs⟩ := tup_at r
      exact ⟨a, us, e, t, by rw [← rs.len]; exact c, ρ, h, l, xs, p, rl, rs, o⟩
    | _ => exact o.elim
end
end Wg

namespace Wg
open PySem PySem.Spec PyProof.Rows L2 SlX
section
variable {K : KC} {ρ ρ' : Pl} {H H' : Hp} {h : Store} {X : Cx} {W : WQ} {D : Ends} {pos : Pos} {a b e : Expr} {ma mb m : M PV} {k : Nat}
/-! ### what a dict holds -/
noncomputable def lookD (kvs : List (PV × PV)) (c : Key) : Option PV := (kvs.find? fun kv => decide (keyP kv.1 = some c)).map (·.2)
noncomputable def lookT (kvs : List (PV × PV)) (c : List Key) : Option PV := (kvs.find? fun kv => decide (keyT kv.1 = some c)).map (·.2)
/-- r is o's -/
noncomputable def Hld (K : KC) (ρ : Pl) (H : Hp) : Option PV → Option V → Prop
  | none, r => r = none
  | some x, r => ∃ w, r = some w ∧ RV K ρ H x w
theorem RVd.look {c : Key} : ∀ {kvs : List (PV × PV)} {vs : List (Key × V)}, RVd K ρ H kvs vs → Hld K ρ H (lookD kvs c) (valV vs c)
  | [], _, r => by rw [show _ = [] from r]; rfl
  | (k0, x) :: xs, _, ⟨c0, v, r, e1, e2, h1, h2⟩ => by
    subst e1
    by_cases z : c0 = c
    · subst z
      have e : lookD ((k0, x) :: xs) c0 = some x := by simp [lookD, List.find?_cons, e2]
      rw [e]
      exact ⟨v, valV_pos rfl, h1⟩
    · have e : lookD ((k0, x) :: xs) c = lookD xs c := by simp [lookD, List.find?_cons, e2, z]
      rw [e, valV_neg z]
      exact RVd.look h2
theorem RVt.look {c : List Key} : ∀ {kvs : List (PV × PV)} {vs : List (List Key × V)}, RVt K ρ H kvs vs → Hld K ρ H (lookT kvs c) (valV vs c)
  | [], _, r => by rw [show _ = [] from r]; rfl
  | (k0, x) :: xs, _, ⟨c0, v, r, e1, e2, h1, h2⟩ => by
    subst e1
    by_cases z : c0 = c
    · subst z
      have e : lookT ((k0, x) :: xs) c0 = some x := by simp [lookT, List.find?_cons, e2]
      rw [e]
      exact ⟨v, valV_pos rfl, h1⟩
    · have e : lookT ((k0, x) :: xs) c = lookT xs c := by simp [lookT, List.find?_cons, e2, z]
      rw [e, valV_neg z]
      exact RVt.look h2
/-- a tuple of keys is a key -/
theorem keys_at : ∀ {xs : List PV} {vs : List V} {cs : List Key}, keysP xs = some cs → RVs K ρ H xs vs → vs = cs.map kV
  | [], _, _, e, r => by cases e; exact r
  | x :: xs, _, cs, e, ⟨v, r, e1, h1, h2⟩ => by
    simp only [keysP, Option.bind_eq_some_iff, Option.map_eq_some_iff] at e
    obtain ⟨c, e2, cs', e3, rfl⟩ := e
    rw [e1, keyP_kV e2 h1, keys_at e3 h2]
    rfl
theorem keyT_at {k : PV} {v : V} {c : List Key} (e : keyT k = some c) (r : RV K ρ H k v) : ∃ b, v = .ref b ∧ H b = some (.tup (c.map kV)) := by
  cases k with
  | tup xs =>
    obtain ⟨p, vs, e1, t, rs⟩ := r
    obtain ⟨l, e⟩ := keyT_two e
    exact ⟨p, e1, by rw [t.exact (by rw [← rs.len]; exact l), keys_at e rs]⟩
  | _ => cases e
/-- the value for the key, if there is one: none where the dict or the key is of another kind -/
noncomputable def getD (h : Store) (d k : PV) : Option (Option PV) := match d with
  | .dct kvs => (keyP k).map (lookD kvs)
  | .dcT kvs => (keyT k).map (lookT kvs)
  | .ref i => match h[i]? with
    | some (.dct kvs) => (keyP k).map (lookD kvs)
    | some (.dcT kvs) => (keyT k).map (lookT kvs)
    | _ => none
  | _ => none
theorem getD_at (p : Rep K ρ h H) {d k : PV} {v u : V} {o : Option PV} (rd : RV K ρ H d v) (rk : RV K ρ H k u) (e : getD h d k = some o) : ∃ a r, v = .ref a ∧ DGet H a u r ∧ Hld K ρ H o r := by
  have kd : ∀ {a : Addr} {kvs : List (PV × PV)} {vs : List (Key × V)}, Rd H a (.dK vs) → RVd K ρ H kvs vs → (keyP k).map (lookD kvs) = some o → ∃ r, DGet H a u r ∧ Hld K ρ H o r := by
    intro a kvs vs ea rs e
    obtain ⟨c, e1, rfl⟩ := Option.map_eq_some_iff.mp e
    have eu := keyP_kV e1 rk
    subst eu
    exact ⟨valV vs c, .inl ⟨vs, c, ea, rfl, rfl⟩, rs.look⟩
  have kt : ∀ {a : Addr} {kvs : List (PV × PV)} {vs : List (List Key × V)}, Rd H a (.dT vs) → RVt K ρ H kvs vs → (keyT k).map (lookT kvs) = some o → ∃ r, DGet H a u r ∧ Hld K ρ H o r := by
    intro a kvs vs ea rs e
    obtain ⟨c, e1, rfl⟩ := Option.map_eq_some_iff.mp e
    obtain ⟨b, eu, eb⟩ := keyT_at e1 rk
    subst eu
    exact ⟨valV vs c, .inr ⟨vs, c, b, ea, rfl, eb, rfl⟩, rs.look⟩
  cases d with
  | dct kvs =>
    obtain ⟨a, vs, e1, t, rs⟩ := rd
    obtain ⟨r, g1, g2⟩ := kd t.2 rs e
    exact ⟨a, r, e1, g1, g2⟩
  | dcT kvs =>
    obtain ⟨a, vs, e1, t, rs⟩ := rd
    obtain ⟨r, g1, g2⟩ := kt t.2 rs e
    exact ⟨a, r, e1, g1, g2⟩
  | ref i =>
    obtain ⟨a, e1, e2⟩ := rd
    simp only [getD] at e
    cases q : h[i]? with
    | none => rw [q] at e; cases e
    | some c =>
      rw [q] at e
      have rc := p.at_ i c a q e1
      cases c with
      | dct kvs =>
        obtain ⟨vs, q1, rs⟩ := rc
        obtain ⟨r, g1, g2⟩ := kd (.inl q1) rs e
        exact ⟨a, r, e2, g1, g2⟩
      | dcT kvs =>
        obtain ⟨vs, q1, rs⟩ := rc
        obtain ⟨r, g1, g2⟩ := kt (.inl q1) rs e
        exact ⟨a, r, e2, g1, g2⟩
      | _ => cases e
  | _ => cases e
/-! ### o[i] of all kinds -/
noncomputable def rIxD2 : R2 := fun x y H Q => ∃ a v, x = .ref a ∧ DGet H a y (some v) ∧ Q v H
theorem ix_dict (hu : X.A.units + 1 < cLine) : IxR X rIxD2 := by
  intro value slice pins s σ H x y v u Q I rx ry h hs
  obtain ⟨a, z, rfl, g, q⟩ := h
  obtain rfl : v = Value.ref a := rx
  exact tail_any (ops := [.ref a, u]) (dict_typeIs I g) PySem.F.slot_dict_getitem.lookup (d_getItem hu I g ry fun w' s' I' rw' => ⟨z, H, I', rw', q⟩) hs
noncomputable def fIxA (x y : PV) (h : Store) : R PV := match getD h x y with
  | some (some z) => .ok z h
  | some none => .no
  | none => fIx x y h
theorem ox_ixA : OpX X W fIxA (fun x y H Q => rIx X.K x y H Q ∨ rIxD2 x y H Q) := by
  intro ρ h σ H x y v w Q p rx ry o
  unfold fIxA at o
  split at o
  next z q =>
    obtain ⟨a, r, e1, g, z', e2, rz⟩ := getD_at p rx ry q
    exact .inr ⟨a, z', e1, by rw [← e2]; exact g, o.ok p rz⟩
  next => exact o.elim
  next => exact .inl (ox_ix ρ h σ H x y v w Q p rx ry o)
theorem xe_ixA {kk : Nat} (hr : Room kk X.A) (ha : XE X W a ma) (hb : XE X W b mb) (hs : PlainIx b := by exact fun _ _ => rfl) : XE X W (.Subscript a b pos) (mBin fIxA ma mb) := pe_weak (pe_ix (ix_seq.or (ix_dict (hu_of hr))) ha hb hs) (tM_bin ox_ixA)
/-! ### in -/
noncomputable def flatP : PV → Bool
  | .non => true
  | .bl _ => true
  | .int _ => true
  | .str _ => true
  | _ => false
theorem flat_at {x : PV} {v : V} (f : flatP x = true) (r : RV K ρ H x v) : flatV v = true := by
  cases x <;> first | (cases f; done) | (rw [show v = _ from r]; rfl)
theorem flats_at : ∀ {xs : List PV} {vs : List V}, xs.all flatP = true → RVs K ρ H xs vs → vs.all flatV = true
  | [], _, _, r => by rw [show _ = [] from r]; rfl
  | x :: xs, _, f, ⟨v, r, e, h1, h2⟩ => by
    rw [List.all_cons, Bool.and_eq_true] at f
    rw [e, List.all_cons, flat_at f.1 h1, flats_at f.2 h2]; rfl
theorem eq_flat {x y : PV} {v w : V} (fx : flatP x = true) (fy : flatP y = true) (rx : RV K ρ H x v) (ry : RV K ρ H y w) : eqV v w = eqPV x y := by
  cases x <;> first | (cases fx; done) | skip
  all_goals (cases y <;> first | (cases fy; done) | skip)
  all_goals (rw [show v = _ from rx, show w = _ from ry])
  all_goals simp only [eqV, eqPV, strV]
  all_goals first
    | rfl
    | (exact str_beq _ _)
theorem any_flat {x : PV} {v : V} (fx : flatP x = true) (rx : RV K ρ H x v) : ∀ {xs : List PV} {vs : List V}, xs.all flatP = true → RVs K ρ H xs vs → inV v vs = xs.any fun y => eqPV y x
  | [], _, _, r => by rw [show _ = [] from r]; rfl
  | y :: xs, _, f, ⟨u, r, e, h1, h2⟩ => by
    rw [List.all_cons, Bool.and_eq_true] at f
    have ih := any_flat fx rx f.2 h2
    rw [e, List.any_cons, ← ih, ← eq_flat f.1 fx h1 rx]
    rfl
theorem any_data {x : PV} {d : PyData} (ex : toD x = some d) : ∀ {ys : List PV} {ds : List PyData}, toDs ys = some ds → (ds.any fun z => PyData.eqv z d) = ys.any fun y => eqPV y x
  | [], _, e => by cases e; rfl
  | y :: ys, ds, e => by
    simp only [toDs, Option.bind_eq_some_iff, Option.map_eq_some_iff] at e
    obtain ⟨d', e1, ds', e2, rfl⟩ := e
    rw [List.any_cons, List.any_cons, eqv_eq y x d' d e1 ex, any_data ex e2]
noncomputable def inB (x y : PV) (h : Store) : Option Bool := match getD h y x with
  | some o => some o.isSome
  | none => match y with
    | .str z => match x with
      | .str [c] => some (decide (c ∈ z))
      | _ => none
    | .tup ys => if (flatP x && ys.all flatP) = true then some (ys.any fun y => eqPV y x) else none
    | y => match lstRd h y with
      | some ys => if (okD 60 x && ys.all (okD 60)) = true then some (ys.any fun y => eqPV y x) else none
      | none => none
noncomputable def fIn (x y : PV) (h : Store) : R PV := match inB x y h with
  | some b => .ok (.bl b) h
  | none => .no
noncomputable def fNotIn (x y : PV) (h : Store) : R PV := match inB x y h with
  | some b => .ok (.bl (!b)) h
  | none => .no
noncomputable def rInW (K : PySem.W.Frag) (g : Bool → Bool) : R2 := fun x y H Q => (∃ (c : Nat) (z : Str), x = .str ⟨#[c]⟩ ∧ y = .str z ∧ Q (.bl (g (decide (c ∈ z.cps.toList)))) H) ∨
  (∃ p xs, y = .ref p ∧ (SqL K H p xs ∨ SqT K H p xs) ∧ flatV x = true ∧ xs.all flatV = true ∧ Q (.bl (g (inV x xs))) H) ∨
  (∃ d ds, Dp K H x d ∧ Dp K H y (.list ds) ∧ SeqAt.shaped d = true ∧ SeqAt.shaped (.list ds) = true ∧ Q (.bl (g (ds.any fun z => PyData.eqv z d))) H) ∨ (∃ a o, y = .ref a ∧ DGet H a x o ∧ Q (.bl (g o.isSome)) H)
theorem op_inW {kk : Nat} (hr : Room kk X.A) : OpR X (compareOp .In) (rInW X.K id) := op_in_sign.or (op_in_seq.or ((op_inD (by have := hr.un; omega)).or fun pins s σ H x y v u Q I rx ry h => by
  obtain ⟨a, o, rfl, g, q⟩ := h
  obtain rfl : u = Value.ref a := ry
  exact d_in (hu_of hr) I g rx fun s' I' => ⟨.bl _, H, I', rfl, q⟩))
theorem op_notInW {kk : Nat} (hr : Room kk X.A) : OpR X (compareOp .NotIn) (rInW X.K not) := op_notIn_sign.or (op_notIn_seq.or ((op_notInD (by have := hr.un; omega)).or fun pins s σ H x y v u Q I rx ry h => by
  obtain ⟨a, o, rfl, g, q⟩ := h
  obtain rfl : u = Value.ref a := ry
  exact d_notIn (hu_of hr) I g rx fun s' I' => ⟨.bl _, H, I', rfl, q⟩))
theorem okDs_at {n : Nat} {ys : List PV} (hs : ys.all (okD n) = true) : ∃ ds, toDs ys = some ds ∧ PyData.canLayAll0 ds = true ∧ PyData.depthAll ds ≤ n := okD_all (okD_at n) ys hs
theorem inB_at (p : Rep K ρ h H) {g : Bool → Bool} {x y : PV} {v w : V} {b : Bool} {Q : VK} (rx : RV K ρ H x v) (ry : RV K ρ H y w) (e : inB x y h = some b) (q : Q (.bl (g b)) H) : rInW K g v w H Q := by
  unfold inB at e
  split at e
  next o qd =>
    cases e
    obtain ⟨a, r, e1, gg, er⟩ := getD_at p ry rx qd
    refine .inr (.inr (.inr ⟨a, r, e1, gg, ?_⟩))
    cases o with
    | none => rw [show r = none from er]; exact q
    | some z => obtain ⟨u, e2, _⟩ := er; rw [e2]; exact q
  next =>
    split at e
    next z _ =>
      split at e
      next c _ =>
        cases e
        rw [show v = _ from rx, show w = _ from ry]
        exact .inl ⟨c, _, rfl, rfl, q⟩
      next => cases e
    next ys _ =>
      by_cases c : (flatP x && ys.all flatP) = true
      · rw [if_pos c] at e
        cases e
        rw [Bool.and_eq_true] at c
        obtain ⟨a, vs, e1, t, rs⟩ := tup_at ry
        exact .inr (.inl ⟨a, vs, e1, .inr t, flat_at c.1 rx, flats_at c.2 rs, by rw [any_flat c.1 rx c.2 rs]; exact q⟩)
      · rw [if_neg c] at e; cases e
    next =>
      split at e
      next ys qy =>
        by_cases c : (okD 60 x && ys.all (okD 60)) = true
        · rw [if_pos c] at e
          cases e
          rw [Bool.and_eq_true] at c
          obtain ⟨a, vs, e1, t, rs⟩ := lstRd_at p ry qy
          obtain ⟨d, d1, d2, d3⟩ := okD_at 60 x c.1
          obtain ⟨ds, s1, s2, s3⟩ := okDs_at c.2
          refine .inr (.inr (.inl ⟨d, ds, toD_dp x v d rx d1, by rw [e1]; exact .lst t (toDs_dp ys vs ds rs s1), ?_, ?_, by rw [any_data d1 s1]; exact q⟩))
          · show (_ && decide _) = true
            rw [d2, decide_eq_true (show d.depth ≤ 64 by omega)]; rfl
          · show (PyData.canLay0 (.list ds) && decide (PyData.depth (.list ds) ≤ 64)) = true
            have : PyData.depth (.list ds) ≤ 64 := by simp only [PyData.depth]; omega
            rw [decide_eq_true this]
            simp only [PyData.canLay0, s2, Bool.and_self]
        · rw [if_neg c] at e; cases e
      next => cases e
theorem ox_in : OpX X W fIn (rInW X.K id) := by
  intro ρ h σ H x y v w Q p rx ry o
  unfold fIn at o
  split at o
  next b q => exact inB_at p rx ry q (o.ok p rfl)
  next => exact o.elim
theorem ox_notIn : OpX X W fNotIn (rInW X.K not) := by
  intro ρ h σ H x y v w Q p rx ry o
  unfold fNotIn at o
  split at o
  next b q => exact inB_at p rx ry q (o.ok p rfl)
  next => exact o.elim
theorem xe_in {kk : Nat} (hr : Room kk X.A) (ha : XE X W a ma) (hb : XE X W b mb) (hm : behindInMarks .In b = false := by with_unfolding_all rfl) : XE X W (.Compare a [.In] [b] pos) (mBin fIn ma mb) := xe_cmp (op_inW hr) ox_in ha hb hm
theorem xt_in {kk : Nat} (hr : Room kk X.A) (ha : XE X W a ma) (hb : XE X W b mb) (hm : behindInMarks .In b = false := by with_unfolding_all rfl) : XT X W (.Compare a [.In] [b] pos) (mB (mBin fIn ma mb)) := xt_cmp (op_inW hr) ox_in ha hb hm
theorem xt_notIn {kk : Nat} (hr : Room kk X.A) (ha : XE X W a ma) (hb : XE X W b mb) (hm : behindInMarks .NotIn b = false := by with_unfolding_all rfl) : XT X W (.Compare a [.NotIn] [b] pos) (mB (mBin fNotIn ma mb)) := xt_cmp (op_notInW hr) ox_notIn ha hb hm
end
end Wg

namespace Wg
open PySem PySem.Spec PyProof.Rows L2 SlX
section
variable {K : KC} {ρ ρ' : Pl} {H H' : Hp} {h : Store} {X : Cx} {W : WQ} {D : Ends} {pos : Pos} {a b e : Expr} {ma mb m : M PV} {k : Nat}
/-! ### d[k] = v -/
noncomputable def keyEqT (a b : PV) : Bool := decide (keyT a = keyT b)
noncomputable def putT (kvs : List (PV × PV)) (k v : PV) : List (PV × PV) :=
  if (kvs.any fun kv => keyEqT kv.1 k) = true then kvs.map fun kv => if keyEqT kv.1 k = true then (kv.1, v) else kv else kvs ++ [(k, v)]
theorem RVt.any {k : PV} {c : List Key} (e : keyT k = some c) : ∀ {kvs : List (PV × PV)} {vs : List (List Key × V)}, RVt K ρ H kvs vs → (kvs.any fun kv => keyEqT kv.1 k) = vs.any fun kv => decide (kv.1 = c)
  | [], _, r => by rw [show _ = [] from r]; rfl
  | (k0, x) :: xs, _, ⟨c0, v, r, e1, e2, h1, h2⟩ => by
    subst e1
    rw [List.any_cons, List.any_cons, RVt.any e h2]
    congr 1
    show decide (keyT k0 = keyT k) = decide (c0 = c)
    rw [e2, e]
    by_cases z : c0 = c
    · subst z; simp
    · rw [decide_eq_false (fun q => z (Option.some.inj q)), decide_eq_false z]
theorem RVt.repl {k : PV} {c : List Key} {y : PV} {u : V} (e : keyT k = some c) (ry : RV K ρ H y u) : ∀ {kvs : List (PV × PV)} {vs : List (List Key × V)}, RVt K ρ H kvs vs →
    RVt K ρ H (kvs.map fun kv => if keyEqT kv.1 k = true then (kv.1, y) else kv) (vs.map fun kv => if kv.1 = c then (kv.1, u) else kv)
  | [], _, r => by rw [show _ = [] from r]; rfl
  | (k0, x) :: xs, _, ⟨c0, v, r, e1, e2, h1, h2⟩ => by
    subst e1
    have ih := RVt.repl e ry h2
    rw [List.map_cons, List.map_cons]
    show RVt K ρ H ((if decide (keyT k0 = keyT k) = true then (k0, y) else (k0, x)) :: _) ((if c0 = c then (c0, u) else (c0, v)) :: _)
    rw [e2, e]
    by_cases z : c0 = c
    · subst z
      rw [if_pos (by simp), if_pos rfl]
      exact ⟨c0, u, _, rfl, e2, ry, ih⟩
    · rw [if_neg (by rw [decide_eq_false (fun q => z (Option.some.inj q))]; exact Bool.false_ne_true), if_neg z]
      exact ⟨c0, v, _, rfl, e2, h1, ih⟩
theorem RVt.app : ∀ {kvs ls : List (PV × PV)} {vs ws : List (List Key × V)}, RVt K ρ H kvs vs → RVt K ρ H ls ws → RVt K ρ H (kvs ++ ls) (vs ++ ws)
  | [], _, _, _, r, q => by rw [show _ = [] from r]; exact q
  | (k0, x) :: xs, _, _, _, ⟨c0, v, r, e1, e2, h1, h2⟩, q => by subst e1; exact ⟨c0, v, _, rfl, e2, h1, RVt.app h2 q⟩
theorem RVt.len : ∀ {kvs : List (PV × PV)} {vs : List (List Key × V)}, RVt K ρ H kvs vs → kvs.length = vs.length
  | [], _, r => by rw [show _ = [] from r] <;> rfl
  | (k0, x) :: xs, _, ⟨c0, v, r, e1, e2, h1, h2⟩ => by subst e1; rw [List.length_cons, List.length_cons, RVt.len h2]
theorem RVt.put {k : PV} {c : List Key} {y : PV} {u : V} (e : keyT k = some c) (ry : RV K ρ H y u) {kvs : List (PV × PV)} {vs : List (List Key × V)} (r : RVt K ρ H kvs vs) : RVt K ρ H (putT kvs k y) (putK vs c u) := by
  unfold putT putK
  rw [r.any e]
  split
  · exact r.repl e ry
  · exact r.app ⟨c, u, [], rfl, e, ry, rfl⟩
noncomputable def fSetA (x y z : PV) (h : Store) : R Unit := match x with
  | .ref i => match h[i]? with
    | some (.lst xs) => match y with
      | .int k => match ixN xs.length k with
        | some j => .ok () (h.set i (.lst (xs.set j z)))
        | none => .no
      | _ => .no
    | some (.dct kvs) => if (keyP y).isSome = true ∧ kvs.length < 1000000 then .ok () (h.set i (.dct (putP kvs y z))) else .no
    | some (.dcT kvs) => if (keyT y).isSome = true ∧ kvs.length < 1000000 then .ok () (h.set i (.dcT (putT kvs y z))) else .no
    | _ => .no
  | _ => .no
noncomputable def rSetA : TSet := fun o i v H Q => rSetL o i v H Q ∨ rSetD o i v H Q
theorem set_all (hu : X.A.units + 1 < cLine) : PSet X rSetA := fun pins s σ H o i v ov iv u Q I ro ri rv h => h.elim (fun h => set_list pins s σ H o i v ov iv u Q I ro ri rv h) fun h => set_dict hu pins s σ H o i v ov iv u Q I ro ri rv h
theorem small_line {n : Nat} (h : n < 1000000) : n < sizeLine := Nat.lt_trans h (by decide)
theorem sx_all : SetX X W fSetA rSetA := by
  intro ρ h H x y z v w u Q p rx ry rz o
  unfold fSetA at o
  split at o
  next i =>
    obtain ⟨a, e1, e2⟩ := rx
    split at o
    next xs q =>
      split at o
      next k =>
        split at o
        next j q2 =>
          obtain ⟨vs, q1, rs⟩ := p.at_ i _ a q e1
          rw [show w = _ from ry]
          refine .inl ⟨a, vs, k, j, e2, rfl, q1, by rw [← rs.len]; exact q2, ?_⟩
          obtain ⟨x', p'⟩ := put_lst p ⟨e1, by rw [q]; intro z; cases z⟩ (rs.set (i := j) rz)
          exact o ρ _ () x' p' trivial
        next => exact o.elim
      next => exact o.elim
    next kvs q =>
      obtain ⟨⟨c1, c2⟩, o⟩ := out_if o
      obtain ⟨vs, q1, rs⟩ := p.at_ i _ a q e1
      obtain ⟨c, hc⟩ := Option.isSome_iff_exists.mp c1
      have eu := keyP_kV hc ry
      subst eu
      have x' : Ext ρ H ρ (upd H a (.dK (putK vs c u))) := Ext.upd_in (List.mem_of_getElem? e1) _
      refine .inr ⟨a, _, e2, .inl ⟨vs, c, q1, rfl, by rw [← rs.len]; exact small_line c2, rfl⟩, ?_⟩
      exact o ρ _ () x' (p.put e1 (.inl (by rw [q]; intro z; cases z)) ⟨_, upd_same, (RVd.ext x' _ _ rs).put hc (rz.ext x')⟩) trivial
    next kvs q =>
      obtain ⟨⟨c1, c2⟩, o⟩ := out_if o
      obtain ⟨vs, q1, rs⟩ := p.at_ i _ a q e1
      obtain ⟨c, hc⟩ := Option.isSome_iff_exists.mp c1
      obtain ⟨b, eu, eb⟩ := keyT_at hc ry
      subst eu
      have x' : Ext ρ H ρ (upd H a (.dT (putK vs c u))) := Ext.upd_in (List.mem_of_getElem? e1) _
      refine .inr ⟨a, _, e2, .inr ⟨vs, c, b, q1, rfl, eb, by rw [← rs.len]; exact small_line c2, rfl⟩, ?_⟩
      exact o ρ _ () x' (p.put e1 (.inl (by rw [q]; intro z; cases z)) ⟨_, upd_same, (RVt.kp x'.kp _ _ rs).put hc (rz.ext x')⟩) trivial
    next => exact o.elim
  next => exact o.elim
theorem xg_subA {kk : Nat} (hk : Room kk X.A) (ha : XE X W a ma) (hb : XE X W b mb) (hr : ∀ v, assign (.Subscript a b pos) X.env v = (do
      let ov ← holding [v] (eval a X.env)
      let iv ← holding [v, ov] (eval b X.env)
      standAt pos
      holding [v, ov, iv] (setItem ov iv v)
      release [v, ov, iv] []) := by intro _; rfl) : XG X W (.Subscript a b pos) (gSubX fSetA ma mb) := xg_sub ha hb (set_all (hu_of hk)) sx_all hr
/-! ### len of dicts, dict displays to be changed -/
noncomputable def dctRd (h : Store) : PV → Option Nat
  | .dct kvs => some kvs.length
  | .ref i => match h[i]? with
    | some (.dct kvs) => some kvs.length
    | some (.dcT kvs) => some kvs.length
    | _ => none
  | _ => none
noncomputable def fLenA (xs : List PV) (h : Store) : R PV := match xs with
  | [x] => match dctRd h x with
    | some n => .ok (.int n) h
    | none => fLen [x] h
  | _ => .no
theorem call_lenRd : CallR X (.builtin "len") (fun xs H Q => ∃ a kvs, xs = [V.ref a] ∧ Rd H a (.dK kvs) ∧ Q (.int kvs.length) H) := by
  intro pins s σ H xs us Q I r h
  obtain ⟨a, kvs, rfl, e, q⟩ := h
  rw [Vals.ref1 r]
  exact d_len I e fun t s' I' => ⟨.int _, H, I', ⟨t, rfl⟩, q⟩
noncomputable def rLenA (K : PySem.W.Frag) : List V → Hp → VK → Prop := fun xs H Q => (∃ x n, xs = [x] ∧ LenV K x H n ∧ Q (.int n) H) ∨ (∃ a kvs, xs = [V.ref a] ∧ Rd H a (.dK kvs) ∧ Q (.int kvs.length) H) ∨ rLenT xs H Q
theorem cr_lenA : CallR X (.builtin "len") (rLenA X.K) := call_len.or (call_lenRd.or call_len_dT)
theorem cx_lenA : CallX X W fLenA (rLenA X.K) := by
  intro ρ h σ H xs vs Q p r o
  unfold fLenA at o
  split at o
  next x =>
    split at o
    next n q =>
      obtain ⟨v, e, r1⟩ := rvs1 r
      cases x with
      | dct kvs =>
        cases q
        obtain ⟨a, ws, e1, t, rs⟩ := r1
        exact .inr (.inl ⟨a, ws, by rw [e, e1], t.2, by rw [← rs.len]; exact o.ok p rfl⟩)
      | ref i =>
        obtain ⟨a, e1, e2⟩ := r1
        simp only [dctRd] at q
        cases qc : h[i]? with
        | none => rw [qc] at q; cases q
        | some c =>
          rw [qc] at q
          have rc := p.at_ i c a qc e1
          cases c with
          | dct kvs =>
            cases q
            obtain ⟨ws, q1, rs⟩ := rc
            exact .inr (.inl ⟨a, ws, by rw [e, e2], .inl q1, by rw [← rs.len]; exact o.ok p rfl⟩)
          | dcT kvs =>
            cases q
            obtain ⟨ws, q1, rs⟩ := rc
            exact .inr (.inr ⟨a, ws, by rw [e, e2], q1, by rw [← rs.len]; exact o.ok p rfl⟩)
          | _ => cases q
      | _ => cases q
    next => exact .inl (cx_len ρ h σ H _ vs Q p r o)
  next => exact o.elim
/-! ### zip of tuples or lists, enumerate -/
noncomputable def pairs (xs ys : List PV) : List PV := List.zipWith (fun x y => .tup [x, y]) xs ys
/-- a walk over two rows at once -/
theorem yields_pairs {J : It} {xs ys : List PV} {vs ws : List V} (rx : RVs K ρ H xs vs) (ry : RVs K ρ H ys ws)
    (hgo : ∀ (i : Nat) ρ' h' H', Kp ρ H ρ' H' → Rep K ρ' h' H' → ∀ v w, vs[i]? = some v → ws[i]? = some w → J.go i H')
    (hstop : ∀ (i : Nat) ρ' h' H', Kp ρ H ρ' H' → Rep K ρ' h' H' → (vs.length ≤ i ∨ ws.length ≤ i) → J.stop i H')
    (hy : ∀ (i : Nat) ρ' h' H' x H2, Kp ρ H ρ' H' → Rep K ρ' h' H' → J.yld i H' x H2 → ∃ T v w, x = .ref T ∧ H' T = none ∧ H2 = upd H' T (.tup [v, w]) ∧ vs[i]? = some v ∧ ws[i]? = some w) : Yields K ρ H J (pairs xs ys) where
  go := fun i ρ' h' H' k p hi => by
    unfold pairs at hi
    rw [List.length_zipWith] at hi
    obtain ⟨v, e1, _⟩ := rx.get (i := i) (x := xs[i]'(by omega)) (by simp)
    obtain ⟨w, e2, _⟩ := ry.get (i := i) (x := ys[i]'(by omega)) (by simp)
    exact hgo i ρ' h' H' k p v w e1 e2
  stop := fun i ρ' h' H' k p hi => by
    unfold pairs at hi
    rw [List.length_zipWith, rx.len, ry.len] at hi
    exact hstop i ρ' h' H' k p (by omega)
  yld := fun i ρ' h' H' y x H2 k p e q => by
    obtain ⟨T, v, w, e1, hT, e2, e3, e4⟩ := hy i ρ' h' H' x H2 k p q
    unfold pairs at e
    rw [List.getElem?_zipWith] at e
    cases q1 : xs[i]? with
    | none => rw [q1] at e; simp at e
    | some x0 =>
      cases q2 : ys[i]? with
      | none => rw [q1, q2] at e; simp at e
      | some y0 =>
        rw [q1, q2] at e
        simp only [Option.some.injEq] at e
        obtain ⟨v', e5, r5⟩ := rx.get q1
        obtain ⟨w', e6, r6⟩ := ry.get q2
        rw [e3] at e5; cases e5
        rw [e4] at e6; cases e6
        subst e; subst e1; subst e2
        obtain ⟨x', p', r'⟩ := new_tup p hT (xs := [x0, y0]) (vs := [v, w]) ⟨v, [w], rfl, RV.kp k _ _ r5, w, [], rfl, RV.kp k _ _ r6, rfl⟩ (Nat.le_refl 2)
        exact ⟨x', p', r'⟩
noncomputable def fZip (xs : List PV) (h : Store) : R (List PV) := match xs with
  | [.tup xs, .tup ys] => .ok (pairs xs ys) h
  | [.lst xs, .lst ys] => .ok (pairs xs ys) h
  | [.scr xs, .scr ys] => .ok (pairs xs ys) h
  | _ => .no
theorem xi_zip {elts : List Expr} {kk : Nat} {tpos p0 : Pos} {ms : M (List PV)} (hm : X.mg "zip" = none) (ha : XA X W [a, b] ms) (hg : Gl X "zip" := by rfl) (hs : starEach [a, b] X.env = (false, eval a X.env) :: starEach [b] X.env := by rfl) (hpl : (backTo pos (starEach [b] X.env)).any (·.1) = false := by rfl) :
    XI X W (.Tuple elts kk tpos) (.Call (.Name "zip" p0) [a, b] [] pos) (mItC fZip ms) :=
  pi_weak (RZ.pi_zipA hg hm ha hs hpl) fun σ H R ⟨ρ, h, l, p, rl, o⟩ => ⟨ρ, h, l, p, rl, Out.mono (Out.bind o) fun vs H1 ⟨xs, h1, ρ1, e1, p1, r1, o1⟩ => by
    unfold fZip at o1
    split at o1
    next xs ys =>
      obtain ⟨v, w, e, ⟨a, us, e4, t4, rs4⟩, ⟨b, ws, e5, t5, rs5⟩⟩ := rvs2 r1
      exact ⟨a, b, us, ws, by rw [e, e4, e5], .inr ⟨t4.sq (K := kc X W), t5.sq (K := kc X W), o1.ok p1 (yields_pairs rs4 rs5
        (fun i ρ' h' H' k p x y q1 q2 => ⟨us, ws, x, y, (t4.kp (K := kc X W) k).sq, (t5.kp (K := kc X W) k).sq, q1, q2⟩)
        (fun i ρ' h' H' k p q => ⟨us, ws, (t4.kp (K := kc X W) k).sq, (t5.kp (K := kc X W) k).sq, q⟩)
        (fun i ρ' h' H' x H2 k p ⟨T, x0, y0, q1, q2, q3, q4, q5⟩ => ⟨T, x0, y0, q1, q2, q3, q4 us (t4.kp (K := kc X W) k).sq, q5 ws (t5.kp (K := kc X W) k).sq⟩))⟩⟩
    next xs ys =>
      obtain ⟨v, w, e, ⟨a, us, e4, t4, rs4⟩, ⟨b, ws, e5, t5, rs5⟩⟩ := rvs2 r1
      exact ⟨a, b, us, ws, by rw [e, e4, e5], .inl ⟨SqL.of t4.2, SqL.of t5.2, o1.ok p1 (yields_pairs rs4 rs5
        (fun i ρ' h' H' k p x y q1 q2 => ⟨us, ws, x, y, SqL.of (t4.kp k).2, SqL.of (t5.kp k).2, q1, q2⟩)
        (fun i ρ' h' H' k p q => ⟨us, ws, SqL.of (t4.kp k).2, SqL.of (t5.kp k).2, q⟩)
        (fun i ρ' h' H' x H2 k p ⟨T, x0, y0, q1, q2, q3, q4, q5⟩ => ⟨T, x0, y0, q1, q2, q3, q4 us (SqL.of (t4.kp k).2), q5 ws (SqL.of (t5.kp k).2)⟩))⟩⟩
    next xs ys =>
      obtain ⟨v, w, e, ⟨a, us, e4, t4, rs4⟩, ⟨b, ws, e5, t5, rs5⟩⟩ := rvs2 r1
      exact ⟨a, b, us, ws, by rw [e, e4, e5], .inl ⟨t4.sq, t5.sq, o1.ok p1 (yields_pairs rs4 rs5
        (fun i ρ' h' H' k p x y q1 q2 => ⟨us, ws, x, y, (t4.kp k).sq, (t5.kp k).sq, q1, q2⟩)
        (fun i ρ' h' H' k p q => ⟨us, ws, (t4.kp k).sq, (t5.kp k).sq, q⟩)
        (fun i ρ' h' H' x H2 k p ⟨T, x0, y0, q1, q2, q3, q4, q5⟩ => ⟨T, x0, y0, q1, q2, q3, q4 us (t4.kp k).sq, q5 ws (t5.kp k).sq⟩))⟩⟩
    next => exact o1.elim⟩
theorem RVs.range (n : Nat) : RVs K ρ H ((List.range n).map fun (i : Nat) => .int (i : Int)) ((List.range n).map fun (i : Nat) => V.int (i : Int)) := by
  generalize List.range n = l
  induction l with
  | nil => rfl
  | cons a l ih => exact ⟨_, _, rfl, rfl, ih⟩
end
end Wg

namespace Wg
open PySem PySem.Spec PyProof.Rows L2 SlX
/-! ### tuples of texts in their order -/
noncomputable def ltTx : List (List Nat) → List (List Nat) → Bool
  | [], [] => false
  | [], _ :: _ => true
  | _ :: _, [] => false
  | x :: xs, y :: ys => if x = y then ltTx xs ys else decide (x < y)
theorem ltTx_irrefl : ∀ x, ltTx x x = false
  | [] => rfl
  | x :: xs => by rw [ltTx, if_pos rfl]; exact ltTx_irrefl xs
theorem nl_trich (x y : List Nat) : x < y ∨ x = y ∨ y < x := by
  by_cases h : x < y
  · exact .inl h
  · by_cases h2 : y < x
    · exact .inr (.inr h2)
    · exact .inr (.inl (List.le_antisymm (List.not_lt.mp h2) (List.not_lt.mp h)))
theorem ltTx_asym : ∀ x y, ltTx x y = true → ltTx y x = false
  | [], [], h => by cases h
  | [], _ :: _, _ => rfl
  | _ :: _, [], h => by cases h
  | x :: xs, y :: ys, h => by
    rw [ltTx] at h ⊢
    by_cases e : x = y
    · rw [if_pos e] at h; rw [if_pos e.symm]; exact ltTx_asym xs ys h
    · rw [if_neg e] at h; rw [if_neg (Ne.symm e)]
      exact decide_eq_false (List.lt_asymm (of_decide_eq_true h))
/-- not above, three times -/
theorem ltTx_tr : ∀ x y z, ltTx y x = false → ltTx z y = false → ltTx z x = false
  | _, _, [], h1, h2 => by
    rename_i x y
    cases x with
    | nil => rfl
    | cons a x =>
      cases y with
      | nil => cases h1
      | cons b y => cases h2
  | [], _, c :: z, _, _ => rfl
  | a :: x, [], c :: z, h1, _ => by cases h1
  | a :: x, b :: y, c :: z, h1, h2 => by
    rw [ltTx] at h1 h2 ⊢
    have le1 : a < b ∨ a = b := by
      by_cases e : b = a
      · exact .inr e.symm
      · rw [if_neg e] at h1
        rcases nl_trich a b with q | q | q
        · exact .inl q
        · exact .inr q
        · exact absurd q (of_decide_eq_false h1)
    have le2 : b < c ∨ b = c := by
      by_cases e : c = b
      · exact .inr e.symm
      · rw [if_neg e] at h2
        rcases nl_trich b c with q | q | q
        · exact .inl q
        · exact .inr q
        · exact absurd q (of_decide_eq_false h2)
    by_cases e : c = a
    · subst e
      rw [if_pos rfl]
      have eb : b = c := by
        rcases le1 with l1 | l1
        · rcases le2 with l2 | l2
          · exact absurd l2 (List.lt_asymm l1)
          · exact l2
        · exact l1.symm
      subst eb
      rw [if_pos rfl] at h1 h2
      exact ltTx_tr x y z h1 h2
    · rw [if_neg e]
      refine decide_eq_false fun q => ?_
      rcases le1 with l1 | l1
      · rcases le2 with l2 | l2
        · exact List.lt_asymm (List.lt_trans l1 l2) q
        · subst l2; exact List.lt_asymm l1 q
      · subst l1
        rcases le2 with l2 | l2
        · exact List.lt_asymm l2 q
        · exact e l2.symm
theorem ltTx_total : ∀ x y, ltTx x y = false → ltTx y x = false → x = y
  | [], [], _, _ => rfl
  | [], _ :: _, h, _ => by cases h
  | _ :: _, [], _, h => by cases h
  | x :: xs, y :: ys, h1, h2 => by
    rw [ltTx] at h1 h2
    by_cases e : x = y
    · subst e
      rw [if_pos rfl] at h1 h2
      rw [ltTx_total xs ys h1 h2]
    · rw [if_neg e] at h1
      rw [if_neg (Ne.symm e)] at h2
      rcases nl_trich x y with q | q | q
      · exact absurd q (of_decide_eq_false h1)
      · exact absurd q e
      · exact absurd q (of_decide_eq_false h2)
theorem swo_tx {α : Type} (k : α → List (List Nat)) : SrtO.Swo fun x y => ltTx (k x) (k y) := ⟨fun x y h => ltTx_asym _ _ h, fun x y z h1 h2 => ltTx_tr _ _ _ h1 h2⟩
/-- values that are these texts -/
noncomputable def Txs : List Value → List (List Nat) → Prop
  | [], [] => True
  | v :: vs, x :: xs => (∃ t, v = .str ⟨x.toArray⟩ t) ∧ Txs vs xs
  | _, _ => False
noncomputable def IsTx (h : Heap) (v : Value) (l : List (List Nat)) : Prop := l ≠ [] ∧ ∃ (a : Addr) (o : Obj) (its : List Value) (n : Nat), v = .ref a ∧ h.get? a = some o ∧ o.cls = .type "tuple" ∧ o.data = .seq its.toArray n ∧ Txs its l
theorem Txs.len : ∀ {vs : List Value} {l : List (List Nat)}, Txs vs l → vs.length = l.length
  | [], [], _ => rfl
  | v :: vs, x :: xs, h => by rw [List.length_cons, List.length_cons, Txs.len h.2]
  | [], _ :: _, h => h.elim
  | _ :: _, [], h => h.elim
section
variable {prog : Program} {w : World} {A : Around} {s : Shared}
theorem tx_lex : ∀ {l1 l2 : List (List Nat)} {v1 v2 : List Value} {fin : Bool} {i : Nat}, Txs v1 l1 → Txs v2 l2 → fin = decide (l1.length < l2.length) → PySem.W.KatLex prog w A true fin (fun r s' => s' = s ∧ r = ltTx l1 l2) (v1.zip v2) i s
  | [], [], [], [], fin, i, _, _, e => ⟨rfl, e⟩
  | [], y :: ys, [], v :: vs, fin, i, _, _, e => ⟨rfl, by rw [e]; simp [ltTx]⟩
  | x :: xs, [], v :: vs, [], fin, i, _, _, e => ⟨rfl, by rw [e]; simp [ltTx]⟩
  | x :: xs, y :: ys, v :: vs, u :: us, fin, i, ⟨⟨t, e1⟩, h1⟩, ⟨⟨t', e2⟩, h2⟩, e => by
    subst e1; subst e2
    refine PySem.W.kat_cons (SeqAt.EqAt.str_str _ t _ t' prog w _ _ ?_)
    rw [str_beq]
    refine PySem.W.kat_go (fun eq => ?_) (fun ne => ?_)
    · have : x = y := of_decide_eq_true eq
      subst this
      refine PySem.W.kat_yes ?_
      have r : ltTx (x :: xs) (x :: ys) = ltTx xs ys := by rw [ltTx, if_pos rfl]
      rw [r]
      exact tx_lex h1 h2 (by rw [e]; simp)
    · have hne : ¬ x = y := of_decide_eq_false ne
      refine PySem.W.kat_no ?_
      have r : ltTx (x :: xs) (y :: ys) = decide (x < y) := by rw [ltTx, if_neg hne]
      rw [r]
      cases q : (true && i == 0) with
      | true => exact oneLt_str ⟨rfl, rfl⟩
      | false => exact PySem.W.kat_one _ _ (PyProof.Rows.lt_str ⟨rfl, rfl⟩)
  | _ :: _, _, [], _, _, _, h, _, _ => h.elim
  | [], _, _ :: _, _, _, _, h, _, _ => h.elim
  | _, _ :: _, _, [], _, _, _, h, _ => h.elim
  | _, [], _, _ :: _, _, _, _, h, _ => h.elim
theorem IsTx.keeps {h h' : Heap} {v : Value} {l : List (List Nat)} (x : IsTx h v l) (k : ∀ b o, h.get? b = some o → o.cls = .type "tuple" → h'.get? b = some o) : IsTx h' v l := by
  obtain ⟨ne, a, o, its, n, e, ho, hc, hd, t⟩ := x
  exact ⟨ne, a, o, its, n, e, k a o ho hc, hc, hd, t⟩
theorem tx_cmp {vs : List Value} {k : Value → List (List Nat)} (hp : ∀ v ∈ vs, IsTx s.heap v (k v)) : SrtO.Cmp prog w A s (tuples' true) (fun p => p.1 ∈ vs) (SrtO.lt2 fun v u => ltTx (k v) (k u)) := by
  intro p q hm hm'
  obtain ⟨_, a, o, its, n, e, ho, hc, hd, t⟩ := hp _ hm
  obtain ⟨_, a', o', its', n', e', ho', hc', hd', t'⟩ := hp _ hm'
  show wpAny (model prog w) A (keyLt' (tuples' true) p.1 q.1) (fun r s' => s' = s ∧ r = ltTx (k p.1) (k q.1)) (fun _ _ => False) s
  generalize k p.1 = l1 at t ⊢
  generalize k q.1 = l2 at t' ⊢
  rw [e, e']
  refine PySem.W.kat_lt ho hd ho' hd' ?_
  exact tx_lex t t' (by simp only [List.size_toArray]; rw [t.len, t'.len])
theorem tx_firsts {h : Heap} : ∀ {vs : List Value}, (∀ v ∈ vs, ∃ l, IsTx h v l) → ∃ fs : List Value, PySem.W.KatTups h vs fs ∧ fs.length = vs.length ∧ ∀ f ∈ fs, ∃ x t, f = Value.str x t
  | [], _ => ⟨[], PySem.W.KatTups.nil, rfl, fun _ hm => by simp at hm⟩
  | v :: vs, hp => by
    obtain ⟨fs, h1, h2, h3⟩ := tx_firsts (vs := vs) fun v' hm => hp v' (List.mem_cons_of_mem _ hm)
    obtain ⟨l, ne, a, o, its, n, e, ho, hc, hd, t⟩ := hp v List.mem_cons_self
    cases its with
    | nil => cases l with
      | nil => exact absurd rfl ne
      | cons x xs => exact t.elim
    | cons f its =>
      cases l with
      | nil => exact t.elim
      | cons x xs =>
        obtain ⟨⟨tk, e1⟩, _⟩ := t
        subst e
        refine ⟨f :: fs, PySem.W.KatTups.cons ho hc hd (by simp) h1, by rw [List.length_cons, List.length_cons, h2], fun g hg => ?_⟩
        rcases List.mem_cons.mp hg with q | q
        · exact ⟨_, tk, by rw [q, e1]⟩
        · exact h3 g q
theorem tx_sortable {a : Addr} {vs : List Value} {k : Value → List (List Nat)} (h0 : 0 < vs.length) (hp : ∀ v ∈ vs, IsTx s.heap v (k v)) (ha : ∀ o, s.heap.get? a = some o → o.cls ≠ .type "tuple") : SrtO.SortableO prog w A s a vs fun v u => ltTx (k v) (k u) := by
  intro h' keep
  have hp' : ∀ v ∈ vs, IsTx h' v (k v) := fun v hm => (hp v hm).keeps fun b o e c => keep b o (fun z => by subst z; exact ha o e c) e
  obtain ⟨fs, h1, h2, h3⟩ := tx_firsts fun v hm => ⟨_, hp' v hm⟩
  refine ⟨tuples' true, fun Q E hq => ?_, tx_cmp hp'⟩
  refine PySem.W.kat_kind (T := .type "str") h1 (by omega) (fun f hm => ?_) (by rfl) ?_
  · obtain ⟨x, t, rfl⟩ := h3 f hm
    exact PySem.W.Looks.now
  · have e : (Value.type "str" != Value.type "tuple") = true := by first | decide +kernel | rfl | decide
    rw [e]
    exact hq
theorem sorted_tx {l : Addr} {vs : List Value} {k : Value → List (List Nat)} {E : Value → Shared → Prop} {Q : Value → Shared → Prop} (hl : s.heap.IsList l vs.toArray) (hz : vs.length ≤ sizeLine) (hp : ∀ v ∈ vs, IsTx s.heap v (k v))
    (h : ∀ (h' : Heap) (d : Addr) (out : List Value), SrtO.Srtd (fun v u => ltTx (k v) (k u)) out → SrtO.Stb (fun v u => ltTx (k v) (k u)) out vs → (∀ b o, s.heap.get? b = some o → h'.get? b = some o) → s.heap.objs.size ≤ d → (∃ n, h'.get? d = some (seqObj "list" out.toArray n)) → Q (.ref d) { s with heap := h' }) :
    wpAny (model prog w) A (call (.builtin "sorted") [.ref l]) Q E s := by
  refine SrtO.sorted_ord (swo_tx k) hl hz (fun h2 h1 a ha kk => ?_) fun out hs hb => h _ _ out hs hb (fun b o e => sortedAll_old e) (Nat.le_succ _) (sortedAll_at s.heap vs out.toArray)
  refine tx_sortable (s := { s with heap := h1 }) (by omega) (fun v hm => (hp v hm).keeps fun b o e _ => (kk b o e).2) fun o e => ?_
  have e' : some o = some (seqObj "list" vs.toArray 0) := e.symm.trans ha
  cases e'
  intro c
  exact absurd (Value.type.inj c) (by decide)
end
end Wg

namespace Wg
open PySem PySem.Spec PyProof.Rows L2 SlX
/-! ### a sort that keeps equal ones in their order -/
noncomputable def ins {α : Type} (lt : α → α → Bool) (x : α) : List α → List α
  | [] => [x]
  | y :: ys => if lt y x = true then y :: ins lt x ys else x :: y :: ys
noncomputable def isort {α : Type} (lt : α → α → Bool) (l : List α) : List α := l.foldr (ins lt) []
section
variable {α : Type} {lt : α → α → Bool}
theorem ins_perm (x : α) : ∀ l : List α, (ins lt x l).Perm (x :: l)
  | [] => List.Perm.refl _
  | y :: ys => by
    unfold ins
    split
    · exact (List.Perm.cons y (ins_perm x ys)).trans (List.Perm.swap x y ys)
    · exact List.Perm.refl _
theorem isort_perm : ∀ l : List α, (isort lt l).Perm l
  | [] => List.Perm.refl _
  | x :: xs => (ins_perm x _).trans (List.Perm.cons x (isort_perm xs))
theorem ins_srtd (O : SrtO.Swo lt) (x : α) : ∀ {l : List α}, SrtO.Srtd lt l → SrtO.Srtd lt (ins lt x l)
  | [], _ => List.pairwise_singleton _ _
  | y :: ys, h => by
    obtain ⟨h1, h2⟩ := List.pairwise_cons.mp h
    unfold ins
    cases e : lt y x with
    | true =>
      rw [if_pos rfl]
      refine List.pairwise_cons.mpr ⟨fun z hz => ?_, ins_srtd O x h2⟩
      rcases List.mem_cons.mp ((ins_perm x ys).mem_iff.mp hz) with q | q
      · rw [q]; exact O.asym y x e
      · exact h1 z q
    | false =>
      rw [if_neg (by simp)]
      refine List.pairwise_cons.mpr ⟨fun z hz => ?_, h⟩
      rcases List.mem_cons.mp hz with q | q
      · rw [q]; exact e
      · exact O.tr x y z e (h1 z q)
theorem isort_srtd (O : SrtO.Swo lt) : ∀ l : List α, SrtO.Srtd lt (isort lt l)
  | [] => List.Pairwise.nil
  | x :: xs => ins_srtd O x (isort_srtd O xs)
theorem ins_cls (O : SrtO.Swo lt) (x z : α) : ∀ l : List α, (ins lt x l).filter (SrtO.eqv lt z) = (x :: l).filter (SrtO.eqv lt z)
  | [] => rfl
  | y :: ys => by
    unfold ins
    cases e : lt y x with
    | false => rw [if_neg (by simp)]
    | true =>
      rw [if_pos rfl]
      have ih := ins_cls O x z ys
      -- y and x are not both like z
      have no : ¬ (SrtO.eqv lt z y = true ∧ SrtO.eqv lt z x = true) := fun ⟨a, b⟩ => by
        obtain ⟨a1, a2⟩ := SrtO.eqv_iff.mp a
        obtain ⟨b1, b2⟩ := SrtO.eqv_iff.mp b
        have := O.tr x z y b1 a2
        rw [e] at this; cases this
      rw [List.filter_cons (x := y), ih, List.filter_cons (x := x) (xs := ys), List.filter_cons (x := x) (xs := y :: ys), List.filter_cons (x := y) (xs := ys)]
      by_cases q1 : SrtO.eqv lt z y = true
      · have q2 : ¬ SrtO.eqv lt z x = true := fun q => no ⟨q1, q⟩
        simp only [q1, q2, if_true, if_false, Bool.false_eq_true]
      · simp only [q1, if_false, Bool.false_eq_true]
theorem isort_stb (O : SrtO.Swo lt) : ∀ l : List α, SrtO.Stb lt (isort lt l) l
  | [] => SrtO.Stb.refl _
  | x :: xs => ⟨isort_perm _, fun z => by
    show (ins lt x (isort lt xs)).filter _ = _
    rw [ins_cls O, List.filter_cons, List.filter_cons, (isort_stb O xs).cls z]⟩
theorem isort_uniq (O : SrtO.Swo lt) {l m : List α} (h1 : SrtO.Srtd lt m) (h2 : SrtO.Stb lt m l) : m = isort lt l :=
  SrtO.stb_uniq O h1 (isort_srtd O l) (h2.trans ⟨(isort_stb O l).perm.symm, fun z => ((isort_stb O l).cls z).symm⟩)
end
section
variable {K : KC} {ρ ρ' : Pl} {H H' : Hp} {h : Store} {X : Cx} {W : WQ} {pos : Pos}
/-- the texts of a tuple -/
noncomputable def txOf : PV → Option (List (List Nat))
  | .tup xs => strsOf xs
  | _ => none
noncomputable def txV (H : Hp) : V → List (List Nat)
  | .ref t => match H t with
    | some (.tup ws) => ws.map fun
      | .str s => s.cps.toList
      | _ => []
    | some (.frz _ (.tup ws)) => ws.map fun
      | .str s => s.cps.toList
      | _ => []
    | _ => []
  | _ => []
theorem txOf_at {x : PV} {v : V} {l : List (List Nat)} (r : RV K ρ H x v) (e : txOf x = some l) : ∃ t, v = .ref t ∧ Rd H t (.tup (l.map strV)) ∧ txV H v = l := by
  cases x with
  | tup xs =>
    obtain ⟨p, vs, e1, t, rs⟩ := r
    have e2 : vs = l.map strV := by
      have := strsOf_at rs e
      rw [this, List.map_map]
      rfl
    subst e1; subst e2
    refine ⟨p, rfl, t.read, ?_⟩
    show (match H p with | some (.tup ws) => ws.map _ | some (.frz _ (.tup ws)) => ws.map _ | _ => []) = l
    rcases t.read with q | ⟨ob, q⟩ <;> rw [q] <;> simp [strV, Function.comp_def]
  | _ => cases e
noncomputable def ltP2 (x y : PV) : Bool := ltTx ((txOf x).getD []) ((txOf y).getD [])
theorem RVs.ins {x : PV} {v : V} {l : List (List Nat)} (r : RV K ρ H x v) (e : txOf x = some l) : ∀ {xs : List PV} {vs : List V}, RVs K ρ H xs vs → (∀ y ∈ xs, (txOf y).isSome = true) → RVs K ρ H (Wg.ins ltP2 x xs) (Wg.ins (fun a b => ltTx (txV H a) (txV H b)) v vs)
  | [], _, rs, _ => by rw [show _ = [] from rs]; exact ⟨v, [], rfl, r, rfl⟩
  | y :: ys, _, ⟨w, ws, e1, h1, h2⟩, hs => by
    subst e1
    obtain ⟨ly, ey⟩ := Option.isSome_iff_exists.mp (hs y List.mem_cons_self)
    obtain ⟨_, _, _, k1⟩ := txOf_at r e
    obtain ⟨_, _, _, k2⟩ := txOf_at h1 ey
    have c : ltP2 y x = ltTx (txV H w) (txV H v) := by unfold ltP2; rw [e, ey, k1, k2]; rfl
    unfold Wg.ins
    rw [c]
    split
    · exact ⟨w, _, rfl, h1, RVs.ins r e h2 fun z hz => hs z (List.mem_cons_of_mem _ hz)⟩
    · exact ⟨v, _, rfl, r, w, ws, rfl, h1, h2⟩
theorem RVs.isort : ∀ {xs : List PV} {vs : List V}, RVs K ρ H xs vs → (∀ y ∈ xs, (txOf y).isSome = true) → RVs K ρ H (Wg.isort ltP2 xs) (Wg.isort (fun a b => ltTx (txV H a) (txV H b)) vs)
  | [], _, rs, _ => by rw [show _ = [] from rs]; rfl
  | x :: xs, _, ⟨v, ws, e1, h1, h2⟩, hs => by
    subst e1
    obtain ⟨l, e⟩ := Option.isSome_iff_exists.mp (hs x List.mem_cons_self)
    have hs' : ∀ y ∈ xs, (txOf y).isSome = true := fun z hz => hs z (List.mem_cons_of_mem _ hz)
    exact RVs.ins h1 e (RVs.isort h2 hs') fun y hy => hs' y ((isort_perm xs).mem_iff.mp hy)
/-- sorted(list of tuples of texts) -/
noncomputable def rSortedTx (K : PySem.W.Frag) : List V → Hp → VK → Prop := fun vs H Q => ∃ (a : Addr) (xs : List V), vs = [V.ref a] ∧ SqL K H a xs ∧ (∀ x ∈ xs, txV H x ≠ [] ∧ ∃ t, x = V.ref t ∧ Rd H t (.tup ((txV H x).map strV))) ∧
  ∀ p, H p = none → Q (.ref p) (upd H p (.lst (isort (fun a b => ltTx (txV H a) (txV H b)) xs)))
theorem vals_txs : ∀ {l : List (List Nat)} {us : List Value}, Vals (l.map strV) us → Txs us l
  | [], _, r => by cases r; trivial
  | x :: l, _, r => by
    cases r with
    | cons h t => exact ⟨h, vals_txs t⟩
theorem cr_sortedTx : CallR X (.builtin "sorted") (rSortedTx X.K) := by
  intro pins s σ H vs us Q I r h
  obtain ⟨a, xs, rfl, hs, hx, q⟩ := h
  obtain ⟨its, rv, hl, hz⟩ := I.list hs
  rw [Vals.ref1 r]
  obtain ⟨e1, e2⟩ := refs_back rv fun x m => by
    obtain ⟨_, t, e, _⟩ := hx x m
    exact ⟨t, e⟩
  refine sorted_tx (k := fun u => txV H (backV u)) hl.isList (by rw [← rv.length]; exact hz) (fun v hv => ?_) fun h' d out h1 h2 kp hd hn => ?_
  · obtain ⟨t, rfl⟩ := e2 v hv
    have hm : V.ref t ∈ xs := by rw [e1]; exact List.mem_map.mpr ⟨_, hv, rfl⟩
    obtain ⟨ne, t', e, ht⟩ := hx _ hm
    cases e
    obtain ⟨_, its2, r2, o, ho, hc, n, hd⟩ := ht.ok I.hok
    exact ⟨ne, t, o, its2, n, rfl, ho, hc, hd, vals_txs r2⟩
  · have h3 : ∀ u ∈ out, ∃ a, u = Value.ref a := fun u hu => e2 u (h2.perm.mem_iff.mp hu)
    obtain ⟨n, hn⟩ := hn
    have O : SrtO.Swo fun a b : V => ltTx (txV H a) (txV H b) := swo_tx (txV H)
    have hb : SrtO.Stb (fun a b : V => ltTx (txV H a) (txV H b)) (out.map backV) xs := by
      rw [e1]
      exact SrtO.Stb.map O backV h2
    have eo := isort_uniq O (SrtO.srtd_map (lt := fun a b : V => ltTx (txV H a) (txV H b)) (f := backV) h1) hb
    have q := q d (I.hok.fresh hd)
    rw [← eo] at q
    refine ⟨.ref d, upd H d (.lst (out.map backV)), I.laid (t' := s.toks) kp hd ⟨?_, out, n, vals_back h3, hn⟩, rfl, q⟩
    rw [hb.len]
    exact hz
/-- .. of texts, below 64 -/
noncomputable def ltL (x y : List Nat) : Bool := decide (x < y)
theorem swo_l : SrtO.Swo ltL := ⟨fun x y h => decide_eq_false (List.lt_asymm (of_decide_eq_true h)), fun x y z h1 h2 => decide_eq_false fun q => by
  have h1 := of_decide_eq_false h1
  have h2 := of_decide_eq_false h2
  rcases nl_trich y z with k | k | k
  · rcases nl_trich x y with j | j | j
    · exact List.lt_asymm (List.lt_trans j k) q
    · subst j; exact List.lt_asymm k q
    · exact h1 j
  · subst k; exact h1 q
  · exact h2 k⟩
theorem isortL_uniq {l m : List (List Nat)} (p : m.Perm l) (s : SrtO.Srtd ltL m) : m = isort ltL l :=
  List.Perm.eq_of_pairwise (le := fun x y => ltL y x = false) (fun a b _ _ h1 h2 => by
    rcases nl_trich a b with k | k | k
    · exact absurd k (of_decide_eq_false h2)
    · exact k
    · exact absurd k (of_decide_eq_false h1)) s (isort_srtd swo_l l) (p.trans (isort_perm l).symm)
end
end Wg

namespace Wg
open PySem PySem.Spec PyProof.Rows L2 SlX
/-! ### set(xs), whatever stands in it -/
section
variable {P : Program} {w : World} {A : Around} {E : Value → Shared → Prop} {s : Shared}
/-- C i: what the heap tells when i items are in the set at S; it does not look at wr -/
structure AddOk (P : Program) (w : World) (A : Around) (S : Addr) (wr : List Addr) (n : Nat) (Pv : Nat → Value → Prop) (C : Nat → Heap → Prop) : Prop where
  keep : ∀ i h h', C i h → (∀ b o, b ∉ wr → h.get? b = some o → h'.get? b = some o) → C i h'
  add : ∀ i v (s : Shared) (Q : Bool → Shared → Prop) (E : Value → Shared → Prop), i < n → Pv i v → C i s.heap →
    (∀ b h' tk, Heap.SameBut S s.heap h' → s.toks ≤ tk → C (i + 1) h' → Q b { s with heap := h', toks := tk }) → wpAny (model P w) A (setAdd S v) Q E s
theorem update_gen {I : Addr} {fp wr : List Addr} {G : Array GenState → Array GenState → Prop} {n : Nat} {Pv : Nat → Value → Prop} {St : Nat → Shared → Prop} {R : Result → Shared → Prop} {C : Nat → Heap → Prop}
    (W : WalksS P w A.in1 I fp wr G n Pv St) (S : Addr) (hSf : S ∉ fp) (K : AddOk P w A.in1 S wr n Pv C) :
    ∀ (k i : Nat) (s : Shared), n - i = k → i ≤ n → St i s → C i s.heap → (∀ s', Moved (S :: wr) G s s' → C n s'.heap → R (.ok (.ret .none)) s') →
      codeAny (model P w) A (.builtin "set.update.loop" ⟨[.ref S, .ref I], []⟩) R s := by
  have up : ∀ b ∈ wr, b ∈ S :: wr := fun b hb => List.mem_cons_of_mem _ hb
  intro k
  induction k with
  | zero =>
    intro i s hk hi hst hC hR
    obtain rfl : i = n := by omega
    refine codeAny_builtin F.entry_set_update_loop ?_
    rw [Around.under_plainId F.plain_set_update_loop _]
    show wpAny _ A.in1 (pyNext (.ref I) >>= _) _ _ s
    refine wpAny_bind (W.done s _ _ hst fun s' hm => ?_)
    show wpAny _ A.in1 (ret Value.none) _ _ s'
    exact wpAny_pure (hR s' (hm.mono up) (K.keep _ _ _ hC hm.heap))
  | succ k ih =>
    intro i s hk hi hst hC hR
    have hlt : i < n := by omega
    refine codeAny_builtin F.entry_set_update_loop ?_
    rw [Around.under_plainId F.plain_set_update_loop _]
    show wpAny _ A.in1 (pyNext (.ref I) >>= _) _ _ s
    refine wpAny_bind (W.item i s _ _ hlt hst fun v s' hP hst' hm => ?_)
    show wpAny _ A.in1 (holding [v] (setAdd S v) >>= _) _ _ s'
    refine wpAny_bind (wpAny_holding (K.add i v s' _ _ hlt hP (K.keep _ _ _ hC hm.heap) fun b h' tk sb tle hC' => ?_))
    have oth : ∀ c o, c ≠ S → s'.heap.get? c = some o → h'.get? c = some o := fun c o hc e => (sb.2 c hc).trans e
    refine wpAny_pure ⟨plainId_quiet F.plain_set_update_loop _, ih (i + 1) _ (by omega) hlt (W.frame _ s' _ _ hst' tle fun c hc o e => oth c o (fun z => hSf (z ▸ hc)) e) hC' fun s'' hm2 hC2 => ?_⟩
    exact hR s'' (Moved.trans W.gtrans ((hm.mono up).then_heap tle fun c o hc e => oth c o (fun z => hc (by rw [z]; exact List.mem_cons_self)) e) hm2) hC2
/-- a new set -/
noncomputable abbrev setObj0 (w : World) : Obj := { cls := .type "set", dict := none, data := .set #[] 0 (.fresh 0 0 (!w.params.followText "set-order")) }
set_option maxHeartbeats 3200000 in
theorem call_setL {l : Addr} {items : Array Value} {C : Nat → Heap → Prop} {Q : Value → Shared → Prop} (hh : A.handled = none) (hl : s.heap.IsList l items)
    (h0 : ∀ h', h'.get? s.heap.objs.size = some (setObj0 w) → (∀ b o, s.heap.get? b = some o → h'.get? b = some o) → C 0 h')
    (K : ∀ A' : Around, A'.units ≤ A.units + 4 → AddOk P w A' s.heap.objs.size [s.heap.objs.size + 1] items.size (fun i v => items[i]? = some v) C)
    (h : ∀ (h' : Heap) (tk : Nat), C items.size h' → (∀ b o, s.heap.get? b = some o → h'.get? b = some o) → Q (.ref s.heap.objs.size) { s with heap := h', toks := tk }) :
    wpAny (model P w) A (call (.type "set") [.ref l]) Q E s := by
  obtain ⟨c, tl, hmro⟩ := F.called_set.mro
  have hmade := F.called_set.made
  have hsub := F.called_set.sub
  refine wpAny_call (codeAny_of_tree ?_)
  show wpAny _ _ (callAny (.type "set") _) _ _ _
  refine wpAny_pure ⟨Code.quiet_builtin _ (by decide +kernel), codeAny_builtin F.entry_type_call ?_⟩
  rw [Around.under_plain (weight_type_call_type "set" [.ref l] []) rfl]
  have h1 := F.called_set.notType
  have h2 := F.called_set.canCreate
  have hct := F.typeCall_set_1 (.ref l)
  repeat (any_goals (first | assumption | wp_step))
  refine codeAny_mono (code_set_led1 (.ref l) (E := E) (Q₁ := fun obj s₁ => obj = .ref s.heap.objs.size ∧ s₁ = { s with heap := s.heap.push (setObj0 w) }) ⟨rfl, rfl⟩) fun r s₁ hr => ?_
  cases r with
  | error e => exact hr
  | ok fl =>
    cases fl with
    | ret obj =>
      obtain ⟨rfl, rfl⟩ := hr
      have hS : (s.heap.push (setObj0 w)).get? s.heap.objs.size = some (setObj0 w) := Heap.get?_push_size _ rfl
      have hT : Shared.TypeIs { s with heap := s.heap.push (setObj0 w) } (.ref s.heap.objs.size) "set" := ⟨_, hS, rfl⟩
      have hli := F.called_set.init.lookup
      have hbi := F.called_set.init.bind (.ref s.heap.objs.size)
      repeat (any_goals (first | assumption | wp_step))
      refine codeAny_mono (codeAny_call_builtin (R := wants (fun r s₂ => r = .none ∧ ∃ h' tk, s₂ = { s with heap := h', toks := tk } ∧ C items.size h' ∧ (∀ b o, s.heap.get? b = some o → h'.get? b = some o)) E)
        F.called_set.init.plain F.entry_set_init (check_set_init_1 hT ?_)) fun r₂ s₂ hr₂ => ?_
      · obtain ⟨⟨ocls, odict, odata, oslots⟩, hol, hcl, nl, hdl⟩ := hl
        simp only at hcl hdl
        subst hcl; subst hdl
        have hsls := F.sub_list_set
        have hslf := F.sub_list_frozenset
        have hne : (Value.type "list" == Value.type "dict") = false := by decide
        have hol' : (s.heap.push (setObj0 w)).get? l = some { cls := .type "list", dict := odict, data := .seq items nl, slots := oslots } := Heap.get?_push_of_some _ hol
        have hl1 : (s.heap.push (setObj0 w)).IsList l items := ⟨_, hol', rfl, nl, rfl⟩
        have hsz : (s.heap.push (setObj0 w)).objs.size = s.heap.objs.size + 1 := Heap.size_push ..
        have hlS : l < s.heap.objs.size := Heap.lt_size hol
        unfold Builtin.«set.__init__» noKeywords Builtin.Frozenset.updateFrom
        generalize hPI : pyIter = PI
        wp_walk
        subst hPI
        refine wpAny_pyIter_list hl1 ?_
        refine wpAny_bind (wpAny_runValue ?_)
        have hh3 : A.in1.in1.in1.handled = none := by simp [hh]
        have hneI : l ≠ (s.heap.push (setObj0 w)).objs.size := by rw [hsz]; exact Nat.ne_of_lt (Nat.lt_succ_of_lt hlS)
        have hSf : s.heap.objs.size ∉ [(s.heap.push (setObj0 w)).objs.size, l] := by
          rw [hsz]; simp only [List.mem_cons, List.not_mem_nil, or_false, not_or]
          exact ⟨Nat.ne_of_lt (Nat.lt_succ_self _), Nat.ne_of_gt hlS⟩
        have old : ∀ b o, s.heap.get? b = some o → ((s.heap.push (setObj0 w)).push { cls := .type "list_iterator", data := .fields #[.ref l, .int 0 0] }).get? b = some o := fun b o e => Heap.get?_push_of_some _ (Heap.get?_push_of_some _ e)
        have Kx : AddOk P w A.in1.in1.in1 s.heap.objs.size [(s.heap.push (setObj0 w)).objs.size] items.size (fun i v => items[i]? = some v) C := by
          rw [hsz]; exact K _ (Nat.le_succ _)
        refine update_gen ((Walks.list hh3 _ l hneI items).toS) s.heap.objs.size hSf Kx (items.size - 0) 0 _ (by omega) (Nat.zero_le _) ⟨⟨_, Heap.get?_push_size _ rfl, rfl, rfl⟩, (hl1.push _)⟩
          (h0 _ (Heap.get?_push_of_some _ hS) old) ?_
        intro s' hm hC
        obtain ⟨h', g2, d', tk', os'⟩ := s'
        have eg : g2 = s.gens := hm.gens
        have ed : d' = s.drawn := hm.drawn
        have eo : os' = s.os := hm.os
        subst eg; subst ed; subst eo
        show wpAny _ _ _ _ _ _
        refine wpAny_pure ?_
        show wpAny _ _ (ret Value.none) _ _ _
        refine wpAny_pure ⟨rfl, h', tk', rfl, hC, fun b o e => ?_⟩
        have hb := Heap.lt_size e
        refine hm.heap b o ?_ (old b o e)
        rw [hsz]; simp only [List.mem_cons, List.not_mem_nil, or_false, not_or]
        exact ⟨Nat.ne_of_lt hb, Nat.ne_of_lt (Nat.lt_succ_of_lt hb)⟩
      · cases r₂ with
        | error e => exact hr₂
        | ok fl₂ =>
          cases fl₂ with
          | ret r =>
            obtain ⟨rfl, h', tk, rfl, hC, hk⟩ := hr₂
            repeat (any_goals (first | assumption | wp_step))
            exact h _ _ hC hk
          | _ => exact hr₂.elim
    | _ => exact hr.elim
end
end Wg

namespace Wg
open PySem PySem.Spec PyProof.Rows L2 SlX
/-! ### sets of texts -/
noncomputable def keyS (e : Int × Value) : List Nat := match e.2 with
  | .str x _ => x.cps.toList
  | _ => []
noncomputable def GoodT (w : World) (e : Int × Value) : Prop := ∃ x t, e.2 = Value.str ⟨List.toArray x⟩ t ∧ e.1 = hashStr w ⟨List.toArray x⟩
/-- a member more, behind the others -/
noncomputable def addP {α : Type} [DecidableEq α] (L : List α) (x : α) : List α := if x ∈ L then L else L ++ [x]
/-- the set of texts at a -/
noncomputable def TxSet (w : World) (h : Heap) (a : Addr) (L : List (List Nat)) : Prop :=
  ∃ o es ep t, h.get? a = some o ∧ o.ExactSet ∧ o.data = .set es ep t ∧ (∀ e ∈ es.toList, GoodT w e) ∧ (es.toList.map keyS).Perm L ∧ L.Nodup ∧ es.size < scanBound ∧ t.fits es.size = true ∧ Ris t.place.toList ∧ (w.params.followText "set-order" = true ∨ t.led = true)
section
variable {P : Program} {w : World} {A : Around} {E : Value → Shared → Prop} {s : Shared} {a : Addr} {L : List (List Nat)}
theorem TxSet.at_ {h h' : Heap} (R : TxSet w h a L) (k : ∀ o, h.get? a = some o → h'.get? a = some o) : TxSet w h' a L := by
  obtain ⟨o, es, ep, t, ho, r⟩ := R
  exact ⟨o, es, ep, t, k o ho, r⟩
theorem GoodT.is {e : Int × Value} (g : GoodT w e) (x : List Nat) : (PySem.strKind P w).is ⟨x.toArray⟩ e.2 = true ↔ keyS e = x := by
  obtain ⟨y, t, h1, _⟩ := g
  unfold keyS
  rw [h1]
  show Value.isStrOf ⟨x.toArray⟩ (Value.str ⟨y.toArray⟩ t) = true ↔ (y.toArray.toList = x)
  constructor
  · intro q
    obtain ⟨u, q⟩ := Value.isStrOf_shape q
    injection q with q
    injection q with q
    rw [q]
  · intro q
    have q : y = x := q
    subst q
    exact strKind_is P w ⟨y.toArray⟩ t
theorem good_elemsT {l : List (Int × Value)} (g : ∀ e ∈ l, GoodT w e) : ElemsOf (PySem.strKind P w) l := fun e he => by
  obtain ⟨x, t, h1, h2⟩ := g e he
  exact ⟨⟨⟨x.toArray⟩, by rw [h1]; exact strKind_is P w ⟨x.toArray⟩ t, h2⟩, by rw [h1]; rfl⟩
theorem TxSet.fresh {h : Heap} (ho : h.get? a = some (setObj0 w)) : TxSet w h a [] :=
  ⟨_, #[], 0, _, ho, ⟨rfl, rfl, rfl⟩, rfl, (fun e he => by simp at he), List.Perm.refl _, List.nodup_nil, (by decide), (by rfl), List.Pairwise.nil, by
    show _ ∨ (!w.params.followText "set-order") = true
    cases w.params.followText "set-order"
    · exact .inr rfl
    · exact .inl rfl⟩
/-- what is laid into the table, and the table laid anew when it is too full -/
theorem tx_tail {g : Bool → Sem Unit} (hg : ∀ (b : Bool) (s₁ : Shared) (Q' : Unit → Shared → Prop), Q' () s₁ → wpAny (model P w) A (g b) Q' E s₁)
    {o : Obj} {es : Array (Int × Value)} {ep : Nat} {t : SetTable} (ho : s.heap.get? a = some o) (hex : o.ExactSet) (hd : o.data = .set es ep t)
    {es1 : Array (Int × Value)} {t2 : SetTable} {L1 : List (List Nat)} (g1 : ∀ e ∈ es1.toList, GoodT w e) (p1 : (es1.toList.map keyS).Perm L1) (nd1 : L1.Nodup)
    (hb1 : es1.size < scanBound) (hf2 : t2.fits es1.size = true) (hr : Ris t2.place.toList) (hl : w.params.followText "set-order" = true ∨ t2.led = true) {wasDummy : Bool} {R : Option Bool → Shared → Prop}
    (hR : ∀ h', Heap.SameBut a s.heap h' → TxSet w h' a L1 → R (some true) { s with heap := h' }) :
    wpAny (model P w) A (do
        storeSet a es1 t2
        if (!wasDummy && t2.tooFull) = true then do
            g (relayAll t2 es1 (SetTable.grown es1.size)).2.2
            storeSet a (relayAll t2 es1 (SetTable.grown es1.size)).1 (relayAll t2 es1 (SetTable.grown es1.size)).2.1
            pure (some true)
          else pure (some true)) R E s := by
  have q1 := store_at (es' := es1) (t' := t2) ho hd
  have sb1 := Heap.SameBut.update s.heap a (Obj.putSet es1 t2)
  refine wpAny_bind (wpAny_storeSet_of ho hd ?_ (fits_of_scanBound hb1))
  by_cases c : (!wasDummy && t2.tooFull) = true
  · rw [if_pos c]
    have pm := relayAll_perm t2 es1 (SetTable.grown es1.size)
    have hf3 := relayAll_fits t2 es1 (SetTable.grown es1.size)
    have hr3 := relayAll_ris t2 es1 (SetTable.grown es1.size)
    have hl3 := relayAll_led t2 es1 (SetTable.grown es1.size)
    revert pm hf3 hr3 hl3
    rcases relayAll t2 es1 (SetTable.grown es1.size) with ⟨es2, t3, gave⟩
    intro pm hf3 hr3 hl3
    have hsz : es2.size = es1.size := by rw [← Array.length_toList, ← Array.length_toList]; exact pm.length_eq
    refine wpAny_bind (hg _ _ _ ?_)
    refine wpAny_bind (wpAny_storeSet_of q1 rfl ?_ (fits_of_scanBound (by rw [hsz]; exact hb1)))
    refine wpAny_pure (hR _ (sb1.trans (Heap.SameBut.update _ a _)) ?_)
    exact ⟨_, es2, _, t3, store_at (es' := es2) (t' := t3) q1 rfl, hex, rfl, fun e he => g1 e (pm.mem_iff.mp he), (pm.map keyS).trans p1, nd1, by rw [hsz]; exact hb1, hf3, hr3, hl.imp id fun z => by rw [hl3]; exact z⟩
  · rw [if_neg c]
    exact wpAny_pure (hR _ sb1 ⟨_, es1, _, t2, q1, hex, rfl, g1, p1, nd1, hb1, hf2, hr, hl⟩)
theorem tx_add_hashed {x : List Nat} {tk : Tok} {Q : Bool → Shared → Prop} (R : TxSet w s.heap a L) (room : L.length + 1 < scanBound)
    (hQ : ∀ b h', Heap.SameBut a s.heap h' → TxSet w h' a (addP L x) → Q b { s with heap := h' }) :
    wpAny (model P w) A (setAddHashed a (.str ⟨x.toArray⟩ tk) ((PySem.strKind P w).hash ⟨x.toArray⟩)) Q E s := by
  obtain ⟨o, es, ep, t, ho, hex, hd, g, p, nd, hb, hf, hr, hl⟩ := R
  have hkey : (PySem.strKind P w).is ⟨x.toArray⟩ (.str ⟨x.toArray⟩ tk) = true := strKind_is P w _ tk
  have hsc : (Value.str ⟨x.toArray⟩ tk).scannable = true := rfl
  have hel : ElemsOf (PySem.strKind P w) es.toList := good_elemsT g
  have hlen : es.size = L.length := by rw [← p.length_eq, List.length_map, Array.length_toList]
  unfold setAddHashed setAddHashedIn
  refine wpAny_holding (wpAny_bind (wpAny_setState_of ho hd hf ?_))
  dsimp only
  rw [byScan_of hsc hb hel, if_pos rfl]
  unfold setAddByScan
  refine wpAny_bind (wpAny_bind (wpAny_rule (wpAny_bind (wpAny_setScan_of hkey ho hd hf hel ?_))))
  cases hfi : List.findIdx? (fun e => (PySem.strKind P w).is ⟨x.toArray⟩ e.2) es.toList with
  | some j =>
    obtain ⟨hj, pj, _⟩ := List.findIdx?_eq_some_iff_getElem.mp hfi
    have hm : x ∈ L := p.mem_iff.mp (List.mem_map.mpr ⟨_, List.getElem_mem hj, (GoodT.is (P := P) (g _ (List.getElem_mem hj)) x).mp pj⟩)
    refine wpAny_pure (wpAny_pure (hQ _ s.heap (Heap.SameBut.refl a s.heap) ?_))
    rw [addP, if_pos hm]
    exact ⟨o, es, ep, t, ho, hex, hd, g, p, nd, hb, hf, hr, hl⟩
  | none =>
    have hm : x ∉ L := fun z => by
      obtain ⟨e, he, q⟩ := List.mem_map.mp (p.mem_iff.mpr z)
      have c := List.findIdx?_eq_none_iff.mp hfi e he
      rw [(GoodT.is (P := P) (g e he) x).mpr q] at c
      cases c
    have hgw : ∀ (b : Bool) (s₁ : Shared) (Q' : Unit → Shared → Prop), Q' () s₁ → wpAny (model P w) A (match b with | true => rule "set.scan.the-table-gave-way" | false => pure ()) Q' E s₁ := fun b s₁ Q' q => by
      cases b
      · exact wpAny_pure q
      · exact wpAny_rule q
    have pm := layNew_perm t es ((PySem.strKind P w).hash ⟨x.toArray⟩) (.str ⟨x.toArray⟩ tk)
    have hf1 := layNew_fits t es ((PySem.strKind P w).hash ⟨x.toArray⟩) (.str ⟨x.toArray⟩ tk)
    have hr1 := layNew_ris t es ((PySem.strKind P w).hash ⟨x.toArray⟩) (.str ⟨x.toArray⟩ tk) hr
    have hl1 := layNew_led t es ((PySem.strKind P w).hash ⟨x.toArray⟩) (.str ⟨x.toArray⟩ tk)
    dsimp only
    revert pm hf1 hr1 hl1
    generalize layNew t es ((PySem.strKind P w).hash ⟨x.toArray⟩) (.str ⟨x.toArray⟩ tk) = Z
    obtain ⟨es1, t1, wasDummy, gave⟩ := Z
    intro pm hf1 hr1 hl1
    dsimp only at pm hf1 hr1 hl1 ⊢
    rw [Array.toList_push] at pm
    have g1 : ∀ e ∈ es1.toList, GoodT w e := fun e he => by
      rcases List.mem_append.mp (pm.mem_iff.mp he) with z | z
      · exact g e z
      · rw [List.mem_singleton.mp z]; exact ⟨x, tk, rfl, rfl⟩
    have p1 : (es1.toList.map keyS).Perm (L ++ [x]) := by
      refine (pm.map keyS).trans ?_
      rw [List.map_append]
      exact p.append (List.Perm.refl [x])
    have nd1 : (L ++ [x]).Nodup := (List.perm_append_singleton x L).nodup_iff.mpr (List.nodup_cons.mpr ⟨hm, nd⟩)
    have hb1 : es1.size < scanBound := by
      have e := pm.length_eq
      rw [Array.length_toList, List.length_append, Array.length_toList, hlen] at e
      have e : es1.size = L.length + 1 := e
      omega
    have hled : w.params.followText "set-order" = true ∨ t1.led = true := hl.imp id fun z => by rw [hl1]; exact z
    have fin : ∀ b h', Heap.SameBut a s.heap h' → TxSet w h' a (L ++ [x]) → Q b { s with heap := h' } := fun b h' sb r => hQ b h' sb (by rw [addP, if_neg hm]; exact r)
    refine wpAny_bind (hgw _ _ _ ?_)
    split
    · refine wpAny_bind ?_
      rw [hashByValue_scannable 8 hsc]
      refine wpAny_pure ?_
      refine tx_tail hgw ho hex hd g1 p1 nd1 hb1 ?_ ?_ ?_ fun h' sb r => wpAny_pure (fin _ h' sb r)
      · first | exact hf1 | (split <;> first | exact hf1 | exact SetTable.fits_plain_off hf1)
      · first | exact hr1 | (split <;> exact hr1)
      · first | exact hled | (split <;> exact hled)
    · refine wpAny_bind (wpAny_pure ?_)
      rw [if_pos rfl]
      exact tx_tail hgw ho hex hd g1 p1 nd1 hb1 hf1 hr1 hled fun h' sb r => wpAny_pure (fin _ h' sb r)
end
end Wg

namespace Wg
open PySem PySem.Spec PyProof.Rows L2 SlX
section
theorem perm_lift {α β : Type} {f : α → β} : ∀ {l : List α} {m1 m : List β}, m1.Perm m → l.map f = m1 → ∃ l' : List α, l'.Perm l ∧ l'.map f = m := by
  intro l m1 m p
  induction p generalizing l with
  | nil => intro e; exact ⟨l, List.Perm.refl _, e⟩
  | cons x _ ih =>
    intro e
    cases l with
    | nil => cases e
    | cons a l =>
      injection e with e1 e2
      obtain ⟨l', p', e'⟩ := ih e2
      exact ⟨a :: l', p'.cons a, by rw [List.map_cons, e1, e']⟩
  | swap x y l1 =>
    intro e
    match l, e with
    | [], e => cases e
    | [a], e => injection e with _ e; cases e
    | a :: b :: l, e =>
      injection e with e1 e2
      injection e2 with e2 e3
      exact ⟨b :: a :: l, List.Perm.swap _ _ _, by rw [List.map_cons, List.map_cons, e1, e2, e3]⟩
  | trans _ _ ih1 ih2 =>
    intro e
    obtain ⟨l1, p1, e1⟩ := ih1 e
    obtain ⟨l2, p2, e2⟩ := ih2 e1
    exact ⟨l2, p2.trans p1, e2⟩
/-- the values of a set of texts -/
theorem TxSet.ho {w : World} {h : Heap} {a : Addr} {L : List (List Nat)} (R : TxSet w h a L) : SetHo w a (L.map strV) h := by
  obtain ⟨o, es, ep, t, ho, hex, hd, g, p, nd, hb, hf, hr, hl⟩ := R
  obtain ⟨l', p', e'⟩ := perm_lift p rfl
  refine ⟨o, es, ep, t, l'.map (·.2), ho, hex, hd, (p'.map _).symm, ?_, hb, hf, hr, hl⟩
  have g' : ∀ e ∈ l', GoodT w e := fun e he => g e (p'.mem_iff.mp he)
  clear p p'
  subst e'
  induction l' with
  | nil => exact .nil
  | cons e l ih =>
    obtain ⟨x, tk, h1, _⟩ := g' e List.mem_cons_self
    refine .cons ?_ (ih (fun u hu => g' u (List.mem_cons_of_mem _ hu)) (List.nodup_cons.mp nd).2)
    show RelV (strV (keyS e)) e.2
    unfold keyS
    rw [h1]
    exact ⟨tk, rfl⟩
theorem addP_len {α : Type} [DecidableEq α] (L : List α) (x : α) : (addP L x).length ≤ L.length + 1 := by
  unfold addP; split <;> simp
theorem foldl_addP_len {α : Type} [DecidableEq α] : ∀ (xs L : List α), (xs.foldl addP L).length ≤ L.length + xs.length
  | [], _ => by simp
  | x :: xs, L => by
    have h1 := foldl_addP_len xs (addP L x)
    have h2 := addP_len L x
    rw [List.foldl_cons, List.length_cons]; omega
/-- each once, in the order of their first coming -/
noncomputable def dedup {α : Type} [DecidableEq α] (xs : List α) : List α := xs.foldl addP []
theorem setHo_new {P : Program} {w : World} {H : Hp} {h : Heap} {a : Addr} {vs : List V} (R : SetHo w a vs h) : ObjOk P w H h a (.ext (SetHo w a vs)) := by
  obtain ⟨o, es, ep, t, us, ho, r⟩ := id R
  exact ⟨R, ⟨o, ho⟩, fun h1 h2 ⟨o, es, ep, t, us, ho, r⟩ k => ⟨o, es, ep, t, us, k o ho, r⟩⟩
variable {X : Cx}
/-- set(list of texts) -/
noncomputable def rSetTx (K : PySem.W.Frag) (w : World) : List V → Hp → VK → Prop := fun vs H Q => ∃ (l : Addr) (ks : List (List Nat)), vs = [V.ref l] ∧ SqL K H l (ks.map strV) ∧ ks.length + 2 < scanBound ∧ ∀ p, H p = none → Q (.ref p) (upd H p (.ext (SetHo w p ((dedup ks).map strV))))
theorem cr_setTx (hc : X.calm = true) : CallR X (.type "set") (rSetTx X.K X.w) := by
  intro pins s σ H vs us Q I r h
  obtain ⟨l, ks, rfl, hl, hb, q⟩ := h
  obtain ⟨its, rv, pl, hz⟩ := I.list hl
  rw [Vals.ref1 r]
  have hn : H s.heap.objs.size = none := I.hok.fresh (Nat.le_refl _)
  have hsz : its.toArray.size = ks.length := by rw [List.size_toArray, ← rv.length, List.length_map]
  refine call_setL (P := X.prog) (C := fun i h => TxSet X.w h s.heap.objs.size ((ks.take i).foldl addP [])) (I.ok.hd hc) pl.isList (fun h' e _ => TxSet.fresh e) (fun A' _ => ⟨fun i h h' R k => R.at_ fun o e => k _ o (by simp only [List.mem_cons, List.not_mem_nil, or_false]; exact Nat.ne_of_lt (Nat.lt_succ_self _)) e, fun i v s' Q' E' hi hv R hQ => ?_⟩) fun h' tk R k => ?_
  · have hi' : i < ks.length := by rw [← hsz]; exact hi
    obtain ⟨u, hu, ru⟩ := rv.get (i := i) (x := strV ks[i]) (by simp [hi'])
    have e : v = u := by
      have e1 : its[i]? = some v := by simpa using hv
      rw [e1] at hu; exact Option.some.inj hu
    subst e
    obtain ⟨tk, rfl⟩ := ru
    unfold setAdd
    refine wpAny_holding (wpAny_bind ((PySem.strKind X.prog X.w).pyHash (k := ⟨ks[i].toArray⟩) (strKind_is _ _ _ _) ?_))
    have hl := foldl_addP_len (ks.take i) ([] : List (List Nat))
    rw [List.length_take, List.length_nil] at hl
    refine tx_add_hashed (s := { s' with toks := s'.toks + 1 }) R (by omega) fun b h' sb R' => hQ b h' _ sb (Nat.le_succ _) ?_
    rw [List.take_add_one, List.getElem?_eq_getElem hi', List.foldl_append]
    exact R'
  · rw [hsz, List.take_length] at R
    exact ⟨.ref s.heap.objs.size, _, I.laid (t' := tk) k (Nat.le_refl _) (setHo_new R.ho), rfl, q _ hn⟩
end
end Wg

namespace Wg
open PySem PySem.Spec PyProof.Rows L2 SlX
section
variable {prog : Program} {w : World} {A : Around} {s : Shared} {E : Value → Shared → Prop}
/-! ### texts in their order, any number of them -/
theorem tx1_cmp {vs : List Value} {k : Value → List Nat} (hp : ∀ v ∈ vs, ∃ t, v = .str ⟨(k v).toArray⟩ t) : SrtO.Cmp prog w A s oneType' (fun p => p.1 ∈ vs) (SrtO.lt2 fun v u => ltL (k v) (k u)) := by
  intro p q hm hm'
  obtain ⟨t, e⟩ := hp _ hm
  obtain ⟨t', e'⟩ := hp _ hm'
  show wpAny (model prog w) A (keyLt' oneType' p.1 q.1) (fun r s' => s' = s ∧ r = ltL (k p.1) (k q.1)) (fun _ _ => False) s
  generalize k p.1 = l1 at e ⊢
  generalize k q.1 = l2 at e' ⊢
  rw [e, e', keyLt'_oneType]
  exact oneLt_str ⟨rfl, rfl⟩
theorem tx1_sortable {a : Addr} {vs : List Value} {k : Value → List Nat} (hp : ∀ v ∈ vs, ∃ t, v = .str ⟨(k v).toArray⟩ t) (h2 : 2 ≤ vs.length) : SrtO.SortableO prog w A s a vs fun v u => ltL (k v) (k u) := by
  intro h' _
  refine ⟨oneType', fun Q E hq => ?_, tx1_cmp hp⟩
  have hS := strsAre_map vs fun v hv => let ⟨t, e⟩ := hp v hv; ⟨_, t, e⟩
  match vs, hS, h2 with
  | v1 :: v2 :: rest, hS, _ =>
    rw [keyKind_strs hS]
    exact wpAny_pure hq
  | [], _, h => exact absurd h (by decide)
  | [v], _, h => exact absurd h (by simp)
theorem swo_ltL {α : Type} (k : α → List Nat) : SrtO.Swo fun x y => ltL (k x) (k y) := ⟨fun x y h => swo_l.1 _ _ h, fun x y z h1 h2 => swo_l.2 _ _ _ h1 h2⟩
/-- sorted(set): its members in any order, then sorted -/
theorem sorted_setG {a : Addr} {o : Obj} {es : Array (Int × Value)} {ep : Nat} {t : SetTable} {ltv : Value → Value → Bool} {Q : Value → Shared → Prop} (O : SrtO.Swo ltv) (hh : A.handled = none)
    (ho : s.heap.get? a = some o) (hex : o.ExactSet) (hd : o.data = .set es ep t) (hf : t.fits es.size = true) (hb : es.size < scanBound) (hr : Ris t.place.toList) (hl : w.params.followText "set-order" = true ∨ t.led = true)
    (hS : ∀ (vs : List Value) (s' : Shared) (d : Addr), 2 ≤ vs.length → vs.Perm (es.toList.map (·.2)) → (∀ b o, s.heap.get? b = some o → b ≠ d ∧ s'.heap.get? b = some o) → s'.heap.get? d = some (seqObj "list" vs.toArray 0) → SrtO.SortableO prog w A.in1.in1 s' d vs ltv)
    (hQ : ∀ s' p (out : List Value) (c : Nat), (∀ b o, s.heap.get? b = some o → s'.heap.get? b = some o) → s'.gens = s.gens → s'.os = s.os → s.heap.objs.size ≤ p → s'.heap.get? p = some (seqObj "list" out.toArray c) →
      out.Perm (es.toList.map (·.2)) → SrtO.Srtd ltv out → Q (.ref p) s') :
    wpAny (model prog w) A (call (.builtin "sorted") [.ref a]) Q E s := by
  refine Calls.call_function_entry kind_sorted plain_sorted entry_sorted (args_sorted1 _) ?_
  unfold Builtin.«sorted»
  refine wpAny_bind (m := checkCount "sorted" 1 1 _) (wpAny_pure ?_)
  refine wpAny_bind (collect_set (A := A.in1) hh ⟨o, ho, hex.1, hd⟩ hf hb hr hl fun s1 vs k1 hz g1 o1 pm => ?_)
  have hvl : vs.length ≤ sizeLine := by
    rw [pm.length_eq, List.length_map, Array.length_toList]
    exact fits_of_scanBound hb
  refine wpAny_bind (wpAny_newList ?_ hvl)
  have hoL : (s1.heap.push (seqObj "list" vs.toArray 0)).get? s1.heap.objs.size = some (seqObj "list" vs.toArray 0) := Heap.get?_push_size _ rfl
  have old : ∀ b u, s.heap.get? b = some u → b ≠ s1.heap.objs.size ∧ (s1.heap.push (seqObj "list" vs.toArray 0)).get? b = some u := fun b u e => ⟨Nat.ne_of_lt (Heap.lt_size (k1 b u e)), Heap.get?_push_of_some _ (k1 b u e)⟩
  refine wpAny_bind (wpAny_holding (wpAny_call_entry slot_list_sort ⟨_, hoL, rfl⟩ entry_list_sort (SrtO.list_sort_ord (s := { s1 with heap := s1.heap.push (seqObj "list" vs.toArray 0) }) O hoL hvl (fun h2 => hS vs _ _ h2 pm old hoL) fun out hs hb2 => ⟨_, rfl, ?_⟩) (args_list_sort _)))
  obtain ⟨c, hc⟩ := sortedHeap_at (vs := vs) (out := out.toArray) hoL
  refine wpAny_pure ⟨_, rfl, hQ _ s1.heap.objs.size out c (fun b u e => ?_) g1 o1 hz hc (hb2.perm.trans pm) hs⟩
  have q := k1 b u e
  have hlt := Heap.lt_size q
  show (sortedHeap (s1.heap.push (seqObj "list" vs.toArray 0)) s1.heap.objs.size vs out.toArray).get? b = some u
  rw [sortedHeap_old (Nat.ne_of_lt hlt) (by rw [size_push']; exact Nat.lt_succ_of_lt hlt)]
  exact Heap.get?_push_of_some _ q
end
section
variable {X : Cx}
theorem vals_strs : ∀ {L : List (List Nat)} {us : List Value}, Vals (L.map strV) us → (∀ v ∈ us, ∃ t, v = .str ⟨(keyS (0, v)).toArray⟩ t) ∧ us.map (fun v => keyS (0, v)) = L
  | [], _, r => by cases r; exact ⟨fun _ h => by simp at h, rfl⟩
  | x :: L, _, r => by
    cases r with
    | cons h t =>
      obtain ⟨h1, h2⟩ := vals_strs t
      obtain ⟨tk, rfl⟩ := h
      refine ⟨fun v hv => ?_, by rw [List.map_cons, h2]; rfl⟩
      rcases List.mem_cons.mp hv with z | z
      · rw [z]; exact ⟨tk, rfl⟩
      · exact h1 v z
theorem strs_vals : ∀ {us : List Value}, (∀ v ∈ us, ∃ t, v = .str ⟨(keyS (0, v)).toArray⟩ t) → Vals ((us.map fun v => keyS (0, v)).map strV) us
  | [], _ => .nil
  | v :: us, h => .cons (let ⟨t, e⟩ := h v List.mem_cons_self; ⟨t, e⟩) (strs_vals fun u hu => h u (List.mem_cons_of_mem _ hu))
theorem srtd_keys {us : List Value} (h : SrtO.Srtd (fun v u => ltL (keyS (0, v)) (keyS (0, u))) us) : SrtO.Srtd ltL (us.map fun v => keyS (0, v)) := SrtO.srtd_map (lt := ltL) h
/-- sorted(set of texts) -/
noncomputable def rSortedSX (w : World) : List V → Hp → VK → Prop := fun vs H Q => ∃ (a : Addr) (L : List (List Nat)), vs = [V.ref a] ∧ H a = some (.ext (SetHo w a (L.map strV))) ∧ ∀ p, H p = none → Q (.ref p) (upd H p (.lst ((isort ltL L).map strV)))
theorem cr_sortedSX (hc : X.calm = true) : CallR X (.builtin "sorted") (rSortedSX X.w) := by
  intro pins s σ H vs us Q I r h
  obtain ⟨a, L, rfl, ha, q⟩ := h
  obtain ⟨o, es, ep, t, us', ho, hex, hd, pm, rv, hb, hf, hr, hl⟩ : SetHo X.w a (L.map strV) s.heap := (I.hok a _ ha).1
  rw [Vals.ref1 r]
  obtain ⟨hs1, hs2⟩ := vals_strs rv
  refine sorted_setG (prog := X.prog) (ltv := fun v u => ltL (keyS (0, v)) (keyS (0, u))) (swo_ltL _) (I.ok.hd hc) ho hex hd hf hb hr hl (fun vs s' d h2 p _ _ => tx1_sortable (fun v hv => hs1 v ((p.trans pm).mem_iff.mp hv)) h2) fun s' p out c k g oo hp hg po so => ?_
  have hS : ∀ v ∈ out, ∃ t, v = .str ⟨(keyS (0, v)).toArray⟩ t := fun v hv => hs1 v ((po.trans pm).mem_iff.mp hv)
  have e : out.map (fun v => keyS (0, v)) = isort ltL L := isortL_uniq (by rw [← hs2]; exact (po.trans pm).map _) (srtd_keys so)
  have hv : Vals ((isort ltL L).map strV) out := by rw [← e]; exact strs_vals hS
  have hlen : ((isort ltL L).map strV).length ≤ sizeLine := by
    rw [hv.length, po.length_eq, List.length_map, Array.length_toList]
    exact fits_of_scanBound hb
  have hn : H p = none := I.hok.fresh hp
  have J : Inv X pins σ (upd H p (.lst ((isort ltL L).map strV))) { s with heap := s'.heap, gens := s'.gens, drawn := s'.drawn, toks := s'.toks } :=
    I.call (ch := []) (Un.laid k hp hn) (I.hok.laid k hp ⟨hlen, out, c, hv, hg⟩) (by rw [g]; exact I.bare) (fun _ z => nomatch z)
  have e : s' = { s with heap := s'.heap, gens := s'.gens, drawn := s'.drawn, toks := s'.toks } := by
    cases s'
    cases s
    cases oo
    rfl
  rw [e]
  exact ⟨.ref p, _, J, rfl, q p hn⟩
/-- len(set) -/
noncomputable def rLenSet (w : World) : List V → Hp → VK → Prop := fun vs H Q => ∃ (a : Addr) (L : List V), vs = [V.ref a] ∧ H a = some (.ext (SetHo w a L)) ∧ Q (.int L.length) H
theorem cr_lenSet : CallR X (.builtin "len") (rLenSet X.w) := by
  intro pins s σ H vs us Q I r h
  obtain ⟨a, L, rfl, ha, q⟩ := h
  obtain ⟨o, es, ep, t, us', ho, hex, hd, pm, rv, hb, hf, hr, hl⟩ : SetHo X.w a L s.heap := (I.hok a _ ha).1
  rw [Vals.ref1 r]
  have e : es.size = L.length := by rw [rv.length, ← pm.length_eq, List.length_map, Array.length_toList]
  exact call_len_set ho hex hd hf (by unfold scanBound at hb; omega) ⟨.int L.length, H, I.tok _, ⟨_, by rw [e]⟩, q⟩
end
end Wg

namespace Wg
open PySem PySem.Spec PyProof.Rows L2 SlX
section
variable {P : Program} {w : World} {A : Around} {E : Value → Shared → Prop} {s : Shared}
set_option maxHeartbeats 3200000 in
theorem call_setT {l : Addr} {items : Array Value} {C : Nat → Heap → Prop} {Q : Value → Shared → Prop} (hh : A.handled = none) (hl : s.heap.IsTuple l items)
    (h0 : ∀ h', h'.get? s.heap.objs.size = some (setObj0 w) → (∀ b o, s.heap.get? b = some o → h'.get? b = some o) → C 0 h')
    (K : ∀ A' : Around, A'.units ≤ A.units + 4 → AddOk P w A' s.heap.objs.size [s.heap.objs.size + 1] items.size (fun i v => items[i]? = some v) C)
    (h : ∀ (h' : Heap) (tk : Nat), C items.size h' → (∀ b o, s.heap.get? b = some o → h'.get? b = some o) → Q (.ref s.heap.objs.size) { s with heap := h', toks := tk }) :
    wpAny (model P w) A (call (.type "set") [.ref l]) Q E s := by
  obtain ⟨c, tl, hmro⟩ := F.called_set.mro
  have hmade := F.called_set.made
  have hsub := F.called_set.sub
  refine wpAny_call (codeAny_of_tree ?_)
  show wpAny _ _ (callAny (.type "set") _) _ _ _
  refine wpAny_pure ⟨Code.quiet_builtin _ (by decide +kernel), codeAny_builtin F.entry_type_call ?_⟩
  rw [Around.under_plain (weight_type_call_type "set" [.ref l] []) rfl]
  have h1 := F.called_set.notType
  have h2 := F.called_set.canCreate
  have hct := F.typeCall_set_1 (.ref l)
  repeat (any_goals (first | assumption | wp_step))
  refine codeAny_mono (code_set_led1 (.ref l) (E := E) (Q₁ := fun obj s₁ => obj = .ref s.heap.objs.size ∧ s₁ = { s with heap := s.heap.push (setObj0 w) }) ⟨rfl, rfl⟩) fun r s₁ hr => ?_
  cases r with
  | error e => exact hr
  | ok fl =>
    cases fl with
    | ret obj =>
      obtain ⟨rfl, rfl⟩ := hr
      have hS : (s.heap.push (setObj0 w)).get? s.heap.objs.size = some (setObj0 w) := Heap.get?_push_size _ rfl
      have hT : Shared.TypeIs { s with heap := s.heap.push (setObj0 w) } (.ref s.heap.objs.size) "set" := ⟨_, hS, rfl⟩
      have hli := F.called_set.init.lookup
      have hbi := F.called_set.init.bind (.ref s.heap.objs.size)
      repeat (any_goals (first | assumption | wp_step))
      refine codeAny_mono (codeAny_call_builtin (R := wants (fun r s₂ => r = .none ∧ ∃ h' tk, s₂ = { s with heap := h', toks := tk } ∧ C items.size h' ∧ (∀ b o, s.heap.get? b = some o → h'.get? b = some o)) E)
        F.called_set.init.plain F.entry_set_init (check_set_init_1 hT ?_)) fun r₂ s₂ hr₂ => ?_
      · obtain ⟨⟨ocls, odict, odata, oslots⟩, hol, hcl, nl, hdl⟩ := hl
        simp only at hcl hdl
        subst hcl; subst hdl
        have hsls := F.sub_tuple_set
        have hslf := F.sub_tuple_frozenset
        have hne : (Value.type "tuple" == Value.type "dict") = false := by decide
        have hol' : (s.heap.push (setObj0 w)).get? l = some { cls := .type "tuple", dict := odict, data := .seq items nl, slots := oslots } := Heap.get?_push_of_some _ hol
        have hl1 : (s.heap.push (setObj0 w)).IsTuple l items := ⟨_, hol', rfl, nl, rfl⟩
        have hsz : (s.heap.push (setObj0 w)).objs.size = s.heap.objs.size + 1 := Heap.size_push ..
        have hlS : l < s.heap.objs.size := Heap.lt_size hol
        unfold Builtin.«set.__init__» noKeywords Builtin.Frozenset.updateFrom
        generalize hPI : pyIter = PI
        wp_walk
        subst hPI
        refine wpAny_pyIter_tuple hl1 ?_
        refine wpAny_bind (wpAny_runValue ?_)
        have hh3 : A.in1.in1.in1.handled = none := by simp [hh]
        have hneI : l ≠ (s.heap.push (setObj0 w)).objs.size := by rw [hsz]; exact Nat.ne_of_lt (Nat.lt_succ_of_lt hlS)
        have hSf : s.heap.objs.size ∉ [(s.heap.push (setObj0 w)).objs.size, l] := by
          rw [hsz]; simp only [List.mem_cons, List.not_mem_nil, or_false, not_or]
          exact ⟨Nat.ne_of_lt (Nat.lt_succ_self _), Nat.ne_of_gt hlS⟩
        have old : ∀ b o, s.heap.get? b = some o → ((s.heap.push (setObj0 w)).push { cls := .type "tuple_iterator", data := .fields #[.ref l, .int 0 0] }).get? b = some o := fun b o e => Heap.get?_push_of_some _ (Heap.get?_push_of_some _ e)
        have Kx : AddOk P w A.in1.in1.in1 s.heap.objs.size [(s.heap.push (setObj0 w)).objs.size] items.size (fun i v => items[i]? = some v) C := by
          rw [hsz]; exact K _ (Nat.le_succ _)
        refine update_gen ((Walks.tuple hh3 _ l hneI items).toS) s.heap.objs.size hSf Kx (items.size - 0) 0 _ (by omega) (Nat.zero_le _) ⟨⟨_, Heap.get?_push_size _ rfl, rfl, rfl⟩, (hl1.push _)⟩
          (h0 _ (Heap.get?_push_of_some _ hS) old) ?_
        intro s' hm hC
        obtain ⟨h', g2, d', tk', os'⟩ := s'
        have eg : g2 = s.gens := hm.gens
        have ed : d' = s.drawn := hm.drawn
        have eo : os' = s.os := hm.os
        subst eg; subst ed; subst eo
        show wpAny _ _ _ _ _ _
        refine wpAny_pure ?_
        show wpAny _ _ (ret Value.none) _ _ _
        refine wpAny_pure ⟨rfl, h', tk', rfl, hC, fun b o e => ?_⟩
        have hb := Heap.lt_size e
        refine hm.heap b o ?_ (old b o e)
        rw [hsz]; simp only [List.mem_cons, List.not_mem_nil, or_false, not_or]
        exact ⟨Nat.ne_of_lt hb, Nat.ne_of_lt (Nat.lt_succ_of_lt hb)⟩
      · cases r₂ with
        | error e => exact hr₂
        | ok fl₂ =>
          cases fl₂ with
          | ret r =>
            obtain ⟨rfl, h', tk, rfl, hC, hk⟩ := hr₂
            repeat (any_goals (first | assumption | wp_step))
            exact h _ _ hC hk
          | _ => exact hr₂.elim
    | _ => exact hr.elim
end
end Wg

namespace Wg
open PySem PySem.Spec PyProof.Rows L2 SlX
section
variable {X : Cx} {W : WQ} {K : KC} {ρ : Pl} {H : Hp} {h : Store} {pos : Pos} {e : Expr} {es : List Expr} {ms : M (List PV)} {p0 : Pos}
/-- sorted(list of texts), any number of them -/
noncomputable def rSortedL (K : PySem.W.Frag) : List V → Hp → VK → Prop := fun vs H Q => ∃ (a : Addr) (L : List (List Nat)), vs = [V.ref a] ∧ SqL K H a (L.map strV) ∧ ∀ p, H p = none → Q (.ref p) (upd H p (.lst ((isort ltL L).map strV)))
theorem cr_sortedL : CallR X (.builtin "sorted") (rSortedL X.K) := by
  intro pins s σ H vs us Q I r h
  obtain ⟨a, L, rfl, hs, q⟩ := h
  obtain ⟨its, rv, hl, hz⟩ := I.list hs
  rw [Vals.ref1 r]
  obtain ⟨hs1, hs2⟩ := vals_strs rv
  refine SrtO.sorted_ord (prog := X.prog) (ltv := fun v u => ltL (keyS (0, v)) (keyS (0, u))) (swo_ltL _) hl.isList (by rw [← rv.length]; exact hz) (fun h2 h1 a ha kk => tx1_sortable hs1 h2) fun out so sb => ?_
  have hS : ∀ v ∈ out, ∃ t, v = .str ⟨(keyS (0, v)).toArray⟩ t := fun v hv => hs1 v (sb.perm.mem_iff.mp hv)
  have e : out.map (fun v => keyS (0, v)) = isort ltL L := isortL_uniq (by rw [← hs2]; exact sb.perm.map _) (srtd_keys so)
  have hv : Vals ((isort ltL L).map strV) out := by rw [← e]; exact strs_vals hS
  have hlen : ((isort ltL L).map strV).length ≤ sizeLine := by
    rw [hv.length, sb.perm.length_eq, ← rv.length]; exact hz
  obtain ⟨n, hn⟩ := sortedAll_at s.heap its out.toArray
  have hk : ∀ b o, s.heap.get? b = some o → (sortedAll s.heap its out.toArray).get? b = some o := fun b o e => sortedAll_old e
  have hd : s.heap.objs.size ≤ s.heap.objs.size + 1 := Nat.le_succ _
  exact ⟨.ref (s.heap.objs.size + 1), upd H (s.heap.objs.size + 1) (.lst ((isort ltL L).map strV)), I.laid (t' := s.toks) hk hd ⟨hlen, out, n, hv, hn⟩, rfl, q _ (I.hok.fresh hd)⟩
/-! ### set, sorted, len over the layer -/
theorem RVs.strs : ∀ (L : List (List Nat)), RVs K ρ H (L.map .str) (L.map strV)
  | [] => rfl
  | x :: L => ⟨_, _, rfl, rfl, RVs.strs L⟩
theorem strsOf_eq {xs : List PV} {vs : List V} {L : List (List Nat)} (r : RVs K ρ H xs vs) (e : strsOf xs = some L) : vs = L.map strV := by
  rw [strsOf_at r e, List.map_map]; rfl
/-- set(tuple of texts) -/
noncomputable def rSetTxT (K : PySem.W.Frag) (w : World) : List V → Hp → VK → Prop := fun vs H Q => ∃ (l : Addr) (ks : List (List Nat)), vs = [V.ref l] ∧ SqT K H l (ks.map strV) ∧ ks.length + 2 < scanBound ∧ ∀ p, H p = none → Q (.ref p) (upd H p (.ext (SetHo w p ((dedup ks).map strV))))
theorem addOk_tx {P : Program} {w : World} {A' : Around} {S : Addr} {ks : List (List Nat)} {its : List Value} (rv : Vals (ks.map strV) its) (hb : ks.length + 2 < scanBound) :
    AddOk P w A' S [S + 1] its.toArray.size (fun i v => its.toArray[i]? = some v) fun i h => TxSet w h S ((ks.take i).foldl addP []) := by
  have hsz : its.toArray.size = ks.length := by rw [List.size_toArray, ← rv.length, List.length_map]
  refine ⟨fun i h h' R k => R.at_ fun o e => k _ o (by simp only [List.mem_cons, List.not_mem_nil, or_false]; exact Nat.ne_of_lt (Nat.lt_succ_self _)) e, fun i v s' Q' E' hi hv R hQ => ?_⟩
  have hi' : i < ks.length := by rw [← hsz]; exact hi
  obtain ⟨u, hu, ru⟩ := rv.get (i := i) (x := strV ks[i]) (by simp [hi'])
  have e : v = u := by
    have e1 : its[i]? = some v := by simpa using hv
    rw [e1] at hu; exact Option.some.inj hu
  subst e
  obtain ⟨tk, rfl⟩ := ru
  unfold setAdd
  refine wpAny_holding (wpAny_bind ((PySem.strKind P w).pyHash (k := ⟨ks[i].toArray⟩) (strKind_is _ _ _ _) ?_))
  have hl := foldl_addP_len (ks.take i) ([] : List (List Nat))
  rw [List.length_take, List.length_nil] at hl
  refine tx_add_hashed (s := { s' with toks := s'.toks + 1 }) R (by omega) fun b h' sb R' => hQ b h' _ sb (Nat.le_succ _) ?_
  rw [List.take_add_one, List.getElem?_eq_getElem hi', List.foldl_append]
  exact R'
theorem cr_setTxT (hc : X.calm = true) : CallR X (.type "set") (rSetTxT X.K X.w) := by
  intro pins s σ H vs us Q I r h
  obtain ⟨l, ks, rfl, hl, hb, q⟩ := h
  obtain ⟨its, rv, pl, hz⟩ := I.tuple hl
  rw [Vals.ref1 r]
  have hn : H s.heap.objs.size = none := I.hok.fresh (Nat.le_refl _)
  have hsz : its.toArray.size = ks.length := by rw [List.size_toArray, ← rv.length, List.length_map]
  refine call_setT (P := X.prog) (C := fun i h => TxSet X.w h s.heap.objs.size ((ks.take i).foldl addP [])) (I.ok.hd hc) pl (fun h' e _ => TxSet.fresh e) (fun A' _ => addOk_tx rv hb) fun h' tk R k => ?_
  rw [hsz, List.take_length] at R
  exact ⟨.ref s.heap.objs.size, _, I.laid (t' := tk) k (Nat.le_refl _) (setHo_new R.ho), rfl, q _ hn⟩
noncomputable def setOfP (xs : List PV) (h : Store) : R PV := match strsOf xs with
  | some L => if L.length < 4000 then .ok (.set ((dedup L).map .str)) h else .no
  | none => .no
noncomputable def fSet (xs : List PV) (h : Store) : R PV := match xs with
  | [.tup ys] => setOfP ys h
  | [x] => match lstRd h x with
    | some ys => setOfP ys h
    | none => .no
  | _ => .no
noncomputable def rSetB (K : PySem.W.Frag) (w : World) : List V → Hp → VK → Prop := fun vs H Q => rSetTx K w vs H Q ∨ rSetTxT K w vs H Q
theorem cr_set (hc : X.calm = true) : CallR X (.type "set") (rSetB X.K X.w) := (cr_setTx hc).or (cr_setTxT hc)
theorem new_set {w : World} (p : Rep K ρ h H) {a : Addr} (e : H a = none) {xs : List PV} {vs : List V} (r : RVs K ρ H xs vs) (hw : K.w = w) :
    Ext ρ H ρ (upd H a (.ext (SetHo w a vs))) ∧ Rep K ρ h (upd H a (.ext (SetHo w a vs))) ∧ RV K ρ (upd H a (.ext (SetHo w a vs))) (.set xs) (.ref a) := by
  obtain ⟨x, q⟩ := p.new e (.ext (SetHo w a vs))
  subst hw
  exact ⟨x, q, a, vs, rfl, ⟨p.fresh e, upd_same⟩, RVs.ext x _ _ r⟩
theorem cx_set : CallX X W fSet (rSetB X.K X.w) := by
  intro ρ h σ H xs vs Q p r o
  have fin : ∀ {L : List (List Nat)}, Out (kc X W) ρ H (RV (kc X W)) (fun c d H' => W c d σ H') (.ok (.set ((dedup L).map .str)) h) Q → ∀ a, H a = none → Q (.ref a) (upd H a (.ext (SetHo X.w a ((dedup L).map strV)))) := fun {L} o a ha => by
    obtain ⟨x', p', r'⟩ := new_set (w := X.w) p ha (RVs.strs (K := kc X W) (ρ := ρ) (H := H) (dedup L)) rfl
    exact o ρ _ _ x' p' r'
  unfold fSet at o
  split at o
  next ys =>
    obtain ⟨v, e, r1⟩ := rvs1 r
    obtain ⟨a, ws, e2, t, rs⟩ := tup_at r1
    unfold setOfP at o
    split at o
    next L q =>
      obtain ⟨c, o⟩ := out_if o
      have ew := strsOf_eq rs q
      subst ew
      exact .inr ⟨a, L, by rw [e, e2], t, by unfold scanBound; omega, fin o⟩
    next => exact o.elim
  next x _ =>
    obtain ⟨v, e, r1⟩ := rvs1 r
    split at o
    next ys q0 =>
      obtain ⟨a, ws, e2, t, rs⟩ := lstRd_at p r1 q0
      unfold setOfP at o
      split at o
      next L q =>
        obtain ⟨c, o⟩ := out_if o
        have ew := strsOf_eq rs q
        subst ew
        exact .inl ⟨a, L, by rw [e, e2], t, by unfold scanBound; omega, fin o⟩
      next => exact o.elim
    next => exact o.elim
  next => exact o.elim
/-- texts, or tuples of texts, in their order -/
noncomputable def sortP (xs : List PV) : Option (List PV) := match strsOf xs with
  | some L => some ((isort ltL L).map .str)
  | none => if xs.all (fun x => match txOf x with | some (_ :: _) => true | _ => false) = true then some (isort ltP2 xs) else none
noncomputable def fSorted (xs : List PV) (h : Store) : R PV := match xs with
  | [.set ys] => match strsOf ys with
    | some L => .ok (.lst ((isort ltL L).map .str)) h
    | none => .no
  | [x] => match lstRd h x with
    | some ys => match sortP ys with
      | some zs => .ok (.lst zs) h
      | none => .no
    | none => .no
  | _ => .no
noncomputable def rSortedA (K : PySem.W.Frag) (w : World) : List V → Hp → VK → Prop := fun vs H Q => rSortedL K vs H Q ∨ rSortedTx K vs H Q ∨ rSortedSX w vs H Q
theorem cr_sortedA (hc : X.calm = true) : CallR X (.builtin "sorted") (rSortedA X.K X.w) := cr_sortedL.or (cr_sortedTx.or (cr_sortedSX hc))
theorem cx_sorted : CallX X W fSorted (rSortedA X.K X.w) := by
  intro ρ h σ H xs vs Q p r o
  unfold fSorted at o
  split at o
  next ys =>
    obtain ⟨v, e, r1⟩ := rvs1 r
    split at o
    next L q =>
      obtain ⟨a, ws, e2, t, rs⟩ := r1
      have ew := strsOf_eq rs q
      subst ew
      refine .inr (.inr ⟨a, L, by rw [e, e2], t.2, fun b hb => ?_⟩)
      obtain ⟨x', p', r'⟩ := new_lst p hb (RVs.strs (K := kc X W) (ρ := ρ) (H := H) (isort ltL L))
      exact o ρ _ _ x' p' r'
    next => exact o.elim
  next x _ =>
    obtain ⟨v, e, r1⟩ := rvs1 r
    split at o
    next ys q0 =>
      obtain ⟨a, ws, e2, t, rs⟩ := lstRd_at p r1 q0
      split at o
      next zs q1 =>
        unfold sortP at q1
        split at q1
        next L q =>
          cases q1
          have ew := strsOf_eq rs q
          subst ew
          refine .inl ⟨a, L, by rw [e, e2], t, fun b hb => ?_⟩
          obtain ⟨x', p', r'⟩ := new_lst p hb (RVs.strs (K := kc X W) (ρ := ρ) (H := H) (isort ltL L))
          exact o ρ _ _ x' p' r'
        next nq =>
          split at q1
          next c =>
            cases q1
            have hs : ∀ y ∈ ys, ∃ x l, txOf y = some (x :: l) := fun y hy => by
              have c' := List.all_eq_true.mp c y hy
              split at c'
              next x l q => exact ⟨x, l, q⟩
              next => cases c'
            have hS : ∀ y ∈ ys, (txOf y).isSome = true := fun y hy => by
              obtain ⟨x, l, q⟩ := hs y hy
              rw [q]; rfl
            refine .inr (.inl ⟨a, ws, by rw [e, e2], t, ?_, fun b hb => ?_⟩)
            · clear o c hS q0 t e2 r1 nq
              induction ys generalizing ws with
              | nil => intro z hz; rw [show ws = [] from rs] at hz; cases hz
              | cons y ys ih =>
                obtain ⟨u, us, e1, h1, h2⟩ := rs
                subst e1
                intro z hz
                rcases List.mem_cons.mp hz with hz | hz
                · subst hz
                  obtain ⟨x, l, q⟩ := hs y List.mem_cons_self
                  obtain ⟨t, k1, k2, k3⟩ := txOf_at h1 q
                  exact ⟨by rw [k3]; exact List.cons_ne_nil _ _, t, k1, by rw [k3]; exact k2⟩
                · exact ih _ h2 (fun y hy => hs y (List.mem_cons_of_mem _ hy)) z hz
            · obtain ⟨x', p', r'⟩ := new_lst p hb (RVs.isort rs hS)
              exact o ρ _ _ x' p' r'
          next => cases q1
      next => exact o.elim
    next => exact o.elim
  next => exact o.elim
/-- len, of sets too -/
noncomputable def fLenB (xs : List PV) (h : Store) : R PV := match xs with
  | [.set ys] => .ok (.int ys.length) h
  | _ => fLenA xs h
theorem cx_lenB : CallX X W fLenB (fun vs H Q => rLenA X.K vs H Q ∨ rLenSet X.w vs H Q) := by
  intro ρ h σ H xs vs Q p r o
  unfold fLenB at o
  split at o
  next ys =>
    obtain ⟨v, e, a, ws, e2, t, rs⟩ := rvs1 r
    exact .inr ⟨a, ws, by rw [e, e2], t.2, by rw [← rs.len]; exact o.ok p rfl⟩
  next => exact .inl (cx_lenA ρ h σ H _ vs Q p r o)
theorem xe_lenB (hm : X.mg "len" = none) (ha : XA X W (e :: es) ms) (hg : Gl X "len" := by rfl) (he : starEach (e :: es) X.env = (false, eval e X.env) :: starEach es X.env := by rfl) (hpl : (backTo pos (starEach es X.env)).any (·.1) = false := by rfl) :
    XE X W (.Call (.Name "len" p0) (e :: es) [] pos) (mCall fLenB ms) := xe_callB (cr_lenA.or cr_lenSet) cx_lenB hm boot_len ha hg (by decide) (by decide) he hpl
end
end Wg

namespace Wg
open PySem PySem.Spec PyProof.Rows L2 SlX
section
variable {X : Cx} {W : WQ} {K : KC} {ρ : Pl} {H : Hp} {h : Store} {pos : Pos} {e : Expr} {m : M PV}
/-! ### walking a dict that nobody changes: it is locked for good -/
/-- locked, if it is not -/
theorem Inv.lockR {pins : List (Addr × Obj)} {σ : L2.St} {s : Shared} {d : Addr} {u : HO} (I : Inv X pins σ H s) (h : Rd H d u) (mu : Mut (some u)) :
    (∃ od, H d = some (.frz od u) ∧ Inv X pins σ H s) ∨ (H d = some u ∧ ∃ od, Inv X pins σ (upd H d (.frz od u)) s) := by
  rcases h with h | ⟨o, h⟩
  · exact .inr ⟨h, I.lock h mu⟩
  · exact .inl ⟨o, h, I⟩
/-- H, with d locked -/
noncomputable def lockH (H : Hp) (d : Addr) (o : Obj) (u : HO) (H' : Hp) : Prop := (H' = H ∧ H d = some (.frz o u)) ∨ (H' = upd H d (.frz o u) ∧ H d = some u)
noncomputable def iKeysL (td : TE) : TI := fun σ H R => td σ H fun x H1 => ∃ d, x = .ref d ∧ ((∃ kvs, Rd H1 d (.dK kvs) ∧ ∀ o H', lockH H1 d o (.dK kvs) H' → R (Itk d o kvs) H') ∨ ∃ kvs, Rd H1 d (.dT kvs) ∧ ∀ o H', lockH H1 d o (.dT kvs) H' → R (Itkt d o kvs) H')
theorem pi_keysL {tg e : Expr} {td : TE} (he : PE X e td) : PI X tg e (iKeysL td) := by
  refine ⟨fun pins s σ H R I h => ?_⟩
  refine thn (he.run pins s σ H _ I h) fun u s1 ⟨x, H1, I1, rx, d, ex, q⟩ => ?_
  subst ex
  obtain rfl : u = Value.ref d := rx
  rcases q with ⟨kvs, hd, q⟩ | ⟨kvs, hd, q⟩
  · have key : ∀ o H', Inv X pins σ H' s1 → H' d = some (.frz o (.dK kvs)) → R (Itk d o kvs) H' → wpAny (model X.prog X.w) X.A (pyIter (.ref d)) (PIE X pins σ tg R) X.xe s1 := fun o H' I2 hf q2 => by
      obtain ⟨hs, hgd, hx, es, ep, vs, hdt, hsz, kv, hm⟩ := I2.frzK hf
      refine iter_keys hs hgd hx hdt (pi_one (tk := s1.toks) I2 _ (turn_keys _ hdt) ⟨_, Heap.get?_push_size _ rfl, rfl, ?_⟩ q2)
      rw [hsz] <;> rfl
    rcases Inv.lockR I1 hd trivial with ⟨o, hf, I2⟩ | ⟨hf, o, I2⟩
    · exact key o _ I2 hf (q o _ (.inl ⟨rfl, hf⟩))
    · exact key o _ I2 upd_same (q o _ (.inr ⟨rfl, hf⟩))
  · have key : ∀ o H', Inv X pins σ H' s1 → H' d = some (.frz o (.dT kvs)) → R (Itkt d o kvs) H' → wpAny (model X.prog X.w) X.A (pyIter (.ref d)) (PIE X pins σ tg R) X.xe s1 := fun o H' I2 hf q2 => by
      obtain ⟨hs, hgd, hx, es, ep, hdt, hsz, ent⟩ := I2.frzT hf
      refine iter_keys hs hgd hx hdt (pi_one (tk := s1.toks) I2 _ (turn_keysT _ hdt) ⟨_, Heap.get?_push_size _ rfl, rfl, ?_⟩ q2)
      rw [hsz] <;> rfl
    rcases Inv.lockR I1 hd trivial with ⟨o, hf, I2⟩ | ⟨hf, o, I2⟩
    · exact key o _ I2 hf (q o _ (.inl ⟨rfl, hf⟩))
    · exact key o _ I2 upd_same (q o _ (.inr ⟨rfl, hf⟩))
/-- a lock is an Ext, and the store still stands -/
theorem lockH.ext {d : Addr} {o : Obj} {u : HO} {H' : Hp} (p : Rep K ρ h H) (du : IsDct u) (nd : ¬ ρ.has d) (x : lockH H d o u H') : Ext ρ H ρ H' ∧ Rep K ρ h H' ∧ H' d = some (.frz o u) := by
  rcases x with ⟨e, hf⟩ | ⟨e, hf⟩
  · subst e; exact ⟨Ext.refl _ _, p, hf⟩
  · subst e
    have su : ¬ Stiff u := fun z => by cases u <;> first | exact du.elim | exact z.elim
    have x : Ext ρ H ρ (upd H d (.frz o u)) := by
      refine ⟨⟨[], by simp, by simp⟩, rfl, fun b v hb st q => ?_, fun b v hb q => ?_⟩
      · rw [upd_ne (fun z => ?_)]; exact q
        subst z
        rcases st with st | st
        · exact nd (.inr st)
        · rw [hf] at q; cases q; exact su st
      · by_cases z : b = d
        · subst z
          rw [hf] at q; cases q
          exact .inr ⟨du, o, upd_same⟩
        · exact .inl (by rw [upd_ne z]; exact q)
    refine ⟨x, ⟨p.len, p.nd, fun i ce a e1 e2 => ?_, fun q hq => ?_, p.dj⟩, upd_same⟩
    · have ne : ∀ b, b ∈ ρ.c → b ≠ d := fun b hb z => nd (.inl (z ▸ hb))
      exact RC.kp x.kp (upd_ne (ne _ (List.mem_of_getElem? e2))) (fun j dx g1 g2 => ⟨g1, upd_ne (ne _ (List.mem_of_getElem? g2))⟩) (p.at_ i ce a e1 e2)
    · obtain ⟨v, hv, nv⟩ := p.hid q hq
      have ne : q ≠ d := fun z => nd (.inr (z ▸ hq))
      exact ⟨v, by rw [upd_ne ne]; exact hv, nv⟩
theorem RVd.get {kvs : List (PV × PV)} : ∀ {vs : List (Key × V)} {i : Nat}, RVd K ρ H kvs vs → i < kvs.length → ∃ k x c v, kvs[i]? = some (k, x) ∧ vs[i]? = some (c, v) ∧ keyP k = some c ∧ RV K ρ H x v := by
  induction kvs with
  | nil => intro vs i _ hi; simp at hi
  | cons kv kvs ih =>
    intro vs i r hi
    obtain ⟨k, x⟩ := kv
    obtain ⟨c, v, r', e1, e2, h1, h2⟩ := r
    subst e1
    cases i with
    | zero => exact ⟨k, x, c, v, rfl, rfl, e2, h1⟩
    | succ i => exact ih h2 (by simpa using hi)
theorem RVt.get {kvs : List (PV × PV)} : ∀ {vs : List (List Key × V)} {i : Nat}, RVt K ρ H kvs vs → i < kvs.length → ∃ k x c v, kvs[i]? = some (k, x) ∧ vs[i]? = some (c, v) ∧ keyT k = some c ∧ RV K ρ H x v := by
  induction kvs with
  | nil => intro vs i _ hi; simp at hi
  | cons kv kvs ih =>
    intro vs i r hi
    obtain ⟨k, x⟩ := kv
    obtain ⟨c, v, r', e1, e2, h1, h2⟩ := r
    subst e1
    cases i with
    | zero => exact ⟨k, x, c, v, rfl, rfl, e2, h1⟩
    | succ i => exact ih h2 (by simpa using hi)
/-- a key is the value -/
theorem keyP_back {k : PV} {c : Key} (e : keyP k = some c) : RV K ρ H k (kV c) := by
  cases k with
  | int i => cases e; rfl
  | str x => cases e; rfl
  | _ => cases e
theorem keysP_back : ∀ {ks : List PV} {cs : List Key}, keysP ks = some cs → RVs K ρ H ks (cs.map kV)
  | [], _, e => by cases e; rfl
  | k :: ks, _, e => by
    simp only [keysP, Option.bind_eq_some_iff, Option.map_eq_some_iff] at e
    obtain ⟨c, e1, cs, e2, rfl⟩ := e
    exact ⟨_, _, rfl, keyP_back e1, keysP_back e2⟩
theorem keyT_back {k : PV} {c : List Key} (e : keyT k = some c) {q : Addr} (nq : ¬ ρ.has q) (hq : H q = some (.tup (c.map kV))) : RV K ρ H k (.ref q) := by
  cases k with
  | tup xs =>
    obtain ⟨l, e⟩ := keyT_two e
    have r := keysP_back (K := K) (ρ := ρ) (H := H) e
    exact ⟨q, _, rfl, ⟨nq, _, hq, .two (by rw [← r.len]; exact l)⟩, r⟩
  | _ => cases e
noncomputable def mItD (m : M PV) : M (List PV) := fun l h => (m l h).bind fun x h1 => match x with
  | .dct kvs => .ok (kvs.map (·.1)) h1
  | _ => .no
theorem xi_keys {tg : Expr} (he : XE X W e m) : XI X W tg e (mItD m) := pi_weak (pi_keysL he) fun σ H R ⟨ρ, h, l, p, rl, o⟩ =>
  ⟨ρ, h, l, p, rl, Out.mono (Out.bind o) fun v H1 ⟨x, h1, ρ1, e1, p1, r1, o1⟩ => by
    cases x with
    | dct kvs =>
      obtain ⟨d, vs, e2, t, rs⟩ := r1
      refine ⟨d, e2, .inl ⟨vs, t.2, fun ob H' lk => ?_⟩⟩
      obtain ⟨x2, p2, hf⟩ := lk.ext p1 (show IsDct (.dK vs) from trivial) t.1
      have nd : ¬ ρ1.has d := t.1
      have at_ : ∀ ρ' H2, Kp ρ1 H' ρ' H2 → H2 d = some (.frz ob (.dK vs)) := fun ρ' H2 a => (a.at_ (o := .frz ob (.dK vs)) trivial nd hf).2
      refine o1 ρ1 H' _ x2 p2 ⟨fun i ρ' h' H2 a _ hi => ⟨at_ _ _ a, by rw [← rs.len]; simpa using hi⟩, fun i ρ' h' H2 a _ hi => ⟨at_ _ _ a, by rw [← rs.len]; simpa using hi⟩, fun i ρ' h' H2 y x H3 a p' ey yl => ?_⟩
      obtain ⟨e3, k, v, hk, ex⟩ := yl
      subst e3
      rw [List.getElem?_map] at ey
      cases q : kvs[i]? with
      | none => rw [q] at ey; cases ey
      | some kv =>
        rw [q] at ey
        cases ey
        obtain ⟨k', x', c, v', g1, g2, g3, _⟩ := RVd.get rs (List.getElem?_eq_some_iff.mp q).1
        rw [q] at g1; cases g1
        rw [hk] at g2; cases g2
        rw [ex]
        exact ⟨Ext.refl _ _, p', keyP_back g3⟩
    | _ => exact o1.elim⟩
end
end Wg

namespace Wg
open PySem PySem.Spec PyProof.Rows L2 SlX
section
variable {X : Cx} {W : WQ}
/-! ### list.count of texts -/
variable {a e : Expr} {es : List Expr} {ma : M PV} {ms : M (List PV)} {p0 pos : Pos}
end
end Wg

namespace Wg
open PySem PySem.Spec PyProof.Rows L2 SlX
section
variable {X : Cx} {W : WQ} {K : KC} {ρ : Pl} {H : Hp} {h : Store} {pos : Pos} {e : Expr} {es : List Expr} {ms : M (List PV)} {p0 : Pos}
/-! ### dict(list of pairs) -/
end
end Wg

namespace Wg
open PySem PySem.Spec PyProof.Rows L2 SlX
section
variable {X : Cx} {W : WQ} {K : KC} {ρ : Pl} {H : Hp} {h : Store} {pos : Pos} {e : Expr} {es : List Expr} {ms : M (List PV)} {p0 : Pos}
/-! ### sorted(dict): its keys -/
theorem rising_le : ∀ (x : Str) (r : List Str), risingS x r = true → ∀ y ∈ r, ltL y.cps.toList x.cps.toList = false
  | _, [], _, y, hy => by cases hy
  | p, x :: r, h, y, hy => by
    rw [risingS, Bool.and_eq_true] at h
    have h1 : ltL x.cps.toList p.cps.toList = false := by
      have q := h.1
      rw [Bool.not_eq_true'] at q
      unfold ltL
      rw [← ltCps_eq]; exact q
    rcases List.mem_cons.mp hy with z | z
    · rw [z]; exact h1
    · exact swo_l.2 _ _ _ h1 (rising_le x r h.2 y z)
theorem sortedS_srtd : ∀ (ys : List Str), sortedS ys = true → SrtO.Srtd ltL (ys.map fun y => y.cps.toList)
  | [], _ => List.Pairwise.nil
  | x :: r, h => by
    refine List.pairwise_cons.mpr ⟨fun z hz => ?_, sortedS_srtd r ?_⟩
    · obtain ⟨y, hy, rfl⟩ := List.mem_map.mp hz
      exact rising_le x r h y hy
    · cases r with
      | nil => rfl
      | cons y r =>
        have h : risingS x (y :: r) = true := h
        rw [risingS, Bool.and_eq_true] at h
        exact h.2
/-- the keys, all texts -/
noncomputable def keysTx (kvs : List (PV × PV)) : Option (List (List Nat)) := strsOf (kvs.map (·.1))
theorem keysTx_at : ∀ {kvs : List (PV × PV)} {vs : List (Key × V)} {L : List (List Nat)}, RVd K ρ H kvs vs → keysTx kvs = some L → vs.map (·.1) = (L.map fun x => (⟨x.toArray⟩ : Str)).map Sum.inr
  | [], _, _, r, e => by rw [show _ = [] from r]; cases e; rfl
  | (k, x) :: kvs, _, L, ⟨c, v, r, e1, e2, h1, h2⟩, e => by
    subst e1
    cases k with
    | str z =>
      unfold keysTx at e
      simp only [List.map_cons, strsOf, Option.map_eq_some_iff] at e
      obtain ⟨L', e3, rfl⟩ := e
      have ih := keysTx_at h2 e3
      cases e2
      rw [List.map_cons, List.map_cons, List.map_cons, ih]
    | _ => unfold keysTx at e; simp [strsOf] at e
noncomputable def dctK (h : Store) : PV → Option (List (PV × PV))
  | .dct kvs => some kvs
  | .ref i => match h[i]? with
    | some (.dct kvs) => some kvs
    | _ => none
  | _ => none
theorem dctK_at (p : Rep K ρ h H) {x : PV} {v : V} {kvs : List (PV × PV)} (r : RV K ρ H x v) (e : dctK h x = some kvs) : ∃ a vs, v = .ref a ∧ Rd H a (.dK vs) ∧ RVd K ρ H kvs vs := by
  cases x with
  | dct ks =>
    cases e
    obtain ⟨a, vs, e1, t, rs⟩ := r
    exact ⟨a, vs, e1, t.2, rs⟩
  | ref i =>
    obtain ⟨a, e1, e2⟩ := r
    simp only [dctK] at e
    cases q : h[i]? with
    | none => rw [q] at e; cases e
    | some c =>
      rw [q] at e
      have rc := p.at_ i c a q e1
      cases c with
      | dct ks =>
        cases e
        obtain ⟨vs, q1, rs⟩ := rc
        exact ⟨a, vs, e2, .inl q1, rs⟩
      | _ => cases e
  | _ => cases e
/-- sorted, of dicts of texts too -/
noncomputable def fSortB (xs : List PV) (h : Store) : R PV := match xs with
  | [x] => match dctK h x with
    | some kvs => match keysTx kvs with
      | some L => if L.length < 64 then .ok (.lst ((isort ltL L).map .str)) h else .no
      | none => .no
    | none => fSorted [x] h
  | _ => .no
theorem cx_sortB : CallX X W fSortB (fun xs H Q => rSortedA X.K X.w xs H Q ∨ ∃ (a : Addr) (kvs : List (Key × V)) (ks : List Str), xs = [.ref a] ∧ Rd H a (.dK kvs) ∧ kvs.map (·.1) = ks.map Sum.inr ∧ ks.length < 64 ∧
    ∀ ys p, ys.Perm ks → sortedS ys = true → H p = none → Q (.ref p) (upd H p (.lst (ys.map V.str)))) := by
  intro ρ h σ H xs vs Q p r o
  unfold fSortB at o
  split at o
  next x =>
    split at o
    next kvs q =>
      obtain ⟨v, e, r1⟩ := rvs1 r
      obtain ⟨a, ws, e2, t, rs⟩ := dctK_at p r1 q
      split at o
      next L q2 =>
        obtain ⟨c, o⟩ := out_if o
        refine .inr ⟨a, ws, L.map fun x => ⟨x.toArray⟩, by rw [e, e2], t, keysTx_at rs q2, by rw [List.length_map]; exact c, fun ys b pm so hb => ?_⟩
        have e3 : (ys.map fun y => y.cps.toList) = isort ltL L := isortL_uniq (by
          have z := pm.map fun y : Str => y.cps.toList
          rw [List.map_map] at z
          have e4 : L.map ((fun y : Str => y.cps.toList) ∘ fun x => (⟨x.toArray⟩ : Str)) = L := by
            rw [show ((fun y : Str => y.cps.toList) ∘ fun x => (⟨x.toArray⟩ : Str)) = id from funext fun x => rfl, List.map_id]
          rw [e4] at z; exact z) (sortedS_srtd ys so)
        have e5 : ys.map V.str = (isort ltL L).map strV := by
          rw [← e3, List.map_map]; rfl
        rw [e5]
        obtain ⟨x', p', r'⟩ := new_lst p hb (RVs.strs (K := kc X W) (ρ := ρ) (H := H) (isort ltL L))
        exact o ρ _ _ x' p' r'
      next => exact o.elim
    next => exact .inl (cx_sorted ρ h σ H _ vs Q p r o)
  next => exact o.elim
end
end Wg

namespace Wg
open PySem PySem.Spec PyProof.Rows L2 SlX
section
variable {K : PySem.W.Frag} {mg : Str → Option Value} {X : Cx} {W : WQ}
/-! ### what a clause catches, told by a table -/
theorem catch_nil {c : Value} : Catch K mg c (ctOf []) := fun x b e => by
  cases x <;> first | (cases e; done) | (simp [ctOf] at e)
theorem catch_cons {c : Value} {n : Str} {E : Addr} {b : Bool} {t : List (Str × Bool)} (hn : mg n = some (.ref E)) (q : PySem.W.exmOne K (.ref E) c = some b) (r : Catch K mg c (ctOf t)) : Catch K mg c (ctOf ((n, b) :: t)) := fun x b' e v h => by
  cases x with
  | cls m =>
    obtain ⟨C, hm, rfl⟩ := h
    simp only [ctOf, List.lookup] at e
    split at e
    next q2 =>
      have em : m = n := by simpa using q2
      subst em
      rw [hn] at hm
      cases hm
      cases e
      exact q
    next => exact r (.cls m) b' (by simpa [ctOf] using e) _ ⟨C, hm, rfl⟩
  | _ => cases e
/-- a clause's class, of the text -/
structure CatK (K : PySem.W.Frag) (mg : Str → Option Value) (x : Str) (t : List (Str × Bool)) : Prop where
  ex : ∃ c, (mg x = some c ∨ (mg x = none ∧ bootBuiltins x = some c ∧ x ≠ "__name__")) ∧ Catch K mg c (ctOf t)
theorem XHds.own {x : Str} {t : List (Str × Bool)} {m : MS} {b0 : Stmt} {st : List Stmt} {p1 p2 : Pos} {r : List ExceptHandler} {l : List HC} (k : CatK X.K X.mg x t)
    (su : ∀ (a : Addr) (oe : Obj) (cls : Value) (d : Option Addr) (pn : List (Addr × Obj)), Zc cls d oe → (∃ vs, oe.data = .fields vs) → XSs (X.suite a ((a, oe) :: pn)) (WNo none) (b0 :: st) m) (q : XHds X r l) (hg : Gl X x := by rfl) (hd : (x == ("__debug__" : Str)) = false := by decide) :
    XHds X (.ExceptHandler (some (.Name x p1)) none (b0 :: st) p2 :: r) (⟨ctOf t, fun _ => m, none⟩ :: l) := by
  obtain ⟨c, k1, k2⟩ := k.ex
  exact .bare ⟨hg, hd, k1⟩ k2 su q
end
end Wg

namespace Wg
open PySem PySem.Spec PyProof.Rows L2 SlX
/-! ### dict(list of pairs), whatever the keys -/
section
variable {P : Program} {w : World} {A : Around} {E : Value → Shared → Prop} {s : Shared}
/-- C i: what the heap tells when i pairs are in the dict at S -/
structure PutOk (P : Program) (w : World) (A : Around) (S : Addr) (n : Nat) (Pv : Nat → Value → Value → Prop) (C : Nat → Heap → Prop) : Prop where
  keep : ∀ i h h', C i h → (∀ o, h.get? S = some o → h'.get? S = some o) → C i h'
  put : ∀ i u v (s : Shared) (Q : Unit → Shared → Prop) (E : Value → Shared → Prop), i < n → Pv i u v → C i s.heap →
    (∀ h' tk, Heap.SameBut S s.heap h' → C (i + 1) h' → Q () { s with heap := h', toks := tk }) → wpAny (model P w) A (dictSet S u v) Q E s
end
end Wg

namespace Wg
open PySem PySem.Spec PyProof.Rows L2 SlX
/-! ### a key that is none or a truth, beside texts -/
section
variable {P : Program} {w : World} {A : Around} {E : Value → Shared → Prop} {s : Shared}
/-- none, a truth -/
noncomputable def OddV : Value → Prop
  | .none => True
  | .bool _ => True
  | _ => False
end
end Wg

namespace Wg
open PySem PySem.Spec PyProof.Rows L2 SlX
/-! ### dict(list of pairs), the last key none or a truth, the others texts -/
noncomputable def OddX (x : V) : Prop := x = .non ∨ ∃ b, x = .bl b
theorem OddX.val {x : V} {u : Value} (o : OddX x) (r : RelV x u) : OddV u := by
  rcases o with rfl | ⟨b, rfl⟩
  · cases (show u = Value.none from r); trivial
  · cases (show u = Value.bool b from r); trivial
/-- keys of the entries -/
theorem pairs_vals {P : Program} {w : World} : ∀ {es : List DictEntry} {kvs : List (Key × Value)}, Pairs (mixKind P w) es kvs → Vals (kvs.map fun kv => kV kv.1) (es.map (·.key))
  | _, _, .nil => .nil
  | _, _, .cons h _ t => .cons (relV_key h) (pairs_vals t)
theorem kv_keys : ∀ {cs : List (Key × V)} {vs : List (Key × Value)}, KV cs vs → cs.map (fun c => kV c.1) = vs.map fun c => kV c.1
  | _, _, .nil => rfl
  | _, _, .cons h t => by rw [List.map_cons, List.map_cons, h.1, kv_keys t]
section
variable {X : Cx} {W : WQ} {K : KC} {ρ : Pl} {H : Hp} {h : Store} {pos : Pos} {e : Expr} {es : List Expr} {ms : M (List PV)} {p0 : Pos} {k : Nat}
end
end Wg

namespace Wg
open PySem PySem.Spec PyProof.Rows L2 SlX
section
variable {X : Cx} {W : WQ} {K : KC} {ρ : Pl} {H : Hp} {h : Store} {pos : Pos} {e : Expr} {es : List Expr} {ms : M (List PV)} {m : M PV} {p0 : Pos} {k : Nat}
theorem RVd.keysV : ∀ {kvs : List (PV × PV)} {vs : List (Key × V)}, RVd K ρ H kvs vs → RVs K ρ H (kvs.map (·.1)) (vs.map fun c => kV c.1)
  | [], _, r => by rw [show _ = [] from r]; rfl
  | (k, x) :: xs, _, ⟨c, v, r, e, h0, h1, h2⟩ => by rw [e]; exact ⟨_, _, rfl, keyP_back h0, RVd.keysV h2⟩
/-! ### isinstance of such a dict -/
noncomputable def rIsiO : List V → Hp → VK → Prop := fun xs H Q => ∃ (p : Addr) (o : Obj) (n : String) (b : Bool), xs = [.ref p, .ty n] ∧ H p = some (.ext (Pin p o)) ∧ o.cls = .type "dict" ∧ kitB "dict" n = some b ∧ Q (.bl b) H
theorem call_isiO : CallR X (.builtin "isinstance") rIsiO := by
  intro pins s σ H xs us Q I r h
  obtain ⟨p, o, n, b, rfl, e, c, kt, q⟩ := h
  obtain ⟨u, u', rfl, r1, r2⟩ := vals2 r
  cases (show u = Value.ref p from r1)
  obtain rfl : u' = Value.type n := r2
  obtain ⟨e', _⟩ := I.hok p _ e
  exact PySem.W.kia_one PySem.W.kitx_dict I.kIn ⟨o, e', c⟩ (kit_ty kt) (fun z => nomatch z) fun tk => ⟨.bl b, H, I.tok tk, rfl, q⟩
noncomputable def fIsiB (xs : List PV) (h : Store) : R PV := match xs with
  | [.dctO _, .ty n] => if (tysB.contains n) = true then .ok (.bl (isTy "dict" n)) h else .no
  | _ => fIsi xs h
noncomputable def rIsiB (K : PySem.W.Frag) : List V → Hp → VK → Prop := fun xs H Q => rIsi K xs H Q ∨ rIsiO xs H Q
theorem cx_isiB : CallX X W fIsiB (rIsiB X.K) := by
  intro ρ h σ H xs vs Q p r o
  unfold fIsiB at o
  split at o
  next ks n =>
    obtain ⟨v, w, e, ⟨a, ob, us, e1, t, ⟨_, es, ep, ex, _⟩, _⟩, r2⟩ := rvs2 r
    obtain ⟨c, o⟩ := out_if o
    exact .inr ⟨a, ob, n, _, by rw [e, e1, show w = _ from r2], t.2, ex.1, kit_at (by decide) (List.contains_iff_mem.mp c), o.ok p rfl⟩
  next => exact .inl (cx_isi ρ h σ H _ vs Q p r o)
/-! ### walking it -/
end
end Wg

namespace Wg
open PySem PySem.Spec PyProof.Rows L2 SlX
section
variable {X : Cx} {W : WQ} {K : KC} {ρ : Pl} {H : Hp} {h : Store} {pos : Pos} {e a b c : Expr} {ms : M (List PV)} {m : M PV} {px py pz pt : Pos} {kt k2 : Nat} {pt2 : Pos}
/-! ### x, y = a, b with plain local names -/
noncomputable def mPar (i j : Nat) (ms : M (List PV)) : MS := fun l h => (ms l h).bs l fun xs h1 => match xs with
  | [x, y] => .ok (.nx ((l.set i (some x)).set j (some y))) h1
  | _ => .no
noncomputable def mPar3 (i j k : Nat) (ms : M (List PV)) : MS := fun l h => (ms l h).bs l fun xs h1 => match xs with
  | [x, y, z] => .ok (.nx (((l.set i (some x)).set j (some y)).set k (some z))) h1
  | _ => .no
theorem xs_par {i j : Nat} {x y : Str} (hc : X.calm = true) (hN : X.N.Nodup) (ha : XA X W [a, b] ms) (hi : X.N[i]? = some x := by rfl) (hj : X.N[j]? = some y := by rfl) (hij : i ≠ j := by decide)
    (hx : X.env.scope.names.lookup x = some .local := by rfl) (hy : X.env.scope.names.lookup y = some .local := by rfl) (c1 : curNe W.cur i = true := by rfl) (c2 : curNe W.cur j = true := by rfl)
    (hw : swappedStores [.Tuple [.Name x px, .Name y py] kt pt] (.Tuple [a, b] k2 pt2) X.env = pure (some [x, y]) := by rfl)
    (hs : swapsWithSole [.Tuple [.Name x px, .Name y py] kt pt] (.Tuple [a, b] k2 pt2) pos.line X.env = pure false := by rfl) :
    XS X W (.Assign [.Tuple [.Name x px, .Name y py] kt pt] (.Tuple [a, b] k2 pt2) pos) (mPar i j ms) :=
  ps_weak (ps_par hc hN hi hj hij hx hy ha hw hs) fun D σ H ⟨ρ, h, l, p, rl, o⟩ => ⟨ρ, h, l, p, rl, Out.mono (OutS.bs rl o) fun vs H1 ⟨xs, h1, ρ1, e1, p1, r1, o1⟩ => by
    split at o1
    next x y =>
      obtain ⟨v, w, e, g1, g2⟩ := rvs2 r1
      exact ⟨v, w, e, o1 ρ1 H1 _ (Ext.refl _ _) p1 (((rl.ext e1).set c1 g1).set c2 g2)⟩
    next => exact o1.elim⟩
@[simp] theorem mPar_at (i j : Nat) (l : Lv) : mPar i j ms l h = (ms l h).bs l fun xs h1 => match xs with
  | [x, y] => .ok (.nx ((l.set i (some x)).set j (some y))) h1
  | _ => .no := (rfl)
@[simp] theorem mPar3_at (i j k : Nat) (l : Lv) : mPar3 i j k ms l h = (ms l h).bs l fun xs h1 => match xs with
  | [x, y, z] => .ok (.nx (((l.set i (some x)).set j (some y)).set k (some z))) h1
  | _ => .no := (rfl)
end
end Wg

namespace Wg
open PySem PySem.Spec PyProof.Rows L2 SlX
/-! ### making an error of an own class with an __init__; its super().__init__(..) -/
/-- that X(v) comes to the __init__ at fI; that the built-in __init__ of its base lays the args anew -/
structure MadeBy (K : PySem.W.Frag) (C : Addr) (i : String) : Prop where
  own : ∀ {prog : Program} {w : World} {A : Around} {R : Result → Shared → Prop} {h : Heap} {g : Array GenState} {d : Drawn} {t : Nat} {os : OsState} {rest : List Value} {fI : Addr}, K.In h →
    PySem.W.Looks (model prog w) h (typeLookup (.ref C) "__init__") (some (.ref fI)) → (∀ self, PySem.W.Looks (model prog w) h (bindSpecial (.ref fI) self) (.ref fI, [self])) → rest.length ≤ sizeLine →
    codeAny (model prog w) (A.under (.builtin "type.__call__" ⟨.ref C :: rest, []⟩)) (.call (.ref fI) ⟨.ref (h.objs.size + 1) :: rest, []⟩) (PySem.W.InitBack (h.objs.size + 1) R) ⟨(h.push (PySem.W.kdv_tup rest)).push (PySem.HandSPX.excO C h.objs.size), g, d, t, os⟩ →
    codeAny (model prog w) A (.call (.ref C) ⟨rest, []⟩) R ⟨h, g, d, t, os⟩
  ini : ∀ {prog : Program} {w : World} {A : Around} {E : Value → Shared → Prop} {s : Shared} {h₀ : Heap} {L : Addr} {m : Str → Option Value} {news : List (Addr × Obj)} {x u t : Addr} {dv : Option Addr} {c2 : Value} {rest : List Value} {nw : Obj → List (Addr × Obj)} {Q : Value → Shared → Prop},
    Fr h₀ L s.heap m → K.In h₀ → News h₀ L s.heap news → (u, PySem.W.kxs_mw i x) ∈ news → PySem.W.UpdF x (PySem.W.excObj C t dv c2) news nw → rest.length ≤ sizeLine →
    (∀ t' h', Fr h₀ L h' m → News h₀ L h' ((t', PySem.W.excTup rest) :: nw (PySem.W.excObj C t' dv c2)) → (∀ p ∈ news, p.1 < t') → Q .none { s with heap := h' }) → wpAny (model prog w) A (call (.ref u) rest) Q E s
section
variable {K : PySem.W.Frag} {C : Addr} {B newId i : String} {bmB : List Value}
end
/-! KeyError: it takes the __new__ of LookupError, and has an __init__ of its own -/
noncomputable abbrev mroKey : List Value := [.type "KeyError", .type "LookupError", .type "Exception", .type "BaseException", .type "object"]
theorem key_plain : Slot "KeyError" "__init__" "KeyError.__init__" :=
  Slot.of (owner := "KeyError") (n := "__init__") (by rw [typeLookup_type, builtinLookup_eq_fast]; kernel_rfl) (by decide +kernel)
    (by decide +kernel) (by decide +kernel) (by first | exact .inl (by decide +kernel) | exact .inr (by decide +kernel))
    (by rw [isSubtype_type]; kernel_rfl)
theorem key_entry : entryFor table "KeyError.__init__" = some Builtin.«BaseException.__init__» :=
  entryFor_alias (id' := "BaseException.__init__") (by rw [fastTable_eq_tree]; kernel_rfl) (by first | rfl | decide +kernel) (by decide +kernel)
    (by rw [fastTable_eq_tree]; kernel_rfl)
theorem key_kind : builtinKind "KeyError.__init__" = some .slot := by kernel_rfl
theorem key_row : Manifest.signature? "KeyError.__init__" = some ⟨.positional, "*", "KeyError", .self, [⟨"args", .varPos, false⟩]⟩ := by kernel_rfl
section
variable {M : Model} {A : Around} {E : Value → Shared → Prop} {h : Heap} {g : Array GenState} {d : Drawn} {t : Nat} {os : OsState}
variable {nm q : Str} {C N : Addr} {bs bm bmL : List Value} {hdct : Bool} {sn : List Str} {sub : List Value} {ab : Bool} {col : Option Bool} {dd : Option Addr} {k0 k1 k2 k3 k5 : Option Value} {B nw iB : String}
/-- the class object, its bases -/
noncomputable abbrev clsO (nm q : Str) (C N : Addr) (bs bm : List Value) (hdct : Bool) (sn : List Str) (sub : List Value) (ab : Bool) (col : Option Bool) (dd : Option Addr) (k0 k1 k2 k3 k5 : Option Value) (nw : String) : Obj := excClassObj nm q C N bs bm hdct sn sub ab col dd k0 k1 k2 k3 k5 nw
theorem bent_check (F : ExcBaseFacts B nw iB bmL) (hb : (Value.ref C :: bm).contains (.type B) = true) {us : List Value} {Q : Unit → Shared → Prop} (gC : h.get? C = some (clsO nm q C N bs bm hdct sn sub ab col dd k0 k1 k2 k3 k5 nw))
    (done : Q () ⟨h, g, d, t, os⟩) : wpAny M A (checkBuiltinCall nw ⟨.ref C :: us, []⟩) Q E ⟨h, g, d, t, os⟩ := by
  have ns := F.noStar
  simp only [checkBuiltinCall, F.newSplit, F.newKind, F.newRow]
  repeat (first | refine wpAny_loadPart_at gC ?_ | (refine wpAny_isSubtype_exc gC ?_; rw [hb]) | refine wpAny_staticBase_exc gC ?_ | refine wpAny_madeBy_exc gC ?_ | simp only [Bool.false_eq_true, bne_self_eq_false, if_false] | wp_step)
  exact done
end
section
variable {prog : Program} {w : World} {A : Around} {E : Value → Shared → Prop} {R : Result → Shared → Prop} {h : Heap} {g : Array GenState} {d : Drawn} {t : Nat} {os : OsState}
variable {nm q : Str} {C N : Addr} {bs bm bmL : List Value} {hdct : Bool} {sn : List Str} {sub : List Value} {ab : Bool} {col : Option Bool} {dd : Option Addr} {k0 k1 k2 k3 k5 : Option Value} {B nw iB : String}
/-- what is made first -/
noncomputable abbrev made2 (h : Heap) (C : Addr) (us : List Value) : Heap := (h.push (PySem.W.kdv_tup us)).push (PySem.HandSPX.excO C h.objs.size)
theorem bent_new (F : ExcBaseFacts B nw iB bmL) (hb : (Value.ref C :: bm).contains (.type B) = true) (ha : (Value.ref C :: bm).contains (.type "AttributeError") = false) (hn : (Value.ref C :: bm).contains (.type "NameError") = false) {us : List Value}
    (gC : h.get? C = some (clsO nm q C N bs bm hdct sn sub ab col dd k0 k1 k2 k3 k5 nw)) (done : R (.ok (.ret (.ref (h.objs.size + 1)))) ⟨made2 h C us, g, d, t, os⟩) (hz : us.length ≤ sizeLine) :
    codeAny (model prog w) A (.builtin nw ⟨.ref C :: us, []⟩) R ⟨h, g, d, t, os⟩ := by
  have en := F.ends
  refine codeAny_builtinAt (F.entry) ?_
  unfold Builtin.«BaseException.__new__»
  refine PySem.wpAt_bind ?_
  show PySem.wpAt _ _ _ (stack >>= _) _ _ _
  refine PySem.wpAt_bind (PySem.wpAt_stack fun _ _ => PySem.wpAt_of_wpAny ?_)
  wp_walk
  refine PySem.wpAt_of_wpAny ?_
  rw [F.owner]
  repeat (first | with_reducible refine wpAny_madeHere_exc F.canon gC ?_ | with_reducible refine wpAny_loadPart_at gC ?_ | (with_reducible refine wpAny_isSubtype_exc gC ?_; first | rw [hb] | rw [ha] | rw [hn]) | wp_step)
  show R _ _
  rw [Heap.size_push]
  exact done
theorem bent_type (F : ExcBaseFacts B nw iB bmL) (hb : (Value.ref C :: bm).contains (.type B) = true) (ha : (Value.ref C :: bm).contains (.type "AttributeError") = false) (hn : (Value.ref C :: bm).contains (.type "NameError") = false) {us : List Value} {fI : Addr} {Q : Fin → Shared → Prop}
    (gC : h.get? C = some (clsO nm q C N bs bm hdct sn sub ab col dd k0 k1 k2 k3 k5 nw)) (hi : PySem.W.Looks (model prog w) h (typeLookup (.ref C) "__init__") (some (.ref fI))) (bd : ∀ self, PySem.W.Looks (model prog w) h (bindSpecial (.ref fI) self) (.ref fI, [self])) (hz : us.length ≤ sizeLine)
    (go : codeAny (model prog w) A (.call (.ref fI) ⟨.ref (h.objs.size + 1) :: us, []⟩) (fun r s' => match r with | .ok (.ret v) => v = .none ∧ Q (.done (.ret (.ref (h.objs.size + 1)))) s' | .ok _ => False | .error e => E e s') ⟨made2 h C us, g, d, t, os⟩) :
    wpAny (model prog w) A (Builtin.«type.__call__» ⟨.ref C :: us, []⟩) Q E ⟨h, g, d, t, os⟩ := by
  repeat (first | with_reducible refine wpAny_loadPart_at gC ?_ | with_reducible refine wpAny_madeBy_exc gC ?_ | wp_step)
  refine codeAny_call_builtin_code (Code.quiet_builtin _ F.quiet) (bent_check F hb gC ?_)
  refine bent_new F hb ha hn gC ?_ hz
  show wpAny _ _ _ _ _ _
  have up : ∀ b o, h.get? b = some o → (made2 h C us).get? b = some o := fun b o e => Heap.get?_push_of_some _ (Heap.get?_push_of_some _ e)
  have gC2 := up _ _ gC
  have ge : (made2 h C us).get? (h.objs.size + 1) = some (PySem.HandSPX.excO C h.objs.size) := by heap_get
  have cC : (Value.ref C :: bm).contains (.ref C) = true := by simp
  have hi2 := hi.keeps up
  have bd2 := (bd (.ref (h.objs.size + 1))).keeps up
  unfold isInstance
  repeat (first | with_reducible refine wpAny_loadPart_at ge ?_ | (with_reducible refine wpAny_isSubtype_exc gC2 ?_; rw [cC]) | wp_step)
  show wpAny _ _ (typeLookup (.ref C) _) _ _ _
  refine hi2.at ?_
  refine wpAny_holding (wpAny_bind (bd2.at ?_))
  refine wpAny_bind (wpAny_call (codeAny_mono go fun r s' z => ?_))
  rcases r with e | (v | _ | _ | _) <;> first | exact z | exact z.elim | skip
  obtain ⟨rfl, z⟩ := z
  first | exact wpAny_pure (wpAny_pure z) | (wp_walk; exact z)
theorem bent_call (F : ExcBaseFacts B nw iB bmL) (hb : (Value.ref C :: bm).contains (.type B) = true) (ha : (Value.ref C :: bm).contains (.type "AttributeError") = false) (hn : (Value.ref C :: bm).contains (.type "NameError") = false) {us : List Value} {fI : Addr}
    (gC : h.get? C = some (clsO nm q C N bs bm hdct sn sub ab col dd k0 k1 k2 k3 k5 nw)) (hi : PySem.W.Looks (model prog w) h (typeLookup (.ref C) "__init__") (some (.ref fI))) (bd : ∀ self, PySem.W.Looks (model prog w) h (bindSpecial (.ref fI) self) (.ref fI, [self])) (hz : us.length ≤ sizeLine)
    (go : codeAny (model prog w) (A.under (.builtin "type.__call__" ⟨.ref C :: us, []⟩)) (.call (.ref fI) ⟨.ref (h.objs.size + 1) :: us, []⟩) (PySem.W.InitBack (h.objs.size + 1) R) ⟨made2 h C us, g, d, t, os⟩) : codeAny (model prog w) A (.call (.ref C) ⟨us, []⟩) R ⟨h, g, d, t, os⟩ := by
  have l1 := tc_lookup
  have l2 := tc_bind (.ref C)
  have ty : (⟨h, g, d, t, os⟩ : Shared).TypeIs (.ref C) "type" := ⟨_, gC, rfl⟩
  refine codeAny_of_tree ?_
  show wpAny _ _ (callAny (.ref C) _) _ _ _
  repeat (any_goals (first | assumption | with_reducible refine wpAny_loadPart_at gC ?_ | wp_step))
  refine ⟨rfl, ?_⟩
  refine codeAny_call_builtin_at (Code.quiet_builtin _ (by decide +kernel)) entry_typeCall (wpAny_check_type_call_sub gC (bent_type F hb ha hn gC hi bd hz ?_))
  refine codeAny_mono go fun r s' z => ?_
  rcases r with e | (v | _ | _ | _) <;> exact z
end
section
variable {prog : Program} {w : World} {A : Around} {E : Value → Shared → Prop} {h₀ : Heap} {L : Addr} {m : Str → Option Value} {news : List (Addr × Obj)} {K : PySem.W.Frag} {x u C : Addr}
theorem key_bound {M : Model} {h : Heap} {g : Array GenState} {d : Drawn} {tk : Nat} {os : OsState} {cd : ClassData} {dd : Option Addr} {sl : Array (Option Value)} {oe : Obj} {us : List Value} {Q : Unit → Shared → Prop} (gC : h.get? C = some ⟨.type "type", dd, .cls cd, sl⟩) (he : h.get? x = some oe) (hc : oe.cls = .ref C) (done : Q () ⟨h, g, d, tk, os⟩) :
    wpAny M A (checkBoundCall "KeyError.__init__" ⟨.ref x :: us, []⟩) Q E ⟨h, g, d, tk, os⟩ := by
  have ns : ("KeyError" != "*") = true := by decide +kernel
  simp only [checkBoundCall, key_kind, key_row]
  repeat (first | (with_reducible refine wpAny_loadPart_at he ?_; rw [hc]) | with_reducible refine wpAny_loadPart_at gC ?_ | wp_step)
  refine wpAny_onRaise ?_
  have star : ∀ (a b : String) (n : Nat), Bind.check ⟨.positional, "*", "KeyError", .self, [⟨"args", .varPos, false⟩]⟩ a b n (List.map (fun x => x.fst) ({ pos := Value.ref x :: us } : Args).kw) = pure () := fun a b n => check_star_args _ _ _ _ _ _
  rw [star]
  exact wpAny_pure done
theorem key_ini {s : Shared} {t : Addr} {dv : Option Addr} {c2 : Value} {us : List Value} {nw : Obj → List (Addr × Obj)} {cd : ClassData} {dd : Option Addr} {sl : Array (Option Value)} {Q : Value → Shared → Prop} (F : Fr h₀ L s.heap m) (gC : s.heap.get? C = some ⟨.type "type", dd, .cls cd, sl⟩) (N : News h₀ L s.heap news) (hm : (u, PySem.W.kxs_mw "KeyError.__init__" x) ∈ news)
    (U : PySem.W.UpdF x (PySem.W.excObj C t dv c2) news nw) (hz : us.length ≤ sizeLine)
    (done : ∀ t' h', Fr h₀ L h' m → News h₀ L h' ((t', PySem.W.excTup us) :: nw (PySem.W.excObj C t' dv c2)) → (∀ p ∈ news, p.1 < t') → Q .none { s with heap := h' }) : wpAny (model prog w) A (call (.ref u) us) Q E s := by
  have gu := (N _ hm).1
  obtain ⟨l1, l2, e0, e1, n1, n2⟩ := U.split
  subst e0
  have mx : (x, PySem.W.excObj C t dv c2) ∈ l1 ++ (x, PySem.W.excObj C t dv c2) :: l2 := by simp
  obtain ⟨gx, xL, x0⟩ := N _ mx
  have below : ∀ p ∈ l1 ++ (x, PySem.W.excObj C t dv c2) :: l2, p.1 < s.heap.objs.size := fun p hp => Heap.lt_size (N p hp).1
  have fin : ∀ h', (∀ b o, b ≠ x → s.heap.get? b = some o → h'.get? b = some o) → h'.get? x = some (PySem.W.excObj C s.heap.objs.size dv c2) → h'.get? s.heap.objs.size = some (PySem.W.excTup us) → Q .none { s with heap := h' } := by
    intro h' old gx' gt'
    obtain ⟨oL, es, ep, gL, rest⟩ := F.ns
    have free : h₀.get? s.heap.objs.size = none := by
      cases z : h₀.get? s.heap.objs.size with
      | none => rfl
      | some o => exact absurd (Heap.lt_size (F.keep _ _ z)) (Nat.lt_irrefl _)
    have F' : Fr h₀ L h' m := by
      refine ⟨⟨oL, es, ep, old _ _ (Ne.symm xL) gL, rest⟩, fun b o z => ?_, F.above⟩
      by_cases y : b = x
      · rw [y, x0] at z; cases z
      · exact old b o y (F.keep b o z)
    refine done _ h' F' (fun p hp => ?_) below
    rw [e1] at hp
    rcases List.mem_cons.mp hp with e | hp
    · rw [e]
      refine ⟨gt', fun z => ?_, free⟩
      have z' : s.heap.objs.size = L := z
      have y := Heap.lt_size gL
      rw [← z'] at y
      exact absurd y (Nat.lt_irrefl _)
    · rcases List.mem_append.mp hp with hp | hp
      · obtain ⟨y1, y2⟩ := N p (List.mem_append.mpr (.inl hp))
        exact ⟨old _ _ (n1 p hp) y1, y2⟩
      · rcases List.mem_cons.mp hp with e | hp
        · rw [e]; exact ⟨gx', xL, x0⟩
        · obtain ⟨y1, y2⟩ := N p (List.mem_append.mpr (.inr (List.mem_cons_of_mem _ hp)))
          exact ⟨old _ _ (n2 p hp) y1, y2⟩
  obtain ⟨hh, g, d, tk, os⟩ := s
  refine wpAny_call (codeAny_of_tree ?_)
  show wpAny _ A.in1 (callAny (.ref u) ⟨us, []⟩) _ _ _
  simp only [callAny]
  refine wpAny_bind (wpAny_load gu ?_)
  have tb : (Value.type "method-wrapper" == Value.type "method" || Value.type "method-wrapper" == Value.type "builtin_function_or_method" || Value.type "method-wrapper" == Value.type "method-wrapper") = true := by decide
  simp only [PySem.W.kxs_mw, tb, if_true]
  refine PySem.W.KFB.if_so (by decide) ?_
  refine wpAny_bind (key_bound gC gx rfl ?_)
  refine wpAny_bind (wpAny_pure (wpAny_pure ?_))
  refine ⟨plainId_quiet key_plain.plain _, codeAny_builtin key_entry ?_⟩
  exact PySem.W.exc_init_tree (cls := .ref C) (t0 := t) (dv := dv) (c2 := c2) (c3 := .none) (b4 := .bool false) gx hz fin
theorem madeBy_key (q : PySem.W.excInitIn K C mroKey "LookupError.__new__" = true) : MadeBy K C "KeyError.__init__" where
  own := fun hin hi hb hz hq => by
    obtain ⟨nm, N', qn, bs, bm, hdct', sn, sub, ab, col, dd, k0, k1, k2, k3, k5, hC, hT⟩ := PySem.W.excInit_of hin q
    refine bent_call PySem.F.excBase_LookupError ?_ ?_ ?_ hC hi hb hz hq
    · rw [List.contains_cons, hT, show mroKey.contains (Value.type "LookupError") = true by decide +kernel, Bool.or_true]
    · rw [List.contains_cons, hT, show mroKey.contains (Value.type "AttributeError") = false by decide +kernel]; rfl
    · rw [List.contains_cons, hT, show mroKey.contains (Value.type "NameError") = false by decide +kernel]; rfl
  ini := fun F X N hm U hz h => by
    obtain ⟨nm, N', qn, bs, bm, hdct', sn, sub, ab, col, dd, k0, k1, k2, k3, k5, hC, hT⟩ := PySem.W.excInit_of (X.keeps F.keep) q
    exact key_ini F hC N hm U hz h
end
theorem kxs_KeyError : PySem.W.KxsFacts "KeyError" "KeyError.__init__" := ⟨by show builtinType _ = _; rw [builtinType_eq_fast]; kernel_rfl, (by first | kernel_rfl | rfl)⟩
theorem store_KeyError : PySem.StoreFacts "KeyError" mroKey "object.__setattr__" "object" where
  mro := (by kernel_rfl)
  slot := Slot.of (owner := "object") (n := "__setattr__") (by rw [typeLookup_type, builtinLookup_eq_fast]; kernel_rfl) (by decide +kernel)
    (by decide +kernel) (by decide +kernel) (by first | exact .inl (by decide +kernel) | exact .inr (by decide +kernel)) (by rw [isSubtype_type]; kernel_rfl)
  entry := PySem.F.entry_object_sa
  kind := (by decide +kernel)
  split := (by decide +kernel)
  hasOwner := (by decide +kernel)
  args := fun x y z => (by unfold argsOk; kernel_rfl)
  passes := fun self => (by kernel_rfl)
end Wg

namespace Wg
open PySem PySem.Spec PyProof.Rows L2 SlX
/-! ### X(v), X an error class whose __init__ says super().__init__('..') and keeps v -/
/-- where the class, its __init__ and what these need stand, of what base it is -/
structure InitR where
  C : Addr
  fI : Addr
  cc : Addr
  cda : Addr
  B : String
  i : String
  bmB : List Value
  qual : Str
  st : Stmt
  od : Option Addr
  osl : Array (Option Value)
  dV : Value
  kV : Value
  doc : Value
  pm : Value
  an : Option Addr
  ct : Value
  vs : Array Value
  f : Str
  p : Str
noncomputable abbrev InitR.fd (r : InitR) : FuncData := PySem.W.ksFn "__init__" r.qual (defArgs r.st) (defBody r.st) (defScope r.st) r.dV r.kV r.doc r.pm r.an (.ref r.cda) r.ct r.cc
/-- the body -/
noncomputable def initBody (m f p : Str) (k : Nat) (ps : Fin 10 → Pos) : List Stmt :=
  [.Expr (.Call (.Attribute (.Call (.Name "super" (ps 0)) [] [] (ps 1)) "__init__" (ps 2)) [.Constant (.str m) k (ps 3)] [] (ps 4)) (ps 5), .Assign [.Attribute (.Name "self" (ps 6)) f (ps 7)] (.Name p (ps 8)) (ps 9)]
structure InitOk (P : Program) (K : PySem.W.Frag) (r : InitR) : Prop where
  MB : MadeBy K r.C r.i
  KF : PySem.W.KxsFacts r.B r.i
  SF : PySem.StoreFacts r.B r.bmB "object.__setattr__" "object"
  hi : PySem.W.findIn K (.ref r.C) "__init__" = some (some (.ref r.fI))
  ho : K.lookup r.fI = some ⟨.type "function", r.od, .func r.fd, r.osl⟩
  hcd : PySem.W.codeIn K (.ref r.cda) r.qual = true
  hcode : ∃ ccl cdd ccs file tf, K.lookup r.cda = some ⟨ccl, cdd, .fields r.vs, ccs⟩ ∧ r.vs[2]? = some (.str file tf) ∧ ((P.main.file : Str) == file) = true
  hcell : ∃ cl cld csl, K.lookup r.cc = some ⟨cl, cld, .cell (some (.ref r.C)), csl⟩
  hD : (PySem.W.clsIn K r.C).isSome = true
  hsub : PySem.W.mroIn K r.C (.ref r.C) = some true
  hm : PySem.W.ks_superIn K r.C r.C "__init__" = some (some (.builtin r.i))
  hB : PySem.W.subIn K (.ref r.C) (.type r.B) = some true
  hop : PySem.W.nsIn K cStatics "thirdparty.any" = some none
  hsa : PySem.W.findIn K (.ref r.C) "__setattr__" = some (some (.builtin "object.__setattr__"))
  hov : PySem.W.excOver K r.C r.bmB = true
  htk : PySem.W.takerIn K r.C r.f = some none
  hdct : PySem.W.hasDictIn K r.C = true
  htop : (P.main.scope.names.lookup ("super" : Str)).isSome = false
  body : ∃ m k ps, defBody r.st = initBody m r.f r.p k ps ∧ ∀ env : Env, ∃ pl : Sem Bool, eval (.Call (.Attribute (.Call (.Name "super" (ps 0)) [] [] (ps 1)) "__init__" (ps 2)) [.Constant (.str m) k (ps 3)] [] (ps 4)) env = (do
      let ov ← attributeBase (.Call (.Name "super" (ps 0)) [] [] (ps 1)) "__init__" env (eval (.Call (.Name "super" (ps 0)) [] [] (ps 1)) env)
      standAt (ps 2).atName
      let (f, first) ← holding [ov] (getMethod ov "__init__" pl)
      callWith (ps 4) f first (backTo (ps 4) (starEach [.Constant (.str m) k (ps 3)] env)) [])
  par : ∃ ar : Arg, ((defArgs r.st).posonlyargs ++ (defArgs r.st).args).head? = some ar ∧ ar.arg = "self"
  bind : ∀ (s : Shared) (u v : Value), BindsTo s r.fd ⟨[u, v], []⟩ [("self", u), (r.p, v)]
  kS : (defScope r.st).names.lookup ("super" : Str) = some .globalImplicit
  kC : (defScope r.st).names.lookup ("__class__" : Str) = some .free
  kf : (defScope r.st).names.lookup ("self" : Str) = some .local
  kp : (defScope r.st).names.lookup r.p = some .local
  nop : ("self" : Str) ≠ r.p
  ndb : (r.p == ("__debug__" : Str)) = false
  cel : ∀ x ∈ (defScope r.st).names, x.2 ≠ .cell
  co : (defScope r.st).isCoroutine = false
  gen : (defScope r.st).isGenerator = false
  fun_ : (defScope r.st).kind = .function
section
open PySem.W PySem.Calls
variable {P : Program} {w : World} {A : Around} {E : Value → Shared → Prop} {s : Shared} {K : PySem.W.Frag} {r : InitR} {mg mb : Str → Option Value}
theorem call_errI (T : InitOk P K r) (hin : K.In s.heap) (hg : s.heap.Ns mainGlobals mg) (hmg : mg "super" = none) (hb : s.heap.Ns builtinsNs mb) (hmb : mb "super" = some (.type "super")) (hlim : s.heap.NoLimit) (hroom : A.depth + 3 < recursionLimit) {v : Value} {Q : Value → Shared → Prop}
    (h : ∀ e dx t h' tk, (∀ b o, s.heap.get? b = some o → h'.get? b = some o) → s.heap.objs.size ≤ e → s.heap.objs.size ≤ dx → e ≠ dx → h'.get? e = some (PySem.W.excObj r.C t (some dx) .none) → h'.Ns1 dx (fun y => if y = r.f then some v else none) → Q (.ref e) { s with heap := h', toks := tk }) :
    wpAny (model P w) A (call (.ref r.C) [v]) Q E s := by
  have hoI := hin _ _ T.ho
  have hi' := PySem.W.looks_findIn (M := model P w) hin T.hi
  obtain ⟨ccl, cdd, ccs, file, tf, hcode, hvs, hfile⟩ := T.hcode
  obtain ⟨cl, cld, csl, hcell⟩ := T.hcell
  obtain ⟨m, k, ps, body, he⟩ := T.body
  obtain ⟨ar, har, har2⟩ := T.par
  obtain ⟨hh, g, d, tk0, os⟩ := s
  have kk : ∀ b o, hh.get? b = some o → ((hh.push (PySem.W.kdv_tup [v])).push (PySem.HandSPX.excO r.C hh.objs.size)).get? b = some o := fun b o e => Heap.get?_push_of_some _ (Heap.get?_push_of_some _ e)
  have ge : ((hh.push (PySem.W.kdv_tup [v])).push (PySem.HandSPX.excO r.C hh.objs.size)).get? (hh.objs.size + 1) = some (PySem.HandSPX.excO r.C hh.objs.size) := by heap_get
  have gt : ((hh.push (PySem.W.kdv_tup [v])).push (PySem.HandSPX.excO r.C hh.objs.size)).get? hh.objs.size = some (PySem.W.kdv_tup [v]) := by heap_get
  have gz : ((hh.push (PySem.W.kdv_tup [v])).push (PySem.HandSPX.excO r.C hh.objs.size)).objs.size = hh.objs.size + 2 := by simp [Heap.size_push]
  have kroom : (A.under (.builtin "type.__call__" ⟨.ref r.C :: [v], []⟩)).depth < recursionLimit := by rw [make_depth]; omega
  refine wpAny_call (T.MB.own hin hi' (fun self => PySem.W.exc_bind hoI rfl self) (by simp [sizeLine_eq]) ?_)
  refine PySem.ks_codeAny_call_defAt (fd := r.fd) (body := defBody r.st) (binds := [("self", .ref (hh.objs.size + 1)), (r.p, v)]) kroom (kk _ _ hoI) rfl (hlim.keeps kk) (PySem.W.codeRec_of (hin.keeps kk) T.hcd) rfl (T.bind _ _ _)
    T.cel (fun y hy => ?_) (fun h₁ hns hk₁ => ?_) T.co T.gen T.fun_
  · simp only [List.mem_cons, List.not_mem_nil, or_false] at hy
    rcases hy with rfl | rfl
    · exact T.kf
    · exact T.kp
  rw [gz] at hns ⊢
  -- the frame of __init__, what was laid
  have F0 : Fr hh (hh.objs.size + 2) h₁ (fun x => List.lookup x ([("self", Value.ref (hh.objs.size + 1)), (r.p, v)] : List (Str × Value)).reverse) := ⟨hns, fun b o e => hk₁ b o (kk b o e), by omega⟩
  have N0 : News hh (hh.objs.size + 2) h₁ [(hh.objs.size + 1, PySem.W.excObj r.C hh.objs.size none .none)] := fun p hp => by
    rw [List.mem_singleton.mp hp]
    exact ⟨hk₁ _ _ ge, by show hh.objs.size + 1 ≠ hh.objs.size + 2; omega, by
      cases z : hh.get? (hh.objs.size + 1) with
      | none => rfl
      | some o => exact absurd (Heap.lt_size z) (Nat.not_lt.mpr (Nat.le_succ _))⟩
  have mself : (fun x => List.lookup x ([("self", Value.ref (hh.objs.size + 1)), (r.p, v)] : List (Str × Value)).reverse) "self" = some (.ref (hh.objs.size + 1)) := by
    show List.lookup ("self" : Str) ([(r.p, v), ("self", Value.ref (hh.objs.size + 1))] : List (Str × Value)) = _
    have : (("self" : Str) == r.p) = false := by simpa using T.nop
    rw [List.lookup_cons, this, List.lookup_cons]
    simp
  have mp : (fun x => List.lookup x ([("self", Value.ref (hh.objs.size + 1)), (r.p, v)] : List (Str × Value)).reverse) r.p = some v := by
    show List.lookup r.p ([(r.p, v), ("self", Value.ref (hh.objs.size + 1))] : List (Str × Value)) = _
    rw [List.lookup_cons]
    simp
  generalize (fun x => List.lookup x ([("self", Value.ref (hh.objs.size + 1)), (r.p, v)] : List (Str × Value)).reverse) = m0 at *
  generalize hL : hh.objs.size + 2 = L at *
  have hin1 : K.In h₁ := hin.keeps fun b o e => hk₁ b o (kk b o e)
  rw [body]
  unfold initBody
  obtain ⟨pl, he⟩ := he (callEnv r.fd L r.fI)
  refine PySem.ks_wpAt_execs_cons (PySem.ks_wpAt_Expr_any (PySem.ks_wpAt_MethodCall ?_ he) (by show (_ && _) = false; rw [show ((callEnv r.fd L r.fI).scope.kind == .module) = false from by rw [show (callEnv r.fd L r.fI).scope.kind = .function from T.fun_]; rfl]; rfl))
  -- super()
  refine PySem.ks_wpAt_super_base (env := callEnv r.fd L r.fI) T.kS T.kC rfl rfl (hin1 _ _ T.ho) rfl har rfl (hin1 _ _ hcode) rfl hvs hfile T.htop ?_
  have up1 : ∀ b o, hh.get? b = some o → h₁.get? b = some o := fun b o e => hk₁ b o (kk b o e)
  refine PySem.W.ks_loadName_global T.fun_ T.kS (loadGlobal_builtin (env := callEnv r.fd L r.fI) (hg.keeps up1) hmg (hb.keeps up1) hmb ⟨rfl, ?_⟩)
  refine wpAny_loadName_free T.fun_ T.kC rfl ⟨_, hin1 _ _ hcell, rfl⟩ ?_
  refine wpAny_loadName_local T.fun_ (by rw [har2]; exact T.kf) F0.ns (by rw [har2]; exact mself) ?_
  obtain ⟨cdD, hcD⟩ := Option.isSome_iff_exists.mp T.hD
  obtain ⟨oD, hD1, hD2⟩ : ∃ oD, h₁.get? r.C = some oD ∧ oD.data = .cls cdD := by
    unfold PySem.W.clsIn at hcD
    split at hcD
    · rename_i c d cd' sl hoD
      cases hcD
      exact ⟨_, hin1 _ _ hoD, rfl⟩
    · cases hcD
  refine PySem.ks_wpAny_isType_cls hD1 hD2 ⟨rfl, ?_⟩
  have ge1 := (N0 _ List.mem_cons_self).1
  refine PySem.ks_wpAny_call_super hD1 hD2 ge1 rfl (fun c e => by cases e) (PySem.W.looks_mroIn hin1 T.hsub) (fun h2 e2 k2 => ?_)
  obtain ⟨F2, N2, l2⟩ := PySem.W.ks_newsPush (s := ⟨h₁, g, d, tk0 + 2, os⟩) F0 N0 rfl e2 k2
  have I2 : PySem.W.InstAt h2 (hh.objs.size + 1) (PySem.W.excObj r.C hh.objs.size none .none) r.C none := ⟨(N2 _ (List.mem_cons_of_mem _ List.mem_cons_self)).1, rfl, rfl, trivial⟩
  refine PySem.W.kxs_method T.KF F2 hin N2 List.mem_cons_self I2 T.hop T.hm T.hB rfl fun q3 h3 F3 N3 l3 => ?_
  refine PySem.W.kxs_callWith1 (x := hh.objs.size + 1) N3 List.mem_cons_self ?_
  show wpAny _ _ (spliced ((false, eval (.Constant (.str m) k (ps 3)) (callEnv r.fd L r.fI)) :: backTo (ps 4) (starEach [] (callEnv r.fd L r.fI)))) _ _ _
  refine spliced_cons (wpAny_Constant_str ?_)
  refine spliced_nil ⟨PySem.W.kxs_at N3 List.mem_cons_self, ?_⟩
  dsimp only
  have U3 : PySem.W.UpdF (hh.objs.size + 1) (PySem.W.excObj r.C hh.objs.size none .none) [(q3, PySem.W.kxs_mw r.i (hh.objs.size + 1)), (h₁.objs.size, PySem.W.ks_superObj r.C (hh.objs.size + 1) r.C), (hh.objs.size + 1, PySem.W.excObj r.C hh.objs.size none .none)]
      (fun o' => [(q3, PySem.W.kxs_mw r.i (hh.objs.size + 1)), (h₁.objs.size, PySem.W.ks_superObj r.C (hh.objs.size + 1) r.C), (hh.objs.size + 1, o')]) :=
    .tail (Nat.ne_of_gt (l3 _ (List.mem_cons_of_mem _ List.mem_cons_self))) (.tail (Nat.ne_of_gt (l2 _ List.mem_cons_self)) (.head fun p hp => absurd hp List.not_mem_nil))
  refine T.MB.ini F3 hin N3 List.mem_cons_self U3 (by simp [sizeLine_eq]) fun t4 h4 F4 N4 l4 => ?_
  -- self.f = v
  refine PySem.ks_wpAt_execs_cons (PySem.ks_wpAt_Assign_Attr ?_)
  refine wpAt_of_wpAny (wpAny_Name (wpAny_loadName_local T.fun_ T.kp F4.ns mp ?_) T.ndb)
  refine wpAny_Name (wpAny_loadName_local T.fun_ T.kf F4.ns mself ?_) (by decide)
  have lt4 : ∀ p ∈ [(q3, PySem.W.kxs_mw r.i (hh.objs.size + 1)), (h₁.objs.size, PySem.W.ks_superObj r.C (hh.objs.size + 1) r.C), (hh.objs.size + 1, PySem.W.excObj r.C t4 none .none)], p.1 < t4 := fun p hp => by
    simp only [List.mem_cons, List.not_mem_nil, or_false] at hp
    rcases hp with rfl | rfl | rfl
    · exact l4 _ List.mem_cons_self
    · exact l4 _ (List.mem_cons_of_mem _ List.mem_cons_self)
    · exact l4 (hh.objs.size + 1, PySem.W.excObj r.C hh.objs.size none .none) (List.mem_cons_of_mem _ (List.mem_cons_of_mem _ List.mem_cons_self))
  have U4 : PySem.W.UpdF (hh.objs.size + 1) (PySem.W.excObj r.C t4 none .none) ((t4, PySem.W.excTup [.str m (tk0 + 2 + 1)]) :: [(q3, PySem.W.kxs_mw r.i (hh.objs.size + 1)), (h₁.objs.size, PySem.W.ks_superObj r.C (hh.objs.size + 1) r.C), (hh.objs.size + 1, PySem.W.excObj r.C t4 none .none)])
      (fun o' => (t4, PySem.W.excTup [.str m (tk0 + 2 + 1)]) :: [(q3, PySem.W.kxs_mw r.i (hh.objs.size + 1)), (h₁.objs.size, PySem.W.ks_superObj r.C (hh.objs.size + 1) r.C), (hh.objs.size + 1, o')]) :=
    .tail (Nat.ne_of_gt (lt4 _ (List.mem_cons_of_mem _ (List.mem_cons_of_mem _ List.mem_cons_self)))) (.tail (Nat.ne_of_gt (l3 _ (List.mem_cons_of_mem _ List.mem_cons_self))) (.tail (Nat.ne_of_gt (l2 _ List.mem_cons_self)) (.head fun p hp => absurd hp List.not_mem_nil)))
  refine PySem.W.set_exc0 T.SF F4 hin N4 (List.mem_cons_of_mem _ (List.mem_cons_of_mem _ (List.mem_cons_of_mem _ List.mem_cons_self))) T.hsa T.hov T.htk T.hdct rfl U4 (by show 1 ≤ 1000; decide) fun dx h5 F5 N5 l5 => ?_
  have ge5 : h5.get? (hh.objs.size + 1) = some (PySem.W.excObj r.C t4 (some dx) .none) := (N5 _ (List.mem_cons_of_mem _ (List.mem_cons_of_mem _ (List.mem_cons_of_mem _ (List.mem_cons_of_mem _ List.mem_cons_self))))).1
  have gd5 := (N5 _ List.mem_cons_self)
  have nd5 : hh.objs.size + 1 ≠ dx := Nat.ne_of_lt (l5 _ (List.mem_cons_of_mem _ (List.mem_cons_of_mem _ (List.mem_cons_of_mem _ List.mem_cons_self))))
  have ld5 : hh.objs.size ≤ dx := Nat.le_trans (Nat.le_succ _) (Nat.le_of_lt (l5 _ (List.mem_cons_of_mem _ (List.mem_cons_of_mem _ (List.mem_cons_of_mem _ List.mem_cons_self)))))
  refine wpAt_of_wpAny (wpAny_execs_nil ?_)
  refine ⟨rfl, h (hh.objs.size + 1) dx t4 h5 _ (fun b o e => F5.keep b o e) (Nat.le_succ _) ld5 nd5 ge5 ⟨_, _, _, gd5.1, rfl, fun e he => ?_, ?_, fun name => ?_⟩⟩
  · have he : e ∈ ([⟨_, .str r.f _, v⟩] : List DictEntry).toArray := he
    rw [List.mem_toArray, List.mem_singleton] at he
    rw [he]
    exact ⟨_, _, rfl⟩
  · exact List.pairwise_singleton _ _
  · show nsFind ([⟨_, .str r.f _, v⟩] : List DictEntry).toArray name = _
    unfold nsFind findBy
    by_cases z : name = r.f
    · subst z
      simp [Value.isStr]
    · have z' : ¬ r.f = name := fun q => z q.symm
      simp [Value.isStr, z, z']
end
end Wg

namespace Wg
open PySem PySem.Spec PyProof.Rows L2 SlX
section
variable {X : Cx} {pins : List (Addr × Obj)} {σ : L2.St} {H : Hp} {s : Shared} {r : InitR} {k : Nat}
/-- behind the call: the error apart, its dict told -/
theorem errI_inv (I : Inv X pins σ H s) {e dx t : Addr} {h' : Heap} {tk : Nat} {v : V} {u : Value} (rv : RelV v u) (k : ∀ b o, s.heap.get? b = some o → h'.get? b = some o) (le : s.heap.objs.size ≤ e) (ld : s.heap.objs.size ≤ dx) (ne : e ≠ dx)
    (gd : h'.Ns1 dx (fun y => if y = r.f then some u else none)) : ∃ G : Heap, (∀ b o, G.get? b = some o → h'.get? b = some o) ∧ G.get? e = none ∧ H e = none ∧ H dx = none ∧ (∀ b o, b ≠ e → h'.get? b = some o → G.get? b = some o) ∧
      Inv X pins σ (upd H dx (.xd [(r.f, v)])) { s with heap := G, toks := tk } := by
  obtain ⟨G, g1, g2⟩ := restrict h' fun b => decide (b ≠ e)
  have gs : ∀ b o, G.get? b = some o → h'.get? b = some o := fun b o q => by
    by_cases hb : b = e
    · rw [hb, g2 e (decide_eq_false fun z => z rfl)] at q; cases q
    · rw [← g1 b (decide_eq_true hb)]; exact q
  have gk : ∀ b o, b ≠ e → h'.get? b = some o → G.get? b = some o := fun b o hb q => by rw [g1 b (decide_eq_true hb)]; exact q
  have hd : H dx = none := I.hok.fresh ld
  have old : ∀ b o, s.heap.get? b = some o → G.get? b = some o := fun b o q => gk b o (Nat.ne_of_lt (Nat.lt_of_lt_of_le (Heap.lt_size q) le)) (k b o q)
  refine ⟨G, gs, g2 e (decide_eq_false fun z => z rfl), I.hok.fresh le, hd, gk, I.laid (t' := tk) old ld ⟨_, gd.at fun o q => gk dx o (Ne.symm ne) q, fun f => ?_⟩⟩
  by_cases z : f = r.f
  · subst z
    simp only [List.lookup, if_true]
    rw [beq_self_eq_true]
    exact rv
  · have : (f == r.f) = false := by simpa using z
    simp only [List.lookup, this, if_neg z]
    exact trivial
theorem errI_call (T : InitOk X.prog X.K r) (hs : X.mg "super" = none) (hr : Room k X.A) (I : Inv X pins σ H s) {v : V} {u : Value} (rv : RelV v u) {Q : Value → Shared → Prop}
    (h : ∀ e dx t h' tk, (∀ b o, s.heap.get? b = some o → h'.get? b = some o) → s.heap.objs.size ≤ e → s.heap.objs.size ≤ dx → e ≠ dx → h'.get? e = some (PySem.W.excObj r.C t (some dx) .none) → h'.Ns1 dx (fun y => if y = r.f then some u else none) → Q (.ref e) { s with heap := h', toks := tk }) :
    wpAny (model X.prog X.w) X.A (call (.ref r.C) [u]) Q X.xe s := by
  obtain ⟨mb, h1, h2⟩ := I.mod.blt
  exact call_errI T I.kIn (I.mod.glob.keeps I.bk) hs (h1.keeps I.bk) ((h2 "super" (by decide)).trans (by first | rfl | decide +kernel)) (I.mod.nolimit.keeps I.bk) (by have := hr.dp; omega) h
/-- X(e) that is raised -/
theorem pmk_errI {x : Str} {e : Expr} {ta : TE} {p pos : Pos} (T : InitOk X.prog X.K r) (hs : X.mg "super" = none) (hr : Room k X.A) (gC : X.mg x = some (.ref r.C)) (kC : PySem.W.keepIn X.K (.ref r.C) = true) (ra : Raises X (.ref r.C)) (hg : Gl X x)
    (he : PE X e ta) (hst : starEach [e] X.env = (false, eval e X.env) :: starEach [] X.env := by rfl) (hdb : (x == ("__debug__" : Str)) = false := by decide) :
    PMk X (.Call (.Name x p) [e] [] pos) (fun σ H Q => ta σ H fun v H1 => ∀ dx, H1 dx = none → Q (.ref r.C) (some dx) (upd H1 dx (.xd [(r.f, v)]))) := by
  intro pins s σ H Q I h
  refine wpAny_Call_Name_kw (ld_glob I hg gC ?_ hdb)
  refine PySem.W.callWith_K (h₀ := X.base) I.ok.mod.kin kC ?_ hst (by rfl)
  rw [hst]
  show wpAny _ _ (spliced ((false, eval e X.env) :: backTo pos (starEach [] X.env))) _ _ s
  refine Calls.spliced_cons (thn (he.run pins s σ H _ I h) fun u s1 ⟨v, H1, I1, r1, q1⟩ => ?_)
  refine Calls.spliced_nil ⟨I1.kIn, ?_⟩
  show wpAny _ _ (call (.ref r.C) [u]) _ _ _
  refine errI_call T hs hr I1 r1 fun a dx t h' tk kk la ld ne ge gd => ?_
  obtain ⟨G, gs, ga, na, nd, gk, J⟩ := errI_inv (r := r) (tk := tk) (t := t) I1 r1 kk la ld ne gd
  exact ⟨a, _, _, _, _, .ref r.C, some dx, rfl, J, gs, ga, ge, ⟨rfl, rfl⟩, rfl, rfl, by rw [upd_ne ne]; exact na, rfl, I1.bare, ra, q1 dx nd⟩
end
section
variable {X : Cx} {W : WQ} {K : KC} {ρ : Pl} {H : Hp} {h : Store} {m : M PV} {e : Expr} {k : Nat}
/-- an error class of the text with an __init__ that keeps one value -/
structure ErrI (P : Program) (K : PySem.W.Frag) (mg : Str → Option Value) (x f : Str) : Prop where
  ex : ∃ r : InitR, InitOk P K r ∧ r.f = f ∧ mg x = some (.ref r.C) ∧ PySem.W.keepIn K (.ref r.C) = true ∧ PySem.W.subIn K (.ref r.C) (.type "BaseException") = some true ∧ PySem.W.typeIn K (.ref r.C) = some (.type "type") ∧ mg "super" = none
noncomputable def mRaiseV (x f : Str) (m : M PV) : MS := fun l h => (m l h).bs l fun v h1 => .ok (.ex ⟨.cls x, [(f, v)]⟩ l) h1
theorem xs_raiseV {x f : Str} {p p3 p4 : Pos} (hc : X.calm = true) (tk : Takes X W.w) (hr : Room k X.A) (T : ErrI X.prog X.K X.mg x f) (he : XE X W e m) (hg : Gl X x := by rfl) (hdb : (x == ("__debug__" : Str)) = false := by decide)
    (hst : starEach [e] X.env = (false, eval e X.env) :: starEach [] X.env := by rfl) :
    XS X W (.Raise (some (.Call (.Name x p) [e] [] p3)) none p4) (mRaiseV x f m) := by
  obtain ⟨r, T1, T2, T3, T4, T5, T6, T7⟩ := T.ex
  subst T2
  exact ps_weak (ps_raise hc tk (pmk_errI T1 T7 hr T3 T4 (raises_own T5 T6) hg he hst hdb)) fun D σ H ⟨ρ, h, l, p, rl, o⟩ => ⟨ρ, h, l, p, rl, Out.mono (OutS.bs rl o) fun v H1 ⟨x1, h1, ρ1, e1, p1, r1, o1⟩ dx hd => by
    obtain ⟨x', p'⟩ := p1.new hd (.xd [(r.f, v)])
    exact o1 ρ1 _ (.ref r.C) (some dx) σ x' p' ((rl.ext e1).ext x') ⟨.ref r.C, ⟨r.C, T3, rfl⟩, rfl, .inr ⟨dx, [(r.f, v)], rfl, ⟨p1.fresh hd, upd_same⟩, ⟨v, by simp [List.lookup], r1.ext x'⟩, trivial⟩⟩⟩
end
end Wg

namespace Wg
open PySem PySem.Spec PyProof.Rows L2 SlX
/-! ### repr -/
/-- a flat value of a dict, its key -/
noncomputable def scalD : PV → Option PyData
  | .non => some .none
  | .bl b => some (.bool b)
  | .int i => some (.int i)
  | .str x => some (.str ⟨x.toArray⟩)
  | _ => none
noncomputable def kvD : List (PV × PV) → Option (List (PyData × PyData))
  | [] => some []
  | (k, x) :: r => match keyP k with
    | some _ => (scalD k).bind fun a => (scalD x).bind fun b => (kvD r).map ((a, b) :: ·)
    | none => none
noncomputable def showD : PV → Option PyData
  | .dct kvs => (kvD kvs).map .dict
  | x => toD x
noncomputable def fRepr (xs : List PV) (h : Store) : R PV := match xs with
  | [x] => match showD (seen h x) with
    | some d => if (d.showable && decide (d.depth ≤ 50) && decide (d.shown.length ≤ sizeLine)) = true then .ok (.str d.shown.cps.toList) h else .no
    | none => .no
  | _ => .no
inductive ScD : V → PyData → Prop
  | non : ScD .non .none
  | bl (b : Bool) : ScD (.bl b) (.bool b)
  | int (i : Int) : ScD (.int i) (.int i)
  | str (x : Str) : ScD (.str x) (.str x)
noncomputable def ShD (K : PySem.W.Frag) (H : Hp) (v : V) (d : PyData) : Prop :=
  (Dp K H v d) ∨ ∃ a kvs ds, v = .ref a ∧ d = .dict ds ∧ Rd H a (.dK kvs) ∧ Paired (fun (c : Key × V) (e : PyData × PyData) => ScD (kV c.1) e.1 ∧ ScD c.2 e.2) kvs ds
noncomputable def rRepr (K : PySem.W.Frag) : List V → Hp → VK → Prop := fun vs H Q => ∃ v d, vs = [v] ∧ ShD K H v d ∧ d.showable = true ∧ d.depth ≤ 50 ∧ d.shown.length ≤ sizeLine ∧ Q (.str d.shown) H
section
variable {X : Cx} {W : WQ} {K : KC} {ρ : Pl} {H : Hp} {h : Store} {pos : Pos} {e : Expr} {es : List Expr} {ms : M (List PV)} {p0 : Pos}
theorem scalD_at {x : PV} {v : V} {d : PyData} (r : RV K ρ H x v) (q : scalD x = some d) : ScD v d := by
  cases x with
  | non => cases q; rw [show v = _ from r]; exact .non
  | bl b => cases q; rw [show v = _ from r]; exact .bl b
  | int i => cases q; rw [show v = _ from r]; exact .int i
  | str x => cases q; rw [show v = _ from r]; exact .str _
  | _ => cases q
theorem kvD_at : ∀ {kvs : List (PV × PV)} {vs : List (Key × V)} {ds : List (PyData × PyData)}, RVd K ρ H kvs vs → kvD kvs = some ds → Paired (fun (c : Key × V) (e : PyData × PyData) => ScD (kV c.1) e.1 ∧ ScD c.2 e.2) vs ds
  | [], _, _, r, q => by cases q; rw [show _ = [] from r]; exact .nil
  | (k, x) :: kvs, _, _, ⟨c, v, r, e1, h0, h1, h2⟩, q => by
    unfold kvD at q
    rw [h0] at q
    simp only [Option.bind_eq_some_iff, Option.map_eq_some_iff] at q
    obtain ⟨a, q1, b, q2, ds, q3, rfl⟩ := q
    rw [e1]
    exact .cons ⟨scalD_at (K := K) (ρ := ρ) (H := H) (keyP_back h0) q1, scalD_at h1 q2⟩ (kvD_at h2 q3)
theorem showD_at (p : Rep K ρ h H) {x : PV} {v : V} {d : PyData} (r : RV K ρ H x v) (q : showD (seen h x) = some d) : ShD K H v d := by
  by_cases c : ∃ kvs, x = .dct kvs
  · obtain ⟨kvs, rfl⟩ := c
    simp only [seen, showD, Option.map_eq_some_iff] at q
    obtain ⟨ds, q1, rfl⟩ := q
    obtain ⟨a, vs, e1, ⟨_, hr⟩, r2⟩ := r
    exact .inr ⟨a, vs, ds, e1, rfl, hr, kvD_at r2 q1⟩
  · refine .inl (seen_dp p r ?_)
    cases x with
    | dct kvs => exact (c ⟨_, rfl⟩).elim
    | ref i =>
      simp only [seen] at q ⊢
      split at q
      · exact q
      · exact q
    | _ => exact q
theorem scD_reads {g : Heap} {v : V} {d : PyData} {u : Value} (s : ScD v d) (r : RelV v u) : Reads g u d [] := by
  cases s with
  | non => cases r; exact .none
  | bl b => cases r; exact .bool b
  | int i => obtain ⟨t, rfl⟩ := r; exact .int i t
  | str x => obtain ⟨t, rfl⟩ := r; exact .str x t
theorem scD_readsAll {g : Heap} : ∀ {vs : List (Key × V)} {ws : List (Key × Value)} {ds : List (PyData × PyData)} {es : List DictEntry} {P : Program} {w : World}, Paired (fun (c : Key × V) (e : PyData × PyData) => ScD (kV c.1) e.1 ∧ ScD c.2 e.2) vs ds → KV vs ws → Pairs (mixKind P w) es ws →
    ReadsAll g (es.map (·.key)) (ds.map (·.1)) [] ∧ ReadsAll g (es.map (·.val)) (ds.map (·.2)) []
  | _, _, _, _, _, _, .nil, .nil, .nil => ⟨.nil, .nil⟩
  | _, _, _, _, _, _, .cons a t, .cons b u, .cons c d q => by
    obtain ⟨g1, g2⟩ := scD_readsAll (g := g) t u q
    have k := relV_key c
    rw [← b.1] at k
    have v := b.2
    rw [← d] at v
    exact ⟨.cons (as := []) (scD_reads a.1 k) g1, .cons (as := []) (scD_reads a.2 v) g2⟩
mutual
theorem dp_noDict {K : PySem.W.Frag} : ∀ (d : PyData) (v : V), Dp K H v d → d.hasDict = false
  | .none, _, _ => by simp only [PyData.hasDict]
  | .bool _, _, _ => by simp only [PyData.hasDict]
  | .int _, _, _ => by simp only [PyData.hasDict]
  | .str _, _, _ => by simp only [PyData.hasDict]
  | .list ds, _, h => by cases h with | lst _ z => simp only [PyData.hasDict]; exact dpAll_noDict ds _ z
  | .tuple ds, _, h => by cases h with | tup _ z => simp only [PyData.hasDict]; exact dpAll_noDict ds _ z
  | .dict _, _, h => by cases h
theorem dpAll_noDict {K : PySem.W.Frag} : ∀ (ds : List PyData) (vs : List V), DpAll K H vs ds → PyData.hasDictAll ds = false
  | [], _, _ => by simp only [PyData.hasDictAll]
  | d :: ds, _, h => by cases h with | cons z1 z2 => simp only [PyData.hasDictAll, dp_noDict d _ z1, dpAll_noDict ds _ z2, Bool.or_self]
end
theorem cr_repr (ng : X.A.guards = some []) (hu : X.A.units + 64 < cLine) : CallR X (.builtin "repr") (rRepr X.K) := by
  intro pins s σ H xs us Q I rv hh
  obtain ⟨v, d, e1, sh, h1, h2, h3, q⟩ := hh
  subst e1
  obtain _ | ⟨r1, r2⟩ := rv
  cases r2
  rename_i u
  have done : ∀ (a : Addr), u = .ref a → (∃ as, Reads s.heap u d as ∧ (d.hasDict = true → sysModules ∉ as)) → wpAny (model X.prog X.w) X.A (call (.builtin "repr") [u]) (EP X pins σ Q) X.xe s := by
    intro a eu ⟨as, rd, sm⟩
    rw [eu] at rd ⊢
    refine repr_of_reads' rd h1 sm ng (by omega) (fun _ _ z => z) (fun h' t tk kk => ?_) h3
    exact ⟨.str d.shown, H, I.kept (t' := tk) kk, ⟨t, rfl⟩, q⟩
  have nd : ∀ {v : V} {d : PyData}, Dp X.K H v d → ∀ {as : List Addr}, d.hasDict = true → sysModules ∉ as := by
    intro v d dp as hd
    rw [dp_noDict d v dp] at hd
    cases hd
  have fin : ∀ (x : Str) (t tk : Nat) (h' : Heap), (∀ b o, s.heap.get? b = some o → h'.get? b = some o) → Q (.str x) H → EP X pins σ Q (.str x t) { s with heap := h', toks := tk } := fun x t tk h' kk q => ⟨.str x, H, I.kept (t' := tk) kk, ⟨t, rfl⟩, q⟩
  rcases sh with dp | ⟨a, kvs, ds, ev, ed, hr, pr⟩
  · obtain ⟨as, rd⟩ := Dp.reads I d v u dp r1
    cases dp with
    | non => cases r1; refine PySem.P.repr_of_none ?_; exact fin _ _ _ _ (fun _ _ z => z) (by simpa only [PyData.shown] using q)
    | bl b => cases r1; refine PySem.P.repr_of_bool ?_; exact fin _ _ _ _ (fun _ _ z => z) (by simpa only [PyData.shown] using q)
    | int i => obtain ⟨t, rfl⟩ := r1; refine PySem.P.repr_of_int (by simpa only [PyData.showable, decide_eq_true_eq] using h1) ?_; exact fin _ _ _ _ (fun _ _ z => z) (by simpa only [PyData.shown] using q)
    | str x => obtain ⟨t, rfl⟩ := r1; refine PySem.P.repr_of_str ?_ (by simpa only [PyData.shown] using h3); exact fin _ _ _ _ (fun _ _ z => z) (by simpa only [PyData.shown] using q)
    | lst hs ha => exact done _ r1 ⟨as, rd, nd (.lst hs ha)⟩
    | tup hs ha => exact done _ r1 ⟨as, rd, nd (.tup hs ha)⟩
  · subst ev; subst ed
    refine done a r1 ?_
    cases r1
    obtain ⟨hz, hs, vs, rel, o, es, ep, g1, g2, g3, g4, g5, g6⟩ := dk_rd I.hok hr
    obtain ⟨a1, a2⟩ := scD_readsAll (g := s.heap) pr rel g5
    refine ⟨_, .dict g1 g2.1 g3 a1 a2, fun _ z => ?_⟩
    rcases List.mem_cons.mp (show sysModules ∈ a :: ([] : List Addr) from z) with z | z
    · rw [← z, beq_self_eq_true] at hs; cases hs
    · cases z
theorem cx_repr : CallX X W fRepr (rRepr X.K) := by
  intro ρ h σ H xs vs Q p r o
  unfold fRepr at o
  split at o
  next x =>
    obtain ⟨v, e, r1⟩ := rvs1 r
    split at o
    next d q =>
      obtain ⟨c, o⟩ := out_if o
      simp only [Bool.and_eq_true, decide_eq_true_eq] at c
      refine ⟨v, d, e, showD_at p r1 q, c.1.1, c.1.2, c.2, ?_⟩
      exact Out.ok o p (show RV (kc X W) ρ H (PV.str d.shown.cps.toList) (V.str d.shown) from by show _ = _; simp [strV])
    next => exact o.elim
  next => exact o.elim
theorem xe_repr (ng : NoG X.A) (hu : X.A.units + 64 < cLine) (hm : X.mg "repr" = none) (ha : XA X W (e :: es) ms) (hg : Gl X "repr" := by rfl) (he : starEach (e :: es) X.env = (false, eval e X.env) :: starEach es X.env := by rfl) (hpl : (backTo pos (starEach es X.env)).any (·.1) = false := by rfl) :
    XE X W (.Call (.Name "repr" p0) (e :: es) [] pos) (mCall fRepr ms) := xe_callB (cr_repr ng hu) cx_repr hm (by first | rfl | decide +kernel) ha hg (by decide) (by decide) he hpl
end
end Wg

namespace Wg
open PySem PySem.Spec PyProof.Rows L2 SlX
section
variable {X : Cx} {W : WQ} {K : KC} {ρ : Pl} {H : Hp} {h : Store} {pos : Pos} {e a b : Expr} {es : List Expr} {ma mb m : M PV} {ms : M (List PV)} {p0 : Pos} {k : Nat}
/-! ### a clause with a name -/
theorem ct_mem : ∀ {t : List (Str × Bool)} {n : Str}, t.lookup n = some true → (n, true) ∈ t
  | [], _, h => by cases h
  | (c, b) :: t, n, h => by
    simp only [List.lookup] at h
    split at h
    next q => cases h; have : n = c := by simpa using q
              rw [this]; exact List.mem_cons_self
    next => exact List.mem_cons_of_mem _ (ct_mem h)
theorem only_by {t : List (Str × Bool)} {x : Str} (h : (t.all fun p => !p.2 || decide (p.1 = x)) = true) : ∀ y, ctOf t y = some true → y = .cls x := by
  intro y q
  cases y with
  | cls n =>
    have := List.all_eq_true.mp h _ (ct_mem (show t.lookup n = some true from q))
    simp only [Bool.not_true, Bool.false_or, decide_eq_true_eq] at this
    rw [this]
  | _ => cases q
theorem XHds.ownN {x n : Str} {i : Nat} {t : List (Str × Bool)} {m : List (Str × PV) → MS} {b0 : Stmt} {st : List Stmt} {p1 p2 : Pos} {r : List ExceptHandler} {l : List HC} (hi : X.N[i]? = some n) (hl : X.env.kindOf n = some .local) (k : CatK X.K X.mg x t) (only : ∀ y, ctOf t y = some true → y = .cls x)
    (su : ∀ (a : Addr) (oe : Obj) (cls : Value) (d : Option Addr) (pn : List (Addr × Obj)) (fs : List (Str × PV)), Zc cls d oe → (∃ vs, oe.data = .fields vs) → XSs (X.suite a ((a, oe) :: pn)) (WNo (some ⟨i, a, x, cls, d, fs⟩)) (b0 :: st) (m fs)) (q : XHds X r l)
    (hg : Gl X x := by rfl) (hd : (x == ("__debug__" : Str)) = false := by decide) : XHds X (.ExceptHandler (some (.Name x p1)) (some n) (b0 :: st) p2 :: r) (⟨ctOf t, fun e => m e.fld, some i⟩ :: l) := by
  obtain ⟨c, k1, k2⟩ := k.ex
  exact .named hi hl ⟨hg, hd, k1⟩ k2 only su q
/-- what reading e.f wants of the class -/
noncomputable def FldK (K : PySem.W.Frag) (mg : Str → Option Value) (x f : Str) : Prop := ∀ C, mg x = some (.ref C) → XfC K C ∧ PySem.W.findIn K (.ref C) f = some none
theorem fldK_mk {K : PySem.W.Frag} {mg : Str → Option Value} {x f : Str} {C : Addr} (hm : mg x = some (.ref C)) (x1 : XfC K C) (q : PySem.W.findIn K (.ref C) f = some none) : FldK K mg x f := fun C' h => by
  rw [hm] at h
  cases h
  exact ⟨x1, q⟩
/-! ### classes as values -/
theorem xe_cls {x : Str} (hm : ∃ C, X.mg x = some (.ref C)) (hg : Gl X x := by rfl) (hd : (x == ("__debug__" : Str)) = false := by decide) : XE X W (.Name x pos) (mC (.cls x)) := let ⟨C, h⟩ := hm; xe_glob (pe_glob (v := .ref C) hg h rfl hd) fun _ _ _ _ => ⟨C, h, rfl⟩
/-! ### isinstance of errors -/
/-- of each error's class, whether its instances are such of c -/
noncomputable def IsT (K : PySem.W.Frag) (mg : Str → Option Value) (c : Value) (t : List (Str × Bool)) : Prop := ∀ n b D, t.lookup n = some b → mg n = some (.ref D) → ExcC K D ∧ PySem.W.kitOne K (.ref D) c = some b
structure IsC (K : PySem.W.Frag) (mg : Str → Option Value) (m : Str) (t : List (Str × Bool)) : Prop where
  ex : ∃ C, mg m = some (.ref C) ∧ IsT K mg (.ref C) t
theorem clsIn_of_hasDict {K : PySem.W.Frag} {C : Addr} (h : PySem.W.hasDictIn K C = true) : (PySem.W.clsIn K C).isSome = true := by
  unfold PySem.W.hasDictIn at h
  cases q : PySem.W.clsIn K C with
  | none => rw [q] at h; cases h
  | some c => rfl
/-! ### list * int, list + list as a cell -/
noncomputable def fMulB (x y : PV) (h : Store) : R PV := match x, y with
  | .lst zs, .int k => if -(2 ^ 63) ≤ k ∧ k < 2 ^ 63 ∧ zs.length * k.toNat ≤ sizeLine then .ok (.lst (List.replicate k.toNat zs).flatten) h else .no
  | _, _ => fMulA x y h
theorem rvs_rep {zs : List PV} {vs : List V} (r : RVs K ρ H zs vs) : ∀ n, RVs K ρ H (List.replicate n zs).flatten (List.replicate n vs).flatten
  | 0 => rfl
  | n + 1 => by rw [List.replicate_succ, List.replicate_succ, List.flatten_cons, List.flatten_cons]; exact r.app (rvs_rep r n)
theorem ox_mulB : OpX X W fMulB (fun x y H Q => (rMulA x y H Q ∨ rMulS x y H Q) ∨ rRep x y H Q) := by
  intro ρ h σ H x y v w Q p rx ry o
  unfold fMulB at o
  split at o
  next z k =>
    cases ry
    obtain ⟨c, o⟩ := out_if o
    obtain ⟨l, vs, e, t, rs⟩ := rx
    refine .inr ⟨l, k, vs, e, rfl, t.2, c.1, c.2.1, by rw [← rs.len]; exact c.2.2, fun q hq => ?_⟩
    obtain ⟨x, p', r'⟩ := new_lst p hq (rvs_rep rs k.toNat)
    exact o ρ _ _ x p' r'
  next => exact .inl (ox_mulA ρ h σ H x y v w Q p rx ry o)
theorem xe_mulB (ha : XE X W a ma) (hb : XE X W b mb) : XE X W (.BinOp a .Mult b pos) (mBin fMulB ma mb) := xe_bin ((op_mulA.or op_mulS).or op_rep) ox_mulB ha hb
end
end Wg

namespace Wg
open PySem PySem.Spec PyProof.Rows L2 SlX
/-! ### an __init__ as it stands in the text -/
noncomputable def initPs (st : Stmt) : Fin 10 → Pos := match defBody st with
  | [.Expr (.Call (.Attribute (.Call (.Name _ a0) [] [] a1) _ a2) [.Constant _ _ a3] [] a4) a5, .Assign [.Attribute (.Name _ a6) _ a7] (.Name _ a8) a9] => fun i => match i with
    | 0 => a0 | 1 => a1 | 2 => a2 | 3 => a3 | 4 => a4 | 5 => a5 | 6 => a6 | 7 => a7 | 8 => a8 | 9 => a9
  | _ => fun _ => ⟨0, 0, 0, 0⟩
noncomputable def initMsg (st : Stmt) : Str × Nat := match defBody st with
  | [.Expr (.Call _ [.Constant (.str m) k _] _ _) _, _] => (m, k)
  | _ => ("", 0)
structure InitSyn (st : Stmt) (f p : Str) : Prop where
  body : defBody st = initBody (initMsg st).1 f p (initMsg st).2 (initPs st)
  ev : ∀ env : Env, ∃ pl : Sem Bool, eval (.Call (.Attribute (.Call (.Name "super" (initPs st 0)) [] [] (initPs st 1)) "__init__" (initPs st 2)) [.Constant (.str (initMsg st).1) (initMsg st).2 (initPs st 3)] [] (initPs st 4)) env = (do
      let ov ← attributeBase (.Call (.Name "super" (initPs st 0)) [] [] (initPs st 1)) "__init__" env (eval (.Call (.Name "super" (initPs st 0)) [] [] (initPs st 1)) env)
      standAt (initPs st 2).atName
      let (f, first) ← holding [ov] (getMethod ov "__init__" pl)
      callWith (initPs st 4) f first (backTo (initPs st 4) (starEach [.Constant (.str (initMsg st).1) (initMsg st).2 (initPs st 3)] env)) [])
  par : ∃ ar : Arg, ((defArgs st).posonlyargs ++ (defArgs st).args).head? = some ar ∧ ar.arg = "self"
  bind : ∀ (qual : Str) (kV doc pm : Value) (an : Option Addr) (cdv ct : Value) (cc : Addr) (s : Shared) (u v : Value), BindsTo s (PySem.W.ksFn "__init__" qual (defArgs st) (defBody st) (defScope st) .none kV doc pm an cdv ct cc) ⟨[u, v], []⟩ [("self", u), (p, v)]
  kS : (defScope st).names.lookup ("super" : Str) = some .globalImplicit
  kC : (defScope st).names.lookup ("__class__" : Str) = some .free
  kf : (defScope st).names.lookup ("self" : Str) = some .local
  kp : (defScope st).names.lookup p = some .local
  nop : ("self" : Str) ≠ p
  ndb : (p == ("__debug__" : Str)) = false
  cel : ((defScope st).names.all fun x => x.2 != .cell) = true
  co : (defScope st).isCoroutine = false
  gen : (defScope st).isGenerator = false
  fun_ : (defScope st).kind = .function
section
variable {P : Program} {K : PySem.W.Frag} {mg : Str → Option Value} {x f p qual : Str} {st : Stmt} {C fI cc cda : Addr} {B i : String} {bmB : List Value} {od cdd cld : Option Addr} {osl ccs csl : Array (Option Value)} {oc kV doc pm ct ccl cl : Value} {an : Option Addr} {vs : Array Value} {file : Str} {tf : Tok}
theorem errI_mk (S : InitSyn st f p) (MB : MadeBy K C i) (KF : PySem.W.KxsFacts B i) (SF : PySem.StoreFacts B bmB "object.__setattr__" "object") (mgx : mg x = some (.ref C)) (kp : PySem.W.keepIn K (.ref C) = true) (es : PySem.W.subIn K (.ref C) (.type "BaseException") = some true) (et : PySem.W.typeIn K (.ref C) = some (.type "type")) (sup : mg "super" = none)
    (hi : PySem.W.findIn K (.ref C) "__init__" = some (some (.ref fI))) (ho : K.lookup fI = some ⟨.type "function", od, .func (PySem.W.ksFn "__init__" qual (defArgs st) (defBody st) (defScope st) .none kV doc pm an (.ref cda) ct cc), osl⟩) (hcd : PySem.W.codeIn K (.ref cda) qual = true)
    (hco : K.lookup cda = some ⟨ccl, cdd, .fields vs, ccs⟩) (hvs : vs[2]? = some (.str file tf)) (hfile : ((P.main.file : Str) == file) = true) (hcell : K.lookup cc = some ⟨cl, cld, .cell (some (.ref C)), csl⟩) (hsub : PySem.W.mroIn K C (.ref C) = some true) (hm : PySem.W.ks_superIn K C C "__init__" = some (some (.builtin i)))
    (hB : PySem.W.subIn K (.ref C) (.type B) = some true) (hop : PySem.W.nsIn K cStatics "thirdparty.any" = some none) (hsa : PySem.W.findIn K (.ref C) "__setattr__" = some (some (.builtin "object.__setattr__"))) (hov : PySem.W.excOver K C bmB = true) (htk : PySem.W.takerIn K C f = some none) (hdct : PySem.W.hasDictIn K C = true)
    (htop : (P.main.scope.names.lookup ("super" : Str)).isSome = false) : ErrI P K mg x f := by
  refine ⟨⟨⟨C, fI, cc, cda, B, i, bmB, qual, st, od, osl, .none, kV, doc, pm, an, ct, vs, f, p⟩, ⟨MB, KF, SF, hi, ho, hcd, ⟨_, _, _, _, _, hco, hvs, hfile⟩, ⟨_, _, _, hcell⟩, clsIn_of_hasDict hdct, hsub, hm, hB, hop, hsa, hov, htk, hdct, htop, ⟨_, _, _, S.body, S.ev⟩, S.par, S.bind _ _ _ _ _ _ _ _, S.kS, S.kC, S.kf, S.kp, S.nop, S.ndb, fun y hy => ?_, S.co, S.gen, S.fun_⟩, rfl, mgx, kp, es, et, sup⟩⟩
  have := List.all_eq_true.mp S.cel y hy
  intro e
  rw [e] at this
  exact absurd this (by decide)
end
theorem IsC.has {K : PySem.W.Frag} {mg : Str → Option Value} {m : Str} {t : List (Str × Bool)} (h : IsC K mg m t) : ∃ C, mg m = some (.ref C) := let ⟨C, q, _⟩ := h.ex; ⟨C, q⟩
/-! ### f() -/
section
variable {X : Cx} {W : WQ} {CX : CXT} {k : Nat} {f : Addr} {fd : FuncData} {ps : List Str} {sp : Sp} {E : L2.St → XK} {x : Str} {p p0 pos : Pos} {F : FN}
end
end Wg

namespace Wg
open PySem PySem.Spec PyProof.Rows L2 SlX
/-! ### instances with slots: reading, writing -/
/-- the class n, its slot f at the place i -/
structure SlotK (K : PySem.W.Frag) (mg : Str → Option Value) (n f : Str) (i : Nat) : Prop where
  ex : ∃ C p, mg n = some (.ref C) ∧ SCls K C ∧ Slot1 K C f p i
noncomputable def insOf (h : Store) : PV → Option (Str × List (Option PV))
  | .ins n xs => some (n, xs.map some)
  | .ref a => match h[a]? with
    | some (.ins n _ xs) => some (n, xs)
    | _ => none
  | _ => none
noncomputable def fGet (n : Str) (i : Nat) (x : PV) (h : Store) : R PV := match insOf h x with
  | some (n', xs) => if n' = n then match xs[i]? with
    | some (some y) => .ok y h
    | _ => .no
    else .no
  | none => .no
noncomputable def putX (i : Nat) (x : PV) (xs : List (Option PV)) : List (Option PV) := (xs ++ List.replicate (i + 1 - xs.length) none).set i (some x)
section
variable {X : Cx} {W : WQ} {K : KC} {ρ : Pl} {H : Hp} {h : Store} {pos pos' : Pos} {e o value : Expr} {m mv mo : M PV}
theorem insOf_at (p : Rep K ρ h H) {x : PV} {v : V} {n : Str} {xs : List (Option PV)} (r : RV K ρ H x v) (q : insOf h x = some (n, xs)) :
    ∃ a C dx vs, v = .ref a ∧ K.mg n = some (.ref C) ∧ Slt H a C dx vs ∧ ∀ (i : Nat) (y : PV), xs[i]? = some (some y) → ∃ u, vs[i]? = some (some u) ∧ RV K ρ H y u := by
  cases x with
  | ins c ys =>
    cases q
    obtain ⟨a, C, dx, vs, e1, hm, t, rs⟩ := r
    refine ⟨a, C, dx, vs.map some, e1, hm, .inr ⟨t.2.2.1, t.2.2.2⟩, fun i y hy => ?_⟩
    rw [List.getElem?_map] at hy
    obtain ⟨z, hz, e⟩ := Option.map_eq_some_iff.mp hy
    cases e
    obtain ⟨u, hu, ru⟩ := rs.get hz
    exact ⟨u, by rw [List.getElem?_map, hu]; rfl, ru⟩
  | ref i =>
    simp only [insOf] at q
    obtain ⟨a, ha, e1⟩ := r
    split at q
    next c j ys eq =>
      cases q
      obtain ⟨C, dx, vs, hm, _, _, ⟨t, _⟩, rs⟩ := p.at_ i _ a eq ha
      exact ⟨a, C, dx, vs, e1, hm, t, rs⟩
    next => cases q
  | _ => cases q
theorem xe_slot {n f : Str} {i : Nat} (T : SlotK X.K X.mg n f i) (he : XE X W e m) (hb : attributeBase e f X.env (eval e X.env) = eval e X.env := by rfl) : XE X W (.Attribute e f pos) (mUn (fGet n i) m) :=
  pe_weak (pe_sl he hb) fun σ H Q ⟨ρ, h, l, p, rl, o⟩ => ⟨ρ, h, l, p, rl, Out.mono (Out.bind o) fun v H1 ⟨x, h1, ρ1, e1, p1, r1, o1⟩ => by
    obtain ⟨C, pd, hm, sc, sl⟩ := T.ex
    unfold fGet at o1
    split at o1
    next n' xs q =>
      obtain ⟨c, o1⟩ := out_if o1
      subst c
      obtain ⟨a, C', dx, vs, e2, hm', t, g⟩ := insOf_at p1 r1 q
      have hm' : X.mg n' = some (.ref C') := hm'
      rw [hm] at hm'
      cases hm'
      cases hy : xs[i]? with
      | none => simp only [hy] at o1; exact o1.elim
      | some oy =>
        cases oy with
        | none => simp only [hy] at o1; exact o1.elim
        | some y =>
          simp only [hy] at o1
          obtain ⟨u, hu, ru⟩ := g i y hy
          exact ⟨a, C, dx, pd, vs, i, u, e2, t, sc, sl, hu, o1.ok p1 ru⟩
    next => exact o1.elim⟩
theorem putX_len {i : Nat} {x : PV} {xs : List (Option PV)} {v : V} {vs : List (Option V)} (e : vs.length = xs.length) : (putS i v vs).length = (putX i x xs).length := by
  unfold putS putX
  simp [e]
theorem putX_get {i j : Nat} {x y : PV} {xs : List (Option PV)} (e : (putX i x xs)[j]? = some (some y)) : (j = i ∧ y = x) ∨ (j ≠ i ∧ xs[j]? = some (some y)) := by
  unfold putX at e
  by_cases h : j = i
  · subst h
    rw [List.getElem?_set_self (by simp; omega)] at e
    cases e
    exact .inl ⟨rfl, rfl⟩
  · rw [List.getElem?_set_ne (Ne.symm h)] at e
    refine .inr ⟨h, ?_⟩
    by_cases z : j < xs.length
    · rwa [List.getElem?_append_left z] at e
    · rw [List.getElem?_append_right (by omega), List.getElem?_replicate] at e
      split at e <;> cases e
/-- a slot is written -/
theorem rep_slot (p : Rep K ρ h H) {a j i : Nat} {n : Str} {xs : List (Option PV)} {q C dx : Addr} {vs : List (Option V)} {y : PV} {v : V} (hc : h[a]? = some (.ins n j xs)) (hq : ρ.c[a]? = some q) (hm : K.mg n = some (.ref C)) (hj : h[j]? = some .own) (hd : ρ.c[j]? = some dx)
    (t : Slt H q C dx vs) (tl : vs.length = xs.length) (g : ∀ (i : Nat) (y : PV), xs[i]? = some (some y) → ∃ u, vs[i]? = some (some u) ∧ RV K ρ H y u) (ry : RV K ρ H y v) :
    Ext ρ H ρ (slH H q C dx (putS i v vs)) ∧ Rep K ρ (h.set a (.ins n j (putX i y xs))) (slH H q C dx (putS i v vs)) := by
  have mq := List.mem_of_getElem? hq
  have md := List.mem_of_getElem? hd
  have aj : a ≠ j := fun z => by subst z; rw [hc] at hj; cases hj
  have un : ∀ {i j : Nat} {x : Addr}, ρ.c[i]? = some x → ρ.c[j]? = some x → i = j := fun {i j x} h1 h2 => by
    obtain ⟨l1, q1⟩ := List.getElem?_eq_some_iff.mp h1
    obtain ⟨l2, q2⟩ := List.getElem?_eq_some_iff.mp h2
    exact (List.getElem_inj p.nd).mp (q1.trans q2.symm)
  have nd : dx ≠ q := fun z => aj (un (x := q) hq (z ▸ hd))
  have x : Ext ρ H ρ (slH H q C dx (putS i v vs)) := .of ⟨[], by simp, by simp⟩ rfl fun b u hb e => by
    rw [slH_ne (fun z => hb (by rw [z]; exact mq)) (fun z => hb (by rw [z]; exact md))]
    exact e
  refine ⟨x, by simp [p.len], p.nd, fun b c w e1 e2 => ?_, fun b hb => ?_, p.dj⟩
  · by_cases hb : b = a
    · subst hb
      have hl : b < h.length := (List.getElem?_eq_some_iff.mp hc).1
      rw [List.getElem?_set_self hl] at e1
      cases e1
      rw [hq] at e2
      cases e2
      refine ⟨C, dx, _, hm, by rw [List.getElem?_set_ne aj]; exact hj, hd, ⟨slH_slt nd, putX_len tl⟩, fun k z hz => ?_⟩
      rcases putX_get hz with ⟨z1, z2⟩ | ⟨z1, z2⟩
      · subst z1 z2
        exact ⟨v, putS_get _ _ _, RV.ext x ry⟩
      · obtain ⟨u, hu, ru⟩ := g k z z2
        exact ⟨u, (putS_ne z1).mpr hu, RV.ext x ru⟩
    · rw [List.getElem?_set_ne (Ne.symm hb)] at e1
      have wq : w ≠ q := fun z => hb (un (x := w) e2 (by rw [z]; exact hq))
      have r := p.at_ b c w e1 e2
      have wd : c ≠ .own → w ≠ dx := fun ne z => by
        have : b = j := un (x := w) e2 (by rw [z]; exact hd)
        subst this
        rw [hj] at e1
        cases e1
        exact ne rfl
      cases c with
      | lst ys => obtain ⟨us, z, rs⟩ := r; exact ⟨us, by rw [slH_ne wq (wd (by simp))]; exact z, RVs.ext x _ _ rs⟩
      | dct ys => obtain ⟨us, z, rs⟩ := r; exact ⟨us, by rw [slH_ne wq (wd (by simp))]; exact z, RVd.ext x _ _ rs⟩
      | dcT ys => obtain ⟨us, z, rs⟩ := r; exact ⟨us, by rw [slH_ne wq (wd (by simp))]; exact z, RVt.kp x.kp _ _ rs⟩
      | tab yy zz =>
        obtain ⟨t, ps, z, t2, t3⟩ := r
        refine ⟨t, ps, by rw [slH_ne wq (wd (by simp))]; exact z, t2, fun pos cv hc => ?_⟩
        obtain ⟨c', e3, e4⟩ := t3 pos cv hc
        exact ⟨c', e3, e4.1, x.at_ (o := LamX.CodeO _ _) trivial e4.1 e4.2⟩
      | own =>
        obtain ⟨o, z, nt⟩ := r
        by_cases hw : w = dx
        · subst hw
          exact ⟨.xd [], by unfold slH; rw [upd_ne nd, upd_same], True.intro⟩
        · exact ⟨o, by rw [slH_ne wq hw]; exact z, nt⟩
      | ins n' j' ys =>
        obtain ⟨C', dx', us, m', q1, q2, ⟨t', tl'⟩, rs⟩ := r
        refine ⟨C', dx', us, m', ?_, q2, ⟨?_, tl'⟩, fun k z hz => ?_⟩
        · by_cases z : j' = a
          · subst z; rw [hc] at q1; cases q1
          · rw [List.getElem?_set_ne (Ne.symm z)]; exact q1
        · have we := slH_ne (C := C) (vs := putS i v vs) (H := H) wq (wd (by simp))
          rcases t' with ⟨t1, t2⟩ | ⟨t1, t2⟩
          · exact .inl ⟨by rw [we]; exact t1, t2⟩
          · refine .inr ⟨by rw [we]; exact t1, ?_⟩
            have dq : dx' ≠ q := fun z => by
              have : j' = a := un (x := dx') q2 (by rw [z]; exact hq)
              subst this
              rw [hc] at q1
              cases q1
            by_cases hw : dx' = dx
            · rw [hw]; unfold slH; rw [upd_ne nd, upd_same]
            · rw [slH_ne dq hw]; exact t2
        · obtain ⟨u, hu, ru⟩ := rs k z hz
          exact ⟨u, hu, RV.ext x ru⟩
  · obtain ⟨o, z, nt⟩ := p.hid b hb
    have n1 : b ≠ q := fun z => p.dj q mq (z ▸ hb)
    have n2 : b ≠ dx := fun z => p.dj dx md (z ▸ hb)
    exact ⟨o, by rw [slH_ne n1 n2]; exact z, nt⟩
/-- o.f = v -/
noncomputable def mPutSl (n : Str) (i : Nat) (mv mo : M PV) : MS := fun l h => (mv l h).bs l fun y h1 => (mo l h1).bs l fun x h2 => match x with
  | .ref a => match h2[a]? with
    | some (.ins n' j xs) => if n' = n then .ok (.nx l) (h2.set a (.ins n' j (putX i y xs))) else .no
    | _ => .no
  | _ => .no
theorem outS_if {K : KC} {W : WQ} {c : Prop} [Decidable c] {r : R Fl} {D : Ends} (o : OutS K W ρ H (if c then r else .no) D) : c ∧ OutS K W ρ H r D := by
  by_cases hc : c
  · rw [if_pos hc] at o; exact ⟨hc, o⟩
  · rw [if_neg hc] at o; exact o.elim
theorem xs_putSl {n f : Str} {i : Nat} (T : SlotK X.K X.mg n f i) (hv : XE X W value mv) (ho : XE X W o mo) (hs : swapsWith value (some (.Attribute o f pos')) pos.line X.env = pure false := by rfl) : XS X W (.Assign [.Attribute o f pos'] value pos) (mPutSl n i mv mo) :=
  ps_weak (ps_sl ho hv hs) fun D σ H ⟨ρ, h, l, p, rl, o⟩ => ⟨ρ, h, l, p, rl, Out.mono (OutS.bs rl o) fun y H1 ⟨y', h1, ρ1, e1, p1, r1, o1⟩ => ⟨ρ1, h1, l, p1, rl.ext e1, Out.mono (OutS.bs (rl.ext e1) o1) fun x H2 ⟨x', h2, ρ2, e2, p2, r2, o2⟩ => by
    obtain ⟨C, pd, hm, sc, sl⟩ := T.ex
    split at o2
    next a =>
      split at o2
      next n' j xs q =>
        obtain ⟨c, o3⟩ := outS_if o2
        clear o2
        subst c
        obtain ⟨w, hw, e3⟩ := r2
        obtain ⟨C', dx, vs, m', q1, q2, ⟨t, tl⟩, g⟩ := p2.at_ a _ w q hw
        have m'' : X.mg n' = some (.ref C') := m'
        rw [hm] at m''
        cases m''
        obtain ⟨x3, p3⟩ := rep_slot (i := i) p2 q hw m' q1 q2 t tl g (RV.ext e2 r1)
        exact ⟨w, C, dx, pd, vs, i, e3, t, sc, sl, o3 ρ2 _ σ x3 p3 (((rl.ext e1).ext e2).ext x3)⟩
      next => exact o2.elim
    next => exact o2.elim⟩⟩
end
end Wg

namespace Wg
open PySem PySem.Spec PyProof.Rows L2 SlX
/-! ### methods, properties, instances made -/
section
variable {X : Cx} {CX : CXT} {k : Nat} {f g C pd : Addr} {fd : FuncData} {ps : List Str} {sp : Sp} {E : L2.St → XK} {x m fl : Str} {p pos apos np : Pos} {o e : Expr} {es : List Expr} {ta : TE} {t : TA} {pins : List (Addr × Obj)} {σ : L2.St} {H : Hp} {s : Shared} {Q : VK} {us : List Value} {vs : List V}
/-- a promise, run -/
theorem run_G (F : FnG X.prog X.w X.K X.mg X.base CX k f fd ps sp) (room : Room k X.A) (ng : NoG X.A) (bi : Binds X.K fd ps []) (pa : ∀ σ, PassesAt CX X σ (E σ)) (I : Inv X pins σ H s) (r : Vals vs us) (h : sp vs H Q (E σ)) :
    codeAny (model X.prog X.w) X.A (.call (.ref f) ⟨us, []⟩) (fun r s' => match r with | .ok (.ret v) => EP X pins σ Q v s' | .ok _ => False | .error e => X.xe e s') s := by
  have b := bi s us I.kIn (by rw [List.append_nil, ← r.length]; exact F.len _ _ _ _ h)
  rw [List.append_nil] at b
  refine codeAny_mono (F.run X.A X.stack s H ⟨us, []⟩ us vs Q (E σ) room ng I.env0 b r h) fun r s' z => ?_
  cases r with
  | error er => exact pa σ pins H s er s' I z
  | ok fl => cases fl <;> first | exact I.after z | exact False.elim z
noncomputable def tMethSG (C : Addr) (sp : Sp) (E : L2.St → XK) (ta : TE) (t : TA) : TE := fun σ H Q => ta σ H fun x H1 => ∃ a dx vs, x = .ref a ∧ Slt H1 a C dx vs ∧ t σ H1 fun ws H2 => sp (x :: ws) H2 Q (E σ)
theorem pe_methG {pl : Sem Bool} (he : PE X o ta) (c : SCls X.K C) (hm : Meth X.K C m g) (F : FnG X.prog X.w X.K X.mg X.base CX k g fd ps sp) (room : Room k X.A) (ng : NoG X.A) (bi : Binds X.K fd ps []) (pa : ∀ σ, PassesAt CX X σ (E σ)) (ha : PA X (e :: es) t)
    (ev : eval (.Call (.Attribute o m apos) (e :: es) [] pos) X.env = (do
      let ov ← eval o X.env
      standAt apos.atName
      let (f, first) ← holding [ov] (getMethod ov m pl)
      callWith pos f first (backTo pos (starEach (e :: es) X.env)) (backToKw pos (keywordEach [] X.env))) := by rfl)
    (st : starEach (e :: es) X.env = (false, eval e X.env) :: starEach es X.env := by rfl) (nst : (backTo pos (starEach es X.env)).any (·.1) = false := by rfl) : PE X (.Call (.Attribute o m apos) (e :: es) [] pos) (tMethSG C sp E ta t) := ⟨fun pins s σ H Q I q => by
  refine PySem.W.methodCall_KW (pl := pl) (thn (he.run pins s σ H _ I q) fun u s1 ⟨x, H1, I1, rx, a, dx, vs, ex, sl, q1⟩ => ?_) ev
  subst ex
  cases (show u = Value.ref a from rx)
  refine getmethsl_ok I1 sl c hm ?_
  exact PySem.W.callWith_K (first := [.ref a]) (h₀ := X.base) I.ok.mod.kin hm.kp (thn (ha.run pos pins s1 σ H1 _ I1 q1) fun us s2 ⟨ws, H2, I2, r, q2⟩ => ⟨I2.kIn, wpAny_call (run_G (us := .ref a :: us) (vs := .ref a :: ws) F room ng bi pa I2 (.cons rfl r) q2)⟩) st nst⟩
/-- a property that raises nothing -/
noncomputable def tPropG (C : Addr) (sp : Sp) (ta : TE) : TE := fun σ H Q => ta σ H fun x H1 => ∃ a dx vs, x = .ref a ∧ Slt H1 a C dx vs ∧ sp [.ref a] H1 Q fun _ _ _ => False
structure PropK (K : PySem.W.Frag) (C : Addr) (f : Str) (p g : Addr) : Prop where
  at_ : PySem.W.findIn K (.ref C) f = some (some (.ref p))
  get : PySem.W.specialIn K (.ref p) "__get__" = some (some (.builtin "property.__get__"))
  tk : PySem.W.takesIn K (.ref p) = some true
  rc : ∃ rest, PySem.W.recIn K p "property" = some (.ref g :: rest)
theorem pe_propG (he : PE X e ta) (c : SCls X.K C) (pr : PropK X.K C fl pd g) (F : FnG X.prog X.w X.K X.mg X.base CX k g fd ps sp) (room : Room (k + 1) X.A) (ng : NoG X.A) (bi : Binds X.K fd ps []) (hx : ∀ (H : Hp) (s : Shared) (e : Value) (s' : Shared), CX X.stack H s (fun _ _ _ => False) e s' → False)
    (hb : attributeBase e fl X.env (eval e X.env) = eval e X.env := by rfl) : PE X (.Attribute e fl pos) (tPropG C sp ta) := ⟨fun pins s σ H Q I q => by
  refine attr_of hb (thn (he.run pins s σ H _ I q) fun u s1 ⟨x, H1, I1, rx, a, dx, vs, ex, sl, q1⟩ => ?_)
  subst ex
  cases (show u = Value.ref a from rx)
  obtain ⟨sv, od, _, J, _⟩ := slt_inst I1 sl
  obtain ⟨rest, hrec⟩ := pr.rc
  have I2 : Inv X pins σ H1 { s1 with toks := s1.toks + 1 } := I1.tok (s1.toks + 1)
  have b := bi { s1 with toks := s1.toks + 1 } [.ref a] I2.kIn (by rw [List.append_nil]; exact F.len _ _ _ _ q1)
  rw [List.append_nil] at b
  refine PySem.W.get_bind I1.kIn J (PySem.W.plainGet_of (c.get fl)).1 (PySem.W.findObj_data c.ic pr.at_ pr.get pr.tk) (PySem.W.plainGet_of (c.get fl)).2 (wpAny_call (PySem.W.prop_get (s := { s1 with toks := s1.toks + 1 }) I1.kIn hrec ?_))
  refine codeAny_mono (F.run X.A.in1 X.stack { s1 with toks := s1.toks + 1 } H1 ⟨[.ref a], []⟩ [.ref a] [.ref a] Q _ room.in1 ng I2.env0.in1 b (.cons rfl .nil) q1) fun r s' z => ?_
  cases r with
  | error er => exact (hx _ _ _ _ z).elim
  | ok fl =>
    cases fl with
    | ret u =>
      obtain ⟨v, H', I3, rv, q⟩ := I2.after z
      exact wpAny_of_eq (PySem.W.handedOut_of (handed_of rv)) ⟨v, H', I3, rv, q⟩
    | _ => exact False.elim z⟩
/-- an instance made -/
noncomputable def tMakeG (C : Addr) (sp : Sp) (E : L2.St → XK) (t : TA) : TE := fun σ H Q => t σ H fun vs H1 => ∀ x dx, H1 x = none → H1 dx = none → dx ≠ x → sp (.ref x :: vs) (upd (upd H1 dx (.own x)) x (.ins C dx [])) (fun v H2 => v = .non ∧ Q (.ref x) H2) (E σ)
theorem pe_makeG (M : Mk X.K C f) (F : FnG X.prog X.w X.K X.mg X.base CX k f fd ps sp) (room : Room (k + 1) X.A) (ng : NoG X.A) (gx : Gl X x) (mx : X.mg x = some (.ref C)) (bi : Binds X.K fd ps []) (pa : ∀ σ, PassesAt CX X σ (E σ)) (ha : PA X (e :: es) t)
    (hdb : (x == ("__debug__" : Str)) = false := by decide) (st : starEach (e :: es) X.env = (false, eval e X.env) :: starEach es X.env := by rfl) (nst : (backTo pos (starEach es X.env)).any (·.1) = false := by rfl) : PE X (.Call (.Name x p) (e :: es) [] pos) (tMakeG C sp E t) := ⟨fun pins s σ H Q I q => by
  refine wpAny_Call_Name_kw (ld_glob I gx mx ?_ hdb)
  refine PySem.W.callWith_K (h₀ := X.base) I.ok.mod.kin M.kp (thn (ha.run pos pins s σ H _ I q) fun us s1 ⟨vs, H1, I1, r, q1⟩ => ⟨I1.kIn, ?_⟩) st nst
  have q2 := q1 (s1.heap.objs.size + 1) s1.heap.objs.size (I1.hok.fresh (Nat.le_succ _)) (I1.hok.fresh (Nat.le_refl _)) (Nat.ne_of_lt (Nat.lt_succ_self _))
  have I2 := Inv.made (C := C) I1
  have r2 : Vals (V.ref (s1.heap.objs.size + 1) :: vs) (Value.ref (s1.heap.objs.size + 1) :: us) := .cons rfl r
  have b := bi _ (Value.ref (s1.heap.objs.size + 1) :: us) I2.kIn (by rw [List.append_nil, ← r2.length]; exact F.len _ _ _ _ q2)
  rw [List.append_nil] at b
  refine wpAny_call (make_map (f := f) I1.kIn M.makes M.init (beq_iff_eq.mp M.fn) (codeAny_mono (F.run _ X.stack _ _ ⟨Value.ref (s1.heap.objs.size + 1) :: us, []⟩ _ _ _ (E σ) (room.make C us []) ng (I2.env0.make C us []) b r2 q2) fun r s' z => ?_))
  cases r with
  | error er => exact pa σ pins _ _ er s' I2 z
  | ok fl =>
    cases fl with
    | ret u =>
      obtain ⟨v, H', I3, rv, ev, q3⟩ := I2.after z
      subst ev
      exact ⟨rv, V.ref (s1.heap.objs.size + 1), H', I3, rfl, q3⟩
    | _ => exact False.elim z⟩
end
/-- a method m of the class n tells F -/
structure MDef (P : Program) (w : World) (K : PySem.W.Frag) (mg : Str → Option Value) (base : Heap) (k : Nat) (n m : Str) (F : FN) : Prop where
  ex : ∃ C f fd ps, mg n = some (.ref C) ∧ SCls K C ∧ Meth K C m f ∧ Binds K fd ps [] ∧ FnG P w K mg base (L2.CX P w) k f fd ps (spM w K mg F)
structure PDef (P : Program) (w : World) (K : PySem.W.Frag) (mg : Str → Option Value) (base : Heap) (k : Nat) (n m : Str) (F : FN) : Prop where
  ex : ∃ C p f fd ps, mg n = some (.ref C) ∧ SCls K C ∧ PropK K C m p f ∧ Binds K fd ps [] ∧ FnG P w K mg base (L2.CX P w) k f fd ps (spM w K mg F)
structure NDef (P : Program) (w : World) (K : PySem.W.Frag) (mg : Str → Option Value) (base : Heap) (k : Nat) (n : Str) (F : FN) : Prop where
  ex : ∃ C f fd ps, mg n = some (.ref C) ∧ Mk K C f ∧ Binds K fd ps [] ∧ FnG P w K mg base (L2.CX P w) k f fd ps (spM w K mg F)
noncomputable def isN (h : Store) (n : Str) (x : PV) : Bool := match insOf h x with
  | some (n', _) => decide (n' = n)
  | none => false
noncomputable def mMet (n : Str) (F : FN) (mo : M PV) (ms : M (List PV)) : M PV := fun l h => (mo l h).bind fun x h1 => if isN h1 n x = true then (ms l h1).bind fun xs h2 => F (x :: xs) h2 else .no
noncomputable def mProp (n : Str) (F : FN) (mo : M PV) : M PV := fun l h => (mo l h).bind fun x h1 => if isN h1 n x = true then (F [x] h1).noX else .no
noncomputable def fNew (n : Str) (F : FN) : FN := fun xs h => match F (.ref (h.length + 1) :: xs) (h ++ [.own] ++ [.ins n h.length []]) with
  | .ok .non h1 => handO h.length (.ref (h.length + 1)) h1
  | .exc e h1 => handX h.length e h1
  | _ => .no
section
variable {X : Cx} {W : WQ} {K : KC} {ρ : Pl} {H : Hp} {h : Store} {k : Nat} {n m x : Str} {F : FN} {pos apos p0 : Pos} {o e : Expr} {es : List Expr} {mo : M PV} {ms : M (List PV)}
theorem isN_at (p : Rep K ρ h H) {x : PV} {v : V} (r : RV K ρ H x v) (q : isN h n x = true) : ∃ a C dx vs, v = .ref a ∧ K.mg n = some (.ref C) ∧ Slt H a C dx vs := by
  unfold isN at q
  split at q
  next n' xs e =>
    have : n' = n := of_decide_eq_true q
    subst this
    obtain ⟨a, C, dx, vs, e1, hm, t, _⟩ := insOf_at p r e
    exact ⟨a, C, dx, vs, e1, hm, t⟩
  next => cases q
theorem xe_meth {pl : Sem Bool} (D : MDef X.prog X.w X.K X.mg X.base k n m F) (hr : Room k X.A) (hG : NoG X.A) (tk : Takes X W.w) (ho : XE X W o mo) (ha : XA X W (e :: es) ms) (hcur : W.cur = none := by rfl)
    (ev : eval (.Call (.Attribute o m apos) (e :: es) [] pos) X.env = (do
      let ov ← eval o X.env
      standAt apos.atName
      let (f, first) ← holding [ov] (getMethod ov m pl)
      callWith pos f first (backTo pos (starEach (e :: es) X.env)) (backToKw pos (keywordEach [] X.env))) := by rfl)
    (st : starEach (e :: es) X.env = (false, eval e X.env) :: starEach es X.env := by rfl) (nst : (backTo pos (starEach es X.env)).any (·.1) = false := by rfl) : XE X W (.Call (.Attribute o m apos) (e :: es) [] pos) (mMet n F mo ms) := by
  obtain ⟨C, f, fd, ps, hm, sc, me, bi, ok⟩ := D.ex
  obtain ⟨w, c⟩ := W
  obtain rfl : c = none := hcur
  exact pe_weak (pe_methG ho sc me ok hr hG bi (fun σ => passAt tk σ) ha ev st nst) fun σ H Q ⟨ρ, h, l, p, rl, o⟩ => ⟨ρ, h, l, p, rl, Out.mono (Out.bind o) fun v H1 ⟨x, h1, ρ1, e1, p1, r1, o1⟩ => by
    obtain ⟨c, o1⟩ := out_if o1
    obtain ⟨a, C', dx, vs, e2, hm', t⟩ := isN_at p1 r1 c
    have hm' : X.mg n = some (.ref C') := hm'
    rw [hm] at hm'
    cases hm'
    exact ⟨a, dx, vs, e2, t, ρ1, h1, l, p1, rl.ext e1, Out.mono (Out.bind o1) fun ws H2 ⟨xs, h2, ρ2, e3, p2, r2, o2⟩ => ⟨ρ2, h2, x :: xs, p2, ⟨v, ws, rfl, RV.ext e3 r1, r2⟩, o2⟩⟩⟩
theorem cx_no {P : Program} {w : World} {st : List Env} {H : Hp} {s s' : Shared} {e : Value} (z : L2.CX P w st H s (fun _ _ _ => False) e s') : False := by
  obtain ⟨_, _, _, _, _, _, _, _, _, _, _, _, z⟩ := z
  exact z
theorem xe_prop (D : PDef X.prog X.w X.K X.mg X.base k n m F) (hr : Room (k + 1) X.A) (hG : NoG X.A) (ho : XE X W o mo) (hcur : W.cur = none := by rfl) (hb : attributeBase o m X.env (eval o X.env) = eval o X.env := by rfl) : XE X W (.Attribute o m pos) (mProp n F mo) := by
  obtain ⟨C, pd, f, fd, ps, hm, sc, pr, bi, ok⟩ := D.ex
  obtain ⟨w, c⟩ := W
  obtain rfl : c = none := hcur
  exact pe_weak (pe_propG ho sc pr ok hr hG bi (fun _ _ _ _ => cx_no) hb) fun σ H Q ⟨ρ, h, l, p, rl, o⟩ => ⟨ρ, h, l, p, rl, Out.mono (Out.bind o) fun v H1 ⟨x, h1, ρ1, e1, p1, r1, o1⟩ => by
    obtain ⟨c, o1⟩ := out_if o1
    obtain ⟨a, C', dx, vs, e2, hm', t⟩ := isN_at p1 r1 c
    have hm' : X.mg n = some (.ref C') := hm'
    rw [hm] at hm'
    cases hm'
    refine ⟨a, dx, vs, e2, t, ρ1, h1, [x], p1, ⟨v, [], by rw [e2], r1, rfl⟩, ?_⟩
    cases q : F [x] h1 with
    | no => rw [q] at o1; exact o1
    | exc e h2 => rw [q] at o1; exact o1.elim
    | ok y h2 => rw [q] at o1; exact o1⟩
theorem xe_new (D : NDef X.prog X.w X.K X.mg X.base k n F) (hr : Room (k + 1) X.A) (hG : NoG X.A) (tk : Takes X W.w) (ha : XA X W (e :: es) ms) (hcur : W.cur = none := by rfl) (hg : Gl X n := by rfl) (hdb : (n == ("__debug__" : Str)) = false := by decide)
    (st : starEach (e :: es) X.env = (false, eval e X.env) :: starEach es X.env := by rfl) (nst : (backTo pos (starEach es X.env)).any (·.1) = false := by rfl) : XE X W (.Call (.Name n p0) (e :: es) [] pos) (mCall (fNew n F) ms) := by
  obtain ⟨C, f, fd, ps, hm, mk, bi, ok⟩ := D.ex
  obtain ⟨w, c⟩ := W
  obtain rfl : c = none := hcur
  exact pe_weak (pe_makeG mk ok hr hG hg hm bi (fun σ => passAt tk σ) ha hdb st nst) fun σ H Q ⟨ρ, h, l, p, rl, o⟩ => ⟨ρ, h, l, p, rl, Out.mono (Out.bind o) fun vs H1 ⟨xs, h1, ρ1, e1, p1, r1, o1⟩ x dx hx hd ne => by
    have r1 : RVs _ ρ1 H1 xs vs := r1
    have ed := Ext.upd_add p1 hd (.own x)
    have p2 := p1.grow (c := .own) hd (o := .own x) ⟨_, upd_same, True.intro⟩
    have hx2 : upd H1 dx (.own x) x = none := by rw [upd_ne (Ne.symm ne)]; exact hx
    have ex := Ext.upd_add p2 hx2 (.ins C dx [])
    have l1 : (ρ1.add dx).c[h1.length]? = some dx := by
      show (ρ1.c ++ [dx])[h1.length]? = _
      rw [p1.len]; simp
    have l2 : ((ρ1.add dx).add x).c[h1.length + 1]? = some x := by
      show ((ρ1.c ++ [dx]) ++ [x])[h1.length + 1]? = _
      rw [p1.len]; simp
    have p3 := p2.grow (c := .ins n h1.length []) hx2 (o := .ins C dx []) ⟨C, dx, [], hm, by simp, by
      show ((ρ1.c ++ [dx]) ++ [x])[h1.length]? = _
      rw [p1.len]; simp, ⟨.inl ⟨upd_same, rfl⟩, rfl⟩, fun i y hy => by simp at hy⟩
    have e3 := ed.trans ex
    refine ⟨_, h1 ++ [.own] ++ [.ins n h1.length []], .ref (h1.length + 1) :: xs, p3, ⟨.ref x, vs, rfl, ⟨x, l2, rfl⟩, RVs.ext e3 _ _ r1⟩, ?_⟩
    have o1 : Out _ ρ1 H1 _ _ (fNew n F xs h1) Q := o1
    unfold fNew at o1
    cases q : F (.ref (h1.length + 1) :: xs) (h1 ++ [.own] ++ [.ins n h1.length []]) with
    | no => rw [q] at o1; exact o1
    | exc er h3 =>
      rw [q] at o1
      exact fun ρ' H' c' d a' p' rx => out_handX p1 o1 ρ' H' c' d (e3.trans a') p' rx
    | ok y h3 =>
      rw [q] at o1
      cases y with
      | non =>
        refine fun ρ' H' v a' p' rv => ⟨rv, out_handO p1 o1 ρ' H' (.ref x) (e3.trans a') p' ⟨x, ?_, rfl⟩⟩
        obtain ⟨⟨more, em, _⟩, _⟩ := a'
        rw [em]
        exact (List.getElem?_append_left (List.getElem?_eq_some_iff.mp l2).1).trans l2
      | _ => exact o1.elim⟩
end
end Wg

namespace Wg
open PySem PySem.Spec PyProof.Rows L2 SlX
/-! ### a dict comprehension, keys ints, texts or tuples of these -/
section
variable {X : Cx} {pins : List (Addr × Obj)} {σ : L2.St} {H H' : Hp} {s : Shared}
/-- D[k] = v by a comprehension -/
theorem dput_set {E : Value → Shared → Prop} {D : Addr} {y v : V} {u r : Value} {Q : Unit → Shared → Prop} (hu : X.A.units < cLine) (I : Inv X pins σ H s) (g : DPut H D y v H') (ry : RelV y u) (rv : RelV v r) (h : ∀ s', Inv X pins σ H' s' → Q () s') :
    wpAny (model X.prog X.w) X.A (dictSet D u r) Q E s := by
  rcases g with ⟨kvs, k, e, ey, l, eH⟩ | ⟨kvs, k, b, e, ey, eb, l, eH⟩
  · subst ey eH; exact d_dictSet I e l ry rv h
  · subst ey; subst eH
    obtain rfl : u = Value.ref b := ry
    obtain ⟨z, hd, xs, rel, dd⟩ := dt_of I.hok e
    have zl : (putK kvs k v).length ≤ sizeLine := by have := length_putK kvs k v; omega
    refine wpAny_dictSet_heap (knd := tupleKind (mixKind X.prog X.w)) (show X.A.units < cLine from hu) (key_of I.hok eb) dd (fun h' dd' sb => h _ ?_) (hsz := by rw [← Paired.length rel]; exact z)
    obtain ⟨q, es, ep, q1, q2, q3, q4, _, q5⟩ := dd'
    refine d_write I (by rw [e]; trivial) sb ⟨q, q1⟩ ⟨zl, hd, _, (rel.put k eb rv).keeps fun c ys ec => ?_, q, es, ep, q1, q2, q3, q4, q5⟩
    rw [upd_ne (ne_of ec e nofun)]
    exact ec
/-- {k: v for ..}: D starts as o0 -/
noncomputable def tDg (o0 : HO) (wi : TI) (g : TG) (tt : TT) (tk tv : TE) (vs : List Nat) : TE := fun σ H Q => wi σ H fun J H1 => ∀ D, H1 D = none → ∃ W : Nat → Nat → Hp → Prop, (∃ m, W 0 m (upd H1 D o0)) ∧ ∀ i m H, W i m H →
  (J.stop i H ∧ Q (.ref D) H) ∨ (J.go i H ∧ ∃ Nx : Hp → Prop, (∀ H', Nx H' → ∃ m', m' < m ∧ W (i + 1) m' H') ∧ ∀ x H', J.yld i H x H' → g x (wipe σ vs) H' fun σ2 H2 => wipe σ2 vs = wipe σ vs ∧ tt σ2 H2 fun b H3 =>
    if b = true then tk σ2 H3 fun y H4 => tv σ2 H4 fun z H5 => ∃ H6, DPut H5 D y z H6 ∧ Nx H6 else Nx H3)
/-- an empty dict of either kind -/
noncomputable def Dct0 (o : HO) : Prop := o = .dK [] ∨ o = .dT []
theorem dg_eval {kx vx tg iter : Expr} {ifs : List Expr} {scope : Scope} {own : List (Str × Nat)} {pos : Pos} {wi : TI} {g : TG} {tt : TT} {tk tv : TE} {o0 : HO} (h0 : Dct0 o0) (hu : X.A.units < cLine) (hc : X.calm = true) (hN : X.N.Nodup) (hi : PI X tg iter wi) (ok : BlkOk X.N X.env.scope scope own)
    (hg : ∀ (s : Shared) (H : Hp) (C : Addr) (cl : List (Str × Addr)) (fp : List Addr), PG (X.blk s H scope (compEnvC scope cl C X.env) fp) tg g)
    (ht : ∀ (s : Shared) (H : Hp) (C : Addr) (cl : List (Str × Addr)) (fp : List Addr), PTs (X.blk s H scope (compEnvC scope cl C X.env) fp) ifs tt)
    (kk : ∀ (s : Shared) (H : Hp) (C : Addr) (cl : List (Str × Addr)) (fp : List Addr), PE (X.blk s H scope (compEnvC scope cl C X.env) fp) kx tk)
    (kv : ∀ (s : Shared) (H : Hp) (C : Addr) (cl : List (Str × Addr)) (fp : List Addr), PE (X.blk s H scope (compEnvC scope cl C X.env) fp) vx tv) (hs : ∀ x, foldedSetIterable iter X.env x = pure x := by intro _; rfl) :
    PE X (.DictComp kx vx [⟨tg, iter, ifs, 0⟩] scope pos) (tDg o0 wi g tt tk tv (own.map (·.2))) := by
  refine ⟨fun pins s σ H Q I h => ?_⟩
  rw [arm_eval_DictComp]
  have cellsThere : ∀ y ∈ scope.names, y.2 = .free → ∃ c, X.env.cells.lookup y.1 = some c := fun y hy e => (ok.free y hy e).elim (fun z => I.ok.has _ (.inl z)) fun z => I.ok.has _ (.inr z)
  refine wpAny_comprehension_free (use := none) rfl hs (closure_ok cellsThere) ok.kind (fun y hy e => by rw [ok.uniq y hy, e]) (thn (hi.run pins s σ H _ I h) fun _ sA hA => thn hA fun _ sB hB => ?_)
  obtain ⟨it, fp, tn, J, HB, rfl, IB, T, stB, fB, next⟩ := hB
  refine wpAny_newObj_type (newEnv_comp ?_)
  generalize eD : sB.heap.objs.size = D
  have nD : HB D = none := IB.hok.fresh (Nat.le_of_eq eD)
  obtain ⟨Wd, ⟨m0, start⟩, turns⟩ := next D nD
  generalize eC : ({ sB with heap := sB.heap.push { cls := .type "dict", data := .dict #[] } } : Shared) = sC
  have IC : Inv X pins σ (upd HB D o0) sC := by
    rw [← eC]
    refine IB.laid (t' := sB.toks) (fun b o e => Heap.get?_push_of_some _ e) (Nat.le_of_eq eD) ?_
    rw [← eD]
    rcases h0 with e | e <;> rw [e]
    · exact dk_empty sB.heap IB.big
    · exact dt_empty sB.heap IB.big
  have hC : sC.heap = sB.heap.push { cls := .type "dict", data := .dict #[] } := by rw [← eC]
  have fC : ∀ b ∈ fp, FpOk X pins (upd HB D o0) b ∧ b < sC.heap.objs.size := fun b hb => by
    obtain ⟨o, e, _⟩ := T.obj _ _ stB b hb
    have lt := Heap.lt_size e
    have ne : b ≠ D := by rw [← eD]; exact Nat.ne_of_lt lt
    exact ⟨⟨by rw [upd_ne ne]; exact (fB b hb).1, (fB b hb).2⟩, by rw [hC, Heap.size_push]; exact Nat.lt_succ_of_lt lt⟩
  have stC : tn 0 sC.heap := T.keep _ _ _ stB fun b _ o e => by rw [hC]; exact Heap.get?_push_of_some _ e
  have IBk := block_start IC ok hN fC
  have cellL := cellsFrom (sC.heap.objs.size + 1) scope.names (cloFrom X.env.cells scope.names [])
  have pg := hg sC (upd HB D o0) sC.heap.objs.size (cellsFrom (sC.heap.objs.size + 1) scope.names (cloFrom X.env.cells scope.names [])) fp
  have pt := ht sC (upd HB D o0) sC.heap.objs.size (cellsFrom (sC.heap.objs.size + 1) scope.names (cloFrom X.env.cells scope.names [])) fp
  have pk := kk sC (upd HB D o0) sC.heap.objs.size (cellsFrom (sC.heap.objs.size + 1) scope.names (cloFrom X.env.cells scope.names [])) fp
  have pv := kv sC (upd HB D o0) sC.heap.objs.size (cellsFrom (sC.heap.objs.size + 1) scope.names (cloFrom X.env.cells scope.names [])) fp
  show codeAny _ _ (.compStart (.DictComp kx vx [⟨tg, iter, ifs, 0⟩] scope pos) 0 (.ref it) (.ref D) (compEnvC scope (cellsFrom (sC.heap.objs.size + 1) scope.names (cloFrom X.env.cells scope.names [])) sC.heap.objs.size X.env)) (compPost (model X.prog X.w) X.A X.xe none (EP X pins σ Q) (.ref D) sC.heap.objs.size) { sC with heap := pushCells (sC.heap.push { cls := .type "dict", data := .dict #[] }) scope.names }
  have noFp : ∀ b ∈ fp, (upd HB D o0) b = none := fun b hb => (fC b hb).1.1
  generalize eE : compEnvC scope (cellsFrom (sC.heap.objs.size + 1) scope.names (cloFrom X.env.cells scope.names [])) sC.heap.objs.size X.env = ce at IBk pg pt pk pv ⊢
  have locE : ce.locals = sC.heap.objs.size := by subst eE; rfl
  generalize eH : upd HB D o0 = HC at IC IBk pg pt pk pv start noFp fC
  generalize e4 : ({ sC with heap := pushCells (sC.heap.push { cls := .type "dict", data := .dict #[] }) scope.names } : Shared) = sF at IBk ⊢
  have stF : tn 0 sF.heap := T.keep _ _ _ stC fun b _ o e => by rw [← e4]; exact pushCells_keeps _ _ _ _ (Heap.get?_push_of_some _ e)
  have fpAt : ∀ {σ' : L2.St} {H' : Hp} {s' : Shared}, Inv (X.blk sC HC scope ce fp) [] σ' H' s' → (∀ b ∈ fp, H' b = none) → ∀ b ∈ fp, FpOk (X.blk sC HC scope ce fp) [] H' b := fun I' hn b hb =>
    ⟨hn b hb, (I'.ok.exf b hb).1, I'.ok.exfs b hb, .inl hb, fun x c e => (I'.ok.exf b hb).2 x c e, fun p hp => absurd (show p ∈ ([] : List (Addr × Obj)) ++ [] from hp) (by simp)⟩
  have loop : codeAny (model X.prog X.w) X.A (.compLoop (.DictComp kx vx [⟨tg, iter, ifs, 0⟩] scope pos) 0 (.ref it) (.ref D) ce) (compPost (model X.prog X.w) X.A X.xe none (EP X pins σ Q) (.ref D) sC.heap.objs.size) sF := by
    refine compLoop_anyD (fun n s' => ∃ i H', Inv (X.blk sC HC scope ce fp) [] (wipe σ (own.map (·.2))) H' s' ∧ tn i s'.heap ∧ (∀ b ∈ fp, H' b = none) ∧ Wd i n H') ?_ m0 ⟨0, HC, IBk, stF, noFp, start⟩
    rintro n s5 ⟨i, H5, I5, st5, n5, w5⟩
    rcases turns i n H5 w5 with ⟨stop, done⟩ | ⟨go, Nx, less, step⟩
    · refine thnF (T.done (X.blk sC HC scope ce fp) rfl rfl rfl hc i [] s5 _ H5 (fun _ _ => False) I5 (fpAt I5 n5) st5 stop) fun r s6 ⟨hr, I6⟩ => ?_
      subst hr
      have back : Inv X pins σ H5 s6 := IC.call' (ch := fp) I6.os I6.base I6.hok I6.bare fun b hb => ⟨(fC b hb).1.2.2.2.1, (fC b hb).1.2.1, (fC b hb).1.2.2.2.2.1, (fC b hb).1.2.2.2.2.2⟩
      have free : H5 sC.heap.objs.size = none := by rw [← locE]; exact I6.free
      obtain ⟨mm, ns, _⟩ := I6.loc
      have ns' : s6.heap.Ns ce.locals mm := ns
      rw [locE] at ns'
      refine ⟨mm, ns', fun h'' sb => ?_⟩
      obtain ⟨f0, f1, f2, f3, f4, f5⟩ := IC.fpOk (Nat.le_refl _) free
      exact ⟨.ref D, H5, back.turned (t' := s6.toks) (fun b o hb e => (sb.2 b hb).trans e) f0 f1 f3 f4 f5, rfl, done⟩
    · refine thnF (T.item (X.blk sC HC scope ce fp) rfl rfl rfl hc i [] s5 _ H5 (fun _ _ => False) I5 (fpAt I5 n5) st5 go) fun r s6 ⟨u, hr, h6⟩ => ?_
      subst hr
      refine thnF h6 fun _ s7 ⟨x, H7, I7, r7, y7, st7, n7⟩ => ?_
      refine thnF (pg.run _ s7 _ H7 x u _ (I7.pinned (fpAt I7 n7) (T.obj _ _ st7)) r7 (step x H7 y7)) fun _ s8 ⟨σ8, H8, I8, hw8, q8⟩ => ?_
      refine thnF (pt.run _ s8 σ8 H8 _ I8 q8) fun b s9 ⟨H9, I9, q9⟩ => ?_
      have onward : ∀ {s' : Shared} {H' : Hp}, Inv (X.blk sC HC scope ce fp) ([] ++ pinsAt fp s7.heap) σ8 H' s' → Nx H' → ∃ m, m < n ∧ ∃ i H', Inv (X.blk sC HC scope ce fp) [] (wipe σ (own.map (·.2))) H' s' ∧ tn i s'.heap ∧ (∀ b ∈ fp, H' b = none) ∧ Wd i m H' := fun {s' H'} I' nx => by
        obtain ⟨m', hm, w'⟩ := less H' nx
        have held : ∀ b ∈ fp, ∀ o, s7.heap.get? b = some o → s'.heap.get? b = some o ∧ H' b = none := fun b hb o e => by
          obtain ⟨z1, z2, _⟩ := I'.pin (b, o) (List.mem_append_right _ (List.mem_append_right _ (mem_pinsAt hb e)))
          exact ⟨z1, z2⟩
        refine ⟨m', hm, i + 1, H', (I'.unpinned (pins := [])).weak (by rw [← hw8, wipe_length]) (fun j v e => (wipe_some (hw8.symm ▸ e)).1), T.keep _ _ _ st7 fun b hb o e => (held b hb o e).1, fun b hb => ?_, w'⟩
        obtain ⟨o, e, _⟩ := T.obj _ _ st7 b hb
        exact (held b hb o e).2
      cases b with
      | false => simp only [Bool.false_eq_true, if_false] at q9 ⊢; exact onward I9 q9
      | true =>
        simp only [if_true] at q9 ⊢
        refine thnF (pk.run _ s9 σ8 H9 _ I9 q9) fun z s10 ⟨yk, H10, I10, r10, q10⟩ => ?_
        refine thnF (pv.run _ s10 σ8 H10 _ I10 q10) fun z2 s11 ⟨yv, H11, I11, r11, H12, dp, nx⟩ => ?_
        exact dput_set (X := X.blk sC HC scope ce fp) hu I11 dp r10 r11 fun s12 I12 => onward I12 nx
  exact codeAny_compStart_dict loop (T.self X.A 0 _ _ _ stF loop)
end
end Wg

namespace Wg
open PySem PySem.Spec PyProof.Rows L2 SlX
section
variable {K : KC} {ρ ρ' ρ1 ρ0 : Pl} {H H' H1 H0 : Hp} {h : Store} {X : Cx} {W : WQ}
/-! ### dict comprehensions over the layer: b tells that the keys are tuples -/
noncomputable def RDk (b : Bool) (K : KC) (ρ : Pl) (H : Hp) (D : Addr) (kvs : List (PV × PV)) : Prop := match b with
  | true => ∃ vs, H D = some (.dT vs) ∧ RVt K ρ H kvs vs
  | false => ∃ vs, H D = some (.dK vs) ∧ RVd K ρ H kvs vs
noncomputable def o0B (b : Bool) : HO := if b = true then .dT [] else .dK []
noncomputable def putB (b : Bool) (kvs : List (PV × PV)) (k v : PV) : List (PV × PV) := if b = true then putT kvs k v else putP kvs k v
noncomputable def keyB (b : Bool) (k : PV) : Bool := if b = true then (keyT k).isSome else (keyP k).isSome
theorem o0B_ok (b : Bool) : Dct0 (o0B b) := by
  cases b
  · exact .inl rfl
  · exact .inr rfl
theorem o0B_nt (b : Bool) : NT (o0B b) := by
  cases b
  · exact True.intro
  · exact True.intro
theorem RDk.new {b : Bool} {D : Addr} : RDk b K ρ (upd H D (o0B b)) D [] := by
  cases b
  · exact ⟨[], upd_same, rfl⟩
  · exact ⟨[], upd_same, rfl⟩
theorem RDk.kp {b : Bool} {D : Addr} {kvs : List (PV × PV)} (r : RDk b K ρ H D kvs) (k : Kp ρ H ρ' H') (e : ∀ o, H D = some o → H' D = some o) : RDk b K ρ' H' D kvs := by
  cases b
  · obtain ⟨vs, q, rs⟩ := r; exact ⟨vs, e _ q, RVd.kp k _ _ rs⟩
  · obtain ⟨vs, q, rs⟩ := r; exact ⟨vs, e _ q, RVt.kp k _ _ rs⟩
/-- one more is put in; D is hidden -/
theorem RDk.put {b : Bool} {D : Addr} {kvs : List (PV × PV)} {y z : PV} {yv zv : V} (m : D ∈ ρ.hid) (r : RDk b K ρ H D kvs) (ry : RV K ρ H y yv) (rz : RV K ρ H z zv) (ky : keyB b y = true) (hl : kvs.length < 1000000) :
    ∃ o, NT o ∧ DPut H D yv zv (upd H D o) ∧ RDk b K ρ (upd H D o) D (putB b kvs y z) := by
  cases b
  · obtain ⟨vs, q, rs⟩ := r
    obtain ⟨c, hc⟩ := Option.isSome_iff_exists.mp (show (keyP y).isSome = true from ky)
    have e := keyP_kV hc ry
    subst e
    have k := Kp.hid_upd (H := H) m (.dK (putK vs c zv))
    exact ⟨.dK (putK vs c zv), True.intro, .inl ⟨vs, c, q, rfl, by rw [← rs.len]; exact small_line hl, rfl⟩, _, upd_same, (RVd.kp k _ _ rs).put hc (RV.kp k _ _ rz)⟩
  · obtain ⟨vs, q, rs⟩ := r
    obtain ⟨c, hc⟩ := Option.isSome_iff_exists.mp (show (keyT y).isSome = true from ky)
    obtain ⟨a, e, ea⟩ := keyT_at hc ry
    subst e
    have k := Kp.hid_upd (H := H) m (.dT (putK vs c zv))
    exact ⟨.dT (putK vs c zv), True.intro, .inr ⟨vs, c, a, q, rfl, ea, by rw [← rs.len]; exact small_line hl, rfl⟩, _, upd_same, (RVt.kp k _ _ rs).put hc (RV.kp k _ _ rz)⟩
noncomputable def dcL (b : Bool) (g : MG) (t : M Bool) (k v : M PV) : List PV → List (PV × PV) → Lv → Store → R (List (PV × PV))
  | [], acc, _, h => .ok acc h
  | y :: ys, acc, l, h => (g y l h).noX.bind fun l1 h1 => (t l1 h1).noX.bind fun c h2 =>
    if c = true then (k l1 h2).noX.bind fun kk h3 => (v l1 h3).noX.bind fun z h4 => if keyB b kk = true ∧ acc.length < 1000000 then dcL b g t k v ys (putB b acc kk z) l h4 else .no
    else dcL b g t k v ys acc l h2
noncomputable def mkD (b : Bool) (kvs : List (PV × PV)) : PV := if b = true then .dcT kvs else .dct kvs
noncomputable def mDc (b : Bool) (src : M (List PV)) (own : List Nat) (g : MG) (t : M Bool) (k v : M PV) : M PV := fun l h => (src l h).bind fun ys h1 => (dcL b g t k v ys [] (wipeL l own) h1).bind fun kvs h2 => .ok (mkD b kvs) h2
theorem bindX {α β : Type} {r : R α} {k : α → Store → R β} {z : β} {h' : Store} (e : r.noX.bind k = .ok z h') : ∃ a h1, r = .ok a h1 ∧ k a h1 = .ok z h' := by
  cases r with
  | ok a h1 => exact ⟨a, h1, rfl, e⟩
  | exc _ _ => cases e
  | no => cases e
/-- what is known on the way: D is hidden and holds what was put in -/
structure DWay (b : Bool) (K : KC) (ρ1 : Pl) (H1 : Hp) (D : Addr) (kvs : List (PV × PV)) (ρ : Pl) (H : Hp) : Prop where
  ext : Ext ρ1 H1 ⟨ρ.c, ρ1.hid⟩ H
  kp : Kp ρ1 H1 ρ H
  hid : ρ.hid = D :: ρ1.hid
  out : D ∉ ρ.c
  at_ : RDk b K ρ H D kvs
theorem DWay.on {b : Bool} {D : Addr} {kvs : List (PV × PV)} (w : DWay b K ρ1 H1 D kvs ρ H) (e : Ext ρ H ρ' H') : DWay b K ρ1 H1 D kvs ρ' H' := by
  obtain ⟨more, em, fm⟩ := e.pre
  have hD : D ∈ ρ.hid := by rw [w.hid]; exact List.mem_cons_self
  refine ⟨w.ext.trans ⟨⟨more, em, fun p hp => ⟨fun z => (fm p hp).1 (z.elim .inl fun z => .inr (by rw [w.hid]; exact List.mem_cons_of_mem _ z)), (fm p hp).2⟩⟩, rfl, fun p o hp st q => e.old p o hp (st.imp (fun z => by rw [w.hid]; exact List.mem_cons_of_mem _ z) id) q, e.lok⟩,
    w.kp.trans e.kp, e.hid.trans w.hid, fun z => ?_, w.at_.kp e.kp fun o q => e.old D o w.out (.inl hD) q⟩
  rw [em] at z
  exact (List.mem_append.mp z).elim w.out fun z => (fm D z).1 (.inr hD)
theorem DWay.put {b : Bool} {D : Addr} {kvs : List (PV × PV)} {y z : PV} {yv zv : V} (w : DWay b K ρ1 H1 D kvs ρ H) (p : Rep K ρ h H) (nD : H1 D = none) (ry : RV K ρ H y yv) (rz : RV K ρ H z zv) (ky : keyB b y = true) (hl : kvs.length < 1000000) :
    ∃ H', DPut H D yv zv H' ∧ DWay b K ρ1 H1 D (putB b kvs y z) ρ H' ∧ Rep K ρ h H' := by
  have hD : D ∈ ρ.hid := by rw [w.hid]; exact List.mem_cons_self
  obtain ⟨o, nt, dp, r⟩ := w.at_.put hD ry rz ky hl
  exact ⟨upd H D o, dp, ⟨⟨w.ext.pre, w.ext.hid, fun q u hq st e => by rw [upd_ne (ne_of_none e nD)]; exact w.ext.old q u hq st e, fun q u hq e => by rw [upd_ne (ne_of_none e nD)]; exact w.ext.lok q u hq e⟩, w.kp.trans (Kp.hid_upd hD o), w.hid, w.out, r⟩, p.hid_upd hD w.out o nt⟩
theorem wipe_again (own : List Nat) : ∀ {σ σ4 : L2.St}, wipe σ4 own = wipe (wipe σ own) own → wipe σ4 own = wipe σ own := by
  intro σ σ4 e
  rw [e]
  have sub : ∀ vs ws : List Nat, (∀ v ∈ vs, v ∈ ws) → wipe (wipe σ ws) vs = wipe σ ws := by
    intro vs ws hs
    induction vs with
    | nil => rfl
    | cons v vs ih =>
      show (wipe (wipe σ ws) vs).set v none = wipe σ ws
      rw [ih fun u hu => hs u (List.mem_cons_of_mem _ hu)]
      have hm := hs v List.mem_cons_self
      clear ih hs
      induction ws with
      | nil => simp at hm
      | cons w ws ih2 =>
        show ((wipe σ ws).set w none).set v none = (wipe σ ws).set w none
        by_cases hz : v = w
        · subst hz; rw [List.set_set]
        · rw [List.set_comm _ _ (Ne.symm hz), ih2 ((List.mem_cons.mp hm).elim (fun z => absurd z hz) id)]
  exact sub own own fun _ h => h
theorem dc_turns {U : WQ} {b : Bool} {g : MG} {t : M Bool} {k v : M PV} {J : It} {ys : List PV} {own : List Nat} {σ : L2.St} {l : Lv} {D : Addr} {Q : Hp → Prop} (p1 : Rep K ρ1 h H1) (y1 : Yields K ρ1 H1 J ys) (rl : RL K ρ1 H1 l σ) (hcn : ∀ v ∈ own, curNe K.cur v = true) (hD : H1 D = none) {kvs' : List (PV × PV)} {h' : Store}
    (er : dcL b g t k v ys [] (wipeL l own) h = .ok kvs' h') (fin : ∀ ρ H, DWay b K ρ1 H1 D kvs' ρ H → Rep K ρ h' H → Q H) :
    ∃ Wd : Nat → Nat → Hp → Prop, (∃ m, Wd 0 m (upd H1 D (o0B b))) ∧ ∀ i m H, Wd i m H →
      (J.stop i H ∧ Q H) ∨ (J.go i H ∧ ∃ Nx : Hp → Prop, (∀ H', Nx H' → ∃ m', m' < m ∧ Wd (i + 1) m' H') ∧ ∀ x H', J.yld i H x H' → tGw K U own g x (wipe σ own) H' fun σ2 H2 => wipe σ2 own = wipe σ own ∧ tT K U t σ2 H2 fun c H3 =>
        if c = true then tM K U k σ2 H3 fun y H4 => tM K U v σ2 H4 fun z H5 => ∃ H6, DPut H5 D y z H6 ∧ Nx H6 else Nx H3) := by
  refine ⟨fun i m H => m = ys.length - i ∧ i ≤ ys.length ∧ ∃ ρ h acc, DWay b K ρ1 H1 D acc ρ H ∧ Rep K ρ h H ∧ dcL b g t k v (ys.drop i) acc (wipeL l own) h = .ok kvs' h', ⟨_, rfl, Nat.zero_le _, ρ1.hide D, h, [], ⟨Ext.upd_new hD _, Kp.hide hD _, rfl, fun z => p1.fresh hD (.inl z), .new⟩, p1.hide hD _ (o0B_nt b), er⟩, ?_⟩
  rintro i m H ⟨rfl, hi, ρ, h2, acc, w, p2, er2⟩
  by_cases lt : i < ys.length
  · rw [List.drop_eq_getElem_cons lt] at er2
    refine .inr ⟨y1.go i ρ h2 H w.kp p2 lt, fun H => ∃ ρ h acc, DWay b K ρ1 H1 D acc ρ H ∧ Rep K ρ h H ∧ dcL b g t k v (ys.drop (i + 1)) acc (wipeL l own) h = .ok kvs' h', fun H' z => ⟨ys.length - (i + 1), by omega, rfl, lt, z⟩, fun x H3 hy => ?_⟩
    obtain ⟨e3, p3, r3⟩ := y1.yld i ρ h2 H ys[i] x H3 w.kp p2 (by simp [lt]) hy
    have w3 := w.on e3
    obtain ⟨l4, h4, q4, er4⟩ := bindX (show (g ys[i] (wipeL l own) h2).noX.bind _ = _ from er2)
    refine ⟨ρ, h2, wipeL l own, ys[i], p3, (rl.kp w3.kp).wipes own hcn, r3, ?_⟩
    rw [q4]
    rintro ρ4 H4 σ4 e4 p4 ⟨rl4, wp4⟩
    refine ⟨wipe_again own wp4, ρ4, h4, l4, p4, rl4, ?_⟩
    have w4 := w3.on e4
    obtain ⟨c, h5, q5, er5⟩ := bindX er4
    rw [q5]
    rintro ρ5 H5 c' e5 p5 rc
    cases rc
    have w5 := w4.on e5
    cases c with
    | false => exact ⟨ρ5, h5, acc, w5, p5, er5⟩
    | true =>
      obtain ⟨kk, h6, q6, er6⟩ := bindX (show (k l4 h5).noX.bind _ = _ from er5)
      refine ⟨ρ5, h5, l4, p5, rl4.ext e5, ?_⟩
      rw [q6]
      rintro ρ6 H6 kv e6 p6 rk
      have w6 := w5.on e6
      obtain ⟨z, h7, q7, er7⟩ := bindX er6
      refine ⟨ρ6, h6, l4, p6, (rl4.ext e5).ext e6, ?_⟩
      rw [q7]
      rintro ρ7 H7 zv e7 p7 rz
      have w7 := w6.on e7
      have er8 : (if keyB b kk = true ∧ acc.length < 1000000 then dcL b g t k v (ys.drop (i + 1)) (putB b acc kk z) (wipeL l own) h7 else .no) = .ok kvs' h' := er7
      by_cases cc : keyB b kk = true ∧ acc.length < 1000000
      · rw [if_pos cc] at er8
        obtain ⟨H8, dp, w8, p8⟩ := w7.put p7 hD (RV.ext e7 rk) rz cc.1 cc.2
        exact ⟨H8, dp, ρ7, h7, _, w8, p8, er8⟩
      · rw [if_neg cc] at er8; cases er8
  · obtain rfl : i = ys.length := by omega
    rw [List.drop_length] at er2
    cases er2
    exact .inl ⟨y1.stop _ ρ _ H w.kp p2 (Nat.le_refl _), fin ρ H w p2⟩
theorem dcL_noX {b : Bool} {g : MG} {t : M Bool} {k v : M PV} : ∀ (ys : List PV) (acc : List (PV × PV)) (l : Lv) (h : Store) {e : Ex} {hx : Store}, dcL b g t k v ys acc l h ≠ .exc e hx
  | [], _, _, _, _, _ => fun z => by cases z
  | y :: ys, acc, l, h, ex, hx => fun z => by
    have z : (g y l h).noX.bind (fun l1 h1 => (t l1 h1).noX.bind fun c h2 => if c = true then (k l1 h2).noX.bind fun kk h3 => (v l1 h3).noX.bind fun z h4 => if keyB b kk = true ∧ acc.length < 1000000 then dcL b g t k v ys (putB b acc kk z) l h4 else .no else dcL b g t k v ys acc l h2) = .exc ex hx := z
    have go : ∀ {α : Type} {r : R α} {f : α → Store → R (List (PV × PV))}, r.noX.bind f = .exc ex hx → ∃ a h1, r = .ok a h1 ∧ f a h1 = .exc ex hx := fun {α r f} e => by
      cases r with
      | ok a h1 => exact ⟨a, h1, rfl, e⟩
      | exc _ _ => cases e
      | no => cases e
    obtain ⟨l1, h1, _, z⟩ := go z
    obtain ⟨c, h2, _, z⟩ := go z
    cases c with
    | false => exact dcL_noX ys acc l h2 z
    | true =>
      obtain ⟨kk, h3, _, z⟩ := go z
      obtain ⟨w, h4, _, z⟩ := go z
      split at z
      · exact dcL_noX ys _ l h4 z
      · cases z
theorem dc_out {U : WQ} {b : Bool} {g : MG} {t : M Bool} {k v : M PV} {src : M (List PV)} {own : List Nat} {σ : L2.St} {Q : VK} {mk : List (PV × PV) → Store → R PV} (hcn : ∀ v ∈ own, curNe K.cur v = true)
    (hmk : ∀ ρ ρ1 H H1 (D : Addr) kvs h, DWay b K ρ1 H1 D kvs ρ H → Rep K ρ h H → H1 D = none → ¬ ρ1.has D → Out K ρ1 H1 (RV K) (fun c d H' => W c d σ H') (mk kvs h) Q → Q (.ref D) H)
    (q : tM K W (fun l h => (src l h).bind fun ys h1 => (dcL b g t k v ys [] (wipeL l own) h1).bind mk) σ H Q) : tDg (o0B b) (tI K W src) (tGw K U own g) (tT K U t) (tM K U k) (tM K U v) own σ H Q := by
  obtain ⟨ρ, h, l, p, rl, o⟩ := q
  refine ⟨ρ, h, l, p, rl, Out.mono (Out.bind o) fun J H1 ⟨ys, h1, ρ1, e1, p1, y1, o1⟩ => fun D hD => ?_⟩
  cases q : dcL b g t k v ys [] (wipeL l own) h1 with
  | no => rw [q] at o1; exact o1.elim
  | exc ex hx => exact (dcL_noX _ _ _ _ q).elim
  | ok kvs' h' =>
    rw [q] at o1
    exact dc_turns (Q := fun H => Q (.ref D) H) p1 y1 (rl.ext e1) hcn hD q fun ρ H w p => hmk ρ ρ1 H H1 D kvs' h' w p hD (p1.fresh hD) o1
theorem dc_mkD {b : Bool} : ∀ ρ ρ1 H H1 (D : Addr) kvs h {σ : L2.St} {Q : VK}, DWay b K ρ1 H1 D kvs ρ H → Rep K ρ h H → H1 D = none → ¬ ρ1.has D → Out K ρ1 H1 (RV K) (fun c d H' => W c d σ H') (.ok (mkD b kvs) h) Q → Q (.ref D) H := by
  intro ρ ρ1 H H1 D kvs h σ Q w p nD na o
  obtain ⟨c, hid⟩ := ρ
  obtain ⟨x, kp, hh, out, r⟩ := w
  cases hh
  have nh : ¬ (⟨c, ρ1.hid⟩ : Pl).has D := fun z => z.elim out fun z => na (.inr z)
  refine o ⟨c, ρ1.hid⟩ H (.ref D) x p.out ?_
  cases b
  · obtain ⟨vs, q, rs⟩ := r; exact ⟨D, vs, rfl, ⟨nh, .inl q⟩, RVd.kp Kp.out _ _ rs⟩
  · obtain ⟨vs, q, rs⟩ := r; exact ⟨D, vs, rfl, ⟨nh, .inl q⟩, RVt.kp Kp.out _ _ rs⟩
variable {kx vx tg iter : Expr} {ifs : List Expr} {scope : Scope} {own : List (Str × Nat)} {pos : Pos} {src : M (List PV)} {g : MG} {t : M Bool} {mk mv : M PV} {kr : Nat}
theorem xe_dc (b : Bool) (hr : Room kr X.A) (hc : X.calm = true) (hN : X.N.Nodup) (hi : XI X W tg iter src) (ok : BlkOk X.N X.env.scope scope own)
    (hg : ∀ (s : Shared) (H : Hp) (C : Addr) (cl : List (Str × Addr)) (fp : List Addr), XGw (X.blk s H scope (compEnvC scope cl C X.env) fp) (WF W) (own.map (·.2)) tg g)
    (ht : ∀ (s : Shared) (H : Hp) (C : Addr) (cl : List (Str × Addr)) (fp : List Addr), XTs (X.blk s H scope (compEnvC scope cl C X.env) fp) (WF W) ifs t)
    (hk : ∀ (s : Shared) (H : Hp) (C : Addr) (cl : List (Str × Addr)) (fp : List Addr), XE (X.blk s H scope (compEnvC scope cl C X.env) fp) (WF W) kx mk)
    (hv : ∀ (s : Shared) (H : Hp) (C : Addr) (cl : List (Str × Addr)) (fp : List Addr), XE (X.blk s H scope (compEnvC scope cl C X.env) fp) (WF W) vx mv) (hs : ∀ x, foldedSetIterable iter X.env x = pure x := by intro _; rfl) (hcn : ∀ v ∈ own.map (·.2), curNe W.cur v = true := by first | exact fun _ _ => rfl | simp [curNe]) :
    XE X W (.DictComp kx vx [⟨tg, iter, ifs, 0⟩] scope pos) (mDc b src (own.map (·.2)) g t mk mv) :=
  pe_weak (dg_eval (o0B_ok b) hr.units0 hc hN hi ok hg ht hk hv hs) fun σ H Q q => dc_out hcn (fun ρ ρ1 H H1 D kvs h => dc_mkD ρ ρ1 H H1 D kvs h) q
end
end Wg

namespace Wg
open PySem PySem.Spec PyProof.Rows L2 SlX
/-! ### the keys of a dict: walked, listed, spread -/
noncomputable def dctAny (h : Store) : PV → Option (Bool × List (PV × PV))
  | .dct kvs => some (false, kvs)
  | .dcT kvs => some (true, kvs)
  | .ref i => match h[i]? with
    | some (.dct kvs) => some (false, kvs)
    | some (.dcT kvs) => some (true, kvs)
    | _ => none
  | _ => none
noncomputable def RDr (b : Bool) (K : KC) (ρ : Pl) (H : Hp) (a : Addr) (kvs : List (PV × PV)) : Prop := match b with
  | true => ∃ vs, Rd H a (.dT vs) ∧ RVt K ρ H kvs vs
  | false => ∃ vs, Rd H a (.dK vs) ∧ RVd K ρ H kvs vs
/-- these are the keys of the dict at a -/
noncomputable def KeysV (H : Hp) (a : Addr) (vs : List V) : Prop := (∃ kvs, Rd H a (.dK kvs) ∧ vs = kvs.map fun c => kV c.1) ∨ ∃ kvs qs, Rd H a (.dT kvs) ∧ vs = qs.map V.ref ∧ Paired (fun (c : List Key × V) q => H q = some (.tup (c.1.map kV))) kvs qs
noncomputable def IsD (H : Hp) (a : Addr) : Prop := (∃ kvs, Rd H a (.dK kvs)) ∨ ∃ kvs, Rd H a (.dT kvs)
theorem Rd.same {H : Hp} {a : Addr} {u v : HO} (x : Rd H a u) (y : Rd H a v) (nu : ∀ o w, u ≠ .frz o w) (nv : ∀ o w, v ≠ .frz o w) : u = v := by
  rcases x with x | ⟨o, x⟩ <;> rcases y with y | ⟨o', y⟩ <;> rw [x] at y <;> cases y
  · rfl
  · exact absurd rfl (nu _ _)
  · exact absurd rfl (nv _ _)
  · rfl
section
variable {X : Cx} {W : WQ} {K : KC} {ρ : Pl} {H : Hp} {h : Store} {pos : Pos} {e : Expr} {es : List Expr} {m : M PV} {ms : M (List PV)} {p0 : Pos} {pins : List (Addr × Obj)} {σ : L2.St} {s : Shared}
theorem dctAny_at (p : Rep K ρ h H) {x : PV} {v : V} {b : Bool} {kvs : List (PV × PV)} (r : RV K ρ H x v) (q : dctAny h x = some (b, kvs)) : ∃ a, v = .ref a ∧ RDr b K ρ H a kvs := by
  cases x with
  | dct ks => cases q; obtain ⟨a, vs, e1, t, rs⟩ := r; exact ⟨a, e1, vs, t.2, rs⟩
  | dcT ks => cases q; obtain ⟨a, vs, e1, t, rs⟩ := r; exact ⟨a, e1, vs, t.2, rs⟩
  | ref i =>
    simp only [dctAny] at q
    obtain ⟨a, ha, e1⟩ := r
    split at q
    next ks eq => cases q; obtain ⟨vs, q1, rs⟩ := p.at_ i _ a eq ha; exact ⟨a, e1, vs, .inl q1, rs⟩
    next ks eq => cases q; obtain ⟨vs, q1, rs⟩ := p.at_ i _ a eq ha; exact ⟨a, e1, vs, .inl q1, rs⟩
    next => cases q
  | _ => cases q
theorem RDr.isD {b : Bool} {a : Addr} {kvs : List (PV × PV)} (r : RDr b K ρ H a kvs) : IsD H a := by
  cases b
  · obtain ⟨vs, q, _⟩ := r; exact .inl ⟨vs, q⟩
  · obtain ⟨vs, q, _⟩ := r; exact .inr ⟨vs, q⟩
theorem keys_back {kvs : List (PV × PV)} : ∀ {vs : List (List Key × V)} {qs : List Addr}, (∀ q vs, H q = some (.tup vs) → ¬ ρ.has q) → RVt K ρ H kvs vs → Paired (fun (c : List Key × V) q => H q = some (.tup (c.1.map kV))) vs qs → RVs K ρ H (kvs.map (·.1)) (qs.map V.ref) := by
  induction kvs with
  | nil => intro vs qs _ r g; rw [show vs = [] from r] at g; cases g; rfl
  | cons kv kvs ih =>
    intro vs qs nt r g
    obtain ⟨k, x⟩ := kv
    obtain ⟨c, v, r', e1, e2, _, h2⟩ := r
    subst e1
    cases g with
    | cons g1 g2 => exact ⟨_, _, rfl, keyT_back e2 (nt _ _ g1) g1, ih nt h2 g2⟩
theorem rdr_keys {b : Bool} {a : Addr} {kvs : List (PV × PV)} {ws : List V} (p : Rep K ρ h H) (r : RDr b K ρ H a kvs) (k : KeysV H a ws) : RVs K ρ H (kvs.map (·.1)) ws := by
  cases b
  · obtain ⟨vs, q, rs⟩ := r
    rcases k with ⟨us, q2, e⟩ | ⟨us, qs, q2, _⟩
    · have := Rd.same q q2 (fun _ _ z => nomatch z) (fun _ _ z => nomatch z)
      cases this
      rw [e]
      exact rs.keysV
    · have := Rd.same q q2 (fun _ _ z => nomatch z) (fun _ _ z => nomatch z)
      cases this
  · obtain ⟨vs, q, rs⟩ := r
    rcases k with ⟨us, q2, e⟩ | ⟨us, qs, q2, e, g⟩
    · have := Rd.same q q2 (fun _ _ z => nomatch z) (fun _ _ z => nomatch z)
      cases this
    · have := Rd.same q q2 (fun _ _ z => nomatch z) (fun _ _ z => nomatch z)
      cases this
      rw [e]
      exact keys_back (fun _ _ z => p.no_tup z) rs g
/-- the keys as they stand in the heap -/
theorem keysV_of {a : Addr} (I : Inv X pins σ H s) (d : IsD H a) : ∃ vs es ep, KeysV H a vs ∧ s.heap.DictRaw a es ep ∧ (a == sysModules) = false ∧ Vals vs (es.toList.map (·.key)) ∧ es.size ≤ sizeLine ∧ vs.length = es.size := by
  rcases d with ⟨kvs, hd⟩ | ⟨kvs, hd⟩
  · obtain ⟨hz, hs, vs, rel, o, es, ep, g1, g2, g3, g4, g5, g6⟩ := dk_rd I.hok hd
    have pv := pairs_vals g5
    rw [← kv_keys rel] at pv
    have hl : es.size = kvs.length := by have := g5.length; rw [← rel.length] at this; simpa using this
    exact ⟨_, es, ep, .inl ⟨kvs, hd, rfl⟩, ⟨o, g1, g2, g3⟩, hs, pv, by rw [hl]; exact hz, by rw [List.length_map, hl]⟩
  · obtain ⟨hz, hs, xs, rel, o, es, ep, g1, g2, g3, g4, g5, g6⟩ := dt_rd I.hok hd
    have hl : es.size = kvs.length := by rw [size_of_entries g4, ← Paired.length rel]
    have go : ∀ {ks : List (List Key × V)} {ys : List (List Key × Addr × Value)}, KT H ks ys → Paired (fun (c : List Key × V) q => H q = some (.tup (c.1.map kV))) ks (ys.map (·.2.1)) ∧ Vals ((ys.map (·.2.1)).map V.ref) ((ys.map (entryOfKey (tupleKind (mixKind X.prog X.w)))).map (·.key)) := by
      intro ks ys q
      induction q with
      | nil => exact ⟨.nil, .nil⟩
      | @cons c y cs ys g t ih => exact ⟨.cons g.2.1 ih.1, .cons rfl ih.2⟩
    obtain ⟨a1, a2⟩ := go rel
    refine ⟨_, es, ep, .inr ⟨kvs, _, hd, rfl, a1⟩, ⟨o, g1, g2, g3⟩, hs, by rw [g4]; exact a2, by rw [hl]; exact hz, ?_⟩
    rw [List.length_map, List.length_map, ← Paired.length rel, hl]
/-- the items gathered are the keys -/
theorem items_keys {es : Array DictEntry} {acc : Array Value} (g : ItemsOf (fun i v => ∃ hi : i < es.size, v = es[i].key) acc es.size) : acc.toList = es.toList.map (·.key) := by
  obtain ⟨g1, g2⟩ := g
  refine List.ext_getElem? fun i => ?_
  rw [List.getElem?_map, Array.getElem?_toList, Array.getElem?_toList]
  by_cases hi : i < es.size
  · have hi' : i < acc.size := by rw [g1]; exact hi
    obtain ⟨hj, e⟩ := g2 i acc[i] (by simp [hi'])
    rw [Array.getElem?_eq_getElem hi', Array.getElem?_eq_getElem hi, e]
    rfl
  · have hi' : ¬ i < acc.size := by rw [g1]; exact hi
    rw [Array.getElem?_eq_none (by omega), Array.getElem?_eq_none (by omega)]
    rfl
/-- list(d) -/
noncomputable def rListD : List V → Hp → VK → Prop := fun xs H Q => ∃ a, xs = [.ref a] ∧ IsD H a ∧ ∀ ws p, KeysV H a ws → H p = none → Q (.ref p) (upd H p (.lst ws))
theorem cr_listD (hc : X.calm = true) : CallR X (.type "list") rListD := by
  intro pins s σ H xs us Q I rv hh
  obtain ⟨a, rfl, d, q⟩ := hh
  obtain ⟨u, rfl, r1⟩ := vals1 rv
  obtain rfl : u = Value.ref a := r1
  obtain ⟨vs, es, ep, kv, raw, lo, val, hz, hl⟩ := keysV_of I d
  refine PySem.W.kdl_call (KdlSrc.rawDict lo) (I.ok.hd hc) raw hz fun h' tk acc' c' kp e it => ?_
  have ek := items_keys it
  refine ⟨.ref s.heap.objs.size, _, I.laid (t' := tk) kp (Nat.le_refl _) (show ObjOk X.prog X.w _ h' _ (.lst vs) from ⟨by rw [hl]; exact hz, acc'.toList, c', by rw [ek]; exact val, by rw [Array.toArray_toList]; exact e⟩), rfl, q vs _ kv (I.hok.fresh (Nat.le_refl _))⟩
noncomputable def fListB (xs : List PV) (h : Store) : R PV := match xs with
  | [x] => match dctAny h x with
    | some (_, kvs) => .ok (.lst (kvs.map (·.1))) h
    | none => fList [x] h
  | _ => .no
theorem cx_listB : CallX X W fListB (fun xs H Q => rListA X.K xs H Q ∨ rListD xs H Q) := by
  intro ρ h σ H xs vs Q p r o
  unfold fListB at o
  split at o
  next x =>
    split at o
    next b kvs q =>
      obtain ⟨v, e, r1⟩ := rvs1 r
      obtain ⟨a, e2, rd⟩ := dctAny_at p r1 q
      refine .inr ⟨a, by rw [e, e2], RDr.isD (b := b) rd, fun ws c hk hb => ?_⟩
      obtain ⟨x', p', r'⟩ := new_lst p hb (rdr_keys (b := b) p rd hk)
      exact o ρ _ _ x' p' r'
    next => exact .inl (cx_list ρ h σ H _ vs Q p r o)
  next => exact o.elim
theorem xe_listB (hc : X.calm = true) (hm : X.mg "list" = none) (ha : XA X W (e :: es) ms) (hg : Gl X "list" := by rfl) (he : starEach (e :: es) X.env = (false, eval e X.env) :: starEach es X.env := by rfl) (hpl : (backTo pos (starEach es X.env)).any (·.1) = false := by rfl) :
    XE X W (.Call (.Name "list" p0) (e :: es) [] pos) (mCall fListB ms) := xe_callTy (call_list_of.or (cr_listD hc)) cx_listB hm PyProof.Rows.boot_list ha hg (by decide) (by decide) he hpl
/-! walking a frozen dict of tuple keys -/
noncomputable def mItDT (m : M PV) : M (List PV) := fun l h => (m l h).bind fun x h1 => match x with
  | .dcT kvs => .ok (kvs.map (·.1)) h1
  | _ => .no
theorem xi_keysT {tg : Expr} (he : XE X W e m) : XI X W tg e (mItDT m) := pi_weak (pi_keysL he) fun σ H R ⟨ρ, h, l, p, rl, o⟩ =>
  ⟨ρ, h, l, p, rl, Out.mono (Out.bind o) fun v H1 ⟨x, h1, ρ1, e1, p1, r1, o1⟩ => by
    cases x with
    | dcT kvs =>
      obtain ⟨d, vs, e2, t, rs⟩ := r1
      refine ⟨d, e2, .inr ⟨vs, t.2, fun ob H' lk => ?_⟩⟩
      obtain ⟨x2, p2, hf⟩ := lk.ext p1 (show IsDct (.dT vs) from trivial) t.1
      have nd : ¬ ρ1.has d := t.1
      have at_ : ∀ ρ' H2, Kp ρ1 H' ρ' H2 → H2 d = some (.frz ob (.dT vs)) := fun ρ' H2 a => (a.at_ (o := .frz ob (.dT vs)) trivial nd hf).2
      have ln : kvs.length = vs.length := rs.len
      refine o1 ρ1 H' _ x2 p2 ⟨fun i ρ' h' H2 a _ hi => ⟨at_ _ _ a, by rw [← ln]; simpa using hi⟩, fun i ρ' h' H2 a _ hi => ⟨at_ _ _ a, by rw [← ln]; simpa using hi⟩, fun i ρ' h' H2 y x H3 a p' ey yl => ?_⟩
      obtain ⟨e3, k, v, q, hk, ex, hq⟩ := yl
      subst e3
      rw [List.getElem?_map] at ey
      cases q2 : kvs[i]? with
      | none => rw [q2] at ey; cases ey
      | some kv =>
        rw [q2] at ey
        cases ey
        obtain ⟨k', x', c, v', g1, g2, g3, _⟩ := RVt.get rs (List.getElem?_eq_some_iff.mp q2).1
        rw [q2] at g1; cases g1
        rw [hk] at g2; cases g2
        rw [ex]
        exact ⟨Ext.refl _ _, p', keyT_back g3 (p'.no_tup hq) hq⟩
    | _ => exact o1.elim⟩
end
end Wg

namespace Wg
open PySem PySem.Spec PyProof.Rows L2 SlX
/-! ### *e in a display -/
section
variable {X : Cx} {W : WQ} {K : KC} {ρ : Pl} {H : Hp} {h : Store} {p : Pos} {e : Expr} {es : List Expr} {m : M PV} {ms : M (List PV)} {pins : List (Addr × Obj)} {σ : L2.St} {s : Shared} {te : TE} {t : TA}
theorem star_dct {a : Addr} {E : Value → Shared → Prop} {Q : List Value → Shared → Prop} (hc : X.calm = true) (I : Inv X pins σ H s) (d : IsD H a) (hQ : ∀ ws us s', KeysV H a ws → Inv X pins σ H s' → Vals ws us → Q us s') : PySem.W.StarOf (model X.prog X.w) X.A E (.ref a) Q s := by
  obtain ⟨vs, en, ep, kv, raw, lo, val, hz, hl⟩ := keysV_of I d
  have z : wpAny (model X.prog X.w) X.A (collect (.ref a)) Q E s := by
    refine PySem.W.kdu_collect (KdlSrc.rawDict lo) (I.ok.hd hc) raw hz fun h' tk acc kp it => ?_
    rw [items_keys it]
    exact hQ vs _ _ kv (I.kept (t' := tk) kp) val
  unfold PySem.W.StarOf notIterableAtAll
  exact wpAny_bind (wpAny_specialOf raw.typeIs PySem.F.slot_dict_iter.lookup (wpAny_pure ⟨rfl, z⟩))
noncomputable def tStarB (K : PySem.W.Frag) (te : TE) (t : TA) : TA := fun σ H Q => te σ H fun x H1 => ∃ a, x = V.ref a ∧ ((∃ xs, (SqT K H1 a xs ∨ SqL K H1 a xs) ∧ t σ H1 fun ys H2 => Q (xs ++ ys) H2) ∨ (IsD H1 a ∧ ∀ ws, KeysV H1 a ws → t σ H1 fun ys H2 => Q (ws ++ ys) H2))
theorem pa_starB (hc : X.calm = true) (he : PE X e te) (hr : PA X es t) (hs : starEach (.Starred e p :: es) X.env = (true, eval e X.env) :: starEach es X.env := by rfl) : PA X (.Starred e p :: es) (tStarB X.K te t) := by
  refine ⟨fun pos pins s σ H Q I h => PySem.W.items_star (thn (he.run pins s σ H _ I h) fun v s1 ⟨y, H1, I1, ry, a, ey, q⟩ => ?_) hs⟩
  subst ey
  cases (show v = Value.ref a from ry)
  rcases q with ⟨xs, hx, q⟩ | ⟨hd, q⟩
  · exact StX.star_any I1 hx fun us s2 I2 rv => thn (hr.run pos pins s2 σ H1 _ I2 q) fun ws s3 ⟨vs, H3, I3, r3, q3⟩ => ⟨xs ++ vs, H3, I3, rv.append r3, q3⟩
  · exact star_dct hc I1 hd fun ks us s2 kk I2 rv => thn (hr.run pos pins s2 σ H1 _ I2 (q ks kk)) fun ws s3 ⟨vs, H3, I3, r3, q3⟩ => ⟨ks ++ vs, H3, I3, rv.append r3, q3⟩
noncomputable def itemsOf (h : Store) (x : PV) : Option (List PV) := match dctAny h x with
  | some (_, kvs) => some (kvs.map (·.1))
  | none => seqRd h x
noncomputable def mStar (m : M PV) (ms : M (List PV)) : M (List PV) := fun l h => (m l h).bind fun x h1 => match itemsOf h1 x with
  | some xs => (ms l h1).bind fun ys h2 => .ok (xs ++ ys) h2
  | none => .no
theorem xa_star (hc : X.calm = true) (he : XE X W e m) (hr : XA X W es ms) (hs : starEach (.Starred e p :: es) X.env = (true, eval e X.env) :: starEach es X.env := by rfl) : XA X W (.Starred e p :: es) (mStar m ms) :=
  pa_weak (pa_starB hc he hr hs) fun σ H Q ⟨ρ, h, l, p, rl, o⟩ => ⟨ρ, h, l, p, rl, Out.mono (Out.bind o) fun v H1 ⟨x, h1, ρ1, e1, p1, r1, o1⟩ => by
    have on : ∀ {xs : List PV} {ws : List V}, itemsOf h1 x = some xs → RVs _ ρ1 H1 xs ws → tA (kc X W) W ms σ H1 fun ys H2 => Q (ws ++ ys) H2 := fun {xs ws} q rs => by
      rw [q] at o1
      exact ⟨ρ1, h1, l, p1, rl.ext e1, Out.mono (Out.bind o1) fun us H2 ⟨ys, h2, ρ2, e2, p2, r2, o2⟩ => o2.ok p2 ((RVs.ext e2 _ _ rs).app r2)⟩
    cases q : dctAny h1 x with
    | some bk =>
      obtain ⟨b, kvs⟩ := bk
      obtain ⟨a, ev, rd⟩ := dctAny_at p1 r1 q
      exact ⟨a, ev, .inr ⟨RDr.isD (b := b) rd, fun ws kk => on (xs := kvs.map (·.1)) (by unfold itemsOf; rw [q]) (rdr_keys (b := b) p1 rd kk)⟩⟩
    | none =>
      cases q2 : seqRd h1 x with
      | none =>
        have : itemsOf h1 x = none := by unfold itemsOf; rw [q]; exact q2
        rw [this] at o1
        exact o1.elim
      | some xs =>
        obtain ⟨a, vs, ev, t, rs⟩ := seqRd_at p1 r1 q2
        exact ⟨a, ev, .inl ⟨vs, t.symm, on (xs := xs) (by unfold itemsOf; rw [q]; exact q2) rs⟩⟩⟩
end
end Wg

namespace Wg
open PySem PySem.Spec PyProof.Rows L2 SlX
/-! ### min and max of two texts -/
section
variable {prog : Program} {w : World} {A : Around} {E : Value → Shared → Prop} {s : Shared}
/-- which of two -/
noncomputable def pickI (x y : Str) (t u : Tok) (i : Nat) (v : Value) : Prop := (i = 0 ∧ v = .str x t) ∨ (i = 1 ∧ v = .str y u)
noncomputable def txI (x y : Str) (i : Nat) : List Nat := if i = 0 then x.cps.toList else y.cps.toList
theorem pick_cmp {op : CmpOp} {f : List Nat → List Nat → Bool} {x y : Str} {t u : Tok} (h : ∀ (a b : Str) (ta tb : Tok) (s : Shared) (Q : Value → Shared → Prop) (E : Value → Shared → Prop), Q (.bool (f a.cps.toList b.cps.toList)) s → wpAny (model prog w) A (richCompare op (.str a ta) (.str b tb)) Q E s) :
    CmpOf prog w A op (pickI x y t u) fun i j => f (txI x y i) (txI x y j) := by
  intro i j vi vj s Q E hi hj q
  rcases hi with ⟨rfl, rfl⟩ | ⟨rfl, rfl⟩ <;> rcases hj with ⟨rfl, rfl⟩ | ⟨rfl, rfl⟩ <;> exact h _ _ _ _ s Q E q
theorem two_walk {x y : Str} {t u : Tok} {bt : Nat → Nat → Bool} {op : CmpOp} {Q : Value → Shared → Prop} (hh : A.handled = none) (cmp : CmpOf prog w A.in1 op (pickI x y t u) bt)
    (h : ∀ h' tk, (∀ c o, s.heap.get? c = some o → h'.get? c = some o) → Q (if bt 1 0 = true then .str y u else .str x t) { s with heap := h', toks := tk }) :
    wpAny (model prog w) A.in1 (pyIter (.ref s.heap.objs.size)) (fun it s₂ => ∃ I fp wr n P St bt, it = .ref I ∧ Walks prog w A.in1 I fp wr n P St ∧ St 0 s₂.heap ∧ (∀ b ∈ fp, b < s₂.heap.objs.size) ∧ 0 < n ∧ CmpOf prog w A.in1 op P bt ∧
      ∀ v h' tk, P (argBest bt (n - 1)) v → (∀ b o, b ∉ wr → s₂.heap.get? b = some o → h'.get? b = some o) → Q v { s₂ with heap := h', toks := tk }) E { s with heap := s.heap.push { cls := .type "tuple", data := .seq #[.str x t, .str y u] } } := by
  have sz : (s.heap.push { cls := .type "tuple", data := .seq #[.str x t, .str y u] }).objs.size = s.heap.objs.size + 1 := Heap.size_push ..
  have T : (s.heap.push { cls := .type "tuple", data := .seq #[.str x t, .str y u] }).IsTuple s.heap.objs.size #[.str x t, .str y u] := ⟨_, Heap.get?_push_size _ rfl, rfl, 0, rfl⟩
  refine wpAny_pyIter_tuple T ?_
  have wk := Walks.tuple (prog := prog) (w := w) (A := A.in1) hh (s.heap.push { cls := .type "tuple", data := .seq #[.str x t, .str y u] }).objs.size s.heap.objs.size (by rw [sz]; exact Nat.ne_of_lt (Nat.lt_succ_self _)) #[.str x t, .str y u]
  have to : ∀ i v, (#[Value.str x t, .str y u])[i]? = some v → pickI x y t u i v := fun i v e => by
    match i, e with
    | 0, e => cases e; exact .inl ⟨rfl, rfl⟩
    | 1, e => cases e; exact .inr ⟨rfl, rfl⟩
    | i + 2, e => simp at e
  refine ⟨_, [_, s.heap.objs.size], [_], _, _, _, bt, rfl, wk, ⟨⟨_, Heap.get?_push_size _ rfl, rfl, rfl⟩, T.push _⟩, fun c hc => ?_, Nat.succ_pos _, fun i j vi vj s Q E hi hj q => cmp i j vi vj s Q E (to _ _ hi) (to _ _ hj) q, fun v h' tk hP hk => ?_⟩
  · show c < ((s.heap.push _).push _).objs.size
    rw [Heap.size_push, sz]
    simp only [List.mem_cons, List.not_mem_nil, or_false] at hc
    rcases hc with rfl | rfl
    · rw [sz]; exact Nat.lt_succ_self _
    · exact Nat.lt_succ_of_lt (Nat.lt_succ_self _)
  · have old : ∀ c o, s.heap.get? c = some o → h'.get? c = some o := fun c o e => by
      refine hk c o (fun hm => ?_) (Heap.get?_push_of_some _ (Heap.get?_push_of_some _ e))
      have lt := Heap.lt_size e
      simp only [List.mem_cons, List.not_mem_nil, or_false] at hm
      rw [hm, sz] at lt
      exact Nat.lt_irrefl _ (Nat.lt_of_succ_lt lt)
    have ev : v = if bt 1 0 = true then .str y u else .str x t := by
      have hP : (#[Value.str x t, .str y u])[argBest bt 1]? = some v := hP
      have e : argBest bt 1 = if bt 1 0 = true then 1 else 0 := rfl
      rw [e] at hP
      by_cases c : bt 1 0 = true
      · rw [if_pos c] at hP ⊢; cases hP; rfl
      · rw [if_neg c] at hP ⊢; cases hP; rfl
    rw [ev]
    exact h h' tk old
end
section
variable {X : Cx} {W : WQ} {K : KC} {ρ : Pl} {H : Hp} {h : Store} {pos : Pos} {e : Expr} {es : List Expr} {ms : M (List PV)} {p0 : Pos}
noncomputable def rMinS : List V → Hp → VK → Prop := fun vs H Q => ∃ x y : Str, vs = [.str x, .str y] ∧ Q (.str (if decide (y.cps.toList < x.cps.toList) = true then y else x)) H
noncomputable def rMaxS : List V → Hp → VK → Prop := fun vs H Q => ∃ x y : Str, vs = [.str x, .str y] ∧ Q (.str (if decide (x.cps.toList < y.cps.toList) = true then y else x)) H
theorem rcLt_s (A : Around) (s : Shared) (x : Str) (t : Tok) (y : Str) (u : Tok) (prog : Program) (w : World) (E : Value → Shared → Prop) (Q : Value → Shared → Prop) (h : Q (.bool (decide (x.cps.toList < y.cps.toList))) s) : wpAny (model prog w) A (richCompare .Lt (.str x t) (.str y u)) Q E s :=
  (PyProof.Rows.lt_str h : wpAny (model prog w) A (compareOp .Lt (.str x t) (.str y u)) Q E s)
theorem cr_minS (hc : X.calm = true) : CallR X (.builtin "min") rMinS := by
  intro pins s σ H xs us Q I rv hh
  obtain ⟨x, y, rfl, q⟩ := hh
  obtain ⟨u, v, rfl, ⟨t, rfl⟩, ⟨t', rfl⟩⟩ := vals2 rv
  refine call_min_two (two_walk (I.ok.hd hc) (pick_cmp (f := fun a b => decide (a < b)) fun a b ta tb s Q E q => rcLt_s _ s a ta b tb _ _ E Q q) fun h' tk kp => ⟨_, H, I.kept (t' := tk) kp, ?_, q⟩)
  show RelV (.str _) (if decide (y.cps.toList < x.cps.toList) = true then Value.str y t' else .str x t)
  split
  · exact ⟨_, rfl⟩
  · exact ⟨_, rfl⟩
theorem rcGt_s (A : Around) (s : Shared) (x : Str) (t : Tok) (y : Str) (u : Tok) (prog : Program) (w : World) (E : Value → Shared → Prop) (Q : Value → Shared → Prop) (h : Q (.bool (decide (y.cps.toList < x.cps.toList))) s) : wpAny (model prog w) A (richCompare .Gt (.str x t) (.str y u)) Q E s :=
  (PySem.P.gt_str h : wpAny (model prog w) A (compareOp .Gt (.str x t) (.str y u)) Q E s)
theorem cr_maxS (hc : X.calm = true) : CallR X (.builtin "max") rMaxS := by
  intro pins s σ H xs us Q I rv hh
  obtain ⟨x, y, rfl, q⟩ := hh
  obtain ⟨u, v, rfl, ⟨t, rfl⟩, ⟨t', rfl⟩⟩ := vals2 rv
  refine call_max_two (two_walk (I.ok.hd hc) (pick_cmp (f := fun a b => decide (b < a)) fun a b ta tb s Q E q => rcGt_s _ s a ta b tb _ _ E Q q) fun h' tk kp => ⟨_, H, I.kept (t' := tk) kp, ?_, q⟩)
  show RelV (.str _) (if decide (x.cps.toList < y.cps.toList) = true then Value.str y t' else .str x t)
  split
  · exact ⟨_, rfl⟩
  · exact ⟨_, rfl⟩
noncomputable def fMinB (xs : List PV) (h : Store) : R PV := match xs with
  | [.str x, .str y] => .ok (.str (if y < x then y else x)) h
  | _ => fMin2 xs h
noncomputable def fMaxB (xs : List PV) (h : Store) : R PV := match xs with
  | [.str x, .str y] => .ok (.str (if x < y then y else x)) h
  | _ => fMax2 xs h
theorem strV_if {c : Prop} [Decidable c] {x y : List Nat} : V.str (if decide c = true then (⟨y.toArray⟩ : Str) else ⟨x.toArray⟩) = strV (if c then y else x) := by
  by_cases h : c <;> simp [h, strV]
theorem cx_minB : CallX X W fMinB (fun xs H Q => (∃ i j, xs = [.int i, .int j] ∧ Q (.int (if j < i then j else i)) H) ∨ rMinS xs H Q) := by
  intro ρ h σ H xs vs Q p r o
  unfold fMinB at o
  split at o
  next x y =>
    obtain ⟨v, w, e, r1, r2⟩ := rvs2 r
    rw [show v = _ from r1, show w = _ from r2] at e
    refine .inr ⟨_, _, e, ?_⟩
    rw [strV_if]
    exact o.ok p rfl
  next => exact .inl (cx_min2 ρ h σ H _ vs Q p r o)
theorem cx_maxB : CallX X W fMaxB (fun xs H Q => (∃ i j, xs = [.int i, .int j] ∧ Q (.int (if j > i then j else i)) H) ∨ rMaxS xs H Q) := by
  intro ρ h σ H xs vs Q p r o
  unfold fMaxB at o
  split at o
  next x y =>
    obtain ⟨v, w, e, r1, r2⟩ := rvs2 r
    rw [show v = _ from r1, show w = _ from r2] at e
    refine .inr ⟨_, _, e, ?_⟩
    rw [strV_if]
    exact o.ok p rfl
  next => exact .inl (cx_max2 ρ h σ H _ vs Q p r o)
theorem xe_minB (hc : X.calm = true) (hm : X.mg "min" = none) (ha : XA X W (e :: es) ms) (hg : Gl X "min" := by rfl) (he : starEach (e :: es) X.env = (false, eval e X.env) :: starEach es X.env := by rfl) (hpl : (backTo pos (starEach es X.env)).any (·.1) = false := by rfl) :
    XE X W (.Call (.Name "min" p0) (e :: es) [] pos) (mCall fMinB ms) := xe_callB ((call_min2 hc).or (cr_minS hc)) cx_minB hm (by first | rfl | decide +kernel) ha hg (by decide) (by decide) he hpl
theorem xe_maxB (hc : X.calm = true) (hm : X.mg "max" = none) (ha : XA X W (e :: es) ms) (hg : Gl X "max" := by rfl) (he : starEach (e :: es) X.env = (false, eval e X.env) :: starEach es X.env := by rfl) (hpl : (backTo pos (starEach es X.env)).any (·.1) = false := by rfl) :
    XE X W (.Call (.Name "max" p0) (e :: es) [] pos) (mCall fMaxB ms) := xe_callB ((call_max2 hc).or (cr_maxS hc)) cx_maxB hm (by first | rfl | decide +kernel) ha hg (by decide) (by decide) he hpl
end
end Wg

namespace Wg
open PySem PySem.Spec PyProof.Rows L2 SlX
/-! ### sets of tuples of texts: the table -/
noncomputable abbrev Tk := List Str
section
variable {P : Program} {w : World} {A : Around} {E : Value → Shared → Prop} {s : Shared}
noncomputable abbrev hashK (P : Program) (w : World) (k : Tk) : Int := tupleKeyHash (strKind P w) k
noncomputable abbrev IsK (P : Program) (w : World) (h : Heap) (k : Tk) (b : Addr) : Prop := IsTupleKey (strKind P w) h k b
theorem itemsK : ∀ {k : Tk} {us : List Value}, ItemsAre (strKind P w) k us → ∀ u ∈ us, ∃ x t, u = Value.str x t
  | _, _, .nil, _, z => absurd z List.not_mem_nil
  | _, _, .cons y r, u, z => by
    rcases List.mem_cons.mp z with z | z
    · subst z
      exact Value.isStrOf_shape y |>.elim fun t q => ⟨_, t, q⟩
    · exact itemsK r u z
theorem ofStmt_str (n : Nat) (x : Str) (t : Tok) : ofAClassStatement n (.str x t) = pure false := by cases n <;> rfl
theorem byVal_str (n : Nat) (x : Str) (t : Tok) : hashByValue n (.str x t) = pure false := by cases n <;> rfl
/-- of no class statement -/
theorem ofStmt_K {k : Tk} {b : Addr} {R : Bool → Shared → Prop} (y : IsK P w s.heap k b) (q : R false s) : wpAny (model P w) A (ofAClassStatement 8 (.ref b)) R E s := by
  have ty := y.typeIs
  obtain ⟨ob, its, n, e1, _, e2, e3⟩ := y
  unfold ofAClassStatement
  refine wpAny_bind (wpAny_typeOf ty ?_)
  dsimp only
  simp only [show (("tuple" : String) == "tuple") = true by decide, if_true, Bool.not_true, Bool.false_eq_true, if_false]
  try refine wpAny_bind (wpAny_pure ?_)
  try simp only [Bool.not_true, Bool.false_eq_true, if_false]
  show wpAny _ _ (seqItems? (.ref b) >>= _) _ _ s
  refine wpAny_bind (wpAny_seqItems e1 e2 ?_)
  dsimp only
  refine wpAny_bind ?_
  show wpAny _ _ (forIn its _ _) _ _ s
  rw [← Array.forIn_toList]
  refine wpAny_forIn_list _ (fun l r s' => r.1 = none ∧ s' = s ∧ ∀ u ∈ l, ∃ x t, u = Value.str x t) _ (fun u l r s' z => ?_) (fun r s' z => ?_) _ _ ⟨rfl, rfl, itemsK e3⟩
  · obtain ⟨_, z2, z3⟩ := z
    subst z2
    obtain ⟨x, t, z4⟩ := z3 u List.mem_cons_self
    subst z4
    rw [ofStmt_str]
    refine wpAny_bind (wpAny_pure ?_)
    simp only [Bool.false_eq_true, if_false]
    exact wpAny_pure ⟨rfl, rfl, fun v hv => z3 v (List.mem_cons_of_mem _ hv)⟩
  · obtain ⟨r1, r2⟩ := r
    obtain ⟨z1, z2, _⟩ := z
    subst z2
    simp only at z1
    subst z1
    exact wpAny_pure q
/-- whether its hash hangs on what it holds alone: either -/
theorem byVal_K {k : Tk} {b : Addr} {R : Bool → Shared → Prop} (y : IsK P w s.heap k b) (q : ∀ c, R c s) : wpAny (model P w) A (hashByValue 8 (.ref b)) R E s := by
  have ty := y.typeIs
  obtain ⟨ob, its, n, e1, _, e2, e3⟩ := y
  unfold hashByValue
  refine wpAny_bind (wpAny_specialOf ty F.slot_tuple_hash.lookup ?_)
  show wpAny _ _ (seqItems? (.ref b) >>= _) _ _ s
  refine wpAny_bind (wpAny_seqItems e1 e2 ?_)
  refine wpAny_bind ?_
  show wpAny _ _ (forIn its _ _) _ _ s
  rw [← Array.forIn_toList]
  have iv := itemsK e3
  generalize its.toList = l at iv
  cases l with
  | nil => exact wpAny_pure (wpAny_pure (q true))
  | cons u l =>
    obtain ⟨x, t, z4⟩ := iv u List.mem_cons_self
    subst z4
    simp only [List.forIn_cons]
    rw [byVal_str]
    refine wpAny_bind (wpAny_bind (wpAny_pure ?_))
    simp only [Bool.not_false, if_true]
    exact wpAny_pure (wpAny_pure (wpAny_pure (q false)))
theorem seen_K {k : Tk} {b : Addr} {R : Bool → Shared → Prop} (y : IsK P w s.heap k b) {us : List Value} (ys : ∀ u ∈ us, ∃ k' c, u = Value.ref c ∧ IsK P w s.heap k' c) (q : R false s) :
    wpAny (model P w) A (searchCouldBeSeen (.ref b) us) R E s := by
  unfold searchCouldBeSeen
  refine wpAny_bind ?_
  refine wpAny_forIn_list _ (fun l r s' => r.1 = none ∧ s' = s ∧ ∀ u ∈ l, ∃ k' c, u = Value.ref c ∧ IsK P w s.heap k' c) _ (fun u l r s' z => ?_) (fun r s' z => ?_) _ _ ⟨rfl, rfl, ys⟩
  · obtain ⟨_, z2, z3⟩ := z
    subst z2
    obtain ⟨k', c, z4, yc⟩ := z3 u List.mem_cons_self
    subst z4
    have z5 : ∀ u ∈ l, ∃ k' c, u = Value.ref c ∧ IsK P w s'.heap k' c := fun v hv => z3 v (List.mem_cons_of_mem _ hv)
    dsimp only
    by_cases c1 : (b == c || (carriedByValue (.ref b) && carriedByValue (.ref c))) = true
    · exact wp_if_pos c1 (wpAny_pure ⟨rfl, rfl, z5⟩)
    · refine wp_if_neg c1 (wpAny_bind (wpAny_eqIsQuiet_tuple y ?_))
      simp only [Bool.not_true, Bool.false_eq_true, if_false]
      refine wpAny_bind (wpAny_eqIsQuiet_tuple yc ?_)
      simp only [Bool.not_true, Bool.false_eq_true, if_false]
      refine wpAny_bind (ofStmt_K y ?_)
      simp only [Bool.false_eq_true, if_false]
      refine wpAny_bind (ofStmt_K yc ?_)
      simp only [Bool.false_eq_true, if_false]
      exact wpAny_pure ⟨rfl, rfl, z5⟩
  · obtain ⟨r1, r2⟩ := r
    obtain ⟨z1, z2, _⟩ := z
    subst z2
    simp only at z1
    subst z1
    exact wpAny_pure q
/-! the set: rows in the order of the table -/
noncomputable abbrev rowK (P : Program) (w : World) (p : Addr × Tk) : Int × Value := (hashK P w p.2, .ref p.1)
structure KTab (P : Program) (w : World) (h : Heap) (a : Addr) (L : List (Addr × Tk)) (es : Array (Int × Value)) (ep : Nat) (t : SetTable) : Prop where
  obj : ∃ o, h.get? a = some o ∧ o.ExactSet ∧ o.data = .set es ep t
  rows : es.toList = L.map (rowK P w)
  tab : TabOk t (L.map fun p => hashK P w p.2)
  nodup : (L.map (·.2)).Nodup
  mem : ∀ p ∈ L, IsK P w h p.2 p.1
  led : w.params.followText "set-order" = true ∨ t.led = true
  room : L.length * 5 < t.mask * 3
  few : L.length < 64
variable {a : Addr} {L : List (Addr × Tk)} {es : Array (Int × Value)} {ep : Nat} {t : SetTable}
theorem rows_size (r : es.toList = L.map (rowK P w)) : es.size = L.length := by
  rw [← Array.length_toList, r, List.length_map]
theorem rows_at (r : es.toList = L.map (rowK P w)) {i : Nat} {p : Addr × Tk} (q : L[i]? = some p) : es[i]? = some (rowK P w p) := by
  rw [← Array.getElem?_toList, r, List.getElem?_map, q]; rfl
theorem fits_by {n : Nat} (d : t.dummies = #[]) (z : t.place.size = n) (l : n ≤ t.mask) : t.fits n = true := by
  unfold SetTable.fits SetTable.fill
  rw [d]
  simp [z]
  exact l
theorem KTab.fits (T : KTab P w s.heap a L es ep t) : t.fits es.size = true := by
  have z := T.tab.sz
  have r := T.room
  rw [List.length_map] at z
  have e := rows_size T.rows
  exact fits_by T.tab.dm (by omega) (by omega)
/-- the steps of the way of h -/
noncomputable abbrev stp (m : Nat) (h : Int) (c : Nat) : SetTable.Probe := nth m (runAt m (SetTable.bits h % (m + 1)) (SetTable.bits h)) c
theorem stp_dummy (m : Nat) (h : Int) (c : Nat) : (stp m h c).dummy = none := by
  have : ∀ (n : Nat) (p : SetTable.Probe), p.dummy = none → (nth m p n).dummy = none := fun n => by
    induction n with
    | zero => exact fun _ z => z
    | succ n ih => exact fun p z => ih _ (by unfold adv; split <;> exact z)
  exact this c _ rfl
/-- the search for k, from the step c of its way on; K: the first empty slot -/
theorem srchK (T : KTab P w s.heap a L es ep t) {x : Addr} {k : Tk} (ik : IsK P w s.heap k x) (un : A.units < cLine) {K : Nat} (lK : K < 10 * SetTable.turns t.mask) (eK : (stp t.mask (hashK P w k) K).j ∉ t.place.toList)
    (bK : ∀ c, c < K → (stp t.mask (hashK P w k) c).j ∈ t.place.toList) {R : SetFound → Shared → Prop} (q1 : k ∈ L.map (·.2) → R (.there none) s) (q2 : k ∉ L.map (·.2) → R (.free (stp t.mask (hashK P w k) K).j false) s)
    (n : Nat) : ∀ (c : Nat) (stand : Option SetTable.Probe), stand.getD (t.probeStart (hashK P w k)) = stp t.mask (hashK P w k) c → c ≤ K → K - c < n →
      (∀ (i : Nat) (p : Addr × Tk), L[i]? = some p → p.2 = k → ∃ d, c ≤ d ∧ d < K ∧ t.place.toList[i]? = some (stp t.mask (hashK P w k) d).j) → wpAny (model P w) A (setSearchFrom a (.ref x) (hashK P w k) true n stand) R E s := by
  induction n with
  | zero => exact fun c st _ _ z => absurd z (Nat.not_lt_zero _)
  | succ n ih =>
    intro c st es0 cK cn ahead
    obtain ⟨o, ho, hex, hd⟩ := T.obj
    rw [setSearchFrom_succ]
    refine wpAny_bind (wpAny_setState_of ho hd T.fits ?_)
    dsimp only
    refine wp_if_neg (by unfold SetTable.gaveWay; rw [mask_odd T.tab.mok]; decide) ?_
    try refine wpAny_bind (wpAny_pure ?_)
    have shift : ∀ d, nth t.mask (stp t.mask (hashK P w k) c) d = stp t.mask (hashK P w k) (c + d) := fun d => (nth_add t.mask c _ d).symm
    have hat : ∀ (i : Nat) (p : Addr × Tk), L[i]? = some p → (es[i]?.map (·.1)).getD 0 = hashK P w p.2 := fun i p z => by rw [rows_at T.rows z]; rfl
    rcases go_spec t T.tab.ris T.tab.dm (fun i => (es[i]?.map (·.1)).getD 0) (hashK P w k) (10 * SetTable.turns t.mask) (K - c) (stp t.mask (hashK P w k) c) (stp_dummy _ _ _) (by omega) (fun d hd => by rw [shift]; exact bK _ (by omega)) (by rw [shift, show c + (K - c) = K by omega]; exact eK) with ⟨d, i, hdK, hi, _, not, pr⟩ | ⟨not, pr⟩
    · rw [shift] at hi
      have pr' : t.probe (fun i => (es[i]?.map (·.1)).getD 0) (hashK P w k) (st.getD (t.probeStart (hashK P w k))) = some (.candidate (stp t.mask (hashK P w k) (c + d)).j i (stp t.mask (hashK P w k) (c + (d + 1)))) := by
        rw [es0, ← shift, ← shift]; exact pr
      rw [pr']
      dsimp only
      have li : i < L.length := by
        have z1 := (List.getElem?_eq_some_iff.mp hi).1
        have z2 := T.tab.sz
        rw [List.length_map] at z2
        rw [Array.length_toList] at z1
        omega
      obtain ⟨p, hp⟩ : ∃ p, L[i]? = some p := ⟨_, List.getElem?_eq_getElem li⟩
      have mp := List.mem_of_getElem? hp
      have on : wpAny (model P w) A (searchRest a (.ref x) (hashK P w k) true n es t (stp t.mask (hashK P w k) (c + d)).j i (stp t.mask (hashK P w k) (c + (d + 1)))) R E s := by
        unfold searchRest
        rw [rows_at T.rows hp]
        dsimp only
        refine wpAny_bind (wpAny_holding (wpAny_eqBool_tuple un (T.mem p mp) ik ?_))
        refine wpAny_bind (wpAny_setState_of ho hd T.fits ?_)
        dsimp only
        by_cases same : p.2 = k
        · exact wp_if_pos (by simp [same]) (wpAny_pure (q1 (List.mem_map.mpr ⟨p, mp, same⟩)))
        · refine wp_if_neg (by simp [same]) ?_
          try refine wpAny_bind (wpAny_pure ?_)
          rw [sameMem]
          dsimp only
          have live : t.slot (stp t.mask (hashK P w k) (c + d)).j = .live i := slot_live T.tab.ris hi
          simp only [if_true, live, rows_at T.rows hp]
          refine wpAny_bind (wpAny_isSame_ref_self (wpAny_bind (wpAny_pure ?_)))
          simp only [if_true]
          refine wp_if_neg (by simp [same]) (ih (c + (d + 1)) _ rfl (by omega) (by omega) fun j r hj hr => ?_)
          obtain ⟨g, g1, g2, g3⟩ := ahead j r hj hr
          refine ⟨g, ?_, g2, g3⟩
          by_cases lt : g < c + d
          · refine absurd ((hat j r hj).trans (congrArg (hashK P w) hr)) (not (g - c) j (by omega) ?_)
            rw [shift, show c + (g - c) = g by omega]; exact g3
          · by_cases eq : g = c + d
            · subst eq
              have sl := slot_live T.tab.ris g3
              rw [live] at sl
              injection sl with sl
              subst sl
              rw [hp] at hj
              cases hj
              exact absurd hr same
            · omega
      by_cases ld : t.led = true
      · refine wp_if_neg (by simp [ld]) ?_
        try refine wpAny_bind (wpAny_pure ?_)
        exact on
      · refine wp_if_pos (by simp [ld]) (wpAny_bind (seen_K ik (fun u hu => ?_) ?_))
        · obtain ⟨e, he, ee⟩ := List.mem_map.mp hu
          have h1 : e ∈ es ∧ e.1 = hashK P w k := by simpa using he
          have h2 : e ∈ es.toList := by simpa using h1.1
          rw [T.rows] at h2
          obtain ⟨r, hr, er⟩ := List.mem_map.mp h2
          exact ⟨r.2, r.1, by rw [← ee, ← er], T.mem r hr⟩
        · refine wp_if_neg (by decide) ?_
          try refine wpAny_bind (wpAny_pure ?_)
          exact on
    · have pr' : t.probe (fun i => (es[i]?.map (·.1)).getD 0) (hashK P w k) (st.getD (t.probeStart (hashK P w k))) = some (.empty (stp t.mask (hashK P w k) K).j none) := by
        have e2 : stp t.mask (hashK P w k) K = nth t.mask (stp t.mask (hashK P w k) c) (K - c) := by rw [shift, show c + (K - c) = K by omega]
        rw [es0, e2]; exact pr
      rw [pr']
      dsimp only
      refine wpAny_pure (q2 fun z => ?_)
      obtain ⟨r, hr, er⟩ := List.mem_map.mp z
      obtain ⟨j, hj⟩ := List.getElem?_of_mem hr
      obtain ⟨g, g1, g2, g3⟩ := ahead j r hj er
      refine not (g - c) j (by omega) ?_ ((hat j r hj).trans (congrArg (hashK P w) er))
      rw [shift, show c + (g - c) = g by omega]; exact g3
theorem searchK (T : KTab P w s.heap a L es ep t) {x : Addr} {k : Tk} (ik : IsK P w s.heap k x) (un : A.units < cLine) {R : SetFound → Shared → Prop} (q1 : k ∈ L.map (·.2) → R (.there none) s)
    (q2 : ∀ K, k ∉ L.map (·.2) → way t.mask (hashK P w k) K ∉ t.place.toList → (∀ c, c < K → way t.mask (hashK P w k) c ∈ t.place.toList) → R (.free (way t.mask (hashK P w k) K) false) s) : wpAny (model P w) A (setSearch a (.ref x) (hashK P w k) true) R E s := by
  have rm := T.room
  obtain ⟨K, l1, l2, l3⟩ := T.tab.first (by rw [List.length_map]; omega) (hashK P w k)
  have lt : K < 100000 := Nat.lt_trans l1 (by unfold SetTable.turns; rcases T.tab.mok with z | z | z <;> omega)
  refine srchK T ik un l1 l2 l3 q1 (fun z => q2 K z l2 l3) 100000 0 none rfl (Nat.zero_le _) (by omega) fun i p hp hk => ?_
  subst hk
  have zi : (L.map fun p => hashK P w p.2)[i]? = some (hashK P w p.2) := by rw [List.getElem?_map, hp]; rfl
  have z1 := (List.getElem?_eq_some_iff.mp hp).1
  have z2 := T.tab.sz
  rw [List.length_map] at z2
  have zj : t.place.toList[i]? = some (t.place.toList[i]'(by rw [Array.length_toList]; omega)) := List.getElem?_eq_getElem _
  obtain ⟨c, hc, e⟩ := T.tab.before l2 zi zj
  exact ⟨c, Nat.zero_le _, hc, by rw [zj, ← e]⟩
end
end Wg

namespace Wg
open PySem PySem.Spec PyProof.Rows L2 SlX
section
variable {P : Program} {w : World} {A : Around} {E : Value → Shared → Prop} {s : Shared} {a : Addr} {L : List (Addr × Tk)} {es : Array (Int × Value)} {ep : Nat} {t : SetTable}
/-- the set is no tuple -/
theorem IsK.other {h h' : Heap} {k : Tk} {b : Addr} {o : Obj} (y : IsK P w h k b) (ho : h.get? a = some o) (hd : o.data = .set es ep t) (sb : Heap.SameBut a h h') : IsK P w h' k b := by
  obtain ⟨ob, its, n, e1, e2, e3, e4⟩ := y
  have ne : b ≠ a := fun z => by
    subst z
    rw [ho] at e1
    cases e1
    rw [hd] at e3
    cases e3
  exact ⟨ob, its, n, (sb.2 b ne).trans e1, e2, e3, e4⟩
theorem pick_all {α : Type} (l : List α) : (List.range l.length).filterMap (fun i => l[i]?) = l := by
  induction l with
  | nil => rfl
  | cons x l ih =>
    rw [List.length_cons, List.range_succ_eq_map, List.filterMap_cons_some (f := fun i => (x :: l)[i]?) (a := 0) (b := x) rfl, List.filterMap_map]
    exact congrArg (x :: ·) ih
/-- the rows in another order -/
theorem rows_order (r : es.toList = L.map (rowK P w)) {od : Array Nat} (pm : od.toList.Perm (List.range L.length)) : ∃ M : List (Addr × Tk), (od.filterMap (es[·]?)).toList = M.map (rowK P w) ∧ M.Perm L ∧ (M.map fun p => hashK P w p.2) = od.toList.map fun i => (es.map (·.1)).getD i 0 := by
  refine ⟨od.toList.filterMap fun i => L[i]?, ?_, ?_, ?_⟩
  · have e : (fun i => es[i]?) = fun i : Nat => (L[i]?).map (rowK P w) := funext fun i => by rw [← Array.getElem?_toList, r, List.getElem?_map]
    rw [List.map_filterMap]
    first | (rw [Array.toList_filterMap, e]; done) | (simp only [Array.toList_filterMap, e])
  · have z := pm.filterMap fun i => L[i]?
    rw [pick_all] at z
    exact z
  · have lt : ∀ i ∈ od.toList, i < L.length := fun i hi => List.mem_range.mp (pm.mem_iff.mp hi)
    clear pm
    generalize od.toList = l at lt
    induction l with
    | nil => rfl
    | cons i l ih =>
      have li := lt i List.mem_cons_self
      rw [List.filterMap_cons_some (List.getElem?_eq_getElem li), List.map_cons, List.map_cons, ih fun j hj => lt j (List.mem_cons_of_mem _ hj)]
      have q : (es.map (·.1))[i]? = some (hashK P w (L[i]).2) := by rw [Array.getElem?_map, rows_at r (List.getElem?_eq_getElem li)]; rfl
      rw [Array.getD_eq_getD_getElem?, q]
      rfl
/-- a larger table -/
theorem relayK {o : Obj} (ho : s.heap.get? a = some o) (hex : o.ExactSet) (hd : o.data = .set es ep t) (r : es.toList = L.map (rowK P w)) (z1 : t.place.size = es.size) (z2 : t.dummies = #[]) (z3 : es.size ≤ t.mask)
    (nd : (L.map (·.2)).Nodup) (im : ∀ p ∈ L, IsK P w s.heap p.2 p.1) (ld : w.params.followText "set-order" = true ∨ t.led = true) (fw : L.length < 64) {wt M : Nat} (wM : SetTable.sizeAbove wt = M + 1) (mM : MaskOk M) (rm : L.length * 5 < M * 3)
    {R : Unit → Shared → Prop} (q : ∀ h' L' es' ep' t', Heap.SameBut a s.heap h' → KTab P w h' a L' es' ep' t' → L'.Perm L → R () { s with heap := h' }) : wpAny (model P w) A (setRelay a wt) R E s := by
  have sz := rows_size r
  have M127 : M ≤ 127 := by rcases mM with z | z | z <;> omega
  obtain ⟨t', od, e, pm, T, em, el, _, _⟩ := relaid_ok t (hs := es.map (·.1)) (wanted := wt) (M := M) (by omega) mM (by rw [Array.size_map]; omega)
  rw [Array.size_map, sz] at pm
  obtain ⟨N, r1, r2, r3⟩ := rows_order r pm
  rw [← r3] at T
  have sz' : (od.filterMap (es[·]?)).size = es.size := by rw [rows_size r1, r2.length_eq, sz]
  rw [setRelay_eq]
  refine wpAny_bind (wpAny_setState_of ho hd (fits_by z2 z1 z3) ?_)
  dsimp only
  refine wp_if_neg (by rw [sizeLine_eq]; omega) ?_
  try refine wpAny_bind (wpAny_pure ?_)
  rw [e]
  dsimp only
  refine wpAny_bind (wp_if_neg (by rw [sz']; simp) ?_)
  try refine wpAny_bind (wpAny_pure ?_)
  refine wpAny_pure ?_
  dsimp only
  have sb : Heap.SameBut a s.heap (s.heap.update a (Obj.putSet (od.filterMap (es[·]?)) t')) := Heap.SameBut.update ..
  refine wpAny_storeSet_of ho hd (q _ N _ _ t' sb ⟨⟨_, store_at ho hd, hex, rfl⟩, r1, T, (r2.map _).nodup_iff.mpr nd, fun p hp => (im p (r2.mem_iff.mp hp)).other ho hd sb, by rw [el]; exact ld, ?_, by rw [r2.length_eq]; exact fw⟩ r2) (by rw [sz', sz, sizeLine_eq]; omega)
  rw [r2.length_eq, em]; exact rm
theorem TabOk.as {u : SetTable} {hs : List Int} (T : TabOk t hs) (e1 : u.place = t.place) (e2 : u.dummies = t.dummies) (e3 : u.mask = t.mask) : TabOk u hs := by
  obtain ⟨a1, a2, a3, a4, a5, a6⟩ := T
  exact ⟨e1 ▸ a1, e2 ▸ a2, e1 ▸ a3, e3 ▸ a4, by rw [e1, e3]; exact a5, by rw [e1, e3]; exact a6⟩
/-- one more -/
theorem addK (T : KTab P w s.heap a L es ep t) {x : Addr} {k : Tk} (ik : IsK P w s.heap k x) (un : A.units < cLine) (fw : L.length + 1 < 64) {R : Bool → Shared → Prop}
    (q : ∀ b h' L' es' ep' t', Heap.SameBut a s.heap h' → KTab P w h' a L' es' ep' t' → (k ∈ L.map (·.2) → L' = L) → (k ∉ L.map (·.2) → L'.Perm ((x, k) :: L)) → R b { s with heap := h' }) : wpAny (model P w) A (setAddHashed a (.ref x) (hashK P w k)) R E s := by
  obtain ⟨o, ho, hex, hd⟩ := T.obj
  have sz := rows_size T.rows
  have rm := T.room
  unfold setAddHashed
  refine wpAny_holding ?_
  rw [show (100000 : Nat) = 99999 + 1 from rfl, setAddHashedIn_succ]
  refine wpAny_bind (wpAny_setState_of ho hd T.fits ?_)
  dsimp only
  refine wp_if_neg (by simp [byScan, Value.scannable]) ?_
  try refine wpAny_bind (wpAny_pure ?_)
  refine wpAny_bind (searchK T ik un (fun z => ?_) fun K nk eK bK => ?_)
  · dsimp only
    exact wpAny_pure (q false _ _ _ _ _ (Heap.SameBut.refl a s.heap) T (fun _ => rfl) fun c => absurd z c)
  dsimp only
  refine wpAny_bind (wpAny_setState_of ho hd T.fits ?_)
  dsimp only
  obtain ⟨u1, u2, u3, u4, u5, u6, u7, u8, u9⟩ := T.tab.put eK bK
  generalize t.put (way t.mask (hashK P w k) K) = pt at u1 u3 u4 u5 u6 u7 u8 u9 ⊢
  obtain ⟨t1, j⟩ := pt
  dsimp only at u1 u3 u4 u5 u6 u7 u8 u9 ⊢
  subst u1
  have rj : (SetTable.insertAt es (SetTable.below t.place (way t.mask (hashK P w k) K)) (hashK P w k, Value.ref x)).toList = (L.take (SetTable.below t.place (way t.mask (hashK P w k) K)) ++ (x, k) :: L.drop (SetTable.below t.place (way t.mask (hashK P w k) K))).map (rowK P w) := by
    rw [SetTable.toList_insertAt, T.rows, List.map_append, List.map_cons, List.map_take, List.map_drop]
  generalize SetTable.below t.place (way t.mask (hashK P w k) K) = i at u2 u3 rj ⊢
  have pm := put_perm L i (x, k)
  have h3 : (L.take i ++ (x, k) :: L.drop i).map (fun p => hashK P w p.2) = (L.map fun p => hashK P w p.2).take i ++ hashK P w k :: (L.map fun p => hashK P w p.2).drop i := by
    rw [List.map_append, List.map_cons, List.map_take, List.map_drop]
  rw [← h3] at u3
  have nd1 : ((L.take i ++ (x, k) :: L.drop i).map (·.2)).Nodup := (pm.map (·.2)).nodup_iff.mpr (List.nodup_cons.mpr ⟨nk, T.nodup⟩)
  generalize SetTable.insertAt es i (hashK P w k, Value.ref x) = es1 at rj ⊢
  generalize L.take i ++ (x, k) :: L.drop i = L1 at pm u3 nd1 rj
  have l1 : L1.length = L.length + 1 := pm.length_eq
  have z1 : es1.size = L.length + 1 := by rw [rows_size rj, l1]
  -- whatever is known of its hash
  have on : ∀ c : Bool, wpAny (model P w) A (do
      storeSet a es1 (if c = true then t1 else { t1 with plain := false })
      if (!false && (if c = true then t1 else { t1 with plain := false }).tooFull) = true then setRelay a (SetTable.grown (es.size + 1))
      return true) R E s := fun c => by
    have v1 : (if c = true then t1 else { t1 with plain := false }).place = t1.place := by cases c <;> rfl
    have v2 : (if c = true then t1 else { t1 with plain := false }).dummies = t1.dummies := by cases c <;> rfl
    have v3 : (if c = true then t1 else { t1 with plain := false }).mask = t1.mask := by cases c <;> rfl
    have v4 : (if c = true then t1 else { t1 with plain := false }).led = t1.led := by cases c <;> rfl
    have v5 : (if c = true then t1 else { t1 with plain := false }).tooFull = t1.tooFull := by cases c <;> rfl
    have T1 := TabOk.as u3 v1 v2 v3
    rw [v5]
    generalize (if c = true then t1 else { t1 with plain := false }) = t2 at v1 v3 v4 T1 ⊢
    refine wpAny_bind (wpAny_storeSet_of ho hd ?_ (by rw [z1, sizeLine_eq]; omega))
    have sb : Heap.SameBut a s.heap (s.heap.update a (Obj.putSet es1 t2)) := Heap.SameBut.update ..
    have ho1 := store_at (es' := es1) (t' := t2) ho hd
    generalize s.heap.update a (Obj.putSet es1 t2) = h1 at sb ho1 ⊢
    have im : ∀ p ∈ L1, IsK P w h1 p.2 p.1 := fun p hp => by
      rcases List.mem_cons.mp (pm.mem_iff.mp hp) with z | z
      · subst z; exact ik.other ho hd sb
      · exact (T.mem p z).other ho hd sb
    have ld : w.params.followText "set-order" = true ∨ t2.led = true := by rw [v4, u5]; exact T.led
    have full : t1.tooFull = decide ((L.length + 1) * 5 ≥ t1.mask * 3) := by
      unfold SetTable.tooFull
      rw [u9, List.length_map]
    by_cases c1 : t1.tooFull = true
    · have c2 := c1
      rw [full, decide_eq_true_eq, u4] at c2
      first
        | (refine wpAny_bind ?_; refine wp_if_pos (by simp [c1]) ?_)
        | (refine wp_if_pos (by simp [c1]) ?_; refine wpAny_bind ?_)
      have go : ∀ M, SetTable.sizeAbove (SetTable.grown (L.length + 1)) = M + 1 → MaskOk M → (L.length + 1) * 5 < M * 3 → wpAny (model P w) A (setRelay a (SetTable.grown (es.size + 1))) (fun _ s' => wpAny (model P w) A (pure true) R E s') E { s with heap := h1 } := fun M m1 m2 m3 => by
        rw [sz]
        refine relayK (s := { s with heap := h1 }) ho1 hex rfl rj ?_ T1.dm ?_ nd1 im ld (by omega) m1 m2 (by omega) fun h2 L2 es2 ep2 t3 sb2 T2 pm2 => wpAny_pure (q true h2 L2 es2 ep2 t3 (sb.trans sb2) T2 (fun z => absurd z nk) fun _ => pm2.trans pm)
        · have z := T1.sz
          rw [List.length_map] at z
          omega
        · rw [v3, u4]
          rcases T.tab.mok with z | z | z <;> omega
      rcases T.tab.mok with z | z | z
      · exact go 31 (by rw [show L.length + 1 = 5 by omega, size_20]) (.inr (.inl rfl)) (by omega)
      · exact go 127 (by rw [show L.length + 1 = 19 by omega, size_76]) (.inr (.inr rfl)) (by omega)
      · omega
    · have c2 := c1
      rw [full, decide_eq_true_eq] at c2
      first
        | refine wp_if_neg (by simp [c1]) ?_
        | (refine wpAny_bind ?_; refine wp_if_neg (by simp [c1]) ?_; refine wpAny_pure ?_)
      exact wpAny_pure (q true h1 L1 es1 (ep + 1) t2 sb ⟨⟨_, ho1, hex, rfl⟩, rj, T1, nd1, im, ld, by rw [v3]; omega, by omega⟩ (fun z => absurd z nk) fun _ => pm)
  by_cases pl : t1.plain = true
  · first
      | (refine wpAny_bind ?_; refine wp_if_pos pl ?_; refine byVal_K ik fun c => on c)
      | exact wp_if_pos pl (wpAny_bind (byVal_K ik fun c => on c))
  · first
      | (refine wpAny_bind ?_; refine wp_if_neg pl ?_; refine wpAny_pure (on true))
      | exact wp_if_neg pl (wpAny_bind (wpAny_pure (on true)))
end
end Wg

namespace Wg
open PySem PySem.Spec PyProof.Rows L2 SlX
/-! ### set(list of tuples of texts), sorted(such a set) -/
noncomputable def kst (l : List (List Nat)) : Tk := l.map fun x => ⟨x.toArray⟩
theorem kst_inj : ∀ {l m : List (List Nat)}, kst l = kst m → l = m
  | [], [], _ => rfl
  | [], _ :: _, e => by cases e
  | _ :: _, [], e => by cases e
  | x :: l, y :: m, e => by
    unfold kst at e
    rw [List.map_cons, List.map_cons] at e
    injection e with e1 e2
    rw [kst_inj (l := l) (m := m) e2]
    injection e1 with e1
    have e3 : x.toArray.toList = y.toArray.toList := congrArg Array.toList e1
    simpa using e3
/-- each key once, with the place of its first coming -/
noncomputable def addA (L : List (Addr × Tk)) (p : Addr × Tk) : List (Addr × Tk) := if p.2 ∈ L.map (·.2) then L else L ++ [p]
theorem addA_len (L : List (Addr × Tk)) (x : Addr × Tk) : (addA L x).length ≤ L.length + 1 := by
  unfold addA; split <;> simp
theorem addAs_len : ∀ (xs L : List (Addr × Tk)), (xs.foldl addA L).length ≤ L.length + xs.length
  | [], _ => by simp
  | x :: xs, L => by
    have h1 := addAs_len xs (addA L x)
    have h2 := addA_len L x
    rw [List.foldl_cons, List.length_cons]; omega
theorem itemsK_of {P : Program} {w : World} : ∀ {l : List (List Nat)} {us : List Value}, Vals (l.map strV) us → ItemsAre (strKind P w) (kst l) us
  | [], _, .nil => .nil
  | x :: l, _, .cons r q => by
    obtain ⟨t, rfl⟩ := r
    exact .cons (strKind_is P w ⟨x.toArray⟩ t) (itemsK_of q)
theorem vals_refs : ∀ {as : List Addr} {us : List Value}, Vals (as.map V.ref) us → us = as.map Value.ref
  | [], _, .nil => rfl
  | a :: as, _, .cons r q => by
    cases r
    rw [vals_refs q]; rfl
theorem refs_vals : ∀ as : List Addr, Vals (as.map V.ref) (as.map Value.ref)
  | [] => .nil
  | a :: as => .cons rfl (refs_vals as)
section
variable {P : Program} {w : World} {A : Around} {E : Value → Shared → Prop} {s : Shared} {a : Addr} {L : List (Addr × Tk)} {es : Array (Int × Value)} {ep : Nat} {t : SetTable}
theorem KTab.fresh {h : Heap} (ho : h.get? a = some (setObj0 w)) : KTab P w h a [] #[] 0 (.fresh 0 0 (!w.params.followText "set-order")) where
  obj := ⟨_, ho, ⟨rfl, rfl, rfl⟩, rfl⟩
  rows := rfl
  tab := ⟨List.Pairwise.nil, rfl, rfl, .inl rfl, fun x z => absurd (show x ∈ ([] : List Nat) from z) List.not_mem_nil, fun i h j z _ => by simp at z⟩
  nodup := List.nodup_nil
  mem := fun p z => by cases z
  led := by
    show _ ∨ (!w.params.followText "set-order") = true
    cases w.params.followText "set-order"
    · exact .inr rfl
    · exact .inl rfl
  room := by show 0 * 5 < 7 * 3; decide
  few := by decide
theorem KTab.at_ {h h' : Heap} (T : KTab P w h a L es ep t) (ka : ∀ o, h.get? a = some o → h'.get? a = some o) (im : ∀ p ∈ L, IsK P w h' p.2 p.1) : KTab P w h' a L es ep t :=
  { T with obj := let ⟨o, x, y⟩ := T.obj; ⟨o, ka o x, y⟩, mem := im }
/-- the set at S holds the keys L, whose tuples stand -/
noncomputable def KSet (P : Program) (w : World) (S : Addr) (ks L : List (Addr × Tk)) (h : Heap) : Prop := (∀ p ∈ ks, p.1 < S ∧ IsK P w h p.2 p.1) ∧ ∃ M es ep t, KTab P w h S M es ep t ∧ M.Perm L ∧ ∀ p ∈ M, p ∈ ks
theorem KSet.ho {S : Addr} {ks : List (Addr × Tk)} {h : Heap} (T : KSet P w S ks L h) : SetHo w S ((L.map (·.1)).map V.ref) h := by
  obtain ⟨_, M, es, ep, t, T, pm, _⟩ := T
  obtain ⟨o, e1, e2, e3⟩ := T.obj
  have sz := T.tab.sz
  rw [List.length_map] at sz
  have e := rows_size T.rows
  have rm := T.room
  have fw := T.few
  refine ⟨o, es, ep, t, (L.map (·.1)).map Value.ref, e1, e2, e3, ?_, refs_vals _, by unfold scanBound; omega, fits_by T.tab.dm (by omega) (by omega), T.tab.ris, T.led⟩
  rw [T.rows, List.map_map, List.map_map]
  exact pm.map _
theorem addOk_K {A' : Around} {S : Addr} {ks : List (Addr × Tk)} (un : A'.units < cLine) (fw : ks.length < 63) :
    AddOk P w A' S [S + 1] (ks.map fun p => Value.ref p.1).toArray.size (fun i v => (ks.map fun p => Value.ref p.1).toArray[i]? = some v) fun i h => KSet P w S ks ((ks.take i).foldl addA []) h := by
  refine ⟨fun i h h' ⟨k1, M, es, ep, t, T, pm, sub⟩ kp => ?_, fun i v s' Q' E' hi hv ⟨k1, M, es, ep, t, T, pm, sub⟩ hQ => ?_⟩
  · have k2 : ∀ p ∈ ks, p.1 < S ∧ IsK P w h' p.2 p.1 := fun p hp => by
      obtain ⟨lt, o, its, n, e1, e2⟩ := k1 p hp
      exact ⟨lt, o, its, n, kp _ o (by simp only [List.mem_cons, List.not_mem_nil, or_false]; exact Nat.ne_of_lt (Nat.lt_succ_of_lt lt)) e1, e2⟩
    exact ⟨k2, M, es, ep, t, T.at_ (fun o e => kp _ o (by simp only [List.mem_cons, List.not_mem_nil, or_false]; exact Nat.ne_of_lt (Nat.lt_succ_self _)) e) fun p hp => (k2 p (sub p hp)).2, pm, sub⟩
  · have hi' : i < ks.length := by simpa using hi
    have ev : v = Value.ref (ks[i]).1 := by
      have : (ks.map fun p => Value.ref p.1)[i]? = some v := by simpa using hv
      rw [List.getElem?_map, List.getElem?_eq_getElem hi'] at this
      exact (Option.some.inj this).symm
    subst ev
    have mi := List.getElem_mem hi'
    have ik := (k1 _ mi).2
    have ml : M.length ≤ i := by
      have := addAs_len (ks.take i) []
      rw [List.length_take, List.length_nil] at this
      rw [pm.length_eq]; omega
    unfold setAdd
    refine wpAny_holding (wpAny_bind (wpAny_pyHash_tuple un ik ?_))
    refine addK (s := { s' with toks := s'.toks + ((ks[i]).2.length + 1) }) T ik un (by omega) fun b h' L' es' ep' t' sb T' c1 c2 => hQ b h' _ sb (Nat.le_add_right _ _) ⟨fun p hp => ?_, L', es', ep', t', T', ?_, fun p hp => ?_⟩
    · obtain ⟨o, e1, e2, e3⟩ := T.obj
      exact ⟨(k1 p hp).1, (k1 p hp).2.other e1 e3 sb⟩
    · rw [List.take_add_one, List.getElem?_eq_getElem hi', List.foldl_append]
      show L'.Perm (addA _ ks[i])
      have mm : (ks[i]).2 ∈ ((ks.take i).foldl addA []).map (·.2) ↔ (ks[i]).2 ∈ M.map (·.2) := (pm.map (·.2)).mem_iff.symm
      by_cases c : (ks[i]).2 ∈ M.map (·.2)
      · rw [show addA _ ks[i] = _ from if_pos (mm.mpr c), c1 c]; exact pm
      · rw [show addA _ ks[i] = _ from if_neg (fun z => c (mm.mp z))]
        exact (c2 c).trans ((pm.cons _).trans (List.perm_append_singleton _ _).symm)
    · by_cases c : (ks[i]).2 ∈ M.map (·.2)
      · rw [c1 c] at hp; exact sub p hp
      · rcases List.mem_cons.mp ((c2 c).mem_iff.mp hp) with z | z
        · rw [z]; exact mi
        · exact sub p z
end
section
variable {X : Cx} {W : WQ} {K : KC} {ρ : Pl} {H : Hp} {h : Store} {pos : Pos} {e : Expr} {es : List Expr} {ms : M (List PV)} {p0 : Pos}
theorem inv_isK {pins : List (Addr × Obj)} {σ : L2.St} {s : Shared} {b : Addr} {l : List (List Nat)} (I : Inv X pins σ H s) (q : SqT X.K H b (l.map strV)) : IsK X.prog X.w s.heap (kst l) b := by
  obtain ⟨its, r, ⟨o, e1, e2, n, e3⟩, _⟩ := I.tuple q
  exact ⟨o, its.toArray, n, e1, e2, e3, by simpa using itemsK_of r⟩
/-- the tuples' places and texts; each told once -/
noncomputable def rSetTp (K : PySem.W.Frag) (w : World) : List V → Hp → VK → Prop := fun vs H Q => ∃ (l : Addr) (as : List Addr) (Ls : List (List (List Nat))), vs = [V.ref l] ∧ SqL K H l (as.map V.ref) ∧ as.length = Ls.length ∧ (∀ (i : Nat) (b : Addr) (x : List (List Nat)), as[i]? = some b → Ls[i]? = some x → SqT K H b (x.map strV)) ∧ as.length < 63 ∧
  ∀ p, H p = none → Q (.ref p) (upd H p (.ext (SetHo w p ((((as.zip (Ls.map kst)).foldl addA []).map (·.1)).map V.ref))))
theorem cr_setTp (hc : X.calm = true) (hu : X.A.units + 64 < cLine) : CallR X (.type "set") (rSetTp X.K X.w) := by
  intro pins s σ H vs us Q I r h
  obtain ⟨l, as, Ls, rfl, hl, len, tp, lt, q⟩ := h
  obtain ⟨its, rv, pl, hz⟩ := I.list hl
  rw [Vals.ref1 r]
  have hn : H s.heap.objs.size = none := I.hok.fresh (Nat.le_refl _)
  have ei := vals_refs rv
  have zl : (as.zip (Ls.map kst)).length = as.length := by rw [List.length_zip, List.length_map, ← len, Nat.min_self]
  have e1 : its = (as.zip (Ls.map kst)).map fun p => Value.ref p.1 := by
    rw [ei, show (fun p : Addr × Tk => Value.ref p.1) = Value.ref ∘ Prod.fst from rfl, ← List.map_map, List.map_fst_zip (by rw [List.length_map]; omega)]
  have kk : ∀ p ∈ as.zip (Ls.map kst), p.1 < s.heap.objs.size ∧ IsK X.prog X.w s.heap p.2 p.1 := fun p hp => by
    obtain ⟨i, hi⟩ := List.getElem?_of_mem hp
    rw [List.getElem?_zip_eq_some] at hi
    obtain ⟨h1, h2⟩ := hi
    rw [List.getElem?_map] at h2
    obtain ⟨x, h3, h4⟩ := Option.map_eq_some_iff.mp h2
    have ik := inv_isK I (tp i p.1 x h1 h3)
    rw [h4] at ik
    obtain ⟨o, _, _, e, _⟩ := id ik
    exact ⟨Heap.lt_size e, ik⟩
  subst e1
  refine call_setL (P := X.prog) (C := fun i h => KSet X.prog X.w s.heap.objs.size (as.zip (Ls.map kst)) (((as.zip (Ls.map kst)).take i).foldl addA []) h) (I.ok.hd hc) pl.isList
    (fun h' e kp => ⟨fun p hp => ⟨(kk p hp).1, let ⟨o, its, n, e1, e2⟩ := (kk p hp).2; ⟨o, its, n, kp _ _ e1, e2⟩⟩, [], #[], 0, _, KTab.fresh e, List.Perm.refl _, fun p hp => by cases hp⟩) (fun A' hA => addOk_K (by omega) (by omega)) fun h' tk R k => ?_
  have e2 : ((as.zip (Ls.map kst)).map fun p => Value.ref p.1).toArray.size = (as.zip (Ls.map kst)).length := by simp
  rw [e2, List.take_length] at R
  exact ⟨.ref s.heap.objs.size, _, I.laid (t' := tk) k (Nat.le_refl _) (setHo_new R.ho), rfl, q _ hn⟩
end
end Wg

namespace Wg
open PySem PySem.Spec PyProof.Rows L2 SlX
noncomputable def tpv (l : List (List Nat)) : PV := .tup (l.map .str)
/-- texts of all the tuples -/
noncomputable def tpsOf : List PV → Option (List (List (List Nat)))
  | [] => some []
  | x :: r => (txOf x).bind fun l => (tpsOf r).map (l :: ·)
theorem strsOf_of : ∀ {xs : List PV} {L : List (List Nat)}, strsOf xs = some L → xs = L.map .str
  | [], _, e => by cases e; rfl
  | x :: xs, L, e => by
    cases x with
    | str b =>
      simp only [strsOf, Option.map_eq_some_iff] at e
      obtain ⟨M, e1, rfl⟩ := e
      rw [strsOf_of e1]; rfl
    | _ => simp [strsOf] at e
theorem strsOf_lst : ∀ L : List (List Nat), strsOf (L.map .str) = some L
  | [] => rfl
  | x :: L => by
    show (strsOf (L.map .str)).map (x :: ·) = _
    rw [strsOf_lst L]; rfl
theorem txOf_of {x : PV} {l : List (List Nat)} (e : txOf x = some l) : x = tpv l := by
  cases x with
  | tup xs => rw [strsOf_of (xs := xs) e]; rfl
  | _ => cases e
theorem txOf_tpv (l : List (List Nat)) : txOf (tpv l) = some l := strsOf_lst l
theorem tpsOf_of : ∀ {xs : List PV} {Ls : List (List (List Nat))}, tpsOf xs = some Ls → xs = Ls.map tpv
  | [], _, e => by cases e; rfl
  | x :: xs, Ls, e => by
    simp only [tpsOf, Option.bind_eq_some_iff, Option.map_eq_some_iff] at e
    obtain ⟨l, e1, M, e2, rfl⟩ := e
    rw [tpsOf_of e2, txOf_of e1]; rfl
section
variable {X : Cx} {W : WQ} {K : KC} {ρ : Pl} {H : Hp} {h : Store} {pos : Pos} {e : Expr} {es : List Expr} {ms : M (List PV)} {p0 : Pos}
theorem tps_at : ∀ {Ls : List (List (List Nat))} {ws : List V}, RVs K ρ H (Ls.map tpv) ws → ∃ as : List Addr, ws = as.map V.ref ∧ as.length = Ls.length ∧ ∀ (i : Nat) (b : Addr) (x : List (List Nat)), as[i]? = some b → Ls[i]? = some x → Rd H b (.tup (x.map strV))
  | [], _, r => ⟨[], r, rfl, fun i b x z => by simp at z⟩
  | l :: Ls, _, ⟨v, r, e, h1, h2⟩ => by
    obtain ⟨as, e1, e2, e3⟩ := tps_at h2
    obtain ⟨t, e4, e5, _⟩ := txOf_at h1 (txOf_tpv l)
    subst e1 e4
    refine ⟨t :: as, e, by rw [List.length_cons, List.length_cons, e2], fun i b x z1 z2 => ?_⟩
    cases i with
    | zero => cases z1; cases z2; exact e5
    | succ i => exact e3 i b x z1 z2
theorem tps_dedup : ∀ {Ls : List (List (List Nat))} {as : List Addr} {D : List (List (List Nat))} {N : List (Addr × Tk)}, RVs K ρ H (Ls.map tpv) (as.map V.ref) → RVs K ρ H (D.map tpv) ((N.map (·.1)).map V.ref) → N.map (·.2) = D.map kst →
    RVs K ρ H ((Ls.foldl addP D).map tpv) ((((as.zip (Ls.map kst)).foldl addA N).map (·.1)).map V.ref)
  | [], _, _, _, _, r, _ => by simpa using r
  | l :: Ls, [], _, _, ⟨_, _, e, _⟩, _, _ => by cases e
  | l :: Ls, a :: as, D, N, ⟨v, r, e, h1, h2⟩, q, k => by
    rw [List.map_cons] at e
    injection e with e1 e2
    subst e1 e2
    have mm : kst l ∈ N.map (·.2) ↔ l ∈ D := by
      rw [k, List.mem_map]
      exact ⟨fun ⟨m, hm, e⟩ => by rw [← kst_inj e]; exact hm, fun z => ⟨l, z, rfl⟩⟩
    rw [List.foldl_cons, List.map_cons, List.zip_cons_cons, List.foldl_cons]
    by_cases c : l ∈ D
    · have e1 : addP D l = D := if_pos c
      have e2 : addA N (a, kst l) = N := if_pos (mm.mpr c)
      rw [e1, e2]
      exact tps_dedup h2 q k
    · have e1 : addP D l = D ++ [l] := if_neg c
      have e2 : addA N (a, kst l) = N ++ [(a, kst l)] := if_neg fun z => c (mm.mp z)
      rw [e1, e2]
      refine tps_dedup h2 ?_ (by rw [List.map_append, List.map_append, k]; rfl)
      rw [List.map_append, List.map_append, List.map_append]
      exact RVs.app q ⟨_, [], rfl, h1, rfl⟩
noncomputable def fSetB (xs : List PV) (h : Store) : R PV := match xs with
  | [x] => match lstRd h x with
    | some (y :: ys) => match tpsOf (y :: ys) with
      | some Ls => if Ls.length < 63 then .ok (.set ((dedup Ls).map tpv)) h else .no
      | none => fSet [x] h
    | _ => fSet [x] h
  | _ => .no
theorem cx_setB : CallX X W fSetB (fun vs H Q => rSetB X.K X.w vs H Q ∨ rSetTp X.K X.w vs H Q) := by
  intro ρ h σ H xs vs Q p r o
  unfold fSetB at o
  split at o
  next x =>
    split at o
    next y ys q0 =>
      split at o
      next Ls q =>
        obtain ⟨c, o⟩ := out_if o
        obtain ⟨v, e, r1⟩ := rvs1 r
        obtain ⟨a, ws, e2, t, rs⟩ := lstRd_at p r1 q0
        rw [tpsOf_of q] at rs
        obtain ⟨as, e3, e4, e5⟩ := tps_at rs
        subst e3
        refine .inr ⟨a, as, Ls, by rw [e, e2], t, e4, fun i b x z1 z2 => .inl (e5 i b x z1 z2), by omega, fun b hb => ?_⟩
        obtain ⟨x', p', r'⟩ := new_set (w := X.w) p hb (tps_dedup (D := []) (N := []) rs rfl rfl) rfl
        exact o ρ _ _ x' p' r'
      next => exact .inl (cx_set ρ h σ H _ vs Q p r o)
    next => exact .inl (cx_set ρ h σ H _ vs Q p r o)
  next => exact o.elim
theorem xe_setB (hc : X.calm = true) (hu : X.A.units + 64 < cLine) (hm : X.mg "set" = none) (ha : XA X W (e :: es) ms) (hg : Gl X "set" := by rfl) (he : starEach (e :: es) X.env = (false, eval e X.env) :: starEach es X.env := by rfl) (hpl : (backTo pos (starEach es X.env)).any (·.1) = false := by rfl) :
    XE X W (.Call (.Name "set" p0) (e :: es) [] pos) (mCall fSetB ms) := xe_callTy ((cr_set hc).or (cr_setTp hc hu)) cx_setB hm PyProof.Rows.boot_set ha hg (by decide) (by decide) he hpl
/-! sorted -/
theorem isortTx_uniq {f : V → List (List Nat)} {l m : List V} (p : m.Perm l) (nd : (l.map f).Nodup) (s : SrtO.Srtd (fun a b => ltTx (f a) (f b)) m) : m = isort (fun a b => ltTx (f a) (f b)) l := by
  have O : SrtO.Swo fun a b : V => ltTx (f a) (f b) := swo_tx f
  have pi := isort_perm (lt := fun a b => ltTx (f a) (f b)) l
  refine List.Perm.eq_of_pairwise (le := fun x y => ltTx (f y) (f x) = false) (fun a b ha hb h1 h2 => ?_) s (isort_srtd O l) (p.trans pi.symm)
  have e := ltTx_total _ _ h2 h1
  have ma := p.mem_iff.mp ha
  have mb := pi.mem_iff.mp hb
  clear p s pi O ha hb h1 h2
  induction l with
  | nil => cases ma
  | cons c l ih =>
    rw [List.map_cons, List.nodup_cons] at nd
    rcases List.mem_cons.mp ma with z1 | z1 <;> rcases List.mem_cons.mp mb with z2 | z2
    · rw [z1, z2]
    · exact absurd (List.mem_map.mpr ⟨b, z2, by rw [← e, z1]⟩) nd.1
    · exact absurd (List.mem_map.mpr ⟨a, z1, by rw [e, z2]⟩) nd.1
    · exact ih nd.2 z1 z2
noncomputable def rSortedSTp (w : World) : List V → Hp → VK → Prop := fun vs H Q => ∃ (a : Addr) (xs : List V), vs = [V.ref a] ∧ H a = some (.ext (SetHo w a xs)) ∧ (∀ x ∈ xs, txV H x ≠ [] ∧ ∃ t, x = V.ref t ∧ Rd H t (.tup ((txV H x).map strV))) ∧ (xs.map (txV H)).Nodup ∧
  ∀ p, H p = none → Q (.ref p) (upd H p (.lst (isort (fun a b => ltTx (txV H a) (txV H b)) xs)))
theorem cr_sortedSTp (hc : X.calm = true) : CallR X (.builtin "sorted") (rSortedSTp X.w) := by
  intro pins s σ H vs us Q I r h
  obtain ⟨a, xs, rfl, ha, hx, nd, q⟩ := h
  obtain ⟨o, es, ep, t, us', ho, hex, hd, pm, rv, hb, hf, hr, hl⟩ : SetHo X.w a xs s.heap := (I.hok a _ ha).1
  rw [Vals.ref1 r]
  obtain ⟨e1, e2⟩ := refs_back rv fun x m => by
    obtain ⟨_, t, e, _⟩ := hx x m
    exact ⟨t, e⟩
  have isx : ∀ v ∈ us', IsTx s.heap v (txV H (backV v)) := fun v hv => by
    obtain ⟨t, rfl⟩ := e2 v hv
    have hm : V.ref t ∈ xs := by rw [e1]; exact List.mem_map.mpr ⟨_, hv, rfl⟩
    obtain ⟨ne, t', e, ht⟩ := hx _ hm
    cases e
    obtain ⟨_, its2, r2, o, ho, hc, n, hd⟩ := ht.ok I.hok
    exact ⟨ne, t, o, its2, n, rfl, ho, hc, hd, vals_txs r2⟩
  refine sorted_setG (prog := X.prog) (ltv := fun v u => ltTx (txV H (backV v)) (txV H (backV u))) (swo_tx _) (I.ok.hd hc) ho hex hd hf hb hr hl (fun vs s' d h2 p kp hd' => tx_sortable (by omega) (fun v hv => (isx v ((p.trans pm).mem_iff.mp hv)).keeps fun b o e _ => (kp b o e).2) fun o' e => ?_) fun s' p out c k g oo hp hg po so => ?_
  · rw [hd'] at e
    cases e
    exact fun z => by injection z with z; exact absurd z (by decide)
  · have pu := po.trans pm
    have h3 : ∀ u ∈ out, ∃ a, u = Value.ref a := fun u hu => e2 u (pu.mem_iff.mp hu)
    have px : (out.map backV).Perm xs := by rw [e1]; exact pu.map _
    have eo := isortTx_uniq px nd (SrtO.srtd_map (lt := fun a b : V => ltTx (txV H a) (txV H b)) (f := backV) so)
    have q := q p (I.hok.fresh hp)
    rw [← eo] at q
    have hn : H p = none := I.hok.fresh hp
    have hlen : (out.map backV).length ≤ sizeLine := by
      rw [List.length_map, po.length_eq, List.length_map, Array.length_toList]
      exact fits_of_scanBound hb
    have J : Inv X pins σ (upd H p (.lst (out.map backV))) { s with heap := s'.heap, gens := s'.gens, drawn := s'.drawn, toks := s'.toks } :=
      I.call (ch := []) (Un.laid k hp hn) (I.hok.laid k hp ⟨hlen, out, c, vals_back h3, hg⟩) (by rw [g]; exact I.bare) (fun _ z => nomatch z)
    have e : s' = { s with heap := s'.heap, gens := s'.gens, drawn := s'.drawn, toks := s'.toks } := by
      cases s'
      cases s
      cases oo
      rfl
    rw [e]
    exact ⟨.ref p, _, J, rfl, q⟩
noncomputable def fSortC (xs : List PV) (h : Store) : R PV := match xs with
  | [.set (y :: ys)] => match tpsOf (y :: ys) with
    | some Ls => if Ls.all (fun l => !l.isEmpty) = true ∧ Ls.Nodup then .ok (.lst (isort ltP2 (y :: ys))) h else .no
    | none => fSortB xs h
  | _ => fSortB xs h
theorem cx_sortC : CallX X W fSortC (fun xs H Q => (rSortedA X.K X.w xs H Q ∨ ∃ (a : Addr) (kvs : List (Key × V)) (ks : List Str), xs = [.ref a] ∧ Rd H a (.dK kvs) ∧ kvs.map (·.1) = ks.map Sum.inr ∧ ks.length < 64 ∧
    ∀ ys p, ys.Perm ks → sortedS ys = true → H p = none → Q (.ref p) (upd H p (.lst (ys.map V.str)))) ∨ rSortedSTp X.w xs H Q) := by
  intro ρ h σ H xs vs Q p r o
  unfold fSortC at o
  split at o
  next y ys =>
    split at o
    next Ls q =>
      obtain ⟨c, o⟩ := out_if o
      obtain ⟨v, e, a, ws, e2, t, rs⟩ := rvs1 r
      have ex := tpsOf_of q
      rw [ex] at rs o
      have all : ∀ {Ls : List (List (List Nat))} {ws : List V}, RVs (kc X W) ρ H (Ls.map tpv) ws → (∀ l ∈ Ls, l ≠ []) → (∀ x ∈ ws, txV H x ≠ [] ∧ ∃ t, x = V.ref t ∧ Rd H t (.tup ((txV H x).map strV))) ∧ ws.map (txV H) = Ls := fun {Ls} => by
        induction Ls with
        | nil => intro ws r _; rw [show ws = [] from r]; exact ⟨fun x hx => by (cases hx), rfl⟩
        | cons l Ls ih =>
          rintro _ ⟨v, r, rfl, h1, h2⟩ ne
          obtain ⟨i1, i2⟩ := ih h2 fun m hm => ne m (List.mem_cons_of_mem _ hm)
          obtain ⟨t, k1, k2, k3⟩ := txOf_at h1 (txOf_tpv l)
          refine ⟨fun x hx => ?_, by rw [List.map_cons, k3, i2]⟩
          rcases List.mem_cons.mp hx with z | z
          · subst z; exact ⟨by rw [k3]; exact ne l List.mem_cons_self, t, k1, by rw [k3]; exact k2⟩
          · exact i1 x z
      obtain ⟨i1, i2⟩ := all rs fun l hl => by
        have := List.all_eq_true.mp c.1 l hl
        intro z; subst z; cases this
      refine .inr ⟨a, ws, by rw [e, e2], t.2, i1, by rw [i2]; exact c.2, fun b hb => ?_⟩
      obtain ⟨x', p', r'⟩ := new_lst p hb (RVs.isort rs fun y hy => by
        obtain ⟨l, _, rfl⟩ := List.mem_map.mp hy
        rw [txOf_tpv]; rfl)
      exact o ρ _ _ x' p' r'
    next => exact .inl (cx_sortB ρ h σ H _ vs Q p r o)
  next => exact .inl (cx_sortB ρ h σ H _ vs Q p r o)
theorem xe_sortC (hc : X.calm = true) (hm : X.mg "sorted" = none) (ha : XA X W (e :: es) ms) (hg : Gl X "sorted" := by rfl) (he : starEach (e :: es) X.env = (false, eval e X.env) :: starEach es X.env := by rfl) (hpl : (backTo pos (starEach es X.env)).any (·.1) = false := by rfl) :
    XE X W (.Call (.Name "sorted" p0) (e :: es) [] pos) (mCall fSortC ms) := xe_callB (((cr_sortedA hc).or (call_sortedD hc)).or (cr_sortedSTp hc)) cx_sortC hm PyProof.Rows.boot_sorted ha hg (by decide) (by decide) he hpl
end
end Wg

namespace Wg
open PySem PySem.W PySem.Spec PyProof.Rows
section
variable {prog : Program} {w : World} {A : Around} {E : Value → Shared → Prop} {s : Shared} {K : Frag} {x C L f : Addr} {h₀ : Heap} {m : Str → Option Value} {ox : Obj} {od : Option Obj} {T : String}
end
end Wg

namespace Wg
open PySem PySem.Spec PyProof.Rows L2 SlX
/-! ### operators that an own class defines -/
/-- what an operator asks, told where the names stand -/
noncomputable def OpS (X : Cx) (f : Value → Value → Sem Value) (r : V → V → L2.St → Hp → VK → Prop) : Prop :=
  ∀ (pins : List (Addr × Obj)) (s : Shared) (σ : L2.St) (H : Hp) (x y : V) (u v : Value) (Q : VK), Inv X pins σ H s → RelV x u → RelV y v → r x y σ H Q → wpAny (model X.prog X.w) X.A (f u v) (EP X pins σ Q) X.xe s
noncomputable def tOpS (r : V → V → L2.St → Hp → VK → Prop) (ta tb : TE) : TE := fun σ H Q => ta σ H fun x H1 => tb σ H1 fun y H2 => r x y σ H2 Q
section
variable {X : Cx} {CX : CXT} {k : Nat} {f g C : Addr} {fd : FuncData} {ps : List Str} {sp : Sp} {E : L2.St → XK} {pos : Pos} {a b : Expr} {ta tb : TE} {r : V → V → L2.St → Hp → VK → Prop}
theorem pe_cmpS {op : CmpOp} (o : OpS X (compareOp op) r) (ha : PE X a ta) (hb : PE X b tb) (hm : behindInMarks op b = false) : PE X (.Compare a [op] [b] pos) (tOpS r ta tb) := ⟨fun pins s σ H Q I q => wpAny_Compare1 (binT ha hb I q fun _ _ s2 x y H2 I2 rx ry z => o pins s2 σ H2 x y _ _ Q I2 rx ry z) hm⟩
/-- of the class at C -/
noncomputable def IsIn (C : Addr) (x : V) (H : Hp) : Prop := ∃ a dx vs, x = .ref a ∧ Slt H a C dx vs
theorem IsIn.inst {pins : List (Addr × Obj)} {σ : L2.St} {H : Hp} {s : Shared} {x : V} {u : Value} (y : IsIn C x H) (I : Inv X pins σ H s) (r : RelV x u) : ∃ a ox od, u = .ref a ∧ PySem.W.InstAt s.heap a ox C od := by
  obtain ⟨a, dx, vs, rfl, sl⟩ := y
  cases (show u = Value.ref a from r)
  obtain ⟨sv, od, _, J, _⟩ := slt_inst I sl
  exact ⟨a, _, _, rfl, J⟩
/-- x == y, x != y -/
noncomputable def IsTyY (K : PySem.W.Frag) (C : Addr) (y : V) (H : Hp) : Prop := IsIn C y H ∨ ∃ T, TyX K H y (.type T) ∧ PySem.W.notFirst K C (.type T) = true
theorem IsTyY.looks {M : Model} {pins : List (Addr × Obj)} {σ : L2.St} {H : Hp} {s : Shared} {y : V} {v : Value} (iy : IsTyY X.K C y H) (nc : PySem.W.notFirst X.K C (.ref C) = true) (I : Inv X pins σ H s) (ry : RelV y v) : ∃ t, PySem.W.Looks M s.heap (typeOf v) t ∧ PySem.W.notFirst X.K C t = true := by
  rcases iy with iy | ⟨T, ty, nf⟩
  · obtain ⟨b, oy, od, rfl, J⟩ := iy.inst I ry
    exact ⟨_, J.type, nc⟩
  · obtain ⟨P, kx, hp, _⟩ := kit_of I ry ty
    exact ⟨_, kx.ty M _ I.kIn hp, nf⟩
end
end Wg

namespace Wg
open PySem PySem.Spec PyProof.Rows L2 SlX
/-! ### operators and isinstance of own classes, over the layer -/
structure SelfT (K : PySem.W.Frag) (mg : Str → Option Value) (n : Str) (op : Operator) : Prop where
  ex : ∃ C fo ro rc, mg n = some (.ref C) ∧ PySem.W.selfFirst K C = true ∧ PySem.W.findIn K (.ref C) (dunderR op.info.2) = some rc ∧ (rc = none ∨ ∃ g : Addr, rc = some (.ref g)) ∧ PySem.W.findIn K (.type "tuple") (PySem.dunder op.info.2) = some fo ∧ PySem.W.findIn K (.type "tuple") (dunderR op.info.2) = some ro ∧ PySem.W.subIn K (.type "tuple") (.ref C) = some false
structure SelfC (K : PySem.W.Frag) (mg : Str → Option Value) (n : Str) : Prop where
  ex : ∃ C, mg n = some (.ref C) ∧ PySem.W.selfFirst K C = true
structure SelfE (K : PySem.W.Frag) (mg : Str → Option Value) (n : Str) : Prop where
  ex : ∃ C, mg n = some (.ref C) ∧ PySem.W.notFirst K C (.ref C) = true ∧ (∀ T ∈ tysA, PySem.W.notFirst K C (.type T) = true) ∧ PySem.W.findIn K (.ref C) "__ne__" = some (some (.builtin "object.__ne__")) ∧ PySem.W.subIn K (.ref C) (.type "object") = some true
section
variable {X : Cx} {W : WQ} {K : KC} {ρ : Pl} {H : Hp} {h : Store} {k : Nat} {n m x : Str} {F : FN} {pos p0 : Pos} {a b e : Expr} {es : List Expr} {mo mb : M PV} {ms : M (List PV)} {C : Addr}
theorem isIn_at (p : Rep K ρ h H) {x : PV} {v : V} (r : RV K ρ H x v) (hm : K.mg n = some (.ref C)) (q : isN h n x = true) : IsIn C v H := by
  obtain ⟨a, C', dx, vs, e, hm', t⟩ := isN_at p r q
  rw [hm] at hm'
  cases hm'
  exact ⟨a, dx, vs, e, t⟩
theorem sp2 {w : World} {K : PySem.W.Frag} {mg : Str → Option Value} {E : XK} {x y : PV} {v u : V} {Q : VK} (p : Rep ⟨K, mg, none, w⟩ ρ h H) (r1 : RV ⟨K, mg, none, w⟩ ρ H x v) (r2 : RV ⟨K, mg, none, w⟩ ρ H y u) (o : Out ⟨K, mg, none, w⟩ ρ H (RV ⟨K, mg, none, w⟩) (fun c d H' => E c d H') (F [x, y] h) Q) : spM w K mg F [v, u] H Q E :=
  ⟨ρ, h, [x, y], p, ⟨v, [u], rfl, r1, u, [], rfl, r2, rfl⟩, o⟩
/-! isinstance(x, an own class) -/
structure IsW (K : PySem.W.Frag) (mg : Str → Option Value) (m : Str) (t : List (Str × Bool)) : Prop where
  ex : ∃ C, mg m = some (.ref C) ∧ (∀ T ∈ tysA, PySem.W.kitOne K (.type T) (.ref C) = some false) ∧ ∀ (n : Str) (b : Bool) (C' : Addr), t.lookup n = some b → mg n = some (.ref C') → SCls K C' ∧ SIsi K C' ∧ PySem.W.kitOne K (.ref C') (.ref C) = some b
noncomputable def fIsW (m : Str) (t : List (Str × Bool)) (xs : List PV) (h : Store) : R PV := match xs with
  | [x, .cls m'] => if m' = m then match insOf h x with
    | some (n, _) => match t.lookup n with
      | some b => .ok (.bl b) h
      | none => .no
    | none => match tyN h x with
      | some _ => .ok (.bl false) h
      | none => .no
    else .no
  | _ => .no
noncomputable def rIsW (K : PySem.W.Frag) (D : Addr) : List V → Hp → VK → Prop := fun xs H Q => rIsiSl K (.ref D) xs H Q ∨ rIsi K xs H Q
theorem cx_isW {m : Str} {t : List (Str × Bool)} {D : Addr} (hm : X.mg m = some (.ref D)) (k1 : ∀ T ∈ tysA, PySem.W.kitOne X.K (.type T) (.ref D) = some false) (k2 : ∀ (n : Str) (b : Bool) (C' : Addr), t.lookup n = some b → X.mg n = some (.ref C') → SCls X.K C' ∧ SIsi X.K C' ∧ PySem.W.kitOne X.K (.ref C') (.ref D) = some b) :
    CallX X W (fIsW m t) (rIsW X.K D) := by
  intro ρ h σ H xs vs Q p r o
  unfold fIsW at o
  split at o
  next x m' =>
    obtain ⟨v, w, e, r1, r2⟩ := rvs2 r
    obtain ⟨c, o2⟩ := out_if o
    clear o
    subst c
    have o := o2
    clear o2
    obtain ⟨C, hm', e2⟩ := r2
    have hm' : X.mg m' = some (.ref C) := hm'
    rw [hm] at hm'
    cases hm'
    split at o
    next n xs' q =>
      split at o
      next b q2 =>
        obtain ⟨a, C', dx, us, e3, hn, sl, _⟩ := insOf_at p r1 q
        obtain ⟨t1, t2, t3⟩ := k2 n b C' q2 hn
        refine .inl ⟨a, C', dx, us, w, b, by rw [e, e3], by rw [e2]; rfl, fun u ru => by rw [e2] at ru; exact ru, sl, t1, t2, t3, o.ok p rfl⟩
      next => exact o.elim
    next =>
      split at o
      next T q2 =>
        obtain ⟨t1, t2⟩ := tyN_at p r1 q2
        exact .inr ⟨v, w, .type T, .ref D, false, e, by rw [e2]; exact .own D, t1, k1 T t2, o.ok p rfl⟩
      next => exact o.elim
  next => exact o.elim
theorem xe_isW {m : Str} {t : List (Str × Bool)} (T : IsW X.K X.mg m t) (hm : X.mg "isinstance" = none) (ha : XA X W (e :: es) ms) (hg : Gl X "isinstance" := by rfl) (he : starEach (e :: es) X.env = (false, eval e X.env) :: starEach es X.env := by rfl) (hpl : (backTo pos (starEach es X.env)).any (·.1) = false := by rfl) :
    XE X W (.Call (.Name "isinstance" p0) (e :: es) [] pos) (mCall (fIsW m t) ms) := by
  obtain ⟨D, hm', k1, k2⟩ := T.ex
  exact xe_callB ((call_isiSl (.ref D)).or call_isi) (cx_isW hm' k1 k2) hm boot_isinstance ha hg (by decide) (by decide) he hpl
end
end Wg

namespace Wg
open PySem PySem.Spec PyProof.Rows L2 SlX
/-! ### [e for x in .. for y in ..] -/
noncomputable def lc2L (g : MG) (t : M Bool) (src1 : M (List PV)) (vs1 : List Nat) (g1 : MG) (t1 : M Bool) (e : M PV) : List PV → Lv → Store → R (List PV)
  | [], _, h => .ok [] h
  | y :: ys, l, h => (g y l h).noX.bind fun l1 h1 => (t l1 h1).noX.bind fun b h2 =>
    if b = true then (src1 l1 h2).noX.bind fun ys1 h3 => (lcL g1 t1 e ys1 (wipeL l1 vs1) h3).noX.bind fun zs h4 => (lc2L g t src1 vs1 g1 t1 e ys l h4).noX.bind fun ws h5 => .ok (zs ++ ws) h5
    else (lc2L g t src1 vs1 g1 t1 e ys l h2).noX
noncomputable def mLc2 (src : M (List PV)) (own : List Nat) (g : MG) (t : M Bool) (src1 : M (List PV)) (vs1 : List Nat) (g1 : MG) (t1 : M Bool) (e : M PV) : M PV := fun l h => (src l h).bind fun ys h1 => match lc2L g t src1 vs1 g1 t1 e ys (wipeL l own) h1 with
  | .ok zs h2 => if zs.length ≤ sizeLine then .ok (.lst zs) h2 else .no
  | _ => .no
theorem noX_is {α : Type} {r : R α} {x : α} {h : Store} (e : r.noX = .ok x h) : r = .ok x h := by
  cases r with
  | ok a h1 => exact e
  | exc _ _ => cases e
  | no => cases e
section
variable {K : KC} {ρ ρ' ρ1 ρ2 : Pl} {H H' H1 H2 : Hp} {h h' : Store} {X : Cx} {W : WQ} {D : Addr} {zs : List PV}
/-- on the way from ρ1, H1: D is hidden and holds zs -/
structure LWay (K : KC) (ρ1 : Pl) (H1 : Hp) (D : Addr) (zs : List PV) (ρ : Pl) (h : Store) (H : Hp) : Prop where
  ext : Ext ρ1 H1 ⟨ρ.c, ρ1.hid⟩ H
  kp : Kp ρ1 H1 ρ H
  hid : ρ.hid = D :: ρ1.hid
  out : D ∉ ρ.c
  rep : Rep K ρ h H
  at_ : ∃ vs, H D = some (.lst vs) ∧ RVs K ρ H zs vs
theorem LWay.go (w : LWay K ρ1 H1 D zs ρ h H) (x : Ext ρ H ρ' H') (p : Rep K ρ' h' H') : LWay K ρ1 H1 D zs ρ' h' H' := by
  obtain ⟨m1, q1, f1⟩ := x.pre
  have mD : D ∈ ρ.hid := by rw [w.hid]; exact List.mem_cons_self
  obtain ⟨vs, e1, e2⟩ := w.at_
  refine ⟨w.ext.trans ⟨⟨m1, q1, fun p hp => ⟨fun z => (f1 p hp).1 (z.elim .inl fun z => .inr (by rw [w.hid]; exact List.mem_cons_of_mem _ z)), (f1 p hp).2⟩⟩, rfl, fun p o hp st e => x.old p o hp (st.imp (fun z => by rw [w.hid]; exact List.mem_cons_of_mem _ z) id) e, x.lok⟩,
    w.kp.trans x.kp, x.hid.trans w.hid, fun z => ?_, p, vs, x.old _ _ w.out (.inl mD) e1, RVs.ext x _ _ e2⟩
  rw [q1] at z
  rcases List.mem_append.mp z with z | z
  · exact w.out z
  · exact (f1 D z).1 (.inr mD)
theorem LWay.put (w : LWay K ρ1 H1 D zs ρ h H) (hD : H1 D = none) {z : PV} {v : V} (r : RV K ρ H z v) : ∃ acc, H D = some (.lst acc) ∧ acc.length = zs.length ∧ Kp ρ H ρ (upd H D (.lst (acc ++ [v]))) ∧ LWay K ρ1 H1 D (zs ++ [z]) ρ h (upd H D (.lst (acc ++ [v]))) := by
  have mD : D ∈ ρ.hid := by rw [w.hid]; exact List.mem_cons_self
  obtain ⟨vs, e1, e2⟩ := w.at_
  have kd : Kp ρ H ρ (upd H D (.lst (vs ++ [v]))) := Kp.hid_upd mD _
  refine ⟨vs, e1, e2.len.symm, kd, ⟨w.ext.pre, w.ext.hid, fun q o hq st eq => ?_, fun q o hq eq => ?_⟩, w.kp.trans kd, w.hid, w.out, w.rep.hid_upd mD w.out _, _, upd_same, (RVs.kp kd _ _ e2).app (RVs.one (RV.kp kd _ _ r))⟩
  · rw [upd_ne (ne_of_none eq hD)]; exact w.ext.old q o hq st eq
  · rw [upd_ne (ne_of_none eq hD)]; exact w.ext.lok q o hq eq
theorem LWay.new (p : Rep K ρ1 h H1) (hD : H1 D = none) : LWay K ρ1 H1 D [] (ρ1.hide D) h (upd H1 D (.lst [])) :=
  ⟨Ext.upd_new hD _, Kp.hide hD _, rfl, fun z => p.fresh hD (.inl z), p.hide hD _, [], upd_same, rfl⟩
theorem wipe_idem (σ : L2.St) (own : List Nat) : wipe (wipe σ own) own = wipe σ own := by
  have : ∀ vs ws : List Nat, (∀ v ∈ vs, v ∈ ws) → wipe (wipe σ ws) vs = wipe σ ws := by
    intro vs ws hs
    induction vs with
    | nil => rfl
    | cons v vs ih =>
      show (wipe (wipe σ ws) vs).set v none = wipe σ ws
      rw [ih fun u hu => hs u (List.mem_cons_of_mem _ hu)]
      have hm := hs v List.mem_cons_self
      clear ih hs
      induction ws with
      | nil => simp at hm
      | cons w ws ih2 =>
        show ((wipe σ ws).set w none).set v none = (wipe σ ws).set w none
        by_cases hz : v = w
        · subst hz; rw [List.set_set]
        · rw [List.set_comm _ _ (Ne.symm hz), ih2 ((List.mem_cons.mp hm).elim (fun z => absurd z hz) id)]
  exact this own own fun _ h => h
/-- the inner loop: from zs, to zs ++ all that lcL tells -/
theorem lc_in {U : WQ} {g1 : MG} {t1 : M Bool} {e : M PV} {J1 : It} {ys1 : List PV} {vs1 : List Nat} {σ2 : L2.St} {l2 : Lv} {Nx : Hp → Prop} {zs' : List PV} (w2 : LWay K ρ1 H1 D zs ρ2 h H2) (hD : H1 D = none) (y1 : Yields K ρ2 H2 J1 ys1) (rl : RL K ρ2 H2 l2 σ2) (hcn : ∀ v ∈ vs1, curNe K.cur v = true)
    (er : lcL g1 t1 e ys1 (wipeL l2 vs1) h = .ok zs' h') (lz : zs.length + zs'.length ≤ sizeLine) (fin : ∀ ρ H, LWay K ρ1 H1 D (zs ++ zs') ρ h' H → Nx H) :
    ∃ W1 : Nat → Nat → Hp → Prop, (∃ m, W1 0 m H2) ∧ ∀ j k H, W1 j k H → (J1.stop j H ∧ Nx H) ∨ (J1.go j H ∧ ∃ Nx1 : Hp → Prop, (∀ H', Nx1 H' → ∃ k', k' < k ∧ W1 (j + 1) k' H') ∧ ∀ x H', J1.yld j H x H' →
      tGw K U vs1 g1 x (wipe σ2 vs1) H' fun σ3 H5 => wipe σ3 vs1 = wipe σ2 vs1 ∧ tT K U t1 σ3 H5 fun b H6 => if b = true then tM K U e σ3 H6 fun y H7 => ∃ acc, H7 D = some (.lst acc) ∧ acc.length < sizeLine ∧ Nx1 (upd H7 D (.lst (acc ++ [y]))) else Nx1 H6) := by
  refine ⟨fun j k H => k = ys1.length - j ∧ j ≤ ys1.length ∧ ∃ ρ h ws rs, LWay K ρ1 H1 D (zs ++ ws) ρ h H ∧ Kp ρ2 H2 ρ H ∧ lcL g1 t1 e (ys1.drop j) (wipeL l2 vs1) h = .ok rs h' ∧ ws ++ rs = zs', ⟨_, rfl, Nat.zero_le _, ρ2, h, [], zs', by rw [List.append_nil]; exact w2, (Ext.refl _ _).kp, er, rfl⟩, ?_⟩
  rintro j k H ⟨rfl, hj, ρ, h3, ws, rs, w3, k3, er3, ez⟩
  by_cases lt : j < ys1.length
  · rw [List.drop_eq_getElem_cons lt] at er3
    refine .inr ⟨y1.go j ρ h3 H k3 w3.rep lt, fun H => ∃ ρ h ws rs, LWay K ρ1 H1 D (zs ++ ws) ρ h H ∧ Kp ρ2 H2 ρ H ∧ lcL g1 t1 e (ys1.drop (j + 1)) (wipeL l2 vs1) h = .ok rs h' ∧ ws ++ rs = zs', fun H' z => ⟨ys1.length - (j + 1), by omega, rfl, lt, z⟩, fun x H4 hy => ?_⟩
    obtain ⟨e4, p4, r4⟩ := y1.yld j ρ h3 H ys1[j] x H4 k3 w3.rep (by simp [lt]) hy
    have w4 := w3.go e4 p4
    have k4 := k3.trans e4.kp
    refine ⟨ρ, h3, wipeL l2 vs1, ys1[j], p4, (rl.kp k4).wipes vs1 hcn, r4, ?_⟩
    obtain ⟨l5, h5, q5, er5⟩ := bindX (show (g1 ys1[j] (wipeL l2 vs1) h3).noX.bind (fun l1 h1 => (t1 l1 h1).noX.bind fun b h2 => if b = true then (e l1 h2).noX.bind fun z h3 => (lcL g1 t1 e (ys1.drop (j + 1)) (wipeL l2 vs1) h3).bind fun zs h4 => .ok (z :: zs) h4 else lcL g1 t1 e (ys1.drop (j + 1)) (wipeL l2 vs1) h2) = .ok rs h' from er3)
    rw [q5]
    rintro ρ5 H5 σ5 e5 p5 ⟨rl5, u5⟩
    have w5 := w4.go e5 p5
    have k5 := k4.trans e5.kp
    refine ⟨by rw [u5, wipe_idem], ρ5, h5, l5, p5, rl5, ?_⟩
    obtain ⟨b, h6, q6, er6⟩ := bindX er5
    rw [q6]
    rintro ρ6 H6 b' e6 p6 rb
    cases rb
    have w6 := w5.go e6 p6
    have k6 := k5.trans e6.kp
    cases b with
    | false => exact ⟨ρ6, h6, ws, rs, w6, k6, er6, ez⟩
    | true =>
      refine ⟨ρ6, h6, l5, p6, rl5.ext e6, ?_⟩
      obtain ⟨z, h7, q7, er7⟩ := bindX (show (e l5 h6).noX.bind (fun z h3 => (lcL g1 t1 e (ys1.drop (j + 1)) (wipeL l2 vs1) h3).bind fun zs h4 => .ok (z :: zs) h4) = .ok rs h' from er6)
      rw [q7]
      rintro ρ7 H7 zv e7 p7 rz
      have w7 := w6.go e7 p7
      have k7 := k6.trans e7.kp
      cases q8 : lcL g1 t1 e (ys1.drop (j + 1)) (wipeL l2 vs1) h7 with
      | no => rw [q8] at er7; cases er7
      | exc _ _ => rw [q8] at er7; cases er7
      | ok rs8 h8 =>
        rw [q8] at er7
        have er8 : R.ok (z :: rs8) h8 = R.ok rs h' := er7
        injection er8 with er8 er9
        subst er8 er9
        obtain ⟨acc, a1, a2, a3, a4⟩ := w7.put hD rz
        refine ⟨acc, a1, ?_, ρ7, h7, ws ++ [z], rs8, by rw [← List.append_assoc]; exact a4, k7.trans a3, q8, by rw [← ez]; simp⟩
        have : zs'.length = ws.length + (rs8.length + 1) := by rw [← ez]; simp
        rw [a2, List.length_append]; omega
  · have e : j = ys1.length := by omega
    subst e
    rw [List.drop_length] at er3
    have er4 : R.ok ([] : List PV) h3 = R.ok rs h' := er3
    injection er4 with er4 er5
    subst er4 er5
    rw [List.append_nil] at ez
    subst ez
    exact .inl ⟨y1.stop _ ρ h3 H k3 w3.rep (Nat.le_refl _), fin ρ H w3⟩
theorem lc2_turns {U : WQ} {g g1 : MG} {t t1 : M Bool} {src1 : M (List PV)} {e : M PV} {J : It} {ys : List PV} {own vs1 : List Nat} {σ : L2.St} {l : Lv} {Q : Hp → Prop} {zs' : List PV} (p1 : Rep K ρ1 h H1) (y1 : Yields K ρ1 H1 J ys) (rl : RL K ρ1 H1 l σ) (hcn : ∀ v ∈ own, curNe K.cur v = true) (hcn1 : ∀ v ∈ vs1, curNe K.cur v = true)
    (hD : H1 D = none) (er : lc2L g t src1 vs1 g1 t1 e ys (wipeL l own) h = .ok zs' h') (lz : zs'.length ≤ sizeLine) (fin : ∀ ρ H, LWay K ρ1 H1 D zs' ρ h' H → Q H) :
    ∃ W : Nat → Nat → Hp → Prop, (∃ m, W 0 m (upd H1 D (.lst []))) ∧ ∀ i m H, W i m H → (J.stop i H ∧ Q H) ∨ (J.go i H ∧ ∃ Nx : Hp → Prop, (∀ H', Nx H' → ∃ m', m' < m ∧ W (i + 1) m' H') ∧ ∀ x H', J.yld i H x H' →
      tGw K U own g x (wipe σ own) H' fun σ2 H2 => wipe σ2 own = wipe σ own ∧ tT K U t σ2 H2 fun b H3 => if b = true then tI K U src1 σ2 H3 fun J1 H4 => ∃ W1 : Nat → Nat → Hp → Prop, (∃ m, W1 0 m H4) ∧ ∀ j k H, W1 j k H →
        (J1.stop j H ∧ Nx H) ∨ (J1.go j H ∧ ∃ Nx1 : Hp → Prop, (∀ H', Nx1 H' → ∃ k', k' < k ∧ W1 (j + 1) k' H') ∧ ∀ x H', J1.yld j H x H' → tGw K U vs1 g1 x (wipe σ2 vs1) H' fun σ3 H5 => wipe σ3 vs1 = wipe σ2 vs1 ∧ tT K U t1 σ3 H5 fun b H6 =>
          if b = true then tM K U e σ3 H6 fun y H7 => ∃ acc, H7 D = some (.lst acc) ∧ acc.length < sizeLine ∧ Nx1 (upd H7 D (.lst (acc ++ [y]))) else Nx1 H6)
      else Nx H3) := by
  refine ⟨fun i m H => m = ys.length - i ∧ i ≤ ys.length ∧ ∃ ρ h ws rs, LWay K ρ1 H1 D ws ρ h H ∧ lc2L g t src1 vs1 g1 t1 e (ys.drop i) (wipeL l own) h = .ok rs h' ∧ ws ++ rs = zs', ⟨_, rfl, Nat.zero_le _, ρ1.hide D, h, [], zs', LWay.new p1 hD, er, rfl⟩, ?_⟩
  rintro i m H ⟨rfl, hi, ρ, h3, ws, rs, w3, er3, ez⟩
  by_cases lt : i < ys.length
  · rw [List.drop_eq_getElem_cons lt] at er3
    refine .inr ⟨y1.go i ρ h3 H w3.kp w3.rep lt, fun H => ∃ ρ h ws rs, LWay K ρ1 H1 D ws ρ h H ∧ lc2L g t src1 vs1 g1 t1 e (ys.drop (i + 1)) (wipeL l own) h = .ok rs h' ∧ ws ++ rs = zs', fun H' z => ⟨ys.length - (i + 1), by omega, rfl, lt, z⟩, fun x H4 hy => ?_⟩
    obtain ⟨e4, p4, r4⟩ := y1.yld i ρ h3 H ys[i] x H4 w3.kp w3.rep (by simp [lt]) hy
    have w4 := w3.go e4 p4
    refine ⟨ρ, h3, wipeL l own, ys[i], p4, (rl.kp w4.kp).wipes own hcn, r4, ?_⟩
    obtain ⟨l5, h5, q5, er5⟩ := bindX (show (g ys[i] (wipeL l own) h3).noX.bind (fun l1 h1 => (t l1 h1).noX.bind fun b h2 => if b = true then (src1 l1 h2).noX.bind fun ys1 h3 => (lcL g1 t1 e ys1 (wipeL l1 vs1) h3).noX.bind fun zs h4 => (lc2L g t src1 vs1 g1 t1 e (ys.drop (i + 1)) (wipeL l own) h4).noX.bind fun ws h5 => .ok (zs ++ ws) h5 else (lc2L g t src1 vs1 g1 t1 e (ys.drop (i + 1)) (wipeL l own) h2).noX) = .ok rs h' from er3)
    rw [q5]
    rintro ρ5 H5 σ5 e5 p5 ⟨rl5, u5⟩
    have w5 := w4.go e5 p5
    refine ⟨by rw [u5, wipe_idem], ρ5, h5, l5, p5, rl5, ?_⟩
    obtain ⟨b, h6, q6, er6⟩ := bindX er5
    rw [q6]
    rintro ρ6 H6 b' e6 p6 rb
    cases rb
    have w6 := w5.go e6 p6
    cases b with
    | false => exact ⟨ρ6, h6, ws, rs, w6, noX_is er6, ez⟩
    | true =>
      refine ⟨ρ6, h6, l5, p6, rl5.ext e6, ?_⟩
      obtain ⟨ys1, h7, q7, er7⟩ := bindX (show (src1 l5 h6).noX.bind (fun ys1 h3 => (lcL g1 t1 e ys1 (wipeL l5 vs1) h3).noX.bind fun zs h4 => (lc2L g t src1 vs1 g1 t1 e (ys.drop (i + 1)) (wipeL l own) h4).noX.bind fun ws h5 => .ok (zs ++ ws) h5) = .ok rs h' from er6)
      rw [q7]
      rintro ρ7 H7 J1 e7 p7 yl7
      have w7 := w6.go e7 p7
      obtain ⟨zs1, h8, q8, er8⟩ := bindX er7
      obtain ⟨ws9, h9, q9, er9⟩ := bindX er8
      have er10 : R.ok (zs1 ++ ws9) h9 = R.ok rs h' := er9
      injection er10 with er10 er11
      subst er10 er11
      refine lc_in w7 hD yl7 ((rl5.ext e6).ext e7) hcn1 q8 ?_ fun ρ H w => ⟨ρ, h8, ws ++ zs1, ws9, w, q9, by rw [← ez, List.append_assoc]⟩
      have : zs'.length = ws.length + (zs1.length + ws9.length) := by rw [← ez]; simp
      omega
  · have e : i = ys.length := by omega
    subst e
    rw [List.drop_length] at er3
    have er4 : R.ok ([] : List PV) h3 = R.ok rs h' := er3
    injection er4 with er4 er5
    subst er4 er5
    rw [List.append_nil] at ez
    subst ez
    exact .inl ⟨y1.stop _ ρ h3 H w3.kp w3.rep (Nat.le_refl _), fin ρ H w3⟩
theorem lc2_out {U : WQ} {g g1 : MG} {t t1 : M Bool} {src src1 : M (List PV)} {e : M PV} {own vs1 : List Nat} {σ : L2.St} {Q : VK} (hcn : ∀ v ∈ own, curNe K.cur v = true) (hcn1 : ∀ v ∈ vs1, curNe K.cur v = true) (q : tM K W (mLc2 src own g t src1 vs1 g1 t1 e) σ H Q) :
    tLc2 (tI K W src) (tGw K U own g) (tT K U t) (tI K U src1) (tGw K U vs1 g1) (tT K U t1) (tM K U e) own vs1 σ H Q := by
  obtain ⟨ρ, h, l, p, rl, o⟩ := q
  refine ⟨ρ, h, l, p, rl, Out.mono (Out.bind o) fun J H1 ⟨ys, h1, ρ1, e1, p1, y1, o1⟩ => ?_⟩
  intro D hD
  split at o1
  next zs h2 q =>
    obtain ⟨c, o1⟩ := out_if o1
    refine lc2_turns (Q := fun H => Q (.ref D) H) p1 y1 (rl.ext e1) hcn hcn1 hD q c fun ρ H w => ?_
    obtain ⟨vs, a1, a2⟩ := w.at_
    exact lc_mk_lst (W := W) ρ ρ1 H H1 D zs h2 vs (σ := σ) w.ext w.hid w.out w.rep hD (p1.fresh hD) a1 a2 o1
  next => exact o1.elim
variable {elt tg iter tg1 iter1 : Expr} {ifs ifs1 : List Expr} {scope : Scope} {own : List (Str × Nat)} {pos : Pos} {src src1 : M (List PV)} {g g1 : MG} {t t1 : M Bool} {e : M PV} {vs1 : List Nat}
theorem xe_lc2 (hc : X.calm = true) (hN : X.N.Nodup) (hi : XI X W tg iter src) (ok : BlkOk X.N X.env.scope scope own)
    (hg : ∀ (s : Shared) (H : Hp) (C : Addr) (cl : List (Str × Addr)) (fp : List Addr), XGw (X.blk s H scope (compEnvC scope cl C X.env) fp) (WF W) (own.map (·.2)) tg g) (ht : ∀ (s : Shared) (H : Hp) (C : Addr) (cl : List (Str × Addr)) (fp : List Addr), XTs (X.blk s H scope (compEnvC scope cl C X.env) fp) (WF W) ifs t)
    (hi1 : ∀ (s : Shared) (H : Hp) (C : Addr) (cl : List (Str × Addr)) (fp : List Addr), XI (X.blk s H scope (compEnvC scope cl C X.env) fp) (WF W) tg1 iter1 src1)
    (hg1 : ∀ (s : Shared) (H : Hp) (C : Addr) (cl : List (Str × Addr)) (fp : List Addr), XGw (X.blk s H scope (compEnvC scope cl C X.env) fp) (WF W) vs1 tg1 g1) (ht1 : ∀ (s : Shared) (H : Hp) (C : Addr) (cl : List (Str × Addr)) (fp : List Addr), XTs (X.blk s H scope (compEnvC scope cl C X.env) fp) (WF W) ifs1 t1)
    (he : ∀ (s : Shared) (H : Hp) (C : Addr) (cl : List (Str × Addr)) (fp : List Addr), XE (X.blk s H scope (compEnvC scope cl C X.env) fp) (WF W) elt e) (hv : ∀ i ∈ vs1, i ∈ own.map (·.2) := by decide) (hs : ∀ x, foldedSetIterable iter X.env x = pure x := by intro _; rfl) (hs1 : ∀ env x, foldedSetIterable iter1 env x = pure x := by intro _ _; rfl)
    (hcn : ∀ v ∈ own.map (·.2), curNe W.cur v = true := by first | exact fun _ _ => rfl | simp [curNe]) : XE X W (.ListComp elt [⟨tg, iter, ifs, 0⟩, ⟨tg1, iter1, ifs1, 0⟩] scope pos) (mLc2 src (own.map (·.2)) g t src1 vs1 g1 t1 e) :=
  pe_weak (pe_lc2 hc hN hi ok hv hg ht hi1 hg1 ht1 he hs hs1) fun σ H Q q => lc2_out hcn (fun v h => hcn v (hv v h)) q
end
end Wg

namespace Wg
open PySem PySem.Spec PyProof.Rows L2 SlX
/-! ### order of tuples of any depth -/
/-- what an order tells of numbers, texts, lengths -/
structure OrdK (op : CmpOp) (gi : Int → Int → Bool) (ks : List Nat → List Nat → Bool) (zl : Nat → Nat → Bool) : Prop where
  int : ∀ (A : Around) (s : Shared) (a b : Int) (t u : Tok), Ob.RcOp op A s (.int a t) (.int b u) (gi a b)
  str : ∀ (A : Around) (s : Shared) (a b : List Nat) (t u : Tok), Ob.RcOp op A s (.str ⟨a.toArray⟩ t) (.str ⟨b.toArray⟩ u) (ks a b)
  tup : ∀ {A : Around} {s : Shared} {l b : Addr} {items items2 : Array Value} {e r : Nat → Bool}, s.heap.IsTuple l items → s.heap.IsTuple b items2 → A.units < cLine →
    (∀ j (h1 : j < items.size) (h2 : j < items2.size), SeqAt.EqAt A.in1 s items[j] items2[j] (e j)) →
    (∀ j (h1 : j < items.size) (h2 : j < items2.size), e j = false → Ob.RcOp op A.in1 s items[j] items2[j] (r j)) →
    Ob.RcOp op A s (.ref l) (.ref b) (Ob.lexAt e r (zl items.size items2.size) 0 (min items.size items2.size))
theorem ordLt : OrdK .Lt (fun i j => decide (i < j)) (fun i j => decide (i < j)) (fun i j => decide (i < j)) where
  int := fun A s a b t u => .lt_int a b t u
  str := fun A s a b t u => fun _ _ _ _ h => PyProof.Rows.lt_str h
  tup := fun hl hb hu he hr => .tuples_lt hl hb hu he hr
section
variable (gi : Int → Int → Bool) (ks : List Nat → List Nat → Bool) (zl : Nat → Nat → Bool)
noncomputable def ordLs (f : PV → PV → Bool) (z : Bool) : List PV → List PV → Bool
  | x :: xs, y :: ys => if eqPV x y = true then ordLs f z xs ys else f x y
  | _, _ => z
noncomputable def ordD : Nat → PV → PV → Option Bool
  | _, .int i, .int j => some (gi i j)
  | _, .str i, .str j => some (ks i j)
  | n + 1, .tup xs, .tup ys => if (xs.all (okD 20) && ys.all (okD 20) && (xs.zip ys).all fun p => eqPV p.1 p.2 || (ordD n p.1 p.2).isSome) = true then some (ordLs (fun x y => (ordD n x y).getD false) (zl xs.length ys.length) xs ys) else none
  | _, _, _ => none
theorem ordLs_lex {f : PV → PV → Bool} {z : Bool} {e r : Nat → Bool} : ∀ {xs ys : List PV} {i : Nat},
    (∀ j x y, xs[j]? = some x → ys[j]? = some y → e (i + j) = eqPV x y ∧ f x y = r (i + j)) → Ob.lexAt e r z i (min xs.length ys.length) = ordLs f z xs ys
  | [], ys, i, _ => by simp [Ob.lexAt_zero, ordLs]
  | x :: xs, [], i, _ => by simp [Ob.lexAt_zero, ordLs]
  | x :: xs, y :: ys, i, st => by
    have s0 := st 0 x y rfl rfl
    rw [Nat.add_zero] at s0
    rw [List.length_cons, List.length_cons, Nat.succ_min_succ, Ob.lexAt_succ, s0.1]
    unfold ordLs
    by_cases q : eqPV x y = true
    · rw [if_pos q, if_pos q]
      refine ordLs_lex fun j x' y' hx hy => ?_
      have := st (j + 1) x' y' (by simpa using hx) (by simpa using hy)
      rw [show i + 1 + j = i + (j + 1) by omega]
      exact this
    · rw [if_neg q, if_neg q]
      exact s0.2.symm
end
section
variable {X : Cx} {W : WQ} {op : CmpOp} {gi : Int → Int → Bool} {ks : List Nat → List Nat → Bool} {zl : Nat → Nat → Bool} {ρ : Pl} {h : Store} {H : Hp} {pins : List (Addr × Obj)} {σ : L2.St} {s : Shared}
/-- elements of data are told apart -/
theorem eq_at (I : Inv X pins σ H s) {A : Around} (hu : A.units + 24 < cLine) {x y : PV} {v w : V} {u u' : Value} (ox : okD 20 x = true) (oy : okD 20 y = true) (rx : RV (kc X W) ρ H x v) (ry : RV (kc X W) ρ H y w) (ru : RelV v u) (ru' : RelV w u') :
    SeqAt.EqAt A s u u' (eqPV x y) := by
  obtain ⟨d, e1, c1, d1⟩ := okD_at 20 x ox
  obtain ⟨e, e2, c2, d2⟩ := okD_at 20 y oy
  obtain ⟨as, r1⟩ := Dp.reads I d v u (toD_dp x v d rx e1) ru
  obtain ⟨bs, r2⟩ := Dp.reads I e w u' (toD_dp y w e ry e2) ru'
  rw [← eqv_eq x y d e e1 e2]
  exact SeqAt.eqAt_reads d e A s u u' as bs r1 r2 c1 c2 (by omega)
theorem vals_get : ∀ {vs : List V} {us : List Value} {j : Nat} {u : Value}, Vals vs us → us[j]? = some u → ∃ v, vs[j]? = some v ∧ RelV v u
  | _, _, _, _, .nil, e => by simp at e
  | _, _, 0, _, .cons r _, e => by simp at e; subst e; exact ⟨_, rfl, r⟩
  | _, _, j + 1, _, .cons _ t, e => by simpa using vals_get t (by simpa using e)
theorem RVs.getB {xs : List PV} {vs : List V} {i : Nat} {v : V} (r : RVs (kc X W) ρ H xs vs) (e : vs[i]? = some v) : ∃ x, xs[i]? = some x ∧ RV (kc X W) ρ H x v := by
  have hl := r.len
  have hi : i < xs.length := by rw [hl]; exact (List.getElem?_eq_some_iff.mp e).1
  obtain ⟨v', e', r'⟩ := r.get (i := i) (x := xs[i]) (by simp)
  rw [e'] at e; cases e
  exact ⟨_, by simp, r'⟩
theorem ordD_at (O : OrdK op gi ks zl) (I : Inv X pins σ H s) : ∀ (n : Nat) (A : Around) (x y : PV) (v w : V) (u u' : Value) (b : Bool), A.units + n + 30 < cLine → ordD gi ks zl n x y = some b → RV (kc X W) ρ H x v → RV (kc X W) ρ H y w → RelV v u → RelV w u' → Ob.RcOp op A s u u' b := by
  intro n
  induction n with
  | zero =>
    intro A x y v w u u' b hu e rx ry ru ru'
    cases x <;> cases y <;> first | (cases e; done) | skip
    · rw [show v = _ from rx] at ru; rw [show w = _ from ry] at ru'
      obtain ⟨t, rfl⟩ := ru; obtain ⟨t', rfl⟩ := ru'
      cases e; exact O.int _ _ _ _ _ _
    · rw [show v = _ from rx] at ru; rw [show w = _ from ry] at ru'
      obtain ⟨t, rfl⟩ := ru; obtain ⟨t', rfl⟩ := ru'
      cases e; exact O.str _ _ _ _ _ _
  | succ n ih =>
    intro A x y v w u u' b hu e rx ry ru ru'
    cases x <;> cases y <;> first | (cases e; done) | skip
    · rw [show v = _ from rx] at ru; rw [show w = _ from ry] at ru'
      obtain ⟨t, rfl⟩ := ru; obtain ⟨t', rfl⟩ := ru'
      cases e; exact O.int _ _ _ _ _ _
    · rw [show v = _ from rx] at ru; rw [show w = _ from ry] at ru'
      obtain ⟨t, rfl⟩ := ru; obtain ⟨t', rfl⟩ := ru'
      cases e; exact O.str _ _ _ _ _ _
    · rename_i xs ys
      simp only [ordD] at e
      split at e
      next c =>
        cases e
        simp only [Bool.and_eq_true] at c
        obtain ⟨⟨c1, c2⟩, c3⟩ := c
        obtain ⟨a1, vs, e1, t1, r1⟩ := tup_at rx
        obtain ⟨a2, ws, e2, t2, r2⟩ := tup_at ry
        subst e1; subst e2
        cases ru; cases ru'
        obtain ⟨its, q1, p1, _⟩ := I.tuple t1
        obtain ⟨its2, q2, p2, _⟩ := I.tuple t2
        have l1 : its.toArray.size = xs.length := by rw [List.size_toArray, r1.len]; exact q1.length.symm
        have l2 : its2.toArray.size = ys.length := by rw [List.size_toArray, r2.len]; exact q2.length.symm
        have key := O.tup (A := A) (e := fun j => eqPV (xs.getD j .non) (ys.getD j .non)) (r := fun j => ((ordD gi ks zl n (xs.getD j .non) (ys.getD j .non))).getD false) p1 p2 (by omega) ?_ ?_
        · rw [l1, l2] at key
          have := ordLs_lex (f := fun x y => (ordD gi ks zl n x y).getD false) (z := zl xs.length ys.length) (e := fun j => eqPV (xs.getD j .non) (ys.getD j .non)) (r := fun j => ((ordD gi ks zl n (xs.getD j .non) (ys.getD j .non))).getD false) (xs := xs) (ys := ys) (i := 0) fun j x y hx hy => by
            have g1 : xs.getD (0 + j) .non = x := by rw [Nat.zero_add, List.getD_eq_getElem?_getD, hx]; rfl
            have g2 : ys.getD (0 + j) .non = y := by rw [Nat.zero_add, List.getD_eq_getElem?_getD, hy]; rfl
            simp only [g1, g2]
            exact ⟨trivial, trivial⟩
          rw [this] at key
          exact key
        · intro j h1 h2
          obtain ⟨v1, g1, s1⟩ := vals_get (j := j) (u := its.toArray[j]) q1 (by simp)
          obtain ⟨v2, g2, s2⟩ := vals_get (j := j) (u := its2.toArray[j]) q2 (by simp)
          obtain ⟨x1, f1, rr1⟩ := r1.getB g1
          obtain ⟨x2, f2, rr2⟩ := r2.getB g2
          simp only [List.getD_eq_getElem?_getD, f1, f2, Option.getD_some]
          exact eq_at I (by show A.units + 1 + 24 < _; omega) (List.all_eq_true.mp c1 _ (List.mem_of_getElem? f1)) (List.all_eq_true.mp c2 _ (List.mem_of_getElem? f2)) rr1 rr2 s1 s2
        · intro j h1 h2 ne
          obtain ⟨v1, g1, s1⟩ := vals_get (j := j) (u := its.toArray[j]) q1 (by simp)
          obtain ⟨v2, g2, s2⟩ := vals_get (j := j) (u := its2.toArray[j]) q2 (by simp)
          obtain ⟨x1, f1, rr1⟩ := r1.getB g1
          obtain ⟨x2, f2, rr2⟩ := r2.getB g2
          simp only [List.getD_eq_getElem?_getD, f1, f2, Option.getD_some] at ne ⊢
          have hz : (x1, x2) ∈ xs.zip ys := List.mem_of_getElem? (i := j) (by rw [List.getElem?_zip_eq_some]; exact ⟨f1, f2⟩)
          have q := List.all_eq_true.mp c3 _ hz
          simp only [ne, Bool.false_or] at q
          obtain ⟨z, hz⟩ := Option.isSome_iff_exists.mp q
          rw [hz]
          exact ih A.in1 x1 x2 v1 v2 _ _ z (by show A.units + 1 + n + 30 < _; omega) hz rr1 rr2 s1 s2
      next => cases e
variable {pos : Pos} {a b : Expr} {ma mb : M PV}
noncomputable def fOrdD (gi : Int → Int → Bool) (ks : List Nat → List Nat → Bool) (zl : Nat → Nat → Bool) (x y : PV) (h : Store) : R PV := match ordD gi ks zl 30 x y with
  | some b => .ok (.bl b) h
  | none => .no
noncomputable def rOrdD (X : Cx) (op : CmpOp) : R2 := fun v w H Q => ∃ b, (∀ (pins : List (Addr × Obj)) (σ : L2.St) (s : Shared) (u u' : Value), Inv X pins σ H s → RelV v u → RelV w u' → Ob.RcOp op X.A s u u' b) ∧ Q (.bl b) H
theorem op_ordD (hop : ∀ a b, compareOp op a b = richCompare op a b) : OpR X (compareOp op) (rOrdD X op) := by
  intro pins s σ H x y v u Q I rx ry ⟨b, hb, q⟩
  rw [hop]
  exact hb pins σ s v u I rx ry X.prog X.w _ _ ⟨.bl b, H, I, rfl, q⟩
theorem ox_ordD {k : Nat} (O : OrdK op gi ks zl) (hr : Room k X.A) : OpX X W (fOrdD gi ks zl) (rOrdD X op) := by
  intro ρ h σ H x y v w Q p rx ry o
  unfold fOrdD at o
  split at o
  next b q => exact ⟨b, fun pins σ s u u' I r1 r2 => ordD_at O I 30 X.A x y v w u u' b (by have := hr.units; omega) q rx ry r1 r2, o.ok p rfl⟩
  next => exact o.elim
noncomputable abbrev fLtD := fOrdD (fun i j => decide (i < j)) (fun i j => decide (i < j)) (fun i j => decide (i < j))
theorem xe_ltD {k : Nat} (hr : Room k X.A) (ha : XE X W a ma) (hb : XE X W b mb) : XE X W (.Compare a [.Lt] [b] pos) (mBin fLtD ma mb) := xe_cmp (op_ordD fun _ _ => rfl) (ox_ordD ordLt hr) ha hb (nomark _)
end
end Wg

namespace Wg
open PySem PySem.Spec PyProof.Rows L2 SlX
section
variable {X : Cx} {W : WQ} {ρ : Pl} {h : Store} {H : Hp}
/-! ### list.index of numbers, texts, None, truths -/
variable {a e : Expr} {es : List Expr} {ma : M PV} {ms : M (List PV)} {p0 pos : Pos}
end
end Wg

namespace Wg
open PySem PySem.Spec PyProof.Rows L2 SlX
section
variable {X : Cx} {W : WQ} {pos : Pos}
/-! ### a display of a dict that is changed later -/
noncomputable def mDctXN (ps : List (M PV × M PV)) : M PV := fun l h => (mPairs ps l h).noX.bind fun kvs h1 => if kvs.length ≤ 15 ∧ (kvs.all fun kv => (keyP kv.1).isSome) = true then .ok (.ref h1.length) (h1 ++ [.dct (kvs.foldl (fun acc kv => putP acc kv.1 kv.2) [])]) else .no
theorem xe_dctN {ks : List (Option Expr)} {vs : List Expr} {r : List (M PV × M PV)} (h : XPs X W pos ks vs r) (hall : ks.all (·.isSome) = true := by rfl) (hl : ks.length = vs.length := by rfl) (h0 : ks ≠ [] := by exact List.cons_ne_nil _ _) (h15 : ks.length ≤ 15 := by decide) :
    XE X W (.Dict ks vs pos) (mDctXN r) := pe_weak (pe_disp (xps_pps h) hall hl h0 h15) fun σ H Q ⟨ρ, h, l, p, rl, o⟩ q hq => by
  unfold mDctXN at o
  cases e : mPairs r l h with
  | no => rw [e] at o; exact o.elim
  | exc _ _ => rw [e] at o; exact o.elim
  | ok kvs h' =>
    rw [e] at o
    have o : Out (kc X W) ρ H (RV (kc X W)) (fun c d H' => W c d σ H') (if kvs.length ≤ 15 ∧ (kvs.all fun kv => (keyP kv.1).isSome) = true then .ok (.ref h'.length) (h' ++ [.dct (kvs.foldl (fun acc kv => putP acc kv.1 kv.2) [])]) else .no) Q := o
    obtain ⟨⟨c1, c2⟩, o⟩ := out_if o
    have nq := p.fresh hq
    refine tPairs_of (p.hide hq _) (rl.kp (Kp.hide hq _)) ?_
    rw [e]
    intro ρ' H2 ps x p2 rps
    obtain ⟨cs, e1, e2, f⟩ := RVp.keys rps c2
    have ncq : q ∉ (ρ.hide q).c := fun z => nq (.inl z)
    have hv : H2 q = some (.dK []) := x.old q _ ncq (.inl (by rw [show (ρ.hide q).hid = q :: ρ.hid from rfl]; exact List.mem_cons_self)) upd_same
    have nc' : q ∉ ρ'.c := by
      obtain ⟨m, m1, m2⟩ := x.pre
      intro z
      rw [m1] at z
      rcases List.mem_append.mp z with z | z
      · exact ncq z
      · exact (m2 q z).1 (.inr List.mem_cons_self)
    refine ⟨hv, cs, e1, by rw [e2]; exact c1, ?_⟩
    have hh : ρ'.hid = q :: ρ.hid := x.hid
    obtain ⟨c', hid'⟩ := ρ'
    cases hh
    have nc' : q ∉ c' := nc'
    have kk : Kp ⟨c', q :: ρ.hid⟩ (upd H2 q (.dK (mergeK [] cs))) ⟨c' ++ [q], ρ.hid⟩ (upd H2 q (.dK (mergeK [] cs))) := ⟨fun i a e => (List.getElem?_append_left (List.getElem?_eq_some_iff.mp e).1).trans e, fun a o ha e => ⟨fun z => ha (z.elim (fun z => (List.mem_append.mp z).elim .inl fun z => .inr (by rw [List.mem_singleton.mp z]; exact List.mem_cons_self)) fun z => .inr (List.mem_cons_of_mem _ z)), .inl e⟩⟩
    have k2 : Kp ⟨c', q :: ρ.hid⟩ H2 ⟨c' ++ [q], ρ.hid⟩ (upd H2 q (.dK (mergeK [] cs))) := (Kp.hid_upd List.mem_cons_self _).trans kk
    have p3 := p2.hid_upd List.mem_cons_self nc' (.dK (mergeK [] cs))
    have rc : RC (kc X W) ⟨c' ++ [q], ρ.hid⟩ (h' ++ [.dct (kvs.foldl (fun acc kv => putP acc kv.1 kv.2) [])]) (upd H2 q (.dK (mergeK [] cs))) (.dct (kvs.foldl (fun acc kv => putP acc kv.1 kv.2) [])) q := ⟨_, upd_same, f k2 rfl⟩
    have p' := p3.join (ρ' := ⟨c' ++ [q], ρ.hid⟩) rfl kk nc' (fun _ _ => rfl) (fun a ha => p3.hid a (List.mem_cons_of_mem _ ha))
      (fun a ha z => (List.mem_append.mp ha).elim (fun w => p3.dj a w (List.mem_cons_of_mem _ z)) fun w => nq (.inr (by rw [← List.mem_singleton.mp w]; exact z))) rc
    refine o ⟨c' ++ [q], ρ.hid⟩ _ (.ref q) ⟨?_, rfl, fun b u hb st hu => ?_, fun b u hb hu => ?_⟩ p' ⟨q, ?_, rfl⟩
    · obtain ⟨m, m1, m2⟩ := x.pre
      have m1 : c' = ρ.c ++ m := m1
      refine ⟨m ++ [q], by rw [m1, List.append_assoc], fun b hb => (List.mem_append.mp hb).elim (fun hb => ⟨fun z => (m2 b hb).1 (z.elim .inl fun z => .inr (List.mem_cons_of_mem _ z)), ?_⟩) fun z => by rw [List.mem_singleton.mp z]; exact ⟨nq, hq⟩⟩
      have z := (m2 b hb).2
      rwa [upd_ne (fun z => (m2 b hb).1 (.inr (by rw [z]; exact List.mem_cons_self)))] at z
    · rw [upd_ne (ne_of_none hu hq)]
      exact x.old b u hb (st.imp (fun z => List.mem_cons_of_mem _ z) id) (by rw [upd_ne (ne_of_none hu hq)]; exact hu)
    · rw [upd_ne (ne_of_none hu hq)]
      exact x.lok b u hb (by rw [upd_ne (ne_of_none hu hq)]; exact hu)
    · have hl : h'.length = c'.length := p2.len
      show (c' ++ [q])[h'.length]? = some q
      rw [hl, List.getElem?_append_right (Nat.le_refl _)]
      simp
end
end Wg

namespace Wg
open PySem PySem.Spec PyProof.Rows L2 SlX
/-! ### min of a row of texts -/
section
variable {prog : Program} {w : World} {A : Around} {E : Value → Shared → Prop} {s : Shared}
end
section
variable {X : Cx} {W : WQ} {ρ : Pl} {H : Hp} {h : Store} {pos : Pos} {e : Expr} {es : List Expr} {ms : M (List PV)} {p0 : Pos}
end
end Wg

namespace Wg
open PySem PySem.Spec PyProof.Rows L2 SlX
section
variable {M : Model} {A : Around} {E : Value → Shared → Prop} {s : Shared} {K : PySem.W.Frag} {x C f : Addr} {ox : Obj} {od : Option Obj}
/-! ### in, len, str of an instance of an own class -/
theorem contains_own {v : Value} {Q : Bool → Shared → Prop} (Xi : K.In s.heap) (I : PySem.W.InstAt s.heap x ox C od) (hs : PySem.W.findIn K (.ref C) "__contains__" = some (some (.ref f))) (hf : PySem.W.isFn K (.ref f) = true)
    (h : wpAny M A (call (.ref f) [.ref x, v]) (fun r s' => ∃ b, r = .bool b ∧ Q b s') E s) : wpAny M A (contains (.ref x) v) Q E s := by
  unfold contains
  refine wpAny_holding ?_
  refine wpAny_bind (m := specialOf (.ref x) "__contains__") (wpAny_bind (I.type.here ((PySem.W.looks_findIn Xi hs).here ?_)))
  have e : ((some (Value.ref f)) == some Value.none) = false := rfl
  rw [e]
  simp only [Bool.false_eq_true, if_false]
  refine wpAny_bind (m := callSpecialUnlessNone? (.ref x) "__contains__" [v] _) ?_
  refine wpAny_bind (wpAny_bind (I.type.here ((PySem.W.looks_findIn Xi hs).here (wpAny_holding (wpAny_bind ((PySem.W.bind_fn Xi _ (beq_iff_eq.mp hf)).here ?_))))))
  show wpAny M A (if (Value.ref f == Value.none) = true then _ else _) _ E s
  rw [if_neg (show ¬ ((Value.ref f == Value.none) = true) from Bool.false_ne_true)]
  refine wpAny_bind (wpAny_mono h (fun r s' hr => ?_) fun _ _ y => y)
  obtain ⟨b, rfl, q⟩ := hr
  refine wpAny_pure ?_
  exact wpAny_truthy_bool q
theorem in_own {v : Value} {Q : Value → Shared → Prop} (Xi : K.In s.heap) (I : PySem.W.InstAt s.heap x ox C od) (hs : PySem.W.findIn K (.ref C) "__contains__" = some (some (.ref f))) (hf : PySem.W.isFn K (.ref f) = true)
    (h : wpAny M A (call (.ref f) [.ref x, v]) (fun r s' => ∃ b, r = .bool b ∧ Q (.bool b) s') E s) : wpAny M A (compareOp .In v (.ref x)) Q E s :=
  wpAny_bind (contains_own Xi I hs hf (wpAny_mono h (fun r s' ⟨b, e, q⟩ => ⟨b, e, wpAny_pure q⟩) fun _ _ y => y))
end
section
variable {X : Cx} {CX : CXT} {k : Nat} {f g C : Addr} {fd : FuncData} {ps : List Str} {sp : Sp} {E : L2.St → XK}
theorem opS_in (F : FnG X.prog X.w X.K X.mg X.base CX k g fd ps sp) (room : Room k X.A) (ng : NoG X.A) (bi : Binds X.K fd ps []) (pa : ∀ σ, PassesAt CX X σ (E σ)) (fs : PySem.W.findIn X.K (.ref C) "__contains__" = some (some (.ref g))) (ff : PySem.W.isFn X.K (.ref g) = true) :
    OpS X (compareOp .In) fun x y σ H Q => IsIn C y H ∧ sp [y, x] H (fun z H' => ∃ b, z = .bl b ∧ Q (.bl b) H') (E σ) := by
  intro pins s σ H x y u v Q I rx ry ⟨iy, q⟩
  obtain ⟨a, ox, od, rfl, J⟩ := iy.inst I ry
  refine in_own I.kIn J fs ff (wpAny_mono (wpAny_call (run_G (us := [.ref a, u]) (vs := [y, x]) F room ng bi pa I (.cons ry (.cons rx .nil)) q)) (fun r s' ⟨z, H', I', rz, b, e, qb⟩ => ?_) fun _ _ z => z)
  subst e
  cases rz
  exact ⟨b, rfl, .bl b, H', I', rfl, qb⟩
/-- len(x), str(x) -/
noncomputable def noX : XK := fun _ _ _ => False
end
section
variable {X : Cx} {W : WQ} {n m : Str} {F : FN} {k : Nat} {a b o : Expr} {mo mb ma : M PV} {pos p0 : Pos} {e : Expr} {es : List Expr} {ms : M (List PV)} {ρ : Pl} {h : Store} {H : Hp}
/-- a value in an instance -/
noncomputable def mOwnIn (g : Bool → Bool) (n : Str) (F : FN) (mo mb : M PV) : M PV := fun l h => (mo l h).bind fun x h1 => (mb l h1).bind fun y h2 => if isN h2 n y = true then (F [y, x] h2).bind fun z h3 => match z with
  | .bl b => .ok (.bl (g b)) h3
  | _ => .no
  else .no
theorem out_bl {w : WX} {g : Bool → Bool} {K : KC} {r : R PV} {σ : L2.St} {Q : VK} (o : Out K ρ H (RV K) (fun c d H' => w c d σ H') (r.bind fun z h3 => match z with
  | .bl b => .ok (.bl (g b)) h3
  | _ => .no) Q) : Out K ρ H (RV K) (fun c d H' => w c d σ H') r fun v H' => ∃ c, v = .bl c ∧ Q (.bl (g c)) H' :=
  Out.mono (Out.bind o) fun v H1 ⟨x, h1, ρ1, e1, p1, r1, o1⟩ => by
    cases x <;> first | (exact o1.elim; done) | skip
    rename_i c
    exact ⟨c, r1, o1.ok p1 rfl⟩
theorem tM_ownIn {W : WX} {g : Bool → Bool} {r : V → V → L2.St → Hp → VK → Prop} (hr : ∀ (ρ : Pl) (h : Store) (σ : L2.St) (H : Hp) (x y : PV) (v w : V) (Q : VK), Rep (kc X ⟨W, none⟩) ρ h H → RV (kc X ⟨W, none⟩) ρ H x v → RV (kc X ⟨W, none⟩) ρ H y w → isN h n y = true →
      Out (kc X ⟨W, none⟩) ρ H (RV (kc X ⟨W, none⟩)) (fun c d H' => W c d σ H') (F [y, x] h) (fun v H' => ∃ c, v = .bl c ∧ Q (.bl (g c)) H') → r v w σ H Q) : ∀ σ H Q, tM (kc X ⟨W, none⟩) ⟨W, none⟩ (mOwnIn g n F mo mb) σ H Q → tOpS r (tM (kc X ⟨W, none⟩) ⟨W, none⟩ mo) (tM (kc X ⟨W, none⟩) ⟨W, none⟩ mb) σ H Q := by
  intro σ H Q ⟨ρ, h, l, p, rl, o⟩
  refine ⟨ρ, h, l, p, rl, Out.mono (Out.bind o) fun v H1 ⟨x, h1, ρ1, e1, p1, r1, o1⟩ => ⟨ρ1, h1, l, p1, rl.ext e1, Out.mono (Out.bind o1) fun w H2 ⟨y, h2, ρ2, e2, p2, r2, o2⟩ => ?_⟩⟩
  obtain ⟨c, o3⟩ := out_if o2
  exact hr ρ2 h2 σ H2 x y v w Q p2 (r1.ext e2) r2 c (out_bl o3)
theorem xe_ownIn (D : MDef X.prog X.w X.K X.mg X.base k n "__contains__" F) (hr : Room k X.A) (hG : NoG X.A) (tk : Takes X W.w) (ha : XE X W a mo) (hb : XE X W b mb) (hcur : W.cur = none := by rfl) (hi : behindInMarks .In b = false := by with_unfolding_all rfl) : XE X W (.Compare a [.In] [b] pos) (mOwnIn id n F mo mb) := by
  obtain ⟨C, f, fd, ps, hm, sc, me, bi, ok⟩ := D.ex
  obtain ⟨w, c⟩ := W
  obtain rfl : c = none := hcur
  exact pe_weak (pe_cmpS (opS_in ok hr hG bi (fun σ => passAt tk σ) me.at_ me.fn) ha hb hi) (tM_ownIn fun ρ h σ H x y v u Q p r1 r2 c o => ⟨isIn_at p r2 hm c, sp2 p r2 r1 o⟩)
end
end Wg

namespace Wg
open PySem PySem.Spec PyProof.Rows L2 SlX
/-! ### own iteration: a def that says return iter(self.f), f a dict of tuple keys -/
/-- an iterator of keys stands at it -/
noncomputable def KitO (it d : Addr) (n ep : Nat) : HO := .ext fun h => h.IsKeyIter it d 0 n ep
section
variable {prog : Program} {w : World} {A : Around} {E : Value → Shared → Prop} {s : Shared} {X : Cx}
end
/-- promises that know how great the heap was -/
structure FnN (P : Program) (w : World) (K : PySem.W.Frag) (mg : Str → Option Value) (base : Heap) (CX : CXT) (k : Nat) (f : Addr) (fd : FuncData) (ps : List Str) (sp : Nat → Sp) : Prop where
  len : ∀ n xs H Q E, sp n xs H Q E → xs.length = ps.length
  run : ∀ (A : Around) (out : List Env) (s : Shared) (H : Hp) (ar : Args) (us : List Value) (xs : List V) (Q : VK) (E : XK), Room k A → NoG A → Env0 P w K mg base A out s H → BindsTo s fd ar (ps.zip us) → Vals xs us → sp s.heap.objs.size xs H Q E →
    codeAny (model P w) A (.call (.ref f) ar) (CR CX out P w H s Q E) s
section
variable {P : Program} {w : World} {K : PySem.W.Frag} {mg : Str → Option Value} {base : Heap} {k : Nat}
/-- what such a def tells -/
noncomputable def spI (w : World) (K : PySem.W.Frag) (mg : Str → Option Value) (nm : Str) (i : Nat) (n : Nat) : Sp := fun vs H Q E => ∃ ρ h x kvs, Rep ⟨K, mg, none, w⟩ ρ h H ∧ RVs ⟨K, mg, none, w⟩ ρ H [x] vs ∧ fGet nm i x h = .ok (.dcT kvs) h ∧
  ∀ ρ' H' d us, Ext ρ H ρ' H' → Rep ⟨K, mg, none, w⟩ ρ' h H' → (¬ ρ'.has d ∧ Rd H' d (.dT us)) → RVt ⟨K, mg, none, w⟩ ρ' H' kvs us →
    ∀ (o : Obj) (es : Array DictEntry) (ep : Nat) (H2 : Hp) (it : Addr), lockH H' d o (.dT us) H2 → o.data = .dict es ep → H2 it = none → n ≤ it → Q (.ref it) (upd H2 it (KitO it d us.length ep))
end
structure IDef (P : Program) (w : World) (K : PySem.W.Frag) (mg : Str → Option Value) (base : Heap) (k : Nat) (n : Str) (i : Nat) : Prop where
  ex : ∃ C f fd, mg n = some (.ref C) ∧ PySem.W.findIn K (.ref C) "__iter__" = some (some (.ref f)) ∧ PySem.W.isFn K (.ref f) = true ∧ Binds K fd ["self"] [] ∧ FnN P w K mg base (L2.CX P w) k f fd ["self"] (spI w K mg n i)
section
variable {X : Cx} {W : WQ} {tg e : Expr} {m : M PV} {n : Str} {i k : Nat} {C f : Addr} {fd : FuncData} {sp : Nat → Sp} {te : TE}
end
end Wg

namespace Wg
open PySem PySem.Spec PyProof.Rows L2 SlX
section
variable {X : Cx} {W : WQ} {pos : Pos} {e : Expr} {m : M PV}
/-! ### f'..' -/
inductive XJs (X : Cx) (W : WQ) : List Expr → List (M PV) → Prop where
  | nil : XJs X W [] []
  | cons {e : Expr} {m : M PV} {es : List Expr} {ms : List (M PV)} (h : XE X W e m) (r : XJs X W es ms) : XJs X W (e :: es) (m :: ms)
theorem XJs.pj {es : List Expr} {ms : List (M PV)} (h : XJs X W es ms) : PJ X es (ms.map (tM (kc X W) W)) := by
  induction h with
  | nil => exact .nil
  | cons h _ ih => exact .cons h ih
end
end Wg

namespace Wg
open PySem PySem.Spec PyProof.Rows L2 SlX
/-! ### facts of own classes, told by a table -/
theorem IsW.has {K : PySem.W.Frag} {mg : Str → Option Value} {m : Str} {t : List (Str × Bool)} (h : IsW K mg m t) : ∃ C, mg m = some (.ref C) := let ⟨C, q, _⟩ := h.ex; ⟨C, q⟩
noncomputable def IsWT (K : PySem.W.Frag) (mg : Str → Option Value) (c : Value) (t : List (Str × Bool)) : Prop := ∀ (n : Str) (b : Bool) (C' : Addr), t.lookup n = some b → mg n = some (.ref C') → SCls K C' ∧ SIsi K C' ∧ PySem.W.kitOne K (.ref C') c = some b
theorem isW_nil {K : PySem.W.Frag} {mg : Str → Option Value} {c : Value} : IsWT K mg c [] := fun _ _ _ h => by cases h
theorem isW_cons {K : PySem.W.Frag} {mg : Str → Option Value} {c : Value} {n : Str} {b : Bool} {D : Addr} {t : List (Str × Bool)} (hn : mg n = some (.ref D)) (x : SCls K D) (y : SIsi K D) (q : PySem.W.kitOne K (.ref D) c = some b) (r : IsWT K mg c t) : IsWT K mg c ((n, b) :: t) := fun n' b' D' h hm => by
  simp only [List.lookup] at h
  split at h
  next z =>
    cases h
    have : n' = n := by simpa using z
    subst this
    rw [hn] at hm
    cases hm
    exact ⟨x, y, q⟩
  next => exact r n' b' D' h hm
theorem isW_skip {K : PySem.W.Frag} {mg : Str → Option Value} {c : Value} {n : Str} {b : Bool} {t : List (Str × Bool)} (hn : mg n = none) (r : IsWT K mg c t) : IsWT K mg c ((n, b) :: t) := fun n' b' D' h hm => by
  simp only [List.lookup] at h
  split at h
  next z =>
    have : n' = n := by simpa using z
    subst this
    rw [hn] at hm
    cases hm
  next => exact r n' b' D' h hm
end Wg

namespace Wg
open PySem PySem.Spec PyProof.Rows L2 SlX
/-! ### == of dicts of tuple keys, all of whose values are True -/
section
variable {prog : Program} {w : World} {A : Around} {E : Value → Shared → Prop} {s : Shared}
end
section
variable {X : Cx} {W : WQ} {K : KC} {ρ : Pl} {h : Store} {H : Hp} {pos : Pos} {a b : Expr} {ma mb : M PV} {k : Nat}
end
end Wg

namespace Wg
open PySem PySem.Spec PyProof.Rows L2 SlX
section
variable {X : Cx} {W : WQ} {pos : Pos} {a b : Expr} {ma mb : M PV}
/-! ### b is True, b is not False -/
end
end Wg

namespace Wg
open PySem PySem.Spec PyProof.Rows L2 SlX
/-! ### walking a list that is a cell: it is read as it stands at each turn -/
section
variable {K : KC} {W : WQ} {ρ ρ1 : Pl} {h : Store} {H H1 : Hp} {X : Cx} {pos : Pos}
variable {tg iter elt : Expr} {ifs : List Expr} {scope : Scope} {own : List (Str × Nat)} {src : M PV} {g : MG} {t : M Bool} {e : M PV}
variable {body : List Stmt} {mb : MS}
end
end Wg

namespace Wg
open PySem PySem.Spec PyProof.Rows L2 SlX
/-! ### isinstance of instances, built-in classes asked for -/
noncomputable def pubs : List Str := ["Bench", "Drawing", "Growth", "PartTree", "Shell", "Web"]
structure IsOb (K : PySem.W.Frag) (mg : Str → Option Value) : Prop where
  ex : ∀ n ∈ pubs, ∀ C, mg n = some (.ref C) → SCls K C ∧ SIsi K C ∧ ∀ T ∈ tysB, PySem.W.kitOne K (.ref C) (.type T) = some false
noncomputable def ObAt (K : PySem.W.Frag) (mg : Str → Option Value) (n : Str) : Prop := ∀ C, mg n = some (.ref C) → SCls K C ∧ SIsi K C ∧ ∀ T ∈ tysB, PySem.W.kitOne K (.ref C) (.type T) = some false
theorem obAt_none {K : PySem.W.Frag} {mg : Str → Option Value} {n : Str} (h : mg n = none) : ObAt K mg n := fun C e => by rw [h] at e; cases e
theorem obAt_mk {K : PySem.W.Frag} {mg : Str → Option Value} {n : Str} {D : Addr} (h : mg n = some (.ref D)) (a : SCls K D) (b : SIsi K D) (c : ∀ T ∈ tysB, PySem.W.kitOne K (.ref D) (.type T) = some false) : ObAt K mg n := fun C e => by
  rw [h] at e; cases e; exact ⟨a, b, c⟩
theorem isOb_mk {K : PySem.W.Frag} {mg : Str → Option Value} (h1 : ObAt K mg "Bench") (h2 : ObAt K mg "Drawing") (h3 : ObAt K mg "Growth") (h4 : ObAt K mg "PartTree") (h5 : ObAt K mg "Shell") (h6 : ObAt K mg "Web") : IsOb K mg := ⟨fun n hn => by
  simp only [pubs, List.mem_cons, List.not_mem_nil, or_false] at hn
  rcases hn with rfl | rfl | rfl | rfl | rfl | rfl <;> assumption⟩
noncomputable def fIsiO (xs : List PV) (h : Store) : R PV := match xs with
  | [.ins n _, .ty T] => if (pubs.contains n && tysB.contains T) = true then .ok (.bl false) h else .no
  | _ => fIsiB xs h
section
variable {X : Cx} {W : WQ} {ρ : Pl} {h : Store} {H : Hp} {pos p0 : Pos} {e : Expr} {es : List Expr} {ms : M (List PV)}
noncomputable def rIsiP (K : PySem.W.Frag) : List V → Hp → VK → Prop := fun xs H Q => ∃ T : String, rIsiSl K (.type T) xs H Q
theorem cr_isiP : CallR X (.builtin "isinstance") (rIsiP X.K) := fun pins s σ H xs us Q I r ⟨T, h⟩ => call_isiSl (.type T) pins s σ H xs us Q I r h
theorem cx_isiO (O : IsOb X.K X.mg) : CallX X W fIsiO (fun xs H Q => rIsiB X.K xs H Q ∨ rIsiP X.K xs H Q) := by
  intro ρ h σ H xs vs Q p r o
  unfold fIsiO at o
  split at o
  next n ys T =>
    obtain ⟨c, o⟩ := out_if o
    rw [Bool.and_eq_true] at c
    obtain ⟨v, w, e, ⟨a, C, dx, us, e1, hm, t, rs⟩, r2⟩ := rvs2 r
    obtain ⟨s1, s2, s3⟩ := O.ex n (List.contains_iff_mem.mp c.1) C hm
    exact .inr ⟨T, a, C, dx, us.map some, w, false, by rw [e, e1], by rw [show w = _ from r2]; rfl, fun u ru => by rw [show w = _ from r2] at ru; exact ru, .inr ⟨t.2.2.1, t.2.2.2⟩, s1, s2, s3 T (List.contains_iff_mem.mp c.2), o.ok p rfl⟩
  next => exact .inl (cx_isiB ρ h σ H _ vs Q p r o)
theorem xe_isiO (O : IsOb X.K X.mg) (hm : X.mg "isinstance" = none) (ha : XA X W (e :: es) ms) (hg : Gl X "isinstance" := by rfl) (he : starEach (e :: es) X.env = (false, eval e X.env) :: starEach es X.env := by rfl) (hpl : (backTo pos (starEach es X.env)).any (·.1) = false := by rfl) :
    XE X W (.Call (.Name "isinstance" p0) (e :: es) [] pos) (mCall fIsiO ms) := xe_callB ((call_isi.or call_isiO).or cr_isiP) (cx_isiO O) hm boot_isinstance ha hg (by decide) (by decide) he hpl
end
end Wg

namespace Wg
open PySem
/-! ### words: the plain functions, as gen.py prints them, and what they tell -/
/-! is_name -/
noncomputable def s_is_name_0 : MS := mIf (mOrT (mNotT (mB (mCall fIsiO (mCons (mVar 0) (mCons (mC (.ty "str")) (mNil)))))) (mNotT (mB (mChain fLe fLe (mC (.int 1)) (mCall fLenB (mCons (mVar 0) (mNil))) (mC (.int 8)))))) (mRet (mC (.bl false))) (mDone)
noncomputable def s_is_name_1 : MS := mRet (mCall fAll (mCons (mLc (mItS (mVar 0)) [1] (gVar 1) (mYes) (mBin fIn (mVar 1) (mC (.str [97, 98, 99, 100, 101, 102, 103, 104, 105, 106, 107, 108, 109, 110, 111, 112, 113, 114, 115, 116, 117, 118, 119, 120, 121, 122])))) (mNil)))
noncomputable def m_is_name : MS := mSeq s_is_name_0 (s_is_name_1)
noncomputable def f_is_name : FN := runDef 1 2 m_is_name
/-! are_names -/
noncomputable def s_are_names_0 : MS := mRet (mAnd (mCall fIsiO (mCons (mVar 0) (mCons (mC (.ty "tuple")) (mNil)))) (mCall fAll (mCons (mLc (mItT (mVar 0)) [1] (gVar 1) (mYes) (mCall f_is_name (mCons (mVar 1) (mNil)))) (mNil))))
noncomputable def m_are_names : MS := s_are_names_0
noncomputable def f_are_names : FN := runDef 1 2 m_are_names
/-! is_naming -/
/-! _law_mixed -/
/-! _law_is_word -/
section
variable {h : Store}
/-- values whose kind isinstance tells -/
noncomputable def kindP : PV → Option String
  | .non => some "NoneType" | .bl _ => some "bool" | .int _ => some "int" | .str _ => some "str"
  | .tup _ => some "tuple" | .lst _ => some "list" | .scr _ => some "list" | .dct _ => some "dict" | .dctO _ => some "dict"
  | .ins n _ => if pubs.contains n = true then some "object" else none
  | _ => none
/-! letters and names -/
noncomputable def az (c : Nat) : Bool := decide (97 ≤ c) && decide (c ≤ 122)
noncomputable def wordB (x : List Nat) : Bool := decide (1 ≤ x.length) && decide (x.length ≤ 8) && x.all az
@[simp] theorem fLenB_eq {x : PV} (hx : ∀ ys, x ≠ .set ys) (hd : dctRd h x = none) : fLenB [x] h = fLen [x] h := by
  cases x with
  | set ys => exact absurd rfl (hx ys)
  | _ => simp only [fLenB, fLenA, hd]
@[simp] theorem fLenB_str {x : List Nat} (k : x.length ≤ 1000000) : fLenB [.str x] h = .ok (.int x.length) h := fLen_str k
@[simp] theorem fLenB_tup {xs : List PV} : fLenB [.tup xs] h = .ok (.int xs.length) h := (rfl)
@[simp] theorem fLenB_lst {xs : List PV} : fLenB [.lst xs] h = .ok (.int xs.length) h := (rfl)
@[simp] theorem fLenB_scr {xs : List PV} : fLenB [.scr xs] h = .ok (.int xs.length) h := (rfl)
@[simp] theorem fLenB_set {xs : List PV} : fLenB [.set xs] h = .ok (.int xs.length) h := (rfl)
@[simp] theorem fLenB_dct {kvs : List (PV × PV)} : fLenB [.dct kvs] h = .ok (.int kvs.length) h := (rfl)
@[simp] theorem fIn_str {c : Nat} {y : List Nat} : fIn (.str [c]) (.str y) h = .ok (.bl (decide (c ∈ y))) h := (rfl)
/-- values that names are looked for in -/
noncomputable def okN : PV → Bool
  | .str x => decide (x.length ≤ 1000000)
  | x => (kindP x).isSome
end
end Wg

namespace Wg
open PySem
section
variable {h : Store}
/-! ### rows of texts, sorted, without repetition -/
theorem mem_addP {α : Type} [DecidableEq α] {L : List α} {x y : α} : y ∈ addP L x ↔ y ∈ L ∨ y = x := by
  unfold addP
  split
  next q => exact ⟨.inl, fun z => z.elim id fun z => z ▸ q⟩
  next => rw [List.mem_append, List.mem_singleton]
theorem mem_foldl_addP {α : Type} [DecidableEq α] {y : α} : ∀ {xs L : List α}, y ∈ xs.foldl addP L ↔ y ∈ L ∨ y ∈ xs
  | [], L => by simp
  | x :: xs, L => by
    rw [List.foldl_cons, mem_foldl_addP (xs := xs), mem_addP, List.mem_cons]
    exact or_assoc
theorem mem_dedup {α : Type} [DecidableEq α] {xs : List α} {y : α} : y ∈ dedup xs ↔ y ∈ xs := by
  unfold dedup
  rw [mem_foldl_addP]
  exact ⟨fun z => z.elim (fun z => absurd z List.not_mem_nil) id, .inr⟩
/-! ### dicts with no key twice -/
noncomputable def NdK (kvs : List (PV × PV)) : Prop := (kvs.map fun kv => keyP kv.1).Nodup
theorem putP_keys {kvs : List (PV × PV)} {k v : PV} : (putP kvs k v).map (fun kv => keyP kv.1) = if (kvs.any fun kv => keyEq kv.1 k) = true then kvs.map (fun kv => keyP kv.1) else kvs.map (fun kv => keyP kv.1) ++ [keyP k] := by
  unfold putP
  split
  next =>
    rw [List.map_map]
    refine List.map_congr_left fun kv _ => ?_
    show keyP (if keyEq kv.1 k = true then (kv.1, v) else kv).1 = keyP kv.1
    split <;> rfl
  next => rw [List.map_append]; rfl
theorem NdK.put {kvs : List (PV × PV)} {k v : PV} (n : NdK kvs) : NdK (putP kvs k v) := by
  unfold NdK
  rw [putP_keys]
  split
  next => exact n
  next q =>
    refine List.nodup_append.mpr ⟨n, (by simp), fun a ha b hb e => q ?_⟩
    obtain ⟨kv, hkv, rfl⟩ := List.mem_map.mp ha
    rw [List.mem_singleton.mp hb] at e
    exact List.any_eq_true.mpr ⟨kv, hkv, decide_eq_true e⟩
end
end Wg

namespace Wg
open PySem
section
variable {h : Store}
/-! ### namings -/
theorem strsOf_str : ∀ L : List (List Nat), strsOf (L.map .str) = some L
  | [] => rfl
  | x :: L => by rw [List.map_cons, strsOf, strsOf_str L]; rfl
/-- the texts of a row of names -/
noncomputable def txsP : List PV → List (List Nat)
  | [] => []
  | .str x :: r => x :: txsP r
  | _ :: r => txsP r
@[simp] theorem txsP_str : ∀ L : List (List Nat), txsP (L.map .str) = L
  | [] => rfl
  | x :: L => by rw [List.map_cons, txsP, txsP_str L]
/-- values that are looked at -/
structure OkDct (kvs : List (PV × PV)) : Prop where
  nd : NdK kvs
  len : kvs.length < 64
  key : ∀ kv ∈ kvs, okD 0 kv.1 = true ∧ okN kv.1 = true ∧ (keyP kv.1).isSome = true
  val : ∀ kv ∈ kvs, okN kv.2 = true ∧ (∀ x, kv.2 = .str x → okD 0 (.str x) = true)
end
end Wg

namespace Wg
open PySem
section
variable {h : Store}
/-! ### rows against the empty row -/
/-! ### _law_is_word -/
end
end Wg

namespace Wg
open PySem
section
variable {h h' : Store} {a i n : Nat}
theorem Roll.at_ (r : Roll a h h') (ne : i ≠ a) : h'[i]? = h[i]? := by
  obtain ⟨_, l, b, c, _, rfl⟩ := r
  exact List.getElem?_set_ne (Ne.symm ne)
theorem Dice.set {c : Cell} (d : Dice h a) (ne : i ≠ a) : Dice (h.set i c) a := by
  obtain ⟨l, b, c', e, hl⟩ := d
  exact ⟨l, b, c', by rw [List.getElem?_set_ne ne]; exact e, hl⟩
/-! ### _law_mixed -/
end
end Wg

namespace Wg
open PySem
/-! ### a list that is made within a def, and handed over -/
section
variable {h : Store} {xs : List PV} {y : PV} {n k : Nat}
end
end Wg

namespace Wg
open PySem
/-! ### the text that repr tells -/
noncomputable def okS (n : Nat) (x : Str) : Prop := (∀ c ∈ x.cps.toList, c < 0x110000) ∧ x.length ≤ n
theorem okS.le {n m : Nat} {x : Str} (o : okS n x) (h : n ≤ m) : okS m x := ⟨o.1, Nat.le_trans o.2 h⟩
theorem okS.app {n m : Nat} {x y : Str} (a : okS n x) (b : okS m y) : okS (n + m) (x ++ y) := by
  refine ⟨fun c hc => ?_, by rw [strLen_append]; exact Nat.add_le_add a.2 b.2⟩
  have e : (x ++ y).cps.toList = x.cps.toList ++ y.cps.toList := by
    show (x.cps ++ y.cps).toList = _
    simp
  rw [e] at hc
  rcases List.mem_append.mp hc with h | h
  · exact a.1 c h
  · exact b.1 c h
end Wg

set_option maxHeartbeats 2000000
namespace Wg
open PySem PySem.Spec PyProof.Rows
/-! ### list(zip(a, b)): the tuples handed out are kept -/
structure ZSt (h : Heap) (z TI TO i1 i2 l1 l2 S : Addr) (xs ys : Array Value) (i : Nat) : Prop where
  ti : IsPair h TI (.ref i1) (.ref i2)
  a1 : h.IsListIter i1 l1 i
  a2 : h.IsListIter i2 l2 i
  b1 : h.IsList l1 xs
  b2 : h.IsList l2 ys
  st : (IsZip h z TI TO .none ∧ ∃ a b, IsPair h TO a b) ∨ ∃ T f oT, IsZipHeld h z TI TO T f ∧ h.get? T = some oT ∧ T ≠ S
theorem ZSt.keep {h h' : Heap} {z TI TO i1 i2 l1 l2 S : Addr} {xs ys : Array Value} {i : Nat} (x : ZSt h z TI TO i1 i2 l1 l2 S xs ys i) (hk : ∀ b o, b ≠ S → h.get? b = some o → h'.get? b = some o) (n1 : TI ≠ S) (n2 : i1 ≠ S) (n3 : i2 ≠ S) (n4 : l1 ≠ S) (n5 : l2 ≠ S) (n6 : z ≠ S) (n7 : TO ≠ S) : ZSt h' z TI TO i1 i2 l1 l2 S xs ys i :=
  ⟨hk _ _ n1 x.ti, x.a1.at fun o e => hk _ o n2 e, x.a2.at fun o e => hk _ o n3 e, x.b1.at fun o e => hk _ o n4 e, x.b2.at fun o e => hk _ o n5 e, by
    rcases x.st with ⟨hz, a, b, ho⟩ | ⟨T, f, oT, hz, hT, nT⟩
    · exact .inl ⟨hk _ _ n6 hz, a, b, hk _ _ n7 ho⟩
    · exact .inr ⟨T, f, oT, hk _ _ n6 hz, hk _ _ nT hT, nT⟩⟩
section
variable {prog : Program} {w : World} {A : Around} {E : Value → Shared → Prop} {s : Shared} {z TI TO i1 i2 l1 l2 S : Addr} {xs ys : Array Value}
end
/-- the tuples behind S -/
structure ZG (xs ys : Array Value) (S : Addr) (h : Heap) (as : List Addr) : Prop where
  rise : as.Pairwise (· < ·)
  above : ∀ a ∈ as, S < a
  pairs : ∀ (j : Nat) (a : Addr), as[j]? = some a → ∃ x y, xs[j]? = some x ∧ ys[j]? = some y ∧ IsPair h a x y
theorem ZG.there {xs ys : Array Value} {S : Addr} {h : Heap} {as : List Addr} (g : ZG xs ys S h as) {a : Addr} (ha : a ∈ as) : a < h.objs.size := by
  obtain ⟨j, hj⟩ := List.mem_iff_getElem?.mp ha
  obtain ⟨_, _, _, _, e⟩ := g.pairs j a hj
  exact Heap.lt_size e
section
variable {prog : Program} {w : World} {A : Around} {s : Shared} {R : Result → Shared → Prop} {z TI TO i1 i2 l1 l2 S : Addr} {xs ys : Array Value}
end
section
variable {prog : Program} {w : World} {A : Around} {s : Shared} {E : Value → Shared → Prop} {z TI TO i1 i2 l1 l2 : Addr} {xs ys : Array Value}
end
end Wg

set_option maxHeartbeats 2000000
namespace Wg
open PySem PySem.Spec PyProof.Rows L2
section
variable {X : Cx}
variable {a b : Expr} {ta : TA} {p p1 cpos pos : Pos}
end
/-! the rule -/
section
variable {X : Cx} {W : WQ} {K : KC} {ρ : Pl} {H : Hp} {h : Store} {p p1 cpos pos : Pos} {a b : Expr} {ms : M (List PV)}
end
end Wg

set_option maxHeartbeats 2000000
namespace Wg
open PySem PySem.Spec PyProof.Rows L2 SlX
/-! ### list(w) of an own instance whose __iter__ walks a dict of tuple keys, and whose __len__ tells a number -/
section
variable {X : Cx} {n : Str} {i k k2 : Nat} {C f g : Addr} {fd fd2 : FuncData} {ps : List Str} {sp1 : Nat → Sp} {sp2 : Sp}
end
end Wg

set_option maxHeartbeats 2000000
namespace Wg
open PySem PySem.Spec PyProof.Rows L2 SlX
/-! ### list(w): the rule -/
section
variable {X : Cx} {W : WQ} {n : Str} {i k k2 : Nat} {F : FN} {pos p0 : Pos} {e : Expr} {es : List Expr} {ms : M (List PV)}
end
end Wg

namespace Wg
open PySem PySem.Spec PyProof.Rows L2
/-! ### len of a frozen dict of tuple keys -/
section
variable {X : Cx} {W : WQ} {pos p0 : Pos} {e : Expr} {es : List Expr} {ms : M (List PV)}
end
end Wg

namespace Wg
open PySem
/-! ### webs: the plain functions common to the laws, as base.py prints them -/
noncomputable abbrev t_wWeb : List (Str × Bool) := [("Bench", false), ("Drawing", false), ("Growth", false), ("PartTree", false), ("Shell", false), ("Web", true)]
noncomputable abbrev c_MAX_PLACES : PV := .int 16
noncomputable abbrev c_MAX_TIES : PV := .int 60
/-! are_rising -/
noncomputable def s_are_rising_0 : MS := mRet (mAnd (mCall f_are_names (mCons (mVar 0) (mNil))) (mCall fAll (mCons (mLc (mItC fZip (mCons (mVar 0) (mCons (mSl (mVar 0) (mSoO (mC (.int 1))) (mNoO)) (mNil)))) [1, 2] (gTupX 2 (gConsX (gVar 1) (gConsX (gVar 2) (gNilX)))) (mYes) (mBin fLt (mVar 1) (mVar 2))) (mNil))))
noncomputable def m_are_rising : MS := s_are_rising_0
noncomputable def f_are_rising : FN := runDef 1 3 m_are_rising
/-! is_tie -/
noncomputable def s_is_tie_0 : MS := mRet (mAnd (mCall f_are_rising (mCons (mVar 0) (mNil))) (mBin fEq (mCall fLenB (mCons (mVar 0) (mNil))) (mC (.int 2))))
noncomputable def m_is_tie : MS := s_is_tie_0
noncomputable def f_is_tie : FN := runDef 1 1 m_is_tie
/-! are_parts -/
noncomputable def s_are_parts_0 : MS := mIf (mOrT (mNotT (mB (mCall f_are_rising (mCons (mVar 0) (mNil))))) (mNotT (mB (mChain fLe fLe (mC (.int 1)) (mCall fLenB (mCons (mVar 0) (mNil))) (mC c_MAX_PLACES))))) (mRet (mC (.bl false))) (mDone)
noncomputable def s_are_parts_1 : MS := mIf (mOrT (mNotT (mB (mCall fIsiO (mCons (mVar 1) (mCons (mC (.ty "tuple")) (mNil)))))) (mOrT (mB (mBin fGt (mCall fLenB (mCons (mVar 1) (mNil))) (mC c_MAX_TIES))) (mNotT (mB (mCall fAll (mCons (mLc (mItT (mVar 1)) [3] (gVar 3) (mYes) (mCall f_is_tie (mCons (mVar 3) (mNil)))) (mNil))))))) (mRet (mC (.bl false))) (mDone)
noncomputable def s_are_parts_2 : MS := mIf (mNotT (mB (mCall fAll (mCons (mLc (mItC fZip (mCons (mVar 1) (mCons (mSl (mVar 1) (mSoO (mC (.int 1))) (mNoO)) (mNil)))) [4, 5] (gTupX 2 (gConsX (gVar 4) (gConsX (gVar 5) (gNilX)))) (mYes) (mBin fLtD (mVar 4) (mVar 5))) (mNil))))) (mRet (mC (.bl false))) (mDone)
noncomputable def s_are_parts_3 : MS := mSet 2 (mDc false (mItT (mVar 0)) [6] (gVar 6) (mYes) (mVar 6) (mC (.bl true)))
noncomputable def s_are_parts_4 : MS := mRet (mCall fAll (mCons (mLc (mItT (mVar 1)) [7, 8] (gTupX 2 (gConsX (gVar 7) (gConsX (gVar 8) (gNilX)))) (mYes) (mAnd (mBin fIn (mVar 7) (mVar 2)) (mBin fIn (mVar 8) (mVar 2)))) (mNil)))
noncomputable def m_are_parts : MS := mSeq s_are_parts_0 (mSeq s_are_parts_1 (mSeq s_are_parts_2 (mSeq s_are_parts_3 (s_are_parts_4))))
noncomputable def f_are_parts : FN := runDef 2 9 m_are_parts
/-! tie_between -/
/-! neighbours_by -/
noncomputable def s_neighbours_by_0 : MS := mRet (mCall fTuple (mCons (mCall fSortC (mCons (mLc (mItT (mVar 0)) [2, 3] (gTupX 2 (gConsX (gVar 2) (gConsX (gVar 3) (gNilX)))) (mB (mBin fIn (mVar 1) (mTup (mCons (mVar 2) (mCons (mVar 3) (mNil)))))) (mIfE (mB (mBin fEq (mVar 2) (mVar 1))) (mVar 3) (mVar 2))) (mNil))) (mNil)))
noncomputable def m_neighbours_by : MS := s_neighbours_by_0
noncomputable def f_neighbours_by : FN := runDef 2 4 m_neighbours_by
/-! lot_around -/
noncomputable def b_lot_around_0 : MS := mIf (mAndT (mB (mBin fNotIn (mVar 5) (mVar 3))) (mB (mBin fNotIn (mVar 5) (mVar 1)))) (mSeq (mAsg (mC (.bl true)) (gSubX fSetA (mVar 3) (mVar 5))) (mDrop (mMeth "list" fAppend (mVar 4) (mCons (mVar 5) (mNil))))) (mDone)
noncomputable def s_lot_around_0 : MS := mSet 3 (mDctXN [(mVar 2, mC (.bl true))])
noncomputable def s_lot_around_1 : MS := mSet 4 (mLstN (mCons (mVar 2) (mNil)))
noncomputable def s_lot_around_2 : MS := mWhile 100 (mB (mBin fNe (mVar 4) (mLst (mNil)))) (mFor (mItT (mBin fIxA (mVar 0) (mMeth "list" fPop (mVar 4) mNil))) (gVar 5) (b_lot_around_0))
noncomputable def s_lot_around_3 : MS := mRet (mCall fTuple (mCons (mCall fSortC (mCons (mVar 3) (mNil))) (mNil)))
noncomputable def m_lot_around : MS := mSeq s_lot_around_0 (mSeq s_lot_around_1 (mSeq s_lot_around_2 (s_lot_around_3)))
noncomputable def f_lot_around : FN := runDef 3 6 m_lot_around
/-! lots_in -/
noncomputable def s_lots_in_0 : MS := mSet 2 (mLc (mItD (mVar 0)) [5] (gVar 5) (mB (mBin fNotIn (mVar 5) (mVar 1))) (mVar 5))
noncomputable def s_lots_in_1 : MS := mSet 3 (mLstN (mNil))
noncomputable def s_lots_in_2 : MS := mWhile 100 (mB (mBin fNe (mVar 2) (mLst (mNil)))) (mSeq (mSet 4 (mCall f_lot_around (mCons (mVar 0) (mCons (mVar 1) (mCons (mBin fIxA (mVar 2) (mC (.int 0))) (mNil)))))) (mSeq (mDrop (mMeth "list" fAppend (mVar 3) (mCons (mVar 4) (mNil)))) (mSet 2 (mLc (mItL (mVar 2)) [5] (gVar 5) (mB (mBin fNotIn (mVar 5) (mVar 4))) (mVar 5)))))
noncomputable def s_lots_in_3 : MS := mRet (mCall fTuple (mCons (mCall fSortC (mCons (mVar 3) (mNil))) (mNil)))
noncomputable def m_lots_in : MS := mSeq s_lots_in_0 (mSeq s_lots_in_1 (mSeq s_lots_in_2 (s_lots_in_3)))
noncomputable def f_lots_in : FN := runDef 2 6 m_lots_in
/-! Web.__init__ -/
noncomputable def s_Web___init___0 : MS := mIf (mNotT (mB (mCall f_are_parts (mCons (mVar 1) (mCons (mVar 2) (mNil)))))) (mRaise "InvalidWeb") (mDone)
noncomputable def s_Web___init___1 : MS := mPutSl "Web" 2 (mVar 1) (mVar 0)
noncomputable def s_Web___init___2 : MS := mPutSl "Web" 3 (mDc true (mItT (mVar 2)) [3] (gVar 3) (mYes) (mVar 3) (mC (.bl true))) (mVar 0)
noncomputable def s_Web___init___3 : MS := mPutSl "Web" 0 (mDc false (mItT (mVar 1)) [4] (gVar 4) (mYes) (mVar 4) (mCall f_neighbours_by (mCons (mVar 2) (mCons (mVar 4) (mNil))))) (mVar 0)
noncomputable def s_Web___init___4 : MS := mPutSl "Web" 1 (mCall f_lots_in (mCons (mUn (fGet "Web" 0) (mVar 0)) (mCons (mC (.dct [])) (mNil)))) (mVar 0)
noncomputable def m_Web___init__ : MS := mSeq s_Web___init___0 (mSeq s_Web___init___1 (mSeq s_Web___init___2 (mSeq s_Web___init___3 (s_Web___init___4))))
noncomputable def f_Web___init__ : FN := runDef 3 5 m_Web___init__
/-! web_of -/
/-! Web.places -/
noncomputable def s_Web_places_0 : MS := mRet (mUn (fGet "Web" 2) (mVar 0))
noncomputable def m_Web_places : MS := s_Web_places_0
noncomputable def f_Web_places : FN := runDef 1 1 m_Web_places
/-! Web.ties -/
noncomputable def s_Web_ties_0 : MS := mRet (mCall fTuple (mCons (mCall fListB (mCons (mUn (fGet "Web" 3) (mVar 0)) (mNil))) (mNil)))
noncomputable def m_Web_ties : MS := s_Web_ties_0
noncomputable def f_Web_ties : FN := runDef 1 1 m_Web_ties
/-! Web.lines -/
/-! Web.lots -/
noncomputable def s_Web_lots_0 : MS := mRet (mUn (fGet "Web" 1) (mVar 0))
noncomputable def m_Web_lots : MS := s_Web_lots_0
noncomputable def f_Web_lots : FN := runDef 1 1 m_Web_lots
/-! Web.hangs -/
/-! Web.require_place -/
noncomputable def s_Web_require_place_0 : MS := mIf (mOrT (mNotT (mB (mCall f_is_name (mCons (mVar 1) (mNil))))) (mB (mBin fNotIn (mVar 1) (mUn (fGet "Web" 0) (mVar 0))))) (mRaiseV "UnknownName" "word" (mVar 1)) (mDone)
noncomputable def m_Web_require_place : MS := s_Web_require_place_0
noncomputable def f_Web_require_place : FN := runDef 2 2 m_Web_require_place
/-! Web.neighbours -/
/-! Web.common -/
/-! Web.is_tied -/
noncomputable def s_Web_is_tied_0 : MS := mDrop (mMet "Web" f_Web_require_place (mVar 0) (mCons (mVar 1) (mNil)))
noncomputable def s_Web_is_tied_1 : MS := mDrop (mMet "Web" f_Web_require_place (mVar 0) (mCons (mVar 2) (mNil)))
noncomputable def s_Web_is_tied_2 : MS := mRet (mBin fIn (mVar 2) (mBin fIxA (mUn (fGet "Web" 0) (mVar 0)) (mVar 1)))
noncomputable def m_Web_is_tied : MS := mSeq s_Web_is_tied_0 (mSeq s_Web_is_tied_1 (s_Web_is_tied_2))
noncomputable def f_Web_is_tied : FN := runDef 3 3 m_Web_is_tied
/-! Web.require_tied -/
noncomputable def s_Web_require_tied_0 : MS := mIf (mNotT (mB (mMet "Web" f_Web_is_tied (mVar 0) (mCons (mVar 1) (mCons (mVar 2) (mNil)))))) (mRaise "InvalidTie") (mDone)
noncomputable def m_Web_require_tied : MS := s_Web_require_tied_0
noncomputable def f_Web_require_tied : FN := runDef 3 3 m_Web_require_tied
/-! Web.with_tie -/
/-! Web.without_tie -/
/-! Web.with_place -/
/-! Web.without_places -/
noncomputable def b_Web_without_places_0 : MS := mDrop (mMet "Web" f_Web_require_place (mVar 0) (mCons (mVar 2) (mNil)))
noncomputable def s_Web_without_places_0 : MS := mIf (mNotT (mB (mCall fIsiO (mCons (mVar 1) (mCons (mC (.ty "tuple")) (mNil)))))) (mRaise "InvalidOperation") (mDone)
noncomputable def s_Web_without_places_1 : MS := mFor (mItT (mVar 1)) (gVar 2) (b_Web_without_places_0)
noncomputable def s_Web_without_places_2 : MS := mSet 3 (mLc (mItT (mUn (fGet "Web" 2) (mVar 0))) [2] (gVar 2) (mB (mBin fNotIn (mVar 2) (mVar 1))) (mVar 2))
noncomputable def s_Web_without_places_3 : MS := mRet (mCall (fNew "Web" f_Web___init__) (mCons (mCall fTuple (mCons (mVar 3) (mNil))) (mCons (mCall fTuple (mCons (mLc (mItDT (mUn (fGet "Web" 3) (mVar 0))) [4] (gVar 4) (mAndT (mB (mBin fIn (mBin fIxA (mVar 4) (mC (.int 0))) (mVar 3))) (mB (mBin fIn (mBin fIxA (mVar 4) (mC (.int 1))) (mVar 3)))) (mVar 4)) (mNil))) (mNil))))
noncomputable def m_Web_without_places : MS := mSeq s_Web_without_places_0 (mSeq s_Web_without_places_1 (mSeq s_Web_without_places_2 (s_Web_without_places_3)))
noncomputable def f_Web_without_places : FN := runDef 2 5 m_Web_without_places
/-! Web.is_thin -/
/-! Web.renamed -/
/-! Web.__sub__ -/
/-! Web.__contains__ -/
noncomputable def s_Web___contains___0 : MS := mIf (mB (mCall f_is_name (mCons (mVar 1) (mNil)))) (mRet (mBin fIn (mVar 1) (mUn (fGet "Web" 0) (mVar 0)))) (mDone)
noncomputable def s_Web___contains___1 : MS := mRet (mAnd (mCall f_is_tie (mCons (mVar 1) (mNil))) (mBin fIn (mVar 1) (mUn (fGet "Web" 3) (mVar 0))))
noncomputable def m_Web___contains__ : MS := mSeq s_Web___contains___0 (s_Web___contains___1)
noncomputable def f_Web___contains__ : FN := runDef 2 2 m_Web___contains__
/-! Web.__len__ -/
/-! Web.__eq__ -/
/-! Web.__str__ -/
/-! require_web -/
noncomputable def s_require_web_0 : MS := mIf (mNotT (mB (mCall (fIsW "Web" t_wWeb) (mCons (mVar 0) (mCons (mC (.cls "Web")) (mNil)))))) (mRaise "InvalidWeb") (mDone)
noncomputable def m_require_web : MS := s_require_web_0
noncomputable def f_require_web : FN := runDef 1 1 m_require_web
/-! _law_tie -/
noncomputable def s__law_tie_0 : MS := mRet (mTup (mCons (mCall fMinB (mCons (mVar 0) (mCons (mVar 1) (mNil)))) (mCons (mCall fMaxB (mCons (mVar 0) (mCons (mVar 1) (mNil)))) (mNil))))
noncomputable def m__law_tie : MS := s__law_tie_0
noncomputable def f__law_tie : FN := runDef 2 2 m__law_tie
/-! _law_plain -/
noncomputable def b__law_plain_0 : MS := mDrop (mMeth "list" fExtend (mVar 2) (mCons (mLst (mCons (mVar 3) (mCons (mVar 4) (mNil)))) (mNil)))
noncomputable def s__law_plain_0 : MS := mSet 2 (mCall fListN (mCons (mVar 0) (mNil)))
noncomputable def s__law_plain_1 : MS := mFor (mItL (mVar 1)) (gTupX 2 (gConsX (gVar 3) (gConsX (gVar 4) (gNilX)))) (b__law_plain_0)
noncomputable def s__law_plain_2 : MS := mRet (mDctX [(mC (.str [112, 108, 97, 99, 101, 115]), mCall fSortC (mCons (mCall fSetB (mCons (mVar 2) (mNil))) (mNil))), (mC (.str [116, 105, 101, 115]), mCall fSortC (mCons (mCall fSetB (mCons (mLc (mItL (mVar 1)) [3, 4] (gTupX 2 (gConsX (gVar 3) (gConsX (gVar 4) (gNilX)))) (mYes) (mCall f__law_tie (mCons (mVar 3) (mCons (mVar 4) (mNil))))) (mNil))) (mNil)))])
noncomputable def m__law_plain : MS := mSeq s__law_plain_0 (mSeq s__law_plain_1 (s__law_plain_2))
noncomputable def f__law_plain : FN := runDef 2 5 m__law_plain
/-! _law_made -/
noncomputable def s__law_made_0 : MS := mRet (mCall (fNew "Web" f_Web___init__) (mCons (mCall fTuple (mCons (mBin fIxA (mVar 0) (mC (.str [112, 108, 97, 99, 101, 115]))) (mNil))) (mCons (mCall fTuple (mCons (mBin fIxA (mVar 0) (mC (.str [116, 105, 101, 115]))) (mNil))) (mNil))))
noncomputable def m__law_made : MS := s__law_made_0
noncomputable def f__law_made : FN := runDef 1 1 m__law_made
/-! _law_pairs -/
noncomputable def b__law_pairs_0 : MS := mDrop (mMeth "list" fExtend (mVar 1) (mCons (mLc (mItL (mSl (mVar 0) (mSoO (mBin fAdd (mVar 2) (mC (.int 1)))) (mNoO))) [3] (gVar 3) (mYes) (mCall f__law_tie (mCons (mBin fIxA (mVar 0) (mVar 2)) (mCons (mVar 3) (mNil))))) (mNil)))
noncomputable def s__law_pairs_0 : MS := mSet 1 (mLstN (mNil))
noncomputable def s__law_pairs_1 : MS := mFor (mItC fRange1 (mCons (mCall fLenB (mCons (mVar 0) (mNil))) (mNil))) (gVar 2) (b__law_pairs_0)
noncomputable def s__law_pairs_2 : MS := mRet (mCall fSortC (mCons (mVar 1) (mNil)))
noncomputable def m__law_pairs : MS := mSeq s__law_pairs_0 (mSeq s__law_pairs_1 (s__law_pairs_2))
noncomputable def f__law_pairs : FN := runDef 1 4 m__law_pairs
/-! _law_beside -/
/-! _law_lots -/
/-! _law_wheel -/
noncomputable def s__law_wheel_0 : MS := mSet 2 (mLc (mItT (mVar 1)) [3] (gVar 3) (mYes) (mTup (mCons (mVar 0) (mCons (mVar 3) (mNil)))))
noncomputable def s__law_wheel_1 : MS := mRet (mCall f__law_plain (mCons (mLst (mNil)) (mCons (mBin fAdd (mVar 2) (mLc (mItC fRange1 (mCons (mCall fLenB (mCons (mVar 1) (mNil))) (mNil))) [4] (gVar 4) (mYes) (mTup (mCons (mBin fIxA (mVar 1) (mVar 4)) (mCons (mBin fIxA (mVar 1) (mBin fSub (mVar 4) (mC (.int 1)))) (mNil)))))) (mNil))))
noncomputable def m__law_wheel : MS := mSeq s__law_wheel_0 (s__law_wheel_1)
noncomputable def f__law_wheel : FN := runDef 2 5 m__law_wheel
/-! _law_plain_ring -/
/-! _law_behind -/
/-! _law_names -/
/-! _law_drawn_step -/
/-! _law_grown -/
/-! _law_random -/
/-! _law_written -/
noncomputable def s__law_written_0 : MS := mIf (mB (mBin fEq (mVar 0) (mC (.int 0)))) (mRet (mCall f__law_wheel (mCons (mC (.str [104])) (mCons (mTup (mCons (mC (.str [97])) (mCons (mC (.str [98])) (mCons (mC (.str [99])) (mCons (mC (.str [100])) (mNil)))))) (mNil))))) (mDone)
noncomputable def s__law_written_1 : MS := mIf (mB (mBin fEq (mVar 0) (mC (.int 1)))) (mSeq (mSet 1 (mLst (mCons (mTup (mCons (mC (.str [97])) (mCons (mC (.str [98])) (mNil)))) (mCons (mTup (mCons (mC (.str [97])) (mCons (mC (.str [99])) (mNil)))) (mCons (mTup (mCons (mC (.str [98])) (mCons (mC (.str [99])) (mNil)))) (mCons (mTup (mCons (mC (.str [100])) (mCons (mC (.str [101])) (mNil)))) (mCons (mTup (mCons (mC (.str [100])) (mCons (mC (.str [102])) (mNil)))) (mCons (mTup (mCons (mC (.str [101])) (mCons (mC (.str [102])) (mNil)))) (mNil))))))))) (mRet (mCall f__law_plain (mCons (mLst (mNil)) (mCons (mBin fAdd (mVar 1) (mLst (mCons (mTup (mCons (mC (.str [97])) (mCons (mC (.str [100])) (mNil)))) (mCons (mTup (mCons (mC (.str [98])) (mCons (mC (.str [101])) (mNil)))) (mCons (mTup (mCons (mC (.str [99])) (mCons (mC (.str [102])) (mNil)))) (mNil)))))) (mNil)))))) (mDone)
noncomputable def s__law_written_2 : MS := mIf (mB (mBin fEq (mVar 0) (mC (.int 2)))) (mRet (mCall f__law_plain (mCons (mLst (mNil)) (mCons (mCall f__law_pairs (mCons (mLst (mCons (mC (.str [97])) (mCons (mC (.str [98])) (mCons (mC (.str [99])) (mCons (mC (.str [100])) (mCons (mC (.str [101])) (mNil))))))) (mNil))) (mNil))))) (mDone)
noncomputable def s__law_written_3 : MS := mIf (mB (mBin fEq (mVar 0) (mC (.int 3)))) (mRet (mCall f__law_plain (mCons (mLst (mNil)) (mCons (mBin fAdd (mCall f__law_pairs (mCons (mLst (mCons (mC (.str [97])) (mCons (mC (.str [98])) (mCons (mC (.str [99])) (mCons (mC (.str [100])) (mNil)))))) (mNil))) (mCall f__law_pairs (mCons (mLst (mCons (mC (.str [97])) (mCons (mC (.str [98])) (mCons (mC (.str [101])) (mCons (mC (.str [102])) (mNil)))))) (mNil)))) (mNil))))) (mDone)
noncomputable def s__law_written_4 : MS := mIf (mB (mBin fEq (mVar 0) (mC (.int 4)))) (mSeq (mSet 1 (mLst (mCons (mTup (mCons (mC (.str [97])) (mCons (mC (.str [100])) (mNil)))) (mCons (mTup (mCons (mC (.str [97])) (mCons (mC (.str [101])) (mNil)))) (mCons (mTup (mCons (mC (.str [97])) (mCons (mC (.str [102])) (mNil)))) (mCons (mTup (mCons (mC (.str [98])) (mCons (mC (.str [100])) (mNil)))) (mCons (mTup (mCons (mC (.str [98])) (mCons (mC (.str [101])) (mNil)))) (mCons (mTup (mCons (mC (.str [98])) (mCons (mC (.str [102])) (mNil)))) (mNil))))))))) (mRet (mCall f__law_plain (mCons (mLst (mNil)) (mCons (mBin fAdd (mVar 1) (mLst (mCons (mTup (mCons (mC (.str [99])) (mCons (mC (.str [100])) (mNil)))) (mCons (mTup (mCons (mC (.str [99])) (mCons (mC (.str [101])) (mNil)))) (mCons (mTup (mCons (mC (.str [99])) (mCons (mC (.str [102])) (mNil)))) (mNil)))))) (mNil)))))) (mDone)
noncomputable def s__law_written_5 : MS := mIf (mB (mBin fEq (mVar 0) (mC (.int 5)))) (mRet (mCall f__law_plain (mCons (mLst (mNil)) (mCons (mLst (mCons (mTup (mCons (mC (.str [97])) (mCons (mC (.str [98])) (mNil)))) (mCons (mTup (mCons (mC (.str [98])) (mCons (mC (.str [99])) (mNil)))) (mCons (mTup (mCons (mC (.str [99])) (mCons (mC (.str [100])) (mNil)))) (mCons (mTup (mCons (mC (.str [100])) (mCons (mC (.str [101])) (mNil)))) (mCons (mTup (mCons (mC (.str [97])) (mCons (mC (.str [101])) (mNil)))) (mCons (mTup (mCons (mC (.str [97])) (mCons (mC (.str [99])) (mNil)))) (mNil)))))))) (mNil))))) (mDone)
noncomputable def s__law_written_6 : MS := mIf (mB (mBin fEq (mVar 0) (mC (.int 6)))) (mRet (mCall f__law_plain (mCons (mLst (mNil)) (mCons (mBin fAdd (mBin fAdd (mCall f__law_pairs (mCons (mLst (mCons (mC (.str [97])) (mCons (mC (.str [98])) (mCons (mC (.str [99])) (mNil))))) (mNil))) (mCall f__law_pairs (mCons (mLst (mCons (mC (.str [99])) (mCons (mC (.str [100])) (mCons (mC (.str [101])) (mNil))))) (mNil)))) (mLst (mCons (mTup (mCons (mC (.str [101])) (mCons (mC (.str [102])) (mNil)))) (mNil)))) (mNil))))) (mDone)
noncomputable def s__law_written_7 : MS := mRet (mCall f__law_plain (mCons (mLst (mCons (mC (.str [111, 110, 108, 121])) (mNil))) (mCons (mLst (mNil)) (mNil))))
noncomputable def m__law_written : MS := mSeq s__law_written_0 (mSeq s__law_written_1 (mSeq s__law_written_2 (mSeq s__law_written_3 (mSeq s__law_written_4 (mSeq s__law_written_5 (mSeq s__law_written_6 (s__law_written_7)))))))
noncomputable def f__law_written : FN := runDef 1 2 m__law_written
end Wg

namespace Wg
open PySem PySem.Spec PyProof.Rows L2 SlX
/-! ### == of two dicts of like keys, values data -/
section
variable {P : Program} {w : World} {A : Around} {s : Shared}
end
end Wg

namespace Wg
open PySem PySem.Spec PyProof.Rows L2 SlX
section
variable {X : Cx} {W : WQ} {K : KC} {ρ : Pl} {h : Store} {H : Hp} {pos : Pos} {a b : Expr} {ma mb : M PV} {k : Nat}
end
end Wg

namespace Wg
open PySem PySem.Spec PyProof.Rows L2 SlX
/-! ### lambdas without parameters, handed to a def that calls them -/
open Classical in
/-- a(), where the slot i holds the lambda L, that does what g tells -/
noncomputable def mAct (i : Nat) (L : PV) (g : Store → R PV) : M PV := fun l h => if l[i]? = some (some L) then g h else .no
section
variable {X Z : Cx} {scope : Scope} {f c' : Addr} {params : Arguments} {body : Expr} {pm ctv : Value} {σ : L2.St} {H : Hp} {s : Shared} {pins : List (Addr × Obj)} {k : Nat}
/-- the lambda at f, made at s -/
structure LamAt (X : Cx) (scope : Scope) (params : Arguments) (body : Expr) (f c' : Addr) (σ : L2.St) (H : Hp) (s : Shared) : Prop where
  iv : ∃ pins, Inv X pins σ H s
  sy : LamX.LamS X.env.scope scope
  ob : ∃ pm ctv, s.heap.get? f = some (PySem.W.kla_obj "<lambda>" (X.env.qual ++ "<lambda>") params body scope (cloFrom X.env.cells scope.names []) pm c' ctv)
  nw : H f = none
  fr : f ∉ frs X.stack
  bi : ∀ (q : Str) (cl : List (Str × Addr)) (pm cv ctv : Value), bindArgs (PySem.W.kla_fn "<lambda>" q params body scope cl pm cv ctv) ⟨[], []⟩ = pure []
/-- the context of the def that got it -/
noncomputable abbrev getCx (X : Cx) (N : List Str) (x : Str) (sg : Scope) (g : Addr) (cd : Value) (s : Shared) (H : Hp) : Cx := cxOf C8.CX0 X.prog X.w X.K X.mg X.base N x sg g cd X.A X.stack s H C8.E0
theorem pe_act2 {N : List Str} {x a : Str} {sg : Scope} {g : Addr} {cd : Value} {pn : List (Addr × Obj)} {xe : Value → Shared → Prop} {W : WX} {tb : XK → TE} {i : Nat} {p1 p2 : Pos} (m : LamAt X scope params body f c' σ H s)
    (tk : Takes ((getCx X N x sg g cd s H).tr pn xe) W) (room : Room (k + 1) (X.A.deeper (envOfC x sg s.heap.objs.size g cd))) (ng : NoG X.A)
    (go : ∀ (E : XK) (A : Around) (outer : List Env) (s : Shared) (H : Hp), Room k (A.deeper (LamX.lamEnv X scope s.heap.objs.size f c')) → NoG A → PE (LamX.lamCx X A outer s H E scope f c') body (tb E))
    (nth : N[i]? = some a) (vis : Vis sg a) (d1 : (a == ("__debug__" : Str)) = false) (d2 : (a == ("__classdict__" : Str)) = false) :
    PE ((getCx X N x sg g cd s H).tr pn xe) (.Call (.Name a p1) [] [] p2) fun σZ HZ Q => σZ[i]? = some (some (.ref f)) ∧ HZ c' = some (LamX.CodeO c' (X.env.qual ++ "<lambda>")) ∧ tb (WE W σZ) σ HZ Q := by
  obtain ⟨pins0, I⟩ := m.iv
  obtain ⟨pm, ctv, ob⟩ := m.ob
  constructor
  intro pins sZ σZ HZ Q J ⟨q1, q2, q3⟩
  have var := (pe_var (X := (getCx X N x sg g cd s H).tr pn xe) (pos := p1) (i := i) nth vis d1 d2).run pins sZ σZ HZ (fun v H1 => v = .ref f ∧ H1 = HZ) J ⟨.ref f, q1, rfl, rfl⟩
  refine wpAny_Call_Name_kw (thn var ?_)
  rintro u s1 ⟨v, H1, J1, rv, rfl, rfl⟩
  obtain rfl : u = Value.ref f := rv
  have at1 := J1.base.keep f _ ob m.nw m.fr (fun z => nomatch (show f ∈ ([] : List Addr) from z))
  refine PySem.W.callWith_F0 ⟨_, _, _, _, at1⟩ ?_
  have unc : Un (frs X.stack) [] H H1 s.heap s1.heap := J1.base
  have code := (J1.hok c' _ q2).1
  obtain ⟨oc, vs, t, g1, g2, g3⟩ := code
  have pa : PassesAt (L2.CX X.prog X.w) ((getCx X N x sg g cd s H).tr pn xe) σZ (WE W σZ) := passAt tk σZ
  refine wpAny_call (codeAny_mono (R := CR (L2.CX X.prog X.w) (envOfC x sg s.heap.objs.size g cd :: X.stack) X.prog X.w H1 s1 Q (WE W σZ)) ?_ ?_)
  · refine PySem.W.kla_callFunE room.depth at1 rfl m.sy.co m.sy.gen rfl ⟨c', oc, vs, t, rfl, g1, g2, g3⟩ ?_
    rw [List.append_nil, m.bi]
    refine wpAny_pure (wpAny_newFunctionEnv (fun y hy => (m.sy.own y hy).2) (fun y hy => absurd hy (by simp)) (fun h1 ns sb => ⟨J1.nolimit.fresh _ sb, ?_⟩) m.sy.kind)
    have kp : ∀ b o, s1.heap.get? b = some o → h1.get? b = some o := fun b o e => sb.extBut b o (Nat.ne_of_lt (Heap.lt_size e)) (Heap.get?_push_of_some _ e)
    have start : Inv (LamX.lamCx X (X.A.deeper (envOfC x sg s.heap.objs.size g cd)) (envOfC x sg s.heap.objs.size g cd :: X.stack) s1 H1 (WE W σZ) scope f c') [] σ H1 { s1 with heap := h1, toks := s1.toks + ([] : List (Str × Value)).length } :=
      LamX.lam_start2 I m.sy J1.env0 room.hd unc ns kp
    have run := (go (WE W σZ) (X.A.deeper (envOfC x sg s.heap.objs.size g cd)) (envOfC x sg s.heap.objs.size g cd :: X.stack) s1 H1 (room.deeper _) ng).run [] _ _ H1 Q start q3
    show codeAny _ _ (.expr body _) _ _
    refine PySem.W.kla_codeExpr (wpAny_mono run ?_ fun e s' z => z)
    rintro v s' ⟨w', H', J', rv, q⟩
    exact ⟨w', H', J'.os, J'.bare, J'.base, J'.hok, rv, q⟩
  · intro r s' z
    cases r with
    | error e => exact pa pins H1 s1 e s' J1 z
    | ok fl => cases fl <;> first | exact J1.after z | exact False.elim z
end
end Wg

namespace Wg
open PySem PySem.Spec PyProof.Rows L2 SlX
/-! ### a def that gets a lambda; x(lambda: e) -/
noncomputable def tabAt (h : Store) (i : Nat) : Option (Str × Str) := match h[i]? with
  | some (.tab x q) => some (x, q)
  | _ => none
theorem tabAt_at {h : Store} {i : Nat} {x q : Str} (e : tabAt h i = some (x, q)) : h[i]? = some (.tab x q) := by
  unfold tabAt at e
  split at e
  · next y z k => cases e; exact k
  · cases e
/-- x(lambda: m), i the place of the maker's table -/
noncomputable def mLam (i : Nat) (y q : Str) (F : (Store → R PV) → Store → R PV) (m : M PV) : M PV := fun l h => if tabAt h i = some (y, q) then (F (fun h' => m l h') h).noX else .no
/-- the maker's code object and its table -/
structure LamT (K : PySem.W.Frag) (mg : Str → Option Value) (base : Heap) (y : Str) (c P : Addr) : Prop where
  tab : TabOf K mg y c P
  tb : LamX.TabB base mg c P
structure LDef (P : Program) (w : World) (K : PySem.W.Frag) (mg : Str → Option Value) (base : Heap) (k : Nat) (x : Str) (n : Nat) (mb : PV → (Store → R PV) → MS) : Prop where
  ex : ∃ (g : Addr) (pg : Arguments) (bg : List Stmt) (sg : Scope) (dV kV doc pm cdv ct oc : Value) (an od : Option Addr) (osl : Array (Option Value)) (N : List Str) (a : Str),
    mg x = some (.ref g) ∧ PySem.W.keepIn K (.ref g) = true ∧ K.lookup g = some ⟨oc, od, .func (PySem.W.fnOf x x pg bg sg dV kV doc pm an cdv ct), osl⟩ ∧ PySem.W.codeIn K cdv x = true ∧ L2.Binds K (PySem.W.fnOf x x pg bg sg dV kV doc pm an cdv ct) [a] [] ∧
    FnScope N [a] sg ∧ N.length = n ∧ N[0]? = some a ∧ Vis sg a ∧ (a == ("__debug__" : Str)) = false ∧ (a == ("__classdict__" : Str)) = false ∧
    ∀ (A : Around) (outer : List Env) (s : Shared) (H : Hp) (L : PV) (gm : Store → R PV), Room k (A.deeper (envOfC x sg s.heap.objs.size g cdv)) → NoG A →
      (∀ (pn : List (Addr × Obj)) (xe : Value → Shared → Prop) (W : WX) (p1 p2 : Pos), Takes ((cxOf C8.CX0 P w K mg base N x sg g cdv A outer s H C8.E0).tr pn xe) W → XE ((cxOf C8.CX0 P w K mg base N x sg g cdv A outer s H C8.E0).tr pn xe) ⟨W, none⟩ (.Call (.Name a p1) [] [] p2) (mAct 0 L gm)) →
      XSs (cxOf C8.CX0 P w K mg base N x sg g cdv A outer s H C8.E0).nox ⟨fun _ _ _ _ => False, none⟩ bg (mb L gm)
section
variable {X : Cx} {W : WQ} {ρ : Pl} {h : Store} {H H1 : Hp}
/-- what a lambda's making leaves behind: the table as it was, or grown by one code object that is new -/
noncomputable def Grown (KN : Addr → Prop) (P : Addr) (q : Str) (H H1 : Hp) (c' : Addr) : Prop := H1 c' = some (LamX.CodeO c' q) ∧ ((H1 = H ∧ KN c') ∨ ∃ (ps : Array Value) (pos : Pos), H P = some (.tbl ps) ∧ H c' = none ∧ H1 = upd (upd H P (.tbl (ps ++ #[rawInt pos.line, rawInt pos.col, .ref c']))) c' (LamX.CodeO c' q))
theorem lam_made {KN : Addr → Prop} {pins : List (Addr × Obj)} {σ : L2.St} {s : Shared} {c P : Addr} {ps : Array Value} {params : Arguments} {body : Expr} {scope : Scope} {pos : Pos} {E : Value → Shared → Prop} {Q : Value → Shared → Prop} (I : Inv X pins σ H s) (tb : LamX.TabB X.base X.mg c P) (ec : X.env.code = .ref c) (hP : H P = some (.tbl ps)) (tr : TriplesOk ps.toList)
    (known : ∀ (pos : Pos) (cv : Value), codeAmong pos ps.toList = some cv → ∃ c', cv = .ref c' ∧ KN c' ∧ H c' = some (LamX.CodeO c' (X.env.qual ++ "<lambda>"))) (nod : defaultsOf params X.env = ([], [])) (clo : ∀ y ∈ scope.names, y.2 = .free → ∃ c, X.env.cells.lookup y.1 = some c)
    (go : ∀ (f c' : Addr) (pm ctv : Value) (H1 : Hp) (s' : Shared), Inv X pins σ H1 s' → Grown KN P (X.env.qual ++ "<lambda>") H H1 c' →
      s'.heap.get? f = some (PySem.W.kla_obj "<lambda>" (X.env.qual ++ "<lambda>") params body scope (cloFrom X.env.cells scope.names []) pm c' ctv) → H1 f = none → f ∉ frs X.stack → Q (.ref f) s') : wpAny (model X.prog X.w) X.A (eval (.Lambda params body scope pos) X.env) Q E s := by
  refine PySem.W.kla_eval nod ?_
  have bt : s.heap.BuiltinsAt X.mg P := tb.bm.keeps I.bk
  have gP := I.hok P _ hP
  have far : ∀ f, s.heap.objs.size ≤ f → f ∉ frs X.stack := fun f le z => by
    rcases List.mem_cons.mp (I.stkSub _ z) with e | e
    · have := I.lt
      rw [← e] at this
      exact Nat.lt_irrefl _ (Nat.lt_of_lt_of_le this le)
    · exact I.nofs le e
  by_cases hit : ∃ cv, codeAmong pos ps.toList = some cv
  · obtain ⟨cv, hit⟩ := hit
    obtain ⟨c', rfl, kn, co⟩ := known pos cv hit
    refine PySem.W.kla_makeFunctionHit (mg := X.mg) (c := c) (P := P) (ps := ps) (closure_ok clo) I.ok.glob (I.mod.glob.keeps I.bk) ec (tb.code.keeps I.bk) gP tr hit bt ?_
    intro ctv h' tk ex sz
    exact go h'.objs.size c' ((X.mg "__name__").getD .none) ctv H _ (I.kept fun b o e => Heap.get?_push_of_some _ (ex b o e)) ⟨co, .inl ⟨rfl, kn⟩⟩ (Heap.get?_push_size _ rfl) (I.hok.fresh sz) (far _ sz)
  · have miss : codeAmong pos ps.toList = none := by
      cases e : codeAmong pos ps.toList with
      | none => rfl
      | some cv => exact absurd ⟨cv, e⟩ hit
    refine PySem.W.kla_makeFunction (mg := X.mg) (c := c) (P := P) (ps := ps) (closure_ok clo) I.ok.glob (I.mod.glob.keeps I.bk) ec (tb.code.keeps I.bk) gP tr miss tb.gP bt ?_
    rintro c' ctv h' tk ex ge lt ⟨c2, oc, vs, t, e2, k1, k2, k3⟩ grown
    cases e2
    have sz : s.heap.objs.size ≤ h'.objs.size := Nat.le_trans ge (Nat.le_of_lt lt)
    have new := I.hok.fresh ge
    have nP : h'.objs.size ≠ P := Nat.ne_of_gt (Nat.lt_of_lt_of_le (Heap.lt_size gP) sz)
    have J := LamX.inv_table (t' := tk) (more := #[rawInt pos.line, rawInt pos.col, .ref c']) (h' := h'.push (PySem.W.kla_obj "<lambda>" (X.env.qual ++ "<lambda>") params body scope (cloFrom X.env.cells scope.names []) ((X.mg "__name__").getD .none) c' ctv)) I hP
      (fun b o nb e => Heap.get?_push_of_some _ (ex b o nb e)) (Heap.get?_push_of_some _ grown) ge ⟨oc, vs, t, Heap.get?_push_of_some _ k1, k2, k3⟩
    refine go h'.objs.size c' ((X.mg "__name__").getD .none) ctv _ _ J ⟨upd_same, .inr ⟨ps, pos, hP, new, rfl⟩⟩ (Heap.get?_push_size _ rfl) ?_ (far _ sz)
    rw [upd_ne (Nat.ne_of_gt lt), upd_ne nP]
    exact I.hok.fresh sz
/-- a lambda was made: the store stands as it stood -/
theorem Rep.lam {K : KC} {P c' : Addr} {x q : Str} {i : Nat} (p : Rep K ρ h H) (hi : h[i]? = some (.tab x q)) (hp : ρ.c[i]? = some P) (g : Grown (fun c => ¬ ρ.has c) P q H H1 c') : Ext ρ H ρ H1 ∧ Rep K ρ h H1 ∧ ¬ ρ.has c' := by
  obtain ⟨tb, ps, t1, t2, t3⟩ := p.at_ i _ P hi hp
  have mP : P ∈ ρ.c := List.mem_of_getElem? hp
  obtain ⟨co, ⟨rfl, kn⟩ | ⟨ps', pos, q1, q2, e⟩⟩ := g
  · exact ⟨Ext.refl _ _, p, kn⟩
  · rw [t1] at q1
    cases q1
    have nc : P ≠ c' := fun z => by rw [z, q2] at t1; cases t1
    have fr : ¬ ρ.has c' := p.fresh q2
    obtain ⟨e1, p1⟩ := p.new q2 (LamX.CodeO c' q)
    have sw : H1 = upd (upd H c' (LamX.CodeO c' q)) P (.tbl (ps ++ #[rawInt pos.line, rawInt pos.col, .ref c'])) := by
      rw [e]
      funext b
      unfold upd
      by_cases b1 : b = c'
      · subst b1
        rw [if_pos rfl, if_neg (Ne.symm nc), if_pos rfl]
      · rw [if_neg b1, if_neg b1]
    have self : h.set i (.tab x q) = h := by
      apply List.ext_getElem?
      intro j
      by_cases ji : i = j
      · subst ji
        rw [List.getElem?_set_self (List.getElem?_eq_some_iff.mp hi).1, hi]
      · rw [List.getElem?_set_ne ji]
    have p2 := p1.put (i := i) (a := P) (c := .tab x q) (o := .tbl (ps ++ #[rawInt pos.line, rawInt pos.col, .ref c'])) hp (.inl (by rw [hi]; simp)) (by
      refine ⟨tb, _, upd_same, ?_, fun p' cv hcv => ?_⟩
      · rw [show (ps ++ #[rawInt pos.line, rawInt pos.col, .ref c']).toList = ps.toList ++ [rawInt pos.line, rawInt pos.col, .ref c'] by simp]
        exact PySem.TriplesOk_snoc _ _ _ _ t2
      · rw [show (ps ++ #[rawInt pos.line, rawInt pos.col, .ref c']).toList = ps.toList ++ [rawInt pos.line, rawInt pos.col, .ref c'] by simp] at hcv
        rcases LamX.among_app _ t2 hcv with z | z
        · obtain ⟨c0, a1, a2, a3⟩ := t3 p' cv z
          exact ⟨c0, a1, a2, by rw [upd_ne (fun z => a2 (.inl (by rw [z]; exact mP))), upd_ne (ne_of_none a3 q2)]; exact a3⟩
        · exact ⟨c', z, fr, by rw [upd_ne (Ne.symm nc), upd_same]⟩)
    rw [self] at p2
    rw [sw]
    exact ⟨e1.trans (Ext.upd_in mP _), p2, fr⟩
end
section
variable {X : Cx} {W : WQ}
/-- x(lambda: e) -/
theorem xe_lam {x y q : Str} {n i k : Nat} {mb : PV → (Store → R PV) → MS} {F : (Store → R PV) → Store → R PV} {c P : Addr} {params : Arguments} {body : Expr} {scope : Scope} {lpos p pos : Pos} {m : M PV} (D : LDef X.prog X.w X.K X.mg X.base (k + 1) x n mb) (T : LamT X.K X.mg X.base y c P)
    (ind : ∀ L gm h, runDef 1 n (mb L gm) [L] h = F gm h) (room : Room (k + 2) X.A) (ng : NoG X.A) (ec : X.env.code = .ref c)
    (go : ∀ (E : XK) (A : Around) (outer : List Env) (s : Shared) (H : Hp) (f c' : Addr), Room k (A.deeper (LamX.lamEnv X scope s.heap.objs.size f c')) → NoG A → XE (LamX.lamCx X A outer s H E scope f c') ⟨fun cls d _ H' => E cls d H', none⟩ body m)
    (sy : LamX.LamS X.env.scope scope := by exact LamX.lamS_by (by decide +kernel)) (nod : defaultsOf params X.env = ([], []) := by rfl)
    (bi : ∀ (q : Str) (cl : List (Str × Addr)) (pm cv ctv : Value), bindArgs (PySem.W.kla_fn "<lambda>" q params body scope cl pm cv ctv) ⟨[], []⟩ = pure [] := by exact fun _ _ _ _ _ => rfl)
    (eq : X.env.qual ++ "<lambda>" = q := by decide +kernel) (hcur : W.cur = none := by rfl) (gx : Gl X x := by rfl) (hdb : (x == ("__debug__" : Str)) = false := by decide) :
    XE X W (.Call (.Name x p) [.Lambda params body scope lpos] [] pos) (mLam i y q F m) := by
  obtain ⟨g, pg, bg, sg, dV, kV, doc, pm, cdv, ct, oc, an, od, osl, N, a, hm, hk, lk, hcg, hb, Sg, hn, hN, hv, d1, d2, callee⟩ := D.ex
  obtain ⟨w, cur⟩ := W
  obtain rfl : cur = none := hcur
  constructor
  intro pins s σ H Q I ⟨ρ, h, l, rp, rl, o⟩
  unfold mLam at o
  obtain ⟨ht, o⟩ := out_if o
  have hi := tabAt_at ht
  obtain ⟨P', hP'⟩ : ∃ P', ρ.c[i]? = some P' := by
    have : i < ρ.c.length := by rw [← rp.len]; exact (List.getElem?_eq_some_iff.mp hi).1
    exact ⟨_, List.getElem?_eq_getElem this⟩
  obtain ⟨⟨c0, tb⟩, ps, t1, t2, t3⟩ := rp.at_ i _ P' hi hP'
  obtain ⟨rfl, rfl⟩ := tb.uniq T.tab
  refine wpAny_Call_Name_kw (ld_glob I gx hm ?_ hdb)
  refine PySem.W.callWith_K (h₀ := X.base) I.ok.mod.kin hk ?_ (by rfl) (by rfl)
  show wpAny _ _ (spliced ((false, eval (.Lambda params body scope lpos) X.env) :: backTo pos (starEach [] X.env))) _ _ s
  refine Calls.spliced_cons (lam_made (KN := fun c => ¬ ρ.has c) I T.tb ec t1 t2 (fun pos cv z => ?_) nod (sy.has I.ok) fun f c' pm' ctv H1 s' I1 gr ob nw fr => ?_)
  · obtain ⟨c1, e1, e2, e3⟩ := t3 pos cv z
    rw [eq]
    exact ⟨c1, e1, e2, e3⟩
  refine Calls.spliced_nil ⟨I1.kIn, ?_⟩
  rw [eq] at gr
  obtain ⟨ex, rp1, nc⟩ := rp.lam hi hP' gr
  have o1 := Out.ext ex (Out.noX (W' := fun _ _ _ => False) o)
  have rl1 := rl.ext ex
  have made : LamAt X scope params body f c' σ H1 s' := ⟨⟨_, I1⟩, sy, ⟨_, _, ob⟩, nw, fr, bi⟩
  have rL : RV ⟨X.K, X.mg, none, X.w⟩ ρ H1 (.lam f c' q σ l) (.ref f) := ⟨rfl, ⟨nc, gr.1⟩, rvo_iff.mpr rl1.s⟩
  have rc : codeAny (model X.prog X.w) X.A (.call (.ref g) ⟨[.ref f], []⟩) (CR C8.CX0 X.stack X.prog X.w H1 s' Q C8.E0) s' := by
    refine LamX.run_ofS (N := N) (ps := [a]) (us := [.ref f]) (vs := [.ref f]) lk hcg Sg room I1.env0 (hb s' [.ref f] I1.kIn rfl) (.cons rfl .nil) rfl fun room' => ?_
    have body := callee X.A X.stack s' H1 (.lam f c' q σ l) (fun h' => m l h') room' ng (fun pn xe W2 p1 p2 tk => by
      have pa := pe_act2 (X := X) (N := N) (x := x) (sg := sg) (g := g) (cd := cdv) (pn := pn) (xe := xe) (W := W2) (tb := fun E => tM ⟨X.K, X.mg, none, X.w⟩ ⟨fun cls d _ H' => E cls d H', none⟩ m) (i := 0) (p1 := p1) (p2 := p2) made tk room' ng (fun E A outer s2 H2 r2 n2 => ?_) hN hv d1 d2
      · refine pe_weak pa ?_
        rintro σZ HZ QZ ⟨ρZ, hZ, lZ, rpZ, rlZ, oZ⟩
        unfold mAct at oZ
        split at oZ
        next eL =>
          obtain ⟨v, g1, g2, g3, g4⟩ := rlZ.get eL
          rw [g2] at g1
          exact ⟨g1, by rw [eq]; exact g3.2, ρZ, hZ, l, rpZ, ⟨rvo_iff.mp g4, trivial⟩, oZ⟩
        next => exact oZ.elim
      · exact go E A outer s2 H2 f c' r2 n2)
    refine ⟨_, body.nox, ρ, h, initL N.length [.lam f c' q σ l], rp1, RL.start rfl ⟨.ref f, [], rfl, rL, rfl⟩, ?_⟩
    have o2 := o1
    rw [← ind (.lam f c' q σ l), ← hn] at o2
    unfold runDef at o2
    rw [if_pos (show [PV.lam f c' q σ l].length = 1 from rfl)] at o2
    cases e : mb (.lam f c' q σ l) (fun h' => m l h') (initL N.length [.lam f c' q σ l]) h with
    | no => rw [e] at o2; exact o2
    | exc e h' => rw [e] at o2; exact o2
    | ok fl h' =>
      rw [e] at o2
      cases fl with
      | rt z => exact out_handO rp1 o2
      | nx l => exact fun ρ' H' σ' a p' _ => out_handO rp1 o2 ρ' H' .non a p' rfl
      | bk l => exact o2.elim
      | ct l => exact o2.elim
      | ex e l => exact fun ρ' H' c' d σ' a p' _ r => out_handX rp1 o2 ρ' H' c' d a p' r
  refine wpAny_call (codeAny_mono rc fun r s2 z => ?_)
  cases r with
  | error e => exact (show False from z).elim
  | ok fl => cases fl <;> first | exact I1.after z | exact False.elim z
end
end Wg

namespace Wg
open PySem PySem.Spec PyProof.Rows L2 SlX
/-! ### defs that make lambdas, defs that get them -/
/-- a def of the text, its code object at c -/
structure FunL (K : PySem.W.Frag) (x qual : Str) (st : Stmt) (f : Addr) (fd : FuncData) (c : Addr) : Prop where
  ex : ∃ (oc : Value) (od : Option Addr) (kV doc pm : Value) (an : Option Addr) (ct : Value) (osl : Array (Option Value)),
    fd = PySem.W.fnOf x qual (defArgs st) (defBody st) (defScope st) .none kV doc pm an (.ref c) ct ∧ K.lookup f = some ⟨oc, od, .func fd, osl⟩ ∧ PySem.W.codeIn K (.ref c) qual = true
  kp : PySem.W.keepIn K (.ref f) = true
section
variable {P : Program} {w : World} {K : PySem.W.Frag} {mg : Str → Option Value} {base : Heap} {k : Nat} {x qual : Str} {st : Stmt} {f c PT : Addr} {fd : FuncData} {N ps : List Str}
theorem FunL.to (F : FunL K x qual st f fd c) : Fun K x qual st f fd :=
  let ⟨oc, od, kV, doc, pm, an, ct, osl, e, l, cI⟩ := F.ex
  ⟨⟨oc, od, kV, doc, pm, an, .ref c, ct, osl, e, l, cI⟩, F.kp⟩
theorem funL_mk {oc : Value} {od an : Option Addr} {osl : Array (Option Value)} {kV doc pm ct : Value} (l : K.lookup f = some ⟨oc, od, .func (PySem.W.fnOf x qual (defArgs st) (defBody st) (defScope st) .none kV doc pm an (.ref c) ct), osl⟩)
    (cI : PySem.W.codeIn K (.ref c) qual = true) (kp : PySem.W.keepIn K (.ref f) = true) : FunL K x qual st f (PySem.W.fnOf x qual (defArgs st) (defBody st) (defScope st) .none kV doc pm an (.ref c) ct) c := ⟨⟨oc, od, kV, doc, pm, an, ct, osl, rfl, l, cI⟩, kp⟩
theorem tabOf_mk (F : FunL K x qual st f fd c) (hm : mg x = some (.ref f)) (e : PySem.W.codeHdIn K c PT = true) : TabOf K mg x c PT := by
  obtain ⟨oc, od, kV, doc, pm, an, ct, osl, e1, l, _⟩ := F.ex
  unfold PySem.W.codeHdIn at e
  split at e
  · rename_i vs _ hk
    simp only [Bool.and_eq_true] at e
    have e11 := e.1.1.1.1.1
    split at e11
    · rename_i P' h11
      have hP : P' = PT := beq_iff_eq.mp e11
      subst hP
      exact ⟨f, _, _, fd, vs, hm, l, rfl, by rw [e1], hk, rfl, h11⟩
    · cases e11
  · cases e
theorem fn_okL {mb : MS} (F : FunL K x qual st f fd c) (S : FnScope N ps (defScope st))
    (hbody : ∀ (A : Around) (outer : List Env) (s : Shared) (H : Hp) (E : XK), Room k (A.deeper (envOfC qual (defScope st) s.heap.objs.size f (.ref c))) → NoG A →
      XSs (cxOf (L2.CX P w) P w K mg base N qual (defScope st) f (.ref c) A outer s H E) ⟨fun cls d _ H' => E cls d H', none⟩ (defBody st) mb) : FnG P w K mg base (L2.CX P w) (k + 1) f fd ps (spM w K mg (runDef ps.length N.length mb)) := by
  obtain ⟨oc, od, kV, doc, pm, an, ct, osl, rfl, lk, cI⟩ := F.ex
  refine fnG_of lk cI S (fun vs H Q E h => ?_) (fun A outer s H vs Q E hr hG h => ?_)
  · obtain ⟨ρ, h, args, p, r, o⟩ := h
    by_cases hl : args.length = ps.length
    · rw [← r.len]; exact hl
    · unfold runDef at o
      rw [if_neg hl] at o
      exact o.elim
  · obtain ⟨ρ, h, args, p, r, o⟩ := h
    refine ⟨_, hbody A outer s H E hr hG, ρ, h, initL N.length args, p, RL.start rfl r, ?_⟩
    unfold runDef at o
    by_cases hl : args.length = ps.length
    · rw [if_pos hl] at o
      cases q : mb (initL N.length args) h with
      | no => rw [q] at o; exact o
      | exc e h' => rw [q] at o; exact o
      | ok fl h' =>
        rw [q] at o
        cases fl with
        | rt x => exact out_handO p o
        | nx l => exact fun ρ' H' σ' a p' _ => out_handO p o ρ' H' .non a p' rfl
        | bk l => exact o.elim
        | ct l => exact o.elim
        | ex e l => exact fun ρ' H' c' d σ' a p' _ r => out_handX p o ρ' H' c' d a p' r
    · rw [if_neg hl] at o; exact o.elim
/-- a def that gets a lambda -/
theorem ldef_mk {a : Str} {mb : PV → (Store → R PV) → MS} (F : Fun K x x st f fd) (hm : mg x = some (.ref f)) (S : FnScope N [a] (defScope st)) (hN : N[0]? = some a) (hv : Vis (defScope st) a) (bi : Binds K fd [a] [])
    (d1 : (a == ("__debug__" : Str)) = false := by decide) (d2 : (a == ("__classdict__" : Str)) = false := by decide)
    (hbody : ∀ (cdv : Value) (A : Around) (outer : List Env) (s : Shared) (H : Hp) (L : PV) (gm : Store → R PV), Room k (A.deeper (envOfC x (defScope st) s.heap.objs.size f cdv)) → NoG A →
      (∀ (pn : List (Addr × Obj)) (xe : Value → Shared → Prop) (W : WX) (p1 p2 : Pos), Takes ((cxOf C8.CX0 P w K mg base N x (defScope st) f cdv A outer s H C8.E0).tr pn xe) W →
        XE ((cxOf C8.CX0 P w K mg base N x (defScope st) f cdv A outer s H C8.E0).tr pn xe) ⟨W, none⟩ (.Call (.Name a p1) [] [] p2) (mAct 0 L gm)) →
      XSs (cxOf C8.CX0 P w K mg base N x (defScope st) f cdv A outer s H C8.E0).nox ⟨fun _ _ _ _ => False, none⟩ (defBody st) (mb L gm)) : LDef P w K mg base k x N.length mb := by
  obtain ⟨oc, od, kV, doc, pm, an, cdv, ct, osl, rfl, lk, cI⟩ := F.ex
  exact ⟨f, _, _, _, _, kV, doc, pm, cdv, ct, oc, an, od, osl, N, a, hm, F.kp, lk, cI, bi, S, rfl, hN, hv, d1, d2, fun A outer s H L gm hr hG act => hbody cdv A outer s H L gm hr hG act⟩
end
/-- the table of a code object, as K tells -/
noncomputable def tabHd (K : PySem.W.Frag) (c : Addr) : Option Addr := match K.lookup c with
  | some ⟨_, _, .fields vs, _⟩ => (match (vs[11]? : Option Value) with
    | some (.ref P) => some P
    | _ => none)
  | _ => none
/-! ### the end, with tables -/
/-- the law, plainly, from a store of tables on -/
noncomputable def PlainT (ts : List (Str × Str)) (F : FN) : Prop := ∀ ns : List Int, ns.length ≤ 63 → ∃ h, F [.scr (ns.map .int)] (ts.map fun t => .tab t.1 t.2) = .ok (.bl true) h
theorem sp_lawT {w : World} {K : PySem.W.Frag} {mg : Str → Option Value} {F : FN} {ts : List (Str × Str)} {cs : List (Addr × Addr)} (plain : PlainT ts F) (len : ts.length = cs.length) (nd : (cs.map (·.2)).Nodup)
    (tab : ∀ (i : Nat) (t : Str × Str) (p : Addr × Addr), ts[i]? = some t → cs[i]? = some p → TabOf K mg t.1 p.1 p.2) {H : Hp} {a : Addr} {ns : List Int} (hl : ns.length ≤ 63) (hT : ∀ p ∈ cs, H p.2 = some (.tbl #[])) (hS : SqL K H a (ns.map V.int)) : spM w K mg F [.ref a] H (fun v _ => v = .bl true) fun _ _ _ => False := by
  obtain ⟨h, e⟩ := plain ns hl
  have nh : ¬ (⟨cs.map (·.2), []⟩ : Pl).has a ∨ ∃ p ∈ cs, p.2 = a := by
    by_cases c : ∃ p ∈ cs, p.2 = a
    · exact .inr c
    · refine .inl fun z => z.elim (fun z => ?_) fun z => List.not_mem_nil z
      obtain ⟨p, hp, e⟩ := List.mem_map.mp z
      exact c ⟨p, hp, e⟩
  refine ⟨⟨cs.map (·.2), []⟩, ts.map fun t => .tab t.1 t.2, [.scr (ns.map .int)], ⟨by simp [len], nd, fun i c p e1 e2 => ?_, fun p hp => absurd hp List.not_mem_nil, fun _ h => List.not_mem_nil⟩, ⟨.ref a, [], rfl, ⟨a, _, rfl, ?_, rvs_ints ns⟩, rfl⟩, ?_⟩
  · rw [List.getElem?_map, Option.map_eq_some_iff] at e1
    obtain ⟨t, e1, rfl⟩ := e1
    have e3 : (cs.map (·.2))[i]? = some p := e2
    rw [List.getElem?_map, Option.map_eq_some_iff] at e3
    obtain ⟨q, e4, rfl⟩ := e3
    refine ⟨⟨_, tab i t q e1 e4⟩, #[], hT q (List.mem_of_getElem? e4), True.intro, fun pos cv hc => ?_⟩
    have z : codeAmong pos [] = some cv := hc
    simp [codeAmong] at z
  · rcases hS with hS | hS
    · rcases nh with nh | ⟨p, hp, rfl⟩
      · exact .inl ⟨nh, hS⟩
      · have := hT p hp
        rcases hS with z | ⟨o, z⟩ <;> (rw [this] at z; cases z)
    · exact .inr hS
  · rw [e]
    exact fun _ _ v _ _ r => r
theorem law_callGT {P : Program} {w : World} {K : PySem.W.Frag} {mg mb : Str → Option Value} {CX : CXT} {k : Nat} {fa a : Addr} {cs : List (Addr × Addr)} {fd : FuncData} {x : Str} {sp : Sp} {s1 : Shared} {us : List Value} {ns : List Int} (kin : K.In s1.heap) (nsg : s1.heap.Ns mainGlobals mg)
    (nsb : s1.heap.Ns builtinsNs mb) (hbb : ∀ x : Str, x ≠ "__name__" → mb x = bootBuiltins x) (nl : s1.heap.NoLimit) (gn : s1.gens = #[]) (hT : ∀ p ∈ cs, s1.heap.get? p.2 = some { cls := .none, data := .fields #[] }) (nT : ∀ p ∈ cs, K.lookup p.2 = none) (hC : ∀ p ∈ cs, PySem.W.CodeHd s1.heap p.1 p.2)
    (hbm : ∃ (bm : Addr) (ob : Obj), mg "__builtins__" = some (.ref bm) ∧ bm ≠ builtinsNs ∧ s1.heap.get? bm = some ob ∧ ob.cls = .type "module" ∧ ob.dict = some builtinsNs ∧ ob.data = .plain)
    (ga : s1.heap.get? a = some { cls := .type "list", data := .seq us.toArray }) (hi : IntsAre us ns) (hl : ns.length ≤ sizeLine) (room : Room k callerA)
    (F : ∀ base : Heap, K.In base → base.Ns mainGlobals mg → (∀ p ∈ cs, LamX.TabB base mg p.1 p.2) → FnG P w K mg base CX k fa fd [x] sp) (bi : ∀ (s : Shared) (u : Value), BindsTo s fd ⟨[u], []⟩ [(x, u)])
    (hsp : ∀ H : Hp, (∀ p ∈ cs, H p.2 = some (.tbl #[])) → SqL K H a (ns.map V.int) → sp [.ref a] H (fun v _ => v = .bl true) fun _ _ _ => False)
    (no : ∀ H e s', CX [] H s1 (fun _ _ _ => False) e s' → False) : codeAny (model P w) callerA (.call (.ref fa) ⟨[.ref a], []⟩) (fun r s' => r = .ok (.ret (.bool true)) ∧ OldK s1.heap s'.heap ∧ s'.os = s1.os ∧ AllBare s'.gens) s1 := by
  have rv := vals_ints hi
  have lu := hi.length
  -- the abstract heap: the script, if it is not the text's own, and the tables
  obtain ⟨G, gS, gK⟩ : ∃ G : Prop, (G → K.lookup a = none) ∧ (¬ G → ∃ o, K.lookup a = some o) := by
    cases q : K.lookup a with
    | none => exact ⟨True, fun _ => rfl, fun z => absurd trivial z⟩
    | some o => exact ⟨False, fun z => z.elim, fun _ => ⟨o, rfl⟩⟩
  have aT : ∀ p ∈ cs, p.2 ≠ a := fun p hp z => by
    have := hT p hp
    rw [z, ga] at this
    cases this
  have tD : ∀ {b : Addr}, b ∈ cs.map (·.2) → s1.heap.get? b = some { cls := .none, data := .fields #[] } := fun {b} hb => by
    obtain ⟨p, hp, rfl⟩ := List.mem_map.mp hb
    exact hT p hp
  classical
  let H : Hp := fun b => if b ∈ cs.map (·.2) then some (.tbl #[]) else if b = a ∧ G then some (.frz { cls := .type "list", data := .seq us.toArray } (.lst (ns.map V.int))) else none
  have Ht : ∀ p ∈ cs, H p.2 = some (.tbl #[]) := fun p hp => if_pos (List.mem_map.mpr ⟨p, hp, rfl⟩)
  have Hcase : ∀ b u, H b = some u → (b ∈ cs.map (·.2) ∧ u = .tbl #[]) ∨ (b = a ∧ G ∧ u = .frz { cls := .type "list", data := .seq us.toArray } (.lst (ns.map V.int))) := fun b u z => by
    by_cases m : b ∈ cs.map (·.2)
    · have z := (if_pos m).symm.trans z
      cases z
      exact .inl ⟨m, rfl⟩
    · have z := (if_neg m).symm.trans z
      by_cases g : b = a ∧ G
      · have z := (if_pos g).symm.trans z
        cases z
        exact .inr ⟨g.1, g.2, rfl⟩
      · have z := (if_neg g).symm.trans z
        cases z
  have anm : a ∉ cs.map (·.2) := fun z => by
    obtain ⟨p, hp, e⟩ := List.mem_map.mp z
    exact aT p hp e
  have sq : SqL K H a (ns.map V.int) := by
    by_cases g : G
    · exact .inl (.inr ⟨_, (if_neg anm).trans (if_pos ⟨rfl, g⟩)⟩)
    · obtain ⟨o, lk⟩ := gK g
      have e := kin a o lk
      rw [ga] at e
      cases e
      exact .inr ⟨_, us.toArray, _, lk, rfl, rfl, rfl, by rw [List.size_toArray, lu]; exact hl, by simpa using rv⟩
  have hok : HOk P w H s1.heap := fun b u z => by
    rcases Hcase b u z with ⟨m, rfl⟩ | ⟨rfl, _, rfl⟩
    · exact tD m
    · exact ⟨ga, by rw [List.length_map]; exact hl, us, _, rv, ga⟩
  have none_of : ∀ {b : Addr} {o : Obj}, s1.heap.get? b = some o → o.data ≠ .fields #[] → (b = a → ¬ G) → H b = none := fun {b o} e n1 n2 => by
    cases z : H b with
    | none => rfl
    | some u =>
      rcases Hcase b u z with ⟨m, _⟩ | ⟨rfl, g, _⟩
      · rw [tD m] at e
        cases e
        exact absurd rfl n1
      · exact absurd g (n2 rfl)
  have seqN : ∀ {b : Addr} {o : Obj}, s1.heap.get? b = some o → (∀ vs n, o.data ≠ .seq vs n) → o.data ≠ .fields #[] → H b = none := fun {b o} e n1 n2 => none_of e n2 fun z _ => by
    rw [z, ga] at e
    cases e
    exact n1 _ _ rfl
  have un : ∀ {b : Addr} {o : Obj}, s1.heap.get? b = some o → H b = none → (hidT s1.heap H).get? b = some o := fun e n => hidT_get e n
  have nn : ∀ {b : Addr} {m : Str → Option Value}, s1.heap.Ns b m → (hidT s1.heap H).Ns b m := fun {b m} ⟨o, es, ep, e, dd, r⟩ =>
    ⟨o, es, ep, un e (seqN e (fun vs n z => by rw [dd] at z; cases z) fun z => by rw [dd] at z; cases z), dd, r⟩
  have kb : K.In (hidT s1.heap H) := fun b o e => un (kin b o e) (by
    cases z : H b with
    | none => rfl
    | some u =>
      rcases Hcase b u z with ⟨m, _⟩ | ⟨rfl, g, _⟩
      · obtain ⟨p, hp, rfl⟩ := List.mem_map.mp m
        rw [nT p hp] at e
        cases e
      · rw [gS g] at e
        cases e)
  have md : Mod K mg (hidT s1.heap H) := ⟨kb, nn nsg, ⟨mb, nn nsb, hbb⟩, nl.elim fun mc z => ⟨mc, nn z.1, z.2⟩⟩
  have tb : ∀ p ∈ cs, LamX.TabB (hidT s1.heap H) mg p.1 p.2 := fun p hp => by
    obtain ⟨gob, ges, gep, ge, gd, _⟩ := nsg
    refine ⟨?_, ?_, fun z => ?_⟩
    · obtain ⟨o, vs, file, tf, flags, tg, inF, text, tt, e1, r1, r2, r3, r⟩ := hC p hp
      refine ⟨o, vs, file, tf, flags, tg, inF, text, tt, un e1 (seqN e1 (fun vs n z => ?_) fun z => ?_), r1, r2, r3, r⟩
      · rw [r2] at z; cases z
      · rw [r2] at z
        cases z
        simp at r3
    · obtain ⟨bm, ob, b1, b2, b3, b4, b5, b6⟩ := hbm
      refine ⟨bm, ob, b1, b2, fun q => ?_, fun q => ?_, un b3 (seqN b3 (fun vs n z => ?_) fun z => ?_), b4, b5, b6⟩
      · rw [q, ge] at b3
        cases b3
        rw [gd] at b6
        cases b6
      · rw [q, hT p hp] at b3
        cases b3
        cases b6
      · rw [b6] at z; cases z
      · rw [b6] at z; cases z
    · rw [z, hT p hp] at ge
      cases ge
      cases gd
  have e0 : Env0 P w K mg (hidT s1.heap H) callerA [] s1 H := { frames := rfl, mod := md, bs := fun b o e => of_hidT e, bsz := Nat.le_of_eq (hidT_size _ _), funs := trivial, frf := fun b z => absurd (show b ∈ ([] : List Addr) from z) List.not_mem_nil, hok := hok, bare := .of_eq gn }
  refine codeAny_mono ((F _ kb (nn nsg) tb).run callerA [] s1 H ⟨[.ref a], []⟩ [.ref a] [.ref a] _ _ room rfl e0 (bi s1 (.ref a)) (.cons rfl .nil) (hsp H Ht sq)) fun r s' z => ?_
  cases r with
  | error e => exact (no H e s' z).elim
  | ok fl =>
    cases fl <;> first | exact False.elim z | skip
    rename_i u
    obtain ⟨v, H', so, br, ch, hok', r', q⟩ := z
    obtain rfl : v = .bl true := q
    obtain rfl : u = Value.bool true := r'
    have kept : ∀ b o, b ∉ cs.map (·.2) → s1.heap.get? b = some o → s'.heap.get? b = some o := fun b o nb e => by
      cases y : H b with
      | none => exact ch.keep b o e y (fun y => absurd (show b ∈ ([] : List Addr) from y) List.not_mem_nil) List.not_mem_nil
      | some u =>
        rcases Hcase b u y with ⟨m, _⟩ | ⟨rfl, _, rfl⟩
        · exact absurd m nb
        · obtain ⟨g1, _⟩ := hok b _ y
          obtain ⟨g2, _⟩ := hok' b _ (ch.frzs b _ _ y)
          rw [e] at g1
          cases g1
          exact g2
    have more : ∀ p ∈ cs, ∃ qs : Array Value, s'.heap.get? p.2 = some { cls := .none, data := .fields qs } := fun p hp => by
      obtain ⟨qs, y⟩ := ch.tbls p.2 #[] (Ht p hp)
      exact ⟨_, hok' p.2 _ y⟩
    refine ⟨rfl, ⟨fun b o e => ?_, fun b o e => ?_⟩, so, br⟩
    · by_cases m : b ∈ cs.map (·.2)
      · obtain ⟨p, hp, rfl⟩ := List.mem_map.mp m
        obtain ⟨qs, y⟩ := more p hp
        rw [hT p hp] at e
        cases e
        exact .inr (.inl ⟨((hC p hp).tab (hT p hp)).isCodeTable, rfl, #[], qs, rfl, by rw [Array.empty_append]; exact y⟩)
      · exact .inl (kept b o m e)
    · by_cases m : b ∈ cs.map (·.2)
      · obtain ⟨p, hp, rfl⟩ := List.mem_map.mp m
        obtain ⟨qs, y⟩ := more p hp
        exact ⟨_, y⟩
      · exact ⟨o, kept b o m e⟩
/-- the tables of the defs of these names are empty, their code objects as K tells -/
theorem walk_GT {l : PySem.W.OpenLaw} {n k : Nat} {q : Program} {loose : List Str} {XP : (Str → Option Value) → Heap → Prop} {YP : World → Heap → Prop} {d : DefRec} {K : Params → PySem.W.Frag} {CX : World → CXT} {sp : World → (Str → Option Value) → Sp} {x : Str} {ts : List (Str × Str)} (hn : l.most = some n) (hn2 : n ≤ sizeLine) (hdf : d.params.defaults = [])
    (room : Room k callerA) (hY : ∀ (w : World) (h : Heap), YP w h → (K w.params).In h) (rec : ∀ t ∈ ts, ((recsOf q).any fun e => e.name == t.1) = true)
    (F : ∀ (w : World) (mg : Str → Option Value) (fa : Addr) (h : Heap), (K w.params).In h → h.Ns mainGlobals mg → mg d.name = some (.ref fa) → ∃ (fd : FuncData) (cs : List (Addr × Addr)), ts.length = cs.length ∧ (cs.map (·.2)).Nodup ∧ (∀ (i : Nat) (t : Str × Str) (p : Addr × Addr), ts[i]? = some t → cs[i]? = some p → TabOf (K w.params) mg t.1 p.1 p.2) ∧
      (∀ p ∈ cs, (K w.params).lookup p.2 = none) ∧ (∀ p ∈ cs, PySem.W.codeHdIn (K w.params) p.1 p.2 = true) ∧ (∀ (s : Shared) (u : Value), BindsTo s fd ⟨[u], []⟩ [(x, u)]) ∧ ∀ base : Heap, (K w.params).In base → base.Ns mainGlobals mg → (∀ p ∈ cs, LamX.TabB base mg p.1 p.2) → FnG l.prog w (K w.params) mg base (CX w) k fa fd [x] (sp w mg))
    (hsp : ∀ (w : World) (mg : Str → Option Value) (cs : List (Addr × Addr)) (H : Hp) (a : Addr) (ns : List Int), ns.length ≤ n → ts.length = cs.length → (cs.map (·.2)).Nodup → (∀ (i : Nat) (t : Str × Str) (p : Addr × Addr), ts[i]? = some t → cs[i]? = some p → TabOf (K w.params) mg t.1 p.1 p.2) → (∀ p ∈ cs, H p.2 = some (.tbl #[])) → SqL (K w.params) H a (ns.map V.int) → sp w mg [.ref a] H (fun v _ => v = .bl true) fun _ _ _ => False)
    (no : ∀ (w : World) (H : Hp) (s : Shared) (e : Value) (s' : Shared), CX w [] H s (fun _ _ _ => False) e s' → False) : PySem.W.WalkO q loose XP YP l.row.toRowW d [] (fun f vs => PySem.call f vs) := by
  refine Att.attach_call hn hdf fun w s0 s1 mg mb fa o pm cd doc a us ns G Y _ _ _ hmg hobj hints hlen hg => ?_
  have kin := hY w _ Y
  obtain ⟨fd, cs, len, nd, tab, nT, hd, bi, ok⟩ := F w mg fa _ kin G.T.g hmg
  have hT : ∀ p ∈ cs, s1.heap.get? p.2 = some { cls := .none, data := .fields #[] } := fun p hp => by
    obtain ⟨i, hi, ei⟩ := List.mem_iff_getElem.mp hp
    have lt : i < ts.length := by omega
    obtain ⟨f, o1, oc, fd1, vs, a1, a2, a3, a4, a5, a6, a7⟩ := tab i ts[i] p (List.getElem?_eq_getElem lt) (by rw [List.getElem?_eq_getElem hi, ei])
    obtain ⟨dL, hm, hn1⟩ := List.any_eq_true.mp (rec ts[i] (List.getElem_mem lt))
    have hn2 : dL.name = ts[i].1 := beq_iff_eq.mp hn1
    obtain ⟨a', o', fd', c', P', h1, h2, h3, h4, h5, h6⟩ := G.T.tab dL hm
    rw [hn2, a1] at h1
    cases h1
    rw [kin _ _ a2] at h2
    cases h2
    rw [a3] at h3
    cases h3
    rw [a4] at h4
    cases h4
    obtain ⟨⟨oc', vc, e1, _, e3, e4⟩, hP⟩ := h6
    rw [kin _ _ a5] at e1
    cases e1
    rw [a6] at e3
    cases e3
    rw [a7] at e4
    cases e4
    exact hP
  exact law_callGT kin G.T.g G.T.b G.T.builtins G.T.nolimit hg hT nT (fun p hp => PySem.W.codeHd_of_K kin (hd p hp)) G.T.bmain hobj hints (Nat.le_trans hlen hn2) room ok bi (fun H hO hS => hsp w mg cs H a ns hlen len nd tab hO hS) fun H e s' => no w H s1 e s'
end Wg

namespace PySem
open AutoSeq1 (wpAny_loadPart')
end PySem
namespace Wg
open PySem PySem.Spec PyProof.Rows L2 SlX
/-! ### enumerate(tuple) -/
section
variable {X : Cx} {W : WQ} {a : Expr} {pos : Pos}
end
end Wg

namespace Wg
open PySem PySem.Spec PyProof.Rows L2 SlX HT
/-! ### t[::-1] -/
section
variable {prog : Program} {w : World} {A : Around} {E : Value → Shared → Prop} {s : Shared}
end
end Wg

namespace Wg
open PySem PySem.Spec PyProof.Rows L2 SlX
/-! ### y = {k: v for ..} -/
section
variable {X : Cx} {pins : List (Addr × Obj)} {σ : L2.St} {H H' : Hp} {s : Shared}
end
section
variable {kr : Nat} {X : Cx} {W : WQ} {tg iter kx vx : Expr} {ifs : List Expr} {scope : Scope} {own : List (Str × Nat)} {pos : Pos} {src : M (List PV)} {g : MG} {t : M Bool} {mk mv : M PV}
end
end Wg

namespace Wg
open PySem PySem.Spec PyProof.Rows L2 SlX
/-! ### t.index(x), t a tuple of three or more texts -/
section
variable {X : Cx} {o e : Expr} {es : List Expr} {apos cpos : Pos} {to : TE} {t : TA}
end
noncomputable def goodP : PV → Bool
  | .tup xs => decide (2 < xs.length)
  | _ => false
noncomputable def fTupIx (x : PV) (ys : List PV) (h : Store) : R PV := match x, ys with
  | .tup xs, [.str z] => match strsOf xs with
    | some L => match L.findIdx? fun w => decide (w = z) with
      | some j => .ok (.int (j : Nat)) h
      | none => .no
    | none => .no
  | _, _ => .no
/-- t.index(x) -/
noncomputable def mTix (o : M PV) (a : M (List PV)) : M PV := fun l h => (o l h).bind fun x h1 => if goodP x = true then (a l h1).bind fun xs h2 => fTupIx x xs h2 else .no
@[simp] theorem mTix_at (o : M PV) (a : M (List PV)) (l : Lv) (h : Store) : mTix o a l h = (o l h).bind fun x h1 => if goodP x = true then (a l h1).bind fun xs h2 => fTupIx x xs h2 else .no := (rfl)
section
variable {X : Cx} {W : WQ} {o e : Expr} {es : List Expr} {mo : M PV} {ms : M (List PV)} {apos cpos : Pos}
end
end Wg

namespace Wg
open PySem PySem.Spec PyProof.Rows L2 SlX
/-! ### walking the values of a dict that nobody changes -/
section
variable {X : Cx} {W : WQ} {K : KC} {ρ : Pl} {H : Hp} {h : Store} {e tg : Expr} {m : M PV} {td : TE} {apos cpos : Pos}
end
end Wg

namespace Wg
open PySem PySem.Spec PyProof.Rows L2 SlX
/-! ### s.strip(signs) -/
section
variable {X : Cx} {W : WQ}
variable {a e : Expr} {es : List Expr} {ma : M PV} {ms : M (List PV)} {p0 pos : Pos}
end
end Wg

namespace Wg
open PySem PySem.Spec PyProof.Rows L2 SlX
/-! ### x in t, t a tuple of data of any depth -/
section
variable {X : Cx} {W : WQ} {ρ : Pl} {h : Store} {H : Hp}
noncomputable def rInTD (K : PySem.W.Frag) (g : Bool → Bool) : R2 := fun x y H Q => ∃ d ds, Dp K H x d ∧ Dp K H y (.tuple ds) ∧ SeqAt.shaped d = true ∧ SeqAt.shaped (.tuple ds) = true ∧ Q (.bl (g (ds.any fun z => PyData.eqv z d))) H
theorem room_tup {d : PyData} {ds : List PyData} {A : Around} (sd : SeqAt.shaped d = true) (hu : A.units + 65 < cLine) : A.units + 1 + min (PyData.depthAll ds) d.depth < cLine := room_in_shaped sd hu
theorem canT {ds : List PyData} (s : SeqAt.shaped (.tuple ds) = true) : PyData.canLayAll0 ds = true := by
  have k := SeqAt.canLay_of_shaped s
  simpa only [PyData.canLay0] using k
theorem op_notInTD (hu : X.A.units + 65 < cLine) : OpR X (compareOp .NotIn) (rInTD X.K not) := by
  intro pins s σ H x y v u Q I rx ry h
  obtain ⟨d, ds, hd, he, sd, se, q⟩ := h
  obtain ⟨as, r1⟩ := Dp.reads I d x v hd rx
  obtain ⟨bs, r2⟩ := Dp.reads I (.tuple ds) y u he ry
  exact SeqAt.notIn_tuple_reads r2 r1 (canT se) (SeqAt.canLay_of_shaped sd) (room_tup sd hu) ⟨.bl _, H, I, rfl, q⟩
noncomputable def inTD (x y : PV) : Option Bool := match y with
  | .tup ys => if (okD 60 x && ys.all (okD 60)) = true then some (ys.any fun y => eqPV y x) else none
  | _ => none
noncomputable def fNotInTD (x y : PV) (h : Store) : R PV := match inTD x y with
  | some b => .ok (.bl (!b)) h
  | none => .no
theorem inTD_at {K : KC} {g : Bool → Bool} {x y : PV} {v w : V} {b : Bool} {Q : VK} (rx : RV K ρ H x v) (ry : RV K ρ H y w) (e : inTD x y = some b) (q : Q (.bl (g b)) H) : rInTD K g v w H Q := by
  unfold inTD at e
  split at e
  next ys =>
    by_cases c : (okD 60 x && ys.all (okD 60)) = true
    · rw [if_pos c] at e
      cases e
      rw [Bool.and_eq_true] at c
      obtain ⟨a, vs, e1, t, rs⟩ := tup_at ry
      obtain ⟨d, d1, d2, d3⟩ := okD_at 60 x c.1
      obtain ⟨ds, s1, s2, s3⟩ := okDs_at c.2
      refine ⟨d, ds, toD_dp x v d rx d1, by rw [e1]; exact .tup t (toDs_dp ys vs ds rs s1), ?_, ?_, by rw [any_data d1 s1]; exact q⟩
      · show (_ && decide _) = true
        rw [d2, decide_eq_true (show d.depth ≤ 64 by omega)]; rfl
      · show (PyData.canLay0 (.tuple ds) && decide (PyData.depth (.tuple ds) ≤ 64)) = true
        have : PyData.depth (.tuple ds) ≤ 64 := by simp only [PyData.depth]; omega
        rw [decide_eq_true this]
        simp only [PyData.canLay0, s2, Bool.and_self]
    · rw [if_neg c] at e; cases e
  next => cases e
theorem ox_notInTD : OpX X W fNotInTD (rInTD X.K not) := by
  intro ρ h σ H x y v w Q p rx ry o
  unfold fNotInTD at o
  split at o
  next b q => exact inTD_at rx ry q (o.ok p rfl)
  next => exact o.elim
variable {a b : Expr} {ma mb : M PV} {pos : Pos}
end
end Wg

namespace Wg
open PySem PySem.Spec PyProof.Rows L2 SlX
/-! ### list(text): its signs -/
section
variable {X : Cx} {W : WQ}
variable {e : Expr} {es : List Expr} {ms : M (List PV)} {p0 pos : Pos}
end
end Wg

namespace Wg
open PySem PySem.Spec PyProof.Rows L2 SlX
/-! ### match t: case [a, b, ..] if test, for a tuple t -/
section
variable {X : Cx} {W : WQ}
/-- patterns that are plain names -/
inductive Caps : List Pattern → List Str → Prop
  | nil : Caps [] []
  | cons {x : Str} {p : Pos} {ps : List Pattern} {xs : List Str} : Caps ps xs → Caps (.MatchAs none (some x) p :: ps) (x :: xs)
theorem Caps.each {M : Model} {A : Around} {E : Value → Shared → Prop} {s : Shared} {env : Env} {Q : Option (List (Str × Value)) → Shared → Prop} : ∀ {ps : List Pattern} {xs : List Str} {vs : List Value}, Caps ps xs → vs.length = xs.length → Q (some (xs.zip vs)) s → wpAny M A (matchEach ps env vs) Q E s := by
  intro ps xs vs c
  induction c generalizing vs Q with
  | nil =>
    intro l q
    cases vs with
    | nil => exact wpAny_matchEach_nil q
    | cons v vs => simp at l
  | cons c ih =>
    intro l q
    cases vs with
    | nil => simp at l
    | cons v vs =>
      refine wpAny_matchEach_cons (wpAny_matchPattern_Capture (ih (by simpa using l) ?_)) rfl
      exact q
theorem Caps.len {ps : List Pattern} {xs : List Str} (c : Caps ps xs) : ps.length = xs.length := by
  induction c with
  | nil => rfl
  | cons _ ih => rw [List.length_cons, List.length_cons, ih]
/-- the slots filled one after the other -/
noncomputable def bindAll : List Nat → List PV → Lv → Lv
  | j :: js, x :: xs, l => bindAll js xs (l.set j (some x))
  | _, _, l => l
/-- the names of the slots -/
inductive CapN (X : Cx) (cur : Option Cur) : List Str → List Nat → Prop
  | nil : CapN X cur [] []
  | cons {x : Str} {j : Nat} {xs : List Str} {js : List Nat} : X.N[j]? = some x → Loc X.env.scope x → curNe cur j = true → (X.fn x = true ∨ X.env.scope.names.lookup x = some .local) → CapN X cur xs js → CapN X cur (x :: xs) (j :: js)
theorem CapN.len {cur : Option Cur} {xs : List Str} {js : List Nat} (c : CapN X cur xs js) : xs.length = js.length := by
  induction c with
  | nil => rfl
  | cons _ _ _ _ _ ih => rw [List.length_cons, List.length_cons, ih]
theorem CapN.run (hN : X.N.Nodup) {xs : List Str} {js : List Nat} (c : CapN X W.cur xs js) {pins : List (Addr × Obj)} {ρ : Pl} {H : Hp} {h : Store} (p : Rep (kc X W) ρ h H) :
    ∀ {s : Shared} {σ : L2.St} {l : Lv} {ys : List PV} {vs : List V} {us : List Value} {E : Value → Shared → Prop}, Inv X pins σ H s → RL (kc X W) ρ H l σ → RVs (kc X W) ρ H ys vs → Vals vs us → us.length = xs.length →
      wpAny (model X.prog X.w) X.A (assignInOrder ((xs.zip us).map fun (n, _) => bindName X.env n) ((xs.zip us).map (·.2))) (fun _ s' => ∃ σ', Inv X pins σ' H s' ∧ RL (kc X W) ρ H (bindAll js ys l) σ') E s := by
  induction c with
  | nil =>
    intro s σ l ys vs us E I rl rv vu hl
    cases us with
    | nil => exact assignInOrder_nil ⟨σ, I, by cases ys <;> exact rl⟩
    | cons u us => simp at hl
  | @cons x j xs js hj hx hc hf c ih =>
    intro s σ l ys vs us E I rl rv vu hl
    cases vu with
    | nil => simp at hl
    | @cons v vs u us r vu =>
      cases ys with
      | nil => cases rv
      | cons y ys =>
        obtain ⟨v', vs', e, r1, r2⟩ := rv
        injection e with e1 e2
        subst e1 e2
        refine assignInOrder_cons (wpAny_bindName (store_ok I hN hj hx r (fun s' I' => ?_) hf))
        exact ih I' (rl.set hc r1) r2 vu (by simpa using hl)
/-- cases, of a value -/
noncomputable abbrev MK := PV → MS
structure XCs (X : Cx) (W : WQ) (cs : List MatchCase) (k : MK) : Prop where
  run : ∀ (pins : List (Addr × Obj)) (s : Shared) (σ : L2.St) (H : Hp) (D : Ends) (v : V) (u : Value) (first : Bool) (ρ : Pl) (h : Store) (l : Lv) (x : PV), Inv X pins σ H s → RelV v u → Rep (kc X W) ρ h H → RL (kc X W) ρ H l σ → RV (kc X W) ρ H x v → OutS (kc X W) W ρ H (k x l h) D →
    wpAny (model X.prog X.w) X.A (matchCases cs X.env u first) (SP X pins D) X.xe s
end
end Wg

namespace Wg
open PySem PySem.Spec PyProof.Rows L2 SlX
/-! ### a, *b = a tuple -/
section
variable {prog : Program} {w : World} {A : Around} {E : Value → Shared → Prop} {s : Shared}
end
section
variable {X : Cx} {W : WQ}
end
end Wg

namespace Wg
open PySem PySem.Spec PyProof.Rows L2 SlX
/-! ### (a, b, ..) = a list -/
section
variable {X : Cx} {W : WQ} {pos : Pos}
end
end Wg

namespace Wg
open PySem PySem.Spec PyProof.Rows L2 SlX
/-! ### s.split(sep) -/
section
variable {X : Cx} {W : WQ}
variable {a e : Expr} {es : List Expr} {ma : M PV} {ms : M (List PV)} {p0 pos : Pos}
end
end Wg

set_option maxHeartbeats 4000000
namespace Wg
open PySem PySem.Spec PyProof.Rows L2 SlX HT
/-! ### t * k, t a tuple -/
section
variable {X : Cx} {W : WQ}
variable {a b : Expr} {ma mb : M PV} {pos : Pos}
end
end Wg

namespace Wg
open PySem PySem.Spec PyProof.Rows L2 SlX
/-! ### a, *b = a list -/
section
variable {prog : Program} {w : World} {A : Around} {E : Value → Shared → Prop} {s : Shared}
end
section
variable {X : Cx} {W : WQ}
end
end Wg

namespace Wg
open PySem PySem.Spec PyProof.Rows L2 SlX
/-! ### defs of one parameter and a rest: def f(self, *steps) -/
structure FnV (P : Program) (w : World) (K : PySem.W.Frag) (mg : Str → Option Value) (base : Heap) (CX : CXT) (k : Nat) (f : Addr) (sp : Sp) : Prop where
  run : ∀ (A : Around) (out : List Env) (s : Shared) (H : Hp) (u : Value) (us : List Value) (v : V) (ws : List V) (Q : VK) (E : XK), Room k A → NoG A → Env0 P w K mg base A out s H → RelV v u → Vals ws us → ws.length ≤ sizeLine →
    (∀ q o, H q = none → TupO ws o → sp [v, .ref q] (upd H q o) Q E) → codeAny (model P w) A (.call (.ref f) ⟨u :: us, []⟩) (CR CX out P w H s Q E) s
section
variable {P : Program} {w : World} {K : PySem.W.Frag} {mg : Str → Option Value} {base : Heap} {k : Nat}
end
/-- a method m of the class n, of one parameter and a rest, tells F of the object and the tuple of the rest -/
structure MDefV (P : Program) (w : World) (K : PySem.W.Frag) (mg : Str → Option Value) (base : Heap) (k : Nat) (n m : Str) (F : FN) : Prop where
  ex : ∃ C f, mg n = some (.ref C) ∧ SCls K C ∧ Meth K C m f ∧ FnV P w K mg base (L2.CX P w) k f (spM w K mg F)
section
variable {X : Cx} {CX : CXT} {k : Nat} {f g C : Addr} {fd : FuncData} {ps : List Str} {sp : Sp} {E : L2.St → XK} {x m n : Str} {F : FN} {p0 pos apos : Pos} {o e fe : Expr} {es : List Expr} {ta tf : TE} {t : TA} {pins : List (Addr × Obj)} {σ : L2.St} {H : Hp} {s : Shared} {Q : VK} {us : List Value} {vs : List V} {W : WQ} {mo mf : M PV} {ms : M (List PV)}
/-! ### an instance called -/
structure ODef (P : Program) (w : World) (K : PySem.W.Frag) (mg : Str → Option Value) (base : Heap) (k : Nat) (n : Str) (F : FN) : Prop where
  ex : ∃ C f fd ps, mg n = some (.ref C) ∧ StX.CallO K C f ∧ Binds K fd ps [] ∧ FnG P w K mg base (L2.CX P w) k f fd ps (spM w K mg F)
end
end Wg

set_option maxHeartbeats 1000000
namespace Wg
open PySem PySem.Spec PyProof.Rows L2 SlX GenW

/-! ### if and for within a generator's body -/
section
variable {prog : Program} {w : World} {A : Around} {R : GenEnd} {Y : Protocol} {n : Nat} {s₀ s : Shared} {fs : List Frame} {env : Env} {tg : Expr} {itv : Value} {body : List Stmt}
end
section
variable {X : Cx} {tg iter c : Expr} {body sa sb : List Stmt} {pos : Pos}
end
end Wg

set_option maxHeartbeats 1000000
namespace Wg
open PySem PySem.Spec PyProof.Rows L2 SlX GenW

/-! ### generator defs that are woken where no repr is under way -/
/-- a generator that has not begun: wherever a list that is empty yet drains it, all that it hands out is as wanted -/
structure Born (P : Program) (w : World) (k : Nat) (out : List Env) (H : Hp) (s : Shared) (Q : List V → Hp → Prop) (E : XK) (a : Addr) (t : Shared) : Prop where
  young : s.heap.objs.size ≤ a ∧ a < t.heap.objs.size
  same : t.os = s.os ∧ AllBare t.gens ∧ t.heap.NoLimit ∧ ∀ b o, s.heap.get? b = some o → t.heap.get? b = some o
  wake : ∃ (g : Nat) (c : Code), t.heap.IsGen a g ∧ t.gens[g]? = some (.fresh c) ∧ ∀ (B : Around) (S : Addr) (r : Shared), Room k B → NoG B → B.frames = some out → t.heap.objs.size ≤ S →
    (∀ b o, t.heap.get? b = some o → r.heap.get? b = some o) → (∃ cc, r.heap.get? S = some (lstObj #[] cc)) → r.os = s.os → AllBare r.gens →
    Seg (model P w) B (REnd P w out H s [] S a g Q E) (YItem s S a g) sizeLine r c ((model P w).den c) [] r
/-- a generator def of the text -/
structure FnY (P : Program) (w : World) (K : PySem.W.Frag) (mg : Str → Option Value) (base : Heap) (k : Nat) (f : Addr) (fd : FuncData) (ps : List Str) (sp : SpG) : Prop where
  len : ∀ xs H Q E, sp xs H Q E → xs.length = ps.length
  run : ∀ (A : Around) (out : List Env) (s : Shared) (H : Hp) (ar : Args) (us : List Value) (xs : List V) (Q : List V → Hp → Prop) (E : XK), Room k A → Env0 P w K mg base A out s H → BindsTo s fd ar (ps.zip us) → Vals xs us → sp xs H Q E →
    codeAny (model P w) A (.call (.ref f) ar) (fun r t => ∃ a, r = .ok (.ret (.ref a)) ∧ Born P w k out H s Q E a t) s
section
variable {P : Program} {w : World} {K : PySem.W.Frag} {mg : Str → Option Value} {base : Heap} {k : Nat}
end
end Wg

set_option maxHeartbeats 1000000
namespace Wg
open PySem PySem.Spec PyProof.Rows L2 SlX GenW

/-! ### list(f(..)) of a generator def -/
section
variable {P : Program} {w : World} {out : List Env} {H : Hp} {sc t : Shared} {Q : List V → Hp → Prop} {E : XK} {A : Around} {k : Nat} {a : Addr} {Q' : Value → Shared → Prop} {E' : Value → Shared → Prop}
end
section
variable {X : Cx} {k : Nat} {f : Addr} {fd : FuncData} {ps : List Str} {sp : SpG} {x : Str} {p p1 pos pos1 : Pos} {e : Expr} {es : List Expr} {ta : TA}
end
end Wg

namespace Wg
open PySem PySem.Spec PyProof.Rows L2 SlX GenW

/-! ### generator defs as plain functions: what they hand out, one behind the other -/
noncomputable abbrev FY := List PV → Store → R (List PV)
/-- statements of a generator: the list holds what is out so far -/
noncomputable abbrev MY := Lv → List PV → Store → R (Fl × List PV)
noncomputable def OutY (K : KC) (W : WQ) (ρ : Pl) (H : Hp) (r : R (Fl × List PV)) (D : GEnds) : Prop :=
  match r with
  | .ok (.nx l, o) h => ∀ ρ' H' σ' ys, Ext ρ H ρ' H' → Rep K ρ' h H' → RL K ρ' H' l σ' → RVs K ρ' H' o ys → D.nx ys σ' H'
  | .ok (.bk l, o) h => ∀ ρ' H' σ' ys, Ext ρ H ρ' H' → Rep K ρ' h H' → RL K ρ' H' l σ' → RVs K ρ' H' o ys → D.bk ys σ' H'
  | .ok (.ct l, o) h => ∀ ρ' H' σ' ys, Ext ρ H ρ' H' → Rep K ρ' h H' → RL K ρ' H' l σ' → RVs K ρ' H' o ys → D.ct ys σ' H'
  | .ok (.rt x, o) h => ∀ ρ' H' v ys, Ext ρ H ρ' H' → Rep K ρ' h H' → RV K ρ' H' x v → RVs K ρ' H' o ys → D.rt ys v H'
  | .ok (.ex e l, _) h => ∀ ρ' H' cls d σ', Ext ρ H ρ' H' → Rep K ρ' h H' → RL K ρ' H' l σ' → RX K ρ' H' e cls d → W cls d σ' H'
  | .exc _ _ => False
  | .no => False
/-- an expression within a generator's statement -/
noncomputable def R.by {α : Type} (r : R α) (l : Lv) (o : List PV) (k : α → Store → R (Fl × List PV)) : R (Fl × List PV) := match r with
  | .ok a h => k a h
  | .exc e h => .ok (.ex e l, o) h
  | .no => .no
section
variable {K : KC} {ρ ρ' ρ1 : Pl} {H H' H1 : Hp} {h : Store} {X : Cx} {W : WQ} {D : GEnds}
theorem OutY.ext {r : R (Fl × List PV)} (a : Ext ρ H ρ1 H1) (o : OutY K W ρ H r D) : OutY K W ρ1 H1 r D := by
  cases r with
  | ok x h =>
    obtain ⟨x, ys⟩ := x
    cases x with
    | rt x => exact fun ρ' H' v ys b p q => o ρ' H' v ys (a.trans b) p q
    | ex e l => exact fun ρ' H' c d s b p q => o ρ' H' c d s (a.trans b) p q
    | _ => exact fun ρ' H' v ys b p q => o ρ' H' v ys (a.trans b) p q
  | exc e h => exact o
  | no => exact o
theorem OutY.by {α β : Type} {rel : Pl → Hp → α → β → Prop} {r : R α} {k : α → Store → R (Fl × List PV)} {l : Lv} {o : List PV} {σ : L2.St} (rl : RL K ρ H l σ) (q : OutY K W ρ H (r.by l o k) D) :
    Out K ρ H rel (fun c d H' => W c d σ H') r (fun v H1 => ∃ x h1 ρ1, Ext ρ H ρ1 H1 ∧ Rep K ρ1 h1 H1 ∧ rel ρ1 H1 x v ∧ OutY K W ρ1 H1 (k x h1) D) := by
  cases r with
  | ok x h => exact fun ρ' H' v a p z => ⟨x, h, ρ', a, p, z, OutY.ext a q⟩
  | exc e h => exact fun ρ' H' c d a p z => q ρ' H' c d σ a p (rl.ext a) z
  | no => exact q
variable {st : Stmt} {rest : List Stmt} {ma mb : MY} {e : Expr} {m : M PV} {pos yp : Pos}
end

/-! ### defs -/
noncomputable def spY (w : World) (K : PySem.W.Frag) (mg : Str → Option Value) (f : FY) : SpG := fun vs H Q E => ∃ ρ h args, Rep ⟨K, mg, none, w⟩ ρ h H ∧ RVs ⟨K, mg, none, w⟩ ρ H args vs ∧ Out ⟨K, mg, none, w⟩ ρ H (RVs ⟨K, mg, none, w⟩) E (f args h) Q
/-- a generator def of the text does what f tells -/
structure DefY (P : Program) (w : World) (K : PySem.W.Frag) (mg : Str → Option Value) (base : Heap) (k : Nat) (x : Str) (F : FY) : Prop where
  ex : ∃ f fd ps, mg x = some (.ref f) ∧ PySem.W.keepIn K (.ref f) = true ∧ Binds K fd ps [] ∧ FnY P w K mg base k f fd ps (spY w K mg F)
section
variable {P : Program} {w : World} {K : PySem.W.Frag} {mg : Str → Option Value} {base : Heap} {k : Nat}
end
section
variable {X : Cx} {W : WQ} {k : Nat} {x : Str} {F : FY} {p p1 pos pos1 : Pos} {e : Expr} {es : List Expr} {ms : M (List PV)}
end
end Wg

namespace Wg
open PySem PySem.Spec PyProof.Rows L2 SlX HT
/-! ### t[i:j:-1] -/
section
variable {prog : Program} {w : World} {A : Around} {E : Value → Shared → Prop} {s : Shared} {i j : Nat}
end
end Wg

namespace Wg
open PySem PySem.Spec PyProof.Rows L2 SlX
/-! ### sorted(list of tuples whose entries are texts or tuples of texts) -/
noncomputable abbrev TT := List (List Nat)
/-- an entry: is it a tuple, its texts -/
noncomputable abbrev En := Bool × TT
noncomputable def IsEn (h : Heap) (v : Value) (c : En) : Prop := if c.1 = true then ∃ (a : Addr) (o : Obj) (its : List Value) (n : Nat), v = .ref a ∧ h.get? a = some o ∧ o.cls = .type "tuple" ∧ o.data = .seq its.toArray n ∧ Txs its c.2
  else ∃ x t, c.2 = [x] ∧ v = .str ⟨x.toArray⟩ t
noncomputable def Ens (h : Heap) : List Value → List En → Prop
  | [], [] => True
  | v :: vs, x :: xs => IsEn h v x ∧ Ens h vs xs
  | _, _ => False
theorem Ens.len {h : Heap} : ∀ {vs : List Value} {c : List En}, Ens h vs c → vs.length = c.length
  | [], [], _ => rfl
  | v :: vs, x :: xs, h => by rw [List.length_cons, List.length_cons, Ens.len h.2]
  | [], _ :: _, h => h.elim
  | _ :: _, [], h => h.elim
noncomputable def IsNt (h : Heap) (v : Value) (c : List En) : Prop := (∃ x r, c = (false, [x]) :: r) ∧ ∃ (a : Addr) (o : Obj) (its : List Value) (n : Nat), v = .ref a ∧ h.get? a = some o ∧ o.cls = .type "tuple" ∧ o.data = .seq its.toArray n ∧ Ens h its c
theorem IsEn.keeps {h h' : Heap} {v : Value} {c : En} (x : IsEn h v c) (k : ∀ b o, h.get? b = some o → o.cls = .type "tuple" → h'.get? b = some o) : IsEn h' v c := by
  unfold IsEn at x ⊢
  split
  next q =>
    rw [if_pos q] at x
    obtain ⟨a, o, its, n, e, ho, hc, r⟩ := x
    exact ⟨a, o, its, n, e, k a o ho hc, hc, r⟩
  next q => rw [if_neg q] at x; exact x
theorem Ens.keeps {h h' : Heap} (k : ∀ b o, h.get? b = some o → o.cls = .type "tuple" → h'.get? b = some o) : ∀ {vs : List Value} {c : List En}, Ens h vs c → Ens h' vs c
  | [], [], _ => trivial
  | v :: vs, x :: xs, q => ⟨q.1.keeps k, Ens.keeps k q.2⟩
  | [], _ :: _, q => q.elim
  | _ :: _, [], q => q.elim
theorem IsNt.keeps {h h' : Heap} {v : Value} {c : List En} (x : IsNt h v c) (k : ∀ b o, h.get? b = some o → o.cls = .type "tuple" → h'.get? b = some o) : IsNt h' v c := by
  obtain ⟨ne, a, o, its, n, e, ho, hc, hd, t⟩ := x
  exact ⟨ne, a, o, its, n, e, k a o ho hc, hc, hd, t.keeps k⟩
section
variable {prog : Program} {w : World} {A : Around} {s : Shared}
theorem Txs.get : ∀ {vs : List Value} {l : TT} {j : Nat} (q : Txs vs l) (h : j < vs.length), ∃ t, vs[j] = .str ⟨(l.getD j []).toArray⟩ t
  | v :: vs, x :: xs, 0, q, _ => q.1
  | v :: vs, x :: xs, j + 1, q, h => by
    obtain ⟨t, e⟩ := Txs.get q.2 (by simpa using h)
    exact ⟨t, by simpa using e⟩
  | [], _, _, _, h => absurd h (Nat.not_lt_zero _)
  | _ :: _, [], _, q, _ => q.elim
theorem Txs.one : ∀ {vs : List Value} {l m : TT}, Txs vs l → Txs vs m → l = m
  | [], [], [], _, _ => rfl
  | v :: vs, x :: xs, y :: ys, ⟨⟨t, e1⟩, h1⟩, ⟨⟨u, e2⟩, h2⟩ => by
    rw [e1] at e2
    injection e2 with e3
    injection e3 with e4
    have e5 : x.toArray.toList = y.toArray.toList := congrArg Array.toList e4
    rw [Txs.one h1 h2, show x = y by simpa using e5]
  | [], _ :: _, _, q, _ => q.elim
  | [], [], _ :: _, _, q => q.elim
  | _ :: _, [], _, q, _ => q.elim
  | _ :: _, _ :: _, [], _, q => q.elim
end
/-! over the layer -/
section
variable {K : KC} {ρ : Pl} {H : Hp} {h : Store} {X : Cx} {W : WQ} {pos : Pos} {e : Expr} {es : List Expr} {ms : M (List PV)} {p0 : Pos}
end
end Wg

namespace Wg
open PySem PySem.Spec PyProof.Rows L2 SlX
/-! ### sorted(list of tuples of texts, the first one empty) -/
noncomputable def IsT0 (h : Heap) (v : Value) (l : TT) : Prop := ∃ (a : Addr) (o : Obj) (its : List Value) (n : Nat), v = .ref a ∧ h.get? a = some o ∧ o.cls = .type "tuple" ∧ o.data = .seq its.toArray n ∧ Txs its l
theorem IsT0.keeps {h h' : Heap} {v : Value} {l : TT} (x : IsT0 h v l) (k : ∀ b o, h.get? b = some o → o.cls = .type "tuple" → h'.get? b = some o) : IsT0 h' v l := by
  obtain ⟨a, o, its, n, e, ho, hc, r⟩ := x
  exact ⟨a, o, its, n, e, k a o ho hc, hc, r⟩
section
variable {prog : Program} {w : World} {A : Around} {s : Shared} {E : Value → Shared → Prop}
end
section
variable {K : KC} {ρ : Pl} {H : Hp} {h : Store} {X : Cx} {W : WQ} {pos : Pos} {e : Expr} {es : List Expr} {ms : M (List PV)} {p0 : Pos}
end
end Wg

namespace Wg
open PySem PySem.Spec PyProof.Rows L2
/-! ### d.update(d2): tuple keys, d not empty -/
section
variable {X : Cx} {W : WQ}
variable {K : KC} {ρ : Pl} {H : Hp}
variable {a e : Expr} {es : List Expr} {ma : M PV} {ms : M (List PV)} {p0 pos : Pos} {kk : Nat}
end
end Wg

namespace Wg
open PySem PySem.Spec PyProof.Rows L2 SlX
/-! ### sorted(d): the keys are tuples of texts -/
section
variable {X : Cx} {W : WQ} {K : KC} {ρ : Pl} {H : Hp} {h : Store} {pos : Pos} {e : Expr} {es : List Expr} {ms : M (List PV)} {p0 : Pos}
end
/-! y = {k: v for ..}, to be changed later -/
section
variable {kr : Nat} {X : Cx} {W : WQ} {tg iter kx vx : Expr} {ifs : List Expr} {scope : Scope} {own : List (Str × Nat)} {pos : Pos} {src : M (List PV)} {g : MG} {t : M Bool} {mk mv : M PV}
end
end Wg

set_option maxHeartbeats 2000000
namespace Wg
open PySem PySem.Spec PyProof.Rows L2 SlX GenW
/-! ### list(zip(range(0), f(..))): a generator that is never asked -/
section
variable {prog : Program} {w : World} {A : Around} {E : Value → Shared → Prop} {s : Shared}
/-- a zip whose first iterator has ended -/
structure ZEnd (h : Heap) (z TI TO it a : Addr) : Prop where
  zip : IsZip h z TI TO .none
  ti : IsPair h TI (.ref it) (.ref a)
  ri : IsRangeIter h it 0 (Builtin.Range.rangeSize 0 0 1) 1
  ne : z ≠ it
end
section
variable {X : Cx} {k : Nat} {f : Addr} {fd : FuncData} {ps : List Str} {sp : SpG} {x : Str} {p p1 p2 p3 p4 pos pos1 pos2 pos3 : Pos} {k0 : Nat} {e : Expr} {es : List Expr} {ta : TA}
variable {a b : Expr} {cpos : Pos}
end
/-! the rule -/
section
variable {X : Cx} {W : WQ} {k : Nat} {x : Str} {F : FY} {p p1 p2 p3 p4 pos pos1 pos2 pos3 : Pos} {k0 : Nat} {e : Expr} {es : List Expr} {ms : M (List PV)}
end
end Wg

set_option maxHeartbeats 1000000
namespace Wg
open PySem PySem.Spec PyProof.Rows L2 SlX
/-! ### list(d.values()): keys ints and texts -/
section
variable {X : Cx} {o : Expr} {p pos apos mpos : Pos} {td : TE}
end
section
variable {X : Cx} {W : WQ} {K : KC} {ρ : Pl} {H : Hp} {h : Store} {e : Expr} {m : M PV} {p pos apos cpos : Pos}
end
end Wg

set_option maxHeartbeats 1000000
namespace Wg
open PySem PySem.Spec PyProof.Rows L2 SlX GenW

/-! ### list(f(..)) of a generator def that may raise an error of the text -/
/-- errors of the text that are no StopIteration -/
structure NoSs (K : PySem.W.Frag) (mg : Str → Option Value) (ns : List Str) : Prop where
  ex : ∀ n ∈ ns, ∃ C, mg n = some (.ref C) ∧ PySem.W.subIn K (.ref C) (.type "StopIteration") = some false
section
variable {X : Cx} {k : Nat} {f : Addr} {fd : FuncData} {ps : List Str} {sp : SpG} {x : Str} {p p1 pos pos1 : Pos} {e : Expr} {es : List Expr} {ta : TA} {E : L2.St → XK}
end
section
variable {X : Cx} {W : WQ} {k : Nat} {x : Str} {F : FY} {p p1 pos pos1 : Pos} {e : Expr} {es : List Expr} {ms : M (List PV)} {ns : List Str}
end
end Wg

set_option maxHeartbeats 1000000
namespace Wg
open PySem PySem.Spec PyProof.Rows L2 SlX GenW

/-! ### next((x for x in e if test), None): the context of the generator's body -/
/-- the names of a generator expression: .0, its one target, captured names of the def -/
structure GxS (N : List Str) (sc scope : Scope) (x : Str) : Prop where
  kind : scope.kind = .function
  co : scope.isCoroutine = false
  dot : scope.names.lookup (".0" : Str) = some NameKind.local
  loc : scope.names.lookup x = some .local
  own : ∀ y ∈ scope.names, y.2 ≠ .cell ∧ (y.2 = .local → y.1 = ".0" ∨ y.1 = x)
  free : ∀ y ∈ scope.names, y.2 = .free → sc.names.lookup y.1 = some .cell ∨ sc.names.lookup y.1 = some .free
  nx : x ∉ N
  nd : (".0" : Str) ∉ N
  xd : x ≠ ".0"
noncomputable def gxSB (N : List Str) (sc scope : Scope) (x : Str) : Bool :=
  decide (scope.kind = .function) && !scope.isCoroutine && decide (scope.names.lookup (".0" : Str) = some NameKind.local) && decide (scope.names.lookup x = some .local) && (scope.names.all fun y => !decide (y.2 = .cell) && (!decide (y.2 = .local) || decide (y.1 = ".0") || decide (y.1 = x)) && (!decide (y.2 = .free) || decide (sc.names.lookup y.1 = some .cell) || decide (sc.names.lookup y.1 = some .free))) &&
  !decide (x ∈ N) && !decide ((".0" : Str) ∈ N) && !decide (x = ".0")
theorem gxS_by {N : List Str} {sc scope : Scope} {x : Str} (h : gxSB N sc scope x = true) : GxS N sc scope x := by
  unfold gxSB at h
  simp only [Bool.and_eq_true, Bool.or_eq_true, Bool.not_eq_true', decide_eq_true_eq, decide_eq_false_iff_not, List.all_eq_true] at h
  obtain ⟨⟨⟨⟨⟨⟨⟨h1, h2⟩, h3⟩, h4⟩, h5⟩, h6⟩, h7⟩, h8⟩ := h
  refine ⟨h1, h2, h3, h4, fun y hy => ⟨(h5 y hy).1.1, fun e => ?_⟩, fun y hy e => ?_, h6, h7, h8⟩
  · rcases (h5 y hy).1.2 with (z | z) | z
    · exact absurd e z
    · exact .inl z
    · exact .inr z
  · rcases (h5 y hy).2 with (z | z) | z
    · exact absurd e z
    · exact .inl z
    · exact .inr z
noncomputable abbrev gxEnv (X : Cx) (scope : Scope) (C : Addr) (code : Value) : Env := genEnv scope (cloFrom X.env.cells scope.names []) C code builtinsNs X.env
noncomputable def gxCx (X : Cx) (x : Str) (fp : List Addr) (A : Around) (s : Shared) (H : Hp) (scope : Scope) (code : Value) : Cx where
  prog := X.prog
  w := X.w
  K := X.K
  mg := X.mg
  base := X.base
  A := A
  N := X.N ++ [x]
  s_0 := s
  H_0 := H
  env := gxEnv X scope s.heap.objs.size code
  outer := X.stack
  stack := gxEnv X scope s.heap.objs.size code :: X.stack
  ex := fp
  fn := fun _ => false
  calm := true
  pn := []
  xe := fun _ _ => False
section
variable {X : Cx} {pins : List (Addr × Obj)} {σ : L2.St} {H : Hp} {s t : Shared} {scope : Scope} {x : Str} {code itv : Value} {fp : List Addr} {A : Around}
theorem GxS.has (L : GxS X.N X.env.scope scope x) (ok : X.Ok) : ∀ y ∈ scope.names, y.2 = .free → ∃ c, X.env.cells.lookup y.1 = some c := fun y hy e => by
  rcases L.free y hy e with k | k
  · exact ok.has _ (.inl k)
  · exact ok.has _ (.inr k)
theorem gx_start (I : Inv X pins σ H s) (L : GxS X.N X.env.scope scope x) (hd : A.handled = none) (hfr : A.frames = some (gxEnv X scope s.heap.objs.size code :: X.stack)) (hos : t.os = s.os) (hb : AllBare t.gens)
    (hns : t.heap.Ns s.heap.objs.size fun y => if y = ".0" then some itv else none) (kp : ∀ b o, s.heap.get? b = some o → t.heap.get? b = some o) (hfp : ∀ b ∈ fp, FpOk X pins H b ∧ b < s.heap.objs.size) (hg : X.env.globals = mainGlobals) :
    Inv (gxCx X x fp A s H scope code) [] (σ ++ [none]) H t := by
  have e0 := I.env0
  have hfree := L.has I.ok
  have cm : ∀ {y c}, (cloFrom X.env.cells scope.names []).lookup y = some c → X.env.cells.lookup y = some c := fun {y c} e => by
    rcases cloFrom_mem (PySem.mem_of_lookup e) with hm | ⟨h1, h2⟩
    · cases hm
    · obtain ⟨c1, hc⟩ := hfree _ h1 rfl
      have hc : X.env.cells.lookup y = some c1 := hc
      have e2 : c = c1 := by
        rw [h2, hc] <;> rfl
      rw [e2]
      exact hc
  have look : ∀ {y}, scope.names.lookup y = some .free → ∃ c, (cloFrom X.env.cells scope.names []).lookup y = some c := fun {y} hl => by
    have hy : (y, NameKind.free) ∈ scope.names := PySem.mem_of_lookup hl
    exact mem_lookup (cloFrom_has (cells := X.env.cells) (acc := []) hy)
  have cellK : ∀ {c : Addr} {v : Option Value}, s.heap.IsCell c v → t.heap.IsCell c v := fun {c v} ⟨o, ho, hd⟩ => ⟨o, kp _ _ ho, hd⟩
  have lt := I.lt
  refine ⟨⟨e0.mod, L.kind, hg, rfl, Nat.le_refl _, fun y z c e1 e2 => I.ok.inj y z c (cm e1) (cm e2), fun y hy => ?_, fun y c z _ => ?_, fun _ => hd, hfr, .inr ⟨rfl, rfl⟩, fun b hb => ⟨Nat.ne_of_lt (hfp b hb).2, fun y c e z => (hfp b hb).1.2.2.2.2.1 y c (cm e) z⟩, e0.bs, e0.bsz, fun b o e hb => ?_,
      fun b hb z => ?_, e0.funs, e0.frf⟩,
    hos, hb, Un.kept kp, ⟨_, hns, fun i y v e1 e2 e3 => ?_⟩, fun y c e => ?_, e0.hok.fresh (Nat.le_refl _), fun y c e => ?_, fun q hq => absurd (show q ∈ ([] : List (Addr × Obj)) ++ [] from hq) (by simp), e0.hok.kept kp, ?_⟩
  · have hy : scope.names.lookup y = some .cell ∨ scope.names.lookup y = some .free := hy
    rcases hy with hy | hy
    · exact absurd rfl (L.own _ (PySem.mem_of_lookup hy)).1
    · exact look hy
  · have z : false = true := z
    cases z
  · have hb : b ∈ fp := hb
    obtain ⟨_, _, _, q, _⟩ := (hfp b hb).1
    rcases q with q | q
    · exact I.ok.noex b o e q
    · exact absurd (Nat.lt_of_lt_of_le (Heap.lt_size e) (Nat.le_trans I.ok.bsz q)) (Nat.lt_irrefl _)
  · have z : b ∈ frs X.stack := z
    obtain ⟨_, q1, q2, _⟩ := (hfp b hb).1
    rcases List.mem_cons.mp (I.stkSub b z) with e | e
    · exact q1 e
    · exact q2 e
  · have e3 : Vis scope y := e3
    have e1 : (X.N ++ [x])[i]? = some y := e1
    have hi : i < X.N.length := by
      have h2 : i < (σ ++ [none]).length := (List.getElem?_eq_some_iff.mp e2).1
      rw [List.length_append, I.len] at h2
      by_cases q : i < X.N.length
      · exact q
      · have q2 : i = σ.length := by rw [I.len]; simp at h2; omega
        rw [q2, List.getElem?_append_right (Nat.le_refl _)] at e2
        simp at e2
    have e1 : X.N[i]? = some y := by rw [List.getElem?_append_left hi] at e1; exact e1
    have e2 : σ[i]? = some (some v) := by rw [List.getElem?_append_left (by rw [I.len]; exact hi)] at e2; exact e2
    have yN : y ∈ X.N := List.mem_of_getElem? e1
    rcases e3 with k | k | k
    · rcases (L.own _ (PySem.mem_of_lookup k)).2 rfl with z | z
      · exact absurd (z ▸ yN) L.nd
      · exact absurd (z ▸ yN) L.nx
    · exact absurd rfl (L.own _ (PySem.mem_of_lookup k)).1
    · obtain ⟨m, hn, hl⟩ := I.loc
      have hvis : Vis X.env.scope y := (L.free _ (PySem.mem_of_lookup k) rfl).elim (fun k => .inr (.inl k)) (fun k => .inr (.inr k))
      obtain ⟨w', r, q⟩ := hl i y v e1 e2 hvis
      obtain ⟨c2, h2⟩ := look k
      refine ⟨w', r, .inr ⟨.inr k, c2, h2, ?_⟩⟩
      have c1 := cm h2
      rcases q with ⟨k', _⟩ | ⟨_, c3, e', z⟩
      · have k' : X.env.scope.names.lookup y = some .local := k'
        rcases L.free _ (PySem.mem_of_lookup k) rfl with k2 | k2 <;> rw [show X.env.scope.names.lookup y = _ from k2] at k' <;> cases k'
      · rw [c1] at e'
        cases e'
        exact cellK z
  · obtain ⟨w', z⟩ := I.cell y c (cm e)
    exact ⟨w', cellK z⟩
  · exact I.freeC y c (cm e)
  · show (σ ++ [none]).length = (X.N ++ [x]).length
    rw [List.length_append, List.length_append, I.len]; rfl
end
end Wg

set_option maxHeartbeats 1000000
namespace Wg
open PySem PySem.Spec PyProof.Rows L2 SlX GenW

/-! ### next((x for x in e if test), None): the generator runs up to its first item -/
noncomputable abbrev gxE (x : Str) (px pe gpos : Pos) (iter : Expr) (ifs : List Expr) (scope : Scope) : Expr := .GeneratorExp (.Name x pe) [⟨.Name x px, iter, ifs, 0⟩] scope gpos
/-- what the run is to end with: s, H: where it began -/
noncomputable def GxFin (X : Cx) (fp : List Addr) (s : Shared) (H : Hp) (Q : VK) (v : Value) (t : Shared) : Prop :=
  ∃ y H', t.os = s.os ∧ AllBare t.gens ∧ Un (frs X.stack) fp H H' s.heap t.heap ∧ HOk X.prog X.w H' t.heap ∧ RelV y v ∧ Q y H'
noncomputable def GxR (X : Cx) (fp : List Addr) (s : Shared) (H : Hp) (Q : VK) : GenEnd := fun n s₀ r s₁ => ((r = .ok (.ret .none) ∨ r = .ok .next) ∧ GxFin X fp s H Q .none s₁) ∨ ∃ e, r = .error e ∧ (fun (_ : Value) (_ : Shared) => False) e s₁
noncomputable def GxY (X : Cx) (fp : List Addr) (s : Shared) (H : Hp) (Q : VK) : Protocol := fun n s₀ v s₁ kap => GxFin X fp s H Q v s₁
section
variable {X : Cx} {σ : L2.St} {H1 : Hp} {s : Shared} {scope : Scope} {x : Str} {code : Value} {fp : List Addr} {A A1 : Around} {iter : Expr} {ifs : List Expr} {px pe gpos : Pos} {it : Addr} {J : It} {tn : Nat → Heap → Prop} {tt : L2.TT} {Q : VK}
noncomputable abbrev gxCode (X : Cx) (x : Str) (px pe gpos : Pos) (iter : Expr) (ifs : List Expr) (scope : Scope) (it : Addr) (s : Shared) (code : Value) : Code := .compLoop (gxE x px pe gpos iter ifs scope) 0 (.ref it) .none (gxEnv X scope s.heap.objs.size code)
theorem gx_fin {v : Value} {y : V} {H' : Hp} {o : L2.St} {t : Shared} (I : Inv (gxCx X x fp A s H1 scope code) [] o H' t) (r : RelV y v) (q : Q y H') : GxFin X fp s H1 Q v t := ⟨y, H', I.os, I.bare, I.base, I.hok, r, q⟩
theorem gx_loop (L : GxS X.N X.env.scope scope x) (nd : X.N.Nodup) (hA : A1.over (gxCode X x px pe gpos iter ifs scope it s code) [] = A) (T : Turn X.prog X.w X.K (.Name x px) J fp it tn) (ht : PTs (gxCx X x fp A s H1 scope code) ifs tt)
    (hl : σ.length = X.N.length) (hdb : (x == ("__debug__" : Str)) = false) (hcd : (x == ("__classdict__" : Str)) = false)
    (hfp : ∀ b ∈ fp, b ≠ s.heap.objs.size ∧ b ∉ frs X.stack ∧ ∀ y c, (cloFrom X.env.cells scope.names []).lookup y = some c → c ≠ b) {Wst : Nat → Nat → Hp → Prop}
    (turn : ∀ i m H, Wst i m H → (J.stop i H ∧ Q .non H) ∨ (J.go i H ∧ ∀ v H3, J.yld i H v H3 → tt (σ ++ [some v]) H3 fun b H4 => if b = true then Q v H4 else ∃ m', m' < m ∧ Wst (i + 1) m' H4)) :
    ∀ (m i : Nat) (s0 t : Shared) (o : Option V) (H : Hp), Wst i m H → Inv (gxCx X x fp A s H1 scope code) [] (σ ++ [o]) H t → tn i t.heap → (∀ b ∈ fp, H b = none) →
      Seg (model X.prog X.w) A1 (GxR X fp s H1 Q) (GxY X fp s H1 Q) 1 s0 (gxCode X x px pe gpos iter ifs scope it s code) ((model X.prog X.w).den (gxCode X x px pe gpos iter ifs scope it s code)) [] t := by
  have fok : ∀ {H : Hp}, (∀ b ∈ fp, H b = none) → ∀ b ∈ fp, FpOk (gxCx X x fp A s H1 scope code) [] H b := fun {H} hn b hb => ⟨hn b hb, (hfp b hb).1, (hfp b hb).2.1, .inl hb, (hfp b hb).2.2, fun p hp => absurd (show p ∈ ([] : List (Addr × Obj)) ++ [] from hp) (by simp)⟩
  have nth : ∀ {v : Option V}, (gxCx X x fp A s H1 scope code).N[σ.length]? = some x := fun {v} => by
    show (X.N ++ [x])[σ.length]? = some x
    rw [hl, List.getElem?_append_right (Nat.le_refl _)]; simp
  have ndG : (gxCx X x fp A s H1 scope code).N.Nodup := by
    show (X.N ++ [x]).Nodup
    rw [List.nodup_append]
    exact ⟨nd, by simp, fun a ha b hb e => L.nx (by rw [List.mem_singleton.mp hb] at e; exact e ▸ ha)⟩
  have locG : (gxCx X x fp A s H1 scope code).env.scope.names.lookup x = some .local := L.loc
  have setL : ∀ (o : Option V) (v : V), (σ ++ [o]).set σ.length (some v) = σ ++ [some v] := fun o v => by
    rw [List.set_append_right _ _ (Nat.le_refl _), Nat.sub_self]; rfl
  intro m
  induction m using Nat.strongRecOn with
  | ind m ih =>
    intro i s0 t o H w I st fr
    show Seg _ A1 _ _ _ s0 _ ((compTurn (gxE x px pe gpos iter ifs scope) 0 (.ref it) .none (gxEnv X scope s.heap.objs.size code)).onRaise (leaving (gxEnv X scope s.heap.objs.size code))) [] t
    rw [compTurn_gen, Sem.onRaise_eq_wrap]
    refine seg_bind_wrap (wpAny_standAt ?_)
    refine seg_bind_wrap ?_
    rw [hA]
    rcases turn i m H w with ⟨stop, qn⟩ | ⟨go, step⟩
    · refine wpAny_mono (T.done (gxCx X x fp A s H1 scope code) rfl rfl rfl rfl i [] t (σ ++ [o]) H (fun _ _ => False) I (fok fr) st stop) (fun r s4 ⟨hr, I4⟩ => ?_) fun _ _ z => z.elim
      subst hr
      exact seg_end (.ok .next) (.inl ⟨.inr rfl, gx_fin (y := .non) I4 rfl qn⟩)
    · refine wpAny_mono (T.item (gxCx X x fp A s H1 scope code) rfl rfl rfl rfl i [] t (σ ++ [o]) H (fun _ _ => False) I (fok fr) st go) (fun r s4 ⟨u, hr, h4⟩ => ?_) fun _ _ z => z.elim
      subst hr
      refine seg_bind_wrap ?_
      rw [hA]
      refine wpAny_mono h4 (fun _ s5 ⟨v, H5, I5, r5, y5, st5, fr5⟩ => ?_) fun _ _ z => z.elim
      have I5' := I5.pinned (fok fr5) (T.obj _ _ st5)
      refine seg_bind_wrap ?_
      rw [hA]
      refine wpAny_mono ((pg_name (X := gxCx X x fp A s H1 scope code) (pos := px) (i := σ.length) ndG (nth (v := none)) (.inl locG) (.inr locG)).run _ s5 (σ ++ [o]) H5 v u (fun σ' H' => σ' = σ ++ [some v] ∧ H' = H5) I5' r5 ⟨setL o v, rfl⟩) (fun _ s6 ⟨σ6, H6, I6, e6, e6'⟩ => ?_) fun _ _ z => z.elim
      subst e6
      subst e6'
      refine seg_bind_wrap ?_
      rw [hA]
      refine wpAny_mono (ht.run _ s6 (σ ++ [some v]) H6 _ I6 (step v H6 y5)) (fun ok s7 ⟨H7, I7, q7⟩ => ?_) fun _ _ z => z.elim
      have at7 : ∀ b ∈ fp, ∀ o, s5.heap.get? b = some o → s7.heap.get? b = some o ∧ H7 b = none := fun b hb o e => by
        have z := I7.pin (b, o) (List.mem_append_right _ (List.mem_append_right _ (mem_pinsAt hb e)))
        exact ⟨z.1, z.2.1⟩
      cases ok with
      | false =>
        simp only [Bool.false_eq_true, if_false] at q7 ⊢
        obtain ⟨m', hm, w7⟩ := q7
        refine seg_again rfl (ih m' hm (i + 1) s0 s7 (some v) H7 w7 I7.unpinned (T.keep _ _ _ st5 fun b hb o e => (at7 b hb o e).1) fun b hb => ?_)
        obtain ⟨o', e, _⟩ := T.obj _ _ st5 b hb
        exact (at7 b hb o' e).2
      | true =>
        simp only [if_true] at q7 ⊢
        have hy : ∀ v, yieldOut (gxEnv X scope s.heap.objs.size code) v = yieldValue v := fun v => by
          have co : (gxEnv X scope s.heap.objs.size code).scope.isCoroutine = false := L.co
          simp only [yieldOut, co, Bool.false_eq_true, if_false]
        simp only [hy]
        rw [Sem.bind_eq_wrap', Sem.bind_eq_wrap', Sem.wrap_wrap, Sem.wrap_wrap]
        refine seg_wrap ?_
        rw [hA]
        refine wpAny_mono ((pe_var (X := gxCx X x fp A s H1 scope code) (pos := pe) (i := σ.length) (nth (v := none)) (.inl locG) hdb hcd).run _ s7 (σ ++ [some v]) H7 (fun y H' => y = v ∧ H' = H7) I7.unpinned ⟨v, by rw [List.getElem?_append_right (Nat.le_refl _)]; simp, rfl, rfl⟩) (fun y s8 ⟨y', H8, I8, r8, e8, e8'⟩ => ?_) fun _ _ z => z.elim
        subst e8
        subst e8'
        exact seg_at (seg_yield rfl rfl rfl (gx_fin I8 r8 q7))
theorem gx_begin {t : Shared} (loop : ∀ s0 : Shared, Seg (model X.prog X.w) A1 (GxR X fp s H1 Q) (GxY X fp s H1 Q) 1 s0 (gxCode X x px pe gpos iter ifs scope it s code) ((model X.prog X.w).den (gxCode X x px pe gpos iter ifs scope it s code)) [] t)
    (T : Turn X.prog X.w X.K (.Name x px) J fp it tn) (st : tn 0 t.heap) (s0 : Shared) :
    Seg (model X.prog X.w) A1 (GxR X fp s H1 Q) (GxY X fp s H1 Q) 1 s0 (.compStart (gxE x px pe gpos iter ifs scope) 0 (.ref it) .none (gxEnv X scope s.heap.objs.size code)) ((model X.prog X.w).den (.compStart (gxE x px pe gpos iter ifs scope) 0 (.ref it) .none (gxEnv X scope s.heap.objs.size code))) [] t := by
  show Seg _ A1 _ _ _ s0 _ ((compStart (gxE x px pe gpos iter ifs scope) 0 (.ref it) .none (gxEnv X scope s.heap.objs.size code)).onRaise (leaving (gxEnv X scope s.heap.objs.size code))) [] t
  unfold compStart
  rw [Sem.onRaise_eq_wrap]
  show Seg _ A1 _ _ _ s0 _ ((ask >>= _).wrap _ _ _ _) [] t
  refine seg_bind_wrap (wpAny_askSetting ?_)
  split
  · exact seg_again rfl (loop s0)
  · first
      | exact seg_bind_wrap (wpAny_rule (seg_bind_wrap (wpAny_standAt (seg_bind_wrap (T.self _ 0 t _ _ st (seg_again rfl (loop s0)))))))
      | (refine seg_bind_wrap (wpAny_rule ?_); show Seg _ A1 _ _ _ s0 _ ((standAt iter.pos >>= _).wrap _ _ _ _) [] t; exact seg_bind_wrap (wpAny_standAt (seg_bind_wrap (T.self _ 0 t _ _ st (seg_again rfl (loop s0))))))
end
end Wg

set_option maxHeartbeats 1000000
namespace Wg
open PySem PySem.Spec PyProof.Rows L2 SlX GenW

/-! ### next((x for x in e if test), None) -/
noncomputable def nxG (t : M Bool) : List PV → Lv → Store → R PV
  | [], _, h => .ok .non h
  | z :: zs, l, h => match t (l ++ [some z]) h with
    | .ok true h1 => .ok z h1
    | .ok false h1 => nxG t zs l h1
    | _ => .no
/-- i: the place of the def's table; the target stands behind the def's slots -/
noncomputable def mNextG (i : Nat) (y q : Str) (src : M (List PV)) (t : M Bool) : M PV := fun l h => (src l h).bind fun ys h1 => if tabAt h1 i = some (y, q) then nxG t ys l h1 else .no
theorem RL0.snoc {K : KC} {ρ : Pl} {H : Hp} {l : Lv} {σ : L2.St} {z : PV} {v : V} (r : RL0 K ρ H l σ) (rv : RV K ρ H z v) : RL0 K ρ H (l ++ [some z]) (σ ++ [some v]) := by
  induction r with
  | nil => exact .put rv .nil
  | skip _ ih => exact .skip ih
  | put r _ ih => exact .put r ih
theorem over_gx {A1 : Around} {e : Expr} {ge : List Comprehension} {sc : Scope} {p : Pos} {it acc : Value} {env : Env} : A1.over (.compLoop (.GeneratorExp e ge sc p) 0 it acc env) [] = A1.deeper env := by
  first
    | rfl
    | (obtain ⟨hd, d, fr, gs, u⟩ := A1; simp [Around.over, Around.deeper, marksOver, frameCount, unitsOf, envsOf, guardsOf, pushEnvs, pushGuards, Code.envs, Code.env?, Code.isFrame, Code.guards, Code.isGuard, Code.weight, Code.frames, Code.isCreation, Code.isCaller, Code.cUnits])
section
variable {X : Cx} {W : WQ}
theorem xe_nextG {x y q : Str} {i k k0 : Nat} {c P : Addr} {iter test : Expr} {scope : Scope} {px pe gpos p p0 pos : Pos} {src : M (List PV)} {t : M Bool} (T : LamT X.K X.mg X.base y c P) (room : Room (k + 1) X.A) (ng : NoG X.A) (ec : X.env.code = .ref c) (nd : X.N.Nodup) (hc : X.calm = true) (mn : X.mg "next" = none)
    (hi : XI X W (.Name x px) iter src)
    (go : ∀ (fp : List Addr) (A : Around) (s : Shared) (H : Hp) (code : Value), Room k A → NoG A → XTs (gxCx X x fp A s H scope code) ⟨fun _ _ _ _ => False, none⟩ [test] t)
    (sy : gxSB X.N X.env.scope scope x = true := by decide +kernel) (eq : X.env.qual ++ "<genexpr>" = q := by decide +kernel) (hcur : W.cur = none := by rfl) (gn : Gl X "next" := by rfl) (hs : ∀ v, genFold iter X.env v = pure v := by intro _; rfl)
    (hdb : (x == ("__debug__" : Str)) = false := by decide) (hcd : (x == ("__classdict__" : Str)) = false := by decide)
    (he : starEach [gxE x px pe gpos iter [test] scope, .Constant .none k0 p0] X.env = (false, eval (gxE x px pe gpos iter [test] scope) X.env) :: starEach [.Constant .none k0 p0] X.env := by rfl)
    (he2 : (backTo pos (starEach [.Constant .none k0 p0] X.env)).any (·.1) = false := by rfl) :
    XE X W (.Call (.Name "next" p) [gxE x px pe gpos iter [test] scope, .Constant .none k0 p0] [] pos) (mNextG i y q src t) := by
  have L := gxS_by sy
  obtain ⟨w, cur⟩ := W
  obtain rfl : cur = none := hcur
  constructor
  intro pins s σ H Q I ⟨ρ, h, l, rp, rl, o⟩
  unfold mNextG at o
  refine wpAny_Call_Name_kw (ld_blt (u := .builtin "next") I gn mn (by first | rfl | decide +kernel) ?_ (by decide) (by decide))
  refine PyProof.Rows.callWith_builtin1 ?_ he he2
  rw [he]
  show wpAny _ _ (spliced ((false, eval (gxE x px pe gpos iter [test] scope) X.env) :: backTo pos (starEach [.Constant .none k0 p0] X.env))) _ _ s
  refine Calls.spliced_cons ?_
  refine wpAny_GeneratorExp_make L.co (closure_ok (L.has I.ok)) (fun y hy => (L.own y hy).1) L.dot L.kind (by have := room.dp; omega) ?_ hs
  refine wpAny_mono (hi.run pins s σ H (fun J H2 => ∃ ys h1 ρ1, Ext ρ H ρ1 H2 ∧ Rep ⟨X.K, X.mg, none, X.w⟩ ρ1 h1 H2 ∧ Yields ⟨X.K, X.mg, none, X.w⟩ ρ1 H2 J ys ∧
      Out ⟨X.K, X.mg, none, X.w⟩ ρ1 H2 (RV ⟨X.K, X.mg, none, X.w⟩) (fun c d H' => w c d σ H') (if tabAt h1 i = some (y, q) then nxG t ys l h1 else .no) Q) I ⟨ρ, h, l, rp, rl, Out.bind o⟩) (fun v s1 h1 => wpAny_mono h1 (fun itv s2 h2 => ?_) fun _ _ z => z) fun _ _ z => z
  obtain ⟨it, fp, tn, J, H2, rfl, I2, Tn, st2, f2, ys, h1, ρ1, e1, p1, y1, o1⟩ := h2
  obtain ⟨ht, o1⟩ := out_if o1
  have hi1 := tabAt_at ht
  obtain ⟨P', hP'⟩ : ∃ P', ρ1.c[i]? = some P' := by
    have : i < ρ1.c.length := by rw [← p1.len]; exact (List.getElem?_eq_some_iff.mp hi1).1
    exact ⟨_, List.getElem?_eq_getElem this⟩
  obtain ⟨⟨c0, tb⟩, ps, t1, t2, t3⟩ := p1.at_ i _ P' hi1 hP'
  obtain ⟨rfl, rfl⟩ := tb.uniq T.tab
  have cd : PySem.W.CodeHd s2.heap c0 P' := T.tb.code.keeps fun b o e => I2.bk b o e
  have gP : s2.heap.get? P' = some { cls := .none, data := .fields ps } := I2.hok P' _ t1
  refine ⟨I2.nolimit, ?_⟩
  -- behind the code object
  have cont : ∀ (c' : Addr) (h3 : Heap) (tk : Nat) (H3 : Hp), Inv X pins σ H3 { s2 with heap := h3, toks := tk } → Grown (fun c => ¬ ρ1.has c) P' q H2 H3 c' → (∀ b ∈ fp, H3 b = none) → (∀ b ∈ fp, ∀ o, s2.heap.get? b = some o → h3.get? b = some o) → s2.heap.objs.size ≤ h3.objs.size →
      wpAny (model X.prog X.w) X.A (builtinsFor X.env.globals X.env.builtins) (fun bi s₄ =>
        ∀ h', h'.Ns s₄.heap.objs.size (fun y => if y = ".0" then some (.ref it) else none) → Heap.SameBut s₄.heap.objs.size (s₄.heap.push { cls := .type "frame", data := .dict #[] }) h' →
          wpAny (model X.prog X.w) X.A (spliced (backTo pos (starEach [.Constant .none k0 p0] X.env))) (fun vs s₂ => wpAny (model X.prog X.w) X.A (call (.builtin "next") (.ref h'.objs.size :: vs)) (EP X pins σ Q) X.xe s₂) X.xe { s₄ with
            gens := s₄.gens.push (.fresh (.compStart (gxE x px pe gpos iter [test] scope) 0 (.ref it) .none (genEnv scope (cloFrom X.env.cells scope.names []) s₄.heap.objs.size (.ref c') bi X.env))),
            toks := s₄.toks + 1 + 1 + 1,
            heap := h'.push { cls := .type "generator", data := .fields #[.int s₄.gens.size 0, .str "<genexpr>" (s₄.toks + 1), .str (X.env.qual ++ "<genexpr>") (s₄.toks + 1 + 1)] } }) X.xe { s2 with heap := h3, toks := tk } := by
    intro c' h3 tk H3 I3 gr fr3 kf le3
    obtain ⟨bm, ob, b1, b2, b3, b4, b5, b6, b7, b8⟩ := T.tb.bm
    refine wpAny_builtinsFor (m := X.mg) (by rw [I3.ok.glob]; exact I3.mod.glob.keeps I3.bk) b1 b2 (I3.bk _ _ b5) b6 b7 b8 ?_
    intro h' hn' sb
    obtain ⟨ex3, p3, _⟩ := p1.lam hi1 hP' gr
    show wpAny _ _ (spliced ((false, eval (.Constant .none k0 p0) X.env) :: backTo pos (starEach [] X.env))) _ _ _
    refine Calls.spliced_cons (PyProof.Rows.Constant_none (Calls.spliced_nil ?_))
    generalize hs3 : ({ s2 with heap := h3, toks := tk } : Shared) = s3 at *
    have hh3 : s3.heap = h3 := by rw [← hs3]
    have keep' : ∀ b o, s3.heap.get? b = some o → h'.get? b = some o := fun b o e => sb.extBut b o (Nat.ne_of_lt (Heap.lt_size e)) (Heap.get?_push_of_some _ e)
    have gobj : (h'.push { cls := .type "generator", data := .fields #[.int s3.gens.size 0, .str "<genexpr>" (s3.toks + 1), .str (X.env.qual ++ "<genexpr>") (s3.toks + 1 + 1)] }).get? h'.objs.size = some { cls := .type "generator", data := .fields #[.int s3.gens.size 0, .str "<genexpr>" (s3.toks + 1), .str (X.env.qual ++ "<genexpr>") (s3.toks + 1 + 1)] } := Heap.get?_push_size _ rfl
    have isg : (h'.push { cls := .type "generator", data := .fields #[.int s3.gens.size 0, .str "<genexpr>" (s3.toks + 1), .str (X.env.qual ++ "<genexpr>") (s3.toks + 1 + 1)] }).IsGen h'.objs.size s3.gens.size := ⟨_, _, _, gobj, rfl, rfl, rfl⟩
    have kp5 : ∀ b o, s3.heap.get? b = some o → (h'.push { cls := .type "generator", data := .fields #[.int s3.gens.size 0, .str "<genexpr>" (s3.toks + 1), .str (X.env.qual ++ "<genexpr>") (s3.toks + 1 + 1)] }).get? b = some o := fun b o e => Heap.get?_push_of_some _ (keep' b o e)
    have fpo : ∀ b ∈ fp, ∃ o, s2.heap.get? b = some o := fun b hb => let ⟨o, e, _⟩ := Tn.obj _ _ st2 b hb; ⟨o, e⟩
    have fp3 : ∀ b ∈ fp, FpOk X pins H3 b ∧ b < s3.heap.objs.size := fun b hb => by
      obtain ⟨o, e⟩ := fpo b hb
      exact ⟨⟨fr3 b hb, (f2 b hb).2⟩, by rw [hh3]; exact Heap.lt_size (kf b hb o e)⟩
    have st3 : tn 0 s3.heap := by rw [hh3]; exact Tn.keep _ _ _ st2 kf
    -- the result
    have ending : ∀ {v : Value} {r : Shared} {g' : GenState}, GxFin X fp s3 H3 Q v r → g'.bare = true → EP X pins σ Q v (r.setGen s3.gens.size g') := fun {v r g'} ⟨yv, H', f1, f2', f3, f4, f5, f6⟩ hb =>
      ⟨yv, H', I3.call' (s' := r.setGen s3.gens.size g') f1 f3 f4 (allBare_setGen f2' hb) (fun b hb => ⟨(fp3 b hb).1.2.2.2.1, (fp3 b hb).1.2.1, (fp3 b hb).1.2.2.2.2.1, (fp3 b hb).1.2.2.2.2.2⟩), f5, f6⟩
    have glob : X.env.globals = mainGlobals := I3.ok.glob
    have start : ∀ (A : Around), A.handled = none → A.frames = some (gxEnv X scope s3.heap.objs.size (.ref c') :: X.stack) → ∀ t : Shared, t.os = s3.os → AllBare t.gens → t.heap = h'.push { cls := .type "generator", data := .fields #[.int s3.gens.size 0, .str "<genexpr>" (s3.toks + 1), .str (X.env.qual ++ "<genexpr>") (s3.toks + 1 + 1)] } →
        Inv (gxCx X x fp A s3 H3 scope (.ref c')) [] (σ ++ [none]) H3 t := fun A a1 a2 t t1 t2 t3 =>
      gx_start (itv := .ref it) I3 L a1 a2 t1 t2 (by rw [t3]; exact hn'.push _) (by rw [t3]; exact kp5) fp3 glob
    refine Calls.call_function_entry (by decide +kernel) (by decide +kernel) PySem.W.kdk_entry_next (PySem.W.kdk_args_next2 _ _) ?_
    unfold Builtin.«next»
    refine wpAny_bind (m := someArgs "next" 1 2 _) (wpAny_of_eq (a := [Value.ref h'.objs.size, Value.none]) (by first | rfl | kernel_rfl!) ?_)
    dsimp only
    refine wpAny_bind (wpAny_specialOf (name := Str.ofString "__next__") (Heap.IsGen.typeIs (s := { s3 with gens := _, toks := _, heap := _ }) isg) slot_gen_next.lookup ?_)
    refine wpAny_ite_split (fun hab => absurd hab (by decide)) (fun _ => ?_)
    refine wpAny_bind (next_genG (n := 1) (gs := .fresh (.compStart (gxE x px pe gpos iter [test] scope) 0 (.ref it) .none (gxEnv X scope s3.heap.objs.size (.ref c')))) (F := fun _ _ s₁ => GxFin X fp s3 H3 Q .none s₁) (Er := fun _ _ => False) (Y := GxY X fp s3 H3 Q) (g := s3.gens.size) room.hd ?_ ?_ isg (Array.getElem?_push_size ..) ⟨rfl, ?_⟩ ?_ ?_ fun _ _ z => z.elim)
    · exact I3.nolimit.keeps kp5
    · have := room.dp
      show X.A.depth < _
      omega
    · -- the run
      refine gx_begin (J := J) (fun s0 => ?_) Tn (Tn.keep _ _ _ st3 fun b hb o e => kp5 b o e) _
      have rG : Room k (X.A.in1.in1.deeper (gxEnv X scope s3.heap.objs.size (.ref c'))) := ⟨room.hd, by have := room.dp; show X.A.depth + 1 + 3 * k + 5 < _; omega, by have := room.un; show X.A.units + 1 + 1 + 3 + 16 * k + 200 < _; omega⟩
      refine gx_loop (A := X.A.in1.in1.deeper (gxEnv X scope s3.heap.objs.size (.ref c'))) (tt := tT ⟨X.K, X.mg, none, X.w⟩ ⟨fun _ _ _ _ => False, none⟩ t) (Wst := fun i m H => m = ys.length - i ∧ i ≤ ys.length ∧ ∃ ρ2 h2, Ext ρ1 H3 ρ2 H ∧ Rep ⟨X.K, X.mg, none, X.w⟩ ρ2 h2 H ∧
        Out ⟨X.K, X.mg, none, X.w⟩ ρ2 H (RV ⟨X.K, X.mg, none, X.w⟩) (fun c d H' => w c d σ H') (nxG t (ys.drop i) l h2) Q) L nd over_gx Tn (go fp _ s3 H3 (.ref c') rG ng) I3.len hdb hcd (fun b hb => ⟨Nat.ne_of_lt (fp3 b hb).2, fun z => ?_, fun y c e z => ?_⟩) (fun i m H wst => ?_) ys.length 0 s0 _ none H3 ⟨rfl, Nat.zero_le _, ρ1, h1, Ext.refl _ _, p3, Out.ext ex3 o1⟩ (start (X.A.in1.in1.deeper (gxEnv X scope s3.heap.objs.size (.ref c'))) room.hd (Around.frames_deeper (A := X.A.in1.in1) I3.ok.frames) _ rfl (allBare_setGen (AllBare.push I3.bare rfl) rfl) rfl) (Tn.keep _ _ _ st3 fun b hb o e => kp5 b o e) (fun b hb => (fp3 b hb).1.1)
      · rcases List.mem_cons.mp (I3.stkSub b z) with e | e
        · exact (fp3 b hb).1.2.1 e
        · exact (fp3 b hb).1.2.2.1 e
      · refine (fp3 b hb).1.2.2.2.2.1 y c ?_ z
        rcases cloFrom_mem (PySem.mem_of_lookup e) with hm | ⟨z1, z2⟩
        · cases hm
        · obtain ⟨c1, hc1⟩ := L.has I3.ok _ z1 rfl
          have hc1 : X.env.cells.lookup y = some c1 := hc1
          have e2 : c = c1 := by
            rw [z2, hc1] <;> rfl
          rw [e2]
          exact hc1
      · obtain ⟨rfl, hle, ρ2, h2, e2, p2, o2⟩ := wst
        by_cases hlt : i < ys.length
        · refine .inr ⟨y1.go i ρ2 h2 H (ex3.trans e2).kp p2 hlt, fun v H4 hy => ?_⟩
          obtain ⟨e4, p4, r4⟩ := y1.yld i ρ2 h2 H ys[i] v H4 (ex3.trans e2).kp p2 (by simp [hlt]) hy
          rw [List.drop_eq_getElem_cons hlt] at o2
          have o3 := Out.ext e4 o2
          unfold nxG at o3
          have rl4 := rl.ext (((e1.trans ex3).trans e2).trans e4)
          refine ⟨ρ2, h2, l ++ [some ys[i]], p4, ⟨RL0.snoc rl4.s r4, trivial⟩, ?_⟩
          cases q : t (l ++ [some ys[i]]) h2 with
          | no => simp only [q] at o3; exact o3
          | exc e h => simp only [q] at o3; exact o3.elim
          | ok b h5 =>
            cases b with
            | true =>
              simp only [q] at o3
              intro ρ5 H5 b' e5 p5 eb
              subst eb
              rw [if_pos rfl]
              exact o3 ρ5 H5 v e5 p5 (r4.ext e5)
            | false =>
              simp only [q] at o3
              intro ρ5 H5 b' e5 p5 eb
              subst eb
              rw [if_neg Bool.false_ne_true]
              exact ⟨ys.length - (i + 1), by omega, rfl, hlt, ρ5, h5, (e2.trans e4).trans e5, p5, Out.ext e5 o3⟩
        · have ei : i = ys.length := by omega
          subst ei
          rw [List.drop_length] at o2
          exact .inl ⟨y1.stop _ ρ2 h2 H (ex3.trans e2).kp p2 (Nat.le_refl _), o2 ρ2 H .non (Ext.refl _ _) p2 rfl⟩
    · intro v r g' hb hv
      exact wpAny_pure ⟨_, rfl, ending hv hb⟩
    · intro r hv h5 hk
      obtain ⟨yv, H', J5, r5, q5⟩ := ending (g' := .finished) hv rfl
      exact wpAny_pure ⟨_, rfl, yv, H', J5.kept (t' := (r.setGen s3.gens.size .finished).toks) hk, r5, q5⟩
  cases hf : codeAmong gpos ps.toList with
  | none =>
    refine PySem.wpAny_genexprCodeX ec (cd.code gP t2) (cd.tab gP) hf fun c' h3 tk hx hge hlt hco' hrec htab' _ => ?_
    obtain ⟨c2, oc, vs, tt, e2, k1, k2, k3⟩ := hrec
    cases e2
    rw [eq] at k3
    have J3 := LamX.inv_table (t' := tk) (q := q) (more := #[rawInt gpos.line, rawInt gpos.col, .ref c']) (h' := h3) I2 t1 (fun b o nb e => hx b o nb e) htab'.2 hge ⟨oc, vs, tt, k1, k2, k3⟩
    refine cont c' h3 tk _ J3 ⟨upd_same, .inr ⟨ps, gpos, t1, I2.hok.fresh hge, rfl⟩⟩ (fun b hb => ?_) (fun b hb o e => hx b o (fun z => ?_) e) (Nat.le_trans hge (Nat.le_of_lt hlt))
    · obtain ⟨o, e, _⟩ := Tn.obj _ _ st2 b hb
      rw [upd_ne (fun z => absurd (Nat.lt_of_lt_of_le (Heap.lt_size e) (by rw [z]; exact hge)) (Nat.lt_irrefl _)), upd_ne (fun z => ?_)]
      · exact (f2 b hb).1
      · have z1 := (f2 b hb).1
        rw [z, t1] at z1; cases z1
    · have z1 := (f2 b hb).1
      rw [z, t1] at z1; cases z1
  | some cv =>
    obtain ⟨c', rfl, nh, co⟩ := t3 gpos cv hf
    refine PySem.wpAny_genexprCode_hit ec (cd.code gP t2) hf ?_
    exact cont c' s2.heap s2.toks H2 I2 ⟨co, .inl ⟨rfl, nh⟩⟩ (fun b hb => (f2 b hb).1) (fun _ _ _ e => e) (Nat.le_refl _)
end
end Wg

namespace Wg
open PySem PySem.Spec PyProof.Rows L2 SlX
open MeetsSeq
/-! ### d not in t, d a dict and t a tuple of tuples -/
section
variable {X : Cx} {W : WQ} {ρ : Pl} {h : Store} {H : Hp}
theorem eqAt_tup_dict {A : Around} {s : Shared} {a b : Addr} {ob : Obj} {es : Array DictEntry} {ep : Nat} {items : Array Value} (h1 : s.heap.get? a = some ob) (h2 : ob.ExactDict) (h3 : ob.data = .dict es ep) (ht : s.heap.IsTuple b items) (hu : A.units < cLine) :
    SeqAt.EqAt A s (.ref b) (.ref a) false := by
  obtain ⟨o2, t1, t2, n2, t3⟩ := ht
  obtain ⟨oc, od, dt, osl⟩ := ob
  obtain ⟨oc2, od2, dt2, osl2⟩ := o2
  obtain ⟨c1, c2⟩ := h2
  simp only at c1 c2 h3 t2 t3
  subst c1 h3 t2 t3
  have hne : b ≠ a := fun e => by subst e; rw [h1] at t1; exact absurd (congrArg Obj.cls (Option.some.inj t1)) (by simp)
  refine SeqAt.EqAt.of_refs hne fun prog w E Q hq => ?_
  exact SeqAt.rc_eq_decline_or (k := false) ⟨_, t1, rfl⟩ ⟨_, h1, rfl⟩ (by decide) PySem.F.sub_dict_tuple PySem.F.slot_tuple_eq PySem.F.slot_dict_eq_refl
    (fun _ hq => call_meets PySem.F.slot_tuple_eq ⟨_, t1, rfl⟩ PySem.F.entry_tuple_eq (PySem.F.args_tuple_eq_2 _ _) (tuple_declines_dict b a items es n2 ep od2 od osl2 osl) ⟨t1, h1, hq⟩)
    (fun _ hq => call_meets PySem.F.slot_dict_eq_refl ⟨_, h1, rfl⟩ PySem.F.entry_dict_eq (PySem.F.args_dict_eq_2 _ _) (dict_declines_tuple a b es items ep n2 od od2 osl osl2) ⟨h1, t1, hq⟩)
    (fun _ hq => SeqAt.wpAny_isSame_ref_other' hne t1 h1 (by simp) hq) (.inr hu) hq
noncomputable def rInDT (K : PySem.W.Frag) : R2 := fun x y H Q => ∃ a b kvs ys, x = .ref a ∧ y = .ref b ∧ Rd H a (.dK kvs) ∧ SqT K H b ys ∧ (∀ v ∈ ys, ∃ c zs, v = .ref c ∧ SqT K H c zs) ∧ Q (.bl true) H
theorem op_notInDT (hu : X.A.units + 65 < cLine) : OpR X (compareOp .NotIn) (rInDT X.K) := by
  intro pins s σ H x y v u Q I rx ry hh
  obtain ⟨a, b, kvs, ys, rfl, rfl, ha, hb, hy, q⟩ := hh
  cases rx; cases ry
  obtain ⟨z, hS, vs, r, ob, es, ep, h1, h2, h3, _⟩ := dk_rd I.hok ha
  obtain ⟨its, rv, p, hz⟩ := I.tuple hb
  refine SeqAt.notIn_tupleAt (fun _ => false) (show s.heap.IsTuple b its.toArray from p) (fun y hm => ?_) ?_
  · obtain ⟨i, hi, e⟩ := List.mem_iff_getElem.mp (List.mem_toArray.mp hm)
    have hl := rv.length
    obtain ⟨w', hw, rw'⟩ := rv.get (i := i) (x := ys[i]'(by omega)) (by simp)
    rw [List.getElem?_eq_getElem hi] at hw
    cases hw
    obtain ⟨c, zs, e2, sq⟩ := hy _ (List.getElem_mem (by omega : i < ys.length))
    rw [e2] at rw'
    have e3 : its[i] = Value.ref c := rw'
    rw [e3] at e
    subst e
    obtain ⟨its2, _, p2, _⟩ := I.tuple sq
    exact eqAt_tup_dict h1 h2 h3 (show s.heap.IsTuple c its2.toArray from p2) (by show X.A.units + 1 < _; omega)
  · have e : its.toArray.any (fun _ => false) = false := by simp
    rw [e]
    exact ⟨.bl true, H, I, rfl, q⟩
noncomputable def isTupP : PV → Bool
  | .tup _ => true
  | _ => false
noncomputable def fNotInTX (x y : PV) (h : Store) : R PV := match x, y with
  | .dct _, .tup ys => if ys.all isTupP = true then .ok (.bl true) h else .no
  | x, y => fNotInTD x y h
noncomputable def rNotInTX (K : PySem.W.Frag) : R2 := fun x y H Q => rInTD K not x y H Q ∨ rInDT K x y H Q
theorem allTup {K : KC} : ∀ {ys : List PV} {vs : List V}, ys.all isTupP = true → RVs K ρ H ys vs → ∀ v ∈ vs, ∃ c zs, v = .ref c ∧ SqT K H c zs
  | [], _, _, r, v, hv => by rw [show _ = [] from r] at hv; cases hv
  | y :: ys, _, c, ⟨w, r, e, h1, h2⟩, v, hv => by
    rw [List.all_cons, Bool.and_eq_true] at c
    rw [e] at hv
    rcases List.mem_cons.mp hv with rfl | hv
    · cases y <;> first | (cases c.1; done) | skip
      obtain ⟨a, vs, e1, t, _⟩ := tup_at h1
      exact ⟨a, vs, e1, t⟩
    · exact allTup c.2 h2 v hv
theorem ox_notInTX : OpX X W fNotInTX (rNotInTX X.K) := by
  intro ρ h σ H x y v w Q p rx ry o
  unfold fNotInTX at o
  split at o
  next kvs ys =>
    obtain ⟨c, o⟩ := out_if o
    obtain ⟨a, vs, e1, t, _⟩ := rx
    obtain ⟨b, ws, e2, t2, rs⟩ := tup_at ry
    exact .inr ⟨a, b, vs, ws, e1, e2, t.2, t2, allTup c rs, o.ok p rfl⟩
  next => exact .inl (ox_notInTD ρ h σ H _ _ v w Q p rx ry o)
variable {a b : Expr} {ma mb : M PV} {pos : Pos}
theorem xt_notInTX {kk : Nat} (hr : Room kk X.A) (ha : XE X W a ma) (hb : XE X W b mb) (hm : behindInMarks .NotIn b = false := by with_unfolding_all rfl) : XT X W (.Compare a [.NotIn] [b] pos) (mB (mBin fNotInTX ma mb)) := xt_cmp ((op_notInTD (by have := hr.un; omega)).or (op_notInDT (by have := hr.un; omega))) ox_notInTX ha hb hm
end
end Wg

namespace Wg.K19
open PySem PySem.Spec PyProof.Rows L2 Wg
/-! the plain functions -/
noncomputable abbrev c_LETTERS : PV := .str [97, 98, 99, 100, 101, 102, 103, 104, 105, 106, 107, 108, 109, 110, 111, 112, 113, 114, 115, 116, 117, 118, 119, 120, 121, 122]
noncomputable abbrev c_MAX_LETTERS : PV := .int 8
noncomputable abbrev c_MOST_PARTING : PV := .int 2
noncomputable abbrev c_NO_PARTING : PV := .int 3
noncomputable abbrev t_InvalidPart : List (Str × Bool) := [("InvalidOperation", false), ("InvalidPart", true), ("InvalidTie", false), ("InvalidWeb", false), ("UnknownName", false)]
noncomputable abbrev t_InvalidTie : List (Str × Bool) := [("InvalidOperation", false), ("InvalidPart", false), ("InvalidTie", true), ("InvalidWeb", false), ("UnknownName", false)]
noncomputable abbrev t_InvalidWeb : List (Str × Bool) := [("InvalidOperation", false), ("InvalidPart", false), ("InvalidTie", false), ("InvalidWeb", true), ("UnknownName", false)]
noncomputable abbrev t_UnknownName : List (Str × Bool) := [("InvalidOperation", false), ("InvalidPart", false), ("InvalidTie", false), ("InvalidWeb", false), ("UnknownName", true)]
/-! _law_word_of -/
noncomputable def s__law_word_of_0 (act : M PV) : MS := mTry (chkB (mDrop (act))) [⟨ctOf t_InvalidWeb, fun _ => mRet (mC (.str [119, 101, 98])), none⟩, ⟨ctOf t_InvalidTie, fun _ => mRet (mC (.str [116, 105, 101])), none⟩, ⟨ctOf t_InvalidPart, fun _ => mRet (mC (.str [112, 97, 114, 116])), none⟩, ⟨ctOf t_UnknownName, fun e => (fun fs => mRet (mBin fAdd (mC (.str [117, 110, 107, 110, 111, 119, 110, 32])) (mCall fRepr (mCons (mFld "word" fs) (mNil))))) e.fld, some 1⟩]
noncomputable def s__law_word_of_1 (act : M PV) : MS := mRet (mC (.str [102, 105, 110, 101]))
noncomputable def m__law_word_of (act : M PV) : MS := mSeq (s__law_word_of_0 act) ((s__law_word_of_1 act))
noncomputable def f__law_word_of (gm : Store → R PV) (h : Store) : R PV := runDef 1 2 (m__law_word_of fun _ h => gm h) [.non] h
/-! Web.lots_without -/
noncomputable def s_Web_lots_without_0 : MS := mRet (mCall f_lots_in (mCons (mUn (fGet "Web" 0) (mVar 0)) (mCons (mDc false (mItT (mVar 1)) [2] (gVar 2) (mYes) (mVar 2) (mC (.bl true))) (mNil))))
noncomputable def m_Web_lots_without : MS := s_Web_lots_without_0
noncomputable def f_Web_lots_without : FN := runDef 2 3 m_Web_lots_without
/-! is_cut_place -/
noncomputable def s_is_cut_place_0 : MS := mRet (mBin fGt (mCall fLenB (mCons (mMet "Web" f_Web_lots_without (mVar 0) (mCons (mTup (mCons (mVar 1) (mNil))) (mNil))) (mNil))) (mCall fLenB (mCons (mProp "Web" f_Web_lots (mVar 0)) (mNil))))
noncomputable def m_is_cut_place : MS := s_is_cut_place_0
noncomputable def f_is_cut_place : FN := runDef 2 2 m_is_cut_place
/-! web_within -/
noncomputable def s_web_within_0 : MS := mRet (mMet "Web" f_Web_without_places (mVar 0) (mCons (mCall fTuple (mCons (mLc (mItT (mProp "Web" f_Web_places (mVar 0))) [2] (gVar 2) (mB (mBin fNotIn (mVar 2) (mVar 1))) (mVar 2)) (mNil))) (mNil)))
noncomputable def m_web_within : MS := s_web_within_0
noncomputable def f_web_within : FN := runDef 2 3 m_web_within
/-! blocks_in -/
noncomputable def s_blocks_in_0 : MS := mPar 2 3 (mCons (mLstN (mNil)) (mCons (mLstN (mCons (mVar 1) (mNil))) (mNil)))
noncomputable def s_blocks_in_1 : MS := mWhile 100 (mB (mBin fNe (mVar 3) (mLst (mNil)))) (mSeq (mSet 4 (mMeth "list" fPop (mVar 3) mNil)) (mSeq (mSet 5 (mCall f_web_within (mCons (mVar 0) (mCons (mVar 4) (mNil))))) (mSeq (mSet 6 (mNextG 0 "blocks_in" "blocks_in.<locals>.<genexpr>" (mItT (mVar 4)) (mB (mCall f_is_cut_place (mCons (mVar 5) (mCons (mVar 8) (mNil))))))) (mIf (mB (mBin fIs (mVar 6) (mC .non))) (mDrop (mMeth "list" fAppend (mVar 2) (mCons (mVar 4) (mNil)))) (mDrop (mMeth "list" fExtend (mVar 3) (mCons (mLc (mItT (mMet "Web" f_Web_lots_without (mVar 5) (mCons (mTup (mCons (mVar 6) (mNil))) (mNil)))) [7] (gVar 7) (mYes) (mCall fTuple (mCons (mCall fSortC (mCons (mLst (mCons (mVar 6) (mStar (mVar 7) (mNil)))) (mNil))) (mNil)))) (mNil))))))))
noncomputable def s_blocks_in_2 : MS := mRet (mVar 2)
noncomputable def m_blocks_in : MS := mSeq s_blocks_in_0 (mSeq s_blocks_in_1 (s_blocks_in_2))
noncomputable def f_blocks_in : FN := runDef 2 8 m_blocks_in
/-! all_blocks -/
noncomputable def s_all_blocks_0 : MS := mDrop (mCall f_require_web (mCons (mVar 0) (mNil)))
noncomputable def s_all_blocks_1 : MS := mRet (mCall fTuple (mCons (mCall fSortC (mCons (mLc2 (mItT (mProp "Web" f_Web_lots (mVar 0))) [1, 2] (gVar 1) (mYes) (mItL (mCall f_blocks_in (mCons (mVar 0) (mCons (mVar 1) (mNil))))) [2] (gVar 2) (mYes) (mVar 2)) (mNil))) (mNil)))
noncomputable def m_all_blocks : MS := mSeq s_all_blocks_0 (s_all_blocks_1)
noncomputable def f_all_blocks : FN := runDef 1 3 m_all_blocks
/-! all_partings -/
noncomputable def s_all_partings_0 : MS := mDrop (mCall f_require_web (mCons (mVar 0) (mNil)))
noncomputable def s_all_partings_1 : MS := mNo
noncomputable def m_all_partings : MS := mSeq s_all_partings_0 (s_all_partings_1)
noncomputable def f_all_partings : FN := runDef 1 2 m_all_partings
/-! cut_places -/
noncomputable def s_cut_places_0 : MS := mDrop (mCall f_require_web (mCons (mVar 0) (mNil)))
noncomputable def s_cut_places_1 : MS := mNo
noncomputable def m_cut_places : MS := mSeq s_cut_places_0 (s_cut_places_1)
noncomputable def f_cut_places : FN := runDef 1 2 m_cut_places
/-! block_doors -/
noncomputable def s_block_doors_0 : MS := mSet 1 (mCall f_cut_places (mCons (mVar 0) (mNil)))
noncomputable def s_block_doors_1 : MS := mNo
noncomputable def m_block_doors : MS := mSeq s_block_doors_0 (s_block_doors_1)
noncomputable def f_block_doors : FN := runDef 1 4 m_block_doors
/-! block_web -/
noncomputable def s_block_web_0 : MS := mDrop (mCall f_require_web (mCons (mVar 0) (mNil)))
noncomputable def s_block_web_1 : MS := mIf (mB (mBin fNotInTX (mVar 1) (mCall f_all_blocks (mCons (mVar 0) (mNil))))) (mRaise "InvalidPart") (mDone)
noncomputable def s_block_web_2 : MS := mRet (mCall f_web_within (mCons (mVar 0) (mCons (mVar 1) (mNil))))
noncomputable def m_block_web : MS := mSeq s_block_web_0 (mSeq s_block_web_1 (s_block_web_2))
noncomputable def f_block_web : FN := runDef 2 2 m_block_web
/-! block_with -/
noncomputable def s_block_with_0 : MS := mDrop (mCall f_require_web (mCons (mVar 0) (mNil)))
noncomputable def s_block_with_1 : MS := mDrop (mMet "Web" f_Web_require_tied (mVar 0) (mCons (mVar 1) (mCons (mVar 2) (mNil))))
noncomputable def s_block_with_2 : MS := mRet (mBin fIxA (mLc (mItT (mCall f_all_blocks (mCons (mVar 0) (mNil)))) [3] (gVar 3) (mAndT (mB (mBin fIn (mVar 1) (mVar 3))) (mB (mBin fIn (mVar 2) (mVar 3)))) (mVar 3)) (mC (.int 0)))
noncomputable def m_block_with : MS := mSeq s_block_with_0 (mSeq s_block_with_1 (s_block_with_2))
noncomputable def f_block_with : FN := runDef 3 4 m_block_with
/-! least_parting -/
noncomputable def s_least_parting_0 : MS := mDrop (mCall f_require_web (mCons (mVar 0) (mNil)))
noncomputable def s_least_parting_1 : MS := mNo
noncomputable def m_least_parting : MS := mSeq s_least_parting_0 (s_least_parting_1)
noncomputable def f_least_parting : FN := runDef 1 1 m_least_parting
/-! held_level -/
noncomputable def s_held_level_0 : MS := mSet 1 (mCall f_least_parting (mCons (mVar 0) (mNil)))
noncomputable def s_held_level_1 : MS := mRet (mIfE (mB (mBin fIs (mVar 1) (mC .non))) (mC c_NO_PARTING) (mCall fLenB (mCons (mVar 1) (mNil))))
noncomputable def m_held_level : MS := mSeq s_held_level_0 (s_held_level_1)
noncomputable def f_held_level : FN := runDef 1 2 m_held_level
/-! is_held -/
noncomputable def s_is_held_0 : MS := mDrop (mCall f_require_web (mCons (mVar 0) (mNil)))
noncomputable def s_is_held_1 : MS := mNo
noncomputable def s_is_held_2 : MS := mNo
noncomputable def s_is_held_3 : MS := mNo
noncomputable def m_is_held : MS := mSeq s_is_held_0 (mSeq s_is_held_1 (mSeq s_is_held_2 (s_is_held_3)))
noncomputable def f_is_held : FN := runDef 1 4 m_is_held
/-! parts_web -/
noncomputable def s_parts_web_0 : MS := mRet (mBin fGt (mCall fLenB (mCons (mMet "Web" f_Web_lots_without (mVar 0) (mCons (mVar 1) (mNil))) (mNil))) (mC (.int 1)))
noncomputable def m_parts_web : MS := s_parts_web_0
noncomputable def f_parts_web : FN := runDef 2 2 m_parts_web
/-! is_parting -/
noncomputable def s_is_parting_0 : MS := mDrop (mCall f_require_web (mCons (mVar 0) (mNil)))
noncomputable def s_is_parting_1 : MS := mIf (mOrT (mNotT (mB (mCall f_are_rising (mCons (mVar 1) (mNil))))) (mOrT (mB (mBin fGt (mCall fLenB (mCons (mVar 1) (mNil))) (mC c_MOST_PARTING))) (mNotT (mB (mCall fAll (mCons (mLc (mItT (mVar 1)) [2] (gVar 2) (mYes) (mOwnIn id "Web" f_Web___contains__ (mVar 2) (mVar 0))) (mNil))))))) (mRet (mC (.bl false))) (mDone)
noncomputable def s_is_parting_2 : MS := mRet (mCall f_parts_web (mCons (mVar 0) (mCons (mVar 1) (mNil))))
noncomputable def m_is_parting : MS := mSeq s_is_parting_0 (mSeq s_is_parting_1 (s_is_parting_2))
noncomputable def f_is_parting : FN := runDef 2 3 m_is_parting
/-! _law_right -/
noncomputable def s__law_right_0 : MS := mSet 2 (mCall f__law_pick (mCons (mVar 0) (mCons (mLst (mCons (mC .non) (mCons (mC (.int 0)) (mCons (mC (.str [])) (mCons (mTup (mNil)) (mCons (mLst (mNil)) (mCons (mC (.dct [])) (mCons (mProp "Web" f_Web_ties (mVar 1)) (mCons (mProp "Web" f_Web_places (mVar 1)) (mCons (mC (.bl true)) (mCons (mC (.str [119, 101, 98])) (mNil)))))))))))) (mNil))))
noncomputable def s__law_right_1 : MS := mSet 3 (mCall f__law_pick (mCons (mVar 0) (mCons (mLst (mCons (mC .non) (mCons (mC (.int 0)) (mCons (mC (.str [])) (mCons (mC (.str [65])) (mCons (mC (.str [110, 111, 98, 111, 100, 121])) (mCons (mTup (mCons (mC (.str [97])) (mNil))) (mCons (mLst (mCons (mC (.str [97])) (mNil))) (mCons (mC (.dct [])) (mCons (mC (.bl true)) (mNil))))))))))) (mNil))))
noncomputable def s__law_right_2 : MS := mSet 4 (mLst (mCons (mC .non) (mCons (mC (.int 0)) (mCons (mTup (mNil)) (mCons (mLst (mCons (mC (.str [97])) (mCons (mC (.str [98])) (mCons (mC (.str [99])) (mNil))))) (mCons (mTup (mCons (mC (.str [97])) (mCons (mC (.str [98])) (mNil)))) (mCons (mTup (mCons (mC (.str [99])) (mCons (mC (.str [98])) (mCons (mC (.str [97])) (mNil))))) (mCons (mTup (mCons (mC (.str [97])) (mCons (mC (.str [98])) (mCons (mC (.str [99])) (mCons (mC (.str [100])) (mNil)))))) (mCons (mC (.dct [])) (mCons (mC (.str [97, 98, 99])) (mNil)))))))))))
noncomputable def s__law_right_3 : MS := mSet 4 (mCall f__law_pick (mCons (mVar 0) (mCons (mVar 4) (mNil))))
noncomputable def s__law_right_4 : MS := mSet 5 (mLstN (mCons (mLam 1 "_law_right" "_law_right.<locals>.<lambda>" f__law_word_of (mCall f_is_parting (mCons (mVar 2) (mCons (mTup (mNil)) (mNil))))) (mNil)))
noncomputable def s__law_right_5 : MS := mDrop (mMeth "list" fAppend (mVar 5) (mCons (mLam 1 "_law_right" "_law_right.<locals>.<lambda>" f__law_word_of (mCall f_all_partings (mCons (mVar 2) (mNil)))) (mNil)))
noncomputable def s__law_right_6 : MS := mDrop (mMeth "list" fAppend (mVar 5) (mCons (mLam 1 "_law_right" "_law_right.<locals>.<lambda>" f__law_word_of (mCall f_least_parting (mCons (mVar 2) (mNil)))) (mNil)))
noncomputable def s__law_right_7 : MS := mDrop (mMeth "list" fAppend (mVar 5) (mCons (mLam 1 "_law_right" "_law_right.<locals>.<lambda>" f__law_word_of (mCall f_held_level (mCons (mVar 2) (mNil)))) (mNil)))
noncomputable def s__law_right_8 : MS := mDrop (mMeth "list" fAppend (mVar 5) (mCons (mLam 1 "_law_right" "_law_right.<locals>.<lambda>" f__law_word_of (mCall f_is_held (mCons (mVar 2) (mNil)))) (mNil)))
noncomputable def s__law_right_9 : MS := mDrop (mMeth "list" fAppend (mVar 5) (mCons (mLam 1 "_law_right" "_law_right.<locals>.<lambda>" f__law_word_of (mCall f_cut_places (mCons (mVar 2) (mNil)))) (mNil)))
noncomputable def s__law_right_10 : MS := mDrop (mMeth "list" fAppend (mVar 5) (mCons (mLam 1 "_law_right" "_law_right.<locals>.<lambda>" f__law_word_of (mCall f_all_blocks (mCons (mVar 2) (mNil)))) (mNil)))
noncomputable def s__law_right_11 : MS := mDrop (mMeth "list" fAppend (mVar 5) (mCons (mLam 1 "_law_right" "_law_right.<locals>.<lambda>" f__law_word_of (mCall f_block_with (mCons (mVar 2) (mCons (mVar 3) (mCons (mVar 3) (mNil)))))) (mNil)))
noncomputable def s__law_right_12 : MS := mDrop (mMeth "list" fAppend (mVar 5) (mCons (mLam 1 "_law_right" "_law_right.<locals>.<lambda>" f__law_word_of (mCall f_block_web (mCons (mVar 2) (mCons (mVar 4) (mNil))))) (mNil)))
noncomputable def s__law_right_13 : MS := mDrop (mMeth "list" fAppend (mVar 5) (mCons (mLam 1 "_law_right" "_law_right.<locals>.<lambda>" f__law_word_of (mCall f_block_doors (mCons (mVar 2) (mNil)))) (mNil)))
noncomputable def s__law_right_14 : MS := mDrop (mMeth "list" fAppend (mVar 5) (mCons (mLam 1 "_law_right" "_law_right.<locals>.<lambda>" f__law_word_of (mCall f_block_with (mCons (mVar 1) (mCons (mVar 3) (mCons (mC (.str [110, 111, 119, 104, 101, 114, 101])) (mNil)))))) (mNil)))
noncomputable def s__law_right_15 : MS := mDrop (mMeth "list" fAppend (mVar 5) (mCons (mLam 1 "_law_right" "_law_right.<locals>.<lambda>" f__law_word_of (mCall f_block_with (mCons (mVar 1) (mCons (mC (.str [97])) (mCons (mVar 3) (mNil)))))) (mNil)))
noncomputable def s__law_right_16 : MS := mDrop (mMeth "list" fAppend (mVar 5) (mCons (mLam 1 "_law_right" "_law_right.<locals>.<lambda>" f__law_word_of (mCall f_block_with (mCons (mVar 1) (mCons (mC (.str [97])) (mCons (mC (.str [101])) (mNil)))))) (mNil)))
noncomputable def s__law_right_17 : MS := mDrop (mMeth "list" fAppend (mVar 5) (mCons (mLam 1 "_law_right" "_law_right.<locals>.<lambda>" f__law_word_of (mCall f_block_with (mCons (mVar 1) (mCons (mC (.str [97])) (mCons (mC (.str [97])) (mNil)))))) (mNil)))
noncomputable def s__law_right_18 : MS := mDrop (mMeth "list" fAppend (mVar 5) (mCons (mLam 1 "_law_right" "_law_right.<locals>.<lambda>" f__law_word_of (mCall f_block_web (mCons (mVar 1) (mCons (mVar 4) (mNil))))) (mNil)))
noncomputable def s__law_right_19 : MS := mDrop (mMeth "list" fAppend (mVar 5) (mCons (mLam 1 "_law_right" "_law_right.<locals>.<lambda>" f__law_word_of (mCall f_block_with (mCons (mVar 1) (mCons (mC (.str [98])) (mCons (mC (.str [97])) (mNil)))))) (mNil)))
noncomputable def s__law_right_20 : MS := mDrop (mMeth "list" fAppend (mVar 5) (mCons (mLam 1 "_law_right" "_law_right.<locals>.<lambda>" f__law_word_of (mCall f_is_parting (mCons (mVar 1) (mCons (mVar 2) (mNil))))) (mNil)))
noncomputable def s__law_right_21 : MS := mSet 6 (mBin fAdd (mC (.str [117, 110, 107, 110, 111, 119, 110, 32])) (mCall fRepr (mCons (mVar 3) (mNil))))
noncomputable def s__law_right_22 : MS := mRet (mBin fEq (mVar 5) (mBin fAdd (mBin fMulB (mLst (mCons (mC (.str [119, 101, 98])) (mNil))) (mC (.int 10))) (mLst (mCons (mVar 6) (mCons (mVar 6) (mCons (mC (.str [116, 105, 101])) (mCons (mC (.str [116, 105, 101])) (mCons (mC (.str [112, 97, 114, 116])) (mCons (mC (.str [102, 105, 110, 101])) (mCons (mC (.str [102, 105, 110, 101])) (mNil)))))))))))
noncomputable def m__law_right : MS := mSeq s__law_right_0 (mSeq s__law_right_1 (mSeq s__law_right_2 (mSeq s__law_right_3 (mSeq s__law_right_4 (mSeq s__law_right_5 (mSeq s__law_right_6 (mSeq s__law_right_7 (mSeq s__law_right_8 (mSeq s__law_right_9 (mSeq s__law_right_10 (mSeq s__law_right_11 (mSeq s__law_right_12 (mSeq s__law_right_13 (mSeq s__law_right_14 (mSeq s__law_right_15 (mSeq s__law_right_16 (mSeq s__law_right_17 (mSeq s__law_right_18 (mSeq s__law_right_19 (mSeq s__law_right_20 (mSeq s__law_right_21 (s__law_right_22))))))))))))))))))))))
noncomputable def f__law_right : FN := runDef 2 7 m__law_right
/-! law -/
noncomputable def b_law_0 : MS := mIf (mNotT (mB (mCall f__law_right (mCons (mVar 3) (mCons (mVar 1) (mNil)))))) (mRet (mC (.bl false))) (mDone)
noncomputable def b_law_1 : MS := mSeq (mSet 3 (mCall f__law_dice (mCons (mVar 0) (mCons (mVar 2) (mNil))))) (mFor (mItC fRange1 (mCons (mC (.int 3)) (mNil))) (gVar 4) (b_law_0))
noncomputable def s_law_0 : MS := mSet 1 (mCall f__law_made (mCons (mCall f__law_written (mCons (mC (.int 6)) (mNil))) (mNil)))
noncomputable def s_law_1 : MS := mFor (mItC fRange1 (mCons (mCall fMax2 (mCons (mC (.int 1)) (mCons (mCall fMin2 (mCons (mC (.int 6)) (mCons (mCall fLenB (mCons (mVar 0) (mNil))) (mNil)))) (mNil)))) (mNil))) (gVar 2) (b_law_1)
noncomputable def s_law_2 : MS := mRet (mC (.bl true))
noncomputable def m_law : MS := mSeq s_law_0 (mSeq s_law_1 (s_law_2))
noncomputable def f_law : FN := runDef 1 5 m_law
noncomputable abbrev tsL : List (Str × Str) := [("blocks_in", "blocks_in.<locals>.<genexpr>"), ("_law_right", "_law_right.<locals>.<lambda>")]
end Wg.K19

namespace Wg
open PySem
/-! ### strict total orders, told by tests -/
noncomputable abbrev Nm := List Nat
noncomputable abbrev Ty := Nm × Nm
structure Sto {α : Type} (lt : α → α → Bool) : Prop where
  irr : ∀ a, lt a a = false
  tr : ∀ a b c, lt a b = true → lt b c = true → lt a c = true
  tot : ∀ a b, lt a b = false → lt b a = false → a = b
noncomputable def Srt {α : Type} (lt : α → α → Bool) (L : List α) : Prop := L.Pairwise fun a b => lt a b = true
section
variable {α β : Type} {lt : α → α → Bool} {lt' : β → β → Bool}
theorem Sto.asym (S : Sto lt) {a b : α} (h : lt a b = true) : lt b a = false := by
  cases q : lt b a with
  | false => rfl
  | true => have := S.tr _ _ _ h q; rw [S.irr] at this; cases this
theorem Sto.swo (S : Sto lt) : SrtO.Swo lt := ⟨fun x y h => S.asym h, fun x y z h1 h2 => by
  cases q : lt z x with
  | false => rfl
  | true =>
    cases r : lt y z with
    | true => rw [S.tr _ _ _ r q] at h1; cases h1
    | false => have := S.tot _ _ r h2; subst this; rw [q] at h1; cases h1⟩
theorem mem_isort {L : List α} {x : α} : x ∈ isort lt L ↔ x ∈ L := (isort_perm L).mem_iff
theorem Srt.nodup (S : Sto lt) {L : List α} (s : Srt lt L) : L.Nodup := List.Pairwise.imp (fun {a b} h e => by subst e; rw [S.irr] at h; cases h) s
theorem srt_isort (S : Sto lt) {L : List α} (nd : L.Nodup) : Srt lt (isort lt L) := by
  have s := isort_srtd S.swo L
  have nd2 : (isort lt L).Nodup := (isort_perm L).nodup_iff.mpr nd
  refine List.Pairwise.imp₂ ?_ s nd2
  intro a b h ne
  cases q : lt a b with
  | true => rfl
  | false => exact absurd (S.tot _ _ q h) ne
theorem srt_ext (S : Sto lt) : ∀ {L M : List α}, Srt lt L → Srt lt M → (∀ x, x ∈ L ↔ x ∈ M) → L = M
  | [], [], _, _, _ => rfl
  | [], b :: m, _, _, h => absurd ((h b).mpr List.mem_cons_self) List.not_mem_nil
  | a :: l, [], _, _, h => absurd ((h a).mp List.mem_cons_self) List.not_mem_nil
  | a :: l, b :: m, s, t, h => by
    have s1 := List.pairwise_cons.mp s
    have t1 := List.pairwise_cons.mp t
    have e : a = b := by
      rcases List.mem_cons.mp ((h a).mp List.mem_cons_self) with z | z
      · exact z
      · rcases List.mem_cons.mp ((h b).mpr List.mem_cons_self) with y | y
        · exact y.symm
        · have := S.tr _ _ _ (s1.1 b y) (t1.1 a z); rw [S.irr] at this; cases this
    subst e
    rw [srt_ext S s1.2 t1.2 fun x => ?_]
    have na : a ∉ l := (List.nodup_cons.mp (Srt.nodup S s)).1
    have nb : a ∉ m := (List.nodup_cons.mp (Srt.nodup S t)).1
    constructor
    · intro hx
      rcases List.mem_cons.mp ((h x).mp (List.mem_cons_of_mem _ hx)) with z | z
      · rw [z] at hx; exact absurd hx na
      · exact z
    · intro hx
      rcases List.mem_cons.mp ((h x).mpr (List.mem_cons_of_mem _ hx)) with z | z
      · rw [z] at hx; exact absurd hx nb
      · exact z
theorem sort_eq (S : Sto lt) {L M : List α} (nd : L.Nodup) (s : Srt lt M) (h : ∀ x, x ∈ L ↔ x ∈ M) : isort lt L = M :=
  srt_ext S (srt_isort S nd) s fun x => mem_isort.trans (h x)
theorem ins_map {f : α → β} (hf : ∀ a b, lt' (f a) (f b) = lt a b) (x : α) : ∀ L : List α, ins lt' (f x) (L.map f) = (ins lt x L).map f
  | [] => rfl
  | y :: L => by
    rw [List.map_cons]
    unfold ins
    rw [hf]
    split
    · rw [List.map_cons, ins_map hf x L]
    · rfl
theorem isort_map {f : α → β} (hf : ∀ a b, lt' (f a) (f b) = lt a b) : ∀ L : List α, isort lt' (L.map f) = (isort lt L).map f
  | [] => rfl
  | x :: L => by
    have ih := isort_map hf L
    unfold isort at ih ⊢
    rw [List.map_cons, List.foldr_cons, List.foldr_cons, ih, ins_map hf]
theorem Srt.filter {L : List α} (s : Srt lt L) (p : α → Bool) : Srt lt (L.filter p) := List.Pairwise.filter p s
end
theorem sto_N : Sto ltL where
  irr := fun a => decide_eq_false (List.lt_irrefl a)
  tr := fun a b c h1 h2 => decide_eq_true (List.lt_trans (of_decide_eq_true h1) (of_decide_eq_true h2))
  tot := fun a b h1 h2 => by
    rcases nl_trich a b with h | h | h
    · exact absurd h (of_decide_eq_false h1)
    · exact h
    · exact absurd h (of_decide_eq_false h2)
theorem ltTx_trans : ∀ x y z, ltTx x y = true → ltTx y z = true → ltTx x z = true := fun x y z h1 h2 => by
  cases q : ltTx x z with
  | true => rfl
  | false =>
    have := ltTx_tr z x y q (ltTx_asym _ _ h1)
    rw [h2] at this; cases this
/-- ties in their order -/
noncomputable def tx (t : Ty) : List Nm := [t.1, t.2]
noncomputable def ltT (a b : Ty) : Bool := ltTx (tx a) (tx b)
theorem tx_inj {a b : Ty} (h : tx a = tx b) : a = b := by
  unfold tx at h
  injection h with h1 h
  injection h with h2 _
  exact Prod.ext h1 h2
theorem sto_T : Sto ltT where
  irr := fun a => ltTx_irrefl _
  tr := fun a b c h1 h2 => ltTx_trans _ _ _ h1 h2
  tot := fun a b h1 h2 => tx_inj (ltTx_total _ _ h1 h2)
/-! ### webs -/
structure Wb where
  P : List Nm
  T : List Ty
structure Wb.Ok (w : Wb) : Prop where
  nm : ∀ p ∈ w.P, wordB p = true
  srt : Srt ltL w.P
  pos : w.P ≠ []
  len : w.P.length ≤ 16
  tsrt : Srt ltT w.T
  tlen : w.T.length ≤ 60
  tin : ∀ t ∈ w.T, t.1 < t.2 ∧ t.1 ∈ w.P ∧ t.2 ∈ w.P
noncomputable def adj (T : List Ty) (a b : Nm) : Bool := decide ((a, b) ∈ T) || decide ((b, a) ∈ T)
theorem adj_comm (T : List Ty) (a b : Nm) : adj T a b = adj T b a := by unfold adj; rw [Bool.or_comm]
theorem adj_iff {T : List Ty} {a b : Nm} : adj T a b = true ↔ (a, b) ∈ T ∨ (b, a) ∈ T := by unfold adj; simp
noncomputable def Wb.nb (w : Wb) (p : Nm) : List Nm := w.P.filter (adj w.T p)
theorem Wb.Ok.adj_in {w : Wb} (o : w.Ok) {a b : Nm} (h : adj w.T a b = true) : a ∈ w.P ∧ b ∈ w.P ∧ a ≠ b := by
  rcases adj_iff.mp h with h | h
  · have := o.tin _ h; exact ⟨this.2.1, this.2.2, fun e => by have := this.1; rw [show (a, b).1 = a from rfl, show (a, b).2 = b from rfl, e] at this; exact List.lt_irrefl _ this⟩
  · have := o.tin _ h; exact ⟨this.2.2, this.2.1, fun e => by have := this.1; rw [show (b, a).1 = b from rfl, show (b, a).2 = a from rfl, e] at this; exact List.lt_irrefl _ this⟩
theorem Wb.Ok.mem_nb {w : Wb} (o : w.Ok) {p q : Nm} : q ∈ w.nb p ↔ adj w.T p q = true := by
  unfold Wb.nb
  rw [List.mem_filter]
  exact ⟨fun h => h.2, fun h => ⟨(o.adj_in h).2.1, h⟩⟩
theorem Wb.Ok.nd {w : Wb} (o : w.Ok) : w.P.Nodup := o.srt.nodup sto_N
theorem Wb.Ok.tnd {w : Wb} (o : w.Ok) : w.T.Nodup := o.tsrt.nodup sto_T
/-- q hangs with p, without those that are gone -/
inductive Rch (T : List Ty) (gone : List Nm) (p : Nm) : Nm → Prop
  | refl : Rch T gone p p
  | step {q r : Nm} : Rch T gone p q → adj T q r = true → r ∉ gone → Rch T gone p r
open Classical in
/-- the lot of p -/
noncomputable def Wb.lot (w : Wb) (gone : List Nm) (p : Nm) : List Nm := w.P.filter fun q => decide (Rch w.T gone p q)
theorem Wb.mem_lot {w : Wb} {gone : List Nm} {p q : Nm} : q ∈ w.lot gone p ↔ q ∈ w.P ∧ Rch w.T gone p q := by
  unfold Wb.lot
  rw [List.mem_filter]
  simp
theorem Wb.Ok.lot_srt {w : Wb} (o : w.Ok) (gone : List Nm) (p : Nm) : Srt ltL (w.lot gone p) := o.srt.filter _
/-- the lots, in the order in which they are found -/
noncomputable def Wb.lotsGo (w : Wb) (gone : List Nm) : Nat → List Nm → List (List Nm)
  | 0, _ => []
  | _ + 1, [] => []
  | n + 1, p :: r => w.lot gone p :: Wb.lotsGo w gone n ((p :: r).filter fun q => !decide (q ∈ w.lot gone p))
noncomputable def Wb.lots (w : Wb) (gone : List Nm) : List (List Nm) := isort ltTx (w.lotsGo gone w.P.length (w.P.filter fun q => !decide (q ∈ gone)))
/-! ### as values -/
noncomputable def tV (t : Ty) : PV := .tup [.str t.1, .str t.2]
noncomputable abbrev sPl : List Nat := [112, 108, 97, 99, 101, 115]
noncomputable abbrev sTi : List Nat := [116, 105, 101, 115]
noncomputable def plV (w : Wb) : PV := .dct [(.str sPl, .lst (w.P.map .str)), (.str sTi, .lst (w.T.map tV))]
noncomputable def besV (w : Wb) : List (PV × PV) := w.P.map fun p => (.str p, .tup ((w.nb p).map .str))
noncomputable def tieK (w : Wb) : List (PV × PV) := w.T.map fun t => (tV t, .bl true)
noncomputable def wV (w : Wb) : PV := .ins "Web" [.dct (besV w), .tup ((w.lots []).map tpv), .tup (w.P.map .str), .dcT (tieK w)]
end Wg

namespace Wg
open PySem
section
variable {h : Store} {α : Type}
@[simp] theorem fIn_pair {p a b : Nm} : fIn (.str p) (.tup [.str a, .str b]) h = .ok (.bl (decide (a = p) || decide (b = p))) h := by
  simp only [fIn, inB, getD, flatP, List.all_cons, List.all_nil, Bool.and_self, if_true, List.any_cons, List.any_nil, eqPV, Bool.or_false]
@[simp] theorem gTup2 {i j : Nat} {x y : PV} {l : Lv} : gTupX 2 (gConsX (gVar i) (gConsX (gVar j) gNilX)) (.tup [x, y]) l h = .ok ((l.set i (some x)).set j (some y)) h := rfl
/-! sorted -/
theorem sortP_strs (L : List Nm) : sortP (L.map .str) = some ((isort ltL L).map .str) := by
  unfold sortP
  rw [strsOf_str]
theorem ltP2_tpv (a b : List Nm) : ltP2 (tpv a) (tpv b) = ltTx a b := by
  unfold ltP2
  rw [txOf_tpv, txOf_tpv]; rfl
theorem sortP_txs {Ls : List (List Nm)} (hne : ∀ l ∈ Ls, l ≠ []) : sortP (Ls.map tpv) = some ((isort ltTx Ls).map tpv) := by
  cases Ls with
  | nil => rfl
  | cons l r =>
    have e1 : strsOf ((l :: r).map tpv) = none := by rw [List.map_cons]; rfl
    have e2 : (((l :: r).map tpv).all fun x => match txOf x with | some (_ :: _) => true | _ => false) = true := by
      rw [List.all_eq_true]
      intro x hx
      obtain ⟨y, hy, rfl⟩ := List.mem_map.mp hx
      have := hne y hy
      rw [txOf_tpv]
      cases y with
      | nil => exact absurd rfl this
      | cons a b => rfl
    unfold sortP
    rw [e1]
    refine (if_pos e2).trans ?_
    congr 1
    exact isort_map (f := tpv) (lt := ltTx) (lt' := ltP2) ltP2_tpv (l :: r)
theorem fSortC_lst {xs zs : List PV} (e : sortP xs = some zs) : fSortC [.lst xs] h = .ok (.lst zs) h := by
  show (match sortP xs with | some zs => R.ok (PV.lst zs) h | none => .no) = _
  rw [e]
@[simp] theorem fSortC_strs (L : List Nm) : fSortC [.lst (L.map .str)] h = .ok (.lst ((isort ltL L).map .str)) h := fSortC_lst (sortP_strs L)
theorem map_tV (T : List Ty) : T.map tV = (T.map tx).map tpv := by rw [List.map_map]; rfl
theorem sortP_ties (T : List Ty) : sortP (T.map tV) = some ((isort ltT T).map tV) := by
  rw [map_tV, sortP_txs (fun l hl => by obtain ⟨t, _, rfl⟩ := List.mem_map.mp hl; exact List.cons_ne_nil _ _), isort_map (f := tx) (lt := ltT) (lt' := ltTx) (fun a b => rfl), ← map_tV]
@[simp] theorem fSortC_ties (T : List Ty) : fSortC [.lst (T.map tV)] h = .ok (.lst ((isort ltT T).map tV)) h := fSortC_lst (sortP_ties T)
/-! ### neighbours -/
/-! ### slices -/
@[simp] theorem fSl_tup {xs : List PV} {lo hi : Option Int} : fSl (.tup xs) lo hi h = .ok (.tup (cutP xs lo hi)) h := rfl
@[simp] theorem fSl_lst {xs : List PV} {lo hi : Option Int} : fSl (.lst xs) lo hi h = .ok (.lst (cutP xs lo hi)) h := rfl
/-! ### ascending rows -/
end
end Wg

namespace Wg
open PySem
section
variable {h : Store}
/-! ### dicts of names, of ties -/
noncomputable def kvN (F : Nm → PV) (L : List Nm) : List (PV × PV) := L.map fun x => (.str x, F x)
/-! ### is_tie, are_parts -/
end
end Wg

namespace Wg
open PySem
section
variable {h : Store} {w : Wb}
noncomputable abbrev pV (w : Wb) : PV := .tup (w.P.map .str)
@[simp] theorem mDc_at {b : Bool} {src : M (List PV)} {own : List Nat} {g : MG} {t : M Bool} {k v : M PV} {l : Lv} : mDc b src own g t k v l h = (src l h).bind fun ys h1 => (dcL b g t k v ys [] (wipeL l own) h1).bind fun kvs h2 => .ok (mkD b kvs) h2 := rfl
end
end Wg

namespace Wg
open PySem
section
variable {h : Store} {w : Wb} {A B C : Cell} {G : List Nm} {p : Nm}
/-! ### two cells at the end of the store -/
@[simp] theorem two_0 : (h ++ [A, B])[h.length]? = some A := by simp
@[simp] theorem two_1 : (h ++ [A, B])[h.length + 1]? = some B := by simp
@[simp] theorem two_s0 : (h ++ [A, B]).set h.length C = h ++ [C, B] := by simp [List.set_append_right]
@[simp] theorem two_s1 : (h ++ [A, B]).set (h.length + 1) C = h ++ [A, C] := by simp [List.set_append_right]
@[simp] theorem one_0 : (h ++ [A])[h.length]? = some A := by simp
@[simp] theorem one_s : (h ++ [A]).set h.length C = h ++ [C] := by simp [List.set_append_right]
/-! ### the lot around a place -/
noncomputable abbrev yesV : Nm → PV := fun _ => .bl true
/-- the places that come in -/
noncomputable def growN (G : List Nm) : List Nm → List Nm → List Nm
  | [], _ => []
  | y :: ys, L => if y ∈ L ∨ y ∈ G then growN G ys L else y :: growN G ys (L ++ [y])
theorem growN_mem : ∀ {ys L : List Nm} {y : Nm}, y ∈ growN G ys L → y ∈ ys ∧ y ∉ L ∧ y ∉ G
  | [], _, _, h => absurd h List.not_mem_nil
  | x :: ys, L, y, h => by
    unfold growN at h
    by_cases c : x ∈ L ∨ x ∈ G
    · rw [if_pos c] at h; have := growN_mem h; exact ⟨List.mem_cons_of_mem _ this.1, this.2⟩
    · rw [if_neg c] at h
      rcases List.mem_cons.mp h with e | e
      · subst e; exact ⟨List.mem_cons_self, fun z => c (.inl z), fun z => c (.inr z)⟩
      · have := growN_mem e; exact ⟨List.mem_cons_of_mem _ this.1, fun z => this.2.1 (List.mem_append_left _ z), this.2.2⟩
theorem growN_nd : ∀ {ys L : List Nm}, (growN G ys L).Nodup
  | [], _ => List.nodup_nil
  | x :: ys, L => by
    unfold growN
    by_cases c : x ∈ L ∨ x ∈ G
    · rw [if_pos c]; exact growN_nd
    · rw [if_neg c]; exact List.nodup_cons.mpr ⟨fun z => (growN_mem z).2.1 (List.mem_append_right _ (List.mem_singleton.mpr rfl)), growN_nd⟩
theorem growN_all : ∀ {ys L : List Nm} {y : Nm}, y ∈ ys → y ∉ G → y ∈ L ∨ y ∈ growN G ys L
  | x :: ys, L, y, h, hg => by
    unfold growN
    by_cases c : x ∈ L ∨ x ∈ G
    · rw [if_pos c]
      rcases List.mem_cons.mp h with e | e
      · subst e; exact .inl (c.resolve_right hg)
      · exact growN_all e hg
    · rw [if_neg c]
      rcases List.mem_cons.mp h with e | e
      · subst e; exact .inr List.mem_cons_self
      · rcases growN_all (L := L ++ [x]) e hg with z | z
        · rcases List.mem_append.mp z with z | z
          · exact .inl z
          · rw [List.mem_singleton.mp z]; exact .inr List.mem_cons_self
        · exact .inr (List.mem_cons_of_mem _ z)
noncomputable abbrev laL (w : Wb) (G : List Nm) (p : Nm) (n : Nat) (o : Option PV) : Lv := [some (.dct (besV w)), some (.dct (kvN yesV G)), some (.str p), some (.ref n), some (.ref (n + 1)), o]
theorem nodup_len {α : Type} [DecidableEq α] : ∀ {L P : List α}, L.Nodup → (∀ x ∈ L, x ∈ P) → L.length ≤ P.length
  | [], _, _, _ => Nat.zero_le _
  | x :: L, P, nd, s => by
    have nd := List.nodup_cons.mp nd
    have hx := s x List.mem_cons_self
    have := nodup_len (L := L) (P := P.erase x) nd.2 fun y hy => (List.mem_erase_of_ne (fun e => nd.1 (by rw [← e]; exact hy))).mpr (s y (List.mem_cons_of_mem _ hy))
    rw [List.length_erase_of_mem hx] at this
    have hp := List.length_pos_of_mem hx
    rw [List.length_cons]; omega
structure LI (w : Wb) (G : List Nm) (p : Nm) (L W : List Nm) : Prop where
  pin : p ∈ L
  nd : L.Nodup
  sub : ∀ x ∈ L, x ∈ w.P ∧ Rch w.T G p x
  wsub : ∀ x ∈ W, x ∈ L
  cl : ∀ x ∈ L, x ∉ W → ∀ y, adj w.T x y = true → y ∉ G → y ∈ L
theorem LI.step {L W : List Nm} {x : Nm} (o : w.Ok) (i : LI w G p L (W ++ [x])) : LI w G p (L ++ growN G (w.nb x) L) (W ++ growN G (w.nb x) L) := by
  have hx : x ∈ L := i.wsub x (List.mem_append_right _ (List.mem_singleton.mpr rfl))
  refine ⟨List.mem_append_left _ i.pin, List.nodup_append.mpr ⟨i.nd, growN_nd, fun a ha b hb e => (growN_mem hb).2.1 (by rw [← e]; exact ha)⟩, fun y hy => ?_, fun y hy => ?_, fun y hy hw z az gz => ?_⟩
  · rcases List.mem_append.mp hy with q | q
    · exact i.sub y q
    · have m := growN_mem q
      have a := o.mem_nb.mp m.1
      exact ⟨(o.adj_in a).2.1, .step (i.sub x hx).2 a m.2.2⟩
  · rcases List.mem_append.mp hy with q | q
    · exact List.mem_append_left _ (i.wsub y (List.mem_append_left _ q))
    · exact List.mem_append_right _ q
  · rcases List.mem_append.mp hy with q | q
    · by_cases c : y = x
      · subst c
        rcases growN_all (L := L) (o.mem_nb.mpr az) gz with r | r
        · exact List.mem_append_left _ r
        · exact List.mem_append_right _ r
      · refine List.mem_append_left _ (i.cl y q (fun r => ?_) z az gz)
        rcases List.mem_append.mp r with r | r
        · exact hw (List.mem_append_left _ r)
        · exact c (List.mem_singleton.mp r)
    · exact absurd (List.mem_append_right _ q) hw
theorem LI.done {L : List Nm} (o : w.Ok) (i : LI w G p L []) : isort ltL L = w.lot G p := by
  refine sort_eq sto_N i.nd (o.lot_srt G p) fun x => ⟨fun h => Wb.mem_lot.mpr (i.sub x h), fun h => ?_⟩
  have r := (Wb.mem_lot.mp h).2
  clear h
  induction r with
  | refl => exact i.pin
  | step _ a g ih => exact i.cl _ ih List.not_mem_nil _ a g
theorem runDef_rt {np n : Nat} {body : MS} {args : List PV} {h h' : Store} {x : PV} (hl : args.length = np) (e : body (initL n args) h = .ok (.rt x) h') : runDef np n body args h = handO h.length x h' := by
  unfold runDef
  rw [if_pos hl, e]
theorem handO_flat {x : PV} {ls : Store} (c : Closed h) (b : below h.length x = true) : handO h.length x (h ++ ls) = .ok x h := by
  cases ls with
  | nil => rw [List.append_nil]; exact handO_self
  | cons a ls =>
    refine handO_cut (List.cons_ne_nil _ _) c ?_
    unfold frz
    rw [if_pos b]
end
end Wg

namespace Wg
open PySem
section
variable {h : Store} {w : Wb} {G : List Nm} {p : Nm}
/-! ### the lots -/
mutual
theorem below_le {n m : Nat} (k : n ≤ m) : ∀ x : PV, below n x = true → below m x = true
  | .ref a, b => by unfold below at b ⊢; exact decide_eq_true (Nat.lt_of_lt_of_le (of_decide_eq_true b) k)
  | .tup xs, b => by unfold below at b ⊢; exact belows_le k xs b
  | .lst xs, b => by unfold below at b ⊢; exact belows_le k xs b
  | .scr xs, b => by unfold below at b ⊢; exact belows_le k xs b
  | .dct xs, b => by unfold below at b ⊢; exact belowd_le k xs b
  | .dcT xs, b => by unfold below at b ⊢; exact belowd_le k xs b
  | .ins _ xs, b => by unfold below at b ⊢; exact belows_le k xs b
  | .set xs, b => by unfold below at b ⊢; exact belows_le k xs b
  | .dctO xs, b => by unfold below at b ⊢; exact belows_le k xs b
  | .non, _ => rfl
  | .bl _, _ => rfl
  | .int _, _ => rfl
  | .str _, _ => rfl
  | .ty _, _ => rfl
  | .adr _, _ => rfl
  | .cls _, _ => rfl
  | .exn _, _ => rfl
  | .lam _ _ _ _ _, b => by unfold below at b; cases b
theorem belows_le {n m : Nat} (k : n ≤ m) : ∀ xs : List PV, belows n xs = true → belows m xs = true
  | [], _ => rfl
  | x :: xs, b => by
    unfold belows at b ⊢
    rw [Bool.and_eq_true] at b ⊢
    exact ⟨below_le k x b.1, belows_le k xs b.2⟩
theorem belowd_le {n m : Nat} (k : n ≤ m) : ∀ xs : List (PV × PV), belowd n xs = true → belowd m xs = true
  | [], _ => rfl
  | (_, x) :: xs, b => by
    unfold belowd at b ⊢
    rw [Bool.and_eq_true] at b ⊢
    exact ⟨below_le k x b.1, belowd_le k xs b.2⟩
end
theorem belowC_le {n m : Nat} (k : n ≤ m) : ∀ c : Cell, belowC n c = true → belowC m c = true
  | .lst xs, b => by unfold belowC at b ⊢; exact belows_le k xs b
  | .dct xs, b => by unfold belowC at b ⊢; exact belowd_le k xs b
  | .dcT xs, b => by unfold belowC at b ⊢; exact belowd_le k xs b
  | .own, _ => rfl
  | .tab _ _, _ => rfl
  | .ins _ j xs, b => by
    unfold belowC at b ⊢
    rw [Bool.and_eq_true] at b ⊢
    refine ⟨decide_eq_true (Nat.lt_of_lt_of_le (of_decide_eq_true b.1) k), ?_⟩
    have b := b.2
    rw [List.all_eq_true] at b ⊢
    intro o ho
    have := b o ho
    cases o with
    | none => rfl
    | some x => exact below_le k x this
theorem Closed.snoc {x : Cell} (c : Closed h) (b : belowC (h.length + 1) x = true) : Closed (h ++ [x]) := by
  unfold Closed at c ⊢
  rw [List.all_append, Bool.and_eq_true]
  constructor
  · rw [List.all_eq_true] at c ⊢
    intro x hx
    exact belowC_le (by rw [List.length_append]; exact Nat.le_add_right _ _) _ (c x hx)
  · simp only [List.length_append, List.length_singleton, List.all_cons, List.all_nil, Bool.and_true, b]
end
end Wg

namespace Wg
open PySem
section
variable {h : Store} {w : Wb} {G : List Nm} {p : Nm}
/-! ### a web, made -/
/-! ### slots -/
@[simp] theorem fGet_wV0 : fGet "Web" 0 (wV w) h = .ok (.dct (besV w)) h := rfl
@[simp] theorem fGet_wV1 : fGet "Web" 1 (wV w) h = .ok (.tup ((w.lots []).map tpv)) h := rfl
@[simp] theorem fGet_wV2 : fGet "Web" 2 (wV w) h = .ok (pV w) h := rfl
@[simp] theorem fGet_wV3 : fGet "Web" 3 (wV w) h = .ok (.dcT (tieK w)) h := rfl
@[simp] theorem isN_wV : isN h "Web" (wV w) = true := rfl
end
end Wg

namespace Wg
open PySem
section
variable {h : Store} {w : Wb} {a b : Nm}
/-! ### ties, pairs, plain webs -/
noncomputable def mkT (a b : Nm) : Ty := (if b < a then b else a, if a < b then b else a)
theorem nm_cases (a b : Nm) : (a < b ∧ ¬ b < a ∧ a ≠ b) ∨ (b < a ∧ ¬ a < b ∧ a ≠ b) ∨ (a = b ∧ ¬ a < b ∧ ¬ b < a) := by
  rcases nl_trich a b with h | h | h
  · exact .inl ⟨h, fun z => List.lt_irrefl _ (List.lt_trans h z), fun e => by subst e; exact List.lt_irrefl _ h⟩
  · subst h; exact .inr (.inr ⟨rfl, List.lt_irrefl _, List.lt_irrefl _⟩)
  · exact .inr (.inl ⟨h, fun z => List.lt_irrefl _ (List.lt_trans h z), fun e => by subst e; exact List.lt_irrefl _ h⟩)
theorem mkT_comm (a b : Nm) : mkT a b = mkT b a := by
  unfold mkT
  rcases nm_cases a b with ⟨x, y, _⟩ | ⟨x, y, _⟩ | ⟨e, x, y⟩
  · rw [if_neg y, if_pos x, if_pos x, if_neg y]
  · rw [if_pos x, if_neg y, if_neg y, if_pos x]
  · subst e; rfl
theorem mkT_lt (k : a < b) : mkT a b = (a, b) := by
  unfold mkT
  have : ¬ b < a := fun z => List.lt_irrefl _ (List.lt_trans k z)
  rw [if_neg this, if_pos k]
@[simp] theorem lawTie_ok : f__law_tie [.str a, .str b] h = .ok (tV (mkT a b)) h := by
  have e : fMinB [.str a, .str b] h = .ok (.str (mkT a b).1) h := rfl
  have e2 : fMaxB [.str a, .str b] h = .ok (.str (mkT a b).2) h := rfl
  have e3 : m__law_tie (initL 2 [.str a, .str b]) h = .ok (.rt (tV (mkT a b))) h := by
    show m__law_tie [some (.str a), some (.str b)] h = _
    simp only [m__law_tie, s__law_tie_0, mRet_at, mTup_at, mCons_at, mCall_at, mVar_at, mNil_at, List.getElem?_cons_zero, List.getElem?_cons_succ, R.bind_ok, e, e2, bs_ok, List.length_cons, List.length_nil]
    rfl
  exact (runDef_rt rfl e3).trans handO_self
/-! pairs -/
noncomputable def prs : List Nm → List Ty
  | [] => []
  | x :: r => r.map (mkT x) ++ prs r
theorem prs_len : ∀ L : List Nm, 2 * (prs L).length = L.length * (L.length - 1)
  | [] => rfl
  | x :: r => by
    have ih := prs_len r
    unfold prs
    rw [List.length_append, List.length_map, List.length_cons, Nat.mul_add, ih]
    cases r with
    | nil => rfl
    | cons y r =>
      simp only [List.length_cons, Nat.add_sub_cancel, Nat.add_mul, Nat.mul_add]
      omega
theorem mem_prs : ∀ {L : List Nm}, a ∈ L → b ∈ L → a ≠ b → mkT a b ∈ prs L
  | x :: r, ha, hb, ne => by
    unfold prs
    rcases List.mem_cons.mp ha with e | e
    · subst e
      exact List.mem_append_left _ (List.mem_map_of_mem ((List.mem_cons.mp hb).resolve_left (Ne.symm ne)))
    · rcases List.mem_cons.mp hb with f | f
      · subst f
        rw [mkT_comm]
        exact List.mem_append_left _ (List.mem_map_of_mem e)
      · exact List.mem_append_right _ (mem_prs e f ne)
end
end Wg

namespace Wg
open PySem
section
variable {h : Store} {w : Wb} {a b : Nm}
/-! ### plain webs of places and ties -/
noncomputable def ends : List Ty → List Nm
  | [] => []
  | t :: r => t.1 :: t.2 :: ends r
noncomputable def mkTs (T : List Ty) : List Ty := T.map fun t => mkT t.1 t.2
noncomputable def mkW (L : List Nm) (T : List Ty) : Wb := ⟨isort ltL (dedup (L ++ ends T)), isort ltT (dedup (mkTs T))⟩
theorem mkW_T {L : List Nm} {T : List Ty} {t : Ty} : t ∈ (mkW L T).T ↔ ∃ s ∈ T, t = mkT s.1 s.2 := by
  show t ∈ isort ltT _ ↔ _
  rw [mem_isort, mem_dedup]
  unfold mkTs
  rw [List.mem_map]
  exact ⟨fun ⟨s, a, b⟩ => ⟨s, a, b.symm⟩, fun ⟨s, a, b⟩ => ⟨s, a, b.symm⟩⟩
/-! the function -/
end
end Wg

namespace Wg
open PySem
section
variable {h : Store} {w : Wb} {G : List Nm} {p : Nm}
/-! ### rows of names: in, not in, == [] -/
/-! ### _law_lots: what is reached next -/
noncomputable def rc1 (left lot : List Nm) (x y : Nm) (R : List Nm) : List Nm := if x ∈ lot ∧ y ∈ left ∧ y ∉ lot ++ R then R ++ [y] else R
noncomputable def rcS (left lot : List Nm) (t : Ty) (R : List Nm) : List Nm := rc1 left lot t.2 t.1 (rc1 left lot t.1 t.2 R)
noncomputable def rcL (left lot : List Nm) : List Ty → List Nm → List Nm
  | [], R => R
  | t :: T, R => rcL left lot T (rcS left lot t R)
section
variable {left lot R : List Nm} {T : List Ty}
theorem rc1_sub {x y z : Nm} (m : z ∈ R) : z ∈ rc1 left lot x y R := by
  unfold rc1; split
  · exact List.mem_append_left _ m
  · exact m
theorem rc1_in {x y : Nm} (hx : x ∈ lot) (hy : y ∈ left) : y ∈ lot ∨ y ∈ rc1 left lot x y R := by
  by_cases c : y ∈ lot ++ R
  · rcases List.mem_append.mp c with z | z
    · exact .inl z
    · exact .inr (rc1_sub z)
  · right; unfold rc1; rw [if_pos ⟨hx, hy, c⟩]; exact List.mem_append_right _ (List.mem_singleton.mpr rfl)
theorem rc1_of {x y z : Nm} (m : z ∈ rc1 left lot x y R) : z ∈ R ∨ (z = y ∧ x ∈ lot ∧ y ∈ left ∧ y ∉ lot) := by
  unfold rc1 at m; split at m
  next c =>
    rcases List.mem_append.mp m with k | k
    · exact .inl k
    · exact .inr ⟨List.mem_singleton.mp k, c.1, c.2.1, fun q => c.2.2 (List.mem_append_left _ q)⟩
  next => exact .inl m
theorem rc1_nd {x y : Nm} (nd : (lot ++ R).Nodup) : (lot ++ rc1 left lot x y R).Nodup := by
  unfold rc1; split
  next c =>
    rw [← List.append_assoc]
    refine List.nodup_append.mpr ⟨nd, List.nodup_cons.mpr ⟨List.not_mem_nil, List.nodup_nil⟩, fun a ha b hb e => ?_⟩
    rw [List.mem_singleton.mp hb] at e
    exact c.2.2 (e ▸ ha)
  next => exact nd
theorem rcL_sub : ∀ {T : List Ty} {R : List Nm} {z : Nm}, z ∈ R → z ∈ rcL left lot T R
  | [], _, _, m => m
  | t :: T, _, _, m => rcL_sub (T := T) (rc1_sub (rc1_sub m))
theorem rcL_in : ∀ {T : List Ty} {R : List Nm} {x y : Nm}, adj T x y = true → x ∈ lot → y ∈ left → y ∈ lot ∨ y ∈ rcL left lot T R
  | [], _, _, _, a, _, _ => by cases a
  | t :: T, R, x, y, a, hx, hy => by
    by_cases c1 : t = (x, y)
    · subst c1
      rcases rc1_in (R := R) hx hy with k | k
      · exact .inl k
      · exact .inr (rcL_sub (T := T) (rc1_sub k))
    · by_cases c2 : t = (y, x)
      · subst c2
        rcases rc1_in (R := rc1 left lot y x R) hx hy with k | k
        · exact .inl k
        · exact .inr (rcL_sub (T := T) k)
      · refine rcL_in (T := T) ?_ hx hy
        rcases adj_iff.mp a with k | k
        · exact adj_iff.mpr (.inl ((List.mem_cons.mp k).resolve_left (Ne.symm c1)))
        · exact adj_iff.mpr (.inr ((List.mem_cons.mp k).resolve_left (Ne.symm c2)))
theorem rcL_of : ∀ {T : List Ty} {R : List Nm} {z : Nm}, z ∈ rcL left lot T R → z ∈ R ∨ (z ∈ left ∧ z ∉ lot ∧ ∃ x ∈ lot, adj T x z = true)
  | [], _, _, m => .inl m
  | t :: T, R, z, m => by
    rcases rcL_of (T := T) m with k | ⟨k1, k2, x, hx, a⟩
    · rcases rc1_of k with k | ⟨rfl, k1, k2, k3⟩
      · rcases rc1_of k with k | ⟨rfl, k1, k2, k3⟩
        · exact .inl k
        · exact .inr ⟨k2, k3, _, k1, adj_iff.mpr (.inl List.mem_cons_self)⟩
      · exact .inr ⟨k2, k3, _, k1, adj_iff.mpr (.inr List.mem_cons_self)⟩
    · exact .inr ⟨k1, k2, x, hx, adj_iff.mpr ((adj_iff.mp a).imp (List.mem_cons_of_mem _) (List.mem_cons_of_mem _))⟩
theorem rcL_nd : ∀ {T : List Ty} {R : List Nm}, (lot ++ R).Nodup → (lot ++ rcL left lot T R).Nodup
  | [], _, nd => nd
  | t :: T, _, nd => rcL_nd (T := T) (rc1_nd (rc1_nd nd))
end
/-! the loops -/
structure Nice (left lot : List Nm) : Prop where
  wl : ∀ x ∈ left, wordB x = true
  wo : ∀ x ∈ lot, wordB x = true
  lo : lot.length ≤ 100
/-- a lot under way -/
structure LL (w : Wb) (G left : List Nm) (p : Nm) (lot : List Nm) : Prop where
  pin : p ∈ lot
  nd : lot.Nodup
  sub : ∀ x ∈ lot, x ∈ left ∧ Rch w.T G p x
structure LeftOk (w : Wb) (G left : List Nm) : Prop where
  sub : ∀ x ∈ left, x ∈ w.P ∧ x ∉ G
  cl : ∀ x ∈ left, ∀ y, adj w.T x y = true → y ∉ G → y ∈ left
  nd : left.Nodup
theorem LL.step (o : w.Ok) {left lot : List Nm} (k : LeftOk w G left) (i : LL w G left p lot) : LL w G left p (lot ++ rcL left lot w.T []) := by
  refine ⟨List.mem_append_left _ i.pin, rcL_nd (by rw [List.append_nil]; exact i.nd), fun x hx => ?_⟩
  rcases List.mem_append.mp hx with q | q
  · exact i.sub x q
  · rcases rcL_of q with q | ⟨q1, q2, z, hz, a⟩
    · cases q
    · exact ⟨q1, .step (i.sub z hz).2 a (k.sub x q1).2⟩
theorem LL.done (o : w.Ok) {left lot : List Nm} (k : LeftOk w G left) (i : LL w G left p lot) (e : rcL left lot w.T [] = []) : ∀ x, x ∈ lot ↔ x ∈ w.lot G p := by
  intro x
  refine ⟨fun hx => Wb.mem_lot.mpr ⟨(k.sub x (i.sub x hx).1).1, (i.sub x hx).2⟩, fun hx => ?_⟩
  have r := (Wb.mem_lot.mp hx).2
  clear hx
  induction r with
  | refl => exact i.pin
  | step _ a g ih =>
    rcases rcL_in (R := []) a ih (k.cl _ (i.sub _ ih).1 _ a g) with q | q
    · exact q
    · rw [e] at q; cases q
theorem LeftOk.next (o : w.Ok) {left : List Nm} (k : LeftOk w G left) : LeftOk w G (left.filter fun y => !decide (y ∈ w.lot G p)) := by
  refine ⟨fun x hx => k.sub x (List.mem_filter.mp hx).1, fun x hx y a g => ?_, k.nd.filter _⟩
  obtain ⟨h1, h2⟩ := List.mem_filter.mp hx
  refine List.mem_filter.mpr ⟨k.cl x h1 y a g, ?_⟩
  have h2 : x ∉ w.lot G p := by simpa using h2
  have : y ∉ w.lot G p := fun m => h2 (Wb.mem_lot.mpr ⟨(k.sub x h1).1, .step (Wb.mem_lot.mp m).2 (by rw [adj_comm]; exact a) (k.sub x h1).2⟩)
  simpa using this
end
end Wg

namespace Wg
open PySem
section
variable {h : Store} {w : Wb} {G : List Nm} {p : Nm}
/-! ### _law_beside -/
end
end Wg

namespace Wg
open PySem
section
variable {h S S' : Store} {a : Nat}
/-! ### the dice rolled, cells laid behind -/
noncomputable def Ev (a : Nat) (h S : Store) : Prop := ∃ h1 ls, S = h1 ++ ls ∧ Roll a h h1 ∧ Closed S
theorem Ev.refl (c : Closed h) (d : Dice h a) : Ev a h h := ⟨h, [], by simp, d.self, c⟩
theorem Ev.closed (e : Ev a h S) : Closed S := let ⟨_, _, _, _, c⟩ := e; c
theorem Ev.dice (e : Ev a h S) : Dice S a := by
  obtain ⟨h1, ls, rfl, r, _⟩ := e
  exact r.dice.app
theorem Ev.len (e : Ev a h S) : h.length ≤ S.length := by
  obtain ⟨h1, ls, rfl, r, _⟩ := e
  rw [List.length_append, r.len]; exact Nat.le_add_right _ _
theorem Ev.lt (e : Ev a h S) : a < h.length := by
  obtain ⟨h1, ls, rfl, r, _⟩ := e
  exact r.1.lt
theorem Ev.roll (e : Ev a h S) (r : Roll a S S') : Ev a h S' := by
  obtain ⟨h1, ls, rfl, r1, c⟩ := e
  have c2 := r.closed c
  obtain ⟨h2, rfl, r2⟩ := r.app r1.dice
  exact ⟨h2, ls, rfl, r1.trans r2, c2⟩
theorem Ev.snoc {x : Cell} (e : Ev a h S) (b : belowC (S.length + 1) x = true) : Ev a h (S ++ [x]) := by
  have c := e.closed
  obtain ⟨h1, ls, rfl, r1, _⟩ := e
  exact ⟨h1, ls ++ [x], by rw [List.append_assoc], r1, c.snoc b⟩
theorem Ev.set {x : Cell} {i : Nat} (e : Ev a h S) (hi : h.length ≤ i) (b : belowC S.length x = true) : Ev a h (S.set i x) := by
  obtain ⟨h1, ls, rfl, r1, c⟩ := e
  have hl := r1.len
  refine ⟨h1, ls.set (i - h1.length) x, ?_, r1, ?_⟩
  · rw [List.set_append_right _ _ (by omega)]
  · unfold Closed at c ⊢
    rw [List.length_set, List.all_eq_true] at *
    intro y hy
    rcases List.mem_or_eq_of_mem_set hy with q | q
    · exact c y q
    · rw [q]; exact b
theorem Ev.trans {T : Store} (e : Ev a h S) (f : Ev a S T) : Ev a h T := by
  have c := f.closed
  obtain ⟨h1, ls, rfl, r1, _⟩ := e
  obtain ⟨S1, ms, rfl, r2, _⟩ := f
  obtain ⟨h2, rfl, r3⟩ := r2.app r1.dice
  exact ⟨h2, ls ++ ms, by rw [List.append_assoc], r1.trans r3, c⟩
theorem Ev.hand {x : PV} (c : Closed h) (e : Ev a h S) (b : below h.length x = true) : Ok (handO h.length x S) fun v h' => v = x ∧ Roll a h h' := by
  obtain ⟨h1, ls, rfl, r, _⟩ := e
  have k := handO_flat (h := h1) (x := x) (ls := ls) (r.closed c) (by rw [r.len]; exact b)
  rw [r.len] at k
  rw [k]
  exact ⟨_, _, rfl, rfl, r⟩
/-! ### mixed names -/
/-! ### places from behind -/
/-- the ties of a ring -/
noncomputable def cyc (L : List Nm) : List Ty := (List.range L.length).map fun m => (L.getD m [], L.getD ((m + L.length - 1) % L.length) [])
end
end Wg

namespace Wg
open PySem
section
variable {h S S' : Store} {a : Nat} {w : Wb}
/-! ### names, rings, wheels -/
noncomputable abbrev NM : List Nm := [[97], [98], [99], [100], [101], [102], [103], [104], [107], [109], [112, 108, 97, 99, 101], [113], [116, 105, 101], [122, 122], [122, 122, 122, 122, 122, 122, 122, 122], [97, 98]]
noncomputable def whT (hub : Nm) (R : List Nm) : List Ty := R.map (fun r => (hub, r)) ++ cyc R
end
end Wg

namespace Wg
open PySem
section
variable {h S S' : Store} {a : Nat} {w : Wb}
/-! ### steps -/
inductive Stp
  | tie (a b : Nm)
  | split (p x : Nm) (mv : List Nm)
noncomputable abbrev sTie : List Nat := [116, 105, 101]
noncomputable abbrev sSpl : List Nat := [115, 112, 108, 105, 116]
noncomputable def Stp.v : Stp → PV
  | .tie a b => .tup [.str sTie, .str a, .str b]
  | .split p x mv => .tup [.str sSpl, .str p, .str x, .tup (mv.map .str)]
noncomputable def keepB (p : Nm) (mv : List Nm) (t : Ty) : Bool := !decide (p ∈ [t.1, t.2]) || (!decide (t.1 ∈ mv) && !decide (t.2 ∈ mv))
noncomputable def Wb.stp (w : Wb) : Stp → Wb
  | .tie a b => mkW w.P (w.T ++ [(a, b)])
  | .split p x mv => mkW w.P (w.T.filter (keepB p mv) ++ mv.map (fun v => (x, v)) ++ [(p, x)])
/-- a step that may be drawn, nv the name that a split brings -/
noncomputable def GoodS (w : Wb) (nv : PV) : Stp → Prop
  | .tie a b => a < b ∧ a ∈ w.P ∧ b ∈ w.P ∧ (a, b) ∉ w.T
  | .split p x mv => nv = .str x ∧ p ∈ w.P ∧ Srt ltL mv ∧ (∀ v ∈ mv, v ∈ w.nb p) ∧ 2 ≤ mv.length ∧ mv.length + 2 ≤ (w.nb p).length
theorem Wb.Ok.tle (o : w.Ok) {n : Nat} (k : w.P.length ≤ n) : 2 * w.T.length ≤ n * (n - 1) := by
  have k1 := nodup_len (P := prs w.P) o.tnd fun t ht => by
    have m := o.tin t ht
    have := mem_prs m.2.1 m.2.2 (fun e => List.lt_irrefl _ (e ▸ m.1))
    rwa [mkT_lt m.1] at this
  have e := prs_len w.P
  have b : w.P.length * (w.P.length - 1) ≤ n * (n - 1) := Nat.mul_le_mul k (by omega)
  omega
/-! ### _law_behind -/
@[simp] theorem gTup3 {i j k : Nat} {x y z : PV} {l : Lv} : gTupX 3 (gConsX (gVar i) (gConsX (gVar j) (gConsX (gVar k) gNilX))) (.tup [x, y, z]) l h = .ok (((l.set i (some x)).set j (some y)).set k (some z)) h := rfl
end
end Wg

namespace Wg
open PySem
section
variable {h S S' : Store} {a : Nat} {w : Wb}
/-! ### ties among ties -/
/-! ### _law_drawn_step -/
end
end Wg

namespace Wg
open PySem
section
variable {h S S' : Store} {a : Nat} {w : Wb}
/-! ### growing -/
inductive Grow (w0 : Wb) (left0 : List Nm) : List Stp → Wb → List Nm → Prop
  | nil : Grow w0 left0 [] w0 left0
  | tie {ss : List Stp} {w : Wb} {left : List Nm} {p q : Nm} : Grow w0 left0 ss w left → p < q → p ∈ w.P → q ∈ w.P → (p, q) ∉ w.T → Grow w0 left0 (ss ++ [.tie p q]) (w.stp (.tie p q)) left
  | split {ss : List Stp} {w : Wb} {left : List Nm} {p x : Nm} {mv : List Nm} : Grow w0 left0 ss w (x :: left) → GoodS w (.str x) (.split p x mv) → Grow w0 left0 (ss ++ [.split p x mv]) (w.stp (.split p x mv)) left
structure GIn (U : List Nm) (n : Nat) (w : Wb) (left : List Nm) : Prop where
  ok : w.Ok
  nd : left.Nodup
  out : ∀ x ∈ left, x ∉ w.P
  u : ∀ x ∈ w.P, x ∈ U
  ul : ∀ x ∈ left, x ∈ U
  len : w.P.length + left.length ≤ n
end
end Wg

namespace Wg
open PySem
section
variable {h S S' : Store} {a : Nat} {w : Wb}
/-! ### _law_grown -/
/-- what growing gives -/
structure GrownV (most : Nat) (hub : Nm) (ring left0 : List Nm) (ss : List Stp) (w : Wb) : Prop where
  nd : (hub :: (ring ++ left0)).Nodup
  sub : ∀ x ∈ hub :: (ring ++ left0), x ∈ NM
  r3 : 3 ≤ ring.length
  r6 : ring.length ≤ 6
  len : (hub :: (ring ++ left0)).length ≤ most
  g : ∃ left, Grow (mkW [] (whT hub ring)) left0 ss w left
end
end Wg

namespace Wg
open PySem
section
variable {h S S' : Store} {a : Nat} {w : Wb}
/-! ### _law_random, _law_any -/
/-- what a drawn web is -/
noncomputable def WebV (m : Nat) (v : PV) : Prop := ∃ w : Wb, v = plV w ∧ w.Ok ∧ (∀ x ∈ w.P, x ∈ NM) ∧ w.P.length ≤ m
end
end Wg

namespace Wg
open PySem
/-! ### _law_any, the glued webs as they are told -/
section
variable {h S S' : Store} {a : Nat} {w : Wb} {gl : FN}
theorem Grow.ne {w0 : Wb} {left0 : List Nm} (h0 : w0.T ≠ []) {ss : List Stp} {w : Wb} {left : List Nm} (g : Grow w0 left0 ss w left) : w.T ≠ [] := by
  cases g with
  | nil => exact h0
  | @tie ss w left p q g _ _ _ _ =>
    exact List.ne_nil_of_mem (mkW_T.mpr ⟨(p, q), List.mem_append_right _ (List.mem_singleton.mpr rfl), rfl⟩)
  | @split ss w left p x mv g _ =>
    exact List.ne_nil_of_mem (mkW_T.mpr ⟨(p, x), List.mem_append_right _ (List.mem_singleton.mpr rfl), rfl⟩)
theorem GrownV.ne {most : Nat} {hub : Nm} {ring left0 : List Nm} {ss : List Stp} {w : Wb} (k : GrownV most hub ring left0 ss w) : w.T ≠ [] := by
  obtain ⟨left, g⟩ := k.g
  refine g.ne ?_
  have r3 := k.r3
  cases ring with
  | nil => simp at r3
  | cons x r => exact List.ne_nil_of_mem (mkW_T.mpr ⟨(hub, x), List.mem_append_left _ (List.mem_map_of_mem List.mem_cons_self), rfl⟩)
end
end Wg

namespace Wg
open PySem
section
variable {h S S' : Store} {a : Nat} {w : Wb}
/-! ### rows among rows, live lists, places in webs -/
end
end Wg

namespace Wg
open PySem
/-! ### glued webs: the plain functions, as gen.py prints them -/
/-! _law_glued -/
end Wg

namespace Wg
open PySem
section
variable {h S S' : Store} {a : Nat} {w : Wb}
/-! ### dicts of pairs of names -/
noncomputable def look : List Ty → Nm → Nm
  | [], _ => []
  | t :: Z, a => if t.1 = a then t.2 else look Z a
/-! ### a plain web in a cell -/
end
end Wg

namespace Wg
open PySem
section
variable {h S S' : Store} {a : Nat} {w : Wb}
/-! ### _law_glued -/
noncomputable abbrev XN : List Nm := [[120, 97], [120, 98], [120, 99], [120, 100], [120, 101], [120, 102], [120, 103]]
noncomputable abbrev NX : List Nm := NM ++ XN
/-- what a drawn web is, glued ones too -/
noncomputable def WebX (m : Nat) (v : PV) : Prop := ∃ w : Wb, v = plV w ∧ w.Ok ∧ (∀ x ∈ w.P, x ∈ NX) ∧ w.P.length ≤ m
theorem WebV.x {m n : Nat} {v : PV} (k : WebV m v) (hn : m ≤ n) : WebX n v := let ⟨w, e, o, s, l⟩ := k; ⟨w, e, o, fun x hx => List.mem_append_left _ (s x hx), Nat.le_trans l hn⟩
/-- a grown web of at most five places -/
structure G5 (w : Wb) : Prop where
  ok : w.Ok
  nm : ∀ x ∈ w.P, x ∈ NM
  len : w.P.length ≤ 5
  two : 2 ≤ w.P.length
end
end Wg

namespace Wg
open PySem
section
variable {h S S' : Store} {a : Nat} {w : Wb}
end
end Wg

namespace Wg
open PySem
section
variable {h S S' : Store} {a : Nat} {w : Wb}
/-! ### _law_any with glued webs -/
end
end Wg

namespace Wg
open PySem
section
variable {h : Store} {w : Wb} {a b : Nm}
/-! ### what the methods of a web tell -/
/-! ties in a web -/
end
end Wg

namespace Wg
open PySem PySem.Spec
/-! ### repr of data that is small -/
mutual
noncomputable def wtP : PV → Nat
  | .str x => x.length
  | .tup xs => wtPs xs
  | .lst xs => wtPs xs
  | .int _ => 10
  | _ => 0
noncomputable def wtPs : List PV → Nat
  | [] => 0
  | x :: xs => wtP x + 1 + wtPs xs
end
end Wg

namespace Wg
open PySem
section
variable {h : Store} {w : Wb} {a b : Nm} {m : M PV} {l : Lv} {F : FN} {x : PV} {ms : M (List PV)}
end
end Wg

namespace Wg
open PySem
section
variable {h S S' : Store} {a : Nat} {w u : Wb}
/-! ### any mixed values -/
/-! ### == of plain webs -/
end
end Wg

namespace Wg.K19
open PySem Wg
/-! ### _law_word_of looks at nothing but what its argument does -/
noncomputable abbrev fld4 (e : Ex) : MS := mRet (mBin fAdd (mC (.str [117, 110, 107, 110, 111, 119, 110, 32])) (mCall fRepr (mCons (mFld "word" e.fld) (mNil))))
noncomputable abbrev told4 : List HC := [⟨ctOf t_InvalidWeb, fun _ => mRet (mC (.str [119, 101, 98])), none⟩, ⟨ctOf t_InvalidTie, fun _ => mRet (mC (.str [116, 105, 101])), none⟩, ⟨ctOf t_InvalidPart, fun _ => mRet (mC (.str [112, 97, 114, 116])), none⟩, ⟨ctOf t_UnknownName, fld4, some 1⟩]
noncomputable abbrev fineS : MS := mRet (mC (.str [102, 105, 110, 101]))
theorem word_exc {act : M PV} {l : Lv} {h h' : Store} {x : Ex} (e : act l h = .exc x h') : m__law_word_of act l h = if isCls x.cls = true then (handle told4 x l h').bind fun f h1 => f.on h1 fineS else .no := by
  have e1 : mDrop act l h = .ok (.ex x l) h' := by rw [mDrop_at, e]; rfl
  unfold m__law_word_of s__law_word_of_0 s__law_word_of_1
  rw [mSeq_at]
  unfold mTry chkB
  rw [e1]
  by_cases c : isCls x.cls = true
  · simp only [c, if_true]
  · simp only [c, if_false]; rfl
theorem word_ok {act : M PV} {l : Lv} {h h' : Store} {v : PV} (e : act l h = .ok v h') : m__law_word_of act l h = .ok (.rt (.str [102, 105, 110, 101])) h' := by
  have e1 : mDrop act l h = .ok (.nx l) h' := by rw [mDrop_at, e]; rfl
  unfold m__law_word_of s__law_word_of_0 s__law_word_of_1
  rw [mSeq_at]
  unfold mTry chkB
  rw [e1]; rfl
theorem word_no {act : M PV} {l : Lv} {h : Store} (e : act l h = .no) : m__law_word_of act l h = .no := by
  have e1 : mDrop act l h = .no := by rw [mDrop_at, e]; rfl
  unfold m__law_word_of s__law_word_of_0 s__law_word_of_1
  rw [mSeq_at]
  unfold mTry chkB
  rw [e1]; rfl
noncomputable abbrev fin (n : Nat) (r : R Fl) : R PV := match r with
  | .ok (.rt x) h' => handO n x h'
  | .ok (.nx _) h' => handO n .non h'
  | .ok (.ex e _) h' => handX n e h'
  | _ => .no
theorem hnd_any (n : Nat) (x : Ex) (y z : PV) (h : Store) : fin n ((handle told4 x [some y, none] h).bind fun f h1 => f.on h1 fineS) = fin n ((handle told4 x [some z, none] h).bind fun f h1 => f.on h1 fineS) := by
  unfold told4
  simp only [handle]
  cases ctOf t_InvalidWeb x.cls with
  | none => rfl
  | some b => cases b with
    | true => rfl
    | false => cases ctOf t_InvalidTie x.cls with
      | none => rfl
      | some b => cases b with
        | true => rfl
        | false => cases ctOf t_InvalidPart x.cls with
          | none => rfl
          | some b => cases b with
            | true => rfl
            | false => cases ctOf t_UnknownName x.cls with
                  | none => rfl
                  | some b => cases b with
                    | false => rfl
                    | true =>
                      have k : ∀ l : Lv, fld4 x l h = (match x.fld.lookup ("word" : Str) with
                        | some v => ((fRepr [v] h).bind fun r h1 => fAdd (.str [117, 110, 107, 110, 111, 119, 110, 32]) r h1).bs l fun x h1 => .ok (.rt x) h1
                        | none => .no) := fun l => by
                        unfold fld4
                        rw [mRet_at, mBin_at, mC_at, R.bind_ok, mCall_at, mCons_at]
                        unfold mFld
                        cases x.fld.lookup ("word" : Str) with
                        | none => rfl
                        | some v => rw [R.bind_ok, mNil_at, R.bind_ok, R.bind_ok]
                      show fin n (((if HC.fits _ _ = true then HC.back _ (fld4 x _ h) else .no)).bind _) = fin n (((if HC.fits _ _ = true then HC.back _ (fld4 x _ h) else .no)).bind _)
                      rw [k, k]
                      cases x.fld.lookup ("word" : Str) with
                      | none => rfl
                      | some v =>
                        simp only
                        cases ((fRepr [v] h).bind fun r h1 => fAdd (.str [117, 110, 107, 110, 111, 119, 110, 32]) r h1) with
                        | no => rfl
                        | ok w h1 => rfl
                        | exc w h1 => rfl
theorem ind0 (L : PV) (gm : Store → R PV) (h : Store) : runDef 1 2 (m__law_word_of (mAct 0 L gm)) [L] h = f__law_word_of gm h := by
  have e : mAct 0 L gm (initL 2 [L]) h = gm h := by unfold mAct; exact if_pos rfl
  unfold f__law_word_of runDef
  rw [if_pos (show [L].length = 1 from rfl), if_pos (show [PV.non].length = 1 from rfl)]
  cases g : gm h with
  | ok v h' => rw [word_ok (e.trans g), word_ok (show (fun _ h => gm h : M PV) (initL 2 [.non]) h = _ from g)]
  | no => rw [word_no (e.trans g), word_no (show (fun _ h => gm h : M PV) (initL 2 [.non]) h = _ from g)]
  | exc x h' =>
    rw [word_exc (e.trans g), word_exc (show (fun _ h => gm h : M PV) (initL 2 [.non]) h = _ from g)]
    by_cases c : isCls x.cls = true
    · rw [if_pos c, if_pos c]
      exact hnd_any h.length x _ _ h'
    · rw [if_neg c, if_neg c]
end Wg.K19

namespace Wg.K19
open PySem PySem.Spec PyProof.Rows L2 Wg
noncomputable def top (i : Nat) : Stmt := PySem.Challenge.pw_wheelgrown_k19_errors_of_partings.main.body.getD i (.Pass ⟨0, 0, 0, 0⟩)
structure Txt (P : Program) (K : PySem.W.Frag) (mg : Str → Option Value) : Prop where
  b_Bench : mg "Bench" = none
  b_Drawing : mg "Drawing" = none
  b_Growth : mg "Growth" = none
  b_PartTree : mg "PartTree" = none
  b_Shell : mg "Shell" = none
  b_abs : mg "abs" = none
  b_all : mg "all" = none
  b_int : mg "int" = none
  b_isinstance : mg "isinstance" = none
  b_len : mg "len" = none
  b_list : mg "list" = none
  b_max : mg "max" = none
  b_min : mg "min" = none
  b_next : mg "next" = none
  b_range : mg "range" = none
  b_repr : mg "repr" = none
  b_set : mg "set" = none
  b_sorted : mg "sorted" = none
  b_str : mg "str" = none
  b_super : mg "super" = none
  b_tuple : mg "tuple" = none
  b_zip : mg "zip" = none
  ct_LETTERS : ∃ t, mg "LETTERS" = some (.str ⟨([97, 98, 99, 100, 101, 102, 103, 104, 105, 106, 107, 108, 109, 110, 111, 112, 113, 114, 115, 116, 117, 118, 119, 120, 121, 122] : List Nat).toArray⟩ t)
  ct_MAX_LETTERS : ∃ t, mg "MAX_LETTERS" = some (.int 8 t)
  ct_MAX_PLACES : ∃ t, mg "MAX_PLACES" = some (.int 16 t)
  ct_MAX_TIES : ∃ t, mg "MAX_TIES" = some (.int 60 t)
  ct_MOST_PARTING : ∃ t, mg "MOST_PARTING" = some (.int 2 t)
  ct_NO_PARTING : ∃ t, mg "NO_PARTING" = some (.int 3 t)
  e_InvalidOperation : ErrK K mg "InvalidOperation"
  e_InvalidPart : ErrK K mg "InvalidPart"
  e_InvalidTie : ErrK K mg "InvalidTie"
  e_InvalidWeb : ErrK K mg "InvalidWeb"
  c_InvalidPart : CatK K mg "InvalidPart" t_InvalidPart
  c_InvalidTie : CatK K mg "InvalidTie" t_InvalidTie
  c_InvalidWeb : CatK K mg "InvalidWeb" t_InvalidWeb
  c_UnknownName : CatK K mg "UnknownName" t_UnknownName
  ei_UnknownName : ErrI P K mg "UnknownName" "word"
  sl_Web_own_beside : SlotK K mg "Web" "own_beside" 0
  sl_Web_own_lots : SlotK K mg "Web" "own_lots" 1
  sl_Web_own_places : SlotK K mg "Web" "own_places" 2
  sl_Web_own_ties : SlotK K mg "Web" "own_ties" 3
  iw_Web : IsW K mg "Web" t_wWeb
  io : IsOb K mg
  fl_UnknownName_word : FldK K mg "UnknownName" "word"
theorem sy_UnknownName : InitSyn (inClass (top 7) 0) "word" "word" := ⟨rfl, fun _ => ⟨_, rfl⟩, ⟨_, rfl, rfl⟩, fun _ _ _ _ _ _ _ _ _ _ _ => .of_eq rfl, rfl, rfl, rfl, rfl, by decide, by decide, by decide +kernel, rfl, rfl, rfl⟩
section
variable {P : Program} {w : World} {K : PySem.W.Frag} {mg : Str → Option Value} {base : Heap}
theorem Txt.x_LETTERS {X : Cx} {W : WQ} {pos : Pos} (T : Txt X.prog X.K X.mg) (hg : Gl X "LETTERS" := by rfl) : XE X W (.Name "LETTERS" pos) (mC c_LETTERS) := let ⟨_, h⟩ := T.ct_LETTERS; xe_gStr h hg
theorem Txt.x_MAX_LETTERS {X : Cx} {W : WQ} {pos : Pos} (T : Txt X.prog X.K X.mg) (hg : Gl X "MAX_LETTERS" := by rfl) : XE X W (.Name "MAX_LETTERS" pos) (mC c_MAX_LETTERS) := let ⟨_, h⟩ := T.ct_MAX_LETTERS; xe_gInt h hg
theorem Txt.x_MAX_PLACES {X : Cx} {W : WQ} {pos : Pos} (T : Txt X.prog X.K X.mg) (hg : Gl X "MAX_PLACES" := by rfl) : XE X W (.Name "MAX_PLACES" pos) (mC c_MAX_PLACES) := let ⟨_, h⟩ := T.ct_MAX_PLACES; xe_gInt h hg
theorem Txt.x_MAX_TIES {X : Cx} {W : WQ} {pos : Pos} (T : Txt X.prog X.K X.mg) (hg : Gl X "MAX_TIES" := by rfl) : XE X W (.Name "MAX_TIES" pos) (mC c_MAX_TIES) := let ⟨_, h⟩ := T.ct_MAX_TIES; xe_gInt h hg
theorem Txt.x_MOST_PARTING {X : Cx} {W : WQ} {pos : Pos} (T : Txt X.prog X.K X.mg) (hg : Gl X "MOST_PARTING" := by rfl) : XE X W (.Name "MOST_PARTING" pos) (mC c_MOST_PARTING) := let ⟨_, h⟩ := T.ct_MOST_PARTING; xe_gInt h hg
theorem Txt.x_NO_PARTING {X : Cx} {W : WQ} {pos : Pos} (T : Txt X.prog X.K X.mg) (hg : Gl X "NO_PARTING" := by rfl) : XE X W (.Name "NO_PARTING" pos) (mC c_NO_PARTING) := let ⟨_, h⟩ := T.ct_NO_PARTING; xe_gInt h hg
noncomputable abbrev N__law_dice : List Str := ["script", "spot", "cell", "left"]
theorem sc__law_dice : FnScope N__law_dice ["script", "spot"] (defScope (top 48)) := ⟨rfl, rfl, rfl, by decide +kernel, rfl, by decide +kernel, by decide +kernel⟩
theorem ok__law_dice {f : Addr} {fd : FuncData} (T : Txt P K mg)  (F : Fun K "_law_dice" "_law_dice" (top 48) f fd) : FnG P w K mg base (L2.CX P w) 1 f fd ["script", "spot"] (spM w K mg f__law_dice) :=
  fn_okN (N := N__law_dice) F sc__law_dice fun cdv A outer s H E hr hG => xss_cons (xs_set (i := 2) sc__law_dice.nd (xe_ifE (xt_lt (xv 1) (xe_len T.b_len (xa_cons (xv 0) (xa_nil)))) (xe_int_ T.b_int (xa_cons (xe_ix (xv 0) (xv 1)) (xa_nil))) (xe_add (xe_mulA (xe_int) (xv 1)) (xe_int)))) (xss_cons (xs_set (i := 3) sc__law_dice.nd (xe_mod (xe_max2 rfl T.b_max (xa_cons (xe_int) (xa_cons (xe_sub (xe_abs T.b_abs (xa_cons (xv 2) (xa_nil))) (xe_pow (xe_int) (xe_int))) (xa_nil)))) (xe_mulA (xe_pow (xe_int) (xe_int)) (xe_pow (xe_int) (xe_int))))) (xss_one (xs_ret (xe_lstN (xa_cons (xv 3) (xa_cons (xe_add (xe_add (xe_add (xe_mulA (xe_mod (xe_abs T.b_abs (xa_cons (xv 2) (xa_nil))) (xe_int)) (xe_int)) (xe_mulA (xe_int) (xv 1))) (xe_mulA (xe_int) (xe_int_ T.b_int (xa_cons (xe_lt (xv 2) (xe_int)) (xa_nil))))) (xe_int)) (xa_cons (xe_int) (xa_nil))))))))
noncomputable abbrev N_is_name : List Str := ["value", "sign"]
theorem sc_is_name : FnScope N_is_name ["value"] (defScope (top 12)) := ⟨rfl, rfl, rfl, by decide +kernel, rfl, by decide +kernel, by decide +kernel⟩
theorem ok_is_name {f : Addr} {fd : FuncData} (T : Txt P K mg)  (F : Fun K "is_name" "is_name" (top 12) f fd) : FnG P w K mg base (L2.CX P w) 1 f fd ["value"] (spM w K mg f_is_name) :=
  fn_okM (N := N_is_name) F sc_is_name fun cdv A outer s H E hr hG => xss_cons (xs_if (PW.pt (xw_or (xt_not (xt_val (xe_isiO T.io T.b_isinstance (xa_cons (xv 0) (xa_cons (xe_Tstr T.b_str) (xa_nil)))))) (xw_or1 (xt_not (xt_le_le (xe_int) (xe_lenB T.b_len (xa_cons (xv 0) (xa_nil))) (T.x_MAX_LETTERS)))))) (xss_one (xs_ret (xe_bl))) (xss_nil)) (xss_one (xs_ret (xe_all rfl T.b_all (xa_cons (xe_lc rfl sc_is_name.nd (xi_str (xv 0)) (own := [("sign", 1)]) (blkOk_by (N := N_is_name) (sc := defScope (top 12)) (by decide +kernel)) (fun _ _ _ _ _ => xgw_name sc_is_name.nd) (fun _ _ _ _ _ => xts_nil) (fun _ _ _ _ _ => xe_in (hr) (xv 1) (T.x_LETTERS))) (xa_nil)))))
noncomputable abbrev N_are_names : List Str := ["value", "name"]
theorem sc_are_names : FnScope N_are_names ["value"] (defScope (top 13)) := ⟨rfl, rfl, rfl, by decide +kernel, rfl, by decide +kernel, by decide +kernel⟩
theorem ok_are_names {f : Addr} {fd : FuncData} (T : Txt P K mg) (D_is_name : Def P w K mg base 1 "is_name" f_is_name) (F : Fun K "are_names" "are_names" (top 13) f fd) : FnG P w K mg base (L2.CX P w) 2 f fd ["value"] (spM w K mg f_are_names) :=
  fn_okM (N := N_are_names) F sc_are_names fun cdv A outer s H E hr hG => xss_one (xs_ret (xe_and (xe_isiO T.io T.b_isinstance (xa_cons (xv 0) (xa_cons (xe_Ttuple T.b_tuple) (xa_nil)))) (xe_one (xe_all rfl T.b_all (xa_cons (xe_lc rfl sc_are_names.nd (xi_tup (xv 0)) (own := [("name", 1)]) (blkOk_by (N := N_are_names) (sc := defScope (top 13)) (by decide +kernel)) (fun _ _ _ _ _ => xgw_name sc_are_names.nd) (fun _ _ _ _ _ => xts_nil) (fun _ _ _ _ _ => xe_call D_is_name (hr.mono (by decide)) hG (takes0) (xa_cons (xv 1) (xa_nil)))) (xa_nil))))))
noncomputable abbrev N_are_rising : List Str := ["value", "one", "other"]
theorem sc_are_rising : FnScope N_are_rising ["value"] (defScope (top 14)) := ⟨rfl, rfl, rfl, by decide +kernel, rfl, by decide +kernel, by decide +kernel⟩
theorem ok_are_rising {f : Addr} {fd : FuncData} (T : Txt P K mg) (D_are_names : Def P w K mg base 2 "are_names" f_are_names) (F : Fun K "are_rising" "are_rising" (top 14) f fd) : FnG P w K mg base (L2.CX P w) 3 f fd ["value"] (spM w K mg f_are_rising) :=
  fn_okM (N := N_are_rising) F sc_are_rising fun cdv A outer s H E hr hG => xss_one (xs_ret (xe_and (xe_call D_are_names (hr.mono (by decide)) hG (takes_of rfl rfl rfl rfl) (xa_cons (xv 0) (xa_nil))) (xe_one (xe_all rfl T.b_all (xa_cons (xe_lc rfl sc_are_rising.nd (xi_zip T.b_zip (xa_cons (xv 0) (xa_cons (xe_slice (xv 0) (xo_some (xe_int)) (xo_none)) (xa_nil)))) (own := [("one", 1), ("other", 2)]) (blkOk_by (N := N_are_rising) (sc := defScope (top 14)) (by decide +kernel)) (fun _ _ _ _ _ => xgw_tup (n := 2) rfl (xgsw_cons (xgw_name sc_are_rising.nd) (xgsw_cons (xgw_name sc_are_rising.nd) (xgsw_nil)))) (fun _ _ _ _ _ => xts_nil) (fun _ _ _ _ _ => xe_lt (xv 1) (xv 2))) (xa_nil))))))
noncomputable abbrev N_is_tie : List Str := ["value"]
theorem sc_is_tie : FnScope N_is_tie ["value"] (defScope (top 18)) := ⟨rfl, rfl, rfl, by decide +kernel, rfl, by decide +kernel, by decide +kernel⟩
theorem ok_is_tie {f : Addr} {fd : FuncData} (T : Txt P K mg) (D_are_rising : Def P w K mg base 3 "are_rising" f_are_rising) (F : Fun K "is_tie" "is_tie" (top 18) f fd) : FnG P w K mg base (L2.CX P w) 4 f fd ["value"] (spM w K mg f_is_tie) :=
  fn_okM (N := N_is_tie) F sc_is_tie fun cdv A outer s H E hr hG => xss_one (xs_ret (xe_and (xe_call D_are_rising (hr.mono (by decide)) hG (takes_of rfl rfl rfl rfl) (xa_cons (xv 0) (xa_nil))) (xe_one (xe_eq (hr) (xe_lenB T.b_len (xa_cons (xv 0) (xa_nil))) (xe_int)))))
noncomputable abbrev N_are_parts : List Str := ["places", "ties", "known", "tie", "one", "other", "place", "a", "b"]
theorem sc_are_parts : FnScope N_are_parts ["places", "ties"] (defScope (top 19)) := ⟨rfl, rfl, rfl, by decide +kernel, rfl, by decide +kernel, by decide +kernel⟩
theorem ok_are_parts {f : Addr} {fd : FuncData} (T : Txt P K mg) (D_are_rising : Def P w K mg base 3 "are_rising" f_are_rising) (D_is_tie : Def P w K mg base 4 "is_tie" f_is_tie) (F : Fun K "are_parts" "are_parts" (top 19) f fd) : FnG P w K mg base (L2.CX P w) 5 f fd ["places", "ties"] (spM w K mg f_are_parts) :=
  fn_okM (N := N_are_parts) F sc_are_parts fun cdv A outer s H E hr hG => xss_cons (xs_if (PW.pt (xw_or (xt_not (xt_val (xe_call D_are_rising (hr.mono (by decide)) hG (takes_of rfl rfl rfl rfl) (xa_cons (xv 0) (xa_nil))))) (xw_or1 (xt_not (xt_le_le (xe_int) (xe_lenB T.b_len (xa_cons (xv 0) (xa_nil))) (T.x_MAX_PLACES)))))) (xss_one (xs_ret (xe_bl))) (xss_nil)) (xss_cons (xs_if (PW.pt (xw_or (xt_not (xt_val (xe_isiO T.io T.b_isinstance (xa_cons (xv 1) (xa_cons (xe_Ttuple T.b_tuple) (xa_nil)))))) (xw_or (xt_gt (xe_lenB T.b_len (xa_cons (xv 1) (xa_nil))) (T.x_MAX_TIES)) (xw_or1 (xt_not (xt_val (xe_all rfl T.b_all (xa_cons (xe_lc rfl sc_are_parts.nd (xi_tup (xv 1)) (own := [("tie", 3)]) (blkOk_by (N := N_are_parts) (sc := defScope (top 19)) (by decide +kernel)) (fun _ _ _ _ _ => xgw_name sc_are_parts.nd) (fun _ _ _ _ _ => xts_nil) (fun _ _ _ _ _ => xe_call D_is_tie (hr.mono (by decide)) hG (takes0) (xa_cons (xv 3) (xa_nil)))) (xa_nil))))))))) (xss_one (xs_ret (xe_bl))) (xss_nil)) (xss_cons (xs_if (xt_not (xt_val (xe_all rfl T.b_all (xa_cons (xe_lc rfl sc_are_parts.nd (xi_zip T.b_zip (xa_cons (xv 1) (xa_cons (xe_slice (xv 1) (xo_some (xe_int)) (xo_none)) (xa_nil)))) (own := [("one", 4), ("other", 5)]) (blkOk_by (N := N_are_parts) (sc := defScope (top 19)) (by decide +kernel)) (fun _ _ _ _ _ => xgw_tup (n := 2) rfl (xgsw_cons (xgw_name sc_are_parts.nd) (xgsw_cons (xgw_name sc_are_parts.nd) (xgsw_nil)))) (fun _ _ _ _ _ => xts_nil) (fun _ _ _ _ _ => xe_ltD (hr) (xv 4) (xv 5))) (xa_nil))))) (xss_one (xs_ret (xe_bl))) (xss_nil)) (xss_cons (xs_set (i := 2) sc_are_parts.nd (xe_dc false hr rfl sc_are_parts.nd (xi_tup (xv 0)) (own := [("place", 6)]) (blkOk_by (N := N_are_parts) (sc := defScope (top 19)) (by decide +kernel)) (fun _ _ _ _ _ => xgw_name sc_are_parts.nd) (fun _ _ _ _ _ => xts_nil) (fun _ _ _ _ _ => xv 6) (fun _ _ _ _ _ => xe_bl))) (xss_one (xs_ret (xe_all rfl T.b_all (xa_cons (xe_lc rfl sc_are_parts.nd (xi_tup (xv 1)) (own := [("a", 7), ("b", 8)]) (blkOk_by (N := N_are_parts) (sc := defScope (top 19)) (by decide +kernel)) (fun _ _ _ _ _ => xgw_tup (n := 2) rfl (xgsw_cons (xgw_name sc_are_parts.nd) (xgsw_cons (xgw_name sc_are_parts.nd) (xgsw_nil)))) (fun _ _ _ _ _ => xts_nil) (fun _ _ _ _ _ => xe_and (xe_in (hr) (xv 7) (xv 2)) (xe_one (xe_in (hr) (xv 8) (xv 2))))) (xa_nil))))))))
noncomputable abbrev N_lot_around : List Str := ["beside", "gone", "place", "lot", "waiting", "other"]
theorem sc_lot_around : FnScope N_lot_around ["beside", "gone", "place"] (defScope (top 23)) := ⟨rfl, rfl, rfl, by decide +kernel, rfl, by decide +kernel, by decide +kernel⟩
theorem ok_lot_around {f : Addr} {fd : FuncData} (T : Txt P K mg)  (F : Fun K "lot_around" "lot_around" (top 23) f fd) : FnG P w K mg base (L2.CX P w) 1 f fd ["beside", "gone", "place"] (spM w K mg f_lot_around) :=
  fn_okM (N := N_lot_around) F sc_lot_around fun cdv A outer s H E hr hG => xss_cons (xs_set (i := 3) sc_lot_around.nd (xe_dctN (.cons (xv 2) (xe_bl) (.nil)))) (xss_cons (xs_set (i := 4) sc_lot_around.nd (xe_lstN (xa_cons (xv 2) (xa_nil)))) (xss_cons (xs_while 100 (passes_of rfl) (xt_ne (hr) (xv 4) (xe_lst (xa_nil))) (xss_one (xs_for (passes_of rfl) rfl (xi_tup (xe_ixA (hr) (xv 0) (xe_pop (xv 4)))) (xg_name (i := 5) sc_lot_around.nd) (xss_one (xs_if (PW.pt (xw_and (xt_notIn (hr) (xv 5) (xv 3)) (xw_and1 (xt_notIn (hr) (xv 5) (xv 1))))) (xss_cons (xs_asg (xe_bl) (xg_subA (hr) (xv 3) (xv 5))) (xss_one (xs_expr (xe_append (xv 4) (xa_cons (xv 5) (xa_nil)))))) (xss_nil)))))) (xss_one (xs_ret (xe_tuple T.b_tuple (xa_cons (xe_sortC rfl T.b_sorted (xa_cons (xv 3) (xa_nil))) (xa_nil)))))))
noncomputable abbrev N_lots_in : List Str := ["beside", "gone", "left", "found", "lot", "place"]
theorem sc_lots_in : FnScope N_lots_in ["beside", "gone"] (defScope (top 24)) := ⟨rfl, rfl, rfl, by decide +kernel, rfl, by decide +kernel, by decide +kernel⟩
theorem ok_lots_in {f : Addr} {fd : FuncData} (T : Txt P K mg) (D_lot_around : Def P w K mg base 1 "lot_around" f_lot_around) (F : Fun K "lots_in" "lots_in" (top 24) f fd) : FnG P w K mg base (L2.CX P w) 2 f fd ["beside", "gone"] (spM w K mg f_lots_in) :=
  fn_okM (N := N_lots_in) F sc_lots_in fun cdv A outer s H E hr hG => xss_cons (xs_setLc (i := 2) rfl sc_lots_in.nd (xi_keys (xv 0)) (own := [("place", 5)]) (blkOk_by (N := N_lots_in) (sc := defScope (top 24)) (by decide +kernel)) (fun _ _ _ _ _ => xgw_name sc_lots_in.nd) (fun _ _ _ _ _ => xts_one (xt_notIn (hr) (xv 5) (xv 1))) (fun _ _ _ _ _ => xv 5)) (xss_cons (xs_set (i := 3) sc_lots_in.nd (xe_lstN (xa_nil))) (xss_cons (xs_while 100 (passes_of rfl) (xt_ne (hr) (xv 2) (xe_lst (xa_nil))) (xss_cons (xs_set (i := 4) sc_lots_in.nd (xe_call D_lot_around (hr.mono (by decide)) hG (takes_of rfl rfl rfl rfl) (xa_cons (xv 0) (xa_cons (xv 1) (xa_cons (xe_ixA (hr) (xv 2) (xe_int)) (xa_nil)))))) (xss_cons (xs_expr (xe_append (xv 3) (xa_cons (xv 4) (xa_nil)))) (xss_one (xs_setLc (i := 2) rfl sc_lots_in.nd (xi_list (xv 2)) (own := [("place", 5)]) (blkOk_by (N := N_lots_in) (sc := defScope (top 24)) (by decide +kernel)) (fun _ _ _ _ _ => xgw_name sc_lots_in.nd) (fun _ _ _ _ _ => xts_one (xt_notIn (hr) (xv 5) (xv 4))) (fun _ _ _ _ _ => xv 5)))))) (xss_one (xs_ret (xe_tuple T.b_tuple (xa_cons (xe_sortC rfl T.b_sorted (xa_cons (xv 3) (xa_nil))) (xa_nil)))))))
noncomputable abbrev N_neighbours_by : List Str := ["ties", "place", "a", "b"]
theorem sc_neighbours_by : FnScope N_neighbours_by ["ties", "place"] (defScope (top 20)) := ⟨rfl, rfl, rfl, by decide +kernel, rfl, by decide +kernel, by decide +kernel⟩
theorem ok_neighbours_by {f : Addr} {fd : FuncData} (T : Txt P K mg)  (F : Fun K "neighbours_by" "neighbours_by" (top 20) f fd) : FnG P w K mg base (L2.CX P w) 1 f fd ["ties", "place"] (spM w K mg f_neighbours_by) :=
  fn_okM (N := N_neighbours_by) F sc_neighbours_by fun cdv A outer s H E hr hG => xss_one (xs_ret (xe_tuple T.b_tuple (xa_cons (xe_sortC rfl T.b_sorted (xa_cons (xe_lc rfl sc_neighbours_by.nd (xi_tup (xv 0)) (own := [("a", 2), ("b", 3)]) (blkOk_by (N := N_neighbours_by) (sc := defScope (top 20)) (by decide +kernel)) (fun _ _ _ _ _ => xgw_tup (n := 2) rfl (xgsw_cons (xgw_name sc_neighbours_by.nd) (xgsw_cons (xgw_name sc_neighbours_by.nd) (xgsw_nil)))) (fun _ _ _ _ _ => xts_one (xt_in (hr) (xv 1) (xe_tup (xa_cons (xv 2) (xa_cons (xv 3) (xa_nil)))))) (fun _ _ _ _ _ => xe_ifE (xt_eq (hr) (xv 2) (xv 1)) (xv 3) (xv 2))) (xa_nil))) (xa_nil))))
noncomputable abbrev N_Web___init__ : List Str := ["self", "places", "ties", "tie", "place"]
theorem sc_Web___init__ : FnScope N_Web___init__ ["self", "places", "ties"] (defScope (inClass (top 22) 1)) := ⟨rfl, rfl, rfl, by decide +kernel, rfl, by decide +kernel, by decide +kernel⟩
theorem ok_Web___init__ {f : Addr} {fd : FuncData} (T : Txt P K mg) (D_are_parts : Def P w K mg base 5 "are_parts" f_are_parts) (D_lots_in : Def P w K mg base 2 "lots_in" f_lots_in) (D_neighbours_by : Def P w K mg base 1 "neighbours_by" f_neighbours_by) (F : Fun K "__init__" "Web.__init__" (inClass (top 22) 1) f fd) : FnG P w K mg base (L2.CX P w) 6 f fd ["self", "places", "ties"] (spM w K mg f_Web___init__) :=
  fn_okM (N := N_Web___init__) F sc_Web___init__ fun cdv A outer s H E hr hG => xss_cons (xs_if (xt_not (xt_val (xe_call D_are_parts (hr.mono (by decide)) hG (takes_of rfl rfl rfl rfl) (xa_cons (xv 1) (xa_cons (xv 2) (xa_nil)))))) (xss_one (xs_raise rfl (takes_of rfl rfl rfl rfl) T.e_InvalidWeb)) (xss_nil)) (xss_cons (xs_putSl T.sl_Web_own_places (xv 1) (xv 0)) (xss_cons (xs_putSl T.sl_Web_own_ties (xe_dc true hr rfl sc_Web___init__.nd (xi_tup (xv 2)) (own := [("tie", 3)]) (blkOk_by (N := N_Web___init__) (sc := defScope (inClass (top 22) 1)) (by decide +kernel)) (fun _ _ _ _ _ => xgw_name sc_Web___init__.nd) (fun _ _ _ _ _ => xts_nil) (fun _ _ _ _ _ => xv 3) (fun _ _ _ _ _ => xe_bl)) (xv 0)) (xss_cons (xs_putSl T.sl_Web_own_beside (xe_dc false hr rfl sc_Web___init__.nd (xi_tup (xv 1)) (own := [("place", 4)]) (blkOk_by (N := N_Web___init__) (sc := defScope (inClass (top 22) 1)) (by decide +kernel)) (fun _ _ _ _ _ => xgw_name sc_Web___init__.nd) (fun _ _ _ _ _ => xts_nil) (fun _ _ _ _ _ => xv 4) (fun _ _ _ _ _ => xe_call D_neighbours_by (hr.mono (by decide)) hG (takes0) (xa_cons (xv 2) (xa_cons (xv 4) (xa_nil))))) (xv 0)) (xss_one (xs_putSl T.sl_Web_own_lots (xe_call D_lots_in (hr.mono (by decide)) hG (takes_of rfl rfl rfl rfl) (xa_cons (xe_slot T.sl_Web_own_beside (xv 0)) (xa_cons (xe_dct0) (xa_nil)))) (xv 0))))))
noncomputable abbrev N__law_made : List Str := ["plain"]
theorem sc__law_made : FnScope N__law_made ["plain"] (defScope (top 53)) := ⟨rfl, rfl, rfl, by decide +kernel, rfl, by decide +kernel, by decide +kernel⟩
theorem ok__law_made {f : Addr} {fd : FuncData} (T : Txt P K mg) (D_Web___init__ : NDef P w K mg base 6 "Web" f_Web___init__) (F : Fun K "_law_made" "_law_made" (top 53) f fd) : FnG P w K mg base (L2.CX P w) 8 f fd ["plain"] (spM w K mg f__law_made) :=
  fn_okM (N := N__law_made) F sc__law_made fun cdv A outer s H E hr hG => xss_one (xs_ret (xe_new D_Web___init__ (hr.mono (by decide)) hG (takes_of rfl rfl rfl rfl) (xa_cons (xe_tuple T.b_tuple (xa_cons (xe_ixA (hr) (xv 0) (xe_str (y := [112, 108, 97, 99, 101, 115]))) (xa_nil))) (xa_cons (xe_tuple T.b_tuple (xa_cons (xe_ixA (hr) (xv 0) (xe_str (y := [116, 105, 101, 115]))) (xa_nil))) (xa_nil)))))
noncomputable abbrev N_Web_places : List Str := ["self"]
theorem sc_Web_places : FnScope N_Web_places ["self"] (defScope (inClass (top 22) 4)) := ⟨rfl, rfl, rfl, by decide +kernel, rfl, by decide +kernel, by decide +kernel⟩
theorem ok_Web_places {f : Addr} {fd : FuncData} (T : Txt P K mg)  (F : Fun K "places" "Web.places" (inClass (top 22) 4) f fd) : FnG P w K mg base (L2.CX P w) 1 f fd ["self"] (spM w K mg f_Web_places) :=
  fn_okM (N := N_Web_places) F sc_Web_places fun cdv A outer s H E hr hG => xss_one (xs_ret (xe_slot T.sl_Web_own_places (xv 0)))
noncomputable abbrev N_Web_ties : List Str := ["self"]
theorem sc_Web_ties : FnScope N_Web_ties ["self"] (defScope (inClass (top 22) 5)) := ⟨rfl, rfl, rfl, by decide +kernel, rfl, by decide +kernel, by decide +kernel⟩
theorem ok_Web_ties {f : Addr} {fd : FuncData} (T : Txt P K mg)  (F : Fun K "ties" "Web.ties" (inClass (top 22) 5) f fd) : FnG P w K mg base (L2.CX P w) 1 f fd ["self"] (spM w K mg f_Web_ties) :=
  fn_okM (N := N_Web_ties) F sc_Web_ties fun cdv A outer s H E hr hG => xss_one (xs_ret (xe_tuple T.b_tuple (xa_cons (xe_listB rfl T.b_list (xa_cons (xe_slot T.sl_Web_own_ties (xv 0)) (xa_nil))) (xa_nil))))
noncomputable abbrev N__law_roll : List Str := ["dice", "total", "found", "one", "two"]
theorem sc__law_roll : FnScope N__law_roll ["dice", "total"] (defScope (top 49)) := ⟨rfl, rfl, rfl, by decide +kernel, rfl, by decide +kernel, by decide +kernel⟩
theorem ok__law_roll {f : Addr} {fd : FuncData} (T : Txt P K mg)  (F : Fun K "_law_roll" "_law_roll" (top 49) f fd) : FnG P w K mg base (L2.CX P w) 1 f fd ["dice", "total"] (spM w K mg f__law_roll) :=
  fn_okM (N := N__law_roll) F sc__law_roll fun cdv A outer s H E hr hG => xss_cons (xs_if (xt_gt (xe_ix (xv 0) (xe_int)) (xe_int)) (xss_cons (xs_set (i := 2) sc__law_roll.nd (xe_mod (xe_int_ T.b_int (xa_cons (xe_ix (xv 0) (xe_int)) (xa_nil))) (xv 1))) (xss_cons (xs_asg (xe_div (xe_ix (xv 0) (xe_int)) (xv 1)) (xg_subL (xv 0) (xe_int))) (xss_one (xs_ret (xv 2))))) (xss_nil)) (xss_cons (xs_asg (xe_add (xe_ix (xv 0) (xe_int)) (xe_int)) (xg_subL (xv 0) (xe_int))) (xss_cons (xs_set (i := 3) sc__law_roll.nd (xe_mod (xe_int_ T.b_int (xa_cons (xe_add (xe_ix (xv 0) (xe_int)) (xe_mulA (xe_int) (xe_ix (xv 0) (xe_int)))) (xa_nil))) (xe_int))) (xss_cons (xs_set (i := 4) sc__law_roll.nd (xe_add (xe_mulA (xe_mod (xe_int_ T.b_int (xa_cons (xe_add (xe_mulA (xv 3) (xv 3)) (xe_mulA (xe_int) (xe_ix (xv 0) (xe_int)))) (xa_nil))) (xe_int)) (xe_int)) (xv 3))) (xss_one (xs_ret (xe_mod (xe_int_ T.b_int (xa_cons (xe_div (xv 4) (xe_int)) (xa_nil))) (xv 1)))))))
noncomputable abbrev N__law_pick : List Str := ["dice", "items"]
theorem sc__law_pick : FnScope N__law_pick ["dice", "items"] (defScope (top 50)) := ⟨rfl, rfl, rfl, by decide +kernel, rfl, by decide +kernel, by decide +kernel⟩
theorem ok__law_pick {f : Addr} {fd : FuncData} (T : Txt P K mg) (D__law_roll : Def P w K mg base 1 "_law_roll" f__law_roll) (F : Fun K "_law_pick" "_law_pick" (top 50) f fd) : FnG P w K mg base (L2.CX P w) 2 f fd ["dice", "items"] (spM w K mg f__law_pick) :=
  fn_okM (N := N__law_pick) F sc__law_pick fun cdv A outer s H E hr hG => xss_one (xs_ret (xe_ix (xv 1) (xe_call D__law_roll (hr.mono (by decide)) hG (takes_of rfl rfl rfl rfl) (xa_cons (xv 0) (xa_cons (xe_len T.b_len (xa_cons (xv 1) (xa_nil))) (xa_nil))))))
noncomputable abbrev N__law_word_of : List Str := ["call", "e"]
theorem sc__law_word_of : FnScope N__law_word_of ["call"] (defScope (top 57)) := ⟨rfl, rfl, rfl, by decide +kernel, rfl, by decide +kernel, by decide +kernel⟩
theorem ld__law_word_of {k : Nat} {f : Addr} {fd : FuncData} (T : Txt P K mg)  (F : Fun K "_law_word_of" "_law_word_of" (top 57) f fd) (hm : mg "_law_word_of" = some (.ref f)) (bi : Binds K fd ["call"] []) : LDef P w K mg base k "_law_word_of" N__law_word_of.length fun L gm => m__law_word_of (mAct 0 L gm) :=
  ldef_mk (N := N__law_word_of) F hm sc__law_word_of rfl (.inl rfl) bi (by decide) (by decide) fun cdv A outer s H L gm hr hG act => xss_cons (xs_try rfl rfl sc__law_word_of.nd (LamX.takes0) rfl (fun _ _ _ t0 _ => xss_one (xs_expr (act _ _ _ _ _ (t0)))) (.own T.c_InvalidWeb (fun _ _ _ _ _ _ _ => xss_one (xs_ret (xe_str (y := [119, 101, 98])))) (.own T.c_InvalidTie (fun _ _ _ _ _ _ _ => xss_one (xs_ret (xe_str (y := [116, 105, 101])))) (.own T.c_InvalidPart (fun _ _ _ _ _ _ _ => xss_one (xs_ret (xe_str (y := [112, 97, 114, 116])))) (.ownN (i := 1) rfl rfl T.c_UnknownName (only_by (by decide +kernel)) (fun _ _ _ _ _ _ z w => xss_one (xs_ret (xe_add (xe_str (y := [117, 110, 107, 110, 111, 119, 110, 32])) (xe_repr (by exact hG) (by exact hr.units) (by exact T.b_repr) (xa_cons (xe_fld (by exact T.fl_UnknownName_word) z w) (xa_nil)))))) (.nil)))))) (xss_one (xs_ret (xe_str (y := [102, 105, 110, 101]))))
theorem ind__law_word_of (L : PV) (gm : Store → R PV) (h : Store) : runDef 1 N__law_word_of.length (m__law_word_of (mAct 0 L gm)) [L] h = f__law_word_of gm h := by
  exact ind0 L gm h
noncomputable abbrev N_Web_lots : List Str := ["self"]
theorem sc_Web_lots : FnScope N_Web_lots ["self"] (defScope (inClass (top 22) 7)) := ⟨rfl, rfl, rfl, by decide +kernel, rfl, by decide +kernel, by decide +kernel⟩
theorem ok_Web_lots {f : Addr} {fd : FuncData} (T : Txt P K mg)  (F : Fun K "lots" "Web.lots" (inClass (top 22) 7) f fd) : FnG P w K mg base (L2.CX P w) 1 f fd ["self"] (spM w K mg f_Web_lots) :=
  fn_okM (N := N_Web_lots) F sc_Web_lots fun cdv A outer s H E hr hG => xss_one (xs_ret (xe_slot T.sl_Web_own_lots (xv 0)))
noncomputable abbrev N_Web_lots_without : List Str := ["self", "places", "place"]
theorem sc_Web_lots_without : FnScope N_Web_lots_without ["self", "places"] (defScope (inClass (top 22) 18)) := ⟨rfl, rfl, rfl, by decide +kernel, rfl, by decide +kernel, by decide +kernel⟩
theorem ok_Web_lots_without {f : Addr} {fd : FuncData} (T : Txt P K mg) (D_lots_in : Def P w K mg base 2 "lots_in" f_lots_in) (F : Fun K "lots_without" "Web.lots_without" (inClass (top 22) 18) f fd) : FnG P w K mg base (L2.CX P w) 3 f fd ["self", "places"] (spM w K mg f_Web_lots_without) :=
  fn_okM (N := N_Web_lots_without) F sc_Web_lots_without fun cdv A outer s H E hr hG => xss_one (xs_ret (xe_call D_lots_in (hr.mono (by decide)) hG (takes_of rfl rfl rfl rfl) (xa_cons (xe_slot T.sl_Web_own_beside (xv 0)) (xa_cons (xe_dc false hr rfl sc_Web_lots_without.nd (xi_tup (xv 1)) (own := [("place", 2)]) (blkOk_by (N := N_Web_lots_without) (sc := defScope (inClass (top 22) 18)) (by decide +kernel)) (fun _ _ _ _ _ => xgw_name sc_Web_lots_without.nd) (fun _ _ _ _ _ => xts_nil) (fun _ _ _ _ _ => xv 2) (fun _ _ _ _ _ => xe_bl)) (xa_nil)))))
noncomputable abbrev N_is_cut_place : List Str := ["web", "place"]
theorem sc_is_cut_place : FnScope N_is_cut_place ["web", "place"] (defScope (top 39)) := ⟨rfl, rfl, rfl, by decide +kernel, rfl, by decide +kernel, by decide +kernel⟩
theorem ok_is_cut_place {f : Addr} {fd : FuncData} (T : Txt P K mg) (D_Web_lots : PDef P w K mg base 1 "Web" "lots" f_Web_lots) (D_Web_lots_without : MDef P w K mg base 3 "Web" "lots_without" f_Web_lots_without) (F : Fun K "is_cut_place" "is_cut_place" (top 39) f fd) : FnG P w K mg base (L2.CX P w) 4 f fd ["web", "place"] (spM w K mg f_is_cut_place) :=
  fn_okM (N := N_is_cut_place) F sc_is_cut_place fun cdv A outer s H E hr hG => xss_one (xs_ret (xe_gt (xe_lenB T.b_len (xa_cons (xe_meth D_Web_lots_without (hr.mono (by decide)) hG (takes_of rfl rfl rfl rfl) (xv 0) (xa_cons (xe_tup (xa_cons (xv 1) (xa_nil))) (xa_nil))) (xa_nil))) (xe_lenB T.b_len (xa_cons (xe_prop D_Web_lots (hr.mono (by decide)) hG (xv 0)) (xa_nil)))))
noncomputable abbrev N_Web_require_place : List Str := ["self", "name"]
theorem sc_Web_require_place : FnScope N_Web_require_place ["self", "name"] (defScope (inClass (top 22) 9)) := ⟨rfl, rfl, rfl, by decide +kernel, rfl, by decide +kernel, by decide +kernel⟩
theorem ok_Web_require_place {f : Addr} {fd : FuncData} (T : Txt P K mg) (D_is_name : Def P w K mg base 1 "is_name" f_is_name) (F : Fun K "require_place" "Web.require_place" (inClass (top 22) 9) f fd) : FnG P w K mg base (L2.CX P w) 2 f fd ["self", "name"] (spM w K mg f_Web_require_place) :=
  fn_okM (N := N_Web_require_place) F sc_Web_require_place fun cdv A outer s H E hr hG => xss_one (xs_if (PW.pt (xw_or (xt_not (xt_val (xe_call D_is_name (hr.mono (by decide)) hG (takes_of rfl rfl rfl rfl) (xa_cons (xv 1) (xa_nil))))) (xw_or1 (xt_notIn (hr) (xv 1) (xe_slot T.sl_Web_own_beside (xv 0)))))) (xss_one (xs_raiseV rfl (takes_of rfl rfl rfl rfl) (hr) T.ei_UnknownName (xv 1))) (xss_nil))
noncomputable abbrev N_Web_without_places : List Str := ["self", "places", "place", "kept", "tie"]
theorem sc_Web_without_places : FnScope N_Web_without_places ["self", "places"] (defScope (inClass (top 22) 17)) := ⟨rfl, rfl, rfl, by decide +kernel, rfl, by decide +kernel, by decide +kernel⟩
theorem ok_Web_without_places {f : Addr} {fd : FuncData} (T : Txt P K mg) (D_Web___init__ : NDef P w K mg base 6 "Web" f_Web___init__) (D_Web_require_place : MDef P w K mg base 2 "Web" "require_place" f_Web_require_place) (F : Fun K "without_places" "Web.without_places" (inClass (top 22) 17) f fd) : FnG P w K mg base (L2.CX P w) 8 f fd ["self", "places"] (spM w K mg f_Web_without_places) :=
  fn_okM (N := N_Web_without_places) F sc_Web_without_places fun cdv A outer s H E hr hG => xss_cons (xs_if (xt_not (xt_val (xe_isiO T.io T.b_isinstance (xa_cons (xv 1) (xa_cons (xe_Ttuple T.b_tuple) (xa_nil)))))) (xss_one (xs_raise rfl (takes_of rfl rfl rfl rfl) T.e_InvalidOperation)) (xss_nil)) (xss_cons (xs_for (passes_of rfl) rfl (xi_tup (xv 1)) (xg_name (i := 2) sc_Web_without_places.nd) (xss_one (xs_expr (xe_meth D_Web_require_place (hr.mono (by decide)) hG (takes_of rfl rfl rfl rfl) (xv 0) (xa_cons (xv 2) (xa_nil)))))) (xss_cons (xs_set (i := 3) sc_Web_without_places.nd (xe_lc rfl sc_Web_without_places.nd (xi_tup (xe_slot T.sl_Web_own_places (xv 0))) (own := [("place", 2)]) (blkOk_by (N := N_Web_without_places) (sc := defScope (inClass (top 22) 17)) (by decide +kernel)) (fun _ _ _ _ _ => xgw_name sc_Web_without_places.nd) (fun _ _ _ _ _ => xts_one (xt_notIn (hr) (xv 2) (xv 1))) (fun _ _ _ _ _ => xv 2))) (xss_one (xs_ret (xe_new D_Web___init__ (hr.mono (by decide)) hG (takes_of rfl rfl rfl rfl) (xa_cons (xe_tuple T.b_tuple (xa_cons (xv 3) (xa_nil))) (xa_cons (xe_tuple T.b_tuple (xa_cons (xe_lc rfl sc_Web_without_places.nd (xi_keysT (xe_slot T.sl_Web_own_ties (xv 0))) (own := [("tie", 4)]) (blkOk_by (N := N_Web_without_places) (sc := defScope (inClass (top 22) 17)) (by decide +kernel)) (fun _ _ _ _ _ => xgw_name sc_Web_without_places.nd) (fun _ _ _ _ _ => xts_one (PW.pt (xw_and (xt_in (hr) (xe_ixA (hr) (xv 4) (xe_int)) (xv 3)) (xw_and1 (xt_in (hr) (xe_ixA (hr) (xv 4) (xe_int)) (xv 3)))))) (fun _ _ _ _ _ => xv 4)) (xa_nil))) (xa_nil))))))))
noncomputable abbrev N_web_within : List Str := ["web", "places", "place"]
theorem sc_web_within : FnScope N_web_within ["web", "places"] (defScope (top 41)) := ⟨rfl, rfl, rfl, by decide +kernel, rfl, by decide +kernel, by decide +kernel⟩
theorem ok_web_within {f : Addr} {fd : FuncData} (T : Txt P K mg) (D_Web_places : PDef P w K mg base 1 "Web" "places" f_Web_places) (D_Web_without_places : MDef P w K mg base 8 "Web" "without_places" f_Web_without_places) (F : Fun K "web_within" "web_within" (top 41) f fd) : FnG P w K mg base (L2.CX P w) 9 f fd ["web", "places"] (spM w K mg f_web_within) :=
  fn_okM (N := N_web_within) F sc_web_within fun cdv A outer s H E hr hG => xss_one (xs_ret (xe_meth D_Web_without_places (hr.mono (by decide)) hG (takes_of rfl rfl rfl rfl) (xv 0) (xa_cons (xe_tuple T.b_tuple (xa_cons (xe_lc rfl sc_web_within.nd (xi_tup (xe_prop D_Web_places (hr.mono (by decide)) hG (xv 0))) (own := [("place", 2)]) (blkOk_by (N := N_web_within) (sc := defScope (top 41)) (by decide +kernel)) (fun _ _ _ _ _ => xgw_name sc_web_within.nd) (fun _ _ _ _ _ => xts_one (xt_notIn (hr) (xv 2) (xv 1))) (fun _ _ _ _ _ => xv 2)) (xa_nil))) (xa_nil))))
noncomputable abbrev N_blocks_in : List Str := ["web", "lot", "found", "waiting", "places", "inner", "cut", "other"]
theorem sc_blocks_in : FnScope N_blocks_in ["web", "lot"] (defScope (top 42)) := ⟨rfl, rfl, rfl, by decide +kernel, rfl, by decide +kernel, by decide +kernel⟩
theorem ok_blocks_in {f c P0 : Addr} {fd : FuncData} (T : Txt P K mg) (TL : LamT K mg base "blocks_in" c P0) (D_Web_lots_without : MDef P w K mg base 3 "Web" "lots_without" f_Web_lots_without) (D_is_cut_place : Def P w K mg base 4 "is_cut_place" f_is_cut_place) (D_web_within : Def P w K mg base 9 "web_within" f_web_within) (F : FunL K "blocks_in" "blocks_in" (top 42) f fd c) : FnG P w K mg base (L2.CX P w) 10 f fd ["web", "lot"] (spM w K mg f_blocks_in) :=
  fn_okL (N := N_blocks_in) F sc_blocks_in fun A outer s H E hr hG => xss_cons (xs_par (i := 2) (j := 3) rfl sc_blocks_in.nd (xa_cons (xe_lstN (xa_nil)) (xa_cons (xe_lstN (xa_cons (xv 1) (xa_nil))) (xa_nil)))) (xss_cons (xs_while 100 (passes_of rfl) (xt_ne (hr) (xv 3) (xe_lst (xa_nil))) (xss_cons (xs_set (i := 4) sc_blocks_in.nd (xe_pop (xv 3))) (xss_cons (xs_set (i := 5) sc_blocks_in.nd (xe_call D_web_within (hr.mono (by decide)) hG (takes_of rfl rfl rfl rfl) (xa_cons (xv 0) (xa_cons (xv 4) (xa_nil))))) (xss_cons (xs_set (i := 6) sc_blocks_in.nd (xe_nextG (k := 4) TL (hr.mono (by decide)) hG rfl sc_blocks_in.nd rfl T.b_next (xi_tup (xv 4)) (fun _ _ _ _ _ hr hG => xts_one (xt_val (xe_call D_is_cut_place (hr.mono (by decide)) hG (takes0) (xa_cons (xv 5) (xa_cons (xv 8) (xa_nil)))))) (sy := (by decide +kernel : gxSB N_blocks_in (defScope (top 42)) _ "place" = true)) (eq := (by decide +kernel : (("blocks_in" : Str) ++ (".<locals>." : Str)) ++ ("<genexpr>" : Str) = "blocks_in.<locals>.<genexpr>")))) (xss_one (xs_if (xt_is (xv 6) (xe_non)) (xss_one (xs_expr (xe_append (xv 2) (xa_cons (xv 4) (xa_nil))))) (xss_one (xs_expr (xe_extend (xv 3) (xa_cons (xe_lc rfl sc_blocks_in.nd (xi_tup (xe_meth D_Web_lots_without (hr.mono (by decide)) hG (takes_of rfl rfl rfl rfl) (xv 5) (xa_cons (xe_tup (xa_cons (xv 6) (xa_nil))) (xa_nil)))) (own := [("other", 7)]) (blkOk_by (N := N_blocks_in) (sc := defScope (top 42)) (by decide +kernel)) (fun _ _ _ _ _ => xgw_name sc_blocks_in.nd) (fun _ _ _ _ _ => xts_nil) (fun _ _ _ _ _ => xe_tuple T.b_tuple (xa_cons (xe_sortC rfl T.b_sorted (xa_cons (xe_lst (xa_cons (xv 6) (xa_star rfl (xv 7) (xa_nil)))) (xa_nil))) (xa_nil)))) (xa_nil))))))))))) (xss_one (xs_ret (xv 2))))
noncomputable abbrev N_require_web : List Str := ["value"]
theorem sc_require_web : FnScope N_require_web ["value"] (defScope (top 26)) := ⟨rfl, rfl, rfl, by decide +kernel, rfl, by decide +kernel, by decide +kernel⟩
theorem ok_require_web {f : Addr} {fd : FuncData} (T : Txt P K mg)  (F : Fun K "require_web" "require_web" (top 26) f fd) : FnG P w K mg base (L2.CX P w) 1 f fd ["value"] (spM w K mg f_require_web) :=
  fn_okM (N := N_require_web) F sc_require_web fun cdv A outer s H E hr hG => xss_one (xs_if (xt_not (xt_val (xe_isW T.iw_Web T.b_isinstance (xa_cons (xv 0) (xa_cons (xe_cls T.iw_Web.has) (xa_nil)))))) (xss_one (xs_raise rfl (takes_of rfl rfl rfl rfl) T.e_InvalidWeb)) (xss_nil))
noncomputable abbrev N_all_blocks : List Str := ["web", "lot", "block"]
theorem sc_all_blocks : FnScope N_all_blocks ["web"] (defScope (top 43)) := ⟨rfl, rfl, rfl, by decide +kernel, rfl, by decide +kernel, by decide +kernel⟩
theorem ok_all_blocks {f : Addr} {fd : FuncData} (T : Txt P K mg) (D_Web_lots : PDef P w K mg base 1 "Web" "lots" f_Web_lots) (D_blocks_in : Def P w K mg base 10 "blocks_in" f_blocks_in) (D_require_web : Def P w K mg base 1 "require_web" f_require_web) (F : Fun K "all_blocks" "all_blocks" (top 43) f fd) : FnG P w K mg base (L2.CX P w) 11 f fd ["web"] (spM w K mg f_all_blocks) :=
  fn_okM (N := N_all_blocks) F sc_all_blocks fun cdv A outer s H E hr hG => xss_cons (xs_expr (xe_call D_require_web (hr.mono (by decide)) hG (takes_of rfl rfl rfl rfl) (xa_cons (xv 0) (xa_nil)))) (xss_one (xs_ret (xe_tuple T.b_tuple (xa_cons (xe_sortC rfl T.b_sorted (xa_cons (xe_lc2 (vs1 := [2]) rfl sc_all_blocks.nd (xi_tup (xe_prop D_Web_lots (hr.mono (by decide)) hG (xv 0))) (own := [("lot", 1), ("block", 2)]) (blkOk_by (N := N_all_blocks) (sc := defScope (top 43)) (by decide +kernel)) (fun _ _ _ _ _ => xgw_name sc_all_blocks.nd) (fun _ _ _ _ _ => xts_nil) (fun _ _ _ _ _ => xi_list (xe_call D_blocks_in (hr.mono (by decide)) hG (takes0) (xa_cons (xv 0) (xa_cons (xv 1) (xa_nil))))) (fun _ _ _ _ _ => xgw_name sc_all_blocks.nd) (fun _ _ _ _ _ => xts_nil) (fun _ _ _ _ _ => xv 2)) (xa_nil))) (xa_nil)))))
noncomputable abbrev N_all_partings : List Str := ["web", "places"]
theorem sc_all_partings : FnScope N_all_partings ["web"] (defScope (top 33)) := ⟨rfl, rfl, rfl, by decide +kernel, rfl, by decide +kernel, by decide +kernel⟩
theorem ok_all_partings {f : Addr} {fd : FuncData} (T : Txt P K mg) (D_require_web : Def P w K mg base 1 "require_web" f_require_web) (F : Fun K "all_partings" "all_partings" (top 33) f fd) : FnG P w K mg base (L2.CX P w) 2 f fd ["web"] (spM w K mg f_all_partings) :=
  fn_okM (N := N_all_partings) F sc_all_partings fun cdv A outer s H E hr hG => xss_cons (xs_expr (xe_call D_require_web (hr.mono (by decide)) hG (takes_of rfl rfl rfl rfl) (xa_cons (xv 0) (xa_nil)))) (xss_one (xs_never))
noncomputable abbrev N_cut_places : List Str := ["web", "place"]
theorem sc_cut_places : FnScope N_cut_places ["web"] (defScope (top 40)) := ⟨rfl, rfl, rfl, by decide +kernel, rfl, by decide +kernel, by decide +kernel⟩
theorem ok_cut_places {f : Addr} {fd : FuncData} (T : Txt P K mg) (D_require_web : Def P w K mg base 1 "require_web" f_require_web) (F : Fun K "cut_places" "cut_places" (top 40) f fd) : FnG P w K mg base (L2.CX P w) 2 f fd ["web"] (spM w K mg f_cut_places) :=
  fn_okM (N := N_cut_places) F sc_cut_places fun cdv A outer s H E hr hG => xss_cons (xs_expr (xe_call D_require_web (hr.mono (by decide)) hG (takes_of rfl rfl rfl rfl) (xa_cons (xv 0) (xa_nil)))) (xss_one (xs_never))
noncomputable abbrev N_block_doors : List Str := ["web", "cuts", "block", "place"]
theorem sc_block_doors : FnScope N_block_doors ["web"] (defScope (top 46)) := ⟨rfl, rfl, rfl, by decide +kernel, rfl, by decide +kernel, by decide +kernel⟩
theorem ok_block_doors {f : Addr} {fd : FuncData} (T : Txt P K mg) (D_cut_places : Def P w K mg base 2 "cut_places" f_cut_places) (F : Fun K "block_doors" "block_doors" (top 46) f fd) : FnG P w K mg base (L2.CX P w) 3 f fd ["web"] (spM w K mg f_block_doors) :=
  fn_okM (N := N_block_doors) F sc_block_doors fun cdv A outer s H E hr hG => xss_cons (xs_set (i := 1) sc_block_doors.nd (xe_call D_cut_places (hr.mono (by decide)) hG (takes_of rfl rfl rfl rfl) (xa_cons (xv 0) (xa_nil)))) (xss_one (xs_never))
noncomputable abbrev N_block_web : List Str := ["web", "block"]
theorem sc_block_web : FnScope N_block_web ["web", "block"] (defScope (top 45)) := ⟨rfl, rfl, rfl, by decide +kernel, rfl, by decide +kernel, by decide +kernel⟩
theorem ok_block_web {f : Addr} {fd : FuncData} (T : Txt P K mg) (D_all_blocks : Def P w K mg base 11 "all_blocks" f_all_blocks) (D_require_web : Def P w K mg base 1 "require_web" f_require_web) (D_web_within : Def P w K mg base 9 "web_within" f_web_within) (F : Fun K "block_web" "block_web" (top 45) f fd) : FnG P w K mg base (L2.CX P w) 12 f fd ["web", "block"] (spM w K mg f_block_web) :=
  fn_okM (N := N_block_web) F sc_block_web fun cdv A outer s H E hr hG => xss_cons (xs_expr (xe_call D_require_web (hr.mono (by decide)) hG (takes_of rfl rfl rfl rfl) (xa_cons (xv 0) (xa_nil)))) (xss_cons (xs_if (xt_notInTX (hr) (xv 1) (xe_call D_all_blocks (hr.mono (by decide)) hG (takes_of rfl rfl rfl rfl) (xa_cons (xv 0) (xa_nil)))) (xss_one (xs_raise rfl (takes_of rfl rfl rfl rfl) T.e_InvalidPart)) (xss_nil)) (xss_one (xs_ret (xe_call D_web_within (hr.mono (by decide)) hG (takes_of rfl rfl rfl rfl) (xa_cons (xv 0) (xa_cons (xv 1) (xa_nil)))))))
noncomputable abbrev N_Web_is_tied : List Str := ["self", "a", "b"]
theorem sc_Web_is_tied : FnScope N_Web_is_tied ["self", "a", "b"] (defScope (inClass (top 22) 12)) := ⟨rfl, rfl, rfl, by decide +kernel, rfl, by decide +kernel, by decide +kernel⟩
theorem ok_Web_is_tied {f : Addr} {fd : FuncData} (T : Txt P K mg) (D_Web_require_place : MDef P w K mg base 2 "Web" "require_place" f_Web_require_place) (F : Fun K "is_tied" "Web.is_tied" (inClass (top 22) 12) f fd) : FnG P w K mg base (L2.CX P w) 3 f fd ["self", "a", "b"] (spM w K mg f_Web_is_tied) :=
  fn_okM (N := N_Web_is_tied) F sc_Web_is_tied fun cdv A outer s H E hr hG => xss_cons (xs_expr (xe_meth D_Web_require_place (hr.mono (by decide)) hG (takes_of rfl rfl rfl rfl) (xv 0) (xa_cons (xv 1) (xa_nil)))) (xss_cons (xs_expr (xe_meth D_Web_require_place (hr.mono (by decide)) hG (takes_of rfl rfl rfl rfl) (xv 0) (xa_cons (xv 2) (xa_nil)))) (xss_one (xs_ret (xe_in (hr) (xv 2) (xe_ixA (hr) (xe_slot T.sl_Web_own_beside (xv 0)) (xv 1))))))
noncomputable abbrev N_Web_require_tied : List Str := ["self", "a", "b"]
theorem sc_Web_require_tied : FnScope N_Web_require_tied ["self", "a", "b"] (defScope (inClass (top 22) 13)) := ⟨rfl, rfl, rfl, by decide +kernel, rfl, by decide +kernel, by decide +kernel⟩
theorem ok_Web_require_tied {f : Addr} {fd : FuncData} (T : Txt P K mg) (D_Web_is_tied : MDef P w K mg base 3 "Web" "is_tied" f_Web_is_tied) (F : Fun K "require_tied" "Web.require_tied" (inClass (top 22) 13) f fd) : FnG P w K mg base (L2.CX P w) 4 f fd ["self", "a", "b"] (spM w K mg f_Web_require_tied) :=
  fn_okM (N := N_Web_require_tied) F sc_Web_require_tied fun cdv A outer s H E hr hG => xss_one (xs_if (xt_not (xt_val (xe_meth D_Web_is_tied (hr.mono (by decide)) hG (takes_of rfl rfl rfl rfl) (xv 0) (xa_cons (xv 1) (xa_cons (xv 2) (xa_nil)))))) (xss_one (xs_raise rfl (takes_of rfl rfl rfl rfl) T.e_InvalidTie)) (xss_nil))
noncomputable abbrev N_block_with : List Str := ["web", "a", "b", "block"]
theorem sc_block_with : FnScope N_block_with ["web", "a", "b"] (defScope (top 44)) := ⟨rfl, rfl, rfl, by decide +kernel, rfl, by decide +kernel, by decide +kernel⟩
theorem ok_block_with {f : Addr} {fd : FuncData} (T : Txt P K mg) (D_Web_require_tied : MDef P w K mg base 4 "Web" "require_tied" f_Web_require_tied) (D_all_blocks : Def P w K mg base 11 "all_blocks" f_all_blocks) (D_require_web : Def P w K mg base 1 "require_web" f_require_web) (F : Fun K "block_with" "block_with" (top 44) f fd) : FnG P w K mg base (L2.CX P w) 12 f fd ["web", "a", "b"] (spM w K mg f_block_with) :=
  fn_okM (N := N_block_with) F sc_block_with fun cdv A outer s H E hr hG => xss_cons (xs_expr (xe_call D_require_web (hr.mono (by decide)) hG (takes_of rfl rfl rfl rfl) (xa_cons (xv 0) (xa_nil)))) (xss_cons (xs_expr (xe_meth D_Web_require_tied (hr.mono (by decide)) hG (takes_of rfl rfl rfl rfl) (xv 0) (xa_cons (xv 1) (xa_cons (xv 2) (xa_nil))))) (xss_one (xs_ret (xe_ixA (hr) (xe_lc rfl sc_block_with.nd (xi_tup (xe_call D_all_blocks (hr.mono (by decide)) hG (takes_of rfl rfl rfl rfl) (xa_cons (xv 0) (xa_nil)))) (own := [("block", 3)]) (blkOk_by (N := N_block_with) (sc := defScope (top 44)) (by decide +kernel)) (fun _ _ _ _ _ => xgw_name sc_block_with.nd) (fun _ _ _ _ _ => xts_one (PW.pt (xw_and (xt_in (hr) (xv 1) (xv 3)) (xw_and1 (xt_in (hr) (xv 2) (xv 3)))))) (fun _ _ _ _ _ => xv 3)) (xe_int)))))
noncomputable abbrev N_least_parting : List Str := ["web"]
theorem sc_least_parting : FnScope N_least_parting ["web"] (defScope (top 35)) := ⟨rfl, rfl, rfl, by decide +kernel, rfl, by decide +kernel, by decide +kernel⟩
theorem ok_least_parting {f : Addr} {fd : FuncData} (T : Txt P K mg) (D_require_web : Def P w K mg base 1 "require_web" f_require_web) (F : Fun K "least_parting" "least_parting" (top 35) f fd) : FnG P w K mg base (L2.CX P w) 2 f fd ["web"] (spM w K mg f_least_parting) :=
  fn_okM (N := N_least_parting) F sc_least_parting fun cdv A outer s H E hr hG => xss_cons (xs_expr (xe_call D_require_web (hr.mono (by decide)) hG (takes_of rfl rfl rfl rfl) (xa_cons (xv 0) (xa_nil)))) (xss_one (xs_never))
noncomputable abbrev N_held_level : List Str := ["web", "found"]
theorem sc_held_level : FnScope N_held_level ["web"] (defScope (top 36)) := ⟨rfl, rfl, rfl, by decide +kernel, rfl, by decide +kernel, by decide +kernel⟩
theorem ok_held_level {f : Addr} {fd : FuncData} (T : Txt P K mg) (D_least_parting : Def P w K mg base 2 "least_parting" f_least_parting) (F : Fun K "held_level" "held_level" (top 36) f fd) : FnG P w K mg base (L2.CX P w) 3 f fd ["web"] (spM w K mg f_held_level) :=
  fn_okM (N := N_held_level) F sc_held_level fun cdv A outer s H E hr hG => xss_cons (xs_set (i := 1) sc_held_level.nd (xe_call D_least_parting (hr.mono (by decide)) hG (takes_of rfl rfl rfl rfl) (xa_cons (xv 0) (xa_nil)))) (xss_one (xs_ret (xe_ifE (xt_is (xv 1) (xe_non)) (T.x_NO_PARTING) (xe_lenB T.b_len (xa_cons (xv 1) (xa_nil))))))
noncomputable abbrev N_is_held : List Str := ["web", "beside", "place", "some"]
theorem sc_is_held : FnScope N_is_held ["web"] (defScope (top 38)) := ⟨rfl, rfl, rfl, by decide +kernel, rfl, by decide +kernel, by decide +kernel⟩
theorem ok_is_held {f : Addr} {fd : FuncData} (T : Txt P K mg) (D_require_web : Def P w K mg base 1 "require_web" f_require_web) (F : Fun K "is_held" "is_held" (top 38) f fd) : FnG P w K mg base (L2.CX P w) 2 f fd ["web"] (spM w K mg f_is_held) :=
  fn_okM (N := N_is_held) F sc_is_held fun cdv A outer s H E hr hG => xss_cons (xs_expr (xe_call D_require_web (hr.mono (by decide)) hG (takes_of rfl rfl rfl rfl) (xa_cons (xv 0) (xa_nil)))) (xss_cons (xs_never) (xss_cons (xs_never) (xss_one (xs_never))))
noncomputable abbrev N_Web___contains__ : List Str := ["self", "value"]
theorem sc_Web___contains__ : FnScope N_Web___contains__ ["self", "value"] (defScope (inClass (top 22) 25)) := ⟨rfl, rfl, rfl, by decide +kernel, rfl, by decide +kernel, by decide +kernel⟩
theorem ok_Web___contains__ {f : Addr} {fd : FuncData} (T : Txt P K mg) (D_is_name : Def P w K mg base 1 "is_name" f_is_name) (D_is_tie : Def P w K mg base 4 "is_tie" f_is_tie) (F : Fun K "__contains__" "Web.__contains__" (inClass (top 22) 25) f fd) : FnG P w K mg base (L2.CX P w) 5 f fd ["self", "value"] (spM w K mg f_Web___contains__) :=
  fn_okM (N := N_Web___contains__) F sc_Web___contains__ fun cdv A outer s H E hr hG => xss_cons (xs_if (xt_val (xe_call D_is_name (hr.mono (by decide)) hG (takes_of rfl rfl rfl rfl) (xa_cons (xv 1) (xa_nil)))) (xss_one (xs_ret (xe_in (hr) (xv 1) (xe_slot T.sl_Web_own_beside (xv 0))))) (xss_nil)) (xss_one (xs_ret (xe_and (xe_call D_is_tie (hr.mono (by decide)) hG (takes_of rfl rfl rfl rfl) (xa_cons (xv 1) (xa_nil))) (xe_one (xe_in (hr) (xv 1) (xe_slot T.sl_Web_own_ties (xv 0)))))))
noncomputable abbrev N_parts_web : List Str := ["web", "places"]
theorem sc_parts_web : FnScope N_parts_web ["web", "places"] (defScope (top 31)) := ⟨rfl, rfl, rfl, by decide +kernel, rfl, by decide +kernel, by decide +kernel⟩
theorem ok_parts_web {f : Addr} {fd : FuncData} (T : Txt P K mg) (D_Web_lots_without : MDef P w K mg base 3 "Web" "lots_without" f_Web_lots_without) (F : Fun K "parts_web" "parts_web" (top 31) f fd) : FnG P w K mg base (L2.CX P w) 4 f fd ["web", "places"] (spM w K mg f_parts_web) :=
  fn_okM (N := N_parts_web) F sc_parts_web fun cdv A outer s H E hr hG => xss_one (xs_ret (xe_gt (xe_lenB T.b_len (xa_cons (xe_meth D_Web_lots_without (hr.mono (by decide)) hG (takes_of rfl rfl rfl rfl) (xv 0) (xa_cons (xv 1) (xa_nil))) (xa_nil))) (xe_int)))
noncomputable abbrev N_is_parting : List Str := ["web", "value", "place"]
theorem sc_is_parting : FnScope N_is_parting ["web", "value"] (defScope (top 32)) := ⟨rfl, rfl, rfl, by decide +kernel, rfl, by decide +kernel, by decide +kernel⟩
theorem ok_is_parting {f : Addr} {fd : FuncData} (T : Txt P K mg) (D_Web___contains__ : MDef P w K mg base 5 "Web" "__contains__" f_Web___contains__) (D_are_rising : Def P w K mg base 3 "are_rising" f_are_rising) (D_parts_web : Def P w K mg base 4 "parts_web" f_parts_web) (D_require_web : Def P w K mg base 1 "require_web" f_require_web) (F : Fun K "is_parting" "is_parting" (top 32) f fd) : FnG P w K mg base (L2.CX P w) 6 f fd ["web", "value"] (spM w K mg f_is_parting) :=
  fn_okM (N := N_is_parting) F sc_is_parting fun cdv A outer s H E hr hG => xss_cons (xs_expr (xe_call D_require_web (hr.mono (by decide)) hG (takes_of rfl rfl rfl rfl) (xa_cons (xv 0) (xa_nil)))) (xss_cons (xs_if (PW.pt (xw_or (xt_not (xt_val (xe_call D_are_rising (hr.mono (by decide)) hG (takes_of rfl rfl rfl rfl) (xa_cons (xv 1) (xa_nil))))) (xw_or (xt_gt (xe_lenB T.b_len (xa_cons (xv 1) (xa_nil))) (T.x_MOST_PARTING)) (xw_or1 (xt_not (xt_val (xe_all rfl T.b_all (xa_cons (xe_lc rfl sc_is_parting.nd (xi_tup (xv 1)) (own := [("place", 2)]) (blkOk_by (N := N_is_parting) (sc := defScope (top 32)) (by decide +kernel)) (fun _ _ _ _ _ => xgw_name sc_is_parting.nd) (fun _ _ _ _ _ => xts_nil) (fun _ _ _ _ _ => xe_ownIn D_Web___contains__ (hr.mono (by decide)) hG (takes0) (xv 2) (xv 0))) (xa_nil))))))))) (xss_one (xs_ret (xe_bl))) (xss_nil)) (xss_one (xs_ret (xe_call D_parts_web (hr.mono (by decide)) hG (takes_of rfl rfl rfl rfl) (xa_cons (xv 0) (xa_cons (xv 1) (xa_nil)))))))
noncomputable abbrev N__law_right : List Str := ["dice", "web", "none", "name", "block", "told", "word"]
theorem sc__law_right : FnScope N__law_right ["dice", "web"] (defScope (top 58)) := ⟨rfl, rfl, rfl, by decide +kernel, rfl, by decide +kernel, by decide +kernel⟩
theorem ok__law_right {f c P0 : Addr} {fd : FuncData} (T : Txt P K mg) (TL : LamT K mg base "_law_right" c P0) (D_Web_places : PDef P w K mg base 1 "Web" "places" f_Web_places) (D_Web_ties : PDef P w K mg base 1 "Web" "ties" f_Web_ties) (D__law_pick : Def P w K mg base 2 "_law_pick" f__law_pick) (D__law_word_of : ∀ k, LDef P w K mg base k "_law_word_of" N__law_word_of.length fun L gm => m__law_word_of (mAct 0 L gm)) (D_all_blocks : Def P w K mg base 11 "all_blocks" f_all_blocks) (D_all_partings : Def P w K mg base 2 "all_partings" f_all_partings) (D_block_doors : Def P w K mg base 3 "block_doors" f_block_doors) (D_block_web : Def P w K mg base 12 "block_web" f_block_web) (D_block_with : Def P w K mg base 12 "block_with" f_block_with) (D_cut_places : Def P w K mg base 2 "cut_places" f_cut_places) (D_held_level : Def P w K mg base 3 "held_level" f_held_level) (D_is_held : Def P w K mg base 2 "is_held" f_is_held) (D_is_parting : Def P w K mg base 6 "is_parting" f_is_parting) (D_least_parting : Def P w K mg base 2 "least_parting" f_least_parting) (F : FunL K "_law_right" "_law_right" (top 58) f fd c) : FnG P w K mg base (L2.CX P w) 15 f fd ["dice", "web"] (spM w K mg f__law_right) :=
  fn_okL (N := N__law_right) F sc__law_right fun A outer s H E hr hG => xss_cons (xs_set (i := 2) sc__law_right.nd (xe_call D__law_pick (hr.mono (by decide)) hG (takes_of rfl rfl rfl rfl) (xa_cons (xv 0) (xa_cons (xe_lst (xa_cons (xe_non) (xa_cons (xe_int) (xa_cons (xe_str (y := [])) (xa_cons (xe_tup (xa_nil)) (xa_cons (xe_lst (xa_nil)) (xa_cons (xe_dct0) (xa_cons (xe_prop D_Web_ties (hr.mono (by decide)) hG (xv 1)) (xa_cons (xe_prop D_Web_places (hr.mono (by decide)) hG (xv 1)) (xa_cons (xe_bl) (xa_cons (xe_str (y := [119, 101, 98])) (xa_nil)))))))))))) (xa_nil))))) (xss_cons (xs_set (i := 3) sc__law_right.nd (xe_call D__law_pick (hr.mono (by decide)) hG (takes_of rfl rfl rfl rfl) (xa_cons (xv 0) (xa_cons (xe_lst (xa_cons (xe_non) (xa_cons (xe_int) (xa_cons (xe_str (y := [])) (xa_cons (xe_str (y := [65])) (xa_cons (xe_str (y := [110, 111, 98, 111, 100, 121])) (xa_cons (xe_tup (xa_cons (xe_str (y := [97])) (xa_nil))) (xa_cons (xe_lst (xa_cons (xe_str (y := [97])) (xa_nil))) (xa_cons (xe_dct0) (xa_cons (xe_bl) (xa_nil))))))))))) (xa_nil))))) (xss_cons (xs_set (i := 4) sc__law_right.nd (xe_lst (xa_cons (xe_non) (xa_cons (xe_int) (xa_cons (xe_tup (xa_nil)) (xa_cons (xe_lst (xa_cons (xe_str (y := [97])) (xa_cons (xe_str (y := [98])) (xa_cons (xe_str (y := [99])) (xa_nil))))) (xa_cons (xe_tup (xa_cons (xe_str (y := [97])) (xa_cons (xe_str (y := [98])) (xa_nil)))) (xa_cons (xe_tup (xa_cons (xe_str (y := [99])) (xa_cons (xe_str (y := [98])) (xa_cons (xe_str (y := [97])) (xa_nil))))) (xa_cons (xe_tup (xa_cons (xe_str (y := [97])) (xa_cons (xe_str (y := [98])) (xa_cons (xe_str (y := [99])) (xa_cons (xe_str (y := [100])) (xa_nil)))))) (xa_cons (xe_dct0) (xa_cons (xe_str (y := [97, 98, 99])) (xa_nil)))))))))))) (xss_cons (xs_set (i := 4) sc__law_right.nd (xe_call D__law_pick (hr.mono (by decide)) hG (takes_of rfl rfl rfl rfl) (xa_cons (xv 0) (xa_cons (xv 4) (xa_nil))))) (xss_cons (xs_set (i := 5) sc__law_right.nd (xe_lstN (xa_cons (xe_lam (k := 6) (i := 1) (sy := LamX.lamS_by (sc := defScope (top 58)) (by decide +kernel)) (eq := (by decide +kernel : (("_law_right" : Str) ++ (".<locals>." : Str)) ++ ("<lambda>" : Str) = "_law_right.<locals>.<lambda>")) (D__law_word_of _) TL ind__law_word_of (hr.mono (by decide)) hG rfl (fun E A outer s H f c' hr hG => xe_call D_is_parting (hr.mono (by decide)) hG (takes_of rfl rfl rfl rfl) (xa_cons (xv 2) (xa_cons (xe_tup (xa_nil)) (xa_nil))))) (xa_nil)))) (xss_cons (xs_expr (xe_append (xv 5) (xa_cons (xe_lam (k := 2) (i := 1) (sy := LamX.lamS_by (sc := defScope (top 58)) (by decide +kernel)) (eq := (by decide +kernel : (("_law_right" : Str) ++ (".<locals>." : Str)) ++ ("<lambda>" : Str) = "_law_right.<locals>.<lambda>")) (D__law_word_of _) TL ind__law_word_of (hr.mono (by decide)) hG rfl (fun E A outer s H f c' hr hG => xe_call D_all_partings (hr.mono (by decide)) hG (takes_of rfl rfl rfl rfl) (xa_cons (xv 2) (xa_nil)))) (xa_nil)))) (xss_cons (xs_expr (xe_append (xv 5) (xa_cons (xe_lam (k := 2) (i := 1) (sy := LamX.lamS_by (sc := defScope (top 58)) (by decide +kernel)) (eq := (by decide +kernel : (("_law_right" : Str) ++ (".<locals>." : Str)) ++ ("<lambda>" : Str) = "_law_right.<locals>.<lambda>")) (D__law_word_of _) TL ind__law_word_of (hr.mono (by decide)) hG rfl (fun E A outer s H f c' hr hG => xe_call D_least_parting (hr.mono (by decide)) hG (takes_of rfl rfl rfl rfl) (xa_cons (xv 2) (xa_nil)))) (xa_nil)))) (xss_cons (xs_expr (xe_append (xv 5) (xa_cons (xe_lam (k := 3) (i := 1) (sy := LamX.lamS_by (sc := defScope (top 58)) (by decide +kernel)) (eq := (by decide +kernel : (("_law_right" : Str) ++ (".<locals>." : Str)) ++ ("<lambda>" : Str) = "_law_right.<locals>.<lambda>")) (D__law_word_of _) TL ind__law_word_of (hr.mono (by decide)) hG rfl (fun E A outer s H f c' hr hG => xe_call D_held_level (hr.mono (by decide)) hG (takes_of rfl rfl rfl rfl) (xa_cons (xv 2) (xa_nil)))) (xa_nil)))) (xss_cons (xs_expr (xe_append (xv 5) (xa_cons (xe_lam (k := 2) (i := 1) (sy := LamX.lamS_by (sc := defScope (top 58)) (by decide +kernel)) (eq := (by decide +kernel : (("_law_right" : Str) ++ (".<locals>." : Str)) ++ ("<lambda>" : Str) = "_law_right.<locals>.<lambda>")) (D__law_word_of _) TL ind__law_word_of (hr.mono (by decide)) hG rfl (fun E A outer s H f c' hr hG => xe_call D_is_held (hr.mono (by decide)) hG (takes_of rfl rfl rfl rfl) (xa_cons (xv 2) (xa_nil)))) (xa_nil)))) (xss_cons (xs_expr (xe_append (xv 5) (xa_cons (xe_lam (k := 2) (i := 1) (sy := LamX.lamS_by (sc := defScope (top 58)) (by decide +kernel)) (eq := (by decide +kernel : (("_law_right" : Str) ++ (".<locals>." : Str)) ++ ("<lambda>" : Str) = "_law_right.<locals>.<lambda>")) (D__law_word_of _) TL ind__law_word_of (hr.mono (by decide)) hG rfl (fun E A outer s H f c' hr hG => xe_call D_cut_places (hr.mono (by decide)) hG (takes_of rfl rfl rfl rfl) (xa_cons (xv 2) (xa_nil)))) (xa_nil)))) (xss_cons (xs_expr (xe_append (xv 5) (xa_cons (xe_lam (k := 11) (i := 1) (sy := LamX.lamS_by (sc := defScope (top 58)) (by decide +kernel)) (eq := (by decide +kernel : (("_law_right" : Str) ++ (".<locals>." : Str)) ++ ("<lambda>" : Str) = "_law_right.<locals>.<lambda>")) (D__law_word_of _) TL ind__law_word_of (hr.mono (by decide)) hG rfl (fun E A outer s H f c' hr hG => xe_call D_all_blocks (hr.mono (by decide)) hG (takes_of rfl rfl rfl rfl) (xa_cons (xv 2) (xa_nil)))) (xa_nil)))) (xss_cons (xs_expr (xe_append (xv 5) (xa_cons (xe_lam (k := 12) (i := 1) (sy := LamX.lamS_by (sc := defScope (top 58)) (by decide +kernel)) (eq := (by decide +kernel : (("_law_right" : Str) ++ (".<locals>." : Str)) ++ ("<lambda>" : Str) = "_law_right.<locals>.<lambda>")) (D__law_word_of _) TL ind__law_word_of (hr.mono (by decide)) hG rfl (fun E A outer s H f c' hr hG => xe_call D_block_with (hr.mono (by decide)) hG (takes_of rfl rfl rfl rfl) (xa_cons (xv 2) (xa_cons (xv 3) (xa_cons (xv 3) (xa_nil)))))) (xa_nil)))) (xss_cons (xs_expr (xe_append (xv 5) (xa_cons (xe_lam (k := 12) (i := 1) (sy := LamX.lamS_by (sc := defScope (top 58)) (by decide +kernel)) (eq := (by decide +kernel : (("_law_right" : Str) ++ (".<locals>." : Str)) ++ ("<lambda>" : Str) = "_law_right.<locals>.<lambda>")) (D__law_word_of _) TL ind__law_word_of (hr.mono (by decide)) hG rfl (fun E A outer s H f c' hr hG => xe_call D_block_web (hr.mono (by decide)) hG (takes_of rfl rfl rfl rfl) (xa_cons (xv 2) (xa_cons (xv 4) (xa_nil))))) (xa_nil)))) (xss_cons (xs_expr (xe_append (xv 5) (xa_cons (xe_lam (k := 3) (i := 1) (sy := LamX.lamS_by (sc := defScope (top 58)) (by decide +kernel)) (eq := (by decide +kernel : (("_law_right" : Str) ++ (".<locals>." : Str)) ++ ("<lambda>" : Str) = "_law_right.<locals>.<lambda>")) (D__law_word_of _) TL ind__law_word_of (hr.mono (by decide)) hG rfl (fun E A outer s H f c' hr hG => xe_call D_block_doors (hr.mono (by decide)) hG (takes_of rfl rfl rfl rfl) (xa_cons (xv 2) (xa_nil)))) (xa_nil)))) (xss_cons (xs_expr (xe_append (xv 5) (xa_cons (xe_lam (k := 12) (i := 1) (sy := LamX.lamS_by (sc := defScope (top 58)) (by decide +kernel)) (eq := (by decide +kernel : (("_law_right" : Str) ++ (".<locals>." : Str)) ++ ("<lambda>" : Str) = "_law_right.<locals>.<lambda>")) (D__law_word_of _) TL ind__law_word_of (hr.mono (by decide)) hG rfl (fun E A outer s H f c' hr hG => xe_call D_block_with (hr.mono (by decide)) hG (takes_of rfl rfl rfl rfl) (xa_cons (xv 1) (xa_cons (xv 3) (xa_cons (xe_str (y := [110, 111, 119, 104, 101, 114, 101])) (xa_nil)))))) (xa_nil)))) (xss_cons (xs_expr (xe_append (xv 5) (xa_cons (xe_lam (k := 12) (i := 1) (sy := LamX.lamS_by (sc := defScope (top 58)) (by decide +kernel)) (eq := (by decide +kernel : (("_law_right" : Str) ++ (".<locals>." : Str)) ++ ("<lambda>" : Str) = "_law_right.<locals>.<lambda>")) (D__law_word_of _) TL ind__law_word_of (hr.mono (by decide)) hG rfl (fun E A outer s H f c' hr hG => xe_call D_block_with (hr.mono (by decide)) hG (takes_of rfl rfl rfl rfl) (xa_cons (xv 1) (xa_cons (xe_str (y := [97])) (xa_cons (xv 3) (xa_nil)))))) (xa_nil)))) (xss_cons (xs_expr (xe_append (xv 5) (xa_cons (xe_lam (k := 12) (i := 1) (sy := LamX.lamS_by (sc := defScope (top 58)) (by decide +kernel)) (eq := (by decide +kernel : (("_law_right" : Str) ++ (".<locals>." : Str)) ++ ("<lambda>" : Str) = "_law_right.<locals>.<lambda>")) (D__law_word_of _) TL ind__law_word_of (hr.mono (by decide)) hG rfl (fun E A outer s H f c' hr hG => xe_call D_block_with (hr.mono (by decide)) hG (takes_of rfl rfl rfl rfl) (xa_cons (xv 1) (xa_cons (xe_str (y := [97])) (xa_cons (xe_str (y := [101])) (xa_nil)))))) (xa_nil)))) (xss_cons (xs_expr (xe_append (xv 5) (xa_cons (xe_lam (k := 12) (i := 1) (sy := LamX.lamS_by (sc := defScope (top 58)) (by decide +kernel)) (eq := (by decide +kernel : (("_law_right" : Str) ++ (".<locals>." : Str)) ++ ("<lambda>" : Str) = "_law_right.<locals>.<lambda>")) (D__law_word_of _) TL ind__law_word_of (hr.mono (by decide)) hG rfl (fun E A outer s H f c' hr hG => xe_call D_block_with (hr.mono (by decide)) hG (takes_of rfl rfl rfl rfl) (xa_cons (xv 1) (xa_cons (xe_str (y := [97])) (xa_cons (xe_str (y := [97])) (xa_nil)))))) (xa_nil)))) (xss_cons (xs_expr (xe_append (xv 5) (xa_cons (xe_lam (k := 12) (i := 1) (sy := LamX.lamS_by (sc := defScope (top 58)) (by decide +kernel)) (eq := (by decide +kernel : (("_law_right" : Str) ++ (".<locals>." : Str)) ++ ("<lambda>" : Str) = "_law_right.<locals>.<lambda>")) (D__law_word_of _) TL ind__law_word_of (hr.mono (by decide)) hG rfl (fun E A outer s H f c' hr hG => xe_call D_block_web (hr.mono (by decide)) hG (takes_of rfl rfl rfl rfl) (xa_cons (xv 1) (xa_cons (xv 4) (xa_nil))))) (xa_nil)))) (xss_cons (xs_expr (xe_append (xv 5) (xa_cons (xe_lam (k := 12) (i := 1) (sy := LamX.lamS_by (sc := defScope (top 58)) (by decide +kernel)) (eq := (by decide +kernel : (("_law_right" : Str) ++ (".<locals>." : Str)) ++ ("<lambda>" : Str) = "_law_right.<locals>.<lambda>")) (D__law_word_of _) TL ind__law_word_of (hr.mono (by decide)) hG rfl (fun E A outer s H f c' hr hG => xe_call D_block_with (hr.mono (by decide)) hG (takes_of rfl rfl rfl rfl) (xa_cons (xv 1) (xa_cons (xe_str (y := [98])) (xa_cons (xe_str (y := [97])) (xa_nil)))))) (xa_nil)))) (xss_cons (xs_expr (xe_append (xv 5) (xa_cons (xe_lam (k := 6) (i := 1) (sy := LamX.lamS_by (sc := defScope (top 58)) (by decide +kernel)) (eq := (by decide +kernel : (("_law_right" : Str) ++ (".<locals>." : Str)) ++ ("<lambda>" : Str) = "_law_right.<locals>.<lambda>")) (D__law_word_of _) TL ind__law_word_of (hr.mono (by decide)) hG rfl (fun E A outer s H f c' hr hG => xe_call D_is_parting (hr.mono (by decide)) hG (takes_of rfl rfl rfl rfl) (xa_cons (xv 1) (xa_cons (xv 2) (xa_nil))))) (xa_nil)))) (xss_cons (xs_set (i := 6) sc__law_right.nd (xe_add (xe_str (y := [117, 110, 107, 110, 111, 119, 110, 32])) (xe_repr hG hr.units T.b_repr (xa_cons (xv 3) (xa_nil))))) (xss_one (xs_ret (xe_eq (hr) (xv 5) (xe_add (xe_mulB (xe_lst (xa_cons (xe_str (y := [119, 101, 98])) (xa_nil))) (xe_int)) (xe_lst (xa_cons (xv 6) (xa_cons (xv 6) (xa_cons (xe_str (y := [116, 105, 101])) (xa_cons (xe_str (y := [116, 105, 101])) (xa_cons (xe_str (y := [112, 97, 114, 116])) (xa_cons (xe_str (y := [102, 105, 110, 101])) (xa_cons (xe_str (y := [102, 105, 110, 101])) (xa_nil))))))))))))))))))))))))))))))))))
noncomputable abbrev N__law_tie : List Str := ["a", "b"]
theorem sc__law_tie : FnScope N__law_tie ["a", "b"] (defScope (top 51)) := ⟨rfl, rfl, rfl, by decide +kernel, rfl, by decide +kernel, by decide +kernel⟩
theorem ok__law_tie {f : Addr} {fd : FuncData} (T : Txt P K mg)  (F : Fun K "_law_tie" "_law_tie" (top 51) f fd) : FnG P w K mg base (L2.CX P w) 1 f fd ["a", "b"] (spM w K mg f__law_tie) :=
  fn_okM (N := N__law_tie) F sc__law_tie fun cdv A outer s H E hr hG => xss_one (xs_ret (xe_tup (xa_cons (xe_minB rfl T.b_min (xa_cons (xv 0) (xa_cons (xv 1) (xa_nil)))) (xa_cons (xe_maxB rfl T.b_max (xa_cons (xv 0) (xa_cons (xv 1) (xa_nil)))) (xa_nil)))))
noncomputable abbrev N__law_pairs : List Str := ["places", "found", "at", "other"]
theorem sc__law_pairs : FnScope N__law_pairs ["places"] (defScope (top 54)) := ⟨rfl, rfl, rfl, by decide +kernel, rfl, by decide +kernel, by decide +kernel⟩
theorem ok__law_pairs {f : Addr} {fd : FuncData} (T : Txt P K mg) (D__law_tie : Def P w K mg base 1 "_law_tie" f__law_tie) (F : Fun K "_law_pairs" "_law_pairs" (top 54) f fd) : FnG P w K mg base (L2.CX P w) 2 f fd ["places"] (spM w K mg f__law_pairs) :=
  fn_okM (N := N__law_pairs) F sc__law_pairs fun cdv A outer s H E hr hG => xss_cons (xs_set (i := 1) sc__law_pairs.nd (xe_lstN (xa_nil))) (xss_cons (xs_for (passes_of rfl) rfl (xi_range1 T.b_range (xa_cons (xe_lenB T.b_len (xa_cons (xv 0) (xa_nil))) (xa_nil))) (xg_name (i := 2) sc__law_pairs.nd) (xss_one (xs_expr (xe_extend (xv 1) (xa_cons (xe_lc rfl sc__law_pairs.nd (xi_list (xe_slice (xv 0) (xo_some (xe_add (xv 2) (xe_int))) (xo_none))) (own := [("other", 3)]) (blkOk_by (N := N__law_pairs) (sc := defScope (top 54)) (by decide +kernel)) (fun _ _ _ _ _ => xgw_name sc__law_pairs.nd) (fun _ _ _ _ _ => xts_nil) (fun _ _ _ _ _ => xe_call D__law_tie (hr.mono (by decide)) hG (takes0) (xa_cons (xe_ixA (hr) (xv 0) (xv 2)) (xa_cons (xv 3) (xa_nil))))) (xa_nil)))))) (xss_one (xs_ret (xe_sortC rfl T.b_sorted (xa_cons (xv 1) (xa_nil))))))
noncomputable abbrev N__law_plain : List Str := ["places", "ties", "found", "a", "b"]
theorem sc__law_plain : FnScope N__law_plain ["places", "ties"] (defScope (top 52)) := ⟨rfl, rfl, rfl, by decide +kernel, rfl, by decide +kernel, by decide +kernel⟩
theorem ok__law_plain {f : Addr} {fd : FuncData} (T : Txt P K mg) (D__law_tie : Def P w K mg base 1 "_law_tie" f__law_tie) (F : Fun K "_law_plain" "_law_plain" (top 52) f fd) : FnG P w K mg base (L2.CX P w) 2 f fd ["places", "ties"] (spM w K mg f__law_plain) :=
  fn_okM (N := N__law_plain) F sc__law_plain fun cdv A outer s H E hr hG => xss_cons (xs_set (i := 2) sc__law_plain.nd (xe_listN T.b_list (xa_cons (xv 0) (xa_nil)))) (xss_cons (xs_for (passes_of rfl) rfl (xi_list (xv 1)) (xg_tup (n := 2) rfl (xgs_cons (xg_name (i := 3) sc__law_plain.nd) (xgs_cons (xg_name (i := 4) sc__law_plain.nd) (xgs_nil)))) (xss_one (xs_expr (xe_extend (xv 2) (xa_cons (xe_lst (xa_cons (xv 3) (xa_cons (xv 4) (xa_nil)))) (xa_nil)))))) (xss_one (xs_ret (xe_dct (.cons (xe_str (y := [112, 108, 97, 99, 101, 115])) (xe_sortC rfl T.b_sorted (xa_cons (xe_setB rfl hr.units T.b_set (xa_cons (xv 2) (xa_nil))) (xa_nil))) (.cons (xe_str (y := [116, 105, 101, 115])) (xe_sortC rfl T.b_sorted (xa_cons (xe_setB rfl hr.units T.b_set (xa_cons (xe_lc rfl sc__law_plain.nd (xi_list (xv 1)) (own := [("a", 3), ("b", 4)]) (blkOk_by (N := N__law_plain) (sc := defScope (top 52)) (by decide +kernel)) (fun _ _ _ _ _ => xgw_tup (n := 2) rfl (xgsw_cons (xgw_name sc__law_plain.nd) (xgsw_cons (xgw_name sc__law_plain.nd) (xgsw_nil)))) (fun _ _ _ _ _ => xts_nil) (fun _ _ _ _ _ => xe_call D__law_tie (hr.mono (by decide)) hG (takes0) (xa_cons (xv 3) (xa_cons (xv 4) (xa_nil))))) (xa_nil))) (xa_nil))) (.nil)))))))
noncomputable abbrev N__law_wheel : List Str := ["hub", "ring", "ties", "place", "at"]
theorem sc__law_wheel : FnScope N__law_wheel ["hub", "ring"] (defScope (top 55)) := ⟨rfl, rfl, rfl, by decide +kernel, rfl, by decide +kernel, by decide +kernel⟩
theorem ok__law_wheel {f : Addr} {fd : FuncData} (T : Txt P K mg) (D__law_plain : Def P w K mg base 2 "_law_plain" f__law_plain) (F : Fun K "_law_wheel" "_law_wheel" (top 55) f fd) : FnG P w K mg base (L2.CX P w) 3 f fd ["hub", "ring"] (spM w K mg f__law_wheel) :=
  fn_okM (N := N__law_wheel) F sc__law_wheel fun cdv A outer s H E hr hG => xss_cons (xs_setLc (i := 2) rfl sc__law_wheel.nd (xi_tup (xv 1)) (own := [("place", 3)]) (blkOk_by (N := N__law_wheel) (sc := defScope (top 55)) (by decide +kernel)) (fun _ _ _ _ _ => xgw_name sc__law_wheel.nd) (fun _ _ _ _ _ => xts_nil) (fun _ _ _ _ _ => xe_tup (xa_cons (xv 0) (xa_cons (xv 3) (xa_nil))))) (xss_one (xs_ret (xe_call D__law_plain (hr.mono (by decide)) hG (takes_of rfl rfl rfl rfl) (xa_cons (xe_lst (xa_nil)) (xa_cons (xe_add (xv 2) (xe_lc rfl sc__law_wheel.nd (xi_range1 T.b_range (xa_cons (xe_lenB T.b_len (xa_cons (xv 1) (xa_nil))) (xa_nil))) (own := [("at", 4)]) (blkOk_by (N := N__law_wheel) (sc := defScope (top 55)) (by decide +kernel)) (fun _ _ _ _ _ => xgw_name sc__law_wheel.nd) (fun _ _ _ _ _ => xts_nil) (fun _ _ _ _ _ => xe_tup (xa_cons (xe_ixA (hr) (xv 1) (xv 4)) (xa_cons (xe_ixA (hr) (xv 1) (xe_sub (xv 4) (xe_int))) (xa_nil)))))) (xa_nil))))))
noncomputable abbrev N__law_written : List Str := ["way", "ties"]
theorem sc__law_written : FnScope N__law_written ["way"] (defScope (top 56)) := ⟨rfl, rfl, rfl, by decide +kernel, rfl, by decide +kernel, by decide +kernel⟩
theorem ok__law_written {f : Addr} {fd : FuncData} (T : Txt P K mg) (D__law_pairs : Def P w K mg base 2 "_law_pairs" f__law_pairs) (D__law_plain : Def P w K mg base 2 "_law_plain" f__law_plain) (D__law_wheel : Def P w K mg base 3 "_law_wheel" f__law_wheel) (F : Fun K "_law_written" "_law_written" (top 56) f fd) : FnG P w K mg base (L2.CX P w) 4 f fd ["way"] (spM w K mg f__law_written) :=
  fn_okM (N := N__law_written) F sc__law_written fun cdv A outer s H E hr hG => xss_cons (xs_if (xt_eq (hr) (xv 0) (xe_int)) (xss_one (xs_ret (xe_call D__law_wheel (hr.mono (by decide)) hG (takes_of rfl rfl rfl rfl) (xa_cons (xe_str (y := [104])) (xa_cons (xe_tup (xa_cons (xe_str (y := [97])) (xa_cons (xe_str (y := [98])) (xa_cons (xe_str (y := [99])) (xa_cons (xe_str (y := [100])) (xa_nil)))))) (xa_nil)))))) (xss_nil)) (xss_cons (xs_if (xt_eq (hr) (xv 0) (xe_int)) (xss_cons (xs_set (i := 1) sc__law_written.nd (xe_lst (xa_cons (xe_tup (xa_cons (xe_str (y := [97])) (xa_cons (xe_str (y := [98])) (xa_nil)))) (xa_cons (xe_tup (xa_cons (xe_str (y := [97])) (xa_cons (xe_str (y := [99])) (xa_nil)))) (xa_cons (xe_tup (xa_cons (xe_str (y := [98])) (xa_cons (xe_str (y := [99])) (xa_nil)))) (xa_cons (xe_tup (xa_cons (xe_str (y := [100])) (xa_cons (xe_str (y := [101])) (xa_nil)))) (xa_cons (xe_tup (xa_cons (xe_str (y := [100])) (xa_cons (xe_str (y := [102])) (xa_nil)))) (xa_cons (xe_tup (xa_cons (xe_str (y := [101])) (xa_cons (xe_str (y := [102])) (xa_nil)))) (xa_nil))))))))) (xss_one (xs_ret (xe_call D__law_plain (hr.mono (by decide)) hG (takes_of rfl rfl rfl rfl) (xa_cons (xe_lst (xa_nil)) (xa_cons (xe_add (xv 1) (xe_lst (xa_cons (xe_tup (xa_cons (xe_str (y := [97])) (xa_cons (xe_str (y := [100])) (xa_nil)))) (xa_cons (xe_tup (xa_cons (xe_str (y := [98])) (xa_cons (xe_str (y := [101])) (xa_nil)))) (xa_cons (xe_tup (xa_cons (xe_str (y := [99])) (xa_cons (xe_str (y := [102])) (xa_nil)))) (xa_nil)))))) (xa_nil))))))) (xss_nil)) (xss_cons (xs_if (xt_eq (hr) (xv 0) (xe_int)) (xss_one (xs_ret (xe_call D__law_plain (hr.mono (by decide)) hG (takes_of rfl rfl rfl rfl) (xa_cons (xe_lst (xa_nil)) (xa_cons (xe_call D__law_pairs (hr.mono (by decide)) hG (takes_of rfl rfl rfl rfl) (xa_cons (xe_lst (xa_cons (xe_str (y := [97])) (xa_cons (xe_str (y := [98])) (xa_cons (xe_str (y := [99])) (xa_cons (xe_str (y := [100])) (xa_cons (xe_str (y := [101])) (xa_nil))))))) (xa_nil))) (xa_nil)))))) (xss_nil)) (xss_cons (xs_if (xt_eq (hr) (xv 0) (xe_int)) (xss_one (xs_ret (xe_call D__law_plain (hr.mono (by decide)) hG (takes_of rfl rfl rfl rfl) (xa_cons (xe_lst (xa_nil)) (xa_cons (xe_add (xe_call D__law_pairs (hr.mono (by decide)) hG (takes_of rfl rfl rfl rfl) (xa_cons (xe_lst (xa_cons (xe_str (y := [97])) (xa_cons (xe_str (y := [98])) (xa_cons (xe_str (y := [99])) (xa_cons (xe_str (y := [100])) (xa_nil)))))) (xa_nil))) (xe_call D__law_pairs (hr.mono (by decide)) hG (takes_of rfl rfl rfl rfl) (xa_cons (xe_lst (xa_cons (xe_str (y := [97])) (xa_cons (xe_str (y := [98])) (xa_cons (xe_str (y := [101])) (xa_cons (xe_str (y := [102])) (xa_nil)))))) (xa_nil)))) (xa_nil)))))) (xss_nil)) (xss_cons (xs_if (xt_eq (hr) (xv 0) (xe_int)) (xss_cons (xs_set (i := 1) sc__law_written.nd (xe_lst (xa_cons (xe_tup (xa_cons (xe_str (y := [97])) (xa_cons (xe_str (y := [100])) (xa_nil)))) (xa_cons (xe_tup (xa_cons (xe_str (y := [97])) (xa_cons (xe_str (y := [101])) (xa_nil)))) (xa_cons (xe_tup (xa_cons (xe_str (y := [97])) (xa_cons (xe_str (y := [102])) (xa_nil)))) (xa_cons (xe_tup (xa_cons (xe_str (y := [98])) (xa_cons (xe_str (y := [100])) (xa_nil)))) (xa_cons (xe_tup (xa_cons (xe_str (y := [98])) (xa_cons (xe_str (y := [101])) (xa_nil)))) (xa_cons (xe_tup (xa_cons (xe_str (y := [98])) (xa_cons (xe_str (y := [102])) (xa_nil)))) (xa_nil))))))))) (xss_one (xs_ret (xe_call D__law_plain (hr.mono (by decide)) hG (takes_of rfl rfl rfl rfl) (xa_cons (xe_lst (xa_nil)) (xa_cons (xe_add (xv 1) (xe_lst (xa_cons (xe_tup (xa_cons (xe_str (y := [99])) (xa_cons (xe_str (y := [100])) (xa_nil)))) (xa_cons (xe_tup (xa_cons (xe_str (y := [99])) (xa_cons (xe_str (y := [101])) (xa_nil)))) (xa_cons (xe_tup (xa_cons (xe_str (y := [99])) (xa_cons (xe_str (y := [102])) (xa_nil)))) (xa_nil)))))) (xa_nil))))))) (xss_nil)) (xss_cons (xs_if (xt_eq (hr) (xv 0) (xe_int)) (xss_one (xs_ret (xe_call D__law_plain (hr.mono (by decide)) hG (takes_of rfl rfl rfl rfl) (xa_cons (xe_lst (xa_nil)) (xa_cons (xe_lst (xa_cons (xe_tup (xa_cons (xe_str (y := [97])) (xa_cons (xe_str (y := [98])) (xa_nil)))) (xa_cons (xe_tup (xa_cons (xe_str (y := [98])) (xa_cons (xe_str (y := [99])) (xa_nil)))) (xa_cons (xe_tup (xa_cons (xe_str (y := [99])) (xa_cons (xe_str (y := [100])) (xa_nil)))) (xa_cons (xe_tup (xa_cons (xe_str (y := [100])) (xa_cons (xe_str (y := [101])) (xa_nil)))) (xa_cons (xe_tup (xa_cons (xe_str (y := [97])) (xa_cons (xe_str (y := [101])) (xa_nil)))) (xa_cons (xe_tup (xa_cons (xe_str (y := [97])) (xa_cons (xe_str (y := [99])) (xa_nil)))) (xa_nil)))))))) (xa_nil)))))) (xss_nil)) (xss_cons (xs_if (xt_eq (hr) (xv 0) (xe_int)) (xss_one (xs_ret (xe_call D__law_plain (hr.mono (by decide)) hG (takes_of rfl rfl rfl rfl) (xa_cons (xe_lst (xa_nil)) (xa_cons (xe_add (xe_add (xe_call D__law_pairs (hr.mono (by decide)) hG (takes_of rfl rfl rfl rfl) (xa_cons (xe_lst (xa_cons (xe_str (y := [97])) (xa_cons (xe_str (y := [98])) (xa_cons (xe_str (y := [99])) (xa_nil))))) (xa_nil))) (xe_call D__law_pairs (hr.mono (by decide)) hG (takes_of rfl rfl rfl rfl) (xa_cons (xe_lst (xa_cons (xe_str (y := [99])) (xa_cons (xe_str (y := [100])) (xa_cons (xe_str (y := [101])) (xa_nil))))) (xa_nil)))) (xe_lst (xa_cons (xe_tup (xa_cons (xe_str (y := [101])) (xa_cons (xe_str (y := [102])) (xa_nil)))) (xa_nil)))) (xa_nil)))))) (xss_nil)) (xss_one (xs_ret (xe_call D__law_plain (hr.mono (by decide)) hG (takes_of rfl rfl rfl rfl) (xa_cons (xe_lst (xa_cons (xe_str (y := [111, 110, 108, 121])) (xa_nil))) (xa_cons (xe_lst (xa_nil)) (xa_nil))))))))))))
noncomputable abbrev N_law : List Str := ["script", "bow", "spot", "dice", "turn"]
theorem sc_law : FnScope N_law ["script"] (defScope (top 59)) := ⟨rfl, rfl, rfl, by decide +kernel, rfl, by decide +kernel, by decide +kernel⟩
theorem ok_law {f : Addr} {fd : FuncData} (T : Txt P K mg) (D__law_dice : Def P w K mg base 1 "_law_dice" f__law_dice) (D__law_made : Def P w K mg base 8 "_law_made" f__law_made) (D__law_right : Def P w K mg base 15 "_law_right" f__law_right) (D__law_written : Def P w K mg base 4 "_law_written" f__law_written) (F : Fun K "law" "law" (top 59) f fd) : FnG P w K mg base (L2.CX P w) 16 f fd ["script"] (spM w K mg f_law) :=
  fn_okM (N := N_law) F sc_law fun cdv A outer s H E hr hG => xss_cons (xs_set (i := 1) sc_law.nd (xe_call D__law_made (hr.mono (by decide)) hG (takes_of rfl rfl rfl rfl) (xa_cons (xe_call D__law_written (hr.mono (by decide)) hG (takes_of rfl rfl rfl rfl) (xa_cons (xe_int) (xa_nil))) (xa_nil)))) (xss_cons (xs_for (passes_of rfl) rfl (xi_range1 T.b_range (xa_cons (xe_max2 rfl T.b_max (xa_cons (xe_int) (xa_cons (xe_min2 rfl T.b_min (xa_cons (xe_int) (xa_cons (xe_lenB T.b_len (xa_cons (xv 0) (xa_nil))) (xa_nil)))) (xa_nil)))) (xa_nil))) (xg_name (i := 2) sc_law.nd) (xss_cons (xs_set (i := 3) sc_law.nd (xe_call D__law_dice (hr.mono (by decide)) hG (takes_of rfl rfl rfl rfl) (xa_cons (xv 0) (xa_cons (xv 2) (xa_nil))))) (xss_one (xs_for (passes_of rfl) rfl (xi_range1 T.b_range (xa_cons (xe_int) (xa_nil))) (xg_name (i := 4) sc_law.nd) (xss_one (xs_if (xt_not (xt_val (xe_call D__law_right (hr.mono (by decide)) hG (takes_of rfl rfl rfl rfl) (xa_cons (xv 3) (xa_cons (xv 1) (xa_nil)))))) (xss_one (xs_ret (xe_bl))) (xss_nil))))))) (xss_one (xs_ret (xe_bl))))
set_option linter.unusedVariables false in
set_option maxHeartbeats 0 in
theorem all_mk {l : PySem.W.OpenLaw} {w : World} {K : PySem.W.Frag} {h : Heap} {mg : Str → Option Value} {fa f0 f1 f2 f3 f4 f5 f6 f7 f8 f9 f10 f11 f12 f13 f14 f15 f16 f17 f18 f19 f20 f21 f22 f23 f24 f25 f26 f27 f28 f29 f30 f31 f32 f33 f34 f35 f36 f37 f38 f39 f40 f41 f42 f43 f44 : Addr} (X : K.In h) (G : h.Ns mainGlobals mg) (hfa : mg "law" = some (.ref fa))
    {od0 an0 od1 an1 od2 an2 od3 an3 od4 an4 od5 an5 od6 an6 od7 an7 od8 an8 od9 an9 od10 an10 od11 an11 od12 an12 od13 an13 od14 an14 od15 an15 od16 an16 od17 an17 od18 an18 od19 an19 od20 an20 od21 an21 od22 an22 od23 an23 od24 an24 od25 an25 od26 an26 od27 an27 od28 an28 od29 an29 od30 an30 od31 an31 od32 an32 od33 an33 od34 an34 od35 an35 od36 an36 od37 an37 od38 an38 od39 an39 od40 an40 od41 an41 od42 an42 od43 an43 od44 an44 : Option Addr} {sl0 sl1 sl2 sl3 sl4 sl5 sl6 sl7 sl8 sl9 sl10 sl11 sl12 sl13 sl14 sl15 sl16 sl17 sl18 sl19 sl20 sl21 sl22 sl23 sl24 sl25 sl26 sl27 sl28 sl29 sl30 sl31 sl32 sl33 sl34 sl35 sl36 sl37 sl38 sl39 sl40 sl41 sl42 sl43 sl44 : Array (Option Value)} {oc0 kV0 dc0 pm0 ct0 cd0 oc1 kV1 dc1 pm1 ct1 cd1 oc2 kV2 dc2 pm2 ct2 cd2 oc3 kV3 dc3 pm3 ct3 cd3 oc4 kV4 dc4 pm4 ct4 cd4 oc5 kV5 dc5 pm5 ct5 cd5 oc6 kV6 dc6 pm6 ct6 cd6 oc7 kV7 dc7 pm7 ct7 cd7 oc8 kV8 dc8 pm8 ct8 cd8 oc9 kV9 dc9 pm9 ct9 cd9 oc10 kV10 dc10 pm10 ct10 cd10 oc11 kV11 dc11 pm11 ct11 cd11 oc12 kV12 dc12 pm12 ct12 cd12 oc13 kV13 dc13 pm13 ct13 cd13 oc14 kV14 dc14 pm14 ct14 cd14 oc15 kV15 dc15 pm15 ct15 cd15 oc16 kV16 dc16 pm16 ct16 cd16 oc17 kV17 dc17 pm17 ct17 cd17 oc18 kV18 dc18 pm18 ct18 cd18 oc19 kV19 dc19 pm19 ct19 cd19 oc20 kV20 dc20 pm20 ct20 cd20 oc21 kV21 dc21 pm21 ct21 cd21 oc22 kV22 dc22 pm22 ct22 oc23 kV23 dc23 pm23 ct23 cd23 oc24 kV24 dc24 pm24 ct24 cd24 oc25 kV25 dc25 pm25 ct25 cd25 oc26 kV26 dc26 pm26 ct26 cd26 oc27 kV27 dc27 pm27 ct27 cd27 oc28 kV28 dc28 pm28 ct28 cd28 oc29 kV29 dc29 pm29 ct29 cd29 oc30 kV30 dc30 pm30 ct30 cd30 oc31 kV31 dc31 pm31 ct31 cd31 oc32 kV32 dc32 pm32 ct32 cd32 oc33 kV33 dc33 pm33 ct33 cd33 oc34 kV34 dc34 pm34 ct34 cd34 oc35 kV35 dc35 pm35 ct35 cd35 oc36 kV36 dc36 pm36 ct36 cd36 oc37 kV37 dc37 pm37 ct37 cd37 oc38 kV38 dc38 pm38 ct38 oc39 kV39 dc39 pm39 ct39 cd39 oc40 kV40 dc40 pm40 ct40 cd40 oc41 kV41 dc41 pm41 ct41 cd41 oc42 kV42 dc42 pm42 ct42 cd42 oc43 kV43 dc43 pm43 ct43 cd43 oc44 kV44 dc44 pm44 ct44 cd44 : Value} {cd22 PT22 cd38 PT38 : Addr} {t_LETTERS t_MAX_LETTERS t_MAX_PLACES t_MAX_TIES t_MOST_PARTING t_NO_PARTING : Tok} {E_InvalidOperation E_InvalidPart E_InvalidTie E_InvalidWeb E_UnknownName E_Walk E_Web : Addr} {fI_UnknownName cc_UnknownName cda_UnknownName : Addr} {od_UnknownName cdd_UnknownName cld_UnknownName an_UnknownName : Option Addr} {osl_UnknownName ccs_UnknownName csl_UnknownName : Array (Option Value)} {kV_UnknownName doc_UnknownName pm_UnknownName ct_UnknownName ccl_UnknownName cl_UnknownName : Value} {vs_UnknownName : Array Value} {file_UnknownName : Str} {tf_UnknownName : Tok} {S_Web_own_beside S_Web_own_lots S_Web_own_places S_Web_own_ties : Addr} {P_11 P_12 P_16 : Addr} {rest11 rest12 rest16 : List Value}
    (a0 : PySem.W.nsIn K mainGlobals "_law_dice" = some (some (.ref f0))) (l0 : K.lookup f0 = some ⟨oc0, od0, .func (PySem.W.fnOf "_law_dice" "_law_dice" (defArgs (top 48)) (defBody (top 48)) (defScope (top 48)) .none kV0 dc0 pm0 an0 cd0 ct0), sl0⟩) (c0 : PySem.W.codeIn K cd0 "_law_dice" = true) (k0 : PySem.W.keepIn K (.ref f0) = true)
    (a1 : PySem.W.nsIn K mainGlobals "is_name" = some (some (.ref f1))) (l1 : K.lookup f1 = some ⟨oc1, od1, .func (PySem.W.fnOf "is_name" "is_name" (defArgs (top 12)) (defBody (top 12)) (defScope (top 12)) .none kV1 dc1 pm1 an1 cd1 ct1), sl1⟩) (c1 : PySem.W.codeIn K cd1 "is_name" = true) (k1 : PySem.W.keepIn K (.ref f1) = true)
    (a2 : PySem.W.nsIn K mainGlobals "are_names" = some (some (.ref f2))) (l2 : K.lookup f2 = some ⟨oc2, od2, .func (PySem.W.fnOf "are_names" "are_names" (defArgs (top 13)) (defBody (top 13)) (defScope (top 13)) .none kV2 dc2 pm2 an2 cd2 ct2), sl2⟩) (c2 : PySem.W.codeIn K cd2 "are_names" = true) (k2 : PySem.W.keepIn K (.ref f2) = true)
    (a3 : PySem.W.nsIn K mainGlobals "are_rising" = some (some (.ref f3))) (l3 : K.lookup f3 = some ⟨oc3, od3, .func (PySem.W.fnOf "are_rising" "are_rising" (defArgs (top 14)) (defBody (top 14)) (defScope (top 14)) .none kV3 dc3 pm3 an3 cd3 ct3), sl3⟩) (c3 : PySem.W.codeIn K cd3 "are_rising" = true) (k3 : PySem.W.keepIn K (.ref f3) = true)
    (a4 : PySem.W.nsIn K mainGlobals "is_tie" = some (some (.ref f4))) (l4 : K.lookup f4 = some ⟨oc4, od4, .func (PySem.W.fnOf "is_tie" "is_tie" (defArgs (top 18)) (defBody (top 18)) (defScope (top 18)) .none kV4 dc4 pm4 an4 cd4 ct4), sl4⟩) (c4 : PySem.W.codeIn K cd4 "is_tie" = true) (k4 : PySem.W.keepIn K (.ref f4) = true)
    (a5 : PySem.W.nsIn K mainGlobals "are_parts" = some (some (.ref f5))) (l5 : K.lookup f5 = some ⟨oc5, od5, .func (PySem.W.fnOf "are_parts" "are_parts" (defArgs (top 19)) (defBody (top 19)) (defScope (top 19)) .none kV5 dc5 pm5 an5 cd5 ct5), sl5⟩) (c5 : PySem.W.codeIn K cd5 "are_parts" = true) (k5 : PySem.W.keepIn K (.ref f5) = true)
    (a6 : PySem.W.nsIn K mainGlobals "lot_around" = some (some (.ref f6))) (l6 : K.lookup f6 = some ⟨oc6, od6, .func (PySem.W.fnOf "lot_around" "lot_around" (defArgs (top 23)) (defBody (top 23)) (defScope (top 23)) .none kV6 dc6 pm6 an6 cd6 ct6), sl6⟩) (c6 : PySem.W.codeIn K cd6 "lot_around" = true) (k6 : PySem.W.keepIn K (.ref f6) = true)
    (a7 : PySem.W.nsIn K mainGlobals "lots_in" = some (some (.ref f7))) (l7 : K.lookup f7 = some ⟨oc7, od7, .func (PySem.W.fnOf "lots_in" "lots_in" (defArgs (top 24)) (defBody (top 24)) (defScope (top 24)) .none kV7 dc7 pm7 an7 cd7 ct7), sl7⟩) (c7 : PySem.W.codeIn K cd7 "lots_in" = true) (k7 : PySem.W.keepIn K (.ref f7) = true)
    (a8 : PySem.W.nsIn K mainGlobals "neighbours_by" = some (some (.ref f8))) (l8 : K.lookup f8 = some ⟨oc8, od8, .func (PySem.W.fnOf "neighbours_by" "neighbours_by" (defArgs (top 20)) (defBody (top 20)) (defScope (top 20)) .none kV8 dc8 pm8 an8 cd8 ct8), sl8⟩) (c8 : PySem.W.codeIn K cd8 "neighbours_by" = true) (k8 : PySem.W.keepIn K (.ref f8) = true)
    (a9 : PySem.W.findIn K (.ref E_Web) "__init__" = some (some (.ref f9))) (l9 : K.lookup f9 = some ⟨oc9, od9, .func (PySem.W.fnOf "__init__" "Web.__init__" (defArgs (inClass (top 22) 1)) (defBody (inClass (top 22) 1)) (defScope (inClass (top 22) 1)) .none kV9 dc9 pm9 an9 cd9 ct9), sl9⟩) (c9 : PySem.W.codeIn K cd9 "Web.__init__" = true) (k9 : PySem.W.keepIn K (.ref f9) = true) (n9 : PySem.W.isFn K (.ref f9) = true)
    (a10 : PySem.W.nsIn K mainGlobals "_law_made" = some (some (.ref f10))) (l10 : K.lookup f10 = some ⟨oc10, od10, .func (PySem.W.fnOf "_law_made" "_law_made" (defArgs (top 53)) (defBody (top 53)) (defScope (top 53)) .none kV10 dc10 pm10 an10 cd10 ct10), sl10⟩) (c10 : PySem.W.codeIn K cd10 "_law_made" = true) (k10 : PySem.W.keepIn K (.ref f10) = true)
    (a11 : PySem.W.recIn K P_11 "property" = some (.ref f11 :: rest11)) (l11 : K.lookup f11 = some ⟨oc11, od11, .func (PySem.W.fnOf "places" "Web.places" (defArgs (inClass (top 22) 4)) (defBody (inClass (top 22) 4)) (defScope (inClass (top 22) 4)) .none kV11 dc11 pm11 an11 cd11 ct11), sl11⟩) (c11 : PySem.W.codeIn K cd11 "Web.places" = true) (k11 : PySem.W.keepIn K (.ref f11) = true) (n11 : PySem.W.isFn K (.ref f11) = true)
    (pa11 : PySem.W.findIn K (.ref E_Web) "places" = some (some (.ref P_11))) (pg11 : PySem.W.specialIn K (.ref P_11) "__get__" = some (some (.builtin "property.__get__"))) (pt11 : PySem.W.takesIn K (.ref P_11) = some true)
    (a12 : PySem.W.recIn K P_12 "property" = some (.ref f12 :: rest12)) (l12 : K.lookup f12 = some ⟨oc12, od12, .func (PySem.W.fnOf "ties" "Web.ties" (defArgs (inClass (top 22) 5)) (defBody (inClass (top 22) 5)) (defScope (inClass (top 22) 5)) .none kV12 dc12 pm12 an12 cd12 ct12), sl12⟩) (c12 : PySem.W.codeIn K cd12 "Web.ties" = true) (k12 : PySem.W.keepIn K (.ref f12) = true) (n12 : PySem.W.isFn K (.ref f12) = true)
    (pa12 : PySem.W.findIn K (.ref E_Web) "ties" = some (some (.ref P_12))) (pg12 : PySem.W.specialIn K (.ref P_12) "__get__" = some (some (.builtin "property.__get__"))) (pt12 : PySem.W.takesIn K (.ref P_12) = some true)
    (a13 : PySem.W.nsIn K mainGlobals "_law_roll" = some (some (.ref f13))) (l13 : K.lookup f13 = some ⟨oc13, od13, .func (PySem.W.fnOf "_law_roll" "_law_roll" (defArgs (top 49)) (defBody (top 49)) (defScope (top 49)) .none kV13 dc13 pm13 an13 cd13 ct13), sl13⟩) (c13 : PySem.W.codeIn K cd13 "_law_roll" = true) (k13 : PySem.W.keepIn K (.ref f13) = true)
    (a14 : PySem.W.nsIn K mainGlobals "_law_pick" = some (some (.ref f14))) (l14 : K.lookup f14 = some ⟨oc14, od14, .func (PySem.W.fnOf "_law_pick" "_law_pick" (defArgs (top 50)) (defBody (top 50)) (defScope (top 50)) .none kV14 dc14 pm14 an14 cd14 ct14), sl14⟩) (c14 : PySem.W.codeIn K cd14 "_law_pick" = true) (k14 : PySem.W.keepIn K (.ref f14) = true)
    (a15 : PySem.W.nsIn K mainGlobals "_law_word_of" = some (some (.ref f15))) (l15 : K.lookup f15 = some ⟨oc15, od15, .func (PySem.W.fnOf "_law_word_of" "_law_word_of" (defArgs (top 57)) (defBody (top 57)) (defScope (top 57)) .none kV15 dc15 pm15 an15 cd15 ct15), sl15⟩) (c15 : PySem.W.codeIn K cd15 "_law_word_of" = true) (k15 : PySem.W.keepIn K (.ref f15) = true)
    (a16 : PySem.W.recIn K P_16 "property" = some (.ref f16 :: rest16)) (l16 : K.lookup f16 = some ⟨oc16, od16, .func (PySem.W.fnOf "lots" "Web.lots" (defArgs (inClass (top 22) 7)) (defBody (inClass (top 22) 7)) (defScope (inClass (top 22) 7)) .none kV16 dc16 pm16 an16 cd16 ct16), sl16⟩) (c16 : PySem.W.codeIn K cd16 "Web.lots" = true) (k16 : PySem.W.keepIn K (.ref f16) = true) (n16 : PySem.W.isFn K (.ref f16) = true)
    (pa16 : PySem.W.findIn K (.ref E_Web) "lots" = some (some (.ref P_16))) (pg16 : PySem.W.specialIn K (.ref P_16) "__get__" = some (some (.builtin "property.__get__"))) (pt16 : PySem.W.takesIn K (.ref P_16) = some true)
    (a17 : PySem.W.findIn K (.ref E_Web) "lots_without" = some (some (.ref f17))) (l17 : K.lookup f17 = some ⟨oc17, od17, .func (PySem.W.fnOf "lots_without" "Web.lots_without" (defArgs (inClass (top 22) 18)) (defBody (inClass (top 22) 18)) (defScope (inClass (top 22) 18)) .none kV17 dc17 pm17 an17 cd17 ct17), sl17⟩) (c17 : PySem.W.codeIn K cd17 "Web.lots_without" = true) (k17 : PySem.W.keepIn K (.ref f17) = true) (n17 : PySem.W.isFn K (.ref f17) = true)
    (a18 : PySem.W.nsIn K mainGlobals "is_cut_place" = some (some (.ref f18))) (l18 : K.lookup f18 = some ⟨oc18, od18, .func (PySem.W.fnOf "is_cut_place" "is_cut_place" (defArgs (top 39)) (defBody (top 39)) (defScope (top 39)) .none kV18 dc18 pm18 an18 cd18 ct18), sl18⟩) (c18 : PySem.W.codeIn K cd18 "is_cut_place" = true) (k18 : PySem.W.keepIn K (.ref f18) = true)
    (a19 : PySem.W.findIn K (.ref E_Web) "require_place" = some (some (.ref f19))) (l19 : K.lookup f19 = some ⟨oc19, od19, .func (PySem.W.fnOf "require_place" "Web.require_place" (defArgs (inClass (top 22) 9)) (defBody (inClass (top 22) 9)) (defScope (inClass (top 22) 9)) .none kV19 dc19 pm19 an19 cd19 ct19), sl19⟩) (c19 : PySem.W.codeIn K cd19 "Web.require_place" = true) (k19 : PySem.W.keepIn K (.ref f19) = true) (n19 : PySem.W.isFn K (.ref f19) = true)
    (a20 : PySem.W.findIn K (.ref E_Web) "without_places" = some (some (.ref f20))) (l20 : K.lookup f20 = some ⟨oc20, od20, .func (PySem.W.fnOf "without_places" "Web.without_places" (defArgs (inClass (top 22) 17)) (defBody (inClass (top 22) 17)) (defScope (inClass (top 22) 17)) .none kV20 dc20 pm20 an20 cd20 ct20), sl20⟩) (c20 : PySem.W.codeIn K cd20 "Web.without_places" = true) (k20 : PySem.W.keepIn K (.ref f20) = true) (n20 : PySem.W.isFn K (.ref f20) = true)
    (a21 : PySem.W.nsIn K mainGlobals "web_within" = some (some (.ref f21))) (l21 : K.lookup f21 = some ⟨oc21, od21, .func (PySem.W.fnOf "web_within" "web_within" (defArgs (top 41)) (defBody (top 41)) (defScope (top 41)) .none kV21 dc21 pm21 an21 cd21 ct21), sl21⟩) (c21 : PySem.W.codeIn K cd21 "web_within" = true) (k21 : PySem.W.keepIn K (.ref f21) = true)
    (a22 : PySem.W.nsIn K mainGlobals "blocks_in" = some (some (.ref f22))) (l22 : K.lookup f22 = some ⟨oc22, od22, .func (PySem.W.fnOf "blocks_in" "blocks_in" (defArgs (top 42)) (defBody (top 42)) (defScope (top 42)) .none kV22 dc22 pm22 an22 (.ref cd22) ct22), sl22⟩) (c22 : PySem.W.codeIn K (.ref cd22) "blocks_in" = true) (k22 : PySem.W.keepIn K (.ref f22) = true) (tl22 : tabHd K cd22 = some PT22) (th22 : PySem.W.codeHdIn K cd22 PT22 = true) (tn22 : K.lookup PT22 = none)
    (a23 : PySem.W.nsIn K mainGlobals "require_web" = some (some (.ref f23))) (l23 : K.lookup f23 = some ⟨oc23, od23, .func (PySem.W.fnOf "require_web" "require_web" (defArgs (top 26)) (defBody (top 26)) (defScope (top 26)) .none kV23 dc23 pm23 an23 cd23 ct23), sl23⟩) (c23 : PySem.W.codeIn K cd23 "require_web" = true) (k23 : PySem.W.keepIn K (.ref f23) = true)
    (a24 : PySem.W.nsIn K mainGlobals "all_blocks" = some (some (.ref f24))) (l24 : K.lookup f24 = some ⟨oc24, od24, .func (PySem.W.fnOf "all_blocks" "all_blocks" (defArgs (top 43)) (defBody (top 43)) (defScope (top 43)) .none kV24 dc24 pm24 an24 cd24 ct24), sl24⟩) (c24 : PySem.W.codeIn K cd24 "all_blocks" = true) (k24 : PySem.W.keepIn K (.ref f24) = true)
    (a25 : PySem.W.nsIn K mainGlobals "all_partings" = some (some (.ref f25))) (l25 : K.lookup f25 = some ⟨oc25, od25, .func (PySem.W.fnOf "all_partings" "all_partings" (defArgs (top 33)) (defBody (top 33)) (defScope (top 33)) .none kV25 dc25 pm25 an25 cd25 ct25), sl25⟩) (c25 : PySem.W.codeIn K cd25 "all_partings" = true) (k25 : PySem.W.keepIn K (.ref f25) = true)
    (a26 : PySem.W.nsIn K mainGlobals "cut_places" = some (some (.ref f26))) (l26 : K.lookup f26 = some ⟨oc26, od26, .func (PySem.W.fnOf "cut_places" "cut_places" (defArgs (top 40)) (defBody (top 40)) (defScope (top 40)) .none kV26 dc26 pm26 an26 cd26 ct26), sl26⟩) (c26 : PySem.W.codeIn K cd26 "cut_places" = true) (k26 : PySem.W.keepIn K (.ref f26) = true)
    (a27 : PySem.W.nsIn K mainGlobals "block_doors" = some (some (.ref f27))) (l27 : K.lookup f27 = some ⟨oc27, od27, .func (PySem.W.fnOf "block_doors" "block_doors" (defArgs (top 46)) (defBody (top 46)) (defScope (top 46)) .none kV27 dc27 pm27 an27 cd27 ct27), sl27⟩) (c27 : PySem.W.codeIn K cd27 "block_doors" = true) (k27 : PySem.W.keepIn K (.ref f27) = true)
    (a28 : PySem.W.nsIn K mainGlobals "block_web" = some (some (.ref f28))) (l28 : K.lookup f28 = some ⟨oc28, od28, .func (PySem.W.fnOf "block_web" "block_web" (defArgs (top 45)) (defBody (top 45)) (defScope (top 45)) .none kV28 dc28 pm28 an28 cd28 ct28), sl28⟩) (c28 : PySem.W.codeIn K cd28 "block_web" = true) (k28 : PySem.W.keepIn K (.ref f28) = true)
    (a29 : PySem.W.findIn K (.ref E_Web) "is_tied" = some (some (.ref f29))) (l29 : K.lookup f29 = some ⟨oc29, od29, .func (PySem.W.fnOf "is_tied" "Web.is_tied" (defArgs (inClass (top 22) 12)) (defBody (inClass (top 22) 12)) (defScope (inClass (top 22) 12)) .none kV29 dc29 pm29 an29 cd29 ct29), sl29⟩) (c29 : PySem.W.codeIn K cd29 "Web.is_tied" = true) (k29 : PySem.W.keepIn K (.ref f29) = true) (n29 : PySem.W.isFn K (.ref f29) = true)
    (a30 : PySem.W.findIn K (.ref E_Web) "require_tied" = some (some (.ref f30))) (l30 : K.lookup f30 = some ⟨oc30, od30, .func (PySem.W.fnOf "require_tied" "Web.require_tied" (defArgs (inClass (top 22) 13)) (defBody (inClass (top 22) 13)) (defScope (inClass (top 22) 13)) .none kV30 dc30 pm30 an30 cd30 ct30), sl30⟩) (c30 : PySem.W.codeIn K cd30 "Web.require_tied" = true) (k30 : PySem.W.keepIn K (.ref f30) = true) (n30 : PySem.W.isFn K (.ref f30) = true)
    (a31 : PySem.W.nsIn K mainGlobals "block_with" = some (some (.ref f31))) (l31 : K.lookup f31 = some ⟨oc31, od31, .func (PySem.W.fnOf "block_with" "block_with" (defArgs (top 44)) (defBody (top 44)) (defScope (top 44)) .none kV31 dc31 pm31 an31 cd31 ct31), sl31⟩) (c31 : PySem.W.codeIn K cd31 "block_with" = true) (k31 : PySem.W.keepIn K (.ref f31) = true)
    (a32 : PySem.W.nsIn K mainGlobals "least_parting" = some (some (.ref f32))) (l32 : K.lookup f32 = some ⟨oc32, od32, .func (PySem.W.fnOf "least_parting" "least_parting" (defArgs (top 35)) (defBody (top 35)) (defScope (top 35)) .none kV32 dc32 pm32 an32 cd32 ct32), sl32⟩) (c32 : PySem.W.codeIn K cd32 "least_parting" = true) (k32 : PySem.W.keepIn K (.ref f32) = true)
    (a33 : PySem.W.nsIn K mainGlobals "held_level" = some (some (.ref f33))) (l33 : K.lookup f33 = some ⟨oc33, od33, .func (PySem.W.fnOf "held_level" "held_level" (defArgs (top 36)) (defBody (top 36)) (defScope (top 36)) .none kV33 dc33 pm33 an33 cd33 ct33), sl33⟩) (c33 : PySem.W.codeIn K cd33 "held_level" = true) (k33 : PySem.W.keepIn K (.ref f33) = true)
    (a34 : PySem.W.nsIn K mainGlobals "is_held" = some (some (.ref f34))) (l34 : K.lookup f34 = some ⟨oc34, od34, .func (PySem.W.fnOf "is_held" "is_held" (defArgs (top 38)) (defBody (top 38)) (defScope (top 38)) .none kV34 dc34 pm34 an34 cd34 ct34), sl34⟩) (c34 : PySem.W.codeIn K cd34 "is_held" = true) (k34 : PySem.W.keepIn K (.ref f34) = true)
    (a35 : PySem.W.findIn K (.ref E_Web) "__contains__" = some (some (.ref f35))) (l35 : K.lookup f35 = some ⟨oc35, od35, .func (PySem.W.fnOf "__contains__" "Web.__contains__" (defArgs (inClass (top 22) 25)) (defBody (inClass (top 22) 25)) (defScope (inClass (top 22) 25)) .none kV35 dc35 pm35 an35 cd35 ct35), sl35⟩) (c35 : PySem.W.codeIn K cd35 "Web.__contains__" = true) (k35 : PySem.W.keepIn K (.ref f35) = true) (n35 : PySem.W.isFn K (.ref f35) = true)
    (a36 : PySem.W.nsIn K mainGlobals "parts_web" = some (some (.ref f36))) (l36 : K.lookup f36 = some ⟨oc36, od36, .func (PySem.W.fnOf "parts_web" "parts_web" (defArgs (top 31)) (defBody (top 31)) (defScope (top 31)) .none kV36 dc36 pm36 an36 cd36 ct36), sl36⟩) (c36 : PySem.W.codeIn K cd36 "parts_web" = true) (k36 : PySem.W.keepIn K (.ref f36) = true)
    (a37 : PySem.W.nsIn K mainGlobals "is_parting" = some (some (.ref f37))) (l37 : K.lookup f37 = some ⟨oc37, od37, .func (PySem.W.fnOf "is_parting" "is_parting" (defArgs (top 32)) (defBody (top 32)) (defScope (top 32)) .none kV37 dc37 pm37 an37 cd37 ct37), sl37⟩) (c37 : PySem.W.codeIn K cd37 "is_parting" = true) (k37 : PySem.W.keepIn K (.ref f37) = true)
    (a38 : PySem.W.nsIn K mainGlobals "_law_right" = some (some (.ref f38))) (l38 : K.lookup f38 = some ⟨oc38, od38, .func (PySem.W.fnOf "_law_right" "_law_right" (defArgs (top 58)) (defBody (top 58)) (defScope (top 58)) .none kV38 dc38 pm38 an38 (.ref cd38) ct38), sl38⟩) (c38 : PySem.W.codeIn K (.ref cd38) "_law_right" = true) (k38 : PySem.W.keepIn K (.ref f38) = true) (tl38 : tabHd K cd38 = some PT38) (th38 : PySem.W.codeHdIn K cd38 PT38 = true) (tn38 : K.lookup PT38 = none)
    (a39 : PySem.W.nsIn K mainGlobals "_law_tie" = some (some (.ref f39))) (l39 : K.lookup f39 = some ⟨oc39, od39, .func (PySem.W.fnOf "_law_tie" "_law_tie" (defArgs (top 51)) (defBody (top 51)) (defScope (top 51)) .none kV39 dc39 pm39 an39 cd39 ct39), sl39⟩) (c39 : PySem.W.codeIn K cd39 "_law_tie" = true) (k39 : PySem.W.keepIn K (.ref f39) = true)
    (a40 : PySem.W.nsIn K mainGlobals "_law_pairs" = some (some (.ref f40))) (l40 : K.lookup f40 = some ⟨oc40, od40, .func (PySem.W.fnOf "_law_pairs" "_law_pairs" (defArgs (top 54)) (defBody (top 54)) (defScope (top 54)) .none kV40 dc40 pm40 an40 cd40 ct40), sl40⟩) (c40 : PySem.W.codeIn K cd40 "_law_pairs" = true) (k40 : PySem.W.keepIn K (.ref f40) = true)
    (a41 : PySem.W.nsIn K mainGlobals "_law_plain" = some (some (.ref f41))) (l41 : K.lookup f41 = some ⟨oc41, od41, .func (PySem.W.fnOf "_law_plain" "_law_plain" (defArgs (top 52)) (defBody (top 52)) (defScope (top 52)) .none kV41 dc41 pm41 an41 cd41 ct41), sl41⟩) (c41 : PySem.W.codeIn K cd41 "_law_plain" = true) (k41 : PySem.W.keepIn K (.ref f41) = true)
    (a42 : PySem.W.nsIn K mainGlobals "_law_wheel" = some (some (.ref f42))) (l42 : K.lookup f42 = some ⟨oc42, od42, .func (PySem.W.fnOf "_law_wheel" "_law_wheel" (defArgs (top 55)) (defBody (top 55)) (defScope (top 55)) .none kV42 dc42 pm42 an42 cd42 ct42), sl42⟩) (c42 : PySem.W.codeIn K cd42 "_law_wheel" = true) (k42 : PySem.W.keepIn K (.ref f42) = true)
    (a43 : PySem.W.nsIn K mainGlobals "_law_written" = some (some (.ref f43))) (l43 : K.lookup f43 = some ⟨oc43, od43, .func (PySem.W.fnOf "_law_written" "_law_written" (defArgs (top 56)) (defBody (top 56)) (defScope (top 56)) .none kV43 dc43 pm43 an43 cd43 ct43), sl43⟩) (c43 : PySem.W.codeIn K cd43 "_law_written" = true) (k43 : PySem.W.keepIn K (.ref f43) = true)
    (a44 : PySem.W.nsIn K mainGlobals "law" = some (some (.ref f44))) (l44 : K.lookup f44 = some ⟨oc44, od44, .func (PySem.W.fnOf "law" "law" (defArgs (top 59)) (defBody (top 59)) (defScope (top 59)) .none kV44 dc44 pm44 an44 cd44 ct44), sl44⟩) (c44 : PySem.W.codeIn K cd44 "law" = true) (k44 : PySem.W.keepIn K (.ref f44) = true)
    (z_Bench : PySem.W.nsIn K mainGlobals "Bench" = some none) (z_Drawing : PySem.W.nsIn K mainGlobals "Drawing" = some none) (z_Growth : PySem.W.nsIn K mainGlobals "Growth" = some none) (z_PartTree : PySem.W.nsIn K mainGlobals "PartTree" = some none) (z_Shell : PySem.W.nsIn K mainGlobals "Shell" = some none) (z_abs : PySem.W.nsIn K mainGlobals "abs" = some none) (z_all : PySem.W.nsIn K mainGlobals "all" = some none) (z_int : PySem.W.nsIn K mainGlobals "int" = some none) (z_isinstance : PySem.W.nsIn K mainGlobals "isinstance" = some none) (z_len : PySem.W.nsIn K mainGlobals "len" = some none) (z_list : PySem.W.nsIn K mainGlobals "list" = some none) (z_max : PySem.W.nsIn K mainGlobals "max" = some none) (z_min : PySem.W.nsIn K mainGlobals "min" = some none) (z_next : PySem.W.nsIn K mainGlobals "next" = some none) (z_range : PySem.W.nsIn K mainGlobals "range" = some none) (z_repr : PySem.W.nsIn K mainGlobals "repr" = some none) (z_set : PySem.W.nsIn K mainGlobals "set" = some none) (z_sorted : PySem.W.nsIn K mainGlobals "sorted" = some none) (z_str : PySem.W.nsIn K mainGlobals "str" = some none) (z_super : PySem.W.nsIn K mainGlobals "super" = some none) (z_tuple : PySem.W.nsIn K mainGlobals "tuple" = some none) (z_zip : PySem.W.nsIn K mainGlobals "zip" = some none) (y_LETTERS : PySem.W.nsIn K mainGlobals "LETTERS" = some (some (.str ⟨([97, 98, 99, 100, 101, 102, 103, 104, 105, 106, 107, 108, 109, 110, 111, 112, 113, 114, 115, 116, 117, 118, 119, 120, 121, 122] : List Nat).toArray⟩ t_LETTERS))) (y_MAX_LETTERS : PySem.W.nsIn K mainGlobals "MAX_LETTERS" = some (some (.int 8 t_MAX_LETTERS))) (y_MAX_PLACES : PySem.W.nsIn K mainGlobals "MAX_PLACES" = some (some (.int 16 t_MAX_PLACES))) (y_MAX_TIES : PySem.W.nsIn K mainGlobals "MAX_TIES" = some (some (.int 60 t_MAX_TIES))) (y_MOST_PARTING : PySem.W.nsIn K mainGlobals "MOST_PARTING" = some (some (.int 2 t_MOST_PARTING))) (y_NO_PARTING : PySem.W.nsIn K mainGlobals "NO_PARTING" = some (some (.int 3 t_NO_PARTING))) (ea_InvalidOperation : PySem.W.nsIn K mainGlobals "InvalidOperation" = some (some (.ref E_InvalidOperation))) (eq_InvalidOperation : PySem.W.excIn K E_InvalidOperation [.type "ValueError", .type "Exception", .type "BaseException", .type "object"] "ValueError.__new__" = true) (ek_InvalidOperation : PySem.W.keepIn K (.ref E_InvalidOperation) = true) (es_InvalidOperation : PySem.W.subIn K (.ref E_InvalidOperation) (.type "BaseException") = some true) (et_InvalidOperation : PySem.W.typeIn K (.ref E_InvalidOperation) = some (.type "type")) (ea_InvalidPart : PySem.W.nsIn K mainGlobals "InvalidPart" = some (some (.ref E_InvalidPart))) (eq_InvalidPart : PySem.W.excIn K E_InvalidPart [.type "ValueError", .type "Exception", .type "BaseException", .type "object"] "ValueError.__new__" = true) (ek_InvalidPart : PySem.W.keepIn K (.ref E_InvalidPart) = true) (es_InvalidPart : PySem.W.subIn K (.ref E_InvalidPart) (.type "BaseException") = some true) (et_InvalidPart : PySem.W.typeIn K (.ref E_InvalidPart) = some (.type "type")) (ea_InvalidTie : PySem.W.nsIn K mainGlobals "InvalidTie" = some (some (.ref E_InvalidTie))) (eq_InvalidTie : PySem.W.excIn K E_InvalidTie [.type "ValueError", .type "Exception", .type "BaseException", .type "object"] "ValueError.__new__" = true) (ek_InvalidTie : PySem.W.keepIn K (.ref E_InvalidTie) = true) (es_InvalidTie : PySem.W.subIn K (.ref E_InvalidTie) (.type "BaseException") = some true) (et_InvalidTie : PySem.W.typeIn K (.ref E_InvalidTie) = some (.type "type")) (ea_InvalidWeb : PySem.W.nsIn K mainGlobals "InvalidWeb" = some (some (.ref E_InvalidWeb))) (eq_InvalidWeb : PySem.W.excIn K E_InvalidWeb [.type "ValueError", .type "Exception", .type "BaseException", .type "object"] "ValueError.__new__" = true) (ek_InvalidWeb : PySem.W.keepIn K (.ref E_InvalidWeb) = true) (es_InvalidWeb : PySem.W.subIn K (.ref E_InvalidWeb) (.type "BaseException") = some true) (et_InvalidWeb : PySem.W.typeIn K (.ref E_InvalidWeb) = some (.type "type")) (ea_UnknownName : PySem.W.nsIn K mainGlobals "UnknownName" = some (some (.ref E_UnknownName))) (ek_UnknownName : PySem.W.keepIn K (.ref E_UnknownName) = true) (es_UnknownName : PySem.W.subIn K (.ref E_UnknownName) (.type "BaseException") = some true) (et_UnknownName : PySem.W.typeIn K (.ref E_UnknownName) = some (.type "type")) (eb_UnknownName : PySem.W.excInitIn K E_UnknownName [.type "KeyError", .type "LookupError", .type "Exception", .type "BaseException", .type "object"] "LookupError.__new__" = true) (ih_UnknownName : PySem.W.findIn K (.ref E_UnknownName) "__init__" = some (some (.ref fI_UnknownName))) (io_UnknownName : K.lookup fI_UnknownName = some ⟨.type "function", od_UnknownName, .func (PySem.W.ksFn "__init__" "UnknownName.__init__" (defArgs (inClass (top 7) 0)) (defBody (inClass (top 7) 0)) (defScope (inClass (top 7) 0)) .none kV_UnknownName doc_UnknownName pm_UnknownName an_UnknownName (.ref cda_UnknownName) ct_UnknownName cc_UnknownName), osl_UnknownName⟩) (ic_UnknownName : PySem.W.codeIn K (.ref cda_UnknownName) "UnknownName.__init__" = true) (iv_UnknownName : K.lookup cda_UnknownName = some ⟨ccl_UnknownName, cdd_UnknownName, .fields vs_UnknownName, ccs_UnknownName⟩) (iw_UnknownName : vs_UnknownName[2]? = some (.str file_UnknownName tf_UnknownName)) (if_UnknownName : ((l.prog.main.file : Str) == file_UnknownName) = true) (il_UnknownName : K.lookup cc_UnknownName = some ⟨cl_UnknownName, cld_UnknownName, .cell (some (.ref E_UnknownName)), csl_UnknownName⟩) (ir_UnknownName : PySem.W.mroIn K E_UnknownName (.ref E_UnknownName) = some true) (im_UnknownName : PySem.W.ks_superIn K E_UnknownName E_UnknownName "__init__" = some (some (.builtin "KeyError.__init__"))) (iB_UnknownName : PySem.W.subIn K (.ref E_UnknownName) (.type "KeyError") = some true) (ia_UnknownName : PySem.W.findIn K (.ref E_UnknownName) "__setattr__" = some (some (.builtin "object.__setattr__"))) (ip_UnknownName : PySem.W.excOver K E_UnknownName [.type "KeyError", .type "LookupError", .type "Exception", .type "BaseException", .type "object"] = true) (it_UnknownName : PySem.W.takerIn K E_UnknownName "word" = some none) (id_UnknownName : PySem.W.hasDictIn K E_UnknownName = true) (p_any : PySem.W.nsIn K cStatics "thirdparty.any" = some none) (p_top : (l.prog.main.scope.names.lookup ("super" : Str)).isSome = false) (p_get : PySem.W.specialIn K (.builtin "object.__class__") "__get__" = some (some (.builtin "getset_descriptor.__get__"))) (p_tk : PySem.W.takesIn K (.builtin "object.__class__") = some true) (ea_Walk : PySem.W.nsIn K mainGlobals "Walk" = some (some (.ref E_Walk))) (w1_Walk : PySem.W.plainGet K E_Walk Str.empty = true) (w2_Walk : PySem.W.isClsIn K E_Walk = true) (w3_Walk : PySem.W.plainOver K E_Walk = true) (w4_Walk : PySem.W.findIn K (.ref E_Walk) "__setattr__" = some (some (.builtin "object.__setattr__"))) (ea_Web : PySem.W.nsIn K mainGlobals "Web" = some (some (.ref E_Web))) (w1_Web : PySem.W.plainGet K E_Web Str.empty = true) (w2_Web : PySem.W.isClsIn K E_Web = true) (w3_Web : PySem.W.plainOver K E_Web = true) (w4_Web : PySem.W.findIn K (.ref E_Web) "__setattr__" = some (some (.builtin "object.__setattr__"))) (w5_Web : PySem.W.makesIn K E_Web = true) (w6_Web : PySem.W.keepIn K (.ref E_Web) = true) (s1_Web_own_beside : PySem.W.findIn K (.ref E_Web) "own_beside" = some (some (.ref S_Web_own_beside))) (s2_Web_own_beside : PySem.W.specialIn K (.ref S_Web_own_beside) "__get__" = some (some (.builtin "member_descriptor.__get__"))) (s3_Web_own_beside : PySem.W.takesIn K (.ref S_Web_own_beside) = some true) (s4_Web_own_beside : PySem.W.typeIn K (.ref S_Web_own_beside) = some (.type "member_descriptor")) (s5_Web_own_beside : PySem.W.slotIn K S_Web_own_beside E_Web = some 0) (s1_Web_own_lots : PySem.W.findIn K (.ref E_Web) "own_lots" = some (some (.ref S_Web_own_lots))) (s2_Web_own_lots : PySem.W.specialIn K (.ref S_Web_own_lots) "__get__" = some (some (.builtin "member_descriptor.__get__"))) (s3_Web_own_lots : PySem.W.takesIn K (.ref S_Web_own_lots) = some true) (s4_Web_own_lots : PySem.W.typeIn K (.ref S_Web_own_lots) = some (.type "member_descriptor")) (s5_Web_own_lots : PySem.W.slotIn K S_Web_own_lots E_Web = some 1) (s1_Web_own_places : PySem.W.findIn K (.ref E_Web) "own_places" = some (some (.ref S_Web_own_places))) (s2_Web_own_places : PySem.W.specialIn K (.ref S_Web_own_places) "__get__" = some (some (.builtin "member_descriptor.__get__"))) (s3_Web_own_places : PySem.W.takesIn K (.ref S_Web_own_places) = some true) (s4_Web_own_places : PySem.W.typeIn K (.ref S_Web_own_places) = some (.type "member_descriptor")) (s5_Web_own_places : PySem.W.slotIn K S_Web_own_places E_Web = some 2) (s1_Web_own_ties : PySem.W.findIn K (.ref E_Web) "own_ties" = some (some (.ref S_Web_own_ties))) (s2_Web_own_ties : PySem.W.specialIn K (.ref S_Web_own_ties) "__get__" = some (some (.builtin "member_descriptor.__get__"))) (s3_Web_own_ties : PySem.W.takesIn K (.ref S_Web_own_ties) = some true) (s4_Web_own_ties : PySem.W.typeIn K (.ref S_Web_own_ties) = some (.type "member_descriptor")) (s5_Web_own_ties : PySem.W.slotIn K S_Web_own_ties E_Web = some 3) (x1_Web_NoneType : PySem.W.kitOne K (.type "NoneType") (.ref E_Web) = some false) (x1_Web_bool : PySem.W.kitOne K (.type "bool") (.ref E_Web) = some false) (x1_Web_int : PySem.W.kitOne K (.type "int") (.ref E_Web) = some false) (x1_Web_str : PySem.W.kitOne K (.type "str") (.ref E_Web) = some false) (x1_Web_tuple : PySem.W.kitOne K (.type "tuple") (.ref E_Web) = some false) (x1_Web_list : PySem.W.kitOne K (.type "list") (.ref E_Web) = some false) (x1_Web_dict : PySem.W.kitOne K (.type "dict") (.ref E_Web) = some false) (x2_Web_Web : PySem.W.kitOne K (.ref E_Web) (.ref E_Web) = some true) (x5_Web_bool : PySem.W.kitOne K (.ref E_Web) (.type "bool") = some false) (x5_Web_int : PySem.W.kitOne K (.ref E_Web) (.type "int") = some false) (x5_Web_str : PySem.W.kitOne K (.ref E_Web) (.type "str") = some false) (x5_Web_tuple : PySem.W.kitOne K (.ref E_Web) (.type "tuple") = some false) (x5_Web_list : PySem.W.kitOne K (.ref E_Web) (.type "list") = some false) (x5_Web_dict : PySem.W.kitOne K (.ref E_Web) (.type "dict") = some false) (x3_Web : PySem.W.findIn K (.ref E_Web) "__class__" = some (some (.builtin "object.__class__"))) (x4_Web : PySem.W.mroIn K E_Web (.type "object") = some true) (xg_UnknownName : PySem.W.findIn K (.ref E_UnknownName) "__getattribute__" = some (some (.builtin "BaseException.__getattribute__"))) (xk_UnknownName : PySem.W.findIn K (.ref E_UnknownName) "__getattr__" = some none) (xc_UnknownName : PySem.W.findIn K (.ref E_UnknownName) "__class__" = some (some (.builtin "object.__class__"))) (xm_UnknownName : PySem.W.mroIn K E_UnknownName (.type "object") = some true) (ff_UnknownName_word : PySem.W.findIn K (.ref E_UnknownName) "word" = some none) (ex_InvalidOperation_InvalidPart : PySem.W.exmOne K (.ref E_InvalidOperation) (.ref E_InvalidPart) = some false) (ex_InvalidPart_InvalidPart : PySem.W.exmOne K (.ref E_InvalidPart) (.ref E_InvalidPart) = some true) (ex_InvalidTie_InvalidPart : PySem.W.exmOne K (.ref E_InvalidTie) (.ref E_InvalidPart) = some false) (ex_InvalidWeb_InvalidPart : PySem.W.exmOne K (.ref E_InvalidWeb) (.ref E_InvalidPart) = some false) (ex_UnknownName_InvalidPart : PySem.W.exmOne K (.ref E_UnknownName) (.ref E_InvalidPart) = some false) (ex_InvalidOperation_InvalidTie : PySem.W.exmOne K (.ref E_InvalidOperation) (.ref E_InvalidTie) = some false) (ex_InvalidPart_InvalidTie : PySem.W.exmOne K (.ref E_InvalidPart) (.ref E_InvalidTie) = some false) (ex_InvalidTie_InvalidTie : PySem.W.exmOne K (.ref E_InvalidTie) (.ref E_InvalidTie) = some true) (ex_InvalidWeb_InvalidTie : PySem.W.exmOne K (.ref E_InvalidWeb) (.ref E_InvalidTie) = some false) (ex_UnknownName_InvalidTie : PySem.W.exmOne K (.ref E_UnknownName) (.ref E_InvalidTie) = some false) (ex_InvalidOperation_InvalidWeb : PySem.W.exmOne K (.ref E_InvalidOperation) (.ref E_InvalidWeb) = some false) (ex_InvalidPart_InvalidWeb : PySem.W.exmOne K (.ref E_InvalidPart) (.ref E_InvalidWeb) = some false) (ex_InvalidTie_InvalidWeb : PySem.W.exmOne K (.ref E_InvalidTie) (.ref E_InvalidWeb) = some false) (ex_InvalidWeb_InvalidWeb : PySem.W.exmOne K (.ref E_InvalidWeb) (.ref E_InvalidWeb) = some true) (ex_UnknownName_InvalidWeb : PySem.W.exmOne K (.ref E_UnknownName) (.ref E_InvalidWeb) = some false) (ex_InvalidOperation_UnknownName : PySem.W.exmOne K (.ref E_InvalidOperation) (.ref E_UnknownName) = some false) (ex_InvalidPart_UnknownName : PySem.W.exmOne K (.ref E_InvalidPart) (.ref E_UnknownName) = some false) (ex_InvalidTie_UnknownName : PySem.W.exmOne K (.ref E_InvalidTie) (.ref E_UnknownName) = some false) (ex_InvalidWeb_UnknownName : PySem.W.exmOne K (.ref E_InvalidWeb) (.ref E_UnknownName) = some false) (ex_UnknownName_UnknownName : PySem.W.exmOne K (.ref E_UnknownName) (.ref E_UnknownName) = some true) (nd : ([(cd22, PT22), (cd38, PT38)].map (·.2)).Nodup) :
    ∃ (fd : FuncData) (cs : List (Addr × Addr)), (tsL.length = cs.length) ∧ (cs.map (·.2)).Nodup ∧ (∀ (i : Nat) (t : Str × Str) (p : Addr × Addr), tsL[i]? = some t → cs[i]? = some p → TabOf K mg t.1 p.1 p.2) ∧ (∀ p ∈ cs, K.lookup p.2 = none) ∧ (∀ p ∈ cs, PySem.W.codeHdIn K p.1 p.2 = true) ∧ (∀ (s : Shared) (v : Value), BindsTo s fd ⟨[v], []⟩ [("script", v)]) ∧ ∀ base : Heap, K.In base → base.Ns mainGlobals mg → (∀ p ∈ cs, LamX.TabB base mg p.1 p.2) → FnG l.prog w K mg base (L2.CX l.prog w) 16 fa fd ["script"] (spM w K mg f_law) := by
  have e := hfa.symm.trans (PySem.W.mg_of X G a44)
  cases e
  have T : Txt l.prog K mg := ⟨PySem.W.mg_none_of X G z_Bench, PySem.W.mg_none_of X G z_Drawing, PySem.W.mg_none_of X G z_Growth, PySem.W.mg_none_of X G z_PartTree, PySem.W.mg_none_of X G z_Shell, PySem.W.mg_none_of X G z_abs, PySem.W.mg_none_of X G z_all, PySem.W.mg_none_of X G z_int, PySem.W.mg_none_of X G z_isinstance, PySem.W.mg_none_of X G z_len, PySem.W.mg_none_of X G z_list, PySem.W.mg_none_of X G z_max, PySem.W.mg_none_of X G z_min, PySem.W.mg_none_of X G z_next, PySem.W.mg_none_of X G z_range, PySem.W.mg_none_of X G z_repr, PySem.W.mg_none_of X G z_set, PySem.W.mg_none_of X G z_sorted, PySem.W.mg_none_of X G z_str, PySem.W.mg_none_of X G z_super, PySem.W.mg_none_of X G z_tuple, PySem.W.mg_none_of X G z_zip, ⟨_, PySem.W.mg_of X G y_LETTERS⟩, ⟨_, PySem.W.mg_of X G y_MAX_LETTERS⟩, ⟨_, PySem.W.mg_of X G y_MAX_PLACES⟩, ⟨_, PySem.W.mg_of X G y_MAX_TIES⟩, ⟨_, PySem.W.mg_of X G y_MOST_PARTING⟩, ⟨_, PySem.W.mg_of X G y_NO_PARTING⟩, ⟨_, _, _, _, _, PySem.F.excBase_ValueError, eq_InvalidOperation, PySem.W.mg_of X G ea_InvalidOperation, ek_InvalidOperation, es_InvalidOperation, et_InvalidOperation⟩, ⟨_, _, _, _, _, PySem.F.excBase_ValueError, eq_InvalidPart, PySem.W.mg_of X G ea_InvalidPart, ek_InvalidPart, es_InvalidPart, et_InvalidPart⟩, ⟨_, _, _, _, _, PySem.F.excBase_ValueError, eq_InvalidTie, PySem.W.mg_of X G ea_InvalidTie, ek_InvalidTie, es_InvalidTie, et_InvalidTie⟩, ⟨_, _, _, _, _, PySem.F.excBase_ValueError, eq_InvalidWeb, PySem.W.mg_of X G ea_InvalidWeb, ek_InvalidWeb, es_InvalidWeb, et_InvalidWeb⟩, ⟨_, .inl (PySem.W.mg_of X G ea_InvalidPart), catch_cons (PySem.W.mg_of X G ea_InvalidOperation) ex_InvalidOperation_InvalidPart (catch_cons (PySem.W.mg_of X G ea_InvalidPart) ex_InvalidPart_InvalidPart (catch_cons (PySem.W.mg_of X G ea_InvalidTie) ex_InvalidTie_InvalidPart (catch_cons (PySem.W.mg_of X G ea_InvalidWeb) ex_InvalidWeb_InvalidPart (catch_cons (PySem.W.mg_of X G ea_UnknownName) ex_UnknownName_InvalidPart (catch_nil)))))⟩, ⟨_, .inl (PySem.W.mg_of X G ea_InvalidTie), catch_cons (PySem.W.mg_of X G ea_InvalidOperation) ex_InvalidOperation_InvalidTie (catch_cons (PySem.W.mg_of X G ea_InvalidPart) ex_InvalidPart_InvalidTie (catch_cons (PySem.W.mg_of X G ea_InvalidTie) ex_InvalidTie_InvalidTie (catch_cons (PySem.W.mg_of X G ea_InvalidWeb) ex_InvalidWeb_InvalidTie (catch_cons (PySem.W.mg_of X G ea_UnknownName) ex_UnknownName_InvalidTie (catch_nil)))))⟩, ⟨_, .inl (PySem.W.mg_of X G ea_InvalidWeb), catch_cons (PySem.W.mg_of X G ea_InvalidOperation) ex_InvalidOperation_InvalidWeb (catch_cons (PySem.W.mg_of X G ea_InvalidPart) ex_InvalidPart_InvalidWeb (catch_cons (PySem.W.mg_of X G ea_InvalidTie) ex_InvalidTie_InvalidWeb (catch_cons (PySem.W.mg_of X G ea_InvalidWeb) ex_InvalidWeb_InvalidWeb (catch_cons (PySem.W.mg_of X G ea_UnknownName) ex_UnknownName_InvalidWeb (catch_nil)))))⟩, ⟨_, .inl (PySem.W.mg_of X G ea_UnknownName), catch_cons (PySem.W.mg_of X G ea_InvalidOperation) ex_InvalidOperation_UnknownName (catch_cons (PySem.W.mg_of X G ea_InvalidPart) ex_InvalidPart_UnknownName (catch_cons (PySem.W.mg_of X G ea_InvalidTie) ex_InvalidTie_UnknownName (catch_cons (PySem.W.mg_of X G ea_InvalidWeb) ex_InvalidWeb_UnknownName (catch_cons (PySem.W.mg_of X G ea_UnknownName) ex_UnknownName_UnknownName (catch_nil)))))⟩, errI_mk sy_UnknownName (madeBy_key eb_UnknownName) kxs_KeyError store_KeyError (PySem.W.mg_of X G ea_UnknownName) ek_UnknownName es_UnknownName et_UnknownName (PySem.W.mg_none_of X G z_super) ih_UnknownName io_UnknownName ic_UnknownName iv_UnknownName iw_UnknownName if_UnknownName il_UnknownName ir_UnknownName im_UnknownName iB_UnknownName p_any ia_UnknownName ip_UnknownName it_UnknownName id_UnknownName p_top, ⟨_, _, PySem.W.mg_of X G ea_Web, ⟨w1_Web, w2_Web, w3_Web, w4_Web⟩, s1_Web_own_beside, s2_Web_own_beside, s3_Web_own_beside, s4_Web_own_beside, s5_Web_own_beside, by decide⟩, ⟨_, _, PySem.W.mg_of X G ea_Web, ⟨w1_Web, w2_Web, w3_Web, w4_Web⟩, s1_Web_own_lots, s2_Web_own_lots, s3_Web_own_lots, s4_Web_own_lots, s5_Web_own_lots, by decide⟩, ⟨_, _, PySem.W.mg_of X G ea_Web, ⟨w1_Web, w2_Web, w3_Web, w4_Web⟩, s1_Web_own_places, s2_Web_own_places, s3_Web_own_places, s4_Web_own_places, s5_Web_own_places, by decide⟩, ⟨_, _, PySem.W.mg_of X G ea_Web, ⟨w1_Web, w2_Web, w3_Web, w4_Web⟩, s1_Web_own_ties, s2_Web_own_ties, s3_Web_own_ties, s4_Web_own_ties, s5_Web_own_ties, by decide⟩, ⟨_, PySem.W.mg_of X G ea_Web, fun T hT => by simp only [tysA, List.mem_cons, List.not_mem_nil, or_false] at hT; rcases hT with rfl | rfl | rfl | rfl | rfl | rfl | rfl <;> assumption, isW_skip (PySem.W.mg_none_of X G z_Bench) (isW_skip (PySem.W.mg_none_of X G z_Drawing) (isW_skip (PySem.W.mg_none_of X G z_Growth) (isW_skip (PySem.W.mg_none_of X G z_PartTree) (isW_skip (PySem.W.mg_none_of X G z_Shell) (isW_cons (PySem.W.mg_of X G ea_Web) ⟨w1_Web, w2_Web, w3_Web, w4_Web⟩ ⟨x3_Web, p_get, p_tk, x4_Web⟩ x2_Web_Web (isW_nil))))))⟩, isOb_mk (obAt_none (PySem.W.mg_none_of X G z_Bench)) (obAt_none (PySem.W.mg_none_of X G z_Drawing)) (obAt_none (PySem.W.mg_none_of X G z_Growth)) (obAt_none (PySem.W.mg_none_of X G z_PartTree)) (obAt_none (PySem.W.mg_none_of X G z_Shell)) (obAt_mk (PySem.W.mg_of X G ea_Web) ⟨w1_Web, w2_Web, w3_Web, w4_Web⟩ ⟨x3_Web, p_get, p_tk, x4_Web⟩ (fun T hT => by simp only [tysB, List.mem_cons, List.not_mem_nil, or_false] at hT; rcases hT with rfl | rfl | rfl | rfl | rfl | rfl <;> assumption)), fldK_mk (PySem.W.mg_of X G ea_UnknownName) ⟨xg_UnknownName, xk_UnknownName, es_UnknownName, id_UnknownName⟩ ff_UnknownName_word⟩
  have FL22 := funL_mk (st := (top 42)) l22 c22 k22
  have TO22 := tabOf_mk FL22 (PySem.W.mg_of X G a22) th22
  have FL38 := funL_mk (st := (top 58)) l38 c38 k38
  have TO38 := tabOf_mk FL38 (PySem.W.mg_of X G a38) th38
  refine ⟨PySem.W.fnOf "law" "law" (defArgs (top 59)) (defBody (top 59)) (defScope (top 59)) .none kV44 dc44 pm44 an44 (cd44) ct44, [(cd22, PT22), (cd38, PT38)], rfl, nd, (fun i t p e1 e2 => by
    rcases i with _ | i
    · cases e1; cases e2; exact TO22
    rcases i with _ | i
    · cases e1; cases e2; exact TO38
    cases e1), (fun p hp => by simp only [List.mem_cons, List.not_mem_nil, or_false] at hp; rcases hp with rfl | rfl; all_goals first | exact tn22 | exact tn38), (fun p hp => by simp only [List.mem_cons, List.not_mem_nil, or_false] at hp; rcases hp with rfl | rfl; all_goals first | exact th22 | exact th38), fun s v => .of_eq rfl, fun base _ _ TB => ?_⟩
  have TL22 : LamT K mg base "blocks_in" cd22 PT22 := ⟨TO22, TB (cd22, PT22) (by simp)⟩
  have TL38 : LamT K mg base "_law_right" cd38 PT38 := ⟨TO38, TB (cd38, PT38) (by simp)⟩
  have F0 := fun_mk (st := (top 48)) l0 c0 k0
  have D__law_dice : Def l.prog w K mg base 1 "_law_dice" f__law_dice := ⟨_, _, ["script", "spot"], PySem.W.mg_of X G a0, F0.kp, F0.binds (ps := ["script", "spot"]) (fun _ _ _ _ _ _ us hl => match us, hl with | [_, _], _ => rfl), ok__law_dice T  F0⟩
  have F1 := fun_mk (st := (top 12)) l1 c1 k1
  have D_is_name : Def l.prog w K mg base 1 "is_name" f_is_name := ⟨_, _, ["value"], PySem.W.mg_of X G a1, F1.kp, F1.binds (ps := ["value"]) (fun _ _ _ _ _ _ us hl => match us, hl with | [_], _ => rfl), ok_is_name T  F1⟩
  have F2 := fun_mk (st := (top 13)) l2 c2 k2
  have D_are_names : Def l.prog w K mg base 2 "are_names" f_are_names := ⟨_, _, ["value"], PySem.W.mg_of X G a2, F2.kp, F2.binds (ps := ["value"]) (fun _ _ _ _ _ _ us hl => match us, hl with | [_], _ => rfl), ok_are_names T D_is_name F2⟩
  have F3 := fun_mk (st := (top 14)) l3 c3 k3
  have D_are_rising : Def l.prog w K mg base 3 "are_rising" f_are_rising := ⟨_, _, ["value"], PySem.W.mg_of X G a3, F3.kp, F3.binds (ps := ["value"]) (fun _ _ _ _ _ _ us hl => match us, hl with | [_], _ => rfl), ok_are_rising T D_are_names F3⟩
  have F4 := fun_mk (st := (top 18)) l4 c4 k4
  have D_is_tie : Def l.prog w K mg base 4 "is_tie" f_is_tie := ⟨_, _, ["value"], PySem.W.mg_of X G a4, F4.kp, F4.binds (ps := ["value"]) (fun _ _ _ _ _ _ us hl => match us, hl with | [_], _ => rfl), ok_is_tie T D_are_rising F4⟩
  have F5 := fun_mk (st := (top 19)) l5 c5 k5
  have D_are_parts : Def l.prog w K mg base 5 "are_parts" f_are_parts := ⟨_, _, ["places", "ties"], PySem.W.mg_of X G a5, F5.kp, F5.binds (ps := ["places", "ties"]) (fun _ _ _ _ _ _ us hl => match us, hl with | [_, _], _ => rfl), ok_are_parts T D_are_rising D_is_tie F5⟩
  have F6 := fun_mk (st := (top 23)) l6 c6 k6
  have D_lot_around : Def l.prog w K mg base 1 "lot_around" f_lot_around := ⟨_, _, ["beside", "gone", "place"], PySem.W.mg_of X G a6, F6.kp, F6.binds (ps := ["beside", "gone", "place"]) (fun _ _ _ _ _ _ us hl => match us, hl with | [_, _, _], _ => rfl), ok_lot_around T  F6⟩
  have F7 := fun_mk (st := (top 24)) l7 c7 k7
  have D_lots_in : Def l.prog w K mg base 2 "lots_in" f_lots_in := ⟨_, _, ["beside", "gone"], PySem.W.mg_of X G a7, F7.kp, F7.binds (ps := ["beside", "gone"]) (fun _ _ _ _ _ _ us hl => match us, hl with | [_, _], _ => rfl), ok_lots_in T D_lot_around F7⟩
  have F8 := fun_mk (st := (top 20)) l8 c8 k8
  have D_neighbours_by : Def l.prog w K mg base 1 "neighbours_by" f_neighbours_by := ⟨_, _, ["ties", "place"], PySem.W.mg_of X G a8, F8.kp, F8.binds (ps := ["ties", "place"]) (fun _ _ _ _ _ _ us hl => match us, hl with | [_, _], _ => rfl), ok_neighbours_by T  F8⟩
  have F9 := fun_mk (st := (inClass (top 22) 1)) l9 c9 k9
  have D_Web___init__ : NDef l.prog w K mg base 6 "Web" f_Web___init__ := ⟨_, _, _, ["self", "places", "ties"], PySem.W.mg_of X G ea_Web, ⟨w5_Web, a9, n9, w6_Web⟩, F9.binds (ps := ["self", "places", "ties"]) (fun _ _ _ _ _ _ us hl => match us, hl with | [_, _, _], _ => rfl), ok_Web___init__ T D_are_parts D_lots_in D_neighbours_by F9⟩
  have F10 := fun_mk (st := (top 53)) l10 c10 k10
  have D__law_made : Def l.prog w K mg base 8 "_law_made" f__law_made := ⟨_, _, ["plain"], PySem.W.mg_of X G a10, F10.kp, F10.binds (ps := ["plain"]) (fun _ _ _ _ _ _ us hl => match us, hl with | [_], _ => rfl), ok__law_made T D_Web___init__ F10⟩
  have F11 := fun_mk (st := (inClass (top 22) 4)) l11 c11 k11
  have D_Web_places : PDef l.prog w K mg base 1 "Web" "places" f_Web_places := ⟨_, _, _, _, ["self"], PySem.W.mg_of X G ea_Web, ⟨w1_Web, w2_Web, w3_Web, w4_Web⟩, ⟨pa11, pg11, pt11, _, a11⟩, F11.binds (ps := ["self"]) (fun _ _ _ _ _ _ us hl => match us, hl with | [_], _ => rfl), ok_Web_places T  F11⟩
  have F12 := fun_mk (st := (inClass (top 22) 5)) l12 c12 k12
  have D_Web_ties : PDef l.prog w K mg base 1 "Web" "ties" f_Web_ties := ⟨_, _, _, _, ["self"], PySem.W.mg_of X G ea_Web, ⟨w1_Web, w2_Web, w3_Web, w4_Web⟩, ⟨pa12, pg12, pt12, _, a12⟩, F12.binds (ps := ["self"]) (fun _ _ _ _ _ _ us hl => match us, hl with | [_], _ => rfl), ok_Web_ties T  F12⟩
  have F13 := fun_mk (st := (top 49)) l13 c13 k13
  have D__law_roll : Def l.prog w K mg base 1 "_law_roll" f__law_roll := ⟨_, _, ["dice", "total"], PySem.W.mg_of X G a13, F13.kp, F13.binds (ps := ["dice", "total"]) (fun _ _ _ _ _ _ us hl => match us, hl with | [_, _], _ => rfl), ok__law_roll T  F13⟩
  have F14 := fun_mk (st := (top 50)) l14 c14 k14
  have D__law_pick : Def l.prog w K mg base 2 "_law_pick" f__law_pick := ⟨_, _, ["dice", "items"], PySem.W.mg_of X G a14, F14.kp, F14.binds (ps := ["dice", "items"]) (fun _ _ _ _ _ _ us hl => match us, hl with | [_, _], _ => rfl), ok__law_pick T D__law_roll F14⟩
  have F15 := fun_mk (st := (top 57)) l15 c15 k15
  have D__law_word_of : ∀ k, LDef l.prog w K mg base k "_law_word_of" N__law_word_of.length fun L gm => m__law_word_of (mAct 0 L gm) := fun k => ld__law_word_of T  F15 (PySem.W.mg_of X G a15) (F15.binds (ps := ["call"]) (fun _ _ _ _ _ _ us hl => match us, hl with | [_], _ => rfl))
  have F16 := fun_mk (st := (inClass (top 22) 7)) l16 c16 k16
  have D_Web_lots : PDef l.prog w K mg base 1 "Web" "lots" f_Web_lots := ⟨_, _, _, _, ["self"], PySem.W.mg_of X G ea_Web, ⟨w1_Web, w2_Web, w3_Web, w4_Web⟩, ⟨pa16, pg16, pt16, _, a16⟩, F16.binds (ps := ["self"]) (fun _ _ _ _ _ _ us hl => match us, hl with | [_], _ => rfl), ok_Web_lots T  F16⟩
  have F17 := fun_mk (st := (inClass (top 22) 18)) l17 c17 k17
  have D_Web_lots_without : MDef l.prog w K mg base 3 "Web" "lots_without" f_Web_lots_without := ⟨_, _, _, ["self", "places"], PySem.W.mg_of X G ea_Web, ⟨w1_Web, w2_Web, w3_Web, w4_Web⟩, ⟨a17, n17, k17⟩, F17.binds (ps := ["self", "places"]) (fun _ _ _ _ _ _ us hl => match us, hl with | [_, _], _ => rfl), ok_Web_lots_without T D_lots_in F17⟩
  have F18 := fun_mk (st := (top 39)) l18 c18 k18
  have D_is_cut_place : Def l.prog w K mg base 4 "is_cut_place" f_is_cut_place := ⟨_, _, ["web", "place"], PySem.W.mg_of X G a18, F18.kp, F18.binds (ps := ["web", "place"]) (fun _ _ _ _ _ _ us hl => match us, hl with | [_, _], _ => rfl), ok_is_cut_place T D_Web_lots D_Web_lots_without F18⟩
  have F19 := fun_mk (st := (inClass (top 22) 9)) l19 c19 k19
  have D_Web_require_place : MDef l.prog w K mg base 2 "Web" "require_place" f_Web_require_place := ⟨_, _, _, ["self", "name"], PySem.W.mg_of X G ea_Web, ⟨w1_Web, w2_Web, w3_Web, w4_Web⟩, ⟨a19, n19, k19⟩, F19.binds (ps := ["self", "name"]) (fun _ _ _ _ _ _ us hl => match us, hl with | [_, _], _ => rfl), ok_Web_require_place T D_is_name F19⟩
  have F20 := fun_mk (st := (inClass (top 22) 17)) l20 c20 k20
  have D_Web_without_places : MDef l.prog w K mg base 8 "Web" "without_places" f_Web_without_places := ⟨_, _, _, ["self", "places"], PySem.W.mg_of X G ea_Web, ⟨w1_Web, w2_Web, w3_Web, w4_Web⟩, ⟨a20, n20, k20⟩, F20.binds (ps := ["self", "places"]) (fun _ _ _ _ _ _ us hl => match us, hl with | [_, _], _ => rfl), ok_Web_without_places T D_Web___init__ D_Web_require_place F20⟩
  have F21 := fun_mk (st := (top 41)) l21 c21 k21
  have D_web_within : Def l.prog w K mg base 9 "web_within" f_web_within := ⟨_, _, ["web", "places"], PySem.W.mg_of X G a21, F21.kp, F21.binds (ps := ["web", "places"]) (fun _ _ _ _ _ _ us hl => match us, hl with | [_, _], _ => rfl), ok_web_within T D_Web_places D_Web_without_places F21⟩
  have D_blocks_in : Def l.prog w K mg base 10 "blocks_in" f_blocks_in := ⟨_, _, ["web", "lot"], PySem.W.mg_of X G a22, FL22.kp, FL22.to.binds (ps := ["web", "lot"]) (fun _ _ _ _ _ _ us hl => match us, hl with | [_, _], _ => rfl), ok_blocks_in T TL22 D_Web_lots_without D_is_cut_place D_web_within FL22⟩
  have F23 := fun_mk (st := (top 26)) l23 c23 k23
  have D_require_web : Def l.prog w K mg base 1 "require_web" f_require_web := ⟨_, _, ["value"], PySem.W.mg_of X G a23, F23.kp, F23.binds (ps := ["value"]) (fun _ _ _ _ _ _ us hl => match us, hl with | [_], _ => rfl), ok_require_web T  F23⟩
  have F24 := fun_mk (st := (top 43)) l24 c24 k24
  have D_all_blocks : Def l.prog w K mg base 11 "all_blocks" f_all_blocks := ⟨_, _, ["web"], PySem.W.mg_of X G a24, F24.kp, F24.binds (ps := ["web"]) (fun _ _ _ _ _ _ us hl => match us, hl with | [_], _ => rfl), ok_all_blocks T D_Web_lots D_blocks_in D_require_web F24⟩
  have F25 := fun_mk (st := (top 33)) l25 c25 k25
  have D_all_partings : Def l.prog w K mg base 2 "all_partings" f_all_partings := ⟨_, _, ["web"], PySem.W.mg_of X G a25, F25.kp, F25.binds (ps := ["web"]) (fun _ _ _ _ _ _ us hl => match us, hl with | [_], _ => rfl), ok_all_partings T D_require_web F25⟩
  have F26 := fun_mk (st := (top 40)) l26 c26 k26
  have D_cut_places : Def l.prog w K mg base 2 "cut_places" f_cut_places := ⟨_, _, ["web"], PySem.W.mg_of X G a26, F26.kp, F26.binds (ps := ["web"]) (fun _ _ _ _ _ _ us hl => match us, hl with | [_], _ => rfl), ok_cut_places T D_require_web F26⟩
  have F27 := fun_mk (st := (top 46)) l27 c27 k27
  have D_block_doors : Def l.prog w K mg base 3 "block_doors" f_block_doors := ⟨_, _, ["web"], PySem.W.mg_of X G a27, F27.kp, F27.binds (ps := ["web"]) (fun _ _ _ _ _ _ us hl => match us, hl with | [_], _ => rfl), ok_block_doors T D_cut_places F27⟩
  have F28 := fun_mk (st := (top 45)) l28 c28 k28
  have D_block_web : Def l.prog w K mg base 12 "block_web" f_block_web := ⟨_, _, ["web", "block"], PySem.W.mg_of X G a28, F28.kp, F28.binds (ps := ["web", "block"]) (fun _ _ _ _ _ _ us hl => match us, hl with | [_, _], _ => rfl), ok_block_web T D_all_blocks D_require_web D_web_within F28⟩
  have F29 := fun_mk (st := (inClass (top 22) 12)) l29 c29 k29
  have D_Web_is_tied : MDef l.prog w K mg base 3 "Web" "is_tied" f_Web_is_tied := ⟨_, _, _, ["self", "a", "b"], PySem.W.mg_of X G ea_Web, ⟨w1_Web, w2_Web, w3_Web, w4_Web⟩, ⟨a29, n29, k29⟩, F29.binds (ps := ["self", "a", "b"]) (fun _ _ _ _ _ _ us hl => match us, hl with | [_, _, _], _ => rfl), ok_Web_is_tied T D_Web_require_place F29⟩
  have F30 := fun_mk (st := (inClass (top 22) 13)) l30 c30 k30
  have D_Web_require_tied : MDef l.prog w K mg base 4 "Web" "require_tied" f_Web_require_tied := ⟨_, _, _, ["self", "a", "b"], PySem.W.mg_of X G ea_Web, ⟨w1_Web, w2_Web, w3_Web, w4_Web⟩, ⟨a30, n30, k30⟩, F30.binds (ps := ["self", "a", "b"]) (fun _ _ _ _ _ _ us hl => match us, hl with | [_, _, _], _ => rfl), ok_Web_require_tied T D_Web_is_tied F30⟩
  have F31 := fun_mk (st := (top 44)) l31 c31 k31
  have D_block_with : Def l.prog w K mg base 12 "block_with" f_block_with := ⟨_, _, ["web", "a", "b"], PySem.W.mg_of X G a31, F31.kp, F31.binds (ps := ["web", "a", "b"]) (fun _ _ _ _ _ _ us hl => match us, hl with | [_, _, _], _ => rfl), ok_block_with T D_Web_require_tied D_all_blocks D_require_web F31⟩
  have F32 := fun_mk (st := (top 35)) l32 c32 k32
  have D_least_parting : Def l.prog w K mg base 2 "least_parting" f_least_parting := ⟨_, _, ["web"], PySem.W.mg_of X G a32, F32.kp, F32.binds (ps := ["web"]) (fun _ _ _ _ _ _ us hl => match us, hl with | [_], _ => rfl), ok_least_parting T D_require_web F32⟩
  have F33 := fun_mk (st := (top 36)) l33 c33 k33
  have D_held_level : Def l.prog w K mg base 3 "held_level" f_held_level := ⟨_, _, ["web"], PySem.W.mg_of X G a33, F33.kp, F33.binds (ps := ["web"]) (fun _ _ _ _ _ _ us hl => match us, hl with | [_], _ => rfl), ok_held_level T D_least_parting F33⟩
  have F34 := fun_mk (st := (top 38)) l34 c34 k34
  have D_is_held : Def l.prog w K mg base 2 "is_held" f_is_held := ⟨_, _, ["web"], PySem.W.mg_of X G a34, F34.kp, F34.binds (ps := ["web"]) (fun _ _ _ _ _ _ us hl => match us, hl with | [_], _ => rfl), ok_is_held T D_require_web F34⟩
  have F35 := fun_mk (st := (inClass (top 22) 25)) l35 c35 k35
  have D_Web___contains__ : MDef l.prog w K mg base 5 "Web" "__contains__" f_Web___contains__ := ⟨_, _, _, ["self", "value"], PySem.W.mg_of X G ea_Web, ⟨w1_Web, w2_Web, w3_Web, w4_Web⟩, ⟨a35, n35, k35⟩, F35.binds (ps := ["self", "value"]) (fun _ _ _ _ _ _ us hl => match us, hl with | [_, _], _ => rfl), ok_Web___contains__ T D_is_name D_is_tie F35⟩
  have F36 := fun_mk (st := (top 31)) l36 c36 k36
  have D_parts_web : Def l.prog w K mg base 4 "parts_web" f_parts_web := ⟨_, _, ["web", "places"], PySem.W.mg_of X G a36, F36.kp, F36.binds (ps := ["web", "places"]) (fun _ _ _ _ _ _ us hl => match us, hl with | [_, _], _ => rfl), ok_parts_web T D_Web_lots_without F36⟩
  have F37 := fun_mk (st := (top 32)) l37 c37 k37
  have D_is_parting : Def l.prog w K mg base 6 "is_parting" f_is_parting := ⟨_, _, ["web", "value"], PySem.W.mg_of X G a37, F37.kp, F37.binds (ps := ["web", "value"]) (fun _ _ _ _ _ _ us hl => match us, hl with | [_, _], _ => rfl), ok_is_parting T D_Web___contains__ D_are_rising D_parts_web D_require_web F37⟩
  have D__law_right : Def l.prog w K mg base 15 "_law_right" f__law_right := ⟨_, _, ["dice", "web"], PySem.W.mg_of X G a38, FL38.kp, FL38.to.binds (ps := ["dice", "web"]) (fun _ _ _ _ _ _ us hl => match us, hl with | [_, _], _ => rfl), ok__law_right T TL38 D_Web_places D_Web_ties D__law_pick D__law_word_of D_all_blocks D_all_partings D_block_doors D_block_web D_block_with D_cut_places D_held_level D_is_held D_is_parting D_least_parting FL38⟩
  have F39 := fun_mk (st := (top 51)) l39 c39 k39
  have D__law_tie : Def l.prog w K mg base 1 "_law_tie" f__law_tie := ⟨_, _, ["a", "b"], PySem.W.mg_of X G a39, F39.kp, F39.binds (ps := ["a", "b"]) (fun _ _ _ _ _ _ us hl => match us, hl with | [_, _], _ => rfl), ok__law_tie T  F39⟩
  have F40 := fun_mk (st := (top 54)) l40 c40 k40
  have D__law_pairs : Def l.prog w K mg base 2 "_law_pairs" f__law_pairs := ⟨_, _, ["places"], PySem.W.mg_of X G a40, F40.kp, F40.binds (ps := ["places"]) (fun _ _ _ _ _ _ us hl => match us, hl with | [_], _ => rfl), ok__law_pairs T D__law_tie F40⟩
  have F41 := fun_mk (st := (top 52)) l41 c41 k41
  have D__law_plain : Def l.prog w K mg base 2 "_law_plain" f__law_plain := ⟨_, _, ["places", "ties"], PySem.W.mg_of X G a41, F41.kp, F41.binds (ps := ["places", "ties"]) (fun _ _ _ _ _ _ us hl => match us, hl with | [_, _], _ => rfl), ok__law_plain T D__law_tie F41⟩
  have F42 := fun_mk (st := (top 55)) l42 c42 k42
  have D__law_wheel : Def l.prog w K mg base 3 "_law_wheel" f__law_wheel := ⟨_, _, ["hub", "ring"], PySem.W.mg_of X G a42, F42.kp, F42.binds (ps := ["hub", "ring"]) (fun _ _ _ _ _ _ us hl => match us, hl with | [_, _], _ => rfl), ok__law_wheel T D__law_plain F42⟩
  have F43 := fun_mk (st := (top 56)) l43 c43 k43
  have D__law_written : Def l.prog w K mg base 4 "_law_written" f__law_written := ⟨_, _, ["way"], PySem.W.mg_of X G a43, F43.kp, F43.binds (ps := ["way"]) (fun _ _ _ _ _ _ us hl => match us, hl with | [_], _ => rfl), ok__law_written T D__law_pairs D__law_plain D__law_wheel F43⟩
  exact ok_law T D__law_dice D__law_made D__law_right D__law_written (fun_mk (st := top 59) l44 c44 k44)
theorem walk {l : PySem.W.OpenLaw} {q : Program} {loose : List Str} {XP : (Str → Option Value) → Heap → Prop} {YP : World → Heap → Prop} {d : DefRec} {K : Params → PySem.W.Frag} (plain : PlainT tsL f_law) (hn : l.most = some 63) (hdf : d.params.defaults = [])
    (hY : ∀ (w : World) (h : Heap), YP w h → (K w.params).In h) (rec : (tsL.all fun t => (recsOf q).any fun e => e.name == t.1) = true)
    (F : ∀ (w : World) (mg : Str → Option Value) (fa : Addr) (h : Heap), (K w.params).In h → h.Ns mainGlobals mg → mg d.name = some (.ref fa) →
      ∃ (fd : FuncData) (cs : List (Addr × Addr)), (tsL.length = cs.length) ∧ (cs.map (·.2)).Nodup ∧ (∀ (i : Nat) (t : Str × Str) (p : Addr × Addr), tsL[i]? = some t → cs[i]? = some p → TabOf (K w.params) mg t.1 p.1 p.2) ∧ (∀ p ∈ cs, (K w.params).lookup p.2 = none) ∧ (∀ p ∈ cs, PySem.W.codeHdIn (K w.params) p.1 p.2 = true) ∧ (∀ (s : Shared) (u : Value), BindsTo s fd ⟨[u], []⟩ [("script", u)]) ∧ ∀ base : Heap, (K w.params).In base → base.Ns mainGlobals mg → (∀ p ∈ cs, LamX.TabB base mg p.1 p.2) → FnG l.prog w (K w.params) mg base (L2.CX l.prog w) 16 fa fd ["script"] (spM w (K w.params) mg f_law)) :
    PySem.W.WalkO q loose XP YP l.row.toRowW d [] (fun f vs => PySem.call f vs) :=
  walk_GT (n := 63) (k := 16) (x := "script") (ts := tsL) (CX := fun w => L2.CX l.prog w) (sp := fun w mg => spM w (K w.params) mg f_law) hn (by decide) hdf ⟨rfl, by decide, by decide⟩ hY (fun t ht => List.all_eq_true.mp rec t ht) F (fun _ _ _ _ _ _ hl len nd tab hT hS => sp_lawT plain len nd tab hl hT hS) fun _ _ _ _ _ z => cx_none z
end
end Wg.K19

set_option maxHeartbeats 0
namespace Wg.K19
open PySem Wg
noncomputable abbrev WH : PV := .ins "Web" [.dct [(.str [97], .tup [.str [98], .str [99]]), (.str [98], .tup [.str [97], .str [99]]), (.str [99], .tup [.str [97], .str [98], .str [100], .str [101]]), (.str [100], .tup [.str [99], .str [101]]), (.str [101], .tup [.str [99], .str [100], .str [102]]), (.str [102], .tup [.str [101]])], .tup [.tup [.str [97], .str [98], .str [99], .str [100], .str [101], .str [102]]], .tup [.str [97], .str [98], .str [99], .str [100], .str [101], .str [102]], .dcT [(.tup [.str [97], .str [98]], .bl true), (.tup [.str [97], .str [99]], .bl true), (.tup [.str [98], .str [99]], .bl true), (.tup [.str [99], .str [100]], .bl true), (.tup [.str [99], .str [101]], .bl true), (.tup [.str [100], .str [101]], .bl true), (.tup [.str [101], .str [102]], .bl true)]]
noncomputable abbrev noneL : List PV := [.non, .int 0, .str [], .tup [], .lst [], .dct [], .tup [.tup [.str [97], .str [98]], .tup [.str [97], .str [99]], .tup [.str [98], .str [99]], .tup [.str [99], .str [100]], .tup [.str [99], .str [101]], .tup [.str [100], .str [101]], .tup [.str [101], .str [102]]], .tup [.str [97], .str [98], .str [99], .str [100], .str [101], .str [102]], .bl true, .str [119, 101, 98]]
noncomputable abbrev blockL : List PV := [.non, .int 0, .tup [], .lst [.str [97], .str [98], .str [99]], .tup [.str [97], .str [98]], .tup [.str [99], .str [98], .str [97]], .tup [.str [97], .str [98], .str [99], .str [100]], .dct [], .str [97, 98, 99]]
noncomputable abbrev nmL : List (PV × List Nat) := [(.non, [117, 110, 107, 110, 111, 119, 110, 32, 78, 111, 110, 101]), (.int 0, [117, 110, 107, 110, 111, 119, 110, 32, 48]), (.str [], [117, 110, 107, 110, 111, 119, 110, 32, 39, 39]), (.str [65], [117, 110, 107, 110, 111, 119, 110, 32, 39, 65, 39]), (.str [110, 111, 98, 111, 100, 121], [117, 110, 107, 110, 111, 119, 110, 32, 39, 110, 111, 98, 111, 100, 121, 39]), (.tup [.str [97]], [117, 110, 107, 110, 111, 119, 110, 32, 40, 39, 97, 39, 44, 41]), (.lst [.str [97]], [117, 110, 107, 110, 111, 119, 110, 32, 91, 39, 97, 39, 93]), (.dct [], [117, 110, 107, 110, 111, 119, 110, 32, 123, 125]), (.bl true, [117, 110, 107, 110, 111, 119, 110, 32, 84, 114, 117, 101])]
noncomputable abbrev nameL : List PV := nmL.map (·.1)
noncomputable abbrev S0 : Store := [.tab "blocks_in" "blocks_in.<locals>.<genexpr>", .tab "_law_right" "_law_right.<locals>.<lambda>"]
noncomputable abbrev D3 : Type := Int × Int × Int
noncomputable abbrev dc (d : D3) : Cell := .lst [.int d.1, .int d.2.1, .int d.2.2]
/-- the store when a law's turn begins: one to six dice -/
noncomputable abbrev St (ds : List D3) : Store := S0 ++ ds.map dc
theorem six {P : List D3 → Prop} (h1 : ∀ a, P [a]) (h2 : ∀ a b, P [a, b]) (h3 : ∀ a b c, P [a, b, c]) (h4 : ∀ a b c d, P [a, b, c, d]) (h5 : ∀ a b c d e, P [a, b, c, d, e]) (h6 : ∀ a b c d e f, P [a, b, c, d, e, f]) : ∀ ds : List D3, 1 ≤ ds.length → ds.length ≤ 6 → P ds
  | [], h, _ => by simp at h
  | [a], _, _ => h1 a
  | [a, b], _, _ => h2 a b
  | [a, b, c], _, _ => h3 a b c
  | [a, b, c, d], _, _ => h4 a b c d
  | [a, b, c, d, e], _, _ => h5 a b c d e
  | [a, b, c, d, e, f], _, _ => h6 a b c d e f
  | _ :: _ :: _ :: _ :: _ :: _ :: _ :: _, _, h => by simp only [List.length_cons] at h; omega
noncomputable abbrev wWeb : PV := .str [119, 101, 98]
noncomputable abbrev wTie : PV := .str [116, 105, 101]
noncomputable abbrev wPart : PV := .str [112, 97, 114, 116]
noncomputable abbrev wFine : PV := .str [102, 105, 110, 101]
noncomputable abbrev lR (ds : List D3) (x2 x3 x4 x5 x6 : Option PV) : Lv := [some (.ref (ds.length + 1)), some WH, x2, x3, x4, x5, x6]
noncomputable abbrev tR (ds : List D3) : Option PV := some (.ref (ds.length + 2))
theorem r4 (y z : PV) : ∀ x ∈ noneL, ∀ ds : List D3, 1 ≤ ds.length → ds.length ≤ 6 → s__law_right_4 (lR ds (some x) (some y) (some z) none none) (St ds) = .ok (.nx (lR ds (some x) (some y) (some z) (tR ds) none)) (St ds ++ [.lst [wWeb]]) := by
  simp only [noneL, List.forall_mem_cons]
  refine ⟨?_, ?_, ?_, ?_, ?_, ?_, ?_, ?_, ?_, ?_, fun _ h => absurd h List.not_mem_nil⟩
  all_goals exact six (fun a => by kernel_rfl) (fun a b => by kernel_rfl) (fun a b c => by kernel_rfl) (fun a b c d => by kernel_rfl) (fun a b c d e => by kernel_rfl) (fun a b c d e f => by kernel_rfl)
theorem r5 (y z : PV) : ∀ x ∈ noneL, ∀ ds : List D3, 1 ≤ ds.length → ds.length ≤ 6 → s__law_right_5 (lR ds (some x) (some y) (some z) (tR ds) none) (St ds ++ [.lst [wWeb]]) = .ok (.nx (lR ds (some x) (some y) (some z) (tR ds) none)) (St ds ++ [.lst [wWeb, wWeb]]) := by
  simp only [noneL, List.forall_mem_cons]
  refine ⟨?_, ?_, ?_, ?_, ?_, ?_, ?_, ?_, ?_, ?_, fun _ h => absurd h List.not_mem_nil⟩
  all_goals exact six (fun a => by kernel_rfl) (fun a b => by kernel_rfl) (fun a b c => by kernel_rfl) (fun a b c d => by kernel_rfl) (fun a b c d e => by kernel_rfl) (fun a b c d e f => by kernel_rfl)
theorem r6 (y z : PV) : ∀ x ∈ noneL, ∀ ds : List D3, 1 ≤ ds.length → ds.length ≤ 6 → s__law_right_6 (lR ds (some x) (some y) (some z) (tR ds) none) (St ds ++ [.lst [wWeb, wWeb]]) = .ok (.nx (lR ds (some x) (some y) (some z) (tR ds) none)) (St ds ++ [.lst [wWeb, wWeb, wWeb]]) := by
  simp only [noneL, List.forall_mem_cons]
  refine ⟨?_, ?_, ?_, ?_, ?_, ?_, ?_, ?_, ?_, ?_, fun _ h => absurd h List.not_mem_nil⟩
  all_goals exact six (fun a => by kernel_rfl) (fun a b => by kernel_rfl) (fun a b c => by kernel_rfl) (fun a b c d => by kernel_rfl) (fun a b c d e => by kernel_rfl) (fun a b c d e f => by kernel_rfl)
theorem r7 (y z : PV) : ∀ x ∈ noneL, ∀ ds : List D3, 1 ≤ ds.length → ds.length ≤ 6 → s__law_right_7 (lR ds (some x) (some y) (some z) (tR ds) none) (St ds ++ [.lst [wWeb, wWeb, wWeb]]) = .ok (.nx (lR ds (some x) (some y) (some z) (tR ds) none)) (St ds ++ [.lst [wWeb, wWeb, wWeb, wWeb]]) := by
  simp only [noneL, List.forall_mem_cons]
  refine ⟨?_, ?_, ?_, ?_, ?_, ?_, ?_, ?_, ?_, ?_, fun _ h => absurd h List.not_mem_nil⟩
  all_goals exact six (fun a => by kernel_rfl) (fun a b => by kernel_rfl) (fun a b c => by kernel_rfl) (fun a b c d => by kernel_rfl) (fun a b c d e => by kernel_rfl) (fun a b c d e f => by kernel_rfl)
theorem r8 (y z : PV) : ∀ x ∈ noneL, ∀ ds : List D3, 1 ≤ ds.length → ds.length ≤ 6 → s__law_right_8 (lR ds (some x) (some y) (some z) (tR ds) none) (St ds ++ [.lst [wWeb, wWeb, wWeb, wWeb]]) = .ok (.nx (lR ds (some x) (some y) (some z) (tR ds) none)) (St ds ++ [.lst [wWeb, wWeb, wWeb, wWeb, wWeb]]) := by
  simp only [noneL, List.forall_mem_cons]
  refine ⟨?_, ?_, ?_, ?_, ?_, ?_, ?_, ?_, ?_, ?_, fun _ h => absurd h List.not_mem_nil⟩
  all_goals exact six (fun a => by kernel_rfl) (fun a b => by kernel_rfl) (fun a b c => by kernel_rfl) (fun a b c d => by kernel_rfl) (fun a b c d e => by kernel_rfl) (fun a b c d e f => by kernel_rfl)
theorem r9 (y z : PV) : ∀ x ∈ noneL, ∀ ds : List D3, 1 ≤ ds.length → ds.length ≤ 6 → s__law_right_9 (lR ds (some x) (some y) (some z) (tR ds) none) (St ds ++ [.lst [wWeb, wWeb, wWeb, wWeb, wWeb]]) = .ok (.nx (lR ds (some x) (some y) (some z) (tR ds) none)) (St ds ++ [.lst [wWeb, wWeb, wWeb, wWeb, wWeb, wWeb]]) := by
  simp only [noneL, List.forall_mem_cons]
  refine ⟨?_, ?_, ?_, ?_, ?_, ?_, ?_, ?_, ?_, ?_, fun _ h => absurd h List.not_mem_nil⟩
  all_goals exact six (fun a => by kernel_rfl) (fun a b => by kernel_rfl) (fun a b c => by kernel_rfl) (fun a b c d => by kernel_rfl) (fun a b c d e => by kernel_rfl) (fun a b c d e f => by kernel_rfl)
theorem r10 (y z : PV) : ∀ x ∈ noneL, ∀ ds : List D3, 1 ≤ ds.length → ds.length ≤ 6 → s__law_right_10 (lR ds (some x) (some y) (some z) (tR ds) none) (St ds ++ [.lst [wWeb, wWeb, wWeb, wWeb, wWeb, wWeb]]) = .ok (.nx (lR ds (some x) (some y) (some z) (tR ds) none)) (St ds ++ [.lst [wWeb, wWeb, wWeb, wWeb, wWeb, wWeb, wWeb]]) := by
  simp only [noneL, List.forall_mem_cons]
  refine ⟨?_, ?_, ?_, ?_, ?_, ?_, ?_, ?_, ?_, ?_, fun _ h => absurd h List.not_mem_nil⟩
  all_goals exact six (fun a => by kernel_rfl) (fun a b => by kernel_rfl) (fun a b c => by kernel_rfl) (fun a b c d => by kernel_rfl) (fun a b c d e => by kernel_rfl) (fun a b c d e f => by kernel_rfl)
theorem r11 (y z : PV) : ∀ x ∈ noneL, ∀ ds : List D3, 1 ≤ ds.length → ds.length ≤ 6 → s__law_right_11 (lR ds (some x) (some y) (some z) (tR ds) none) (St ds ++ [.lst [wWeb, wWeb, wWeb, wWeb, wWeb, wWeb, wWeb]]) = .ok (.nx (lR ds (some x) (some y) (some z) (tR ds) none)) (St ds ++ [.lst [wWeb, wWeb, wWeb, wWeb, wWeb, wWeb, wWeb, wWeb]]) := by
  simp only [noneL, List.forall_mem_cons]
  refine ⟨?_, ?_, ?_, ?_, ?_, ?_, ?_, ?_, ?_, ?_, fun _ h => absurd h List.not_mem_nil⟩
  all_goals exact six (fun a => by kernel_rfl) (fun a b => by kernel_rfl) (fun a b c => by kernel_rfl) (fun a b c d => by kernel_rfl) (fun a b c d e => by kernel_rfl) (fun a b c d e f => by kernel_rfl)
theorem r12 (y z : PV) : ∀ x ∈ noneL, ∀ ds : List D3, 1 ≤ ds.length → ds.length ≤ 6 → s__law_right_12 (lR ds (some x) (some y) (some z) (tR ds) none) (St ds ++ [.lst [wWeb, wWeb, wWeb, wWeb, wWeb, wWeb, wWeb, wWeb]]) = .ok (.nx (lR ds (some x) (some y) (some z) (tR ds) none)) (St ds ++ [.lst [wWeb, wWeb, wWeb, wWeb, wWeb, wWeb, wWeb, wWeb, wWeb]]) := by
  simp only [noneL, List.forall_mem_cons]
  refine ⟨?_, ?_, ?_, ?_, ?_, ?_, ?_, ?_, ?_, ?_, fun _ h => absurd h List.not_mem_nil⟩
  all_goals exact six (fun a => by kernel_rfl) (fun a b => by kernel_rfl) (fun a b c => by kernel_rfl) (fun a b c d => by kernel_rfl) (fun a b c d e => by kernel_rfl) (fun a b c d e f => by kernel_rfl)
theorem r13 (y z : PV) : ∀ x ∈ noneL, ∀ ds : List D3, 1 ≤ ds.length → ds.length ≤ 6 → s__law_right_13 (lR ds (some x) (some y) (some z) (tR ds) none) (St ds ++ [.lst [wWeb, wWeb, wWeb, wWeb, wWeb, wWeb, wWeb, wWeb, wWeb]]) = .ok (.nx (lR ds (some x) (some y) (some z) (tR ds) none)) (St ds ++ [.lst [wWeb, wWeb, wWeb, wWeb, wWeb, wWeb, wWeb, wWeb, wWeb, wWeb]]) := by
  simp only [noneL, List.forall_mem_cons]
  refine ⟨?_, ?_, ?_, ?_, ?_, ?_, ?_, ?_, ?_, ?_, fun _ h => absurd h List.not_mem_nil⟩
  all_goals exact six (fun a => by kernel_rfl) (fun a b => by kernel_rfl) (fun a b c => by kernel_rfl) (fun a b c d => by kernel_rfl) (fun a b c d e => by kernel_rfl) (fun a b c d e f => by kernel_rfl)
theorem r14 (y z : PV) : ∀ p ∈ nmL, ∀ ds : List D3, 1 ≤ ds.length → ds.length ≤ 6 → s__law_right_14 (lR ds (some y) (some p.1) (some z) (tR ds) none) (St ds ++ [.lst [wWeb, wWeb, wWeb, wWeb, wWeb, wWeb, wWeb, wWeb, wWeb, wWeb]]) = .ok (.nx (lR ds (some y) (some p.1) (some z) (tR ds) none)) (St ds ++ [.lst [wWeb, wWeb, wWeb, wWeb, wWeb, wWeb, wWeb, wWeb, wWeb, wWeb, .str p.2]]) := by
  simp only [nmL, List.forall_mem_cons]
  refine ⟨?_, ?_, ?_, ?_, ?_, ?_, ?_, ?_, ?_, fun _ h => absurd h List.not_mem_nil⟩
  all_goals exact six (fun a => by kernel_rfl) (fun a b => by kernel_rfl) (fun a b c => by kernel_rfl) (fun a b c d => by kernel_rfl) (fun a b c d e => by kernel_rfl) (fun a b c d e f => by kernel_rfl)
theorem r15 (y z : PV) : ∀ p ∈ nmL, ∀ ds : List D3, 1 ≤ ds.length → ds.length ≤ 6 → s__law_right_15 (lR ds (some y) (some p.1) (some z) (tR ds) none) (St ds ++ [.lst [wWeb, wWeb, wWeb, wWeb, wWeb, wWeb, wWeb, wWeb, wWeb, wWeb, .str p.2]]) = .ok (.nx (lR ds (some y) (some p.1) (some z) (tR ds) none)) (St ds ++ [.lst [wWeb, wWeb, wWeb, wWeb, wWeb, wWeb, wWeb, wWeb, wWeb, wWeb, .str p.2, .str p.2]]) := by
  simp only [nmL, List.forall_mem_cons]
  refine ⟨?_, ?_, ?_, ?_, ?_, ?_, ?_, ?_, ?_, fun _ h => absurd h List.not_mem_nil⟩
  all_goals exact six (fun a => by kernel_rfl) (fun a b => by kernel_rfl) (fun a b c => by kernel_rfl) (fun a b c d => by kernel_rfl) (fun a b c d e => by kernel_rfl) (fun a b c d e f => by kernel_rfl)
theorem r16 (x y z : PV) (u : List Nat) : ∀ ds : List D3, 1 ≤ ds.length → ds.length ≤ 6 → s__law_right_16 (lR ds (some x) (some y) (some z) (tR ds) none) (St ds ++ [.lst [wWeb, wWeb, wWeb, wWeb, wWeb, wWeb, wWeb, wWeb, wWeb, wWeb, .str u, .str u]]) = .ok (.nx (lR ds (some x) (some y) (some z) (tR ds) none)) (St ds ++ [.lst [wWeb, wWeb, wWeb, wWeb, wWeb, wWeb, wWeb, wWeb, wWeb, wWeb, .str u, .str u, wTie]]) := six (fun a => by kernel_rfl) (fun a b => by kernel_rfl) (fun a b c => by kernel_rfl) (fun a b c d => by kernel_rfl) (fun a b c d e => by kernel_rfl) (fun a b c d e f => by kernel_rfl)
theorem r17 (x y z : PV) (u : List Nat) : ∀ ds : List D3, 1 ≤ ds.length → ds.length ≤ 6 → s__law_right_17 (lR ds (some x) (some y) (some z) (tR ds) none) (St ds ++ [.lst [wWeb, wWeb, wWeb, wWeb, wWeb, wWeb, wWeb, wWeb, wWeb, wWeb, .str u, .str u, wTie]]) = .ok (.nx (lR ds (some x) (some y) (some z) (tR ds) none)) (St ds ++ [.lst [wWeb, wWeb, wWeb, wWeb, wWeb, wWeb, wWeb, wWeb, wWeb, wWeb, .str u, .str u, wTie, wTie]]) := six (fun a => by kernel_rfl) (fun a b => by kernel_rfl) (fun a b c => by kernel_rfl) (fun a b c d => by kernel_rfl) (fun a b c d e => by kernel_rfl) (fun a b c d e f => by kernel_rfl)
theorem r19 (x y z : PV) (u : List Nat) : ∀ ds : List D3, 1 ≤ ds.length → ds.length ≤ 6 → s__law_right_19 (lR ds (some x) (some y) (some z) (tR ds) none) (St ds ++ [.lst [wWeb, wWeb, wWeb, wWeb, wWeb, wWeb, wWeb, wWeb, wWeb, wWeb, .str u, .str u, wTie, wTie, wPart]]) = .ok (.nx (lR ds (some x) (some y) (some z) (tR ds) none)) (St ds ++ [.lst [wWeb, wWeb, wWeb, wWeb, wWeb, wWeb, wWeb, wWeb, wWeb, wWeb, .str u, .str u, wTie, wTie, wPart, wFine]]) := six (fun a => by kernel_rfl) (fun a b => by kernel_rfl) (fun a b c => by kernel_rfl) (fun a b c d => by kernel_rfl) (fun a b c d e => by kernel_rfl) (fun a b c d e f => by kernel_rfl)
theorem r18_0 (y z : PV) (u : List Nat) : ∀ ds : List D3, 1 ≤ ds.length → ds.length ≤ 6 → s__law_right_18 (lR ds (some y) (some z) (some (.non)) (tR ds) none) (St ds ++ [.lst [wWeb, wWeb, wWeb, wWeb, wWeb, wWeb, wWeb, wWeb, wWeb, wWeb, .str u, .str u, wTie, wTie]]) = .ok (.nx (lR ds (some y) (some z) (some (.non)) (tR ds) none)) (St ds ++ [.lst [wWeb, wWeb, wWeb, wWeb, wWeb, wWeb, wWeb, wWeb, wWeb, wWeb, .str u, .str u, wTie, wTie, wPart]]) := six (fun a => by kernel_rfl) (fun a b => by kernel_rfl) (fun a b c => by kernel_rfl) (fun a b c d => by kernel_rfl) (fun a b c d e => by kernel_rfl) (fun a b c d e f => by kernel_rfl)
theorem r18_1 (y z : PV) (u : List Nat) : ∀ ds : List D3, 1 ≤ ds.length → ds.length ≤ 6 → s__law_right_18 (lR ds (some y) (some z) (some (.int 0)) (tR ds) none) (St ds ++ [.lst [wWeb, wWeb, wWeb, wWeb, wWeb, wWeb, wWeb, wWeb, wWeb, wWeb, .str u, .str u, wTie, wTie]]) = .ok (.nx (lR ds (some y) (some z) (some (.int 0)) (tR ds) none)) (St ds ++ [.lst [wWeb, wWeb, wWeb, wWeb, wWeb, wWeb, wWeb, wWeb, wWeb, wWeb, .str u, .str u, wTie, wTie, wPart]]) := six (fun a => by kernel_rfl) (fun a b => by kernel_rfl) (fun a b c => by kernel_rfl) (fun a b c d => by kernel_rfl) (fun a b c d e => by kernel_rfl) (fun a b c d e f => by kernel_rfl)
theorem r18_2 (y z : PV) (u : List Nat) : ∀ ds : List D3, 1 ≤ ds.length → ds.length ≤ 6 → s__law_right_18 (lR ds (some y) (some z) (some (.tup [])) (tR ds) none) (St ds ++ [.lst [wWeb, wWeb, wWeb, wWeb, wWeb, wWeb, wWeb, wWeb, wWeb, wWeb, .str u, .str u, wTie, wTie]]) = .ok (.nx (lR ds (some y) (some z) (some (.tup [])) (tR ds) none)) (St ds ++ [.lst [wWeb, wWeb, wWeb, wWeb, wWeb, wWeb, wWeb, wWeb, wWeb, wWeb, .str u, .str u, wTie, wTie, wPart]]) := six (fun a => by kernel_rfl) (fun a b => by kernel_rfl) (fun a b c => by kernel_rfl) (fun a b c d => by kernel_rfl) (fun a b c d e => by kernel_rfl) (fun a b c d e f => by kernel_rfl)
theorem r18_3 (y z : PV) (u : List Nat) : ∀ ds : List D3, 1 ≤ ds.length → ds.length ≤ 6 → s__law_right_18 (lR ds (some y) (some z) (some (.lst [.str [97], .str [98], .str [99]])) (tR ds) none) (St ds ++ [.lst [wWeb, wWeb, wWeb, wWeb, wWeb, wWeb, wWeb, wWeb, wWeb, wWeb, .str u, .str u, wTie, wTie]]) = .ok (.nx (lR ds (some y) (some z) (some (.lst [.str [97], .str [98], .str [99]])) (tR ds) none)) (St ds ++ [.lst [wWeb, wWeb, wWeb, wWeb, wWeb, wWeb, wWeb, wWeb, wWeb, wWeb, .str u, .str u, wTie, wTie, wPart]]) := six (fun a => by kernel_rfl) (fun a b => by kernel_rfl) (fun a b c => by kernel_rfl) (fun a b c d => by kernel_rfl) (fun a b c d e => by kernel_rfl) (fun a b c d e f => by kernel_rfl)
theorem r18_4 (y z : PV) (u : List Nat) : ∀ ds : List D3, 1 ≤ ds.length → ds.length ≤ 6 → s__law_right_18 (lR ds (some y) (some z) (some (.tup [.str [97], .str [98]])) (tR ds) none) (St ds ++ [.lst [wWeb, wWeb, wWeb, wWeb, wWeb, wWeb, wWeb, wWeb, wWeb, wWeb, .str u, .str u, wTie, wTie]]) = .ok (.nx (lR ds (some y) (some z) (some (.tup [.str [97], .str [98]])) (tR ds) none)) (St ds ++ [.lst [wWeb, wWeb, wWeb, wWeb, wWeb, wWeb, wWeb, wWeb, wWeb, wWeb, .str u, .str u, wTie, wTie, wPart]]) := six (fun a => by kernel_rfl) (fun a b => by kernel_rfl) (fun a b c => by kernel_rfl) (fun a b c d => by kernel_rfl) (fun a b c d e => by kernel_rfl) (fun a b c d e f => by kernel_rfl)
theorem r18_5 (y z : PV) (u : List Nat) : ∀ ds : List D3, 1 ≤ ds.length → ds.length ≤ 6 → s__law_right_18 (lR ds (some y) (some z) (some (.tup [.str [99], .str [98], .str [97]])) (tR ds) none) (St ds ++ [.lst [wWeb, wWeb, wWeb, wWeb, wWeb, wWeb, wWeb, wWeb, wWeb, wWeb, .str u, .str u, wTie, wTie]]) = .ok (.nx (lR ds (some y) (some z) (some (.tup [.str [99], .str [98], .str [97]])) (tR ds) none)) (St ds ++ [.lst [wWeb, wWeb, wWeb, wWeb, wWeb, wWeb, wWeb, wWeb, wWeb, wWeb, .str u, .str u, wTie, wTie, wPart]]) := six (fun a => by kernel_rfl) (fun a b => by kernel_rfl) (fun a b c => by kernel_rfl) (fun a b c d => by kernel_rfl) (fun a b c d e => by kernel_rfl) (fun a b c d e f => by kernel_rfl)
theorem r18_6 (y z : PV) (u : List Nat) : ∀ ds : List D3, 1 ≤ ds.length → ds.length ≤ 6 → s__law_right_18 (lR ds (some y) (some z) (some (.tup [.str [97], .str [98], .str [99], .str [100]])) (tR ds) none) (St ds ++ [.lst [wWeb, wWeb, wWeb, wWeb, wWeb, wWeb, wWeb, wWeb, wWeb, wWeb, .str u, .str u, wTie, wTie]]) = .ok (.nx (lR ds (some y) (some z) (some (.tup [.str [97], .str [98], .str [99], .str [100]])) (tR ds) none)) (St ds ++ [.lst [wWeb, wWeb, wWeb, wWeb, wWeb, wWeb, wWeb, wWeb, wWeb, wWeb, .str u, .str u, wTie, wTie, wPart]]) := six (fun a => by kernel_rfl) (fun a b => by kernel_rfl) (fun a b c => by kernel_rfl) (fun a b c d => by kernel_rfl) (fun a b c d e => by kernel_rfl) (fun a b c d e f => by kernel_rfl)
theorem r18_7 (y z : PV) (u : List Nat) : ∀ ds : List D3, 1 ≤ ds.length → ds.length ≤ 6 → s__law_right_18 (lR ds (some y) (some z) (some (.dct [])) (tR ds) none) (St ds ++ [.lst [wWeb, wWeb, wWeb, wWeb, wWeb, wWeb, wWeb, wWeb, wWeb, wWeb, .str u, .str u, wTie, wTie]]) = .ok (.nx (lR ds (some y) (some z) (some (.dct [])) (tR ds) none)) (St ds ++ [.lst [wWeb, wWeb, wWeb, wWeb, wWeb, wWeb, wWeb, wWeb, wWeb, wWeb, .str u, .str u, wTie, wTie, wPart]]) := six (fun a => by kernel_rfl) (fun a b => by kernel_rfl) (fun a b c => by kernel_rfl) (fun a b c d => by kernel_rfl) (fun a b c d e => by kernel_rfl) (fun a b c d e f => by kernel_rfl)
theorem r18_8 (y z : PV) (u : List Nat) : ∀ ds : List D3, 1 ≤ ds.length → ds.length ≤ 6 → s__law_right_18 (lR ds (some y) (some z) (some (.str [97, 98, 99])) (tR ds) none) (St ds ++ [.lst [wWeb, wWeb, wWeb, wWeb, wWeb, wWeb, wWeb, wWeb, wWeb, wWeb, .str u, .str u, wTie, wTie]]) = .ok (.nx (lR ds (some y) (some z) (some (.str [97, 98, 99])) (tR ds) none)) (St ds ++ [.lst [wWeb, wWeb, wWeb, wWeb, wWeb, wWeb, wWeb, wWeb, wWeb, wWeb, .str u, .str u, wTie, wTie, wPart]]) := six (fun a => by kernel_rfl) (fun a b => by kernel_rfl) (fun a b c => by kernel_rfl) (fun a b c d => by kernel_rfl) (fun a b c d e => by kernel_rfl) (fun a b c d e f => by kernel_rfl)
theorem r18 (y z : PV) (u : List Nat) : ∀ x ∈ blockL, ∀ ds : List D3, 1 ≤ ds.length → ds.length ≤ 6 → s__law_right_18 (lR ds (some y) (some z) (some x) (tR ds) none) (St ds ++ [.lst [wWeb, wWeb, wWeb, wWeb, wWeb, wWeb, wWeb, wWeb, wWeb, wWeb, .str u, .str u, wTie, wTie]]) = .ok (.nx (lR ds (some y) (some z) (some x) (tR ds) none)) (St ds ++ [.lst [wWeb, wWeb, wWeb, wWeb, wWeb, wWeb, wWeb, wWeb, wWeb, wWeb, .str u, .str u, wTie, wTie, wPart]]) := by
  simp only [blockL, List.forall_mem_cons]
  exact ⟨r18_0 y z u, r18_1 y z u, r18_2 y z u, r18_3 y z u, r18_4 y z u, r18_5 y z u, r18_6 y z u, r18_7 y z u, r18_8 y z u, fun _ h => absurd h List.not_mem_nil⟩
theorem r20 (y z : PV) (u : List Nat) : ∀ x ∈ noneL, ∀ ds : List D3, 1 ≤ ds.length → ds.length ≤ 6 → s__law_right_20 (lR ds (some x) (some y) (some z) (tR ds) none) (St ds ++ [.lst [wWeb, wWeb, wWeb, wWeb, wWeb, wWeb, wWeb, wWeb, wWeb, wWeb, .str u, .str u, wTie, wTie, wPart, wFine]]) = .ok (.nx (lR ds (some x) (some y) (some z) (tR ds) none)) (St ds ++ [.lst [wWeb, wWeb, wWeb, wWeb, wWeb, wWeb, wWeb, wWeb, wWeb, wWeb, .str u, .str u, wTie, wTie, wPart, wFine, wFine]]) := by
  simp only [noneL, List.forall_mem_cons]
  refine ⟨?_, ?_, ?_, ?_, ?_, ?_, ?_, ?_, ?_, ?_, fun _ h => absurd h List.not_mem_nil⟩
  all_goals exact six (fun a => by kernel_rfl) (fun a b => by kernel_rfl) (fun a b c => by kernel_rfl) (fun a b c d => by kernel_rfl) (fun a b c d e => by kernel_rfl) (fun a b c d e f => by kernel_rfl)
theorem r21 (y z : PV) : ∀ p ∈ nmL, ∀ ds : List D3, 1 ≤ ds.length → ds.length ≤ 6 → s__law_right_21 (lR ds (some y) (some p.1) (some z) (tR ds) none) (St ds ++ [.lst [wWeb, wWeb, wWeb, wWeb, wWeb, wWeb, wWeb, wWeb, wWeb, wWeb, .str p.2, .str p.2, wTie, wTie, wPart, wFine, wFine]]) = .ok (.nx (lR ds (some y) (some p.1) (some z) (tR ds) (some (.str p.2)))) (St ds ++ [.lst [wWeb, wWeb, wWeb, wWeb, wWeb, wWeb, wWeb, wWeb, wWeb, wWeb, .str p.2, .str p.2, wTie, wTie, wPart, wFine, wFine]]) := by
  simp only [nmL, List.forall_mem_cons]
  refine ⟨?_, ?_, ?_, ?_, ?_, ?_, ?_, ?_, ?_, fun _ h => absurd h List.not_mem_nil⟩
  all_goals exact six (fun a => by kernel_rfl) (fun a b => by kernel_rfl) (fun a b c => by kernel_rfl) (fun a b c d => by kernel_rfl) (fun a b c d e => by kernel_rfl) (fun a b c d e f => by kernel_rfl)
theorem r22 (y z : PV) : ∀ p ∈ nmL, ∀ ds : List D3, 1 ≤ ds.length → ds.length ≤ 6 → s__law_right_22 (lR ds (some y) (some p.1) (some z) (tR ds) (some (.str p.2))) (St ds ++ [.lst [wWeb, wWeb, wWeb, wWeb, wWeb, wWeb, wWeb, wWeb, wWeb, wWeb, .str p.2, .str p.2, wTie, wTie, wPart, wFine, wFine]]) = .ok (.rt (.bl true)) (St ds ++ [.lst [wWeb, wWeb, wWeb, wWeb, wWeb, wWeb, wWeb, wWeb, wWeb, wWeb, .str p.2, .str p.2, wTie, wTie, wPart, wFine, wFine]]) := by
  simp only [nmL, List.forall_mem_cons]
  refine ⟨?_, ?_, ?_, ?_, ?_, ?_, ?_, ?_, ?_, fun _ h => absurd h List.not_mem_nil⟩
  all_goals exact six (fun a => by kernel_rfl) (fun a b => by kernel_rfl) (fun a b c => by kernel_rfl) (fun a b c d => by kernel_rfl) (fun a b c d e => by kernel_rfl) (fun a b c d e f => by kernel_rfl)
noncomputable abbrev e0R : Wg.M PV := mLst (mCons (mC .non) (mCons (mC (.int 0)) (mCons (mC (.str [])) (mCons (mTup (mNil)) (mCons (mLst (mNil)) (mCons (mC (.dct [])) (mCons (mProp "Web" f_Web_ties (mVar 1)) (mCons (mProp "Web" f_Web_places (mVar 1)) (mCons (mC (.bl true)) (mCons (mC (.str [119, 101, 98])) (mNil)))))))))))
theorem p0 (x y : Option PV) : ∀ ds : List D3, 1 ≤ ds.length → ds.length ≤ 6 → e0R (lR ds none none none none none) (St ds) = .ok (.lst noneL) (St ds) := six (fun a => by kernel_rfl) (fun a b => by kernel_rfl) (fun a b c => by kernel_rfl) (fun a b c d => by kernel_rfl) (fun a b c d e => by kernel_rfl) (fun a b c d e f => by kernel_rfl)
noncomputable abbrev e1R : Wg.M PV := mLst (mCons (mC .non) (mCons (mC (.int 0)) (mCons (mC (.str [])) (mCons (mC (.str [65])) (mCons (mC (.str [110, 111, 98, 111, 100, 121])) (mCons (mTup (mCons (mC (.str [97])) (mNil))) (mCons (mLst (mCons (mC (.str [97])) (mNil))) (mCons (mC (.dct [])) (mCons (mC (.bl true)) (mNil))))))))))
theorem p1 (x y : Option PV) : ∀ ds : List D3, 1 ≤ ds.length → ds.length ≤ 6 → e1R (lR ds x none none none none) (St ds) = .ok (.lst nameL) (St ds) := six (fun a => by kernel_rfl) (fun a b => by kernel_rfl) (fun a b c => by kernel_rfl) (fun a b c d => by kernel_rfl) (fun a b c d e => by kernel_rfl) (fun a b c d e f => by kernel_rfl)
theorem p2 (x y : Option PV) : ∀ ds : List D3, 1 ≤ ds.length → ds.length ≤ 6 → s__law_right_2 (lR ds x y none none none) (St ds) = .ok (.nx (lR ds x y (some (.lst blockL)) none none)) (St ds) := six (fun a => by kernel_rfl) (fun a b => by kernel_rfl) (fun a b c => by kernel_rfl) (fun a b c d => by kernel_rfl) (fun a b c d e => by kernel_rfl) (fun a b c d e f => by kernel_rfl)
noncomputable abbrev laL (s : PV) (x2 x3 x4 : Option PV) : Lv := [some s, some WH, x2, x3, x4]
theorem l0 (s : PV) : s_law_0 [some s, none, none, none, none] S0 = .ok (.nx (laL s none none none)) S0 := by kernel_rfl
end Wg.K19

namespace Wg
open PySem
/-! ### which two values are the parts of a web -/
structure GoodP (P : List Nm) : Prop where
  nm : ∀ p ∈ P, wordB p = true
  srt : Srt ltL P
  pos : P ≠ []
  len : P.length ≤ 16
section
variable {h : Store} {P : List Nm} {x y : PV} {T : List Ty} {ys : List PV}
theorem Wb.Ok.good {w : Wb} (o : w.Ok) : GoodP w.P := ⟨o.nm, o.srt, o.pos, o.len⟩
/-! a web is not made -/
end
end Wg

namespace Wg
open PySem
/-! ### rings: the ties between neighbours -/
section
variable {h S S' : Store} {a b : Nm}
/-- as tie_between tells -/
noncomputable def tb (a b : Nm) : Ty := if a < b then (a, b) else (b, a)
noncomputable def sc (n i : Nat) : Nat := if i + 1 = n then 0 else i + 1
/-! ### the plain form -/
end
end Wg

namespace Wg
open PySem
section
variable {h S : Store} {w u : Wb} {a b c : Nm}
/-! ### counting ties, one lot -/
end
end Wg

namespace Wg
open PySem
section
variable {h S : Store} {w u : Wb} {a b c : Nm}
/-! ### == and len of webs, cells given back -/
theorem wb_iff : (w.P = u.P ∧ w.T = u.T) ↔ w = u := by
  constructor
  · rintro ⟨p, t⟩
    cases w; cases u; cases p; cases t; rfl
  · rintro rfl; exact ⟨rfl, rfl⟩
instance (w u : Wb) : Decidable (w = u) := decidable_of_iff _ wb_iff
end
end Wg

namespace Wg
open PySem
/-- the steps of a plain function, as rules for simp -/
noncomputable def evA := And.intro @mSeq_at <| And.intro @mIf_at <| And.intro @mRet_at <| And.intro @mDrop_at <| And.intro @mSet_at <| And.intro @mAsg_at <| And.intro @mPar_at <| And.intro @mFor_at <| And.intro @mDone_at <| And.intro @mBreak_at <| And.intro @mCont_at <| And.intro @mAndT_at <| And.intro @mOrT_at <| And.intro @mNotT_at <| And.intro @mB_at <| And.intro @mBin_at <| And.intro @mUn_at <| And.intro @mCall_at <| And.intro @mCons_at <| And.intro @mNil_at <| And.intro @mVar_at <| And.intro @mC_at <| And.intro @mIfE_at <| And.intro @mAnd_at <| And.intro @mOr_at <| And.intro @mNot_at <| And.intro @mTup_at <| And.intro @mLst_at <| And.intro @mLc_at <| And.intro @mItC_at <| And.intro @bs_ok <| And.intro @noX_ok <| And.intro @on_nx <| And.intro @on_rt @R.bind_ok
end Wg

namespace Wg.K19
open PySem Wg
theorem set_pick {i a : Nat} {l : Lv} {S : Store} {E : Wg.M PV} {xs : List PV} (hx : xs ≠ []) (hx2 : xs.length < 1000000) (d : Dice S a) (l0 : l[0]? = some (some (.ref a))) (e : E l S = .ok (.lst xs) S) :
    Ok (mSet i (mCall f__law_pick (mCons (mVar 0) (mCons E mNil))) l S) fun f S' => Roll a S S' ∧ ∃ v ∈ xs, f = .nx (l.set i (some v)) := by
  rw [mSet_at, mCall_at, mCons_at, mVar_at, l0]
  show Ok (((((R.ok (PV.ref a) S).bind _)).bind _).bs _ _) _
  rw [R.bind_ok, mCons_at, e]
  simp only [R.bind_ok, mNil_at]
  refine Ok.bs (ok_pick hx hx2 d) ?_
  rintro v S' ⟨r, hv⟩
  rw [Ok_ok]
  exact ⟨r, v, hv, rfl⟩
/-- one to six dice, the last one at hand -/
structure Tn (ds : List D3) : Prop where
  lo : 1 ≤ ds.length
  hi : ds.length ≤ 6
  d : Dice (St ds) (ds.length + 1)
theorem st_len (ds : List D3) : (St ds).length = ds.length + 2 := by
  show (S0 ++ ds.map dc).length = _
  rw [List.length_append, List.length_map]
  show 2 + _ = _
  omega
theorem st_set {ds : List D3} (h : 1 ≤ ds.length) (x y z : Int) : (St ds).set (ds.length + 1) (.lst [.int x, .int y, .int z]) = St (ds.set (ds.length - 1) (x, y, z)) := by
  show (S0 ++ ds.map dc).set _ _ = S0 ++ (ds.set _ _).map dc
  rw [List.set_append_right (h := by show 2 ≤ _; omega), List.map_set]
  have e : ds.length + 1 - S0.length = ds.length - 1 := by show ds.length + 1 - 2 = _; omega
  rw [e]
theorem rolled {ds : List D3} {S' : Store} (t : Tn ds) (r : Roll (ds.length + 1) (St ds) S') : ∃ ds', ds'.length = ds.length ∧ S' = St ds' ∧ Tn ds' := by
  have d' := r.dice
  obtain ⟨_, x, y, z, hx, rfl⟩ := r
  have e := st_set t.lo x y z
  have ln : (ds.set (ds.length - 1) (x, y, z)).length = ds.length := List.length_set
  refine ⟨_, ln, e, ⟨by rw [ln]; exact t.lo, by rw [ln]; exact t.hi, ?_⟩⟩
  rw [e] at d'
  rw [ln]
  exact d'
theorem lR_len {ds ds' : List D3} (h : ds'.length = ds.length) (a b c d e : Option PV) : lR ds a b c d e = lR ds' a b c d e := by unfold lR; rw [h]
theorem st_closed (ds : List D3) : Closed (St ds) := by
  unfold Closed
  rw [List.all_eq_true]
  intro x hx
  rcases List.mem_append.mp hx with h | h
  · rcases List.mem_cons.mp h with rfl | h
    · rfl
    · rcases List.mem_singleton.mp h with rfl
      rfl
  · obtain ⟨d, _, rfl⟩ := List.mem_map.mp h
    rfl
theorem ends {ds ds' : List D3} {c : Cell} (h : ds'.length = ds.length) : handO (St ds).length (.bl true) (St ds' ++ [c]) = .ok (.bl true) (St ds') := by
  rw [st_len, ← h, ← st_len]
  exact handO_flat (st_closed ds') rfl
theorem right_ok {ds : List D3} (t : Tn ds) : Ok (f__law_right [.ref (ds.length + 1), WH] (St ds)) fun v S' => v = .bl true ∧ ∃ ds', ds'.length = ds.length ∧ S' = St ds' ∧ Tn ds' := by
  refine Ok.def (by rfl) ?_
  show Ok (m__law_right (lR ds none none none none none) (St ds)) _
  unfold m__law_right
  rw [mSeq_at]
  refine Ok.call (P := fun (f : Fl) S' => ∃ ds', ds'.length = ds.length ∧ S' = St ds' ∧ Tn ds' ∧ ∃ x ∈ noneL, f = .nx (lR ds' (some x) none none none none)) ?_ ?_
  · refine (set_pick (E := e0R) (xs := noneL) (by decide) (by decide) t.d rfl (p0 none none ds t.lo t.hi)).mono ?_
    rintro f S' ⟨r, x, hx, rfl⟩
    obtain ⟨ds', h, e, t'⟩ := rolled t r
    exact ⟨ds', h, e, t', x, hx, by rw [← lR_len h]; rfl⟩
  rintro f S1 ⟨d1, h1, rfl, t1, x, hx, rfl⟩
  rw [on_nx, mSeq_at]
  refine Ok.call (P := fun (f : Fl) S' => ∃ ds', ds'.length = ds.length ∧ S' = St ds' ∧ Tn ds' ∧ ∃ p ∈ nmL, f = .nx (lR ds' (some x) (some p.1) none none none)) ?_ ?_
  · refine (set_pick (E := e1R) (xs := nameL) (by decide) (by decide) t1.d rfl (p1 (some x) none d1 t1.lo t1.hi)).mono ?_
    rintro f S' ⟨r, y, hy, rfl⟩
    obtain ⟨ds', h, e, t'⟩ := rolled t1 r
    obtain ⟨p, hp, rfl⟩ := List.mem_map.mp hy
    exact ⟨ds', h.trans h1, e, t', p, hp, by rw [← lR_len h]; rfl⟩
  rintro f S1 ⟨d2, h2, rfl, t2, p, hp, rfl⟩
  rw [on_nx, mSeq_at, p2 (some x) (some p.1) d2 t2.lo t2.hi, R.bind_ok, on_nx, mSeq_at]
  refine Ok.call (P := fun (f : Fl) S' => ∃ ds', ds'.length = ds.length ∧ S' = St ds' ∧ Tn ds' ∧ ∃ z ∈ blockL, f = .nx (lR ds' (some x) (some p.1) (some z) none none)) ?_ ?_
  · refine (set_pick (E := mVar 4) (xs := blockL) (by decide) (by decide) t2.d rfl rfl).mono ?_
    rintro f S' ⟨r, z, hz, rfl⟩
    obtain ⟨ds', h, e, t'⟩ := rolled t2 r
    exact ⟨ds', h.trans h2, e, t', z, hz, by rw [← lR_len h]; rfl⟩
  rintro f S1 ⟨d3, h3, rfl, t3, z, hz, rfl⟩
  rw [on_nx, mSeq_at, r4 p.1 z x hx d3 t3.lo t3.hi, R.bind_ok, on_nx]
  rw [mSeq_at, r5 p.1 z x hx d3 t3.lo t3.hi, R.bind_ok, on_nx]
  rw [mSeq_at, r6 p.1 z x hx d3 t3.lo t3.hi, R.bind_ok, on_nx]
  rw [mSeq_at, r7 p.1 z x hx d3 t3.lo t3.hi, R.bind_ok, on_nx]
  rw [mSeq_at, r8 p.1 z x hx d3 t3.lo t3.hi, R.bind_ok, on_nx]
  rw [mSeq_at, r9 p.1 z x hx d3 t3.lo t3.hi, R.bind_ok, on_nx]
  rw [mSeq_at, r10 p.1 z x hx d3 t3.lo t3.hi, R.bind_ok, on_nx]
  rw [mSeq_at, r11 p.1 z x hx d3 t3.lo t3.hi, R.bind_ok, on_nx]
  rw [mSeq_at, r12 p.1 z x hx d3 t3.lo t3.hi, R.bind_ok, on_nx]
  rw [mSeq_at, r13 p.1 z x hx d3 t3.lo t3.hi, R.bind_ok, on_nx]
  rw [mSeq_at, r14 x z p hp d3 t3.lo t3.hi, R.bind_ok, on_nx]
  rw [mSeq_at, r15 x z p hp d3 t3.lo t3.hi, R.bind_ok, on_nx]
  rw [mSeq_at, r16 x p.1 z p.2 d3 t3.lo t3.hi, R.bind_ok, on_nx]
  rw [mSeq_at, r17 x p.1 z p.2 d3 t3.lo t3.hi, R.bind_ok, on_nx]
  rw [mSeq_at, r18 x p.1 p.2 z hz d3 t3.lo t3.hi, R.bind_ok, on_nx]
  rw [mSeq_at, r19 x p.1 z p.2 d3 t3.lo t3.hi, R.bind_ok, on_nx]
  rw [mSeq_at, r20 p.1 z p.2 x hx d3 t3.lo t3.hi, R.bind_ok, on_nx]
  rw [mSeq_at, r21 x z p hp d3 t3.lo t3.hi, R.bind_ok, on_nx, r22 x z p hp d3 t3.lo t3.hi, Ok_ok]
  exact ⟨_, _, ends h3, rfl, d3, h3, rfl, t3⟩
/-! ### the law -/
theorem turns {s : PV} {m : Option PV} : ∀ (ys : List PV) {ds : List D3} {x4 : Option PV}, Tn ds → Ok (forL (gVar 4) b_law_0 ys (laL s m (some (.ref (ds.length + 1))) x4) (St ds)) fun f S' => ∃ ds', ds'.length = ds.length ∧ S' = St ds' ∧ Tn ds' ∧ ∃ x4, f = .nx (laL s m (some (.ref (ds.length + 1))) x4)
  | [], ds, x4, t => ⟨_, _, rfl, ds, rfl, rfl, t, x4, rfl⟩
  | y :: ys, ds, x4, t => by
    show Ok ((gVar 4 _ _ (St ds)).noX.bind fun l1 h1 => _) _
    rw [gVar_at, noX_ok, R.bind_ok, show (laL s m (some (.ref (ds.length + 1))) x4).set 4 (some y) = laL s m (some (.ref (ds.length + 1))) (some y) from rfl]
    refine Ok.call (P := fun (f : Fl) S' => ∃ ds', ds'.length = ds.length ∧ S' = St ds' ∧ Tn ds' ∧ f = .nx (laL s m (some (.ref (ds.length + 1))) (some y))) ?_ ?_
    · unfold b_law_0
      rw [mIf_at, mNotT_at, mB_at]
      have c1 : mCall f__law_right (mCons (mVar 3) (mCons (mVar 1) (mNil))) (laL s m (some (.ref (ds.length + 1))) (some y)) (St ds) = f__law_right [.ref (ds.length + 1), WH] (St ds) := by
        simp only [evA, List.getElem?_cons_zero, List.getElem?_cons_succ]
      rw [c1]
      simp only [Wg.R.bind_assoc]
      refine Ok.bs (P := fun b S' => b = false ∧ ∃ ds', ds'.length = ds.length ∧ S' = St ds' ∧ Tn ds') ?_ ?_
      · refine Ok.call (right_ok t) ?_
        rintro v S1 ⟨rfl, d1, h1, rfl, t1⟩
        simp only [evA, Bool.not_true]
        rw [Ok_ok]
        exact ⟨rfl, d1, h1, rfl, t1⟩
      · rintro b S1 ⟨rfl, d1, h1, rfl, t1⟩
        rw [if_neg Bool.false_ne_true]
        exact ⟨_, _, rfl, d1, h1, rfl, t1, rfl⟩
    · rintro f S1 ⟨d1, h1, rfl, t1, rfl⟩
      rw [← h1]
      refine (turns ys t1).mono ?_
      rintro f S2 ⟨d2, h2, rfl, t2, y4, rfl⟩
      exact ⟨d2, h2, rfl, t2, y4, rfl⟩
theorem spots (ns : List Int) : ∀ (ys : List PV) {ds : List D3} {x2 x3 x4 : Option PV}, (∀ y ∈ ys, ∃ m : Nat, m < 1000 ∧ y = .int (m : Int)) → ds.length + ys.length ≤ 6 →
    Ok (forL (gVar 2) b_law_1 ys (laL (.scr (ns.map .int)) x2 x3 x4) (St ds)) fun f S' => ∃ ds', ds'.length = ds.length + ys.length ∧ S' = St ds' ∧ ∃ x2 x3 x4, f = .nx (laL (.scr (ns.map .int)) x2 x3 x4)
  | [], ds, x2, x3, x4, _, _ => ⟨_, _, rfl, ds, rfl, rfl, x2, x3, x4, rfl⟩
  | y :: ys, ds, x2, x3, x4, hy, hl => by
    obtain ⟨m, hm, rfl⟩ := hy y List.mem_cons_self
    have hl' : ds.length + (ys.length + 1) ≤ 6 := hl
    show Ok ((gVar 2 _ _ (St ds)).noX.bind fun l1 h1 => _) _
    rw [gVar_at, noX_ok, R.bind_ok, show (laL (.scr (ns.map .int)) x2 x3 x4).set 2 (some (.int (m : Int))) = laL (.scr (ns.map .int)) (some (.int (m : Int))) x3 x4 from rfl]
    refine Ok.call (P := fun (f : Fl) S' => ∃ ds', ds'.length = ds.length + 1 ∧ S' = St ds' ∧ ∃ x2 x3 x4, f = .nx (laL (.scr (ns.map .int)) x2 x3 x4)) ?_ ?_
    · unfold b_law_1
      rw [mSeq_at]
      refine Ok.call (P := fun (f : Fl) S' => ∃ ds', ds'.length = ds.length + 1 ∧ S' = St ds' ∧ Tn ds' ∧ f = .nx (laL (.scr (ns.map .int)) (some (.int (m : Int))) (some (.ref (ds'.length + 1))) x4)) ?_ ?_
      · simp only [evA, List.set_cons_succ, List.set_cons_zero, List.getElem?_cons_zero, List.getElem?_cons_succ]
        refine Ok.bs (ok_dice (ns := ns) (h := St ds) (i := m) (by omega)) ?_
        rintro v S1 ⟨rfl, l, b, c, rfl, h0⟩
        have e : St ds ++ [.lst [.int l, .int b, .int c]] = St (ds ++ [(l, b, c)]) := by
          show (S0 ++ ds.map dc) ++ _ = S0 ++ (ds ++ [(l, b, c)]).map dc
          rw [List.map_append, List.append_assoc]; rfl
        have n : (ds ++ [(l, b, c)]).length = ds.length + 1 := List.length_append
        rw [Ok_ok]
        refine ⟨ds ++ [(l, b, c)], n, e, ⟨by omega, by omega, ?_⟩, ?_⟩
        · rw [← e, n, ← st_len]
          exact ⟨l, b, c, by simp, h0⟩
        · rw [st_len, n]
      · rintro f S1 ⟨d1, h1, rfl, t1, rfl⟩
        have k1 : mItC fRange1 (mCons (mC (.int 3)) (mNil)) (laL (.scr (ns.map .int)) (some (.int (m : Int))) (some (.ref (d1.length + 1))) x4) (St d1) = .ok (runI 0 3) (St d1) := by
          simp only [evA]
          rw [fRange1_int (by decide)]; rfl
        rw [on_nx, mFor_at, k1, bs_ok]
        refine (turns (runI 0 3) t1).mono ?_
        rintro f S2 ⟨d2, h2, rfl, t2, y4, rfl⟩
        exact ⟨d2, h2.trans h1, rfl, _, _, y4, rfl⟩
    · rintro f S1 ⟨d1, h1, rfl, y2, y3, y4, rfl⟩
      refine (spots ns ys (fun z hz => hy z (List.mem_cons_of_mem _ hz)) (by omega)).mono ?_
      rintro f S2 ⟨d2, h2, rfl, z2, z3, z4, rfl⟩
      exact ⟨d2, by rw [h2, h1, List.length_cons]; omega, rfl, z2, z3, z4, rfl⟩
theorem plain : PlainT tsL f_law := fun ns hn => by
  have main : Ok (f_law [.scr (ns.map .int)] S0) fun v _ => v = .bl true := by
    refine Ok.def (by rfl) ?_
    show Ok (m_law [some (.scr (ns.map .int)), none, none, none, none] S0) _
    unfold m_law
    rw [mSeq_at, l0, R.bind_ok, on_nx, mSeq_at]
    refine Ok.call (P := fun (f : Fl) S' => ∃ ds, S' = St ds ∧ ∃ x2 x3 x4, f = .nx (laL (.scr (ns.map .int)) x2 x3 x4)) ?_ ?_
    · obtain ⟨k, hk2, e⟩ : ∃ k : Nat, k ≤ 6 ∧ mItC fRange1 (mCons (mCall fMax2 (mCons (mC (.int 1)) (mCons (mCall fMin2 (mCons (mC (.int 6)) (mCons (mCall fLenB (mCons (mVar 0) (mNil))) (mNil)))) (mNil)))) (mNil)) (laL (.scr (ns.map .int)) none none none) S0 = .ok (runI 0 k) S0 := by
        simp only [mItC_at, mCons_at, mCall_at, mC_at, mVar_at, mNil_at, List.getElem?_cons_zero, R.bind_ok, fLenB_scr, List.length_map, fMin2_int, fMax2_int]
        generalize he : (if (if (ns.length : Int) < 6 then (ns.length : Int) else 6) > 1 then (if (ns.length : Int) < 6 then (ns.length : Int) else 6) else 1) = z
        have z1 : 1 ≤ z ∧ z ≤ 6 := by subst he; constructor <;> (split <;> split <;> omega)
        refine ⟨z.toNat, by omega, ?_⟩
        rw [fRange1_int (by omega)]
      have rl : (runI 0 k).length = k := by simp [runI]
      unfold s_law_1
      rw [mFor_at, e, bs_ok]
      refine (spots ns (runI 0 k) (ds := []) (fun y hy => ?_) (by rw [rl]; show 0 + k ≤ 6; omega)).mono ?_
      · obtain ⟨m, hm, rfl⟩ := mem_runI hy
        exact ⟨m, by omega, by simp⟩
      · rintro f S ⟨ds, h, rfl, r⟩
        exact ⟨ds, rfl, r⟩
    · rintro f S ⟨ds, rfl, x2, x3, x4, rfl⟩
      unfold s_law_2
      rw [on_nx, mRet_at, mC_at, bs_ok, Ok_ok]
      have q := handO_flat (h := S0) (x := .bl true) (ls := ds.map dc) rfl rfl
      exact ⟨_, _, q, rfl⟩
  obtain ⟨v, h, e, rfl⟩ := main
  exact ⟨h, e⟩
end Wg.K19

open PySem PySem.W PyProof.Rows
set_option maxRecDepth 100000 in
set_option maxHeartbeats 0 in
theorem PySem.Challenge.cw_wheelgrown_k19_errors_of_partings_holds : PySem.Challenge.rw_wheelgrown_k19_errors_of_partings.Holds := by
  w_on; o_law; k_head; (case hw => w_witness2)
  k_fill
  refine Wg.K19.walk (l := PySem.Challenge.rw_wheelgrown_k19_errors_of_partings) Wg.K19.plain rfl rfl (fun w h Y => PySem.W.km_in_of Y) (by decide +kernel) ?F
  case F =>
    intro w mg fa h KX G hmg
    refine' Wg.K19.all_mk KX G hmg ?a0 ?l0 ?c0 ?k0 ?a1 ?l1 ?c1 ?k1 ?a2 ?l2 ?c2 ?k2 ?a3 ?l3 ?c3 ?k3 ?a4 ?l4 ?c4 ?k4 ?a5 ?l5 ?c5 ?k5 ?a6 ?l6 ?c6 ?k6 ?a7 ?l7 ?c7 ?k7 ?a8 ?l8 ?c8 ?k8 ?a9 ?l9 ?c9 ?k9 ?n9 ?a10 ?l10 ?c10 ?k10 ?a11 ?l11 ?c11 ?k11 ?n11 ?pa11 ?pg11 ?pt11 ?a12 ?l12 ?c12 ?k12 ?n12 ?pa12 ?pg12 ?pt12 ?a13 ?l13 ?c13 ?k13 ?a14 ?l14 ?c14 ?k14 ?a15 ?l15 ?c15 ?k15 ?a16 ?l16 ?c16 ?k16 ?n16 ?pa16 ?pg16 ?pt16 ?a17 ?l17 ?c17 ?k17 ?n17 ?a18 ?l18 ?c18 ?k18 ?a19 ?l19 ?c19 ?k19 ?n19 ?a20 ?l20 ?c20 ?k20 ?n20 ?a21 ?l21 ?c21 ?k21 ?a22 ?l22 ?c22 ?k22 ?tl22 ?th22 ?tn22 ?a23 ?l23 ?c23 ?k23 ?a24 ?l24 ?c24 ?k24 ?a25 ?l25 ?c25 ?k25 ?a26 ?l26 ?c26 ?k26 ?a27 ?l27 ?c27 ?k27 ?a28 ?l28 ?c28 ?k28 ?a29 ?l29 ?c29 ?k29 ?n29 ?a30 ?l30 ?c30 ?k30 ?n30 ?a31 ?l31 ?c31 ?k31 ?a32 ?l32 ?c32 ?k32 ?a33 ?l33 ?c33 ?k33 ?a34 ?l34 ?c34 ?k34 ?a35 ?l35 ?c35 ?k35 ?n35 ?a36 ?l36 ?c36 ?k36 ?a37 ?l37 ?c37 ?k37 ?a38 ?l38 ?c38 ?k38 ?tl38 ?th38 ?tn38 ?a39 ?l39 ?c39 ?k39 ?a40 ?l40 ?c40 ?k40 ?a41 ?l41 ?c41 ?k41 ?a42 ?l42 ?c42 ?k42 ?a43 ?l43 ?c43 ?k43 ?a44 ?l44 ?c44 ?k44 ?z_Bench ?z_Drawing ?z_Growth ?z_PartTree ?z_Shell ?z_abs ?z_all ?z_int ?z_isinstance ?z_len ?z_list ?z_max ?z_min ?z_next ?z_range ?z_repr ?z_set ?z_sorted ?z_str ?z_super ?z_tuple ?z_zip ?y_LETTERS ?y_MAX_LETTERS ?y_MAX_PLACES ?y_MAX_TIES ?y_MOST_PARTING ?y_NO_PARTING ?ea_InvalidOperation ?eq_InvalidOperation ?ek_InvalidOperation ?es_InvalidOperation ?et_InvalidOperation ?ea_InvalidPart ?eq_InvalidPart ?ek_InvalidPart ?es_InvalidPart ?et_InvalidPart ?ea_InvalidTie ?eq_InvalidTie ?ek_InvalidTie ?es_InvalidTie ?et_InvalidTie ?ea_InvalidWeb ?eq_InvalidWeb ?ek_InvalidWeb ?es_InvalidWeb ?et_InvalidWeb ?ea_UnknownName ?ek_UnknownName ?es_UnknownName ?et_UnknownName ?eb_UnknownName ?ih_UnknownName ?io_UnknownName ?ic_UnknownName ?iv_UnknownName ?iw_UnknownName ?if_UnknownName ?il_UnknownName ?ir_UnknownName ?im_UnknownName ?iB_UnknownName ?ia_UnknownName ?ip_UnknownName ?it_UnknownName ?id_UnknownName ?p_any ?p_top ?p_get ?p_tk ?ea_Walk ?w1_Walk ?w2_Walk ?w3_Walk ?w4_Walk ?ea_Web ?w1_Web ?w2_Web ?w3_Web ?w4_Web ?w5_Web ?w6_Web ?s1_Web_own_beside ?s2_Web_own_beside ?s3_Web_own_beside ?s4_Web_own_beside ?s5_Web_own_beside ?s1_Web_own_lots ?s2_Web_own_lots ?s3_Web_own_lots ?s4_Web_own_lots ?s5_Web_own_lots ?s1_Web_own_places ?s2_Web_own_places ?s3_Web_own_places ?s4_Web_own_places ?s5_Web_own_places ?s1_Web_own_ties ?s2_Web_own_ties ?s3_Web_own_ties ?s4_Web_own_ties ?s5_Web_own_ties ?x1_Web_NoneType ?x1_Web_bool ?x1_Web_int ?x1_Web_str ?x1_Web_tuple ?x1_Web_list ?x1_Web_dict ?x2_Web_Web ?x5_Web_bool ?x5_Web_int ?x5_Web_str ?x5_Web_tuple ?x5_Web_list ?x5_Web_dict ?x3_Web ?x4_Web ?xg_UnknownName ?xk_UnknownName ?xc_UnknownName ?xm_UnknownName ?ff_UnknownName_word ?ex_InvalidOperation_InvalidPart ?ex_InvalidPart_InvalidPart ?ex_InvalidTie_InvalidPart ?ex_InvalidWeb_InvalidPart ?ex_UnknownName_InvalidPart ?ex_InvalidOperation_InvalidTie ?ex_InvalidPart_InvalidTie ?ex_InvalidTie_InvalidTie ?ex_InvalidWeb_InvalidTie ?ex_UnknownName_InvalidTie ?ex_InvalidOperation_InvalidWeb ?ex_InvalidPart_InvalidWeb ?ex_InvalidTie_InvalidWeb ?ex_InvalidWeb_InvalidWeb ?ex_UnknownName_InvalidWeb ?ex_InvalidOperation_UnknownName ?ex_InvalidPart_UnknownName ?ex_InvalidTie_UnknownName ?ex_InvalidWeb_UnknownName ?ex_UnknownName_UnknownName ?nd
    (case ea_InvalidOperation => k_is)
    (case ea_InvalidPart => k_is)
    (case ea_InvalidTie => k_is)
    (case ea_InvalidWeb => k_is)
    (case ea_UnknownName => k_is)
    (case ea_Walk => k_is)
    (case ea_Web => k_is)
    (case pa11 => k_is)
    (case pa12 => k_is)
    (case pa16 => k_is)
    (case a0 => k_is)
    (case l0 => k_is)
    (case c0 => k_is)
    (case k0 => k_is)
    (case a1 => k_is)
    (case l1 => k_is)
    (case c1 => k_is)
    (case k1 => k_is)
    (case a2 => k_is)
    (case l2 => k_is)
    (case c2 => k_is)
    (case k2 => k_is)
    (case a3 => k_is)
    (case l3 => k_is)
    (case c3 => k_is)
    (case k3 => k_is)
    (case a4 => k_is)
    (case l4 => k_is)
    (case c4 => k_is)
    (case k4 => k_is)
    (case a5 => k_is)
    (case l5 => k_is)
    (case c5 => k_is)
    (case k5 => k_is)
    (case a6 => k_is)
    (case l6 => k_is)
    (case c6 => k_is)
    (case k6 => k_is)
    (case a7 => k_is)
    (case l7 => k_is)
    (case c7 => k_is)
    (case k7 => k_is)
    (case a8 => k_is)
    (case l8 => k_is)
    (case c8 => k_is)
    (case k8 => k_is)
    (case a9 => k_is)
    (case l9 => k_is)
    (case c9 => k_is)
    (case k9 => k_is)
    (case n9 => k_is)
    (case a10 => k_is)
    (case l10 => k_is)
    (case c10 => k_is)
    (case k10 => k_is)
    (case a11 => k_is)
    (case l11 => k_is)
    (case c11 => k_is)
    (case k11 => k_is)
    (case n11 => k_is)
    (case pg11 => k_is)
    (case pt11 => k_is)
    (case a12 => k_is)
    (case l12 => k_is)
    (case c12 => k_is)
    (case k12 => k_is)
    (case n12 => k_is)
    (case pg12 => k_is)
    (case pt12 => k_is)
    (case a13 => k_is)
    (case l13 => k_is)
    (case c13 => k_is)
    (case k13 => k_is)
    (case a14 => k_is)
    (case l14 => k_is)
    (case c14 => k_is)
    (case k14 => k_is)
    (case a15 => k_is)
    (case l15 => k_is)
    (case c15 => k_is)
    (case k15 => k_is)
    (case a16 => k_is)
    (case l16 => k_is)
    (case c16 => k_is)
    (case k16 => k_is)
    (case n16 => k_is)
    (case pg16 => k_is)
    (case pt16 => k_is)
    (case a17 => k_is)
    (case l17 => k_is)
    (case c17 => k_is)
    (case k17 => k_is)
    (case n17 => k_is)
    (case a18 => k_is)
    (case l18 => k_is)
    (case c18 => k_is)
    (case k18 => k_is)
    (case a19 => k_is)
    (case l19 => k_is)
    (case c19 => k_is)
    (case k19 => k_is)
    (case n19 => k_is)
    (case a20 => k_is)
    (case l20 => k_is)
    (case c20 => k_is)
    (case k20 => k_is)
    (case n20 => k_is)
    (case a21 => k_is)
    (case l21 => k_is)
    (case c21 => k_is)
    (case k21 => k_is)
    (case a22 => k_is)
    (case l22 => k_is)
    (case c22 => k_is)
    (case k22 => k_is)
    (case tl22 => first | k_is | rfl)
    (case th22 => first | rfl | with_unfolding_all rfl)
    (case tn22 => first | k_is | rfl)
    (case a23 => k_is)
    (case l23 => k_is)
    (case c23 => k_is)
    (case k23 => k_is)
    (case a24 => k_is)
    (case l24 => k_is)
    (case c24 => k_is)
    (case k24 => k_is)
    (case a25 => k_is)
    (case l25 => k_is)
    (case c25 => k_is)
    (case k25 => k_is)
    (case a26 => k_is)
    (case l26 => k_is)
    (case c26 => k_is)
    (case k26 => k_is)
    (case a27 => k_is)
    (case l27 => k_is)
    (case c27 => k_is)
    (case k27 => k_is)
    (case a28 => k_is)
    (case l28 => k_is)
    (case c28 => k_is)
    (case k28 => k_is)
    (case a29 => k_is)
    (case l29 => k_is)
    (case c29 => k_is)
    (case k29 => k_is)
    (case n29 => k_is)
    (case a30 => k_is)
    (case l30 => k_is)
    (case c30 => k_is)
    (case k30 => k_is)
    (case n30 => k_is)
    (case a31 => k_is)
    (case l31 => k_is)
    (case c31 => k_is)
    (case k31 => k_is)
    (case a32 => k_is)
    (case l32 => k_is)
    (case c32 => k_is)
    (case k32 => k_is)
    (case a33 => k_is)
    (case l33 => k_is)
    (case c33 => k_is)
    (case k33 => k_is)
    (case a34 => k_is)
    (case l34 => k_is)
    (case c34 => k_is)
    (case k34 => k_is)
    (case a35 => k_is)
    (case l35 => k_is)
    (case c35 => k_is)
    (case k35 => k_is)
    (case n35 => k_is)
    (case a36 => k_is)
    (case l36 => k_is)
    (case c36 => k_is)
    (case k36 => k_is)
    (case a37 => k_is)
    (case l37 => k_is)
    (case c37 => k_is)
    (case k37 => k_is)
    (case a38 => k_is)
    (case l38 => k_is)
    (case c38 => k_is)
    (case k38 => k_is)
    (case tl38 => first | k_is | rfl)
    (case th38 => first | rfl | with_unfolding_all rfl)
    (case tn38 => first | k_is | rfl)
    (case a39 => k_is)
    (case l39 => k_is)
    (case c39 => k_is)
    (case k39 => k_is)
    (case a40 => k_is)
    (case l40 => k_is)
    (case c40 => k_is)
    (case k40 => k_is)
    (case a41 => k_is)
    (case l41 => k_is)
    (case c41 => k_is)
    (case k41 => k_is)
    (case a42 => k_is)
    (case l42 => k_is)
    (case c42 => k_is)
    (case k42 => k_is)
    (case a43 => k_is)
    (case l43 => k_is)
    (case c43 => k_is)
    (case k43 => k_is)
    (case a44 => k_is)
    (case l44 => k_is)
    (case c44 => k_is)
    (case k44 => k_is)
    (case z_Bench => k_is)
    (case z_Drawing => k_is)
    (case z_Growth => k_is)
    (case z_PartTree => k_is)
    (case z_Shell => k_is)
    (case z_abs => k_is)
    (case z_all => k_is)
    (case z_int => k_is)
    (case z_isinstance => k_is)
    (case z_len => k_is)
    (case z_list => k_is)
    (case z_max => k_is)
    (case z_min => k_is)
    (case z_next => k_is)
    (case z_range => k_is)
    (case z_repr => k_is)
    (case z_set => k_is)
    (case z_sorted => k_is)
    (case z_str => k_is)
    (case z_super => k_is)
    (case z_tuple => k_is)
    (case z_zip => k_is)
    (case y_LETTERS => k_is)
    (case y_MAX_LETTERS => k_is)
    (case y_MAX_PLACES => k_is)
    (case y_MAX_TIES => k_is)
    (case y_MOST_PARTING => k_is)
    (case y_NO_PARTING => k_is)
    (case eq_InvalidOperation => first | k_exc | k_is)
    (case ek_InvalidOperation => k_is)
    (case es_InvalidOperation => k_is)
    (case et_InvalidOperation => k_is)
    (case eq_InvalidPart => first | k_exc | k_is)
    (case ek_InvalidPart => k_is)
    (case es_InvalidPart => k_is)
    (case et_InvalidPart => k_is)
    (case eq_InvalidTie => first | k_exc | k_is)
    (case ek_InvalidTie => k_is)
    (case es_InvalidTie => k_is)
    (case et_InvalidTie => k_is)
    (case eq_InvalidWeb => first | k_exc | k_is)
    (case ek_InvalidWeb => k_is)
    (case es_InvalidWeb => k_is)
    (case et_InvalidWeb => k_is)
    (case ek_UnknownName => k_is)
    (case es_UnknownName => k_is)
    (case et_UnknownName => k_is)
    (case eb_UnknownName => kx_is)
    (case ih_UnknownName => k_is)
    (case io_UnknownName => k_is)
    (case ic_UnknownName => k_is)
    (case iv_UnknownName => k_is)
    (case iw_UnknownName => rfl)
    (case if_UnknownName => decide +kernel)
    (case il_UnknownName => k_is)
    (case ir_UnknownName => k_is)
    (case im_UnknownName => ks_is)
    (case iB_UnknownName => k_is)
    (case ia_UnknownName => k_is)
    (case ip_UnknownName => kx_is)
    (case it_UnknownName => k_is)
    (case id_UnknownName => k_is)
    (case p_any => k_is)
    (case p_top => decide +kernel)
    (case p_get => k_is)
    (case p_tk => k_is)
    (case w1_Walk => k_is)
    (case w2_Walk => k_is)
    (case w3_Walk => k_is)
    (case w4_Walk => k_is)
    (case w1_Web => k_is)
    (case w2_Web => k_is)
    (case w3_Web => k_is)
    (case w4_Web => k_is)
    (case w5_Web => k_is)
    (case w6_Web => k_is)
    (case s1_Web_own_beside => k_is)
    (case s2_Web_own_beside => k_is)
    (case s3_Web_own_beside => k_is)
    (case s4_Web_own_beside => k_is)
    (case s5_Web_own_beside => k_is)
    (case s1_Web_own_lots => k_is)
    (case s2_Web_own_lots => k_is)
    (case s3_Web_own_lots => k_is)
    (case s4_Web_own_lots => k_is)
    (case s5_Web_own_lots => k_is)
    (case s1_Web_own_places => k_is)
    (case s2_Web_own_places => k_is)
    (case s3_Web_own_places => k_is)
    (case s4_Web_own_places => k_is)
    (case s5_Web_own_places => k_is)
    (case s1_Web_own_ties => k_is)
    (case s2_Web_own_ties => k_is)
    (case s3_Web_own_ties => k_is)
    (case s4_Web_own_ties => k_is)
    (case s5_Web_own_ties => k_is)
    (case x1_Web_NoneType => kit_is)
    (case x1_Web_bool => kit_is)
    (case x1_Web_int => kit_is)
    (case x1_Web_str => kit_is)
    (case x1_Web_tuple => kit_is)
    (case x1_Web_list => kit_is)
    (case x1_Web_dict => kit_is)
    (case x2_Web_Web => kit_is)
    (case x5_Web_bool => kit_is)
    (case x5_Web_int => kit_is)
    (case x5_Web_str => kit_is)
    (case x5_Web_tuple => kit_is)
    (case x5_Web_list => kit_is)
    (case x5_Web_dict => kit_is)
    (case x3_Web => k_is)
    (case x4_Web => k_is)
    (case xg_UnknownName => k_is)
    (case xk_UnknownName => k_is)
    (case xc_UnknownName => k_is)
    (case xm_UnknownName => k_is)
    (case ff_UnknownName_word => k_is)
    (case ex_InvalidOperation_InvalidPart => kts_exm)
    (case ex_InvalidPart_InvalidPart => kts_exm)
    (case ex_InvalidTie_InvalidPart => kts_exm)
    (case ex_InvalidWeb_InvalidPart => kts_exm)
    (case ex_UnknownName_InvalidPart => kts_exm)
    (case ex_InvalidOperation_InvalidTie => kts_exm)
    (case ex_InvalidPart_InvalidTie => kts_exm)
    (case ex_InvalidTie_InvalidTie => kts_exm)
    (case ex_InvalidWeb_InvalidTie => kts_exm)
    (case ex_UnknownName_InvalidTie => kts_exm)
    (case ex_InvalidOperation_InvalidWeb => kts_exm)
    (case ex_InvalidPart_InvalidWeb => kts_exm)
    (case ex_InvalidTie_InvalidWeb => kts_exm)
    (case ex_InvalidWeb_InvalidWeb => kts_exm)
    (case ex_UnknownName_InvalidWeb => kts_exm)
    (case ex_InvalidOperation_UnknownName => kts_exm)
    (case ex_InvalidPart_UnknownName => kts_exm)
    (case ex_InvalidTie_UnknownName => kts_exm)
    (case ex_InvalidWeb_UnknownName => kts_exm)
    (case ex_UnknownName_UnknownName => kts_exm)
    (case nd => first | decide | simp)
