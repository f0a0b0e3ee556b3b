import PyProof.Rows.All
import HandS.ForMost
import HandS.ForExc
import HandS.DeepEq
import KE.KEqNest
import HandS.Wide
import HandS.IsInst
import HandS.TupAny
import HandS.Flow
import HandS.Slots
import HandS.Set
import HandS.Text
import HandS.RaiseMore
import HandS.Iter
import HandS.Comp
import HandS.WordsExc
import HandS.ExcOwn
import PyProof.StrOps2
import KE.IntTextText
import HandS.Codes
import HandS.TryMany
import HandS.TryOnly
import HandS.ExcField
import HandS.Style
import HandS.Deep
import HandS.Small
import HandS.TupLen
import HandS.WordsDict
import HandS.Zip
import HandS.SortRule
import HandS.SortInts
import PyProof.Rows.SortKeyStr
import HandS.SetFor
import HandS.TupSets
import KE.KeyNested
import KE.KExcSuper
import KE.KExcPX
import HandS.ExcValue
import PyProof.ReprRoads
import PyProof.ReprText
import HandS.ExcIs
import KE.KExcIs
import PySem.Challenge.RW_wheelgrown_k00_errors_kept_and_caught
import Wide.All
import OpenK.AllK
import Wide.FinOn
import KE.RegKTryMore
import KE.KExcLine
import KE.RegKSuper
import KE.RegKIsAll
set_option Elab.async false
set_option linter.all false
set_option maxRecDepth 100000
namespace Wg
open PySem PySem.Spec PyProof.Rows L2
open AutoSeq1 (wpAny_loadPart')
open MeetsSeq
theorem dict_declines_tuple (l b : Addr) (es : Array DictEntry) (items2 : Array Value) (n n2 : Nat) (dd dd2 : Option Addr) (sl sl2 : Array (Option Value)) :
    Meets (Builtin.«dict.__eq__» ⟨[.ref l, .ref b], []⟩) (fun _ R s => s.heap.get? l = some { cls := .type "dict", dict := dd, data := .dict es n, slots := sl } ∧ s.heap.get? b = some { cls := .type "tuple", dict := dd2, data := .seq items2 n2, slots := sl2 } ∧ R (.ok (.ret .notImplemented)) s) :=
  .of_wp fun prog w A R s h => by obtain ⟨hp, g, d, tk, os⟩ := s; obtain ⟨hl, hb, h⟩ := h; have f1 := PySem.F.sub_tuple_dict; wp_walk using wpAny_loadPart' hl, wpAny_loadPart' hb; exact ⟨_, rfl, h⟩
theorem tuple_declines_dict (l b : Addr) (items : Array Value) (es : Array DictEntry) (n n2 : Nat) (dd dd2 : Option Addr) (sl sl2 : Array (Option Value)) :
    Meets (Builtin.«tuple.__eq__» ⟨[.ref l, .ref b], []⟩) (fun _ R s => s.heap.get? l = some { cls := .type "tuple", dict := dd, data := .seq items n, slots := sl } ∧ s.heap.get? b = some { cls := .type "dict", dict := dd2, data := .dict es n2, slots := sl2 } ∧ R (.ok (.ret .notImplemented)) s) :=
  .of_wp fun prog w A R s h => by obtain ⟨hp, g, d, tk, os⟩ := s; obtain ⟨hl, hb, h⟩ := h; have f1 : isSubtype (.type "dict") (.type "tuple") = pure false := PySem.F.sub_dict_tuple; wp_walk using wpAny_loadPart' hl, wpAny_loadPart' hb; exact ⟨_, rfl, h⟩
section
variable {X : Cx}
def rEqDT (K : PySem.W.Frag) : R2 := fun x y H Q => ∃ a b ys, x = .ref a ∧ y = .ref b ∧ ((∃ kvs, Rd H a (.dK kvs)) ∨ ∃ kvs, Rd H a (.dT kvs)) ∧ SqT K H b ys ∧ Q (.bl false) H
theorem op_eqDT (hu : X.A.units + 64 < cLine) : OpR X (compareOp .Eq) (rEqDT X.K) := by
  intro pins s σ H x y v u Q I rx ry hh
  obtain ⟨a, b, ys, rfl, rfl, ha, hb, q⟩ := hh
  cases rx; cases ry
  have hob : ∃ (ob : Obj) (es : Array DictEntry) (ep : Nat), s.heap.get? a = some ob ∧ ob.ExactDict ∧ ob.data = .dict es ep := by
    rcases ha with ⟨kvs, ha⟩ | ⟨kvs, ha⟩
    · obtain ⟨z, hS, vs, r, ob, es, ep, h1, h2, h3, _⟩ := dk_rd I.hok ha
      exact ⟨ob, es, ep, h1, h2, h3⟩
    · obtain ⟨z, hS, vs, r, ob, es, ep, h1, h2, h3, _⟩ := dt_rd I.hok ha
      exact ⟨ob, es, ep, h1, h2, h3⟩
  obtain ⟨ob, es, ep, h1, h2, h3⟩ := hob
  obtain ⟨its, rt, ⟨o2, t1, t2, n2, t3⟩, _⟩ := I.tuple hb
  obtain ⟨oc, od, dt, osl⟩ := ob
  obtain ⟨oc2, od2, dt2, osl2⟩ := o2
  obtain ⟨c1, c2⟩ := h2
  simp only at c1 c2 h3 t2 t3
  subst c1 h3 t2 t3
  have hne : a ≠ b := fun e => by subst e; rw [h1] at t1; exact absurd (congrArg Obj.cls (Option.some.inj t1)) (by simp)
  show wpAny _ _ (richCompare .Eq (.ref a) (.ref b)) _ _ _
  refine SeqAt.rc_eq_decline_or (k := false) ⟨_, h1, rfl⟩ ⟨_, t1, rfl⟩ (by decide) PySem.F.sub_tuple_dict PySem.F.slot_dict_eq PySem.F.slot_tuple_eq_refl
    (fun _ hq => call_meets PySem.F.slot_dict_eq ⟨_, h1, rfl⟩ PySem.F.entry_dict_eq (PySem.F.args_dict_eq_2 _ _) (dict_declines_tuple a b es its.toArray ep n2 od od2 osl osl2) ⟨h1, t1, hq⟩)
    (fun _ hq => call_meets PySem.F.slot_tuple_eq_refl ⟨_, t1, rfl⟩ PySem.F.entry_tuple_eq (PySem.F.args_tuple_eq_2 _ _) (tuple_declines_dict b a its.toArray es n2 ep od2 od osl2 osl) ⟨t1, h1, hq⟩)
    (fun _ hq => wpAny_isSame_ref_other hne h1 t1 (by simp) hq) (.inr (by omega)) ⟨.bl false, H, I, rfl, q⟩
end
end Wg

namespace Wg
open PySem PySem.Spec PyProof.Rows L2 SlX

/-- a value, told as a tree; what may still be changed is told by its place in the store -/
inductive PV where
  | non | bl (b : Bool) | int (i : Int) | str (x : List Nat) | ty (n : String) | adr (a : Nat)
  | ref (a : Nat)
  | tup (xs : List PV) | lst (xs : List PV) | scr (xs : List PV)
  /-- dicts: keys ints and texts; keys tuples of these -/
  | dct (kvs : List (PV × PV)) | dcT (kvs : List (PV × PV))
  /-- a class of the text, by its name; an instance with slots, that nobody changes -/
  | cls (n : Str)
  | ins (n : Str) (xs : List PV)
  /-- a set that nobody changes, in the order of its making -/
  | set (xs : List PV)
  /-- a dict that nobody changes, of which the keys alone are told: none, truths, texts; an error that is not raised -/
  | dctO (ks : List PV)
  | exn (n : Str)

/-- what stands at a place of the store -/
inductive Cell where
  | lst (xs : List PV)
  | dct (kvs : List (PV × PV))
  | dcT (kvs : List (PV × PV))
  /-- an instance with slots, the place of its dict; such a dict -/
  | ins (n : Str) (j : Nat) (xs : List (Option PV))
  | own

abbrev Store := List Cell
/-- where the store's cells stand; what is being made just now, and is no cell -/
structure Pl where
  c : List Addr
  hid : List Addr := []
def Pl.has (ρ : Pl) (p : Addr) : Prop := p ∈ ρ.c ∨ p ∈ ρ.hid
abbrev Lv := List (Option PV)

/-- an error under way -/
structure Ex where
  cls : PV
  fld : List (Str × PV) := []

inductive R (α : Type) where
  | ok (a : α) (h : Store) | exc (e : Ex) (h : Store) | no

def R.bind {α β : Type} (r : R α) (k : α → Store → R β) : R β :=
  match r with
  | .ok a h => k a h
  | .exc e h => .exc e h
  | .no => .no

@[simp] theorem R.bind_ok {α β : Type} (a : α) (h : Store) (k : α → Store → R β) : (R.ok a h).bind k = k a h := (rfl)
@[simp] theorem R.bind_exc {α β : Type} (a : Ex) (h : Store) (k : α → Store → R β) : (R.exc a h).bind k = .exc a h := (rfl)
@[simp] theorem R.bind_no {α β : Type} (k : α → Store → R β) : (R.no).bind k = .no := (rfl)

/-- the error that is handled, at a, held by slot i: of the class x, its dict, what it keeps -/
structure Cur where
  i : Nat
  a : Addr
  x : Str
  cls : Value
  d : Option Addr
  fs : List (Str × PV)
def curNe (c : Option Cur) (j : Nat) : Bool := match c with
  | none => true
  | some c => c.i != j
/-- where a text stands: its written part, its module's names, the error at hand -/
structure KC where
  K : PySem.W.Frag
  mg : Str → Option Value
  cur : Option Cur
  w : World
instance : Coe KC PySem.W.Frag := ⟨KC.K⟩
/-- what is wished of errors, and which error is at hand -/
structure WQ where
  w : WX
  cur : Option Cur := none
instance : CoeFun WQ (fun _ => WX) := ⟨WQ.w⟩
abbrev kc (X : Cx) (W : WQ) : KC := ⟨X.K, X.mg, W.cur, X.w⟩
abbrev strV (x : List Nat) : V := V.str ⟨x.toArray⟩

/-- what the text's own part holds at p -/
def KTup (K : PySem.W.Frag) (p : Addr) (vs : List V) : Prop :=
  ∃ (o : Obj) (its : Array Value) (n : Nat), K.lookup p = some o ∧ o.cls = .type "tuple" ∧ o.data = .seq its n ∧ its.size ≤ sizeLine ∧ Vals vs its.toList
def KLst (K : PySem.W.Frag) (p : Addr) (vs : List V) : Prop :=
  ∃ (o : Obj) (its : Array Value) (n : Nat), K.lookup p = some o ∧ o.cls = .type "list" ∧ o.dict = none ∧ o.data = .seq its n ∧ its.size ≤ sizeLine ∧ Vals vs its.toList
/-- a tuple, a list that nobody of the store changes -/
def TupAt (K : PySem.W.Frag) (ρ : Pl) (H : Hp) (p : Addr) (vs : List V) : Prop := ¬ ρ.has p ∧ H p = some (.tup vs)
def LstAt (ρ : Pl) (H : Hp) (p : Addr) (vs : List V) : Prop := ¬ ρ.has p ∧ H p = some (.lst vs)
/-- a list that is read alone -/
def ScrAt (K : PySem.W.Frag) (ρ : Pl) (H : Hp) (p : Addr) (vs : List V) : Prop := (¬ ρ.has p ∧ Rd H p (.lst vs)) ∨ KLst K p vs

/-- a set of these values at a -/
def SetHo (w : World) (a : Addr) (vs : List V) (h : Heap) : Prop :=
  ∃ o es ep t us, h.get? a = some o ∧ o.ExactSet ∧ o.data = .set es ep t ∧ (es.toList.map (·.2)).Perm us ∧ Vals vs us ∧ es.size < scanBound ∧ t.fits es.size = true ∧ Ris t.place.toList ∧ (w.params.followText "set-order" = true ∨ t.led = true)
/-- just this object stands at p -/
def Pin (p : Addr) (o : Obj) (h : Heap) : Prop := h.get? p = some o
/-- a dict of these keys -/
def OddObj (o : Obj) (vs : List V) : Prop := ∃ es ep, o.ExactDict ∧ o.data = .dict es ep ∧ Vals vs (es.toList.map (·.key))
/-- an error of the class at C, d its dict -/
def ErrPh (a C : Addr) (d : Option Addr) (φ : Heap → Prop) : Prop := ∀ h, φ h → ∃ (oe : Obj) (ws : Array Value), h.get? a = some oe ∧ oe.cls = .ref C ∧ oe.dict = d ∧ oe.data = .fields ws
/-- a key of a dict -/
def keyP : PV → Option Key
  | .int i => some (.inl i)
  | .str x => some (.inr ⟨x.toArray⟩)
  | _ => none
/-- .. that is a tuple -/
def keysP : List PV → Option (List Key)
  | [] => some []
  | x :: xs => (keyP x).bind fun c => (keysP xs).map (c :: ·)
def keyT : PV → Option (List Key)
  | .tup xs => keysP xs
  | _ => none
mutual
/-- the value x of ours is v of the layer -/
def RV (K : KC) (ρ : Pl) (H : Hp) : PV → V → Prop
  | .non, v => v = .non
  | .bl b, v => v = .bl b
  | .int i, v => v = .int i
  | .str x, v => v = strV x
  | .ty n, v => v = .ty n
  | .adr a, v => v = .ref a
  | .ref a, v => ∃ p, ρ.c[a]? = some p ∧ v = .ref p
  | .tup xs, v => ∃ p vs, v = .ref p ∧ TupAt K ρ H p vs ∧ RVs K ρ H xs vs
  | .lst xs, v => ∃ p vs, v = .ref p ∧ LstAt ρ H p vs ∧ RVs K ρ H xs vs
  | .scr xs, v => ∃ p vs, v = .ref p ∧ ScrAt K ρ H p vs ∧ RVs K ρ H xs vs
  | .dct kvs, v => ∃ p vs, v = .ref p ∧ (¬ ρ.has p ∧ Rd H p (.dK vs)) ∧ RVd K ρ H kvs vs
  | .dcT kvs, v => ∃ p vs, v = .ref p ∧ (¬ ρ.has p ∧ Rd H p (.dT vs)) ∧ RVt K ρ H kvs vs
  | .cls n, v => ∃ a, K.mg n = some (.ref a) ∧ v = .ref a
  | .ins n xs, v => ∃ p C dx vs, v = .ref p ∧ K.mg n = some (.ref C) ∧ (¬ ρ.has p ∧ ¬ ρ.has dx ∧ H p = some (SlO p C dx (vs.map some)) ∧ H dx = some (.xd [])) ∧ RVs K ρ H xs vs
  | .set xs, v => ∃ p vs, v = .ref p ∧ (¬ ρ.has p ∧ H p = some (.ext (SetHo K.w p vs))) ∧ RVs K ρ H xs vs
  | .dctO ks, v => ∃ p o vs, v = .ref p ∧ (¬ ρ.has p ∧ H p = some (.ext (Pin p o))) ∧ ((p == sysModules) = false ∧ OddObj o vs) ∧ RVs K ρ H ks vs
  | .exn n, v => ∃ a C d φ, v = .ref a ∧ K.mg n = some (.ref C) ∧ (¬ ρ.has a ∧ H a = some (.ext φ)) ∧ ErrPh a C d φ ∧ (d = none ∨ ∃ dd us, d = some dd ∧ ¬ ρ.has dd ∧ H dd = some (.xd us))
def RVs (K : KC) (ρ : Pl) (H : Hp) : List PV → List V → Prop
  | [], vs => vs = []
  | x :: xs, vs => ∃ v r, vs = v :: r ∧ RV K ρ H x v ∧ RVs K ρ H xs r
def RVd (K : KC) (ρ : Pl) (H : Hp) : List (PV × PV) → List (Key × V) → Prop
  | [], vs => vs = []
  | (k, x) :: xs, vs => ∃ c v r, vs = (c, v) :: r ∧ keyP k = some c ∧ RV K ρ H x v ∧ RVd K ρ H xs r
def RVt (K : KC) (ρ : Pl) (H : Hp) : List (PV × PV) → List (List Key × V) → Prop
  | [], vs => vs = []
  | (k, x) :: xs, vs => ∃ c v r, vs = (c, v) :: r ∧ keyT k = some c ∧ RV K ρ H x v ∧ RVt K ρ H xs r
def RVx (K : KC) (ρ : Pl) (H : Hp) (us : List (Str × V)) : List (Str × PV) → Prop
  | [] => True
  | (f, x) :: xs => (∃ v, us.lookup f = some v ∧ RV K ρ H x v) ∧ RVx K ρ H us xs
end

section
variable {K : KC} {ρ ρ' ρ1 : Pl} {H H' H1 : Hp}

theorem TupAt.sq {p vs} (h : TupAt K ρ H p vs) : SqT K H p vs := .inl (.inl h.2)
theorem ScrAt.sq {p vs} (h : ScrAt K ρ H p vs) : SqL K H p vs := by
  rcases h with ⟨_, h⟩ | ⟨o, its, n, h⟩
  · exact .inl h
  · exact .inr ⟨o, its, n, h⟩

/-- a dict may be locked while it is walked -/
def IsDct : HO → Prop
  | .dK _ => True
  | .dT _ => True
  | _ => False
def Sm (o : HO) (r : Option HO) : Prop := r = some o ∨ (IsDct o ∧ ∃ od, r = some (.frz od o))
theorem Sm.trans {o : HO} {r : Option HO} (a : Sm o r) {q : Option HO} (b : ∀ u, r = some u → Sm u q) : Sm o q := by
  rcases a with a | ⟨du, od, a⟩
  · exact b o a
  · rcases b _ a with b | ⟨d2, _, b⟩
    · exact .inr ⟨du, od, b⟩
    · exact d2.elim
/-- what is no dict stays as it is -/
def Stiff : HO → Prop
  | .dK _ => False
  | .dT _ => False
  | _ => True
theorem Stiff.no {o : HO} (st : Stiff o) (d : IsDct o) : False := by
  cases o <;> first | exact d.elim | exact st.elim
/-- the store may have grown; what is tracked outside it stands as it stood, but that a dict may have been locked -/
structure Ext (ρ : Pl) (H : Hp) (ρ' : Pl) (H' : Hp) : Prop where
  pre : ∃ more, ρ'.c = ρ.c ++ more ∧ ∀ p ∈ more, ¬ ρ.has p ∧ H p = none
  hid : ρ'.hid = ρ.hid
  old : ∀ p o, p ∉ ρ.c → p ∈ ρ.hid ∨ Stiff o → H p = some o → H' p = some o
  lok : ∀ p o, p ∉ ρ.c → H p = some o → Sm o (H' p)
theorem Ext.of (pre : ∃ more, ρ'.c = ρ.c ++ more ∧ ∀ p ∈ more, ¬ ρ.has p ∧ H p = none) (hid : ρ'.hid = ρ.hid) (old : ∀ p o, p ∉ ρ.c → H p = some o → H' p = some o) : Ext ρ H ρ' H' :=
  ⟨pre, hid, fun p o hp _ e => old p o hp e, fun p o hp e => .inl (old p o hp e)⟩
theorem Ext.refl (ρ : Pl) (H : Hp) : Ext ρ H ρ H := .of ⟨[], by simp, by simp⟩ rfl fun _ _ _ h => h
theorem Ext.notin (a : Ext ρ H ρ' H') {p : Addr} {o : HO} (hp : ¬ ρ.has p) (e : H p = some o) : ¬ ρ'.has p := by
  obtain ⟨m1, e1, f1⟩ := a.pre
  rintro (z | z)
  · rw [e1] at z
    rcases List.mem_append.mp z with z | z
    · exact hp (.inl z)
    · rw [(f1 p z).2] at e; cases e
  · rw [a.hid] at z; exact hp (.inr z)
theorem Sm.some {o : HO} {r : Option HO} (a : Sm o r) : ∃ u, r = some u := by
  rcases a with a | ⟨_, od, a⟩ <;> exact ⟨_, a⟩
theorem Ext.trans (a : Ext ρ H ρ1 H1) (b : Ext ρ1 H1 ρ' H') : Ext ρ H ρ' H' := by
  obtain ⟨m1, e1, f1⟩ := a.pre
  obtain ⟨m2, e2, f2⟩ := b.pre
  have ni : ∀ p o, p ∉ ρ.c → H p = some o → p ∉ ρ1.c := fun p o hp e z => by
    rw [e1] at z
    rcases List.mem_append.mp z with z | z
    · exact hp z
    · rw [(f1 p z).2] at e; cases e
  refine ⟨⟨m1 ++ m2, by rw [e2, e1, List.append_assoc], fun p hp => ?_⟩, b.hid.trans a.hid, fun p o hp st e => b.old p o (ni p o hp e) (st.imp (fun z => by rw [a.hid]; exact z) id) (a.old p o hp st e),
    fun p o hp e => (a.lok p o hp e).trans fun u hu => b.lok p u (ni p o hp e) hu⟩
  rcases List.mem_append.mp hp with h | h
  · exact f1 p h
  · obtain ⟨n1, n2⟩ := f2 p h
    have np : p ∉ ρ.c := fun z => n1 (.inl (by rw [e1]; exact List.mem_append_left _ z))
    refine ⟨fun z => z.elim np fun z => n1 (.inr (by rw [a.hid]; exact z)), ?_⟩
    cases q : H p with
    | none => rfl
    | some o =>
      obtain ⟨u, hu⟩ := (a.lok p o np q).some
      rw [hu] at n2; cases n2
theorem Ext.look (a : Ext ρ H ρ' H') {i : Nat} {p : Addr} (h : ρ.c[i]? = some p) : ρ'.c[i]? = some p := by
  obtain ⟨m1, e1, _⟩ := a.pre
  rw [e1, List.getElem?_append_left (List.getElem?_eq_some_iff.mp h).1]; exact h
theorem Ext.at_ (a : Ext ρ H ρ' H') {p : Addr} {o : HO} (st : Stiff o) (hp : ¬ ρ.has p) (e : H p = some o) : H' p = some o := a.old p o (fun z => hp (.inl z)) (.inr st) e

/-- what values need to stay values -/
structure Kp (ρ : Pl) (H : Hp) (ρ' : Pl) (H' : Hp) : Prop where
  look : ∀ (i : Nat) (p : Addr), ρ.c[i]? = some p → ρ'.c[i]? = some p
  old : ∀ p o, ¬ ρ.has p → H p = some o → ¬ ρ'.has p ∧ Sm o (H' p)
theorem Ext.kp (a : Ext ρ H ρ' H') : Kp ρ H ρ' H' := ⟨fun _ _ h => a.look h, fun _ _ hp e => ⟨a.notin hp e, a.lok _ _ (fun z => hp (.inl z)) e⟩⟩
theorem Kp.trans (a : Kp ρ H ρ1 H1) (b : Kp ρ1 H1 ρ' H') : Kp ρ H ρ' H' := ⟨fun i p h => b.look i p (a.look i p h), fun p o hp e => by
  obtain ⟨a1, a2⟩ := a.old p o hp e
  refine ⟨?_, a2.trans fun u hu => (b.old p u a1 hu).2⟩
  obtain ⟨u, hu⟩ := a2.some
  exact (b.old p u a1 hu).1⟩
theorem Kp.at_ (a : Kp ρ H ρ' H') {p : Addr} {o : HO} (st : Stiff o) (hp : ¬ ρ.has p) (e : H p = some o) : ¬ ρ'.has p ∧ H' p = some o := by
  obtain ⟨a1, a2⟩ := a.old p o hp e
  exact ⟨a1, a2.elim id fun z => (st.no z.1).elim⟩
theorem Kp.atD (a : Kp ρ H ρ' H') {p : Addr} {u : HO} (du : IsDct u) (hp : ¬ ρ.has p) (h : Rd H p u) : ¬ ρ'.has p ∧ Rd H' p u := by
  rcases h with h | ⟨od, h⟩
  · obtain ⟨a1, a2⟩ := a.old p _ hp h
    exact ⟨a1, a2.imp id fun z => z.2⟩
  · obtain ⟨a1, a2⟩ := a.at_ (o := .frz od u) trivial hp h
    exact ⟨a1, .inr ⟨od, a2⟩⟩
theorem Rd.kpK (a : Kp ρ H ρ' H') {p : Addr} {vs : List (Key × V)} (hp : ¬ ρ.has p) (h : Rd H p (.dK vs)) : ¬ ρ'.has p ∧ Rd H' p (.dK vs) := a.atD trivial hp h
theorem Rd.kpT (a : Kp ρ H ρ' H') {p : Addr} {vs : List (List Key × V)} (hp : ¬ ρ.has p) (h : Rd H p (.dT vs)) : ¬ ρ'.has p ∧ Rd H' p (.dT vs) := a.atD trivial hp h
theorem Rd.kpL (a : Kp ρ H ρ' H') {p : Addr} {vs : List V} (hp : ¬ ρ.has p) (h : Rd H p (.lst vs)) : ¬ ρ'.has p ∧ Rd H' p (.lst vs) := by
  rcases h with h | ⟨o, h⟩
  · have := a.at_ (o := .lst vs) trivial hp h; exact ⟨this.1, .inl this.2⟩
  · have := a.at_ (o := .frz o (.lst vs)) trivial hp h; exact ⟨this.1, .inr ⟨o, this.2⟩⟩
theorem TupAt.kp (a : Kp ρ H ρ' H') {p vs} (h : TupAt K ρ H p vs) : TupAt K ρ' H' p vs := a.at_ (o := .tup vs) trivial h.1 h.2
theorem LstAt.kp (a : Kp ρ H ρ' H') {p vs} (h : LstAt ρ H p vs) : LstAt ρ' H' p vs := a.at_ (o := .lst vs) trivial h.1 h.2
theorem ScrAt.kp (a : Kp ρ H ρ' H') {p vs} (h : ScrAt K ρ H p vs) : ScrAt K ρ' H' p vs := h.imp (fun z => Rd.kpL a z.1 z.2) id
theorem Slt.kp (a : Kp ρ H ρ' H') {p C dx : Addr} {vs : List (Option V)} (t : ¬ ρ.has p ∧ ¬ ρ.has dx ∧ H p = some (SlO p C dx vs) ∧ H dx = some (.xd [])) : ¬ ρ'.has p ∧ ¬ ρ'.has dx ∧ H' p = some (SlO p C dx vs) ∧ H' dx = some (.xd []) :=
  have h1 := a.at_ (o := SlO p C dx vs) trivial t.1 t.2.2.1
  have h2 := a.at_ (o := .xd []) trivial t.2.1 t.2.2.2
  ⟨h1.1, h2.1, h1.2, h2.2⟩
mutual
theorem RV.kp (a : Kp ρ H ρ' H') : ∀ (x : PV) (v : V), RV K ρ H x v → RV K ρ' H' x v
  | .non, _, h => h
  | .bl _, _, h => h
  | .int _, _, h => h
  | .str _, _, h => h
  | .ty _, _, h => h
  | .adr _, _, h => h
  | .ref _, _, ⟨p, h, e⟩ => ⟨p, a.look _ _ h, e⟩
  | .tup xs, _, ⟨p, vs, e, t, r⟩ => ⟨p, vs, e, t.kp a, RVs.kp a xs vs r⟩
  | .lst xs, _, ⟨p, vs, e, t, r⟩ => ⟨p, vs, e, t.kp a, RVs.kp a xs vs r⟩
  | .scr xs, _, ⟨p, vs, e, t, r⟩ => ⟨p, vs, e, t.kp a, RVs.kp a xs vs r⟩
  | .dct kvs, _, ⟨p, vs, e, t, r⟩ => ⟨p, vs, e, Rd.kpK a t.1 t.2, RVd.kp a kvs vs r⟩
  | .dcT kvs, _, ⟨p, vs, e, t, r⟩ => ⟨p, vs, e, Rd.kpT a t.1 t.2, RVt.kp a kvs vs r⟩
  | .cls _, _, h => h
  | .ins _ xs, _, ⟨p, C, dx, vs, e, m, t, r⟩ => ⟨p, C, dx, vs, e, m, Slt.kp a t, RVs.kp a xs vs r⟩
  | .set xs, _, ⟨p, vs, e, t, r⟩ => ⟨p, vs, e, a.at_ trivial t.1 t.2, RVs.kp a xs vs r⟩
  | .dctO ks, _, ⟨p, o, vs, e, t, u, r⟩ => ⟨p, o, vs, e, a.at_ trivial t.1 t.2, u, RVs.kp a ks vs r⟩
  | .exn _, _, ⟨p, C, d, φ, e, m, t, f, q⟩ => ⟨p, C, d, φ, e, m, a.at_ trivial t.1 t.2, f, q.imp id fun ⟨dd, us, e1, n, h⟩ => ⟨dd, us, e1, a.at_ (o := .xd us) trivial n h⟩⟩
theorem RVs.kp (a : Kp ρ H ρ' H') : ∀ (xs : List PV) (vs : List V), RVs K ρ H xs vs → RVs K ρ' H' xs vs
  | [], _, h => h
  | x :: xs, _, ⟨v, r, e, h1, h2⟩ => ⟨v, r, e, RV.kp a x v h1, RVs.kp a xs r h2⟩
theorem RVd.kp (a : Kp ρ H ρ' H') : ∀ (kvs : List (PV × PV)) (vs : List (Key × V)), RVd K ρ H kvs vs → RVd K ρ' H' kvs vs
  | [], _, h => h
  | (k, x) :: xs, _, ⟨c, v, r, e, h0, h1, h2⟩ => ⟨c, v, r, e, h0, RV.kp a x v h1, RVd.kp a xs r h2⟩
theorem RVt.kp (a : Kp ρ H ρ' H') : ∀ (kvs : List (PV × PV)) (vs : List (List Key × V)), RVt K ρ H kvs vs → RVt K ρ' H' kvs vs
  | [], _, h => h
  | (k, x) :: xs, _, ⟨c, v, r, e, h0, h1, h2⟩ => ⟨c, v, r, e, h0, RV.kp a x v h1, RVt.kp a xs r h2⟩
theorem RVx.kp (a : Kp ρ H ρ' H') (us : List (Str × V)) : ∀ (fs : List (Str × PV)), RVx K ρ H us fs → RVx K ρ' H' us fs
  | [], h => h
  | (f, x) :: xs, ⟨⟨v, e, h1⟩, h2⟩ => ⟨⟨v, e, RV.kp a x v h1⟩, RVx.kp a us xs h2⟩
end
theorem RV.ext (a : Ext ρ H ρ' H') {x : PV} {v : V} (h : RV K ρ H x v) : RV K ρ' H' x v := RV.kp a.kp x v h
theorem RVs.ext (a : Ext ρ H ρ' H') (xs : List PV) (vs : List V) (h : RVs K ρ H xs vs) : RVs K ρ' H' xs vs := RVs.kp a.kp xs vs h
theorem RVd.ext (a : Ext ρ H ρ' H') (kvs : List (PV × PV)) (vs : List (Key × V)) (h : RVd K ρ H kvs vs) : RVd K ρ' H' kvs vs := RVd.kp a.kp kvs vs h

/-- a cell stands at p -/
def RC (K : KC) (ρ : Pl) (h : Store) (H : Hp) : Cell → Addr → Prop
  | .lst xs, p => ∃ vs, H p = some (.lst vs) ∧ RVs K ρ H xs vs
  | .dct kvs, p => ∃ vs, H p = some (.dK vs) ∧ RVd K ρ H kvs vs
  | .dcT kvs, p => ∃ vs, H p = some (.dT vs) ∧ RVt K ρ H kvs vs
  | .ins n j xs, p => ∃ C dx vs, K.mg n = some (.ref C) ∧ h[j]? = some .own ∧ ρ.c[j]? = some dx ∧ (Slt H p C dx vs ∧ vs.length = xs.length) ∧ ∀ (i : Nat) (x : PV), xs[i]? = some (some x) → ∃ v, vs[i]? = some (some v) ∧ RV K ρ H x v
  | .own, p => ∃ o, H p = some o
/-- the store h stands at the addresses ρ -/
structure Rep (K : KC) (ρ : Pl) (h : Store) (H : Hp) : Prop where
  len : h.length = ρ.c.length
  nd : ρ.c.Nodup
  at_ : ∀ (i : Nat) (c : Cell) (p : Addr), h[i]? = some c → ρ.c[i]? = some p → RC K ρ h H c p
  hid : ∀ p ∈ ρ.hid, ∃ o, H p = some o
  dj : ∀ p ∈ ρ.c, p ∉ ρ.hid
/-- the slots -/
inductive RL0 (K : KC) (ρ : Pl) (H : Hp) : Lv → L2.St → Prop
  | nil : RL0 K ρ H [] []
  | skip {l σ o} : RL0 K ρ H l σ → RL0 K ρ H (none :: l) (o :: σ)
  | put {l σ x v} : RV K ρ H x v → RL0 K ρ H l σ → RL0 K ρ H (some x :: l) (some v :: σ)
/-- the error at hand is in its slot, and keeps what it keeps -/
def CurOk (K : KC) (ρ : Pl) (H : Hp) (σ : L2.St) : Prop := match K.cur with
  | none => True
  | some c => σ[c.i]? = some (some (.ref c.a)) ∧ (∃ C, K.mg c.x = some (.ref C) ∧ c.cls = .ref C) ∧ (c.fs = [] ∨ ∃ dd us, c.d = some dd ∧ (¬ ρ.has dd ∧ H dd = some (.xd us)) ∧ RVx K ρ H us c.fs)
structure RL (K : KC) (ρ : Pl) (H : Hp) (l : Lv) (σ : L2.St) : Prop where
  s : RL0 K ρ H l σ
  cur : CurOk K ρ H σ
theorem RL0.kp (a : Kp ρ H ρ' H') {l σ} (h : RL0 K ρ H l σ) : RL0 K ρ' H' l σ := by
  induction h with
  | nil => exact .nil
  | skip _ ih => exact .skip ih
  | put r _ ih => exact .put (RV.kp a _ _ r) ih
theorem CurOk.kp (a : Kp ρ H ρ' H') {σ} (h : CurOk K ρ H σ) : CurOk K ρ' H' σ := by
  unfold CurOk at h ⊢
  cases q : K.cur with
  | none => trivial
  | some c =>
    rw [q] at h
    exact ⟨h.1, h.2.1, h.2.2.imp id fun ⟨dd, us, e2, t, r⟩ => ⟨dd, us, e2, a.at_ (o := .xd us) trivial t.1 t.2, RVx.kp a us _ r⟩⟩
theorem CurOk.set {σ : L2.St} {j : Nat} {o : Option V} (h : CurOk K ρ H σ) (n : curNe K.cur j = true) : CurOk K ρ H (σ.set j o) := by
  unfold CurOk at h ⊢
  cases q : K.cur with
  | none => trivial
  | some c =>
    rw [q] at h n
    refine ⟨?_, h.2⟩
    rw [List.getElem?_set_ne (fun e => by simp [curNe, e] at n)]
    exact h.1
theorem RL.kp (a : Kp ρ H ρ' H') {l σ} (h : RL K ρ H l σ) : RL K ρ' H' l σ := ⟨h.s.kp a, h.cur.kp a⟩
theorem RL.ext (a : Ext ρ H ρ' H') {l σ} (h : RL K ρ H l σ) : RL K ρ' H' l σ := h.kp a.kp
theorem RL0.get {l : Lv} {σ : L2.St} {i : Nat} {x : PV} (h : RL0 K ρ H l σ) : l[i]? = some (some x) → ∃ v, σ[i]? = some (some v) ∧ RV K ρ H x v := by
  induction h generalizing i with
  | nil => intro e; simp at e
  | skip _ ih =>
    intro e
    cases i with
    | zero => simp at e
    | succ i => simpa using ih (by simpa using e)
  | put r _ ih =>
    intro e
    cases i with
    | zero => simp at e; subst e; exact ⟨_, rfl, r⟩
    | succ i => simpa using ih (by simpa using e)
theorem RL.get {l : Lv} {σ : L2.St} {i : Nat} {x : PV} (h : RL K ρ H l σ) : l[i]? = some (some x) → ∃ v, σ[i]? = some (some v) ∧ RV K ρ H x v := h.s.get
theorem RL0.set {l : Lv} {σ : L2.St} {i : Nat} {x : PV} {v : V} (r : RV K ρ H x v) (h : RL0 K ρ H l σ) : RL0 K ρ H (l.set i (some x)) (σ.set i (some v)) := by
  induction h generalizing i with
  | nil => exact .nil
  | skip h ih =>
    cases i with
    | zero => exact .put r h
    | succ i => exact .skip ih
  | put q h ih =>
    cases i with
    | zero => exact .put r h
    | succ i => exact .put q ih
theorem RL.set {l : Lv} {σ : L2.St} {i : Nat} {x : PV} {v : V} (h : RL K ρ H l σ) (n : curNe K.cur i = true) (r : RV K ρ H x v) : RL K ρ H (l.set i (some x)) (σ.set i (some v)) := ⟨h.s.set r, h.cur.set n⟩
theorem RL0.len {l σ} (h : RL0 K ρ H l σ) : l.length = σ.length := by
  induction h with
  | nil => rfl
  | skip _ ih => simp [ih]
  | put _ _ ih => simp [ih]
theorem RL.len {l σ} (h : RL K ρ H l σ) : l.length = σ.length := h.s.len
/-- fewer slots told -/
theorem RL0.wipe {l : Lv} {σ : L2.St} (h : RL0 K ρ H l σ) (i : Nat) (o : Option V := none) : RL0 K ρ H (l.set i none) (σ.set i o) := by
  induction h generalizing i with
  | nil => exact .nil
  | skip h ih =>
    cases i with
    | zero => exact .skip h
    | succ i => exact .skip (ih i)
  | put q h ih =>
    cases i with
    | zero => exact .skip h
    | succ i => exact .put q (ih i)
theorem RL.wipe {l : Lv} {σ : L2.St} (h : RL K ρ H l σ) (i : Nat) (n : curNe K.cur i = true) : RL K ρ H (l.set i none) (σ.set i none) := ⟨h.s.wipe i, h.cur.set n⟩

theorem RVs.len : ∀ {xs : List PV} {vs : List V}, RVs K ρ H xs vs → xs.length = vs.length
  | [], _, h => by rw [show _ = [] from h] <;> rfl
  | x :: xs, _, ⟨v, r, e, _, h2⟩ => by rw [e, List.length_cons, List.length_cons, RVs.len h2]
theorem RVs.get : ∀ {xs : List PV} {vs : List V} {i : Nat} {x : PV}, RVs K ρ H xs vs → xs[i]? = some x → ∃ v, vs[i]? = some v ∧ RV K ρ H x v
  | [], _, _, _, _, e => by simp at e
  | y :: xs, _, 0, x, ⟨v, r, e, h1, _⟩, q => by simp at q; subst q; exact ⟨v, by rw [e]; rfl, h1⟩
  | y :: xs, _, i + 1, x, ⟨v, r, e, _, h2⟩, q => by
    obtain ⟨u, h, k⟩ := RVs.get (i := i) (x := x) h2 (by simpa using q)
    exact ⟨u, by rw [e]; simpa using h, k⟩
theorem RVs.app : ∀ {xs ys : List PV} {vs ws : List V}, RVs K ρ H xs vs → RVs K ρ H ys ws → RVs K ρ H (xs ++ ys) (vs ++ ws)
  | [], _, _, _, h, k => by rw [show _ = [] from h]; exact k
  | x :: xs, _, _, _, ⟨v, r, e, h1, h2⟩, k => by rw [e]; exact ⟨v, _, rfl, h1, RVs.app h2 k⟩
theorem RVs.one {x v} (h : RV K ρ H x v) : RVs K ρ H [x] [v] := ⟨v, [], rfl, h, rfl⟩
theorem RVs.set : ∀ {xs : List PV} {vs : List V} {i : Nat} {x : PV} {v : V}, RVs K ρ H xs vs → RV K ρ H x v → RVs K ρ H (xs.set i x) (vs.set i v)
  | [], _, _, _, _, h, _ => by rw [show _ = [] from h]; rfl
  | y :: xs, _, 0, x, v, ⟨u, r, e, h1, h2⟩, k => by rw [e]; exact ⟨v, r, rfl, k, h2⟩
  | y :: xs, _, i + 1, x, v, ⟨u, r, e, h1, h2⟩, k => by rw [e]; exact ⟨u, _, rfl, h1, RVs.set h2 k⟩

/-! ### what comes out -/
abbrev Wish := WX
/-- the error at hand is as told -/
def RX (K : KC) (ρ : Pl) (H : Hp) (e : Ex) (cls : Value) (d : Option Addr) : Prop :=
  ∃ c, RV K ρ H e.cls c ∧ RelV c cls ∧ (e.fld = [] ∨ ∃ dd us, d = some dd ∧ (¬ ρ.has dd ∧ H dd = some (.xd us)) ∧ RVx K ρ H us e.fld)
/-- a result r, and what is wanted of it -/
def Out {α β : Type} (K : KC) (ρ : Pl) (H : Hp) (rel : Pl → Hp → α → β → Prop) (W : Value → Option Addr → Hp → Prop) (r : R α) (Q : β → Hp → Prop) : Prop :=
  match r with
  | .ok x h => ∀ ρ' H' v, Ext ρ H ρ' H' → Rep K ρ' h H' → rel ρ' H' x v → Q v H'
  | .exc e h => ∀ ρ' H' cls d, Ext ρ H ρ' H' → Rep K ρ' h H' → RX K ρ' H' e cls d → W cls d H'
  | .no => False

section
variable {α β γ δ : Type} {rel : Pl → Hp → α → β → Prop} {rel2 : Pl → Hp → γ → δ → Prop} {W : Value → Option Addr → Hp → Prop}
theorem Out.ext {r : R α} {Q : β → Hp → Prop} (a : Ext ρ H ρ1 H1) (o : Out K ρ H rel W r Q) : Out K ρ1 H1 rel W r Q := by
  cases r with
  | ok x h => exact fun ρ' H' v b p q => o ρ' H' v (a.trans b) p q
  | exc e h => exact fun ρ' H' c d b p q => o ρ' H' c d (a.trans b) p q
  | no => exact o
theorem Out.bind {r : R α} {k : α → Store → R γ} {Q : δ → Hp → Prop} (o : Out K ρ H rel2 W (r.bind k) Q) :
    Out K ρ H rel W r (fun v H1 => ∃ x h1 ρ1, Ext ρ H ρ1 H1 ∧ Rep K ρ1 h1 H1 ∧ rel ρ1 H1 x v ∧ Out K ρ1 H1 rel2 W (k x h1) Q) := by
  cases r with
  | ok x h => exact fun ρ' H' v a p q => ⟨x, h, ρ', a, p, q, Out.ext a o⟩
  | exc e h => exact o
  | no => exact o
theorem Out.mono {r : R α} {Q Q' : β → Hp → Prop} (o : Out K ρ H rel W r Q) (m : ∀ v H', Q v H' → Q' v H') : Out K ρ H rel W r Q' := by
  cases r with
  | ok x h => exact fun ρ' H' v a p q => m _ _ (o ρ' H' v a p q)
  | exc e h => exact o
  | no => exact o
theorem Out.ok {x : α} {h : Store} {v : β} {Q : β → Hp → Prop} (o : Out K ρ H rel W (.ok x h) Q) (p : Rep K ρ h H) (q : rel ρ H x v) : Q v H := o ρ H v (Ext.refl _ _) p q
end
end
abbrev M (α : Type) := Lv → Store → R α
/-- expressions -/
def tM (K : KC) (W : WQ) (m : M PV) : TE := fun σ H Q => ∃ ρ h l, Rep K ρ h H ∧ RL K ρ H l σ ∧ Out K ρ H (RV K) (fun c d H' => W c d σ H') (m l h) Q
/-- tests -/
def tT (K : KC) (W : WQ) (m : M Bool) : TT := fun σ H Q => ∃ ρ h l, Rep K ρ h H ∧ RL K ρ H l σ ∧ Out K ρ H (fun _ _ a b => a = b) (fun c d H' => W c d σ H') (m l h) Q
/-- argument lists -/
def tA (K : KC) (W : WQ) (m : M (List PV)) : TA := fun σ H Q => ∃ ρ h l, Rep K ρ h H ∧ RL K ρ H l σ ∧ Out K ρ H (RVs K) (fun c d H' => W c d σ H') (m l h) Q

abbrev XE (X : Cx) (W : WQ) (e : Expr) (m : M PV) : Prop := PE X e (tM (kc X W) W m)
abbrev XT (X : Cx) (W : WQ) (e : Expr) (m : M Bool) : Prop := PT X e (tT (kc X W) W m)
abbrev XA (X : Cx) (W : WQ) (es : List Expr) (m : M (List PV)) : Prop := PA X es (tA (kc X W) W m)

theorem pe_weak {X e t t'} (h : PE X e t) (w : ∀ σ H Q, t' σ H Q → t σ H Q) : PE X e t' := ⟨fun pins s σ H Q I q => h.run pins s σ H Q I (w _ _ _ q)⟩
theorem pt_weak {X e t t'} (h : PT X e t) (w : ∀ σ H Q, t' σ H Q → t σ H Q) : PT X e t' := ⟨fun pins s σ H Q I q => h.run pins s σ H Q I (w _ _ _ q)⟩
theorem pa_weak {X e t t'} (h : PA X e t) (w : ∀ σ H Q, t' σ H Q → t σ H Q) : PA X e t' := ⟨fun pos pins s σ H Q I q => h.run pos pins s σ H Q I (w _ _ _ q)⟩

/-! ### names, constants -/
theorem RV_self {K : KC} {ρ : Pl} {H : Hp} {x : PV} {v : V} (e : RV K ρ H x v = (v = v)) : RV K ρ H x v := by rw [e]
def mVar (i : Nat) : M PV := fun l h => match l[i]? with
  | some (some x) => .ok x h
  | _ => .no
def mC (x : PV) : M PV := fun _ h => .ok x h
section
variable {X : Cx} {W : WQ} {pos : Pos}
theorem xe_var {i : Nat} {x : Str} (h : PE X (.Name x pos) (tVar i)) : XE X W (.Name x pos) (mVar i) := pe_weak h fun σ H Q ⟨ρ, h, l, p, r, o⟩ => by
  unfold mVar at o
  revert o
  split
  · rename_i x e
    intro o
    obtain ⟨v, e2, q⟩ := r.get e
    exact ⟨v, e2, o.ok p q⟩
  · intro o; exact o.elim
theorem tM_const {x : PV} {v : V} {σ H Q} (hv : ∀ ρ h, Rep (kc X W) ρ h H → RV (kc X W) ρ H x v) (t : tM (kc X W) W (mC x) σ H Q) : Q v H := by
  obtain ⟨ρ, h, l, p, r, o⟩ := t
  exact o.ok p (hv ρ h p)
theorem xe_int {i j} : XE X W (.Constant (.int i) j pos) (mC (.int i)) := pe_weak pe_int fun σ H Q t => tM_const (fun _ _ _ => RV_self rfl) t
theorem xe_bl {b j} : XE X W (.Constant (.bool b) j pos) (mC (.bl b)) := pe_weak pe_bl fun σ H Q t => tM_const (fun _ _ _ => RV_self rfl) t
theorem xe_non {j} : XE X W (.Constant .none j pos) (mC .non) := pe_weak pe_non fun σ H Q t => tM_const (fun _ _ _ => RV_self rfl) t
theorem xe_str {x : Str} {y : List Nat} {j} (e : x = ⟨y.toArray⟩ := by decide +kernel) : XE X W (.Constant (.str x) j pos) (mC (.str y)) := pe_weak pe_str fun σ H Q t => tM_const (fun _ _ _ => by rw [e]; rfl) t
theorem xe_glob {x : Str} {v : V} {y : PV} (h : PE X (.Name x pos) (tC v)) (hv : ∀ ρ H h, Rep (kc X W) ρ h H → RV (kc X W) ρ H y v) : XE X W (.Name x pos) (mC y) := pe_weak h fun σ H Q t => tM_const (fun ρ h p => hv ρ H h p) t

/-! ### two places -/
def mBin (f : PV → PV → Store → R PV) (a b : M PV) : M PV := fun l h => (a l h).bind fun x h1 => (b l h1).bind fun y h2 => f x y h2
/-- r reads what f tells -/
def OpX (X : Cx) (W : WQ) (f : PV → PV → Store → R PV) (r : R2) : Prop :=
  ∀ (ρ : Pl) (h : Store) (σ : L2.St) (H : Hp) (x y : PV) (v w : V) (Q : VK), Rep (kc X W) ρ h H → RV (kc X W) ρ H x v → RV (kc X W) ρ H y w →
    Out (kc X W) ρ H (RV (kc X W)) (fun c d H' => W c d σ H') (f x y h) Q → r v w H Q
theorem tM_bin {f a b r} (ho : OpX X W f r) : ∀ σ H Q, tM (kc X W) W (mBin f a b) σ H Q → tOp r (tM (kc X W) W a) (tM (kc X W) W b) σ H Q := by
  intro σ H Q ⟨ρ, h, l, p, rl, o⟩
  refine ⟨ρ, h, l, p, rl, Out.mono (Out.bind o) ?_⟩
  intro v H1 ⟨x, h1, ρ1, e1, p1, r1, o1⟩
  refine ⟨ρ1, h1, l, p1, rl.ext e1, Out.mono (Out.bind o1) ?_⟩
  intro w H2 ⟨y, h2, ρ2, e2, p2, r2, o2⟩
  exact ho ρ2 h2 σ H2 x y v w Q p2 (r1.ext e2) r2 o2
theorem xe_bin {a b : Expr} {op : Operator} {f ma mb r} (hr : OpR X (binaryOp op) r) (ho : OpX X W f r) (ha : XE X W a ma) (hb : XE X W b mb) : XE X W (.BinOp a op b pos) (mBin f ma mb) := pe_weak (pe_op hr ha hb) (tM_bin ho)
theorem xe_cmp {a b : Expr} {op : CmpOp} {f ma mb r} (hr : OpR X (compareOp op) r) (ho : OpX X W f r) (ha : XE X W a ma) (hb : XE X W b mb) (hm : behindInMarks op b = false) : XE X W (.Compare a [op] [b] pos) (mBin f ma mb) := pe_weak (pe_cmpR hr ha hb hm) (tM_bin ho)
end
end Wg

namespace Wg
open PySem PySem.Spec PyProof.Rows L2 SlX
section
variable {K : KC} {ρ ρ' ρ1 : Pl} {H H' H1 : Hp} {h : Store}

/-! ### the store's keeping -/
theorem RC.there {c : Cell} {p : Addr} (r : RC K ρ h H c p) : ∃ o, H p = some o := by
  cases c with
  | lst xs => obtain ⟨vs, e, _⟩ := r; exact ⟨_, e⟩
  | dct xs => obtain ⟨vs, e, _⟩ := r; exact ⟨_, e⟩
  | dcT xs => obtain ⟨vs, e, _⟩ := r; exact ⟨_, e⟩
  | ins n j xs => obtain ⟨C, dx, vs, _, _, _, ⟨t, _⟩, _⟩ := r; rcases t with ⟨e, _⟩ | ⟨e, _⟩ <;> exact ⟨_, e⟩
  | own => exact r
/-- a cell stands as it stood: its own place and the dicts of instances are as they were -/
theorem RC.kp (a : Kp ρ H ρ' H') {h' : Store} {c : Cell} {p : Addr} (e : H' p = H p) (eo : ∀ (j : Nat) (dx : Addr), h[j]? = some Cell.own → ρ.c[j]? = some dx → h'[j]? = some Cell.own ∧ H' dx = H dx) (r : RC K ρ h H c p) : RC K ρ' h' H' c p := by
  cases c with
  | lst xs => obtain ⟨vs, q, rs⟩ := r; exact ⟨vs, by rw [e]; exact q, RVs.kp a _ _ rs⟩
  | dct xs => obtain ⟨vs, q, rs⟩ := r; exact ⟨vs, by rw [e]; exact q, RVd.kp a _ _ rs⟩
  | dcT xs => obtain ⟨vs, q, rs⟩ := r; exact ⟨vs, by rw [e]; exact q, RVt.kp a _ _ rs⟩
  | ins n j xs =>
    obtain ⟨C, dx, vs, m, q1, q2, ⟨t, tl⟩, rs⟩ := r
    obtain ⟨w1, w2⟩ := eo j dx q1 q2
    refine ⟨C, dx, vs, m, w1, a.look _ _ q2, ⟨?_, tl⟩, fun i x hx => ?_⟩
    · rcases t with ⟨t1, t2⟩ | ⟨t1, t2⟩
      · exact .inl ⟨by rw [e]; exact t1, t2⟩
      · exact .inr ⟨by rw [e]; exact t1, by rw [w2]; exact t2⟩
    · obtain ⟨v, e1, e2⟩ := rs i x hx
      exact ⟨v, e1, RV.kp a _ _ e2⟩
  | own => obtain ⟨o, q⟩ := r; exact ⟨o, by rw [e]; exact q⟩
theorem Rep.cell (p : Rep K ρ h H) {a : Addr} (m : a ∈ ρ.c) : ∃ o, H a = some o := by
  obtain ⟨i, hi, e⟩ := List.mem_iff_getElem.mp m
  have hl : i < h.length := by rw [p.len]; exact hi
  exact (p.at_ i h[i] a (by simp [hl]) (by simp [hi, e])).there
theorem Rep.there (p : Rep K ρ h H) {a : Addr} (m : ρ.has a) : ∃ o, H a = some o := m.elim p.cell (p.hid a)
theorem Rep.fresh (p : Rep K ρ h H) {a : Addr} (e : H a = none) : ¬ ρ.has a := fun m => by
  obtain ⟨o, q⟩ := p.there m
  rw [e] at q; cases q
/-- the same cells, all as they stood -/
theorem Rep.same (p : Rep K ρ h H) (a : Kp ρ H ρ' H') (hc : ρ'.c = ρ.c) (k : ∀ b ∈ ρ.c, H' b = H b) (hh : ∀ q ∈ ρ'.hid, ∃ o, H' q = some o) (dj : ∀ q ∈ ρ'.c, q ∉ ρ'.hid) : Rep K ρ' h H' :=
  ⟨by rw [hc]; exact p.len, by rw [hc]; exact p.nd, fun i c q e1 e2 => by
    rw [hc] at e2
    exact (p.at_ i c q e1 e2).kp a (k q (List.mem_of_getElem? e2)) fun j dx q1 q2 => ⟨q1, k dx (List.mem_of_getElem? q2)⟩, hh, dj⟩
theorem Rep.keep (p : Rep K ρ h H) (a : Ext ρ H ρ H') (k : ∀ b, ρ.has b → H' b = H b) : Rep K ρ h H' :=
  p.same a.kp rfl (fun b hb => k b (.inl hb)) (fun q hq => by rw [k q (.inr hq)]; exact p.hid q hq) p.dj
theorem Ext.upd_new {a : Addr} (e : H a = none) (o : HO) : Ext ρ H ρ (upd H a o) := .of ⟨[], by simp, by simp⟩ rfl (fun b u _ q => by rw [upd_ne (ne_of_none q e)]; exact q)
theorem Ext.upd_in {a : Addr} (e : a ∈ ρ.c) (o : HO) : Ext ρ H ρ (upd H a o) := .of ⟨[], by simp, by simp⟩ rfl fun b u hb q => by rw [upd_ne (fun z => hb (by rw [z]; exact e))]; exact q
/-- a new object outside the store -/
theorem Rep.new (p : Rep K ρ h H) {a : Addr} (e : H a = none) (o : HO) : Ext ρ H ρ (upd H a o) ∧ Rep K ρ h (upd H a o) :=
  ⟨Ext.upd_new e o, p.keep (Ext.upd_new e o) fun b hb => upd_ne (fun z => p.fresh e (by rw [← z]; exact hb))⟩
/-- the places with one more -/
abbrev Pl.add (ρ : Pl) (a : Addr) : Pl := ⟨ρ.c ++ [a], ρ.hid⟩
theorem Ext.upd_add (p : Rep K ρ h H) {a : Addr} (e : H a = none) (o : HO) : Ext ρ H (ρ.add a) (upd H a o) :=
  .of ⟨[a], rfl, fun b hb => by rw [List.mem_singleton.mp hb]; exact ⟨p.fresh e, e⟩⟩ rfl fun b u _ q => by rw [upd_ne (ne_of_none q e)]; exact q
/-- a cell more, that stands already, outside the store -/
theorem Rep.join {c : Cell} {a : Addr} (p : Rep K ρ h H) (hc : ρ'.c = ρ.c ++ [a]) (k : Kp ρ H ρ' H') (na : a ∉ ρ.c) (same : ∀ b ∈ ρ.c, H' b = H b) (hh : ∀ q ∈ ρ'.hid, ∃ o, H' q = some o) (dj : ∀ q ∈ ρ'.c, q ∉ ρ'.hid) (r : RC K ρ' (h ++ [c]) H' c a) : Rep K ρ' (h ++ [c]) H' := by
  refine ⟨by rw [hc]; simp [p.len], by rw [hc]; exact List.nodup_append.mpr ⟨p.nd, by simp, fun b hb c hc z => by rw [List.mem_singleton.mp hc] at z; exact na (by rw [← z]; exact hb)⟩, fun i c' q e1 e2 => ?_, hh, dj⟩
  rw [hc] at e2
  by_cases hi : i < ρ.c.length
  · rw [List.getElem?_append_left (by rw [p.len]; exact hi)] at e1
    rw [List.getElem?_append_left hi] at e2
    refine (p.at_ i c' q e1 e2).kp k (same q (List.mem_of_getElem? e2)) fun j dx q1 q2 => ⟨?_, same dx (List.mem_of_getElem? q2)⟩
    rw [List.getElem?_append_left (List.getElem?_eq_some_iff.mp q1).1]; exact q1
  · have hl := p.len
    rw [List.getElem?_append_right (by omega)] at e1 e2
    have : i = ρ.c.length := by
      by_cases z : i - ρ.c.length = 0
      · omega
      · obtain ⟨n, hn⟩ := Nat.exists_eq_succ_of_ne_zero z
        rw [hn] at e2; simp at e2
    subst this
    simp [hl] at e1
    simp at e2
    rw [← e1, ← e2]; exact r
/-- a new cell -/
theorem Rep.grow (p : Rep K ρ h H) {a : Addr} (e : H a = none) {o : HO} {c : Cell} (r : RC K (ρ.add a) (h ++ [c]) (upd H a o) c a) : Rep K (ρ.add a) (h ++ [c]) (upd H a o) :=
  p.join rfl (Ext.upd_add p e o).kp (fun z => p.fresh e (.inl z)) (fun b hb => upd_ne (fun z => p.fresh e (.inl (by rw [← z]; exact hb)))) (fun q hq => by
    obtain ⟨u, z⟩ := p.hid q hq
    exact ⟨u, by rw [upd_ne (ne_of_none z e)]; exact z⟩) (fun q hq => (List.mem_append.mp hq).elim (p.dj q) fun z w => p.fresh e (.inr (by rw [← List.mem_singleton.mp z]; exact w))) r
/-- a cell written -/
theorem Rep.put (p : Rep K ρ h H) {i : Nat} {a : Addr} (e : ρ.c[i]? = some a) {o : HO} {c : Cell} (ho : h[i]? ≠ some Cell.own ∨ c = Cell.own ∧ H a = some o) (r : RC K ρ (h.set i c) (upd H a o) c a) : Rep K ρ (h.set i c) (upd H a o) := by
  have ma := List.mem_of_getElem? e
  have x : Ext ρ H ρ (upd H a o) := Ext.upd_in ma o
  have ne : ∀ j q, ρ.c[j]? = some q → j ≠ i → q ≠ a := fun j q e2 hj z => by
    subst z
    obtain ⟨h1, q1⟩ := List.getElem?_eq_some_iff.mp e2
    obtain ⟨h2, q2⟩ := List.getElem?_eq_some_iff.mp e
    exact hj ((List.getElem_inj p.nd).mp (q1.trans q2.symm))
  refine ⟨by simp [p.len], p.nd, fun j c' q e1 e2 => ?_, fun q hq => ?_, p.dj⟩
  · by_cases hj : j = i
    · subst hj
      rw [e] at e2; cases e2
      have : j < h.length := by rw [p.len]; exact (List.getElem?_eq_some_iff.mp e).1
      rw [List.getElem?_set_self this] at e1
      cases e1; exact r
    · rw [List.getElem?_set_ne (Ne.symm hj)] at e1
      refine (p.at_ j c' q e1 e2).kp x.kp (upd_ne (ne j q e2 hj)) fun k dx q1 q2 => ?_
      by_cases hk : k = i
      · subst hk
        rcases ho with ho | ⟨ho, ho2⟩
        · exact absurd q1 ho
        · rw [e] at q2; cases q2
          refine ⟨by rw [ho]; exact (by rw [List.getElem?_set_self (List.getElem?_eq_some_iff.mp q1).1]), ?_⟩
          rw [upd_same, ho2]
      · rw [List.getElem?_set_ne (Ne.symm hk)]
        exact ⟨q1, upd_ne (ne k dx q2 hk)⟩
  · by_cases hz : q = a
    · exact ⟨o, by rw [hz, upd_same]⟩
    · rw [upd_ne hz]; exact p.hid q hq

/-- the items of a list -/
def lstOf (h : Store) : PV → Option (List PV)
  | .lst xs => some xs
  | .ref a => match h[a]? with
    | some (.lst xs) => some xs
    | _ => none
  | _ => none
theorem lstOf_at (p : Rep K ρ h H) {x : PV} {v : V} {xs : List PV} (r : RV K ρ H x v) (e : lstOf h x = some xs) : ∃ a vs, v = .ref a ∧ H a = some (.lst vs) ∧ RVs K ρ H xs vs := by
  cases x with
  | lst ys =>
    obtain ⟨a, vs, e1, t, rs⟩ := r
    cases e
    exact ⟨a, vs, e1, t.2, rs⟩
  | ref i =>
    obtain ⟨a, e1, e2⟩ := r
    simp only [lstOf] at e
    cases q : h[i]? with
    | none => rw [q] at e; cases e
    | some c =>
      cases c with
      | lst ys =>
        rw [q] at e
        cases e
        obtain ⟨vs, q1, rs⟩ := p.at_ i _ a q e1
        exact ⟨a, vs, e2, q1, rs⟩
      | _ => rw [q] at e; cases e
  | _ => cases e
/-- .. that is read -/
def lstRd (h : Store) : PV → Option (List PV)
  | .scr xs => some xs
  | x => lstOf h x
theorem lstRd_at (p : Rep K ρ h H) {x : PV} {v : V} {xs : List PV} (r : RV K ρ H x v) (e : lstRd h x = some xs) : ∃ a vs, v = .ref a ∧ SqL K H a vs ∧ RVs K ρ H xs vs := by
  cases x with
  | scr ys =>
    obtain ⟨a, vs, e1, t, rs⟩ := r
    cases e
    exact ⟨a, vs, e1, t.sq, rs⟩
  | _ =>
    obtain ⟨a, vs, e1, t, rs⟩ := lstOf_at p r e
    exact ⟨a, vs, e1, SqL.of t, rs⟩

/-! ### operators -/
variable {X : Cx} {W : WQ}
def rAddA (K : PySem.W.Frag) : R2 := fun x y H Q => (∃ i j, x = .int i ∧ y = .int j ∧ Q (.int (i + j)) H) ∨ (∃ i j, x = .str i ∧ y = .str j ∧ i.length + j.length ≤ sizeLine ∧ Q (.str (i ++ j)) H) ∨ rCatA K x y H Q ∨ rCat x y H Q
theorem op_addA : OpR X (binaryOp .Add) (rAddA X.K) := op_add.or (op_add_str.or (op_catA.or op_cat))
def fAdd (x y : PV) (h : Store) : R PV :=
  match x, y with
  | .int i, .int j => .ok (.int (i + j)) h
  | .str x, .str y => if x.length + y.length ≤ sizeLine then .ok (.str (x ++ y)) h else .no
  | .tup xs, .tup ys => if xs.length + ys.length ≤ sizeLine then .ok (.tup (xs ++ ys)) h else .no
  | x, y => match lstOf h x, lstOf h y with
    | some xs, some ys => if xs.length + ys.length ≤ sizeLine then .ok (.lst (xs ++ ys)) h else .no
    | _, _ => .no
theorem tup_at {xs : List PV} {v : V} (r : RV K ρ H (.tup xs) v) : ∃ a vs, v = .ref a ∧ SqT K H a vs ∧ RVs K ρ H xs vs := by
  obtain ⟨a, vs, e, t, rs⟩ := r
  exact ⟨a, vs, e, t.sq, rs⟩
/-- a new tuple, a new list -/
theorem new_tup (p : Rep K ρ h H) {a : Addr} (e : H a = none) {xs : List PV} {vs : List V} (r : RVs K ρ H xs vs) :
    Ext ρ H ρ (upd H a (.tup vs)) ∧ Rep K ρ h (upd H a (.tup vs)) ∧ RV K ρ (upd H a (.tup vs)) (.tup xs) (.ref a) := by
  obtain ⟨x, q⟩ := p.new e (.tup vs)
  exact ⟨x, q, a, vs, rfl, ⟨p.fresh e, upd_same⟩, RVs.ext x _ _ r⟩
theorem new_lst (p : Rep K ρ h H) {a : Addr} (e : H a = none) {xs : List PV} {vs : List V} (r : RVs K ρ H xs vs) :
    Ext ρ H ρ (upd H a (.lst vs)) ∧ Rep K ρ h (upd H a (.lst vs)) ∧ RV K ρ (upd H a (.lst vs)) (.lst xs) (.ref a) := by
  obtain ⟨x, q⟩ := p.new e (.lst vs)
  exact ⟨x, q, a, vs, rfl, ⟨p.fresh e, upd_same⟩, RVs.ext x _ _ r⟩
theorem out_if {α β : Type} {rel : Pl → Hp → α → β → Prop} {WW : Value → Option Addr → Hp → Prop} {c : Prop} [Decidable c] {r : R α} {Q : β → Hp → Prop} (o : Out K ρ H rel WW (if c then r else .no) Q) : c ∧ Out K ρ H rel WW r Q := by
  by_cases hc : c
  · rw [if_pos hc] at o; exact ⟨hc, o⟩
  · rw [if_neg hc] at o; exact o.elim
theorem str_app (x y : List Nat) : strV (x ++ y) = V.str ((⟨x.toArray⟩ : Str) ++ ⟨y.toArray⟩) := by
  have e : ((⟨x.toArray⟩ : Str) ++ ⟨y.toArray⟩) = ⟨x.toArray ++ y.toArray⟩ := rfl
  rw [e, List.append_toArray]
theorem ox_add : OpX X W fAdd (rAddA X.K) := by
  intro ρ h σ H x y v w Q p rx ry o
  unfold fAdd at o
  split at o
  next i j =>
    cases rx; cases ry
    exact .inl ⟨_, _, rfl, rfl, o.ok p rfl⟩
  next i j =>
    cases rx; cases ry
    obtain ⟨c, o⟩ := out_if o
    exact .inr (.inl ⟨_, _, rfl, rfl, by simpa [Str.length] using c, o.ok p (str_app i j).symm⟩)
  next xs ys =>
    obtain ⟨a, vs, e1, t1, r1⟩ := tup_at rx
    obtain ⟨b, ws, e2, t2, r2⟩ := tup_at ry
    obtain ⟨c, o⟩ := out_if o
    subst e1; subst e2
    refine .inr (.inr (.inl ⟨a, b, vs, ws, rfl, rfl, t1, t2, by rw [← r1.len, ← r2.len]; exact c, fun z => ?_, fun _ z => ?_, fun _ _ q hq => ?_⟩))
    · subst z
      have : xs = [] := List.length_eq_zero_iff.mp r1.len
      subst this
      exact o.ok p (by simpa using ry)
    · subst z
      have : ys = [] := List.length_eq_zero_iff.mp r2.len
      subst this
      exact o.ok p (by simpa using rx)
    · obtain ⟨x, p', r'⟩ := new_tup p hq (r1.app r2)
      exact o ρ _ _ x p' r'
  next =>
    split at o
    next xs ys e1 e2 =>
      obtain ⟨c, o⟩ := out_if o
      obtain ⟨a, vs, e1, t1, r1⟩ := lstOf_at p rx e1
      obtain ⟨b, ws, e2, t2, r2⟩ := lstOf_at p ry e2
      exact .inr (.inr (.inr ⟨a, b, vs, ws, e1, e2, t1, t2, by rw [← r1.len, ← r2.len]; exact c, fun q hq =>
        let ⟨x, p', r'⟩ := new_lst p hq (r1.app r2); o ρ _ _ x p' r'⟩))
    next => exact o.elim

/-- ints alone -/
def fInt (c : Int → Int → Bool) (g : Int → Int → Int) (x y : PV) (h : Store) : R PV :=
  match x, y with
  | .int i, .int j => if c i j = true then .ok (.int (g i j)) h else .no
  | _, _ => .no
theorem ox_int {C : Int → Int → Prop} {c : Int → Int → Bool} {g : Int → Int → Int} (hc : ∀ i j, c i j = true → C i j) : OpX X W (fInt c g) (rI C fun i j => .int (g i j)) := by
  intro ρ h σ H x y v w Q p rx ry o
  unfold fInt at o
  split at o
  next i j =>
    cases rx; cases ry
    obtain ⟨k, o⟩ := out_if o
    exact ⟨i, j, rfl, rfl, hc i j k, o.ok p rfl⟩
  next => exact o.elim
theorem ox_int0 {g : Int → Int → Int} : OpX X W (fInt (fun _ _ => true) g) (rI0 fun i j => .int (g i j)) := by
  intro ρ h σ H x y v w Q p rx ry o
  unfold fInt at o
  split at o
  next i j =>
    cases rx; cases ry
    obtain ⟨k, o⟩ := out_if o
    exact ⟨i, j, rfl, rfl, o.ok p rfl⟩
  next => exact o.elim
abbrev fSub := fInt (fun _ _ => true) fun i j => i - j
abbrev fMul := fInt (fun i j => (decide (-(2 ^ 64) < i) && decide (i < 2 ^ 64)) || (decide (-(2 ^ 64) < j) && decide (j < 2 ^ 64)) || decide (i.natAbs.log2 + j.natAbs.log2 < 1000000)) fun i j => i * j
abbrev fDiv := fInt (fun _ j => decide (0 < j) && decide (j < 2 ^ 8000)) fun i j => i / j
abbrev fMod := fInt (fun _ j => decide (0 < j)) fun i j => i % j
abbrev fPow := fInt (fun i j => decide (0 ≤ j) && decide (j ≤ 1000000) && decide (i.natAbs < 2 ^ 64)) fun i j => i ^ j.toNat
def rMulA : R2 := fun x y H Q => rI CMul (fun i j => .int (i * j)) x y H Q ∨ rI CMulW (fun i j => .int (i * j)) x y H Q
theorem op_mulA : OpR X (binaryOp .Mult) rMulA := op_mul.or op_mulW
theorem ox_sub : OpX X W fSub (rI0 fun i j => .int (i - j)) := ox_int0
theorem ox_mul : OpX X W fMul rMulA := by
  intro ρ h σ H x y v w Q p rx ry o
  unfold fMul fInt at o
  split at o
  next i j =>
    cases rx; cases ry
    obtain ⟨k, o⟩ := out_if o
    simp only [Bool.or_eq_true, Bool.and_eq_true, decide_eq_true_eq] at k
    rcases k with k | k
    · exact .inl ⟨i, j, rfl, rfl, k, o.ok p rfl⟩
    · exact .inr ⟨i, j, rfl, rfl, k, o.ok p rfl⟩
  next => exact o.elim
theorem ox_div : OpX X W fDiv (rI CDivW fun i j => .int (i / j)) := ox_int fun i j k => by
  simp only [Bool.and_eq_true, decide_eq_true_eq] at k
  have h2 : j.natAbs < 2 ^ 8000 := by omega
  refine ⟨k.1, ?_⟩
  by_cases z : j.natAbs = 0
  · rw [z]; decide
  · exact Nat.lt_trans ((Nat.log2_lt z).mpr h2) (by decide)
theorem ox_mod : OpX X W fMod (rI (fun _ j => 0 < j) fun i j => .int (i % j)) := ox_int fun i j k => by simpa using k
theorem ox_pow : OpX X W fPow (rI CPow fun i j => .int (i ^ j.toNat)) := ox_int fun i j k => by
  simp only [Bool.and_eq_true, decide_eq_true_eq] at k
  exact ⟨k.1.1, k.1.2, k.2⟩
end
end Wg

namespace Wg
open PySem PySem.Spec PyProof.Rows L2 SlX
section
variable {K : KC} {ρ ρ' ρ1 : Pl} {H H' H1 : Hp} {h : Store}

/-! ### == -/
mutual
def toD : PV → Option PyData
  | .non => some .none
  | .bl b => some (.bool b)
  | .int i => some (.int i)
  | .str x => some (.str ⟨x.toArray⟩)
  | .tup xs => (toDs xs).map .tuple
  | .lst xs => (toDs xs).map .list
  | .scr xs => (toDs xs).map .list
  | _ => none
def toDs : List PV → Option (List PyData)
  | [] => some []
  | x :: xs => (toD x).bind fun d => (toDs xs).map (d :: ·)
end
/-- a cell's list as a value -/
def seen (h : Store) : PV → PV
  | .ref a => match h[a]? with
    | some (.lst xs) => .lst xs
    | _ => .ref a
  | x => x
mutual
theorem toD_dp : ∀ (x : PV) (v : V) (d : PyData), RV K ρ H x v → toD x = some d → Dp K H v d
  | .non, _, _, r, e => by cases e; rw [show _ = V.non from r]; exact .non
  | .bl b, _, _, r, e => by cases e; rw [show _ = V.bl b from r]; exact .bl b
  | .int i, _, _, r, e => by cases e; rw [show _ = V.int i from r]; exact .int i
  | .str x, _, _, r, e => by cases e; rw [show _ = strV x from r]; exact .str _
  | .tup xs, _, _, ⟨p, vs, e1, t, r⟩, e => by
    unfold toD at e
    cases q : toDs xs with
    | none => rw [q] at e; cases e
    | some ds => rw [q] at e; cases e; rw [e1]; exact .tup t.sq (toDs_dp xs vs ds r q)
  | .lst xs, _, _, ⟨p, vs, e1, t, r⟩, e => by
    unfold toD at e
    cases q : toDs xs with
    | none => rw [q] at e; cases e
    | some ds => rw [q] at e; cases e; rw [e1]; exact .lst (SqL.of t.2) (toDs_dp xs vs ds r q)
  | .scr xs, _, _, ⟨p, vs, e1, t, r⟩, e => by
    unfold toD at e
    cases q : toDs xs with
    | none => rw [q] at e; cases e
    | some ds => rw [q] at e; cases e; rw [e1]; exact .lst t.sq (toDs_dp xs vs ds r q)
  | .ty _, _, _, _, e => by cases e
  | .adr _, _, _, _, e => by cases e
  | .ref _, _, _, _, e => by cases e
  | .dct _, _, _, _, e => by cases e
  | .dcT _, _, _, _, e => by cases e
  | .cls _, _, _, _, e => by cases e
  | .ins _ _, _, _, _, e => by cases e
  | .set _, _, _, _, e => by cases e
  | .dctO _, _, _, _, e => by cases e
  | .exn _, _, _, _, e => by cases e
theorem toDs_dp : ∀ (xs : List PV) (vs : List V) (ds : List PyData), RVs K ρ H xs vs → toDs xs = some ds → DpAll K H vs ds
  | [], _, _, r, e => by cases e; rw [show _ = [] from r]; exact .nil
  | x :: xs, _, _, ⟨v, rr, e1, h1, h2⟩, e => by
    unfold toDs at e
    cases q1 : toD x with
    | none => rw [q1] at e; cases e
    | some d =>
      cases q2 : toDs xs with
      | none => rw [q1, q2] at e; cases e
      | some ds => rw [q1, q2] at e; cases e; rw [e1]; exact .cons (toD_dp x v d h1 q1) (toDs_dp xs rr ds h2 q2)
end
theorem seen_dp (p : Rep K ρ h H) {x : PV} {v : V} {d : PyData} (r : RV K ρ H x v) (e : toD (seen h x) = some d) : Dp K H v d := by
  cases x with
  | ref i =>
    obtain ⟨a, e1, e2⟩ := r
    cases q : h[i]? with
    | none => simp [seen, q, toD] at e
    | some c =>
      cases c with
      | lst ys =>
        simp only [seen, q] at e
        obtain ⟨vs, q1, rs⟩ := p.at_ i _ a q e1
        simp only [toD] at e
        cases q2 : toDs ys with
        | none => rw [q2] at e; cases e
        | some ds => rw [q2] at e; cases e; rw [e2]; exact .lst (SqL.of q1) (toDs_dp ys vs ds rs q2)
      | _ => simp [seen, q, toD] at e
  | _ => exact toD_dp _ v d r e
/-- scalars -/
def eqS : PV → PV → Option Bool
  | .non, .non => some true
  | .non, .int _ => some false | .int _, .non => some false
  | .non, .bl _ => some false | .bl _, .non => some false
  | .non, .str _ => some false | .str _, .non => some false
  | .int i, .int j => some (decide (i = j))
  | .bl a, .bl b => some (a == b)
  | .str x, .str y => some (decide (x = y))
  | .int _, .str _ => some false | .str _, .int _ => some false
  | .bl _, .str _ => some false | .str _, .bl _ => some false
  | _, _ => none
def shD (d : PyData) : Bool := SeqAt.shaped d
def fEqB (x y : PV) (h : Store) : Option Bool :=
  match eqS x y with
  | some b => some b
  | none => match toD (seen h x), toD (seen h y) with
    | some d, some e => if (shD d && shD e) = true then some (PyData.eqv d e) else none
    | _, _ => none
/-- a dict and a tuple -/
def eqDT : PV → PV → Bool
  | .dct _, .tup _ => true
  | .dcT _, .tup _ => true
  | _, _ => false
def fEq (x y : PV) (h : Store) : R PV := match fEqB x y h with
  | some b => .ok (.bl b) h
  | none => if eqDT x y = true then .ok (.bl false) h else .no
def fNe (x y : PV) (h : Store) : R PV := match fEqB x y h with
  | some b => .ok (.bl (!b)) h
  | none => .no
theorem eqS_scal {x y : PV} {v w : V} {b : Bool} (rx : RV K ρ H x v) (ry : RV K ρ H y w) (e : eqS x y = some b) : scal v w = true ∧ decide (v = w) = b := by
  cases x <;> cases y <;> simp only [eqS] at e <;> first | (cases e; done) | skip
  all_goals (rw [show v = _ from rx, show w = _ from ry]; cases e; simp [scal, strV])
  all_goals first
    | (rename_i a b; cases a <;> cases b <;> rfl)
    | skip
variable {X : Cx} {W : WQ}
def rEqA (K : PySem.W.Frag) : R2 := fun x y H Q => rEq x y H Q ∨ rEqD K x y H Q ∨ rEqDT K x y H Q
def rNeA (K : PySem.W.Frag) : R2 := fun x y H Q => rNe x y H Q ∨ rNeD K x y H Q
theorem op_eqA (hu : X.A.units + 64 < cLine) : OpR X (compareOp .Eq) (rEqA X.K) := op_eq.or ((op_eqD hu).or (op_eqDT hu))
theorem op_neA (hu : X.A.units + 64 < cLine) : OpR X (compareOp .NotEq) (rNeA X.K) := op_ne.or (op_neD hu)
theorem fEqB_at (p : Rep K ρ h H) {x y : PV} {v w : V} {b : Bool} (rx : RV K ρ H x v) (ry : RV K ρ H y w) (e : fEqB x y h = some b) :
    (scal v w = true ∧ decide (v = w) = b) ∨ ∃ d e, Dp K H v d ∧ Dp K H w e ∧ SeqAt.shaped d = true ∧ SeqAt.shaped e = true ∧ PyData.eqv d e = b := by
  unfold fEqB at e
  split at e
  next b' q => cases e; exact .inl (eqS_scal rx ry q)
  next =>
    split at e
    next d d' q1 q2 =>
      by_cases c : (shD d && shD d') = true
      · rw [if_pos c] at e
        cases e
        rw [Bool.and_eq_true] at c
        exact .inr ⟨d, d', seen_dp p rx q1, seen_dp p ry q2, c.1, c.2, rfl⟩
      · rw [if_neg c] at e; cases e
    next => cases e
theorem ox_eq : OpX X W fEq (rEqA X.K) := by
  intro ρ h σ H x y v w Q p rx ry o
  unfold fEq at o
  split at o
  next b q =>
    rcases fEqB_at p rx ry q with ⟨a, c⟩ | ⟨d, e, a1, a2, a3, a4, c⟩
    · exact .inl ⟨a, by rw [c]; exact o.ok p rfl⟩
    · exact .inr (.inl ⟨d, e, a1, a2, a3, a4, by rw [c]; exact o.ok p rfl⟩)
  next =>
    obtain ⟨c, o⟩ := out_if o
    cases x <;> first | (cases c; done) | skip
    all_goals (cases y <;> first | (cases c; done) | skip)
    all_goals
      obtain ⟨a, vs, e1, t, _⟩ := rx
      obtain ⟨b, ws, e2, t2, _⟩ := tup_at ry
    · exact .inr (.inr ⟨a, b, ws, e1, e2, .inl ⟨vs, t.2⟩, t2, o.ok p rfl⟩)
    · exact .inr (.inr ⟨a, b, ws, e1, e2, .inr ⟨vs, t.2⟩, t2, o.ok p rfl⟩)
theorem ox_ne : OpX X W fNe (rNeA X.K) := by
  intro ρ h σ H x y v w Q p rx ry o
  unfold fNe at o
  split at o
  next b q =>
    rcases fEqB_at p rx ry q with ⟨a, c⟩ | ⟨d, e, a1, a2, a3, a4, c⟩
    · exact .inl ⟨a, by rw [c]; exact o.ok p rfl⟩
    · exact .inr ⟨d, e, a1, a2, a3, a4, by rw [c]; exact o.ok p rfl⟩
  next => exact o.elim

/-! ### < <= > >= -/
def fOrd (g : Int → Int → Bool) (k : List Nat → List Nat → Bool) (x y : PV) (h : Store) : R PV :=
  match x, y with
  | .int i, .int j => .ok (.bl (g i j)) h
  | .str i, .str j => .ok (.bl (k i j)) h
  | _, _ => .no
def rOrd (g : Int → Int → Bool) (k : List Nat → List Nat → Bool) : R2 := fun x y H Q => (∃ i j, x = .int i ∧ y = .int j ∧ Q (.bl (g i j)) H) ∨ (∃ i j, x = .str i ∧ y = .str j ∧ Q (.bl (k i.cps.toList j.cps.toList)) H)
theorem ox_ord {g k} : OpX X W (fOrd g k) (rOrd g k) := by
  intro ρ h σ H x y v w Q p rx ry o
  unfold fOrd at o
  split at o
  next i j => cases rx; cases ry; exact .inl ⟨i, j, rfl, rfl, o.ok p rfl⟩
  next i j => cases rx; cases ry; exact .inr ⟨_, _, rfl, rfl, o.ok p rfl⟩
  next => exact o.elim
abbrev fLt := fOrd (fun i j => decide (i < j)) (fun i j => decide (i < j))
abbrev fLe := fOrd (fun i j => decide (i ≤ j)) (fun i j => !decide (j < i))
abbrev fGt := fOrd (fun i j => decide (j < i)) (fun i j => decide (j < i))
abbrev fGe := fOrd (fun i j => decide (j ≤ i)) (fun i j => !decide (i < j))
theorem op_ltA : OpR X (compareOp .Lt) (rOrd (fun i j => decide (i < j)) (fun i j => decide (i < j))) := op_lt.or op_lt_str
theorem op_leA : OpR X (compareOp .LtE) (rOrd (fun i j => decide (i ≤ j)) (fun i j => !decide (j < i))) := op_le.or op_le_str
theorem op_gtA : OpR X (compareOp .Gt) (rOrd (fun i j => decide (j < i)) (fun i j => decide (j < i))) := op_gt.or op_gt_str
theorem op_geA : OpR X (compareOp .GtE) (rOrd (fun i j => decide (j ≤ i)) (fun i j => !decide (i < j))) := op_ge.or op_ge_str
end
end Wg

namespace Wg
open PySem PySem.Spec PyProof.Rows L2 SlX
section
variable {X : Cx} {W : WQ} {a b c e : Expr} {ma mb mc m : M PV} {pos : Pos}

/-! ### tests -/
def mB (m : M PV) : M Bool := fun l h => (m l h).bind fun x h1 => match x with
  | .bl b => .ok b h1
  | _ => .no
theorem tB_of : ∀ σ H Q, tT (kc X W) W (mB m) σ H Q → tM (kc X W) W m σ H fun x H' => ∃ k, x = .bl k ∧ Q k H' := by
  intro σ H Q ⟨ρ, h, l, p, rl, o⟩
  refine ⟨ρ, h, l, p, rl, Out.mono (Out.bind o) ?_⟩
  intro v H1 ⟨x, h1, ρ1, e1, p1, r1, o1⟩
  cases x with
  | bl b => exact ⟨b, r1, o1.ok p1 rfl⟩
  | _ => exact o1.elim
theorem xt_val (h : XE X W e m) (he : ∀ whole, isTrue e X.env whole = (do let v ← whole; standAt e.pos; holding [v] (truthy v)) := by intro _; rfl) : XT X W e (mB m) := pt_weak (pt_val h he) tB_of
theorem xt_cmp {op : CmpOp} {f r} (hr : OpR X (compareOp op) r) (ho : OpX X W f r) (ha : XE X W a ma) (hb : XE X W b mb) (hm : behindInMarks op b = false) : XT X W (.Compare a [op] [b] pos) (mB (mBin f ma mb)) :=
  pt_weak (pt_cmpR hr ha hb hm) fun σ H Q t => tM_bin ho _ _ _ (tB_of _ _ _ t)
def mAndT (a b : M Bool) : M Bool := fun l h => (a l h).bind fun c h1 => if c = true then b l h1 else .ok false h1
def mOrT (a b : M Bool) : M Bool := fun l h => (a l h).bind fun c h1 => if c = true then .ok true h1 else b l h1
def mNotT (a : M Bool) : M Bool := fun l h => (a l h).bind fun c h1 => .ok (!c) h1
abbrev XW (X : Cx) (W : WQ) (e : Expr) (m : M Bool) : Prop := PW X e (tT (kc X W) W m)
theorem pw_weak {X e t t'} (h : PW X e t) (w : ∀ σ H Q, t' σ H Q → t σ H Q) : PW X e t' := ⟨fun wh pins s σ H Q I q => h.run wh pins s σ H Q I (w _ _ _ q)⟩
variable {ta tb : M Bool} {rest : List Expr}
theorem xw_and1 (ha : XT X W a ta) : XW X W (.BoolOp .And [a] pos) ta := pw_and1 ha
theorem xw_or1 (ha : XT X W a ta) : XW X W (.BoolOp .Or [a] pos) ta := pw_or1 ha
theorem xw_and (ha : XT X W a ta) (hb : XW X W (.BoolOp .And (b :: rest) pos) tb) : XW X W (.BoolOp .And (a :: b :: rest) pos) (mAndT ta tb) :=
  pw_weak (pw_and ha hb) fun σ H Q ⟨ρ, h, l, p, rl, o⟩ => ⟨ρ, h, l, p, rl, Out.mono (Out.bind o) fun v H1 ⟨x, h1, ρ1, e1, p1, r1, o1⟩ => by
    cases r1
    cases v with
    | true => exact ⟨ρ1, h1, l, p1, rl.ext e1, o1⟩
    | false => exact o1.ok p1 rfl⟩
theorem xw_or (ha : XT X W a ta) (hb : XW X W (.BoolOp .Or (b :: rest) pos) tb) : XW X W (.BoolOp .Or (a :: b :: rest) pos) (mOrT ta tb) :=
  pw_weak (pw_or ha hb) fun σ H Q ⟨ρ, h, l, p, rl, o⟩ => ⟨ρ, h, l, p, rl, Out.mono (Out.bind o) fun v H1 ⟨x, h1, ρ1, e1, p1, r1, o1⟩ => by
    cases r1
    cases v with
    | true => exact o1.ok p1 rfl
    | false => exact ⟨ρ1, h1, l, p1, rl.ext e1, o1⟩⟩
theorem xt_not (ha : XT X W a ta) : XT X W (.UnaryOp .Not a pos) (mNotT ta) :=
  pt_weak (pt_not ha) fun σ H Q ⟨ρ, h, l, p, rl, o⟩ => ⟨ρ, h, l, p, rl, Out.mono (Out.bind o) fun v H1 ⟨x, h1, ρ1, e1, p1, r1, o1⟩ => by
    cases r1
    exact o1.ok p1 rfl⟩
/-! .. as values -/
def mAnd (a b : M PV) : M PV := fun l h => (a l h).bind fun x h1 => match x with
  | .bl c => if c = true then b l h1 else .ok (.bl false) h1
  | _ => .no
def mOr (a b : M PV) : M PV := fun l h => (a l h).bind fun x h1 => match x with
  | .bl c => if c = true then .ok (.bl true) h1 else b l h1
  | _ => .no
def mNot (a : M PV) : M PV := fun l h => (a l h).bind fun x h1 => match x with
  | .bl c => .ok (.bl (!c)) h1
  | _ => .no
theorem xe_one {op} (h : XE X W a ma) : XE X W (.BoolOp op [a] pos) ma := pe_one h
theorem xe_and (ha : XE X W a ma) (hb : XE X W (.BoolOp .And (b :: rest) pos) mb) : XE X W (.BoolOp .And (a :: b :: rest) pos) (mAnd ma mb) :=
  pe_weak (pe_and ha hb) fun σ H Q ⟨ρ, h, l, p, rl, o⟩ => ⟨ρ, h, l, p, rl, Out.mono (Out.bind o) fun v H1 ⟨x, h1, ρ1, e1, p1, r1, o1⟩ => by
    cases x with
    | bl k =>
      refine ⟨k, r1, ?_⟩
      cases k with
      | true => exact ⟨ρ1, h1, l, p1, rl.ext e1, o1⟩
      | false => exact o1.ok p1 rfl
    | _ => exact o1.elim⟩
theorem xe_or (ha : XE X W a ma) (hb : XE X W (.BoolOp .Or (b :: rest) pos) mb) : XE X W (.BoolOp .Or (a :: b :: rest) pos) (mOr ma mb) :=
  pe_weak (pe_or ha hb) fun σ H Q ⟨ρ, h, l, p, rl, o⟩ => ⟨ρ, h, l, p, rl, Out.mono (Out.bind o) fun v H1 ⟨x, h1, ρ1, e1, p1, r1, o1⟩ => by
    cases x with
    | bl k =>
      refine ⟨k, r1, ?_⟩
      cases k with
      | true => exact o1.ok p1 rfl
      | false => exact ⟨ρ1, h1, l, p1, rl.ext e1, o1⟩
    | _ => exact o1.elim⟩
theorem xe_not (ha : XE X W a ma) : XE X W (.UnaryOp .Not a pos) (mNot ma) :=
  pe_weak (pe_not ha) fun σ H Q ⟨ρ, h, l, p, rl, o⟩ => ⟨ρ, h, l, p, rl, Out.mono (Out.bind o) fun v H1 ⟨x, h1, ρ1, e1, p1, r1, o1⟩ => by
    cases x with
    | bl k => exact ⟨k, r1, o1.ok p1 rfl⟩
    | _ => exact o1.elim⟩
def mIfE (c : M Bool) (a b : M PV) : M PV := fun l h => (c l h).bind fun k h1 => if k = true then a l h1 else b l h1
theorem xe_ifE (hc : XT X W c ta) (ha : XE X W a ma) (hb : XE X W b mb) : XE X W (.IfExp c a b pos) (mIfE ta ma mb) :=
  pe_weak (pe_ifExp hc ha hb) fun σ H Q ⟨ρ, h, l, p, rl, o⟩ => ⟨ρ, h, l, p, rl, Out.mono (Out.bind o) fun v H1 ⟨x, h1, ρ1, e1, p1, r1, o1⟩ => by
    cases r1
    cases v with
    | true => exact ⟨ρ1, h1, l, p1, rl.ext e1, o1⟩
    | false => exact ⟨ρ1, h1, l, p1, rl.ext e1, o1⟩⟩
/-! chains -/
def mChain (f g : PV → PV → Store → R PV) (a b c : M PV) : M PV := fun l h => (a l h).bind fun x h1 => (b l h1).bind fun y h2 => (f x y h2).bind fun k h3 => match k with
  | .bl k => if k = true then (c l h3).bind fun z h4 => g y z h4 else .ok (.bl false) h3
  | _ => .no
theorem tM_chain {f g : PV → PV → Store → R PV} {r r' : R2} (hf : OpX X W f r) (hg : OpX X W g r') : ∀ σ H Q, tM (kc X W) W (mChain f g ma mb mc) σ H Q → tChain r r' (tM (kc X W) W ma) (tM (kc X W) W mb) (tM (kc X W) W mc) σ H Q := by
  intro σ H Q ⟨ρ, h, l, p, rl, o⟩
  refine ⟨ρ, h, l, p, rl, Out.mono (Out.bind o) ?_⟩
  intro v H1 ⟨x, h1, ρ1, e1, p1, r1, o1⟩
  refine ⟨ρ1, h1, l, p1, rl.ext e1, Out.mono (Out.bind o1) ?_⟩
  intro w H2 ⟨y, h2, ρ2, e2, p2, r2, o2⟩
  refine hf ρ2 h2 σ H2 x y v w _ p2 (r1.ext e2) r2 (Out.mono (Out.bind o2) ?_)
  intro u H3 ⟨k, h3, ρ3, e3, p3, r3, o3⟩
  cases k with
  | bl k =>
    refine ⟨k, r3, ?_⟩
    cases k with
    | false => exact o3.ok p3 rfl
    | true =>
      refine ⟨ρ3, h3, l, p3, ((rl.ext e1).ext e2).ext e3, Out.mono (Out.bind o3) ?_⟩
      intro t H4 ⟨z, h4, ρ4, e4, p4, r4, o4⟩
      exact hg ρ4 h4 σ H4 y z w t Q p4 ((r2.ext e3).ext e4) r4 o4
  | _ => exact o3.elim
theorem xe_chain {op op' : CmpOp} {f g : PV → PV → Store → R PV} {r r' : R2} (hr : OpR X (compareOp op) r) (hf : OpX X W f r) (hr' : OpR X (compareOp op') r') (hg : OpX X W g r') (ha : XE X W a ma) (hb : XE X W b mb) (hc : XE X W c mc)
    (hm : lastMarks [op, op'] [b, c] = false := by with_unfolding_all rfl) : XE X W (.Compare a [op, op'] [b, c] pos) (mChain f g ma mb mc) := pe_weak (pe_chain hr hr' ha hb hc hm) (tM_chain hf hg)
theorem xt_chain {op op' : CmpOp} {f g : PV → PV → Store → R PV} {r r' : R2} (hr : OpR X (compareOp op) r) (hf : OpX X W f r) (hr' : OpR X (compareOp op') r') (hg : OpX X W g r') (ha : XE X W a ma) (hb : XE X W b mb) (hc : XE X W c mc)
    (hm : lastMarks [op, op'] [b, c] = false := by with_unfolding_all rfl) : XT X W (.Compare a [op, op'] [b, c] pos) (mB (mChain f g ma mb mc)) := pt_weak (pt_chain hr hr' ha hb hc hm) fun σ H Q t => tM_chain hf hg _ _ _ (tB_of _ _ _ t)

/-! ### argument lists, displays -/
def mNil : M (List PV) := fun _ h => .ok [] h
def mCons (a : M PV) (r : M (List PV)) : M (List PV) := fun l h => (a l h).bind fun x h1 => (r l h1).bind fun xs h2 => .ok (x :: xs) h2
variable {es : List Expr} {ms : M (List PV)}
theorem xa_nil : XA X W [] mNil := pa_weak pa_nil fun σ H Q ⟨ρ, h, l, p, rl, o⟩ => o.ok p rfl
theorem xa_cons (ha : XE X W a ma) (hr : XA X W es ms) (hs : starEach (a :: es) X.env = (false, eval a X.env) :: starEach es X.env := by rfl) : XA X W (a :: es) (mCons ma ms) :=
  pa_weak (pa_cons ha hr hs) fun σ H Q ⟨ρ, h, l, p, rl, o⟩ => ⟨ρ, h, l, p, rl, Out.mono (Out.bind o) fun v H1 ⟨x, h1, ρ1, e1, p1, r1, o1⟩ =>
    ⟨ρ1, h1, l, p1, rl.ext e1, Out.mono (Out.bind o1) fun vs H2 ⟨xs, h2, ρ2, e2, p2, r2, o2⟩ => o2.ok p2 ⟨v, vs, rfl, r1.ext e2, r2⟩⟩⟩
def mTup (m : M (List PV)) : M PV := fun l h => (m l h).bind fun xs h1 => if xs.length ≤ sizeLine then .ok (.tup xs) h1 else .no
/-- a list that stays as it is made; one that may be changed -/
def mLst (m : M (List PV)) : M PV := fun l h => (m l h).bind fun xs h1 => if xs.length ≤ sizeLine then .ok (.lst xs) h1 else .no
def mLstN (m : M (List PV)) : M PV := fun l h => (m l h).bind fun xs h1 => if xs.length ≤ sizeLine then .ok (.ref h1.length) (h1 ++ [.lst xs]) else .no
theorem xe_tup {k} (h : XA X W es ms) : XE X W (.Tuple es k pos) (mTup ms) :=
  pe_weak (pe_tup h) fun σ H Q ⟨ρ, h, l, p, rl, o⟩ => ⟨ρ, h, l, p, rl, Out.mono (Out.bind o) fun vs H1 ⟨xs, h1, ρ1, e1, p1, r1, o1⟩ => by
    obtain ⟨c, o1⟩ := out_if o1
    refine ⟨by rw [← r1.len]; exact c, fun q hq => ?_⟩
    obtain ⟨x, p', r'⟩ := new_tup p1 hq r1
    exact o1 ρ1 _ _ x p' r'⟩
theorem xe_lst (h : XA X W es ms) : XE X W (.List es pos) (mLst ms) :=
  pe_weak (pe_lst h) fun σ H Q ⟨ρ, h, l, p, rl, o⟩ => ⟨ρ, h, l, p, rl, Out.mono (Out.bind o) fun vs H1 ⟨xs, h1, ρ1, e1, p1, r1, o1⟩ => by
    obtain ⟨c, o1⟩ := out_if o1
    refine ⟨by rw [← r1.len]; exact c, fun q hq => ?_⟩
    obtain ⟨x, p', r'⟩ := new_lst p1 hq r1
    exact o1 ρ1 _ _ x p' r'⟩
theorem new_cell {K : KC} {ρ : Pl} {H : Hp} {h : Store} (p : Rep K ρ h H) {q : Addr} (hq : H q = none) {xs : List PV} {vs : List V} (r : RVs K ρ H xs vs) :
    Ext ρ H (ρ.add q) (upd H q (.lst vs)) ∧ Rep K (ρ.add q) (h ++ [.lst xs]) (upd H q (.lst vs)) ∧ RV K (ρ.add q) (upd H q (.lst vs)) (.ref h.length) (.ref q) := by
  have x := Ext.upd_add p hq (.lst vs)
  refine ⟨x, p.grow (c := .lst xs) hq ⟨vs, upd_same, RVs.ext x _ _ r⟩, q, ?_, rfl⟩
  rw [p.len]
  show (ρ.c ++ [q])[ρ.c.length]? = some q
  rw [List.getElem?_append_right (Nat.le_refl _)]
  simp
theorem xe_lstN (h : XA X W es ms) : XE X W (.List es pos) (mLstN ms) :=
  pe_weak (pe_lst h) fun σ H Q ⟨ρ, h, l, p, rl, o⟩ => ⟨ρ, h, l, p, rl, Out.mono (Out.bind o) fun vs H1 ⟨xs, h1, ρ1, e1, p1, r1, o1⟩ => by
    obtain ⟨c, o1⟩ := out_if o1
    refine ⟨by rw [← r1.len]; exact c, fun q hq => ?_⟩
    obtain ⟨x, p', r'⟩ := new_cell p1 hq r1
    exact o1 _ _ _ x p' r'⟩

/-! ### built-in functions by values -/
/-- r reads what f tells -/
def CallX (X : Cx) (W : WQ) (f : List PV → Store → R PV) (r : List V → Hp → VK → Prop) : Prop :=
  ∀ (ρ : Pl) (h : Store) (σ : L2.St) (H : Hp) (xs : List PV) (vs : List V) (Q : VK), Rep (kc X W) ρ h H → RVs (kc X W) ρ H xs vs →
    Out (kc X W) ρ H (RV (kc X W)) (fun c d H' => W c d σ H') (f xs h) Q → r vs H Q
def mCall (f : List PV → Store → R PV) (m : M (List PV)) : M PV := fun l h => (m l h).bind f
theorem tM_call {f r} (ho : CallX X W f r) : ∀ σ H Q, tM (kc X W) W (mCall f ms) σ H Q → tCB r (tA (kc X W) W ms) σ H Q := fun σ H Q ⟨ρ, h, l, p, rl, o⟩ =>
  ⟨ρ, h, l, p, rl, Out.mono (Out.bind o) fun vs H1 ⟨xs, h1, ρ1, e1, p1, r1, o1⟩ => ho ρ1 h1 σ H1 xs vs Q p1 r1 o1⟩
theorem xe_callB {x : Str} {p0 : Pos} {id : String} {f r} (hr : CallR X (.builtin id) r) (ho : CallX X W f r) (hm : X.mg x = none) (hv : bootBuiltins x = some (.builtin id)) (ha : XA X W (e :: es) ms) (hg : Gl X x := by rfl) (hn : x ≠ "__name__" := by decide) (hdb : (x == ("__debug__" : Str)) = false := by decide)
    (he : starEach (e :: es) X.env = (false, eval e X.env) :: starEach es X.env := by rfl) (hpl : (backTo pos (starEach es X.env)).any (·.1) = false := by rfl) : XE X W (.Call (.Name x p0) (e :: es) [] pos) (mCall f ms) :=
  pe_weak (pe_callB hr hg hm hv ha hn hdb he hpl) (tM_call ho)
theorem xe_callTy {x : Str} {p0 : Pos} {T : String} {f r} (hr : CallR X (.type T) r) (ho : CallX X W f r) (hm : X.mg x = none) (hv : bootBuiltins x = some (.type T)) (ha : XA X W (e :: es) ms) (hg : Gl X x := by rfl) (hn : x ≠ "__name__" := by decide) (hdb : (x == ("__debug__" : Str)) = false := by decide)
    (he : starEach (e :: es) X.env = (false, eval e X.env) :: starEach es X.env := by rfl) (hpl : (backTo pos (starEach es X.env)).any (·.1) = false := by rfl) : XE X W (.Call (.Name x p0) (e :: es) [] pos) (mCall f ms) :=
  pe_weak (pe_callTy hr hg hm hv ha hn hdb he hpl) (tM_call ho)
end
end Wg

namespace Wg
open PySem PySem.Spec PyProof.Rows L2 SlX
section
variable {K : KC} {ρ ρ' ρ1 : Pl} {H H' H1 : Hp} {h : Store} {X : Cx} {W : WQ}

theorem rvs1 {x : PV} {vs : List V} (r : RVs K ρ H [x] vs) : ∃ v, vs = [v] ∧ RV K ρ H x v := by
  obtain ⟨v, r, e, h1, h2⟩ := r
  rw [show r = [] from h2] at e
  exact ⟨v, e, h1⟩
theorem rvs2 {x y : PV} {vs : List V} (r : RVs K ρ H [x, y] vs) : ∃ v w, vs = [v, w] ∧ RV K ρ H x v ∧ RV K ρ H y w := by
  obtain ⟨v, r, e, h1, h2⟩ := r
  obtain ⟨w, e2, h3⟩ := rvs1 h2
  exact ⟨v, w, by rw [e, e2], h1, h3⟩

/-! ### isinstance with a built-in class -/
def tyN (h : Store) : PV → Option String
  | .non => some "NoneType" | .bl _ => some "bool" | .int _ => some "int" | .str _ => some "str"
  | .tup _ => some "tuple" | .lst _ => some "list" | .scr _ => some "list" | .dct _ => some "dict"
  | .ref a => match h[a]? with
    | some (.lst _) => some "list"
    | some (.dct _) => some "dict"
    | some (.dcT _) => some "dict"
    | _ => none
  | _ => none
def tysA : List String := ["NoneType", "bool", "int", "str", "tuple", "list", "dict"]
def tysB : List String := ["bool", "int", "str", "tuple", "list", "dict"]
def isTy (t n : String) : Bool := t == n || (t == "bool" && n == "int")
theorem kitAll : (tysA.all fun t => tysB.all fun n => kitB t n == some (isTy t n)) = true := by decide +kernel
theorem kit_at {t n : String} (ht : t ∈ tysA) (hn : n ∈ tysB) : kitB t n = some (isTy t n) := by
  have z := List.all_eq_true.mp (List.all_eq_true.mp kitAll t ht) n hn
  exact beq_iff_eq.mp z
def fIsi (xs : List PV) (h : Store) : R PV := match xs with
  | [x, .ty n] => match tyN h x with
    | some t => if (tysB.contains n) = true then .ok (.bl (isTy t n)) h else .no
    | none => .no
  | _ => .no
theorem tyN_at (p : Rep K ρ h H) {x : PV} {v : V} {t : String} (r : RV K ρ H x v) (e : tyN h x = some t) : TyX K H v (.type t) ∧ t ∈ tysA := by
  cases x with
  | non => cases e; rw [show v = _ from r]; exact ⟨.base .non, by decide⟩
  | bl b => cases e; rw [show v = _ from r]; exact ⟨.base (.bl b), by decide⟩
  | int i => cases e; rw [show v = _ from r]; exact ⟨.base (.int i), by decide⟩
  | str i => cases e; rw [show v = _ from r]; exact ⟨.base (.str _), by decide⟩
  | tup xs =>
    cases e
    obtain ⟨a, vs, e1, t, _⟩ := r
    rw [e1]
    exact ⟨.base (.tup t.2), by decide⟩
  | lst xs =>
    cases e
    obtain ⟨a, vs, e1, t, _⟩ := r
    rw [e1]
    exact ⟨.base (.lst t.2), by decide⟩
  | scr xs =>
    cases e
    obtain ⟨a, vs, e1, t, _⟩ := r
    rw [e1]
    refine ⟨?_, by decide⟩
    rcases t with ⟨_, t | ⟨o, t⟩⟩ | ⟨o, its, n, t, c, _⟩
    · exact .base (.lst t)
    · exact .base (.frz t)
    · exact .kList t c
  | dct xs =>
    cases e
    obtain ⟨a, vs, e1, t, _⟩ := r
    rw [e1]
    exact ⟨t.2.elim (fun q => .base (.dK q)) fun ⟨_, q⟩ => .fDict q, by decide⟩
  | ref i =>
    obtain ⟨a, e1, e2⟩ := r
    rw [e2]
    unfold tyN at e
    cases q : h[i]? with
    | none => simp [q] at e
    | some c =>
      cases c with
      | lst ys =>
        simp only [q] at e
        cases e
        obtain ⟨vs, q1, _⟩ := p.at_ i _ a q e1
        exact ⟨.base (.lst q1), by decide⟩
      | dct ys =>
        simp only [q] at e
        cases e
        obtain ⟨_, q1, _⟩ := p.at_ i _ a q e1
        exact ⟨.base (.dK q1), by decide⟩
      | dcT ys =>
        simp only [q] at e
        cases e
        obtain ⟨_, q1, _⟩ := p.at_ i _ a q e1
        exact ⟨.base (.dT q1), by decide⟩
      | _ => simp [q] at e
  | _ => cases e
theorem cx_isi : CallX X W fIsi (rIsi X.K) := by
  intro ρ h σ H xs vs Q p r o
  unfold fIsi at o
  split at o
  next x n =>
    obtain ⟨v, w, e, r1, r2⟩ := rvs2 r
    split at o
    next t q =>
      obtain ⟨c, o⟩ := out_if o
      obtain ⟨t1, t2⟩ := tyN_at p r1 q
      refine ⟨v, w, _, _, _, e, ?_, t1, kit_ty (kit_at t2 (List.contains_iff_mem.mp c)), o.ok p rfl⟩
      rw [show w = _ from r2]; exact .ty n
    next => exact o.elim
  next => exact o.elim

/-! ### len -/
def fLen (xs : List PV) (h : Store) : R PV := match xs with
  | [.str x] => if x.length ≤ sizeLine then .ok (.int x.length) h else .no
  | [.tup ys] => .ok (.int ys.length) h
  | [x] => match lstRd h x with
    | some ys => .ok (.int ys.length) h
    | none => .no
  | _ => .no
theorem cx_len : CallX X W fLen (fun xs H Q => ∃ x n, xs = [x] ∧ LenV X.K x H n ∧ Q (.int n) H) := by
  intro ρ h σ H xs vs Q p r o
  unfold fLen at o
  split at o
  next x =>
    obtain ⟨v, e, r1⟩ := rvs1 r
    obtain ⟨c, o⟩ := out_if o
    refine ⟨v, x.length, e, ?_, o.ok p rfl⟩
    rw [show v = _ from r1]
    exact ⟨by simpa [Str.length] using c, by simp [Str.length]⟩
  next ys =>
    obtain ⟨v, e, r1⟩ := rvs1 r
    obtain ⟨a, ws, e2, t, rs⟩ := tup_at r1
    refine ⟨v, ys.length, e, ?_, o.ok p rfl⟩
    rw [e2]
    exact .inr ⟨ws, t, rs.len⟩
  next x _ _ =>
    obtain ⟨v, e, r1⟩ := rvs1 r
    split at o
    next ys q =>
      obtain ⟨a, ws, e2, t, rs⟩ := lstRd_at p r1 q
      refine ⟨v, ys.length, e, ?_, o.ok p rfl⟩
      rw [e2]
      exact .inl ⟨ws, t, rs.len⟩
    next => exact o.elim
  next => exact o.elim

/-! ### int(x), str(x), abs, max, min -/
def fIntOf (xs : List PV) (h : Store) : R PV := match xs with
  | [.int i] => .ok (.int i) h
  | [.bl b] => .ok (.int (if b = true then 1 else 0)) h
  | [.str x] => match intText? ⟨x.toArray⟩ with
    | some n => if x.length ≤ 640 then .ok (.int n) h else .no
    | none => .no
  | _ => .no
def rIntA : List V → Hp → VK → Prop := fun xs H Q => ((∃ i, xs = [.int i] ∧ Q (.int i) H) ∨ ∃ k, xs = [.bl k] ∧ Q (.int (if k then 1 else 0)) H) ∨ ∃ a n, xs = [.str a] ∧ PySem.intText? a = some n ∧ a.length ≤ 640 ∧ Q (.int n) H
theorem cr_intA : CallR X (.type "int") rIntA := call_int1.or call_int_str
theorem cx_int : CallX X W fIntOf rIntA := by
  intro ρ h σ H xs vs Q p r o
  unfold fIntOf at o
  split at o
  next i =>
    obtain ⟨v, e, r1⟩ := rvs1 r
    rw [show v = _ from r1] at e
    exact .inl (.inl ⟨i, e, o.ok p rfl⟩)
  next i =>
    obtain ⟨v, e, r1⟩ := rvs1 r
    rw [show v = _ from r1] at e
    exact .inl (.inr ⟨i, e, o.ok p rfl⟩)
  next x =>
    obtain ⟨v, e, r1⟩ := rvs1 r
    rw [show v = _ from r1] at e
    split at o
    next n q =>
      obtain ⟨c, o⟩ := out_if o
      exact .inr ⟨_, n, e, q, by simpa [Str.length] using c, o.ok p rfl⟩
    next => exact o.elim
  next => exact o.elim
/-- the figures of a number -/
def digs (i : Int) : List Nat := (toString i).toList.map Char.toNat
theorem digs_str (i : Int) : strV (digs i) = V.str (toString i : String) := by
  rw [Str.ofString_eq_toList]; rfl
def fStrOf (xs : List PV) (h : Store) : R PV := match xs with
  | [.int i] => if i.natAbs.log2 < 1920 then .ok (.str (digs i)) h else .no
  | [.str x] => .ok (.str x) h
  | _ => .no
def rStrA : List V → Hp → VK → Prop := fun xs H Q => (∃ i, xs = [.int i] ∧ i.natAbs.log2 < 1920 ∧ Q (.str (toString i : String)) H) ∨ ∃ a, xs = [.str a] ∧ Q (.str a) H
theorem cr_strA : CallR X (.type "str") rStrA := call_str_int.or SkE.call_str_str
theorem cx_str : CallX X W fStrOf rStrA := by
  intro ρ h σ H xs vs Q p r o
  unfold fStrOf at o
  split at o
  next i =>
    obtain ⟨v, e, r1⟩ := rvs1 r
    rw [show v = _ from r1] at e
    obtain ⟨c, o⟩ := out_if o
    exact .inl ⟨i, e, c, o.ok p (digs_str i).symm⟩
  next x =>
    obtain ⟨v, e, r1⟩ := rvs1 r
    rw [show v = _ from r1] at e
    exact .inr ⟨_, e, o.ok p rfl⟩
  next => exact o.elim
def fAbs (xs : List PV) (h : Store) : R PV := match xs with
  | [.int i] => .ok (.int (if i < 0 then -i else i)) h
  | _ => .no
theorem cx_abs : CallX X W fAbs (fun xs H Q => ∃ i, xs = [.int i] ∧ Q (.int (if i < 0 then -i else i)) H) := by
  intro ρ h σ H xs vs Q p r o
  unfold fAbs at o
  split at o
  next i =>
    obtain ⟨v, e, r1⟩ := rvs1 r
    rw [show v = _ from r1] at e
    exact ⟨i, e, o.ok p rfl⟩
  next => exact o.elim
def fMax2 (xs : List PV) (h : Store) : R PV := match xs with
  | [.int i, .int j] => .ok (.int (if j > i then j else i)) h
  | _ => .no
def fMin2 (xs : List PV) (h : Store) : R PV := match xs with
  | [.int i, .int j] => .ok (.int (if j < i then j else i)) h
  | _ => .no
theorem cx_max2 : CallX X W fMax2 (fun xs H Q => ∃ i j, xs = [.int i, .int j] ∧ Q (.int (if j > i then j else i)) H) := by
  intro ρ h σ H xs vs Q p r o
  unfold fMax2 at o
  split at o
  next i j =>
    obtain ⟨v, w, e, r1, r2⟩ := rvs2 r
    rw [show v = _ from r1, show w = _ from r2] at e
    exact ⟨i, j, e, o.ok p rfl⟩
  next => exact o.elim
theorem cx_min2 : CallX X W fMin2 (fun xs H Q => ∃ i j, xs = [.int i, .int j] ∧ Q (.int (if j < i then j else i)) H) := by
  intro ρ h σ H xs vs Q p r o
  unfold fMin2 at o
  split at o
  next i j =>
    obtain ⟨v, w, e, r1, r2⟩ := rvs2 r
    rw [show v = _ from r1, show w = _ from r2] at e
    exact ⟨i, j, e, o.ok p rfl⟩
  next => exact o.elim

/-! ### all, any, tuple, list -/
def bools : List PV → Option (List Bool)
  | [] => some []
  | .bl b :: r => (bools r).map (b :: ·)
  | _ :: _ => none
theorem bools_at : ∀ {xs : List PV} {vs : List V} {bs : List Bool}, RVs K ρ H xs vs → bools xs = some bs → vs = bs.map V.bl
  | [], _, _, r, e => by cases e; exact r
  | x :: xs, _, bs, ⟨v, r, e, h1, h2⟩, q => by
    cases x with
    | bl b =>
      simp only [bools] at q
      cases q2 : bools xs with
      | none => rw [q2] at q; cases q
      | some cs =>
        rw [q2] at q
        cases q
        rw [e, show v = _ from h1, bools_at h2 q2]
        rfl
    | _ => cases q
def fAll (xs : List PV) (h : Store) : R PV := match xs with
  | [x] => match lstRd h x with
    | some ys => match bools ys with
      | some bs => .ok (.bl (bs.all id)) h
      | none => .no
    | none => .no
  | _ => .no
def fAny (xs : List PV) (h : Store) : R PV := match xs with
  | [x] => match lstRd h x with
    | some ys => match bools ys with
      | some bs => .ok (.bl (bs.any id)) h
      | none => .no
    | none => .no
  | _ => .no
theorem cx_all : CallX X W fAll (rAll X.K) := by
  intro ρ h σ H xs vs Q p r o
  unfold fAll at o
  split at o
  next x =>
    obtain ⟨v, e, r1⟩ := rvs1 r
    split at o
    next ys q =>
      obtain ⟨a, ws, e2, t, rs⟩ := lstRd_at p r1 q
      split at o
      next bs q2 =>
        refine ⟨a, bs, by rw [e, e2], ?_, o.ok p rfl⟩
        rw [← bools_at rs q2]; exact t
      next => exact o.elim
    next => exact o.elim
  next => exact o.elim
theorem cx_any : CallX X W fAny (rAny X.K) := by
  intro ρ h σ H xs vs Q p r o
  unfold fAny at o
  split at o
  next x =>
    obtain ⟨v, e, r1⟩ := rvs1 r
    split at o
    next ys q =>
      obtain ⟨a, ws, e2, t, rs⟩ := lstRd_at p r1 q
      split at o
      next bs q2 =>
        refine ⟨a, bs, by rw [e, e2], ?_, o.ok p rfl⟩
        rw [← bools_at rs q2]; exact t
      next => exact o.elim
    next => exact o.elim
  next => exact o.elim
def fTuple (xs : List PV) (h : Store) : R PV := match xs with
  | [.tup ys] => .ok (.tup ys) h
  | [x] => match lstRd h x with
    | some ys => .ok (.tup ys) h
    | none => .no
  | _ => .no
def rTupleA (K : PySem.W.Frag) : List V → Hp → VK → Prop := fun xs H Q => ∃ p ys, xs = [.ref p] ∧ ((SqL K H p ys ∧ ∀ l, H l = none → Q (.ref l) (upd H l (.tup ys))) ∨ (SqT K H p ys ∧ Q (.ref p) H))
theorem cx_tuple : CallX X W fTuple (rTupleA X.K) := by
  intro ρ h σ H xs vs Q p r o
  unfold fTuple at o
  split at o
  next ys =>
    obtain ⟨v, e, r1⟩ := rvs1 r
    obtain ⟨a, ws, e2, t, rs⟩ := tup_at r1
    rw [e2] at e r1
    exact ⟨a, ws, e, .inr ⟨t, o.ok p r1⟩⟩
  next x _ =>
    obtain ⟨v, e, r1⟩ := rvs1 r
    split at o
    next ys q =>
      obtain ⟨a, ws, e2, t, rs⟩ := lstRd_at p r1 q
      refine ⟨a, ws, by rw [e, e2], .inl ⟨t, fun l hl => ?_⟩⟩
      obtain ⟨x', p', r'⟩ := new_tup p hl rs
      exact o ρ _ _ x' p' r'
    next => exact o.elim
  next => exact o.elim
/-- the items of a list or a tuple -/
def seqRd (h : Store) : PV → Option (List PV)
  | .tup xs => some xs
  | x => lstRd h x
theorem seqRd_at (p : Rep K ρ h H) {x : PV} {v : V} {xs : List PV} (r : RV K ρ H x v) (e : seqRd h x = some xs) : ∃ a vs, v = .ref a ∧ (SqL K H a vs ∨ SqT K H a vs) ∧ RVs K ρ H xs vs := by
  cases x with
  | tup ys =>
    cases e
    obtain ⟨a, ws, e2, t, rs⟩ := tup_at r
    exact ⟨a, ws, e2, .inr t, rs⟩
  | _ =>
    obtain ⟨a, ws, e2, t, rs⟩ := lstRd_at p r e
    exact ⟨a, ws, e2, .inl t, rs⟩
def fList (xs : List PV) (h : Store) : R PV := match xs with
  | [x] => match seqRd h x with
    | some ys => .ok (.lst ys) h
    | none => .no
  | _ => .no
def fListN (xs : List PV) (h : Store) : R PV := match xs with
  | [x] => match seqRd h x with
    | some ys => .ok (.ref h.length) (h ++ [.lst ys])
    | none => .no
  | _ => .no
def rListA (K : PySem.W.Frag) : List V → Hp → VK → Prop := fun xs H Q => ∃ p ys, xs = [.ref p] ∧ (SqL K H p ys ∨ SqT K H p ys) ∧ ∀ l, H l = none → Q (.ref l) (upd H l (.lst ys))
theorem cx_list : CallX X W fList (rListA X.K) := by
  intro ρ h σ H xs vs Q p r o
  unfold fList at o
  split at o
  next x =>
    obtain ⟨v, e, r1⟩ := rvs1 r
    split at o
    next ys q =>
      obtain ⟨a, ws, e2, t, rs⟩ := seqRd_at p r1 q
      refine ⟨a, ws, by rw [e, e2], t, fun l hl => ?_⟩
      obtain ⟨x', p', r'⟩ := new_lst p hl rs
      exact o ρ _ _ x' p' r'
    next => exact o.elim
  next => exact o.elim
theorem cx_listN : CallX X W fListN (rListA X.K) := by
  intro ρ h σ H xs vs Q p r o
  unfold fListN at o
  split at o
  next x =>
    obtain ⟨v, e, r1⟩ := rvs1 r
    split at o
    next ys q =>
      obtain ⟨a, ws, e2, t, rs⟩ := seqRd_at p r1 q
      refine ⟨a, ws, by rw [e, e2], t, fun l hl => ?_⟩
      obtain ⟨x', p', r'⟩ := new_cell p hl rs
      exact o _ _ _ x' p' r'
    next => exact o.elim
  next => exact o.elim

/-! ### items by place -/
theorem atI_rvs {xs : List PV} {vs : List V} {i : Int} {x : PV} (r : RVs K ρ H xs vs) (e : atI xs i = some x) : ∃ v, atI vs i = some v ∧ RV K ρ H x v := by
  unfold atI at e ⊢
  rw [← r.len]
  cases q : ixN xs.length i with
  | none => rw [q] at e; cases e
  | some j =>
    rw [q] at e
    exact r.get e
def fIx (x y : PV) (h : Store) : R PV := match x, y with
  | .str z, .int i => match atI z i with
    | some c => if z.length ≤ sizeLine then .ok (.str [c]) h else .no
    | none => .no
  | x, .int i => match seqRd h x with
    | some ys => match atI ys i with
      | some z => .ok z h
      | none => .no
    | none => .no
  | _, _ => .no
theorem ox_ix : OpX X W fIx (rIx X.K) := by
  intro ρ h σ H x y v w Q p rx ry o
  unfold fIx at o
  split at o
  next z i =>
    cases rx; cases ry
    split at o
    next c q =>
      obtain ⟨k, o⟩ := out_if o
      exact .inr (.inr ⟨_, i, c, rfl, rfl, by simpa [Str.length] using k, q, o.ok p rfl⟩)
    next => exact o.elim
  next i _ =>
    cases ry
    split at o
    next ys q =>
      split at o
      next z q2 =>
        obtain ⟨a, ws, e2, t, rs⟩ := seqRd_at p rx q
        obtain ⟨u, q3, ru⟩ := atI_rvs rs q2
        rcases t with t | t
        · exact .inl ⟨a, ws, i, u, e2, rfl, t, q3, o.ok p ru⟩
        · exact .inr (.inl ⟨a, ws, i, u, e2, rfl, t, q3, o.ok p ru⟩)
      next => exact o.elim
    next => exact o.elim
  next => exact o.elim
theorem xe_ix {a b : Expr} {ma mb : M PV} {pos : Pos} (ha : XE X W a ma) (hb : XE X W b mb) (hs : PlainIx b := by exact fun _ _ => rfl) : XE X W (.Subscript a b pos) (mBin fIx ma mb) := pe_weak (pe_ix ix_seq ha hb hs) (tM_bin ox_ix)
end
end Wg

namespace Wg
open PySem PySem.Spec PyProof.Rows L2 SlX
section
variable {K : KC} {ρ ρ' ρ1 : Pl} {H H' H1 : Hp} {h : Store} {X : Cx} {W : WQ}

/-! ### methods of built-in classes, by values -/
/-- the receiver is of that class -/
def tyM (h : Store) (T : String) (x : PV) : Bool := match x with
  | .str _ => T == "str"
  | .lst _ => T == "list"
  | .ref a => match h[a]? with
    | some (.lst _) => T == "list"
    | some (.dct _) => T == "dict"
    | some (.dcT _) => T == "dict"
    | _ => false
  | _ => false
theorem tyM_at (p : Rep K ρ h H) {x : PV} {v : V} {T : String} (r : RV K ρ H x v) (e : tyM h T x = true) : tyV K T v H := by
  cases x with
  | str z =>
    rw [show v = _ from r]
    exact beq_iff_eq.mp e
  | lst xs =>
    obtain ⟨a, vs, e1, t, _⟩ := r
    rw [e1]
    exact .inl ⟨beq_iff_eq.mp e, vs, SqL.of t.2⟩
  | ref i =>
    obtain ⟨a, e1, e2⟩ := r
    rw [e2]
    unfold tyM at e
    cases q : h[i]? with
    | none => simp [q] at e
    | some c =>
      cases c with
      | lst ys =>
        obtain ⟨vs, q1, _⟩ := p.at_ i _ a q e1
        exact .inl ⟨by simpa [q] using e, vs, SqL.of q1⟩
      | dct ys =>
        obtain ⟨vs, q1, _⟩ := p.at_ i _ a q e1
        exact .inr (.inr (.inl ⟨by simpa [q] using e, .inl ⟨vs, q1⟩⟩))
      | dcT ys =>
        obtain ⟨vs, q1, _⟩ := p.at_ i _ a q e1
        exact .inr (.inr (.inl ⟨by simpa [q] using e, .inr ⟨vs, q1⟩⟩))
      | _ => simp [q] at e
  | _ => cases e
def MtX (X : Cx) (W : WQ) (f : PV → List PV → Store → R PV) (r : V → List V → Hp → VK → Prop) : Prop :=
  ∀ (ρ : Pl) (h : Store) (σ : L2.St) (H : Hp) (x : PV) (xs : List PV) (v : V) (vs : List V) (Q : VK), Rep (kc X W) ρ h H → RV (kc X W) ρ H x v → RVs (kc X W) ρ H xs vs →
    Out (kc X W) ρ H (RV (kc X W)) (fun c d H' => W c d σ H') (f x xs h) Q → r v vs H Q
def mMeth (T : String) (f : PV → List PV → Store → R PV) (o : M PV) (a : M (List PV)) : M PV := fun l h => (o l h).bind fun x h1 => if tyM h1 T x = true then (a l h1).bind fun xs h2 => f x xs h2 else .no
variable {o e : Expr} {es : List Expr} {mo : M PV} {ms : M (List PV)} {name : Str} {apos cpos : Pos} {T id : String} {r : V → List V → Hp → VK → Prop} {f : PV → List PV → Store → R PV}
theorem xe_bm (pa : PlainAttrs T) (slot : Slot T name id) (hty : typeOf (.builtin id) = pure (.type "method_descriptor")) (hm : MtR X id r) (hx : MtX X W f r) (ho : XE X W o mo) (ha : XA X W (e :: es) ms)
    (hbase : attributeBase o name X.env (eval o X.env) = eval o X.env := by rfl)
    (hfew : ((backTo cpos (starEach (e :: es) X.env)).all (fun x => !x.1) && (backToKw cpos (keywordEach [] X.env)).all (fun x => x.1.isSome)
      && decide ((e :: es).length + ([] : List Keyword).length + (if ([] : List Keyword).isEmpty then 0 else 1) < 30)) = true := by rfl)
    (hline : (apos.endLine == cpos.line) = true := by rfl) (hs : starEach (e :: es) X.env = (false, eval e X.env) :: starEach es X.env := by rfl) (hplain : (backTo cpos (starEach es X.env)).any (·.1) = false := by rfl) :
    XE X W (.Call (.Attribute o name apos) (e :: es) [] cpos) (mMeth T f mo ms) :=
  pe_weak (pe_bm pa slot hty hm ho ha hbase hfew hline hs hplain) fun σ H Q ⟨ρ, h, l, p, rl, oo⟩ => ⟨ρ, h, l, p, rl, Out.mono (Out.bind oo) fun v H1 ⟨x, h1, ρ1, e1, p1, r1, o1⟩ => by
    obtain ⟨c, o1⟩ := out_if o1
    exact ⟨tyM_at p1 r1 c, ρ1, h1, l, p1, rl.ext e1, Out.mono (Out.bind o1) fun vs H2 ⟨xs, h2, ρ2, e2, p2, r2, o2⟩ => hx ρ2 h2 σ H2 x xs v vs Q p2 (r1.ext e2) r2 o2⟩⟩
theorem xe_bm0 (pa : PlainAttrs T) (slot : Slot T name id) (hty : typeOf (.builtin id) = pure (.type "method_descriptor")) (hm : MtR X id r) (hx : MtX X W f r) (ho : XE X W o mo)
    (hbase : attributeBase o name X.env (eval o X.env) = eval o X.env := by rfl) (hline : (apos.endLine == cpos.line) = true := by rfl) : XE X W (.Call (.Attribute o name apos) [] [] cpos) (mMeth T f mo mNil) :=
  pe_weak (pe_bm0 pa slot hty hm ho hbase hline) fun σ H Q ⟨ρ, h, l, p, rl, oo⟩ => ⟨ρ, h, l, p, rl, Out.mono (Out.bind oo) fun v H1 ⟨x, h1, ρ1, e1, p1, r1, o1⟩ => by
    obtain ⟨c, o1⟩ := out_if o1
    exact ⟨tyM_at p1 r1 c, hx ρ1 h1 σ H1 x [] v [] Q p1 r1 rfl o1⟩⟩

/-- the cell of a list -/
def cellL (h : Store) : PV → Option (Nat × List PV)
  | .ref i => match h[i]? with
    | some (.lst xs) => some (i, xs)
    | _ => none
  | _ => none
theorem cellL_at (p : Rep K ρ h H) {x : PV} {v : V} {i : Nat} {xs : List PV} (r : RV K ρ H x v) (e : cellL h x = some (i, xs)) : ∃ a vs, (ρ.c[i]? = some a ∧ h[i]? ≠ some Cell.own) ∧ v = .ref a ∧ H a = some (.lst vs) ∧ RVs K ρ H xs vs := by
  cases x with
  | ref j =>
    obtain ⟨a, e1, e2⟩ := r
    simp only [cellL] at e
    cases q : h[j]? with
    | none => rw [q] at e; cases e
    | some c =>
      cases c with
      | lst ys =>
        rw [q] at e
        cases e
        obtain ⟨vs, q1, rs⟩ := p.at_ _ _ a q e1
        exact ⟨a, vs, ⟨e1, by rw [q]; intro z; cases z⟩, e2, q1, rs⟩
      | _ => rw [q] at e; cases e
  | _ => cases e
theorem put_lst (p : Rep K ρ h H) {i : Nat} {a : Addr} (e : ρ.c[i]? = some a ∧ h[i]? ≠ some Cell.own) {xs : List PV} {vs : List V} (r : RVs K ρ H xs vs) : Ext ρ H ρ (upd H a (.lst vs)) ∧ Rep K ρ (h.set i (.lst xs)) (upd H a (.lst vs)) := by
  have x : Ext ρ H ρ (upd H a (.lst vs)) := Ext.upd_in (List.mem_of_getElem? e.1) _
  exact ⟨x, p.put e.1 (.inl e.2) ⟨vs, upd_same, RVs.ext x _ _ r⟩⟩
def fAppend (x : PV) (ys : List PV) (h : Store) : R PV := match cellL h x, ys with
  | some (i, xs), [y] => if xs.length < sizeLine then .ok .non (h.set i (.lst (xs ++ [y]))) else .no
  | _, _ => .no
theorem mx_append : MtX X W fAppend rAppend := by
  intro ρ h σ H x xs v vs Q p rx rs o
  unfold fAppend at o
  split at o
  next i zs y q =>
    obtain ⟨c, o⟩ := out_if o
    obtain ⟨a, ws, e1, e2, e3, r1⟩ := cellL_at p rx q
    obtain ⟨u, e4, r2⟩ := rvs1 rs
    refine ⟨a, ws, u, e2, e4, e3, by rw [← r1.len]; exact c, ?_⟩
    obtain ⟨x', p'⟩ := put_lst p e1 (r1.app (RVs.one r2))
    exact o ρ _ _ x' p' rfl
  next => exact o.elim
def fPop (x : PV) (ys : List PV) (h : Store) : R PV := match cellL h x, ys with
  | some (i, xs), [] => match xs[xs.length - 1]? with
    | some y => .ok y (h.set i (.lst xs.dropLast))
    | none => .no
  | _, _ => .no
theorem RVs.dropLast : ∀ {xs : List PV} {vs : List V}, RVs K ρ H xs vs → RVs K ρ H xs.dropLast vs.dropLast
  | [], _, h => by rw [show _ = [] from h]; rfl
  | [x], _, h => by obtain ⟨v, e, _⟩ := rvs1 h; rw [e]; rfl
  | x :: y :: xs, _, ⟨v, r, e, h1, h2⟩ => by
    have ih := RVs.dropLast h2
    obtain ⟨w, r', e', _, _⟩ := h2
    subst e'; subst e
    exact ⟨v, _, rfl, h1, ih⟩
theorem mx_pop : MtX X W fPop rPop := by
  intro ρ h σ H x xs v vs Q p rx rs o
  unfold fPop at o
  split at o
  next i zs q =>
    split at o
    next y q2 =>
      obtain ⟨a, ws, e1, e2, e3, r1⟩ := cellL_at p rx q
      obtain ⟨u, e4, r2⟩ := r1.get q2
      rw [r1.len] at e4
      refine ⟨a, ws, u, e2, rs, e3, e4, ?_⟩
      obtain ⟨x', p'⟩ := put_lst p e1 r1.dropLast
      exact o ρ _ _ x' p' (r2.ext x')
    next => exact o.elim
  next => exact o.elim
theorem RVs.eraseIdx : ∀ {xs : List PV} {vs : List V} {k : Nat}, RVs K ρ H xs vs → RVs K ρ H (xs.eraseIdx k) (vs.eraseIdx k)
  | [], _, _, h => by rw [show _ = [] from h]; rfl
  | x :: xs, _, 0, ⟨v, r, e, h1, h2⟩ => by subst e; exact h2
  | x :: xs, _, k + 1, ⟨v, r, e, h1, h2⟩ => by subst e; exact ⟨v, _, rfl, h1, RVs.eraseIdx h2⟩
def fPopAt (x : PV) (ys : List PV) (h : Store) : R PV := match cellL h x, ys with
  | some (n, xs), [.int i] => match ixN xs.length i with
    | some k => match xs[k]? with
      | some y => if -(2 ^ 63) ≤ i ∧ i < 2 ^ 63 then .ok y (h.set n (.lst (xs.eraseIdx k))) else .no
      | none => .no
    | none => .no
  | _, _ => .no
theorem mx_popAt : MtX X W fPopAt rPopAt := by
  intro ρ h σ H x xs v vs Q p rx rs o
  unfold fPopAt at o
  split at o
  next n zs i q =>
    split at o
    next k q1 =>
      split at o
      next y q2 =>
        obtain ⟨c, o⟩ := out_if o
        obtain ⟨a, ws, e1, e2, e3, r1⟩ := cellL_at p rx q
        obtain ⟨u, e4, r2⟩ := r1.get q2
        obtain ⟨w, e5, r3⟩ := rvs1 rs
        rw [show w = _ from r3] at e5
        rw [r1.len] at q1
        refine ⟨a, ws, i, k, u, e2, e5, e3, c.1, c.2, (ixN_seq q1).1, e4, ?_⟩
        obtain ⟨x', p'⟩ := put_lst p e1 (r1.eraseIdx (k := k))
        exact o ρ _ _ x' p' (r2.ext x')
      next => exact o.elim
    next => exact o.elim
  next => exact o.elim
def fExtend (x : PV) (ys : List PV) (h : Store) : R PV := match cellL h x, ys with
  | some (i, xs), [y] => match lstOf h y with
    | some zs => if xs.length + zs.length ≤ sizeLine then .ok .non (h.set i (.lst (xs ++ zs))) else .no
    | none => .no
  | _, _ => .no
theorem mx_extend : MtX X W fExtend rExtend := by
  intro ρ h σ H x xs v vs Q p rx rs o
  unfold fExtend at o
  split at o
  next i zs y q =>
    split at o
    next us q2 =>
      obtain ⟨c, o⟩ := out_if o
      obtain ⟨a, ws, e1, e2, e3, r1⟩ := cellL_at p rx q
      obtain ⟨u, e4, r2⟩ := rvs1 rs
      obtain ⟨b, ts, e5, e6, r3⟩ := lstOf_at p r2 q2
      refine ⟨a, b, ws, ts, e2, by rw [e4, e5], e3, e6, by rw [← r1.len, ← r3.len]; exact c, ?_⟩
      obtain ⟨x', p'⟩ := put_lst p e1 (r1.app r3)
      exact o ρ _ _ x' p' rfl
    next => exact o.elim
  next => exact o.elim

/-! ### sep.join -/
def strsOf : List PV → Option (List (List Nat))
  | [] => some []
  | .str x :: r => (strsOf r).map (x :: ·)
  | _ :: _ => none
theorem strsOf_at : ∀ {xs : List PV} {vs : List V} {ys : List (List Nat)}, RVs K ρ H xs vs → strsOf xs = some ys → vs = (ys.map fun x => (⟨x.toArray⟩ : Str)).map V.str
  | [], _, _, r, e => by cases e; exact r
  | x :: xs, _, bs, ⟨v, r, e, h1, h2⟩, q => by
    cases x with
    | str b =>
      simp only [strsOf] at q
      cases q2 : strsOf xs with
      | none => rw [q2] at q; cases q
      | some cs =>
        rw [q2] at q
        cases q
        rw [e, show v = _ from h1, strsOf_at h2 q2]
        rfl
    | _ => cases q
def joinN (S : List Nat) : List (List Nat) → List Nat
  | [] => []
  | [p] => p
  | p :: q :: r => p ++ (S ++ joinN S (q :: r))
theorem joinN_eq (S : List Nat) : ∀ ys : List (List Nat), Str.join ⟨S.toArray⟩ (ys.map fun x => ⟨x.toArray⟩) = ⟨(joinN S ys).toArray⟩
  | [] => rfl
  | [_] => rfl
  | p :: q :: r => by
    have ih := joinN_eq S (q :: r)
    show (⟨p.toArray⟩ : Str) ++ ⟨S.toArray⟩ ++ Str.join ⟨S.toArray⟩ ((q :: r).map fun x => ⟨x.toArray⟩) = _
    rw [ih]
    show (⟨p.toArray ++ S.toArray ++ (joinN S (q :: r)).toArray⟩ : Str) = _
    simp [joinN]
def fJoin (x : PV) (ys : List PV) (h : Store) : R PV := match x, ys with
  | .str S, [y] => match seqRd h y with
    | some zs => match strsOf zs with
      | some ss => if (ss.map (·.length)).sum + ss.length * S.length ≤ 16777216 then .ok (.str (joinN S ss)) h else .no
      | none => .no
    | none => .no
  | _, _ => .no
def rJoinA (K : PySem.W.Frag) : V → List V → Hp → VK → Prop := fun x xs H Q => ∃ a p, ∃ ys : List Str, x = .str a ∧ xs = [.ref p] ∧ (SqL K H p (ys.map V.str) ∨ SqT K H p (ys.map V.str)) ∧
    (ys.map (·.length)).sum + ys.length * a.length ≤ 16777216 ∧ Q (.str (Txt.join a ys)) H
theorem mx_join : MtX X W fJoin (rJoinA X.K) := by
  intro ρ h σ H x xs v vs Q p rx rs o
  unfold fJoin at o
  split at o
  next S y =>
    split at o
    next zs q =>
      split at o
      next ss q2 =>
        obtain ⟨c, o⟩ := out_if o
        obtain ⟨u, e4, r2⟩ := rvs1 rs
        obtain ⟨b, ts, e5, e6, r3⟩ := seqRd_at p r2 q
        have e7 := strsOf_at r3 q2
        rw [e7] at e6
        refine ⟨_, b, _, rx, by rw [e4, e5], e6, ?_, o.ok p ?_⟩
        · have e8 : ((ss.map fun x => (⟨x.toArray⟩ : Str)).map (·.length)) = ss.map (·.length) := by
            rw [List.map_map]
            exact List.map_congr_left fun x _ => by simp [Str.length]
          rw [e8]
          simpa [Str.length] using c
        · show V.str (Txt.join _ _) = V.str _
          exact congrArg V.str ((TL.join_eq _ _).trans (joinN_eq S ss))
      next => exact o.elim
    next => exact o.elim
  next => exact o.elim
/-- one sign in a text -/
def fInStr (x y : PV) (h : Store) : R PV := match x, y with
  | .str [c], .str z => .ok (.bl (decide (c ∈ z))) h
  | _, _ => .no
theorem ox_inSign : OpX X W fInStr (fun x y H Q => ∃ (c : Nat) (z : Str), x = .str ⟨#[c]⟩ ∧ y = .str z ∧ Q (.bl (decide (c ∈ z.cps.toList))) H) := by
  intro ρ h σ H x y v w Q p rx ry o
  unfold fInStr at o
  split at o
  next c z => cases rx; cases ry; exact ⟨c, _, rfl, rfl, o.ok p rfl⟩
  next => exact o.elim
end
end Wg

namespace Wg
open PySem PySem.Spec PyProof.Rows L2 SlX

/-! ### statements -/
inductive Fl where
  | nx (l : Lv) | rt (x : PV) | bk (l : Lv) | ct (l : Lv)
  /-- an error on its way, the slots as they were -/
  | ex (e : Ex) (l : Lv)
abbrev MS := Lv → Store → R Fl
/-- a statement's result, and what is wanted of it -/
def OutS (K : KC) (W : WQ) (ρ : Pl) (H : Hp) (r : R Fl) (D : Ends) : Prop :=
  match r with
  | .ok (.nx l) h => ∀ ρ' H' σ', Ext ρ H ρ' H' → Rep K ρ' h H' → RL K ρ' H' l σ' → D.nx σ' H'
  | .ok (.bk l) h => ∀ ρ' H' σ', Ext ρ H ρ' H' → Rep K ρ' h H' → RL K ρ' H' l σ' → D.bk σ' H'
  | .ok (.ct l) h => ∀ ρ' H' σ', Ext ρ H ρ' H' → Rep K ρ' h H' → RL K ρ' H' l σ' → D.ct σ' H'
  | .ok (.rt x) h => ∀ ρ' H' v, Ext ρ H ρ' H' → Rep K ρ' h H' → RV K ρ' H' x v → D.rt v H'
  | .ok (.ex e l) h => ∀ ρ' H' cls d σ', Ext ρ H ρ' H' → Rep K ρ' h H' → RL K ρ' H' l σ' → RX K ρ' H' e cls d → W cls d σ' H'
  | .exc _ _ => False
  | .no => False
def tS (K : KC) (W : WQ) (m : MS) : TS := fun D σ H => ∃ ρ h l, Rep K ρ h H ∧ RL K ρ H l σ ∧ OutS K W ρ H (m l h) D
abbrev XS (X : Cx) (W : WQ) (st : Stmt) (m : MS) : Prop := PS X st (tS (kc X W) W m)
abbrev XSs (X : Cx) (W : WQ) (st : List Stmt) (m : MS) : Prop := PSs X st (tS (kc X W) W m)
theorem ps_weak {X st t t'} (h : PS X st t) (w : ∀ D σ H, t' D σ H → t D σ H) : PS X st t' := ⟨fun pins s σ H D I q => h.run pins s σ H D I (w _ _ _ q)⟩
theorem pss_weak {X st t t'} (h : PSs X st t) (w : ∀ D σ H, t' D σ H → t D σ H) : PSs X st t' := ⟨fun pins s σ H D I q => h.run pins s σ H D I (w _ _ _ q)⟩
def R.noX {α : Type} (r : R α) : R α := match r with
  | .ok a h => .ok a h
  | _ => .no
/-- an expression within a statement -/
def R.bs {α : Type} (r : R α) (l : Lv) (k : α → Store → R Fl) : R Fl := match r with
  | .ok a h => k a h
  | .exc e h => .ok (.ex e l) h
  | .no => .no
/-- on from a statement's end -/
def Fl.on (f : Fl) (h : Store) (k : Lv → Store → R Fl) : R Fl := match f with
  | .nx l => k l h
  | f => .ok f h
section
variable {K : KC} {ρ ρ' ρ1 : Pl} {H H' H1 : Hp} {h : Store} {X : Cx} {W : WQ} {D : Ends}
theorem OutS.ext {r : R Fl} (a : Ext ρ H ρ1 H1) (o : OutS K W ρ H r D) : OutS K W ρ1 H1 r D := by
  cases r with
  | ok x h =>
    cases x with
    | rt x => exact fun ρ' H' v b p q => o ρ' H' v (a.trans b) p q
    | ex e l => exact fun ρ' H' c d s b p q => o ρ' H' c d s (a.trans b) p q
    | _ => exact fun ρ' H' v b p q => o ρ' H' v (a.trans b) p q
  | exc e h => exact o
  | no => exact o
/-- an expression first -/
theorem OutS.bs {α β : Type} {rel : Pl → Hp → α → β → Prop} {r : R α} {k : α → Store → R Fl} {l : Lv} {σ : L2.St} (rl : RL K ρ H l σ) (o : OutS K W ρ H (r.bs l k) D) :
    Out K ρ H rel (fun c d H' => W c d σ H') r (fun v H1 => ∃ x h1 ρ1, Ext ρ H ρ1 H1 ∧ Rep K ρ1 h1 H1 ∧ rel ρ1 H1 x v ∧ OutS K W ρ1 H1 (k x h1) D) := by
  cases r with
  | ok x h => exact fun ρ' H' v a p q => ⟨x, h, ρ', a, p, q, OutS.ext a o⟩
  | exc e h => exact fun ρ' H' c d a p q => o ρ' H' c d σ a p (rl.ext a) q
  | no => exact o
/-- a statement first -/
theorem OutS.seq {r : R Fl} {k : Lv → Store → R Fl} {u : TS} (hu : ∀ D σ H, tS K W k D σ H → u D σ H) (o : OutS K W ρ H (r.bind fun f h => f.on h k) D) : OutS K W ρ H r { D with nx := u D } := by
  cases r with
  | ok x h =>
    cases x with
    | nx l => exact fun ρ' H' σ' a p q => hu D σ' H' ⟨ρ', h, l, p, q, OutS.ext a o⟩
    | _ => exact o
  | exc e h => exact o
  | no => exact o
def mDone : MS := fun l h => .ok (.nx l) h
def mSeq (a b : MS) : MS := fun l h => (a l h).bind fun f h1 => f.on h1 b
variable {st : Stmt} {rest : List Stmt} {ma mb : MS} {e : Expr} {m : M PV} {pos : Pos}
theorem xss_nil : XSs X W [] mDone := pss_weak pss_nil fun D σ H ⟨ρ, h, l, p, rl, o⟩ => o ρ H σ (Ext.refl _ _) p rl
theorem xss_cons (h1 : XS X W st ma) (h2 : XSs X W rest mb) : XSs X W (st :: rest) (mSeq ma mb) :=
  pss_weak (pss_cons h1 h2) fun D σ H ⟨ρ, h, l, p, rl, o⟩ => ⟨ρ, h, l, p, rl, OutS.seq (fun _ _ _ q => q) o⟩
theorem xss_one (h1 : XS X W st ma) : XSs X W [st] ma := pss_one h1
def mRet (m : M PV) : MS := fun l h => (m l h).bs l fun x h1 => .ok (.rt x) h1
theorem xs_ret (he : XE X W e m) : XS X W (.Return (some e) pos) (mRet m) :=
  ps_weak (ps_ret he) fun D σ H ⟨ρ, h, l, p, rl, o⟩ => ⟨ρ, h, l, p, rl, Out.mono (OutS.bs rl o) fun v H1 ⟨x, h1, ρ1, e1, p1, r1, o1⟩ => o1 ρ1 H1 v (Ext.refl _ _) p1 r1⟩
def mRetN : MS := fun _ h => .ok (.rt .non) h
theorem xs_retN : XS X W (.Return none pos) mRetN := ps_weak ps_retN fun D σ H ⟨ρ, h, l, p, rl, o⟩ => o ρ H .non (Ext.refl _ _) p rfl
def mDrop (m : M PV) : MS := fun l h => (m l h).bs l fun _ h1 => .ok (.nx l) h1
theorem xs_expr (he : XE X W e m) (hs : swapsWith e none pos.line X.env = pure false := by rfl) : XS X W (.Expr e pos) (mDrop m) :=
  ps_weak (ps_expr he hs) fun D σ H ⟨ρ, h, l, p, rl, o⟩ => ⟨ρ, h, l, p, rl, Out.mono (OutS.bs rl o) fun v H1 ⟨x, h1, ρ1, e1, p1, r1, o1⟩ => o1 ρ1 H1 σ (Ext.refl _ _) p1 (rl.ext e1)⟩
theorem xs_doc {x j pos'} : XS X W (.Expr (.Constant (.str x) j pos') pos) mDone := ps_weak ps_doc fun D σ H ⟨ρ, h, l, p, rl, o⟩ => o ρ H σ (Ext.refl _ _) p rl
theorem xs_pass : XS X W (.Pass pos) mDone := ps_weak ps_pass fun D σ H ⟨ρ, h, l, p, rl, o⟩ => o ρ H σ (Ext.refl _ _) p rl
def mBreak : MS := fun l h => .ok (.bk l) h
def mCont : MS := fun l h => .ok (.ct l) h
theorem xs_break : XS X W (.Break pos) mBreak := ps_weak ps_break fun D σ H ⟨ρ, h, l, p, rl, o⟩ => o ρ H σ (Ext.refl _ _) p rl
theorem xs_cont : XS X W (.Continue pos) mCont := ps_weak ps_continue fun D σ H ⟨ρ, h, l, p, rl, o⟩ => o ρ H σ (Ext.refl _ _) p rl
def mIf (c : M Bool) (a b : MS) : MS := fun l h => (c l h).bs l fun k h1 => if k = true then a l h1 else b l h1
theorem xs_if {c : Expr} {mc : M Bool} {sa sb : List Stmt} (hc : XT X W c mc) (ha : XSs X W sa ma) (hb : XSs X W sb mb) : XS X W (.If c sa sb pos) (mIf mc ma mb) :=
  ps_weak (ps_if hc ha hb) fun D σ H ⟨ρ, h, l, p, rl, o⟩ => ⟨ρ, h, l, p, rl, Out.mono (OutS.bs rl o) fun v H1 ⟨x, h1, ρ1, e1, p1, r1, o1⟩ => by
    cases r1
    cases v with
    | true => exact ⟨ρ1, h1, l, p1, rl.ext e1, o1⟩
    | false => exact ⟨ρ1, h1, l, p1, rl.ext e1, o1⟩⟩

/-! ### targets -/
abbrev MG := PV → Lv → Store → R Lv
def tG (K : KC) (W : WQ) (g : MG) : TG := fun v σ H Q => ∃ ρ h l x, Rep K ρ h H ∧ RL K ρ H l σ ∧ RV K ρ H x v ∧ Out K ρ H (RL K) (fun c d H' => ∀ σ', W c d σ' H') (g x l h) Q
abbrev XG (X : Cx) (W : WQ) (tg : Expr) (g : MG) : Prop := PG X tg (tG (kc X W) W g)
theorem pg_weak {X tg} {t t' : TG} (h : PG X tg t) (w : ∀ v σ H Q, t' v σ H Q → t v σ H Q) : PG X tg t' := ⟨fun pins s σ H v u Q I r q => h.run pins s σ H v u Q I r (w _ _ _ _ q)⟩
def gVar (i : Nat) : MG := fun x l h => .ok (l.set i (some x)) h
theorem xg_name {i : Nat} {x : Str} (hN : X.N.Nodup) (hc : curNe W.cur i = true := by rfl) (hi : X.N[i]? = some x := by rfl) (hx : Loc X.env.scope x := by first | exact Or.inl rfl | exact Or.inr rfl) (hf : X.fn x = true ∨ X.env.scope.names.lookup x = some .local := by first | exact .inl rfl | exact .inr rfl | assumption) : XG X W (.Name x pos) (gVar i) :=
  pg_weak (pg_name hN hi hx hf) fun v σ H Q ⟨ρ, h, l, x, p, rl, r, o⟩ => o.ok p (rl.set hc r)
/-- name = e -/
def mSet (i : Nat) (m : M PV) : MS := fun l h => (m l h).bs l fun x h1 => .ok (.nx (l.set i (some x))) h1
theorem tS_set {i : Nat} {m : M PV} (hc : curNe K.cur i = true) : ∀ D σ H, tS K W (mSet i m) D σ H → tAsg (tM K W m) (gName i) D σ H := fun D σ H ⟨ρ, h, l, p, rl, o⟩ =>
  ⟨ρ, h, l, p, rl, Out.mono (OutS.bs rl o) fun v H1 ⟨x, h1, ρ1, e1, p1, r1, o1⟩ => o1 ρ1 H1 _ (Ext.refl _ _) p1 ((rl.ext e1).set hc r1)⟩
theorem xs_set {i : Nat} {x : Str} {pos' : Pos} (hN : X.N.Nodup) (he : XE X W e m) (hc : curNe W.cur i = true := by rfl) (hi : X.N[i]? = some x := by rfl) (hx : Loc X.env.scope x := by first | exact Or.inl rfl | exact Or.inr rfl) (hs : swapsWith e (some (.Name x pos')) pos.line X.env = pure false := by rfl)
    (hf : X.fn x = true ∨ X.env.scope.names.lookup x = some .local := by first | exact .inl rfl | exact .inr rfl | assumption) : XS X W (.Assign [.Name x pos'] e pos) (mSet i m) := ps_weak (ps_set hN hi hx he hs hf) (tS_set hc)
/-- o[i] = e -/
def SetX (X : Cx) (W : WQ) (f : PV → PV → PV → Store → R Unit) (t : TSet) : Prop :=
  ∀ (ρ : Pl) (h : Store) (H : Hp) (x y z : PV) (v w u : V) (Q : Hp → Prop), Rep (kc X W) ρ h H → RV (kc X W) ρ H x v → RV (kc X W) ρ H y w → RV (kc X W) ρ H z u →
    Out (kc X W) ρ H (fun _ _ (_ : Unit) (_ : Unit) => True) (fun c d H' => ∀ σ', W c d σ' H') (f x y z h) (fun _ => Q) → t v w u H Q
def gSubX (f : PV → PV → PV → Store → R Unit) (o i : M PV) : MG := fun z l h => (o l h).bind fun x h1 => (i l h1).bind fun y h2 => (f x y z h2).bind fun _ h3 => .ok l h3
theorem all_w {α β : Type} {rel : Pl → Hp → α → β → Prop} {r : R α} {Q : β → Hp → Prop} {σ : L2.St} (o : Out K ρ H rel (fun c d H' => ∀ σ', W c d σ' H') r Q) : Out K ρ H rel (fun c d H' => W c d σ H') r Q := by
  cases r with
  | ok x h => exact o
  | exc e h => exact fun ρ' H' c d a p q => o ρ' H' c d a p q σ
  | no => exact o
theorem xg_sub {a b : Expr} {mx my : M PV} {f : PV → PV → PV → Store → R Unit} {t : TSet} (ha : XE X W a mx) (hb : XE X W b my) (hs : PSet X t) (hx : SetX X W f t)
    (hr : ∀ v, assign (.Subscript a b pos) X.env v = (do
      let ov ← holding [v] (eval a X.env)
      let iv ← holding [v, ov] (eval b X.env)
      standAt pos
      holding [v, ov, iv] (setItem ov iv v)
      release [v, ov, iv] []) := by intro _; rfl) : XG X W (.Subscript a b pos) (gSubX f mx my) :=
  pg_weak (pg_sub ha hb hs hr) fun u σ H Q ⟨ρ, h, l, z, p, rl, r, o⟩ => ⟨ρ, h, l, p, rl, Out.mono (all_w (Out.bind o)) fun v H1 ⟨x, h1, ρ1, e1, p1, r1, o1⟩ =>
    ⟨ρ1, h1, l, p1, rl.ext e1, Out.mono (all_w (Out.bind o1)) fun w H2 ⟨y, h2, ρ2, e2, p2, r2, o2⟩ =>
      hx ρ2 h2 H2 x y z v w u _ p2 (r1.ext e2) r2 ((r.ext e1).ext e2) (Out.mono (Out.bind o2) fun _ H3 ⟨_, h3, ρ3, e3, p3, _, o3⟩ => o3.ok p3 (((rl.ext e1).ext e2).ext e3))⟩⟩
def mAsg (m : M PV) (g : MG) : MS := fun l h => (m l h).bs l fun x h1 => (g x l h1).noX.bind fun l2 h2 => .ok (.nx l2) h2
theorem tS_asg {g : MG} : ∀ D σ H, tS K W (mAsg m g) D σ H → tAsg (tM K W m) (tG K W g) D σ H := fun D σ H ⟨ρ, h, l, p, rl, o⟩ =>
  ⟨ρ, h, l, p, rl, Out.mono (OutS.bs rl o) fun v H1 ⟨x, h1, ρ1, e1, p1, r1, o1⟩ => ⟨ρ1, h1, l, x, p1, rl.ext e1, r1, by
    have o1 : OutS K W ρ1 H1 ((g x l h1).noX.bind fun l2 h2 => .ok (.nx l2) h2) D := o1
    cases q : g x l h1 with
    | ok l2 h2 =>
      rw [q] at o1
      exact fun ρ' H' σ' a p r => o1 ρ' H' σ' a p r
    | exc e h =>
      rw [q] at o1
      exact o1.elim
    | no => rw [q] at o1; exact o1.elim⟩⟩
theorem xs_asg {tg : Expr} {g : MG} (he : XE X W e m) (hg : XG X W tg g) (hs : swapsWithSole [tg] e pos.line X.env = pure false := by rfl) (hw : swappedStores [tg] e X.env = pure none := by rfl)
    (h1 : (assignEach [tg] X.env).map (·.2) = [assign tg X.env] := by rfl) : XS X W (.Assign [tg] e pos) (mAsg m g) := ps_weak (ps_asg he hg hs hw h1) tS_asg
def fSetL (x y z : PV) (h : Store) : R Unit := match cellL h x, y with
  | some (n, xs), .int k => match ixN xs.length k with
    | some j => .ok () (h.set n (.lst (xs.set j z)))
    | none => .no
  | _, _ => .no
theorem sx_list : SetX X W fSetL rSetL := by
  intro ρ h H x y z v w u Q p rx ry rz o
  unfold fSetL at o
  split at o
  next n xs k q =>
    split at o
    next j q2 =>
      obtain ⟨a, ws, e1, e2, e3, r1⟩ := cellL_at p rx q
      rw [show w = _ from ry]
      refine ⟨a, ws, k, j, e2, rfl, e3, by rw [← r1.len]; exact q2, ?_⟩
      obtain ⟨x', p'⟩ := put_lst p e1 (r1.set (i := j) rz)
      exact o ρ _ () x' p' trivial
    next => exact o.elim
  next => exact o.elim
end
end Wg

namespace Wg
open PySem PySem.Spec PyProof.Rows L2 SlX
section
variable {K : KC} {ρ ρ' ρ1 ρ0 : Pl} {H H' H1 H0 : Hp} {h : Store} {X : Cx} {W : WQ} {D : Ends}

/-! ### what is walked -/
/-- from (ρ0, H0) on, wherever values stay values, the walk J yields ys -/
structure Yields (K : KC) (ρ0 : Pl) (H0 : Hp) (J : It) (ys : List PV) : Prop where
  go : ∀ (i : Nat) ρ h H, Kp ρ0 H0 ρ H → Rep K ρ h H → i < ys.length → J.go i H
  stop : ∀ (i : Nat) ρ h H, Kp ρ0 H0 ρ H → Rep K ρ h H → ys.length ≤ i → J.stop i H
  yld : ∀ (i : Nat) ρ h H y x H', Kp ρ0 H0 ρ H → Rep K ρ h H → ys[i]? = some y → J.yld i H x H' → Ext ρ H ρ H' ∧ Rep K ρ h H' ∧ RV K ρ H' y x
def tI (K : KC) (W : WQ) (m : M (List PV)) : TI := fun σ H R => ∃ ρ h l, Rep K ρ h H ∧ RL K ρ H l σ ∧
  Out K ρ H (fun ρ' H' ys J => Yields K ρ' H' J ys) (fun c d H' => W c d σ H') (m l h) (fun J H' => R J H')
abbrev XI (X : Cx) (W : WQ) (tg iter : Expr) (m : M (List PV)) : Prop := PI X tg iter (tI (kc X W) W m)
theorem pi_weak {tg iter : Expr} {w w' : TI} (h : PI X tg iter w) (k : ∀ σ H R, w' σ H R → w σ H R) : PI X tg iter w' := ⟨fun pins s σ H R I q => h.run pins s σ H R I (k _ _ _ q)⟩

/-- a list that nobody changes -/
def mItL (m : M PV) : M (List PV) := fun l h => (m l h).bind fun x h1 => match x with
  | .lst xs => .ok xs h1
  | .scr xs => .ok xs h1
  | _ => .no
theorem ScrAt.of_lst {p : Addr} {vs : List V} (t : LstAt ρ H p vs) : ScrAt K ρ H p vs := .inl ⟨t.1, .inl t.2⟩
theorem yields_list {p : Addr} {vs : List V} {ys : List PV} (t : ScrAt K ρ H p vs) (r : RVs K ρ H ys vs) : Yields K ρ H (Itl K p) ys where
  go := fun i ρ' h' H' a _ hi => by
    obtain ⟨v, e, _⟩ := r.get (i := i) (x := ys[i]) (by simp [hi])
    exact ⟨vs, v, (t.kp a).sq, e⟩
  stop := fun i ρ' h' H' a _ hi => ⟨vs, (t.kp a).sq, by rw [← r.len]; exact hi⟩
  yld := fun i ρ' h' H' y x H2 a p' e q => by
    obtain ⟨e1, e2⟩ := q
    subst e1
    obtain ⟨v, e3, rv⟩ := r.get e
    have := e2 vs (t.kp a).sq
    rw [e3] at this; cases this
    exact ⟨Ext.refl _ _, p', RV.kp a _ _ rv⟩
theorem xi_list {tg e : Expr} {m : M PV} (he : XE X W e m) : XI X W tg e (mItL m) := pi_weak (pi_list he) fun σ H R ⟨ρ, h, l, p, rl, o⟩ =>
  ⟨ρ, h, l, p, rl, Out.mono (Out.bind o) fun v H1 ⟨x, h1, ρ1, e1, p1, r1, o1⟩ => by
    cases x with
    | lst xs =>
      obtain ⟨a, vs, e2, t, rs⟩ := r1
      exact ⟨a, e2, ⟨vs, SqL.of t.2⟩, o1.ok p1 (yields_list (ScrAt.of_lst t) rs)⟩
    | scr xs =>
      obtain ⟨a, vs, e2, t, rs⟩ := r1
      exact ⟨a, e2, ⟨vs, t.sq⟩, o1.ok p1 (yields_list t rs)⟩
    | _ => exact o1.elim⟩
def mItT (m : M PV) : M (List PV) := fun l h => (m l h).bind fun x h1 => match x with
  | .tup xs => .ok xs h1
  | _ => .no
theorem xi_tup {tg e : Expr} {m : M PV} (he : XE X W e m) : XI X W tg e (mItT m) := pi_weak (pi_tup he) fun σ H R ⟨ρ, h, l, p, rl, o⟩ =>
  ⟨ρ, h, l, p, rl, Out.mono (Out.bind o) fun v H1 ⟨x, h1, ρ1, e1, p1, r1, o1⟩ => by
    cases x with
    | tup xs =>
      obtain ⟨a, vs, e2, t, rs⟩ := r1
      refine ⟨a, e2, ⟨vs, t.sq⟩, o1.ok p1 ⟨fun i ρ' h' H' k _ hi => ?_, fun i ρ' h' H' k _ hi => ⟨vs, (t.kp k).sq, by rw [← rs.len]; exact hi⟩, fun i ρ' h' H' y x H2 k p' e q => ?_⟩⟩
      · obtain ⟨v, e, _⟩ := rs.get (i := i) (x := xs[i]) (by simp [hi])
        exact ⟨vs, v, (t.kp k).sq, e⟩
      · obtain ⟨e1, e2⟩ := q
        subst e1
        obtain ⟨v, e3, rv⟩ := rs.get e
        have := e2 vs (t.kp k).sq
        rw [e3] at this; cases this
        exact ⟨Ext.refl _ _, p', RV.kp k _ _ rv⟩
    | _ => exact o1.elim⟩
def mItS (m : M PV) : M (List PV) := fun l h => (m l h).bind fun x h1 => match x with
  | .str z => .ok (z.map fun c => .str [c]) h1
  | _ => .no
theorem xi_str {tg e : Expr} {m : M PV} (he : XE X W e m) : XI X W tg e (mItS m) := pi_weak (pi_str he) fun σ H R ⟨ρ, h, l, p, rl, o⟩ =>
  ⟨ρ, h, l, p, rl, Out.mono (Out.bind o) fun v H1 ⟨x, h1, ρ1, e1, p1, r1, o1⟩ => by
    cases x with
    | str z =>
      refine ⟨_, r1, o1.ok p1 ⟨fun i ρ' h' H' k _ hi => by show i < z.toArray.size; simpa using hi, fun i ρ' h' H' k _ hi => by show z.toArray.size ≤ i; simpa using hi, fun i ρ' h' H' y x H2 k p' e q => ?_⟩⟩
      obtain ⟨e1, c, e2, e3⟩ := q
      subst e1
      rw [List.getElem?_map] at e
      simp only [List.getElem?_toArray] at e2
      rw [e2] at e
      cases e
      exact ⟨Ext.refl _ _, p', e3⟩
    | _ => exact o1.elim⟩
/-- range(a), range(a, b) -/
def runI (lo : Int) (n : Nat) : List PV := (List.range n).map fun (k : Nat) => .int (lo + (k : Int))
theorem yields_range {lo : Int} {n : Nat} : Yields K ρ H (Itr lo n) (runI lo n) where
  go := fun i _ _ _ _ _ hi => by show i < n; simpa [runI] using hi
  stop := fun i _ _ _ _ _ hi => by show n ≤ i; simpa [runI] using hi
  yld := fun i ρ' h' H' y x H2 a p' e q => by
    obtain ⟨e1, e2⟩ := q
    subst e1
    unfold runI at e
    rw [List.getElem?_map] at e
    cases z : (List.range n)[i]? with
    | none => rw [z] at e; cases e
    | some k =>
      rw [z] at e
      cases e
      obtain ⟨_, z2⟩ := List.getElem?_eq_some_iff.mp z
      rw [List.getElem_range] at z2
      subst z2
      exact ⟨Ext.refl _ _, p', e2⟩
def fRange1 (xs : List PV) (h : Store) : R (List PV) := match xs with
  | [.int j] => if -(2 ^ 62) ≤ j ∧ j < 2 ^ 62 then .ok (runI 0 j.toNat) h else .no
  | _ => .no
def fRange2 (xs : List PV) (h : Store) : R (List PV) := match xs with
  | [.int i, .int j] => if -(2 ^ 62) ≤ i ∧ i < 2 ^ 62 ∧ -(2 ^ 62) ≤ j ∧ j < 2 ^ 62 then .ok (runI i (j - i).toNat) h else .no
  | _ => .no
def mItC (f : List PV → Store → R (List PV)) (m : M (List PV)) : M (List PV) := fun l h => (m l h).bind f
theorem xi_range1 {tg a : Expr} {ms : M (List PV)} {p0 pos : Pos} (hm : X.mg "range" = none) (ha : XA X W [a] ms) (hg : Gl X "range" := by rfl) (hs : starEach [a] X.env = [(false, eval a X.env)] := by rfl) : XI X W tg (.Call (.Name "range" p0) [a] [] pos) (mItC fRange1 ms) :=
  pi_weak (pi_range1 hg hm ha hs) fun σ H R ⟨ρ, h, l, p, rl, o⟩ => ⟨ρ, h, l, p, rl, Out.mono (Out.bind o) fun v H1 ⟨x, h1, ρ1, e1, p1, r1, o1⟩ => by
    unfold fRange1 at o1
    split at o1
    next j =>
      obtain ⟨c, o1⟩ := out_if o1
      obtain ⟨w, e, r⟩ := rvs1 r1
      exact ⟨j, by rw [e, show w = _ from r], c.1, c.2, o1.ok p1 yields_range⟩
    next => exact o1.elim⟩
theorem xi_range2 {tg a b : Expr} {ms : M (List PV)} {p0 pos : Pos} (hm : X.mg "range" = none) (ha : XA X W [a, b] ms) (hg : Gl X "range" := by rfl) (hs : starEach [a, b] X.env = [(false, eval a X.env), (false, eval b X.env)] := by rfl) (hs2 : starEach [b] X.env = [(false, eval b X.env)] := by rfl) :
    XI X W tg (.Call (.Name "range" p0) [a, b] [] pos) (mItC fRange2 ms) :=
  pi_weak (pi_range2 hg hm ha hs hs2) fun σ H R ⟨ρ, h, l, p, rl, o⟩ => ⟨ρ, h, l, p, rl, Out.mono (Out.bind o) fun v H1 ⟨x, h1, ρ1, e1, p1, r1, o1⟩ => by
    unfold fRange2 at o1
    split at o1
    next i j =>
      obtain ⟨c, o1⟩ := out_if o1
      obtain ⟨w, u, e, r, q⟩ := rvs2 r1
      exact ⟨i, j, by rw [e, show w = _ from r, show u = _ from q], c, o1.ok p1 yields_range⟩
    next => exact o1.elim⟩

/-! ### for -/
def forL (g : MG) (body : MS) : List PV → MS
  | [], l, h => .ok (.nx l) h
  | y :: ys, l, h => (g y l h).noX.bind fun l1 h1 => (body l1 h1).bind fun f h2 => match f with
    | .nx l2 => forL g body ys l2 h2
    | .ct l2 => forL g body ys l2 h2
    | .bk l2 => .ok (.nx l2) h2
    | .rt x => .ok (.rt x) h2
    | .ex e l2 => .ok (.ex e l2) h2
def mFor (src : M (List PV)) (g : MG) (body : MS) : MS := fun l h => (src l h).bs l fun ys h1 => forL g body ys l h1
theorem xs_for {tg iter : Expr} {body : List Stmt} {src : M (List PV)} {g : MG} {mb : MS} {pos : Pos} (hp : PassesOwn (model X.prog X.w) X.A X.env X.xe) (hc : X.calm = true) (hi : XI X W tg iter src) (hg : XG X W tg g) (hb : XSs X W body mb)
    (hs : ∀ x, foldedSetIterable iter X.env x = pure x := by intro _; rfl) : XS X W (.For tg iter body [] pos) (mFor src g mb) :=
  ps_weak (ps_for hp hc hi hg hb hs) fun D σ H ⟨ρ, h, l, p, rl, o⟩ => ⟨ρ, h, l, p, rl, Out.mono (OutS.bs rl o) fun J H1 ⟨ys, h1, ρ1, e1, p1, y1, o1⟩ => by
    refine ⟨fun i m σ H => m = ys.length - i ∧ i ≤ ys.length ∧ ∃ ρ h l, Ext ρ1 H1 ρ H ∧ Rep (kc X W) ρ h H ∧ RL (kc X W) ρ H l σ ∧ OutS (kc X W) W ρ H (forL g mb (ys.drop i) l h) D,
      ⟨_, rfl, Nat.zero_le _, ρ1, h1, l, Ext.refl _ _, p1, rl.ext e1, o1⟩, ?_⟩
    rintro i m σ2 H2 ⟨rfl, hi, ρ2, h2, l2, e2, p2, rl2, o2⟩
    by_cases hlt : i < ys.length
    · refine .inr ⟨y1.go i ρ2 h2 H2 e2.kp p2 hlt, fun σ H => ∃ ρ h l, Ext ρ1 H1 ρ H ∧ Rep (kc X W) ρ h H ∧ RL (kc X W) ρ H l σ ∧ OutS (kc X W) W ρ H (forL g mb (ys.drop (i + 1)) l h) D,
        fun σ' H' z => ⟨ys.length - (i + 1), by omega, rfl, hlt, z⟩, fun x H3 hy => ?_⟩
      obtain ⟨e3, p3, r3⟩ := y1.yld i ρ2 h2 H2 ys[i] x H3 e2.kp p2 (by simp [hlt]) hy
      rw [List.drop_eq_getElem_cons hlt] at o2
      refine ⟨ρ2, h2, l2, ys[i], p3, rl2.ext e3, r3, ?_⟩
      have o3 : OutS (kc X W) W ρ2 H3 ((g ys[i] l2 h2).noX.bind fun l1 h1 => (mb l1 h1).bind fun f h2 => match f with
        | .nx l2 => forL g mb (ys.drop (i + 1)) l2 h2
        | .ct l2 => forL g mb (ys.drop (i + 1)) l2 h2
        | .bk l2 => .ok (.nx l2) h2
        | .rt x => .ok (.rt x) h2
        | .ex e l2 => .ok (.ex e l2) h2) D := o2.ext e3
      cases q : g ys[i] l2 h2 with
      | no => rw [q] at o3; exact o3.elim
      | exc e h => rw [q] at o3; exact o3.elim
      | ok l4 h4 =>
        rw [q] at o3
        intro ρ4 H4 σ4 e4 p4 rl4
        refine ⟨ρ4, h4, l4, p4, rl4, ?_⟩
        have o4 : OutS (kc X W) W ρ4 H4 ((mb l4 h4).bind fun f h2 => match f with
          | .nx l2 => forL g mb (ys.drop (i + 1)) l2 h2
          | .ct l2 => forL g mb (ys.drop (i + 1)) l2 h2
          | .bk l2 => .ok (.nx l2) h2
          | .rt x => .ok (.rt x) h2
          | .ex e l2 => .ok (.ex e l2) h2) D := OutS.ext e4 o3
        have ee : Ext ρ1 H1 ρ4 H4 := (e2.trans e3).trans e4
        cases q5 : mb l4 h4 with
        | no => rw [q5] at o4; exact o4
        | exc e h => rw [q5] at o4; exact o4
        | ok f h5 =>
          rw [q5] at o4
          cases f with
          | nx l5 => exact fun ρ5 H5 σ5 e5 p5 rl5 => ⟨ρ5, h5, l5, ee.trans e5, p5, rl5, OutS.ext e5 o4⟩
          | ct l5 => exact fun ρ5 H5 σ5 e5 p5 rl5 => ⟨ρ5, h5, l5, ee.trans e5, p5, rl5, OutS.ext e5 o4⟩
          | bk l5 => exact o4
          | rt x => exact o4
          | ex e l5 => exact o4
    · have e : i = ys.length := by omega
      subst e
      rw [List.drop_length] at o2
      exact .inl ⟨y1.stop _ ρ2 h2 H2 e2.kp p2 (Nat.le_refl _), o2 ρ2 H2 σ2 (Ext.refl _ _) p2 rl2⟩⟩

/-! ### while -/
def whileL (c : M Bool) (body : MS) : Nat → MS
  | 0, _, _ => .no
  | n + 1, l, h => (c l h).bs l fun b h1 => if b = true then (body l h1).bind fun f h2 => match f with
      | .nx l2 => whileL c body n l2 h2
      | .ct l2 => whileL c body n l2 h2
      | .bk l2 => .ok (.nx l2) h2
      | .rt x => .ok (.rt x) h2
      | .ex e l2 => .ok (.ex e l2) h2
    else .ok (.nx l) h1
def mWhile (n : Nat) (c : M Bool) (body : MS) : MS := whileL c body n
theorem xs_while {c : Expr} {body : List Stmt} {mc : M Bool} {mb : MS} {pos : Pos} (n : Nat) (hp : PassesOwn (model X.prog X.w) X.A X.env X.xe) (hc : XT X W c mc) (hb : XSs X W body mb) : XS X W (.While c body [] pos) (mWhile n mc mb) :=
  ps_weak (ps_while hp hc hb) fun D σ H ⟨ρ, h, l, p, rl, o⟩ => by
    refine ⟨fun m σ H => ∃ ρ h l, Rep (kc X W) ρ h H ∧ RL (kc X W) ρ H l σ ∧ OutS (kc X W) W ρ H (whileL mc mb m l h) D, ⟨n, ρ, h, l, p, rl, o⟩, ?_⟩
    rintro m σ H ⟨ρ, h, l, p, rl, o⟩
    cases m with
    | zero => exact o.elim
    | succ m =>
      refine ⟨ρ, h, l, p, rl, Out.mono (OutS.bs rl o) fun b H1 ⟨b', h1, ρ1, e1, p1, r1, o1⟩ => ?_⟩
      cases r1
      cases b with
      | false => exact o1 ρ1 H1 σ (Ext.refl _ _) p1 (rl.ext e1)
      | true =>
        refine ⟨fun σ H => ∃ ρ h l, Rep (kc X W) ρ h H ∧ RL (kc X W) ρ H l σ ∧ OutS (kc X W) W ρ H (whileL mc mb m l h) D, fun σ' H' z => ⟨m, Nat.lt_succ_self _, z⟩, ρ1, h1, l, p1, rl.ext e1, ?_⟩
        have o4 : OutS (kc X W) W ρ1 H1 ((mb l h1).bind fun f h2 => match f with
          | .nx l2 => whileL mc mb m l2 h2
          | .ct l2 => whileL mc mb m l2 h2
          | .bk l2 => .ok (.nx l2) h2
          | .rt x => .ok (.rt x) h2
          | .ex e l2 => .ok (.ex e l2) h2) D := o1
        cases q5 : mb l h1 with
        | no => rw [q5] at o4; exact o4
        | exc e h => rw [q5] at o4; exact o4
        | ok f h5 =>
          rw [q5] at o4
          cases f with
          | nx l5 => exact fun ρ5 H5 σ5 e5 p5 rl5 => ⟨ρ5, h5, l5, p5, rl5, OutS.ext e5 o4⟩
          | ct l5 => exact fun ρ5 H5 σ5 e5 p5 rl5 => ⟨ρ5, h5, l5, p5, rl5, OutS.ext e5 o4⟩
          | bk l5 => exact o4
          | rt x => exact o4
          | ex e l5 => exact o4
end
end Wg

namespace Wg
open PySem PySem.Spec PyProof.Rows L2 SlX
section
variable {K : KC} {ρ ρ' ρ1 ρ0 : Pl} {H H' H1 H0 : Hp} {h : Store} {X : Cx} {W : WQ}

/-! ### what is being made at A, hidden -/
theorem Kp.hid_upd {a : Addr} (m : a ∈ ρ.hid) (o : HO) : Kp ρ H ρ (upd H a o) := ⟨fun _ _ h => h, fun p u hp e => ⟨hp, .inl (by rw [upd_ne (fun z => hp (.inr (by rw [z]; exact m)))]; exact e)⟩⟩
theorem Rep.hid_upd (p : Rep K ρ h H) {a : Addr} (m : a ∈ ρ.hid) (nc : a ∉ ρ.c) (o : HO) : Rep K ρ h (upd H a o) :=
  p.same (Kp.hid_upd m o) rfl (fun b hb => upd_ne fun z => nc (by rw [← z]; exact hb)) (fun q hq => by
    by_cases z : q = a
    · exact ⟨o, by rw [z, upd_same]⟩
    · rw [upd_ne z]; exact p.hid q hq) p.dj
/-- one more hidden -/
abbrev Pl.hide (ρ : Pl) (a : Addr) : Pl := ⟨ρ.c, a :: ρ.hid⟩
theorem Kp.hide {a : Addr} (e : H a = none) (o : HO) : Kp ρ H (ρ.hide a) (upd H a o) := ⟨fun _ _ h => h, fun p u hp q => by
  have ne : p ≠ a := ne_of_none q e
  refine ⟨fun z => z.elim (fun z => hp (.inl z)) fun z => ?_, .inl (by rw [upd_ne ne]; exact q)⟩
  rcases List.mem_cons.mp z with z | z
  · exact ne z
  · exact hp (.inr z)⟩
theorem Rep.hide (p : Rep K ρ h H) {a : Addr} (e : H a = none) (o : HO) : Rep K (ρ.hide a) h (upd H a o) :=
  p.same (Kp.hide e o) rfl (fun b hb => upd_ne fun z => p.fresh e (.inl (by rw [← z]; exact hb))) (fun q hq => by
    rcases List.mem_cons.mp hq with z | z
    · exact ⟨o, by rw [z, upd_same]⟩
    · obtain ⟨u, w⟩ := p.hid q z
      exact ⟨u, by rw [upd_ne (ne_of_none w e)]; exact w⟩) fun q hq z => (List.mem_cons.mp z).elim (fun z => p.fresh e (.inl (by rw [← z]; exact hq))) (p.dj q hq)
/-- the hidden one comes out -/
theorem Kp.out {c l : List Addr} {a : Addr} : Kp ⟨c, a :: l⟩ H ⟨c, l⟩ H := ⟨fun _ _ h => h, fun p u hp q => ⟨fun z => z.elim (fun z => hp (.inl z)) fun z => hp (.inr (List.mem_cons_of_mem _ z)), .inl q⟩⟩
theorem Rep.out {c l : List Addr} {a : Addr} (p : Rep K ⟨c, a :: l⟩ h H) : Rep K ⟨c, l⟩ h H :=
  p.same Kp.out rfl (fun _ _ => rfl) (fun q hq => p.hid q (List.mem_cons_of_mem _ hq)) fun q hq z => p.dj q hq (List.mem_cons_of_mem _ z)

/-! ### targets within a block: the block's own slots alone change -/
def tGw (K : KC) (W : WQ) (vs : List Nat) (g : MG) : TG := fun v σ H Q => ∃ ρ h l x, Rep K ρ h H ∧ RL K ρ H l σ ∧ RV K ρ H x v ∧
  Out K ρ H (fun ρ' H' l' σ' => RL K ρ' H' l' σ' ∧ wipe σ' vs = wipe σ vs) (fun c d H' => ∀ σ', W c d σ' H') (g x l h) Q
abbrev XGw (X : Cx) (W : WQ) (vs : List Nat) (tg : Expr) (g : MG) : Prop := PG X tg (tGw (kc X W) W vs g)
theorem wipe_set {σ : L2.St} {i : Nat} {o : Option V} : ∀ {vs : List Nat}, i ∈ vs → wipe (σ.set i o) vs = wipe σ vs
  | [], h => by simp at h
  | v :: vs, h => by
    show (wipe (σ.set i o) vs).set v none = (wipe σ vs).set v none
    by_cases hi : i ∈ vs
    · rw [wipe_set hi]
    · have e : v = i := (List.mem_cons.mp h).elim Eq.symm fun z => absurd z hi
      subst e
      clear h
      induction vs with
      | nil => simp [wipe]
      | cons u us ih =>
        have hu : v ≠ u := fun z => hi (by rw [z]; exact List.mem_cons_self)
        show ((wipe (σ.set v o) us).set u none).set v none = ((wipe σ us).set u none).set v none
        rw [List.set_comm _ _ (Ne.symm hu), ih (fun z => hi (List.mem_cons_of_mem _ z)), List.set_comm _ _ hu]
theorem xgw_name {i : Nat} {x : Str} {pos : Pos} {vs : List Nat} (hN : X.N.Nodup) (hc : curNe W.cur i = true := by rfl) (hv : i ∈ vs := by simp) (hi : X.N[i]? = some x := by rfl) (hx : Loc X.env.scope x := by first | exact Or.inl rfl | exact Or.inr rfl) (hf : X.fn x = true ∨ X.env.scope.names.lookup x = some .local := by first | exact .inl rfl | exact .inr rfl | assumption) : XGw X W vs (.Name x pos) (gVar i) :=
  pg_weak (pg_name hN hi hx hf) fun v σ H Q ⟨ρ, h, l, x, p, rl, r, o⟩ => o.ok p ⟨rl.set hc r, wipe_set hv⟩
/-! tests within a block -/
abbrev XTs (X : Cx) (W : WQ) (ifs : List Expr) (m : M Bool) : Prop := PTs X ifs (tT (kc X W) W m)
def mYes : M Bool := fun _ h => .ok true h
theorem pts_weak {ifs : List Expr} {t t' : TT} (h : PTs X ifs t) (w : ∀ σ H Q, t' σ H Q → t σ H Q) : PTs X ifs t' := ⟨fun pins s σ H Q I q => h.run pins s σ H Q I (w _ _ _ q)⟩
theorem xts_nil : XTs X W [] mYes := pts_weak pts_nil fun σ H Q ⟨ρ, h, l, p, rl, o⟩ => o.ok p rfl
theorem xts_one {c : Expr} {m : M Bool} (h : XT X W c m) : XTs X W [c] m := pts_one h

/-! ### list comprehensions -/
def lcL (g : MG) (t : M Bool) (e : M PV) : List PV → Lv → Store → R (List PV)
  | [], _, h => .ok [] h
  | y :: ys, l, h => (g y l h).noX.bind fun l1 h1 => (t l1 h1).noX.bind fun b h2 =>
    if b = true then (e l1 h2).noX.bind fun z h3 => (lcL g t e ys l h3).bind fun zs h4 => .ok (z :: zs) h4
    else lcL g t e ys l h2
def wipeL (l : Lv) : List Nat → Lv
  | [] => l
  | v :: vs => (wipeL l vs).set v none
theorem RL.wipes {l : Lv} {σ : L2.St} (r : RL K ρ H l σ) : ∀ vs : List Nat, (∀ v ∈ vs, curNe K.cur v = true) → RL K ρ H (wipeL l vs) (L2.wipe σ vs)
  | [], _ => r
  | v :: vs, n => (RL.wipes r vs fun u hu => n u (List.mem_cons_of_mem _ hu)).wipe v (n v List.mem_cons_self)
def mLc (src : M (List PV)) (own : List Nat) (g : MG) (t : M Bool) (e : M PV) : M PV := fun l h => (src l h).bind fun ys h1 =>
  if ys.length ≤ sizeLine then (lcL g t e ys (wipeL l own) h1).bind fun zs h2 => .ok (.lst zs) h2 else .no
/-- the same into a new cell -/
def mLcN (src : M (List PV)) (own : List Nat) (g : MG) (t : M Bool) (e : M PV) : M PV := fun l h => (src l h).bind fun ys h1 =>
  if ys.length ≤ sizeLine then (lcL g t e ys (wipeL l own) h1).bind fun zs h2 => .ok (.ref h2.length) (h2 ++ [.lst zs]) else .no
abbrev WF (W : WQ) : WQ := ⟨fun _ _ _ _ => False, W.cur⟩
theorem Out.noX {α β : Type} {rel : Pl → Hp → α → β → Prop} {W W' : Value → Option Addr → Hp → Prop} {r : R α} {Q : β → Hp → Prop} (o : Out K ρ H rel W r.noX Q) : Out K ρ H rel W' r Q := by
  cases r with
  | ok a h => exact o
  | exc e h => exact o.elim
  | no => exact o.elim
/-- the heart: at the turn i, zs made so far, the rest as lcL tells -/
theorem lc_turns {U : WQ} {g : MG} {t : M Bool} {e : M PV} {J : It} {ys : List PV} {own : List Nat} {σ : L2.St} {l : Lv} {D : Addr} {Q : Hp → Prop} (p1 : Rep K ρ1 h H1) (y1 : Yields K ρ1 H1 J ys) (rl : RL K ρ1 H1 l σ) (hcn : ∀ v ∈ own, curNe K.cur v = true) (hD : H1 D = none) (hz : ys.length ≤ sizeLine) {zs' : List PV} {h' : Store}
    (er : lcL g t e ys (wipeL l own) h = .ok zs' h')
    (fin : ∀ ρ H vs, Ext ρ1 H1 ⟨ρ.c, ρ1.hid⟩ H → ρ.hid = D :: ρ1.hid → D ∉ ρ.c → Rep K ρ h' H → H D = some (.lst vs) → RVs K ρ H zs' vs → Q H) :
    ∃ W : Nat → Nat → Hp → Prop, (∃ m, W 0 m (upd H1 D (.lst []))) ∧ ∀ i m H, W i m H →
      (J.stop i H ∧ Q H) ∨ (J.go i H ∧ ∃ Nx : Hp → Prop, (∀ H', Nx H' → ∃ m', m' < m ∧ W (i + 1) m' H') ∧ ∀ x H', J.yld i H x H' → tGw K U own g x (wipe σ own) H' fun σ2 H2 => wipe σ2 own = wipe σ own ∧ tT K U t σ2 H2 fun b H3 =>
        if b = true then tM K U e σ2 H3 fun y H4 => ∃ acc, H4 D = some (.lst acc) ∧ acc.length < sizeLine ∧ Nx (upd H4 D (.lst (acc ++ [y]))) else Nx H3) := by
  refine ⟨fun i m H => m = ys.length - i ∧ i ≤ ys.length ∧ ∃ ρ h vs zs rs, Ext ρ1 H1 ⟨ρ.c, ρ1.hid⟩ H ∧ Kp ρ1 H1 ρ H ∧ ρ.hid = D :: ρ1.hid ∧ D ∉ ρ.c ∧ Rep K ρ h H ∧ H D = some (.lst vs) ∧ RVs K ρ H zs vs ∧ zs.length ≤ i ∧
    lcL g t e (ys.drop i) (wipeL l own) h = .ok rs h' ∧ zs ++ rs = zs', ⟨_, rfl, Nat.zero_le _, ρ1.hide D, h, [], [], zs', ?_⟩, ?_⟩
  · refine ⟨Ext.upd_new hD _, Kp.hide hD _, rfl, fun z => p1.fresh hD (.inl z), p1.hide hD _, upd_same, rfl, Nat.le_refl _, er, rfl⟩
  rintro i m H ⟨rfl, hi, ρ, h2, vs, zs, rs, x1, k1, hh, nD, p2, hv, rz, hlz, er2, hzs⟩
  by_cases hlt : i < ys.length
  · rw [List.drop_eq_getElem_cons hlt] at er2
    refine .inr ⟨y1.go i ρ h2 H k1 p2 hlt, fun H => ∃ ρ h vs zs rs, Ext ρ1 H1 ⟨ρ.c, ρ1.hid⟩ H ∧ Kp ρ1 H1 ρ H ∧ ρ.hid = D :: ρ1.hid ∧ D ∉ ρ.c ∧ Rep K ρ h H ∧ H D = some (.lst vs) ∧ RVs K ρ H zs vs ∧ zs.length ≤ i + 1 ∧
      lcL g t e (ys.drop (i + 1)) (wipeL l own) h = .ok rs h' ∧ zs ++ rs = zs', fun H' z => ⟨ys.length - (i + 1), by omega, rfl, hlt, z⟩, fun x H3 hy => ?_⟩
    obtain ⟨e3, p3, r3⟩ := y1.yld i ρ h2 H ys[i] x H3 k1 p2 (by simp [hlt]) hy
    -- what is kept when the state goes on by an Ext
    have onE : ∀ {ρa ρb : Pl} {Ha Hb : Hp}, Ext ρ1 H1 ⟨ρa.c, ρ1.hid⟩ Ha → Kp ρ1 H1 ρa Ha → ρa.hid = D :: ρ1.hid → D ∉ ρa.c → Ha D = some (.lst vs) → RVs K ρa Ha zs vs → Ext ρa Ha ρb Hb →
        Ext ρ1 H1 ⟨ρb.c, ρ1.hid⟩ Hb ∧ Kp ρ1 H1 ρb Hb ∧ ρb.hid = D :: ρ1.hid ∧ D ∉ ρb.c ∧ Hb D = some (.lst vs) ∧ RVs K ρb Hb zs vs := by
      intro ρa ρb Ha Hb a1 a2 a3 a4 a5 a6 b
      obtain ⟨m1, q1, f1⟩ := b.pre
      refine ⟨a1.trans ⟨⟨m1, q1, fun p hp => ⟨fun z => (f1 p hp).1 (z.elim .inl fun z => .inr (by rw [a3]; exact List.mem_cons_of_mem _ z)), (f1 p hp).2⟩⟩, rfl, fun p o hp st e => b.old p o hp (st.imp (fun z => by rw [a3]; exact List.mem_cons_of_mem _ z) id) e, b.lok⟩, a2.trans b.kp, b.hid.trans a3, fun z => ?_, b.old _ _ a4 (.inl (by rw [a3]; exact List.mem_cons_self)) a5, RVs.ext b _ _ a6⟩
      rw [q1] at z
      rcases List.mem_append.mp z with z | z
      · exact a4 z
      · exact (f1 D z).1 (.inr (by rw [a3]; exact List.mem_cons_self))
    obtain ⟨x3, k3, hh3, nD3, hv3, rz3⟩ := onE x1 k1 hh nD hv rz e3
    refine ⟨ρ, h2, wipeL l own, ys[i], p3, ((rl.kp k3).wipes own hcn), r3, ?_⟩
    have er3 : (g ys[i] (wipeL l own) h2).noX.bind (fun l1 h1 => (t l1 h1).noX.bind fun b h2 =>
      if b = true then (e l1 h2).noX.bind fun z h3 => (lcL g t e (ys.drop (i + 1)) (wipeL l own) h3).bind fun zs h4 => .ok (z :: zs) h4
      else lcL g t e (ys.drop (i + 1)) (wipeL l own) h2) = .ok rs h' := er2
    cases q4 : g ys[i] (wipeL l own) h2 with
    | no => rw [q4] at er3; cases er3
    | exc _ _ => rw [q4] at er3; cases er3
    | ok l4 h4 =>
      rw [q4] at er3
      rintro ρ4 H4 σ4 e4 p4 ⟨rl4, w4⟩
      obtain ⟨x4, k4, hh4, nD4, hv4, rz4⟩ := onE x3 k3 hh3 nD3 hv3 rz3 e4
      have w4' : wipe σ4 own = wipe σ own := by
        rw [w4]
        clear er3 er2 w4
        have : ∀ vs ws : List Nat, (∀ v ∈ vs, v ∈ ws) → wipe (wipe σ ws) vs = wipe σ ws := by
          intro vs ws hs
          induction vs with
          | nil => rfl
          | cons v vs ih =>
            show (wipe (wipe σ ws) vs).set v none = wipe σ ws
            rw [ih fun u hu => hs u (List.mem_cons_of_mem _ hu)]
            have hm := hs v List.mem_cons_self
            clear ih hs
            induction ws with
            | nil => simp at hm
            | cons w ws ih2 =>
              show ((wipe σ ws).set w none).set v none = (wipe σ ws).set w none
              by_cases hz : v = w
              · subst hz; rw [List.set_set]
              · rw [List.set_comm _ _ (Ne.symm hz), ih2 ((List.mem_cons.mp hm).elim (fun z => absurd z hz) id)]
        exact this own own fun _ h => h
      refine ⟨w4', ρ4, h4, l4, p4, rl4, ?_⟩
      have er4 : (t l4 h4).noX.bind (fun b h2 => if b = true then (e l4 h2).noX.bind fun z h3 => (lcL g t e (ys.drop (i + 1)) (wipeL l own) h3).bind fun zs h4 => .ok (z :: zs) h4
        else lcL g t e (ys.drop (i + 1)) (wipeL l own) h2) = .ok rs h' := er3
      cases q5 : t l4 h4 with
      | no => rw [q5] at er4; cases er4
      | exc _ _ => rw [q5] at er4; cases er4
      | ok b h5 =>
        rw [q5] at er4
        rintro ρ5 H5 b' e5 p5 rb
        cases rb
        obtain ⟨x5, k5, hh5, nD5, hv5, rz5⟩ := onE x4 k4 hh4 nD4 hv4 rz4 e5
        cases b with
        | false => exact ⟨ρ5, h5, vs, zs, rs, x5, k5, hh5, nD5, p5, hv5, rz5, Nat.le_succ_of_le hlz, er4, hzs⟩
        | true =>
          refine ⟨ρ5, h5, l4, p5, rl4.ext e5, ?_⟩
          have er5 : (e l4 h5).noX.bind (fun z h3 => (lcL g t e (ys.drop (i + 1)) (wipeL l own) h3).bind fun zs h4 => .ok (z :: zs) h4) = .ok rs h' := er4
          cases q6 : e l4 h5 with
          | no => rw [q6] at er5; cases er5
          | exc _ _ => rw [q6] at er5; cases er5
          | ok z h6 =>
            rw [q6] at er5
            rintro ρ6 H6 zv e6 p6 rz'
            obtain ⟨x6, k6, hh6, nD6, hv6, rz6⟩ := onE x5 k5 hh5 nD5 hv5 rz5 e6
            have er6 : (lcL g t e (ys.drop (i + 1)) (wipeL l own) h6).bind (fun zs h4 => .ok (z :: zs) h4) = .ok rs h' := er5
            cases q7 : lcL g t e (ys.drop (i + 1)) (wipeL l own) h6 with
            | no => rw [q7] at er6; cases er6
            | exc _ _ => rw [q7] at er6; cases er6
            | ok rs7 h7 =>
              rw [q7] at er6
              have er7 : R.ok (z :: rs7) h7 = R.ok rs h' := er6
              injection er7 with er7 er8
              subst er7; subst er8
              have mD : D ∈ ρ6.hid := by rw [hh6]; exact List.mem_cons_self
              have kd : Kp ρ6 H6 ρ6 (upd H6 D (.lst (vs ++ [zv]))) := Kp.hid_upd mD _
              refine ⟨vs, hv6, by rw [← rz6.len]; omega, ρ6, h6, vs ++ [zv], zs ++ [z], rs7, ⟨x6.pre, x6.hid, fun q o hq st eq => ?_, fun q o hq eq => ?_⟩, k6.trans kd, hh6, nD6, p6.hid_upd mD nD6 _, upd_same, ?_, by rw [List.length_append, List.length_singleton]; omega, q7, by rw [← hzs]; simp⟩
              · rw [upd_ne (ne_of_none eq hD)]; exact x6.old q o hq st eq
              · rw [upd_ne (ne_of_none eq hD)]; exact x6.lok q o hq eq
              · exact (RVs.kp kd _ _ rz6).app (RVs.one (RV.kp kd _ _ rz'))
  · have e : i = ys.length := by omega
    subst e
    rw [List.drop_length] at er2
    have er3 : R.ok ([] : List PV) h2 = R.ok rs h' := er2
    injection er3 with er3 er4
    subst er3; subst er4
    rw [List.append_nil] at hzs
    subst hzs
    exact .inl ⟨y1.stop _ ρ h2 H k1 p2 (Nat.le_refl _), fin ρ H vs x1 hh nD p2 hv rz⟩

theorem lc_out {U : WQ} {g : MG} {t : M Bool} {e : M PV} {src : M (List PV)} {own : List Nat} {σ : L2.St} {Q : VK} {mk : List PV → Store → R PV} (hcn : ∀ v ∈ own, curNe K.cur v = true)
    (hmk : ∀ ρ ρ1 H H1 (D : Addr) zs h vs, Ext ρ1 H1 ⟨ρ.c, ρ1.hid⟩ H → ρ.hid = D :: ρ1.hid → D ∉ ρ.c → Rep K ρ h H → H1 D = none → ¬ ρ1.has D → H D = some (.lst vs) → RVs K ρ H zs vs → Out K ρ1 H1 (RV K) (fun c d H' => W c d σ H') (mk zs h) Q → Q (.ref D) H)
    (q : tM K W (fun l h => (src l h).bind fun ys h1 => if ys.length ≤ sizeLine then (lcL g t e ys (wipeL l own) h1).bind mk else .no) σ H Q) : tLc (tI K W src) (tGw K U own g) (tT K U t) (tM K U e) own σ H Q := by
  obtain ⟨ρ, h, l, p, rl, o⟩ := q
  refine ⟨ρ, h, l, p, rl, Out.mono (Out.bind o) fun J H1 ⟨ys, h1, ρ1, e1, p1, y1, o1⟩ => ?_⟩
  intro D hD
  obtain ⟨hz, o1⟩ := out_if o1
  cases q : lcL g t e ys (wipeL l own) h1 with
  | no => rw [q] at o1; exact o1.elim
  | exc ex hx =>
    -- lcL raises nothing
    exfalso
    have nx : ∀ (ys : List PV) (l : Lv) (h : Store) ex hx, lcL g t e ys l h ≠ .exc ex hx := by
      intro ys
      induction ys with
      | nil => intro l h ex hx z; cases z
      | cons y ys ih =>
        intro l h ex hx z
        have z : (g y l h).noX.bind (fun l1 h1 => (t l1 h1).noX.bind fun b h2 =>
          if b = true then (e l1 h2).noX.bind fun z h3 => (lcL g t e ys l h3).bind fun zs h4 => .ok (z :: zs) h4
          else lcL g t e ys l h2) = .exc ex hx := z
        cases q4 : g y l h with
        | no => rw [q4] at z; cases z
        | exc _ _ => rw [q4] at z; cases z
        | ok l4 h4 =>
          rw [q4] at z
          have z : (t l4 h4).noX.bind (fun b h2 => if b = true then (e l4 h2).noX.bind fun z h3 => (lcL g t e ys l h3).bind fun zs h4 => .ok (z :: zs) h4
            else lcL g t e ys l h2) = .exc ex hx := z
          cases q5 : t l4 h4 with
          | no => rw [q5] at z; cases z
          | exc _ _ => rw [q5] at z; cases z
          | ok b h5 =>
            rw [q5] at z
            cases b with
            | false => exact ih _ _ _ _ z
            | true =>
              have z : (e l4 h5).noX.bind (fun z h3 => (lcL g t e ys l h3).bind fun zs h4 => .ok (z :: zs) h4) = .exc ex hx := z
              cases q6 : e l4 h5 with
              | no => rw [q6] at z; cases z
              | exc _ _ => rw [q6] at z; cases z
              | ok u h6 =>
                rw [q6] at z
                have z : (lcL g t e ys l h6).bind (fun zs h4 => .ok (u :: zs) h4) = .exc ex hx := z
                cases q7 : lcL g t e ys l h6 with
                | no => rw [q7] at z; cases z
                | exc a b => exact ih _ _ _ _ q7
                | ok _ _ => rw [q7] at z; cases z
    exact nx _ _ _ _ _ q
  | ok zs' h' =>
    rw [q] at o1
    have na := p1.fresh hD
    exact lc_turns (Q := fun H => Q (.ref D) H) p1 y1 (rl.ext e1) hcn hD hz q fun ρ H vs x hh nD p hv rz => hmk ρ ρ1 H H1 D zs' h' vs x hh nD p hD na hv rz o1
theorem lc_mk_lst : ∀ ρ ρ1 H H1 (D : Addr) zs h vs {σ : L2.St} {Q : VK}, Ext ρ1 H1 ⟨ρ.c, ρ1.hid⟩ H → ρ.hid = D :: ρ1.hid → D ∉ ρ.c → Rep K ρ h H → H1 D = none → ¬ ρ1.has D → H D = some (.lst vs) → RVs K ρ H zs vs → Out K ρ1 H1 (RV K) (fun c d H' => W c d σ H') (.ok (.lst zs) h) Q → Q (.ref D) H := by
  intro ρ ρ1 H H1 D zs h vs σ Q x hh nD p hD na hv rz o
  obtain ⟨c, hid⟩ := ρ
  cases hh
  exact o ⟨c, ρ1.hid⟩ H (.ref D) x p.out ⟨D, vs, rfl, ⟨fun z => z.elim nD fun z => na (.inr z), hv⟩, RVs.kp Kp.out _ _ rz⟩
theorem lc_mk_cell : ∀ ρ ρ1 H H1 (D : Addr) zs h vs {σ : L2.St} {Q : VK}, Ext ρ1 H1 ⟨ρ.c, ρ1.hid⟩ H → ρ.hid = D :: ρ1.hid → D ∉ ρ.c → Rep K ρ h H → H1 D = none → ¬ ρ1.has D → H D = some (.lst vs) → RVs K ρ H zs vs → Out K ρ1 H1 (RV K) (fun c d H' => W c d σ H') (.ok (.ref h.length) (h ++ [.lst zs])) Q → Q (.ref D) H := by
  intro ρ ρ1 H H1 D zs h vs σ Q x hh nD p hD na hv rz o
  obtain ⟨c, hid⟩ := ρ
  cases hh
  -- D becomes a cell
  have k : Kp ⟨c, D :: ρ1.hid⟩ H ⟨c ++ [D], ρ1.hid⟩ H := ⟨fun i q e => by
      show (c ++ [D])[i]? = some q
      rw [List.getElem?_append_left (List.getElem?_eq_some_iff.mp e).1]; exact e, fun q o hq e => ⟨fun z => hq (z.elim (fun z => (List.mem_append.mp z).elim .inl fun z => .inr (by rw [List.mem_singleton.mp z]; exact List.mem_cons_self)) fun z => .inr (List.mem_cons_of_mem _ z)), .inl e⟩⟩
  have p' : Rep K ⟨c ++ [D], ρ1.hid⟩ (h ++ [.lst zs]) H := p.join rfl k nD (fun _ _ => rfl) (fun q hq => p.hid q (List.mem_cons_of_mem _ hq))
    (fun q hq z => (List.mem_append.mp hq).elim (fun w => p.dj q w (List.mem_cons_of_mem _ z)) fun w => na (.inr (by rw [← List.mem_singleton.mp w]; exact z))) ⟨vs, hv, RVs.kp k _ _ rz⟩
  refine o ⟨c ++ [D], ρ1.hid⟩ H (.ref D) ?_ p' ⟨D, ?_, rfl⟩
  · obtain ⟨m1, q1, f1⟩ := x.pre
    have q1 : c = ρ1.c ++ m1 := q1
    refine ⟨⟨m1 ++ [D], by rw [q1, List.append_assoc], fun q hq => ?_⟩, rfl, x.old, x.lok⟩
    rcases List.mem_append.mp hq with z | z
    · exact f1 q z
    · rw [List.mem_singleton.mp z]; exact ⟨na, hD⟩
  · have hl : h.length = c.length := p.len
    show (c ++ [D])[h.length]? = some D
    rw [hl, List.getElem?_append_right (Nat.le_refl _)]
    simp
variable {elt tg iter : Expr} {ifs : List Expr} {scope : Scope} {own : List (Str × Nat)} {pos : Pos} {src : M (List PV)} {g : MG} {t : M Bool} {e : M PV}
theorem xe_lc (hc : X.calm = true) (hN : X.N.Nodup) (hi : XI X W tg iter src) (ok : BlkOk X.N X.env.scope scope own)
    (hg : ∀ (s : Shared) (H : Hp) (C : Addr) (cl : List (Str × Addr)) (fp : List Addr), XGw (X.blk s H scope (compEnvC scope cl C X.env) fp) (WF W) (own.map (·.2)) tg g)
    (ht : ∀ (s : Shared) (H : Hp) (C : Addr) (cl : List (Str × Addr)) (fp : List Addr), XTs (X.blk s H scope (compEnvC scope cl C X.env) fp) (WF W) ifs t)
    (he : ∀ (s : Shared) (H : Hp) (C : Addr) (cl : List (Str × Addr)) (fp : List Addr), XE (X.blk s H scope (compEnvC scope cl C X.env) fp) (WF W) elt e) (hs : ∀ x, foldedSetIterable iter X.env x = pure x := by intro _; rfl) (hcn : ∀ v ∈ own.map (·.2), curNe W.cur v = true := by first | exact fun _ _ => rfl | simp [curNe]) :
    XE X W (.ListComp elt [⟨tg, iter, ifs, 0⟩] scope pos) (mLc src (own.map (·.2)) g t e) :=
  pe_weak (pe_lc hc hN hi ok hg ht he hs) fun σ H Q q => lc_out hcn (fun ρ ρ1 H H1 D zs h vs => lc_mk_lst ρ ρ1 H H1 D zs h vs) q
theorem xe_lcN (hc : X.calm = true) (hN : X.N.Nodup) (hi : XI X W tg iter src) (ok : BlkOk X.N X.env.scope scope own)
    (hg : ∀ (s : Shared) (H : Hp) (C : Addr) (cl : List (Str × Addr)) (fp : List Addr), XGw (X.blk s H scope (compEnvC scope cl C X.env) fp) (WF W) (own.map (·.2)) tg g)
    (ht : ∀ (s : Shared) (H : Hp) (C : Addr) (cl : List (Str × Addr)) (fp : List Addr), XTs (X.blk s H scope (compEnvC scope cl C X.env) fp) (WF W) ifs t)
    (he : ∀ (s : Shared) (H : Hp) (C : Addr) (cl : List (Str × Addr)) (fp : List Addr), XE (X.blk s H scope (compEnvC scope cl C X.env) fp) (WF W) elt e) (hs : ∀ x, foldedSetIterable iter X.env x = pure x := by intro _; rfl) (hcn : ∀ v ∈ own.map (·.2), curNe W.cur v = true := by first | exact fun _ _ => rfl | simp [curNe]) :
    XE X W (.ListComp elt [⟨tg, iter, ifs, 0⟩] scope pos) (mLcN src (own.map (·.2)) g t e) :=
  pe_weak (pe_lc hc hN hi ok hg ht he hs) fun σ H Q q => lc_out hcn (fun ρ ρ1 H H1 D zs h vs => lc_mk_cell ρ ρ1 H H1 D zs h vs) q
/-- name = [..] on one line, the name a local -/
theorem xs_setLc {i : Nat} {y : Str} {py spos : Pos} (hc : X.calm = true) (hN : X.N.Nodup) (hi : XI X W tg iter src) (ok : BlkOk X.N X.env.scope scope own)
    (hg : ∀ (s : Shared) (H : Hp) (C : Addr) (cl : List (Str × Addr)) (fp : List Addr), XGw (X.blk s H scope (compEnvC scope cl C X.env) fp) (WF W) (own.map (·.2)) tg g)
    (ht : ∀ (s : Shared) (H : Hp) (C : Addr) (cl : List (Str × Addr)) (fp : List Addr), XTs (X.blk s H scope (compEnvC scope cl C X.env) fp) (WF W) ifs t)
    (he : ∀ (s : Shared) (H : Hp) (C : Addr) (cl : List (Str × Addr)) (fp : List Addr), XE (X.blk s H scope (compEnvC scope cl C X.env) fp) (WF W) elt e)
    (hy : X.N[i]? = some y := by rfl) (hyl : X.env.scope.names.lookup y = some .local := by rfl)
    (hsw : swapsWith (.ListComp elt [⟨tg, iter, ifs, 0⟩] scope pos) (some (.Name y py)) spos.line X.env = pure true := by exact sw_true rfl rfl rfl (by decide +kernel)) (hcy : curNe W.cur i = true := by rfl) (hs : ∀ x, foldedSetIterable iter X.env x = pure x := by intro _; rfl) (hcn : ∀ v ∈ own.map (·.2), curNe W.cur v = true := by first | exact fun _ _ => rfl | simp [curNe]) :
    XS X W (.Assign [.Name y py] (.ListComp elt [⟨tg, iter, ifs, 0⟩] scope pos) spos) (mSet i (mLc src (own.map (·.2)) g t e)) :=
  ps_weak (ps_setLc hc hN hy hyl hsw hi ok hg ht he hs) fun D σ H q => by
    show tLc _ _ _ _ _ σ H fun x H1 => gName i x σ H1 D.nx
    exact lc_out (U := WF W) hcn (fun ρ ρ1 H H1 D zs h vs => lc_mk_lst ρ ρ1 H H1 D zs h vs) (tS_set hcy D σ H q)
theorem xs_setLcN {i : Nat} {y : Str} {py spos : Pos} (hc : X.calm = true) (hN : X.N.Nodup) (hi : XI X W tg iter src) (ok : BlkOk X.N X.env.scope scope own)
    (hg : ∀ (s : Shared) (H : Hp) (C : Addr) (cl : List (Str × Addr)) (fp : List Addr), XGw (X.blk s H scope (compEnvC scope cl C X.env) fp) (WF W) (own.map (·.2)) tg g)
    (ht : ∀ (s : Shared) (H : Hp) (C : Addr) (cl : List (Str × Addr)) (fp : List Addr), XTs (X.blk s H scope (compEnvC scope cl C X.env) fp) (WF W) ifs t)
    (he : ∀ (s : Shared) (H : Hp) (C : Addr) (cl : List (Str × Addr)) (fp : List Addr), XE (X.blk s H scope (compEnvC scope cl C X.env) fp) (WF W) elt e)
    (hy : X.N[i]? = some y := by rfl) (hyl : X.env.scope.names.lookup y = some .local := by rfl)
    (hsw : swapsWith (.ListComp elt [⟨tg, iter, ifs, 0⟩] scope pos) (some (.Name y py)) spos.line X.env = pure true := by exact sw_true rfl rfl rfl (by decide +kernel)) (hcy : curNe W.cur i = true := by rfl) (hs : ∀ x, foldedSetIterable iter X.env x = pure x := by intro _; rfl) (hcn : ∀ v ∈ own.map (·.2), curNe W.cur v = true := by first | exact fun _ _ => rfl | simp [curNe]) :
    XS X W (.Assign [.Name y py] (.ListComp elt [⟨tg, iter, ifs, 0⟩] scope pos) spos) (mSet i (mLcN src (own.map (·.2)) g t e)) :=
  ps_weak (ps_setLc hc hN hy hyl hsw hi ok hg ht he hs) fun D σ H q => by
    show tLc _ _ _ _ _ σ H fun x H1 => gName i x σ H1 D.nx
    exact lc_out (U := WF W) hcn (fun ρ ρ1 H H1 D zs h vs => lc_mk_cell ρ ρ1 H H1 D zs h vs) (tS_set hcy D σ H q)
end
end Wg

namespace Wg
open PySem PySem.Spec PyProof.Rows L2
/-! ### promises of defs that run where no repr is under way -/
abbrev NoG (A : Around) : Prop := A.guards = some []
structure FnG (P : Program) (w : World) (K : PySem.W.Frag) (mg : Str → Option Value) (base : Heap) (CX : CXT) (k : Nat) (f : Addr) (fd : FuncData) (ps : List Str) (sp : Sp) : Prop where
  len : ∀ xs H Q E, sp xs H Q E → xs.length = ps.length
  run : ∀ (A : Around) (out : List Env) (s : Shared) (H : Hp) (ar : Args) (us : List Value) (xs : List V) (Q : VK) (E : XK), Room k A → NoG A → Env0 P w K mg base A out s H → BindsTo s fd ar (ps.zip us) → Vals xs us → sp xs H Q E →
    codeAny (model P w) A (.call (.ref f) ar) (CR CX out P w H s Q E) s
section
variable {P : Program} {w : World} {K : PySem.W.Frag} {mg : Str → Option Value} {base : Heap} {k : Nat}
/-- by its body -/
theorem fnG_of {CX : CXT} {f : Addr} {nm qual : Str} {par : Arguments} {body : List Stmt} {sc : Scope} {dV kV doc pm cdv ct oc : Value} {an od : Option Addr} {osl : Array (Option Value)} {N ps : List Str} {sp : Sp}
    (lk : K.lookup f = some ⟨oc, od, .func (PySem.W.fnOf nm qual par body sc dV kV doc pm an cdv ct), osl⟩) (cI : PySem.W.codeIn K cdv qual = true) (S : FnScope N ps sc) (len : ∀ xs H Q E, sp xs H Q E → xs.length = ps.length)
    (go : ∀ (A : Around) (out : List Env) (s : Shared) (H : Hp) (xs : List V) (Q : VK) (E : XK), Room k (A.deeper (envOfC qual sc s.heap.objs.size f cdv)) → NoG A → sp xs H Q E →
      ∃ t, PSs (cxOf CX P w K mg base N qual sc f cdv A out s H E) body t ∧ t { nx := fun _ H' => Q .non H', rt := Q } (start N xs) H) :
    FnG P w K mg base CX (k + 1) f (PySem.W.fnOf nm qual par body sc dV kV doc pm an cdv ct) ps sp where
  len := len
  run := fun A out s H ar us xs Q E room ng e0 bi rv q0 => by
    have kin : K.In s.heap := e0.mod.kin.keeps fun b o z => (e0.bs b o z).1
    have nl : s.heap.NoLimit := e0.mod.nolimit.keeps fun b o z => (e0.bs b o z).1
    have kd : ∀ y ∈ ps.zip us, sc.names.lookup y.1 = some .local ∨ (sc.names.lookup y.1 = some .cell ∧ ((cellsFrom (s.heap.objs.size + 1) sc.names []).lookup y.1).isSome = true) := fun ⟨a, b⟩ hy =>
      (S.par a (List.of_mem_zip hy).1).imp id fun z => ⟨z, PySem.W.cellsFrom_some _ _ _ (.inl z)⟩
    refine codeAny_call_function room.depth (kin _ _ lk) rfl S.co S.gen rfl (PySem.W.codeRec_of kin cI) (bi _ _ _ _ (wpAny_newFunctionEnv_cells S.kind kd fun env ee s1 y => ?_))
    subst ee
    obtain ⟨t, d, q⟩ := go A out s H xs Q E (room.deeper _) ng q0
    refine ⟨nl.keeps y.toInCall.keep, codeAny_func (wpAny_mono (d.run [] s1 (start N xs) H _ (inv_start S room.hd e0 (len _ _ _ _ q0) rv y) q) (fun fl s' z => ?_) fun _ _ z => z)⟩
    cases fl with
    | ret u => obtain ⟨v, σ', H', J, r', q'⟩ := z; exact ⟨v, H', J.os, J.bare, J.base, J.hok, r', q'⟩
    | next => obtain ⟨σ', H', J, q'⟩ := z; exact ⟨V.non, H', J.os, J.bare, J.base, J.hok, rfl, q'⟩
    | brk => exact z.elim fun _ z => z.elim fun _ z => z.elim fun _ z => z.elim
    | cont => exact z.elim fun _ z => z.elim fun _ z => z.elim fun _ z => z.elim
theorem okG {x qual : Str} {st : Stmt} {f : Addr} {fd : FuncData} {N ps : List Str} {sp : Sp} (F : Fun K x qual st f fd) (S : FnScope N ps (defScope st)) (len : ∀ xs H Q E, sp xs H Q E → xs.length = ps.length)
    (go : ∀ (cdv : Value) (A : Around) (out : List Env) (s : Shared) (H : Hp) (xs : List V) (Q : VK) (E : XK), Room k (A.deeper (envOfC qual (defScope st) s.heap.objs.size f cdv)) → NoG A → sp xs H Q E →
      ∃ t, PSs (cxOf (L2.CX P w) P w K mg base N qual (defScope st) f cdv A out s H E) (defBody st) t ∧ t { nx := fun _ H' => Q .non H', rt := Q } (start N xs) H) : FnG P w K mg base (L2.CX P w) (k + 1) f fd ps sp := by
  obtain ⟨oc, od, kV, doc, pm, an, cdv, ct, osl, rfl, lk, cI⟩ := F.ex
  exact fnG_of lk cI S len fun A out s H xs Q E r g q => go cdv A out s H xs Q E r g q
end
section
variable {X : Cx} {CX : CXT} {k : Nat} {f : Addr} {fd : FuncData} {ps : List Str} {sp : Sp} {E : L2.St → XK} {x : Str} {p pos : Pos} {e : Expr} {es : List Expr} {t : TA}
/-- a call -/
theorem pe_callG (F : FnG X.prog X.w X.K X.mg X.base CX k f fd ps sp) (room : Room k X.A) (ng : NoG X.A) (gx : Gl X x) (mx : X.mg x = some (.ref f)) (kp : PySem.W.keepIn X.K (.ref f) = true) (bi : Binds X.K fd ps []) (pa : ∀ σ, PassesAt CX X σ (E σ)) (ha : PA X (e :: es) t)
    (hdb : (x == ("__debug__" : Str)) = false := by decide) (st : starEach (e :: es) X.env = (false, eval e X.env) :: starEach es X.env := by rfl) (pl : (backTo pos (starEach es X.env)).any (·.1) = false := by rfl) : PE X (.Call (.Name x p) (e :: es) [] pos) (tCallS sp E t) := ⟨fun pins s σ H Q I q => by
  refine wpAny_Call_Name_kw (ld_glob I gx mx ?_ hdb)
  refine PySem.W.callWith_K (h₀ := X.base) I.ok.mod.kin kp (thn (ha.run pos pins s σ H _ I q) fun us s1 ⟨xs, H1, I1, rv, q1⟩ => ⟨I1.kIn, ?_⟩) st pl
  have b := bi s1 us I1.kIn (by rw [List.append_nil, ← rv.length]; exact F.len _ _ _ _ q1)
  rw [List.append_nil] at b
  refine wpAny_call (codeAny_mono (F.run X.A X.stack s1 H1 ⟨us, []⟩ us xs Q (E σ) room ng I1.env0 b rv q1) fun r s' z => ?_)
  cases r with
  | error er => exact pa σ pins H1 s1 er s' I1 z
  | ok fl => cases fl <;> first | exact I1.after z | exact False.elim z⟩
end
/-! ### the end: a law's call -/
theorem law_callG {P : Program} {w : World} {K : PySem.W.Frag} {mg mb : Str → Option Value} {CX : CXT} {k : Nat} {fa a : Addr} {fd : FuncData} {x : Str} {sp : Sp} {s1 : Shared} {us : List Value} {ns : List Int} (kin : K.In s1.heap) (nsg : s1.heap.Ns mainGlobals mg)
    (nsb : s1.heap.Ns builtinsNs mb) (hbb : ∀ x : Str, x ≠ "__name__" → mb x = bootBuiltins x) (nl : s1.heap.NoLimit) (gn : s1.gens = #[]) (ga : s1.heap.get? a = some { cls := .type "list", data := .seq us.toArray }) (hi : IntsAre us ns) (hl : ns.length ≤ sizeLine) (room : Room k callerA)
    (F : ∀ base : Heap, K.In base → base.Ns mainGlobals mg → FnG P w K mg base CX k fa fd [x] sp) (bi : ∀ (s : Shared) (u : Value), BindsTo s fd ⟨[u], []⟩ [(x, u)]) (hsp : ∀ H : Hp, Only H → SqL K H a (ns.map V.int) → sp [.ref a] H (fun v _ => v = .bl true) fun _ _ _ => False)
    (no : ∀ H e s', CX [] H s1 (fun _ _ _ => False) e s' → False) : codeAny (model P w) callerA (.call (.ref fa) ⟨[.ref a], []⟩) (fun r s' => r = .ok (.ret (.bool true)) ∧ OldK s1.heap s'.heap ∧ s'.os = s1.os ∧ AllBare s'.gens) s1 := by
  have rv := vals_ints hi
  have lu := hi.length
  have mid : ∀ H : Hp, Only H → SqL K H a (ns.map V.int) → HOk P w H s1.heap → (∀ b, H b ≠ none → b = a) → (H a ≠ none → K.lookup a = none) → codeAny (model P w) callerA (.call (.ref fa) ⟨[.ref a], []⟩) (fun r s' => r = .ok (.ret (.bool true)) ∧ OldK s1.heap s'.heap ∧ s'.os = s1.os ∧ AllBare s'.gens) s1 := by
    intro H on sq hok oa ka
    have un : ∀ {b : Addr} {o : Obj}, s1.heap.get? b = some o → H b = none → (hidT s1.heap H).get? b = some o := fun e n => hidT_get e n
    have nd : ∀ {b : Addr} {o : Obj} {es : Array DictEntry} {ep : Nat}, s1.heap.get? b = some o → o.data = .dict es ep → H b = none := fun {b o es ep} e dd => by
      by_cases z : H b = none
      · exact z
      · obtain rfl := oa b z
        rw [ga] at e
        cases e
        cases (show Data.seq us.toArray _ = Data.dict es ep from dd)
    have nn : ∀ {b : Addr} {m : Str → Option Value}, s1.heap.Ns b m → (hidT s1.heap H).Ns b m := fun {b m} ⟨o, es, ep, e, dd, r⟩ => ⟨o, es, ep, un e (nd e dd), dd, r⟩
    have kb : K.In (hidT s1.heap H) := fun b o e => un (kin b o e) (by
      by_cases z : H b = none
      · exact z
      · obtain rfl := oa b z
        rw [ka z] at e
        cases e)
    have md : Mod K mg (hidT s1.heap H) := ⟨kb, nn nsg, ⟨mb, nn nsb, hbb⟩, nl.elim fun mc z => ⟨mc, nn z.1, z.2⟩⟩
    have e0 : Env0 P w K mg (hidT s1.heap H) callerA [] s1 H := { frames := rfl, mod := md, bs := fun b o e => of_hidT e, bsz := Nat.le_of_eq (hidT_size _ _), funs := trivial, frf := fun b z => absurd (show b ∈ ([] : List Addr) from z) List.not_mem_nil, hok := hok, bare := .of_eq gn }
    refine codeAny_mono ((F _ kb (nn nsg)).run callerA [] s1 H ⟨[.ref a], []⟩ [.ref a] [.ref a] _ _ room rfl e0 (bi s1 (.ref a)) (.cons rfl .nil) (hsp H on sq)) fun r s' z => ?_
    cases r with
    | error e => exact (no H e s' z).elim
    | ok fl =>
      cases fl <;> first | exact False.elim z | skip
      rename_i u
      obtain ⟨v, H', so, br, ch, hok', r', q⟩ := z
      obtain rfl : v = .bl true := q
      obtain rfl : u = Value.bool true := r'
      refine ⟨rfl, OldK.of_keep fun b o e => ?_, so, br⟩
      rcases on b with y | ⟨ob, zs, y⟩
      · exact ch.keep b o e y (fun y => absurd (show b ∈ ([] : List Addr) from y) List.not_mem_nil) List.not_mem_nil
      · obtain ⟨g1, _⟩ := hok b _ y
        obtain ⟨g2, _⟩ := hok' b _ (ch.frzs b ob _ y)
        rw [e] at g1
        cases g1
        exact g2
  by_cases lk : K.lookup a = none
  · refine mid (fun b => if b = a then some (.frz { cls := .type "list", data := .seq us.toArray } (.lst (ns.map V.int))) else none) (fun b => ?_) (.inl (.inr ⟨_, if_pos rfl⟩)) (fun b u z => ?_) (fun b z => ?_) fun _ => lk
    · by_cases c : b = a
      · exact .inr ⟨_, _, if_pos c⟩
      · exact .inl (if_neg c)
    · by_cases c : b = a
      · have z := (if_pos c).symm.trans z
        cases z
        subst c
        exact ⟨ga, by rw [List.length_map]; exact hl, us, _, rv, ga⟩
      · have z := (if_neg c).symm.trans z
        cases z
    · by_cases c : b = a
      · exact c
      · exact absurd (if_neg c) z
  · obtain ⟨o, lk⟩ := Option.ne_none_iff_exists'.mp lk
    have e := kin a o lk
    rw [ga] at e
    cases e
    exact mid (fun _ => none) (fun _ => .inl rfl) (.inr ⟨_, us.toArray, _, lk, rfl, rfl, rfl, by rw [List.size_toArray, lu]; exact hl, by simpa using rv⟩) (fun b u z => by cases (show (none : Option HO) = some u from z)) (fun b z => absurd rfl z) fun z => absurd rfl z
theorem walk_G {l : PySem.W.OpenLaw} {n k : Nat} {q : Program} {loose : List Str} {XP : (Str → Option Value) → Heap → Prop} {YP : World → Heap → Prop} {d : DefRec} {K : Params → PySem.W.Frag} {CX : World → CXT} {sp : World → Sp} {x : Str} (hn : l.most = some n) (hn2 : n ≤ sizeLine) (hdf : d.params.defaults = [])
    (room : Room k callerA) (hY : ∀ (w : World) (h : Heap), YP w h → (K w.params).In h)
    (F : ∀ (w : World) (mg : Str → Option Value) (fa : Addr) (h : Heap), (K w.params).In h → h.Ns mainGlobals mg → mg d.name = some (.ref fa) → ∃ fd : FuncData, (∀ (s : Shared) (u : Value), BindsTo s fd ⟨[u], []⟩ [(x, u)]) ∧ ∀ base : Heap, (K w.params).In base → base.Ns mainGlobals mg → FnG l.prog w (K w.params) mg base (CX w) k fa fd [x] (sp w))
    (hsp : ∀ (w : World) (H : Hp) (a : Addr) (ns : List Int), ns.length ≤ n → Only H → SqL (K w.params) H a (ns.map V.int) → sp w [.ref a] H (fun v _ => v = .bl true) fun _ _ _ => False)
    (no : ∀ (w : World) (H : Hp) (s : Shared) (e : Value) (s' : Shared), CX w [] H s (fun _ _ _ => False) e s' → False) : PySem.W.WalkO q loose XP YP l.row.toRowW d [] (fun f vs => PySem.call f vs) := by
  refine Att.attach_call hn hdf fun w s0 s1 mg mb fa o pm cd doc a us ns G Y _ _ _ hmg hobj hints hlen hg => ?_
  obtain ⟨fd, bi, ok⟩ := F w mg fa _ (hY w _ Y) G.T.g hmg
  exact law_callG (hY w _ Y) G.T.g G.T.b G.T.builtins G.T.nolimit hg hobj hints (Nat.le_trans hlen hn2) room ok bi (fun H hO hS => hsp w H a ns hlen hO hS) fun H e s' => no w H s1 e s'
end Wg

namespace Wg
open PySem PySem.Spec PyProof.Rows L2 SlX

/-! ### what a def has made is handed over as it stands, never to be changed again -/
mutual
/-- no place of the store but those below n is named -/
def below (n : Nat) : PV → Bool
  | .ref a => decide (a < n)
  | .tup xs => belows n xs
  | .lst xs => belows n xs
  | .scr xs => belows n xs
  | .dct kvs => belowd n kvs
  | .dcT kvs => belowd n kvs
  | .ins _ xs => belows n xs
  | .set xs => belows n xs
  | .dctO xs => belows n xs
  | _ => true
def belows (n : Nat) : List PV → Bool
  | [] => true
  | x :: xs => below n x && belows n xs
def belowd (n : Nat) : List (PV × PV) → Bool
  | [] => true
  | (_, x) :: xs => below n x && belowd n xs
end
def belowC (n : Nat) : Cell → Bool
  | .lst xs => belows n xs
  | .dct kvs => belowd n kvs
  | .dcT kvs => belowd n kvs
  | .ins _ j xs => decide (j < n) && xs.all fun o => match o with
    | some x => below n x
    | none => true
  | .own => true
def mapO {α β : Type} (f : α → Option β) : List α → Option (List β)
  | [] => some []
  | x :: xs => (f x).bind fun y => (mapO f xs).map (y :: ·)
/-- x as it stands, the places from n on read -/
def frz (h : Store) (n : Nat) : Nat → PV → Option PV
  | 0, _ => none
  | k + 1, x => if below n x = true then some x else match x with
    | .ref a => match h[a]? with
      | some (.lst xs) => (mapO (frz h n k) xs).map .lst
      | some (.dct kvs) => (mapO (fun kv => (frz h n k kv.2).map fun y => (kv.1, y)) kvs).map .dct
      | some (.dcT kvs) => (mapO (fun kv => (frz h n k kv.2).map fun y => (kv.1, y)) kvs).map .dcT
      | some (.ins c j xs) => if n ≤ j ∧ xs ≠ [] then (mapO (fun o => match o with
        | some x => frz h n k x
        | none => none) xs).map (.ins c) else none
      | _ => none
    | .tup xs => (mapO (frz h n k) xs).map .tup
    | .lst xs => (mapO (frz h n k) xs).map .lst
    | .dct kvs => (mapO (fun kv => (frz h n k kv.2).map fun y => (kv.1, y)) kvs).map .dct
    | .dcT kvs => (mapO (fun kv => (frz h n k kv.2).map fun y => (kv.1, y)) kvs).map .dcT
    | .ins c xs => (mapO (frz h n k) xs).map (.ins c)
    | _ => none
section
variable {K : KC} {ρ ρ' : Pl} {H : Hp} {h : Store} {n : Nat}
/-- fewer cells -/
structure Cut (n : Nat) (ρ ρ' : Pl) : Prop where
  look : ∀ (i : Nat) (p : Addr), i < n → ρ.c[i]? = some p → ρ'.c[i]? = some p
  has : ∀ p, ¬ ρ.has p → ¬ ρ'.has p
mutual
theorem RV.below (a : Cut n ρ ρ') : ∀ (x : PV) (v : V), below n x = true → RV K ρ H x v → RV K ρ' H x v
  | .non, _, _, h => h
  | .bl _, _, _, h => h
  | .int _, _, _, h => h
  | .str _, _, _, h => h
  | .ty _, _, _, h => h
  | .adr _, _, _, h => h
  | .cls _, _, _, h => h
  | .ref i, _, b, ⟨p, h, e⟩ => ⟨p, a.look _ _ (by simpa only [below, decide_eq_true_eq] using b) h, e⟩
  | .tup xs, _, b, ⟨p, vs, e, t, r⟩ => ⟨p, vs, e, ⟨a.has _ t.1, t.2⟩, RVs.below a xs vs (by simpa only [below] using b) r⟩
  | .lst xs, _, b, ⟨p, vs, e, t, r⟩ => ⟨p, vs, e, ⟨a.has _ t.1, t.2⟩, RVs.below a xs vs (by simpa only [below] using b) r⟩
  | .scr xs, _, b, ⟨p, vs, e, t, r⟩ => ⟨p, vs, e, t.imp (fun z => ⟨a.has _ z.1, z.2⟩) id, RVs.below a xs vs (by simpa only [below] using b) r⟩
  | .dct kvs, _, b, ⟨p, vs, e, t, r⟩ => ⟨p, vs, e, ⟨a.has _ t.1, t.2⟩, RVd.below a kvs vs (by simpa only [below] using b) r⟩
  | .dcT kvs, _, b, ⟨p, vs, e, t, r⟩ => ⟨p, vs, e, ⟨a.has _ t.1, t.2⟩, RVt.below a kvs vs (by simpa only [below] using b) r⟩
  | .ins _ xs, _, b, ⟨p, C, dx, vs, e, m, t, r⟩ => ⟨p, C, dx, vs, e, m, ⟨a.has _ t.1, a.has _ t.2.1, t.2.2⟩, RVs.below a xs vs (by simpa only [below] using b) r⟩
  | .set xs, _, b, ⟨p, vs, e, t, r⟩ => ⟨p, vs, e, ⟨a.has _ t.1, t.2⟩, RVs.below a xs vs (by simpa only [below] using b) r⟩
  | .dctO xs, _, b, ⟨p, o, vs, e, t, u, r⟩ => ⟨p, o, vs, e, ⟨a.has _ t.1, t.2⟩, u, RVs.below a xs vs (by simpa only [below] using b) r⟩
  | .exn _, _, _, ⟨p, C, d, φ, e, m, t, f, q⟩ => ⟨p, C, d, φ, e, m, ⟨a.has _ t.1, t.2⟩, f, q.imp id fun ⟨dd, us, e1, n, h⟩ => ⟨dd, us, e1, a.has _ n, h⟩⟩
theorem RVs.below (a : Cut n ρ ρ') : ∀ (xs : List PV) (vs : List V), belows n xs = true → RVs K ρ H xs vs → RVs K ρ' H xs vs
  | [], _, _, h => h
  | x :: xs, _, b, ⟨v, r, e, h1, h2⟩ => by
    simp only [belows, Bool.and_eq_true] at b
    exact ⟨v, r, e, RV.below a x v b.1 h1, RVs.below a xs r b.2 h2⟩
theorem RVd.below (a : Cut n ρ ρ') : ∀ (kvs : List (PV × PV)) (vs : List (Key × V)), belowd n kvs = true → RVd K ρ H kvs vs → RVd K ρ' H kvs vs
  | [], _, _, h => h
  | (k, x) :: xs, _, b, ⟨c, v, r, e, h0, h1, h2⟩ => by
    simp only [belowd, Bool.and_eq_true] at b
    exact ⟨c, v, r, e, h0, RV.below a x v b.1 h1, RVd.below a xs r b.2 h2⟩
theorem RVt.below (a : Cut n ρ ρ') : ∀ (kvs : List (PV × PV)) (vs : List (List Key × V)), belowd n kvs = true → RVt K ρ H kvs vs → RVt K ρ' H kvs vs
  | [], _, _, h => h
  | (k, x) :: xs, _, b, ⟨c, v, r, e, h0, h1, h2⟩ => by
    simp only [belowd, Bool.and_eq_true] at b
    exact ⟨c, v, r, e, h0, RV.below a x v b.1 h1, RVt.below a xs r b.2 h2⟩
end
abbrev Pl.cut (ρ : Pl) (n : Nat) : Pl := ⟨ρ.c.take n, ρ.hid⟩
theorem cut_of : Cut n ρ (ρ.cut n) := ⟨fun i p hi e => by
  show (ρ.c.take n)[i]? = some p
  rw [List.getElem?_take, if_pos hi]; exact e, fun p hp z => hp (z.imp List.mem_of_mem_take id)⟩
theorem RVs.mapO {f : PV → Option PV} (hf : ∀ x y v, f x = some y → RV K ρ H x v → RV K ρ' H y v) : ∀ {xs ys : List PV} {vs : List V}, mapO f xs = some ys → RVs K ρ H xs vs → RVs K ρ' H ys vs
  | [], _, _, e, r => by cases e; exact r
  | x :: xs, ys, _, e, ⟨v, r, e1, h1, h2⟩ => by
    simp only [Wg.mapO, Option.bind_eq_some_iff, Option.map_eq_some_iff] at e
    obtain ⟨y, e2, ys', e3, rfl⟩ := e
    exact ⟨v, r, e1, hf _ _ _ e2 h1, RVs.mapO hf e3 h2⟩
theorem RVd.mapO {f : PV → Option PV} (hf : ∀ x y v, f x = some y → RV K ρ H x v → RV K ρ' H y v) : ∀ {xs ys : List (PV × PV)} {vs : List (Key × V)}, mapO (fun kv => (f kv.2).map fun y => (kv.1, y)) xs = some ys → RVd K ρ H xs vs → RVd K ρ' H ys vs
  | [], _, _, e, r => by cases e; exact r
  | (k, x) :: xs, ys, _, e, ⟨c, v, r, e1, h0, h1, h2⟩ => by
    simp only [Wg.mapO, Option.bind_eq_some_iff, Option.map_eq_some_iff] at e
    obtain ⟨y, ⟨z, e2, rfl⟩, ys', e3, rfl⟩ := e
    exact ⟨c, v, r, e1, h0, hf _ _ _ e2 h1, RVd.mapO hf e3 h2⟩
theorem RVt.mapO {f : PV → Option PV} (hf : ∀ x y v, f x = some y → RV K ρ H x v → RV K ρ' H y v) : ∀ {xs ys : List (PV × PV)} {vs : List (List Key × V)}, mapO (fun kv => (f kv.2).map fun y => (kv.1, y)) xs = some ys → RVt K ρ H xs vs → RVt K ρ' H ys vs
  | [], _, _, e, r => by cases e; exact r
  | (k, x) :: xs, ys, _, e, ⟨c, v, r, e1, h0, h1, h2⟩ => by
    simp only [Wg.mapO, Option.bind_eq_some_iff, Option.map_eq_some_iff] at e
    obtain ⟨y, ⟨z, e2, rfl⟩, ys', e3, rfl⟩ := e
    exact ⟨c, v, r, e1, h0, hf _ _ _ e2 h1, RVt.mapO hf e3 h2⟩
theorem not_cut (p : Rep K ρ h H) {i : Nat} {a : Addr} (e : ρ.c[i]? = some a) (hi : n ≤ i) : ¬ (ρ.cut n).has a := fun z => by
  rcases z with z | z
  · obtain ⟨j, hj, e2⟩ := List.mem_iff_getElem.mp z
    have hj : j < (ρ.c.take n).length := hj
    have hj' : j < n := by
      have := List.length_take_le n ρ.c
      omega
    have e2 : (ρ.c.take n)[j] = a := e2
    rw [List.getElem_take] at e2
    obtain ⟨h1, q1⟩ := List.getElem?_eq_some_iff.mp e
    have := (List.getElem_inj p.nd).mp (e2.trans q1.symm)
    omega
  · exact p.dj a (List.mem_of_getElem? e) z
theorem insO {f : PV → Option PV} : ∀ {xs : List (Option PV)} {ys : List PV} {us : List (Option V)}, us.length = xs.length → mapO (fun o => match o with
      | some x => f x
      | none => none) xs = some ys → (∀ (i : Nat) (x : PV), xs[i]? = some (some x) → ∃ v, us[i]? = some (some v) ∧ RV K ρ H x v) → (∀ x y v, f x = some y → RV K ρ H x v → RV K ρ' H y v) → ∃ vs, us = vs.map some ∧ RVs K ρ' H ys vs
  | [], _, us, hl, e, _, _ => by cases e; exact ⟨[], List.length_eq_zero_iff.mp hl, rfl⟩
  | none :: xs, _, us, hl, e, _, _ => by simp only [Wg.mapO, Option.bind_eq_some_iff] at e; obtain ⟨y, e, _⟩ := e; cases e
  | some x :: xs, ys, [], hl, e, _, _ => by cases hl
  | some x :: xs, ys, u :: us, hl, e, hr, hf => by
    simp only [Wg.mapO, Option.bind_eq_some_iff, Option.map_eq_some_iff] at e
    obtain ⟨y, e2, ys', e3, rfl⟩ := e
    obtain ⟨v, e4, r⟩ := hr 0 x rfl
    simp only [List.getElem?_cons_zero, Option.some.injEq] at e4
    obtain ⟨vs, e5, rs⟩ := insO (by simpa using hl) e3 (fun i x hx => by simpa using hr (i + 1) x (by simpa using hx)) hf
    exact ⟨v :: vs, by rw [e4, e5]; rfl, v, vs, rfl, hf _ _ _ e2 r, rs⟩
theorem frz_ok (p : Rep K ρ h H) : ∀ (k : Nat) (x y : PV) (v : V), frz h n k x = some y → RV K ρ H x v → RV K (ρ.cut n) H y v := by
  intro k
  induction k with
  | zero => intro x y v e r; cases e
  | succ k ih =>
    intro x y v e r
    unfold frz at e
    by_cases b : below n x = true
    · rw [if_pos b] at e
      cases e
      exact RV.below cut_of _ _ b r
    · rw [if_neg b] at e
      cases x with
      | ref a =>
        have ha : n ≤ a := by
          simp only [below, decide_eq_true_eq] at b
          omega
        obtain ⟨q, e1, e2⟩ := r
        simp only at e
        cases hc : h[a]? with
        | none => rw [hc] at e; cases e
        | some c =>
          rw [hc] at e
          have rc := p.at_ a c q hc e1
          have nc := not_cut p e1 ha
          cases c with
          | lst xs =>
            simp only [Option.map_eq_some_iff] at e
            obtain ⟨ys, e3, rfl⟩ := e
            obtain ⟨vs, q1, rs⟩ := rc
            exact ⟨q, vs, e2, ⟨nc, q1⟩, RVs.mapO ih e3 rs⟩
          | dct kvs =>
            simp only [Option.map_eq_some_iff] at e
            obtain ⟨ys, e3, rfl⟩ := e
            obtain ⟨vs, q1, rs⟩ := rc
            exact ⟨q, vs, e2, ⟨nc, .inl q1⟩, RVd.mapO ih e3 rs⟩
          | dcT kvs =>
            simp only [Option.map_eq_some_iff] at e
            obtain ⟨ys, e3, rfl⟩ := e
            obtain ⟨vs, q1, rs⟩ := rc
            exact ⟨q, vs, e2, ⟨nc, .inl q1⟩, RVt.mapO ih e3 rs⟩
          | ins c j xs =>
            simp only at e
            by_cases z : n ≤ j ∧ xs ≠ []
            · rw [if_pos z] at e
              simp only [Option.map_eq_some_iff] at e
              obtain ⟨ys, e3, rfl⟩ := e
              obtain ⟨C, dx, us, m, q1, q2, ⟨t, tl⟩, rs⟩ := rc
              obtain ⟨vs, rfl, rs2⟩ := insO tl e3 rs ih
              rcases t with ⟨_, t⟩ | ⟨t1, t2⟩
              · exact absurd (List.length_eq_zero_iff.mp (by rw [← tl, t]; rfl)) z.2
              · exact ⟨q, C, dx, vs, e2, m, ⟨nc, not_cut p q2 z.1, t1, t2⟩, rs2⟩
            · rw [if_neg z] at e; cases e
          | own => cases e
      | tup xs =>
        simp only [Option.map_eq_some_iff] at e
        obtain ⟨ys, e3, rfl⟩ := e
        obtain ⟨q, vs, e2, t, rs⟩ := r
        exact ⟨q, vs, e2, ⟨cut_of.has _ t.1, t.2⟩, RVs.mapO ih e3 rs⟩
      | lst xs =>
        simp only [Option.map_eq_some_iff] at e
        obtain ⟨ys, e3, rfl⟩ := e
        obtain ⟨q, vs, e2, t, rs⟩ := r
        exact ⟨q, vs, e2, ⟨cut_of.has _ t.1, t.2⟩, RVs.mapO ih e3 rs⟩
      | dct kvs =>
        simp only [Option.map_eq_some_iff] at e
        obtain ⟨ys, e3, rfl⟩ := e
        obtain ⟨q, vs, e2, t, rs⟩ := r
        exact ⟨q, vs, e2, ⟨cut_of.has _ t.1, t.2⟩, RVd.mapO ih e3 rs⟩
      | dcT kvs =>
        simp only [Option.map_eq_some_iff] at e
        obtain ⟨ys, e3, rfl⟩ := e
        obtain ⟨q, vs, e2, t, rs⟩ := r
        exact ⟨q, vs, e2, ⟨cut_of.has _ t.1, t.2⟩, RVt.mapO ih e3 rs⟩
      | ins c xs =>
        simp only [Option.map_eq_some_iff] at e
        obtain ⟨ys, e3, rfl⟩ := e
        obtain ⟨q, C, dx, vs, e2, m, t, rs⟩ := r
        exact ⟨q, C, dx, vs, e2, m, ⟨cut_of.has _ t.1, cut_of.has _ t.2.1, t.2.2⟩, RVs.mapO ih e3 rs⟩
      | _ => cases e
theorem Rep.cut (p : Rep K ρ h H) (b : (h.take n).all (belowC n) = true) : Rep K (ρ.cut n) (h.take n) H := by
  refine ⟨by simp [p.len], p.nd.sublist (List.take_sublist _ _), fun i c q e1 e2 => ?_, p.hid, fun q hq => p.dj q (List.mem_of_mem_take hq)⟩
  have hi : i < n := by
    obtain ⟨h1, _⟩ := List.getElem?_eq_some_iff.mp e1
    have := List.length_take_le n h
    omega
  have hb := List.all_eq_true.mp b c (List.mem_of_getElem? e1)
  have e2 : (ρ.c.take n)[i]? = some q := e2
  rw [List.getElem?_take, if_pos hi] at e1 e2
  have rc := p.at_ i c q e1 e2
  cases c with
  | lst xs => obtain ⟨vs, q1, rs⟩ := rc; exact ⟨vs, q1, RVs.below cut_of _ _ (by simpa only [belowC] using hb) rs⟩
  | dct kvs => obtain ⟨vs, q1, rs⟩ := rc; exact ⟨vs, q1, RVd.below cut_of _ _ (by simpa only [belowC] using hb) rs⟩
  | dcT kvs => obtain ⟨vs, q1, rs⟩ := rc; exact ⟨vs, q1, RVt.below cut_of _ _ (by simpa only [belowC] using hb) rs⟩
  | ins c j xs =>
    simp only [belowC, Bool.and_eq_true, decide_eq_true_eq] at hb
    obtain ⟨C, dx, us, m, q1, q2, t, rs⟩ := rc
    refine ⟨C, dx, us, m, by rw [List.getElem?_take, if_pos hb.1]; exact q1, cut_of.look _ _ hb.1 q2, t, fun k x hx => ?_⟩
    obtain ⟨v, e3, r⟩ := rs k x hx
    exact ⟨v, e3, RV.below cut_of _ _ (List.all_eq_true.mp hb.2 _ (List.mem_of_getElem? hx)) r⟩
  | own => exact rc
theorem Ext.cut {H0 : Hp} (a : Ext ρ H0 ρ' H) : Ext ρ H0 (ρ'.cut ρ.c.length) H := by
  obtain ⟨m, e, f⟩ := a.pre
  refine ⟨⟨[], ?_, fun p hp => by cases hp⟩, a.hid, a.old, a.lok⟩
  show ρ'.c.take ρ.c.length = _
  rw [e, List.take_left, List.append_nil]
end

/-! ### defs -/
abbrev FN := List PV → Store → R PV
def initL (n : Nat) (args : List PV) : Lv := args.map some ++ List.replicate (n - args.length) none
def handX (n0 : Nat) (e : Ex) (h : Store) : R PV :=
  if h.length = n0 then .exc e h else if (h.take n0).all (belowC n0) = true ∧ below 0 e.cls = true then match mapO (fun fx => (frz h n0 40 fx.2).map fun y => (fx.1, y)) e.fld with
    | some fs => .exc ⟨e.cls, fs⟩ (h.take n0)
    | none => .no
  else .no
def handO (n0 : Nat) (x : PV) (h : Store) : R PV := if h.length = n0 then .ok x h else if (h.take n0).all (belowC n0) = true then match frz h n0 40 x with
  | some y => .ok y (h.take n0)
  | none => .no
  else .no
/-- a def of np parameters and n names; what it gives is handed over as it stands -/
def runDef (np n : Nat) (body : MS) : FN := fun args h => if args.length = np then
    match body (initL n args) h with
    | .ok (.rt x) h' => handO h.length x h'
    | .ok (.nx _) h' => handO h.length .non h'
    | .ok (.ex e _) h' => handX h.length e h'
    | _ => .no
  else .no
/-- .. that gives what it made, to be changed by others -/
def runDefN (np n : Nat) (body : MS) : FN := fun args h => if args.length = np then
    match body (initL n args) h with
    | .ok (.rt x) h' => .ok x h'
    | .ok (.nx _) h' => .ok .non h'
    | .ok (.ex e _) h' => .exc e h'
    | _ => .no
  else .no
def spM (w : World) (K : PySem.W.Frag) (mg : Str → Option Value) (f : FN) : Sp := fun vs H Q E => ∃ ρ h args, Rep ⟨K, mg, none, w⟩ ρ h H ∧ RVs ⟨K, mg, none, w⟩ ρ H args vs ∧ Out ⟨K, mg, none, w⟩ ρ H (RV ⟨K, mg, none, w⟩) E (f args h) Q
/-- a def of the text does what f tells -/
structure Def (P : Program) (w : World) (K : PySem.W.Frag) (mg : Str → Option Value) (base : Heap) (k : Nat) (x : Str) (F : FN) : Prop where
  ex : ∃ f fd ps, mg x = some (.ref f) ∧ PySem.W.keepIn K (.ref f) = true ∧ Binds K fd ps [] ∧ FnG P w K mg base (L2.CX P w) k f fd ps (spM w K mg F)
section
variable {P : Program} {w : World} {K : PySem.W.Frag} {mg : Str → Option Value} {base : Heap} {k : Nat} {KK : KC} {ρ : Pl} {H : Hp} {h : Store}
theorem RL.start {N : List Str} {args : List PV} {vs : List V} (hn : KK.cur = none) (r : RVs KK ρ H args vs) : RL KK ρ H (initL N.length args) (L2.start N vs) := by
  refine ⟨?_, by unfold CurOk; rw [hn]; trivial⟩
  unfold initL L2.start
  rw [r.len]
  generalize N.length - vs.length = m
  have base : RL0 KK ρ H (List.replicate m none) (List.replicate m none) := by
    induction m with
    | zero => exact .nil
    | succ m ih => exact .skip ih
  induction args generalizing vs with
  | nil => rw [show vs = [] from r]; exact base
  | cons x xs ih =>
    obtain ⟨v, rr, e, h1, h2⟩ := r
    subst e
    exact .put h1 (ih h2)
theorem RVx.mapO {ρ' : Pl} {us : List (Str × V)} {f : PV → Option PV} (hf : ∀ x y v, f x = some y → RV KK ρ H x v → RV KK ρ' H y v) : ∀ {xs ys : List (Str × PV)}, mapO (fun kv => (f kv.2).map fun y => (kv.1, y)) xs = some ys → RVx KK ρ H us xs → RVx KK ρ' H us ys
  | [], _, e, r => by cases e; exact r
  | (k, x) :: xs, ys, e, ⟨⟨v, e1, h1⟩, h2⟩ => by
    simp only [Wg.mapO, Option.bind_eq_some_iff, Option.map_eq_some_iff] at e
    obtain ⟨y, ⟨z, e2, rfl⟩, ys', e3, rfl⟩ := e
    exact ⟨⟨v, e1, hf _ _ _ e2 h1⟩, RVx.mapO hf e3 h2⟩
theorem out_handO {E : Value → Option Addr → Hp → Prop} {x : PV} {h' : Store} {Q : VK} (p : Rep KK ρ h H) (o : Out KK ρ H (RV KK) E (handO h.length x h') Q) : ∀ ρ' H' v, Ext ρ H ρ' H' → Rep KK ρ' h' H' → RV KK ρ' H' x v → Q v H' := by
  intro ρ' H' v a p' r
  unfold handO at o
  by_cases z : h'.length = h.length
  · rw [if_pos z] at o
    exact o ρ' H' v a p' r
  rw [if_neg z] at o
  by_cases c : (h'.take h.length).all (belowC h.length) = true
  · rw [if_pos c] at o
    cases q : frz h' h.length 40 x with
    | none => rw [q] at o; exact o.elim
    | some y =>
      rw [q] at o
      have e : Ext ρ H (ρ'.cut h.length) H' := by rw [p.len]; exact a.cut
      exact o _ H' v e (p'.cut c) (frz_ok p' _ _ _ _ q r)
  · rw [if_neg c] at o; exact o.elim
theorem out_handX {E : Value → Option Addr → Hp → Prop} {e : Ex} {h' : Store} {Q : VK} (p : Rep KK ρ h H) (o : Out KK ρ H (RV KK) E (handX h.length e h') Q) : ∀ ρ' H' cls d, Ext ρ H ρ' H' → Rep KK ρ' h' H' → RX KK ρ' H' e cls d → E cls d H' := by
  intro ρ' H' cls d a p' r
  unfold handX at o
  by_cases z : h'.length = h.length
  · rw [if_pos z] at o
    exact o ρ' H' cls d a p' r
  rw [if_neg z] at o
  by_cases c : (h'.take h.length).all (belowC h.length) = true ∧ below 0 e.cls = true
  · rw [if_pos c] at o
    split at o
    next fs q =>
      have x : Ext ρ H (ρ'.cut h.length) H' := by rw [p.len]; exact a.cut
      obtain ⟨cv, r1, r2, r3⟩ := r
      refine o _ H' cls d x (p'.cut c.1) ⟨cv, ?_, r2, ?_⟩
      · have b : ∀ (n : Nat) (x : PV), below 0 x = true → (∀ xs, x ≠ .tup xs) → True := fun _ _ _ _ => trivial
        refine RV.below (n := 0) ⟨fun i p hi => absurd hi (Nat.not_lt_zero i), cut_of.has⟩ _ _ c.2 r1
      · rcases r3 with r3 | ⟨dd, us, e1, e2, e3⟩
        · left
          rw [r3] at q
          cases q; rfl
        · exact .inr ⟨dd, us, e1, ⟨cut_of.has _ e2.1, e2.2⟩, RVx.mapO (fun x y v => frz_ok p' _ _ _ _) q e3⟩
    next => exact o.elim
  · rw [if_neg c] at o; exact o.elim
theorem fn_okM {x qual : Str} {st : Stmt} {f : Addr} {fd : FuncData} {N ps : List Str} {mb : MS} (F : Fun K x qual st f fd) (S : FnScope N ps (defScope st))
    (hbody : ∀ (cdv : Value) (A : Around) (outer : List Env) (s : Shared) (H : Hp) (E : XK), Room k (A.deeper (envOfC qual (defScope st) s.heap.objs.size f cdv)) → NoG A →
      XSs (cxOf (L2.CX P w) P w K mg base N qual (defScope st) f cdv A outer s H E) ⟨fun cls d _ H' => E cls d H', none⟩ (defBody st) mb) : FnG P w K mg base (L2.CX P w) (k + 1) f fd ps (spM w K mg (runDef ps.length N.length mb)) := by
  refine okG F S (fun vs H Q E h => ?_) (fun cdv A outer s H vs Q E hr hG h => ?_)
  · obtain ⟨ρ, h, args, p, r, o⟩ := h
    by_cases hl : args.length = ps.length
    · rw [← r.len]; exact hl
    · unfold runDef at o
      rw [if_neg hl] at o
      exact o.elim
  · obtain ⟨ρ, h, args, p, r, o⟩ := h
    refine ⟨_, hbody cdv A outer s H E hr hG, ρ, h, initL N.length args, p, RL.start rfl r, ?_⟩
    unfold runDef at o
    by_cases hl : args.length = ps.length
    · rw [if_pos hl] at o
      cases q : mb (initL N.length args) h with
      | no => rw [q] at o; exact o
      | exc e h' => rw [q] at o; exact o
      | ok fl h' =>
        rw [q] at o
        cases fl with
        | rt x => exact out_handO p o
        | nx l => exact fun ρ' H' σ' a p' _ => out_handO p o ρ' H' .non a p' rfl
        | bk l => exact o.elim
        | ct l => exact o.elim
        | ex e l => exact fun ρ' H' c' d σ' a p' _ r => out_handX p o ρ' H' c' d a p' r
    · rw [if_neg hl] at o; exact o.elim
theorem fn_okN {x qual : Str} {st : Stmt} {f : Addr} {fd : FuncData} {N ps : List Str} {mb : MS} (F : Fun K x qual st f fd) (S : FnScope N ps (defScope st))
    (hbody : ∀ (cdv : Value) (A : Around) (outer : List Env) (s : Shared) (H : Hp) (E : XK), Room k (A.deeper (envOfC qual (defScope st) s.heap.objs.size f cdv)) → NoG A →
      XSs (cxOf (L2.CX P w) P w K mg base N qual (defScope st) f cdv A outer s H E) ⟨fun cls d _ H' => E cls d H', none⟩ (defBody st) mb) : FnG P w K mg base (L2.CX P w) (k + 1) f fd ps (spM w K mg (runDefN ps.length N.length mb)) := by
  refine okG F S (fun vs H Q E h => ?_) (fun cdv A outer s H vs Q E hr hG h => ?_)
  · obtain ⟨ρ, h, args, p, r, o⟩ := h
    by_cases hl : args.length = ps.length
    · rw [← r.len]; exact hl
    · unfold runDefN at o
      rw [if_neg hl] at o
      exact o.elim
  · obtain ⟨ρ, h, args, p, r, o⟩ := h
    refine ⟨_, hbody cdv A outer s H E hr hG, ρ, h, initL N.length args, p, RL.start rfl r, ?_⟩
    unfold runDefN at o
    by_cases hl : args.length = ps.length
    · rw [if_pos hl] at o
      cases q : mb (initL N.length args) h with
      | no => rw [q] at o; exact o
      | exc e h' => rw [q] at o; exact o
      | ok fl h' =>
        rw [q] at o
        cases fl with
        | rt x => exact o
        | nx l => exact fun ρ' H' σ' a p' _ => o ρ' H' .non a p' rfl
        | bk l => exact o.elim
        | ct l => exact o.elim
        | ex e l => exact fun ρ' H' c' d σ' a p' _ r => o ρ' H' c' d a p' r
    · rw [if_neg hl] at o; exact o.elim
end
section
variable {X : Cx} {W : WQ} {k : Nat} {x : Str} {F : FN} {p0 pos : Pos} {e : Expr} {es : List Expr} {ms : M (List PV)}
/-- f(e, ..) -/
theorem xe_call (D : Def X.prog X.w X.K X.mg X.base k x F) (hr : Room k X.A) (hG : NoG X.A) (tk : Takes X W.w) (ha : XA X W (e :: es) ms) (hcur : W.cur = none := by rfl) (hg : Gl X x := by rfl) (hdb : (x == ("__debug__" : Str)) = false := by decide)
    (he : starEach (e :: es) X.env = (false, eval e X.env) :: starEach es X.env := by rfl) (hpl : (backTo pos (starEach es X.env)).any (·.1) = false := by rfl) : XE X W (.Call (.Name x p0) (e :: es) [] pos) (mCall F ms) := by
  obtain ⟨f, fd, ps, hm, hk, hb, ok⟩ := D.ex
  obtain ⟨w, c⟩ := W
  obtain rfl : c = none := hcur
  exact pe_weak (pe_callG ok hr hG hg hm hk hb (fun σ => passAt tk σ) ha hdb he hpl) fun σ H Q ⟨ρ, h, l, p, rl, o⟩ => ⟨ρ, h, l, p, rl, Out.mono (Out.bind o) fun vs H1 ⟨xs, h1, ρ1, e1, p1, r1, o1⟩ => ⟨ρ1, h1, xs, p1, r1, o1⟩⟩
end
end Wg

namespace Wg
open PySem PySem.Spec PyProof.Rows L2 SlX
section
variable {X : Cx} {W : WQ} {k : Nat} {p0 p1 pos : Pos} {a b c e : Expr} {es : List Expr} {ma mb mc : M PV} {ms : M (List PV)}
theorem xe_isi (hm : X.mg "isinstance" = none) (ha : XA X W (e :: es) ms) (hg : Gl X "isinstance" := by rfl) (he : starEach (e :: es) X.env = (false, eval e X.env) :: starEach es X.env := by rfl) (hpl : (backTo pos (starEach es X.env)).any (·.1) = false := by rfl) :
    XE X W (.Call (.Name "isinstance" p0) (e :: es) [] pos) (mCall fIsi ms) := xe_callB call_isi cx_isi hm boot_isinstance ha hg (by decide) (by decide) he hpl
theorem xe_len (hm : X.mg "len" = none) (ha : XA X W (e :: es) ms) (hg : Gl X "len" := by rfl) (he : starEach (e :: es) X.env = (false, eval e X.env) :: starEach es X.env := by rfl) (hpl : (backTo pos (starEach es X.env)).any (·.1) = false := by rfl) :
    XE X W (.Call (.Name "len" p0) (e :: es) [] pos) (mCall fLen ms) := xe_callB call_len cx_len hm boot_len ha hg (by decide) (by decide) he hpl
theorem xe_int_ (hm : X.mg "int" = none) (ha : XA X W (e :: es) ms) (hg : Gl X "int" := by rfl) (he : starEach (e :: es) X.env = (false, eval e X.env) :: starEach es X.env := by rfl) (hpl : (backTo pos (starEach es X.env)).any (·.1) = false := by rfl) :
    XE X W (.Call (.Name "int" p0) (e :: es) [] pos) (mCall fIntOf ms) := xe_callTy cr_intA cx_int hm PyProof.Rows.boot_int ha hg (by decide) (by decide) he hpl
theorem xe_str_ (hm : X.mg "str" = none) (ha : XA X W (e :: es) ms) (hg : Gl X "str" := by rfl) (he : starEach (e :: es) X.env = (false, eval e X.env) :: starEach es X.env := by rfl) (hpl : (backTo pos (starEach es X.env)).any (·.1) = false := by rfl) :
    XE X W (.Call (.Name "str" p0) (e :: es) [] pos) (mCall fStrOf ms) := xe_callTy cr_strA cx_str hm PyProof.Rows.boot_str ha hg (by decide) (by decide) he hpl
theorem xe_abs (hm : X.mg "abs" = none) (ha : XA X W (e :: es) ms) (hg : Gl X "abs" := by rfl) (he : starEach (e :: es) X.env = (false, eval e X.env) :: starEach es X.env := by rfl) (hpl : (backTo pos (starEach es X.env)).any (·.1) = false := by rfl) :
    XE X W (.Call (.Name "abs" p0) (e :: es) [] pos) (mCall fAbs ms) := xe_callB call_abs cx_abs hm boot_abs ha hg (by decide) (by decide) he hpl
theorem xe_max2 (hc : X.calm = true) (hm : X.mg "max" = none) (ha : XA X W (e :: es) ms) (hg : Gl X "max" := by rfl) (he : starEach (e :: es) X.env = (false, eval e X.env) :: starEach es X.env := by rfl) (hpl : (backTo pos (starEach es X.env)).any (·.1) = false := by rfl) :
    XE X W (.Call (.Name "max" p0) (e :: es) [] pos) (mCall fMax2 ms) := xe_callB (call_max2 hc) cx_max2 hm boot_max ha hg (by decide) (by decide) he hpl
theorem xe_min2 (hc : X.calm = true) (hm : X.mg "min" = none) (ha : XA X W (e :: es) ms) (hg : Gl X "min" := by rfl) (he : starEach (e :: es) X.env = (false, eval e X.env) :: starEach es X.env := by rfl) (hpl : (backTo pos (starEach es X.env)).any (·.1) = false := by rfl) :
    XE X W (.Call (.Name "min" p0) (e :: es) [] pos) (mCall fMin2 ms) := xe_callB (call_min2 hc) cx_min2 hm boot_min ha hg (by decide) (by decide) he hpl
theorem xe_all (hc : X.calm = true) (hm : X.mg "all" = none) (ha : XA X W (e :: es) ms) (hg : Gl X "all" := by rfl) (he : starEach (e :: es) X.env = (false, eval e X.env) :: starEach es X.env := by rfl) (hpl : (backTo pos (starEach es X.env)).any (·.1) = false := by rfl) :
    XE X W (.Call (.Name "all" p0) (e :: es) [] pos) (mCall fAll ms) := xe_callB (cr_all hc) cx_all hm boot_all ha hg (by decide) (by decide) he hpl
theorem xe_any (hc : X.calm = true) (hm : X.mg "any" = none) (ha : XA X W (e :: es) ms) (hg : Gl X "any" := by rfl) (he : starEach (e :: es) X.env = (false, eval e X.env) :: starEach es X.env := by rfl) (hpl : (backTo pos (starEach es X.env)).any (·.1) = false := by rfl) :
    XE X W (.Call (.Name "any" p0) (e :: es) [] pos) (mCall fAny ms) := xe_callB (cr_any hc) cx_any hm boot_any ha hg (by decide) (by decide) he hpl
theorem xe_tuple (hm : X.mg "tuple" = none) (ha : XA X W (e :: es) ms) (hg : Gl X "tuple" := by rfl) (he : starEach (e :: es) X.env = (false, eval e X.env) :: starEach es X.env := by rfl) (hpl : (backTo pos (starEach es X.env)).any (·.1) = false := by rfl) :
    XE X W (.Call (.Name "tuple" p0) (e :: es) [] pos) (mCall fTuple ms) := xe_callTy call_tuple_of cx_tuple hm PyProof.Rows.boot_tuple ha hg (by decide) (by decide) he hpl
theorem xe_list (hm : X.mg "list" = none) (ha : XA X W (e :: es) ms) (hg : Gl X "list" := by rfl) (he : starEach (e :: es) X.env = (false, eval e X.env) :: starEach es X.env := by rfl) (hpl : (backTo pos (starEach es X.env)).any (·.1) = false := by rfl) :
    XE X W (.Call (.Name "list" p0) (e :: es) [] pos) (mCall fList ms) := xe_callTy call_list_of cx_list hm PyProof.Rows.boot_list ha hg (by decide) (by decide) he hpl
theorem xe_listN (hm : X.mg "list" = none) (ha : XA X W (e :: es) ms) (hg : Gl X "list" := by rfl) (he : starEach (e :: es) X.env = (false, eval e X.env) :: starEach es X.env := by rfl) (hpl : (backTo pos (starEach es X.env)).any (·.1) = false := by rfl) :
    XE X W (.Call (.Name "list" p0) (e :: es) [] pos) (mCall fListN ms) := xe_callTy call_list_of cx_listN hm PyProof.Rows.boot_list ha hg (by decide) (by decide) he hpl
theorem xe_Tint (hm : X.mg "int" = none) (hg : Gl X "int" := by rfl) : XE X W (.Name "int" pos) (mC (.ty "int")) := xe_glob (pe_bltn (v := .ty "int") hg hm PyProof.Rows.boot_int rfl) fun _ _ _ _ => rfl
theorem xe_Tbool (hm : X.mg "bool" = none) (hg : Gl X "bool" := by rfl) : XE X W (.Name "bool" pos) (mC (.ty "bool")) := xe_glob (pe_bltn (v := .ty "bool") hg hm PyProof.Rows.boot_bool rfl) fun _ _ _ _ => rfl
theorem xe_Tstr (hm : X.mg "str" = none) (hg : Gl X "str" := by rfl) : XE X W (.Name "str" pos) (mC (.ty "str")) := xe_glob (pe_bltn (v := .ty "str") hg hm PyProof.Rows.boot_str rfl) fun _ _ _ _ => rfl
theorem xe_Ttuple (hm : X.mg "tuple" = none) (hg : Gl X "tuple" := by rfl) : XE X W (.Name "tuple" pos) (mC (.ty "tuple")) := xe_glob (pe_bltn (v := .ty "tuple") hg hm PyProof.Rows.boot_tuple rfl) fun _ _ _ _ => rfl
theorem xe_Tlist (hm : X.mg "list" = none) (hg : Gl X "list" := by rfl) : XE X W (.Name "list" pos) (mC (.ty "list")) := xe_glob (pe_bltn (v := .ty "list") hg hm PyProof.Rows.boot_list rfl) fun _ _ _ _ => rfl
theorem xe_Tdict (hm : X.mg "dict" = none) (hg : Gl X "dict" := by rfl) : XE X W (.Name "dict" pos) (mC (.ty "dict")) := xe_glob (pe_bltn (v := .ty "dict") hg hm PyProof.Rows.boot_dict rfl) fun _ _ _ _ => rfl
theorem xe_add (ha : XE X W a ma) (hb : XE X W b mb) : XE X W (.BinOp a .Add b pos) (mBin fAdd ma mb) := xe_bin op_addA ox_add ha hb
theorem xe_sub (ha : XE X W a ma) (hb : XE X W b mb) : XE X W (.BinOp a .Sub b pos) (mBin fSub ma mb) := xe_bin op_sub ox_sub ha hb
theorem xe_mul (ha : XE X W a ma) (hb : XE X W b mb) : XE X W (.BinOp a .Mult b pos) (mBin fMul ma mb) := xe_bin op_mulA ox_mul ha hb
theorem xe_div (ha : XE X W a ma) (hb : XE X W b mb) : XE X W (.BinOp a .FloorDiv b pos) (mBin fDiv ma mb) := xe_bin op_fdivW ox_div ha hb
theorem xe_mod (ha : XE X W a ma) (hb : XE X W b mb) : XE X W (.BinOp a .Mod b pos) (mBin fMod ma mb) := xe_bin op_mod ox_mod ha hb
theorem xe_pow (ha : XE X W a ma) (hb : XE X W b mb) : XE X W (.BinOp a .Pow b pos) (mBin fPow ma mb) := xe_bin op_pow ox_pow ha hb
theorem xe_lt (ha : XE X W a ma) (hb : XE X W b mb) : XE X W (.Compare a [.Lt] [b] pos) (mBin fLt ma mb) := xe_cmp op_ltA ox_ord ha hb (nomark _)
theorem xt_lt (ha : XE X W a ma) (hb : XE X W b mb) : XT X W (.Compare a [.Lt] [b] pos) (mB (mBin fLt ma mb)) := xt_cmp op_ltA ox_ord ha hb (nomark _)
theorem xe_le (ha : XE X W a ma) (hb : XE X W b mb) : XE X W (.Compare a [.LtE] [b] pos) (mBin fLe ma mb) := xe_cmp op_leA ox_ord ha hb (nomark _)
theorem xt_le (ha : XE X W a ma) (hb : XE X W b mb) : XT X W (.Compare a [.LtE] [b] pos) (mB (mBin fLe ma mb)) := xt_cmp op_leA ox_ord ha hb (nomark _)
theorem xe_gt (ha : XE X W a ma) (hb : XE X W b mb) : XE X W (.Compare a [.Gt] [b] pos) (mBin fGt ma mb) := xe_cmp op_gtA ox_ord ha hb (nomark _)
theorem xt_gt (ha : XE X W a ma) (hb : XE X W b mb) : XT X W (.Compare a [.Gt] [b] pos) (mB (mBin fGt ma mb)) := xt_cmp op_gtA ox_ord ha hb (nomark _)
theorem xe_ge (ha : XE X W a ma) (hb : XE X W b mb) : XE X W (.Compare a [.GtE] [b] pos) (mBin fGe ma mb) := xe_cmp op_geA ox_ord ha hb (nomark _)
theorem xt_ge (ha : XE X W a ma) (hb : XE X W b mb) : XT X W (.Compare a [.GtE] [b] pos) (mB (mBin fGe ma mb)) := xt_cmp op_geA ox_ord ha hb (nomark _)
theorem xe_eq (hr : Room k X.A) (ha : XE X W a ma) (hb : XE X W b mb) : XE X W (.Compare a [.Eq] [b] pos) (mBin fEq ma mb) := xe_cmp (op_eqA hr.units) ox_eq ha hb (nomark _)
theorem xt_eq (hr : Room k X.A) (ha : XE X W a ma) (hb : XE X W b mb) : XT X W (.Compare a [.Eq] [b] pos) (mB (mBin fEq ma mb)) := xt_cmp (op_eqA hr.units) ox_eq ha hb (nomark _)
theorem xe_ne (hr : Room k X.A) (ha : XE X W a ma) (hb : XE X W b mb) : XE X W (.Compare a [.NotEq] [b] pos) (mBin fNe ma mb) := xe_cmp (op_neA hr.units) ox_ne ha hb (nomark _)
theorem xt_ne (hr : Room k X.A) (ha : XE X W a ma) (hb : XE X W b mb) : XT X W (.Compare a [.NotEq] [b] pos) (mB (mBin fNe ma mb)) := xt_cmp (op_neA hr.units) ox_ne ha hb (nomark _)
theorem xe_inStr (ha : XE X W a ma) (hb : XE X W b mb) (hm : behindInMarks .In b = false := by with_unfolding_all rfl) : XE X W (.Compare a [.In] [b] pos) (mBin fInStr ma mb) := xe_cmp op_in_sign ox_inSign ha hb hm
def fNeg (x : PV) (h : Store) : R PV := match x with
  | .int i => .ok (.int (-i)) h
  | _ => .no
def mUn (f : PV → Store → R PV) (a : M PV) : M PV := fun l h => (a l h).bind f
theorem xe_neg (ha : XE X W a ma) : XE X W (.UnaryOp .USub a pos) (mUn fNeg ma) := pe_weak (pe_un un_neg ha) fun σ H Q ⟨ρ, h, l, p, rl, o⟩ => ⟨ρ, h, l, p, rl, Out.mono (Out.bind o) fun v H1 ⟨x, h1, ρ1, e1, p1, r1, o1⟩ => by
  unfold fNeg at o1
  split at o1
  next i => cases r1; exact ⟨i, rfl, o1.ok p1 rfl⟩
  next => exact o1.elim⟩
theorem xe_lt_lt (ha : XE X W a ma) (hb : XE X W b mb) (hc : XE X W c mc) (hm : lastMarks [.Lt, .Lt] [b, c] = false := by with_unfolding_all rfl) : XE X W (.Compare a [.Lt, .Lt] [b, c] pos) (mChain fLt fLt ma mb mc) := xe_chain op_ltA ox_ord op_ltA ox_ord ha hb hc hm
theorem xt_lt_lt (ha : XE X W a ma) (hb : XE X W b mb) (hc : XE X W c mc) (hm : lastMarks [.Lt, .Lt] [b, c] = false := by with_unfolding_all rfl) : XT X W (.Compare a [.Lt, .Lt] [b, c] pos) (mB (mChain fLt fLt ma mb mc)) := xt_chain op_ltA ox_ord op_ltA ox_ord ha hb hc hm
theorem xe_lt_le (ha : XE X W a ma) (hb : XE X W b mb) (hc : XE X W c mc) (hm : lastMarks [.Lt, .LtE] [b, c] = false := by with_unfolding_all rfl) : XE X W (.Compare a [.Lt, .LtE] [b, c] pos) (mChain fLt fLe ma mb mc) := xe_chain op_ltA ox_ord op_leA ox_ord ha hb hc hm
theorem xt_lt_le (ha : XE X W a ma) (hb : XE X W b mb) (hc : XE X W c mc) (hm : lastMarks [.Lt, .LtE] [b, c] = false := by with_unfolding_all rfl) : XT X W (.Compare a [.Lt, .LtE] [b, c] pos) (mB (mChain fLt fLe ma mb mc)) := xt_chain op_ltA ox_ord op_leA ox_ord ha hb hc hm
theorem xe_le_lt (ha : XE X W a ma) (hb : XE X W b mb) (hc : XE X W c mc) (hm : lastMarks [.LtE, .Lt] [b, c] = false := by with_unfolding_all rfl) : XE X W (.Compare a [.LtE, .Lt] [b, c] pos) (mChain fLe fLt ma mb mc) := xe_chain op_leA ox_ord op_ltA ox_ord ha hb hc hm
theorem xt_le_lt (ha : XE X W a ma) (hb : XE X W b mb) (hc : XE X W c mc) (hm : lastMarks [.LtE, .Lt] [b, c] = false := by with_unfolding_all rfl) : XT X W (.Compare a [.LtE, .Lt] [b, c] pos) (mB (mChain fLe fLt ma mb mc)) := xt_chain op_leA ox_ord op_ltA ox_ord ha hb hc hm
theorem xe_le_le (ha : XE X W a ma) (hb : XE X W b mb) (hc : XE X W c mc) (hm : lastMarks [.LtE, .LtE] [b, c] = false := by with_unfolding_all rfl) : XE X W (.Compare a [.LtE, .LtE] [b, c] pos) (mChain fLe fLe ma mb mc) := xe_chain op_leA ox_ord op_leA ox_ord ha hb hc hm
theorem xt_le_le (ha : XE X W a ma) (hb : XE X W b mb) (hc : XE X W c mc) (hm : lastMarks [.LtE, .LtE] [b, c] = false := by with_unfolding_all rfl) : XT X W (.Compare a [.LtE, .LtE] [b, c] pos) (mB (mChain fLe fLe ma mb mc)) := xt_chain op_leA ox_ord op_leA ox_ord ha hb hc hm
theorem xe_gt_gt (ha : XE X W a ma) (hb : XE X W b mb) (hc : XE X W c mc) (hm : lastMarks [.Gt, .Gt] [b, c] = false := by with_unfolding_all rfl) : XE X W (.Compare a [.Gt, .Gt] [b, c] pos) (mChain fGt fGt ma mb mc) := xe_chain op_gtA ox_ord op_gtA ox_ord ha hb hc hm
theorem xt_gt_gt (ha : XE X W a ma) (hb : XE X W b mb) (hc : XE X W c mc) (hm : lastMarks [.Gt, .Gt] [b, c] = false := by with_unfolding_all rfl) : XT X W (.Compare a [.Gt, .Gt] [b, c] pos) (mB (mChain fGt fGt ma mb mc)) := xt_chain op_gtA ox_ord op_gtA ox_ord ha hb hc hm
theorem xe_ge_ge (ha : XE X W a ma) (hb : XE X W b mb) (hc : XE X W c mc) (hm : lastMarks [.GtE, .GtE] [b, c] = false := by with_unfolding_all rfl) : XE X W (.Compare a [.GtE, .GtE] [b, c] pos) (mChain fGe fGe ma mb mc) := xe_chain op_geA ox_ord op_geA ox_ord ha hb hc hm
theorem xt_ge_ge (ha : XE X W a ma) (hb : XE X W b mb) (hc : XE X W c mc) (hm : lastMarks [.GtE, .GtE] [b, c] = false := by with_unfolding_all rfl) : XT X W (.Compare a [.GtE, .GtE] [b, c] pos) (mB (mChain fGe fGe ma mb mc)) := xt_chain op_geA ox_ord op_geA ox_ord ha hb hc hm
theorem xe_append (ho : XE X W a ma) (ha : XA X W (e :: es) ms) (hbase : attributeBase a "append" X.env (eval a X.env) = eval a X.env := by rfl)
    (hfew : ((backTo pos (starEach (e :: es) X.env)).all (fun x => !x.1) && (backToKw pos (keywordEach [] X.env)).all (fun x => x.1.isSome) && decide ((e :: es).length + ([] : List Keyword).length + (if ([] : List Keyword).isEmpty then 0 else 1) < 30)) = true := by rfl)
    (hline : (p0.endLine == pos.line) = true := by rfl) (hs : starEach (e :: es) X.env = (false, eval e X.env) :: starEach es X.env := by rfl) (hplain : (backTo pos (starEach es X.env)).any (·.1) = false := by rfl) :
    XE X W (.Call (.Attribute a "append" p0) (e :: es) [] pos) (mMeth "list" fAppend ma ms) := xe_bm PySem.F.plainAttrs_list PySem.F.slot_list_append PySem.F.type_list_append mt_append mx_append ho ha hbase hfew hline hs hplain
theorem xe_extend (ho : XE X W a ma) (ha : XA X W (e :: es) ms) (hbase : attributeBase a "extend" X.env (eval a X.env) = eval a X.env := by rfl)
    (hfew : ((backTo pos (starEach (e :: es) X.env)).all (fun x => !x.1) && (backToKw pos (keywordEach [] X.env)).all (fun x => x.1.isSome) && decide ((e :: es).length + ([] : List Keyword).length + (if ([] : List Keyword).isEmpty then 0 else 1) < 30)) = true := by rfl)
    (hline : (p0.endLine == pos.line) = true := by rfl) (hs : starEach (e :: es) X.env = (false, eval e X.env) :: starEach es X.env := by rfl) (hplain : (backTo pos (starEach es X.env)).any (·.1) = false := by rfl) :
    XE X W (.Call (.Attribute a "extend" p0) (e :: es) [] pos) (mMeth "list" fExtend ma ms) := xe_bm PySem.F.plainAttrs_list PySem.F.slot_list_extend PySem.F.type_list_extend mt_extend mx_extend ho ha hbase hfew hline hs hplain
theorem xe_popAt (ho : XE X W a ma) (ha : XA X W (e :: es) ms) (hbase : attributeBase a "pop" X.env (eval a X.env) = eval a X.env := by rfl)
    (hfew : ((backTo pos (starEach (e :: es) X.env)).all (fun x => !x.1) && (backToKw pos (keywordEach [] X.env)).all (fun x => x.1.isSome) && decide ((e :: es).length + ([] : List Keyword).length + (if ([] : List Keyword).isEmpty then 0 else 1) < 30)) = true := by rfl)
    (hline : (p0.endLine == pos.line) = true := by rfl) (hs : starEach (e :: es) X.env = (false, eval e X.env) :: starEach es X.env := by rfl) (hplain : (backTo pos (starEach es X.env)).any (·.1) = false := by rfl) :
    XE X W (.Call (.Attribute a "pop" p0) (e :: es) [] pos) (mMeth "list" fPopAt ma ms) := xe_bm PySem.F.plainAttrs_list PySem.F.slot_list_pop PySem.F.type_list_pop mt_popAt mx_popAt ho ha hbase hfew hline hs hplain
theorem xe_pop (ho : XE X W a ma) (hbase : attributeBase a "pop" X.env (eval a X.env) = eval a X.env := by rfl) (hline : (p0.endLine == pos.line) = true := by rfl) :
    XE X W (.Call (.Attribute a "pop" p0) [] [] pos) (mMeth "list" fPop ma mNil) := xe_bm0 PySem.F.plainAttrs_list PySem.F.slot_list_pop PySem.F.type_list_pop mt_pop mx_pop ho hbase hline
theorem xe_join (ho : XE X W a ma) (ha : XA X W (e :: es) ms) (hbase : attributeBase a "join" X.env (eval a X.env) = eval a X.env := by rfl)
    (hfew : ((backTo pos (starEach (e :: es) X.env)).all (fun x => !x.1) && (backToKw pos (keywordEach [] X.env)).all (fun x => x.1.isSome) && decide ((e :: es).length + ([] : List Keyword).length + (if ([] : List Keyword).isEmpty then 0 else 1) < 30)) = true := by rfl)
    (hline : (p0.endLine == pos.line) = true := by rfl) (hs : starEach (e :: es) X.env = (false, eval e X.env) :: starEach es X.env := by rfl) (hplain : (backTo pos (starEach es X.env)).any (·.1) = false := by rfl) :
    XE X W (.Call (.Attribute a "join" p0) (e :: es) [] pos) (mMeth "str" fJoin ma ms) := xe_bm PySem.F.plainAttrs_str PySem.F.slot_str_join PySem.F.type_str_join mt_join mx_join ho ha hbase hfew hline hs hplain
theorem xg_subL (ha : XE X W a ma) (hb : XE X W b mb) (hr : ∀ v, assign (.Subscript a b pos) X.env v = (do
      let ov ← holding [v] (eval a X.env)
      let iv ← holding [v, ov] (eval b X.env)
      standAt pos
      holding [v, ov, iv] (setItem ov iv v)
      release [v, ov, iv] []) := by intro _; rfl) : XG X W (.Subscript a b pos) (gSubX fSetL ma mb) := xg_sub ha hb set_list sx_list hr
theorem xv (i : Nat) {x : Str} {pos : Pos} (hN : X.N[i]? = some x := by rfl) (hv : Vis X.env.scope x := by first | exact Or.inl rfl | exact Or.inr (Or.inl rfl) | exact Or.inr (Or.inr rfl)) (hd : (x == ("__debug__" : Str)) = false := by decide)
    (hcd : (x == ("__classdict__" : Str)) = false := by decide) : XE X W (.Name x pos) (mVar i) := xe_var (pe_var hN hv hd hcd)

/-! ### dict displays, keys ints and texts -/
def mPairs : List (M PV × M PV) → M (List (PV × PV))
  | [] => fun _ h => .ok [] h
  | (mk, mv) :: r => fun l h => (mk l h).bind fun x h1 => (mv l h1).bind fun y h2 => (mPairs r l h2).bind fun ps h3 => .ok ((x, y) :: ps) h3
def keyEq (a b : PV) : Bool := decide (keyP a = keyP b)
def putP (kvs : List (PV × PV)) (k v : PV) : List (PV × PV) :=
  if (kvs.any fun kv => keyEq kv.1 k) = true then kvs.map fun kv => if keyEq kv.1 k = true then (kv.1, v) else kv else kvs ++ [(k, v)]
def mDct (ps : List (M PV × M PV)) : M PV := fun l h => (mPairs ps l h).bind fun kvs h1 => if kvs.length ≤ 15 ∧ (kvs.all fun kv => (keyP kv.1).isSome) = true then .ok (.dct (kvs.foldl (fun acc kv => putP acc kv.1 kv.2) [])) h1 else .no
theorem xe_dct0 : XE X W (.Dict [] [] pos) (mC (.dct [])) := pe_weak pe_dnewK fun σ H Q ⟨ρ, h, l, p, rl, o⟩ q hq => by
  have e := p.new hq (.dK [])
  exact o ρ _ (.ref q) e.1 e.2 ⟨q, [], rfl, ⟨p.fresh hq, .inl upd_same⟩, rfl⟩
theorem xe_dctT0 : XE X W (.Dict [] [] pos) (mC (.dcT [])) := pe_weak pe_dnewT fun σ H Q ⟨ρ, h, l, p, rl, o⟩ q hq => by
  have e := p.new hq (.dT [])
  exact o ρ _ (.ref q) e.1 e.2 ⟨q, [], rfl, ⟨p.fresh hq, .inl upd_same⟩, rfl⟩
/-- .. to be changed -/
def mNewC (c : Cell) : M PV := fun _ h => .ok (.ref h.length) (h ++ [c])
theorem xe_dctN0 : XE X W (.Dict [] [] pos) (mNewC (.dct [])) := pe_weak pe_dnewK fun σ H Q ⟨ρ, h, l, p, rl, o⟩ q hq => by
  refine o _ _ (.ref q) (Ext.upd_add p hq _) (p.grow hq (c := .dct []) (o := .dK []) ⟨[], upd_same, rfl⟩) ⟨q, ?_, rfl⟩
  show (ρ.c ++ [q])[h.length]? = some q
  rw [p.len, List.getElem?_append_right (Nat.le_refl _)]; simp
theorem xe_dctTN0 : XE X W (.Dict [] [] pos) (mNewC (.dcT [])) := pe_weak pe_dnewT fun σ H Q ⟨ρ, h, l, p, rl, o⟩ q hq => by
  refine o _ _ (.ref q) (Ext.upd_add p hq _) (p.grow hq (c := .dcT []) (o := .dT []) ⟨[], upd_same, rfl⟩) ⟨q, ?_, rfl⟩
  show (ρ.c ++ [q])[h.length]? = some q
  rw [p.len, List.getElem?_append_right (Nat.le_refl _)]; simp
end
end Wg

namespace Wg
open PySem PySem.Spec PyProof.Rows L2 SlX
section
variable {K : KC} {ρ ρ' ρ1 : Pl} {H H' H1 : Hp} {h : Store} {X : Cx} {W : WQ} {pos : Pos}
theorem keyP_kV {k : PV} {c : Key} {v : V} (e : keyP k = some c) (r : RV K ρ H k v) : v = kV c := by
  cases k with
  | int i => cases e; exact r
  | str x => cases e; exact r
  | _ => cases e
theorem RVd.any {k : PV} {c : Key} (e : keyP k = some c) : ∀ {kvs : List (PV × PV)} {vs : List (Key × V)}, RVd K ρ H kvs vs → (kvs.any fun kv => keyEq kv.1 k) = vs.any fun kv => decide (kv.1 = c)
  | [], _, r => by rw [show _ = [] from r]; rfl
  | (k0, x) :: xs, _, ⟨c0, v, r, e1, e2, h1, h2⟩ => by
    subst e1
    rw [List.any_cons, List.any_cons, RVd.any e h2]
    congr 1
    show decide (keyP k0 = keyP k) = decide (c0 = c)
    rw [e2, e]
    by_cases z : c0 = c
    · subst z; simp
    · rw [decide_eq_false (fun q => z (Option.some.inj q)), decide_eq_false z]
theorem RVd.repl {k : PV} {c : Key} {y : PV} {u : V} (e : keyP k = some c) (ry : RV K ρ H y u) : ∀ {kvs : List (PV × PV)} {vs : List (Key × V)}, RVd K ρ H kvs vs →
    RVd K ρ H (kvs.map fun kv => if keyEq kv.1 k = true then (kv.1, y) else kv) (vs.map fun kv => if kv.1 = c then (kv.1, u) else kv)
  | [], _, r => by rw [show _ = [] from r]; rfl
  | (k0, x) :: xs, _, ⟨c0, v, r, e1, e2, h1, h2⟩ => by
    subst e1
    have ih := RVd.repl e ry h2
    rw [List.map_cons, List.map_cons]
    show RVd K ρ H ((if decide (keyP k0 = keyP k) = true then (k0, y) else (k0, x)) :: _) ((if c0 = c then (c0, u) else (c0, v)) :: _)
    rw [e2, e]
    by_cases z : c0 = c
    · subst z
      rw [if_pos (by simp), if_pos rfl]
      exact ⟨c0, u, _, rfl, e2, ry, ih⟩
    · rw [if_neg (by rw [decide_eq_false (fun q => z (Option.some.inj q))]; exact Bool.false_ne_true), if_neg z]
      exact ⟨c0, v, _, rfl, e2, h1, ih⟩
theorem RVd.app : ∀ {kvs ls : List (PV × PV)} {vs ws : List (Key × V)}, RVd K ρ H kvs vs → RVd K ρ H ls ws → RVd K ρ H (kvs ++ ls) (vs ++ ws)
  | [], _, _, _, r, q => by rw [show _ = [] from r]; exact q
  | (k0, x) :: xs, _, _, _, ⟨c0, v, r, e1, e2, h1, h2⟩, q => by subst e1; exact ⟨c0, v, _, rfl, e2, h1, RVd.app h2 q⟩
theorem RVd.len : ∀ {kvs : List (PV × PV)} {vs : List (Key × V)}, RVd K ρ H kvs vs → kvs.length = vs.length
  | [], _, r => by rw [show _ = [] from r] <;> rfl
  | (k0, x) :: xs, _, ⟨c0, v, r, e1, e2, h1, h2⟩ => by subst e1; rw [List.length_cons, List.length_cons, RVd.len h2]
theorem RVd.put {k : PV} {c : Key} {y : PV} {u : V} (e : keyP k = some c) (ry : RV K ρ H y u) {kvs : List (PV × PV)} {vs : List (Key × V)} (r : RVd K ρ H kvs vs) : RVd K ρ H (putP kvs k y) (putK vs c u) := by
  unfold putP putK
  rw [r.any e]
  split
  · exact r.repl e ry
  · exact r.app ⟨c, u, [], rfl, e, ry, rfl⟩

/-! ### displays of dicts -/
inductive XPs (X : Cx) (W : WQ) (pos : Pos) : List (Option Expr) → List Expr → List (M PV × M PV) → Prop
  | nil : XPs X W pos [] [] []
  | cons {k v : Expr} {ks vs mk mv r} : XE X W k mk → XE X W v mv → XPs X W pos ks vs r → XPs X W pos (some k :: ks) (v :: vs) ((mk, mv) :: r)
theorem xps_pps {ks : List (Option Expr)} {vs : List Expr} {r : List (M PV × M PV)} (h : XPs X W pos ks vs r) : PPs X pos ks vs (r.map fun p => (tM (kc X W) W p.1, tM (kc X W) W p.2)) := by
  induction h with
  | nil => exact pps_nil
  | cons h1 h2 _ ih => exact pps_cons h1 h2 ih
/-- pairs of values -/
def RVp (K : KC) (ρ : Pl) (H : Hp) : List (PV × PV) → List (V × V) → Prop
  | [], ps => ps = []
  | (k, x) :: r, ps => ∃ a b q, ps = (a, b) :: q ∧ RV K ρ H k a ∧ RV K ρ H x b ∧ RVp K ρ H r q
theorem tPairs_of {K : KC} {W : WQ} {l : Lv} {σ : L2.St} : ∀ {r : List (M PV × M PV)} {ρ : Pl} {h : Store} {H : Hp} {Q : List (V × V) → Hp → Prop}, Rep K ρ h H → RL K ρ H l σ →
    Out K ρ H (RVp K) (fun c d H' => W c d σ H') (mPairs r l h) Q → tPairs (r.map fun p => (tM K W p.1, tM K W p.2)) σ H Q
  | [], ρ, h, H, Q, p, rl, o => o.ok p rfl
  | (mk, mv) :: r, ρ, h, H, Q, p, rl, o => ⟨ρ, h, l, p, rl, Out.mono (Out.bind o) fun a H1 ⟨x, h1, ρ1, e1, p1, r1, o1⟩ => ⟨ρ1, h1, l, p1, rl.ext e1, Out.mono (Out.bind o1) fun b H2 ⟨y, h2, ρ2, e2, p2, r2, o2⟩ =>
      tPairs_of p2 ((rl.ext e1).ext e2) (Out.mono (Out.bind o2) fun ps H3 ⟨zs, h3, ρ3, e3, p3, r3, o3⟩ => o3.ok p3 ⟨a, b, ps, rfl, (r1.ext e2).ext e3, r2.ext e3, r3⟩)⟩⟩
theorem RVp.keys : ∀ {kvs : List (PV × PV)} {ps : List (V × V)}, RVp K ρ H kvs ps → (kvs.all fun kv => (keyP kv.1).isSome) = true → ∃ cs : List (Key × V), ps = cs.map (fun kv => (kV kv.1, kv.2)) ∧ cs.length = kvs.length ∧
    ∀ {ρ2 : Pl} {H2 : Hp} {acc : List (PV × PV)} {ac : List (Key × V)}, Kp ρ H ρ2 H2 → RVd K ρ2 H2 acc ac → RVd K ρ2 H2 (kvs.foldl (fun acc kv => putP acc kv.1 kv.2) acc) (mergeK ac cs)
  | [], _, r, _ => ⟨[], by rw [show _ = [] from r]; rfl, rfl, fun _ q => q⟩
  | (k, x) :: rs, _, ⟨a, b, q, e1, h1, h2, h3⟩, hall => by
    rw [List.all_cons, Bool.and_eq_true] at hall
    obtain ⟨c, hc⟩ := Option.isSome_iff_exists.mp hall.1
    obtain ⟨cs, e2, e3, f⟩ := RVp.keys h3 hall.2
    refine ⟨(c, b) :: cs, by rw [e1, e2, keyP_kV hc h1]; rfl, by rw [List.length_cons, List.length_cons, e3], fun {ρ2 H2 acc ac} k2 q2 => ?_⟩
    exact f k2 (q2.put hc (RV.kp k2 _ _ h2))
def mDctX (ps : List (M PV × M PV)) : M PV := fun l h => (mPairs ps l h).noX.bind fun kvs h1 => if kvs.length ≤ 15 ∧ (kvs.all fun kv => (keyP kv.1).isSome) = true then .ok (.dct (kvs.foldl (fun acc kv => putP acc kv.1 kv.2) [])) h1 else .no
theorem xe_dct {ks : List (Option Expr)} {vs : List Expr} {r : List (M PV × M PV)} (h : XPs X W pos ks vs r) (hall : ks.all (·.isSome) = true := by rfl) (hl : ks.length = vs.length := by rfl) (h0 : ks ≠ [] := by exact List.cons_ne_nil _ _) (h15 : ks.length ≤ 15 := by decide) :
    XE X W (.Dict ks vs pos) (mDctX r) := pe_weak (pe_disp (xps_pps h) hall hl h0 h15) fun σ H Q ⟨ρ, h, l, p, rl, o⟩ q hq => by
  unfold mDctX at o
  cases e : mPairs r l h with
  | no => rw [e] at o; exact o.elim
  | exc _ _ => rw [e] at o; exact o.elim
  | ok kvs h' =>
    rw [e] at o
    have o : Out (kc X W) ρ H (RV (kc X W)) (fun c d H' => W c d σ H') (if kvs.length ≤ 15 ∧ (kvs.all fun kv => (keyP kv.1).isSome) = true then .ok (.dct (kvs.foldl (fun acc kv => putP acc kv.1 kv.2) [])) h' else .no) Q := o
    obtain ⟨⟨c1, c2⟩, o⟩ := out_if o
    have nq := p.fresh hq
    refine tPairs_of (p.hide hq _) (rl.kp (Kp.hide hq _)) ?_
    rw [e]
    intro ρ' H2 ps x p2 rps
    obtain ⟨cs, e1, e2, f⟩ := RVp.keys rps c2
    have ncq : q ∉ (ρ.hide q).c := fun z => nq (.inl z)
    have hv : H2 q = some (.dK []) := x.old q _ ncq (.inl (by rw [show (ρ.hide q).hid = q :: ρ.hid from rfl]; exact List.mem_cons_self)) upd_same
    have nc' : q ∉ ρ'.c := by
      obtain ⟨m, m1, m2⟩ := x.pre
      intro z
      rw [m1] at z
      rcases List.mem_append.mp z with z | z
      · exact ncq z
      · exact (m2 q z).1 (.inr List.mem_cons_self)
    refine ⟨hv, cs, e1, by rw [e2]; exact c1, ?_⟩
    have hh : ρ'.hid = q :: ρ.hid := x.hid
    obtain ⟨c', hid'⟩ := ρ'
    cases hh
    have k2 : Kp ⟨c', q :: ρ.hid⟩ H2 ⟨c', ρ.hid⟩ (upd H2 q (.dK (mergeK [] cs))) := (Kp.hid_upd List.mem_cons_self _).trans Kp.out
    refine o ⟨c', ρ.hid⟩ _ (.ref q) ⟨?_, rfl, fun b u hb st hu => ?_, fun b u hb hu => ?_⟩ (p2.hid_upd List.mem_cons_self nc' _).out ⟨q, _, rfl, ⟨fun z => z.elim nc' fun z => nq (.inr z), .inl upd_same⟩, f k2 rfl⟩
    · obtain ⟨m, m1, m2⟩ := x.pre
      refine ⟨m, m1, fun b hb => ⟨fun z => (m2 b hb).1 (z.elim .inl fun z => .inr (List.mem_cons_of_mem _ z)), ?_⟩⟩
      have z := (m2 b hb).2
      rwa [upd_ne (fun z => (m2 b hb).1 (.inr (by rw [z]; exact List.mem_cons_self)))] at z
    · rw [upd_ne (ne_of_none hu hq)]
      exact x.old b u hb (st.imp (fun z => List.mem_cons_of_mem _ z) id) (by rw [upd_ne (ne_of_none hu hq)]; exact hu)
    · rw [upd_ne (ne_of_none hu hq)]
      exact x.lok b u hb (by rw [upd_ne (ne_of_none hu hq)]; exact hu)
end
end Wg

namespace Wg
open PySem PySem.Spec PyProof.Rows L2 SlX
theorem foldRep (z : List Nat) : ∀ (m : Nat) (acc : List Nat), List.foldl (fun x1 x2 => x1 ++ x2) acc.toArray (List.replicate m z.toArray) = (acc ++ (List.replicate m z).flatten).toArray
  | 0, acc => by simp
  | m + 1, acc => by
    rw [List.replicate_succ, List.foldl_cons, List.append_toArray, foldRep z m, List.replicate_succ, List.flatten_cons, List.append_assoc]
section
variable {K : KC} {ρ : Pl} {H : Hp} {h : Store} {X : Cx} {W : WQ} {pos : Pos} {a b : Expr} {ma mb : M PV}
/-- a text some times -/
def rMulS : R2 := fun x y H Q => ∃ (z : List Nat) (k : Int), x = strV z ∧ y = .int k ∧ 2 ≤ k ∧ k ≤ 1000 ∧ z.length ≤ 1000 ∧ z ≠ [] ∧ Q (strV (List.replicate k.toNat z).flatten) H
theorem op_mulS : OpR X (binaryOp .Mult) rMulS := by
  intro pins s σ H x y v u Q I rx ry h
  obtain ⟨z, k, rfl, rfl, h1, h2, h3, h4, q⟩ := h
  obtain ⟨t, rfl⟩ := rx
  obtain ⟨t', rfl⟩ := ry
  have hz : (⟨z.toArray⟩ : Str).length = z.length := by simp [Str.length]
  have h5 : z.length ≠ 0 := fun e => h4 (List.length_eq_zero_iff.mp e)
  have n1 : ¬ k < 1 := by omega
  have n2 : (k == 1 || (⟨z.toArray⟩ : Str).length == 0) = false := by
    rw [hz]
    simp only [Bool.or_eq_false_iff, beq_eq_false_iff_ne]
    exact ⟨by omega, h5⟩
  refine PySem.P.mul_str (by
      have a1 : ¬ k < -(2 ^ 63 : Int) := by omega
      have a2 : ¬ k ≥ 2 ^ 63 := by omega
      rw [decide_eq_false a1, decide_eq_false a2]; rfl) (fun _ _ => ?_) (fun _ _ => ?_) ?_
  · rw [hz]
    have : (1000 : Int) ≤ (2 ^ 63 - 1) / k := by
      rw [Int.le_ediv_iff_mul_le (by omega)]
      omega
    omega
  · rw [hz]
    have : z.length * k.toNat ≤ 1000 * 1000 := Nat.mul_le_mul h3 (by omega)
    refine decide_eq_false ?_
    have : (sizeLine : Nat) = 16777216 := by decide
    omega
  · rw [if_neg n1, if_neg (by rw [n2]; exact Bool.false_ne_true)]
    have e := foldRep z k.toNat []
    rw [List.nil_append] at e
    show (Made.str ⟨(List.replicate k.toNat z.toArray).foldl (· ++ ·) #[]⟩).post _ s
    have e' : List.foldl (fun x1 x2 => x1 ++ x2) (#[] : Array Nat) (List.replicate k.toNat z.toArray) = ((List.replicate k.toNat z).flatten).toArray := e
    rw [e']
    have hl : (List.replicate k.toNat z).flatten.length ≤ 1000000 := by
      rw [List.length_flatten, List.map_replicate, List.sum_replicate_nat]
      have : k.toNat * z.length ≤ 1000 * 1000 := Nat.mul_le_mul (by omega) h3
      omega
    exact ⟨by show _ ≤ 16777216; simp only [Str.length, List.size_toArray]; omega, .str _, H, I.tok _, ⟨_, rfl⟩, q⟩
def fMulA (x y : PV) (h : Store) : R PV := match x, y with
  | .str z, .int k => if 2 ≤ k ∧ k ≤ 1000 ∧ z.length ≤ 1000 ∧ z ≠ [] then .ok (.str (List.replicate k.toNat z).flatten) h else .no
  | _, _ => fMul x y h
theorem ox_mulA : OpX X W fMulA (fun x y H Q => rMulA x y H Q ∨ rMulS x y H Q) := by
  intro ρ h σ H x y v w Q p rx ry o
  unfold fMulA at o
  split at o
  next z k =>
    cases rx; cases ry
    obtain ⟨c, o⟩ := out_if o
    exact .inr ⟨z, k, rfl, rfl, c.1, c.2.1, c.2.2.1, c.2.2.2, o.ok p rfl⟩
  next => exact .inl (ox_mul ρ h σ H x y v w Q p rx ry o)
theorem xe_mulA (ha : XE X W a ma) (hb : XE X W b mb) : XE X W (.BinOp a .Mult b pos) (mBin fMulA ma mb) := xe_bin (op_mulA.or op_mulS) ox_mulA ha hb
theorem xe_gInt {x : Str} {i : Int} {t : Tok} (hm : X.mg x = some (.int i t)) (hg : Gl X x := by rfl) (hd : (x == ("__debug__" : Str)) = false := by decide) : XE X W (.Name x pos) (mC (.int i)) := xe_glob (pe_glob (v := .int i) hg hm ⟨t, rfl⟩ hd) fun _ _ _ _ => rfl
theorem xe_gStr {x : Str} {z : List Nat} {t : Tok} (hm : X.mg x = some (.str ⟨z.toArray⟩ t)) (hg : Gl X x := by rfl) (hd : (x == ("__debug__" : Str)) = false := by decide) : XE X W (.Name x pos) (mC (.str z)) := xe_glob (pe_glob (v := strV z) hg hm ⟨t, rfl⟩ hd) fun _ _ _ _ => rfl
/-- a tuple of the text's own part -/
theorem xe_gTup {x : Str} {p : Addr} {xs : List PV} (hm : X.mg x = some (.ref p)) (ht : ∀ ρ H h, Rep (kc X W) ρ h H → RV (kc X W) ρ H (.tup xs) (.ref p)) (hg : Gl X x := by rfl) (hd : (x == ("__debug__" : Str)) = false := by decide) : XE X W (.Name x pos) (mC (.tup xs)) := xe_glob (pe_glob (v := .ref p) hg hm rfl hd) ht
end
end Wg

namespace Wg
open PySem PySem.Spec PyProof.Rows L2 SlX
/-- the law, plainly -/
def PlainOk (F : FN) : Prop := ∀ ns : List Int, ns.length ≤ 63 → ∃ h, F [.scr (ns.map .int)] [] = .ok (.bl true) h
theorem rvs_ints {K : KC} {ρ : Pl} {H : Hp} : ∀ ns : List Int, RVs K ρ H (ns.map .int) (ns.map V.int)
  | [] => rfl
  | n :: ns => ⟨.int n, _, rfl, rfl, rvs_ints ns⟩
theorem sp_law {w : World} {K : PySem.W.Frag} {mg : Str → Option Value} {F : FN} (plain : PlainOk F) {H : Hp} {a : Addr} {ns : List Int} (hl : ns.length ≤ 63) (hS : SqL K H a (ns.map V.int)) : spM w K mg F [.ref a] H (fun v _ => v = .bl true) fun _ _ _ => False := by
  obtain ⟨h, e⟩ := plain ns hl
  refine ⟨⟨[], []⟩, [], [.scr (ns.map .int)], ⟨rfl, List.nodup_nil, fun i c p q => by simp at q, fun p hp => absurd hp List.not_mem_nil, fun _ h => absurd h List.not_mem_nil⟩, ⟨.ref a, [], rfl, ⟨a, _, rfl, ?_, rvs_ints ns⟩, rfl⟩, ?_⟩
  · exact Or.imp (fun hS => ⟨fun z => z.elim (fun z => List.not_mem_nil z) fun z => List.not_mem_nil z, hS⟩) id hS
  · rw [e]
    exact fun _ _ v _ _ r => r
theorem cx_none {P : Program} {w : World} {H : Hp} {s s' : Shared} {e : Value} (z : L2.CX P w [] H s (fun _ _ _ => False) e s') : False := by
  obtain ⟨_, _, _, _, _, _, _, _, _, _, _, _, z⟩ := z
  exact z
/-- a promise that does not hang on the module's names -/
def spA (w : World) (K : PySem.W.Frag) (f : FN) : Sp := fun vs H Q E => ∀ mg, spM w K mg f vs H Q E
theorem fn_A {P : Program} {w : World} {K : PySem.W.Frag} {mg : Str → Option Value} {base : Heap} {k : Nat} {f : Addr} {fd : FuncData} {ps : List Str} {F : FN} (o : FnG P w K mg base (L2.CX P w) k f fd ps (spM w K mg F)) : FnG P w K mg base (L2.CX P w) k f fd ps (spA w K F) :=
  { o with
    len := fun vs H Q E h => o.len vs H Q E (h mg)
    run := fun A outer s H args us vs Q E hr hG h0 hb hv h => o.run A outer s H args us vs Q E hr hG h0 hb hv (h mg) }
end Wg

namespace Wg
open PySem
/-! ### reasoning about what the functions tell -/
def Ok {α : Type} (r : R α) (Q : α → Store → Prop) : Prop := ∃ a h, r = .ok a h ∧ Q a h
section
variable {α β : Type}
@[simp] theorem Ok_ok (a : α) (h : Store) (Q : α → Store → Prop) : Ok (.ok a h) Q = Q a h := propext ⟨fun ⟨_, _, e, q⟩ => by cases e; exact q, fun q => ⟨a, h, rfl, q⟩⟩
@[simp] theorem Ok_no (Q : α → Store → Prop) : Ok (.no : R α) Q = False := propext ⟨fun ⟨_, _, e, _⟩ => (by cases e), False.elim⟩
@[simp] theorem Ok_exc (e : Ex) (h : Store) (Q : α → Store → Prop) : Ok (.exc e h : R α) Q = False := propext ⟨fun ⟨_, _, e, _⟩ => (by cases e), False.elim⟩
theorem Ok.mono {r : R α} {P Q : α → Store → Prop} (o : Ok r P) (m : ∀ a h, P a h → Q a h) : Ok r Q := let ⟨a, h, e, q⟩ := o; ⟨a, h, e, m a h q⟩
theorem Ok.call {r : R α} {P : α → Store → Prop} {k : α → Store → R β} {Q : β → Store → Prop} (o : Ok r P) (m : ∀ a h, P a h → Ok (k a h) Q) : Ok (r.bind k) Q := by
  obtain ⟨a, h, rfl, q⟩ := o
  exact m a h q
theorem Ok.noX {r : R α} {Q : α → Store → Prop} (o : Ok r Q) : Ok r.noX Q := by
  obtain ⟨a, h, rfl, q⟩ := o
  exact ⟨a, h, rfl, q⟩
theorem Ok.out {r : R α} {Q : α → Store → Prop} (o : Ok r Q) : ∃ a h, r = .ok a h ∧ Q a h := o
theorem Ok.of {r : R α} {a : α} {h : Store} (e : r = .ok a h) {Q : α → Store → Prop} (q : Q a h) : Ok r Q := ⟨a, h, e, q⟩
theorem Ok.ret {a : α} {h : Store} {Q : α → Store → Prop} (q : Q a h) : Ok (.ok a h) Q := ⟨a, h, rfl, q⟩
@[simp] theorem bs_ok (a : α) (h : Store) (l : Lv) (k : α → Store → R Fl) : (R.ok a h).bs l k = k a h := (rfl)
@[simp] theorem bs_exc (e : Ex) (h : Store) (l : Lv) (k : α → Store → R Fl) : (R.exc e h : R α).bs l k = .ok (.ex e l) h := (rfl)
@[simp] theorem noX_ok (a : α) (h : Store) : (R.ok a h).noX = .ok a h := (rfl)
end
/-- a value that is handed over -/
theorem handO_same {n0 : Nat} {x : PV} {h : Store} (e : h.length = n0) : handO n0 x h = .ok x h := if_pos e
theorem handX_same {n0 : Nat} {x : Ex} {h : Store} (e : h.length = n0) : handX n0 x h = .exc x h := if_pos e
@[simp] theorem handO_self {x : PV} {h : Store} : handO h.length x h = .ok x h := if_pos rfl
theorem handO_cut {x y : PV} {h ls : Store} (hl : ls ≠ []) (hb : h.all (belowC h.length) = true) (e : frz (h ++ ls) h.length 40 x = some y) : handO h.length x (h ++ ls) = .ok y h := by
  unfold handO
  have z : ¬ (h ++ ls).length = h.length := by
    have := List.length_pos_iff.mpr hl
    rw [List.length_append]; omega
  rw [if_neg z, List.take_left, if_pos hb, e]
/-- of a def -/
theorem Ok.def {np n : Nat} {body : MS} {args : List PV} {h : Store} {Q : PV → Store → Prop} (hl : args.length = np)
    (o : Ok (body (initL n args) h) fun f h' => match f with
      | .rt x => Ok (handO h.length x h') Q
      | .nx _ => Ok (handO h.length .non h') Q
      | _ => False) : Ok (runDef np n body args h) Q := by
  unfold runDef
  rw [if_pos hl]
  obtain ⟨f, h', e, o⟩ := o
  rw [e]
  cases f with
  | rt x => exact o
  | nx l => exact o
  | bk l => exact o.elim
  | ct l => exact o.elim
  | ex e l => exact o.elim
theorem Ok.defN {np n : Nat} {body : MS} {args : List PV} {h : Store} {Q : PV → Store → Prop} (hl : args.length = np)
    (o : Ok (body (initL n args) h) fun f h' => match f with
      | .rt x => Q x h'
      | .nx _ => Q .non h'
      | _ => False) : Ok (runDefN np n body args h) Q := by
  unfold runDefN
  rw [if_pos hl]
  obtain ⟨f, h', e, o⟩ := o
  rw [e]
  cases f with
  | rt x => exact ⟨_, _, rfl, o⟩
  | nx l => exact ⟨_, _, rfl, o⟩
  | bk l => exact o.elim
  | ct l => exact o.elim
  | ex e l => exact o.elim
theorem Ok.bs {α : Type} {r : R α} {P : α → Store → Prop} {l : Lv} {k : α → Store → R Fl} {Q : Fl → Store → Prop} (o : Ok r P) (m : ∀ a h, P a h → Ok (k a h) Q) : Ok (r.bs l k) Q := by
  obtain ⟨a, h, rfl, q⟩ := o
  exact m a h q
section
variable {a b c : M PV} {ta tb tc : M Bool} {ms : M (List PV)} {s s1 s2 : MS} {l : Lv} {h : Store} {g : MG} {src : M (List PV)}
@[simp] theorem mVar_at (i : Nat) : mVar i l h = match l[i]? with
  | some (some x) => .ok x h
  | _ => .no := (rfl)
@[simp] theorem mC_at (x : PV) : mC x l h = .ok x h := (rfl)
@[simp] theorem mBin_at (f) : mBin f a b l h = (a l h).bind fun x h1 => (b l h1).bind fun y h2 => f x y h2 := (rfl)
@[simp] theorem mB_at : mB a l h = (a l h).bind fun x h1 => match x with
  | .bl b => .ok b h1
  | _ => .no := (rfl)
@[simp] theorem mAndT_at : mAndT ta tb l h = (ta l h).bind fun c h1 => if c = true then tb l h1 else .ok false h1 := (rfl)
@[simp] theorem mOrT_at : mOrT ta tb l h = (ta l h).bind fun c h1 => if c = true then .ok true h1 else tb l h1 := (rfl)
@[simp] theorem mNotT_at : mNotT ta l h = (ta l h).bind fun c h1 => .ok (!c) h1 := (rfl)
@[simp] theorem mAnd_at : mAnd a b l h = (a l h).bind fun x h1 => match x with
  | .bl c => if c = true then b l h1 else .ok (.bl false) h1
  | _ => .no := (rfl)
@[simp] theorem mOr_at : mOr a b l h = (a l h).bind fun x h1 => match x with
  | .bl c => if c = true then .ok (.bl true) h1 else b l h1
  | _ => .no := (rfl)
@[simp] theorem mNot_at : mNot a l h = (a l h).bind fun x h1 => match x with
  | .bl c => .ok (.bl (!c)) h1
  | _ => .no := (rfl)
@[simp] theorem mIfE_at : mIfE ta a b l h = (ta l h).bind fun k h1 => if k = true then a l h1 else b l h1 := (rfl)
@[simp] theorem mChain_at (f g) : mChain f g a b c l h = (a l h).bind fun x h1 => (b l h1).bind fun y h2 => (f x y h2).bind fun k h3 => match k with
  | .bl k => if k = true then (c l h3).bind fun z h4 => g y z h4 else .ok (.bl false) h3
  | _ => .no := (rfl)
@[simp] theorem mNil_at : mNil l h = .ok [] h := (rfl)
@[simp] theorem mCons_at : mCons a ms l h = (a l h).bind fun x h1 => (ms l h1).bind fun xs h2 => .ok (x :: xs) h2 := (rfl)
@[simp] theorem mTup_at : mTup ms l h = (ms l h).bind fun xs h1 => if xs.length ≤ sizeLine then .ok (.tup xs) h1 else .no := (rfl)
@[simp] theorem mLst_at : mLst ms l h = (ms l h).bind fun xs h1 => if xs.length ≤ sizeLine then .ok (.lst xs) h1 else .no := (rfl)
@[simp] theorem mLstN_at : mLstN ms l h = (ms l h).bind fun xs h1 => if xs.length ≤ sizeLine then .ok (.ref h1.length) (h1 ++ [.lst xs]) else .no := (rfl)
@[simp] theorem mCall_at (f : FN) : mCall f ms l h = (ms l h).bind f := (rfl)
@[simp] theorem mUn_at (f) : mUn f a l h = (a l h).bind f := (rfl)
@[simp] theorem mMeth_at (T f) : mMeth T f a ms l h = (a l h).bind fun x h1 => if tyM h1 T x = true then (ms l h1).bind fun xs h2 => f x xs h2 else .no := (rfl)
@[simp] theorem mDone_at : mDone l h = .ok (.nx l) h := (rfl)
@[simp] theorem mSeq_at : mSeq s1 s2 l h = (s1 l h).bind fun f h1 => f.on h1 s2 := (rfl)
@[simp] theorem on_nx (h : Store) (k : Lv → Store → R Fl) : (Fl.nx l).on h k = k l h := (rfl)
@[simp] theorem on_rt (x : PV) (h : Store) (k : Lv → Store → R Fl) : (Fl.rt x).on h k = .ok (.rt x) h := (rfl)
@[simp] theorem on_bk (h : Store) (k : Lv → Store → R Fl) : (Fl.bk l).on h k = .ok (.bk l) h := (rfl)
@[simp] theorem on_ct (h : Store) (k : Lv → Store → R Fl) : (Fl.ct l).on h k = .ok (.ct l) h := (rfl)
@[simp] theorem mRet_at : mRet a l h = (a l h).bs l fun x h1 => .ok (.rt x) h1 := (rfl)
@[simp] theorem mRetN_at : mRetN l h = .ok (.rt .non) h := (rfl)
@[simp] theorem mDrop_at : mDrop a l h = (a l h).bs l fun _ h1 => .ok (.nx l) h1 := (rfl)
@[simp] theorem mBreak_at : mBreak l h = .ok (.bk l) h := (rfl)
@[simp] theorem mCont_at : mCont l h = .ok (.ct l) h := (rfl)
@[simp] theorem mIf_at : mIf tc s1 s2 l h = (tc l h).bs l fun k h1 => if k = true then s1 l h1 else s2 l h1 := (rfl)
@[simp] theorem gVar_at (i : Nat) (x : PV) : gVar i x l h = .ok (l.set i (some x)) h := (rfl)
@[simp] theorem mSet_at (i : Nat) : mSet i a l h = (a l h).bs l fun x h1 => .ok (.nx (l.set i (some x))) h1 := (rfl)
@[simp] theorem gSubX_at (f) (z : PV) : gSubX f a b z l h = (a l h).bind fun x h1 => (b l h1).bind fun y h2 => (f x y z h2).bind fun _ h3 => .ok l h3 := (rfl)
@[simp] theorem mAsg_at : mAsg a g l h = (a l h).bs l fun x h1 => (g x l h1).noX.bind fun l2 h2 => .ok (.nx l2) h2 := (rfl)
@[simp] theorem mYes_at : mYes l h = .ok true h := (rfl)
@[simp] theorem mItC_at (f) : mItC f ms l h = (ms l h).bind f := (rfl)
@[simp] theorem mItS_at : mItS a l h = (a l h).bind fun x h1 => match x with
  | .str z => .ok (z.map fun c => .str [c]) h1
  | _ => .no := (rfl)
@[simp] theorem mFor_at : mFor src g s l h = (src l h).bs l fun ys h1 => forL g s ys l h1 := (rfl)
@[simp] theorem mLc_at (own : List Nat) (t : M Bool) (e : M PV) : mLc src own g t e l h = (src l h).bind fun ys h1 =>
  if ys.length ≤ sizeLine then (lcL g t e ys (wipeL l own) h1).bind fun zs h2 => .ok (.lst zs) h2 else .no := (rfl)
@[simp] theorem mLcN_at (own : List Nat) (t : M Bool) (e : M PV) : mLcN src own g t e l h = (src l h).bind fun ys h1 =>
  if ys.length ≤ sizeLine then (lcL g t e ys (wipeL l own) h1).bind fun zs h2 => .ok (.ref h2.length) (h2 ++ [.lst zs]) else .no := (rfl)
@[simp] theorem wipeL_nil : wipeL l [] = l := (rfl)
@[simp] theorem wipeL_cons (v : Nat) (vs : List Nat) : wipeL l (v :: vs) = (wipeL l vs).set v none := (rfl)
theorem initL_at (n : Nat) (args : List PV) : initL n args = args.map some ++ List.replicate (n - args.length) none := rfl
/-- a for loop by an invariant -/
theorem Ok.forL {body : MS} {Q : Fl → Store → Prop} (Inv : Lv → Store → Prop) (hQ : ∀ l h, Inv l h → Q (.nx l) h) : ∀ {ys : List PV} {l : Lv} {h : Store}, Inv l h →
    (∀ y ∈ ys, ∀ l h, Inv l h → Ok (g y l h) fun l1 h1 => Ok (body l1 h1) fun f h2 => match f with
      | .nx l2 => Inv l2 h2
      | .ct l2 => Inv l2 h2
      | .bk l2 => Q (.nx l2) h2
      | .rt x => Q (.rt x) h2
      | .ex e l2 => Q (.ex e l2) h2) → Ok (forL g body ys l h) Q
  | [], l, h, i, _ => ⟨_, _, rfl, hQ l h i⟩
  | y :: ys, l, h, i, st => by
    refine Ok.call (st y List.mem_cons_self l h i).noX fun l1 h1 o => Ok.call o fun f h2 o2 => ?_
    cases f with
    | nx l2 => exact Ok.forL Inv hQ o2 fun y hy => st y (List.mem_cons_of_mem _ hy)
    | ct l2 => exact Ok.forL Inv hQ o2 fun y hy => st y (List.mem_cons_of_mem _ hy)
    | bk l2 => exact ⟨_, _, rfl, o2⟩
    | rt x => exact ⟨_, _, rfl, o2⟩
    | ex e l2 => exact ⟨_, _, rfl, o2⟩
/-- a comprehension that changes the store: what holds of each element -/
theorem Ok.lcL {t : M Bool} {e : M PV} (Inv : Store → Prop) (P : PV → Prop) : ∀ {ys : List PV} {l : Lv} {h : Store}, Inv h →
    (∀ y ∈ ys, ∀ h, Inv h → Ok (g y l h) fun l1 h1 => Ok (t l1 h1) fun b h2 => if b = true then Ok (e l1 h2) fun z h3 => P z ∧ Inv h3 else Inv h2) →
    Ok (lcL g t e ys l h) fun zs h' => Inv h' ∧ (∀ z ∈ zs, P z) ∧ zs.length ≤ ys.length
  | [], l, h, i, _ => ⟨_, _, rfl, i, (fun z hz => absurd hz List.not_mem_nil), Nat.le_refl _⟩
  | y :: ys, l, h, i, st => by
    refine Ok.call (st y List.mem_cons_self h i).noX fun l1 h1 o => Ok.call o.noX fun b h2 o2 => ?_
    cases b with
    | false => exact (Ok.lcL Inv P o2 fun y hy => st y (List.mem_cons_of_mem _ hy)).mono fun zs h' q => ⟨q.1, q.2.1, Nat.le_succ_of_le q.2.2⟩
    | true =>
      refine Ok.call (Ok.noX o2) fun z h3 o3 => Ok.call (Ok.lcL Inv P o3.2 fun y hy => st y (List.mem_cons_of_mem _ hy)) fun zs h4 q => ⟨_, _, rfl, q.1, fun w hw => ?_, Nat.succ_le_succ q.2.2⟩
      rcases List.mem_cons.mp hw with z' | z'
      · rw [z']; exact o3.1
      · exact q.2.1 w z'
/-- .. that changes nothing -/
theorem lcL_eq {t : M Bool} {e : M PV} (B : PV → Bool) (F : PV → PV) : ∀ {ys : List PV} {l : Lv} {h : Store},
    (∀ y ∈ ys, ∃ l1, g y l h = .ok l1 h ∧ t l1 h = .ok (B y) h ∧ (B y = true → e l1 h = .ok (F y) h)) → lcL g t e ys l h = .ok ((ys.filter B).map F) h
  | [], l, h, _ => rfl
  | y :: ys, l, h, st => by
    obtain ⟨l1, e1, e2, e3⟩ := st y List.mem_cons_self
    have ih := lcL_eq (h := h) (l := l) B F fun y hy => st y (List.mem_cons_of_mem _ hy)
    show (g y l h).noX.bind (fun l1 h1 => (t l1 h1).noX.bind fun b h2 => if b = true then (e l1 h2).noX.bind fun z h3 => (Wg.lcL g t e ys l h3).bind fun zs h4 => .ok (z :: zs) h4 else Wg.lcL g t e ys l h2) = _
    rw [e1]
    show (t l1 h).noX.bind (fun b h2 => if b = true then (e l1 h2).noX.bind fun z h3 => (Wg.lcL g t e ys l h3).bind fun zs h4 => .ok (z :: zs) h4 else Wg.lcL g t e ys l h2) = _
    rw [e2]
    cases hb : B y with
    | false => rw [List.filter_cons, if_neg (by rw [hb]; exact Bool.false_ne_true)]; exact ih
    | true =>
      rw [List.filter_cons, if_pos hb]
      show (e l1 h).noX.bind (fun z h3 => (Wg.lcL g t e ys l h3).bind fun zs h4 => .ok (z :: zs) h4) = _
      rw [e3 hb]
      show (Wg.lcL g t e ys l h).bind (fun zs h4 => .ok (F y :: zs) h4) = _
      rw [ih]
      rfl
end
/-! ### figures of numbers -/
theorem repr_nat (n : Nat) : (toString n).toList = Nat.toDigits 10 n := by
  show (Nat.repr n).toList = _
  unfold Nat.repr
  simp
theorem digs_nat (n : Nat) : digs (n : Int) = TL.numL n := by
  show ((toString ((n : Nat) : Int)).toList).map Char.toNat = (Nat.toDigits 10 n).map Char.toNat
  have : toString ((n : Nat) : Int) = toString n := rfl
  rw [this, repr_nat]
theorem digs_neg (n : Nat) : digs (-((n + 1 : Nat) : Int)) = 45 :: TL.numL (n + 1) := by
  have e : (-((n + 1 : Nat) : Int)) = Int.negSucc n := rfl
  rw [e]
  show (toString (Int.negSucc n)).toList.map Char.toNat = _
  have : (toString (Int.negSucc n)) = "-" ++ toString (n + 1) := rfl
  rw [this, String.toList_append, List.map_append, repr_nat]
  rfl
open PySem.NumText in
theorem digitsVal_lt : ∀ (n : Nat) (cs : List Nat), cs.length = n → (∀ c ∈ cs, 48 ≤ c ∧ c ≤ 57) → digitsVal cs < 10 ^ n
  | 0, cs, e, _ => by rw [List.length_eq_zero_iff.mp e]; decide
  | n + 1, cs, e, h => by
    have hne : cs ≠ [] := fun z => by rw [z] at e; cases e
    obtain ⟨as, c, rfl⟩ : ∃ as c, cs = as ++ [c] := ⟨cs.dropLast, cs.getLast hne, (List.dropLast_concat_getLast hne).symm⟩
    rw [digitsVal_snoc]
    have ih := digitsVal_lt n as (by simpa using e) fun d hd => h d (List.mem_append_left _ hd)
    have hc := h c (List.mem_append_right _ List.mem_cons_self)
    rw [Nat.pow_succ]
    omega
theorem numL_lenge {n k : Nat} (h : 10 ^ k ≤ n) : k < (TL.numL n).length := by
  have a := digitsVal_lt _ (TL.numL n) rfl fun c hc => by
    have z := TL.numL_digits n c hc
    exact ⟨z.1, z.2⟩
  rw [TL.numL_val] at a
  exact (Nat.pow_lt_pow_iff_right (by decide : 1 < 10)).mp (Nat.lt_of_le_of_lt h a)
theorem numL_len_iff {n k : Nat} (hk : 0 < k) : (TL.numL n).length ≤ k ↔ n < 10 ^ k :=
  ⟨fun h => Nat.lt_of_not_le fun z => absurd (numL_lenge z) (by omega), TL.numL_len hk⟩
theorem digs_len (i : Int) : ((digs i).length : Int) = (TL.numL i.natAbs).length + (if i < 0 then 1 else 0) := by
  cases i with
  | ofNat n =>
    have : ¬ (Int.ofNat n < 0) := Int.not_lt.mpr (Int.natCast_nonneg n)
    rw [if_neg this]
    show ((digs (n : Int)).length : Int) = _
    rw [digs_nat]
    simp
  | negSucc n =>
    rw [if_pos (Int.negSucc_lt_zero n)]
    have := digs_neg n
    have e : (-((n + 1 : Nat) : Int)) = Int.negSucc n := rfl
    rw [e] at this
    rw [this]
    rfl
theorem log_small {i : Int} (h : i.natAbs < 10 ^ 75) : i.natAbs.log2 < 1920 := by
  by_cases z : i.natAbs = 0
  · rw [z]; decide
  · exact Nat.lt_trans ((Nat.log2_lt z).mpr (Nat.lt_trans h (by decide : 10 ^ 75 < 2 ^ 250))) (by decide)
/-! ### the draws -/
/-- the dice of a law stand at a -/
def Dice (h : Store) (a : Nat) : Prop := ∃ l b c : Int, h[a]? = some (.lst [.int l, .int b, .int c]) ∧ 0 ≤ l
/-- the dice at a have been rolled, and nothing else has been done -/
def Roll (a : Nat) (h h' : Store) : Prop := Dice h a ∧ ∃ l b c : Int, 0 ≤ l ∧ h' = h.set a (.lst [.int l, .int b, .int c])
theorem Dice.lt {h : Store} {a : Nat} (d : Dice h a) : a < h.length := by
  obtain ⟨l, b, c, e, _⟩ := d
  exact (List.getElem?_eq_some_iff.mp e).1
theorem Dice.self {h : Store} {a : Nat} (d : Dice h a) : Roll a h h := by
  refine ⟨d, ?_⟩
  obtain ⟨l, b, c, e, hl⟩ := d
  refine ⟨l, b, c, hl, ?_⟩
  obtain ⟨h1, e⟩ := List.getElem?_eq_some_iff.mp e
  rw [← e, List.set_getElem_self]
theorem Roll.dice {h h' : Store} {a : Nat} (r : Roll a h h') : Dice h' a := by
  obtain ⟨d, l, b, c, hl, rfl⟩ := r
  exact ⟨l, b, c, by simp [d.lt], hl⟩
theorem Roll.len {h h' : Store} {a : Nat} (r : Roll a h h') : h'.length = h.length := by
  obtain ⟨d, l, b, c, hl, rfl⟩ := r
  simp
theorem Roll.trans {h h1 h2 : Store} {a : Nat} (r : Roll a h h1) (s : Roll a h1 h2) : Roll a h h2 := by
  obtain ⟨d, l, b, c, hl, rfl⟩ := r
  obtain ⟨_, l', b', c', hl', rfl⟩ := s
  exact ⟨d, l', b', c', hl', by simp⟩
theorem Roll.all {h h' : Store} {a n : Nat} (r : Roll a h h') (c : h.all (belowC n) = true) : h'.all (belowC n) = true := by
  obtain ⟨d, l, b, c', hl, rfl⟩ := r
  rw [List.all_eq_true] at c ⊢
  intro x hx
  rcases List.mem_or_eq_of_mem_set hx with q | q
  · exact c x q
  · rw [q]; rfl
/-- the dice within a store that has grown -/
theorem Dice.app {h ls : Store} {a : Nat} (d : Dice h a) : Dice (h ++ ls) a := by
  have := d.lt
  obtain ⟨l, b, c, e, hl⟩ := d
  exact ⟨l, b, c, by rw [List.getElem?_append_left this]; exact e, hl⟩
theorem Roll.app {h ls h' : Store} {a : Nat} (d : Dice h a) (r : Roll a (h ++ ls) h') : ∃ h1, h' = h1 ++ ls ∧ Roll a h h1 := by
  obtain ⟨_, l, b, c, hl, rfl⟩ := r
  exact ⟨_, List.set_append_left _ _ d.lt, d, l, b, c, hl, rfl⟩
/-- a store of whose cells none names a place that is not there -/
def Closed (h : Store) : Prop := h.all (belowC h.length) = true
theorem Roll.closed {h h' : Store} {a : Nat} (r : Roll a h h') (c : Closed h) : Closed h' := by
  unfold Closed
  rw [r.len]
  exact r.all c
end Wg

namespace Wg
open PySem
/-! ### what the operators tell, as rules for simp -/
section
variable {h : Store} {i j : Int} {x y : List Nat} {xs ys : List PV} {b c : Bool} {a : Nat}
@[simp] theorem fAdd_int : fAdd (.int i) (.int j) h = .ok (.int (i + j)) h := (rfl)
theorem fAdd_str (k : x.length + y.length ≤ 1000000) : fAdd (.str x) (.str y) h = .ok (.str (x ++ y)) h := if_pos (show _ ≤ 16777216 by omega)
theorem fAdd_tup (k : xs.length + ys.length ≤ 1000000) : fAdd (.tup xs) (.tup ys) h = .ok (.tup (xs ++ ys)) h := if_pos (show _ ≤ 16777216 by omega)
theorem fAdd_lst (k : xs.length + ys.length ≤ 1000000) : fAdd (.lst xs) (.lst ys) h = .ok (.lst (xs ++ ys)) h := if_pos (show _ ≤ 16777216 by omega)
@[simp] theorem fSub_int : fSub (.int i) (.int j) h = .ok (.int (i - j)) h := (rfl)
@[simp] theorem fMulA_l (k : -(2 ^ 64) < i ∧ i < 2 ^ 64) : fMulA (.int i) (.int j) h = .ok (.int (i * j)) h := by
  show (if _ then _ else _) = _
  rw [if_pos]
  simp only [Bool.or_eq_true, Bool.and_eq_true, decide_eq_true_eq]
  exact .inl (.inl k)
@[simp] theorem fMulA_r (k : -(2 ^ 64) < j ∧ j < 2 ^ 64) : fMulA (.int i) (.int j) h = .ok (.int (i * j)) h := by
  show (if _ then _ else _) = _
  rw [if_pos]
  simp only [Bool.or_eq_true, Bool.and_eq_true, decide_eq_true_eq]
  exact .inl (.inr k)
@[simp] theorem fMulA_60 : fMulA (.int 1000000000000000000000000000000000000000000000000000000000000) (.int 1000000000000000000000000000000000000000000000000000000000000) h = .ok (.int (10 ^ 60 * 10 ^ 60)) h := by
  unfold fMulA fMul fInt
  exact if_pos (by decide +kernel)
@[simp] theorem fDiv_int (k : 0 < j) (k2 : j < 2 ^ 200) : fDiv (.int i) (.int j) h = .ok (.int (i / j)) h := by
  show (if _ then _ else _) = _
  rw [if_pos]
  rw [Bool.and_eq_true, decide_eq_true_eq, decide_eq_true_eq]
  exact ⟨k, Int.lt_of_lt_of_le k2 (by decide +kernel)⟩
@[simp] theorem fMod_int (k : 0 < j) : fMod (.int i) (.int j) h = .ok (.int (i % j)) h := by
  show (if _ then _ else _) = _
  rw [if_pos (by rw [decide_eq_true_eq]; exact k)]
@[simp] theorem fPow_int (k1 : 0 ≤ j) (k2 : j ≤ 1000000) (k3 : i.natAbs < 2 ^ 64) : fPow (.int i) (.int j) h = .ok (.int (i ^ j.toNat)) h := by
  show (if _ then _ else _) = _
  rw [if_pos]
  simp only [Bool.and_eq_true, decide_eq_true_eq]
  exact ⟨⟨k1, k2⟩, k3⟩
@[simp] theorem fNeg_int : fNeg (.int i) h = .ok (.int (-i)) h := (rfl)
@[simp] theorem fLt_int : fLt (.int i) (.int j) h = .ok (.bl (decide (i < j))) h := (rfl)
@[simp] theorem fLe_int : fLe (.int i) (.int j) h = .ok (.bl (decide (i ≤ j))) h := (rfl)
@[simp] theorem fGt_int : fGt (.int i) (.int j) h = .ok (.bl (decide (j < i))) h := (rfl)
@[simp] theorem fGe_int : fGe (.int i) (.int j) h = .ok (.bl (decide (j ≤ i))) h := (rfl)
@[simp] theorem fLt_str : fLt (.str x) (.str y) h = .ok (.bl (decide (x < y))) h := (rfl)
@[simp] theorem fLe_str : fLe (.str x) (.str y) h = .ok (.bl (!decide (y < x))) h := (rfl)
@[simp] theorem fGt_str : fGt (.str x) (.str y) h = .ok (.bl (decide (y < x))) h := (rfl)
@[simp] theorem fGe_str : fGe (.str x) (.str y) h = .ok (.bl (!decide (x < y))) h := (rfl)
@[simp] theorem fIntOf_int : fIntOf [.int i] h = .ok (.int i) h := (rfl)
@[simp] theorem fIntOf_bl : fIntOf [.bl b] h = .ok (.int (if b = true then 1 else 0)) h := (rfl)
@[simp] theorem fAbs_int : fAbs [.int i] h = .ok (.int (if i < 0 then -i else i)) h := (rfl)
@[simp] theorem fMax2_int : fMax2 [.int i, .int j] h = .ok (.int (if j > i then j else i)) h := (rfl)
@[simp] theorem fMin2_int : fMin2 [.int i, .int j] h = .ok (.int (if j < i then j else i)) h := (rfl)
theorem fStrOf_int (k : i.natAbs < 10 ^ 75) : fStrOf [.int i] h = .ok (.str (digs i)) h := if_pos (log_small k)
@[simp] theorem fStrOf_str : fStrOf [.str x] h = .ok (.str x) h := (rfl)
@[simp] theorem fLen_str (k : x.length ≤ 1000000) : fLen [.str x] h = .ok (.int x.length) h := if_pos (show _ ≤ 16777216 by omega)
@[simp] theorem fLen_tup : fLen [.tup xs] h = .ok (.int xs.length) h := (rfl)
@[simp] theorem fLen_lst : fLen [.lst xs] h = .ok (.int xs.length) h := (rfl)
@[simp] theorem fLen_scr : fLen [.scr xs] h = .ok (.int xs.length) h := (rfl)
theorem fLen_ref (k : h[a]? = some (.lst xs)) : fLen [.ref a] h = .ok (.int xs.length) h := by
  show (match (match h[a]? with | some (.lst xs) => some xs | _ => none) with | some ys => R.ok (PV.int ys.length) h | none => .no) = _
  rw [k]
@[simp] theorem fTuple_tup : fTuple [.tup xs] h = .ok (.tup xs) h := (rfl)
@[simp] theorem fTuple_lst : fTuple [.lst xs] h = .ok (.tup xs) h := (rfl)
@[simp] theorem fTuple_scr : fTuple [.scr xs] h = .ok (.tup xs) h := (rfl)
@[simp] theorem fList_tup : fList [.tup xs] h = .ok (.lst xs) h := (rfl)
@[simp] theorem fList_lst : fList [.lst xs] h = .ok (.lst xs) h := (rfl)
@[simp] theorem fList_scr : fList [.scr xs] h = .ok (.lst xs) h := (rfl)
theorem bools_map {α : Type} (f : α → Bool) : ∀ zs : List α, bools (zs.map fun z => .bl (f z)) = some (zs.map f)
  | [] => rfl
  | z :: zs => by rw [List.map_cons, bools, bools_map f zs]; rfl
theorem fAll_map {α : Type} (f : α → Bool) (zs : List α) : fAll [.lst (zs.map fun z => .bl (f z))] h = .ok (.bl (zs.all f)) h := by
  show (match bools (zs.map fun z => PV.bl (f z)) with | some bs => R.ok (PV.bl (bs.all id)) h | none => .no) = _
  rw [bools_map]
  simp [List.all_map]
theorem fAny_map {α : Type} (f : α → Bool) (zs : List α) : fAny [.lst (zs.map fun z => .bl (f z))] h = .ok (.bl (zs.any f)) h := by
  show (match bools (zs.map fun z => PV.bl (f z)) with | some bs => R.ok (PV.bl (bs.any id)) h | none => .no) = _
  rw [bools_map]
  simp [List.any_map]
/-- places -/
theorem fIx_seq {x : PV} {zs : List PV} {z : PV} (hs : ∀ w, x ≠ .str w) (k : seqRd h x = some zs) (k2 : L2.atI zs i = some z) : fIx x (.int i) h = .ok z h := by
  cases x with
  | str w => exact absurd rfl (hs w)
  | _ => simp only [fIx, k, k2]
theorem atI_nat {α : Type} {zs : List α} {n : Nat} : L2.atI zs (n : Int) = zs[n]? := by
  unfold L2.atI L2.ixN
  by_cases k : n < zs.length
  · simp [k]
  · simp [k]
theorem fIx_tup {n : Nat} {z : PV} (k : xs[n]? = some z) : fIx (.tup xs) (.int (n : Int)) h = .ok z h := fIx_seq (by intro w e; cases e) rfl (by rw [atI_nat]; exact k)
theorem fIx_lst {n : Nat} {z : PV} (k : xs[n]? = some z) : fIx (.lst xs) (.int (n : Int)) h = .ok z h := fIx_seq (by intro w e; cases e) rfl (by rw [atI_nat]; exact k)
theorem fIx_scr {n : Nat} {z : PV} (k : xs[n]? = some z) : fIx (.scr xs) (.int (n : Int)) h = .ok z h := fIx_seq (by intro w e; cases e) rfl (by rw [atI_nat]; exact k)
theorem fIx_ref {n : Nat} {z : PV} (k0 : h[a]? = some (.lst xs)) (k : xs[n]? = some z) : fIx (.ref a) (.int (n : Int)) h = .ok z h :=
  fIx_seq (by intro w e; cases e) (by show (match h[a]? with | some (.lst xs) => some xs | _ => none) = _; rw [k0]) (by rw [atI_nat]; exact k)
theorem fIx_str {n : Nat} {z : Nat} (k : x[n]? = some z) (k2 : x.length ≤ 1000000) : fIx (.str x) (.int (n : Int)) h = .ok (.str [z]) h := by
  show (match L2.atI x (n : Int) with | some c => if x.length ≤ sizeLine then R.ok (PV.str [c]) h else .no | none => .no) = _
  rw [atI_nat, k]
  exact if_pos (show _ ≤ 16777216 by omega)
theorem fSetL_ref {n : Nat} {z : PV} (k0 : h[a]? = some (.lst xs)) (k : n < xs.length) : fSetL (.ref a) (.int (n : Int)) z h = .ok () (h.set a (.lst (xs.set n z))) := by
  unfold fSetL cellL
  simp only [k0]
  have : L2.ixN xs.length (n : Int) = some n := by
    unfold L2.ixN
    simp [k]
  rw [this]
theorem fAppend_ref {z : PV} (k0 : h[a]? = some (.lst xs)) (k : xs.length ≤ 1000000) : fAppend (.ref a) [z] h = .ok .non (h.set a (.lst (xs ++ [z]))) := by
  unfold fAppend cellL
  simp only [k0]
  exact if_pos (show _ < 16777216 by omega)
theorem tyM_ref (k0 : h[a]? = some (.lst xs)) : tyM h "list" (.ref a) = true := by
  unfold tyM
  simp only [k0]
  rfl
@[simp] theorem tyM_str : tyM h "str" (.str x) = true := (rfl)
@[simp] theorem tyM_lst : tyM h "list" (.lst xs) = true := (rfl)
@[simp] theorem fRange1_int (k : -1000000000 ≤ j ∧ j ≤ 1000000000) : fRange1 [.int j] h = .ok (runI 0 j.toNat) h := if_pos (by omega)
@[simp] theorem fRange2_int (k : -1000000000 ≤ i ∧ i ≤ 1000000000 ∧ -1000000000 ≤ j ∧ j ≤ 1000000000) : fRange2 [.int i, .int j] h = .ok (runI i (j - i).toNat) h := if_pos (by omega)
theorem mem_runI {lo : Int} {n : Nat} {y : PV} (k : y ∈ runI lo n) : ∃ m : Nat, m < n ∧ y = .int (lo + m) := by
  obtain ⟨m, hm, e⟩ := List.mem_map.mp k
  exact ⟨m, List.mem_range.mp hm, e.symm⟩
@[simp] theorem runI_len {lo : Int} {n : Nat} : (runI lo n).length = n := by unfold runI; simp
@[simp] theorem fInStr_str {c : Nat} : fInStr (.str [c]) (.str y) h = .ok (.bl (decide (c ∈ y))) h := (rfl)
end
end Wg

namespace Wg
open PySem
def s__law_dice_0 : MS := mSet 2 (mIfE (mB (mBin fLt (mVar 1) (mCall fLen (mCons (mVar 0) (mNil))))) (mCall fIntOf (mCons (mBin fIx (mVar 0) (mVar 1)) (mNil))) (mBin fAdd (mBin fMulA (mC (.int 53)) (mVar 1)) (mC (.int 17))))
def s__law_dice_1 : MS := mSet 3 (mBin fMod (mCall fMax2 (mCons (mC (.int 0)) (mCons (mBin fSub (mCall fAbs (mCons (mVar 2) (mNil))) (mBin fPow (mC (.int 10)) (mC (.int 16)))) (mNil)))) (mBin fMulA (mBin fPow (mC (.int 10)) (mC (.int 60))) (mBin fPow (mC (.int 10)) (mC (.int 60)))))
def s__law_dice_2 : MS := mRet (mLstN (mCons (mVar 3) (mCons (mBin fAdd (mBin fAdd (mBin fAdd (mBin fMulA (mBin fMod (mCall fAbs (mCons (mVar 2) (mNil))) (mC (.int 1152921504606846883))) (mC (.int 43))) (mBin fMulA (mC (.int 701)) (mVar 1))) (mBin fMulA (mC (.int 29)) (mCall fIntOf (mCons (mBin fLt (mVar 2) (mC (.int 0))) (mNil))))) (mC (.int 11))) (mCons (mC (.int 0)) (mNil)))))
def m__law_dice : MS := mSeq s__law_dice_0 (mSeq s__law_dice_1 (s__law_dice_2))
def f__law_dice : FN := runDefN 2 4 m__law_dice
def s__law_roll_0 : MS := mIf (mB (mBin fGt (mBin fIx (mVar 0) (mC (.int 0))) (mC (.int 0)))) (mSeq (mSet 2 (mBin fMod (mCall fIntOf (mCons (mBin fIx (mVar 0) (mC (.int 0))) (mNil))) (mVar 1))) (mSeq (mAsg (mBin fDiv (mBin fIx (mVar 0) (mC (.int 0))) (mVar 1)) (gSubX fSetL (mVar 0) (mC (.int 0)))) (mRet (mVar 2)))) (mDone)
def s__law_roll_1 : MS := mAsg (mBin fAdd (mBin fIx (mVar 0) (mC (.int 2))) (mC (.int 1))) (gSubX fSetL (mVar 0) (mC (.int 2)))
def s__law_roll_2 : MS := mSet 3 (mBin fMod (mCall fIntOf (mCons (mBin fAdd (mBin fIx (mVar 0) (mC (.int 1))) (mBin fMulA (mC (.int 49979687)) (mBin fIx (mVar 0) (mC (.int 2))))) (mNil))) (mC (.int 2305843009213693921)))
def s__law_roll_3 : MS := mSet 4 (mBin fAdd (mBin fMulA (mBin fMod (mCall fIntOf (mCons (mBin fAdd (mBin fMulA (mVar 3) (mVar 3)) (mBin fMulA (mC (.int 83)) (mBin fIx (mVar 0) (mC (.int 2))))) (mNil))) (mC (.int 2305843009213693907))) (mC (.int 7368787))) (mVar 3))
def s__law_roll_4 : MS := mRet (mBin fMod (mCall fIntOf (mCons (mBin fDiv (mVar 4) (mC (.int 65536))) (mNil))) (mVar 1))
def m__law_roll : MS := mSeq s__law_roll_0 (mSeq s__law_roll_1 (mSeq s__law_roll_2 (mSeq s__law_roll_3 (s__law_roll_4))))
def f__law_roll : FN := runDef 2 5 m__law_roll
def s__law_pick_0 : MS := mRet (mBin fIx (mVar 1) (mCall f__law_roll (mCons (mVar 0) (mCons (mCall fLen (mCons (mVar 1) (mNil))) (mNil)))))
def m__law_pick : MS := s__law_pick_0
def f__law_pick : FN := runDef 2 2 m__law_pick
/-- a new dice -/
theorem ok_dice {ns : List Int} {i : Nat} {h : Store} (hi : i < 1000000) : Ok (f__law_dice [.scr (ns.map .int), .int (i : Int)] h) fun v h' => v = .ref h.length ∧ ∃ l b c : Int, h' = h ++ [.lst [.int l, .int b, .int c]] ∧ 0 ≤ l := by
  have key : ∀ (cell : Int) (h : Store), Ok ((mSeq s__law_dice_1 s__law_dice_2) [some (.scr (ns.map .int)), some (.int i), some (.int cell), none] h) fun f h' => match f with
      | .rt x => x = .ref h.length ∧ ∃ l b c : Int, h' = h ++ [.lst [.int l, .int b, .int c]] ∧ 0 ≤ l
      | .nx _ => False
      | _ => False := by
    intro cell h
    simp [s__law_dice_1, s__law_dice_2, sizeLine]
    exact Int.emod_nonneg _ (by decide)
  refine Ok.defN rfl ?_
  have e0 : s__law_dice_0 (initL 4 [.scr (ns.map .int), .int (i : Int)]) h = .ok (.nx [some (.scr (ns.map .int)), some (.int i), some (.int (if hk : i < ns.length then ns[i] else 53 * i + 17)), none]) h := by
    by_cases hk : i < ns.length
    · have e1 : fIx (.scr (ns.map .int)) (.int (i : Int)) h = .ok (.int ns[i]) h := fIx_scr (by simp [hk])
      simp [s__law_dice_0, initL, hk, e1]
    · simp [s__law_dice_0, initL, hk]
  have e1 : m__law_dice (initL 4 [.scr (ns.map .int), .int (i : Int)]) h = (mSeq s__law_dice_1 s__law_dice_2) [some (.scr (ns.map .int)), some (.int i), some (.int (if hk : i < ns.length then ns[i] else 53 * i + 17)), none] h := by
    unfold m__law_dice
    rw [mSeq_at, e0]
    rfl
  show Ok (m__law_dice (initL 4 [.scr (ns.map .int), .int (i : Int)]) h) _
  rw [e1]
  exact (key _ h).mono fun f h' q => by
    cases f <;> first | exact q | exact q.elim
/-- a roll -/
theorem ok_roll {a : Nat} {h : Store} {t : Int} (ht : 0 < t) (ht2 : t < 2 ^ 200) (d : Dice h a) : Ok (f__law_roll [.ref a, .int t] h) fun v h' => Roll a h h' ∧ ∃ r : Int, v = .int r ∧ 0 ≤ r ∧ r < t := by
  have dd := d
  obtain ⟨l, b, c, e, hl⟩ := d
  have ha : a < h.length := (List.getElem?_eq_some_iff.mp e).1
  have s0 : ∀ {h : Store} {x y z : PV}, h[a]? = some (.lst [x, y, z]) → fIx (.ref a) (.int 0) h = .ok x h := fun k => fIx_ref (n := 0) k rfl
  have s1 : ∀ {h : Store} {x y z : PV}, h[a]? = some (.lst [x, y, z]) → fIx (.ref a) (.int 1) h = .ok y h := fun k => fIx_ref (n := 1) k rfl
  have s2 : ∀ {h : Store} {x y z : PV}, h[a]? = some (.lst [x, y, z]) → fIx (.ref a) (.int 2) h = .ok z h := fun k => fIx_ref (n := 2) k rfl
  have w0 : ∀ {h : Store} {x y z u : PV}, h[a]? = some (.lst [x, y, z]) → fSetL (.ref a) (.int 0) u h = .ok () (h.set a (.lst [u, y, z])) := fun k => fSetL_ref (n := 0) k (by simp)
  have w2 : ∀ {h : Store} {x y z u : PV}, h[a]? = some (.lst [x, y, z]) → fSetL (.ref a) (.int 2) u h = .ok () (h.set a (.lst [x, y, u])) := fun k => fSetL_ref (n := 2) k (by simp)
  have g : ∀ c : Cell, (h.set a c)[a]? = some c := fun c => by simp [ha]
  refine Ok.def rfl ?_
  by_cases hp : 0 < l
  · simp only [m__law_roll, s__law_roll_0, initL, mSeq_at, mIf_at, mB_at, mBin_at, mVar_at, mC_at, List.map_cons, List.map_nil, List.length_cons, List.length_nil, List.cons_append, List.nil_append, List.getElem?_cons_zero, List.getElem?_cons_succ, R.bind_ok, bs_ok, noX_ok, s0 e, fGt_int, decide_eq_true hp, if_true, mSet_at, mCall_at, mCons_at, mNil_at, fIntOf_int, fMod_int ht, fDiv_int ht ht2, on_nx, mAsg_at, gSubX_at, List.set_cons_zero, List.set_cons_succ, List.replicate, w0 e, mRet_at, on_rt, Ok_ok]
    rw [handO_same (by simp), Ok_ok]
    exact ⟨⟨dd, _, _, _, Int.ediv_nonneg hl (by omega), rfl⟩, _, rfl, Int.emod_nonneg _ (by omega), Int.emod_lt_of_pos _ ht⟩
  · have hp' : decide (0 < l) = false := decide_eq_false hp
    have k1 : (0 : Int) < 2305843009213693921 := by decide
    have k2 : (0 : Int) < 2305843009213693907 := by decide
    have one : ∀ m : Int, -(2 ^ 64) < m % 2305843009213693921 ∧ m % 2305843009213693921 < 2 ^ 64 := fun m => by omega
    simp only [m__law_roll, s__law_roll_0, s__law_roll_1, s__law_roll_2, s__law_roll_3, s__law_roll_4, initL, mSeq_at, mIf_at, mB_at, mBin_at, mVar_at, mC_at, List.map_cons, List.map_nil, List.length_cons, List.length_nil, List.cons_append, List.nil_append, List.getElem?_cons_zero, List.getElem?_cons_succ, R.bind_ok, bs_ok, noX_ok, s0 e, s2 e, fGt_int, hp', Bool.false_eq_true, if_false, mDone_at, mSet_at, mCall_at, mCons_at, mNil_at, fIntOf_int, on_nx, mAsg_at, gSubX_at, List.set_cons_zero, List.set_cons_succ, List.replicate, w2 e, mRet_at, on_rt, fAdd_int, s1 (g _), s2 (g _)]
    simp only [mSeq_at, mBin_at, mVar_at, mC_at, mSet_at, mCall_at, mCons_at, mNil_at, mRet_at, on_rt, fMulA_l (show -(2 ^ 64) < (49979687 : Int) ∧ (49979687 : Int) < 2 ^ 64 by decide), fMulA_l (show -(2 ^ 64) < (83 : Int) ∧ (83 : Int) < 2 ^ 64 by decide), fMulA_r (show -(2 ^ 64) < (7368787 : Int) ∧ (7368787 : Int) < 2 ^ 64 by decide), fMod_int k1, fMod_int k2, R.bind_ok, bs_ok, noX_ok, fAdd_int, on_nx, fMulA_l (one _), List.set_cons_zero, List.set_cons_succ, List.getElem?_cons_zero, List.getElem?_cons_succ, s2 (g _), fIntOf_int,
      fDiv_int (show (0 : Int) < 65536 by decide) (show (65536 : Int) < 2 ^ 200 by decide), fMod_int ht, Ok_ok]
    rw [handO_same (by simp), Ok_ok]
    exact ⟨⟨dd, _, _, _, hl, rfl⟩, _, rfl, Int.emod_nonneg _ (by omega), Int.emod_lt_of_pos _ ht⟩
/-- a pick out of a list -/
theorem ok_pick {a : Nat} {h : Store} {xs : List PV} (hx : xs ≠ []) (hx2 : xs.length < 1000000) (d : Dice h a) : Ok (f__law_pick [.ref a, .lst xs] h) fun v h' => Roll a h h' ∧ v ∈ xs := by
  have h0 : 0 < xs.length := List.length_pos_iff.mpr hx
  refine Ok.def rfl ?_
  simp only [m__law_pick, s__law_pick_0, initL, mRet_at, mBin_at, mVar_at, mCall_at, mCons_at, mNil_at, List.map_cons, List.map_nil, List.length_cons, List.length_nil, List.cons_append, List.nil_append, List.getElem?_cons_zero, List.getElem?_cons_succ, R.bind_ok, bs_ok, noX_ok, fLen_lst]
  refine Ok.bs (P := fun v h' => Roll a h h' ∧ v ∈ xs) (Ok.call (ok_roll (by omega) (by omega) d) ?_) fun v h' q => by rw [Ok_ok]; show Ok (handO _ _ _) _; rw [handO_same q.1.len, Ok_ok]; exact q
  rintro v h' ⟨d', r, rfl, r0, r1⟩
  obtain ⟨n, rfl⟩ := Int.eq_ofNat_of_zero_le r0
  have hn : n < xs.length := by omega
  rw [fIx_lst (show xs[n]? = some xs[n] by simp [hn])]
  rw [Ok_ok]
  exact ⟨d', List.getElem_mem hn⟩
theorem ok_pickT {a : Nat} {h : Store} {xs : List PV} (hx : xs ≠ []) (hx2 : xs.length < 1000000) (d : Dice h a) : Ok (f__law_pick [.ref a, .tup xs] h) fun v h' => Roll a h h' ∧ v ∈ xs := by
  have h0 : 0 < xs.length := List.length_pos_iff.mpr hx
  refine Ok.def rfl ?_
  simp only [m__law_pick, s__law_pick_0, initL, mRet_at, mBin_at, mVar_at, mCall_at, mCons_at, mNil_at, List.map_cons, List.map_nil, List.length_cons, List.length_nil, List.cons_append, List.nil_append, List.getElem?_cons_zero, List.getElem?_cons_succ, R.bind_ok, bs_ok, noX_ok, fLen_tup]
  refine Ok.bs (P := fun v h' => Roll a h h' ∧ v ∈ xs) (Ok.call (ok_roll (by omega) (by omega) d) ?_) fun v h' q => by rw [Ok_ok]; show Ok (handO _ _ _) _; rw [handO_same q.1.len, Ok_ok]; exact q
  rintro v h' ⟨d', r, rfl, r0, r1⟩
  obtain ⟨n, rfl⟩ := Int.eq_ofNat_of_zero_le r0
  have hn : n < xs.length := by omega
  rw [fIx_tup (show xs[n]? = some xs[n] by simp [hn])]
  rw [Ok_ok]
  exact ⟨d', List.getElem_mem hn⟩
/-- a sign out of a text -/
theorem ok_pickS {a : Nat} {h : Store} {x : List Nat} (hx : x ≠ []) (hx2 : x.length < 1000000) (d : Dice h a) : Ok (f__law_pick [.ref a, .str x] h) fun v h' => Roll a h h' ∧ ∃ c ∈ x, v = .str [c] := by
  have h0 : 0 < x.length := List.length_pos_iff.mpr hx
  refine Ok.def rfl ?_
  simp only [m__law_pick, s__law_pick_0, initL, mRet_at, mBin_at, mVar_at, mCall_at, mCons_at, mNil_at, List.map_cons, List.map_nil, List.length_cons, List.length_nil, List.cons_append, List.nil_append, List.getElem?_cons_zero, List.getElem?_cons_succ, R.bind_ok, bs_ok, noX_ok, fLen_str (show x.length ≤ 1000000 by omega)]
  refine Ok.bs (P := fun v h' => Roll a h h' ∧ ∃ c ∈ x, v = .str [c]) (Ok.call (ok_roll (by omega) (by omega) d) ?_) fun v h' q => by rw [Ok_ok]; show Ok (handO _ _ _) _; rw [handO_same q.1.len, Ok_ok]; exact q
  rintro v h' ⟨d', r, rfl, r0, r1⟩
  obtain ⟨n, rfl⟩ := Int.eq_ofNat_of_zero_le r0
  have hn : n < x.length := by omega
  rw [fIx_str (show x[n]? = some x[n] by simp [hn]) (by omega)]
  rw [Ok_ok]
  exact ⟨d', _, List.getElem_mem hn, rfl⟩
end Wg

namespace Wg
open PySem
/-! ### == of data -/
mutual
def eqPV : PV → PV → Bool
  | .non, .non => true
  | .bl a, .bl b => a == b
  | .bl a, .int j => (if a then 1 else 0) == j
  | .int i, .bl b => i == (if b then 1 else 0)
  | .int i, .int j => i == j
  | .str x, .str y => decide (x = y)
  | .lst xs, .lst ys => eqPVs xs ys
  | .lst xs, .scr ys => eqPVs xs ys
  | .scr xs, .lst ys => eqPVs xs ys
  | .scr xs, .scr ys => eqPVs xs ys
  | .tup xs, .tup ys => eqPVs xs ys
  | _, _ => false
def eqPVs : List PV → List PV → Bool
  | [], [] => true
  | x :: xs, y :: ys => eqPV x y && eqPVs xs ys
  | _, _ => false
end
theorem str_beq (x y : List Nat) : ((⟨x.toArray⟩ : Str) == ⟨y.toArray⟩) = decide (x = y) := by
  by_cases h : x = y
  · subst h; simp
  · rw [decide_eq_false h]
    have : (⟨x.toArray⟩ : Str) ≠ ⟨y.toArray⟩ := fun e => h (by
      injection e with e
      exact congrArg Array.toList e)
    simpa using this
mutual
theorem eqv_eq : ∀ (x y : PV) (d e : PyData), toD x = some d → toD y = some e → PyData.eqv d e = eqPV x y
  | .lst xs, y, d, e, h1, h2 => by
    simp only [toD, Option.map_eq_some_iff] at h1
    obtain ⟨ds, q1, rfl⟩ := h1
    cases y with
    | lst ys => simp only [toD, Option.map_eq_some_iff] at h2; obtain ⟨es, q2, rfl⟩ := h2; simp only [PyData.eqv, eqPV]; exact eqvs_eq xs ys ds es q1 q2
    | scr ys => simp only [toD, Option.map_eq_some_iff] at h2; obtain ⟨es, q2, rfl⟩ := h2; simp only [PyData.eqv, eqPV]; exact eqvs_eq xs ys ds es q1 q2
    | tup ys => simp only [toD, Option.map_eq_some_iff] at h2; obtain ⟨es, q2, rfl⟩ := h2; simp only [PyData.eqv, eqPV]
    | _ => first | (cases h2; simp only [PyData.eqv, eqPV]; done) | (cases h2; done)
  | .scr xs, y, d, e, h1, h2 => by
    simp only [toD, Option.map_eq_some_iff] at h1
    obtain ⟨ds, q1, rfl⟩ := h1
    cases y with
    | lst ys => simp only [toD, Option.map_eq_some_iff] at h2; obtain ⟨es, q2, rfl⟩ := h2; simp only [PyData.eqv, eqPV]; exact eqvs_eq xs ys ds es q1 q2
    | scr ys => simp only [toD, Option.map_eq_some_iff] at h2; obtain ⟨es, q2, rfl⟩ := h2; simp only [PyData.eqv, eqPV]; exact eqvs_eq xs ys ds es q1 q2
    | tup ys => simp only [toD, Option.map_eq_some_iff] at h2; obtain ⟨es, q2, rfl⟩ := h2; simp only [PyData.eqv, eqPV]
    | _ => first | (cases h2; simp only [PyData.eqv, eqPV]; done) | (cases h2; done)
  | .tup xs, y, d, e, h1, h2 => by
    simp only [toD, Option.map_eq_some_iff] at h1
    obtain ⟨ds, q1, rfl⟩ := h1
    cases y with
    | lst ys => simp only [toD, Option.map_eq_some_iff] at h2; obtain ⟨es, q2, rfl⟩ := h2; simp only [PyData.eqv, eqPV]
    | scr ys => simp only [toD, Option.map_eq_some_iff] at h2; obtain ⟨es, q2, rfl⟩ := h2; simp only [PyData.eqv, eqPV]
    | tup ys => simp only [toD, Option.map_eq_some_iff] at h2; obtain ⟨es, q2, rfl⟩ := h2; simp only [PyData.eqv, eqPV]; exact eqvs_eq xs ys ds es q1 q2
    | _ => first | (cases h2; simp only [PyData.eqv, eqPV]; done) | (cases h2; done)
  | .non, y, d, e, h1, h2 => by
    cases h1
    cases y with
    | lst ys => simp only [toD, Option.map_eq_some_iff] at h2; obtain ⟨es, q2, rfl⟩ := h2; simp only [PyData.eqv, eqPV]
    | scr ys => simp only [toD, Option.map_eq_some_iff] at h2; obtain ⟨es, q2, rfl⟩ := h2; simp only [PyData.eqv, eqPV]
    | tup ys => simp only [toD, Option.map_eq_some_iff] at h2; obtain ⟨es, q2, rfl⟩ := h2; simp only [PyData.eqv, eqPV]
    | _ => first | (cases h2; simp only [PyData.eqv, eqPV]; done) | (cases h2; done)
  | .bl _, y, d, e, h1, h2 => by
    cases h1
    cases y with
    | lst ys => simp only [toD, Option.map_eq_some_iff] at h2; obtain ⟨es, q2, rfl⟩ := h2; simp only [PyData.eqv, eqPV]
    | scr ys => simp only [toD, Option.map_eq_some_iff] at h2; obtain ⟨es, q2, rfl⟩ := h2; simp only [PyData.eqv, eqPV]
    | tup ys => simp only [toD, Option.map_eq_some_iff] at h2; obtain ⟨es, q2, rfl⟩ := h2; simp only [PyData.eqv, eqPV]
    | _ => first | (cases h2; simp only [PyData.eqv, eqPV]; done) | (cases h2; done)
  | .int _, y, d, e, h1, h2 => by
    cases h1
    cases y with
    | lst ys => simp only [toD, Option.map_eq_some_iff] at h2; obtain ⟨es, q2, rfl⟩ := h2; simp only [PyData.eqv, eqPV]
    | scr ys => simp only [toD, Option.map_eq_some_iff] at h2; obtain ⟨es, q2, rfl⟩ := h2; simp only [PyData.eqv, eqPV]
    | tup ys => simp only [toD, Option.map_eq_some_iff] at h2; obtain ⟨es, q2, rfl⟩ := h2; simp only [PyData.eqv, eqPV]
    | _ => first | (cases h2; simp only [PyData.eqv, eqPV]; done) | (cases h2; done)
  | .str x, y, d, e, h1, h2 => by
    cases h1
    cases y with
    | lst ys => simp only [toD, Option.map_eq_some_iff] at h2; obtain ⟨es, q2, rfl⟩ := h2; simp only [PyData.eqv, eqPV]
    | scr ys => simp only [toD, Option.map_eq_some_iff] at h2; obtain ⟨es, q2, rfl⟩ := h2; simp only [PyData.eqv, eqPV]
    | tup ys => simp only [toD, Option.map_eq_some_iff] at h2; obtain ⟨es, q2, rfl⟩ := h2; simp only [PyData.eqv, eqPV]
    | str y => cases h2; simp only [PyData.eqv, eqPV]; exact str_beq x y
    | _ => first | (cases h2; simp only [PyData.eqv, eqPV]; done) | (cases h2; done)
  | .ty _, _, _, _, h1, _ => by cases h1
  | .adr _, _, _, _, h1, _ => by cases h1
  | .ref _, _, _, _, h1, _ => by cases h1
  | .dct _, _, _, _, h1, _ => by cases h1
  | .dcT _, _, _, _, h1, _ => by cases h1
  | .cls _, _, _, _, h1, _ => by cases h1
  | .ins _ _, _, _, _, h1, _ => by cases h1
  | .set _, _, _, _, h1, _ => by cases h1
  | .dctO _, _, _, _, h1, _ => by cases h1
  | .exn _, _, _, _, h1, _ => by cases h1
theorem eqvs_eq : ∀ (xs ys : List PV) (ds es : List PyData), toDs xs = some ds → toDs ys = some es → PyData.eqvAll ds es = eqPVs xs ys
  | [], [], _, _, h1, h2 => by cases h1; cases h2; simp only [PyData.eqvAll, eqPVs]
  | x :: xs, [], ds, _, h1, h2 => by
    cases h2
    simp only [toDs, Option.bind_eq_some_iff, Option.map_eq_some_iff] at h1
    obtain ⟨d, _, ds', _, rfl⟩ := h1
    simp only [PyData.eqvAll, eqPVs]
  | [], y :: ys, _, es, h1, h2 => by
    cases h1
    simp only [toDs, Option.bind_eq_some_iff, Option.map_eq_some_iff] at h2
    obtain ⟨d, _, ds', _, rfl⟩ := h2
    simp only [PyData.eqvAll, eqPVs]
  | x :: xs, y :: ys, ds, es, h1, h2 => by
    simp only [toDs, Option.bind_eq_some_iff, Option.map_eq_some_iff] at h1 h2
    obtain ⟨d, a1, ds', a2, rfl⟩ := h1
    obtain ⟨e, b1, es', b2, rfl⟩ := h2
    simp only [PyData.eqvAll, eqPVs]
    rw [eqv_eq x y d e a1 b1, eqvs_eq xs ys ds' es' a2 b2]
end
/-- data of a depth of at most n -/
def okD : Nat → PV → Bool
  | _, .non => true
  | _, .bl _ => true
  | _, .int _ => true
  | _, .str x => x.all fun c => decide (c < 0x110000)
  | 0, _ => false
  | n + 1, .tup xs => xs.all (okD n)
  | n + 1, .lst xs => xs.all (okD n)
  | n + 1, .scr xs => xs.all (okD n)
  | _, _ => false
theorem okD_all {n : Nat} (ih : ∀ x, okD n x = true → ∃ d, toD x = some d ∧ d.canLay0 = true ∧ d.depth ≤ n) : ∀ xs : List PV, xs.all (okD n) = true → ∃ ds, toDs xs = some ds ∧ PyData.canLayAll0 ds = true ∧ PyData.depthAll ds ≤ n
  | [], _ => ⟨[], rfl, by simp only [PyData.canLayAll0], by simp only [PyData.depthAll]; omega⟩
  | x :: xs, h => by
    rw [List.all_cons, Bool.and_eq_true] at h
    obtain ⟨d, a1, a2, a3⟩ := ih x h.1
    obtain ⟨ds, b1, b2, b3⟩ := okD_all ih xs h.2
    refine ⟨d :: ds, by simp only [toDs, a1, b1, Option.bind_some, Option.map_some], by simp only [PyData.canLayAll0, a2, b2, Bool.and_self], ?_⟩
    simp only [PyData.depthAll]
    omega
theorem okD_at : ∀ (n : Nat) (x : PV), okD n x = true → ∃ d, toD x = some d ∧ d.canLay0 = true ∧ d.depth ≤ n := by
  intro n
  induction n with
  | zero =>
    intro x h
    cases x with
    | non => exact ⟨_, rfl, by simp only [PyData.canLay0], by simp only [PyData.depth]; omega⟩
    | bl b => exact ⟨_, rfl, by simp only [PyData.canLay0], by simp only [PyData.depth]; omega⟩
    | int b => exact ⟨_, rfl, by simp only [PyData.canLay0], by simp only [PyData.depth]; omega⟩
    | str z => exact ⟨_, rfl, by simp only [PyData.canLay0, PyData.strOk, List.all_toArray]; simpa [okD] using h, by simp only [PyData.depth]; omega⟩
    | _ => simp [okD] at h
  | succ n ih =>
    intro x h
    cases x with
    | non => exact ⟨_, rfl, by simp only [PyData.canLay0], by simp only [PyData.depth]; omega⟩
    | bl b => exact ⟨_, rfl, by simp only [PyData.canLay0], by simp only [PyData.depth]; omega⟩
    | int b => exact ⟨_, rfl, by simp only [PyData.canLay0], by simp only [PyData.depth]; omega⟩
    | str z => exact ⟨_, rfl, by simp only [PyData.canLay0, PyData.strOk, List.all_toArray]; simpa [okD] using h, by simp only [PyData.depth]; omega⟩
    | tup xs =>
      obtain ⟨ds, a, b, c⟩ := okD_all ih xs (by simpa only [okD] using h)
      exact ⟨.tuple ds, by simp only [toD, a, Option.map_some], by simp only [PyData.canLay0, b], by simp only [PyData.depth]; omega⟩
    | lst xs =>
      obtain ⟨ds, a, b, c⟩ := okD_all ih xs (by simpa only [okD] using h)
      exact ⟨.list ds, by simp only [toD, a, Option.map_some], by simp only [PyData.canLay0, b], by simp only [PyData.depth]; omega⟩
    | scr xs =>
      obtain ⟨ds, a, b, c⟩ := okD_all ih xs (by simpa only [okD] using h)
      exact ⟨.list ds, by simp only [toD, a, Option.map_some], by simp only [PyData.canLay0, b], by simp only [PyData.depth]; omega⟩
    | _ => simp [okD] at h
theorem seen_data {h : Store} : ∀ {n : Nat} {x : PV}, okD n x = true → seen h x = x
  | n, .ref a, q => by cases n <;> simp [okD] at q
  | _, .non, _ => rfl
  | _, .bl _, _ => rfl
  | _, .int _, _ => rfl
  | _, .str _, _ => rfl
  | _, .ty _, _ => rfl
  | _, .adr _, _ => rfl
  | _, .tup _, _ => rfl
  | _, .lst _, _ => rfl
  | _, .scr _, _ => rfl
  | _, .dct _, _ => rfl
  | _, .dcT _, _ => rfl
  | _, .cls _, _ => rfl
  | _, .ins _ _, _ => rfl
  | _, .set _, _ => rfl
  | _, .dctO _, _ => rfl
  | _, .exn _, _ => rfl
theorem eqS_eq {x y : PV} {b : Bool} (e : eqS x y = some b) : eqPV x y = b := by
  cases x <;> cases y <;> simp only [eqS] at e <;> first | (cases e; done) | skip
  all_goals (cases e; simp only [eqPV])
  all_goals first
    | rfl
    | (rename_i a b; by_cases h : a = b <;> simp [h])
theorem fEqB_ok {n : Nat} (hn : n ≤ 64) {x y : PV} {h : Store} (hx : okD n x = true) (hy : okD n y = true) : fEqB x y h = some (eqPV x y) := by
  unfold fEqB
  cases e : eqS x y with
  | some b => simp only; rw [eqS_eq e]
  | none =>
    simp only
    rw [seen_data hx, seen_data hy]
    obtain ⟨d, a1, a2, a3⟩ := okD_at n x hx
    obtain ⟨d', b1, b2, b3⟩ := okD_at n y hy
    rw [a1, b1]
    have s1 : shD d = true := by
      show (_ && decide _) = true
      rw [a2, decide_eq_true (show d.depth ≤ 64 by omega)]; rfl
    have s2 : shD d' = true := by
      show (_ && decide _) = true
      rw [b2, decide_eq_true (show d'.depth ≤ 64 by omega)]; rfl
    simp only [s1, s2, Bool.and_self, if_true]
    rw [eqv_eq x y d d' a1 b1]
theorem fEq_ok {n : Nat} (hn : n ≤ 64) {x y : PV} {h : Store} (hx : okD n x = true) (hy : okD n y = true) : fEq x y h = .ok (.bl (eqPV x y)) h := by
  unfold fEq
  rw [fEqB_ok hn hx hy]
theorem fNe_ok {n : Nat} (hn : n ≤ 64) {x y : PV} {h : Store} (hx : okD n x = true) (hy : okD n y = true) : fNe x y h = .ok (.bl (!eqPV x y)) h := by
  unfold fNe
  rw [fEqB_ok hn hx hy]
section
variable {h : Store} {i j : Int} {x y : List Nat} {b c : Bool}
@[simp] theorem fEq_int : fEq (.int i) (.int j) h = .ok (.bl (decide (i = j))) h := by
  rw [fEq_ok (n := 0) (by decide) rfl rfl]
  simp only [eqPV]
  by_cases e : i = j <;> simp [e]
@[simp] theorem fNe_int : fNe (.int i) (.int j) h = .ok (.bl (!decide (i = j))) h := by
  rw [fNe_ok (n := 0) (by decide) rfl rfl]
  simp only [eqPV]
  by_cases e : i = j <;> simp [e]
@[simp] theorem fEq_bl : fEq (.bl b) (.bl c) h = .ok (.bl (b == c)) h := by rw [fEq_ok (n := 0) (by decide) rfl rfl]; simp only [eqPV]
@[simp] theorem fNe_bl : fNe (.bl b) (.bl c) h = .ok (.bl (!(b == c))) h := by rw [fNe_ok (n := 0) (by decide) rfl rfl]; simp only [eqPV]
theorem eqPVs_map {α : Type} [DecidableEq α] (f : α → PV) (hf : ∀ a b, eqPV (f a) (f b) = decide (a = b)) : ∀ xs ys : List α, eqPVs (xs.map f) (ys.map f) = decide (xs = ys)
  | [], [] => by simp [eqPVs]
  | _ :: _, [] => by simp [eqPVs]
  | [], _ :: _ => by simp [eqPVs]
  | a :: xs, b :: ys => by
    rw [List.map_cons, List.map_cons, eqPVs, hf, eqPVs_map f hf xs ys]
    by_cases e : a = b <;> simp [e]
theorem eqPV_str : eqPV (.str x) (.str y) = decide (x = y) := by simp only [eqPV]
end
end Wg

namespace Wg
open PySem
theorem R.bind_assoc {α β γ : Type} (r : R α) (k : α → Store → R β) (k' : β → Store → R γ) : (r.bind k).bind k' = r.bind fun a h => (k a h).bind k' := by cases r <;> rfl
theorem R.bind_bs {α β : Type} (r : R α) (k : α → Store → R β) (l : Lv) (k' : β → Store → R Fl) : (r.bind k).bs l k' = r.bs l fun a h => (k a h).bs l k' := by cases r <;> rfl
theorem bs_on {α : Type} (r : R α) (l : Lv) (k : α → Store → R Fl) (b : MS) : ((r.bs l k).bind fun f h1 => f.on h1 b) = r.bs l fun a h => (k a h).bind fun f h1 => f.on h1 b := by cases r <;> rfl
theorem if_bs {α : Type} {c : Prop} [Decidable c] (a b : R α) (l : Lv) (k : α → Store → R Fl) : (if c then a else b).bs l k = if c then a.bs l k else b.bs l k := by split <;> rfl
theorem if_bind {α β : Type} {c : Prop} [Decidable c] (a b : R α) (k : α → Store → R β) : (if c then a else b).bind k = if c then a.bind k else b.bind k := by split <;> rfl
section
variable {h : Store}
theorem fIntOf_str {x : List Nat} {n : Int} (e : PySem.intText? ⟨x.toArray⟩ = some n) (k : x.length ≤ 640) : fIntOf [.str x] h = .ok (.int n) h := by
  show (match PySem.intText? ⟨x.toArray⟩ with | some n => if x.length ≤ 640 then R.ok (PV.int n) h else .no | none => .no) = _
  rw [e]
  exact if_pos k
theorem fIntOf_digits {x : List Nat} (hx : ∀ c ∈ x, 48 ≤ c ∧ c ≤ 57) (hne : x ≠ []) (k : x.length ≤ 640) : fIntOf [.str x] h = .ok (.int (NumText.digitsVal x : Nat)) h :=
  fIntOf_str (SX.int_S (List.all_eq_true.mpr fun c hc => by rw [Bool.and_eq_true, decide_eq_true_eq, decide_eq_true_eq]; exact hx c hc) hne (by omega)) k
theorem strsOf_map {α : Type} (f : α → List Nat) : ∀ xs : List α, strsOf (xs.map fun x => .str (f x)) = some (xs.map f)
  | [] => rfl
  | x :: xs => by rw [List.map_cons, strsOf, strsOf_map f xs]; rfl
theorem fJoin_lst {α : Type} {S : List Nat} (f : α → List Nat) {xs : List α} (k : ((xs.map f).map List.length).sum + (xs.map f).length * S.length ≤ 16777216) : fJoin (.str S) [.lst (xs.map fun x => .str (f x))] h = .ok (.str (joinN S (xs.map f))) h := by
  show (match strsOf (xs.map fun x => PV.str (f x)) with | some ss => if (ss.map List.length).sum + ss.length * S.length ≤ 16777216 then R.ok (PV.str (joinN S ss)) h else .no | none => .no) = _
  rw [strsOf_map]
  exact if_pos k
theorem joinN_ones : ∀ ds : List Nat, joinN [] (ds.map fun c => [c]) = ds
  | [] => rfl
  | [_] => rfl
  | a :: b :: r => by
    have := joinN_ones (b :: r)
    rw [List.map_cons, List.map_cons, joinN, List.nil_append, ← List.map_cons (f := fun c => [c]), this]
    rfl
theorem fJoin_ones {ds : List Nat} (k : ds.length ≤ 1000000) : fJoin (.str []) [.lst (ds.map fun c => .str [c])] h = .ok (.str ds) h := by
  have s : ∀ ds : List Nat, ((ds.map fun c => [c]).map List.length).sum = ds.length := fun ds => by
    induction ds with
    | nil => rfl
    | cons a r ih => simp only [List.map_cons, List.sum_cons, List.length_cons, ih, List.length_nil]; omega
  rw [fJoin_lst (fun c => [c]) (by rw [s]; simp; omega), joinN_ones]
theorem exists_map {α : Type} (f : α → PV) {p : α → Prop} : ∀ {zs : List PV}, (∀ z ∈ zs, ∃ c, z = f c ∧ p c) → ∃ ds : List α, zs = ds.map f ∧ ∀ c ∈ ds, p c
  | [], _ => ⟨[], rfl, fun _ h => absurd h List.not_mem_nil⟩
  | z :: zs, h => by
    obtain ⟨c, e, pc⟩ := h z List.mem_cons_self
    obtain ⟨ds, e2, pd⟩ := exists_map f fun y hy => h y (List.mem_cons_of_mem _ hy)
    refine ⟨c :: ds, by rw [e, e2]; rfl, fun d hd => ?_⟩
    rcases List.mem_cons.mp hd with q | q
    · rw [q]; exact pc
    · exact pd d q
theorem digs_one {r : Int} (h0 : 0 ≤ r) (h1 : r < 10) : digs r = [48 + r.toNat] := by
  obtain ⟨n, rfl⟩ := Int.eq_ofNat_of_zero_le h0
  rw [digs_nat, TL.numL_lt (by omega)]
  rfl
end
end Wg

namespace Wg
open PySem PySem.Spec PyProof.Rows L2 SlX
section
variable {K : KC} {ρ ρ' : Pl} {H H' : Hp} {h : Store} {X : Cx} {W : WQ} {D : Ends} {pos : Pos}
/-! ### what is never come to -/
def mNo : MS := fun _ _ => .no
def mNoE : M PV := fun _ _ => .no
theorem xs_never {st : Stmt} : XS X W st mNo := ⟨fun _ _ _ _ _ _ ⟨_, _, _, _, _, o⟩ => o.elim⟩
theorem xss_never {st : List Stmt} : XSs X W st mNo := ⟨fun _ _ _ _ _ _ ⟨_, _, _, _, _, o⟩ => o.elim⟩
theorem xe_never {e : Expr} : XE X W e mNoE := ⟨fun _ _ _ _ _ _ ⟨_, _, _, _, _, o⟩ => o.elim⟩

/-! ### the error at hand does not matter to values -/
mutual
theorem RV.cur {c : Option Cur} : ∀ (x : PV) (v : V), RV K ρ H x v → RV ⟨K.K, K.mg, c, K.w⟩ ρ H x v
  | .non, _, h => h
  | .bl _, _, h => h
  | .int _, _, h => h
  | .str _, _, h => h
  | .ty _, _, h => h
  | .adr _, _, h => h
  | .cls _, _, h => h
  | .ref _, _, h => h
  | .tup xs, _, ⟨p, vs, e, t, r⟩ => ⟨p, vs, e, t, RVs.cur xs vs r⟩
  | .lst xs, _, ⟨p, vs, e, t, r⟩ => ⟨p, vs, e, t, RVs.cur xs vs r⟩
  | .scr xs, _, ⟨p, vs, e, t, r⟩ => ⟨p, vs, e, t, RVs.cur xs vs r⟩
  | .dct kvs, _, ⟨p, vs, e, t, r⟩ => ⟨p, vs, e, t, RVd.cur kvs vs r⟩
  | .dcT kvs, _, ⟨p, vs, e, t, r⟩ => ⟨p, vs, e, t, RVt.cur kvs vs r⟩
  | .ins _ xs, _, ⟨p, C, dx, vs, e, m, t, r⟩ => ⟨p, C, dx, vs, e, m, t, RVs.cur xs vs r⟩
  | .set xs, _, ⟨p, vs, e, t, r⟩ => ⟨p, vs, e, t, RVs.cur xs vs r⟩
  | .dctO xs, _, ⟨p, o, vs, e, t, u, r⟩ => ⟨p, o, vs, e, t, u, RVs.cur xs vs r⟩
  | .exn _, _, h => h
theorem RVs.cur {c : Option Cur} : ∀ (xs : List PV) (vs : List V), RVs K ρ H xs vs → RVs ⟨K.K, K.mg, c, K.w⟩ ρ H xs vs
  | [], _, h => h
  | x :: xs, _, ⟨v, r, e, h1, h2⟩ => ⟨v, r, e, RV.cur x v h1, RVs.cur xs r h2⟩
theorem RVd.cur {c : Option Cur} : ∀ (kvs : List (PV × PV)) (vs : List (Key × V)), RVd K ρ H kvs vs → RVd ⟨K.K, K.mg, c, K.w⟩ ρ H kvs vs
  | [], _, h => h
  | (k, x) :: xs, _, ⟨cc, v, r, e, h0, h1, h2⟩ => ⟨cc, v, r, e, h0, RV.cur x v h1, RVd.cur xs r h2⟩
theorem RVt.cur {c : Option Cur} : ∀ (kvs : List (PV × PV)) (vs : List (List Key × V)), RVt K ρ H kvs vs → RVt ⟨K.K, K.mg, c, K.w⟩ ρ H kvs vs
  | [], _, h => h
  | (k, x) :: xs, _, ⟨cc, v, r, e, h0, h1, h2⟩ => ⟨cc, v, r, e, h0, RV.cur x v h1, RVt.cur xs r h2⟩
end
theorem RVx.cur {c : Option Cur} {us : List (Str × V)} : ∀ (fs : List (Str × PV)), RVx K ρ H us fs → RVx ⟨K.K, K.mg, c, K.w⟩ ρ H us fs
  | [], h => h
  | (f, x) :: xs, ⟨⟨v, e, h1⟩, h2⟩ => ⟨⟨v, e, RV.cur x v h1⟩, RVx.cur xs h2⟩
theorem RC.cur {c : Option Cur} {ce : Cell} {p : Addr} (r : RC K ρ h H ce p) : RC ⟨K.K, K.mg, c, K.w⟩ ρ h H ce p := by
  cases ce with
  | lst xs => obtain ⟨vs, q, rs⟩ := r; exact ⟨vs, q, RVs.cur _ _ rs⟩
  | dct xs => obtain ⟨vs, q, rs⟩ := r; exact ⟨vs, q, RVd.cur _ _ rs⟩
  | dcT xs => obtain ⟨vs, q, rs⟩ := r; exact ⟨vs, q, RVt.cur _ _ rs⟩
  | ins n j xs =>
    obtain ⟨C, dx, vs, m, q1, q2, t, rs⟩ := r
    exact ⟨C, dx, vs, m, q1, q2, t, fun i x hx => let ⟨v, e1, e2⟩ := rs i x hx; ⟨v, e1, RV.cur _ _ e2⟩⟩
  | own => exact r
theorem Rep.cur {c : Option Cur} (p : Rep K ρ h H) : Rep ⟨K.K, K.mg, c, K.w⟩ ρ h H := ⟨p.len, p.nd, fun i ce a e1 e2 => (p.at_ i ce a e1 e2).cur, p.hid, p.dj⟩
theorem RL0.cur {c : Option Cur} {l : Lv} {σ : L2.St} (r : RL0 K ρ H l σ) : RL0 ⟨K.K, K.mg, c, K.w⟩ ρ H l σ := by
  induction r with
  | nil => exact .nil
  | skip _ ih => exact .skip ih
  | put r _ ih => exact .put (RV.cur _ _ r) ih

/-! ### raise -/
/-- an error class of the text, without an own __init__ -/
structure ErrK (K : PySem.W.Frag) (mg : Str → Option Value) (x : Str) : Prop where
  ex : ∃ (C : Addr) (B newId initId : String) (bmB : List Value), ExcBaseFacts B newId initId bmB ∧ PySem.W.excIn K C bmB newId = true ∧ mg x = some (.ref C) ∧ PySem.W.keepIn K (.ref C) = true ∧ PySem.W.subIn K (.ref C) (.type "BaseException") = some true ∧ PySem.W.typeIn K (.ref C) = some (.type "type")
def mRaise (x : Str) : MS := fun l h => .ok (.ex ⟨.cls x, []⟩ l) h
theorem xs_raise {x m : Str} {j : Nat} {p p2 p3 : Pos} (hc : X.calm = true) (tk : Takes X W.w) (k : ErrK X.K X.mg x) (hg : Gl X x := by rfl) (hdb : (x == ("__debug__" : Str)) = false := by decide) :
    XS X W (.Raise (some (.Call (.Name x p) [.Constant (.str m) j p2] [] p3)) none pos) (mRaise x) := by
  obtain ⟨C, B, newId, initId, bmB, F, q, gC, kC, s1, s2⟩ := k.ex
  exact ps_weak (ps_raise hc tk (pmk_own F q gC kC (raises_own s1 s2) hg hdb)) fun D σ H ⟨ρ, h, l, p, rl, o⟩ => o ρ H (.ref C) none σ (Ext.refl _ _) p rl ⟨.ref C, ⟨C, gC, rfl⟩, rfl, .inl rfl⟩

end
end Wg

namespace Wg
open PySem PySem.Spec PyProof.Rows L2 SlX
/-- a clause: the class, the slot of its name, what its suite does -/
structure Cls1 where
  c : Value
  i : Option Nat
  ts : Addr → Value → Option Addr → TS
def Cls1.ends (k : Cls1) (D : Ends) : Ends := match k.i with
  | none => D
  | some i => { nx := fun σ H => D.nx (σ.set i none) H, rt := D.rt, bk := fun σ H => D.bk (σ.set i none) H, ct := fun σ H => D.ct (σ.set i none) H }
def Cls1.slots (k : Cls1) (a : Addr) (σ : L2.St) : L2.St := match k.i with
  | none => σ
  | some i => σ.set i (some (.ref a))
/-- what the clauses wish of an error of the body -/
def wAll (K : PySem.W.Frag) (Wout : WX) (D : Ends) : List Cls1 → WX
  | [] => Wout
  | k :: r => fun cls d σ H => ∃ b, PySem.W.exmOne K cls k.c = some b ∧ (b = true → ∀ a, H a = none → k.ts a cls d (k.ends D) (k.slots a σ) H) ∧ (b = false → wAll K Wout D r cls d σ H)
abbrev Suite (X : Cx) (st : List Stmt) (ts : Addr → Value → Option Addr → TS) : Prop :=
  ∀ (a : Addr) (oe : Obj) (cls : Value) (d : Option Addr) (pn : List (Addr × Obj)), Zc cls d oe → (∃ vs, oe.data = .fields vs) → PSs (X.suite a ((a, oe) :: pn)) st (ts a cls d)
inductive Hds (X : Cx) : List ExceptHandler → List Cls1 → Prop
  | nil : Hds X [] []
  | bare {x : Str} {c : Value} {ts : Addr → Value → Option Addr → TS} {b0 : Stmt} {st : List Stmt} {p1 p2 : Pos} {r : List ExceptHandler} {l : List Cls1} (hc : Names X x c) (su : Suite X (b0 :: st) ts) (k : Hds X r l) : Hds X (.ExceptHandler (some (.Name x p1)) none (b0 :: st) p2 :: r) (⟨c, none, ts⟩ :: l)
  | named {x n : Str} {i : Nat} {c : Value} {ts : Addr → Value → Option Addr → TS} {b0 : Stmt} {st : List Stmt} {p1 p2 : Pos} {r : List ExceptHandler} {l : List Cls1} (hi : X.N[i]? = some n) (hl : X.env.kindOf n = some .local) (hc : Names X x c) (su : Suite X (b0 :: st) ts) (k : Hds X r l) :
      Hds X (.ExceptHandler (some (.Name x p1)) (some n) (b0 :: st) p2 :: r) (⟨c, some i, ts⟩ :: l)
section
variable {X : Cx} {body : List Stmt} {h0 : ExceptHandler} {hds : List ExceptHandler} {l : List Cls1} {pos : Pos} {tb : WX → TS} {Wout : WX}
theorem ps_try_all (hs : X.stack = X.env :: X.outer) (hf : X.env.frame = some X.env.locals) (hN : X.N.Nodup) (tk : Takes X Wout)
    (hb : ∀ (W : WX) (pn : List (Addr × Obj)) (xe : Value → Shared → Prop), Takes (X.tr pn xe) W → PassesOwn (model X.prog X.w) X.A X.env xe → PSs (X.tr pn xe) body (tb W))
    (hh : Hds X (h0 :: hds) l) : PS X (.Try body (h0 :: hds) [] [] pos) (fun D σ H => tb (wAll X.K Wout D l) D σ H) := ⟨fun pins s σ H D I h => by
  have ok := I.ok
  have frA : X.A.frames = some (X.env :: X.outer) := by rw [ok.frames, hs]
  refine wpAny_Try_except (wpAny_mono ((hb (wAll X.K Wout D l) (X.pn ++ pins) (fun e s1 => wpAny (model X.prog X.w) X.A (noteFrame e X.env) (fun _ s2 => wpAny (model X.prog X.w) X.A (setFlight e none) (fun _ s3 =>
    wpAny (model X.prog X.w) X.A (handleBy e X.env (h0 :: hds)) (SP X pins D) X.xe s3) X.xe s2) X.xe s1) (fun u t xx => ?_) PassesOwn.looking).run [] s σ H D (I.toTry _) h) (fun f t hsp => ?_) (fun e t he => he))
  · obtain ⟨a, B, sI, pins2, τ, G, cls, d, rfl, JT, nb, up, sky, na, os, ag, w⟩ := xx
    have J : Inv X pins τ G sI := JT.ofTry ok
    show wpAny (model X.prog X.w) X.A (noteFrame (.ref a) X.env) _ _ _
    refine Sky.land (B := B) (Z := Zc cls d) Zc.steady frA hf (by rw [← hs]; exact sky) fun h3 f3 u3 => ?_
    have J3 : Inv X pins τ G { t with heap := h3 } := J.landed nb f3.1 (up.trans u3) os ag
    obtain ⟨oe, vs, g3, z3, d3⟩ := f3.there
    have out : a ∉ frs (X.env :: X.outer) := fun hm => by
      obtain ⟨_, o', q, nf⟩ := f3.2.2.1.mem hm
      rw [g3] at q; cases q
      exact nf _ d3
    have nL : a ≠ X.env.locals := fun z => out (List.mem_filterMap.mpr ⟨X.env, List.mem_cons_self, by rw [hf, z]⟩)
    have nF : a ∉ X.fs := fun hm => by
      obtain ⟨e, he, q⟩ := List.mem_filterMap.mp hm
      exact out (List.mem_filterMap.mpr ⟨e, List.mem_cons_of_mem _ he, q⟩)
    have S3 := J3.suite g3 d3 na nL nF
    have LT : PySem.W.Looks (model X.prog X.w) h3 (typeOf (.ref a)) cls := fun A Q E s k q => wpAny_typeOf_ref (k _ _ g3) (by rw [z3.1]; exact q)
    have test : ∀ {x : Str} {c : Value} {np : Pos} {Q : Value → Shared → Prop} {E : Value → Shared → Prop}, Names X x c → Q c { t with heap := h3 } → wpAny (model X.prog X.w) (X.A.mark (some (.ref a))) (eval (.Name x np) X.env) Q E { t with heap := h3 } := fun {x c np Q E} hc q => by
      obtain ⟨g1, g2, m | ⟨m1, m2, m3⟩⟩ := hc
      · exact ld_glob (X := X.suite a ((a, oe) :: (X.pn ++ pins))) S3 g1 m q g2
      · exact ld_blt (X := X.suite a ((a, oe) :: (X.pn ++ pins))) S3 g1 m1 m2 q m3 g2
    have go : ∀ {r : List ExceptHandler} {k : List Cls1}, Hds X r k → wAll X.K Wout D k cls d τ G → wpAny (model X.prog X.w) X.A (handleBy (.ref a) X.env r) (SP X pins D) X.xe { t with heap := h3 } := by
      intro r k hk
      induction hk with
      | nil =>
        intro w
        refine wpAny_handleBy_nil ?_
        obtain ⟨_, _, _, o5, v5, T, oT, _, q5, _, dd5, h15, _⟩ := id f3
        unfold PySem.passOn
        refine wpAny_bind (wpAny_field q5 dd5 h15 ?_)
        rw [if_neg (show ¬ ((Value.ref T == Value.none) = true) from by simp)]
        have fin : wpAny (model X.prog X.w) X.A (setFlight (.ref a) X.env.frame) (fun _ s4 => wpAny (model X.prog X.w) X.A (throw (.ref a) : Sem Flow) (SP X pins D) X.xe s4) X.xe { t with heap := h3 } := by
          rw [hf]
          exact HandSPX.setFlight_upZ f3 fun h4 hh4 u4 => wpAny_throw (tk _ _ ⟨a, B, sI, pins, τ, G, cls, d, rfl, J, nb, (up.trans u3).trans u4, .inr (.inr (by rw [hs]; exact hh4)), na, os, ag, w⟩)
        first | exact wpAny_bind (wpAny_pure (wpAny_bind fin)) | exact wpAny_bind fin
      | bare hc su k2 ih =>
        intro w
        obtain ⟨b, hb1, yes, no⟩ := w
        refine wpAny_handleBy_cons (codeAny_handlers_test (test hc ((PySem.W.exm_one (M := model X.prog X.w) J3.kIn LT hb1).here ?_))) (by intro q; cases q)
        cases b with
        | false => exact ih (no rfl)
        | true =>
          refine codeAny_handlers_suite (HandSPX.lands_againZ f3 fun h4 f4 u4 => ?_)
          have J4 : Inv X pins τ G { t with heap := h4 } := J.landed nb f4.1 ((up.trans u3).trans u4) os ag
          obtain ⟨oe4, vs4, g4, z4, d4⟩ := f4.there
          refine wpAny_mono ((su a oe4 cls d (X.pn ++ pins) z4 ⟨_, d4⟩).run [] _ _ G _ (J4.suite g4 d4 na nL nF) (yes rfl a na)) (fun f s6 hsp => ?_) (fun _ _ z => False.elim z)
          cases f with
          | ret u => obtain ⟨v6, σ6, H6, S6, r6, q6⟩ := hsp; exact ⟨_, _, _, S6.unsuite ok, r6, q6⟩
          | _ => obtain ⟨σ6, H6, S6, q6⟩ := hsp; exact ⟨_, _, S6.unsuite ok, q6⟩
      | named hi hl hc su k2 ih =>
        intro w
        obtain ⟨b, hb1, yes, no⟩ := w
        refine wpAny_handleBy_cons (codeAny_handlers_test (test hc ((PySem.W.exm_one (M := model X.prog X.w) J3.kIn LT hb1).here ?_))) (by intro q; cases q)
        cases b with
        | false => exact ih (no rfl)
        | true =>
          refine codeAny_handlers_suite_as (HandSPX.lands_againZ f3 fun h4 f4 u4 => ?_)
          have J4 : Inv X pins τ G { t with heap := h4 } := J.landed nb f4.1 ((up.trans u3).trans u4) os ag
          obtain ⟨oe4, vs4, g4, z4, d4⟩ := f4.there
          refine store_ok (X := X.suite a ((a, oe4) :: (X.pn ++ pins))) (v := .ref a) (J4.suite g4 d4 na nL nF) hN hi (.inl hl) rfl (fun s5 S5 => ?_) (.inr hl)
          refine wpAny_mono ((su a oe4 cls d (X.pn ++ pins) z4 ⟨_, d4⟩).run [] s5 _ G _ S5 (yes rfl a na)) (fun f s6 hsp => ?_) (fun _ _ z => False.elim z)
          cases f with
          | ret u => obtain ⟨v6, σ6, H6, S6, r6, q6⟩ := hsp; exact gone_ok (S6.unsuite ok) hN hi hl fun s7 J7 => ⟨_, _, _, J7, r6, q6⟩
          | _ => obtain ⟨σ6, H6, S6, q6⟩ := hsp; exact gone_ok (S6.unsuite ok) hN hi hl fun s7 J7 => ⟨_, _, J7, q6⟩
    exact go hh w
  · cases f with
    | next => obtain ⟨σ2, H2, J2, q⟩ := hsp; exact wpAny_execs_nil ⟨σ2, H2, J2.ofTry ok, q⟩
    | ret u => obtain ⟨v, σ2, H2, J2, r, q⟩ := hsp; exact ⟨v, σ2, H2, J2.ofTry ok, r, q⟩
    | _ => obtain ⟨σ2, H2, J2, q⟩ := hsp; exact ⟨σ2, H2, J2.ofTry ok, q⟩⟩
end
end Wg

namespace Wg
open PySem PySem.Spec PyProof.Rows L2 SlX
/-! ### try -/
/-- a clause: does it catch, what then, the slot of its name -/
structure HC where
  ct : PV → Option Bool
  m : Ex → MS
  i : Option Nat := none
def HC.wipe (k : HC) (l : Lv) : Lv := match k.i with
  | none => l
  | some i => l.set i none
def HC.fits (k : HC) (l : Lv) : Bool := match k.i with
  | none => true
  | some i => decide (i < l.length)
def HC.back (k : HC) (r : R Fl) : R Fl := match r with
  | .ok (.nx l) h => .ok (.nx (k.wipe l)) h
  | .ok (.bk l) h => .ok (.bk (k.wipe l)) h
  | .ok (.ct l) h => .ok (.ct (k.wipe l)) h
  | .ok (.rt x) h => .ok (.rt x) h
  | _ => .no
def handle : List HC → Ex → MS
  | [], e => fun l h => .ok (.ex e l) h
  | k :: r, e => fun l h => match k.ct e.cls with
    | some true => if k.fits l = true then k.back (k.m e (k.wipe l) h) else .no
    | some false => handle r e l h
    | none => .no
def mTry (body : MS) (hs : List HC) : MS := fun l h => match body l h with
  | .ok (.ex e l') h' => handle hs e l' h'
  | r => r
/-- the class of an error -/
def ClsOf (mg : Str → Option Value) : PV → Value → Prop
  | .cls n, c => ∃ C, mg n = some (.ref C) ∧ c = .ref C
  | .ty n, c => c = .type n
  | _, _ => False
/-- what a clause for c catches -/
def Catch (K : PySem.W.Frag) (mg : Str → Option Value) (c : Value) (ct : PV → Option Bool) : Prop := ∀ (x : PV) (b : Bool), ct x = some b → ∀ v, ClsOf mg x v → PySem.W.exmOne K v c = some b
/-- .. that catches just what the table tells -/
def ctOf (t : List (Str × Bool)) : PV → Option Bool
  | .cls n => t.lookup n
  | _ => none
abbrev WNo (c : Option Cur) : WQ := ⟨fun _ _ _ _ => False, c⟩
inductive XHds (X : Cx) : List ExceptHandler → List HC → Prop
  | nil : XHds X [] []
  | bare {x : Str} {c : Value} {ct : PV → Option Bool} {m : MS} {b0 : Stmt} {st : List Stmt} {p1 p2 : Pos} {r : List ExceptHandler} {l : List HC} (hc : Names X x c) (ck : Catch X.K X.mg c ct)
      (su : ∀ (a : Addr) (oe : Obj) (cls : Value) (d : Option Addr) (pn : List (Addr × Obj)), Zc cls d oe → (∃ vs, oe.data = .fields vs) → XSs (X.suite a ((a, oe) :: pn)) (WNo none) (b0 :: st) m) (k : XHds X r l) :
      XHds X (.ExceptHandler (some (.Name x p1)) none (b0 :: st) p2 :: r) (⟨ct, fun _ => m, none⟩ :: l)
  | named {x n : Str} {i : Nat} {c : Value} {ct : PV → Option Bool} {m : List (Str × PV) → MS} {b0 : Stmt} {st : List Stmt} {p1 p2 : Pos} {r : List ExceptHandler} {l : List HC} (hi : X.N[i]? = some n) (hl : X.env.kindOf n = some .local) (hc : Names X x c) (ck : Catch X.K X.mg c ct)
      (only : ∀ y, ct y = some true → y = .cls x)
      (su : ∀ (a : Addr) (oe : Obj) (cls : Value) (d : Option Addr) (pn : List (Addr × Obj)) (fs : List (Str × PV)), Zc cls d oe → (∃ vs, oe.data = .fields vs) → XSs (X.suite a ((a, oe) :: pn)) (WNo (some ⟨i, a, x, cls, d, fs⟩)) (b0 :: st) (m fs)) (k : XHds X r l) :
      XHds X (.ExceptHandler (some (.Name x p1)) (some n) (b0 :: st) p2 :: r) (⟨ct, fun e => m e.fld, some i⟩ :: l)
section
variable {X : Cx} {pos : Pos}
theorem rx_cls {K : KC} {ρ : Pl} {H : Hp} {e : Ex} {cls : Value} {d : Option Addr} (r : RX K ρ H e cls d) {b : Bool} {ct : PV → Option Bool} {Kf : PySem.W.Frag} {c : Value} (ck : Catch Kf K.mg c ct) (h : ct e.cls = some b) (hx : ∀ n, e.cls = .cls n ∨ (∃ n, e.cls = .ty n) → True) (hk : (∃ n, e.cls = .cls n) ∨ ∃ n, e.cls = .ty n) :
    PySem.W.exmOne Kf cls c = some b := by
  obtain ⟨v, r1, r2, _⟩ := r
  rcases hk with ⟨n, hk⟩ | ⟨n, hk⟩
  · rw [hk] at r1 h
    obtain ⟨C, m, rfl⟩ := r1
    obtain rfl : cls = .ref C := r2
    exact ck _ _ h _ ⟨C, m, rfl⟩
  · rw [hk] at r1 h
    obtain rfl : v = .ty n := r1
    obtain rfl : cls = .type n := r2
    exact ck _ _ h _ rfl
/-- classes alone -/
def isCls : PV → Bool
  | .cls _ => true
  | .ty _ => true
  | _ => false
theorem XHds.to {hds : List ExceptHandler} {ks : List HC} (hk : XHds X hds ks) : ∃ l : List Cls1, Hds X hds l ∧ ∀ (W : WX) (D : Ends) (e : Ex) (l0 : Lv) (h : Store) (ρ : Pl) (H : Hp) (cls : Value) (d : Option Addr) (σ : L2.St), isCls e.cls = true →
    Rep ⟨X.K, X.mg, none, X.w⟩ ρ h H → RL ⟨X.K, X.mg, none, X.w⟩ ρ H l0 σ → RX ⟨X.K, X.mg, none, X.w⟩ ρ H e cls d → OutS ⟨X.K, X.mg, none, X.w⟩ ⟨W, none⟩ ρ H (handle ks e l0 h) D → wAll X.K W D l cls d σ H := by
  induction hk with
  | nil => exact ⟨[], .nil, fun W D e l0 h ρ H cls d σ _ p rl r o => o ρ H cls d σ (Ext.refl _ _) p rl r⟩
  | @bare x c ct m b0 st p1 p2 r l hc ck su k ih =>
    obtain ⟨l2, h2, f⟩ := ih
    refine ⟨⟨c, none, fun a cls d => tS ⟨X.K, X.mg, none, X.w⟩ (WNo none) m⟩ :: l2, .bare hc (fun a oe cls d pn z v => su a oe cls d pn z v) h2, fun W D e l0 h ρ H cls d σ ec p rl r o => ?_⟩
    unfold handle at o
    have hcl : (∃ n, e.cls = .cls n) ∨ ∃ n, e.cls = .ty n := by
      cases q : e.cls with
      | cls n => exact .inl ⟨n, rfl⟩
      | ty n => exact .inr ⟨n, rfl⟩
      | _ => rw [q] at ec; cases ec
    cases q : ct e.cls with
    | none => simp only [q] at o; exact o.elim
    | some b =>
      simp only [q] at o
      refine ⟨b, rx_cls r ck q (fun _ _ => trivial) hcl, fun hb a ha => ?_, fun hb => ?_⟩
      · subst hb
        refine ⟨ρ, h, l0, p, rl, ?_⟩
        have o : OutS ⟨X.K, X.mg, none, X.w⟩ ⟨W, none⟩ ρ H (HC.back ⟨ct, fun _ => m, none⟩ (m l0 h)) D := o
        cases q2 : m l0 h with
        | no => rw [q2] at o; exact o
        | exc _ _ => rw [q2] at o; exact o.elim
        | ok fl h' =>
          rw [q2] at o
          cases fl with
          | ex _ _ => exact o.elim
          | _ => exact o
      · subst hb
        exact f W D e l0 h ρ H cls d σ ec p rl r o
  | @named x n i c ct m b0 st p1 p2 r l hi hl hc ck only su k ih =>
    obtain ⟨l2, h2, f⟩ := ih
    refine ⟨⟨c, some i, fun a cls d D σ H => ∃ fs, tS ⟨X.K, X.mg, some ⟨i, a, x, cls, d, fs⟩, X.w⟩ (WNo (some ⟨i, a, x, cls, d, fs⟩)) (m fs) D σ H⟩ :: l2, .named hi hl hc (fun a oe cls d pn z v => ⟨fun pins s σ H D I ⟨fs, q⟩ => (su a oe cls d pn fs z v).run pins s σ H D I q⟩) h2, fun W D e l0 h ρ H cls d σ ec p rl r o => ?_⟩
    unfold handle at o
    have hcl : (∃ n, e.cls = .cls n) ∨ ∃ n, e.cls = .ty n := by
      cases q : e.cls with
      | cls n => exact .inl ⟨n, rfl⟩
      | ty n => exact .inr ⟨n, rfl⟩
      | _ => rw [q] at ec; cases ec
    cases q : ct e.cls with
    | none => simp only [q] at o; exact o.elim
    | some b =>
      simp only [q] at o
      refine ⟨b, rx_cls r ck q (fun _ _ => trivial) hcl, fun hb a ha => ?_, fun hb => ?_⟩
      · subst hb
        have o : OutS ⟨X.K, X.mg, none, X.w⟩ ⟨W, none⟩ ρ H (if decide (i < l0.length) = true then HC.back ⟨ct, fun e => m e.fld, some i⟩ (m e.fld (l0.set i none) h) else .no) D := o
        by_cases hll : i < l0.length
        case neg => rw [decide_eq_false hll] at o; exact o.elim
        rw [decide_eq_true hll] at o
        have o : OutS ⟨X.K, X.mg, none, X.w⟩ ⟨W, none⟩ ρ H (HC.back ⟨ct, fun e => m e.fld, some i⟩ (m e.fld (l0.set i none) h)) D := o
        have hlt : i < σ.length := by rw [← rl.s.len]; exact hll
        have ex := only _ q
        obtain ⟨v, r1, r2, r3⟩ := r
        rw [ex] at r1
        obtain ⟨C, mC, rfl⟩ := r1
        obtain rfl : cls = .ref C := r2
        refine ⟨e.fld, ρ, h, l0.set i none, p.cur, ⟨(rl.s.wipe i (some (.ref a))).cur, ?_⟩, ?_⟩
        · refine ⟨?_, ⟨C, mC, rfl⟩, r3.imp id fun ⟨dd, us, q1, q2, q3⟩ => ⟨dd, us, q1, q2, RVx.cur _ q3⟩⟩
          show (σ.set i (some (.ref a)))[i]? = _
          rw [List.getElem?_set_self hlt]
        · cases q2 : m e.fld (l0.set i none) h with
            | no => rw [q2] at o; exact o
            | exc _ _ => rw [q2] at o; exact o.elim
            | ok fl h' =>
              rw [q2] at o
              cases fl with
              | ex _ _ => exact o.elim
              | rt x => exact fun ρ' H' v x p r => o ρ' H' v x p.cur (RV.cur _ _ r)
              | nx l' => exact fun ρ' H' σ' x p rl => o ρ' H' (σ'.set i none) x p.cur ⟨(rl.s.wipe i).cur, trivial⟩
              | bk l' => exact fun ρ' H' σ' x p rl => o ρ' H' (σ'.set i none) x p.cur ⟨(rl.s.wipe i).cur, trivial⟩
              | ct l' => exact fun ρ' H' σ' x p rl => o ρ' H' (σ'.set i none) x p.cur ⟨(rl.s.wipe i).cur, trivial⟩
      · subst hb
        exact f W D e l0 h ρ H cls d σ ec p rl r o
/-- errors of classes alone -/
def chkB (mb : MS) : MS := fun l h => match mb l h with
  | .ok (.ex e l') h' => if isCls e.cls = true then .ok (.ex e l') h' else .no
  | r => r
theorem xs_try {W : WQ} {body : List Stmt} {h0 : ExceptHandler} {hds : List ExceptHandler} {mb : MS} {ks : List HC} (hs : X.stack = X.env :: X.outer) (hf : X.env.frame = some X.env.locals) (hN : X.N.Nodup) (tk : Takes X W.w) (hcur : W.cur = none)
    (hb : ∀ (W' : WX) (pn : List (Addr × Obj)) (xe : Value → Shared → Prop), Takes (X.tr pn xe) W' → PassesOwn (model X.prog X.w) X.A X.env xe → XSs (X.tr pn xe) ⟨W', none⟩ body mb) (hk : XHds X (h0 :: hds) ks) : XS X W (.Try body (h0 :: hds) [] [] pos) (mTry (chkB mb) ks) := by
  obtain ⟨w, c⟩ := W
  obtain rfl : c = none := hcur
  obtain ⟨l, hl, f⟩ := hk.to
  refine ps_weak (ps_try_all (tb := fun W' => tS ⟨X.K, X.mg, none, X.w⟩ ⟨W', none⟩ mb) hs hf hN tk (fun W' pn xe t p => hb W' pn xe t p) hl) fun D σ H ⟨ρ, h, l0, p, rl, o⟩ => ⟨ρ, h, l0, p, rl, ?_⟩
  have o : OutS ⟨X.K, X.mg, none, X.w⟩ ⟨w, none⟩ ρ H (mTry _ ks l0 h) D := o
  unfold mTry chkB at o
  cases q : mb l0 h with
  | no => simp only [q] at o; exact o
  | exc _ _ => simp only [q] at o; exact o
  | ok fl h' =>
    simp only [q] at o
    cases fl with
    | ex e l' =>
      by_cases hc : isCls e.cls = true
      · simp only [hc, if_true] at o
        exact fun ρ' H' cls d σ' a p' rl' r => f w D e l' h' ρ' H' cls d σ' hc p' rl' r (OutS.ext a o)
      · simp only [hc] at o; exact o.elim
    | _ => exact o
/-- e.f, e the error at hand -/
def mFld (f : Str) (fs : List (Str × PV)) : M PV := fun _ h => match fs.lookup f with
  | some x => .ok x h
  | none => .no
theorem RVx.get {K : KC} {ρ : Pl} {H : Hp} {us : List (Str × V)} {f : Str} {x : PV} : ∀ {fs : List (Str × PV)}, RVx K ρ H us fs → fs.lookup f = some x → ∃ v, us.lookup f = some v ∧ RV K ρ H x v
  | [], _, e => by cases e
  | (g, y) :: r, ⟨⟨v, e1, h1⟩, h2⟩, e => by
    simp only [List.lookup] at e
    split at e
    next q =>
      cases e
      have : f = g := by simpa using q
      rw [this]
      exact ⟨v, e1, h1⟩
    next => exact RVx.get h2 e
theorem xe_fld {a : Addr} {oe : Obj} {pn : List (Addr × Obj)} {i : Nat} {x n f : Str} {cls : Value} {d : Option Addr} {fs : List (Str × PV)} {p : Pos} (T : ∀ C, X.mg x = some (.ref C) → XfC X.K C ∧ PySem.W.findIn X.K (.ref C) f = some none) (hz : Zc cls d oe) (hf : ∃ vs, oe.data = .fields vs)
    (hN : X.N[i]? = some n := by rfl) (hv : Vis X.env.scope n := by first | exact Or.inl rfl | exact Or.inr (Or.inl rfl) | exact Or.inr (Or.inr rfl)) (hd : (n == ("__debug__" : Str)) = false := by decide) (hcd : (n == ("__classdict__" : Str)) = false := by decide)
    (hb : attributeBase (.Name n p) f X.env (eval (.Name n p) X.env) = eval (.Name n p) X.env := by rfl) : XE (X.suite a ((a, oe) :: pn)) (WNo (some ⟨i, a, x, cls, d, fs⟩)) (.Attribute (.Name n p) f pos) (mFld f fs) := by
  by_cases hm : ∃ C, X.mg x = some (.ref C)
  · obtain ⟨C, hm⟩ := hm
    obtain ⟨T1, T2⟩ := T C hm
    refine pe_weak (pe_xf (C := C) T1 T2 hz hf (pe_var (X := X.suite a ((a, oe) :: pn)) hN hv hd hcd) hb) fun σ H Q ⟨ρ, h, l, p, rl, o⟩ => ?_
    obtain ⟨q1, ⟨C', m', e'⟩, q3⟩ := rl.cur
    have m' : X.mg x = some (.ref C') := m'
    rw [hm] at m'
    cases m'
    refine ⟨_, q1, rfl, e', ?_⟩
    unfold mFld at o
    cases q : fs.lookup f with
    | none => simp only [q] at o; exact o.elim
    | some y =>
      simp only [q] at o
      rcases q3 with q3 | ⟨dd, us, e1, e2, e3⟩
      · have q3 : fs = [] := q3
        rw [q3] at q; cases q
      · obtain ⟨v, e4, e5⟩ := RVx.get e3 q
        exact ⟨dd, us, v, e1, e2.2, e4, o.ok p e5⟩
  · refine ⟨fun pins s σ H Q I ⟨ρ, h, l, p, rl, o⟩ => ?_⟩
    obtain ⟨q1, ⟨C', m', e'⟩, q3⟩ := rl.cur
    exact absurd ⟨C', m'⟩ hm
end
end Wg

namespace Wg
open PySem PySem.Spec PyProof.Rows L2 SlX
section
variable {K : KC} {ρ ρ' : Pl} {H H' : Hp} {h : Store} {X : Cx} {W : WQ} {D : Ends} {pos : Pos} {a b e : Expr} {ma mb m : M PV} {k : Nat}
/-! ### slices -/
abbrev MO := M (Option Int)
def tO (K : KC) (W : WQ) (m : MO) : TO := fun σ H Q => ∃ ρ h l, Rep K ρ h H ∧ RL K ρ H l σ ∧ Out K ρ H (fun _ _ a b => a = b) (fun c d H' => W c d σ H') (m l h) Q
abbrev XO (X : Cx) (W : WQ) (e : Option Expr) (m : MO) : Prop := PO X e (tO (kc X W) W m)
theorem po_weak {e : Option Expr} {t t' : TO} (h : PO X e t) (w : ∀ σ H Q, t' σ H Q → t σ H Q) : PO X e t' := ⟨fun pins s σ H Q I q => h.run pins s σ H Q I (w _ _ _ q)⟩
def mNoO : MO := fun _ h => .ok none h
def mSoO (m : M PV) : MO := fun l h => (m l h).bind fun x h1 => match x with
  | .int i => .ok (some i) h1
  | _ => .no
theorem xo_none : XO X W none mNoO := po_weak po_none fun σ H Q ⟨ρ, h, l, p, rl, o⟩ => o.ok p rfl
theorem xo_some (he : XE X W e m) : XO X W (some e) (mSoO m) := po_weak (po_some he) fun σ H Q ⟨ρ, h, l, p, rl, o⟩ => ⟨ρ, h, l, p, rl, Out.mono (Out.bind o) fun v H1 ⟨x, h1, ρ1, e1, p1, r1, o1⟩ => by
  cases x with
  | int i => exact ⟨i, r1, o1.ok p1 rfl⟩
  | _ => exact o1.elim⟩
def cutP {α : Type} (xs : List α) (lo hi : Option Int) : List α := (xs.drop (HT.sIx xs.length 0 lo)).take (HT.sIx xs.length xs.length hi - HT.sIx xs.length 0 lo)
theorem RVs.drop : ∀ {n : Nat} {xs : List PV} {vs : List V}, RVs K ρ H xs vs → RVs K ρ H (xs.drop n) (vs.drop n)
  | 0, _, _, h => h
  | _ + 1, [], _, h => by rw [show _ = [] from h]; rfl
  | n + 1, x :: xs, _, ⟨v, r, e, _, h2⟩ => by rw [e]; exact RVs.drop (n := n) h2
theorem RVs.take : ∀ {n : Nat} {xs : List PV} {vs : List V}, RVs K ρ H xs vs → RVs K ρ H (xs.take n) (vs.take n)
  | 0, _, _, _ => rfl
  | _ + 1, [], _, h => by rw [show _ = [] from h]; rfl
  | n + 1, x :: xs, _, ⟨v, r, e, h1, h2⟩ => by rw [e]; exact ⟨v, _, rfl, h1, RVs.take (n := n) h2⟩
theorem RVs.cutP {xs : List PV} {vs : List V} {lo hi : Option Int} (r : RVs K ρ H xs vs) : RVs K ρ H (cutP xs lo hi) (cutV vs lo hi) := by
  unfold Wg.cutP cutV
  rw [r.len]
  exact r.drop.take
theorem RVs.rev : ∀ {xs : List PV} {vs : List V}, RVs K ρ H xs vs → RVs K ρ H xs.reverse vs.reverse
  | [], _, h => by rw [show _ = [] from h]; rfl
  | x :: xs, _, ⟨v, r, e, h1, h2⟩ => by rw [e, List.reverse_cons, List.reverse_cons]; exact (RVs.rev h2).app (RVs.one h1)
def fSl (x : PV) (lo hi : Option Int) (h : Store) : R PV := match x with
  | .tup xs => .ok (.tup (cutP xs lo hi)) h
  | .str z => if z.length ≤ sizeLine then .ok (.str (cutP z lo hi)) h else .no
  | x => match lstRd h x with
    | some xs => .ok (.lst (cutP xs lo hi)) h
    | none => .no
def mSl (m : M PV) (lo hi : MO) : M PV := fun l h => (m l h).bind fun x h1 => (lo l h1).bind fun a h2 => (hi l h2).bind fun b h3 => fSl x a b h3
def rSlW (K : PySem.W.Frag) : V → Option Int → Option Int → Hp → VK → Prop := fun x lo hi H Q => rSlL K x lo hi H Q ∨ rSlA K x lo hi H Q ∨ rSlS x lo hi H Q
theorem sl_all : SlR X (rSlW X.K) := sl_list.or (sl_tupA.or sl_str)
theorem sx_sl {σ : L2.St} {x : PV} {v : V} {lo hi : Option Int} {Q : VK} (p : Rep K ρ h H) (r : RV K ρ H x v) (o : Out K ρ H (RV K) (fun c d H' => W c d σ H') (fSl x lo hi h) Q) : rSlW K v lo hi H Q := by
  unfold fSl at o
  split at o
  next xs =>
    obtain ⟨a, vs, e1, t, r1⟩ := tup_at r
    subst e1
    refine .inr (.inl ⟨a, vs, rfl, t, fun w => ?_, fun w q hq => ?_⟩)
    · have : cutP xs lo hi = xs := by
        unfold Wg.cutP
        rw [r1.len, w.1, w.2, List.drop_zero, Nat.sub_zero, ← r1.len, List.take_length]
      rw [this] at o
      exact o.ok p r
    · obtain ⟨x', p', r'⟩ := new_tup p hq (r1.cutP (lo := lo) (hi := hi))
      exact o ρ _ _ x' p' r'
  next z =>
    obtain ⟨c, o⟩ := out_if o
    rw [show v = _ from r]
    exact .inr (.inr ⟨_, rfl, by simpa [Str.length] using c, o.ok p (by
      show V.str (cutS ⟨z.toArray⟩ lo hi) = strV (cutP z lo hi)
      unfold cutS Wg.cutP
      simp [Str.length])⟩)
  next =>
    split at o
    next xs q =>
      obtain ⟨a, vs, e1, t, rs⟩ := lstRd_at p r q
      exact .inl ⟨a, vs, e1, t, fun q hq => let ⟨x', p', r'⟩ := new_lst p hq (rs.cutP (lo := lo) (hi := hi)); o ρ _ _ x' p' r'⟩
    next => exact o.elim
theorem xe_slice {lo hi : Option Expr} {ml mh : MO} {p2 : Pos} (he : XE X W e m) (hl : XO X W lo ml) (hh : XO X W hi mh) : XE X W (.Subscript e (.Slice lo hi none p2) pos) (mSl m ml mh) :=
  pe_weak (pe_slice sl_all he hl hh) fun σ H Q ⟨ρ, h, l, p, rl, o⟩ => ⟨ρ, h, l, p, rl, Out.mono (Out.bind o) fun v H1 ⟨x, h1, ρ1, e1, p1, r1, o1⟩ => ⟨ρ1, h1, l, p1, rl.ext e1, Out.mono (Out.bind o1) fun u H2 ⟨a, h2, ρ2, e2, p2, r2, o2⟩ => by
    subst r2
    exact ⟨ρ2, h2, l, p2, (rl.ext e1).ext e2, Out.mono (Out.bind o2) fun w H3 ⟨b, h3, ρ3, e3, p3, r3, o3⟩ => by
      subst r3
      exact sx_sl (W := W) (σ := σ) p3 ((r1.ext e2).ext e3) o3⟩⟩⟩
def fRev (x : PV) (h : Store) : R PV := match lstRd h x with
  | some xs => .ok (.lst xs.reverse) h
  | none => .no
theorem xe_rev {k : Nat} {p1 p2 p3 : Pos} (he : XE X W e m) : XE X W (.Subscript e (.Slice none none (some (.UnaryOp .USub (.Constant (.int 1) k p1) p2)) p3) pos) (mUn fRev m) :=
  pe_weak (pe_revL he) fun σ H Q ⟨ρ, h, l, p, rl, o⟩ => ⟨ρ, h, l, p, rl, Out.mono (Out.bind o) fun v H1 ⟨x, h1, ρ1, e1, p1, r1, o1⟩ => by
    unfold fRev at o1
    split at o1
    next xs q =>
      obtain ⟨a, vs, e2, t, rs⟩ := lstRd_at p1 r1 q
      exact ⟨a, vs, e2, t, fun q hq => let ⟨x', p', r'⟩ := new_lst p1 hq rs.rev; o1 ρ1 _ _ x' p' r'⟩
    next => exact o1.elim⟩

/-! ### is None -/
def isNon : PV → Bool
  | .non => true
  | _ => false
def fIs (x y : PV) (h : Store) : R PV := match y with
  | .non => .ok (.bl (isNon x)) h
  | _ => .no
def fIsNot (x y : PV) (h : Store) : R PV := match y with
  | .non => .ok (.bl (!isNon x)) h
  | _ => .no
theorem isNon_at {x : PV} {v : V} (r : RV K ρ H x v) : decide (v = .non) = isNon x := by
  cases x with
  | non => rw [show v = _ from r]; rfl
  | bl b => rw [show v = _ from r]; rfl
  | int b => rw [show v = _ from r]; rfl
  | str b => rw [show v = _ from r]; rfl
  | ty b => rw [show v = _ from r]; rfl
  | adr b => rw [show v = _ from r]; rfl
  | ref i => obtain ⟨p, _, e⟩ := r; rw [e]; rfl
  | tup xs => obtain ⟨p, _, e, _⟩ := r; rw [e]; rfl
  | lst xs => obtain ⟨p, _, e, _⟩ := r; rw [e]; rfl
  | scr xs => obtain ⟨p, _, e, _⟩ := r; rw [e]; rfl
  | dct xs => obtain ⟨p, _, e, _⟩ := r; rw [e]; rfl
  | dcT xs => obtain ⟨p, _, e, _⟩ := r; rw [e]; rfl
  | cls n => obtain ⟨p, _, e⟩ := r; rw [e]; rfl
  | ins n xs => obtain ⟨p, _, _, _, e, _⟩ := r; rw [e]; rfl
  | set xs => obtain ⟨p, _, e, _⟩ := r; rw [e]; rfl
  | dctO xs => obtain ⟨p, _, _, e, _⟩ := r; rw [e]; rfl
  | exn n => obtain ⟨p, _, _, _, e, _⟩ := r; rw [e]; rfl
theorem ox_is : OpX X W fIs (fun x y H Q => y = .non ∧ Q (.bl (decide (x = .non))) H) := by
  intro ρ h σ H x y v w Q p rx ry o
  unfold fIs at o
  split at o
  next => exact ⟨ry, by rw [isNon_at rx]; exact o.ok p rfl⟩
  next => exact o.elim
theorem ox_isNot : OpX X W fIsNot (fun x y H Q => y = .non ∧ Q (.bl (!decide (x = .non))) H) := by
  intro ρ h σ H x y v w Q p rx ry o
  unfold fIsNot at o
  split at o
  next => exact ⟨ry, by rw [isNon_at rx]; exact o.ok p rfl⟩
  next => exact o.elim
theorem xe_is (ha : XE X W a ma) (hb : XE X W b mb) (hm : behindInMarks .Is b = false := by with_unfolding_all rfl) : XE X W (.Compare a [.Is] [b] pos) (mBin fIs ma mb) := xe_cmp op_isN ox_is ha hb hm
theorem xt_is (ha : XE X W a ma) (hb : XE X W b mb) (hm : behindInMarks .Is b = false := by with_unfolding_all rfl) : XT X W (.Compare a [.Is] [b] pos) (mB (mBin fIs ma mb)) := xt_cmp op_isN ox_is ha hb hm

theorem xe_isNot (ha : XE X W a ma) (hb : XE X W b mb) (hm : behindInMarks .IsNot b = false := by with_unfolding_all rfl) : XE X W (.Compare a [.IsNot] [b] pos) (mBin fIsNot ma mb) := xe_cmp op_notN ox_isNot ha hb hm
theorem xt_isNot (ha : XE X W a ma) (hb : XE X W b mb) (hm : behindInMarks .IsNot b = false := by with_unfolding_all rfl) : XT X W (.Compare a [.IsNot] [b] pos) (mB (mBin fIsNot ma mb)) := xt_cmp op_notN ox_isNot ha hb hm

/-! ### targets (a, b, ..) -/
abbrev MGs := List PV → Lv → Store → R Lv
def tGs (K : KC) (W : WQ) (g : MGs) : TGs := fun vs σ H Q => ∃ ρ h l xs, Rep K ρ h H ∧ RL K ρ H l σ ∧ RVs K ρ H xs vs ∧ Out K ρ H (RL K) (fun c d H' => ∀ σ', W c d σ' H') (g xs l h) Q
theorem pgs_weak {es : List Expr} {t t' : TGs} (h : PGs X es t) (w : ∀ v σ H Q, t' v σ H Q → t v σ H Q) : PGs X es t' := ⟨fun pins s σ H v u Q I r q => h.run pins s σ H v u Q I r (w _ _ _ _ q)⟩
abbrev XGs (X : Cx) (W : WQ) (es : List Expr) (g : MGs) : Prop := PGs X es (tGs (kc X W) W g)
def gNilX : MGs := fun xs l h => match xs with
  | [] => .ok l h
  | _ => .no
def gConsX (g : MG) (gs : MGs) : MGs := fun xs l h => match xs with
  | x :: r => (g x l h).noX.bind fun l1 h1 => gs r l1 h1
  | [] => .no
theorem xgs_nil : XGs X W [] gNilX := pgs_weak pgs_nil fun v σ H Q ⟨ρ, h, l, xs, p, rl, r, o⟩ => by
  cases xs with
  | nil => exact ⟨r, o.ok p rl⟩
  | cons x xs => exact o.elim
theorem xgs_cons {t : Expr} {ts : List Expr} {g : MG} {gs : MGs} (h1 : XG X W t g) (h2 : XGs X W ts gs) (hs : (assignEach (t :: ts) X.env).map (·.2) = assign t X.env :: (assignEach ts X.env).map (·.2) := by rfl) : XGs X W (t :: ts) (gConsX g gs) :=
  pgs_weak (pgs_cons h1 h2 hs) fun v σ H Q ⟨ρ, h, l, xs, p, rl, r, o⟩ => by
    cases xs with
    | nil => exact o.elim
    | cons x xs =>
      obtain ⟨v, rr, e, r1, r2⟩ := r
      refine ⟨v, rr, e, ρ, h, l, x, p, rl, r1, ?_⟩
      have o : Out (kc X W) ρ H (RL (kc X W)) (fun c d H' => ∀ σ', W c d σ' H') ((g x l h).noX.bind fun l1 h1 => gs xs l1 h1) Q := o
      cases q : g x l h with
      | no => rw [q] at o; exact o.elim
      | exc _ _ => rw [q] at o; exact o.elim
      | ok l1 h1 =>
        rw [q] at o
        exact fun ρ' H' σ' x' p' rl' => ⟨ρ', h1, l1, xs, p', rl', RVs.ext x' _ _ r2, Out.ext x' o⟩
def gTupX (n : Nat) (g : MGs) : MG := fun x l h => match x with
  | .tup xs => if xs.length = n then g xs l h else .no
  | _ => .no
theorem xg_tup {ts : List Expr} {k : Nat} {g : MGs} {n : Nat} (hc : X.calm = true) (h : XGs X W ts g) (hn : (assignEach ts X.env).length = n := by rfl) (hst : (assignEach ts X.env).findIdx? (·.1) = none := by rfl) : XG X W (.Tuple ts k pos) (gTupX n g) :=
  pg_weak (pg_tup hc h hn hst) fun v σ H Q ⟨ρ, h, l, x, p, rl, r, o⟩ => by
    cases x with
    | tup xs =>
      obtain ⟨c, o⟩ := out_if o
      obtain ⟨a, vs, e, t, rs⟩ := tup_at r
      exact ⟨a, vs, e, t, by rw [← rs.len]; exact c, ρ, h, l, xs, p, rl, rs, o⟩
    | _ => exact o.elim
/-! .. within a block -/
def tGsw (K : KC) (W : WQ) (vs : List Nat) (g : MGs) : TGs := fun us σ H Q => ∃ ρ h l xs, Rep K ρ h H ∧ RL K ρ H l σ ∧ RVs K ρ H xs us ∧ Out K ρ H (fun ρ' H' l' σ' => RL K ρ' H' l' σ' ∧ wipe σ' vs = wipe σ vs) (fun c d H' => ∀ σ', W c d σ' H') (g xs l h) Q
abbrev XGsw (X : Cx) (W : WQ) (vs : List Nat) (es : List Expr) (g : MGs) : Prop := PGs X es (tGsw (kc X W) W vs g)
variable {vs : List Nat}
theorem xgsw_nil : XGsw X W vs [] gNilX := pgs_weak pgs_nil fun v σ H Q ⟨ρ, h, l, xs, p, rl, r, o⟩ => by
  cases xs with
  | nil => exact ⟨r, o.ok p ⟨rl, rfl⟩⟩
  | cons x xs => exact o.elim
theorem xgsw_cons {t : Expr} {ts : List Expr} {g : MG} {gs : MGs} (h1 : XGw X W vs t g) (h2 : XGsw X W vs ts gs) (hs : (assignEach (t :: ts) X.env).map (·.2) = assign t X.env :: (assignEach ts X.env).map (·.2) := by rfl) : XGsw X W vs (t :: ts) (gConsX g gs) :=
  pgs_weak (pgs_cons h1 h2 hs) fun v σ H Q ⟨ρ, h, l, xs, p, rl, r, o⟩ => by
    cases xs with
    | nil => exact o.elim
    | cons x xs =>
      obtain ⟨v, rr, e, r1, r2⟩ := r
      refine ⟨v, rr, e, ρ, h, l, x, p, rl, r1, ?_⟩
      have o : Out (kc X W) ρ H (fun ρ' H' l' σ' => RL (kc X W) ρ' H' l' σ' ∧ wipe σ' vs = wipe σ vs) (fun c d H' => ∀ σ', W c d σ' H') ((g x l h).noX.bind fun l1 h1 => gs xs l1 h1) Q := o
      cases q : g x l h with
      | no => rw [q] at o; exact o.elim
      | exc _ _ => rw [q] at o; exact o.elim
      | ok l1 h1 =>
        rw [q] at o
        rintro ρ' H' σ' x' p' ⟨rl', w'⟩
        refine ⟨ρ', h1, l1, xs, p', rl', RVs.ext x' _ _ r2, ?_⟩
        rw [w']
        exact Out.ext x' o
theorem xgw_tup {ts : List Expr} {k : Nat} {g : MGs} {n : Nat} (hc : X.calm = true) (h : XGsw X W vs ts g) (hn : (assignEach ts X.env).length = n := by rfl) (hst : (assignEach ts X.env).findIdx? (·.1) = none := by rfl) : XGw X W vs (.Tuple ts k pos) (gTupX n g) :=
  pg_weak (pg_tup hc h hn hst) fun v σ H Q ⟨ρ, h, l, x, p, rl, r, o⟩ => by
    cases x with
    | tup xs =>
      obtain ⟨c, o⟩ := out_if o
      obtain ⟨a, us, e, t, rs⟩ := tup_at r
      exact ⟨a, us, e, t, by rw [← rs.len]; exact c, ρ, h, l, xs, p, rl, rs, o⟩
    | _ => exact o.elim
end
end Wg

namespace Wg
open PySem PySem.Spec PyProof.Rows L2 SlX
section
variable {K : KC} {ρ ρ' : Pl} {H H' : Hp} {h : Store} {X : Cx} {W : WQ} {D : Ends} {pos : Pos} {a b e : Expr} {ma mb m : M PV} {k : Nat}
/-! ### what a dict holds -/
def lookD (kvs : List (PV × PV)) (c : Key) : Option PV := (kvs.find? fun kv => decide (keyP kv.1 = some c)).map (·.2)
def lookT (kvs : List (PV × PV)) (c : List Key) : Option PV := (kvs.find? fun kv => decide (keyT kv.1 = some c)).map (·.2)
/-- r is o's -/
def Hld (K : KC) (ρ : Pl) (H : Hp) : Option PV → Option V → Prop
  | none, r => r = none
  | some x, r => ∃ w, r = some w ∧ RV K ρ H x w
theorem RVd.look {c : Key} : ∀ {kvs : List (PV × PV)} {vs : List (Key × V)}, RVd K ρ H kvs vs → Hld K ρ H (lookD kvs c) (valV vs c)
  | [], _, r => by rw [show _ = [] from r]; rfl
  | (k0, x) :: xs, _, ⟨c0, v, r, e1, e2, h1, h2⟩ => by
    subst e1
    by_cases z : c0 = c
    · subst z
      have e : lookD ((k0, x) :: xs) c0 = some x := by simp [lookD, List.find?_cons, e2]
      rw [e]
      exact ⟨v, valV_pos rfl, h1⟩
    · have e : lookD ((k0, x) :: xs) c = lookD xs c := by simp [lookD, List.find?_cons, e2, z]
      rw [e, valV_neg z]
      exact RVd.look h2
theorem RVt.look {c : List Key} : ∀ {kvs : List (PV × PV)} {vs : List (List Key × V)}, RVt K ρ H kvs vs → Hld K ρ H (lookT kvs c) (valV vs c)
  | [], _, r => by rw [show _ = [] from r]; rfl
  | (k0, x) :: xs, _, ⟨c0, v, r, e1, e2, h1, h2⟩ => by
    subst e1
    by_cases z : c0 = c
    · subst z
      have e : lookT ((k0, x) :: xs) c0 = some x := by simp [lookT, List.find?_cons, e2]
      rw [e]
      exact ⟨v, valV_pos rfl, h1⟩
    · have e : lookT ((k0, x) :: xs) c = lookT xs c := by simp [lookT, List.find?_cons, e2, z]
      rw [e, valV_neg z]
      exact RVt.look h2
/-- a tuple of keys is a key -/
theorem keys_at : ∀ {xs : List PV} {vs : List V} {cs : List Key}, keysP xs = some cs → RVs K ρ H xs vs → vs = cs.map kV
  | [], _, _, e, r => by cases e; exact r
  | x :: xs, _, cs, e, ⟨v, r, e1, h1, h2⟩ => by
    simp only [keysP, Option.bind_eq_some_iff, Option.map_eq_some_iff] at e
    obtain ⟨c, e2, cs', e3, rfl⟩ := e
    rw [e1, keyP_kV e2 h1, keys_at e3 h2]
    rfl
theorem keyT_at {k : PV} {v : V} {c : List Key} (e : keyT k = some c) (r : RV K ρ H k v) : ∃ b, v = .ref b ∧ H b = some (.tup (c.map kV)) := by
  cases k with
  | tup xs =>
    obtain ⟨p, vs, e1, t, rs⟩ := r
    exact ⟨p, e1, by rw [t.2, keys_at e rs]⟩
  | _ => cases e
/-- the value for the key, if there is one: none where the dict or the key is of another kind -/
def getD (h : Store) (d k : PV) : Option (Option PV) := match d with
  | .dct kvs => (keyP k).map (lookD kvs)
  | .dcT kvs => (keyT k).map (lookT kvs)
  | .ref i => match h[i]? with
    | some (.dct kvs) => (keyP k).map (lookD kvs)
    | some (.dcT kvs) => (keyT k).map (lookT kvs)
    | _ => none
  | _ => none
theorem getD_at (p : Rep K ρ h H) {d k : PV} {v u : V} {o : Option PV} (rd : RV K ρ H d v) (rk : RV K ρ H k u) (e : getD h d k = some o) : ∃ a r, v = .ref a ∧ DGet H a u r ∧ Hld K ρ H o r := by
  have kd : ∀ {a : Addr} {kvs : List (PV × PV)} {vs : List (Key × V)}, Rd H a (.dK vs) → RVd K ρ H kvs vs → (keyP k).map (lookD kvs) = some o → ∃ r, DGet H a u r ∧ Hld K ρ H o r := by
    intro a kvs vs ea rs e
    obtain ⟨c, e1, rfl⟩ := Option.map_eq_some_iff.mp e
    have eu := keyP_kV e1 rk
    subst eu
    exact ⟨valV vs c, .inl ⟨vs, c, ea, rfl, rfl⟩, rs.look⟩
  have kt : ∀ {a : Addr} {kvs : List (PV × PV)} {vs : List (List Key × V)}, Rd H a (.dT vs) → RVt K ρ H kvs vs → (keyT k).map (lookT kvs) = some o → ∃ r, DGet H a u r ∧ Hld K ρ H o r := by
    intro a kvs vs ea rs e
    obtain ⟨c, e1, rfl⟩ := Option.map_eq_some_iff.mp e
    obtain ⟨b, eu, eb⟩ := keyT_at e1 rk
    subst eu
    exact ⟨valV vs c, .inr ⟨vs, c, b, ea, rfl, eb, rfl⟩, rs.look⟩
  cases d with
  | dct kvs =>
    obtain ⟨a, vs, e1, t, rs⟩ := rd
    obtain ⟨r, g1, g2⟩ := kd t.2 rs e
    exact ⟨a, r, e1, g1, g2⟩
  | dcT kvs =>
    obtain ⟨a, vs, e1, t, rs⟩ := rd
    obtain ⟨r, g1, g2⟩ := kt t.2 rs e
    exact ⟨a, r, e1, g1, g2⟩
  | ref i =>
    obtain ⟨a, e1, e2⟩ := rd
    simp only [getD] at e
    cases q : h[i]? with
    | none => rw [q] at e; cases e
    | some c =>
      rw [q] at e
      have rc := p.at_ i c a q e1
      cases c with
      | dct kvs =>
        obtain ⟨vs, q1, rs⟩ := rc
        obtain ⟨r, g1, g2⟩ := kd (.inl q1) rs e
        exact ⟨a, r, e2, g1, g2⟩
      | dcT kvs =>
        obtain ⟨vs, q1, rs⟩ := rc
        obtain ⟨r, g1, g2⟩ := kt (.inl q1) rs e
        exact ⟨a, r, e2, g1, g2⟩
      | _ => cases e
  | _ => cases e
/-! ### o[i] of all kinds -/
def rIxD2 : R2 := fun x y H Q => ∃ a v, x = .ref a ∧ DGet H a y (some v) ∧ Q v H
theorem ix_dict (hu : X.A.units + 1 < cLine) : IxR X rIxD2 := by
  intro value slice pins s σ H x y v u Q I rx ry h hs
  obtain ⟨a, z, rfl, g, q⟩ := h
  obtain rfl : v = Value.ref a := rx
  exact tail_any (ops := [.ref a, u]) (dict_typeIs I g) PySem.F.slot_dict_getitem.lookup (d_getItem hu I g ry fun w' s' I' rw' => ⟨z, H, I', rw', q⟩) hs
def fIxA (x y : PV) (h : Store) : R PV := match getD h x y with
  | some (some z) => .ok z h
  | some none => .no
  | none => fIx x y h
theorem ox_ixA : OpX X W fIxA (fun x y H Q => rIx X.K x y H Q ∨ rIxD2 x y H Q) := by
  intro ρ h σ H x y v w Q p rx ry o
  unfold fIxA at o
  split at o
  next z q =>
    obtain ⟨a, r, e1, g, z', e2, rz⟩ := getD_at p rx ry q
    exact .inr ⟨a, z', e1, by rw [← e2]; exact g, o.ok p rz⟩
  next => exact o.elim
  next => exact .inl (ox_ix ρ h σ H x y v w Q p rx ry o)
theorem xe_ixA {kk : Nat} (hr : Room kk X.A) (ha : XE X W a ma) (hb : XE X W b mb) (hs : PlainIx b := by exact fun _ _ => rfl) : XE X W (.Subscript a b pos) (mBin fIxA ma mb) := pe_weak (pe_ix (ix_seq.or (ix_dict (hu_of hr))) ha hb hs) (tM_bin ox_ixA)
/-! ### in -/
def flatP : PV → Bool
  | .non => true
  | .bl _ => true
  | .int _ => true
  | .str _ => true
  | _ => false
theorem flat_at {x : PV} {v : V} (f : flatP x = true) (r : RV K ρ H x v) : flatV v = true := by
  cases x <;> first | (cases f; done) | (rw [show v = _ from r]; rfl)
theorem flats_at : ∀ {xs : List PV} {vs : List V}, xs.all flatP = true → RVs K ρ H xs vs → vs.all flatV = true
  | [], _, _, r => by rw [show _ = [] from r]; rfl
  | x :: xs, _, f, ⟨v, r, e, h1, h2⟩ => by
    rw [List.all_cons, Bool.and_eq_true] at f
    rw [e, List.all_cons, flat_at f.1 h1, flats_at f.2 h2]; rfl
theorem eq_flat {x y : PV} {v w : V} (fx : flatP x = true) (fy : flatP y = true) (rx : RV K ρ H x v) (ry : RV K ρ H y w) : eqV v w = eqPV x y := by
  cases x <;> first | (cases fx; done) | skip
  all_goals (cases y <;> first | (cases fy; done) | skip)
  all_goals (rw [show v = _ from rx, show w = _ from ry])
  all_goals simp only [eqV, eqPV, strV]
  all_goals first
    | rfl
    | (exact str_beq _ _)
theorem any_flat {x : PV} {v : V} (fx : flatP x = true) (rx : RV K ρ H x v) : ∀ {xs : List PV} {vs : List V}, xs.all flatP = true → RVs K ρ H xs vs → inV v vs = xs.any fun y => eqPV y x
  | [], _, _, r => by rw [show _ = [] from r]; rfl
  | y :: xs, _, f, ⟨u, r, e, h1, h2⟩ => by
    rw [List.all_cons, Bool.and_eq_true] at f
    have ih := any_flat fx rx f.2 h2
    rw [e, List.any_cons, ← ih, ← eq_flat f.1 fx h1 rx]
    rfl
theorem any_data {x : PV} {d : PyData} (ex : toD x = some d) : ∀ {ys : List PV} {ds : List PyData}, toDs ys = some ds → (ds.any fun z => PyData.eqv z d) = ys.any fun y => eqPV y x
  | [], _, e => by cases e; rfl
  | y :: ys, ds, e => by
    simp only [toDs, Option.bind_eq_some_iff, Option.map_eq_some_iff] at e
    obtain ⟨d', e1, ds', e2, rfl⟩ := e
    rw [List.any_cons, List.any_cons, eqv_eq y x d' d e1 ex, any_data ex e2]
def inB (x y : PV) (h : Store) : Option Bool := match getD h y x with
  | some o => some o.isSome
  | none => match y with
    | .str z => match x with
      | .str [c] => some (decide (c ∈ z))
      | _ => none
    | .tup ys => if (flatP x && ys.all flatP) = true then some (ys.any fun y => eqPV y x) else none
    | y => match lstRd h y with
      | some ys => if (okD 60 x && ys.all (okD 60)) = true then some (ys.any fun y => eqPV y x) else none
      | none => none
def fIn (x y : PV) (h : Store) : R PV := match inB x y h with
  | some b => .ok (.bl b) h
  | none => .no
def fNotIn (x y : PV) (h : Store) : R PV := match inB x y h with
  | some b => .ok (.bl (!b)) h
  | none => .no
def rInW (K : PySem.W.Frag) (g : Bool → Bool) : R2 := fun x y H Q => (∃ (c : Nat) (z : Str), x = .str ⟨#[c]⟩ ∧ y = .str z ∧ Q (.bl (g (decide (c ∈ z.cps.toList)))) H) ∨
  (∃ p xs, y = .ref p ∧ (SqL K H p xs ∨ SqT K H p xs) ∧ flatV x = true ∧ xs.all flatV = true ∧ Q (.bl (g (inV x xs))) H) ∨
  (∃ d ds, Dp K H x d ∧ Dp K H y (.list ds) ∧ SeqAt.shaped d = true ∧ SeqAt.shaped (.list ds) = true ∧ Q (.bl (g (ds.any fun z => PyData.eqv z d))) H) ∨ (∃ a o, y = .ref a ∧ DGet H a x o ∧ Q (.bl (g o.isSome)) H)
theorem op_inW {kk : Nat} (hr : Room kk X.A) : OpR X (compareOp .In) (rInW X.K id) := op_in_sign.or (op_in_seq.or ((op_inD (by have := hr.un; omega)).or fun pins s σ H x y v u Q I rx ry h => by
  obtain ⟨a, o, rfl, g, q⟩ := h
  obtain rfl : u = Value.ref a := ry
  exact d_in (hu_of hr) I g rx fun s' I' => ⟨.bl _, H, I', rfl, q⟩))
theorem op_notInW {kk : Nat} (hr : Room kk X.A) : OpR X (compareOp .NotIn) (rInW X.K not) := op_notIn_sign.or (op_notIn_seq.or ((op_notInD (by have := hr.un; omega)).or fun pins s σ H x y v u Q I rx ry h => by
  obtain ⟨a, o, rfl, g, q⟩ := h
  obtain rfl : u = Value.ref a := ry
  exact d_notIn (hu_of hr) I g rx fun s' I' => ⟨.bl _, H, I', rfl, q⟩))
theorem okDs_at {n : Nat} {ys : List PV} (hs : ys.all (okD n) = true) : ∃ ds, toDs ys = some ds ∧ PyData.canLayAll0 ds = true ∧ PyData.depthAll ds ≤ n := okD_all (okD_at n) ys hs
theorem inB_at (p : Rep K ρ h H) {g : Bool → Bool} {x y : PV} {v w : V} {b : Bool} {Q : VK} (rx : RV K ρ H x v) (ry : RV K ρ H y w) (e : inB x y h = some b) (q : Q (.bl (g b)) H) : rInW K g v w H Q := by
  unfold inB at e
  split at e
  next o qd =>
    cases e
    obtain ⟨a, r, e1, gg, er⟩ := getD_at p ry rx qd
    refine .inr (.inr (.inr ⟨a, r, e1, gg, ?_⟩))
    cases o with
    | none => rw [show r = none from er]; exact q
    | some z => obtain ⟨u, e2, _⟩ := er; rw [e2]; exact q
  next =>
    split at e
    next z _ =>
      split at e
      next c _ =>
        cases e
        rw [show v = _ from rx, show w = _ from ry]
        exact .inl ⟨c, _, rfl, rfl, q⟩
      next => cases e
    next ys _ =>
      by_cases c : (flatP x && ys.all flatP) = true
      · rw [if_pos c] at e
        cases e
        rw [Bool.and_eq_true] at c
        obtain ⟨a, vs, e1, t, rs⟩ := tup_at ry
        exact .inr (.inl ⟨a, vs, e1, .inr t, flat_at c.1 rx, flats_at c.2 rs, by rw [any_flat c.1 rx c.2 rs]; exact q⟩)
      · rw [if_neg c] at e; cases e
    next =>
      split at e
      next ys qy =>
        by_cases c : (okD 60 x && ys.all (okD 60)) = true
        · rw [if_pos c] at e
          cases e
          rw [Bool.and_eq_true] at c
          obtain ⟨a, vs, e1, t, rs⟩ := lstRd_at p ry qy
          obtain ⟨d, d1, d2, d3⟩ := okD_at 60 x c.1
          obtain ⟨ds, s1, s2, s3⟩ := okDs_at c.2
          refine .inr (.inr (.inl ⟨d, ds, toD_dp x v d rx d1, by rw [e1]; exact .lst t (toDs_dp ys vs ds rs s1), ?_, ?_, by rw [any_data d1 s1]; exact q⟩))
          · show (_ && decide _) = true
            rw [d2, decide_eq_true (show d.depth ≤ 64 by omega)]; rfl
          · show (PyData.canLay0 (.list ds) && decide (PyData.depth (.list ds) ≤ 64)) = true
            have : PyData.depth (.list ds) ≤ 64 := by simp only [PyData.depth]; omega
            rw [decide_eq_true this]
            simp only [PyData.canLay0, s2, Bool.and_self]
        · rw [if_neg c] at e; cases e
      next => cases e
theorem ox_in : OpX X W fIn (rInW X.K id) := by
  intro ρ h σ H x y v w Q p rx ry o
  unfold fIn at o
  split at o
  next b q => exact inB_at p rx ry q (o.ok p rfl)
  next => exact o.elim
theorem ox_notIn : OpX X W fNotIn (rInW X.K not) := by
  intro ρ h σ H x y v w Q p rx ry o
  unfold fNotIn at o
  split at o
  next b q => exact inB_at p rx ry q (o.ok p rfl)
  next => exact o.elim
theorem xe_in {kk : Nat} (hr : Room kk X.A) (ha : XE X W a ma) (hb : XE X W b mb) (hm : behindInMarks .In b = false := by with_unfolding_all rfl) : XE X W (.Compare a [.In] [b] pos) (mBin fIn ma mb) := xe_cmp (op_inW hr) ox_in ha hb hm
theorem xt_in {kk : Nat} (hr : Room kk X.A) (ha : XE X W a ma) (hb : XE X W b mb) (hm : behindInMarks .In b = false := by with_unfolding_all rfl) : XT X W (.Compare a [.In] [b] pos) (mB (mBin fIn ma mb)) := xt_cmp (op_inW hr) ox_in ha hb hm
theorem xe_notIn {kk : Nat} (hr : Room kk X.A) (ha : XE X W a ma) (hb : XE X W b mb) (hm : behindInMarks .NotIn b = false := by with_unfolding_all rfl) : XE X W (.Compare a [.NotIn] [b] pos) (mBin fNotIn ma mb) := xe_cmp (op_notInW hr) ox_notIn ha hb hm
theorem xt_notIn {kk : Nat} (hr : Room kk X.A) (ha : XE X W a ma) (hb : XE X W b mb) (hm : behindInMarks .NotIn b = false := by with_unfolding_all rfl) : XT X W (.Compare a [.NotIn] [b] pos) (mB (mBin fNotIn ma mb)) := xt_cmp (op_notInW hr) ox_notIn ha hb hm
end
end Wg

namespace Wg
open PySem PySem.Spec PyProof.Rows L2 SlX
section
variable {K : KC} {ρ ρ' : Pl} {H H' : Hp} {h : Store} {X : Cx} {W : WQ} {D : Ends} {pos : Pos} {a b e : Expr} {ma mb m : M PV} {k : Nat}
/-! ### d[k] = v -/
def keyEqT (a b : PV) : Bool := decide (keyT a = keyT b)
def putT (kvs : List (PV × PV)) (k v : PV) : List (PV × PV) :=
  if (kvs.any fun kv => keyEqT kv.1 k) = true then kvs.map fun kv => if keyEqT kv.1 k = true then (kv.1, v) else kv else kvs ++ [(k, v)]
theorem RVt.any {k : PV} {c : List Key} (e : keyT k = some c) : ∀ {kvs : List (PV × PV)} {vs : List (List Key × V)}, RVt K ρ H kvs vs → (kvs.any fun kv => keyEqT kv.1 k) = vs.any fun kv => decide (kv.1 = c)
  | [], _, r => by rw [show _ = [] from r]; rfl
  | (k0, x) :: xs, _, ⟨c0, v, r, e1, e2, h1, h2⟩ => by
    subst e1
    rw [List.any_cons, List.any_cons, RVt.any e h2]
    congr 1
    show decide (keyT k0 = keyT k) = decide (c0 = c)
    rw [e2, e]
    by_cases z : c0 = c
    · subst z; simp
    · rw [decide_eq_false (fun q => z (Option.some.inj q)), decide_eq_false z]
theorem RVt.repl {k : PV} {c : List Key} {y : PV} {u : V} (e : keyT k = some c) (ry : RV K ρ H y u) : ∀ {kvs : List (PV × PV)} {vs : List (List Key × V)}, RVt K ρ H kvs vs →
    RVt K ρ H (kvs.map fun kv => if keyEqT kv.1 k = true then (kv.1, y) else kv) (vs.map fun kv => if kv.1 = c then (kv.1, u) else kv)
  | [], _, r => by rw [show _ = [] from r]; rfl
  | (k0, x) :: xs, _, ⟨c0, v, r, e1, e2, h1, h2⟩ => by
    subst e1
    have ih := RVt.repl e ry h2
    rw [List.map_cons, List.map_cons]
    show RVt K ρ H ((if decide (keyT k0 = keyT k) = true then (k0, y) else (k0, x)) :: _) ((if c0 = c then (c0, u) else (c0, v)) :: _)
    rw [e2, e]
    by_cases z : c0 = c
    · subst z
      rw [if_pos (by simp), if_pos rfl]
      exact ⟨c0, u, _, rfl, e2, ry, ih⟩
    · rw [if_neg (by rw [decide_eq_false (fun q => z (Option.some.inj q))]; exact Bool.false_ne_true), if_neg z]
      exact ⟨c0, v, _, rfl, e2, h1, ih⟩
theorem RVt.app : ∀ {kvs ls : List (PV × PV)} {vs ws : List (List Key × V)}, RVt K ρ H kvs vs → RVt K ρ H ls ws → RVt K ρ H (kvs ++ ls) (vs ++ ws)
  | [], _, _, _, r, q => by rw [show _ = [] from r]; exact q
  | (k0, x) :: xs, _, _, _, ⟨c0, v, r, e1, e2, h1, h2⟩, q => by subst e1; exact ⟨c0, v, _, rfl, e2, h1, RVt.app h2 q⟩
theorem RVt.len : ∀ {kvs : List (PV × PV)} {vs : List (List Key × V)}, RVt K ρ H kvs vs → kvs.length = vs.length
  | [], _, r => by rw [show _ = [] from r] <;> rfl
  | (k0, x) :: xs, _, ⟨c0, v, r, e1, e2, h1, h2⟩ => by subst e1; rw [List.length_cons, List.length_cons, RVt.len h2]
theorem RVt.put {k : PV} {c : List Key} {y : PV} {u : V} (e : keyT k = some c) (ry : RV K ρ H y u) {kvs : List (PV × PV)} {vs : List (List Key × V)} (r : RVt K ρ H kvs vs) : RVt K ρ H (putT kvs k y) (putK vs c u) := by
  unfold putT putK
  rw [r.any e]
  split
  · exact r.repl e ry
  · exact r.app ⟨c, u, [], rfl, e, ry, rfl⟩
def fSetA (x y z : PV) (h : Store) : R Unit := match x with
  | .ref i => match h[i]? with
    | some (.lst xs) => match y with
      | .int k => match ixN xs.length k with
        | some j => .ok () (h.set i (.lst (xs.set j z)))
        | none => .no
      | _ => .no
    | some (.dct kvs) => if (keyP y).isSome = true ∧ kvs.length < 1000000 then .ok () (h.set i (.dct (putP kvs y z))) else .no
    | some (.dcT kvs) => if (keyT y).isSome = true ∧ kvs.length < 1000000 then .ok () (h.set i (.dcT (putT kvs y z))) else .no
    | _ => .no
  | _ => .no
def rSetA : TSet := fun o i v H Q => rSetL o i v H Q ∨ rSetD o i v H Q
theorem set_all (hu : X.A.units + 1 < cLine) : PSet X rSetA := fun pins s σ H o i v ov iv u Q I ro ri rv h => h.elim (fun h => set_list pins s σ H o i v ov iv u Q I ro ri rv h) fun h => set_dict hu pins s σ H o i v ov iv u Q I ro ri rv h
theorem small_line {n : Nat} (h : n < 1000000) : n < sizeLine := Nat.lt_trans h (by decide)
theorem sx_all : SetX X W fSetA rSetA := by
  intro ρ h H x y z v w u Q p rx ry rz o
  unfold fSetA at o
  split at o
  next i =>
    obtain ⟨a, e1, e2⟩ := rx
    split at o
    next xs q =>
      split at o
      next k =>
        split at o
        next j q2 =>
          obtain ⟨vs, q1, rs⟩ := p.at_ i _ a q e1
          rw [show w = _ from ry]
          refine .inl ⟨a, vs, k, j, e2, rfl, q1, by rw [← rs.len]; exact q2, ?_⟩
          obtain ⟨x', p'⟩ := put_lst p ⟨e1, by rw [q]; intro z; cases z⟩ (rs.set (i := j) rz)
          exact o ρ _ () x' p' trivial
        next => exact o.elim
      next => exact o.elim
    next kvs q =>
      obtain ⟨⟨c1, c2⟩, o⟩ := out_if o
      obtain ⟨vs, q1, rs⟩ := p.at_ i _ a q e1
      obtain ⟨c, hc⟩ := Option.isSome_iff_exists.mp c1
      have eu := keyP_kV hc ry
      subst eu
      have x' : Ext ρ H ρ (upd H a (.dK (putK vs c u))) := Ext.upd_in (List.mem_of_getElem? e1) _
      refine .inr ⟨a, _, e2, .inl ⟨vs, c, q1, rfl, by rw [← rs.len]; exact small_line c2, rfl⟩, ?_⟩
      exact o ρ _ () x' (p.put e1 (.inl (by rw [q]; intro z; cases z)) ⟨_, upd_same, (RVd.ext x' _ _ rs).put hc (rz.ext x')⟩) trivial
    next kvs q =>
      obtain ⟨⟨c1, c2⟩, o⟩ := out_if o
      obtain ⟨vs, q1, rs⟩ := p.at_ i _ a q e1
      obtain ⟨c, hc⟩ := Option.isSome_iff_exists.mp c1
      obtain ⟨b, eu, eb⟩ := keyT_at hc ry
      subst eu
      have x' : Ext ρ H ρ (upd H a (.dT (putK vs c u))) := Ext.upd_in (List.mem_of_getElem? e1) _
      refine .inr ⟨a, _, e2, .inr ⟨vs, c, b, q1, rfl, eb, by rw [← rs.len]; exact small_line c2, rfl⟩, ?_⟩
      exact o ρ _ () x' (p.put e1 (.inl (by rw [q]; intro z; cases z)) ⟨_, upd_same, (RVt.kp x'.kp _ _ rs).put hc (rz.ext x')⟩) trivial
    next => exact o.elim
  next => exact o.elim
theorem xg_subA {kk : Nat} (hk : Room kk X.A) (ha : XE X W a ma) (hb : XE X W b mb) (hr : ∀ v, assign (.Subscript a b pos) X.env v = (do
      let ov ← holding [v] (eval a X.env)
      let iv ← holding [v, ov] (eval b X.env)
      standAt pos
      holding [v, ov, iv] (setItem ov iv v)
      release [v, ov, iv] []) := by intro _; rfl) : XG X W (.Subscript a b pos) (gSubX fSetA ma mb) := xg_sub ha hb (set_all (hu_of hk)) sx_all hr
/-! ### len of dicts, dict displays to be changed -/
def dctRd (h : Store) : PV → Option Nat
  | .dct kvs => some kvs.length
  | .ref i => match h[i]? with
    | some (.dct kvs) => some kvs.length
    | some (.dcT kvs) => some kvs.length
    | _ => none
  | _ => none
def fLenA (xs : List PV) (h : Store) : R PV := match xs with
  | [x] => match dctRd h x with
    | some n => .ok (.int n) h
    | none => fLen [x] h
  | _ => .no
theorem call_lenRd : CallR X (.builtin "len") (fun xs H Q => ∃ a kvs, xs = [V.ref a] ∧ Rd H a (.dK kvs) ∧ Q (.int kvs.length) H) := by
  intro pins s σ H xs us Q I r h
  obtain ⟨a, kvs, rfl, e, q⟩ := h
  rw [Vals.ref1 r]
  exact d_len I e fun t s' I' => ⟨.int _, H, I', ⟨t, rfl⟩, q⟩
def rLenA (K : PySem.W.Frag) : List V → Hp → VK → Prop := fun xs H Q => (∃ x n, xs = [x] ∧ LenV K x H n ∧ Q (.int n) H) ∨ (∃ a kvs, xs = [V.ref a] ∧ Rd H a (.dK kvs) ∧ Q (.int kvs.length) H) ∨ rLenT xs H Q
theorem cr_lenA : CallR X (.builtin "len") (rLenA X.K) := call_len.or (call_lenRd.or call_len_dT)
theorem cx_lenA : CallX X W fLenA (rLenA X.K) := by
  intro ρ h σ H xs vs Q p r o
  unfold fLenA at o
  split at o
  next x =>
    split at o
    next n q =>
      obtain ⟨v, e, r1⟩ := rvs1 r
      cases x with
      | dct kvs =>
        cases q
        obtain ⟨a, ws, e1, t, rs⟩ := r1
        exact .inr (.inl ⟨a, ws, by rw [e, e1], t.2, by rw [← rs.len]; exact o.ok p rfl⟩)
      | ref i =>
        obtain ⟨a, e1, e2⟩ := r1
        simp only [dctRd] at q
        cases qc : h[i]? with
        | none => rw [qc] at q; cases q
        | some c =>
          rw [qc] at q
          have rc := p.at_ i c a qc e1
          cases c with
          | dct kvs =>
            cases q
            obtain ⟨ws, q1, rs⟩ := rc
            exact .inr (.inl ⟨a, ws, by rw [e, e2], .inl q1, by rw [← rs.len]; exact o.ok p rfl⟩)
          | dcT kvs =>
            cases q
            obtain ⟨ws, q1, rs⟩ := rc
            exact .inr (.inr ⟨a, ws, by rw [e, e2], q1, by rw [← rs.len]; exact o.ok p rfl⟩)
          | _ => cases q
      | _ => cases q
    next => exact .inl (cx_len ρ h σ H _ vs Q p r o)
  next => exact o.elim
theorem xe_lenA {p0 : Pos} {es : List Expr} {ms : M (List PV)} (hm : X.mg "len" = none) (ha : XA X W (e :: es) ms) (hg : Gl X "len" := by rfl) (he : starEach (e :: es) X.env = (false, eval e X.env) :: starEach es X.env := by rfl) (hpl : (backTo pos (starEach es X.env)).any (·.1) = false := by rfl) :
    XE X W (.Call (.Name "len" p0) (e :: es) [] pos) (mCall fLenA ms) := xe_callB cr_lenA cx_lenA hm boot_len ha hg (by decide) (by decide) he hpl

/-! ### zip of tuples or lists, enumerate -/
def pairs (xs ys : List PV) : List PV := List.zipWith (fun x y => .tup [x, y]) xs ys
/-- a walk over two rows at once -/
theorem yields_pairs {J : It} {xs ys : List PV} {vs ws : List V} (rx : RVs K ρ H xs vs) (ry : RVs K ρ H ys ws)
    (hgo : ∀ (i : Nat) ρ' h' H', Kp ρ H ρ' H' → Rep K ρ' h' H' → ∀ v w, vs[i]? = some v → ws[i]? = some w → J.go i H')
    (hstop : ∀ (i : Nat) ρ' h' H', Kp ρ H ρ' H' → Rep K ρ' h' H' → (vs.length ≤ i ∨ ws.length ≤ i) → J.stop i H')
    (hy : ∀ (i : Nat) ρ' h' H' x H2, Kp ρ H ρ' H' → Rep K ρ' h' H' → J.yld i H' x H2 → ∃ T v w, x = .ref T ∧ H' T = none ∧ H2 = upd H' T (.tup [v, w]) ∧ vs[i]? = some v ∧ ws[i]? = some w) : Yields K ρ H J (pairs xs ys) where
  go := fun i ρ' h' H' k p hi => by
    unfold pairs at hi
    rw [List.length_zipWith] at hi
    obtain ⟨v, e1, _⟩ := rx.get (i := i) (x := xs[i]'(by omega)) (by simp)
    obtain ⟨w, e2, _⟩ := ry.get (i := i) (x := ys[i]'(by omega)) (by simp)
    exact hgo i ρ' h' H' k p v w e1 e2
  stop := fun i ρ' h' H' k p hi => by
    unfold pairs at hi
    rw [List.length_zipWith, rx.len, ry.len] at hi
    exact hstop i ρ' h' H' k p (by omega)
  yld := fun i ρ' h' H' y x H2 k p e q => by
    obtain ⟨T, v, w, e1, hT, e2, e3, e4⟩ := hy i ρ' h' H' x H2 k p q
    unfold pairs at e
    rw [List.getElem?_zipWith] at e
    cases q1 : xs[i]? with
    | none => rw [q1] at e; simp at e
    | some x0 =>
      cases q2 : ys[i]? with
      | none => rw [q1, q2] at e; simp at e
      | some y0 =>
        rw [q1, q2] at e
        simp only [Option.some.injEq] at e
        obtain ⟨v', e5, r5⟩ := rx.get q1
        obtain ⟨w', e6, r6⟩ := ry.get q2
        rw [e3] at e5; cases e5
        rw [e4] at e6; cases e6
        subst e; subst e1; subst e2
        obtain ⟨x', p', r'⟩ := new_tup p hT (xs := [x0, y0]) (vs := [v, w]) ⟨v, [w], rfl, RV.kp k _ _ r5, w, [], rfl, RV.kp k _ _ r6, rfl⟩
        exact ⟨x', p', r'⟩
def fZip (xs : List PV) (h : Store) : R (List PV) := match xs with
  | [.tup xs, .tup ys] => .ok (pairs xs ys) h
  | [.lst xs, .lst ys] => .ok (pairs xs ys) h
  | [.scr xs, .scr ys] => .ok (pairs xs ys) h
  | _ => .no
theorem xi_zip {elts : List Expr} {kk : Nat} {tpos p0 : Pos} {ms : M (List PV)} (hm : X.mg "zip" = none) (ha : XA X W [a, b] ms) (hg : Gl X "zip" := by rfl) (hs : starEach [a, b] X.env = (false, eval a X.env) :: starEach [b] X.env := by rfl) (hpl : (backTo pos (starEach [b] X.env)).any (·.1) = false := by rfl) :
    XI X W (.Tuple elts kk tpos) (.Call (.Name "zip" p0) [a, b] [] pos) (mItC fZip ms) :=
  pi_weak (RZ.pi_zipA hg hm ha hs hpl) fun σ H R ⟨ρ, h, l, p, rl, o⟩ => ⟨ρ, h, l, p, rl, Out.mono (Out.bind o) fun vs H1 ⟨xs, h1, ρ1, e1, p1, r1, o1⟩ => by
    unfold fZip at o1
    split at o1
    next xs ys =>
      obtain ⟨v, w, e, ⟨a, us, e4, t4, rs4⟩, ⟨b, ws, e5, t5, rs5⟩⟩ := rvs2 r1
      exact ⟨a, b, us, ws, by rw [e, e4, e5], .inr ⟨t4.sq (K := kc X W), t5.sq (K := kc X W), o1.ok p1 (yields_pairs rs4 rs5
        (fun i ρ' h' H' k p x y q1 q2 => ⟨us, ws, x, y, (t4.kp (K := kc X W) k).sq, (t5.kp (K := kc X W) k).sq, q1, q2⟩)
        (fun i ρ' h' H' k p q => ⟨us, ws, (t4.kp (K := kc X W) k).sq, (t5.kp (K := kc X W) k).sq, q⟩)
        (fun i ρ' h' H' x H2 k p ⟨T, x0, y0, q1, q2, q3, q4, q5⟩ => ⟨T, x0, y0, q1, q2, q3, q4 us (t4.kp (K := kc X W) k).sq, q5 ws (t5.kp (K := kc X W) k).sq⟩))⟩⟩
    next xs ys =>
      obtain ⟨v, w, e, ⟨a, us, e4, t4, rs4⟩, ⟨b, ws, e5, t5, rs5⟩⟩ := rvs2 r1
      exact ⟨a, b, us, ws, by rw [e, e4, e5], .inl ⟨SqL.of t4.2, SqL.of t5.2, o1.ok p1 (yields_pairs rs4 rs5
        (fun i ρ' h' H' k p x y q1 q2 => ⟨us, ws, x, y, SqL.of (t4.kp k).2, SqL.of (t5.kp k).2, q1, q2⟩)
        (fun i ρ' h' H' k p q => ⟨us, ws, SqL.of (t4.kp k).2, SqL.of (t5.kp k).2, q⟩)
        (fun i ρ' h' H' x H2 k p ⟨T, x0, y0, q1, q2, q3, q4, q5⟩ => ⟨T, x0, y0, q1, q2, q3, q4 us (SqL.of (t4.kp k).2), q5 ws (SqL.of (t5.kp k).2)⟩))⟩⟩
    next xs ys =>
      obtain ⟨v, w, e, ⟨a, us, e4, t4, rs4⟩, ⟨b, ws, e5, t5, rs5⟩⟩ := rvs2 r1
      exact ⟨a, b, us, ws, by rw [e, e4, e5], .inl ⟨t4.sq, t5.sq, o1.ok p1 (yields_pairs rs4 rs5
        (fun i ρ' h' H' k p x y q1 q2 => ⟨us, ws, x, y, (t4.kp k).sq, (t5.kp k).sq, q1, q2⟩)
        (fun i ρ' h' H' k p q => ⟨us, ws, (t4.kp k).sq, (t5.kp k).sq, q⟩)
        (fun i ρ' h' H' x H2 k p ⟨T, x0, y0, q1, q2, q3, q4, q5⟩ => ⟨T, x0, y0, q1, q2, q3, q4 us (t4.kp k).sq, q5 ws (t5.kp k).sq⟩))⟩⟩
    next => exact o1.elim⟩
/-- enumerate(xs) -/
def fEnum (xs : List PV) (h : Store) : R (List PV) := match xs with
  | [.lst ys] => .ok (pairs ((List.range ys.length).map fun (i : Nat) => .int (i : Int)) ys) h
  | _ => .no
theorem RVs.range (n : Nat) : RVs K ρ H ((List.range n).map fun (i : Nat) => .int (i : Int)) ((List.range n).map fun (i : Nat) => V.int (i : Int)) := by
  generalize List.range n = l
  induction l with
  | nil => rfl
  | cons a l ih => exact ⟨_, _, rfl, rfl, ih⟩
theorem xi_enum {elts : List Expr} {kk : Nat} {tpos p0 : Pos} {ms : M (List PV)} (hm : X.mg "enumerate" = none) (ha : XA X W [a] ms) (hg : Gl X "enumerate" := by rfl) (hs : starEach [a] X.env = [(false, eval a X.env)] := by rfl) :
    XI X W (.Tuple elts kk tpos) (.Call (.Name "enumerate" p0) [a] [] pos) (mItC fEnum ms) :=
  pi_weak (pi_enum hg hm ha hs) fun σ H R ⟨ρ, h, l, p, rl, o⟩ => ⟨ρ, h, l, p, rl, Out.mono (Out.bind o) fun vs H1 ⟨xs, h1, ρ1, e1, p1, r1, o1⟩ => by
    unfold fEnum at o1
    split at o1
    next ys =>
      obtain ⟨v, e, ⟨a, us, e4, t4, rs4⟩⟩ := rvs1 r1
      refine ⟨a, us, by rw [e, e4], SqL.of t4.2, o1.ok p1 (yields_pairs (RVs.range ys.length) rs4 (fun i ρ' h' H' k p x y q1 q2 => ⟨us, y, SqL.of (t4.kp k).2, q2⟩) (fun i ρ' h' H' k p q => ⟨us, SqL.of (t4.kp k).2, ?_⟩)
        (fun i ρ' h' H' x H2 k p ⟨T, x0, q1, q2, q3, q4⟩ => ⟨T, .int (i : Int), x0, q1, q2, q3, ?_, q4 us (SqL.of (t4.kp k).2)⟩))⟩
      · rw [List.length_map, List.length_range, rs4.len] at q
        omega
      · have q5 := q4 us (SqL.of (t4.kp k).2)
        have hi : i < ys.length := by rw [rs4.len]; exact (List.getElem?_eq_some_iff.mp q5).1
        simp [hi]
    next => exact o1.elim⟩
end
end Wg

namespace Wg
open PySem PySem.Spec PyProof.Rows L2 SlX
/-! ### tuples of texts in their order -/
def ltTx : List (List Nat) → List (List Nat) → Bool
  | [], [] => false
  | [], _ :: _ => true
  | _ :: _, [] => false
  | x :: xs, y :: ys => if x = y then ltTx xs ys else decide (x < y)
theorem ltTx_irrefl : ∀ x, ltTx x x = false
  | [] => rfl
  | x :: xs => by rw [ltTx, if_pos rfl]; exact ltTx_irrefl xs
theorem nl_trich (x y : List Nat) : x < y ∨ x = y ∨ y < x := by
  by_cases h : x < y
  · exact .inl h
  · by_cases h2 : y < x
    · exact .inr (.inr h2)
    · exact .inr (.inl (List.le_antisymm (List.not_lt.mp h2) (List.not_lt.mp h)))
theorem ltTx_asym : ∀ x y, ltTx x y = true → ltTx y x = false
  | [], [], h => by cases h
  | [], _ :: _, _ => rfl
  | _ :: _, [], h => by cases h
  | x :: xs, y :: ys, h => by
    rw [ltTx] at h ⊢
    by_cases e : x = y
    · rw [if_pos e] at h; rw [if_pos e.symm]; exact ltTx_asym xs ys h
    · rw [if_neg e] at h; rw [if_neg (Ne.symm e)]
      exact decide_eq_false (List.lt_asymm (of_decide_eq_true h))
/-- not above, three times -/
theorem ltTx_tr : ∀ x y z, ltTx y x = false → ltTx z y = false → ltTx z x = false
  | _, _, [], h1, h2 => by
    rename_i x y
    cases x with
    | nil => rfl
    | cons a x =>
      cases y with
      | nil => cases h1
      | cons b y => cases h2
  | [], _, c :: z, _, _ => rfl
  | a :: x, [], c :: z, h1, _ => by cases h1
  | a :: x, b :: y, c :: z, h1, h2 => by
    rw [ltTx] at h1 h2 ⊢
    have le1 : a < b ∨ a = b := by
      by_cases e : b = a
      · exact .inr e.symm
      · rw [if_neg e] at h1
        rcases nl_trich a b with q | q | q
        · exact .inl q
        · exact .inr q
        · exact absurd q (of_decide_eq_false h1)
    have le2 : b < c ∨ b = c := by
      by_cases e : c = b
      · exact .inr e.symm
      · rw [if_neg e] at h2
        rcases nl_trich b c with q | q | q
        · exact .inl q
        · exact .inr q
        · exact absurd q (of_decide_eq_false h2)
    by_cases e : c = a
    · subst e
      rw [if_pos rfl]
      have eb : b = c := by
        rcases le1 with l1 | l1
        · rcases le2 with l2 | l2
          · exact absurd l2 (List.lt_asymm l1)
          · exact l2
        · exact l1.symm
      subst eb
      rw [if_pos rfl] at h1 h2
      exact ltTx_tr x y z h1 h2
    · rw [if_neg e]
      refine decide_eq_false fun q => ?_
      rcases le1 with l1 | l1
      · rcases le2 with l2 | l2
        · exact List.lt_asymm (List.lt_trans l1 l2) q
        · subst l2; exact List.lt_asymm l1 q
      · subst l1
        rcases le2 with l2 | l2
        · exact List.lt_asymm l2 q
        · exact e l2.symm
theorem ltTx_total : ∀ x y, ltTx x y = false → ltTx y x = false → x = y
  | [], [], _, _ => rfl
  | [], _ :: _, h, _ => by cases h
  | _ :: _, [], _, h => by cases h
  | x :: xs, y :: ys, h1, h2 => by
    rw [ltTx] at h1 h2
    by_cases e : x = y
    · subst e
      rw [if_pos rfl] at h1 h2
      rw [ltTx_total xs ys h1 h2]
    · rw [if_neg e] at h1
      rw [if_neg (Ne.symm e)] at h2
      rcases nl_trich x y with q | q | q
      · exact absurd q (of_decide_eq_false h1)
      · exact absurd q e
      · exact absurd q (of_decide_eq_false h2)
theorem swo_tx {α : Type} (k : α → List (List Nat)) : SrtO.Swo fun x y => ltTx (k x) (k y) := ⟨fun x y h => ltTx_asym _ _ h, fun x y z h1 h2 => ltTx_tr _ _ _ h1 h2⟩
/-- values that are these texts -/
def Txs : List Value → List (List Nat) → Prop
  | [], [] => True
  | v :: vs, x :: xs => (∃ t, v = .str ⟨x.toArray⟩ t) ∧ Txs vs xs
  | _, _ => False
def IsTx (h : Heap) (v : Value) (l : List (List Nat)) : Prop := l ≠ [] ∧ ∃ (a : Addr) (o : Obj) (its : List Value) (n : Nat), v = .ref a ∧ h.get? a = some o ∧ o.cls = .type "tuple" ∧ o.data = .seq its.toArray n ∧ Txs its l
theorem Txs.len : ∀ {vs : List Value} {l : List (List Nat)}, Txs vs l → vs.length = l.length
  | [], [], _ => rfl
  | v :: vs, x :: xs, h => by rw [List.length_cons, List.length_cons, Txs.len h.2]
  | [], _ :: _, h => h.elim
  | _ :: _, [], h => h.elim
section
variable {prog : Program} {w : World} {A : Around} {s : Shared}
theorem tx_lex : ∀ {l1 l2 : List (List Nat)} {v1 v2 : List Value} {fin : Bool} {i : Nat}, Txs v1 l1 → Txs v2 l2 → fin = decide (l1.length < l2.length) → PySem.W.KatLex prog w A true fin (fun r s' => s' = s ∧ r = ltTx l1 l2) (v1.zip v2) i s
  | [], [], [], [], fin, i, _, _, e => ⟨rfl, e⟩
  | [], y :: ys, [], v :: vs, fin, i, _, _, e => ⟨rfl, by rw [e]; simp [ltTx]⟩
  | x :: xs, [], v :: vs, [], fin, i, _, _, e => ⟨rfl, by rw [e]; simp [ltTx]⟩
  | x :: xs, y :: ys, v :: vs, u :: us, fin, i, ⟨⟨t, e1⟩, h1⟩, ⟨⟨t', e2⟩, h2⟩, e => by
    subst e1; subst e2
    refine PySem.W.kat_cons (SeqAt.EqAt.str_str _ t _ t' prog w _ _ ?_)
    rw [str_beq]
    refine PySem.W.kat_go (fun eq => ?_) (fun ne => ?_)
    · have : x = y := of_decide_eq_true eq
      subst this
      refine PySem.W.kat_yes ?_
      have r : ltTx (x :: xs) (x :: ys) = ltTx xs ys := by rw [ltTx, if_pos rfl]
      rw [r]
      exact tx_lex h1 h2 (by rw [e]; simp)
    · have hne : ¬ x = y := of_decide_eq_false ne
      refine PySem.W.kat_no ?_
      have r : ltTx (x :: xs) (y :: ys) = decide (x < y) := by rw [ltTx, if_neg hne]
      rw [r]
      cases q : (true && i == 0) with
      | true => exact oneLt_str ⟨rfl, rfl⟩
      | false => exact PySem.W.kat_one _ _ (PyProof.Rows.lt_str ⟨rfl, rfl⟩)
  | _ :: _, _, [], _, _, _, h, _, _ => h.elim
  | [], _, _ :: _, _, _, _, h, _, _ => h.elim
  | _, _ :: _, _, [], _, _, _, h, _ => h.elim
  | _, [], _, _ :: _, _, _, _, h, _ => h.elim
theorem IsTx.keeps {h h' : Heap} {v : Value} {l : List (List Nat)} (x : IsTx h v l) (k : ∀ b o, h.get? b = some o → o.cls = .type "tuple" → h'.get? b = some o) : IsTx h' v l := by
  obtain ⟨ne, a, o, its, n, e, ho, hc, hd, t⟩ := x
  exact ⟨ne, a, o, its, n, e, k a o ho hc, hc, hd, t⟩
theorem tx_cmp {vs : List Value} {k : Value → List (List Nat)} (hp : ∀ v ∈ vs, IsTx s.heap v (k v)) : SrtO.Cmp prog w A s (tuples' true) (fun p => p.1 ∈ vs) (SrtO.lt2 fun v u => ltTx (k v) (k u)) := by
  intro p q hm hm'
  obtain ⟨_, a, o, its, n, e, ho, hc, hd, t⟩ := hp _ hm
  obtain ⟨_, a', o', its', n', e', ho', hc', hd', t'⟩ := hp _ hm'
  show wpAny (model prog w) A (keyLt' (tuples' true) p.1 q.1) (fun r s' => s' = s ∧ r = ltTx (k p.1) (k q.1)) (fun _ _ => False) s
  generalize k p.1 = l1 at t ⊢
  generalize k q.1 = l2 at t' ⊢
  rw [e, e']
  refine PySem.W.kat_lt ho hd ho' hd' ?_
  exact tx_lex t t' (by simp only [List.size_toArray]; rw [t.len, t'.len])
theorem tx_firsts {h : Heap} : ∀ {vs : List Value}, (∀ v ∈ vs, ∃ l, IsTx h v l) → ∃ fs : List Value, PySem.W.KatTups h vs fs ∧ fs.length = vs.length ∧ ∀ f ∈ fs, ∃ x t, f = Value.str x t
  | [], _ => ⟨[], PySem.W.KatTups.nil, rfl, fun _ hm => by simp at hm⟩
  | v :: vs, hp => by
    obtain ⟨fs, h1, h2, h3⟩ := tx_firsts (vs := vs) fun v' hm => hp v' (List.mem_cons_of_mem _ hm)
    obtain ⟨l, ne, a, o, its, n, e, ho, hc, hd, t⟩ := hp v List.mem_cons_self
    cases its with
    | nil => cases l with
      | nil => exact absurd rfl ne
      | cons x xs => exact t.elim
    | cons f its =>
      cases l with
      | nil => exact t.elim
      | cons x xs =>
        obtain ⟨⟨tk, e1⟩, _⟩ := t
        subst e
        refine ⟨f :: fs, PySem.W.KatTups.cons ho hc hd (by simp) h1, by rw [List.length_cons, List.length_cons, h2], fun g hg => ?_⟩
        rcases List.mem_cons.mp hg with q | q
        · exact ⟨_, tk, by rw [q, e1]⟩
        · exact h3 g q
theorem tx_sortable {a : Addr} {vs : List Value} {k : Value → List (List Nat)} (h0 : 0 < vs.length) (hp : ∀ v ∈ vs, IsTx s.heap v (k v)) (ha : ∀ o, s.heap.get? a = some o → o.cls ≠ .type "tuple") : SrtO.SortableO prog w A s a vs fun v u => ltTx (k v) (k u) := by
  intro h' keep
  have hp' : ∀ v ∈ vs, IsTx h' v (k v) := fun v hm => (hp v hm).keeps fun b o e c => keep b o (fun z => by subst z; exact ha o e c) e
  obtain ⟨fs, h1, h2, h3⟩ := tx_firsts fun v hm => ⟨_, hp' v hm⟩
  refine ⟨tuples' true, fun Q E hq => ?_, tx_cmp hp'⟩
  refine PySem.W.kat_kind (T := .type "str") h1 (by omega) (fun f hm => ?_) (by rfl) ?_
  · obtain ⟨x, t, rfl⟩ := h3 f hm
    exact PySem.W.Looks.now
  · have e : (Value.type "str" != Value.type "tuple") = true := by first | decide +kernel | rfl | decide
    rw [e]
    exact hq
theorem sorted_tx {l : Addr} {vs : List Value} {k : Value → List (List Nat)} {E : Value → Shared → Prop} {Q : Value → Shared → Prop} (hl : s.heap.IsList l vs.toArray) (hz : vs.length ≤ sizeLine) (hp : ∀ v ∈ vs, IsTx s.heap v (k v))
    (h : ∀ (h' : Heap) (d : Addr) (out : List Value), SrtO.Srtd (fun v u => ltTx (k v) (k u)) out → SrtO.Stb (fun v u => ltTx (k v) (k u)) out vs → (∀ b o, s.heap.get? b = some o → h'.get? b = some o) → s.heap.objs.size ≤ d → (∃ n, h'.get? d = some (seqObj "list" out.toArray n)) → Q (.ref d) { s with heap := h' }) :
    wpAny (model prog w) A (call (.builtin "sorted") [.ref l]) Q E s := by
  refine SrtO.sorted_ord (swo_tx k) hl hz (fun h2 h1 a ha kk => ?_) fun out hs hb => h _ _ out hs hb (fun b o e => sortedAll_old e) (Nat.le_succ _) (sortedAll_at s.heap vs out.toArray)
  refine tx_sortable (s := { s with heap := h1 }) (by omega) (fun v hm => (hp v hm).keeps fun b o e _ => (kk b o e).2) fun o e => ?_
  have e' : some o = some (seqObj "list" vs.toArray 0) := e.symm.trans ha
  cases e'
  intro c
  exact absurd (Value.type.inj c) (by decide)
end
end Wg

namespace Wg
open PySem PySem.Spec PyProof.Rows L2 SlX
/-! ### a sort that keeps equal ones in their order -/
def ins {α : Type} (lt : α → α → Bool) (x : α) : List α → List α
  | [] => [x]
  | y :: ys => if lt y x = true then y :: ins lt x ys else x :: y :: ys
def isort {α : Type} (lt : α → α → Bool) (l : List α) : List α := l.foldr (ins lt) []
section
variable {α : Type} {lt : α → α → Bool}
theorem ins_perm (x : α) : ∀ l : List α, (ins lt x l).Perm (x :: l)
  | [] => List.Perm.refl _
  | y :: ys => by
    unfold ins
    split
    · exact (List.Perm.cons y (ins_perm x ys)).trans (List.Perm.swap x y ys)
    · exact List.Perm.refl _
theorem isort_perm : ∀ l : List α, (isort lt l).Perm l
  | [] => List.Perm.refl _
  | x :: xs => (ins_perm x _).trans (List.Perm.cons x (isort_perm xs))
theorem ins_srtd (O : SrtO.Swo lt) (x : α) : ∀ {l : List α}, SrtO.Srtd lt l → SrtO.Srtd lt (ins lt x l)
  | [], _ => List.pairwise_singleton _ _
  | y :: ys, h => by
    obtain ⟨h1, h2⟩ := List.pairwise_cons.mp h
    unfold ins
    cases e : lt y x with
    | true =>
      rw [if_pos rfl]
      refine List.pairwise_cons.mpr ⟨fun z hz => ?_, ins_srtd O x h2⟩
      rcases List.mem_cons.mp ((ins_perm x ys).mem_iff.mp hz) with q | q
      · rw [q]; exact O.asym y x e
      · exact h1 z q
    | false =>
      rw [if_neg (by simp)]
      refine List.pairwise_cons.mpr ⟨fun z hz => ?_, h⟩
      rcases List.mem_cons.mp hz with q | q
      · rw [q]; exact e
      · exact O.tr x y z e (h1 z q)
theorem isort_srtd (O : SrtO.Swo lt) : ∀ l : List α, SrtO.Srtd lt (isort lt l)
  | [] => List.Pairwise.nil
  | x :: xs => ins_srtd O x (isort_srtd O xs)
theorem ins_cls (O : SrtO.Swo lt) (x z : α) : ∀ l : List α, (ins lt x l).filter (SrtO.eqv lt z) = (x :: l).filter (SrtO.eqv lt z)
  | [] => rfl
  | y :: ys => by
    unfold ins
    cases e : lt y x with
    | false => rw [if_neg (by simp)]
    | true =>
      rw [if_pos rfl]
      have ih := ins_cls O x z ys
      -- y and x are not both like z
      have no : ¬ (SrtO.eqv lt z y = true ∧ SrtO.eqv lt z x = true) := fun ⟨a, b⟩ => by
        obtain ⟨a1, a2⟩ := SrtO.eqv_iff.mp a
        obtain ⟨b1, b2⟩ := SrtO.eqv_iff.mp b
        have := O.tr x z y b1 a2
        rw [e] at this; cases this
      rw [List.filter_cons (x := y), ih, List.filter_cons (x := x) (xs := ys), List.filter_cons (x := x) (xs := y :: ys), List.filter_cons (x := y) (xs := ys)]
      by_cases q1 : SrtO.eqv lt z y = true
      · have q2 : ¬ SrtO.eqv lt z x = true := fun q => no ⟨q1, q⟩
        simp only [q1, q2, if_true, if_false, Bool.false_eq_true]
      · simp only [q1, if_false, Bool.false_eq_true]
theorem isort_stb (O : SrtO.Swo lt) : ∀ l : List α, SrtO.Stb lt (isort lt l) l
  | [] => SrtO.Stb.refl _
  | x :: xs => ⟨isort_perm _, fun z => by
    show (ins lt x (isort lt xs)).filter _ = _
    rw [ins_cls O, List.filter_cons, List.filter_cons, (isort_stb O xs).cls z]⟩
theorem isort_uniq (O : SrtO.Swo lt) {l m : List α} (h1 : SrtO.Srtd lt m) (h2 : SrtO.Stb lt m l) : m = isort lt l :=
  SrtO.stb_uniq O h1 (isort_srtd O l) (h2.trans ⟨(isort_stb O l).perm.symm, fun z => ((isort_stb O l).cls z).symm⟩)
end
section
variable {K : KC} {ρ ρ' : Pl} {H H' : Hp} {h : Store} {X : Cx} {W : WQ} {pos : Pos}
/-- the texts of a tuple -/
def txOf : PV → Option (List (List Nat))
  | .tup xs => strsOf xs
  | _ => none
def txV (H : Hp) : V → List (List Nat)
  | .ref t => match H t with
    | some (.tup ws) => ws.map fun
      | .str s => s.cps.toList
      | _ => []
    | _ => []
  | _ => []
theorem txOf_at {x : PV} {v : V} {l : List (List Nat)} (r : RV K ρ H x v) (e : txOf x = some l) : ∃ t, v = .ref t ∧ H t = some (.tup (l.map strV)) ∧ txV H v = l := by
  cases x with
  | tup xs =>
    obtain ⟨p, vs, e1, t, rs⟩ := r
    have e2 : vs = l.map strV := by
      have := strsOf_at rs e
      rw [this, List.map_map]
      rfl
    subst e1; subst e2
    refine ⟨p, rfl, t.2, ?_⟩
    show (match H p with | some (.tup ws) => ws.map _ | _ => []) = l
    rw [t.2]
    simp [strV, Function.comp_def]
  | _ => cases e
def ltP2 (x y : PV) : Bool := ltTx ((txOf x).getD []) ((txOf y).getD [])
theorem RVs.ins {x : PV} {v : V} {l : List (List Nat)} (r : RV K ρ H x v) (e : txOf x = some l) : ∀ {xs : List PV} {vs : List V}, RVs K ρ H xs vs → (∀ y ∈ xs, (txOf y).isSome = true) → RVs K ρ H (Wg.ins ltP2 x xs) (Wg.ins (fun a b => ltTx (txV H a) (txV H b)) v vs)
  | [], _, rs, _ => by rw [show _ = [] from rs]; exact ⟨v, [], rfl, r, rfl⟩
  | y :: ys, _, ⟨w, ws, e1, h1, h2⟩, hs => by
    subst e1
    obtain ⟨ly, ey⟩ := Option.isSome_iff_exists.mp (hs y List.mem_cons_self)
    obtain ⟨_, _, _, k1⟩ := txOf_at r e
    obtain ⟨_, _, _, k2⟩ := txOf_at h1 ey
    have c : ltP2 y x = ltTx (txV H w) (txV H v) := by unfold ltP2; rw [e, ey, k1, k2]; rfl
    unfold Wg.ins
    rw [c]
    split
    · exact ⟨w, _, rfl, h1, RVs.ins r e h2 fun z hz => hs z (List.mem_cons_of_mem _ hz)⟩
    · exact ⟨v, _, rfl, r, w, ws, rfl, h1, h2⟩
theorem RVs.isort : ∀ {xs : List PV} {vs : List V}, RVs K ρ H xs vs → (∀ y ∈ xs, (txOf y).isSome = true) → RVs K ρ H (Wg.isort ltP2 xs) (Wg.isort (fun a b => ltTx (txV H a) (txV H b)) vs)
  | [], _, rs, _ => by rw [show _ = [] from rs]; rfl
  | x :: xs, _, ⟨v, ws, e1, h1, h2⟩, hs => by
    subst e1
    obtain ⟨l, e⟩ := Option.isSome_iff_exists.mp (hs x List.mem_cons_self)
    have hs' : ∀ y ∈ xs, (txOf y).isSome = true := fun z hz => hs z (List.mem_cons_of_mem _ hz)
    exact RVs.ins h1 e (RVs.isort h2 hs') fun y hy => hs' y ((isort_perm xs).mem_iff.mp hy)
/-- sorted(list of tuples of texts) -/
def rSortedTx (K : PySem.W.Frag) : List V → Hp → VK → Prop := fun vs H Q => ∃ (a : Addr) (xs : List V), vs = [V.ref a] ∧ SqL K H a xs ∧ (∀ x ∈ xs, txV H x ≠ [] ∧ ∃ t, x = V.ref t ∧ H t = some (.tup ((txV H x).map strV))) ∧
  ∀ p, H p = none → Q (.ref p) (upd H p (.lst (isort (fun a b => ltTx (txV H a) (txV H b)) xs)))
theorem vals_txs : ∀ {l : List (List Nat)} {us : List Value}, Vals (l.map strV) us → Txs us l
  | [], _, r => by cases r; trivial
  | x :: l, _, r => by
    cases r with
    | cons h t => exact ⟨h, vals_txs t⟩
theorem cr_sortedTx : CallR X (.builtin "sorted") (rSortedTx X.K) := by
  intro pins s σ H vs us Q I r h
  obtain ⟨a, xs, rfl, hs, hx, q⟩ := h
  obtain ⟨its, rv, hl, hz⟩ := I.list hs
  rw [Vals.ref1 r]
  obtain ⟨e1, e2⟩ := refs_back rv fun x m => by
    obtain ⟨_, t, e, _⟩ := hx x m
    exact ⟨t, e⟩
  refine sorted_tx (k := fun u => txV H (backV u)) hl.isList (by rw [← rv.length]; exact hz) (fun v hv => ?_) fun h' d out h1 h2 kp hd hn => ?_
  · obtain ⟨t, rfl⟩ := e2 v hv
    have hm : V.ref t ∈ xs := by rw [e1]; exact List.mem_map.mpr ⟨_, hv, rfl⟩
    obtain ⟨ne, t', e, ht⟩ := hx _ hm
    cases e
    obtain ⟨_, its2, r2, o, ho, hc, n, hd⟩ := I.hok _ _ ht
    exact ⟨ne, t, o, its2, n, rfl, ho, hc, hd, vals_txs r2⟩
  · have h3 : ∀ u ∈ out, ∃ a, u = Value.ref a := fun u hu => e2 u (h2.perm.mem_iff.mp hu)
    obtain ⟨n, hn⟩ := hn
    have O : SrtO.Swo fun a b : V => ltTx (txV H a) (txV H b) := swo_tx (txV H)
    have hb : SrtO.Stb (fun a b : V => ltTx (txV H a) (txV H b)) (out.map backV) xs := by
      rw [e1]
      exact SrtO.Stb.map O backV h2
    have eo := isort_uniq O (SrtO.srtd_map (lt := fun a b : V => ltTx (txV H a) (txV H b)) (f := backV) h1) hb
    have q := q d (I.hok.fresh hd)
    rw [← eo] at q
    refine ⟨.ref d, upd H d (.lst (out.map backV)), I.laid (t' := s.toks) kp hd ⟨?_, out, n, vals_back h3, hn⟩, rfl, q⟩
    rw [hb.len]
    exact hz
/-- .. of texts, below 64 -/
def ltL (x y : List Nat) : Bool := decide (x < y)
theorem swo_l : SrtO.Swo ltL := ⟨fun x y h => decide_eq_false (List.lt_asymm (of_decide_eq_true h)), fun x y z h1 h2 => decide_eq_false fun q => by
  have h1 := of_decide_eq_false h1
  have h2 := of_decide_eq_false h2
  rcases nl_trich y z with k | k | k
  · rcases nl_trich x y with j | j | j
    · exact List.lt_asymm (List.lt_trans j k) q
    · subst j; exact List.lt_asymm k q
    · exact h1 j
  · subst k; exact h1 q
  · exact h2 k⟩
theorem isortL_uniq {l m : List (List Nat)} (p : m.Perm l) (s : SrtO.Srtd ltL m) : m = isort ltL l :=
  List.Perm.eq_of_pairwise (le := fun x y => ltL y x = false) (fun a b _ _ h1 h2 => by
    rcases nl_trich a b with k | k | k
    · exact absurd k (of_decide_eq_false h2)
    · exact k
    · exact absurd k (of_decide_eq_false h1)) s (isort_srtd swo_l l) (p.trans (isort_perm l).symm)
end
end Wg

namespace Wg
open PySem PySem.Spec PyProof.Rows L2 SlX
/-! ### set(xs), whatever stands in it -/
section
variable {P : Program} {w : World} {A : Around} {E : Value → Shared → Prop} {s : Shared}
/-- C i: what the heap tells when i items are in the set at S; it does not look at wr -/
structure AddOk (P : Program) (w : World) (A : Around) (S : Addr) (wr : List Addr) (n : Nat) (Pv : Nat → Value → Prop) (C : Nat → Heap → Prop) : Prop where
  keep : ∀ i h h', C i h → (∀ b o, b ∉ wr → h.get? b = some o → h'.get? b = some o) → C i h'
  add : ∀ i v (s : Shared) (Q : Bool → Shared → Prop) (E : Value → Shared → Prop), i < n → Pv i v → C i s.heap →
    (∀ b h' tk, Heap.SameBut S s.heap h' → s.toks ≤ tk → C (i + 1) h' → Q b { s with heap := h', toks := tk }) → wpAny (model P w) A (setAdd S v) Q E s
theorem update_gen {I : Addr} {fp wr : List Addr} {G : Array GenState → Array GenState → Prop} {n : Nat} {Pv : Nat → Value → Prop} {St : Nat → Shared → Prop} {R : Result → Shared → Prop} {C : Nat → Heap → Prop}
    (W : WalksS P w A.in1 I fp wr G n Pv St) (S : Addr) (hSf : S ∉ fp) (K : AddOk P w A.in1 S wr n Pv C) :
    ∀ (k i : Nat) (s : Shared), n - i = k → i ≤ n → St i s → C i s.heap → (∀ s', Moved (S :: wr) G s s' → C n s'.heap → R (.ok (.ret .none)) s') →
      codeAny (model P w) A (.builtin "set.update.loop" ⟨[.ref S, .ref I], []⟩) R s := by
  have up : ∀ b ∈ wr, b ∈ S :: wr := fun b hb => List.mem_cons_of_mem _ hb
  intro k
  induction k with
  | zero =>
    intro i s hk hi hst hC hR
    obtain rfl : i = n := by omega
    refine codeAny_builtin F.entry_set_update_loop ?_
    rw [Around.under_plainId F.plain_set_update_loop _]
    show wpAny _ A.in1 (pyNext (.ref I) >>= _) _ _ s
    refine wpAny_bind (W.done s _ _ hst fun s' hm => ?_)
    show wpAny _ A.in1 (ret Value.none) _ _ s'
    exact wpAny_pure (hR s' (hm.mono up) (K.keep _ _ _ hC hm.heap))
  | succ k ih =>
    intro i s hk hi hst hC hR
    have hlt : i < n := by omega
    refine codeAny_builtin F.entry_set_update_loop ?_
    rw [Around.under_plainId F.plain_set_update_loop _]
    show wpAny _ A.in1 (pyNext (.ref I) >>= _) _ _ s
    refine wpAny_bind (W.item i s _ _ hlt hst fun v s' hP hst' hm => ?_)
    show wpAny _ A.in1 (holding [v] (setAdd S v) >>= _) _ _ s'
    refine wpAny_bind (wpAny_holding (K.add i v s' _ _ hlt hP (K.keep _ _ _ hC hm.heap) fun b h' tk sb tle hC' => ?_))
    have oth : ∀ c o, c ≠ S → s'.heap.get? c = some o → h'.get? c = some o := fun c o hc e => (sb.2 c hc).trans e
    refine wpAny_pure ⟨plainId_quiet F.plain_set_update_loop _, ih (i + 1) _ (by omega) hlt (W.frame _ s' _ _ hst' tle fun c hc o e => oth c o (fun z => hSf (z ▸ hc)) e) hC' fun s'' hm2 hC2 => ?_⟩
    exact hR s'' (Moved.trans W.gtrans ((hm.mono up).then_heap tle fun c o hc e => oth c o (fun z => hc (by rw [z]; exact List.mem_cons_self)) e) hm2) hC2
/-- a new set -/
abbrev setObj0 (w : World) : Obj := { cls := .type "set", dict := none, data := .set #[] 0 (.fresh 0 0 (!w.params.followText "set-order")) }
set_option maxHeartbeats 3200000 in
theorem call_setL {l : Addr} {items : Array Value} {C : Nat → Heap → Prop} {Q : Value → Shared → Prop} (hh : A.handled = none) (hl : s.heap.IsList l items)
    (h0 : ∀ h', h'.get? s.heap.objs.size = some (setObj0 w) → (∀ b o, s.heap.get? b = some o → h'.get? b = some o) → C 0 h')
    (K : ∀ A' : Around, A'.units ≤ A.units + 4 → AddOk P w A' s.heap.objs.size [s.heap.objs.size + 1] items.size (fun i v => items[i]? = some v) C)
    (h : ∀ (h' : Heap) (tk : Nat), C items.size h' → (∀ b o, s.heap.get? b = some o → h'.get? b = some o) → Q (.ref s.heap.objs.size) { s with heap := h', toks := tk }) :
    wpAny (model P w) A (call (.type "set") [.ref l]) Q E s := by
  obtain ⟨c, tl, hmro⟩ := F.called_set.mro
  have hmade := F.called_set.made
  have hsub := F.called_set.sub
  refine wpAny_call (codeAny_of_tree ?_)
  show wpAny _ _ (callAny (.type "set") _) _ _ _
  refine wpAny_pure ⟨Code.quiet_builtin _ (by decide +kernel), codeAny_builtin F.entry_type_call ?_⟩
  rw [Around.under_plain (weight_type_call_type "set" [.ref l] []) rfl]
  have h1 := F.called_set.notType
  have h2 := F.called_set.canCreate
  have hct := F.typeCall_set_1 (.ref l)
  repeat (any_goals (first | assumption | wp_step))
  refine codeAny_mono (code_set_led1 (.ref l) (E := E) (Q₁ := fun obj s₁ => obj = .ref s.heap.objs.size ∧ s₁ = { s with heap := s.heap.push (setObj0 w) }) ⟨rfl, rfl⟩) fun r s₁ hr => ?_
  cases r with
  | error e => exact hr
  | ok fl =>
    cases fl with
    | ret obj =>
      obtain ⟨rfl, rfl⟩ := hr
      have hS : (s.heap.push (setObj0 w)).get? s.heap.objs.size = some (setObj0 w) := Heap.get?_push_size _ rfl
      have hT : Shared.TypeIs { s with heap := s.heap.push (setObj0 w) } (.ref s.heap.objs.size) "set" := ⟨_, hS, rfl⟩
      have hli := F.called_set.init.lookup
      have hbi := F.called_set.init.bind (.ref s.heap.objs.size)
      repeat (any_goals (first | assumption | wp_step))
      refine codeAny_mono (codeAny_call_builtin (R := wants (fun r s₂ => r = .none ∧ ∃ h' tk, s₂ = { s with heap := h', toks := tk } ∧ C items.size h' ∧ (∀ b o, s.heap.get? b = some o → h'.get? b = some o)) E)
        F.called_set.init.plain F.entry_set_init (check_set_init_1 hT ?_)) fun r₂ s₂ hr₂ => ?_
      · obtain ⟨⟨ocls, odict, odata, oslots⟩, hol, hcl, nl, hdl⟩ := hl
        simp only at hcl hdl
        subst hcl; subst hdl
        have hsls := F.sub_list_set
        have hslf := F.sub_list_frozenset
        have hne : (Value.type "list" == Value.type "dict") = false := by decide
        have hol' : (s.heap.push (setObj0 w)).get? l = some { cls := .type "list", dict := odict, data := .seq items nl, slots := oslots } := Heap.get?_push_of_some _ hol
        have hl1 : (s.heap.push (setObj0 w)).IsList l items := ⟨_, hol', rfl, nl, rfl⟩
        have hsz : (s.heap.push (setObj0 w)).objs.size = s.heap.objs.size + 1 := Heap.size_push ..
        have hlS : l < s.heap.objs.size := Heap.lt_size hol
        unfold Builtin.«set.__init__» noKeywords Builtin.Frozenset.updateFrom
        generalize hPI : pyIter = PI
        wp_walk
        subst hPI
        refine wpAny_pyIter_list hl1 ?_
        refine wpAny_bind (wpAny_runValue ?_)
        have hh3 : A.in1.in1.in1.handled = none := by simp [hh]
        have hneI : l ≠ (s.heap.push (setObj0 w)).objs.size := by rw [hsz]; exact Nat.ne_of_lt (Nat.lt_succ_of_lt hlS)
        have hSf : s.heap.objs.size ∉ [(s.heap.push (setObj0 w)).objs.size, l] := by
          rw [hsz]; simp only [List.mem_cons, List.not_mem_nil, or_false, not_or]
          exact ⟨Nat.ne_of_lt (Nat.lt_succ_self _), Nat.ne_of_gt hlS⟩
        have old : ∀ b o, s.heap.get? b = some o → ((s.heap.push (setObj0 w)).push { cls := .type "list_iterator", data := .fields #[.ref l, .int 0 0] }).get? b = some o := fun b o e => Heap.get?_push_of_some _ (Heap.get?_push_of_some _ e)
        have Kx : AddOk P w A.in1.in1.in1 s.heap.objs.size [(s.heap.push (setObj0 w)).objs.size] items.size (fun i v => items[i]? = some v) C := by
          rw [hsz]; exact K _ (Nat.le_succ _)
        refine update_gen ((Walks.list hh3 _ l hneI items).toS) s.heap.objs.size hSf Kx (items.size - 0) 0 _ (by omega) (Nat.zero_le _) ⟨⟨_, Heap.get?_push_size _ rfl, rfl, rfl⟩, (hl1.push _)⟩
          (h0 _ (Heap.get?_push_of_some _ hS) old) ?_
        intro s' hm hC
        obtain ⟨h', g2, d', tk', os'⟩ := s'
        have eg : g2 = s.gens := hm.gens
        have ed : d' = s.drawn := hm.drawn
        have eo : os' = s.os := hm.os
        subst eg; subst ed; subst eo
        show wpAny _ _ _ _ _ _
        refine wpAny_pure ?_
        show wpAny _ _ (ret Value.none) _ _ _
        refine wpAny_pure ⟨rfl, h', tk', rfl, hC, fun b o e => ?_⟩
        have hb := Heap.lt_size e
        refine hm.heap b o ?_ (old b o e)
        rw [hsz]; simp only [List.mem_cons, List.not_mem_nil, or_false, not_or]
        exact ⟨Nat.ne_of_lt hb, Nat.ne_of_lt (Nat.lt_succ_of_lt hb)⟩
      · cases r₂ with
        | error e => exact hr₂
        | ok fl₂ =>
          cases fl₂ with
          | ret r =>
            obtain ⟨rfl, h', tk, rfl, hC, hk⟩ := hr₂
            repeat (any_goals (first | assumption | wp_step))
            exact h _ _ hC hk
          | _ => exact hr₂.elim
    | _ => exact hr.elim
end
end Wg

namespace Wg
open PySem PySem.Spec PyProof.Rows L2 SlX
/-! ### sets of texts -/
def keyS (e : Int × Value) : List Nat := match e.2 with
  | .str x _ => x.cps.toList
  | _ => []
def GoodT (w : World) (e : Int × Value) : Prop := ∃ x t, e.2 = Value.str ⟨List.toArray x⟩ t ∧ e.1 = hashStr w ⟨List.toArray x⟩
/-- a member more, behind the others -/
def addP {α : Type} [DecidableEq α] (L : List α) (x : α) : List α := if x ∈ L then L else L ++ [x]
/-- the set of texts at a -/
def TxSet (w : World) (h : Heap) (a : Addr) (L : List (List Nat)) : Prop :=
  ∃ o es ep t, h.get? a = some o ∧ o.ExactSet ∧ o.data = .set es ep t ∧ (∀ e ∈ es.toList, GoodT w e) ∧ (es.toList.map keyS).Perm L ∧ L.Nodup ∧ es.size < scanBound ∧ t.fits es.size = true ∧ Ris t.place.toList ∧ (w.params.followText "set-order" = true ∨ t.led = true)
section
variable {P : Program} {w : World} {A : Around} {E : Value → Shared → Prop} {s : Shared} {a : Addr} {L : List (List Nat)}
theorem TxSet.at_ {h h' : Heap} (R : TxSet w h a L) (k : ∀ o, h.get? a = some o → h'.get? a = some o) : TxSet w h' a L := by
  obtain ⟨o, es, ep, t, ho, r⟩ := R
  exact ⟨o, es, ep, t, k o ho, r⟩
theorem GoodT.is {e : Int × Value} (g : GoodT w e) (x : List Nat) : (PySem.strKind P w).is ⟨x.toArray⟩ e.2 = true ↔ keyS e = x := by
  obtain ⟨y, t, h1, _⟩ := g
  unfold keyS
  rw [h1]
  show Value.isStrOf ⟨x.toArray⟩ (Value.str ⟨y.toArray⟩ t) = true ↔ (y.toArray.toList = x)
  constructor
  · intro q
    obtain ⟨u, q⟩ := Value.isStrOf_shape q
    injection q with q
    injection q with q
    rw [q]
  · intro q
    have q : y = x := q
    subst q
    exact strKind_is P w ⟨y.toArray⟩ t
theorem good_elemsT {l : List (Int × Value)} (g : ∀ e ∈ l, GoodT w e) : ElemsOf (PySem.strKind P w) l := fun e he => by
  obtain ⟨x, t, h1, h2⟩ := g e he
  exact ⟨⟨⟨x.toArray⟩, by rw [h1]; exact strKind_is P w ⟨x.toArray⟩ t, h2⟩, by rw [h1]; rfl⟩
theorem TxSet.fresh {h : Heap} (ho : h.get? a = some (setObj0 w)) : TxSet w h a [] :=
  ⟨_, #[], 0, _, ho, ⟨rfl, rfl, rfl⟩, rfl, (fun e he => by simp at he), List.Perm.refl _, List.nodup_nil, (by decide), (by rfl), List.Pairwise.nil, by
    show _ ∨ (!w.params.followText "set-order") = true
    cases w.params.followText "set-order"
    · exact .inr rfl
    · exact .inl rfl⟩
/-- what is laid into the table, and the table laid anew when it is too full -/
theorem tx_tail {g : Bool → Sem Unit} (hg : ∀ (b : Bool) (s₁ : Shared) (Q' : Unit → Shared → Prop), Q' () s₁ → wpAny (model P w) A (g b) Q' E s₁)
    {o : Obj} {es : Array (Int × Value)} {ep : Nat} {t : SetTable} (ho : s.heap.get? a = some o) (hex : o.ExactSet) (hd : o.data = .set es ep t)
    {es1 : Array (Int × Value)} {t2 : SetTable} {L1 : List (List Nat)} (g1 : ∀ e ∈ es1.toList, GoodT w e) (p1 : (es1.toList.map keyS).Perm L1) (nd1 : L1.Nodup)
    (hb1 : es1.size < scanBound) (hf2 : t2.fits es1.size = true) (hr : Ris t2.place.toList) (hl : w.params.followText "set-order" = true ∨ t2.led = true) {wasDummy : Bool} {R : Option Bool → Shared → Prop}
    (hR : ∀ h', Heap.SameBut a s.heap h' → TxSet w h' a L1 → R (some true) { s with heap := h' }) :
    wpAny (model P w) A (do
        storeSet a es1 t2
        if (!wasDummy && t2.tooFull) = true then do
            g (relayAll t2 es1 (SetTable.grown es1.size)).2.2
            storeSet a (relayAll t2 es1 (SetTable.grown es1.size)).1 (relayAll t2 es1 (SetTable.grown es1.size)).2.1
            pure (some true)
          else pure (some true)) R E s := by
  have q1 := store_at (es' := es1) (t' := t2) ho hd
  have sb1 := Heap.SameBut.update s.heap a (Obj.putSet es1 t2)
  refine wpAny_bind (wpAny_storeSet_of ho hd ?_ (fits_of_scanBound hb1))
  by_cases c : (!wasDummy && t2.tooFull) = true
  · rw [if_pos c]
    have pm := relayAll_perm t2 es1 (SetTable.grown es1.size)
    have hf3 := relayAll_fits t2 es1 (SetTable.grown es1.size)
    have hr3 := relayAll_ris t2 es1 (SetTable.grown es1.size)
    have hl3 := relayAll_led t2 es1 (SetTable.grown es1.size)
    revert pm hf3 hr3 hl3
    rcases relayAll t2 es1 (SetTable.grown es1.size) with ⟨es2, t3, gave⟩
    intro pm hf3 hr3 hl3
    have hsz : es2.size = es1.size := by rw [← Array.length_toList, ← Array.length_toList]; exact pm.length_eq
    refine wpAny_bind (hg _ _ _ ?_)
    refine wpAny_bind (wpAny_storeSet_of q1 rfl ?_ (fits_of_scanBound (by rw [hsz]; exact hb1)))
    refine wpAny_pure (hR _ (sb1.trans (Heap.SameBut.update _ a _)) ?_)
    exact ⟨_, es2, _, t3, store_at (es' := es2) (t' := t3) q1 rfl, hex, rfl, fun e he => g1 e (pm.mem_iff.mp he), (pm.map keyS).trans p1, nd1, by rw [hsz]; exact hb1, hf3, hr3, hl.imp id fun z => by rw [hl3]; exact z⟩
  · rw [if_neg c]
    exact wpAny_pure (hR _ sb1 ⟨_, es1, _, t2, q1, hex, rfl, g1, p1, nd1, hb1, hf2, hr, hl⟩)
theorem tx_add_hashed {x : List Nat} {tk : Tok} {Q : Bool → Shared → Prop} (R : TxSet w s.heap a L) (room : L.length + 1 < scanBound)
    (hQ : ∀ b h', Heap.SameBut a s.heap h' → TxSet w h' a (addP L x) → Q b { s with heap := h' }) :
    wpAny (model P w) A (setAddHashed a (.str ⟨x.toArray⟩ tk) ((PySem.strKind P w).hash ⟨x.toArray⟩)) Q E s := by
  obtain ⟨o, es, ep, t, ho, hex, hd, g, p, nd, hb, hf, hr, hl⟩ := R
  have hkey : (PySem.strKind P w).is ⟨x.toArray⟩ (.str ⟨x.toArray⟩ tk) = true := strKind_is P w _ tk
  have hsc : (Value.str ⟨x.toArray⟩ tk).scannable = true := rfl
  have hel : ElemsOf (PySem.strKind P w) es.toList := good_elemsT g
  have hlen : es.size = L.length := by rw [← p.length_eq, List.length_map, Array.length_toList]
  unfold setAddHashed setAddHashedIn
  refine wpAny_holding (wpAny_bind (wpAny_setState_of ho hd hf ?_))
  dsimp only
  rw [byScan_of hsc hb hel, if_pos rfl]
  unfold setAddByScan
  refine wpAny_bind (wpAny_bind (wpAny_rule (wpAny_bind (wpAny_setScan_of hkey ho hd hf hel ?_))))
  cases hfi : List.findIdx? (fun e => (PySem.strKind P w).is ⟨x.toArray⟩ e.2) es.toList with
  | some j =>
    obtain ⟨hj, pj, _⟩ := List.findIdx?_eq_some_iff_getElem.mp hfi
    have hm : x ∈ L := p.mem_iff.mp (List.mem_map.mpr ⟨_, List.getElem_mem hj, (GoodT.is (P := P) (g _ (List.getElem_mem hj)) x).mp pj⟩)
    refine wpAny_pure (wpAny_pure (hQ _ s.heap (Heap.SameBut.refl a s.heap) ?_))
    rw [addP, if_pos hm]
    exact ⟨o, es, ep, t, ho, hex, hd, g, p, nd, hb, hf, hr, hl⟩
  | none =>
    have hm : x ∉ L := fun z => by
      obtain ⟨e, he, q⟩ := List.mem_map.mp (p.mem_iff.mpr z)
      have c := List.findIdx?_eq_none_iff.mp hfi e he
      rw [(GoodT.is (P := P) (g e he) x).mpr q] at c
      cases c
    have hgw : ∀ (b : Bool) (s₁ : Shared) (Q' : Unit → Shared → Prop), Q' () s₁ → wpAny (model P w) A (match b with | true => rule "set.scan.the-table-gave-way" | false => pure ()) Q' E s₁ := fun b s₁ Q' q => by
      cases b
      · exact wpAny_pure q
      · exact wpAny_rule q
    have pm := layNew_perm t es ((PySem.strKind P w).hash ⟨x.toArray⟩) (.str ⟨x.toArray⟩ tk)
    have hf1 := layNew_fits t es ((PySem.strKind P w).hash ⟨x.toArray⟩) (.str ⟨x.toArray⟩ tk)
    have hr1 := layNew_ris t es ((PySem.strKind P w).hash ⟨x.toArray⟩) (.str ⟨x.toArray⟩ tk) hr
    have hl1 := layNew_led t es ((PySem.strKind P w).hash ⟨x.toArray⟩) (.str ⟨x.toArray⟩ tk)
    dsimp only
    revert pm hf1 hr1 hl1
    generalize layNew t es ((PySem.strKind P w).hash ⟨x.toArray⟩) (.str ⟨x.toArray⟩ tk) = Z
    obtain ⟨es1, t1, wasDummy, gave⟩ := Z
    intro pm hf1 hr1 hl1
    dsimp only at pm hf1 hr1 hl1 ⊢
    rw [Array.toList_push] at pm
    have g1 : ∀ e ∈ es1.toList, GoodT w e := fun e he => by
      rcases List.mem_append.mp (pm.mem_iff.mp he) with z | z
      · exact g e z
      · rw [List.mem_singleton.mp z]; exact ⟨x, tk, rfl, rfl⟩
    have p1 : (es1.toList.map keyS).Perm (L ++ [x]) := by
      refine (pm.map keyS).trans ?_
      rw [List.map_append]
      exact p.append (List.Perm.refl [x])
    have nd1 : (L ++ [x]).Nodup := (List.perm_append_singleton x L).nodup_iff.mpr (List.nodup_cons.mpr ⟨hm, nd⟩)
    have hb1 : es1.size < scanBound := by
      have e := pm.length_eq
      rw [Array.length_toList, List.length_append, Array.length_toList, hlen] at e
      have e : es1.size = L.length + 1 := e
      omega
    have hled : w.params.followText "set-order" = true ∨ t1.led = true := hl.imp id fun z => by rw [hl1]; exact z
    have fin : ∀ b h', Heap.SameBut a s.heap h' → TxSet w h' a (L ++ [x]) → Q b { s with heap := h' } := fun b h' sb r => hQ b h' sb (by rw [addP, if_neg hm]; exact r)
    refine wpAny_bind (hgw _ _ _ ?_)
    split
    · refine wpAny_bind ?_
      rw [hashByValue_scannable 8 hsc]
      refine wpAny_pure ?_
      refine tx_tail hgw ho hex hd g1 p1 nd1 hb1 ?_ ?_ ?_ fun h' sb r => wpAny_pure (fin _ h' sb r)
      · first | exact hf1 | (split <;> first | exact hf1 | exact SetTable.fits_plain_off hf1)
      · first | exact hr1 | (split <;> exact hr1)
      · first | exact hled | (split <;> exact hled)
    · refine wpAny_bind (wpAny_pure ?_)
      rw [if_pos rfl]
      exact tx_tail hgw ho hex hd g1 p1 nd1 hb1 hf1 hr1 hled fun h' sb r => wpAny_pure (fin _ h' sb r)
end
end Wg

namespace Wg
open PySem PySem.Spec PyProof.Rows L2 SlX
section
theorem perm_lift {α β : Type} {f : α → β} : ∀ {l : List α} {m1 m : List β}, m1.Perm m → l.map f = m1 → ∃ l' : List α, l'.Perm l ∧ l'.map f = m := by
  intro l m1 m p
  induction p generalizing l with
  | nil => intro e; exact ⟨l, List.Perm.refl _, e⟩
  | cons x _ ih =>
    intro e
    cases l with
    | nil => cases e
    | cons a l =>
      injection e with e1 e2
      obtain ⟨l', p', e'⟩ := ih e2
      exact ⟨a :: l', p'.cons a, by rw [List.map_cons, e1, e']⟩
  | swap x y l1 =>
    intro e
    match l, e with
    | [], e => cases e
    | [a], e => injection e with _ e; cases e
    | a :: b :: l, e =>
      injection e with e1 e2
      injection e2 with e2 e3
      exact ⟨b :: a :: l, List.Perm.swap _ _ _, by rw [List.map_cons, List.map_cons, e1, e2, e3]⟩
  | trans _ _ ih1 ih2 =>
    intro e
    obtain ⟨l1, p1, e1⟩ := ih1 e
    obtain ⟨l2, p2, e2⟩ := ih2 e1
    exact ⟨l2, p2.trans p1, e2⟩
/-- the values of a set of texts -/
theorem TxSet.ho {w : World} {h : Heap} {a : Addr} {L : List (List Nat)} (R : TxSet w h a L) : SetHo w a (L.map strV) h := by
  obtain ⟨o, es, ep, t, ho, hex, hd, g, p, nd, hb, hf, hr, hl⟩ := R
  obtain ⟨l', p', e'⟩ := perm_lift p rfl
  refine ⟨o, es, ep, t, l'.map (·.2), ho, hex, hd, (p'.map _).symm, ?_, hb, hf, hr, hl⟩
  have g' : ∀ e ∈ l', GoodT w e := fun e he => g e (p'.mem_iff.mp he)
  clear p p'
  subst e'
  induction l' with
  | nil => exact .nil
  | cons e l ih =>
    obtain ⟨x, tk, h1, _⟩ := g' e List.mem_cons_self
    refine .cons ?_ (ih (fun u hu => g' u (List.mem_cons_of_mem _ hu)) (List.nodup_cons.mp nd).2)
    show RelV (strV (keyS e)) e.2
    unfold keyS
    rw [h1]
    exact ⟨tk, rfl⟩
theorem addP_len {α : Type} [DecidableEq α] (L : List α) (x : α) : (addP L x).length ≤ L.length + 1 := by
  unfold addP; split <;> simp
theorem foldl_addP_len {α : Type} [DecidableEq α] : ∀ (xs L : List α), (xs.foldl addP L).length ≤ L.length + xs.length
  | [], _ => by simp
  | x :: xs, L => by
    have h1 := foldl_addP_len xs (addP L x)
    have h2 := addP_len L x
    rw [List.foldl_cons, List.length_cons]; omega
/-- each once, in the order of their first coming -/
def dedup {α : Type} [DecidableEq α] (xs : List α) : List α := xs.foldl addP []
theorem setHo_new {P : Program} {w : World} {H : Hp} {h : Heap} {a : Addr} {vs : List V} (R : SetHo w a vs h) : ObjOk P w H h a (.ext (SetHo w a vs)) := by
  obtain ⟨o, es, ep, t, us, ho, r⟩ := id R
  exact ⟨R, ⟨o, ho⟩, fun h1 h2 ⟨o, es, ep, t, us, ho, r⟩ k => ⟨o, es, ep, t, us, k o ho, r⟩⟩
variable {X : Cx}
/-- set(list of texts) -/
def rSetTx (K : PySem.W.Frag) (w : World) : List V → Hp → VK → Prop := fun vs H Q => ∃ (l : Addr) (ks : List (List Nat)), vs = [V.ref l] ∧ SqL K H l (ks.map strV) ∧ ks.length + 2 < scanBound ∧ ∀ p, H p = none → Q (.ref p) (upd H p (.ext (SetHo w p ((dedup ks).map strV))))
theorem cr_setTx (hc : X.calm = true) : CallR X (.type "set") (rSetTx X.K X.w) := by
  intro pins s σ H vs us Q I r h
  obtain ⟨l, ks, rfl, hl, hb, q⟩ := h
  obtain ⟨its, rv, pl, hz⟩ := I.list hl
  rw [Vals.ref1 r]
  have hn : H s.heap.objs.size = none := I.hok.fresh (Nat.le_refl _)
  have hsz : its.toArray.size = ks.length := by rw [List.size_toArray, ← rv.length, List.length_map]
  refine call_setL (P := X.prog) (C := fun i h => TxSet X.w h s.heap.objs.size ((ks.take i).foldl addP [])) (I.ok.hd hc) pl.isList (fun h' e _ => TxSet.fresh e) (fun A' _ => ⟨fun i h h' R k => R.at_ fun o e => k _ o (by simp only [List.mem_cons, List.not_mem_nil, or_false]; exact Nat.ne_of_lt (Nat.lt_succ_self _)) e, fun i v s' Q' E' hi hv R hQ => ?_⟩) fun h' tk R k => ?_
  · have hi' : i < ks.length := by rw [← hsz]; exact hi
    obtain ⟨u, hu, ru⟩ := rv.get (i := i) (x := strV ks[i]) (by simp [hi'])
    have e : v = u := by
      have e1 : its[i]? = some v := by simpa using hv
      rw [e1] at hu; exact Option.some.inj hu
    subst e
    obtain ⟨tk, rfl⟩ := ru
    unfold setAdd
    refine wpAny_holding (wpAny_bind ((PySem.strKind X.prog X.w).pyHash (k := ⟨ks[i].toArray⟩) (strKind_is _ _ _ _) ?_))
    have hl := foldl_addP_len (ks.take i) ([] : List (List Nat))
    rw [List.length_take, List.length_nil] at hl
    refine tx_add_hashed (s := { s' with toks := s'.toks + 1 }) R (by omega) fun b h' sb R' => hQ b h' _ sb (Nat.le_succ _) ?_
    rw [List.take_add_one, List.getElem?_eq_getElem hi', List.foldl_append]
    exact R'
  · rw [hsz, List.take_length] at R
    exact ⟨.ref s.heap.objs.size, _, I.laid (t' := tk) k (Nat.le_refl _) (setHo_new R.ho), rfl, q _ hn⟩
end
end Wg

namespace Wg
open PySem PySem.Spec PyProof.Rows L2 SlX
section
variable {prog : Program} {w : World} {A : Around} {s : Shared} {E : Value → Shared → Prop}
/-! ### texts in their order, any number of them -/
theorem tx1_cmp {vs : List Value} {k : Value → List Nat} (hp : ∀ v ∈ vs, ∃ t, v = .str ⟨(k v).toArray⟩ t) : SrtO.Cmp prog w A s oneType' (fun p => p.1 ∈ vs) (SrtO.lt2 fun v u => ltL (k v) (k u)) := by
  intro p q hm hm'
  obtain ⟨t, e⟩ := hp _ hm
  obtain ⟨t', e'⟩ := hp _ hm'
  show wpAny (model prog w) A (keyLt' oneType' p.1 q.1) (fun r s' => s' = s ∧ r = ltL (k p.1) (k q.1)) (fun _ _ => False) s
  generalize k p.1 = l1 at e ⊢
  generalize k q.1 = l2 at e' ⊢
  rw [e, e', keyLt'_oneType]
  exact oneLt_str ⟨rfl, rfl⟩
theorem tx1_sortable {a : Addr} {vs : List Value} {k : Value → List Nat} (hp : ∀ v ∈ vs, ∃ t, v = .str ⟨(k v).toArray⟩ t) (h2 : 2 ≤ vs.length) : SrtO.SortableO prog w A s a vs fun v u => ltL (k v) (k u) := by
  intro h' _
  refine ⟨oneType', fun Q E hq => ?_, tx1_cmp hp⟩
  have hS := strsAre_map vs fun v hv => let ⟨t, e⟩ := hp v hv; ⟨_, t, e⟩
  match vs, hS, h2 with
  | v1 :: v2 :: rest, hS, _ =>
    rw [keyKind_strs hS]
    exact wpAny_pure hq
  | [], _, h => exact absurd h (by decide)
  | [v], _, h => exact absurd h (by simp)
theorem swo_ltL {α : Type} (k : α → List Nat) : SrtO.Swo fun x y => ltL (k x) (k y) := ⟨fun x y h => swo_l.1 _ _ h, fun x y z h1 h2 => swo_l.2 _ _ _ h1 h2⟩
/-- sorted(set): its members in any order, then sorted -/
theorem sorted_setG {a : Addr} {o : Obj} {es : Array (Int × Value)} {ep : Nat} {t : SetTable} {ltv : Value → Value → Bool} {Q : Value → Shared → Prop} (O : SrtO.Swo ltv) (hh : A.handled = none)
    (ho : s.heap.get? a = some o) (hex : o.ExactSet) (hd : o.data = .set es ep t) (hf : t.fits es.size = true) (hb : es.size < scanBound) (hr : Ris t.place.toList) (hl : w.params.followText "set-order" = true ∨ t.led = true)
    (hS : ∀ (vs : List Value) (s' : Shared) (d : Addr), 2 ≤ vs.length → vs.Perm (es.toList.map (·.2)) → (∀ b o, s.heap.get? b = some o → b ≠ d ∧ s'.heap.get? b = some o) → s'.heap.get? d = some (seqObj "list" vs.toArray 0) → SrtO.SortableO prog w A.in1.in1 s' d vs ltv)
    (hQ : ∀ s' p (out : List Value) (c : Nat), (∀ b o, s.heap.get? b = some o → s'.heap.get? b = some o) → s'.gens = s.gens → s'.os = s.os → s.heap.objs.size ≤ p → s'.heap.get? p = some (seqObj "list" out.toArray c) →
      out.Perm (es.toList.map (·.2)) → SrtO.Srtd ltv out → Q (.ref p) s') :
    wpAny (model prog w) A (call (.builtin "sorted") [.ref a]) Q E s := by
  refine Calls.call_function_entry kind_sorted plain_sorted entry_sorted (args_sorted1 _) ?_
  unfold Builtin.«sorted»
  refine wpAny_bind (m := checkCount "sorted" 1 1 _) (wpAny_pure ?_)
  refine wpAny_bind (collect_set (A := A.in1) hh ⟨o, ho, hex.1, hd⟩ hf hb hr hl fun s1 vs k1 hz g1 o1 pm => ?_)
  have hvl : vs.length ≤ sizeLine := by
    rw [pm.length_eq, List.length_map, Array.length_toList]
    exact fits_of_scanBound hb
  refine wpAny_bind (wpAny_newList ?_ hvl)
  have hoL : (s1.heap.push (seqObj "list" vs.toArray 0)).get? s1.heap.objs.size = some (seqObj "list" vs.toArray 0) := Heap.get?_push_size _ rfl
  have old : ∀ b u, s.heap.get? b = some u → b ≠ s1.heap.objs.size ∧ (s1.heap.push (seqObj "list" vs.toArray 0)).get? b = some u := fun b u e => ⟨Nat.ne_of_lt (Heap.lt_size (k1 b u e)), Heap.get?_push_of_some _ (k1 b u e)⟩
  refine wpAny_bind (wpAny_holding (wpAny_call_entry slot_list_sort ⟨_, hoL, rfl⟩ entry_list_sort (SrtO.list_sort_ord (s := { s1 with heap := s1.heap.push (seqObj "list" vs.toArray 0) }) O hoL hvl (fun h2 => hS vs _ _ h2 pm old hoL) fun out hs hb2 => ⟨_, rfl, ?_⟩) (args_list_sort _)))
  obtain ⟨c, hc⟩ := sortedHeap_at (vs := vs) (out := out.toArray) hoL
  refine wpAny_pure ⟨_, rfl, hQ _ s1.heap.objs.size out c (fun b u e => ?_) g1 o1 hz hc (hb2.perm.trans pm) hs⟩
  have q := k1 b u e
  have hlt := Heap.lt_size q
  show (sortedHeap (s1.heap.push (seqObj "list" vs.toArray 0)) s1.heap.objs.size vs out.toArray).get? b = some u
  rw [sortedHeap_old (Nat.ne_of_lt hlt) (by rw [size_push']; exact Nat.lt_succ_of_lt hlt)]
  exact Heap.get?_push_of_some _ q
end
section
variable {X : Cx}
theorem vals_strs : ∀ {L : List (List Nat)} {us : List Value}, Vals (L.map strV) us → (∀ v ∈ us, ∃ t, v = .str ⟨(keyS (0, v)).toArray⟩ t) ∧ us.map (fun v => keyS (0, v)) = L
  | [], _, r => by cases r; exact ⟨fun _ h => by simp at h, rfl⟩
  | x :: L, _, r => by
    cases r with
    | cons h t =>
      obtain ⟨h1, h2⟩ := vals_strs t
      obtain ⟨tk, rfl⟩ := h
      refine ⟨fun v hv => ?_, by rw [List.map_cons, h2]; rfl⟩
      rcases List.mem_cons.mp hv with z | z
      · rw [z]; exact ⟨tk, rfl⟩
      · exact h1 v z
theorem strs_vals : ∀ {us : List Value}, (∀ v ∈ us, ∃ t, v = .str ⟨(keyS (0, v)).toArray⟩ t) → Vals ((us.map fun v => keyS (0, v)).map strV) us
  | [], _ => .nil
  | v :: us, h => .cons (let ⟨t, e⟩ := h v List.mem_cons_self; ⟨t, e⟩) (strs_vals fun u hu => h u (List.mem_cons_of_mem _ hu))
theorem srtd_keys {us : List Value} (h : SrtO.Srtd (fun v u => ltL (keyS (0, v)) (keyS (0, u))) us) : SrtO.Srtd ltL (us.map fun v => keyS (0, v)) := SrtO.srtd_map (lt := ltL) h
/-- sorted(set of texts) -/
def rSortedSX (w : World) : List V → Hp → VK → Prop := fun vs H Q => ∃ (a : Addr) (L : List (List Nat)), vs = [V.ref a] ∧ H a = some (.ext (SetHo w a (L.map strV))) ∧ ∀ p, H p = none → Q (.ref p) (upd H p (.lst ((isort ltL L).map strV)))
theorem cr_sortedSX (hc : X.calm = true) : CallR X (.builtin "sorted") (rSortedSX X.w) := by
  intro pins s σ H vs us Q I r h
  obtain ⟨a, L, rfl, ha, q⟩ := h
  obtain ⟨o, es, ep, t, us', ho, hex, hd, pm, rv, hb, hf, hr, hl⟩ : SetHo X.w a (L.map strV) s.heap := (I.hok a _ ha).1
  rw [Vals.ref1 r]
  obtain ⟨hs1, hs2⟩ := vals_strs rv
  refine sorted_setG (prog := X.prog) (ltv := fun v u => ltL (keyS (0, v)) (keyS (0, u))) (swo_ltL _) (I.ok.hd hc) ho hex hd hf hb hr hl (fun vs s' d h2 p _ _ => tx1_sortable (fun v hv => hs1 v ((p.trans pm).mem_iff.mp hv)) h2) fun s' p out c k g oo hp hg po so => ?_
  have hS : ∀ v ∈ out, ∃ t, v = .str ⟨(keyS (0, v)).toArray⟩ t := fun v hv => hs1 v ((po.trans pm).mem_iff.mp hv)
  have e : out.map (fun v => keyS (0, v)) = isort ltL L := isortL_uniq (by rw [← hs2]; exact (po.trans pm).map _) (srtd_keys so)
  have hv : Vals ((isort ltL L).map strV) out := by rw [← e]; exact strs_vals hS
  have hlen : ((isort ltL L).map strV).length ≤ sizeLine := by
    rw [hv.length, po.length_eq, List.length_map, Array.length_toList]
    exact fits_of_scanBound hb
  have hn : H p = none := I.hok.fresh hp
  have J : Inv X pins σ (upd H p (.lst ((isort ltL L).map strV))) { s with heap := s'.heap, gens := s'.gens, drawn := s'.drawn, toks := s'.toks } :=
    I.call (ch := []) (Un.laid k hp hn) (I.hok.laid k hp ⟨hlen, out, c, hv, hg⟩) (by rw [g]; exact I.bare) (fun _ z => nomatch z)
  have e : s' = { s with heap := s'.heap, gens := s'.gens, drawn := s'.drawn, toks := s'.toks } := by
    cases s'
    cases s
    cases oo
    rfl
  rw [e]
  exact ⟨.ref p, _, J, rfl, q p hn⟩
/-- len(set) -/
def rLenSet (w : World) : List V → Hp → VK → Prop := fun vs H Q => ∃ (a : Addr) (L : List V), vs = [V.ref a] ∧ H a = some (.ext (SetHo w a L)) ∧ Q (.int L.length) H
theorem cr_lenSet : CallR X (.builtin "len") (rLenSet X.w) := by
  intro pins s σ H vs us Q I r h
  obtain ⟨a, L, rfl, ha, q⟩ := h
  obtain ⟨o, es, ep, t, us', ho, hex, hd, pm, rv, hb, hf, hr, hl⟩ : SetHo X.w a L s.heap := (I.hok a _ ha).1
  rw [Vals.ref1 r]
  have e : es.size = L.length := by rw [rv.length, ← pm.length_eq, List.length_map, Array.length_toList]
  exact call_len_set ho hex hd hf (by unfold scanBound at hb; omega) ⟨.int L.length, H, I.tok _, ⟨_, by rw [e]⟩, q⟩
end
end Wg

namespace Wg
open PySem PySem.Spec PyProof.Rows L2 SlX
section
variable {P : Program} {w : World} {A : Around} {E : Value → Shared → Prop} {s : Shared}
set_option maxHeartbeats 3200000 in
theorem call_setT {l : Addr} {items : Array Value} {C : Nat → Heap → Prop} {Q : Value → Shared → Prop} (hh : A.handled = none) (hl : s.heap.IsTuple l items)
    (h0 : ∀ h', h'.get? s.heap.objs.size = some (setObj0 w) → (∀ b o, s.heap.get? b = some o → h'.get? b = some o) → C 0 h')
    (K : ∀ A' : Around, A'.units ≤ A.units + 4 → AddOk P w A' s.heap.objs.size [s.heap.objs.size + 1] items.size (fun i v => items[i]? = some v) C)
    (h : ∀ (h' : Heap) (tk : Nat), C items.size h' → (∀ b o, s.heap.get? b = some o → h'.get? b = some o) → Q (.ref s.heap.objs.size) { s with heap := h', toks := tk }) :
    wpAny (model P w) A (call (.type "set") [.ref l]) Q E s := by
  obtain ⟨c, tl, hmro⟩ := F.called_set.mro
  have hmade := F.called_set.made
  have hsub := F.called_set.sub
  refine wpAny_call (codeAny_of_tree ?_)
  show wpAny _ _ (callAny (.type "set") _) _ _ _
  refine wpAny_pure ⟨Code.quiet_builtin _ (by decide +kernel), codeAny_builtin F.entry_type_call ?_⟩
  rw [Around.under_plain (weight_type_call_type "set" [.ref l] []) rfl]
  have h1 := F.called_set.notType
  have h2 := F.called_set.canCreate
  have hct := F.typeCall_set_1 (.ref l)
  repeat (any_goals (first | assumption | wp_step))
  refine codeAny_mono (code_set_led1 (.ref l) (E := E) (Q₁ := fun obj s₁ => obj = .ref s.heap.objs.size ∧ s₁ = { s with heap := s.heap.push (setObj0 w) }) ⟨rfl, rfl⟩) fun r s₁ hr => ?_
  cases r with
  | error e => exact hr
  | ok fl =>
    cases fl with
    | ret obj =>
      obtain ⟨rfl, rfl⟩ := hr
      have hS : (s.heap.push (setObj0 w)).get? s.heap.objs.size = some (setObj0 w) := Heap.get?_push_size _ rfl
      have hT : Shared.TypeIs { s with heap := s.heap.push (setObj0 w) } (.ref s.heap.objs.size) "set" := ⟨_, hS, rfl⟩
      have hli := F.called_set.init.lookup
      have hbi := F.called_set.init.bind (.ref s.heap.objs.size)
      repeat (any_goals (first | assumption | wp_step))
      refine codeAny_mono (codeAny_call_builtin (R := wants (fun r s₂ => r = .none ∧ ∃ h' tk, s₂ = { s with heap := h', toks := tk } ∧ C items.size h' ∧ (∀ b o, s.heap.get? b = some o → h'.get? b = some o)) E)
        F.called_set.init.plain F.entry_set_init (check_set_init_1 hT ?_)) fun r₂ s₂ hr₂ => ?_
      · obtain ⟨⟨ocls, odict, odata, oslots⟩, hol, hcl, nl, hdl⟩ := hl
        simp only at hcl hdl
        subst hcl; subst hdl
        have hsls := F.sub_tuple_set
        have hslf := F.sub_tuple_frozenset
        have hne : (Value.type "tuple" == Value.type "dict") = false := by decide
        have hol' : (s.heap.push (setObj0 w)).get? l = some { cls := .type "tuple", dict := odict, data := .seq items nl, slots := oslots } := Heap.get?_push_of_some _ hol
        have hl1 : (s.heap.push (setObj0 w)).IsTuple l items := ⟨_, hol', rfl, nl, rfl⟩
        have hsz : (s.heap.push (setObj0 w)).objs.size = s.heap.objs.size + 1 := Heap.size_push ..
        have hlS : l < s.heap.objs.size := Heap.lt_size hol
        unfold Builtin.«set.__init__» noKeywords Builtin.Frozenset.updateFrom
        generalize hPI : pyIter = PI
        wp_walk
        subst hPI
        refine wpAny_pyIter_tuple hl1 ?_
        refine wpAny_bind (wpAny_runValue ?_)
        have hh3 : A.in1.in1.in1.handled = none := by simp [hh]
        have hneI : l ≠ (s.heap.push (setObj0 w)).objs.size := by rw [hsz]; exact Nat.ne_of_lt (Nat.lt_succ_of_lt hlS)
        have hSf : s.heap.objs.size ∉ [(s.heap.push (setObj0 w)).objs.size, l] := by
          rw [hsz]; simp only [List.mem_cons, List.not_mem_nil, or_false, not_or]
          exact ⟨Nat.ne_of_lt (Nat.lt_succ_self _), Nat.ne_of_gt hlS⟩
        have old : ∀ b o, s.heap.get? b = some o → ((s.heap.push (setObj0 w)).push { cls := .type "tuple_iterator", data := .fields #[.ref l, .int 0 0] }).get? b = some o := fun b o e => Heap.get?_push_of_some _ (Heap.get?_push_of_some _ e)
        have Kx : AddOk P w A.in1.in1.in1 s.heap.objs.size [(s.heap.push (setObj0 w)).objs.size] items.size (fun i v => items[i]? = some v) C := by
          rw [hsz]; exact K _ (Nat.le_succ _)
        refine update_gen ((Walks.tuple hh3 _ l hneI items).toS) s.heap.objs.size hSf Kx (items.size - 0) 0 _ (by omega) (Nat.zero_le _) ⟨⟨_, Heap.get?_push_size _ rfl, rfl, rfl⟩, (hl1.push _)⟩
          (h0 _ (Heap.get?_push_of_some _ hS) old) ?_
        intro s' hm hC
        obtain ⟨h', g2, d', tk', os'⟩ := s'
        have eg : g2 = s.gens := hm.gens
        have ed : d' = s.drawn := hm.drawn
        have eo : os' = s.os := hm.os
        subst eg; subst ed; subst eo
        show wpAny _ _ _ _ _ _
        refine wpAny_pure ?_
        show wpAny _ _ (ret Value.none) _ _ _
        refine wpAny_pure ⟨rfl, h', tk', rfl, hC, fun b o e => ?_⟩
        have hb := Heap.lt_size e
        refine hm.heap b o ?_ (old b o e)
        rw [hsz]; simp only [List.mem_cons, List.not_mem_nil, or_false, not_or]
        exact ⟨Nat.ne_of_lt hb, Nat.ne_of_lt (Nat.lt_succ_of_lt hb)⟩
      · cases r₂ with
        | error e => exact hr₂
        | ok fl₂ =>
          cases fl₂ with
          | ret r =>
            obtain ⟨rfl, h', tk, rfl, hC, hk⟩ := hr₂
            repeat (any_goals (first | assumption | wp_step))
            exact h _ _ hC hk
          | _ => exact hr₂.elim
    | _ => exact hr.elim
end
end Wg

namespace Wg
open PySem PySem.Spec PyProof.Rows L2 SlX
section
variable {X : Cx} {W : WQ} {K : KC} {ρ : Pl} {H : Hp} {h : Store} {pos : Pos} {e : Expr} {es : List Expr} {ms : M (List PV)} {p0 : Pos}
/-- sorted(list of texts), any number of them -/
def rSortedL (K : PySem.W.Frag) : List V → Hp → VK → Prop := fun vs H Q => ∃ (a : Addr) (L : List (List Nat)), vs = [V.ref a] ∧ SqL K H a (L.map strV) ∧ ∀ p, H p = none → Q (.ref p) (upd H p (.lst ((isort ltL L).map strV)))
theorem cr_sortedL : CallR X (.builtin "sorted") (rSortedL X.K) := by
  intro pins s σ H vs us Q I r h
  obtain ⟨a, L, rfl, hs, q⟩ := h
  obtain ⟨its, rv, hl, hz⟩ := I.list hs
  rw [Vals.ref1 r]
  obtain ⟨hs1, hs2⟩ := vals_strs rv
  refine SrtO.sorted_ord (prog := X.prog) (ltv := fun v u => ltL (keyS (0, v)) (keyS (0, u))) (swo_ltL _) hl.isList (by rw [← rv.length]; exact hz) (fun h2 h1 a ha kk => tx1_sortable hs1 h2) fun out so sb => ?_
  have hS : ∀ v ∈ out, ∃ t, v = .str ⟨(keyS (0, v)).toArray⟩ t := fun v hv => hs1 v (sb.perm.mem_iff.mp hv)
  have e : out.map (fun v => keyS (0, v)) = isort ltL L := isortL_uniq (by rw [← hs2]; exact sb.perm.map _) (srtd_keys so)
  have hv : Vals ((isort ltL L).map strV) out := by rw [← e]; exact strs_vals hS
  have hlen : ((isort ltL L).map strV).length ≤ sizeLine := by
    rw [hv.length, sb.perm.length_eq, ← rv.length]; exact hz
  obtain ⟨n, hn⟩ := sortedAll_at s.heap its out.toArray
  have hk : ∀ b o, s.heap.get? b = some o → (sortedAll s.heap its out.toArray).get? b = some o := fun b o e => sortedAll_old e
  have hd : s.heap.objs.size ≤ s.heap.objs.size + 1 := Nat.le_succ _
  exact ⟨.ref (s.heap.objs.size + 1), upd H (s.heap.objs.size + 1) (.lst ((isort ltL L).map strV)), I.laid (t' := s.toks) hk hd ⟨hlen, out, n, hv, hn⟩, rfl, q _ (I.hok.fresh hd)⟩
/-! ### set, sorted, len over the layer -/
theorem RVs.strs : ∀ (L : List (List Nat)), RVs K ρ H (L.map .str) (L.map strV)
  | [] => rfl
  | x :: L => ⟨_, _, rfl, rfl, RVs.strs L⟩
theorem strsOf_eq {xs : List PV} {vs : List V} {L : List (List Nat)} (r : RVs K ρ H xs vs) (e : strsOf xs = some L) : vs = L.map strV := by
  rw [strsOf_at r e, List.map_map]; rfl
/-- set(tuple of texts) -/
def rSetTxT (K : PySem.W.Frag) (w : World) : List V → Hp → VK → Prop := fun vs H Q => ∃ (l : Addr) (ks : List (List Nat)), vs = [V.ref l] ∧ SqT K H l (ks.map strV) ∧ ks.length + 2 < scanBound ∧ ∀ p, H p = none → Q (.ref p) (upd H p (.ext (SetHo w p ((dedup ks).map strV))))
theorem addOk_tx {P : Program} {w : World} {A' : Around} {S : Addr} {ks : List (List Nat)} {its : List Value} (rv : Vals (ks.map strV) its) (hb : ks.length + 2 < scanBound) :
    AddOk P w A' S [S + 1] its.toArray.size (fun i v => its.toArray[i]? = some v) fun i h => TxSet w h S ((ks.take i).foldl addP []) := by
  have hsz : its.toArray.size = ks.length := by rw [List.size_toArray, ← rv.length, List.length_map]
  refine ⟨fun i h h' R k => R.at_ fun o e => k _ o (by simp only [List.mem_cons, List.not_mem_nil, or_false]; exact Nat.ne_of_lt (Nat.lt_succ_self _)) e, fun i v s' Q' E' hi hv R hQ => ?_⟩
  have hi' : i < ks.length := by rw [← hsz]; exact hi
  obtain ⟨u, hu, ru⟩ := rv.get (i := i) (x := strV ks[i]) (by simp [hi'])
  have e : v = u := by
    have e1 : its[i]? = some v := by simpa using hv
    rw [e1] at hu; exact Option.some.inj hu
  subst e
  obtain ⟨tk, rfl⟩ := ru
  unfold setAdd
  refine wpAny_holding (wpAny_bind ((PySem.strKind P w).pyHash (k := ⟨ks[i].toArray⟩) (strKind_is _ _ _ _) ?_))
  have hl := foldl_addP_len (ks.take i) ([] : List (List Nat))
  rw [List.length_take, List.length_nil] at hl
  refine tx_add_hashed (s := { s' with toks := s'.toks + 1 }) R (by omega) fun b h' sb R' => hQ b h' _ sb (Nat.le_succ _) ?_
  rw [List.take_add_one, List.getElem?_eq_getElem hi', List.foldl_append]
  exact R'
theorem cr_setTxT (hc : X.calm = true) : CallR X (.type "set") (rSetTxT X.K X.w) := by
  intro pins s σ H vs us Q I r h
  obtain ⟨l, ks, rfl, hl, hb, q⟩ := h
  obtain ⟨its, rv, pl, hz⟩ := I.tuple hl
  rw [Vals.ref1 r]
  have hn : H s.heap.objs.size = none := I.hok.fresh (Nat.le_refl _)
  have hsz : its.toArray.size = ks.length := by rw [List.size_toArray, ← rv.length, List.length_map]
  refine call_setT (P := X.prog) (C := fun i h => TxSet X.w h s.heap.objs.size ((ks.take i).foldl addP [])) (I.ok.hd hc) pl (fun h' e _ => TxSet.fresh e) (fun A' _ => addOk_tx rv hb) fun h' tk R k => ?_
  rw [hsz, List.take_length] at R
  exact ⟨.ref s.heap.objs.size, _, I.laid (t' := tk) k (Nat.le_refl _) (setHo_new R.ho), rfl, q _ hn⟩
def setOfP (xs : List PV) (h : Store) : R PV := match strsOf xs with
  | some L => if L.length < 4000 then .ok (.set ((dedup L).map .str)) h else .no
  | none => .no
def fSet (xs : List PV) (h : Store) : R PV := match xs with
  | [.tup ys] => setOfP ys h
  | [x] => match lstRd h x with
    | some ys => setOfP ys h
    | none => .no
  | _ => .no
def rSetB (K : PySem.W.Frag) (w : World) : List V → Hp → VK → Prop := fun vs H Q => rSetTx K w vs H Q ∨ rSetTxT K w vs H Q
theorem cr_set (hc : X.calm = true) : CallR X (.type "set") (rSetB X.K X.w) := (cr_setTx hc).or (cr_setTxT hc)
theorem new_set {w : World} (p : Rep K ρ h H) {a : Addr} (e : H a = none) {xs : List PV} {vs : List V} (r : RVs K ρ H xs vs) (hw : K.w = w) :
    Ext ρ H ρ (upd H a (.ext (SetHo w a vs))) ∧ Rep K ρ h (upd H a (.ext (SetHo w a vs))) ∧ RV K ρ (upd H a (.ext (SetHo w a vs))) (.set xs) (.ref a) := by
  obtain ⟨x, q⟩ := p.new e (.ext (SetHo w a vs))
  subst hw
  exact ⟨x, q, a, vs, rfl, ⟨p.fresh e, upd_same⟩, RVs.ext x _ _ r⟩
theorem cx_set : CallX X W fSet (rSetB X.K X.w) := by
  intro ρ h σ H xs vs Q p r o
  have fin : ∀ {L : List (List Nat)}, Out (kc X W) ρ H (RV (kc X W)) (fun c d H' => W c d σ H') (.ok (.set ((dedup L).map .str)) h) Q → ∀ a, H a = none → Q (.ref a) (upd H a (.ext (SetHo X.w a ((dedup L).map strV)))) := fun {L} o a ha => by
    obtain ⟨x', p', r'⟩ := new_set (w := X.w) p ha (RVs.strs (K := kc X W) (ρ := ρ) (H := H) (dedup L)) rfl
    exact o ρ _ _ x' p' r'
  unfold fSet at o
  split at o
  next ys =>
    obtain ⟨v, e, r1⟩ := rvs1 r
    obtain ⟨a, ws, e2, t, rs⟩ := tup_at r1
    unfold setOfP at o
    split at o
    next L q =>
      obtain ⟨c, o⟩ := out_if o
      have ew := strsOf_eq rs q
      subst ew
      exact .inr ⟨a, L, by rw [e, e2], t, by unfold scanBound; omega, fin o⟩
    next => exact o.elim
  next x _ =>
    obtain ⟨v, e, r1⟩ := rvs1 r
    split at o
    next ys q0 =>
      obtain ⟨a, ws, e2, t, rs⟩ := lstRd_at p r1 q0
      unfold setOfP at o
      split at o
      next L q =>
        obtain ⟨c, o⟩ := out_if o
        have ew := strsOf_eq rs q
        subst ew
        exact .inl ⟨a, L, by rw [e, e2], t, by unfold scanBound; omega, fin o⟩
      next => exact o.elim
    next => exact o.elim
  next => exact o.elim
theorem xe_set (hc : X.calm = true) (hm : X.mg "set" = none) (ha : XA X W (e :: es) ms) (hg : Gl X "set" := by rfl) (he : starEach (e :: es) X.env = (false, eval e X.env) :: starEach es X.env := by rfl) (hpl : (backTo pos (starEach es X.env)).any (·.1) = false := by rfl) :
    XE X W (.Call (.Name "set" p0) (e :: es) [] pos) (mCall fSet ms) := xe_callTy (cr_set hc) cx_set hm PyProof.Rows.boot_set ha hg (by decide) (by decide) he hpl
/-- texts, or tuples of texts, in their order -/
def sortP (xs : List PV) : Option (List PV) := match strsOf xs with
  | some L => some ((isort ltL L).map .str)
  | none => if xs.all (fun x => match txOf x with | some (_ :: _) => true | _ => false) = true then some (isort ltP2 xs) else none
def fSorted (xs : List PV) (h : Store) : R PV := match xs with
  | [.set ys] => match strsOf ys with
    | some L => .ok (.lst ((isort ltL L).map .str)) h
    | none => .no
  | [x] => match lstRd h x with
    | some ys => match sortP ys with
      | some zs => .ok (.lst zs) h
      | none => .no
    | none => .no
  | _ => .no
def rSortedA (K : PySem.W.Frag) (w : World) : List V → Hp → VK → Prop := fun vs H Q => rSortedL K vs H Q ∨ rSortedTx K vs H Q ∨ rSortedSX w vs H Q
theorem cr_sortedA (hc : X.calm = true) : CallR X (.builtin "sorted") (rSortedA X.K X.w) := cr_sortedL.or (cr_sortedTx.or (cr_sortedSX hc))
theorem cx_sorted : CallX X W fSorted (rSortedA X.K X.w) := by
  intro ρ h σ H xs vs Q p r o
  unfold fSorted at o
  split at o
  next ys =>
    obtain ⟨v, e, r1⟩ := rvs1 r
    split at o
    next L q =>
      obtain ⟨a, ws, e2, t, rs⟩ := r1
      have ew := strsOf_eq rs q
      subst ew
      refine .inr (.inr ⟨a, L, by rw [e, e2], t.2, fun b hb => ?_⟩)
      obtain ⟨x', p', r'⟩ := new_lst p hb (RVs.strs (K := kc X W) (ρ := ρ) (H := H) (isort ltL L))
      exact o ρ _ _ x' p' r'
    next => exact o.elim
  next x _ =>
    obtain ⟨v, e, r1⟩ := rvs1 r
    split at o
    next ys q0 =>
      obtain ⟨a, ws, e2, t, rs⟩ := lstRd_at p r1 q0
      split at o
      next zs q1 =>
        unfold sortP at q1
        split at q1
        next L q =>
          cases q1
          have ew := strsOf_eq rs q
          subst ew
          refine .inl ⟨a, L, by rw [e, e2], t, fun b hb => ?_⟩
          obtain ⟨x', p', r'⟩ := new_lst p hb (RVs.strs (K := kc X W) (ρ := ρ) (H := H) (isort ltL L))
          exact o ρ _ _ x' p' r'
        next nq =>
          split at q1
          next c =>
            cases q1
            have hs : ∀ y ∈ ys, ∃ x l, txOf y = some (x :: l) := fun y hy => by
              have c' := List.all_eq_true.mp c y hy
              split at c'
              next x l q => exact ⟨x, l, q⟩
              next => cases c'
            have hS : ∀ y ∈ ys, (txOf y).isSome = true := fun y hy => by
              obtain ⟨x, l, q⟩ := hs y hy
              rw [q]; rfl
            refine .inr (.inl ⟨a, ws, by rw [e, e2], t, ?_, fun b hb => ?_⟩)
            · clear o c hS q0 t e2 r1 nq
              induction ys generalizing ws with
              | nil => intro z hz; rw [show ws = [] from rs] at hz; cases hz
              | cons y ys ih =>
                obtain ⟨u, us, e1, h1, h2⟩ := rs
                subst e1
                intro z hz
                rcases List.mem_cons.mp hz with hz | hz
                · subst hz
                  obtain ⟨x, l, q⟩ := hs y List.mem_cons_self
                  obtain ⟨t, k1, k2, k3⟩ := txOf_at h1 q
                  exact ⟨by rw [k3]; exact List.cons_ne_nil _ _, t, k1, by rw [k3]; exact k2⟩
                · exact ih _ h2 (fun y hy => hs y (List.mem_cons_of_mem _ hy)) z hz
            · obtain ⟨x', p', r'⟩ := new_lst p hb (RVs.isort rs hS)
              exact o ρ _ _ x' p' r'
          next => cases q1
      next => exact o.elim
    next => exact o.elim
  next => exact o.elim
theorem xe_sorted (hc : X.calm = true) (hm : X.mg "sorted" = none) (ha : XA X W (e :: es) ms) (hg : Gl X "sorted" := by rfl) (he : starEach (e :: es) X.env = (false, eval e X.env) :: starEach es X.env := by rfl) (hpl : (backTo pos (starEach es X.env)).any (·.1) = false := by rfl) :
    XE X W (.Call (.Name "sorted" p0) (e :: es) [] pos) (mCall fSorted ms) := xe_callB (cr_sortedA hc) cx_sorted hm PyProof.Rows.boot_sorted ha hg (by decide) (by decide) he hpl
/-- len, of sets too -/
def fLenB (xs : List PV) (h : Store) : R PV := match xs with
  | [.set ys] => .ok (.int ys.length) h
  | _ => fLenA xs h
theorem cx_lenB : CallX X W fLenB (fun vs H Q => rLenA X.K vs H Q ∨ rLenSet X.w vs H Q) := by
  intro ρ h σ H xs vs Q p r o
  unfold fLenB at o
  split at o
  next ys =>
    obtain ⟨v, e, a, ws, e2, t, rs⟩ := rvs1 r
    exact .inr ⟨a, ws, by rw [e, e2], t.2, by rw [← rs.len]; exact o.ok p rfl⟩
  next => exact .inl (cx_lenA ρ h σ H _ vs Q p r o)
theorem xe_lenB (hm : X.mg "len" = none) (ha : XA X W (e :: es) ms) (hg : Gl X "len" := by rfl) (he : starEach (e :: es) X.env = (false, eval e X.env) :: starEach es X.env := by rfl) (hpl : (backTo pos (starEach es X.env)).any (·.1) = false := by rfl) :
    XE X W (.Call (.Name "len" p0) (e :: es) [] pos) (mCall fLenB ms) := xe_callB (cr_lenA.or cr_lenSet) cx_lenB hm boot_len ha hg (by decide) (by decide) he hpl
end
end Wg

namespace Wg
open PySem PySem.Spec PyProof.Rows L2 SlX
section
variable {X : Cx} {W : WQ} {K : KC} {ρ : Pl} {H : Hp} {h : Store} {pos : Pos} {e : Expr} {m : M PV}
/-! ### walking a dict that nobody changes: it is locked for good -/
/-- locked, if it is not -/
theorem Inv.lockR {pins : List (Addr × Obj)} {σ : L2.St} {s : Shared} {d : Addr} {u : HO} (I : Inv X pins σ H s) (h : Rd H d u) (mu : Mut (some u)) :
    (∃ od, H d = some (.frz od u) ∧ Inv X pins σ H s) ∨ (H d = some u ∧ ∃ od, Inv X pins σ (upd H d (.frz od u)) s) := by
  rcases h with h | ⟨o, h⟩
  · exact .inr ⟨h, I.lock h mu⟩
  · exact .inl ⟨o, h, I⟩
/-- H, with d locked -/
def lockH (H : Hp) (d : Addr) (o : Obj) (u : HO) (H' : Hp) : Prop := (H' = H ∧ H d = some (.frz o u)) ∨ (H' = upd H d (.frz o u) ∧ H d = some u)
def iKeysL (td : TE) : TI := fun σ H R => td σ H fun x H1 => ∃ d, x = .ref d ∧ ((∃ kvs, Rd H1 d (.dK kvs) ∧ ∀ o H', lockH H1 d o (.dK kvs) H' → R (Itk d o kvs) H') ∨ ∃ kvs, Rd H1 d (.dT kvs) ∧ ∀ o H', lockH H1 d o (.dT kvs) H' → R (Itkt d o kvs) H')
theorem pi_keysL {tg e : Expr} {td : TE} (he : PE X e td) : PI X tg e (iKeysL td) := by
  refine ⟨fun pins s σ H R I h => ?_⟩
  refine thn (he.run pins s σ H _ I h) fun u s1 ⟨x, H1, I1, rx, d, ex, q⟩ => ?_
  subst ex
  obtain rfl : u = Value.ref d := rx
  rcases q with ⟨kvs, hd, q⟩ | ⟨kvs, hd, q⟩
  · have key : ∀ o H', Inv X pins σ H' s1 → H' d = some (.frz o (.dK kvs)) → R (Itk d o kvs) H' → wpAny (model X.prog X.w) X.A (pyIter (.ref d)) (PIE X pins σ tg R) X.xe s1 := fun o H' I2 hf q2 => by
      obtain ⟨hs, hgd, hx, es, ep, vs, hdt, hsz, kv, hm⟩ := I2.frzK hf
      refine iter_keys hs hgd hx hdt (pi_one (tk := s1.toks) I2 _ (turn_keys _ hdt) ⟨_, Heap.get?_push_size _ rfl, rfl, ?_⟩ q2)
      rw [hsz] <;> rfl
    rcases Inv.lockR I1 hd trivial with ⟨o, hf, I2⟩ | ⟨hf, o, I2⟩
    · exact key o _ I2 hf (q o _ (.inl ⟨rfl, hf⟩))
    · exact key o _ I2 upd_same (q o _ (.inr ⟨rfl, hf⟩))
  · have key : ∀ o H', Inv X pins σ H' s1 → H' d = some (.frz o (.dT kvs)) → R (Itkt d o kvs) H' → wpAny (model X.prog X.w) X.A (pyIter (.ref d)) (PIE X pins σ tg R) X.xe s1 := fun o H' I2 hf q2 => by
      obtain ⟨hs, hgd, hx, es, ep, hdt, hsz, ent⟩ := I2.frzT hf
      refine iter_keys hs hgd hx hdt (pi_one (tk := s1.toks) I2 _ (turn_keysT _ hdt) ⟨_, Heap.get?_push_size _ rfl, rfl, ?_⟩ q2)
      rw [hsz] <;> rfl
    rcases Inv.lockR I1 hd trivial with ⟨o, hf, I2⟩ | ⟨hf, o, I2⟩
    · exact key o _ I2 hf (q o _ (.inl ⟨rfl, hf⟩))
    · exact key o _ I2 upd_same (q o _ (.inr ⟨rfl, hf⟩))
/-- a lock is an Ext, and the store still stands -/
theorem lockH.ext {d : Addr} {o : Obj} {u : HO} {H' : Hp} (p : Rep K ρ h H) (du : IsDct u) (nd : ¬ ρ.has d) (x : lockH H d o u H') : Ext ρ H ρ H' ∧ Rep K ρ h H' ∧ H' d = some (.frz o u) := by
  rcases x with ⟨e, hf⟩ | ⟨e, hf⟩
  · subst e; exact ⟨Ext.refl _ _, p, hf⟩
  · subst e
    have su : ¬ Stiff u := fun z => by cases u <;> first | exact du.elim | exact z.elim
    have x : Ext ρ H ρ (upd H d (.frz o u)) := by
      refine ⟨⟨[], by simp, by simp⟩, rfl, fun b v hb st q => ?_, fun b v hb q => ?_⟩
      · rw [upd_ne (fun z => ?_)]; exact q
        subst z
        rcases st with st | st
        · exact nd (.inr st)
        · rw [hf] at q; cases q; exact su st
      · by_cases z : b = d
        · subst z
          rw [hf] at q; cases q
          exact .inr ⟨du, o, upd_same⟩
        · exact .inl (by rw [upd_ne z]; exact q)
    refine ⟨x, ⟨p.len, p.nd, fun i ce a e1 e2 => ?_, fun q hq => ?_, p.dj⟩, upd_same⟩
    · have ne : ∀ b, b ∈ ρ.c → b ≠ d := fun b hb z => nd (.inl (z ▸ hb))
      exact RC.kp x.kp (upd_ne (ne _ (List.mem_of_getElem? e2))) (fun j dx g1 g2 => ⟨g1, upd_ne (ne _ (List.mem_of_getElem? g2))⟩) (p.at_ i ce a e1 e2)
    · obtain ⟨v, hv⟩ := p.hid q hq
      have ne : q ≠ d := fun z => nd (.inr (z ▸ hq))
      exact ⟨v, by rw [upd_ne ne]; exact hv⟩
theorem RVd.get {kvs : List (PV × PV)} : ∀ {vs : List (Key × V)} {i : Nat}, RVd K ρ H kvs vs → i < kvs.length → ∃ k x c v, kvs[i]? = some (k, x) ∧ vs[i]? = some (c, v) ∧ keyP k = some c ∧ RV K ρ H x v := by
  induction kvs with
  | nil => intro vs i _ hi; simp at hi
  | cons kv kvs ih =>
    intro vs i r hi
    obtain ⟨k, x⟩ := kv
    obtain ⟨c, v, r', e1, e2, h1, h2⟩ := r
    subst e1
    cases i with
    | zero => exact ⟨k, x, c, v, rfl, rfl, e2, h1⟩
    | succ i => exact ih h2 (by simpa using hi)
theorem RVt.get {kvs : List (PV × PV)} : ∀ {vs : List (List Key × V)} {i : Nat}, RVt K ρ H kvs vs → i < kvs.length → ∃ k x c v, kvs[i]? = some (k, x) ∧ vs[i]? = some (c, v) ∧ keyT k = some c ∧ RV K ρ H x v := by
  induction kvs with
  | nil => intro vs i _ hi; simp at hi
  | cons kv kvs ih =>
    intro vs i r hi
    obtain ⟨k, x⟩ := kv
    obtain ⟨c, v, r', e1, e2, h1, h2⟩ := r
    subst e1
    cases i with
    | zero => exact ⟨k, x, c, v, rfl, rfl, e2, h1⟩
    | succ i => exact ih h2 (by simpa using hi)
/-- a key is the value -/
theorem keyP_back {k : PV} {c : Key} (e : keyP k = some c) : RV K ρ H k (kV c) := by
  cases k with
  | int i => cases e; rfl
  | str x => cases e; rfl
  | _ => cases e
theorem keysP_back : ∀ {ks : List PV} {cs : List Key}, keysP ks = some cs → RVs K ρ H ks (cs.map kV)
  | [], _, e => by cases e; rfl
  | k :: ks, _, e => by
    simp only [keysP, Option.bind_eq_some_iff, Option.map_eq_some_iff] at e
    obtain ⟨c, e1, cs, e2, rfl⟩ := e
    exact ⟨_, _, rfl, keyP_back e1, keysP_back e2⟩
theorem keyT_back {k : PV} {c : List Key} (e : keyT k = some c) {q : Addr} (nq : ¬ ρ.has q) (hq : H q = some (.tup (c.map kV))) : RV K ρ H k (.ref q) := by
  cases k with
  | tup xs => exact ⟨q, _, rfl, ⟨nq, hq⟩, keysP_back e⟩
  | _ => cases e
def mItD (m : M PV) : M (List PV) := fun l h => (m l h).bind fun x h1 => match x with
  | .dct kvs => .ok (kvs.map (·.1)) h1
  | _ => .no
theorem xi_keys {tg : Expr} (he : XE X W e m) : XI X W tg e (mItD m) := pi_weak (pi_keysL he) fun σ H R ⟨ρ, h, l, p, rl, o⟩ =>
  ⟨ρ, h, l, p, rl, Out.mono (Out.bind o) fun v H1 ⟨x, h1, ρ1, e1, p1, r1, o1⟩ => by
    cases x with
    | dct kvs =>
      obtain ⟨d, vs, e2, t, rs⟩ := r1
      refine ⟨d, e2, .inl ⟨vs, t.2, fun ob H' lk => ?_⟩⟩
      obtain ⟨x2, p2, hf⟩ := lk.ext p1 (show IsDct (.dK vs) from trivial) t.1
      have nd : ¬ ρ1.has d := t.1
      have at_ : ∀ ρ' H2, Kp ρ1 H' ρ' H2 → H2 d = some (.frz ob (.dK vs)) := fun ρ' H2 a => (a.at_ (o := .frz ob (.dK vs)) trivial nd hf).2
      refine o1 ρ1 H' _ x2 p2 ⟨fun i ρ' h' H2 a _ hi => ⟨at_ _ _ a, by rw [← rs.len]; simpa using hi⟩, fun i ρ' h' H2 a _ hi => ⟨at_ _ _ a, by rw [← rs.len]; simpa using hi⟩, fun i ρ' h' H2 y x H3 a p' ey yl => ?_⟩
      obtain ⟨e3, k, v, hk, ex⟩ := yl
      subst e3
      rw [List.getElem?_map] at ey
      cases q : kvs[i]? with
      | none => rw [q] at ey; cases ey
      | some kv =>
        rw [q] at ey
        cases ey
        obtain ⟨k', x', c, v', g1, g2, g3, _⟩ := RVd.get rs (List.getElem?_eq_some_iff.mp q).1
        rw [q] at g1; cases g1
        rw [hk] at g2; cases g2
        rw [ex]
        exact ⟨Ext.refl _ _, p', keyP_back g3⟩
    | _ => exact o1.elim⟩
end
end Wg

namespace Wg
open PySem PySem.Spec PyProof.Rows L2 SlX
section
variable {X : Cx} {W : WQ}
/-! ### list.count of texts -/
def eqTx (k : List Nat) (v : Value) : Bool := match v with
  | .str x _ => decide (x = ⟨k.toArray⟩)
  | _ => false
def rCntTx (K : PySem.W.Frag) : V → List V → Hp → VK → Prop := fun x xs H Q => ∃ (p : Addr) (L : List (List Nat)) (k : List Nat), x = .ref p ∧ xs = [strV k] ∧ SqL K H p (L.map strV) ∧ Q (.int (L.count k : Nat)) H
theorem eqTx_count {k : List Nat} : ∀ {L : List (List Nat)} {us : List Value}, Vals (L.map strV) us → us.countP (eqTx k) = L.count k
  | [], _, r => by cases r; rfl
  | x :: L, _, r => by
    cases r with
    | cons h t =>
      obtain ⟨tk, rfl⟩ := h
      have ih := eqTx_count (k := k) t
      rw [List.countP_cons, List.count_cons, ih]
      have e : eqTx k (.str ⟨x.toArray⟩ tk) = (x == k) := by
        show decide ((⟨x.toArray⟩ : Str) = ⟨k.toArray⟩) = (x == k)
        by_cases z : x = k
        · subst z; simp
        · rw [decide_eq_false (fun q => z (by injection q with q; injection q))]; simp [z]
      rw [e]
theorem mt_cntTx : MtR X "list.count" (rCntTx X.K) := by
  intro pins s σ H x xs v us Q I rx rxs h
  obtain ⟨p, L, k, rfl, rfl, hs, q⟩ := h
  cases rx
  obtain ⟨u, rfl, ru⟩ := rxs.one
  obtain ⟨t, rfl⟩ := ru
  obtain ⟨its, rv, ⟨⟨cls, dd, data, sl⟩, n, ho, hc, hdn, hd⟩, hlen⟩ := I.list hs
  simp only at hc hd
  subst hc hd
  have hi := vals_strs rv
  refine call_meets PySem.F.slot_list_count ⟨_, ho, rfl⟩ PySem.F.entry_list_count (PySem.F.args_list_count_2 _ _)
    (SeqAt.list_countAt p its.toArray n dd sl (.str ⟨k.toArray⟩ t) (eqTx k)) ⟨ho, fun y hy => ?_, ?_⟩
  · obtain ⟨t', e⟩ := hi.1 y (by simpa using hy)
    rw [e]
    exact SeqAt.EqAt.str_str _ t' _ t
  · have ec : its.toArray.toList.countP (eqTx k) = L.count k := eqTx_count rv
    refine ⟨.int (L.count k : Nat), H, I.tok _, ⟨s.toks, ?_⟩, q⟩
    show Value.int ((its.toArray.toList.countP (eqTx k) : Nat) : Int) s.toks = Value.int ((L.count k : Nat) : Int) s.toks
    rw [ec]
def fCount (x : PV) (ys : List PV) (h : Store) : R PV := match ys with
  | [.str k] => match lstRd h x with
    | some xs => match strsOf xs with
      | some L => .ok (.int (L.count k : Nat)) h
      | none => .no
    | none => .no
  | _ => .no
theorem mx_count : MtX X W fCount (rCntTx X.K) := by
  intro ρ h σ H x xs v vs Q p rx rs o
  unfold fCount at o
  split at o
  next k =>
    split at o
    next ys q =>
      split at o
      next L q2 =>
        obtain ⟨a, ws, e1, t, r1⟩ := lstRd_at p rx q
        obtain ⟨u, e4, r2⟩ := rvs1 rs
        have ew := strsOf_eq r1 q2
        subst ew
        exact ⟨a, L, k, e1, by rw [e4, show u = _ from r2], t, o.ok p rfl⟩
      next => exact o.elim
    next => exact o.elim
  next => exact o.elim
variable {a e : Expr} {es : List Expr} {ma : M PV} {ms : M (List PV)} {p0 pos : Pos}
theorem xe_count (ho : XE X W a ma) (ha : XA X W (e :: es) ms) (hbase : attributeBase a "count" X.env (eval a X.env) = eval a X.env := by rfl)
    (hfew : ((backTo pos (starEach (e :: es) X.env)).all (fun x => !x.1) && (backToKw pos (keywordEach [] X.env)).all (fun x => x.1.isSome) && decide ((e :: es).length + ([] : List Keyword).length + (if ([] : List Keyword).isEmpty then 0 else 1) < 30)) = true := by rfl)
    (hline : (p0.endLine == pos.line) = true := by rfl) (hs : starEach (e :: es) X.env = (false, eval e X.env) :: starEach es X.env := by rfl) (hplain : (backTo pos (starEach es X.env)).any (·.1) = false := by rfl) :
    XE X W (.Call (.Attribute a "count" p0) (e :: es) [] pos) (mMeth "list" fCount ma ms) := xe_bm PySem.F.plainAttrs_list PySem.F.slot_list_count PySem.F.type_list_count mt_cntTx mx_count ho ha hbase hfew hline hs hplain
end
end Wg

namespace Wg
open PySem PySem.Spec PyProof.Rows L2 SlX
section
variable {X : Cx} {W : WQ} {K : KC} {ρ : Pl} {H : Hp} {h : Store} {pos : Pos} {e : Expr} {es : List Expr} {ms : M (List PV)} {p0 : Pos}
/-! ### dict(list of pairs) -/
def pairP : PV → Option (PV × PV)
  | .tup [k, x] => if (keyP k).isSome = true then some (k, x) else none
  | _ => none
def pairsP (xs : List PV) : Option (List (PV × PV)) := mapO pairP xs
def putAll (acc kvs : List (PV × PV)) : List (PV × PV) := kvs.foldl (fun acc kv => putP acc kv.1 kv.2) acc
theorem pairs_at : ∀ {ys : List PV} {ws : List V} {kvs : List (PV × PV)}, RVs K ρ H ys ws → pairsP ys = some kvs → ∃ (ps : List Addr) (cs : List (Key × V)), ws = ps.map V.ref ∧ Paired (fun p kv => SqT K H p [kV kv.1, kv.2]) ps cs ∧
    ∀ {acc : List (PV × PV)} {ac : List (Key × V)}, RVd K ρ H acc ac → RVd K ρ H (putAll acc kvs) (mergeK ac cs)
  | [], _, _, r, e => by cases e; exact ⟨[], [], r, .nil, fun q => q⟩
  | y :: ys, _, _, ⟨v, ws, e1, h1, h2⟩, e => by
    subst e1
    simp only [pairsP, Wg.mapO, Option.bind_eq_some_iff, Option.map_eq_some_iff] at e
    obtain ⟨⟨k, x⟩, e2, kvs, e3, rfl⟩ := e
    obtain ⟨ps, cs, g1, g2, g3⟩ := pairs_at h2 e3
    unfold pairP at e2
    split at e2
    next k' x' =>
      split at e2
      next c =>
        cases e2
        obtain ⟨a, us, e4, t, rs⟩ := h1
        obtain ⟨u1, r1, e5, k1, k2⟩ := rs
        obtain ⟨u2, r2, e6, k3, k4⟩ := k2
        obtain ⟨ck, hc⟩ := Option.isSome_iff_exists.mp c
        have e7 := keyP_kV hc k1
        refine ⟨a :: ps, (ck, u2) :: cs, by rw [e4, g1]; rfl, .cons ?_ g2, fun {acc ac} q => g3 (q.put hc k3)⟩
        have := t.sq
        rw [e5, e6, show r2 = [] from k4, e7] at this
        exact this
      next => cases e2
    next => cases e2
theorem new_dct (p : Rep K ρ h H) {a : Addr} (e : H a = none) {kvs : List (PV × PV)} {vs : List (Key × V)} (r : RVd K ρ H kvs vs) :
    Ext ρ H ρ (upd H a (.dK vs)) ∧ Rep K ρ h (upd H a (.dK vs)) ∧ RV K ρ (upd H a (.dK vs)) (.dct kvs) (.ref a) := by
  obtain ⟨x, q⟩ := p.new e (.dK vs)
  exact ⟨x, q, a, vs, rfl, ⟨p.fresh e, .inl upd_same⟩, RVd.ext x _ _ r⟩
def fDictP (xs : List PV) (h : Store) : R PV := match xs with
  | [x] => match lstRd h x with
    | some ys => match pairsP ys with
      | some kvs => .ok (.dct (putAll [] kvs)) h
      | none => .no
    | none => .no
  | _ => .no
theorem cx_dictP : CallX X W fDictP (fun xs H Q => ∃ (a : Addr) (ps : List Addr) (kvs : List (Key × V)), xs = [.ref a] ∧ SqL X.K H a (ps.map V.ref) ∧ Paired (fun p kv => SqT X.K H p [kV kv.1, kv.2]) ps kvs ∧
    ∀ p, H p = none → Q (.ref p) (upd H p (.dK (mergeK [] kvs)))) := by
  intro ρ h σ H xs vs Q p r o
  unfold fDictP at o
  split at o
  next x =>
    obtain ⟨v, e, r1⟩ := rvs1 r
    split at o
    next ys q =>
      obtain ⟨a, ws, e2, t, rs⟩ := lstRd_at p r1 q
      split at o
      next kvs q2 =>
        obtain ⟨ps, cs, g1, g2, g3⟩ := pairs_at rs q2
        refine ⟨a, ps, cs, by rw [e, e2], by rw [← g1]; exact t, g2, fun b hb => ?_⟩
        obtain ⟨x', p', r'⟩ := new_dct p hb (g3 (acc := []) (ac := []) rfl)
        exact o ρ _ _ x' p' r'
      next => exact o.elim
    next => exact o.elim
  next => exact o.elim
theorem xe_dictP (hc : X.calm = true) (hm : X.mg "dict" = none) (ha : XA X W (e :: es) ms) (hg : Gl X "dict" := by rfl) (he : starEach (e :: es) X.env = (false, eval e X.env) :: starEach es X.env := by rfl) (hpl : (backTo pos (starEach es X.env)).any (·.1) = false := by rfl) :
    XE X W (.Call (.Name "dict" p0) (e :: es) [] pos) (mCall fDictP ms) := xe_callTy (call_dictP hc) cx_dictP hm PyProof.Rows.boot_dict ha hg (by decide) (by decide) he hpl
end
end Wg

namespace Wg
open PySem PySem.Spec PyProof.Rows L2 SlX
section
variable {X : Cx} {W : WQ} {K : KC} {ρ : Pl} {H : Hp} {h : Store} {pos : Pos} {e : Expr} {es : List Expr} {ms : M (List PV)} {p0 : Pos}
/-! ### sorted(dict): its keys -/
theorem rising_le : ∀ (x : Str) (r : List Str), risingS x r = true → ∀ y ∈ r, ltL y.cps.toList x.cps.toList = false
  | _, [], _, y, hy => by cases hy
  | p, x :: r, h, y, hy => by
    rw [risingS, Bool.and_eq_true] at h
    have h1 : ltL x.cps.toList p.cps.toList = false := by
      have q := h.1
      rw [Bool.not_eq_true'] at q
      unfold ltL
      rw [← ltCps_eq]; exact q
    rcases List.mem_cons.mp hy with z | z
    · rw [z]; exact h1
    · exact swo_l.2 _ _ _ h1 (rising_le x r h.2 y z)
theorem sortedS_srtd : ∀ (ys : List Str), sortedS ys = true → SrtO.Srtd ltL (ys.map fun y => y.cps.toList)
  | [], _ => List.Pairwise.nil
  | x :: r, h => by
    refine List.pairwise_cons.mpr ⟨fun z hz => ?_, sortedS_srtd r ?_⟩
    · obtain ⟨y, hy, rfl⟩ := List.mem_map.mp hz
      exact rising_le x r h y hy
    · cases r with
      | nil => rfl
      | cons y r =>
        have h : risingS x (y :: r) = true := h
        rw [risingS, Bool.and_eq_true] at h
        exact h.2
/-- the keys, all texts -/
def keysTx (kvs : List (PV × PV)) : Option (List (List Nat)) := strsOf (kvs.map (·.1))
theorem keysTx_at : ∀ {kvs : List (PV × PV)} {vs : List (Key × V)} {L : List (List Nat)}, RVd K ρ H kvs vs → keysTx kvs = some L → vs.map (·.1) = (L.map fun x => (⟨x.toArray⟩ : Str)).map Sum.inr
  | [], _, _, r, e => by rw [show _ = [] from r]; cases e; rfl
  | (k, x) :: kvs, _, L, ⟨c, v, r, e1, e2, h1, h2⟩, e => by
    subst e1
    cases k with
    | str z =>
      unfold keysTx at e
      simp only [List.map_cons, strsOf, Option.map_eq_some_iff] at e
      obtain ⟨L', e3, rfl⟩ := e
      have ih := keysTx_at h2 e3
      cases e2
      rw [List.map_cons, List.map_cons, List.map_cons, ih]
    | _ => unfold keysTx at e; simp [strsOf] at e
def dctK (h : Store) : PV → Option (List (PV × PV))
  | .dct kvs => some kvs
  | .ref i => match h[i]? with
    | some (.dct kvs) => some kvs
    | _ => none
  | _ => none
theorem dctK_at (p : Rep K ρ h H) {x : PV} {v : V} {kvs : List (PV × PV)} (r : RV K ρ H x v) (e : dctK h x = some kvs) : ∃ a vs, v = .ref a ∧ Rd H a (.dK vs) ∧ RVd K ρ H kvs vs := by
  cases x with
  | dct ks =>
    cases e
    obtain ⟨a, vs, e1, t, rs⟩ := r
    exact ⟨a, vs, e1, t.2, rs⟩
  | ref i =>
    obtain ⟨a, e1, e2⟩ := r
    simp only [dctK] at e
    cases q : h[i]? with
    | none => rw [q] at e; cases e
    | some c =>
      rw [q] at e
      have rc := p.at_ i c a q e1
      cases c with
      | dct ks =>
        cases e
        obtain ⟨vs, q1, rs⟩ := rc
        exact ⟨a, vs, e2, .inl q1, rs⟩
      | _ => cases e
  | _ => cases e
/-- sorted, of dicts of texts too -/
def fSortB (xs : List PV) (h : Store) : R PV := match xs with
  | [x] => match dctK h x with
    | some kvs => match keysTx kvs with
      | some L => if L.length < 64 then .ok (.lst ((isort ltL L).map .str)) h else .no
      | none => .no
    | none => fSorted [x] h
  | _ => .no
theorem cx_sortB : CallX X W fSortB (fun xs H Q => rSortedA X.K X.w xs H Q ∨ ∃ (a : Addr) (kvs : List (Key × V)) (ks : List Str), xs = [.ref a] ∧ Rd H a (.dK kvs) ∧ kvs.map (·.1) = ks.map Sum.inr ∧ ks.length < 64 ∧
    ∀ ys p, ys.Perm ks → sortedS ys = true → H p = none → Q (.ref p) (upd H p (.lst (ys.map V.str)))) := by
  intro ρ h σ H xs vs Q p r o
  unfold fSortB at o
  split at o
  next x =>
    split at o
    next kvs q =>
      obtain ⟨v, e, r1⟩ := rvs1 r
      obtain ⟨a, ws, e2, t, rs⟩ := dctK_at p r1 q
      split at o
      next L q2 =>
        obtain ⟨c, o⟩ := out_if o
        refine .inr ⟨a, ws, L.map fun x => ⟨x.toArray⟩, by rw [e, e2], t, keysTx_at rs q2, by rw [List.length_map]; exact c, fun ys b pm so hb => ?_⟩
        have e3 : (ys.map fun y => y.cps.toList) = isort ltL L := isortL_uniq (by
          have z := pm.map fun y : Str => y.cps.toList
          rw [List.map_map] at z
          have e4 : L.map ((fun y : Str => y.cps.toList) ∘ fun x => (⟨x.toArray⟩ : Str)) = L := by
            rw [show ((fun y : Str => y.cps.toList) ∘ fun x => (⟨x.toArray⟩ : Str)) = id from funext fun x => rfl, List.map_id]
          rw [e4] at z; exact z) (sortedS_srtd ys so)
        have e5 : ys.map V.str = (isort ltL L).map strV := by
          rw [← e3, List.map_map]; rfl
        rw [e5]
        obtain ⟨x', p', r'⟩ := new_lst p hb (RVs.strs (K := kc X W) (ρ := ρ) (H := H) (isort ltL L))
        exact o ρ _ _ x' p' r'
      next => exact o.elim
    next => exact .inl (cx_sorted ρ h σ H _ vs Q p r o)
  next => exact o.elim
theorem xe_sortB (hc : X.calm = true) (hm : X.mg "sorted" = none) (ha : XA X W (e :: es) ms) (hg : Gl X "sorted" := by rfl) (he : starEach (e :: es) X.env = (false, eval e X.env) :: starEach es X.env := by rfl) (hpl : (backTo pos (starEach es X.env)).any (·.1) = false := by rfl) :
    XE X W (.Call (.Name "sorted" p0) (e :: es) [] pos) (mCall fSortB ms) := xe_callB ((cr_sortedA hc).or (call_sortedD hc)) cx_sortB hm PyProof.Rows.boot_sorted ha hg (by decide) (by decide) he hpl
end
end Wg

namespace Wg
open PySem PySem.Spec PyProof.Rows L2 SlX
section
variable {K : PySem.W.Frag} {mg : Str → Option Value} {X : Cx} {W : WQ}
/-! ### what a clause catches, told by a table -/
theorem catch_nil {c : Value} : Catch K mg c (ctOf []) := fun x b e => by
  cases x <;> first | (cases e; done) | (simp [ctOf] at e)
theorem catch_cons {c : Value} {n : Str} {E : Addr} {b : Bool} {t : List (Str × Bool)} (hn : mg n = some (.ref E)) (q : PySem.W.exmOne K (.ref E) c = some b) (r : Catch K mg c (ctOf t)) : Catch K mg c (ctOf ((n, b) :: t)) := fun x b' e v h => by
  cases x with
  | cls m =>
    obtain ⟨C, hm, rfl⟩ := h
    simp only [ctOf, List.lookup] at e
    split at e
    next q2 =>
      have em : m = n := by simpa using q2
      subst em
      rw [hn] at hm
      cases hm
      cases e
      exact q
    next => exact r (.cls m) b' (by simpa [ctOf] using e) _ ⟨C, hm, rfl⟩
  | _ => cases e
/-- a clause's class, of the text -/
structure CatK (K : PySem.W.Frag) (mg : Str → Option Value) (x : Str) (t : List (Str × Bool)) : Prop where
  ex : ∃ c, (mg x = some c ∨ (mg x = none ∧ bootBuiltins x = some c ∧ x ≠ "__name__")) ∧ Catch K mg c (ctOf t)
theorem XHds.own {x : Str} {t : List (Str × Bool)} {m : MS} {b0 : Stmt} {st : List Stmt} {p1 p2 : Pos} {r : List ExceptHandler} {l : List HC} (k : CatK X.K X.mg x t)
    (su : ∀ (a : Addr) (oe : Obj) (cls : Value) (d : Option Addr) (pn : List (Addr × Obj)), Zc cls d oe → (∃ vs, oe.data = .fields vs) → XSs (X.suite a ((a, oe) :: pn)) (WNo none) (b0 :: st) m) (q : XHds X r l) (hg : Gl X x := by rfl) (hd : (x == ("__debug__" : Str)) = false := by decide) :
    XHds X (.ExceptHandler (some (.Name x p1)) none (b0 :: st) p2 :: r) (⟨ctOf t, fun _ => m, none⟩ :: l) := by
  obtain ⟨c, k1, k2⟩ := k.ex
  exact .bare ⟨hg, hd, k1⟩ k2 su q
end
end Wg

namespace Wg
open PySem PySem.Spec PyProof.Rows L2 SlX
/-! ### dict(list of pairs), whatever the keys -/
section
variable {P : Program} {w : World} {A : Around} {E : Value → Shared → Prop} {s : Shared}
/-- C i: what the heap tells when i pairs are in the dict at S -/
structure PutOk (P : Program) (w : World) (A : Around) (S : Addr) (n : Nat) (Pv : Nat → Value → Value → Prop) (C : Nat → Heap → Prop) : Prop where
  keep : ∀ i h h', C i h → (∀ o, h.get? S = some o → h'.get? S = some o) → C i h'
  put : ∀ i u v (s : Shared) (Q : Unit → Shared → Prop) (E : Value → Shared → Prop), i < n → Pv i u v → C i s.heap →
    (∀ h' tk, Heap.SameBut S s.heap h' → C (i + 1) h' → Q () { s with heap := h', toks := tk }) → wpAny (model P w) A (dictSet S u v) Q E s
theorem put_loop {R : Result → Shared → Prop} {S I l : Addr} {items : Array Value} {res : Value} {n : Nat} {Pv : Nat → Value → Value → Prop} {C : Nat → Heap → Prop} (hh : A.handled = none) (nlI : l ≠ I) (nSI : S ≠ I) (nSl : S ≠ l)
    (hn : items.size = n) (K : PutOk P w A.in1 S n Pv C) : ∀ (k i : Nat) (ix : Int) (t : Tok) (s : Shared), n - i = k → i ≤ n →
      (∀ j, i ≤ j → j < n → ∃ (b : Addr) (u v : Value), items[j]? = some (.ref b) ∧ b ≠ S ∧ b ≠ I ∧ IsTup s.heap b #[u, v] ∧ Pv j u v) → s.heap.IsListIter I l i → s.heap.IsList l items → C i s.heap →
      (∀ h' tk, C n h' → (∀ b o, b ≠ S → b ≠ I → s.heap.get? b = some o → h'.get? b = some o) → R (.ok (.ret res)) { s with heap := h', toks := tk }) →
      codeAny (model P w) A (.builtin "dict.update.loop" ⟨[.ref S, .ref I, .int ix t, res], []⟩) R s := by
  intro k
  induction k with
  | zero =>
    intro i ix t s hk hi ht st ls hC hR
    obtain rfl : i = n := by omega
    refine codeAny_builtin ud_entry ?_
    rw [Around.under_plainId ud_plain _]
    show wpAny _ A.in1 (pyNext (.ref I) >>= _) _ _ s
    refine wpAny_bind (wpAny_pyNext_list_end (A := A.in1) hh st ls (Array.getElem?_eq_none (by omega)) fun h' he => ?_)
    show wpAny _ A.in1 (Builtin.Dict.addKeywords S [] >>= _) _ _ _
    exact wpAny_bind (wpAny_pure (wpAny_pure (hR h' s.toks (K.keep _ _ _ hC fun o e => he S o nSI e) fun b o _ nb e => he b o nb e)))
  | succ k ih =>
    intro i ix t s hk hi ht st ls hC hR
    have hlt : i < n := by omega
    obtain ⟨b, u, v, hb, nbS, nbI, tup, pv⟩ := ht i (Nat.le_refl _) hlt
    refine codeAny_builtin ud_entry ?_
    rw [Around.under_plainId ud_plain _]
    show wpAny _ A.in1 (pyNext (.ref I) >>= _) _ _ s
    refine wpAny_bind (wpAny_pyNext_list_item (x := .ref b) st ls hb fun h1 st1 sb1 => ?_)
    have tup1 : IsTup h1 b #[u, v] := tup.extBut sb1.extBut nbI
    have ls1 : h1.IsList l items := ls.extBut sb1.extBut nlI
    have hC1 : C i h1 := K.keep _ _ _ hC fun o e => sb1.extBut S o nSI e
    obtain ⟨o, ho, hc, m, hd⟩ := id tup1
    show wpAny _ A.in1 (holding [Value.ref b] _ >>= _) _ _ _
    refine wpAny_bind (wpAny_holding (wpAny_bind (wpAny_tryCatch ?_)))
    unfold Builtin.Dict.pairItems
    refine wpAny_bind (wpAny_typeOf (T := "tuple") ⟨o, ho, hc⟩ ?_)
    rw [if_pos (by first | decide | rfl | simp)]
    refine wpAny_bind (wpAny_seqItems ho hd (wpAny_pure ?_))
    show wpAny _ A.in1 (holding [u, v] (dictSet S u v)) _ _ _
    refine wpAny_holding (K.put i u v _ _ _ hlt pv hC1 fun h2 tk2 sb2 hC2 => wpAny_pure ⟨plainId_quiet ud_plain _, ?_⟩)
    refine ih (i + 1) (ix + 1) 0 _ (by omega) hlt (fun j hj hjn => ?_) (st1.at fun o' e => sb2.extBut I o' (Ne.symm nSI) e) (ls1.extBut sb2.extBut (Ne.symm nSl)) hC2 fun h' tk hC' kk => hR h' tk hC' fun c oc n1 n2 e => kk c oc n1 n2 (sb2.extBut c oc n1 (sb1.extBut c oc n2 e))
    obtain ⟨b', u', v', e1, e2, e3, e4, e5⟩ := ht j (by omega) hjn
    exact ⟨b', u', v', e1, e2, e3, (e4.extBut sb1.extBut e3).extBut sb2.extBut e2, e5⟩
theorem call_dictG {l : Addr} {ol : Obj} {items : Array Value} {m n : Nat} {Pv : Nat → Value → Value → Prop} {C : Nat → Heap → Prop} {Q : Value → Shared → Prop} (hh : A.handled = none) (hl : s.heap.get? l = some ol) (hc : ol.cls = .type "list") (hd : ol.dict = none)
    (hdat : ol.data = .seq items m) (hsz : items.size = n) (ht : ∀ j, j < n → ∃ (b : Addr) (u v : Value), items[j]? = some (.ref b) ∧ IsTup s.heap b #[u, v] ∧ Pv j u v)
    (h0 : ∀ h', h'.get? s.heap.objs.size = some { cls := .type "dict", data := .dict #[] } → C 0 h') (K : ∀ A' : Around, A'.units ≤ A.units + 4 → PutOk P w A' s.heap.objs.size n Pv C)
    (h : ∀ h' tk, C n h' → (∀ b o, s.heap.get? b = some o → h'.get? b = some o) → Q (.ref s.heap.objs.size) { s with heap := h', toks := tk }) :
    wpAny (model P w) A (call (.type "dict") [.ref l]) Q E s := by
  refine callType_codes (Q₁ := fun obj s₁ => obj = .ref s.heap.objs.size ∧ s₁ = { s with heap := s.heap.push { cls := .type "dict", data := .dict #[] } }) PySem.F.kt_called_dict (PySem.F.kt_typeCall_dict_1 _) PySem.F.entry_dict_init (kt_code_dict_new _ ⟨rfl, rfl⟩) ?_
  rintro obj s₁ ⟨rfl, rfl⟩
  have nw : (s.heap.push { cls := .type "dict", data := .dict #[] }).get? s.heap.objs.size = some { cls := .type "dict", data := .dict #[] } := Heap.get?_push_size _ rfl
  have hT : ({ s with heap := s.heap.push { cls := .type "dict", data := .dict #[] } } : Shared).TypeIs (.ref s.heap.objs.size) "dict" := ⟨_, nw, rfl⟩
  have k0 : ∀ b o, s.heap.get? b = some o → (s.heap.push { cls := .type "dict", data := .dict #[] }).get? b = some o := fun b o e => Heap.get?_push_of_some _ e
  refine ⟨hT, PySem.F.args_dict_init_2 _ _, ?_⟩
  unfold Builtin.«dict.__init__»
  refine wpAny_bind ?_
  unfold Builtin.Dict.selfAndRest
  refine wpAny_bind (wpAny_notOrdered_dict hT ?_)
  show wpAny _ _ (pure (s.heap.objs.size, [Value.ref l])) _ _ _
  refine wpAny_pure ?_
  show wpAny _ _ (Builtin.Dict.updateFrom "dict.__init__" s.heap.objs.size (.ref l) [] .none) _ _ _
  unfold Builtin.Dict.updateFrom
  refine wpAny_bind (wpAny_typeOf (T := "list") ⟨ol, k0 _ _ hl, hc⟩ ?_)
  rw [if_pos (by first | decide | rfl | simp)]
  refine wpAny_bind (miss_list (k0 _ _ hl) hc hdat hd hh fun h1 tk1 hk1 => ?_)
  rw [if_pos (show (none : Option Value).isNone = true from rfl)]
  refine wpAny_bind (wpAny_rule ?_)
  have hl1 : h1.IsList l items := ⟨ol, hk1 _ _ (k0 _ _ hl), hc, m, hdat⟩
  have nw1 := hk1 _ _ nw
  have hS1 : s.heap.objs.size < h1.objs.size := Heap.lt_size nw1
  refine wpAny_bind (wpAny_pyIter_list hl1 ?_)
  have k2 : ∀ b o, h1.get? b = some o → (h1.push { cls := .type "list_iterator", data := .fields #[.ref l, .int 0 0] }).get? b = some o := fun b o e => Heap.get?_push_of_some _ e
  have hlt : l < s.heap.objs.size := Heap.lt_size hl
  have key := put_loop (P := P) (w := w) (A := A.in1) (R := wants (fun r s₂ => r = .none ∧ Q (.ref s.heap.objs.size) s₂) E) (S := s.heap.objs.size) (I := h1.objs.size) (l := l) (items := items) (res := Value.none) (Pv := Pv) (C := C) hh
    (Nat.ne_of_lt (Nat.lt_trans hlt hS1)) (Nat.ne_of_lt hS1) (Nat.ne_of_gt hlt) hsz (K _ (by simp only [Around.in1_units]; omega)) n 0 0 0
    { s with heap := h1.push { cls := .type "list_iterator", data := .fields #[.ref l, .int 0 0] }, toks := tk1 } (by omega) (Nat.zero_le _)
    (fun j _ hj => by
      obtain ⟨b, u, v, e1, e2, e3⟩ := ht j hj
      have hb : b < s.heap.objs.size := e2.lt
      exact ⟨b, u, v, e1, Nat.ne_of_lt hb, Nat.ne_of_lt (Nat.lt_trans hb hS1), e2.keeps fun c o z => k2 _ _ (hk1 _ _ (k0 _ _ z)), e3⟩)
    ⟨_, Heap.get?_push_size _ rfl, rfl, rfl⟩ (hl1.at fun o e => k2 _ _ e) (h0 _ (k2 _ _ nw1))
    (fun h' tk hC' k => ⟨rfl, h h' tk hC' fun b o e => k b o (Nat.ne_of_lt (Heap.lt_size e)) (Nat.ne_of_lt (Nat.lt_trans (Heap.lt_size e) hS1)) (k2 _ _ (hk1 _ _ (k0 _ _ e)))⟩)
  first
    | exact wpAny_pure ⟨plainId_quiet ud_plain _, key⟩
    | exact wpAny_bind (wpAny_pure (wpAny_pure ⟨plainId_quiet ud_plain _, key⟩))
end
end Wg

namespace Wg
open PySem PySem.Spec PyProof.Rows L2 SlX
/-! ### a key that is none or a truth, beside texts -/
section
variable {P : Program} {w : World} {A : Around} {E : Value → Shared → Prop} {s : Shared}
/-- none, a truth -/
def OddV : Value → Prop
  | .none => True
  | .bool _ => True
  | _ => False
def oddH : Value → Int
  | .bool b => hashInt (if b = true then 1 else 0)
  | _ => reduceHash 0xFCA86420
theorem odd_hash {v : Value} (o : OddV v) {Q : Int → Shared → Prop} (hu : A.units + 1 < cLine) (h : Q (oddH v) { s with toks := s.toks + 1 }) : wpAny (model P w) A (pyHash v) Q E s := by
  cases v with
  | none => exact pyHash_key .none .none A s Q .none (by simp only [NestedKey.depth]; omega) h
  | bool b => exact pyHash_key (.num _) (.bool b) A s Q (.bool rfl) (by simp only [NestedKey.depth]; omega) h
  | _ => exact o.elim
theorem odd_eq {x : Str} {t : Tok} {v : Value} (o : OddV v) : SeqAt.EqAt A s (.str x t) v false := by
  cases v with
  | none => exact SeqAt.EqAt.str_none x t
  | bool b => exact SeqAt.EqAt.str_bool x t b
  | _ => exact o.elim
theorem odd_plain {v : Value} (o : OddV v) : carriedByValue v = true := by
  cases v <;> first | rfl | exact o.elim
/-- it is not found among texts -/
theorem odd_find {d : Addr} {o : Obj} {es : Array DictEntry} {ep : Nat} {v : Value} {n : Int} {Q : Option Nat → Shared → Prop} (ov : OddV v) (ho : s.heap.get? d = some o) (hd : o.data = .dict es ep)
    (hk : ∀ e ∈ es, ∃ x t, e.key = Value.str x t) (h : Q none s) : wpAny (model P w) A (dictFind d v n) Q E s := by
  have hall : ((v :: (placesWithHash es.size (fun i => es[i]?.map (·.hash)) n).filterMap fun i => es[i]?.map (·.key)).all carriedByValue) = true := by
    rw [List.all_cons, List.all_eq_true.mpr, Bool.and_true]
    · exact odd_plain ov
    · intro u hu
      obtain ⟨i, _, hi⟩ := List.mem_filterMap.mp hu
      cases he : es[i]? with
      | none => rw [he] at hi; cases hi
      | some e =>
        rw [he] at hi
        obtain rfl : e.key = u := by simpa using hi
        obtain ⟨x, t, q⟩ := hk e (Array.mem_of_getElem? he)
        rw [q]; rfl
  unfold dictFind
  try with_reducible refine wpAny_holding ?_
  refine wpAny_bind (wpAny_dictEntries ho hd ?_)
  have walk : wpAny (model P w) A (dictWalkPlain d v n es (placesWithHash es.size (fun i => es[i]?.map (·.hash)) n)) Q E s := by
    refine wpAny_bind (wpAny_forIn_list _ (fun rest b s' => s' = s ∧ b = (none, ())) _ ?_ ?_ _ _ ⟨rfl, rfl⟩)
    · rintro i rest b s' ⟨rfl, rfl⟩
      cases he : es[i]? with
      | none => exact wpAny_pure ⟨rfl, rfl⟩
      | some e =>
        dsimp only
        obtain ⟨x, t, q⟩ := hk e (Array.mem_of_getElem? he)
        by_cases hh : (e.hash == n) = true
        · rw [if_pos hh]
          refine wpAny_bind (wpAny_dictEpoch ho hd (wpAny_bind ?_))
          rw [q]
          refine odd_eq ov _ _ _ _ (wpAny_bind (wpAny_dictEpoch ho hd ?_))
          show wpAny _ _ (if (ep != ep) = true then _ else _) _ E _
          rw [if_neg (by simp)]
          exact wpAny_bind (wpAny_rule (wpAny_pure ⟨rfl, rfl⟩))
        · rw [if_neg hh]
          exact wpAny_pure ⟨rfl, rfl⟩
    · rintro b s' ⟨rfl, rfl⟩
      exact wpAny_pure h
  cases v with
  | none => dsimp only; rw [if_pos hall]; exact walk
  | bool b => dsimp only; rw [if_pos hall]; exact walk
  | _ => exact ov.elim
theorem odd_set {d : Addr} {o : Obj} {es : Array DictEntry} {ep : Nat} {v u : Value} {Q : Unit → Shared → Prop} (ov : OddV v) (hu : A.units + 1 < cLine) (ho : s.heap.get? d = some o) (hc : o.ExactDict) (hd : o.data = .dict es ep)
    (hk : ∀ e ∈ es, ∃ x t, e.key = Value.str x t) (hz : es.size ≤ sizeLine)
    (hQ : ∀ h' tk, Heap.SameBut d s.heap h' → (∃ o', h'.get? d = some o' ∧ o'.ExactDict ∧ o'.data = .dict (es.push ⟨oddH v, v, u⟩) (ep + 1)) → Q () { s with heap := h', toks := tk }) :
    wpAny (model P w) A (dictSet d v u) Q E s := by
  unfold dictSet
  try with_reducible refine wpAny_holding ?_
  refine wpAny_bind (odd_hash ov hu ?_)
  unfold dictSetHashed
  try with_reducible refine wpAny_holding ?_
  refine wpAny_bind (odd_find (s := { s with toks := s.toks + 1 }) ov ho hd hk ?_)
  exact wpAny_bind (wpAny_rule (wpAny_updateDictKeys (hz := hz) (s := { s with toks := s.toks + 1 }) ho hd (hQ _ _ (Heap.SameBut.update ..) ⟨_, Heap.get?_update_self _ ho (Obj.isFreed_of_dict (Obj.data_mapDictKeys hd _)), hc.mapDictKeys _, Obj.data_mapDictKeys hd _⟩)))
end
end Wg

namespace Wg
open PySem PySem.Spec PyProof.Rows L2 SlX
/-! ### dict(list of pairs), the last key none or a truth, the others texts -/
def OddX (x : V) : Prop := x = .non ∨ ∃ b, x = .bl b
theorem OddX.val {x : V} {u : Value} (o : OddX x) (r : RelV x u) : OddV u := by
  rcases o with rfl | ⟨b, rfl⟩
  · cases (show u = Value.none from r); trivial
  · cases (show u = Value.bool b from r); trivial
def TxKeys (cs : List (Key × V)) : Prop := ∀ c ∈ cs, ∃ x, c.1 = .inr x
theorem txKeys_put {cs : List (Key × V)} {k : Key} {v : V} (h : TxKeys cs) (hk : ∃ x, k = .inr x) : TxKeys (putK cs k v) := by
  intro c hc
  unfold putK at hc
  split at hc
  · obtain ⟨d, hd, rfl⟩ := List.mem_map.mp hc
    split
    next e => obtain ⟨x, q⟩ := h d hd; exact ⟨x, q⟩
    next => exact h d hd
  · rcases List.mem_append.mp hc with z | z
    · exact h c z
    · rw [List.mem_singleton.mp z]; exact hk
theorem txKeys_merge : ∀ {more acc : List (Key × V)}, TxKeys acc → TxKeys more → TxKeys (mergeK acc more)
  | [], _, h, _ => h
  | c :: more, acc, h, hm => txKeys_merge (more := more) (acc := putK acc c.1 c.2) (txKeys_put h (hm c List.mem_cons_self)) fun d hd => hm d (List.mem_cons_of_mem _ hd)
theorem vals_app : ∀ {xs ys : List V} {us vs : List Value}, Vals xs us → Vals ys vs → Vals (xs ++ ys) (us ++ vs)
  | _, _, _, _, .nil, q => q
  | _, _, _, _, .cons h t, q => .cons h (vals_app t q)
/-- keys of the entries -/
theorem pairs_vals {P : Program} {w : World} : ∀ {es : List DictEntry} {kvs : List (Key × Value)}, Pairs (mixKind P w) es kvs → Vals (kvs.map fun kv => kV kv.1) (es.map (·.key))
  | _, _, .nil => .nil
  | _, _, .cons h _ t => .cons (relV_key h) (pairs_vals t)
theorem kv_keys : ∀ {cs : List (Key × V)} {vs : List (Key × Value)}, KV cs vs → cs.map (fun c => kV c.1) = vs.map fun c => kV c.1
  | _, _, .nil => rfl
  | _, _, .cons h t => by rw [List.map_cons, List.map_cons, h.1, kv_keys t]
theorem pairs_str {P : Program} {w : World} : ∀ {es : List DictEntry} {kvs : List (Key × Value)}, Pairs (mixKind P w) es kvs → (∀ c ∈ kvs, ∃ x, c.1 = Sum.inr x) → ∀ e ∈ es, ∃ x t, e.key = Value.str x t
  | _, _, .nil, _ => fun e he => absurd he List.not_mem_nil
  | _, _, .cons (kv := kv) h _ t, hk => fun e he => by
    rcases List.mem_cons.mp he with z | z
    · obtain ⟨x, q⟩ := hk kv List.mem_cons_self
      subst z
      have h : keyIs kv.1 e.key = true := h
      rw [q] at h
      obtain ⟨t, e⟩ := Value.isStrOf_shape (x := x) h
      exact ⟨x, t, e⟩
    · exact pairs_str t (fun c hc => hk c (List.mem_cons_of_mem _ hc)) e z
theorem kv_tx : ∀ {cs : List (Key × V)} {vs : List (Key × Value)}, KV cs vs → TxKeys cs → ∀ c ∈ vs, ∃ x, c.1 = Sum.inr x
  | _, _, .nil, _ => fun e he => absurd he List.not_mem_nil
  | _, _, .cons (a := a) h t, hk => fun c hc => by
    rcases List.mem_cons.mp hc with z | z
    · obtain ⟨x, q⟩ := hk a List.mem_cons_self
      subst z
      exact ⟨x, by rw [← h.1]; exact q⟩
    · exact kv_tx t (fun c hc => hk c (List.mem_cons_of_mem _ hc)) c z
section
variable {X : Cx} {W : WQ} {K : KC} {ρ : Pl} {H : Hp} {h : Store} {pos : Pos} {e : Expr} {es : List Expr} {ms : M (List PV)} {p0 : Pos} {k : Nat}
def rDictO (K : PySem.W.Frag) : List V → Hp → VK → Prop := fun xs H Q => ∃ (a : Addr) (ps : List Addr) (cs : List (Key × V)) (pk : Addr) (kx vx : V), xs = [.ref a] ∧ SqL K H a ((ps ++ [pk]).map V.ref) ∧ Paired (fun p kv => SqT K H p [kV kv.1, kv.2]) ps cs ∧ TxKeys cs ∧
  SqT K H pk [kx, vx] ∧ OddX kx ∧ ∀ p o, H p = none → (p == sysModules) = false → OddObj o ((mergeK [] cs).map (fun kv => kV kv.1) ++ [kx]) → Q (.ref p) (upd H p (.ext (Pin p o)))
theorem call_dictO (hcalm : X.calm = true) (hr : Room k X.A) : CallR X (.type "dict") (rDictO X.K) := by
  intro pins s σ H xs us Q I r q
  obtain ⟨a, ps, cs, pk, kx, vx, ex, hq, hp, tk, hpk, ox, q⟩ := q
  subst ex
  obtain ⟨u, eu, rx⟩ := vals1 r
  subst eu
  cases rx
  obtain ⟨its, rv, pl, hz⟩ := I.list hq
  have ei := refs_at rv
  subst ei
  rw [List.length_map, List.length_append, List.length_singleton] at hz
  obtain ⟨prs, rel, hl, hpr⟩ := pairs_of I hp
  obtain ⟨o, n, ho, hc, hd, hdat⟩ := pl
  obtain ⟨itk, rk, tk', _⟩ := I.tuple hpk
  obtain ⟨uk, uv, ek, rk1, rk2⟩ := vals2 rk
  subst ek
  have ov : OddV uk := ox.val rk1
  have hm : (s.heap.objs.size == sysModules) = false := beq_eq_false_iff_ne.mpr (Nat.ne_of_gt I.big)
  refine call_dictG (n := ps.length + 1) (Pv := fun j u v => (j < ps.length ∧ ∃ p, prs[j]? = some p ∧ v = p.2 ∧ keyIs p.1 u = true) ∨ (j = ps.length ∧ u = uk ∧ v = uv))
    (C := fun i h => (i ≤ ps.length ∧ h.DictOf (mixKind X.prog X.w) s.heap.objs.size (merged [] (prs.take i))) ∨ (i = ps.length + 1 ∧ ∃ o', h.get? s.heap.objs.size = some o' ∧ OddObj o' ((mergeK [] cs).map (fun kv => kV kv.1) ++ [kx])))
    (I.ok.hd hcalm) ho hc hd hdat (by simp) (fun j hj => ?_) (fun h' e => .inl ⟨Nat.zero_le _, ?_⟩) (fun A' hA => ⟨fun i h h' hC k' => ?_, fun i u v s' Q' E' hi pv hC hQ => ?_⟩) fun h' tk2 hC kk => ?_
  · by_cases c : j < ps.length
    · have hj' : j < prs.length := by omega
      obtain ⟨b, u, e1, e2, e3⟩ := hpr j prs[j] (List.getElem?_eq_getElem hj')
      exact ⟨b, u, _, by rw [List.getElem?_toArray, List.getElem?_map, List.getElem?_append_left c, e1]; rfl, e2, .inl ⟨c, _, List.getElem?_eq_getElem hj', rfl, e3⟩⟩
    · obtain rfl : j = ps.length := by omega
      exact ⟨pk, uk, uv, by simp, tk', .inr ⟨rfl, rfl, rfl⟩⟩
  · exact ⟨_, #[], 0, e, ⟨rfl, rfl, rfl⟩, rfl, (fun e he => by simp at he), .nil, List.nodup_nil⟩
  · rcases hC with ⟨c, hC⟩ | ⟨c, o', e, r⟩
    · exact .inl ⟨c, hC.at k'⟩
    · exact .inr ⟨c, o', k' o' e, r⟩
  · rcases hC with ⟨c, hC⟩ | ⟨c, _⟩
    · have hlen : (merged [] (prs.take i)).length ≤ sizeLine := by
        refine Nat.le_trans (merged_length_le [] (prs.take i)) ?_
        rw [List.length_nil, List.length_take]
        omega
      rcases pv with ⟨lt, p, e1, e2, e3⟩ | ⟨ei, e1, e2⟩
      · subst e2
        exact wpAny_dictSet_pairs (knd := mixKind X.prog X.w) (k := p.1) e3 hC (fun h2 hm2 sb => hQ _ _ sb (.inl ⟨lt, by rw [merged_take_succ _ _ _ _ e1]; exact hm2⟩)) (by omega)
      · subst ei; subst e1; subst e2
        rw [List.take_of_length_le (by omega)] at hC hlen
        obtain ⟨o1, es1, ep1, d1, d2, d3, d4, d5, d6⟩ := hC
        have kvm : KV (mergeK [] cs) (merged [] prs) := KV.merge rel .nil
        have hz1 : es1.size ≤ sizeLine := by
          have e1 := d5.length
          have e2 : es1.toList.length = es1.size := by simp
          omega
        refine odd_set ov (by have := hr.units; omega) d1 d2 d3 (fun e he => pairs_str d5 (kv_tx kvm (txKeys_merge (fun c hc => absurd hc List.not_mem_nil) tk)) e (by simpa using he)) hz1 fun h' tk2 sb ⟨o2, f1, f2, f3⟩ => hQ _ _ sb (.inr ⟨rfl, o2, f1, _, _, f2, f3, ?_⟩)
        rw [Array.toList_push, List.map_append, kv_keys kvm]
        exact vals_app (pairs_vals d5) (.cons rk1 .nil)
    · omega
  · rcases hC with ⟨c, _⟩ | ⟨_, o', e, r⟩
    · omega
    · have hn : H s.heap.objs.size = none := I.hok.fresh (Nat.le_refl _)
      exact ⟨.ref s.heap.objs.size, upd H s.heap.objs.size (.ext (Pin s.heap.objs.size o')), I.laid (t' := tk2) kk (Nat.le_refl _) ⟨e, ⟨o', e⟩, fun h1 h2 p k' => k' _ p⟩, rfl, q _ o' hn hm r⟩
end
end Wg

namespace Wg
open PySem PySem.Spec PyProof.Rows L2 SlX
section
variable {X : Cx} {W : WQ} {K : KC} {ρ : Pl} {H : Hp} {h : Store} {pos : Pos} {e : Expr} {es : List Expr} {ms : M (List PV)} {m : M PV} {p0 : Pos} {k : Nat}
def oddP : PV → Bool
  | .non => true
  | .bl _ => true
  | _ => false
def txP : PV → Bool
  | .str _ => true
  | _ => false
theorem oddP_at {x : PV} {v : V} (o : oddP x = true) (r : RV K ρ H x v) : OddX v := by
  cases x with
  | non => exact .inl r
  | bl b => exact .inr ⟨b, r⟩
  | _ => cases o
def oddPairs (ys : List PV) : Option (List PV) := match ys.reverse with
  | .tup [k, _] :: r => if oddP k = true then match pairsP r.reverse with
    | some kvs => if (kvs.all fun kv => txP kv.1) = true then some ((putAll [] kvs).map (·.1) ++ [k]) else none
    | none => none
    else none
  | _ => none
def fDictQ (xs : List PV) (h : Store) : R PV := match xs with
  | [x] => match lstRd h x with
    | some ys => match pairsP ys with
      | some kvs => .ok (.dct (putAll [] kvs)) h
      | none => match oddPairs ys with
        | some ks => .ok (.dctO ks) h
        | none => .no
    | none => .no
  | _ => .no
theorem RVd.keysV : ∀ {kvs : List (PV × PV)} {vs : List (Key × V)}, RVd K ρ H kvs vs → RVs K ρ H (kvs.map (·.1)) (vs.map fun c => kV c.1)
  | [], _, r => by rw [show _ = [] from r]; rfl
  | (k, x) :: xs, _, ⟨c, v, r, e, h0, h1, h2⟩ => by rw [e]; exact ⟨_, _, rfl, keyP_back h0, RVd.keysV h2⟩
theorem pairs_at2 : ∀ {ys : List PV} {ws : List V} {kvs : List (PV × PV)}, RVs K ρ H ys ws → pairsP ys = some kvs → (kvs.all fun kv => txP kv.1) = true → ∃ (ps : List Addr) (cs : List (Key × V)), ws = ps.map V.ref ∧ Paired (fun p kv => SqT K H p [kV kv.1, kv.2]) ps cs ∧ TxKeys cs ∧
    ∀ {acc : List (PV × PV)} {ac : List (Key × V)}, RVd K ρ H acc ac → RVd K ρ H (putAll acc kvs) (mergeK ac cs)
  | [], _, _, r, e, _ => by cases e; exact ⟨[], [], r, .nil, (fun c hc => absurd hc List.not_mem_nil), fun q => q⟩
  | y :: ys, _, _, ⟨v, ws, e1, h1, h2⟩, e, hall => by
    subst e1
    simp only [pairsP, Wg.mapO, Option.bind_eq_some_iff, Option.map_eq_some_iff] at e
    obtain ⟨⟨k, x⟩, e2, kvs, e3, rfl⟩ := e
    rw [List.all_cons, Bool.and_eq_true] at hall
    obtain ⟨ps, cs, g1, g2, g4, g3⟩ := pairs_at2 h2 e3 hall.2
    unfold pairP at e2
    split at e2
    next k' x' =>
      split at e2
      next c =>
        cases e2
        obtain ⟨a, us, e4, t, rs⟩ := h1
        obtain ⟨u1, r1, e5, k1, k2⟩ := rs
        obtain ⟨u2, r2, e6, k3, k4⟩ := k2
        obtain ⟨ck, hc⟩ := Option.isSome_iff_exists.mp c
        have e7 := keyP_kV hc k1
        refine ⟨a :: ps, (ck, u2) :: cs, by rw [e4, g1]; rfl, .cons ?_ g2, fun d hd => ?_, fun {acc ac} q => g3 (q.put hc k3)⟩
        · have := t.sq
          rw [e5, e6, show r2 = [] from k4, e7] at this
          exact this
        · rcases List.mem_cons.mp hd with z | z
          · subst z
            cases k with
            | str z => cases hc; exact ⟨_, rfl⟩
            | _ => simp [txP] at hall
          · exact g4 d z
      next => cases e2
    next => cases e2
theorem rvs_snoc : ∀ {xs : List PV} {x : PV} {vs : List V}, RVs K ρ H (xs ++ [x]) vs → ∃ ws v, vs = ws ++ [v] ∧ RVs K ρ H xs ws ∧ RV K ρ H x v
  | [], x, vs, ⟨v, r, e, h1, h2⟩ => ⟨[], v, by rw [e, show r = [] from h2]; rfl, rfl, h1⟩
  | y :: xs, x, vs, ⟨v, r, e, h1, h2⟩ => by
    obtain ⟨ws, u, e2, g1, g2⟩ := rvs_snoc h2
    exact ⟨v :: ws, u, by rw [e, e2]; rfl, ⟨v, ws, rfl, h1, g1⟩, g2⟩
def rDictQ (K : PySem.W.Frag) : List V → Hp → VK → Prop := fun xs H Q => (∃ (a : Addr) (ps : List Addr) (kvs : List (Key × V)), xs = [.ref a] ∧ SqL K H a (ps.map V.ref) ∧ Paired (fun p kv => SqT K H p [kV kv.1, kv.2]) ps kvs ∧
    ∀ p, H p = none → Q (.ref p) (upd H p (.dK (mergeK [] kvs)))) ∨ rDictO K xs H Q
theorem cx_dictQ : CallX X W fDictQ (rDictQ X.K) := by
  intro ρ h σ H xs vs Q p r o
  unfold fDictQ at o
  split at o
  next x =>
    obtain ⟨v, e, r1⟩ := rvs1 r
    split at o
    next ys q =>
      obtain ⟨a, ws, e2, t, rs⟩ := lstRd_at p r1 q
      split at o
      next kvs q2 =>
        obtain ⟨ps, cs, g1, g2, g3⟩ := pairs_at rs q2
        refine .inl ⟨a, ps, cs, by rw [e, e2], by rw [← g1]; exact t, g2, fun b hb => ?_⟩
        obtain ⟨x', p', r'⟩ := new_dct p hb (g3 (acc := []) (ac := []) rfl)
        exact o ρ _ _ x' p' r'
      next nq =>
        split at o
        next ks q2 =>
          unfold oddPairs at q2
          split at q2
          next k x r' eq =>
            split at q2
            next c1 =>
              split at q2
              next kvs q3 =>
                split at q2
                next c2 =>
                  cases q2
                  have ey : ys = r'.reverse ++ [.tup [k, x]] := by rw [← List.reverse_reverse ys, eq, List.reverse_cons]
                  rw [ey] at rs
                  obtain ⟨us, u, e3, h1, h2⟩ := rvs_snoc rs
                  obtain ⟨ps, cs, g1, g2, g4, g3⟩ := pairs_at2 h1 q3 c2
                  obtain ⟨pk, kv, e4, t4, r4⟩ := h2
                  obtain ⟨kx, vx, e5, r5, r6⟩ := rvs2 r4
                  refine .inr ⟨a, ps, cs, pk, kx, vx, by rw [e, e2], ?_, g2, g4, ?_, oddP_at c1 r5, fun b o' hb nm oo => ?_⟩
                  · rw [List.map_append, ← g1, List.map_cons, List.map_nil, ← e4, ← e3]; exact t
                  · have := t4.sq (K := kc X W); rwa [e5] at this
                  · obtain ⟨x', p'⟩ := p.new hb (.ext (Pin b o'))
                    refine o ρ _ _ x' p' ⟨b, o', _, rfl, ⟨p.fresh hb, upd_same⟩, ⟨nm, oo⟩, RVs.ext x' _ _ (RVs.app (g3 (acc := []) (ac := []) rfl).keysV ⟨kx, [], rfl, r5, rfl⟩)⟩
                next => cases q2
              next => cases q2
            next => cases q2
          next => cases q2
        next => exact o.elim
    next => exact o.elim
  next => exact o.elim
theorem xe_dictQ (hc : X.calm = true) (hr : Room k X.A) (hm : X.mg "dict" = none) (ha : XA X W (e :: es) ms) (hg : Gl X "dict" := by rfl) (he : starEach (e :: es) X.env = (false, eval e X.env) :: starEach es X.env := by rfl) (hpl : (backTo pos (starEach es X.env)).any (·.1) = false := by rfl) :
    XE X W (.Call (.Name "dict" p0) (e :: es) [] pos) (mCall fDictQ ms) := xe_callTy ((call_dictP hc).or (call_dictO hc hr)) cx_dictQ hm PyProof.Rows.boot_dict ha hg (by decide) (by decide) he hpl
/-! ### isinstance of such a dict -/
def rIsiO : List V → Hp → VK → Prop := fun xs H Q => ∃ (p : Addr) (o : Obj) (n : String) (b : Bool), xs = [.ref p, .ty n] ∧ H p = some (.ext (Pin p o)) ∧ o.cls = .type "dict" ∧ kitB "dict" n = some b ∧ Q (.bl b) H
theorem call_isiO : CallR X (.builtin "isinstance") rIsiO := by
  intro pins s σ H xs us Q I r h
  obtain ⟨p, o, n, b, rfl, e, c, kt, q⟩ := h
  obtain ⟨u, u', rfl, r1, r2⟩ := vals2 r
  cases (show u = Value.ref p from r1)
  obtain rfl : u' = Value.type n := r2
  obtain ⟨e', _⟩ := I.hok p _ e
  exact PySem.W.kia_one PySem.W.kitx_dict I.kIn ⟨o, e', c⟩ (kit_ty kt) (fun z => nomatch z) fun tk => ⟨.bl b, H, I.tok tk, rfl, q⟩
def fIsiB (xs : List PV) (h : Store) : R PV := match xs with
  | [.dctO _, .ty n] => if (tysB.contains n) = true then .ok (.bl (isTy "dict" n)) h else .no
  | _ => fIsi xs h
def rIsiB (K : PySem.W.Frag) : List V → Hp → VK → Prop := fun xs H Q => rIsi K xs H Q ∨ rIsiO xs H Q
theorem cx_isiB : CallX X W fIsiB (rIsiB X.K) := by
  intro ρ h σ H xs vs Q p r o
  unfold fIsiB at o
  split at o
  next ks n =>
    obtain ⟨v, w, e, ⟨a, ob, us, e1, t, ⟨_, es, ep, ex, _⟩, _⟩, r2⟩ := rvs2 r
    obtain ⟨c, o⟩ := out_if o
    exact .inr ⟨a, ob, n, _, by rw [e, e1, show w = _ from r2], t.2, ex.1, kit_at (by decide) (List.contains_iff_mem.mp c), o.ok p rfl⟩
  next => exact .inl (cx_isi ρ h σ H _ vs Q p r o)
theorem xe_isiB (hm : X.mg "isinstance" = none) (ha : XA X W (e :: es) ms) (hg : Gl X "isinstance" := by rfl) (he : starEach (e :: es) X.env = (false, eval e X.env) :: starEach es X.env := by rfl) (hpl : (backTo pos (starEach es X.env)).any (·.1) = false := by rfl) :
    XE X W (.Call (.Name "isinstance" p0) (e :: es) [] pos) (mCall fIsiB ms) := xe_callB (call_isi.or call_isiO) cx_isiB hm boot_isinstance ha hg (by decide) (by decide) he hpl
/-! ### walking it -/
def Ito (d : Addr) (o : Obj) (vs : List V) : It := ⟨fun i H => H d = some (.ext (Pin d o)) ∧ i < vs.length, fun i H x H' => H' = H ∧ vs[i]? = some x, fun i H => H d = some (.ext (Pin d o)) ∧ vs.length ≤ i⟩
theorem turn_odd {P : Program} {w : World} {Kf : PySem.W.Frag} {tg : Expr} {d : Addr} {o : Obj} {vs : List V} {es : Array DictEntry} {ep : Nat} (it : Addr) (hc : o.ExactDict) (hdt : o.data = .dict es ep) (hv : Vals vs (es.toList.map (·.key))) :
    Turn P w Kf tg (Ito d o vs) [it] it (fun i h => h.IsKeyIter it d i vs.length ep) where
  mem := by simp
  obj := fun i h st b hb => by
    obtain rfl : b = it := by simpa using hb
    obtain ⟨oi, e, c, dd⟩ := st
    exact ⟨oi, e, fun v z => by rw [dd] at z; cases z⟩
  keep := fun i h h' st k => st.at fun oi e => k it (by simp) oi e
  item := by
    intro X hP hw hK hc' i pins s σ H E I hf st hg
    subst hP hw hK
    obtain ⟨hd, hi⟩ := hg
    obtain ⟨f0, f1, f2, f3, f4, f5⟩ := hf it (by simp)
    obtain ⟨hgd, _⟩ := I.hok d _ hd
    obtain ⟨u, hu, ru⟩ := hv.get (i := i) (x := vs[i]) (List.getElem?_eq_getElem hi)
    have hl : es.size = vs.length := by have := hv.length; simpa using this.symm
    rw [List.getElem?_map] at hu
    obtain ⟨en, e1, e2⟩ := Option.map_eq_some_iff.mp hu
    subst e2
    refine next_key_item st hgd hdt hl (by simpa using e1) fun h' st' sb => ?_
    have I1 : Inv X pins σ H { s with heap := h' } := I.turned (t' := s.toks) (fun b ob hb e => (sb.2 b hb).trans e) f0 f1 f3 f4 f5
    obtain ⟨oi, e, c, dd⟩ := id st'
    exact ⟨en.key, rfl, go_of (s := { s with heap := h' }) e c dd (by decide) ⟨vs[i], H, I1, ru, ⟨rfl, List.getElem?_eq_getElem hi⟩, st', fun b hb => (hf b hb).1⟩⟩
  done := by
    intro X hP hw hK hc' i pins s σ H E I hf st hg
    subst hP hw hK
    obtain ⟨hd, hi⟩ := hg
    obtain ⟨f0, f1, f2, f3, f4, f5⟩ := hf it (by simp)
    obtain ⟨hgd, _⟩ := I.hok d _ hd
    have hl : es.size = vs.length := by have := hv.length; simpa using this.symm
    exact next_key_end (I.ok.hd hc') st hgd hdt hl hi fun h' eb => ⟨rfl, I.turned (t' := s.toks) (fun b ob hb e => eb b ob hb e) f0 f1 f3 f4 f5⟩
  self := fun A i s Q E st h => wpAny_pyIter_keyiter st h
def iKeysO (td : TE) : TI := fun σ H R => td σ H fun x H1 => ∃ d, x = .ref d ∧ ((∃ kvs, Rd H1 d (.dK kvs) ∧ ∀ o H', lockH H1 d o (.dK kvs) H' → R (Itk d o kvs) H') ∨ ∃ o vs, H1 d = some (.ext (Pin d o)) ∧ ((d == sysModules) = false ∧ OddObj o vs) ∧ R (Ito d o vs) H1)
theorem pi_keysO {tg e : Expr} {td : TE} (he : PE X e td) : PI X tg e (iKeysO td) := by
  refine ⟨fun pins s σ H R I h => ?_⟩
  refine thn (he.run pins s σ H _ I h) fun u s1 ⟨x, H1, I1, rx, d, ex, q⟩ => ?_
  subst ex
  obtain rfl : u = Value.ref d := rx
  rcases q with ⟨kvs, hd, q⟩ | ⟨o, vs, hd, ⟨hs, es, ep, hx, hdt, hv⟩, q⟩
  · have key : ∀ o H', Inv X pins σ H' s1 → H' d = some (.frz o (.dK kvs)) → R (Itk d o kvs) H' → wpAny (model X.prog X.w) X.A (pyIter (.ref d)) (PIE X pins σ tg R) X.xe s1 := fun o H' I2 hf q2 => by
      obtain ⟨hs, hgd, hx, es, ep, vs, hdt, hsz, kv, hm⟩ := I2.frzK hf
      refine iter_keys hs hgd hx hdt (pi_one (tk := s1.toks) I2 _ (turn_keys _ hdt) ⟨_, Heap.get?_push_size _ rfl, rfl, ?_⟩ q2)
      rw [hsz] <;> rfl
    rcases Inv.lockR I1 hd trivial with ⟨o, hf, I2⟩ | ⟨hf, o, I2⟩
    · exact key o _ I2 hf (q o _ (.inl ⟨rfl, hf⟩))
    · exact key o _ I2 upd_same (q o _ (.inr ⟨rfl, hf⟩))
  · obtain ⟨hgd, _⟩ := I1.hok d _ hd
    have hl : es.size = vs.length := by have := hv.length; simpa using this.symm
    refine iter_keys hs hgd hx hdt (pi_one (tk := s1.toks) I1 _ (turn_odd _ hx hdt hv) ⟨_, Heap.get?_push_size _ rfl, rfl, ?_⟩ q)
    rw [hl] <;> rfl
def mItE (m : M PV) : M (List PV) := fun l h => (m l h).bind fun x h1 => match x with
  | .dct kvs => .ok (kvs.map (·.1)) h1
  | .dctO ks => .ok ks h1
  | _ => .no
theorem xi_keysO {tg : Expr} (he : XE X W e m) : XI X W tg e (mItE m) := pi_weak (pi_keysO he) fun σ H R ⟨ρ, h, l, p, rl, o⟩ =>
  ⟨ρ, h, l, p, rl, Out.mono (Out.bind o) fun v H1 ⟨x, h1, ρ1, e1, p1, r1, o1⟩ => by
    cases x with
    | dct kvs =>
      obtain ⟨d, vs, e2, t, rs⟩ := r1
      refine ⟨d, e2, .inl ⟨vs, t.2, fun ob H' lk => ?_⟩⟩
      obtain ⟨x2, p2, hf⟩ := lk.ext p1 (show IsDct (.dK vs) from trivial) t.1
      have nd : ¬ ρ1.has d := t.1
      have at_ : ∀ ρ' H2, Kp ρ1 H' ρ' H2 → H2 d = some (.frz ob (.dK vs)) := fun ρ' H2 a => (a.at_ (o := .frz ob (.dK vs)) trivial nd hf).2
      refine o1 ρ1 H' _ x2 p2 ⟨fun i ρ' h' H2 a _ hi => ⟨at_ _ _ a, by rw [← rs.len]; simpa using hi⟩, fun i ρ' h' H2 a _ hi => ⟨at_ _ _ a, by rw [← rs.len]; simpa using hi⟩, fun i ρ' h' H2 y x H3 a p' ey yl => ?_⟩
      obtain ⟨e3, k, v, hk, ex⟩ := yl
      subst e3
      rw [List.getElem?_map] at ey
      cases q : kvs[i]? with
      | none => rw [q] at ey; cases ey
      | some kv =>
        rw [q] at ey
        cases ey
        obtain ⟨k', x', c, v', g1, g2, g3, _⟩ := RVd.get rs (List.getElem?_eq_some_iff.mp q).1
        rw [q] at g1; cases g1
        rw [hk] at g2; cases g2
        rw [ex]
        exact ⟨Ext.refl _ _, p', keyP_back g3⟩
    | dctO ks =>
      obtain ⟨d, ob, vs, e2, t, u, rs⟩ := r1
      refine ⟨d, e2, .inr ⟨ob, vs, t.2, u, ?_⟩⟩
      have nd : ¬ ρ1.has d := t.1
      have at_ : ∀ ρ' H2, Kp ρ1 H1 ρ' H2 → H2 d = some (.ext (Pin d ob)) := fun ρ' H2 a => (a.at_ (o := .ext (Pin d ob)) trivial nd t.2).2
      refine o1 ρ1 H1 _ (Ext.refl _ _) p1 ⟨fun i ρ' h' H2 a _ hi => ⟨at_ _ _ a, by rw [← rs.len]; exact hi⟩, fun i ρ' h' H2 a _ hi => ⟨at_ _ _ a, by rw [← rs.len]; exact hi⟩, fun i ρ' h' H2 y x H3 a p' ey yl => ?_⟩
      obtain ⟨e3, ex⟩ := yl
      subst e3
      obtain ⟨v', g1, g2⟩ := rs.get ey
      rw [ex] at g1; cases g1
      exact ⟨Ext.refl _ _, p', RV.kp a _ _ g2⟩
    | _ => exact o1.elim⟩
end
end Wg

namespace Wg
open PySem PySem.Spec PyProof.Rows L2 SlX
section
variable {X : Cx} {W : WQ} {K : KC} {ρ : Pl} {H : Hp} {h : Store} {pos : Pos} {e a b c : Expr} {ms : M (List PV)} {m : M PV} {px py pz pt : Pos} {kt k2 : Nat} {pt2 : Pos}
/-! ### x, y = a, b with plain local names -/
def mPar (i j : Nat) (ms : M (List PV)) : MS := fun l h => (ms l h).bs l fun xs h1 => match xs with
  | [x, y] => .ok (.nx ((l.set i (some x)).set j (some y))) h1
  | _ => .no
def mPar3 (i j k : Nat) (ms : M (List PV)) : MS := fun l h => (ms l h).bs l fun xs h1 => match xs with
  | [x, y, z] => .ok (.nx (((l.set i (some x)).set j (some y)).set k (some z))) h1
  | _ => .no
theorem rvs3 {x y z : PV} {vs : List V} (r : RVs K ρ H [x, y, z] vs) : ∃ u v w, vs = [u, v, w] ∧ RV K ρ H x u ∧ RV K ρ H y v ∧ RV K ρ H z w := by
  obtain ⟨u, r, e, h1, h2⟩ := r
  obtain ⟨v, w, e2, h3, h4⟩ := rvs2 h2
  exact ⟨u, v, w, by rw [e, e2], h1, h3, h4⟩
theorem xs_par {i j : Nat} {x y : Str} (hc : X.calm = true) (hN : X.N.Nodup) (ha : XA X W [a, b] ms) (hi : X.N[i]? = some x := by rfl) (hj : X.N[j]? = some y := by rfl) (hij : i ≠ j := by decide)
    (hx : X.env.scope.names.lookup x = some .local := by rfl) (hy : X.env.scope.names.lookup y = some .local := by rfl) (c1 : curNe W.cur i = true := by rfl) (c2 : curNe W.cur j = true := by rfl)
    (hw : swappedStores [.Tuple [.Name x px, .Name y py] kt pt] (.Tuple [a, b] k2 pt2) X.env = pure (some [x, y]) := by rfl)
    (hs : swapsWithSole [.Tuple [.Name x px, .Name y py] kt pt] (.Tuple [a, b] k2 pt2) pos.line X.env = pure false := by rfl) :
    XS X W (.Assign [.Tuple [.Name x px, .Name y py] kt pt] (.Tuple [a, b] k2 pt2) pos) (mPar i j ms) :=
  ps_weak (ps_par hc hN hi hj hij hx hy ha hw hs) fun D σ H ⟨ρ, h, l, p, rl, o⟩ => ⟨ρ, h, l, p, rl, Out.mono (OutS.bs rl o) fun vs H1 ⟨xs, h1, ρ1, e1, p1, r1, o1⟩ => by
    split at o1
    next x y =>
      obtain ⟨v, w, e, g1, g2⟩ := rvs2 r1
      exact ⟨v, w, e, o1 ρ1 H1 _ (Ext.refl _ _) p1 (((rl.ext e1).set c1 g1).set c2 g2)⟩
    next => exact o1.elim⟩
theorem xs_par3 {i j k : Nat} {x y z : Str} (hc : X.calm = true) (hN : X.N.Nodup) (ha : XA X W [a, b, c] ms) (hi : X.N[i]? = some x := by rfl) (hj : X.N[j]? = some y := by rfl) (hk : X.N[k]? = some z := by rfl) (hij : i ≠ j := by decide) (hik : i ≠ k := by decide) (hjk : j ≠ k := by decide)
    (hx : X.env.scope.names.lookup x = some .local := by rfl) (hy : X.env.scope.names.lookup y = some .local := by rfl) (hz : X.env.scope.names.lookup z = some .local := by rfl) (c1 : curNe W.cur i = true := by rfl) (c2 : curNe W.cur j = true := by rfl) (c3 : curNe W.cur k = true := by rfl)
    (hw : swappedStores [.Tuple [.Name x px, .Name y py, .Name z pz] kt pt] (.Tuple [a, b, c] k2 pt2) X.env = pure (some [x, y, z]) := by rfl)
    (hs : swapsWithSole [.Tuple [.Name x px, .Name y py, .Name z pz] kt pt] (.Tuple [a, b, c] k2 pt2) pos.line X.env = pure false := by rfl) :
    XS X W (.Assign [.Tuple [.Name x px, .Name y py, .Name z pz] kt pt] (.Tuple [a, b, c] k2 pt2) pos) (mPar3 i j k ms) :=
  ps_weak (ps_par3 hc hN hi hj hk hij hik hjk hx hy hz ha hw hs) fun D σ H ⟨ρ, h, l, p, rl, o⟩ => ⟨ρ, h, l, p, rl, Out.mono (OutS.bs rl o) fun vs H1 ⟨xs, h1, ρ1, e1, p1, r1, o1⟩ => by
    split at o1
    next x y z =>
      obtain ⟨u, v, w, e, g1, g2, g3⟩ := rvs3 r1
      exact ⟨u, v, w, e, o1 ρ1 H1 _ (Ext.refl _ _) p1 ((((rl.ext e1).set c1 g1).set c2 g2).set c3 g3)⟩
    next => exact o1.elim⟩
@[simp] theorem mPar_at (i j : Nat) (l : Lv) : mPar i j ms l h = (ms l h).bs l fun xs h1 => match xs with
  | [x, y] => .ok (.nx ((l.set i (some x)).set j (some y))) h1
  | _ => .no := (rfl)
@[simp] theorem mPar3_at (i j k : Nat) (l : Lv) : mPar3 i j k ms l h = (ms l h).bs l fun xs h1 => match xs with
  | [x, y, z] => .ok (.nx (((l.set i (some x)).set j (some y)).set k (some z))) h1
  | _ => .no := (rfl)
end
end Wg

namespace Wg
open PySem PySem.Spec PyProof.Rows L2 SlX
/-! ### making an error of an own class with an __init__; its super().__init__(..) -/
/-- that X(v) comes to the __init__ at fI; that the built-in __init__ of its base lays the args anew -/
structure MadeBy (K : PySem.W.Frag) (C : Addr) (i : String) : Prop where
  own : ∀ {prog : Program} {w : World} {A : Around} {R : Result → Shared → Prop} {h : Heap} {g : Array GenState} {d : Drawn} {t : Nat} {os : OsState} {rest : List Value} {fI : Addr}, K.In h →
    PySem.W.Looks (model prog w) h (typeLookup (.ref C) "__init__") (some (.ref fI)) → (∀ self, PySem.W.Looks (model prog w) h (bindSpecial (.ref fI) self) (.ref fI, [self])) → rest.length ≤ sizeLine →
    codeAny (model prog w) (A.under (.builtin "type.__call__" ⟨.ref C :: rest, []⟩)) (.call (.ref fI) ⟨.ref (h.objs.size + 1) :: rest, []⟩) (PySem.W.InitBack (h.objs.size + 1) R) ⟨(h.push (PySem.W.kdv_tup rest)).push (PySem.HandSPX.excO C h.objs.size), g, d, t, os⟩ →
    codeAny (model prog w) A (.call (.ref C) ⟨rest, []⟩) R ⟨h, g, d, t, os⟩
  ini : ∀ {prog : Program} {w : World} {A : Around} {E : Value → Shared → Prop} {s : Shared} {h₀ : Heap} {L : Addr} {m : Str → Option Value} {news : List (Addr × Obj)} {x u t : Addr} {dv : Option Addr} {c2 : Value} {rest : List Value} {nw : Obj → List (Addr × Obj)} {Q : Value → Shared → Prop},
    Fr h₀ L s.heap m → K.In h₀ → News h₀ L s.heap news → (u, PySem.W.kxs_mw i x) ∈ news → PySem.W.UpdF x (PySem.W.excObj C t dv c2) news nw → rest.length ≤ sizeLine →
    (∀ t' h', Fr h₀ L h' m → News h₀ L h' ((t', PySem.W.excTup rest) :: nw (PySem.W.excObj C t' dv c2)) → (∀ p ∈ news, p.1 < t') → Q .none { s with heap := h' }) → wpAny (model prog w) A (call (.ref u) rest) Q E s
section
variable {K : PySem.W.Frag} {C : Addr} {B newId i : String} {bmB : List Value}
theorem madeBy_base (FB : ExcBaseFacts B newId i bmB) (q : PySem.W.excInitIn K C bmB newId = true) : MadeBy K C i where
  own := fun hin hi hb hz hq => by
    obtain ⟨nm, N', qn, bs, bm, hdct', sn, sub, ab, col, dd, k0, k1, k2, k3, k5, hC, hT⟩ := PySem.W.excInit_of hin q
    exact PySem.HandSPX.call_own FB hT hC hi hb hz hq
  ini := fun F X N hm U hz h => PySem.W.kxs_call F X N FB q hm U hz h
end
/-! KeyError: it takes the __new__ of LookupError, and has an __init__ of its own -/
abbrev mroKey : List Value := [.type "KeyError", .type "LookupError", .type "Exception", .type "BaseException", .type "object"]
theorem key_plain : Slot "KeyError" "__init__" "KeyError.__init__" :=
  Slot.of (owner := "KeyError") (n := "__init__") (by rw [typeLookup_type, builtinLookup_eq_fast]; kernel_rfl) (by decide +kernel)
    (by decide +kernel) (by decide +kernel) (by first | exact .inl (by decide +kernel) | exact .inr (by decide +kernel))
    (by rw [isSubtype_type]; kernel_rfl)
theorem key_entry : entryFor table "KeyError.__init__" = some Builtin.«BaseException.__init__» :=
  entryFor_alias (id' := "BaseException.__init__") (by rw [fastTable_eq_tree]; kernel_rfl) (by first | rfl | decide +kernel) (by decide +kernel)
    (by rw [fastTable_eq_tree]; kernel_rfl)
theorem key_kind : builtinKind "KeyError.__init__" = some .slot := by kernel_rfl
theorem key_row : Manifest.signature? "KeyError.__init__" = some ⟨.positional, "*", "KeyError", .self, [⟨"args", .varPos, false⟩]⟩ := by kernel_rfl
section
variable {M : Model} {A : Around} {E : Value → Shared → Prop} {h : Heap} {g : Array GenState} {d : Drawn} {t : Nat} {os : OsState}
variable {nm q : Str} {C N : Addr} {bs bm bmL : List Value} {hdct : Bool} {sn : List Str} {sub : List Value} {ab : Bool} {col : Option Bool} {dd : Option Addr} {k0 k1 k2 k3 k5 : Option Value} {B nw iB : String}
/-- the class object, its bases -/
abbrev clsO (nm q : Str) (C N : Addr) (bs bm : List Value) (hdct : Bool) (sn : List Str) (sub : List Value) (ab : Bool) (col : Option Bool) (dd : Option Addr) (k0 k1 k2 k3 k5 : Option Value) (nw : String) : Obj := excClassObj nm q C N bs bm hdct sn sub ab col dd k0 k1 k2 k3 k5 nw
theorem bent_check (F : ExcBaseFacts B nw iB bmL) (hb : (Value.ref C :: bm).contains (.type B) = true) {us : List Value} {Q : Unit → Shared → Prop} (gC : h.get? C = some (clsO nm q C N bs bm hdct sn sub ab col dd k0 k1 k2 k3 k5 nw))
    (done : Q () ⟨h, g, d, t, os⟩) : wpAny M A (checkBuiltinCall nw ⟨.ref C :: us, []⟩) Q E ⟨h, g, d, t, os⟩ := by
  have ns := F.noStar
  simp only [checkBuiltinCall, F.newSplit, F.newKind, F.newRow]
  repeat (first | refine wpAny_loadPart_at gC ?_ | (refine wpAny_isSubtype_exc gC ?_; rw [hb]) | refine wpAny_staticBase_exc gC ?_ | refine wpAny_madeBy_exc gC ?_ | simp only [Bool.false_eq_true, bne_self_eq_false, if_false] | wp_step)
  exact done
end
section
variable {prog : Program} {w : World} {A : Around} {E : Value → Shared → Prop} {R : Result → Shared → Prop} {h : Heap} {g : Array GenState} {d : Drawn} {t : Nat} {os : OsState}
variable {nm q : Str} {C N : Addr} {bs bm bmL : List Value} {hdct : Bool} {sn : List Str} {sub : List Value} {ab : Bool} {col : Option Bool} {dd : Option Addr} {k0 k1 k2 k3 k5 : Option Value} {B nw iB : String}
/-- what is made first -/
abbrev made2 (h : Heap) (C : Addr) (us : List Value) : Heap := (h.push (PySem.W.kdv_tup us)).push (PySem.HandSPX.excO C h.objs.size)
theorem bent_new (F : ExcBaseFacts B nw iB bmL) (hb : (Value.ref C :: bm).contains (.type B) = true) (ha : (Value.ref C :: bm).contains (.type "AttributeError") = false) (hn : (Value.ref C :: bm).contains (.type "NameError") = false) {us : List Value}
    (gC : h.get? C = some (clsO nm q C N bs bm hdct sn sub ab col dd k0 k1 k2 k3 k5 nw)) (done : R (.ok (.ret (.ref (h.objs.size + 1)))) ⟨made2 h C us, g, d, t, os⟩) (hz : us.length ≤ sizeLine) :
    codeAny (model prog w) A (.builtin nw ⟨.ref C :: us, []⟩) R ⟨h, g, d, t, os⟩ := by
  have en := F.ends
  refine codeAny_builtinAt (F.entry) ?_
  unfold Builtin.«BaseException.__new__»
  refine PySem.wpAt_bind ?_
  show PySem.wpAt _ _ _ (stack >>= _) _ _ _
  refine PySem.wpAt_bind (PySem.wpAt_stack fun _ _ => PySem.wpAt_of_wpAny ?_)
  wp_walk
  refine PySem.wpAt_of_wpAny ?_
  rw [F.owner]
  repeat (first | with_reducible refine wpAny_madeHere_exc F.canon gC ?_ | with_reducible refine wpAny_loadPart_at gC ?_ | (with_reducible refine wpAny_isSubtype_exc gC ?_; first | rw [hb] | rw [ha] | rw [hn]) | wp_step)
  show R _ _
  rw [Heap.size_push]
  exact done
theorem bent_type (F : ExcBaseFacts B nw iB bmL) (hb : (Value.ref C :: bm).contains (.type B) = true) (ha : (Value.ref C :: bm).contains (.type "AttributeError") = false) (hn : (Value.ref C :: bm).contains (.type "NameError") = false) {us : List Value} {fI : Addr} {Q : Fin → Shared → Prop}
    (gC : h.get? C = some (clsO nm q C N bs bm hdct sn sub ab col dd k0 k1 k2 k3 k5 nw)) (hi : PySem.W.Looks (model prog w) h (typeLookup (.ref C) "__init__") (some (.ref fI))) (bd : ∀ self, PySem.W.Looks (model prog w) h (bindSpecial (.ref fI) self) (.ref fI, [self])) (hz : us.length ≤ sizeLine)
    (go : codeAny (model prog w) A (.call (.ref fI) ⟨.ref (h.objs.size + 1) :: us, []⟩) (fun r s' => match r with | .ok (.ret v) => v = .none ∧ Q (.done (.ret (.ref (h.objs.size + 1)))) s' | .ok _ => False | .error e => E e s') ⟨made2 h C us, g, d, t, os⟩) :
    wpAny (model prog w) A (Builtin.«type.__call__» ⟨.ref C :: us, []⟩) Q E ⟨h, g, d, t, os⟩ := by
  repeat (first | with_reducible refine wpAny_loadPart_at gC ?_ | with_reducible refine wpAny_madeBy_exc gC ?_ | wp_step)
  refine codeAny_call_builtin_code (Code.quiet_builtin _ F.quiet) (bent_check F hb gC ?_)
  refine bent_new F hb ha hn gC ?_ hz
  show wpAny _ _ _ _ _ _
  have up : ∀ b o, h.get? b = some o → (made2 h C us).get? b = some o := fun b o e => Heap.get?_push_of_some _ (Heap.get?_push_of_some _ e)
  have gC2 := up _ _ gC
  have ge : (made2 h C us).get? (h.objs.size + 1) = some (PySem.HandSPX.excO C h.objs.size) := by heap_get
  have cC : (Value.ref C :: bm).contains (.ref C) = true := by simp
  have hi2 := hi.keeps up
  have bd2 := (bd (.ref (h.objs.size + 1))).keeps up
  unfold isInstance
  repeat (first | with_reducible refine wpAny_loadPart_at ge ?_ | (with_reducible refine wpAny_isSubtype_exc gC2 ?_; rw [cC]) | wp_step)
  show wpAny _ _ (typeLookup (.ref C) _) _ _ _
  refine hi2.at ?_
  refine wpAny_holding (wpAny_bind (bd2.at ?_))
  refine wpAny_bind (wpAny_call (codeAny_mono go fun r s' z => ?_))
  rcases r with e | (v | _ | _ | _) <;> first | exact z | exact z.elim | skip
  obtain ⟨rfl, z⟩ := z
  first | exact wpAny_pure (wpAny_pure z) | (wp_walk; exact z)
theorem bent_call (F : ExcBaseFacts B nw iB bmL) (hb : (Value.ref C :: bm).contains (.type B) = true) (ha : (Value.ref C :: bm).contains (.type "AttributeError") = false) (hn : (Value.ref C :: bm).contains (.type "NameError") = false) {us : List Value} {fI : Addr}
    (gC : h.get? C = some (clsO nm q C N bs bm hdct sn sub ab col dd k0 k1 k2 k3 k5 nw)) (hi : PySem.W.Looks (model prog w) h (typeLookup (.ref C) "__init__") (some (.ref fI))) (bd : ∀ self, PySem.W.Looks (model prog w) h (bindSpecial (.ref fI) self) (.ref fI, [self])) (hz : us.length ≤ sizeLine)
    (go : codeAny (model prog w) (A.under (.builtin "type.__call__" ⟨.ref C :: us, []⟩)) (.call (.ref fI) ⟨.ref (h.objs.size + 1) :: us, []⟩) (PySem.W.InitBack (h.objs.size + 1) R) ⟨made2 h C us, g, d, t, os⟩) : codeAny (model prog w) A (.call (.ref C) ⟨us, []⟩) R ⟨h, g, d, t, os⟩ := by
  have l1 := tc_lookup
  have l2 := tc_bind (.ref C)
  have ty : (⟨h, g, d, t, os⟩ : Shared).TypeIs (.ref C) "type" := ⟨_, gC, rfl⟩
  refine codeAny_of_tree ?_
  show wpAny _ _ (callAny (.ref C) _) _ _ _
  repeat (any_goals (first | assumption | with_reducible refine wpAny_loadPart_at gC ?_ | wp_step))
  refine ⟨rfl, ?_⟩
  refine codeAny_call_builtin_at (Code.quiet_builtin _ (by decide +kernel)) entry_typeCall (wpAny_check_type_call_sub gC (bent_type F hb ha hn gC hi bd hz ?_))
  refine codeAny_mono go fun r s' z => ?_
  rcases r with e | (v | _ | _ | _) <;> exact z
end
section
variable {prog : Program} {w : World} {A : Around} {E : Value → Shared → Prop} {h₀ : Heap} {L : Addr} {m : Str → Option Value} {news : List (Addr × Obj)} {K : PySem.W.Frag} {x u C : Addr}
theorem key_bound {M : Model} {h : Heap} {g : Array GenState} {d : Drawn} {tk : Nat} {os : OsState} {cd : ClassData} {dd : Option Addr} {sl : Array (Option Value)} {oe : Obj} {us : List Value} {Q : Unit → Shared → Prop} (gC : h.get? C = some ⟨.type "type", dd, .cls cd, sl⟩) (he : h.get? x = some oe) (hc : oe.cls = .ref C) (done : Q () ⟨h, g, d, tk, os⟩) :
    wpAny M A (checkBoundCall "KeyError.__init__" ⟨.ref x :: us, []⟩) Q E ⟨h, g, d, tk, os⟩ := by
  have ns : ("KeyError" != "*") = true := by decide +kernel
  simp only [checkBoundCall, key_kind, key_row]
  repeat (first | (with_reducible refine wpAny_loadPart_at he ?_; rw [hc]) | with_reducible refine wpAny_loadPart_at gC ?_ | wp_step)
  refine wpAny_onRaise ?_
  have star : ∀ (a b : String) (n : Nat), Bind.check ⟨.positional, "*", "KeyError", .self, [⟨"args", .varPos, false⟩]⟩ a b n (List.map (fun x => x.fst) ({ pos := Value.ref x :: us } : Args).kw) = pure () := fun a b n => check_star_args _ _ _ _ _ _
  rw [star]
  exact wpAny_pure done
theorem key_ini {s : Shared} {t : Addr} {dv : Option Addr} {c2 : Value} {us : List Value} {nw : Obj → List (Addr × Obj)} {cd : ClassData} {dd : Option Addr} {sl : Array (Option Value)} {Q : Value → Shared → Prop} (F : Fr h₀ L s.heap m) (gC : s.heap.get? C = some ⟨.type "type", dd, .cls cd, sl⟩) (N : News h₀ L s.heap news) (hm : (u, PySem.W.kxs_mw "KeyError.__init__" x) ∈ news)
    (U : PySem.W.UpdF x (PySem.W.excObj C t dv c2) news nw) (hz : us.length ≤ sizeLine)
    (done : ∀ t' h', Fr h₀ L h' m → News h₀ L h' ((t', PySem.W.excTup us) :: nw (PySem.W.excObj C t' dv c2)) → (∀ p ∈ news, p.1 < t') → Q .none { s with heap := h' }) : wpAny (model prog w) A (call (.ref u) us) Q E s := by
  have gu := (N _ hm).1
  obtain ⟨l1, l2, e0, e1, n1, n2⟩ := U.split
  subst e0
  have mx : (x, PySem.W.excObj C t dv c2) ∈ l1 ++ (x, PySem.W.excObj C t dv c2) :: l2 := by simp
  obtain ⟨gx, xL, x0⟩ := N _ mx
  have below : ∀ p ∈ l1 ++ (x, PySem.W.excObj C t dv c2) :: l2, p.1 < s.heap.objs.size := fun p hp => Heap.lt_size (N p hp).1
  have fin : ∀ h', (∀ b o, b ≠ x → s.heap.get? b = some o → h'.get? b = some o) → h'.get? x = some (PySem.W.excObj C s.heap.objs.size dv c2) → h'.get? s.heap.objs.size = some (PySem.W.excTup us) → Q .none { s with heap := h' } := by
    intro h' old gx' gt'
    obtain ⟨oL, es, ep, gL, rest⟩ := F.ns
    have free : h₀.get? s.heap.objs.size = none := by
      cases z : h₀.get? s.heap.objs.size with
      | none => rfl
      | some o => exact absurd (Heap.lt_size (F.keep _ _ z)) (Nat.lt_irrefl _)
    have F' : Fr h₀ L h' m := by
      refine ⟨⟨oL, es, ep, old _ _ (Ne.symm xL) gL, rest⟩, fun b o z => ?_, F.above⟩
      by_cases y : b = x
      · rw [y, x0] at z; cases z
      · exact old b o y (F.keep b o z)
    refine done _ h' F' (fun p hp => ?_) below
    rw [e1] at hp
    rcases List.mem_cons.mp hp with e | hp
    · rw [e]
      refine ⟨gt', fun z => ?_, free⟩
      have z' : s.heap.objs.size = L := z
      have y := Heap.lt_size gL
      rw [← z'] at y
      exact absurd y (Nat.lt_irrefl _)
    · rcases List.mem_append.mp hp with hp | hp
      · obtain ⟨y1, y2⟩ := N p (List.mem_append.mpr (.inl hp))
        exact ⟨old _ _ (n1 p hp) y1, y2⟩
      · rcases List.mem_cons.mp hp with e | hp
        · rw [e]; exact ⟨gx', xL, x0⟩
        · obtain ⟨y1, y2⟩ := N p (List.mem_append.mpr (.inr (List.mem_cons_of_mem _ hp)))
          exact ⟨old _ _ (n2 p hp) y1, y2⟩
  obtain ⟨hh, g, d, tk, os⟩ := s
  refine wpAny_call (codeAny_of_tree ?_)
  show wpAny _ A.in1 (callAny (.ref u) ⟨us, []⟩) _ _ _
  simp only [callAny]
  refine wpAny_bind (wpAny_load gu ?_)
  have tb : (Value.type "method-wrapper" == Value.type "method" || Value.type "method-wrapper" == Value.type "builtin_function_or_method" || Value.type "method-wrapper" == Value.type "method-wrapper") = true := by decide
  simp only [PySem.W.kxs_mw, tb, if_true]
  refine PySem.W.KFB.if_so (by decide) ?_
  refine wpAny_bind (key_bound gC gx rfl ?_)
  refine wpAny_bind (wpAny_pure (wpAny_pure ?_))
  refine ⟨plainId_quiet key_plain.plain _, codeAny_builtin key_entry ?_⟩
  exact PySem.W.exc_init_tree (cls := .ref C) (t0 := t) (dv := dv) (c2 := c2) (c3 := .none) (b4 := .bool false) gx hz fin
theorem madeBy_key (q : PySem.W.excInitIn K C mroKey "LookupError.__new__" = true) : MadeBy K C "KeyError.__init__" where
  own := fun hin hi hb hz hq => by
    obtain ⟨nm, N', qn, bs, bm, hdct', sn, sub, ab, col, dd, k0, k1, k2, k3, k5, hC, hT⟩ := PySem.W.excInit_of hin q
    refine bent_call PySem.F.excBase_LookupError ?_ ?_ ?_ hC hi hb hz hq
    · rw [List.contains_cons, hT, show mroKey.contains (Value.type "LookupError") = true by decide +kernel, Bool.or_true]
    · rw [List.contains_cons, hT, show mroKey.contains (Value.type "AttributeError") = false by decide +kernel]; rfl
    · rw [List.contains_cons, hT, show mroKey.contains (Value.type "NameError") = false by decide +kernel]; rfl
  ini := fun F X N hm U hz h => by
    obtain ⟨nm, N', qn, bs, bm, hdct', sn, sub, ab, col, dd, k0, k1, k2, k3, k5, hC, hT⟩ := PySem.W.excInit_of (X.keeps F.keep) q
    exact key_ini F hC N hm U hz h
end
theorem kxs_KeyError : PySem.W.KxsFacts "KeyError" "KeyError.__init__" := ⟨by show builtinType _ = _; rw [builtinType_eq_fast]; kernel_rfl, (by first | kernel_rfl | rfl)⟩
theorem store_KeyError : PySem.StoreFacts "KeyError" mroKey "object.__setattr__" "object" where
  mro := (by kernel_rfl)
  slot := Slot.of (owner := "object") (n := "__setattr__") (by rw [typeLookup_type, builtinLookup_eq_fast]; kernel_rfl) (by decide +kernel)
    (by decide +kernel) (by decide +kernel) (by first | exact .inl (by decide +kernel) | exact .inr (by decide +kernel)) (by rw [isSubtype_type]; kernel_rfl)
  entry := PySem.F.entry_object_sa
  kind := (by decide +kernel)
  split := (by decide +kernel)
  hasOwner := (by decide +kernel)
  args := fun x y z => (by unfold argsOk; kernel_rfl)
  passes := fun self => (by kernel_rfl)
end Wg

namespace Wg
open PySem PySem.Spec PyProof.Rows L2 SlX
/-! ### X(v), X an error class whose __init__ says super().__init__('..') and keeps v -/
/-- where the class, its __init__ and what these need stand, of what base it is -/
structure InitR where
  C : Addr
  fI : Addr
  cc : Addr
  cda : Addr
  B : String
  i : String
  bmB : List Value
  qual : Str
  st : Stmt
  od : Option Addr
  osl : Array (Option Value)
  dV : Value
  kV : Value
  doc : Value
  pm : Value
  an : Option Addr
  ct : Value
  vs : Array Value
  f : Str
  p : Str
abbrev InitR.fd (r : InitR) : FuncData := PySem.W.ksFn "__init__" r.qual (defArgs r.st) (defBody r.st) (defScope r.st) r.dV r.kV r.doc r.pm r.an (.ref r.cda) r.ct r.cc
/-- the body -/
def initBody (m f p : Str) (k : Nat) (ps : Fin 10 → Pos) : List Stmt :=
  [.Expr (.Call (.Attribute (.Call (.Name "super" (ps 0)) [] [] (ps 1)) "__init__" (ps 2)) [.Constant (.str m) k (ps 3)] [] (ps 4)) (ps 5), .Assign [.Attribute (.Name "self" (ps 6)) f (ps 7)] (.Name p (ps 8)) (ps 9)]
structure InitOk (P : Program) (K : PySem.W.Frag) (r : InitR) : Prop where
  MB : MadeBy K r.C r.i
  KF : PySem.W.KxsFacts r.B r.i
  SF : PySem.StoreFacts r.B r.bmB "object.__setattr__" "object"
  hi : PySem.W.findIn K (.ref r.C) "__init__" = some (some (.ref r.fI))
  ho : K.lookup r.fI = some ⟨.type "function", r.od, .func r.fd, r.osl⟩
  hcd : PySem.W.codeIn K (.ref r.cda) r.qual = true
  hcode : ∃ ccl cdd ccs file tf, K.lookup r.cda = some ⟨ccl, cdd, .fields r.vs, ccs⟩ ∧ r.vs[2]? = some (.str file tf) ∧ ((P.main.file : Str) == file) = true
  hcell : ∃ cl cld csl, K.lookup r.cc = some ⟨cl, cld, .cell (some (.ref r.C)), csl⟩
  hD : (PySem.W.clsIn K r.C).isSome = true
  hsub : PySem.W.mroIn K r.C (.ref r.C) = some true
  hm : PySem.W.ks_superIn K r.C r.C "__init__" = some (some (.builtin r.i))
  hB : PySem.W.subIn K (.ref r.C) (.type r.B) = some true
  hop : PySem.W.nsIn K cStatics "thirdparty.any" = some none
  hsa : PySem.W.findIn K (.ref r.C) "__setattr__" = some (some (.builtin "object.__setattr__"))
  hov : PySem.W.excOver K r.C r.bmB = true
  htk : PySem.W.takerIn K r.C r.f = some none
  hdct : PySem.W.hasDictIn K r.C = true
  htop : (P.main.scope.names.lookup ("super" : Str)).isSome = false
  body : ∃ m k ps, defBody r.st = initBody m r.f r.p k ps ∧ ∀ env : Env, ∃ pl : Sem Bool, eval (.Call (.Attribute (.Call (.Name "super" (ps 0)) [] [] (ps 1)) "__init__" (ps 2)) [.Constant (.str m) k (ps 3)] [] (ps 4)) env = (do
      let ov ← attributeBase (.Call (.Name "super" (ps 0)) [] [] (ps 1)) "__init__" env (eval (.Call (.Name "super" (ps 0)) [] [] (ps 1)) env)
      standAt (ps 2).atName
      let (f, first) ← holding [ov] (getMethod ov "__init__" pl)
      callWith (ps 4) f first (backTo (ps 4) (starEach [.Constant (.str m) k (ps 3)] env)) [])
  par : ∃ ar : Arg, ((defArgs r.st).posonlyargs ++ (defArgs r.st).args).head? = some ar ∧ ar.arg = "self"
  bind : ∀ (s : Shared) (u v : Value), BindsTo s r.fd ⟨[u, v], []⟩ [("self", u), (r.p, v)]
  kS : (defScope r.st).names.lookup ("super" : Str) = some .globalImplicit
  kC : (defScope r.st).names.lookup ("__class__" : Str) = some .free
  kf : (defScope r.st).names.lookup ("self" : Str) = some .local
  kp : (defScope r.st).names.lookup r.p = some .local
  nop : ("self" : Str) ≠ r.p
  ndb : (r.p == ("__debug__" : Str)) = false
  cel : ∀ x ∈ (defScope r.st).names, x.2 ≠ .cell
  co : (defScope r.st).isCoroutine = false
  gen : (defScope r.st).isGenerator = false
  fun_ : (defScope r.st).kind = .function
section
open PySem.W PySem.Calls
variable {P : Program} {w : World} {A : Around} {E : Value → Shared → Prop} {s : Shared} {K : PySem.W.Frag} {r : InitR} {mg mb : Str → Option Value}
theorem call_errI (T : InitOk P K r) (hin : K.In s.heap) (hg : s.heap.Ns mainGlobals mg) (hmg : mg "super" = none) (hb : s.heap.Ns builtinsNs mb) (hmb : mb "super" = some (.type "super")) (hlim : s.heap.NoLimit) (hroom : A.depth + 3 < recursionLimit) {v : Value} {Q : Value → Shared → Prop}
    (h : ∀ e dx t h' tk, (∀ b o, s.heap.get? b = some o → h'.get? b = some o) → s.heap.objs.size ≤ e → s.heap.objs.size ≤ dx → e ≠ dx → h'.get? e = some (PySem.W.excObj r.C t (some dx) .none) → h'.Ns1 dx (fun y => if y = r.f then some v else none) → Q (.ref e) { s with heap := h', toks := tk }) :
    wpAny (model P w) A (call (.ref r.C) [v]) Q E s := by
  have hoI := hin _ _ T.ho
  have hi' := PySem.W.looks_findIn (M := model P w) hin T.hi
  obtain ⟨ccl, cdd, ccs, file, tf, hcode, hvs, hfile⟩ := T.hcode
  obtain ⟨cl, cld, csl, hcell⟩ := T.hcell
  obtain ⟨m, k, ps, body, he⟩ := T.body
  obtain ⟨ar, har, har2⟩ := T.par
  obtain ⟨hh, g, d, tk0, os⟩ := s
  have kk : ∀ b o, hh.get? b = some o → ((hh.push (PySem.W.kdv_tup [v])).push (PySem.HandSPX.excO r.C hh.objs.size)).get? b = some o := fun b o e => Heap.get?_push_of_some _ (Heap.get?_push_of_some _ e)
  have ge : ((hh.push (PySem.W.kdv_tup [v])).push (PySem.HandSPX.excO r.C hh.objs.size)).get? (hh.objs.size + 1) = some (PySem.HandSPX.excO r.C hh.objs.size) := by heap_get
  have gt : ((hh.push (PySem.W.kdv_tup [v])).push (PySem.HandSPX.excO r.C hh.objs.size)).get? hh.objs.size = some (PySem.W.kdv_tup [v]) := by heap_get
  have gz : ((hh.push (PySem.W.kdv_tup [v])).push (PySem.HandSPX.excO r.C hh.objs.size)).objs.size = hh.objs.size + 2 := by simp [Heap.size_push]
  have kroom : (A.under (.builtin "type.__call__" ⟨.ref r.C :: [v], []⟩)).depth < recursionLimit := by rw [make_depth]; omega
  refine wpAny_call (T.MB.own hin hi' (fun self => PySem.W.exc_bind hoI rfl self) (by simp [sizeLine_eq]) ?_)
  refine PySem.ks_codeAny_call_defAt (fd := r.fd) (body := defBody r.st) (binds := [("self", .ref (hh.objs.size + 1)), (r.p, v)]) kroom (kk _ _ hoI) rfl (hlim.keeps kk) (PySem.W.codeRec_of (hin.keeps kk) T.hcd) rfl (T.bind _ _ _)
    T.cel (fun y hy => ?_) (fun h₁ hns hk₁ => ?_) T.co T.gen T.fun_
  · simp only [List.mem_cons, List.not_mem_nil, or_false] at hy
    rcases hy with rfl | rfl
    · exact T.kf
    · exact T.kp
  rw [gz] at hns ⊢
  -- the frame of __init__, what was laid
  have F0 : Fr hh (hh.objs.size + 2) h₁ (fun x => List.lookup x ([("self", Value.ref (hh.objs.size + 1)), (r.p, v)] : List (Str × Value)).reverse) := ⟨hns, fun b o e => hk₁ b o (kk b o e), by omega⟩
  have N0 : News hh (hh.objs.size + 2) h₁ [(hh.objs.size + 1, PySem.W.excObj r.C hh.objs.size none .none)] := fun p hp => by
    rw [List.mem_singleton.mp hp]
    exact ⟨hk₁ _ _ ge, by show hh.objs.size + 1 ≠ hh.objs.size + 2; omega, by
      cases z : hh.get? (hh.objs.size + 1) with
      | none => rfl
      | some o => exact absurd (Heap.lt_size z) (Nat.not_lt.mpr (Nat.le_succ _))⟩
  have mself : (fun x => List.lookup x ([("self", Value.ref (hh.objs.size + 1)), (r.p, v)] : List (Str × Value)).reverse) "self" = some (.ref (hh.objs.size + 1)) := by
    show List.lookup ("self" : Str) ([(r.p, v), ("self", Value.ref (hh.objs.size + 1))] : List (Str × Value)) = _
    have : (("self" : Str) == r.p) = false := by simpa using T.nop
    rw [List.lookup_cons, this, List.lookup_cons]
    simp
  have mp : (fun x => List.lookup x ([("self", Value.ref (hh.objs.size + 1)), (r.p, v)] : List (Str × Value)).reverse) r.p = some v := by
    show List.lookup r.p ([(r.p, v), ("self", Value.ref (hh.objs.size + 1))] : List (Str × Value)) = _
    rw [List.lookup_cons]
    simp
  generalize (fun x => List.lookup x ([("self", Value.ref (hh.objs.size + 1)), (r.p, v)] : List (Str × Value)).reverse) = m0 at *
  generalize hL : hh.objs.size + 2 = L at *
  have hin1 : K.In h₁ := hin.keeps fun b o e => hk₁ b o (kk b o e)
  rw [body]
  unfold initBody
  obtain ⟨pl, he⟩ := he (callEnv r.fd L r.fI)
  refine PySem.ks_wpAt_execs_cons (PySem.ks_wpAt_Expr_any (PySem.ks_wpAt_MethodCall ?_ he) (by show (_ && _) = false; rw [show ((callEnv r.fd L r.fI).scope.kind == .module) = false from by rw [show (callEnv r.fd L r.fI).scope.kind = .function from T.fun_]; rfl]; rfl))
  -- super()
  refine PySem.ks_wpAt_super_base (env := callEnv r.fd L r.fI) T.kS T.kC rfl rfl (hin1 _ _ T.ho) rfl har rfl (hin1 _ _ hcode) rfl hvs hfile T.htop ?_
  have up1 : ∀ b o, hh.get? b = some o → h₁.get? b = some o := fun b o e => hk₁ b o (kk b o e)
  refine PySem.W.ks_loadName_global T.fun_ T.kS (loadGlobal_builtin (env := callEnv r.fd L r.fI) (hg.keeps up1) hmg (hb.keeps up1) hmb ⟨rfl, ?_⟩)
  refine wpAny_loadName_free T.fun_ T.kC rfl ⟨_, hin1 _ _ hcell, rfl⟩ ?_
  refine wpAny_loadName_local T.fun_ (by rw [har2]; exact T.kf) F0.ns (by rw [har2]; exact mself) ?_
  obtain ⟨cdD, hcD⟩ := Option.isSome_iff_exists.mp T.hD
  obtain ⟨oD, hD1, hD2⟩ : ∃ oD, h₁.get? r.C = some oD ∧ oD.data = .cls cdD := by
    unfold PySem.W.clsIn at hcD
    split at hcD
    · rename_i c d cd' sl hoD
      cases hcD
      exact ⟨_, hin1 _ _ hoD, rfl⟩
    · cases hcD
  refine PySem.ks_wpAny_isType_cls hD1 hD2 ⟨rfl, ?_⟩
  have ge1 := (N0 _ List.mem_cons_self).1
  refine PySem.ks_wpAny_call_super hD1 hD2 ge1 rfl (fun c e => by cases e) (PySem.W.looks_mroIn hin1 T.hsub) (fun h2 e2 k2 => ?_)
  obtain ⟨F2, N2, l2⟩ := PySem.W.ks_newsPush (s := ⟨h₁, g, d, tk0 + 2, os⟩) F0 N0 rfl e2 k2
  have I2 : PySem.W.InstAt h2 (hh.objs.size + 1) (PySem.W.excObj r.C hh.objs.size none .none) r.C none := ⟨(N2 _ (List.mem_cons_of_mem _ List.mem_cons_self)).1, rfl, rfl, trivial⟩
  refine PySem.W.kxs_method T.KF F2 hin N2 List.mem_cons_self I2 T.hop T.hm T.hB rfl fun q3 h3 F3 N3 l3 => ?_
  refine PySem.W.kxs_callWith1 (x := hh.objs.size + 1) N3 List.mem_cons_self ?_
  show wpAny _ _ (spliced ((false, eval (.Constant (.str m) k (ps 3)) (callEnv r.fd L r.fI)) :: backTo (ps 4) (starEach [] (callEnv r.fd L r.fI)))) _ _ _
  refine spliced_cons (wpAny_Constant_str ?_)
  refine spliced_nil ⟨PySem.W.kxs_at N3 List.mem_cons_self, ?_⟩
  dsimp only
  have U3 : PySem.W.UpdF (hh.objs.size + 1) (PySem.W.excObj r.C hh.objs.size none .none) [(q3, PySem.W.kxs_mw r.i (hh.objs.size + 1)), (h₁.objs.size, PySem.W.ks_superObj r.C (hh.objs.size + 1) r.C), (hh.objs.size + 1, PySem.W.excObj r.C hh.objs.size none .none)]
      (fun o' => [(q3, PySem.W.kxs_mw r.i (hh.objs.size + 1)), (h₁.objs.size, PySem.W.ks_superObj r.C (hh.objs.size + 1) r.C), (hh.objs.size + 1, o')]) :=
    .tail (Nat.ne_of_gt (l3 _ (List.mem_cons_of_mem _ List.mem_cons_self))) (.tail (Nat.ne_of_gt (l2 _ List.mem_cons_self)) (.head fun p hp => absurd hp List.not_mem_nil))
  refine T.MB.ini F3 hin N3 List.mem_cons_self U3 (by simp [sizeLine_eq]) fun t4 h4 F4 N4 l4 => ?_
  -- self.f = v
  refine PySem.ks_wpAt_execs_cons (PySem.ks_wpAt_Assign_Attr ?_)
  refine wpAt_of_wpAny (wpAny_Name (wpAny_loadName_local T.fun_ T.kp F4.ns mp ?_) T.ndb)
  refine wpAny_Name (wpAny_loadName_local T.fun_ T.kf F4.ns mself ?_) (by decide)
  have lt4 : ∀ p ∈ [(q3, PySem.W.kxs_mw r.i (hh.objs.size + 1)), (h₁.objs.size, PySem.W.ks_superObj r.C (hh.objs.size + 1) r.C), (hh.objs.size + 1, PySem.W.excObj r.C t4 none .none)], p.1 < t4 := fun p hp => by
    simp only [List.mem_cons, List.not_mem_nil, or_false] at hp
    rcases hp with rfl | rfl | rfl
    · exact l4 _ List.mem_cons_self
    · exact l4 _ (List.mem_cons_of_mem _ List.mem_cons_self)
    · exact l4 (hh.objs.size + 1, PySem.W.excObj r.C hh.objs.size none .none) (List.mem_cons_of_mem _ (List.mem_cons_of_mem _ List.mem_cons_self))
  have U4 : PySem.W.UpdF (hh.objs.size + 1) (PySem.W.excObj r.C t4 none .none) ((t4, PySem.W.excTup [.str m (tk0 + 2 + 1)]) :: [(q3, PySem.W.kxs_mw r.i (hh.objs.size + 1)), (h₁.objs.size, PySem.W.ks_superObj r.C (hh.objs.size + 1) r.C), (hh.objs.size + 1, PySem.W.excObj r.C t4 none .none)])
      (fun o' => (t4, PySem.W.excTup [.str m (tk0 + 2 + 1)]) :: [(q3, PySem.W.kxs_mw r.i (hh.objs.size + 1)), (h₁.objs.size, PySem.W.ks_superObj r.C (hh.objs.size + 1) r.C), (hh.objs.size + 1, o')]) :=
    .tail (Nat.ne_of_gt (lt4 _ (List.mem_cons_of_mem _ (List.mem_cons_of_mem _ List.mem_cons_self)))) (.tail (Nat.ne_of_gt (l3 _ (List.mem_cons_of_mem _ List.mem_cons_self))) (.tail (Nat.ne_of_gt (l2 _ List.mem_cons_self)) (.head fun p hp => absurd hp List.not_mem_nil)))
  refine PySem.W.set_exc0 T.SF F4 hin N4 (List.mem_cons_of_mem _ (List.mem_cons_of_mem _ (List.mem_cons_of_mem _ List.mem_cons_self))) T.hsa T.hov T.htk T.hdct rfl U4 (by show 1 ≤ 1000; decide) fun dx h5 F5 N5 l5 => ?_
  have ge5 : h5.get? (hh.objs.size + 1) = some (PySem.W.excObj r.C t4 (some dx) .none) := (N5 _ (List.mem_cons_of_mem _ (List.mem_cons_of_mem _ (List.mem_cons_of_mem _ (List.mem_cons_of_mem _ List.mem_cons_self))))).1
  have gd5 := (N5 _ List.mem_cons_self)
  have nd5 : hh.objs.size + 1 ≠ dx := Nat.ne_of_lt (l5 _ (List.mem_cons_of_mem _ (List.mem_cons_of_mem _ (List.mem_cons_of_mem _ List.mem_cons_self))))
  have ld5 : hh.objs.size ≤ dx := Nat.le_trans (Nat.le_succ _) (Nat.le_of_lt (l5 _ (List.mem_cons_of_mem _ (List.mem_cons_of_mem _ (List.mem_cons_of_mem _ List.mem_cons_self)))))
  refine wpAt_of_wpAny (wpAny_execs_nil ?_)
  refine ⟨rfl, h (hh.objs.size + 1) dx t4 h5 _ (fun b o e => F5.keep b o e) (Nat.le_succ _) ld5 nd5 ge5 ⟨_, _, _, gd5.1, rfl, fun e he => ?_, ?_, fun name => ?_⟩⟩
  · have he : e ∈ ([⟨_, .str r.f _, v⟩] : List DictEntry).toArray := he
    rw [List.mem_toArray, List.mem_singleton] at he
    rw [he]
    exact ⟨_, _, rfl⟩
  · exact List.pairwise_singleton _ _
  · show nsFind ([⟨_, .str r.f _, v⟩] : List DictEntry).toArray name = _
    unfold nsFind findBy
    by_cases z : name = r.f
    · subst z
      simp [Value.isStr]
    · have z' : ¬ r.f = name := fun q => z q.symm
      simp [Value.isStr, z, z']
end
end Wg

namespace Wg
open PySem PySem.Spec PyProof.Rows L2 SlX
/-- an error of the class cls at a, its dict at dx -/
def ExI (cls : Value) (dx a : Addr) : HO := .ext fun h => ∃ (oe : Obj) (vs : Array Value), h.get? a = some oe ∧ Zc cls (some dx) oe ∧ oe.data = .fields vs ∧ vs[1]? = some .none
section
variable {X : Cx} {pins : List (Addr × Obj)} {σ : L2.St} {H : Hp} {s : Shared} {r : InitR} {k : Nat}
/-- behind the call: the error apart, its dict told -/
theorem errI_inv (I : Inv X pins σ H s) {e dx t : Addr} {h' : Heap} {tk : Nat} {v : V} {u : Value} (rv : RelV v u) (k : ∀ b o, s.heap.get? b = some o → h'.get? b = some o) (le : s.heap.objs.size ≤ e) (ld : s.heap.objs.size ≤ dx) (ne : e ≠ dx)
    (gd : h'.Ns1 dx (fun y => if y = r.f then some u else none)) : ∃ G : Heap, (∀ b o, G.get? b = some o → h'.get? b = some o) ∧ G.get? e = none ∧ H e = none ∧ H dx = none ∧ (∀ b o, b ≠ e → h'.get? b = some o → G.get? b = some o) ∧
      Inv X pins σ (upd H dx (.xd [(r.f, v)])) { s with heap := G, toks := tk } := by
  obtain ⟨G, g1, g2⟩ := restrict h' fun b => decide (b ≠ e)
  have gs : ∀ b o, G.get? b = some o → h'.get? b = some o := fun b o q => by
    by_cases hb : b = e
    · rw [hb, g2 e (decide_eq_false fun z => z rfl)] at q; cases q
    · rw [← g1 b (decide_eq_true hb)]; exact q
  have gk : ∀ b o, b ≠ e → h'.get? b = some o → G.get? b = some o := fun b o hb q => by rw [g1 b (decide_eq_true hb)]; exact q
  have hd : H dx = none := I.hok.fresh ld
  have old : ∀ b o, s.heap.get? b = some o → G.get? b = some o := fun b o q => gk b o (Nat.ne_of_lt (Nat.lt_of_lt_of_le (Heap.lt_size q) le)) (k b o q)
  refine ⟨G, gs, g2 e (decide_eq_false fun z => z rfl), I.hok.fresh le, hd, gk, I.laid (t' := tk) old ld ⟨_, gd.at fun o q => gk dx o (Ne.symm ne) q, fun f => ?_⟩⟩
  by_cases z : f = r.f
  · subst z
    simp only [List.lookup, if_true]
    rw [beq_self_eq_true]
    exact rv
  · have : (f == r.f) = false := by simpa using z
    simp only [List.lookup, this, if_neg z]
    exact trivial
theorem errI_call (T : InitOk X.prog X.K r) (hs : X.mg "super" = none) (hr : Room k X.A) (I : Inv X pins σ H s) {v : V} {u : Value} (rv : RelV v u) {Q : Value → Shared → Prop}
    (h : ∀ e dx t h' tk, (∀ b o, s.heap.get? b = some o → h'.get? b = some o) → s.heap.objs.size ≤ e → s.heap.objs.size ≤ dx → e ≠ dx → h'.get? e = some (PySem.W.excObj r.C t (some dx) .none) → h'.Ns1 dx (fun y => if y = r.f then some u else none) → Q (.ref e) { s with heap := h', toks := tk }) :
    wpAny (model X.prog X.w) X.A (call (.ref r.C) [u]) Q X.xe s := by
  obtain ⟨mb, h1, h2⟩ := I.mod.blt
  exact call_errI T I.kIn (I.mod.glob.keeps I.bk) hs (h1.keeps I.bk) ((h2 "super" (by decide)).trans (by first | rfl | decide +kernel)) (I.mod.nolimit.keeps I.bk) (by have := hr.dp; omega) h
/-- X(e) that is raised -/
theorem pmk_errI {x : Str} {e : Expr} {ta : TE} {p pos : Pos} (T : InitOk X.prog X.K r) (hs : X.mg "super" = none) (hr : Room k X.A) (gC : X.mg x = some (.ref r.C)) (kC : PySem.W.keepIn X.K (.ref r.C) = true) (ra : Raises X (.ref r.C)) (hg : Gl X x)
    (he : PE X e ta) (hst : starEach [e] X.env = (false, eval e X.env) :: starEach [] X.env := by rfl) (hdb : (x == ("__debug__" : Str)) = false := by decide) :
    PMk X (.Call (.Name x p) [e] [] pos) (fun σ H Q => ta σ H fun v H1 => ∀ dx, H1 dx = none → Q (.ref r.C) (some dx) (upd H1 dx (.xd [(r.f, v)]))) := by
  intro pins s σ H Q I h
  refine wpAny_Call_Name_kw (ld_glob I hg gC ?_ hdb)
  refine PySem.W.callWith_K (h₀ := X.base) I.ok.mod.kin kC ?_ hst (by rfl)
  rw [hst]
  show wpAny _ _ (spliced ((false, eval e X.env) :: backTo pos (starEach [] X.env))) _ _ s
  refine Calls.spliced_cons (thn (he.run pins s σ H _ I h) fun u s1 ⟨v, H1, I1, r1, q1⟩ => ?_)
  refine Calls.spliced_nil ⟨I1.kIn, ?_⟩
  show wpAny _ _ (call (.ref r.C) [u]) _ _ _
  refine errI_call T hs hr I1 r1 fun a dx t h' tk kk la ld ne ge gd => ?_
  obtain ⟨G, gs, ga, na, nd, gk, J⟩ := errI_inv (r := r) (tk := tk) (t := t) I1 r1 kk la ld ne gd
  exact ⟨a, _, _, _, _, .ref r.C, some dx, rfl, J, gs, ga, ge, ⟨rfl, rfl⟩, rfl, rfl, by rw [upd_ne ne]; exact na, rfl, I1.bare, ra, q1 dx nd⟩
/-- X(e) as a value -/
theorem pe_errI {x : Str} {e : Expr} {ta : TE} {p pos : Pos} (T : InitOk X.prog X.K r) (hs : X.mg "super" = none) (hr : Room k X.A) (gC : X.mg x = some (.ref r.C)) (kC : PySem.W.keepIn X.K (.ref r.C) = true) (hg : Gl X x)
    (he : PE X e ta) (hst : starEach [e] X.env = (false, eval e X.env) :: starEach [] X.env := by rfl) (hdb : (x == ("__debug__" : Str)) = false := by decide) :
    PE X (.Call (.Name x p) [e] [] pos) (fun σ H Q => ta σ H fun v H1 => ∀ a dx, H1 a = none → H1 dx = none → a ≠ dx → Q (.ref a) (upd (upd H1 dx (.xd [(r.f, v)])) a (ExI (.ref r.C) dx a))) := by
  refine ⟨fun pins s σ H Q I h => ?_⟩
  refine wpAny_Call_Name_kw (ld_glob I hg gC ?_ hdb)
  refine PySem.W.callWith_K (h₀ := X.base) I.ok.mod.kin kC ?_ hst (by rfl)
  rw [hst]
  show wpAny _ _ (spliced ((false, eval e X.env) :: backTo pos (starEach [] X.env))) _ _ s
  refine Calls.spliced_cons (thn (he.run pins s σ H _ I h) fun u s1 ⟨v, H1, I1, r1, q1⟩ => ?_)
  refine Calls.spliced_nil ⟨I1.kIn, ?_⟩
  show wpAny _ _ (call (.ref r.C) [u]) _ _ _
  refine errI_call T hs hr I1 r1 fun a dx t h' tk kk la ld ne ge gd => ?_
  obtain ⟨G, gs, ga, na, nd, gk, J⟩ := errI_inv (r := r) (tk := tk) (t := t) I1 r1 kk la ld ne gd
  have na' : upd H1 dx (.xd [(r.f, v)]) a = none := by rw [upd_ne ne]; exact na
  exact ⟨.ref a, _, J.laidN (t' := tk) (o := ExI (.ref r.C) dx a) gs ga na' (show ObjOk X.prog X.w _ _ _ (ExI (.ref r.C) dx a) from ⟨⟨_, _, ge, ⟨rfl, rfl⟩, rfl, rfl⟩, ⟨_, ge⟩, fun _ _ ⟨o, ws, q, z⟩ k' => ⟨o, ws, k' o q, z⟩⟩), rfl, q1 a dx na nd ne⟩
end
section
variable {X : Cx} {W : WQ} {K : KC} {ρ : Pl} {H : Hp} {h : Store} {m : M PV} {e : Expr} {k : Nat}
/-- an error class of the text with an __init__ that keeps one value -/
structure ErrI (P : Program) (K : PySem.W.Frag) (mg : Str → Option Value) (x f : Str) : Prop where
  ex : ∃ r : InitR, InitOk P K r ∧ r.f = f ∧ mg x = some (.ref r.C) ∧ PySem.W.keepIn K (.ref r.C) = true ∧ PySem.W.subIn K (.ref r.C) (.type "BaseException") = some true ∧ PySem.W.typeIn K (.ref r.C) = some (.type "type") ∧ mg "super" = none
def mRaiseV (x f : Str) (m : M PV) : MS := fun l h => (m l h).bs l fun v h1 => .ok (.ex ⟨.cls x, [(f, v)]⟩ l) h1
theorem xs_raiseV {x f : Str} {p p3 p4 : Pos} (hc : X.calm = true) (tk : Takes X W.w) (hr : Room k X.A) (T : ErrI X.prog X.K X.mg x f) (he : XE X W e m) (hg : Gl X x := by rfl) (hdb : (x == ("__debug__" : Str)) = false := by decide)
    (hst : starEach [e] X.env = (false, eval e X.env) :: starEach [] X.env := by rfl) :
    XS X W (.Raise (some (.Call (.Name x p) [e] [] p3)) none p4) (mRaiseV x f m) := by
  obtain ⟨r, T1, T2, T3, T4, T5, T6, T7⟩ := T.ex
  subst T2
  exact ps_weak (ps_raise hc tk (pmk_errI T1 T7 hr T3 T4 (raises_own T5 T6) hg he hst hdb)) fun D σ H ⟨ρ, h, l, p, rl, o⟩ => ⟨ρ, h, l, p, rl, Out.mono (OutS.bs rl o) fun v H1 ⟨x1, h1, ρ1, e1, p1, r1, o1⟩ dx hd => by
    obtain ⟨x', p'⟩ := p1.new hd (.xd [(r.f, v)])
    exact o1 ρ1 _ (.ref r.C) (some dx) σ x' p' ((rl.ext e1).ext x') ⟨.ref r.C, ⟨r.C, T3, rfl⟩, rfl, .inr ⟨dx, [(r.f, v)], rfl, ⟨p1.fresh hd, upd_same⟩, ⟨v, by simp [List.lookup], r1.ext x'⟩, trivial⟩⟩⟩
def mErrV (x : Str) (m : M PV) : M PV := fun l h => (m l h).bind fun _ h1 => .ok (.exn x) h1
theorem xe_errV {x f : Str} {p pos : Pos} (hr : Room k X.A) (T : ErrI X.prog X.K X.mg x f) (he : XE X W e m) (hg : Gl X x := by rfl) (hdb : (x == ("__debug__" : Str)) = false := by decide)
    (hst : starEach [e] X.env = (false, eval e X.env) :: starEach [] X.env := by rfl) : XE X W (.Call (.Name x p) [e] [] pos) (mErrV x m) := by
  obtain ⟨r, T1, T2, T3, T4, T5, T6, T7⟩ := T.ex
  exact pe_weak (pe_errI T1 T7 hr T3 T4 hg he hst hdb) fun σ H Q ⟨ρ, h, l, p, rl, o⟩ => ⟨ρ, h, l, p, rl, Out.mono (Out.bind o) fun v H1 ⟨x1, h1, ρ1, e1, p1, r1, o1⟩ a dx ha hd ne => by
    obtain ⟨x2, p2⟩ := p1.new hd (.xd [(r.f, v)])
    have ha2 : upd H1 dx (.xd [(r.f, v)]) a = none := by rw [upd_ne ne]; exact ha
    obtain ⟨x3, p3⟩ := p2.new ha2 (ExI (.ref r.C) dx a)
    refine o1 ρ1 _ (.ref a) (x2.trans x3) p3 ⟨a, r.C, some dx, _, rfl, T3, ⟨p1.fresh ha, upd_same⟩, fun h' ⟨oe, ws, q1, q2, q3, _⟩ => ⟨oe, ws, q1, q2.1, q2.2, q3⟩, .inr ⟨dx, [(r.f, v)], rfl, p1.fresh hd, ?_⟩⟩
    rw [upd_ne (Ne.symm ne)]
    exact upd_same⟩
/-- X('..'), X without an __init__, as a value -/
def mErr0 (x : Str) : M PV := fun _ h => .ok (.exn x) h
theorem xe_err0 {x s : Str} {j : Nat} {p p2 pos : Pos} (T : ErrK X.K X.mg x) (hg : Gl X x := by rfl) (hdb : (x == ("__debug__" : Str)) = false := by decide) (hst : starEach [.Constant (.str s) j p2] X.env = (false, eval (.Constant (.str s) j p2) X.env) :: starEach [] X.env := by rfl) :
    XE X W (.Call (.Name x p) [.Constant (.str s) j p2] [] pos) (mErr0 x) := by
  obtain ⟨C, B, newId, initId, bmB, F, q, gC, kC, s1, s2⟩ := T.ex
  exact pe_weak (pe_exc1 F q gC kC hg pe_str hst hdb) fun σ H Q ⟨ρ, h, l, p, rl, o⟩ a ha => by
    obtain ⟨x2, p2⟩ := p.new ha (ExO (.ref C) a)
    exact o ρ _ (.ref a) x2 p2 ⟨a, C, none, _, rfl, gC, ⟨p.fresh ha, upd_same⟩, fun h' ⟨oe, ws, q1, q2, q3, _⟩ => ⟨oe, ws, q1, q2.1, q2.2, q3⟩, .inl rfl⟩
end
end Wg

namespace Wg
open PySem PySem.Spec PyProof.Rows L2 SlX
/-! ### repr -/
/-- a flat value of a dict, its key -/
def scalD : PV → Option PyData
  | .non => some .none
  | .bl b => some (.bool b)
  | .int i => some (.int i)
  | .str x => some (.str ⟨x.toArray⟩)
  | _ => none
def kvD : List (PV × PV) → Option (List (PyData × PyData))
  | [] => some []
  | (k, x) :: r => match keyP k with
    | some _ => (scalD k).bind fun a => (scalD x).bind fun b => (kvD r).map ((a, b) :: ·)
    | none => none
def showD : PV → Option PyData
  | .dct kvs => (kvD kvs).map .dict
  | x => toD x
def fRepr (xs : List PV) (h : Store) : R PV := match xs with
  | [x] => match showD (seen h x) with
    | some d => if (d.showable && decide (d.depth ≤ 50) && decide (d.shown.length ≤ sizeLine)) = true then .ok (.str d.shown.cps.toList) h else .no
    | none => .no
  | _ => .no
inductive ScD : V → PyData → Prop
  | non : ScD .non .none
  | bl (b : Bool) : ScD (.bl b) (.bool b)
  | int (i : Int) : ScD (.int i) (.int i)
  | str (x : Str) : ScD (.str x) (.str x)
def ShD (K : PySem.W.Frag) (H : Hp) (v : V) (d : PyData) : Prop :=
  (Dp K H v d) ∨ ∃ a kvs ds, v = .ref a ∧ d = .dict ds ∧ Rd H a (.dK kvs) ∧ Paired (fun (c : Key × V) (e : PyData × PyData) => ScD (kV c.1) e.1 ∧ ScD c.2 e.2) kvs ds
def rRepr (K : PySem.W.Frag) : List V → Hp → VK → Prop := fun vs H Q => ∃ v d, vs = [v] ∧ ShD K H v d ∧ d.showable = true ∧ d.depth ≤ 50 ∧ d.shown.length ≤ sizeLine ∧ Q (.str d.shown) H
section
variable {X : Cx} {W : WQ} {K : KC} {ρ : Pl} {H : Hp} {h : Store} {pos : Pos} {e : Expr} {es : List Expr} {ms : M (List PV)} {p0 : Pos}
theorem scalD_at {x : PV} {v : V} {d : PyData} (r : RV K ρ H x v) (q : scalD x = some d) : ScD v d := by
  cases x with
  | non => cases q; rw [show v = _ from r]; exact .non
  | bl b => cases q; rw [show v = _ from r]; exact .bl b
  | int i => cases q; rw [show v = _ from r]; exact .int i
  | str x => cases q; rw [show v = _ from r]; exact .str _
  | _ => cases q
theorem kvD_at : ∀ {kvs : List (PV × PV)} {vs : List (Key × V)} {ds : List (PyData × PyData)}, RVd K ρ H kvs vs → kvD kvs = some ds → Paired (fun (c : Key × V) (e : PyData × PyData) => ScD (kV c.1) e.1 ∧ ScD c.2 e.2) vs ds
  | [], _, _, r, q => by cases q; rw [show _ = [] from r]; exact .nil
  | (k, x) :: kvs, _, _, ⟨c, v, r, e1, h0, h1, h2⟩, q => by
    unfold kvD at q
    rw [h0] at q
    simp only [Option.bind_eq_some_iff, Option.map_eq_some_iff] at q
    obtain ⟨a, q1, b, q2, ds, q3, rfl⟩ := q
    rw [e1]
    exact .cons ⟨scalD_at (K := K) (ρ := ρ) (H := H) (keyP_back h0) q1, scalD_at h1 q2⟩ (kvD_at h2 q3)
theorem showD_at (p : Rep K ρ h H) {x : PV} {v : V} {d : PyData} (r : RV K ρ H x v) (q : showD (seen h x) = some d) : ShD K H v d := by
  by_cases c : ∃ kvs, x = .dct kvs
  · obtain ⟨kvs, rfl⟩ := c
    simp only [seen, showD, Option.map_eq_some_iff] at q
    obtain ⟨ds, q1, rfl⟩ := q
    obtain ⟨a, vs, e1, ⟨_, hr⟩, r2⟩ := r
    exact .inr ⟨a, vs, ds, e1, rfl, hr, kvD_at r2 q1⟩
  · refine .inl (seen_dp p r ?_)
    cases x with
    | dct kvs => exact (c ⟨_, rfl⟩).elim
    | ref i =>
      simp only [seen] at q ⊢
      split at q
      · exact q
      · exact q
    | _ => exact q
theorem scD_reads {g : Heap} {v : V} {d : PyData} {u : Value} (s : ScD v d) (r : RelV v u) : Reads g u d [] := by
  cases s with
  | non => cases r; exact .none
  | bl b => cases r; exact .bool b
  | int i => obtain ⟨t, rfl⟩ := r; exact .int i t
  | str x => obtain ⟨t, rfl⟩ := r; exact .str x t
theorem scD_readsAll {g : Heap} : ∀ {vs : List (Key × V)} {ws : List (Key × Value)} {ds : List (PyData × PyData)} {es : List DictEntry} {P : Program} {w : World}, Paired (fun (c : Key × V) (e : PyData × PyData) => ScD (kV c.1) e.1 ∧ ScD c.2 e.2) vs ds → KV vs ws → Pairs (mixKind P w) es ws →
    ReadsAll g (es.map (·.key)) (ds.map (·.1)) [] ∧ ReadsAll g (es.map (·.val)) (ds.map (·.2)) []
  | _, _, _, _, _, _, .nil, .nil, .nil => ⟨.nil, .nil⟩
  | _, _, _, _, _, _, .cons a t, .cons b u, .cons c d q => by
    obtain ⟨g1, g2⟩ := scD_readsAll (g := g) t u q
    have k := relV_key c
    rw [← b.1] at k
    have v := b.2
    rw [← d] at v
    exact ⟨.cons (as := []) (scD_reads a.1 k) g1, .cons (as := []) (scD_reads a.2 v) g2⟩
mutual
theorem dp_noDict {K : PySem.W.Frag} : ∀ (d : PyData) (v : V), Dp K H v d → d.hasDict = false
  | .none, _, _ => by simp only [PyData.hasDict]
  | .bool _, _, _ => by simp only [PyData.hasDict]
  | .int _, _, _ => by simp only [PyData.hasDict]
  | .str _, _, _ => by simp only [PyData.hasDict]
  | .list ds, _, h => by cases h with | lst _ z => simp only [PyData.hasDict]; exact dpAll_noDict ds _ z
  | .tuple ds, _, h => by cases h with | tup _ z => simp only [PyData.hasDict]; exact dpAll_noDict ds _ z
  | .dict _, _, h => by cases h
theorem dpAll_noDict {K : PySem.W.Frag} : ∀ (ds : List PyData) (vs : List V), DpAll K H vs ds → PyData.hasDictAll ds = false
  | [], _, _ => by simp only [PyData.hasDictAll]
  | d :: ds, _, h => by cases h with | cons z1 z2 => simp only [PyData.hasDictAll, dp_noDict d _ z1, dpAll_noDict ds _ z2, Bool.or_self]
end
theorem cr_repr (ng : X.A.guards = some []) (hu : X.A.units + 64 < cLine) : CallR X (.builtin "repr") (rRepr X.K) := by
  intro pins s σ H xs us Q I rv hh
  obtain ⟨v, d, e1, sh, h1, h2, h3, q⟩ := hh
  subst e1
  obtain _ | ⟨r1, r2⟩ := rv
  cases r2
  rename_i u
  have done : ∀ (a : Addr), u = .ref a → (∃ as, Reads s.heap u d as ∧ (d.hasDict = true → sysModules ∉ as)) → wpAny (model X.prog X.w) X.A (call (.builtin "repr") [u]) (EP X pins σ Q) X.xe s := by
    intro a eu ⟨as, rd, sm⟩
    rw [eu] at rd ⊢
    refine repr_of_reads' rd h1 sm ng (by omega) (fun _ _ z => z) (fun h' t tk kk => ?_) h3
    exact ⟨.str d.shown, H, I.kept (t' := tk) kk, ⟨t, rfl⟩, q⟩
  have nd : ∀ {v : V} {d : PyData}, Dp X.K H v d → ∀ {as : List Addr}, d.hasDict = true → sysModules ∉ as := by
    intro v d dp as hd
    rw [dp_noDict d v dp] at hd
    cases hd
  have fin : ∀ (x : Str) (t tk : Nat) (h' : Heap), (∀ b o, s.heap.get? b = some o → h'.get? b = some o) → Q (.str x) H → EP X pins σ Q (.str x t) { s with heap := h', toks := tk } := fun x t tk h' kk q => ⟨.str x, H, I.kept (t' := tk) kk, ⟨t, rfl⟩, q⟩
  rcases sh with dp | ⟨a, kvs, ds, ev, ed, hr, pr⟩
  · obtain ⟨as, rd⟩ := Dp.reads I d v u dp r1
    cases dp with
    | non => cases r1; refine PySem.P.repr_of_none ?_; exact fin _ _ _ _ (fun _ _ z => z) (by simpa only [PyData.shown] using q)
    | bl b => cases r1; refine PySem.P.repr_of_bool ?_; exact fin _ _ _ _ (fun _ _ z => z) (by simpa only [PyData.shown] using q)
    | int i => obtain ⟨t, rfl⟩ := r1; refine PySem.P.repr_of_int (by simpa only [PyData.showable, decide_eq_true_eq] using h1) ?_; exact fin _ _ _ _ (fun _ _ z => z) (by simpa only [PyData.shown] using q)
    | str x => obtain ⟨t, rfl⟩ := r1; refine PySem.P.repr_of_str ?_ (by simpa only [PyData.shown] using h3); exact fin _ _ _ _ (fun _ _ z => z) (by simpa only [PyData.shown] using q)
    | lst hs ha => exact done _ r1 ⟨as, rd, nd (.lst hs ha)⟩
    | tup hs ha => exact done _ r1 ⟨as, rd, nd (.tup hs ha)⟩
  · subst ev; subst ed
    refine done a r1 ?_
    cases r1
    obtain ⟨hz, hs, vs, rel, o, es, ep, g1, g2, g3, g4, g5, g6⟩ := dk_rd I.hok hr
    obtain ⟨a1, a2⟩ := scD_readsAll (g := s.heap) pr rel g5
    refine ⟨_, .dict g1 g2.1 g3 a1 a2, fun _ z => ?_⟩
    rcases List.mem_cons.mp (show sysModules ∈ a :: ([] : List Addr) from z) with z | z
    · rw [← z, beq_self_eq_true] at hs; cases hs
    · cases z
theorem cx_repr : CallX X W fRepr (rRepr X.K) := by
  intro ρ h σ H xs vs Q p r o
  unfold fRepr at o
  split at o
  next x =>
    obtain ⟨v, e, r1⟩ := rvs1 r
    split at o
    next d q =>
      obtain ⟨c, o⟩ := out_if o
      simp only [Bool.and_eq_true, decide_eq_true_eq] at c
      refine ⟨v, d, e, showD_at p r1 q, c.1.1, c.1.2, c.2, ?_⟩
      exact Out.ok o p (show RV (kc X W) ρ H (PV.str d.shown.cps.toList) (V.str d.shown) from by show _ = _; simp [strV])
    next => exact o.elim
  next => exact o.elim
theorem xe_repr (ng : NoG X.A) (hu : X.A.units + 64 < cLine) (hm : X.mg "repr" = none) (ha : XA X W (e :: es) ms) (hg : Gl X "repr" := by rfl) (he : starEach (e :: es) X.env = (false, eval e X.env) :: starEach es X.env := by rfl) (hpl : (backTo pos (starEach es X.env)).any (·.1) = false := by rfl) :
    XE X W (.Call (.Name "repr" p0) (e :: es) [] pos) (mCall fRepr ms) := xe_callB (cr_repr ng hu) cx_repr hm (by first | rfl | decide +kernel) ha hg (by decide) (by decide) he hpl
end
end Wg

namespace Wg
open PySem PySem.Spec PyProof.Rows L2 SlX
section
variable {X : Cx} {W : WQ} {K : KC} {ρ : Pl} {H : Hp} {h : Store} {pos : Pos} {e a b : Expr} {es : List Expr} {ma mb m : M PV} {ms : M (List PV)} {p0 : Pos} {k : Nat}
/-! ### a clause with a name -/
theorem ct_mem : ∀ {t : List (Str × Bool)} {n : Str}, t.lookup n = some true → (n, true) ∈ t
  | [], _, h => by cases h
  | (c, b) :: t, n, h => by
    simp only [List.lookup] at h
    split at h
    next q => cases h; have : n = c := by simpa using q
              rw [this]; exact List.mem_cons_self
    next => exact List.mem_cons_of_mem _ (ct_mem h)
theorem only_by {t : List (Str × Bool)} {x : Str} (h : (t.all fun p => !p.2 || decide (p.1 = x)) = true) : ∀ y, ctOf t y = some true → y = .cls x := by
  intro y q
  cases y with
  | cls n =>
    have := List.all_eq_true.mp h _ (ct_mem (show t.lookup n = some true from q))
    simp only [Bool.not_true, Bool.false_or, decide_eq_true_eq] at this
    rw [this]
  | _ => cases q
theorem XHds.ownN {x n : Str} {i : Nat} {t : List (Str × Bool)} {m : List (Str × PV) → MS} {b0 : Stmt} {st : List Stmt} {p1 p2 : Pos} {r : List ExceptHandler} {l : List HC} (hi : X.N[i]? = some n) (hl : X.env.kindOf n = some .local) (k : CatK X.K X.mg x t) (only : ∀ y, ctOf t y = some true → y = .cls x)
    (su : ∀ (a : Addr) (oe : Obj) (cls : Value) (d : Option Addr) (pn : List (Addr × Obj)) (fs : List (Str × PV)), Zc cls d oe → (∃ vs, oe.data = .fields vs) → XSs (X.suite a ((a, oe) :: pn)) (WNo (some ⟨i, a, x, cls, d, fs⟩)) (b0 :: st) (m fs)) (q : XHds X r l)
    (hg : Gl X x := by rfl) (hd : (x == ("__debug__" : Str)) = false := by decide) : XHds X (.ExceptHandler (some (.Name x p1)) (some n) (b0 :: st) p2 :: r) (⟨ctOf t, fun e => m e.fld, some i⟩ :: l) := by
  obtain ⟨c, k1, k2⟩ := k.ex
  exact .named hi hl ⟨hg, hd, k1⟩ k2 only su q
/-- what reading e.f wants of the class -/
def FldK (K : PySem.W.Frag) (mg : Str → Option Value) (x f : Str) : Prop := ∀ C, mg x = some (.ref C) → XfC K C ∧ PySem.W.findIn K (.ref C) f = some none
theorem fldK_mk {K : PySem.W.Frag} {mg : Str → Option Value} {x f : Str} {C : Addr} (hm : mg x = some (.ref C)) (x1 : XfC K C) (q : PySem.W.findIn K (.ref C) f = some none) : FldK K mg x f := fun C' h => by
  rw [hm] at h
  cases h
  exact ⟨x1, q⟩
/-! ### classes as values -/
theorem xe_cls {x : Str} (hm : ∃ C, X.mg x = some (.ref C)) (hg : Gl X x := by rfl) (hd : (x == ("__debug__" : Str)) = false := by decide) : XE X W (.Name x pos) (mC (.cls x)) := let ⟨C, h⟩ := hm; xe_glob (pe_glob (v := .ref C) hg h rfl hd) fun _ _ _ _ => ⟨C, h, rfl⟩
theorem xe_bty {x : Str} {n : String} (hm : X.mg x = none) (hv : bootBuiltins x = some (.type n)) (hg : Gl X x := by rfl) (hn : x ≠ "__name__" := by decide) (hd : (x == ("__debug__" : Str)) = false := by decide) : XE X W (.Name x pos) (mC (.ty n)) := xe_glob (pe_bltn (v := .ty n) hg hm hv rfl hn hd) fun _ _ _ _ => rfl
/-! ### isinstance of errors -/
/-- of each error's class, whether its instances are such of c -/
def IsT (K : PySem.W.Frag) (mg : Str → Option Value) (c : Value) (t : List (Str × Bool)) : Prop := ∀ n b D, t.lookup n = some b → mg n = some (.ref D) → ExcC K D ∧ PySem.W.kitOne K (.ref D) c = some b
theorem isT_nil {K : PySem.W.Frag} {mg : Str → Option Value} {c : Value} : IsT K mg c [] := fun _ _ _ h => by cases h
theorem isT_cons {K : PySem.W.Frag} {mg : Str → Option Value} {c : Value} {n : Str} {b : Bool} {D : Addr} {t : List (Str × Bool)} (hn : mg n = some (.ref D)) (x : ExcC K D) (q : PySem.W.kitOne K (.ref D) c = some b) (r : IsT K mg c t) : IsT K mg c ((n, b) :: t) := fun n' b' D' h hm => by
  simp only [List.lookup] at h
  split at h
  next z =>
    cases h
    have : n' = n := by simpa using z
    subst this
    rw [hn] at hm
    cases hm
    exact ⟨x, q⟩
  next => exact r n' b' D' h hm
structure IsC (K : PySem.W.Frag) (mg : Str → Option Value) (m : Str) (t : List (Str × Bool)) : Prop where
  ex : ∃ C, mg m = some (.ref C) ∧ IsT K mg (.ref C) t
def fIsC (m : Str) (t : List (Str × Bool)) (xs : List PV) (h : Store) : R PV := match xs with
  | [.exn n, .cls m'] => if m' = m then match t.lookup n with
    | some b => .ok (.bl b) h
    | none => .no
    else .no
  | _ => .no
def fIsY (m : String) (t : List (Str × Bool)) (xs : List PV) (h : Store) : R PV := match xs with
  | [.exn n, .ty m'] => if m' = m then match t.lookup n with
    | some b => .ok (.bl b) h
    | none => .no
    else .no
  | _ => .no
def rIsX (K : PySem.W.Frag) : List V → Hp → VK → Prop := fun xs H Q => ∃ (a D : Addr) (d : Option Addr) (φ : Heap → Prop) (c : V) (cv : Value) (b : Bool), xs = [.ref a, c] ∧ H a = some (.ext φ) ∧ ErrPh a D d φ ∧ (d = none ∨ ∃ dd us, d = some dd ∧ H dd = some (.xd us)) ∧ ExcC K D ∧
  (∀ u, RelV c u → u = cv) ∧ PySem.W.kitOne K (.ref D) cv = some b ∧ Q (.bl b) H
theorem clsIn_of_hasDict {K : PySem.W.Frag} {C : Addr} (h : PySem.W.hasDictIn K C = true) : (PySem.W.clsIn K C).isSome = true := by
  unfold PySem.W.hasDictIn at h
  cases q : PySem.W.clsIn K C with
  | none => rw [q] at h; cases h
  | some c => rfl
theorem cr_isX : CallR X (.builtin "isinstance") (rIsX X.K) := by
  intro pins s σ H xs us Q I r h
  obtain ⟨a, D, d, φ, c, cv, b, rfl, ea, ph, hd, C, hc, kt, q⟩ := h
  obtain ⟨u1, u2, rfl, r1, r2⟩ := vals2 r
  cases (show u1 = Value.ref a from r1)
  have e2 := hc _ r2
  subst e2
  obtain ⟨hφ, _⟩ := I.hok a _ ea
  obtain ⟨oe, ws, g1, g2, g3, g4⟩ := ph _ hφ
  have J : ∃ od, PySem.W.InstAt s.heap a oe D od := by
    rcases hd with z | ⟨dd, us, z, hdd⟩
    · refine ⟨none, g1, g2, by unfold PySem.W.notCls; rw [g4], ?_⟩
      rw [g3, z]; trivial
    · obtain ⟨mA, ⟨o, es, ep, e0, _⟩, _⟩ := I.hok dd _ hdd
      refine ⟨some o, g1, g2, by unfold PySem.W.notCls; rw [g4], ?_⟩
      rw [g3, z]; exact e0
  obtain ⟨od, J⟩ := J
  exact PySem.W.kia_one (PySem.W.kitx_exc (clsIn_of_hasDict C.hd) C.hg C.hk C.hs C.ha C.hn C.ht C.hm) I.kIn J kt (fun z => nomatch z) fun tk => ⟨.bl b, H, I.tok tk, rfl, q⟩
theorem exn_at {n : Str} {v : V} (r : RV K ρ H (.exn n) v) : ∃ a C d φ, v = .ref a ∧ K.mg n = some (.ref C) ∧ H a = some (.ext φ) ∧ ErrPh a C d φ ∧ (d = none ∨ ∃ dd us, d = some dd ∧ H dd = some (.xd us)) := by
  obtain ⟨a, C, d, φ, e, hm, h1, ph, hd⟩ := r
  exact ⟨a, C, d, φ, e, hm, h1.2, ph, hd.imp id fun ⟨dd, us, z, _, hh⟩ => ⟨dd, us, z, hh⟩⟩
theorem cx_isC {m : Str} {t : List (Str × Bool)} (T : IsC X.K X.mg m t) : CallX X W (fIsC m t) (rIsX X.K) := by
  intro ρ h σ H xs vs Q p r o
  obtain ⟨C, hm, T2⟩ := T.ex
  unfold fIsC at o
  split at o
  next n m' =>
    obtain ⟨v, w, e, r1, r2⟩ := rvs2 r
    obtain ⟨c, o⟩ := out_if o
    subst c
    cases q : t.lookup n with
    | some b =>
      simp only [q] at o
      obtain ⟨a, D, d, φ, e1, hn, h1, ph, hd⟩ := exn_at r1
      obtain ⟨C', hm', e2⟩ := r2
      have hm' : X.mg m' = some (.ref C') := hm'
      rw [hm] at hm'
      cases hm'
      obtain ⟨t1, t2⟩ := T2 n b D q hn
      exact ⟨a, D, d, φ, w, .ref C, b, by rw [e, e1], h1, ph, hd, t1, fun u ru => by rw [e2] at ru; exact ru, t2, o.ok p rfl⟩
    | none => simp only [q] at o; exact o.elim
  next => exact o.elim
theorem cx_isY {m : String} {t : List (Str × Bool)} (T : IsT X.K X.mg (.type m) t) : CallX X W (fIsY m t) (rIsX X.K) := by
  intro ρ h σ H xs vs Q p r o
  unfold fIsY at o
  split at o
  next n m' =>
    obtain ⟨v, w, e, r1, r2⟩ := rvs2 r
    obtain ⟨c, o⟩ := out_if o
    subst c
    cases q : t.lookup n with
    | some b =>
      simp only [q] at o
      obtain ⟨a, D, d, φ, e1, hn, h1, ph, hd⟩ := exn_at r1
      obtain ⟨t1, t2⟩ := T n b D q hn
      exact ⟨a, D, d, φ, w, .type m', b, by rw [e, e1], h1, ph, hd, t1, fun u ru => by rw [show w = _ from r2] at ru; exact ru, t2, o.ok p rfl⟩
    | none => simp only [q] at o; exact o.elim
  next => exact o.elim
theorem xe_isC {m : Str} {t : List (Str × Bool)} (T : IsC X.K X.mg m t) (hm : X.mg "isinstance" = none) (ha : XA X W (e :: es) ms) (hg : Gl X "isinstance" := by rfl) (he : starEach (e :: es) X.env = (false, eval e X.env) :: starEach es X.env := by rfl) (hpl : (backTo pos (starEach es X.env)).any (·.1) = false := by rfl) :
    XE X W (.Call (.Name "isinstance" p0) (e :: es) [] pos) (mCall (fIsC m t) ms) := xe_callB cr_isX (cx_isC T) hm boot_isinstance ha hg (by decide) (by decide) he hpl
theorem xe_isY {m : String} {t : List (Str × Bool)} (T : IsT X.K X.mg (.type m) t) (hm : X.mg "isinstance" = none) (ha : XA X W (e :: es) ms) (hg : Gl X "isinstance" := by rfl) (he : starEach (e :: es) X.env = (false, eval e X.env) :: starEach es X.env := by rfl) (hpl : (backTo pos (starEach es X.env)).any (·.1) = false := by rfl) :
    XE X W (.Call (.Name "isinstance" p0) (e :: es) [] pos) (mCall (fIsY m t) ms) := xe_callB cr_isX (cx_isY T) hm boot_isinstance ha hg (by decide) (by decide) he hpl
/-! ### list * int, list + list as a cell -/
def fMulB (x y : PV) (h : Store) : R PV := match x, y with
  | .lst zs, .int k => if -(2 ^ 63) ≤ k ∧ k < 2 ^ 63 ∧ zs.length * k.toNat ≤ sizeLine then .ok (.lst (List.replicate k.toNat zs).flatten) h else .no
  | _, _ => fMulA x y h
theorem rvs_rep {zs : List PV} {vs : List V} (r : RVs K ρ H zs vs) : ∀ n, RVs K ρ H (List.replicate n zs).flatten (List.replicate n vs).flatten
  | 0 => rfl
  | n + 1 => by rw [List.replicate_succ, List.replicate_succ, List.flatten_cons, List.flatten_cons]; exact r.app (rvs_rep r n)
theorem ox_mulB : OpX X W fMulB (fun x y H Q => (rMulA x y H Q ∨ rMulS x y H Q) ∨ rRep x y H Q) := by
  intro ρ h σ H x y v w Q p rx ry o
  unfold fMulB at o
  split at o
  next z k =>
    cases ry
    obtain ⟨c, o⟩ := out_if o
    obtain ⟨l, vs, e, t, rs⟩ := rx
    refine .inr ⟨l, k, vs, e, rfl, t.2, c.1, c.2.1, by rw [← rs.len]; exact c.2.2, fun q hq => ?_⟩
    obtain ⟨x, p', r'⟩ := new_lst p hq (rvs_rep rs k.toNat)
    exact o ρ _ _ x p' r'
  next => exact .inl (ox_mulA ρ h σ H x y v w Q p rx ry o)
theorem xe_mulB (ha : XE X W a ma) (hb : XE X W b mb) : XE X W (.BinOp a .Mult b pos) (mBin fMulB ma mb) := xe_bin ((op_mulA.or op_mulS).or op_rep) ox_mulB ha hb
def fCatN (x y : PV) (h : Store) : R PV := match lstOf h x, lstOf h y with
  | some xs, some ys => if xs.length + ys.length ≤ sizeLine then .ok (.ref h.length) (h ++ [.lst (xs ++ ys)]) else .no
  | _, _ => .no
theorem ox_catN : OpX X W fCatN rCat := by
  intro ρ h σ H x y v w Q p rx ry o
  unfold fCatN at o
  split at o
  next xs ys e1 e2 =>
    obtain ⟨c, o⟩ := out_if o
    obtain ⟨a, vs, e1, t1, r1⟩ := lstOf_at p rx e1
    obtain ⟨b, ws, e2, t2, r2⟩ := lstOf_at p ry e2
    exact ⟨a, b, vs, ws, e1, e2, t1, t2, by rw [← r1.len, ← r2.len]; exact c, fun q hq =>
      let ⟨x, p', r'⟩ := new_cell p hq (r1.app r2); o _ _ _ x p' r'⟩
  next => exact o.elim
theorem xe_catN (ha : XE X W a ma) (hb : XE X W b mb) : XE X W (.BinOp a .Add b pos) (mBin fCatN ma mb) := xe_bin op_cat ox_catN ha hb
end
end Wg

namespace Wg
open PySem PySem.Spec PyProof.Rows L2 SlX
/-! ### an __init__ as it stands in the text -/
def initPs (st : Stmt) : Fin 10 → Pos := match defBody st with
  | [.Expr (.Call (.Attribute (.Call (.Name _ a0) [] [] a1) _ a2) [.Constant _ _ a3] [] a4) a5, .Assign [.Attribute (.Name _ a6) _ a7] (.Name _ a8) a9] => fun i => match i with
    | 0 => a0 | 1 => a1 | 2 => a2 | 3 => a3 | 4 => a4 | 5 => a5 | 6 => a6 | 7 => a7 | 8 => a8 | 9 => a9
  | _ => fun _ => ⟨0, 0, 0, 0⟩
def initMsg (st : Stmt) : Str × Nat := match defBody st with
  | [.Expr (.Call _ [.Constant (.str m) k _] _ _) _, _] => (m, k)
  | _ => ("", 0)
structure InitSyn (st : Stmt) (f p : Str) : Prop where
  body : defBody st = initBody (initMsg st).1 f p (initMsg st).2 (initPs st)
  ev : ∀ env : Env, ∃ pl : Sem Bool, eval (.Call (.Attribute (.Call (.Name "super" (initPs st 0)) [] [] (initPs st 1)) "__init__" (initPs st 2)) [.Constant (.str (initMsg st).1) (initMsg st).2 (initPs st 3)] [] (initPs st 4)) env = (do
      let ov ← attributeBase (.Call (.Name "super" (initPs st 0)) [] [] (initPs st 1)) "__init__" env (eval (.Call (.Name "super" (initPs st 0)) [] [] (initPs st 1)) env)
      standAt (initPs st 2).atName
      let (f, first) ← holding [ov] (getMethod ov "__init__" pl)
      callWith (initPs st 4) f first (backTo (initPs st 4) (starEach [.Constant (.str (initMsg st).1) (initMsg st).2 (initPs st 3)] env)) [])
  par : ∃ ar : Arg, ((defArgs st).posonlyargs ++ (defArgs st).args).head? = some ar ∧ ar.arg = "self"
  bind : ∀ (qual : Str) (kV doc pm : Value) (an : Option Addr) (cdv ct : Value) (cc : Addr) (s : Shared) (u v : Value), BindsTo s (PySem.W.ksFn "__init__" qual (defArgs st) (defBody st) (defScope st) .none kV doc pm an cdv ct cc) ⟨[u, v], []⟩ [("self", u), (p, v)]
  kS : (defScope st).names.lookup ("super" : Str) = some .globalImplicit
  kC : (defScope st).names.lookup ("__class__" : Str) = some .free
  kf : (defScope st).names.lookup ("self" : Str) = some .local
  kp : (defScope st).names.lookup p = some .local
  nop : ("self" : Str) ≠ p
  ndb : (p == ("__debug__" : Str)) = false
  cel : ((defScope st).names.all fun x => x.2 != .cell) = true
  co : (defScope st).isCoroutine = false
  gen : (defScope st).isGenerator = false
  fun_ : (defScope st).kind = .function
section
variable {P : Program} {K : PySem.W.Frag} {mg : Str → Option Value} {x f p qual : Str} {st : Stmt} {C fI cc cda : Addr} {B i : String} {bmB : List Value} {od cdd cld : Option Addr} {osl ccs csl : Array (Option Value)} {oc kV doc pm ct ccl cl : Value} {an : Option Addr} {vs : Array Value} {file : Str} {tf : Tok}
theorem errI_mk (S : InitSyn st f p) (MB : MadeBy K C i) (KF : PySem.W.KxsFacts B i) (SF : PySem.StoreFacts B bmB "object.__setattr__" "object") (mgx : mg x = some (.ref C)) (kp : PySem.W.keepIn K (.ref C) = true) (es : PySem.W.subIn K (.ref C) (.type "BaseException") = some true) (et : PySem.W.typeIn K (.ref C) = some (.type "type")) (sup : mg "super" = none)
    (hi : PySem.W.findIn K (.ref C) "__init__" = some (some (.ref fI))) (ho : K.lookup fI = some ⟨.type "function", od, .func (PySem.W.ksFn "__init__" qual (defArgs st) (defBody st) (defScope st) .none kV doc pm an (.ref cda) ct cc), osl⟩) (hcd : PySem.W.codeIn K (.ref cda) qual = true)
    (hco : K.lookup cda = some ⟨ccl, cdd, .fields vs, ccs⟩) (hvs : vs[2]? = some (.str file tf)) (hfile : ((P.main.file : Str) == file) = true) (hcell : K.lookup cc = some ⟨cl, cld, .cell (some (.ref C)), csl⟩) (hsub : PySem.W.mroIn K C (.ref C) = some true) (hm : PySem.W.ks_superIn K C C "__init__" = some (some (.builtin i)))
    (hB : PySem.W.subIn K (.ref C) (.type B) = some true) (hop : PySem.W.nsIn K cStatics "thirdparty.any" = some none) (hsa : PySem.W.findIn K (.ref C) "__setattr__" = some (some (.builtin "object.__setattr__"))) (hov : PySem.W.excOver K C bmB = true) (htk : PySem.W.takerIn K C f = some none) (hdct : PySem.W.hasDictIn K C = true)
    (htop : (P.main.scope.names.lookup ("super" : Str)).isSome = false) : ErrI P K mg x f := by
  refine ⟨⟨⟨C, fI, cc, cda, B, i, bmB, qual, st, od, osl, .none, kV, doc, pm, an, ct, vs, f, p⟩, ⟨MB, KF, SF, hi, ho, hcd, ⟨_, _, _, _, _, hco, hvs, hfile⟩, ⟨_, _, _, hcell⟩, clsIn_of_hasDict hdct, hsub, hm, hB, hop, hsa, hov, htk, hdct, htop, ⟨_, _, _, S.body, S.ev⟩, S.par, S.bind _ _ _ _ _ _ _ _, S.kS, S.kC, S.kf, S.kp, S.nop, S.ndb, fun y hy => ?_, S.co, S.gen, S.fun_⟩, rfl, mgx, kp, es, et, sup⟩⟩
  have := List.all_eq_true.mp S.cel y hy
  intro e
  rw [e] at this
  exact absurd this (by decide)
/-- what isinstance wants of the class, gathered -/
theorem excC_mk {D : Addr} (hg : PySem.W.findIn K (.ref D) "__getattribute__" = some (some (.builtin "BaseException.__getattribute__"))) (hk : PySem.W.findIn K (.ref D) "__getattr__" = some none) (hs : PySem.W.subIn K (.ref D) (.type "BaseException") = some true) (hd : PySem.W.hasDictIn K D = true) (ha : PySem.W.findIn K (.ref D) "__class__" = some (some (.builtin "object.__class__")))
    (hm : PySem.W.mroIn K D (.type "object") = some true) (hn : PySem.W.specialIn K (.builtin "object.__class__") "__get__" = some (some (.builtin "getset_descriptor.__get__"))) (ht : PySem.W.takesIn K (.builtin "object.__class__") = some true) : ExcC K D := ⟨hg, hk, hs, hd, ha, hn, ht, hm⟩
end
theorem IsC.has {K : PySem.W.Frag} {mg : Str → Option Value} {m : Str} {t : List (Str × Bool)} (h : IsC K mg m t) : ∃ C, mg m = some (.ref C) := let ⟨C, q, _⟩ := h.ex; ⟨C, q⟩
/-! ### f() -/
section
variable {X : Cx} {W : WQ} {CX : CXT} {k : Nat} {f : Addr} {fd : FuncData} {ps : List Str} {sp : Sp} {E : L2.St → XK} {x : Str} {p p0 pos : Pos} {F : FN}
theorem pe_callG0 (F : FnG X.prog X.w X.K X.mg X.base CX k f fd ps sp) (room : Room k X.A) (ng : NoG X.A) (gx : Gl X x) (mx : X.mg x = some (.ref f)) (kp : PySem.W.keepIn X.K (.ref f) = true) (bi : Binds X.K fd ps []) (pa : ∀ σ, PassesAt CX X σ (E σ))
    (hdb : (x == ("__debug__" : Str)) = false := by decide) : PE X (.Call (.Name x p) [] [] pos) (tCallS sp E tNil) := ⟨fun pins s σ H Q I q => by
  refine wpAny_Call_Name_kw (ld_glob I gx mx ?_ hdb)
  refine PySem.W.callWith_K0 I.kIn kp ?_
  have b := bi s [] I.kIn (by rw [List.append_nil]; exact F.len _ _ _ _ q)
  rw [List.append_nil] at b
  refine wpAny_call (codeAny_mono (F.run X.A X.stack s H ⟨[], []⟩ [] [] Q (E σ) room ng I.env0 b .nil q) fun r s' z => ?_)
  cases r with
  | error er => exact pa σ pins H s er s' I z
  | ok fl => cases fl <;> first | exact I.after z | exact False.elim z⟩
theorem xe_call0 (D : Def X.prog X.w X.K X.mg X.base k x F) (hr : Room k X.A) (hG : NoG X.A) (tk : Takes X W.w) (hcur : W.cur = none := by rfl) (hg : Gl X x := by rfl) (hdb : (x == ("__debug__" : Str)) = false := by decide) : XE X W (.Call (.Name x p0) [] [] pos) (mCall F mNil) := by
  obtain ⟨f, fd, ps, hm, hk, hb, ok⟩ := D.ex
  obtain ⟨w, c⟩ := W
  obtain rfl : c = none := hcur
  exact pe_weak (pe_callG0 ok hr hG hg hm hk hb (fun σ => passAt tk σ) hdb) fun σ H Q ⟨ρ, h, l, p, rl, o⟩ => ⟨ρ, h, [], p, rfl, o⟩
end
end Wg

namespace Wg
open PySem
/-! ### words: the plain functions, as gen.py prints them, and what they tell -/
/-! is_name -/
def s_is_name_0 : MS := mIf (mOrT (mNotT (mB (mCall fIsiB (mCons (mVar 0) (mCons (mC (.ty "str")) (mNil)))))) (mNotT (mB (mChain fLe fLe (mC (.int 1)) (mCall fLenB (mCons (mVar 0) (mNil))) (mC (.int 8)))))) (mRet (mC (.bl false))) (mDone)
def s_is_name_1 : MS := mRet (mCall fAll (mCons (mLc (mItS (mVar 0)) [1] (gVar 1) (mYes) (mBin fIn (mVar 1) (mC (.str [97, 98, 99, 100, 101, 102, 103, 104, 105, 106, 107, 108, 109, 110, 111, 112, 113, 114, 115, 116, 117, 118, 119, 120, 121, 122])))) (mNil)))
def m_is_name : MS := mSeq s_is_name_0 (s_is_name_1)
def f_is_name : FN := runDef 1 2 m_is_name
/-! are_names -/
def s_are_names_0 : MS := mRet (mAnd (mCall fIsiB (mCons (mVar 0) (mCons (mC (.ty "tuple")) (mNil)))) (mCall fAll (mCons (mLc (mItT (mVar 0)) [1] (gVar 1) (mYes) (mCall f_is_name (mCons (mVar 1) (mNil)))) (mNil))))
def m_are_names : MS := s_are_names_0
def f_are_names : FN := runDef 1 2 m_are_names
/-! is_naming -/
def s_is_naming_0 : MS := mIf (mNotT (mB (mCall f_are_names (mCons (mVar 0) (mNil))))) (mRaise "InvalidPlace") (mDone)
def s_is_naming_1 : MS := mIf (mOrT (mNotT (mB (mCall fIsiB (mCons (mVar 1) (mCons (mC (.ty "dict")) (mNil)))))) (mNotT (mB (mCall fAll (mCons (mLc (mItE (mVar 1)) [3] (gVar 3) (mYes) (mCall f_is_name (mCons (mVar 3) (mNil)))) (mNil)))))) (mRet (mC (.bl false))) (mDone)
def s_is_naming_2 : MS := mIf (mB (mBin fNe (mCall fSortB (mCons (mVar 1) (mNil))) (mCall fSortB (mCons (mCall fSet (mCons (mVar 0) (mNil))) (mNil))))) (mRet (mC (.bl false))) (mDone)
def s_is_naming_3 : MS := mSet 2 (mLc (mItE (mVar 1)) [3] (gVar 3) (mYes) (mBin fIxA (mVar 1) (mVar 3)))
def s_is_naming_4 : MS := mRet (mAnd (mCall fAll (mCons (mLc (mItL (mVar 2)) [4] (gVar 4) (mYes) (mCall f_is_name (mCons (mVar 4) (mNil)))) (mNil))) (mBin fEq (mCall fLenB (mCons (mCall fSet (mCons (mVar 2) (mNil))) (mNil))) (mCall fLenB (mCons (mVar 2) (mNil)))))
def m_is_naming : MS := mSeq s_is_naming_0 (mSeq s_is_naming_1 (mSeq s_is_naming_2 (mSeq s_is_naming_3 (s_is_naming_4))))
def f_is_naming : FN := runDef 2 5 m_is_naming
/-! _law_mixed -/
def s__law_mixed_0 : MS := mPar 2 3 (mCons (mCall fListN (mCons (mVar 1) (mNil))) (mCons (mLstN (mNil)) (mNil)))
def s__law_mixed_1 : MS := mFor (mItC fRange1 (mCons (mCall fLenB (mCons (mVar 1) (mNil))) (mNil))) (gVar 4) (mDrop (mMeth "list" fAppend (mVar 3) (mCons (mMeth "list" fPopAt (mVar 2) (mCons (mCall f__law_roll (mCons (mVar 0) (mCons (mCall fLenB (mCons (mVar 2) (mNil))) (mNil)))) (mNil))) (mNil))))
def s__law_mixed_2 : MS := mRet (mVar 3)
def m__law_mixed : MS := mSeq s__law_mixed_0 (mSeq s__law_mixed_1 (s__law_mixed_2))
def f__law_mixed : FN := runDefN 2 5 m__law_mixed
/-! _law_is_word -/
def s__law_is_word_0 : MS := mRet (mAnd (mCall fIsiB (mCons (mVar 0) (mCons (mC (.ty "str")) (mNil)))) (mAnd (mChain fLt fLt (mC (.int 0)) (mCall fLenB (mCons (mVar 0) (mNil))) (mC (.int 9))) (mBin fEq (mLc (mItS (mVar 0)) [1] (gVar 1) (mNotT (mB (mChain fLe fLe (mC (.str [97])) (mVar 1) (mC (.str [122]))))) (mVar 1)) (mLst (mNil)))))
def m__law_is_word : MS := s__law_is_word_0
def f__law_is_word : FN := runDef 1 2 m__law_is_word
section
variable {h : Store}
/-- values whose kind isinstance tells -/
def kindP : PV → Option String
  | .non => some "NoneType" | .bl _ => some "bool" | .int _ => some "int" | .str _ => some "str"
  | .tup _ => some "tuple" | .lst _ => some "list" | .scr _ => some "list" | .dct _ => some "dict" | .dctO _ => some "dict"
  | _ => none
theorem isi_eq {x : PV} {t n : String} (hv : kindP x = some t) (hn : tysB.contains n = true) : fIsiB [x, .ty n] h = .ok (.bl (isTy t n)) h := by
  cases x with
  | dctO ks => cases hv; exact if_pos hn
  | _ =>
    first
      | (cases hv; done)
      | (cases hv; exact if_pos hn)
/-! letters and names -/
def az (c : Nat) : Bool := decide (97 ≤ c) && decide (c ≤ 122)
def wordB (x : List Nat) : Bool := decide (1 ≤ x.length) && decide (x.length ≤ 8) && x.all az
def nmB : PV → Bool
  | .str x => wordB x
  | _ => false
theorem mem_az (c : Nat) : decide (c ∈ [97, 98, 99, 100, 101, 102, 103, 104, 105, 106, 107, 108, 109, 110, 111, 112, 113, 114, 115, 116, 117, 118, 119, 120, 121, 122]) = az c := by
  unfold az
  rw [← Bool.decide_and]
  refine decide_eq_decide.mpr ?_
  simp only [List.mem_cons, List.not_mem_nil, or_false]
  omega
@[simp] theorem fLenB_eq {x : PV} (hx : ∀ ys, x ≠ .set ys) (hd : dctRd h x = none) : fLenB [x] h = fLen [x] h := by
  cases x with
  | set ys => exact absurd rfl (hx ys)
  | _ => simp only [fLenB, fLenA, hd]
@[simp] theorem fLenB_str {x : List Nat} (k : x.length ≤ 1000000) : fLenB [.str x] h = .ok (.int x.length) h := fLen_str k
@[simp] theorem fLenB_tup {xs : List PV} : fLenB [.tup xs] h = .ok (.int xs.length) h := (rfl)
@[simp] theorem fLenB_lst {xs : List PV} : fLenB [.lst xs] h = .ok (.int xs.length) h := (rfl)
@[simp] theorem fLenB_scr {xs : List PV} : fLenB [.scr xs] h = .ok (.int xs.length) h := (rfl)
@[simp] theorem fLenB_set {xs : List PV} : fLenB [.set xs] h = .ok (.int xs.length) h := (rfl)
@[simp] theorem fLenB_dct {kvs : List (PV × PV)} : fLenB [.dct kvs] h = .ok (.int kvs.length) h := (rfl)
theorem fLenB_ref {a : Nat} {xs : List PV} (k : h[a]? = some (.lst xs)) : fLenB [.ref a] h = .ok (.int xs.length) h := by
  rw [fLenB_eq (fun _ z => by cases z) (by simp only [dctRd, k])]
  exact fLen_ref k
@[simp] theorem fIn_str {c : Nat} {y : List Nat} : fIn (.str [c]) (.str y) h = .ok (.bl (decide (c ∈ y))) h := (rfl)
/-- a comprehension that keeps all and changes nothing -/
theorem lcL_all {g : MG} {t : M Bool} {e : M PV} (F : PV → PV) {ys : List PV} {l : Lv} (st : ∀ y ∈ ys, ∃ l1, g y l h = .ok l1 h ∧ t l1 h = .ok true h ∧ e l1 h = .ok (F y) h) : lcL g t e ys l h = .ok (ys.map F) h := by
  have := lcL_eq (g := g) (t := t) (e := e) (h := h) (l := l) (fun _ => true) F (ys := ys) fun y hy => let ⟨l1, a, b, c⟩ := st y hy; ⟨l1, a, b, fun _ => c⟩
  rw [this, List.filter_eq_self.mpr fun _ _ => rfl]
theorem isName_str {x : List Nat} (hx : x.length ≤ 1000000) : f_is_name [.str x] h = .ok (.bl (wordB x)) h := by
  have e1 : fIsiB [.str x, .ty "str"] h = .ok (.bl true) h := isi_eq (t := "str") rfl (by decide)
  by_cases h1 : 1 ≤ x.length
  · by_cases h2 : x.length ≤ 8
    · have e2 : lcL (gVar 1) mYes (mBin fIn (mVar 1) (mC (.str [97, 98, 99, 100, 101, 102, 103, 104, 105, 106, 107, 108, 109, 110, 111, 112, 113, 114, 115, 116, 117, 118, 119, 120, 121, 122]))) (x.map fun c => .str [c]) [some (.str x), none] h = .ok ((x.map az).map PV.bl) h := by
        have := lcL_all (g := gVar 1) (t := mYes) (e := mBin fIn (mVar 1) (mC (.str [97, 98, 99, 100, 101, 102, 103, 104, 105, 106, 107, 108, 109, 110, 111, 112, 113, 114, 115, 116, 117, 118, 119, 120, 121, 122]))) (l := [some (.str x), none]) (h := h) (ys := x.map fun c => .str [c])
          (fun y => match y with | .str [c] => .bl (az c) | _ => .non) (by
            intro y hy
            obtain ⟨c, hc, rfl⟩ := List.mem_map.mp hy
            refine ⟨_, rfl, rfl, ?_⟩
            exact congrArg (fun b => R.ok (PV.bl b) h) (mem_az c))
        rw [this, List.map_map, List.map_map]
        rfl
      have e3 : fAll [.lst ((x.map az).map PV.bl)] h = .ok (.bl (x.all az)) h := by
        rw [List.map_map]
        exact fAll_map az x
      have hz : x.length ≤ sizeLine := show _ ≤ 16777216 by omega
      have h1' : (1 : Int) ≤ (x.length : Int) := by omega
      have h2' : (x.length : Int) ≤ 8 := by omega
      simp only [f_is_name, runDef, m_is_name, s_is_name_0, s_is_name_1, initL, mSeq_at, mIf_at, mOrT_at, mNotT_at, mB_at, mCall_at, mCons_at, mNil_at, mVar_at, mC_at, mChain_at, List.map_cons, List.map_nil, List.length_cons, List.length_nil, List.cons_append, List.nil_append, List.getElem?_cons_zero, List.getElem?_cons_succ, R.bind_ok, e1, Bool.not_true, Bool.false_eq_true, if_false, fLenB_str hx, fLe_int, decide_eq_true h1', decide_eq_true h2', if_true, mDone_at, on_nx, mRet_at, mLc_at, mItS_at, List.length_map, hz, wipeL_cons, wipeL_nil, List.replicate, List.set_cons_succ, List.set_cons_zero, e2, e3]
      rw [List.map_map] at e3
      simp [wordB, h1, h2, hz, e2, e3]
    · have h1' : (1 : Int) ≤ (x.length : Int) := by omega
      have h2' : ¬ (x.length : Int) ≤ 8 := by omega
      simp [f_is_name, runDef, m_is_name, s_is_name_0, s_is_name_1, initL, e1, hx, h1', h2', wordB, h1, h2]
  · have h1' : ¬ (1 : Int) ≤ (x.length : Int) := by omega
    simp [f_is_name, runDef, m_is_name, s_is_name_0, s_is_name_1, initL, e1, hx, h1', wordB, h1]
theorem isName_no {x : PV} {t : String} (hv : kindP x = some t) (ht : isTy t "str" = false) : f_is_name [x] h = .ok (.bl false) h := by
  have e1 : fIsiB [x, .ty "str"] h = .ok (.bl false) h := by rw [isi_eq hv (by decide), ht]
  simp [f_is_name, runDef, m_is_name, s_is_name_0, s_is_name_1, initL, e1]
/-- values that names are looked for in -/
def okN : PV → Bool
  | .str x => decide (x.length ≤ 1000000)
  | x => (kindP x).isSome
theorem isName_ok {x : PV} (hx : okN x = true) : f_is_name [x] h = .ok (.bl (nmB x)) h := by
  cases x with
  | str z => exact isName_str (by simpa [okN] using hx)
  | _ => first | (exact isName_no (t := _) rfl (by decide)) | (cases hx; done)
theorem areNames_tup {xs : List PV} (hx : ∀ x ∈ xs, okN x = true) (hl : xs.length ≤ 1000000) : f_are_names [.tup xs] h = .ok (.bl (xs.all nmB)) h := by
  have e1 : fIsiB [.tup xs, .ty "tuple"] h = .ok (.bl true) h := isi_eq (t := "tuple") rfl (by decide)
  have e2 : lcL (gVar 1) mYes (mCall f_is_name (mCons (mVar 1) mNil)) xs [some (.tup xs), none] h = .ok (xs.map fun x => .bl (nmB x)) h :=
    lcL_all (fun y => .bl (nmB y)) fun y hy => ⟨_, rfl, rfl, by simp [isName_ok (hx y hy)]⟩
  have e3 : fAll [.lst (xs.map fun x => .bl (nmB x))] h = .ok (.bl (xs.all nmB)) h := fAll_map nmB xs
  have hz : xs.length ≤ sizeLine := show _ ≤ 16777216 by omega
  have e4 : mItT (mVar 0) [some (.tup xs), none] h = .ok xs h := rfl
  simp [f_are_names, runDef, m_are_names, s_are_names_0, initL, e1, e2, e3, hz, e4]
theorem areNames_no {x : PV} {t : String} (hv : kindP x = some t) (ht : isTy t "tuple" = false) : f_are_names [x] h = .ok (.bl false) h := by
  have e1 : fIsiB [x, .ty "tuple"] h = .ok (.bl false) h := by rw [isi_eq hv (by decide), ht]
  simp [f_are_names, runDef, m_are_names, s_are_names_0, initL, e1]
end
end Wg

namespace Wg
open PySem
section
variable {h : Store}
/-! ### rows of texts, sorted, without repetition -/
theorem mem_addP {α : Type} [DecidableEq α] {L : List α} {x y : α} : y ∈ addP L x ↔ y ∈ L ∨ y = x := by
  unfold addP
  split
  next q => exact ⟨.inl, fun z => z.elim id fun z => z ▸ q⟩
  next => rw [List.mem_append, List.mem_singleton]
theorem nodup_addP {α : Type} [DecidableEq α] {L : List α} {x : α} (n : L.Nodup) : (addP L x).Nodup := by
  unfold addP
  split
  next => exact n
  next q => exact List.nodup_append.mpr ⟨n, (by simp), fun a ha b hb e => q (by rw [List.mem_singleton.mp hb] at e; exact e ▸ ha)⟩
theorem mem_foldl_addP {α : Type} [DecidableEq α] {y : α} : ∀ {xs L : List α}, y ∈ xs.foldl addP L ↔ y ∈ L ∨ y ∈ xs
  | [], L => by simp
  | x :: xs, L => by
    rw [List.foldl_cons, mem_foldl_addP (xs := xs), mem_addP, List.mem_cons]
    exact or_assoc
theorem nodup_foldl_addP {α : Type} [DecidableEq α] : ∀ {xs L : List α}, L.Nodup → (xs.foldl addP L).Nodup
  | [], _, n => n
  | x :: xs, L, n => nodup_foldl_addP (xs := xs) (nodup_addP n)
theorem mem_dedup {α : Type} [DecidableEq α] {xs : List α} {y : α} : y ∈ dedup xs ↔ y ∈ xs := by
  unfold dedup
  rw [mem_foldl_addP]
  exact ⟨fun z => z.elim (fun z => absurd z List.not_mem_nil) id, .inr⟩
theorem nodup_dedup {α : Type} [DecidableEq α] (xs : List α) : (dedup xs).Nodup := nodup_foldl_addP List.nodup_nil
theorem foldl_addP_nd {α : Type} [DecidableEq α] : ∀ {xs L : List α}, (L ++ xs).Nodup → xs.foldl addP L = L ++ xs
  | [], L, _ => by simp
  | x :: xs, L, n => by
    have nx : x ∉ L := fun z => (List.nodup_append.mp n).2.2 x z x List.mem_cons_self rfl
    have e : addP L x = L ++ [x] := if_neg nx
    have n2 : (L ++ [x] ++ xs).Nodup := by rw [List.append_assoc]; exact n
    rw [List.foldl_cons, e, foldl_addP_nd n2, List.append_assoc]
    rfl
theorem dedup_nd {α : Type} [DecidableEq α] {xs : List α} (n : xs.Nodup) : dedup xs = xs := by
  have := foldl_addP_nd (xs := xs) (L := []) n
  exact this
theorem foldl_addP_le {α : Type} [DecidableEq α] (xs : List α) : ∀ L, (xs.foldl addP L).length ≤ L.length + xs.length := fun L => foldl_addP_len xs L
theorem foldl_addP_full {α : Type} [DecidableEq α] : ∀ {xs L : List α}, L.Nodup → (xs.foldl addP L).length = L.length + xs.length → (L ++ xs).Nodup
  | [], L, n, _ => by simpa using n
  | x :: xs, L, n, e => by
    by_cases q : x ∈ L
    · exfalso
      have e1 : addP L x = L := if_pos q
      rw [List.foldl_cons, e1, List.length_cons] at e
      have := foldl_addP_len xs L
      omega
    · have e1 : addP L x = L ++ [x] := if_neg q
      rw [List.foldl_cons, e1, List.length_cons] at e
      have e2 := foldl_addP_full (xs := xs) (L := L ++ [x]) (by rw [← e1]; exact nodup_addP n) (by rw [e, List.length_append, List.length_singleton]; omega)
      rw [List.append_assoc] at e2
      exact e2
theorem dedup_len {α : Type} [DecidableEq α] {xs : List α} : (dedup xs).length = xs.length ↔ xs.Nodup :=
  ⟨fun e => foldl_addP_full (L := []) List.nodup_nil (by simpa [dedup] using e), fun n => by rw [dedup_nd n]⟩
theorem isortL_eq {a b : List (List Nat)} : isort ltL a = isort ltL b ↔ a.Perm b := by
  constructor
  · intro e
    exact ((isort_perm (lt := ltL) a).symm.trans (by rw [e])).trans (isort_perm b)
  · intro p
    exact isortL_uniq ((isort_perm a).trans p) (isort_srtd swo_l a)
theorem perm_iff_nd {α : Type} [DecidableEq α] {a b : List α} (na : a.Nodup) (nb : b.Nodup) : a.Perm b ↔ (∀ x ∈ a, x ∈ b) ∧ ∀ x ∈ b, x ∈ a := by
  constructor
  · intro p
    exact ⟨fun x hx => p.mem_iff.mp hx, fun x hx => p.mem_iff.mpr hx⟩
  · intro q
    exact (List.perm_ext_iff_of_nodup na nb).mpr fun x => ⟨q.1 x, q.2 x⟩
/-! ### dicts with no key twice -/
def NdK (kvs : List (PV × PV)) : Prop := (kvs.map fun kv => keyP kv.1).Nodup
theorem putP_keys {kvs : List (PV × PV)} {k v : PV} : (putP kvs k v).map (fun kv => keyP kv.1) = if (kvs.any fun kv => keyEq kv.1 k) = true then kvs.map (fun kv => keyP kv.1) else kvs.map (fun kv => keyP kv.1) ++ [keyP k] := by
  unfold putP
  split
  next =>
    rw [List.map_map]
    refine List.map_congr_left fun kv _ => ?_
    show keyP (if keyEq kv.1 k = true then (kv.1, v) else kv).1 = keyP kv.1
    split <;> rfl
  next => rw [List.map_append]; rfl
theorem NdK.put {kvs : List (PV × PV)} {k v : PV} (n : NdK kvs) : NdK (putP kvs k v) := by
  unfold NdK
  rw [putP_keys]
  split
  next => exact n
  next q =>
    refine List.nodup_append.mpr ⟨n, (by simp), fun a ha b hb e => q ?_⟩
    obtain ⟨kv, hkv, rfl⟩ := List.mem_map.mp ha
    rw [List.mem_singleton.mp hb] at e
    exact List.any_eq_true.mpr ⟨kv, hkv, decide_eq_true e⟩
theorem NdK.putAll : ∀ {kvs acc : List (PV × PV)}, NdK acc → NdK (putAll acc kvs)
  | [], _, n => n
  | _ :: kvs, _, n => NdK.putAll (kvs := kvs) n.put
theorem mem_putP {P Q : PV → Prop} {kvs : List (PV × PV)} {k v : PV} (h : ∀ kv ∈ kvs, P kv.1 ∧ Q kv.2) (hk : P k) (hv : Q v) : ∀ kv ∈ putP kvs k v, P kv.1 ∧ Q kv.2 := by
  intro kv hkv
  unfold putP at hkv
  split at hkv
  · obtain ⟨d, hd, rfl⟩ := List.mem_map.mp hkv
    split
    · exact ⟨(h d hd).1, hv⟩
    · exact h d hd
  · rcases List.mem_append.mp hkv with z | z
    · exact h kv z
    · rw [List.mem_singleton.mp z]; exact ⟨hk, hv⟩
theorem mem_putAll {P Q : PV → Prop} : ∀ {kvs acc : List (PV × PV)}, (∀ kv ∈ acc, P kv.1 ∧ Q kv.2) → (∀ kv ∈ kvs, P kv.1 ∧ Q kv.2) → ∀ kv ∈ putAll acc kvs, P kv.1 ∧ Q kv.2
  | [], _, h, _ => h
  | kv :: kvs, acc, h, h2 => mem_putAll (kvs := kvs) (acc := putP acc kv.1 kv.2) (mem_putP h (h2 kv List.mem_cons_self).1 (h2 kv List.mem_cons_self).2) fun d hd => h2 d (List.mem_cons_of_mem _ hd)
theorem putP_len {kvs : List (PV × PV)} {k v : PV} : (putP kvs k v).length ≤ kvs.length + 1 := by
  unfold putP
  split
  · rw [List.length_map]; omega
  · simp
theorem putAll_len : ∀ {kvs acc : List (PV × PV)}, (putAll acc kvs).length ≤ acc.length + kvs.length
  | [], _ => Nat.le_refl _
  | kv :: kvs, acc => by
    have a := putAll_len (kvs := kvs) (acc := putP acc kv.1 kv.2)
    have b := putP_len (kvs := acc) (k := kv.1) (v := kv.2)
    show (putAll (putP acc kv.1 kv.2) kvs).length ≤ _
    rw [List.length_cons]; omega
theorem putAll_nd : ∀ {kvs acc : List (PV × PV)}, NdK (acc ++ kvs) → putAll acc kvs = acc ++ kvs
  | [], acc, _ => by simp [putAll]
  | kv :: kvs, acc, n => by
    have e : putP acc kv.1 kv.2 = acc ++ [kv] := by
      unfold putP
      rw [if_neg]
      intro z
      obtain ⟨d, hd, q⟩ := List.any_eq_true.mp z
      unfold NdK at n
      rw [List.map_append] at n
      exact (List.nodup_append.mp n).2.2 _ (List.mem_map.mpr ⟨d, hd, rfl⟩) _ (List.mem_map.mpr ⟨kv, List.mem_cons_self, rfl⟩) (of_decide_eq_true q)
    show putAll (putP acc kv.1 kv.2) kvs = _
    rw [e, putAll_nd (kvs := kvs) (acc := acc ++ [kv]) (by rw [List.append_assoc]; exact n), List.append_assoc]
    rfl
theorem lookD_own : ∀ {kvs : List (PV × PV)} {k x : PV} {c : L2.Key}, NdK kvs → (k, x) ∈ kvs → keyP k = some c → lookD kvs c = some x
  | [], _, _, _, _, m, _ => absurd m List.not_mem_nil
  | (k0, x0) :: kvs, k, x, c, n, m, e => by
    rcases List.mem_cons.mp m with z | z
    · cases z
      simp [lookD, List.find?_cons, e]
    · have ne : ¬ keyP k0 = some c := fun q => by
        have n' := List.nodup_cons.mp n
        exact n'.1 (List.mem_map.mpr ⟨(k, x), z, e.trans q.symm⟩)
      have ih := lookD_own (List.nodup_cons.mp n).2 z e
      simp only [lookD, List.find?_cons, decide_eq_false ne] at ih ⊢
      exact ih
theorem lookD_isSome {kvs : List (PV × PV)} {c : L2.Key} : (lookD kvs c).isSome = kvs.any fun kv => decide (keyP kv.1 = some c) := by
  unfold lookD
  rw [Option.isSome_map, Bool.eq_iff_iff, List.find?_isSome, List.any_eq_true]
end
end Wg

namespace Wg
open PySem
section
variable {h : Store}
/-! ### namings -/
theorem strsOf_str : ∀ L : List (List Nat), strsOf (L.map .str) = some L
  | [] => rfl
  | x :: L => by rw [List.map_cons, strsOf, strsOf_str L]; rfl
/-- the texts of a row of names -/
def txsP : List PV → List (List Nat)
  | [] => []
  | .str x :: r => x :: txsP r
  | _ :: r => txsP r
theorem txsP_all : ∀ {xs : List PV}, xs.all nmB = true → xs = (txsP xs).map .str
  | [], _ => rfl
  | x :: xs, a => by
    rw [List.all_cons, Bool.and_eq_true] at a
    cases x with
    | str z => rw [txsP, List.map_cons, ← txsP_all a.2]
    | _ => exact absurd a.1 Bool.false_ne_true
@[simp] theorem txsP_str : ∀ L : List (List Nat), txsP (L.map .str) = L
  | [] => rfl
  | x :: L => by rw [List.map_cons, txsP, txsP_str L]
theorem wordB_small {x : List Nat} (w : wordB x = true) : x.all (fun c => decide (c < 0x110000)) = true := by
  unfold wordB at w
  rw [Bool.and_eq_true] at w
  refine List.all_eq_true.mpr fun c hc => ?_
  have := List.all_eq_true.mp w.2 c hc
  unfold az at this
  rw [Bool.and_eq_true, decide_eq_true_eq, decide_eq_true_eq] at this
  rw [decide_eq_true_eq]; omega
theorem wordB_len {x : List Nat} (w : wordB x = true) : x.length ≤ 8 := by
  unfold wordB at w
  simp only [Bool.and_eq_true, decide_eq_true_eq] at w
  exact w.1.2
theorem okD_txs {L : List (List Nat)} (hL : ∀ x ∈ L, x.all (fun c => decide (c < 0x110000)) = true) : okD 1 (.lst (L.map .str)) = true := by
  simp only [okD, List.all_eq_true, List.mem_map]
  rintro y ⟨x, hx, rfl⟩
  simp only [okD]
  exact hL x hx
theorem eqPVs_txs (a b : List (List Nat)) : eqPVs (a.map .str) (b.map .str) = decide (a = b) := eqPVs_map .str (fun a b => by simp only [eqPV]) a b
/-- what is_naming tells of texts and a value -/
def namB (names : List (List Nat)) : PV → Bool
  | .dct kvs => (kvs.map (·.1)).all nmB && (decide ((txsP (kvs.map (·.1))).Perm (dedup names)) && ((kvs.map (·.2)).all nmB && decide (txsP (kvs.map (·.2))).Nodup))
  | _ => false
/-- values that are looked at -/
structure OkDct (kvs : List (PV × PV)) : Prop where
  nd : NdK kvs
  len : kvs.length < 64
  key : ∀ kv ∈ kvs, okD 0 kv.1 = true ∧ okN kv.1 = true ∧ (keyP kv.1).isSome = true
  val : ∀ kv ∈ kvs, okN kv.2 = true ∧ (∀ x, kv.2 = .str x → okD 0 (.str x) = true)
def okNv : PV → Prop
  | .dct kvs => OkDct kvs
  | .dctO ks => ks.length < 64 ∧ (∀ k ∈ ks, okD 0 k = true ∧ okN k = true ∧ flatP k = true) ∧ ks.all nmB = false
  | v => (kindP v).isSome = true
theorem okNv_kind {v : PV} (o : okNv v) : ∃ t, kindP v = some t := by
  cases v <;> first | exact ⟨_, rfl⟩ | exact absurd o (by simp [okNv, kindP])
theorem names_ok {names : List (List Nat)} (hn : ∀ x ∈ names, wordB x = true) : ∀ x ∈ names.map PV.str, okN x = true := fun x hx => by
  obtain ⟨z, hz, rfl⟩ := List.mem_map.mp hx
  have := wordB_len (hn z hz)
  simp only [okN, decide_eq_true_eq]; omega
theorem all_nm {names : List (List Nat)} : (names.map PV.str).all nmB = names.all wordB := by rw [List.all_map]; rfl
theorem nodup_isort {L : List (List Nat)} : (isort ltL L).Perm L := isort_perm L
theorem isNaming_ok {names : List (List Nat)} (hn : ∀ x ∈ names, wordB x = true) (hl : names.length < 1000) {v : PV} (hv : okNv v) : f_is_naming [.tup (names.map .str), v] h = .ok (.bl (namB names v)) h := by
  obtain ⟨t, ht⟩ := okNv_kind hv
  have e0 : f_are_names [.tup (names.map .str)] h = .ok (.bl true) h := by
    rw [areNames_tup (names_ok hn) (by rw [List.length_map]; omega), all_nm, List.all_eq_true.mpr hn]
  have e1 := isi_eq (h := h) (n := "dict") ht (by decide)
  have e0' : s_is_naming_0 [some (.tup (names.map .str)), some v, none, none, none] h = .ok (.nx [some (.tup (names.map .str)), some v, none, none, none]) h := by
    simp [s_is_naming_0, e0]
  by_cases hd : isTy t "dict" = true
  case neg =>
    have hd : isTy t "dict" = false := by simpa using hd
    rw [hd] at e1
    have e2 : namB names v = false := by
      cases v <;> first | rfl | (cases ht; exact absurd hd (by decide))
    rw [e2]
    simp [f_is_naming, runDef, m_is_naming, s_is_naming_1, initL, e0', e1]
  rw [hd] at e1
  have keysW : ∀ (ks : List PV), ks.length < 64 → (∀ k ∈ ks, okN k = true) → mItE (mVar 1) [some (.tup (names.map .str)), some v, none, none, none] h = .ok ks h →
      s_is_naming_1 [some (.tup (names.map .str)), some v, none, none, none] h = if ks.all nmB = true then .ok (.nx [some (.tup (names.map .str)), some v, none, none, none]) h else .ok (.rt (.bl false)) h := by
    intro ks lk hk src
    have e2 : lcL (gVar 3) mYes (mCall f_is_name (mCons (mVar 3) mNil)) ks [some (.tup (names.map .str)), some v, none, none, none] h = .ok (ks.map fun x => .bl (nmB x)) h :=
      lcL_all (fun y => .bl (nmB y)) fun y hy => ⟨_, rfl, rfl, by simp [isName_ok (hk y hy)]⟩
    have e3 : fAll [.lst (ks.map fun x => .bl (nmB x))] h = .ok (.bl (ks.all nmB)) h := fAll_map nmB ks
    have hz : ks.length ≤ sizeLine := show _ ≤ 16777216 by omega
    cases q : ks.all nmB <;> rw [q] at e3 <;> simp [s_is_naming_1, e1, src, e2, e3, hz]
  cases v with
  | dctO ks =>
    have e2 := keysW ks hv.1 (fun k hk => (hv.2.1 k hk).2.1) rfl
    rw [hv.2.2] at e2
    simp [f_is_naming, runDef, m_is_naming, initL, e0', e2, namB]
  | dct kvs =>
    have o : OkDct kvs := hv
    have e2 := keysW (kvs.map (·.1)) (by rw [List.length_map]; exact o.len) (fun k hk => by obtain ⟨kv, hkv, rfl⟩ := List.mem_map.mp hk; exact (o.key kv hkv).2.1) rfl
    by_cases qk : (kvs.map (·.1)).all nmB = true
    case neg =>
      rw [if_neg qk] at e2
      have qk : (kvs.map (·.1)).all nmB = false := by simpa using qk
      simp [f_is_naming, runDef, m_is_naming, initL, e0', e2, namB, qk]
    rw [if_pos qk] at e2
    have ks := txsP_all qk
    generalize hK : txsP (kvs.map (·.1)) = Ks at ks
    have lenK : Ks.length < 64 := by have := congrArg List.length ks; simp at this; have := o.len; omega
    have e3 : fSortB [.dct kvs] h = .ok (.lst ((isort ltL Ks).map .str)) h := by
      show (match keysTx kvs with | some L => if L.length < 64 then R.ok (PV.lst ((isort ltL L).map .str)) h else .no | none => .no) = _
      unfold keysTx
      rw [ks, strsOf_str]
      exact if_pos lenK
    have e4 : fSet [.tup (names.map .str)] h = .ok (.set ((dedup names).map .str)) h := by
      show setOfP (names.map .str) h = _
      unfold setOfP
      rw [strsOf_str]
      exact if_pos (by omega)
    have e5 : fSortB [.set ((dedup names).map .str)] h = .ok (.lst ((isort ltL (dedup names)).map .str)) h := by
      show (match strsOf ((dedup names).map .str) with | some L => R.ok (PV.lst ((isort ltL L).map .str)) h | none => .no) = _
      rw [strsOf_str]
    have kw : ∀ x ∈ Ks, wordB x = true := fun x hx => by
      have : PV.str x ∈ kvs.map (·.1) := by rw [ks]; exact List.mem_map.mpr ⟨x, hx, rfl⟩
      exact List.all_eq_true.mp qk _ this
    have e6 : fNe (.lst ((isort ltL Ks).map .str)) (.lst ((isort ltL (dedup names)).map .str)) h = .ok (.bl (!decide (Ks.Perm (dedup names)))) h := by
      rw [fNe_ok (n := 1) (by decide) (okD_txs fun x hx => wordB_small (kw x (nodup_isort.mem_iff.mp hx))) (okD_txs fun x hx => wordB_small (hn x (mem_dedup.mp (nodup_isort.mem_iff.mp hx))))]
      simp only [eqPV, eqPVs_txs, decide_eq_decide.mpr isortL_eq]
    by_cases pm : Ks.Perm (dedup names)
    case neg =>
      simp [f_is_naming, runDef, m_is_naming, initL, e0', e2, s_is_naming_2, e3, e4, e5, e6, namB, hK, pm]
    have e7 : s_is_naming_2 [some (.tup (names.map .str)), some (.dct kvs), none, none, none] h = .ok (.nx [some (.tup (names.map .str)), some (.dct kvs), none, none, none]) h := by
      simp [s_is_naming_2, e3, e4, e5, e6, pm]
    have e8 : lcL (gVar 3) mYes (mBin fIxA (mVar 1) (mVar 3)) (kvs.map (·.1)) [some (.tup (names.map .str)), some (.dct kvs), none, none, none] h = .ok (kvs.map (·.2)) h := by
      have z := lcL_all (h := h) (g := gVar 3) (t := mYes) (e := mBin fIxA (mVar 1) (mVar 3)) (ys := kvs.map (·.1)) (l := [some (.tup (names.map .str)), some (.dct kvs), none, none, none]) (fun k => ((keyP k).bind (lookD kvs)).getD .non) fun y hy => by
        obtain ⟨kv, hkv, rfl⟩ := List.mem_map.mp hy
        obtain ⟨c, hc⟩ := Option.isSome_iff_exists.mp (o.key kv hkv).2.2
        have lk := lookD_own o.nd (show (kv.1, kv.2) ∈ kvs from hkv) hc
        refine ⟨_, rfl, rfl, ?_⟩
        show (match getD h (.dct kvs) kv.1 with | some (some z) => R.ok z h | some none => .no | none => fIx (.dct kvs) kv.1 h) = _
        show (match (keyP kv.1).map (lookD kvs) with | some (some z) => R.ok z h | some none => .no | none => fIx (.dct kvs) kv.1 h) = _
        rw [hc]
        simp [lk]
      rw [z, List.map_map]
      refine congrArg (fun l => R.ok l h) (List.map_congr_left fun kv hkv => ?_)
      obtain ⟨c, hc⟩ := Option.isSome_iff_exists.mp (o.key kv hkv).2.2
      have lk := lookD_own o.nd (show (kv.1, kv.2) ∈ kvs from hkv) hc
      show ((keyP kv.1).bind (lookD kvs)).getD .non = kv.2
      rw [hc]
      simp [lk]
    have src : mItE (mVar 1) [some (.tup (names.map .str)), some (.dct kvs), none, none, none] h = .ok (kvs.map (·.1)) h := rfl
    have hz : kvs.length ≤ sizeLine := by have := o.len; exact (show _ ≤ 16777216 by omega)
    have e9 : s_is_naming_3 [some (.tup (names.map .str)), some (.dct kvs), none, none, none] h = .ok (.nx [some (.tup (names.map .str)), some (.dct kvs), some (.lst (kvs.map (·.2))), none, none]) h := by
      simp [s_is_naming_3, src, e8, hz]
    have e10 : lcL (gVar 4) mYes (mCall f_is_name (mCons (mVar 4) mNil)) (kvs.map (·.2)) [some (.tup (names.map .str)), some (.dct kvs), some (.lst (kvs.map (·.2))), none, none] h = .ok ((kvs.map (·.2)).map fun x => .bl (nmB x)) h :=
      lcL_all (fun y => .bl (nmB y)) fun y hy => ⟨_, rfl, rfl, by
        obtain ⟨kv, hkv, rfl⟩ := List.mem_map.mp hy
        simp [isName_ok (o.val kv hkv).1]⟩
    have e11 : fAll [.lst ((kvs.map (·.2)).map fun x => .bl (nmB x))] h = .ok (.bl ((kvs.map (·.2)).all nmB)) h := fAll_map nmB _
    have src2 : mItL (mVar 2) [some (.tup (names.map .str)), some (.dct kvs), some (.lst (kvs.map (·.2))), none, none] h = .ok (kvs.map (·.2)) h := rfl
    have e12 : s_is_naming_4 [some (.tup (names.map .str)), some (.dct kvs), some (.lst (kvs.map (·.2))), none, none] h = .ok (.rt (.bl ((kvs.map (·.2)).all nmB && decide (txsP (kvs.map (·.2))).Nodup))) h := by
      cases q : (kvs.map (·.2)).all nmB
      · rw [q] at e11
        simp only [s_is_naming_4, mRet_at, mAnd_at, mCall_at, mCons_at, mNil_at, mLc_at, src2, R.bind_ok, List.length_map, hz, if_true, wipeL_cons, wipeL_nil, List.set_cons_succ, List.set_cons_zero, e10, e11, Bool.false_and, bs_ok, Bool.false_eq_true, if_false]
      · have vs := txsP_all q
        generalize txsP (kvs.map (·.2)) = Vs at vs
        have lv : Vs.length < 4000 := by have := congrArg List.length vs; simp at this; have := o.len; omega
        have f1 : fSet [.lst (kvs.map (·.2))] h = .ok (.set ((dedup Vs).map .str)) h := by
          show setOfP (kvs.map (·.2)) h = _
          unfold setOfP
          rw [vs, strsOf_str]
          exact if_pos lv
        rw [q] at e11
        have f2 : (kvs.map (·.2)).length = Vs.length := by rw [vs, List.length_map]
        have f3 : decide (((dedup Vs).length : Int) = (Vs.length : Int)) = decide Vs.Nodup := by
          refine decide_eq_decide.mpr ?_
          rw [← dedup_len (xs := Vs)]
          omega
        simp only [s_is_naming_4, mRet_at, mAnd_at, mCall_at, mCons_at, mNil_at, mLc_at, mBin_at, mVar_at, src2, R.bind_ok, List.length_map, hz, if_true, wipeL_cons, wipeL_nil, List.set_cons_succ, List.set_cons_zero, List.getElem?_cons_succ, List.getElem?_cons_zero, e10, e11, f1, fLenB_set, fLenB_lst, Bool.true_and, bs_ok]
        rw [← List.length_map (f := (·.2)) (as := kvs), f2, fEq_int, f3]
        rfl
    simp [f_is_naming, runDef, m_is_naming, initL, e0', e2, e7, e9, e12, namB, qk, hK, pm]
  | _ => first | (cases ht; done) | (cases ht; exact absurd hd (by decide))
end
end Wg

namespace Wg
open PySem
section
variable {h : Store}
/-! ### rows against the empty row -/
theorem eqPVs_nil (xs : List PV) : eqPVs xs [] = xs.isEmpty := by cases xs <;> simp [eqPVs]
theorem fNe_nil {xs : List PV} (o : xs.all (okD 63) = true) : fNe (.lst xs) (.lst []) h = .ok (.bl (!xs.isEmpty)) h := by
  rw [fNe_ok (n := 64) (by decide) (by simp only [okD]; exact o) rfl]
  simp only [eqPV, eqPVs_nil]
theorem fEq_nil {xs : List PV} (o : xs.all (okD 63) = true) : fEq (.lst xs) (.lst []) h = .ok (.bl xs.isEmpty) h := by
  rw [fEq_ok (n := 64) (by decide) (by simp only [okD]; exact o) rfl]
  simp only [eqPV, eqPVs_nil]
theorem okD_up : ∀ {n : Nat} {x : PV}, okD n x = true → okD (n + 1) x = true
  | _, .non, _ => by simp [okD]
  | _, .bl _, _ => by simp [okD]
  | _, .int _, _ => by simp [okD]
  | n, .str x, h => by cases n <;> simpa [okD] using h
  | 0, .tup _, h => by simp [okD] at h
  | 0, .lst _, h => by simp [okD] at h
  | 0, .scr _, h => by simp [okD] at h
  | n + 1, .tup xs, h => by
    simp only [okD, List.all_eq_true] at h ⊢
    exact fun x hx => okD_up (h x hx)
  | n + 1, .lst xs, h => by
    simp only [okD, List.all_eq_true] at h ⊢
    exact fun x hx => okD_up (h x hx)
  | n + 1, .scr xs, h => by
    simp only [okD, List.all_eq_true] at h ⊢
    exact fun x hx => okD_up (h x hx)
  | n, .ty _, h => by cases n <;> simp [okD] at h
  | n, .adr _, h => by cases n <;> simp [okD] at h
  | n, .ref _, h => by cases n <;> simp [okD] at h
  | n, .dct _, h => by cases n <;> simp [okD] at h
  | n, .dcT _, h => by cases n <;> simp [okD] at h
  | n, .cls _, h => by cases n <;> simp [okD] at h
  | n, .ins _ _, h => by cases n <;> simp [okD] at h
  | n, .set _, h => by cases n <;> simp [okD] at h
  | n, .dctO _, h => by cases n <;> simp [okD] at h
  | n, .exn _, h => by cases n <;> simp [okD] at h
theorem okD_le {n m : Nat} (hm : n ≤ m) {x : PV} (o : okD n x = true) : okD m x = true := by
  obtain ⟨k, rfl⟩ := Nat.le.dest hm
  induction k with
  | zero => exact o
  | succ k ih => exact okD_up (ih (Nat.le_add_right _ _))
theorem filter_empty {α : Type} (p : α → Bool) : ∀ xs : List α, (xs.filter p).isEmpty = xs.all fun x => !p x
  | [] => rfl
  | x :: xs => by
    rw [List.filter_cons, List.all_cons]
    cases p x
    · simpa using filter_empty p xs
    · rfl
/-- .. of a comprehension that keeps some of a row as they are -/
theorem lcL_filter {g : MG} {t : M Bool} {e : M PV} (B : PV → Bool) {ys : List PV} {l : Lv} (st : ∀ y ∈ ys, ∃ l1, g y l h = .ok l1 h ∧ t l1 h = .ok (B y) h ∧ e l1 h = .ok y h) : lcL g t e ys l h = .ok (ys.filter B) h := by
  have := lcL_eq (g := g) (t := t) (e := e) (h := h) (l := l) B id (ys := ys) fun y hy => let ⟨l1, a, b, c⟩ := st y hy; ⟨l1, a, b, fun _ => c⟩
  rw [this, List.map_id]
theorem lt_one (a b : Nat) : decide (([a] : List Nat) < [b]) = decide (a < b) := by
  have : ([a] : List Nat) < [b] ↔ a < b := by
    rw [List.cons_lt_cons_iff]
    simp
  exact decide_eq_decide.mpr this
/-! ### _law_is_word -/
theorem lawWord {x : List Nat} (hx : x.length ≤ 1000000) (hc : x.all (fun c => decide (c < 0x110000)) = true) : f__law_is_word [.str x] h = .ok (.bl (wordB x)) h := by
  have e1 : fIsiB [.str x, .ty "str"] h = .ok (.bl true) h := isi_eq (t := "str") rfl (by decide)
  have hz : x.length ≤ sizeLine := show _ ≤ 16777216 by omega
  by_cases h1 : 1 ≤ x.length
  · by_cases h2 : x.length ≤ 8
    · have e2 : lcL (gVar 1) (mNotT (mB (mChain fLe fLe (mC (.str [97])) (mVar 1) (mC (.str [122]))))) (mVar 1) (x.map fun c => .str [c]) [some (.str x), none] h = .ok ((x.filter fun c => !az c).map fun c => .str [c]) h := by
        have := lcL_filter (h := h) (g := gVar 1) (t := mNotT (mB (mChain fLe fLe (mC (.str [97])) (mVar 1) (mC (.str [122]))))) (e := mVar 1) (l := [some (.str x), none]) (ys := x.map fun c => .str [c]) (fun y => match y with | .str [c] => !az c | _ => false) (by
            intro y hy
            obtain ⟨c, hc, rfl⟩ := List.mem_map.mp hy
            refine ⟨_, rfl, ?_, rfl⟩
            have k1 : decide (([c] : List Nat) < [97]) = decide (c < 97) := lt_one _ _
            have k2 : decide (([122] : List Nat) < [c]) = decide (122 < c) := lt_one _ _
            simp only [mNotT_at, mB_at, mChain_at, mC_at, mVar_at, R.bind_ok, fLe_str, k1, k2, List.set_cons_succ, List.set_cons_zero, List.getElem?_cons_succ, List.getElem?_cons_zero]
            by_cases q : c < 97
            · have q' : ¬ 97 ≤ c := by omega
              simp [q, q', az]
            · have q' : 97 ≤ c := by omega
              by_cases q2 : c ≤ 122
              · have q3 : ¬ 122 < c := by omega
                simp [q, q', q2, q3, az]
              · have q3 : 122 < c := by omega
                simp [q, q', q2, q3, az])
        rw [this, List.filter_map]
        rfl
      have e3 : fEq (.lst ((x.filter fun c => !az c).map fun c => .str [c])) (.lst []) h = .ok (.bl (x.all az)) h := by
        rw [fEq_nil]
        · have z := filter_empty (fun c => !az c) x
          simp only [Bool.not_not] at z
          rw [show ((x.filter fun c => !az c).map fun c => PV.str [c]).isEmpty = (x.filter fun c => !az c).isEmpty by cases x.filter _ <;> rfl, z]
        · refine List.all_eq_true.mpr fun y hy => ?_
          obtain ⟨c, hc', rfl⟩ := List.mem_map.mp hy
          simp only [okD, List.all_cons, List.all_nil, Bool.and_true]
          exact List.all_eq_true.mp hc c (List.mem_filter.mp hc' |>.1)
      have h1' : (0 : Int) < (x.length : Int) := by omega
      have h2' : (x.length : Int) < 9 := by omega
      have src : mItS (mVar 0) [some (.str x), none] h = .ok (x.map fun c => .str [c]) h := rfl
      have h0 : 0 < x.length := h1
      simp [f__law_is_word, runDef, h0, m__law_is_word, s__law_is_word_0, initL, e1, hx, h1', h2', src, hz, e2, e3, wordB, h1, h2]
    · have h1' : (0 : Int) < (x.length : Int) := by omega
      have h2' : ¬ (x.length : Int) < 9 := by omega
      have h0 : 0 < x.length := h1
      simp [f__law_is_word, runDef, h0, m__law_is_word, s__law_is_word_0, initL, e1, hx, h1', h2', wordB, h1, h2]
  · have h1' : ¬ (0 : Int) < (x.length : Int) := by omega
    have h0 : ¬ 0 < x.length := h1
    simp [f__law_is_word, runDef, h0, m__law_is_word, s__law_is_word_0, initL, e1, hx, h1', wordB, h1]
theorem lawWord_no {x : PV} {t : String} (hv : kindP x = some t) (ht : isTy t "str" = false) : f__law_is_word [x] h = .ok (.bl false) h := by
  have e1 : fIsiB [x, .ty "str"] h = .ok (.bl false) h := by rw [isi_eq hv (by decide), ht]
  simp [f__law_is_word, runDef, m__law_is_word, s__law_is_word_0, initL, e1]
theorem lawWord_ok {x : PV} (hx : okN x = true) (hc : ∀ z, x = .str z → okD 0 (.str z) = true) : f__law_is_word [x] h = .ok (.bl (nmB x)) h := by
  cases x with
  | str z => exact lawWord (by simpa [okN] using hx) (by have := hc z rfl; simpa [okD] using this)
  | _ => first | (exact lawWord_no (t := _) rfl (by decide)) | (cases hx; done)
theorem count_nodup {α : Type} [BEq α] [LawfulBEq α] : ∀ {xs : List α}, (∀ x ∈ xs, xs.count x ≤ 1) ↔ xs.Nodup
  | [] => ⟨fun _ => List.nodup_nil, fun _ x hx => absurd hx List.not_mem_nil⟩
  | a :: xs => by
    constructor
    · intro q
      refine List.nodup_cons.mpr ⟨fun z => ?_, count_nodup.mp fun x hx => ?_⟩
      · have := q a List.mem_cons_self
        rw [List.count_cons_self] at this
        have := List.count_pos_iff.mpr z
        omega
      · have := q x (List.mem_cons_of_mem _ hx)
        rw [List.count_cons] at this
        omega
    · intro n x hx
      have n' := List.nodup_cons.mp n
      rw [List.count_cons]
      by_cases e : a = x
      · subst e
        rw [List.count_eq_zero_of_not_mem n'.1]
        simp
      · have : (a == x) = false := by simpa using e
        rw [this]
        rcases List.mem_cons.mp hx with z | z
        · exact absurd z.symm e
        · simpa using count_nodup.mpr n'.2 x z
end
end Wg

namespace Wg
open PySem
section
variable {h h' : Store} {a i n : Nat}
theorem Roll.at_ (r : Roll a h h') (ne : i ≠ a) : h'[i]? = h[i]? := by
  obtain ⟨_, l, b, c, _, rfl⟩ := r
  exact List.getElem?_set_ne (Ne.symm ne)
theorem Dice.set {c : Cell} (d : Dice h a) (ne : i ≠ a) : Dice (h.set i c) a := by
  obtain ⟨l, b, c', e, hl⟩ := d
  exact ⟨l, b, c', by rw [List.getElem?_set_ne ne]; exact e, hl⟩
theorem fPopAt_ref {xs : List PV} {m : Nat} {x : PV} (k0 : h[i]? = some (.lst xs)) (k : xs[m]? = some x) (hm : m < 1000000) : fPopAt (.ref i) [.int (m : Int)] h = .ok x (h.set i (.lst (xs.eraseIdx m))) := by
  have lt : m < xs.length := (List.getElem?_eq_some_iff.mp k).1
  have e1 : cellL h (.ref i) = some (i, xs) := by simp only [cellL, k0]
  have e2 : L2.ixN xs.length (m : Int) = some m := by
    unfold L2.ixN
    simp [lt]
  unfold fPopAt
  simp only [e1, e2, k]
  exact if_pos ⟨by omega, by omega⟩
theorem fPop_ref {xs : List PV} {x : PV} (k0 : h[i]? = some (.lst (xs ++ [x]))) : fPop (.ref i) [] h = .ok x (h.set i (.lst xs)) := by
  have e1 : cellL h (.ref i) = some (i, xs ++ [x]) := by simp only [cellL, k0]
  unfold fPop
  simp only [e1]
  have : (xs ++ [x])[(xs ++ [x]).length - 1]? = some x := by simp
  simp only [this]
  rw [List.dropLast_concat]
theorem perm_eraseIdx {α : Type} : ∀ {xs : List α} {m : Nat} (lt : m < xs.length), (xs[m] :: xs.eraseIdx m).Perm xs
  | x :: xs, 0, _ => List.Perm.refl _
  | x :: xs, m + 1, lt => by
    have ih := perm_eraseIdx (xs := xs) (m := m) (by simpa using lt)
    exact (List.Perm.swap _ _ _).trans (ih.cons x)
/-! ### _law_mixed -/
theorem mixedLoop {x : PV} (hna : n ≠ a) (hma : n + 1 ≠ a) : ∀ (zs : List PV) (t : Option PV) (left found : List PV) (h : Store), zs.length = left.length → Dice h a → h[n]? = some (.lst left) → h[n + 1]? = some (.lst found) → found.length + left.length < 1000 →
    Ok (forL (gVar 4) (mDrop (mMeth "list" fAppend (mVar 3) (mCons (mMeth "list" fPopAt (mVar 2) (mCons (mCall f__law_roll (mCons (mVar 0) (mCons (mCall fLenB (mCons (mVar 2) (mNil))) (mNil)))) (mNil))) (mNil)))) zs [some (.ref a), some x, some (.ref n), some (.ref (n + 1)), t] h)
      fun f h' => ∃ t ys, f = .nx [some (.ref a), some x, some (.ref n), some (.ref (n + 1)), t] ∧ Dice h' a ∧ h'[n + 1]? = some (.lst ys) ∧ ys.Perm (found ++ left)
  | [], t, left, found, h, hl, d, e1, e2, _ => by
    have : left = [] := List.length_eq_zero_iff.mp hl.symm
    subst this
    exact ⟨_, _, rfl, t, found, rfl, d, e2, by simp⟩
  | z :: zs, t, left, found, h, hl, d, e1, e2, hz => by
    have hp : 0 < left.length := by rw [← hl]; simp
    show Ok ((gVar 4 z _ h).noX.bind fun l1 h1 => _) _
    simp only [gVar_at, noX_ok, R.bind_ok, List.set_cons_zero, List.set_cons_succ, mDrop_at, mMeth_at, mVar_at, List.getElem?_cons_zero, List.getElem?_cons_succ, tyM_ref e2, if_true, mCons_at, mNil_at, mCall_at, tyM_ref e1, fLenB_ref e1, R.bind_assoc]
    refine Ok.call (P := fun (f : Fl) (h2 : Store) => ∃ y, y ∈ left ∧ ∃ rest, (y :: rest).Perm left ∧ rest.length + 1 = left.length ∧ f = .nx [some (.ref a), some x, some (.ref n), some (.ref (n + 1)), some z] ∧ Dice h2 a ∧ h2[n]? = some (.lst rest) ∧ h2[n + 1]? = some (.lst (found ++ [y]))) ?_ ?_
    · refine Ok.bs (P := fun (v : PV) h2 => ∃ x, x ∈ left ∧ ∃ rest, (x :: rest).Perm left ∧ rest.length + 1 = left.length ∧ Dice h2 a ∧ h2[n]? = some (.lst rest) ∧ h2[n + 1]? = some (.lst (found ++ [x]))) ?_ ?_
      · refine Ok.call (ok_roll (by omega) (by omega) d) ?_
        rintro v h1 ⟨r, w, rfl, r0, r1⟩
        obtain ⟨m, rfl⟩ := Int.eq_ofNat_of_zero_le r0
        have lt : m < left.length := by omega
        have g1 : h1[n]? = some (.lst left) := (r.at_ hna).trans e1
        have g2 : h1[n + 1]? = some (.lst found) := (r.at_ hma).trans e2
        have f1 := fPopAt_ref (x := left[m]) g1 (List.getElem?_eq_getElem lt) (by omega)
        have lt1 : n < h1.length := (List.getElem?_eq_some_iff.mp g1).1
        have lt2 : n + 1 < h1.length := (List.getElem?_eq_some_iff.mp g2).1
        have g3 : (h1.set n (.lst (left.eraseIdx m)))[n + 1]? = some (.lst found) := by rw [List.getElem?_set_ne (by omega)]; exact g2
        have f2 := fAppend_ref (z := left[m]) g3 (by omega)
        simp only [R.bind_ok, f1, f2, Ok_ok]
        refine ⟨left[m], List.getElem_mem lt, left.eraseIdx m, perm_eraseIdx lt, by rw [List.length_eraseIdx, if_pos lt]; omega, (r.dice.set hna).set hma, ?_, ?_⟩
        · rw [List.getElem?_set_ne (by omega), List.getElem?_set_self lt1]
        · rw [List.getElem?_set_self (by rw [List.length_set]; exact lt2)]
      · rintro v h2 ⟨x, q1, rest, q2, q3, q4⟩
        exact ⟨_, _, rfl, x, q1, rest, q2, q3, rfl, q4⟩
    · rintro f h2 ⟨x, q1, rest, q2, q3, rfl, q4, q5, q6⟩
      refine (mixedLoop hna hma zs (some z) rest (found ++ [x]) h2 (by rw [List.length_cons] at hl; omega) q4 q5 q6 (by rw [List.length_append, List.length_singleton]; omega)).mono ?_
      rintro f h3 ⟨t, ys, rfl, q7, q8, q9⟩
      exact ⟨t, ys, rfl, q7, q8, q9.trans (by rw [List.append_assoc]; exact (List.Perm.append_left found q2))⟩
theorem ok_mixed {xs : List PV} (d : Dice h a) (hl : xs.length < 1000) : Ok (f__law_mixed [.ref a, .lst xs] h) fun v h' => Dice h' a ∧ ∃ i ys, v = .ref i ∧ i ≠ a ∧ h'[i]? = some (.lst ys) ∧ ys.Perm xs := by
  refine Ok.defN (by rfl) ?_
  have e0 : s__law_mixed_0 (initL 5 [.ref a, .lst xs]) h = .ok (.nx [some (.ref a), some (.lst xs), some (.ref h.length), some (.ref (h.length + 1)), none]) (h ++ [.lst xs] ++ [.lst []]) := by
    have e1 : fListN [.lst xs] h = .ok (.ref h.length) (h ++ [.lst xs]) := rfl
    simp [s__law_mixed_0, initL, e1]
  have hlt := d.lt
  have d2 : Dice (h ++ [.lst xs] ++ [.lst []]) a := d.app.app
  have g1 : (h ++ [.lst xs] ++ [.lst []])[h.length]? = some (Cell.lst xs) := by simp
  have g2 : (h ++ [.lst xs] ++ [.lst []])[h.length + 1]? = some (Cell.lst []) := by simp
  generalize h ++ [.lst xs] ++ [.lst []] = h2 at *
  unfold m__law_mixed
  rw [mSeq_at, e0]
  simp only [R.bind_ok, on_nx, mSeq_at, s__law_mixed_1, mFor_at, mItC_at, mCons_at, mNil_at, mCall_at, mVar_at, List.getElem?_cons_zero, List.getElem?_cons_succ, fLenB_lst]
  rw [fRange1_int (by omega)]
  simp only [bs_ok, Int.toNat_natCast]
  refine Ok.call (mixedLoop (by omega) (by omega) _ none xs [] h2 (by simp) d2 g1 g2 (by simpa using hl)) ?_
  rintro f h3 ⟨t, ys, rfl, q1, q2, q3⟩
  simp only [on_nx, s__law_mixed_2, mRet_at, mVar_at, List.getElem?_cons_zero, List.getElem?_cons_succ, bs_ok, Ok_ok]
  exact ⟨q1, _, ys, rfl, by omega, q2, by simpa using q3⟩
end
end Wg

namespace Wg
open PySem
/-! ### a list that is made within a def, and handed over -/
section
variable {h : Store} {xs : List PV} {y : PV} {n k : Nat}
theorem mapO_frz : ∀ {xs : List PV}, xs.all (below n) = true → mapO (frz h n (k + 1)) xs = some xs
  | [], _ => rfl
  | x :: xs, a => by
    rw [List.all_cons, Bool.and_eq_true] at a
    have e : frz h n (k + 1) x = some x := by unfold frz; rw [if_pos a.1]
    simp only [mapO, e, mapO_frz a.2, Option.bind_some, Option.map_some]
theorem frz_last (a : xs.all (below h.length) = true) : frz (h ++ [.lst xs]) h.length 40 (.ref h.length) = some (.lst xs) := by
  have b : below h.length (.ref h.length) = false := by simp [below]
  unfold frz
  rw [if_neg (by rw [b]; exact Bool.false_ne_true)]
  simp [mapO_frz a]
theorem handO_last (c : Closed h) (a : xs.all (below h.length) = true) : handO h.length (.ref h.length) (h ++ [.lst xs]) = .ok (.lst xs) h := handO_cut (by simp) c (frz_last a)
theorem fAppend_last (z : xs.length < sizeLine) : fAppend (.ref h.length) [y] (h ++ [.lst xs]) = .ok .non (h ++ [.lst (xs ++ [y])]) := by
  unfold fAppend cellL
  simp [z]
theorem tyM_last : tyM (h ++ [.lst xs]) "list" (.ref h.length) = true := by simp [tyM]
theorem below_strs (zs : List (List Nat)) : (zs.map PV.str).all (below n) = true := List.all_eq_true.mpr fun x hx => by obtain ⟨z, _, rfl⟩ := List.mem_map.mp hx; simp [below]
end
end Wg

namespace Wg
open PySem
/-! ### the text that repr tells -/
def okS (n : Nat) (x : Str) : Prop := (∀ c ∈ x.cps.toList, c < 0x110000) ∧ x.length ≤ n
theorem okS.le {n m : Nat} {x : Str} (o : okS n x) (h : n ≤ m) : okS m x := ⟨o.1, Nat.le_trans o.2 h⟩
theorem okS.app {n m : Nat} {x y : Str} (a : okS n x) (b : okS m y) : okS (n + m) (x ++ y) := by
  refine ⟨fun c hc => ?_, by rw [strLen_append]; exact Nat.add_le_add a.2 b.2⟩
  have e : (x ++ y).cps.toList = x.cps.toList ++ y.cps.toList := by
    show (x.cps ++ y.cps).toList = _
    simp
  rw [e] at hc
  rcases List.mem_append.mp hc with h | h
  · exact a.1 c h
  · exact b.1 c h
theorem chr_lt (c : Char) : c.toNat < 0x110000 := by
  rcases c.valid with h | ⟨_, h⟩
  · exact Nat.lt_trans h (by decide)
  · exact h
theorem okS_lit {s : String} {n : Nat} (h : s.toList.length ≤ n) : okS n (s : Str) := by
  rw [show (s : Str) = Str.ofString s from rfl, Str.ofString_eq_toList]
  refine ⟨fun c hc => ?_, ?_⟩
  · have hc : c ∈ s.toList.map Char.toNat := by simpa using hc
    obtain ⟨d, _, rfl⟩ := List.mem_map.mp hc
    exact chr_lt d
  · show ((s.toList.map Char.toNat).toArray).size ≤ n
    simpa using h
theorem okS_int {i : Int} {k : Nat} (hk : 0 < k) (h : i.natAbs < 10 ^ k) : okS (k + 1) ((toString i : String) : Str) := by
  refine okS_lit ?_
  have d := digs_len i
  have l := (numL_len_iff hk).mpr h
  have e : (digs i).length = (toString i).toList.length := by simp [digs]
  rw [← e]
  split at d <;> omega
/-- the text of a word of signs that stand for themselves -/
theorem okS_repr {x : List Nat} (hx : ∀ c ∈ x, ∀ q, q = 34 ∨ q = 39 → ∀ d ∈ Builtin.Str.reprChar q c, d < 0x110000) (h8 : ∀ c ∈ x, c < 0x110000) : okS (10 * x.length + 2) (reprText ⟨x.toArray⟩) := by
  refine ⟨?_, ?_⟩
  · have hq : reprQuote ⟨x.toArray⟩ = 34 ∨ reprQuote ⟨x.toArray⟩ = 39 := by
      unfold reprQuote
      split
      · exact .inl rfl
      · exact .inr rfl
    unfold reprText
    generalize reprQuote ⟨x.toArray⟩ = q at *
    have q0 : q < 0x110000 := by rcases hq with e | e <;> rw [e] <;> decide
    have go : ∀ (l : List Nat) (acc : Array Nat), (∀ c ∈ l, c ∈ x) → (∀ d ∈ acc.toList, d < 0x110000) → ∀ d ∈ (l.foldl (fun out c => out ++ (Builtin.Str.reprChar q c).toArray) acc).toList, d < 0x110000 := by
      intro l
      induction l with
      | nil => intro acc _ a d hd; exact a d hd
      | cons c l ih =>
        intro acc hl a
        refine ih _ (fun e he => hl e (List.mem_cons_of_mem _ he)) fun d hd => ?_
        have hd : d ∈ acc.toList ++ Builtin.Str.reprChar q c := by simpa using hd
        rcases List.mem_append.mp hd with z | z
        · exact a d z
        · exact hx c (hl c List.mem_cons_self) q hq d z
    intro d hd
    have hd : d ∈ (x.foldl (fun out c => out ++ (Builtin.Str.reprChar q c).toArray) #[q]).toList ++ [q] := by
      rw [← Array.foldl_toList] at hd
      simpa using hd
    rcases List.mem_append.mp hd with z | z
    · exact go x #[q] (fun _ h => h) (fun d hd => (show d = q by simpa using hd) ▸ q0) d z
    · rw [List.mem_singleton.mp z]; exact q0
  · have := StrLaws.reprText_len ⟨x.toArray⟩ fun c hc => Nat.lt_trans (h8 c (by simpa using hc)) (by decide)
    simpa [Str.length] using this
/-- what repr tells of data -/
theorem fRepr_of {x : PV} {d : PyData} {n : Nat} (e : showD x = some d) (f : ∀ h, seen h x = x) (s : d.showable = true) (dp : d.depth ≤ 50) (o : okS n d.shown) (hn : n ≤ 1000) (h : Store) : fRepr [x] h = .ok (.str d.shown.cps.toList) h := by
  unfold fRepr
  have l : d.shown.length ≤ sizeLine := Nat.le_trans o.2 (Nat.le_trans hn (by decide))
  simp only [f h, e, s, decide_eq_true dp, decide_eq_true l, Bool.and_self, if_true]
end Wg

namespace Wg.K00
open PySem PySem.Spec PyProof.Rows L2 Wg
/-! the plain functions -/
abbrev t_InvalidNumber : List (Str × Bool) := [("InvalidDrawing", false), ("InvalidGrowth", false), ("InvalidModel", false), ("InvalidNumber", true), ("InvalidOperation", false), ("InvalidPart", false), ("InvalidPlace", false), ("InvalidRoute", false), ("InvalidStep", false), ("InvalidTie", false), ("InvalidWeb", false), ("NothingToUndo", false), ("ParseError", false), ("Parted", false), ("Refused", false), ("TooMany", false), ("UnknownName", false), ("WebError", false)]
abbrev t_InvalidStep : List (Str × Bool) := [("InvalidDrawing", false), ("InvalidGrowth", false), ("InvalidModel", false), ("InvalidNumber", false), ("InvalidOperation", false), ("InvalidPart", false), ("InvalidPlace", false), ("InvalidRoute", false), ("InvalidStep", true), ("InvalidTie", false), ("InvalidWeb", false), ("NothingToUndo", false), ("ParseError", false), ("Parted", false), ("Refused", false), ("TooMany", false), ("UnknownName", false), ("WebError", false)]
abbrev t_NothingToUndo : List (Str × Bool) := [("InvalidDrawing", false), ("InvalidGrowth", false), ("InvalidModel", false), ("InvalidNumber", false), ("InvalidOperation", false), ("InvalidPart", false), ("InvalidPlace", false), ("InvalidRoute", false), ("InvalidStep", false), ("InvalidTie", false), ("InvalidWeb", false), ("NothingToUndo", true), ("ParseError", false), ("Parted", false), ("Refused", false), ("TooMany", false), ("UnknownName", false), ("WebError", false)]
abbrev t_ParseError : List (Str × Bool) := [("InvalidDrawing", false), ("InvalidGrowth", false), ("InvalidModel", false), ("InvalidNumber", false), ("InvalidOperation", false), ("InvalidPart", false), ("InvalidPlace", false), ("InvalidRoute", false), ("InvalidStep", false), ("InvalidTie", false), ("InvalidWeb", false), ("NothingToUndo", false), ("ParseError", true), ("Parted", false), ("Refused", false), ("TooMany", false), ("UnknownName", false), ("WebError", false)]
abbrev t_Parted : List (Str × Bool) := [("InvalidDrawing", false), ("InvalidGrowth", false), ("InvalidModel", false), ("InvalidNumber", false), ("InvalidOperation", false), ("InvalidPart", false), ("InvalidPlace", false), ("InvalidRoute", false), ("InvalidStep", false), ("InvalidTie", false), ("InvalidWeb", false), ("NothingToUndo", false), ("ParseError", false), ("Parted", true), ("Refused", false), ("TooMany", false), ("UnknownName", false), ("WebError", false)]
abbrev t_Refused : List (Str × Bool) := [("InvalidDrawing", false), ("InvalidGrowth", false), ("InvalidModel", false), ("InvalidNumber", false), ("InvalidOperation", false), ("InvalidPart", false), ("InvalidPlace", false), ("InvalidRoute", false), ("InvalidStep", false), ("InvalidTie", false), ("InvalidWeb", false), ("NothingToUndo", false), ("ParseError", false), ("Parted", false), ("Refused", true), ("TooMany", false), ("UnknownName", false), ("WebError", false)]
abbrev t_TooMany : List (Str × Bool) := [("InvalidDrawing", false), ("InvalidGrowth", false), ("InvalidModel", false), ("InvalidNumber", false), ("InvalidOperation", false), ("InvalidPart", false), ("InvalidPlace", false), ("InvalidRoute", false), ("InvalidStep", false), ("InvalidTie", false), ("InvalidWeb", false), ("NothingToUndo", false), ("ParseError", false), ("Parted", false), ("Refused", false), ("TooMany", true), ("UnknownName", false), ("WebError", false)]
abbrev t_UnknownName : List (Str × Bool) := [("InvalidDrawing", false), ("InvalidGrowth", false), ("InvalidModel", false), ("InvalidNumber", false), ("InvalidOperation", false), ("InvalidPart", false), ("InvalidPlace", false), ("InvalidRoute", false), ("InvalidStep", false), ("InvalidTie", false), ("InvalidWeb", false), ("NothingToUndo", false), ("ParseError", false), ("Parted", false), ("Refused", false), ("TooMany", false), ("UnknownName", true), ("WebError", false)]
abbrev t_WebError : List (Str × Bool) := [("InvalidDrawing", true), ("InvalidGrowth", true), ("InvalidModel", true), ("InvalidNumber", false), ("InvalidOperation", true), ("InvalidPart", true), ("InvalidPlace", true), ("InvalidRoute", true), ("InvalidStep", true), ("InvalidTie", true), ("InvalidWeb", true), ("NothingToUndo", false), ("ParseError", true), ("Parted", false), ("Refused", false), ("TooMany", false), ("UnknownName", false), ("WebError", true)]
abbrev t_iArithmeticError : List (Str × Bool) := [("InvalidDrawing", false), ("InvalidGrowth", false), ("InvalidModel", false), ("InvalidNumber", false), ("InvalidOperation", false), ("InvalidPart", false), ("InvalidPlace", false), ("InvalidRoute", false), ("InvalidStep", false), ("InvalidTie", false), ("InvalidWeb", false), ("NothingToUndo", false), ("ParseError", false), ("Parted", false), ("Refused", true), ("TooMany", true), ("UnknownName", false), ("WebError", false)]
abbrev t_iIndexError : List (Str × Bool) := [("InvalidDrawing", false), ("InvalidGrowth", false), ("InvalidModel", false), ("InvalidNumber", true), ("InvalidOperation", false), ("InvalidPart", false), ("InvalidPlace", false), ("InvalidRoute", false), ("InvalidStep", false), ("InvalidTie", false), ("InvalidWeb", false), ("NothingToUndo", false), ("ParseError", false), ("Parted", false), ("Refused", false), ("TooMany", false), ("UnknownName", false), ("WebError", false)]
abbrev t_iInvalidDrawing : List (Str × Bool) := [("InvalidDrawing", true), ("InvalidGrowth", false), ("InvalidModel", false), ("InvalidNumber", false), ("InvalidOperation", false), ("InvalidPart", false), ("InvalidPlace", false), ("InvalidRoute", false), ("InvalidStep", false), ("InvalidTie", false), ("InvalidWeb", false), ("NothingToUndo", false), ("ParseError", false), ("Parted", false), ("Refused", false), ("TooMany", false), ("UnknownName", false), ("WebError", false)]
abbrev t_iInvalidGrowth : List (Str × Bool) := [("InvalidDrawing", false), ("InvalidGrowth", true), ("InvalidModel", false), ("InvalidNumber", false), ("InvalidOperation", false), ("InvalidPart", false), ("InvalidPlace", false), ("InvalidRoute", false), ("InvalidStep", false), ("InvalidTie", false), ("InvalidWeb", false), ("NothingToUndo", false), ("ParseError", false), ("Parted", false), ("Refused", false), ("TooMany", false), ("UnknownName", false), ("WebError", false)]
abbrev t_iInvalidModel : List (Str × Bool) := [("InvalidDrawing", false), ("InvalidGrowth", false), ("InvalidModel", true), ("InvalidNumber", false), ("InvalidOperation", false), ("InvalidPart", false), ("InvalidPlace", false), ("InvalidRoute", false), ("InvalidStep", false), ("InvalidTie", false), ("InvalidWeb", false), ("NothingToUndo", false), ("ParseError", false), ("Parted", false), ("Refused", false), ("TooMany", false), ("UnknownName", false), ("WebError", false)]
abbrev t_iInvalidOperation : List (Str × Bool) := [("InvalidDrawing", false), ("InvalidGrowth", false), ("InvalidModel", false), ("InvalidNumber", false), ("InvalidOperation", true), ("InvalidPart", false), ("InvalidPlace", false), ("InvalidRoute", false), ("InvalidStep", false), ("InvalidTie", false), ("InvalidWeb", false), ("NothingToUndo", false), ("ParseError", false), ("Parted", false), ("Refused", false), ("TooMany", false), ("UnknownName", false), ("WebError", false)]
abbrev t_iInvalidPart : List (Str × Bool) := [("InvalidDrawing", false), ("InvalidGrowth", false), ("InvalidModel", false), ("InvalidNumber", false), ("InvalidOperation", false), ("InvalidPart", true), ("InvalidPlace", false), ("InvalidRoute", false), ("InvalidStep", false), ("InvalidTie", false), ("InvalidWeb", false), ("NothingToUndo", false), ("ParseError", false), ("Parted", false), ("Refused", false), ("TooMany", false), ("UnknownName", false), ("WebError", false)]
abbrev t_iInvalidPlace : List (Str × Bool) := [("InvalidDrawing", false), ("InvalidGrowth", false), ("InvalidModel", false), ("InvalidNumber", false), ("InvalidOperation", false), ("InvalidPart", false), ("InvalidPlace", true), ("InvalidRoute", false), ("InvalidStep", false), ("InvalidTie", false), ("InvalidWeb", false), ("NothingToUndo", false), ("ParseError", false), ("Parted", false), ("Refused", false), ("TooMany", false), ("UnknownName", false), ("WebError", false)]
abbrev t_iInvalidRoute : List (Str × Bool) := [("InvalidDrawing", false), ("InvalidGrowth", false), ("InvalidModel", false), ("InvalidNumber", false), ("InvalidOperation", false), ("InvalidPart", false), ("InvalidPlace", false), ("InvalidRoute", true), ("InvalidStep", false), ("InvalidTie", false), ("InvalidWeb", false), ("NothingToUndo", false), ("ParseError", false), ("Parted", false), ("Refused", false), ("TooMany", false), ("UnknownName", false), ("WebError", false)]
abbrev t_iInvalidStep : List (Str × Bool) := [("InvalidDrawing", false), ("InvalidGrowth", false), ("InvalidModel", false), ("InvalidNumber", false), ("InvalidOperation", false), ("InvalidPart", false), ("InvalidPlace", false), ("InvalidRoute", false), ("InvalidStep", true), ("InvalidTie", false), ("InvalidWeb", false), ("NothingToUndo", false), ("ParseError", false), ("Parted", false), ("Refused", false), ("TooMany", false), ("UnknownName", false), ("WebError", false)]
abbrev t_iInvalidTie : List (Str × Bool) := [("InvalidDrawing", false), ("InvalidGrowth", false), ("InvalidModel", false), ("InvalidNumber", false), ("InvalidOperation", false), ("InvalidPart", false), ("InvalidPlace", false), ("InvalidRoute", false), ("InvalidStep", false), ("InvalidTie", true), ("InvalidWeb", false), ("NothingToUndo", false), ("ParseError", false), ("Parted", false), ("Refused", false), ("TooMany", false), ("UnknownName", false), ("WebError", false)]
abbrev t_iInvalidWeb : List (Str × Bool) := [("InvalidDrawing", false), ("InvalidGrowth", false), ("InvalidModel", false), ("InvalidNumber", false), ("InvalidOperation", false), ("InvalidPart", false), ("InvalidPlace", false), ("InvalidRoute", false), ("InvalidStep", false), ("InvalidTie", false), ("InvalidWeb", true), ("NothingToUndo", false), ("ParseError", false), ("Parted", false), ("Refused", false), ("TooMany", false), ("UnknownName", false), ("WebError", false)]
abbrev t_iKeyError : List (Str × Bool) := [("InvalidDrawing", false), ("InvalidGrowth", false), ("InvalidModel", false), ("InvalidNumber", false), ("InvalidOperation", false), ("InvalidPart", false), ("InvalidPlace", false), ("InvalidRoute", false), ("InvalidStep", false), ("InvalidTie", false), ("InvalidWeb", false), ("NothingToUndo", false), ("ParseError", false), ("Parted", false), ("Refused", false), ("TooMany", false), ("UnknownName", true), ("WebError", false)]
abbrev t_iLookupError : List (Str × Bool) := [("InvalidDrawing", false), ("InvalidGrowth", false), ("InvalidModel", false), ("InvalidNumber", true), ("InvalidOperation", false), ("InvalidPart", false), ("InvalidPlace", false), ("InvalidRoute", false), ("InvalidStep", false), ("InvalidTie", false), ("InvalidWeb", false), ("NothingToUndo", false), ("ParseError", false), ("Parted", true), ("Refused", false), ("TooMany", false), ("UnknownName", true), ("WebError", false)]
abbrev t_iOverflowError : List (Str × Bool) := [("InvalidDrawing", false), ("InvalidGrowth", false), ("InvalidModel", false), ("InvalidNumber", false), ("InvalidOperation", false), ("InvalidPart", false), ("InvalidPlace", false), ("InvalidRoute", false), ("InvalidStep", false), ("InvalidTie", false), ("InvalidWeb", false), ("NothingToUndo", false), ("ParseError", false), ("Parted", false), ("Refused", false), ("TooMany", true), ("UnknownName", false), ("WebError", false)]
abbrev t_iParseError : List (Str × Bool) := [("InvalidDrawing", false), ("InvalidGrowth", false), ("InvalidModel", false), ("InvalidNumber", false), ("InvalidOperation", false), ("InvalidPart", false), ("InvalidPlace", false), ("InvalidRoute", false), ("InvalidStep", false), ("InvalidTie", false), ("InvalidWeb", false), ("NothingToUndo", false), ("ParseError", true), ("Parted", false), ("Refused", false), ("TooMany", false), ("UnknownName", false), ("WebError", false)]
abbrev t_iRuntimeError : List (Str × Bool) := [("InvalidDrawing", false), ("InvalidGrowth", false), ("InvalidModel", false), ("InvalidNumber", false), ("InvalidOperation", false), ("InvalidPart", false), ("InvalidPlace", false), ("InvalidRoute", false), ("InvalidStep", false), ("InvalidTie", false), ("InvalidWeb", false), ("NothingToUndo", true), ("ParseError", false), ("Parted", false), ("Refused", false), ("TooMany", false), ("UnknownName", false), ("WebError", false)]
abbrev t_iValueError : List (Str × Bool) := [("InvalidDrawing", true), ("InvalidGrowth", true), ("InvalidModel", true), ("InvalidNumber", false), ("InvalidOperation", true), ("InvalidPart", true), ("InvalidPlace", true), ("InvalidRoute", true), ("InvalidStep", true), ("InvalidTie", true), ("InvalidWeb", true), ("NothingToUndo", false), ("ParseError", true), ("Parted", false), ("Refused", false), ("TooMany", false), ("UnknownName", false), ("WebError", true)]
abbrev t_iWebError : List (Str × Bool) := [("InvalidDrawing", true), ("InvalidGrowth", true), ("InvalidModel", true), ("InvalidNumber", false), ("InvalidOperation", true), ("InvalidPart", true), ("InvalidPlace", true), ("InvalidRoute", true), ("InvalidStep", true), ("InvalidTie", true), ("InvalidWeb", true), ("NothingToUndo", false), ("ParseError", true), ("Parted", false), ("Refused", false), ("TooMany", false), ("UnknownName", false), ("WebError", true)]
/-! _law_plain_errors -/
def s__law_plain_errors_0 : MS := mSet 0 (mLst (mCons (mErr0 "InvalidPlace") (mCons (mErr0 "InvalidTie") (mCons (mErr0 "InvalidWeb") (mCons (mErr0 "InvalidRoute") (mCons (mErr0 "InvalidStep") (mCons (mErr0 "InvalidGrowth") (mNil))))))))
def s__law_plain_errors_1 : MS := mRet (mBin fAdd (mVar 0) (mLst (mCons (mErr0 "InvalidPart") (mCons (mErr0 "InvalidDrawing") (mCons (mErr0 "InvalidModel") (mCons (mErr0 "InvalidOperation") (mNil)))))))
def m__law_plain_errors : MS := mSeq s__law_plain_errors_0 (s__law_plain_errors_1)
def f__law_plain_errors : FN := runDef 0 1 m__law_plain_errors
/-! _law_kinds_of -/
def s__law_kinds_of_0 : MS := mSet 1 (mLstN (mNil))
def s__law_kinds_of_1 : MS := mIf (mB (mCall (fIsC "WebError" t_iWebError) (mCons (mVar 0) (mCons (mC (.cls "WebError")) (mNil))))) (mDrop (mMeth "list" fAppend (mVar 1) (mCons (mC (.str [119, 101, 98])) (mNil)))) (mDone)
def s__law_kinds_of_2 : MS := mIf (mB (mCall (fIsY "ValueError" t_iValueError) (mCons (mVar 0) (mCons (mC (.ty "ValueError")) (mNil))))) (mDrop (mMeth "list" fAppend (mVar 1) (mCons (mC (.str [118, 97, 108, 117, 101])) (mNil)))) (mDone)
def s__law_kinds_of_3 : MS := mIf (mB (mCall (fIsY "LookupError" t_iLookupError) (mCons (mVar 0) (mCons (mC (.ty "LookupError")) (mNil))))) (mDrop (mMeth "list" fAppend (mVar 1) (mCons (mC (.str [108, 111, 111, 107, 117, 112])) (mNil)))) (mDone)
def s__law_kinds_of_4 : MS := mIf (mB (mCall (fIsY "KeyError" t_iKeyError) (mCons (mVar 0) (mCons (mC (.ty "KeyError")) (mNil))))) (mDrop (mMeth "list" fAppend (mVar 1) (mCons (mC (.str [107, 101, 121])) (mNil)))) (mDone)
def s__law_kinds_of_5 : MS := mIf (mB (mCall (fIsY "IndexError" t_iIndexError) (mCons (mVar 0) (mCons (mC (.ty "IndexError")) (mNil))))) (mDrop (mMeth "list" fAppend (mVar 1) (mCons (mC (.str [105, 110, 100, 101, 120])) (mNil)))) (mDone)
def s__law_kinds_of_6 : MS := mIf (mB (mCall (fIsY "RuntimeError" t_iRuntimeError) (mCons (mVar 0) (mCons (mC (.ty "RuntimeError")) (mNil))))) (mDrop (mMeth "list" fAppend (mVar 1) (mCons (mC (.str [114, 117, 110, 116, 105, 109, 101])) (mNil)))) (mDone)
def s__law_kinds_of_7 : MS := mIf (mB (mCall (fIsY "ArithmeticError" t_iArithmeticError) (mCons (mVar 0) (mCons (mC (.ty "ArithmeticError")) (mNil))))) (mDrop (mMeth "list" fAppend (mVar 1) (mCons (mC (.str [97, 114, 105, 116, 104, 109, 101, 116, 105, 99])) (mNil)))) (mDone)
def s__law_kinds_of_8 : MS := mIf (mB (mCall (fIsY "OverflowError" t_iOverflowError) (mCons (mVar 0) (mCons (mC (.ty "OverflowError")) (mNil))))) (mDrop (mMeth "list" fAppend (mVar 1) (mCons (mC (.str [111, 118, 101, 114, 102, 108, 111, 119])) (mNil)))) (mDone)
def s__law_kinds_of_9 : MS := mRet (mVar 1)
def m__law_kinds_of : MS := mSeq s__law_kinds_of_0 (mSeq s__law_kinds_of_1 (mSeq s__law_kinds_of_2 (mSeq s__law_kinds_of_3 (mSeq s__law_kinds_of_4 (mSeq s__law_kinds_of_5 (mSeq s__law_kinds_of_6 (mSeq s__law_kinds_of_7 (mSeq s__law_kinds_of_8 (s__law_kinds_of_9)))))))))
def f__law_kinds_of : FN := runDef 1 2 m__law_kinds_of
/-! _law_raised -/
def s__law_raised_0 : MS := mIf (mB (mBin fEq (mVar 0) (mC (.int 0)))) (mRaiseV "InvalidNumber" "value" (mVar 1)) (mDone)
def s__law_raised_1 : MS := mIf (mB (mBin fEq (mVar 0) (mC (.int 1)))) (mRaiseV "UnknownName" "word" (mVar 1)) (mDone)
def s__law_raised_2 : MS := mIf (mB (mBin fEq (mVar 0) (mC (.int 2)))) (mRaiseV "Parted" "parting" (mVar 1)) (mDone)
def s__law_raised_3 : MS := mIf (mB (mBin fEq (mVar 0) (mC (.int 3)))) (mRaiseV "NothingToUndo" "many" (mVar 1)) (mDone)
def s__law_raised_4 : MS := mIf (mB (mBin fEq (mVar 0) (mC (.int 4)))) (mRaiseV "TooMany" "limit" (mVar 1)) (mDone)
def s__law_raised_5 : MS := mIf (mB (mBin fEq (mVar 0) (mC (.int 5)))) (mRaiseV "Refused" "pledge" (mVar 1)) (mDone)
def s__law_raised_6 : MS := mIf (mB (mBin fEq (mVar 0) (mC (.int 6)))) (mRaiseV "ParseError" "number" (mVar 1)) (mDone)
def s__law_raised_7 : MS := mIf (mB (mBin fEq (mVar 0) (mC (.int 7)))) (mRaise "InvalidStep") (mDone)
def s__law_raised_8 : MS := mRaise "InvalidModel"
def m__law_raised : MS := mSeq s__law_raised_0 (mSeq s__law_raised_1 (mSeq s__law_raised_2 (mSeq s__law_raised_3 (mSeq s__law_raised_4 (mSeq s__law_raised_5 (mSeq s__law_raised_6 (mSeq s__law_raised_7 (s__law_raised_8))))))))
def f__law_raised : FN := runDef 2 2 m__law_raised
/-! _law_word_of -/
def s__law_word_of_0 : MS := mTry (chkB (mDrop (mCall f__law_raised (mCons (mVar 0) (mCons (mVar 1) (mNil)))))) [⟨ctOf t_InvalidNumber, fun e => (fun fs => mRet (mBin fAdd (mC (.str [110, 117, 109, 98, 101, 114, 32])) (mCall fRepr (mCons (mFld "value" fs) (mNil))))) e.fld, some 2⟩, ⟨ctOf t_UnknownName, fun e => (fun fs => mRet (mBin fAdd (mC (.str [110, 97, 109, 101, 32])) (mCall fRepr (mCons (mFld "word" fs) (mNil))))) e.fld, some 2⟩, ⟨ctOf t_Parted, fun e => (fun fs => mRet (mBin fAdd (mC (.str [112, 97, 114, 116, 101, 100, 32])) (mCall fRepr (mCons (mFld "parting" fs) (mNil))))) e.fld, some 2⟩, ⟨ctOf t_NothingToUndo, fun e => (fun fs => mRet (mBin fAdd (mC (.str [117, 110, 100, 111, 32])) (mCall fRepr (mCons (mFld "many" fs) (mNil))))) e.fld, some 2⟩, ⟨ctOf t_TooMany, fun e => (fun fs => mRet (mBin fAdd (mC (.str [109, 97, 110, 121, 32])) (mCall fRepr (mCons (mFld "limit" fs) (mNil))))) e.fld, some 2⟩, ⟨ctOf t_Refused, fun e => (fun fs => mRet (mBin fAdd (mC (.str [114, 101, 102, 117, 115, 101, 100, 32])) (mCall fRepr (mCons (mFld "pledge" fs) (mNil))))) e.fld, some 2⟩, ⟨ctOf t_ParseError, fun e => (fun fs => mRet (mBin fAdd (mC (.str [108, 105, 110, 101, 32])) (mCall fRepr (mCons (mFld "number" fs) (mNil))))) e.fld, some 2⟩, ⟨ctOf t_InvalidStep, fun _ => mRet (mC (.str [115, 116, 101, 112])), none⟩, ⟨ctOf t_WebError, fun _ => mRet (mC (.str [119, 101, 98])), none⟩]
def m__law_word_of : MS := s__law_word_of_0
def f__law_word_of : FN := runDef 2 3 m__law_word_of
/-! _law_keepers_right -/
def s__law_keepers_right_0 : MS := mSet 1 (mLc (mItC fRange1 (mCons (mC (.int 9)) (mNil))) [5] (gVar 5) (mYes) (mCall f__law_word_of (mCons (mVar 5) (mCons (mVar 0) (mNil)))))
def s__law_keepers_right_1 : MS := mSet 2 (mLst (mCons (mC (.str [110, 117, 109, 98, 101, 114])) (mCons (mC (.str [110, 97, 109, 101])) (mCons (mC (.str [112, 97, 114, 116, 101, 100])) (mCons (mC (.str [117, 110, 100, 111])) (mCons (mC (.str [109, 97, 110, 121])) (mCons (mC (.str [114, 101, 102, 117, 115, 101, 100])) (mCons (mC (.str [108, 105, 110, 101])) (mNil)))))))))
def s__law_keepers_right_2 : MS := mIf (mB (mBin fNe (mVar 1) (mBin fAdd (mLc (mItL (mVar 2)) [6] (gVar 6) (mYes) (mBin fAdd (mBin fAdd (mVar 6) (mC (.str [32]))) (mCall fRepr (mCons (mVar 0) (mNil))))) (mLst (mCons (mC (.str [115, 116, 101, 112])) (mCons (mC (.str [119, 101, 98])) (mNil))))))) (mRet (mC (.bl false))) (mDone)
def s__law_keepers_right_3 : MS := mSet 3 (mLst (mCons (mCall f__law_kinds_of (mCons (mErrV "InvalidNumber" (mVar 0)) (mNil))) (mCons (mCall f__law_kinds_of (mCons (mErrV "UnknownName" (mVar 0)) (mNil))) (mCons (mCall f__law_kinds_of (mCons (mErrV "Parted" (mVar 0)) (mNil))) (mNil)))))
def s__law_keepers_right_4 : MS := mSet 3 (mBin fAdd (mVar 3) (mLst (mCons (mCall f__law_kinds_of (mCons (mErrV "NothingToUndo" (mVar 0)) (mNil))) (mCons (mCall f__law_kinds_of (mCons (mErrV "TooMany" (mVar 0)) (mNil))) (mCons (mCall f__law_kinds_of (mCons (mErrV "Refused" (mVar 0)) (mNil))) (mNil))))))
def s__law_keepers_right_5 : MS := mSet 4 (mLst (mCons (mLst (mCons (mC (.str [108, 111, 111, 107, 117, 112])) (mCons (mC (.str [105, 110, 100, 101, 120])) (mNil)))) (mCons (mLst (mCons (mC (.str [108, 111, 111, 107, 117, 112])) (mCons (mC (.str [107, 101, 121])) (mNil)))) (mCons (mLst (mCons (mC (.str [108, 111, 111, 107, 117, 112])) (mNil))) (mCons (mLst (mCons (mC (.str [114, 117, 110, 116, 105, 109, 101])) (mNil))) (mCons (mLst (mCons (mC (.str [97, 114, 105, 116, 104, 109, 101, 116, 105, 99])) (mCons (mC (.str [111, 118, 101, 114, 102, 108, 111, 119])) (mNil)))) (mCons (mLst (mCons (mC (.str [97, 114, 105, 116, 104, 109, 101, 116, 105, 99])) (mNil))) (mNil))))))))
def s__law_keepers_right_6 : MS := mRet (mAnd (mBin fEq (mVar 3) (mVar 4)) (mBin fEq (mCall f__law_kinds_of (mCons (mErrV "ParseError" (mVar 0)) (mNil))) (mLst (mCons (mC (.str [119, 101, 98])) (mCons (mC (.str [118, 97, 108, 117, 101])) (mNil))))))
def m__law_keepers_right : MS := mSeq s__law_keepers_right_0 (mSeq s__law_keepers_right_1 (mSeq s__law_keepers_right_2 (mSeq s__law_keepers_right_3 (mSeq s__law_keepers_right_4 (mSeq s__law_keepers_right_5 (s__law_keepers_right_6))))))
def f__law_keepers_right : FN := runDef 1 7 m__law_keepers_right
/-! _law_singles_right -/
def s__law_singles_right_0 : MS := mSet 0 (mCall f__law_plain_errors mNil)
def s__law_singles_right_1 : MS := mIf (mB (mBin fNe (mLc (mItL (mVar 0)) [2] (gVar 2) (mB (mBin fNe (mCall f__law_kinds_of (mCons (mVar 2) (mNil))) (mLst (mCons (mC (.str [119, 101, 98])) (mCons (mC (.str [118, 97, 108, 117, 101])) (mNil)))))) (mVar 2)) (mLst (mNil)))) (mRet (mC (.bl false))) (mDone)
def s__law_singles_right_2 : MS := mSet 1 (mLstN (mCons (mLc (mItL (mVar 0)) [2] (gVar 2) (mYes) (mCall (fIsC "InvalidPlace" t_iInvalidPlace) (mCons (mVar 2) (mCons (mC (.cls "InvalidPlace")) (mNil))))) (mCons (mLc (mItL (mVar 0)) [2] (gVar 2) (mYes) (mCall (fIsC "InvalidTie" t_iInvalidTie) (mCons (mVar 2) (mCons (mC (.cls "InvalidTie")) (mNil))))) (mNil))))
def s__law_singles_right_3 : MS := mSet 1 (mBin fCatN (mVar 1) (mLst (mCons (mLc (mItL (mVar 0)) [2] (gVar 2) (mYes) (mCall (fIsC "InvalidWeb" t_iInvalidWeb) (mCons (mVar 2) (mCons (mC (.cls "InvalidWeb")) (mNil))))) (mCons (mLc (mItL (mVar 0)) [2] (gVar 2) (mYes) (mCall (fIsC "InvalidRoute" t_iInvalidRoute) (mCons (mVar 2) (mCons (mC (.cls "InvalidRoute")) (mNil))))) (mNil)))))
def s__law_singles_right_4 : MS := mDrop (mMeth "list" fAppend (mVar 1) (mCons (mLc (mItL (mVar 0)) [2] (gVar 2) (mYes) (mCall (fIsC "InvalidStep" t_iInvalidStep) (mCons (mVar 2) (mCons (mC (.cls "InvalidStep")) (mNil))))) (mNil)))
def s__law_singles_right_5 : MS := mDrop (mMeth "list" fAppend (mVar 1) (mCons (mLc (mItL (mVar 0)) [2] (gVar 2) (mYes) (mCall (fIsC "InvalidGrowth" t_iInvalidGrowth) (mCons (mVar 2) (mCons (mC (.cls "InvalidGrowth")) (mNil))))) (mNil)))
def s__law_singles_right_6 : MS := mDrop (mMeth "list" fAppend (mVar 1) (mCons (mLc (mItL (mVar 0)) [2] (gVar 2) (mYes) (mCall (fIsC "InvalidPart" t_iInvalidPart) (mCons (mVar 2) (mCons (mC (.cls "InvalidPart")) (mNil))))) (mNil)))
def s__law_singles_right_7 : MS := mDrop (mMeth "list" fAppend (mVar 1) (mCons (mLc (mItL (mVar 0)) [2] (gVar 2) (mYes) (mCall (fIsC "InvalidDrawing" t_iInvalidDrawing) (mCons (mVar 2) (mCons (mC (.cls "InvalidDrawing")) (mNil))))) (mNil)))
def s__law_singles_right_8 : MS := mDrop (mMeth "list" fAppend (mVar 1) (mCons (mLc (mItL (mVar 0)) [2] (gVar 2) (mYes) (mCall (fIsC "InvalidModel" t_iInvalidModel) (mCons (mVar 2) (mCons (mC (.cls "InvalidModel")) (mNil))))) (mNil)))
def s__law_singles_right_9 : MS := mDrop (mMeth "list" fAppend (mVar 1) (mCons (mLc (mItL (mVar 0)) [2] (gVar 2) (mYes) (mCall (fIsC "InvalidOperation" t_iInvalidOperation) (mCons (mVar 2) (mCons (mC (.cls "InvalidOperation")) (mNil))))) (mNil)))
def s__law_singles_right_10 : MS := mIf (mB (mBin fNe (mLc (mItL (mVar 0)) [2] (gVar 2) (mYes) (mCall (fIsC "ParseError" t_iParseError) (mCons (mVar 2) (mCons (mC (.cls "ParseError")) (mNil))))) (mBin fMulB (mLst (mCons (mC (.bl false)) (mNil))) (mC (.int 10))))) (mRet (mC (.bl false))) (mDone)
def s__law_singles_right_11 : MS := mRet (mBin fEq (mVar 1) (mLc (mItC fRange1 (mCons (mC (.int 10)) (mNil))) [4] (gVar 4) (mYes) (mLc (mItC fRange1 (mCons (mC (.int 10)) (mNil))) [3] (gVar 3) (mYes) (mBin fEq (mVar 4) (mVar 3)))))
def m__law_singles_right : MS := mSeq s__law_singles_right_0 (mSeq s__law_singles_right_1 (mSeq s__law_singles_right_2 (mSeq s__law_singles_right_3 (mSeq s__law_singles_right_4 (mSeq s__law_singles_right_5 (mSeq s__law_singles_right_6 (mSeq s__law_singles_right_7 (mSeq s__law_singles_right_8 (mSeq s__law_singles_right_9 (mSeq s__law_singles_right_10 (s__law_singles_right_11)))))))))))
def f__law_singles_right : FN := runDef 0 5 m__law_singles_right
/-! law -/
def b_law_0 : MS := mIf (mNotT (mB (mCall f__law_keepers_right (mCons (mCall f__law_pick (mCons (mVar 2) (mCons (mVar 4) (mNil)))) (mNil))))) (mRet (mC (.bl false))) (mDone)
def b_law_1 : MS := mSeq (mSet 2 (mCall f__law_dice (mCons (mVar 0) (mCons (mVar 1) (mNil))))) (mSeq (mSet 3 (mMeth "str" fJoin (mC (.str [])) (mCons (mLc (mItC fRange1 (mCons (mCall f__law_roll (mCons (mVar 2) (mCons (mC (.int 9)) (mNil)))) (mNil))) [5] (gVar 5) (mYes) (mCall f__law_pick (mCons (mVar 2) (mCons (mC (.str [97, 98, 99, 122, 95, 32, 49])) (mNil))))) (mNil)))) (mSeq (mSet 4 (mLst (mCons (mVar 3) (mCons (mCall f__law_roll (mCons (mVar 2) (mCons (mBin fPow (mC (.int 10)) (mC (.int 59))) (mNil)))) (mCons (mBin fSub (mC (.int 0)) (mCall f__law_roll (mCons (mVar 2) (mCons (mC (.int 99)) (mNil))))) (mCons (mC .non) (mCons (mC (.bl true)) (mCons (mTup (mCons (mVar 3) (mCons (mC (.int 1)) (mNil)))) (mCons (mLst (mCons (mVar 3) (mNil))) (mCons (mDctX [(mVar 3, mC (.int 0))]) (mCons (mTup (mCons (mTup (mNil)) (mNil))) (mCons (mC (.str [])) (mNil))))))))))))) (mFor (mItC fRange1 (mCons (mC (.int 3)) (mNil))) (gVar 5) (b_law_0))))
def s_law_0 : MS := mFor (mItC fRange1 (mCons (mCall fMax2 (mCons (mC (.int 1)) (mCons (mCall fMin2 (mCons (mC (.int 6)) (mCons (mCall fLenB (mCons (mVar 0) (mNil))) (mNil)))) (mNil)))) (mNil))) (gVar 1) (b_law_1)
def s_law_1 : MS := mRet (mAnd (mCall f__law_singles_right mNil) (mBin fEq (mCall f__law_kinds_of (mCons (mErr0 "WebError") (mNil))) (mLst (mCons (mC (.str [119, 101, 98])) (mCons (mC (.str [118, 97, 108, 117, 101])) (mNil))))))
def m_law : MS := mSeq s_law_0 (s_law_1)
def f_law : FN := runDef 1 6 m_law
end Wg.K00

namespace Wg.K00
open PySem Wg
section
variable {h : Store} {x : PV} {t : List Nat}
/-- what an error with the number w is, and keeps -/
def rzOf (x : PV) : List Ex := [⟨.cls "InvalidNumber", [("value", x)]⟩, ⟨.cls "UnknownName", [("word", x)]⟩, ⟨.cls "Parted", [("parting", x)]⟩, ⟨.cls "NothingToUndo", [("many", x)]⟩, ⟨.cls "TooMany", [("limit", x)]⟩, ⟨.cls "Refused", [("pledge", x)]⟩, ⟨.cls "ParseError", [("number", x)]⟩, ⟨.cls "InvalidStep", []⟩, ⟨.cls "InvalidModel", []⟩]
theorem raised_at (w : Nat) (hw : w < 9) : ∃ e, (rzOf x)[w]? = some e ∧ f__law_raised [.int w, x] h = .exc e h := by
  have : w = 0 ∨ w = 1 ∨ w = 2 ∨ w = 3 ∨ w = 4 ∨ w = 5 ∨ w = 6 ∨ w = 7 ∨ w = 8 := by omega
  rcases this with e | e | e | e | e | e | e | e | e <;> subst e <;> refine ⟨_, rfl, ?_⟩ <;>
    simp [f__law_raised, runDef, initL, m__law_raised, s__law_raised_0, s__law_raised_1, s__law_raised_2, s__law_raised_3, s__law_raised_4, s__law_raised_5, s__law_raised_6, s__law_raised_7, s__law_raised_8, mRaiseV, mRaise, Fl.on, handX_same]
theorem kept (pre : List Nat) (f : Str) (hr : fRepr [x] h = .ok (.str t) h) (hp : pre.length + t.length ≤ sizeLine) (l : Lv) : mRet (mBin fAdd (mC (.str pre)) (mCall fRepr (mCons (mFld f [(f, x)]) (mNil)))) l h = .ok (.rt (.str (pre ++ t))) h := by
  simp [mFld, List.lookup, hr, fAdd, hp]
theorem c_0_0 : ctOf t_InvalidNumber (.cls "InvalidNumber") = some true := by decide +kernel
theorem c_1_0 : ctOf t_InvalidNumber (.cls "UnknownName") = some false := by decide +kernel
theorem c_1_1 : ctOf t_UnknownName (.cls "UnknownName") = some true := by decide +kernel
theorem c_2_0 : ctOf t_InvalidNumber (.cls "Parted") = some false := by decide +kernel
theorem c_2_1 : ctOf t_UnknownName (.cls "Parted") = some false := by decide +kernel
theorem c_2_2 : ctOf t_Parted (.cls "Parted") = some true := by decide +kernel
theorem c_3_0 : ctOf t_InvalidNumber (.cls "NothingToUndo") = some false := by decide +kernel
theorem c_3_1 : ctOf t_UnknownName (.cls "NothingToUndo") = some false := by decide +kernel
theorem c_3_2 : ctOf t_Parted (.cls "NothingToUndo") = some false := by decide +kernel
theorem c_3_3 : ctOf t_NothingToUndo (.cls "NothingToUndo") = some true := by decide +kernel
theorem c_4_0 : ctOf t_InvalidNumber (.cls "TooMany") = some false := by decide +kernel
theorem c_4_1 : ctOf t_UnknownName (.cls "TooMany") = some false := by decide +kernel
theorem c_4_2 : ctOf t_Parted (.cls "TooMany") = some false := by decide +kernel
theorem c_4_3 : ctOf t_NothingToUndo (.cls "TooMany") = some false := by decide +kernel
theorem c_4_4 : ctOf t_TooMany (.cls "TooMany") = some true := by decide +kernel
theorem c_5_0 : ctOf t_InvalidNumber (.cls "Refused") = some false := by decide +kernel
theorem c_5_1 : ctOf t_UnknownName (.cls "Refused") = some false := by decide +kernel
theorem c_5_2 : ctOf t_Parted (.cls "Refused") = some false := by decide +kernel
theorem c_5_3 : ctOf t_NothingToUndo (.cls "Refused") = some false := by decide +kernel
theorem c_5_4 : ctOf t_TooMany (.cls "Refused") = some false := by decide +kernel
theorem c_5_5 : ctOf t_Refused (.cls "Refused") = some true := by decide +kernel
theorem c_6_0 : ctOf t_InvalidNumber (.cls "ParseError") = some false := by decide +kernel
theorem c_6_1 : ctOf t_UnknownName (.cls "ParseError") = some false := by decide +kernel
theorem c_6_2 : ctOf t_Parted (.cls "ParseError") = some false := by decide +kernel
theorem c_6_3 : ctOf t_NothingToUndo (.cls "ParseError") = some false := by decide +kernel
theorem c_6_4 : ctOf t_TooMany (.cls "ParseError") = some false := by decide +kernel
theorem c_6_5 : ctOf t_Refused (.cls "ParseError") = some false := by decide +kernel
theorem c_6_6 : ctOf t_ParseError (.cls "ParseError") = some true := by decide +kernel
theorem c_7_0 : ctOf t_InvalidNumber (.cls "InvalidStep") = some false := by decide +kernel
theorem c_7_1 : ctOf t_UnknownName (.cls "InvalidStep") = some false := by decide +kernel
theorem c_7_2 : ctOf t_Parted (.cls "InvalidStep") = some false := by decide +kernel
theorem c_7_3 : ctOf t_NothingToUndo (.cls "InvalidStep") = some false := by decide +kernel
theorem c_7_4 : ctOf t_TooMany (.cls "InvalidStep") = some false := by decide +kernel
theorem c_7_5 : ctOf t_Refused (.cls "InvalidStep") = some false := by decide +kernel
theorem c_7_6 : ctOf t_ParseError (.cls "InvalidStep") = some false := by decide +kernel
theorem c_7_7 : ctOf t_InvalidStep (.cls "InvalidStep") = some true := by decide +kernel
theorem c_8_0 : ctOf t_InvalidNumber (.cls "InvalidModel") = some false := by decide +kernel
theorem c_8_1 : ctOf t_UnknownName (.cls "InvalidModel") = some false := by decide +kernel
theorem c_8_2 : ctOf t_Parted (.cls "InvalidModel") = some false := by decide +kernel
theorem c_8_3 : ctOf t_NothingToUndo (.cls "InvalidModel") = some false := by decide +kernel
theorem c_8_4 : ctOf t_TooMany (.cls "InvalidModel") = some false := by decide +kernel
theorem c_8_5 : ctOf t_Refused (.cls "InvalidModel") = some false := by decide +kernel
theorem c_8_6 : ctOf t_ParseError (.cls "InvalidModel") = some false := by decide +kernel
theorem c_8_7 : ctOf t_InvalidStep (.cls "InvalidModel") = some false := by decide +kernel
theorem c_8_8 : ctOf t_WebError (.cls "InvalidModel") = some true := by decide +kernel
def hdls : List HC := [⟨ctOf t_InvalidNumber, fun e => (fun fs => mRet (mBin fAdd (mC (.str [110, 117, 109, 98, 101, 114, 32])) (mCall fRepr (mCons (mFld "value" fs) (mNil))))) e.fld, some 2⟩, ⟨ctOf t_UnknownName, fun e => (fun fs => mRet (mBin fAdd (mC (.str [110, 97, 109, 101, 32])) (mCall fRepr (mCons (mFld "word" fs) (mNil))))) e.fld, some 2⟩, ⟨ctOf t_Parted, fun e => (fun fs => mRet (mBin fAdd (mC (.str [112, 97, 114, 116, 101, 100, 32])) (mCall fRepr (mCons (mFld "parting" fs) (mNil))))) e.fld, some 2⟩, ⟨ctOf t_NothingToUndo, fun e => (fun fs => mRet (mBin fAdd (mC (.str [117, 110, 100, 111, 32])) (mCall fRepr (mCons (mFld "many" fs) (mNil))))) e.fld, some 2⟩, ⟨ctOf t_TooMany, fun e => (fun fs => mRet (mBin fAdd (mC (.str [109, 97, 110, 121, 32])) (mCall fRepr (mCons (mFld "limit" fs) (mNil))))) e.fld, some 2⟩, ⟨ctOf t_Refused, fun e => (fun fs => mRet (mBin fAdd (mC (.str [114, 101, 102, 117, 115, 101, 100, 32])) (mCall fRepr (mCons (mFld "pledge" fs) (mNil))))) e.fld, some 2⟩, ⟨ctOf t_ParseError, fun e => (fun fs => mRet (mBin fAdd (mC (.str [108, 105, 110, 101, 32])) (mCall fRepr (mCons (mFld "number" fs) (mNil))))) e.fld, some 2⟩, ⟨ctOf t_InvalidStep, fun _ => mRet (mC (.str [115, 116, 101, 112])), none⟩, ⟨ctOf t_WebError, fun _ => mRet (mC (.str [119, 101, 98])), none⟩]
theorem mTry_ex {body : MS} {hs : List HC} {l l' : Lv} {h h' : Store} {e : Ex} (hb : body l h = .ok (.ex e l') h') (c : isCls e.cls = true) : mTry (chkB body) hs l h = handle hs e l' h' := by
  unfold mTry chkB
  rw [hb]
  simp only [c, if_true]
theorem word_eq {v x : PV} {e : Ex} {h : Store} (e2 : f__law_raised [v, x] h = .exc e h) (c : isCls e.cls = true) : f__law_word_of [v, x] h = match handle hdls e [some v, some x, none] h with
    | .ok (.rt x) h' => handO h.length x h'
    | .ok (.nx _) h' => handO h.length .non h'
    | .ok (.ex e _) h' => handX h.length e h'
    | _ => .no := by
  have e3 : s__law_word_of_0 [some v, some x, none] h = handle hdls e [some v, some x, none] h := mTry_ex (by simp [e2]) c
  simp [f__law_word_of, runDef, initL, m__law_word_of, e3] <;> rfl
def toldOf (t : List Nat) : List (List Nat) := [[110, 117, 109, 98, 101, 114] ++ [32] ++ t, [110, 97, 109, 101] ++ [32] ++ t, [112, 97, 114, 116, 101, 100] ++ [32] ++ t, [117, 110, 100, 111] ++ [32] ++ t, [109, 97, 110, 121] ++ [32] ++ t, [114, 101, 102, 117, 115, 101, 100] ++ [32] ++ t, [108, 105, 110, 101] ++ [32] ++ t, [115, 116, 101, 112], [119, 101, 98]]
theorem word_at (w : Nat) (hw : w < 9) (hr : ∀ h, fRepr [x] h = .ok (.str t) h) (hz : t.length ≤ 1000) : ∃ y, (toldOf t)[w]? = some y ∧ f__law_word_of [.int w, x] h = .ok (.str y) h := by
  have z : ∀ pre : List Nat, pre.length ≤ 100 → pre.length + t.length ≤ sizeLine := fun pre q => show _ ≤ 16777216 by omega
  obtain ⟨e, e1, e2⟩ := raised_at (h := h) (x := x) w hw
  generalize hv : PV.int w = v at e2 ⊢
  have : w = 0 ∨ w = 1 ∨ w = 2 ∨ w = 3 ∨ w = 4 ∨ w = 5 ∨ w = 6 ∨ w = 7 ∨ w = 8 := by omega
  rcases this with q | q | q | q | q | q | q | q | q <;> subst q <;> cases e1 <;> refine ⟨_, rfl, ?_⟩
  · rw [word_eq e2 rfl]; simp [hdls, handle, c_0_0, HC.fits, HC.wipe, HC.back, handO_same, kept [110, 117, 109, 98, 101, 114, 32] "value" (hr _) (z _ (by decide)), -mRet_at]
  · rw [word_eq e2 rfl]; simp [hdls, handle, c_1_0, c_1_1, HC.fits, HC.wipe, HC.back, handO_same, kept [110, 97, 109, 101, 32] "word" (hr _) (z _ (by decide)), -mRet_at]
  · rw [word_eq e2 rfl]; simp [hdls, handle, c_2_0, c_2_1, c_2_2, HC.fits, HC.wipe, HC.back, handO_same, kept [112, 97, 114, 116, 101, 100, 32] "parting" (hr _) (z _ (by decide)), -mRet_at]
  · rw [word_eq e2 rfl]; simp [hdls, handle, c_3_0, c_3_1, c_3_2, c_3_3, HC.fits, HC.wipe, HC.back, handO_same, kept [117, 110, 100, 111, 32] "many" (hr _) (z _ (by decide)), -mRet_at]
  · rw [word_eq e2 rfl]; simp [hdls, handle, c_4_0, c_4_1, c_4_2, c_4_3, c_4_4, HC.fits, HC.wipe, HC.back, handO_same, kept [109, 97, 110, 121, 32] "limit" (hr _) (z _ (by decide)), -mRet_at]
  · rw [word_eq e2 rfl]; simp [hdls, handle, c_5_0, c_5_1, c_5_2, c_5_3, c_5_4, c_5_5, HC.fits, HC.wipe, HC.back, handO_same, kept [114, 101, 102, 117, 115, 101, 100, 32] "pledge" (hr _) (z _ (by decide)), -mRet_at]
  · rw [word_eq e2 rfl]; simp [hdls, handle, c_6_0, c_6_1, c_6_2, c_6_3, c_6_4, c_6_5, c_6_6, HC.fits, HC.wipe, HC.back, handO_same, kept [108, 105, 110, 101, 32] "number" (hr _) (z _ (by decide)), -mRet_at]
  · rw [word_eq e2 rfl]; simp [hdls, handle, c_7_0, c_7_1, c_7_2, c_7_3, c_7_4, c_7_5, c_7_6, c_7_7, HC.fits, HC.wipe, HC.back, handO_same, -mRet_at, show ∀ a l h, mRet (mC a) l h = .ok (.rt a) h from fun _ _ _ => rfl]
  · rw [word_eq e2 rfl]; simp [hdls, handle, c_8_0, c_8_1, c_8_2, c_8_3, c_8_4, c_8_5, c_8_6, c_8_7, c_8_8, HC.fits, HC.wipe, HC.back, handO_same, -mRet_at, show ∀ a l h, mRet (mC a) l h = .ok (.rt a) h from fun _ _ _ => rfl]
end
end Wg.K00

namespace Wg.K00
open PySem Wg
section
variable {h : Store} {n : Str}
/-- a word is put in -/
theorem put_is {f : FN} {c : PV} {w : List Nat} {b : Bool} {ys : List (List Nat)} (e : ∀ h, f [.exn n, c] h = .ok (.bl b) h) (z : ys.length < 100) :
    mIf (mB (mCall f (mCons (mVar 0) (mCons (mC c) mNil)))) (mDrop (mMeth "list" fAppend (mVar 1) (mCons (mC (.str w)) mNil))) mDone [some (.exn n), some (.ref h.length)] (h ++ [.lst (ys.map .str)]) = .ok (.nx [some (.exn n), some (.ref h.length)]) (h ++ [.lst ((if b = true then ys ++ [w] else ys).map .str)]) := by
  have z2 : (ys.map PV.str).length < sizeLine := by rw [List.length_map]; exact (show _ < 16777216 by omega)
  cases b
  · simp [e]
  · simp [e, tyM_last, fAppend_last z2]
theorem isC_at {m : Str} {t : List (Str × Bool)} {b : Bool} (e : t.lookup n = some b) : fIsC m t [.exn n, .cls m] h = .ok (.bl b) h := by simp [fIsC, e]
theorem isY_at {m : String} {t : List (Str × Bool)} {b : Bool} (e : t.lookup n = some b) : fIsY m t [.exn n, .ty m] h = .ok (.bl b) h := by simp [fIsY, e]
def addB (b : Bool) (w : List Nat) (ys : List (List Nat)) : List (List Nat) := if b = true then ys ++ [w] else ys
theorem addB_len {b : Bool} {w : List Nat} {ys : List (List Nat)} {k : Nat} (z : ys.length ≤ k) : (addB b w ys).length ≤ k + 1 := by
  cases b
  · exact Nat.le_succ_of_le z
  · simpa [addB] using z
theorem kinds_of {b0 b1 b2 b3 b4 b5 b6 b7 : Bool} (cl : Closed h) (e0 : (t_iWebError).lookup n = some b0) (e1 : (t_iValueError).lookup n = some b1) (e2 : (t_iLookupError).lookup n = some b2) (e3 : (t_iKeyError).lookup n = some b3) (e4 : (t_iIndexError).lookup n = some b4) (e5 : (t_iRuntimeError).lookup n = some b5) (e6 : (t_iArithmeticError).lookup n = some b6) (e7 : (t_iOverflowError).lookup n = some b7) : f__law_kinds_of [.exn n] h = .ok (.lst ((addB b7 [111, 118, 101, 114, 102, 108, 111, 119] (addB b6 [97, 114, 105, 116, 104, 109, 101, 116, 105, 99] (addB b5 [114, 117, 110, 116, 105, 109, 101] (addB b4 [105, 110, 100, 101, 120] (addB b3 [107, 101, 121] (addB b2 [108, 111, 111, 107, 117, 112] (addB b1 [118, 97, 108, 117, 101] (addB b0 [119, 101, 98] ([] : List (List Nat)))))))))).map .str)) h := by
  have z0 : ([] : List (List Nat)).length ≤ 0 := Nat.le_refl _
  have p0 := put_is (h := h) (w := [119, 101, 98]) (f := fIsC "WebError" t_iWebError) (c := .cls "WebError") (fun h => isC_at e0) (Nat.lt_of_le_of_lt z0 (by decide))
  have z1 := addB_len (b := b0) (w := [119, 101, 98]) z0
  have p1 := put_is (h := h) (w := [118, 97, 108, 117, 101]) (f := fIsY "ValueError" t_iValueError) (c := .ty "ValueError") (fun h => isY_at e1) (Nat.lt_of_le_of_lt z1 (by decide))
  have z2 := addB_len (b := b1) (w := [118, 97, 108, 117, 101]) z1
  have p2 := put_is (h := h) (w := [108, 111, 111, 107, 117, 112]) (f := fIsY "LookupError" t_iLookupError) (c := .ty "LookupError") (fun h => isY_at e2) (Nat.lt_of_le_of_lt z2 (by decide))
  have z3 := addB_len (b := b2) (w := [108, 111, 111, 107, 117, 112]) z2
  have p3 := put_is (h := h) (w := [107, 101, 121]) (f := fIsY "KeyError" t_iKeyError) (c := .ty "KeyError") (fun h => isY_at e3) (Nat.lt_of_le_of_lt z3 (by decide))
  have z4 := addB_len (b := b3) (w := [107, 101, 121]) z3
  have p4 := put_is (h := h) (w := [105, 110, 100, 101, 120]) (f := fIsY "IndexError" t_iIndexError) (c := .ty "IndexError") (fun h => isY_at e4) (Nat.lt_of_le_of_lt z4 (by decide))
  have z5 := addB_len (b := b4) (w := [105, 110, 100, 101, 120]) z4
  have p5 := put_is (h := h) (w := [114, 117, 110, 116, 105, 109, 101]) (f := fIsY "RuntimeError" t_iRuntimeError) (c := .ty "RuntimeError") (fun h => isY_at e5) (Nat.lt_of_le_of_lt z5 (by decide))
  have z6 := addB_len (b := b5) (w := [114, 117, 110, 116, 105, 109, 101]) z5
  have p6 := put_is (h := h) (w := [97, 114, 105, 116, 104, 109, 101, 116, 105, 99]) (f := fIsY "ArithmeticError" t_iArithmeticError) (c := .ty "ArithmeticError") (fun h => isY_at e6) (Nat.lt_of_le_of_lt z6 (by decide))
  have z7 := addB_len (b := b6) (w := [97, 114, 105, 116, 104, 109, 101, 116, 105, 99]) z6
  have p7 := put_is (h := h) (w := [111, 118, 101, 114, 102, 108, 111, 119]) (f := fIsY "OverflowError" t_iOverflowError) (c := .ty "OverflowError") (fun h => isY_at e7) (Nat.lt_of_le_of_lt z7 (by decide))
  have q0 : s__law_kinds_of_0 [some (.exn n), none] h = .ok (.nx [some (.exn n), some (.ref h.length)]) (h ++ [.lst (([] : List (List Nat)).map .str)]) := by simp [s__law_kinds_of_0, sizeLine]
  have q1 : s__law_kinds_of_1 [some (.exn n), some (.ref h.length)] (h ++ [.lst (([] : List (List Nat)).map .str)]) = .ok (.nx [some (.exn n), some (.ref h.length)]) (h ++ [.lst ((addB b0 [119, 101, 98] ([] : List (List Nat))).map .str)]) := p0
  have q2 : s__law_kinds_of_2 [some (.exn n), some (.ref h.length)] (h ++ [.lst ((addB b0 [119, 101, 98] ([] : List (List Nat))).map .str)]) = .ok (.nx [some (.exn n), some (.ref h.length)]) (h ++ [.lst ((addB b1 [118, 97, 108, 117, 101] (addB b0 [119, 101, 98] ([] : List (List Nat)))).map .str)]) := p1
  have q3 : s__law_kinds_of_3 [some (.exn n), some (.ref h.length)] (h ++ [.lst ((addB b1 [118, 97, 108, 117, 101] (addB b0 [119, 101, 98] ([] : List (List Nat)))).map .str)]) = .ok (.nx [some (.exn n), some (.ref h.length)]) (h ++ [.lst ((addB b2 [108, 111, 111, 107, 117, 112] (addB b1 [118, 97, 108, 117, 101] (addB b0 [119, 101, 98] ([] : List (List Nat))))).map .str)]) := p2
  have q4 : s__law_kinds_of_4 [some (.exn n), some (.ref h.length)] (h ++ [.lst ((addB b2 [108, 111, 111, 107, 117, 112] (addB b1 [118, 97, 108, 117, 101] (addB b0 [119, 101, 98] ([] : List (List Nat))))).map .str)]) = .ok (.nx [some (.exn n), some (.ref h.length)]) (h ++ [.lst ((addB b3 [107, 101, 121] (addB b2 [108, 111, 111, 107, 117, 112] (addB b1 [118, 97, 108, 117, 101] (addB b0 [119, 101, 98] ([] : List (List Nat)))))).map .str)]) := p3
  have q5 : s__law_kinds_of_5 [some (.exn n), some (.ref h.length)] (h ++ [.lst ((addB b3 [107, 101, 121] (addB b2 [108, 111, 111, 107, 117, 112] (addB b1 [118, 97, 108, 117, 101] (addB b0 [119, 101, 98] ([] : List (List Nat)))))).map .str)]) = .ok (.nx [some (.exn n), some (.ref h.length)]) (h ++ [.lst ((addB b4 [105, 110, 100, 101, 120] (addB b3 [107, 101, 121] (addB b2 [108, 111, 111, 107, 117, 112] (addB b1 [118, 97, 108, 117, 101] (addB b0 [119, 101, 98] ([] : List (List Nat))))))).map .str)]) := p4
  have q6 : s__law_kinds_of_6 [some (.exn n), some (.ref h.length)] (h ++ [.lst ((addB b4 [105, 110, 100, 101, 120] (addB b3 [107, 101, 121] (addB b2 [108, 111, 111, 107, 117, 112] (addB b1 [118, 97, 108, 117, 101] (addB b0 [119, 101, 98] ([] : List (List Nat))))))).map .str)]) = .ok (.nx [some (.exn n), some (.ref h.length)]) (h ++ [.lst ((addB b5 [114, 117, 110, 116, 105, 109, 101] (addB b4 [105, 110, 100, 101, 120] (addB b3 [107, 101, 121] (addB b2 [108, 111, 111, 107, 117, 112] (addB b1 [118, 97, 108, 117, 101] (addB b0 [119, 101, 98] ([] : List (List Nat)))))))).map .str)]) := p5
  have q7 : s__law_kinds_of_7 [some (.exn n), some (.ref h.length)] (h ++ [.lst ((addB b5 [114, 117, 110, 116, 105, 109, 101] (addB b4 [105, 110, 100, 101, 120] (addB b3 [107, 101, 121] (addB b2 [108, 111, 111, 107, 117, 112] (addB b1 [118, 97, 108, 117, 101] (addB b0 [119, 101, 98] ([] : List (List Nat)))))))).map .str)]) = .ok (.nx [some (.exn n), some (.ref h.length)]) (h ++ [.lst ((addB b6 [97, 114, 105, 116, 104, 109, 101, 116, 105, 99] (addB b5 [114, 117, 110, 116, 105, 109, 101] (addB b4 [105, 110, 100, 101, 120] (addB b3 [107, 101, 121] (addB b2 [108, 111, 111, 107, 117, 112] (addB b1 [118, 97, 108, 117, 101] (addB b0 [119, 101, 98] ([] : List (List Nat))))))))).map .str)]) := p6
  have q8 : s__law_kinds_of_8 [some (.exn n), some (.ref h.length)] (h ++ [.lst ((addB b6 [97, 114, 105, 116, 104, 109, 101, 116, 105, 99] (addB b5 [114, 117, 110, 116, 105, 109, 101] (addB b4 [105, 110, 100, 101, 120] (addB b3 [107, 101, 121] (addB b2 [108, 111, 111, 107, 117, 112] (addB b1 [118, 97, 108, 117, 101] (addB b0 [119, 101, 98] ([] : List (List Nat))))))))).map .str)]) = .ok (.nx [some (.exn n), some (.ref h.length)]) (h ++ [.lst ((addB b7 [111, 118, 101, 114, 102, 108, 111, 119] (addB b6 [97, 114, 105, 116, 104, 109, 101, 116, 105, 99] (addB b5 [114, 117, 110, 116, 105, 109, 101] (addB b4 [105, 110, 100, 101, 120] (addB b3 [107, 101, 121] (addB b2 [108, 111, 111, 107, 117, 112] (addB b1 [118, 97, 108, 117, 101] (addB b0 [119, 101, 98] ([] : List (List Nat)))))))))).map .str)]) := p7
  have q9 : ∀ H, s__law_kinds_of_9 [some (.exn n), some (.ref h.length)] H = .ok (.rt (.ref h.length)) H := fun H => by simp [s__law_kinds_of_9]
  have m0 : initL 2 [PV.exn n] = [some (.exn n), none] := rfl
  unfold f__law_kinds_of runDef m__law_kinds_of
  simp only [m0, mSeq_at, q0, q1, q2, q3, q4, q5, q6, q7, q8, q9, R.bind_ok, on_nx, List.length_singleton, if_true]
  exact handO_last cl (below_strs _)
theorem k_InvalidPlace (cl : Closed h) : f__law_kinds_of [.exn "InvalidPlace"] h = .ok (.lst [.str [119, 101, 98], .str [118, 97, 108, 117, 101]]) h := kinds_of (n := "InvalidPlace") (b0 := true) (b1 := true) (b2 := false) (b3 := false) (b4 := false) (b5 := false) (b6 := false) (b7 := false) cl (by decide +kernel) (by decide +kernel) (by decide +kernel) (by decide +kernel) (by decide +kernel) (by decide +kernel) (by decide +kernel) (by decide +kernel)
theorem k_InvalidTie (cl : Closed h) : f__law_kinds_of [.exn "InvalidTie"] h = .ok (.lst [.str [119, 101, 98], .str [118, 97, 108, 117, 101]]) h := kinds_of (n := "InvalidTie") (b0 := true) (b1 := true) (b2 := false) (b3 := false) (b4 := false) (b5 := false) (b6 := false) (b7 := false) cl (by decide +kernel) (by decide +kernel) (by decide +kernel) (by decide +kernel) (by decide +kernel) (by decide +kernel) (by decide +kernel) (by decide +kernel)
theorem k_InvalidWeb (cl : Closed h) : f__law_kinds_of [.exn "InvalidWeb"] h = .ok (.lst [.str [119, 101, 98], .str [118, 97, 108, 117, 101]]) h := kinds_of (n := "InvalidWeb") (b0 := true) (b1 := true) (b2 := false) (b3 := false) (b4 := false) (b5 := false) (b6 := false) (b7 := false) cl (by decide +kernel) (by decide +kernel) (by decide +kernel) (by decide +kernel) (by decide +kernel) (by decide +kernel) (by decide +kernel) (by decide +kernel)
theorem k_InvalidRoute (cl : Closed h) : f__law_kinds_of [.exn "InvalidRoute"] h = .ok (.lst [.str [119, 101, 98], .str [118, 97, 108, 117, 101]]) h := kinds_of (n := "InvalidRoute") (b0 := true) (b1 := true) (b2 := false) (b3 := false) (b4 := false) (b5 := false) (b6 := false) (b7 := false) cl (by decide +kernel) (by decide +kernel) (by decide +kernel) (by decide +kernel) (by decide +kernel) (by decide +kernel) (by decide +kernel) (by decide +kernel)
theorem k_InvalidStep (cl : Closed h) : f__law_kinds_of [.exn "InvalidStep"] h = .ok (.lst [.str [119, 101, 98], .str [118, 97, 108, 117, 101]]) h := kinds_of (n := "InvalidStep") (b0 := true) (b1 := true) (b2 := false) (b3 := false) (b4 := false) (b5 := false) (b6 := false) (b7 := false) cl (by decide +kernel) (by decide +kernel) (by decide +kernel) (by decide +kernel) (by decide +kernel) (by decide +kernel) (by decide +kernel) (by decide +kernel)
theorem k_InvalidGrowth (cl : Closed h) : f__law_kinds_of [.exn "InvalidGrowth"] h = .ok (.lst [.str [119, 101, 98], .str [118, 97, 108, 117, 101]]) h := kinds_of (n := "InvalidGrowth") (b0 := true) (b1 := true) (b2 := false) (b3 := false) (b4 := false) (b5 := false) (b6 := false) (b7 := false) cl (by decide +kernel) (by decide +kernel) (by decide +kernel) (by decide +kernel) (by decide +kernel) (by decide +kernel) (by decide +kernel) (by decide +kernel)
theorem k_InvalidPart (cl : Closed h) : f__law_kinds_of [.exn "InvalidPart"] h = .ok (.lst [.str [119, 101, 98], .str [118, 97, 108, 117, 101]]) h := kinds_of (n := "InvalidPart") (b0 := true) (b1 := true) (b2 := false) (b3 := false) (b4 := false) (b5 := false) (b6 := false) (b7 := false) cl (by decide +kernel) (by decide +kernel) (by decide +kernel) (by decide +kernel) (by decide +kernel) (by decide +kernel) (by decide +kernel) (by decide +kernel)
theorem k_InvalidDrawing (cl : Closed h) : f__law_kinds_of [.exn "InvalidDrawing"] h = .ok (.lst [.str [119, 101, 98], .str [118, 97, 108, 117, 101]]) h := kinds_of (n := "InvalidDrawing") (b0 := true) (b1 := true) (b2 := false) (b3 := false) (b4 := false) (b5 := false) (b6 := false) (b7 := false) cl (by decide +kernel) (by decide +kernel) (by decide +kernel) (by decide +kernel) (by decide +kernel) (by decide +kernel) (by decide +kernel) (by decide +kernel)
theorem k_InvalidModel (cl : Closed h) : f__law_kinds_of [.exn "InvalidModel"] h = .ok (.lst [.str [119, 101, 98], .str [118, 97, 108, 117, 101]]) h := kinds_of (n := "InvalidModel") (b0 := true) (b1 := true) (b2 := false) (b3 := false) (b4 := false) (b5 := false) (b6 := false) (b7 := false) cl (by decide +kernel) (by decide +kernel) (by decide +kernel) (by decide +kernel) (by decide +kernel) (by decide +kernel) (by decide +kernel) (by decide +kernel)
theorem k_InvalidOperation (cl : Closed h) : f__law_kinds_of [.exn "InvalidOperation"] h = .ok (.lst [.str [119, 101, 98], .str [118, 97, 108, 117, 101]]) h := kinds_of (n := "InvalidOperation") (b0 := true) (b1 := true) (b2 := false) (b3 := false) (b4 := false) (b5 := false) (b6 := false) (b7 := false) cl (by decide +kernel) (by decide +kernel) (by decide +kernel) (by decide +kernel) (by decide +kernel) (by decide +kernel) (by decide +kernel) (by decide +kernel)
theorem k_WebError (cl : Closed h) : f__law_kinds_of [.exn "WebError"] h = .ok (.lst [.str [119, 101, 98], .str [118, 97, 108, 117, 101]]) h := kinds_of (n := "WebError") (b0 := true) (b1 := true) (b2 := false) (b3 := false) (b4 := false) (b5 := false) (b6 := false) (b7 := false) cl (by decide +kernel) (by decide +kernel) (by decide +kernel) (by decide +kernel) (by decide +kernel) (by decide +kernel) (by decide +kernel) (by decide +kernel)
theorem k_ParseError (cl : Closed h) : f__law_kinds_of [.exn "ParseError"] h = .ok (.lst [.str [119, 101, 98], .str [118, 97, 108, 117, 101]]) h := kinds_of (n := "ParseError") (b0 := true) (b1 := true) (b2 := false) (b3 := false) (b4 := false) (b5 := false) (b6 := false) (b7 := false) cl (by decide +kernel) (by decide +kernel) (by decide +kernel) (by decide +kernel) (by decide +kernel) (by decide +kernel) (by decide +kernel) (by decide +kernel)
theorem k_UnknownName (cl : Closed h) : f__law_kinds_of [.exn "UnknownName"] h = .ok (.lst [.str [108, 111, 111, 107, 117, 112], .str [107, 101, 121]]) h := kinds_of (n := "UnknownName") (b0 := false) (b1 := false) (b2 := true) (b3 := true) (b4 := false) (b5 := false) (b6 := false) (b7 := false) cl (by decide +kernel) (by decide +kernel) (by decide +kernel) (by decide +kernel) (by decide +kernel) (by decide +kernel) (by decide +kernel) (by decide +kernel)
theorem k_Parted (cl : Closed h) : f__law_kinds_of [.exn "Parted"] h = .ok (.lst [.str [108, 111, 111, 107, 117, 112]]) h := kinds_of (n := "Parted") (b0 := false) (b1 := false) (b2 := true) (b3 := false) (b4 := false) (b5 := false) (b6 := false) (b7 := false) cl (by decide +kernel) (by decide +kernel) (by decide +kernel) (by decide +kernel) (by decide +kernel) (by decide +kernel) (by decide +kernel) (by decide +kernel)
theorem k_InvalidNumber (cl : Closed h) : f__law_kinds_of [.exn "InvalidNumber"] h = .ok (.lst [.str [108, 111, 111, 107, 117, 112], .str [105, 110, 100, 101, 120]]) h := kinds_of (n := "InvalidNumber") (b0 := false) (b1 := false) (b2 := true) (b3 := false) (b4 := true) (b5 := false) (b6 := false) (b7 := false) cl (by decide +kernel) (by decide +kernel) (by decide +kernel) (by decide +kernel) (by decide +kernel) (by decide +kernel) (by decide +kernel) (by decide +kernel)
theorem k_NothingToUndo (cl : Closed h) : f__law_kinds_of [.exn "NothingToUndo"] h = .ok (.lst [.str [114, 117, 110, 116, 105, 109, 101]]) h := kinds_of (n := "NothingToUndo") (b0 := false) (b1 := false) (b2 := false) (b3 := false) (b4 := false) (b5 := true) (b6 := false) (b7 := false) cl (by decide +kernel) (by decide +kernel) (by decide +kernel) (by decide +kernel) (by decide +kernel) (by decide +kernel) (by decide +kernel) (by decide +kernel)
theorem k_TooMany (cl : Closed h) : f__law_kinds_of [.exn "TooMany"] h = .ok (.lst [.str [97, 114, 105, 116, 104, 109, 101, 116, 105, 99], .str [111, 118, 101, 114, 102, 108, 111, 119]]) h := kinds_of (n := "TooMany") (b0 := false) (b1 := false) (b2 := false) (b3 := false) (b4 := false) (b5 := false) (b6 := true) (b7 := true) cl (by decide +kernel) (by decide +kernel) (by decide +kernel) (by decide +kernel) (by decide +kernel) (by decide +kernel) (by decide +kernel) (by decide +kernel)
theorem k_Refused (cl : Closed h) : f__law_kinds_of [.exn "Refused"] h = .ok (.lst [.str [97, 114, 105, 116, 104, 109, 101, 116, 105, 99]]) h := kinds_of (n := "Refused") (b0 := false) (b1 := false) (b2 := false) (b3 := false) (b4 := false) (b5 := false) (b6 := true) (b7 := false) cl (by decide +kernel) (by decide +kernel) (by decide +kernel) (by decide +kernel) (by decide +kernel) (by decide +kernel) (by decide +kernel) (by decide +kernel)
end
end Wg.K00

namespace Wg.K00
open PySem Wg
section
variable {h : Store} {x : PV} {t : List Nat}
/-- the text of a value, as repr tells it -/
structure Rp (x : PV) (t : List Nat) : Prop where
  at_ : ∀ h, fRepr [x] h = .ok (.str t) h
  ok : t.all (fun c => decide (c < 0x110000)) = true
  len : t.length ≤ 1000
theorem told_at (r : Rp x t) : lcL (gVar 5) mYes (mCall f__law_word_of (mCons (mVar 5) (mCons (mVar 0) (mNil)))) ((List.range 9).map fun i => PV.int (i : Nat)) [some x, none, none, none, none, none, none] h = .ok ((toldOf t).map .str) h := by
  have e := lcL_eq (g := gVar 5) (t := mYes) (e := mCall f__law_word_of (mCons (mVar 5) (mCons (mVar 0) (mNil)))) (fun _ => true) (fun y => match y with | .int i => .str ((toldOf t).getD i.toNat []) | _ => .non) (ys := (List.range 9).map fun i => PV.int (i : Nat)) (l := [some x, none, none, none, none, none, none]) (h := h) fun y hy => by
    obtain ⟨i, hi, rfl⟩ := List.mem_map.mp hy
    obtain ⟨z, z1, z2⟩ := word_at (h := h) i (List.mem_range.mp hi) r.at_ r.len
    refine ⟨_, rfl, rfl, fun _ => ?_⟩
    simp [z2, z1]
  rw [e]
  rfl
theorem words_at (r : Rp x t) {told words : PV} (ws : List (List Nat)) (hw : ∀ w ∈ ws, w.length ≤ 100) : lcL (gVar 6) mYes (mBin fAdd (mBin fAdd (mVar 6) (mC (.str [32]))) (mCall fRepr (mCons (mVar 0) (mNil)))) (ws.map .str) [some x, some told, some words, none, none, none, none] h = .ok ((ws.map fun w => w ++ [32] ++ t).map .str) h := by
  have e := lcL_eq (g := gVar 6) (t := mYes) (e := mBin fAdd (mBin fAdd (mVar 6) (mC (.str [32]))) (mCall fRepr (mCons (mVar 0) (mNil)))) (fun _ => true) (fun y => match y with | .str w => .str (w ++ [32] ++ t) | _ => .non) (ys := ws.map .str) (l := [some x, some told, some words, none, none, none, none]) (h := h) fun y hy => by
    obtain ⟨w, hi, rfl⟩ := List.mem_map.mp hy
    have a := hw w hi
    have b := r.len
    have z1 : w.length + 1 ≤ sizeLine := show _ ≤ 16777216 by omega
    have z2 : w.length + 1 + t.length ≤ sizeLine := show _ ≤ 16777216 by omega
    refine ⟨_, rfl, rfl, fun _ => ?_⟩
    simp [r.at_, fAdd, z1, z2]
  rw [e, List.filter_eq_self.mpr fun _ _ => rfl, List.map_map, List.map_map]
  rfl
theorem eqs_self (zs : List (List Nat)) : eqPV (.lst (zs.map .str)) (.lst (zs.map .str)) = true := by
  rw [eqPV, eqPVs_map PV.str (fun a b => eqPV_str)]
  simp
theorem okD_strs {zs : List (List Nat)} (h : ∀ z ∈ zs, z.all (fun c => decide (c < 0x110000)) = true) : okD 1 (.lst (zs.map .str)) = true := by
  rw [okD]
  refine List.all_eq_true.mpr fun y hy => ?_
  obtain ⟨z, hz, rfl⟩ := List.mem_map.mp hy
  simpa [okD] using h z hz
theorem told_ok (r : Rp x t) : ∀ z ∈ toldOf t, z.all (fun c => decide (c < 0x110000)) = true := by
  intro z hz
  have o := r.ok
  simp only [toldOf, List.mem_cons, List.not_mem_nil, or_false] at hz
  rcases hz with e | e | e | e | e | e | e | e | e <;> subst e <;> simp [o] <;> simpa using o
abbrev ws7 : List (List Nat) := [[110, 117, 109, 98, 101, 114], [110, 97, 109, 101], [112, 97, 114, 116, 101, 100], [117, 110, 100, 111], [109, 97, 110, 121], [114, 101, 102, 117, 115, 101, 100], [108, 105, 110, 101]]
def kin3 : List PV := [.lst [.str [108, 111, 111, 107, 117, 112], .str [105, 110, 100, 101, 120]], .lst [.str [108, 111, 111, 107, 117, 112], .str [107, 101, 121]], .lst [.str [108, 111, 111, 107, 117, 112]]]
def kin6 : List PV := [.lst [.str [108, 111, 111, 107, 117, 112], .str [105, 110, 100, 101, 120]], .lst [.str [108, 111, 111, 107, 117, 112], .str [107, 101, 121]], .lst [.str [108, 111, 111, 107, 117, 112]], .lst [.str [114, 117, 110, 116, 105, 109, 101]], .lst [.str [97, 114, 105, 116, 104, 109, 101, 116, 105, 99], .str [111, 118, 101, 114, 102, 108, 111, 119]], .lst [.str [97, 114, 105, 116, 104, 109, 101, 116, 105, 99]]]
theorem keepers (cl : Closed h) (r : Rp x t) : f__law_keepers_right [x] h = .ok (.bl true) h := by
  have t9 : fRange1 [.int 9] h = .ok ((List.range 9).map fun i => PV.int (i : Nat)) h := by simp [fRange1]; try rfl
  have e0 : s__law_keepers_right_0 [some x, none, none, none, none, none, none] h = .ok (.nx [some x, some (.lst ((toldOf t).map .str)), none, none, none, none, none]) h := by
    simp [s__law_keepers_right_0, t9, told_at r, sizeLine]
  have e1 : s__law_keepers_right_1 [some x, some (.lst ((toldOf t).map .str)), none, none, none, none, none] h = .ok (.nx [some x, some (.lst ((toldOf t).map .str)), some (.lst (ws7.map .str)), none, none, none, none]) h := by
    simp [s__law_keepers_right_1, sizeLine, ws7]
  have e2 : s__law_keepers_right_2 [some x, some (.lst ((toldOf t).map .str)), some (.lst (ws7.map .str)), none, none, none, none] h = .ok (.nx [some x, some (.lst ((toldOf t).map .str)), some (.lst (ws7.map .str)), none, none, none, none]) h := by
    have w := words_at (h := h) r (told := .lst ((toldOf t).map .str)) (words := .lst (ws7.map .str)) ws7 (by decide)
    have f : fAdd (.lst ((ws7.map fun w => w ++ [32] ++ t).map .str)) (.lst [.str [115, 116, 101, 112], .str [119, 101, 98]]) h = .ok (.lst ((toldOf t).map .str)) h := by simp [fAdd, lstOf, ws7, toldOf, sizeLine]
    have n : fNe (.lst ((toldOf t).map .str)) (.lst ((toldOf t).map .str)) h = .ok (.bl false) h := by
      rw [fNe_ok (n := 1) (by decide) (okD_strs (told_ok r)) (okD_strs (told_ok r)), eqs_self]; rfl
    have i7 : mItL (mVar 2) [some x, some (.lst ((toldOf t).map .str)), some (.lst (ws7.map .str)), none, none, none, none] h = .ok (ws7.map .str) h := rfl
    have z : (ws7.map PV.str).length ≤ sizeLine := by decide
    have z2 : 2 ≤ sizeLine := by decide
    generalize (ws7.map fun w => w ++ [32] ++ t).map PV.str = U at *
    generalize ws7.map PV.str = W at *
    generalize (toldOf t).map PV.str = T at *
    simp [s__law_keepers_right_2, i7, z, z2, w, f, n]
  generalize ws7.map PV.str = W at *
  generalize (toldOf t).map PV.str = T at *
  have e3 : s__law_keepers_right_3 [some x, some (.lst T), some (.lst W), none, none, none, none] h = .ok (.nx [some x, some (.lst T), some (.lst W), some (.lst kin3), none, none, none]) h := by
    simp [s__law_keepers_right_3, mErrV, k_InvalidNumber cl, k_UnknownName cl, k_Parted cl, sizeLine, kin3]
  have e4 : s__law_keepers_right_4 [some x, some (.lst T), some (.lst W), some (.lst kin3), none, none, none] h = .ok (.nx [some x, some (.lst T), some (.lst W), some (.lst kin6), none, none, none]) h := by
    simp [s__law_keepers_right_4, mErrV, k_NothingToUndo cl, k_TooMany cl, k_Refused cl, sizeLine, kin3, kin6, fAdd, lstOf]
  have e5 : s__law_keepers_right_5 [some x, some (.lst T), some (.lst W), some (.lst kin6), none, none, none] h = .ok (.nx [some x, some (.lst T), some (.lst W), some (.lst kin6), some (.lst kin6), none, none]) h := by
    simp [s__law_keepers_right_5, sizeLine, kin6]
  have q1 : fEq (.lst kin6) (.lst kin6) h = .ok (.bl true) h := by rw [fEq_ok (n := 3) (by decide) (by decide +kernel) (by decide +kernel)]; exact congrArg (fun b => R.ok (PV.bl b) h) (by decide +kernel)
  have q2 : fEq (.lst [.str [119, 101, 98], .str [118, 97, 108, 117, 101]]) (.lst [.str [119, 101, 98], .str [118, 97, 108, 117, 101]]) h = .ok (.bl true) h := by rw [fEq_ok (n := 3) (by decide) (by decide +kernel) (by decide +kernel)]; exact congrArg (fun b => R.ok (PV.bl b) h) (by decide +kernel)
  have e6 : s__law_keepers_right_6 [some x, some (.lst T), some (.lst W), some (.lst kin6), some (.lst kin6), none, none] h = .ok (.rt (.bl true)) h := by
    generalize kin6 = k6 at *
    simp [s__law_keepers_right_6, mErrV, k_ParseError cl, q1, q2, sizeLine]
  have m0 : initL 7 [x] = [some x, none, none, none, none, none, none] := rfl
  unfold f__law_keepers_right runDef m__law_keepers_right
  simp only [m0, mSeq_at, e0, e1, e2, e3, e4, e5, e6, R.bind_ok, on_nx, List.length_singleton, if_true, handO_self]
end
end Wg.K00

namespace Wg.K00
open PySem Wg
section
variable {h : Store} {x : PV} {t : List Nat}
def ten : List Str := ["InvalidPlace", "InvalidTie", "InvalidWeb", "InvalidRoute", "InvalidStep", "InvalidGrowth", "InvalidPart", "InvalidDrawing", "InvalidModel", "InvalidOperation"]
abbrev tenV : List PV := ten.map .exn
theorem plainE : f__law_plain_errors [] h = .ok (.lst tenV) h := by
  simp [f__law_plain_errors, runDef, initL, m__law_plain_errors, s__law_plain_errors_0, s__law_plain_errors_1, mErr0, sizeLine, fAdd, lstOf, ten] <;> rfl
def rowOf (t : List (Str × Bool)) : List PV := ten.map fun n => .bl ((t.lookup n).getD false)
theorem row_at {m : Str} {t : List (Str × Bool)} {r : Option PV} (ht : (ten.all fun n => (t.lookup n).isSome) = true) : lcL (gVar 2) mYes (mCall (fIsC m t) (mCons (mVar 2) (mCons (mC (.cls m)) (mNil)))) tenV [some (.lst tenV), r, none, none, none] h = .ok (rowOf t) h := by
  have e := lcL_eq (g := gVar 2) (t := mYes) (e := mCall (fIsC m t) (mCons (mVar 2) (mCons (mC (.cls m)) (mNil)))) (fun _ => true) (fun y => match y with | .exn n => .bl ((t.lookup n).getD false) | _ => .non) (ys := tenV) (l := [some (.lst tenV), r, none, none, none]) (h := h) fun y hy => by
    obtain ⟨n, hn, rfl⟩ := List.mem_map.mp hy
    have q := List.all_eq_true.mp ht n hn
    obtain ⟨b, hb⟩ := Option.isSome_iff_exists.mp q
    refine ⟨_, rfl, rfl, fun _ => ?_⟩
    simp [isC_at hb, hb]
  rw [e, List.filter_eq_self.mpr fun _ _ => rfl, List.map_map]
  rfl
theorem kinds_ten (cl : Closed h) : ∀ n ∈ ten, f__law_kinds_of [.exn n] h = .ok (.lst [.str [119, 101, 98], .str [118, 97, 108, 117, 101]]) h := by
  intro n hn
  simp only [ten, List.mem_cons, List.not_mem_nil, or_false] at hn
  rcases hn with e | e | e | e | e | e | e | e | e | e <;> subst e
  · exact k_InvalidPlace cl
  · exact k_InvalidTie cl
  · exact k_InvalidWeb cl
  · exact k_InvalidRoute cl
  · exact k_InvalidStep cl
  · exact k_InvalidGrowth cl
  · exact k_InvalidPart cl
  · exact k_InvalidDrawing cl
  · exact k_InvalidModel cl
  · exact k_InvalidOperation cl
theorem fEq_ref {i : Nat} {xs ys : List PV} {h : Store} (e : h[i]? = some (.lst xs)) : fEq (.ref i) (.lst ys) h = fEq (.lst xs) (.lst ys) h := by
  have s1 : seen h (.ref i) = .lst xs := by simp [seen, e]
  unfold fEq fEqB
  rw [s1]
  rfl
theorem frz_bl {H : Store} {n : Nat} {b : Bool} : frz H n 40 (.bl b) = some (.bl b) := by
  unfold frz
  rw [if_pos (by simp [below])]
theorem fCatN_at {xs ys : List PV} {i : Nat} {h : Store} (e : h[i]? = some (.lst xs)) (z : xs.length + ys.length ≤ sizeLine) : fCatN (.ref i) (.lst ys) h = .ok (.ref h.length) (h ++ [.lst (xs ++ ys)]) := by
  unfold fCatN
  simp [lstOf, e, z]
theorem fAppend_at {xs : List PV} {y : PV} {i : Nat} {h : Store} (e : h[i]? = some (.lst xs)) (z : xs.length < sizeLine) : fAppend (.ref i) [y] h = .ok .non (h.set i (.lst (xs ++ [y]))) := by
  unfold fAppend cellL
  simp [e, z]
/-- the state within singles -/
abbrev L5 (V : List PV) (r : Option PV) : Lv := [some (.lst V), r, none, none, none]
theorem itS (r : Option PV) (h : Store) : mItL (mVar 0) (L5 tenV r) h = .ok tenV h := rfl
/-- a row is put behind the others -/
theorem putRow {m : Str} {t : List (Str × Bool)} {c : Cell} {rs : List PV} (ht : (ten.all fun n => (t.lookup n).isSome) = true) (z : rs.length < 100) :
    mDrop (mMeth "list" fAppend (mVar 1) (mCons (mLc (mItL (mVar 0)) [2] (gVar 2) (mYes) (mCall (fIsC m t) (mCons (mVar 2) (mCons (mC (.cls m)) (mNil))))) (mNil))) (L5 tenV (some (.ref (h.length + 1)))) (h ++ [c, .lst rs]) = .ok (.nx (L5 tenV (some (.ref (h.length + 1))))) (h ++ [c, .lst (rs ++ [.lst (rowOf t)])]) := by
  have e : (h ++ [c, .lst rs])[h.length + 1]? = some (.lst rs) := by simp
  have ty : tyM (h ++ [c, .lst rs]) "list" (.ref (h.length + 1)) = true := by simp [tyM]
  have z2 : rs.length < sizeLine := show _ < 16777216 by omega
  have z3 : tenV.length ≤ sizeLine := by decide
  have r := row_at (h := h ++ [c, .lst rs]) (m := m) (r := some (.ref (h.length + 1))) ht
  have it := itS (some (.ref (h.length + 1))) (h ++ [c, .lst rs])
  have q := fAppend_at (y := .lst (rowOf t)) e z2
  have st : (h ++ [c, .lst rs]).set (h.length + 1) (.lst (rs ++ [.lst (rowOf t)])) = h ++ [c, .lst (rs ++ [.lst (rowOf t)])] := by rw [List.set_append_right _ _ (by omega)]; simp
  generalize tenV = V at *
  generalize rowOf t = W at *
  simp [ty, it, z3, r, q, st]
theorem wv : fNe (.lst [.str [119, 101, 98], .str [118, 97, 108, 117, 101]]) (.lst [.str [119, 101, 98], .str [118, 97, 108, 117, 101]]) h = .ok (.bl false) h := by rw [fNe_ok (n := 3) (by decide) (by decide +kernel) (by decide +kernel)]; exact congrArg (fun b => R.ok (PV.bl b) h) (by decide +kernel)
theorem none_at (cl : Closed h) : lcL (gVar 2) (mB (mBin fNe (mCall f__law_kinds_of (mCons (mVar 2) (mNil))) (mLst (mCons (mC (.str [119, 101, 98])) (mCons (mC (.str [118, 97, 108, 117, 101])) (mNil)))))) (mVar 2) tenV [some (.lst tenV), none, none, none, none] h = .ok [] h := by
  have e := lcL_eq (g := gVar 2) (t := mB (mBin fNe (mCall f__law_kinds_of (mCons (mVar 2) (mNil))) (mLst (mCons (mC (.str [119, 101, 98])) (mCons (mC (.str [118, 97, 108, 117, 101])) (mNil)))))) (e := mVar 2) (fun _ => false) id (ys := tenV) (l := [some (.lst tenV), none, none, none, none]) (h := h) fun y hy => by
    obtain ⟨n, hn, rfl⟩ := List.mem_map.mp hy
    refine ⟨_, rfl, ?_, fun q => by cases q⟩
    have z : 2 ≤ sizeLine := by decide
    simp [kinds_ten cl n hn, z, wv]
  rw [e]
  simp
def sq : List PV := (List.range 10).map fun i => .lst ((List.range 10).map fun j => .bl (i == j))
theorem sq_at {l1 : PV} {o : Option PV} : lcL (gVar 4) mYes (mLc (mItC fRange1 (mCons (mC (.int 10)) (mNil))) [3] (gVar 3) (mYes) (mBin fEq (mVar 4) (mVar 3))) ((List.range 10).map fun i => PV.int (i : Nat)) [some (.lst tenV), some l1, none, none, none] h = .ok sq h := by
  have r10 : fRange1 [.int 10] h = .ok ((List.range 10).map fun i => PV.int (i : Nat)) h := by simp [fRange1]; try rfl
  have e := lcL_eq (g := gVar 4) (t := mYes) (e := mLc (mItC fRange1 (mCons (mC (.int 10)) (mNil))) [3] (gVar 3) (mYes) (mBin fEq (mVar 4) (mVar 3))) (fun _ => true) (fun y => match y with | .int i => .lst ((List.range 10).map fun (j : Nat) => .bl (decide (i = (j : Int)))) | _ => .non) (ys := (List.range 10).map fun i => PV.int (i : Nat)) (l := [some (.lst tenV), some l1, none, none, none]) (h := h) fun y hy => by
    obtain ⟨i, hi, rfl⟩ := List.mem_map.mp hy
    refine ⟨_, rfl, rfl, fun _ => ?_⟩
    have e2 := lcL_eq (g := gVar 3) (t := mYes) (e := mBin fEq (mVar 4) (mVar 3)) (fun _ => true) (fun y => match y with | .int j => .bl (decide ((i : Int) = j)) | _ => .non) (ys := (List.range 10).map fun i => PV.int (i : Nat)) (l := [some (.lst tenV), some l1, none, none, some (.int (i : Nat))]) (h := h) fun y hy => by
      obtain ⟨j, hj, rfl⟩ := List.mem_map.mp hy
      refine ⟨_, rfl, rfl, fun _ => ?_⟩
      simp
    rw [List.filter_eq_self.mpr fun _ _ => rfl, List.map_map] at e2
    have z : ((List.range 10).map fun i => PV.int ((i : Nat) : Int)).length ≤ sizeLine := by decide
    generalize tenV = V at *
    have z10 : 10 ≤ sizeLine := by decide
    simp [r10, z10, e2]
  rw [e, List.filter_eq_self.mpr fun _ _ => rfl, List.map_map]
  rfl
theorem rows_sq : fEq (.lst [.lst (rowOf t_iInvalidPlace), .lst (rowOf t_iInvalidTie), .lst (rowOf t_iInvalidWeb), .lst (rowOf t_iInvalidRoute), .lst (rowOf t_iInvalidStep), .lst (rowOf t_iInvalidGrowth), .lst (rowOf t_iInvalidPart), .lst (rowOf t_iInvalidDrawing), .lst (rowOf t_iInvalidModel), .lst (rowOf t_iInvalidOperation)]) (.lst sq) h = .ok (.bl true) h := by
  rw [fEq_ok (n := 3) (by decide) (by decide +kernel) (by decide +kernel)]
  exact congrArg (fun b => R.ok (PV.bl b) h) (by decide +kernel)
theorem noParse : fNe (.lst (rowOf t_iParseError)) (.lst (List.replicate 10 [PV.bl false]).flatten) h = .ok (.bl false) h := by
  rw [fNe_ok (n := 3) (by decide) (by decide +kernel) (by decide +kernel)]
  exact congrArg (fun b => R.ok (PV.bl b) h) (by decide +kernel)
theorem singles (cl : Closed h) : f__law_singles_right [] h = .ok (.bl true) h := by
  have z10 : tenV.length ≤ sizeLine := by decide
  have z0 : 0 ≤ sizeLine := by decide
  have z2 : 2 ≤ sizeLine := by decide
  have nn : fNe (.lst []) (.lst []) h = .ok (.bl false) h := by rw [fNe_nil rfl]; rfl
  have e0 : s__law_singles_right_0 [none, none, none, none, none] h = .ok (.nx (L5 tenV none)) h := by simp [s__law_singles_right_0, plainE]
  have e1 : s__law_singles_right_1 (L5 tenV none) h = .ok (.nx (L5 tenV none)) h := by
    have a := none_at cl
    have it := itS none h
    generalize tenV = V at *
    simp [s__law_singles_right_1, it, z10, a, nn]
  have e2 : s__law_singles_right_2 (L5 tenV none) h = .ok (.nx (L5 tenV (some (.ref h.length)))) (h ++ [.lst [.lst (rowOf t_iInvalidPlace), .lst (rowOf t_iInvalidTie)]]) := by
    have a := row_at (h := h) (m := "InvalidPlace") (t := t_iInvalidPlace) (r := none) (by decide +kernel)
    have b := row_at (h := h) (m := "InvalidTie") (t := t_iInvalidTie) (r := none) (by decide +kernel)
    have it := itS none h
    generalize tenV = V at *
    generalize rowOf t_iInvalidPlace = A at *
    generalize rowOf t_iInvalidTie = B at *
    simp [s__law_singles_right_2, it, z10, z2, a, b]
  have e3 : s__law_singles_right_3 (L5 tenV (some (.ref h.length))) (h ++ [.lst [.lst (rowOf t_iInvalidPlace), .lst (rowOf t_iInvalidTie)]]) = .ok (.nx (L5 tenV (some (.ref (h.length + 1))))) (h ++ [.lst [.lst (rowOf t_iInvalidPlace), .lst (rowOf t_iInvalidTie)], .lst [.lst (rowOf t_iInvalidPlace), .lst (rowOf t_iInvalidTie), .lst (rowOf t_iInvalidWeb), .lst (rowOf t_iInvalidRoute)]]) := by
    generalize hP : ([.lst (rowOf t_iInvalidPlace), .lst (rowOf t_iInvalidTie)] : List PV) = P
    have pl : P.length = 2 := by rw [← hP]; rfl
    have hP4 : ([.lst (rowOf t_iInvalidPlace), .lst (rowOf t_iInvalidTie), .lst (rowOf t_iInvalidWeb), .lst (rowOf t_iInvalidRoute)] : List PV) = P ++ [.lst (rowOf t_iInvalidWeb), .lst (rowOf t_iInvalidRoute)] := by rw [← hP]; rfl
    rw [hP4]
    have a := row_at (h := h ++ [.lst P]) (m := "InvalidWeb") (t := t_iInvalidWeb) (r := some (.ref h.length)) (by decide +kernel)
    have b := row_at (h := h ++ [.lst P]) (m := "InvalidRoute") (t := t_iInvalidRoute) (r := some (.ref h.length)) (by decide +kernel)
    have it := itS (some (.ref h.length)) (h ++ [.lst P])
    have q := fCatN_at (i := h.length) (h := h ++ [.lst P]) (xs := P) (ys := [.lst (rowOf t_iInvalidWeb), .lst (rowOf t_iInvalidRoute)]) (by simp) (by rw [pl]; decide)
    generalize tenV = V at *
    generalize rowOf t_iInvalidWeb = A at *
    generalize rowOf t_iInvalidRoute = B at *
    simp [s__law_singles_right_3, it, z10, z2, a, b, q]
  generalize hc : (Cell.lst [.lst (rowOf t_iInvalidPlace), .lst (rowOf t_iInvalidTie)]) = c at *
  have e4 : s__law_singles_right_4 (L5 tenV (some (.ref (h.length + 1)))) (h ++ [c, .lst [.lst (rowOf t_iInvalidPlace), .lst (rowOf t_iInvalidTie), .lst (rowOf t_iInvalidWeb), .lst (rowOf t_iInvalidRoute)]]) = .ok (.nx (L5 tenV (some (.ref (h.length + 1))))) (h ++ [c, .lst [.lst (rowOf t_iInvalidPlace), .lst (rowOf t_iInvalidTie), .lst (rowOf t_iInvalidWeb), .lst (rowOf t_iInvalidRoute), .lst (rowOf t_iInvalidStep)]]) := putRow (by decide +kernel) (by show 4 < 100; decide)
  have e5 : s__law_singles_right_5 (L5 tenV (some (.ref (h.length + 1)))) (h ++ [c, .lst [.lst (rowOf t_iInvalidPlace), .lst (rowOf t_iInvalidTie), .lst (rowOf t_iInvalidWeb), .lst (rowOf t_iInvalidRoute), .lst (rowOf t_iInvalidStep)]]) = .ok (.nx (L5 tenV (some (.ref (h.length + 1))))) (h ++ [c, .lst [.lst (rowOf t_iInvalidPlace), .lst (rowOf t_iInvalidTie), .lst (rowOf t_iInvalidWeb), .lst (rowOf t_iInvalidRoute), .lst (rowOf t_iInvalidStep), .lst (rowOf t_iInvalidGrowth)]]) := putRow (by decide +kernel) (by show 5 < 100; decide)
  have e6 : s__law_singles_right_6 (L5 tenV (some (.ref (h.length + 1)))) (h ++ [c, .lst [.lst (rowOf t_iInvalidPlace), .lst (rowOf t_iInvalidTie), .lst (rowOf t_iInvalidWeb), .lst (rowOf t_iInvalidRoute), .lst (rowOf t_iInvalidStep), .lst (rowOf t_iInvalidGrowth)]]) = .ok (.nx (L5 tenV (some (.ref (h.length + 1))))) (h ++ [c, .lst [.lst (rowOf t_iInvalidPlace), .lst (rowOf t_iInvalidTie), .lst (rowOf t_iInvalidWeb), .lst (rowOf t_iInvalidRoute), .lst (rowOf t_iInvalidStep), .lst (rowOf t_iInvalidGrowth), .lst (rowOf t_iInvalidPart)]]) := putRow (by decide +kernel) (by show 6 < 100; decide)
  have e7 : s__law_singles_right_7 (L5 tenV (some (.ref (h.length + 1)))) (h ++ [c, .lst [.lst (rowOf t_iInvalidPlace), .lst (rowOf t_iInvalidTie), .lst (rowOf t_iInvalidWeb), .lst (rowOf t_iInvalidRoute), .lst (rowOf t_iInvalidStep), .lst (rowOf t_iInvalidGrowth), .lst (rowOf t_iInvalidPart)]]) = .ok (.nx (L5 tenV (some (.ref (h.length + 1))))) (h ++ [c, .lst [.lst (rowOf t_iInvalidPlace), .lst (rowOf t_iInvalidTie), .lst (rowOf t_iInvalidWeb), .lst (rowOf t_iInvalidRoute), .lst (rowOf t_iInvalidStep), .lst (rowOf t_iInvalidGrowth), .lst (rowOf t_iInvalidPart), .lst (rowOf t_iInvalidDrawing)]]) := putRow (by decide +kernel) (by show 7 < 100; decide)
  have e8 : s__law_singles_right_8 (L5 tenV (some (.ref (h.length + 1)))) (h ++ [c, .lst [.lst (rowOf t_iInvalidPlace), .lst (rowOf t_iInvalidTie), .lst (rowOf t_iInvalidWeb), .lst (rowOf t_iInvalidRoute), .lst (rowOf t_iInvalidStep), .lst (rowOf t_iInvalidGrowth), .lst (rowOf t_iInvalidPart), .lst (rowOf t_iInvalidDrawing)]]) = .ok (.nx (L5 tenV (some (.ref (h.length + 1))))) (h ++ [c, .lst [.lst (rowOf t_iInvalidPlace), .lst (rowOf t_iInvalidTie), .lst (rowOf t_iInvalidWeb), .lst (rowOf t_iInvalidRoute), .lst (rowOf t_iInvalidStep), .lst (rowOf t_iInvalidGrowth), .lst (rowOf t_iInvalidPart), .lst (rowOf t_iInvalidDrawing), .lst (rowOf t_iInvalidModel)]]) := putRow (by decide +kernel) (by show 8 < 100; decide)
  have e9 : s__law_singles_right_9 (L5 tenV (some (.ref (h.length + 1)))) (h ++ [c, .lst [.lst (rowOf t_iInvalidPlace), .lst (rowOf t_iInvalidTie), .lst (rowOf t_iInvalidWeb), .lst (rowOf t_iInvalidRoute), .lst (rowOf t_iInvalidStep), .lst (rowOf t_iInvalidGrowth), .lst (rowOf t_iInvalidPart), .lst (rowOf t_iInvalidDrawing), .lst (rowOf t_iInvalidModel)]]) = .ok (.nx (L5 tenV (some (.ref (h.length + 1))))) (h ++ [c, .lst [.lst (rowOf t_iInvalidPlace), .lst (rowOf t_iInvalidTie), .lst (rowOf t_iInvalidWeb), .lst (rowOf t_iInvalidRoute), .lst (rowOf t_iInvalidStep), .lst (rowOf t_iInvalidGrowth), .lst (rowOf t_iInvalidPart), .lst (rowOf t_iInvalidDrawing), .lst (rowOf t_iInvalidModel), .lst (rowOf t_iInvalidOperation)]]) := putRow (by decide +kernel) (by show 9 < 100; decide)
  have e10 : s__law_singles_right_10 (L5 tenV (some (.ref (h.length + 1)))) (h ++ [c, .lst [.lst (rowOf t_iInvalidPlace), .lst (rowOf t_iInvalidTie), .lst (rowOf t_iInvalidWeb), .lst (rowOf t_iInvalidRoute), .lst (rowOf t_iInvalidStep), .lst (rowOf t_iInvalidGrowth), .lst (rowOf t_iInvalidPart), .lst (rowOf t_iInvalidDrawing), .lst (rowOf t_iInvalidModel), .lst (rowOf t_iInvalidOperation)]]) = .ok (.nx (L5 tenV (some (.ref (h.length + 1))))) (h ++ [c, .lst [.lst (rowOf t_iInvalidPlace), .lst (rowOf t_iInvalidTie), .lst (rowOf t_iInvalidWeb), .lst (rowOf t_iInvalidRoute), .lst (rowOf t_iInvalidStep), .lst (rowOf t_iInvalidGrowth), .lst (rowOf t_iInvalidPart), .lst (rowOf t_iInvalidDrawing), .lst (rowOf t_iInvalidModel), .lst (rowOf t_iInvalidOperation)]]) := by
    generalize (h ++ [c, .lst [.lst (rowOf t_iInvalidPlace), .lst (rowOf t_iInvalidTie), .lst (rowOf t_iInvalidWeb), .lst (rowOf t_iInvalidRoute), .lst (rowOf t_iInvalidStep), .lst (rowOf t_iInvalidGrowth), .lst (rowOf t_iInvalidPart), .lst (rowOf t_iInvalidDrawing), .lst (rowOf t_iInvalidModel), .lst (rowOf t_iInvalidOperation)]]) = H
    have a := row_at (h := H) (m := "ParseError") (t := t_iParseError) (r := some (.ref (h.length + 1))) (by decide +kernel)
    have it := itS (some (.ref (h.length + 1))) H
    have f : fMulB (.lst [.bl false]) (.int 10) H = .ok (.lst (List.replicate 10 [PV.bl false]).flatten) H := by simp [fMulB, sizeLine]
    have q := noParse (h := H)
    generalize (List.replicate 10 [PV.bl false]).flatten = D at *
    generalize tenV = V at *
    generalize rowOf t_iParseError = A at *
    have z1 : 1 ≤ sizeLine := by decide
    simp [s__law_singles_right_10, it, z10, z1, a, f, q]
  have e11 : s__law_singles_right_11 (L5 tenV (some (.ref (h.length + 1)))) (h ++ [c, .lst [.lst (rowOf t_iInvalidPlace), .lst (rowOf t_iInvalidTie), .lst (rowOf t_iInvalidWeb), .lst (rowOf t_iInvalidRoute), .lst (rowOf t_iInvalidStep), .lst (rowOf t_iInvalidGrowth), .lst (rowOf t_iInvalidPart), .lst (rowOf t_iInvalidDrawing), .lst (rowOf t_iInvalidModel), .lst (rowOf t_iInvalidOperation)]]) = .ok (.rt (.bl true)) (h ++ [c, .lst [.lst (rowOf t_iInvalidPlace), .lst (rowOf t_iInvalidTie), .lst (rowOf t_iInvalidWeb), .lst (rowOf t_iInvalidRoute), .lst (rowOf t_iInvalidStep), .lst (rowOf t_iInvalidGrowth), .lst (rowOf t_iInvalidPart), .lst (rowOf t_iInvalidDrawing), .lst (rowOf t_iInvalidModel), .lst (rowOf t_iInvalidOperation)]]) := by
    have g : (h ++ [c, .lst [.lst (rowOf t_iInvalidPlace), .lst (rowOf t_iInvalidTie), .lst (rowOf t_iInvalidWeb), .lst (rowOf t_iInvalidRoute), .lst (rowOf t_iInvalidStep), .lst (rowOf t_iInvalidGrowth), .lst (rowOf t_iInvalidPart), .lst (rowOf t_iInvalidDrawing), .lst (rowOf t_iInvalidModel), .lst (rowOf t_iInvalidOperation)]])[h.length + 1]? = some (.lst [.lst (rowOf t_iInvalidPlace), .lst (rowOf t_iInvalidTie), .lst (rowOf t_iInvalidWeb), .lst (rowOf t_iInvalidRoute), .lst (rowOf t_iInvalidStep), .lst (rowOf t_iInvalidGrowth), .lst (rowOf t_iInvalidPart), .lst (rowOf t_iInvalidDrawing), .lst (rowOf t_iInvalidModel), .lst (rowOf t_iInvalidOperation)]) := by simp
    have q : fEq (.ref (h.length + 1)) (.lst sq) (h ++ [c, .lst [.lst (rowOf t_iInvalidPlace), .lst (rowOf t_iInvalidTie), .lst (rowOf t_iInvalidWeb), .lst (rowOf t_iInvalidRoute), .lst (rowOf t_iInvalidStep), .lst (rowOf t_iInvalidGrowth), .lst (rowOf t_iInvalidPart), .lst (rowOf t_iInvalidDrawing), .lst (rowOf t_iInvalidModel), .lst (rowOf t_iInvalidOperation)]]) = .ok (.bl true) (h ++ [c, .lst [.lst (rowOf t_iInvalidPlace), .lst (rowOf t_iInvalidTie), .lst (rowOf t_iInvalidWeb), .lst (rowOf t_iInvalidRoute), .lst (rowOf t_iInvalidStep), .lst (rowOf t_iInvalidGrowth), .lst (rowOf t_iInvalidPart), .lst (rowOf t_iInvalidDrawing), .lst (rowOf t_iInvalidModel), .lst (rowOf t_iInvalidOperation)]]) := by rw [fEq_ref g]; exact rows_sq
    generalize (h ++ [c, .lst [.lst (rowOf t_iInvalidPlace), .lst (rowOf t_iInvalidTie), .lst (rowOf t_iInvalidWeb), .lst (rowOf t_iInvalidRoute), .lst (rowOf t_iInvalidStep), .lst (rowOf t_iInvalidGrowth), .lst (rowOf t_iInvalidPart), .lst (rowOf t_iInvalidDrawing), .lst (rowOf t_iInvalidModel), .lst (rowOf t_iInvalidOperation)]]) = H at *
    have r10 : fRange1 [.int 10] H = .ok ((List.range 10).map fun i => PV.int (i : Nat)) H := by simp [fRange1]; try rfl
    have a := sq_at (h := H) (l1 := .ref (h.length + 1)) (o := none)
    have z : 10 ≤ sizeLine := by decide
    have rr : runI 0 10 = (List.range 10).map fun i => PV.int (i : Nat) := rfl
    rw [← rr] at a
    generalize sq = S at *
    generalize tenV = V at *
    simp [s__law_singles_right_11, z, a, q]
  have m0 : initL 5 ([] : List PV) = [none, none, none, none, none] := rfl
  unfold f__law_singles_right runDef m__law_singles_right
  simp only [m0, mSeq_at, e0, e1, e2, e3, e4, e5, e6, e7, e8, e9, e10, e11, R.bind_ok, on_nx, List.length_nil, if_true]
  exact handO_cut (by simp) cl frz_bl
end
end Wg.K00

namespace Wg.K00
open PySem Wg
section
variable {h : Store} {a : Nat} {w : List Nat} {x : PV}
abbrev abc : List Nat := [97, 98, 99, 122, 95, 32, 49]
def WordOk (w : List Nat) : Prop := (∀ c ∈ w, c ∈ abc) ∧ w.length ≤ 8
theorem rp_mk {d : PyData} {n : Nat} (e : showD x = some d) (f : ∀ h, seen h x = x) (s : d.showable = true) (dp : d.depth ≤ 50) (o : okS n d.shown) (hn : n ≤ 1000) : Rp x d.shown.cps.toList :=
  ⟨fun h => fRepr_of e f s dp o hn h, List.all_eq_true.mpr fun c hc => decide_eq_true (o.1 c hc), by have := o.2; simpa [Str.length] using Nat.le_trans this hn⟩
theorem word_s (k : WordOk w) : okS 82 (reprText ⟨w.toArray⟩) := by
  have ab : (abc.all fun c => decide (c < 0x110000) && ([34, 39] : List Nat).all fun q => (Builtin.Str.reprChar q c).all fun d => decide (d < 0x110000)) = true := by decide +kernel
  have at_ : ∀ c ∈ w, (decide (c < 0x110000) && ([34, 39] : List Nat).all fun q => (Builtin.Str.reprChar q c).all fun d => decide (d < 0x110000)) = true := fun c hc => List.all_eq_true.mp ab c (k.1 c hc)
  refine (okS_repr (fun c hc q hq d hd => ?_) fun c hc => ?_).le (by have := k.2; omega)
  · have := at_ c hc
    rw [Bool.and_eq_true] at this
    have := List.all_eq_true.mp this.2 q (by simpa using hq)
    exact of_decide_eq_true (List.all_eq_true.mp this d hd)
  · have := at_ c hc
    rw [Bool.and_eq_true] at this
    exact of_decide_eq_true this.1
theorem sh_one : okS 2 ((toString (1 : Int) : String) : Str) := okS_int (k := 1) (by decide) (by decide)
/-- the ten values -/
inductive Val : PV → Prop
  | word {w : List Nat} : WordOk w → Val (.str w)
  | int {i : Int} : i.natAbs < 10 ^ 60 → Val (.int i)
  | non : Val .non
  | tr : Val (.bl true)
  | tup {w : List Nat} : WordOk w → Val (.tup [.str w, .int 1])
  | lst {w : List Nat} : WordOk w → Val (.lst [.str w])
  | dct {w : List Nat} : WordOk w → Val (.dct [(.str w, .int 0)])
  | tt : Val (.tup [.tup []])
theorem val_rp (v : Val x) : ∃ t, Rp x t := by
  cases v with
  | word k => exact ⟨_, rp_mk (d := .str ⟨_⟩) (n := 82) rfl (fun _ => rfl) (by simp only [PyData.showable]) (by simp only [PyData.depth]; omega) (by rw [PyData.shown_str]; exact word_s k) (by decide)⟩
  | int k => exact ⟨_, rp_mk (d := .int _) (n := 61) rfl (fun _ => rfl) (by simp only [PyData.showable, decide_eq_true_eq]; exact log_small (Nat.lt_trans k (by decide))) (by simp only [PyData.depth]; omega) (by rw [PyData.shown_int]; exact okS_int (by decide) k) (by decide)⟩
  | non => exact ⟨_, rp_mk (d := .none) (n := 4) rfl (fun _ => rfl) (by simp only [PyData.showable]) (by simp only [PyData.depth]; omega) (by rw [PyData.shown_none]; exact okS_lit (by decide)) (by decide)⟩
  | tr => exact ⟨_, rp_mk (d := .bool true) (n := 5) rfl (fun _ => rfl) (by simp only [PyData.showable]) (by simp only [PyData.depth]; omega) (by rw [PyData.shown_bool]; exact okS_lit (by decide)) (by decide)⟩
  | @tup w k =>
    refine ⟨_, rp_mk (d := .tuple [.str ⟨w.toArray⟩, .int 1]) (n := 1 + (82 + 2 + 2) + 2) rfl (fun _ => rfl) (by simp [PyData.showable, PyData.showableAll]; decide) (by simp only [PyData.depth, PyData.depthAll]; omega) ?_ (by decide)⟩
    rw [PyData.shown_tuple, PyData.shownAll_cons, PyData.shownAll_cons, PyData.shownAll_nil, PyData.shown_str, PyData.shown_int]
    refine ((okS_lit (n := 1) (by decide)).app ?_).app (okS_lit (s := ")") (n := 2) (by decide))
    exact ((word_s k).app (okS_lit (n := 2) (by decide))).app sh_one
  | @lst w k =>
    refine ⟨_, rp_mk (d := .list [.str ⟨w.toArray⟩]) (n := 1 + 82 + 1) rfl (fun _ => rfl) (by simp [PyData.showable, PyData.showableAll]) (by simp only [PyData.depth, PyData.depthAll]; omega) ?_ (by decide)⟩
    rw [PyData.shown_list, PyData.shownAll_cons, PyData.shownAll_nil, PyData.shown_str]
    exact ((okS_lit (n := 1) (by decide)).app (word_s k)).app (okS_lit (n := 1) (by decide))
  | @dct w k =>
    refine ⟨_, rp_mk (d := .dict [(.str ⟨w.toArray⟩, .int 0)]) (n := 1 + (82 + 2 + 2) + 1) rfl (fun _ => rfl) (by simp [PyData.showable, PyData.showableKv]) (by simp only [PyData.depth, PyData.depthKv]; omega) ?_ (by decide)⟩
    rw [PyData.shown_dict, PyData.shownKv_cons, PyData.shownKv_nil, PyData.shown_str, PyData.shown_int]
    refine ((okS_lit (n := 1) (by decide)).app ?_).app (okS_lit (n := 1) (by decide))
    exact ((word_s k).app (okS_lit (n := 2) (by decide))).app (okS_int (k := 1) (by decide) (by decide))
  | tt =>
    refine ⟨_, rp_mk (d := .tuple [.tuple []]) (n := 1 + (1 + 0 + 1) + 2) rfl (fun _ => rfl) (by simp [PyData.showable, PyData.showableAll]) (by simp only [PyData.depth, PyData.depthAll]; omega) ?_ (by decide)⟩
    rw [PyData.shown_tuple, PyData.shownAll_cons, PyData.shownAll_nil, PyData.shown_tuple, PyData.shownAll_nil]
    refine ((okS_lit (n := 1) (by decide)).app ?_).app (okS_lit (n := 2) (by decide))
    exact ((okS_lit (n := 1) (by decide)).app (show okS 0 (Str.join ", " []) from okS_lit (s := "") (by decide))).app (okS_lit (n := 1) (by decide))
/-- no cell names a place -/
def Flat (h : Store) : Prop := ∀ n, h.all (belowC n) = true
theorem Flat.closed (f : Flat h) : Closed h := f _
theorem Flat.roll {h' : Store} (f : Flat h) (r : Roll a h h') : Flat h' := fun n => r.all (f n)
abbrev L6 (S : PV) (s d w o t : Option PV) : Lv := [some S, s, d, w, o, t]
theorem chars_of : ∀ {zs : List PV}, (∀ z ∈ zs, ∃ c ∈ abc, z = PV.str [c]) → ∃ w : List Nat, zs = w.map (fun c => PV.str [c]) ∧ ∀ c ∈ w, c ∈ abc
  | [], _ => ⟨[], rfl, fun c hc => absurd hc List.not_mem_nil⟩
  | z :: zs, q => by
    obtain ⟨c, hc, e⟩ := q z List.mem_cons_self
    obtain ⟨w, e2, hw⟩ := chars_of fun y hy => q y (List.mem_cons_of_mem _ hy)
    refine ⟨c :: w, by rw [e, e2]; rfl, fun d hd => ?_⟩
    rcases List.mem_cons.mp hd with z | z
    · rw [z]; exact hc
    · exact hw d z
/-- the word -/
theorem word_ok {S : PV} {s w3 o t : Option PV} (d : Dice h a) (f : Flat h) : Ok ((mMeth "str" fJoin (mC (.str [])) (mCons (mLc (mItC fRange1 (mCons (mCall f__law_roll (mCons (mVar 2) (mCons (mC (.int 9)) (mNil)))) (mNil))) [5] (gVar 5) (mYes) (mCall f__law_pick (mCons (mVar 2) (mCons (mC (.str [97, 98, 99, 122, 95, 32, 49])) (mNil))))) (mNil))) (L6 S s (some (.ref a)) w3 o t) h) fun v h' => Dice h' a ∧ Flat h' ∧ ∃ w, WordOk w ∧ v = .str w := by
  simp only [L6, mMeth_at, mC_at, mCons_at, mNil_at, mLc_at, mItC_at, mCall_at, mVar_at, List.getElem?_cons_zero, List.getElem?_cons_succ, R.bind_ok, R.bind_assoc, show ∀ h : Store, tyM h "str" (.str []) = true from fun _ => rfl, if_true]
  refine Ok.call (ok_roll (by decide) (by decide) d) ?_
  rintro v h1 ⟨r1, r, rfl, q1, q2⟩
  have hr : r ≤ 8 := by omega
  rw [fRange1_int (by omega)]
  simp only [R.bind_ok]
  have z : (runI 0 r.toNat).length ≤ sizeLine := by
    rw [runI_len]
    exact (show _ ≤ 16777216 by omega)
  rw [if_pos z, R.bind_assoc]
  refine Ok.call (Ok.lcL (g := gVar 5) (t := mYes) (fun h => Dice h a ∧ Flat h) (fun z => ∃ c ∈ abc, z = PV.str [c]) ⟨r1.dice, f.roll r1⟩ ?_) ?_
  · rintro y hy h2 ⟨d2, f2⟩
    simp only [gVar_at, Ok_ok, mYes_at, if_true, mCall_at, mCons_at, mNil_at, mVar_at, mC_at, wipeL_cons, wipeL_nil, List.set_cons_zero, List.set_cons_succ, List.getElem?_cons_zero, List.getElem?_cons_succ, R.bind_ok]
    refine (ok_pickS (List.cons_ne_nil _ _) (by decide) d2).mono ?_
    rintro v h3 ⟨r3, c, hc, rfl⟩
    exact ⟨⟨c, hc, rfl⟩, r3.dice, f2.roll r3⟩
  · rintro zs h2 ⟨⟨d2, f2⟩, hz, hl⟩
    obtain ⟨w, rfl, hw⟩ := chars_of hz
    have hl2 : w.length ≤ 8 := by rw [List.length_map, runI_len] at hl; omega
    simp only [R.bind_ok]
    rw [fJoin_ones (by omega), Ok_ok]
    exact ⟨d2, f2, w, ⟨hw, hl2⟩, rfl⟩
end
end Wg.K00

namespace Wg.K00
open PySem Wg
section
variable {h : Store} {a : Nat} {w : List Nat} {x : PV}
abbrev someOf (w : List Nat) (i j : Int) : List PV := [.str w, .int i, .int (0 - j), .non, .bl true, .tup [.str w, .int 1], .lst [.str w], .dct [(.str w, .int 0)], .tup [.tup []], .str []]
theorem someOf_val {i j : Int} (k : WordOk w) (hi : 0 ≤ i ∧ i < 10 ^ 59) (hj : 0 ≤ j ∧ j < 99) : ∀ x ∈ someOf w i j, Val x := by
  intro x hx
  simp only [List.mem_cons, List.not_mem_nil, or_false] at hx
  rcases hx with e | e | e | e | e | e | e | e | e | e <;> subst e
  · exact .word k
  · exact .int (by omega)
  · exact .int (by omega)
  · exact .non
  · exact .tr
  · exact .tup k
  · exact .lst k
  · exact .dct k
  · exact .tt
  · exact .word ⟨fun c hc => absurd hc List.not_mem_nil, by decide⟩
/-- one turn -/
theorem b0_ok {S : PV} {s w3 t : Option PV} {vs : List PV} (hv : ∀ x ∈ vs, Val x) (hn : vs ≠ []) (hl : vs.length < 100) (d : Dice h a) (f : Flat h) : Ok (b_law_0 (L6 S s (some (.ref a)) w3 (some (.lst vs)) t) h) fun fl h' => Dice h' a ∧ Flat h' ∧ fl = .nx (L6 S s (some (.ref a)) w3 (some (.lst vs)) t) := by
  simp only [b_law_0, L6, mIf_at, mNotT_at, mB_at, mCall_at, mCons_at, mNil_at, mVar_at, List.getElem?_cons_zero, List.getElem?_cons_succ, R.bind_ok, R.bind_assoc, R.bind_bs]
  refine Ok.bs (ok_pick hn (by omega) d) ?_
  rintro v h1 ⟨r1, hx⟩
  obtain ⟨t', rp⟩ := val_rp (hv v hx)
  have e := keepers (f.roll r1).closed rp
  simp only [R.bind_ok, e, bs_ok, Bool.not_true, Bool.false_eq_true, if_false, mDone_at, Ok_ok]
  exact ⟨r1.dice, f.roll r1, trivial⟩
theorem mk_some {S : PV} {s w4 t : Option PV} (d : Dice h a) (f : Flat h) (k : WordOk w) : Ok ((mLst (mCons (mVar 3) (mCons (mCall f__law_roll (mCons (mVar 2) (mCons (mBin fPow (mC (.int 10)) (mC (.int 59))) (mNil)))) (mCons (mBin fSub (mC (.int 0)) (mCall f__law_roll (mCons (mVar 2) (mCons (mC (.int 99)) (mNil))))) (mCons (mC .non) (mCons (mC (.bl true)) (mCons (mTup (mCons (mVar 3) (mCons (mC (.int 1)) (mNil)))) (mCons (mLst (mCons (mVar 3) (mNil))) (mCons (mDctX [(mVar 3, mC (.int 0))]) (mCons (mTup (mCons (mTup (mNil)) (mNil))) (mCons (mC (.str [])) (mNil)))))))))))) (L6 S s (some (.ref a)) (some (.str w)) w4 t) h) fun v h' => Dice h' a ∧ Flat h' ∧ ∃ vs, v = .lst vs ∧ vs ≠ [] ∧ vs.length < 100 ∧ ∀ x ∈ vs, Val x := by
  have p59 : ∀ h, fPow (.int 10) (.int 59) h = .ok (.int (10 ^ 59)) h := fun h => by rw [fPow_int (by decide) (by decide) (by decide)]; rfl
  have ed : ∀ h, mDctX [(mVar 3, mC (.int 0))] [some S, s, some (.ref a), some (.str w), w4, t] h = .ok (.dct [(.str w, .int 0)]) h := fun h => by
    unfold mDctX
    simp only [mPairs, mVar_at, mC_at, List.getElem?_cons_zero, List.getElem?_cons_succ, R.bind_ok, noX_ok]
    rfl
  have z1 : (0 + 1 ≤ sizeLine) = True := by decide
  have z2 : (0 + 1 + 1 ≤ sizeLine) = True := by decide
  have zT : (0 + 1 + 1 + 1 + 1 + 1 + 1 + 1 + 1 + 1 + 1 ≤ sizeLine) = True := by decide
  simp only [L6, mLst_at, mCons_at, mNil_at, mVar_at, mCall_at, mBin_at, mC_at, mTup_at, List.getElem?_cons_zero, List.getElem?_cons_succ, R.bind_ok, R.bind_assoc, p59]
  refine Ok.call (ok_roll (by decide) (by decide) d) ?_
  rintro v h1 ⟨r1, i, rfl, i1, i2⟩
  refine Ok.call (ok_roll (by decide) (by decide) r1.dice) ?_
  rintro v h2 ⟨r2, j, rfl, j1, j2⟩
  simp only [fSub_int, ed, R.bind_ok, List.length_cons, List.length_nil, z1, z2, zT, Nat.zero_le, if_true, Ok_ok]
  exact ⟨r2.dice, (f.roll r1).roll r2, someOf w i j, rfl, by simp, by simp, someOf_val k ⟨i1, i2⟩ ⟨j1, j2⟩⟩
theorem b1_ok {ns : List Int} {m : Nat} (hm : m < 1000000) (f : Flat h) {d w3 w4 t : Option PV} : Ok (b_law_1 (L6 (.scr (ns.map .int)) (some (.int m)) d w3 w4 t) h) fun fl h' => Flat h' ∧ ∃ d w3 w4 t, fl = .nx (L6 (.scr (ns.map .int)) (some (.int m)) d w3 w4 t) := by
  unfold b_law_1
  rw [mSeq_at]
  refine Ok.call (P := fun fl h' => ∃ a, Dice h' a ∧ Flat h' ∧ fl = .nx (L6 (.scr (ns.map .int)) (some (.int m)) (some (.ref a)) w3 w4 t)) ?_ ?_
  · simp only [L6, mSet_at, mCall_at, mCons_at, mNil_at, mVar_at, List.getElem?_cons_zero, List.getElem?_cons_succ, R.bind_ok]
    refine Ok.bs (ok_dice hm) ?_
    rintro v h1 ⟨rfl, x1, x2, x3, rfl, hx⟩
    rw [Ok_ok]
    refine ⟨h.length, ⟨x1, x2, x3, by simp, hx⟩, fun n => ?_, by simp only [List.set_cons_zero, List.set_cons_succ]⟩
    rw [List.all_append, f n]
    rfl
  rintro fl h1 ⟨a, d1, f1, rfl⟩
  rw [on_nx, mSeq_at]
  refine Ok.call (P := fun fl h' => Dice h' a ∧ Flat h' ∧ ∃ w, WordOk w ∧ fl = .nx (L6 (.scr (ns.map .int)) (some (.int m)) (some (.ref a)) (some (.str w)) w4 t)) ?_ ?_
  · rw [mSet_at]
    refine Ok.bs (word_ok d1 f1) ?_
    rintro v h2 ⟨d2, f2, w, k, rfl⟩
    rw [Ok_ok]
    exact ⟨d2, f2, w, k, by simp only [L6, List.set_cons_zero, List.set_cons_succ]⟩
  rintro fl h2 ⟨d2, f2, w, k, rfl⟩
  rw [on_nx, mSeq_at]
  refine Ok.call (P := fun fl h' => Dice h' a ∧ Flat h' ∧ ∃ vs, (∀ x ∈ vs, Val x) ∧ vs ≠ [] ∧ vs.length < 100 ∧ fl = .nx (L6 (.scr (ns.map .int)) (some (.int m)) (some (.ref a)) (some (.str w)) (some (.lst vs)) t)) ?_ ?_
  · rw [mSet_at]
    refine Ok.bs (mk_some d2 f2 k) ?_
    rintro v h3 ⟨d3, f3, vs, rfl, hn, hl, hv⟩
    rw [Ok_ok]
    exact ⟨d3, f3, vs, hv, hn, hl, by simp only [L6, List.set_cons_zero, List.set_cons_succ]⟩
  rintro fl h3 ⟨d3, f3, vs, hv, hn, hl, rfl⟩
  rw [on_nx]
  simp only [mFor_at, mItC_at, mCons_at, mNil_at, mC_at, R.bind_ok]
  rw [fRange1_int (by decide)]
  simp only [bs_ok]
  refine Ok.mono (P := fun fl h' => Dice h' a ∧ Flat h' ∧ ∃ t, fl = .nx (L6 (.scr (ns.map .int)) (some (.int m)) (some (.ref a)) (some (.str w)) (some (.lst vs)) t)) ?_ fun fl h' ⟨_, f', t, e⟩ => ⟨f', _, _, _, t, e⟩
  refine Ok.forL (fun l h => Dice h a ∧ Flat h ∧ ∃ t, l = L6 (.scr (ns.map .int)) (some (.int m)) (some (.ref a)) (some (.str w)) (some (.lst vs)) t) (fun l h ⟨d, f, t, e⟩ => ⟨d, f, t, by rw [e]⟩) ⟨d3, f3, _, rfl⟩ ?_
  rintro y hy l h ⟨d4, f4, t, rfl⟩
  rw [gVar_at, Ok_ok]
  simp only [L6, List.set_cons_zero, List.set_cons_succ]
  refine (b0_ok hv hn hl d4 f4).mono ?_
  rintro fl h' ⟨d5, f5, rfl⟩
  exact ⟨d5, f5, _, rfl⟩
theorem tail {S : PV} {s d w3 w4 t : Option PV} (f : Flat h) : Ok (s_law_1 (L6 S s d w3 w4 t) h) fun fl h' => fl = .rt (.bl true) := by
  have z2 : (0 + 1 + 1 ≤ sizeLine) = True := by decide
  have q2 : fEq (.lst [.str [119, 101, 98], .str [118, 97, 108, 117, 101]]) (.lst [.str [119, 101, 98], .str [118, 97, 108, 117, 101]]) h = .ok (.bl true) h := by rw [fEq_ok (n := 3) (by decide) (by decide +kernel) (by decide +kernel)]; exact congrArg (fun b => R.ok (PV.bl b) h) (by decide +kernel)
  have e1 := singles f.closed
  have e2 := k_WebError f.closed
  have e3 : ∀ l h, mErr0 "WebError" l h = .ok (.exn "WebError") h := fun _ _ => rfl
  simp only [s_law_1, mRet_at, mAnd_at, mCall_at, mNil_at, mCons_at, mBin_at, mLst_at, mC_at, R.bind_ok, e1, if_true, e3, e2, List.length_cons, List.length_nil, z2, q2, bs_ok, Ok_ok]
theorem plain : PlainOk f_law := by
  intro ns hl
  have := Ok.out (r := f_law [.scr (ns.map .int)] []) (Q := fun v _ => v = .bl true) ?_
  · obtain ⟨v, h, e, rfl⟩ := this
    exact ⟨h, e⟩
  refine Ok.def (by rfl) ?_
  show Ok (m_law (L6 (.scr (ns.map .int)) none none none none none) []) _
  unfold m_law
  rw [mSeq_at]
  refine Ok.call (P := fun fl h => Flat h ∧ ∃ s d w3 w4 t, fl = .nx (L6 (.scr (ns.map .int)) s d w3 w4 t)) ?_ ?_
  · simp only [s_law_0, L6, mFor_at, mItC_at, mCall_at, mCons_at, mNil_at, mVar_at, mC_at, List.getElem?_cons_zero, List.getElem?_cons_succ, R.bind_ok, R.bind_assoc, fLenB_scr, List.length_map, fMin2_int, fMax2_int]
    have hr : ∃ n : Nat, n ≤ 6 ∧ (if (if (ns.length : Int) < 6 then (ns.length : Int) else 6) > 1 then (if (ns.length : Int) < 6 then (ns.length : Int) else 6) else 1) = (n : Int) := by
      by_cases a : (ns.length : Int) < 6
      · rw [if_pos a]
        by_cases b : (ns.length : Int) > 1
        · rw [if_pos b]; exact ⟨ns.length, by omega, rfl⟩
        · rw [if_neg b]; exact ⟨1, by decide, rfl⟩
      · rw [if_neg a]; exact ⟨6, by decide, rfl⟩
    obtain ⟨n, hn, e⟩ := hr
    rw [e, fRange1_int (by omega)]
    simp only [bs_ok]
    refine Ok.forL (fun l h => Flat h ∧ ∃ s d w3 w4 t, l = L6 (.scr (ns.map .int)) s d w3 w4 t) (fun l h ⟨f, s, d, w3, w4, t, e⟩ => ⟨f, s, d, w3, w4, t, by rw [e]⟩) ⟨fun n => rfl, _, _, _, _, _, rfl⟩ ?_
    rintro y hy l h ⟨f, s, d, w3, w4, t, rfl⟩
    obtain ⟨m, hm, rfl⟩ := mem_runI hy
    rw [Int.zero_add]
    have hm' : m < 1000000 := by
      have : n ≤ 6 := hn
      have hm : m < ((n : Int)).toNat := hm
      rw [Int.toNat_natCast] at hm
      omega
    rw [gVar_at, Ok_ok]
    simp only [L6, List.set_cons_zero, List.set_cons_succ]
    refine Ok.mono (b1_ok (ns := ns) (h := h) hm' f) ?_
    rintro fl h' ⟨f', d, w3, w4, t, rfl⟩
    exact ⟨f', _, d, w3, w4, t, rfl⟩
  · rintro fl h ⟨f, s, d, w3, w4, t, rfl⟩
    rw [on_nx]
    refine (tail f).mono fun fl h' e => ?_
    subst e
    show Ok (handO ([] : Store).length (.bl true) h') _
    cases h' with
    | nil => rw [handO_same rfl, Ok_ok]
    | cons c cs =>
      have := handO_cut (h := []) (ls := c :: cs) (x := .bl true) (y := .bl true) (List.cons_ne_nil _ _) rfl rfl
      rw [List.nil_append] at this
      rw [this, Ok_ok]
end
end Wg.K00

namespace Wg.K00
open PySem PySem.Spec PyProof.Rows L2 Wg
def top (i : Nat) : Stmt := PySem.Challenge.pw_wheelgrown_k00_errors_kept_and_caught.main.body.getD i (.Pass ⟨0, 0, 0, 0⟩)
structure Txt (P : Program) (K : PySem.W.Frag) (mg : Str → Option Value) : Prop where
  b_ArithmeticError : mg "ArithmeticError" = none
  b_IndexError : mg "IndexError" = none
  b_KeyError : mg "KeyError" = none
  b_LookupError : mg "LookupError" = none
  b_OverflowError : mg "OverflowError" = none
  b_RuntimeError : mg "RuntimeError" = none
  b_ValueError : mg "ValueError" = none
  b_abs : mg "abs" = none
  b_int : mg "int" = none
  b_isinstance : mg "isinstance" = none
  b_len : mg "len" = none
  b_max : mg "max" = none
  b_min : mg "min" = none
  b_range : mg "range" = none
  b_repr : mg "repr" = none
  b_super : mg "super" = none
  e_InvalidDrawing : ErrK K mg "InvalidDrawing"
  e_InvalidGrowth : ErrK K mg "InvalidGrowth"
  e_InvalidModel : ErrK K mg "InvalidModel"
  e_InvalidOperation : ErrK K mg "InvalidOperation"
  e_InvalidPart : ErrK K mg "InvalidPart"
  e_InvalidPlace : ErrK K mg "InvalidPlace"
  e_InvalidRoute : ErrK K mg "InvalidRoute"
  e_InvalidStep : ErrK K mg "InvalidStep"
  e_InvalidTie : ErrK K mg "InvalidTie"
  e_InvalidWeb : ErrK K mg "InvalidWeb"
  e_WebError : ErrK K mg "WebError"
  c_InvalidNumber : CatK K mg "InvalidNumber" t_InvalidNumber
  c_InvalidStep : CatK K mg "InvalidStep" t_InvalidStep
  c_NothingToUndo : CatK K mg "NothingToUndo" t_NothingToUndo
  c_ParseError : CatK K mg "ParseError" t_ParseError
  c_Parted : CatK K mg "Parted" t_Parted
  c_Refused : CatK K mg "Refused" t_Refused
  c_TooMany : CatK K mg "TooMany" t_TooMany
  c_UnknownName : CatK K mg "UnknownName" t_UnknownName
  c_WebError : CatK K mg "WebError" t_WebError
  ei_InvalidNumber : ErrI P K mg "InvalidNumber" "value"
  ei_NothingToUndo : ErrI P K mg "NothingToUndo" "many"
  ei_ParseError : ErrI P K mg "ParseError" "number"
  ei_Parted : ErrI P K mg "Parted" "parting"
  ei_Refused : ErrI P K mg "Refused" "pledge"
  ei_TooMany : ErrI P K mg "TooMany" "limit"
  ei_UnknownName : ErrI P K mg "UnknownName" "word"
  is_InvalidDrawing : IsC K mg "InvalidDrawing" t_iInvalidDrawing
  is_InvalidGrowth : IsC K mg "InvalidGrowth" t_iInvalidGrowth
  is_InvalidModel : IsC K mg "InvalidModel" t_iInvalidModel
  is_InvalidOperation : IsC K mg "InvalidOperation" t_iInvalidOperation
  is_InvalidPart : IsC K mg "InvalidPart" t_iInvalidPart
  is_InvalidPlace : IsC K mg "InvalidPlace" t_iInvalidPlace
  is_InvalidRoute : IsC K mg "InvalidRoute" t_iInvalidRoute
  is_InvalidStep : IsC K mg "InvalidStep" t_iInvalidStep
  is_InvalidTie : IsC K mg "InvalidTie" t_iInvalidTie
  is_InvalidWeb : IsC K mg "InvalidWeb" t_iInvalidWeb
  is_ParseError : IsC K mg "ParseError" t_iParseError
  is_WebError : IsC K mg "WebError" t_iWebError
  is_ArithmeticError : IsT K mg (.type "ArithmeticError") t_iArithmeticError
  is_IndexError : IsT K mg (.type "IndexError") t_iIndexError
  is_KeyError : IsT K mg (.type "KeyError") t_iKeyError
  is_LookupError : IsT K mg (.type "LookupError") t_iLookupError
  is_OverflowError : IsT K mg (.type "OverflowError") t_iOverflowError
  is_RuntimeError : IsT K mg (.type "RuntimeError") t_iRuntimeError
  is_ValueError : IsT K mg (.type "ValueError") t_iValueError
  fl_InvalidNumber_value : FldK K mg "InvalidNumber" "value"
  fl_NothingToUndo_many : FldK K mg "NothingToUndo" "many"
  fl_ParseError_number : FldK K mg "ParseError" "number"
  fl_Parted_parting : FldK K mg "Parted" "parting"
  fl_Refused_pledge : FldK K mg "Refused" "pledge"
  fl_TooMany_limit : FldK K mg "TooMany" "limit"
  fl_UnknownName_word : FldK K mg "UnknownName" "word"
theorem sy_InvalidNumber : InitSyn (inClass (top 15) 0) "value" "value" := ⟨rfl, fun _ => ⟨_, rfl⟩, ⟨_, rfl, rfl⟩, fun _ _ _ _ _ _ _ _ _ _ _ => .of_eq rfl, rfl, rfl, rfl, rfl, by decide, by decide, by decide +kernel, rfl, rfl, rfl⟩
theorem sy_NothingToUndo : InitSyn (inClass (top 16) 0) "many" "many" := ⟨rfl, fun _ => ⟨_, rfl⟩, ⟨_, rfl, rfl⟩, fun _ _ _ _ _ _ _ _ _ _ _ => .of_eq rfl, rfl, rfl, rfl, rfl, by decide, by decide, by decide +kernel, rfl, rfl, rfl⟩
theorem sy_ParseError : InitSyn (inClass (top 12) 0) "number" "number" := ⟨rfl, fun _ => ⟨_, rfl⟩, ⟨_, rfl, rfl⟩, fun _ _ _ _ _ _ _ _ _ _ _ => .of_eq rfl, rfl, rfl, rfl, rfl, by decide, by decide, by decide +kernel, rfl, rfl, rfl⟩
theorem sy_Parted : InitSyn (inClass (top 14) 0) "parting" "parting" := ⟨rfl, fun _ => ⟨_, rfl⟩, ⟨_, rfl, rfl⟩, fun _ _ _ _ _ _ _ _ _ _ _ => .of_eq rfl, rfl, rfl, rfl, rfl, by decide, by decide, by decide +kernel, rfl, rfl, rfl⟩
theorem sy_Refused : InitSyn (inClass (top 18) 0) "pledge" "pledge" := ⟨rfl, fun _ => ⟨_, rfl⟩, ⟨_, rfl, rfl⟩, fun _ _ _ _ _ _ _ _ _ _ _ => .of_eq rfl, rfl, rfl, rfl, rfl, by decide, by decide, by decide +kernel, rfl, rfl, rfl⟩
theorem sy_TooMany : InitSyn (inClass (top 17) 0) "limit" "limit" := ⟨rfl, fun _ => ⟨_, rfl⟩, ⟨_, rfl, rfl⟩, fun _ _ _ _ _ _ _ _ _ _ _ => .of_eq rfl, rfl, rfl, rfl, rfl, by decide, by decide, by decide +kernel, rfl, rfl, rfl⟩
theorem sy_UnknownName : InitSyn (inClass (top 13) 0) "word" "word" := ⟨rfl, fun _ => ⟨_, rfl⟩, ⟨_, rfl, rfl⟩, fun _ _ _ _ _ _ _ _ _ _ _ => .of_eq rfl, rfl, rfl, rfl, rfl, by decide, by decide, by decide +kernel, rfl, rfl, rfl⟩
section
variable {P : Program} {w : World} {K : PySem.W.Frag} {mg : Str → Option Value} {base : Heap}
abbrev N__law_dice : List Str := ["script", "spot", "cell", "left"]
theorem sc__law_dice : FnScope N__law_dice ["script", "spot"] (defScope (top 20)) := ⟨rfl, rfl, rfl, by decide +kernel, rfl, by decide +kernel, by decide +kernel⟩
theorem ok__law_dice {f : Addr} {fd : FuncData} (T : Txt P K mg)  (F : Fun K "_law_dice" "_law_dice" (top 20) f fd) : FnG P w K mg base (L2.CX P w) 1 f fd ["script", "spot"] (spM w K mg f__law_dice) :=
  fn_okN (N := N__law_dice) F sc__law_dice fun cdv A outer s H E hr hG => xss_cons (xs_set (i := 2) sc__law_dice.nd (xe_ifE (xt_lt (xv 1) (xe_len T.b_len (xa_cons (xv 0) (xa_nil)))) (xe_int_ T.b_int (xa_cons (xe_ix (xv 0) (xv 1)) (xa_nil))) (xe_add (xe_mulA (xe_int) (xv 1)) (xe_int)))) (xss_cons (xs_set (i := 3) sc__law_dice.nd (xe_mod (xe_max2 rfl T.b_max (xa_cons (xe_int) (xa_cons (xe_sub (xe_abs T.b_abs (xa_cons (xv 2) (xa_nil))) (xe_pow (xe_int) (xe_int))) (xa_nil)))) (xe_mulA (xe_pow (xe_int) (xe_int)) (xe_pow (xe_int) (xe_int))))) (xss_one (xs_ret (xe_lstN (xa_cons (xv 3) (xa_cons (xe_add (xe_add (xe_add (xe_mulA (xe_mod (xe_abs T.b_abs (xa_cons (xv 2) (xa_nil))) (xe_int)) (xe_int)) (xe_mulA (xe_int) (xv 1))) (xe_mulA (xe_int) (xe_int_ T.b_int (xa_cons (xe_lt (xv 2) (xe_int)) (xa_nil))))) (xe_int)) (xa_cons (xe_int) (xa_nil))))))))
abbrev N__law_roll : List Str := ["dice", "total", "found", "one", "two"]
theorem sc__law_roll : FnScope N__law_roll ["dice", "total"] (defScope (top 21)) := ⟨rfl, rfl, rfl, by decide +kernel, rfl, by decide +kernel, by decide +kernel⟩
theorem ok__law_roll {f : Addr} {fd : FuncData} (T : Txt P K mg)  (F : Fun K "_law_roll" "_law_roll" (top 21) f fd) : FnG P w K mg base (L2.CX P w) 1 f fd ["dice", "total"] (spM w K mg f__law_roll) :=
  fn_okM (N := N__law_roll) F sc__law_roll fun cdv A outer s H E hr hG => xss_cons (xs_if (xt_gt (xe_ix (xv 0) (xe_int)) (xe_int)) (xss_cons (xs_set (i := 2) sc__law_roll.nd (xe_mod (xe_int_ T.b_int (xa_cons (xe_ix (xv 0) (xe_int)) (xa_nil))) (xv 1))) (xss_cons (xs_asg (xe_div (xe_ix (xv 0) (xe_int)) (xv 1)) (xg_subL (xv 0) (xe_int))) (xss_one (xs_ret (xv 2))))) (xss_nil)) (xss_cons (xs_asg (xe_add (xe_ix (xv 0) (xe_int)) (xe_int)) (xg_subL (xv 0) (xe_int))) (xss_cons (xs_set (i := 3) sc__law_roll.nd (xe_mod (xe_int_ T.b_int (xa_cons (xe_add (xe_ix (xv 0) (xe_int)) (xe_mulA (xe_int) (xe_ix (xv 0) (xe_int)))) (xa_nil))) (xe_int))) (xss_cons (xs_set (i := 4) sc__law_roll.nd (xe_add (xe_mulA (xe_mod (xe_int_ T.b_int (xa_cons (xe_add (xe_mulA (xv 3) (xv 3)) (xe_mulA (xe_int) (xe_ix (xv 0) (xe_int)))) (xa_nil))) (xe_int)) (xe_int)) (xv 3))) (xss_one (xs_ret (xe_mod (xe_int_ T.b_int (xa_cons (xe_div (xv 4) (xe_int)) (xa_nil))) (xv 1)))))))
abbrev N__law_pick : List Str := ["dice", "items"]
theorem sc__law_pick : FnScope N__law_pick ["dice", "items"] (defScope (top 22)) := ⟨rfl, rfl, rfl, by decide +kernel, rfl, by decide +kernel, by decide +kernel⟩
theorem ok__law_pick {f : Addr} {fd : FuncData} (T : Txt P K mg) (D__law_roll : Def P w K mg base 1 "_law_roll" f__law_roll) (F : Fun K "_law_pick" "_law_pick" (top 22) f fd) : FnG P w K mg base (L2.CX P w) 2 f fd ["dice", "items"] (spM w K mg f__law_pick) :=
  fn_okM (N := N__law_pick) F sc__law_pick fun cdv A outer s H E hr hG => xss_one (xs_ret (xe_ix (xv 1) (xe_call D__law_roll (hr.mono (by decide)) hG (takes_of rfl rfl rfl rfl) (xa_cons (xv 0) (xa_cons (xe_len T.b_len (xa_cons (xv 1) (xa_nil))) (xa_nil))))))
abbrev N__law_plain_errors : List Str := ["some"]
theorem sc__law_plain_errors : FnScope N__law_plain_errors [] (defScope (top 23)) := ⟨rfl, rfl, rfl, by decide +kernel, rfl, by decide +kernel, by decide +kernel⟩
theorem ok__law_plain_errors {f : Addr} {fd : FuncData} (T : Txt P K mg)  (F : Fun K "_law_plain_errors" "_law_plain_errors" (top 23) f fd) : FnG P w K mg base (L2.CX P w) 1 f fd [] (spM w K mg f__law_plain_errors) :=
  fn_okM (N := N__law_plain_errors) F sc__law_plain_errors fun cdv A outer s H E hr hG => xss_cons (xs_set (i := 0) sc__law_plain_errors.nd (xe_lst (xa_cons (xe_err0 T.e_InvalidPlace) (xa_cons (xe_err0 T.e_InvalidTie) (xa_cons (xe_err0 T.e_InvalidWeb) (xa_cons (xe_err0 T.e_InvalidRoute) (xa_cons (xe_err0 T.e_InvalidStep) (xa_cons (xe_err0 T.e_InvalidGrowth) (xa_nil))))))))) (xss_one (xs_ret (xe_add (xv 0) (xe_lst (xa_cons (xe_err0 T.e_InvalidPart) (xa_cons (xe_err0 T.e_InvalidDrawing) (xa_cons (xe_err0 T.e_InvalidModel) (xa_cons (xe_err0 T.e_InvalidOperation) (xa_nil)))))))))
abbrev N__law_kinds_of : List Str := ["error", "found"]
theorem sc__law_kinds_of : FnScope N__law_kinds_of ["error"] (defScope (top 24)) := ⟨rfl, rfl, rfl, by decide +kernel, rfl, by decide +kernel, by decide +kernel⟩
theorem ok__law_kinds_of {f : Addr} {fd : FuncData} (T : Txt P K mg)  (F : Fun K "_law_kinds_of" "_law_kinds_of" (top 24) f fd) : FnG P w K mg base (L2.CX P w) 1 f fd ["error"] (spM w K mg f__law_kinds_of) :=
  fn_okM (N := N__law_kinds_of) F sc__law_kinds_of fun cdv A outer s H E hr hG => xss_cons (xs_set (i := 1) sc__law_kinds_of.nd (xe_lstN (xa_nil))) (xss_cons (xs_if (xt_val (xe_isC T.is_WebError T.b_isinstance (xa_cons (xv 0) (xa_cons (xe_cls T.is_WebError.has) (xa_nil))))) (xss_one (xs_expr (xe_append (xv 1) (xa_cons (xe_str (y := [119, 101, 98])) (xa_nil))))) (xss_nil)) (xss_cons (xs_if (xt_val (xe_isY T.is_ValueError T.b_isinstance (xa_cons (xv 0) (xa_cons (xe_bty (n := "ValueError") T.b_ValueError (by decide +kernel)) (xa_nil))))) (xss_one (xs_expr (xe_append (xv 1) (xa_cons (xe_str (y := [118, 97, 108, 117, 101])) (xa_nil))))) (xss_nil)) (xss_cons (xs_if (xt_val (xe_isY T.is_LookupError T.b_isinstance (xa_cons (xv 0) (xa_cons (xe_bty (n := "LookupError") T.b_LookupError (by decide +kernel)) (xa_nil))))) (xss_one (xs_expr (xe_append (xv 1) (xa_cons (xe_str (y := [108, 111, 111, 107, 117, 112])) (xa_nil))))) (xss_nil)) (xss_cons (xs_if (xt_val (xe_isY T.is_KeyError T.b_isinstance (xa_cons (xv 0) (xa_cons (xe_bty (n := "KeyError") T.b_KeyError (by decide +kernel)) (xa_nil))))) (xss_one (xs_expr (xe_append (xv 1) (xa_cons (xe_str (y := [107, 101, 121])) (xa_nil))))) (xss_nil)) (xss_cons (xs_if (xt_val (xe_isY T.is_IndexError T.b_isinstance (xa_cons (xv 0) (xa_cons (xe_bty (n := "IndexError") T.b_IndexError (by decide +kernel)) (xa_nil))))) (xss_one (xs_expr (xe_append (xv 1) (xa_cons (xe_str (y := [105, 110, 100, 101, 120])) (xa_nil))))) (xss_nil)) (xss_cons (xs_if (xt_val (xe_isY T.is_RuntimeError T.b_isinstance (xa_cons (xv 0) (xa_cons (xe_bty (n := "RuntimeError") T.b_RuntimeError (by decide +kernel)) (xa_nil))))) (xss_one (xs_expr (xe_append (xv 1) (xa_cons (xe_str (y := [114, 117, 110, 116, 105, 109, 101])) (xa_nil))))) (xss_nil)) (xss_cons (xs_if (xt_val (xe_isY T.is_ArithmeticError T.b_isinstance (xa_cons (xv 0) (xa_cons (xe_bty (n := "ArithmeticError") T.b_ArithmeticError (by decide +kernel)) (xa_nil))))) (xss_one (xs_expr (xe_append (xv 1) (xa_cons (xe_str (y := [97, 114, 105, 116, 104, 109, 101, 116, 105, 99])) (xa_nil))))) (xss_nil)) (xss_cons (xs_if (xt_val (xe_isY T.is_OverflowError T.b_isinstance (xa_cons (xv 0) (xa_cons (xe_bty (n := "OverflowError") T.b_OverflowError (by decide +kernel)) (xa_nil))))) (xss_one (xs_expr (xe_append (xv 1) (xa_cons (xe_str (y := [111, 118, 101, 114, 102, 108, 111, 119])) (xa_nil))))) (xss_nil)) (xss_one (xs_ret (xv 1)))))))))))
abbrev N__law_raised : List Str := ["way", "value"]
theorem sc__law_raised : FnScope N__law_raised ["way", "value"] (defScope (top 25)) := ⟨rfl, rfl, rfl, by decide +kernel, rfl, by decide +kernel, by decide +kernel⟩
theorem ok__law_raised {f : Addr} {fd : FuncData} (T : Txt P K mg)  (F : Fun K "_law_raised" "_law_raised" (top 25) f fd) : FnG P w K mg base (L2.CX P w) 1 f fd ["way", "value"] (spM w K mg f__law_raised) :=
  fn_okM (N := N__law_raised) F sc__law_raised fun cdv A outer s H E hr hG => xss_cons (xs_if (xt_eq (hr) (xv 0) (xe_int)) (xss_one (xs_raiseV rfl (takes_of rfl rfl rfl rfl) (hr) T.ei_InvalidNumber (xv 1))) (xss_nil)) (xss_cons (xs_if (xt_eq (hr) (xv 0) (xe_int)) (xss_one (xs_raiseV rfl (takes_of rfl rfl rfl rfl) (hr) T.ei_UnknownName (xv 1))) (xss_nil)) (xss_cons (xs_if (xt_eq (hr) (xv 0) (xe_int)) (xss_one (xs_raiseV rfl (takes_of rfl rfl rfl rfl) (hr) T.ei_Parted (xv 1))) (xss_nil)) (xss_cons (xs_if (xt_eq (hr) (xv 0) (xe_int)) (xss_one (xs_raiseV rfl (takes_of rfl rfl rfl rfl) (hr) T.ei_NothingToUndo (xv 1))) (xss_nil)) (xss_cons (xs_if (xt_eq (hr) (xv 0) (xe_int)) (xss_one (xs_raiseV rfl (takes_of rfl rfl rfl rfl) (hr) T.ei_TooMany (xv 1))) (xss_nil)) (xss_cons (xs_if (xt_eq (hr) (xv 0) (xe_int)) (xss_one (xs_raiseV rfl (takes_of rfl rfl rfl rfl) (hr) T.ei_Refused (xv 1))) (xss_nil)) (xss_cons (xs_if (xt_eq (hr) (xv 0) (xe_int)) (xss_one (xs_raiseV rfl (takes_of rfl rfl rfl rfl) (hr) T.ei_ParseError (xv 1))) (xss_nil)) (xss_cons (xs_if (xt_eq (hr) (xv 0) (xe_int)) (xss_one (xs_raise rfl (takes_of rfl rfl rfl rfl) T.e_InvalidStep)) (xss_nil)) (xss_one (xs_raise rfl (takes_of rfl rfl rfl rfl) T.e_InvalidModel)))))))))
abbrev N__law_word_of : List Str := ["way", "value", "e"]
theorem sc__law_word_of : FnScope N__law_word_of ["way", "value"] (defScope (top 26)) := ⟨rfl, rfl, rfl, by decide +kernel, rfl, by decide +kernel, by decide +kernel⟩
theorem ok__law_word_of {f : Addr} {fd : FuncData} (T : Txt P K mg) (D__law_raised : Def P w K mg base 1 "_law_raised" f__law_raised) (F : Fun K "_law_word_of" "_law_word_of" (top 26) f fd) : FnG P w K mg base (L2.CX P w) 2 f fd ["way", "value"] (spM w K mg f__law_word_of) :=
  fn_okM (N := N__law_word_of) F sc__law_word_of fun cdv A outer s H E hr hG => xss_one (xs_try rfl rfl sc__law_word_of.nd (takes_of rfl rfl rfl rfl) rfl (fun _ _ _ t0 _ => xss_one (xs_expr (xe_call D__law_raised (hr.mono (by decide)) hG (t0) (xa_cons (xv 0) (xa_cons (xv 1) (xa_nil)))))) (.ownN (i := 2) rfl rfl T.c_InvalidNumber (only_by (by decide +kernel)) (fun _ _ _ _ _ _ z w => xss_one (xs_ret (xe_add (xe_str (y := [110, 117, 109, 98, 101, 114, 32])) (xe_repr (by exact hG) (by exact hr.units) (by exact T.b_repr) (xa_cons (xe_fld (by exact T.fl_InvalidNumber_value) z w) (xa_nil)))))) (.ownN (i := 2) rfl rfl T.c_UnknownName (only_by (by decide +kernel)) (fun _ _ _ _ _ _ z w => xss_one (xs_ret (xe_add (xe_str (y := [110, 97, 109, 101, 32])) (xe_repr (by exact hG) (by exact hr.units) (by exact T.b_repr) (xa_cons (xe_fld (by exact T.fl_UnknownName_word) z w) (xa_nil)))))) (.ownN (i := 2) rfl rfl T.c_Parted (only_by (by decide +kernel)) (fun _ _ _ _ _ _ z w => xss_one (xs_ret (xe_add (xe_str (y := [112, 97, 114, 116, 101, 100, 32])) (xe_repr (by exact hG) (by exact hr.units) (by exact T.b_repr) (xa_cons (xe_fld (by exact T.fl_Parted_parting) z w) (xa_nil)))))) (.ownN (i := 2) rfl rfl T.c_NothingToUndo (only_by (by decide +kernel)) (fun _ _ _ _ _ _ z w => xss_one (xs_ret (xe_add (xe_str (y := [117, 110, 100, 111, 32])) (xe_repr (by exact hG) (by exact hr.units) (by exact T.b_repr) (xa_cons (xe_fld (by exact T.fl_NothingToUndo_many) z w) (xa_nil)))))) (.ownN (i := 2) rfl rfl T.c_TooMany (only_by (by decide +kernel)) (fun _ _ _ _ _ _ z w => xss_one (xs_ret (xe_add (xe_str (y := [109, 97, 110, 121, 32])) (xe_repr (by exact hG) (by exact hr.units) (by exact T.b_repr) (xa_cons (xe_fld (by exact T.fl_TooMany_limit) z w) (xa_nil)))))) (.ownN (i := 2) rfl rfl T.c_Refused (only_by (by decide +kernel)) (fun _ _ _ _ _ _ z w => xss_one (xs_ret (xe_add (xe_str (y := [114, 101, 102, 117, 115, 101, 100, 32])) (xe_repr (by exact hG) (by exact hr.units) (by exact T.b_repr) (xa_cons (xe_fld (by exact T.fl_Refused_pledge) z w) (xa_nil)))))) (.ownN (i := 2) rfl rfl T.c_ParseError (only_by (by decide +kernel)) (fun _ _ _ _ _ _ z w => xss_one (xs_ret (xe_add (xe_str (y := [108, 105, 110, 101, 32])) (xe_repr (by exact hG) (by exact hr.units) (by exact T.b_repr) (xa_cons (xe_fld (by exact T.fl_ParseError_number) z w) (xa_nil)))))) (.own T.c_InvalidStep (fun _ _ _ _ _ _ _ => xss_one (xs_ret (xe_str (y := [115, 116, 101, 112])))) (.own T.c_WebError (fun _ _ _ _ _ _ _ => xss_one (xs_ret (xe_str (y := [119, 101, 98])))) (.nil)))))))))))
abbrev N__law_keepers_right : List Str := ["value", "told", "words", "kinds", "due", "way", "word"]
theorem sc__law_keepers_right : FnScope N__law_keepers_right ["value"] (defScope (top 27)) := ⟨rfl, rfl, rfl, by decide +kernel, rfl, by decide +kernel, by decide +kernel⟩
theorem ok__law_keepers_right {f : Addr} {fd : FuncData} (T : Txt P K mg) (D__law_kinds_of : Def P w K mg base 1 "_law_kinds_of" f__law_kinds_of) (D__law_word_of : Def P w K mg base 2 "_law_word_of" f__law_word_of) (F : Fun K "_law_keepers_right" "_law_keepers_right" (top 27) f fd) : FnG P w K mg base (L2.CX P w) 3 f fd ["value"] (spM w K mg f__law_keepers_right) :=
  fn_okM (N := N__law_keepers_right) F sc__law_keepers_right fun cdv A outer s H E hr hG => xss_cons (xs_setLc (i := 1) rfl sc__law_keepers_right.nd (xi_range1 T.b_range (xa_cons (xe_int) (xa_nil))) (own := [("way", 5)]) (blkOk_by (N := N__law_keepers_right) (sc := defScope (top 27)) (by decide +kernel)) (fun _ _ _ _ _ => xgw_name sc__law_keepers_right.nd) (fun _ _ _ _ _ => xts_nil) (fun _ _ _ _ _ => xe_call D__law_word_of (hr.mono (by decide)) hG (takes0) (xa_cons (xv 5) (xa_cons (xv 0) (xa_nil))))) (xss_cons (xs_set (i := 2) sc__law_keepers_right.nd (xe_lst (xa_cons (xe_str (y := [110, 117, 109, 98, 101, 114])) (xa_cons (xe_str (y := [110, 97, 109, 101])) (xa_cons (xe_str (y := [112, 97, 114, 116, 101, 100])) (xa_cons (xe_str (y := [117, 110, 100, 111])) (xa_cons (xe_str (y := [109, 97, 110, 121])) (xa_cons (xe_str (y := [114, 101, 102, 117, 115, 101, 100])) (xa_cons (xe_str (y := [108, 105, 110, 101])) (xa_nil)))))))))) (xss_cons (xs_if (xt_ne (hr) (xv 1) (xe_add (xe_lc rfl sc__law_keepers_right.nd (xi_list (xv 2)) (own := [("word", 6)]) (blkOk_by (N := N__law_keepers_right) (sc := defScope (top 27)) (by decide +kernel)) (fun _ _ _ _ _ => xgw_name sc__law_keepers_right.nd) (fun _ _ _ _ _ => xts_nil) (fun _ _ _ _ _ => xe_add (xe_add (xv 6) (xe_str (y := [32]))) (xe_repr hG hr.units T.b_repr (xa_cons (xv 0) (xa_nil))))) (xe_lst (xa_cons (xe_str (y := [115, 116, 101, 112])) (xa_cons (xe_str (y := [119, 101, 98])) (xa_nil)))))) (xss_one (xs_ret (xe_bl))) (xss_nil)) (xss_cons (xs_set (i := 3) sc__law_keepers_right.nd (xe_lst (xa_cons (xe_call D__law_kinds_of (hr.mono (by decide)) hG (takes_of rfl rfl rfl rfl) (xa_cons (xe_errV (hr) T.ei_InvalidNumber (xv 0)) (xa_nil))) (xa_cons (xe_call D__law_kinds_of (hr.mono (by decide)) hG (takes_of rfl rfl rfl rfl) (xa_cons (xe_errV (hr) T.ei_UnknownName (xv 0)) (xa_nil))) (xa_cons (xe_call D__law_kinds_of (hr.mono (by decide)) hG (takes_of rfl rfl rfl rfl) (xa_cons (xe_errV (hr) T.ei_Parted (xv 0)) (xa_nil))) (xa_nil)))))) (xss_cons (xs_set (i := 3) sc__law_keepers_right.nd (xe_add (xv 3) (xe_lst (xa_cons (xe_call D__law_kinds_of (hr.mono (by decide)) hG (takes_of rfl rfl rfl rfl) (xa_cons (xe_errV (hr) T.ei_NothingToUndo (xv 0)) (xa_nil))) (xa_cons (xe_call D__law_kinds_of (hr.mono (by decide)) hG (takes_of rfl rfl rfl rfl) (xa_cons (xe_errV (hr) T.ei_TooMany (xv 0)) (xa_nil))) (xa_cons (xe_call D__law_kinds_of (hr.mono (by decide)) hG (takes_of rfl rfl rfl rfl) (xa_cons (xe_errV (hr) T.ei_Refused (xv 0)) (xa_nil))) (xa_nil))))))) (xss_cons (xs_set (i := 4) sc__law_keepers_right.nd (xe_lst (xa_cons (xe_lst (xa_cons (xe_str (y := [108, 111, 111, 107, 117, 112])) (xa_cons (xe_str (y := [105, 110, 100, 101, 120])) (xa_nil)))) (xa_cons (xe_lst (xa_cons (xe_str (y := [108, 111, 111, 107, 117, 112])) (xa_cons (xe_str (y := [107, 101, 121])) (xa_nil)))) (xa_cons (xe_lst (xa_cons (xe_str (y := [108, 111, 111, 107, 117, 112])) (xa_nil))) (xa_cons (xe_lst (xa_cons (xe_str (y := [114, 117, 110, 116, 105, 109, 101])) (xa_nil))) (xa_cons (xe_lst (xa_cons (xe_str (y := [97, 114, 105, 116, 104, 109, 101, 116, 105, 99])) (xa_cons (xe_str (y := [111, 118, 101, 114, 102, 108, 111, 119])) (xa_nil)))) (xa_cons (xe_lst (xa_cons (xe_str (y := [97, 114, 105, 116, 104, 109, 101, 116, 105, 99])) (xa_nil))) (xa_nil))))))))) (xss_one (xs_ret (xe_and (xe_eq (hr) (xv 3) (xv 4)) (xe_one (xe_eq (hr) (xe_call D__law_kinds_of (hr.mono (by decide)) hG (takes_of rfl rfl rfl rfl) (xa_cons (xe_errV (hr) T.ei_ParseError (xv 0)) (xa_nil))) (xe_lst (xa_cons (xe_str (y := [119, 101, 98])) (xa_cons (xe_str (y := [118, 97, 108, 117, 101])) (xa_nil))))))))))))))
abbrev N__law_singles_right : List Str := ["some", "rows", "error", "other", "spot"]
theorem sc__law_singles_right : FnScope N__law_singles_right [] (defScope (top 28)) := ⟨rfl, rfl, rfl, by decide +kernel, rfl, by decide +kernel, by decide +kernel⟩
theorem ok__law_singles_right {f : Addr} {fd : FuncData} (T : Txt P K mg) (D__law_kinds_of : Def P w K mg base 1 "_law_kinds_of" f__law_kinds_of) (D__law_plain_errors : Def P w K mg base 1 "_law_plain_errors" f__law_plain_errors) (F : Fun K "_law_singles_right" "_law_singles_right" (top 28) f fd) : FnG P w K mg base (L2.CX P w) 2 f fd [] (spM w K mg f__law_singles_right) :=
  fn_okM (N := N__law_singles_right) F sc__law_singles_right fun cdv A outer s H E hr hG => xss_cons (xs_set (i := 0) sc__law_singles_right.nd (xe_call0 D__law_plain_errors (hr.mono (by decide)) hG (takes_of rfl rfl rfl rfl))) (xss_cons (xs_if (xt_ne (hr) (xe_lc rfl sc__law_singles_right.nd (xi_list (xv 0)) (own := [("error", 2)]) (blkOk_by (N := N__law_singles_right) (sc := defScope (top 28)) (by decide +kernel)) (fun _ _ _ _ _ => xgw_name sc__law_singles_right.nd) (fun _ _ _ _ _ => xts_one (xt_ne (hr) (xe_call D__law_kinds_of (hr.mono (by decide)) hG (takes0) (xa_cons (xv 2) (xa_nil))) (xe_lst (xa_cons (xe_str (y := [119, 101, 98])) (xa_cons (xe_str (y := [118, 97, 108, 117, 101])) (xa_nil)))))) (fun _ _ _ _ _ => xv 2)) (xe_lst (xa_nil))) (xss_one (xs_ret (xe_bl))) (xss_nil)) (xss_cons (xs_set (i := 1) sc__law_singles_right.nd (xe_lstN (xa_cons (xe_lc rfl sc__law_singles_right.nd (xi_list (xv 0)) (own := [("error", 2)]) (blkOk_by (N := N__law_singles_right) (sc := defScope (top 28)) (by decide +kernel)) (fun _ _ _ _ _ => xgw_name sc__law_singles_right.nd) (fun _ _ _ _ _ => xts_nil) (fun _ _ _ _ _ => xe_isC T.is_InvalidPlace T.b_isinstance (xa_cons (xv 2) (xa_cons (xe_cls T.is_InvalidPlace.has) (xa_nil))))) (xa_cons (xe_lc rfl sc__law_singles_right.nd (xi_list (xv 0)) (own := [("error", 2)]) (blkOk_by (N := N__law_singles_right) (sc := defScope (top 28)) (by decide +kernel)) (fun _ _ _ _ _ => xgw_name sc__law_singles_right.nd) (fun _ _ _ _ _ => xts_nil) (fun _ _ _ _ _ => xe_isC T.is_InvalidTie T.b_isinstance (xa_cons (xv 2) (xa_cons (xe_cls T.is_InvalidTie.has) (xa_nil))))) (xa_nil))))) (xss_cons (xs_set (i := 1) sc__law_singles_right.nd (xe_catN (xv 1) (xe_lst (xa_cons (xe_lc rfl sc__law_singles_right.nd (xi_list (xv 0)) (own := [("error", 2)]) (blkOk_by (N := N__law_singles_right) (sc := defScope (top 28)) (by decide +kernel)) (fun _ _ _ _ _ => xgw_name sc__law_singles_right.nd) (fun _ _ _ _ _ => xts_nil) (fun _ _ _ _ _ => xe_isC T.is_InvalidWeb T.b_isinstance (xa_cons (xv 2) (xa_cons (xe_cls T.is_InvalidWeb.has) (xa_nil))))) (xa_cons (xe_lc rfl sc__law_singles_right.nd (xi_list (xv 0)) (own := [("error", 2)]) (blkOk_by (N := N__law_singles_right) (sc := defScope (top 28)) (by decide +kernel)) (fun _ _ _ _ _ => xgw_name sc__law_singles_right.nd) (fun _ _ _ _ _ => xts_nil) (fun _ _ _ _ _ => xe_isC T.is_InvalidRoute T.b_isinstance (xa_cons (xv 2) (xa_cons (xe_cls T.is_InvalidRoute.has) (xa_nil))))) (xa_nil)))))) (xss_cons (xs_expr (xe_append (xv 1) (xa_cons (xe_lc rfl sc__law_singles_right.nd (xi_list (xv 0)) (own := [("error", 2)]) (blkOk_by (N := N__law_singles_right) (sc := defScope (top 28)) (by decide +kernel)) (fun _ _ _ _ _ => xgw_name sc__law_singles_right.nd) (fun _ _ _ _ _ => xts_nil) (fun _ _ _ _ _ => xe_isC T.is_InvalidStep T.b_isinstance (xa_cons (xv 2) (xa_cons (xe_cls T.is_InvalidStep.has) (xa_nil))))) (xa_nil)))) (xss_cons (xs_expr (xe_append (xv 1) (xa_cons (xe_lc rfl sc__law_singles_right.nd (xi_list (xv 0)) (own := [("error", 2)]) (blkOk_by (N := N__law_singles_right) (sc := defScope (top 28)) (by decide +kernel)) (fun _ _ _ _ _ => xgw_name sc__law_singles_right.nd) (fun _ _ _ _ _ => xts_nil) (fun _ _ _ _ _ => xe_isC T.is_InvalidGrowth T.b_isinstance (xa_cons (xv 2) (xa_cons (xe_cls T.is_InvalidGrowth.has) (xa_nil))))) (xa_nil)))) (xss_cons (xs_expr (xe_append (xv 1) (xa_cons (xe_lc rfl sc__law_singles_right.nd (xi_list (xv 0)) (own := [("error", 2)]) (blkOk_by (N := N__law_singles_right) (sc := defScope (top 28)) (by decide +kernel)) (fun _ _ _ _ _ => xgw_name sc__law_singles_right.nd) (fun _ _ _ _ _ => xts_nil) (fun _ _ _ _ _ => xe_isC T.is_InvalidPart T.b_isinstance (xa_cons (xv 2) (xa_cons (xe_cls T.is_InvalidPart.has) (xa_nil))))) (xa_nil)))) (xss_cons (xs_expr (xe_append (xv 1) (xa_cons (xe_lc rfl sc__law_singles_right.nd (xi_list (xv 0)) (own := [("error", 2)]) (blkOk_by (N := N__law_singles_right) (sc := defScope (top 28)) (by decide +kernel)) (fun _ _ _ _ _ => xgw_name sc__law_singles_right.nd) (fun _ _ _ _ _ => xts_nil) (fun _ _ _ _ _ => xe_isC T.is_InvalidDrawing T.b_isinstance (xa_cons (xv 2) (xa_cons (xe_cls T.is_InvalidDrawing.has) (xa_nil))))) (xa_nil)))) (xss_cons (xs_expr (xe_append (xv 1) (xa_cons (xe_lc rfl sc__law_singles_right.nd (xi_list (xv 0)) (own := [("error", 2)]) (blkOk_by (N := N__law_singles_right) (sc := defScope (top 28)) (by decide +kernel)) (fun _ _ _ _ _ => xgw_name sc__law_singles_right.nd) (fun _ _ _ _ _ => xts_nil) (fun _ _ _ _ _ => xe_isC T.is_InvalidModel T.b_isinstance (xa_cons (xv 2) (xa_cons (xe_cls T.is_InvalidModel.has) (xa_nil))))) (xa_nil)))) (xss_cons (xs_expr (xe_append (xv 1) (xa_cons (xe_lc rfl sc__law_singles_right.nd (xi_list (xv 0)) (own := [("error", 2)]) (blkOk_by (N := N__law_singles_right) (sc := defScope (top 28)) (by decide +kernel)) (fun _ _ _ _ _ => xgw_name sc__law_singles_right.nd) (fun _ _ _ _ _ => xts_nil) (fun _ _ _ _ _ => xe_isC T.is_InvalidOperation T.b_isinstance (xa_cons (xv 2) (xa_cons (xe_cls T.is_InvalidOperation.has) (xa_nil))))) (xa_nil)))) (xss_cons (xs_if (xt_ne (hr) (xe_lc rfl sc__law_singles_right.nd (xi_list (xv 0)) (own := [("error", 2)]) (blkOk_by (N := N__law_singles_right) (sc := defScope (top 28)) (by decide +kernel)) (fun _ _ _ _ _ => xgw_name sc__law_singles_right.nd) (fun _ _ _ _ _ => xts_nil) (fun _ _ _ _ _ => xe_isC T.is_ParseError T.b_isinstance (xa_cons (xv 2) (xa_cons (xe_cls T.is_ParseError.has) (xa_nil))))) (xe_mulB (xe_lst (xa_cons (xe_bl) (xa_nil))) (xe_int))) (xss_one (xs_ret (xe_bl))) (xss_nil)) (xss_one (xs_ret (xe_eq (hr) (xv 1) (xe_lc rfl sc__law_singles_right.nd (xi_range1 T.b_range (xa_cons (xe_int) (xa_nil))) (own := [("spot", 4)]) (blkOk_by (N := N__law_singles_right) (sc := defScope (top 28)) (by decide +kernel)) (fun _ _ _ _ _ => xgw_name sc__law_singles_right.nd) (fun _ _ _ _ _ => xts_nil) (fun _ _ _ _ _ => xe_lc rfl sc__law_singles_right.nd (xi_range1 T.b_range (xa_cons (xe_int) (xa_nil))) (own := [("other", 3)]) (blkOk_by (N := N__law_singles_right) (sc := _) (by rfl)) (fun _ _ _ _ _ => xgw_name sc__law_singles_right.nd) (fun _ _ _ _ _ => xts_nil) (fun _ _ _ _ _ => xe_eq (hr) (xv 4) (xv 3)))))))))))))))))
abbrev N_law : List Str := ["script", "spot", "dice", "word", "some", "turn"]
theorem sc_law : FnScope N_law ["script"] (defScope (top 29)) := ⟨rfl, rfl, rfl, by decide +kernel, rfl, by decide +kernel, by decide +kernel⟩
theorem ok_law {f : Addr} {fd : FuncData} (T : Txt P K mg) (D__law_dice : Def P w K mg base 1 "_law_dice" f__law_dice) (D__law_keepers_right : Def P w K mg base 3 "_law_keepers_right" f__law_keepers_right) (D__law_kinds_of : Def P w K mg base 1 "_law_kinds_of" f__law_kinds_of) (D__law_pick : Def P w K mg base 2 "_law_pick" f__law_pick) (D__law_roll : Def P w K mg base 1 "_law_roll" f__law_roll) (D__law_singles_right : Def P w K mg base 2 "_law_singles_right" f__law_singles_right) (F : Fun K "law" "law" (top 29) f fd) : FnG P w K mg base (L2.CX P w) 4 f fd ["script"] (spM w K mg f_law) :=
  fn_okM (N := N_law) F sc_law fun cdv A outer s H E hr hG => xss_cons (xs_for (passes_of rfl) rfl (xi_range1 T.b_range (xa_cons (xe_max2 rfl T.b_max (xa_cons (xe_int) (xa_cons (xe_min2 rfl T.b_min (xa_cons (xe_int) (xa_cons (xe_lenB T.b_len (xa_cons (xv 0) (xa_nil))) (xa_nil)))) (xa_nil)))) (xa_nil))) (xg_name (i := 1) sc_law.nd) (xss_cons (xs_set (i := 2) sc_law.nd (xe_call D__law_dice (hr.mono (by decide)) hG (takes_of rfl rfl rfl rfl) (xa_cons (xv 0) (xa_cons (xv 1) (xa_nil))))) (xss_cons (xs_set (i := 3) sc_law.nd (xe_join (xe_str (y := [])) (xa_cons (xe_lc rfl sc_law.nd (xi_range1 T.b_range (xa_cons (xe_call D__law_roll (hr.mono (by decide)) hG (takes_of rfl rfl rfl rfl) (xa_cons (xv 2) (xa_cons (xe_int) (xa_nil)))) (xa_nil))) (own := [("turn", 5)]) (blkOk_by (N := N_law) (sc := defScope (top 29)) (by decide +kernel)) (fun _ _ _ _ _ => xgw_name sc_law.nd) (fun _ _ _ _ _ => xts_nil) (fun _ _ _ _ _ => xe_call D__law_pick (hr.mono (by decide)) hG (takes0) (xa_cons (xv 2) (xa_cons (xe_str (y := [97, 98, 99, 122, 95, 32, 49])) (xa_nil))))) (xa_nil)))) (xss_cons (xs_set (i := 4) sc_law.nd (xe_lst (xa_cons (xv 3) (xa_cons (xe_call D__law_roll (hr.mono (by decide)) hG (takes_of rfl rfl rfl rfl) (xa_cons (xv 2) (xa_cons (xe_pow (xe_int) (xe_int)) (xa_nil)))) (xa_cons (xe_sub (xe_int) (xe_call D__law_roll (hr.mono (by decide)) hG (takes_of rfl rfl rfl rfl) (xa_cons (xv 2) (xa_cons (xe_int) (xa_nil))))) (xa_cons (xe_non) (xa_cons (xe_bl) (xa_cons (xe_tup (xa_cons (xv 3) (xa_cons (xe_int) (xa_nil)))) (xa_cons (xe_lst (xa_cons (xv 3) (xa_nil))) (xa_cons (xe_dct (.cons (xv 3) (xe_int) (.nil))) (xa_cons (xe_tup (xa_cons (xe_tup (xa_nil)) (xa_nil))) (xa_cons (xe_str (y := [])) (xa_nil))))))))))))) (xss_one (xs_for (passes_of rfl) rfl (xi_range1 T.b_range (xa_cons (xe_int) (xa_nil))) (xg_name (i := 5) sc_law.nd) (xss_one (xs_if (xt_not (xt_val (xe_call D__law_keepers_right (hr.mono (by decide)) hG (takes_of rfl rfl rfl rfl) (xa_cons (xe_call D__law_pick (hr.mono (by decide)) hG (takes_of rfl rfl rfl rfl) (xa_cons (xv 2) (xa_cons (xv 4) (xa_nil)))) (xa_nil))))) (xss_one (xs_ret (xe_bl))) (xss_nil))))))))) (xss_one (xs_ret (xe_and (xe_call0 D__law_singles_right (hr.mono (by decide)) hG (takes_of rfl rfl rfl rfl)) (xe_one (xe_eq (hr) (xe_call D__law_kinds_of (hr.mono (by decide)) hG (takes_of rfl rfl rfl rfl) (xa_cons (xe_err0 T.e_WebError) (xa_nil))) (xe_lst (xa_cons (xe_str (y := [119, 101, 98])) (xa_cons (xe_str (y := [118, 97, 108, 117, 101])) (xa_nil)))))))))
set_option linter.unusedVariables false in
theorem all_mk {l : PySem.W.OpenLaw} {w : World} {K : PySem.W.Frag} {h : Heap} {mg : Str → Option Value} {fa f0 f1 f2 f3 f4 f5 f6 f7 f8 f9 : Addr} (X : K.In h) (G : h.Ns mainGlobals mg) (hfa : mg "law" = some (.ref fa))
    {od0 an0 od1 an1 od2 an2 od3 an3 od4 an4 od5 an5 od6 an6 od7 an7 od8 an8 od9 an9 : Option Addr} {sl0 sl1 sl2 sl3 sl4 sl5 sl6 sl7 sl8 sl9 : Array (Option Value)} {oc0 kV0 dc0 pm0 cd0 ct0 oc1 kV1 dc1 pm1 cd1 ct1 oc2 kV2 dc2 pm2 cd2 ct2 oc3 kV3 dc3 pm3 cd3 ct3 oc4 kV4 dc4 pm4 cd4 ct4 oc5 kV5 dc5 pm5 cd5 ct5 oc6 kV6 dc6 pm6 cd6 ct6 oc7 kV7 dc7 pm7 cd7 ct7 oc8 kV8 dc8 pm8 cd8 ct8 oc9 kV9 dc9 pm9 cd9 ct9 : Value} {E_InvalidDrawing E_InvalidGrowth E_InvalidModel E_InvalidNumber E_InvalidOperation E_InvalidPart E_InvalidPlace E_InvalidRoute E_InvalidStep E_InvalidTie E_InvalidWeb E_NothingToUndo E_ParseError E_Parted E_Refused E_TooMany E_UnknownName E_WebError : Addr} {fI_InvalidNumber cc_InvalidNumber cda_InvalidNumber fI_NothingToUndo cc_NothingToUndo cda_NothingToUndo fI_ParseError cc_ParseError cda_ParseError fI_Parted cc_Parted cda_Parted fI_Refused cc_Refused cda_Refused fI_TooMany cc_TooMany cda_TooMany fI_UnknownName cc_UnknownName cda_UnknownName : Addr} {od_InvalidNumber cdd_InvalidNumber cld_InvalidNumber an_InvalidNumber od_NothingToUndo cdd_NothingToUndo cld_NothingToUndo an_NothingToUndo od_ParseError cdd_ParseError cld_ParseError an_ParseError od_Parted cdd_Parted cld_Parted an_Parted od_Refused cdd_Refused cld_Refused an_Refused od_TooMany cdd_TooMany cld_TooMany an_TooMany od_UnknownName cdd_UnknownName cld_UnknownName an_UnknownName : Option Addr} {osl_InvalidNumber ccs_InvalidNumber csl_InvalidNumber osl_NothingToUndo ccs_NothingToUndo csl_NothingToUndo osl_ParseError ccs_ParseError csl_ParseError osl_Parted ccs_Parted csl_Parted osl_Refused ccs_Refused csl_Refused osl_TooMany ccs_TooMany csl_TooMany osl_UnknownName ccs_UnknownName csl_UnknownName : Array (Option Value)} {kV_InvalidNumber doc_InvalidNumber pm_InvalidNumber ct_InvalidNumber ccl_InvalidNumber cl_InvalidNumber kV_NothingToUndo doc_NothingToUndo pm_NothingToUndo ct_NothingToUndo ccl_NothingToUndo cl_NothingToUndo kV_ParseError doc_ParseError pm_ParseError ct_ParseError ccl_ParseError cl_ParseError kV_Parted doc_Parted pm_Parted ct_Parted ccl_Parted cl_Parted kV_Refused doc_Refused pm_Refused ct_Refused ccl_Refused cl_Refused kV_TooMany doc_TooMany pm_TooMany ct_TooMany ccl_TooMany cl_TooMany kV_UnknownName doc_UnknownName pm_UnknownName ct_UnknownName ccl_UnknownName cl_UnknownName : Value} {vs_InvalidNumber vs_NothingToUndo vs_ParseError vs_Parted vs_Refused vs_TooMany vs_UnknownName : Array Value} {file_InvalidNumber file_NothingToUndo file_ParseError file_Parted file_Refused file_TooMany file_UnknownName : Str} {tf_InvalidNumber tf_NothingToUndo tf_ParseError tf_Parted tf_Refused tf_TooMany tf_UnknownName : Tok}
    (a0 : PySem.W.nsIn K mainGlobals "_law_dice" = some (some (.ref f0))) (l0 : K.lookup f0 = some ⟨oc0, od0, .func (PySem.W.fnOf "_law_dice" "_law_dice" (defArgs (top 20)) (defBody (top 20)) (defScope (top 20)) .none kV0 dc0 pm0 an0 cd0 ct0), sl0⟩) (c0 : PySem.W.codeIn K cd0 "_law_dice" = true) (k0 : PySem.W.keepIn K (.ref f0) = true)
    (a1 : PySem.W.nsIn K mainGlobals "_law_roll" = some (some (.ref f1))) (l1 : K.lookup f1 = some ⟨oc1, od1, .func (PySem.W.fnOf "_law_roll" "_law_roll" (defArgs (top 21)) (defBody (top 21)) (defScope (top 21)) .none kV1 dc1 pm1 an1 cd1 ct1), sl1⟩) (c1 : PySem.W.codeIn K cd1 "_law_roll" = true) (k1 : PySem.W.keepIn K (.ref f1) = true)
    (a2 : PySem.W.nsIn K mainGlobals "_law_pick" = some (some (.ref f2))) (l2 : K.lookup f2 = some ⟨oc2, od2, .func (PySem.W.fnOf "_law_pick" "_law_pick" (defArgs (top 22)) (defBody (top 22)) (defScope (top 22)) .none kV2 dc2 pm2 an2 cd2 ct2), sl2⟩) (c2 : PySem.W.codeIn K cd2 "_law_pick" = true) (k2 : PySem.W.keepIn K (.ref f2) = true)
    (a3 : PySem.W.nsIn K mainGlobals "_law_plain_errors" = some (some (.ref f3))) (l3 : K.lookup f3 = some ⟨oc3, od3, .func (PySem.W.fnOf "_law_plain_errors" "_law_plain_errors" (defArgs (top 23)) (defBody (top 23)) (defScope (top 23)) .none kV3 dc3 pm3 an3 cd3 ct3), sl3⟩) (c3 : PySem.W.codeIn K cd3 "_law_plain_errors" = true) (k3 : PySem.W.keepIn K (.ref f3) = true)
    (a4 : PySem.W.nsIn K mainGlobals "_law_kinds_of" = some (some (.ref f4))) (l4 : K.lookup f4 = some ⟨oc4, od4, .func (PySem.W.fnOf "_law_kinds_of" "_law_kinds_of" (defArgs (top 24)) (defBody (top 24)) (defScope (top 24)) .none kV4 dc4 pm4 an4 cd4 ct4), sl4⟩) (c4 : PySem.W.codeIn K cd4 "_law_kinds_of" = true) (k4 : PySem.W.keepIn K (.ref f4) = true)
    (a5 : PySem.W.nsIn K mainGlobals "_law_raised" = some (some (.ref f5))) (l5 : K.lookup f5 = some ⟨oc5, od5, .func (PySem.W.fnOf "_law_raised" "_law_raised" (defArgs (top 25)) (defBody (top 25)) (defScope (top 25)) .none kV5 dc5 pm5 an5 cd5 ct5), sl5⟩) (c5 : PySem.W.codeIn K cd5 "_law_raised" = true) (k5 : PySem.W.keepIn K (.ref f5) = true)
    (a6 : PySem.W.nsIn K mainGlobals "_law_word_of" = some (some (.ref f6))) (l6 : K.lookup f6 = some ⟨oc6, od6, .func (PySem.W.fnOf "_law_word_of" "_law_word_of" (defArgs (top 26)) (defBody (top 26)) (defScope (top 26)) .none kV6 dc6 pm6 an6 cd6 ct6), sl6⟩) (c6 : PySem.W.codeIn K cd6 "_law_word_of" = true) (k6 : PySem.W.keepIn K (.ref f6) = true)
    (a7 : PySem.W.nsIn K mainGlobals "_law_keepers_right" = some (some (.ref f7))) (l7 : K.lookup f7 = some ⟨oc7, od7, .func (PySem.W.fnOf "_law_keepers_right" "_law_keepers_right" (defArgs (top 27)) (defBody (top 27)) (defScope (top 27)) .none kV7 dc7 pm7 an7 cd7 ct7), sl7⟩) (c7 : PySem.W.codeIn K cd7 "_law_keepers_right" = true) (k7 : PySem.W.keepIn K (.ref f7) = true)
    (a8 : PySem.W.nsIn K mainGlobals "_law_singles_right" = some (some (.ref f8))) (l8 : K.lookup f8 = some ⟨oc8, od8, .func (PySem.W.fnOf "_law_singles_right" "_law_singles_right" (defArgs (top 28)) (defBody (top 28)) (defScope (top 28)) .none kV8 dc8 pm8 an8 cd8 ct8), sl8⟩) (c8 : PySem.W.codeIn K cd8 "_law_singles_right" = true) (k8 : PySem.W.keepIn K (.ref f8) = true)
    (a9 : PySem.W.nsIn K mainGlobals "law" = some (some (.ref f9))) (l9 : K.lookup f9 = some ⟨oc9, od9, .func (PySem.W.fnOf "law" "law" (defArgs (top 29)) (defBody (top 29)) (defScope (top 29)) .none kV9 dc9 pm9 an9 cd9 ct9), sl9⟩) (c9 : PySem.W.codeIn K cd9 "law" = true) (k9 : PySem.W.keepIn K (.ref f9) = true)
    (z_ArithmeticError : PySem.W.nsIn K mainGlobals "ArithmeticError" = some none) (z_IndexError : PySem.W.nsIn K mainGlobals "IndexError" = some none) (z_KeyError : PySem.W.nsIn K mainGlobals "KeyError" = some none) (z_LookupError : PySem.W.nsIn K mainGlobals "LookupError" = some none) (z_OverflowError : PySem.W.nsIn K mainGlobals "OverflowError" = some none) (z_RuntimeError : PySem.W.nsIn K mainGlobals "RuntimeError" = some none) (z_ValueError : PySem.W.nsIn K mainGlobals "ValueError" = some none) (z_abs : PySem.W.nsIn K mainGlobals "abs" = some none) (z_int : PySem.W.nsIn K mainGlobals "int" = some none) (z_isinstance : PySem.W.nsIn K mainGlobals "isinstance" = some none) (z_len : PySem.W.nsIn K mainGlobals "len" = some none) (z_max : PySem.W.nsIn K mainGlobals "max" = some none) (z_min : PySem.W.nsIn K mainGlobals "min" = some none) (z_range : PySem.W.nsIn K mainGlobals "range" = some none) (z_repr : PySem.W.nsIn K mainGlobals "repr" = some none) (z_super : PySem.W.nsIn K mainGlobals "super" = some none) (ea_InvalidDrawing : PySem.W.nsIn K mainGlobals "InvalidDrawing" = some (some (.ref E_InvalidDrawing))) (eq_InvalidDrawing : PySem.W.excIn K E_InvalidDrawing [.type "ValueError", .type "Exception", .type "BaseException", .type "object"] "ValueError.__new__" = true) (ek_InvalidDrawing : PySem.W.keepIn K (.ref E_InvalidDrawing) = true) (es_InvalidDrawing : PySem.W.subIn K (.ref E_InvalidDrawing) (.type "BaseException") = some true) (et_InvalidDrawing : PySem.W.typeIn K (.ref E_InvalidDrawing) = some (.type "type")) (ea_InvalidGrowth : PySem.W.nsIn K mainGlobals "InvalidGrowth" = some (some (.ref E_InvalidGrowth))) (eq_InvalidGrowth : PySem.W.excIn K E_InvalidGrowth [.type "ValueError", .type "Exception", .type "BaseException", .type "object"] "ValueError.__new__" = true) (ek_InvalidGrowth : PySem.W.keepIn K (.ref E_InvalidGrowth) = true) (es_InvalidGrowth : PySem.W.subIn K (.ref E_InvalidGrowth) (.type "BaseException") = some true) (et_InvalidGrowth : PySem.W.typeIn K (.ref E_InvalidGrowth) = some (.type "type")) (ea_InvalidModel : PySem.W.nsIn K mainGlobals "InvalidModel" = some (some (.ref E_InvalidModel))) (eq_InvalidModel : PySem.W.excIn K E_InvalidModel [.type "ValueError", .type "Exception", .type "BaseException", .type "object"] "ValueError.__new__" = true) (ek_InvalidModel : PySem.W.keepIn K (.ref E_InvalidModel) = true) (es_InvalidModel : PySem.W.subIn K (.ref E_InvalidModel) (.type "BaseException") = some true) (et_InvalidModel : PySem.W.typeIn K (.ref E_InvalidModel) = some (.type "type")) (ea_InvalidOperation : PySem.W.nsIn K mainGlobals "InvalidOperation" = some (some (.ref E_InvalidOperation))) (eq_InvalidOperation : PySem.W.excIn K E_InvalidOperation [.type "ValueError", .type "Exception", .type "BaseException", .type "object"] "ValueError.__new__" = true) (ek_InvalidOperation : PySem.W.keepIn K (.ref E_InvalidOperation) = true) (es_InvalidOperation : PySem.W.subIn K (.ref E_InvalidOperation) (.type "BaseException") = some true) (et_InvalidOperation : PySem.W.typeIn K (.ref E_InvalidOperation) = some (.type "type")) (ea_InvalidPart : PySem.W.nsIn K mainGlobals "InvalidPart" = some (some (.ref E_InvalidPart))) (eq_InvalidPart : PySem.W.excIn K E_InvalidPart [.type "ValueError", .type "Exception", .type "BaseException", .type "object"] "ValueError.__new__" = true) (ek_InvalidPart : PySem.W.keepIn K (.ref E_InvalidPart) = true) (es_InvalidPart : PySem.W.subIn K (.ref E_InvalidPart) (.type "BaseException") = some true) (et_InvalidPart : PySem.W.typeIn K (.ref E_InvalidPart) = some (.type "type")) (ea_InvalidPlace : PySem.W.nsIn K mainGlobals "InvalidPlace" = some (some (.ref E_InvalidPlace))) (eq_InvalidPlace : PySem.W.excIn K E_InvalidPlace [.type "ValueError", .type "Exception", .type "BaseException", .type "object"] "ValueError.__new__" = true) (ek_InvalidPlace : PySem.W.keepIn K (.ref E_InvalidPlace) = true) (es_InvalidPlace : PySem.W.subIn K (.ref E_InvalidPlace) (.type "BaseException") = some true) (et_InvalidPlace : PySem.W.typeIn K (.ref E_InvalidPlace) = some (.type "type")) (ea_InvalidRoute : PySem.W.nsIn K mainGlobals "InvalidRoute" = some (some (.ref E_InvalidRoute))) (eq_InvalidRoute : PySem.W.excIn K E_InvalidRoute [.type "ValueError", .type "Exception", .type "BaseException", .type "object"] "ValueError.__new__" = true) (ek_InvalidRoute : PySem.W.keepIn K (.ref E_InvalidRoute) = true) (es_InvalidRoute : PySem.W.subIn K (.ref E_InvalidRoute) (.type "BaseException") = some true) (et_InvalidRoute : PySem.W.typeIn K (.ref E_InvalidRoute) = some (.type "type")) (ea_InvalidStep : PySem.W.nsIn K mainGlobals "InvalidStep" = some (some (.ref E_InvalidStep))) (eq_InvalidStep : PySem.W.excIn K E_InvalidStep [.type "ValueError", .type "Exception", .type "BaseException", .type "object"] "ValueError.__new__" = true) (ek_InvalidStep : PySem.W.keepIn K (.ref E_InvalidStep) = true) (es_InvalidStep : PySem.W.subIn K (.ref E_InvalidStep) (.type "BaseException") = some true) (et_InvalidStep : PySem.W.typeIn K (.ref E_InvalidStep) = some (.type "type")) (ea_InvalidTie : PySem.W.nsIn K mainGlobals "InvalidTie" = some (some (.ref E_InvalidTie))) (eq_InvalidTie : PySem.W.excIn K E_InvalidTie [.type "ValueError", .type "Exception", .type "BaseException", .type "object"] "ValueError.__new__" = true) (ek_InvalidTie : PySem.W.keepIn K (.ref E_InvalidTie) = true) (es_InvalidTie : PySem.W.subIn K (.ref E_InvalidTie) (.type "BaseException") = some true) (et_InvalidTie : PySem.W.typeIn K (.ref E_InvalidTie) = some (.type "type")) (ea_InvalidWeb : PySem.W.nsIn K mainGlobals "InvalidWeb" = some (some (.ref E_InvalidWeb))) (eq_InvalidWeb : PySem.W.excIn K E_InvalidWeb [.type "ValueError", .type "Exception", .type "BaseException", .type "object"] "ValueError.__new__" = true) (ek_InvalidWeb : PySem.W.keepIn K (.ref E_InvalidWeb) = true) (es_InvalidWeb : PySem.W.subIn K (.ref E_InvalidWeb) (.type "BaseException") = some true) (et_InvalidWeb : PySem.W.typeIn K (.ref E_InvalidWeb) = some (.type "type")) (ea_WebError : PySem.W.nsIn K mainGlobals "WebError" = some (some (.ref E_WebError))) (eq_WebError : PySem.W.excIn K E_WebError [.type "ValueError", .type "Exception", .type "BaseException", .type "object"] "ValueError.__new__" = true) (ek_WebError : PySem.W.keepIn K (.ref E_WebError) = true) (es_WebError : PySem.W.subIn K (.ref E_WebError) (.type "BaseException") = some true) (et_WebError : PySem.W.typeIn K (.ref E_WebError) = some (.type "type")) (ea_InvalidNumber : PySem.W.nsIn K mainGlobals "InvalidNumber" = some (some (.ref E_InvalidNumber))) (ek_InvalidNumber : PySem.W.keepIn K (.ref E_InvalidNumber) = true) (es_InvalidNumber : PySem.W.subIn K (.ref E_InvalidNumber) (.type "BaseException") = some true) (et_InvalidNumber : PySem.W.typeIn K (.ref E_InvalidNumber) = some (.type "type")) (eb_InvalidNumber : PySem.W.excInitIn K E_InvalidNumber [.type "IndexError", .type "LookupError", .type "Exception", .type "BaseException", .type "object"] "IndexError.__new__" = true) (ih_InvalidNumber : PySem.W.findIn K (.ref E_InvalidNumber) "__init__" = some (some (.ref fI_InvalidNumber))) (io_InvalidNumber : K.lookup fI_InvalidNumber = some ⟨.type "function", od_InvalidNumber, .func (PySem.W.ksFn "__init__" "InvalidNumber.__init__" (defArgs (inClass (top 15) 0)) (defBody (inClass (top 15) 0)) (defScope (inClass (top 15) 0)) .none kV_InvalidNumber doc_InvalidNumber pm_InvalidNumber an_InvalidNumber (.ref cda_InvalidNumber) ct_InvalidNumber cc_InvalidNumber), osl_InvalidNumber⟩) (ic_InvalidNumber : PySem.W.codeIn K (.ref cda_InvalidNumber) "InvalidNumber.__init__" = true) (iv_InvalidNumber : K.lookup cda_InvalidNumber = some ⟨ccl_InvalidNumber, cdd_InvalidNumber, .fields vs_InvalidNumber, ccs_InvalidNumber⟩) (iw_InvalidNumber : vs_InvalidNumber[2]? = some (.str file_InvalidNumber tf_InvalidNumber)) (if_InvalidNumber : ((l.prog.main.file : Str) == file_InvalidNumber) = true) (il_InvalidNumber : K.lookup cc_InvalidNumber = some ⟨cl_InvalidNumber, cld_InvalidNumber, .cell (some (.ref E_InvalidNumber)), csl_InvalidNumber⟩) (ir_InvalidNumber : PySem.W.mroIn K E_InvalidNumber (.ref E_InvalidNumber) = some true) (im_InvalidNumber : PySem.W.ks_superIn K E_InvalidNumber E_InvalidNumber "__init__" = some (some (.builtin "IndexError.__init__"))) (iB_InvalidNumber : PySem.W.subIn K (.ref E_InvalidNumber) (.type "IndexError") = some true) (ia_InvalidNumber : PySem.W.findIn K (.ref E_InvalidNumber) "__setattr__" = some (some (.builtin "object.__setattr__"))) (ip_InvalidNumber : PySem.W.excOver K E_InvalidNumber [.type "IndexError", .type "LookupError", .type "Exception", .type "BaseException", .type "object"] = true) (it_InvalidNumber : PySem.W.takerIn K E_InvalidNumber "value" = some none) (id_InvalidNumber : PySem.W.hasDictIn K E_InvalidNumber = true) (ea_NothingToUndo : PySem.W.nsIn K mainGlobals "NothingToUndo" = some (some (.ref E_NothingToUndo))) (ek_NothingToUndo : PySem.W.keepIn K (.ref E_NothingToUndo) = true) (es_NothingToUndo : PySem.W.subIn K (.ref E_NothingToUndo) (.type "BaseException") = some true) (et_NothingToUndo : PySem.W.typeIn K (.ref E_NothingToUndo) = some (.type "type")) (eb_NothingToUndo : PySem.W.excInitIn K E_NothingToUndo [.type "RuntimeError", .type "Exception", .type "BaseException", .type "object"] "RuntimeError.__new__" = true) (ih_NothingToUndo : PySem.W.findIn K (.ref E_NothingToUndo) "__init__" = some (some (.ref fI_NothingToUndo))) (io_NothingToUndo : K.lookup fI_NothingToUndo = some ⟨.type "function", od_NothingToUndo, .func (PySem.W.ksFn "__init__" "NothingToUndo.__init__" (defArgs (inClass (top 16) 0)) (defBody (inClass (top 16) 0)) (defScope (inClass (top 16) 0)) .none kV_NothingToUndo doc_NothingToUndo pm_NothingToUndo an_NothingToUndo (.ref cda_NothingToUndo) ct_NothingToUndo cc_NothingToUndo), osl_NothingToUndo⟩) (ic_NothingToUndo : PySem.W.codeIn K (.ref cda_NothingToUndo) "NothingToUndo.__init__" = true) (iv_NothingToUndo : K.lookup cda_NothingToUndo = some ⟨ccl_NothingToUndo, cdd_NothingToUndo, .fields vs_NothingToUndo, ccs_NothingToUndo⟩) (iw_NothingToUndo : vs_NothingToUndo[2]? = some (.str file_NothingToUndo tf_NothingToUndo)) (if_NothingToUndo : ((l.prog.main.file : Str) == file_NothingToUndo) = true) (il_NothingToUndo : K.lookup cc_NothingToUndo = some ⟨cl_NothingToUndo, cld_NothingToUndo, .cell (some (.ref E_NothingToUndo)), csl_NothingToUndo⟩) (ir_NothingToUndo : PySem.W.mroIn K E_NothingToUndo (.ref E_NothingToUndo) = some true) (im_NothingToUndo : PySem.W.ks_superIn K E_NothingToUndo E_NothingToUndo "__init__" = some (some (.builtin "RuntimeError.__init__"))) (iB_NothingToUndo : PySem.W.subIn K (.ref E_NothingToUndo) (.type "RuntimeError") = some true) (ia_NothingToUndo : PySem.W.findIn K (.ref E_NothingToUndo) "__setattr__" = some (some (.builtin "object.__setattr__"))) (ip_NothingToUndo : PySem.W.excOver K E_NothingToUndo [.type "RuntimeError", .type "Exception", .type "BaseException", .type "object"] = true) (it_NothingToUndo : PySem.W.takerIn K E_NothingToUndo "many" = some none) (id_NothingToUndo : PySem.W.hasDictIn K E_NothingToUndo = true) (ea_ParseError : PySem.W.nsIn K mainGlobals "ParseError" = some (some (.ref E_ParseError))) (ek_ParseError : PySem.W.keepIn K (.ref E_ParseError) = true) (es_ParseError : PySem.W.subIn K (.ref E_ParseError) (.type "BaseException") = some true) (et_ParseError : PySem.W.typeIn K (.ref E_ParseError) = some (.type "type")) (eb_ParseError : PySem.W.excInitIn K E_ParseError [.type "ValueError", .type "Exception", .type "BaseException", .type "object"] "ValueError.__new__" = true) (ih_ParseError : PySem.W.findIn K (.ref E_ParseError) "__init__" = some (some (.ref fI_ParseError))) (io_ParseError : K.lookup fI_ParseError = some ⟨.type "function", od_ParseError, .func (PySem.W.ksFn "__init__" "ParseError.__init__" (defArgs (inClass (top 12) 0)) (defBody (inClass (top 12) 0)) (defScope (inClass (top 12) 0)) .none kV_ParseError doc_ParseError pm_ParseError an_ParseError (.ref cda_ParseError) ct_ParseError cc_ParseError), osl_ParseError⟩) (ic_ParseError : PySem.W.codeIn K (.ref cda_ParseError) "ParseError.__init__" = true) (iv_ParseError : K.lookup cda_ParseError = some ⟨ccl_ParseError, cdd_ParseError, .fields vs_ParseError, ccs_ParseError⟩) (iw_ParseError : vs_ParseError[2]? = some (.str file_ParseError tf_ParseError)) (if_ParseError : ((l.prog.main.file : Str) == file_ParseError) = true) (il_ParseError : K.lookup cc_ParseError = some ⟨cl_ParseError, cld_ParseError, .cell (some (.ref E_ParseError)), csl_ParseError⟩) (ir_ParseError : PySem.W.mroIn K E_ParseError (.ref E_ParseError) = some true) (im_ParseError : PySem.W.ks_superIn K E_ParseError E_ParseError "__init__" = some (some (.builtin "ValueError.__init__"))) (iB_ParseError : PySem.W.subIn K (.ref E_ParseError) (.type "ValueError") = some true) (ia_ParseError : PySem.W.findIn K (.ref E_ParseError) "__setattr__" = some (some (.builtin "object.__setattr__"))) (ip_ParseError : PySem.W.excOver K E_ParseError [.type "ValueError", .type "Exception", .type "BaseException", .type "object"] = true) (it_ParseError : PySem.W.takerIn K E_ParseError "number" = some none) (id_ParseError : PySem.W.hasDictIn K E_ParseError = true) (ea_Parted : PySem.W.nsIn K mainGlobals "Parted" = some (some (.ref E_Parted))) (ek_Parted : PySem.W.keepIn K (.ref E_Parted) = true) (es_Parted : PySem.W.subIn K (.ref E_Parted) (.type "BaseException") = some true) (et_Parted : PySem.W.typeIn K (.ref E_Parted) = some (.type "type")) (eb_Parted : PySem.W.excInitIn K E_Parted [.type "LookupError", .type "Exception", .type "BaseException", .type "object"] "LookupError.__new__" = true) (ih_Parted : PySem.W.findIn K (.ref E_Parted) "__init__" = some (some (.ref fI_Parted))) (io_Parted : K.lookup fI_Parted = some ⟨.type "function", od_Parted, .func (PySem.W.ksFn "__init__" "Parted.__init__" (defArgs (inClass (top 14) 0)) (defBody (inClass (top 14) 0)) (defScope (inClass (top 14) 0)) .none kV_Parted doc_Parted pm_Parted an_Parted (.ref cda_Parted) ct_Parted cc_Parted), osl_Parted⟩) (ic_Parted : PySem.W.codeIn K (.ref cda_Parted) "Parted.__init__" = true) (iv_Parted : K.lookup cda_Parted = some ⟨ccl_Parted, cdd_Parted, .fields vs_Parted, ccs_Parted⟩) (iw_Parted : vs_Parted[2]? = some (.str file_Parted tf_Parted)) (if_Parted : ((l.prog.main.file : Str) == file_Parted) = true) (il_Parted : K.lookup cc_Parted = some ⟨cl_Parted, cld_Parted, .cell (some (.ref E_Parted)), csl_Parted⟩) (ir_Parted : PySem.W.mroIn K E_Parted (.ref E_Parted) = some true) (im_Parted : PySem.W.ks_superIn K E_Parted E_Parted "__init__" = some (some (.builtin "LookupError.__init__"))) (iB_Parted : PySem.W.subIn K (.ref E_Parted) (.type "LookupError") = some true) (ia_Parted : PySem.W.findIn K (.ref E_Parted) "__setattr__" = some (some (.builtin "object.__setattr__"))) (ip_Parted : PySem.W.excOver K E_Parted [.type "LookupError", .type "Exception", .type "BaseException", .type "object"] = true) (it_Parted : PySem.W.takerIn K E_Parted "parting" = some none) (id_Parted : PySem.W.hasDictIn K E_Parted = true) (ea_Refused : PySem.W.nsIn K mainGlobals "Refused" = some (some (.ref E_Refused))) (ek_Refused : PySem.W.keepIn K (.ref E_Refused) = true) (es_Refused : PySem.W.subIn K (.ref E_Refused) (.type "BaseException") = some true) (et_Refused : PySem.W.typeIn K (.ref E_Refused) = some (.type "type")) (eb_Refused : PySem.W.excInitIn K E_Refused [.type "ArithmeticError", .type "Exception", .type "BaseException", .type "object"] "ArithmeticError.__new__" = true) (ih_Refused : PySem.W.findIn K (.ref E_Refused) "__init__" = some (some (.ref fI_Refused))) (io_Refused : K.lookup fI_Refused = some ⟨.type "function", od_Refused, .func (PySem.W.ksFn "__init__" "Refused.__init__" (defArgs (inClass (top 18) 0)) (defBody (inClass (top 18) 0)) (defScope (inClass (top 18) 0)) .none kV_Refused doc_Refused pm_Refused an_Refused (.ref cda_Refused) ct_Refused cc_Refused), osl_Refused⟩) (ic_Refused : PySem.W.codeIn K (.ref cda_Refused) "Refused.__init__" = true) (iv_Refused : K.lookup cda_Refused = some ⟨ccl_Refused, cdd_Refused, .fields vs_Refused, ccs_Refused⟩) (iw_Refused : vs_Refused[2]? = some (.str file_Refused tf_Refused)) (if_Refused : ((l.prog.main.file : Str) == file_Refused) = true) (il_Refused : K.lookup cc_Refused = some ⟨cl_Refused, cld_Refused, .cell (some (.ref E_Refused)), csl_Refused⟩) (ir_Refused : PySem.W.mroIn K E_Refused (.ref E_Refused) = some true) (im_Refused : PySem.W.ks_superIn K E_Refused E_Refused "__init__" = some (some (.builtin "ArithmeticError.__init__"))) (iB_Refused : PySem.W.subIn K (.ref E_Refused) (.type "ArithmeticError") = some true) (ia_Refused : PySem.W.findIn K (.ref E_Refused) "__setattr__" = some (some (.builtin "object.__setattr__"))) (ip_Refused : PySem.W.excOver K E_Refused [.type "ArithmeticError", .type "Exception", .type "BaseException", .type "object"] = true) (it_Refused : PySem.W.takerIn K E_Refused "pledge" = some none) (id_Refused : PySem.W.hasDictIn K E_Refused = true) (ea_TooMany : PySem.W.nsIn K mainGlobals "TooMany" = some (some (.ref E_TooMany))) (ek_TooMany : PySem.W.keepIn K (.ref E_TooMany) = true) (es_TooMany : PySem.W.subIn K (.ref E_TooMany) (.type "BaseException") = some true) (et_TooMany : PySem.W.typeIn K (.ref E_TooMany) = some (.type "type")) (eb_TooMany : PySem.W.excInitIn K E_TooMany [.type "OverflowError", .type "ArithmeticError", .type "Exception", .type "BaseException", .type "object"] "OverflowError.__new__" = true) (ih_TooMany : PySem.W.findIn K (.ref E_TooMany) "__init__" = some (some (.ref fI_TooMany))) (io_TooMany : K.lookup fI_TooMany = some ⟨.type "function", od_TooMany, .func (PySem.W.ksFn "__init__" "TooMany.__init__" (defArgs (inClass (top 17) 0)) (defBody (inClass (top 17) 0)) (defScope (inClass (top 17) 0)) .none kV_TooMany doc_TooMany pm_TooMany an_TooMany (.ref cda_TooMany) ct_TooMany cc_TooMany), osl_TooMany⟩) (ic_TooMany : PySem.W.codeIn K (.ref cda_TooMany) "TooMany.__init__" = true) (iv_TooMany : K.lookup cda_TooMany = some ⟨ccl_TooMany, cdd_TooMany, .fields vs_TooMany, ccs_TooMany⟩) (iw_TooMany : vs_TooMany[2]? = some (.str file_TooMany tf_TooMany)) (if_TooMany : ((l.prog.main.file : Str) == file_TooMany) = true) (il_TooMany : K.lookup cc_TooMany = some ⟨cl_TooMany, cld_TooMany, .cell (some (.ref E_TooMany)), csl_TooMany⟩) (ir_TooMany : PySem.W.mroIn K E_TooMany (.ref E_TooMany) = some true) (im_TooMany : PySem.W.ks_superIn K E_TooMany E_TooMany "__init__" = some (some (.builtin "OverflowError.__init__"))) (iB_TooMany : PySem.W.subIn K (.ref E_TooMany) (.type "OverflowError") = some true) (ia_TooMany : PySem.W.findIn K (.ref E_TooMany) "__setattr__" = some (some (.builtin "object.__setattr__"))) (ip_TooMany : PySem.W.excOver K E_TooMany [.type "OverflowError", .type "ArithmeticError", .type "Exception", .type "BaseException", .type "object"] = true) (it_TooMany : PySem.W.takerIn K E_TooMany "limit" = some none) (id_TooMany : PySem.W.hasDictIn K E_TooMany = true) (ea_UnknownName : PySem.W.nsIn K mainGlobals "UnknownName" = some (some (.ref E_UnknownName))) (ek_UnknownName : PySem.W.keepIn K (.ref E_UnknownName) = true) (es_UnknownName : PySem.W.subIn K (.ref E_UnknownName) (.type "BaseException") = some true) (et_UnknownName : PySem.W.typeIn K (.ref E_UnknownName) = some (.type "type")) (eb_UnknownName : PySem.W.excInitIn K E_UnknownName [.type "KeyError", .type "LookupError", .type "Exception", .type "BaseException", .type "object"] "LookupError.__new__" = true) (ih_UnknownName : PySem.W.findIn K (.ref E_UnknownName) "__init__" = some (some (.ref fI_UnknownName))) (io_UnknownName : K.lookup fI_UnknownName = some ⟨.type "function", od_UnknownName, .func (PySem.W.ksFn "__init__" "UnknownName.__init__" (defArgs (inClass (top 13) 0)) (defBody (inClass (top 13) 0)) (defScope (inClass (top 13) 0)) .none kV_UnknownName doc_UnknownName pm_UnknownName an_UnknownName (.ref cda_UnknownName) ct_UnknownName cc_UnknownName), osl_UnknownName⟩) (ic_UnknownName : PySem.W.codeIn K (.ref cda_UnknownName) "UnknownName.__init__" = true) (iv_UnknownName : K.lookup cda_UnknownName = some ⟨ccl_UnknownName, cdd_UnknownName, .fields vs_UnknownName, ccs_UnknownName⟩) (iw_UnknownName : vs_UnknownName[2]? = some (.str file_UnknownName tf_UnknownName)) (if_UnknownName : ((l.prog.main.file : Str) == file_UnknownName) = true) (il_UnknownName : K.lookup cc_UnknownName = some ⟨cl_UnknownName, cld_UnknownName, .cell (some (.ref E_UnknownName)), csl_UnknownName⟩) (ir_UnknownName : PySem.W.mroIn K E_UnknownName (.ref E_UnknownName) = some true) (im_UnknownName : PySem.W.ks_superIn K E_UnknownName E_UnknownName "__init__" = some (some (.builtin "KeyError.__init__"))) (iB_UnknownName : PySem.W.subIn K (.ref E_UnknownName) (.type "KeyError") = some true) (ia_UnknownName : PySem.W.findIn K (.ref E_UnknownName) "__setattr__" = some (some (.builtin "object.__setattr__"))) (ip_UnknownName : PySem.W.excOver K E_UnknownName [.type "KeyError", .type "LookupError", .type "Exception", .type "BaseException", .type "object"] = true) (it_UnknownName : PySem.W.takerIn K E_UnknownName "word" = some none) (id_UnknownName : PySem.W.hasDictIn K E_UnknownName = true) (p_any : PySem.W.nsIn K cStatics "thirdparty.any" = some none) (p_top : (l.prog.main.scope.names.lookup ("super" : Str)).isSome = false) (p_get : PySem.W.specialIn K (.builtin "object.__class__") "__get__" = some (some (.builtin "getset_descriptor.__get__"))) (p_tk : PySem.W.takesIn K (.builtin "object.__class__") = some true) (xg_InvalidDrawing : PySem.W.findIn K (.ref E_InvalidDrawing) "__getattribute__" = some (some (.builtin "BaseException.__getattribute__"))) (xk_InvalidDrawing : PySem.W.findIn K (.ref E_InvalidDrawing) "__getattr__" = some none) (xc_InvalidDrawing : PySem.W.findIn K (.ref E_InvalidDrawing) "__class__" = some (some (.builtin "object.__class__"))) (xm_InvalidDrawing : PySem.W.mroIn K E_InvalidDrawing (.type "object") = some true) (id_InvalidDrawing : PySem.W.hasDictIn K E_InvalidDrawing = true) (xg_InvalidGrowth : PySem.W.findIn K (.ref E_InvalidGrowth) "__getattribute__" = some (some (.builtin "BaseException.__getattribute__"))) (xk_InvalidGrowth : PySem.W.findIn K (.ref E_InvalidGrowth) "__getattr__" = some none) (xc_InvalidGrowth : PySem.W.findIn K (.ref E_InvalidGrowth) "__class__" = some (some (.builtin "object.__class__"))) (xm_InvalidGrowth : PySem.W.mroIn K E_InvalidGrowth (.type "object") = some true) (id_InvalidGrowth : PySem.W.hasDictIn K E_InvalidGrowth = true) (xg_InvalidModel : PySem.W.findIn K (.ref E_InvalidModel) "__getattribute__" = some (some (.builtin "BaseException.__getattribute__"))) (xk_InvalidModel : PySem.W.findIn K (.ref E_InvalidModel) "__getattr__" = some none) (xc_InvalidModel : PySem.W.findIn K (.ref E_InvalidModel) "__class__" = some (some (.builtin "object.__class__"))) (xm_InvalidModel : PySem.W.mroIn K E_InvalidModel (.type "object") = some true) (id_InvalidModel : PySem.W.hasDictIn K E_InvalidModel = true) (xg_InvalidNumber : PySem.W.findIn K (.ref E_InvalidNumber) "__getattribute__" = some (some (.builtin "BaseException.__getattribute__"))) (xk_InvalidNumber : PySem.W.findIn K (.ref E_InvalidNumber) "__getattr__" = some none) (xc_InvalidNumber : PySem.W.findIn K (.ref E_InvalidNumber) "__class__" = some (some (.builtin "object.__class__"))) (xm_InvalidNumber : PySem.W.mroIn K E_InvalidNumber (.type "object") = some true) (xg_InvalidOperation : PySem.W.findIn K (.ref E_InvalidOperation) "__getattribute__" = some (some (.builtin "BaseException.__getattribute__"))) (xk_InvalidOperation : PySem.W.findIn K (.ref E_InvalidOperation) "__getattr__" = some none) (xc_InvalidOperation : PySem.W.findIn K (.ref E_InvalidOperation) "__class__" = some (some (.builtin "object.__class__"))) (xm_InvalidOperation : PySem.W.mroIn K E_InvalidOperation (.type "object") = some true) (id_InvalidOperation : PySem.W.hasDictIn K E_InvalidOperation = true) (xg_InvalidPart : PySem.W.findIn K (.ref E_InvalidPart) "__getattribute__" = some (some (.builtin "BaseException.__getattribute__"))) (xk_InvalidPart : PySem.W.findIn K (.ref E_InvalidPart) "__getattr__" = some none) (xc_InvalidPart : PySem.W.findIn K (.ref E_InvalidPart) "__class__" = some (some (.builtin "object.__class__"))) (xm_InvalidPart : PySem.W.mroIn K E_InvalidPart (.type "object") = some true) (id_InvalidPart : PySem.W.hasDictIn K E_InvalidPart = true) (xg_InvalidPlace : PySem.W.findIn K (.ref E_InvalidPlace) "__getattribute__" = some (some (.builtin "BaseException.__getattribute__"))) (xk_InvalidPlace : PySem.W.findIn K (.ref E_InvalidPlace) "__getattr__" = some none) (xc_InvalidPlace : PySem.W.findIn K (.ref E_InvalidPlace) "__class__" = some (some (.builtin "object.__class__"))) (xm_InvalidPlace : PySem.W.mroIn K E_InvalidPlace (.type "object") = some true) (id_InvalidPlace : PySem.W.hasDictIn K E_InvalidPlace = true) (xg_InvalidRoute : PySem.W.findIn K (.ref E_InvalidRoute) "__getattribute__" = some (some (.builtin "BaseException.__getattribute__"))) (xk_InvalidRoute : PySem.W.findIn K (.ref E_InvalidRoute) "__getattr__" = some none) (xc_InvalidRoute : PySem.W.findIn K (.ref E_InvalidRoute) "__class__" = some (some (.builtin "object.__class__"))) (xm_InvalidRoute : PySem.W.mroIn K E_InvalidRoute (.type "object") = some true) (id_InvalidRoute : PySem.W.hasDictIn K E_InvalidRoute = true) (xg_InvalidStep : PySem.W.findIn K (.ref E_InvalidStep) "__getattribute__" = some (some (.builtin "BaseException.__getattribute__"))) (xk_InvalidStep : PySem.W.findIn K (.ref E_InvalidStep) "__getattr__" = some none) (xc_InvalidStep : PySem.W.findIn K (.ref E_InvalidStep) "__class__" = some (some (.builtin "object.__class__"))) (xm_InvalidStep : PySem.W.mroIn K E_InvalidStep (.type "object") = some true) (id_InvalidStep : PySem.W.hasDictIn K E_InvalidStep = true) (xg_InvalidTie : PySem.W.findIn K (.ref E_InvalidTie) "__getattribute__" = some (some (.builtin "BaseException.__getattribute__"))) (xk_InvalidTie : PySem.W.findIn K (.ref E_InvalidTie) "__getattr__" = some none) (xc_InvalidTie : PySem.W.findIn K (.ref E_InvalidTie) "__class__" = some (some (.builtin "object.__class__"))) (xm_InvalidTie : PySem.W.mroIn K E_InvalidTie (.type "object") = some true) (id_InvalidTie : PySem.W.hasDictIn K E_InvalidTie = true) (xg_InvalidWeb : PySem.W.findIn K (.ref E_InvalidWeb) "__getattribute__" = some (some (.builtin "BaseException.__getattribute__"))) (xk_InvalidWeb : PySem.W.findIn K (.ref E_InvalidWeb) "__getattr__" = some none) (xc_InvalidWeb : PySem.W.findIn K (.ref E_InvalidWeb) "__class__" = some (some (.builtin "object.__class__"))) (xm_InvalidWeb : PySem.W.mroIn K E_InvalidWeb (.type "object") = some true) (id_InvalidWeb : PySem.W.hasDictIn K E_InvalidWeb = true) (xg_NothingToUndo : PySem.W.findIn K (.ref E_NothingToUndo) "__getattribute__" = some (some (.builtin "BaseException.__getattribute__"))) (xk_NothingToUndo : PySem.W.findIn K (.ref E_NothingToUndo) "__getattr__" = some none) (xc_NothingToUndo : PySem.W.findIn K (.ref E_NothingToUndo) "__class__" = some (some (.builtin "object.__class__"))) (xm_NothingToUndo : PySem.W.mroIn K E_NothingToUndo (.type "object") = some true) (xg_ParseError : PySem.W.findIn K (.ref E_ParseError) "__getattribute__" = some (some (.builtin "BaseException.__getattribute__"))) (xk_ParseError : PySem.W.findIn K (.ref E_ParseError) "__getattr__" = some none) (xc_ParseError : PySem.W.findIn K (.ref E_ParseError) "__class__" = some (some (.builtin "object.__class__"))) (xm_ParseError : PySem.W.mroIn K E_ParseError (.type "object") = some true) (xg_Parted : PySem.W.findIn K (.ref E_Parted) "__getattribute__" = some (some (.builtin "BaseException.__getattribute__"))) (xk_Parted : PySem.W.findIn K (.ref E_Parted) "__getattr__" = some none) (xc_Parted : PySem.W.findIn K (.ref E_Parted) "__class__" = some (some (.builtin "object.__class__"))) (xm_Parted : PySem.W.mroIn K E_Parted (.type "object") = some true) (xg_Refused : PySem.W.findIn K (.ref E_Refused) "__getattribute__" = some (some (.builtin "BaseException.__getattribute__"))) (xk_Refused : PySem.W.findIn K (.ref E_Refused) "__getattr__" = some none) (xc_Refused : PySem.W.findIn K (.ref E_Refused) "__class__" = some (some (.builtin "object.__class__"))) (xm_Refused : PySem.W.mroIn K E_Refused (.type "object") = some true) (xg_TooMany : PySem.W.findIn K (.ref E_TooMany) "__getattribute__" = some (some (.builtin "BaseException.__getattribute__"))) (xk_TooMany : PySem.W.findIn K (.ref E_TooMany) "__getattr__" = some none) (xc_TooMany : PySem.W.findIn K (.ref E_TooMany) "__class__" = some (some (.builtin "object.__class__"))) (xm_TooMany : PySem.W.mroIn K E_TooMany (.type "object") = some true) (xg_UnknownName : PySem.W.findIn K (.ref E_UnknownName) "__getattribute__" = some (some (.builtin "BaseException.__getattribute__"))) (xk_UnknownName : PySem.W.findIn K (.ref E_UnknownName) "__getattr__" = some none) (xc_UnknownName : PySem.W.findIn K (.ref E_UnknownName) "__class__" = some (some (.builtin "object.__class__"))) (xm_UnknownName : PySem.W.mroIn K E_UnknownName (.type "object") = some true) (xg_WebError : PySem.W.findIn K (.ref E_WebError) "__getattribute__" = some (some (.builtin "BaseException.__getattribute__"))) (xk_WebError : PySem.W.findIn K (.ref E_WebError) "__getattr__" = some none) (xc_WebError : PySem.W.findIn K (.ref E_WebError) "__class__" = some (some (.builtin "object.__class__"))) (xm_WebError : PySem.W.mroIn K E_WebError (.type "object") = some true) (id_WebError : PySem.W.hasDictIn K E_WebError = true) (ff_InvalidNumber_value : PySem.W.findIn K (.ref E_InvalidNumber) "value" = some none) (ff_NothingToUndo_many : PySem.W.findIn K (.ref E_NothingToUndo) "many" = some none) (ff_ParseError_number : PySem.W.findIn K (.ref E_ParseError) "number" = some none) (ff_Parted_parting : PySem.W.findIn K (.ref E_Parted) "parting" = some none) (ff_Refused_pledge : PySem.W.findIn K (.ref E_Refused) "pledge" = some none) (ff_TooMany_limit : PySem.W.findIn K (.ref E_TooMany) "limit" = some none) (ff_UnknownName_word : PySem.W.findIn K (.ref E_UnknownName) "word" = some none) (kt_InvalidDrawing_ArithmeticError : PySem.W.kitOne K (.ref E_InvalidDrawing) (.type "ArithmeticError") = some false) (kt_InvalidGrowth_ArithmeticError : PySem.W.kitOne K (.ref E_InvalidGrowth) (.type "ArithmeticError") = some false) (kt_InvalidModel_ArithmeticError : PySem.W.kitOne K (.ref E_InvalidModel) (.type "ArithmeticError") = some false) (kt_InvalidNumber_ArithmeticError : PySem.W.kitOne K (.ref E_InvalidNumber) (.type "ArithmeticError") = some false) (kt_InvalidOperation_ArithmeticError : PySem.W.kitOne K (.ref E_InvalidOperation) (.type "ArithmeticError") = some false) (kt_InvalidPart_ArithmeticError : PySem.W.kitOne K (.ref E_InvalidPart) (.type "ArithmeticError") = some false) (kt_InvalidPlace_ArithmeticError : PySem.W.kitOne K (.ref E_InvalidPlace) (.type "ArithmeticError") = some false) (kt_InvalidRoute_ArithmeticError : PySem.W.kitOne K (.ref E_InvalidRoute) (.type "ArithmeticError") = some false) (kt_InvalidStep_ArithmeticError : PySem.W.kitOne K (.ref E_InvalidStep) (.type "ArithmeticError") = some false) (kt_InvalidTie_ArithmeticError : PySem.W.kitOne K (.ref E_InvalidTie) (.type "ArithmeticError") = some false) (kt_InvalidWeb_ArithmeticError : PySem.W.kitOne K (.ref E_InvalidWeb) (.type "ArithmeticError") = some false) (kt_NothingToUndo_ArithmeticError : PySem.W.kitOne K (.ref E_NothingToUndo) (.type "ArithmeticError") = some false) (kt_ParseError_ArithmeticError : PySem.W.kitOne K (.ref E_ParseError) (.type "ArithmeticError") = some false) (kt_Parted_ArithmeticError : PySem.W.kitOne K (.ref E_Parted) (.type "ArithmeticError") = some false) (kt_Refused_ArithmeticError : PySem.W.kitOne K (.ref E_Refused) (.type "ArithmeticError") = some true) (kt_TooMany_ArithmeticError : PySem.W.kitOne K (.ref E_TooMany) (.type "ArithmeticError") = some true) (kt_UnknownName_ArithmeticError : PySem.W.kitOne K (.ref E_UnknownName) (.type "ArithmeticError") = some false) (kt_WebError_ArithmeticError : PySem.W.kitOne K (.ref E_WebError) (.type "ArithmeticError") = some false) (kt_InvalidDrawing_IndexError : PySem.W.kitOne K (.ref E_InvalidDrawing) (.type "IndexError") = some false) (kt_InvalidGrowth_IndexError : PySem.W.kitOne K (.ref E_InvalidGrowth) (.type "IndexError") = some false) (kt_InvalidModel_IndexError : PySem.W.kitOne K (.ref E_InvalidModel) (.type "IndexError") = some false) (kt_InvalidNumber_IndexError : PySem.W.kitOne K (.ref E_InvalidNumber) (.type "IndexError") = some true) (kt_InvalidOperation_IndexError : PySem.W.kitOne K (.ref E_InvalidOperation) (.type "IndexError") = some false) (kt_InvalidPart_IndexError : PySem.W.kitOne K (.ref E_InvalidPart) (.type "IndexError") = some false) (kt_InvalidPlace_IndexError : PySem.W.kitOne K (.ref E_InvalidPlace) (.type "IndexError") = some false) (kt_InvalidRoute_IndexError : PySem.W.kitOne K (.ref E_InvalidRoute) (.type "IndexError") = some false) (kt_InvalidStep_IndexError : PySem.W.kitOne K (.ref E_InvalidStep) (.type "IndexError") = some false) (kt_InvalidTie_IndexError : PySem.W.kitOne K (.ref E_InvalidTie) (.type "IndexError") = some false) (kt_InvalidWeb_IndexError : PySem.W.kitOne K (.ref E_InvalidWeb) (.type "IndexError") = some false) (kt_NothingToUndo_IndexError : PySem.W.kitOne K (.ref E_NothingToUndo) (.type "IndexError") = some false) (kt_ParseError_IndexError : PySem.W.kitOne K (.ref E_ParseError) (.type "IndexError") = some false) (kt_Parted_IndexError : PySem.W.kitOne K (.ref E_Parted) (.type "IndexError") = some false) (kt_Refused_IndexError : PySem.W.kitOne K (.ref E_Refused) (.type "IndexError") = some false) (kt_TooMany_IndexError : PySem.W.kitOne K (.ref E_TooMany) (.type "IndexError") = some false) (kt_UnknownName_IndexError : PySem.W.kitOne K (.ref E_UnknownName) (.type "IndexError") = some false) (kt_WebError_IndexError : PySem.W.kitOne K (.ref E_WebError) (.type "IndexError") = some false) (kt_InvalidDrawing_InvalidDrawing : PySem.W.kitOne K (.ref E_InvalidDrawing) (.ref E_InvalidDrawing) = some true) (kt_InvalidGrowth_InvalidDrawing : PySem.W.kitOne K (.ref E_InvalidGrowth) (.ref E_InvalidDrawing) = some false) (kt_InvalidModel_InvalidDrawing : PySem.W.kitOne K (.ref E_InvalidModel) (.ref E_InvalidDrawing) = some false) (kt_InvalidNumber_InvalidDrawing : PySem.W.kitOne K (.ref E_InvalidNumber) (.ref E_InvalidDrawing) = some false) (kt_InvalidOperation_InvalidDrawing : PySem.W.kitOne K (.ref E_InvalidOperation) (.ref E_InvalidDrawing) = some false) (kt_InvalidPart_InvalidDrawing : PySem.W.kitOne K (.ref E_InvalidPart) (.ref E_InvalidDrawing) = some false) (kt_InvalidPlace_InvalidDrawing : PySem.W.kitOne K (.ref E_InvalidPlace) (.ref E_InvalidDrawing) = some false) (kt_InvalidRoute_InvalidDrawing : PySem.W.kitOne K (.ref E_InvalidRoute) (.ref E_InvalidDrawing) = some false) (kt_InvalidStep_InvalidDrawing : PySem.W.kitOne K (.ref E_InvalidStep) (.ref E_InvalidDrawing) = some false) (kt_InvalidTie_InvalidDrawing : PySem.W.kitOne K (.ref E_InvalidTie) (.ref E_InvalidDrawing) = some false) (kt_InvalidWeb_InvalidDrawing : PySem.W.kitOne K (.ref E_InvalidWeb) (.ref E_InvalidDrawing) = some false) (kt_NothingToUndo_InvalidDrawing : PySem.W.kitOne K (.ref E_NothingToUndo) (.ref E_InvalidDrawing) = some false) (kt_ParseError_InvalidDrawing : PySem.W.kitOne K (.ref E_ParseError) (.ref E_InvalidDrawing) = some false) (kt_Parted_InvalidDrawing : PySem.W.kitOne K (.ref E_Parted) (.ref E_InvalidDrawing) = some false) (kt_Refused_InvalidDrawing : PySem.W.kitOne K (.ref E_Refused) (.ref E_InvalidDrawing) = some false) (kt_TooMany_InvalidDrawing : PySem.W.kitOne K (.ref E_TooMany) (.ref E_InvalidDrawing) = some false) (kt_UnknownName_InvalidDrawing : PySem.W.kitOne K (.ref E_UnknownName) (.ref E_InvalidDrawing) = some false) (kt_WebError_InvalidDrawing : PySem.W.kitOne K (.ref E_WebError) (.ref E_InvalidDrawing) = some false) (kt_InvalidDrawing_InvalidGrowth : PySem.W.kitOne K (.ref E_InvalidDrawing) (.ref E_InvalidGrowth) = some false) (kt_InvalidGrowth_InvalidGrowth : PySem.W.kitOne K (.ref E_InvalidGrowth) (.ref E_InvalidGrowth) = some true) (kt_InvalidModel_InvalidGrowth : PySem.W.kitOne K (.ref E_InvalidModel) (.ref E_InvalidGrowth) = some false) (kt_InvalidNumber_InvalidGrowth : PySem.W.kitOne K (.ref E_InvalidNumber) (.ref E_InvalidGrowth) = some false) (kt_InvalidOperation_InvalidGrowth : PySem.W.kitOne K (.ref E_InvalidOperation) (.ref E_InvalidGrowth) = some false) (kt_InvalidPart_InvalidGrowth : PySem.W.kitOne K (.ref E_InvalidPart) (.ref E_InvalidGrowth) = some false) (kt_InvalidPlace_InvalidGrowth : PySem.W.kitOne K (.ref E_InvalidPlace) (.ref E_InvalidGrowth) = some false) (kt_InvalidRoute_InvalidGrowth : PySem.W.kitOne K (.ref E_InvalidRoute) (.ref E_InvalidGrowth) = some false) (kt_InvalidStep_InvalidGrowth : PySem.W.kitOne K (.ref E_InvalidStep) (.ref E_InvalidGrowth) = some false) (kt_InvalidTie_InvalidGrowth : PySem.W.kitOne K (.ref E_InvalidTie) (.ref E_InvalidGrowth) = some false) (kt_InvalidWeb_InvalidGrowth : PySem.W.kitOne K (.ref E_InvalidWeb) (.ref E_InvalidGrowth) = some false) (kt_NothingToUndo_InvalidGrowth : PySem.W.kitOne K (.ref E_NothingToUndo) (.ref E_InvalidGrowth) = some false) (kt_ParseError_InvalidGrowth : PySem.W.kitOne K (.ref E_ParseError) (.ref E_InvalidGrowth) = some false) (kt_Parted_InvalidGrowth : PySem.W.kitOne K (.ref E_Parted) (.ref E_InvalidGrowth) = some false) (kt_Refused_InvalidGrowth : PySem.W.kitOne K (.ref E_Refused) (.ref E_InvalidGrowth) = some false) (kt_TooMany_InvalidGrowth : PySem.W.kitOne K (.ref E_TooMany) (.ref E_InvalidGrowth) = some false) (kt_UnknownName_InvalidGrowth : PySem.W.kitOne K (.ref E_UnknownName) (.ref E_InvalidGrowth) = some false) (kt_WebError_InvalidGrowth : PySem.W.kitOne K (.ref E_WebError) (.ref E_InvalidGrowth) = some false) (kt_InvalidDrawing_InvalidModel : PySem.W.kitOne K (.ref E_InvalidDrawing) (.ref E_InvalidModel) = some false) (kt_InvalidGrowth_InvalidModel : PySem.W.kitOne K (.ref E_InvalidGrowth) (.ref E_InvalidModel) = some false) (kt_InvalidModel_InvalidModel : PySem.W.kitOne K (.ref E_InvalidModel) (.ref E_InvalidModel) = some true) (kt_InvalidNumber_InvalidModel : PySem.W.kitOne K (.ref E_InvalidNumber) (.ref E_InvalidModel) = some false) (kt_InvalidOperation_InvalidModel : PySem.W.kitOne K (.ref E_InvalidOperation) (.ref E_InvalidModel) = some false) (kt_InvalidPart_InvalidModel : PySem.W.kitOne K (.ref E_InvalidPart) (.ref E_InvalidModel) = some false) (kt_InvalidPlace_InvalidModel : PySem.W.kitOne K (.ref E_InvalidPlace) (.ref E_InvalidModel) = some false) (kt_InvalidRoute_InvalidModel : PySem.W.kitOne K (.ref E_InvalidRoute) (.ref E_InvalidModel) = some false) (kt_InvalidStep_InvalidModel : PySem.W.kitOne K (.ref E_InvalidStep) (.ref E_InvalidModel) = some false) (kt_InvalidTie_InvalidModel : PySem.W.kitOne K (.ref E_InvalidTie) (.ref E_InvalidModel) = some false) (kt_InvalidWeb_InvalidModel : PySem.W.kitOne K (.ref E_InvalidWeb) (.ref E_InvalidModel) = some false) (kt_NothingToUndo_InvalidModel : PySem.W.kitOne K (.ref E_NothingToUndo) (.ref E_InvalidModel) = some false) (kt_ParseError_InvalidModel : PySem.W.kitOne K (.ref E_ParseError) (.ref E_InvalidModel) = some false) (kt_Parted_InvalidModel : PySem.W.kitOne K (.ref E_Parted) (.ref E_InvalidModel) = some false) (kt_Refused_InvalidModel : PySem.W.kitOne K (.ref E_Refused) (.ref E_InvalidModel) = some false) (kt_TooMany_InvalidModel : PySem.W.kitOne K (.ref E_TooMany) (.ref E_InvalidModel) = some false) (kt_UnknownName_InvalidModel : PySem.W.kitOne K (.ref E_UnknownName) (.ref E_InvalidModel) = some false) (kt_WebError_InvalidModel : PySem.W.kitOne K (.ref E_WebError) (.ref E_InvalidModel) = some false) (kt_InvalidDrawing_InvalidOperation : PySem.W.kitOne K (.ref E_InvalidDrawing) (.ref E_InvalidOperation) = some false) (kt_InvalidGrowth_InvalidOperation : PySem.W.kitOne K (.ref E_InvalidGrowth) (.ref E_InvalidOperation) = some false) (kt_InvalidModel_InvalidOperation : PySem.W.kitOne K (.ref E_InvalidModel) (.ref E_InvalidOperation) = some false) (kt_InvalidNumber_InvalidOperation : PySem.W.kitOne K (.ref E_InvalidNumber) (.ref E_InvalidOperation) = some false) (kt_InvalidOperation_InvalidOperation : PySem.W.kitOne K (.ref E_InvalidOperation) (.ref E_InvalidOperation) = some true) (kt_InvalidPart_InvalidOperation : PySem.W.kitOne K (.ref E_InvalidPart) (.ref E_InvalidOperation) = some false) (kt_InvalidPlace_InvalidOperation : PySem.W.kitOne K (.ref E_InvalidPlace) (.ref E_InvalidOperation) = some false) (kt_InvalidRoute_InvalidOperation : PySem.W.kitOne K (.ref E_InvalidRoute) (.ref E_InvalidOperation) = some false) (kt_InvalidStep_InvalidOperation : PySem.W.kitOne K (.ref E_InvalidStep) (.ref E_InvalidOperation) = some false) (kt_InvalidTie_InvalidOperation : PySem.W.kitOne K (.ref E_InvalidTie) (.ref E_InvalidOperation) = some false) (kt_InvalidWeb_InvalidOperation : PySem.W.kitOne K (.ref E_InvalidWeb) (.ref E_InvalidOperation) = some false) (kt_NothingToUndo_InvalidOperation : PySem.W.kitOne K (.ref E_NothingToUndo) (.ref E_InvalidOperation) = some false) (kt_ParseError_InvalidOperation : PySem.W.kitOne K (.ref E_ParseError) (.ref E_InvalidOperation) = some false) (kt_Parted_InvalidOperation : PySem.W.kitOne K (.ref E_Parted) (.ref E_InvalidOperation) = some false) (kt_Refused_InvalidOperation : PySem.W.kitOne K (.ref E_Refused) (.ref E_InvalidOperation) = some false) (kt_TooMany_InvalidOperation : PySem.W.kitOne K (.ref E_TooMany) (.ref E_InvalidOperation) = some false) (kt_UnknownName_InvalidOperation : PySem.W.kitOne K (.ref E_UnknownName) (.ref E_InvalidOperation) = some false) (kt_WebError_InvalidOperation : PySem.W.kitOne K (.ref E_WebError) (.ref E_InvalidOperation) = some false) (kt_InvalidDrawing_InvalidPart : PySem.W.kitOne K (.ref E_InvalidDrawing) (.ref E_InvalidPart) = some false) (kt_InvalidGrowth_InvalidPart : PySem.W.kitOne K (.ref E_InvalidGrowth) (.ref E_InvalidPart) = some false) (kt_InvalidModel_InvalidPart : PySem.W.kitOne K (.ref E_InvalidModel) (.ref E_InvalidPart) = some false) (kt_InvalidNumber_InvalidPart : PySem.W.kitOne K (.ref E_InvalidNumber) (.ref E_InvalidPart) = some false) (kt_InvalidOperation_InvalidPart : PySem.W.kitOne K (.ref E_InvalidOperation) (.ref E_InvalidPart) = some false) (kt_InvalidPart_InvalidPart : PySem.W.kitOne K (.ref E_InvalidPart) (.ref E_InvalidPart) = some true) (kt_InvalidPlace_InvalidPart : PySem.W.kitOne K (.ref E_InvalidPlace) (.ref E_InvalidPart) = some false) (kt_InvalidRoute_InvalidPart : PySem.W.kitOne K (.ref E_InvalidRoute) (.ref E_InvalidPart) = some false) (kt_InvalidStep_InvalidPart : PySem.W.kitOne K (.ref E_InvalidStep) (.ref E_InvalidPart) = some false) (kt_InvalidTie_InvalidPart : PySem.W.kitOne K (.ref E_InvalidTie) (.ref E_InvalidPart) = some false) (kt_InvalidWeb_InvalidPart : PySem.W.kitOne K (.ref E_InvalidWeb) (.ref E_InvalidPart) = some false) (kt_NothingToUndo_InvalidPart : PySem.W.kitOne K (.ref E_NothingToUndo) (.ref E_InvalidPart) = some false) (kt_ParseError_InvalidPart : PySem.W.kitOne K (.ref E_ParseError) (.ref E_InvalidPart) = some false) (kt_Parted_InvalidPart : PySem.W.kitOne K (.ref E_Parted) (.ref E_InvalidPart) = some false) (kt_Refused_InvalidPart : PySem.W.kitOne K (.ref E_Refused) (.ref E_InvalidPart) = some false) (kt_TooMany_InvalidPart : PySem.W.kitOne K (.ref E_TooMany) (.ref E_InvalidPart) = some false) (kt_UnknownName_InvalidPart : PySem.W.kitOne K (.ref E_UnknownName) (.ref E_InvalidPart) = some false) (kt_WebError_InvalidPart : PySem.W.kitOne K (.ref E_WebError) (.ref E_InvalidPart) = some false) (kt_InvalidDrawing_InvalidPlace : PySem.W.kitOne K (.ref E_InvalidDrawing) (.ref E_InvalidPlace) = some false) (kt_InvalidGrowth_InvalidPlace : PySem.W.kitOne K (.ref E_InvalidGrowth) (.ref E_InvalidPlace) = some false) (kt_InvalidModel_InvalidPlace : PySem.W.kitOne K (.ref E_InvalidModel) (.ref E_InvalidPlace) = some false) (kt_InvalidNumber_InvalidPlace : PySem.W.kitOne K (.ref E_InvalidNumber) (.ref E_InvalidPlace) = some false) (kt_InvalidOperation_InvalidPlace : PySem.W.kitOne K (.ref E_InvalidOperation) (.ref E_InvalidPlace) = some false) (kt_InvalidPart_InvalidPlace : PySem.W.kitOne K (.ref E_InvalidPart) (.ref E_InvalidPlace) = some false) (kt_InvalidPlace_InvalidPlace : PySem.W.kitOne K (.ref E_InvalidPlace) (.ref E_InvalidPlace) = some true) (kt_InvalidRoute_InvalidPlace : PySem.W.kitOne K (.ref E_InvalidRoute) (.ref E_InvalidPlace) = some false) (kt_InvalidStep_InvalidPlace : PySem.W.kitOne K (.ref E_InvalidStep) (.ref E_InvalidPlace) = some false) (kt_InvalidTie_InvalidPlace : PySem.W.kitOne K (.ref E_InvalidTie) (.ref E_InvalidPlace) = some false) (kt_InvalidWeb_InvalidPlace : PySem.W.kitOne K (.ref E_InvalidWeb) (.ref E_InvalidPlace) = some false) (kt_NothingToUndo_InvalidPlace : PySem.W.kitOne K (.ref E_NothingToUndo) (.ref E_InvalidPlace) = some false) (kt_ParseError_InvalidPlace : PySem.W.kitOne K (.ref E_ParseError) (.ref E_InvalidPlace) = some false) (kt_Parted_InvalidPlace : PySem.W.kitOne K (.ref E_Parted) (.ref E_InvalidPlace) = some false) (kt_Refused_InvalidPlace : PySem.W.kitOne K (.ref E_Refused) (.ref E_InvalidPlace) = some false) (kt_TooMany_InvalidPlace : PySem.W.kitOne K (.ref E_TooMany) (.ref E_InvalidPlace) = some false) (kt_UnknownName_InvalidPlace : PySem.W.kitOne K (.ref E_UnknownName) (.ref E_InvalidPlace) = some false) (kt_WebError_InvalidPlace : PySem.W.kitOne K (.ref E_WebError) (.ref E_InvalidPlace) = some false) (kt_InvalidDrawing_InvalidRoute : PySem.W.kitOne K (.ref E_InvalidDrawing) (.ref E_InvalidRoute) = some false) (kt_InvalidGrowth_InvalidRoute : PySem.W.kitOne K (.ref E_InvalidGrowth) (.ref E_InvalidRoute) = some false) (kt_InvalidModel_InvalidRoute : PySem.W.kitOne K (.ref E_InvalidModel) (.ref E_InvalidRoute) = some false) (kt_InvalidNumber_InvalidRoute : PySem.W.kitOne K (.ref E_InvalidNumber) (.ref E_InvalidRoute) = some false) (kt_InvalidOperation_InvalidRoute : PySem.W.kitOne K (.ref E_InvalidOperation) (.ref E_InvalidRoute) = some false) (kt_InvalidPart_InvalidRoute : PySem.W.kitOne K (.ref E_InvalidPart) (.ref E_InvalidRoute) = some false) (kt_InvalidPlace_InvalidRoute : PySem.W.kitOne K (.ref E_InvalidPlace) (.ref E_InvalidRoute) = some false) (kt_InvalidRoute_InvalidRoute : PySem.W.kitOne K (.ref E_InvalidRoute) (.ref E_InvalidRoute) = some true) (kt_InvalidStep_InvalidRoute : PySem.W.kitOne K (.ref E_InvalidStep) (.ref E_InvalidRoute) = some false) (kt_InvalidTie_InvalidRoute : PySem.W.kitOne K (.ref E_InvalidTie) (.ref E_InvalidRoute) = some false) (kt_InvalidWeb_InvalidRoute : PySem.W.kitOne K (.ref E_InvalidWeb) (.ref E_InvalidRoute) = some false) (kt_NothingToUndo_InvalidRoute : PySem.W.kitOne K (.ref E_NothingToUndo) (.ref E_InvalidRoute) = some false) (kt_ParseError_InvalidRoute : PySem.W.kitOne K (.ref E_ParseError) (.ref E_InvalidRoute) = some false) (kt_Parted_InvalidRoute : PySem.W.kitOne K (.ref E_Parted) (.ref E_InvalidRoute) = some false) (kt_Refused_InvalidRoute : PySem.W.kitOne K (.ref E_Refused) (.ref E_InvalidRoute) = some false) (kt_TooMany_InvalidRoute : PySem.W.kitOne K (.ref E_TooMany) (.ref E_InvalidRoute) = some false) (kt_UnknownName_InvalidRoute : PySem.W.kitOne K (.ref E_UnknownName) (.ref E_InvalidRoute) = some false) (kt_WebError_InvalidRoute : PySem.W.kitOne K (.ref E_WebError) (.ref E_InvalidRoute) = some false) (kt_InvalidDrawing_InvalidStep : PySem.W.kitOne K (.ref E_InvalidDrawing) (.ref E_InvalidStep) = some false) (kt_InvalidGrowth_InvalidStep : PySem.W.kitOne K (.ref E_InvalidGrowth) (.ref E_InvalidStep) = some false) (kt_InvalidModel_InvalidStep : PySem.W.kitOne K (.ref E_InvalidModel) (.ref E_InvalidStep) = some false) (kt_InvalidNumber_InvalidStep : PySem.W.kitOne K (.ref E_InvalidNumber) (.ref E_InvalidStep) = some false) (kt_InvalidOperation_InvalidStep : PySem.W.kitOne K (.ref E_InvalidOperation) (.ref E_InvalidStep) = some false) (kt_InvalidPart_InvalidStep : PySem.W.kitOne K (.ref E_InvalidPart) (.ref E_InvalidStep) = some false) (kt_InvalidPlace_InvalidStep : PySem.W.kitOne K (.ref E_InvalidPlace) (.ref E_InvalidStep) = some false) (kt_InvalidRoute_InvalidStep : PySem.W.kitOne K (.ref E_InvalidRoute) (.ref E_InvalidStep) = some false) (kt_InvalidStep_InvalidStep : PySem.W.kitOne K (.ref E_InvalidStep) (.ref E_InvalidStep) = some true) (kt_InvalidTie_InvalidStep : PySem.W.kitOne K (.ref E_InvalidTie) (.ref E_InvalidStep) = some false) (kt_InvalidWeb_InvalidStep : PySem.W.kitOne K (.ref E_InvalidWeb) (.ref E_InvalidStep) = some false) (kt_NothingToUndo_InvalidStep : PySem.W.kitOne K (.ref E_NothingToUndo) (.ref E_InvalidStep) = some false) (kt_ParseError_InvalidStep : PySem.W.kitOne K (.ref E_ParseError) (.ref E_InvalidStep) = some false) (kt_Parted_InvalidStep : PySem.W.kitOne K (.ref E_Parted) (.ref E_InvalidStep) = some false) (kt_Refused_InvalidStep : PySem.W.kitOne K (.ref E_Refused) (.ref E_InvalidStep) = some false) (kt_TooMany_InvalidStep : PySem.W.kitOne K (.ref E_TooMany) (.ref E_InvalidStep) = some false) (kt_UnknownName_InvalidStep : PySem.W.kitOne K (.ref E_UnknownName) (.ref E_InvalidStep) = some false) (kt_WebError_InvalidStep : PySem.W.kitOne K (.ref E_WebError) (.ref E_InvalidStep) = some false) (kt_InvalidDrawing_InvalidTie : PySem.W.kitOne K (.ref E_InvalidDrawing) (.ref E_InvalidTie) = some false) (kt_InvalidGrowth_InvalidTie : PySem.W.kitOne K (.ref E_InvalidGrowth) (.ref E_InvalidTie) = some false) (kt_InvalidModel_InvalidTie : PySem.W.kitOne K (.ref E_InvalidModel) (.ref E_InvalidTie) = some false) (kt_InvalidNumber_InvalidTie : PySem.W.kitOne K (.ref E_InvalidNumber) (.ref E_InvalidTie) = some false) (kt_InvalidOperation_InvalidTie : PySem.W.kitOne K (.ref E_InvalidOperation) (.ref E_InvalidTie) = some false) (kt_InvalidPart_InvalidTie : PySem.W.kitOne K (.ref E_InvalidPart) (.ref E_InvalidTie) = some false) (kt_InvalidPlace_InvalidTie : PySem.W.kitOne K (.ref E_InvalidPlace) (.ref E_InvalidTie) = some false) (kt_InvalidRoute_InvalidTie : PySem.W.kitOne K (.ref E_InvalidRoute) (.ref E_InvalidTie) = some false) (kt_InvalidStep_InvalidTie : PySem.W.kitOne K (.ref E_InvalidStep) (.ref E_InvalidTie) = some false) (kt_InvalidTie_InvalidTie : PySem.W.kitOne K (.ref E_InvalidTie) (.ref E_InvalidTie) = some true) (kt_InvalidWeb_InvalidTie : PySem.W.kitOne K (.ref E_InvalidWeb) (.ref E_InvalidTie) = some false) (kt_NothingToUndo_InvalidTie : PySem.W.kitOne K (.ref E_NothingToUndo) (.ref E_InvalidTie) = some false) (kt_ParseError_InvalidTie : PySem.W.kitOne K (.ref E_ParseError) (.ref E_InvalidTie) = some false) (kt_Parted_InvalidTie : PySem.W.kitOne K (.ref E_Parted) (.ref E_InvalidTie) = some false) (kt_Refused_InvalidTie : PySem.W.kitOne K (.ref E_Refused) (.ref E_InvalidTie) = some false) (kt_TooMany_InvalidTie : PySem.W.kitOne K (.ref E_TooMany) (.ref E_InvalidTie) = some false) (kt_UnknownName_InvalidTie : PySem.W.kitOne K (.ref E_UnknownName) (.ref E_InvalidTie) = some false) (kt_WebError_InvalidTie : PySem.W.kitOne K (.ref E_WebError) (.ref E_InvalidTie) = some false) (kt_InvalidDrawing_InvalidWeb : PySem.W.kitOne K (.ref E_InvalidDrawing) (.ref E_InvalidWeb) = some false) (kt_InvalidGrowth_InvalidWeb : PySem.W.kitOne K (.ref E_InvalidGrowth) (.ref E_InvalidWeb) = some false) (kt_InvalidModel_InvalidWeb : PySem.W.kitOne K (.ref E_InvalidModel) (.ref E_InvalidWeb) = some false) (kt_InvalidNumber_InvalidWeb : PySem.W.kitOne K (.ref E_InvalidNumber) (.ref E_InvalidWeb) = some false) (kt_InvalidOperation_InvalidWeb : PySem.W.kitOne K (.ref E_InvalidOperation) (.ref E_InvalidWeb) = some false) (kt_InvalidPart_InvalidWeb : PySem.W.kitOne K (.ref E_InvalidPart) (.ref E_InvalidWeb) = some false) (kt_InvalidPlace_InvalidWeb : PySem.W.kitOne K (.ref E_InvalidPlace) (.ref E_InvalidWeb) = some false) (kt_InvalidRoute_InvalidWeb : PySem.W.kitOne K (.ref E_InvalidRoute) (.ref E_InvalidWeb) = some false) (kt_InvalidStep_InvalidWeb : PySem.W.kitOne K (.ref E_InvalidStep) (.ref E_InvalidWeb) = some false) (kt_InvalidTie_InvalidWeb : PySem.W.kitOne K (.ref E_InvalidTie) (.ref E_InvalidWeb) = some false) (kt_InvalidWeb_InvalidWeb : PySem.W.kitOne K (.ref E_InvalidWeb) (.ref E_InvalidWeb) = some true) (kt_NothingToUndo_InvalidWeb : PySem.W.kitOne K (.ref E_NothingToUndo) (.ref E_InvalidWeb) = some false) (kt_ParseError_InvalidWeb : PySem.W.kitOne K (.ref E_ParseError) (.ref E_InvalidWeb) = some false) (kt_Parted_InvalidWeb : PySem.W.kitOne K (.ref E_Parted) (.ref E_InvalidWeb) = some false) (kt_Refused_InvalidWeb : PySem.W.kitOne K (.ref E_Refused) (.ref E_InvalidWeb) = some false) (kt_TooMany_InvalidWeb : PySem.W.kitOne K (.ref E_TooMany) (.ref E_InvalidWeb) = some false) (kt_UnknownName_InvalidWeb : PySem.W.kitOne K (.ref E_UnknownName) (.ref E_InvalidWeb) = some false) (kt_WebError_InvalidWeb : PySem.W.kitOne K (.ref E_WebError) (.ref E_InvalidWeb) = some false) (kt_InvalidDrawing_KeyError : PySem.W.kitOne K (.ref E_InvalidDrawing) (.type "KeyError") = some false) (kt_InvalidGrowth_KeyError : PySem.W.kitOne K (.ref E_InvalidGrowth) (.type "KeyError") = some false) (kt_InvalidModel_KeyError : PySem.W.kitOne K (.ref E_InvalidModel) (.type "KeyError") = some false) (kt_InvalidNumber_KeyError : PySem.W.kitOne K (.ref E_InvalidNumber) (.type "KeyError") = some false) (kt_InvalidOperation_KeyError : PySem.W.kitOne K (.ref E_InvalidOperation) (.type "KeyError") = some false) (kt_InvalidPart_KeyError : PySem.W.kitOne K (.ref E_InvalidPart) (.type "KeyError") = some false) (kt_InvalidPlace_KeyError : PySem.W.kitOne K (.ref E_InvalidPlace) (.type "KeyError") = some false) (kt_InvalidRoute_KeyError : PySem.W.kitOne K (.ref E_InvalidRoute) (.type "KeyError") = some false) (kt_InvalidStep_KeyError : PySem.W.kitOne K (.ref E_InvalidStep) (.type "KeyError") = some false) (kt_InvalidTie_KeyError : PySem.W.kitOne K (.ref E_InvalidTie) (.type "KeyError") = some false) (kt_InvalidWeb_KeyError : PySem.W.kitOne K (.ref E_InvalidWeb) (.type "KeyError") = some false) (kt_NothingToUndo_KeyError : PySem.W.kitOne K (.ref E_NothingToUndo) (.type "KeyError") = some false) (kt_ParseError_KeyError : PySem.W.kitOne K (.ref E_ParseError) (.type "KeyError") = some false) (kt_Parted_KeyError : PySem.W.kitOne K (.ref E_Parted) (.type "KeyError") = some false) (kt_Refused_KeyError : PySem.W.kitOne K (.ref E_Refused) (.type "KeyError") = some false) (kt_TooMany_KeyError : PySem.W.kitOne K (.ref E_TooMany) (.type "KeyError") = some false) (kt_UnknownName_KeyError : PySem.W.kitOne K (.ref E_UnknownName) (.type "KeyError") = some true) (kt_WebError_KeyError : PySem.W.kitOne K (.ref E_WebError) (.type "KeyError") = some false) (kt_InvalidDrawing_LookupError : PySem.W.kitOne K (.ref E_InvalidDrawing) (.type "LookupError") = some false) (kt_InvalidGrowth_LookupError : PySem.W.kitOne K (.ref E_InvalidGrowth) (.type "LookupError") = some false) (kt_InvalidModel_LookupError : PySem.W.kitOne K (.ref E_InvalidModel) (.type "LookupError") = some false) (kt_InvalidNumber_LookupError : PySem.W.kitOne K (.ref E_InvalidNumber) (.type "LookupError") = some true) (kt_InvalidOperation_LookupError : PySem.W.kitOne K (.ref E_InvalidOperation) (.type "LookupError") = some false) (kt_InvalidPart_LookupError : PySem.W.kitOne K (.ref E_InvalidPart) (.type "LookupError") = some false) (kt_InvalidPlace_LookupError : PySem.W.kitOne K (.ref E_InvalidPlace) (.type "LookupError") = some false) (kt_InvalidRoute_LookupError : PySem.W.kitOne K (.ref E_InvalidRoute) (.type "LookupError") = some false) (kt_InvalidStep_LookupError : PySem.W.kitOne K (.ref E_InvalidStep) (.type "LookupError") = some false) (kt_InvalidTie_LookupError : PySem.W.kitOne K (.ref E_InvalidTie) (.type "LookupError") = some false) (kt_InvalidWeb_LookupError : PySem.W.kitOne K (.ref E_InvalidWeb) (.type "LookupError") = some false) (kt_NothingToUndo_LookupError : PySem.W.kitOne K (.ref E_NothingToUndo) (.type "LookupError") = some false) (kt_ParseError_LookupError : PySem.W.kitOne K (.ref E_ParseError) (.type "LookupError") = some false) (kt_Parted_LookupError : PySem.W.kitOne K (.ref E_Parted) (.type "LookupError") = some true) (kt_Refused_LookupError : PySem.W.kitOne K (.ref E_Refused) (.type "LookupError") = some false) (kt_TooMany_LookupError : PySem.W.kitOne K (.ref E_TooMany) (.type "LookupError") = some false) (kt_UnknownName_LookupError : PySem.W.kitOne K (.ref E_UnknownName) (.type "LookupError") = some true) (kt_WebError_LookupError : PySem.W.kitOne K (.ref E_WebError) (.type "LookupError") = some false) (kt_InvalidDrawing_OverflowError : PySem.W.kitOne K (.ref E_InvalidDrawing) (.type "OverflowError") = some false) (kt_InvalidGrowth_OverflowError : PySem.W.kitOne K (.ref E_InvalidGrowth) (.type "OverflowError") = some false) (kt_InvalidModel_OverflowError : PySem.W.kitOne K (.ref E_InvalidModel) (.type "OverflowError") = some false) (kt_InvalidNumber_OverflowError : PySem.W.kitOne K (.ref E_InvalidNumber) (.type "OverflowError") = some false) (kt_InvalidOperation_OverflowError : PySem.W.kitOne K (.ref E_InvalidOperation) (.type "OverflowError") = some false) (kt_InvalidPart_OverflowError : PySem.W.kitOne K (.ref E_InvalidPart) (.type "OverflowError") = some false) (kt_InvalidPlace_OverflowError : PySem.W.kitOne K (.ref E_InvalidPlace) (.type "OverflowError") = some false) (kt_InvalidRoute_OverflowError : PySem.W.kitOne K (.ref E_InvalidRoute) (.type "OverflowError") = some false) (kt_InvalidStep_OverflowError : PySem.W.kitOne K (.ref E_InvalidStep) (.type "OverflowError") = some false) (kt_InvalidTie_OverflowError : PySem.W.kitOne K (.ref E_InvalidTie) (.type "OverflowError") = some false) (kt_InvalidWeb_OverflowError : PySem.W.kitOne K (.ref E_InvalidWeb) (.type "OverflowError") = some false) (kt_NothingToUndo_OverflowError : PySem.W.kitOne K (.ref E_NothingToUndo) (.type "OverflowError") = some false) (kt_ParseError_OverflowError : PySem.W.kitOne K (.ref E_ParseError) (.type "OverflowError") = some false) (kt_Parted_OverflowError : PySem.W.kitOne K (.ref E_Parted) (.type "OverflowError") = some false) (kt_Refused_OverflowError : PySem.W.kitOne K (.ref E_Refused) (.type "OverflowError") = some false) (kt_TooMany_OverflowError : PySem.W.kitOne K (.ref E_TooMany) (.type "OverflowError") = some true) (kt_UnknownName_OverflowError : PySem.W.kitOne K (.ref E_UnknownName) (.type "OverflowError") = some false) (kt_WebError_OverflowError : PySem.W.kitOne K (.ref E_WebError) (.type "OverflowError") = some false) (kt_InvalidDrawing_ParseError : PySem.W.kitOne K (.ref E_InvalidDrawing) (.ref E_ParseError) = some false) (kt_InvalidGrowth_ParseError : PySem.W.kitOne K (.ref E_InvalidGrowth) (.ref E_ParseError) = some false) (kt_InvalidModel_ParseError : PySem.W.kitOne K (.ref E_InvalidModel) (.ref E_ParseError) = some false) (kt_InvalidNumber_ParseError : PySem.W.kitOne K (.ref E_InvalidNumber) (.ref E_ParseError) = some false) (kt_InvalidOperation_ParseError : PySem.W.kitOne K (.ref E_InvalidOperation) (.ref E_ParseError) = some false) (kt_InvalidPart_ParseError : PySem.W.kitOne K (.ref E_InvalidPart) (.ref E_ParseError) = some false) (kt_InvalidPlace_ParseError : PySem.W.kitOne K (.ref E_InvalidPlace) (.ref E_ParseError) = some false) (kt_InvalidRoute_ParseError : PySem.W.kitOne K (.ref E_InvalidRoute) (.ref E_ParseError) = some false) (kt_InvalidStep_ParseError : PySem.W.kitOne K (.ref E_InvalidStep) (.ref E_ParseError) = some false) (kt_InvalidTie_ParseError : PySem.W.kitOne K (.ref E_InvalidTie) (.ref E_ParseError) = some false) (kt_InvalidWeb_ParseError : PySem.W.kitOne K (.ref E_InvalidWeb) (.ref E_ParseError) = some false) (kt_NothingToUndo_ParseError : PySem.W.kitOne K (.ref E_NothingToUndo) (.ref E_ParseError) = some false) (kt_ParseError_ParseError : PySem.W.kitOne K (.ref E_ParseError) (.ref E_ParseError) = some true) (kt_Parted_ParseError : PySem.W.kitOne K (.ref E_Parted) (.ref E_ParseError) = some false) (kt_Refused_ParseError : PySem.W.kitOne K (.ref E_Refused) (.ref E_ParseError) = some false) (kt_TooMany_ParseError : PySem.W.kitOne K (.ref E_TooMany) (.ref E_ParseError) = some false) (kt_UnknownName_ParseError : PySem.W.kitOne K (.ref E_UnknownName) (.ref E_ParseError) = some false) (kt_WebError_ParseError : PySem.W.kitOne K (.ref E_WebError) (.ref E_ParseError) = some false) (kt_InvalidDrawing_RuntimeError : PySem.W.kitOne K (.ref E_InvalidDrawing) (.type "RuntimeError") = some false) (kt_InvalidGrowth_RuntimeError : PySem.W.kitOne K (.ref E_InvalidGrowth) (.type "RuntimeError") = some false) (kt_InvalidModel_RuntimeError : PySem.W.kitOne K (.ref E_InvalidModel) (.type "RuntimeError") = some false) (kt_InvalidNumber_RuntimeError : PySem.W.kitOne K (.ref E_InvalidNumber) (.type "RuntimeError") = some false) (kt_InvalidOperation_RuntimeError : PySem.W.kitOne K (.ref E_InvalidOperation) (.type "RuntimeError") = some false) (kt_InvalidPart_RuntimeError : PySem.W.kitOne K (.ref E_InvalidPart) (.type "RuntimeError") = some false) (kt_InvalidPlace_RuntimeError : PySem.W.kitOne K (.ref E_InvalidPlace) (.type "RuntimeError") = some false) (kt_InvalidRoute_RuntimeError : PySem.W.kitOne K (.ref E_InvalidRoute) (.type "RuntimeError") = some false) (kt_InvalidStep_RuntimeError : PySem.W.kitOne K (.ref E_InvalidStep) (.type "RuntimeError") = some false) (kt_InvalidTie_RuntimeError : PySem.W.kitOne K (.ref E_InvalidTie) (.type "RuntimeError") = some false) (kt_InvalidWeb_RuntimeError : PySem.W.kitOne K (.ref E_InvalidWeb) (.type "RuntimeError") = some false) (kt_NothingToUndo_RuntimeError : PySem.W.kitOne K (.ref E_NothingToUndo) (.type "RuntimeError") = some true) (kt_ParseError_RuntimeError : PySem.W.kitOne K (.ref E_ParseError) (.type "RuntimeError") = some false) (kt_Parted_RuntimeError : PySem.W.kitOne K (.ref E_Parted) (.type "RuntimeError") = some false) (kt_Refused_RuntimeError : PySem.W.kitOne K (.ref E_Refused) (.type "RuntimeError") = some false) (kt_TooMany_RuntimeError : PySem.W.kitOne K (.ref E_TooMany) (.type "RuntimeError") = some false) (kt_UnknownName_RuntimeError : PySem.W.kitOne K (.ref E_UnknownName) (.type "RuntimeError") = some false) (kt_WebError_RuntimeError : PySem.W.kitOne K (.ref E_WebError) (.type "RuntimeError") = some false) (kt_InvalidDrawing_ValueError : PySem.W.kitOne K (.ref E_InvalidDrawing) (.type "ValueError") = some true) (kt_InvalidGrowth_ValueError : PySem.W.kitOne K (.ref E_InvalidGrowth) (.type "ValueError") = some true) (kt_InvalidModel_ValueError : PySem.W.kitOne K (.ref E_InvalidModel) (.type "ValueError") = some true) (kt_InvalidNumber_ValueError : PySem.W.kitOne K (.ref E_InvalidNumber) (.type "ValueError") = some false) (kt_InvalidOperation_ValueError : PySem.W.kitOne K (.ref E_InvalidOperation) (.type "ValueError") = some true) (kt_InvalidPart_ValueError : PySem.W.kitOne K (.ref E_InvalidPart) (.type "ValueError") = some true) (kt_InvalidPlace_ValueError : PySem.W.kitOne K (.ref E_InvalidPlace) (.type "ValueError") = some true) (kt_InvalidRoute_ValueError : PySem.W.kitOne K (.ref E_InvalidRoute) (.type "ValueError") = some true) (kt_InvalidStep_ValueError : PySem.W.kitOne K (.ref E_InvalidStep) (.type "ValueError") = some true) (kt_InvalidTie_ValueError : PySem.W.kitOne K (.ref E_InvalidTie) (.type "ValueError") = some true) (kt_InvalidWeb_ValueError : PySem.W.kitOne K (.ref E_InvalidWeb) (.type "ValueError") = some true) (kt_NothingToUndo_ValueError : PySem.W.kitOne K (.ref E_NothingToUndo) (.type "ValueError") = some false) (kt_ParseError_ValueError : PySem.W.kitOne K (.ref E_ParseError) (.type "ValueError") = some true) (kt_Parted_ValueError : PySem.W.kitOne K (.ref E_Parted) (.type "ValueError") = some false) (kt_Refused_ValueError : PySem.W.kitOne K (.ref E_Refused) (.type "ValueError") = some false) (kt_TooMany_ValueError : PySem.W.kitOne K (.ref E_TooMany) (.type "ValueError") = some false) (kt_UnknownName_ValueError : PySem.W.kitOne K (.ref E_UnknownName) (.type "ValueError") = some false) (kt_WebError_ValueError : PySem.W.kitOne K (.ref E_WebError) (.type "ValueError") = some true) (kt_InvalidDrawing_WebError : PySem.W.kitOne K (.ref E_InvalidDrawing) (.ref E_WebError) = some true) (kt_InvalidGrowth_WebError : PySem.W.kitOne K (.ref E_InvalidGrowth) (.ref E_WebError) = some true) (kt_InvalidModel_WebError : PySem.W.kitOne K (.ref E_InvalidModel) (.ref E_WebError) = some true) (kt_InvalidNumber_WebError : PySem.W.kitOne K (.ref E_InvalidNumber) (.ref E_WebError) = some false) (kt_InvalidOperation_WebError : PySem.W.kitOne K (.ref E_InvalidOperation) (.ref E_WebError) = some true) (kt_InvalidPart_WebError : PySem.W.kitOne K (.ref E_InvalidPart) (.ref E_WebError) = some true) (kt_InvalidPlace_WebError : PySem.W.kitOne K (.ref E_InvalidPlace) (.ref E_WebError) = some true) (kt_InvalidRoute_WebError : PySem.W.kitOne K (.ref E_InvalidRoute) (.ref E_WebError) = some true) (kt_InvalidStep_WebError : PySem.W.kitOne K (.ref E_InvalidStep) (.ref E_WebError) = some true) (kt_InvalidTie_WebError : PySem.W.kitOne K (.ref E_InvalidTie) (.ref E_WebError) = some true) (kt_InvalidWeb_WebError : PySem.W.kitOne K (.ref E_InvalidWeb) (.ref E_WebError) = some true) (kt_NothingToUndo_WebError : PySem.W.kitOne K (.ref E_NothingToUndo) (.ref E_WebError) = some false) (kt_ParseError_WebError : PySem.W.kitOne K (.ref E_ParseError) (.ref E_WebError) = some true) (kt_Parted_WebError : PySem.W.kitOne K (.ref E_Parted) (.ref E_WebError) = some false) (kt_Refused_WebError : PySem.W.kitOne K (.ref E_Refused) (.ref E_WebError) = some false) (kt_TooMany_WebError : PySem.W.kitOne K (.ref E_TooMany) (.ref E_WebError) = some false) (kt_UnknownName_WebError : PySem.W.kitOne K (.ref E_UnknownName) (.ref E_WebError) = some false) (kt_WebError_WebError : PySem.W.kitOne K (.ref E_WebError) (.ref E_WebError) = some true) (ex_InvalidDrawing_InvalidNumber : PySem.W.exmOne K (.ref E_InvalidDrawing) (.ref E_InvalidNumber) = some false) (ex_InvalidGrowth_InvalidNumber : PySem.W.exmOne K (.ref E_InvalidGrowth) (.ref E_InvalidNumber) = some false) (ex_InvalidModel_InvalidNumber : PySem.W.exmOne K (.ref E_InvalidModel) (.ref E_InvalidNumber) = some false) (ex_InvalidNumber_InvalidNumber : PySem.W.exmOne K (.ref E_InvalidNumber) (.ref E_InvalidNumber) = some true) (ex_InvalidOperation_InvalidNumber : PySem.W.exmOne K (.ref E_InvalidOperation) (.ref E_InvalidNumber) = some false) (ex_InvalidPart_InvalidNumber : PySem.W.exmOne K (.ref E_InvalidPart) (.ref E_InvalidNumber) = some false) (ex_InvalidPlace_InvalidNumber : PySem.W.exmOne K (.ref E_InvalidPlace) (.ref E_InvalidNumber) = some false) (ex_InvalidRoute_InvalidNumber : PySem.W.exmOne K (.ref E_InvalidRoute) (.ref E_InvalidNumber) = some false) (ex_InvalidStep_InvalidNumber : PySem.W.exmOne K (.ref E_InvalidStep) (.ref E_InvalidNumber) = some false) (ex_InvalidTie_InvalidNumber : PySem.W.exmOne K (.ref E_InvalidTie) (.ref E_InvalidNumber) = some false) (ex_InvalidWeb_InvalidNumber : PySem.W.exmOne K (.ref E_InvalidWeb) (.ref E_InvalidNumber) = some false) (ex_NothingToUndo_InvalidNumber : PySem.W.exmOne K (.ref E_NothingToUndo) (.ref E_InvalidNumber) = some false) (ex_ParseError_InvalidNumber : PySem.W.exmOne K (.ref E_ParseError) (.ref E_InvalidNumber) = some false) (ex_Parted_InvalidNumber : PySem.W.exmOne K (.ref E_Parted) (.ref E_InvalidNumber) = some false) (ex_Refused_InvalidNumber : PySem.W.exmOne K (.ref E_Refused) (.ref E_InvalidNumber) = some false) (ex_TooMany_InvalidNumber : PySem.W.exmOne K (.ref E_TooMany) (.ref E_InvalidNumber) = some false) (ex_UnknownName_InvalidNumber : PySem.W.exmOne K (.ref E_UnknownName) (.ref E_InvalidNumber) = some false) (ex_WebError_InvalidNumber : PySem.W.exmOne K (.ref E_WebError) (.ref E_InvalidNumber) = some false) (ex_InvalidDrawing_InvalidStep : PySem.W.exmOne K (.ref E_InvalidDrawing) (.ref E_InvalidStep) = some false) (ex_InvalidGrowth_InvalidStep : PySem.W.exmOne K (.ref E_InvalidGrowth) (.ref E_InvalidStep) = some false) (ex_InvalidModel_InvalidStep : PySem.W.exmOne K (.ref E_InvalidModel) (.ref E_InvalidStep) = some false) (ex_InvalidNumber_InvalidStep : PySem.W.exmOne K (.ref E_InvalidNumber) (.ref E_InvalidStep) = some false) (ex_InvalidOperation_InvalidStep : PySem.W.exmOne K (.ref E_InvalidOperation) (.ref E_InvalidStep) = some false) (ex_InvalidPart_InvalidStep : PySem.W.exmOne K (.ref E_InvalidPart) (.ref E_InvalidStep) = some false) (ex_InvalidPlace_InvalidStep : PySem.W.exmOne K (.ref E_InvalidPlace) (.ref E_InvalidStep) = some false) (ex_InvalidRoute_InvalidStep : PySem.W.exmOne K (.ref E_InvalidRoute) (.ref E_InvalidStep) = some false) (ex_InvalidStep_InvalidStep : PySem.W.exmOne K (.ref E_InvalidStep) (.ref E_InvalidStep) = some true) (ex_InvalidTie_InvalidStep : PySem.W.exmOne K (.ref E_InvalidTie) (.ref E_InvalidStep) = some false) (ex_InvalidWeb_InvalidStep : PySem.W.exmOne K (.ref E_InvalidWeb) (.ref E_InvalidStep) = some false) (ex_NothingToUndo_InvalidStep : PySem.W.exmOne K (.ref E_NothingToUndo) (.ref E_InvalidStep) = some false) (ex_ParseError_InvalidStep : PySem.W.exmOne K (.ref E_ParseError) (.ref E_InvalidStep) = some false) (ex_Parted_InvalidStep : PySem.W.exmOne K (.ref E_Parted) (.ref E_InvalidStep) = some false) (ex_Refused_InvalidStep : PySem.W.exmOne K (.ref E_Refused) (.ref E_InvalidStep) = some false) (ex_TooMany_InvalidStep : PySem.W.exmOne K (.ref E_TooMany) (.ref E_InvalidStep) = some false) (ex_UnknownName_InvalidStep : PySem.W.exmOne K (.ref E_UnknownName) (.ref E_InvalidStep) = some false) (ex_WebError_InvalidStep : PySem.W.exmOne K (.ref E_WebError) (.ref E_InvalidStep) = some false) (ex_InvalidDrawing_NothingToUndo : PySem.W.exmOne K (.ref E_InvalidDrawing) (.ref E_NothingToUndo) = some false) (ex_InvalidGrowth_NothingToUndo : PySem.W.exmOne K (.ref E_InvalidGrowth) (.ref E_NothingToUndo) = some false) (ex_InvalidModel_NothingToUndo : PySem.W.exmOne K (.ref E_InvalidModel) (.ref E_NothingToUndo) = some false) (ex_InvalidNumber_NothingToUndo : PySem.W.exmOne K (.ref E_InvalidNumber) (.ref E_NothingToUndo) = some false) (ex_InvalidOperation_NothingToUndo : PySem.W.exmOne K (.ref E_InvalidOperation) (.ref E_NothingToUndo) = some false) (ex_InvalidPart_NothingToUndo : PySem.W.exmOne K (.ref E_InvalidPart) (.ref E_NothingToUndo) = some false) (ex_InvalidPlace_NothingToUndo : PySem.W.exmOne K (.ref E_InvalidPlace) (.ref E_NothingToUndo) = some false) (ex_InvalidRoute_NothingToUndo : PySem.W.exmOne K (.ref E_InvalidRoute) (.ref E_NothingToUndo) = some false) (ex_InvalidStep_NothingToUndo : PySem.W.exmOne K (.ref E_InvalidStep) (.ref E_NothingToUndo) = some false) (ex_InvalidTie_NothingToUndo : PySem.W.exmOne K (.ref E_InvalidTie) (.ref E_NothingToUndo) = some false) (ex_InvalidWeb_NothingToUndo : PySem.W.exmOne K (.ref E_InvalidWeb) (.ref E_NothingToUndo) = some false) (ex_NothingToUndo_NothingToUndo : PySem.W.exmOne K (.ref E_NothingToUndo) (.ref E_NothingToUndo) = some true) (ex_ParseError_NothingToUndo : PySem.W.exmOne K (.ref E_ParseError) (.ref E_NothingToUndo) = some false) (ex_Parted_NothingToUndo : PySem.W.exmOne K (.ref E_Parted) (.ref E_NothingToUndo) = some false) (ex_Refused_NothingToUndo : PySem.W.exmOne K (.ref E_Refused) (.ref E_NothingToUndo) = some false) (ex_TooMany_NothingToUndo : PySem.W.exmOne K (.ref E_TooMany) (.ref E_NothingToUndo) = some false) (ex_UnknownName_NothingToUndo : PySem.W.exmOne K (.ref E_UnknownName) (.ref E_NothingToUndo) = some false) (ex_WebError_NothingToUndo : PySem.W.exmOne K (.ref E_WebError) (.ref E_NothingToUndo) = some false) (ex_InvalidDrawing_ParseError : PySem.W.exmOne K (.ref E_InvalidDrawing) (.ref E_ParseError) = some false) (ex_InvalidGrowth_ParseError : PySem.W.exmOne K (.ref E_InvalidGrowth) (.ref E_ParseError) = some false) (ex_InvalidModel_ParseError : PySem.W.exmOne K (.ref E_InvalidModel) (.ref E_ParseError) = some false) (ex_InvalidNumber_ParseError : PySem.W.exmOne K (.ref E_InvalidNumber) (.ref E_ParseError) = some false) (ex_InvalidOperation_ParseError : PySem.W.exmOne K (.ref E_InvalidOperation) (.ref E_ParseError) = some false) (ex_InvalidPart_ParseError : PySem.W.exmOne K (.ref E_InvalidPart) (.ref E_ParseError) = some false) (ex_InvalidPlace_ParseError : PySem.W.exmOne K (.ref E_InvalidPlace) (.ref E_ParseError) = some false) (ex_InvalidRoute_ParseError : PySem.W.exmOne K (.ref E_InvalidRoute) (.ref E_ParseError) = some false) (ex_InvalidStep_ParseError : PySem.W.exmOne K (.ref E_InvalidStep) (.ref E_ParseError) = some false) (ex_InvalidTie_ParseError : PySem.W.exmOne K (.ref E_InvalidTie) (.ref E_ParseError) = some false) (ex_InvalidWeb_ParseError : PySem.W.exmOne K (.ref E_InvalidWeb) (.ref E_ParseError) = some false) (ex_NothingToUndo_ParseError : PySem.W.exmOne K (.ref E_NothingToUndo) (.ref E_ParseError) = some false) (ex_ParseError_ParseError : PySem.W.exmOne K (.ref E_ParseError) (.ref E_ParseError) = some true) (ex_Parted_ParseError : PySem.W.exmOne K (.ref E_Parted) (.ref E_ParseError) = some false) (ex_Refused_ParseError : PySem.W.exmOne K (.ref E_Refused) (.ref E_ParseError) = some false) (ex_TooMany_ParseError : PySem.W.exmOne K (.ref E_TooMany) (.ref E_ParseError) = some false) (ex_UnknownName_ParseError : PySem.W.exmOne K (.ref E_UnknownName) (.ref E_ParseError) = some false) (ex_WebError_ParseError : PySem.W.exmOne K (.ref E_WebError) (.ref E_ParseError) = some false) (ex_InvalidDrawing_Parted : PySem.W.exmOne K (.ref E_InvalidDrawing) (.ref E_Parted) = some false) (ex_InvalidGrowth_Parted : PySem.W.exmOne K (.ref E_InvalidGrowth) (.ref E_Parted) = some false) (ex_InvalidModel_Parted : PySem.W.exmOne K (.ref E_InvalidModel) (.ref E_Parted) = some false) (ex_InvalidNumber_Parted : PySem.W.exmOne K (.ref E_InvalidNumber) (.ref E_Parted) = some false) (ex_InvalidOperation_Parted : PySem.W.exmOne K (.ref E_InvalidOperation) (.ref E_Parted) = some false) (ex_InvalidPart_Parted : PySem.W.exmOne K (.ref E_InvalidPart) (.ref E_Parted) = some false) (ex_InvalidPlace_Parted : PySem.W.exmOne K (.ref E_InvalidPlace) (.ref E_Parted) = some false) (ex_InvalidRoute_Parted : PySem.W.exmOne K (.ref E_InvalidRoute) (.ref E_Parted) = some false) (ex_InvalidStep_Parted : PySem.W.exmOne K (.ref E_InvalidStep) (.ref E_Parted) = some false) (ex_InvalidTie_Parted : PySem.W.exmOne K (.ref E_InvalidTie) (.ref E_Parted) = some false) (ex_InvalidWeb_Parted : PySem.W.exmOne K (.ref E_InvalidWeb) (.ref E_Parted) = some false) (ex_NothingToUndo_Parted : PySem.W.exmOne K (.ref E_NothingToUndo) (.ref E_Parted) = some false) (ex_ParseError_Parted : PySem.W.exmOne K (.ref E_ParseError) (.ref E_Parted) = some false) (ex_Parted_Parted : PySem.W.exmOne K (.ref E_Parted) (.ref E_Parted) = some true) (ex_Refused_Parted : PySem.W.exmOne K (.ref E_Refused) (.ref E_Parted) = some false) (ex_TooMany_Parted : PySem.W.exmOne K (.ref E_TooMany) (.ref E_Parted) = some false) (ex_UnknownName_Parted : PySem.W.exmOne K (.ref E_UnknownName) (.ref E_Parted) = some false) (ex_WebError_Parted : PySem.W.exmOne K (.ref E_WebError) (.ref E_Parted) = some false) (ex_InvalidDrawing_Refused : PySem.W.exmOne K (.ref E_InvalidDrawing) (.ref E_Refused) = some false) (ex_InvalidGrowth_Refused : PySem.W.exmOne K (.ref E_InvalidGrowth) (.ref E_Refused) = some false) (ex_InvalidModel_Refused : PySem.W.exmOne K (.ref E_InvalidModel) (.ref E_Refused) = some false) (ex_InvalidNumber_Refused : PySem.W.exmOne K (.ref E_InvalidNumber) (.ref E_Refused) = some false) (ex_InvalidOperation_Refused : PySem.W.exmOne K (.ref E_InvalidOperation) (.ref E_Refused) = some false) (ex_InvalidPart_Refused : PySem.W.exmOne K (.ref E_InvalidPart) (.ref E_Refused) = some false) (ex_InvalidPlace_Refused : PySem.W.exmOne K (.ref E_InvalidPlace) (.ref E_Refused) = some false) (ex_InvalidRoute_Refused : PySem.W.exmOne K (.ref E_InvalidRoute) (.ref E_Refused) = some false) (ex_InvalidStep_Refused : PySem.W.exmOne K (.ref E_InvalidStep) (.ref E_Refused) = some false) (ex_InvalidTie_Refused : PySem.W.exmOne K (.ref E_InvalidTie) (.ref E_Refused) = some false) (ex_InvalidWeb_Refused : PySem.W.exmOne K (.ref E_InvalidWeb) (.ref E_Refused) = some false) (ex_NothingToUndo_Refused : PySem.W.exmOne K (.ref E_NothingToUndo) (.ref E_Refused) = some false) (ex_ParseError_Refused : PySem.W.exmOne K (.ref E_ParseError) (.ref E_Refused) = some false) (ex_Parted_Refused : PySem.W.exmOne K (.ref E_Parted) (.ref E_Refused) = some false) (ex_Refused_Refused : PySem.W.exmOne K (.ref E_Refused) (.ref E_Refused) = some true) (ex_TooMany_Refused : PySem.W.exmOne K (.ref E_TooMany) (.ref E_Refused) = some false) (ex_UnknownName_Refused : PySem.W.exmOne K (.ref E_UnknownName) (.ref E_Refused) = some false) (ex_WebError_Refused : PySem.W.exmOne K (.ref E_WebError) (.ref E_Refused) = some false) (ex_InvalidDrawing_TooMany : PySem.W.exmOne K (.ref E_InvalidDrawing) (.ref E_TooMany) = some false) (ex_InvalidGrowth_TooMany : PySem.W.exmOne K (.ref E_InvalidGrowth) (.ref E_TooMany) = some false) (ex_InvalidModel_TooMany : PySem.W.exmOne K (.ref E_InvalidModel) (.ref E_TooMany) = some false) (ex_InvalidNumber_TooMany : PySem.W.exmOne K (.ref E_InvalidNumber) (.ref E_TooMany) = some false) (ex_InvalidOperation_TooMany : PySem.W.exmOne K (.ref E_InvalidOperation) (.ref E_TooMany) = some false) (ex_InvalidPart_TooMany : PySem.W.exmOne K (.ref E_InvalidPart) (.ref E_TooMany) = some false) (ex_InvalidPlace_TooMany : PySem.W.exmOne K (.ref E_InvalidPlace) (.ref E_TooMany) = some false) (ex_InvalidRoute_TooMany : PySem.W.exmOne K (.ref E_InvalidRoute) (.ref E_TooMany) = some false) (ex_InvalidStep_TooMany : PySem.W.exmOne K (.ref E_InvalidStep) (.ref E_TooMany) = some false) (ex_InvalidTie_TooMany : PySem.W.exmOne K (.ref E_InvalidTie) (.ref E_TooMany) = some false) (ex_InvalidWeb_TooMany : PySem.W.exmOne K (.ref E_InvalidWeb) (.ref E_TooMany) = some false) (ex_NothingToUndo_TooMany : PySem.W.exmOne K (.ref E_NothingToUndo) (.ref E_TooMany) = some false) (ex_ParseError_TooMany : PySem.W.exmOne K (.ref E_ParseError) (.ref E_TooMany) = some false) (ex_Parted_TooMany : PySem.W.exmOne K (.ref E_Parted) (.ref E_TooMany) = some false) (ex_Refused_TooMany : PySem.W.exmOne K (.ref E_Refused) (.ref E_TooMany) = some false) (ex_TooMany_TooMany : PySem.W.exmOne K (.ref E_TooMany) (.ref E_TooMany) = some true) (ex_UnknownName_TooMany : PySem.W.exmOne K (.ref E_UnknownName) (.ref E_TooMany) = some false) (ex_WebError_TooMany : PySem.W.exmOne K (.ref E_WebError) (.ref E_TooMany) = some false) (ex_InvalidDrawing_UnknownName : PySem.W.exmOne K (.ref E_InvalidDrawing) (.ref E_UnknownName) = some false) (ex_InvalidGrowth_UnknownName : PySem.W.exmOne K (.ref E_InvalidGrowth) (.ref E_UnknownName) = some false) (ex_InvalidModel_UnknownName : PySem.W.exmOne K (.ref E_InvalidModel) (.ref E_UnknownName) = some false) (ex_InvalidNumber_UnknownName : PySem.W.exmOne K (.ref E_InvalidNumber) (.ref E_UnknownName) = some false) (ex_InvalidOperation_UnknownName : PySem.W.exmOne K (.ref E_InvalidOperation) (.ref E_UnknownName) = some false) (ex_InvalidPart_UnknownName : PySem.W.exmOne K (.ref E_InvalidPart) (.ref E_UnknownName) = some false) (ex_InvalidPlace_UnknownName : PySem.W.exmOne K (.ref E_InvalidPlace) (.ref E_UnknownName) = some false) (ex_InvalidRoute_UnknownName : PySem.W.exmOne K (.ref E_InvalidRoute) (.ref E_UnknownName) = some false) (ex_InvalidStep_UnknownName : PySem.W.exmOne K (.ref E_InvalidStep) (.ref E_UnknownName) = some false) (ex_InvalidTie_UnknownName : PySem.W.exmOne K (.ref E_InvalidTie) (.ref E_UnknownName) = some false) (ex_InvalidWeb_UnknownName : PySem.W.exmOne K (.ref E_InvalidWeb) (.ref E_UnknownName) = some false) (ex_NothingToUndo_UnknownName : PySem.W.exmOne K (.ref E_NothingToUndo) (.ref E_UnknownName) = some false) (ex_ParseError_UnknownName : PySem.W.exmOne K (.ref E_ParseError) (.ref E_UnknownName) = some false) (ex_Parted_UnknownName : PySem.W.exmOne K (.ref E_Parted) (.ref E_UnknownName) = some false) (ex_Refused_UnknownName : PySem.W.exmOne K (.ref E_Refused) (.ref E_UnknownName) = some false) (ex_TooMany_UnknownName : PySem.W.exmOne K (.ref E_TooMany) (.ref E_UnknownName) = some false) (ex_UnknownName_UnknownName : PySem.W.exmOne K (.ref E_UnknownName) (.ref E_UnknownName) = some true) (ex_WebError_UnknownName : PySem.W.exmOne K (.ref E_WebError) (.ref E_UnknownName) = some false) (ex_InvalidDrawing_WebError : PySem.W.exmOne K (.ref E_InvalidDrawing) (.ref E_WebError) = some true) (ex_InvalidGrowth_WebError : PySem.W.exmOne K (.ref E_InvalidGrowth) (.ref E_WebError) = some true) (ex_InvalidModel_WebError : PySem.W.exmOne K (.ref E_InvalidModel) (.ref E_WebError) = some true) (ex_InvalidNumber_WebError : PySem.W.exmOne K (.ref E_InvalidNumber) (.ref E_WebError) = some false) (ex_InvalidOperation_WebError : PySem.W.exmOne K (.ref E_InvalidOperation) (.ref E_WebError) = some true) (ex_InvalidPart_WebError : PySem.W.exmOne K (.ref E_InvalidPart) (.ref E_WebError) = some true) (ex_InvalidPlace_WebError : PySem.W.exmOne K (.ref E_InvalidPlace) (.ref E_WebError) = some true) (ex_InvalidRoute_WebError : PySem.W.exmOne K (.ref E_InvalidRoute) (.ref E_WebError) = some true) (ex_InvalidStep_WebError : PySem.W.exmOne K (.ref E_InvalidStep) (.ref E_WebError) = some true) (ex_InvalidTie_WebError : PySem.W.exmOne K (.ref E_InvalidTie) (.ref E_WebError) = some true) (ex_InvalidWeb_WebError : PySem.W.exmOne K (.ref E_InvalidWeb) (.ref E_WebError) = some true) (ex_NothingToUndo_WebError : PySem.W.exmOne K (.ref E_NothingToUndo) (.ref E_WebError) = some false) (ex_ParseError_WebError : PySem.W.exmOne K (.ref E_ParseError) (.ref E_WebError) = some true) (ex_Parted_WebError : PySem.W.exmOne K (.ref E_Parted) (.ref E_WebError) = some false) (ex_Refused_WebError : PySem.W.exmOne K (.ref E_Refused) (.ref E_WebError) = some false) (ex_TooMany_WebError : PySem.W.exmOne K (.ref E_TooMany) (.ref E_WebError) = some false) (ex_UnknownName_WebError : PySem.W.exmOne K (.ref E_UnknownName) (.ref E_WebError) = some false) (ex_WebError_WebError : PySem.W.exmOne K (.ref E_WebError) (.ref E_WebError) = some true) :
    ∃ fd : FuncData, (∀ (s : Shared) (v : Value), BindsTo s fd ⟨[v], []⟩ [("script", v)]) ∧ ∀ base : Heap, K.In base → base.Ns mainGlobals mg → FnG l.prog w K mg base (L2.CX l.prog w) 4 fa fd ["script"] (spA w K f_law) := by
  have e := hfa.symm.trans (PySem.W.mg_of X G a9)
  cases e
  have T : Txt l.prog K mg := ⟨PySem.W.mg_none_of X G z_ArithmeticError, PySem.W.mg_none_of X G z_IndexError, PySem.W.mg_none_of X G z_KeyError, PySem.W.mg_none_of X G z_LookupError, PySem.W.mg_none_of X G z_OverflowError, PySem.W.mg_none_of X G z_RuntimeError, PySem.W.mg_none_of X G z_ValueError, PySem.W.mg_none_of X G z_abs, PySem.W.mg_none_of X G z_int, PySem.W.mg_none_of X G z_isinstance, PySem.W.mg_none_of X G z_len, PySem.W.mg_none_of X G z_max, PySem.W.mg_none_of X G z_min, PySem.W.mg_none_of X G z_range, PySem.W.mg_none_of X G z_repr, PySem.W.mg_none_of X G z_super, ⟨_, _, _, _, _, PySem.F.excBase_ValueError, eq_InvalidDrawing, PySem.W.mg_of X G ea_InvalidDrawing, ek_InvalidDrawing, es_InvalidDrawing, et_InvalidDrawing⟩, ⟨_, _, _, _, _, PySem.F.excBase_ValueError, eq_InvalidGrowth, PySem.W.mg_of X G ea_InvalidGrowth, ek_InvalidGrowth, es_InvalidGrowth, et_InvalidGrowth⟩, ⟨_, _, _, _, _, PySem.F.excBase_ValueError, eq_InvalidModel, PySem.W.mg_of X G ea_InvalidModel, ek_InvalidModel, es_InvalidModel, et_InvalidModel⟩, ⟨_, _, _, _, _, PySem.F.excBase_ValueError, eq_InvalidOperation, PySem.W.mg_of X G ea_InvalidOperation, ek_InvalidOperation, es_InvalidOperation, et_InvalidOperation⟩, ⟨_, _, _, _, _, PySem.F.excBase_ValueError, eq_InvalidPart, PySem.W.mg_of X G ea_InvalidPart, ek_InvalidPart, es_InvalidPart, et_InvalidPart⟩, ⟨_, _, _, _, _, PySem.F.excBase_ValueError, eq_InvalidPlace, PySem.W.mg_of X G ea_InvalidPlace, ek_InvalidPlace, es_InvalidPlace, et_InvalidPlace⟩, ⟨_, _, _, _, _, PySem.F.excBase_ValueError, eq_InvalidRoute, PySem.W.mg_of X G ea_InvalidRoute, ek_InvalidRoute, es_InvalidRoute, et_InvalidRoute⟩, ⟨_, _, _, _, _, PySem.F.excBase_ValueError, eq_InvalidStep, PySem.W.mg_of X G ea_InvalidStep, ek_InvalidStep, es_InvalidStep, et_InvalidStep⟩, ⟨_, _, _, _, _, PySem.F.excBase_ValueError, eq_InvalidTie, PySem.W.mg_of X G ea_InvalidTie, ek_InvalidTie, es_InvalidTie, et_InvalidTie⟩, ⟨_, _, _, _, _, PySem.F.excBase_ValueError, eq_InvalidWeb, PySem.W.mg_of X G ea_InvalidWeb, ek_InvalidWeb, es_InvalidWeb, et_InvalidWeb⟩, ⟨_, _, _, _, _, PySem.F.excBase_ValueError, eq_WebError, PySem.W.mg_of X G ea_WebError, ek_WebError, es_WebError, et_WebError⟩, ⟨_, .inl (PySem.W.mg_of X G ea_InvalidNumber), catch_cons (PySem.W.mg_of X G ea_InvalidDrawing) ex_InvalidDrawing_InvalidNumber (catch_cons (PySem.W.mg_of X G ea_InvalidGrowth) ex_InvalidGrowth_InvalidNumber (catch_cons (PySem.W.mg_of X G ea_InvalidModel) ex_InvalidModel_InvalidNumber (catch_cons (PySem.W.mg_of X G ea_InvalidNumber) ex_InvalidNumber_InvalidNumber (catch_cons (PySem.W.mg_of X G ea_InvalidOperation) ex_InvalidOperation_InvalidNumber (catch_cons (PySem.W.mg_of X G ea_InvalidPart) ex_InvalidPart_InvalidNumber (catch_cons (PySem.W.mg_of X G ea_InvalidPlace) ex_InvalidPlace_InvalidNumber (catch_cons (PySem.W.mg_of X G ea_InvalidRoute) ex_InvalidRoute_InvalidNumber (catch_cons (PySem.W.mg_of X G ea_InvalidStep) ex_InvalidStep_InvalidNumber (catch_cons (PySem.W.mg_of X G ea_InvalidTie) ex_InvalidTie_InvalidNumber (catch_cons (PySem.W.mg_of X G ea_InvalidWeb) ex_InvalidWeb_InvalidNumber (catch_cons (PySem.W.mg_of X G ea_NothingToUndo) ex_NothingToUndo_InvalidNumber (catch_cons (PySem.W.mg_of X G ea_ParseError) ex_ParseError_InvalidNumber (catch_cons (PySem.W.mg_of X G ea_Parted) ex_Parted_InvalidNumber (catch_cons (PySem.W.mg_of X G ea_Refused) ex_Refused_InvalidNumber (catch_cons (PySem.W.mg_of X G ea_TooMany) ex_TooMany_InvalidNumber (catch_cons (PySem.W.mg_of X G ea_UnknownName) ex_UnknownName_InvalidNumber (catch_cons (PySem.W.mg_of X G ea_WebError) ex_WebError_InvalidNumber (catch_nil))))))))))))))))))⟩, ⟨_, .inl (PySem.W.mg_of X G ea_InvalidStep), catch_cons (PySem.W.mg_of X G ea_InvalidDrawing) ex_InvalidDrawing_InvalidStep (catch_cons (PySem.W.mg_of X G ea_InvalidGrowth) ex_InvalidGrowth_InvalidStep (catch_cons (PySem.W.mg_of X G ea_InvalidModel) ex_InvalidModel_InvalidStep (catch_cons (PySem.W.mg_of X G ea_InvalidNumber) ex_InvalidNumber_InvalidStep (catch_cons (PySem.W.mg_of X G ea_InvalidOperation) ex_InvalidOperation_InvalidStep (catch_cons (PySem.W.mg_of X G ea_InvalidPart) ex_InvalidPart_InvalidStep (catch_cons (PySem.W.mg_of X G ea_InvalidPlace) ex_InvalidPlace_InvalidStep (catch_cons (PySem.W.mg_of X G ea_InvalidRoute) ex_InvalidRoute_InvalidStep (catch_cons (PySem.W.mg_of X G ea_InvalidStep) ex_InvalidStep_InvalidStep (catch_cons (PySem.W.mg_of X G ea_InvalidTie) ex_InvalidTie_InvalidStep (catch_cons (PySem.W.mg_of X G ea_InvalidWeb) ex_InvalidWeb_InvalidStep (catch_cons (PySem.W.mg_of X G ea_NothingToUndo) ex_NothingToUndo_InvalidStep (catch_cons (PySem.W.mg_of X G ea_ParseError) ex_ParseError_InvalidStep (catch_cons (PySem.W.mg_of X G ea_Parted) ex_Parted_InvalidStep (catch_cons (PySem.W.mg_of X G ea_Refused) ex_Refused_InvalidStep (catch_cons (PySem.W.mg_of X G ea_TooMany) ex_TooMany_InvalidStep (catch_cons (PySem.W.mg_of X G ea_UnknownName) ex_UnknownName_InvalidStep (catch_cons (PySem.W.mg_of X G ea_WebError) ex_WebError_InvalidStep (catch_nil))))))))))))))))))⟩, ⟨_, .inl (PySem.W.mg_of X G ea_NothingToUndo), catch_cons (PySem.W.mg_of X G ea_InvalidDrawing) ex_InvalidDrawing_NothingToUndo (catch_cons (PySem.W.mg_of X G ea_InvalidGrowth) ex_InvalidGrowth_NothingToUndo (catch_cons (PySem.W.mg_of X G ea_InvalidModel) ex_InvalidModel_NothingToUndo (catch_cons (PySem.W.mg_of X G ea_InvalidNumber) ex_InvalidNumber_NothingToUndo (catch_cons (PySem.W.mg_of X G ea_InvalidOperation) ex_InvalidOperation_NothingToUndo (catch_cons (PySem.W.mg_of X G ea_InvalidPart) ex_InvalidPart_NothingToUndo (catch_cons (PySem.W.mg_of X G ea_InvalidPlace) ex_InvalidPlace_NothingToUndo (catch_cons (PySem.W.mg_of X G ea_InvalidRoute) ex_InvalidRoute_NothingToUndo (catch_cons (PySem.W.mg_of X G ea_InvalidStep) ex_InvalidStep_NothingToUndo (catch_cons (PySem.W.mg_of X G ea_InvalidTie) ex_InvalidTie_NothingToUndo (catch_cons (PySem.W.mg_of X G ea_InvalidWeb) ex_InvalidWeb_NothingToUndo (catch_cons (PySem.W.mg_of X G ea_NothingToUndo) ex_NothingToUndo_NothingToUndo (catch_cons (PySem.W.mg_of X G ea_ParseError) ex_ParseError_NothingToUndo (catch_cons (PySem.W.mg_of X G ea_Parted) ex_Parted_NothingToUndo (catch_cons (PySem.W.mg_of X G ea_Refused) ex_Refused_NothingToUndo (catch_cons (PySem.W.mg_of X G ea_TooMany) ex_TooMany_NothingToUndo (catch_cons (PySem.W.mg_of X G ea_UnknownName) ex_UnknownName_NothingToUndo (catch_cons (PySem.W.mg_of X G ea_WebError) ex_WebError_NothingToUndo (catch_nil))))))))))))))))))⟩, ⟨_, .inl (PySem.W.mg_of X G ea_ParseError), catch_cons (PySem.W.mg_of X G ea_InvalidDrawing) ex_InvalidDrawing_ParseError (catch_cons (PySem.W.mg_of X G ea_InvalidGrowth) ex_InvalidGrowth_ParseError (catch_cons (PySem.W.mg_of X G ea_InvalidModel) ex_InvalidModel_ParseError (catch_cons (PySem.W.mg_of X G ea_InvalidNumber) ex_InvalidNumber_ParseError (catch_cons (PySem.W.mg_of X G ea_InvalidOperation) ex_InvalidOperation_ParseError (catch_cons (PySem.W.mg_of X G ea_InvalidPart) ex_InvalidPart_ParseError (catch_cons (PySem.W.mg_of X G ea_InvalidPlace) ex_InvalidPlace_ParseError (catch_cons (PySem.W.mg_of X G ea_InvalidRoute) ex_InvalidRoute_ParseError (catch_cons (PySem.W.mg_of X G ea_InvalidStep) ex_InvalidStep_ParseError (catch_cons (PySem.W.mg_of X G ea_InvalidTie) ex_InvalidTie_ParseError (catch_cons (PySem.W.mg_of X G ea_InvalidWeb) ex_InvalidWeb_ParseError (catch_cons (PySem.W.mg_of X G ea_NothingToUndo) ex_NothingToUndo_ParseError (catch_cons (PySem.W.mg_of X G ea_ParseError) ex_ParseError_ParseError (catch_cons (PySem.W.mg_of X G ea_Parted) ex_Parted_ParseError (catch_cons (PySem.W.mg_of X G ea_Refused) ex_Refused_ParseError (catch_cons (PySem.W.mg_of X G ea_TooMany) ex_TooMany_ParseError (catch_cons (PySem.W.mg_of X G ea_UnknownName) ex_UnknownName_ParseError (catch_cons (PySem.W.mg_of X G ea_WebError) ex_WebError_ParseError (catch_nil))))))))))))))))))⟩, ⟨_, .inl (PySem.W.mg_of X G ea_Parted), catch_cons (PySem.W.mg_of X G ea_InvalidDrawing) ex_InvalidDrawing_Parted (catch_cons (PySem.W.mg_of X G ea_InvalidGrowth) ex_InvalidGrowth_Parted (catch_cons (PySem.W.mg_of X G ea_InvalidModel) ex_InvalidModel_Parted (catch_cons (PySem.W.mg_of X G ea_InvalidNumber) ex_InvalidNumber_Parted (catch_cons (PySem.W.mg_of X G ea_InvalidOperation) ex_InvalidOperation_Parted (catch_cons (PySem.W.mg_of X G ea_InvalidPart) ex_InvalidPart_Parted (catch_cons (PySem.W.mg_of X G ea_InvalidPlace) ex_InvalidPlace_Parted (catch_cons (PySem.W.mg_of X G ea_InvalidRoute) ex_InvalidRoute_Parted (catch_cons (PySem.W.mg_of X G ea_InvalidStep) ex_InvalidStep_Parted (catch_cons (PySem.W.mg_of X G ea_InvalidTie) ex_InvalidTie_Parted (catch_cons (PySem.W.mg_of X G ea_InvalidWeb) ex_InvalidWeb_Parted (catch_cons (PySem.W.mg_of X G ea_NothingToUndo) ex_NothingToUndo_Parted (catch_cons (PySem.W.mg_of X G ea_ParseError) ex_ParseError_Parted (catch_cons (PySem.W.mg_of X G ea_Parted) ex_Parted_Parted (catch_cons (PySem.W.mg_of X G ea_Refused) ex_Refused_Parted (catch_cons (PySem.W.mg_of X G ea_TooMany) ex_TooMany_Parted (catch_cons (PySem.W.mg_of X G ea_UnknownName) ex_UnknownName_Parted (catch_cons (PySem.W.mg_of X G ea_WebError) ex_WebError_Parted (catch_nil))))))))))))))))))⟩, ⟨_, .inl (PySem.W.mg_of X G ea_Refused), catch_cons (PySem.W.mg_of X G ea_InvalidDrawing) ex_InvalidDrawing_Refused (catch_cons (PySem.W.mg_of X G ea_InvalidGrowth) ex_InvalidGrowth_Refused (catch_cons (PySem.W.mg_of X G ea_InvalidModel) ex_InvalidModel_Refused (catch_cons (PySem.W.mg_of X G ea_InvalidNumber) ex_InvalidNumber_Refused (catch_cons (PySem.W.mg_of X G ea_InvalidOperation) ex_InvalidOperation_Refused (catch_cons (PySem.W.mg_of X G ea_InvalidPart) ex_InvalidPart_Refused (catch_cons (PySem.W.mg_of X G ea_InvalidPlace) ex_InvalidPlace_Refused (catch_cons (PySem.W.mg_of X G ea_InvalidRoute) ex_InvalidRoute_Refused (catch_cons (PySem.W.mg_of X G ea_InvalidStep) ex_InvalidStep_Refused (catch_cons (PySem.W.mg_of X G ea_InvalidTie) ex_InvalidTie_Refused (catch_cons (PySem.W.mg_of X G ea_InvalidWeb) ex_InvalidWeb_Refused (catch_cons (PySem.W.mg_of X G ea_NothingToUndo) ex_NothingToUndo_Refused (catch_cons (PySem.W.mg_of X G ea_ParseError) ex_ParseError_Refused (catch_cons (PySem.W.mg_of X G ea_Parted) ex_Parted_Refused (catch_cons (PySem.W.mg_of X G ea_Refused) ex_Refused_Refused (catch_cons (PySem.W.mg_of X G ea_TooMany) ex_TooMany_Refused (catch_cons (PySem.W.mg_of X G ea_UnknownName) ex_UnknownName_Refused (catch_cons (PySem.W.mg_of X G ea_WebError) ex_WebError_Refused (catch_nil))))))))))))))))))⟩, ⟨_, .inl (PySem.W.mg_of X G ea_TooMany), catch_cons (PySem.W.mg_of X G ea_InvalidDrawing) ex_InvalidDrawing_TooMany (catch_cons (PySem.W.mg_of X G ea_InvalidGrowth) ex_InvalidGrowth_TooMany (catch_cons (PySem.W.mg_of X G ea_InvalidModel) ex_InvalidModel_TooMany (catch_cons (PySem.W.mg_of X G ea_InvalidNumber) ex_InvalidNumber_TooMany (catch_cons (PySem.W.mg_of X G ea_InvalidOperation) ex_InvalidOperation_TooMany (catch_cons (PySem.W.mg_of X G ea_InvalidPart) ex_InvalidPart_TooMany (catch_cons (PySem.W.mg_of X G ea_InvalidPlace) ex_InvalidPlace_TooMany (catch_cons (PySem.W.mg_of X G ea_InvalidRoute) ex_InvalidRoute_TooMany (catch_cons (PySem.W.mg_of X G ea_InvalidStep) ex_InvalidStep_TooMany (catch_cons (PySem.W.mg_of X G ea_InvalidTie) ex_InvalidTie_TooMany (catch_cons (PySem.W.mg_of X G ea_InvalidWeb) ex_InvalidWeb_TooMany (catch_cons (PySem.W.mg_of X G ea_NothingToUndo) ex_NothingToUndo_TooMany (catch_cons (PySem.W.mg_of X G ea_ParseError) ex_ParseError_TooMany (catch_cons (PySem.W.mg_of X G ea_Parted) ex_Parted_TooMany (catch_cons (PySem.W.mg_of X G ea_Refused) ex_Refused_TooMany (catch_cons (PySem.W.mg_of X G ea_TooMany) ex_TooMany_TooMany (catch_cons (PySem.W.mg_of X G ea_UnknownName) ex_UnknownName_TooMany (catch_cons (PySem.W.mg_of X G ea_WebError) ex_WebError_TooMany (catch_nil))))))))))))))))))⟩, ⟨_, .inl (PySem.W.mg_of X G ea_UnknownName), catch_cons (PySem.W.mg_of X G ea_InvalidDrawing) ex_InvalidDrawing_UnknownName (catch_cons (PySem.W.mg_of X G ea_InvalidGrowth) ex_InvalidGrowth_UnknownName (catch_cons (PySem.W.mg_of X G ea_InvalidModel) ex_InvalidModel_UnknownName (catch_cons (PySem.W.mg_of X G ea_InvalidNumber) ex_InvalidNumber_UnknownName (catch_cons (PySem.W.mg_of X G ea_InvalidOperation) ex_InvalidOperation_UnknownName (catch_cons (PySem.W.mg_of X G ea_InvalidPart) ex_InvalidPart_UnknownName (catch_cons (PySem.W.mg_of X G ea_InvalidPlace) ex_InvalidPlace_UnknownName (catch_cons (PySem.W.mg_of X G ea_InvalidRoute) ex_InvalidRoute_UnknownName (catch_cons (PySem.W.mg_of X G ea_InvalidStep) ex_InvalidStep_UnknownName (catch_cons (PySem.W.mg_of X G ea_InvalidTie) ex_InvalidTie_UnknownName (catch_cons (PySem.W.mg_of X G ea_InvalidWeb) ex_InvalidWeb_UnknownName (catch_cons (PySem.W.mg_of X G ea_NothingToUndo) ex_NothingToUndo_UnknownName (catch_cons (PySem.W.mg_of X G ea_ParseError) ex_ParseError_UnknownName (catch_cons (PySem.W.mg_of X G ea_Parted) ex_Parted_UnknownName (catch_cons (PySem.W.mg_of X G ea_Refused) ex_Refused_UnknownName (catch_cons (PySem.W.mg_of X G ea_TooMany) ex_TooMany_UnknownName (catch_cons (PySem.W.mg_of X G ea_UnknownName) ex_UnknownName_UnknownName (catch_cons (PySem.W.mg_of X G ea_WebError) ex_WebError_UnknownName (catch_nil))))))))))))))))))⟩, ⟨_, .inl (PySem.W.mg_of X G ea_WebError), catch_cons (PySem.W.mg_of X G ea_InvalidDrawing) ex_InvalidDrawing_WebError (catch_cons (PySem.W.mg_of X G ea_InvalidGrowth) ex_InvalidGrowth_WebError (catch_cons (PySem.W.mg_of X G ea_InvalidModel) ex_InvalidModel_WebError (catch_cons (PySem.W.mg_of X G ea_InvalidNumber) ex_InvalidNumber_WebError (catch_cons (PySem.W.mg_of X G ea_InvalidOperation) ex_InvalidOperation_WebError (catch_cons (PySem.W.mg_of X G ea_InvalidPart) ex_InvalidPart_WebError (catch_cons (PySem.W.mg_of X G ea_InvalidPlace) ex_InvalidPlace_WebError (catch_cons (PySem.W.mg_of X G ea_InvalidRoute) ex_InvalidRoute_WebError (catch_cons (PySem.W.mg_of X G ea_InvalidStep) ex_InvalidStep_WebError (catch_cons (PySem.W.mg_of X G ea_InvalidTie) ex_InvalidTie_WebError (catch_cons (PySem.W.mg_of X G ea_InvalidWeb) ex_InvalidWeb_WebError (catch_cons (PySem.W.mg_of X G ea_NothingToUndo) ex_NothingToUndo_WebError (catch_cons (PySem.W.mg_of X G ea_ParseError) ex_ParseError_WebError (catch_cons (PySem.W.mg_of X G ea_Parted) ex_Parted_WebError (catch_cons (PySem.W.mg_of X G ea_Refused) ex_Refused_WebError (catch_cons (PySem.W.mg_of X G ea_TooMany) ex_TooMany_WebError (catch_cons (PySem.W.mg_of X G ea_UnknownName) ex_UnknownName_WebError (catch_cons (PySem.W.mg_of X G ea_WebError) ex_WebError_WebError (catch_nil))))))))))))))))))⟩, errI_mk sy_InvalidNumber (madeBy_base PySem.F.excBase_IndexError eb_InvalidNumber) PySem.W.kxs_IndexError PySem.F.store_IndexError (PySem.W.mg_of X G ea_InvalidNumber) ek_InvalidNumber es_InvalidNumber et_InvalidNumber (PySem.W.mg_none_of X G z_super) ih_InvalidNumber io_InvalidNumber ic_InvalidNumber iv_InvalidNumber iw_InvalidNumber if_InvalidNumber il_InvalidNumber ir_InvalidNumber im_InvalidNumber iB_InvalidNumber p_any ia_InvalidNumber ip_InvalidNumber it_InvalidNumber id_InvalidNumber p_top, errI_mk sy_NothingToUndo (madeBy_base PySem.F.excBase_RuntimeError eb_NothingToUndo) PySem.W.kxs_RuntimeError PySem.F.store_RuntimeError (PySem.W.mg_of X G ea_NothingToUndo) ek_NothingToUndo es_NothingToUndo et_NothingToUndo (PySem.W.mg_none_of X G z_super) ih_NothingToUndo io_NothingToUndo ic_NothingToUndo iv_NothingToUndo iw_NothingToUndo if_NothingToUndo il_NothingToUndo ir_NothingToUndo im_NothingToUndo iB_NothingToUndo p_any ia_NothingToUndo ip_NothingToUndo it_NothingToUndo id_NothingToUndo p_top, errI_mk sy_ParseError (madeBy_base PySem.F.excBase_ValueError eb_ParseError) PySem.W.kxs_ValueError PySem.F.store_ValueError (PySem.W.mg_of X G ea_ParseError) ek_ParseError es_ParseError et_ParseError (PySem.W.mg_none_of X G z_super) ih_ParseError io_ParseError ic_ParseError iv_ParseError iw_ParseError if_ParseError il_ParseError ir_ParseError im_ParseError iB_ParseError p_any ia_ParseError ip_ParseError it_ParseError id_ParseError p_top, errI_mk sy_Parted (madeBy_base PySem.F.excBase_LookupError eb_Parted) PySem.W.kxs_LookupError PySem.F.store_LookupError (PySem.W.mg_of X G ea_Parted) ek_Parted es_Parted et_Parted (PySem.W.mg_none_of X G z_super) ih_Parted io_Parted ic_Parted iv_Parted iw_Parted if_Parted il_Parted ir_Parted im_Parted iB_Parted p_any ia_Parted ip_Parted it_Parted id_Parted p_top, errI_mk sy_Refused (madeBy_base PySem.F.excBase_ArithmeticError eb_Refused) PySem.W.kxs_ArithmeticError PySem.F.store_ArithmeticError (PySem.W.mg_of X G ea_Refused) ek_Refused es_Refused et_Refused (PySem.W.mg_none_of X G z_super) ih_Refused io_Refused ic_Refused iv_Refused iw_Refused if_Refused il_Refused ir_Refused im_Refused iB_Refused p_any ia_Refused ip_Refused it_Refused id_Refused p_top, errI_mk sy_TooMany (madeBy_base PySem.F.excBase_OverflowError eb_TooMany) PySem.W.kxs_OverflowError PySem.F.store_OverflowError (PySem.W.mg_of X G ea_TooMany) ek_TooMany es_TooMany et_TooMany (PySem.W.mg_none_of X G z_super) ih_TooMany io_TooMany ic_TooMany iv_TooMany iw_TooMany if_TooMany il_TooMany ir_TooMany im_TooMany iB_TooMany p_any ia_TooMany ip_TooMany it_TooMany id_TooMany p_top, errI_mk sy_UnknownName (madeBy_key eb_UnknownName) kxs_KeyError store_KeyError (PySem.W.mg_of X G ea_UnknownName) ek_UnknownName es_UnknownName et_UnknownName (PySem.W.mg_none_of X G z_super) ih_UnknownName io_UnknownName ic_UnknownName iv_UnknownName iw_UnknownName if_UnknownName il_UnknownName ir_UnknownName im_UnknownName iB_UnknownName p_any ia_UnknownName ip_UnknownName it_UnknownName id_UnknownName p_top, ⟨_, PySem.W.mg_of X G ea_InvalidDrawing, isT_cons (PySem.W.mg_of X G ea_InvalidDrawing) (excC_mk xg_InvalidDrawing xk_InvalidDrawing es_InvalidDrawing id_InvalidDrawing xc_InvalidDrawing xm_InvalidDrawing p_get p_tk) kt_InvalidDrawing_InvalidDrawing (isT_cons (PySem.W.mg_of X G ea_InvalidGrowth) (excC_mk xg_InvalidGrowth xk_InvalidGrowth es_InvalidGrowth id_InvalidGrowth xc_InvalidGrowth xm_InvalidGrowth p_get p_tk) kt_InvalidGrowth_InvalidDrawing (isT_cons (PySem.W.mg_of X G ea_InvalidModel) (excC_mk xg_InvalidModel xk_InvalidModel es_InvalidModel id_InvalidModel xc_InvalidModel xm_InvalidModel p_get p_tk) kt_InvalidModel_InvalidDrawing (isT_cons (PySem.W.mg_of X G ea_InvalidNumber) (excC_mk xg_InvalidNumber xk_InvalidNumber es_InvalidNumber id_InvalidNumber xc_InvalidNumber xm_InvalidNumber p_get p_tk) kt_InvalidNumber_InvalidDrawing (isT_cons (PySem.W.mg_of X G ea_InvalidOperation) (excC_mk xg_InvalidOperation xk_InvalidOperation es_InvalidOperation id_InvalidOperation xc_InvalidOperation xm_InvalidOperation p_get p_tk) kt_InvalidOperation_InvalidDrawing (isT_cons (PySem.W.mg_of X G ea_InvalidPart) (excC_mk xg_InvalidPart xk_InvalidPart es_InvalidPart id_InvalidPart xc_InvalidPart xm_InvalidPart p_get p_tk) kt_InvalidPart_InvalidDrawing (isT_cons (PySem.W.mg_of X G ea_InvalidPlace) (excC_mk xg_InvalidPlace xk_InvalidPlace es_InvalidPlace id_InvalidPlace xc_InvalidPlace xm_InvalidPlace p_get p_tk) kt_InvalidPlace_InvalidDrawing (isT_cons (PySem.W.mg_of X G ea_InvalidRoute) (excC_mk xg_InvalidRoute xk_InvalidRoute es_InvalidRoute id_InvalidRoute xc_InvalidRoute xm_InvalidRoute p_get p_tk) kt_InvalidRoute_InvalidDrawing (isT_cons (PySem.W.mg_of X G ea_InvalidStep) (excC_mk xg_InvalidStep xk_InvalidStep es_InvalidStep id_InvalidStep xc_InvalidStep xm_InvalidStep p_get p_tk) kt_InvalidStep_InvalidDrawing (isT_cons (PySem.W.mg_of X G ea_InvalidTie) (excC_mk xg_InvalidTie xk_InvalidTie es_InvalidTie id_InvalidTie xc_InvalidTie xm_InvalidTie p_get p_tk) kt_InvalidTie_InvalidDrawing (isT_cons (PySem.W.mg_of X G ea_InvalidWeb) (excC_mk xg_InvalidWeb xk_InvalidWeb es_InvalidWeb id_InvalidWeb xc_InvalidWeb xm_InvalidWeb p_get p_tk) kt_InvalidWeb_InvalidDrawing (isT_cons (PySem.W.mg_of X G ea_NothingToUndo) (excC_mk xg_NothingToUndo xk_NothingToUndo es_NothingToUndo id_NothingToUndo xc_NothingToUndo xm_NothingToUndo p_get p_tk) kt_NothingToUndo_InvalidDrawing (isT_cons (PySem.W.mg_of X G ea_ParseError) (excC_mk xg_ParseError xk_ParseError es_ParseError id_ParseError xc_ParseError xm_ParseError p_get p_tk) kt_ParseError_InvalidDrawing (isT_cons (PySem.W.mg_of X G ea_Parted) (excC_mk xg_Parted xk_Parted es_Parted id_Parted xc_Parted xm_Parted p_get p_tk) kt_Parted_InvalidDrawing (isT_cons (PySem.W.mg_of X G ea_Refused) (excC_mk xg_Refused xk_Refused es_Refused id_Refused xc_Refused xm_Refused p_get p_tk) kt_Refused_InvalidDrawing (isT_cons (PySem.W.mg_of X G ea_TooMany) (excC_mk xg_TooMany xk_TooMany es_TooMany id_TooMany xc_TooMany xm_TooMany p_get p_tk) kt_TooMany_InvalidDrawing (isT_cons (PySem.W.mg_of X G ea_UnknownName) (excC_mk xg_UnknownName xk_UnknownName es_UnknownName id_UnknownName xc_UnknownName xm_UnknownName p_get p_tk) kt_UnknownName_InvalidDrawing (isT_cons (PySem.W.mg_of X G ea_WebError) (excC_mk xg_WebError xk_WebError es_WebError id_WebError xc_WebError xm_WebError p_get p_tk) kt_WebError_InvalidDrawing (isT_nil))))))))))))))))))⟩, ⟨_, PySem.W.mg_of X G ea_InvalidGrowth, isT_cons (PySem.W.mg_of X G ea_InvalidDrawing) (excC_mk xg_InvalidDrawing xk_InvalidDrawing es_InvalidDrawing id_InvalidDrawing xc_InvalidDrawing xm_InvalidDrawing p_get p_tk) kt_InvalidDrawing_InvalidGrowth (isT_cons (PySem.W.mg_of X G ea_InvalidGrowth) (excC_mk xg_InvalidGrowth xk_InvalidGrowth es_InvalidGrowth id_InvalidGrowth xc_InvalidGrowth xm_InvalidGrowth p_get p_tk) kt_InvalidGrowth_InvalidGrowth (isT_cons (PySem.W.mg_of X G ea_InvalidModel) (excC_mk xg_InvalidModel xk_InvalidModel es_InvalidModel id_InvalidModel xc_InvalidModel xm_InvalidModel p_get p_tk) kt_InvalidModel_InvalidGrowth (isT_cons (PySem.W.mg_of X G ea_InvalidNumber) (excC_mk xg_InvalidNumber xk_InvalidNumber es_InvalidNumber id_InvalidNumber xc_InvalidNumber xm_InvalidNumber p_get p_tk) kt_InvalidNumber_InvalidGrowth (isT_cons (PySem.W.mg_of X G ea_InvalidOperation) (excC_mk xg_InvalidOperation xk_InvalidOperation es_InvalidOperation id_InvalidOperation xc_InvalidOperation xm_InvalidOperation p_get p_tk) kt_InvalidOperation_InvalidGrowth (isT_cons (PySem.W.mg_of X G ea_InvalidPart) (excC_mk xg_InvalidPart xk_InvalidPart es_InvalidPart id_InvalidPart xc_InvalidPart xm_InvalidPart p_get p_tk) kt_InvalidPart_InvalidGrowth (isT_cons (PySem.W.mg_of X G ea_InvalidPlace) (excC_mk xg_InvalidPlace xk_InvalidPlace es_InvalidPlace id_InvalidPlace xc_InvalidPlace xm_InvalidPlace p_get p_tk) kt_InvalidPlace_InvalidGrowth (isT_cons (PySem.W.mg_of X G ea_InvalidRoute) (excC_mk xg_InvalidRoute xk_InvalidRoute es_InvalidRoute id_InvalidRoute xc_InvalidRoute xm_InvalidRoute p_get p_tk) kt_InvalidRoute_InvalidGrowth (isT_cons (PySem.W.mg_of X G ea_InvalidStep) (excC_mk xg_InvalidStep xk_InvalidStep es_InvalidStep id_InvalidStep xc_InvalidStep xm_InvalidStep p_get p_tk) kt_InvalidStep_InvalidGrowth (isT_cons (PySem.W.mg_of X G ea_InvalidTie) (excC_mk xg_InvalidTie xk_InvalidTie es_InvalidTie id_InvalidTie xc_InvalidTie xm_InvalidTie p_get p_tk) kt_InvalidTie_InvalidGrowth (isT_cons (PySem.W.mg_of X G ea_InvalidWeb) (excC_mk xg_InvalidWeb xk_InvalidWeb es_InvalidWeb id_InvalidWeb xc_InvalidWeb xm_InvalidWeb p_get p_tk) kt_InvalidWeb_InvalidGrowth (isT_cons (PySem.W.mg_of X G ea_NothingToUndo) (excC_mk xg_NothingToUndo xk_NothingToUndo es_NothingToUndo id_NothingToUndo xc_NothingToUndo xm_NothingToUndo p_get p_tk) kt_NothingToUndo_InvalidGrowth (isT_cons (PySem.W.mg_of X G ea_ParseError) (excC_mk xg_ParseError xk_ParseError es_ParseError id_ParseError xc_ParseError xm_ParseError p_get p_tk) kt_ParseError_InvalidGrowth (isT_cons (PySem.W.mg_of X G ea_Parted) (excC_mk xg_Parted xk_Parted es_Parted id_Parted xc_Parted xm_Parted p_get p_tk) kt_Parted_InvalidGrowth (isT_cons (PySem.W.mg_of X G ea_Refused) (excC_mk xg_Refused xk_Refused es_Refused id_Refused xc_Refused xm_Refused p_get p_tk) kt_Refused_InvalidGrowth (isT_cons (PySem.W.mg_of X G ea_TooMany) (excC_mk xg_TooMany xk_TooMany es_TooMany id_TooMany xc_TooMany xm_TooMany p_get p_tk) kt_TooMany_InvalidGrowth (isT_cons (PySem.W.mg_of X G ea_UnknownName) (excC_mk xg_UnknownName xk_UnknownName es_UnknownName id_UnknownName xc_UnknownName xm_UnknownName p_get p_tk) kt_UnknownName_InvalidGrowth (isT_cons (PySem.W.mg_of X G ea_WebError) (excC_mk xg_WebError xk_WebError es_WebError id_WebError xc_WebError xm_WebError p_get p_tk) kt_WebError_InvalidGrowth (isT_nil))))))))))))))))))⟩, ⟨_, PySem.W.mg_of X G ea_InvalidModel, isT_cons (PySem.W.mg_of X G ea_InvalidDrawing) (excC_mk xg_InvalidDrawing xk_InvalidDrawing es_InvalidDrawing id_InvalidDrawing xc_InvalidDrawing xm_InvalidDrawing p_get p_tk) kt_InvalidDrawing_InvalidModel (isT_cons (PySem.W.mg_of X G ea_InvalidGrowth) (excC_mk xg_InvalidGrowth xk_InvalidGrowth es_InvalidGrowth id_InvalidGrowth xc_InvalidGrowth xm_InvalidGrowth p_get p_tk) kt_InvalidGrowth_InvalidModel (isT_cons (PySem.W.mg_of X G ea_InvalidModel) (excC_mk xg_InvalidModel xk_InvalidModel es_InvalidModel id_InvalidModel xc_InvalidModel xm_InvalidModel p_get p_tk) kt_InvalidModel_InvalidModel (isT_cons (PySem.W.mg_of X G ea_InvalidNumber) (excC_mk xg_InvalidNumber xk_InvalidNumber es_InvalidNumber id_InvalidNumber xc_InvalidNumber xm_InvalidNumber p_get p_tk) kt_InvalidNumber_InvalidModel (isT_cons (PySem.W.mg_of X G ea_InvalidOperation) (excC_mk xg_InvalidOperation xk_InvalidOperation es_InvalidOperation id_InvalidOperation xc_InvalidOperation xm_InvalidOperation p_get p_tk) kt_InvalidOperation_InvalidModel (isT_cons (PySem.W.mg_of X G ea_InvalidPart) (excC_mk xg_InvalidPart xk_InvalidPart es_InvalidPart id_InvalidPart xc_InvalidPart xm_InvalidPart p_get p_tk) kt_InvalidPart_InvalidModel (isT_cons (PySem.W.mg_of X G ea_InvalidPlace) (excC_mk xg_InvalidPlace xk_InvalidPlace es_InvalidPlace id_InvalidPlace xc_InvalidPlace xm_InvalidPlace p_get p_tk) kt_InvalidPlace_InvalidModel (isT_cons (PySem.W.mg_of X G ea_InvalidRoute) (excC_mk xg_InvalidRoute xk_InvalidRoute es_InvalidRoute id_InvalidRoute xc_InvalidRoute xm_InvalidRoute p_get p_tk) kt_InvalidRoute_InvalidModel (isT_cons (PySem.W.mg_of X G ea_InvalidStep) (excC_mk xg_InvalidStep xk_InvalidStep es_InvalidStep id_InvalidStep xc_InvalidStep xm_InvalidStep p_get p_tk) kt_InvalidStep_InvalidModel (isT_cons (PySem.W.mg_of X G ea_InvalidTie) (excC_mk xg_InvalidTie xk_InvalidTie es_InvalidTie id_InvalidTie xc_InvalidTie xm_InvalidTie p_get p_tk) kt_InvalidTie_InvalidModel (isT_cons (PySem.W.mg_of X G ea_InvalidWeb) (excC_mk xg_InvalidWeb xk_InvalidWeb es_InvalidWeb id_InvalidWeb xc_InvalidWeb xm_InvalidWeb p_get p_tk) kt_InvalidWeb_InvalidModel (isT_cons (PySem.W.mg_of X G ea_NothingToUndo) (excC_mk xg_NothingToUndo xk_NothingToUndo es_NothingToUndo id_NothingToUndo xc_NothingToUndo xm_NothingToUndo p_get p_tk) kt_NothingToUndo_InvalidModel (isT_cons (PySem.W.mg_of X G ea_ParseError) (excC_mk xg_ParseError xk_ParseError es_ParseError id_ParseError xc_ParseError xm_ParseError p_get p_tk) kt_ParseError_InvalidModel (isT_cons (PySem.W.mg_of X G ea_Parted) (excC_mk xg_Parted xk_Parted es_Parted id_Parted xc_Parted xm_Parted p_get p_tk) kt_Parted_InvalidModel (isT_cons (PySem.W.mg_of X G ea_Refused) (excC_mk xg_Refused xk_Refused es_Refused id_Refused xc_Refused xm_Refused p_get p_tk) kt_Refused_InvalidModel (isT_cons (PySem.W.mg_of X G ea_TooMany) (excC_mk xg_TooMany xk_TooMany es_TooMany id_TooMany xc_TooMany xm_TooMany p_get p_tk) kt_TooMany_InvalidModel (isT_cons (PySem.W.mg_of X G ea_UnknownName) (excC_mk xg_UnknownName xk_UnknownName es_UnknownName id_UnknownName xc_UnknownName xm_UnknownName p_get p_tk) kt_UnknownName_InvalidModel (isT_cons (PySem.W.mg_of X G ea_WebError) (excC_mk xg_WebError xk_WebError es_WebError id_WebError xc_WebError xm_WebError p_get p_tk) kt_WebError_InvalidModel (isT_nil))))))))))))))))))⟩, ⟨_, PySem.W.mg_of X G ea_InvalidOperation, isT_cons (PySem.W.mg_of X G ea_InvalidDrawing) (excC_mk xg_InvalidDrawing xk_InvalidDrawing es_InvalidDrawing id_InvalidDrawing xc_InvalidDrawing xm_InvalidDrawing p_get p_tk) kt_InvalidDrawing_InvalidOperation (isT_cons (PySem.W.mg_of X G ea_InvalidGrowth) (excC_mk xg_InvalidGrowth xk_InvalidGrowth es_InvalidGrowth id_InvalidGrowth xc_InvalidGrowth xm_InvalidGrowth p_get p_tk) kt_InvalidGrowth_InvalidOperation (isT_cons (PySem.W.mg_of X G ea_InvalidModel) (excC_mk xg_InvalidModel xk_InvalidModel es_InvalidModel id_InvalidModel xc_InvalidModel xm_InvalidModel p_get p_tk) kt_InvalidModel_InvalidOperation (isT_cons (PySem.W.mg_of X G ea_InvalidNumber) (excC_mk xg_InvalidNumber xk_InvalidNumber es_InvalidNumber id_InvalidNumber xc_InvalidNumber xm_InvalidNumber p_get p_tk) kt_InvalidNumber_InvalidOperation (isT_cons (PySem.W.mg_of X G ea_InvalidOperation) (excC_mk xg_InvalidOperation xk_InvalidOperation es_InvalidOperation id_InvalidOperation xc_InvalidOperation xm_InvalidOperation p_get p_tk) kt_InvalidOperation_InvalidOperation (isT_cons (PySem.W.mg_of X G ea_InvalidPart) (excC_mk xg_InvalidPart xk_InvalidPart es_InvalidPart id_InvalidPart xc_InvalidPart xm_InvalidPart p_get p_tk) kt_InvalidPart_InvalidOperation (isT_cons (PySem.W.mg_of X G ea_InvalidPlace) (excC_mk xg_InvalidPlace xk_InvalidPlace es_InvalidPlace id_InvalidPlace xc_InvalidPlace xm_InvalidPlace p_get p_tk) kt_InvalidPlace_InvalidOperation (isT_cons (PySem.W.mg_of X G ea_InvalidRoute) (excC_mk xg_InvalidRoute xk_InvalidRoute es_InvalidRoute id_InvalidRoute xc_InvalidRoute xm_InvalidRoute p_get p_tk) kt_InvalidRoute_InvalidOperation (isT_cons (PySem.W.mg_of X G ea_InvalidStep) (excC_mk xg_InvalidStep xk_InvalidStep es_InvalidStep id_InvalidStep xc_InvalidStep xm_InvalidStep p_get p_tk) kt_InvalidStep_InvalidOperation (isT_cons (PySem.W.mg_of X G ea_InvalidTie) (excC_mk xg_InvalidTie xk_InvalidTie es_InvalidTie id_InvalidTie xc_InvalidTie xm_InvalidTie p_get p_tk) kt_InvalidTie_InvalidOperation (isT_cons (PySem.W.mg_of X G ea_InvalidWeb) (excC_mk xg_InvalidWeb xk_InvalidWeb es_InvalidWeb id_InvalidWeb xc_InvalidWeb xm_InvalidWeb p_get p_tk) kt_InvalidWeb_InvalidOperation (isT_cons (PySem.W.mg_of X G ea_NothingToUndo) (excC_mk xg_NothingToUndo xk_NothingToUndo es_NothingToUndo id_NothingToUndo xc_NothingToUndo xm_NothingToUndo p_get p_tk) kt_NothingToUndo_InvalidOperation (isT_cons (PySem.W.mg_of X G ea_ParseError) (excC_mk xg_ParseError xk_ParseError es_ParseError id_ParseError xc_ParseError xm_ParseError p_get p_tk) kt_ParseError_InvalidOperation (isT_cons (PySem.W.mg_of X G ea_Parted) (excC_mk xg_Parted xk_Parted es_Parted id_Parted xc_Parted xm_Parted p_get p_tk) kt_Parted_InvalidOperation (isT_cons (PySem.W.mg_of X G ea_Refused) (excC_mk xg_Refused xk_Refused es_Refused id_Refused xc_Refused xm_Refused p_get p_tk) kt_Refused_InvalidOperation (isT_cons (PySem.W.mg_of X G ea_TooMany) (excC_mk xg_TooMany xk_TooMany es_TooMany id_TooMany xc_TooMany xm_TooMany p_get p_tk) kt_TooMany_InvalidOperation (isT_cons (PySem.W.mg_of X G ea_UnknownName) (excC_mk xg_UnknownName xk_UnknownName es_UnknownName id_UnknownName xc_UnknownName xm_UnknownName p_get p_tk) kt_UnknownName_InvalidOperation (isT_cons (PySem.W.mg_of X G ea_WebError) (excC_mk xg_WebError xk_WebError es_WebError id_WebError xc_WebError xm_WebError p_get p_tk) kt_WebError_InvalidOperation (isT_nil))))))))))))))))))⟩, ⟨_, PySem.W.mg_of X G ea_InvalidPart, isT_cons (PySem.W.mg_of X G ea_InvalidDrawing) (excC_mk xg_InvalidDrawing xk_InvalidDrawing es_InvalidDrawing id_InvalidDrawing xc_InvalidDrawing xm_InvalidDrawing p_get p_tk) kt_InvalidDrawing_InvalidPart (isT_cons (PySem.W.mg_of X G ea_InvalidGrowth) (excC_mk xg_InvalidGrowth xk_InvalidGrowth es_InvalidGrowth id_InvalidGrowth xc_InvalidGrowth xm_InvalidGrowth p_get p_tk) kt_InvalidGrowth_InvalidPart (isT_cons (PySem.W.mg_of X G ea_InvalidModel) (excC_mk xg_InvalidModel xk_InvalidModel es_InvalidModel id_InvalidModel xc_InvalidModel xm_InvalidModel p_get p_tk) kt_InvalidModel_InvalidPart (isT_cons (PySem.W.mg_of X G ea_InvalidNumber) (excC_mk xg_InvalidNumber xk_InvalidNumber es_InvalidNumber id_InvalidNumber xc_InvalidNumber xm_InvalidNumber p_get p_tk) kt_InvalidNumber_InvalidPart (isT_cons (PySem.W.mg_of X G ea_InvalidOperation) (excC_mk xg_InvalidOperation xk_InvalidOperation es_InvalidOperation id_InvalidOperation xc_InvalidOperation xm_InvalidOperation p_get p_tk) kt_InvalidOperation_InvalidPart (isT_cons (PySem.W.mg_of X G ea_InvalidPart) (excC_mk xg_InvalidPart xk_InvalidPart es_InvalidPart id_InvalidPart xc_InvalidPart xm_InvalidPart p_get p_tk) kt_InvalidPart_InvalidPart (isT_cons (PySem.W.mg_of X G ea_InvalidPlace) (excC_mk xg_InvalidPlace xk_InvalidPlace es_InvalidPlace id_InvalidPlace xc_InvalidPlace xm_InvalidPlace p_get p_tk) kt_InvalidPlace_InvalidPart (isT_cons (PySem.W.mg_of X G ea_InvalidRoute) (excC_mk xg_InvalidRoute xk_InvalidRoute es_InvalidRoute id_InvalidRoute xc_InvalidRoute xm_InvalidRoute p_get p_tk) kt_InvalidRoute_InvalidPart (isT_cons (PySem.W.mg_of X G ea_InvalidStep) (excC_mk xg_InvalidStep xk_InvalidStep es_InvalidStep id_InvalidStep xc_InvalidStep xm_InvalidStep p_get p_tk) kt_InvalidStep_InvalidPart (isT_cons (PySem.W.mg_of X G ea_InvalidTie) (excC_mk xg_InvalidTie xk_InvalidTie es_InvalidTie id_InvalidTie xc_InvalidTie xm_InvalidTie p_get p_tk) kt_InvalidTie_InvalidPart (isT_cons (PySem.W.mg_of X G ea_InvalidWeb) (excC_mk xg_InvalidWeb xk_InvalidWeb es_InvalidWeb id_InvalidWeb xc_InvalidWeb xm_InvalidWeb p_get p_tk) kt_InvalidWeb_InvalidPart (isT_cons (PySem.W.mg_of X G ea_NothingToUndo) (excC_mk xg_NothingToUndo xk_NothingToUndo es_NothingToUndo id_NothingToUndo xc_NothingToUndo xm_NothingToUndo p_get p_tk) kt_NothingToUndo_InvalidPart (isT_cons (PySem.W.mg_of X G ea_ParseError) (excC_mk xg_ParseError xk_ParseError es_ParseError id_ParseError xc_ParseError xm_ParseError p_get p_tk) kt_ParseError_InvalidPart (isT_cons (PySem.W.mg_of X G ea_Parted) (excC_mk xg_Parted xk_Parted es_Parted id_Parted xc_Parted xm_Parted p_get p_tk) kt_Parted_InvalidPart (isT_cons (PySem.W.mg_of X G ea_Refused) (excC_mk xg_Refused xk_Refused es_Refused id_Refused xc_Refused xm_Refused p_get p_tk) kt_Refused_InvalidPart (isT_cons (PySem.W.mg_of X G ea_TooMany) (excC_mk xg_TooMany xk_TooMany es_TooMany id_TooMany xc_TooMany xm_TooMany p_get p_tk) kt_TooMany_InvalidPart (isT_cons (PySem.W.mg_of X G ea_UnknownName) (excC_mk xg_UnknownName xk_UnknownName es_UnknownName id_UnknownName xc_UnknownName xm_UnknownName p_get p_tk) kt_UnknownName_InvalidPart (isT_cons (PySem.W.mg_of X G ea_WebError) (excC_mk xg_WebError xk_WebError es_WebError id_WebError xc_WebError xm_WebError p_get p_tk) kt_WebError_InvalidPart (isT_nil))))))))))))))))))⟩, ⟨_, PySem.W.mg_of X G ea_InvalidPlace, isT_cons (PySem.W.mg_of X G ea_InvalidDrawing) (excC_mk xg_InvalidDrawing xk_InvalidDrawing es_InvalidDrawing id_InvalidDrawing xc_InvalidDrawing xm_InvalidDrawing p_get p_tk) kt_InvalidDrawing_InvalidPlace (isT_cons (PySem.W.mg_of X G ea_InvalidGrowth) (excC_mk xg_InvalidGrowth xk_InvalidGrowth es_InvalidGrowth id_InvalidGrowth xc_InvalidGrowth xm_InvalidGrowth p_get p_tk) kt_InvalidGrowth_InvalidPlace (isT_cons (PySem.W.mg_of X G ea_InvalidModel) (excC_mk xg_InvalidModel xk_InvalidModel es_InvalidModel id_InvalidModel xc_InvalidModel xm_InvalidModel p_get p_tk) kt_InvalidModel_InvalidPlace (isT_cons (PySem.W.mg_of X G ea_InvalidNumber) (excC_mk xg_InvalidNumber xk_InvalidNumber es_InvalidNumber id_InvalidNumber xc_InvalidNumber xm_InvalidNumber p_get p_tk) kt_InvalidNumber_InvalidPlace (isT_cons (PySem.W.mg_of X G ea_InvalidOperation) (excC_mk xg_InvalidOperation xk_InvalidOperation es_InvalidOperation id_InvalidOperation xc_InvalidOperation xm_InvalidOperation p_get p_tk) kt_InvalidOperation_InvalidPlace (isT_cons (PySem.W.mg_of X G ea_InvalidPart) (excC_mk xg_InvalidPart xk_InvalidPart es_InvalidPart id_InvalidPart xc_InvalidPart xm_InvalidPart p_get p_tk) kt_InvalidPart_InvalidPlace (isT_cons (PySem.W.mg_of X G ea_InvalidPlace) (excC_mk xg_InvalidPlace xk_InvalidPlace es_InvalidPlace id_InvalidPlace xc_InvalidPlace xm_InvalidPlace p_get p_tk) kt_InvalidPlace_InvalidPlace (isT_cons (PySem.W.mg_of X G ea_InvalidRoute) (excC_mk xg_InvalidRoute xk_InvalidRoute es_InvalidRoute id_InvalidRoute xc_InvalidRoute xm_InvalidRoute p_get p_tk) kt_InvalidRoute_InvalidPlace (isT_cons (PySem.W.mg_of X G ea_InvalidStep) (excC_mk xg_InvalidStep xk_InvalidStep es_InvalidStep id_InvalidStep xc_InvalidStep xm_InvalidStep p_get p_tk) kt_InvalidStep_InvalidPlace (isT_cons (PySem.W.mg_of X G ea_InvalidTie) (excC_mk xg_InvalidTie xk_InvalidTie es_InvalidTie id_InvalidTie xc_InvalidTie xm_InvalidTie p_get p_tk) kt_InvalidTie_InvalidPlace (isT_cons (PySem.W.mg_of X G ea_InvalidWeb) (excC_mk xg_InvalidWeb xk_InvalidWeb es_InvalidWeb id_InvalidWeb xc_InvalidWeb xm_InvalidWeb p_get p_tk) kt_InvalidWeb_InvalidPlace (isT_cons (PySem.W.mg_of X G ea_NothingToUndo) (excC_mk xg_NothingToUndo xk_NothingToUndo es_NothingToUndo id_NothingToUndo xc_NothingToUndo xm_NothingToUndo p_get p_tk) kt_NothingToUndo_InvalidPlace (isT_cons (PySem.W.mg_of X G ea_ParseError) (excC_mk xg_ParseError xk_ParseError es_ParseError id_ParseError xc_ParseError xm_ParseError p_get p_tk) kt_ParseError_InvalidPlace (isT_cons (PySem.W.mg_of X G ea_Parted) (excC_mk xg_Parted xk_Parted es_Parted id_Parted xc_Parted xm_Parted p_get p_tk) kt_Parted_InvalidPlace (isT_cons (PySem.W.mg_of X G ea_Refused) (excC_mk xg_Refused xk_Refused es_Refused id_Refused xc_Refused xm_Refused p_get p_tk) kt_Refused_InvalidPlace (isT_cons (PySem.W.mg_of X G ea_TooMany) (excC_mk xg_TooMany xk_TooMany es_TooMany id_TooMany xc_TooMany xm_TooMany p_get p_tk) kt_TooMany_InvalidPlace (isT_cons (PySem.W.mg_of X G ea_UnknownName) (excC_mk xg_UnknownName xk_UnknownName es_UnknownName id_UnknownName xc_UnknownName xm_UnknownName p_get p_tk) kt_UnknownName_InvalidPlace (isT_cons (PySem.W.mg_of X G ea_WebError) (excC_mk xg_WebError xk_WebError es_WebError id_WebError xc_WebError xm_WebError p_get p_tk) kt_WebError_InvalidPlace (isT_nil))))))))))))))))))⟩, ⟨_, PySem.W.mg_of X G ea_InvalidRoute, isT_cons (PySem.W.mg_of X G ea_InvalidDrawing) (excC_mk xg_InvalidDrawing xk_InvalidDrawing es_InvalidDrawing id_InvalidDrawing xc_InvalidDrawing xm_InvalidDrawing p_get p_tk) kt_InvalidDrawing_InvalidRoute (isT_cons (PySem.W.mg_of X G ea_InvalidGrowth) (excC_mk xg_InvalidGrowth xk_InvalidGrowth es_InvalidGrowth id_InvalidGrowth xc_InvalidGrowth xm_InvalidGrowth p_get p_tk) kt_InvalidGrowth_InvalidRoute (isT_cons (PySem.W.mg_of X G ea_InvalidModel) (excC_mk xg_InvalidModel xk_InvalidModel es_InvalidModel id_InvalidModel xc_InvalidModel xm_InvalidModel p_get p_tk) kt_InvalidModel_InvalidRoute (isT_cons (PySem.W.mg_of X G ea_InvalidNumber) (excC_mk xg_InvalidNumber xk_InvalidNumber es_InvalidNumber id_InvalidNumber xc_InvalidNumber xm_InvalidNumber p_get p_tk) kt_InvalidNumber_InvalidRoute (isT_cons (PySem.W.mg_of X G ea_InvalidOperation) (excC_mk xg_InvalidOperation xk_InvalidOperation es_InvalidOperation id_InvalidOperation xc_InvalidOperation xm_InvalidOperation p_get p_tk) kt_InvalidOperation_InvalidRoute (isT_cons (PySem.W.mg_of X G ea_InvalidPart) (excC_mk xg_InvalidPart xk_InvalidPart es_InvalidPart id_InvalidPart xc_InvalidPart xm_InvalidPart p_get p_tk) kt_InvalidPart_InvalidRoute (isT_cons (PySem.W.mg_of X G ea_InvalidPlace) (excC_mk xg_InvalidPlace xk_InvalidPlace es_InvalidPlace id_InvalidPlace xc_InvalidPlace xm_InvalidPlace p_get p_tk) kt_InvalidPlace_InvalidRoute (isT_cons (PySem.W.mg_of X G ea_InvalidRoute) (excC_mk xg_InvalidRoute xk_InvalidRoute es_InvalidRoute id_InvalidRoute xc_InvalidRoute xm_InvalidRoute p_get p_tk) kt_InvalidRoute_InvalidRoute (isT_cons (PySem.W.mg_of X G ea_InvalidStep) (excC_mk xg_InvalidStep xk_InvalidStep es_InvalidStep id_InvalidStep xc_InvalidStep xm_InvalidStep p_get p_tk) kt_InvalidStep_InvalidRoute (isT_cons (PySem.W.mg_of X G ea_InvalidTie) (excC_mk xg_InvalidTie xk_InvalidTie es_InvalidTie id_InvalidTie xc_InvalidTie xm_InvalidTie p_get p_tk) kt_InvalidTie_InvalidRoute (isT_cons (PySem.W.mg_of X G ea_InvalidWeb) (excC_mk xg_InvalidWeb xk_InvalidWeb es_InvalidWeb id_InvalidWeb xc_InvalidWeb xm_InvalidWeb p_get p_tk) kt_InvalidWeb_InvalidRoute (isT_cons (PySem.W.mg_of X G ea_NothingToUndo) (excC_mk xg_NothingToUndo xk_NothingToUndo es_NothingToUndo id_NothingToUndo xc_NothingToUndo xm_NothingToUndo p_get p_tk) kt_NothingToUndo_InvalidRoute (isT_cons (PySem.W.mg_of X G ea_ParseError) (excC_mk xg_ParseError xk_ParseError es_ParseError id_ParseError xc_ParseError xm_ParseError p_get p_tk) kt_ParseError_InvalidRoute (isT_cons (PySem.W.mg_of X G ea_Parted) (excC_mk xg_Parted xk_Parted es_Parted id_Parted xc_Parted xm_Parted p_get p_tk) kt_Parted_InvalidRoute (isT_cons (PySem.W.mg_of X G ea_Refused) (excC_mk xg_Refused xk_Refused es_Refused id_Refused xc_Refused xm_Refused p_get p_tk) kt_Refused_InvalidRoute (isT_cons (PySem.W.mg_of X G ea_TooMany) (excC_mk xg_TooMany xk_TooMany es_TooMany id_TooMany xc_TooMany xm_TooMany p_get p_tk) kt_TooMany_InvalidRoute (isT_cons (PySem.W.mg_of X G ea_UnknownName) (excC_mk xg_UnknownName xk_UnknownName es_UnknownName id_UnknownName xc_UnknownName xm_UnknownName p_get p_tk) kt_UnknownName_InvalidRoute (isT_cons (PySem.W.mg_of X G ea_WebError) (excC_mk xg_WebError xk_WebError es_WebError id_WebError xc_WebError xm_WebError p_get p_tk) kt_WebError_InvalidRoute (isT_nil))))))))))))))))))⟩, ⟨_, PySem.W.mg_of X G ea_InvalidStep, isT_cons (PySem.W.mg_of X G ea_InvalidDrawing) (excC_mk xg_InvalidDrawing xk_InvalidDrawing es_InvalidDrawing id_InvalidDrawing xc_InvalidDrawing xm_InvalidDrawing p_get p_tk) kt_InvalidDrawing_InvalidStep (isT_cons (PySem.W.mg_of X G ea_InvalidGrowth) (excC_mk xg_InvalidGrowth xk_InvalidGrowth es_InvalidGrowth id_InvalidGrowth xc_InvalidGrowth xm_InvalidGrowth p_get p_tk) kt_InvalidGrowth_InvalidStep (isT_cons (PySem.W.mg_of X G ea_InvalidModel) (excC_mk xg_InvalidModel xk_InvalidModel es_InvalidModel id_InvalidModel xc_InvalidModel xm_InvalidModel p_get p_tk) kt_InvalidModel_InvalidStep (isT_cons (PySem.W.mg_of X G ea_InvalidNumber) (excC_mk xg_InvalidNumber xk_InvalidNumber es_InvalidNumber id_InvalidNumber xc_InvalidNumber xm_InvalidNumber p_get p_tk) kt_InvalidNumber_InvalidStep (isT_cons (PySem.W.mg_of X G ea_InvalidOperation) (excC_mk xg_InvalidOperation xk_InvalidOperation es_InvalidOperation id_InvalidOperation xc_InvalidOperation xm_InvalidOperation p_get p_tk) kt_InvalidOperation_InvalidStep (isT_cons (PySem.W.mg_of X G ea_InvalidPart) (excC_mk xg_InvalidPart xk_InvalidPart es_InvalidPart id_InvalidPart xc_InvalidPart xm_InvalidPart p_get p_tk) kt_InvalidPart_InvalidStep (isT_cons (PySem.W.mg_of X G ea_InvalidPlace) (excC_mk xg_InvalidPlace xk_InvalidPlace es_InvalidPlace id_InvalidPlace xc_InvalidPlace xm_InvalidPlace p_get p_tk) kt_InvalidPlace_InvalidStep (isT_cons (PySem.W.mg_of X G ea_InvalidRoute) (excC_mk xg_InvalidRoute xk_InvalidRoute es_InvalidRoute id_InvalidRoute xc_InvalidRoute xm_InvalidRoute p_get p_tk) kt_InvalidRoute_InvalidStep (isT_cons (PySem.W.mg_of X G ea_InvalidStep) (excC_mk xg_InvalidStep xk_InvalidStep es_InvalidStep id_InvalidStep xc_InvalidStep xm_InvalidStep p_get p_tk) kt_InvalidStep_InvalidStep (isT_cons (PySem.W.mg_of X G ea_InvalidTie) (excC_mk xg_InvalidTie xk_InvalidTie es_InvalidTie id_InvalidTie xc_InvalidTie xm_InvalidTie p_get p_tk) kt_InvalidTie_InvalidStep (isT_cons (PySem.W.mg_of X G ea_InvalidWeb) (excC_mk xg_InvalidWeb xk_InvalidWeb es_InvalidWeb id_InvalidWeb xc_InvalidWeb xm_InvalidWeb p_get p_tk) kt_InvalidWeb_InvalidStep (isT_cons (PySem.W.mg_of X G ea_NothingToUndo) (excC_mk xg_NothingToUndo xk_NothingToUndo es_NothingToUndo id_NothingToUndo xc_NothingToUndo xm_NothingToUndo p_get p_tk) kt_NothingToUndo_InvalidStep (isT_cons (PySem.W.mg_of X G ea_ParseError) (excC_mk xg_ParseError xk_ParseError es_ParseError id_ParseError xc_ParseError xm_ParseError p_get p_tk) kt_ParseError_InvalidStep (isT_cons (PySem.W.mg_of X G ea_Parted) (excC_mk xg_Parted xk_Parted es_Parted id_Parted xc_Parted xm_Parted p_get p_tk) kt_Parted_InvalidStep (isT_cons (PySem.W.mg_of X G ea_Refused) (excC_mk xg_Refused xk_Refused es_Refused id_Refused xc_Refused xm_Refused p_get p_tk) kt_Refused_InvalidStep (isT_cons (PySem.W.mg_of X G ea_TooMany) (excC_mk xg_TooMany xk_TooMany es_TooMany id_TooMany xc_TooMany xm_TooMany p_get p_tk) kt_TooMany_InvalidStep (isT_cons (PySem.W.mg_of X G ea_UnknownName) (excC_mk xg_UnknownName xk_UnknownName es_UnknownName id_UnknownName xc_UnknownName xm_UnknownName p_get p_tk) kt_UnknownName_InvalidStep (isT_cons (PySem.W.mg_of X G ea_WebError) (excC_mk xg_WebError xk_WebError es_WebError id_WebError xc_WebError xm_WebError p_get p_tk) kt_WebError_InvalidStep (isT_nil))))))))))))))))))⟩, ⟨_, PySem.W.mg_of X G ea_InvalidTie, isT_cons (PySem.W.mg_of X G ea_InvalidDrawing) (excC_mk xg_InvalidDrawing xk_InvalidDrawing es_InvalidDrawing id_InvalidDrawing xc_InvalidDrawing xm_InvalidDrawing p_get p_tk) kt_InvalidDrawing_InvalidTie (isT_cons (PySem.W.mg_of X G ea_InvalidGrowth) (excC_mk xg_InvalidGrowth xk_InvalidGrowth es_InvalidGrowth id_InvalidGrowth xc_InvalidGrowth xm_InvalidGrowth p_get p_tk) kt_InvalidGrowth_InvalidTie (isT_cons (PySem.W.mg_of X G ea_InvalidModel) (excC_mk xg_InvalidModel xk_InvalidModel es_InvalidModel id_InvalidModel xc_InvalidModel xm_InvalidModel p_get p_tk) kt_InvalidModel_InvalidTie (isT_cons (PySem.W.mg_of X G ea_InvalidNumber) (excC_mk xg_InvalidNumber xk_InvalidNumber es_InvalidNumber id_InvalidNumber xc_InvalidNumber xm_InvalidNumber p_get p_tk) kt_InvalidNumber_InvalidTie (isT_cons (PySem.W.mg_of X G ea_InvalidOperation) (excC_mk xg_InvalidOperation xk_InvalidOperation es_InvalidOperation id_InvalidOperation xc_InvalidOperation xm_InvalidOperation p_get p_tk) kt_InvalidOperation_InvalidTie (isT_cons (PySem.W.mg_of X G ea_InvalidPart) (excC_mk xg_InvalidPart xk_InvalidPart es_InvalidPart id_InvalidPart xc_InvalidPart xm_InvalidPart p_get p_tk) kt_InvalidPart_InvalidTie (isT_cons (PySem.W.mg_of X G ea_InvalidPlace) (excC_mk xg_InvalidPlace xk_InvalidPlace es_InvalidPlace id_InvalidPlace xc_InvalidPlace xm_InvalidPlace p_get p_tk) kt_InvalidPlace_InvalidTie (isT_cons (PySem.W.mg_of X G ea_InvalidRoute) (excC_mk xg_InvalidRoute xk_InvalidRoute es_InvalidRoute id_InvalidRoute xc_InvalidRoute xm_InvalidRoute p_get p_tk) kt_InvalidRoute_InvalidTie (isT_cons (PySem.W.mg_of X G ea_InvalidStep) (excC_mk xg_InvalidStep xk_InvalidStep es_InvalidStep id_InvalidStep xc_InvalidStep xm_InvalidStep p_get p_tk) kt_InvalidStep_InvalidTie (isT_cons (PySem.W.mg_of X G ea_InvalidTie) (excC_mk xg_InvalidTie xk_InvalidTie es_InvalidTie id_InvalidTie xc_InvalidTie xm_InvalidTie p_get p_tk) kt_InvalidTie_InvalidTie (isT_cons (PySem.W.mg_of X G ea_InvalidWeb) (excC_mk xg_InvalidWeb xk_InvalidWeb es_InvalidWeb id_InvalidWeb xc_InvalidWeb xm_InvalidWeb p_get p_tk) kt_InvalidWeb_InvalidTie (isT_cons (PySem.W.mg_of X G ea_NothingToUndo) (excC_mk xg_NothingToUndo xk_NothingToUndo es_NothingToUndo id_NothingToUndo xc_NothingToUndo xm_NothingToUndo p_get p_tk) kt_NothingToUndo_InvalidTie (isT_cons (PySem.W.mg_of X G ea_ParseError) (excC_mk xg_ParseError xk_ParseError es_ParseError id_ParseError xc_ParseError xm_ParseError p_get p_tk) kt_ParseError_InvalidTie (isT_cons (PySem.W.mg_of X G ea_Parted) (excC_mk xg_Parted xk_Parted es_Parted id_Parted xc_Parted xm_Parted p_get p_tk) kt_Parted_InvalidTie (isT_cons (PySem.W.mg_of X G ea_Refused) (excC_mk xg_Refused xk_Refused es_Refused id_Refused xc_Refused xm_Refused p_get p_tk) kt_Refused_InvalidTie (isT_cons (PySem.W.mg_of X G ea_TooMany) (excC_mk xg_TooMany xk_TooMany es_TooMany id_TooMany xc_TooMany xm_TooMany p_get p_tk) kt_TooMany_InvalidTie (isT_cons (PySem.W.mg_of X G ea_UnknownName) (excC_mk xg_UnknownName xk_UnknownName es_UnknownName id_UnknownName xc_UnknownName xm_UnknownName p_get p_tk) kt_UnknownName_InvalidTie (isT_cons (PySem.W.mg_of X G ea_WebError) (excC_mk xg_WebError xk_WebError es_WebError id_WebError xc_WebError xm_WebError p_get p_tk) kt_WebError_InvalidTie (isT_nil))))))))))))))))))⟩, ⟨_, PySem.W.mg_of X G ea_InvalidWeb, isT_cons (PySem.W.mg_of X G ea_InvalidDrawing) (excC_mk xg_InvalidDrawing xk_InvalidDrawing es_InvalidDrawing id_InvalidDrawing xc_InvalidDrawing xm_InvalidDrawing p_get p_tk) kt_InvalidDrawing_InvalidWeb (isT_cons (PySem.W.mg_of X G ea_InvalidGrowth) (excC_mk xg_InvalidGrowth xk_InvalidGrowth es_InvalidGrowth id_InvalidGrowth xc_InvalidGrowth xm_InvalidGrowth p_get p_tk) kt_InvalidGrowth_InvalidWeb (isT_cons (PySem.W.mg_of X G ea_InvalidModel) (excC_mk xg_InvalidModel xk_InvalidModel es_InvalidModel id_InvalidModel xc_InvalidModel xm_InvalidModel p_get p_tk) kt_InvalidModel_InvalidWeb (isT_cons (PySem.W.mg_of X G ea_InvalidNumber) (excC_mk xg_InvalidNumber xk_InvalidNumber es_InvalidNumber id_InvalidNumber xc_InvalidNumber xm_InvalidNumber p_get p_tk) kt_InvalidNumber_InvalidWeb (isT_cons (PySem.W.mg_of X G ea_InvalidOperation) (excC_mk xg_InvalidOperation xk_InvalidOperation es_InvalidOperation id_InvalidOperation xc_InvalidOperation xm_InvalidOperation p_get p_tk) kt_InvalidOperation_InvalidWeb (isT_cons (PySem.W.mg_of X G ea_InvalidPart) (excC_mk xg_InvalidPart xk_InvalidPart es_InvalidPart id_InvalidPart xc_InvalidPart xm_InvalidPart p_get p_tk) kt_InvalidPart_InvalidWeb (isT_cons (PySem.W.mg_of X G ea_InvalidPlace) (excC_mk xg_InvalidPlace xk_InvalidPlace es_InvalidPlace id_InvalidPlace xc_InvalidPlace xm_InvalidPlace p_get p_tk) kt_InvalidPlace_InvalidWeb (isT_cons (PySem.W.mg_of X G ea_InvalidRoute) (excC_mk xg_InvalidRoute xk_InvalidRoute es_InvalidRoute id_InvalidRoute xc_InvalidRoute xm_InvalidRoute p_get p_tk) kt_InvalidRoute_InvalidWeb (isT_cons (PySem.W.mg_of X G ea_InvalidStep) (excC_mk xg_InvalidStep xk_InvalidStep es_InvalidStep id_InvalidStep xc_InvalidStep xm_InvalidStep p_get p_tk) kt_InvalidStep_InvalidWeb (isT_cons (PySem.W.mg_of X G ea_InvalidTie) (excC_mk xg_InvalidTie xk_InvalidTie es_InvalidTie id_InvalidTie xc_InvalidTie xm_InvalidTie p_get p_tk) kt_InvalidTie_InvalidWeb (isT_cons (PySem.W.mg_of X G ea_InvalidWeb) (excC_mk xg_InvalidWeb xk_InvalidWeb es_InvalidWeb id_InvalidWeb xc_InvalidWeb xm_InvalidWeb p_get p_tk) kt_InvalidWeb_InvalidWeb (isT_cons (PySem.W.mg_of X G ea_NothingToUndo) (excC_mk xg_NothingToUndo xk_NothingToUndo es_NothingToUndo id_NothingToUndo xc_NothingToUndo xm_NothingToUndo p_get p_tk) kt_NothingToUndo_InvalidWeb (isT_cons (PySem.W.mg_of X G ea_ParseError) (excC_mk xg_ParseError xk_ParseError es_ParseError id_ParseError xc_ParseError xm_ParseError p_get p_tk) kt_ParseError_InvalidWeb (isT_cons (PySem.W.mg_of X G ea_Parted) (excC_mk xg_Parted xk_Parted es_Parted id_Parted xc_Parted xm_Parted p_get p_tk) kt_Parted_InvalidWeb (isT_cons (PySem.W.mg_of X G ea_Refused) (excC_mk xg_Refused xk_Refused es_Refused id_Refused xc_Refused xm_Refused p_get p_tk) kt_Refused_InvalidWeb (isT_cons (PySem.W.mg_of X G ea_TooMany) (excC_mk xg_TooMany xk_TooMany es_TooMany id_TooMany xc_TooMany xm_TooMany p_get p_tk) kt_TooMany_InvalidWeb (isT_cons (PySem.W.mg_of X G ea_UnknownName) (excC_mk xg_UnknownName xk_UnknownName es_UnknownName id_UnknownName xc_UnknownName xm_UnknownName p_get p_tk) kt_UnknownName_InvalidWeb (isT_cons (PySem.W.mg_of X G ea_WebError) (excC_mk xg_WebError xk_WebError es_WebError id_WebError xc_WebError xm_WebError p_get p_tk) kt_WebError_InvalidWeb (isT_nil))))))))))))))))))⟩, ⟨_, PySem.W.mg_of X G ea_ParseError, isT_cons (PySem.W.mg_of X G ea_InvalidDrawing) (excC_mk xg_InvalidDrawing xk_InvalidDrawing es_InvalidDrawing id_InvalidDrawing xc_InvalidDrawing xm_InvalidDrawing p_get p_tk) kt_InvalidDrawing_ParseError (isT_cons (PySem.W.mg_of X G ea_InvalidGrowth) (excC_mk xg_InvalidGrowth xk_InvalidGrowth es_InvalidGrowth id_InvalidGrowth xc_InvalidGrowth xm_InvalidGrowth p_get p_tk) kt_InvalidGrowth_ParseError (isT_cons (PySem.W.mg_of X G ea_InvalidModel) (excC_mk xg_InvalidModel xk_InvalidModel es_InvalidModel id_InvalidModel xc_InvalidModel xm_InvalidModel p_get p_tk) kt_InvalidModel_ParseError (isT_cons (PySem.W.mg_of X G ea_InvalidNumber) (excC_mk xg_InvalidNumber xk_InvalidNumber es_InvalidNumber id_InvalidNumber xc_InvalidNumber xm_InvalidNumber p_get p_tk) kt_InvalidNumber_ParseError (isT_cons (PySem.W.mg_of X G ea_InvalidOperation) (excC_mk xg_InvalidOperation xk_InvalidOperation es_InvalidOperation id_InvalidOperation xc_InvalidOperation xm_InvalidOperation p_get p_tk) kt_InvalidOperation_ParseError (isT_cons (PySem.W.mg_of X G ea_InvalidPart) (excC_mk xg_InvalidPart xk_InvalidPart es_InvalidPart id_InvalidPart xc_InvalidPart xm_InvalidPart p_get p_tk) kt_InvalidPart_ParseError (isT_cons (PySem.W.mg_of X G ea_InvalidPlace) (excC_mk xg_InvalidPlace xk_InvalidPlace es_InvalidPlace id_InvalidPlace xc_InvalidPlace xm_InvalidPlace p_get p_tk) kt_InvalidPlace_ParseError (isT_cons (PySem.W.mg_of X G ea_InvalidRoute) (excC_mk xg_InvalidRoute xk_InvalidRoute es_InvalidRoute id_InvalidRoute xc_InvalidRoute xm_InvalidRoute p_get p_tk) kt_InvalidRoute_ParseError (isT_cons (PySem.W.mg_of X G ea_InvalidStep) (excC_mk xg_InvalidStep xk_InvalidStep es_InvalidStep id_InvalidStep xc_InvalidStep xm_InvalidStep p_get p_tk) kt_InvalidStep_ParseError (isT_cons (PySem.W.mg_of X G ea_InvalidTie) (excC_mk xg_InvalidTie xk_InvalidTie es_InvalidTie id_InvalidTie xc_InvalidTie xm_InvalidTie p_get p_tk) kt_InvalidTie_ParseError (isT_cons (PySem.W.mg_of X G ea_InvalidWeb) (excC_mk xg_InvalidWeb xk_InvalidWeb es_InvalidWeb id_InvalidWeb xc_InvalidWeb xm_InvalidWeb p_get p_tk) kt_InvalidWeb_ParseError (isT_cons (PySem.W.mg_of X G ea_NothingToUndo) (excC_mk xg_NothingToUndo xk_NothingToUndo es_NothingToUndo id_NothingToUndo xc_NothingToUndo xm_NothingToUndo p_get p_tk) kt_NothingToUndo_ParseError (isT_cons (PySem.W.mg_of X G ea_ParseError) (excC_mk xg_ParseError xk_ParseError es_ParseError id_ParseError xc_ParseError xm_ParseError p_get p_tk) kt_ParseError_ParseError (isT_cons (PySem.W.mg_of X G ea_Parted) (excC_mk xg_Parted xk_Parted es_Parted id_Parted xc_Parted xm_Parted p_get p_tk) kt_Parted_ParseError (isT_cons (PySem.W.mg_of X G ea_Refused) (excC_mk xg_Refused xk_Refused es_Refused id_Refused xc_Refused xm_Refused p_get p_tk) kt_Refused_ParseError (isT_cons (PySem.W.mg_of X G ea_TooMany) (excC_mk xg_TooMany xk_TooMany es_TooMany id_TooMany xc_TooMany xm_TooMany p_get p_tk) kt_TooMany_ParseError (isT_cons (PySem.W.mg_of X G ea_UnknownName) (excC_mk xg_UnknownName xk_UnknownName es_UnknownName id_UnknownName xc_UnknownName xm_UnknownName p_get p_tk) kt_UnknownName_ParseError (isT_cons (PySem.W.mg_of X G ea_WebError) (excC_mk xg_WebError xk_WebError es_WebError id_WebError xc_WebError xm_WebError p_get p_tk) kt_WebError_ParseError (isT_nil))))))))))))))))))⟩, ⟨_, PySem.W.mg_of X G ea_WebError, isT_cons (PySem.W.mg_of X G ea_InvalidDrawing) (excC_mk xg_InvalidDrawing xk_InvalidDrawing es_InvalidDrawing id_InvalidDrawing xc_InvalidDrawing xm_InvalidDrawing p_get p_tk) kt_InvalidDrawing_WebError (isT_cons (PySem.W.mg_of X G ea_InvalidGrowth) (excC_mk xg_InvalidGrowth xk_InvalidGrowth es_InvalidGrowth id_InvalidGrowth xc_InvalidGrowth xm_InvalidGrowth p_get p_tk) kt_InvalidGrowth_WebError (isT_cons (PySem.W.mg_of X G ea_InvalidModel) (excC_mk xg_InvalidModel xk_InvalidModel es_InvalidModel id_InvalidModel xc_InvalidModel xm_InvalidModel p_get p_tk) kt_InvalidModel_WebError (isT_cons (PySem.W.mg_of X G ea_InvalidNumber) (excC_mk xg_InvalidNumber xk_InvalidNumber es_InvalidNumber id_InvalidNumber xc_InvalidNumber xm_InvalidNumber p_get p_tk) kt_InvalidNumber_WebError (isT_cons (PySem.W.mg_of X G ea_InvalidOperation) (excC_mk xg_InvalidOperation xk_InvalidOperation es_InvalidOperation id_InvalidOperation xc_InvalidOperation xm_InvalidOperation p_get p_tk) kt_InvalidOperation_WebError (isT_cons (PySem.W.mg_of X G ea_InvalidPart) (excC_mk xg_InvalidPart xk_InvalidPart es_InvalidPart id_InvalidPart xc_InvalidPart xm_InvalidPart p_get p_tk) kt_InvalidPart_WebError (isT_cons (PySem.W.mg_of X G ea_InvalidPlace) (excC_mk xg_InvalidPlace xk_InvalidPlace es_InvalidPlace id_InvalidPlace xc_InvalidPlace xm_InvalidPlace p_get p_tk) kt_InvalidPlace_WebError (isT_cons (PySem.W.mg_of X G ea_InvalidRoute) (excC_mk xg_InvalidRoute xk_InvalidRoute es_InvalidRoute id_InvalidRoute xc_InvalidRoute xm_InvalidRoute p_get p_tk) kt_InvalidRoute_WebError (isT_cons (PySem.W.mg_of X G ea_InvalidStep) (excC_mk xg_InvalidStep xk_InvalidStep es_InvalidStep id_InvalidStep xc_InvalidStep xm_InvalidStep p_get p_tk) kt_InvalidStep_WebError (isT_cons (PySem.W.mg_of X G ea_InvalidTie) (excC_mk xg_InvalidTie xk_InvalidTie es_InvalidTie id_InvalidTie xc_InvalidTie xm_InvalidTie p_get p_tk) kt_InvalidTie_WebError (isT_cons (PySem.W.mg_of X G ea_InvalidWeb) (excC_mk xg_InvalidWeb xk_InvalidWeb es_InvalidWeb id_InvalidWeb xc_InvalidWeb xm_InvalidWeb p_get p_tk) kt_InvalidWeb_WebError (isT_cons (PySem.W.mg_of X G ea_NothingToUndo) (excC_mk xg_NothingToUndo xk_NothingToUndo es_NothingToUndo id_NothingToUndo xc_NothingToUndo xm_NothingToUndo p_get p_tk) kt_NothingToUndo_WebError (isT_cons (PySem.W.mg_of X G ea_ParseError) (excC_mk xg_ParseError xk_ParseError es_ParseError id_ParseError xc_ParseError xm_ParseError p_get p_tk) kt_ParseError_WebError (isT_cons (PySem.W.mg_of X G ea_Parted) (excC_mk xg_Parted xk_Parted es_Parted id_Parted xc_Parted xm_Parted p_get p_tk) kt_Parted_WebError (isT_cons (PySem.W.mg_of X G ea_Refused) (excC_mk xg_Refused xk_Refused es_Refused id_Refused xc_Refused xm_Refused p_get p_tk) kt_Refused_WebError (isT_cons (PySem.W.mg_of X G ea_TooMany) (excC_mk xg_TooMany xk_TooMany es_TooMany id_TooMany xc_TooMany xm_TooMany p_get p_tk) kt_TooMany_WebError (isT_cons (PySem.W.mg_of X G ea_UnknownName) (excC_mk xg_UnknownName xk_UnknownName es_UnknownName id_UnknownName xc_UnknownName xm_UnknownName p_get p_tk) kt_UnknownName_WebError (isT_cons (PySem.W.mg_of X G ea_WebError) (excC_mk xg_WebError xk_WebError es_WebError id_WebError xc_WebError xm_WebError p_get p_tk) kt_WebError_WebError (isT_nil))))))))))))))))))⟩, isT_cons (PySem.W.mg_of X G ea_InvalidDrawing) (excC_mk xg_InvalidDrawing xk_InvalidDrawing es_InvalidDrawing id_InvalidDrawing xc_InvalidDrawing xm_InvalidDrawing p_get p_tk) kt_InvalidDrawing_ArithmeticError (isT_cons (PySem.W.mg_of X G ea_InvalidGrowth) (excC_mk xg_InvalidGrowth xk_InvalidGrowth es_InvalidGrowth id_InvalidGrowth xc_InvalidGrowth xm_InvalidGrowth p_get p_tk) kt_InvalidGrowth_ArithmeticError (isT_cons (PySem.W.mg_of X G ea_InvalidModel) (excC_mk xg_InvalidModel xk_InvalidModel es_InvalidModel id_InvalidModel xc_InvalidModel xm_InvalidModel p_get p_tk) kt_InvalidModel_ArithmeticError (isT_cons (PySem.W.mg_of X G ea_InvalidNumber) (excC_mk xg_InvalidNumber xk_InvalidNumber es_InvalidNumber id_InvalidNumber xc_InvalidNumber xm_InvalidNumber p_get p_tk) kt_InvalidNumber_ArithmeticError (isT_cons (PySem.W.mg_of X G ea_InvalidOperation) (excC_mk xg_InvalidOperation xk_InvalidOperation es_InvalidOperation id_InvalidOperation xc_InvalidOperation xm_InvalidOperation p_get p_tk) kt_InvalidOperation_ArithmeticError (isT_cons (PySem.W.mg_of X G ea_InvalidPart) (excC_mk xg_InvalidPart xk_InvalidPart es_InvalidPart id_InvalidPart xc_InvalidPart xm_InvalidPart p_get p_tk) kt_InvalidPart_ArithmeticError (isT_cons (PySem.W.mg_of X G ea_InvalidPlace) (excC_mk xg_InvalidPlace xk_InvalidPlace es_InvalidPlace id_InvalidPlace xc_InvalidPlace xm_InvalidPlace p_get p_tk) kt_InvalidPlace_ArithmeticError (isT_cons (PySem.W.mg_of X G ea_InvalidRoute) (excC_mk xg_InvalidRoute xk_InvalidRoute es_InvalidRoute id_InvalidRoute xc_InvalidRoute xm_InvalidRoute p_get p_tk) kt_InvalidRoute_ArithmeticError (isT_cons (PySem.W.mg_of X G ea_InvalidStep) (excC_mk xg_InvalidStep xk_InvalidStep es_InvalidStep id_InvalidStep xc_InvalidStep xm_InvalidStep p_get p_tk) kt_InvalidStep_ArithmeticError (isT_cons (PySem.W.mg_of X G ea_InvalidTie) (excC_mk xg_InvalidTie xk_InvalidTie es_InvalidTie id_InvalidTie xc_InvalidTie xm_InvalidTie p_get p_tk) kt_InvalidTie_ArithmeticError (isT_cons (PySem.W.mg_of X G ea_InvalidWeb) (excC_mk xg_InvalidWeb xk_InvalidWeb es_InvalidWeb id_InvalidWeb xc_InvalidWeb xm_InvalidWeb p_get p_tk) kt_InvalidWeb_ArithmeticError (isT_cons (PySem.W.mg_of X G ea_NothingToUndo) (excC_mk xg_NothingToUndo xk_NothingToUndo es_NothingToUndo id_NothingToUndo xc_NothingToUndo xm_NothingToUndo p_get p_tk) kt_NothingToUndo_ArithmeticError (isT_cons (PySem.W.mg_of X G ea_ParseError) (excC_mk xg_ParseError xk_ParseError es_ParseError id_ParseError xc_ParseError xm_ParseError p_get p_tk) kt_ParseError_ArithmeticError (isT_cons (PySem.W.mg_of X G ea_Parted) (excC_mk xg_Parted xk_Parted es_Parted id_Parted xc_Parted xm_Parted p_get p_tk) kt_Parted_ArithmeticError (isT_cons (PySem.W.mg_of X G ea_Refused) (excC_mk xg_Refused xk_Refused es_Refused id_Refused xc_Refused xm_Refused p_get p_tk) kt_Refused_ArithmeticError (isT_cons (PySem.W.mg_of X G ea_TooMany) (excC_mk xg_TooMany xk_TooMany es_TooMany id_TooMany xc_TooMany xm_TooMany p_get p_tk) kt_TooMany_ArithmeticError (isT_cons (PySem.W.mg_of X G ea_UnknownName) (excC_mk xg_UnknownName xk_UnknownName es_UnknownName id_UnknownName xc_UnknownName xm_UnknownName p_get p_tk) kt_UnknownName_ArithmeticError (isT_cons (PySem.W.mg_of X G ea_WebError) (excC_mk xg_WebError xk_WebError es_WebError id_WebError xc_WebError xm_WebError p_get p_tk) kt_WebError_ArithmeticError (isT_nil)))))))))))))))))), isT_cons (PySem.W.mg_of X G ea_InvalidDrawing) (excC_mk xg_InvalidDrawing xk_InvalidDrawing es_InvalidDrawing id_InvalidDrawing xc_InvalidDrawing xm_InvalidDrawing p_get p_tk) kt_InvalidDrawing_IndexError (isT_cons (PySem.W.mg_of X G ea_InvalidGrowth) (excC_mk xg_InvalidGrowth xk_InvalidGrowth es_InvalidGrowth id_InvalidGrowth xc_InvalidGrowth xm_InvalidGrowth p_get p_tk) kt_InvalidGrowth_IndexError (isT_cons (PySem.W.mg_of X G ea_InvalidModel) (excC_mk xg_InvalidModel xk_InvalidModel es_InvalidModel id_InvalidModel xc_InvalidModel xm_InvalidModel p_get p_tk) kt_InvalidModel_IndexError (isT_cons (PySem.W.mg_of X G ea_InvalidNumber) (excC_mk xg_InvalidNumber xk_InvalidNumber es_InvalidNumber id_InvalidNumber xc_InvalidNumber xm_InvalidNumber p_get p_tk) kt_InvalidNumber_IndexError (isT_cons (PySem.W.mg_of X G ea_InvalidOperation) (excC_mk xg_InvalidOperation xk_InvalidOperation es_InvalidOperation id_InvalidOperation xc_InvalidOperation xm_InvalidOperation p_get p_tk) kt_InvalidOperation_IndexError (isT_cons (PySem.W.mg_of X G ea_InvalidPart) (excC_mk xg_InvalidPart xk_InvalidPart es_InvalidPart id_InvalidPart xc_InvalidPart xm_InvalidPart p_get p_tk) kt_InvalidPart_IndexError (isT_cons (PySem.W.mg_of X G ea_InvalidPlace) (excC_mk xg_InvalidPlace xk_InvalidPlace es_InvalidPlace id_InvalidPlace xc_InvalidPlace xm_InvalidPlace p_get p_tk) kt_InvalidPlace_IndexError (isT_cons (PySem.W.mg_of X G ea_InvalidRoute) (excC_mk xg_InvalidRoute xk_InvalidRoute es_InvalidRoute id_InvalidRoute xc_InvalidRoute xm_InvalidRoute p_get p_tk) kt_InvalidRoute_IndexError (isT_cons (PySem.W.mg_of X G ea_InvalidStep) (excC_mk xg_InvalidStep xk_InvalidStep es_InvalidStep id_InvalidStep xc_InvalidStep xm_InvalidStep p_get p_tk) kt_InvalidStep_IndexError (isT_cons (PySem.W.mg_of X G ea_InvalidTie) (excC_mk xg_InvalidTie xk_InvalidTie es_InvalidTie id_InvalidTie xc_InvalidTie xm_InvalidTie p_get p_tk) kt_InvalidTie_IndexError (isT_cons (PySem.W.mg_of X G ea_InvalidWeb) (excC_mk xg_InvalidWeb xk_InvalidWeb es_InvalidWeb id_InvalidWeb xc_InvalidWeb xm_InvalidWeb p_get p_tk) kt_InvalidWeb_IndexError (isT_cons (PySem.W.mg_of X G ea_NothingToUndo) (excC_mk xg_NothingToUndo xk_NothingToUndo es_NothingToUndo id_NothingToUndo xc_NothingToUndo xm_NothingToUndo p_get p_tk) kt_NothingToUndo_IndexError (isT_cons (PySem.W.mg_of X G ea_ParseError) (excC_mk xg_ParseError xk_ParseError es_ParseError id_ParseError xc_ParseError xm_ParseError p_get p_tk) kt_ParseError_IndexError (isT_cons (PySem.W.mg_of X G ea_Parted) (excC_mk xg_Parted xk_Parted es_Parted id_Parted xc_Parted xm_Parted p_get p_tk) kt_Parted_IndexError (isT_cons (PySem.W.mg_of X G ea_Refused) (excC_mk xg_Refused xk_Refused es_Refused id_Refused xc_Refused xm_Refused p_get p_tk) kt_Refused_IndexError (isT_cons (PySem.W.mg_of X G ea_TooMany) (excC_mk xg_TooMany xk_TooMany es_TooMany id_TooMany xc_TooMany xm_TooMany p_get p_tk) kt_TooMany_IndexError (isT_cons (PySem.W.mg_of X G ea_UnknownName) (excC_mk xg_UnknownName xk_UnknownName es_UnknownName id_UnknownName xc_UnknownName xm_UnknownName p_get p_tk) kt_UnknownName_IndexError (isT_cons (PySem.W.mg_of X G ea_WebError) (excC_mk xg_WebError xk_WebError es_WebError id_WebError xc_WebError xm_WebError p_get p_tk) kt_WebError_IndexError (isT_nil)))))))))))))))))), isT_cons (PySem.W.mg_of X G ea_InvalidDrawing) (excC_mk xg_InvalidDrawing xk_InvalidDrawing es_InvalidDrawing id_InvalidDrawing xc_InvalidDrawing xm_InvalidDrawing p_get p_tk) kt_InvalidDrawing_KeyError (isT_cons (PySem.W.mg_of X G ea_InvalidGrowth) (excC_mk xg_InvalidGrowth xk_InvalidGrowth es_InvalidGrowth id_InvalidGrowth xc_InvalidGrowth xm_InvalidGrowth p_get p_tk) kt_InvalidGrowth_KeyError (isT_cons (PySem.W.mg_of X G ea_InvalidModel) (excC_mk xg_InvalidModel xk_InvalidModel es_InvalidModel id_InvalidModel xc_InvalidModel xm_InvalidModel p_get p_tk) kt_InvalidModel_KeyError (isT_cons (PySem.W.mg_of X G ea_InvalidNumber) (excC_mk xg_InvalidNumber xk_InvalidNumber es_InvalidNumber id_InvalidNumber xc_InvalidNumber xm_InvalidNumber p_get p_tk) kt_InvalidNumber_KeyError (isT_cons (PySem.W.mg_of X G ea_InvalidOperation) (excC_mk xg_InvalidOperation xk_InvalidOperation es_InvalidOperation id_InvalidOperation xc_InvalidOperation xm_InvalidOperation p_get p_tk) kt_InvalidOperation_KeyError (isT_cons (PySem.W.mg_of X G ea_InvalidPart) (excC_mk xg_InvalidPart xk_InvalidPart es_InvalidPart id_InvalidPart xc_InvalidPart xm_InvalidPart p_get p_tk) kt_InvalidPart_KeyError (isT_cons (PySem.W.mg_of X G ea_InvalidPlace) (excC_mk xg_InvalidPlace xk_InvalidPlace es_InvalidPlace id_InvalidPlace xc_InvalidPlace xm_InvalidPlace p_get p_tk) kt_InvalidPlace_KeyError (isT_cons (PySem.W.mg_of X G ea_InvalidRoute) (excC_mk xg_InvalidRoute xk_InvalidRoute es_InvalidRoute id_InvalidRoute xc_InvalidRoute xm_InvalidRoute p_get p_tk) kt_InvalidRoute_KeyError (isT_cons (PySem.W.mg_of X G ea_InvalidStep) (excC_mk xg_InvalidStep xk_InvalidStep es_InvalidStep id_InvalidStep xc_InvalidStep xm_InvalidStep p_get p_tk) kt_InvalidStep_KeyError (isT_cons (PySem.W.mg_of X G ea_InvalidTie) (excC_mk xg_InvalidTie xk_InvalidTie es_InvalidTie id_InvalidTie xc_InvalidTie xm_InvalidTie p_get p_tk) kt_InvalidTie_KeyError (isT_cons (PySem.W.mg_of X G ea_InvalidWeb) (excC_mk xg_InvalidWeb xk_InvalidWeb es_InvalidWeb id_InvalidWeb xc_InvalidWeb xm_InvalidWeb p_get p_tk) kt_InvalidWeb_KeyError (isT_cons (PySem.W.mg_of X G ea_NothingToUndo) (excC_mk xg_NothingToUndo xk_NothingToUndo es_NothingToUndo id_NothingToUndo xc_NothingToUndo xm_NothingToUndo p_get p_tk) kt_NothingToUndo_KeyError (isT_cons (PySem.W.mg_of X G ea_ParseError) (excC_mk xg_ParseError xk_ParseError es_ParseError id_ParseError xc_ParseError xm_ParseError p_get p_tk) kt_ParseError_KeyError (isT_cons (PySem.W.mg_of X G ea_Parted) (excC_mk xg_Parted xk_Parted es_Parted id_Parted xc_Parted xm_Parted p_get p_tk) kt_Parted_KeyError (isT_cons (PySem.W.mg_of X G ea_Refused) (excC_mk xg_Refused xk_Refused es_Refused id_Refused xc_Refused xm_Refused p_get p_tk) kt_Refused_KeyError (isT_cons (PySem.W.mg_of X G ea_TooMany) (excC_mk xg_TooMany xk_TooMany es_TooMany id_TooMany xc_TooMany xm_TooMany p_get p_tk) kt_TooMany_KeyError (isT_cons (PySem.W.mg_of X G ea_UnknownName) (excC_mk xg_UnknownName xk_UnknownName es_UnknownName id_UnknownName xc_UnknownName xm_UnknownName p_get p_tk) kt_UnknownName_KeyError (isT_cons (PySem.W.mg_of X G ea_WebError) (excC_mk xg_WebError xk_WebError es_WebError id_WebError xc_WebError xm_WebError p_get p_tk) kt_WebError_KeyError (isT_nil)))))))))))))))))), isT_cons (PySem.W.mg_of X G ea_InvalidDrawing) (excC_mk xg_InvalidDrawing xk_InvalidDrawing es_InvalidDrawing id_InvalidDrawing xc_InvalidDrawing xm_InvalidDrawing p_get p_tk) kt_InvalidDrawing_LookupError (isT_cons (PySem.W.mg_of X G ea_InvalidGrowth) (excC_mk xg_InvalidGrowth xk_InvalidGrowth es_InvalidGrowth id_InvalidGrowth xc_InvalidGrowth xm_InvalidGrowth p_get p_tk) kt_InvalidGrowth_LookupError (isT_cons (PySem.W.mg_of X G ea_InvalidModel) (excC_mk xg_InvalidModel xk_InvalidModel es_InvalidModel id_InvalidModel xc_InvalidModel xm_InvalidModel p_get p_tk) kt_InvalidModel_LookupError (isT_cons (PySem.W.mg_of X G ea_InvalidNumber) (excC_mk xg_InvalidNumber xk_InvalidNumber es_InvalidNumber id_InvalidNumber xc_InvalidNumber xm_InvalidNumber p_get p_tk) kt_InvalidNumber_LookupError (isT_cons (PySem.W.mg_of X G ea_InvalidOperation) (excC_mk xg_InvalidOperation xk_InvalidOperation es_InvalidOperation id_InvalidOperation xc_InvalidOperation xm_InvalidOperation p_get p_tk) kt_InvalidOperation_LookupError (isT_cons (PySem.W.mg_of X G ea_InvalidPart) (excC_mk xg_InvalidPart xk_InvalidPart es_InvalidPart id_InvalidPart xc_InvalidPart xm_InvalidPart p_get p_tk) kt_InvalidPart_LookupError (isT_cons (PySem.W.mg_of X G ea_InvalidPlace) (excC_mk xg_InvalidPlace xk_InvalidPlace es_InvalidPlace id_InvalidPlace xc_InvalidPlace xm_InvalidPlace p_get p_tk) kt_InvalidPlace_LookupError (isT_cons (PySem.W.mg_of X G ea_InvalidRoute) (excC_mk xg_InvalidRoute xk_InvalidRoute es_InvalidRoute id_InvalidRoute xc_InvalidRoute xm_InvalidRoute p_get p_tk) kt_InvalidRoute_LookupError (isT_cons (PySem.W.mg_of X G ea_InvalidStep) (excC_mk xg_InvalidStep xk_InvalidStep es_InvalidStep id_InvalidStep xc_InvalidStep xm_InvalidStep p_get p_tk) kt_InvalidStep_LookupError (isT_cons (PySem.W.mg_of X G ea_InvalidTie) (excC_mk xg_InvalidTie xk_InvalidTie es_InvalidTie id_InvalidTie xc_InvalidTie xm_InvalidTie p_get p_tk) kt_InvalidTie_LookupError (isT_cons (PySem.W.mg_of X G ea_InvalidWeb) (excC_mk xg_InvalidWeb xk_InvalidWeb es_InvalidWeb id_InvalidWeb xc_InvalidWeb xm_InvalidWeb p_get p_tk) kt_InvalidWeb_LookupError (isT_cons (PySem.W.mg_of X G ea_NothingToUndo) (excC_mk xg_NothingToUndo xk_NothingToUndo es_NothingToUndo id_NothingToUndo xc_NothingToUndo xm_NothingToUndo p_get p_tk) kt_NothingToUndo_LookupError (isT_cons (PySem.W.mg_of X G ea_ParseError) (excC_mk xg_ParseError xk_ParseError es_ParseError id_ParseError xc_ParseError xm_ParseError p_get p_tk) kt_ParseError_LookupError (isT_cons (PySem.W.mg_of X G ea_Parted) (excC_mk xg_Parted xk_Parted es_Parted id_Parted xc_Parted xm_Parted p_get p_tk) kt_Parted_LookupError (isT_cons (PySem.W.mg_of X G ea_Refused) (excC_mk xg_Refused xk_Refused es_Refused id_Refused xc_Refused xm_Refused p_get p_tk) kt_Refused_LookupError (isT_cons (PySem.W.mg_of X G ea_TooMany) (excC_mk xg_TooMany xk_TooMany es_TooMany id_TooMany xc_TooMany xm_TooMany p_get p_tk) kt_TooMany_LookupError (isT_cons (PySem.W.mg_of X G ea_UnknownName) (excC_mk xg_UnknownName xk_UnknownName es_UnknownName id_UnknownName xc_UnknownName xm_UnknownName p_get p_tk) kt_UnknownName_LookupError (isT_cons (PySem.W.mg_of X G ea_WebError) (excC_mk xg_WebError xk_WebError es_WebError id_WebError xc_WebError xm_WebError p_get p_tk) kt_WebError_LookupError (isT_nil)))))))))))))))))), isT_cons (PySem.W.mg_of X G ea_InvalidDrawing) (excC_mk xg_InvalidDrawing xk_InvalidDrawing es_InvalidDrawing id_InvalidDrawing xc_InvalidDrawing xm_InvalidDrawing p_get p_tk) kt_InvalidDrawing_OverflowError (isT_cons (PySem.W.mg_of X G ea_InvalidGrowth) (excC_mk xg_InvalidGrowth xk_InvalidGrowth es_InvalidGrowth id_InvalidGrowth xc_InvalidGrowth xm_InvalidGrowth p_get p_tk) kt_InvalidGrowth_OverflowError (isT_cons (PySem.W.mg_of X G ea_InvalidModel) (excC_mk xg_InvalidModel xk_InvalidModel es_InvalidModel id_InvalidModel xc_InvalidModel xm_InvalidModel p_get p_tk) kt_InvalidModel_OverflowError (isT_cons (PySem.W.mg_of X G ea_InvalidNumber) (excC_mk xg_InvalidNumber xk_InvalidNumber es_InvalidNumber id_InvalidNumber xc_InvalidNumber xm_InvalidNumber p_get p_tk) kt_InvalidNumber_OverflowError (isT_cons (PySem.W.mg_of X G ea_InvalidOperation) (excC_mk xg_InvalidOperation xk_InvalidOperation es_InvalidOperation id_InvalidOperation xc_InvalidOperation xm_InvalidOperation p_get p_tk) kt_InvalidOperation_OverflowError (isT_cons (PySem.W.mg_of X G ea_InvalidPart) (excC_mk xg_InvalidPart xk_InvalidPart es_InvalidPart id_InvalidPart xc_InvalidPart xm_InvalidPart p_get p_tk) kt_InvalidPart_OverflowError (isT_cons (PySem.W.mg_of X G ea_InvalidPlace) (excC_mk xg_InvalidPlace xk_InvalidPlace es_InvalidPlace id_InvalidPlace xc_InvalidPlace xm_InvalidPlace p_get p_tk) kt_InvalidPlace_OverflowError (isT_cons (PySem.W.mg_of X G ea_InvalidRoute) (excC_mk xg_InvalidRoute xk_InvalidRoute es_InvalidRoute id_InvalidRoute xc_InvalidRoute xm_InvalidRoute p_get p_tk) kt_InvalidRoute_OverflowError (isT_cons (PySem.W.mg_of X G ea_InvalidStep) (excC_mk xg_InvalidStep xk_InvalidStep es_InvalidStep id_InvalidStep xc_InvalidStep xm_InvalidStep p_get p_tk) kt_InvalidStep_OverflowError (isT_cons (PySem.W.mg_of X G ea_InvalidTie) (excC_mk xg_InvalidTie xk_InvalidTie es_InvalidTie id_InvalidTie xc_InvalidTie xm_InvalidTie p_get p_tk) kt_InvalidTie_OverflowError (isT_cons (PySem.W.mg_of X G ea_InvalidWeb) (excC_mk xg_InvalidWeb xk_InvalidWeb es_InvalidWeb id_InvalidWeb xc_InvalidWeb xm_InvalidWeb p_get p_tk) kt_InvalidWeb_OverflowError (isT_cons (PySem.W.mg_of X G ea_NothingToUndo) (excC_mk xg_NothingToUndo xk_NothingToUndo es_NothingToUndo id_NothingToUndo xc_NothingToUndo xm_NothingToUndo p_get p_tk) kt_NothingToUndo_OverflowError (isT_cons (PySem.W.mg_of X G ea_ParseError) (excC_mk xg_ParseError xk_ParseError es_ParseError id_ParseError xc_ParseError xm_ParseError p_get p_tk) kt_ParseError_OverflowError (isT_cons (PySem.W.mg_of X G ea_Parted) (excC_mk xg_Parted xk_Parted es_Parted id_Parted xc_Parted xm_Parted p_get p_tk) kt_Parted_OverflowError (isT_cons (PySem.W.mg_of X G ea_Refused) (excC_mk xg_Refused xk_Refused es_Refused id_Refused xc_Refused xm_Refused p_get p_tk) kt_Refused_OverflowError (isT_cons (PySem.W.mg_of X G ea_TooMany) (excC_mk xg_TooMany xk_TooMany es_TooMany id_TooMany xc_TooMany xm_TooMany p_get p_tk) kt_TooMany_OverflowError (isT_cons (PySem.W.mg_of X G ea_UnknownName) (excC_mk xg_UnknownName xk_UnknownName es_UnknownName id_UnknownName xc_UnknownName xm_UnknownName p_get p_tk) kt_UnknownName_OverflowError (isT_cons (PySem.W.mg_of X G ea_WebError) (excC_mk xg_WebError xk_WebError es_WebError id_WebError xc_WebError xm_WebError p_get p_tk) kt_WebError_OverflowError (isT_nil)))))))))))))))))), isT_cons (PySem.W.mg_of X G ea_InvalidDrawing) (excC_mk xg_InvalidDrawing xk_InvalidDrawing es_InvalidDrawing id_InvalidDrawing xc_InvalidDrawing xm_InvalidDrawing p_get p_tk) kt_InvalidDrawing_RuntimeError (isT_cons (PySem.W.mg_of X G ea_InvalidGrowth) (excC_mk xg_InvalidGrowth xk_InvalidGrowth es_InvalidGrowth id_InvalidGrowth xc_InvalidGrowth xm_InvalidGrowth p_get p_tk) kt_InvalidGrowth_RuntimeError (isT_cons (PySem.W.mg_of X G ea_InvalidModel) (excC_mk xg_InvalidModel xk_InvalidModel es_InvalidModel id_InvalidModel xc_InvalidModel xm_InvalidModel p_get p_tk) kt_InvalidModel_RuntimeError (isT_cons (PySem.W.mg_of X G ea_InvalidNumber) (excC_mk xg_InvalidNumber xk_InvalidNumber es_InvalidNumber id_InvalidNumber xc_InvalidNumber xm_InvalidNumber p_get p_tk) kt_InvalidNumber_RuntimeError (isT_cons (PySem.W.mg_of X G ea_InvalidOperation) (excC_mk xg_InvalidOperation xk_InvalidOperation es_InvalidOperation id_InvalidOperation xc_InvalidOperation xm_InvalidOperation p_get p_tk) kt_InvalidOperation_RuntimeError (isT_cons (PySem.W.mg_of X G ea_InvalidPart) (excC_mk xg_InvalidPart xk_InvalidPart es_InvalidPart id_InvalidPart xc_InvalidPart xm_InvalidPart p_get p_tk) kt_InvalidPart_RuntimeError (isT_cons (PySem.W.mg_of X G ea_InvalidPlace) (excC_mk xg_InvalidPlace xk_InvalidPlace es_InvalidPlace id_InvalidPlace xc_InvalidPlace xm_InvalidPlace p_get p_tk) kt_InvalidPlace_RuntimeError (isT_cons (PySem.W.mg_of X G ea_InvalidRoute) (excC_mk xg_InvalidRoute xk_InvalidRoute es_InvalidRoute id_InvalidRoute xc_InvalidRoute xm_InvalidRoute p_get p_tk) kt_InvalidRoute_RuntimeError (isT_cons (PySem.W.mg_of X G ea_InvalidStep) (excC_mk xg_InvalidStep xk_InvalidStep es_InvalidStep id_InvalidStep xc_InvalidStep xm_InvalidStep p_get p_tk) kt_InvalidStep_RuntimeError (isT_cons (PySem.W.mg_of X G ea_InvalidTie) (excC_mk xg_InvalidTie xk_InvalidTie es_InvalidTie id_InvalidTie xc_InvalidTie xm_InvalidTie p_get p_tk) kt_InvalidTie_RuntimeError (isT_cons (PySem.W.mg_of X G ea_InvalidWeb) (excC_mk xg_InvalidWeb xk_InvalidWeb es_InvalidWeb id_InvalidWeb xc_InvalidWeb xm_InvalidWeb p_get p_tk) kt_InvalidWeb_RuntimeError (isT_cons (PySem.W.mg_of X G ea_NothingToUndo) (excC_mk xg_NothingToUndo xk_NothingToUndo es_NothingToUndo id_NothingToUndo xc_NothingToUndo xm_NothingToUndo p_get p_tk) kt_NothingToUndo_RuntimeError (isT_cons (PySem.W.mg_of X G ea_ParseError) (excC_mk xg_ParseError xk_ParseError es_ParseError id_ParseError xc_ParseError xm_ParseError p_get p_tk) kt_ParseError_RuntimeError (isT_cons (PySem.W.mg_of X G ea_Parted) (excC_mk xg_Parted xk_Parted es_Parted id_Parted xc_Parted xm_Parted p_get p_tk) kt_Parted_RuntimeError (isT_cons (PySem.W.mg_of X G ea_Refused) (excC_mk xg_Refused xk_Refused es_Refused id_Refused xc_Refused xm_Refused p_get p_tk) kt_Refused_RuntimeError (isT_cons (PySem.W.mg_of X G ea_TooMany) (excC_mk xg_TooMany xk_TooMany es_TooMany id_TooMany xc_TooMany xm_TooMany p_get p_tk) kt_TooMany_RuntimeError (isT_cons (PySem.W.mg_of X G ea_UnknownName) (excC_mk xg_UnknownName xk_UnknownName es_UnknownName id_UnknownName xc_UnknownName xm_UnknownName p_get p_tk) kt_UnknownName_RuntimeError (isT_cons (PySem.W.mg_of X G ea_WebError) (excC_mk xg_WebError xk_WebError es_WebError id_WebError xc_WebError xm_WebError p_get p_tk) kt_WebError_RuntimeError (isT_nil)))))))))))))))))), isT_cons (PySem.W.mg_of X G ea_InvalidDrawing) (excC_mk xg_InvalidDrawing xk_InvalidDrawing es_InvalidDrawing id_InvalidDrawing xc_InvalidDrawing xm_InvalidDrawing p_get p_tk) kt_InvalidDrawing_ValueError (isT_cons (PySem.W.mg_of X G ea_InvalidGrowth) (excC_mk xg_InvalidGrowth xk_InvalidGrowth es_InvalidGrowth id_InvalidGrowth xc_InvalidGrowth xm_InvalidGrowth p_get p_tk) kt_InvalidGrowth_ValueError (isT_cons (PySem.W.mg_of X G ea_InvalidModel) (excC_mk xg_InvalidModel xk_InvalidModel es_InvalidModel id_InvalidModel xc_InvalidModel xm_InvalidModel p_get p_tk) kt_InvalidModel_ValueError (isT_cons (PySem.W.mg_of X G ea_InvalidNumber) (excC_mk xg_InvalidNumber xk_InvalidNumber es_InvalidNumber id_InvalidNumber xc_InvalidNumber xm_InvalidNumber p_get p_tk) kt_InvalidNumber_ValueError (isT_cons (PySem.W.mg_of X G ea_InvalidOperation) (excC_mk xg_InvalidOperation xk_InvalidOperation es_InvalidOperation id_InvalidOperation xc_InvalidOperation xm_InvalidOperation p_get p_tk) kt_InvalidOperation_ValueError (isT_cons (PySem.W.mg_of X G ea_InvalidPart) (excC_mk xg_InvalidPart xk_InvalidPart es_InvalidPart id_InvalidPart xc_InvalidPart xm_InvalidPart p_get p_tk) kt_InvalidPart_ValueError (isT_cons (PySem.W.mg_of X G ea_InvalidPlace) (excC_mk xg_InvalidPlace xk_InvalidPlace es_InvalidPlace id_InvalidPlace xc_InvalidPlace xm_InvalidPlace p_get p_tk) kt_InvalidPlace_ValueError (isT_cons (PySem.W.mg_of X G ea_InvalidRoute) (excC_mk xg_InvalidRoute xk_InvalidRoute es_InvalidRoute id_InvalidRoute xc_InvalidRoute xm_InvalidRoute p_get p_tk) kt_InvalidRoute_ValueError (isT_cons (PySem.W.mg_of X G ea_InvalidStep) (excC_mk xg_InvalidStep xk_InvalidStep es_InvalidStep id_InvalidStep xc_InvalidStep xm_InvalidStep p_get p_tk) kt_InvalidStep_ValueError (isT_cons (PySem.W.mg_of X G ea_InvalidTie) (excC_mk xg_InvalidTie xk_InvalidTie es_InvalidTie id_InvalidTie xc_InvalidTie xm_InvalidTie p_get p_tk) kt_InvalidTie_ValueError (isT_cons (PySem.W.mg_of X G ea_InvalidWeb) (excC_mk xg_InvalidWeb xk_InvalidWeb es_InvalidWeb id_InvalidWeb xc_InvalidWeb xm_InvalidWeb p_get p_tk) kt_InvalidWeb_ValueError (isT_cons (PySem.W.mg_of X G ea_NothingToUndo) (excC_mk xg_NothingToUndo xk_NothingToUndo es_NothingToUndo id_NothingToUndo xc_NothingToUndo xm_NothingToUndo p_get p_tk) kt_NothingToUndo_ValueError (isT_cons (PySem.W.mg_of X G ea_ParseError) (excC_mk xg_ParseError xk_ParseError es_ParseError id_ParseError xc_ParseError xm_ParseError p_get p_tk) kt_ParseError_ValueError (isT_cons (PySem.W.mg_of X G ea_Parted) (excC_mk xg_Parted xk_Parted es_Parted id_Parted xc_Parted xm_Parted p_get p_tk) kt_Parted_ValueError (isT_cons (PySem.W.mg_of X G ea_Refused) (excC_mk xg_Refused xk_Refused es_Refused id_Refused xc_Refused xm_Refused p_get p_tk) kt_Refused_ValueError (isT_cons (PySem.W.mg_of X G ea_TooMany) (excC_mk xg_TooMany xk_TooMany es_TooMany id_TooMany xc_TooMany xm_TooMany p_get p_tk) kt_TooMany_ValueError (isT_cons (PySem.W.mg_of X G ea_UnknownName) (excC_mk xg_UnknownName xk_UnknownName es_UnknownName id_UnknownName xc_UnknownName xm_UnknownName p_get p_tk) kt_UnknownName_ValueError (isT_cons (PySem.W.mg_of X G ea_WebError) (excC_mk xg_WebError xk_WebError es_WebError id_WebError xc_WebError xm_WebError p_get p_tk) kt_WebError_ValueError (isT_nil)))))))))))))))))), fldK_mk (PySem.W.mg_of X G ea_InvalidNumber) ⟨xg_InvalidNumber, xk_InvalidNumber, es_InvalidNumber, id_InvalidNumber⟩ ff_InvalidNumber_value, fldK_mk (PySem.W.mg_of X G ea_NothingToUndo) ⟨xg_NothingToUndo, xk_NothingToUndo, es_NothingToUndo, id_NothingToUndo⟩ ff_NothingToUndo_many, fldK_mk (PySem.W.mg_of X G ea_ParseError) ⟨xg_ParseError, xk_ParseError, es_ParseError, id_ParseError⟩ ff_ParseError_number, fldK_mk (PySem.W.mg_of X G ea_Parted) ⟨xg_Parted, xk_Parted, es_Parted, id_Parted⟩ ff_Parted_parting, fldK_mk (PySem.W.mg_of X G ea_Refused) ⟨xg_Refused, xk_Refused, es_Refused, id_Refused⟩ ff_Refused_pledge, fldK_mk (PySem.W.mg_of X G ea_TooMany) ⟨xg_TooMany, xk_TooMany, es_TooMany, id_TooMany⟩ ff_TooMany_limit, fldK_mk (PySem.W.mg_of X G ea_UnknownName) ⟨xg_UnknownName, xk_UnknownName, es_UnknownName, id_UnknownName⟩ ff_UnknownName_word⟩
  refine ⟨PySem.W.fnOf "law" "law" (defArgs (top 29)) (defBody (top 29)) (defScope (top 29)) .none kV9 dc9 pm9 an9 cd9 ct9, fun s v => .of_eq rfl, fun base _ _ => ?_⟩
  have F0 := fun_mk (st := top 20) l0 c0 k0
  have D__law_dice : Def l.prog w K mg base 1 "_law_dice" f__law_dice := ⟨_, _, ["script", "spot"], PySem.W.mg_of X G a0, F0.kp, F0.binds (ps := ["script", "spot"]) (fun _ _ _ _ _ _ us hl => match us, hl with | [_, _], _ => rfl), ok__law_dice T  F0⟩
  have F1 := fun_mk (st := top 21) l1 c1 k1
  have D__law_roll : Def l.prog w K mg base 1 "_law_roll" f__law_roll := ⟨_, _, ["dice", "total"], PySem.W.mg_of X G a1, F1.kp, F1.binds (ps := ["dice", "total"]) (fun _ _ _ _ _ _ us hl => match us, hl with | [_, _], _ => rfl), ok__law_roll T  F1⟩
  have F2 := fun_mk (st := top 22) l2 c2 k2
  have D__law_pick : Def l.prog w K mg base 2 "_law_pick" f__law_pick := ⟨_, _, ["dice", "items"], PySem.W.mg_of X G a2, F2.kp, F2.binds (ps := ["dice", "items"]) (fun _ _ _ _ _ _ us hl => match us, hl with | [_, _], _ => rfl), ok__law_pick T D__law_roll F2⟩
  have F3 := fun_mk (st := top 23) l3 c3 k3
  have D__law_plain_errors : Def l.prog w K mg base 1 "_law_plain_errors" f__law_plain_errors := ⟨_, _, [], PySem.W.mg_of X G a3, F3.kp, F3.binds (ps := []) (fun _ _ _ _ _ _ us hl => match us, hl with | [], _ => rfl), ok__law_plain_errors T  F3⟩
  have F4 := fun_mk (st := top 24) l4 c4 k4
  have D__law_kinds_of : Def l.prog w K mg base 1 "_law_kinds_of" f__law_kinds_of := ⟨_, _, ["error"], PySem.W.mg_of X G a4, F4.kp, F4.binds (ps := ["error"]) (fun _ _ _ _ _ _ us hl => match us, hl with | [_], _ => rfl), ok__law_kinds_of T  F4⟩
  have F5 := fun_mk (st := top 25) l5 c5 k5
  have D__law_raised : Def l.prog w K mg base 1 "_law_raised" f__law_raised := ⟨_, _, ["way", "value"], PySem.W.mg_of X G a5, F5.kp, F5.binds (ps := ["way", "value"]) (fun _ _ _ _ _ _ us hl => match us, hl with | [_, _], _ => rfl), ok__law_raised T  F5⟩
  have F6 := fun_mk (st := top 26) l6 c6 k6
  have D__law_word_of : Def l.prog w K mg base 2 "_law_word_of" f__law_word_of := ⟨_, _, ["way", "value"], PySem.W.mg_of X G a6, F6.kp, F6.binds (ps := ["way", "value"]) (fun _ _ _ _ _ _ us hl => match us, hl with | [_, _], _ => rfl), ok__law_word_of T D__law_raised F6⟩
  have F7 := fun_mk (st := top 27) l7 c7 k7
  have D__law_keepers_right : Def l.prog w K mg base 3 "_law_keepers_right" f__law_keepers_right := ⟨_, _, ["value"], PySem.W.mg_of X G a7, F7.kp, F7.binds (ps := ["value"]) (fun _ _ _ _ _ _ us hl => match us, hl with | [_], _ => rfl), ok__law_keepers_right T D__law_kinds_of D__law_word_of F7⟩
  have F8 := fun_mk (st := top 28) l8 c8 k8
  have D__law_singles_right : Def l.prog w K mg base 2 "_law_singles_right" f__law_singles_right := ⟨_, _, [], PySem.W.mg_of X G a8, F8.kp, F8.binds (ps := []) (fun _ _ _ _ _ _ us hl => match us, hl with | [], _ => rfl), ok__law_singles_right T D__law_kinds_of D__law_plain_errors F8⟩
  exact fn_A (ok_law T D__law_dice D__law_keepers_right D__law_kinds_of D__law_pick D__law_roll D__law_singles_right (fun_mk (st := top 29) l9 c9 k9))
theorem walk {l : PySem.W.OpenLaw} {q : Program} {loose : List Str} {XP : (Str → Option Value) → Heap → Prop} {YP : World → Heap → Prop} {d : DefRec} {K : Params → PySem.W.Frag} (plain : PlainOk f_law) (hn : l.most = some 63) (hdf : d.params.defaults = [])
    (hY : ∀ (w : World) (h : Heap), YP w h → (K w.params).In h)
    (F : ∀ (w : World) (mg : Str → Option Value) (fa : Addr) (h : Heap), (K w.params).In h → h.Ns mainGlobals mg → mg d.name = some (.ref fa) →
      ∃ fd : FuncData, (∀ (s : Shared) (u : Value), BindsTo s fd ⟨[u], []⟩ [("script", u)]) ∧ ∀ base : Heap, (K w.params).In base → base.Ns mainGlobals mg → FnG l.prog w (K w.params) mg base (L2.CX l.prog w) 4 fa fd ["script"] (spA w (K w.params) f_law)) :
    PySem.W.WalkO q loose XP YP l.row.toRowW d [] (fun f vs => PySem.call f vs) :=
  walk_G (n := 63) (k := 4) (x := "script") (CX := fun w => L2.CX l.prog w) (sp := fun w => spA w (K w.params) f_law) hn (by decide) hdf ⟨rfl, by decide, by decide⟩ hY F (fun _ _ a ns hl _ hS mg => sp_law plain hl hS) fun _ _ _ _ _ z => cx_none z
end
end Wg.K00

open PySem PySem.W PyProof.Rows
set_option maxRecDepth 100000 in
set_option maxHeartbeats 0 in
theorem PySem.Challenge.cw_wheelgrown_k00_errors_kept_and_caught_holds : PySem.Challenge.rw_wheelgrown_k00_errors_kept_and_caught.Holds := by
  w_on; o_law; k_head; (case hw => w_witness2)
  k_fill
  refine Wg.K00.walk (l := PySem.Challenge.rw_wheelgrown_k00_errors_kept_and_caught) Wg.K00.plain rfl rfl (fun w h Y => PySem.W.kIn_of Y) ?F
  case F =>
    intro w mg fa h KX G hmg
    refine' Wg.K00.all_mk KX G hmg ?a0 ?l0 ?c0 ?k0 ?a1 ?l1 ?c1 ?k1 ?a2 ?l2 ?c2 ?k2 ?a3 ?l3 ?c3 ?k3 ?a4 ?l4 ?c4 ?k4 ?a5 ?l5 ?c5 ?k5 ?a6 ?l6 ?c6 ?k6 ?a7 ?l7 ?c7 ?k7 ?a8 ?l8 ?c8 ?k8 ?a9 ?l9 ?c9 ?k9 ?z_ArithmeticError ?z_IndexError ?z_KeyError ?z_LookupError ?z_OverflowError ?z_RuntimeError ?z_ValueError ?z_abs ?z_int ?z_isinstance ?z_len ?z_max ?z_min ?z_range ?z_repr ?z_super ?ea_InvalidDrawing ?eq_InvalidDrawing ?ek_InvalidDrawing ?es_InvalidDrawing ?et_InvalidDrawing ?ea_InvalidGrowth ?eq_InvalidGrowth ?ek_InvalidGrowth ?es_InvalidGrowth ?et_InvalidGrowth ?ea_InvalidModel ?eq_InvalidModel ?ek_InvalidModel ?es_InvalidModel ?et_InvalidModel ?ea_InvalidOperation ?eq_InvalidOperation ?ek_InvalidOperation ?es_InvalidOperation ?et_InvalidOperation ?ea_InvalidPart ?eq_InvalidPart ?ek_InvalidPart ?es_InvalidPart ?et_InvalidPart ?ea_InvalidPlace ?eq_InvalidPlace ?ek_InvalidPlace ?es_InvalidPlace ?et_InvalidPlace ?ea_InvalidRoute ?eq_InvalidRoute ?ek_InvalidRoute ?es_InvalidRoute ?et_InvalidRoute ?ea_InvalidStep ?eq_InvalidStep ?ek_InvalidStep ?es_InvalidStep ?et_InvalidStep ?ea_InvalidTie ?eq_InvalidTie ?ek_InvalidTie ?es_InvalidTie ?et_InvalidTie ?ea_InvalidWeb ?eq_InvalidWeb ?ek_InvalidWeb ?es_InvalidWeb ?et_InvalidWeb ?ea_WebError ?eq_WebError ?ek_WebError ?es_WebError ?et_WebError ?ea_InvalidNumber ?ek_InvalidNumber ?es_InvalidNumber ?et_InvalidNumber ?eb_InvalidNumber ?ih_InvalidNumber ?io_InvalidNumber ?ic_InvalidNumber ?iv_InvalidNumber ?iw_InvalidNumber ?if_InvalidNumber ?il_InvalidNumber ?ir_InvalidNumber ?im_InvalidNumber ?iB_InvalidNumber ?ia_InvalidNumber ?ip_InvalidNumber ?it_InvalidNumber ?id_InvalidNumber ?ea_NothingToUndo ?ek_NothingToUndo ?es_NothingToUndo ?et_NothingToUndo ?eb_NothingToUndo ?ih_NothingToUndo ?io_NothingToUndo ?ic_NothingToUndo ?iv_NothingToUndo ?iw_NothingToUndo ?if_NothingToUndo ?il_NothingToUndo ?ir_NothingToUndo ?im_NothingToUndo ?iB_NothingToUndo ?ia_NothingToUndo ?ip_NothingToUndo ?it_NothingToUndo ?id_NothingToUndo ?ea_ParseError ?ek_ParseError ?es_ParseError ?et_ParseError ?eb_ParseError ?ih_ParseError ?io_ParseError ?ic_ParseError ?iv_ParseError ?iw_ParseError ?if_ParseError ?il_ParseError ?ir_ParseError ?im_ParseError ?iB_ParseError ?ia_ParseError ?ip_ParseError ?it_ParseError ?id_ParseError ?ea_Parted ?ek_Parted ?es_Parted ?et_Parted ?eb_Parted ?ih_Parted ?io_Parted ?ic_Parted ?iv_Parted ?iw_Parted ?if_Parted ?il_Parted ?ir_Parted ?im_Parted ?iB_Parted ?ia_Parted ?ip_Parted ?it_Parted ?id_Parted ?ea_Refused ?ek_Refused ?es_Refused ?et_Refused ?eb_Refused ?ih_Refused ?io_Refused ?ic_Refused ?iv_Refused ?iw_Refused ?if_Refused ?il_Refused ?ir_Refused ?im_Refused ?iB_Refused ?ia_Refused ?ip_Refused ?it_Refused ?id_Refused ?ea_TooMany ?ek_TooMany ?es_TooMany ?et_TooMany ?eb_TooMany ?ih_TooMany ?io_TooMany ?ic_TooMany ?iv_TooMany ?iw_TooMany ?if_TooMany ?il_TooMany ?ir_TooMany ?im_TooMany ?iB_TooMany ?ia_TooMany ?ip_TooMany ?it_TooMany ?id_TooMany ?ea_UnknownName ?ek_UnknownName ?es_UnknownName ?et_UnknownName ?eb_UnknownName ?ih_UnknownName ?io_UnknownName ?ic_UnknownName ?iv_UnknownName ?iw_UnknownName ?if_UnknownName ?il_UnknownName ?ir_UnknownName ?im_UnknownName ?iB_UnknownName ?ia_UnknownName ?ip_UnknownName ?it_UnknownName ?id_UnknownName ?p_any ?p_top ?p_get ?p_tk ?xg_InvalidDrawing ?xk_InvalidDrawing ?xc_InvalidDrawing ?xm_InvalidDrawing ?id_InvalidDrawing ?xg_InvalidGrowth ?xk_InvalidGrowth ?xc_InvalidGrowth ?xm_InvalidGrowth ?id_InvalidGrowth ?xg_InvalidModel ?xk_InvalidModel ?xc_InvalidModel ?xm_InvalidModel ?id_InvalidModel ?xg_InvalidNumber ?xk_InvalidNumber ?xc_InvalidNumber ?xm_InvalidNumber ?xg_InvalidOperation ?xk_InvalidOperation ?xc_InvalidOperation ?xm_InvalidOperation ?id_InvalidOperation ?xg_InvalidPart ?xk_InvalidPart ?xc_InvalidPart ?xm_InvalidPart ?id_InvalidPart ?xg_InvalidPlace ?xk_InvalidPlace ?xc_InvalidPlace ?xm_InvalidPlace ?id_InvalidPlace ?xg_InvalidRoute ?xk_InvalidRoute ?xc_InvalidRoute ?xm_InvalidRoute ?id_InvalidRoute ?xg_InvalidStep ?xk_InvalidStep ?xc_InvalidStep ?xm_InvalidStep ?id_InvalidStep ?xg_InvalidTie ?xk_InvalidTie ?xc_InvalidTie ?xm_InvalidTie ?id_InvalidTie ?xg_InvalidWeb ?xk_InvalidWeb ?xc_InvalidWeb ?xm_InvalidWeb ?id_InvalidWeb ?xg_NothingToUndo ?xk_NothingToUndo ?xc_NothingToUndo ?xm_NothingToUndo ?xg_ParseError ?xk_ParseError ?xc_ParseError ?xm_ParseError ?xg_Parted ?xk_Parted ?xc_Parted ?xm_Parted ?xg_Refused ?xk_Refused ?xc_Refused ?xm_Refused ?xg_TooMany ?xk_TooMany ?xc_TooMany ?xm_TooMany ?xg_UnknownName ?xk_UnknownName ?xc_UnknownName ?xm_UnknownName ?xg_WebError ?xk_WebError ?xc_WebError ?xm_WebError ?id_WebError ?ff_InvalidNumber_value ?ff_NothingToUndo_many ?ff_ParseError_number ?ff_Parted_parting ?ff_Refused_pledge ?ff_TooMany_limit ?ff_UnknownName_word ?kt_InvalidDrawing_ArithmeticError ?kt_InvalidGrowth_ArithmeticError ?kt_InvalidModel_ArithmeticError ?kt_InvalidNumber_ArithmeticError ?kt_InvalidOperation_ArithmeticError ?kt_InvalidPart_ArithmeticError ?kt_InvalidPlace_ArithmeticError ?kt_InvalidRoute_ArithmeticError ?kt_InvalidStep_ArithmeticError ?kt_InvalidTie_ArithmeticError ?kt_InvalidWeb_ArithmeticError ?kt_NothingToUndo_ArithmeticError ?kt_ParseError_ArithmeticError ?kt_Parted_ArithmeticError ?kt_Refused_ArithmeticError ?kt_TooMany_ArithmeticError ?kt_UnknownName_ArithmeticError ?kt_WebError_ArithmeticError ?kt_InvalidDrawing_IndexError ?kt_InvalidGrowth_IndexError ?kt_InvalidModel_IndexError ?kt_InvalidNumber_IndexError ?kt_InvalidOperation_IndexError ?kt_InvalidPart_IndexError ?kt_InvalidPlace_IndexError ?kt_InvalidRoute_IndexError ?kt_InvalidStep_IndexError ?kt_InvalidTie_IndexError ?kt_InvalidWeb_IndexError ?kt_NothingToUndo_IndexError ?kt_ParseError_IndexError ?kt_Parted_IndexError ?kt_Refused_IndexError ?kt_TooMany_IndexError ?kt_UnknownName_IndexError ?kt_WebError_IndexError ?kt_InvalidDrawing_InvalidDrawing ?kt_InvalidGrowth_InvalidDrawing ?kt_InvalidModel_InvalidDrawing ?kt_InvalidNumber_InvalidDrawing ?kt_InvalidOperation_InvalidDrawing ?kt_InvalidPart_InvalidDrawing ?kt_InvalidPlace_InvalidDrawing ?kt_InvalidRoute_InvalidDrawing ?kt_InvalidStep_InvalidDrawing ?kt_InvalidTie_InvalidDrawing ?kt_InvalidWeb_InvalidDrawing ?kt_NothingToUndo_InvalidDrawing ?kt_ParseError_InvalidDrawing ?kt_Parted_InvalidDrawing ?kt_Refused_InvalidDrawing ?kt_TooMany_InvalidDrawing ?kt_UnknownName_InvalidDrawing ?kt_WebError_InvalidDrawing ?kt_InvalidDrawing_InvalidGrowth ?kt_InvalidGrowth_InvalidGrowth ?kt_InvalidModel_InvalidGrowth ?kt_InvalidNumber_InvalidGrowth ?kt_InvalidOperation_InvalidGrowth ?kt_InvalidPart_InvalidGrowth ?kt_InvalidPlace_InvalidGrowth ?kt_InvalidRoute_InvalidGrowth ?kt_InvalidStep_InvalidGrowth ?kt_InvalidTie_InvalidGrowth ?kt_InvalidWeb_InvalidGrowth ?kt_NothingToUndo_InvalidGrowth ?kt_ParseError_InvalidGrowth ?kt_Parted_InvalidGrowth ?kt_Refused_InvalidGrowth ?kt_TooMany_InvalidGrowth ?kt_UnknownName_InvalidGrowth ?kt_WebError_InvalidGrowth ?kt_InvalidDrawing_InvalidModel ?kt_InvalidGrowth_InvalidModel ?kt_InvalidModel_InvalidModel ?kt_InvalidNumber_InvalidModel ?kt_InvalidOperation_InvalidModel ?kt_InvalidPart_InvalidModel ?kt_InvalidPlace_InvalidModel ?kt_InvalidRoute_InvalidModel ?kt_InvalidStep_InvalidModel ?kt_InvalidTie_InvalidModel ?kt_InvalidWeb_InvalidModel ?kt_NothingToUndo_InvalidModel ?kt_ParseError_InvalidModel ?kt_Parted_InvalidModel ?kt_Refused_InvalidModel ?kt_TooMany_InvalidModel ?kt_UnknownName_InvalidModel ?kt_WebError_InvalidModel ?kt_InvalidDrawing_InvalidOperation ?kt_InvalidGrowth_InvalidOperation ?kt_InvalidModel_InvalidOperation ?kt_InvalidNumber_InvalidOperation ?kt_InvalidOperation_InvalidOperation ?kt_InvalidPart_InvalidOperation ?kt_InvalidPlace_InvalidOperation ?kt_InvalidRoute_InvalidOperation ?kt_InvalidStep_InvalidOperation ?kt_InvalidTie_InvalidOperation ?kt_InvalidWeb_InvalidOperation ?kt_NothingToUndo_InvalidOperation ?kt_ParseError_InvalidOperation ?kt_Parted_InvalidOperation ?kt_Refused_InvalidOperation ?kt_TooMany_InvalidOperation ?kt_UnknownName_InvalidOperation ?kt_WebError_InvalidOperation ?kt_InvalidDrawing_InvalidPart ?kt_InvalidGrowth_InvalidPart ?kt_InvalidModel_InvalidPart ?kt_InvalidNumber_InvalidPart ?kt_InvalidOperation_InvalidPart ?kt_InvalidPart_InvalidPart ?kt_InvalidPlace_InvalidPart ?kt_InvalidRoute_InvalidPart ?kt_InvalidStep_InvalidPart ?kt_InvalidTie_InvalidPart ?kt_InvalidWeb_InvalidPart ?kt_NothingToUndo_InvalidPart ?kt_ParseError_InvalidPart ?kt_Parted_InvalidPart ?kt_Refused_InvalidPart ?kt_TooMany_InvalidPart ?kt_UnknownName_InvalidPart ?kt_WebError_InvalidPart ?kt_InvalidDrawing_InvalidPlace ?kt_InvalidGrowth_InvalidPlace ?kt_InvalidModel_InvalidPlace ?kt_InvalidNumber_InvalidPlace ?kt_InvalidOperation_InvalidPlace ?kt_InvalidPart_InvalidPlace ?kt_InvalidPlace_InvalidPlace ?kt_InvalidRoute_InvalidPlace ?kt_InvalidStep_InvalidPlace ?kt_InvalidTie_InvalidPlace ?kt_InvalidWeb_InvalidPlace ?kt_NothingToUndo_InvalidPlace ?kt_ParseError_InvalidPlace ?kt_Parted_InvalidPlace ?kt_Refused_InvalidPlace ?kt_TooMany_InvalidPlace ?kt_UnknownName_InvalidPlace ?kt_WebError_InvalidPlace ?kt_InvalidDrawing_InvalidRoute ?kt_InvalidGrowth_InvalidRoute ?kt_InvalidModel_InvalidRoute ?kt_InvalidNumber_InvalidRoute ?kt_InvalidOperation_InvalidRoute ?kt_InvalidPart_InvalidRoute ?kt_InvalidPlace_InvalidRoute ?kt_InvalidRoute_InvalidRoute ?kt_InvalidStep_InvalidRoute ?kt_InvalidTie_InvalidRoute ?kt_InvalidWeb_InvalidRoute ?kt_NothingToUndo_InvalidRoute ?kt_ParseError_InvalidRoute ?kt_Parted_InvalidRoute ?kt_Refused_InvalidRoute ?kt_TooMany_InvalidRoute ?kt_UnknownName_InvalidRoute ?kt_WebError_InvalidRoute ?kt_InvalidDrawing_InvalidStep ?kt_InvalidGrowth_InvalidStep ?kt_InvalidModel_InvalidStep ?kt_InvalidNumber_InvalidStep ?kt_InvalidOperation_InvalidStep ?kt_InvalidPart_InvalidStep ?kt_InvalidPlace_InvalidStep ?kt_InvalidRoute_InvalidStep ?kt_InvalidStep_InvalidStep ?kt_InvalidTie_InvalidStep ?kt_InvalidWeb_InvalidStep ?kt_NothingToUndo_InvalidStep ?kt_ParseError_InvalidStep ?kt_Parted_InvalidStep ?kt_Refused_InvalidStep ?kt_TooMany_InvalidStep ?kt_UnknownName_InvalidStep ?kt_WebError_InvalidStep ?kt_InvalidDrawing_InvalidTie ?kt_InvalidGrowth_InvalidTie ?kt_InvalidModel_InvalidTie ?kt_InvalidNumber_InvalidTie ?kt_InvalidOperation_InvalidTie ?kt_InvalidPart_InvalidTie ?kt_InvalidPlace_InvalidTie ?kt_InvalidRoute_InvalidTie ?kt_InvalidStep_InvalidTie ?kt_InvalidTie_InvalidTie ?kt_InvalidWeb_InvalidTie ?kt_NothingToUndo_InvalidTie ?kt_ParseError_InvalidTie ?kt_Parted_InvalidTie ?kt_Refused_InvalidTie ?kt_TooMany_InvalidTie ?kt_UnknownName_InvalidTie ?kt_WebError_InvalidTie ?kt_InvalidDrawing_InvalidWeb ?kt_InvalidGrowth_InvalidWeb ?kt_InvalidModel_InvalidWeb ?kt_InvalidNumber_InvalidWeb ?kt_InvalidOperation_InvalidWeb ?kt_InvalidPart_InvalidWeb ?kt_InvalidPlace_InvalidWeb ?kt_InvalidRoute_InvalidWeb ?kt_InvalidStep_InvalidWeb ?kt_InvalidTie_InvalidWeb ?kt_InvalidWeb_InvalidWeb ?kt_NothingToUndo_InvalidWeb ?kt_ParseError_InvalidWeb ?kt_Parted_InvalidWeb ?kt_Refused_InvalidWeb ?kt_TooMany_InvalidWeb ?kt_UnknownName_InvalidWeb ?kt_WebError_InvalidWeb ?kt_InvalidDrawing_KeyError ?kt_InvalidGrowth_KeyError ?kt_InvalidModel_KeyError ?kt_InvalidNumber_KeyError ?kt_InvalidOperation_KeyError ?kt_InvalidPart_KeyError ?kt_InvalidPlace_KeyError ?kt_InvalidRoute_KeyError ?kt_InvalidStep_KeyError ?kt_InvalidTie_KeyError ?kt_InvalidWeb_KeyError ?kt_NothingToUndo_KeyError ?kt_ParseError_KeyError ?kt_Parted_KeyError ?kt_Refused_KeyError ?kt_TooMany_KeyError ?kt_UnknownName_KeyError ?kt_WebError_KeyError ?kt_InvalidDrawing_LookupError ?kt_InvalidGrowth_LookupError ?kt_InvalidModel_LookupError ?kt_InvalidNumber_LookupError ?kt_InvalidOperation_LookupError ?kt_InvalidPart_LookupError ?kt_InvalidPlace_LookupError ?kt_InvalidRoute_LookupError ?kt_InvalidStep_LookupError ?kt_InvalidTie_LookupError ?kt_InvalidWeb_LookupError ?kt_NothingToUndo_LookupError ?kt_ParseError_LookupError ?kt_Parted_LookupError ?kt_Refused_LookupError ?kt_TooMany_LookupError ?kt_UnknownName_LookupError ?kt_WebError_LookupError ?kt_InvalidDrawing_OverflowError ?kt_InvalidGrowth_OverflowError ?kt_InvalidModel_OverflowError ?kt_InvalidNumber_OverflowError ?kt_InvalidOperation_OverflowError ?kt_InvalidPart_OverflowError ?kt_InvalidPlace_OverflowError ?kt_InvalidRoute_OverflowError ?kt_InvalidStep_OverflowError ?kt_InvalidTie_OverflowError ?kt_InvalidWeb_OverflowError ?kt_NothingToUndo_OverflowError ?kt_ParseError_OverflowError ?kt_Parted_OverflowError ?kt_Refused_OverflowError ?kt_TooMany_OverflowError ?kt_UnknownName_OverflowError ?kt_WebError_OverflowError ?kt_InvalidDrawing_ParseError ?kt_InvalidGrowth_ParseError ?kt_InvalidModel_ParseError ?kt_InvalidNumber_ParseError ?kt_InvalidOperation_ParseError ?kt_InvalidPart_ParseError ?kt_InvalidPlace_ParseError ?kt_InvalidRoute_ParseError ?kt_InvalidStep_ParseError ?kt_InvalidTie_ParseError ?kt_InvalidWeb_ParseError ?kt_NothingToUndo_ParseError ?kt_ParseError_ParseError ?kt_Parted_ParseError ?kt_Refused_ParseError ?kt_TooMany_ParseError ?kt_UnknownName_ParseError ?kt_WebError_ParseError ?kt_InvalidDrawing_RuntimeError ?kt_InvalidGrowth_RuntimeError ?kt_InvalidModel_RuntimeError ?kt_InvalidNumber_RuntimeError ?kt_InvalidOperation_RuntimeError ?kt_InvalidPart_RuntimeError ?kt_InvalidPlace_RuntimeError ?kt_InvalidRoute_RuntimeError ?kt_InvalidStep_RuntimeError ?kt_InvalidTie_RuntimeError ?kt_InvalidWeb_RuntimeError ?kt_NothingToUndo_RuntimeError ?kt_ParseError_RuntimeError ?kt_Parted_RuntimeError ?kt_Refused_RuntimeError ?kt_TooMany_RuntimeError ?kt_UnknownName_RuntimeError ?kt_WebError_RuntimeError ?kt_InvalidDrawing_ValueError ?kt_InvalidGrowth_ValueError ?kt_InvalidModel_ValueError ?kt_InvalidNumber_ValueError ?kt_InvalidOperation_ValueError ?kt_InvalidPart_ValueError ?kt_InvalidPlace_ValueError ?kt_InvalidRoute_ValueError ?kt_InvalidStep_ValueError ?kt_InvalidTie_ValueError ?kt_InvalidWeb_ValueError ?kt_NothingToUndo_ValueError ?kt_ParseError_ValueError ?kt_Parted_ValueError ?kt_Refused_ValueError ?kt_TooMany_ValueError ?kt_UnknownName_ValueError ?kt_WebError_ValueError ?kt_InvalidDrawing_WebError ?kt_InvalidGrowth_WebError ?kt_InvalidModel_WebError ?kt_InvalidNumber_WebError ?kt_InvalidOperation_WebError ?kt_InvalidPart_WebError ?kt_InvalidPlace_WebError ?kt_InvalidRoute_WebError ?kt_InvalidStep_WebError ?kt_InvalidTie_WebError ?kt_InvalidWeb_WebError ?kt_NothingToUndo_WebError ?kt_ParseError_WebError ?kt_Parted_WebError ?kt_Refused_WebError ?kt_TooMany_WebError ?kt_UnknownName_WebError ?kt_WebError_WebError ?ex_InvalidDrawing_InvalidNumber ?ex_InvalidGrowth_InvalidNumber ?ex_InvalidModel_InvalidNumber ?ex_InvalidNumber_InvalidNumber ?ex_InvalidOperation_InvalidNumber ?ex_InvalidPart_InvalidNumber ?ex_InvalidPlace_InvalidNumber ?ex_InvalidRoute_InvalidNumber ?ex_InvalidStep_InvalidNumber ?ex_InvalidTie_InvalidNumber ?ex_InvalidWeb_InvalidNumber ?ex_NothingToUndo_InvalidNumber ?ex_ParseError_InvalidNumber ?ex_Parted_InvalidNumber ?ex_Refused_InvalidNumber ?ex_TooMany_InvalidNumber ?ex_UnknownName_InvalidNumber ?ex_WebError_InvalidNumber ?ex_InvalidDrawing_InvalidStep ?ex_InvalidGrowth_InvalidStep ?ex_InvalidModel_InvalidStep ?ex_InvalidNumber_InvalidStep ?ex_InvalidOperation_InvalidStep ?ex_InvalidPart_InvalidStep ?ex_InvalidPlace_InvalidStep ?ex_InvalidRoute_InvalidStep ?ex_InvalidStep_InvalidStep ?ex_InvalidTie_InvalidStep ?ex_InvalidWeb_InvalidStep ?ex_NothingToUndo_InvalidStep ?ex_ParseError_InvalidStep ?ex_Parted_InvalidStep ?ex_Refused_InvalidStep ?ex_TooMany_InvalidStep ?ex_UnknownName_InvalidStep ?ex_WebError_InvalidStep ?ex_InvalidDrawing_NothingToUndo ?ex_InvalidGrowth_NothingToUndo ?ex_InvalidModel_NothingToUndo ?ex_InvalidNumber_NothingToUndo ?ex_InvalidOperation_NothingToUndo ?ex_InvalidPart_NothingToUndo ?ex_InvalidPlace_NothingToUndo ?ex_InvalidRoute_NothingToUndo ?ex_InvalidStep_NothingToUndo ?ex_InvalidTie_NothingToUndo ?ex_InvalidWeb_NothingToUndo ?ex_NothingToUndo_NothingToUndo ?ex_ParseError_NothingToUndo ?ex_Parted_NothingToUndo ?ex_Refused_NothingToUndo ?ex_TooMany_NothingToUndo ?ex_UnknownName_NothingToUndo ?ex_WebError_NothingToUndo ?ex_InvalidDrawing_ParseError ?ex_InvalidGrowth_ParseError ?ex_InvalidModel_ParseError ?ex_InvalidNumber_ParseError ?ex_InvalidOperation_ParseError ?ex_InvalidPart_ParseError ?ex_InvalidPlace_ParseError ?ex_InvalidRoute_ParseError ?ex_InvalidStep_ParseError ?ex_InvalidTie_ParseError ?ex_InvalidWeb_ParseError ?ex_NothingToUndo_ParseError ?ex_ParseError_ParseError ?ex_Parted_ParseError ?ex_Refused_ParseError ?ex_TooMany_ParseError ?ex_UnknownName_ParseError ?ex_WebError_ParseError ?ex_InvalidDrawing_Parted ?ex_InvalidGrowth_Parted ?ex_InvalidModel_Parted ?ex_InvalidNumber_Parted ?ex_InvalidOperation_Parted ?ex_InvalidPart_Parted ?ex_InvalidPlace_Parted ?ex_InvalidRoute_Parted ?ex_InvalidStep_Parted ?ex_InvalidTie_Parted ?ex_InvalidWeb_Parted ?ex_NothingToUndo_Parted ?ex_ParseError_Parted ?ex_Parted_Parted ?ex_Refused_Parted ?ex_TooMany_Parted ?ex_UnknownName_Parted ?ex_WebError_Parted ?ex_InvalidDrawing_Refused ?ex_InvalidGrowth_Refused ?ex_InvalidModel_Refused ?ex_InvalidNumber_Refused ?ex_InvalidOperation_Refused ?ex_InvalidPart_Refused ?ex_InvalidPlace_Refused ?ex_InvalidRoute_Refused ?ex_InvalidStep_Refused ?ex_InvalidTie_Refused ?ex_InvalidWeb_Refused ?ex_NothingToUndo_Refused ?ex_ParseError_Refused ?ex_Parted_Refused ?ex_Refused_Refused ?ex_TooMany_Refused ?ex_UnknownName_Refused ?ex_WebError_Refused ?ex_InvalidDrawing_TooMany ?ex_InvalidGrowth_TooMany ?ex_InvalidModel_TooMany ?ex_InvalidNumber_TooMany ?ex_InvalidOperation_TooMany ?ex_InvalidPart_TooMany ?ex_InvalidPlace_TooMany ?ex_InvalidRoute_TooMany ?ex_InvalidStep_TooMany ?ex_InvalidTie_TooMany ?ex_InvalidWeb_TooMany ?ex_NothingToUndo_TooMany ?ex_ParseError_TooMany ?ex_Parted_TooMany ?ex_Refused_TooMany ?ex_TooMany_TooMany ?ex_UnknownName_TooMany ?ex_WebError_TooMany ?ex_InvalidDrawing_UnknownName ?ex_InvalidGrowth_UnknownName ?ex_InvalidModel_UnknownName ?ex_InvalidNumber_UnknownName ?ex_InvalidOperation_UnknownName ?ex_InvalidPart_UnknownName ?ex_InvalidPlace_UnknownName ?ex_InvalidRoute_UnknownName ?ex_InvalidStep_UnknownName ?ex_InvalidTie_UnknownName ?ex_InvalidWeb_UnknownName ?ex_NothingToUndo_UnknownName ?ex_ParseError_UnknownName ?ex_Parted_UnknownName ?ex_Refused_UnknownName ?ex_TooMany_UnknownName ?ex_UnknownName_UnknownName ?ex_WebError_UnknownName ?ex_InvalidDrawing_WebError ?ex_InvalidGrowth_WebError ?ex_InvalidModel_WebError ?ex_InvalidNumber_WebError ?ex_InvalidOperation_WebError ?ex_InvalidPart_WebError ?ex_InvalidPlace_WebError ?ex_InvalidRoute_WebError ?ex_InvalidStep_WebError ?ex_InvalidTie_WebError ?ex_InvalidWeb_WebError ?ex_NothingToUndo_WebError ?ex_ParseError_WebError ?ex_Parted_WebError ?ex_Refused_WebError ?ex_TooMany_WebError ?ex_UnknownName_WebError ?ex_WebError_WebError
    (case a0 => k_is)
    (case l0 => k_is)
    (case c0 => k_is)
    (case k0 => k_is)
    (case a1 => k_is)
    (case l1 => k_is)
    (case c1 => k_is)
    (case k1 => k_is)
    (case a2 => k_is)
    (case l2 => k_is)
    (case c2 => k_is)
    (case k2 => k_is)
    (case a3 => k_is)
    (case l3 => k_is)
    (case c3 => k_is)
    (case k3 => k_is)
    (case a4 => k_is)
    (case l4 => k_is)
    (case c4 => k_is)
    (case k4 => k_is)
    (case a5 => k_is)
    (case l5 => k_is)
    (case c5 => k_is)
    (case k5 => k_is)
    (case a6 => k_is)
    (case l6 => k_is)
    (case c6 => k_is)
    (case k6 => k_is)
    (case a7 => k_is)
    (case l7 => k_is)
    (case c7 => k_is)
    (case k7 => k_is)
    (case a8 => k_is)
    (case l8 => k_is)
    (case c8 => k_is)
    (case k8 => k_is)
    (case a9 => k_is)
    (case l9 => k_is)
    (case c9 => k_is)
    (case k9 => k_is)
    (case z_ArithmeticError => k_is)
    (case z_IndexError => k_is)
    (case z_KeyError => k_is)
    (case z_LookupError => k_is)
    (case z_OverflowError => k_is)
    (case z_RuntimeError => k_is)
    (case z_ValueError => k_is)
    (case z_abs => k_is)
    (case z_int => k_is)
    (case z_isinstance => k_is)
    (case z_len => k_is)
    (case z_max => k_is)
    (case z_min => k_is)
    (case z_range => k_is)
    (case z_repr => k_is)
    (case z_super => k_is)
    (case ea_InvalidDrawing => k_is)
    (case eq_InvalidDrawing => first | k_exc | k_is)
    (case ek_InvalidDrawing => k_is)
    (case es_InvalidDrawing => k_is)
    (case et_InvalidDrawing => k_is)
    (case ea_InvalidGrowth => k_is)
    (case eq_InvalidGrowth => first | k_exc | k_is)
    (case ek_InvalidGrowth => k_is)
    (case es_InvalidGrowth => k_is)
    (case et_InvalidGrowth => k_is)
    (case ea_InvalidModel => k_is)
    (case eq_InvalidModel => first | k_exc | k_is)
    (case ek_InvalidModel => k_is)
    (case es_InvalidModel => k_is)
    (case et_InvalidModel => k_is)
    (case ea_InvalidOperation => k_is)
    (case eq_InvalidOperation => first | k_exc | k_is)
    (case ek_InvalidOperation => k_is)
    (case es_InvalidOperation => k_is)
    (case et_InvalidOperation => k_is)
    (case ea_InvalidPart => k_is)
    (case eq_InvalidPart => first | k_exc | k_is)
    (case ek_InvalidPart => k_is)
    (case es_InvalidPart => k_is)
    (case et_InvalidPart => k_is)
    (case ea_InvalidPlace => k_is)
    (case eq_InvalidPlace => first | k_exc | k_is)
    (case ek_InvalidPlace => k_is)
    (case es_InvalidPlace => k_is)
    (case et_InvalidPlace => k_is)
    (case ea_InvalidRoute => k_is)
    (case eq_InvalidRoute => first | k_exc | k_is)
    (case ek_InvalidRoute => k_is)
    (case es_InvalidRoute => k_is)
    (case et_InvalidRoute => k_is)
    (case ea_InvalidStep => k_is)
    (case eq_InvalidStep => first | k_exc | k_is)
    (case ek_InvalidStep => k_is)
    (case es_InvalidStep => k_is)
    (case et_InvalidStep => k_is)
    (case ea_InvalidTie => k_is)
    (case eq_InvalidTie => first | k_exc | k_is)
    (case ek_InvalidTie => k_is)
    (case es_InvalidTie => k_is)
    (case et_InvalidTie => k_is)
    (case ea_InvalidWeb => k_is)
    (case eq_InvalidWeb => first | k_exc | k_is)
    (case ek_InvalidWeb => k_is)
    (case es_InvalidWeb => k_is)
    (case et_InvalidWeb => k_is)
    (case ea_WebError => k_is)
    (case eq_WebError => first | k_exc | k_is)
    (case ek_WebError => k_is)
    (case es_WebError => k_is)
    (case et_WebError => k_is)
    (case ea_InvalidNumber => k_is)
    (case ek_InvalidNumber => k_is)
    (case es_InvalidNumber => k_is)
    (case et_InvalidNumber => k_is)
    (case eb_InvalidNumber => kx_is)
    (case ih_InvalidNumber => k_is)
    (case io_InvalidNumber => k_is)
    (case ic_InvalidNumber => k_is)
    (case iv_InvalidNumber => k_is)
    (case iw_InvalidNumber => rfl)
    (case if_InvalidNumber => decide +kernel)
    (case il_InvalidNumber => k_is)
    (case ir_InvalidNumber => k_is)
    (case im_InvalidNumber => ks_is)
    (case iB_InvalidNumber => k_is)
    (case ia_InvalidNumber => k_is)
    (case ip_InvalidNumber => kx_is)
    (case it_InvalidNumber => k_is)
    (case id_InvalidNumber => k_is)
    (case ea_NothingToUndo => k_is)
    (case ek_NothingToUndo => k_is)
    (case es_NothingToUndo => k_is)
    (case et_NothingToUndo => k_is)
    (case eb_NothingToUndo => kx_is)
    (case ih_NothingToUndo => k_is)
    (case io_NothingToUndo => k_is)
    (case ic_NothingToUndo => k_is)
    (case iv_NothingToUndo => k_is)
    (case iw_NothingToUndo => rfl)
    (case if_NothingToUndo => decide +kernel)
    (case il_NothingToUndo => k_is)
    (case ir_NothingToUndo => k_is)
    (case im_NothingToUndo => ks_is)
    (case iB_NothingToUndo => k_is)
    (case ia_NothingToUndo => k_is)
    (case ip_NothingToUndo => kx_is)
    (case it_NothingToUndo => k_is)
    (case id_NothingToUndo => k_is)
    (case ea_ParseError => k_is)
    (case ek_ParseError => k_is)
    (case es_ParseError => k_is)
    (case et_ParseError => k_is)
    (case eb_ParseError => kx_is)
    (case ih_ParseError => k_is)
    (case io_ParseError => k_is)
    (case ic_ParseError => k_is)
    (case iv_ParseError => k_is)
    (case iw_ParseError => rfl)
    (case if_ParseError => decide +kernel)
    (case il_ParseError => k_is)
    (case ir_ParseError => k_is)
    (case im_ParseError => ks_is)
    (case iB_ParseError => k_is)
    (case ia_ParseError => k_is)
    (case ip_ParseError => kx_is)
    (case it_ParseError => k_is)
    (case id_ParseError => k_is)
    (case ea_Parted => k_is)
    (case ek_Parted => k_is)
    (case es_Parted => k_is)
    (case et_Parted => k_is)
    (case eb_Parted => kx_is)
    (case ih_Parted => k_is)
    (case io_Parted => k_is)
    (case ic_Parted => k_is)
    (case iv_Parted => k_is)
    (case iw_Parted => rfl)
    (case if_Parted => decide +kernel)
    (case il_Parted => k_is)
    (case ir_Parted => k_is)
    (case im_Parted => ks_is)
    (case iB_Parted => k_is)
    (case ia_Parted => k_is)
    (case ip_Parted => kx_is)
    (case it_Parted => k_is)
    (case id_Parted => k_is)
    (case ea_Refused => k_is)
    (case ek_Refused => k_is)
    (case es_Refused => k_is)
    (case et_Refused => k_is)
    (case eb_Refused => kx_is)
    (case ih_Refused => k_is)
    (case io_Refused => k_is)
    (case ic_Refused => k_is)
    (case iv_Refused => k_is)
    (case iw_Refused => rfl)
    (case if_Refused => decide +kernel)
    (case il_Refused => k_is)
    (case ir_Refused => k_is)
    (case im_Refused => ks_is)
    (case iB_Refused => k_is)
    (case ia_Refused => k_is)
    (case ip_Refused => kx_is)
    (case it_Refused => k_is)
    (case id_Refused => k_is)
    (case ea_TooMany => k_is)
    (case ek_TooMany => k_is)
    (case es_TooMany => k_is)
    (case et_TooMany => k_is)
    (case eb_TooMany => kx_is)
    (case ih_TooMany => k_is)
    (case io_TooMany => k_is)
    (case ic_TooMany => k_is)
    (case iv_TooMany => k_is)
    (case iw_TooMany => rfl)
    (case if_TooMany => decide +kernel)
    (case il_TooMany => k_is)
    (case ir_TooMany => k_is)
    (case im_TooMany => ks_is)
    (case iB_TooMany => k_is)
    (case ia_TooMany => k_is)
    (case ip_TooMany => kx_is)
    (case it_TooMany => k_is)
    (case id_TooMany => k_is)
    (case ea_UnknownName => k_is)
    (case ek_UnknownName => k_is)
    (case es_UnknownName => k_is)
    (case et_UnknownName => k_is)
    (case eb_UnknownName => kx_is)
    (case ih_UnknownName => k_is)
    (case io_UnknownName => k_is)
    (case ic_UnknownName => k_is)
    (case iv_UnknownName => k_is)
    (case iw_UnknownName => rfl)
    (case if_UnknownName => decide +kernel)
    (case il_UnknownName => k_is)
    (case ir_UnknownName => k_is)
    (case im_UnknownName => ks_is)
    (case iB_UnknownName => k_is)
    (case ia_UnknownName => k_is)
    (case ip_UnknownName => kx_is)
    (case it_UnknownName => k_is)
    (case id_UnknownName => k_is)
    (case p_any => k_is)
    (case p_top => decide +kernel)
    (case p_get => k_is)
    (case p_tk => k_is)
    (case xg_InvalidDrawing => k_is)
    (case xk_InvalidDrawing => k_is)
    (case xc_InvalidDrawing => k_is)
    (case xm_InvalidDrawing => k_is)
    (case id_InvalidDrawing => k_is)
    (case xg_InvalidGrowth => k_is)
    (case xk_InvalidGrowth => k_is)
    (case xc_InvalidGrowth => k_is)
    (case xm_InvalidGrowth => k_is)
    (case id_InvalidGrowth => k_is)
    (case xg_InvalidModel => k_is)
    (case xk_InvalidModel => k_is)
    (case xc_InvalidModel => k_is)
    (case xm_InvalidModel => k_is)
    (case id_InvalidModel => k_is)
    (case xg_InvalidNumber => k_is)
    (case xk_InvalidNumber => k_is)
    (case xc_InvalidNumber => k_is)
    (case xm_InvalidNumber => k_is)
    (case xg_InvalidOperation => k_is)
    (case xk_InvalidOperation => k_is)
    (case xc_InvalidOperation => k_is)
    (case xm_InvalidOperation => k_is)
    (case id_InvalidOperation => k_is)
    (case xg_InvalidPart => k_is)
    (case xk_InvalidPart => k_is)
    (case xc_InvalidPart => k_is)
    (case xm_InvalidPart => k_is)
    (case id_InvalidPart => k_is)
    (case xg_InvalidPlace => k_is)
    (case xk_InvalidPlace => k_is)
    (case xc_InvalidPlace => k_is)
    (case xm_InvalidPlace => k_is)
    (case id_InvalidPlace => k_is)
    (case xg_InvalidRoute => k_is)
    (case xk_InvalidRoute => k_is)
    (case xc_InvalidRoute => k_is)
    (case xm_InvalidRoute => k_is)
    (case id_InvalidRoute => k_is)
    (case xg_InvalidStep => k_is)
    (case xk_InvalidStep => k_is)
    (case xc_InvalidStep => k_is)
    (case xm_InvalidStep => k_is)
    (case id_InvalidStep => k_is)
    (case xg_InvalidTie => k_is)
    (case xk_InvalidTie => k_is)
    (case xc_InvalidTie => k_is)
    (case xm_InvalidTie => k_is)
    (case id_InvalidTie => k_is)
    (case xg_InvalidWeb => k_is)
    (case xk_InvalidWeb => k_is)
    (case xc_InvalidWeb => k_is)
    (case xm_InvalidWeb => k_is)
    (case id_InvalidWeb => k_is)
    (case xg_NothingToUndo => k_is)
    (case xk_NothingToUndo => k_is)
    (case xc_NothingToUndo => k_is)
    (case xm_NothingToUndo => k_is)
    (case xg_ParseError => k_is)
    (case xk_ParseError => k_is)
    (case xc_ParseError => k_is)
    (case xm_ParseError => k_is)
    (case xg_Parted => k_is)
    (case xk_Parted => k_is)
    (case xc_Parted => k_is)
    (case xm_Parted => k_is)
    (case xg_Refused => k_is)
    (case xk_Refused => k_is)
    (case xc_Refused => k_is)
    (case xm_Refused => k_is)
    (case xg_TooMany => k_is)
    (case xk_TooMany => k_is)
    (case xc_TooMany => k_is)
    (case xm_TooMany => k_is)
    (case xg_UnknownName => k_is)
    (case xk_UnknownName => k_is)
    (case xc_UnknownName => k_is)
    (case xm_UnknownName => k_is)
    (case xg_WebError => k_is)
    (case xk_WebError => k_is)
    (case xc_WebError => k_is)
    (case xm_WebError => k_is)
    (case id_WebError => k_is)
    (case ff_InvalidNumber_value => k_is)
    (case ff_NothingToUndo_many => k_is)
    (case ff_ParseError_number => k_is)
    (case ff_Parted_parting => k_is)
    (case ff_Refused_pledge => k_is)
    (case ff_TooMany_limit => k_is)
    (case ff_UnknownName_word => k_is)
    (case kt_InvalidDrawing_ArithmeticError => kit_is)
    (case kt_InvalidGrowth_ArithmeticError => kit_is)
    (case kt_InvalidModel_ArithmeticError => kit_is)
    (case kt_InvalidNumber_ArithmeticError => kit_is)
    (case kt_InvalidOperation_ArithmeticError => kit_is)
    (case kt_InvalidPart_ArithmeticError => kit_is)
    (case kt_InvalidPlace_ArithmeticError => kit_is)
    (case kt_InvalidRoute_ArithmeticError => kit_is)
    (case kt_InvalidStep_ArithmeticError => kit_is)
    (case kt_InvalidTie_ArithmeticError => kit_is)
    (case kt_InvalidWeb_ArithmeticError => kit_is)
    (case kt_NothingToUndo_ArithmeticError => kit_is)
    (case kt_ParseError_ArithmeticError => kit_is)
    (case kt_Parted_ArithmeticError => kit_is)
    (case kt_Refused_ArithmeticError => kit_is)
    (case kt_TooMany_ArithmeticError => kit_is)
    (case kt_UnknownName_ArithmeticError => kit_is)
    (case kt_WebError_ArithmeticError => kit_is)
    (case kt_InvalidDrawing_IndexError => kit_is)
    (case kt_InvalidGrowth_IndexError => kit_is)
    (case kt_InvalidModel_IndexError => kit_is)
    (case kt_InvalidNumber_IndexError => kit_is)
    (case kt_InvalidOperation_IndexError => kit_is)
    (case kt_InvalidPart_IndexError => kit_is)
    (case kt_InvalidPlace_IndexError => kit_is)
    (case kt_InvalidRoute_IndexError => kit_is)
    (case kt_InvalidStep_IndexError => kit_is)
    (case kt_InvalidTie_IndexError => kit_is)
    (case kt_InvalidWeb_IndexError => kit_is)
    (case kt_NothingToUndo_IndexError => kit_is)
    (case kt_ParseError_IndexError => kit_is)
    (case kt_Parted_IndexError => kit_is)
    (case kt_Refused_IndexError => kit_is)
    (case kt_TooMany_IndexError => kit_is)
    (case kt_UnknownName_IndexError => kit_is)
    (case kt_WebError_IndexError => kit_is)
    (case kt_InvalidDrawing_InvalidDrawing => kit_is)
    (case kt_InvalidGrowth_InvalidDrawing => kit_is)
    (case kt_InvalidModel_InvalidDrawing => kit_is)
    (case kt_InvalidNumber_InvalidDrawing => kit_is)
    (case kt_InvalidOperation_InvalidDrawing => kit_is)
    (case kt_InvalidPart_InvalidDrawing => kit_is)
    (case kt_InvalidPlace_InvalidDrawing => kit_is)
    (case kt_InvalidRoute_InvalidDrawing => kit_is)
    (case kt_InvalidStep_InvalidDrawing => kit_is)
    (case kt_InvalidTie_InvalidDrawing => kit_is)
    (case kt_InvalidWeb_InvalidDrawing => kit_is)
    (case kt_NothingToUndo_InvalidDrawing => kit_is)
    (case kt_ParseError_InvalidDrawing => kit_is)
    (case kt_Parted_InvalidDrawing => kit_is)
    (case kt_Refused_InvalidDrawing => kit_is)
    (case kt_TooMany_InvalidDrawing => kit_is)
    (case kt_UnknownName_InvalidDrawing => kit_is)
    (case kt_WebError_InvalidDrawing => kit_is)
    (case kt_InvalidDrawing_InvalidGrowth => kit_is)
    (case kt_InvalidGrowth_InvalidGrowth => kit_is)
    (case kt_InvalidModel_InvalidGrowth => kit_is)
    (case kt_InvalidNumber_InvalidGrowth => kit_is)
    (case kt_InvalidOperation_InvalidGrowth => kit_is)
    (case kt_InvalidPart_InvalidGrowth => kit_is)
    (case kt_InvalidPlace_InvalidGrowth => kit_is)
    (case kt_InvalidRoute_InvalidGrowth => kit_is)
    (case kt_InvalidStep_InvalidGrowth => kit_is)
    (case kt_InvalidTie_InvalidGrowth => kit_is)
    (case kt_InvalidWeb_InvalidGrowth => kit_is)
    (case kt_NothingToUndo_InvalidGrowth => kit_is)
    (case kt_ParseError_InvalidGrowth => kit_is)
    (case kt_Parted_InvalidGrowth => kit_is)
    (case kt_Refused_InvalidGrowth => kit_is)
    (case kt_TooMany_InvalidGrowth => kit_is)
    (case kt_UnknownName_InvalidGrowth => kit_is)
    (case kt_WebError_InvalidGrowth => kit_is)
    (case kt_InvalidDrawing_InvalidModel => kit_is)
    (case kt_InvalidGrowth_InvalidModel => kit_is)
    (case kt_InvalidModel_InvalidModel => kit_is)
    (case kt_InvalidNumber_InvalidModel => kit_is)
    (case kt_InvalidOperation_InvalidModel => kit_is)
    (case kt_InvalidPart_InvalidModel => kit_is)
    (case kt_InvalidPlace_InvalidModel => kit_is)
    (case kt_InvalidRoute_InvalidModel => kit_is)
    (case kt_InvalidStep_InvalidModel => kit_is)
    (case kt_InvalidTie_InvalidModel => kit_is)
    (case kt_InvalidWeb_InvalidModel => kit_is)
    (case kt_NothingToUndo_InvalidModel => kit_is)
    (case kt_ParseError_InvalidModel => kit_is)
    (case kt_Parted_InvalidModel => kit_is)
    (case kt_Refused_InvalidModel => kit_is)
    (case kt_TooMany_InvalidModel => kit_is)
    (case kt_UnknownName_InvalidModel => kit_is)
    (case kt_WebError_InvalidModel => kit_is)
    (case kt_InvalidDrawing_InvalidOperation => kit_is)
    (case kt_InvalidGrowth_InvalidOperation => kit_is)
    (case kt_InvalidModel_InvalidOperation => kit_is)
    (case kt_InvalidNumber_InvalidOperation => kit_is)
    (case kt_InvalidOperation_InvalidOperation => kit_is)
    (case kt_InvalidPart_InvalidOperation => kit_is)
    (case kt_InvalidPlace_InvalidOperation => kit_is)
    (case kt_InvalidRoute_InvalidOperation => kit_is)
    (case kt_InvalidStep_InvalidOperation => kit_is)
    (case kt_InvalidTie_InvalidOperation => kit_is)
    (case kt_InvalidWeb_InvalidOperation => kit_is)
    (case kt_NothingToUndo_InvalidOperation => kit_is)
    (case kt_ParseError_InvalidOperation => kit_is)
    (case kt_Parted_InvalidOperation => kit_is)
    (case kt_Refused_InvalidOperation => kit_is)
    (case kt_TooMany_InvalidOperation => kit_is)
    (case kt_UnknownName_InvalidOperation => kit_is)
    (case kt_WebError_InvalidOperation => kit_is)
    (case kt_InvalidDrawing_InvalidPart => kit_is)
    (case kt_InvalidGrowth_InvalidPart => kit_is)
    (case kt_InvalidModel_InvalidPart => kit_is)
    (case kt_InvalidNumber_InvalidPart => kit_is)
    (case kt_InvalidOperation_InvalidPart => kit_is)
    (case kt_InvalidPart_InvalidPart => kit_is)
    (case kt_InvalidPlace_InvalidPart => kit_is)
    (case kt_InvalidRoute_InvalidPart => kit_is)
    (case kt_InvalidStep_InvalidPart => kit_is)
    (case kt_InvalidTie_InvalidPart => kit_is)
    (case kt_InvalidWeb_InvalidPart => kit_is)
    (case kt_NothingToUndo_InvalidPart => kit_is)
    (case kt_ParseError_InvalidPart => kit_is)
    (case kt_Parted_InvalidPart => kit_is)
    (case kt_Refused_InvalidPart => kit_is)
    (case kt_TooMany_InvalidPart => kit_is)
    (case kt_UnknownName_InvalidPart => kit_is)
    (case kt_WebError_InvalidPart => kit_is)
    (case kt_InvalidDrawing_InvalidPlace => kit_is)
    (case kt_InvalidGrowth_InvalidPlace => kit_is)
    (case kt_InvalidModel_InvalidPlace => kit_is)
    (case kt_InvalidNumber_InvalidPlace => kit_is)
    (case kt_InvalidOperation_InvalidPlace => kit_is)
    (case kt_InvalidPart_InvalidPlace => kit_is)
    (case kt_InvalidPlace_InvalidPlace => kit_is)
    (case kt_InvalidRoute_InvalidPlace => kit_is)
    (case kt_InvalidStep_InvalidPlace => kit_is)
    (case kt_InvalidTie_InvalidPlace => kit_is)
    (case kt_InvalidWeb_InvalidPlace => kit_is)
    (case kt_NothingToUndo_InvalidPlace => kit_is)
    (case kt_ParseError_InvalidPlace => kit_is)
    (case kt_Parted_InvalidPlace => kit_is)
    (case kt_Refused_InvalidPlace => kit_is)
    (case kt_TooMany_InvalidPlace => kit_is)
    (case kt_UnknownName_InvalidPlace => kit_is)
    (case kt_WebError_InvalidPlace => kit_is)
    (case kt_InvalidDrawing_InvalidRoute => kit_is)
    (case kt_InvalidGrowth_InvalidRoute => kit_is)
    (case kt_InvalidModel_InvalidRoute => kit_is)
    (case kt_InvalidNumber_InvalidRoute => kit_is)
    (case kt_InvalidOperation_InvalidRoute => kit_is)
    (case kt_InvalidPart_InvalidRoute => kit_is)
    (case kt_InvalidPlace_InvalidRoute => kit_is)
    (case kt_InvalidRoute_InvalidRoute => kit_is)
    (case kt_InvalidStep_InvalidRoute => kit_is)
    (case kt_InvalidTie_InvalidRoute => kit_is)
    (case kt_InvalidWeb_InvalidRoute => kit_is)
    (case kt_NothingToUndo_InvalidRoute => kit_is)
    (case kt_ParseError_InvalidRoute => kit_is)
    (case kt_Parted_InvalidRoute => kit_is)
    (case kt_Refused_InvalidRoute => kit_is)
    (case kt_TooMany_InvalidRoute => kit_is)
    (case kt_UnknownName_InvalidRoute => kit_is)
    (case kt_WebError_InvalidRoute => kit_is)
    (case kt_InvalidDrawing_InvalidStep => kit_is)
    (case kt_InvalidGrowth_InvalidStep => kit_is)
    (case kt_InvalidModel_InvalidStep => kit_is)
    (case kt_InvalidNumber_InvalidStep => kit_is)
    (case kt_InvalidOperation_InvalidStep => kit_is)
    (case kt_InvalidPart_InvalidStep => kit_is)
    (case kt_InvalidPlace_InvalidStep => kit_is)
    (case kt_InvalidRoute_InvalidStep => kit_is)
    (case kt_InvalidStep_InvalidStep => kit_is)
    (case kt_InvalidTie_InvalidStep => kit_is)
    (case kt_InvalidWeb_InvalidStep => kit_is)
    (case kt_NothingToUndo_InvalidStep => kit_is)
    (case kt_ParseError_InvalidStep => kit_is)
    (case kt_Parted_InvalidStep => kit_is)
    (case kt_Refused_InvalidStep => kit_is)
    (case kt_TooMany_InvalidStep => kit_is)
    (case kt_UnknownName_InvalidStep => kit_is)
    (case kt_WebError_InvalidStep => kit_is)
    (case kt_InvalidDrawing_InvalidTie => kit_is)
    (case kt_InvalidGrowth_InvalidTie => kit_is)
    (case kt_InvalidModel_InvalidTie => kit_is)
    (case kt_InvalidNumber_InvalidTie => kit_is)
    (case kt_InvalidOperation_InvalidTie => kit_is)
    (case kt_InvalidPart_InvalidTie => kit_is)
    (case kt_InvalidPlace_InvalidTie => kit_is)
    (case kt_InvalidRoute_InvalidTie => kit_is)
    (case kt_InvalidStep_InvalidTie => kit_is)
    (case kt_InvalidTie_InvalidTie => kit_is)
    (case kt_InvalidWeb_InvalidTie => kit_is)
    (case kt_NothingToUndo_InvalidTie => kit_is)
    (case kt_ParseError_InvalidTie => kit_is)
    (case kt_Parted_InvalidTie => kit_is)
    (case kt_Refused_InvalidTie => kit_is)
    (case kt_TooMany_InvalidTie => kit_is)
    (case kt_UnknownName_InvalidTie => kit_is)
    (case kt_WebError_InvalidTie => kit_is)
    (case kt_InvalidDrawing_InvalidWeb => kit_is)
    (case kt_InvalidGrowth_InvalidWeb => kit_is)
    (case kt_InvalidModel_InvalidWeb => kit_is)
    (case kt_InvalidNumber_InvalidWeb => kit_is)
    (case kt_InvalidOperation_InvalidWeb => kit_is)
    (case kt_InvalidPart_InvalidWeb => kit_is)
    (case kt_InvalidPlace_InvalidWeb => kit_is)
    (case kt_InvalidRoute_InvalidWeb => kit_is)
    (case kt_InvalidStep_InvalidWeb => kit_is)
    (case kt_InvalidTie_InvalidWeb => kit_is)
    (case kt_InvalidWeb_InvalidWeb => kit_is)
    (case kt_NothingToUndo_InvalidWeb => kit_is)
    (case kt_ParseError_InvalidWeb => kit_is)
    (case kt_Parted_InvalidWeb => kit_is)
    (case kt_Refused_InvalidWeb => kit_is)
    (case kt_TooMany_InvalidWeb => kit_is)
    (case kt_UnknownName_InvalidWeb => kit_is)
    (case kt_WebError_InvalidWeb => kit_is)
    (case kt_InvalidDrawing_KeyError => kit_is)
    (case kt_InvalidGrowth_KeyError => kit_is)
    (case kt_InvalidModel_KeyError => kit_is)
    (case kt_InvalidNumber_KeyError => kit_is)
    (case kt_InvalidOperation_KeyError => kit_is)
    (case kt_InvalidPart_KeyError => kit_is)
    (case kt_InvalidPlace_KeyError => kit_is)
    (case kt_InvalidRoute_KeyError => kit_is)
    (case kt_InvalidStep_KeyError => kit_is)
    (case kt_InvalidTie_KeyError => kit_is)
    (case kt_InvalidWeb_KeyError => kit_is)
    (case kt_NothingToUndo_KeyError => kit_is)
    (case kt_ParseError_KeyError => kit_is)
    (case kt_Parted_KeyError => kit_is)
    (case kt_Refused_KeyError => kit_is)
    (case kt_TooMany_KeyError => kit_is)
    (case kt_UnknownName_KeyError => kit_is)
    (case kt_WebError_KeyError => kit_is)
    (case kt_InvalidDrawing_LookupError => kit_is)
    (case kt_InvalidGrowth_LookupError => kit_is)
    (case kt_InvalidModel_LookupError => kit_is)
    (case kt_InvalidNumber_LookupError => kit_is)
    (case kt_InvalidOperation_LookupError => kit_is)
    (case kt_InvalidPart_LookupError => kit_is)
    (case kt_InvalidPlace_LookupError => kit_is)
    (case kt_InvalidRoute_LookupError => kit_is)
    (case kt_InvalidStep_LookupError => kit_is)
    (case kt_InvalidTie_LookupError => kit_is)
    (case kt_InvalidWeb_LookupError => kit_is)
    (case kt_NothingToUndo_LookupError => kit_is)
    (case kt_ParseError_LookupError => kit_is)
    (case kt_Parted_LookupError => kit_is)
    (case kt_Refused_LookupError => kit_is)
    (case kt_TooMany_LookupError => kit_is)
    (case kt_UnknownName_LookupError => kit_is)
    (case kt_WebError_LookupError => kit_is)
    (case kt_InvalidDrawing_OverflowError => kit_is)
    (case kt_InvalidGrowth_OverflowError => kit_is)
    (case kt_InvalidModel_OverflowError => kit_is)
    (case kt_InvalidNumber_OverflowError => kit_is)
    (case kt_InvalidOperation_OverflowError => kit_is)
    (case kt_InvalidPart_OverflowError => kit_is)
    (case kt_InvalidPlace_OverflowError => kit_is)
    (case kt_InvalidRoute_OverflowError => kit_is)
    (case kt_InvalidStep_OverflowError => kit_is)
    (case kt_InvalidTie_OverflowError => kit_is)
    (case kt_InvalidWeb_OverflowError => kit_is)
    (case kt_NothingToUndo_OverflowError => kit_is)
    (case kt_ParseError_OverflowError => kit_is)
    (case kt_Parted_OverflowError => kit_is)
    (case kt_Refused_OverflowError => kit_is)
    (case kt_TooMany_OverflowError => kit_is)
    (case kt_UnknownName_OverflowError => kit_is)
    (case kt_WebError_OverflowError => kit_is)
    (case kt_InvalidDrawing_ParseError => kit_is)
    (case kt_InvalidGrowth_ParseError => kit_is)
    (case kt_InvalidModel_ParseError => kit_is)
    (case kt_InvalidNumber_ParseError => kit_is)
    (case kt_InvalidOperation_ParseError => kit_is)
    (case kt_InvalidPart_ParseError => kit_is)
    (case kt_InvalidPlace_ParseError => kit_is)
    (case kt_InvalidRoute_ParseError => kit_is)
    (case kt_InvalidStep_ParseError => kit_is)
    (case kt_InvalidTie_ParseError => kit_is)
    (case kt_InvalidWeb_ParseError => kit_is)
    (case kt_NothingToUndo_ParseError => kit_is)
    (case kt_ParseError_ParseError => kit_is)
    (case kt_Parted_ParseError => kit_is)
    (case kt_Refused_ParseError => kit_is)
    (case kt_TooMany_ParseError => kit_is)
    (case kt_UnknownName_ParseError => kit_is)
    (case kt_WebError_ParseError => kit_is)
    (case kt_InvalidDrawing_RuntimeError => kit_is)
    (case kt_InvalidGrowth_RuntimeError => kit_is)
    (case kt_InvalidModel_RuntimeError => kit_is)
    (case kt_InvalidNumber_RuntimeError => kit_is)
    (case kt_InvalidOperation_RuntimeError => kit_is)
    (case kt_InvalidPart_RuntimeError => kit_is)
    (case kt_InvalidPlace_RuntimeError => kit_is)
    (case kt_InvalidRoute_RuntimeError => kit_is)
    (case kt_InvalidStep_RuntimeError => kit_is)
    (case kt_InvalidTie_RuntimeError => kit_is)
    (case kt_InvalidWeb_RuntimeError => kit_is)
    (case kt_NothingToUndo_RuntimeError => kit_is)
    (case kt_ParseError_RuntimeError => kit_is)
    (case kt_Parted_RuntimeError => kit_is)
    (case kt_Refused_RuntimeError => kit_is)
    (case kt_TooMany_RuntimeError => kit_is)
    (case kt_UnknownName_RuntimeError => kit_is)
    (case kt_WebError_RuntimeError => kit_is)
    (case kt_InvalidDrawing_ValueError => kit_is)
    (case kt_InvalidGrowth_ValueError => kit_is)
    (case kt_InvalidModel_ValueError => kit_is)
    (case kt_InvalidNumber_ValueError => kit_is)
    (case kt_InvalidOperation_ValueError => kit_is)
    (case kt_InvalidPart_ValueError => kit_is)
    (case kt_InvalidPlace_ValueError => kit_is)
    (case kt_InvalidRoute_ValueError => kit_is)
    (case kt_InvalidStep_ValueError => kit_is)
    (case kt_InvalidTie_ValueError => kit_is)
    (case kt_InvalidWeb_ValueError => kit_is)
    (case kt_NothingToUndo_ValueError => kit_is)
    (case kt_ParseError_ValueError => kit_is)
    (case kt_Parted_ValueError => kit_is)
    (case kt_Refused_ValueError => kit_is)
    (case kt_TooMany_ValueError => kit_is)
    (case kt_UnknownName_ValueError => kit_is)
    (case kt_WebError_ValueError => kit_is)
    (case kt_InvalidDrawing_WebError => kit_is)
    (case kt_InvalidGrowth_WebError => kit_is)
    (case kt_InvalidModel_WebError => kit_is)
    (case kt_InvalidNumber_WebError => kit_is)
    (case kt_InvalidOperation_WebError => kit_is)
    (case kt_InvalidPart_WebError => kit_is)
    (case kt_InvalidPlace_WebError => kit_is)
    (case kt_InvalidRoute_WebError => kit_is)
    (case kt_InvalidStep_WebError => kit_is)
    (case kt_InvalidTie_WebError => kit_is)
    (case kt_InvalidWeb_WebError => kit_is)
    (case kt_NothingToUndo_WebError => kit_is)
    (case kt_ParseError_WebError => kit_is)
    (case kt_Parted_WebError => kit_is)
    (case kt_Refused_WebError => kit_is)
    (case kt_TooMany_WebError => kit_is)
    (case kt_UnknownName_WebError => kit_is)
    (case kt_WebError_WebError => kit_is)
    (case ex_InvalidDrawing_InvalidNumber => kts_exm)
    (case ex_InvalidGrowth_InvalidNumber => kts_exm)
    (case ex_InvalidModel_InvalidNumber => kts_exm)
    (case ex_InvalidNumber_InvalidNumber => kts_exm)
    (case ex_InvalidOperation_InvalidNumber => kts_exm)
    (case ex_InvalidPart_InvalidNumber => kts_exm)
    (case ex_InvalidPlace_InvalidNumber => kts_exm)
    (case ex_InvalidRoute_InvalidNumber => kts_exm)
    (case ex_InvalidStep_InvalidNumber => kts_exm)
    (case ex_InvalidTie_InvalidNumber => kts_exm)
    (case ex_InvalidWeb_InvalidNumber => kts_exm)
    (case ex_NothingToUndo_InvalidNumber => kts_exm)
    (case ex_ParseError_InvalidNumber => kts_exm)
    (case ex_Parted_InvalidNumber => kts_exm)
    (case ex_Refused_InvalidNumber => kts_exm)
    (case ex_TooMany_InvalidNumber => kts_exm)
    (case ex_UnknownName_InvalidNumber => kts_exm)
    (case ex_WebError_InvalidNumber => kts_exm)
    (case ex_InvalidDrawing_InvalidStep => kts_exm)
    (case ex_InvalidGrowth_InvalidStep => kts_exm)
    (case ex_InvalidModel_InvalidStep => kts_exm)
    (case ex_InvalidNumber_InvalidStep => kts_exm)
    (case ex_InvalidOperation_InvalidStep => kts_exm)
    (case ex_InvalidPart_InvalidStep => kts_exm)
    (case ex_InvalidPlace_InvalidStep => kts_exm)
    (case ex_InvalidRoute_InvalidStep => kts_exm)
    (case ex_InvalidStep_InvalidStep => kts_exm)
    (case ex_InvalidTie_InvalidStep => kts_exm)
    (case ex_InvalidWeb_InvalidStep => kts_exm)
    (case ex_NothingToUndo_InvalidStep => kts_exm)
    (case ex_ParseError_InvalidStep => kts_exm)
    (case ex_Parted_InvalidStep => kts_exm)
    (case ex_Refused_InvalidStep => kts_exm)
    (case ex_TooMany_InvalidStep => kts_exm)
    (case ex_UnknownName_InvalidStep => kts_exm)
    (case ex_WebError_InvalidStep => kts_exm)
    (case ex_InvalidDrawing_NothingToUndo => kts_exm)
    (case ex_InvalidGrowth_NothingToUndo => kts_exm)
    (case ex_InvalidModel_NothingToUndo => kts_exm)
    (case ex_InvalidNumber_NothingToUndo => kts_exm)
    (case ex_InvalidOperation_NothingToUndo => kts_exm)
    (case ex_InvalidPart_NothingToUndo => kts_exm)
    (case ex_InvalidPlace_NothingToUndo => kts_exm)
    (case ex_InvalidRoute_NothingToUndo => kts_exm)
    (case ex_InvalidStep_NothingToUndo => kts_exm)
    (case ex_InvalidTie_NothingToUndo => kts_exm)
    (case ex_InvalidWeb_NothingToUndo => kts_exm)
    (case ex_NothingToUndo_NothingToUndo => kts_exm)
    (case ex_ParseError_NothingToUndo => kts_exm)
    (case ex_Parted_NothingToUndo => kts_exm)
    (case ex_Refused_NothingToUndo => kts_exm)
    (case ex_TooMany_NothingToUndo => kts_exm)
    (case ex_UnknownName_NothingToUndo => kts_exm)
    (case ex_WebError_NothingToUndo => kts_exm)
    (case ex_InvalidDrawing_ParseError => kts_exm)
    (case ex_InvalidGrowth_ParseError => kts_exm)
    (case ex_InvalidModel_ParseError => kts_exm)
    (case ex_InvalidNumber_ParseError => kts_exm)
    (case ex_InvalidOperation_ParseError => kts_exm)
    (case ex_InvalidPart_ParseError => kts_exm)
    (case ex_InvalidPlace_ParseError => kts_exm)
    (case ex_InvalidRoute_ParseError => kts_exm)
    (case ex_InvalidStep_ParseError => kts_exm)
    (case ex_InvalidTie_ParseError => kts_exm)
    (case ex_InvalidWeb_ParseError => kts_exm)
    (case ex_NothingToUndo_ParseError => kts_exm)
    (case ex_ParseError_ParseError => kts_exm)
    (case ex_Parted_ParseError => kts_exm)
    (case ex_Refused_ParseError => kts_exm)
    (case ex_TooMany_ParseError => kts_exm)
    (case ex_UnknownName_ParseError => kts_exm)
    (case ex_WebError_ParseError => kts_exm)
    (case ex_InvalidDrawing_Parted => kts_exm)
    (case ex_InvalidGrowth_Parted => kts_exm)
    (case ex_InvalidModel_Parted => kts_exm)
    (case ex_InvalidNumber_Parted => kts_exm)
    (case ex_InvalidOperation_Parted => kts_exm)
    (case ex_InvalidPart_Parted => kts_exm)
    (case ex_InvalidPlace_Parted => kts_exm)
    (case ex_InvalidRoute_Parted => kts_exm)
    (case ex_InvalidStep_Parted => kts_exm)
    (case ex_InvalidTie_Parted => kts_exm)
    (case ex_InvalidWeb_Parted => kts_exm)
    (case ex_NothingToUndo_Parted => kts_exm)
    (case ex_ParseError_Parted => kts_exm)
    (case ex_Parted_Parted => kts_exm)
    (case ex_Refused_Parted => kts_exm)
    (case ex_TooMany_Parted => kts_exm)
    (case ex_UnknownName_Parted => kts_exm)
    (case ex_WebError_Parted => kts_exm)
    (case ex_InvalidDrawing_Refused => kts_exm)
    (case ex_InvalidGrowth_Refused => kts_exm)
    (case ex_InvalidModel_Refused => kts_exm)
    (case ex_InvalidNumber_Refused => kts_exm)
    (case ex_InvalidOperation_Refused => kts_exm)
    (case ex_InvalidPart_Refused => kts_exm)
    (case ex_InvalidPlace_Refused => kts_exm)
    (case ex_InvalidRoute_Refused => kts_exm)
    (case ex_InvalidStep_Refused => kts_exm)
    (case ex_InvalidTie_Refused => kts_exm)
    (case ex_InvalidWeb_Refused => kts_exm)
    (case ex_NothingToUndo_Refused => kts_exm)
    (case ex_ParseError_Refused => kts_exm)
    (case ex_Parted_Refused => kts_exm)
    (case ex_Refused_Refused => kts_exm)
    (case ex_TooMany_Refused => kts_exm)
    (case ex_UnknownName_Refused => kts_exm)
    (case ex_WebError_Refused => kts_exm)
    (case ex_InvalidDrawing_TooMany => kts_exm)
    (case ex_InvalidGrowth_TooMany => kts_exm)
    (case ex_InvalidModel_TooMany => kts_exm)
    (case ex_InvalidNumber_TooMany => kts_exm)
    (case ex_InvalidOperation_TooMany => kts_exm)
    (case ex_InvalidPart_TooMany => kts_exm)
    (case ex_InvalidPlace_TooMany => kts_exm)
    (case ex_InvalidRoute_TooMany => kts_exm)
    (case ex_InvalidStep_TooMany => kts_exm)
    (case ex_InvalidTie_TooMany => kts_exm)
    (case ex_InvalidWeb_TooMany => kts_exm)
    (case ex_NothingToUndo_TooMany => kts_exm)
    (case ex_ParseError_TooMany => kts_exm)
    (case ex_Parted_TooMany => kts_exm)
    (case ex_Refused_TooMany => kts_exm)
    (case ex_TooMany_TooMany => kts_exm)
    (case ex_UnknownName_TooMany => kts_exm)
    (case ex_WebError_TooMany => kts_exm)
    (case ex_InvalidDrawing_UnknownName => kts_exm)
    (case ex_InvalidGrowth_UnknownName => kts_exm)
    (case ex_InvalidModel_UnknownName => kts_exm)
    (case ex_InvalidNumber_UnknownName => kts_exm)
    (case ex_InvalidOperation_UnknownName => kts_exm)
    (case ex_InvalidPart_UnknownName => kts_exm)
    (case ex_InvalidPlace_UnknownName => kts_exm)
    (case ex_InvalidRoute_UnknownName => kts_exm)
    (case ex_InvalidStep_UnknownName => kts_exm)
    (case ex_InvalidTie_UnknownName => kts_exm)
    (case ex_InvalidWeb_UnknownName => kts_exm)
    (case ex_NothingToUndo_UnknownName => kts_exm)
    (case ex_ParseError_UnknownName => kts_exm)
    (case ex_Parted_UnknownName => kts_exm)
    (case ex_Refused_UnknownName => kts_exm)
    (case ex_TooMany_UnknownName => kts_exm)
    (case ex_UnknownName_UnknownName => kts_exm)
    (case ex_WebError_UnknownName => kts_exm)
    (case ex_InvalidDrawing_WebError => kts_exm)
    (case ex_InvalidGrowth_WebError => kts_exm)
    (case ex_InvalidModel_WebError => kts_exm)
    (case ex_InvalidNumber_WebError => kts_exm)
    (case ex_InvalidOperation_WebError => kts_exm)
    (case ex_InvalidPart_WebError => kts_exm)
    (case ex_InvalidPlace_WebError => kts_exm)
    (case ex_InvalidRoute_WebError => kts_exm)
    (case ex_InvalidStep_WebError => kts_exm)
    (case ex_InvalidTie_WebError => kts_exm)
    (case ex_InvalidWeb_WebError => kts_exm)
    (case ex_NothingToUndo_WebError => kts_exm)
    (case ex_ParseError_WebError => kts_exm)
    (case ex_Parted_WebError => kts_exm)
    (case ex_Refused_WebError => kts_exm)
    (case ex_TooMany_WebError => kts_exm)
    (case ex_UnknownName_WebError => kts_exm)
    (case ex_WebError_WebError => kts_exm)
