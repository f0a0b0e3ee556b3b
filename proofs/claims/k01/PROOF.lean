import PyProof.Rows.All
import HandS.ForMost
import HandS.ForExc
import HandS.DeepEq
import KE.KEqNest
import HandS.Wide
import HandS.IsInst
import HandS.TupAny
import HandS.Flow
import HandS.Text
import HandS.RaiseMore
import HandS.Iter
import HandS.Comp
import HandS.ExcOwn
import HandS.WordsExc
import PyProof.StrOps2
import KE.IntTextText
import HandS.Codes
import PySem.Challenge.RW_wheelgrown_k01_whole_integers_and_names
import Wide.All
import OpenK.AllK
import Wide.FinOn
set_option Elab.async false
set_option linter.all false
set_option maxRecDepth 100000
namespace Wg
open PySem PySem.Spec PyProof.Rows L2
open AutoSeq1 (wpAny_loadPart')
open MeetsSeq
theorem dict_declines_tuple (l b : Addr) (es : Array DictEntry) (items2 : Array Value) (n n2 : Nat) (dd dd2 : Option Addr) (sl sl2 : Array (Option Value)) :
    Meets (Builtin.«dict.__eq__» ⟨[.ref l, .ref b], []⟩) (fun _ R s => s.heap.get? l = some { cls := .type "dict", dict := dd, data := .dict es n, slots := sl } ∧ s.heap.get? b = some { cls := .type "tuple", dict := dd2, data := .seq items2 n2, slots := sl2 } ∧ R (.ok (.ret .notImplemented)) s) :=
  .of_wp fun prog w A R s h => by obtain ⟨hp, g, d, tk, os⟩ := s; obtain ⟨hl, hb, h⟩ := h; have f1 := PySem.F.sub_tuple_dict; wp_walk using wpAny_loadPart' hl, wpAny_loadPart' hb; exact ⟨_, rfl, h⟩
theorem tuple_declines_dict (l b : Addr) (items : Array Value) (es : Array DictEntry) (n n2 : Nat) (dd dd2 : Option Addr) (sl sl2 : Array (Option Value)) :
    Meets (Builtin.«tuple.__eq__» ⟨[.ref l, .ref b], []⟩) (fun _ R s => s.heap.get? l = some { cls := .type "tuple", dict := dd, data := .seq items n, slots := sl } ∧ s.heap.get? b = some { cls := .type "dict", dict := dd2, data := .dict es n2, slots := sl2 } ∧ R (.ok (.ret .notImplemented)) s) :=
  .of_wp fun prog w A R s h => by obtain ⟨hp, g, d, tk, os⟩ := s; obtain ⟨hl, hb, h⟩ := h; have f1 : isSubtype (.type "dict") (.type "tuple") = pure false := PySem.F.sub_dict_tuple; wp_walk using wpAny_loadPart' hl, wpAny_loadPart' hb; exact ⟨_, rfl, h⟩
section
variable {X : Cx}
def rEqDT (K : PySem.W.Frag) : R2 := fun x y H Q => ∃ a b kvs ys, x = .ref a ∧ y = .ref b ∧ H a = some (.dK kvs) ∧ SqT K H b ys ∧ Q (.bl false) H
theorem op_eqDT (hu : X.A.units + 64 < cLine) : OpR X (compareOp .Eq) (rEqDT X.K) := by
  intro pins s σ H x y v u Q I rx ry hh
  obtain ⟨a, b, kvs, ys, rfl, rfl, ha, hb, q⟩ := hh
  cases rx; cases ry
  obtain ⟨z, hS, vs, r, ob, es, ep, h1, h2, h3, _⟩ := dk_of I.hok ha
  obtain ⟨its, rt, ⟨o2, t1, t2, n2, t3⟩, _⟩ := I.tuple hb
  obtain ⟨oc, od, dt, osl⟩ := ob
  obtain ⟨oc2, od2, dt2, osl2⟩ := o2
  obtain ⟨c1, c2⟩ := h2
  simp only at c1 c2 h3 t2 t3
  subst c1 h3 t2 t3
  have hne : a ≠ b := fun e => by subst e; rw [h1] at t1; exact absurd (congrArg Obj.cls (Option.some.inj t1)) (by simp)
  show wpAny _ _ (richCompare .Eq (.ref a) (.ref b)) _ _ _
  refine SeqAt.rc_eq_decline_or (k := false) ⟨_, h1, rfl⟩ ⟨_, t1, rfl⟩ (by decide) PySem.F.sub_tuple_dict PySem.F.slot_dict_eq PySem.F.slot_tuple_eq_refl
    (fun _ hq => call_meets PySem.F.slot_dict_eq ⟨_, h1, rfl⟩ PySem.F.entry_dict_eq (PySem.F.args_dict_eq_2 _ _) (dict_declines_tuple a b es its.toArray ep n2 od od2 osl osl2) ⟨h1, t1, hq⟩)
    (fun _ hq => call_meets PySem.F.slot_tuple_eq_refl ⟨_, t1, rfl⟩ PySem.F.entry_tuple_eq (PySem.F.args_tuple_eq_2 _ _) (tuple_declines_dict b a its.toArray es n2 ep od2 od osl2 osl) ⟨t1, h1, hq⟩)
    (fun _ hq => wpAny_isSame_ref_other hne h1 t1 (by simp) hq) (.inr (by omega)) ⟨.bl false, H, I, rfl, q⟩
end
end Wg

namespace Wg
open PySem PySem.Spec PyProof.Rows L2

/-- a value, told as a tree; what may still be changed is told by its place in the store -/
inductive PV where
  | non | bl (b : Bool) | int (i : Int) | str (x : List Nat) | ty (n : String) | adr (a : Nat)
  | ref (a : Nat)
  | tup (xs : List PV) | lst (xs : List PV) | scr (xs : List PV)
  | dct (kvs : List (PV × PV))

/-- what stands at a place of the store -/
inductive Cell where
  | lst (xs : List PV)
  | dct (kvs : List (PV × PV))

abbrev Store := List Cell
/-- where the store's cells stand; what is being made just now, and is no cell -/
structure Pl where
  c : List Addr
  hid : List Addr := []
def Pl.has (ρ : Pl) (p : Addr) : Prop := p ∈ ρ.c ∨ p ∈ ρ.hid
abbrev Lv := List (Option PV)

/-- an error under way -/
structure Ex where
  cls : PV
  fld : List (Str × PV) := []

inductive R (α : Type) where
  | ok (a : α) (h : Store) | exc (e : Ex) (h : Store) | no

def R.bind {α β : Type} (r : R α) (k : α → Store → R β) : R β :=
  match r with
  | .ok a h => k a h
  | .exc e h => .exc e h
  | .no => .no

@[simp] theorem R.bind_ok {α β : Type} (a : α) (h : Store) (k : α → Store → R β) : (R.ok a h).bind k = k a h := (rfl)
@[simp] theorem R.bind_exc {α β : Type} (a : Ex) (h : Store) (k : α → Store → R β) : (R.exc a h).bind k = .exc a h := (rfl)
@[simp] theorem R.bind_no {α β : Type} (k : α → Store → R β) : (R.no).bind k = .no := (rfl)

abbrev strV (x : List Nat) : V := V.str ⟨x.toArray⟩

/-- what the text's own part holds at p -/
def KTup (K : PySem.W.Frag) (p : Addr) (vs : List V) : Prop :=
  ∃ (o : Obj) (its : Array Value) (n : Nat), K.lookup p = some o ∧ o.cls = .type "tuple" ∧ o.data = .seq its n ∧ its.size ≤ sizeLine ∧ Vals vs its.toList
def KLst (K : PySem.W.Frag) (p : Addr) (vs : List V) : Prop :=
  ∃ (o : Obj) (its : Array Value) (n : Nat), K.lookup p = some o ∧ o.cls = .type "list" ∧ o.dict = none ∧ o.data = .seq its n ∧ its.size ≤ sizeLine ∧ Vals vs its.toList
/-- a tuple, a list that nobody of the store changes -/
def TupAt (K : PySem.W.Frag) (ρ : Pl) (H : Hp) (p : Addr) (vs : List V) : Prop := (¬ ρ.has p ∧ Rd H p (.tup vs)) ∨ KTup K p vs
def LstAt (ρ : Pl) (H : Hp) (p : Addr) (vs : List V) : Prop := ¬ ρ.has p ∧ H p = some (.lst vs)
/-- a list that is read alone -/
def ScrAt (K : PySem.W.Frag) (ρ : Pl) (H : Hp) (p : Addr) (vs : List V) : Prop := (¬ ρ.has p ∧ Rd H p (.lst vs)) ∨ KLst K p vs

/-- a key of a dict -/
def keyP : PV → Option Key
  | .int i => some (.inl i)
  | .str x => some (.inr ⟨x.toArray⟩)
  | _ => none
mutual
/-- the value x of ours is v of the layer -/
def RV (K : PySem.W.Frag) (ρ : Pl) (H : Hp) : PV → V → Prop
  | .non, v => v = .non
  | .bl b, v => v = .bl b
  | .int i, v => v = .int i
  | .str x, v => v = strV x
  | .ty n, v => v = .ty n
  | .adr a, v => v = .ref a
  | .ref a, v => ∃ p, ρ.c[a]? = some p ∧ v = .ref p
  | .tup xs, v => ∃ p vs, v = .ref p ∧ TupAt K ρ H p vs ∧ RVs K ρ H xs vs
  | .lst xs, v => ∃ p vs, v = .ref p ∧ LstAt ρ H p vs ∧ RVs K ρ H xs vs
  | .scr xs, v => ∃ p vs, v = .ref p ∧ ScrAt K ρ H p vs ∧ RVs K ρ H xs vs
  | .dct kvs, v => ∃ p vs, v = .ref p ∧ (¬ ρ.has p ∧ H p = some (.dK vs)) ∧ RVd K ρ H kvs vs
def RVs (K : PySem.W.Frag) (ρ : Pl) (H : Hp) : List PV → List V → Prop
  | [], vs => vs = []
  | x :: xs, vs => ∃ v r, vs = v :: r ∧ RV K ρ H x v ∧ RVs K ρ H xs r
def RVd (K : PySem.W.Frag) (ρ : Pl) (H : Hp) : List (PV × PV) → List (Key × V) → Prop
  | [], vs => vs = []
  | (k, x) :: xs, vs => ∃ c v r, vs = (c, v) :: r ∧ keyP k = some c ∧ RV K ρ H x v ∧ RVd K ρ H xs r
end

section
variable {K : PySem.W.Frag} {ρ ρ' ρ1 : Pl} {H H' H1 : Hp}

theorem TupAt.sq {p vs} (h : TupAt K ρ H p vs) : SqT K H p vs := by
  rcases h with ⟨_, h⟩ | ⟨o, its, n, h⟩
  · exact .inl h
  · exact .inr ⟨o, its, n, h⟩
theorem ScrAt.sq {p vs} (h : ScrAt K ρ H p vs) : SqL K H p vs := by
  rcases h with ⟨_, h⟩ | ⟨o, its, n, h⟩
  · exact .inl h
  · exact .inr ⟨o, its, n, h⟩

/-- the store may have grown; what is tracked outside it stands as it stood -/
structure Ext (ρ : Pl) (H : Hp) (ρ' : Pl) (H' : Hp) : Prop where
  pre : ∃ more, ρ'.c = ρ.c ++ more ∧ ∀ p ∈ more, ¬ ρ.has p ∧ H p = none
  hid : ρ'.hid = ρ.hid
  old : ∀ p o, p ∉ ρ.c → H p = some o → H' p = some o
theorem Ext.refl (ρ : Pl) (H : Hp) : Ext ρ H ρ H := ⟨⟨[], by simp, by simp⟩, rfl, fun _ _ _ h => h⟩
theorem Ext.notin (a : Ext ρ H ρ' H') {p : Addr} {o : HO} (hp : ¬ ρ.has p) (e : H p = some o) : ¬ ρ'.has p := by
  obtain ⟨m1, e1, f1⟩ := a.pre
  rintro (z | z)
  · rw [e1] at z
    rcases List.mem_append.mp z with z | z
    · exact hp (.inl z)
    · rw [(f1 p z).2] at e; cases e
  · rw [a.hid] at z; exact hp (.inr z)
theorem Ext.trans (a : Ext ρ H ρ1 H1) (b : Ext ρ1 H1 ρ' H') : Ext ρ H ρ' H' := by
  obtain ⟨m1, e1, f1⟩ := a.pre
  obtain ⟨m2, e2, f2⟩ := b.pre
  have ni : ∀ p o, p ∉ ρ.c → H p = some o → p ∉ ρ1.c := fun p o hp e z => by
    rw [e1] at z
    rcases List.mem_append.mp z with z | z
    · exact hp z
    · rw [(f1 p z).2] at e; cases e
  refine ⟨⟨m1 ++ m2, by rw [e2, e1, List.append_assoc], fun p hp => ?_⟩, b.hid.trans a.hid, fun p o hp e => b.old p o (ni p o hp e) (a.old p o hp e)⟩
  rcases List.mem_append.mp hp with h | h
  · exact f1 p h
  · obtain ⟨n1, n2⟩ := f2 p h
    have np : p ∉ ρ.c := fun z => n1 (.inl (by rw [e1]; exact List.mem_append_left _ z))
    refine ⟨fun z => z.elim np fun z => n1 (.inr (by rw [a.hid]; exact z)), ?_⟩
    cases q : H p with
    | none => rfl
    | some o => rw [a.old p o np q] at n2; cases n2
theorem Ext.look (a : Ext ρ H ρ' H') {i : Nat} {p : Addr} (h : ρ.c[i]? = some p) : ρ'.c[i]? = some p := by
  obtain ⟨m1, e1, _⟩ := a.pre
  rw [e1, List.getElem?_append_left (List.getElem?_eq_some_iff.mp h).1]; exact h
theorem Ext.at_ (a : Ext ρ H ρ' H') {p : Addr} {o : HO} (hp : ¬ ρ.has p) (e : H p = some o) : H' p = some o := a.old p o (fun z => hp (.inl z)) e

/-- what values need to stay values -/
structure Kp (ρ : Pl) (H : Hp) (ρ' : Pl) (H' : Hp) : Prop where
  look : ∀ (i : Nat) (p : Addr), ρ.c[i]? = some p → ρ'.c[i]? = some p
  old : ∀ p o, ¬ ρ.has p → H p = some o → ¬ ρ'.has p ∧ H' p = some o
theorem Ext.kp (a : Ext ρ H ρ' H') : Kp ρ H ρ' H' := ⟨fun _ _ h => a.look h, fun _ _ hp e => ⟨a.notin hp e, a.at_ hp e⟩⟩
theorem Kp.trans (a : Kp ρ H ρ1 H1) (b : Kp ρ1 H1 ρ' H') : Kp ρ H ρ' H' := ⟨fun i p h => b.look i p (a.look i p h), fun p o hp e => b.old p o (a.old p o hp e).1 (a.old p o hp e).2⟩
theorem Rd.kp (a : Kp ρ H ρ' H') {p u} (hp : ¬ ρ.has p) (h : Rd H p u) : ¬ ρ'.has p ∧ Rd H' p u := by
  rcases h with h | ⟨o, h⟩
  · exact ⟨(a.old _ _ hp h).1, .inl (a.old _ _ hp h).2⟩
  · exact ⟨(a.old _ _ hp h).1, .inr ⟨o, (a.old _ _ hp h).2⟩⟩
theorem TupAt.kp (a : Kp ρ H ρ' H') {p vs} (h : TupAt K ρ H p vs) : TupAt K ρ' H' p vs := h.imp (fun z => Rd.kp a z.1 z.2) id
theorem LstAt.kp (a : Kp ρ H ρ' H') {p vs} (h : LstAt ρ H p vs) : LstAt ρ' H' p vs := a.old _ _ h.1 h.2
theorem ScrAt.kp (a : Kp ρ H ρ' H') {p vs} (h : ScrAt K ρ H p vs) : ScrAt K ρ' H' p vs := h.imp (fun z => Rd.kp a z.1 z.2) id

mutual
theorem RV.kp (a : Kp ρ H ρ' H') : ∀ (x : PV) (v : V), RV K ρ H x v → RV K ρ' H' x v
  | .non, _, h => h
  | .bl _, _, h => h
  | .int _, _, h => h
  | .str _, _, h => h
  | .ty _, _, h => h
  | .adr _, _, h => h
  | .ref _, _, ⟨p, h, e⟩ => ⟨p, a.look _ _ h, e⟩
  | .tup xs, _, ⟨p, vs, e, t, r⟩ => ⟨p, vs, e, t.kp a, RVs.kp a xs vs r⟩
  | .lst xs, _, ⟨p, vs, e, t, r⟩ => ⟨p, vs, e, t.kp a, RVs.kp a xs vs r⟩
  | .scr xs, _, ⟨p, vs, e, t, r⟩ => ⟨p, vs, e, t.kp a, RVs.kp a xs vs r⟩
  | .dct kvs, _, ⟨p, vs, e, t, r⟩ => ⟨p, vs, e, a.old _ _ t.1 t.2, RVd.kp a kvs vs r⟩
theorem RVs.kp (a : Kp ρ H ρ' H') : ∀ (xs : List PV) (vs : List V), RVs K ρ H xs vs → RVs K ρ' H' xs vs
  | [], _, h => h
  | x :: xs, _, ⟨v, r, e, h1, h2⟩ => ⟨v, r, e, RV.kp a x v h1, RVs.kp a xs r h2⟩
theorem RVd.kp (a : Kp ρ H ρ' H') : ∀ (kvs : List (PV × PV)) (vs : List (Key × V)), RVd K ρ H kvs vs → RVd K ρ' H' kvs vs
  | [], _, h => h
  | (k, x) :: xs, _, ⟨c, v, r, e, h0, h1, h2⟩ => ⟨c, v, r, e, h0, RV.kp a x v h1, RVd.kp a xs r h2⟩
end
theorem RV.ext (a : Ext ρ H ρ' H') {x : PV} {v : V} (h : RV K ρ H x v) : RV K ρ' H' x v := RV.kp a.kp x v h
theorem RVs.ext (a : Ext ρ H ρ' H') (xs : List PV) (vs : List V) (h : RVs K ρ H xs vs) : RVs K ρ' H' xs vs := RVs.kp a.kp xs vs h
theorem RVd.ext (a : Ext ρ H ρ' H') (kvs : List (PV × PV)) (vs : List (Key × V)) (h : RVd K ρ H kvs vs) : RVd K ρ' H' kvs vs := RVd.kp a.kp kvs vs h

/-- a cell stands at p -/
def RC (K : PySem.W.Frag) (ρ : Pl) (H : Hp) : Cell → Addr → Prop
  | .lst xs, p => ∃ vs, H p = some (.lst vs) ∧ RVs K ρ H xs vs
  | .dct kvs, p => ∃ vs, H p = some (.dK vs) ∧ RVd K ρ H kvs vs
/-- the store h stands at the addresses ρ -/
structure Rep (K : PySem.W.Frag) (ρ : Pl) (h : Store) (H : Hp) : Prop where
  len : h.length = ρ.c.length
  nd : ρ.c.Nodup
  at_ : ∀ (i : Nat) (c : Cell) (p : Addr), h[i]? = some c → ρ.c[i]? = some p → RC K ρ H c p
  hid : ∀ p ∈ ρ.hid, ∃ o, H p = some o
/-- the slots -/
inductive RL (K : PySem.W.Frag) (ρ : Pl) (H : Hp) : Lv → L2.St → Prop
  | nil : RL K ρ H [] []
  | skip {l σ o} : RL K ρ H l σ → RL K ρ H (none :: l) (o :: σ)
  | put {l σ x v} : RV K ρ H x v → RL K ρ H l σ → RL K ρ H (some x :: l) (some v :: σ)
theorem RL.kp (a : Kp ρ H ρ' H') {l σ} (h : RL K ρ H l σ) : RL K ρ' H' l σ := by
  induction h with
  | nil => exact .nil
  | skip _ ih => exact .skip ih
  | put r _ ih => exact .put (RV.kp a _ _ r) ih
theorem RL.ext (a : Ext ρ H ρ' H') {l σ} (h : RL K ρ H l σ) : RL K ρ' H' l σ := h.kp a.kp
theorem RL.get {l : Lv} {σ : L2.St} {i : Nat} {x : PV} (h : RL K ρ H l σ) : l[i]? = some (some x) → ∃ v, σ[i]? = some (some v) ∧ RV K ρ H x v := by
  induction h generalizing i with
  | nil => intro e; simp at e
  | skip _ ih =>
    intro e
    cases i with
    | zero => simp at e
    | succ i => simpa using ih (by simpa using e)
  | put r _ ih =>
    intro e
    cases i with
    | zero => simp at e; subst e; exact ⟨_, rfl, r⟩
    | succ i => simpa using ih (by simpa using e)
theorem RL.set {l : Lv} {σ : L2.St} {i : Nat} {x : PV} {v : V} (r : RV K ρ H x v) (h : RL K ρ H l σ) : RL K ρ H (l.set i (some x)) (σ.set i (some v)) := by
  induction h generalizing i with
  | nil => exact .nil
  | skip h ih =>
    cases i with
    | zero => exact .put r h
    | succ i => exact .skip ih
  | put q h ih =>
    cases i with
    | zero => exact .put r h
    | succ i => exact .put q ih
theorem RL.len {l σ} (h : RL K ρ H l σ) : l.length = σ.length := by
  induction h with
  | nil => rfl
  | skip _ ih => simp [ih]
  | put _ _ ih => simp [ih]
/-- fewer slots told -/
theorem RL.wipe {l : Lv} {σ : L2.St} (h : RL K ρ H l σ) (i : Nat) : RL K ρ H (l.set i none) (σ.set i none) := by
  induction h generalizing i with
  | nil => exact .nil
  | skip h ih =>
    cases i with
    | zero => exact .skip h
    | succ i => exact .skip (ih i)
  | put q h ih =>
    cases i with
    | zero => exact .skip h
    | succ i => exact .put q (ih i)

theorem RVs.len : ∀ {xs : List PV} {vs : List V}, RVs K ρ H xs vs → xs.length = vs.length
  | [], _, h => by rw [show _ = [] from h] <;> rfl
  | x :: xs, _, ⟨v, r, e, _, h2⟩ => by rw [e, List.length_cons, List.length_cons, RVs.len h2]
theorem RVs.get : ∀ {xs : List PV} {vs : List V} {i : Nat} {x : PV}, RVs K ρ H xs vs → xs[i]? = some x → ∃ v, vs[i]? = some v ∧ RV K ρ H x v
  | [], _, _, _, _, e => by simp at e
  | y :: xs, _, 0, x, ⟨v, r, e, h1, _⟩, q => by simp at q; subst q; exact ⟨v, by rw [e]; rfl, h1⟩
  | y :: xs, _, i + 1, x, ⟨v, r, e, _, h2⟩, q => by
    obtain ⟨u, h, k⟩ := RVs.get (i := i) (x := x) h2 (by simpa using q)
    exact ⟨u, by rw [e]; simpa using h, k⟩
theorem RVs.app : ∀ {xs ys : List PV} {vs ws : List V}, RVs K ρ H xs vs → RVs K ρ H ys ws → RVs K ρ H (xs ++ ys) (vs ++ ws)
  | [], _, _, _, h, k => by rw [show _ = [] from h]; exact k
  | x :: xs, _, _, _, ⟨v, r, e, h1, h2⟩, k => by rw [e]; exact ⟨v, _, rfl, h1, RVs.app h2 k⟩
theorem RVs.one {x v} (h : RV K ρ H x v) : RVs K ρ H [x] [v] := ⟨v, [], rfl, h, rfl⟩
theorem RVs.set : ∀ {xs : List PV} {vs : List V} {i : Nat} {x : PV} {v : V}, RVs K ρ H xs vs → RV K ρ H x v → RVs K ρ H (xs.set i x) (vs.set i v)
  | [], _, _, _, _, h, _ => by rw [show _ = [] from h]; rfl
  | y :: xs, _, 0, x, v, ⟨u, r, e, h1, h2⟩, k => by rw [e]; exact ⟨v, r, rfl, k, h2⟩
  | y :: xs, _, i + 1, x, v, ⟨u, r, e, h1, h2⟩, k => by rw [e]; exact ⟨u, _, rfl, h1, RVs.set h2 k⟩

/-! ### what comes out -/
abbrev Wish := WX
/-- the error at hand is as told -/
def RX (K : PySem.W.Frag) (ρ : Pl) (H : Hp) (e : Ex) (cls : Value) (d : Option Addr) : Prop :=
  ∃ c, RV K ρ H e.cls c ∧ RelV c cls ∧ ∀ f x, (f, x) ∈ e.fld → ∃ dd fs v, d = some dd ∧ ¬ ρ.has dd ∧ H dd = some (.xd fs) ∧ fs.lookup f = some v ∧ RV K ρ H x v
/-- a result r, and what is wanted of it -/
def Out {α β : Type} (K : PySem.W.Frag) (ρ : Pl) (H : Hp) (rel : Pl → Hp → α → β → Prop) (W : Value → Option Addr → Hp → Prop) (r : R α) (Q : β → Hp → Prop) : Prop :=
  match r with
  | .ok x h => ∀ ρ' H' v, Ext ρ H ρ' H' → Rep K ρ' h H' → rel ρ' H' x v → Q v H'
  | .exc e h => ∀ ρ' H' cls d, Ext ρ H ρ' H' → Rep K ρ' h H' → RX K ρ' H' e cls d → W cls d H'
  | .no => False

section
variable {α β γ δ : Type} {rel : Pl → Hp → α → β → Prop} {rel2 : Pl → Hp → γ → δ → Prop} {W : Value → Option Addr → Hp → Prop}
theorem Out.ext {r : R α} {Q : β → Hp → Prop} (a : Ext ρ H ρ1 H1) (o : Out K ρ H rel W r Q) : Out K ρ1 H1 rel W r Q := by
  cases r with
  | ok x h => exact fun ρ' H' v b p q => o ρ' H' v (a.trans b) p q
  | exc e h => exact fun ρ' H' c d b p q => o ρ' H' c d (a.trans b) p q
  | no => exact o
theorem Out.bind {r : R α} {k : α → Store → R γ} {Q : δ → Hp → Prop} (o : Out K ρ H rel2 W (r.bind k) Q) :
    Out K ρ H rel W r (fun v H1 => ∃ x h1 ρ1, Ext ρ H ρ1 H1 ∧ Rep K ρ1 h1 H1 ∧ rel ρ1 H1 x v ∧ Out K ρ1 H1 rel2 W (k x h1) Q) := by
  cases r with
  | ok x h => exact fun ρ' H' v a p q => ⟨x, h, ρ', a, p, q, Out.ext a o⟩
  | exc e h => exact o
  | no => exact o
theorem Out.mono {r : R α} {Q Q' : β → Hp → Prop} (o : Out K ρ H rel W r Q) (m : ∀ v H', Q v H' → Q' v H') : Out K ρ H rel W r Q' := by
  cases r with
  | ok x h => exact fun ρ' H' v a p q => m _ _ (o ρ' H' v a p q)
  | exc e h => exact o
  | no => exact o
theorem Out.ok {x : α} {h : Store} {v : β} {Q : β → Hp → Prop} (o : Out K ρ H rel W (.ok x h) Q) (p : Rep K ρ h H) (q : rel ρ H x v) : Q v H := o ρ H v (Ext.refl _ _) p q
end
end
abbrev M (α : Type) := Lv → Store → R α
/-- expressions -/
def tM (K : PySem.W.Frag) (W : WX) (m : M PV) : TE := fun σ H Q => ∃ ρ h l, Rep K ρ h H ∧ RL K ρ H l σ ∧ Out K ρ H (RV K) (fun c d H' => W c d σ H') (m l h) Q
/-- tests -/
def tT (K : PySem.W.Frag) (W : WX) (m : M Bool) : TT := fun σ H Q => ∃ ρ h l, Rep K ρ h H ∧ RL K ρ H l σ ∧ Out K ρ H (fun _ _ a b => a = b) (fun c d H' => W c d σ H') (m l h) Q
/-- argument lists -/
def tA (K : PySem.W.Frag) (W : WX) (m : M (List PV)) : TA := fun σ H Q => ∃ ρ h l, Rep K ρ h H ∧ RL K ρ H l σ ∧ Out K ρ H (RVs K) (fun c d H' => W c d σ H') (m l h) Q

abbrev XE (X : Cx) (W : WX) (e : Expr) (m : M PV) : Prop := PE X e (tM X.K W m)
abbrev XT (X : Cx) (W : WX) (e : Expr) (m : M Bool) : Prop := PT X e (tT X.K W m)
abbrev XA (X : Cx) (W : WX) (es : List Expr) (m : M (List PV)) : Prop := PA X es (tA X.K W m)

theorem pe_weak {X e t t'} (h : PE X e t) (w : ∀ σ H Q, t' σ H Q → t σ H Q) : PE X e t' := ⟨fun pins s σ H Q I q => h.run pins s σ H Q I (w _ _ _ q)⟩
theorem pt_weak {X e t t'} (h : PT X e t) (w : ∀ σ H Q, t' σ H Q → t σ H Q) : PT X e t' := ⟨fun pins s σ H Q I q => h.run pins s σ H Q I (w _ _ _ q)⟩
theorem pa_weak {X e t t'} (h : PA X e t) (w : ∀ σ H Q, t' σ H Q → t σ H Q) : PA X e t' := ⟨fun pos pins s σ H Q I q => h.run pos pins s σ H Q I (w _ _ _ q)⟩

/-! ### names, constants -/
theorem RV_self {K : PySem.W.Frag} {ρ : Pl} {H : Hp} {x : PV} {v : V} (e : RV K ρ H x v = (v = v)) : RV K ρ H x v := by rw [e]
def mVar (i : Nat) : M PV := fun l h => match l[i]? with
  | some (some x) => .ok x h
  | _ => .no
def mC (x : PV) : M PV := fun _ h => .ok x h
section
variable {X : Cx} {W : WX} {pos : Pos}
theorem xe_var {i : Nat} {x : Str} (h : PE X (.Name x pos) (tVar i)) : XE X W (.Name x pos) (mVar i) := pe_weak h fun σ H Q ⟨ρ, h, l, p, r, o⟩ => by
  unfold mVar at o
  revert o
  split
  · rename_i x e
    intro o
    obtain ⟨v, e2, q⟩ := r.get e
    exact ⟨v, e2, o.ok p q⟩
  · intro o; exact o.elim
theorem tM_const {x : PV} {v : V} {σ H Q} (hv : ∀ ρ h, Rep X.K ρ h H → RV X.K ρ H x v) (t : tM X.K W (mC x) σ H Q) : Q v H := by
  obtain ⟨ρ, h, l, p, r, o⟩ := t
  exact o.ok p (hv ρ h p)
theorem xe_int {i j} : XE X W (.Constant (.int i) j pos) (mC (.int i)) := pe_weak pe_int fun σ H Q t => tM_const (fun _ _ _ => RV_self rfl) t
theorem xe_bl {b j} : XE X W (.Constant (.bool b) j pos) (mC (.bl b)) := pe_weak pe_bl fun σ H Q t => tM_const (fun _ _ _ => RV_self rfl) t
theorem xe_non {j} : XE X W (.Constant .none j pos) (mC .non) := pe_weak pe_non fun σ H Q t => tM_const (fun _ _ _ => RV_self rfl) t
theorem xe_str {x : Str} {y : List Nat} {j} (e : x = ⟨y.toArray⟩ := by decide +kernel) : XE X W (.Constant (.str x) j pos) (mC (.str y)) := pe_weak pe_str fun σ H Q t => tM_const (fun _ _ _ => by rw [e]; rfl) t
theorem xe_glob {x : Str} {v : V} {y : PV} (h : PE X (.Name x pos) (tC v)) (hv : ∀ ρ H h, Rep X.K ρ h H → RV X.K ρ H y v) : XE X W (.Name x pos) (mC y) := pe_weak h fun σ H Q t => tM_const (fun ρ h p => hv ρ H h p) t

/-! ### two places -/
def mBin (f : PV → PV → Store → R PV) (a b : M PV) : M PV := fun l h => (a l h).bind fun x h1 => (b l h1).bind fun y h2 => f x y h2
/-- r reads what f tells -/
def OpX (X : Cx) (W : WX) (f : PV → PV → Store → R PV) (r : R2) : Prop :=
  ∀ (ρ : Pl) (h : Store) (σ : L2.St) (H : Hp) (x y : PV) (v w : V) (Q : VK), Rep X.K ρ h H → RV X.K ρ H x v → RV X.K ρ H y w →
    Out X.K ρ H (RV X.K) (fun c d H' => W c d σ H') (f x y h) Q → r v w H Q
theorem tM_bin {f a b r} (ho : OpX X W f r) : ∀ σ H Q, tM X.K W (mBin f a b) σ H Q → tOp r (tM X.K W a) (tM X.K W b) σ H Q := by
  intro σ H Q ⟨ρ, h, l, p, rl, o⟩
  refine ⟨ρ, h, l, p, rl, Out.mono (Out.bind o) ?_⟩
  intro v H1 ⟨x, h1, ρ1, e1, p1, r1, o1⟩
  refine ⟨ρ1, h1, l, p1, rl.ext e1, Out.mono (Out.bind o1) ?_⟩
  intro w H2 ⟨y, h2, ρ2, e2, p2, r2, o2⟩
  exact ho ρ2 h2 σ H2 x y v w Q p2 (r1.ext e2) r2 o2
theorem xe_bin {a b : Expr} {op : Operator} {f ma mb r} (hr : OpR X (binaryOp op) r) (ho : OpX X W f r) (ha : XE X W a ma) (hb : XE X W b mb) : XE X W (.BinOp a op b pos) (mBin f ma mb) := pe_weak (pe_op hr ha hb) (tM_bin ho)
theorem xe_cmp {a b : Expr} {op : CmpOp} {f ma mb r} (hr : OpR X (compareOp op) r) (ho : OpX X W f r) (ha : XE X W a ma) (hb : XE X W b mb) (hm : behindInMarks op b = false) : XE X W (.Compare a [op] [b] pos) (mBin f ma mb) := pe_weak (pe_cmpR hr ha hb hm) (tM_bin ho)
end
end Wg

namespace Wg
open PySem PySem.Spec PyProof.Rows L2
section
variable {K : PySem.W.Frag} {ρ ρ' ρ1 : Pl} {H H' H1 : Hp} {h : Store}

/-! ### the store's keeping -/
theorem RC.there {c : Cell} {p : Addr} (r : RC K ρ H c p) : ∃ o, H p = some o := by
  cases c with
  | lst xs => obtain ⟨vs, e, _⟩ := r; exact ⟨_, e⟩
  | dct xs => obtain ⟨vs, e, _⟩ := r; exact ⟨_, e⟩
theorem RC.kp (a : Kp ρ H ρ' H') {c : Cell} {p : Addr} (e : H' p = H p) (r : RC K ρ H c p) : RC K ρ' H' c p := by
  cases c with
  | lst xs => obtain ⟨vs, q, rs⟩ := r; exact ⟨vs, by rw [e]; exact q, RVs.kp a _ _ rs⟩
  | dct xs => obtain ⟨vs, q, rs⟩ := r; exact ⟨vs, by rw [e]; exact q, RVd.kp a _ _ rs⟩
theorem RC.ext (a : Ext ρ H ρ' H') {c : Cell} {p : Addr} (e : H' p = H p) (r : RC K ρ H c p) : RC K ρ' H' c p := r.kp a.kp e
theorem Rep.cell (p : Rep K ρ h H) {a : Addr} (m : a ∈ ρ.c) : ∃ o, H a = some o := by
  obtain ⟨i, hi, e⟩ := List.mem_iff_getElem.mp m
  have hl : i < h.length := by rw [p.len]; exact hi
  exact (p.at_ i h[i] a (by simp [hl]) (by simp [hi, e])).there
theorem Rep.there (p : Rep K ρ h H) {a : Addr} (m : ρ.has a) : ∃ o, H a = some o := m.elim p.cell (p.hid a)
theorem Rep.fresh (p : Rep K ρ h H) {a : Addr} (e : H a = none) : ¬ ρ.has a := fun m => by
  obtain ⟨o, q⟩ := p.there m
  rw [e] at q; cases q
theorem Rep.keep (p : Rep K ρ h H) (a : Ext ρ H ρ H') (k : ∀ b, ρ.has b → H' b = H b) : Rep K ρ h H' :=
  ⟨p.len, p.nd, fun i c q e1 e2 => (p.at_ i c q e1 e2).ext a (k q (.inl (List.mem_of_getElem? e2))), fun q hq => by rw [k q (.inr hq)]; exact p.hid q hq⟩
theorem Ext.upd_new {a : Addr} (e : H a = none) (o : HO) : Ext ρ H ρ (upd H a o) := ⟨⟨[], by simp, by simp⟩, rfl, fun b u _ q => by rw [upd_ne (ne_of_none q e)]; exact q⟩
theorem Ext.upd_in {a : Addr} (e : a ∈ ρ.c) (o : HO) : Ext ρ H ρ (upd H a o) := ⟨⟨[], by simp, by simp⟩, rfl, fun b u hb q => by rw [upd_ne (fun z => hb (by rw [z]; exact e))]; exact q⟩
/-- a new object outside the store -/
theorem Rep.new (p : Rep K ρ h H) {a : Addr} (e : H a = none) (o : HO) : Ext ρ H ρ (upd H a o) ∧ Rep K ρ h (upd H a o) :=
  ⟨Ext.upd_new e o, p.keep (Ext.upd_new e o) fun b hb => upd_ne (fun z => p.fresh e (by rw [← z]; exact hb))⟩
/-- the places with one more -/
abbrev Pl.add (ρ : Pl) (a : Addr) : Pl := ⟨ρ.c ++ [a], ρ.hid⟩
theorem Ext.upd_add (p : Rep K ρ h H) {a : Addr} (e : H a = none) (o : HO) : Ext ρ H (ρ.add a) (upd H a o) :=
  ⟨⟨[a], rfl, fun b hb => by rw [List.mem_singleton.mp hb]; exact ⟨p.fresh e, e⟩⟩, rfl, fun b u _ q => by rw [upd_ne (ne_of_none q e)]; exact q⟩
/-- a new cell -/
theorem Rep.grow (p : Rep K ρ h H) {a : Addr} (e : H a = none) {o : HO} {c : Cell} (r : RC K (ρ.add a) (upd H a o) c a) : Rep K (ρ.add a) (h ++ [c]) (upd H a o) := by
  have na := p.fresh e
  have x := Ext.upd_add p e o
  refine ⟨by simp [p.len], List.nodup_append.mpr ⟨p.nd, by simp, fun b hb c hc z => ?_⟩, fun i c' q e1 e2 => ?_, fun q hq => ?_⟩
  · rw [List.mem_singleton.mp hc] at z; exact na (.inl (by rw [← z]; exact hb))
  · by_cases hi : i < ρ.c.length
    · rw [List.getElem?_append_left (by rw [p.len]; exact hi)] at e1
      rw [List.getElem?_append_left hi] at e2
      exact (p.at_ i c' q e1 e2).ext x (upd_ne fun z => na (.inl (by rw [← z]; exact List.mem_of_getElem? e2)))
    · have hl := p.len
      rw [List.getElem?_append_right (by omega)] at e1 e2
      have : i = ρ.c.length := by
        by_cases z : i - ρ.c.length = 0
        · omega
        · obtain ⟨n, hn⟩ := Nat.exists_eq_succ_of_ne_zero z
          rw [hn] at e2; simp at e2
      subst this
      simp [hl] at e1
      simp at e2
      rw [← e1, ← e2]; exact r
  · obtain ⟨u, z⟩ := p.hid q hq
    exact ⟨u, by rw [upd_ne (ne_of_none z e)]; exact z⟩
/-- a cell written -/
theorem Rep.put (p : Rep K ρ h H) {i : Nat} {a : Addr} (e : ρ.c[i]? = some a) {o : HO} {c : Cell} (r : RC K ρ (upd H a o) c a) : Rep K ρ (h.set i c) (upd H a o) := by
  have ma := List.mem_of_getElem? e
  have x : Ext ρ H ρ (upd H a o) := Ext.upd_in ma o
  refine ⟨by simp [p.len], p.nd, fun j c' q e1 e2 => ?_, fun q hq => ?_⟩
  · by_cases hj : j = i
    · subst hj
      rw [e] at e2; cases e2
      have : j < h.length := by rw [p.len]; exact (List.getElem?_eq_some_iff.mp e).1
      rw [List.getElem?_set_self this] at e1
      cases e1; exact r
    · rw [List.getElem?_set_ne (Ne.symm hj)] at e1
      exact (p.at_ j c' q e1 e2).ext x (upd_ne fun z => by
        subst z
        obtain ⟨h1, q1⟩ := List.getElem?_eq_some_iff.mp e2
        obtain ⟨h2, q2⟩ := List.getElem?_eq_some_iff.mp e
        exact hj ((List.getElem_inj p.nd).mp (q1.trans q2.symm)))
  · by_cases hz : q = a
    · exact ⟨o, by rw [hz, upd_same]⟩
    · rw [upd_ne hz]; exact p.hid q hq

/-- the items of a list -/
def lstOf (h : Store) : PV → Option (List PV)
  | .lst xs => some xs
  | .ref a => match h[a]? with
    | some (.lst xs) => some xs
    | _ => none
  | _ => none
theorem lstOf_at (p : Rep K ρ h H) {x : PV} {v : V} {xs : List PV} (r : RV K ρ H x v) (e : lstOf h x = some xs) : ∃ a vs, v = .ref a ∧ H a = some (.lst vs) ∧ RVs K ρ H xs vs := by
  cases x with
  | lst ys =>
    obtain ⟨a, vs, e1, t, rs⟩ := r
    cases e
    exact ⟨a, vs, e1, t.2, rs⟩
  | ref i =>
    obtain ⟨a, e1, e2⟩ := r
    simp only [lstOf] at e
    cases q : h[i]? with
    | none => rw [q] at e; cases e
    | some c =>
      cases c with
      | lst ys =>
        rw [q] at e
        cases e
        obtain ⟨vs, q1, rs⟩ := p.at_ i _ a q e1
        exact ⟨a, vs, e2, q1, rs⟩
      | dct ys => rw [q] at e; cases e
  | _ => cases e
/-- .. that is read -/
def lstRd (h : Store) : PV → Option (List PV)
  | .scr xs => some xs
  | x => lstOf h x
theorem lstRd_at (p : Rep K ρ h H) {x : PV} {v : V} {xs : List PV} (r : RV K ρ H x v) (e : lstRd h x = some xs) : ∃ a vs, v = .ref a ∧ SqL K H a vs ∧ RVs K ρ H xs vs := by
  cases x with
  | scr ys =>
    obtain ⟨a, vs, e1, t, rs⟩ := r
    cases e
    exact ⟨a, vs, e1, t.sq, rs⟩
  | _ =>
    obtain ⟨a, vs, e1, t, rs⟩ := lstOf_at p r e
    exact ⟨a, vs, e1, SqL.of t, rs⟩

/-! ### operators -/
variable {X : Cx} {W : WX}
def rAddA (K : PySem.W.Frag) : R2 := fun x y H Q => (∃ i j, x = .int i ∧ y = .int j ∧ Q (.int (i + j)) H) ∨ (∃ i j, x = .str i ∧ y = .str j ∧ i.length + j.length ≤ sizeLine ∧ Q (.str (i ++ j)) H) ∨ rCatA K x y H Q ∨ rCat x y H Q
theorem op_addA : OpR X (binaryOp .Add) (rAddA X.K) := op_add.or (op_add_str.or (op_catA.or op_cat))
def fAdd (x y : PV) (h : Store) : R PV :=
  match x, y with
  | .int i, .int j => .ok (.int (i + j)) h
  | .str x, .str y => if x.length + y.length ≤ sizeLine then .ok (.str (x ++ y)) h else .no
  | .tup xs, .tup ys => if xs.length + ys.length ≤ sizeLine then .ok (.tup (xs ++ ys)) h else .no
  | x, y => match lstOf h x, lstOf h y with
    | some xs, some ys => if xs.length + ys.length ≤ sizeLine then .ok (.lst (xs ++ ys)) h else .no
    | _, _ => .no
theorem tup_at {xs : List PV} {v : V} (r : RV K ρ H (.tup xs) v) : ∃ a vs, v = .ref a ∧ SqT K H a vs ∧ RVs K ρ H xs vs := by
  obtain ⟨a, vs, e, t, rs⟩ := r
  exact ⟨a, vs, e, t.sq, rs⟩
/-- a new tuple, a new list -/
theorem new_tup (p : Rep K ρ h H) {a : Addr} (e : H a = none) {xs : List PV} {vs : List V} (r : RVs K ρ H xs vs) :
    Ext ρ H ρ (upd H a (.tup vs)) ∧ Rep K ρ h (upd H a (.tup vs)) ∧ RV K ρ (upd H a (.tup vs)) (.tup xs) (.ref a) := by
  obtain ⟨x, q⟩ := p.new e (.tup vs)
  exact ⟨x, q, a, vs, rfl, .inl ⟨p.fresh e, .inl upd_same⟩, RVs.ext x _ _ r⟩
theorem new_lst (p : Rep K ρ h H) {a : Addr} (e : H a = none) {xs : List PV} {vs : List V} (r : RVs K ρ H xs vs) :
    Ext ρ H ρ (upd H a (.lst vs)) ∧ Rep K ρ h (upd H a (.lst vs)) ∧ RV K ρ (upd H a (.lst vs)) (.lst xs) (.ref a) := by
  obtain ⟨x, q⟩ := p.new e (.lst vs)
  exact ⟨x, q, a, vs, rfl, ⟨p.fresh e, upd_same⟩, RVs.ext x _ _ r⟩
theorem out_if {α β : Type} {rel : Pl → Hp → α → β → Prop} {WW : Value → Option Addr → Hp → Prop} {c : Prop} [Decidable c] {r : R α} {Q : β → Hp → Prop} (o : Out K ρ H rel WW (if c then r else .no) Q) : c ∧ Out K ρ H rel WW r Q := by
  by_cases hc : c
  · rw [if_pos hc] at o; exact ⟨hc, o⟩
  · rw [if_neg hc] at o; exact o.elim
theorem str_app (x y : List Nat) : strV (x ++ y) = V.str ((⟨x.toArray⟩ : Str) ++ ⟨y.toArray⟩) := by
  have e : ((⟨x.toArray⟩ : Str) ++ ⟨y.toArray⟩) = ⟨x.toArray ++ y.toArray⟩ := rfl
  rw [e, List.append_toArray]
theorem ox_add : OpX X W fAdd (rAddA X.K) := by
  intro ρ h σ H x y v w Q p rx ry o
  unfold fAdd at o
  split at o
  next i j =>
    cases rx; cases ry
    exact .inl ⟨_, _, rfl, rfl, o.ok p rfl⟩
  next i j =>
    cases rx; cases ry
    obtain ⟨c, o⟩ := out_if o
    exact .inr (.inl ⟨_, _, rfl, rfl, by simpa [Str.length] using c, o.ok p (str_app i j).symm⟩)
  next xs ys =>
    obtain ⟨a, vs, e1, t1, r1⟩ := tup_at rx
    obtain ⟨b, ws, e2, t2, r2⟩ := tup_at ry
    obtain ⟨c, o⟩ := out_if o
    subst e1; subst e2
    refine .inr (.inr (.inl ⟨a, b, vs, ws, rfl, rfl, t1, t2, by rw [← r1.len, ← r2.len]; exact c, fun z => ?_, fun _ z => ?_, fun _ _ q hq => ?_⟩))
    · subst z
      have : xs = [] := List.length_eq_zero_iff.mp r1.len
      subst this
      exact o.ok p (by simpa using ry)
    · subst z
      have : ys = [] := List.length_eq_zero_iff.mp r2.len
      subst this
      exact o.ok p (by simpa using rx)
    · obtain ⟨x, p', r'⟩ := new_tup p hq (r1.app r2)
      exact o ρ _ _ x p' r'
  next =>
    split at o
    next xs ys e1 e2 =>
      obtain ⟨c, o⟩ := out_if o
      obtain ⟨a, vs, e1, t1, r1⟩ := lstOf_at p rx e1
      obtain ⟨b, ws, e2, t2, r2⟩ := lstOf_at p ry e2
      exact .inr (.inr (.inr ⟨a, b, vs, ws, e1, e2, t1, t2, by rw [← r1.len, ← r2.len]; exact c, fun q hq =>
        let ⟨x, p', r'⟩ := new_lst p hq (r1.app r2); o ρ _ _ x p' r'⟩))
    next => exact o.elim

/-- ints alone -/
def fInt (c : Int → Int → Bool) (g : Int → Int → Int) (x y : PV) (h : Store) : R PV :=
  match x, y with
  | .int i, .int j => if c i j = true then .ok (.int (g i j)) h else .no
  | _, _ => .no
theorem ox_int {C : Int → Int → Prop} {c : Int → Int → Bool} {g : Int → Int → Int} (hc : ∀ i j, c i j = true → C i j) : OpX X W (fInt c g) (rI C fun i j => .int (g i j)) := by
  intro ρ h σ H x y v w Q p rx ry o
  unfold fInt at o
  split at o
  next i j =>
    cases rx; cases ry
    obtain ⟨k, o⟩ := out_if o
    exact ⟨i, j, rfl, rfl, hc i j k, o.ok p rfl⟩
  next => exact o.elim
theorem ox_int0 {g : Int → Int → Int} : OpX X W (fInt (fun _ _ => true) g) (rI0 fun i j => .int (g i j)) := by
  intro ρ h σ H x y v w Q p rx ry o
  unfold fInt at o
  split at o
  next i j =>
    cases rx; cases ry
    obtain ⟨k, o⟩ := out_if o
    exact ⟨i, j, rfl, rfl, o.ok p rfl⟩
  next => exact o.elim
abbrev fSub := fInt (fun _ _ => true) fun i j => i - j
abbrev fMul := fInt (fun i j => (decide (-(2 ^ 64) < i) && decide (i < 2 ^ 64)) || (decide (-(2 ^ 64) < j) && decide (j < 2 ^ 64)) || decide (i.natAbs.log2 + j.natAbs.log2 < 1000000)) fun i j => i * j
abbrev fDiv := fInt (fun _ j => decide (0 < j) && decide (j < 2 ^ 8000)) fun i j => i / j
abbrev fMod := fInt (fun _ j => decide (0 < j)) fun i j => i % j
abbrev fPow := fInt (fun i j => decide (0 ≤ j) && decide (j ≤ 1000000) && decide (i.natAbs < 2 ^ 64)) fun i j => i ^ j.toNat
def rMulA : R2 := fun x y H Q => rI CMul (fun i j => .int (i * j)) x y H Q ∨ rI CMulW (fun i j => .int (i * j)) x y H Q
theorem op_mulA : OpR X (binaryOp .Mult) rMulA := op_mul.or op_mulW
theorem ox_sub : OpX X W fSub (rI0 fun i j => .int (i - j)) := ox_int0
theorem ox_mul : OpX X W fMul rMulA := by
  intro ρ h σ H x y v w Q p rx ry o
  unfold fMul fInt at o
  split at o
  next i j =>
    cases rx; cases ry
    obtain ⟨k, o⟩ := out_if o
    simp only [Bool.or_eq_true, Bool.and_eq_true, decide_eq_true_eq] at k
    rcases k with k | k
    · exact .inl ⟨i, j, rfl, rfl, k, o.ok p rfl⟩
    · exact .inr ⟨i, j, rfl, rfl, k, o.ok p rfl⟩
  next => exact o.elim
theorem ox_div : OpX X W fDiv (rI CDivW fun i j => .int (i / j)) := ox_int fun i j k => by
  simp only [Bool.and_eq_true, decide_eq_true_eq] at k
  have h2 : j.natAbs < 2 ^ 8000 := by omega
  refine ⟨k.1, ?_⟩
  by_cases z : j.natAbs = 0
  · rw [z]; decide
  · exact Nat.lt_trans ((Nat.log2_lt z).mpr h2) (by decide)
theorem ox_mod : OpX X W fMod (rI (fun _ j => 0 < j) fun i j => .int (i % j)) := ox_int fun i j k => by simpa using k
theorem ox_pow : OpX X W fPow (rI CPow fun i j => .int (i ^ j.toNat)) := ox_int fun i j k => by
  simp only [Bool.and_eq_true, decide_eq_true_eq] at k
  exact ⟨k.1.1, k.1.2, k.2⟩
end
end Wg

namespace Wg
open PySem PySem.Spec PyProof.Rows L2
section
variable {K : PySem.W.Frag} {ρ ρ' ρ1 : Pl} {H H' H1 : Hp} {h : Store}

/-! ### == -/
mutual
def toD : PV → Option PyData
  | .non => some .none
  | .bl b => some (.bool b)
  | .int i => some (.int i)
  | .str x => some (.str ⟨x.toArray⟩)
  | .tup xs => (toDs xs).map .tuple
  | .lst xs => (toDs xs).map .list
  | .scr xs => (toDs xs).map .list
  | _ => none
def toDs : List PV → Option (List PyData)
  | [] => some []
  | x :: xs => (toD x).bind fun d => (toDs xs).map (d :: ·)
end
/-- a cell's list as a value -/
def seen (h : Store) : PV → PV
  | .ref a => match h[a]? with
    | some (.lst xs) => .lst xs
    | _ => .ref a
  | x => x
mutual
theorem toD_dp : ∀ (x : PV) (v : V) (d : PyData), RV K ρ H x v → toD x = some d → Dp K H v d
  | .non, _, _, r, e => by cases e; rw [show _ = V.non from r]; exact .non
  | .bl b, _, _, r, e => by cases e; rw [show _ = V.bl b from r]; exact .bl b
  | .int i, _, _, r, e => by cases e; rw [show _ = V.int i from r]; exact .int i
  | .str x, _, _, r, e => by cases e; rw [show _ = strV x from r]; exact .str _
  | .tup xs, _, _, ⟨p, vs, e1, t, r⟩, e => by
    unfold toD at e
    cases q : toDs xs with
    | none => rw [q] at e; cases e
    | some ds => rw [q] at e; cases e; rw [e1]; exact .tup t.sq (toDs_dp xs vs ds r q)
  | .lst xs, _, _, ⟨p, vs, e1, t, r⟩, e => by
    unfold toD at e
    cases q : toDs xs with
    | none => rw [q] at e; cases e
    | some ds => rw [q] at e; cases e; rw [e1]; exact .lst (SqL.of t.2) (toDs_dp xs vs ds r q)
  | .scr xs, _, _, ⟨p, vs, e1, t, r⟩, e => by
    unfold toD at e
    cases q : toDs xs with
    | none => rw [q] at e; cases e
    | some ds => rw [q] at e; cases e; rw [e1]; exact .lst t.sq (toDs_dp xs vs ds r q)
  | .ty _, _, _, _, e => by cases e
  | .adr _, _, _, _, e => by cases e
  | .ref _, _, _, _, e => by cases e
  | .dct _, _, _, _, e => by cases e
theorem toDs_dp : ∀ (xs : List PV) (vs : List V) (ds : List PyData), RVs K ρ H xs vs → toDs xs = some ds → DpAll K H vs ds
  | [], _, _, r, e => by cases e; rw [show _ = [] from r]; exact .nil
  | x :: xs, _, _, ⟨v, rr, e1, h1, h2⟩, e => by
    unfold toDs at e
    cases q1 : toD x with
    | none => rw [q1] at e; cases e
    | some d =>
      cases q2 : toDs xs with
      | none => rw [q1, q2] at e; cases e
      | some ds => rw [q1, q2] at e; cases e; rw [e1]; exact .cons (toD_dp x v d h1 q1) (toDs_dp xs rr ds h2 q2)
end
theorem seen_dp (p : Rep K ρ h H) {x : PV} {v : V} {d : PyData} (r : RV K ρ H x v) (e : toD (seen h x) = some d) : Dp K H v d := by
  cases x with
  | ref i =>
    obtain ⟨a, e1, e2⟩ := r
    cases q : h[i]? with
    | none => simp [seen, q, toD] at e
    | some c =>
      cases c with
      | lst ys =>
        simp only [seen, q] at e
        obtain ⟨vs, q1, rs⟩ := p.at_ i _ a q e1
        simp only [toD] at e
        cases q2 : toDs ys with
        | none => rw [q2] at e; cases e
        | some ds => rw [q2] at e; cases e; rw [e2]; exact .lst (SqL.of q1) (toDs_dp ys vs ds rs q2)
      | dct ys => simp [seen, q, toD] at e
  | _ => exact toD_dp _ v d r e
/-- scalars -/
def eqS : PV → PV → Option Bool
  | .non, .non => some true
  | .non, .int _ => some false | .int _, .non => some false
  | .non, .bl _ => some false | .bl _, .non => some false
  | .non, .str _ => some false | .str _, .non => some false
  | .int i, .int j => some (decide (i = j))
  | .bl a, .bl b => some (a == b)
  | .str x, .str y => some (decide (x = y))
  | .int _, .str _ => some false | .str _, .int _ => some false
  | .bl _, .str _ => some false | .str _, .bl _ => some false
  | _, _ => none
def shD (d : PyData) : Bool := SeqAt.shaped d
def fEqB (x y : PV) (h : Store) : Option Bool :=
  match eqS x y with
  | some b => some b
  | none => match toD (seen h x), toD (seen h y) with
    | some d, some e => if (shD d && shD e) = true then some (PyData.eqv d e) else none
    | _, _ => none
/-- a dict and a tuple -/
def eqDT : PV → PV → Bool
  | .dct _, .tup _ => true
  | _, _ => false
def fEq (x y : PV) (h : Store) : R PV := match fEqB x y h with
  | some b => .ok (.bl b) h
  | none => if eqDT x y = true then .ok (.bl false) h else .no
def fNe (x y : PV) (h : Store) : R PV := match fEqB x y h with
  | some b => .ok (.bl (!b)) h
  | none => .no
theorem eqS_scal {x y : PV} {v w : V} {b : Bool} (rx : RV K ρ H x v) (ry : RV K ρ H y w) (e : eqS x y = some b) : scal v w = true ∧ decide (v = w) = b := by
  cases x <;> cases y <;> simp only [eqS] at e <;> first | (cases e; done) | skip
  all_goals (rw [show v = _ from rx, show w = _ from ry]; cases e; simp [scal, strV])
  all_goals first
    | (rename_i a b; cases a <;> cases b <;> rfl)
    | skip
variable {X : Cx} {W : WX}
def rEqA (K : PySem.W.Frag) : R2 := fun x y H Q => rEq x y H Q ∨ rEqD K x y H Q ∨ rEqDT K x y H Q
def rNeA (K : PySem.W.Frag) : R2 := fun x y H Q => rNe x y H Q ∨ rNeD K x y H Q
theorem op_eqA (hu : X.A.units + 64 < cLine) : OpR X (compareOp .Eq) (rEqA X.K) := op_eq.or ((op_eqD hu).or (op_eqDT hu))
theorem op_neA (hu : X.A.units + 64 < cLine) : OpR X (compareOp .NotEq) (rNeA X.K) := op_ne.or (op_neD hu)
theorem fEqB_at (p : Rep K ρ h H) {x y : PV} {v w : V} {b : Bool} (rx : RV K ρ H x v) (ry : RV K ρ H y w) (e : fEqB x y h = some b) :
    (scal v w = true ∧ decide (v = w) = b) ∨ ∃ d e, Dp K H v d ∧ Dp K H w e ∧ SeqAt.shaped d = true ∧ SeqAt.shaped e = true ∧ PyData.eqv d e = b := by
  unfold fEqB at e
  split at e
  next b' q => cases e; exact .inl (eqS_scal rx ry q)
  next =>
    split at e
    next d d' q1 q2 =>
      by_cases c : (shD d && shD d') = true
      · rw [if_pos c] at e
        cases e
        rw [Bool.and_eq_true] at c
        exact .inr ⟨d, d', seen_dp p rx q1, seen_dp p ry q2, c.1, c.2, rfl⟩
      · rw [if_neg c] at e; cases e
    next => cases e
theorem ox_eq : OpX X W fEq (rEqA X.K) := by
  intro ρ h σ H x y v w Q p rx ry o
  unfold fEq at o
  split at o
  next b q =>
    rcases fEqB_at p rx ry q with ⟨a, c⟩ | ⟨d, e, a1, a2, a3, a4, c⟩
    · exact .inl ⟨a, by rw [c]; exact o.ok p rfl⟩
    · exact .inr (.inl ⟨d, e, a1, a2, a3, a4, by rw [c]; exact o.ok p rfl⟩)
  next =>
    obtain ⟨c, o⟩ := out_if o
    cases x <;> first | (cases c; done) | skip
    cases y <;> first | (cases c; done) | skip
    obtain ⟨a, vs, e1, t, _⟩ := rx
    obtain ⟨b, ws, e2, t2, _⟩ := tup_at ry
    exact .inr (.inr ⟨a, b, vs, ws, e1, e2, t.2, t2, o.ok p rfl⟩)
theorem ox_ne : OpX X W fNe (rNeA X.K) := by
  intro ρ h σ H x y v w Q p rx ry o
  unfold fNe at o
  split at o
  next b q =>
    rcases fEqB_at p rx ry q with ⟨a, c⟩ | ⟨d, e, a1, a2, a3, a4, c⟩
    · exact .inl ⟨a, by rw [c]; exact o.ok p rfl⟩
    · exact .inr ⟨d, e, a1, a2, a3, a4, by rw [c]; exact o.ok p rfl⟩
  next => exact o.elim

/-! ### < <= > >= -/
def fOrd (g : Int → Int → Bool) (k : List Nat → List Nat → Bool) (x y : PV) (h : Store) : R PV :=
  match x, y with
  | .int i, .int j => .ok (.bl (g i j)) h
  | .str i, .str j => .ok (.bl (k i j)) h
  | _, _ => .no
def rOrd (g : Int → Int → Bool) (k : List Nat → List Nat → Bool) : R2 := fun x y H Q => (∃ i j, x = .int i ∧ y = .int j ∧ Q (.bl (g i j)) H) ∨ (∃ i j, x = .str i ∧ y = .str j ∧ Q (.bl (k i.cps.toList j.cps.toList)) H)
theorem ox_ord {g k} : OpX X W (fOrd g k) (rOrd g k) := by
  intro ρ h σ H x y v w Q p rx ry o
  unfold fOrd at o
  split at o
  next i j => cases rx; cases ry; exact .inl ⟨i, j, rfl, rfl, o.ok p rfl⟩
  next i j => cases rx; cases ry; exact .inr ⟨_, _, rfl, rfl, o.ok p rfl⟩
  next => exact o.elim
abbrev fLt := fOrd (fun i j => decide (i < j)) (fun i j => decide (i < j))
abbrev fLe := fOrd (fun i j => decide (i ≤ j)) (fun i j => !decide (j < i))
abbrev fGt := fOrd (fun i j => decide (j < i)) (fun i j => decide (j < i))
abbrev fGe := fOrd (fun i j => decide (j ≤ i)) (fun i j => !decide (i < j))
theorem op_ltA : OpR X (compareOp .Lt) (rOrd (fun i j => decide (i < j)) (fun i j => decide (i < j))) := op_lt.or op_lt_str
theorem op_leA : OpR X (compareOp .LtE) (rOrd (fun i j => decide (i ≤ j)) (fun i j => !decide (j < i))) := op_le.or op_le_str
theorem op_gtA : OpR X (compareOp .Gt) (rOrd (fun i j => decide (j < i)) (fun i j => decide (j < i))) := op_gt.or op_gt_str
theorem op_geA : OpR X (compareOp .GtE) (rOrd (fun i j => decide (j ≤ i)) (fun i j => !decide (i < j))) := op_ge.or op_ge_str
end
end Wg

namespace Wg
open PySem PySem.Spec PyProof.Rows L2
section
variable {X : Cx} {W : WX} {a b c e : Expr} {ma mb mc m : M PV} {pos : Pos}

/-! ### tests -/
def mB (m : M PV) : M Bool := fun l h => (m l h).bind fun x h1 => match x with
  | .bl b => .ok b h1
  | _ => .no
theorem tB_of : ∀ σ H Q, tT X.K W (mB m) σ H Q → tM X.K W m σ H fun x H' => ∃ k, x = .bl k ∧ Q k H' := by
  intro σ H Q ⟨ρ, h, l, p, rl, o⟩
  refine ⟨ρ, h, l, p, rl, Out.mono (Out.bind o) ?_⟩
  intro v H1 ⟨x, h1, ρ1, e1, p1, r1, o1⟩
  cases x with
  | bl b => exact ⟨b, r1, o1.ok p1 rfl⟩
  | _ => exact o1.elim
theorem xt_val (h : XE X W e m) (he : ∀ whole, isTrue e X.env whole = (do let v ← whole; standAt e.pos; holding [v] (truthy v)) := by intro _; rfl) : XT X W e (mB m) := pt_weak (pt_val h he) tB_of
theorem xt_cmp {op : CmpOp} {f r} (hr : OpR X (compareOp op) r) (ho : OpX X W f r) (ha : XE X W a ma) (hb : XE X W b mb) (hm : behindInMarks op b = false) : XT X W (.Compare a [op] [b] pos) (mB (mBin f ma mb)) :=
  pt_weak (pt_cmpR hr ha hb hm) fun σ H Q t => tM_bin ho _ _ _ (tB_of _ _ _ t)
def mAndT (a b : M Bool) : M Bool := fun l h => (a l h).bind fun c h1 => if c = true then b l h1 else .ok false h1
def mOrT (a b : M Bool) : M Bool := fun l h => (a l h).bind fun c h1 => if c = true then .ok true h1 else b l h1
def mNotT (a : M Bool) : M Bool := fun l h => (a l h).bind fun c h1 => .ok (!c) h1
abbrev XW (X : Cx) (W : WX) (e : Expr) (m : M Bool) : Prop := PW X e (tT X.K W m)
theorem pw_weak {X e t t'} (h : PW X e t) (w : ∀ σ H Q, t' σ H Q → t σ H Q) : PW X e t' := ⟨fun wh pins s σ H Q I q => h.run wh pins s σ H Q I (w _ _ _ q)⟩
variable {ta tb : M Bool} {rest : List Expr}
theorem xw_and1 (ha : XT X W a ta) : XW X W (.BoolOp .And [a] pos) ta := pw_and1 ha
theorem xw_or1 (ha : XT X W a ta) : XW X W (.BoolOp .Or [a] pos) ta := pw_or1 ha
theorem xw_and (ha : XT X W a ta) (hb : XW X W (.BoolOp .And (b :: rest) pos) tb) : XW X W (.BoolOp .And (a :: b :: rest) pos) (mAndT ta tb) :=
  pw_weak (pw_and ha hb) fun σ H Q ⟨ρ, h, l, p, rl, o⟩ => ⟨ρ, h, l, p, rl, Out.mono (Out.bind o) fun v H1 ⟨x, h1, ρ1, e1, p1, r1, o1⟩ => by
    cases r1
    cases v with
    | true => exact ⟨ρ1, h1, l, p1, rl.ext e1, o1⟩
    | false => exact o1.ok p1 rfl⟩
theorem xw_or (ha : XT X W a ta) (hb : XW X W (.BoolOp .Or (b :: rest) pos) tb) : XW X W (.BoolOp .Or (a :: b :: rest) pos) (mOrT ta tb) :=
  pw_weak (pw_or ha hb) fun σ H Q ⟨ρ, h, l, p, rl, o⟩ => ⟨ρ, h, l, p, rl, Out.mono (Out.bind o) fun v H1 ⟨x, h1, ρ1, e1, p1, r1, o1⟩ => by
    cases r1
    cases v with
    | true => exact o1.ok p1 rfl
    | false => exact ⟨ρ1, h1, l, p1, rl.ext e1, o1⟩⟩
theorem xt_not (ha : XT X W a ta) : XT X W (.UnaryOp .Not a pos) (mNotT ta) :=
  pt_weak (pt_not ha) fun σ H Q ⟨ρ, h, l, p, rl, o⟩ => ⟨ρ, h, l, p, rl, Out.mono (Out.bind o) fun v H1 ⟨x, h1, ρ1, e1, p1, r1, o1⟩ => by
    cases r1
    exact o1.ok p1 rfl⟩
/-! .. as values -/
def mAnd (a b : M PV) : M PV := fun l h => (a l h).bind fun x h1 => match x with
  | .bl c => if c = true then b l h1 else .ok (.bl false) h1
  | _ => .no
def mOr (a b : M PV) : M PV := fun l h => (a l h).bind fun x h1 => match x with
  | .bl c => if c = true then .ok (.bl true) h1 else b l h1
  | _ => .no
def mNot (a : M PV) : M PV := fun l h => (a l h).bind fun x h1 => match x with
  | .bl c => .ok (.bl (!c)) h1
  | _ => .no
theorem xe_one {op} (h : XE X W a ma) : XE X W (.BoolOp op [a] pos) ma := pe_one h
theorem xe_and (ha : XE X W a ma) (hb : XE X W (.BoolOp .And (b :: rest) pos) mb) : XE X W (.BoolOp .And (a :: b :: rest) pos) (mAnd ma mb) :=
  pe_weak (pe_and ha hb) fun σ H Q ⟨ρ, h, l, p, rl, o⟩ => ⟨ρ, h, l, p, rl, Out.mono (Out.bind o) fun v H1 ⟨x, h1, ρ1, e1, p1, r1, o1⟩ => by
    cases x with
    | bl k =>
      refine ⟨k, r1, ?_⟩
      cases k with
      | true => exact ⟨ρ1, h1, l, p1, rl.ext e1, o1⟩
      | false => exact o1.ok p1 rfl
    | _ => exact o1.elim⟩
theorem xe_or (ha : XE X W a ma) (hb : XE X W (.BoolOp .Or (b :: rest) pos) mb) : XE X W (.BoolOp .Or (a :: b :: rest) pos) (mOr ma mb) :=
  pe_weak (pe_or ha hb) fun σ H Q ⟨ρ, h, l, p, rl, o⟩ => ⟨ρ, h, l, p, rl, Out.mono (Out.bind o) fun v H1 ⟨x, h1, ρ1, e1, p1, r1, o1⟩ => by
    cases x with
    | bl k =>
      refine ⟨k, r1, ?_⟩
      cases k with
      | true => exact o1.ok p1 rfl
      | false => exact ⟨ρ1, h1, l, p1, rl.ext e1, o1⟩
    | _ => exact o1.elim⟩
theorem xe_not (ha : XE X W a ma) : XE X W (.UnaryOp .Not a pos) (mNot ma) :=
  pe_weak (pe_not ha) fun σ H Q ⟨ρ, h, l, p, rl, o⟩ => ⟨ρ, h, l, p, rl, Out.mono (Out.bind o) fun v H1 ⟨x, h1, ρ1, e1, p1, r1, o1⟩ => by
    cases x with
    | bl k => exact ⟨k, r1, o1.ok p1 rfl⟩
    | _ => exact o1.elim⟩
def mIfE (c : M Bool) (a b : M PV) : M PV := fun l h => (c l h).bind fun k h1 => if k = true then a l h1 else b l h1
theorem xe_ifE (hc : XT X W c ta) (ha : XE X W a ma) (hb : XE X W b mb) : XE X W (.IfExp c a b pos) (mIfE ta ma mb) :=
  pe_weak (pe_ifExp hc ha hb) fun σ H Q ⟨ρ, h, l, p, rl, o⟩ => ⟨ρ, h, l, p, rl, Out.mono (Out.bind o) fun v H1 ⟨x, h1, ρ1, e1, p1, r1, o1⟩ => by
    cases r1
    cases v with
    | true => exact ⟨ρ1, h1, l, p1, rl.ext e1, o1⟩
    | false => exact ⟨ρ1, h1, l, p1, rl.ext e1, o1⟩⟩
/-! chains -/
def mChain (f g : PV → PV → Store → R PV) (a b c : M PV) : M PV := fun l h => (a l h).bind fun x h1 => (b l h1).bind fun y h2 => (f x y h2).bind fun k h3 => match k with
  | .bl k => if k = true then (c l h3).bind fun z h4 => g y z h4 else .ok (.bl false) h3
  | _ => .no
theorem tM_chain {f g : PV → PV → Store → R PV} {r r' : R2} (hf : OpX X W f r) (hg : OpX X W g r') : ∀ σ H Q, tM X.K W (mChain f g ma mb mc) σ H Q → tChain r r' (tM X.K W ma) (tM X.K W mb) (tM X.K W mc) σ H Q := by
  intro σ H Q ⟨ρ, h, l, p, rl, o⟩
  refine ⟨ρ, h, l, p, rl, Out.mono (Out.bind o) ?_⟩
  intro v H1 ⟨x, h1, ρ1, e1, p1, r1, o1⟩
  refine ⟨ρ1, h1, l, p1, rl.ext e1, Out.mono (Out.bind o1) ?_⟩
  intro w H2 ⟨y, h2, ρ2, e2, p2, r2, o2⟩
  refine hf ρ2 h2 σ H2 x y v w _ p2 (r1.ext e2) r2 (Out.mono (Out.bind o2) ?_)
  intro u H3 ⟨k, h3, ρ3, e3, p3, r3, o3⟩
  cases k with
  | bl k =>
    refine ⟨k, r3, ?_⟩
    cases k with
    | false => exact o3.ok p3 rfl
    | true =>
      refine ⟨ρ3, h3, l, p3, ((rl.ext e1).ext e2).ext e3, Out.mono (Out.bind o3) ?_⟩
      intro t H4 ⟨z, h4, ρ4, e4, p4, r4, o4⟩
      exact hg ρ4 h4 σ H4 y z w t Q p4 ((r2.ext e3).ext e4) r4 o4
  | _ => exact o3.elim
theorem xe_chain {op op' : CmpOp} {f g : PV → PV → Store → R PV} {r r' : R2} (hr : OpR X (compareOp op) r) (hf : OpX X W f r) (hr' : OpR X (compareOp op') r') (hg : OpX X W g r') (ha : XE X W a ma) (hb : XE X W b mb) (hc : XE X W c mc)
    (hm : lastMarks [op, op'] [b, c] = false := by with_unfolding_all rfl) : XE X W (.Compare a [op, op'] [b, c] pos) (mChain f g ma mb mc) := pe_weak (pe_chain hr hr' ha hb hc hm) (tM_chain hf hg)
theorem xt_chain {op op' : CmpOp} {f g : PV → PV → Store → R PV} {r r' : R2} (hr : OpR X (compareOp op) r) (hf : OpX X W f r) (hr' : OpR X (compareOp op') r') (hg : OpX X W g r') (ha : XE X W a ma) (hb : XE X W b mb) (hc : XE X W c mc)
    (hm : lastMarks [op, op'] [b, c] = false := by with_unfolding_all rfl) : XT X W (.Compare a [op, op'] [b, c] pos) (mB (mChain f g ma mb mc)) := pt_weak (pt_chain hr hr' ha hb hc hm) fun σ H Q t => tM_chain hf hg _ _ _ (tB_of _ _ _ t)

/-! ### argument lists, displays -/
def mNil : M (List PV) := fun _ h => .ok [] h
def mCons (a : M PV) (r : M (List PV)) : M (List PV) := fun l h => (a l h).bind fun x h1 => (r l h1).bind fun xs h2 => .ok (x :: xs) h2
variable {es : List Expr} {ms : M (List PV)}
theorem xa_nil : XA X W [] mNil := pa_weak pa_nil fun σ H Q ⟨ρ, h, l, p, rl, o⟩ => o.ok p rfl
theorem xa_cons (ha : XE X W a ma) (hr : XA X W es ms) (hs : starEach (a :: es) X.env = (false, eval a X.env) :: starEach es X.env := by rfl) : XA X W (a :: es) (mCons ma ms) :=
  pa_weak (pa_cons ha hr hs) fun σ H Q ⟨ρ, h, l, p, rl, o⟩ => ⟨ρ, h, l, p, rl, Out.mono (Out.bind o) fun v H1 ⟨x, h1, ρ1, e1, p1, r1, o1⟩ =>
    ⟨ρ1, h1, l, p1, rl.ext e1, Out.mono (Out.bind o1) fun vs H2 ⟨xs, h2, ρ2, e2, p2, r2, o2⟩ => o2.ok p2 ⟨v, vs, rfl, r1.ext e2, r2⟩⟩⟩
def mTup (m : M (List PV)) : M PV := fun l h => (m l h).bind fun xs h1 => if xs.length ≤ sizeLine then .ok (.tup xs) h1 else .no
/-- a list that stays as it is made; one that may be changed -/
def mLst (m : M (List PV)) : M PV := fun l h => (m l h).bind fun xs h1 => if xs.length ≤ sizeLine then .ok (.lst xs) h1 else .no
def mLstN (m : M (List PV)) : M PV := fun l h => (m l h).bind fun xs h1 => if xs.length ≤ sizeLine then .ok (.ref h1.length) (h1 ++ [.lst xs]) else .no
theorem xe_tup {k} (h : XA X W es ms) : XE X W (.Tuple es k pos) (mTup ms) :=
  pe_weak (pe_tup h) fun σ H Q ⟨ρ, h, l, p, rl, o⟩ => ⟨ρ, h, l, p, rl, Out.mono (Out.bind o) fun vs H1 ⟨xs, h1, ρ1, e1, p1, r1, o1⟩ => by
    obtain ⟨c, o1⟩ := out_if o1
    refine ⟨by rw [← r1.len]; exact c, fun q hq => ?_⟩
    obtain ⟨x, p', r'⟩ := new_tup p1 hq r1
    exact o1 ρ1 _ _ x p' r'⟩
theorem xe_lst (h : XA X W es ms) : XE X W (.List es pos) (mLst ms) :=
  pe_weak (pe_lst h) fun σ H Q ⟨ρ, h, l, p, rl, o⟩ => ⟨ρ, h, l, p, rl, Out.mono (Out.bind o) fun vs H1 ⟨xs, h1, ρ1, e1, p1, r1, o1⟩ => by
    obtain ⟨c, o1⟩ := out_if o1
    refine ⟨by rw [← r1.len]; exact c, fun q hq => ?_⟩
    obtain ⟨x, p', r'⟩ := new_lst p1 hq r1
    exact o1 ρ1 _ _ x p' r'⟩
theorem new_cell {K : PySem.W.Frag} {ρ : Pl} {H : Hp} {h : Store} (p : Rep K ρ h H) {q : Addr} (hq : H q = none) {xs : List PV} {vs : List V} (r : RVs K ρ H xs vs) :
    Ext ρ H (ρ.add q) (upd H q (.lst vs)) ∧ Rep K (ρ.add q) (h ++ [.lst xs]) (upd H q (.lst vs)) ∧ RV K (ρ.add q) (upd H q (.lst vs)) (.ref h.length) (.ref q) := by
  have x := Ext.upd_add p hq (.lst vs)
  refine ⟨x, p.grow (c := .lst xs) hq ⟨vs, upd_same, RVs.ext x _ _ r⟩, q, ?_, rfl⟩
  rw [p.len]
  show (ρ.c ++ [q])[ρ.c.length]? = some q
  rw [List.getElem?_append_right (Nat.le_refl _)]
  simp
theorem xe_lstN (h : XA X W es ms) : XE X W (.List es pos) (mLstN ms) :=
  pe_weak (pe_lst h) fun σ H Q ⟨ρ, h, l, p, rl, o⟩ => ⟨ρ, h, l, p, rl, Out.mono (Out.bind o) fun vs H1 ⟨xs, h1, ρ1, e1, p1, r1, o1⟩ => by
    obtain ⟨c, o1⟩ := out_if o1
    refine ⟨by rw [← r1.len]; exact c, fun q hq => ?_⟩
    obtain ⟨x, p', r'⟩ := new_cell p1 hq r1
    exact o1 _ _ _ x p' r'⟩

/-! ### built-in functions by values -/
/-- r reads what f tells -/
def CallX (X : Cx) (W : WX) (f : List PV → Store → R PV) (r : List V → Hp → VK → Prop) : Prop :=
  ∀ (ρ : Pl) (h : Store) (σ : L2.St) (H : Hp) (xs : List PV) (vs : List V) (Q : VK), Rep X.K ρ h H → RVs X.K ρ H xs vs →
    Out X.K ρ H (RV X.K) (fun c d H' => W c d σ H') (f xs h) Q → r vs H Q
def mCall (f : List PV → Store → R PV) (m : M (List PV)) : M PV := fun l h => (m l h).bind f
theorem tM_call {f r} (ho : CallX X W f r) : ∀ σ H Q, tM X.K W (mCall f ms) σ H Q → tCB r (tA X.K W ms) σ H Q := fun σ H Q ⟨ρ, h, l, p, rl, o⟩ =>
  ⟨ρ, h, l, p, rl, Out.mono (Out.bind o) fun vs H1 ⟨xs, h1, ρ1, e1, p1, r1, o1⟩ => ho ρ1 h1 σ H1 xs vs Q p1 r1 o1⟩
theorem xe_callB {x : Str} {p0 : Pos} {id : String} {f r} (hr : CallR X (.builtin id) r) (ho : CallX X W f r) (hm : X.mg x = none) (hv : bootBuiltins x = some (.builtin id)) (ha : XA X W (e :: es) ms) (hg : Gl X x := by rfl) (hn : x ≠ "__name__" := by decide) (hdb : (x == ("__debug__" : Str)) = false := by decide)
    (he : starEach (e :: es) X.env = (false, eval e X.env) :: starEach es X.env := by rfl) (hpl : (backTo pos (starEach es X.env)).any (·.1) = false := by rfl) : XE X W (.Call (.Name x p0) (e :: es) [] pos) (mCall f ms) :=
  pe_weak (pe_callB hr hg hm hv ha hn hdb he hpl) (tM_call ho)
theorem xe_callTy {x : Str} {p0 : Pos} {T : String} {f r} (hr : CallR X (.type T) r) (ho : CallX X W f r) (hm : X.mg x = none) (hv : bootBuiltins x = some (.type T)) (ha : XA X W (e :: es) ms) (hg : Gl X x := by rfl) (hn : x ≠ "__name__" := by decide) (hdb : (x == ("__debug__" : Str)) = false := by decide)
    (he : starEach (e :: es) X.env = (false, eval e X.env) :: starEach es X.env := by rfl) (hpl : (backTo pos (starEach es X.env)).any (·.1) = false := by rfl) : XE X W (.Call (.Name x p0) (e :: es) [] pos) (mCall f ms) :=
  pe_weak (pe_callTy hr hg hm hv ha hn hdb he hpl) (tM_call ho)
end
end Wg

namespace Wg
open PySem PySem.Spec PyProof.Rows L2
section
variable {K : PySem.W.Frag} {ρ ρ' ρ1 : Pl} {H H' H1 : Hp} {h : Store} {X : Cx} {W : WX}

theorem rvs1 {x : PV} {vs : List V} (r : RVs K ρ H [x] vs) : ∃ v, vs = [v] ∧ RV K ρ H x v := by
  obtain ⟨v, r, e, h1, h2⟩ := r
  rw [show r = [] from h2] at e
  exact ⟨v, e, h1⟩
theorem rvs2 {x y : PV} {vs : List V} (r : RVs K ρ H [x, y] vs) : ∃ v w, vs = [v, w] ∧ RV K ρ H x v ∧ RV K ρ H y w := by
  obtain ⟨v, r, e, h1, h2⟩ := r
  obtain ⟨w, e2, h3⟩ := rvs1 h2
  exact ⟨v, w, by rw [e, e2], h1, h3⟩

/-! ### isinstance with a built-in class -/
def tyN (h : Store) : PV → Option String
  | .non => some "NoneType" | .bl _ => some "bool" | .int _ => some "int" | .str _ => some "str"
  | .tup _ => some "tuple" | .lst _ => some "list" | .scr _ => some "list" | .dct _ => some "dict"
  | .ref a => match h[a]? with
    | some (.lst _) => some "list"
    | some (.dct _) => some "dict"
    | none => none
  | _ => none
def tysA : List String := ["NoneType", "bool", "int", "str", "tuple", "list", "dict"]
def tysB : List String := ["bool", "int", "str", "tuple", "list", "dict"]
def isTy (t n : String) : Bool := t == n || (t == "bool" && n == "int")
theorem kitAll : (tysA.all fun t => tysB.all fun n => kitB t n == some (isTy t n)) = true := by decide +kernel
theorem kit_at {t n : String} (ht : t ∈ tysA) (hn : n ∈ tysB) : kitB t n = some (isTy t n) := by
  have z := List.all_eq_true.mp (List.all_eq_true.mp kitAll t ht) n hn
  exact beq_iff_eq.mp z
def fIsi (xs : List PV) (h : Store) : R PV := match xs with
  | [x, .ty n] => match tyN h x with
    | some t => if (tysB.contains n) = true then .ok (.bl (isTy t n)) h else .no
    | none => .no
  | _ => .no
theorem tyN_at (p : Rep K ρ h H) {x : PV} {v : V} {t : String} (r : RV K ρ H x v) (e : tyN h x = some t) : TyX K H v (.type t) ∧ t ∈ tysA := by
  cases x with
  | non => cases e; rw [show v = _ from r]; exact ⟨.base .non, by decide⟩
  | bl b => cases e; rw [show v = _ from r]; exact ⟨.base (.bl b), by decide⟩
  | int i => cases e; rw [show v = _ from r]; exact ⟨.base (.int i), by decide⟩
  | str i => cases e; rw [show v = _ from r]; exact ⟨.base (.str _), by decide⟩
  | tup xs =>
    cases e
    obtain ⟨a, vs, e1, t, _⟩ := r
    rw [e1]
    refine ⟨?_, by decide⟩
    rcases t with ⟨_, t | ⟨o, t⟩⟩ | ⟨o, its, n, t, c, _⟩
    · exact .base (.tup t)
    · exact .fTuple t
    · exact .kTuple t c
  | lst xs =>
    cases e
    obtain ⟨a, vs, e1, t, _⟩ := r
    rw [e1]
    exact ⟨.base (.lst t.2), by decide⟩
  | scr xs =>
    cases e
    obtain ⟨a, vs, e1, t, _⟩ := r
    rw [e1]
    refine ⟨?_, by decide⟩
    rcases t with ⟨_, t | ⟨o, t⟩⟩ | ⟨o, its, n, t, c, _⟩
    · exact .base (.lst t)
    · exact .base (.frz t)
    · exact .kList t c
  | dct xs =>
    cases e
    obtain ⟨a, vs, e1, t, _⟩ := r
    rw [e1]
    exact ⟨.base (.dK t.2), by decide⟩
  | ref i =>
    obtain ⟨a, e1, e2⟩ := r
    rw [e2]
    unfold tyN at e
    cases q : h[i]? with
    | none => simp [q] at e
    | some c =>
      cases c with
      | lst ys =>
        simp only [q] at e
        cases e
        obtain ⟨vs, q1, _⟩ := p.at_ i _ a q e1
        exact ⟨.base (.lst q1), by decide⟩
      | dct ys =>
        simp only [q] at e
        cases e
        obtain ⟨vs, q1, _⟩ := p.at_ i _ a q e1
        exact ⟨.base (.dK q1), by decide⟩
  | _ => cases e
theorem cx_isi : CallX X W fIsi (rIsi X.K) := by
  intro ρ h σ H xs vs Q p r o
  unfold fIsi at o
  split at o
  next x n =>
    obtain ⟨v, w, e, r1, r2⟩ := rvs2 r
    split at o
    next t q =>
      obtain ⟨c, o⟩ := out_if o
      obtain ⟨t1, t2⟩ := tyN_at p r1 q
      refine ⟨v, w, _, _, _, e, ?_, t1, kit_ty (kit_at t2 (List.contains_iff_mem.mp c)), o.ok p rfl⟩
      rw [show w = _ from r2]; exact .ty n
    next => exact o.elim
  next => exact o.elim

/-! ### len -/
def fLen (xs : List PV) (h : Store) : R PV := match xs with
  | [.str x] => if x.length ≤ sizeLine then .ok (.int x.length) h else .no
  | [.tup ys] => .ok (.int ys.length) h
  | [x] => match lstRd h x with
    | some ys => .ok (.int ys.length) h
    | none => .no
  | _ => .no
theorem cx_len : CallX X W fLen (fun xs H Q => ∃ x n, xs = [x] ∧ LenV X.K x H n ∧ Q (.int n) H) := by
  intro ρ h σ H xs vs Q p r o
  unfold fLen at o
  split at o
  next x =>
    obtain ⟨v, e, r1⟩ := rvs1 r
    obtain ⟨c, o⟩ := out_if o
    refine ⟨v, x.length, e, ?_, o.ok p rfl⟩
    rw [show v = _ from r1]
    exact ⟨by simpa [Str.length] using c, by simp [Str.length]⟩
  next ys =>
    obtain ⟨v, e, r1⟩ := rvs1 r
    obtain ⟨a, ws, e2, t, rs⟩ := tup_at r1
    refine ⟨v, ys.length, e, ?_, o.ok p rfl⟩
    rw [e2]
    exact .inr ⟨ws, t, rs.len⟩
  next x _ _ =>
    obtain ⟨v, e, r1⟩ := rvs1 r
    split at o
    next ys q =>
      obtain ⟨a, ws, e2, t, rs⟩ := lstRd_at p r1 q
      refine ⟨v, ys.length, e, ?_, o.ok p rfl⟩
      rw [e2]
      exact .inl ⟨ws, t, rs.len⟩
    next => exact o.elim
  next => exact o.elim

/-! ### int(x), str(x), abs, max, min -/
def fIntOf (xs : List PV) (h : Store) : R PV := match xs with
  | [.int i] => .ok (.int i) h
  | [.bl b] => .ok (.int (if b = true then 1 else 0)) h
  | [.str x] => match intText? ⟨x.toArray⟩ with
    | some n => if x.length ≤ 640 then .ok (.int n) h else .no
    | none => .no
  | _ => .no
def rIntA : List V → Hp → VK → Prop := fun xs H Q => ((∃ i, xs = [.int i] ∧ Q (.int i) H) ∨ ∃ k, xs = [.bl k] ∧ Q (.int (if k then 1 else 0)) H) ∨ ∃ a n, xs = [.str a] ∧ PySem.intText? a = some n ∧ a.length ≤ 640 ∧ Q (.int n) H
theorem cr_intA : CallR X (.type "int") rIntA := call_int1.or call_int_str
theorem cx_int : CallX X W fIntOf rIntA := by
  intro ρ h σ H xs vs Q p r o
  unfold fIntOf at o
  split at o
  next i =>
    obtain ⟨v, e, r1⟩ := rvs1 r
    rw [show v = _ from r1] at e
    exact .inl (.inl ⟨i, e, o.ok p rfl⟩)
  next i =>
    obtain ⟨v, e, r1⟩ := rvs1 r
    rw [show v = _ from r1] at e
    exact .inl (.inr ⟨i, e, o.ok p rfl⟩)
  next x =>
    obtain ⟨v, e, r1⟩ := rvs1 r
    rw [show v = _ from r1] at e
    split at o
    next n q =>
      obtain ⟨c, o⟩ := out_if o
      exact .inr ⟨_, n, e, q, by simpa [Str.length] using c, o.ok p rfl⟩
    next => exact o.elim
  next => exact o.elim
/-- the figures of a number -/
def digs (i : Int) : List Nat := (toString i).toList.map Char.toNat
theorem digs_str (i : Int) : strV (digs i) = V.str (toString i : String) := by
  rw [Str.ofString_eq_toList]; rfl
def fStrOf (xs : List PV) (h : Store) : R PV := match xs with
  | [.int i] => if i.natAbs.log2 < 1920 then .ok (.str (digs i)) h else .no
  | [.str x] => .ok (.str x) h
  | _ => .no
def rStrA : List V → Hp → VK → Prop := fun xs H Q => (∃ i, xs = [.int i] ∧ i.natAbs.log2 < 1920 ∧ Q (.str (toString i : String)) H) ∨ ∃ a, xs = [.str a] ∧ Q (.str a) H
theorem cr_strA : CallR X (.type "str") rStrA := call_str_int.or SkE.call_str_str
theorem cx_str : CallX X W fStrOf rStrA := by
  intro ρ h σ H xs vs Q p r o
  unfold fStrOf at o
  split at o
  next i =>
    obtain ⟨v, e, r1⟩ := rvs1 r
    rw [show v = _ from r1] at e
    obtain ⟨c, o⟩ := out_if o
    exact .inl ⟨i, e, c, o.ok p (digs_str i).symm⟩
  next x =>
    obtain ⟨v, e, r1⟩ := rvs1 r
    rw [show v = _ from r1] at e
    exact .inr ⟨_, e, o.ok p rfl⟩
  next => exact o.elim
def fAbs (xs : List PV) (h : Store) : R PV := match xs with
  | [.int i] => .ok (.int (if i < 0 then -i else i)) h
  | _ => .no
theorem cx_abs : CallX X W fAbs (fun xs H Q => ∃ i, xs = [.int i] ∧ Q (.int (if i < 0 then -i else i)) H) := by
  intro ρ h σ H xs vs Q p r o
  unfold fAbs at o
  split at o
  next i =>
    obtain ⟨v, e, r1⟩ := rvs1 r
    rw [show v = _ from r1] at e
    exact ⟨i, e, o.ok p rfl⟩
  next => exact o.elim
def fMax2 (xs : List PV) (h : Store) : R PV := match xs with
  | [.int i, .int j] => .ok (.int (if j > i then j else i)) h
  | _ => .no
def fMin2 (xs : List PV) (h : Store) : R PV := match xs with
  | [.int i, .int j] => .ok (.int (if j < i then j else i)) h
  | _ => .no
theorem cx_max2 : CallX X W fMax2 (fun xs H Q => ∃ i j, xs = [.int i, .int j] ∧ Q (.int (if j > i then j else i)) H) := by
  intro ρ h σ H xs vs Q p r o
  unfold fMax2 at o
  split at o
  next i j =>
    obtain ⟨v, w, e, r1, r2⟩ := rvs2 r
    rw [show v = _ from r1, show w = _ from r2] at e
    exact ⟨i, j, e, o.ok p rfl⟩
  next => exact o.elim
theorem cx_min2 : CallX X W fMin2 (fun xs H Q => ∃ i j, xs = [.int i, .int j] ∧ Q (.int (if j < i then j else i)) H) := by
  intro ρ h σ H xs vs Q p r o
  unfold fMin2 at o
  split at o
  next i j =>
    obtain ⟨v, w, e, r1, r2⟩ := rvs2 r
    rw [show v = _ from r1, show w = _ from r2] at e
    exact ⟨i, j, e, o.ok p rfl⟩
  next => exact o.elim

/-! ### all, any, tuple, list -/
def bools : List PV → Option (List Bool)
  | [] => some []
  | .bl b :: r => (bools r).map (b :: ·)
  | _ :: _ => none
theorem bools_at : ∀ {xs : List PV} {vs : List V} {bs : List Bool}, RVs K ρ H xs vs → bools xs = some bs → vs = bs.map V.bl
  | [], _, _, r, e => by cases e; exact r
  | x :: xs, _, bs, ⟨v, r, e, h1, h2⟩, q => by
    cases x with
    | bl b =>
      simp only [bools] at q
      cases q2 : bools xs with
      | none => rw [q2] at q; cases q
      | some cs =>
        rw [q2] at q
        cases q
        rw [e, show v = _ from h1, bools_at h2 q2]
        rfl
    | _ => cases q
def fAll (xs : List PV) (h : Store) : R PV := match xs with
  | [x] => match lstRd h x with
    | some ys => match bools ys with
      | some bs => .ok (.bl (bs.all id)) h
      | none => .no
    | none => .no
  | _ => .no
def fAny (xs : List PV) (h : Store) : R PV := match xs with
  | [x] => match lstRd h x with
    | some ys => match bools ys with
      | some bs => .ok (.bl (bs.any id)) h
      | none => .no
    | none => .no
  | _ => .no
theorem cx_all : CallX X W fAll (rAll X.K) := by
  intro ρ h σ H xs vs Q p r o
  unfold fAll at o
  split at o
  next x =>
    obtain ⟨v, e, r1⟩ := rvs1 r
    split at o
    next ys q =>
      obtain ⟨a, ws, e2, t, rs⟩ := lstRd_at p r1 q
      split at o
      next bs q2 =>
        refine ⟨a, bs, by rw [e, e2], ?_, o.ok p rfl⟩
        rw [← bools_at rs q2]; exact t
      next => exact o.elim
    next => exact o.elim
  next => exact o.elim
theorem cx_any : CallX X W fAny (rAny X.K) := by
  intro ρ h σ H xs vs Q p r o
  unfold fAny at o
  split at o
  next x =>
    obtain ⟨v, e, r1⟩ := rvs1 r
    split at o
    next ys q =>
      obtain ⟨a, ws, e2, t, rs⟩ := lstRd_at p r1 q
      split at o
      next bs q2 =>
        refine ⟨a, bs, by rw [e, e2], ?_, o.ok p rfl⟩
        rw [← bools_at rs q2]; exact t
      next => exact o.elim
    next => exact o.elim
  next => exact o.elim
def fTuple (xs : List PV) (h : Store) : R PV := match xs with
  | [.tup ys] => .ok (.tup ys) h
  | [x] => match lstRd h x with
    | some ys => .ok (.tup ys) h
    | none => .no
  | _ => .no
def rTupleA (K : PySem.W.Frag) : List V → Hp → VK → Prop := fun xs H Q => ∃ p ys, xs = [.ref p] ∧ ((SqL K H p ys ∧ ∀ l, H l = none → Q (.ref l) (upd H l (.tup ys))) ∨ (SqT K H p ys ∧ Q (.ref p) H))
theorem cx_tuple : CallX X W fTuple (rTupleA X.K) := by
  intro ρ h σ H xs vs Q p r o
  unfold fTuple at o
  split at o
  next ys =>
    obtain ⟨v, e, r1⟩ := rvs1 r
    obtain ⟨a, ws, e2, t, rs⟩ := tup_at r1
    rw [e2] at e r1
    exact ⟨a, ws, e, .inr ⟨t, o.ok p r1⟩⟩
  next x _ =>
    obtain ⟨v, e, r1⟩ := rvs1 r
    split at o
    next ys q =>
      obtain ⟨a, ws, e2, t, rs⟩ := lstRd_at p r1 q
      refine ⟨a, ws, by rw [e, e2], .inl ⟨t, fun l hl => ?_⟩⟩
      obtain ⟨x', p', r'⟩ := new_tup p hl rs
      exact o ρ _ _ x' p' r'
    next => exact o.elim
  next => exact o.elim
/-- the items of a list or a tuple -/
def seqRd (h : Store) : PV → Option (List PV)
  | .tup xs => some xs
  | x => lstRd h x
theorem seqRd_at (p : Rep K ρ h H) {x : PV} {v : V} {xs : List PV} (r : RV K ρ H x v) (e : seqRd h x = some xs) : ∃ a vs, v = .ref a ∧ (SqL K H a vs ∨ SqT K H a vs) ∧ RVs K ρ H xs vs := by
  cases x with
  | tup ys =>
    cases e
    obtain ⟨a, ws, e2, t, rs⟩ := tup_at r
    exact ⟨a, ws, e2, .inr t, rs⟩
  | _ =>
    obtain ⟨a, ws, e2, t, rs⟩ := lstRd_at p r e
    exact ⟨a, ws, e2, .inl t, rs⟩
def fList (xs : List PV) (h : Store) : R PV := match xs with
  | [x] => match seqRd h x with
    | some ys => .ok (.lst ys) h
    | none => .no
  | _ => .no
def fListN (xs : List PV) (h : Store) : R PV := match xs with
  | [x] => match seqRd h x with
    | some ys => .ok (.ref h.length) (h ++ [.lst ys])
    | none => .no
  | _ => .no
def rListA (K : PySem.W.Frag) : List V → Hp → VK → Prop := fun xs H Q => ∃ p ys, xs = [.ref p] ∧ (SqL K H p ys ∨ SqT K H p ys) ∧ ∀ l, H l = none → Q (.ref l) (upd H l (.lst ys))
theorem cx_list : CallX X W fList (rListA X.K) := by
  intro ρ h σ H xs vs Q p r o
  unfold fList at o
  split at o
  next x =>
    obtain ⟨v, e, r1⟩ := rvs1 r
    split at o
    next ys q =>
      obtain ⟨a, ws, e2, t, rs⟩ := seqRd_at p r1 q
      refine ⟨a, ws, by rw [e, e2], t, fun l hl => ?_⟩
      obtain ⟨x', p', r'⟩ := new_lst p hl rs
      exact o ρ _ _ x' p' r'
    next => exact o.elim
  next => exact o.elim
theorem cx_listN : CallX X W fListN (rListA X.K) := by
  intro ρ h σ H xs vs Q p r o
  unfold fListN at o
  split at o
  next x =>
    obtain ⟨v, e, r1⟩ := rvs1 r
    split at o
    next ys q =>
      obtain ⟨a, ws, e2, t, rs⟩ := seqRd_at p r1 q
      refine ⟨a, ws, by rw [e, e2], t, fun l hl => ?_⟩
      obtain ⟨x', p', r'⟩ := new_cell p hl rs
      exact o _ _ _ x' p' r'
    next => exact o.elim
  next => exact o.elim

/-! ### items by place -/
theorem atI_rvs {xs : List PV} {vs : List V} {i : Int} {x : PV} (r : RVs K ρ H xs vs) (e : atI xs i = some x) : ∃ v, atI vs i = some v ∧ RV K ρ H x v := by
  unfold atI at e ⊢
  rw [← r.len]
  cases q : ixN xs.length i with
  | none => rw [q] at e; cases e
  | some j =>
    rw [q] at e
    exact r.get e
def fIx (x y : PV) (h : Store) : R PV := match x, y with
  | .str z, .int i => match atI z i with
    | some c => if z.length ≤ sizeLine then .ok (.str [c]) h else .no
    | none => .no
  | x, .int i => match seqRd h x with
    | some ys => match atI ys i with
      | some z => .ok z h
      | none => .no
    | none => .no
  | _, _ => .no
theorem ox_ix : OpX X W fIx (rIx X.K) := by
  intro ρ h σ H x y v w Q p rx ry o
  unfold fIx at o
  split at o
  next z i =>
    cases rx; cases ry
    split at o
    next c q =>
      obtain ⟨k, o⟩ := out_if o
      exact .inr (.inr ⟨_, i, c, rfl, rfl, by simpa [Str.length] using k, q, o.ok p rfl⟩)
    next => exact o.elim
  next i _ =>
    cases ry
    split at o
    next ys q =>
      split at o
      next z q2 =>
        obtain ⟨a, ws, e2, t, rs⟩ := seqRd_at p rx q
        obtain ⟨u, q3, ru⟩ := atI_rvs rs q2
        rcases t with t | t
        · exact .inl ⟨a, ws, i, u, e2, rfl, t, q3, o.ok p ru⟩
        · exact .inr (.inl ⟨a, ws, i, u, e2, rfl, t, q3, o.ok p ru⟩)
      next => exact o.elim
    next => exact o.elim
  next => exact o.elim
theorem xe_ix {a b : Expr} {ma mb : M PV} {pos : Pos} (ha : XE X W a ma) (hb : XE X W b mb) (hs : PlainIx b := by exact fun _ _ => rfl) : XE X W (.Subscript a b pos) (mBin fIx ma mb) := pe_weak (pe_ix ix_seq ha hb hs) (tM_bin ox_ix)
end
end Wg

namespace Wg
open PySem PySem.Spec PyProof.Rows L2
section
variable {K : PySem.W.Frag} {ρ ρ' ρ1 : Pl} {H H' H1 : Hp} {h : Store} {X : Cx} {W : WX}

/-! ### methods of built-in classes, by values -/
/-- the receiver is of that class -/
def tyM (h : Store) (T : String) (x : PV) : Bool := match x with
  | .str _ => T == "str"
  | .lst _ => T == "list"
  | .dct _ => T == "dict"
  | .ref a => match h[a]? with
    | some (.lst _) => T == "list"
    | some (.dct _) => T == "dict"
    | _ => false
  | _ => false
theorem tyM_at (p : Rep K ρ h H) {x : PV} {v : V} {T : String} (r : RV K ρ H x v) (e : tyM h T x = true) : tyV K T v H := by
  cases x with
  | str z =>
    rw [show v = _ from r]
    exact beq_iff_eq.mp e
  | lst xs =>
    obtain ⟨a, vs, e1, t, _⟩ := r
    rw [e1]
    exact .inl ⟨beq_iff_eq.mp e, vs, SqL.of t.2⟩
  | dct xs =>
    obtain ⟨a, vs, e1, t, _⟩ := r
    rw [e1]
    exact .inr (.inr (.inl ⟨beq_iff_eq.mp e, .inl ⟨vs, t.2⟩⟩))
  | ref i =>
    obtain ⟨a, e1, e2⟩ := r
    rw [e2]
    unfold tyM at e
    cases q : h[i]? with
    | none => simp [q] at e
    | some c =>
      cases c with
      | lst ys =>
        obtain ⟨vs, q1, _⟩ := p.at_ i _ a q e1
        exact .inl ⟨by simpa [q] using e, vs, SqL.of q1⟩
      | dct ys =>
        obtain ⟨vs, q1, _⟩ := p.at_ i _ a q e1
        exact .inr (.inr (.inl ⟨by simpa [q] using e, .inl ⟨vs, q1⟩⟩))
  | _ => cases e
def MtX (X : Cx) (W : WX) (f : PV → List PV → Store → R PV) (r : V → List V → Hp → VK → Prop) : Prop :=
  ∀ (ρ : Pl) (h : Store) (σ : L2.St) (H : Hp) (x : PV) (xs : List PV) (v : V) (vs : List V) (Q : VK), Rep X.K ρ h H → RV X.K ρ H x v → RVs X.K ρ H xs vs →
    Out X.K ρ H (RV X.K) (fun c d H' => W c d σ H') (f x xs h) Q → r v vs H Q
def mMeth (T : String) (f : PV → List PV → Store → R PV) (o : M PV) (a : M (List PV)) : M PV := fun l h => (o l h).bind fun x h1 => if tyM h1 T x = true then (a l h1).bind fun xs h2 => f x xs h2 else .no
variable {o e : Expr} {es : List Expr} {mo : M PV} {ms : M (List PV)} {name : Str} {apos cpos : Pos} {T id : String} {r : V → List V → Hp → VK → Prop} {f : PV → List PV → Store → R PV}
theorem xe_bm (pa : PlainAttrs T) (slot : Slot T name id) (hty : typeOf (.builtin id) = pure (.type "method_descriptor")) (hm : MtR X id r) (hx : MtX X W f r) (ho : XE X W o mo) (ha : XA X W (e :: es) ms)
    (hbase : attributeBase o name X.env (eval o X.env) = eval o X.env := by rfl)
    (hfew : ((backTo cpos (starEach (e :: es) X.env)).all (fun x => !x.1) && (backToKw cpos (keywordEach [] X.env)).all (fun x => x.1.isSome)
      && decide ((e :: es).length + ([] : List Keyword).length + (if ([] : List Keyword).isEmpty then 0 else 1) < 30)) = true := by rfl)
    (hline : (apos.endLine == cpos.line) = true := by rfl) (hs : starEach (e :: es) X.env = (false, eval e X.env) :: starEach es X.env := by rfl) (hplain : (backTo cpos (starEach es X.env)).any (·.1) = false := by rfl) :
    XE X W (.Call (.Attribute o name apos) (e :: es) [] cpos) (mMeth T f mo ms) :=
  pe_weak (pe_bm pa slot hty hm ho ha hbase hfew hline hs hplain) fun σ H Q ⟨ρ, h, l, p, rl, oo⟩ => ⟨ρ, h, l, p, rl, Out.mono (Out.bind oo) fun v H1 ⟨x, h1, ρ1, e1, p1, r1, o1⟩ => by
    obtain ⟨c, o1⟩ := out_if o1
    exact ⟨tyM_at p1 r1 c, ρ1, h1, l, p1, rl.ext e1, Out.mono (Out.bind o1) fun vs H2 ⟨xs, h2, ρ2, e2, p2, r2, o2⟩ => hx ρ2 h2 σ H2 x xs v vs Q p2 (r1.ext e2) r2 o2⟩⟩
theorem xe_bm0 (pa : PlainAttrs T) (slot : Slot T name id) (hty : typeOf (.builtin id) = pure (.type "method_descriptor")) (hm : MtR X id r) (hx : MtX X W f r) (ho : XE X W o mo)
    (hbase : attributeBase o name X.env (eval o X.env) = eval o X.env := by rfl) (hline : (apos.endLine == cpos.line) = true := by rfl) : XE X W (.Call (.Attribute o name apos) [] [] cpos) (mMeth T f mo mNil) :=
  pe_weak (pe_bm0 pa slot hty hm ho hbase hline) fun σ H Q ⟨ρ, h, l, p, rl, oo⟩ => ⟨ρ, h, l, p, rl, Out.mono (Out.bind oo) fun v H1 ⟨x, h1, ρ1, e1, p1, r1, o1⟩ => by
    obtain ⟨c, o1⟩ := out_if o1
    exact ⟨tyM_at p1 r1 c, hx ρ1 h1 σ H1 x [] v [] Q p1 r1 rfl o1⟩⟩

/-- the cell of a list -/
def cellL (h : Store) : PV → Option (Nat × List PV)
  | .ref i => match h[i]? with
    | some (.lst xs) => some (i, xs)
    | _ => none
  | _ => none
theorem cellL_at (p : Rep K ρ h H) {x : PV} {v : V} {i : Nat} {xs : List PV} (r : RV K ρ H x v) (e : cellL h x = some (i, xs)) : ∃ a vs, ρ.c[i]? = some a ∧ v = .ref a ∧ H a = some (.lst vs) ∧ RVs K ρ H xs vs := by
  cases x with
  | ref j =>
    obtain ⟨a, e1, e2⟩ := r
    simp only [cellL] at e
    cases q : h[j]? with
    | none => rw [q] at e; cases e
    | some c =>
      cases c with
      | lst ys =>
        rw [q] at e
        cases e
        obtain ⟨vs, q1, rs⟩ := p.at_ _ _ a q e1
        exact ⟨a, vs, e1, e2, q1, rs⟩
      | dct ys => rw [q] at e; cases e
  | _ => cases e
theorem put_lst (p : Rep K ρ h H) {i : Nat} {a : Addr} (e : ρ.c[i]? = some a) {xs : List PV} {vs : List V} (r : RVs K ρ H xs vs) : Ext ρ H ρ (upd H a (.lst vs)) ∧ Rep K ρ (h.set i (.lst xs)) (upd H a (.lst vs)) := by
  have x : Ext ρ H ρ (upd H a (.lst vs)) := Ext.upd_in (List.mem_of_getElem? e) _
  exact ⟨x, p.put e ⟨vs, upd_same, RVs.ext x _ _ r⟩⟩
def fAppend (x : PV) (ys : List PV) (h : Store) : R PV := match cellL h x, ys with
  | some (i, xs), [y] => if xs.length < sizeLine then .ok .non (h.set i (.lst (xs ++ [y]))) else .no
  | _, _ => .no
theorem mx_append : MtX X W fAppend rAppend := by
  intro ρ h σ H x xs v vs Q p rx rs o
  unfold fAppend at o
  split at o
  next i zs y q =>
    obtain ⟨c, o⟩ := out_if o
    obtain ⟨a, ws, e1, e2, e3, r1⟩ := cellL_at p rx q
    obtain ⟨u, e4, r2⟩ := rvs1 rs
    refine ⟨a, ws, u, e2, e4, e3, by rw [← r1.len]; exact c, ?_⟩
    obtain ⟨x', p'⟩ := put_lst p e1 (r1.app (RVs.one r2))
    exact o ρ _ _ x' p' rfl
  next => exact o.elim
def fPop (x : PV) (ys : List PV) (h : Store) : R PV := match cellL h x, ys with
  | some (i, xs), [] => match xs[xs.length - 1]? with
    | some y => .ok y (h.set i (.lst xs.dropLast))
    | none => .no
  | _, _ => .no
theorem RVs.dropLast : ∀ {xs : List PV} {vs : List V}, RVs K ρ H xs vs → RVs K ρ H xs.dropLast vs.dropLast
  | [], _, h => by rw [show _ = [] from h]; rfl
  | [x], _, h => by obtain ⟨v, e, _⟩ := rvs1 h; rw [e]; rfl
  | x :: y :: xs, _, ⟨v, r, e, h1, h2⟩ => by
    have ih := RVs.dropLast h2
    obtain ⟨w, r', e', _, _⟩ := h2
    subst e'; subst e
    exact ⟨v, _, rfl, h1, ih⟩
theorem mx_pop : MtX X W fPop rPop := by
  intro ρ h σ H x xs v vs Q p rx rs o
  unfold fPop at o
  split at o
  next i zs q =>
    split at o
    next y q2 =>
      obtain ⟨a, ws, e1, e2, e3, r1⟩ := cellL_at p rx q
      obtain ⟨u, e4, r2⟩ := r1.get q2
      rw [r1.len] at e4
      refine ⟨a, ws, u, e2, rs, e3, e4, ?_⟩
      obtain ⟨x', p'⟩ := put_lst p e1 r1.dropLast
      exact o ρ _ _ x' p' (r2.ext x')
    next => exact o.elim
  next => exact o.elim
theorem RVs.eraseIdx : ∀ {xs : List PV} {vs : List V} {k : Nat}, RVs K ρ H xs vs → RVs K ρ H (xs.eraseIdx k) (vs.eraseIdx k)
  | [], _, _, h => by rw [show _ = [] from h]; rfl
  | x :: xs, _, 0, ⟨v, r, e, h1, h2⟩ => by subst e; exact h2
  | x :: xs, _, k + 1, ⟨v, r, e, h1, h2⟩ => by subst e; exact ⟨v, _, rfl, h1, RVs.eraseIdx h2⟩
def fPopAt (x : PV) (ys : List PV) (h : Store) : R PV := match cellL h x, ys with
  | some (n, xs), [.int i] => match ixN xs.length i with
    | some k => match xs[k]? with
      | some y => if -(2 ^ 63) ≤ i ∧ i < 2 ^ 63 then .ok y (h.set n (.lst (xs.eraseIdx k))) else .no
      | none => .no
    | none => .no
  | _, _ => .no
theorem mx_popAt : MtX X W fPopAt rPopAt := by
  intro ρ h σ H x xs v vs Q p rx rs o
  unfold fPopAt at o
  split at o
  next n zs i q =>
    split at o
    next k q1 =>
      split at o
      next y q2 =>
        obtain ⟨c, o⟩ := out_if o
        obtain ⟨a, ws, e1, e2, e3, r1⟩ := cellL_at p rx q
        obtain ⟨u, e4, r2⟩ := r1.get q2
        obtain ⟨w, e5, r3⟩ := rvs1 rs
        rw [show w = _ from r3] at e5
        rw [r1.len] at q1
        refine ⟨a, ws, i, k, u, e2, e5, e3, c.1, c.2, (ixN_seq q1).1, e4, ?_⟩
        obtain ⟨x', p'⟩ := put_lst p e1 (r1.eraseIdx (k := k))
        exact o ρ _ _ x' p' (r2.ext x')
      next => exact o.elim
    next => exact o.elim
  next => exact o.elim
def fExtend (x : PV) (ys : List PV) (h : Store) : R PV := match cellL h x, ys with
  | some (i, xs), [y] => match lstOf h y with
    | some zs => if xs.length + zs.length ≤ sizeLine then .ok .non (h.set i (.lst (xs ++ zs))) else .no
    | none => .no
  | _, _ => .no
theorem mx_extend : MtX X W fExtend rExtend := by
  intro ρ h σ H x xs v vs Q p rx rs o
  unfold fExtend at o
  split at o
  next i zs y q =>
    split at o
    next us q2 =>
      obtain ⟨c, o⟩ := out_if o
      obtain ⟨a, ws, e1, e2, e3, r1⟩ := cellL_at p rx q
      obtain ⟨u, e4, r2⟩ := rvs1 rs
      obtain ⟨b, ts, e5, e6, r3⟩ := lstOf_at p r2 q2
      refine ⟨a, b, ws, ts, e2, by rw [e4, e5], e3, e6, by rw [← r1.len, ← r3.len]; exact c, ?_⟩
      obtain ⟨x', p'⟩ := put_lst p e1 (r1.app r3)
      exact o ρ _ _ x' p' rfl
    next => exact o.elim
  next => exact o.elim

/-! ### sep.join -/
def strsOf : List PV → Option (List (List Nat))
  | [] => some []
  | .str x :: r => (strsOf r).map (x :: ·)
  | _ :: _ => none
theorem strsOf_at : ∀ {xs : List PV} {vs : List V} {ys : List (List Nat)}, RVs K ρ H xs vs → strsOf xs = some ys → vs = (ys.map fun x => (⟨x.toArray⟩ : Str)).map V.str
  | [], _, _, r, e => by cases e; exact r
  | x :: xs, _, bs, ⟨v, r, e, h1, h2⟩, q => by
    cases x with
    | str b =>
      simp only [strsOf] at q
      cases q2 : strsOf xs with
      | none => rw [q2] at q; cases q
      | some cs =>
        rw [q2] at q
        cases q
        rw [e, show v = _ from h1, strsOf_at h2 q2]
        rfl
    | _ => cases q
def joinN (S : List Nat) : List (List Nat) → List Nat
  | [] => []
  | [p] => p
  | p :: q :: r => p ++ (S ++ joinN S (q :: r))
theorem joinN_eq (S : List Nat) : ∀ ys : List (List Nat), Str.join ⟨S.toArray⟩ (ys.map fun x => ⟨x.toArray⟩) = ⟨(joinN S ys).toArray⟩
  | [] => rfl
  | [_] => rfl
  | p :: q :: r => by
    have ih := joinN_eq S (q :: r)
    show (⟨p.toArray⟩ : Str) ++ ⟨S.toArray⟩ ++ Str.join ⟨S.toArray⟩ ((q :: r).map fun x => ⟨x.toArray⟩) = _
    rw [ih]
    show (⟨p.toArray ++ S.toArray ++ (joinN S (q :: r)).toArray⟩ : Str) = _
    simp [joinN]
def fJoin (x : PV) (ys : List PV) (h : Store) : R PV := match x, ys with
  | .str S, [y] => match seqRd h y with
    | some zs => match strsOf zs with
      | some ss => if (ss.map (·.length)).sum + ss.length * S.length ≤ 16777216 then .ok (.str (joinN S ss)) h else .no
      | none => .no
    | none => .no
  | _, _ => .no
def rJoinA (K : PySem.W.Frag) : V → List V → Hp → VK → Prop := fun x xs H Q => ∃ a p, ∃ ys : List Str, x = .str a ∧ xs = [.ref p] ∧ (SqL K H p (ys.map V.str) ∨ SqT K H p (ys.map V.str)) ∧
    (ys.map (·.length)).sum + ys.length * a.length ≤ 16777216 ∧ Q (.str (Txt.join a ys)) H
theorem mx_join : MtX X W fJoin (rJoinA X.K) := by
  intro ρ h σ H x xs v vs Q p rx rs o
  unfold fJoin at o
  split at o
  next S y =>
    split at o
    next zs q =>
      split at o
      next ss q2 =>
        obtain ⟨c, o⟩ := out_if o
        obtain ⟨u, e4, r2⟩ := rvs1 rs
        obtain ⟨b, ts, e5, e6, r3⟩ := seqRd_at p r2 q
        have e7 := strsOf_at r3 q2
        rw [e7] at e6
        refine ⟨_, b, _, rx, by rw [e4, e5], e6, ?_, o.ok p ?_⟩
        · have e8 : ((ss.map fun x => (⟨x.toArray⟩ : Str)).map (·.length)) = ss.map (·.length) := by
            rw [List.map_map]
            exact List.map_congr_left fun x _ => by simp [Str.length]
          rw [e8]
          simpa [Str.length] using c
        · show V.str (Txt.join _ _) = V.str _
          exact congrArg V.str ((TL.join_eq _ _).trans (joinN_eq S ss))
      next => exact o.elim
    next => exact o.elim
  next => exact o.elim
/-- one sign in a text -/
def fInStr (x y : PV) (h : Store) : R PV := match x, y with
  | .str [c], .str z => .ok (.bl (decide (c ∈ z))) h
  | _, _ => .no
theorem ox_inSign : OpX X W fInStr (fun x y H Q => ∃ (c : Nat) (z : Str), x = .str ⟨#[c]⟩ ∧ y = .str z ∧ Q (.bl (decide (c ∈ z.cps.toList))) H) := by
  intro ρ h σ H x y v w Q p rx ry o
  unfold fInStr at o
  split at o
  next c z => cases rx; cases ry; exact ⟨c, _, rfl, rfl, o.ok p rfl⟩
  next => exact o.elim
end
end Wg

namespace Wg
open PySem PySem.Spec PyProof.Rows L2

/-! ### statements -/
inductive Fl where
  | nx (l : Lv) | rt (x : PV) | bk (l : Lv) | ct (l : Lv)
abbrev MS := Lv → Store → R Fl
/-- a statement's result, and what is wanted of it -/
def OutS (K : PySem.W.Frag) (W : WX) (ρ : Pl) (H : Hp) (r : R Fl) (D : Ends) : Prop :=
  match r with
  | .ok (.nx l) h => ∀ ρ' H' σ', Ext ρ H ρ' H' → Rep K ρ' h H' → RL K ρ' H' l σ' → D.nx σ' H'
  | .ok (.bk l) h => ∀ ρ' H' σ', Ext ρ H ρ' H' → Rep K ρ' h H' → RL K ρ' H' l σ' → D.bk σ' H'
  | .ok (.ct l) h => ∀ ρ' H' σ', Ext ρ H ρ' H' → Rep K ρ' h H' → RL K ρ' H' l σ' → D.ct σ' H'
  | .ok (.rt x) h => ∀ ρ' H' v, Ext ρ H ρ' H' → Rep K ρ' h H' → RV K ρ' H' x v → D.rt v H'
  | .exc e h => ∀ ρ' H' cls d σ', Ext ρ H ρ' H' → Rep K ρ' h H' → RX K ρ' H' e cls d → W cls d σ' H'
  | .no => False
def tS (K : PySem.W.Frag) (W : WX) (m : MS) : TS := fun D σ H => ∃ ρ h l, Rep K ρ h H ∧ RL K ρ H l σ ∧ OutS K W ρ H (m l h) D
abbrev XS (X : Cx) (W : WX) (st : Stmt) (m : MS) : Prop := PS X st (tS X.K W m)
abbrev XSs (X : Cx) (W : WX) (st : List Stmt) (m : MS) : Prop := PSs X st (tS X.K W m)
theorem ps_weak {X st t t'} (h : PS X st t) (w : ∀ D σ H, t' D σ H → t D σ H) : PS X st t' := ⟨fun pins s σ H D I q => h.run pins s σ H D I (w _ _ _ q)⟩
theorem pss_weak {X st t t'} (h : PSs X st t) (w : ∀ D σ H, t' D σ H → t D σ H) : PSs X st t' := ⟨fun pins s σ H D I q => h.run pins s σ H D I (w _ _ _ q)⟩
/-- on from a statement's end -/
def Fl.on (f : Fl) (h : Store) (k : Lv → Store → R Fl) : R Fl := match f with
  | .nx l => k l h
  | f => .ok f h
section
variable {K : PySem.W.Frag} {ρ ρ' ρ1 : Pl} {H H' H1 : Hp} {h : Store} {X : Cx} {W : WX} {D : Ends}
theorem OutS.ext {r : R Fl} (a : Ext ρ H ρ1 H1) (o : OutS K W ρ H r D) : OutS K W ρ1 H1 r D := by
  cases r with
  | ok x h =>
    cases x with
    | rt x => exact fun ρ' H' v b p q => o ρ' H' v (a.trans b) p q
    | _ => exact fun ρ' H' v b p q => o ρ' H' v (a.trans b) p q
  | exc e h => exact fun ρ' H' c d s b p q => o ρ' H' c d s (a.trans b) p q
  | no => exact o
/-- an expression first -/
theorem OutS.bind {α β : Type} {rel : Pl → Hp → α → β → Prop} {r : R α} {k : α → Store → R Fl} {σ : L2.St} (o : OutS K W ρ H (r.bind k) D) :
    Out K ρ H rel (fun c d H' => W c d σ H') r (fun v H1 => ∃ x h1 ρ1, Ext ρ H ρ1 H1 ∧ Rep K ρ1 h1 H1 ∧ rel ρ1 H1 x v ∧ OutS K W ρ1 H1 (k x h1) D) := by
  cases r with
  | ok x h => exact fun ρ' H' v a p q => ⟨x, h, ρ', a, p, q, OutS.ext a o⟩
  | exc e h => exact fun ρ' H' c d a p q => o ρ' H' c d σ a p q
  | no => exact o
/-- a statement first -/
theorem OutS.seq {r : R Fl} {k : Lv → Store → R Fl} {u : TS} (hu : ∀ D σ H, tS K W k D σ H → u D σ H) (o : OutS K W ρ H (r.bind fun f h => f.on h k) D) : OutS K W ρ H r { D with nx := u D } := by
  cases r with
  | ok x h =>
    cases x with
    | nx l => exact fun ρ' H' σ' a p q => hu D σ' H' ⟨ρ', h, l, p, q, OutS.ext a o⟩
    | _ => exact o
  | exc e h => exact o
  | no => exact o
def mDone : MS := fun l h => .ok (.nx l) h
def mSeq (a b : MS) : MS := fun l h => (a l h).bind fun f h1 => f.on h1 b
variable {st : Stmt} {rest : List Stmt} {ma mb : MS} {e : Expr} {m : M PV} {pos : Pos}
theorem xss_nil : XSs X W [] mDone := pss_weak pss_nil fun D σ H ⟨ρ, h, l, p, rl, o⟩ => o ρ H σ (Ext.refl _ _) p rl
theorem xss_cons (h1 : XS X W st ma) (h2 : XSs X W rest mb) : XSs X W (st :: rest) (mSeq ma mb) :=
  pss_weak (pss_cons h1 h2) fun D σ H ⟨ρ, h, l, p, rl, o⟩ => ⟨ρ, h, l, p, rl, OutS.seq (fun _ _ _ q => q) o⟩
theorem xss_one (h1 : XS X W st ma) : XSs X W [st] ma := pss_one h1
def mRet (m : M PV) : MS := fun l h => (m l h).bind fun x h1 => .ok (.rt x) h1
theorem xs_ret (he : XE X W e m) : XS X W (.Return (some e) pos) (mRet m) :=
  ps_weak (ps_ret he) fun D σ H ⟨ρ, h, l, p, rl, o⟩ => ⟨ρ, h, l, p, rl, Out.mono (OutS.bind o) fun v H1 ⟨x, h1, ρ1, e1, p1, r1, o1⟩ => o1 ρ1 H1 v (Ext.refl _ _) p1 r1⟩
def mRetN : MS := fun _ h => .ok (.rt .non) h
theorem xs_retN : XS X W (.Return none pos) mRetN := ps_weak ps_retN fun D σ H ⟨ρ, h, l, p, rl, o⟩ => o ρ H .non (Ext.refl _ _) p rfl
def mDrop (m : M PV) : MS := fun l h => (m l h).bind fun _ h1 => .ok (.nx l) h1
theorem xs_expr (he : XE X W e m) (hs : swapsWith e none pos.line X.env = pure false := by rfl) : XS X W (.Expr e pos) (mDrop m) :=
  ps_weak (ps_expr he hs) fun D σ H ⟨ρ, h, l, p, rl, o⟩ => ⟨ρ, h, l, p, rl, Out.mono (OutS.bind o) fun v H1 ⟨x, h1, ρ1, e1, p1, r1, o1⟩ => o1 ρ1 H1 σ (Ext.refl _ _) p1 (rl.ext e1)⟩
theorem xs_doc {x j pos'} : XS X W (.Expr (.Constant (.str x) j pos') pos) mDone := ps_weak ps_doc fun D σ H ⟨ρ, h, l, p, rl, o⟩ => o ρ H σ (Ext.refl _ _) p rl
theorem xs_pass : XS X W (.Pass pos) mDone := ps_weak ps_pass fun D σ H ⟨ρ, h, l, p, rl, o⟩ => o ρ H σ (Ext.refl _ _) p rl
def mBreak : MS := fun l h => .ok (.bk l) h
def mCont : MS := fun l h => .ok (.ct l) h
theorem xs_break : XS X W (.Break pos) mBreak := ps_weak ps_break fun D σ H ⟨ρ, h, l, p, rl, o⟩ => o ρ H σ (Ext.refl _ _) p rl
theorem xs_cont : XS X W (.Continue pos) mCont := ps_weak ps_continue fun D σ H ⟨ρ, h, l, p, rl, o⟩ => o ρ H σ (Ext.refl _ _) p rl
def mIf (c : M Bool) (a b : MS) : MS := fun l h => (c l h).bind fun k h1 => if k = true then a l h1 else b l h1
theorem xs_if {c : Expr} {mc : M Bool} {sa sb : List Stmt} (hc : XT X W c mc) (ha : XSs X W sa ma) (hb : XSs X W sb mb) : XS X W (.If c sa sb pos) (mIf mc ma mb) :=
  ps_weak (ps_if hc ha hb) fun D σ H ⟨ρ, h, l, p, rl, o⟩ => ⟨ρ, h, l, p, rl, Out.mono (OutS.bind o) fun v H1 ⟨x, h1, ρ1, e1, p1, r1, o1⟩ => by
    cases r1
    cases v with
    | true => exact ⟨ρ1, h1, l, p1, rl.ext e1, o1⟩
    | false => exact ⟨ρ1, h1, l, p1, rl.ext e1, o1⟩⟩

/-! ### targets -/
abbrev MG := PV → Lv → Store → R Lv
def tG (K : PySem.W.Frag) (W : WX) (g : MG) : TG := fun v σ H Q => ∃ ρ h l x, Rep K ρ h H ∧ RL K ρ H l σ ∧ RV K ρ H x v ∧ Out K ρ H (RL K) (fun c d H' => ∀ σ', W c d σ' H') (g x l h) Q
abbrev XG (X : Cx) (W : WX) (tg : Expr) (g : MG) : Prop := PG X tg (tG X.K W g)
theorem pg_weak {X tg} {t t' : TG} (h : PG X tg t) (w : ∀ v σ H Q, t' v σ H Q → t v σ H Q) : PG X tg t' := ⟨fun pins s σ H v u Q I r q => h.run pins s σ H v u Q I r (w _ _ _ _ q)⟩
def gVar (i : Nat) : MG := fun x l h => .ok (l.set i (some x)) h
theorem xg_name {i : Nat} {x : Str} (hN : X.N.Nodup) (hi : X.N[i]? = some x := by rfl) (hx : Loc X.env.scope x := by first | exact Or.inl rfl | exact Or.inr rfl) (hf : X.fn x = true ∨ X.env.scope.names.lookup x = some .local := by first | exact .inl rfl | exact .inr rfl | assumption) : XG X W (.Name x pos) (gVar i) :=
  pg_weak (pg_name hN hi hx hf) fun v σ H Q ⟨ρ, h, l, x, p, rl, r, o⟩ => o.ok p (rl.set r)
/-- name = e -/
def mSet (i : Nat) (m : M PV) : MS := fun l h => (m l h).bind fun x h1 => .ok (.nx (l.set i (some x))) h1
theorem tS_set {i : Nat} {m : M PV} : ∀ D σ H, tS K W (mSet i m) D σ H → tAsg (tM K W m) (gName i) D σ H := fun D σ H ⟨ρ, h, l, p, rl, o⟩ =>
  ⟨ρ, h, l, p, rl, Out.mono (OutS.bind o) fun v H1 ⟨x, h1, ρ1, e1, p1, r1, o1⟩ => o1 ρ1 H1 _ (Ext.refl _ _) p1 ((rl.ext e1).set r1)⟩
theorem xs_set {i : Nat} {x : Str} {pos' : Pos} (hN : X.N.Nodup) (he : XE X W e m) (hi : X.N[i]? = some x := by rfl) (hx : Loc X.env.scope x := by first | exact Or.inl rfl | exact Or.inr rfl) (hs : swapsWith e (some (.Name x pos')) pos.line X.env = pure false := by rfl)
    (hf : X.fn x = true ∨ X.env.scope.names.lookup x = some .local := by first | exact .inl rfl | exact .inr rfl | assumption) : XS X W (.Assign [.Name x pos'] e pos) (mSet i m) := ps_weak (ps_set hN hi hx he hs hf) tS_set
/-- o[i] = e -/
def SetX (X : Cx) (W : WX) (f : PV → PV → PV → Store → R Unit) (t : TSet) : Prop :=
  ∀ (ρ : Pl) (h : Store) (H : Hp) (x y z : PV) (v w u : V) (Q : Hp → Prop), Rep X.K ρ h H → RV X.K ρ H x v → RV X.K ρ H y w → RV X.K ρ H z u →
    Out X.K ρ H (fun _ _ (_ : Unit) (_ : Unit) => True) (fun c d H' => ∀ σ', W c d σ' H') (f x y z h) (fun _ => Q) → t v w u H Q
def gSubX (f : PV → PV → PV → Store → R Unit) (o i : M PV) : MG := fun z l h => (o l h).bind fun x h1 => (i l h1).bind fun y h2 => (f x y z h2).bind fun _ h3 => .ok l h3
theorem all_w {α β : Type} {rel : Pl → Hp → α → β → Prop} {r : R α} {Q : β → Hp → Prop} {σ : L2.St} (o : Out K ρ H rel (fun c d H' => ∀ σ', W c d σ' H') r Q) : Out K ρ H rel (fun c d H' => W c d σ H') r Q := by
  cases r with
  | ok x h => exact o
  | exc e h => exact fun ρ' H' c d a p q => o ρ' H' c d a p q σ
  | no => exact o
theorem xg_sub {a b : Expr} {mx my : M PV} {f : PV → PV → PV → Store → R Unit} {t : TSet} (ha : XE X W a mx) (hb : XE X W b my) (hs : PSet X t) (hx : SetX X W f t)
    (hr : ∀ v, assign (.Subscript a b pos) X.env v = (do
      let ov ← holding [v] (eval a X.env)
      let iv ← holding [v, ov] (eval b X.env)
      standAt pos
      holding [v, ov, iv] (setItem ov iv v)
      release [v, ov, iv] []) := by intro _; rfl) : XG X W (.Subscript a b pos) (gSubX f mx my) :=
  pg_weak (pg_sub ha hb hs hr) fun u σ H Q ⟨ρ, h, l, z, p, rl, r, o⟩ => ⟨ρ, h, l, p, rl, Out.mono (all_w (Out.bind o)) fun v H1 ⟨x, h1, ρ1, e1, p1, r1, o1⟩ =>
    ⟨ρ1, h1, l, p1, rl.ext e1, Out.mono (all_w (Out.bind o1)) fun w H2 ⟨y, h2, ρ2, e2, p2, r2, o2⟩ =>
      hx ρ2 h2 H2 x y z v w u _ p2 (r1.ext e2) r2 ((r.ext e1).ext e2) (Out.mono (Out.bind o2) fun _ H3 ⟨_, h3, ρ3, e3, p3, _, o3⟩ => o3.ok p3 (((rl.ext e1).ext e2).ext e3))⟩⟩
def mAsg (m : M PV) (g : MG) : MS := fun l h => (m l h).bind fun x h1 => (g x l h1).bind fun l2 h2 => .ok (.nx l2) h2
theorem tS_asg {g : MG} : ∀ D σ H, tS K W (mAsg m g) D σ H → tAsg (tM K W m) (tG K W g) D σ H := fun D σ H ⟨ρ, h, l, p, rl, o⟩ =>
  ⟨ρ, h, l, p, rl, Out.mono (OutS.bind o) fun v H1 ⟨x, h1, ρ1, e1, p1, r1, o1⟩ => ⟨ρ1, h1, l, x, p1, rl.ext e1, r1, by
    have o1 : OutS K W ρ1 H1 ((g x l h1).bind fun l2 h2 => .ok (.nx l2) h2) D := o1
    cases q : g x l h1 with
    | ok l2 h2 =>
      rw [q] at o1
      exact fun ρ' H' σ' a p r => o1 ρ' H' σ' a p r
    | exc e h =>
      rw [q] at o1
      exact fun ρ' H' c d a p q σ' => o1 ρ' H' c d σ' a p q
    | no => rw [q] at o1; exact o1⟩⟩
theorem xs_asg {tg : Expr} {g : MG} (he : XE X W e m) (hg : XG X W tg g) (hs : swapsWithSole [tg] e pos.line X.env = pure false := by rfl) (hw : swappedStores [tg] e X.env = pure none := by rfl)
    (h1 : (assignEach [tg] X.env).map (·.2) = [assign tg X.env] := by rfl) : XS X W (.Assign [tg] e pos) (mAsg m g) := ps_weak (ps_asg he hg hs hw h1) tS_asg
def fSetL (x y z : PV) (h : Store) : R Unit := match cellL h x, y with
  | some (n, xs), .int k => match ixN xs.length k with
    | some j => .ok () (h.set n (.lst (xs.set j z)))
    | none => .no
  | _, _ => .no
theorem sx_list : SetX X W fSetL rSetL := by
  intro ρ h H x y z v w u Q p rx ry rz o
  unfold fSetL at o
  split at o
  next n xs k q =>
    split at o
    next j q2 =>
      obtain ⟨a, ws, e1, e2, e3, r1⟩ := cellL_at p rx q
      rw [show w = _ from ry]
      refine ⟨a, ws, k, j, e2, rfl, e3, by rw [← r1.len]; exact q2, ?_⟩
      obtain ⟨x', p'⟩ := put_lst p e1 (r1.set (i := j) rz)
      exact o ρ _ () x' p' trivial
    next => exact o.elim
  next => exact o.elim
end
end Wg

namespace Wg
open PySem PySem.Spec PyProof.Rows L2
section
variable {K : PySem.W.Frag} {ρ ρ' ρ1 ρ0 : Pl} {H H' H1 H0 : Hp} {h : Store} {X : Cx} {W : WX} {D : Ends}

/-! ### what is walked -/
/-- from (ρ0, H0) on, wherever values stay values, the walk J yields ys -/
structure Yields (K : PySem.W.Frag) (ρ0 : Pl) (H0 : Hp) (J : It) (ys : List PV) : Prop where
  go : ∀ (i : Nat) ρ h H, Kp ρ0 H0 ρ H → Rep K ρ h H → i < ys.length → J.go i H
  stop : ∀ (i : Nat) ρ h H, Kp ρ0 H0 ρ H → Rep K ρ h H → ys.length ≤ i → J.stop i H
  yld : ∀ (i : Nat) ρ h H y x H', Kp ρ0 H0 ρ H → Rep K ρ h H → ys[i]? = some y → J.yld i H x H' → Ext ρ H ρ H' ∧ Rep K ρ h H' ∧ RV K ρ H' y x
def tI (K : PySem.W.Frag) (W : WX) (m : M (List PV)) : TI := fun σ H R => ∃ ρ h l, Rep K ρ h H ∧ RL K ρ H l σ ∧
  Out K ρ H (fun ρ' H' ys J => Yields K ρ' H' J ys) (fun c d H' => W c d σ H') (m l h) (fun J H' => R J H')
abbrev XI (X : Cx) (W : WX) (tg iter : Expr) (m : M (List PV)) : Prop := PI X tg iter (tI X.K W m)
theorem pi_weak {tg iter : Expr} {w w' : TI} (h : PI X tg iter w) (k : ∀ σ H R, w' σ H R → w σ H R) : PI X tg iter w' := ⟨fun pins s σ H R I q => h.run pins s σ H R I (k _ _ _ q)⟩

/-- a list that nobody changes -/
def mItL (m : M PV) : M (List PV) := fun l h => (m l h).bind fun x h1 => match x with
  | .lst xs => .ok xs h1
  | .scr xs => .ok xs h1
  | _ => .no
theorem ScrAt.of_lst {p : Addr} {vs : List V} (t : LstAt ρ H p vs) : ScrAt K ρ H p vs := .inl ⟨t.1, .inl t.2⟩
theorem yields_list {p : Addr} {vs : List V} {ys : List PV} (t : ScrAt K ρ H p vs) (r : RVs K ρ H ys vs) : Yields K ρ H (Itl K p) ys where
  go := fun i ρ' h' H' a _ hi => by
    obtain ⟨v, e, _⟩ := r.get (i := i) (x := ys[i]) (by simp [hi])
    exact ⟨vs, v, (t.kp a).sq, e⟩
  stop := fun i ρ' h' H' a _ hi => ⟨vs, (t.kp a).sq, by rw [← r.len]; exact hi⟩
  yld := fun i ρ' h' H' y x H2 a p' e q => by
    obtain ⟨e1, e2⟩ := q
    subst e1
    obtain ⟨v, e3, rv⟩ := r.get e
    have := e2 vs (t.kp a).sq
    rw [e3] at this; cases this
    exact ⟨Ext.refl _ _, p', RV.kp a _ _ rv⟩
theorem xi_list {tg e : Expr} {m : M PV} (he : XE X W e m) : XI X W tg e (mItL m) := pi_weak (pi_list he) fun σ H R ⟨ρ, h, l, p, rl, o⟩ =>
  ⟨ρ, h, l, p, rl, Out.mono (Out.bind o) fun v H1 ⟨x, h1, ρ1, e1, p1, r1, o1⟩ => by
    cases x with
    | lst xs =>
      obtain ⟨a, vs, e2, t, rs⟩ := r1
      exact ⟨a, e2, ⟨vs, SqL.of t.2⟩, o1.ok p1 (yields_list (ScrAt.of_lst t) rs)⟩
    | scr xs =>
      obtain ⟨a, vs, e2, t, rs⟩ := r1
      exact ⟨a, e2, ⟨vs, t.sq⟩, o1.ok p1 (yields_list t rs)⟩
    | _ => exact o1.elim⟩
def mItT (m : M PV) : M (List PV) := fun l h => (m l h).bind fun x h1 => match x with
  | .tup xs => .ok xs h1
  | _ => .no
theorem xi_tup {tg e : Expr} {m : M PV} (he : XE X W e m) : XI X W tg e (mItT m) := pi_weak (pi_tup he) fun σ H R ⟨ρ, h, l, p, rl, o⟩ =>
  ⟨ρ, h, l, p, rl, Out.mono (Out.bind o) fun v H1 ⟨x, h1, ρ1, e1, p1, r1, o1⟩ => by
    cases x with
    | tup xs =>
      obtain ⟨a, vs, e2, t, rs⟩ := r1
      refine ⟨a, e2, ⟨vs, t.sq⟩, o1.ok p1 ⟨fun i ρ' h' H' k _ hi => ?_, fun i ρ' h' H' k _ hi => ⟨vs, (t.kp k).sq, by rw [← rs.len]; exact hi⟩, fun i ρ' h' H' y x H2 k p' e q => ?_⟩⟩
      · obtain ⟨v, e, _⟩ := rs.get (i := i) (x := xs[i]) (by simp [hi])
        exact ⟨vs, v, (t.kp k).sq, e⟩
      · obtain ⟨e1, e2⟩ := q
        subst e1
        obtain ⟨v, e3, rv⟩ := rs.get e
        have := e2 vs (t.kp k).sq
        rw [e3] at this; cases this
        exact ⟨Ext.refl _ _, p', RV.kp k _ _ rv⟩
    | _ => exact o1.elim⟩
def mItS (m : M PV) : M (List PV) := fun l h => (m l h).bind fun x h1 => match x with
  | .str z => .ok (z.map fun c => .str [c]) h1
  | _ => .no
theorem xi_str {tg e : Expr} {m : M PV} (he : XE X W e m) : XI X W tg e (mItS m) := pi_weak (pi_str he) fun σ H R ⟨ρ, h, l, p, rl, o⟩ =>
  ⟨ρ, h, l, p, rl, Out.mono (Out.bind o) fun v H1 ⟨x, h1, ρ1, e1, p1, r1, o1⟩ => by
    cases x with
    | str z =>
      refine ⟨_, r1, o1.ok p1 ⟨fun i ρ' h' H' k _ hi => by show i < z.toArray.size; simpa using hi, fun i ρ' h' H' k _ hi => by show z.toArray.size ≤ i; simpa using hi, fun i ρ' h' H' y x H2 k p' e q => ?_⟩⟩
      obtain ⟨e1, c, e2, e3⟩ := q
      subst e1
      rw [List.getElem?_map] at e
      simp only [List.getElem?_toArray] at e2
      rw [e2] at e
      cases e
      exact ⟨Ext.refl _ _, p', e3⟩
    | _ => exact o1.elim⟩
/-- range(a), range(a, b) -/
def runI (lo : Int) (n : Nat) : List PV := (List.range n).map fun (k : Nat) => .int (lo + (k : Int))
theorem yields_range {lo : Int} {n : Nat} : Yields K ρ H (Itr lo n) (runI lo n) where
  go := fun i _ _ _ _ _ hi => by show i < n; simpa [runI] using hi
  stop := fun i _ _ _ _ _ hi => by show n ≤ i; simpa [runI] using hi
  yld := fun i ρ' h' H' y x H2 a p' e q => by
    obtain ⟨e1, e2⟩ := q
    subst e1
    unfold runI at e
    rw [List.getElem?_map] at e
    cases z : (List.range n)[i]? with
    | none => rw [z] at e; cases e
    | some k =>
      rw [z] at e
      cases e
      obtain ⟨_, z2⟩ := List.getElem?_eq_some_iff.mp z
      rw [List.getElem_range] at z2
      subst z2
      exact ⟨Ext.refl _ _, p', e2⟩
def fRange1 (xs : List PV) (h : Store) : R (List PV) := match xs with
  | [.int j] => if -(2 ^ 62) ≤ j ∧ j < 2 ^ 62 then .ok (runI 0 j.toNat) h else .no
  | _ => .no
def fRange2 (xs : List PV) (h : Store) : R (List PV) := match xs with
  | [.int i, .int j] => if -(2 ^ 62) ≤ i ∧ i < 2 ^ 62 ∧ -(2 ^ 62) ≤ j ∧ j < 2 ^ 62 then .ok (runI i (j - i).toNat) h else .no
  | _ => .no
def mItC (f : List PV → Store → R (List PV)) (m : M (List PV)) : M (List PV) := fun l h => (m l h).bind f
theorem xi_range1 {tg a : Expr} {ms : M (List PV)} {p0 pos : Pos} (hm : X.mg "range" = none) (ha : XA X W [a] ms) (hg : Gl X "range" := by rfl) (hs : starEach [a] X.env = [(false, eval a X.env)] := by rfl) : XI X W tg (.Call (.Name "range" p0) [a] [] pos) (mItC fRange1 ms) :=
  pi_weak (pi_range1 hg hm ha hs) fun σ H R ⟨ρ, h, l, p, rl, o⟩ => ⟨ρ, h, l, p, rl, Out.mono (Out.bind o) fun v H1 ⟨x, h1, ρ1, e1, p1, r1, o1⟩ => by
    unfold fRange1 at o1
    split at o1
    next j =>
      obtain ⟨c, o1⟩ := out_if o1
      obtain ⟨w, e, r⟩ := rvs1 r1
      exact ⟨j, by rw [e, show w = _ from r], c.1, c.2, o1.ok p1 yields_range⟩
    next => exact o1.elim⟩
theorem xi_range2 {tg a b : Expr} {ms : M (List PV)} {p0 pos : Pos} (hm : X.mg "range" = none) (ha : XA X W [a, b] ms) (hg : Gl X "range" := by rfl) (hs : starEach [a, b] X.env = [(false, eval a X.env), (false, eval b X.env)] := by rfl) (hs2 : starEach [b] X.env = [(false, eval b X.env)] := by rfl) :
    XI X W tg (.Call (.Name "range" p0) [a, b] [] pos) (mItC fRange2 ms) :=
  pi_weak (pi_range2 hg hm ha hs hs2) fun σ H R ⟨ρ, h, l, p, rl, o⟩ => ⟨ρ, h, l, p, rl, Out.mono (Out.bind o) fun v H1 ⟨x, h1, ρ1, e1, p1, r1, o1⟩ => by
    unfold fRange2 at o1
    split at o1
    next i j =>
      obtain ⟨c, o1⟩ := out_if o1
      obtain ⟨w, u, e, r, q⟩ := rvs2 r1
      exact ⟨i, j, by rw [e, show w = _ from r, show u = _ from q], c, o1.ok p1 yields_range⟩
    next => exact o1.elim⟩

/-! ### for -/
def forL (g : MG) (body : MS) : List PV → MS
  | [], l, h => .ok (.nx l) h
  | y :: ys, l, h => (g y l h).bind fun l1 h1 => (body l1 h1).bind fun f h2 => match f with
    | .nx l2 => forL g body ys l2 h2
    | .ct l2 => forL g body ys l2 h2
    | .bk l2 => .ok (.nx l2) h2
    | .rt x => .ok (.rt x) h2
def mFor (src : M (List PV)) (g : MG) (body : MS) : MS := fun l h => (src l h).bind fun ys h1 => forL g body ys l h1
theorem xs_for {tg iter : Expr} {body : List Stmt} {src : M (List PV)} {g : MG} {mb : MS} {pos : Pos} (hp : PassesOwn (model X.prog X.w) X.A X.env X.xe) (hc : X.calm = true) (hi : XI X W tg iter src) (hg : XG X W tg g) (hb : XSs X W body mb)
    (hs : ∀ x, foldedSetIterable iter X.env x = pure x := by intro _; rfl) : XS X W (.For tg iter body [] pos) (mFor src g mb) :=
  ps_weak (ps_for hp hc hi hg hb hs) fun D σ H ⟨ρ, h, l, p, rl, o⟩ => ⟨ρ, h, l, p, rl, Out.mono (OutS.bind o) fun J H1 ⟨ys, h1, ρ1, e1, p1, y1, o1⟩ => by
    refine ⟨fun i m σ H => m = ys.length - i ∧ i ≤ ys.length ∧ ∃ ρ h l, Ext ρ1 H1 ρ H ∧ Rep X.K ρ h H ∧ RL X.K ρ H l σ ∧ OutS X.K W ρ H (forL g mb (ys.drop i) l h) D,
      ⟨_, rfl, Nat.zero_le _, ρ1, h1, l, Ext.refl _ _, p1, rl.ext e1, o1⟩, ?_⟩
    rintro i m σ2 H2 ⟨rfl, hi, ρ2, h2, l2, e2, p2, rl2, o2⟩
    by_cases hlt : i < ys.length
    · refine .inr ⟨y1.go i ρ2 h2 H2 e2.kp p2 hlt, fun σ H => ∃ ρ h l, Ext ρ1 H1 ρ H ∧ Rep X.K ρ h H ∧ RL X.K ρ H l σ ∧ OutS X.K W ρ H (forL g mb (ys.drop (i + 1)) l h) D,
        fun σ' H' z => ⟨ys.length - (i + 1), by omega, rfl, hlt, z⟩, fun x H3 hy => ?_⟩
      obtain ⟨e3, p3, r3⟩ := y1.yld i ρ2 h2 H2 ys[i] x H3 e2.kp p2 (by simp [hlt]) hy
      rw [List.drop_eq_getElem_cons hlt] at o2
      refine ⟨ρ2, h2, l2, ys[i], p3, rl2.ext e3, r3, ?_⟩
      have o3 : OutS X.K W ρ2 H3 ((g ys[i] l2 h2).bind fun l1 h1 => (mb l1 h1).bind fun f h2 => match f with
        | .nx l2 => forL g mb (ys.drop (i + 1)) l2 h2
        | .ct l2 => forL g mb (ys.drop (i + 1)) l2 h2
        | .bk l2 => .ok (.nx l2) h2
        | .rt x => .ok (.rt x) h2) D := o2.ext e3
      cases q : g ys[i] l2 h2 with
      | no => rw [q] at o3; exact o3
      | exc e h => rw [q] at o3; exact fun ρ' H' c d a p q σ' => o3 ρ' H' c d σ' a p q
      | ok l4 h4 =>
        rw [q] at o3
        intro ρ4 H4 σ4 e4 p4 rl4
        refine ⟨ρ4, h4, l4, p4, rl4, ?_⟩
        have o4 : OutS X.K W ρ4 H4 ((mb l4 h4).bind fun f h2 => match f with
          | .nx l2 => forL g mb (ys.drop (i + 1)) l2 h2
          | .ct l2 => forL g mb (ys.drop (i + 1)) l2 h2
          | .bk l2 => .ok (.nx l2) h2
          | .rt x => .ok (.rt x) h2) D := OutS.ext e4 o3
        have ee : Ext ρ1 H1 ρ4 H4 := (e2.trans e3).trans e4
        cases q5 : mb l4 h4 with
        | no => rw [q5] at o4; exact o4
        | exc e h => rw [q5] at o4; exact o4
        | ok f h5 =>
          rw [q5] at o4
          cases f with
          | nx l5 => exact fun ρ5 H5 σ5 e5 p5 rl5 => ⟨ρ5, h5, l5, ee.trans e5, p5, rl5, OutS.ext e5 o4⟩
          | ct l5 => exact fun ρ5 H5 σ5 e5 p5 rl5 => ⟨ρ5, h5, l5, ee.trans e5, p5, rl5, OutS.ext e5 o4⟩
          | bk l5 => exact o4
          | rt x => exact o4
    · have e : i = ys.length := by omega
      subst e
      rw [List.drop_length] at o2
      exact .inl ⟨y1.stop _ ρ2 h2 H2 e2.kp p2 (Nat.le_refl _), o2 ρ2 H2 σ2 (Ext.refl _ _) p2 rl2⟩⟩

/-! ### while -/
def whileL (c : M Bool) (body : MS) : Nat → MS
  | 0, _, _ => .no
  | n + 1, l, h => (c l h).bind fun b h1 => if b = true then (body l h1).bind fun f h2 => match f with
      | .nx l2 => whileL c body n l2 h2
      | .ct l2 => whileL c body n l2 h2
      | .bk l2 => .ok (.nx l2) h2
      | .rt x => .ok (.rt x) h2
    else .ok (.nx l) h1
def mWhile (n : Nat) (c : M Bool) (body : MS) : MS := whileL c body n
theorem xs_while {c : Expr} {body : List Stmt} {mc : M Bool} {mb : MS} {pos : Pos} (n : Nat) (hp : PassesOwn (model X.prog X.w) X.A X.env X.xe) (hc : XT X W c mc) (hb : XSs X W body mb) : XS X W (.While c body [] pos) (mWhile n mc mb) :=
  ps_weak (ps_while hp hc hb) fun D σ H ⟨ρ, h, l, p, rl, o⟩ => by
    refine ⟨fun m σ H => ∃ ρ h l, Rep X.K ρ h H ∧ RL X.K ρ H l σ ∧ OutS X.K W ρ H (whileL mc mb m l h) D, ⟨n, ρ, h, l, p, rl, o⟩, ?_⟩
    rintro m σ H ⟨ρ, h, l, p, rl, o⟩
    cases m with
    | zero => exact o.elim
    | succ m =>
      refine ⟨ρ, h, l, p, rl, Out.mono (OutS.bind o) fun b H1 ⟨b', h1, ρ1, e1, p1, r1, o1⟩ => ?_⟩
      cases r1
      cases b with
      | false => exact o1 ρ1 H1 σ (Ext.refl _ _) p1 (rl.ext e1)
      | true =>
        refine ⟨fun σ H => ∃ ρ h l, Rep X.K ρ h H ∧ RL X.K ρ H l σ ∧ OutS X.K W ρ H (whileL mc mb m l h) D, fun σ' H' z => ⟨m, Nat.lt_succ_self _, z⟩, ρ1, h1, l, p1, rl.ext e1, ?_⟩
        have o4 : OutS X.K W ρ1 H1 ((mb l h1).bind fun f h2 => match f with
          | .nx l2 => whileL mc mb m l2 h2
          | .ct l2 => whileL mc mb m l2 h2
          | .bk l2 => .ok (.nx l2) h2
          | .rt x => .ok (.rt x) h2) D := o1
        cases q5 : mb l h1 with
        | no => rw [q5] at o4; exact o4
        | exc e h => rw [q5] at o4; exact o4
        | ok f h5 =>
          rw [q5] at o4
          cases f with
          | nx l5 => exact fun ρ5 H5 σ5 e5 p5 rl5 => ⟨ρ5, h5, l5, p5, rl5, OutS.ext e5 o4⟩
          | ct l5 => exact fun ρ5 H5 σ5 e5 p5 rl5 => ⟨ρ5, h5, l5, p5, rl5, OutS.ext e5 o4⟩
          | bk l5 => exact o4
          | rt x => exact o4
end
end Wg

namespace Wg
open PySem PySem.Spec PyProof.Rows L2
section
variable {K : PySem.W.Frag} {ρ ρ' ρ1 ρ0 : Pl} {H H' H1 H0 : Hp} {h : Store} {X : Cx} {W : WX}

/-! ### what is being made at A, hidden -/
theorem Kp.hid_upd {a : Addr} (m : a ∈ ρ.hid) (o : HO) : Kp ρ H ρ (upd H a o) := ⟨fun _ _ h => h, fun p u hp e => ⟨hp, by rw [upd_ne (fun z => hp (.inr (by rw [z]; exact m)))]; exact e⟩⟩
theorem Rep.hid_upd (p : Rep K ρ h H) {a : Addr} (m : a ∈ ρ.hid) (nc : a ∉ ρ.c) (o : HO) : Rep K ρ h (upd H a o) :=
  ⟨p.len, p.nd, fun i c q e1 e2 => (p.at_ i c q e1 e2).kp (Kp.hid_upd m o) (upd_ne fun z => nc (by rw [← z]; exact List.mem_of_getElem? e2)), fun q hq => by
    by_cases z : q = a
    · exact ⟨o, by rw [z, upd_same]⟩
    · rw [upd_ne z]; exact p.hid q hq⟩
/-- one more hidden -/
abbrev Pl.hide (ρ : Pl) (a : Addr) : Pl := ⟨ρ.c, a :: ρ.hid⟩
theorem Kp.hide {a : Addr} (e : H a = none) (o : HO) : Kp ρ H (ρ.hide a) (upd H a o) := ⟨fun _ _ h => h, fun p u hp q => by
  have ne : p ≠ a := ne_of_none q e
  refine ⟨fun z => z.elim (fun z => hp (.inl z)) fun z => ?_, by rw [upd_ne ne]; exact q⟩
  rcases List.mem_cons.mp z with z | z
  · exact ne z
  · exact hp (.inr z)⟩
theorem Rep.hide (p : Rep K ρ h H) {a : Addr} (e : H a = none) (o : HO) : Rep K (ρ.hide a) h (upd H a o) :=
  ⟨p.len, p.nd, fun i c q e1 e2 => (p.at_ i c q e1 e2).kp (Kp.hide e o) (upd_ne fun z => p.fresh e (.inl (by rw [← z]; exact List.mem_of_getElem? e2))), fun q hq => by
    rcases List.mem_cons.mp hq with z | z
    · exact ⟨o, by rw [z, upd_same]⟩
    · obtain ⟨u, w⟩ := p.hid q z
      exact ⟨u, by rw [upd_ne (ne_of_none w e)]; exact w⟩⟩
/-- the hidden one comes out -/
theorem Kp.out {c l : List Addr} {a : Addr} : Kp ⟨c, a :: l⟩ H ⟨c, l⟩ H := ⟨fun _ _ h => h, fun p u hp q => ⟨fun z => z.elim (fun z => hp (.inl z)) fun z => hp (.inr (List.mem_cons_of_mem _ z)), q⟩⟩
theorem Rep.out {c l : List Addr} {a : Addr} (p : Rep K ⟨c, a :: l⟩ h H) : Rep K ⟨c, l⟩ h H :=
  ⟨p.len, p.nd, fun i c q e1 e2 => (p.at_ i c q e1 e2).kp Kp.out rfl, fun q hq => p.hid q (List.mem_cons_of_mem _ hq)⟩

/-! ### targets within a block: the block's own slots alone change -/
def tGw (K : PySem.W.Frag) (W : WX) (vs : List Nat) (g : MG) : TG := fun v σ H Q => ∃ ρ h l x, Rep K ρ h H ∧ RL K ρ H l σ ∧ RV K ρ H x v ∧
  Out K ρ H (fun ρ' H' l' σ' => RL K ρ' H' l' σ' ∧ wipe σ' vs = wipe σ vs) (fun c d H' => ∀ σ', W c d σ' H') (g x l h) Q
abbrev XGw (X : Cx) (W : WX) (vs : List Nat) (tg : Expr) (g : MG) : Prop := PG X tg (tGw X.K W vs g)
theorem wipe_set {σ : L2.St} {i : Nat} {o : Option V} : ∀ {vs : List Nat}, i ∈ vs → wipe (σ.set i o) vs = wipe σ vs
  | [], h => by simp at h
  | v :: vs, h => by
    show (wipe (σ.set i o) vs).set v none = (wipe σ vs).set v none
    by_cases hi : i ∈ vs
    · rw [wipe_set hi]
    · have e : v = i := (List.mem_cons.mp h).elim Eq.symm fun z => absurd z hi
      subst e
      clear h
      induction vs with
      | nil => simp [wipe]
      | cons u us ih =>
        have hu : v ≠ u := fun z => hi (by rw [z]; exact List.mem_cons_self)
        show ((wipe (σ.set v o) us).set u none).set v none = ((wipe σ us).set u none).set v none
        rw [List.set_comm _ _ (Ne.symm hu), ih (fun z => hi (List.mem_cons_of_mem _ z)), List.set_comm _ _ hu]
theorem xgw_name {i : Nat} {x : Str} {pos : Pos} {vs : List Nat} (hN : X.N.Nodup) (hv : i ∈ vs := by simp) (hi : X.N[i]? = some x := by rfl) (hx : Loc X.env.scope x := by first | exact Or.inl rfl | exact Or.inr rfl) (hf : X.fn x = true ∨ X.env.scope.names.lookup x = some .local := by first | exact .inl rfl | exact .inr rfl | assumption) : XGw X W vs (.Name x pos) (gVar i) :=
  pg_weak (pg_name hN hi hx hf) fun v σ H Q ⟨ρ, h, l, x, p, rl, r, o⟩ => o.ok p ⟨rl.set r, wipe_set hv⟩
/-! tests within a block -/
abbrev XTs (X : Cx) (W : WX) (ifs : List Expr) (m : M Bool) : Prop := PTs X ifs (tT X.K W m)
def mYes : M Bool := fun _ h => .ok true h
theorem pts_weak {ifs : List Expr} {t t' : TT} (h : PTs X ifs t) (w : ∀ σ H Q, t' σ H Q → t σ H Q) : PTs X ifs t' := ⟨fun pins s σ H Q I q => h.run pins s σ H Q I (w _ _ _ q)⟩
theorem xts_nil : XTs X W [] mYes := pts_weak pts_nil fun σ H Q ⟨ρ, h, l, p, rl, o⟩ => o.ok p rfl
theorem xts_one {c : Expr} {m : M Bool} (h : XT X W c m) : XTs X W [c] m := pts_one h

/-! ### list comprehensions -/
def R.noX {α : Type} (r : R α) : R α := match r with
  | .ok a h => .ok a h
  | _ => .no
def lcL (g : MG) (t : M Bool) (e : M PV) : List PV → Lv → Store → R (List PV)
  | [], _, h => .ok [] h
  | y :: ys, l, h => (g y l h).noX.bind fun l1 h1 => (t l1 h1).noX.bind fun b h2 =>
    if b = true then (e l1 h2).noX.bind fun z h3 => (lcL g t e ys l h3).bind fun zs h4 => .ok (z :: zs) h4
    else lcL g t e ys l h2
def wipeL (l : Lv) : List Nat → Lv
  | [] => l
  | v :: vs => (wipeL l vs).set v none
theorem RL.wipes {l : Lv} {σ : L2.St} (r : RL K ρ H l σ) : ∀ vs : List Nat, RL K ρ H (wipeL l vs) (L2.wipe σ vs)
  | [] => r
  | v :: vs => (RL.wipes r vs).wipe v
def mLc (src : M (List PV)) (own : List Nat) (g : MG) (t : M Bool) (e : M PV) : M PV := fun l h => (src l h).bind fun ys h1 =>
  if ys.length ≤ sizeLine then (lcL g t e ys (wipeL l own) h1).bind fun zs h2 => .ok (.lst zs) h2 else .no
/-- the same into a new cell -/
def mLcN (src : M (List PV)) (own : List Nat) (g : MG) (t : M Bool) (e : M PV) : M PV := fun l h => (src l h).bind fun ys h1 =>
  if ys.length ≤ sizeLine then (lcL g t e ys (wipeL l own) h1).bind fun zs h2 => .ok (.ref h2.length) (h2 ++ [.lst zs]) else .no
abbrev WF : WX := fun _ _ _ _ => False
theorem Out.noX {α β : Type} {rel : Pl → Hp → α → β → Prop} {W W' : Value → Option Addr → Hp → Prop} {r : R α} {Q : β → Hp → Prop} (o : Out K ρ H rel W r.noX Q) : Out K ρ H rel W' r Q := by
  cases r with
  | ok a h => exact o
  | exc e h => exact o.elim
  | no => exact o.elim
/-- the heart: at the turn i, zs made so far, the rest as lcL tells -/
theorem lc_turns {g : MG} {t : M Bool} {e : M PV} {J : It} {ys : List PV} {own : List Nat} {σ : L2.St} {l : Lv} {D : Addr} {Q : Hp → Prop} (p1 : Rep K ρ1 h H1) (y1 : Yields K ρ1 H1 J ys) (rl : RL K ρ1 H1 l σ) (hD : H1 D = none) (hz : ys.length ≤ sizeLine) {zs' : List PV} {h' : Store}
    (er : lcL g t e ys (wipeL l own) h = .ok zs' h')
    (fin : ∀ ρ H vs, Ext ρ1 H1 ⟨ρ.c, ρ1.hid⟩ H → ρ.hid = D :: ρ1.hid → D ∉ ρ.c → Rep K ρ h' H → H D = some (.lst vs) → RVs K ρ H zs' vs → Q H) :
    ∃ W : Nat → Nat → Hp → Prop, (∃ m, W 0 m (upd H1 D (.lst []))) ∧ ∀ i m H, W i m H →
      (J.stop i H ∧ Q H) ∨ (J.go i H ∧ ∃ Nx : Hp → Prop, (∀ H', Nx H' → ∃ m', m' < m ∧ W (i + 1) m' H') ∧ ∀ x H', J.yld i H x H' → tGw K WF own g x (wipe σ own) H' fun σ2 H2 => wipe σ2 own = wipe σ own ∧ tT K WF t σ2 H2 fun b H3 =>
        if b = true then tM K WF e σ2 H3 fun y H4 => ∃ acc, H4 D = some (.lst acc) ∧ acc.length < sizeLine ∧ Nx (upd H4 D (.lst (acc ++ [y]))) else Nx H3) := by
  refine ⟨fun i m H => m = ys.length - i ∧ i ≤ ys.length ∧ ∃ ρ h vs zs rs, Ext ρ1 H1 ⟨ρ.c, ρ1.hid⟩ H ∧ Kp ρ1 H1 ρ H ∧ ρ.hid = D :: ρ1.hid ∧ D ∉ ρ.c ∧ Rep K ρ h H ∧ H D = some (.lst vs) ∧ RVs K ρ H zs vs ∧ zs.length ≤ i ∧
    lcL g t e (ys.drop i) (wipeL l own) h = .ok rs h' ∧ zs ++ rs = zs', ⟨_, rfl, Nat.zero_le _, ρ1.hide D, h, [], [], zs', ?_⟩, ?_⟩
  · refine ⟨Ext.upd_new hD _, Kp.hide hD _, rfl, fun z => p1.fresh hD (.inl z), p1.hide hD _, upd_same, rfl, Nat.le_refl _, er, rfl⟩
  rintro i m H ⟨rfl, hi, ρ, h2, vs, zs, rs, x1, k1, hh, nD, p2, hv, rz, hlz, er2, hzs⟩
  by_cases hlt : i < ys.length
  · rw [List.drop_eq_getElem_cons hlt] at er2
    refine .inr ⟨y1.go i ρ h2 H k1 p2 hlt, fun H => ∃ ρ h vs zs rs, Ext ρ1 H1 ⟨ρ.c, ρ1.hid⟩ H ∧ Kp ρ1 H1 ρ H ∧ ρ.hid = D :: ρ1.hid ∧ D ∉ ρ.c ∧ Rep K ρ h H ∧ H D = some (.lst vs) ∧ RVs K ρ H zs vs ∧ zs.length ≤ i + 1 ∧
      lcL g t e (ys.drop (i + 1)) (wipeL l own) h = .ok rs h' ∧ zs ++ rs = zs', fun H' z => ⟨ys.length - (i + 1), by omega, rfl, hlt, z⟩, fun x H3 hy => ?_⟩
    obtain ⟨e3, p3, r3⟩ := y1.yld i ρ h2 H ys[i] x H3 k1 p2 (by simp [hlt]) hy
    -- what is kept when the state goes on by an Ext
    have onE : ∀ {ρa ρb : Pl} {Ha Hb : Hp}, Ext ρ1 H1 ⟨ρa.c, ρ1.hid⟩ Ha → Kp ρ1 H1 ρa Ha → ρa.hid = D :: ρ1.hid → D ∉ ρa.c → Ha D = some (.lst vs) → RVs K ρa Ha zs vs → Ext ρa Ha ρb Hb →
        Ext ρ1 H1 ⟨ρb.c, ρ1.hid⟩ Hb ∧ Kp ρ1 H1 ρb Hb ∧ ρb.hid = D :: ρ1.hid ∧ D ∉ ρb.c ∧ Hb D = some (.lst vs) ∧ RVs K ρb Hb zs vs := by
      intro ρa ρb Ha Hb a1 a2 a3 a4 a5 a6 b
      obtain ⟨m1, q1, f1⟩ := b.pre
      refine ⟨a1.trans ⟨⟨m1, q1, fun p hp => ⟨fun z => (f1 p hp).1 (z.elim .inl fun z => .inr (by rw [a3]; exact List.mem_cons_of_mem _ z)), (f1 p hp).2⟩⟩, rfl, b.old⟩, a2.trans b.kp, b.hid.trans a3, fun z => ?_, b.old _ _ a4 a5, RVs.ext b _ _ a6⟩
      rw [q1] at z
      rcases List.mem_append.mp z with z | z
      · exact a4 z
      · exact (f1 D z).1 (.inr (by rw [a3]; exact List.mem_cons_self))
    obtain ⟨x3, k3, hh3, nD3, hv3, rz3⟩ := onE x1 k1 hh nD hv rz e3
    refine ⟨ρ, h2, wipeL l own, ys[i], p3, ((rl.kp k3).wipes own), r3, ?_⟩
    have er3 : (g ys[i] (wipeL l own) h2).noX.bind (fun l1 h1 => (t l1 h1).noX.bind fun b h2 =>
      if b = true then (e l1 h2).noX.bind fun z h3 => (lcL g t e (ys.drop (i + 1)) (wipeL l own) h3).bind fun zs h4 => .ok (z :: zs) h4
      else lcL g t e (ys.drop (i + 1)) (wipeL l own) h2) = .ok rs h' := er2
    cases q4 : g ys[i] (wipeL l own) h2 with
    | no => rw [q4] at er3; cases er3
    | exc _ _ => rw [q4] at er3; cases er3
    | ok l4 h4 =>
      rw [q4] at er3
      rintro ρ4 H4 σ4 e4 p4 ⟨rl4, w4⟩
      obtain ⟨x4, k4, hh4, nD4, hv4, rz4⟩ := onE x3 k3 hh3 nD3 hv3 rz3 e4
      have w4' : wipe σ4 own = wipe σ own := by
        rw [w4]
        clear er3 er2 w4
        have : ∀ vs ws : List Nat, (∀ v ∈ vs, v ∈ ws) → wipe (wipe σ ws) vs = wipe σ ws := by
          intro vs ws hs
          induction vs with
          | nil => rfl
          | cons v vs ih =>
            show (wipe (wipe σ ws) vs).set v none = wipe σ ws
            rw [ih fun u hu => hs u (List.mem_cons_of_mem _ hu)]
            have hm := hs v List.mem_cons_self
            clear ih hs
            induction ws with
            | nil => simp at hm
            | cons w ws ih2 =>
              show ((wipe σ ws).set w none).set v none = (wipe σ ws).set w none
              by_cases hz : v = w
              · subst hz; rw [List.set_set]
              · rw [List.set_comm _ _ (Ne.symm hz), ih2 ((List.mem_cons.mp hm).elim (fun z => absurd z hz) id)]
        exact this own own fun _ h => h
      refine ⟨w4', ρ4, h4, l4, p4, rl4, ?_⟩
      have er4 : (t l4 h4).noX.bind (fun b h2 => if b = true then (e l4 h2).noX.bind fun z h3 => (lcL g t e (ys.drop (i + 1)) (wipeL l own) h3).bind fun zs h4 => .ok (z :: zs) h4
        else lcL g t e (ys.drop (i + 1)) (wipeL l own) h2) = .ok rs h' := er3
      cases q5 : t l4 h4 with
      | no => rw [q5] at er4; cases er4
      | exc _ _ => rw [q5] at er4; cases er4
      | ok b h5 =>
        rw [q5] at er4
        rintro ρ5 H5 b' e5 p5 rb
        cases rb
        obtain ⟨x5, k5, hh5, nD5, hv5, rz5⟩ := onE x4 k4 hh4 nD4 hv4 rz4 e5
        cases b with
        | false => exact ⟨ρ5, h5, vs, zs, rs, x5, k5, hh5, nD5, p5, hv5, rz5, Nat.le_succ_of_le hlz, er4, hzs⟩
        | true =>
          refine ⟨ρ5, h5, l4, p5, rl4.ext e5, ?_⟩
          have er5 : (e l4 h5).noX.bind (fun z h3 => (lcL g t e (ys.drop (i + 1)) (wipeL l own) h3).bind fun zs h4 => .ok (z :: zs) h4) = .ok rs h' := er4
          cases q6 : e l4 h5 with
          | no => rw [q6] at er5; cases er5
          | exc _ _ => rw [q6] at er5; cases er5
          | ok z h6 =>
            rw [q6] at er5
            rintro ρ6 H6 zv e6 p6 rz'
            obtain ⟨x6, k6, hh6, nD6, hv6, rz6⟩ := onE x5 k5 hh5 nD5 hv5 rz5 e6
            have er6 : (lcL g t e (ys.drop (i + 1)) (wipeL l own) h6).bind (fun zs h4 => .ok (z :: zs) h4) = .ok rs h' := er5
            cases q7 : lcL g t e (ys.drop (i + 1)) (wipeL l own) h6 with
            | no => rw [q7] at er6; cases er6
            | exc _ _ => rw [q7] at er6; cases er6
            | ok rs7 h7 =>
              rw [q7] at er6
              have er7 : R.ok (z :: rs7) h7 = R.ok rs h' := er6
              injection er7 with er7 er8
              subst er7; subst er8
              have mD : D ∈ ρ6.hid := by rw [hh6]; exact List.mem_cons_self
              have kd : Kp ρ6 H6 ρ6 (upd H6 D (.lst (vs ++ [zv]))) := Kp.hid_upd mD _
              refine ⟨vs, hv6, by rw [← rz6.len]; omega, ρ6, h6, vs ++ [zv], zs ++ [z], rs7, ⟨x6.pre, x6.hid, fun q o hq eq => ?_⟩, k6.trans kd, hh6, nD6, p6.hid_upd mD nD6 _, upd_same, ?_, by rw [List.length_append, List.length_singleton]; omega, q7, by rw [← hzs]; simp⟩
              · rw [upd_ne (ne_of_none eq hD)]; exact x6.old q o hq eq
              · exact (RVs.kp kd _ _ rz6).app (RVs.one (RV.kp kd _ _ rz'))
  · have e : i = ys.length := by omega
    subst e
    rw [List.drop_length] at er2
    have er3 : R.ok ([] : List PV) h2 = R.ok rs h' := er2
    injection er3 with er3 er4
    subst er3; subst er4
    rw [List.append_nil] at hzs
    subst hzs
    exact .inl ⟨y1.stop _ ρ h2 H k1 p2 (Nat.le_refl _), fin ρ H vs x1 hh nD p2 hv rz⟩

theorem lc_out {g : MG} {t : M Bool} {e : M PV} {src : M (List PV)} {own : List Nat} {σ : L2.St} {Q : VK} {mk : List PV → Store → R PV}
    (hmk : ∀ ρ ρ1 H H1 (D : Addr) zs h vs, Ext ρ1 H1 ⟨ρ.c, ρ1.hid⟩ H → ρ.hid = D :: ρ1.hid → D ∉ ρ.c → Rep K ρ h H → H1 D = none → ¬ ρ1.has D → H D = some (.lst vs) → RVs K ρ H zs vs → Out K ρ1 H1 (RV K) (fun c d H' => W c d σ H') (mk zs h) Q → Q (.ref D) H)
    (q : tM K W (fun l h => (src l h).bind fun ys h1 => if ys.length ≤ sizeLine then (lcL g t e ys (wipeL l own) h1).bind mk else .no) σ H Q) : tLc (tI K W src) (tGw K WF own g) (tT K WF t) (tM K WF e) own σ H Q := by
  obtain ⟨ρ, h, l, p, rl, o⟩ := q
  refine ⟨ρ, h, l, p, rl, Out.mono (Out.bind o) fun J H1 ⟨ys, h1, ρ1, e1, p1, y1, o1⟩ => ?_⟩
  intro D hD
  obtain ⟨hz, o1⟩ := out_if o1
  cases q : lcL g t e ys (wipeL l own) h1 with
  | no => rw [q] at o1; exact o1.elim
  | exc ex hx =>
    -- lcL raises nothing
    exfalso
    have nx : ∀ (ys : List PV) (l : Lv) (h : Store) ex hx, lcL g t e ys l h ≠ .exc ex hx := by
      intro ys
      induction ys with
      | nil => intro l h ex hx z; cases z
      | cons y ys ih =>
        intro l h ex hx z
        have z : (g y l h).noX.bind (fun l1 h1 => (t l1 h1).noX.bind fun b h2 =>
          if b = true then (e l1 h2).noX.bind fun z h3 => (lcL g t e ys l h3).bind fun zs h4 => .ok (z :: zs) h4
          else lcL g t e ys l h2) = .exc ex hx := z
        cases q4 : g y l h with
        | no => rw [q4] at z; cases z
        | exc _ _ => rw [q4] at z; cases z
        | ok l4 h4 =>
          rw [q4] at z
          have z : (t l4 h4).noX.bind (fun b h2 => if b = true then (e l4 h2).noX.bind fun z h3 => (lcL g t e ys l h3).bind fun zs h4 => .ok (z :: zs) h4
            else lcL g t e ys l h2) = .exc ex hx := z
          cases q5 : t l4 h4 with
          | no => rw [q5] at z; cases z
          | exc _ _ => rw [q5] at z; cases z
          | ok b h5 =>
            rw [q5] at z
            cases b with
            | false => exact ih _ _ _ _ z
            | true =>
              have z : (e l4 h5).noX.bind (fun z h3 => (lcL g t e ys l h3).bind fun zs h4 => .ok (z :: zs) h4) = .exc ex hx := z
              cases q6 : e l4 h5 with
              | no => rw [q6] at z; cases z
              | exc _ _ => rw [q6] at z; cases z
              | ok u h6 =>
                rw [q6] at z
                have z : (lcL g t e ys l h6).bind (fun zs h4 => .ok (u :: zs) h4) = .exc ex hx := z
                cases q7 : lcL g t e ys l h6 with
                | no => rw [q7] at z; cases z
                | exc a b => exact ih _ _ _ _ q7
                | ok _ _ => rw [q7] at z; cases z
    exact nx _ _ _ _ _ q
  | ok zs' h' =>
    rw [q] at o1
    have na := p1.fresh hD
    exact lc_turns (Q := fun H => Q (.ref D) H) p1 y1 (rl.ext e1) hD hz q fun ρ H vs x hh nD p hv rz => hmk ρ ρ1 H H1 D zs' h' vs x hh nD p hD na hv rz o1
theorem lc_mk_lst : ∀ ρ ρ1 H H1 (D : Addr) zs h vs {σ : L2.St} {Q : VK}, Ext ρ1 H1 ⟨ρ.c, ρ1.hid⟩ H → ρ.hid = D :: ρ1.hid → D ∉ ρ.c → Rep K ρ h H → H1 D = none → ¬ ρ1.has D → H D = some (.lst vs) → RVs K ρ H zs vs → Out K ρ1 H1 (RV K) (fun c d H' => W c d σ H') (.ok (.lst zs) h) Q → Q (.ref D) H := by
  intro ρ ρ1 H H1 D zs h vs σ Q x hh nD p hD na hv rz o
  obtain ⟨c, hid⟩ := ρ
  cases hh
  exact o ⟨c, ρ1.hid⟩ H (.ref D) x p.out ⟨D, vs, rfl, ⟨fun z => z.elim nD fun z => na (.inr z), hv⟩, RVs.kp Kp.out _ _ rz⟩
theorem lc_mk_cell : ∀ ρ ρ1 H H1 (D : Addr) zs h vs {σ : L2.St} {Q : VK}, Ext ρ1 H1 ⟨ρ.c, ρ1.hid⟩ H → ρ.hid = D :: ρ1.hid → D ∉ ρ.c → Rep K ρ h H → H1 D = none → ¬ ρ1.has D → H D = some (.lst vs) → RVs K ρ H zs vs → Out K ρ1 H1 (RV K) (fun c d H' => W c d σ H') (.ok (.ref h.length) (h ++ [.lst zs])) Q → Q (.ref D) H := by
  intro ρ ρ1 H H1 D zs h vs σ Q x hh nD p hD na hv rz o
  obtain ⟨c, hid⟩ := ρ
  cases hh
  -- D becomes a cell
  have k : Kp ⟨c, D :: ρ1.hid⟩ H ⟨c ++ [D], ρ1.hid⟩ H := ⟨fun i q e => by
      show (c ++ [D])[i]? = some q
      rw [List.getElem?_append_left (List.getElem?_eq_some_iff.mp e).1]; exact e, fun q o hq e => ⟨fun z => hq (z.elim (fun z => (List.mem_append.mp z).elim .inl fun z => .inr (by rw [List.mem_singleton.mp z]; exact List.mem_cons_self)) fun z => .inr (List.mem_cons_of_mem _ z)), e⟩⟩
  have p' : Rep K ⟨c ++ [D], ρ1.hid⟩ (h ++ [.lst zs]) H := by
    have hl : h.length = c.length := p.len
    refine ⟨by simp [hl], List.nodup_append.mpr ⟨p.nd, by simp, fun b hb d hd z => ?_⟩, fun i c' q e1 e2 => ?_, fun q hq => p.hid q (List.mem_cons_of_mem _ hq)⟩
    · rw [List.mem_singleton.mp hd] at z; exact nD (by rw [← z]; exact hb)
    · have e2 : (c ++ [D])[i]? = some q := e2
      by_cases hi : i < c.length
      · rw [List.getElem?_append_left (by rw [hl]; exact hi)] at e1
        rw [List.getElem?_append_left hi] at e2
        exact (p.at_ i c' q e1 e2).kp k rfl
      · rw [List.getElem?_append_right (by omega)] at e1 e2
        have : i = c.length := by
          by_cases z : i - c.length = 0
          · omega
          · obtain ⟨n, hn⟩ := Nat.exists_eq_succ_of_ne_zero z
            rw [hn] at e2; simp at e2
        subst this
        simp [hl] at e1
        simp at e2
        rw [← e1, ← e2]
        exact ⟨vs, hv, RVs.kp k _ _ rz⟩
  refine o ⟨c ++ [D], ρ1.hid⟩ H (.ref D) ?_ p' ⟨D, ?_, rfl⟩
  · obtain ⟨m1, q1, f1⟩ := x.pre
    have q1 : c = ρ1.c ++ m1 := q1
    refine ⟨⟨m1 ++ [D], by rw [q1, List.append_assoc], fun q hq => ?_⟩, rfl, x.old⟩
    rcases List.mem_append.mp hq with z | z
    · exact f1 q z
    · rw [List.mem_singleton.mp z]; exact ⟨na, hD⟩
  · have hl : h.length = c.length := p.len
    show (c ++ [D])[h.length]? = some D
    rw [hl, List.getElem?_append_right (Nat.le_refl _)]
    simp
variable {elt tg iter : Expr} {ifs : List Expr} {scope : Scope} {own : List (Str × Nat)} {pos : Pos} {src : M (List PV)} {g : MG} {t : M Bool} {e : M PV}
theorem xe_lc (hc : X.calm = true) (hN : X.N.Nodup) (hi : XI X W tg iter src) (ok : BlkOk X.N X.env.scope scope own)
    (hg : ∀ (s : Shared) (H : Hp) (C : Addr) (cl : List (Str × Addr)) (fp : List Addr), XGw (X.blk s H scope (compEnvC scope cl C X.env) fp) WF (own.map (·.2)) tg g)
    (ht : ∀ (s : Shared) (H : Hp) (C : Addr) (cl : List (Str × Addr)) (fp : List Addr), XTs (X.blk s H scope (compEnvC scope cl C X.env) fp) WF ifs t)
    (he : ∀ (s : Shared) (H : Hp) (C : Addr) (cl : List (Str × Addr)) (fp : List Addr), XE (X.blk s H scope (compEnvC scope cl C X.env) fp) WF elt e) (hs : ∀ x, foldedSetIterable iter X.env x = pure x := by intro _; rfl) :
    XE X W (.ListComp elt [⟨tg, iter, ifs, 0⟩] scope pos) (mLc src (own.map (·.2)) g t e) :=
  pe_weak (pe_lc hc hN hi ok hg ht he hs) fun σ H Q q => lc_out (fun ρ ρ1 H H1 D zs h vs => lc_mk_lst ρ ρ1 H H1 D zs h vs) q
theorem xe_lcN (hc : X.calm = true) (hN : X.N.Nodup) (hi : XI X W tg iter src) (ok : BlkOk X.N X.env.scope scope own)
    (hg : ∀ (s : Shared) (H : Hp) (C : Addr) (cl : List (Str × Addr)) (fp : List Addr), XGw (X.blk s H scope (compEnvC scope cl C X.env) fp) WF (own.map (·.2)) tg g)
    (ht : ∀ (s : Shared) (H : Hp) (C : Addr) (cl : List (Str × Addr)) (fp : List Addr), XTs (X.blk s H scope (compEnvC scope cl C X.env) fp) WF ifs t)
    (he : ∀ (s : Shared) (H : Hp) (C : Addr) (cl : List (Str × Addr)) (fp : List Addr), XE (X.blk s H scope (compEnvC scope cl C X.env) fp) WF elt e) (hs : ∀ x, foldedSetIterable iter X.env x = pure x := by intro _; rfl) :
    XE X W (.ListComp elt [⟨tg, iter, ifs, 0⟩] scope pos) (mLcN src (own.map (·.2)) g t e) :=
  pe_weak (pe_lc hc hN hi ok hg ht he hs) fun σ H Q q => lc_out (fun ρ ρ1 H H1 D zs h vs => lc_mk_cell ρ ρ1 H H1 D zs h vs) q
/-- name = [..] on one line, the name a local -/
theorem xs_setLc {i : Nat} {y : Str} {py spos : Pos} (hc : X.calm = true) (hN : X.N.Nodup) (hi : XI X W tg iter src) (ok : BlkOk X.N X.env.scope scope own)
    (hg : ∀ (s : Shared) (H : Hp) (C : Addr) (cl : List (Str × Addr)) (fp : List Addr), XGw (X.blk s H scope (compEnvC scope cl C X.env) fp) WF (own.map (·.2)) tg g)
    (ht : ∀ (s : Shared) (H : Hp) (C : Addr) (cl : List (Str × Addr)) (fp : List Addr), XTs (X.blk s H scope (compEnvC scope cl C X.env) fp) WF ifs t)
    (he : ∀ (s : Shared) (H : Hp) (C : Addr) (cl : List (Str × Addr)) (fp : List Addr), XE (X.blk s H scope (compEnvC scope cl C X.env) fp) WF elt e)
    (hy : X.N[i]? = some y := by rfl) (hyl : X.env.scope.names.lookup y = some .local := by rfl)
    (hsw : swapsWith (.ListComp elt [⟨tg, iter, ifs, 0⟩] scope pos) (some (.Name y py)) spos.line X.env = pure true := by exact sw_true rfl rfl rfl (by decide +kernel)) (hs : ∀ x, foldedSetIterable iter X.env x = pure x := by intro _; rfl) :
    XS X W (.Assign [.Name y py] (.ListComp elt [⟨tg, iter, ifs, 0⟩] scope pos) spos) (mSet i (mLc src (own.map (·.2)) g t e)) :=
  ps_weak (ps_setLc hc hN hy hyl hsw hi ok hg ht he hs) fun D σ H q => by
    show tLc _ _ _ _ _ σ H fun x H1 => gName i x σ H1 D.nx
    exact lc_out (fun ρ ρ1 H H1 D zs h vs => lc_mk_lst ρ ρ1 H H1 D zs h vs) (tS_set D σ H q)
theorem xs_setLcN {i : Nat} {y : Str} {py spos : Pos} (hc : X.calm = true) (hN : X.N.Nodup) (hi : XI X W tg iter src) (ok : BlkOk X.N X.env.scope scope own)
    (hg : ∀ (s : Shared) (H : Hp) (C : Addr) (cl : List (Str × Addr)) (fp : List Addr), XGw (X.blk s H scope (compEnvC scope cl C X.env) fp) WF (own.map (·.2)) tg g)
    (ht : ∀ (s : Shared) (H : Hp) (C : Addr) (cl : List (Str × Addr)) (fp : List Addr), XTs (X.blk s H scope (compEnvC scope cl C X.env) fp) WF ifs t)
    (he : ∀ (s : Shared) (H : Hp) (C : Addr) (cl : List (Str × Addr)) (fp : List Addr), XE (X.blk s H scope (compEnvC scope cl C X.env) fp) WF elt e)
    (hy : X.N[i]? = some y := by rfl) (hyl : X.env.scope.names.lookup y = some .local := by rfl)
    (hsw : swapsWith (.ListComp elt [⟨tg, iter, ifs, 0⟩] scope pos) (some (.Name y py)) spos.line X.env = pure true := by exact sw_true rfl rfl rfl (by decide +kernel)) (hs : ∀ x, foldedSetIterable iter X.env x = pure x := by intro _; rfl) :
    XS X W (.Assign [.Name y py] (.ListComp elt [⟨tg, iter, ifs, 0⟩] scope pos) spos) (mSet i (mLcN src (own.map (·.2)) g t e)) :=
  ps_weak (ps_setLc hc hN hy hyl hsw hi ok hg ht he hs) fun D σ H q => by
    show tLc _ _ _ _ _ σ H fun x H1 => gName i x σ H1 D.nx
    exact lc_out (fun ρ ρ1 H H1 D zs h vs => lc_mk_cell ρ ρ1 H H1 D zs h vs) (tS_set D σ H q)
end
end Wg

namespace Wg
open PySem PySem.Spec PyProof.Rows L2

/-! ### defs -/
abbrev FN := List PV → Store → R PV
def initL (n : Nat) (args : List PV) : Lv := args.map some ++ List.replicate (n - args.length) none
/-- a def of np parameters and n names -/
def runDef (np n : Nat) (body : MS) : FN := fun args h => if args.length = np then
    match body (initL n args) h with
    | .ok (.rt x) h' => .ok x h'
    | .ok (.nx _) h' => .ok .non h'
    | .ok _ _ => .no
    | .exc e h' => .exc e h'
    | .no => .no
  else .no
def spM (K : PySem.W.Frag) (f : FN) : Sp := fun vs H Q E => ∃ ρ h args, Rep K ρ h H ∧ RVs K ρ H args vs ∧ Out K ρ H (RV K) E (f args h) Q
/-- a def of the text does what f tells -/
structure Def (P : Program) (w : World) (K : PySem.W.Frag) (mg : Str → Option Value) (base : Heap) (k : Nat) (x : Str) (F : FN) : Prop where
  ex : ∃ f fd ps, mg x = some (.ref f) ∧ PySem.W.keepIn K (.ref f) = true ∧ Binds K fd ps [] ∧ FnOk P w K mg base (L2.CX P w) k f fd ps (spM K F)
section
variable {P : Program} {w : World} {K : PySem.W.Frag} {mg : Str → Option Value} {base : Heap} {k : Nat} {ρ : Pl} {H : Hp}
theorem RL.start {N : List Str} {args : List PV} {vs : List V} (r : RVs K ρ H args vs) : RL K ρ H (initL N.length args) (L2.start N vs) := by
  unfold initL L2.start
  rw [r.len]
  generalize N.length - vs.length = m
  have base : RL K ρ H (List.replicate m none) (List.replicate m none) := by
    induction m with
    | zero => exact .nil
    | succ m ih => exact .skip ih
  induction args generalizing vs with
  | nil => rw [show vs = [] from r]; exact base
  | cons x xs ih =>
    obtain ⟨v, rr, e, h1, h2⟩ := r
    subst e
    exact .put h1 (ih h2)
theorem fn_okM {x qual : Str} {st : Stmt} {f : Addr} {fd : FuncData} {N ps : List Str} {mb : MS} (F : Fun K x qual st f fd) (S : FnScope N ps (defScope st))
    (hbody : ∀ (cdv : Value) (A : Around) (outer : List Env) (s : Shared) (H : Hp) (E : XK), Room k (A.deeper (envOfC qual (defScope st) s.heap.objs.size f cdv)) →
      XSs (cxOf (L2.CX P w) P w K mg base N qual (defScope st) f cdv A outer s H E) (fun cls d _ H' => E cls d H') (defBody st) mb) : FnOk P w K mg base (L2.CX P w) (k + 1) f fd ps (spM K (runDef ps.length N.length mb)) := by
  refine F.okX S (fun vs H Q E h => ?_) (fun cdv A outer s H vs Q E hr h => ?_)
  · obtain ⟨ρ, h, args, p, r, o⟩ := h
    by_cases hl : args.length = ps.length
    · rw [← r.len]; exact hl
    · unfold runDef at o
      rw [if_neg hl] at o
      exact o.elim
  · refine ⟨_, hbody cdv A outer s H E hr, ?_⟩
    obtain ⟨ρ, h, args, p, r, o⟩ := h
    refine ⟨ρ, h, initL N.length args, p, RL.start r, ?_⟩
    unfold runDef at o
    by_cases hl : args.length = ps.length
    · rw [if_pos hl] at o
      cases q : mb (initL N.length args) h with
      | no => rw [q] at o; exact o
      | exc e h' => rw [q] at o; exact fun ρ' H' c d σ' a p q => o ρ' H' c d a p q
      | ok fl h' =>
        rw [q] at o
        cases fl with
        | rt x => exact o
        | nx l => exact fun ρ' H' σ' a p _ => o ρ' H' .non a p rfl
        | bk l => exact o.elim
        | ct l => exact o.elim
    · rw [if_neg hl] at o; exact o.elim
theorem Def.mk' {x : Str} {st : Stmt} {f : Addr} {fd : FuncData} {N ps : List Str} {mb : MS} (F : Fun K x x st f fd) (hm : mg x = some (.ref f)) (hb : Binds K fd ps []) (S : FnScope N ps (defScope st))
    (hbody : ∀ (cdv : Value) (A : Around) (outer : List Env) (s : Shared) (H : Hp) (E : XK), Room k (A.deeper (envOfC x (defScope st) s.heap.objs.size f cdv)) →
      XSs (cxOf (L2.CX P w) P w K mg base N x (defScope st) f cdv A outer s H E) (fun cls d _ H' => E cls d H') (defBody st) mb) : Def P w K mg base (k + 1) x (runDef ps.length N.length mb) :=
  ⟨f, fd, ps, hm, F.kp, hb, fn_okM F S hbody⟩
end
section
variable {X : Cx} {W : WX} {k : Nat} {x : Str} {F : FN} {p0 pos : Pos} {e : Expr} {es : List Expr} {ms : M (List PV)}
/-- f(e, ..) -/
theorem xe_call (D : Def X.prog X.w X.K X.mg X.base k x F) (hr : Room k X.A) (tk : Takes X W) (ha : XA X W (e :: es) ms) (hg : Gl X x := by rfl) (hdb : (x == ("__debug__" : Str)) = false := by decide)
    (he : starEach (e :: es) X.env = (false, eval e X.env) :: starEach es X.env := by rfl) (hpl : (backTo pos (starEach es X.env)).any (·.1) = false := by rfl) : XE X W (.Call (.Name x p0) (e :: es) [] pos) (mCall F ms) := by
  obtain ⟨f, fd, ps, hm, hk, hb, ok⟩ := D.ex
  exact pe_weak (pe_callS ok hr hg hm hk hb (fun σ => passAt tk σ) ha hdb he hpl) fun σ H Q ⟨ρ, h, l, p, rl, o⟩ => ⟨ρ, h, l, p, rl, Out.mono (Out.bind o) fun vs H1 ⟨xs, h1, ρ1, e1, p1, r1, o1⟩ => ⟨ρ1, h1, xs, p1, r1, o1⟩⟩
end
end Wg

namespace Wg
open PySem PySem.Spec PyProof.Rows L2
section
variable {X : Cx} {W : WX} {k : Nat} {p0 p1 pos : Pos} {a b c e : Expr} {es : List Expr} {ma mb mc : M PV} {ms : M (List PV)}
theorem xe_isi (hm : X.mg "isinstance" = none) (ha : XA X W (e :: es) ms) (hg : Gl X "isinstance" := by rfl) (he : starEach (e :: es) X.env = (false, eval e X.env) :: starEach es X.env := by rfl) (hpl : (backTo pos (starEach es X.env)).any (·.1) = false := by rfl) :
    XE X W (.Call (.Name "isinstance" p0) (e :: es) [] pos) (mCall fIsi ms) := xe_callB call_isi cx_isi hm boot_isinstance ha hg (by decide) (by decide) he hpl
theorem xe_len (hm : X.mg "len" = none) (ha : XA X W (e :: es) ms) (hg : Gl X "len" := by rfl) (he : starEach (e :: es) X.env = (false, eval e X.env) :: starEach es X.env := by rfl) (hpl : (backTo pos (starEach es X.env)).any (·.1) = false := by rfl) :
    XE X W (.Call (.Name "len" p0) (e :: es) [] pos) (mCall fLen ms) := xe_callB call_len cx_len hm boot_len ha hg (by decide) (by decide) he hpl
theorem xe_int_ (hm : X.mg "int" = none) (ha : XA X W (e :: es) ms) (hg : Gl X "int" := by rfl) (he : starEach (e :: es) X.env = (false, eval e X.env) :: starEach es X.env := by rfl) (hpl : (backTo pos (starEach es X.env)).any (·.1) = false := by rfl) :
    XE X W (.Call (.Name "int" p0) (e :: es) [] pos) (mCall fIntOf ms) := xe_callTy cr_intA cx_int hm PyProof.Rows.boot_int ha hg (by decide) (by decide) he hpl
theorem xe_str_ (hm : X.mg "str" = none) (ha : XA X W (e :: es) ms) (hg : Gl X "str" := by rfl) (he : starEach (e :: es) X.env = (false, eval e X.env) :: starEach es X.env := by rfl) (hpl : (backTo pos (starEach es X.env)).any (·.1) = false := by rfl) :
    XE X W (.Call (.Name "str" p0) (e :: es) [] pos) (mCall fStrOf ms) := xe_callTy cr_strA cx_str hm PyProof.Rows.boot_str ha hg (by decide) (by decide) he hpl
theorem xe_abs (hm : X.mg "abs" = none) (ha : XA X W (e :: es) ms) (hg : Gl X "abs" := by rfl) (he : starEach (e :: es) X.env = (false, eval e X.env) :: starEach es X.env := by rfl) (hpl : (backTo pos (starEach es X.env)).any (·.1) = false := by rfl) :
    XE X W (.Call (.Name "abs" p0) (e :: es) [] pos) (mCall fAbs ms) := xe_callB call_abs cx_abs hm boot_abs ha hg (by decide) (by decide) he hpl
theorem xe_max2 (hc : X.calm = true) (hm : X.mg "max" = none) (ha : XA X W (e :: es) ms) (hg : Gl X "max" := by rfl) (he : starEach (e :: es) X.env = (false, eval e X.env) :: starEach es X.env := by rfl) (hpl : (backTo pos (starEach es X.env)).any (·.1) = false := by rfl) :
    XE X W (.Call (.Name "max" p0) (e :: es) [] pos) (mCall fMax2 ms) := xe_callB (call_max2 hc) cx_max2 hm boot_max ha hg (by decide) (by decide) he hpl
theorem xe_min2 (hc : X.calm = true) (hm : X.mg "min" = none) (ha : XA X W (e :: es) ms) (hg : Gl X "min" := by rfl) (he : starEach (e :: es) X.env = (false, eval e X.env) :: starEach es X.env := by rfl) (hpl : (backTo pos (starEach es X.env)).any (·.1) = false := by rfl) :
    XE X W (.Call (.Name "min" p0) (e :: es) [] pos) (mCall fMin2 ms) := xe_callB (call_min2 hc) cx_min2 hm boot_min ha hg (by decide) (by decide) he hpl
theorem xe_all (hc : X.calm = true) (hm : X.mg "all" = none) (ha : XA X W (e :: es) ms) (hg : Gl X "all" := by rfl) (he : starEach (e :: es) X.env = (false, eval e X.env) :: starEach es X.env := by rfl) (hpl : (backTo pos (starEach es X.env)).any (·.1) = false := by rfl) :
    XE X W (.Call (.Name "all" p0) (e :: es) [] pos) (mCall fAll ms) := xe_callB (cr_all hc) cx_all hm boot_all ha hg (by decide) (by decide) he hpl
theorem xe_any (hc : X.calm = true) (hm : X.mg "any" = none) (ha : XA X W (e :: es) ms) (hg : Gl X "any" := by rfl) (he : starEach (e :: es) X.env = (false, eval e X.env) :: starEach es X.env := by rfl) (hpl : (backTo pos (starEach es X.env)).any (·.1) = false := by rfl) :
    XE X W (.Call (.Name "any" p0) (e :: es) [] pos) (mCall fAny ms) := xe_callB (cr_any hc) cx_any hm boot_any ha hg (by decide) (by decide) he hpl
theorem xe_tuple (hm : X.mg "tuple" = none) (ha : XA X W (e :: es) ms) (hg : Gl X "tuple" := by rfl) (he : starEach (e :: es) X.env = (false, eval e X.env) :: starEach es X.env := by rfl) (hpl : (backTo pos (starEach es X.env)).any (·.1) = false := by rfl) :
    XE X W (.Call (.Name "tuple" p0) (e :: es) [] pos) (mCall fTuple ms) := xe_callTy call_tuple_of cx_tuple hm PyProof.Rows.boot_tuple ha hg (by decide) (by decide) he hpl
theorem xe_list (hm : X.mg "list" = none) (ha : XA X W (e :: es) ms) (hg : Gl X "list" := by rfl) (he : starEach (e :: es) X.env = (false, eval e X.env) :: starEach es X.env := by rfl) (hpl : (backTo pos (starEach es X.env)).any (·.1) = false := by rfl) :
    XE X W (.Call (.Name "list" p0) (e :: es) [] pos) (mCall fList ms) := xe_callTy call_list_of cx_list hm PyProof.Rows.boot_list ha hg (by decide) (by decide) he hpl
theorem xe_listN (hm : X.mg "list" = none) (ha : XA X W (e :: es) ms) (hg : Gl X "list" := by rfl) (he : starEach (e :: es) X.env = (false, eval e X.env) :: starEach es X.env := by rfl) (hpl : (backTo pos (starEach es X.env)).any (·.1) = false := by rfl) :
    XE X W (.Call (.Name "list" p0) (e :: es) [] pos) (mCall fListN ms) := xe_callTy call_list_of cx_listN hm PyProof.Rows.boot_list ha hg (by decide) (by decide) he hpl
theorem xe_Tint (hm : X.mg "int" = none) (hg : Gl X "int" := by rfl) : XE X W (.Name "int" pos) (mC (.ty "int")) := xe_glob (pe_bltn (v := .ty "int") hg hm PyProof.Rows.boot_int rfl) fun _ _ _ _ => rfl
theorem xe_Tbool (hm : X.mg "bool" = none) (hg : Gl X "bool" := by rfl) : XE X W (.Name "bool" pos) (mC (.ty "bool")) := xe_glob (pe_bltn (v := .ty "bool") hg hm PyProof.Rows.boot_bool rfl) fun _ _ _ _ => rfl
theorem xe_Tstr (hm : X.mg "str" = none) (hg : Gl X "str" := by rfl) : XE X W (.Name "str" pos) (mC (.ty "str")) := xe_glob (pe_bltn (v := .ty "str") hg hm PyProof.Rows.boot_str rfl) fun _ _ _ _ => rfl
theorem xe_Ttuple (hm : X.mg "tuple" = none) (hg : Gl X "tuple" := by rfl) : XE X W (.Name "tuple" pos) (mC (.ty "tuple")) := xe_glob (pe_bltn (v := .ty "tuple") hg hm PyProof.Rows.boot_tuple rfl) fun _ _ _ _ => rfl
theorem xe_Tlist (hm : X.mg "list" = none) (hg : Gl X "list" := by rfl) : XE X W (.Name "list" pos) (mC (.ty "list")) := xe_glob (pe_bltn (v := .ty "list") hg hm PyProof.Rows.boot_list rfl) fun _ _ _ _ => rfl
theorem xe_Tdict (hm : X.mg "dict" = none) (hg : Gl X "dict" := by rfl) : XE X W (.Name "dict" pos) (mC (.ty "dict")) := xe_glob (pe_bltn (v := .ty "dict") hg hm PyProof.Rows.boot_dict rfl) fun _ _ _ _ => rfl
theorem xe_add (ha : XE X W a ma) (hb : XE X W b mb) : XE X W (.BinOp a .Add b pos) (mBin fAdd ma mb) := xe_bin op_addA ox_add ha hb
theorem xe_sub (ha : XE X W a ma) (hb : XE X W b mb) : XE X W (.BinOp a .Sub b pos) (mBin fSub ma mb) := xe_bin op_sub ox_sub ha hb
theorem xe_mul (ha : XE X W a ma) (hb : XE X W b mb) : XE X W (.BinOp a .Mult b pos) (mBin fMul ma mb) := xe_bin op_mulA ox_mul ha hb
theorem xe_div (ha : XE X W a ma) (hb : XE X W b mb) : XE X W (.BinOp a .FloorDiv b pos) (mBin fDiv ma mb) := xe_bin op_fdivW ox_div ha hb
theorem xe_mod (ha : XE X W a ma) (hb : XE X W b mb) : XE X W (.BinOp a .Mod b pos) (mBin fMod ma mb) := xe_bin op_mod ox_mod ha hb
theorem xe_pow (ha : XE X W a ma) (hb : XE X W b mb) : XE X W (.BinOp a .Pow b pos) (mBin fPow ma mb) := xe_bin op_pow ox_pow ha hb
theorem xe_lt (ha : XE X W a ma) (hb : XE X W b mb) : XE X W (.Compare a [.Lt] [b] pos) (mBin fLt ma mb) := xe_cmp op_ltA ox_ord ha hb (nomark _)
theorem xt_lt (ha : XE X W a ma) (hb : XE X W b mb) : XT X W (.Compare a [.Lt] [b] pos) (mB (mBin fLt ma mb)) := xt_cmp op_ltA ox_ord ha hb (nomark _)
theorem xe_le (ha : XE X W a ma) (hb : XE X W b mb) : XE X W (.Compare a [.LtE] [b] pos) (mBin fLe ma mb) := xe_cmp op_leA ox_ord ha hb (nomark _)
theorem xt_le (ha : XE X W a ma) (hb : XE X W b mb) : XT X W (.Compare a [.LtE] [b] pos) (mB (mBin fLe ma mb)) := xt_cmp op_leA ox_ord ha hb (nomark _)
theorem xe_gt (ha : XE X W a ma) (hb : XE X W b mb) : XE X W (.Compare a [.Gt] [b] pos) (mBin fGt ma mb) := xe_cmp op_gtA ox_ord ha hb (nomark _)
theorem xt_gt (ha : XE X W a ma) (hb : XE X W b mb) : XT X W (.Compare a [.Gt] [b] pos) (mB (mBin fGt ma mb)) := xt_cmp op_gtA ox_ord ha hb (nomark _)
theorem xe_ge (ha : XE X W a ma) (hb : XE X W b mb) : XE X W (.Compare a [.GtE] [b] pos) (mBin fGe ma mb) := xe_cmp op_geA ox_ord ha hb (nomark _)
theorem xt_ge (ha : XE X W a ma) (hb : XE X W b mb) : XT X W (.Compare a [.GtE] [b] pos) (mB (mBin fGe ma mb)) := xt_cmp op_geA ox_ord ha hb (nomark _)
theorem xe_eq (hr : Room k X.A) (ha : XE X W a ma) (hb : XE X W b mb) : XE X W (.Compare a [.Eq] [b] pos) (mBin fEq ma mb) := xe_cmp (op_eqA hr.units) ox_eq ha hb (nomark _)
theorem xt_eq (hr : Room k X.A) (ha : XE X W a ma) (hb : XE X W b mb) : XT X W (.Compare a [.Eq] [b] pos) (mB (mBin fEq ma mb)) := xt_cmp (op_eqA hr.units) ox_eq ha hb (nomark _)
theorem xe_ne (hr : Room k X.A) (ha : XE X W a ma) (hb : XE X W b mb) : XE X W (.Compare a [.NotEq] [b] pos) (mBin fNe ma mb) := xe_cmp (op_neA hr.units) ox_ne ha hb (nomark _)
theorem xt_ne (hr : Room k X.A) (ha : XE X W a ma) (hb : XE X W b mb) : XT X W (.Compare a [.NotEq] [b] pos) (mB (mBin fNe ma mb)) := xt_cmp (op_neA hr.units) ox_ne ha hb (nomark _)
theorem xe_inStr (ha : XE X W a ma) (hb : XE X W b mb) (hm : behindInMarks .In b = false := by with_unfolding_all rfl) : XE X W (.Compare a [.In] [b] pos) (mBin fInStr ma mb) := xe_cmp op_in_sign ox_inSign ha hb hm
def fNeg (x : PV) (h : Store) : R PV := match x with
  | .int i => .ok (.int (-i)) h
  | _ => .no
def mUn (f : PV → Store → R PV) (a : M PV) : M PV := fun l h => (a l h).bind f
theorem xe_neg (ha : XE X W a ma) : XE X W (.UnaryOp .USub a pos) (mUn fNeg ma) := pe_weak (pe_un un_neg ha) fun σ H Q ⟨ρ, h, l, p, rl, o⟩ => ⟨ρ, h, l, p, rl, Out.mono (Out.bind o) fun v H1 ⟨x, h1, ρ1, e1, p1, r1, o1⟩ => by
  unfold fNeg at o1
  split at o1
  next i => cases r1; exact ⟨i, rfl, o1.ok p1 rfl⟩
  next => exact o1.elim⟩
theorem xe_lt_lt (ha : XE X W a ma) (hb : XE X W b mb) (hc : XE X W c mc) (hm : lastMarks [.Lt, .Lt] [b, c] = false := by with_unfolding_all rfl) : XE X W (.Compare a [.Lt, .Lt] [b, c] pos) (mChain fLt fLt ma mb mc) := xe_chain op_ltA ox_ord op_ltA ox_ord ha hb hc hm
theorem xt_lt_lt (ha : XE X W a ma) (hb : XE X W b mb) (hc : XE X W c mc) (hm : lastMarks [.Lt, .Lt] [b, c] = false := by with_unfolding_all rfl) : XT X W (.Compare a [.Lt, .Lt] [b, c] pos) (mB (mChain fLt fLt ma mb mc)) := xt_chain op_ltA ox_ord op_ltA ox_ord ha hb hc hm
theorem xe_lt_le (ha : XE X W a ma) (hb : XE X W b mb) (hc : XE X W c mc) (hm : lastMarks [.Lt, .LtE] [b, c] = false := by with_unfolding_all rfl) : XE X W (.Compare a [.Lt, .LtE] [b, c] pos) (mChain fLt fLe ma mb mc) := xe_chain op_ltA ox_ord op_leA ox_ord ha hb hc hm
theorem xt_lt_le (ha : XE X W a ma) (hb : XE X W b mb) (hc : XE X W c mc) (hm : lastMarks [.Lt, .LtE] [b, c] = false := by with_unfolding_all rfl) : XT X W (.Compare a [.Lt, .LtE] [b, c] pos) (mB (mChain fLt fLe ma mb mc)) := xt_chain op_ltA ox_ord op_leA ox_ord ha hb hc hm
theorem xe_le_lt (ha : XE X W a ma) (hb : XE X W b mb) (hc : XE X W c mc) (hm : lastMarks [.LtE, .Lt] [b, c] = false := by with_unfolding_all rfl) : XE X W (.Compare a [.LtE, .Lt] [b, c] pos) (mChain fLe fLt ma mb mc) := xe_chain op_leA ox_ord op_ltA ox_ord ha hb hc hm
theorem xt_le_lt (ha : XE X W a ma) (hb : XE X W b mb) (hc : XE X W c mc) (hm : lastMarks [.LtE, .Lt] [b, c] = false := by with_unfolding_all rfl) : XT X W (.Compare a [.LtE, .Lt] [b, c] pos) (mB (mChain fLe fLt ma mb mc)) := xt_chain op_leA ox_ord op_ltA ox_ord ha hb hc hm
theorem xe_le_le (ha : XE X W a ma) (hb : XE X W b mb) (hc : XE X W c mc) (hm : lastMarks [.LtE, .LtE] [b, c] = false := by with_unfolding_all rfl) : XE X W (.Compare a [.LtE, .LtE] [b, c] pos) (mChain fLe fLe ma mb mc) := xe_chain op_leA ox_ord op_leA ox_ord ha hb hc hm
theorem xt_le_le (ha : XE X W a ma) (hb : XE X W b mb) (hc : XE X W c mc) (hm : lastMarks [.LtE, .LtE] [b, c] = false := by with_unfolding_all rfl) : XT X W (.Compare a [.LtE, .LtE] [b, c] pos) (mB (mChain fLe fLe ma mb mc)) := xt_chain op_leA ox_ord op_leA ox_ord ha hb hc hm
theorem xe_gt_gt (ha : XE X W a ma) (hb : XE X W b mb) (hc : XE X W c mc) (hm : lastMarks [.Gt, .Gt] [b, c] = false := by with_unfolding_all rfl) : XE X W (.Compare a [.Gt, .Gt] [b, c] pos) (mChain fGt fGt ma mb mc) := xe_chain op_gtA ox_ord op_gtA ox_ord ha hb hc hm
theorem xt_gt_gt (ha : XE X W a ma) (hb : XE X W b mb) (hc : XE X W c mc) (hm : lastMarks [.Gt, .Gt] [b, c] = false := by with_unfolding_all rfl) : XT X W (.Compare a [.Gt, .Gt] [b, c] pos) (mB (mChain fGt fGt ma mb mc)) := xt_chain op_gtA ox_ord op_gtA ox_ord ha hb hc hm
theorem xe_ge_ge (ha : XE X W a ma) (hb : XE X W b mb) (hc : XE X W c mc) (hm : lastMarks [.GtE, .GtE] [b, c] = false := by with_unfolding_all rfl) : XE X W (.Compare a [.GtE, .GtE] [b, c] pos) (mChain fGe fGe ma mb mc) := xe_chain op_geA ox_ord op_geA ox_ord ha hb hc hm
theorem xt_ge_ge (ha : XE X W a ma) (hb : XE X W b mb) (hc : XE X W c mc) (hm : lastMarks [.GtE, .GtE] [b, c] = false := by with_unfolding_all rfl) : XT X W (.Compare a [.GtE, .GtE] [b, c] pos) (mB (mChain fGe fGe ma mb mc)) := xt_chain op_geA ox_ord op_geA ox_ord ha hb hc hm
theorem xe_append (ho : XE X W a ma) (ha : XA X W (e :: es) ms) (hbase : attributeBase a "append" X.env (eval a X.env) = eval a X.env := by rfl)
    (hfew : ((backTo pos (starEach (e :: es) X.env)).all (fun x => !x.1) && (backToKw pos (keywordEach [] X.env)).all (fun x => x.1.isSome) && decide ((e :: es).length + ([] : List Keyword).length + (if ([] : List Keyword).isEmpty then 0 else 1) < 30)) = true := by rfl)
    (hline : (p0.endLine == pos.line) = true := by rfl) (hs : starEach (e :: es) X.env = (false, eval e X.env) :: starEach es X.env := by rfl) (hplain : (backTo pos (starEach es X.env)).any (·.1) = false := by rfl) :
    XE X W (.Call (.Attribute a "append" p0) (e :: es) [] pos) (mMeth "list" fAppend ma ms) := xe_bm PySem.F.plainAttrs_list PySem.F.slot_list_append PySem.F.type_list_append mt_append mx_append ho ha hbase hfew hline hs hplain
theorem xe_extend (ho : XE X W a ma) (ha : XA X W (e :: es) ms) (hbase : attributeBase a "extend" X.env (eval a X.env) = eval a X.env := by rfl)
    (hfew : ((backTo pos (starEach (e :: es) X.env)).all (fun x => !x.1) && (backToKw pos (keywordEach [] X.env)).all (fun x => x.1.isSome) && decide ((e :: es).length + ([] : List Keyword).length + (if ([] : List Keyword).isEmpty then 0 else 1) < 30)) = true := by rfl)
    (hline : (p0.endLine == pos.line) = true := by rfl) (hs : starEach (e :: es) X.env = (false, eval e X.env) :: starEach es X.env := by rfl) (hplain : (backTo pos (starEach es X.env)).any (·.1) = false := by rfl) :
    XE X W (.Call (.Attribute a "extend" p0) (e :: es) [] pos) (mMeth "list" fExtend ma ms) := xe_bm PySem.F.plainAttrs_list PySem.F.slot_list_extend PySem.F.type_list_extend mt_extend mx_extend ho ha hbase hfew hline hs hplain
theorem xe_popAt (ho : XE X W a ma) (ha : XA X W (e :: es) ms) (hbase : attributeBase a "pop" X.env (eval a X.env) = eval a X.env := by rfl)
    (hfew : ((backTo pos (starEach (e :: es) X.env)).all (fun x => !x.1) && (backToKw pos (keywordEach [] X.env)).all (fun x => x.1.isSome) && decide ((e :: es).length + ([] : List Keyword).length + (if ([] : List Keyword).isEmpty then 0 else 1) < 30)) = true := by rfl)
    (hline : (p0.endLine == pos.line) = true := by rfl) (hs : starEach (e :: es) X.env = (false, eval e X.env) :: starEach es X.env := by rfl) (hplain : (backTo pos (starEach es X.env)).any (·.1) = false := by rfl) :
    XE X W (.Call (.Attribute a "pop" p0) (e :: es) [] pos) (mMeth "list" fPopAt ma ms) := xe_bm PySem.F.plainAttrs_list PySem.F.slot_list_pop PySem.F.type_list_pop mt_popAt mx_popAt ho ha hbase hfew hline hs hplain
theorem xe_pop (ho : XE X W a ma) (hbase : attributeBase a "pop" X.env (eval a X.env) = eval a X.env := by rfl) (hline : (p0.endLine == pos.line) = true := by rfl) :
    XE X W (.Call (.Attribute a "pop" p0) [] [] pos) (mMeth "list" fPop ma mNil) := xe_bm0 PySem.F.plainAttrs_list PySem.F.slot_list_pop PySem.F.type_list_pop mt_pop mx_pop ho hbase hline
theorem xe_join (ho : XE X W a ma) (ha : XA X W (e :: es) ms) (hbase : attributeBase a "join" X.env (eval a X.env) = eval a X.env := by rfl)
    (hfew : ((backTo pos (starEach (e :: es) X.env)).all (fun x => !x.1) && (backToKw pos (keywordEach [] X.env)).all (fun x => x.1.isSome) && decide ((e :: es).length + ([] : List Keyword).length + (if ([] : List Keyword).isEmpty then 0 else 1) < 30)) = true := by rfl)
    (hline : (p0.endLine == pos.line) = true := by rfl) (hs : starEach (e :: es) X.env = (false, eval e X.env) :: starEach es X.env := by rfl) (hplain : (backTo pos (starEach es X.env)).any (·.1) = false := by rfl) :
    XE X W (.Call (.Attribute a "join" p0) (e :: es) [] pos) (mMeth "str" fJoin ma ms) := xe_bm PySem.F.plainAttrs_str PySem.F.slot_str_join PySem.F.type_str_join mt_join mx_join ho ha hbase hfew hline hs hplain
theorem xg_subL (ha : XE X W a ma) (hb : XE X W b mb) (hr : ∀ v, assign (.Subscript a b pos) X.env v = (do
      let ov ← holding [v] (eval a X.env)
      let iv ← holding [v, ov] (eval b X.env)
      standAt pos
      holding [v, ov, iv] (setItem ov iv v)
      release [v, ov, iv] []) := by intro _; rfl) : XG X W (.Subscript a b pos) (gSubX fSetL ma mb) := xg_sub ha hb set_list sx_list hr
theorem xv (i : Nat) {x : Str} {pos : Pos} (hN : X.N[i]? = some x := by rfl) (hv : Vis X.env.scope x := by first | exact Or.inl rfl | exact Or.inr (Or.inl rfl) | exact Or.inr (Or.inr rfl)) (hd : (x == ("__debug__" : Str)) = false := by decide)
    (hcd : (x == ("__classdict__" : Str)) = false := by decide) : XE X W (.Name x pos) (mVar i) := xe_var (pe_var hN hv hd hcd)

/-! ### dict displays, keys ints and texts -/
def mPairs : List (M PV × M PV) → M (List (PV × PV))
  | [] => fun _ h => .ok [] h
  | (mk, mv) :: r => fun l h => (mk l h).bind fun x h1 => (mv l h1).bind fun y h2 => (mPairs r l h2).bind fun ps h3 => .ok ((x, y) :: ps) h3
def keyEq (a b : PV) : Bool := decide (keyP a = keyP b)
def putP (kvs : List (PV × PV)) (k v : PV) : List (PV × PV) :=
  if (kvs.any fun kv => keyEq kv.1 k) = true then kvs.map fun kv => if keyEq kv.1 k = true then (kv.1, v) else kv else kvs ++ [(k, v)]
def mDct (ps : List (M PV × M PV)) : M PV := fun l h => (mPairs ps l h).bind fun kvs h1 => if kvs.length ≤ 15 ∧ (kvs.all fun kv => (keyP kv.1).isSome) = true then .ok (.dct (kvs.foldl (fun acc kv => putP acc kv.1 kv.2) [])) h1 else .no
theorem xe_dct0 : XE X W (.Dict [] [] pos) (mC (.dct [])) := pe_weak pe_dnewK fun σ H Q ⟨ρ, h, l, p, rl, o⟩ q hq => by
  have e := p.new hq (.dK [])
  exact o ρ _ (.ref q) e.1 e.2 ⟨q, [], rfl, ⟨p.fresh hq, upd_same⟩, rfl⟩
end
end Wg

namespace Wg
open PySem PySem.Spec PyProof.Rows L2
section
variable {K : PySem.W.Frag} {ρ ρ' ρ1 : Pl} {H H' H1 : Hp} {h : Store} {X : Cx} {W : WX} {pos : Pos}
theorem keyP_kV {k : PV} {c : Key} {v : V} (e : keyP k = some c) (r : RV K ρ H k v) : v = kV c := by
  cases k with
  | int i => cases e; exact r
  | str x => cases e; exact r
  | _ => cases e
theorem RVd.any {k : PV} {c : Key} (e : keyP k = some c) : ∀ {kvs : List (PV × PV)} {vs : List (Key × V)}, RVd K ρ H kvs vs → (kvs.any fun kv => keyEq kv.1 k) = vs.any fun kv => decide (kv.1 = c)
  | [], _, r => by rw [show _ = [] from r]; rfl
  | (k0, x) :: xs, _, ⟨c0, v, r, e1, e2, h1, h2⟩ => by
    subst e1
    rw [List.any_cons, List.any_cons, RVd.any e h2]
    congr 1
    show decide (keyP k0 = keyP k) = decide (c0 = c)
    rw [e2, e]
    by_cases z : c0 = c
    · subst z; simp
    · rw [decide_eq_false (fun q => z (Option.some.inj q)), decide_eq_false z]
theorem RVd.repl {k : PV} {c : Key} {y : PV} {u : V} (e : keyP k = some c) (ry : RV K ρ H y u) : ∀ {kvs : List (PV × PV)} {vs : List (Key × V)}, RVd K ρ H kvs vs →
    RVd K ρ H (kvs.map fun kv => if keyEq kv.1 k = true then (kv.1, y) else kv) (vs.map fun kv => if kv.1 = c then (kv.1, u) else kv)
  | [], _, r => by rw [show _ = [] from r]; rfl
  | (k0, x) :: xs, _, ⟨c0, v, r, e1, e2, h1, h2⟩ => by
    subst e1
    have ih := RVd.repl e ry h2
    rw [List.map_cons, List.map_cons]
    show RVd K ρ H ((if decide (keyP k0 = keyP k) = true then (k0, y) else (k0, x)) :: _) ((if c0 = c then (c0, u) else (c0, v)) :: _)
    rw [e2, e]
    by_cases z : c0 = c
    · subst z
      rw [if_pos (by simp), if_pos rfl]
      exact ⟨c0, u, _, rfl, e2, ry, ih⟩
    · rw [if_neg (by rw [decide_eq_false (fun q => z (Option.some.inj q))]; exact Bool.false_ne_true), if_neg z]
      exact ⟨c0, v, _, rfl, e2, h1, ih⟩
theorem RVd.app : ∀ {kvs ls : List (PV × PV)} {vs ws : List (Key × V)}, RVd K ρ H kvs vs → RVd K ρ H ls ws → RVd K ρ H (kvs ++ ls) (vs ++ ws)
  | [], _, _, _, r, q => by rw [show _ = [] from r]; exact q
  | (k0, x) :: xs, _, _, _, ⟨c0, v, r, e1, e2, h1, h2⟩, q => by subst e1; exact ⟨c0, v, _, rfl, e2, h1, RVd.app h2 q⟩
theorem RVd.len : ∀ {kvs : List (PV × PV)} {vs : List (Key × V)}, RVd K ρ H kvs vs → kvs.length = vs.length
  | [], _, r => by rw [show _ = [] from r] <;> rfl
  | (k0, x) :: xs, _, ⟨c0, v, r, e1, e2, h1, h2⟩ => by subst e1; rw [List.length_cons, List.length_cons, RVd.len h2]
theorem RVd.put {k : PV} {c : Key} {y : PV} {u : V} (e : keyP k = some c) (ry : RV K ρ H y u) {kvs : List (PV × PV)} {vs : List (Key × V)} (r : RVd K ρ H kvs vs) : RVd K ρ H (putP kvs k y) (putK vs c u) := by
  unfold putP putK
  rw [r.any e]
  split
  · exact r.repl e ry
  · exact r.app ⟨c, u, [], rfl, e, ry, rfl⟩

/-! ### displays of dicts -/
inductive XPs (X : Cx) (W : WX) (pos : Pos) : List (Option Expr) → List Expr → List (M PV × M PV) → Prop
  | nil : XPs X W pos [] [] []
  | cons {k v : Expr} {ks vs mk mv r} : XE X W k mk → XE X W v mv → XPs X W pos ks vs r → XPs X W pos (some k :: ks) (v :: vs) ((mk, mv) :: r)
theorem xps_pps {ks : List (Option Expr)} {vs : List Expr} {r : List (M PV × M PV)} (h : XPs X W pos ks vs r) : PPs X pos ks vs (r.map fun p => (tM X.K W p.1, tM X.K W p.2)) := by
  induction h with
  | nil => exact pps_nil
  | cons h1 h2 _ ih => exact pps_cons h1 h2 ih
/-- pairs of values -/
def RVp (K : PySem.W.Frag) (ρ : Pl) (H : Hp) : List (PV × PV) → List (V × V) → Prop
  | [], ps => ps = []
  | (k, x) :: r, ps => ∃ a b q, ps = (a, b) :: q ∧ RV K ρ H k a ∧ RV K ρ H x b ∧ RVp K ρ H r q
theorem tPairs_of {K : PySem.W.Frag} {W : WX} {l : Lv} {σ : L2.St} : ∀ {r : List (M PV × M PV)} {ρ : Pl} {h : Store} {H : Hp} {Q : List (V × V) → Hp → Prop}, Rep K ρ h H → RL K ρ H l σ →
    Out K ρ H (RVp K) (fun c d H' => W c d σ H') (mPairs r l h) Q → tPairs (r.map fun p => (tM K W p.1, tM K W p.2)) σ H Q
  | [], ρ, h, H, Q, p, rl, o => o.ok p rfl
  | (mk, mv) :: r, ρ, h, H, Q, p, rl, o => ⟨ρ, h, l, p, rl, Out.mono (Out.bind o) fun a H1 ⟨x, h1, ρ1, e1, p1, r1, o1⟩ => ⟨ρ1, h1, l, p1, rl.ext e1, Out.mono (Out.bind o1) fun b H2 ⟨y, h2, ρ2, e2, p2, r2, o2⟩ =>
      tPairs_of p2 ((rl.ext e1).ext e2) (Out.mono (Out.bind o2) fun ps H3 ⟨zs, h3, ρ3, e3, p3, r3, o3⟩ => o3.ok p3 ⟨a, b, ps, rfl, (r1.ext e2).ext e3, r2.ext e3, r3⟩)⟩⟩
theorem RVp.keys : ∀ {kvs : List (PV × PV)} {ps : List (V × V)}, RVp K ρ H kvs ps → (kvs.all fun kv => (keyP kv.1).isSome) = true → ∃ cs : List (Key × V), ps = cs.map (fun kv => (kV kv.1, kv.2)) ∧ cs.length = kvs.length ∧
    ∀ {ρ2 : Pl} {H2 : Hp} {acc : List (PV × PV)} {ac : List (Key × V)}, Kp ρ H ρ2 H2 → RVd K ρ2 H2 acc ac → RVd K ρ2 H2 (kvs.foldl (fun acc kv => putP acc kv.1 kv.2) acc) (mergeK ac cs)
  | [], _, r, _ => ⟨[], by rw [show _ = [] from r]; rfl, rfl, fun _ q => q⟩
  | (k, x) :: rs, _, ⟨a, b, q, e1, h1, h2, h3⟩, hall => by
    rw [List.all_cons, Bool.and_eq_true] at hall
    obtain ⟨c, hc⟩ := Option.isSome_iff_exists.mp hall.1
    obtain ⟨cs, e2, e3, f⟩ := RVp.keys h3 hall.2
    refine ⟨(c, b) :: cs, by rw [e1, e2, keyP_kV hc h1]; rfl, by rw [List.length_cons, List.length_cons, e3], fun {ρ2 H2 acc ac} k2 q2 => ?_⟩
    exact f k2 (q2.put hc (RV.kp k2 _ _ h2))
def mDctX (ps : List (M PV × M PV)) : M PV := fun l h => (mPairs ps l h).noX.bind fun kvs h1 => if kvs.length ≤ 15 ∧ (kvs.all fun kv => (keyP kv.1).isSome) = true then .ok (.dct (kvs.foldl (fun acc kv => putP acc kv.1 kv.2) [])) h1 else .no
theorem xe_dct {ks : List (Option Expr)} {vs : List Expr} {r : List (M PV × M PV)} (h : XPs X W pos ks vs r) (hall : ks.all (·.isSome) = true := by rfl) (hl : ks.length = vs.length := by rfl) (h0 : ks ≠ [] := by exact List.cons_ne_nil _ _) (h15 : ks.length ≤ 15 := by decide) :
    XE X W (.Dict ks vs pos) (mDctX r) := pe_weak (pe_disp (xps_pps h) hall hl h0 h15) fun σ H Q ⟨ρ, h, l, p, rl, o⟩ q hq => by
  unfold mDctX at o
  cases e : mPairs r l h with
  | no => rw [e] at o; exact o.elim
  | exc _ _ => rw [e] at o; exact o.elim
  | ok kvs h' =>
    rw [e] at o
    have o : Out X.K ρ H (RV X.K) (fun c d H' => W c d σ H') (if kvs.length ≤ 15 ∧ (kvs.all fun kv => (keyP kv.1).isSome) = true then .ok (.dct (kvs.foldl (fun acc kv => putP acc kv.1 kv.2) [])) h' else .no) Q := o
    obtain ⟨⟨c1, c2⟩, o⟩ := out_if o
    have nq := p.fresh hq
    refine tPairs_of (p.hide hq _) (rl.kp (Kp.hide hq _)) ?_
    rw [e]
    intro ρ' H2 ps x p2 rps
    obtain ⟨cs, e1, e2, f⟩ := RVp.keys rps c2
    have ncq : q ∉ (ρ.hide q).c := fun z => nq (.inl z)
    have hv : H2 q = some (.dK []) := x.old q _ ncq upd_same
    have nc' : q ∉ ρ'.c := by
      obtain ⟨m, m1, m2⟩ := x.pre
      intro z
      rw [m1] at z
      rcases List.mem_append.mp z with z | z
      · exact ncq z
      · exact (m2 q z).1 (.inr List.mem_cons_self)
    refine ⟨hv, cs, e1, by rw [e2]; exact c1, ?_⟩
    have hh : ρ'.hid = q :: ρ.hid := x.hid
    obtain ⟨c', hid'⟩ := ρ'
    cases hh
    have k2 : Kp ⟨c', q :: ρ.hid⟩ H2 ⟨c', ρ.hid⟩ (upd H2 q (.dK (mergeK [] cs))) := (Kp.hid_upd List.mem_cons_self _).trans Kp.out
    refine o ⟨c', ρ.hid⟩ _ (.ref q) ⟨?_, rfl, fun b u hb hu => ?_⟩ (p2.hid_upd List.mem_cons_self nc' _).out ⟨q, _, rfl, ⟨fun z => z.elim nc' fun z => nq (.inr z), upd_same⟩, f k2 rfl⟩
    · obtain ⟨m, m1, m2⟩ := x.pre
      refine ⟨m, m1, fun b hb => ⟨fun z => (m2 b hb).1 (z.elim .inl fun z => .inr (List.mem_cons_of_mem _ z)), ?_⟩⟩
      have z := (m2 b hb).2
      rwa [upd_ne (fun z => (m2 b hb).1 (.inr (by rw [z]; exact List.mem_cons_self)))] at z
    · rw [upd_ne (ne_of_none hu hq)]
      exact x.old b u hb (by rw [upd_ne (ne_of_none hu hq)]; exact hu)
end
end Wg

namespace Wg
open PySem PySem.Spec PyProof.Rows L2
theorem foldRep (z : List Nat) : ∀ (m : Nat) (acc : List Nat), List.foldl (fun x1 x2 => x1 ++ x2) acc.toArray (List.replicate m z.toArray) = (acc ++ (List.replicate m z).flatten).toArray
  | 0, acc => by simp
  | m + 1, acc => by
    rw [List.replicate_succ, List.foldl_cons, List.append_toArray, foldRep z m, List.replicate_succ, List.flatten_cons, List.append_assoc]
section
variable {K : PySem.W.Frag} {ρ : Pl} {H : Hp} {h : Store} {X : Cx} {W : WX} {pos : Pos} {a b : Expr} {ma mb : M PV}
/-- a text some times -/
def rMulS : R2 := fun x y H Q => ∃ (z : List Nat) (k : Int), x = strV z ∧ y = .int k ∧ 2 ≤ k ∧ k ≤ 1000 ∧ z.length ≤ 1000 ∧ z ≠ [] ∧ Q (strV (List.replicate k.toNat z).flatten) H
theorem op_mulS : OpR X (binaryOp .Mult) rMulS := by
  intro pins s σ H x y v u Q I rx ry h
  obtain ⟨z, k, rfl, rfl, h1, h2, h3, h4, q⟩ := h
  obtain ⟨t, rfl⟩ := rx
  obtain ⟨t', rfl⟩ := ry
  have hz : (⟨z.toArray⟩ : Str).length = z.length := by simp [Str.length]
  have h5 : z.length ≠ 0 := fun e => h4 (List.length_eq_zero_iff.mp e)
  have n1 : ¬ k < 1 := by omega
  have n2 : (k == 1 || (⟨z.toArray⟩ : Str).length == 0) = false := by
    rw [hz]
    simp only [Bool.or_eq_false_iff, beq_eq_false_iff_ne]
    exact ⟨by omega, h5⟩
  refine PySem.P.mul_str (by
      have a1 : ¬ k < -(2 ^ 63 : Int) := by omega
      have a2 : ¬ k ≥ 2 ^ 63 := by omega
      rw [decide_eq_false a1, decide_eq_false a2]; rfl) (fun _ _ => ?_) (fun _ _ => ?_) ?_
  · rw [hz]
    have : (1000 : Int) ≤ (2 ^ 63 - 1) / k := by
      rw [Int.le_ediv_iff_mul_le (by omega)]
      omega
    omega
  · rw [hz]
    have : z.length * k.toNat ≤ 1000 * 1000 := Nat.mul_le_mul h3 (by omega)
    refine decide_eq_false ?_
    have : (sizeLine : Nat) = 16777216 := by decide
    omega
  · rw [if_neg n1, if_neg (by rw [n2]; exact Bool.false_ne_true)]
    have e := foldRep z k.toNat []
    rw [List.nil_append] at e
    show (Made.str ⟨(List.replicate k.toNat z.toArray).foldl (· ++ ·) #[]⟩).post _ s
    have e' : List.foldl (fun x1 x2 => x1 ++ x2) (#[] : Array Nat) (List.replicate k.toNat z.toArray) = ((List.replicate k.toNat z).flatten).toArray := e
    rw [e']
    have hl : (List.replicate k.toNat z).flatten.length ≤ 1000000 := by
      rw [List.length_flatten, List.map_replicate, List.sum_replicate_nat]
      have : k.toNat * z.length ≤ 1000 * 1000 := Nat.mul_le_mul (by omega) h3
      omega
    exact ⟨by show _ ≤ 16777216; simp only [Str.length, List.size_toArray]; omega, .str _, H, I.tok _, ⟨_, rfl⟩, q⟩
def fMulA (x y : PV) (h : Store) : R PV := match x, y with
  | .str z, .int k => if 2 ≤ k ∧ k ≤ 1000 ∧ z.length ≤ 1000 ∧ z ≠ [] then .ok (.str (List.replicate k.toNat z).flatten) h else .no
  | _, _ => fMul x y h
theorem ox_mulA : OpX X W fMulA (fun x y H Q => rMulA x y H Q ∨ rMulS x y H Q) := by
  intro ρ h σ H x y v w Q p rx ry o
  unfold fMulA at o
  split at o
  next z k =>
    cases rx; cases ry
    obtain ⟨c, o⟩ := out_if o
    exact .inr ⟨z, k, rfl, rfl, c.1, c.2.1, c.2.2.1, c.2.2.2, o.ok p rfl⟩
  next => exact .inl (ox_mul ρ h σ H x y v w Q p rx ry o)
theorem xe_mulA (ha : XE X W a ma) (hb : XE X W b mb) : XE X W (.BinOp a .Mult b pos) (mBin fMulA ma mb) := xe_bin (op_mulA.or op_mulS) ox_mulA ha hb
theorem xe_gInt {x : Str} {i : Int} {t : Tok} (hm : X.mg x = some (.int i t)) (hg : Gl X x := by rfl) (hd : (x == ("__debug__" : Str)) = false := by decide) : XE X W (.Name x pos) (mC (.int i)) := xe_glob (pe_glob (v := .int i) hg hm ⟨t, rfl⟩ hd) fun _ _ _ _ => rfl
theorem xe_gStr {x : Str} {z : List Nat} {t : Tok} (hm : X.mg x = some (.str ⟨z.toArray⟩ t)) (hg : Gl X x := by rfl) (hd : (x == ("__debug__" : Str)) = false := by decide) : XE X W (.Name x pos) (mC (.str z)) := xe_glob (pe_glob (v := strV z) hg hm ⟨t, rfl⟩ hd) fun _ _ _ _ => rfl
/-- a tuple of the text's own part -/
theorem xe_gTup {x : Str} {p : Addr} {xs : List PV} (hm : X.mg x = some (.ref p)) (ht : ∀ ρ H h, Rep X.K ρ h H → RV X.K ρ H (.tup xs) (.ref p)) (hg : Gl X x := by rfl) (hd : (x == ("__debug__" : Str)) = false := by decide) : XE X W (.Name x pos) (mC (.tup xs)) := xe_glob (pe_glob (v := .ref p) hg hm rfl hd) ht
end
end Wg

namespace Wg
open PySem PySem.Spec PyProof.Rows L2
/-- the law, plainly -/
def PlainOk (F : FN) : Prop := ∀ ns : List Int, ns.length ≤ 63 → ∃ h, F [.scr (ns.map .int)] [] = .ok (.bl true) h
theorem rvs_ints {K : PySem.W.Frag} {ρ : Pl} {H : Hp} : ∀ ns : List Int, RVs K ρ H (ns.map .int) (ns.map V.int)
  | [] => rfl
  | n :: ns => ⟨.int n, _, rfl, rfl, rvs_ints ns⟩
theorem sp_law {K : PySem.W.Frag} {F : FN} (plain : PlainOk F) {H : Hp} {a : Addr} {ns : List Int} (hl : ns.length ≤ 63) (hS : SqL K H a (ns.map V.int)) : spM K F [.ref a] H (fun v _ => v = .bl true) fun _ _ _ => False := by
  obtain ⟨h, e⟩ := plain ns hl
  refine ⟨⟨[], []⟩, [], [.scr (ns.map .int)], ⟨rfl, List.nodup_nil, fun i c p q => by simp at q, fun p hp => by cases hp⟩, ⟨.ref a, [], rfl, ⟨a, _, rfl, ?_, rvs_ints ns⟩, rfl⟩, ?_⟩
  · exact Or.imp (fun hS => ⟨fun z => z.elim (fun z => List.not_mem_nil z) fun z => List.not_mem_nil z, hS⟩) id hS
  · rw [e]
    exact fun _ _ v _ _ r => r
theorem cx_none {P : Program} {w : World} {H : Hp} {s s' : Shared} {e : Value} (z : L2.CX P w [] H s (fun _ _ _ => False) e s') : False := by
  obtain ⟨_, _, _, _, _, _, _, _, _, _, _, _, z⟩ := z
  exact z
end Wg

namespace Wg
open PySem
/-! ### reasoning about what the functions tell -/
def Ok {α : Type} (r : R α) (Q : α → Store → Prop) : Prop := match r with
  | .ok a h => Q a h
  | _ => False
section
variable {α β : Type}
@[simp] theorem Ok_ok (a : α) (h : Store) (Q : α → Store → Prop) : Ok (.ok a h) Q = Q a h := (rfl)
@[simp] theorem Ok_no (Q : α → Store → Prop) : Ok (.no : R α) Q = False := (rfl)
@[simp] theorem Ok_exc (e : Ex) (h : Store) (Q : α → Store → Prop) : Ok (.exc e h : R α) Q = False := (rfl)
theorem Ok.mono {r : R α} {P Q : α → Store → Prop} (o : Ok r P) (m : ∀ a h, P a h → Q a h) : Ok r Q := by
  cases r with
  | ok a h => exact m _ _ o
  | exc e h => exact o
  | no => exact o
theorem Ok.call {r : R α} {P : α → Store → Prop} {k : α → Store → R β} {Q : β → Store → Prop} (o : Ok r P) (m : ∀ a h, P a h → Ok (k a h) Q) : Ok (r.bind k) Q := by
  cases r with
  | ok a h => exact m _ _ o
  | exc e h => exact o.elim
  | no => exact o.elim
theorem Ok.noX {r : R α} {Q : α → Store → Prop} (o : Ok r Q) : Ok r.noX Q := by
  cases r with
  | ok a h => exact o
  | exc e h => exact o.elim
  | no => exact o.elim
theorem Ok.out {r : R α} {Q : α → Store → Prop} (o : Ok r Q) : ∃ a h, r = .ok a h ∧ Q a h := by
  cases r with
  | ok a h => exact ⟨a, h, rfl, o⟩
  | exc e h => exact o.elim
  | no => exact o.elim
theorem Ok.of {r : R α} {a : α} {h : Store} (e : r = .ok a h) {Q : α → Store → Prop} (q : Q a h) : Ok r Q := by rw [e]; exact q
@[simp] theorem noX_ok (a : α) (h : Store) : (R.ok a h).noX = .ok a h := (rfl)
end
/-- of a def -/
theorem Ok.def {np n : Nat} {body : MS} {args : List PV} {h : Store} {Q : PV → Store → Prop} (hl : args.length = np)
    (o : Ok (body (initL n args) h) fun f h' => match f with
      | .rt x => Q x h'
      | .nx _ => Q .non h'
      | _ => False) : Ok (runDef np n body args h) Q := by
  unfold runDef
  rw [if_pos hl]
  cases e : body (initL n args) h with
  | no => rw [e] at o; exact o.elim
  | exc _ _ => rw [e] at o; exact o.elim
  | ok f h' =>
    rw [e] at o
    cases f with
    | rt x => exact o
    | nx l => exact o
    | bk l => exact o.elim
    | ct l => exact o.elim
section
variable {a b c : M PV} {ta tb tc : M Bool} {ms : M (List PV)} {s s1 s2 : MS} {l : Lv} {h : Store} {g : MG} {src : M (List PV)}
@[simp] theorem mVar_at (i : Nat) : mVar i l h = match l[i]? with
  | some (some x) => .ok x h
  | _ => .no := (rfl)
@[simp] theorem mC_at (x : PV) : mC x l h = .ok x h := (rfl)
@[simp] theorem mBin_at (f) : mBin f a b l h = (a l h).bind fun x h1 => (b l h1).bind fun y h2 => f x y h2 := (rfl)
@[simp] theorem mB_at : mB a l h = (a l h).bind fun x h1 => match x with
  | .bl b => .ok b h1
  | _ => .no := (rfl)
@[simp] theorem mAndT_at : mAndT ta tb l h = (ta l h).bind fun c h1 => if c = true then tb l h1 else .ok false h1 := (rfl)
@[simp] theorem mOrT_at : mOrT ta tb l h = (ta l h).bind fun c h1 => if c = true then .ok true h1 else tb l h1 := (rfl)
@[simp] theorem mNotT_at : mNotT ta l h = (ta l h).bind fun c h1 => .ok (!c) h1 := (rfl)
@[simp] theorem mAnd_at : mAnd a b l h = (a l h).bind fun x h1 => match x with
  | .bl c => if c = true then b l h1 else .ok (.bl false) h1
  | _ => .no := (rfl)
@[simp] theorem mOr_at : mOr a b l h = (a l h).bind fun x h1 => match x with
  | .bl c => if c = true then .ok (.bl true) h1 else b l h1
  | _ => .no := (rfl)
@[simp] theorem mNot_at : mNot a l h = (a l h).bind fun x h1 => match x with
  | .bl c => .ok (.bl (!c)) h1
  | _ => .no := (rfl)
@[simp] theorem mIfE_at : mIfE ta a b l h = (ta l h).bind fun k h1 => if k = true then a l h1 else b l h1 := (rfl)
@[simp] theorem mChain_at (f g) : mChain f g a b c l h = (a l h).bind fun x h1 => (b l h1).bind fun y h2 => (f x y h2).bind fun k h3 => match k with
  | .bl k => if k = true then (c l h3).bind fun z h4 => g y z h4 else .ok (.bl false) h3
  | _ => .no := (rfl)
@[simp] theorem mNil_at : mNil l h = .ok [] h := (rfl)
@[simp] theorem mCons_at : mCons a ms l h = (a l h).bind fun x h1 => (ms l h1).bind fun xs h2 => .ok (x :: xs) h2 := (rfl)
@[simp] theorem mTup_at : mTup ms l h = (ms l h).bind fun xs h1 => if xs.length ≤ sizeLine then .ok (.tup xs) h1 else .no := (rfl)
@[simp] theorem mLst_at : mLst ms l h = (ms l h).bind fun xs h1 => if xs.length ≤ sizeLine then .ok (.lst xs) h1 else .no := (rfl)
@[simp] theorem mLstN_at : mLstN ms l h = (ms l h).bind fun xs h1 => if xs.length ≤ sizeLine then .ok (.ref h1.length) (h1 ++ [.lst xs]) else .no := (rfl)
@[simp] theorem mCall_at (f : FN) : mCall f ms l h = (ms l h).bind f := (rfl)
@[simp] theorem mUn_at (f) : mUn f a l h = (a l h).bind f := (rfl)
@[simp] theorem mMeth_at (T f) : mMeth T f a ms l h = (a l h).bind fun x h1 => if tyM h1 T x = true then (ms l h1).bind fun xs h2 => f x xs h2 else .no := (rfl)
@[simp] theorem mDone_at : mDone l h = .ok (.nx l) h := (rfl)
@[simp] theorem mSeq_at : mSeq s1 s2 l h = (s1 l h).bind fun f h1 => f.on h1 s2 := (rfl)
@[simp] theorem on_nx (h : Store) (k : Lv → Store → R Fl) : (Fl.nx l).on h k = k l h := (rfl)
@[simp] theorem on_rt (x : PV) (h : Store) (k : Lv → Store → R Fl) : (Fl.rt x).on h k = .ok (.rt x) h := (rfl)
@[simp] theorem on_bk (h : Store) (k : Lv → Store → R Fl) : (Fl.bk l).on h k = .ok (.bk l) h := (rfl)
@[simp] theorem on_ct (h : Store) (k : Lv → Store → R Fl) : (Fl.ct l).on h k = .ok (.ct l) h := (rfl)
@[simp] theorem mRet_at : mRet a l h = (a l h).bind fun x h1 => .ok (.rt x) h1 := (rfl)
@[simp] theorem mRetN_at : mRetN l h = .ok (.rt .non) h := (rfl)
@[simp] theorem mDrop_at : mDrop a l h = (a l h).bind fun _ h1 => .ok (.nx l) h1 := (rfl)
@[simp] theorem mBreak_at : mBreak l h = .ok (.bk l) h := (rfl)
@[simp] theorem mCont_at : mCont l h = .ok (.ct l) h := (rfl)
@[simp] theorem mIf_at : mIf tc s1 s2 l h = (tc l h).bind fun k h1 => if k = true then s1 l h1 else s2 l h1 := (rfl)
@[simp] theorem gVar_at (i : Nat) (x : PV) : gVar i x l h = .ok (l.set i (some x)) h := (rfl)
@[simp] theorem mSet_at (i : Nat) : mSet i a l h = (a l h).bind fun x h1 => .ok (.nx (l.set i (some x))) h1 := (rfl)
@[simp] theorem gSubX_at (f) (z : PV) : gSubX f a b z l h = (a l h).bind fun x h1 => (b l h1).bind fun y h2 => (f x y z h2).bind fun _ h3 => .ok l h3 := (rfl)
@[simp] theorem mAsg_at : mAsg a g l h = (a l h).bind fun x h1 => (g x l h1).bind fun l2 h2 => .ok (.nx l2) h2 := (rfl)
@[simp] theorem mYes_at : mYes l h = .ok true h := (rfl)
@[simp] theorem mItC_at (f) : mItC f ms l h = (ms l h).bind f := (rfl)
@[simp] theorem mItS_at : mItS a l h = (a l h).bind fun x h1 => match x with
  | .str z => .ok (z.map fun c => .str [c]) h1
  | _ => .no := (rfl)
@[simp] theorem mFor_at : mFor src g s l h = (src l h).bind fun ys h1 => forL g s ys l h1 := (rfl)
@[simp] theorem mLc_at (own : List Nat) (t : M Bool) (e : M PV) : mLc src own g t e l h = (src l h).bind fun ys h1 =>
  if ys.length ≤ sizeLine then (lcL g t e ys (wipeL l own) h1).bind fun zs h2 => .ok (.lst zs) h2 else .no := (rfl)
@[simp] theorem mLcN_at (own : List Nat) (t : M Bool) (e : M PV) : mLcN src own g t e l h = (src l h).bind fun ys h1 =>
  if ys.length ≤ sizeLine then (lcL g t e ys (wipeL l own) h1).bind fun zs h2 => .ok (.ref h2.length) (h2 ++ [.lst zs]) else .no := (rfl)
@[simp] theorem wipeL_nil : wipeL l [] = l := (rfl)
@[simp] theorem wipeL_cons (v : Nat) (vs : List Nat) : wipeL l (v :: vs) = (wipeL l vs).set v none := (rfl)
theorem initL_at (n : Nat) (args : List PV) : initL n args = args.map some ++ List.replicate (n - args.length) none := rfl
/-- a for loop by an invariant -/
theorem Ok.forL {body : MS} {Q : Fl → Store → Prop} (Inv : Lv → Store → Prop) (hQ : ∀ l h, Inv l h → Q (.nx l) h) : ∀ {ys : List PV} {l : Lv} {h : Store}, Inv l h →
    (∀ y ∈ ys, ∀ l h, Inv l h → Ok (g y l h) fun l1 h1 => Ok (body l1 h1) fun f h2 => match f with
      | .nx l2 => Inv l2 h2
      | .ct l2 => Inv l2 h2
      | .bk l2 => Q (.nx l2) h2
      | .rt x => Q (.rt x) h2) → Ok (forL g body ys l h) Q
  | [], l, h, i, _ => hQ l h i
  | y :: ys, l, h, i, st => by
    refine Ok.call (st y List.mem_cons_self l h i) fun l1 h1 o => Ok.call o fun f h2 o2 => ?_
    cases f with
    | nx l2 => exact Ok.forL Inv hQ o2 fun y hy => st y (List.mem_cons_of_mem _ hy)
    | ct l2 => exact Ok.forL Inv hQ o2 fun y hy => st y (List.mem_cons_of_mem _ hy)
    | bk l2 => exact o2
    | rt x => exact o2
/-- a comprehension that changes the store: what holds of each element -/
theorem Ok.lcL {t : M Bool} {e : M PV} (Inv : Store → Prop) (P : PV → Prop) : ∀ {ys : List PV} {l : Lv} {h : Store}, Inv h →
    (∀ y ∈ ys, ∀ h, Inv h → Ok (g y l h) fun l1 h1 => Ok (t l1 h1) fun b h2 => if b = true then Ok (e l1 h2) fun z h3 => P z ∧ Inv h3 else Inv h2) →
    Ok (lcL g t e ys l h) fun zs h' => Inv h' ∧ (∀ z ∈ zs, P z) ∧ zs.length ≤ ys.length
  | [], l, h, i, _ => ⟨i, (fun z hz => absurd hz List.not_mem_nil), Nat.le_refl _⟩
  | y :: ys, l, h, i, st => by
    refine Ok.call (st y List.mem_cons_self h i).noX fun l1 h1 o => Ok.call o.noX fun b h2 o2 => ?_
    cases b with
    | false => exact (Ok.lcL Inv P o2 fun y hy => st y (List.mem_cons_of_mem _ hy)).mono fun zs h' q => ⟨q.1, q.2.1, Nat.le_succ_of_le q.2.2⟩
    | true =>
      refine Ok.call (Ok.noX o2) fun z h3 o3 => Ok.call (Ok.lcL Inv P o3.2 fun y hy => st y (List.mem_cons_of_mem _ hy)) fun zs h4 q => ⟨q.1, fun w hw => ?_, Nat.succ_le_succ q.2.2⟩
      rcases List.mem_cons.mp hw with z' | z'
      · rw [z']; exact o3.1
      · exact q.2.1 w z'
/-- .. that changes nothing -/
theorem lcL_eq {t : M Bool} {e : M PV} (B : PV → Bool) (F : PV → PV) : ∀ {ys : List PV} {l : Lv} {h : Store},
    (∀ y ∈ ys, ∃ l1, g y l h = .ok l1 h ∧ t l1 h = .ok (B y) h ∧ (B y = true → e l1 h = .ok (F y) h)) → lcL g t e ys l h = .ok ((ys.filter B).map F) h
  | [], l, h, _ => rfl
  | y :: ys, l, h, st => by
    obtain ⟨l1, e1, e2, e3⟩ := st y List.mem_cons_self
    have ih := lcL_eq (h := h) (l := l) B F fun y hy => st y (List.mem_cons_of_mem _ hy)
    show (g y l h).noX.bind (fun l1 h1 => (t l1 h1).noX.bind fun b h2 => if b = true then (e l1 h2).noX.bind fun z h3 => (Wg.lcL g t e ys l h3).bind fun zs h4 => .ok (z :: zs) h4 else Wg.lcL g t e ys l h2) = _
    rw [e1]
    show (t l1 h).noX.bind (fun b h2 => if b = true then (e l1 h2).noX.bind fun z h3 => (Wg.lcL g t e ys l h3).bind fun zs h4 => .ok (z :: zs) h4 else Wg.lcL g t e ys l h2) = _
    rw [e2]
    cases hb : B y with
    | false => rw [List.filter_cons, if_neg (by rw [hb]; exact Bool.false_ne_true)]; exact ih
    | true =>
      rw [List.filter_cons, if_pos hb]
      show (e l1 h).noX.bind (fun z h3 => (Wg.lcL g t e ys l h3).bind fun zs h4 => .ok (z :: zs) h4) = _
      rw [e3 hb]
      show (Wg.lcL g t e ys l h).bind (fun zs h4 => .ok (F y :: zs) h4) = _
      rw [ih]
      rfl
end
/-! ### figures of numbers -/
theorem repr_nat (n : Nat) : (toString n).toList = Nat.toDigits 10 n := by
  show (Nat.repr n).toList = _
  unfold Nat.repr
  simp
theorem digs_nat (n : Nat) : digs (n : Int) = TL.numL n := by
  show ((toString ((n : Nat) : Int)).toList).map Char.toNat = (Nat.toDigits 10 n).map Char.toNat
  have : toString ((n : Nat) : Int) = toString n := rfl
  rw [this, repr_nat]
theorem digs_neg (n : Nat) : digs (-((n + 1 : Nat) : Int)) = 45 :: TL.numL (n + 1) := by
  have e : (-((n + 1 : Nat) : Int)) = Int.negSucc n := rfl
  rw [e]
  show (toString (Int.negSucc n)).toList.map Char.toNat = _
  have : (toString (Int.negSucc n)) = "-" ++ toString (n + 1) := rfl
  rw [this, String.toList_append, List.map_append, repr_nat]
  rfl
open PySem.NumText in
theorem digitsVal_lt : ∀ (n : Nat) (cs : List Nat), cs.length = n → (∀ c ∈ cs, 48 ≤ c ∧ c ≤ 57) → digitsVal cs < 10 ^ n
  | 0, cs, e, _ => by rw [List.length_eq_zero_iff.mp e]; decide
  | n + 1, cs, e, h => by
    have hne : cs ≠ [] := fun z => by rw [z] at e; cases e
    obtain ⟨as, c, rfl⟩ : ∃ as c, cs = as ++ [c] := ⟨cs.dropLast, cs.getLast hne, (List.dropLast_concat_getLast hne).symm⟩
    rw [digitsVal_snoc]
    have ih := digitsVal_lt n as (by simpa using e) fun d hd => h d (List.mem_append_left _ hd)
    have hc := h c (List.mem_append_right _ List.mem_cons_self)
    rw [Nat.pow_succ]
    omega
theorem numL_lenge {n k : Nat} (h : 10 ^ k ≤ n) : k < (TL.numL n).length := by
  have a := digitsVal_lt _ (TL.numL n) rfl fun c hc => by
    have z := TL.numL_digits n c hc
    exact ⟨z.1, z.2⟩
  rw [TL.numL_val] at a
  exact (Nat.pow_lt_pow_iff_right (by decide : 1 < 10)).mp (Nat.lt_of_le_of_lt h a)
theorem numL_len_iff {n k : Nat} (hk : 0 < k) : (TL.numL n).length ≤ k ↔ n < 10 ^ k :=
  ⟨fun h => Nat.lt_of_not_le fun z => absurd (numL_lenge z) (by omega), TL.numL_len hk⟩
theorem digs_len (i : Int) : ((digs i).length : Int) = (TL.numL i.natAbs).length + (if i < 0 then 1 else 0) := by
  cases i with
  | ofNat n =>
    have : ¬ (Int.ofNat n < 0) := Int.not_lt.mpr (Int.natCast_nonneg n)
    rw [if_neg this]
    show ((digs (n : Int)).length : Int) = _
    rw [digs_nat]
    simp
  | negSucc n =>
    rw [if_pos (Int.negSucc_lt_zero n)]
    have := digs_neg n
    have e : (-((n + 1 : Nat) : Int)) = Int.negSucc n := rfl
    rw [e] at this
    rw [this]
    rfl
theorem log_small {i : Int} (h : i.natAbs < 10 ^ 75) : i.natAbs.log2 < 1920 := by
  by_cases z : i.natAbs = 0
  · rw [z]; decide
  · exact Nat.lt_trans ((Nat.log2_lt z).mpr (Nat.lt_trans h (by decide : 10 ^ 75 < 2 ^ 250))) (by decide)
/-! ### the draws -/
/-- the dice of a law stand at a -/
def Dice (h : Store) (a : Nat) : Prop := ∃ l b c : Int, h[a]? = some (.lst [.int l, .int b, .int c]) ∧ 0 ≤ l
end Wg

namespace Wg
open PySem
/-! ### what the operators tell, as rules for simp -/
section
variable {h : Store} {i j : Int} {x y : List Nat} {xs ys : List PV} {b c : Bool} {a : Nat}
@[simp] theorem fAdd_int : fAdd (.int i) (.int j) h = .ok (.int (i + j)) h := (rfl)
theorem fAdd_str (k : x.length + y.length ≤ 1000000) : fAdd (.str x) (.str y) h = .ok (.str (x ++ y)) h := if_pos (show _ ≤ 16777216 by omega)
theorem fAdd_tup (k : xs.length + ys.length ≤ 1000000) : fAdd (.tup xs) (.tup ys) h = .ok (.tup (xs ++ ys)) h := if_pos (show _ ≤ 16777216 by omega)
theorem fAdd_lst (k : xs.length + ys.length ≤ 1000000) : fAdd (.lst xs) (.lst ys) h = .ok (.lst (xs ++ ys)) h := if_pos (show _ ≤ 16777216 by omega)
@[simp] theorem fSub_int : fSub (.int i) (.int j) h = .ok (.int (i - j)) h := (rfl)
@[simp] theorem fMulA_l (k : -(2 ^ 64) < i ∧ i < 2 ^ 64) : fMulA (.int i) (.int j) h = .ok (.int (i * j)) h := by
  show (if _ then _ else _) = _
  rw [if_pos]
  simp only [Bool.or_eq_true, Bool.and_eq_true, decide_eq_true_eq]
  exact .inl (.inl k)
@[simp] theorem fMulA_r (k : -(2 ^ 64) < j ∧ j < 2 ^ 64) : fMulA (.int i) (.int j) h = .ok (.int (i * j)) h := by
  show (if _ then _ else _) = _
  rw [if_pos]
  simp only [Bool.or_eq_true, Bool.and_eq_true, decide_eq_true_eq]
  exact .inl (.inr k)
@[simp] theorem fMulA_60 : fMulA (.int 1000000000000000000000000000000000000000000000000000000000000) (.int 1000000000000000000000000000000000000000000000000000000000000) h = .ok (.int (10 ^ 60 * 10 ^ 60)) h := by
  unfold fMulA fMul fInt
  exact if_pos (by decide +kernel)
@[simp] theorem fDiv_int (k : 0 < j) (k2 : j < 2 ^ 200) : fDiv (.int i) (.int j) h = .ok (.int (i / j)) h := by
  show (if _ then _ else _) = _
  rw [if_pos]
  rw [Bool.and_eq_true, decide_eq_true_eq, decide_eq_true_eq]
  exact ⟨k, Int.lt_of_lt_of_le k2 (by decide +kernel)⟩
@[simp] theorem fMod_int (k : 0 < j) : fMod (.int i) (.int j) h = .ok (.int (i % j)) h := by
  show (if _ then _ else _) = _
  rw [if_pos (by rw [decide_eq_true_eq]; exact k)]
@[simp] theorem fPow_int (k1 : 0 ≤ j) (k2 : j ≤ 1000000) (k3 : i.natAbs < 2 ^ 64) : fPow (.int i) (.int j) h = .ok (.int (i ^ j.toNat)) h := by
  show (if _ then _ else _) = _
  rw [if_pos]
  simp only [Bool.and_eq_true, decide_eq_true_eq]
  exact ⟨⟨k1, k2⟩, k3⟩
@[simp] theorem fNeg_int : fNeg (.int i) h = .ok (.int (-i)) h := (rfl)
@[simp] theorem fLt_int : fLt (.int i) (.int j) h = .ok (.bl (decide (i < j))) h := (rfl)
@[simp] theorem fLe_int : fLe (.int i) (.int j) h = .ok (.bl (decide (i ≤ j))) h := (rfl)
@[simp] theorem fGt_int : fGt (.int i) (.int j) h = .ok (.bl (decide (j < i))) h := (rfl)
@[simp] theorem fGe_int : fGe (.int i) (.int j) h = .ok (.bl (decide (j ≤ i))) h := (rfl)
@[simp] theorem fLt_str : fLt (.str x) (.str y) h = .ok (.bl (decide (x < y))) h := (rfl)
@[simp] theorem fLe_str : fLe (.str x) (.str y) h = .ok (.bl (!decide (y < x))) h := (rfl)
@[simp] theorem fGt_str : fGt (.str x) (.str y) h = .ok (.bl (decide (y < x))) h := (rfl)
@[simp] theorem fGe_str : fGe (.str x) (.str y) h = .ok (.bl (!decide (x < y))) h := (rfl)
@[simp] theorem fIntOf_int : fIntOf [.int i] h = .ok (.int i) h := (rfl)
@[simp] theorem fIntOf_bl : fIntOf [.bl b] h = .ok (.int (if b = true then 1 else 0)) h := (rfl)
@[simp] theorem fAbs_int : fAbs [.int i] h = .ok (.int (if i < 0 then -i else i)) h := (rfl)
@[simp] theorem fMax2_int : fMax2 [.int i, .int j] h = .ok (.int (if j > i then j else i)) h := (rfl)
@[simp] theorem fMin2_int : fMin2 [.int i, .int j] h = .ok (.int (if j < i then j else i)) h := (rfl)
theorem fStrOf_int (k : i.natAbs < 10 ^ 75) : fStrOf [.int i] h = .ok (.str (digs i)) h := if_pos (log_small k)
@[simp] theorem fStrOf_str : fStrOf [.str x] h = .ok (.str x) h := (rfl)
@[simp] theorem fLen_str (k : x.length ≤ 1000000) : fLen [.str x] h = .ok (.int x.length) h := if_pos (show _ ≤ 16777216 by omega)
@[simp] theorem fLen_tup : fLen [.tup xs] h = .ok (.int xs.length) h := (rfl)
@[simp] theorem fLen_lst : fLen [.lst xs] h = .ok (.int xs.length) h := (rfl)
@[simp] theorem fLen_scr : fLen [.scr xs] h = .ok (.int xs.length) h := (rfl)
theorem fLen_ref (k : h[a]? = some (.lst xs)) : fLen [.ref a] h = .ok (.int xs.length) h := by
  show (match (match h[a]? with | some (.lst xs) => some xs | _ => none) with | some ys => R.ok (PV.int ys.length) h | none => .no) = _
  rw [k]
@[simp] theorem fTuple_tup : fTuple [.tup xs] h = .ok (.tup xs) h := (rfl)
@[simp] theorem fTuple_lst : fTuple [.lst xs] h = .ok (.tup xs) h := (rfl)
@[simp] theorem fTuple_scr : fTuple [.scr xs] h = .ok (.tup xs) h := (rfl)
@[simp] theorem fList_tup : fList [.tup xs] h = .ok (.lst xs) h := (rfl)
@[simp] theorem fList_lst : fList [.lst xs] h = .ok (.lst xs) h := (rfl)
@[simp] theorem fList_scr : fList [.scr xs] h = .ok (.lst xs) h := (rfl)
theorem bools_map {α : Type} (f : α → Bool) : ∀ zs : List α, bools (zs.map fun z => .bl (f z)) = some (zs.map f)
  | [] => rfl
  | z :: zs => by rw [List.map_cons, bools, bools_map f zs]; rfl
theorem fAll_map {α : Type} (f : α → Bool) (zs : List α) : fAll [.lst (zs.map fun z => .bl (f z))] h = .ok (.bl (zs.all f)) h := by
  show (match bools (zs.map fun z => PV.bl (f z)) with | some bs => R.ok (PV.bl (bs.all id)) h | none => .no) = _
  rw [bools_map]
  simp [List.all_map]
theorem fAny_map {α : Type} (f : α → Bool) (zs : List α) : fAny [.lst (zs.map fun z => .bl (f z))] h = .ok (.bl (zs.any f)) h := by
  show (match bools (zs.map fun z => PV.bl (f z)) with | some bs => R.ok (PV.bl (bs.any id)) h | none => .no) = _
  rw [bools_map]
  simp [List.any_map]
/-- places -/
theorem fIx_seq {x : PV} {zs : List PV} {z : PV} (hs : ∀ w, x ≠ .str w) (k : seqRd h x = some zs) (k2 : L2.atI zs i = some z) : fIx x (.int i) h = .ok z h := by
  cases x with
  | str w => exact absurd rfl (hs w)
  | _ => simp only [fIx, k, k2]
theorem atI_nat {α : Type} {zs : List α} {n : Nat} : L2.atI zs (n : Int) = zs[n]? := by
  unfold L2.atI L2.ixN
  by_cases k : n < zs.length
  · simp [k]
  · simp [k]
theorem fIx_tup {n : Nat} {z : PV} (k : xs[n]? = some z) : fIx (.tup xs) (.int (n : Int)) h = .ok z h := fIx_seq (by intro w e; cases e) rfl (by rw [atI_nat]; exact k)
theorem fIx_lst {n : Nat} {z : PV} (k : xs[n]? = some z) : fIx (.lst xs) (.int (n : Int)) h = .ok z h := fIx_seq (by intro w e; cases e) rfl (by rw [atI_nat]; exact k)
theorem fIx_scr {n : Nat} {z : PV} (k : xs[n]? = some z) : fIx (.scr xs) (.int (n : Int)) h = .ok z h := fIx_seq (by intro w e; cases e) rfl (by rw [atI_nat]; exact k)
theorem fIx_ref {n : Nat} {z : PV} (k0 : h[a]? = some (.lst xs)) (k : xs[n]? = some z) : fIx (.ref a) (.int (n : Int)) h = .ok z h :=
  fIx_seq (by intro w e; cases e) (by show (match h[a]? with | some (.lst xs) => some xs | _ => none) = _; rw [k0]) (by rw [atI_nat]; exact k)
theorem fIx_str {n : Nat} {z : Nat} (k : x[n]? = some z) (k2 : x.length ≤ 1000000) : fIx (.str x) (.int (n : Int)) h = .ok (.str [z]) h := by
  show (match L2.atI x (n : Int) with | some c => if x.length ≤ sizeLine then R.ok (PV.str [c]) h else .no | none => .no) = _
  rw [atI_nat, k]
  exact if_pos (show _ ≤ 16777216 by omega)
theorem fSetL_ref {n : Nat} {z : PV} (k0 : h[a]? = some (.lst xs)) (k : n < xs.length) : fSetL (.ref a) (.int (n : Int)) z h = .ok () (h.set a (.lst (xs.set n z))) := by
  unfold fSetL cellL
  simp only [k0]
  have : L2.ixN xs.length (n : Int) = some n := by
    unfold L2.ixN
    simp [k]
  rw [this]
theorem fAppend_ref {z : PV} (k0 : h[a]? = some (.lst xs)) (k : xs.length ≤ 1000000) : fAppend (.ref a) [z] h = .ok .non (h.set a (.lst (xs ++ [z]))) := by
  unfold fAppend cellL
  simp only [k0]
  exact if_pos (show _ < 16777216 by omega)
theorem tyM_ref (k0 : h[a]? = some (.lst xs)) : tyM h "list" (.ref a) = true := by
  unfold tyM
  simp only [k0]
  rfl
@[simp] theorem tyM_str : tyM h "str" (.str x) = true := (rfl)
@[simp] theorem tyM_lst : tyM h "list" (.lst xs) = true := (rfl)
@[simp] theorem fRange1_int (k : -1000000000 ≤ j ∧ j ≤ 1000000000) : fRange1 [.int j] h = .ok (runI 0 j.toNat) h := if_pos (by omega)
@[simp] theorem fRange2_int (k : -1000000000 ≤ i ∧ i ≤ 1000000000 ∧ -1000000000 ≤ j ∧ j ≤ 1000000000) : fRange2 [.int i, .int j] h = .ok (runI i (j - i).toNat) h := if_pos (by omega)
theorem mem_runI {lo : Int} {n : Nat} {y : PV} (k : y ∈ runI lo n) : ∃ m : Nat, m < n ∧ y = .int (lo + m) := by
  obtain ⟨m, hm, e⟩ := List.mem_map.mp k
  exact ⟨m, List.mem_range.mp hm, e.symm⟩
@[simp] theorem runI_len {lo : Int} {n : Nat} : (runI lo n).length = n := by unfold runI; simp
@[simp] theorem fInStr_str {c : Nat} : fInStr (.str [c]) (.str y) h = .ok (.bl (decide (c ∈ y))) h := (rfl)
end
end Wg

namespace Wg
open PySem
def s__law_dice_0 : MS := mSet 2 (mIfE (mB (mBin fLt (mVar 1) (mCall fLen (mCons (mVar 0) (mNil))))) (mCall fIntOf (mCons (mBin fIx (mVar 0) (mVar 1)) (mNil))) (mBin fAdd (mBin fMulA (mC (.int 53)) (mVar 1)) (mC (.int 17))))
def s__law_dice_1 : MS := mSet 3 (mBin fMod (mCall fMax2 (mCons (mC (.int 0)) (mCons (mBin fSub (mCall fAbs (mCons (mVar 2) (mNil))) (mBin fPow (mC (.int 10)) (mC (.int 16)))) (mNil)))) (mBin fMulA (mBin fPow (mC (.int 10)) (mC (.int 60))) (mBin fPow (mC (.int 10)) (mC (.int 60)))))
def s__law_dice_2 : MS := mRet (mLstN (mCons (mVar 3) (mCons (mBin fAdd (mBin fAdd (mBin fAdd (mBin fMulA (mBin fMod (mCall fAbs (mCons (mVar 2) (mNil))) (mC (.int 1152921504606846883))) (mC (.int 43))) (mBin fMulA (mC (.int 701)) (mVar 1))) (mBin fMulA (mC (.int 29)) (mCall fIntOf (mCons (mBin fLt (mVar 2) (mC (.int 0))) (mNil))))) (mC (.int 11))) (mCons (mC (.int 0)) (mNil)))))
def m__law_dice : MS := mSeq s__law_dice_0 (mSeq s__law_dice_1 (s__law_dice_2))
def f__law_dice : FN := runDef 2 4 m__law_dice
def s__law_roll_0 : MS := mIf (mB (mBin fGt (mBin fIx (mVar 0) (mC (.int 0))) (mC (.int 0)))) (mSeq (mSet 2 (mBin fMod (mCall fIntOf (mCons (mBin fIx (mVar 0) (mC (.int 0))) (mNil))) (mVar 1))) (mSeq (mAsg (mBin fDiv (mBin fIx (mVar 0) (mC (.int 0))) (mVar 1)) (gSubX fSetL (mVar 0) (mC (.int 0)))) (mRet (mVar 2)))) (mDone)
def s__law_roll_1 : MS := mAsg (mBin fAdd (mBin fIx (mVar 0) (mC (.int 2))) (mC (.int 1))) (gSubX fSetL (mVar 0) (mC (.int 2)))
def s__law_roll_2 : MS := mSet 3 (mBin fMod (mCall fIntOf (mCons (mBin fAdd (mBin fIx (mVar 0) (mC (.int 1))) (mBin fMulA (mC (.int 49979687)) (mBin fIx (mVar 0) (mC (.int 2))))) (mNil))) (mC (.int 2305843009213693921)))
def s__law_roll_3 : MS := mSet 4 (mBin fAdd (mBin fMulA (mBin fMod (mCall fIntOf (mCons (mBin fAdd (mBin fMulA (mVar 3) (mVar 3)) (mBin fMulA (mC (.int 83)) (mBin fIx (mVar 0) (mC (.int 2))))) (mNil))) (mC (.int 2305843009213693907))) (mC (.int 7368787))) (mVar 3))
def s__law_roll_4 : MS := mRet (mBin fMod (mCall fIntOf (mCons (mBin fDiv (mVar 4) (mC (.int 65536))) (mNil))) (mVar 1))
def m__law_roll : MS := mSeq s__law_roll_0 (mSeq s__law_roll_1 (mSeq s__law_roll_2 (mSeq s__law_roll_3 (s__law_roll_4))))
def f__law_roll : FN := runDef 2 5 m__law_roll
def s__law_pick_0 : MS := mRet (mBin fIx (mVar 1) (mCall f__law_roll (mCons (mVar 0) (mCons (mCall fLen (mCons (mVar 1) (mNil))) (mNil)))))
def m__law_pick : MS := s__law_pick_0
def f__law_pick : FN := runDef 2 2 m__law_pick
/-- a new dice -/
theorem ok_dice {ns : List Int} {i : Nat} {h : Store} (hi : i < 1000000) : Ok (f__law_dice [.scr (ns.map .int), .int (i : Int)] h) fun v h' => v = .ref h.length ∧ ∃ l b c : Int, h' = h ++ [.lst [.int l, .int b, .int c]] ∧ 0 ≤ l := by
  have key : ∀ (cell : Int) (h : Store), Ok ((mSeq s__law_dice_1 s__law_dice_2) [some (.scr (ns.map .int)), some (.int i), some (.int cell), none] h) fun f h' => match f with
      | .rt x => x = .ref h.length ∧ ∃ l b c : Int, h' = h ++ [.lst [.int l, .int b, .int c]] ∧ 0 ≤ l
      | .nx _ => False
      | _ => False := by
    intro cell h
    simp [s__law_dice_1, s__law_dice_2, sizeLine]
    exact Int.emod_nonneg _ (by decide)
  refine Ok.def rfl ?_
  have e0 : s__law_dice_0 (initL 4 [.scr (ns.map .int), .int (i : Int)]) h = .ok (.nx [some (.scr (ns.map .int)), some (.int i), some (.int (if hk : i < ns.length then ns[i] else 53 * i + 17)), none]) h := by
    by_cases hk : i < ns.length
    · have e1 : fIx (.scr (ns.map .int)) (.int (i : Int)) h = .ok (.int ns[i]) h := fIx_scr (by simp [hk])
      simp [s__law_dice_0, initL, hk, e1]
    · simp [s__law_dice_0, initL, hk]
  have e1 : m__law_dice (initL 4 [.scr (ns.map .int), .int (i : Int)]) h = (mSeq s__law_dice_1 s__law_dice_2) [some (.scr (ns.map .int)), some (.int i), some (.int (if hk : i < ns.length then ns[i] else 53 * i + 17)), none] h := by
    unfold m__law_dice
    rw [mSeq_at, e0]
    rfl
  show Ok (m__law_dice (initL 4 [.scr (ns.map .int), .int (i : Int)]) h) _
  rw [e1]
  exact (key _ h).mono fun f h' q => by
    cases f <;> first | exact q | exact q.elim
/-- a roll -/
theorem ok_roll {a : Nat} {h : Store} {t : Int} (ht : 0 < t) (ht2 : t < 2 ^ 200) (d : Dice h a) : Ok (f__law_roll [.ref a, .int t] h) fun v h' => Dice h' a ∧ ∃ r : Int, v = .int r ∧ 0 ≤ r ∧ r < t := by
  obtain ⟨l, b, c, e, hl⟩ := d
  have ha : a < h.length := (List.getElem?_eq_some_iff.mp e).1
  have s0 : ∀ {h : Store} {x y z : PV}, h[a]? = some (.lst [x, y, z]) → fIx (.ref a) (.int 0) h = .ok x h := fun k => fIx_ref (n := 0) k rfl
  have s1 : ∀ {h : Store} {x y z : PV}, h[a]? = some (.lst [x, y, z]) → fIx (.ref a) (.int 1) h = .ok y h := fun k => fIx_ref (n := 1) k rfl
  have s2 : ∀ {h : Store} {x y z : PV}, h[a]? = some (.lst [x, y, z]) → fIx (.ref a) (.int 2) h = .ok z h := fun k => fIx_ref (n := 2) k rfl
  have w0 : ∀ {h : Store} {x y z u : PV}, h[a]? = some (.lst [x, y, z]) → fSetL (.ref a) (.int 0) u h = .ok () (h.set a (.lst [u, y, z])) := fun k => fSetL_ref (n := 0) k (by simp)
  have w2 : ∀ {h : Store} {x y z u : PV}, h[a]? = some (.lst [x, y, z]) → fSetL (.ref a) (.int 2) u h = .ok () (h.set a (.lst [x, y, u])) := fun k => fSetL_ref (n := 2) k (by simp)
  have g : ∀ c : Cell, (h.set a c)[a]? = some c := fun c => by simp [ha]
  refine Ok.def rfl ?_
  by_cases hp : 0 < l
  · simp only [m__law_roll, s__law_roll_0, initL, mSeq_at, mIf_at, mB_at, mBin_at, mVar_at, mC_at, List.map_cons, List.map_nil, List.length_cons, List.length_nil, List.cons_append, List.nil_append, List.getElem?_cons_zero, List.getElem?_cons_succ, R.bind_ok, s0 e, fGt_int, decide_eq_true hp, if_true, mSet_at, mCall_at, mCons_at, mNil_at, fIntOf_int, fMod_int ht, fDiv_int ht ht2, on_nx, mAsg_at, gSubX_at, List.set_cons_zero, List.set_cons_succ, List.replicate, w0 e, mRet_at, on_rt, Ok_ok]
    exact ⟨⟨_, _, _, g _, Int.ediv_nonneg hl (by omega)⟩, _, rfl, Int.emod_nonneg _ (by omega), Int.emod_lt_of_pos _ ht⟩
  · have hp' : decide (0 < l) = false := decide_eq_false hp
    have k1 : (0 : Int) < 2305843009213693921 := by decide
    have k2 : (0 : Int) < 2305843009213693907 := by decide
    have one : ∀ m : Int, -(2 ^ 64) < m % 2305843009213693921 ∧ m % 2305843009213693921 < 2 ^ 64 := fun m => by omega
    simp only [m__law_roll, s__law_roll_0, s__law_roll_1, s__law_roll_2, s__law_roll_3, s__law_roll_4, initL, mSeq_at, mIf_at, mB_at, mBin_at, mVar_at, mC_at, List.map_cons, List.map_nil, List.length_cons, List.length_nil, List.cons_append, List.nil_append, List.getElem?_cons_zero, List.getElem?_cons_succ, R.bind_ok, s0 e, s2 e, fGt_int, hp', Bool.false_eq_true, if_false, mDone_at, mSet_at, mCall_at, mCons_at, mNil_at, fIntOf_int, on_nx, mAsg_at, gSubX_at, List.set_cons_zero, List.set_cons_succ, List.replicate, w2 e, mRet_at, on_rt, fAdd_int, s1 (g _), s2 (g _)]
    simp only [mSeq_at, mBin_at, mVar_at, mC_at, mSet_at, mCall_at, mCons_at, mNil_at, mRet_at, on_rt, fMulA_l (show -(2 ^ 64) < (49979687 : Int) ∧ (49979687 : Int) < 2 ^ 64 by decide), fMulA_l (show -(2 ^ 64) < (83 : Int) ∧ (83 : Int) < 2 ^ 64 by decide), fMulA_r (show -(2 ^ 64) < (7368787 : Int) ∧ (7368787 : Int) < 2 ^ 64 by decide), fMod_int k1, fMod_int k2, R.bind_ok, fAdd_int, on_nx, fMulA_l (one _), List.set_cons_zero, List.set_cons_succ, List.getElem?_cons_zero, List.getElem?_cons_succ, s2 (g _), fIntOf_int,
      fDiv_int (show (0 : Int) < 65536 by decide) (show (65536 : Int) < 2 ^ 200 by decide), fMod_int ht, Ok_ok]
    exact ⟨⟨_, _, _, g _, hl⟩, _, rfl, Int.emod_nonneg _ (by omega), Int.emod_lt_of_pos _ ht⟩
/-- a pick out of a list -/
theorem ok_pick {a : Nat} {h : Store} {xs : List PV} (hx : xs ≠ []) (hx2 : xs.length < 1000000) (d : Dice h a) : Ok (f__law_pick [.ref a, .lst xs] h) fun v h' => Dice h' a ∧ v ∈ xs := by
  have h0 : 0 < xs.length := List.length_pos_iff.mpr hx
  refine Ok.def rfl ?_
  simp only [m__law_pick, s__law_pick_0, initL, mRet_at, mBin_at, mVar_at, mCall_at, mCons_at, mNil_at, List.map_cons, List.map_nil, List.length_cons, List.length_nil, List.cons_append, List.nil_append, List.getElem?_cons_zero, List.getElem?_cons_succ, R.bind_ok, fLen_lst]
  refine Ok.call (P := fun v h' => Dice h' a ∧ v ∈ xs) (Ok.call (ok_roll (by omega) (by omega) d) ?_) fun v h' q => q
  rintro v h' ⟨d', r, rfl, r0, r1⟩
  obtain ⟨n, rfl⟩ := Int.eq_ofNat_of_zero_le r0
  have hn : n < xs.length := by omega
  rw [fIx_lst (show xs[n]? = some xs[n] by simp [hn])]
  exact ⟨d', List.getElem_mem hn⟩
theorem ok_pickT {a : Nat} {h : Store} {xs : List PV} (hx : xs ≠ []) (hx2 : xs.length < 1000000) (d : Dice h a) : Ok (f__law_pick [.ref a, .tup xs] h) fun v h' => Dice h' a ∧ v ∈ xs := by
  have h0 : 0 < xs.length := List.length_pos_iff.mpr hx
  refine Ok.def rfl ?_
  simp only [m__law_pick, s__law_pick_0, initL, mRet_at, mBin_at, mVar_at, mCall_at, mCons_at, mNil_at, List.map_cons, List.map_nil, List.length_cons, List.length_nil, List.cons_append, List.nil_append, List.getElem?_cons_zero, List.getElem?_cons_succ, R.bind_ok, fLen_tup]
  refine Ok.call (P := fun v h' => Dice h' a ∧ v ∈ xs) (Ok.call (ok_roll (by omega) (by omega) d) ?_) fun v h' q => q
  rintro v h' ⟨d', r, rfl, r0, r1⟩
  obtain ⟨n, rfl⟩ := Int.eq_ofNat_of_zero_le r0
  have hn : n < xs.length := by omega
  rw [fIx_tup (show xs[n]? = some xs[n] by simp [hn])]
  exact ⟨d', List.getElem_mem hn⟩
/-- a sign out of a text -/
theorem ok_pickS {a : Nat} {h : Store} {x : List Nat} (hx : x ≠ []) (hx2 : x.length < 1000000) (d : Dice h a) : Ok (f__law_pick [.ref a, .str x] h) fun v h' => Dice h' a ∧ ∃ c ∈ x, v = .str [c] := by
  have h0 : 0 < x.length := List.length_pos_iff.mpr hx
  refine Ok.def rfl ?_
  simp only [m__law_pick, s__law_pick_0, initL, mRet_at, mBin_at, mVar_at, mCall_at, mCons_at, mNil_at, List.map_cons, List.map_nil, List.length_cons, List.length_nil, List.cons_append, List.nil_append, List.getElem?_cons_zero, List.getElem?_cons_succ, R.bind_ok, fLen_str (show x.length ≤ 1000000 by omega)]
  refine Ok.call (P := fun v h' => Dice h' a ∧ ∃ c ∈ x, v = .str [c]) (Ok.call (ok_roll (by omega) (by omega) d) ?_) fun v h' q => by exact q
  rintro v h' ⟨d', r, rfl, r0, r1⟩
  obtain ⟨n, rfl⟩ := Int.eq_ofNat_of_zero_le r0
  have hn : n < x.length := by omega
  rw [fIx_str (show x[n]? = some x[n] by simp [hn]) (by omega)]
  exact ⟨d', _, List.getElem_mem hn, rfl⟩
end Wg

namespace Wg
open PySem
/-! ### == of data -/
mutual
def eqPV : PV → PV → Bool
  | .non, .non => true
  | .bl a, .bl b => a == b
  | .bl a, .int j => (if a then 1 else 0) == j
  | .int i, .bl b => i == (if b then 1 else 0)
  | .int i, .int j => i == j
  | .str x, .str y => decide (x = y)
  | .lst xs, .lst ys => eqPVs xs ys
  | .lst xs, .scr ys => eqPVs xs ys
  | .scr xs, .lst ys => eqPVs xs ys
  | .scr xs, .scr ys => eqPVs xs ys
  | .tup xs, .tup ys => eqPVs xs ys
  | _, _ => false
def eqPVs : List PV → List PV → Bool
  | [], [] => true
  | x :: xs, y :: ys => eqPV x y && eqPVs xs ys
  | _, _ => false
end
theorem str_beq (x y : List Nat) : ((⟨x.toArray⟩ : Str) == ⟨y.toArray⟩) = decide (x = y) := by
  by_cases h : x = y
  · subst h; simp
  · rw [decide_eq_false h]
    have : (⟨x.toArray⟩ : Str) ≠ ⟨y.toArray⟩ := fun e => h (by
      injection e with e
      exact congrArg Array.toList e)
    simpa using this
mutual
theorem eqv_eq : ∀ (x y : PV) (d e : PyData), toD x = some d → toD y = some e → PyData.eqv d e = eqPV x y
  | .lst xs, y, d, e, h1, h2 => by
    simp only [toD, Option.map_eq_some_iff] at h1
    obtain ⟨ds, q1, rfl⟩ := h1
    cases y with
    | lst ys => simp only [toD, Option.map_eq_some_iff] at h2; obtain ⟨es, q2, rfl⟩ := h2; simp only [PyData.eqv, eqPV]; exact eqvs_eq xs ys ds es q1 q2
    | scr ys => simp only [toD, Option.map_eq_some_iff] at h2; obtain ⟨es, q2, rfl⟩ := h2; simp only [PyData.eqv, eqPV]; exact eqvs_eq xs ys ds es q1 q2
    | tup ys => simp only [toD, Option.map_eq_some_iff] at h2; obtain ⟨es, q2, rfl⟩ := h2; simp only [PyData.eqv, eqPV]
    | _ => first | (cases h2; simp only [PyData.eqv, eqPV]; done) | (cases h2; done)
  | .scr xs, y, d, e, h1, h2 => by
    simp only [toD, Option.map_eq_some_iff] at h1
    obtain ⟨ds, q1, rfl⟩ := h1
    cases y with
    | lst ys => simp only [toD, Option.map_eq_some_iff] at h2; obtain ⟨es, q2, rfl⟩ := h2; simp only [PyData.eqv, eqPV]; exact eqvs_eq xs ys ds es q1 q2
    | scr ys => simp only [toD, Option.map_eq_some_iff] at h2; obtain ⟨es, q2, rfl⟩ := h2; simp only [PyData.eqv, eqPV]; exact eqvs_eq xs ys ds es q1 q2
    | tup ys => simp only [toD, Option.map_eq_some_iff] at h2; obtain ⟨es, q2, rfl⟩ := h2; simp only [PyData.eqv, eqPV]
    | _ => first | (cases h2; simp only [PyData.eqv, eqPV]; done) | (cases h2; done)
  | .tup xs, y, d, e, h1, h2 => by
    simp only [toD, Option.map_eq_some_iff] at h1
    obtain ⟨ds, q1, rfl⟩ := h1
    cases y with
    | lst ys => simp only [toD, Option.map_eq_some_iff] at h2; obtain ⟨es, q2, rfl⟩ := h2; simp only [PyData.eqv, eqPV]
    | scr ys => simp only [toD, Option.map_eq_some_iff] at h2; obtain ⟨es, q2, rfl⟩ := h2; simp only [PyData.eqv, eqPV]
    | tup ys => simp only [toD, Option.map_eq_some_iff] at h2; obtain ⟨es, q2, rfl⟩ := h2; simp only [PyData.eqv, eqPV]; exact eqvs_eq xs ys ds es q1 q2
    | _ => first | (cases h2; simp only [PyData.eqv, eqPV]; done) | (cases h2; done)
  | .non, y, d, e, h1, h2 => by
    cases h1
    cases y with
    | lst ys => simp only [toD, Option.map_eq_some_iff] at h2; obtain ⟨es, q2, rfl⟩ := h2; simp only [PyData.eqv, eqPV]
    | scr ys => simp only [toD, Option.map_eq_some_iff] at h2; obtain ⟨es, q2, rfl⟩ := h2; simp only [PyData.eqv, eqPV]
    | tup ys => simp only [toD, Option.map_eq_some_iff] at h2; obtain ⟨es, q2, rfl⟩ := h2; simp only [PyData.eqv, eqPV]
    | _ => first | (cases h2; simp only [PyData.eqv, eqPV]; done) | (cases h2; done)
  | .bl _, y, d, e, h1, h2 => by
    cases h1
    cases y with
    | lst ys => simp only [toD, Option.map_eq_some_iff] at h2; obtain ⟨es, q2, rfl⟩ := h2; simp only [PyData.eqv, eqPV]
    | scr ys => simp only [toD, Option.map_eq_some_iff] at h2; obtain ⟨es, q2, rfl⟩ := h2; simp only [PyData.eqv, eqPV]
    | tup ys => simp only [toD, Option.map_eq_some_iff] at h2; obtain ⟨es, q2, rfl⟩ := h2; simp only [PyData.eqv, eqPV]
    | _ => first | (cases h2; simp only [PyData.eqv, eqPV]; done) | (cases h2; done)
  | .int _, y, d, e, h1, h2 => by
    cases h1
    cases y with
    | lst ys => simp only [toD, Option.map_eq_some_iff] at h2; obtain ⟨es, q2, rfl⟩ := h2; simp only [PyData.eqv, eqPV]
    | scr ys => simp only [toD, Option.map_eq_some_iff] at h2; obtain ⟨es, q2, rfl⟩ := h2; simp only [PyData.eqv, eqPV]
    | tup ys => simp only [toD, Option.map_eq_some_iff] at h2; obtain ⟨es, q2, rfl⟩ := h2; simp only [PyData.eqv, eqPV]
    | _ => first | (cases h2; simp only [PyData.eqv, eqPV]; done) | (cases h2; done)
  | .str x, y, d, e, h1, h2 => by
    cases h1
    cases y with
    | lst ys => simp only [toD, Option.map_eq_some_iff] at h2; obtain ⟨es, q2, rfl⟩ := h2; simp only [PyData.eqv, eqPV]
    | scr ys => simp only [toD, Option.map_eq_some_iff] at h2; obtain ⟨es, q2, rfl⟩ := h2; simp only [PyData.eqv, eqPV]
    | tup ys => simp only [toD, Option.map_eq_some_iff] at h2; obtain ⟨es, q2, rfl⟩ := h2; simp only [PyData.eqv, eqPV]
    | str y => cases h2; simp only [PyData.eqv, eqPV]; exact str_beq x y
    | _ => first | (cases h2; simp only [PyData.eqv, eqPV]; done) | (cases h2; done)
  | .ty _, _, _, _, h1, _ => by cases h1
  | .adr _, _, _, _, h1, _ => by cases h1
  | .ref _, _, _, _, h1, _ => by cases h1
  | .dct _, _, _, _, h1, _ => by cases h1
theorem eqvs_eq : ∀ (xs ys : List PV) (ds es : List PyData), toDs xs = some ds → toDs ys = some es → PyData.eqvAll ds es = eqPVs xs ys
  | [], [], _, _, h1, h2 => by cases h1; cases h2; simp only [PyData.eqvAll, eqPVs]
  | x :: xs, [], ds, _, h1, h2 => by
    cases h2
    simp only [toDs, Option.bind_eq_some_iff, Option.map_eq_some_iff] at h1
    obtain ⟨d, _, ds', _, rfl⟩ := h1
    simp only [PyData.eqvAll, eqPVs]
  | [], y :: ys, _, es, h1, h2 => by
    cases h1
    simp only [toDs, Option.bind_eq_some_iff, Option.map_eq_some_iff] at h2
    obtain ⟨d, _, ds', _, rfl⟩ := h2
    simp only [PyData.eqvAll, eqPVs]
  | x :: xs, y :: ys, ds, es, h1, h2 => by
    simp only [toDs, Option.bind_eq_some_iff, Option.map_eq_some_iff] at h1 h2
    obtain ⟨d, a1, ds', a2, rfl⟩ := h1
    obtain ⟨e, b1, es', b2, rfl⟩ := h2
    simp only [PyData.eqvAll, eqPVs]
    rw [eqv_eq x y d e a1 b1, eqvs_eq xs ys ds' es' a2 b2]
end
/-- data of a depth of at most n -/
def okD : Nat → PV → Bool
  | _, .non => true
  | _, .bl _ => true
  | _, .int _ => true
  | _, .str x => x.all fun c => decide (c < 0x110000)
  | 0, _ => false
  | n + 1, .tup xs => xs.all (okD n)
  | n + 1, .lst xs => xs.all (okD n)
  | n + 1, .scr xs => xs.all (okD n)
  | _, _ => false
theorem okD_all {n : Nat} (ih : ∀ x, okD n x = true → ∃ d, toD x = some d ∧ d.canLay0 = true ∧ d.depth ≤ n) : ∀ xs : List PV, xs.all (okD n) = true → ∃ ds, toDs xs = some ds ∧ PyData.canLayAll0 ds = true ∧ PyData.depthAll ds ≤ n
  | [], _ => ⟨[], rfl, by simp only [PyData.canLayAll0], by simp only [PyData.depthAll]; omega⟩
  | x :: xs, h => by
    rw [List.all_cons, Bool.and_eq_true] at h
    obtain ⟨d, a1, a2, a3⟩ := ih x h.1
    obtain ⟨ds, b1, b2, b3⟩ := okD_all ih xs h.2
    refine ⟨d :: ds, by simp only [toDs, a1, b1, Option.bind_some, Option.map_some], by simp only [PyData.canLayAll0, a2, b2, Bool.and_self], ?_⟩
    simp only [PyData.depthAll]
    omega
theorem okD_at : ∀ (n : Nat) (x : PV), okD n x = true → ∃ d, toD x = some d ∧ d.canLay0 = true ∧ d.depth ≤ n := by
  intro n
  induction n with
  | zero =>
    intro x h
    cases x with
    | non => exact ⟨_, rfl, by simp only [PyData.canLay0], by simp only [PyData.depth]; omega⟩
    | bl b => exact ⟨_, rfl, by simp only [PyData.canLay0], by simp only [PyData.depth]; omega⟩
    | int b => exact ⟨_, rfl, by simp only [PyData.canLay0], by simp only [PyData.depth]; omega⟩
    | str z => exact ⟨_, rfl, by simp only [PyData.canLay0, PyData.strOk, List.all_toArray]; simpa [okD] using h, by simp only [PyData.depth]; omega⟩
    | _ => simp [okD] at h
  | succ n ih =>
    intro x h
    cases x with
    | non => exact ⟨_, rfl, by simp only [PyData.canLay0], by simp only [PyData.depth]; omega⟩
    | bl b => exact ⟨_, rfl, by simp only [PyData.canLay0], by simp only [PyData.depth]; omega⟩
    | int b => exact ⟨_, rfl, by simp only [PyData.canLay0], by simp only [PyData.depth]; omega⟩
    | str z => exact ⟨_, rfl, by simp only [PyData.canLay0, PyData.strOk, List.all_toArray]; simpa [okD] using h, by simp only [PyData.depth]; omega⟩
    | tup xs =>
      obtain ⟨ds, a, b, c⟩ := okD_all ih xs (by simpa only [okD] using h)
      exact ⟨.tuple ds, by simp only [toD, a, Option.map_some], by simp only [PyData.canLay0, b], by simp only [PyData.depth]; omega⟩
    | lst xs =>
      obtain ⟨ds, a, b, c⟩ := okD_all ih xs (by simpa only [okD] using h)
      exact ⟨.list ds, by simp only [toD, a, Option.map_some], by simp only [PyData.canLay0, b], by simp only [PyData.depth]; omega⟩
    | scr xs =>
      obtain ⟨ds, a, b, c⟩ := okD_all ih xs (by simpa only [okD] using h)
      exact ⟨.list ds, by simp only [toD, a, Option.map_some], by simp only [PyData.canLay0, b], by simp only [PyData.depth]; omega⟩
    | _ => simp [okD] at h
theorem seen_data {h : Store} : ∀ {n : Nat} {x : PV}, okD n x = true → seen h x = x
  | n, .ref a, q => by cases n <;> simp [okD] at q
  | _, .non, _ => rfl
  | _, .bl _, _ => rfl
  | _, .int _, _ => rfl
  | _, .str _, _ => rfl
  | _, .ty _, _ => rfl
  | _, .adr _, _ => rfl
  | _, .tup _, _ => rfl
  | _, .lst _, _ => rfl
  | _, .scr _, _ => rfl
  | _, .dct _, _ => rfl
theorem eqS_eq {x y : PV} {b : Bool} (e : eqS x y = some b) : eqPV x y = b := by
  cases x <;> cases y <;> simp only [eqS] at e <;> first | (cases e; done) | skip
  all_goals (cases e; simp only [eqPV])
  all_goals first
    | rfl
    | (rename_i a b; by_cases h : a = b <;> simp [h])
theorem fEqB_ok {n : Nat} (hn : n ≤ 64) {x y : PV} {h : Store} (hx : okD n x = true) (hy : okD n y = true) : fEqB x y h = some (eqPV x y) := by
  unfold fEqB
  cases e : eqS x y with
  | some b => simp only; rw [eqS_eq e]
  | none =>
    simp only
    rw [seen_data hx, seen_data hy]
    obtain ⟨d, a1, a2, a3⟩ := okD_at n x hx
    obtain ⟨d', b1, b2, b3⟩ := okD_at n y hy
    rw [a1, b1]
    have s1 : shD d = true := by
      show (_ && decide _) = true
      rw [a2, decide_eq_true (show d.depth ≤ 64 by omega)]; rfl
    have s2 : shD d' = true := by
      show (_ && decide _) = true
      rw [b2, decide_eq_true (show d'.depth ≤ 64 by omega)]; rfl
    simp only [s1, s2, Bool.and_self, if_true]
    rw [eqv_eq x y d d' a1 b1]
theorem fEq_ok {n : Nat} (hn : n ≤ 64) {x y : PV} {h : Store} (hx : okD n x = true) (hy : okD n y = true) : fEq x y h = .ok (.bl (eqPV x y)) h := by
  unfold fEq
  rw [fEqB_ok hn hx hy]
theorem fNe_ok {n : Nat} (hn : n ≤ 64) {x y : PV} {h : Store} (hx : okD n x = true) (hy : okD n y = true) : fNe x y h = .ok (.bl (!eqPV x y)) h := by
  unfold fNe
  rw [fEqB_ok hn hx hy]
section
variable {h : Store} {i j : Int} {x y : List Nat} {b c : Bool}
@[simp] theorem fEq_int : fEq (.int i) (.int j) h = .ok (.bl (decide (i = j))) h := by
  rw [fEq_ok (n := 0) (by decide) rfl rfl]
  simp only [eqPV]
  by_cases e : i = j <;> simp [e]
@[simp] theorem fNe_int : fNe (.int i) (.int j) h = .ok (.bl (!decide (i = j))) h := by
  rw [fNe_ok (n := 0) (by decide) rfl rfl]
  simp only [eqPV]
  by_cases e : i = j <;> simp [e]
@[simp] theorem fEq_bl : fEq (.bl b) (.bl c) h = .ok (.bl (b == c)) h := by rw [fEq_ok (n := 0) (by decide) rfl rfl]; simp only [eqPV]
@[simp] theorem fNe_bl : fNe (.bl b) (.bl c) h = .ok (.bl (!(b == c))) h := by rw [fNe_ok (n := 0) (by decide) rfl rfl]; simp only [eqPV]
theorem eqPVs_map {α : Type} [DecidableEq α] (f : α → PV) (hf : ∀ a b, eqPV (f a) (f b) = decide (a = b)) : ∀ xs ys : List α, eqPVs (xs.map f) (ys.map f) = decide (xs = ys)
  | [], [] => by simp [eqPVs]
  | _ :: _, [] => by simp [eqPVs]
  | [], _ :: _ => by simp [eqPVs]
  | a :: xs, b :: ys => by
    rw [List.map_cons, List.map_cons, eqPVs, hf, eqPVs_map f hf xs ys]
    by_cases e : a = b <;> simp [e]
theorem eqPV_str : eqPV (.str x) (.str y) = decide (x = y) := by simp only [eqPV]
end
end Wg

namespace Wg
open PySem
theorem R.bind_assoc {α β γ : Type} (r : R α) (k : α → Store → R β) (k' : β → Store → R γ) : (r.bind k).bind k' = r.bind fun a h => (k a h).bind k' := by cases r <;> rfl
theorem if_bind {α β : Type} {c : Prop} [Decidable c] (a b : R α) (k : α → Store → R β) : (if c then a else b).bind k = if c then a.bind k else b.bind k := by split <;> rfl
section
variable {h : Store}
theorem fIntOf_str {x : List Nat} {n : Int} (e : PySem.intText? ⟨x.toArray⟩ = some n) (k : x.length ≤ 640) : fIntOf [.str x] h = .ok (.int n) h := by
  show (match PySem.intText? ⟨x.toArray⟩ with | some n => if x.length ≤ 640 then R.ok (PV.int n) h else .no | none => .no) = _
  rw [e]
  exact if_pos k
theorem fIntOf_digits {x : List Nat} (hx : ∀ c ∈ x, 48 ≤ c ∧ c ≤ 57) (hne : x ≠ []) (k : x.length ≤ 640) : fIntOf [.str x] h = .ok (.int (NumText.digitsVal x : Nat)) h :=
  fIntOf_str (SX.int_S (List.all_eq_true.mpr fun c hc => by rw [Bool.and_eq_true, decide_eq_true_eq, decide_eq_true_eq]; exact hx c hc) hne (by omega)) k
theorem strsOf_map {α : Type} (f : α → List Nat) : ∀ xs : List α, strsOf (xs.map fun x => .str (f x)) = some (xs.map f)
  | [] => rfl
  | x :: xs => by rw [List.map_cons, strsOf, strsOf_map f xs]; rfl
theorem fJoin_lst {α : Type} {S : List Nat} (f : α → List Nat) {xs : List α} (k : ((xs.map f).map List.length).sum + (xs.map f).length * S.length ≤ 16777216) : fJoin (.str S) [.lst (xs.map fun x => .str (f x))] h = .ok (.str (joinN S (xs.map f))) h := by
  show (match strsOf (xs.map fun x => PV.str (f x)) with | some ss => if (ss.map List.length).sum + ss.length * S.length ≤ 16777216 then R.ok (PV.str (joinN S ss)) h else .no | none => .no) = _
  rw [strsOf_map]
  exact if_pos k
theorem joinN_ones : ∀ ds : List Nat, joinN [] (ds.map fun c => [c]) = ds
  | [] => rfl
  | [_] => rfl
  | a :: b :: r => by
    have := joinN_ones (b :: r)
    rw [List.map_cons, List.map_cons, joinN, List.nil_append, ← List.map_cons (f := fun c => [c]), this]
    rfl
theorem fJoin_ones {ds : List Nat} (k : ds.length ≤ 1000000) : fJoin (.str []) [.lst (ds.map fun c => .str [c])] h = .ok (.str ds) h := by
  have s : ∀ ds : List Nat, ((ds.map fun c => [c]).map List.length).sum = ds.length := fun ds => by
    induction ds with
    | nil => rfl
    | cons a r ih => simp only [List.map_cons, List.sum_cons, List.length_cons, ih, List.length_nil]; omega
  rw [fJoin_lst (fun c => [c]) (by rw [s]; simp; omega), joinN_ones]
theorem exists_map {α : Type} (f : α → PV) {p : α → Prop} : ∀ {zs : List PV}, (∀ z ∈ zs, ∃ c, z = f c ∧ p c) → ∃ ds : List α, zs = ds.map f ∧ ∀ c ∈ ds, p c
  | [], _ => ⟨[], rfl, fun _ h => absurd h List.not_mem_nil⟩
  | z :: zs, h => by
    obtain ⟨c, e, pc⟩ := h z List.mem_cons_self
    obtain ⟨ds, e2, pd⟩ := exists_map f fun y hy => h y (List.mem_cons_of_mem _ hy)
    refine ⟨c :: ds, by rw [e, e2]; rfl, fun d hd => ?_⟩
    rcases List.mem_cons.mp hd with q | q
    · rw [q]; exact pc
    · exact pd d q
theorem digs_one {r : Int} (h0 : 0 ≤ r) (h1 : r < 10) : digs r = [48 + r.toNat] := by
  obtain ⟨n, rfl⟩ := Int.eq_ofNat_of_zero_le h0
  rw [digs_nat, TL.numL_lt (by omega)]
  rfl
end
end Wg

namespace Wg.K01
open PySem PySem.Spec PyProof.Rows L2 Wg
/-! the plain functions -/
abbrev c_GREAT : PV := .int 1000000000000000000000000000000000000000000000000000000000000
abbrev c_LETTERS : PV := .str [97, 98, 99, 100, 101, 102, 103, 104, 105, 106, 107, 108, 109, 110, 111, 112, 113, 114, 115, 116, 117, 118, 119, 120, 121, 122]
abbrev c_MAX_FIGURES : PV := .int 60
abbrev c_MAX_LETTERS : PV := .int 8
/-! is_integer -/
def s_is_integer_0 : MS := mRet (mAnd (mCall fIsi (mCons (mVar 0) (mCons (mC (.ty "int")) (mNil)))) (mAnd (mNot (mCall fIsi (mCons (mVar 0) (mCons (mC (.ty "bool")) (mNil))))) (mChain fLt fLt (mUn fNeg (mC c_GREAT)) (mVar 0) (mC c_GREAT))))
def m_is_integer : MS := s_is_integer_0
def f_is_integer : FN := runDef 1 1 m_is_integer
/-! is_count -/
def s_is_count_0 : MS := mRet (mAnd (mCall f_is_integer (mCons (mVar 0) (mNil))) (mBin fGe (mVar 0) (mC (.int 0))))
def m_is_count : MS := s_is_count_0
def f_is_count : FN := runDef 1 1 m_is_count
/-! is_name -/
def s_is_name_0 : MS := mIf (mOrT (mNotT (mB (mCall fIsi (mCons (mVar 0) (mCons (mC (.ty "str")) (mNil)))))) (mNotT (mB (mChain fLe fLe (mC (.int 1)) (mCall fLen (mCons (mVar 0) (mNil))) (mC c_MAX_LETTERS))))) (mRet (mC (.bl false))) (mDone)
def s_is_name_1 : MS := mRet (mCall fAll (mCons (mLc (mItS (mVar 0)) [1] (gVar 1) (mYes) (mBin fInStr (mVar 1) (mC c_LETTERS))) (mNil)))
def m_is_name : MS := mSeq s_is_name_0 (s_is_name_1)
def f_is_name : FN := runDef 1 2 m_is_name
/-! are_names -/
def s_are_names_0 : MS := mRet (mAnd (mCall fIsi (mCons (mVar 0) (mCons (mC (.ty "tuple")) (mNil)))) (mCall fAll (mCons (mLc (mItT (mVar 0)) [1] (gVar 1) (mYes) (mCall f_is_name (mCons (mVar 1) (mNil)))) (mNil))))
def m_are_names : MS := s_are_names_0
def f_are_names : FN := runDef 1 2 m_are_names
/-! _law_drawn_integer -/
def s__law_drawn_integer_0 : MS := mSet 1 (mBin fAdd (mBin fPow (mC (.int 10)) (mC (.int 60))) (mCall f__law_pick (mCons (mVar 0) (mCons (mLst (mCons (mUn fNeg (mC (.int 2))) (mCons (mUn fNeg (mC (.int 1))) (mCons (mC (.int 0)) (mCons (mC (.int 1)) (mNil)))))) (mNil)))))
def s__law_drawn_integer_1 : MS := mSet 2 (mCall fIntOf (mCons (mBin fAdd (mC (.str [49])) (mMeth "str" fJoin (mC (.str [])) (mCons (mLc (mItC fRange1 (mCons (mBin fAdd (mC (.int 48)) (mCall f__law_roll (mCons (mVar 0) (mCons (mC (.int 24)) (mNil))))) (mNil))) [3] (gVar 3) (mYes) (mCall fStrOf (mCons (mCall f__law_roll (mCons (mVar 0) (mCons (mC (.int 10)) (mNil)))) (mNil)))) (mNil)))) (mNil)))
def s__law_drawn_integer_2 : MS := mRet (mBin fMulA (mCall f__law_pick (mCons (mVar 0) (mCons (mLst (mCons (mC (.int 1)) (mCons (mUn fNeg (mC (.int 1))) (mNil)))) (mNil)))) (mCall f__law_pick (mCons (mVar 0) (mCons (mLst (mCons (mCall f__law_roll (mCons (mVar 0) (mCons (mC (.int 100)) (mNil)))) (mCons (mVar 1) (mCons (mVar 2) (mCons (mVar 1) (mCons (mC (.int 0)) (mNil))))))) (mNil)))))
def m__law_drawn_integer : MS := mSeq s__law_drawn_integer_0 (mSeq s__law_drawn_integer_1 (s__law_drawn_integer_2))
def f__law_drawn_integer : FN := runDef 1 4 m__law_drawn_integer
/-! _law_drawn_string -/
def s__law_drawn_string_0 : MS := mSet 1 (mCall f__law_pick (mCons (mVar 0) (mCons (mLst (mCons (mC (.str [97, 98, 122])) (mCons (mC (.str [97, 98, 121, 122])) (mCons (mC (.str [97, 98, 99, 100, 101, 102, 103, 104, 105, 106, 107, 108, 109, 110, 111, 112, 113, 114, 115, 116, 117, 118, 119, 120, 121, 122])) (mCons (mC (.str [97, 122, 65])) (mCons (mC (.str [97, 122, 95])) (mCons (mC (.str [97, 49])) (mCons (mC (.str [97, 10])) (mCons (mC (.str [122, 123, 96])) (mNil)))))))))) (mNil))))
def s__law_drawn_string_1 : MS := mRet (mMeth "str" fJoin (mC (.str [])) (mCons (mLc (mItC fRange1 (mCons (mCall f__law_roll (mCons (mVar 0) (mCons (mC (.int 11)) (mNil)))) (mNil))) [2] (gVar 2) (mYes) (mCall f__law_pick (mCons (mVar 0) (mCons (mVar 1) (mNil))))) (mNil)))
def m__law_drawn_string : MS := mSeq s__law_drawn_string_0 (s__law_drawn_string_1)
def f__law_drawn_string : FN := runDef 1 3 m__law_drawn_string
/-! _law_is_word -/
def s__law_is_word_0 : MS := mRet (mAnd (mChain fLt fLt (mC (.int 0)) (mCall fLen (mCons (mVar 0) (mNil))) (mC (.int 9))) (mBin fEq (mLc (mItS (mVar 0)) [1] (gVar 1) (mNotT (mB (mChain fLe fLe (mC (.str [97])) (mVar 1) (mC (.str [122]))))) (mVar 1)) (mLst (mNil))))
def m__law_is_word : MS := s__law_is_word_0
def f__law_is_word : FN := runDef 1 2 m__law_is_word
/-! _law_right -/
def s__law_right_0 : MS := mSet 1 (mCall f__law_drawn_integer (mCons (mVar 0) (mNil)))
def s__law_right_1 : MS := mSet 2 (mBin fSub (mCall fLen (mCons (mCall fStrOf (mCons (mVar 1) (mNil))) (mNil))) (mCall fIntOf (mCons (mBin fLt (mVar 1) (mC (.int 0))) (mNil))))
def s__law_right_2 : MS := mIf (mOrT (mB (mBin fNe (mCall f_is_integer (mCons (mVar 1) (mNil))) (mBin fLt (mVar 2) (mC (.int 61))))) (mOrT (mB (mBin fNe (mCall f_is_count (mCons (mVar 1) (mNil))) (mAnd (mBin fLt (mVar 2) (mC (.int 61))) (mBin fGe (mVar 1) (mC (.int 0)))))) (mB (mCall f_is_name (mCons (mVar 1) (mNil)))))) (mRet (mC (.bl false))) (mDone)
def s__law_right_3 : MS := mSet 3 (mCall f__law_drawn_string (mCons (mVar 0) (mNil)))
def s__law_right_4 : MS := mIf (mOrT (mB (mBin fNe (mCall f_is_name (mCons (mVar 3) (mNil))) (mCall f__law_is_word (mCons (mVar 3) (mNil))))) (mOrT (mB (mCall f_is_integer (mCons (mVar 3) (mNil)))) (mB (mCall f_is_count (mCons (mVar 3) (mNil)))))) (mRet (mC (.bl false))) (mDone)
def s__law_right_5 : MS := mSet 4 (mLc (mItC fRange1 (mCons (mCall f__law_roll (mCons (mVar 0) (mCons (mC (.int 4)) (mNil)))) (mNil))) [7] (gVar 7) (mYes) (mCall f__law_drawn_string (mCons (mVar 0) (mNil))))
def s__law_right_6 : MS := mSet 5 (mBin fEq (mLc (mItL (mVar 4)) [8] (gVar 8) (mNotT (mB (mCall f__law_is_word (mCons (mVar 8) (mNil))))) (mVar 8)) (mLst (mNil)))
def s__law_right_7 : MS := mIf (mOrT (mB (mBin fNe (mCall f_are_names (mCons (mCall fTuple (mCons (mVar 4) (mNil))) (mNil))) (mVar 5))) (mOrT (mB (mCall f_are_names (mCons (mVar 4) (mNil)))) (mB (mCall f_are_names (mCons (mBin fAdd (mCall fTuple (mCons (mVar 4) (mNil))) (mTup (mCons (mVar 1) (mNil)))) (mNil)))))) (mRet (mC (.bl false))) (mDone)
def s__law_right_8 : MS := mSet 6 (mCall f__law_pick (mCons (mVar 0) (mCons (mLst (mCons (mC .non) (mCons (mC (.bl true)) (mCons (mC (.bl false)) (mCons (mC (.str [49])) (mCons (mTup (mCons (mC (.int 1)) (mNil))) (mCons (mLst (mNil)) (mCons (mC (.dct [])) (mCons (mTup (mNil)) (mCons (mLst (mCons (mC (.str [97])) (mNil))) (mCons (mDctX [(mC (.str [97]), mC (.int 1))]) (mCons (mTup (mCons (mC (.str [97])) (mNil))) (mNil))))))))))))) (mNil))))
def s__law_right_9 : MS := mIf (mOrT (mB (mCall f_is_integer (mCons (mVar 6) (mNil)))) (mOrT (mB (mCall f_is_count (mCons (mVar 6) (mNil)))) (mB (mCall f_is_name (mCons (mVar 6) (mNil)))))) (mRet (mC (.bl false))) (mDone)
def s__law_right_10 : MS := mRet (mBin fEq (mCall f_are_names (mCons (mVar 6) (mNil))) (mOr (mBin fEq (mVar 6) (mTup (mNil))) (mBin fEq (mVar 6) (mTup (mCons (mC (.str [97])) (mNil))))))
def m__law_right : MS := mSeq s__law_right_0 (mSeq s__law_right_1 (mSeq s__law_right_2 (mSeq s__law_right_3 (mSeq s__law_right_4 (mSeq s__law_right_5 (mSeq s__law_right_6 (mSeq s__law_right_7 (mSeq s__law_right_8 (mSeq s__law_right_9 (s__law_right_10))))))))))
def f__law_right : FN := runDef 1 9 m__law_right
/-! law -/
def s_law_0 : MS := mFor (mItC fRange1 (mCons (mCall fMax2 (mCons (mC (.int 1)) (mCons (mCall fMin2 (mCons (mC (.int 8)) (mCons (mCall fLen (mCons (mVar 0) (mNil))) (mNil)))) (mNil)))) (mNil))) (gVar 1) (mSeq (mSet 2 (mCall f__law_dice (mCons (mVar 0) (mCons (mVar 1) (mNil))))) (mFor (mItC fRange1 (mCons (mC (.int 6)) (mNil))) (gVar 3) (mIf (mNotT (mB (mCall f__law_right (mCons (mVar 2) (mNil))))) (mRet (mC (.bl false))) (mDone))))
def s_law_1 : MS := mSet 4 (mLst (mCons (mCall f_is_integer (mCons (mUn fNeg (mC (.int 7))) (mNil))) (mCons (mCall f_is_count (mCons (mC (.bl true)) (mNil))) (mCons (mCall f_is_name (mCons (mC (.str [97, 98, 49])) (mNil))) (mCons (mCall f_are_names (mCons (mTup (mNil)) (mNil))) (mCons (mCall f_are_names (mCons (mTup (mCons (mC (.str [98])) (mCons (mC (.str [97])) (mCons (mC (.str [98])) (mNil))))) (mNil))) (mCons (mCall f_is_name (mCons (mBin fMulA (mC (.str [97])) (mC (.int 9))) (mNil))) (mNil))))))))
def s_law_2 : MS := mSet 5 (mBin fPow (mC (.int 10)) (mC (.int 60)))
def s_law_3 : MS := mSet 4 (mBin fAdd (mVar 4) (mLst (mCons (mCall f_is_integer (mCons (mBin fSub (mVar 5) (mC (.int 1))) (mNil))) (mCons (mCall f_is_integer (mCons (mVar 5) (mNil))) (mCons (mCall f_is_integer (mCons (mBin fSub (mC (.int 1)) (mVar 5)) (mNil))) (mCons (mCall f_is_integer (mCons (mBin fSub (mC (.int 0)) (mVar 5)) (mNil))) (mCons (mCall f_is_count (mCons (mUn fNeg (mC (.int 1))) (mNil))) (mNil))))))))
def s_law_4 : MS := mSet 6 (mLst (mCons (mC (.bl true)) (mCons (mC (.bl false)) (mCons (mC (.bl false)) (mCons (mC (.bl true)) (mCons (mC (.bl true)) (mCons (mC (.bl false)) (mCons (mC (.bl true)) (mCons (mC (.bl false)) (mCons (mC (.bl true)) (mCons (mC (.bl false)) (mCons (mC (.bl false)) (mNil)))))))))))))
def s_law_5 : MS := mRet (mAnd (mBin fEq (mVar 4) (mVar 6)) (mBin fEq (mLst (mCons (mC c_MAX_LETTERS) (mCons (mC c_MAX_FIGURES) (mNil)))) (mLst (mCons (mC (.int 8)) (mCons (mC (.int 60)) (mNil))))))
def m_law : MS := mSeq s_law_0 (mSeq s_law_1 (mSeq s_law_2 (mSeq s_law_3 (mSeq s_law_4 (s_law_5)))))
def f_law : FN := runDef 1 7 m_law
end Wg.K01

namespace Wg.K01
open PySem Wg
theorem fIsi_eq {h : Store} {x : PV} {t n : String} (hv : tyN h x = some t) (hn : tysB.contains n = true) : fIsi [x, .ty n] h = .ok (.bl (isTy t n)) h := by
  show (match tyN h x with | some t => if tysB.contains n = true then R.ok (PV.bl (isTy t n)) h else .no | none => .no) = _
  rw [hv]
  exact if_pos hn
def inG (i : Int) : Bool := decide (-1000000000000000000000000000000000000000000000000000000000000 < i) && decide (i < 1000000000000000000000000000000000000000000000000000000000000)
theorem isInt_int (i : Int) (h : Store) : f_is_integer [.int i] h = .ok (.bl (inG i)) h := by
  have e1 : fIsi [.int i, .ty "int"] h = .ok (.bl true) h := fIsi_eq (t := "int") rfl (by decide)
  have e2 : fIsi [.int i, .ty "bool"] h = .ok (.bl false) h := fIsi_eq (t := "int") rfl (by decide)
  by_cases h1 : -1000000000000000000000000000000000000000000000000000000000000 < i <;> simp [f_is_integer, runDef, m_is_integer, s_is_integer_0, initL, e1, e2, inG, h1]
theorem isInt_no {h : Store} {x : PV} {t : String} (hv : tyN h x = some t) (ht : isTy t "int" = false ∨ isTy t "bool" = true) : f_is_integer [x] h = .ok (.bl false) h := by
  have e1 : fIsi [x, .ty "int"] h = .ok (.bl (isTy t "int")) h := fIsi_eq hv (by decide)
  have e2 : fIsi [x, .ty "bool"] h = .ok (.bl (isTy t "bool")) h := fIsi_eq hv (by decide)
  rcases ht with ht | ht
  · rw [ht] at e1
    simp [f_is_integer, runDef, m_is_integer, s_is_integer_0, initL, e1]
  · rw [ht] at e2
    cases q : isTy t "int" <;> rw [q] at e1 <;> simp [f_is_integer, runDef, m_is_integer, s_is_integer_0, initL, e1, e2]
theorem isCnt_int (i : Int) (h : Store) : f_is_count [.int i] h = .ok (.bl (inG i && decide (0 ≤ i))) h := by
  cases q : inG i <;> simp [f_is_count, runDef, m_is_count, s_is_count_0, initL, isInt_int, q]
theorem isCnt_no {h : Store} {x : PV} {t : String} (hv : tyN h x = some t) (ht : isTy t "int" = false ∨ isTy t "bool" = true) : f_is_count [x] h = .ok (.bl false) h := by
  simp [f_is_count, runDef, m_is_count, s_is_count_0, initL, isInt_no hv ht]
def az (c : Nat) : Bool := decide (97 ≤ c) && decide (c ≤ 122)
def wordB (x : List Nat) : Bool := decide (1 ≤ x.length) && decide (x.length ≤ 8) && x.all az
theorem mem_az (c : Nat) : decide (c ∈ [97, 98, 99, 100, 101, 102, 103, 104, 105, 106, 107, 108, 109, 110, 111, 112, 113, 114, 115, 116, 117, 118, 119, 120, 121, 122]) = az c := by
  unfold az
  rw [← Bool.decide_and]
  refine decide_eq_decide.mpr ?_
  simp only [List.mem_cons, List.not_mem_nil, or_false]
  omega
theorem isName_str (x : List Nat) (hx : x.length ≤ 1000) (h : Store) : f_is_name [.str x] h = .ok (.bl (wordB x)) h := by
  have e1 : fIsi [.str x, .ty "str"] h = .ok (.bl true) h := fIsi_eq (t := "str") rfl (by decide)
  have hl : x.length ≤ 1000000 := by omega
  by_cases h1 : 1 ≤ x.length
  · by_cases h2 : x.length ≤ 8
    · have e2 : lcL (gVar 1) mYes (mBin fInStr (mVar 1) (mC c_LETTERS)) (x.map fun c => .str [c]) [some (.str x), none] h = .ok ((x.map az).map PV.bl) h := by
        have := lcL_eq (g := gVar 1) (t := mYes) (e := mBin fInStr (mVar 1) (mC c_LETTERS)) (l := [some (.str x), none]) (h := h) (ys := x.map fun c => .str [c]) (fun _ => true)
          (fun y => match y with | .str [c] => .bl (az c) | _ => .non) (by
            intro y hy
            obtain ⟨c, hc, rfl⟩ := List.mem_map.mp hy
            refine ⟨_, rfl, rfl, fun _ => ?_⟩
            exact congrArg (fun b => R.ok (PV.bl b) h) (mem_az c))
        rw [this, List.filter_eq_self.mpr (fun _ _ => rfl), List.map_map, List.map_map]
        rfl
      have e3 : fAll [.lst ((x.map az).map PV.bl)] h = .ok (.bl (x.all az)) h := by
        rw [List.map_map]
        exact fAll_map az x
      have hz : x.length ≤ sizeLine := show _ ≤ 16777216 by omega
      have h1' : (1 : Int) ≤ (x.length : Int) := by omega
      have h2' : (x.length : Int) ≤ 8 := by omega
      simp only [f_is_name, runDef, m_is_name, s_is_name_0, s_is_name_1, initL, mSeq_at, mIf_at, mOrT_at, mNotT_at, mB_at, mCall_at, mCons_at, mNil_at, mVar_at, mC_at, mChain_at, List.map_cons, List.map_nil, List.length_cons, List.length_nil, List.cons_append, List.nil_append, List.getElem?_cons_zero, List.getElem?_cons_succ, R.bind_ok, e1, Bool.not_true, Bool.false_eq_true, if_false, fLen_str hl, fLe_int, decide_eq_true h1', decide_eq_true h2', if_true, mDone_at, on_nx, mRet_at, mLc_at, mItS_at, List.length_map, hz, wipeL_cons, wipeL_nil, List.replicate, List.set_cons_succ, List.set_cons_zero, e2, e3]
      simp [wordB, h1, h2, e2, e3]
    · have h1' : (1 : Int) ≤ (x.length : Int) := by omega
      have h2' : ¬ (x.length : Int) ≤ 8 := by omega
      simp [f_is_name, runDef, m_is_name, s_is_name_0, s_is_name_1, initL, e1, hl, h1', h2', wordB, h1, h2]
  · have h1' : ¬ (1 : Int) ≤ (x.length : Int) := by omega
    simp [f_is_name, runDef, m_is_name, s_is_name_0, s_is_name_1, initL, e1, hl, h1', wordB, h1]
theorem isName_no {h : Store} {x : PV} {t : String} (hv : tyN h x = some t) (ht : isTy t "str" = false) : f_is_name [x] h = .ok (.bl false) h := by
  have e1 : fIsi [x, .ty "str"] h = .ok (.bl false) h := by rw [fIsi_eq hv (by decide), ht]
  simp [f_is_name, runDef, m_is_name, s_is_name_0, s_is_name_1, initL, e1]

/-- values that names are looked for in -/
def nmB : PV → Bool
  | .str x => wordB x
  | _ => false
def okN : PV → Prop
  | .str x => x.length ≤ 1000
  | .int _ => True
  | .bl _ => True
  | .non => True
  | _ => False
theorem isName_ok {x : PV} (hx : okN x) (h : Store) : f_is_name [x] h = .ok (.bl (nmB x)) h := by
  cases x with
  | str z => exact isName_str z hx h
  | int z => exact isName_no (t := "int") rfl (by decide)
  | bl z => exact isName_no (t := "bool") rfl (by decide)
  | non => exact isName_no (t := "NoneType") rfl (by decide)
  | _ => exact hx.elim
theorem areNames_tup {xs : List PV} (hx : ∀ x ∈ xs, okN x) (hl : xs.length ≤ 1000) (h : Store) : f_are_names [.tup xs] h = .ok (.bl (xs.all nmB)) h := by
  have e1 : fIsi [.tup xs, .ty "tuple"] h = .ok (.bl true) h := fIsi_eq (t := "tuple") rfl (by decide)
  have e2 : lcL (gVar 1) mYes (mCall f_is_name (mCons (mVar 1) mNil)) xs [some (.tup xs), none] h = .ok (xs.map fun x => .bl (nmB x)) h := by
    have := lcL_eq (g := gVar 1) (t := mYes) (e := mCall f_is_name (mCons (mVar 1) mNil)) (l := [some (.tup xs), none]) (h := h) (ys := xs) (fun _ => true) (fun y => .bl (nmB y)) (by
      intro y hy
      refine ⟨_, rfl, rfl, fun _ => ?_⟩
      simp [isName_ok (hx y hy)])
    rw [this, List.filter_eq_self.mpr (fun _ _ => rfl)]
  have e3 : fAll [.lst (xs.map fun x => .bl (nmB x))] h = .ok (.bl (xs.all nmB)) h := fAll_map nmB xs
  have hz : xs.length ≤ sizeLine := show _ ≤ 16777216 by omega
  have e4 : mItT (mVar 0) [some (.tup xs), none] h = .ok xs h := rfl
  simp [f_are_names, runDef, m_are_names, s_are_names_0, initL, e1, e2, e3, hz, e4]
theorem areNames_no {h : Store} {x : PV} {t : String} (hv : tyN h x = some t) (ht : isTy t "tuple" = false) : f_are_names [x] h = .ok (.bl false) h := by
  have e1 : fIsi [x, .ty "tuple"] h = .ok (.bl false) h := by rw [fIsi_eq hv (by decide), ht]
  simp [f_are_names, runDef, m_are_names, s_are_names_0, initL, e1]
def okS (x : List Nat) : Prop := x.length ≤ 1000 ∧ ∀ c ∈ x, c < 128
theorem lt_one (a b : Nat) : decide (([a] : List Nat) < [b]) = decide (a < b) := by
  have : ([a] : List Nat) < [b] ↔ a < b := by
    rw [List.cons_lt_cons_iff]
    simp
  exact decide_eq_decide.mpr this
theorem lawWord (x : List Nat) (hx : okS x) (h : Store) : f__law_is_word [.str x] h = .ok (.bl (wordB x)) h := by
  have hl : x.length ≤ 1000000 := by have := hx.1; omega
  have hz : x.length ≤ sizeLine := show _ ≤ 16777216 by omega
  by_cases h1 : 1 ≤ x.length
  · by_cases h2 : x.length ≤ 8
    · have e2 : lcL (gVar 1) (mNotT (mB (mChain fLe fLe (mC (.str [97])) (mVar 1) (mC (.str [122]))))) (mVar 1) (x.map fun c => .str [c]) [some (.str x), none] h = .ok (((x.map fun c => [c]).filter fun c => !c.all az).map PV.str) h := by
        have := lcL_eq (g := gVar 1) (t := mNotT (mB (mChain fLe fLe (mC (.str [97])) (mVar 1) (mC (.str [122]))))) (e := mVar 1) (l := [some (.str x), none]) (h := h) (ys := (x.map fun c => [c]).map PV.str) (fun y => match y with | .str c => !c.all az | _ => false)
          (fun y => y) (by
            intro y hy
            obtain ⟨c', hc', rfl⟩ := List.mem_map.mp hy
            obtain ⟨c, hc, rfl⟩ := List.mem_map.mp hc'
            refine ⟨_, rfl, ?_, fun _ => rfl⟩
            have k1 : decide (([c] : List Nat) < [97]) = decide (c < 97) := lt_one _ _
            have k2 : decide (([122] : List Nat) < [c]) = decide (122 < c) := lt_one _ _
            simp only [mNotT_at, mB_at, mChain_at, mC_at, mVar_at, R.bind_ok, fLe_str, k1, k2, List.set_cons_succ, List.set_cons_zero, List.getElem?_cons_succ, List.getElem?_cons_zero]
            by_cases q : c < 97
            · have q' : ¬ 97 ≤ c := by omega
              simp [q, q', az]
            · have q' : 97 ≤ c := by omega
              by_cases q2 : c ≤ 122
              · have q3 : ¬ 122 < c := by omega
                simp [q, q', q2, q3, az]
              · have q3 : 122 < c := by omega
                simp [q, q', q2, q3, az])
        have e' : x.map (fun c => PV.str [c]) = (x.map fun c => [c]).map PV.str := by rw [List.map_map]; rfl
        rw [e', this, List.map_id', List.filter_map]
        rfl
      have e3 : fEq (.lst (((x.map fun c => [c]).filter fun c => !c.all az).map PV.str)) (.lst []) h = .ok (.bl (x.all az)) h := by
        have hok : okD 1 (.lst (((x.map fun c => [c]).filter fun c => !c.all az).map PV.str)) = true := by
          simp only [okD, List.all_eq_true, List.mem_map, List.mem_filter]
          rintro y ⟨z, ⟨⟨c, hc, rfl⟩, _⟩, rfl⟩
          have := hx.2 c hc
          simp only [okD, List.all_cons, List.all_nil, Bool.and_true, decide_eq_true_eq]
          omega
        rw [fEq_ok (n := 1) (by decide) hok rfl]
        simp only [eqPV]
        have e5 := eqPVs_map PV.str (fun a b => eqPV_str) ((x.map fun c => [c]).filter fun c => !c.all az) []
        rw [List.map_nil] at e5
        rw [e5]
        congr 2
        rw [Bool.eq_iff_iff]
        simp [List.filter_eq_nil_iff, az]
      have h1' : (0 : Int) < (x.length : Int) := by omega
      have h2' : (x.length : Int) < 9 := by omega
      simp only [f__law_is_word, runDef, m__law_is_word, s__law_is_word_0, initL, mCall_at, mCons_at, mNil_at, mVar_at, mC_at, mAnd_at, mBin_at, mChain_at, List.map_cons, List.map_nil, List.length_cons, List.length_nil, List.cons_append, List.nil_append, List.getElem?_cons_zero, List.getElem?_cons_succ, R.bind_ok, fLen_str hl, fLt_int, decide_eq_true h1', decide_eq_true h2', if_true, mRet_at, mLc_at, mItS_at, List.length_map, hz, wipeL_cons, wipeL_nil, List.replicate, List.set_cons_succ, List.set_cons_zero, e2, e3, mLst_at, Nat.zero_le]
      simp [wordB, h1, h2, e2, e3]
    · have h1' : (0 : Int) < (x.length : Int) := by omega
      have h2' : ¬ (x.length : Int) < 9 := by omega
      simp [f__law_is_word, runDef, m__law_is_word, s__law_is_word_0, initL, hl, h1', h2', wordB, h1, h2]
  · have h1' : ¬ 0 < x.length := by omega
    simp [f__law_is_word, runDef, m__law_is_word, s__law_is_word_0, initL, hl, h1', wordB, h1]

/-! ### what is drawn -/
theorem drawnInt {a : Nat} {h : Store} (d : Dice h a) : Ok (f__law_drawn_integer [.ref a] h) fun v h' => Dice h' a ∧ ∃ n : Int, v = .int n ∧ n.natAbs < 10 ^ 75 := by
  refine Ok.def rfl ?_
  simp [m__law_drawn_integer, s__law_drawn_integer_0, initL, sizeLine, R.bind_assoc]
  refine Ok.call (ok_pick (by simp) (by simp) d) ?_
  rintro v h1 ⟨d1, hv⟩
  obtain ⟨m, rfl, hm⟩ : ∃ m : Int, v = .int m ∧ -2 ≤ m ∧ m ≤ 1 := by
    simp at hv
    rcases hv with rfl | rfl | rfl | rfl <;> exact ⟨_, rfl, by decide, by decide⟩
  simp [s__law_drawn_integer_1, sizeLine, R.bind_assoc]
  refine Ok.call (ok_roll (by decide) (by decide) d1) ?_
  rintro v h2 ⟨d2, r, rfl, hr0, hr1⟩
  have hrr : -1000000000 ≤ 48 + r ∧ 48 + r ≤ 1000000000 := by omega
  have hlen : (48 + r).toNat ≤ 72 := by omega
  simp [hrr, R.bind_assoc, if_bind]
  rw [if_pos (show 48 + r ≤ 16777216 by omega)]
  refine Ok.call (Ok.lcL (fun h => Dice h a) (fun z => ∃ c : Nat, z = .str [c] ∧ 48 ≤ c ∧ c ≤ 57) d2 ?_) ?_
  · intro y hy h3 d3
    simp [R.bind_assoc]
    refine Ok.call (ok_roll (by decide) (by decide) d3) ?_
    rintro v h4 ⟨d4, q, rfl, hq0, hq1⟩
    rw [fStrOf_int (show q.natAbs < 10 ^ 75 by omega), digs_one hq0 hq1]
    exact ⟨⟨48 + q.toNat, rfl, by omega, by omega⟩, d4⟩
  rintro zs h3 ⟨d3, hz, hzl⟩
  obtain ⟨ds, rfl, hds⟩ := exists_map (fun c => .str [c]) hz
  rw [runI_len, List.length_map] at hzl
  have hd1 : ∀ c ∈ 49 :: ds, 48 ≤ c ∧ c ≤ 57 := fun c hc => by
    rcases List.mem_cons.mp hc with q | q
    · rw [q]; decide
    · exact hds c q
  rw [fJoin_ones (by omega), R.bind_ok, fAdd_str (by simp; omega), R.bind_ok, List.singleton_append, fIntOf_digits hd1 (by simp) (by simp; omega), R.bind_ok]
  have hv1 := digitsVal_lt _ (49 :: ds) rfl hd1
  generalize hw : NumText.digitsVal (49 :: ds) = w at hv1
  have hv2 : w < 10 ^ 73 := Nat.lt_of_lt_of_le hv1 (Nat.pow_le_pow_right (by decide) (by simp; omega))
  simp [s__law_drawn_integer_2, sizeLine, R.bind_assoc]
  refine Ok.call (ok_pick (by simp) (by simp) d3) ?_
  rintro v h4 ⟨d4, hv⟩
  obtain ⟨g, rfl, hg⟩ : ∃ g : Int, v = .int g ∧ (g = 1 ∨ g = -1) := by
    simp at hv
    rcases hv with rfl | rfl <;> exact ⟨_, rfl, by decide⟩
  refine Ok.call (ok_roll (by decide) (by decide) d4) ?_
  rintro v h5 ⟨d5, q, rfl, hq0, hq1⟩
  refine Ok.call (ok_pick (by simp) (by simp) d5) ?_
  rintro v h6 ⟨d6, hv⟩
  obtain ⟨n, rfl, hn⟩ : ∃ n : Int, v = .int n ∧ n.natAbs < 10 ^ 75 := by
    simp at hv
    rcases hv with rfl | rfl | rfl | rfl | rfl <;> exact ⟨_, rfl, by omega⟩
  have hgg : -(2 ^ 64) < g ∧ g < 2 ^ 64 := by rcases hg with rfl | rfl <;> decide
  rw [fMulA_l hgg]
  refine ⟨d6, _, rfl, ?_⟩
  rcases hg with rfl | rfl <;> omega
theorem drawnStr {a : Nat} {h : Store} (d : Dice h a) : Ok (f__law_drawn_string [.ref a] h) fun v h' => Dice h' a ∧ ∃ x, v = .str x ∧ okS x := by
  refine Ok.def rfl ?_
  simp [m__law_drawn_string, s__law_drawn_string_0, initL, sizeLine, R.bind_assoc]
  refine Ok.call (ok_pick (by simp) (by simp) d) ?_
  rintro v h1 ⟨d1, hv⟩
  obtain ⟨m, rfl, hm⟩ : ∃ m : List Nat, v = .str m ∧ (m ≠ [] ∧ m.length < 1000000 ∧ ∀ c ∈ m, c < 128) := by
    simp at hv
    rcases hv with rfl | rfl | rfl | rfl | rfl | rfl | rfl | rfl <;> exact ⟨_, rfl, by decide⟩
  simp [s__law_drawn_string_1, sizeLine, R.bind_assoc]
  refine Ok.call (ok_roll (by decide) (by decide) d1) ?_
  rintro v h2 ⟨d2, r, rfl, hr0, hr1⟩
  have hrr : -1000000000 ≤ r ∧ r ≤ 1000000000 := by omega
  simp [hrr, R.bind_assoc, if_bind]
  rw [if_pos (show r ≤ 16777216 by omega)]
  refine Ok.call (Ok.lcL (fun h => Dice h a) (fun z => ∃ c : Nat, z = .str [c] ∧ c < 128) d2 ?_) ?_
  · intro y hy h3 d3
    simp [R.bind_assoc]
    refine (ok_pickS hm.1 hm.2.1 d3).mono ?_
    rintro v h4 ⟨d4, c, hc, rfl⟩
    exact ⟨⟨c, rfl, hm.2.2 c hc⟩, d4⟩
  rintro zs h3 ⟨d3, hz, hzl⟩
  obtain ⟨ds, rfl, hds⟩ := exists_map (fun c => .str [c]) hz
  rw [runI_len, List.length_map] at hzl
  rw [fJoin_ones (by omega)]
  exact ⟨d3, ds, rfl, by omega, hds⟩
end Wg.K01

namespace Wg.K01
open PySem Wg
theorem fig_iff {n : Int} : inG n = decide (((TL.numL n.natAbs).length : Int) < 61) := by
  have := numL_len_iff (n := n.natAbs) (k := 60) (by decide)
  unfold inG
  rw [← Bool.decide_and]
  refine decide_eq_decide.mpr ?_
  omega
theorem digs_small {n : Int} (h : n.natAbs < 10 ^ 75) : (digs n).length ≤ 1000000 := by
  have a := digs_len n
  have b := TL.numL_len (k := 75) (by decide) h
  split at a <;> omega
theorem right {a : Nat} {h : Store} (d : Dice h a) : Ok (f__law_right [.ref a] h) fun v h' => Dice h' a ∧ v = .bl true := by
  refine Ok.def rfl ?_
  simp only [m__law_right, mSeq_at, s__law_right_0, mSet_at, mCall_at, mCons_at, mNil_at, mVar_at, initL, List.map_cons, List.map_nil, List.length_cons, List.length_nil, List.cons_append, List.nil_append, List.getElem?_cons_zero, List.getElem?_cons_succ, R.bind_ok, R.bind_assoc]
  refine Ok.call (drawnInt d) ?_
  rintro v h1 ⟨d1, n, rfl, hn⟩
  have i1 := isInt_int n h1
  have i2 := isCnt_int n h1
  have i3 : f_is_name [.int n] h1 = .ok (.bl false) h1 := isName_ok (x := .int n) trivial h1
  have i4 : inG n = decide (((TL.numL n.natAbs).length : Int) < 61) := fig_iff
  have hf := digs_len n
  have e1 := fStrOf_int (h := h1) hn
  have e2 := fLen_str (h := h1) (digs_small hn)
  generalize hF : (TL.numL n.natAbs).length = F at i4 hf
  have e3 : s__law_right_1 [some (.ref a), some (.int n), none, none, none, none, none, none, none] h1 = .ok (.nx [some (.ref a), some (.int n), some (.int F), none, none, none, none, none, none]) h1 := by
    by_cases hneg : n < 0
    · have hF2 : ((digs n).length : Int) - 1 = F := by rw [if_pos hneg] at hf; omega
      simp only [s__law_right_1, mSet_at, mBin_at, mCall_at, mCons_at, mNil_at, mVar_at, mC_at, List.getElem?_cons_zero, List.getElem?_cons_succ, List.set_cons_zero, List.set_cons_succ, R.bind_ok, e1, e2, fLt_int, fIntOf_bl, fSub_int, decide_eq_true hneg, if_true, hF2]
    · have hF2 : ((digs n).length : Int) - 0 = F := by rw [if_neg hneg] at hf; omega
      simp only [s__law_right_1, mSet_at, mBin_at, mCall_at, mCons_at, mNil_at, mVar_at, mC_at, List.getElem?_cons_zero, List.getElem?_cons_succ, List.set_cons_zero, List.set_cons_succ, R.bind_ok, e1, e2, fLt_int, fIntOf_bl, fSub_int, decide_eq_false hneg, Bool.false_eq_true, if_false, hF2]
  have e4 : s__law_right_2 [some (.ref a), some (.int n), some (.int F), none, none, none, none, none, none] h1 = .ok (.nx [some (.ref a), some (.int n), some (.int F), none, none, none, none, none, none]) h1 := by
    rw [i4] at i1 i2
    by_cases hF6 : (F : Int) < 61 <;> by_cases hn0 : 0 ≤ n <;> simp [s__law_right_2, i1, i2, i3, hF6, hn0]
  simp only [List.replicate, List.set_cons_zero, List.set_cons_succ, on_nx, mSeq_at, e3, R.bind_ok, e4, s__law_right_3, mSet_at, mCall_at, mCons_at, mNil_at, mVar_at, List.getElem?_cons_zero, List.getElem?_cons_succ, R.bind_assoc]
  clear e1 e2 e3 e4 i1 i2 i3 i4 hf
  -- a text
  refine Ok.call (drawnStr d1) ?_
  rintro v h2 ⟨d2, x, rfl, hx⟩
  have e4 : s__law_right_4 [some (.ref a), some (.int n), some (.int F), some (.str x), none, none, none, none, none] h2 = .ok (.nx [some (.ref a), some (.int n), some (.int F), some (.str x), none, none, none, none, none]) h2 := by
    have i1 := isName_str x hx.1 h2
    have i2 := lawWord x hx h2
    have i3 : f_is_integer [.str x] h2 = .ok (.bl false) h2 := isInt_no (t := "str") rfl (.inl (by decide))
    have i4 : f_is_count [.str x] h2 = .ok (.bl false) h2 := isCnt_no (t := "str") rfl (.inl (by decide))
    cases q : wordB x <;> rw [q] at i1 i2 <;> simp [s__law_right_4, i1, i2, i3, i4]
  simp only [List.set_cons_zero, List.set_cons_succ, on_nx, mSeq_at, R.bind_ok, e4, s__law_right_5, mSet_at, mLc_at, mItC_at, mCall_at, mCons_at, mNil_at, mVar_at, mC_at, List.getElem?_cons_zero, List.getElem?_cons_succ, R.bind_assoc]
  clear e4
  -- some texts
  refine Ok.call (ok_roll (by decide) (by decide) d2) ?_
  rintro v h3 ⟨d3, r, rfl, hr0, hr1⟩
  rw [fRange1_int (by omega)]
  simp only [R.bind_ok, runI_len]
  rw [if_pos (show r.toNat ≤ sizeLine from show _ ≤ 16777216 by omega)]
  simp only [R.bind_assoc]
  refine Ok.call (Ok.lcL (fun h => Dice h a) (fun z => ∃ x, z = .str x ∧ okS x) d3 ?_) ?_
  · intro y hy h4 d4
    refine (drawnStr d4).mono ?_
    rintro v h5 ⟨d5, x, rfl, hx⟩
    exact ⟨⟨x, rfl, hx⟩, d5⟩
  rintro zs h4 ⟨d4, hz, hzl⟩
  obtain ⟨ds, rfl, hds⟩ := exists_map PV.str hz
  rw [runI_len, List.length_map] at hzl
  simp only [R.bind_ok, on_nx, mSeq_at, List.set_cons_zero, List.set_cons_succ]
  have okM : ∀ x ∈ ds.map PV.str, okN x := fun x hx => by
    obtain ⟨z, hz, rfl⟩ := List.mem_map.mp hx
    exact (hds z hz).1
  have e6 : s__law_right_6 [some (.ref a), some (.int n), some (.int F), some (.str x), some (.lst (ds.map PV.str)), none, none, none, none] h4 = .ok (.nx [some (.ref a), some (.int n), some (.int F), some (.str x), some (.lst (ds.map PV.str)), some (.bl (ds.all wordB)), none, none, none]) h4 := by
    have e2 : lcL (gVar 8) (mNotT (mB (mCall f__law_is_word (mCons (mVar 8) mNil)))) (mVar 8) (ds.map PV.str) [some (.ref a), some (.int n), some (.int F), some (.str x), some (.lst (ds.map PV.str)), none, none, none, none] h4 = .ok ((ds.filter fun z => !wordB z).map PV.str) h4 := by
      have := lcL_eq (g := gVar 8) (t := mNotT (mB (mCall f__law_is_word (mCons (mVar 8) mNil)))) (e := mVar 8) (l := [some (.ref a), some (.int n), some (.int F), some (.str x), some (.lst (ds.map PV.str)), none, none, none, none]) (h := h4) (ys := ds.map PV.str) (fun y => !nmB y) (fun y => y) (by
        intro y hy
        obtain ⟨z, hz, rfl⟩ := List.mem_map.mp hy
        refine ⟨_, rfl, ?_, fun _ => rfl⟩
        have := lawWord z (hds z hz) h4
        simp only [mNotT_at, mB_at, mCall_at, mCons_at, mNil_at, mVar_at, R.bind_ok, List.set_cons_zero, List.set_cons_succ, List.getElem?_cons_zero, List.getElem?_cons_succ, this]
        rfl)
      rw [this, List.map_id', List.filter_map]
      rfl
    have e3 : fEq (.lst ((ds.filter fun z => !wordB z).map PV.str)) (.lst []) h4 = .ok (.bl (ds.all wordB)) h4 := by
      have hok : okD 1 (.lst ((ds.filter fun z => !wordB z).map PV.str)) = true := by
        simp only [okD, List.all_eq_true, List.mem_map, List.mem_filter]
        rintro y ⟨z, ⟨hz, _⟩, rfl⟩
        simp only [okD, List.all_eq_true, decide_eq_true_eq]
        intro c hc
        have := (hds z hz).2 c hc
        omega
      rw [fEq_ok (n := 1) (by decide) hok rfl]
      simp only [eqPV]
      have e5 := eqPVs_map PV.str (fun a b => eqPV_str) (ds.filter fun z => !wordB z) []
      rw [List.map_nil] at e5
      rw [e5]
      congr 2
      rw [Bool.eq_iff_iff]
      simp [List.filter_eq_nil_iff]
    have hz : (ds.map PV.str).length ≤ sizeLine := show _ ≤ 16777216 by rw [List.length_map]; omega
    have e4 : mItL (mVar 4) [some (.ref a), some (.int n), some (.int F), some (.str x), some (.lst (ds.map PV.str)), none, none, none, none] h4 = .ok (ds.map PV.str) h4 := rfl
    simp only [s__law_right_6, mSet_at, mBin_at, mLc_at, e4, R.bind_ok, if_pos hz, wipeL_cons, wipeL_nil, List.set_cons_zero, List.set_cons_succ, e2, mLst_at, mNil_at, List.length_nil, Nat.zero_le, if_true, e3]
  have e7 : s__law_right_7 [some (.ref a), some (.int n), some (.int F), some (.str x), some (.lst (ds.map PV.str)), some (.bl (ds.all wordB)), none, none, none] h4 = .ok (.nx [some (.ref a), some (.int n), some (.int F), some (.str x), some (.lst (ds.map PV.str)), some (.bl (ds.all wordB)), none, none, none]) h4 := by
    have i1 := areNames_tup okM (by rw [List.length_map]; omega) h4
    have i2 : f_are_names [.lst (ds.map PV.str)] h4 = .ok (.bl false) h4 := areNames_no (t := "list") rfl (by decide)
    have i3 := areNames_tup (xs := ds.map PV.str ++ [.int n]) (fun y hy => by
      rcases List.mem_append.mp hy with q | q
      · exact okM y q
      · rw [List.mem_singleton.mp q]; trivial) (by rw [List.length_append, List.length_map]; simp; omega) h4
    rw [List.all_map] at i1
    have i4 : ds.all (nmB ∘ PV.str) = ds.all wordB := rfl
    have i5 : (ds.map PV.str ++ [PV.int n]).all nmB = false := by rw [List.all_append]; simp [nmB]
    rw [i4] at i1
    rw [i5] at i3
    have i6 : fAdd (.tup (ds.map PV.str)) (.tup [.int n]) h4 = .ok (.tup (ds.map PV.str ++ [.int n])) h4 := fAdd_tup (by rw [List.length_map]; simp; omega)
    have i7 : (1 : Nat) ≤ sizeLine := by decide
    cases q : ds.all wordB <;> rw [q] at i1 <;> simp [s__law_right_7, i1, i2, i3, i6, i7]
  simp only [mSeq_at, e6, e7, R.bind_ok, on_nx]
  clear e6 e7
  have eD : ∀ l h, mDctX [(mC (.str [97]), mC (.int 1))] l h = .ok (.dct [(.str [97], .int 1)]) h := fun _ _ => rfl
  simp only [s__law_right_8, mSeq_at, mSet_at, mCall_at, mCons_at, mNil_at, mVar_at, mC_at, mTup_at, mLst_at, eD, List.getElem?_cons_zero, List.getElem?_cons_succ, R.bind_ok, R.bind_assoc, List.length_cons, List.length_nil, Nat.zero_add, show (1 : Nat) ≤ sizeLine from by decide, show (0 : Nat) ≤ sizeLine from by decide, show (11 : Nat) ≤ sizeLine from by decide, if_true, Nat.reduceAdd]
  refine Ok.call (ok_pick (by simp) (by simp) d4) ?_
  rintro v h5 ⟨d5, hv⟩
  simp only [R.bind_ok, on_nx, List.set_cons_zero, List.set_cons_succ]
  generalize some (PV.lst (ds.map PV.str)) = w1
  generalize some (PV.bl (ds.all wordB)) = w2
  have key : ∀ {v : PV} {t : String} {b c : Bool}, tyN h5 v = some t → isTy t "int" = false ∨ isTy t "bool" = true → f_is_name [v] h5 = .ok (.bl false) h5 → f_are_names [v] h5 = .ok (.bl (b || c)) h5 → fEq v (.tup []) h5 = .ok (.bl b) h5 → fEq v (.tup [.str [97]]) h5 = .ok (.bl c) h5 →
      Ok ((s__law_right_9 [some (.ref a), some (.int n), some (.int F), some (.str x), w1, w2, some v, none, none] h5).bind fun f h => f.on h s__law_right_10) fun f h' => match f with
        | .rt x => Dice h' a ∧ x = .bl true
        | .nx _ => Dice h' a ∧ PV.non = .bl true
        | _ => False := by
    intro v t b c k1 k2 k3 k4 k5 k6
    have j1 := isInt_no k1 k2
    have j2 := isCnt_no k1 k2
    have j3 : (1 : Nat) ≤ sizeLine := by decide
    cases b <;> simp [s__law_right_9, s__law_right_10, j1, j2, j3, k3, k4, k5, k6, d5]
  have q0 : ∀ {v : PV} {b : Bool}, okD 2 v = true → eqPV v (.tup []) = b → fEq v (.tup []) h5 = .ok (.bl b) h5 := fun k e => by rw [fEq_ok (n := 2) (by decide) k rfl, e]
  have q1 : ∀ {v : PV} {b : Bool}, okD 2 v = true → eqPV v (.tup [.str [97]]) = b → fEq v (.tup [.str [97]]) h5 = .ok (.bl b) h5 := fun k e => by rw [fEq_ok (n := 2) (by decide) k rfl, e]
  simp only [List.mem_cons, List.not_mem_nil, or_false] at hv
  rcases hv with rfl | rfl | rfl | rfl | rfl | rfl | rfl | rfl | rfl | rfl | rfl
  · exact key (t := "NoneType") (b := false) (c := false) rfl (.inl (by decide)) (isName_ok (x := .non) trivial _) (areNames_no (t := "NoneType") rfl (by decide)) (q0 rfl rfl) (q1 rfl rfl)
  · exact key (t := "bool") (b := false) (c := false) rfl (.inr (by decide)) (isName_ok (x := .bl true) trivial _) (areNames_no (t := "bool") rfl (by decide)) (q0 rfl rfl) (q1 rfl rfl)
  · exact key (t := "bool") (b := false) (c := false) rfl (.inr (by decide)) (isName_ok (x := .bl false) trivial _) (areNames_no (t := "bool") rfl (by decide)) (q0 rfl rfl) (q1 rfl rfl)
  · exact key (t := "str") (b := false) (c := false) rfl (.inl (by decide)) (isName_ok (x := .str [49]) (show _ ≤ 1000 by decide) _) (areNames_no (t := "str") rfl (by decide)) (q0 rfl rfl) (q1 rfl rfl)
  · exact key (t := "tuple") (b := false) (c := false) rfl (.inl (by decide)) (isName_no (t := "tuple") rfl (by decide)) (areNames_tup (xs := [.int 1]) (by simp [okN]) (by decide) _) (q0 rfl rfl) (q1 rfl rfl)
  · exact key (t := "list") (b := false) (c := false) rfl (.inl (by decide)) (isName_no (t := "list") rfl (by decide)) (areNames_no (t := "list") rfl (by decide)) (q0 rfl rfl) (q1 rfl rfl)
  · exact key (t := "dict") (b := false) (c := false) rfl (.inl (by decide)) (isName_no (t := "dict") rfl (by decide)) (areNames_no (t := "dict") rfl (by decide)) rfl rfl
  · exact key (t := "tuple") (b := true) (c := false) rfl (.inl (by decide)) (isName_no (t := "tuple") rfl (by decide)) (areNames_tup (xs := []) (by simp) (by decide) _) (q0 rfl rfl) (q1 rfl rfl)
  · exact key (t := "list") (b := false) (c := false) rfl (.inl (by decide)) (isName_no (t := "list") rfl (by decide)) (areNames_no (t := "list") rfl (by decide)) (q0 rfl rfl) (q1 rfl rfl)
  · exact key (t := "dict") (b := false) (c := false) rfl (.inl (by decide)) (isName_no (t := "dict") rfl (by decide)) (areNames_no (t := "dict") rfl (by decide)) rfl rfl
  · exact key (t := "tuple") (b := false) (c := true) rfl (.inl (by decide)) (isName_no (t := "tuple") rfl (by decide)) (areNames_tup (xs := [.str [97]]) (by simp [okN]) (by decide) _) (q0 rfl rfl) (q1 rfl rfl)
/-! ### the law -/
theorem tail {l : Lv} {h : Store} {s d t : Option PV} {u : PV} (hl : l = [some u, s, d, t, none, none, none]) : Ok ((mSeq s_law_1 (mSeq s_law_2 (mSeq s_law_3 (mSeq s_law_4 s_law_5)))) l h) fun f h' => f = .rt (.bl true) := by
  subst hl
  have i1 : f_is_integer [.int (-7)] h = .ok (.bl true) h := (isInt_int _ _).trans (congrArg (fun b => R.ok (PV.bl b) h) (by decide))
  have i2 : f_is_count [.bl true] h = .ok (.bl false) h := isCnt_no (t := "bool") rfl (.inr (by decide))
  have i3 : f_is_name [.str [97, 98, 49]] h = .ok (.bl false) h := (isName_str _ (by decide) h).trans (congrArg (fun b => R.ok (PV.bl b) h) (by decide))
  have i4 : f_are_names [.tup []] h = .ok (.bl true) h := areNames_tup (xs := []) (by simp) (by decide) h
  have i5 : f_are_names [.tup [.str [98], .str [97], .str [98]]] h = .ok (.bl true) h := (areNames_tup (xs := [.str [98], .str [97], .str [98]]) (by simp [okN]) (by decide) h).trans (congrArg (fun b => R.ok (PV.bl b) h) (by decide))
  have i6 : f_is_name [.str [97, 97, 97, 97, 97, 97, 97, 97, 97]] h = .ok (.bl false) h := (isName_str _ (by decide) h).trans (congrArg (fun b => R.ok (PV.bl b) h) (by decide))
  have m1 : fMulA (.str [97]) (.int 9) h = .ok (.str [97, 97, 97, 97, 97, 97, 97, 97, 97]) h := rfl
  have i7 : f_is_integer [.int (1000000000000000000000000000000000000000000000000000000000000 - 1)] h = .ok (.bl true) h := (isInt_int _ _).trans (congrArg (fun b => R.ok (PV.bl b) h) (by decide))
  have i8 : f_is_integer [.int 1000000000000000000000000000000000000000000000000000000000000] h = .ok (.bl false) h := (isInt_int _ _).trans (congrArg (fun b => R.ok (PV.bl b) h) (by decide))
  have i9 : f_is_integer [.int (1 - 1000000000000000000000000000000000000000000000000000000000000)] h = .ok (.bl true) h := (isInt_int _ _).trans (congrArg (fun b => R.ok (PV.bl b) h) (by decide))
  have i10 : f_is_integer [.int (0 - 1000000000000000000000000000000000000000000000000000000000000)] h = .ok (.bl false) h := (isInt_int _ _).trans (congrArg (fun b => R.ok (PV.bl b) h) (by decide))
  have i11 : f_is_count [.int (-1)] h = .ok (.bl false) h := (isCnt_int _ _).trans (congrArg (fun b => R.ok (PV.bl b) h) (by decide))
  have z6 : (6 : Nat) ≤ sizeLine := by decide
  have z5 : (5 : Nat) ≤ sizeLine := by decide
  have z11 : (11 : Nat) ≤ sizeLine := by decide
  have z0 : (0 : Nat) ≤ sizeLine := by decide
  have z3 : (3 : Nat) ≤ sizeLine := by decide
  have z2 : (2 : Nat) ≤ sizeLine := by decide
  have e1 : s_law_1 [some u, s, d, t, none, none, none] h = .ok (.nx [some u, s, d, t, some (.lst [.bl true, .bl false, .bl false, .bl true, .bl true, .bl false]), none, none]) h := by
    simp only [s_law_1, mSet_at, mCall_at, mCons_at, mNil_at, mUn_at, mC_at, mBin_at, mTup_at, mLst_at, R.bind_ok, fNeg_int, List.length_cons, List.length_nil, Nat.reduceAdd, z0, z3, z6, if_true, i1, i2, i3, i4, i5, i6, m1, List.set_cons_zero, List.set_cons_succ]
  have e2 : s_law_2 [some u, s, d, t, some (.lst [.bl true, .bl false, .bl false, .bl true, .bl true, .bl false]), none, none] h = .ok (.nx [some u, s, d, t, some (.lst [.bl true, .bl false, .bl false, .bl true, .bl true, .bl false]), some (.int 1000000000000000000000000000000000000000000000000000000000000), none]) h := by
    simp [s_law_2]
  have e3 : s_law_3 [some u, s, d, t, some (.lst [.bl true, .bl false, .bl false, .bl true, .bl true, .bl false]), some (.int 1000000000000000000000000000000000000000000000000000000000000), none] h = .ok (.nx [some u, s, d, t, some (.lst [.bl true, .bl false, .bl false, .bl true, .bl true, .bl false, .bl true, .bl false, .bl true, .bl false, .bl false]), some (.int 1000000000000000000000000000000000000000000000000000000000000), none]) h := by
    have a1 : fAdd (.lst [.bl true, .bl false, .bl false, .bl true, .bl true, .bl false]) (.lst [.bl true, .bl false, .bl true, .bl false, .bl false]) h = .ok (.lst [.bl true, .bl false, .bl false, .bl true, .bl true, .bl false, .bl true, .bl false, .bl true, .bl false, .bl false]) h := fAdd_lst (by decide)
    simp only [s_law_3, mSet_at, mCall_at, mCons_at, mNil_at, mUn_at, mC_at, mVar_at, List.getElem?_cons_zero, List.getElem?_cons_succ, mBin_at, mLst_at, R.bind_ok, fNeg_int, fSub_int, List.length_cons, List.length_nil, Nat.reduceAdd, z5, if_true, i7, i8, i9, i10, i11, a1, List.set_cons_zero, List.set_cons_succ]
  generalize PV.int 1000000000000000000000000000000000000000000000000000000000000 = G at *
  have q1 : fEq (.lst [.bl true, .bl false, .bl false, .bl true, .bl true, .bl false, .bl true, .bl false, .bl true, .bl false, .bl false]) (.lst [.bl true, .bl false, .bl false, .bl true, .bl true, .bl false, .bl true, .bl false, .bl true, .bl false, .bl false]) h = .ok (.bl true) h := by
    rw [fEq_ok (n := 1) (by decide) rfl rfl]; rfl
  have q2 : fEq (.lst [.int 8, .int 60]) (.lst [.int 8, .int 60]) h = .ok (.bl true) h := by
    rw [fEq_ok (n := 1) (by decide) rfl rfl]; rfl
  simp only [mSeq_at, e1, e2, e3, R.bind_ok, on_nx, s_law_4, s_law_5, mSet_at, mCons_at, mNil_at, mC_at, mVar_at, List.getElem?_cons_zero, List.getElem?_cons_succ, mBin_at, mLst_at, mAnd_at, mRet_at, List.length_cons, List.length_nil, Nat.reduceAdd, z11, z2, if_true, List.set_cons_zero, List.set_cons_succ, q1, q2, Ok_ok]
theorem plain : PlainOk f_law := by
  intro ns hl
  have := Ok.out (r := f_law [.scr (ns.map .int)] []) (Q := fun v _ => v = .bl true) ?_
  · obtain ⟨v, h, e, rfl⟩ := this
    exact ⟨h, e⟩
  refine Ok.def rfl ?_
  simp only [m_law, mSeq_at, s_law_0, mFor_at, mItC_at, mCall_at, mCons_at, mNil_at, mVar_at, mC_at, initL, List.map_cons, List.map_nil, List.length_cons, List.length_nil, List.cons_append, List.nil_append, List.getElem?_cons_zero, List.getElem?_cons_succ, R.bind_ok, R.bind_assoc, fLen_scr, List.length_map, fMin2_int, fMax2_int]
  have hr : ∃ n : Nat, n ≤ 8 ∧ (if (if (ns.length : Int) < 8 then (ns.length : Int) else 8) > 1 then (if (ns.length : Int) < 8 then (ns.length : Int) else 8) else 1) = (n : Int) := by
    by_cases a : (ns.length : Int) < 8
    · rw [if_pos a]
      by_cases b : (ns.length : Int) > 1
      · rw [if_pos b]; exact ⟨ns.length, by omega, rfl⟩
      · rw [if_neg b]; exact ⟨1, by decide, rfl⟩
    · rw [if_neg a]; exact ⟨8, by decide, rfl⟩
  obtain ⟨n, hn, e⟩ := hr
  rw [e, fRange1_int (by omega)]
  simp only [R.bind_ok]
  refine Ok.call (P := fun f h => ∃ s d t, f = .nx [some (.scr (ns.map .int)), s, d, t, none, none, none]) ?_ ?_
  · refine Ok.forL (fun l _ => ∃ s d t, l = [some (.scr (ns.map .int)), s, d, t, none, none, none]) (fun l h ⟨s, d, t, e⟩ => ⟨s, d, t, by rw [e]⟩) ⟨_, _, _, rfl⟩ ?_
    rintro y hy l h ⟨s, d, t, rfl⟩
    obtain ⟨m, hm, rfl⟩ := mem_runI hy
    rw [Int.zero_add]
    simp only [gVar_at, Ok_ok, List.set_cons_zero, List.set_cons_succ, mSeq_at, mSet_at, mCall_at, mCons_at, mNil_at, mVar_at, mC_at, List.getElem?_cons_zero, List.getElem?_cons_succ, R.bind_ok, R.bind_assoc, mFor_at, mItC_at]
    refine Ok.call (ok_dice (by omega)) ?_
    rintro v h1 ⟨rfl, x1, x2, x3, rfl, hx⟩
    generalize ha : h.length = a
    have d0 : Dice (h ++ [.lst [.int x1, .int x2, .int x3]]) a := ⟨x1, x2, x3, by rw [← ha]; simp, hx⟩
    simp only [on_nx, mFor_at, mItC_at, mCons_at, mNil_at, mC_at, R.bind_ok, R.bind_assoc]
    rw [fRange1_int (by decide)]
    simp only [on_nx, R.bind_ok]
    refine (Ok.forL (Q := fun f h => ∃ s d t, f = .nx [some (.scr (ns.map .int)), s, d, t, none, none, none]) (fun l h => Dice h a ∧ ∃ t, l = [some (.scr (ns.map .int)), some (.int m), some (.ref a), t, none, none, none]) (fun l h ⟨_, t, e⟩ => ⟨_, _, t, congrArg Fl.nx e⟩) ⟨d0, _, rfl⟩ ?_).mono ?_
    · rintro y hy l h ⟨d, t, rfl⟩
      simp only [gVar_at, Ok_ok, List.set_cons_zero, List.set_cons_succ, mIf_at, mNotT_at, mB_at, mCall_at, mCons_at, mNil_at, mVar_at, mC_at, List.getElem?_cons_zero, List.getElem?_cons_succ, R.bind_ok, R.bind_assoc]
      refine Ok.call (right d) ?_
      rintro v h2 ⟨d2, rfl⟩
      exact ⟨d2, _, rfl⟩
    · rintro f h' ⟨s, d, t, rfl⟩
      exact ⟨s, d, t, rfl⟩
  · rintro f h ⟨s, d, t, rfl⟩
    exact (tail rfl).mono fun f h' e => by subst e; rfl
end Wg.K01

namespace Wg.K01
open PySem PySem.Spec PyProof.Rows L2 Wg
def top (i : Nat) : Stmt := PySem.Challenge.pw_wheelgrown_k01_whole_integers_and_names.main.body.getD i (.Pass ⟨0, 0, 0, 0⟩)
structure Txt (mg : Str → Option Value) : Prop where
  b_abs : mg "abs" = none
  b_all : mg "all" = none
  b_bool : mg "bool" = none
  b_int : mg "int" = none
  b_isinstance : mg "isinstance" = none
  b_len : mg "len" = none
  b_max : mg "max" = none
  b_min : mg "min" = none
  b_range : mg "range" = none
  b_str : mg "str" = none
  b_tuple : mg "tuple" = none
  ct_GREAT : ∃ t, mg "GREAT" = some (.int 1000000000000000000000000000000000000000000000000000000000000 t)
  ct_LETTERS : ∃ t, mg "LETTERS" = some (.str ⟨([97, 98, 99, 100, 101, 102, 103, 104, 105, 106, 107, 108, 109, 110, 111, 112, 113, 114, 115, 116, 117, 118, 119, 120, 121, 122] : List Nat).toArray⟩ t)
  ct_MAX_FIGURES : ∃ t, mg "MAX_FIGURES" = some (.int 60 t)
  ct_MAX_LETTERS : ∃ t, mg "MAX_LETTERS" = some (.int 8 t)
section
variable {P : Program} {w : World} {K : PySem.W.Frag} {mg : Str → Option Value} {base : Heap}
theorem Txt.x_GREAT {X : Cx} {W : WX} {pos : Pos} (T : Txt X.mg) (hg : Gl X "GREAT" := by rfl) : XE X W (.Name "GREAT" pos) (mC c_GREAT) := let ⟨_, h⟩ := T.ct_GREAT; xe_gInt h hg
theorem Txt.x_LETTERS {X : Cx} {W : WX} {pos : Pos} (T : Txt X.mg) (hg : Gl X "LETTERS" := by rfl) : XE X W (.Name "LETTERS" pos) (mC c_LETTERS) := let ⟨_, h⟩ := T.ct_LETTERS; xe_gStr h hg
theorem Txt.x_MAX_FIGURES {X : Cx} {W : WX} {pos : Pos} (T : Txt X.mg) (hg : Gl X "MAX_FIGURES" := by rfl) : XE X W (.Name "MAX_FIGURES" pos) (mC c_MAX_FIGURES) := let ⟨_, h⟩ := T.ct_MAX_FIGURES; xe_gInt h hg
theorem Txt.x_MAX_LETTERS {X : Cx} {W : WX} {pos : Pos} (T : Txt X.mg) (hg : Gl X "MAX_LETTERS" := by rfl) : XE X W (.Name "MAX_LETTERS" pos) (mC c_MAX_LETTERS) := let ⟨_, h⟩ := T.ct_MAX_LETTERS; xe_gInt h hg
abbrev N_is_integer : List Str := ["value"]
theorem sc_is_integer : FnScope N_is_integer ["value"] (defScope (top 5)) := ⟨rfl, rfl, rfl, by decide +kernel, rfl, by decide +kernel, by decide +kernel⟩
theorem ok_is_integer {f : Addr} {fd : FuncData} (T : Txt mg)  (F : Fun K "is_integer" "is_integer" (top 5) f fd) : FnOk P w K mg base (L2.CX P w) 1 f fd ["value"] (spM K f_is_integer) :=
  fn_okM (N := N_is_integer) F sc_is_integer fun cdv A outer s H E hr => xss_one (xs_ret (xe_and (xe_isi T.b_isinstance (xa_cons (xv 0) (xa_cons (xe_Tint T.b_int) (xa_nil)))) (xe_and (xe_not (xe_isi T.b_isinstance (xa_cons (xv 0) (xa_cons (xe_Tbool T.b_bool) (xa_nil))))) (xe_one (xe_lt_lt (xe_neg (T.x_GREAT)) (xv 0) (T.x_GREAT))))))
abbrev N_is_count : List Str := ["value"]
theorem sc_is_count : FnScope N_is_count ["value"] (defScope (top 6)) := ⟨rfl, rfl, rfl, by decide +kernel, rfl, by decide +kernel, by decide +kernel⟩
theorem ok_is_count {f : Addr} {fd : FuncData} (T : Txt mg) (D_is_integer : Def P w K mg base 1 "is_integer" f_is_integer) (F : Fun K "is_count" "is_count" (top 6) f fd) : FnOk P w K mg base (L2.CX P w) 2 f fd ["value"] (spM K f_is_count) :=
  fn_okM (N := N_is_count) F sc_is_count fun cdv A outer s H E hr => xss_one (xs_ret (xe_and (xe_call D_is_integer (hr.mono (by decide)) (takes_of rfl rfl rfl rfl) (xa_cons (xv 0) (xa_nil))) (xe_one (xe_ge (xv 0) (xe_int)))))
abbrev N_is_name : List Str := ["value", "sign"]
theorem sc_is_name : FnScope N_is_name ["value"] (defScope (top 7)) := ⟨rfl, rfl, rfl, by decide +kernel, rfl, by decide +kernel, by decide +kernel⟩
theorem ok_is_name {f : Addr} {fd : FuncData} (T : Txt mg)  (F : Fun K "is_name" "is_name" (top 7) f fd) : FnOk P w K mg base (L2.CX P w) 1 f fd ["value"] (spM K f_is_name) :=
  fn_okM (N := N_is_name) F sc_is_name fun cdv A outer s H E hr => xss_cons (xs_if (PW.pt (xw_or (xt_not (xt_val (xe_isi T.b_isinstance (xa_cons (xv 0) (xa_cons (xe_Tstr T.b_str) (xa_nil)))))) (xw_or1 (xt_not (xt_le_le (xe_int) (xe_len T.b_len (xa_cons (xv 0) (xa_nil))) (T.x_MAX_LETTERS)))))) (xss_one (xs_ret (xe_bl))) (xss_nil)) (xss_one (xs_ret (xe_all rfl T.b_all (xa_cons (xe_lc rfl sc_is_name.nd (xi_str (xv 0)) (own := [("sign", 1)]) (blkOk_by (N := N_is_name) (sc := defScope (top 7)) (by decide +kernel)) (fun _ _ _ _ _ => xgw_name sc_is_name.nd) (fun _ _ _ _ _ => xts_nil) (fun _ _ _ _ _ => xe_inStr (xv 1) (T.x_LETTERS))) (xa_nil)))))
abbrev N_are_names : List Str := ["value", "name"]
theorem sc_are_names : FnScope N_are_names ["value"] (defScope (top 8)) := ⟨rfl, rfl, rfl, by decide +kernel, rfl, by decide +kernel, by decide +kernel⟩
theorem ok_are_names {f : Addr} {fd : FuncData} (T : Txt mg) (D_is_name : Def P w K mg base 1 "is_name" f_is_name) (F : Fun K "are_names" "are_names" (top 8) f fd) : FnOk P w K mg base (L2.CX P w) 2 f fd ["value"] (spM K f_are_names) :=
  fn_okM (N := N_are_names) F sc_are_names fun cdv A outer s H E hr => xss_one (xs_ret (xe_and (xe_isi T.b_isinstance (xa_cons (xv 0) (xa_cons (xe_Ttuple T.b_tuple) (xa_nil)))) (xe_one (xe_all rfl T.b_all (xa_cons (xe_lc rfl sc_are_names.nd (xi_tup (xv 0)) (own := [("name", 1)]) (blkOk_by (N := N_are_names) (sc := defScope (top 8)) (by decide +kernel)) (fun _ _ _ _ _ => xgw_name sc_are_names.nd) (fun _ _ _ _ _ => xts_nil) (fun _ _ _ _ _ => xe_call D_is_name (hr.mono (by decide)) (takes0) (xa_cons (xv 1) (xa_nil)))) (xa_nil))))))
abbrev N__law_dice : List Str := ["script", "spot", "cell", "left"]
theorem sc__law_dice : FnScope N__law_dice ["script", "spot"] (defScope (top 10)) := ⟨rfl, rfl, rfl, by decide +kernel, rfl, by decide +kernel, by decide +kernel⟩
theorem ok__law_dice {f : Addr} {fd : FuncData} (T : Txt mg)  (F : Fun K "_law_dice" "_law_dice" (top 10) f fd) : FnOk P w K mg base (L2.CX P w) 1 f fd ["script", "spot"] (spM K f__law_dice) :=
  fn_okM (N := N__law_dice) F sc__law_dice fun cdv A outer s H E hr => xss_cons (xs_set (i := 2) sc__law_dice.nd (xe_ifE (xt_lt (xv 1) (xe_len T.b_len (xa_cons (xv 0) (xa_nil)))) (xe_int_ T.b_int (xa_cons (xe_ix (xv 0) (xv 1)) (xa_nil))) (xe_add (xe_mulA (xe_int) (xv 1)) (xe_int)))) (xss_cons (xs_set (i := 3) sc__law_dice.nd (xe_mod (xe_max2 rfl T.b_max (xa_cons (xe_int) (xa_cons (xe_sub (xe_abs T.b_abs (xa_cons (xv 2) (xa_nil))) (xe_pow (xe_int) (xe_int))) (xa_nil)))) (xe_mulA (xe_pow (xe_int) (xe_int)) (xe_pow (xe_int) (xe_int))))) (xss_one (xs_ret (xe_lstN (xa_cons (xv 3) (xa_cons (xe_add (xe_add (xe_add (xe_mulA (xe_mod (xe_abs T.b_abs (xa_cons (xv 2) (xa_nil))) (xe_int)) (xe_int)) (xe_mulA (xe_int) (xv 1))) (xe_mulA (xe_int) (xe_int_ T.b_int (xa_cons (xe_lt (xv 2) (xe_int)) (xa_nil))))) (xe_int)) (xa_cons (xe_int) (xa_nil))))))))
abbrev N__law_roll : List Str := ["dice", "total", "found", "one", "two"]
theorem sc__law_roll : FnScope N__law_roll ["dice", "total"] (defScope (top 11)) := ⟨rfl, rfl, rfl, by decide +kernel, rfl, by decide +kernel, by decide +kernel⟩
theorem ok__law_roll {f : Addr} {fd : FuncData} (T : Txt mg)  (F : Fun K "_law_roll" "_law_roll" (top 11) f fd) : FnOk P w K mg base (L2.CX P w) 1 f fd ["dice", "total"] (spM K f__law_roll) :=
  fn_okM (N := N__law_roll) F sc__law_roll fun cdv A outer s H E hr => xss_cons (xs_if (xt_gt (xe_ix (xv 0) (xe_int)) (xe_int)) (xss_cons (xs_set (i := 2) sc__law_roll.nd (xe_mod (xe_int_ T.b_int (xa_cons (xe_ix (xv 0) (xe_int)) (xa_nil))) (xv 1))) (xss_cons (xs_asg (xe_div (xe_ix (xv 0) (xe_int)) (xv 1)) (xg_subL (xv 0) (xe_int))) (xss_one (xs_ret (xv 2))))) (xss_nil)) (xss_cons (xs_asg (xe_add (xe_ix (xv 0) (xe_int)) (xe_int)) (xg_subL (xv 0) (xe_int))) (xss_cons (xs_set (i := 3) sc__law_roll.nd (xe_mod (xe_int_ T.b_int (xa_cons (xe_add (xe_ix (xv 0) (xe_int)) (xe_mulA (xe_int) (xe_ix (xv 0) (xe_int)))) (xa_nil))) (xe_int))) (xss_cons (xs_set (i := 4) sc__law_roll.nd (xe_add (xe_mulA (xe_mod (xe_int_ T.b_int (xa_cons (xe_add (xe_mulA (xv 3) (xv 3)) (xe_mulA (xe_int) (xe_ix (xv 0) (xe_int)))) (xa_nil))) (xe_int)) (xe_int)) (xv 3))) (xss_one (xs_ret (xe_mod (xe_int_ T.b_int (xa_cons (xe_div (xv 4) (xe_int)) (xa_nil))) (xv 1)))))))
abbrev N__law_pick : List Str := ["dice", "items"]
theorem sc__law_pick : FnScope N__law_pick ["dice", "items"] (defScope (top 12)) := ⟨rfl, rfl, rfl, by decide +kernel, rfl, by decide +kernel, by decide +kernel⟩
theorem ok__law_pick {f : Addr} {fd : FuncData} (T : Txt mg) (D__law_roll : Def P w K mg base 1 "_law_roll" f__law_roll) (F : Fun K "_law_pick" "_law_pick" (top 12) f fd) : FnOk P w K mg base (L2.CX P w) 2 f fd ["dice", "items"] (spM K f__law_pick) :=
  fn_okM (N := N__law_pick) F sc__law_pick fun cdv A outer s H E hr => xss_one (xs_ret (xe_ix (xv 1) (xe_call D__law_roll (hr.mono (by decide)) (takes_of rfl rfl rfl rfl) (xa_cons (xv 0) (xa_cons (xe_len T.b_len (xa_cons (xv 1) (xa_nil))) (xa_nil))))))
abbrev N__law_drawn_integer : List Str := ["dice", "near", "long", "turn"]
theorem sc__law_drawn_integer : FnScope N__law_drawn_integer ["dice"] (defScope (top 13)) := ⟨rfl, rfl, rfl, by decide +kernel, rfl, by decide +kernel, by decide +kernel⟩
theorem ok__law_drawn_integer {f : Addr} {fd : FuncData} (T : Txt mg) (D__law_pick : Def P w K mg base 2 "_law_pick" f__law_pick) (D__law_roll : Def P w K mg base 1 "_law_roll" f__law_roll) (F : Fun K "_law_drawn_integer" "_law_drawn_integer" (top 13) f fd) : FnOk P w K mg base (L2.CX P w) 3 f fd ["dice"] (spM K f__law_drawn_integer) :=
  fn_okM (N := N__law_drawn_integer) F sc__law_drawn_integer fun cdv A outer s H E hr => xss_cons (xs_set (i := 1) sc__law_drawn_integer.nd (xe_add (xe_pow (xe_int) (xe_int)) (xe_call D__law_pick (hr.mono (by decide)) (takes_of rfl rfl rfl rfl) (xa_cons (xv 0) (xa_cons (xe_lst (xa_cons (xe_neg (xe_int)) (xa_cons (xe_neg (xe_int)) (xa_cons (xe_int) (xa_cons (xe_int) (xa_nil)))))) (xa_nil)))))) (xss_cons (xs_set (i := 2) sc__law_drawn_integer.nd (xe_int_ T.b_int (xa_cons (xe_add (xe_str (y := [49])) (xe_join (xe_str (y := [])) (xa_cons (xe_lc rfl sc__law_drawn_integer.nd (xi_range1 T.b_range (xa_cons (xe_add (xe_int) (xe_call D__law_roll (hr.mono (by decide)) (takes_of rfl rfl rfl rfl) (xa_cons (xv 0) (xa_cons (xe_int) (xa_nil))))) (xa_nil))) (own := [("turn", 3)]) (blkOk_by (N := N__law_drawn_integer) (sc := defScope (top 13)) (by decide +kernel)) (fun _ _ _ _ _ => xgw_name sc__law_drawn_integer.nd) (fun _ _ _ _ _ => xts_nil) (fun _ _ _ _ _ => xe_str_ T.b_str (xa_cons (xe_call D__law_roll (hr.mono (by decide)) (takes0) (xa_cons (xv 0) (xa_cons (xe_int) (xa_nil)))) (xa_nil)))) (xa_nil)))) (xa_nil)))) (xss_one (xs_ret (xe_mulA (xe_call D__law_pick (hr.mono (by decide)) (takes_of rfl rfl rfl rfl) (xa_cons (xv 0) (xa_cons (xe_lst (xa_cons (xe_int) (xa_cons (xe_neg (xe_int)) (xa_nil)))) (xa_nil)))) (xe_call D__law_pick (hr.mono (by decide)) (takes_of rfl rfl rfl rfl) (xa_cons (xv 0) (xa_cons (xe_lst (xa_cons (xe_call D__law_roll (hr.mono (by decide)) (takes_of rfl rfl rfl rfl) (xa_cons (xv 0) (xa_cons (xe_int) (xa_nil)))) (xa_cons (xv 1) (xa_cons (xv 2) (xa_cons (xv 1) (xa_cons (xe_int) (xa_nil))))))) (xa_nil))))))))
abbrev N__law_drawn_string : List Str := ["dice", "pool", "turn"]
theorem sc__law_drawn_string : FnScope N__law_drawn_string ["dice"] (defScope (top 14)) := ⟨rfl, rfl, rfl, by decide +kernel, rfl, by decide +kernel, by decide +kernel⟩
theorem ok__law_drawn_string {f : Addr} {fd : FuncData} (T : Txt mg) (D__law_pick : Def P w K mg base 2 "_law_pick" f__law_pick) (D__law_roll : Def P w K mg base 1 "_law_roll" f__law_roll) (F : Fun K "_law_drawn_string" "_law_drawn_string" (top 14) f fd) : FnOk P w K mg base (L2.CX P w) 3 f fd ["dice"] (spM K f__law_drawn_string) :=
  fn_okM (N := N__law_drawn_string) F sc__law_drawn_string fun cdv A outer s H E hr => xss_cons (xs_set (i := 1) sc__law_drawn_string.nd (xe_call D__law_pick (hr.mono (by decide)) (takes_of rfl rfl rfl rfl) (xa_cons (xv 0) (xa_cons (xe_lst (xa_cons (xe_str (y := [97, 98, 122])) (xa_cons (xe_str (y := [97, 98, 121, 122])) (xa_cons (xe_str (y := [97, 98, 99, 100, 101, 102, 103, 104, 105, 106, 107, 108, 109, 110, 111, 112, 113, 114, 115, 116, 117, 118, 119, 120, 121, 122])) (xa_cons (xe_str (y := [97, 122, 65])) (xa_cons (xe_str (y := [97, 122, 95])) (xa_cons (xe_str (y := [97, 49])) (xa_cons (xe_str (y := [97, 10])) (xa_cons (xe_str (y := [122, 123, 96])) (xa_nil)))))))))) (xa_nil))))) (xss_one (xs_ret (xe_join (xe_str (y := [])) (xa_cons (xe_lc rfl sc__law_drawn_string.nd (xi_range1 T.b_range (xa_cons (xe_call D__law_roll (hr.mono (by decide)) (takes_of rfl rfl rfl rfl) (xa_cons (xv 0) (xa_cons (xe_int) (xa_nil)))) (xa_nil))) (own := [("turn", 2)]) (blkOk_by (N := N__law_drawn_string) (sc := defScope (top 14)) (by decide +kernel)) (fun _ _ _ _ _ => xgw_name sc__law_drawn_string.nd) (fun _ _ _ _ _ => xts_nil) (fun _ _ _ _ _ => xe_call D__law_pick (hr.mono (by decide)) (takes0) (xa_cons (xv 0) (xa_cons (xv 1) (xa_nil))))) (xa_nil)))))
abbrev N__law_is_word : List Str := ["text", "sign"]
theorem sc__law_is_word : FnScope N__law_is_word ["text"] (defScope (top 15)) := ⟨rfl, rfl, rfl, by decide +kernel, rfl, by decide +kernel, by decide +kernel⟩
theorem ok__law_is_word {f : Addr} {fd : FuncData} (T : Txt mg)  (F : Fun K "_law_is_word" "_law_is_word" (top 15) f fd) : FnOk P w K mg base (L2.CX P w) 1 f fd ["text"] (spM K f__law_is_word) :=
  fn_okM (N := N__law_is_word) F sc__law_is_word fun cdv A outer s H E hr => xss_one (xs_ret (xe_and (xe_lt_lt (xe_int) (xe_len T.b_len (xa_cons (xv 0) (xa_nil))) (xe_int)) (xe_one (xe_eq (hr) (xe_lc rfl sc__law_is_word.nd (xi_str (xv 0)) (own := [("sign", 1)]) (blkOk_by (N := N__law_is_word) (sc := defScope (top 15)) (by decide +kernel)) (fun _ _ _ _ _ => xgw_name sc__law_is_word.nd) (fun _ _ _ _ _ => xts_one (xt_not (xt_le_le (xe_str (y := [97])) (xv 1) (xe_str (y := [122]))))) (fun _ _ _ _ _ => xv 1)) (xe_lst (xa_nil))))))
abbrev N__law_right : List Str := ["dice", "number", "figures", "text", "texts", "due", "odd", "turn", "one"]
theorem sc__law_right : FnScope N__law_right ["dice"] (defScope (top 16)) := ⟨rfl, rfl, rfl, by decide +kernel, rfl, by decide +kernel, by decide +kernel⟩
theorem ok__law_right {f : Addr} {fd : FuncData} (T : Txt mg) (D__law_drawn_integer : Def P w K mg base 3 "_law_drawn_integer" f__law_drawn_integer) (D__law_drawn_string : Def P w K mg base 3 "_law_drawn_string" f__law_drawn_string) (D__law_is_word : Def P w K mg base 1 "_law_is_word" f__law_is_word) (D__law_pick : Def P w K mg base 2 "_law_pick" f__law_pick) (D__law_roll : Def P w K mg base 1 "_law_roll" f__law_roll) (D_are_names : Def P w K mg base 2 "are_names" f_are_names) (D_is_count : Def P w K mg base 2 "is_count" f_is_count) (D_is_integer : Def P w K mg base 1 "is_integer" f_is_integer) (D_is_name : Def P w K mg base 1 "is_name" f_is_name) (F : Fun K "_law_right" "_law_right" (top 16) f fd) : FnOk P w K mg base (L2.CX P w) 4 f fd ["dice"] (spM K f__law_right) :=
  fn_okM (N := N__law_right) F sc__law_right fun cdv A outer s H E hr => xss_cons (xs_set (i := 1) sc__law_right.nd (xe_call D__law_drawn_integer (hr.mono (by decide)) (takes_of rfl rfl rfl rfl) (xa_cons (xv 0) (xa_nil)))) (xss_cons (xs_set (i := 2) sc__law_right.nd (xe_sub (xe_len T.b_len (xa_cons (xe_str_ T.b_str (xa_cons (xv 1) (xa_nil))) (xa_nil))) (xe_int_ T.b_int (xa_cons (xe_lt (xv 1) (xe_int)) (xa_nil))))) (xss_cons (xs_if (PW.pt (xw_or (xt_ne (hr) (xe_call D_is_integer (hr.mono (by decide)) (takes_of rfl rfl rfl rfl) (xa_cons (xv 1) (xa_nil))) (xe_lt (xv 2) (xe_int))) (xw_or (xt_ne (hr) (xe_call D_is_count (hr.mono (by decide)) (takes_of rfl rfl rfl rfl) (xa_cons (xv 1) (xa_nil))) (xe_and (xe_lt (xv 2) (xe_int)) (xe_one (xe_ge (xv 1) (xe_int))))) (xw_or1 (xt_val (xe_call D_is_name (hr.mono (by decide)) (takes_of rfl rfl rfl rfl) (xa_cons (xv 1) (xa_nil)))))))) (xss_one (xs_ret (xe_bl))) (xss_nil)) (xss_cons (xs_set (i := 3) sc__law_right.nd (xe_call D__law_drawn_string (hr.mono (by decide)) (takes_of rfl rfl rfl rfl) (xa_cons (xv 0) (xa_nil)))) (xss_cons (xs_if (PW.pt (xw_or (xt_ne (hr) (xe_call D_is_name (hr.mono (by decide)) (takes_of rfl rfl rfl rfl) (xa_cons (xv 3) (xa_nil))) (xe_call D__law_is_word (hr.mono (by decide)) (takes_of rfl rfl rfl rfl) (xa_cons (xv 3) (xa_nil)))) (xw_or (xt_val (xe_call D_is_integer (hr.mono (by decide)) (takes_of rfl rfl rfl rfl) (xa_cons (xv 3) (xa_nil)))) (xw_or1 (xt_val (xe_call D_is_count (hr.mono (by decide)) (takes_of rfl rfl rfl rfl) (xa_cons (xv 3) (xa_nil)))))))) (xss_one (xs_ret (xe_bl))) (xss_nil)) (xss_cons (xs_setLc (i := 4) rfl sc__law_right.nd (xi_range1 T.b_range (xa_cons (xe_call D__law_roll (hr.mono (by decide)) (takes_of rfl rfl rfl rfl) (xa_cons (xv 0) (xa_cons (xe_int) (xa_nil)))) (xa_nil))) (own := [("turn", 7)]) (blkOk_by (N := N__law_right) (sc := defScope (top 16)) (by decide +kernel)) (fun _ _ _ _ _ => xgw_name sc__law_right.nd) (fun _ _ _ _ _ => xts_nil) (fun _ _ _ _ _ => xe_call D__law_drawn_string (hr.mono (by decide)) (takes0) (xa_cons (xv 0) (xa_nil)))) (xss_cons (xs_set (i := 5) sc__law_right.nd (xe_eq (hr) (xe_lc rfl sc__law_right.nd (xi_list (xv 4)) (own := [("one", 8)]) (blkOk_by (N := N__law_right) (sc := defScope (top 16)) (by decide +kernel)) (fun _ _ _ _ _ => xgw_name sc__law_right.nd) (fun _ _ _ _ _ => xts_one (xt_not (xt_val (xe_call D__law_is_word (hr.mono (by decide)) (takes0) (xa_cons (xv 8) (xa_nil)))))) (fun _ _ _ _ _ => xv 8)) (xe_lst (xa_nil)))) (xss_cons (xs_if (PW.pt (xw_or (xt_ne (hr) (xe_call D_are_names (hr.mono (by decide)) (takes_of rfl rfl rfl rfl) (xa_cons (xe_tuple T.b_tuple (xa_cons (xv 4) (xa_nil))) (xa_nil))) (xv 5)) (xw_or (xt_val (xe_call D_are_names (hr.mono (by decide)) (takes_of rfl rfl rfl rfl) (xa_cons (xv 4) (xa_nil)))) (xw_or1 (xt_val (xe_call D_are_names (hr.mono (by decide)) (takes_of rfl rfl rfl rfl) (xa_cons (xe_add (xe_tuple T.b_tuple (xa_cons (xv 4) (xa_nil))) (xe_tup (xa_cons (xv 1) (xa_nil)))) (xa_nil)))))))) (xss_one (xs_ret (xe_bl))) (xss_nil)) (xss_cons (xs_set (i := 6) sc__law_right.nd (xe_call D__law_pick (hr.mono (by decide)) (takes_of rfl rfl rfl rfl) (xa_cons (xv 0) (xa_cons (xe_lst (xa_cons (xe_non) (xa_cons (xe_bl) (xa_cons (xe_bl) (xa_cons (xe_str (y := [49])) (xa_cons (xe_tup (xa_cons (xe_int) (xa_nil))) (xa_cons (xe_lst (xa_nil)) (xa_cons (xe_dct0) (xa_cons (xe_tup (xa_nil)) (xa_cons (xe_lst (xa_cons (xe_str (y := [97])) (xa_nil))) (xa_cons (xe_dct (.cons (xe_str (y := [97])) (xe_int) (.nil))) (xa_cons (xe_tup (xa_cons (xe_str (y := [97])) (xa_nil))) (xa_nil))))))))))))) (xa_nil))))) (xss_cons (xs_if (PW.pt (xw_or (xt_val (xe_call D_is_integer (hr.mono (by decide)) (takes_of rfl rfl rfl rfl) (xa_cons (xv 6) (xa_nil)))) (xw_or (xt_val (xe_call D_is_count (hr.mono (by decide)) (takes_of rfl rfl rfl rfl) (xa_cons (xv 6) (xa_nil)))) (xw_or1 (xt_val (xe_call D_is_name (hr.mono (by decide)) (takes_of rfl rfl rfl rfl) (xa_cons (xv 6) (xa_nil)))))))) (xss_one (xs_ret (xe_bl))) (xss_nil)) (xss_one (xs_ret (xe_eq (hr) (xe_call D_are_names (hr.mono (by decide)) (takes_of rfl rfl rfl rfl) (xa_cons (xv 6) (xa_nil))) (xe_or (xe_eq (hr) (xv 6) (xe_tup (xa_nil))) (xe_one (xe_eq (hr) (xv 6) (xe_tup (xa_cons (xe_str (y := [97])) (xa_nil))))))))))))))))))
abbrev N_law : List Str := ["script", "spot", "dice", "turn", "told", "great", "due"]
theorem sc_law : FnScope N_law ["script"] (defScope (top 17)) := ⟨rfl, rfl, rfl, by decide +kernel, rfl, by decide +kernel, by decide +kernel⟩
theorem ok_law {f : Addr} {fd : FuncData} (T : Txt mg) (D__law_dice : Def P w K mg base 1 "_law_dice" f__law_dice) (D__law_right : Def P w K mg base 4 "_law_right" f__law_right) (D_are_names : Def P w K mg base 2 "are_names" f_are_names) (D_is_count : Def P w K mg base 2 "is_count" f_is_count) (D_is_integer : Def P w K mg base 1 "is_integer" f_is_integer) (D_is_name : Def P w K mg base 1 "is_name" f_is_name) (F : Fun K "law" "law" (top 17) f fd) : FnOk P w K mg base (L2.CX P w) 5 f fd ["script"] (spM K f_law) :=
  fn_okM (N := N_law) F sc_law fun cdv A outer s H E hr => xss_cons (xs_for (passes_of rfl) rfl (xi_range1 T.b_range (xa_cons (xe_max2 rfl T.b_max (xa_cons (xe_int) (xa_cons (xe_min2 rfl T.b_min (xa_cons (xe_int) (xa_cons (xe_len T.b_len (xa_cons (xv 0) (xa_nil))) (xa_nil)))) (xa_nil)))) (xa_nil))) (xg_name (i := 1) sc_law.nd) (xss_cons (xs_set (i := 2) sc_law.nd (xe_call D__law_dice (hr.mono (by decide)) (takes_of rfl rfl rfl rfl) (xa_cons (xv 0) (xa_cons (xv 1) (xa_nil))))) (xss_one (xs_for (passes_of rfl) rfl (xi_range1 T.b_range (xa_cons (xe_int) (xa_nil))) (xg_name (i := 3) sc_law.nd) (xss_one (xs_if (xt_not (xt_val (xe_call D__law_right (hr.mono (by decide)) (takes_of rfl rfl rfl rfl) (xa_cons (xv 2) (xa_nil))))) (xss_one (xs_ret (xe_bl))) (xss_nil))))))) (xss_cons (xs_set (i := 4) sc_law.nd (xe_lst (xa_cons (xe_call D_is_integer (hr.mono (by decide)) (takes_of rfl rfl rfl rfl) (xa_cons (xe_neg (xe_int)) (xa_nil))) (xa_cons (xe_call D_is_count (hr.mono (by decide)) (takes_of rfl rfl rfl rfl) (xa_cons (xe_bl) (xa_nil))) (xa_cons (xe_call D_is_name (hr.mono (by decide)) (takes_of rfl rfl rfl rfl) (xa_cons (xe_str (y := [97, 98, 49])) (xa_nil))) (xa_cons (xe_call D_are_names (hr.mono (by decide)) (takes_of rfl rfl rfl rfl) (xa_cons (xe_tup (xa_nil)) (xa_nil))) (xa_cons (xe_call D_are_names (hr.mono (by decide)) (takes_of rfl rfl rfl rfl) (xa_cons (xe_tup (xa_cons (xe_str (y := [98])) (xa_cons (xe_str (y := [97])) (xa_cons (xe_str (y := [98])) (xa_nil))))) (xa_nil))) (xa_cons (xe_call D_is_name (hr.mono (by decide)) (takes_of rfl rfl rfl rfl) (xa_cons (xe_mulA (xe_str (y := [97])) (xe_int)) (xa_nil))) (xa_nil))))))))) (xss_cons (xs_set (i := 5) sc_law.nd (xe_pow (xe_int) (xe_int))) (xss_cons (xs_set (i := 4) sc_law.nd (xe_add (xv 4) (xe_lst (xa_cons (xe_call D_is_integer (hr.mono (by decide)) (takes_of rfl rfl rfl rfl) (xa_cons (xe_sub (xv 5) (xe_int)) (xa_nil))) (xa_cons (xe_call D_is_integer (hr.mono (by decide)) (takes_of rfl rfl rfl rfl) (xa_cons (xv 5) (xa_nil))) (xa_cons (xe_call D_is_integer (hr.mono (by decide)) (takes_of rfl rfl rfl rfl) (xa_cons (xe_sub (xe_int) (xv 5)) (xa_nil))) (xa_cons (xe_call D_is_integer (hr.mono (by decide)) (takes_of rfl rfl rfl rfl) (xa_cons (xe_sub (xe_int) (xv 5)) (xa_nil))) (xa_cons (xe_call D_is_count (hr.mono (by decide)) (takes_of rfl rfl rfl rfl) (xa_cons (xe_neg (xe_int)) (xa_nil))) (xa_nil))))))))) (xss_cons (xs_set (i := 6) sc_law.nd (xe_lst (xa_cons (xe_bl) (xa_cons (xe_bl) (xa_cons (xe_bl) (xa_cons (xe_bl) (xa_cons (xe_bl) (xa_cons (xe_bl) (xa_cons (xe_bl) (xa_cons (xe_bl) (xa_cons (xe_bl) (xa_cons (xe_bl) (xa_cons (xe_bl) (xa_nil)))))))))))))) (xss_one (xs_ret (xe_and (xe_eq (hr) (xv 4) (xv 6)) (xe_one (xe_eq (hr) (xe_lst (xa_cons (T.x_MAX_LETTERS) (xa_cons (T.x_MAX_FIGURES) (xa_nil)))) (xe_lst (xa_cons (xe_int) (xa_cons (xe_int) (xa_nil)))))))))))))
set_option linter.unusedVariables false in
theorem all_mk {l : PySem.W.OpenLaw} {w : World} {K : PySem.W.Frag} {h : Heap} {mg : Str → Option Value} {fa f0 f1 f2 f3 f4 f5 f6 f7 f8 f9 f10 f11 : Addr} (X : K.In h) (G : h.Ns mainGlobals mg) (hfa : mg "law" = some (.ref fa))
    {od0 an0 od1 an1 od2 an2 od3 an3 od4 an4 od5 an5 od6 an6 od7 an7 od8 an8 od9 an9 od10 an10 od11 an11 : Option Addr} {sl0 sl1 sl2 sl3 sl4 sl5 sl6 sl7 sl8 sl9 sl10 sl11 : Array (Option Value)} {oc0 kV0 dc0 pm0 cd0 ct0 oc1 kV1 dc1 pm1 cd1 ct1 oc2 kV2 dc2 pm2 cd2 ct2 oc3 kV3 dc3 pm3 cd3 ct3 oc4 kV4 dc4 pm4 cd4 ct4 oc5 kV5 dc5 pm5 cd5 ct5 oc6 kV6 dc6 pm6 cd6 ct6 oc7 kV7 dc7 pm7 cd7 ct7 oc8 kV8 dc8 pm8 cd8 ct8 oc9 kV9 dc9 pm9 cd9 ct9 oc10 kV10 dc10 pm10 cd10 ct10 oc11 kV11 dc11 pm11 cd11 ct11 : Value} {t_GREAT t_LETTERS t_MAX_FIGURES t_MAX_LETTERS : Tok}
    (a0 : PySem.W.nsIn K mainGlobals "is_integer" = some (some (.ref f0))) (l0 : K.lookup f0 = some ⟨oc0, od0, .func (PySem.W.fnOf "is_integer" "is_integer" (defArgs (top 5)) (defBody (top 5)) (defScope (top 5)) .none kV0 dc0 pm0 an0 cd0 ct0), sl0⟩) (c0 : PySem.W.codeIn K cd0 "is_integer" = true) (k0 : PySem.W.keepIn K (.ref f0) = true)
    (a1 : PySem.W.nsIn K mainGlobals "is_count" = some (some (.ref f1))) (l1 : K.lookup f1 = some ⟨oc1, od1, .func (PySem.W.fnOf "is_count" "is_count" (defArgs (top 6)) (defBody (top 6)) (defScope (top 6)) .none kV1 dc1 pm1 an1 cd1 ct1), sl1⟩) (c1 : PySem.W.codeIn K cd1 "is_count" = true) (k1 : PySem.W.keepIn K (.ref f1) = true)
    (a2 : PySem.W.nsIn K mainGlobals "is_name" = some (some (.ref f2))) (l2 : K.lookup f2 = some ⟨oc2, od2, .func (PySem.W.fnOf "is_name" "is_name" (defArgs (top 7)) (defBody (top 7)) (defScope (top 7)) .none kV2 dc2 pm2 an2 cd2 ct2), sl2⟩) (c2 : PySem.W.codeIn K cd2 "is_name" = true) (k2 : PySem.W.keepIn K (.ref f2) = true)
    (a3 : PySem.W.nsIn K mainGlobals "are_names" = some (some (.ref f3))) (l3 : K.lookup f3 = some ⟨oc3, od3, .func (PySem.W.fnOf "are_names" "are_names" (defArgs (top 8)) (defBody (top 8)) (defScope (top 8)) .none kV3 dc3 pm3 an3 cd3 ct3), sl3⟩) (c3 : PySem.W.codeIn K cd3 "are_names" = true) (k3 : PySem.W.keepIn K (.ref f3) = true)
    (a4 : PySem.W.nsIn K mainGlobals "_law_dice" = some (some (.ref f4))) (l4 : K.lookup f4 = some ⟨oc4, od4, .func (PySem.W.fnOf "_law_dice" "_law_dice" (defArgs (top 10)) (defBody (top 10)) (defScope (top 10)) .none kV4 dc4 pm4 an4 cd4 ct4), sl4⟩) (c4 : PySem.W.codeIn K cd4 "_law_dice" = true) (k4 : PySem.W.keepIn K (.ref f4) = true)
    (a5 : PySem.W.nsIn K mainGlobals "_law_roll" = some (some (.ref f5))) (l5 : K.lookup f5 = some ⟨oc5, od5, .func (PySem.W.fnOf "_law_roll" "_law_roll" (defArgs (top 11)) (defBody (top 11)) (defScope (top 11)) .none kV5 dc5 pm5 an5 cd5 ct5), sl5⟩) (c5 : PySem.W.codeIn K cd5 "_law_roll" = true) (k5 : PySem.W.keepIn K (.ref f5) = true)
    (a6 : PySem.W.nsIn K mainGlobals "_law_pick" = some (some (.ref f6))) (l6 : K.lookup f6 = some ⟨oc6, od6, .func (PySem.W.fnOf "_law_pick" "_law_pick" (defArgs (top 12)) (defBody (top 12)) (defScope (top 12)) .none kV6 dc6 pm6 an6 cd6 ct6), sl6⟩) (c6 : PySem.W.codeIn K cd6 "_law_pick" = true) (k6 : PySem.W.keepIn K (.ref f6) = true)
    (a7 : PySem.W.nsIn K mainGlobals "_law_drawn_integer" = some (some (.ref f7))) (l7 : K.lookup f7 = some ⟨oc7, od7, .func (PySem.W.fnOf "_law_drawn_integer" "_law_drawn_integer" (defArgs (top 13)) (defBody (top 13)) (defScope (top 13)) .none kV7 dc7 pm7 an7 cd7 ct7), sl7⟩) (c7 : PySem.W.codeIn K cd7 "_law_drawn_integer" = true) (k7 : PySem.W.keepIn K (.ref f7) = true)
    (a8 : PySem.W.nsIn K mainGlobals "_law_drawn_string" = some (some (.ref f8))) (l8 : K.lookup f8 = some ⟨oc8, od8, .func (PySem.W.fnOf "_law_drawn_string" "_law_drawn_string" (defArgs (top 14)) (defBody (top 14)) (defScope (top 14)) .none kV8 dc8 pm8 an8 cd8 ct8), sl8⟩) (c8 : PySem.W.codeIn K cd8 "_law_drawn_string" = true) (k8 : PySem.W.keepIn K (.ref f8) = true)
    (a9 : PySem.W.nsIn K mainGlobals "_law_is_word" = some (some (.ref f9))) (l9 : K.lookup f9 = some ⟨oc9, od9, .func (PySem.W.fnOf "_law_is_word" "_law_is_word" (defArgs (top 15)) (defBody (top 15)) (defScope (top 15)) .none kV9 dc9 pm9 an9 cd9 ct9), sl9⟩) (c9 : PySem.W.codeIn K cd9 "_law_is_word" = true) (k9 : PySem.W.keepIn K (.ref f9) = true)
    (a10 : PySem.W.nsIn K mainGlobals "_law_right" = some (some (.ref f10))) (l10 : K.lookup f10 = some ⟨oc10, od10, .func (PySem.W.fnOf "_law_right" "_law_right" (defArgs (top 16)) (defBody (top 16)) (defScope (top 16)) .none kV10 dc10 pm10 an10 cd10 ct10), sl10⟩) (c10 : PySem.W.codeIn K cd10 "_law_right" = true) (k10 : PySem.W.keepIn K (.ref f10) = true)
    (a11 : PySem.W.nsIn K mainGlobals "law" = some (some (.ref f11))) (l11 : K.lookup f11 = some ⟨oc11, od11, .func (PySem.W.fnOf "law" "law" (defArgs (top 17)) (defBody (top 17)) (defScope (top 17)) .none kV11 dc11 pm11 an11 cd11 ct11), sl11⟩) (c11 : PySem.W.codeIn K cd11 "law" = true) (k11 : PySem.W.keepIn K (.ref f11) = true)
    (z_abs : PySem.W.nsIn K mainGlobals "abs" = some none) (z_all : PySem.W.nsIn K mainGlobals "all" = some none) (z_bool : PySem.W.nsIn K mainGlobals "bool" = some none) (z_int : PySem.W.nsIn K mainGlobals "int" = some none) (z_isinstance : PySem.W.nsIn K mainGlobals "isinstance" = some none) (z_len : PySem.W.nsIn K mainGlobals "len" = some none) (z_max : PySem.W.nsIn K mainGlobals "max" = some none) (z_min : PySem.W.nsIn K mainGlobals "min" = some none) (z_range : PySem.W.nsIn K mainGlobals "range" = some none) (z_str : PySem.W.nsIn K mainGlobals "str" = some none) (z_tuple : PySem.W.nsIn K mainGlobals "tuple" = some none) (y_GREAT : PySem.W.nsIn K mainGlobals "GREAT" = some (some (.int 1000000000000000000000000000000000000000000000000000000000000 t_GREAT))) (y_LETTERS : PySem.W.nsIn K mainGlobals "LETTERS" = some (some (.str ⟨([97, 98, 99, 100, 101, 102, 103, 104, 105, 106, 107, 108, 109, 110, 111, 112, 113, 114, 115, 116, 117, 118, 119, 120, 121, 122] : List Nat).toArray⟩ t_LETTERS))) (y_MAX_FIGURES : PySem.W.nsIn K mainGlobals "MAX_FIGURES" = some (some (.int 60 t_MAX_FIGURES))) (y_MAX_LETTERS : PySem.W.nsIn K mainGlobals "MAX_LETTERS" = some (some (.int 8 t_MAX_LETTERS))) :
    ∃ fd : FuncData, (∀ (s : Shared) (v : Value), BindsTo s fd ⟨[v], []⟩ [("script", v)]) ∧ ∀ base : Heap, K.In base → base.Ns mainGlobals mg → FnOk l.prog w K mg base (L2.CX l.prog w) 5 fa fd ["script"] (spM K f_law) := by
  have e := hfa.symm.trans (PySem.W.mg_of X G a11)
  cases e
  have T : Txt mg := ⟨PySem.W.mg_none_of X G z_abs, PySem.W.mg_none_of X G z_all, PySem.W.mg_none_of X G z_bool, PySem.W.mg_none_of X G z_int, PySem.W.mg_none_of X G z_isinstance, PySem.W.mg_none_of X G z_len, PySem.W.mg_none_of X G z_max, PySem.W.mg_none_of X G z_min, PySem.W.mg_none_of X G z_range, PySem.W.mg_none_of X G z_str, PySem.W.mg_none_of X G z_tuple, ⟨_, PySem.W.mg_of X G y_GREAT⟩, ⟨_, PySem.W.mg_of X G y_LETTERS⟩, ⟨_, PySem.W.mg_of X G y_MAX_FIGURES⟩, ⟨_, PySem.W.mg_of X G y_MAX_LETTERS⟩⟩
  refine ⟨PySem.W.fnOf "law" "law" (defArgs (top 17)) (defBody (top 17)) (defScope (top 17)) .none kV11 dc11 pm11 an11 cd11 ct11, fun s v => .of_eq rfl, fun base _ _ => ?_⟩
  have F0 := fun_mk (st := top 5) l0 c0 k0
  have D_is_integer : Def l.prog w K mg base 1 "is_integer" f_is_integer := ⟨_, _, ["value"], PySem.W.mg_of X G a0, F0.kp, F0.binds (ps := ["value"]) (fun _ _ _ _ _ _ us hl => match us, hl with | [_], _ => rfl), ok_is_integer T  F0⟩
  have F1 := fun_mk (st := top 6) l1 c1 k1
  have D_is_count : Def l.prog w K mg base 2 "is_count" f_is_count := ⟨_, _, ["value"], PySem.W.mg_of X G a1, F1.kp, F1.binds (ps := ["value"]) (fun _ _ _ _ _ _ us hl => match us, hl with | [_], _ => rfl), ok_is_count T D_is_integer F1⟩
  have F2 := fun_mk (st := top 7) l2 c2 k2
  have D_is_name : Def l.prog w K mg base 1 "is_name" f_is_name := ⟨_, _, ["value"], PySem.W.mg_of X G a2, F2.kp, F2.binds (ps := ["value"]) (fun _ _ _ _ _ _ us hl => match us, hl with | [_], _ => rfl), ok_is_name T  F2⟩
  have F3 := fun_mk (st := top 8) l3 c3 k3
  have D_are_names : Def l.prog w K mg base 2 "are_names" f_are_names := ⟨_, _, ["value"], PySem.W.mg_of X G a3, F3.kp, F3.binds (ps := ["value"]) (fun _ _ _ _ _ _ us hl => match us, hl with | [_], _ => rfl), ok_are_names T D_is_name F3⟩
  have F4 := fun_mk (st := top 10) l4 c4 k4
  have D__law_dice : Def l.prog w K mg base 1 "_law_dice" f__law_dice := ⟨_, _, ["script", "spot"], PySem.W.mg_of X G a4, F4.kp, F4.binds (ps := ["script", "spot"]) (fun _ _ _ _ _ _ us hl => match us, hl with | [_, _], _ => rfl), ok__law_dice T  F4⟩
  have F5 := fun_mk (st := top 11) l5 c5 k5
  have D__law_roll : Def l.prog w K mg base 1 "_law_roll" f__law_roll := ⟨_, _, ["dice", "total"], PySem.W.mg_of X G a5, F5.kp, F5.binds (ps := ["dice", "total"]) (fun _ _ _ _ _ _ us hl => match us, hl with | [_, _], _ => rfl), ok__law_roll T  F5⟩
  have F6 := fun_mk (st := top 12) l6 c6 k6
  have D__law_pick : Def l.prog w K mg base 2 "_law_pick" f__law_pick := ⟨_, _, ["dice", "items"], PySem.W.mg_of X G a6, F6.kp, F6.binds (ps := ["dice", "items"]) (fun _ _ _ _ _ _ us hl => match us, hl with | [_, _], _ => rfl), ok__law_pick T D__law_roll F6⟩
  have F7 := fun_mk (st := top 13) l7 c7 k7
  have D__law_drawn_integer : Def l.prog w K mg base 3 "_law_drawn_integer" f__law_drawn_integer := ⟨_, _, ["dice"], PySem.W.mg_of X G a7, F7.kp, F7.binds (ps := ["dice"]) (fun _ _ _ _ _ _ us hl => match us, hl with | [_], _ => rfl), ok__law_drawn_integer T D__law_pick D__law_roll F7⟩
  have F8 := fun_mk (st := top 14) l8 c8 k8
  have D__law_drawn_string : Def l.prog w K mg base 3 "_law_drawn_string" f__law_drawn_string := ⟨_, _, ["dice"], PySem.W.mg_of X G a8, F8.kp, F8.binds (ps := ["dice"]) (fun _ _ _ _ _ _ us hl => match us, hl with | [_], _ => rfl), ok__law_drawn_string T D__law_pick D__law_roll F8⟩
  have F9 := fun_mk (st := top 15) l9 c9 k9
  have D__law_is_word : Def l.prog w K mg base 1 "_law_is_word" f__law_is_word := ⟨_, _, ["text"], PySem.W.mg_of X G a9, F9.kp, F9.binds (ps := ["text"]) (fun _ _ _ _ _ _ us hl => match us, hl with | [_], _ => rfl), ok__law_is_word T  F9⟩
  have F10 := fun_mk (st := top 16) l10 c10 k10
  have D__law_right : Def l.prog w K mg base 4 "_law_right" f__law_right := ⟨_, _, ["dice"], PySem.W.mg_of X G a10, F10.kp, F10.binds (ps := ["dice"]) (fun _ _ _ _ _ _ us hl => match us, hl with | [_], _ => rfl), ok__law_right T D__law_drawn_integer D__law_drawn_string D__law_is_word D__law_pick D__law_roll D_are_names D_is_count D_is_integer D_is_name F10⟩
  exact ok_law T D__law_dice D__law_right D_are_names D_is_count D_is_integer D_is_name (fun_mk (st := top 17) l11 c11 k11)
theorem walk {l : PySem.W.OpenLaw} {q : Program} {loose : List Str} {XP : (Str → Option Value) → Heap → Prop} {YP : World → Heap → Prop} {d : DefRec} {K : Params → PySem.W.Frag} (plain : PlainOk f_law) (hn : l.most = some 63) (hdf : d.params.defaults = [])
    (hY : ∀ (w : World) (h : Heap), YP w h → (K w.params).In h)
    (F : ∀ (w : World) (mg : Str → Option Value) (fa : Addr) (h : Heap), (K w.params).In h → h.Ns mainGlobals mg → mg d.name = some (.ref fa) →
      ∃ fd : FuncData, (∀ (s : Shared) (u : Value), BindsTo s fd ⟨[u], []⟩ [("script", u)]) ∧ ∀ base : Heap, (K w.params).In base → base.Ns mainGlobals mg → FnOk l.prog w (K w.params) mg base (L2.CX l.prog w) 5 fa fd ["script"] (spM (K w.params) f_law)) :
    PySem.W.WalkO q loose XP YP l.row.toRowW d [] (fun f vs => PySem.call f vs) :=
  L2.walk_of (n := 63) (k := 5) (x := "script") (CX := fun w => L2.CX l.prog w) (sp := fun w => spM (K w.params) f_law) hn (by decide) hdf ⟨rfl, by decide, by decide⟩ hY F (fun _ _ a ns hl _ hS => sp_law plain hl hS) fun _ _ _ _ _ z => cx_none z
end
end Wg.K01

open PySem PySem.W PyProof.Rows
set_option maxRecDepth 100000 in
set_option maxHeartbeats 0 in
theorem PySem.Challenge.cw_wheelgrown_k01_whole_integers_and_names_holds : PySem.Challenge.rw_wheelgrown_k01_whole_integers_and_names.Holds := by
  w_on; o_law; k_head; (case hw => w_witness2)
  k_fill
  refine Wg.K01.walk (l := PySem.Challenge.rw_wheelgrown_k01_whole_integers_and_names) Wg.K01.plain rfl rfl (fun w h Y => PySem.W.kIn_of Y) ?F
  case F =>
    intro w mg fa h KX G hmg
    refine' Wg.K01.all_mk KX G hmg ?a0 ?l0 ?c0 ?k0 ?a1 ?l1 ?c1 ?k1 ?a2 ?l2 ?c2 ?k2 ?a3 ?l3 ?c3 ?k3 ?a4 ?l4 ?c4 ?k4 ?a5 ?l5 ?c5 ?k5 ?a6 ?l6 ?c6 ?k6 ?a7 ?l7 ?c7 ?k7 ?a8 ?l8 ?c8 ?k8 ?a9 ?l9 ?c9 ?k9 ?a10 ?l10 ?c10 ?k10 ?a11 ?l11 ?c11 ?k11 ?z_abs ?z_all ?z_bool ?z_int ?z_isinstance ?z_len ?z_max ?z_min ?z_range ?z_str ?z_tuple ?y_GREAT ?y_LETTERS ?y_MAX_FIGURES ?y_MAX_LETTERS
    (case a0 => k_is)
    (case l0 => k_is)
    (case c0 => k_is)
    (case k0 => k_is)
    (case a1 => k_is)
    (case l1 => k_is)
    (case c1 => k_is)
    (case k1 => k_is)
    (case a2 => k_is)
    (case l2 => k_is)
    (case c2 => k_is)
    (case k2 => k_is)
    (case a3 => k_is)
    (case l3 => k_is)
    (case c3 => k_is)
    (case k3 => k_is)
    (case a4 => k_is)
    (case l4 => k_is)
    (case c4 => k_is)
    (case k4 => k_is)
    (case a5 => k_is)
    (case l5 => k_is)
    (case c5 => k_is)
    (case k5 => k_is)
    (case a6 => k_is)
    (case l6 => k_is)
    (case c6 => k_is)
    (case k6 => k_is)
    (case a7 => k_is)
    (case l7 => k_is)
    (case c7 => k_is)
    (case k7 => k_is)
    (case a8 => k_is)
    (case l8 => k_is)
    (case c8 => k_is)
    (case k8 => k_is)
    (case a9 => k_is)
    (case l9 => k_is)
    (case c9 => k_is)
    (case k9 => k_is)
    (case a10 => k_is)
    (case l10 => k_is)
    (case c10 => k_is)
    (case k10 => k_is)
    (case a11 => k_is)
    (case l11 => k_is)
    (case c11 => k_is)
    (case k11 => k_is)
    (case z_abs => k_is)
    (case z_all => k_is)
    (case z_bool => k_is)
    (case z_int => k_is)
    (case z_isinstance => k_is)
    (case z_len => k_is)
    (case z_max => k_is)
    (case z_min => k_is)
    (case z_range => k_is)
    (case z_str => k_is)
    (case z_tuple => k_is)
    (case y_GREAT => k_is)
    (case y_LETTERS => k_is)
    (case y_MAX_FIGURES => k_is)
    (case y_MAX_LETTERS => k_is)
