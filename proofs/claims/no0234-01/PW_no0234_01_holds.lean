import PyProof.Rows.All
import Wide.All
import OpenK.AllK
import Wide.FinOn
import PySem.Challenge.RW_no0234_01
open PySem PySem.W PyProof.Rows PySem.Calls PySem.Spec PyProof.Rows.LCg
set_option linter.all false
set_option Elab.async false
namespace Mine
set_option genSizeOf false

/-- values of the abstract reading: tuples and frozen lists and dicts by content, mutable objects by number -/
inductive V where
  | none
  | bool (b : Bool)
  | int (i : Int)
  | str (x : Str)
  | tup (vs : List V)
  | list (vs : List V)
  | dict (es : List (Int × V))
  | addr (a : Nat)
  | rng (a b c : Int)
  | typ (x : String)
  | ref (k : Nat)

/-- what a mutable object holds -/
inductive O where
  | list (vs : List V)
  | dict (es : List (Int × V))

abbrev Led := List (Addr × Obj)

abbrev tupObj (vs : List Value) (n : Nat) : Obj := { cls := .type "tuple", data := .seq vs.toArray n }
abbrev lstObj (vs : List Value) (n : Nat) : Obj := { cls := .type "list", data := .seq vs.toArray n }

inductive PairsI : List DictEntry → List (Int × Value) → Prop
  | nil : PairsI [] []
  | cons {e : DictEntry} {kv : Int × Value} {es : List DictEntry} {kvs : List (Int × Value)} : Value.isInt kv.1 e.key = true → e.val = kv.2 → PairsI es kvs → PairsI (e :: es) (kv :: kvs)
/-- a dict of int keys -/
def IDict (o : Obj) (kvs : List (Int × Value)) : Prop :=
  ∃ es ep, o.ExactDict ∧ o.data = .dict es ep ∧ (∀ e ∈ es, ∃ k, Value.isInt k e.key = true ∧ e.hash = hashInt k) ∧ PairsI es.toList kvs ∧ (kvs.map (·.1)).Nodup
theorem IDict.to {prog : Program} {w : World} {o : Obj} {kvs : List (Int × Value)} (h : IDict o kvs) : Obj.IsDictOf (intKind prog w) o kvs := by
  obtain ⟨es, ep, h1, h2, h3, h4, h5⟩ := h
  refine ⟨es, ep, h1, h2, h3, ?_, h5⟩
  clear h2 h3 h5
  generalize es.toList = l at h4
  induction h4 with
  | nil => exact .nil
  | cons a b _ ih => exact .cons a b ih
theorem IDict.of {prog : Program} {w : World} {o : Obj} {kvs : List (Int × Value)} (h : Obj.IsDictOf (intKind prog w) o kvs) : IDict o kvs := by
  obtain ⟨es, ep, h1, h2, h3, h4, h5⟩ := h
  refine ⟨es, ep, h1, h2, h3, ?_, h5⟩
  clear h2 h3 h5
  generalize es.toList = l at h4
  induction h4 with
  | nil => exact .nil
  | cons a b _ ih => exact .cons a b ih

def Im (Hb : Heap) (im : Led) (p : Addr × Obj) : Prop := Hb.get? p.1 = some p.2 ∨ p ∈ im

mutual
inductive VR (Hb : Heap) (im : Led) (β : List Addr) : Value → V → Prop
  | none : VR Hb im β Value.none V.none
  | bool (b : Bool) : VR Hb im β (Value.bool b) (V.bool b)
  | int (i : Int) (t : Tok) : VR Hb im β (Value.int i t) (V.int i)
  | str (x : Str) (t : Tok) : VR Hb im β (Value.str x t) (V.str x)
  | tup {a : Addr} {vs : List Value} {n : Nat} {ds : List V} : Im Hb im (a, tupObj vs n) → VRs Hb im β vs ds → VR Hb im β (Value.ref a) (V.tup ds)
  | list {a : Addr} {vs : List Value} {n : Nat} {ds : List V} : Im Hb im (a, lstObj vs n) → VRs Hb im β vs ds → VR Hb im β (Value.ref a) (V.list ds)
  | dict {a : Addr} {o : Obj} {kvs : List (Int × Value)} {ds : List (Int × V)} : Im Hb im (a, o) → IDict o kvs → (a == sysModules) = false → ERs Hb im β kvs ds → VR Hb im β (Value.ref a) (V.dict ds)
  | addr (a : Addr) : VR Hb im β (Value.ref a) (V.addr a)
  | rng {r : Addr} {a b c : Int} {t u v : Tok} : Im Hb im (r, { cls := .type "range", data := .fields #[.int a t, .int b u, .int c v] }) → VR Hb im β (Value.ref r) (V.rng a b c)
  | typ (x : String) : VR Hb im β (Value.type x) (V.typ x)
  | ref {a : Addr} {k : Nat} : β[k]? = some a → VR Hb im β (Value.ref a) (V.ref k)
inductive VRs (Hb : Heap) (im : Led) (β : List Addr) : List Value → List V → Prop
  | nil : VRs Hb im β [] []
  | cons {v : Value} {vs : List Value} {d : V} {ds : List V} : VR Hb im β v d → VRs Hb im β vs ds → VRs Hb im β (v :: vs) (d :: ds)
inductive ERs (Hb : Heap) (im : Led) (β : List Addr) : List (Int × Value) → List (Int × V) → Prop
  | nil : ERs Hb im β [] []
  | cons {i : Int} {v : Value} {es : List (Int × Value)} {d : V} {ds : List (Int × V)} : VR Hb im β v d → ERs Hb im β es ds → ERs Hb im β ((i, v) :: es) ((i, d) :: ds)
end

section
variable {Hb : Heap} {im im' : Led} {β β' : List Addr}

theorem Im.mono (h : ∀ p ∈ im, p ∈ im') {p : Addr × Obj} : Im Hb im p → Im Hb im' p := fun x => x.imp id (h p)

theorem VR.all {im' : Led} {β' : List Addr} (hi : ∀ p ∈ im, p ∈ im') (hb : ∀ (k : Nat) (a : Addr), β[k]? = some a → β'[k]? = some a) :
    (∀ {v : Value} {d : V}, VR Hb im β v d → VR Hb im' β' v d) ∧ (∀ {vs : List Value} {ds : List V}, VRs Hb im β vs ds → VRs Hb im' β' vs ds) ∧ (∀ {es : List (Int × Value)} {ds : List (Int × V)}, ERs Hb im β es ds → ERs Hb im' β' es ds) :=
  ⟨fun h => VR.rec (motive_1 := fun v d _ => VR Hb im' β' v d) (motive_2 := fun vs ds _ => VRs Hb im' β' vs ds) (motive_3 := fun es ds _ => ERs Hb im' β' es ds)
      .none .bool .int .str (fun a _ q => .tup (a.mono hi) q) (fun a _ q => .list (a.mono hi) q) (fun a b c _ q => .dict (a.mono hi) b c q) .addr (fun a => .rng (a.mono hi)) .typ (fun e => .ref (hb _ _ e)) .nil (fun _ _ => .cons) .nil (fun _ _ => .cons) h,
    fun h => VRs.rec (motive_1 := fun v d _ => VR Hb im' β' v d) (motive_2 := fun vs ds _ => VRs Hb im' β' vs ds) (motive_3 := fun es ds _ => ERs Hb im' β' es ds)
      .none .bool .int .str (fun a _ q => .tup (a.mono hi) q) (fun a _ q => .list (a.mono hi) q) (fun a b c _ q => .dict (a.mono hi) b c q) .addr (fun a => .rng (a.mono hi)) .typ (fun e => .ref (hb _ _ e)) .nil (fun _ _ => .cons) .nil (fun _ _ => .cons) h,
    fun h => ERs.rec (motive_1 := fun v d _ => VR Hb im' β' v d) (motive_2 := fun vs ds _ => VRs Hb im' β' vs ds) (motive_3 := fun es ds _ => ERs Hb im' β' es ds)
      .none .bool .int .str (fun a _ q => .tup (a.mono hi) q) (fun a _ q => .list (a.mono hi) q) (fun a b c _ q => .dict (a.mono hi) b c q) .addr (fun a => .rng (a.mono hi)) .typ (fun e => .ref (hb _ _ e)) .nil (fun _ _ => .cons) .nil (fun _ _ => .cons) h⟩
theorem VR.mono (hi : ∀ p ∈ im, p ∈ im') (hb : ∀ (k : Nat) (a : Addr), β[k]? = some a → β'[k]? = some a) {v : Value} {d : V} (h : VR Hb im β v d) : VR Hb im' β' v d := (VR.all hi hb).1 h
theorem VRs.mono (hi : ∀ p ∈ im, p ∈ im') (hb : ∀ (k : Nat) (a : Addr), β[k]? = some a → β'[k]? = some a) {vs : List Value} {ds : List V} (h : VRs Hb im β vs ds) : VRs Hb im' β' vs ds := (VR.all hi hb).2.1 h
theorem ERs.mono (hi : ∀ p ∈ im, p ∈ im') (hb : ∀ (k : Nat) (a : Addr), β[k]? = some a → β'[k]? = some a) {es : List (Int × Value)} {ds : List (Int × V)} (h : ERs Hb im β es ds) : ERs Hb im' β' es ds := (VR.all hi hb).2.2 h
end

mutual
/-- no reference to a mutable object in it -/
def V.nr : V → Bool
  | .none => true
  | .bool _ => true
  | .int _ => true
  | .str _ => true
  | .tup vs => V.nrs vs
  | .list vs => V.nrs vs
  | .dict es => V.nre es
  | .addr _ => true
  | .rng _ _ _ => true
  | .typ _ => true
  | .ref _ => false
def V.nrs : List V → Bool
  | [] => true
  | v :: vs => v.nr && V.nrs vs
def V.nre : List (Int × V) → Bool
  | [] => true
  | (_, v) :: es => v.nr && V.nre es
end

section
variable {Hb : Heap} {im : Led} {β β' : List Addr}
theorem VR.nrAll :
    (∀ {v : Value} {d : V}, VR Hb im β v d → d.nr = true → VR Hb im β' v d) ∧ (∀ {vs : List Value} {ds : List V}, VRs Hb im β vs ds → V.nrs ds = true → VRs Hb im β' vs ds) :=
  ⟨fun h => VR.rec (motive_1 := fun v d _ => d.nr = true → VR Hb im β' v d) (motive_2 := fun vs ds _ => V.nrs ds = true → VRs Hb im β' vs ds) (motive_3 := fun es ds _ => V.nre ds = true → ERs Hb im β' es ds)
      (fun _ => .none) (fun b _ => .bool b) (fun i t _ => .int i t) (fun x t _ => .str x t) (fun a _ q e => .tup a (q e)) (fun a _ q e => .list a (q e)) (fun a b c _ q e => .dict a b c (q e)) (fun a _ => .addr a) (fun a _ => .rng a) (fun x _ => .typ x) (fun _ e => Bool.noConfusion e) (fun _ => .nil) (fun _ _ q r e => .cons (q (Bool.and_eq_true_iff.mp e).1) (r (Bool.and_eq_true_iff.mp e).2)) (fun _ => .nil) (fun _ _ q r e => .cons (q (Bool.and_eq_true_iff.mp e).1) (r (Bool.and_eq_true_iff.mp e).2)) h,
    fun h => VRs.rec (motive_1 := fun v d _ => d.nr = true → VR Hb im β' v d) (motive_2 := fun vs ds _ => V.nrs ds = true → VRs Hb im β' vs ds) (motive_3 := fun es ds _ => V.nre ds = true → ERs Hb im β' es ds)
      (fun _ => .none) (fun b _ => .bool b) (fun i t _ => .int i t) (fun x t _ => .str x t) (fun a _ q e => .tup a (q e)) (fun a _ q e => .list a (q e)) (fun a b c _ q e => .dict a b c (q e)) (fun a _ => .addr a) (fun a _ => .rng a) (fun x _ => .typ x) (fun _ e => Bool.noConfusion e) (fun _ => .nil) (fun _ _ q r e => .cons (q (Bool.and_eq_true_iff.mp e).1) (r (Bool.and_eq_true_iff.mp e).2)) (fun _ => .nil) (fun _ _ q r e => .cons (q (Bool.and_eq_true_iff.mp e).1) (r (Bool.and_eq_true_iff.mp e).2)) h⟩
theorem VR.nr {v : Value} {d : V} (e : d.nr = true) (h : VR Hb im β v d) : VR Hb im β' v d := VR.nrAll.1 h e
theorem VRs.nr {vs : List Value} {ds : List V} (e : V.nrs ds = true) (h : VRs Hb im β vs ds) : VRs Hb im β' vs ds := VR.nrAll.2 h e

/-! what stands behind a value of a known shape -/
@[elab_as_elim] theorem VR.cInt {v : Value} {i : Int} (h : VR Hb im β v (.int i)) {P : Value → Prop} (k : ∀ t, P (.int i t)) : P v := by cases h; exact k _
@[elab_as_elim] theorem VR.cBool {v : Value} {i : Bool} (h : VR Hb im β v (.bool i)) {P : Value → Prop} (k : P (.bool i)) : P v := by cases h; exact k
@[elab_as_elim] theorem VR.cStr {v : Value} {i : Str} (h : VR Hb im β v (.str i)) {P : Value → Prop} (k : ∀ t, P (.str i t)) : P v := by cases h; exact k _
@[elab_as_elim] theorem VR.cAddr {v : Value} {a : Nat} (h : VR Hb im β v (.addr a)) {P : Value → Prop} (k : P (.ref a)) : P v := by cases h; exact k
@[elab_as_elim] theorem VR.cTyp {v : Value} {x : String} (h : VR Hb im β v (.typ x)) {P : Value → Prop} (k : P (.type x)) : P v := by cases h; exact k
@[elab_as_elim] theorem VR.cTup {v : Value} {ds : List V} (h : VR Hb im β v (.tup ds)) {P : Value → Prop} (k : ∀ a vs n, Im Hb im (a, tupObj vs n) → VRs Hb im β vs ds → P (.ref a)) : P v := by cases h; exact k _ _ _ ‹_› ‹_›
@[elab_as_elim] theorem VR.cList {v : Value} {ds : List V} (h : VR Hb im β v (.list ds)) {P : Value → Prop} (k : ∀ a vs n, Im Hb im (a, lstObj vs n) → VRs Hb im β vs ds → P (.ref a)) : P v := by cases h; exact k _ _ _ ‹_› ‹_›
@[elab_as_elim] theorem VR.cDict {v : Value} {ds : List (Int × V)} (h : VR Hb im β v (.dict ds)) {P : Value → Prop} (k : ∀ a o kvs, Im Hb im (a, o) → IDict o kvs → (a == sysModules) = false → ERs Hb im β kvs ds → P (.ref a)) : P v := by cases h; exact k _ _ _ ‹_› ‹_› ‹_› ‹_›
@[elab_as_elim] theorem VR.cRng {v : Value} {a b c : Int} (h : VR Hb im β v (.rng a b c)) {P : Value → Prop} (k : ∀ r t u w, Im Hb im (r, { cls := .type "range", data := .fields #[.int a t, .int b u, .int c w] }) → P (.ref r)) : P v := by cases h; exact k _ _ _ _ ‹_›
@[elab_as_elim] theorem VR.cRef {v : Value} {j : Nat} (h : VR Hb im β v (.ref j)) {P : Value → Prop} (k : ∀ a, β[j]? = some a → P (.ref a)) : P v := by cases h; exact k _ ‹_›
@[elab_as_elim] theorem VRs.cNil {vs : List Value} (h : VRs Hb im β vs []) {P : List Value → Prop} (k : P []) : P vs := by cases h; exact k
@[elab_as_elim] theorem VRs.cCons {vs : List Value} {d : V} {ds : List V} (h : VRs Hb im β vs (d :: ds)) {P : List Value → Prop} (k : ∀ w ws, VR Hb im β w d → VRs Hb im β ws ds → P (w :: ws)) : P vs := by cases h; exact k _ _ ‹_› ‹_›
@[elab_as_elim] theorem VRs.c1 {vs : List Value} {d : V} (h : VRs Hb im β vs [d]) {P : List Value → Prop} (k : ∀ w, VR Hb im β w d → P [w]) : P vs := h.cCons fun v _ r h => h.cNil (P := fun z => P (v :: z)) (k _ r)
@[elab_as_elim] theorem VRs.c2 {vs : List Value} {d e : V} (h : VRs Hb im β vs [d, e]) {P : List Value → Prop} (k : ∀ w x, VR Hb im β w d → VR Hb im β x e → P [w, x]) : P vs := h.cCons fun v _ r h => h.c1 (P := fun z => P (v :: z)) fun _ s => k _ _ r s
@[elab_as_elim] theorem VRs.c3 {vs : List Value} {d e f : V} (h : VRs Hb im β vs [d, e, f]) {P : List Value → Prop} (k : ∀ w x y, VR Hb im β w d → VR Hb im β x e → VR Hb im β y f → P [w, x, y]) : P vs := h.cCons fun v _ r h => h.c2 (P := fun z => P (v :: z)) fun _ _ s t => k _ _ _ r s t
@[elab_as_elim] theorem ERs.cNil {vs : List (Int × Value)} (h : ERs Hb im β vs []) {P : List (Int × Value) → Prop} (k : P []) : P vs := by cases h; exact k
@[elab_as_elim] theorem ERs.cCons {vs : List (Int × Value)} {i : Int} {d : V} {ds : List (Int × V)} (h : ERs Hb im β vs ((i, d) :: ds)) {P : List (Int × Value) → Prop} (k : ∀ w ws, VR Hb im β w d → ERs Hb im β ws ds → P ((i, w) :: ws)) : P vs := by cases h; exact k _ _ ‹_› ‹_›

theorem VRs.length {vs : List Value} {ds : List V} (h : VRs Hb im β vs ds) : vs.length = ds.length := by
  induction vs generalizing ds with
  | nil => cases h; rfl
  | cons v vs ih => cases h with | cons _ r => rw [List.length_cons, List.length_cons, ih r]
theorem VRs.append {vs ws : List Value} {ds es : List V} (h : VRs Hb im β vs ds) (k : VRs Hb im β ws es) : VRs Hb im β (vs ++ ws) (ds ++ es) := by
  induction vs generalizing ds with
  | nil => cases h; exact k
  | cons v vs ih => cases h with | cons h r => exact .cons h (ih r)
theorem VRs.get {vs : List Value} {ds : List V} (h : VRs Hb im β vs ds) {k : Nat} {d : V} (hk : ds[k]? = some d) : ∃ v, vs[k]? = some v ∧ VR Hb im β v d := by
  induction vs generalizing ds k with
  | nil => cases h; simp at hk
  | cons v vs ih =>
    cases h with
    | cons h r =>
      cases k with
      | zero => simp at hk; subst hk; exact ⟨v, rfl, h⟩
      | succ k => exact ih r (by simpa using hk)
theorem VRs.get' {vs : List Value} {ds : List V} (h : VRs Hb im β vs ds) {k : Nat} {v : Value} (hk : vs[k]? = some v) : ∃ d, ds[k]? = some d ∧ VR Hb im β v d := by
  induction vs generalizing ds k with
  | nil => simp at hk
  | cons w vs ih =>
    cases h with
    | cons h r =>
      cases k with
      | zero => simp at hk; subst hk; exact ⟨_, rfl, h⟩
      | succ k => exact ih r (by simpa using hk)
theorem VRs.take {vs : List Value} {ds : List V} (h : VRs Hb im β vs ds) (k : Nat) : VRs Hb im β (vs.take k) (ds.take k) := by
  induction vs generalizing ds k with
  | nil => cases h; simp; exact .nil
  | cons v vs ih =>
    cases h with
    | cons h r => cases k with
      | zero => exact .nil
      | succ k => exact .cons h (ih r k)
theorem VRs.set {vs : List Value} {ds : List V} (h : VRs Hb im β vs ds) {k : Nat} {v : Value} {d : V} (hv : VR Hb im β v d) : VRs Hb im β (vs.set k v) (ds.set k d) := by
  induction vs generalizing ds k with
  | nil => cases h; exact .nil
  | cons w vs ih =>
    cases h with
    | cons h r => cases k with
      | zero => exact .cons hv r
      | succ k => exact .cons h (ih r)
theorem VRs.one {v : Value} {d : V} (h : VR Hb im β v d) : VRs Hb im β [v] [d] := .cons h .nil
theorem VRs.ints {vs : List Value} {ns : List Int} (h : IntsAre vs ns) : VRs Hb im β vs (ns.map V.int) := by
  induction vs generalizing ns with
  | nil => cases ns with
    | nil => exact .nil
    | cons => have := h.length; simp at this
  | cons v vs ih =>
    cases ns with
    | nil => have := h.length; simp at this
    | cons n ns =>
      obtain ⟨t, ht⟩ := h.get 0 n rfl
      simp at ht
      subst ht
      refine .cons (.int n t) (ih ?_)
      cases h; assumption
end

/-- the store's objects -/
inductive OR (Hb : Heap) (im : Led) (a : Addr) : Obj → O → Prop
  | list {vs : List Value} {n : Nat} {ds : List V} : VRs Hb im [] vs ds → OR Hb im a (lstObj vs n) (.list ds)
  | dict {o : Obj} {kvs : List (Int × Value)} {ds : List (Int × V)} : IDict o kvs → (a == sysModules) = false → ERs Hb im [] kvs ds → OR Hb im a o (.dict ds)

theorem OR.mono {Hb : Heap} {im im' : Led} {a : Addr} (hi : ∀ p ∈ im, p ∈ im') {o : Obj} {d : O} : OR Hb im a o d → OR Hb im' a o d
  | .list h => .list (h.mono hi fun _ _ e => e)
  | .dict k n h => .dict k n (h.mono hi fun _ _ e => e)

@[elab_as_elim] theorem OR.cList {Hb : Heap} {im : Led} {a : Addr} {o : Obj} {ds : List V} (h : OR Hb im a o (.list ds)) {P : Obj → Prop} (k : ∀ vs n, VRs Hb im [] vs ds → P (lstObj vs n)) : P o := by cases h; exact k _ _ ‹_›
theorem OR.cDict {Hb : Heap} {im : Led} {a : Addr} {o : Obj} {ds : List (Int × V)} (h : OR Hb im a o (.dict ds)) : ∃ kvs, IDict o kvs ∧ (a == sysModules) = false ∧ ERs Hb im [] kvs ds := by cases h; exact ⟨_, ‹_›, ‹_›, ‹_›⟩

inductive ORs (Hb : Heap) (im : Led) : Led → List O → Prop
  | nil : ORs Hb im [] []
  | cons {a : Addr} {o : Obj} {d : O} {os : Led} {σ : List O} : OR Hb im a o d → ORs Hb im os σ → ORs Hb im ((a, o) :: os) (d :: σ)
theorem ORs.mono {Hb : Heap} {im im' : Led} (hi : ∀ p ∈ im, p ∈ im') {os : Led} {σ : List O} (h : ORs Hb im os σ) : ORs Hb im' os σ := by
  induction h with
  | nil => exact .nil
  | cons h _ ih => exact .cons (h.mono hi) ih
theorem ORs.length {Hb : Heap} {im : Led} {os : Led} {σ : List O} (h : ORs Hb im os σ) : os.length = σ.length := by
  induction h with
  | nil => rfl
  | cons _ _ ih => simp [ih]
theorem ORs.snoc {Hb : Heap} {im : Led} {os : Led} {σ : List O} (h : ORs Hb im os σ) {a : Addr} {o : Obj} {d : O} (q : OR Hb im a o d) : ORs Hb im (os ++ [(a, o)]) (σ ++ [d]) := by
  induction h with
  | nil => exact .cons q .nil
  | cons h _ ih => exact .cons h ih
theorem ORs.get {Hb : Heap} {im : Led} {os : Led} {σ : List O} (h : ORs Hb im os σ) {k : Nat} {d : O} (hk : σ[k]? = some d) :
    ∃ pre a o post, os = pre ++ (a, o) :: post ∧ pre.length = k ∧ OR Hb im a o d ∧ (os.map (·.1))[k]? = some a ∧
      ∀ o' d', OR Hb im a o' d' → ORs Hb im (pre ++ (a, o') :: post) (σ.set k d') := by
  induction h generalizing k with
  | nil => simp at hk
  | @cons a o e os σ h r ih =>
    cases k with
    | zero =>
      simp at hk; subst hk
      exact ⟨[], a, o, os, rfl, rfl, h, rfl, fun o' d' q => .cons q r⟩
    | succ k =>
      obtain ⟨pre, b, o₁, post, e1, e2, e3, e4, e5⟩ := ih (by simpa using hk)
      refine ⟨(a, o) :: pre, b, o₁, post, by rw [e1]; rfl, by simp [e2], e3, by simpa using e4, fun o' d' q => .cons h (e5 o' d' q)⟩

set_option genSizeOf false
set_option genInjectivity false

/-- what stays the same over the whole call: program, world, base heap, the written part, the top -/
structure Cfg where
  prog : Program
  w : World
  Hb : Heap
  K : Frag
  p : Program
  loose : List Str
  mean : ExcName → Option Value
  mg : Str → Option Value
  mb : Str → Option Value
  inK : K.In Hb
  top : Top p loose mean mg mb Hb

/-- the frame at hand -/
structure Fx (X : Cfg) (n : Nat) (A : Around) (env : Env) (h₀ : Heap) (L : Addr) (sc : List (Str × NameKind)) : Prop where
  hh : A.handled = none
  stk : ∃ (fe : Env) (outer : List Env) (A₀ : Around) (base : Heap), A.frames = some (fe :: outer) ∧ fe.frame = some L ∧ fe.scope.kind = .function ∧ Below A₀ base outer h₀
  kind : env.scope.kind = .function
  names : env.scope.names = sc
  glob : env.globals = mainGlobals
  blt : env.builtins = builtinsNs
  frame : env.frame = some L
  depth : A.depth + n < 400
  units : A.units + 4 * n < 400
  base : X.Hb.StaysIn h₀
  low : sysModules < h₀.objs.size

abbrev adr (l : Led) : List Addr := l.map (·.1)

structure Sim (X : Cfg) (h₀ : Heap) (L : Addr) (m : Str → Option Value) (os cs im fr : Led) (σ : List O) (h : Heap) : Prop where
  F : Fr h₀ L h m
  N : News h₀ L h (os ++ (cs ++ (im ++ fr)))
  nd : (adr (os ++ (cs ++ fr))).Nodup
  sep : ∀ p ∈ os ++ (cs ++ fr), ∀ q ∈ im, p.1 ≠ q.1
  st : ORs X.Hb im os σ

/-- where a name's value stands -/
inductive NameAt (env : Env) (L : Addr) (m : Str → Option Value) (l : Led) (x : Str) (v : Value) : Prop
  | loc : env.kindOf x = some .local → env.locals = L → m x = some v → NameAt env L m l x v
  | comp {o : Obj} {m₂ : Str → Option Value} : env.kindOf x = some .local → (env.locals, o) ∈ l → NsObj o m₂ → m₂ x = some v → NameAt env L m l x v
  | cell {c : Addr} {o : Obj} : env.kindOf x = some .cell → env.cells.lookup x = some c → (c, o) ∈ l → o.data = .cell (some v) → NameAt env L m l x v
  | free {c : Addr} {o : Obj} : env.kindOf x = some .free → env.cells.lookup x = some c → (c, o) ∈ l → o.data = .cell (some v) → NameAt env L m l x v

abbrev Rho := List (String × V)

inductive Lk : Rho → String → V → Prop
  | here {x : String} {v : V} {r : Rho} : Lk ((x, v) :: r) x v
  | there {x y : String} {v w : V} {r : Rho} : (y == x) = false → Lk r x v → Lk ((y, w) :: r) x v

def LR (X : Cfg) (env : Env) (L : Addr) (m : Str → Option Value) (os cs im fr : Led) (ρ : Rho) : Prop :=
  ∀ x d, Lk ρ x d → ∃ v, VR X.Hb im (adr os) v d ∧ NameAt env L m (cs ++ fr) (Str.ofString x) v

def Pre (β β' : List Addr) : Prop := ∀ (k : Nat) (a : Addr), β[k]? = some a → β'[k]? = some a
theorem Pre.refl (β : List Addr) : Pre β β := fun _ _ e => e
theorem Pre.trans {a b c : List Addr} (h : Pre a b) (k : Pre b c) : Pre a c := fun _ _ e => k _ _ (h _ _ e)
theorem Pre.append (a b : List Addr) : Pre a (a ++ b) := fun k x e => by
  obtain ⟨h, rfl⟩ := List.getElem?_eq_some_iff.mp e
  rw [List.getElem?_append_left h]; exact e

abbrev Sub (a b : Led) : Prop := ∀ p ∈ a, p ∈ b

/-- what holds behind a step -/
structure Post (X : Cfg) (h₀ : Heap) (L : Addr) (m : Str → Option Value) (os cs im fr : Led) (os' im' : Led) (σ' : List O) (h' : Heap) : Prop where
  sub : Sub im im'
  pre : Pre (adr os) (adr os')
  sim : Sim X h₀ L m os' cs im' fr σ' h'

def AWg {α : Type} (T : Env → Sem α) (R : Heap → Led → List Addr → α → V → Prop) (X : Cfg) (n : Nat) (sc : List (Str × NameKind)) (ρ : Rho) (σ : List O) (Q : V → List O → Prop) : Prop :=
  ∀ (A : Around) (env : Env) (h₀ : Heap) (L : Addr) (m : Str → Option Value) (os cs im fr : Led) (s : Shared) (Qc : α → Shared → Prop) (Ec : Value → Shared → Prop),
    Fx X n A env h₀ L sc → Sim X h₀ L m os cs im fr σ s.heap → LR X env L m os cs im fr ρ →
    (∀ v d σ' os' im' h' tk', Q d σ' → Post X h₀ L m os cs im fr os' im' σ' h' → R X.Hb im' (adr os') v d → Qc v { s with heap := h', toks := tk' }) →
    wpAny (model X.prog X.w) A (T env) Qc Ec s

/-- an expression -/
abbrev AW (X : Cfg) (n : Nat) (sc : List (Str × NameKind)) (ρ : Rho) (σ : List O) (e : Expr) (Q : V → List O → Prop) : Prop := AWg (fun env => eval e env) VR X n sc ρ σ Q
/-- a list of expressions -/
def AWl (X : Cfg) (n : Nat) (sc : List (Str × NameKind)) (ρ : Rho) (σ : List O) (es : List Expr) (Q : List V → List O → Prop) : Prop :=
  ∀ (pos : Pos) (A : Around) (env : Env) (h₀ : Heap) (L : Addr) (m : Str → Option Value) (os cs im fr : Led) (s : Shared) (Qc : List Value → Shared → Prop) (Ec : Value → Shared → Prop),
    Fx X n A env h₀ L sc → Sim X h₀ L m os cs im fr σ s.heap → LR X env L m os cs im fr ρ →
    (∀ vs ds σ' os' im' h' tk', Q ds σ' → Post X h₀ L m os cs im fr os' im' σ' h' → VRs X.Hb im' (adr os') vs ds → Qc vs { s with heap := h', toks := tk' }) →
    wpAny (model X.prog X.w) A (spliced (backTo pos (starEach es env))) Qc Ec s
/-- a test -/
def AWt (X : Cfg) (n : Nat) (sc : List (Str × NameKind)) (ρ : Rho) (σ : List O) (e : Expr) (Q : Bool → List O → Prop) : Prop :=
  ∀ (A : Around) (env : Env) (h₀ : Heap) (L : Addr) (m : Str → Option Value) (os cs im fr : Led) (s : Shared) (Qc : Bool → Shared → Prop) (Ec : Value → Shared → Prop),
    Fx X n A env h₀ L sc → Sim X h₀ L m os cs im fr σ s.heap → LR X env L m os cs im fr ρ →
    (∀ b σ' os' im' h' tk', Q b σ' → Post X h₀ L m os cs im fr os' im' σ' h' → Qc b { s with heap := h', toks := tk' }) →
    wpAny (model X.prog X.w) A (isTrue e env (eval e env)) Qc Ec s
/-- an operation on values in hand: a tree that asks nothing of the frame's names -/
def Op {α β : Type} (X : Cfg) (n : Nat) (σ : List O) (R : Led → List Addr → Prop) (T : Sem α) (R' : Led → List Addr → α → β → Prop) (Q : β → List O → Prop) : Prop :=
  ∀ (A : Around) (env : Env) (h₀ : Heap) (L : Addr) (sc : List (Str × NameKind)) (m : Str → Option Value) (os cs im fr : Led) (s : Shared) (Qc : α → Shared → Prop) (Ec : Value → Shared → Prop),
    Fx X n A env h₀ L sc → Sim X h₀ L m os cs im fr σ s.heap → R im (adr os) →
    (∀ v d σ' os' im' h' tk', Q d σ' → Post X h₀ L m os cs im fr os' im' σ' h' → R' im' (adr os') v d → Qc v { s with heap := h', toks := tk' }) →
    wpAny (model X.prog X.w) A T Qc Ec s

section
variable {X : Cfg} {n : Nat} {A : Around} {env : Env} {h₀ : Heap} {L : Addr} {sc : List (Str × NameKind)} {m : Str → Option Value} {os cs im fr : Led} {σ : List O} {h : Heap} {ρ : Rho}

theorem Post.refl (S : Sim X h₀ L m os cs im fr σ h) : Post X h₀ L m os cs im fr os im σ h := ⟨fun _ e => e, Pre.refl _, S⟩
theorem Post.trans {os' im' os'' im'' : Led} {σ' σ'' : List O} {h' h'' : Heap} (P : Post X h₀ L m os cs im fr os' im' σ' h') (P' : Post X h₀ L m os' cs im' fr os'' im'' σ'' h'') :
    Post X h₀ L m os cs im fr os'' im'' σ'' h'' := ⟨fun _ e => P'.sub _ (P.sub _ e), P.pre.trans P'.pre, P'.sim⟩
theorem LR.post {os' im' : Led} (R : LR X env L m os cs im fr ρ) (hs : Sub im im') (hp : Pre (adr os) (adr os')) : LR X env L m os' cs im' fr ρ := fun x d l => by
  obtain ⟨v, h, q⟩ := R x d l
  exact ⟨v, h.mono hs hp, q⟩
theorem Fx.hb (x : Fx X n A env h₀ L sc) (F : Fr h₀ L h m) : ∀ a o, X.Hb.get? a = some o → h.get? a = some o := fun a o e => F.keep _ _ (x.base _ _ e)
theorem Sim.get_im (S : Sim X h₀ L m os cs im fr σ h) {p : Addr × Obj} (hp : p ∈ im) : h.get? p.1 = some p.2 :=
  (S.N p (List.mem_append.mpr (.inr (List.mem_append.mpr (.inr (List.mem_append.mpr (.inl hp))))))).1
theorem Sim.get (S : Sim X h₀ L m os cs im fr σ h) (x : Fx X n A env h₀ L sc) {p : Addr × Obj} (hp : Im X.Hb im p) : h.get? p.1 = some p.2 :=
  hp.elim (fun e => x.hb S.F _ _ e) fun e => S.get_im e
theorem Sim.toks (S : Sim X h₀ L m os cs im fr σ h) : Sim X h₀ L m os cs im fr σ h := S

theorem led_mem {os cs im fr : Led} {p : Addr × Obj} : p ∈ os ++ (cs ++ (im ++ fr)) ↔ p ∈ os ∨ p ∈ cs ∨ p ∈ im ∨ p ∈ fr := by simp [List.mem_append]
theorem led_mem' {os cs fr : Led} {p : Addr × Obj} : p ∈ os ++ (cs ++ fr) ↔ p ∈ os ∨ p ∈ cs ∨ p ∈ fr := by simp [List.mem_append]
theorem adr_ne {l : Led} {a : Addr} (h : ∀ p ∈ l, p.1 ≠ a) : a ∉ adr l := fun q => by
  obtain ⟨p, hp, rfl⟩ := List.mem_map.mp q
  exact h p hp rfl

/-- a new object that will not change -/
theorem Sim.newIm (S : Sim X h₀ L m os cs im fr σ h) {a : Addr} {o : Obj} {h' : Heap} (F' : Fr h₀ L h' m) (N' : News h₀ L h' ((a, o) :: (os ++ (cs ++ (im ++ fr))))) (ha : ∀ p ∈ os ++ (cs ++ (im ++ fr)), p.1 ≠ a) :
    Post X h₀ L m os cs im fr os ((a, o) :: im) σ h' := by
  have sub : Sub im ((a, o) :: im) := fun _ e => .tail _ e
  refine ⟨sub, Pre.refl _, F', fun p hp => ?_, S.nd, fun p hp q hq => ?_, S.st.mono sub⟩
  · rcases led_mem.mp hp with hp | hp | hp | hp
    · exact N' p (.tail _ (led_mem.mpr (.inl hp)))
    · exact N' p (.tail _ (led_mem.mpr (.inr (.inl hp))))
    · rcases List.mem_cons.mp hp with rfl | hp
      · exact N' _ (.head _)
      · exact N' p (.tail _ (led_mem.mpr (.inr (.inr (.inl hp)))))
    · exact N' p (.tail _ (led_mem.mpr (.inr (.inr (.inr hp)))))
  · rcases List.mem_cons.mp hq with rfl | hq
    · rcases led_mem'.mp hp with hp | hp | hp
      · exact ha p (led_mem.mpr (.inl hp))
      · exact ha p (led_mem.mpr (.inr (.inl hp)))
      · exact ha p (led_mem.mpr (.inr (.inr (.inr hp))))
    · exact S.sep p hp q hq

/-- a new mutable object -/
theorem Sim.newOs (S : Sim X h₀ L m os cs im fr σ h) {a : Addr} {o : Obj} {d : O} {h' : Heap} (F' : Fr h₀ L h' m) (N' : News h₀ L h' ((a, o) :: (os ++ (cs ++ (im ++ fr))))) (ha : ∀ p ∈ os ++ (cs ++ (im ++ fr)), p.1 ≠ a)
    (hd : OR X.Hb im a o d) : Post X h₀ L m os cs im fr (os ++ [(a, o)]) im (σ ++ [d]) h' := by
  refine ⟨fun _ e => e, ?_, F', fun p hp => ?_, ?_, fun p hp q hq => ?_, S.st.snoc hd⟩
  · simp only [adr, List.map_append]; exact Pre.append _ _
  · rcases led_mem.mp hp with hp | hp | hp | hp
    · rcases List.mem_append.mp hp with hp | hp
      · exact N' p (.tail _ (led_mem.mpr (.inl hp)))
      · rw [List.mem_singleton.mp hp]; exact N' _ (.head _)
    · exact N' p (.tail _ (led_mem.mpr (.inr (.inl hp))))
    · exact N' p (.tail _ (led_mem.mpr (.inr (.inr (.inl hp)))))
    · exact N' p (.tail _ (led_mem.mpr (.inr (.inr (.inr hp)))))
  · have hn : a ∉ adr (os ++ (cs ++ fr)) := adr_ne fun p hp => by
      rcases led_mem'.mp hp with hp | hp | hp
      · exact ha p (led_mem.mpr (.inl hp))
      · exact ha p (led_mem.mpr (.inr (.inl hp)))
      · exact ha p (led_mem.mpr (.inr (.inr (.inr hp))))
    have e : adr ((os ++ [(a, o)]) ++ (cs ++ fr)) = adr os ++ a :: adr (cs ++ fr) := by simp [adr]
    have e' : adr (os ++ (cs ++ fr)) = adr os ++ adr (cs ++ fr) := by simp [adr]
    rw [e]
    have nd := S.nd
    rw [e'] at nd hn
    have p : List.Perm (adr os ++ a :: adr (cs ++ fr)) (a :: (adr os ++ adr (cs ++ fr))) := List.perm_middle
    exact p.nodup_iff.mpr (List.nodup_cons.mpr ⟨hn, nd⟩)
  · rcases led_mem'.mp hp with hp | hp | hp
    · rcases List.mem_append.mp hp with hp | hp
      · exact S.sep p (led_mem'.mpr (.inl hp)) q hq
      · rw [List.mem_singleton.mp hp]
        exact fun e => ha q (led_mem.mpr (.inr (.inr (.inl hq)))) e.symm
    · exact S.sep p (led_mem'.mpr (.inr (.inl hp))) q hq
    · exact S.sep p (led_mem'.mpr (.inr (.inr hp))) q hq

theorem nd_mid {pre post rest : Led} {a : Addr} {o : Obj} (h : (adr ((pre ++ (a, o) :: post) ++ rest)).Nodup) : (∀ p ∈ pre, p.1 ≠ a) ∧ (∀ p ∈ post ++ rest, p.1 ≠ a) := by
  have e : adr ((pre ++ (a, o) :: post) ++ rest) = adr pre ++ a :: adr (post ++ rest) := by simp [adr]
  rw [e] at h
  have p : List.Perm (adr pre ++ a :: adr (post ++ rest)) (a :: (adr pre ++ adr (post ++ rest))) := List.perm_middle
  have q := (List.nodup_cons.mp (p.nodup_iff.mp h)).1
  refine ⟨fun x hx e => q (List.mem_append.mpr (.inl (List.mem_map.mpr ⟨x, hx, e⟩))), fun x hx e => q (List.mem_append.mpr (.inr (List.mem_map.mpr ⟨x, hx, e⟩)))⟩

theorem Sim.fresh (S : Sim X h₀ L m os cs im fr σ h) : ∀ p ∈ os ++ (cs ++ (im ++ fr)), p.1 ≠ h.objs.size := fun p hp e => Nat.lt_irrefl _ (e ▸ Heap.lt_size (S.N p hp).1)
theorem fresh_of_lt {l : Led} {a : Addr} (h : ∀ p ∈ l, p.1 < a) : ∀ p ∈ l, p.1 ≠ a := fun p hp e => Nat.lt_irrefl _ (e ▸ h p hp)

/-- a step that only looks, or lays objects that nobody asks for -/
theorem Sim.keeps (S : Sim X h₀ L m os cs im fr σ h) {h' : Heap} (hk : ∀ b o, h.get? b = some o → h'.get? b = some o) : Post X h₀ L m os cs im fr os im σ h' :=
  ⟨fun _ e => e, Pre.refl _, S.F.keeps hk, fun p hp => ⟨hk _ _ (S.N p hp).1, (S.N p hp).2⟩, S.nd, S.sep, S.st⟩

theorem Sim.store (S : Sim X h₀ L m os cs im fr σ h) {k : Nat} {d : O} (hk : σ[k]? = some d) : ∃ a o, (adr os)[k]? = some a ∧ h.get? a = some o ∧ OR X.Hb im a o d := by
  obtain ⟨pre, a, o, post, e, hl, hr, ha, _⟩ := S.st.get hk
  refine ⟨a, o, ha, ?_, hr⟩
  subst e
  exact (S.N (a, o) (led_mem.mpr (.inl (List.mem_append.mpr (.inr (.head _)))))).1
end

section
variable {X : Cfg} {n : Nat} {sc : List (Str × NameKind)} {ρ : Rho} {σ : List O} {Q : V → List O → Prop}

theorem AW.mono {e : Expr} {Q Q' : V → List O → Prop} (h : AW X n sc ρ σ e Q) (k : ∀ d σ', Q d σ' → Q' d σ') : AW X n sc ρ σ e Q' :=
  fun A env h₀ L m os cs im fr s Qc Ec x S R q => h A env h₀ L m os cs im fr s Qc Ec x S R fun v d σ' os' im' h' tk' hq => q v d σ' os' im' h' tk' (k d σ' hq)

theorem Name_ {x : String} {pos : Pos} {d : V} (l : Lk ρ x d) (h : Q d σ) (hd : (Str.ofString x == ("__debug__" : Str)) = false := by decide) (hc : (Str.ofString x == ("__classdict__" : Str)) = false := by decide) :
    AW X n sc ρ σ (.Name (Str.ofString x) pos) Q := fun A env h₀ L m os cs im fr s Qc Ec x S R q => by
  obtain ⟨v, hv, at_⟩ := R _ _ l
  have fin : Qc v s := q v d σ os im s.heap s.toks h (Post.refl S) hv
  refine wpAny_Name ?_ hd
  have mem : ∀ {c o}, (c, o) ∈ cs ++ fr → s.heap.get? c = some o := fun {c o} hm => (S.N (c, o) (led_mem.mpr ((List.mem_append.mp hm).elim (fun e => .inr (.inl e)) fun e => .inr (.inr (.inr e))))).1
  cases at_ with
  | loc hk he hm => exact wpAny_loadName_local x.kind hk (he ▸ S.F.ns) hm fin
  | comp hk hm ho hv' => exact wpAny_loadName_local x.kind hk (ho.ns (mem hm)) hv' fin
  | cell hk hl hm ho => exact wpAny_loadName_cell x.kind hk hl ⟨_, mem hm, ho⟩ fin
  | free hk hl hm ho => exact wpAny_loadName_free x.kind hk hl ⟨_, mem hm, ho⟩ fin hc

theorem NameG_ {x : Str} {pos : Pos} {v : Value} {d : V} (e : nsIn X.K mainGlobals x = some (some v)) (hx : sc.lookup x = some .globalImplicit) (hv : ∀ im β, VR X.Hb im β v d) (h : Q d σ)
    (hd : (x == ("__debug__" : Str)) = false := by decide) :
    AW X n sc ρ σ (.Name x pos) Q := fun A env h₀ L m os cs im fr s Qc Ec x' S R q => by
  have hg : s.heap.Ns env.globals X.mg := by rw [x'.glob]; exact X.top.g.keeps (x'.hb S.F)
  refine Calls.Name_function_global x'.kind (by show env.scope.names.lookup x = _; rw [x'.names]; exact hx) (Calls.loadGlobal_global hg (mg_of X.inK X.top.g e) ?_) hd
  exact q v d σ os im s.heap s.toks h (Post.refl S) (hv _ _)

theorem Const_int {i : Int} {k pos} (h : Q (.int i) σ) : AW X n sc ρ σ (.Constant (.int i) k pos) Q :=
  fun A env h₀ L m os cs im fr s Qc Ec x' S R q => wpAny_Constant_int (q _ _ _ os im _ _ h (Post.refl S) (.int _ _))
theorem Const_bool {b : Bool} {k pos} (h : Q (.bool b) σ) : AW X n sc ρ σ (.Constant (.bool b) k pos) Q :=
  fun A env h₀ L m os cs im fr s Qc Ec x' S R q => wpAny_Constant_bool (q _ _ _ os im _ s.toks h (Post.refl S) (.bool _))
theorem Const_str {x : Str} {k pos} (h : Q (.str x) σ) : AW X n sc ρ σ (.Constant (.str x) k pos) Q :=
  fun A env h₀ L m os cs im fr s Qc Ec x' S R q => wpAny_Constant_str (q _ _ _ os im _ _ h (Post.refl S) (.str _ _))

/-- two operands, then an operation on their values -/
def Op2 (X : Cfg) (n : Nat) (σ : List O) (T : Value → Value → Sem Value) (a b : V) (Q : V → List O → Prop) : Prop :=
  ∀ va vb, Op X n σ (fun im β => VR X.Hb im β va a ∧ VR X.Hb im β vb b) (T va vb) (fun im β v d => VR X.Hb im β v d) Q

theorem BinOp_ {l r : Expr} {op : Operator} {pos : Pos} (h : AW X n sc ρ σ l fun a σ₁ => AW X n sc ρ σ₁ r fun b σ₂ => Op2 X n σ₂ (binaryOp op) a b Q) : AW X n sc ρ σ (.BinOp l op r pos) Q :=
  fun A env h₀ L m os cs im fr s Qc Ec x S R q => wpAny_BinOp (h A env h₀ L m os cs im fr s _ Ec x S R fun va a σ₁ os₁ im₁ h₁ tk₁ k₁ P₁ v₁ =>
    k₁ A env h₀ L m os₁ cs im₁ fr _ _ Ec x P₁.sim (R.post P₁.sub P₁.pre) fun vb b σ₂ os₂ im₂ h₂ tk₂ k₂ P₂ v₂ =>
      k₂ va vb A env h₀ L sc m os₂ cs im₂ fr _ Qc Ec x P₂.sim ⟨v₁.mono P₂.sub P₂.pre, v₂⟩ fun v d σ₃ os₃ im₃ h₃ tk₃ k₃ P₃ v₃ =>
        q v d σ₃ os₃ im₃ h₃ tk₃ k₃ (P₁.trans (P₂.trans P₃)) v₃)

theorem Compare_ {l r : Expr} {op : CmpOp} {pos : Pos} (h : AW X n sc ρ σ l fun a σ₁ => AW X n sc ρ σ₁ r fun b σ₂ => Op2 X n σ₂ (compareOp op) a b Q)
    (hm : behindInMarks op r = false := by with_unfolding_all rfl) : AW X n sc ρ σ (.Compare l [op] [r] pos) Q :=
  fun A env h₀ L m os cs im fr s Qc Ec x S R q => wpAny_Compare1 (hm := hm) (h A env h₀ L m os cs im fr s _ Ec x S R fun va a σ₁ os₁ im₁ h₁ tk₁ k₁ P₁ v₁ =>
    k₁ A env h₀ L m os₁ cs im₁ fr _ _ Ec x P₁.sim (R.post P₁.sub P₁.pre) fun vb b σ₂ os₂ im₂ h₂ tk₂ k₂ P₂ v₂ =>
      k₂ va vb A env h₀ L sc m os₂ cs im₂ fr _ Qc Ec x P₂.sim ⟨v₁.mono P₂.sub P₂.pre, v₂⟩ fun v d σ₃ os₃ im₃ h₃ tk₃ k₃ P₃ v₃ =>
        q v d σ₃ os₃ im₃ h₃ tk₃ k₃ (P₁.trans (P₂.trans P₃)) v₃)
end

set_option genSizeOf false
set_option genInjectivity false

inductive Fl where
  | next | cont | brk
  | ret (d : V)

inductive FlR (Hb : Heap) (im : Led) (β : List Addr) : Flow → Fl → Prop
  | next : FlR Hb im β .next .next
  | cont : FlR Hb im β .cont .cont
  | brk : FlR Hb im β .brk .brk
  | ret {v : Value} {d : V} : VR Hb im β v d → FlR Hb im β (.ret v) (.ret d)
theorem FlR.mono {Hb : Heap} {im im' : Led} {β β' : List Addr} (hi : ∀ p ∈ im, p ∈ im') (hb : Pre β β') {f : Flow} {g : Fl} : FlR Hb im β f g → FlR Hb im' β' f g
  | .next => .next
  | .cont => .cont
  | .brk => .brk
  | .ret h => .ret (h.mono hi hb)

/-- the cells of the frame -/
structure CellsOk (env : Env) (cs : Led) : Prop where
  adr : cs.map (·.1) = env.cells.map (·.2)
  cell : ∀ p ∈ cs, ∃ v, p.2.data = .cell v
  has : ∀ x, env.kindOf x = some .cell → ∃ c, env.cells.lookup x = some c

structure PostS (X : Cfg) (h₀ : Heap) (L : Addr) (env : Env) (os cs im fr : Led) (m' : Str → Option Value) (os' cs' im' : Led) (σ' : List O) (h' : Heap) : Prop where
  sub : Sub im im'
  pre : Pre (adr os) (adr os')
  cells : CellsOk env cs'
  sim : Sim X h₀ L m' os' cs' im' fr σ' h'

def rset (ρ : Rho) (x : String) (d : V) : Rho := (x, d) :: ρ

/-- a statement, or several -/
def AWs (T : Env → Sem Flow) (X : Cfg) (n : Nat) (sc : List (Str × NameKind)) (ρ : Rho) (σ : List O) (Q : Fl → Rho → List O → Prop) : Prop :=
  ∀ (A : Around) (env : Env) (h₀ : Heap) (L : Addr) (m : Str → Option Value) (os cs im fr : Led) (s : Shared) (Qc : Flow → Shared → Prop) (Ec : Value → Shared → Prop),
    Fx X n A env h₀ L sc → env.locals = L → CellsOk env cs → Sim X h₀ L m os cs im fr σ s.heap → LR X env L m os cs im fr ρ →
    (∀ f g ρ' σ' m' os' cs' im' h' tk', Q g ρ' σ' → PostS X h₀ L env os cs im fr m' os' cs' im' σ' h' → LR X env L m' os' cs' im' fr ρ' → FlR X.Hb im' (adr os') f g → Qc f { s with heap := h', toks := tk' }) →
    wpAny (model X.prog X.w) A (T env) Qc Ec s

abbrev AX (X : Cfg) (n : Nat) (sc : List (Str × NameKind)) (ρ : Rho) (σ : List O) (st : Stmt) (Q : Fl → Rho → List O → Prop) : Prop := AWs (fun env => exec st env) X n sc ρ σ Q
abbrev AXs (X : Cfg) (n : Nat) (sc : List (Str × NameKind)) (ρ : Rho) (σ : List O) (ss : List Stmt) (Q : Fl → Rho → List O → Prop) : Prop := AWs (fun env => execs ss env) X n sc ρ σ Q

section
variable {X : Cfg} {n : Nat} {A : Around} {env : Env} {h₀ : Heap} {L : Addr} {sc : List (Str × NameKind)} {m : Str → Option Value} {os cs im fr : Led} {σ : List O} {h : Heap} {ρ : Rho}

theorem PostS.refl (C : CellsOk env cs) (S : Sim X h₀ L m os cs im fr σ h) : PostS X h₀ L env os cs im fr m os cs im σ h := ⟨fun _ e => e, Pre.refl _, C, S⟩
theorem PostS.trans {m' m'' : Str → Option Value} {os' cs' im' os'' cs'' im'' : Led} {σ' σ'' : List O} {h' h'' : Heap} (P : PostS X h₀ L env os cs im fr m' os' cs' im' σ' h')
    (P' : PostS X h₀ L env os' cs' im' fr m'' os'' cs'' im'' σ'' h'') : PostS X h₀ L env os cs im fr m'' os'' cs'' im'' σ'' h'' := ⟨fun _ e => P'.sub _ (P.sub _ e), P.pre.trans P'.pre, P'.cells, P'.sim⟩
theorem Post.toS {os' im' : Led} {σ' : List O} {h' : Heap} (C : CellsOk env cs) (P : Post X h₀ L m os cs im fr os' im' σ' h') : PostS X h₀ L env os cs im fr m os' cs im' σ' h' := ⟨P.sub, P.pre, C, P.sim⟩

theorem lookup_inj {l : List (Str × Addr)} (nd : (l.map (·.2)).Nodup) {x y : Str} {c : Addr} (hx : l.lookup x = some c) (hy : l.lookup y = some c) : x = y := by
  induction l with
  | nil => simp at hx
  | cons p l ih =>
    obtain ⟨z, d⟩ := p
    rw [List.map_cons, List.nodup_cons] at nd
    have mem : ∀ {l : List (Str × Addr)} {x : Str} {c : Addr}, l.lookup x = some c → c ∈ l.map (·.2) := by
      intro l
      induction l with
      | nil => intro x c h; simp at h
      | cons q l ih =>
        intro x c h
        obtain ⟨z, d⟩ := q
        rw [List.lookup_cons] at h
        cases hb : x == z with
        | true => rw [hb] at h; cases h; exact .head _
        | false => rw [hb] at h; exact .tail _ (ih h)
    rw [List.lookup_cons] at hx hy
    cases hb : x == z with
    | true =>
      rw [hb] at hx; cases hx
      cases hb' : y == z with
      | true => rw [eq_of_beq hb, eq_of_beq hb']
      | false => rw [hb'] at hy; exact absurd (mem hy) nd.1
    | false =>
      rw [hb] at hx
      cases hb' : y == z with
      | true => rw [hb'] at hy; cases hy; exact absurd (mem hx) nd.1
      | false => rw [hb'] at hy; exact ih nd.2 hx hy

theorem ofString_inj {x y : String} (h : Str.ofString x = Str.ofString y) : x = y := by
  rw [Str.ofString_eq_toList, Str.ofString_eq_toList] at h
  have e : (x.toList.map Char.toNat) = (y.toList.map Char.toNat) := by
    have := congrArg Str.cps h
    simpa using this
  have key : ∀ l l' : List Char, l.map Char.toNat = l'.map Char.toNat → l = l' := by
    intro l
    induction l with
    | nil => intro l' h; cases l' with | nil => rfl | cons => simp at h
    | cons c l ih =>
      intro l' h
      cases l' with
      | nil => simp at h
      | cons d l' =>
        rw [List.map_cons, List.map_cons] at h
        injection h with h1 h2
        rw [Char.toNat_inj.mp h1, ih l' h2]
  exact String.toList_inj.mp (key _ _ e)

theorem Lk_set {ρ : Rho} {x y : String} {d e : V} (h : Lk (rset ρ x d) y e) : (y = x ∧ e = d) ∨ (y ≠ x ∧ Lk ρ y e) := by
  cases h with
  | here => exact .inl ⟨rfl, rfl⟩
  | there hne h => exact .inr ⟨fun q => by rw [q] at hne; simp at hne, h⟩
end

section
variable {X : Cfg} {n : Nat} {sc : List (Str × NameKind)} {ρ : Rho} {σ : List O} {Q : Fl → Rho → List O → Prop}

theorem AWs.mono {T : Env → Sem Flow} {Q Q' : Fl → Rho → List O → Prop} (h : AWs T X n sc ρ σ Q) (k : ∀ f ρ' σ', Q f ρ' σ' → Q' f ρ' σ') : AWs T X n sc ρ σ Q' :=
  fun A env h₀ L m os cs im fr s Qc Ec x e C S R q => h A env h₀ L m os cs im fr s Qc Ec x e C S R fun f g ρ' σ' m' os' cs' im' h' tk' hq => q f g ρ' σ' m' os' cs' im' h' tk' (k g ρ' σ' hq)

/-- fewer names known -/
theorem AWs.weak {T : Env → Sem Flow} {ρ' : Rho} (h : AWs T X n sc ρ' σ Q) (k : ∀ x d, Lk ρ' x d → Lk ρ x d) : AWs T X n sc ρ σ Q :=
  fun A env h₀ L m os cs im fr s Qc Ec x e C S R q => h A env h₀ L m os cs im fr s Qc Ec x e C S (fun y d l => R y d (k y d l)) q

theorem nil_ (h : Q .next ρ σ) : AXs X n sc ρ σ [] Q := fun A env h₀ L m os cs im fr s Qc Ec x e C S R q =>
  wpAny_execs_nil (q _ _ _ _ m os cs im s.heap s.toks h (PostS.refl C S) R .next)

/-- what follows a statement -/
def Go (X : Cfg) (n : Nat) (sc : List (Str × NameKind)) (rest : List Stmt) (Q : Fl → Rho → List O → Prop) (f : Fl) (ρ : Rho) (σ : List O) : Prop := match f with
  | .next => AXs X n sc ρ σ rest Q
  | f => Q f ρ σ

theorem cons_ {st : Stmt} {rest : List Stmt} (h : AX X n sc ρ σ st (Go X n sc rest Q)) : AXs X n sc ρ σ (st :: rest) Q :=
  fun A env h₀ L m os cs im fr s Qc Ec x e C S R q => wpAny_execs_cons (h A env h₀ L m os cs im fr s _ Ec x e C S R fun f g ρ₁ σ₁ m₁ os₁ cs₁ im₁ h₁ tk₁ k₁ P₁ R₁ f₁ => by
    cases f₁ with
    | next =>
      exact k₁ A env h₀ L m₁ os₁ cs₁ im₁ fr { s with heap := h₁, toks := tk₁ } Qc Ec x e P₁.cells P₁.sim R₁ (fun f g ρ₂ σ₂ m₂ os₂ cs₂ im₂ h₂ tk₂ k₂ P₂ R₂ f₂ =>
        q f g ρ₂ σ₂ m₂ os₂ cs₂ im₂ h₂ tk₂ k₂ (P₁.trans P₂) R₂ f₂)
    | cont => exact q _ _ _ _ _ _ _ _ _ _ k₁ P₁ R₁ .cont
    | brk => exact q _ _ _ _ _ _ _ _ _ _ k₁ P₁ R₁ .brk
    | ret hv => exact q _ _ _ _ _ _ _ _ _ _ k₁ P₁ R₁ (.ret hv))

theorem Return_ {e : Expr} {pos : Pos} (h : AW X n sc ρ σ e fun d σ' => Q (.ret d) ρ σ') : AX X n sc ρ σ (.Return (some e) pos) Q :=
  fun A env h₀ L m os cs im fr s Qc Ec x el C S R q => wpAny_Return_some (h A env h₀ L m os cs im fr s _ Ec x S R fun v d σ' os' im' h' tk' k P hv =>
    q _ _ _ _ m os' cs im' h' tk' k (P.toS C) (R.post P.sub P.pre) (.ret hv))
theorem Continue_ {pos : Pos} (h : Q .cont ρ σ) : AX X n sc ρ σ (.Continue pos) Q :=
  fun A env h₀ L m os cs im fr s Qc Ec x e C S R q => wpAny_Continue (q _ _ _ _ m os cs im s.heap s.toks h (PostS.refl C S) R .cont)

theorem interactive_no {env : Env} (hk : env.scope.kind = .function) : interactive env = false := by unfold interactive; rw [hk]; rfl

theorem Expr_ {e : Expr} {pos : Pos} (h : AW X n sc ρ σ e fun d σ' => Q .next ρ σ') (hs : ∀ env, swapsWith e none pos.line env = pure false := by intro env; rfl) : AX X n sc ρ σ (.Expr e pos) Q :=
  fun A env h₀ L m os cs im fr s Qc Ec x el C S R q => wpAny_Expr_any (h A env h₀ L m os cs im fr s _ Ec x S R fun v d σ' os' im' h' tk' k P hv =>
    q _ _ _ _ m os' cs im' h' tk' k (P.toS C) (R.post P.sub P.pre) .next) (interactive_no x.kind) (hs env)

theorem If_ {test : Expr} {body orelse : List Stmt} {pos : Pos} (h : AWt X n sc ρ σ test fun b σ' => if b = true then AXs X n sc ρ σ' body Q else AXs X n sc ρ σ' orelse Q) : AX X n sc ρ σ (.If test body orelse pos) Q :=
  fun A env h₀ L m os cs im fr s Qc Ec x el C S R q => wpAny_If (h A env h₀ L m os cs im fr s _ Ec x S R fun b σ' os' im' h' tk' k P => by
    have fin : ∀ ss, AXs X n sc ρ σ' ss Q → wpAny (model X.prog X.w) A (execs ss env) Qc Ec { s with heap := h', toks := tk' } := fun ss hs =>
      hs A env h₀ L m os' cs im' fr _ Qc Ec x el C P.sim (R.post P.sub P.pre) fun f g ρ₂ σ₂ m₂ os₂ cs₂ im₂ h₂ tk₂ k₂ P₂ R₂ f₂ =>
        q f g ρ₂ σ₂ m₂ os₂ cs₂ im₂ h₂ tk₂ k₂ ((P.toS C).trans P₂) R₂ f₂
    cases b with
    | true => exact fin _ (by simpa using k)
    | false => exact fin _ (by simpa using k))

/-- a name is bound -/
theorem store_ {A : Around} {env : Env} {h₀ : Heap} {L : Addr} {m : Str → Option Value} {os cs im fr : Led} {s : Shared} {Qc : Unit → Shared → Prop} {Ec : Value → Shared → Prop} {x : String} {v : Value} {d : V}
    (hx : sc.lookup (Str.ofString x) = some .local ∨ (sc.lookup (Str.ofString x) = some .cell)) 
    (F : Fx X n A env h₀ L sc) (he : env.locals = L) (C : CellsOk env cs) (S : Sim X h₀ L m os cs im fr σ s.heap) (R : LR X env L m os cs im fr ρ) (hv : VR X.Hb im (adr os) v d)
    (q : ∀ m' cs' h' tk', PostS X h₀ L env os cs im fr m' os cs' im σ h' → LR X env L m' os cs' im fr (rset ρ x d) → Qc () { s with heap := h', toks := tk' }) :
    wpAny (model X.prog X.w) A (storeName env (Str.ofString x) v) Qc Ec s := by
  have kk : ∀ y, env.kindOf y = sc.lookup y := fun y => by show env.scope.names.lookup y = _; rw [F.names]
  rcases hx with hx | hx
  · refine wpAny_storeName_local (by rw [kk]; exact hx) (he ▸ S.F.ns) (fun h' hn hs => ?_) (by rw [F.kind]; rfl)
    subst he
    refine q _ cs h' _ ⟨fun _ e => e, Pre.refl _, C, S.F.set hn hs, S.N.set hs, S.nd, S.sep, S.st⟩ fun y e l => ?_
    rcases Lk_set l with ⟨rfl, rfl⟩ | ⟨hne, l⟩
    · exact ⟨v, hv, .loc (by rw [kk]; exact hx) rfl (by simp)⟩
    · obtain ⟨w, hw, at_⟩ := R _ _ l
      refine ⟨w, hw, ?_⟩
      have hne' : Str.ofString y ≠ Str.ofString x := fun q => hne (ofString_inj q)
      cases at_ with
      | loc a b c => exact .loc a b (by simp [hne', c])
      | comp a b c d => exact .comp a b c d
      | cell a b c d => exact .cell a b c d
      | free a b c d => exact .free a b c d
  · obtain ⟨c, hc⟩ := C.has _ (by rw [kk]; exact hx)
    have ndc : (env.cells.map (·.2)).Nodup := by
      have := S.nd
      rw [show adr (os ++ (cs ++ fr)) = adr os ++ (cs.map (·.1) ++ adr fr) by simp [adr], C.adr] at this
      exact ((List.nodup_append.mp (List.nodup_append.mp this).2.1).1)
    have hm : c ∈ cs.map (·.1) := by
      rw [C.adr]
      have mem : ∀ {l : List (Str × Addr)} {x : Str} {c : Addr}, l.lookup x = some c → c ∈ l.map (·.2) := by
        intro l
        induction l with
        | nil => intro x c h; simp at h
        | cons q l ih =>
          intro x c h
          obtain ⟨z, d⟩ := q
          rw [List.lookup_cons] at h
          cases hb : x == z with
          | true => rw [hb] at h; cases h; exact .head _
          | false => rw [hb] at h; exact .tail _ (ih h)
      exact mem hc
    obtain ⟨⟨c', o⟩, hm', e'⟩ := List.mem_map.mp hm
    obtain rfl : c' = c := e'
    clear hm
    have hm := hm'
    obtain ⟨v₀, hd⟩ := C.cell _ hm
    have z := S.N (c', o) (led_mem.mpr (.inr (.inl hm)))
    refine wpAny_storeName_cell F.kind (by rw [kk]; exact hx) hc ⟨o, z.1, hd⟩ fun h' hv' hs => ?_
    obtain ⟨o', ho', hd'⟩ := hv'
    obtain ⟨pre, post, e⟩ := List.append_of_mem hm
    subst e
    have nd := S.nd
    have nd' : (adr ((pre ++ (c', o) :: post) ++ (os ++ fr))).Nodup := by
      exact (List.Perm.nodup_iff (List.Perm.map _ (List.perm_append_comm_assoc _ _ _))).mp nd
    obtain ⟨n1, n2⟩ := nd_mid nd'
    have sepa : ∀ q ∈ im, q.1 ≠ c' := fun q hq e => S.sep (c', o) (led_mem'.mpr (.inr (.inl hm))) q hq e.symm
    have out : ∀ p ∈ os ++ ((pre ++ (c', o) :: post) ++ (im ++ fr)), p.1 ≠ c' → h'.get? p.1 = some p.2 ∧ p.1 ≠ L ∧ h₀.get? p.1 = none := fun p hp ne =>
      ⟨(hs.2 _ ne).trans (S.N p hp).1, (S.N p hp).2⟩
    have other : ∀ p ∈ (pre ++ (c', o) :: post) ++ fr, p.1 ≠ c' → p ∈ (pre ++ (c', o') :: post) ++ fr := fun p hp ne => by
      rcases List.mem_append.mp hp with hp | hp
      · rcases List.mem_append.mp hp with hp | hp
        · exact List.mem_append.mpr (.inl (List.mem_append.mpr (.inl hp)))
        · rcases List.mem_cons.mp hp with rfl | hp
          · exact absurd rfl ne
          · exact List.mem_append.mpr (.inl (List.mem_append.mpr (.inr (.tail _ hp))))
      · exact List.mem_append.mpr (.inr hp)
    have hfe : ∀ p ∈ fr, p.1 ≠ c' := fun p hp => n2 p (List.mem_append.mpr (.inr (List.mem_append.mpr (.inr hp))))
    refine q m (pre ++ (c', o') :: post) h' s.toks ⟨fun _ e => e, Pre.refl _, ⟨?_, ?_, C.has⟩, S.F.change hs z.2.1 z.2.2, fun p hp => ?_, ?_, fun p hp q hq => ?_, S.st⟩ fun y e l => ?_
    · rw [← C.adr]; simp
    · intro p hp
      rcases List.mem_append.mp hp with hp | hp
      · exact C.cell p (List.mem_append.mpr (.inl hp))
      · rcases List.mem_cons.mp hp with rfl | hp
        · exact ⟨_, hd'⟩
        · exact C.cell p (List.mem_append.mpr (.inr (.tail _ hp)))
    · rcases led_mem.mp hp with hp | hp | hp | hp
      · exact out p (led_mem.mpr (.inl hp)) (n2 p (List.mem_append.mpr (.inr (List.mem_append.mpr (.inl hp)))))
      · rcases List.mem_append.mp hp with hp | hp
        · exact out p (led_mem.mpr (.inr (.inl (List.mem_append.mpr (.inl hp))))) (n1 p hp)
        · rcases List.mem_cons.mp hp with rfl | hp
          · exact ⟨ho', z.2⟩
          · exact out p (led_mem.mpr (.inr (.inl (List.mem_append.mpr (.inr (.tail _ hp)))))) (n2 p (List.mem_append.mpr (.inl hp)))
      · exact out p (led_mem.mpr (.inr (.inr (.inl hp)))) (sepa p hp)
      · exact out p (led_mem.mpr (.inr (.inr (.inr hp)))) (hfe p hp)
    · have : adr (os ++ ((pre ++ (c', o') :: post) ++ fr)) = adr (os ++ ((pre ++ (c', o) :: post) ++ fr)) := by simp [adr]
      rw [this]; exact nd
    · rcases led_mem'.mp hp with hp | hp | hp
      · exact S.sep p (led_mem'.mpr (.inl hp)) q hq
      · rcases List.mem_append.mp hp with hp | hp
        · exact S.sep p (led_mem'.mpr (.inr (.inl (List.mem_append.mpr (.inl hp))))) q hq
        · rcases List.mem_cons.mp hp with rfl | hp
          · exact fun e => sepa q hq e.symm
          · exact S.sep p (led_mem'.mpr (.inr (.inl (List.mem_append.mpr (.inr (.tail _ hp)))))) q hq
      · exact S.sep p (led_mem'.mpr (.inr (.inr hp))) q hq
    · rcases Lk_set l with ⟨rfl, rfl⟩ | ⟨hne, l⟩
      · exact ⟨v, hv, .cell (o := o') (by rw [kk]; exact hx) hc (List.mem_append.mpr (.inl (List.mem_append.mpr (.inr (.head _))))) hd'⟩
      · obtain ⟨w, hw, at_⟩ := R _ _ l
        refine ⟨w, hw, ?_⟩
        cases at_ with
        | loc a b c => exact .loc a b c
        | @comp ob m₂ a b c d =>
          refine .comp a (other _ b fun q => ?_) c d
          -- the frame's own namespace is no cell
          obtain ⟨es, ep, hh, _⟩ := c
          have : s.heap.get? env.locals = some ob := (S.N (env.locals, ob) (led_mem.mpr ((List.mem_append.mp b).elim (fun e => .inr (.inl e)) fun e => .inr (.inr (.inr e))))).1
          have q' : env.locals = c' := q
          rw [q', z.1] at this
          cases this
          rw [hd] at hh; cases hh
        | @cell c₂ ob a b c d =>
          refine .cell a b (other _ c fun q => ?_) d
          have q' : c₂ = c' := q
          subst q'
          exact hne (ofString_inj (lookup_inj ndc b hc))
        | @free c₂ ob a b c d =>
          refine .free a b (other _ c fun q => ?_) d
          have q' : c₂ = c' := q
          subst q'
          exact hne (ofString_inj (lookup_inj ndc b hc))

end

section
variable {X : Cfg} {n : Nat} {sc : List (Str × NameKind)} {ρ : Rho} {σ : List O} {Q : Fl → Rho → List O → Prop} {QV : V → List O → Prop} {QB : Bool → List O → Prop}

abbrev May (sc : List (Str × NameKind)) (x : String) : Prop := sc.lookup (Str.ofString x) = some .local ∨ sc.lookup (Str.ofString x) = some .cell

theorem Assign_ {x : String} {p pos : Pos} {e : Expr} (hx : May sc x) (h : AW X n sc ρ σ e fun d σ' => Q .next (rset ρ x d) σ')
    (hs : ∀ env, swapsWith e (some (.Name (Str.ofString x) p)) pos.line env = pure false := by intro env; rfl) : AX X n sc ρ σ (.Assign [.Name (Str.ofString x) p] e pos) Q :=
  fun A env h₀ L m os cs im fr s Qc Ec F el C S R q => wpAny_Assign_Name (h A env h₀ L m os cs im fr s _ Ec F S R fun v d σ' os' im' h' tk' k P hv =>
    store_ (s := { s with heap := h', toks := tk' }) hx F el C P.sim (R.post P.sub P.pre) hv fun m₂ cs₂ h₂ tk₂ P₂ R₂ =>
      q _ _ _ _ _ _ _ _ h₂ tk₂ k ((P.toS C).trans P₂) R₂ .next) (hs env)

theorem load_ {A : Around} {env : Env} {h₀ : Heap} {L : Addr} {m : Str → Option Value} {os cs im fr : Led} {s : Shared} {Qc : Value → Shared → Prop} {Ec : Value → Shared → Prop} {x : String} {v : Value}
    (F : Fx X n A env h₀ L sc) (S : Sim X h₀ L m os cs im fr σ s.heap) (at_ : NameAt env L m (cs ++ fr) (Str.ofString x) v) (fin : Qc v s) (hc : (Str.ofString x == ("__classdict__" : Str)) = false := by decide) :
    wpAny (model X.prog X.w) A (loadName env (Str.ofString x)) Qc Ec s := by
  have mem : ∀ {c o}, (c, o) ∈ cs ++ fr → s.heap.get? c = some o := fun {c o} hm => (S.N (c, o) (led_mem.mpr ((List.mem_append.mp hm).elim (fun e => .inr (.inl e)) fun e => .inr (.inr (.inr e))))).1
  cases at_ with
  | loc hk he hm => exact wpAny_loadName_local F.kind hk (he ▸ S.F.ns) hm fin
  | comp hk hm ho hv' => exact wpAny_loadName_local F.kind hk (ho.ns (mem hm)) hv' fin
  | cell hk hl hm ho => exact wpAny_loadName_cell F.kind hk hl ⟨_, mem hm, ho⟩ fin
  | free hk hl hm ho => exact wpAny_loadName_free F.kind hk hl ⟨_, mem hm, ho⟩ fin hc

theorem AugAssign_ {x : String} {p pos : Pos} {op : Operator} {e : Expr} {d₀ : V} (hx : May sc x) (l : Lk ρ x d₀) (h : AW X n sc ρ σ e fun d σ₁ => Op2 X n σ₁ (inplaceOp op) d₀ d fun d' σ₂ => Q .next (rset ρ x d') σ₂)
    (hc : (Str.ofString x == ("__classdict__" : Str)) = false := by decide) : AX X n sc ρ σ (.AugAssign (.Name (Str.ofString x) p) op e pos) Q :=
  fun A env h₀ L m os cs im fr s Qc Ec F el C S R q => by
    obtain ⟨v₀, hv₀, at_⟩ := R _ _ l
    exact wpAny_AugAssign_Name (load_ F S at_ (h A env h₀ L m os cs im fr s _ Ec F S R fun v d σ₁ os₁ im₁ h₁ tk₁ k₁ P₁ hv =>
      k₁ v₀ v A env h₀ L sc m os₁ cs im₁ fr { s with heap := h₁, toks := tk₁ } _ Ec F P₁.sim ⟨hv₀.mono P₁.sub P₁.pre, hv⟩ fun v' d' σ₂ os₂ im₂ h₂ tk₂ k₂ P₂ hv₂ =>
        store_ (s := { s with heap := h₂, toks := tk₂ }) hx F el C P₂.sim (R.post (P₁.trans P₂).sub (P₁.trans P₂).pre) hv₂ fun m₃ cs₃ h₃ tk₃ P₃ R₃ =>
          q _ _ _ _ _ _ _ _ h₃ tk₃ k₂ (((P₁.trans P₂).toS C).trans P₃) R₃ .next) hc)

/-- an item is stored -/
def Op3 (X : Cfg) (n : Nat) (σ : List O) (T : Value → Value → Value → Sem Unit) (a b c : V) (Q : Unit → List O → Prop) : Prop :=
  ∀ va vb vc, Op X n σ (fun im β => VR X.Hb im β va a ∧ VR X.Hb im β vb b ∧ VR X.Hb im β vc c) (T va vb vc) (fun _ _ _ _ => True) Q

theorem AssignSub_ {o i e : Expr} {p pos : Pos} (h : AW X n sc ρ σ e fun c σ₁ => AW X n sc ρ σ₁ o fun a σ₂ => AW X n sc ρ σ₂ i fun b σ₃ => Op3 X n σ₃ setItem a b c fun _ σ₄ => Q .next ρ σ₄)
    (hs : ∀ env, swapsWith e (some (.Subscript o i p)) pos.line env = pure false := by intro env; rfl) : AX X n sc ρ σ (.Assign [.Subscript o i p] e pos) Q :=
  fun A env h₀ L m os cs im fr s Qc Ec F el C S R q => wpAny_Assign_Subscript (h A env h₀ L m os cs im fr s _ Ec F S R fun vc c σ₁ os₁ im₁ h₁ tk₁ k₁ P₁ r₁ =>
    k₁ A env h₀ L m os₁ cs im₁ fr { s with heap := h₁, toks := tk₁ } _ Ec F P₁.sim (R.post P₁.sub P₁.pre) fun va a σ₂ os₂ im₂ h₂ tk₂ k₂ P₂ r₂ =>
      k₂ A env h₀ L m os₂ cs im₂ fr { s with heap := h₂, toks := tk₂ } _ Ec F P₂.sim (R.post (P₁.trans P₂).sub (P₁.trans P₂).pre) fun vb b σ₃ os₃ im₃ h₃ tk₃ k₃ P₃ r₃ =>
        k₃ va vb vc A env h₀ L sc m os₃ cs im₃ fr { s with heap := h₃, toks := tk₃ } _ Ec F P₃.sim ⟨r₂.mono P₃.sub P₃.pre, r₃, r₁.mono (P₂.trans P₃).sub (P₂.trans P₃).pre⟩ fun _ _ σ₄ os₄ im₄ h₄ tk₄ k₄ P₄ _ =>
          q _ _ _ _ m os₄ cs im₄ h₄ tk₄ k₄ ((((P₁.trans P₂).trans P₃).trans P₄).toS C) (R.post (((P₁.trans P₂).trans P₃).trans P₄).sub (((P₁.trans P₂).trans P₃).trans P₄).pre) .next) (hs env)

/-! tests -/
/-- the truth of a value -/
def Tr (X : Cfg) (n : Nat) (σ : List O) (d : V) (Q : Bool → List O → Prop) : Prop := ∀ v, Op X n σ (fun im β => VR X.Hb im β v d) (truthy v) (fun _ _ b c => b = c) Q

theorem t_value {e : Expr} (h : AW X n sc ρ σ e fun d σ' => Tr X n σ' d QB)
    (he : ∀ env whole, isTrue e env whole = (do let v ← whole; standAt e.pos; holding [v] (truthy v)) := by intro env whole; rfl) : AWt X n sc ρ σ e QB :=
  fun A env h₀ L m os cs im fr s Qc Ec F S R q => wpAny_isTrue_value (h A env h₀ L m os cs im fr s _ Ec F S R fun v d σ₁ os₁ im₁ h₁ tk₁ k₁ P₁ r₁ =>
    k₁ v A env h₀ L sc m os₁ cs im₁ fr { s with heap := h₁, toks := tk₁ } _ Ec F P₁.sim r₁ fun b c σ₂ os₂ im₂ h₂ tk₂ k₂ P₂ e => by
      subst e; exact q _ _ _ _ h₂ tk₂ k₂ (P₁.trans P₂)) (he env _)

theorem t_cmp {l r : Expr} {op : CmpOp} {pos : Pos} (h : AW X n sc ρ σ l fun a σ₁ => AW X n sc ρ σ₁ r fun b σ₂ => Op2 X n σ₂ (compareOp op) a b fun d σ₃ => ∃ c, d = .bool c ∧ QB c σ₃)
    (hm : behindInMarks op r = false := by with_unfolding_all rfl) : AWt X n sc ρ σ (.Compare l [op] [r] pos) QB :=
  fun A env h₀ L m os cs im fr s Qc Ec F S R q => wpAny_isTrue_Compare1 (hm := hm) (h A env h₀ L m os cs im fr s _ Ec F S R fun va a σ₁ os₁ im₁ h₁ tk₁ k₁ P₁ v₁ =>
    k₁ A env h₀ L m os₁ cs im₁ fr { s with heap := h₁, toks := tk₁ } _ Ec F P₁.sim (R.post P₁.sub P₁.pre) fun vb b σ₂ os₂ im₂ h₂ tk₂ k₂ P₂ v₂ =>
      k₂ va vb A env h₀ L sc m os₂ cs im₂ fr { s with heap := h₂, toks := tk₂ } _ Ec F P₂.sim ⟨v₁.mono P₂.sub P₂.pre, v₂⟩ fun v d σ₃ os₃ im₃ h₃ tk₃ k₃ P₃ v₃ => by
        obtain ⟨c, rfl, hc⟩ := k₃
        exact v₃.cBool (P := fun v => wpAny (model X.prog X.w) A (truthy v) Qc Ec _) (wpAny_truthy_bool (q _ _ _ _ h₃ tk₃ hc (P₁.trans (P₂.trans P₃)))))

theorem t_not {e : Expr} {pos : Pos} (h : AWt X n sc ρ σ e fun b σ' => QB (!b) σ') : AWt X n sc ρ σ (.UnaryOp .Not e pos) QB :=
  fun A env h₀ L m os cs im fr s Qc Ec F S R q => wpAny_isTrue_Not (h A env h₀ L m os cs im fr s _ Ec F S R fun b σ' os' im' h' tk' k P => q _ _ _ _ h' tk' k P)

/-- and, or: each part in its turn -/
def Alls (X : Cfg) (n : Nat) (sc : List (Str × NameKind)) (ρ : Rho) (op : BoolOp) : List Expr → (Bool → List O → Prop) → List O → Prop
  | [], Q, σ => Q (op == .And) σ
  | e :: r, Q, σ => AWt X n sc ρ σ e fun b σ' => match op, b with
    | .And, false => Q false σ'
    | .Or, true => Q true σ'
    | _, _ => Alls X n sc ρ op r Q σ'

theorem alls_ {op : BoolOp} : ∀ {es : List Expr} {σ : List O} {QB : Bool → List O → Prop}, Alls X n sc ρ op es QB σ → ∀ (A : Around) (env : Env) (h₀ : Heap) (L : Addr) (m : Str → Option Value) (os cs im fr : Led) (s : Shared) (Qc : Bool → Shared → Prop) (Ec : Value → Shared → Prop),
    Fx X n A env h₀ L sc → Sim X h₀ L m os cs im fr σ s.heap → LR X env L m os cs im fr ρ →
    (∀ b σ' os' im' h' tk', QB b σ' → Post X h₀ L m os cs im fr os' im' σ' h' → Qc b { s with heap := h', toks := tk' }) → wpAny (model X.prog X.w) A (allTrue op es env) Qc Ec s
  | [], σ, QB, h, A, env, h₀, L, m, os, cs, im, fr, s, Qc, Ec, F, S, R, q => by
    have fin : Qc (op == .And) s := q _ _ os im s.heap s.toks h (Post.refl S)
    cases op with
    | And => exact wpAny_allTrue_And_nil fin
    | Or => exact wpAny_allTrue_Or_nil fin
  | e :: r, σ, QB, h, A, env, h₀, L, m, os, cs, im, fr, s, Qc, Ec, F, S, R, q => by
    have more : ∀ σ' os' im' h' tk', Alls X n sc ρ op r QB σ' → Post X h₀ L m os cs im fr os' im' σ' h' → wpAny (model X.prog X.w) A (allTrue op r env) Qc Ec { s with heap := h', toks := tk' } := fun σ' os' im' h' tk' a P =>
      alls_ a A env h₀ L m os' cs im' fr { s with heap := h', toks := tk' } Qc Ec F P.sim (R.post P.sub P.pre) fun b σ₂ os₂ im₂ h₂ tk₂ k₂ P₂ => q b σ₂ os₂ im₂ h₂ tk₂ k₂ (P.trans P₂)
    cases op with
    | And =>
      refine wpAny_allTrue_And_cons (h A env h₀ L m os cs im fr s _ Ec F S R fun b σ' os' im' h' tk' k P => ?_)
      cases b with
      | true => exact more _ _ _ _ _ k P
      | false => exact q _ _ _ _ h' tk' k P
    | Or =>
      refine wpAny_allTrue_Or_cons (h A env h₀ L m os cs im fr s _ Ec F S R fun b σ' os' im' h' tk' k P => ?_)
      cases b with
      | true => exact q _ _ _ _ h' tk' k P
      | false => exact more _ _ _ _ _ k P

theorem t_bool {op : BoolOp} {es : List Expr} {pos : Pos} (h : Alls X n sc ρ op es QB σ) : AWt X n sc ρ σ (.BoolOp op es pos) QB :=
  fun A env h₀ L m os cs im fr s Qc Ec F S R q => wpAny_isTrue_BoolOp (alls_ h A env h₀ L m os cs im fr s Qc Ec F S R q)

theorem IfExp_ {t a b : Expr} {pos : Pos} (h : AWt X n sc ρ σ t fun c σ' => if c = true then AW X n sc ρ σ' a QV else AW X n sc ρ σ' b QV) : AW X n sc ρ σ (.IfExp t a b pos) QV :=
  fun A env h₀ L m os cs im fr s Qc Ec F S R q => wpAny_IfExp (h A env h₀ L m os cs im fr s _ Ec F S R fun c σ' os' im' h' tk' k P => by
    have fin : ∀ e, AW X n sc ρ σ' e QV → wpAny (model X.prog X.w) A (eval e env) Qc Ec { s with heap := h', toks := tk' } := fun e he =>
      he A env h₀ L m os' cs im' fr { s with heap := h', toks := tk' } Qc Ec F P.sim (R.post P.sub P.pre) fun v d σ₂ os₂ im₂ h₂ tk₂ k₂ P₂ r₂ => q v d σ₂ os₂ im₂ h₂ tk₂ k₂ (P.trans P₂) r₂
    cases c with
    | true => exact fin _ (by simpa using k)
    | false => exact fin _ (by simpa using k))

theorem Tr.bool {b : Bool} (h : QB b σ) : Tr X n σ (.bool b) QB := fun v A env h₀ L sc m os cs im fr s Qc Ec F S r q =>
  r.cBool (P := fun v => wpAny (model X.prog X.w) A (truthy v) Qc Ec s) (wpAny_truthy_bool (q _ _ _ os im s.heap s.toks h (Post.refl S) rfl))
theorem Tr.int {i : Int} (h : QB (i != 0) σ) : Tr X n σ (.int i) QB := fun v A env h₀ L sc m os cs im fr s Qc Ec F S r q =>
  r.cInt (P := fun v => wpAny (model X.prog X.w) A (truthy v) Qc Ec s) fun t => truthy_int (q _ _ _ os im s.heap s.toks h (Post.refl S) rfl)
theorem isList_im {A : Around} {env : Env} {h₀ : Heap} {L : Addr} {m : Str → Option Value} {os cs im fr : Led} {h : Heap} {a : Addr} {vs : List Value} {k : Nat} (F : Fx X n A env h₀ L sc) (S : Sim X h₀ L m os cs im fr σ h) (hm : Im X.Hb im (a, lstObj vs k)) : h.IsList a vs.toArray :=
  ⟨_, S.get F hm, rfl, k, rfl⟩
theorem isTup_im {A : Around} {env : Env} {h₀ : Heap} {L : Addr} {m : Str → Option Value} {os cs im fr : Led} {h : Heap} {a : Addr} {vs : List Value} {k : Nat} (F : Fx X n A env h₀ L sc) (S : Sim X h₀ L m os cs im fr σ h) (hm : Im X.Hb im (a, tupObj vs k)) : IsTup h a vs.toArray :=
  ⟨_, S.get F hm, rfl, k, rfl⟩
theorem isEmpty_len {vs : List Value} {ds : List V} (h : vs.length = ds.length) : (!vs.toArray.isEmpty) = !ds.isEmpty := by
  cases vs <;> cases ds <;> simp_all
theorem truthy_lst {M : Program} {w : World} {A : Around} {E : Value → Shared → Prop} {s : Shared} {Qc : Bool → Shared → Prop} {a : Addr} {vs : List Value} {k : Nat} {Hb : Heap} {im : Led} {β : List Addr} {ds : List V} (hv : VRs Hb im β vs ds) (hl : ds.length ≤ 1000) (ho : s.heap.get? a = some (lstObj vs k)) (q : Qc (!ds.isEmpty) { s with toks := s.toks + 1 + 1 }) :
    wpAny (model M w) A (truthy (.ref a)) Qc E s :=
  wpAny_truthy_list ⟨_, ho, rfl, k, rfl⟩ (by have := hv.length; rw [List.size_toArray]; omega) (isEmpty_len hv.length ▸ q)
theorem Tr.list {ds : List V} (hl : ds.length ≤ 1000) (h : QB (!ds.isEmpty) σ) : Tr X n σ (.list ds) QB := fun v A env h₀ L sc m os cs im fr s Qc Ec F S r q =>
  r.cList (P := fun v => wpAny (model X.prog X.w) A (truthy v) Qc Ec s) fun a vs k hm hv => truthy_lst hv hl (S.get F hm) (q _ _ _ os im s.heap _ h (Post.refl S) rfl)
theorem Tr.ref {k : Nat} {ds : List V} (hk : σ[k]? = some (.list ds)) (hl : ds.length ≤ 1000) (h : QB (!ds.isEmpty) σ) : Tr X n σ (.ref k) QB := fun v A env h₀ L sc m os cs im fr s Qc Ec F S r q =>
  r.cRef (P := fun v => wpAny (model X.prog X.w) A (truthy v) Qc Ec s) fun a ha => by
    obtain ⟨a', o, ha', ho, hr⟩ := S.store hk
    have e : a' = a := Option.some.inj (ha'.symm.trans ha)
    subst e
    exact hr.cList (P := fun o => s.heap.get? a' = some o → wpAny (model X.prog X.w) A (truthy (.ref a')) Qc Ec s) (fun vs k hv ho => truthy_lst hv hl ho (q _ _ _ os im s.heap _ h (Post.refl S) rfl)) ho

/-! lists of expressions, displays -/
end

/-- the value is a list, frozen or mutable, that holds ds -/
inductive LC (σ : List O) : V → List V → Prop
  | im {ds : List V} : LC σ (.list ds) ds
  | mu {k : Nat} {ds : List V} : σ[k]? = some (.list ds) → LC σ (.ref k) ds

section
variable {X : Cfg} {n : Nat} {sc : List (Str × NameKind)} {ρ : Rho} {σ : List O} {Q : V → List O → Prop} {QB : Bool → List O → Prop}

@[elab_as_elim] theorem LC.on {A : Around} {env : Env} {h₀ : Heap} {L : Addr} {m : Str → Option Value} {os cs im fr : Led} {h : Heap} {d : V} {ds : List V} {v : Value} (c : LC σ d ds) (F : Fx X n A env h₀ L sc) (S : Sim X h₀ L m os cs im fr σ h)
    (r : VR X.Hb im (adr os) v d) {P : Value → Prop} (g : ∀ a vs k, h.get? a = some (lstObj vs k) → VRs X.Hb im (adr os) vs ds → P (.ref a)) : P v := by
  cases c with
  | im => exact r.cList fun a vs k hm hv => g a vs k (S.get F hm) hv
  | mu hk =>
    refine r.cRef fun a ha => ?_
    obtain ⟨a', o, ha', ho, hr⟩ := S.store hk
    have e : a' = a := Option.some.inj (ha'.symm.trans ha)
    subst e
    exact hr.cList (P := fun o => h.get? a' = some o → P (.ref a')) (fun vs k hv e => g _ vs k e (hv.mono (fun _ e => e) fun k a e => by cases e)) ho
theorem LC.at {A : Around} {env : Env} {h₀ : Heap} {L : Addr} {m : Str → Option Value} {os cs im fr : Led} {h : Heap} {d : V} {ds : List V} {v : Value} (c : LC σ d ds) (F : Fx X n A env h₀ L sc) (S : Sim X h₀ L m os cs im fr σ h)
    (r : VR X.Hb im (adr os) v d) : ∃ a vs k, v = .ref a ∧ h.get? a = some (lstObj vs k) ∧ VRs X.Hb im (adr os) vs ds := c.on F S r (P := fun v => ∃ a vs k, v = .ref a ∧ h.get? a = some (lstObj vs k) ∧ VRs X.Hb im (adr os) vs ds) fun a vs k e hv => ⟨a, vs, k, rfl, e, hv⟩

theorem isList_of {h : Heap} {a : Addr} {vs : List Value} {k : Nat} (e : h.get? a = some (lstObj vs k)) : h.IsList a vs.toArray := ⟨_, e, rfl, k, rfl⟩
theorem VRs.sz {Hb : Heap} {im : Led} {β : List Addr} {vs : List Value} {ds : List V} (h : VRs Hb im β vs ds) (hl : ds.length ≤ 1000) : vs.length ≤ sizeLine := h.length ▸ Nat.le_trans hl (by decide)
theorem VRs.szA {Hb : Heap} {im : Led} {β : List Addr} {vs : List Value} {ds : List V} (h : VRs Hb im β vs ds) (hl : ds.length ≤ 1000) : vs.toArray.size ≤ sizeLine := List.size_toArray ▸ h.sz hl
theorem VRs.sz2 {Hb : Heap} {im : Led} {β : List Addr} {vs ws : List Value} {ds es : List V} (h : VRs Hb im β vs ds) (k : VRs Hb im β ws es) (hl : ds.length + es.length ≤ 1000) : vs.length + ws.length ≤ sizeLine := h.length ▸ k.length ▸ Nat.le_trans hl (by decide)

/-! ints -/
section
variable {T : Value → Value → Sem Value} {i j : Int}
theorem Op2.ofI {k : Int} (f : ∀ ta tb A (s : Shared) (Qc : Value → Shared → Prop) (Ec : Value → Shared → Prop), Qc (.int k s.toks) { s with toks := s.toks + 1 } → wpAny (model X.prog X.w) A (T (.int i ta) (.int j tb)) Qc Ec s) (h : Q (.int k) σ) : Op2 X n σ T (.int i) (.int j) Q :=
  fun va vb A env h₀ L sc m os cs im fr s Qc Ec F S r q => r.1.cInt (P := fun va => wpAny (model X.prog X.w) A (T va vb) Qc Ec s) fun ta => r.2.cInt (P := fun vb => wpAny (model X.prog X.w) A (T (.int i ta) vb) Qc Ec s) fun tb =>
    f ta tb A s Qc Ec (q _ _ _ os im s.heap _ h (Post.refl S) (.int _ _))
theorem Op2.ofB {k : Bool} (f : ∀ ta tb A (s : Shared) (Qc : Value → Shared → Prop) (Ec : Value → Shared → Prop), Qc (.bool k) s → wpAny (model X.prog X.w) A (T (.int i ta) (.int j tb)) Qc Ec s) (h : Q (.bool k) σ) : Op2 X n σ T (.int i) (.int j) Q :=
  fun va vb A env h₀ L sc m os cs im fr s Qc Ec F S r q => r.1.cInt (P := fun va => wpAny (model X.prog X.w) A (T va vb) Qc Ec s) fun ta => r.2.cInt (P := fun vb => wpAny (model X.prog X.w) A (T (.int i ta) vb) Qc Ec s) fun tb =>
    f ta tb A s Qc Ec (q _ _ _ os im s.heap s.toks h (Post.refl S) (.bool _))
end
theorem Op2.add {i j : Int} (h : Q (.int (i + j)) σ) : Op2 X n σ (binaryOp .Add) (.int i) (.int j) Q := .ofI (fun _ _ _ _ _ _ q => P.add_int q) h
theorem Op2.iadd {i j : Int} (h : Q (.int (i + j)) σ) : Op2 X n σ (inplaceOp .Add) (.int i) (.int j) Q := .ofI (fun _ _ _ _ _ _ q => P.iadd_int q) h
theorem Op2.sub {i j : Int} (h : Q (.int (i - j)) σ) : Op2 X n σ (binaryOp .Sub) (.int i) (.int j) Q := .ofI (fun _ _ _ _ _ _ q => P.sub_int q) h
theorem Op2.isub {i j : Int} (h : Q (.int (i - j)) σ) : Op2 X n σ (inplaceOp .Sub) (.int i) (.int j) Q := .ofI (fun _ _ _ _ _ _ q => P.isub_int q) h
theorem Op2.mul {i j : Int} (hi : i.natAbs < 2 ^ 20) (hj : j.natAbs < 2 ^ 20) (h : Q (.int (i * j)) σ) : Op2 X n σ (binaryOp .Mult) (.int i) (.int j) Q := .ofI (fun _ _ _ _ _ _ q => P.mul_int q (by have e := Int.natAbs_mul i j; mul_fits)) h
theorem Op2.mod {i j : Int} (hj : j ≠ 0) (h : Q (.int (i.fmod j)) σ) : Op2 X n σ (binaryOp .Mod) (.int i) (.int j) Q := .ofI (fun _ _ _ _ _ _ q => mod_int' hj q) h
theorem Op2.fdiv {i j : Int} (hj : j ≠ 0) (hj' : j.natAbs < 2 ^ 20) (h : Q (.int (i.fdiv j)) σ) : Op2 X n σ (binaryOp .FloorDiv) (.int i) (.int j) Q := .ofI (fun _ _ _ _ _ _ q => floordiv_int hj q (Or.inl (PyProof.noPylong_small (Nat.lt_trans hj' (by decide))))) h
theorem Op2.shl {i j : Int} (h0 : 0 ≤ j) (hj : j ≤ 1000000) (hi : i.natAbs < 2 ^ 64) (h : Q (.int (i * 2 ^ j.toNat)) σ) : Op2 X n σ (binaryOp .LShift) (.int i) (.int j) Q := .ofI (fun _ _ _ _ _ _ q => lshift_int_small h0 hj hi q) h
theorem Op2.shr {i j : Int} (h0 : 0 ≤ j) (h : Q (.int (i.fdiv (2 ^ j.toNat))) σ) : Op2 X n σ (binaryOp .RShift) (.int i) (.int j) Q := .ofI (fun _ _ _ _ _ _ q => rshift_int h0 q) h
theorem Op2.ishr {i j : Int} (h0 : 0 ≤ j) (h : Q (.int (i.fdiv (2 ^ j.toNat))) σ) : Op2 X n σ (inplaceOp .RShift) (.int i) (.int j) Q := .ofI (fun _ _ _ _ _ _ q => irshift_int h0 q) h
theorem Op2.and {i j : Int} (h : Q (.int (Builtin.bitAnd i j)) σ) : Op2 X n σ (binaryOp .BitAnd) (.int i) (.int j) Q := .ofI (fun _ _ _ _ _ _ q => and_int q) h
theorem Op2.or {i j : Int} (h : Q (.int (Builtin.bitOr i j)) σ) : Op2 X n σ (binaryOp .BitOr) (.int i) (.int j) Q := .ofI (fun _ _ _ _ _ _ q => or_int q) h
theorem Op2.ior {i j : Int} (h : Q (.int (Builtin.bitOr i j)) σ) : Op2 X n σ (inplaceOp .BitOr) (.int i) (.int j) Q := .ofI (fun _ _ _ _ _ _ q => ior_int q) h
theorem Neg_ {e : Expr} {pos : Pos} (h : AW X n sc ρ σ e fun d σ' => ∃ i, d = .int i ∧ Q (.int (-i)) σ') : AW X n sc ρ σ (.UnaryOp .USub e pos) Q :=
  fun A env h₀ L m os cs im fr s Qc Ec F S R q => wpAny_UnaryOp (h A env h₀ L m os cs im fr s _ Ec F S R fun v d σ' os' im' h' tk' k P r => by
    obtain ⟨i, rfl, hq⟩ := k
    refine r.cInt fun t => ?_
    exact PySem.P.neg_int (q _ _ _ _ _ h' _ hq P (.int _ _)))

/-! comparisons -/
theorem Op2.eqI {i j : Int} (h : Q (.bool (i == j)) σ) : Op2 X n σ (compareOp .Eq) (.int i) (.int j) Q := .ofB (fun _ _ _ _ _ _ q => P.eq_int q) h
theorem Op2.neI {i j : Int} (h : Q (.bool (i != j)) σ) : Op2 X n σ (compareOp .NotEq) (.int i) (.int j) Q := .ofB (fun _ _ _ _ _ _ q => P.ne_int q) h
theorem Op2.ltI {i j : Int} (h : Q (.bool (decide (i < j))) σ) : Op2 X n σ (compareOp .Lt) (.int i) (.int j) Q := .ofB (fun _ _ _ _ _ _ q => P.lt_int q) h
theorem Op2.geI {i j : Int} (h : Q (.bool (decide (i ≥ j))) σ) : Op2 X n σ (compareOp .GtE) (.int i) (.int j) Q := .ofB (fun _ _ _ _ _ _ q => P.ge_int q) h
theorem Op2.neB {i j : Bool} (h : Q (.bool (i != j)) σ) : Op2 X n σ (compareOp .NotEq) (.bool i) (.bool j) Q := fun va vb A env h₀ L sc m os cs im fr s Qc Ec F S r q =>
  r.1.cBool (P := fun va => wpAny (model X.prog X.w) A (compareOp .NotEq va vb) Qc Ec s) (r.2.cBool (P := fun vb => wpAny (model X.prog X.w) A (compareOp .NotEq (.bool i) vb) Qc Ec s) (ne_bool (q _ _ _ os im s.heap s.toks h (Post.refl S) (.bool _))))
theorem Op2.eqS {x y : Str} (h : Q (.bool (x.cps.toList == y.cps.toList)) σ) : Op2 X n σ (compareOp .Eq) (.str x) (.str y) Q := fun va vb A env h₀ L sc m os cs im fr s Qc Ec F S r q =>
  r.1.cStr (P := fun va => wpAny (model X.prog X.w) A (compareOp .Eq va vb) Qc Ec s) fun t => r.2.cStr (P := fun vb => wpAny (model X.prog X.w) A (compareOp .Eq (.str x t) vb) Qc Ec s) fun u => P.eq_str (q _ _ _ os im s.heap s.toks h (Post.refl S) (.bool _))

theorem VRs.intsAre {Hb : Heap} {im : Led} {β : List Addr} {vs : List Value} {ns : List Int} (h : VRs Hb im β vs (ns.map V.int)) : IntsAre vs ns := by
  induction ns generalizing vs with
  | nil => exact h.cNil (P := fun vs => IntsAre vs []) .nil
  | cons k ns ih =>
    rw [List.map_cons] at h
    refine h.cCons fun w ws h r => ?_
    exact h.cInt (P := fun w => IntsAre (w :: ws) (k :: ns)) fun t => .cons _ _ (ih r)
theorem VRs.strsAre {Hb : Heap} {im : Led} {β : List Addr} {vs : List Value} {ns : List Str} (h : VRs Hb im β vs (ns.map V.str)) : StrsAre vs ns := by
  induction ns generalizing vs with
  | nil => exact h.cNil (P := fun vs => StrsAre vs []) .nil
  | cons k ns ih =>
    rw [List.map_cons] at h
    refine h.cCons fun w ws h r => ?_
    exact h.cStr (P := fun w => StrsAre (w :: ws) (k :: ns)) fun t => .cons _ _ (ih r)

theorem Op2.inL {i : Int} {d : V} {ns : List Int} (c : LC σ d (ns.map V.int)) (h : Q (.bool (ns.any (· == i))) σ) : Op2 X n σ (compareOp .In) (.int i) d Q := fun va vb A env h₀ L sc m os cs im fr s Qc Ec F S r q =>
  r.1.cInt (P := fun va => wpAny (model X.prog X.w) A (compareOp .In va vb) Qc Ec s) fun t => c.on F S r.2 (P := fun vb => wpAny (model X.prog X.w) A (compareOp .In (.int i t) vb) Qc Ec s) fun a vs k ho hv =>
    in_list_ints (isList_of ho) hv.intsAre (q _ _ _ os im s.heap s.toks h (Post.refl S) (.bool _))
theorem Op2.inT {x : Str} {d : V} {ns : List Str} (hd : d = .tup (ns.map V.str)) (h : Q (.bool (ns.any (· == x))) σ) : Op2 X n σ (compareOp .In) (.str x) d Q := fun va vb A env h₀ L sc m os cs im fr s Qc Ec F S r q =>
  r.1.cStr (P := fun va => wpAny (model X.prog X.w) A (compareOp .In va vb) Qc Ec s) fun t => (hd ▸ r.2).cTup (P := fun vb => wpAny (model X.prog X.w) A (compareOp .In (.str x t) vb) Qc Ec s) fun a vs k hm hv =>
    in_tuple_strs (isTup_im F S hm) hv.strsAre (q _ _ _ os im s.heap s.toks h (Post.refl S) (.bool _))
theorem Op2.ninT {x : Str} {d : V} {ns : List Str} (hd : d = .tup (ns.map V.str)) (h : Q (.bool (!(ns.any (· == x)))) σ) : Op2 X n σ (compareOp .NotIn) (.str x) d Q := fun va vb A env h₀ L sc m os cs im fr s Qc Ec F S r q =>
  r.1.cStr (P := fun va => wpAny (model X.prog X.w) A (compareOp .NotIn va vb) Qc Ec s) fun t => (hd ▸ r.2).cTup (P := fun vb => wpAny (model X.prog X.w) A (compareOp .NotIn (.str x t) vb) Qc Ec s) fun a vs k hm hv =>
    notin_tuple_strs (isTup_im F S hm) hv.strsAre (q _ _ _ os im s.heap s.toks h (Post.refl S) (.bool _))

/-! items -/
theorem Subscript_ {value slice : Expr} {pos : Pos} (h : AW X n sc ρ σ value fun a σ₁ => AW X n sc ρ σ₁ slice fun b σ₂ => Op2 X n σ₂ (subscriptTail value slice) a b Q) : AW X n sc ρ σ (.Subscript value slice pos) Q :=
  fun A env h₀ L m os cs im fr s Qc Ec x S R q => PyProof.Rows.Subscript_ (h A env h₀ L m os cs im fr s _ Ec x S R fun va a σ₁ os₁ im₁ h₁ tk₁ k₁ P₁ v₁ =>
    k₁ A env h₀ L m os₁ cs im₁ fr _ _ Ec x P₁.sim (R.post P₁.sub P₁.pre) fun vb b σ₂ os₂ im₂ h₂ tk₂ k₂ P₂ v₂ =>
      k₂ va vb A env h₀ L sc m os₂ cs im₂ fr _ Qc Ec x P₂.sim ⟨v₁.mono P₂.sub P₂.pre, v₂⟩ fun v d σ₃ os₃ im₃ h₃ tk₃ k₃ P₃ v₃ =>
        q v d σ₃ os₃ im₃ h₃ tk₃ k₃ (P₁.trans (P₂.trans P₃)) v₃)

theorem Op2.itemL {value slice : Expr} {a d : V} {ds : List V} {i : Int} (c : LC σ a ds) (h0 : 0 ≤ i) (hi : i < 2 ^ 63) (hd : ds[i.toNat]? = some d) (h : Q d σ)
    (hs : ∀ a k u, subscripted slice false (.ref a) (.int k u) = operate [.ref a, .int k u] (getItem (.ref a) (.int k u)) := by intro _ _ _; with_unfolding_all rfl) : Op2 X n σ (subscriptTail value slice) a (.int i) Q :=
  fun va vb A env h₀ L sc m os cs im fr s Qc Ec F S r q => r.2.cInt (P := fun vb => wpAny (model X.prog X.w) A (subscriptTail value slice va vb) Qc Ec s) fun t => c.on F S r.1 (P := fun va => wpAny (model X.prog X.w) A (subscriptTail value slice va (.int i t)) Qc Ec s) fun a vs k ho hv =>
    (hv.get hd).elim fun v hx => tail_any (isList_of ho).typeIs slot_list_getitem.lookup (wpAny_getItem_list (isList_of ho) h0 hi (List.getElem?_toArray.trans hx.1) (q _ _ _ os im s.heap s.toks h (Post.refl S) hx.2)) (hs _ _ _)
theorem seqIdx {i : Int} {k j : Nat} (h0 : 0 ≤ i) (hj : i.toNat < j) (e : k = j) : seqIndex? i k = some i.toNat := by
  subst e
  unfold seqIndex?
  have h1 : ¬ i < 0 := by omega
  have h2 : i < (k : Int) := by omega
  simp [h1, h2, h0]
theorem Op2.itemT {value slice : Expr} {d : V} {ds : List V} {i : Int} (h0 : 0 ≤ i) (hi : i < 2 ^ 63) (hd : ds[i.toNat]? = some d) (h : Q d σ)
    (hs : ∀ a k u, subscripted slice false (.ref a) (.int k u) = operate [.ref a, .int k u] (getItem (.ref a) (.int k u)) := by intro _ _ _; with_unfolding_all rfl) : Op2 X n σ (subscriptTail value slice) (.tup ds) (.int i) Q :=
  fun va vb A env h₀ L sc m os cs im fr s Qc Ec F S r q => r.2.cInt (P := fun vb => wpAny (model X.prog X.w) A (subscriptTail value slice va vb) Qc Ec s) fun t => r.1.cTup (P := fun va => wpAny (model X.prog X.w) A (subscriptTail value slice va (.int i t)) Qc Ec s) fun a vs k hm hv =>
    (hv.get hd).elim fun v hx => item_tupleT (j := i.toNat) (isTup_im F S hm) (Int.le_trans (by decide) h0) hi (seqIdx h0 (List.getElem?_eq_some_iff.mp hd).1 hv.length) hx.1 (q _ _ _ os im s.heap s.toks h (Post.refl S) hx.2) (hs _ _ _)

/-- a mutable object at hand, and what may become of it -/
theorem Sim.cut {h₀ : Heap} {L : Addr} {m : Str → Option Value} {os cs im fr : Led} {h : Heap} (S : Sim X h₀ L m os cs im fr σ h) {k : Nat} {d : O} (hk : σ[k]? = some d) :
    ∃ pre a o post, os = pre ++ (a, o) :: post ∧ (adr os)[k]? = some a ∧ h.get? a = some o ∧ OR X.Hb im a o d ∧ (∀ p ∈ pre, p.1 ≠ a) ∧ (∀ p ∈ post ++ (cs ++ (im ++ fr)), p.1 ≠ a) ∧
      ∀ o' d' h', OR X.Hb im a o' d' → Fr h₀ L h' m → News h₀ L h' (pre ++ (a, o') :: (post ++ (cs ++ (im ++ fr)))) → Post X h₀ L m os cs im fr (pre ++ (a, o') :: post) im (σ.set k d') h' := by
  obtain ⟨pre, a, o, post, e, hl, hr, ha, hset⟩ := S.st.get hk
  subst e
  have nd := S.nd
  obtain ⟨n1, n2⟩ := nd_mid nd
  have sepa : ∀ q ∈ im, q.1 ≠ a := fun q hq e => S.sep (a, o) (led_mem'.mpr (.inl (List.mem_append.mpr (.inr (.head _))))) q hq e.symm
  refine ⟨pre, a, o, post, rfl, ha, (S.N (a, o) (led_mem.mpr (.inl (List.mem_append.mpr (.inr (.head _)))))).1, hr, n1, fun p hp => ?_, fun o' d' h' hd F' N' => ⟨fun _ e => e, ?_, F', ?_, ?_, fun p hp q hq => ?_, hset o' d' hd⟩⟩
  · rcases List.mem_append.mp hp with hp | hp
    · exact n2 p (List.mem_append.mpr (.inl hp))
    · rcases List.mem_append.mp hp with hp | hp
      · exact n2 p (List.mem_append.mpr (.inr (List.mem_append.mpr (.inl hp))))
      · rcases List.mem_append.mp hp with hp | hp
        · exact sepa p hp
        · exact n2 p (List.mem_append.mpr (.inr (List.mem_append.mpr (.inr hp))))
  · have : adr (pre ++ (a, o') :: post) = adr (pre ++ (a, o) :: post) := by simp [adr]
    rw [this]; exact Pre.refl _
  · have e : (pre ++ (a, o') :: post) ++ (cs ++ (im ++ fr)) = pre ++ (a, o') :: (post ++ (cs ++ (im ++ fr))) := by simp
    rw [e]; exact N'
  · have : adr ((pre ++ (a, o') :: post) ++ (cs ++ fr)) = adr ((pre ++ (a, o) :: post) ++ (cs ++ fr)) := by simp [adr]
    rw [this]; exact nd
  · rcases led_mem'.mp hp with hp | hp
    · rcases List.mem_append.mp hp with hp | hp
      · exact S.sep p (led_mem'.mpr (.inl (List.mem_append.mpr (.inl hp)))) q hq
      · rcases List.mem_cons.mp hp with rfl | hp
        · exact fun e => sepa q hq e.symm
        · exact S.sep p (led_mem'.mpr (.inl (List.mem_append.mpr (.inr (.tail _ hp))))) q hq
    · exact S.sep p (led_mem'.mpr (.inr hp)) q hq

theorem upd_mid {pre post : Led} {a : Addr} {o o' : Obj} (h1 : ∀ p ∈ pre, p.1 ≠ a) (h2 : ∀ p ∈ post, p.1 ≠ a) : Upd a o o' (pre ++ (a, o) :: post) (pre ++ (a, o') :: post) := by
  induction pre with
  | nil => exact .head h2
  | cons p pre ih => exact .tail (h1 p (.head _)) (ih fun q hq => h1 q (.tail _ hq))
theorem led_mid {pre post cs im fr : Led} {p : Addr × Obj} : (pre ++ p :: post) ++ (cs ++ (im ++ fr)) = pre ++ p :: (post ++ (cs ++ (im ++ fr))) := by simp

/-- a list that may change, in hand -/
@[elab_as_elim] theorem Sim.lst {h₀ : Heap} {L : Addr} {m : Str → Option Value} {os cs im fr : Led} {h : Heap} (S : Sim X h₀ L m os cs im fr σ h) {k : Nat} {ds : List V} (hk : σ[k]? = some (.list ds)) {v : Value} (r : VR X.Hb im (adr os) v (.ref k)) {P : Value → Prop}
    (g : ∀ pre a vs n post, VRs X.Hb im [] vs ds → h.get? a = some (lstObj vs n) → News h₀ L h (pre ++ (a, lstObj vs n) :: post) → (∀ p ∈ pre, p.1 ≠ a) → (∀ p ∈ post, p.1 ≠ a) → (adr os)[k]? = some a →
      (∀ vs' n' ds' h', VRs X.Hb im [] vs' ds' → Fr h₀ L h' m → News h₀ L h' (pre ++ (a, lstObj vs' n') :: post) → ∃ os', Post X h₀ L m os cs im fr os' im (σ.set k (.list ds')) h') → P (.ref a)) : P v := by
  obtain ⟨pre, a, o, post, e, ha', ho, hr, h1, h2, fin⟩ := S.cut hk
  refine r.cRef fun b hb => ?_
  have eb : a = b := Option.some.inj (ha'.symm.trans hb)
  subst eb
  have N := S.N
  rw [e, led_mid] at N
  refine hr.cList (P := fun o => h.get? a = some o → News h₀ L h (pre ++ (a, o) :: (post ++ (cs ++ (im ++ fr)))) → P (.ref a)) (fun vs n hv ho N => ?_) ho N
  exact g pre a vs n _ hv ho N h1 h2 hb fun vs' n' ds' h' hv' F' N' => ⟨_, fin _ _ h' (.list hv') F' N'⟩
theorem Post.nil {Hb : Heap} {im : Led} {β : List Addr} {v : Value} {d : V} (h : VR Hb im [] v d) : VR Hb im β v d := h.mono (fun _ e => e) fun k a e => by cases e

/-- a list's item is set -/
theorem Op3.setL {k : Nat} {ds : List V} {i : Int} {d : V} (hk : σ[k]? = some (.list ds)) (h0 : 0 ≤ i) (hi : i < 2 ^ 63) (hlt : i.toNat < ds.length) (hn : d.nr = true) {Q : Unit → List O → Prop} (h : Q () (σ.set k (.list (ds.set i.toNat d)))) :
    Op3 X n σ setItem (.ref k) (.int i) d Q := fun va vb vc A env h₀ L sc m os cs im fr s Qc Ec F S r q =>
  r.2.1.cInt (P := fun vb => wpAny (model X.prog X.w) A (setItem va vb vc) Qc Ec s) fun t => S.lst hk r.1 (P := fun va => wpAny (model X.prog X.w) A (setItem va (.int i t) vc) Qc Ec s) fun pre a vs n' post hv ho N h1 h2 _ fin => by
    have z := N (_, _) (List.mem_append.mpr (.inr (.head _)))
    obtain ⟨os', P⟩ := fin (vs.set i.toNat vc) n' (ds.set i.toNat d) _ (hv.set (r.2.2.nr hn)) (S.F.change (Heap.SameBut.update ..) z.2.1 z.2.2) (ki_turn (fun x => x.setIfInBounds i.toNat vc) N h1 h2 (Array.toList_inj.mp (by simp)) (by simp))
    exact ki_setAt ho h0 hi (by rw [List.size_toArray, hv.length]; omega) (q _ _ _ _ _ _ s.toks h P trivial)

/-! methods of lists -/
/-- a call on a value in hand, with arguments in hand -/
def OpC (X : Cfg) (n : Nat) (σ : List O) (f : Value) (args : List V) (Q : V → List O → Prop) : Prop :=
  ∀ vs, Op X n σ (fun im β => VRs X.Hb im β vs args) (call f vs) (fun im β v d => VR X.Hb im β v d) Q

theorem OpC.append {k : Nat} {ds : List V} {d : V} (hk : σ[k]? = some (.list ds)) (hl : ds.length ≤ 1000) (hn : d.nr = true) (h : Q .none (σ.set k (.list (ds ++ [d])))) : OpC X n σ (.builtin "list.append") [.ref k, d] Q :=
  fun vs A env h₀ L sc m os cs im fr s Qc Ec F S r q => r.c2 (P := fun vs => wpAny (model X.prog X.w) A (call (.builtin "list.append") vs) Qc Ec s) fun va vb ra rb => S.lst hk ra (P := fun va => wpAny (model X.prog X.w) A (call (.builtin "list.append") [va, vb]) Qc Ec s) fun pre a vs n' post hv ho N h1 h2 _ fin =>
    append_K S.F N (upd_mid h1 h2) (fun h' F' N' => (fin (vs ++ [vb]) (n' + 1) _ h' (hv.append (.one (rb.nr hn))) F' (by rw [List.push_toArray] at N'; exact N')).elim fun os' P => q _ _ _ _ _ h' s.toks h P .none) (hv.szA hl)

theorem kl_last_snoc (y : Value) (p : List Value) : kl_last (p ++ [y]) = some (p, y) := kpa_last y p

theorem VRs.snoc {Hb : Heap} {im : Led} {β : List Addr} {vs : List Value} {ds : List V} {d : V} (h : VRs Hb im β vs (ds ++ [d])) : ∃ us v, vs = us ++ [v] ∧ VRs Hb im β us ds ∧ VR Hb im β v d := by
  induction ds generalizing vs with
  | nil => refine h.c1 fun v h => ?_; exact ⟨[], _, rfl, .nil, h⟩
  | cons e ds ih =>
    refine h.cCons fun w ws h r => ?_
    obtain ⟨us, v, rfl, h1, h2⟩ := ih r
    exact ⟨_ :: us, v, rfl, .cons h h1, h2⟩

theorem OpC.pop {k : Nat} {ds : List V} {d : V} (hk : σ[k]? = some (.list (ds ++ [d]))) (hl : ds.length ≤ 1000) (h : Q d (σ.set k (.list ds))) : OpC X n σ (.builtin "list.pop") [.ref k] Q :=
  fun vs A env h₀ L sc m os cs im fr s Qc Ec F S r q => r.c1 (P := fun vs => wpAny (model X.prog X.w) A (call (.builtin "list.pop") vs) Qc Ec s) fun va ra => S.lst hk ra (P := fun va => wpAny (model X.prog X.w) A (call (.builtin "list.pop") [va]) Qc Ec s) fun pre a vs n' post hv ho N h1 h2 _ fin => by
    obtain ⟨us, v, rfl, hu, hv'⟩ := hv.snoc
    exact kl_pop (n := n') S.F N (by exact kl_last_snoc v us) (upd_mid h1 h2) (by have := hu.length; show (us ++ [v]).length ≤ _; simp only [sizeLine, List.length_append, List.length_singleton]; omega)
      (fun h' F' N' => (fin us (n' + 1) ds h' hu F' N').elim fun os' P => q _ _ _ _ _ h' s.toks h P (Post.nil hv'))

theorem OpC.extend {k : Nat} {ds es : List V} {d : V} (hk : σ[k]? = some (.list ds)) (hd : d = .list es) (hl : ds.length + es.length ≤ 1000) (hn : V.nrs es = true) (h : Q .none (σ.set k (.list (ds ++ es)))) : OpC X n σ (.builtin "list.extend") [.ref k, d] Q :=
  fun vs A env h₀ L sc m os cs im fr s Qc Ec F S r q => r.c2 (P := fun vs => wpAny (model X.prog X.w) A (call (.builtin "list.extend") vs) Qc Ec s) fun va vb ra rb => (hd ▸ rb).cList (P := fun vb => wpAny (model X.prog X.w) A (call (.builtin "list.extend") [va, vb]) Qc Ec s) fun b ws k2 hm hw =>
    S.lst hk ra (P := fun va => wpAny (model X.prog X.w) A (call (.builtin "list.extend") [va, .ref b]) Qc Ec s) fun pre a vs n' post hv ho N h1 h2 _ fin =>
      extend_in (n2 := k2) (its2 := ws.toArray) S.F N h1 h2 (S.get F hm) (fun h' n' F' N' => (fin (vs ++ ws) n' _ h' (hv.append (hw.nr hn)) F' N').elim fun os' P => q _ _ _ _ _ h' s.toks h P .none) (hv.sz2 (hw.nr hn) hl)
end

/-- the rest of a loop's turn -/
def TurnQ (Q : Fl → Rho → List O → Prop) (I : Rho → List O → Prop) (f : Fl) (ρ : Rho) (σ : List O) : Prop := match f with
  | .next => I ρ σ
  | .cont => I ρ σ
  | .brk => Q .next ρ σ
  | .ret v => Q (.ret v) ρ σ

/-- what is known between the turns -/
structure Mid (X : Cfg) (h₀ : Heap) (L : Addr) (env : Env) (os₁ im₁ fr : Led) (m : Str → Option Value) (nx : Led) (ρ : Rho) (σ : List O) : Prop where
  ex : ∃ os cs im, nx = os ++ (cs ++ (im ++ fr)) ∧ Sub im₁ im ∧ Pre (adr os₁) (adr os) ∧ CellsOk env cs ∧ (adr (os ++ (cs ++ fr))).Nodup ∧ (∀ p ∈ os ++ (cs ++ fr), ∀ q ∈ im, p.1 ≠ q.1) ∧ ORs X.Hb im os σ ∧ LR X env L m os cs im fr ρ

section
variable {X : Cfg} {n : Nat} {sc : List (Str × NameKind)} {ρ : Rho} {σ : List O} {Q : Fl → Rho → List O → Prop}

theorem cells_mem {l : List (Str × Addr)} {x : Str} {c : Addr} (h : l.lookup x = some c) : c ∈ l.map (·.2) := by
  induction l with
  | nil => simp at h
  | cons q l ih =>
    obtain ⟨z, d⟩ := q
    rw [List.lookup_cons] at h
    cases hb : x == z with
    | true => rw [hb] at h; cases h; exact .head _
    | false => rw [hb] at h; exact .tail _ (ih h)

theorem LR.moreFr {env : Env} {L : Addr} {m : Str → Option Value} {os cs im fr : Led} (R : LR X env L m os cs im fr ρ) (p : Addr × Obj) : LR X env L m os cs im (p :: fr) ρ := fun x d l => by
  obtain ⟨v, hv, at_⟩ := R x d l
  have up : ∀ q, q ∈ cs ++ fr → q ∈ cs ++ p :: fr := fun q hq => (List.mem_append.mp hq).elim (fun h => List.mem_append.mpr (.inl h)) fun h => List.mem_append.mpr (.inr (.tail _ h))
  refine ⟨v, hv, ?_⟩
  cases at_ with
  | loc a b c => exact .loc a b c
  | comp a b c d => exact .comp a (up _ b) c d
  | cell a b c d => exact .cell a b (up _ c) d
  | free a b c d => exact .free a b (up _ c) d
theorem LR.lessFr {env : Env} {L : Addr} {m : Str → Option Value} {os cs im fr : Led} {p : Addr × Obj} (R : LR X env L m os cs im (p :: fr) ρ) (C : CellsOk env cs) (h1 : p.1 ≠ env.locals) (h2 : ∀ q ∈ cs, q.1 ≠ p.1) : LR X env L m os cs im fr ρ := fun x d l => by
  obtain ⟨v, hv, at_⟩ := R x d l
  have dn : ∀ q : Addr × Obj, q.1 ≠ p.1 → q ∈ cs ++ p :: fr → q ∈ cs ++ fr := fun q ne hq => (List.mem_append.mp hq).elim (fun h => List.mem_append.mpr (.inl h)) fun h => by
    rcases List.mem_cons.mp h with rfl | h
    · exact absurd rfl ne
    · exact List.mem_append.mpr (.inr h)
  have nc : ∀ {x c}, env.cells.lookup x = some c → c ≠ p.1 := fun {x c} h => by
    have := cells_mem h
    rw [← C.adr] at this
    obtain ⟨q, hq, rfl⟩ := List.mem_map.mp this
    exact h2 q hq
  refine ⟨v, hv, ?_⟩
  cases at_ with
  | loc a b c => exact .loc a b c
  | comp a b c d => exact .comp a (dn _ (fun e => h1 e.symm) b) c d
  | cell a b c d => exact .cell a b (dn _ (nc b) c) d
  | free a b c d => exact .free a b (dn _ (nc b) c) d

/-- a loop over what an iterator walks -/
theorem for_core {A : Around} {env : Env} {h₀ : Heap} {os₁ cs₁ im₁ fr : Led} {m₁ : Str → Option Value} {s₁ s₂ : Shared} {x : String} {body : List Stmt} {Qc : Flow → Shared → Prop} {Ec : Value → Shared → Prop}
    {I : Addr} {fp : List Addr} {N : Nat} {P : Nat → Value → Prop} {St : Nat → Heap → Prop} {items : List V} (J : Nat → Rho → List O → Prop)
    (F : Fx X n A env h₀ env.locals sc) (C : CellsOk env cs₁) (S : Sim X h₀ env.locals m₁ os₁ cs₁ im₁ fr σ s₁.heap) (R : LR X env env.locals m₁ os₁ cs₁ im₁ fr ρ)
    (W : Walks X.prog X.w A I fp [I] N P St) (hN : N = items.length) (hP : ∀ i v, i < N → P i v → ∃ d, items[i]? = some d ∧ VR X.Hb im₁ (adr os₁) v d) (hI : I = s₁.heap.objs.size) (hfp : ∀ a ∈ fp, a = I ∨ ∃ o, Im X.Hb im₁ (a, o))
    (hSt : ∀ i h, St i h → ∃ o, h.get? I = some o) (hst : St 0 s₂.heap) (hup : ∃ h, s₂ = { s₁ with heap := h }) (hk : ∀ b o, s₁.heap.get? b = some o → s₂.heap.get? b = some o)
    (hj : J 0 ρ σ)
    (turn : ∀ i d ρ' σ', items[i]? = some d → J i ρ' σ' → AXs X n sc (rset ρ' x d) σ' body (TurnQ Q (J (i + 1))))
    (hx : sc.lookup (Str.ofString x) = some .local)
    (done : ∀ ρ' σ', J items.length ρ' σ' → Q .next ρ' σ')
    (q : ∀ f g ρ' σ' m' os' cs' im' h' tk', Q g ρ' σ' → PostS X h₀ env.locals env os₁ cs₁ im₁ fr m' os' cs' im' σ' h' → LR X env env.locals m' os' cs' im' fr ρ' → FlR X.Hb im' (adr os') f g → Qc f { s₁ with heap := h', toks := tk' }) :
    LoopAtV X.prog X.w A h₀ env (Str.ofString x) body Qc Ec (.ref I) s₂ := by
  obtain ⟨hh, rfl⟩ := hup
  subst hN
  have hL : env.locals < s₁.heap.objs.size := S.F.ns.lt
  have hLI : env.locals ≠ I := fun e => by rw [e, hI] at hL; exact Nat.lt_irrefl _ hL
  have fresh := S.fresh
  rw [← hI] at fresh
  have hI₀ : h₀.get? I = none := by
    cases e : h₀.get? I with
    | none => rfl
    | some o => have := Heap.lt_size (S.F.keep _ _ e); rw [hI] at this; exact absurd this (Nat.lt_irrefl _)
  have P₂ := S.keeps hk
  refine ⟨I, fp, [I], items.length, P, St, m₁, os₁ ++ (cs₁ ++ (im₁ ++ fr)), fun i m nx => ∃ ρ' σ', J i ρ' σ' ∧ Mid X h₀ env.locals env os₁ im₁ fr m nx ρ' σ', rfl, W, ?_, ?_, ?_, hst, P₂.sim.F, P₂.sim.N, ⟨ρ, σ, hj, ⟨os₁, cs₁, im₁, rfl, fun _ e => e, Pre.refl _, C, S.nd, S.sep, S.st, R⟩⟩, ?_, ?_⟩
  · intro hm
    rcases hfp _ hm with e | ⟨o, e | e⟩
    · exact hLI e
    · exact Nat.lt_irrefl _ (Nat.lt_of_lt_of_le (Heap.lt_size (F.base _ _ e)) S.F.above)
    · exact (S.N (env.locals, o) (led_mem.mpr (.inr (.inr (.inl e))))).2.1 rfl
  · intro b hb
    rw [List.mem_singleton.mp hb]; exact hI₀
  · intro p hp hb
    exact fresh p hp (List.mem_singleton.mp hb)
  · rintro i v m' nx s₃ own ⟨h₃, tk₃, rfl⟩ hi hPv ⟨ρ', σ', hJ, ⟨os, cs, im, rfl, sub, pre, C', nd, sep, st, R'⟩⟩ hnw hown hget hall hst' F' N'
    obtain ⟨oI, hoI⟩ := hSt _ _ hst'
    have hIown : (I, oI) ∈ own := hall I (W.sub I (List.mem_singleton.mpr rfl)) hI₀ oI hoI
    obtain ⟨d, hd, hv⟩ := hP i v hi hPv
    have ne : ∀ p ∈ os ++ (cs ++ (im ++ fr)), p.1 ≠ I := fun p hp e => hnw p hp (List.mem_singleton.mpr e)
    have S' : Sim X h₀ env.locals (fun y => if y = Str.ofString x then some v else m' y) os cs im ((I, oI) :: fr) σ' h₃ := by
      refine ⟨F', fun p hp => ?_, ?_, fun p hp r hr => ?_, st⟩
      · rcases led_mem.mp hp with hp | hp | hp | hp
        · exact N' p (List.mem_append.mpr (.inr (led_mem.mpr (.inl hp))))
        · exact N' p (List.mem_append.mpr (.inr (led_mem.mpr (.inr (.inl hp)))))
        · exact N' p (List.mem_append.mpr (.inr (led_mem.mpr (.inr (.inr (.inl hp))))))
        · rcases List.mem_cons.mp hp with rfl | hp
          · exact N' _ (List.mem_append.mpr (.inl hIown))
          · exact N' p (List.mem_append.mpr (.inr (led_mem.mpr (.inr (.inr (.inr hp))))))
      · have hn : I ∉ adr (os ++ (cs ++ fr)) := adr_ne fun p hp => by
          rcases led_mem'.mp hp with hp | hp | hp
          · exact ne p (led_mem.mpr (.inl hp))
          · exact ne p (led_mem.mpr (.inr (.inl hp)))
          · exact ne p (led_mem.mpr (.inr (.inr (.inr hp))))
        have e : adr (os ++ (cs ++ (I, oI) :: fr)) = (adr os ++ adr cs) ++ I :: adr fr := by simp [adr]
        have e' : adr (os ++ (cs ++ fr)) = (adr os ++ adr cs) ++ adr fr := by simp [adr]
        rw [e]
        rw [e'] at nd hn
        exact (List.perm_middle).nodup_iff.mpr (List.nodup_cons.mpr ⟨hn, nd⟩)
      · rcases led_mem'.mp hp with hp | hp | hp
        · exact sep p (led_mem'.mpr (.inl hp)) r hr
        · exact sep p (led_mem'.mpr (.inr (.inl hp))) r hr
        · rcases List.mem_cons.mp hp with rfl | hp
          · exact fun e => ne r (led_mem.mpr (.inr (.inr (.inl hr)))) e.symm
          · exact sep p (led_mem'.mpr (.inr (.inr hp))) r hr
    have kk : ∀ y, env.kindOf y = sc.lookup y := fun y => by show env.scope.names.lookup y = _; rw [F.names]
    have R'' : LR X env env.locals (fun y => if y = Str.ofString x then some v else m' y) os cs im ((I, oI) :: fr) (rset ρ' x d) := by
      refine LR.moreFr (fun y e l => ?_) _
      rcases Lk_set l with ⟨rfl, rfl⟩ | ⟨hne, l⟩
      · exact ⟨v, hv.mono sub pre, .loc (by rw [kk]; exact hx) rfl (by simp)⟩
      · obtain ⟨w, hw, at_⟩ := R' _ _ l
        refine ⟨w, hw, ?_⟩
        have hne' : Str.ofString y ≠ Str.ofString x := fun q => hne (ofString_inj q)
        cases at_ with
        | loc a b c => exact .loc a b (by simp [hne', c])
        | comp a b c d => exact .comp a b c d
        | cell a b c d => exact .cell a b c d
        | free a b c d => exact .free a b c d
    have back : ∀ {m'' os'' cs'' im'' σ'' h''}, PostS X h₀ env.locals env os cs im ((I, oI) :: fr) m'' os'' cs'' im'' σ'' h'' →
        (∀ p ∈ os'' ++ (cs'' ++ (im'' ++ fr)), p.1 ≠ I) ∧ PostS X h₀ env.locals env os₁ cs₁ im₁ fr m'' os'' cs'' im'' σ'' h'' := by
      intro m'' os'' cs'' im'' σ'' h'' PS
      have nd₂ := PS.sim.nd
      have e : adr (os'' ++ (cs'' ++ (I, oI) :: fr)) = (adr os'' ++ adr cs'') ++ I :: adr fr := by simp [adr]
      rw [e] at nd₂
      have nd₃ := List.nodup_cons.mp ((List.perm_middle).nodup_iff.mp nd₂)
      have neI : ∀ p ∈ os'' ++ (cs'' ++ (im'' ++ fr)), p.1 ≠ I := fun p hp q => by
        rcases led_mem.mp hp with hp | hp | hp | hp
        · exact nd₃.1 (List.mem_append.mpr (.inl (List.mem_append.mpr (.inl (List.mem_map.mpr ⟨p, hp, q⟩)))))
        · exact nd₃.1 (List.mem_append.mpr (.inl (List.mem_append.mpr (.inr (List.mem_map.mpr ⟨p, hp, q⟩)))))
        · exact PS.sim.sep (I, oI) (led_mem'.mpr (.inr (.inr (.head _)))) p hp q.symm
        · exact nd₃.1 (List.mem_append.mpr (.inr (List.mem_map.mpr ⟨p, hp, q⟩)))
      refine ⟨neI, fun p hp => PS.sub _ (sub _ hp), pre.trans PS.pre, PS.cells, PS.sim.F, fun p hp => PS.sim.N p ?_, ?_, fun p hp r hr => PS.sim.sep p ?_ r hr, PS.sim.st⟩
      · rcases led_mem.mp hp with hp | hp | hp | hp
        · exact led_mem.mpr (.inl hp)
        · exact led_mem.mpr (.inr (.inl hp))
        · exact led_mem.mpr (.inr (.inr (.inl hp)))
        · exact led_mem.mpr (.inr (.inr (.inr (.tail _ hp))))
      · have e' : adr (os'' ++ (cs'' ++ fr)) = (adr os'' ++ adr cs'') ++ adr fr := by simp [adr]
        rw [e']; exact nd₃.2
      · rcases led_mem'.mp hp with hp | hp | hp
        · exact led_mem'.mpr (.inl hp)
        · exact led_mem'.mpr (.inr (.inl hp))
        · exact led_mem'.mpr (.inr (.inr (.tail _ hp)))
    have ownN : ∀ {m'' os'' cs'' im'' σ'' h''}, PostS X h₀ env.locals env os cs im ((I, oI) :: fr) m'' os'' cs'' im'' σ'' h'' → ∀ p ∈ own, h''.get? p.1 = some p.2 ∧ p.1 ≠ env.locals ∧ h₀.get? p.1 = none := by
      intro m'' os'' cs'' im'' σ'' h'' PS p hp
      have z := N' p (List.mem_append.mpr (.inl hp))
      refine ⟨?_, z.2⟩
      rcases hfp _ (hown p hp) with e | ⟨o, e | e⟩
      · have e2 : p = (I, oI) := Prod.ext e (by have := hget p hp; rw [e] at this; rw [hoI] at this; exact (Option.some.inj this).symm)
        rw [e2]
        exact (PS.sim.N (I, oI) (led_mem.mpr (.inr (.inr (.inr (.head _)))))).1
      · have := F.base _ _ e
        rw [z.2.2] at this; cases this
      · have g1 := (N' (p.1, o) (List.mem_append.mpr (.inr (led_mem.mpr (.inr (.inr (.inl (sub _ e)))))))).1
        have g2 := hget p hp
        rw [g2] at g1
        have e3 : p.2 = o := Option.some.inj g1
        have := (PS.sim.N (p.1, o) (led_mem.mpr (.inr (.inr (.inl (PS.sub _ (sub _ e))))))).1
        rw [e3]; exact this
    refine turn i d ρ' σ' hd hJ A env h₀ env.locals _ os cs im ((I, oI) :: fr) { s₁ with heap := h₃, toks := tk₃ } _ Ec F rfl C' S' R'' (fun f g ρ₂ σ₂ m₂ os₂ cs₂ im₂ h₂ tk₂ k₂ PS R₂ f₂ => ?_)
    obtain ⟨neI, PS'⟩ := back PS
    have RL : LR X env env.locals m₂ os₂ cs₂ im₂ fr ρ₂ := R₂.lessFr PS.cells (fun e => hLI e.symm) fun p hp => neI p (led_mem.mpr (.inr (.inl hp)))
    have step : J (i + 1) ρ₂ σ₂ → LoopStepU h₀ env.locals [I] own (fun m nx => ∃ ρ' σ', J (i + 1) ρ' σ' ∧ Mid X h₀ env.locals env os₁ im₁ fr m nx ρ' σ') { s₁ with heap := h₃, toks := tk₃ } .next { s₁ with heap := h₂, toks := tk₂ } := fun k =>
      ⟨rfl, h₂, tk₂, m₂, os₂ ++ (cs₂ ++ (im₂ ++ fr)), rfl, PS.sim.F, fun p hp => (List.mem_append.mp hp).elim (fun h => ownN PS p h) fun h => PS'.sim.N p h, fun p hp e => neI p hp (List.mem_singleton.mp e),
        ρ₂, σ₂, k, ⟨os₂, cs₂, im₂, rfl, PS'.sub, PS'.pre, PS.cells, PS'.sim.nd, PS'.sim.sep, PS'.sim.st, RL⟩⟩
    cases f₂ with
    | next => exact .next (step k₂)
    | cont => exact .cont (step k₂)
    | brk => exact .brk (q _ _ _ _ _ _ _ _ h₂ tk₂ k₂ PS' RL .next)
    | ret hv => exact .ret (q _ _ _ _ _ _ _ _ h₂ tk₂ k₂ PS' RL (.ret hv))
  · rintro h' tk m' nx F' N' hnw ⟨ρ', σ', hJ, ⟨os, cs, im, rfl, sub, pre, C', nd, sep, st, R'⟩⟩
    exact q _ _ _ _ _ _ _ _ h' tk (done _ _ hJ) ⟨sub, pre, C', F', N', nd, sep, st⟩ R' .next

/-- what a for walks -/
inductive It : V → List V → Prop
  | list {ds : List V} : It (.list ds) ds
  | rng {a b c : Int} {k : Nat} : Builtin.Range.small a b c = true → Builtin.Range.rangeSize a b c = (k : Int) → It (.rng a b c) ((List.range k).map fun i : Nat => V.int (a + (i : Int) * c))

def ForB (X : Cfg) (n : Nat) (sc : List (Str × NameKind)) (x : String) (body : List Stmt) (Q : Fl → Rho → List O → Prop) (ρ : Rho) (d : V) (σ : List O) : Prop :=
  ∃ (items : List V) (J : Nat → Rho → List O → Prop), It d items ∧ J 0 ρ σ ∧ (∀ i d ρ' σ', items[i]? = some d → J i ρ' σ' → AXs X n sc (rset ρ' x d) σ' body (TurnQ Q (J (i + 1)))) ∧ (∀ ρ' σ', J items.length ρ' σ' → Q .next ρ' σ')

theorem For_ {x : String} {px pos : Pos} {iter : Expr} {body : List Stmt} (hx : sc.lookup (Str.ofString x) = some .local) (h : AW X n sc ρ σ iter fun d σ₁ => ForB X n sc x body Q ρ d σ₁)
    (hs : ∀ env x, foldedSetIterable iter env x = pure x := by intro _ _; rfl) : AX X n sc ρ σ (.For (.Name (Str.ofString x) px) iter body [] pos) Q :=
  fun A env h₀ L m os cs im fr s Qc Ec F el C S R q => by
    subst el
    have kk : ∀ y, env.kindOf y = sc.lookup y := fun y => by show env.scope.names.lookup y = _; rw [F.names]
    refine wpAny_noRaise (For_invV h₀ (by rw [kk]; exact hx) (by rw [F.kind]; rfl) (h A env h₀ env.locals m os cs im fr s _ _ F S R fun v d σ₁ os₁ im₁ h₁ tk₁ k₁ P₁ r₁ => ?_) (hs env) PassesOwn.never)
    obtain ⟨items, J, it, hj, turn, done⟩ := k₁
    have R₁ := R.post P₁.sub P₁.pre
    have q' : ∀ f g ρ' σ' m' os' cs' im' h' tk', Q g ρ' σ' → PostS X h₀ env.locals env os₁ cs im₁ fr m' os' cs' im' σ' h' → LR X env env.locals m' os' cs' im' fr ρ' → FlR X.Hb im' (adr os') f g → Qc f { s with heap := h', toks := tk' } :=
      fun f g ρ' σ' m' os' cs' im' h' tk' k P R f' => q f g ρ' σ' m' os' cs' im' h' tk' k ((P₁.toS C).trans P) R f'
    cases it with
    | list =>
      cases r₁ with
      | @list a vs k ds hm hv =>
        have hl := isList_im F P₁.sim hm
        have hlt : a < h₁.objs.size := Heap.lt_size (P₁.sim.get F hm)
        refine wpAny_pyIter_list (s := { s with heap := h₁, toks := tk₁ }) hl ?_
        exact for_core (s₁ := { s with heap := h₁, toks := tk₁ }) (items := items) J F C P₁.sim R₁ (Walks.list F.hh h₁.objs.size a (Nat.ne_of_lt hlt) vs.toArray) (by rw [List.size_toArray, hv.length]) (fun i v hi hp => by
            obtain ⟨d, hd, r⟩ := hv.get' (k := i) (v := v) (by simpa using hp)
            exact ⟨d, hd, r⟩) rfl (fun b hb => by
            rcases List.mem_cons.mp hb with rfl | hb
            · exact .inl rfl
            · rw [List.mem_singleton.mp hb]; exact .inr ⟨_, hm⟩) (fun i h st => by obtain ⟨o, e, _⟩ := st.1; exact ⟨o, e⟩) ⟨⟨_, Heap.get?_push_size _ rfl, rfl, rfl⟩, hl.push _⟩ ⟨_, rfl⟩ (fun b o e => Heap.get?_push_of_some _ e) hj turn hx done q'
    | @rng a b c k hsm hsz =>
      cases r₁ with
      | rng hm =>
        have hr := P₁.sim.get F hm
        refine wpAny_pyIter_range (s := { s with heap := h₁, toks := tk₁ }) hr hsm ?_
        exact for_core (s₁ := { s with heap := h₁, toks := tk₁ }) J F C P₁.sim R₁ (Walks.range F.hh h₁.objs.size a c k) (by simp) (fun i v hi hp => by
            obtain ⟨t, rfl⟩ := hp
            exact ⟨V.int (a + (i : Int) * c), by simp [hi], .int _ _⟩) rfl (fun b hb => .inl (List.mem_singleton.mp hb)) (fun i h st => ⟨_, st⟩) (by show IsRangeIter _ _ _ _ _; rw [hsz]; simpa using Heap.get?_push_size _ rfl) ⟨_, rfl⟩ (fun b o e => Heap.get?_push_of_some _ e) hj turn hx done q'

/-- a while, by what holds at its head and a measure -/
theorem While_ {test : Expr} {body : List Stmt} {pos : Pos} (J : Nat → Rho → List O → Prop) (k : Nat) (hj : J k ρ σ)
    (turn : ∀ k ρ' σ', J k ρ' σ' → AWt X n sc ρ' σ' test fun b σ₁ => if b = true then AXs X n sc ρ' σ₁ body (TurnQ Q fun ρ₂ σ₂ => ∃ j, j < k ∧ J j ρ₂ σ₂) else Q .next ρ' σ₁) :
    AX X n sc ρ σ (.While test body [] pos) Q :=
  fun A env h₀ L m os cs im fr s Qc Ec F el C S R q => by
    subst el
    refine wpAny_While (codeAny_whileLoop (fun k s' => ∃ ρ' σ' m' os' cs' im' h' tk', s' = { s with heap := h', toks := tk' } ∧ J k ρ' σ' ∧ PostS X h₀ env.locals env os cs im fr m' os' cs' im' σ' h' ∧ LR X env env.locals m' os' cs' im' fr ρ') ?_ k ⟨ρ, σ, m, os, cs, im, s.heap, s.toks, rfl, hj, PostS.refl C S, R⟩)
    rintro k s' ⟨ρ', σ', m', os', cs', im', h', tk', rfl, hJ, P₁, R₁⟩
    refine turn k ρ' σ' hJ A env h₀ env.locals m' os' cs' im' fr { s with heap := h', toks := tk' } _ _ F P₁.sim R₁ fun b σ₂ os₂ im₂ h₂ tk₂ k₂ P₂ => ?_
    cases b with
    | true =>
      simp only [if_true] at k₂ ⊢
      refine k₂ A env h₀ env.locals m' os₂ cs' im₂ fr { s with heap := h₂, toks := tk₂ } _ _ F rfl P₁.cells P₂.sim (R₁.post P₂.sub P₂.pre) fun f g ρ₃ σ₃ m₃ os₃ cs₃ im₃ h₃ tk₃ k₃ P₃ R₃ f₃ => ?_
      have PP := P₁.trans ((P₂.toS P₁.cells).trans P₃)
      cases f₃ with
      | next =>
        obtain ⟨j, hj, hJ'⟩ := k₃
        exact ⟨j, hj, ρ₃, σ₃, m₃, os₃, cs₃, im₃, h₃, tk₃, rfl, hJ', PP, R₃⟩
      | cont =>
        obtain ⟨j, hj, hJ'⟩ := k₃
        exact ⟨j, hj, ρ₃, σ₃, m₃, os₃, cs₃, im₃, h₃, tk₃, rfl, hJ', PP, R₃⟩
      | brk => exact q _ _ _ _ _ _ _ _ h₃ tk₃ k₃ PP R₃ .next
      | ret hv => exact q _ _ _ _ _ _ _ _ h₃ tk₃ k₃ PP R₃ (.ret hv)
    | false =>
      simp only [Bool.false_eq_true, if_false] at k₂ ⊢
      exact wpAny_execs_nil (q _ _ _ _ _ _ _ _ h₂ tk₂ k₂ (P₁.trans (P₂.toS P₁.cells)) (R₁.post P₂.sub P₂.pre) .next)
end

section
variable {X : Cfg} {n : Nat} {sc : List (Str × NameKind)} {ρ : Rho} {σ : List O} {Q : V → List O → Prop} {QL : List V → List O → Prop}

theorem l_nil (h : QL [] σ) : AWl X n sc ρ σ [] QL := fun pos A env h₀ L m os cs im fr s Qc Ec F S R q => spliced_none (q _ _ _ os im s.heap s.toks h (Post.refl S) .nil)
theorem l_cons {e : Expr} {rest : List Expr} (h : AW X n sc ρ σ e fun d σ₁ => AWl X n sc ρ σ₁ rest fun ds σ₂ => QL (d :: ds) σ₂)
    (he : ∀ env, starEach (e :: rest) env = (false, eval e env) :: starEach rest env := by intro _; rfl) : AWl X n sc ρ σ (e :: rest) QL :=
  fun pos A env h₀ L m os cs im fr s Qc Ec F S R q => spliced_more (h A env h₀ L m os cs im fr s _ Ec F S R fun v d σ₁ os₁ im₁ h₁ tk₁ k₁ P₁ r₁ =>
    k₁ pos A env h₀ L m os₁ cs im₁ fr { s with heap := h₁, toks := tk₁ } _ Ec F P₁.sim (R.post P₁.sub P₁.pre) fun vs ds σ₂ os₂ im₂ h₂ tk₂ k₂ P₂ r₂ =>
      q _ _ _ _ _ h₂ tk₂ k₂ (P₁.trans P₂) (.cons (r₁.mono P₂.sub P₂.pre) r₂)) (he env)

theorem AWl.mono {es : List Expr} {Q Q' : List V → List O → Prop} (h : AWl X n sc ρ σ es Q) (k : ∀ d σ', Q d σ' → Q' d σ') : AWl X n sc ρ σ es Q' :=
  fun pos A env h₀ L m os cs im fr s Qc Ec x S R q => h pos A env h₀ L m os cs im fr s Qc Ec x S R fun v d σ' os' im' h' tk' hq => q v d σ' os' im' h' tk' (k d σ' hq)

theorem Tuple_ {es : List Expr} {k : Nat} {pos : Pos} (h : AWl X n sc ρ σ es fun ds σ' => ds.length ≤ 1000 ∧ Q (.tup ds) σ') : AW X n sc ρ σ (.Tuple es k pos) Q :=
  fun A env h₀ L m os cs im fr s Qc Ec F S R q => PyProof.Rows.Tuple_ (h pos A env h₀ L m os cs im fr s _ Ec F S R fun vs ds σ₁ os₁ im₁ h₁ tk₁ k₁ P₁ r₁ =>
    newTuple_N (s := { s with heap := h₁, toks := tk₁ }) P₁.sim.F P₁.sim.N (fun h₂ F₂ N₂ => by
      have P₂ := P₁.sim.newIm F₂ N₂ P₁.sim.fresh
      exact q _ _ _ _ _ h₂ tk₁ k₁.2 (P₁.trans P₂) (.tup (n := 0) (.inr (.head _)) (r₁.mono P₂.sub P₂.pre))) (r₁.sz k₁.1))

/-- a list display that stays as it is -/
theorem ListF_ {es : List Expr} {pos : Pos} (h : AWl X n sc ρ σ es fun ds σ' => ds.length ≤ 1000 ∧ Q (.list ds) σ') : AW X n sc ρ σ (.List es pos) Q :=
  fun A env h₀ L m os cs im fr s Qc Ec F S R q => PyProof.Rows.List_ (h pos A env h₀ L m os cs im fr s _ Ec F S R fun vs ds σ₁ os₁ im₁ h₁ tk₁ k₁ P₁ r₁ =>
    newList_N (s := { s with heap := h₁, toks := tk₁ }) P₁.sim.F P₁.sim.N (fun h₂ F₂ N₂ => by
      have P₂ := P₁.sim.newIm F₂ N₂ P₁.sim.fresh
      exact q _ _ _ _ _ h₂ tk₁ k₁.2 (P₁.trans P₂) (.list (n := 0) (.inr (.head _)) (r₁.mono P₂.sub P₂.pre))) (r₁.sz k₁.1))

theorem adr_snoc {os : Led} {a : Addr} {o : Obj} {σ : List O} (h : os.length = σ.length) : (adr (os ++ [(a, o)]))[σ.length]? = some a := by
  simp [adr, ← h]

/-- a list display that will change -/
theorem ListM_ {es : List Expr} {pos : Pos} (h : AWl X n sc ρ σ es fun ds σ' => ds.length ≤ 1000 ∧ V.nrs ds = true ∧ Q (.ref σ'.length) (σ' ++ [.list ds])) : AW X n sc ρ σ (.List es pos) Q :=
  fun A env h₀ L m os cs im fr s Qc Ec F S R q => PyProof.Rows.List_ (h pos A env h₀ L m os cs im fr s _ Ec F S R fun vs ds σ₁ os₁ im₁ h₁ tk₁ k₁ P₁ r₁ =>
    newList_N (s := { s with heap := h₁, toks := tk₁ }) P₁.sim.F P₁.sim.N (fun h₂ F₂ N₂ => by
      have P₂ := P₁.sim.newOs F₂ N₂ P₁.sim.fresh (.list (n := 0) (r₁.nr k₁.2.1))
      exact q _ _ _ _ _ h₂ tk₁ k₁.2.2 (P₁.trans P₂) (.ref (adr_snoc P₁.sim.st.length))) (r₁.sz k₁.1))

/-! names of the built-ins -/
theorem NameB_ {x : String} {pos : Pos} {v : Value} {d : V} (e : nsIn X.K mainGlobals (Str.ofString x) = some none) (hv : bootBuiltins (Str.ofString x) = some v) (hn : Str.ofString x ≠ "__name__") (hx : sc.lookup (Str.ofString x) = some .globalImplicit)
    (r : ∀ im β, VR X.Hb im β v d) (h : Q d σ) (hd : (Str.ofString x == ("__debug__" : Str)) = false := by decide) : AW X n sc ρ σ (.Name (Str.ofString x) pos) Q := fun A env h₀ L m os cs im fr s Qc Ec F S R q => by
  have hg : s.heap.Ns env.globals X.mg := by rw [F.glob]; exact X.top.g.keeps (F.hb S.F)
  have hb : s.heap.Ns env.builtins X.mb := by rw [F.blt]; exact X.top.b.keeps (F.hb S.F)
  exact Name_function_global F.kind (by show env.scope.names.lookup _ = _; rw [F.names]; exact hx) (loadGlobal_builtin hg (mg_none_of X.inK X.top.g e) hb ((X.top.builtins _ hn).trans hv) (q v d σ os im s.heap s.toks h (Post.refl S) (r _ _))) hd

/-- the value a global or built-in function name stands for -/
inductive Callee (X : Cfg) (x : String) : Value → Prop
  | blt {v : Value} : nsIn X.K mainGlobals (Str.ofString x) = some none → bootBuiltins (Str.ofString x) = some v → Str.ofString x ≠ "__name__" → Callee X x v
  | own {f : Addr} : nsIn X.K mainGlobals (Str.ofString x) = some (some (.ref f)) → keepIn X.K (.ref f) = true → Callee X x (.ref f)

theorem callee_eval {x : String} {pos : Pos} {v : Value} (c : Callee X x v) (hx : sc.lookup (Str.ofString x) = some .globalImplicit) {A : Around} {env : Env} {h₀ : Heap} {L : Addr} {m : Str → Option Value} {os cs im fr : Led} {s : Shared} {Qc Ec : Value → Shared → Prop}
    (F : Fx X n A env h₀ L sc) (S : Sim X h₀ L m os cs im fr σ s.heap) (q : Qc v s) (hd : (Str.ofString x == ("__debug__" : Str)) = false := by decide) : wpAny (model X.prog X.w) A (eval (.Name (Str.ofString x) pos) env) Qc Ec s := by
  have hg : s.heap.Ns env.globals X.mg := by rw [F.glob]; exact X.top.g.keeps (F.hb S.F)
  have hb : s.heap.Ns env.builtins X.mb := by rw [F.blt]; exact X.top.b.keeps (F.hb S.F)
  have hk : env.kindOf (Str.ofString x) = some .globalImplicit := by show env.scope.names.lookup _ = _; rw [F.names]; exact hx
  cases c with
  | blt e hv hn => exact Name_function_global F.kind hk (loadGlobal_builtin hg (mg_none_of X.inK X.top.g e) hb ((X.top.builtins _ hn).trans hv) q) hd
  | own e _ => exact Name_function_global F.kind hk (loadGlobal_global hg (mg_of X.inK X.top.g e) q) hd

theorem looks_pure {M : Model} {h : Heap} {α : Type} {a : α} {t : Sem α} (e : t = pure a) : Looks M h t a := Looks.of_pure e

/-- a call by a plain name -/
theorem Call_ {x : String} {np pos : Pos} {e : Expr} {rest : List Expr} {f : Value} (c : Callee X x f) (hf : (∃ id, f = .builtin id) ∨ (∃ T, f = .type T) ∨ (∃ a, f = .ref a ∧ keepIn X.K f = true)) (hx : sc.lookup (Str.ofString x) = some .globalImplicit)
    (h : AWl X n sc ρ σ (e :: rest) fun ds σ₁ => OpC X n σ₁ f ds Q)
    (he : ∀ env, starEach (e :: rest) env = (false, eval e env) :: starEach rest env := by intro _; rfl) (hplain : ∀ env, (backTo pos (starEach rest env)).any (·.1) = false := by intro _; rfl)
    (hd : (Str.ofString x == ("__debug__" : Str)) = false := by decide) : AW X n sc ρ σ (.Call (.Name (Str.ofString x) np) (e :: rest) [] pos) Q :=
  fun A env h₀ L m os cs im fr s Qc Ec F S R q => by
    refine PyProof.Rows.Call_ (callee_eval c hx F S ?_ hd)
    have args : wpAny (model X.prog X.w) A (spliced (backTo pos (starEach (e :: rest) env))) (fun vs s₁ => X.K.In s₁.heap ∧ wpAny (model X.prog X.w) A (call f ([] ++ vs)) Qc Ec s₁) Ec s :=
      h pos A env h₀ L m os cs im fr s _ Ec F S R fun vs ds σ₁ os₁ im₁ h₁ tk₁ k₁ P₁ r₁ => ⟨X.inK.keeps (F.hb P₁.sim.F), k₁ vs A env h₀ L sc m os₁ cs im₁ fr { s with heap := h₁, toks := tk₁ } Qc Ec F P₁.sim r₁ fun v d σ₂ os₂ im₂ h₂ tk₂ k₂ P₂ r₂ => q v d σ₂ os₂ im₂ h₂ tk₂ k₂ (P₁.trans P₂) r₂⟩
    have pl : (backTo pos (starEach (e :: rest) env)).any (·.1) = false := by
      rw [he]
      show (false || (backTo pos (starEach rest env)).any (·.1)) = false
      rw [hplain]; rfl
    rcases hf with ⟨id, rfl⟩ | ⟨T, rfl⟩ | ⟨a, rfl, hk⟩
    · refine callWith_builtin pl ?_
      rw [he] at args ⊢
      exact evalArgs_plain (wpAny_mono args (fun vs s₁ h => h.2) fun _ _ e => e)
    · refine PyProof.Rows.callWith_type pl ?_
      rw [he] at args ⊢
      exact evalArgs_plain (wpAny_mono args (fun vs s₁ h => h.2) fun _ _ e => e)
    · exact callWith_K (h₀ := X.Hb) X.inK hk args (he env) (hplain env)

/-- the kind of an object in hand -/
def TyOf (X : Cfg) (σ : List O) (d : V) (T : String) : Prop :=
  ∀ (n : Nat) (v : Value) (A : Around) (env : Env) (h₀ : Heap) (L : Addr) (sc : List (Str × NameKind)) (m : Str → Option Value) (os cs im fr : Led) (s : Shared), Fx X n A env h₀ L sc → Sim X h₀ L m os cs im fr σ s.heap → VR X.Hb im (adr os) v d →
    s.TypeIs v T ∧ ∀ a, v = .ref a → ∃ ob, s.heap.get? a = some ob ∧ ob.dict = none
theorem TyOf.list {d : V} {ds : List V} (c : LC σ d ds) : TyOf X σ d "list" := fun n v A env h₀ L sc m os cs im fr s F S r => by
  obtain ⟨a, vs, k, rfl, ho, hv⟩ := c.at F S r
  exact ⟨⟨_, ho, rfl⟩, fun b e => by cases e; exact ⟨_, ho, rfl⟩⟩

/-- a method's call -/
theorem Method_ {o e : Expr} {rest : List Expr} {name : Str} {apos pos : Pos} {T id : String} (pa : PlainAttrs T) (slot : Slot T name id) (hty : typeOf (.builtin id) = pure (.type "method_descriptor"))
    (h : AW X n sc ρ σ o fun d σ₁ => TyOf X σ₁ d T ∧ AWl X n sc ρ σ₁ (e :: rest) fun ds σ₂ => OpC X n σ₂ (.builtin id) (d :: ds) Q)
    (hbase : ∀ env, attributeBase o name env (eval o env) = eval o env := by intro _; rfl)
    (hfew : ∀ env, ((backTo pos (starEach (e :: rest) env)).all (fun x => !x.1) && (backToKw pos (keywordEach [] env)).all (fun x => x.1.isSome)
      && decide ((e :: rest).length + ([] : List Keyword).length + (if ([] : List Keyword).isEmpty then 0 else 1) < 30)) = true := by intro _; rfl)
    (hline : (apos.endLine == pos.line) = true := by rfl)
    (he : ∀ env, starEach (e :: rest) env = (false, eval e env) :: starEach rest env := by intro _; rfl) (hplain : ∀ env, (backTo pos (starEach rest env)).any (·.1) = false := by intro _; rfl) :
    AW X n sc ρ σ (.Call (.Attribute o name apos) (e :: rest) [] pos) Q :=
  fun A env h₀ L m os cs im fr s Qc Ec F S R q => by
    refine wpAny_Call_method (hbase env) (hfew env) hline pa slot hty (h A env h₀ L m os cs im fr s _ Ec F S R fun v d σ₁ os₁ im₁ h₁ tk₁ k₁ P₁ r₁ => ?_)
    obtain ⟨t1, t2⟩ := k₁.1 n v A env h₀ L sc m os₁ cs im₁ fr { s with heap := h₁, toks := tk₁ } F P₁.sim r₁
    refine ⟨t1, t2, ?_⟩
    have pl : (backTo pos (starEach (e :: rest) env)).any (·.1) = false := by
      rw [he]
      show (false || (backTo pos (starEach rest env)).any (·.1)) = false
      rw [hplain]; rfl
    have args := k₁.2 pos A env h₀ L m os₁ cs im₁ fr { s with heap := h₁, toks := tk₁ } (fun vs s₁ => wpAny (model X.prog X.w) A (call (.builtin id) ([v] ++ vs) []) Qc Ec s₁) Ec F P₁.sim (R.post P₁.sub P₁.pre) fun vs ds σ₂ os₂ im₂ h₂ tk₂ k₂ P₂ r₂ =>
      k₂ (v :: vs) A env h₀ L sc m os₂ cs im₂ fr { s with heap := h₂, toks := tk₂ } Qc Ec F P₂.sim (.cons (r₁.mono P₂.sub P₂.pre) r₂) fun w d σ₃ os₃ im₃ h₃ tk₃ k₃ P₃ r₃ => q w d σ₃ os₃ im₃ h₃ tk₃ k₃ (P₁.trans (P₂.trans P₃)) r₃
    refine callWith_builtin pl ?_
    rw [he] at args ⊢
    exact evalArgs_plain args

theorem Method0_ {o : Expr} {name : Str} {apos pos : Pos} {T id : String} (pa : PlainAttrs T) (slot : Slot T name id) (hty : typeOf (.builtin id) = pure (.type "method_descriptor"))
    (h : AW X n sc ρ σ o fun d σ₁ => TyOf X σ₁ d T ∧ OpC X n σ₁ (.builtin id) [d] Q)
    (hbase : ∀ env, attributeBase o name env (eval o env) = eval o env := by intro _; rfl)
    (hfew : ∀ env, ((backTo pos (starEach [] env)).all (fun x => !x.1) && (backToKw pos (keywordEach [] env)).all (fun x => x.1.isSome)
      && decide (([] : List Expr).length + ([] : List Keyword).length + (if ([] : List Keyword).isEmpty then 0 else 1) < 30)) = true := by intro _; rfl)
    (hline : (apos.endLine == pos.line) = true := by rfl) :
    AW X n sc ρ σ (.Call (.Attribute o name apos) [] [] pos) Q :=
  fun A env h₀ L m os cs im fr s Qc Ec F S R q => by
    refine wpAny_Call_method (hbase env) (hfew env) hline pa slot hty (h A env h₀ L m os cs im fr s _ Ec F S R fun v d σ₁ os₁ im₁ h₁ tk₁ k₁ P₁ r₁ => ?_)
    obtain ⟨t1, t2⟩ := k₁.1 n v A env h₀ L sc m os₁ cs im₁ fr { s with heap := h₁, toks := tk₁ } F P₁.sim r₁
    refine ⟨t1, t2, callWith_builtin rfl (evalArgs_nil3 ?_)⟩
    exact k₁.2 [v] A env h₀ L sc m os₁ cs im₁ fr { s with heap := h₁, toks := tk₁ } Qc Ec F P₁.sim (.cons r₁ .nil) fun w d σ₃ os₃ im₃ h₃ tk₃ k₃ P₃ r₃ => q w d σ₃ os₃ im₃ h₃ tk₃ k₃ (P₁.trans P₃) r₃

/-! the built-ins that are called -/
theorem OpC.len {d : V} {ds : List V} (c : LC σ d ds) (hl : ds.length ≤ 1000) (h : Q (.int ds.length) σ) : OpC X n σ (.builtin "len") [d] Q := fun vs A env h₀ L sc m os cs im fr s Qc Ec F S r q =>
  r.c1 fun v r => c.on F S r fun a vs k ho hv => call_len_list (isList_of ho) (by have := hv.length; rw [List.size_toArray]; omega) (q _ _ _ _ _ s.heap _ h (Post.refl S) ((List.size_toArray.trans hv.length) ▸ .int _ _))
theorem OpC.lenS {x : Str} (hx : x.length ≤ 1000) (h : Q (.int x.length) σ) : OpC X n σ (.builtin "len") [.str x] Q := fun vs A env h₀ L sc m os cs im fr s Qc Ec F S r q =>
  r.c1 fun v r => r.cStr fun t => P.len_str (by omega) (q _ _ _ _ _ s.heap _ h (Post.refl S) (.int _ _))
theorem OpC.range1 {b : Int} (h : Q (.rng 0 b 1) σ) : OpC X n σ (.type "range") [.int b] Q := fun vs A env h₀ L sc m os cs im fr s Qc Ec F S r q =>
  r.c1 fun v r => r.cInt fun tb => call_range_1 (q _ _ _ _ _ _ _ h (S.newIm (S.F.push _) (S.N.push S.F { cls := .type "range", data := .fields #[.int 0 s.toks, .int b tb, .int 1 (s.toks + 1)] }) S.fresh) (.rng (.inr (.head _))))
theorem OpC.range3 {a b c : Int} (hc : c ≠ 0) (hc' : c.natAbs < 2 ^ 20) (h : Q (.rng a b c) σ) : OpC X n σ (.type "range") [.int a, .int b, .int c] Q := fun vs A env h₀ L sc m os cs im fr s Qc Ec F S r q =>
  r.c3 fun u v w r₁ r₂ r₃ => r₁.cInt fun ta => r₂.cInt fun tb => r₃.cInt fun tc => call_range_3 hc (q _ _ _ _ _ _ _ h (S.newIm (S.F.push _) (S.N.push S.F { cls := .type "range", data := .fields #[.int a ta, .int b tb, .int c tc] }) S.fresh) (.rng (.inr (.head _)))) (Or.inl (PyProof.noPylong_small (Nat.lt_trans hc' (by decide))))
theorem OpC.listM {d : V} {ds : List V} (c : LC σ d ds) (hl : ds.length ≤ 1000) (hn : V.nrs ds = true) (h : Q (.ref σ.length) (σ ++ [.list ds])) : OpC X n σ (.type "list") [d] Q := fun vs A env h₀ L sc m os cs im fr s Qc Ec F S r q =>
  r.c1 fun v r => c.on F S r fun a vs k ho hv => list_copyK S.F S.N (isList_of ho) (fun D c' h' F' N' hlt => q _ _ _ _ _ _ _ h (S.newOs F' N' (fresh_of_lt hlt) (.list (n := c') (hv.nr hn))) (.ref (adr_snoc S.st.length))) (hv.szA hl)
theorem OpC.sum {d : V} {ns : List Int} (c : LC σ d (ns.map V.int)) (h : Q (.int ns.sum) σ) : OpC X n σ (.builtin "sum") [d] Q := fun vs A env h₀ L sc m os cs im fr s Qc Ec F S r q =>
  r.c1 fun v r => c.on F S r fun a vs k ho hv => sumK F.hh S.F S.N (isList_of ho) hv.intsAre fun h' tk t' F' N' => q _ _ _ _ _ h' tk h ⟨fun _ e => e, Pre.refl _, F', N', S.nd, S.sep, S.st⟩ (.int _ _)
theorem OpC.abs {i : Int} (h : Q (.int (if i < 0 then -i else i)) σ) : OpC X n σ (.builtin "abs") [.int i] Q := fun vs A env h₀ L sc m os cs im fr s Qc Ec F S r q =>
  r.c1 fun v r => r.cInt fun t => call_abs_int fun u tk => q _ _ _ _ _ s.heap tk h (Post.refl S) (.int _ _)
end

set_option genSizeOf false
set_option genInjectivity false

/-- a function of the text -/
structure Code (X : Cfg) (x : String) (ps : List String) (sc : List (Str × NameKind)) (body : List Stmt) (f : Addr) : Prop where
  ns : nsIn X.K mainGlobals (Str.ofString x) = some (some (.ref f))
  keep : keepIn X.K (.ref f) = true
  fd : ∃ (name : Str) (params : Arguments) (scope : Scope) (dV kV doc pm cdv ct oc : Value) (an od : Option Addr) (osl : Array (Option Value)),
    X.K.lookup f = some ⟨oc, od, .func (fnX name name params body scope [] dV kV doc pm an cdv ct), osl⟩ ∧ codeIn X.K cdv name = true ∧ scope.names = sc ∧ scope.isCoroutine = false ∧ scope.isGenerator = false ∧ scope.kind = .function ∧
    ∀ vs : List Value, vs.length = ps.length → bindArgs (fnX name name params body scope [] dV kV doc pm an cdv ct) ⟨vs, []⟩ = pure ((ps.map Str.ofString).zip vs)

theorem Code.callee {X : Cfg} {x : String} {ps : List String} {sc : List (Str × NameKind)} {body : List Stmt} {f : Addr} (c : Code X x ps sc body f) : Callee X x (.ref f) := .own c.ns c.keep

/-- what is handed out: a local mutable object is frozen -/
inductive Fz (b : Nat) (σ : List O) : V → V → Prop
  | same {d : V} : d.nr = true → Fz b σ d d
  | list {k : Nat} {ds : List V} : b ≤ k → σ[k]? = some (.list ds) → Fz b σ (.ref k) (.list ds)
  | dict {k : Nat} {ds : List (Int × V)} : b ≤ k → σ[k]? = some (.dict ds) → Fz b σ (.ref k) (.dict ds)
  | pair {c d d' : V} : c.nr = true → Fz b σ d d' → Fz b σ (.tup [c, d]) (.tup [c, d'])

section
variable {X : Cfg} {n : Nat} {sc : List (Str × NameKind)} {ρ : Rho} {σ : List O} {Q : V → List O → Prop}

theorem ORs.drop_mem {Hb : Heap} {im : Led} {os : Led} {σ : List O} (h : ORs Hb im os σ) {k b : Nat} {d : O} (hb : b ≤ k) (hk : σ[k]? = some d) : ∃ a o, (adr os)[k]? = some a ∧ (a, o) ∈ os.drop b ∧ OR Hb im a o d := by
  induction h generalizing k b with
  | nil => simp at hk
  | @cons a o e os σ h r ih =>
    cases b with
    | zero =>
      cases k with
      | zero => simp at hk; subst hk; exact ⟨a, o, rfl, .head _, h⟩
      | succ k =>
        obtain ⟨a', o', e1, e2, e3⟩ := ih (k := k) (b := 0) (Nat.zero_le _) (by simpa using hk)
        exact ⟨a', o', by simpa using e1, .tail _ e2, e3⟩
    | succ b =>
      cases k with
      | zero => exact absurd hb (Nat.not_succ_le_zero _)
      | succ k =>
        obtain ⟨a', o', e1, e2, e3⟩ := ih (k := k) (b := b) (Nat.le_of_succ_le_succ hb) (by simpa using hk)
        exact ⟨a', o', by simpa using e1, by simpa using e2, e3⟩
theorem ORs.take {Hb : Heap} {im : Led} {os : Led} {σ : List O} (h : ORs Hb im os σ) (b : Nat) : ORs Hb im (os.take b) (σ.take b) := by
  induction h generalizing b with
  | nil => simp; exact .nil
  | cons h r ih => cases b with
    | zero => exact .nil
    | succ b => exact .cons h (ih b)

theorem Fz.out {Hb : Heap} {im im'' os : Led} {β : List Addr} {σ : List O} {b : Nat} (st : ORs Hb im os σ) (h1 : Sub im im'') (h2 : ∀ p ∈ os.drop b, p ∈ im'') {d d' : V} {v : Value} (z : Fz b σ d d') : VR Hb im (adr os) v d → VR Hb im'' β v d' := by
  induction z generalizing v with
  | same hn => exact fun r => (r.nr (β' := β) hn).mono h1 fun _ _ e => e
  | @list k ds hb hk =>
    intro r
    refine r.cRef fun a' ha => ?_
    obtain ⟨a, o, e1, e2, e3⟩ := st.drop_mem hb hk
    have e : a = a' := Option.some.inj (e1.symm.trans ha)
    subst e
    exact e3.cList (P := fun o => (a, o) ∈ im'' → VR Hb im'' β (.ref a) (.list ds)) (fun vs n hv hm => .list (.inr hm) (hv.mono h1 fun k a e => by cases e)) (h2 _ e2)
  | @dict k ds hb hk =>
    intro r
    refine r.cRef fun a' ha => ?_
    obtain ⟨a, o, e1, e2, e3⟩ := st.drop_mem hb hk
    have e : a = a' := Option.some.inj (e1.symm.trans ha)
    subst e
    obtain ⟨kvs, hd, hl, hv⟩ := e3.cDict
    exact .dict (.inr (h2 _ e2)) hd hl (hv.mono h1 fun k a e => by cases e)
  | @pair c d d' hn z ih =>
    intro r
    refine r.cTup fun a vs n hm hv => ?_
    exact hv.c2 (P := fun vs => Im Hb im (a, tupObj vs n) → VR Hb im'' β (.ref a) (.tup [c, d'])) (fun w x r1 r2 hm => .tup (hm.mono h1) (.cons ((r1.nr (β' := β) hn).mono h1 fun _ _ e => e) (.cons (ih r2) .nil))) hm

theorem lookup_nodup {α : Type} : ∀ {cs : List (Str × α)} {n : Str} {c : α}, (cs.map (·.1)).Nodup → (n, c) ∈ cs → cs.lookup n = some c
  | (n', c') :: cs, n, c, hnd, hm => by
    rw [List.map_cons, List.nodup_cons] at hnd
    rcases List.mem_cons.mp hm with e | hm
    · cases e; simp
    · have hne : n ≠ n' := fun e => hnd.1 (e ▸ List.mem_map.mpr ⟨(n, c), hm, rfl⟩)
      rw [List.lookup_cons, beq_eq_false_iff_ne.mpr hne]
      exact lookup_nodup hnd.2 hm

theorem zip_at {Hb : Heap} {im : Led} {β : List Addr} {ps : List String} : ∀ {vs : List Value} {ds : List V} {x : String} {d : V}, VRs Hb im β vs ds → Lk (ps.zip ds) x d → ∃ v, (Str.ofString x, v) ∈ (ps.map Str.ofString).zip vs ∧ VR Hb im β v d := by
  induction ps with
  | nil => intro vs ds x d r l; rw [List.zip_nil_left] at l; cases l
  | cons p ps ih =>
    intro vs ds x d r l
    cases ds with
    | nil => cases l
    | cons e ds =>
      refine r.cCons fun w ws r rs => ?_
      cases l with
      | here => exact ⟨w, .head _, r⟩
      | there _ l =>
        obtain ⟨v', hm, hr⟩ := ih rs l
        exact ⟨v', .tail _ hm, hr⟩
theorem zip_fst : ∀ (ps : List Str) (vs : List Value), vs.length = ps.length → (ps.zip vs).map (·.1) = ps
  | [], _, _ => by simp
  | p :: ps, [], h => by simp at h
  | p :: ps, v :: vs, h => by
    rw [List.zip_cons_cons, List.map_cons, zip_fst ps vs (by simpa using h)]
theorem nodup_ofString {ps : List String} (h : ps.Nodup) : (ps.map Str.ofString).Nodup := by
  induction ps with
  | nil => simp
  | cons p ps ih =>
    rw [List.nodup_cons] at h
    rw [List.map_cons, List.nodup_cons]
    refine ⟨fun q => ?_, ih h.2⟩
    obtain ⟨y, hy, e⟩ := List.mem_map.mp q
    exact h.1 (ofString_inj e ▸ hy)

/-- the end of a function's body -/
def RetQ (b : Nat) (Q : V → List O → Prop) (f : Fl) (_ρ : Rho) (σ : List O) : Prop := match f with
  | .ret d => ∃ d', Fz b σ d d' ∧ Q d' (σ.take b)
  | .next => Q .none (σ.take b)
  | _ => False

theorem backW {h₀ g : Heap} {L L' : Addr} {m m' : Str → Option Value} {os cs im fr os' cs' im' : Led} {σ' : List O} {h h' : Heap}
    (S : Sim X h₀ L m os cs im fr σ h) (S' : Sim X g L' m' os' cs' im' (cs ++ fr) σ' h') (hs : Sub im im') (hp : Pre (adr os) (adr os')) (Fn : Fr h₀ L h' m)
    (Nn : News h₀ L h' (os' ++ (cs' ++ (im' ++ (cs ++ fr))))) :
    Post X h₀ L m os cs im fr (os'.take os.length) (os'.drop os.length ++ im') (σ'.take os.length) h' := by
  have whole : ∀ p, p ∈ os'.take os.length ++ (cs ++ ((os'.drop os.length ++ im') ++ fr)) → p ∈ os' ++ (cs' ++ (im' ++ (cs ++ fr))) := fun p hp => by
    rcases led_mem.mp hp with hp | hp | hp | hp
    · exact led_mem.mpr (.inl (List.mem_of_mem_take hp))
    · exact led_mem.mpr (.inr (.inr (.inr (List.mem_append.mpr (.inl hp)))))
    · rcases List.mem_append.mp hp with hp | hp
      · exact led_mem.mpr (.inl (List.mem_of_mem_drop hp))
      · exact led_mem.mpr (.inr (.inr (.inl hp)))
    · exact led_mem.mpr (.inr (.inr (.inr (List.mem_append.mpr (.inr hp)))))
  have nd := S'.nd
  have ndo : (adr (os'.take os.length) ++ adr (os'.drop os.length)).Nodup := by
    have : adr (os' ++ (cs' ++ (cs ++ fr))) = adr os' ++ adr (cs' ++ (cs ++ fr)) := by simp [adr]
    rw [this] at nd
    have h1 := (List.nodup_append.mp nd).1
    have e : adr (os'.take os.length) ++ adr (os'.drop os.length) = adr os' := by simp [adr, ← List.map_append]
    rw [e]; exact h1
  refine ⟨fun p hp => List.mem_append.mpr (.inr (hs p hp)), fun k a e => ?_, Fn, fun p hp => Nn p (whole p hp), ?_, fun p hp q hq => ?_, (S'.st.take _).mono fun p hp => List.mem_append.mpr (.inr hp)⟩
  · have hk : k < os.length := by
      have := (List.getElem?_eq_some_iff.mp e).1
      simpa [adr] using this
    have e2 := hp k a e
    have : adr (os'.take os.length) = (adr os').take os.length := by simp [adr, List.map_take]
    rw [this, List.getElem?_take_of_lt hk]
    exact e2
  · refine List.Sublist.nodup ?_ nd
    refine List.Sublist.map _ (List.Sublist.append (List.take_sublist _ _) ?_)
    exact List.sublist_append_right _ _
  · rcases List.mem_append.mp hq with hq | hq
    · rcases List.mem_append.mp hp with hp | hp
      · intro e
        exact (List.nodup_append.mp ndo).2.2 p.1 (List.mem_map.mpr ⟨p, hp, rfl⟩) q.1 (List.mem_map.mpr ⟨q, hq, rfl⟩) e
      · have : adr (os' ++ (cs' ++ (cs ++ fr))) = adr os' ++ adr (cs' ++ (cs ++ fr)) := by simp [adr]
        rw [this] at nd
        intro e
        exact (List.nodup_append.mp nd).2.2 q.1 (List.mem_map.mpr ⟨q, List.mem_of_mem_drop hq, rfl⟩) p.1 (List.mem_map.mpr ⟨p, List.mem_append.mpr (.inr hp), rfl⟩) e.symm
    · refine S'.sep p ?_ q hq
      rcases List.mem_append.mp hp with hp | hp
      · exact led_mem'.mpr (.inl (List.mem_of_mem_take hp))
      · exact led_mem'.mpr (.inr (.inr hp))

theorem backR {h₀ g : Heap} {L L' : Addr} {m m' : Str → Option Value} {os cs im fr os' cs' im' : Led} {σ' : List O} {h h' : Heap}
    (S : Sim X h₀ L m os cs im fr σ h) (S' : Sim X g L' m' os' cs' im' (os ++ (cs ++ fr)) σ' h') (hs : Sub im im') (Fn : Fr h₀ L h' m)
    (Nn : News h₀ L h' (os' ++ (cs' ++ (im' ++ (os ++ (cs ++ fr)))))) :
    Post X h₀ L m os cs im fr os (os' ++ im') σ h' := by
  have nd := S'.nd
  refine ⟨fun p hp => List.mem_append.mpr (.inr (hs p hp)), Pre.refl _, Fn, fun p hp => Nn p ?_, S.nd, fun p hp q hq => ?_, S.st.mono fun p hp => List.mem_append.mpr (.inr (hs p hp))⟩
  · rcases led_mem.mp hp with hp | hp | hp | hp
    · exact led_mem.mpr (.inr (.inr (.inr (led_mem'.mpr (.inl hp)))))
    · exact led_mem.mpr (.inr (.inr (.inr (led_mem'.mpr (.inr (.inl hp))))))
    · rcases List.mem_append.mp hp with hp | hp
      · exact led_mem.mpr (.inl hp)
      · exact led_mem.mpr (.inr (.inr (.inl hp)))
    · exact led_mem.mpr (.inr (.inr (.inr (led_mem'.mpr (.inr (.inr hp))))))
  · rcases List.mem_append.mp hq with hq | hq
    · have : adr (os' ++ (cs' ++ (os ++ (cs ++ fr)))) = adr os' ++ adr (cs' ++ (os ++ (cs ++ fr))) := by simp [adr]
      rw [this] at nd
      intro e
      exact (List.nodup_append.mp nd).2.2 q.1 (List.mem_map.mpr ⟨q, hq, rfl⟩) p.1 (List.mem_map.mpr ⟨p, List.mem_append.mpr (.inr hp), rfl⟩) e.symm
    · exact S'.sep p (led_mem'.mpr (.inr (.inr hp))) q hq

theorem noCells {env : Env} (h0 : env.cells = []) (hc : ∀ y ∈ env.scope.names, y.2 ≠ .cell) : CellsOk env [] := ⟨by rw [h0]; rfl, (fun _ h => nomatch h), fun x hx => by
  exfalso
  have key : ∀ {l : List (Str × NameKind)}, (∀ y ∈ l, y.2 ≠ .cell) → l.lookup x = some .cell → False := by
    intro l
    induction l with
    | nil => intro _ h; simp at h
    | cons q l ih =>
      intro hl h
      obtain ⟨z, d⟩ := q
      rw [List.lookup_cons] at h
      cases hb : x == z with
      | true => rw [hb] at h; exact hl _ (.head _) (Option.some.inj h)
      | false => rw [hb] at h; exact ih (fun y hy => hl y (.tail _ hy)) h
  exact key hc hx⟩

section
variable {x : String} {ps : List String} {fsc : List (Str × NameKind)} {body : List Stmt} {f : Addr} {args : List V}

theorem deeper_units (A : Around) (env : Env) : (A.deeper env).units = A.units + 3 := rfl
theorem deeper_depth (A : Around) (env : Env) : (A.deeper env).depth = A.depth + 1 := rfl

/-- a call, all mutable objects handed along -/
theorem funW (c : Code X x ps fsc body f) (hcell : ∀ y ∈ fsc, y.2 ≠ .cell) (hloc : ∀ p ∈ ps, fsc.lookup (Str.ofString p) = some .local) (hnd : ps.Nodup) (hlen : args.length = ps.length)
    (h : AXs X n fsc (ps.zip args) σ body (RetQ σ.length Q)) : OpC X (n + 1) σ (.ref f) args Q :=
  fun vs A env h₀ L sc m os cs im fr s Qc Ec F S r q => by
    obtain ⟨fe, outer, A₀, base, hA, hf, hke, B⟩ := F.stk
    obtain ⟨name, params, scope, dV, kV, doc, pm, cdv, ct, oc, an, od, osl, ho, hcd, hsc, hco, hgen, hk, hbind⟩ := c.fd
    subst hsc
    have hvl : vs.length = ps.length := by rw [r.length, hlen]
    have hb := F.hb S.F
    refine wpAny_call (callX_plain (cl := []) B S.F S.N (X.top.nolimit.keeps F.base) hA hf hke (hb _ _ (X.inK _ _ ho)) rfl (codeRec_of (X.inK.keeps hb) hcd) (by have := F.depth; show A.depth < 1000; omega) (BindsTo.of_eq (hbind vs hvl)) ?_ ?_ hcell hco hgen hk)
    · intro y hy
      have hy' := List.of_mem_zip hy
      obtain ⟨p, hp, e⟩ := List.mem_map.mp hy'.1
      rw [← e]; exact hloc p hp
    · intro g L' h₁ FG F' N' B' st hlt
      have Fx' : Fx X n (A.deeper (envX name scope L' f cdv [])) (envX name scope L' f cdv []) g L' scope.names := by
        refine ⟨F.hh, ⟨_, fe :: outer, A, base, Around.frames_deeper hA, rfl, hk, B'⟩, hk, rfl, rfl, rfl, rfl, ?_, ?_, fun b o e => st b o (F.base b o e), Nat.lt_trans F.low (Nat.lt_of_le_of_lt FG.above FG.ns.lt)⟩
        · have := F.depth; rw [deeper_depth]; omega
        · have := F.units; rw [deeper_units]; omega
      have S' : Sim X g L' (fun y => ((ps.map Str.ofString).zip vs).reverse.lookup y) os [] im (cs ++ fr) σ h₁ := by
        refine ⟨F', fun p hp => N' p ?_, by simpa using S.nd, fun p hp r hr => S.sep p (by simpa using hp) r hr, S.st⟩
        rcases led_mem.mp hp with hp | hp | hp | hp
        · exact led_mem.mpr (.inl hp)
        · exact nomatch hp
        · exact led_mem.mpr (.inr (.inr (.inl hp)))
        · rcases List.mem_append.mp hp with hp | hp
          · exact led_mem.mpr (.inr (.inl hp))
          · exact led_mem.mpr (.inr (.inr (.inr hp)))
      have R' : LR X (envX name scope L' f cdv []) L' (fun y => ((ps.map Str.ofString).zip vs).reverse.lookup y) os [] im (cs ++ fr) (ps.zip args) := fun y d l => by
        obtain ⟨v, hm, hv⟩ := zip_at r l
        refine ⟨v, hv, .loc ?_ rfl ?_⟩
        · obtain ⟨p, hp, e⟩ := List.mem_map.mp (List.of_mem_zip hm).1
          rw [← e]; exact hloc p hp
        · refine lookup_nodup ?_ (List.mem_reverse.mpr hm)
          rw [List.map_reverse, (List.reverse_perm _).nodup_iff, zip_fst _ _ (by rw [hvl]; simp)]
          exact nodup_ofString hnd
      refine h _ (envX name scope L' f cdv []) g L' _ os [] im (cs ++ fr) { s with heap := h₁, toks := s.toks + ((ps.map Str.ofString).zip vs).length } _ _ Fx' rfl (noCells rfl hcell) S' R' ?_
      intro fl g' ρ₂ σ₂ m₂ os₂ cs₂ im₂ h₂ tk₂ k₂ P₂ R₂ f₂
      have leave : ∀ (v : Value) (d : V), Q d (σ₂.take σ.length) → VR X.Hb (os₂.drop os.length ++ im₂) (adr (os₂.take os.length)) v d →
          LeaveK h₀ L m g (fun r s' => match r with | .ok (.ret v) => Qc v s' | .ok _ => False | .error e => Ec e s') v { s with heap := h₂, toks := tk₂ } := fun v d hq hv =>
        ⟨L', m₂, _, P₂.sim.F, P₂.sim.N, fun Fn Nn => by
          rw [← S.st.length] at hq
          exact q v d _ _ _ h₂ tk₂ hq (backW S P₂.sim P₂.sub P₂.pre Fn Nn) hv⟩
      cases f₂ with
      | next => exact leave .none .none k₂ .none
      | cont => exact k₂.elim
      | brk => exact k₂.elim
      | ret hv =>
        obtain ⟨d', hz, hq⟩ := k₂
        refine leave _ d' hq (Fz.out P₂.sim.st (fun p hp => List.mem_append.mpr (.inr hp)) (fun p hp => List.mem_append.mpr (.inl hp)) (b := os.length) ?_ hv)
        rw [S.st.length]; exact hz

/-- a call that sees none of the caller's mutable objects -/
theorem funR (c : Code X x ps fsc body f) (hcell : ∀ y ∈ fsc, y.2 ≠ .cell) (hloc : ∀ p ∈ ps, fsc.lookup (Str.ofString p) = some .local) (hnd : ps.Nodup) (hlen : args.length = ps.length) (hnr : V.nrs args = true) {Q : V → Prop}
    (h : AXs X n fsc (ps.zip args) [] body (RetQ 0 fun d _ => Q d)) {Q' : V → List O → Prop} (hQ : ∀ d, Q d → Q' d σ) : OpC X (n + 1) σ (.ref f) args Q' :=
  fun vs A env h₀ L sc m os cs im fr s Qc Ec F S r q => by
    obtain ⟨fe, outer, A₀, base, hA, hf, hke, B⟩ := F.stk
    obtain ⟨name, params, scope, dV, kV, doc, pm, cdv, ct, oc, an, od, osl, ho, hcd, hsc, hco, hgen, hk, hbind⟩ := c.fd
    subst hsc
    have hvl : vs.length = ps.length := by rw [r.length, hlen]
    have hb := F.hb S.F
    refine wpAny_call (callX_plain (cl := []) B S.F S.N (X.top.nolimit.keeps F.base) hA hf hke (hb _ _ (X.inK _ _ ho)) rfl (codeRec_of (X.inK.keeps hb) hcd) (by have := F.depth; show A.depth < 1000; omega) (BindsTo.of_eq (hbind vs hvl)) ?_ ?_ hcell hco hgen hk)
    · intro y hy
      have hy' := List.of_mem_zip hy
      obtain ⟨p, hp, e⟩ := List.mem_map.mp hy'.1
      rw [← e]; exact hloc p hp
    · intro g L' h₁ FG F' N' B' st hlt
      have Fx' : Fx X n (A.deeper (envX name scope L' f cdv [])) (envX name scope L' f cdv []) g L' scope.names := by
        refine ⟨F.hh, ⟨_, fe :: outer, A, base, Around.frames_deeper hA, rfl, hk, B'⟩, hk, rfl, rfl, rfl, rfl, ?_, ?_, fun b o e => st b o (F.base b o e), Nat.lt_trans F.low (Nat.lt_of_le_of_lt FG.above FG.ns.lt)⟩
        · have := F.depth; rw [deeper_depth]; omega
        · have := F.units; rw [deeper_units]; omega
      have S' : Sim X g L' (fun y => ((ps.map Str.ofString).zip vs).reverse.lookup y) [] [] im (os ++ (cs ++ fr)) [] h₁ := by
        refine ⟨F', fun p hp => N' p ?_, by simpa using S.nd, fun p hp r hr => S.sep p (by simpa using hp) r hr, .nil⟩
        rcases led_mem.mp hp with hp | hp | hp | hp
        · exact nomatch hp
        · exact nomatch hp
        · exact led_mem.mpr (.inr (.inr (.inl hp)))
        · rcases led_mem'.mp hp with hp | hp | hp
          · exact led_mem.mpr (.inl hp)
          · exact led_mem.mpr (.inr (.inl hp))
          · exact led_mem.mpr (.inr (.inr (.inr hp)))
      have R' : LR X (envX name scope L' f cdv []) L' (fun y => ((ps.map Str.ofString).zip vs).reverse.lookup y) [] [] im (os ++ (cs ++ fr)) (ps.zip args) := fun y d l => by
        obtain ⟨v, hm, hv⟩ := zip_at (r.nr (β' := []) hnr) l
        refine ⟨v, hv, .loc ?_ rfl ?_⟩
        · obtain ⟨p, hp, e⟩ := List.mem_map.mp (List.of_mem_zip hm).1
          rw [← e]; exact hloc p hp
        · refine lookup_nodup ?_ (List.mem_reverse.mpr hm)
          rw [List.map_reverse, (List.reverse_perm _).nodup_iff, zip_fst _ _ (by rw [hvl]; simp)]
          exact nodup_ofString hnd
      refine h _ (envX name scope L' f cdv []) g L' _ [] [] im (os ++ (cs ++ fr)) { s with heap := h₁, toks := s.toks + ((ps.map Str.ofString).zip vs).length } _ _ Fx' rfl (noCells rfl hcell) S' R' ?_
      intro fl g' ρ₂ σ₂ m₂ os₂ cs₂ im₂ h₂ tk₂ k₂ P₂ R₂ f₂
      have leave : ∀ (v : Value) (d : V), Q d → VR X.Hb (os₂ ++ im₂) (adr os) v d →
          LeaveK h₀ L m g (fun r s' => match r with | .ok (.ret v) => Qc v s' | .ok _ => False | .error e => Ec e s') v { s with heap := h₂, toks := tk₂ } := fun v d hq hv =>
        ⟨L', m₂, _, P₂.sim.F, P₂.sim.N, fun Fn Nn => q v d _ _ _ h₂ tk₂ (hQ d hq) (backR S P₂.sim P₂.sub Fn Nn) hv⟩
      cases f₂ with
      | next => exact leave .none .none k₂ .none
      | cont => exact k₂.elim
      | brk => exact k₂.elim
      | ret hv =>
        obtain ⟨d', hz, hq⟩ := k₂
        exact leave _ d' hq (Fz.out P₂.sim.st (fun p hp => List.mem_append.mpr (.inr hp)) (fun p hp => List.mem_append.mpr (.inl hp)) (b := 0) hz hv)

/-! functions with cells -/
theorem bindL_other {k : Str → Option NameKind} {x : Str} : ∀ {binds : List (Str × Value)} {m : Str → Option Value}, (∀ p ∈ binds, p.1 ≠ x) → bindL k binds m x = m x
  | [], m, _ => rfl
  | (n, v) :: r, m, h => by
    unfold bindL
    rw [bindL_other fun p hp => h p (.tail _ hp)]
    split
    · have := h (n, v) (.head _)
      simp [Ne.symm this]
    · rfl
theorem bindC_other {k : Str → Option NameKind} {x : Str} : ∀ {binds : List (Str × Value)} {m : Str → Option Value}, (∀ p ∈ binds, p.1 ≠ x) → bindC k binds m x = m x
  | [], m, _ => rfl
  | (n, v) :: r, m, h => by
    unfold bindC
    rw [bindC_other fun p hp => h p (.tail _ hp)]
    split
    · rfl
    · have := h (n, v) (.head _)
      simp [Ne.symm this]
theorem bindL_at {k : Str → Option NameKind} {x : Str} {v : Value} (hk : k x = some .local) : ∀ {binds : List (Str × Value)} {m : Str → Option Value}, (binds.map (·.1)).Nodup → (x, v) ∈ binds → bindL k binds m x = some v
  | (n, w) :: r, m, hnd, hm => by
    rw [List.map_cons, List.nodup_cons] at hnd
    unfold bindL
    rcases List.mem_cons.mp hm with e | hm
    · cases e
      rw [bindL_other (x := x) fun p hp e => hnd.1 (List.mem_map.mpr ⟨p, hp, e⟩), if_pos hk]
      simp
    · exact bindL_at hk hnd.2 hm
theorem bindC_at {k : Str → Option NameKind} {x : Str} {v : Value} (hk : k x = some .cell) : ∀ {binds : List (Str × Value)} {m : Str → Option Value}, (binds.map (·.1)).Nodup → (x, v) ∈ binds → bindC k binds m x = some v
  | (n, w) :: r, m, hnd, hm => by
    rw [List.map_cons, List.nodup_cons] at hnd
    unfold bindC
    rcases List.mem_cons.mp hm with e | hm
    · cases e
      rw [bindC_other (x := x) fun p hp e => hnd.1 (List.mem_map.mpr ⟨p, hp, e⟩), if_neg (by rw [hk]; simp)]
      simp
    · exact bindC_at hk hnd.2 hm
theorem cellsFrom_addr : ∀ (names : List (Str × NameKind)) (k : Nat) (acc : List (Str × Addr)), (acc.map (·.2)).Nodup → (∀ a ∈ acc.map (·.2), @LT.lt Nat _ a k) →
    ((cellsFrom k names acc).map (·.2)).Nodup ∧ ∀ a ∈ (cellsFrom k names acc).map (·.2), a ∈ acc.map (·.2) ∨ @LE.le Nat _ k a
  | [], k, acc, h1, h2 => ⟨h1, fun a ha => .inl ha⟩
  | (n, kd) :: r, k, acc, h1, h2 => by
    unfold cellsFrom
    split
    · obtain ⟨a1, a2⟩ := cellsFrom_addr r (k + 1) ((n, k) :: acc) (by
        rw [List.map_cons, List.nodup_cons]
        exact ⟨fun q => Nat.lt_irrefl _ (h2 _ q), h1⟩) (fun a ha => by
        rcases List.mem_cons.mp ha with rfl | ha
        · exact Nat.lt_succ_self _
        · exact Nat.lt_succ_of_lt (h2 a ha))
      refine ⟨a1, fun a ha => ?_⟩
      rcases a2 a ha with h | h
      · rcases List.mem_cons.mp h with rfl | h
        · exact .inr (Nat.le_refl _)
        · exact .inl h
      · exact .inr (Nat.le_of_succ_le h)
    · exact cellsFrom_addr r k acc h1 h2
theorem ca_adr {cm : Str → Option Value} {cl : List (Str × Addr)} {cells : Led} (h : CellsAre cm cl cells) : cells.map (·.1) = cl.map (·.2) := by
  induction h with
  | nil => rfl
  | cons _ _ ih => rw [List.map_cons, List.map_cons, ih]
theorem ca_cell {cm : Str → Option Value} {cl : List (Str × Addr)} {cells : Led} (h : CellsAre cm cl cells) : ∀ p ∈ cells, ∃ v, p.2.data = .cell v := by
  induction h with
  | nil => intro p hp; exact nomatch hp
  | cons h _ ih => intro p hp; rcases List.mem_cons.mp hp with rfl | hp; exact ⟨_, h⟩; exact ih p hp
theorem ca_find {cm : Str → Option Value} {cl : List (Str × Addr)} {cells : Led} (h : CellsAre cm cl cells) {x : Str} {c : Addr} (hl : cl.lookup x = some c) : ∃ o, (c, o) ∈ cells ∧ o.data = .cell (cm x) := by
  induction h with
  | nil => simp at hl
  | @cons n' c' o cs cells hd _ ih =>
    rw [List.lookup_cons] at hl
    cases hb : x == n' with
    | true => rw [hb] at hl; cases hl; rw [eq_of_beq hb]; exact ⟨o, .head _, hd⟩
    | false => rw [hb] at hl; obtain ⟨o', h1, h2⟩ := ih hl; exact ⟨o', .tail _ h1, h2⟩
theorem cellsFrom_has {x : Str} {names : List (Str × NameKind)} {k : Nat} (h : names.lookup x = some .cell) : ∃ c, (cellsFrom k names []).lookup x = some c :=
  Option.isSome_iff_exists.mp (cellsFrom_some names k [] (.inl h))

/-- what a frame with cells starts from -/
theorem cells_start {name : Str} {scope : Scope} {L' : Addr} {f : Addr} {cdv : Value} {cm : Str → Option Value} {cells : Led} (Y : CellsAre cm (cellsFrom (L' + 1) scope.names []) cells) : CellsOk (envOfC name scope L' f cdv) cells :=
  ⟨ca_adr Y, ca_cell Y, fun x hx => cellsFrom_has hx⟩

theorem cells_nodup {scope : Scope} {L' : Addr} {cm : Str → Option Value} {cells news : Led} (Y : CellsAre cm (cellsFrom (L' + 1) scope.names []) cells) (hlt : ∀ p ∈ news, p.1 < L') (hn : (adr news).Nodup) : (adr (cells ++ news)).Nodup ∧ ∀ p ∈ cells, ∀ q : Addr × Obj, q.1 < L' → p.1 ≠ q.1 := by
  obtain ⟨a1, a2⟩ := cellsFrom_addr scope.names (L' + 1) [] (by simp) (by simp)
  have big : ∀ p ∈ cells, @LT.lt Nat _ L' p.1 := fun p hp => by
    have : p.1 ∈ cells.map (·.1) := List.mem_map.mpr ⟨p, hp, rfl⟩
    rw [ca_adr Y] at this
    rcases a2 _ this with h | h
    · simp at h
    · exact h
  refine ⟨?_, fun p hp q hq e => Nat.lt_irrefl L' (Nat.lt_trans (big p hp) (e ▸ hq))⟩
  rw [show adr (cells ++ news) = cells.map (·.1) ++ adr news by simp [adr], ca_adr Y]
  refine List.nodup_append.mpr ⟨a1, hn, fun a ha b hb e => ?_⟩
  rw [← ca_adr Y] at ha
  obtain ⟨p, hp, rfl⟩ := List.mem_map.mp ha
  obtain ⟨q, hq, rfl⟩ := List.mem_map.mp hb
  have h1 := big p hp
  have h2 := hlt q hq
  rw [e] at h1
  exact Nat.lt_irrefl L' (Nat.lt_trans h1 h2)

/-- a call of a function with cells that sees none of the caller's mutable objects -/
theorem funRC (c : Code X x ps fsc body f) (hloc : ∀ p ∈ ps, fsc.lookup (Str.ofString p) = some .local ∨ fsc.lookup (Str.ofString p) = some .cell) (hcn : ((cellsFrom 0 fsc []).map (·.1)).Nodup) (hnd : ps.Nodup) (hlen : args.length = ps.length) (hnr : V.nrs args = true) {Q : V → Prop}
    (h : AXs X n fsc (ps.zip args) [] body (RetQ 0 fun d _ => Q d)) {Q' : V → List O → Prop} (hQ : ∀ d, Q d → Q' d σ) : OpC X (n + 1) σ (.ref f) args Q' :=
  fun vs A env h₀ L sc m os cs im fr s Qc Ec F S r q => by
    obtain ⟨fe, outer, A₀, base, hA, hf, hke, B⟩ := F.stk
    obtain ⟨name, params, scope, dV, kV, doc, pm, cdv, ct, oc, an, od, osl, ho, hcd, hsc, hco, hgen, hk, hbind⟩ := c.fd
    subst hsc
    have hvl : vs.length = ps.length := by rw [r.length, hlen]
    have hb := F.hb S.F
    refine wpAny_call (callX_cells B S.F S.N (X.top.nolimit.keeps F.base) hA hf hke (hb _ _ (X.inK _ _ ho)) rfl (codeRec_of (X.inK.keeps hb) hcd) (by have := F.depth; show A.depth < 1000; omega) (BindsTo.of_eq (hbind vs hvl)) ?_ hcn ?_ hco hgen hk)
    · intro k y hy
      have hy' := List.of_mem_zip hy
      obtain ⟨p, hp, e⟩ := List.mem_map.mp hy'.1
      rw [← e]
      exact (hloc p hp).imp id fun h => ⟨h, by obtain ⟨c, hc⟩ := cellsFrom_has (k := k) h; rw [hc]; rfl⟩
    · intro g L' h₁ tk cells FG F' N' Y B' st hlt
      have Fx' : Fx X n (A.deeper (envOfC name scope L' f cdv)) (envOfC name scope L' f cdv) g L' scope.names := by
        refine ⟨F.hh, ⟨_, fe :: outer, A, base, Around.frames_deeper hA, rfl, hk, B'⟩, hk, rfl, rfl, rfl, rfl, ?_, ?_, fun b o e => st b o (F.base b o e), Nat.lt_trans F.low (Nat.lt_of_le_of_lt FG.above FG.ns.lt)⟩
        · have := F.depth; rw [deeper_depth]; omega
        · have := F.units; rw [deeper_units]; omega
      have hlt' : ∀ p ∈ os ++ (cs ++ fr), p.1 < L' := fun p hp => hlt p (by
        rcases led_mem'.mp hp with hp | hp | hp
        · exact led_mem.mpr (.inl hp)
        · exact led_mem.mpr (.inr (.inl hp))
        · exact led_mem.mpr (.inr (.inr (.inr hp))))
      obtain ⟨c1, c2⟩ := cells_nodup Y hlt' S.nd
      have S' : Sim X g L' (bindL (envOfC name scope L' f cdv).kindOf ((ps.map Str.ofString).zip vs) fun _ => none) [] cells im (os ++ (cs ++ fr)) [] h₁ := by
        refine ⟨F', fun p hp => N' p ?_, by simpa using c1, fun p hp r hr => ?_, .nil⟩
        · rcases led_mem.mp hp with hp | hp | hp | hp
          · exact nomatch hp
          · exact List.mem_append.mpr (.inl hp)
          · exact List.mem_append.mpr (.inr (led_mem.mpr (.inr (.inr (.inl hp)))))
          · rcases led_mem'.mp hp with hp | hp | hp
            · exact List.mem_append.mpr (.inr (led_mem.mpr (.inl hp)))
            · exact List.mem_append.mpr (.inr (led_mem.mpr (.inr (.inl hp))))
            · exact List.mem_append.mpr (.inr (led_mem.mpr (.inr (.inr (.inr hp)))))
        · rcases led_mem'.mp hp with hp | hp | hp
          · exact nomatch hp
          · exact c2 p hp r (hlt r (led_mem.mpr (.inr (.inr (.inl hr)))))
          · exact S.sep p hp r hr
      have R' : LR X (envOfC name scope L' f cdv) L' (bindL (envOfC name scope L' f cdv).kindOf ((ps.map Str.ofString).zip vs) fun _ => none) [] cells im (os ++ (cs ++ fr)) (ps.zip args) := fun y d l => by
        obtain ⟨v, hm, hv⟩ := zip_at (r.nr (β' := []) hnr) l
        refine ⟨v, hv, ?_⟩
        have ndn : (((ps.map Str.ofString).zip vs).map (·.1)).Nodup := by
          rw [zip_fst _ _ (by rw [hvl]; simp)]; exact nodup_ofString hnd
        obtain ⟨p, hp, e⟩ := List.mem_map.mp (List.of_mem_zip hm).1
        rcases hloc p hp with hl | hl
        · rw [e] at hl
          exact .loc hl rfl (bindL_at (by exact hl) ndn hm)
        · rw [e] at hl
          obtain ⟨c, hc⟩ := cellsFrom_has (k := L' + 1) hl
          obtain ⟨o, h1, h2⟩ := ca_find Y hc
          refine .cell (c := c) (o := o) hl hc (List.mem_append.mpr (.inl h1)) (h2.trans ?_)
          rw [bindC_at (by exact hl) ndn hm]
      refine h _ (envOfC name scope L' f cdv) g L' _ [] cells im (os ++ (cs ++ fr)) { s with heap := h₁, toks := tk } _ _ Fx' rfl (cells_start Y) S' R' ?_
      intro fl g' ρ₂ σ₂ m₂ os₂ cs₂ im₂ h₂ tk₂ k₂ P₂ R₂ f₂
      have leave : ∀ (v : Value) (d : V), Q d → VR X.Hb (os₂ ++ im₂) (adr os) v d →
          LeaveK h₀ L m g (fun r s' => match r with | .ok (.ret v) => Qc v s' | .ok _ => False | .error e => Ec e s') v { s with heap := h₂, toks := tk₂ } := fun v d hq hv =>
        ⟨L', m₂, _, P₂.sim.F, P₂.sim.N, fun Fn Nn => q v d _ _ _ h₂ tk₂ (hQ d hq) (backR S P₂.sim P₂.sub Fn Nn) hv⟩
      cases f₂ with
      | next => exact leave .none .none k₂ .none
      | cont => exact k₂.elim
      | brk => exact k₂.elim
      | ret hv =>
        obtain ⟨d', hz, hq⟩ := k₂
        exact leave _ d' hq (Fz.out P₂.sim.st (fun p hp => List.mem_append.mpr (.inr hp)) (fun p hp => List.mem_append.mpr (.inl hp)) (b := 0) hz hv)
end
end

set_option genSizeOf false
set_option genInjectivity false

/-! list comprehensions -/
def clo (cells : List (Str × Addr)) : List (Str × NameKind) → List (Str × Addr) → Option (List (Str × Addr))
  | [], acc => some acc
  | (n, k) :: r, acc => if k == .free then (match cells.lookup n with | some c => clo cells r ((n, c) :: acc) | none => none) else clo cells r acc

theorem closureFor_clo {scope : Scope} {env : Env} {cl : List (Str × Addr)} (h : clo env.cells scope.names [] = some cl) : closureFor scope env = pure cl := by
  have key : ∀ (names : List (Str × NameKind)) (acc : List (Str × Addr)), clo env.cells names acc = some cl →
      (forIn names acc fun (x : Str × NameKind) (r : List (Str × Addr)) => (if x.2 == .free then (do let c ← cellOf env x.1; pure (.yield ((x.1, c) :: r))) else pure (.yield r) : Sem (ForInStep (List (Str × Addr))))) = pure cl := by
    intro names
    induction names with
    | nil => intro acc h; simp only [clo] at h; cases h; rfl
    | cons p names ih =>
      intro acc h
      obtain ⟨n, k⟩ := p
      rw [List.forIn_cons]
      simp only [clo] at h
      by_cases hk : (k == NameKind.free) = true
      · rw [if_pos hk] at h
        cases hc : env.cells.lookup n with
        | none => rw [hc] at h; cases h
        | some c =>
          rw [hc] at h
          simp only [hk, if_true, cellOf, hc, pure_bind]
          exact ih _ h
      · rw [if_neg hk] at h
        simp only [hk, pure_bind]
        exact ih _ h
  have := key scope.names [] h
  unfold closureFor
  simp only [bind_pure]
  exact this

theorem clo_some {cells : List (Str × Addr)} : ∀ {names : List (Str × NameKind)} {acc : List (Str × Addr)}, (∀ n, (n, NameKind.free) ∈ names → ∃ c, cells.lookup n = some c) → ∃ cl, clo cells names acc = some cl
  | [], acc, _ => ⟨acc, rfl⟩
  | (n, k) :: r, acc, h => by
    unfold clo
    by_cases hk : (k == NameKind.free) = true
    · rw [if_pos hk]
      have : k = .free := by simpa using hk
      subst this
      obtain ⟨c, hc⟩ := h n (.head _)
      rw [hc]
      exact clo_some fun n' hm => h n' (.tail _ hm)
    · rw [if_neg hk]
      exact clo_some fun n' hm => h n' (.tail _ hm)

theorem clo_lookup {cells : List (Str × Addr)} {cl : List (Str × Addr)} : ∀ {names : List (Str × NameKind)} {acc : List (Str × Addr)}, clo cells names acc = some cl → (∀ n c, acc.lookup n = some c → cells.lookup n = some c) →
    (∀ n, ((n, NameKind.free) ∈ names ∨ ∃ c, acc.lookup n = some c) → cl.lookup n = cells.lookup n)
  | [], acc, h, ha, n, hn => by
    simp only [clo] at h; cases h
    rcases hn with hn | ⟨c, hc⟩
    · exact nomatch hn
    · rw [hc, ha n c hc]
  | (m, k) :: r, acc, h, ha, n, hn => by
    simp only [clo] at h
    by_cases hk : (k == NameKind.free) = true
    · rw [if_pos hk] at h
      cases hc : cells.lookup m with
      | none => rw [hc] at h; cases h
      | some c =>
        rw [hc] at h
        refine clo_lookup h (fun n' c' e => ?_) n ?_
        · rw [List.lookup_cons] at e
          cases hb : n' == m with
          | true => rw [hb] at e; cases e; rw [eq_of_beq hb]; exact hc
          | false => rw [hb] at e; exact ha _ _ e
        · by_cases hb : n = m
          · subst hb; right; exact ⟨c, by simp⟩
          · rcases hn with hn | ⟨c', hc'⟩
            · rcases List.mem_cons.mp hn with e | hn
              · cases e; exact absurd rfl hb
              · exact .inl hn
            · right; refine ⟨c', ?_⟩
              rw [List.lookup_cons, beq_eq_false_iff_ne.mpr hb]; exact hc'
    · rw [if_neg hk] at h
      refine clo_lookup h ha n ?_
      rcases hn with hn | hn
      · rcases List.mem_cons.mp hn with e | hn
        · cases e; exact absurd rfl hk
        · exact .inl hn
      · exact .inr hn

/-- the block's names as its frame sees them -/
def recell (names : List (Str × NameKind)) : List (Str × NameKind) := names.map fun (n, k) => if k == .free then (n, .cell) else (n, k)
theorem recell_local {names : List (Str × NameKind)} {x : Str} (h : names.lookup x = some .local) : (recell names).lookup x = some .local := by
  induction names with
  | nil => simp at h
  | cons p r ih =>
    obtain ⟨n, k⟩ := p
    unfold recell
    rw [List.map_cons]
    rw [List.lookup_cons] at h
    cases hb : x == n with
    | true =>
      rw [hb] at h; cases h
      show List.lookup x ((if (NameKind.local == NameKind.free) = true then (n, NameKind.cell) else (n, NameKind.local)) :: _) = _
      rw [if_neg (by decide), List.lookup_cons, hb]
    | false =>
      rw [hb] at h
      have e : ∀ kd : NameKind, ((n, kd) : Str × NameKind).1 = n := fun _ => rfl
      show List.lookup x ((if (k == NameKind.free) = true then (n, NameKind.cell) else (n, k)) :: recell r) = _
      split <;> (rw [List.lookup_cons, hb]; exact ih h)
theorem recell_free {names : List (Str × NameKind)} {x : Str} (h : names.lookup x = some .free) : (recell names).lookup x = some .cell := by
  induction names with
  | nil => simp at h
  | cons p r ih =>
    obtain ⟨n, k⟩ := p
    rw [List.lookup_cons] at h
    cases hb : x == n with
    | true =>
      rw [hb] at h; cases h
      show List.lookup x ((if (NameKind.free == NameKind.free) = true then (n, NameKind.cell) else (n, NameKind.free)) :: recell r) = _
      rw [if_pos (by decide), List.lookup_cons, hb]
    | false =>
      rw [hb] at h
      show List.lookup x ((if (k == NameKind.free) = true then (n, NameKind.cell) else (n, k)) :: recell r) = _
      split <;> (rw [List.lookup_cons, hb]; exact ih h)
theorem lookup_mem' {names : List (Str × NameKind)} {x : Str} {k : NameKind} (h : names.lookup x = some k) : (x, k) ∈ names := by
  induction names with
  | nil => simp at h
  | cons p r ih =>
    obtain ⟨n, k'⟩ := p
    rw [List.lookup_cons] at h
    cases hb : x == n with
    | true => rw [hb] at h; cases h; rw [eq_of_beq hb]; exact .head _
    | false => rw [hb] at h; exact .tail _ (ih h)

/-- the block's names: those that it closes over are cells of the frame, and known -/
structure Clos (sc : List (Str × NameKind)) (ρ ρf : Rho) (scope : Scope) (x : String) : Prop where
  kind : scope.kind = .function
  cell : ∀ y ∈ scope.names, y.2 ≠ .cell
  names : ∀ y ∈ scope.names, y.2 = .local → scope.names.lookup y.1 = some .local
  var : scope.names.lookup (Str.ofString x) = some .local
  free : ∀ y, (y, NameKind.free) ∈ scope.names → sc.lookup y = some .cell ∧ ∃ z d, y = Str.ofString z ∧ Lk ρ z d
  known : ∀ y d, Lk ρf y d → Lk ρ y d ∧ scope.names.lookup (Str.ofString y) = some .free

section
variable {X : Cfg} {n : Nat} {sc : List (Str × NameKind)} {ρ ρf : Rho} {σ : List O} {Q : V → List O → Prop} {scope : Scope} {x : String}

theorem relabel_recell {A : Around} {env : Env} {h₀ : Heap} {L : Addr} (F : Fx X n A env h₀ L sc) (c : Clos sc ρ ρf scope x) : (relabel scope env).names = recell scope.names := by
  unfold relabel recell
  refine List.map_congr_left fun p hp => ?_
  obtain ⟨y, k⟩ := p
  by_cases hk : (k == NameKind.free) = true
  · have : k = .free := by simpa using hk
    subst this
    have h1 : env.kindOf y = some .cell := by show env.scope.names.lookup y = _; rw [F.names]; exact (c.free y hp).1
    simp [h1, F.kind]
  · simp [hk]

theorem comp_fx {A : Around} {env : Env} {h₀ : Heap} {L C : Addr} {cl : List (Str × Addr)} (F : Fx X n A env h₀ L sc) (c : Clos sc ρ ρf scope x) : Fx X n A (compEnvC scope cl C env) h₀ L (recell scope.names) :=
  ⟨F.hh, F.stk, c.kind, relabel_recell F c, F.glob, F.blt, F.frame, F.depth, F.units, F.base, F.low⟩

theorem cell_of {A : Around} {env : Env} {h₀ : Heap} {L : Addr} {m : Str → Option Value} {l : Led} {y : Str} {v : Value} (F : Fx X n A env h₀ L sc) (hc : sc.lookup y = some .cell) (a : NameAt env L m l y v) :
    ∃ c o, env.cells.lookup y = some c ∧ (c, o) ∈ l ∧ o.data = .cell (some v) := by
  have kk : env.kindOf y = some .cell := by show env.scope.names.lookup y = _; rw [F.names]; exact hc
  cases a with
  | loc h => rw [kk] at h; cases h
  | comp h => rw [kk] at h; cases h
  | cell _ h1 h2 h3 => exact ⟨_, _, h1, h2, h3⟩
  | free h => rw [kk] at h; cases h

theorem comp_cl {A : Around} {env : Env} {h₀ : Heap} {L : Addr} {m : Str → Option Value} {os cs im fr : Led} (F : Fx X n A env h₀ L sc) (c : Clos sc ρ ρf scope x) (R : LR X env L m os cs im fr ρ) :
    ∃ cl, closureFor scope env = pure cl ∧ ∀ y, (y, NameKind.free) ∈ scope.names → cl.lookup y = env.cells.lookup y := by
  obtain ⟨cl, h⟩ := clo_some (cells := env.cells) (names := scope.names) (acc := []) fun y hy => by
    obtain ⟨h1, z, d, rfl, l⟩ := c.free y hy
    obtain ⟨v, _, at_⟩ := R _ _ l
    obtain ⟨a, _, e, _⟩ := cell_of F h1 at_
    exact ⟨a, e⟩
  exact ⟨cl, closureFor_clo h, fun y hy => clo_lookup h (fun _ _ e => by simp at e) y (.inl hy)⟩

/-- the names within the block -/
theorem comp_lr {A : Around} {env : Env} {h₀ : Heap} {L C : Addr} {m m₂ : Str → Option Value} {os cs im fr : Led} {cl : List (Str × Addr)} {oC : Obj} {v : Value} {d : V} (F : Fx X n A env h₀ L sc) (c : Clos sc ρ ρf scope x) (R : LR X env L m os cs im fr ρ)
    (hcl : ∀ y, (y, NameKind.free) ∈ scope.names → cl.lookup y = env.cells.lookup y) (hC : (C, oC) ∈ cs ++ fr) (ho : NsObj oC m₂) (hx : m₂ (Str.ofString x) = some v) (hv : VR X.Hb im (adr os) v d) :
    LR X (compEnvC scope cl C env) L m os cs im fr ((x, d) :: ρf) := fun y e l => by
  cases l with
  | here =>
    refine ⟨v, hv, .comp ?_ hC ho hx⟩
    show (relabel scope env).names.lookup _ = _
    rw [relabel_recell F c]; exact recell_local c.var
  | there _ l =>
    obtain ⟨l', hf⟩ := c.known _ _ l
    obtain ⟨w, hw, at_⟩ := R _ _ l'
    have hm := lookup_mem' hf
    obtain ⟨a, o, h1, h2, h3⟩ := cell_of F (c.free _ hm).1 at_
    refine ⟨w, hw, .cell (c := a) (o := o) ?_ ?_ h2 h3⟩
    · show (relabel scope env).names.lookup _ = _
      rw [relabel_recell F c]; exact recell_free hf
    · show cl.lookup _ = _
      rw [hcl _ hm]; exact h1

/-- what a comprehension reckons -/
def CompW (X : Cfg) (n : Nat) (sc' : List (Str × NameKind)) (ρf : Rho) (x : String) (elt : Expr) (Q : V → List O → Prop) : List V → List V → List O → Prop
  | [], acc, σ => Q (.list acc) σ
  | d :: ds, acc, σ => AW X n sc' ((x, d) :: ρf) σ elt fun e σ' => CompW X n sc' ρf x elt Q ds (acc ++ [e]) σ'

/-- what a comprehension with a test reckons -/
def CompT (X : Cfg) (n : Nat) (sc' : List (Str × NameKind)) (ρf : Rho) (x : String) (ct elt : Expr) (Q : V → List O → Prop) : List V → List V → List O → Prop
  | [], acc, σ => Q (.list acc) σ
  | d :: ds, acc, σ => AWt X n sc' ((x, d) :: ρf) σ ct fun b σ₁ => if b = true then AW X n sc' ((x, d) :: ρf) σ₁ elt fun e σ' => CompT X n sc' ρf x ct elt Q ds (acc ++ [e]) σ' else CompT X n sc' ρf x ct elt Q ds acc σ₁

/-- what stays known of the ledger between the elements -/
structure Stat (X : Cfg) (os cs im fr os' im' : Led) (σ' : List O) : Prop where
  sub : Sub im im'
  pre : Pre (adr os) (adr os')
  nd : (adr (os' ++ (cs ++ fr))).Nodup
  sep : ∀ p ∈ os' ++ (cs ++ fr), ∀ q ∈ im', p.1 ≠ q.1
  st : ORs X.Hb im' os' σ'

theorem elem_sim {h₀ : Heap} {L I C D : Addr} {m : Str → Option Value} {os cs im fr os' im' : Led} {oI oC oD : Obj} {h : Heap} (T : Stat X os cs im fr os' im' σ) (F : Fr h₀ L h m) (N : News h₀ L h ((I, oI) :: (C, oC) :: (D, oD) :: (os' ++ (cs ++ (im' ++ fr)))))
    (off : Off3 I C D (os' ++ (cs ++ (im' ++ fr)))) (ne : (@Ne Nat I C) ∧ (@Ne Nat I D) ∧ (@Ne Nat C D)) : Sim X h₀ L m os' cs im' ((I, oI) :: (C, oC) :: (D, oD) :: fr) σ h := by
  have om := off.mem
  have out : ∀ p ∈ os' ++ (cs ++ fr), p.1 ≠ I ∧ p.1 ≠ C ∧ p.1 ≠ D := fun p hp => om p (by
    rcases led_mem'.mp hp with hp | hp | hp
    · exact led_mem.mpr (.inl hp)
    · exact led_mem.mpr (.inr (.inl hp))
    · exact led_mem.mpr (.inr (.inr (.inr hp))))
  refine ⟨F, fun p hp => N p ?_, ?_, fun p hp q hq => ?_, T.st⟩
  · rcases led_mem.mp hp with hp | hp | hp | hp
    · exact .tail _ (.tail _ (.tail _ (led_mem.mpr (.inl hp))))
    · exact .tail _ (.tail _ (.tail _ (led_mem.mpr (.inr (.inl hp)))))
    · exact .tail _ (.tail _ (.tail _ (led_mem.mpr (.inr (.inr (.inl hp))))))
    · rcases List.mem_cons.mp hp with rfl | hp
      · exact .head _
      · rcases List.mem_cons.mp hp with rfl | hp
        · exact .tail _ (.head _)
        · rcases List.mem_cons.mp hp with rfl | hp
          · exact .tail _ (.tail _ (.head _))
          · exact .tail _ (.tail _ (.tail _ (led_mem.mpr (.inr (.inr (.inr hp))))))
  · have e : List.Perm (adr (os' ++ (cs ++ ((I, oI) :: (C, oC) :: (D, oD) :: fr)))) (I :: C :: D :: adr (os' ++ (cs ++ fr))) := by
      have e1 : adr (os' ++ (cs ++ ((I, oI) :: (C, oC) :: (D, oD) :: fr))) = (adr os' ++ adr cs) ++ ([I, C, D] ++ adr fr) := by simp [adr]
      have e2 : I :: C :: D :: adr (os' ++ (cs ++ fr)) = [I, C, D] ++ ((adr os' ++ adr cs) ++ adr fr) := by simp [adr]
      rw [e1, e2]
      exact List.perm_append_comm_assoc _ _ _
    refine e.nodup_iff.mpr ?_
    have nI := adr_ne (a := I) fun p hp => (out p hp).1
    have nC := adr_ne (a := C) fun p hp => (out p hp).2.1
    have nD := adr_ne (a := D) fun p hp => (out p hp).2.2
    refine List.nodup_cons.mpr ⟨?_, List.nodup_cons.mpr ⟨?_, List.nodup_cons.mpr ⟨nD, T.nd⟩⟩⟩
    · intro q
      rcases List.mem_cons.mp q with q | q
      · exact ne.1 q
      · rcases List.mem_cons.mp q with q | q
        · exact ne.2.1 q
        · exact nI q
    · intro q
      rcases List.mem_cons.mp q with q | q
      · exact ne.2.2 q
      · exact nC q
  · have imo : ∀ q ∈ im', q.1 ≠ I ∧ q.1 ≠ C ∧ q.1 ≠ D := fun q hq => om q (led_mem.mpr (.inr (.inr (.inl hq))))
    rcases led_mem'.mp hp with hp | hp | hp
    · exact T.sep p (led_mem'.mpr (.inl hp)) q hq
    · exact T.sep p (led_mem'.mpr (.inr (.inl hp))) q hq
    · rcases List.mem_cons.mp hp with rfl | hp
      · exact fun e => (imo q hq).1 e.symm
      · rcases List.mem_cons.mp hp with rfl | hp
        · exact fun e => (imo q hq).2.1 e.symm
        · rcases List.mem_cons.mp hp with rfl | hp
          · exact fun e => (imo q hq).2.2 e.symm
          · exact T.sep p (led_mem'.mpr (.inr (.inr hp))) q hq

/-- back from an element -/
theorem elem_back {h₀ : Heap} {L I C D : Addr} {m : Str → Option Value} {os cs im fr os' im' os₂ im₂ : Led} {oI oC oD : Obj} {h : Heap} {σ₂ : List O} (T : Stat X os cs im fr os' im' σ) (P : Post X h₀ L m os' cs im' ((I, oI) :: (C, oC) :: (D, oD) :: fr) os₂ im₂ σ₂ h) :
    Stat X os cs im fr os₂ im₂ σ₂ ∧ News h₀ L h ((I, oI) :: (C, oC) :: (D, oD) :: (os₂ ++ (cs ++ (im₂ ++ fr)))) ∧ Off3 I C D (os₂ ++ (cs ++ (im₂ ++ fr))) := by
  have nd := P.sim.nd
  have e : List.Perm (adr (os₂ ++ (cs ++ ((I, oI) :: (C, oC) :: (D, oD) :: fr)))) (I :: C :: D :: adr (os₂ ++ (cs ++ fr))) := by
    have e1 : adr (os₂ ++ (cs ++ ((I, oI) :: (C, oC) :: (D, oD) :: fr))) = (adr os₂ ++ adr cs) ++ ([I, C, D] ++ adr fr) := by simp [adr]
    have e2 : I :: C :: D :: adr (os₂ ++ (cs ++ fr)) = [I, C, D] ++ ((adr os₂ ++ adr cs) ++ adr fr) := by simp [adr]
    rw [e1, e2]
    exact List.perm_append_comm_assoc _ _ _
  have nd' := e.nodup_iff.mp nd
  have n1 := List.nodup_cons.mp nd'
  have n2 := List.nodup_cons.mp n1.2
  have n3 := List.nodup_cons.mp n2.2
  have inA : ∀ p ∈ os₂ ++ (cs ++ fr), p.1 ∈ adr (os₂ ++ (cs ++ fr)) := fun p hp => List.mem_map.mpr ⟨p, hp, rfl⟩
  refine ⟨⟨fun p hp => P.sub _ (T.sub _ hp), T.pre.trans P.pre, n3.2, fun p hp q hq => P.sim.sep p ?_ q hq, P.sim.st⟩, fun p hp => P.sim.N p ?_, Off3.of fun p hp => ?_⟩
  · rcases led_mem'.mp hp with hp | hp | hp
    · exact led_mem'.mpr (.inl hp)
    · exact led_mem'.mpr (.inr (.inl hp))
    · exact led_mem'.mpr (.inr (.inr (.tail _ (.tail _ (.tail _ hp)))))
  · rcases List.mem_cons.mp hp with rfl | hp
    · exact led_mem.mpr (.inr (.inr (.inr (.head _))))
    · rcases List.mem_cons.mp hp with rfl | hp
      · exact led_mem.mpr (.inr (.inr (.inr (.tail _ (.head _)))))
      · rcases List.mem_cons.mp hp with rfl | hp
        · exact led_mem.mpr (.inr (.inr (.inr (.tail _ (.tail _ (.head _))))))
        · rcases led_mem.mp hp with hp | hp | hp | hp
          · exact led_mem.mpr (.inl hp)
          · exact led_mem.mpr (.inr (.inl hp))
          · exact led_mem.mpr (.inr (.inr (.inl hp)))
          · exact led_mem.mpr (.inr (.inr (.inr (.tail _ (.tail _ (.tail _ hp))))))
  · have key : p ∈ os₂ ++ (cs ++ fr) → p.1 ≠ I ∧ p.1 ≠ C ∧ p.1 ≠ D := fun hq =>
      ⟨fun q => n1.1 (.tail _ (.tail _ (q ▸ inA p hq))), fun q => n2.1 (.tail _ (q ▸ inA p hq)), fun q => n3.1 (q ▸ inA p hq)⟩
    rcases led_mem.mp hp with hp | hp | hp | hp
    · exact key (led_mem'.mpr (.inl hp))
    · exact key (led_mem'.mpr (.inr (.inl hp)))
    · exact ⟨fun q => P.sim.sep (I, oI) (led_mem'.mpr (.inr (.inr (.head _)))) p hp q.symm, fun q => P.sim.sep (C, oC) (led_mem'.mpr (.inr (.inr (.tail _ (.head _))))) p hp q.symm,
        fun q => P.sim.sep (D, oD) (led_mem'.mpr (.inr (.inr (.tail _ (.tail _ (.head _)))))) p hp q.symm⟩
    · exact key (led_mem'.mpr (.inr (.inr hp)))

theorem off1_mem {D : Addr} : ∀ {l : Led}, Off1 D l → ∀ p ∈ l, p.1 ≠ D
  | [], _, _, h => nomatch h
  | _ :: _, x, p, h => by
    rcases List.mem_cons.mp h with rfl | h
    · exact x.1
    · exact off1_mem x.2 p h

theorem LR.moreFr3 {env : Env} {L : Addr} {m : Str → Option Value} {os cs im fr : Led} (R : LR X env L m os cs im fr ρ) (a b c : Addr × Obj) : LR X env L m os cs im (a :: b :: c :: fr) ρ := ((R.moreFr c).moreFr b).moreFr a

/-- the elements, one by one -/
theorem comp_rest {A : Around} {env : Env} {h₀ : Heap} {L : Addr} {m : Str → Option Value} {os cs im fr : Led} {s : Shared} {elt : Expr} {cl : List (Str × Addr)} {S : Led → Prop} {P : Nat → Value → Prop} {Fin : List Value → Led → Prop} {items : List V}
    (F : Fx X n A env h₀ L sc) (c : Clos sc ρ ρf scope x) (R : LR X env L m os cs im fr ρ) (hcl : ∀ y, (y, NameKind.free) ∈ scope.names → cl.lookup y = env.cells.lookup y)
    (hP : ∀ i v, i < items.length → P i v → ∃ d, items[i]? = some d ∧ VR X.Hb im (adr os) v d) (hS : ∀ os' im', Sub im im' → S (os' ++ (cs ++ (im' ++ fr))))
    (fin : ∀ ys acc os' im' σ', Stat X os cs im fr os' im' σ' → VRs X.Hb im' (adr os') ys acc → Q (.list acc) σ' → ys.length = acc.length → Fin ys (os' ++ (cs ++ (im' ++ fr)))) :
    ∀ (k i : Nat) (ys : List Value) (acc : List V) (os' im' : Led) (σ' : List O), i + k = items.length → Stat X os cs im fr os' im' σ' → VRs X.Hb im' (adr os') ys acc → CompW X n (recell scope.names) ρf x elt Q (items.drop i) acc σ' →
      CompRest X.prog X.w A h₀ L m env elt (Str.ofString x) scope cl s S P Fin k i ys (os' ++ (cs ++ (im' ++ fr))) := by
  intro k
  induction k with
  | zero =>
    intro i ys acc os' im' σ' hi T hv W
    rw [show i = items.length by omega, List.drop_length] at W
    exact CompRest.zero (fin ys acc os' im' σ' T hv W hv.length)
  | succ k ih =>
    intro i ys acc os' im' σ' hi T hv W
    refine CompRest.succ fun v I oI C oC D m₂ h tk E' hPv ho hx F' N' off ne => ?_
    obtain ⟨d, hd, rv⟩ := hP i v (by omega) hPv
    have e : items.drop i = d :: items.drop (i + 1) := by
      obtain ⟨hl, e⟩ := List.getElem?_eq_some_iff.mp hd
      rw [← e]; exact List.drop_eq_getElem_cons hl
    rw [e] at W
    have S' := elem_sim T F' N' off ne
    have R' := comp_lr F c ((R.post T.sub T.pre).moreFr3 (I, oI) (C, oC) (D, lst ys)) hcl (List.mem_append.mpr (.inr (.tail _ (.head _)))) ho hx (rv.mono T.sub T.pre)
    refine W A (compEnvC scope cl C env) h₀ L m os' cs im' ((I, oI) :: (C, oC) :: (D, lst ys) :: fr) { s with heap := h, toks := tk } _ E' (comp_fx F c) S' R' fun y e σ₂ os₂ im₂ h₂ tk₂ k₂ P₂ r₂ => ?_
    obtain ⟨T₂, N₂, off₂⟩ := elem_back T P₂
    exact CompEnd.intro (s₁ := { s with heap := h, toks := tk }) P₂.sim.F N₂ _ (fun _ hp => hp) off₂ (hS _ _ T₂.sub) (ih (i + 1) (ys ++ [y]) (acc ++ [e]) os₂ im₂ σ₂ (by omega) T₂ ((hv.mono P₂.sub P₂.pre).append (.one r₂)) k₂)

theorem Stat.refl {h₀ : Heap} {L : Addr} {m : Str → Option Value} {os cs im fr : Led} {h : Heap} (S : Sim X h₀ L m os cs im fr σ h) : Stat X os cs im fr os im σ := ⟨fun _ e => e, Pre.refl _, S.nd, S.sep, S.st⟩

/-- where a comprehension's elements come from -/
inductive ItC : V → List V → Prop
  | list {ds : List V} : ds.length ≤ 1000 → ItC (.list ds) ds
  | rng {a b : Int} {k : Nat} : Builtin.Range.small a b 1 = true → Builtin.Range.rangeSize a b 1 = (k : Int) → k ≤ 1000 → ItC (.rng a b 1) ((List.range k).map fun i : Nat => V.int (a + (i : Int)))

theorem srcAt_of {A : Around} {env : Env} {h₀ : Heap} {L : Addr} {im : Led} {a : Addr} {vs : List Value} {k : Nat} (F : Fx X n A env h₀ L sc) (hm : Im X.Hb im (a, lstObj vs k)) (os cs im' fr : Led) (hs : Sub im im') : SrcAt h₀ a vs.toArray (os ++ (cs ++ (im' ++ fr))) := by
  rcases hm with e | e
  · exact .inl ⟨_, F.base _ _ e, rfl, k, rfl⟩
  · exact .inr ⟨_, led_mem.mpr (.inr (.inr (.inl (hs _ e)))), rfl, k, rfl⟩

theorem ListComp_ {elt iter : Expr} {px pos : Pos} (c : Clos sc ρ ρf scope x) (h : AW X n sc ρ σ iter fun d σ₁ => ∃ items, ItC d items ∧ CompW X n (recell scope.names) ρf x elt Q items [] σ₁)
    (hs : ∀ env x, foldedSetIterable iter env x = pure x := by intro _ _; rfl) : AW X n sc ρ σ (.ListComp elt [⟨.Name (Str.ofString x) px, iter, [], 0⟩] scope pos) Q :=
  fun A env h₀ L m os cs im fr s Qc Ec F S R q => by
    obtain ⟨cl, hclos, hcl⟩ := comp_cl F c R
    refine ListComp_U S.F hclos c.cell c.kind c.names c.var (h A env h₀ L m os cs im fr s _ Ec F S R fun xv d σ₁ os₁ im₁ h₁ tk₁ k₁ P₁ r₁ => ?_) (hs env)
    obtain ⟨items, it, W⟩ := k₁
    have R₁ := R.post P₁.sub P₁.pre
    have fin : ∀ (s₂ : Shared), (∃ h, s₂ = { s with heap := h, toks := tk₁ }) → ∀ ys acc os' im' σ', Stat X os₁ cs im₁ fr os' im' σ' → VRs X.Hb im' (adr os') ys acc → Q (.list acc) σ' → ys.length = acc.length → FinE h₀ L m s₂ Qc ys (os' ++ (cs ++ (im' ++ fr))) := by
      rintro s₂ ⟨hh, rfl⟩ ys acc os' im' σ' T hv hq _ D h' tk' F' N' o1
      have N'' : News h₀ L h' (os' ++ (cs ++ (im' ++ fr))) := fun p hp => N' p (.tail _ hp)
      have S' : Sim X h₀ L m os' cs im' fr σ' h' := ⟨F', N'', T.nd, T.sep, T.st⟩
      have P₂ := S'.newIm F' N' (off1_mem o1)
      exact q (.ref D) (.list acc) σ' os' ((D, lst ys) :: im') h' tk' hq (P₁.trans ⟨fun p hp => P₂.sub _ (T.sub _ hp), T.pre.trans P₂.pre, P₂.sim⟩) (.list (.inr (.head _)) (hv.mono P₂.sub P₂.pre))
    cases it with
    | list hl =>
      cases r₁ with
      | @list a vs k _ hm hv =>
        refine .inl ⟨a, vs.toArray, _, rfl, F.hh, P₁.sim.F, P₁.sim.N, srcAt_of F hm _ _ _ _ (fun _ e => e), by rw [List.size_toArray, hv.length]; simp only [sizeLine]; omega, ?_⟩
        rintro s₂ ⟨hh, rfl⟩
        have := comp_rest (s := { s with heap := hh, toks := tk₁ }) (elt := elt) (S := SrcAt h₀ a vs.toArray) (P := fun i v => vs.toArray[i]? = some v) (items := items) F c R₁ hcl (fun i v hi hp => hv.get' (by simpa using hp)) (fun os' im' hs' => srcAt_of F hm _ _ _ _ hs') (fin { s with heap := hh, toks := tk₁ } ⟨_, rfl⟩) items.length 0 [] [] os₁ im₁ σ₁ (by omega) (.refl P₁.sim) .nil W
        have e : vs.toArray.size = items.length := by rw [List.size_toArray, hv.length]
        rw [e]; exact this
    | @rng a b k hsm hsz hk =>
      cases r₁ with
      | rng hm =>
        refine .inr ⟨_, a, b, _, _, _, k, _, rfl, F.hh, P₁.sim.F, P₁.sim.N, P₁.sim.get F hm, hsm, hsz, by simp only [sizeLine]; omega, ?_⟩
        rintro s₂ ⟨hh, rfl⟩
        have := comp_rest (s := { s with heap := hh, toks := tk₁ }) (elt := elt) (S := fun _ => True) (P := fun i v => ∃ t, v = .int (a + (i : Int)) t) F c R₁ hcl (fun i v hi hp => by
          obtain ⟨t, rfl⟩ := hp
          have hi' : i < k := by simpa using hi
          exact ⟨V.int (a + (i : Int)), by simp [hi'], .int _ _⟩) (fun os' im' hs' => trivial) (fin { s with heap := hh, toks := tk₁ } ⟨_, rfl⟩) k 0 [] [] os₁ im₁ σ₁ (by simp) (.refl P₁.sim) .nil W
        exact this

/-- a name is bound to a comprehension's list at once -/
theorem AssignComp_ {elt iter : Expr} {y : String} {px py pos spos : Pos} {Q : Fl → Rho → List O → Prop} (c : Clos sc ρ ρf scope x) (hy : sc.lookup (Str.ofString y) = some .local)
    (h : AW X n sc ρ σ iter fun d σ₁ => ∃ items, ItC d items ∧ CompW X n (recell scope.names) ρf x elt (fun d' σ' => Q .next (rset ρ y d') σ') items [] σ₁)
    (hsw : ∀ env : Env, env.scope.kind = .function → env.scope.names = sc → swapsWith (.ListComp elt [⟨.Name (Str.ofString x) px, iter, [], 0⟩] scope pos) (some (.Name (Str.ofString y) py)) spos.line env = pure true)
    (hs : ∀ env x, foldedSetIterable iter env x = pure x := by intro _ _; rfl) : AX X n sc ρ σ (.Assign [.Name (Str.ofString y) py] (.ListComp elt [⟨.Name (Str.ofString x) px, iter, [], 0⟩] scope pos) spos) Q :=
  fun A env h₀ L m os cs im fr s Qc Ec F el C S R q => by
    obtain ⟨cl, hclos, hcl⟩ := comp_cl F c R
    have kk : ∀ y, env.kindOf y = sc.lookup y := fun y => by show env.scope.names.lookup y = _; rw [F.names]
    refine Assign_ListComp_U S.F el (hsw env F.kind F.names) hclos c.cell c.kind c.names c.var (by rw [kk]; exact hy) (by rw [F.kind]; rfl) (h A env h₀ L m os cs im fr s _ Ec F S R fun xv d σ₁ os₁ im₁ h₁ tk₁ k₁ P₁ r₁ => ?_) (hs env)
    obtain ⟨items, it, W⟩ := k₁
    have R₁ := R.post P₁.sub P₁.pre
    have fin : ∀ (s₂ : Shared), (∃ h, s₂ = { s with heap := h, toks := tk₁ }) → ∀ ys acc os' im' σ', Stat X os₁ cs im₁ fr os' im' σ' → VRs X.Hb im' (adr os') ys acc → Q .next (rset ρ y (.list acc)) σ' → ys.length = acc.length → FinA h₀ L m s₂ (Str.ofString y) Qc ys (os' ++ (cs ++ (im' ++ fr))) := by
      rintro s₂ ⟨hh, rfl⟩ ys acc os' im' σ' T hv hq _ D h' tk' F' N' o1
      have N'' : News h₀ L h' (os' ++ (cs ++ (im' ++ fr))) := fun p hp => N' p (.tail _ hp)
      have S' : Sim X h₀ L (fun z => if z = Str.ofString y then some (.ref D) else m z) os' cs im' fr σ' h' := ⟨F', N'', T.nd, T.sep, T.st⟩
      have P₂ := S'.newIm F' N' (off1_mem o1)
      refine q .next .next (rset ρ y (.list acc)) σ' _ os' cs ((D, lst ys) :: im') h' tk' hq ⟨fun p hp => P₂.sub _ (T.sub _ (P₁.sub _ hp)), P₁.pre.trans T.pre, C, P₂.sim⟩ (fun z e l => ?_) .next
      rcases Lk_set l with ⟨rfl, rfl⟩ | ⟨hne, l⟩
      · exact ⟨.ref D, .list (.inr (.head _)) (hv.mono P₂.sub P₂.pre), .loc (by rw [kk]; exact hy) el (by simp)⟩
      · obtain ⟨w, hw, at_⟩ := R₁ _ _ l
        refine ⟨w, (hw.mono T.sub T.pre).mono P₂.sub P₂.pre, ?_⟩
        have hne' : Str.ofString z ≠ Str.ofString y := fun q => hne (ofString_inj q)
        cases at_ with
        | loc a b c => exact .loc a b (by simp [hne', c])
        | comp a b c d => exact .comp a b c d
        | cell a b c d => exact .cell a b c d
        | free a b c d => exact .free a b c d
    cases it with
    | list hl =>
      cases r₁ with
      | @list a vs k _ hm hv =>
        refine .inl ⟨a, vs.toArray, _, rfl, F.hh, P₁.sim.F, P₁.sim.N, srcAt_of F hm _ _ _ _ (fun _ e => e), by rw [List.size_toArray, hv.length]; simp only [sizeLine]; omega, ?_⟩
        rintro s₂ ⟨hh, rfl⟩
        have := comp_rest (s := { s with heap := hh, toks := tk₁ }) (elt := elt) (Q := fun d' σ' => Q .next (rset ρ y d') σ') (S := SrcAt h₀ a vs.toArray) (P := fun i v => vs.toArray[i]? = some v) (items := items) F c R₁ hcl (fun i v hi hp => hv.get' (by simpa using hp)) (fun os' im' hs' => srcAt_of F hm _ _ _ _ hs') (fin { s with heap := hh, toks := tk₁ } ⟨_, rfl⟩) items.length 0 [] [] os₁ im₁ σ₁ (by omega) (.refl P₁.sim) .nil W
        have e : vs.toArray.size = items.length := by rw [List.size_toArray, hv.length]
        rw [e]; exact this
    | @rng a b k hsm hsz hk =>
      cases r₁ with
      | rng hm =>
        refine .inr ⟨_, a, b, _, _, _, k, _, rfl, F.hh, P₁.sim.F, P₁.sim.N, P₁.sim.get F hm, hsm, hsz, by simp only [sizeLine]; omega, ?_⟩
        rintro s₂ ⟨hh, rfl⟩
        have := comp_rest (s := { s with heap := hh, toks := tk₁ }) (elt := elt) (Q := fun d' σ' => Q .next (rset ρ y d') σ') (S := fun _ => True) (P := fun i v => ∃ t, v = .int (a + (i : Int)) t) F c R₁ hcl (fun i v hi hp => by
          obtain ⟨t, rfl⟩ := hp
          have hi' : i < k := by simpa using hi
          exact ⟨V.int (a + (i : Int)), by simp [hi'], .int _ _⟩) (fun os' im' hs' => trivial) (fin { s with heap := hh, toks := tk₁ } ⟨_, rfl⟩) k 0 [] [] os₁ im₁ σ₁ (by simp) (.refl P₁.sim) .nil W
        exact this

/-- the elements, one by one, with a test -/
theorem comp_restT {A : Around} {env : Env} {h₀ : Heap} {L : Addr} {m : Str → Option Value} {os cs im fr : Led} {s : Shared} {ct elt : Expr} {cl : List (Str × Addr)} {S : Led → Prop} {P : Nat → Value → Prop} {Fin : List Value → Led → Prop} {items : List V}
    (F : Fx X n A env h₀ L sc) (c : Clos sc ρ ρf scope x) (R : LR X env L m os cs im fr ρ) (hcl : ∀ y, (y, NameKind.free) ∈ scope.names → cl.lookup y = env.cells.lookup y)
    (hP : ∀ i v, i < items.length → P i v → ∃ d, items[i]? = some d ∧ VR X.Hb im (adr os) v d) (hS : ∀ os' im', Sub im im' → S (os' ++ (cs ++ (im' ++ fr))))
    (fin : ∀ ys acc os' im' σ', Stat X os cs im fr os' im' σ' → VRs X.Hb im' (adr os') ys acc → Q (.list acc) σ' → ys.length = acc.length → Fin ys (os' ++ (cs ++ (im' ++ fr)))) :
    ∀ (k i : Nat) (ys : List Value) (acc : List V) (os' im' : Led) (σ' : List O), i + k = items.length → Stat X os cs im fr os' im' σ' → VRs X.Hb im' (adr os') ys acc → CompT X n (recell scope.names) ρf x ct elt Q (items.drop i) acc σ' →
      LCt.CompRestT X.prog X.w A h₀ L m env ct elt (Str.ofString x) scope cl s S P Fin k i ys (os' ++ (cs ++ (im' ++ fr))) := by
  intro k
  induction k with
  | zero =>
    intro i ys acc os' im' σ' hi T hv W
    rw [show i = items.length by omega, List.drop_length] at W
    exact LCt.CompRestT.zero (fin ys acc os' im' σ' T hv W hv.length)
  | succ k ih =>
    intro i ys acc os' im' σ' hi T hv W
    refine LCt.CompRestT.succ fun v I oI C oC D m₂ h tk E' hPv ho hx F' N' off ne => ?_
    obtain ⟨d, hd, rv⟩ := hP i v (by omega) hPv
    have e : items.drop i = d :: items.drop (i + 1) := by
      obtain ⟨hl, e⟩ := List.getElem?_eq_some_iff.mp hd
      rw [← e]; exact List.drop_eq_getElem_cons hl
    rw [e] at W
    have S' := elem_sim T F' N' off ne
    have R' := comp_lr F c ((R.post T.sub T.pre).moreFr3 (I, oI) (C, oC) (D, lst ys)) hcl (List.mem_append.mpr (.inr (.tail _ (.head _)))) ho hx (rv.mono T.sub T.pre)
    refine W A (compEnvC scope cl C env) h₀ L m os' cs im' ((I, oI) :: (C, oC) :: (D, lst ys) :: fr) { s with heap := h, toks := tk } _ E' (comp_fx F c) S' R' fun b σ₁ os₁ im₁ h₁ tk₁ k₁ P₁ => ?_
    cases b with
    | true =>
      simp only [if_true] at k₁ ⊢
      refine k₁ A (compEnvC scope cl C env) h₀ L m os₁ cs im₁ ((I, oI) :: (C, oC) :: (D, lst ys) :: fr) { s with heap := h₁, toks := tk₁ } _ E' (comp_fx F c) P₁.sim (R'.post P₁.sub P₁.pre) fun y e σ₂ os₂ im₂ h₂ tk₂ k₂ P₂' r₂ => ?_
      have P₂ := P₁.trans P₂'
      obtain ⟨T₂, N₂, off₂⟩ := elem_back T P₂
      exact CompEnd.intro (s₁ := { s with heap := h, toks := tk }) P₂.sim.F N₂ _ (fun _ hp => hp) off₂ (hS _ _ T₂.sub) (ih (i + 1) (ys ++ [y]) (acc ++ [e]) os₂ im₂ σ₂ (by omega) T₂ ((hv.mono P₂.sub P₂.pre).append (.one r₂)) k₂)
    | false =>
      simp only [Bool.false_eq_true, if_false] at k₁ ⊢
      obtain ⟨T₂, N₂, off₂⟩ := elem_back T P₁
      exact CompEnd.intro (s₁ := { s with heap := h, toks := tk }) P₁.sim.F N₂ _ (fun _ hp => hp) off₂ (hS _ _ T₂.sub) (ih (i + 1) ys acc os₁ im₁ σ₁ (by omega) T₂ (hv.mono P₁.sub P₁.pre) k₁)

theorem ListCompT_ {ct elt iter : Expr} {px pos : Pos} (c : Clos sc ρ ρf scope x) (h : AW X n sc ρ σ iter fun d σ₁ => ∃ items, d = .list items ∧ items.length ≤ 1000 ∧ CompT X n (recell scope.names) ρf x ct elt Q items [] σ₁)
    (hs : ∀ env x, foldedSetIterable iter env x = pure x := by intro _ _; rfl) : AW X n sc ρ σ (.ListComp elt [⟨.Name (Str.ofString x) px, iter, [ct], 0⟩] scope pos) Q :=
  fun A env h₀ L m os cs im fr s Qc Ec F S R q => by
    obtain ⟨cl, hclos, hcl⟩ := comp_cl F c R
    refine LCt.ListComp_T S.F hclos c.cell c.kind c.names c.var (h A env h₀ L m os cs im fr s _ Ec F S R fun xv d σ₁ os₁ im₁ h₁ tk₁ k₁ P₁ r₁ => ?_) (hs env)
    obtain ⟨items, rfl, hl, W⟩ := k₁
    have R₁ := R.post P₁.sub P₁.pre
    have fin : ∀ (s₂ : Shared), (∃ h, s₂ = { s with heap := h, toks := tk₁ }) → ∀ ys acc os' im' σ', Stat X os₁ cs im₁ fr os' im' σ' → VRs X.Hb im' (adr os') ys acc → Q (.list acc) σ' → ys.length = acc.length → FinE h₀ L m s₂ Qc ys (os' ++ (cs ++ (im' ++ fr))) := by
      rintro s₂ ⟨hh, rfl⟩ ys acc os' im' σ' T hv hq _ D h' tk' F' N' o1
      have N'' : News h₀ L h' (os' ++ (cs ++ (im' ++ fr))) := fun p hp => N' p (.tail _ hp)
      have S' : Sim X h₀ L m os' cs im' fr σ' h' := ⟨F', N'', T.nd, T.sep, T.st⟩
      have P₂ := S'.newIm F' N' (off1_mem o1)
      exact q (.ref D) (.list acc) σ' os' ((D, lst ys) :: im') h' tk' hq (P₁.trans ⟨fun p hp => P₂.sub _ (T.sub _ hp), T.pre.trans P₂.pre, P₂.sim⟩) (.list (.inr (.head _)) (hv.mono P₂.sub P₂.pre))
    cases r₁ with
    | @list a vs k _ hm hv =>
      refine .inl ⟨a, vs.toArray, _, rfl, F.hh, P₁.sim.F, P₁.sim.N, srcAt_of F hm _ _ _ _ (fun _ e => e), by rw [List.size_toArray, hv.length]; simp only [sizeLine]; omega, ?_⟩
      rintro s₂ ⟨hh, rfl⟩
      have := comp_restT (s := { s with heap := hh, toks := tk₁ }) (ct := ct) (elt := elt) (S := SrcAt h₀ a vs.toArray) (P := fun i v => vs.toArray[i]? = some v) (items := items) F c R₁ hcl (fun i v hi hp => hv.get' (by simpa using hp)) (fun os' im' hs' => srcAt_of F hm _ _ _ _ hs') (fin { s with heap := hh, toks := tk₁ } ⟨_, rfl⟩) items.length 0 [] [] os₁ im₁ σ₁ (by omega) (.refl P₁.sim) .nil W
      have e : vs.toArray.size = items.length := by rw [List.size_toArray, hv.length]
      rw [e]; exact this
end

section
variable {X : Cfg} {n : Nat} {sc : List (Str × NameKind)} {ρ : Rho} {σ : List O} {Q : V → List O → Prop}

/-! lists: joined, repeated, grown in place, compared -/
theorem Op2.catF {a b : V} {ds es : List V} (ca : LC σ a ds) (cb : LC σ b es) (hl : ds.length + es.length ≤ 1000) (hn1 : V.nrs ds = true) (hn2 : V.nrs es = true) (h : Q (.list (ds ++ es)) σ) : Op2 X n σ (binaryOp .Add) a b Q :=
  fun va vb A env h₀ L sc m os cs im fr s Qc Ec F S r q => ca.on F S r.1 fun a vs k ho hv => cb.on F S r.2 fun b ws k' ho' hw =>
    add_lists S.F S.N (isList_of ho) (isList_of ho') (fun h' F' N' => q _ _ _ _ _ h' s.toks h (S.newIm F' N' S.fresh) (.list (n := 0) (.inr (.head _)) ((hv.append hw).mono (S.newIm F' N' S.fresh).sub (Pre.refl _)))) (hv.sz2 hw hl)
theorem Op2.catM {a b : V} {ds es : List V} (ca : LC σ a ds) (cb : LC σ b es) (hl : ds.length + es.length ≤ 1000) (hn1 : V.nrs ds = true) (hn2 : V.nrs es = true) (h : Q (.ref σ.length) (σ ++ [.list (ds ++ es)])) : Op2 X n σ (binaryOp .Add) a b Q :=
  fun va vb A env h₀ L sc m os cs im fr s Qc Ec F S r q => ca.on F S r.1 fun a vs k ho hv => cb.on F S r.2 fun b ws k' ho' hw =>
    add_lists S.F S.N (isList_of ho) (isList_of ho') (fun h' F' N' => q _ _ _ _ _ h' s.toks h (S.newOs F' N' S.fresh (.list (n := 0) ((hv.nr hn1).append (hw.nr hn2)))) (.ref (adr_snoc S.st.length))) (hv.sz2 hw hl)

theorem flat_replicate (vs : List Value) (k : Nat) : List.foldl (fun x1 x2 => x1 ++ x2) #[] (List.replicate (if vs.toArray.isEmpty = true then 0 else k) vs.toArray) = ((List.replicate k vs).flatten).toArray := by
  have key : ∀ (k : Nat) (acc : Array Value), List.foldl (fun x1 x2 => x1 ++ x2) acc (List.replicate k vs.toArray) = acc ++ ((List.replicate k vs).flatten).toArray := by
    intro k
    induction k with
    | zero => intro acc; simp
    | succ k ih => intro acc; rw [List.replicate_succ, List.foldl_cons, ih, List.replicate_succ, List.flatten_cons]; simp
  cases vs with
  | nil => simp
  | cons v vs =>
    rw [if_neg (by simp), key]; simp
theorem VRs.flat {Hb : Heap} {im : Led} {β : List Addr} {vs : List Value} {ds : List V} (h : VRs Hb im β vs ds) (k : Nat) : VRs Hb im β (List.replicate k vs).flatten (List.replicate k ds).flatten := by
  induction k with
  | zero => exact .nil
  | succ k ih => rw [List.replicate_succ, List.replicate_succ, List.flatten_cons, List.flatten_cons]; exact h.append ih

theorem flat_one {α : Type} (d : α) (k : Nat) : (List.replicate k [d]).flatten = List.replicate k d := by
  induction k with
  | zero => rfl
  | succ k ih => rw [List.replicate_succ, List.flatten_cons, ih, List.replicate_succ]; rfl
/-- a list repeated -/
theorem Op2.rep {a : V} {d : V} {i : Int} (ca : LC σ a [d]) (h0 : 0 ≤ i) (hi : i ≤ 1000) (hn : d.nr = true) (h : Q (.ref σ.length) (σ ++ [.list (List.replicate i.toNat d)])) : Op2 X n σ (binaryOp .Mult) a (.int i) Q :=
  fun va vb A env h₀ L sc m os cs im fr s Qc Ec F S r q => r.2.cInt fun t => ca.on F S r.1 fun a vs k ho hv =>
    mul_list S.F S.N ho (Int.le_trans (by decide) h0) (Int.lt_of_le_of_lt hi (by decide)) (by have hl : vs.length = 1 := hv.length; rw [List.size_toArray, hl]; omega) fun h' F' N' =>
      q _ _ _ _ _ h' s.toks h (S.newOs (d := .list (List.replicate i.toNat d)) F' ((flat_replicate vs i.toNat) ▸ N') S.fresh (.list (n := 0) (flat_one d i.toNat ▸ ((hv.nr (by rw [V.nrs, hn]; rfl)).flat i.toNat)))) (.ref (adr_snoc S.st.length))

theorem seqI_list : seqSlot? (.type "list") (dunderI "add") = pure (some (.builtin "list.__iadd__")) := by
  unfold seqSlot?
  rw [PySem.F.slot_list_iadd.lookup]
  rfl
theorem fillsI_list : fillsInplaceSlot (.type "list") "add" (Operator.Add == .Add) = pure false := by
  unfold fillsInplaceSlot
  show (typeLookup (.type "list") (dunderI "add") >>= fun fi => pure (fi.isSome && !isSeqSlot fi)) = pure false
  rw [PySem.F.slot_list_iadd.lookup]
  rfl

theorem iadd_list {M : Program} {w : World} {A : Around} {E : Value → Shared → Prop} {s : Shared} {a b : Value} {Q : Value → Shared → Prop} (ha : s.TypeIs a "list") (hb : s.TypeIs b "list")
    (hc : wpAny (model M w) A (call (.builtin "list.__iadd__") [a, b]) Q E s) : wpAny (model M w) A (inplaceOp .Add a b) Q E s := by
  unfold inplaceOp
  refine wpAny_holding ?_
  refine wpAny_bind (wpAny_typeOf ha (wpAny_bind (wpAny_of_eq fillsI_list ?_)))
  show wpAny _ A (if false = true then _ else _) Q E s
  rw [if_neg Bool.false_ne_true]
  refine wpAny_bind (wpAny_binaryOp1_none (nm := "add") ha hb noFill_list_add ?_)
  refine wpAny_bind (wpAny_of_eq seqI_list ?_)
  exact wpAny_bind (wpAny_rule hc)

theorem Op2.iaddL {k : Nat} {b : V} {ds es : List V} (hk : σ[k]? = some (.list ds)) (hb : b = .list es) (hl : ds.length + es.length ≤ 1000) (hn : V.nrs es = true) (h : Q (.ref k) (σ.set k (.list (ds ++ es)))) : Op2 X n σ (inplaceOp .Add) (.ref k) b Q :=
  fun va vb A env h₀ L sc m os cs im fr s Qc Ec F S r q => (hb ▸ r.2).cList (P := fun vb => wpAny (model X.prog X.w) A (inplaceOp .Add va vb) Qc Ec s) fun b ws k2 hm hw => S.lst hk r.1 fun pre a vs k' post hv ho N h1 h2 ha fin => by
    have hb := S.get F hm
    have z := N (_, _) (List.mem_append.mpr (.inr (.head _)))
    have sz := hv.sz2 (hw.nr (β' := []) hn) hl
    have e : vs.toArray ++ ws.toArray = (vs ++ ws).toArray := List.append_toArray ..
    have ho' : (s.heap.update a (Obj.mapSeq fun x => x ++ ws.toArray)).get? a = some (lstObj (vs ++ ws) (if (vs.toArray ++ ws.toArray).size == vs.toArray.size then k' else k' + 1)) := by
      rw [Heap.get?_update_self _ ho (by rw [mapSeq_app]; rfl), mapSeq_app, e]
    obtain ⟨os', P⟩ := fin (vs ++ ws) _ (ds ++ es) _ (hv.append (hw.nr hn)) (S.F.change (Heap.SameBut.update ..) z.2.1 z.2.2) (N.setIn h1 h2 (Heap.SameBut.update ..) ho')
    exact iadd_list ⟨_, ho, rfl⟩ ⟨_, hb, rfl⟩ (call_meets PySem.F.slot_list_iadd ⟨_, ho, rfl⟩ PySem.F.entry_list_iadd (PySem.F.args_list_iadd_2 _ _)
      (AutoSeq1.list___iadd___list_list_0 _ vs.toArray k' b ws.toArray k2 (extend_door sz) (Nat.le_trans (Nat.le_add_right _ _) sz) (Nat.le_succ_of_le sz)) ⟨ho, hb, q _ _ _ _ _ _ s.toks h P (.ref (P.pre _ _ ha))⟩)

theorem VRs.readsB {Hb : Heap} {im : Led} {β : List Addr} {h : Heap} {vs : List Value} {bs : List Bool} (r : VRs Hb im β vs (bs.map V.bool)) : ReadsAll h vs (bs.map PyData.bool) [] := by
  induction bs generalizing vs with
  | nil => exact r.cNil .nil
  | cons b bs ih =>
    rw [List.map_cons] at r
    exact r.cCons fun w ws h r => h.cBool (P := fun w => ReadsAll _ (w :: ws) _ _) (.cons (as := []) (bs := []) (.bool b) (ih r))
theorem canLayAll0_bools : ∀ bs : List Bool, PyData.canLayAll0 (bs.map PyData.bool) = true
  | [] => rfl
  | b :: bs => by simp [PyData.canLayAll0, PyData.canLay0, canLayAll0_bools bs]
theorem depthAll_bools : ∀ bs : List Bool, PyData.depthAll (bs.map PyData.bool) ≤ 1
  | [] => by simp [PyData.depthAll]
  | b :: bs => by have := depthAll_bools bs; simp [PyData.depthAll, PyData.depth]; omega
theorem shaped_bools (bs : List Bool) : SeqAt.shaped (.list (bs.map PyData.bool)) = true := by
  have h1 := depthAll_bools bs
  have h2 : PyData.depth (.list (bs.map PyData.bool)) ≤ 64 := by simp only [PyData.depth]; omega
  show (PyData.canLay0 (.list (bs.map PyData.bool)) && decide (PyData.depth (.list (bs.map PyData.bool)) ≤ 64)) = true
  rw [Bool.and_eq_true]
  exact ⟨by simp only [PyData.canLay0]; exact canLayAll0_bools bs, decide_eq_true h2⟩
theorem eqv_bools : ∀ as bs : List Bool, PyData.eqvAll (as.map PyData.bool) (bs.map PyData.bool) = decide (as = bs)
  | [], [] => rfl
  | [], b :: bs => by simp [PyData.eqvAll]
  | a :: as, [] => by simp [PyData.eqvAll]
  | a :: as, b :: bs => by
    simp only [List.map_cons, PyData.eqvAll, PyData.eqv, eqv_bools as bs]
    cases a <;> cases b <;> simp

theorem units64 {A : Around} {env : Env} {h₀ : Heap} {L : Addr} (F : Fx X n A env h₀ L sc) : A.units + 64 < cLine := by
  have := F.units
  show A.units + 64 < 9900
  omega
theorem Op2.eqBs {a b : V} {as bs : List Bool} (ca : LC σ a (as.map V.bool)) (cb : LC σ b (bs.map V.bool)) (h : Q (.bool (decide (as = bs))) σ) : Op2 X n σ (compareOp .Eq) a b Q :=
  fun va vb A env h₀ L sc m os cs im fr s Qc Ec F S r q => ca.on F S r.1 fun a vs k ho hv => cb.on F S r.2 fun b ws k' ho' hw =>
    eq_dataH (.list ho rfl rfl hv.readsB) (.list ho' rfl rfl hw.readsB) (shaped_bools as) (shaped_bools bs) (units64 F) (q _ _ _ _ _ s.heap s.toks h (Post.refl S) ((eqv_bools as bs) ▸ .bool _))
theorem Op2.neBs {a b : V} {as bs : List Bool} (ca : LC σ a (as.map V.bool)) (cb : LC σ b (bs.map V.bool)) (h : Q (.bool (!decide (as = bs))) σ) : Op2 X n σ (compareOp .NotEq) a b Q :=
  fun va vb A env h₀ L sc m os cs im fr s Qc Ec F S r q => ca.on F S r.1 fun a vs k ho hv => cb.on F S r.2 fun b ws k' ho' hw =>
    ne_dataH (.list ho rfl rfl hv.readsB) (.list ho' rfl rfl hw.readsB) (shaped_bools as) (shaped_bools bs) (units64 F) (q _ _ _ _ _ s.heap s.toks h (Post.refl S) ((eqv_bools as bs) ▸ .bool _))

/-! texts -/
theorem Op2.itemS {value slice : Expr} {x : Str} {i : Int} {c : Nat} (h0 : 0 ≤ i) (hi : i < 2 ^ 63) (hc : x.cps[i.toNat]? = some c) (h : Q (.str ⟨#[c]⟩) σ)
    (hs : ∀ t k u, subscripted slice false (.str x t) (.int k u) = operate [.str x t, .int k u] (getItem (.str x t) (.int k u)) := by intro _ _ _; with_unfolding_all rfl) : Op2 X n σ (subscriptTail value slice) (.str x) (.int i) Q :=
  fun va vb A env h₀ L sc m os cs im fr s Qc Ec F S r q => by
    refine r.1.cStr fun t => r.2.cInt fun u => ?_
    refine tail_any (typeIs_str s x _) PySem.F.slot_str_getitem.lookup (P.getItem_str ?_ (by rw [seqIdx (k := x.length) h0 (Array.getElem?_eq_some_iff.mp hc).1 rfl]; exact hc) (q _ _ _ _ _ s.heap _ h (Post.refl S) (.str _ _))) (hs _ _ _)
    have h1 : ¬ i < -(2 ^ 63 : Int) := fun e => Int.lt_irrefl _ (Int.lt_of_lt_of_le (Int.lt_trans e (by decide)) h0)
    rw [decide_eq_false h1, decide_eq_false (Int.not_le.mpr hi)]; rfl

/-- a cut up to a place: of a text -/
theorem SubSliceS_ {value u : Expr} {p pos : Pos} (h : AW X n sc ρ σ value fun a σ₁ => AW X n sc ρ σ₁ u fun b σ₂ => ∃ x j, a = .str x ∧ b = .int j ∧ x.length ≤ 1000 ∧ Q (.str (Txt.slice x none (some j))) σ₂)
    (hs : ∀ (x : Str) t a, subscripted (.Slice none (some u) none p) false (.str x t) (.ref a) = operate [.ref a, .str x t] (getItem (.str x t) (.ref a)) := by intro _ _ _; with_unfolding_all rfl)
    (ht : ∀ (x : Str) t r, letTemporaryGo value (.str x t) r = pure () := by intro _ _ _; with_unfolding_all rfl) : AW X n sc ρ σ (.Subscript value (.Slice none (some u) none p) pos) Q :=
  fun A env h₀ L m os cs im fr s Qc Ec F S R q => PyProof.Rows.Subscript_ (h A env h₀ L m os cs im fr s _ Ec F S R fun va a σ₁ os₁ im₁ h₁ tk₁ k₁ P₁ v₁ =>
    wpAny_Slice (by
      rw [evalPart_none]
      refine wpAny_pure ?_
      rw [evalPart_some]
      refine k₁ A env h₀ L m os₁ cs im₁ fr { s with heap := h₁, toks := tk₁ } _ Ec F P₁.sim (R.post P₁.sub P₁.pre) fun vb b σ₂ os₂ im₂ h₂ tk₂ k₂ P₂ v₂ => ?_
      obtain ⟨x, j, rfl, rfl, hx, hq⟩ := k₂
      refine v₂.cInt fun t₂ => ?_
      refine wpAny_pure ?_
      refine v₁.cStr fun t₁ => ?_
      exact slice_strN_ns (s := { s with heap := h₂, toks := tk₂ }) P₂.sim.F P₂.sim.N (fun h' t' k F' N' => q _ _ _ _ _ h' k hq ((P₁.trans P₂).trans ⟨fun _ e => e, Pre.refl _, F', N', P₂.sim.nd, P₂.sim.sep, P₂.sim.st⟩) (.str _ _)) (hs _ _ _) (ht _ _) (by simp only [sizeLine]; omega)))

theorem pick_upto (vs : List Value) {j : Int} (h0 : 0 ≤ j) : slicePick vs.toArray none (some j) none = (vs.take j.toNat).toArray := by
  have e : sliceBounds none (some j) none vs.toArray.size = (((0 : Nat) : Int), ((min j.toNat vs.toArray.size : Nat) : Int), 1) := by
    obtain ⟨k, rfl⟩ := Int.eq_ofNat_of_zero_le h0
    simp only [sliceBounds, Option.getD_none, show (1 : Int) > 0 by decide, if_true, if_neg (Int.not_lt.mpr h0), Int.toNat_natCast]
    congr 2
    omega
  rw [kmk_pick_nat _ e]
  show ((vs.drop 0).take (min j.toNat vs.toArray.size - 0)).toArray = _
  rw [List.drop_zero, Nat.sub_zero, List.size_toArray, kmk_take_min]
theorem pick_all (vs : List Value) : slicePick vs.toArray none none none = vs.toArray := by
  have e : sliceBounds none none none vs.toArray.size = (((0 : Nat) : Int), ((vs.toArray.size : Nat) : Int), 1) := by
    simp [sliceBounds]
  rw [kmk_pick_nat _ e]
  simp

/-- a cut of a list up to a place, that stays as it is -/
theorem SubSliceL_ {value u : Expr} {p pos : Pos} (h : AW X n sc ρ σ value fun a σ₁ => AW X n sc ρ σ₁ u fun b σ₂ => ∃ ds j, a = .list ds ∧ b = .int j ∧ ds.length ≤ 1000 ∧ 0 ≤ j ∧ Q (.list (ds.take j.toNat)) σ₂)
    (hs : ∀ l a, subscripted (.Slice none (some u) none p) false (.ref l) (.ref a) = operate [.ref a, .ref l] (getItem (.ref l) (.ref a)) := by intro _ _; with_unfolding_all rfl)
    (ht : ∀ l r, letTemporaryGo value (.ref l) r = pure () := by intro _ _; with_unfolding_all rfl) : AW X n sc ρ σ (.Subscript value (.Slice none (some u) none p) pos) Q :=
  fun A env h₀ L m os cs im fr s Qc Ec F S R q => PyProof.Rows.Subscript_ (h A env h₀ L m os cs im fr s _ Ec F S R fun va a σ₁ os₁ im₁ h₁ tk₁ k₁ P₁ v₁ =>
    wpAny_Slice (by
      rw [evalPart_none]
      refine wpAny_pure ?_
      rw [evalPart_some]
      refine k₁ A env h₀ L m os₁ cs im₁ fr { s with heap := h₁, toks := tk₁ } _ Ec F P₁.sim (R.post P₁.sub P₁.pre) fun vb b σ₂ os₂ im₂ h₂ tk₂ k₂ P₂ v₂ => ?_
      obtain ⟨ds, j, rfl, rfl, hl, h0, hq⟩ := k₂
      refine v₂.cInt fun t₂ => ?_
      refine wpAny_pure ?_
      refine (v₁.mono P₂.sub P₂.pre).cList fun l vs k hm hv => ?_
      refine slice_list (s := { s with heap := h₂, toks := tk₂ }) P₂.sim.F P₂.sim.N (isList_im F P₂.sim hm) .none (.int j _) (fun h' F' N' => ?_) (hs _ _) (ht _) (hv.szA hl)
      rw [pick_upto _ h0] at N'
      have P₃ := P₂.sim.newIm F' N' (fun p hp => Nat.ne_of_lt (Nat.lt_succ_of_lt (Heap.lt_size (P₂.sim.N p hp).1)))
      exact q _ _ _ _ _ h' tk₂ hq ((P₁.trans P₂).trans P₃) (.list (n := 0) (.inr (.head _)) ((hv.take _).mono P₃.sub P₃.pre))))

/-- a list's copy by a cut, that will change -/
theorem SubAll_ {value : Expr} {p pos : Pos} (h : AW X n sc ρ σ value fun a σ₁ => ∃ ds, a = .list ds ∧ ds.length ≤ 1000 ∧ V.nrs ds = true ∧ Q (.ref σ₁.length) (σ₁ ++ [.list ds]))
    (hs : ∀ l a, subscripted (.Slice none none none p) false (.ref l) (.ref a) = operate [.ref a, .ref l] (getItem (.ref l) (.ref a)) := by intro _ _; with_unfolding_all rfl)
    (ht : ∀ l r, letTemporaryGo value (.ref l) r = pure () := by intro _ _; with_unfolding_all rfl) : AW X n sc ρ σ (.Subscript value (.Slice none none none p) pos) Q :=
  fun A env h₀ L m os cs im fr s Qc Ec F S R q => PyProof.Rows.Subscript_ (h A env h₀ L m os cs im fr s _ Ec F S R fun va a σ₁ os₁ im₁ h₁ tk₁ k₁ P₁ v₁ =>
    wpAny_Slice (by
      obtain ⟨ds, rfl, hl, hn, hq⟩ := k₁
      refine v₁.cList fun l vs k hm hv => ?_
      rw [evalPart_none]
      refine wpAny_pure (wpAny_pure (wpAny_pure ?_))
      refine slice_list (s := { s with heap := h₁, toks := tk₁ }) P₁.sim.F P₁.sim.N (isList_im F P₁.sim hm) .none .none (fun h' F' N' => ?_) (hs _ _) (ht _) (hv.szA hl)
      rw [pick_all] at N'
      have P₃ := P₁.sim.newOs F' N' (fun p hp => Nat.ne_of_lt (Nat.lt_succ_of_lt (Heap.lt_size (P₁.sim.N p hp).1))) (.list (n := 0) (hv.nr hn))
      exact q _ _ _ _ _ h' tk₁ hq (P₁.trans P₃) (.ref (adr_snoc P₁.sim.st.length))))

theorem OpC.isiTuple {i : Int} (h : Q (.bool false) σ) : OpC X n σ (.builtin "isinstance") [.int i, .typ "tuple"] Q := fun vs A env h₀ L sc m os cs im fr s Qc Ec F S r q =>
  r.c2 fun v w r₁ r₂ => r₁.cInt fun t => r₂.cTyp (PySem.IsiPair.int_tuple (q _ _ _ _ _ s.heap _ h (Post.refl S) (.bool _)))

/-! dicts of ints -/
def dval (ds : List (Int × V)) (k : Int) : Option V := (ds.find? fun kv => kv.1 = k).map (·.2)
def dput (ds : List (Int × V)) (k : Int) (v : V) : List (Int × V) :=
  if ds.any (fun kv => kv.1 = k) then ds.map (fun kv => if kv.1 = k then (kv.1, v) else kv) else ds ++ [(k, v)]

/-- the value is a dict, frozen or mutable -/
inductive DC (σ : List O) : V → List (Int × V) → Prop
  | im {ds : List (Int × V)} : DC σ (.dict ds) ds
  | mu {k : Nat} {ds : List (Int × V)} : σ[k]? = some (.dict ds) → DC σ (.ref k) ds
@[elab_as_elim] theorem DC.on {A : Around} {env : Env} {h₀ : Heap} {L : Addr} {m : Str → Option Value} {os cs im fr : Led} {h : Heap} {d : V} {ds : List (Int × V)} {v : Value} (c : DC σ d ds) (F : Fx X n A env h₀ L sc) (S : Sim X h₀ L m os cs im fr σ h)
    (r : VR X.Hb im (adr os) v d) {P : Value → Prop} (g : ∀ a o kvs, h.get? a = some o → IDict o kvs → (a == sysModules) = false → ERs X.Hb im (adr os) kvs ds → P (.ref a)) : P v := by
  cases c with
  | im => exact r.cDict fun a o kvs hm hd hl hv => g a o kvs (S.get F hm) hd hl hv
  | mu hk =>
    refine r.cRef fun a ha => ?_
    obtain ⟨a', o, ha', ho, hr⟩ := S.store hk
    have e : a' = a := Option.some.inj (ha'.symm.trans ha)
    subst e
    obtain ⟨kvs, hd, hl, hv⟩ := hr.cDict
    exact g _ o kvs ho hd hl (hv.mono (fun _ e => e) fun k a e => by cases e)

theorem ERs.length {Hb : Heap} {im : Led} {β : List Addr} {kvs : List (Int × Value)} {ds : List (Int × V)} (h : ERs Hb im β kvs ds) : kvs.length = ds.length := by
  induction ds generalizing kvs with
  | nil => exact h.cNil rfl
  | cons e ds ih => exact h.cCons fun w ws _ r => congrArg (· + 1) (ih r)
theorem dval_cons (i k : Int) (d : V) (ds : List (Int × V)) : dval ((i, d) :: ds) k = if i = k then some d else dval ds k := by
  by_cases hk : i = k <;> simp [dval, List.find?_cons, hk]
theorem valueAt_cons (i k : Int) (d : Value) (ds : List (Int × Value)) : valueAt ((i, d) :: ds) k = if i = k then some d else valueAt ds k := by
  by_cases hk : i = k <;> simp [valueAt, List.find?_cons, hk]
theorem ERs.val {Hb : Heap} {im : Led} {β : List Addr} {kvs : List (Int × Value)} {ds : List (Int × V)} (h : ERs Hb im β kvs ds) (k : Int) : (valueAt kvs k = none ∧ dval ds k = none) ∨ ∃ v d, valueAt kvs k = some v ∧ dval ds k = some d ∧ VR Hb im β v d := by
  induction ds generalizing kvs with
  | nil => exact h.cNil (.inl ⟨rfl, rfl⟩)
  | cons e ds ih =>
    obtain ⟨i, d⟩ := e
    refine h.cCons fun w ws hv r => ?_
    rw [valueAt_cons, dval_cons]
    by_cases hk : i = k
    · rw [if_pos hk, if_pos hk]; exact .inr ⟨w, d, rfl, rfl, hv⟩
    · rw [if_neg hk, if_neg hk]; exact ih r
theorem ERs.upd {Hb : Heap} {im : Led} {β : List Addr} {k : Int} {v : Value} {d : V} (hv : VR Hb im β v d) {kvs : List (Int × Value)} {ds : List (Int × V)} (h : ERs Hb im β kvs ds) :
    kvs.any (fun kv => decide (kv.1 = k)) = ds.any (fun kv => decide (kv.1 = k)) ∧ ERs Hb im β (kvs.map fun kv => if kv.1 = k then (kv.1, v) else kv) (ds.map fun kv => if kv.1 = k then (kv.1, d) else kv) ∧ ERs Hb im β (kvs ++ [(k, v)]) (ds ++ [(k, d)]) := by
  induction ds generalizing kvs with
  | nil => exact h.cNil ⟨rfl, .nil, .cons hv .nil⟩
  | cons e ds ih =>
    obtain ⟨i, e⟩ := e
    refine h.cCons fun w ws hw r => ?_
    obtain ⟨h1, h2, h3⟩ := ih r
    refine ⟨?_, ?_, .cons hw h3⟩
    · rw [List.any_cons, List.any_cons, h1]
    · rw [List.map_cons, List.map_cons]
      show ERs Hb im β ((if i = k then (i, v) else (i, w)) :: _) ((if i = k then (i, d) else (i, e)) :: _)
      by_cases hk : i = k
      · rw [if_pos hk, if_pos hk]; exact .cons hv h2
      · rw [if_neg hk, if_neg hk]; exact .cons hw h2
theorem ERs.put {Hb : Heap} {im : Led} {β : List Addr} {kvs : List (Int × Value)} {ds : List (Int × V)} (h : ERs Hb im β kvs ds) {k : Int} {v : Value} {d : V} (hv : VR Hb im β v d) : ERs Hb im β (stored kvs k v) (dput ds k d) := by
  obtain ⟨h1, h2, h3⟩ := ERs.upd (k := k) hv h
  unfold stored dput
  rw [h1]
  split
  · exact h2
  · exact h3

theorem Dict0_ {pos : Pos} (h : Q (.ref σ.length) (σ ++ [.dict []])) : AW X n sc ρ σ (.Dict [] [] pos) Q :=
  fun A env h₀ L m os cs im fr s Qc Ec F S R q => by
    refine wpAny_Dict_empty ?_
    have P := S.newOs (d := .dict []) (S.F.push _) (S.N.push S.F { cls := .type "dict", data := .dict #[] }) S.fresh (.dict (kvs := []) ⟨#[], 0, ⟨rfl, rfl, rfl⟩, rfl, (fun e he => by simp at he), .nil, by simp⟩ (S.F.notModules F.low) .nil)
    exact q _ _ _ _ _ _ s.toks h P (.ref (adr_snoc S.st.length))

theorem ERs.any {Hb : Heap} {im : Led} {β : List Addr} {kvs : List (Int × Value)} {ds : List (Int × V)} (h : ERs Hb im β kvs ds) (k : Int) : (valueAt kvs k).isSome = (dval ds k).isSome := by
  rcases h.val k with ⟨h1, h2⟩ | ⟨v, d, h1, h2, _⟩ <;> rw [h1, h2] <;> rfl
theorem Op2.inD {i : Int} {d : V} {ds : List (Int × V)} (c : DC σ d ds) (h : Q (.bool (dval ds i).isSome) σ) : Op2 X n σ (compareOp .In) (.int i) d Q := fun va vb A env h₀ L sc m os cs im fr s Qc Ec F S r q =>
  r.1.cInt fun t => c.on F S r.2 fun a o kvs ho hd hl hv => wpAny_in_of (intKind_is X.prog X.w i _) hl (Heap.DictOf.mapOf (Heap.dictOf_iff.mpr ⟨o, ho, hd.to⟩)) (q _ _ _ _ _ s.heap _ h (Post.refl S) (hv.any i ▸ .bool _))
theorem Op2.itemD {value slice : Expr} {i : Int} {a d : V} {ds : List (Int × V)} (c : DC σ a ds) (hd : dval ds i = some d) (h : Q d σ)
    (hs : ∀ a k u, subscripted slice false (.ref a) (.int k u) = operate [.ref a, .int k u] (getItem (.ref a) (.int k u)) := by intro _ _ _; with_unfolding_all rfl) : Op2 X n σ (subscriptTail value slice) a (.int i) Q := fun va vb A env h₀ L sc m os cs im fr s Qc Ec F S r q => by
  refine r.2.cInt fun t => c.on F S r.1 fun a o kvs ho hdd hl hv => ?_
  have hD : s.heap.DictOf (intKind X.prog X.w) a kvs := Heap.dictOf_iff.mpr ⟨o, ho, hdd.to⟩
  rcases hv.val i with ⟨h1, h2⟩ | ⟨v, d', h1, h2, rv⟩
  · exact absurd (h2.symm.trans hd) (by simp)
  · exact tail_any hD.typeIs slot_dict_getitem.lookup (wpAny_getItem_of (intKind_is X.prog X.w i _) hD.mapOf h1 (q _ _ _ _ _ s.heap _ h (Post.refl S) (Option.some.inj (h2.symm.trans hd) ▸ rv))) (hs _ _ _)
theorem Op3.setD {k : Nat} {ds : List (Int × V)} {i : Int} {d : V} (hk : σ[k]? = some (.dict ds)) (hlen : ds.length ≤ 1000) (hn : d.nr = true) {Q : Unit → List O → Prop} (h : Q () (σ.set k (.dict (dput ds i d)))) : Op3 X n σ setItem (.ref k) (.int i) d Q := fun va vb vc A env h₀ L sc m os cs im fr s Qc Ec F S r q => by
  refine r.2.1.cInt fun t => r.1.cRef fun a₀ ha => ?_
  obtain ⟨pre, a, o, post, e, ha', ho, hr, h1, h2, fin⟩ := S.cut hk
  have ea : a = a₀ := Option.some.inj (ha'.symm.trans ha)
  subst ea
  obtain ⟨kvs, hd, hl, hv⟩ := hr.cDict
  have N := S.N
  rw [e, led_mid] at N
  have z := N (_, _) (List.mem_append.mpr (.inr (.head _)))
  refine wpAny_setItem_pairs (hsz := hv.length ▸ Nat.le_trans hlen (by decide)) (intKind_is X.prog X.w i _) (Heap.dictOf_iff.mpr ⟨o, ho, hd.to⟩) fun h' hmm hs => ?_
  obtain ⟨o', ho', hd'⟩ := Heap.dictOf_iff.mp hmm
  exact q _ _ _ _ _ h' _ h (fin o' _ h' (.dict (IDict.of hd') hl (hv.put (r.2.2.nr hn))) (S.F.change hs z.2.1 z.2.2) (N.setIn h1 h2 hs ho')) trivial
theorem TyOf.dict {d : V} {ds : List (Int × V)} (c : DC σ d ds) : TyOf X σ d "dict" := fun n v A env h₀ L sc m os cs im fr s F S r => by
  refine c.on F S r fun a o kvs ho hd hl hv => ?_
  obtain ⟨es, ep, ⟨e1, e2, _⟩, _⟩ := hd
  exact ⟨⟨o, ho, e1⟩, fun b e => by cases e; exact ⟨_, ho, e2⟩⟩
theorem ERs.get2 {Hb : Heap} {im : Led} {β : List Addr} {kvs : List (Int × Value)} {ds : List (Int × V)} (h : ERs Hb im β kvs ds) (k : Int) {v : Value} {d : V} (r : VR Hb im β v d) : VR Hb im β ((valueAt kvs k).getD v) ((dval ds k).getD d) := by
  rcases h.val k with ⟨h1, h2⟩ | ⟨v, d, h1, h2, rv⟩ <;> rw [h1, h2]
  · exact r
  · exact rv
theorem OpC.get2 {i : Int} {a e : V} {ds : List (Int × V)} (c : DC σ a ds) (h : Q ((dval ds i).getD e) σ) : OpC X n σ (.builtin "dict.get") [a, .int i, e] Q := fun vs A env h₀ L sc m os cs im fr s Qc Ec F S r q =>
  r.c3 fun u v w r₁ r₂ r₃ => r₂.cInt fun t => c.on F S r₁ fun a o kvs ho hd hl hv => by
    have hD : s.heap.DictOf (intKind X.prog X.w) a kvs := Heap.dictOf_iff.mpr ⟨o, ho, hd.to⟩
    exact call_meetsIn PySem.F.slot_dict_get hD.typeIs PySem.F.entry_dict_get (PySem.F.args_dict_get_3 _ _ _) (meets_dict_get_default (intKind X.prog X.w) a (intKind_is X.prog X.w i _) hl _) ⟨valueAt kvs, hD.mapOf, q _ _ _ _ _ s.heap _ h (Post.refl S) (hv.get2 i r₃)⟩

/-- dicts of pairs of ints compared -/
def pairV (p : Int × Int) : V := .tup [.int p.1, .int p.2]
def dInts (m : List (Int × (Int × Int))) : List (Int × V) := m.map fun e => (e.1, pairV e.2)
theorem pair_reads {Hb : Heap} {im : Led} {s : Shared} (get : ∀ p, Im Hb im p → s.heap.get? p.1 = some p.2) {β : List Addr} {v : Value} {p : Int × Int} (r : VR Hb im β v (pairV p)) : Reads s.heap v (.tuple [.int p.1, .int p.2]) [] := by
  refine VR.cTup r fun a vs n hm hv => ?_
  refine hv.c2 (P := fun vs => Im Hb im (a, tupObj vs n) → Reads s.heap (.ref a) (.tuple [.int p.1, .int p.2]) []) (fun w x r1 r2 => ?_) hm
  refine r1.cInt fun t => r2.cInt fun u => fun hm => ?_
  exact .tuple (get _ hm) rfl rfl (.cons (as := []) (bs := []) (.int _ _) (.cons (as := []) (bs := []) (.int _ _) .nil))
theorem pair_shaped (p : Int × Int) : SeqAt.shaped (.tuple [.int p.1, .int p.2]) = true := rfl
theorem pair_eqv (p q : Int × Int) : PyData.eqv (.tuple [.int p.1, .int p.2]) (.tuple [.int q.1, .int q.2]) = decide (p = q) := by
  obtain ⟨a, b⟩ := p
  obtain ⟨c, d⟩ := q
  simp only [PyData.eqv, PyData.eqvAll, Bool.and_true]
  by_cases h1 : a = c <;> by_cases h2 : b = d <;> simp [h1, h2]
theorem pair_eq {A : Around} {Hb : Heap} {im : Led} {β β' : List Addr} {v w : Value} {p q : Int × Int} {s : Shared} (get : ∀ p, Im Hb im p → s.heap.get? p.1 = some p.2) (hu : A.units + 64 < cLine) (rv : VR Hb im β v (pairV p)) (rw' : VR Hb im β' w (pairV q)) :
    SeqAt.EqAt A s v w (decide (p = q)) :=
  pair_eqv p q ▸ SeqAt.eqAt_reads _ _ A s v w _ _ (pair_reads get rv) (pair_reads get rw') (SeqAt.canLay_of_shaped (pair_shaped p)) (SeqAt.canLay_of_shaped (pair_shaped q)) (SeqAt.room_of_shaped (pair_shaped p) hu)

theorem dval_pairs (m : List (Int × (Int × Int))) (k : Int) : dval (dInts m) k = ((m.find? fun kv => kv.1 = k).map (·.2)).map pairV := by
  induction m with
  | nil => rfl
  | cons e m ih =>
    obtain ⟨i, p⟩ := e
    rw [show dInts ((i, p) :: m) = (i, pairV p) :: dInts m from rfl, dval_cons, ih]
    by_cases hk : i = k <;> simp [List.find?_cons, hk]

/-- each entry of the one is found in the other -/
def dSame (ma mb : List (Int × (Int × Int))) : Bool := ma.all fun e => (mb.find? fun kv => kv.1 = e.1).map (·.2) == some e.2
theorem dSame_cons (k : Int) (p : Int × Int) (ma mb : List (Int × (Int × Int))) : dSame ((k, p) :: ma) mb = ((((mb.find? fun kv => kv.1 = k).map (·.2)) == some p) && dSame ma mb) := rfl

theorem keq_hits {A : Around} {s : Shared} {Hb : Heap} {im : Led} {β β' : List Addr} {kb : List (Int × Value)} {mb : List (Int × (Int × Int))} (get : ∀ p, Im Hb im p → s.heap.get? p.1 = some p.2) (hu : A.units + 64 < cLine) (hb : ERs Hb im β' kb (dInts mb)) {ma : List (Int × (Int × Int))} :
    ∀ {ka : List (Int × Value)}, ERs Hb im β ka (dInts ma) → ∃ r, KeqHits A s kb ka r ∧ r = dSame ma mb := by
  induction ma with
  | nil => exact fun h => ERs.cNil h ⟨true, .nil, rfl⟩
  | cons e m ih =>
    obtain ⟨k, p⟩ := e
    intro ka h
    refine ERs.cCons h fun v ws hv r => ?_
    have hd := dval_pairs mb k
    rw [dSame_cons]
    rcases hb.val k with ⟨h1, h2⟩ | ⟨y, d, h1, h2, ry⟩
    · rw [h2] at hd
      refine ⟨false, .miss h1, ?_⟩
      rw [Option.map_eq_none_iff.mp hd.symm]; rfl
    · rw [h2] at hd
      obtain ⟨p', e1, rfl⟩ := Option.map_eq_some_iff.mp hd.symm
      obtain ⟨r', hr, er⟩ := ih r
      refine ⟨_, .hit h1 (pair_eq get hu hv ry) hr, ?_⟩
      rw [e1, er, show (some p' == some p) = decide (p = p') from ?_]
      by_cases hp : p = p'
      · subst hp; simp
      · rw [decide_eq_false hp]; exact beq_eq_false_iff_ne.mpr fun e => hp (Option.some.inj e).symm

theorem ERs.lenI {Hb : Heap} {im : Led} {β : List Addr} {kvs : List (Int × Value)} {m : List (Int × (Int × Int))} (h : ERs Hb im β kvs (dInts m)) : kvs.length = m.length := h.length.trans (List.length_map ..)
theorem Op2.neD {a b : V} {ma mb : List (Int × (Int × Int))} (ca : DC σ a (dInts ma)) (cb : DC σ b (dInts mb)) (h : Q (.bool (!(ma.length == mb.length && dSame ma mb))) σ) : Op2 X n σ (compareOp .NotEq) a b Q :=
  fun va vb A env h₀ L sc m os cs im fr s Qc Ec F S r q => ca.on F S r.1 fun a o ka ho hd hl hv => cb.on F S r.2 fun b o' kb ho' hd' hl' hv' => by
    have hu := F.units
    obtain ⟨r', hits, er⟩ := keq_hits (A := A.in1) (s := s) (fun p hp => S.get F hp) (by show A.units + 1 + 64 < 9900; omega) hv' hv
    refine keq_ne (r := r') hl hl' (Heap.dictOf_iff.mpr ⟨o, ho, hd.to (prog := X.prog) (w := X.w)⟩) (Heap.dictOf_iff.mpr ⟨o', ho', hd'.to⟩) (by show A.units < 9900; omega) (fun _ => hits) ?_
    rw [er, hv.lenI, hv'.lenI]
    exact q _ _ _ _ _ s.heap s.toks h (Post.refl S) (.bool _)

/-! dicts of the top -/
/-- an item of a dict of the top by a text -/
theorem Op2.itemG {value slice : Expr} {a : Nat} {x : Str} {v : Value} {d : V} {es : Array DictEntry} {k : Nat} (hl : X.K.lookup a = some ⟨.type "dict", none, .dict es k, #[]⟩) (hk : KeysLit X.w.params es.toList) (e : nsIn X.K a x = some (some v))
    (hv : ∀ im β, VR X.Hb im β v d) (h : Q d σ)
    (hs : ∀ a t, subscripted slice false (.ref a) (.str x t) = operate [.ref a, .str x t] (getItem (.ref a) (.str x t)) := by intro _ _; with_unfolding_all rfl) : Op2 X n σ (subscriptTail value slice) (.addr a) (.str x) Q :=
  fun va vb A env h₀ L sc m os cs im fr s Qc Ec F S r q => by
    refine r.1.cAddr (r.2.cStr fun t => ?_)
    exact topItem_K (h₀ := h₀) S.F (fun b o eb => F.base _ _ (X.inK b o eb)) hl hk e (q _ _ _ _ _ s.heap _ h (Post.refl S) (hv _ _)) (hs _ _)

/-- two or three names at once -/
def rsets (ρ : Rho) : List String → List V → Rho
  | x :: xs, d :: ds => rset (rsets ρ xs ds) x d
  | _, _ => ρ

theorem rsets_snoc (ρ : Rho) (x : String) (d : V) : ∀ (ys : List String) (es : List V), ys.length = es.length → rsets ρ (ys ++ [x]) (es ++ [d]) = rsets (rset ρ x d) ys es
  | [], [], _ => rfl
  | y :: ys, e :: es, h => congrArg (rset · y e) (rsets_snoc ρ x d ys es (Nat.succ.inj h))
theorem storeAll_ {A : Around} {env : Env} {h₀ : Heap} {L : Addr} {Qc : Unit → Shared → Prop} {Ec : Value → Shared → Prop} (g : Fx X n A env h₀ L sc) {os im fr : Led} (el : env.locals = L) (xs : List String) :
    ∀ (ds : List V) (vs : List Value) (ρ : Rho) (m : Str → Option Value) (cs : Led) (s : Shared), (∀ x ∈ xs, May sc x) → xs.length = ds.length → VRs X.Hb im (adr os) vs ds → CellsOk env cs → Sim X h₀ L m os cs im fr σ s.heap → LR X env L m os cs im fr ρ →
      (∀ m' cs' h' tk', PostS X h₀ L env os cs im fr m' os cs' im σ h' → LR X env L m' os cs' im fr (rsets ρ xs.reverse ds.reverse) → Qc () { s with heap := h', toks := tk' }) →
      wpAny (model X.prog X.w) A (assignInOrder (xs.map fun x => bindName env (Str.ofString x)) vs) Qc Ec s := by
  induction xs with
  | nil =>
    intro ds vs ρ m cs s _ hl hv C S R q
    cases ds with
    | cons => simp at hl
    | nil => exact hv.cNil (wpAny_assignInOrder_none (q m cs s.heap s.toks (PostS.refl C S) R))
  | cons x xs ih =>
    intro ds vs ρ m cs s hx hl hv C S R q
    cases ds with
    | nil => simp at hl
    | cons d ds =>
      refine hv.cCons fun w ws hv hvs => ?_
      refine wpAny_assignInOrder_more (wpAny_bindName (store_ (hx x (.head _)) g el C S R hv fun m₁ cs₁ h₁ tk₁ P₁ R₁ => ?_))
      refine ih ds _ (rset ρ x d) m₁ cs₁ { s with heap := h₁, toks := tk₁ } (fun y hy => hx y (.tail _ hy)) (Nat.succ.inj hl) hvs P₁.cells P₁.sim R₁ fun m₂ cs₂ h₂ tk₂ P₂ R₂ => q m₂ cs₂ h₂ tk₂ (P₁.trans P₂) ?_
      rw [List.reverse_cons, List.reverse_cons, rsets_snoc ρ x d _ _ (by rw [List.length_reverse, List.length_reverse]; exact Nat.succ.inj hl)]
      exact R₂

theorem VRs.rev {Hb : Heap} {im : Led} {β : List Addr} {vs : List Value} {ds : List V} (h : VRs Hb im β vs ds) : VRs Hb im β vs.reverse ds.reverse := by
  induction ds generalizing vs with
  | nil => exact h.cNil .nil
  | cons d ds ih => refine h.cCons fun w ws h r => ?_; rw [List.reverse_cons, List.reverse_cons]; exact (ih r).append (.one h)

theorem AssignTuple_ {elts : List Expr} {k : Nat} {tpos pos : Pos} {value : Expr} {xs : List String} {Q : Fl → Rho → List O → Prop} (hx : ∀ x ∈ xs, May sc x)
    (hw : ∀ env : Env, env.scope.kind = .function → env.scope.names = sc → swappedStores [.Tuple elts k tpos] value env = pure (some (xs.map Str.ofString)))
    (h : AW X n sc ρ σ value fun d σ' => ∃ ds, d = .tup ds ∧ ds.length = xs.length ∧ Q .next (rsets ρ xs ds) σ')
    (hs : ∀ env, swapsWithSole [.Tuple elts k tpos] value pos.line env = pure false := by intro _; rfl) : AX X n sc ρ σ (.Assign [.Tuple elts k tpos] value pos) Q :=
  fun A env h₀ L m os cs im fr s Qc Ec F el C S R q => Assign_Tuple_swapped (h A env h₀ L m os cs im fr s _ Ec F S R fun v d σ₁ os₁ im₁ h₁ tk₁ k₁ P₁ r₁ => by
    obtain ⟨ds, rfl, hl, hq⟩ := k₁
    refine r₁.cTup fun a vs k' hm hv => ?_
    refine unpackItemsN_ (s := { s with heap := h₁, toks := tk₁ }) P₁.sim.F P₁.sim.N (isTup_im F P₁.sim hm) F.hh (by rw [List.size_toArray, hv.length, hl, List.length_map]) fun h₂ F₂ N₂ => ?_
    have S₂ : Sim X h₀ L m os₁ cs im₁ fr σ₁ h₂ := ⟨F₂, N₂, P₁.sim.nd, P₁.sim.sep, P₁.sim.st⟩
    have := storeAll_ (Qc := fun _ => Qc .next) (Ec := Ec) F el xs.reverse ds.reverse vs.reverse ρ m cs { s with heap := h₂, toks := tk₁ } (fun x hx' => hx x (List.mem_reverse.mp hx')) (by rw [List.length_reverse, List.length_reverse, hl]) (VRs.rev hv) C S₂ (R.post P₁.sub P₁.pre) fun m₃ cs₃ h₃ tk₃ P₃ R₃ => q _ _ _ _ m₃ os₁ cs₃ im₁ h₃ tk₃ hq ⟨fun p hp => P₃.sub _ (P₁.sub _ hp), P₁.pre.trans P₃.pre, P₃.cells, P₃.sim⟩ (by rw [List.reverse_reverse, List.reverse_reverse] at R₃; exact R₃) .next
    rw [← List.map_reverse, List.map_map]
    exact this) (hs env) (hw env F.kind F.names)
end

/-- the text's own defs, by their place -/
def fbody (i : Nat) : List Stmt := match PySem.Challenge.pw_no0234_01.main.body[i]? with
  | some (.FunctionDef _ _ b _ _ _ _ _ _ _) => b
  | _ => []
def fsc (i : Nat) : List (Str × NameKind) := match PySem.Challenge.pw_no0234_01.main.body[i]? with
  | some (.FunctionDef _ _ _ _ _ _ s _ _ _) => s.names
  | _ => []

abbrev S (x : String) : Str := Str.ofString x
abbrev vs (x : String) : V := .str (S x)

def shapeTab : List (String × String) := [("set", "w--"), ("move", "wr"), ("bin", "w--rr"), ("cmp", "w--rr"), ("un", "w--r"), ("addr", "w-"), ("elem", "wrR"), ("load", "wr"), ("store", "rr"), ("call", "v-AJ"), ("jump", "j"), ("true", "rj"), ("false", "rj"), ("sign", "rjjj"), ("switch", "rJ"), ("return", "o"), ("nop", "")]
def readTab : List (String × List Int) := [("move", [2]), ("bin", [4, 5]), ("cmp", [4, 5]), ("un", [4]), ("load", [2]), ("store", [1, 2]), ("true", [1]), ("false", [1]), ("sign", [1]), ("switch", [1]), ("elem", [2]), ("return", [1])]
def readNot : List String := ["set", "addr", "call", "jump", "nop"]
def leavingL : List Str := [S "jump", S "sign", S "agoto", S "return", S "stop"]
def writesL : List Str := [S "set", S "move", S "bin", S "cmp", S "un", S "addr", S "elem", S "load", S "call"]

/-- what is known of the top -/
structure TopOk (X : Cfg) (aS aR : Addr) : Prop where
  f3 : ∃ f, Code X "reads_of" ["op"] (fsc 3) (fbody 3) f
  f4 : ∃ f, Code X "writes_of" ["op"] (fsc 4) (fbody 4) f
  f5 : ∃ f, Code X "jumps_of" ["op"] (fsc 5) (fbody 5) f
  f6 : ∃ f, Code X "goes_on" ["op"] (fsc 6) (fbody 6) f
  f8 : ∃ f, Code X "block_begins" ["ops", "starts"] (fsc 8) (fbody 8) f
  f9 : ∃ f, Code X "follows" ["ops", "at"] (fsc 9) (fbody 9) f
  f10 : ∃ f, Code X "reached" ["ops", "starts"] (fsc 10) (fbody 10) f
  f11 : ∃ f, Code X "mask_of" ["registers"] (fsc 11) (fbody 11) f
  f12 : ∃ f, Code X "live_ahead" ["ops"] (fsc 12) (fbody 12) f
  f13 : ∃ f, Code X "live_behind" ["ops", "live", "at"] (fsc 13) (fbody 13) f
  f17 : ∃ f, Code X "ranges_of" ["ops"] (fsc 17) (fbody 17) f
  f18 : ∃ f, Code X "widen" ["found", "register", "at"] (fsc 18) (fbody 18) f
  f20 : ∃ f, Code X "_law_draw" ["pen", "many"] (fsc 20) (fbody 20) f
  f21 : ∃ f, Code X "_law_op" ["pen", "size"] (fsc 21) (fbody 21) f
  f24 : ∃ f, Code X "_law_read_by" ["op"] (fsc 24) (fbody 24) f
  f25 : ∃ f, Code X "_law_goals" ["op"] (fsc 25) (fbody 25) f
  f26 : ∃ f, Code X "_law_ways" ["ops", "at"] (fsc 26) (fbody 26) f
  f27 : ∃ f, Code X "_law_sought" ["ops", "start", "register"] (fsc 27) (fbody 27) f
  blt : ∀ x ∈ ["range", "len", "isinstance", "tuple", "list", "abs", "sum"], nsIn X.K mainGlobals (Str.ofString x) = some none
  shapes : nsIn X.K mainGlobals (Str.ofString "SHAPES") = some (some (.ref aS))
  shapesD : ∃ es k, X.K.lookup aS = some ⟨.type "dict", none, .dict es k, #[]⟩ ∧ KeysLit X.w.params es.toList
  shape : ∀ p ∈ shapeTab, ∃ t, nsIn X.K aS (S p.1) = some (some (.str (S p.2) t))
  rd : nsIn X.K mainGlobals (Str.ofString "_law_reads") = some (some (.ref aR))
  rdD : ∃ es k, X.K.lookup aR = some ⟨.type "dict", none, .dict es k, #[]⟩ ∧ KeysLit X.w.params es.toList
  rdLow : (aR == sysModules) = false
  read : ∀ p ∈ readTab, ∃ v, nsIn X.K aR (S p.1) = some (some v) ∧ ∀ im β, VR X.Hb im β v (.list (p.2.map V.int))
  readN : ∀ x ∈ readNot, nsIn X.K aR (S x) = some none
  leaving : ∃ v, nsIn X.K mainGlobals (Str.ofString "LEAVING") = some (some v) ∧ ∀ im β, VR X.Hb im β v (.tup (leavingL.map V.str))
  writes : ∃ v, nsIn X.K mainGlobals (Str.ofString "_law_writes") = some (some v) ∧ ∀ im β, VR X.Hb im β v (.tup (writesL.map V.str))
  int0 : ∃ t, nsIn X.K mainGlobals (Str.ofString "INTEGER") = some (some (.int 0 t))
  log4 : ∃ t, nsIn X.K mainGlobals (Str.ofString "LOGICAL") = some (some (.int 4 t))

section
variable {X : Cfg} {n : Nat} {sc : List (Str × NameKind)} {ρ : Rho} {σ : List O} {Q : V → List O → Prop} {QF : Fl → Rho → List O → Prop} {aS aR : Addr}

theorem goNext {rest : List Stmt} (h : AXs X n sc ρ σ rest QF) : Go X n sc rest QF .next ρ σ := h
theorem goRet {rest : List Stmt} {d : V} (h : QF (.ret d) ρ σ) : Go X n sc rest QF (.ret d) ρ σ := h
theorem goCont {rest : List Stmt} (h : QF .cont ρ σ) : Go X n sc rest QF .cont ρ σ := h
theorem ite_ {b : Bool} {P R : Prop} (h1 : b = true → P) (h2 : b = false → R) : if b = true then P else R := by
  cases b
  · simp; exact h2 rfl
  · simp; exact h1 rfl
theorem ite2 {b : Bool} {P R : Prop} (h1 : P) (h2 : R) : if b = true then P else R := ite_ (fun _ => h1) fun _ => h2
theorem iteT {b : Bool} {P R : Prop} (e : b = true) (h : P) : if b = true then P else R := by rw [if_pos e]; exact h
theorem iteF {b : Bool} {P R : Prop} (e : b = false) (h : R) : if b = true then P else R := by subst e; simpa using h
theorem retS {b : Nat} {d : V} (hn : d.nr = true) (h : Q d (σ.take b)) : RetQ b Q (.ret d) ρ σ := ⟨d, .same hn, h⟩
theorem retL {b k : Nat} {ds : List V} (hb : b ≤ k) (hk : σ[k]? = some (.list ds)) (h : Q (.list ds) (σ.take b)) : RetQ b Q (.ret (.ref k)) ρ σ := ⟨_, .list hb hk, h⟩
theorem retD {b k : Nat} {ds : List (Int × V)} (hb : b ≤ k) (hk : σ[k]? = some (.dict ds)) (h : Q (.dict ds) (σ.take b)) : RetQ b Q (.ret (.ref k)) ρ σ := ⟨_, .dict hb hk, h⟩
theorem retN {b : Nat} (h : Q .none (σ.take b)) : RetQ b Q .next ρ σ := h

theorem callB {T : TopOk X aS aR} {x : String} {np pos : Pos} {e : Expr} {rest : List Expr} {v : Value} (hm : x ∈ ["range", "len", "isinstance", "tuple", "list", "abs", "sum"]) (hv : bootBuiltins (Str.ofString x) = some v) (hn : Str.ofString x ≠ "__name__")
    (hf : (∃ id, v = .builtin id) ∨ (∃ T, v = .type T)) (hx : sc.lookup (Str.ofString x) = some .globalImplicit)
    (h : AWl X n sc ρ σ (e :: rest) fun ds σ₁ => OpC X n σ₁ v ds Q)
    (he : ∀ env, starEach (e :: rest) env = (false, eval e env) :: starEach rest env := by intro _; rfl) (hplain : ∀ env, (backTo pos (starEach rest env)).any (·.1) = false := by intro _; rfl)
    (hd : (Str.ofString x == ("__debug__" : Str)) = false := by decide) : AW X n sc ρ σ (.Call (.Name (Str.ofString x) np) (e :: rest) [] pos) Q :=
  Call_ (.blt (T.blt x hm) hv hn) (hf.imp id fun h => .inl h) hx h he hplain hd

theorem callF {x : String} {ps : List String} {fsc : List (Str × NameKind)} {body : List Stmt} {np pos : Pos} {e : Expr} {rest : List Expr} (c : ∃ f, Code X x ps fsc body f) (hx : sc.lookup (Str.ofString x) = some .globalImplicit)
    (h : AWl X n sc ρ σ (e :: rest) fun ds σ₁ => ∀ f, Code X x ps fsc body f → OpC X n σ₁ (.ref f) ds Q)
    (he : ∀ env, starEach (e :: rest) env = (false, eval e env) :: starEach rest env := by intro _; rfl) (hplain : ∀ env, (backTo pos (starEach rest env)).any (·.1) = false := by intro _; rfl)
    (hd : (Str.ofString x == ("__debug__" : Str)) = false := by decide) : AW X n sc ρ σ (.Call (.Name (Str.ofString x) np) (e :: rest) [] pos) Q := by
  obtain ⟨f, c⟩ := c
  exact Call_ c.callee (.inr (.inr ⟨f, rfl, c.keep⟩)) hx (h.mono fun d σ' k => k f c) he hplain hd

/-- fewer names -/
def Sup (ρ ρ' : Rho) : Prop := ∀ x d, Lk ρ' x d → Lk ρ x d
theorem Sup.nil : Sup ρ [] := fun _ _ h => nomatch h
theorem Sup.cons {x : String} {d : V} {r : Rho} (h : Lk ρ x d) (t : Sup ρ r) : Sup ρ ((x, d) :: r) := fun y e l => by
  cases l with
  | here => exact h
  | there _ l => exact t _ _ l
theorem Sup.set {r : Rho} {x : String} {d : V} (h : Sup ρ r) : Sup (rset ρ x d) ((x, d) :: r) := fun y e l => by
  cases l with
  | here => exact .here
  | there q l => exact .there q (h _ _ l)
theorem Sup.refl : Sup ρ ρ := fun _ _ h => h
theorem Lk.set_ne {x y : String} {d e : V} (h : Lk ρ x d) (hn : (y == x) = false) : Lk (rset ρ y e) x d := .there hn h
end

section
variable {ρ : Rho} {x y : String} {d e : V}
theorem Lk.rhere : Lk (rset ρ x d) x d := .here
theorem Lk.rthere (hn : (y == x) = false) (h : Lk ρ x d) : Lk (rset ρ y e) x d := .there hn h
end
section
variable {X : Cfg} {n : Nat} {sc : List (Str × NameKind)} {ρ : Rho} {σ : List O} {Q : V → List O → Prop} {QB : Bool → List O → Prop} {aS aR : Addr}

theorem exB {c : Bool} {P : Bool → Prop} (h : P c) : ∃ c', V.bool c = .bool c' ∧ P c' := ⟨c, rfl, h⟩
theorem exI {c : Int} {P : Int → Prop} (h : P c) : ∃ c', V.int c = .int c' ∧ P c' := ⟨c, rfl, h⟩

/-- both ways of a part of an and, an or -/
def AndK (b : Bool) (P R : Prop) : Prop := (b = true → R) ∧ (b = false → P)
theorem AndK.both {b : Bool} {P R : Prop} (h1 : R) (h2 : P) : AndK b P R := ⟨fun _ => h1, fun _ => h2⟩
theorem AndK.t {b : Bool} {P R : Prop} (e : b = true) (h : R) : AndK b P R := ⟨fun _ => h, fun q => by rw [e] at q; cases q⟩
theorem AndK.f {b : Bool} {P R : Prop} (e : b = false) (h : P) : AndK b P R := ⟨fun q => (by rw [e] at q; cases q), fun _ => h⟩
theorem andCons {e : Expr} {r : List Expr} (h : AWt X n sc ρ σ e fun b σ' => AndK b (QB false σ') (Alls X n sc ρ .And r QB σ')) : Alls X n sc ρ .And (e :: r) QB σ :=
  fun A env h₀ L m os cs im fr s Qc Ec F S R q => h A env h₀ L m os cs im fr s Qc Ec F S R fun b σ' os' im' h' tk' k P => q b σ' os' im' h' tk' (by
    cases b with
    | true => exact k.1 rfl
    | false => exact k.2 rfl) P
theorem orCons {e : Expr} {r : List Expr} (h : AWt X n sc ρ σ e fun b σ' => AndK b (Alls X n sc ρ .Or r QB σ') (QB true σ')) : Alls X n sc ρ .Or (e :: r) QB σ :=
  fun A env h₀ L m os cs im fr s Qc Ec F S R q => h A env h₀ L m os cs im fr s Qc Ec F S R fun b σ' os' im' h' tk' k P => q b σ' os' im' h' tk' (by
    cases b with
    | true => exact k.1 rfl
    | false => exact k.2 rfl) P
theorem andNil (h : QB true σ) : Alls X n sc ρ .And [] QB σ := h
theorem orNil (h : QB false σ) : Alls X n sc ρ .Or [] QB σ := h

/-! the store -/
theorem sgSet {k : Nat} {x y : O} (h : σ[k]? = some y) : (σ.set k x)[k]? = some x := by
  obtain ⟨hl, _⟩ := List.getElem?_eq_some_iff.mp h
  simp [hl]
theorem sgNe {j k : Nat} {x y : O} (hn : k ≠ j) (h : σ[j]? = some y) : (σ.set k x)[j]? = some y := by rw [List.getElem?_set_ne hn]; exact h
theorem sgApp {k : Nat} {y : O} {l : List O} (h : σ[k]? = some y) : (σ ++ l)[k]? = some y := by
  obtain ⟨hl, _⟩ := List.getElem?_eq_some_iff.mp h
  rw [List.getElem?_append_left hl]; exact h
theorem sgLast {x : O} : (σ ++ [x])[σ.length]? = some x := by simp

/-! methods -/
theorem mAppend {o e : Expr} {apos pos : Pos} (h : AW X n sc ρ σ o fun d σ₁ => ∃ k ds, d = .ref k ∧ σ₁[k]? = some (.list ds) ∧ AW X n sc ρ σ₁ e fun d' σ₂ => ∃ ds', σ₂[k]? = some (.list ds') ∧ ds'.length ≤ 1000 ∧ d'.nr = true ∧ Q .none (σ₂.set k (.list (ds' ++ [d']))))
    (hbase : ∀ env, attributeBase o (Str.ofString "append") env (eval o env) = eval o env := by intro _; k_dflt rfl)
    (hfew : ∀ env, ((backTo pos (starEach [e] env)).all (fun x => !x.1) && (backToKw pos (keywordEach [] env)).all (fun x => x.1.isSome)
      && decide ([e].length + ([] : List Keyword).length + (if ([] : List Keyword).isEmpty then 0 else 1) < 30)) = true := by intro _; k_dflt rfl)
    (hline : (apos.endLine == pos.line) = true := by k_dflt rfl)
    (he : ∀ env, starEach [e] env = (false, eval e env) :: starEach [] env := by intro _; k_dflt rfl) : AW X n sc ρ σ (.Call (.Attribute o (Str.ofString "append") apos) [e] [] pos) Q :=
  Method_ PySem.F.plainAttrs_list PySem.F.slot_list_append rfl (h.mono fun d σ₁ k => by
    obtain ⟨k, ds, rfl, hk, hh⟩ := k
    refine ⟨.list (.mu hk), l_cons (hh.mono fun d' σ₂ q => l_nil ?_) he⟩
    obtain ⟨ds', h1, h2, h3, h4⟩ := q
    exact .append h1 h2 h3 h4) hbase hfew hline he (by intro _; rfl)
theorem mExtend {o e : Expr} {apos pos : Pos} (h : AW X n sc ρ σ o fun d σ₁ => ∃ k ds, d = .ref k ∧ σ₁[k]? = some (.list ds) ∧ AW X n sc ρ σ₁ e fun d' σ₂ => ∃ ds' es, σ₂[k]? = some (.list ds') ∧ d' = .list es ∧ ds'.length + es.length ≤ 1000 ∧ V.nrs es = true ∧ Q .none (σ₂.set k (.list (ds' ++ es))))
    (hbase : ∀ env, attributeBase o (Str.ofString "extend") env (eval o env) = eval o env := by intro _; k_dflt rfl)
    (hfew : ∀ env, ((backTo pos (starEach [e] env)).all (fun x => !x.1) && (backToKw pos (keywordEach [] env)).all (fun x => x.1.isSome)
      && decide ([e].length + ([] : List Keyword).length + (if ([] : List Keyword).isEmpty then 0 else 1) < 30)) = true := by intro _; k_dflt rfl)
    (hline : (apos.endLine == pos.line) = true := by k_dflt rfl)
    (he : ∀ env, starEach [e] env = (false, eval e env) :: starEach [] env := by intro _; k_dflt rfl) : AW X n sc ρ σ (.Call (.Attribute o (Str.ofString "extend") apos) [e] [] pos) Q :=
  Method_ PySem.F.plainAttrs_list PySem.F.slot_list_extend rfl (h.mono fun d σ₁ k => by
    obtain ⟨k, ds, rfl, hk, hh⟩ := k
    refine ⟨.list (.mu hk), l_cons (hh.mono fun d' σ₂ q => l_nil ?_) he⟩
    obtain ⟨ds', es, h1, h2, h3, h4, h5⟩ := q
    exact .extend h1 h2 h3 h4 h5) hbase hfew hline he (by intro _; rfl)
theorem mPop {o : Expr} {apos pos : Pos} (h : AW X n sc ρ σ o fun d σ₁ => ∃ k ds e, d = .ref k ∧ σ₁[k]? = some (.list (ds ++ [e])) ∧ ds.length ≤ 1000 ∧ Q e (σ₁.set k (.list ds)))
    (hbase : ∀ env, attributeBase o (Str.ofString "pop") env (eval o env) = eval o env := by intro _; k_dflt rfl)
    (hfew : ∀ env, ((backTo pos (starEach [] env)).all (fun x => !x.1) && (backToKw pos (keywordEach [] env)).all (fun x => x.1.isSome)
      && decide (([] : List Expr).length + ([] : List Keyword).length + (if ([] : List Keyword).isEmpty then 0 else 1) < 30)) = true := by intro _; k_dflt rfl)
    (hline : (apos.endLine == pos.line) = true := by k_dflt rfl) : AW X n sc ρ σ (.Call (.Attribute o (Str.ofString "pop") apos) [] [] pos) Q :=
  Method0_ PySem.F.plainAttrs_list PySem.F.slot_list_pop rfl (h.mono fun d σ₁ k => by
    obtain ⟨k, ds, e, rfl, hk, hl, hq⟩ := k
    exact ⟨.list (.mu hk), .pop hk hl hq⟩) hbase hfew hline

/-- a dict of the top: get with a default -/
theorem OpC.getG {a : Nat} {x : Str} {e d : V} {r : Option Value} {es : Array DictEntry} {k : Nat} (hl : X.K.lookup a = some ⟨.type "dict", none, .dict es k, #[]⟩) (hk : KeysLit X.w.params es.toList) (lo : (a == sysModules) = false) (hr : nsIn X.K a x = some r)
    (hv : (∃ v, r = some v ∧ ∀ im β, VR X.Hb im β v d) ∨ (r = none ∧ d = e)) (h : Q d σ) : OpC X n σ (.builtin "dict.get") [.addr a, .str x, e] Q := fun vs A env h₀ L sc m os cs im fr s Qc Ec F S r' q =>
  r'.c3 fun u v w r₁ r₂ r₃ => r₁.cAddr (r₂.cStr fun t => by
    have hm := mapOf_K (prog := X.prog) (X.inK.keeps (F.hb S.F)) hl hk
    refine call_meetsIn PySem.F.slot_dict_get hm.typeIs PySem.F.entry_dict_get (PySem.F.args_dict_get_3 _ _ _) (meets_dict_get_default (strKind X.prog X.w) a (strKind_is X.prog X.w x _) lo _) ⟨_, hm, ?_⟩
    refine q _ _ _ _ _ s.heap _ h (Post.refl S) ?_
    show VR X.Hb im (adr os) ((findBy Value.isStrOf es x).getD _) d
    rw [find_K hl hr]
    rcases hv with ⟨v, rfl, hv⟩ | ⟨rfl, rfl⟩
    · exact hv _ _
    · exact r₃)
theorem TyOf.addrD {a : Nat} {es : Array DictEntry} {k : Nat} (hl : X.K.lookup a = some ⟨.type "dict", none, .dict es k, #[]⟩) : TyOf X σ (.addr a) "dict" := fun n v A env h₀ L sc m os cs im fr s F S r => by
  refine r.cAddr ?_
  have ho := X.inK.keeps (F.hb S.F) _ _ hl
  exact ⟨⟨_, ho, rfl⟩, fun b e => by cases e; exact ⟨_, ho, rfl⟩⟩

/-! the top's names -/
theorem nmA {x : String} {pos : Pos} {a : Nat} (e : nsIn X.K mainGlobals (Str.ofString x) = some (some (.ref a))) (hx : sc.lookup (Str.ofString x) = some .globalImplicit) (h : Q (.addr a) σ) (hd : (Str.ofString x == ("__debug__" : Str)) = false) : AW X n sc ρ σ (.Name (Str.ofString x) pos) Q :=
  NameG_ e hx (fun _ _ => .addr a) h hd
theorem nmV {x : String} {pos : Pos} {d : V} (e : ∃ v, nsIn X.K mainGlobals (Str.ofString x) = some (some v) ∧ ∀ im β, VR X.Hb im β v d) (hx : sc.lookup (Str.ofString x) = some .globalImplicit) (h : Q d σ) (hd : (Str.ofString x == ("__debug__" : Str)) = false) : AW X n sc ρ σ (.Name (Str.ofString x) pos) Q := by
  obtain ⟨v, e, hv⟩ := e
  exact NameG_ e hx hv h hd
theorem TopOk.int0' (T : TopOk X aS aR) : ∃ v, nsIn X.K mainGlobals (Str.ofString "INTEGER") = some (some v) ∧ ∀ im β, VR X.Hb im β v (.int 0) := by
  obtain ⟨t, e⟩ := T.int0; exact ⟨_, e, fun _ _ => .int _ _⟩
theorem TopOk.log4' (T : TopOk X aS aR) : ∃ v, nsIn X.K mainGlobals (Str.ofString "LOGICAL") = some (some v) ∧ ∀ im β, VR X.Hb im β v (.int 4) := by
  obtain ⟨t, e⟩ := T.log4; exact ⟨_, e, fun _ _ => .int _ _⟩
/-- the shape of an operation -/
theorem shp {value slice : Expr} {x y : String} (T : TopOk X aS aR) (hm : (x, y) ∈ shapeTab) (h : Q (.str (Str.ofString y)) σ)
    (hs : ∀ a t, subscripted slice false (.ref a) (.str (Str.ofString x) t) = operate [.ref a, .str (Str.ofString x) t] (getItem (.ref a) (.str (Str.ofString x) t))) : Op2 X n σ (subscriptTail value slice) (.addr aS) (.str (Str.ofString x)) Q := by
  obtain ⟨es, k, hl, hk⟩ := T.shapesD
  obtain ⟨t, e⟩ := T.shape _ hm
  exact .itemG hl hk e (fun _ _ => .str _ _) h hs

theorem retA {b : Nat} {d : V} (hb : σ.length ≤ b) (hn : d.nr = true) (h : Q d σ) : RetQ b Q (.ret d) ρ σ := ⟨d, .same hn, by rw [List.take_of_length_le hb]; exact h⟩
theorem retAN {b : Nat} (hb : σ.length ≤ b) (h : Q .none σ) : RetQ b Q .next ρ σ := by show Q .none (σ.take b); rw [List.take_of_length_le hb]; exact h
theorem fmod_range {a m : Int} (h : 0 < m) : 0 ≤ a.fmod m ∧ a.fmod m < m := ⟨Int.fmod_nonneg_of_pos _ h, Int.fmod_lt_of_pos _ h⟩
theorem getInt {ns : List Int} {k : Int} (h0 : 0 ≤ k) (h : k < ns.length) : ∃ x, (ns.map V.int)[k.toNat]? = some (.int x) := by
  have hk : k.toNat < ns.length := by omega
  exact ⟨ns[k.toNat], by simp [hk]⟩
end

/-! expressions that only look: what they answer, with no word of what follows -/
/-- no name that the machine treats apart -/
def okN (x : String) : Bool := !(Str.ofString x == ("__debug__" : Str)) && !(Str.ofString x == ("__classdict__" : Str))
theorem okN.d {x : String} (h : okN x = true) : (Str.ofString x == ("__debug__" : Str)) = false := by
  unfold okN at h
  cases hb : Str.ofString x == ("__debug__" : Str) <;> rw [hb] at h <;> first | rfl | cases h
theorem okN.c {x : String} (h : okN x = true) : (Str.ofString x == ("__classdict__" : Str)) = false := by
  unfold okN at h
  cases hb : Str.ofString x == ("__classdict__" : Str) <;> rw [hb] at h <;> first | rfl | (cases hd : Str.ofString x == ("__debug__" : Str) <;> rw [hd] at h <;> cases h)
def noStar : Expr → Bool
  | .Starred .. => false
  | _ => true
theorem starEach_of {e : Expr} {rest : List Expr} (h : noStar e = true) (env : Env) : starEach (e :: rest) env = (false, eval e env) :: starEach rest env := by
  cases e <;> first | rfl | cases h
def Ev (X : Cfg) (sc : List (Str × NameKind)) (ρ : Rho) (σ : List O) (e : Expr) (d : V) : Prop := ∀ (n : Nat) (Q : V → List O → Prop), Q d σ → AW X n sc ρ σ e Q
def EvL (X : Cfg) (sc : List (Str × NameKind)) (ρ : Rho) (σ : List O) (es : List Expr) (ds : List V) : Prop := ∀ (n : Nat) (Q : List V → List O → Prop), Q ds σ → AWl X n sc ρ σ es Q
def O2 (X : Cfg) (σ : List O) (T : Value → Value → Sem Value) (a b d : V) : Prop := ∀ (n : Nat) (Q : V → List O → Prop), Q d σ → Op2 X n σ T a b Q
section
variable {X : Cfg} {n : Nat} {sc : List (Str × NameKind)} {ρ : Rho} {σ : List O} {Q : V → List O → Prop} {QL : List V → List O → Prop} {QB : Bool → List O → Prop} {aS aR : Addr} {e : Expr} {es : List Expr} {pos : Pos} {d : V} {ds : List V}
theorem Ev.use (h : Ev X sc ρ σ e d) (k : Q d σ) : AW X n sc ρ σ e Q := h n Q k
theorem EvL.use (h : EvL X sc ρ σ es ds) (k : QL ds σ) : AWl X n sc ρ σ es QL := h n QL k
theorem Ev.nm {x : String} (l : Lk ρ x d) (h : okN x = true) : Ev X sc ρ σ (.Name (Str.ofString x) pos) d := fun _ _ q => Name_ l q (okN.d h) (okN.c h)
theorem Ev.gl {x : String} (k : ∃ v, nsIn X.K mainGlobals (Str.ofString x) = some (some v) ∧ ∀ im β, VR X.Hb im β v d) (hx : sc.lookup (Str.ofString x) = some .globalImplicit) (h : okN x = true) : Ev X sc ρ σ (.Name (Str.ofString x) pos) d := fun _ _ q => nmV k hx q (okN.d h)
theorem Ev.cI {i : Int} {k} : Ev X sc ρ σ (.Constant (.int i) k pos) (.int i) := fun _ _ q => Const_int q
theorem Ev.cS {i : Str} {k} : Ev X sc ρ σ (.Constant (.str i) k pos) (.str i) := fun _ _ q => Const_str q
theorem Ev.cB {i : Bool} {k} : Ev X sc ρ σ (.Constant (.bool i) k pos) (.bool i) := fun _ _ q => Const_bool q
theorem Ev.bin {l r : Expr} {op : Operator} {a b : V} (h : Ev X sc ρ σ l a) (k : Ev X sc ρ σ r b) (o : O2 X σ (binaryOp op) a b d) : Ev X sc ρ σ (.BinOp l op r pos) d := fun n Q q => BinOp_ (h n _ (k n _ (o n Q q)))
theorem Ev.cmp {l r : Expr} {op : CmpOp} {a b : V} (h : Ev X sc ρ σ l a) (k : Ev X sc ρ σ r b) (o : O2 X σ (compareOp op) a b d) (hm : behindInMarks op r = false) : Ev X sc ρ σ (.Compare l [op] [r] pos) d := fun n Q q => Compare_ (h n _ (k n _ (o n Q q))) hm
theorem Ev.sub {v s : Expr} {a b : V} (h : Ev X sc ρ σ v a) (k : Ev X sc ρ σ s b) (o : O2 X σ (subscriptTail v s) a b d) : Ev X sc ρ σ (.Subscript v s pos) d := fun n Q q => Subscript_ (h n _ (k n _ (o n Q q)))
theorem Ev.tup {k : Nat} (h : EvL X sc ρ σ es ds) (hl : Nat.ble ds.length 1000 = true) : Ev X sc ρ σ (.Tuple es k pos) (.tup ds) := fun n Q q => Tuple_ (h n _ ⟨Nat.le_of_ble_eq_true hl, q⟩)
theorem Ev.lst (h : EvL X sc ρ σ es ds) (hl : Nat.ble ds.length 1000 = true) : Ev X sc ρ σ (.List es pos) (.list ds) := fun n Q q => ListF_ (h n _ ⟨Nat.le_of_ble_eq_true hl, q⟩)
theorem Ev.len {np : Pos} {rest : List Expr} (T : TopOk X aS aR) (hx : sc.lookup (Str.ofString "len") = some .globalImplicit) (h : Ev X sc ρ σ e d) (hs : noStar e = true) (c : LC σ d ds) (hl : ds.length ≤ 1000) : Ev X sc ρ σ (.Call (.Name (Str.ofString "len") np) [e] [] pos) (.int ds.length) :=
  fun n Q q => callB (T := T) (v := .builtin "len") (by simp) rfl (by decide) (.inl ⟨_, rfl⟩) hx (l_cons (h n _ (l_nil (.len c hl q))) (starEach_of hs)) (starEach_of hs) (fun _ => rfl) (by decide)
theorem EvL.nil : EvL X sc ρ σ [] [] := fun _ _ q => l_nil q
theorem EvL.cons (h : Ev X sc ρ σ e d) (t : EvL X sc ρ σ es ds) (hs : noStar e = true) : EvL X sc ρ σ (e :: es) (d :: ds) := fun n _ q => l_cons (h n _ (t n _ q)) (starEach_of hs)
theorem Ev.tc {l r : Expr} {op : CmpOp} {a b : V} {c : Bool} (h : Ev X sc ρ σ l a) (k : Ev X sc ρ σ r b) (o : O2 X σ (compareOp op) a b (.bool c)) (hm : behindInMarks op r = false) (q : QB c σ) : AWt X n sc ρ σ (.Compare l [op] [r] pos) QB :=
  t_cmp (h n _ (k n _ (o n _ ⟨c, rfl, q⟩))) hm
theorem O2.of {T : Value → Value → Sem Value} {a b : V} (h : ∀ (n : Nat) (Q : V → List O → Prop), Q d σ → Op2 X n σ T a b Q) : O2 X σ T a b d := h
theorem O2.use {T : Value → Value → Sem Value} {a b : V} (h : O2 X σ T a b d) (k : Q d σ) : Op2 X n σ T a b Q := h n Q k
theorem callG {x : String} {ps : List String} {fsc : List (Str × NameKind)} {body : List Stmt} {np : Pos} {rest : List Expr} (c : ∃ f, Code X x ps fsc body f) (h : AWl X n sc ρ σ (e :: rest) fun ds σ₁ => ∀ f, Code X x ps fsc body f → OpC X n σ₁ (.ref f) ds Q)
    (hx : sc.lookup (Str.ofString x) = some .globalImplicit := by k_dflt rfl) (hs : noStar e = true := by k_dflt rfl) (hplain : ∀ env, (backTo pos (starEach rest env)).any (·.1) = false := by intro _; k_dflt rfl)
    (hd : (Str.ofString x == ("__debug__" : Str)) = false := by decide) : AW X n sc ρ σ (.Call (.Name (Str.ofString x) np) (e :: rest) [] pos) Q := callF c hx h (starEach_of hs) hplain hd
theorem callLn {np : Pos} {rest : List Expr} (T : TopOk X aS aR) (h : AWl X n sc ρ σ (e :: rest) fun ds σ₁ => OpC X n σ₁ (.builtin "len") ds Q) (hx : sc.lookup (Str.ofString "len") = some .globalImplicit := by k_dflt rfl) (hs : noStar e = true := by k_dflt rfl)
    (hplain : ∀ env, (backTo pos (starEach rest env)).any (·.1) = false := by intro _; k_dflt rfl) : AW X n sc ρ σ (.Call (.Name (Str.ofString "len") np) (e :: rest) [] pos) Q := callB (T := T) (v := .builtin "len") (by simp) rfl (by decide) (.inl ⟨_, rfl⟩) hx h (starEach_of hs) hplain (by decide)
theorem callRg {np : Pos} {rest : List Expr} (T : TopOk X aS aR) (h : AWl X n sc ρ σ (e :: rest) fun ds σ₁ => OpC X n σ₁ (.type "range") ds Q) (hx : sc.lookup (Str.ofString "range") = some .globalImplicit := by k_dflt rfl) (hs : noStar e = true := by k_dflt rfl)
    (hplain : ∀ env, (backTo pos (starEach rest env)).any (·.1) = false := by intro _; k_dflt rfl) : AW X n sc ρ σ (.Call (.Name (Str.ofString "range") np) (e :: rest) [] pos) Q := callB (T := T) (v := .type "range") (by simp) rfl (by decide) (.inr ⟨_, rfl⟩) hx h (starEach_of hs) hplain (by decide)
theorem lCons (h : AW X n sc ρ σ e fun d σ₁ => AWl X n sc ρ σ₁ es fun ds σ₂ => QL (d :: ds) σ₂) (hs : noStar e = true := by k_dflt rfl) : AWl X n sc ρ σ (e :: es) QL := l_cons h (starEach_of hs)
theorem Ev.nA {x : String} {a : Nat} (k : nsIn X.K mainGlobals (Str.ofString x) = some (some (.ref a))) (hx : sc.lookup (Str.ofString x) = some .globalImplicit) (h : okN x = true) : Ev X sc ρ σ (.Name (Str.ofString x) pos) (.addr a) := fun _ _ q => nmA k hx q (okN.d h)
theorem O2.add {i j : Int} : O2 X σ (binaryOp .Add) (.int i) (.int j) (.int (i + j)) := fun _ _ q => .add q
theorem O2.sub {i j : Int} : O2 X σ (binaryOp .Sub) (.int i) (.int j) (.int (i - j)) := fun _ _ q => .sub q
theorem O2.mul {i j : Int} (hi : i.natAbs < 2 ^ 20) (hj : j.natAbs < 2 ^ 20) : O2 X σ (binaryOp .Mult) (.int i) (.int j) (.int (i * j)) := fun _ _ q => .mul hi hj q
theorem O2.mod {i j : Int} (hj : j ≠ 0) : O2 X σ (binaryOp .Mod) (.int i) (.int j) (.int (i.fmod j)) := fun _ _ q => .mod hj q
theorem O2.fdiv {i j : Int} (hj : j ≠ 0) (hj' : j.natAbs < 2 ^ 20) : O2 X σ (binaryOp .FloorDiv) (.int i) (.int j) (.int (i.fdiv j)) := fun _ _ q => .fdiv hj hj' q
theorem O2.eqI {i j : Int} : O2 X σ (compareOp .Eq) (.int i) (.int j) (.bool (i == j)) := fun _ _ q => .eqI q
theorem O2.neI {i j : Int} : O2 X σ (compareOp .NotEq) (.int i) (.int j) (.bool (i != j)) := fun _ _ q => .neI q
theorem O2.ltI {i j : Int} : O2 X σ (compareOp .Lt) (.int i) (.int j) (.bool (decide (i < j))) := fun _ _ q => .ltI q
theorem O2.geI {i j : Int} : O2 X σ (compareOp .GtE) (.int i) (.int j) (.bool (decide (i ≥ j))) := fun _ _ q => .geI q
theorem O2.eqS {x y : Str} : O2 X σ (compareOp .Eq) (.str x) (.str y) (.bool (x.cps.toList == y.cps.toList)) := fun _ _ q => .eqS q
abbrev Sits (slice : Expr) : Prop := ∀ a k u, subscripted slice false (.ref a) (.int k u) = operate [.ref a, .int k u] (getItem (.ref a) (.int k u))
theorem O2.itT {value slice : Expr} {i : Int} (h0 : decide (0 ≤ i ∧ i < 2 ^ 63) = true) (hd : ds[i.toNat]? = some d) (hs : Sits slice) : O2 X σ (subscriptTail value slice) (.tup ds) (.int i) d := fun _ _ q => .itemT (of_decide_eq_true h0).1 (of_decide_eq_true h0).2 hd q hs
theorem O2.itL {value slice : Expr} {a : V} {i : Int} (c : LC σ a ds) (h0 : decide (0 ≤ i ∧ i < 2 ^ 63) = true) (hd : ds[i.toNat]? = some d) (hs : Sits slice) : O2 X σ (subscriptTail value slice) a (.int i) d := fun _ _ q => .itemL c (of_decide_eq_true h0).1 (of_decide_eq_true h0).2 hd q hs
end

/-! an evaluator for expressions that only look -/
def noSlice : Expr → Bool
  | .Slice .. => false
  | _ => true
theorem sits_of {e : Expr} (h : noSlice e = true) : Sits e := fun a k u => by
  cases e <;> first | rfl | cases h
def noSet : Expr → Bool
  | .Set .. => false
  | _ => true
theorem marks_of {op : CmpOp} {e : Expr} (h : noSet e = true) : behindInMarks op e = false := by
  cases e <;> first | rfl | cases h
def okS (s : Str) : Bool := !(s == ("__debug__" : Str)) && !(s == ("__classdict__" : Str))
def lkP : Rho → Str → Option V
  | [], _ => none
  | (y, d) :: r, x => if Str.ofString y == x then some d else lkP r x
def glT (aS aR : Addr) : List (String × V) := [("INTEGER", .int 0), ("LOGICAL", .int 4), ("LEAVING", .tup (leavingL.map V.str)), ("_law_writes", .tup (writesL.map V.str)), ("SHAPES", .addr aS), ("_law_reads", .addr aR)]
def binP : Operator → V → V → Option V
  | .Add, .int i, .int j => some (.int (i + j))
  | .Sub, .int i, .int j => some (.int (i - j))
  | .Mult, .int i, .int j => if decide (i.natAbs < 2 ^ 20) && decide (j.natAbs < 2 ^ 20) then some (.int (i * j)) else none
  | .Mod, .int i, .int j => if decide (j = 0) then none else some (.int (i.fmod j))
  | .FloorDiv, .int i, .int j => if decide (j = 0) || !decide (j.natAbs < 2 ^ 20) then none else some (.int (i.fdiv j))
  | _, _, _ => none
def cmpP : CmpOp → V → V → Option V
  | .Eq, .int i, .int j => some (.bool (i == j))
  | .NotEq, .int i, .int j => some (.bool (i != j))
  | .Lt, .int i, .int j => some (.bool (decide (i < j)))
  | .GtE, .int i, .int j => some (.bool (decide (i ≥ j)))
  | .Eq, .str x, .str y => some (.bool (x.cps.toList == y.cps.toList))
  | _, _, _ => none
def atP (ds : List V) : Int → Option V
  | .ofNat j => if Nat.blt j 1000 then ds[j]? else none
  | .negSucc _ => none
def idxP (σ : List O) : V → V → Option V
  | .tup ds, .int i => atP ds i
  | .list ds, .int i => atP ds i
  | .ref k, .int i => match σ[k]? with
    | some (.list ds) => atP ds i
    | _ => none
  | _, _ => none
mutual
def evP (σ : List O) (sc : List (Str × NameKind)) (aS aR : Addr) : Nat → Rho → Expr → Option V
  | 0, _, _ => none
  | k + 1, ρ, e => match e with
    | .Name s _ => if okS s then (match lkP ρ s with
        | some d => some d
        | none => if sc.lookup s = some .globalImplicit then lkP (glT aS aR) s else none) else none
    | .Constant (.int i) _ _ => some (.int i)
    | .Constant (.str i) _ _ => some (.str i)
    | .Constant (.bool i) _ _ => some (.bool i)
    | .BinOp l op r _ => match evP σ sc aS aR k ρ l, evP σ sc aS aR k ρ r with
      | some a, some b => binP op a b
      | _, _ => none
    | .Compare l [op] [r] _ => if noSet r then (match evP σ sc aS aR k ρ l, evP σ sc aS aR k ρ r with
      | some a, some b => cmpP op a b
      | _, _ => none) else none
    | .Subscript v s _ => if noSlice s then (match evP σ sc aS aR k ρ v, evP σ sc aS aR k ρ s with
      | some a, some b => idxP σ a b
      | _, _ => none) else none
    | .Tuple es _ _ => match evPs σ sc aS aR k ρ es with
      | some ds => if Nat.ble ds.length 1000 then some (.tup ds) else none
      | none => none
    | .List es _ => match evPs σ sc aS aR k ρ es with
      | some ds => if Nat.ble ds.length 1000 then some (.list ds) else none
      | none => none
    | _ => none
def evPs (σ : List O) (sc : List (Str × NameKind)) (aS aR : Addr) : Nat → Rho → List Expr → Option (List V)
  | 0, _, _ => none
  | k + 1, ρ, es => match es with
    | [] => some []
    | e :: es => if noStar e then (match evP σ sc aS aR k ρ e, evPs σ sc aS aR k ρ es with
      | some d, some ds => some (d :: ds)
      | _, _ => none) else none
end

theorem lkP_sound {ρ : Rho} {s : Str} {d : V} (h : lkP ρ s = some d) : ∃ x, s = Str.ofString x ∧ Lk ρ x d := by
  induction ρ with
  | nil => cases h
  | cons p r ih =>
    obtain ⟨y, e⟩ := p
    unfold lkP at h
    split at h
    · rename_i hb
      cases h
      exact ⟨y, (eq_of_beq hb).symm, .here⟩
    · rename_i hb
      obtain ⟨x, rfl, l⟩ := ih h
      refine ⟨x, rfl, .there ?_ l⟩
      exact beq_eq_false_iff_ne.mpr fun q => hb (by rw [q]; exact beq_self_eq_true _)
section
variable {X : Cfg} {n : Nat} {sc : List (Str × NameKind)} {ρ : Rho} {σ : List O} {Q : V → List O → Prop} {QL : List V → List O → Prop} {QB : Bool → List O → Prop} {aS aR : Addr}
theorem glT_sound (T : TopOk X aS aR) {s : Str} {d : V} (hx : sc.lookup s = some .globalImplicit) (ho : okS s = true) (h : lkP (glT aS aR) s = some d) {pos : Pos} : Ev X sc ρ σ (.Name s pos) d := by
  obtain ⟨x, rfl, l⟩ := lkP_sound h
  have g : ∀ {x d}, Lk (glT aS aR) x d → (∃ v, nsIn X.K mainGlobals (Str.ofString x) = some (some v) ∧ ∀ im β, VR X.Hb im β v d) := by
    intro x d l
    unfold glT at l
    cases l with
    | here => exact T.int0'
    | there _ l => cases l with
      | here => exact T.log4'
      | there _ l => cases l with
        | here => exact T.leaving
        | there _ l => cases l with
          | here => exact T.writes
          | there _ l => cases l with
            | here => exact ⟨_, T.shapes, fun _ _ => .addr _⟩
            | there _ l => cases l with
              | here => exact ⟨_, T.rd, fun _ _ => .addr _⟩
              | there _ l => cases l
  exact Ev.gl (g l) hx ho
theorem binP_sound {op : Operator} {a b d : V} (h : binP op a b = some d) : O2 X σ (binaryOp op) a b d := by
  unfold binP at h
  split at h
  · cases h; exact O2.add
  · cases h; exact O2.sub
  · split at h
    · rename_i hb
      rw [Bool.and_eq_true, decide_eq_true_eq, decide_eq_true_eq] at hb
      cases h; exact O2.mul hb.1 hb.2
    · cases h
  · split at h
    · cases h
    · rename_i hb
      cases h; exact O2.mod (by simpa using hb)
  · split at h
    · cases h
    · rename_i hb
      simp only [Bool.or_eq_true, decide_eq_true_eq, Bool.not_eq_true', decide_eq_false_iff_not, not_or] at hb
      cases h; exact O2.fdiv hb.1 (Decidable.not_not.mp hb.2)
  · cases h
theorem cmpP_sound {op : CmpOp} {a b d : V} (h : cmpP op a b = some d) : O2 X σ (compareOp op) a b d := by
  unfold cmpP at h
  split at h <;> cases h
  · exact O2.eqI
  · exact O2.neI
  · exact O2.ltI
  · exact O2.geI
  · exact O2.eqS
theorem atP_sound {ds : List V} {i : Int} {d : V} (h : atP ds i = some d) : decide (0 ≤ i ∧ i < 2 ^ 63) = true ∧ ds[i.toNat]? = some d := by
  cases i with
  | ofNat j =>
    unfold atP at h
    simp only at h
    split at h
    · rename_i hb
      have hj : j < 1000 := Nat.le_of_ble_eq_true hb
      refine ⟨decide_eq_true ⟨Int.natCast_nonneg _, ?_⟩, h⟩
      show (j : Int) < 2 ^ 63
      omega
    · cases h
  | negSucc _ => cases h
theorem idxP_sound {v s : Expr} (hs : noSlice s = true) {a b d : V} (h : idxP σ a b = some d) : O2 X σ (subscriptTail v s) a b d := by
  unfold idxP at h
  split at h
  · exact O2.itT (atP_sound h).1 (atP_sound h).2 (sits_of hs)
  · exact O2.itL .im (atP_sound h).1 (atP_sound h).2 (sits_of hs)
  · split at h
    · rename_i ds hk; exact O2.itL (.mu hk) (atP_sound h).1 (atP_sound h).2 (sits_of hs)
    · cases h
  · cases h
theorem evP_sound (T : TopOk X aS aR) : ∀ (k : Nat), (∀ (e : Expr) (d : V), evP σ sc aS aR k ρ e = some d → Ev X sc ρ σ e d) ∧ (∀ (es : List Expr) (ds : List V), evPs σ sc aS aR k ρ es = some ds → EvL X sc ρ σ es ds)
  | 0 => ⟨fun e d h => (by simp [evP] at h), fun e d h => (by simp [evPs] at h)⟩
  | k + 1 => by
    obtain ⟨i1, i2⟩ := evP_sound T k
    refine ⟨fun e d h => ?_, fun es ds h => ?_⟩
    · unfold evP at h
      split at h
      · split at h
        · rename_i s _ ho
          split at h
          · rename_i d' hl
            cases h
            obtain ⟨x, rfl, l⟩ := lkP_sound hl
            exact Ev.nm l ho
          · split at h
            · rename_i hx; exact glT_sound T hx ho h
            · cases h
        · cases h
      · cases h; exact Ev.cI
      · cases h; exact Ev.cS
      · cases h; exact Ev.cB
      · split at h
        · rename_i a b ha hb; exact Ev.bin (i1 _ _ ha) (i1 _ _ hb) (binP_sound h)
        · cases h
      · split at h
        · rename_i hs
          split at h
          · rename_i a b ha hb; exact Ev.cmp (i1 _ _ ha) (i1 _ _ hb) (cmpP_sound h) (marks_of hs)
          · cases h
        · cases h
      · split at h
        · rename_i hs
          split at h
          · rename_i a b ha hb; exact Ev.sub (i1 _ _ ha) (i1 _ _ hb) (idxP_sound hs h)
          · cases h
        · cases h
      · split at h
        · rename_i ds hd
          split at h
          · rename_i hl; cases h; exact Ev.tup (i2 _ _ hd) hl
          · cases h
        · cases h
      · split at h
        · rename_i ds hd
          split at h
          · rename_i hl; cases h; exact Ev.lst (i2 _ _ hd) hl
          · cases h
        · cases h
      · cases h
    · unfold evPs at h
      split at h
      · cases h; exact EvL.nil
      · split at h
        · rename_i hs
          split at h
          · rename_i d' ds' hd hds; cases h; exact EvL.cons (i1 _ _ hd) (i2 _ _ hds) hs
          · cases h
        · cases h
/-- by the evaluator -/
theorem evU {e : Expr} {d : V} (T : TopOk X aS aR) (h : evP σ sc aS aR 9 ρ e = some d) (k : Q d σ) : AW X n sc ρ σ e Q := ((evP_sound T 9).1 e d h).use k
theorem evUL {es : List Expr} {ds : List V} (T : TopOk X aS aR) (h : evPs σ sc aS aR 9 ρ es = some ds) (k : QL ds σ) : AWl X n sc ρ σ es QL := ((evP_sound T 9).2 es ds h).use k
theorem evT {l r : Expr} {op : CmpOp} {pos : Pos} {b : Bool} (T : TopOk X aS aR) (h : evP σ sc aS aR 9 ρ (.Compare l [op] [r] pos) = some (.bool b)) (hs : noSet r = true) (k : QB b σ) : AWt X n sc ρ σ (.Compare l [op] [r] pos) QB := by
  unfold evP at h
  simp only [hs, if_true] at h
  split at h
  · rename_i a c ha hb; exact Ev.tc ((evP_sound T 8).1 _ _ ha) ((evP_sound T 8).1 _ _ hb) (cmpP_sound h) (marks_of hs) k
  · cases h
end

end Mine
namespace Mine
local macro_rules | `(tactic| tb_rel) => `(tactic| with_reducible first | exact Lk.rhere | exact Lk.here | ((refine' Lk.rthere ?q ?h); (case q => decide); (case h => tb_rel)) | ((refine' Lk.there ?q ?h); (case q => decide); (case h => tb_rel)) | assumption)
local macro_rules | `(tactic| kat_tups) => `(tactic| k_dflt rfl)
local macro_rules | `(tactic| kp_flats) => `(tactic| ((try intro _ _ _); with_unfolding_all rfl))
local macro_rules | `(tactic| ktu_offI) => `(tactic| first | exact .inl (by kat_tups) | exact .inr (by kat_tups))
local macro_rules | `(tactic| kwd_inv) => `(tactic| k_dflt first | assumption | exact sgLast | ((with_reducible refine' sgSet ?h); (case h => kwd_inv)) | ((with_reducible refine' sgApp ?h); (case h => kwd_inv)) | ((with_reducible refine' sgNe ?a ?h); (case a => omega); (case h => kwd_inv)) | rfl)
local macro_rules | `(tactic| kwd_rel) => `(tactic| k_dflt first | exact .im | ((refine' LC.mu ?h); (case h => kwd_inv)))
local macro_rules | `(tactic| kba_ints) => `(tactic| with_reducible first
  | exact O2.add | exact O2.eqS | exact O2.eqI | ((refine' O2.mod ?a); (case a => k_dflt omega)) | exact O2.sub | ((refine' O2.mul ?a ?b); (case a => k_dflt omega); (case b => k_dflt omega)) | exact O2.ltI | exact O2.geI | exact O2.neI
  | ((refine' O2.fdiv ?a ?b); (case a => k_dflt omega); (case b => k_dflt omega))
  | ((refine' O2.itT ?a ?b ?c); (case a => decide); (case b => kat_tups); (case c => kp_flats))
  | ((refine' O2.itL ?l ?a ?b ?c); (case a => decide); (case l => kwd_rel); (case b => kat_tups); (case c => kp_flats)))
local macro_rules | `(tactic| kbo_bools) => `(tactic| with_reducible first
  | ((refine' Ev.nm ?l ?h); (case l => tb_rel); (case h => kat_tups)) | exact Ev.cI | exact Ev.cS | exact Ev.cB
  | ((refine' Ev.tup ?a ?b); (case a => kct_strs); (case b => kat_tups)) | ((refine' Ev.lst ?a ?b); (case a => kct_strs); (case b => kat_tups))
  | ((refine' Ev.bin ?a ?b ?o); (case a => kbo_bools); (case b => kbo_bools); (case o => kba_ints))
  | ((refine' Ev.sub ?a ?b ?o); (case a => kbo_bools); (case b => kbo_bools); (case o => kba_ints))
  | ((refine' Ev.cmp ?a ?b ?o ?m); (case a => kbo_bools); (case b => kbo_bools); (case o => kba_ints); (case m => kp_flats))
  | ((refine' Ev.gl ?k ?a ?b); (case k => first | exact TopOk.leaving (by assumption) | exact TopOk.writes (by assumption) | exact TopOk.int0' (by assumption) | exact TopOk.log4' (by assumption)); (case a => kat_tups); (case b => kat_tups))
  | ((refine' Ev.nA ?k ?a ?b); (case k => first | exact TopOk.shapes (by assumption) | exact TopOk.rd (by assumption)); (case a => kat_tups); (case b => kat_tups)))
local macro_rules | `(tactic| kct_strs) => `(tactic| with_reducible first | exact EvL.nil | ((refine' EvL.cons ?a ?b ?c); (case a => kbo_bools); (case b => kct_strs); (case c => kat_tups)))
local macro_rules | `(tactic| tb_start) => `(tactic| with_reducible first
  | ((show AW _ _ _ _ _ _ _); first
    | ((refine' evU ?T ?h ?_); (case T => assumption); (case h => kat_tups)) | ((refine' Ev.use ?e ?_); (case e => kbo_bools))
    | ((fail_if_success show AW _ _ _ _ _ (Expr.Subscript _ (Expr.Slice _ _ _ _) _) _); refine' Subscript_ ?_)
    | ((refine' callLn ?T ?_ ?d ?e ?f); (case T => assumption); (case d => kat_tups); (case e => kat_tups); (case f => (intro _; kat_tups)))
    | ((refine' callRg ?T ?_ ?d ?e ?f); (case T => assumption); (case d => kat_tups); (case e => kat_tups); (case f => (intro _; kat_tups)))
    | refine' BinOp_ ?_
    | ((refine' mAppend ?_ ?b ?c ?d ?e); (case b => (intro _; kat_tups)); (case c => (intro _; kat_tups)); (case d => kat_tups); (case e => (intro _; kat_tups)))
    | ((refine' mExtend ?_ ?b ?c ?d ?e); (case b => (intro _; kat_tups)); (case c => (intro _; kat_tups)); (case d => kat_tups); (case e => (intro _; kat_tups)))
    | ((refine' mPop ?_ ?b ?c ?d); (case b => (intro _; kat_tups)); (case c => (intro _; kat_tups)); (case d => kat_tups))
    | ((refine' Compare_ ?_ ?b); (case b => kp_flats)) | refine' IfExp_ ?_ | refine' Neg_ ?_)
  | ((show Op2 _ _ _ _ _ _ _); first
    | ((refine' O2.use ?o ?_); (case o => kba_ints))
    | refine' Op2.iadd ?_ | refine' Op2.isub ?_ | refine' Op2.neB ?_ | refine' Op2.and ?_ | refine' Op2.ior ?_ | refine' Op2.or ?_)
  | ((show AWs _ _ _ _ _ _ _); first
    | refine' cons_ ?_ | refine' nil_ ?_ | ((refine' Assign_ ?a ?_ ?b); (case a => ktu_offI); (case b => (intro _; kat_tups))) | refine' If_ ?_ | refine' Return_ ?_ | ((refine' Expr_ ?_ ?b); (case b => (intro _; kat_tups)))
    | ((refine' AugAssign_ ?a ?l ?_ ?b); (case a => ktu_offI); (case l => tb_rel); (case b => decide)) | ((refine' AssignSub_ ?_ ?b); (case b => (intro _; kat_tups))) | refine' Continue_ ?_)
  | refine' goNext ?_
  | ((show AWl _ _ _ _ _ _ _); first | ((refine' evUL ?T ?h ?_); (case T => assumption); (case h => kat_tups)) | ((refine' EvL.use ?e ?_); (case e => kct_strs)) | ((refine' lCons ?_ ?b); (case b => kat_tups)) | refine' l_nil ?_)
  | refine' exB ?_ | refine' exI ?_ | refine' goRet ?_ | refine' goCont ?_ | refine' Tr.bool ?_ | refine' Tr.int ?_ | refine' andCons ?_ | refine' andNil ?_ | refine' orCons ?_ | refine' orNil ?_
  | ((show AWt _ _ _ _ _ _ _); first
    | ((refine' evT ?T ?h ?b ?_); (case T => assumption); (case h => kat_tups); (case b => kat_tups))
    | ((refine' Ev.tc ?a ?b ?o ?m ?_); (case a => kbo_bools); (case b => kbo_bools); (case o => kba_ints); (case m => kp_flats))
    | ((refine' t_cmp ?_ ?b); (case b => kp_flats)) | refine' t_not ?_ | refine' t_bool ?_ | ((refine' t_value ?_ ?b); (case b => (intro _ _; kat_tups)))))
local macro_rules | `(tactic| nest_cls) => `(tactic| k_dflt first | decide | omega | (simp; done) | (simp; omega) | (simp_all; omega))
local macro_rules | `(tactic| kln_le) => `(tactic| k_dflt first | decide | omega)
local macro_rules | `(tactic| tlg_ne) => `(tactic| with_reducible first
  | ((refine' Op3.setL ?k ?a ?b ?c ?n ?_); (case k => kwd_inv); (case a => kln_le); (case b => kln_le); (case c => nest_cls); (case n => kat_tups))
  | ((refine' OpC.len ?k ?c ?_); (case k => kwd_rel); (case c => nest_cls))
  | refine' OpC.range1 ?_
  | ((refine' OpC.range3 ?a ?b ?_); (case a => decide); (case b => decide)))
local macro_rules | `(tactic| ktu_off1L) => `(tactic| first | tb_start | tlg_ne)
local macro_rules | `(tactic| nest_fact) => `(tactic| (intro env hk hn; obtain ⟨⟨kind, names, ig, ic, more⟩, l, g, c, q, f, cd, fr, b⟩ := env; cases hk; cases hn; with_unfolding_all rfl))
local macro_rules | `(tactic| ktu_offL) => `(tactic| first
  | ((with_reducible show AW _ _ _ _ _ _ _); (with_reducible first | refine' Tuple_ ?_ | refine' ListF_ ?_))
  | ((with_reducible refine' And.intro ?len ?_); (case len => nest_cls)))
local macro_rules | `(tactic| lsm_bools) => `(tactic| first | tb_start | tlg_ne | ktu_offL)

set_option maxRecDepth 10000
section
variable {X : Cfg} {aS aR : Addr}
theorem draw_body (T : TopOk X aS aR) {n : Nat} {σ : List O} {Q} {kp : Nat} {k s m : Int} {sl : List Int} (hp : σ[kp]? = some (.list [.list (sl.map V.int), .int k, .int s])) (hk : 0 ≤ k) (hk' : k < 1000) (hs : 0 ≤ s) (hs' : s < 5) (hm : 0 < m) (hm' : m ≤ 1000) (hl : sl.length ≤ 60)
    (h : ∀ r : Int, 0 ≤ r → r < m → Q (.int r) (σ.set kp (.list [.list (sl.map V.int), .int (k + 1), .int s]))) : AXs X n (fsc 20) [("pen", .ref kp), ("many", .int m)] σ (fbody 20) (RetQ σ.length Q) := by
  refine cons_ ?_
  repeat ktu_off1L
  refine ite_ (fun hc => ?_) (fun hc => ?_)
  · repeat ktu_off1L
    obtain ⟨x, hx⟩ := getInt (ns := sl) (k := k) hk (by simpa using hc)
    refine Op2.itemL .im hk (by omega) hx ?_ (by intro _ _ _; with_unfolding_all rfl)
    repeat ktu_off1L
    exact retA (by simp) rfl (h _ (fmod_range hm).1 (fmod_range hm).2)
  · repeat ktu_off1L
    exact retA (by simp) rfl (h _ (fmod_range hm).1 (fmod_range hm).2)
theorem draw_call (T : TopOk X aS aR) {n : Nat} {σ : List O} {Q} {kp : Nat} {k s m : Int} {sl : List Int} (hp : σ[kp]? = some (.list [.list (sl.map V.int), .int k, .int s])) (hk : 0 ≤ k) (hk' : k < 1000) (hs : 0 ≤ s) (hs' : s < 5) (hm : 0 < m) (hm' : m ≤ 1000) (hl : sl.length ≤ 60)
    (h : ∀ r : Int, 0 ≤ r → r < m → Q (.int r) (σ.set kp (.list [.list (sl.map V.int), .int (k + 1), .int s]))) :
    ∀ f, Code X "_law_draw" ["pen", "many"] (fsc 20) (fbody 20) f → OpC X (n + 1) σ (.ref f) [.ref kp, .int m] Q := fun f c =>
  funW c (by decide) (by decide) (by decide) rfl (draw_body T hp hk hk' hs hs' hm hm' hl h)
end

/-- an operation that the law can draw -/
inductive Ins
  | set (a v : Int) | move (a b : Int) | bin (a : Int) (s : Str) (b c : Int) | cmp (a : Int) (s : Str) (b c : Int) | un (a : Int) (s : Str) (k b : Int)
  | addr (a : Int) (s : Str) | elem (a b c : Int) | load (a b : Int) | store (a b : Int) | call (a b : Int) | ret (a : Int) | nop
  | tru (a g : Int) | fls (a g : Int) | sign (a g₁ g₂ g₃ : Int) | switch (a : Int) (gs : List Int) | jump (g : Int)
namespace Ins
def tag : Ins → String
  | .set .. => "set" | .move .. => "move" | .bin .. => "bin" | .cmp .. => "cmp" | .un .. => "un" | .addr .. => "addr" | .elem .. => "elem" | .load .. => "load" | .store .. => "store"
  | .call .. => "call" | .ret .. => "return" | .nop => "nop" | .tru .. => "true" | .fls .. => "false" | .sign .. => "sign" | .switch .. => "switch" | .jump .. => "jump"
def parts : Ins → List V
  | .set a v => [.int a, .int 0, .int v]
  | .move a b => [.int a, .int b]
  | .bin a s b c => [.int a, .str s, .int 0, .int b, .int c]
  | .cmp a s b c => [.int a, .str s, .int 0, .int b, .int c]
  | .un a s k b => [.int a, .str s, .int k, .int b]
  | .addr a s => [.int a, .str s]
  | .elem a b c => [.int a, .int b, .list [.int c]]
  | .load a b => [.int a, .int b]
  | .store a b => [.int a, .int b]
  | .call a b => [.int a, .str (Str.ofString "F"), .list [.int b], .list []]
  | .ret a => [.int a]
  | .nop => []
  | .tru a g => [.int a, .int g]
  | .fls a g => [.int a, .int g]
  | .sign a g₁ g₂ g₃ => [.int a, .int g₁, .int g₂, .int g₃]
  | .switch a gs => [.int a, .list (gs.map V.int)]
  | .jump g => [.int g]
def toV (o : Ins) : V := .tup (.str (Str.ofString o.tag) :: o.parts)
def reads : Ins → List Int
  | .set .. => [] | .move _ b => [b] | .bin _ _ b c => [b, c] | .cmp _ _ b c => [b, c] | .un _ _ _ b => [b] | .addr .. => [] | .elem _ b c => [b, c] | .load _ b => [b] | .store a b => [a, b]
  | .call _ b => [b] | .ret a => [a] | .nop => [] | .tru a _ => [a] | .fls a _ => [a] | .sign a _ _ _ => [a] | .switch a _ => [a] | .jump _ => []
def w : Ins → Option Int
  | .set a _ => some a | .move a _ => some a | .bin a .. => some a | .cmp a .. => some a | .un a .. => some a | .addr a _ => some a | .elem a _ _ => some a | .load a _ => some a | .call a _ => some a
  | .store .. => none | .ret _ => none | .nop => none | .tru .. => none | .fls .. => none | .sign .. => none | .switch .. => none | .jump _ => none
def goals : Ins → List Int
  | .tru _ g => [g] | .fls _ g => [g] | .sign _ g₁ g₂ g₃ => [g₁, g₂, g₃] | .switch _ gs => gs | .jump g => [g]
  | .set .. => [] | .move .. => [] | .bin .. => [] | .cmp .. => [] | .un .. => [] | .addr .. => [] | .elem .. => [] | .load .. => [] | .store .. => [] | .call .. => [] | .ret _ => [] | .nop => []
def on : Ins → Bool
  | .ret _ => false | .sign .. => false | .jump _ => false
  | .set .. => true | .move .. => true | .bin .. => true | .cmp .. => true | .un .. => true | .addr .. => true | .elem .. => true | .load .. => true | .store .. => true | .call .. => true | .nop => true | .tru .. => true | .fls .. => true | .switch .. => true
def num : Ins → Nat
  | .set .. => 0 | .move .. => 1 | .bin .. => 2 | .cmp .. => 3 | .un .. => 4 | .addr .. => 5 | .elem .. => 6 | .load .. => 7 | .store .. => 8 | .call .. => 9 | .jump .. => 10 | .tru .. => 11 | .fls .. => 12 | .sign .. => 13 | .switch .. => 14 | .ret .. => 15 | .nop => 16
structure ok (o : Ins) (size : Int) : Prop where
  rd : ∀ r ∈ o.reads, 0 ≤ r ∧ r < 8
  wr : ∀ a, o.w = some a → 0 ≤ a ∧ a < 8
  go : ∀ g ∈ o.goals, 0 ≤ g ∧ g < size
  few : o.goals.length ≤ 3
end Ins

section
variable {X : Cfg} {n : Nat} {sc : List (Str × NameKind)} {ρ : Rho} {σ : List O} {Q : V → List O → Prop} {aS aR : Addr}
/-- an item at any place in bounds -/
theorem itemAnyT {value slice : Expr} {ds : List V} {i : Int} (h0 : 0 ≤ i) (hi : i < ds.length) (hl : ds.length ≤ 1000) (h : ∀ d ∈ ds, Q d σ)
    (hs : ∀ a k u, subscripted slice false (.ref a) (.int k u) = operate [.ref a, .int k u] (getItem (.ref a) (.int k u))) : Op2 X n σ (subscriptTail value slice) (.tup ds) (.int i) Q := by
  have hk : i.toNat < ds.length := by omega
  exact .itemT h0 (by omega) (List.getElem?_eq_getElem hk) (h _ (List.getElem_mem hk)) hs
theorem itemAnyL {value slice : Expr} {a : V} {ds : List V} {i : Int} (c : LC σ a ds) (h0 : 0 ≤ i) (hi : i < ds.length) (hl : ds.length ≤ 1000) (h : ∀ d ∈ ds, Q d σ)
    (hs : ∀ a k u, subscripted slice false (.ref a) (.int k u) = operate [.ref a, .int k u] (getItem (.ref a) (.int k u))) : Op2 X n σ (subscriptTail value slice) a (.int i) Q := by
  have hk : i.toNat < ds.length := by omega
  exact .itemL c h0 (by omega) (List.getElem?_eq_getElem hk) (h _ (List.getElem_mem hk)) hs

theorem asg2 {elts : List Expr} {k : Nat} {tpos pos : Pos} {value : Expr} {x y : String} {QF : Fl → Rho → List O → Prop} (hx : ∀ z ∈ [x, y], May sc z)
    (hw : ∀ env : Env, env.scope.kind = .function → env.scope.names = sc → swappedStores [.Tuple elts k tpos] value env = pure (some [Str.ofString x, Str.ofString y]))
    (h : AW X n sc ρ σ value fun d σ' => ∃ a b, d = .tup [a, b] ∧ QF .next (rset (rset ρ y b) x a) σ')
    (hs : ∀ env, swapsWithSole [.Tuple elts k tpos] value pos.line env = pure false) : AX X n sc ρ σ (.Assign [.Tuple elts k tpos] value pos) QF :=
  AssignTuple_ (xs := [x, y]) hx hw (h.mono fun d σ' k => by obtain ⟨a, b, rfl, q⟩ := k; exact ⟨_, rfl, rfl, q⟩) hs
theorem asg3 {elts : List Expr} {k : Nat} {tpos pos : Pos} {value : Expr} {x y z : String} {QF : Fl → Rho → List O → Prop} (hx : ∀ v ∈ [x, y, z], May sc v)
    (hw : ∀ env : Env, env.scope.kind = .function → env.scope.names = sc → swappedStores [.Tuple elts k tpos] value env = pure (some [Str.ofString x, Str.ofString y, Str.ofString z]))
    (h : AW X n sc ρ σ value fun d σ' => ∃ a b c, d = .tup [a, b, c] ∧ QF .next (rset (rset (rset ρ z c) y b) x a) σ')
    (hs : ∀ env, swapsWithSole [.Tuple elts k tpos] value pos.line env = pure false) : AX X n sc ρ σ (.Assign [.Tuple elts k tpos] value pos) QF :=
  AssignTuple_ (xs := [x, y, z]) hx hw (h.mono fun d σ' k => by obtain ⟨a, b, c, rfl, q⟩ := k; exact ⟨_, rfl, rfl, q⟩) hs
/-- the pen in the store -/
def Pen (σ : List O) (kp : Nat) (sl : List Int) (k s : Int) : List O := σ.set kp (.list [.list (sl.map V.int), .int k, .int s])
theorem Pen.len {kp : Nat} {sl : List Int} {k s : Int} : (Pen σ kp sl k s).length = σ.length := by simp [Pen]
structure PenOk (σ : List O) (kp : Nat) (sl : List Int) (s : Int) : Prop where
  kp : kp < σ.length
  s0 : 0 ≤ s
  s5 : s < 5
  sl : sl.length ≤ 60
theorem draw_call' (T : TopOk X aS aR) {n : Nat} {σ : List O} {Q} {kp : Nat} {k s m : Int} {sl : List Int} (hp : PenOk σ kp sl s) (hk : 0 ≤ k) (hk' : k < 1000) (hm : 0 < m) (hm' : m ≤ 1000)
    (h : ∀ r : Int, 0 ≤ r → r < m → Q (.int r) (Pen σ kp sl (k + 1) s)) :
    ∀ f, Code X "_law_draw" ["pen", "many"] (fsc 20) (fbody 20) f → OpC X (n + 1) (Pen σ kp sl k s) (.ref f) [.ref kp, .int m] Q :=
  draw_call T (σ := Pen σ kp sl k s) (by simp [Pen, hp.kp]) hk hk' hp.s0 hp.s5 hm hm' hp.sl fun r h0 h1 => by
    have := h r h0 h1
    simpa [Pen] using this
end

set_option maxRecDepth 10000
local macro_rules | `(tactic| kxs_still) => `(tactic| (
  (with_reducible refine' callF (TopOk.f20 ?T) ?d ?_ ?e ?f ?g); (case T => assumption); (case d => rfl); (case e => (intro _; rfl)); (case f => (intro _; rfl)); (case g => decide)))
local macro_rules | `(tactic| kxt_pos) => `(tactic| (
  (with_reducible refine' draw_call' ?T ?a ?b ?c ?d ?e ?_); (case T => assumption); (case a => assumption); (case b => omega); (case c => omega); (case d => omega); (case e => omega)))
local macro_rules | `(tactic| none_booked) => `(tactic| first | kxs_still | kxt_pos | lsm_bools)
local macro_rules | `(tactic| one_sign) => `(tactic| (constructor <;> simp [Ins.reads, Ins.w, Ins.goals] <;> omega))
theorem nrs_ints (l : List Int) : V.nrs (l.map V.int) = true := by
  induction l with
  | nil => rfl
  | cons a l ih => simp [V.nrs, V.nr, ih]
theorem strAny {ds : List V} {P : V → Prop} (hd : ∀ d ∈ ds, ∃ x, d = .str x) (h : ∀ x, P (.str x)) : ∀ d ∈ ds, P d := fun d m => by obtain ⟨x, rfl⟩ := hd d m; exact h x
section
variable {X : Cfg} {aS aR : Addr}
set_option maxHeartbeats 8000000 in
theorem op_body (T : TopOk X aS aR) {n : Nat} {σ : List O} {Q} {kp : Nat} {k s m : Int} {sl : List Int} (hp : PenOk σ kp sl s) (hk : 0 ≤ k) (hk' : k < 900) (hm : 0 < m) (hm' : m ≤ 1000)
    (h : ∀ (o : Ins) (k' : Int), o.ok m → k ≤ k' → k' ≤ k + 8 → Q o.toV (Pen σ kp sl k' s)) : AXs X (n + 1) (fsc 21) [("pen", .ref kp), ("size", .int m)] (Pen σ kp sl k s) (fbody 21) (RetQ (Pen σ kp sl k s).length Q) := by
  refine cons_ ?_
  repeat none_booked
  intro way w0 w1
  tb_start
  tb_start
  refine asg3 (x := "a") (y := "b") (z := "c") ?hx ?hw ?_ ?hs
  case hx => decide
  case hw => nest_fact
  case hs => (intro _; rfl)
  repeat none_booked
  intro a a0 a1
  repeat none_booked
  intro b b0 b1
  repeat none_booked
  intro c c0 c1
  repeat none_booked
  refine ⟨_, _, _, rfl, ?_⟩
  have ma : 0 ≤ a.fmod 2 ∧ a.fmod 2 < 2 := fmod_range (by decide)
  have mb : 0 ≤ b.fmod 2 ∧ b.fmod 2 < 2 := fmod_range (by decide)
  have mc : 0 ≤ c.fmod 2 ∧ c.fmod 2 < 2 := fmod_range (by decide)
  tb_start
  tb_start
  refine asg2 (x := "truth") (y := "place") ?hx ?hw ?_ ?hs
  case hx => decide
  case hw => nest_fact
  case hs => (intro _; rfl)
  repeat none_booked
  refine ⟨_, _, rfl, ?_⟩
  repeat none_booked
  have fin : ∀ (o : Ins) (ρ' : Rho) (k' : Int), o.toV.nr = true → o.ok m → k ≤ k' → k' ≤ k + 8 → RetQ (Pen σ kp sl k s).length Q (.ret o.toV) ρ' (Pen σ kp sl k' s) := fun o ρ' k' h1 h2 h3 h4 =>
    retA (by simp [Pen.len]) h1 (h o k' h2 h3 h4)
  refine AndK.both ?_ ?_
  · refine iteT rfl ?_
    repeat none_booked
    exact fin (.set a _) _ _ rfl (by one_sign) (by omega) (by omega)
  repeat none_booked
  refine AndK.both ?_ ?_
  · refine iteT rfl ?_
    repeat none_booked
    exact fin (.set a _) _ _ rfl (by one_sign) (by omega) (by omega)
  repeat none_booked
  refine iteF rfl ?_
  repeat none_booked
  refine ite2 ?_ ?_
  · repeat none_booked
    exact fin (.move a b) _ _ rfl (by one_sign) (by omega) (by omega)
  repeat none_booked
  refine ite2 ?_ ?_
  · repeat none_booked
    intro r r0 r1
    refine itemAnyT r0 (by simp; omega) (by simp) (strAny (by simp) fun x => ?_) (by intro _ _ _; with_unfolding_all rfl)
    repeat none_booked
    exact fin (.bin a x b c) _ _ rfl (by one_sign) (by omega) (by omega)
  repeat none_booked
  refine ite2 ?_ ?_
  · repeat none_booked
    intro r r0 r1
    refine itemAnyT r0 (by simp; omega) (by simp) (strAny (by simp) fun x => ?_) (by intro _ _ _; with_unfolding_all rfl)
    repeat none_booked
    exact fin (.cmp (4 + a.fmod 2) x b c) _ _ rfl (by one_sign) (by omega) (by omega)
  repeat none_booked
  refine ite2 ?_ ?_
  · repeat none_booked
    refine itemAnyL .im mc.1 (by simp; omega) (by simp) (List.forall_mem_cons.mpr ⟨?_, List.forall_mem_cons.mpr ⟨?_, by simp⟩⟩) (by intro _ _ _; with_unfolding_all rfl)
    · none_booked
      exact fin (.un a (Str.ofString "neg") 0 b) [] _ rfl (by one_sign) (by omega) (by omega)
    · none_booked
      exact fin (.un (4 + a.fmod 2) (Str.ofString "not") 4 (4 + b.fmod 2)) [] _ rfl (by one_sign) (by omega) (by omega)
  repeat none_booked
  refine ite2 ?_ ?_
  · repeat none_booked
    refine itemAnyT mb.1 (by simp; omega) (by simp) (strAny (by simp) fun x => ?_) (by intro _ _ _; with_unfolding_all rfl)
    repeat none_booked
    exact fin (.addr (6 + a.fmod 2) x) _ _ rfl (by one_sign) (by omega) (by omega)
  repeat none_booked
  refine ite2 ?_ ?_
  · repeat none_booked
    intro r r0 r1
    refine itemAnyL .im r0 (by simp; omega) (by simp) (List.forall_mem_cons.mpr ⟨?_, List.forall_mem_cons.mpr ⟨?_, by simp⟩⟩) (by intro _ _ _; with_unfolding_all rfl)
    · none_booked
      exact fin (.elem (6 + a.fmod 2) (6 + b.fmod 2) c) [] _ rfl (by one_sign) (by omega) (by omega)
    · none_booked
      exact fin (.load a (6 + b.fmod 2)) [] _ rfl (by one_sign) (by omega) (by omega)
  repeat none_booked
  refine ite2 ?_ ?_
  · repeat none_booked
    exact fin (.load a (6 + b.fmod 2)) _ _ rfl (by one_sign) (by omega) (by omega)
  repeat none_booked
  refine ite2 ?_ ?_
  · repeat none_booked
    exact fin (.store (6 + b.fmod 2) c) _ _ rfl (by one_sign) (by omega) (by omega)
  repeat none_booked
  refine ite2 ?_ ?_
  · repeat none_booked
    intro r r0 r1
    refine itemAnyL .im r0 (by simp; omega) (by simp) (List.forall_mem_cons.mpr ⟨?_, List.forall_mem_cons.mpr ⟨?_, List.forall_mem_cons.mpr ⟨?_, by simp⟩⟩⟩) (by intro _ _ _; with_unfolding_all rfl)
    · none_booked
      exact fin (.call a b) [] _ rfl (by one_sign) (by omega) (by omega)
    · none_booked
      exact fin (.ret a) [] _ rfl (by one_sign) (by omega) (by omega)
    · none_booked
      exact fin .nop [] _ rfl (by one_sign) (by omega) (by omega)
  repeat none_booked
  intro g₁ g10 g11
  repeat none_booked
  have h2 : 0 ≤ (b + c).fmod m ∧ (b + c).fmod m < m := fmod_range hm
  have h3 : 0 ≤ (3 * b + a).fmod m ∧ (3 * b + a).fmod m < m := fmod_range hm
  refine ite2 ?_ ?_
  · repeat none_booked
    refine itemAnyL .im mc.1 (by simp; omega) (by simp) (List.forall_mem_cons.mpr ⟨?_, List.forall_mem_cons.mpr ⟨?_, by simp⟩⟩) (by intro _ _ _; with_unfolding_all rfl)
    · none_booked
      exact fin (.tru (4 + a.fmod 2) g₁) [] _ rfl (by one_sign) (by omega) (by omega)
    · none_booked
      exact fin (.fls (4 + a.fmod 2) g₁) [] _ rfl (by one_sign) (by omega) (by omega)
  repeat none_booked
  refine ite2 ?_ ?_
  · repeat none_booked
    refine SubSliceL_ ?_ (by intro _ _; with_unfolding_all rfl) (by intro _ _; with_unfolding_all rfl)
    have h4 : 0 ≤ c.fmod 3 ∧ c.fmod 3 < 3 := fmod_range (by decide)
    repeat none_booked
    refine ⟨_, _, rfl, rfl, by simp, by omega, ?_⟩
    have ht : ∀ j : Nat, ([V.int g₁, V.int ((b + c).fmod m), V.int ((3 * b + a).fmod m)] : List V).take j = (([g₁, (b + c).fmod m, (3 * b + a).fmod m] : List Int).take j).map V.int := fun j => by rw [List.map_take]; rfl
    rw [ht]
    have hg : ∀ j : Nat, ∀ g ∈ ([g₁, (b + c).fmod m, (3 * b + a).fmod m] : List Int).take j, 0 ≤ g ∧ g < m := fun j g hg => by
      have := List.mem_of_mem_take hg
      simp at this
      omega
    have hf : ∀ j : Nat, (([g₁, (b + c).fmod m, (3 * b + a).fmod m] : List Int).take j).length ≤ 3 := fun j => by simp; omega
    have hgj := hg (1 + c.fmod 3).toNat
    have hfj := hf (1 + c.fmod 3).toNat
    generalize ([g₁, (b + c).fmod m, (3 * b + a).fmod m] : List Int).take (1 + c.fmod 3).toNat = gs at hgj hfj
    repeat none_booked
    refine itemAnyL .im mb.1 (by simp; omega) (by simp) (List.forall_mem_cons.mpr ⟨?_, List.forall_mem_cons.mpr ⟨?_, by simp⟩⟩) (by intro _ _ _; with_unfolding_all rfl)
    · none_booked
      exact fin (.sign a g₁ ((b + c).fmod m) ((3 * b + a).fmod m)) [] _ rfl (by one_sign) (by omega) (by omega)
    · none_booked
      exact fin (.switch a gs) [] _ (by simp [Ins.toV, Ins.parts, V.nr, V.nrs, nrs_ints]) ⟨by simp [Ins.reads]; omega, by simp [Ins.w], hgj, hfj⟩ (by omega) (by omega)
  repeat none_booked
  exact fin (.jump g₁) _ _ rfl (by one_sign) (by omega) (by omega)
end

section
variable {X : Cfg} {n : Nat} {sc : List (Str × NameKind)} {ρ : Rho} {σ : List O} {Q : V → List O → Prop} {QF : Fl → Rho → List O → Prop} {aS aR : Addr}

theorem AWt.weak {e : Expr} {ρ' : Rho} {QB : Bool → List O → Prop} (h : AWt X n sc ρ' σ e QB) (k : Sup ρ ρ') : AWt X n sc ρ σ e QB :=
  fun A env h₀ L m os cs im fr s Qc Ec F S R q => h A env h₀ L m os cs im fr s Qc Ec F S (fun y d l => R y d (k y d l)) q

theorem AWt.mono {e : Expr} {P Q : Bool → List O → Prop} (h : AWt X n sc ρ σ e P) (k : ∀ d σ', P d σ' → Q d σ') : AWt X n sc ρ σ e Q :=
  fun A env h₀ L m os cs im fr s Qc Ec x S R q => h A env h₀ L m os cs im fr s Qc Ec x S R fun v σ' os' im' h' tk' hq => q v σ' os' im' h' tk' (k v σ' hq)

/-- what is known between the turns, of the names that are listed -/
def Jx (I : Nat → Rho → List O → Prop) (i : Nat) (ρ : Rho) (σ : List O) : Prop := ∃ R, Sup ρ R ∧ I i R σ

theorem for_ {x : String} {px pos : Pos} {iter : Expr} {body rest : List Stmt} (hx : sc.lookup (Str.ofString x) = some .local) (hs : ∀ env x, foldedSetIterable iter env x = pure x) (h : AW X n sc ρ σ iter fun d σ₁ => ∃ (items : List V) (I : Nat → Rho → List O → Prop), It d items ∧ Jx I 0 ρ σ₁ ∧
      (∀ i d R σ', items[i]? = some d → I i R σ' → AXs X n sc ((x, d) :: R) σ' body (TurnQ (Go X n sc rest QF) (Jx I (i + 1)))) ∧ (∀ R σ', I items.length R σ' → AXs X n sc R σ' rest QF)) :
    AX X n sc ρ σ (.For (.Name (Str.ofString x) px) iter body [] pos) (Go X n sc rest QF) := by
  refine (For_ hx (h.mono fun d σ' k => ?_) hs)
  obtain ⟨items, I, h1, h2, h3, h4⟩ := k
  refine ⟨items, Jx I, h1, h2, fun i d ρ' σ' hi hj => ?_, fun ρ' σ' hj => ?_⟩
  · obtain ⟨R, hR, hI⟩ := hj
    exact (h3 i d R σ' hi hI).weak hR.set
  · obtain ⟨R, hR, hI⟩ := hj
    exact (h4 R σ' hI).weak hR

theorem while_ {test : Expr} {pos : Pos} {body rest : List Stmt} (I : Nat → Rho → List O → Prop) (k : Nat) (h0 : Jx I k ρ σ)
    (turn : ∀ k R σ', I k R σ' → AWt X n sc R σ' test fun b σ₁ => if b = true then AXs X n sc R σ₁ body (TurnQ (Go X n sc rest QF) fun ρ₂ σ₂ => ∃ j, j < k ∧ Jx I j ρ₂ σ₂) else AXs X n sc R σ₁ rest QF) :
    AX X n sc ρ σ (.While test body [] pos) (Go X n sc rest QF) := by
  refine (While_ (Jx I) k h0 fun k ρ' σ' hj => ?_)
  obtain ⟨R, hR, hI⟩ := hj
  refine AWt.mono ((turn k R σ' hI).weak hR) fun b σ₁ q => ?_
  cases b with
  | true => simp only [if_true] at q ⊢; exact q.weak hR
  | false => simp only [Bool.false_eq_true, if_false] at q ⊢; exact AWs.weak q hR

theorem It.up {k : Nat} (hk : k ≤ 1000) : It (.rng 0 (k : Int) 1) ((List.range k).map fun i : Nat => V.int (i : Int)) := by
  have h := @It.rng 0 (k : Int) 1 k (small_one (by omega) (by omega) (by omega) (by omega)) (by
    rw [rangeSize_one]; split <;> omega)
  have e : (fun i : Nat => V.int (0 + (i : Int) * 1)) = fun i : Nat => V.int (i : Int) := by funext i; congr 1; omega
  rw [e] at h
  exact h
theorem It.up' {b : Int} (h0 : 0 ≤ b) (hk : b ≤ 1000) : It (.rng 0 b 1) ((List.range b.toNat).map fun i : Nat => V.int (i : Int)) := by
  have := It.up (k := b.toNat) (by omega)
  rw [show ((b.toNat : Nat) : Int) = b by omega] at this
  exact this
theorem It.down {k : Nat} (hk : k ≤ 1000) : It (.rng ((k : Int) - 1) (-1) (-1)) ((List.range k).map fun i : Nat => V.int ((k : Int) - 1 - (i : Int))) := by
  have h := @It.rng ((k : Int) - 1) (-1) (-1) k (small_down (by omega) (by omega) (by omega) (by omega)) (by
    rw [rangeSize_down]; split <;> omega)
  have e : (fun i : Nat => V.int ((k : Int) - 1 + (i : Int) * (-1))) = fun i : Nat => V.int ((k : Int) - 1 - (i : Int)) := by funext i; congr 1; omega
  rw [e] at h
  exact h
theorem range_at {k i : Nat} {f : Nat → V} {d : V} (h : ((List.range k).map f)[i]? = some d) : i < k ∧ d = f i := by
  rw [List.getElem?_map] at h
  by_cases hi : i < k
  · rw [List.getElem?_range hi] at h
    exact ⟨hi, (Option.some.inj h).symm⟩
  · rw [List.getElem?_eq_none (by simp; omega)] at h
    cases h
end

section
variable {X : Cfg} {n : Nat} {sc : List (Str × NameKind)} {ρ : Rho} {σ : List O} {Q : V → List O → Prop} {QF : Fl → Rho → List O → Prop} {aS aR : Addr} {c : Nat}

theorem eqCh {y : Str} {k : Nat} (hy : y.cps.toList = [k]) (h : Q (.bool (c == k)) σ) : Op2 X n σ (compareOp .Eq) (.str ⟨#[c]⟩) (.str y) Q := by
  refine Op2.eqS ?_
  have e : ((⟨#[c]⟩ : Str).cps.toList == y.cps.toList) = (c == k) := by
    rw [hy]
    simp [List.cons_beq_cons]
  rw [e]; exact h
theorem eq_r (h : Q (.bool (c == 114)) σ) : Op2 X n σ (compareOp .Eq) (.str ⟨#[c]⟩) (.str (Str.ofString "r")) Q := eqCh (by decide) h
theorem eq_o (h : Q (.bool (c == 111)) σ) : Op2 X n σ (compareOp .Eq) (.str ⟨#[c]⟩) (.str (Str.ofString "o")) Q := eqCh (by decide) h
theorem eq_R (h : Q (.bool (c == 82)) σ) : Op2 X n σ (compareOp .Eq) (.str ⟨#[c]⟩) (.str (Str.ofString "R")) Q := eqCh (by decide) h
theorem eq_A (h : Q (.bool (c == 65)) σ) : Op2 X n σ (compareOp .Eq) (.str ⟨#[c]⟩) (.str (Str.ofString "A")) Q := eqCh (by decide) h
theorem eq_D (h : Q (.bool (c == 68)) σ) : Op2 X n σ (compareOp .Eq) (.str ⟨#[c]⟩) (.str (Str.ofString "D")) Q := eqCh (by decide) h
theorem eq_j (h : Q (.bool (c == 106)) σ) : Op2 X n σ (compareOp .Eq) (.str ⟨#[c]⟩) (.str (Str.ofString "j")) Q := eqCh (by decide) h
theorem eq_J (h : Q (.bool (c == 74)) σ) : Op2 X n σ (compareOp .Eq) (.str ⟨#[c]⟩) (.str (Str.ofString "J")) Q := eqCh (by decide) h
theorem eq_P (h : Q (.bool (c == 80)) σ) : Op2 X n σ (compareOp .Eq) (.str ⟨#[c]⟩) (.str (Str.ofString "P")) Q := eqCh (by decide) h

theorem tyTuple {pos : Pos} (T : TopOk X aS aR) (hx : sc.lookup (Str.ofString "tuple") = some .globalImplicit) (h : Q (.typ "tuple") σ) : AW X n sc ρ σ (.Name (Str.ofString "tuple") pos) Q :=
  NameB_ (v := .type "tuple") (T.blt "tuple" (by simp)) (by rfl) (by decide) hx (fun _ _ => .typ _) h

namespace Ins
def shape : Ins → String
  | .set .. => "w--" | .move .. => "wr" | .bin .. => "w--rr" | .cmp .. => "w--rr" | .un .. => "w--r" | .addr .. => "w-" | .elem .. => "wrR" | .load .. => "wr" | .store .. => "rr"
  | .call .. => "v-AJ" | .ret .. => "o" | .nop => "" | .tru .. => "rj" | .fls .. => "rj" | .sign .. => "rjjj" | .switch .. => "rJ" | .jump .. => "j"
theorem inTab (o : Ins) : (o.tag, o.shape) ∈ shapeTab := List.mem_of_getElem? (i := o.num) (by cases o <;> rfl)
theorem nr (o : Ins) : o.toV.nr = true := by
  cases o with
  | switch a gs => show (true && (true && (V.nrs (gs.map V.int) && true))) = true; rw [nrs_ints]; rfl
  | _ => rfl
end Ins

theorem list0 {pos : Pos} {k : Nat} {σ' : List O} (hk : σ.length = k) (hs : σ ++ [.list []] = σ') (h : Q (.ref k) σ') : AW X n sc ρ σ (.List [] pos) Q := by
  subst hk; subst hs
  exact ListM_ (l_nil ⟨by simp, rfl, h⟩)
theorem strLen {x : Str} : x.length = x.cps.toList.length := by show x.cps.size = _; simp
theorem itemSi {value slice : Expr} {x : Str} {i c : Nat} (hc : x.cps.toList[i]? = some c) (hi : i < 1000) (h : Q (.str ⟨#[c]⟩) σ)
    (hs : ∀ t k u, subscripted slice false (.str x t) (.int k u) = operate [.str x t, .int k u] (getItem (.str x t) (.int k u))) : Op2 X n σ (subscriptTail value slice) (.str x) (.int (i : Int)) Q :=
  .itemS (by omega) (by omega) (by simpa using hc) h hs
theorem tqNext {J : Rho → List O → Prop} (h : J ρ σ) : TurnQ QF J .next ρ σ := h
theorem tqCont {J : Rho → List O → Prop} (h : J ρ σ) : TurnQ QF J .cont ρ σ := h
theorem tqRet {J : Rho → List O → Prop} {d : V} (h : QF (.ret d) ρ σ) : TurnQ QF J (.ret d) ρ σ := h
theorem apA {k : Nat} {ds : List V} {P : Nat → List V → Prop} (hk : σ[k]? = some (.list ds)) (h : P k ds) : ∃ k' ds', V.ref k = .ref k' ∧ σ[k']? = some (.list ds') ∧ P k' ds' := ⟨k, ds, rfl, hk, h⟩
theorem apB {k : Nat} {ds : List V} {d : V} {P : List V → Prop} (hk : σ[k]? = some (.list ds)) (hl : ds.length ≤ 1000) (hn : d.nr = true) (h : P ds) : ∃ ds', σ[k]? = some (.list ds') ∧ ds'.length ≤ 1000 ∧ d.nr = true ∧ P ds' := ⟨ds, hk, hl, hn, h⟩
theorem exC {es : List V} {k : Nat} {ds : List V} {P : List V → List V → Prop} (hk : σ[k]? = some (.list ds)) (hl : ds.length + es.length ≤ 1000) (hn : V.nrs es = true) (h : P ds es) : ∃ ds' es', σ[k]? = some (.list ds') ∧ V.list es = .list es' ∧ ds'.length + es'.length ≤ 1000 ∧ V.nrs es' = true ∧ P ds' es' := ⟨ds, es, hk, rfl, hl, hn, h⟩
theorem compA {sc' : List (Str × NameKind)} {p1 p2 p3 p4 p5 p6 : Pos} (T : TopOk X aS aR) (h1 : sc'.lookup (Str.ofString "one") = some .local) (h2 : sc'.lookup (Str.ofString "isinstance") = some .globalImplicit) (h3 : sc'.lookup (Str.ofString "tuple") = some .globalImplicit) :
    ∀ (l : List Int) (acc : List V), Q (.list (acc ++ l.map V.int)) σ → CompT X n sc' [] "one" (.UnaryOp .Not (.Call (.Name (Str.ofString "isinstance") p1) [.Name (Str.ofString "one") p2, .Name (Str.ofString "tuple") p3] [] p4) p5) (.Name (Str.ofString "one") p6) Q (l.map V.int) acc σ
  | [], acc, h => by simpa [CompT] using h
  | i :: l, acc, h => by
    show AWt X n sc' [("one", V.int i)] σ _ _
    refine t_not (t_value (callB (T := T) (v := .builtin "isinstance") (by simp) (by rfl) (by decide) (.inl ⟨_, rfl⟩) h2 (l_cons (Name_ .here (l_cons (tyTuple T h3 (l_nil (.isiTuple (.bool ?_)))))))))
    refine iteT rfl (Name_ .here (compA T h1 h2 h3 l (acc ++ [.int i]) ?_))
    simpa using h
theorem item0 {value slice : Expr} (o : Ins) (h : Q (.str (Str.ofString o.tag)) σ)
    (hs : ∀ a k u, subscripted slice false (.ref a) (.int k u) = operate [.ref a, .int k u] (getItem (.ref a) (.int k u))) : Op2 X n σ (subscriptTail value slice) o.toV (.int 0) Q :=
  .itemT (by decide) (by decide) (by rfl) h hs
theorem itemP {value slice : Expr} {i : Int} {p : V} (o : Ins) (h0 : 1 ≤ i) (hi : o.parts[(i - 1).toNat]? = some p) (h : Q p σ)
    (hs : ∀ a k u, subscripted slice false (.ref a) (.int k u) = operate [.ref a, .int k u] (getItem (.ref a) (.int k u))) : Op2 X n σ (subscriptTail value slice) o.toV (.int i) Q := by
  have hl : o.parts.length ≤ 5 := by cases o <;> exact Nat.le_of_ble_eq_true rfl
  have := (List.getElem?_eq_some_iff.mp hi).1
  refine .itemT (d := p) (by omega) (by omega) ?_ h hs
  rw [show i.toNat = (i - 1).toNat + 1 by omega]
  simpa using hi
theorem shpO {value slice : Expr} (T : TopOk X aS aR) (o : Ins) (h : Q (.str (Str.ofString o.shape)) σ)
    (hs : ∀ a t, subscripted slice false (.ref a) (.str (Str.ofString o.tag) t) = operate [.ref a, .str (Str.ofString o.tag) t] (getItem (.ref a) (.str (Str.ofString o.tag) t))) : Op2 X n σ (subscriptTail value slice) (.addr aS) (.str (Str.ofString o.tag)) Q :=
  shp T o.inTab h hs
theorem tabLen : ∀ p ∈ shapeTab, (Str.ofString p.2).length ≤ 5 := by decide
theorem Ins.shapeLen (o : Ins) : (Str.ofString o.shape).length ≤ 5 := tabLen _ o.inTab
theorem Ins.readsLen (o : Ins) : o.reads.length ≤ 2 := by cases o <;> exact Nat.le_of_ble_eq_true rfl

inductive Parts (P : Nat → V → List Int → Prop) : List Nat → List V → List Int → Prop
  | nil : Parts P [] [] []
  | cons {c : Nat} {p : V} {r rs rr : List Int} {cs : List Nat} {ps : List V} : P c p r → Parts P cs ps rs → rr = r ++ rs → Parts P (c :: cs) (p :: ps) rr
inductive RPart : Nat → V → List Int → Prop
  | r {i : Int} : RPart 114 (.int i) [i]
  | o {i : Int} : 0 ≤ i → RPart 111 (.int i) [i]
  | R {l : List Int} : RPart 82 (.list (l.map V.int)) l
  | A {l : List Int} : RPart 65 (.list (l.map V.int)) l
  | no {c : Nat} {p : V} : c ≠ 114 → c ≠ 111 → c ≠ 82 → c ≠ 65 → c ≠ 68 → RPart c p []
inductive JPart : Nat → V → List Int → Prop
  | j {i : Int} : JPart 106 (.int i) [i]
  | J {l : List Int} : JPart 74 (.list (l.map V.int)) l
  | no {c : Nat} {p : V} : c ≠ 106 → c ≠ 74 → c ≠ 80 → c ≠ 68 → JPart c p []

theorem rno {c : Nat} {p : V} (h : c = 119 ∨ c = 45 ∨ c = 118 ∨ c = 106 ∨ c = 74) : RPart c p [] := .no (by omega) (by omega) (by omega) (by omega) (by omega)
theorem jno {c : Nat} {p : V} (h : c = 119 ∨ c = 45 ∨ c = 118 ∨ c = 114 ∨ c = 111 ∨ c = 82 ∨ c = 65) : JPart c p [] := .no (by omega) (by omega) (by omega) (by omega)
theorem Ins.rparts (o : Ins) (h : ∀ r ∈ o.reads, 0 ≤ r) : Parts RPart (Str.ofString o.shape).cps.toList o.parts o.reads := by
  have one : ∀ i : Int, RPart 82 (.list [.int i]) [i] := fun i => RPart.R (l := [i])
  have oneA : ∀ i : Int, RPart 65 (.list [.int i]) [i] := fun i => RPart.A (l := [i])
  cases o with
  | ret a => exact .cons (.o (h a (by simp [Ins.reads]))) .nil rfl
  | elem a b c => exact .cons (rno (by decide)) (.cons .r (.cons (one c) .nil rfl) rfl) rfl
  | call a b => exact .cons (rno (by decide)) (.cons (rno (by decide)) (.cons (oneA b) (.cons (rno (by decide)) .nil rfl) rfl) rfl) rfl
  | set => exact .cons (rno (by decide)) (.cons (rno (by decide)) (.cons (rno (by decide)) .nil rfl) rfl) rfl
  | move => exact .cons (rno (by decide)) (.cons .r .nil rfl) rfl
  | bin => exact .cons (rno (by decide)) (.cons (rno (by decide)) (.cons (rno (by decide)) (.cons .r (.cons .r .nil rfl) rfl) rfl) rfl) rfl
  | cmp => exact .cons (rno (by decide)) (.cons (rno (by decide)) (.cons (rno (by decide)) (.cons .r (.cons .r .nil rfl) rfl) rfl) rfl) rfl
  | un => exact .cons (rno (by decide)) (.cons (rno (by decide)) (.cons (rno (by decide)) (.cons .r .nil rfl) rfl) rfl) rfl
  | addr => exact .cons (rno (by decide)) (.cons (rno (by decide)) .nil rfl) rfl
  | load => exact .cons (rno (by decide)) (.cons .r .nil rfl) rfl
  | store => exact .cons .r (.cons .r .nil rfl) rfl
  | nop => exact .nil
  | tru => exact .cons .r (.cons (rno (by decide)) .nil rfl) rfl
  | fls => exact .cons .r (.cons (rno (by decide)) .nil rfl) rfl
  | sign => exact .cons .r (.cons (rno (by decide)) (.cons (rno (by decide)) (.cons (rno (by decide)) .nil rfl) rfl) rfl) rfl
  | switch => exact .cons .r (.cons (rno (by decide)) .nil rfl) rfl
  | jump => exact .cons (rno (by decide)) .nil rfl
theorem Ins.jparts (o : Ins) : Parts JPart (Str.ofString o.shape).cps.toList o.parts o.goals := by
  cases o with
  | ret a => exact .cons (jno (by decide)) .nil rfl
  | elem a b c => exact .cons (jno (by decide)) (.cons (jno (by decide)) (.cons (jno (by decide)) .nil rfl) rfl) rfl
  | call a b => exact .cons (jno (by decide)) (.cons (jno (by decide)) (.cons (jno (by decide)) (.cons (JPart.J (l := [])) .nil rfl) rfl) rfl) rfl
  | set => exact .cons (jno (by decide)) (.cons (jno (by decide)) (.cons (jno (by decide)) .nil rfl) rfl) rfl
  | move => exact .cons (jno (by decide)) (.cons (jno (by decide)) .nil rfl) rfl
  | bin => exact .cons (jno (by decide)) (.cons (jno (by decide)) (.cons (jno (by decide)) (.cons (jno (by decide)) (.cons (jno (by decide)) .nil rfl) rfl) rfl) rfl) rfl
  | cmp => exact .cons (jno (by decide)) (.cons (jno (by decide)) (.cons (jno (by decide)) (.cons (jno (by decide)) (.cons (jno (by decide)) .nil rfl) rfl) rfl) rfl) rfl
  | un => exact .cons (jno (by decide)) (.cons (jno (by decide)) (.cons (jno (by decide)) (.cons (jno (by decide)) .nil rfl) rfl) rfl) rfl
  | addr => exact .cons (jno (by decide)) (.cons (jno (by decide)) .nil rfl) rfl
  | load => exact .cons (jno (by decide)) (.cons (jno (by decide)) .nil rfl) rfl
  | store => exact .cons (jno (by decide)) (.cons (jno (by decide)) .nil rfl) rfl
  | nop => exact .nil
  | tru => exact .cons (jno (by decide)) (.cons .j .nil rfl) rfl
  | fls => exact .cons (jno (by decide)) (.cons .j .nil rfl) rfl
  | sign => exact .cons (jno (by decide)) (.cons .j (.cons .j (.cons .j .nil rfl) rfl) rfl) rfl
  | switch => exact .cons (jno (by decide)) (.cons .J .nil (by simp [Ins.goals])) rfl
  | jump => exact .cons .j .nil rfl

theorem Parts.at {P : Nat → V → List Int → Prop} {cs : List Nat} {ps : List V} {rest : List Int} {i : Nat} (h : Parts P (cs.drop i) (ps.drop i) rest) (hi : i < cs.length) :
    ∃ c p r rs, cs[i]? = some c ∧ ps[i]? = some p ∧ P c p r ∧ rest = r ++ rs ∧ Parts P (cs.drop (i + 1)) (ps.drop (i + 1)) rs := by
  rw [List.drop_eq_getElem_cons hi] at h
  generalize hp : ps.drop i = q at h
  cases h with
  | @cons c p r rs rr cs' ps' h1 h2 h3 =>
    have hip : i < ps.length := by
      apply Nat.lt_of_not_le
      intro hn
      rw [List.drop_eq_nil_of_le hn] at hp
      cases hp
    rw [List.drop_eq_getElem_cons hip] at hp
    injection hp with e1 e2
    subst e2
    exact ⟨_, p, r, rs, List.getElem?_eq_getElem hi, by rw [List.getElem?_eq_getElem hip, e1], h1, h3, h2⟩
end
section
variable {X : Cfg} {σ : List O} {aS aR : Addr}
theorem O2.chr {value slice : Expr} {x : Str} {i c : Nat} (hc : x.cps.toList[i]? = some c) (hi : i < 1000) (hs : ∀ t k u, subscripted slice false (.str x t) (.int k u) = operate [.str x t, .int k u] (getItem (.str x t) (.int k u))) : O2 X σ (subscriptTail value slice) (.str x) (.int (i : Int)) (.str ⟨#[c]⟩) := fun _ _ q => itemSi hc hi q hs
theorem O2.op0 {value slice : Expr} {o : Ins} (hs : Sits slice) : O2 X σ (subscriptTail value slice) o.toV (.int 0) (.str (Str.ofString o.tag)) := fun _ _ q => item0 o q hs
theorem O2.shp {value slice : Expr} {o : Ins} (T : TopOk X aS aR) (hs : ∀ a t, subscripted slice false (.ref a) (.str (Str.ofString o.tag) t) = operate [.ref a, .str (Str.ofString o.tag) t] (getItem (.ref a) (.str (Str.ofString o.tag) t))) : O2 X σ (subscriptTail value slice) (.addr aS) (.str (Str.ofString o.tag)) (.str (Str.ofString o.shape)) := fun _ _ q => shpO T o q hs
end

local macro_rules | `(tactic| kwd_less) => `(tactic| first | exact Sup.nil | ((refine Sup.cons ?h ?t); (case h => tb_rel); (case t => kwd_less)))
set_option maxRecDepth 10000
set_option maxHeartbeats 8000000
local macro_rules | `(tactic| kba_ints) => `(tactic| with_reducible first
  | exact O2.of (fun _ _ => eq_r) | exact O2.of (fun _ _ => eq_o) | exact O2.of (fun _ _ => eq_R) | exact O2.of (fun _ _ => eq_A) | exact O2.of (fun _ _ => eq_D) | exact O2.of (fun _ _ => eq_j) | exact O2.of (fun _ _ => eq_J) | exact O2.of (fun _ _ => eq_P)
  | ((refine' O2.chr ?a ?b ?c); (case a => assumption); (case b => k_dflt omega); (case c => kp_flats))
  | ((refine' O2.op0 ?c); (case c => kp_flats))
  | ((refine' O2.shp ?a ?c); (case a => assumption); (case c => (intro _ _; with_unfolding_all rfl))))
local macro_rules | `(tactic| mod_arm) => `(tactic| k_dflt first | rfl | (simp; done) | (simp; omega))
local macro_rules | `(tactic| krn_off) => `(tactic| k_dflt first | rfl | assumption | exact nrs_ints _)
local macro_rules | `(tactic| leaf_len) => `(tactic| first
  | (with_reducible first
    | ((refine' apA ?k ?_); (case k => kwd_inv))
    | ((refine' apB ?k ?c ?m ?_); (case k => kwd_inv); (case c => nest_cls); (case m => krn_off))
    | ((refine' exC ?k ?c ?m ?_); (case k => kwd_inv); (case c => nest_cls); (case m => krn_off))
    | ((refine' Op2.iaddL ?k ?e ?c ?m ?_); (case k => kwd_inv); (case e => kat_tups); (case c => nest_cls); (case m => krn_off))
    | ((refine' AndK.t ?e ?_); (case e => mod_arm)) | ((refine' AndK.f ?e ?_); (case e => mod_arm)) | ((refine' iteT ?e ?_); (case e => mod_arm)) | ((refine' iteF ?e ?_); (case e => mod_arm))
    | refine' tqNext ?_ | refine' tqCont ?_ | refine' tqRet ?_
    | ((refine' for_ ?a ?b ?_); (case a => kat_tups); (case b => (intro _ _; kat_tups)))
    | ((refine' OpC.lenS ?a ?_); (case a => exact Nat.le_trans (Ins.shapeLen _) (by decide))))
  | lsm_bools)

section
variable {X : Cfg} {n : Nat} {sc : List (Str × NameKind)} {ρ : Rho} {σ : List O} {Q : V → List O → Prop} {QF : Fl → Rho → List O → Prop} {aS aR : Addr} {c : Nat}
theorem reads_body (T : TopOk X aS aR) (o : Ins) (ho : ∀ r ∈ o.reads, 0 ≤ r) {Q : V → List O → Prop} (h : Q (.list (o.reads.map V.int)) []) : AXs X n (fsc 3) [("op", o.toV)] [] (fbody 3) (RetQ 0 Q) := by
  refine cons_ ?_
  leaf_len
  refine list0 (k := 0) (σ' := [.list []]) rfl rfl ?_
  repeat leaf_len
  have hlen : (Str.ofString o.shape).length = (Str.ofString o.shape).cps.toList.length := strLen
  have hs5 := o.shapeLen
  refine ⟨_, fun i R σ' => ∃ pre rest, o.reads = pre ++ rest ∧ Parts RPart ((Str.ofString o.shape).cps.toList.drop i) (o.parts.drop i) rest ∧ R = [("op", o.toV), ("found", .ref 0), ("shape", .str (Str.ofString o.shape))] ∧ σ' = [.list (pre.map V.int)],
    It.up (by omega), ⟨_, ?_, [], o.reads, rfl, o.rparts ho, rfl, rfl⟩, ?_, ?_⟩
  · kwd_less
  · rintro i d R σ' hi ⟨pre, rest, e, hp, rfl, rfl⟩
    obtain ⟨hi, rfl⟩ := range_at hi
    obtain ⟨c, p, r, rs, hc, hpp, hP, rfl, hrest⟩ := hp.at (by omega)
    have h2 := o.readsLen
    have hpl : pre.length ≤ 2 := by rw [e] at h2; simp at h2; omega
    have fin : ∀ ρ' σ', Sup ρ' [("op", o.toV), ("found", .ref 0), ("shape", .str (Str.ofString o.shape))] → σ' = [O.list ((pre ++ r).map V.int)] → Jx (fun i R σ' => ∃ pre rest, o.reads = pre ++ rest ∧ Parts RPart ((Str.ofString o.shape).cps.toList.drop i) (o.parts.drop i) rest ∧ R = [("op", o.toV), ("found", .ref 0), ("shape", .str (Str.ofString o.shape))] ∧ σ' = [.list (pre.map V.int)]) (i + 1) ρ' σ' := fun ρ' σ' h1 h2 =>
      ⟨_, h1, pre ++ r, rs, by simp [e], hrest, rfl, h2⟩
    repeat leaf_len
    refine itemP o (by omega) (by simpa using hpp) ?_ (by intro _ _ _; with_unfolding_all rfl)
    have hrl : r.length ≤ 2 := by rw [e] at h2; simp at h2; omega
    cases hP with
    | r =>
      repeat leaf_len
      exact fin _ _ (by kwd_less) (by simp)
    | o h0 =>
      repeat leaf_len
      exact fin _ _ (by kwd_less) (by simp)
    | R =>
      repeat leaf_len
      exact fin _ _ (by kwd_less) (by simp)
    | A =>
      repeat leaf_len
      refine ListCompT_ (ρf := []) ⟨rfl, by decide, by decide, rfl, by simp, fun _ _ h => nomatch h⟩ ?_ (by intro _ _; rfl)
      repeat leaf_len
      refine ⟨_, rfl, by simp; omega, compA T rfl rfl rfl r [] ?_⟩
      rw [List.nil_append]
      repeat leaf_len
      exact fin _ _ (by kwd_less) (by simp)
    | no n1 n2 n3 n4 n5 =>
      repeat leaf_len
      exact fin _ _ (by kwd_less) (by simp)
  · rintro R σ' ⟨pre, rest, e, hp, rfl, rfl⟩
    rw [List.length_map, List.length_range, hlen, List.drop_length] at hp
    repeat leaf_len
    refine retL (by omega) (by kwd_inv) ?_
    generalize List.drop _ o.parts = q at hp
    cases hp
    rw [e, List.append_nil] at h
    exact h
end

section
variable {X : Cfg} {n : Nat} {sc : List (Str × NameKind)} {ρ : Rho} {σ : List O} {Q : V → List O → Prop} {QF : Fl → Rho → List O → Prop} {aS aR : Addr} {c : Nat}
theorem jumps_body (T : TopOk X aS aR) (o : Ins) (ho : o.goals.length ≤ 3) {Q : V → List O → Prop} (h : Q (.list (o.goals.map V.int)) []) : AXs X n (fsc 5) [("op", o.toV)] [] (fbody 5) (RetQ 0 Q) := by
  refine cons_ ?_
  leaf_len
  refine list0 (k := 0) (σ' := [.list []]) rfl rfl ?_
  repeat leaf_len
  have hlen : (Str.ofString o.shape).length = (Str.ofString o.shape).cps.toList.length := strLen
  have hs5 := o.shapeLen
  refine ⟨_, fun i R σ' => ∃ pre rest, o.goals = pre ++ rest ∧ Parts JPart ((Str.ofString o.shape).cps.toList.drop i) (o.parts.drop i) rest ∧ R = [("op", o.toV), ("found", .ref 0), ("shape", .str (Str.ofString o.shape))] ∧ σ' = [.list (pre.map V.int)],
    It.up (by omega), ⟨_, ?_, [], o.goals, rfl, o.jparts, rfl, rfl⟩, ?_, ?_⟩
  · kwd_less
  · rintro i d R σ' hi ⟨pre, rest, e, hp, rfl, rfl⟩
    obtain ⟨hi, rfl⟩ := range_at hi
    obtain ⟨c, p, r, rs, hc, hpp, hP, rfl, hrest⟩ := hp.at (by omega)
    have h2 := ho
    have hpl : pre.length ≤ 3 := by rw [e] at h2; simp at h2; omega
    have fin : ∀ ρ' σ', Sup ρ' [("op", o.toV), ("found", .ref 0), ("shape", .str (Str.ofString o.shape))] → σ' = [O.list ((pre ++ r).map V.int)] → Jx (fun i R σ' => ∃ pre rest, o.goals = pre ++ rest ∧ Parts JPart ((Str.ofString o.shape).cps.toList.drop i) (o.parts.drop i) rest ∧ R = [("op", o.toV), ("found", .ref 0), ("shape", .str (Str.ofString o.shape))] ∧ σ' = [.list (pre.map V.int)]) (i + 1) ρ' σ' := fun ρ' σ' h1 h2 =>
      ⟨_, h1, pre ++ r, rs, by simp [e], hrest, rfl, h2⟩
    repeat leaf_len
    refine itemP o (by omega) (by simpa using hpp) ?_ (by intro _ _ _; with_unfolding_all rfl)
    have hrl : r.length ≤ 3 := by rw [e] at h2; simp at h2; omega
    cases hP with
    | j =>
      repeat leaf_len
      exact fin _ _ (by kwd_less) (by simp)
    | J =>
      repeat leaf_len
      exact fin _ _ (by kwd_less) (by simp)
    | no n1 n2 n3 n4 =>
      repeat leaf_len
      exact fin _ _ (by kwd_less) (by simp)
  · rintro R σ' ⟨pre, rest, e, hp, rfl, rfl⟩
    rw [List.length_map, List.length_range, hlen, List.drop_length] at hp
    repeat leaf_len
    refine retL (by omega) (by kwd_inv) ?_
    generalize List.drop _ o.parts = q at hp
    cases hp
    rw [e, List.append_nil] at h
    exact h

theorem reads_call (T : TopOk X aS aR) (o : Ins) (ho : ∀ r ∈ o.reads, 0 ≤ r) (h : Q (.list (o.reads.map V.int)) σ) : ∀ f, Code X "reads_of" ["op"] (fsc 3) (fbody 3) f → OpC X (n + 1) σ (.ref f) [o.toV] Q := fun f c =>
  funR c (by decide) (by decide) (by decide) rfl (by simp [V.nrs, o.nr]) (Q := fun d => d = .list (o.reads.map V.int)) (reads_body T o ho rfl) fun d e => e ▸ h
theorem jumps_call (T : TopOk X aS aR) (o : Ins) (ho : o.goals.length ≤ 3) (h : Q (.list (o.goals.map V.int)) σ) : ∀ f, Code X "jumps_of" ["op"] (fsc 5) (fbody 5) f → OpC X (n + 1) σ (.ref f) [o.toV] Q := fun f c =>
  funR c (by decide) (by decide) (by decide) rfl (by simp [V.nrs, o.nr]) (Q := fun d => d = .list (o.goals.map V.int)) (jumps_body T o ho rfl) fun d e => e ▸ h

theorem goesTag (o : Ins) : (!(leavingL.any (· == Str.ofString o.tag))) = o.on := by cases o <;> rfl
theorem wShape (o : Ins) : [Str.ofString "w", Str.ofString "v"].any (· == Txt.slice (Str.ofString o.shape) none (some 1)) = o.w.isSome := by cases o <;> rfl
theorem noneNe {a : Int} {P : Prop} (h : none = some a) : P := by cases h
theorem wPart (o : Ins) {a : Int} (h : o.w = some a) : o.parts[0]? = some (.int a) := by cases o <;> first | exact congrArg (Option.map V.int) h | exact noneNe h
theorem goes_body (T : TopOk X aS aR) (o : Ins) {Q : V → List O → Prop} (h : Q (.bool o.on) []) : AXs X n (fsc 6) [("op", o.toV)] [] (fbody 6) (RetQ 0 Q) := by
  refine cons_ ?_
  repeat leaf_len
  refine Op2.ninT rfl ?_
  rw [goesTag]
  exact goRet (retA (Nat.le_refl _) rfl h)
theorem writes_body (T : TopOk X aS aR) (o : Ins) {Q : V → List O → Prop} (h : Q (.int (o.w.getD (-1))) []) : AXs X n (fsc 4) [("op", o.toV)] [] (fbody 4) (RetQ 0 Q) := by
  refine cons_ ?_
  repeat leaf_len
  refine SubSliceS_ ?_ (by intro _ _ _; with_unfolding_all rfl) (by intro _ _ _; with_unfolding_all rfl)
  repeat leaf_len
  refine ⟨_, _, rfl, rfl, Nat.le_trans o.shapeLen (by decide), ?_⟩
  repeat leaf_len
  refine Op2.inT (ns := [Str.ofString "w", Str.ofString "v"]) rfl ?_
  rw [wShape]
  refine exB (ite_ (fun e => ?_) fun e => ?_)
  · obtain ⟨a, ha⟩ := Option.isSome_iff_exists.mp e
    rw [ha] at h
    repeat leaf_len
    refine itemP o (by decide) (wPart o ha) ?_ (by intro _ _ _; with_unfolding_all rfl)
    repeat leaf_len
    exact retA (Nat.le_refl _) rfl h
  · have ha : o.w = none := by simpa using e
    rw [ha] at h
    repeat leaf_len
    exact (retA (Nat.le_refl _) rfl h)
theorem goes_call (T : TopOk X aS aR) (o : Ins) (h : Q (.bool o.on) σ) : ∀ f, Code X "goes_on" ["op"] (fsc 6) (fbody 6) f → OpC X (n + 1) σ (.ref f) [o.toV] Q := fun f c =>
  funR c (by decide) (by decide) (by decide) rfl (by simp [V.nrs, o.nr]) (Q := fun d => d = .bool o.on) (goes_body T o rfl) fun d e => e ▸ h
theorem writes_call (T : TopOk X aS aR) (o : Ins) (h : Q (.int (o.w.getD (-1))) σ) : ∀ f, Code X "writes_of" ["op"] (fsc 4) (fbody 4) f → OpC X (n + 1) σ (.ref f) [o.toV] Q := fun f c =>
  funR c (by decide) (by decide) (by decide) rfl (by simp [V.nrs, o.nr]) (Q := fun d => d = .int (o.w.getD (-1))) (writes_body T o rfl) fun d e => e ▸ h
end

section
variable {X : Cfg} {n : Nat} {sc : List (Str × NameKind)} {ρ : Rho} {σ : List O} {Q : V → List O → Prop} {QF : Fl → Rho → List O → Prop} {aS aR : Addr} {c : Nat} {ops : List Ins}
def opsV (ops : List Ins) : V := .list (ops.map Ins.toV)
theorem nrs_toV : ∀ ops : List Ins, V.nrs (ops.map Ins.toV) = true
  | [] => rfl
  | o :: ops => by rw [List.map_cons]; simp only [V.nrs, o.nr, nrs_toV ops, Bool.and_true]
theorem opsV_nr : (opsV ops).nr = true := nrs_toV ops
theorem itemOps {value slice : Expr} {i : Nat} {o : Ins} (h : ops[i]? = some o) (hi : ops.length ≤ 100) (hq : Q o.toV σ)
    (hs : ∀ a k u, subscripted slice false (.ref a) (.int k u) = operate [.ref a, .int k u] (getItem (.ref a) (.int k u))) : Op2 X n σ (subscriptTail value slice) (opsV ops) (.int (i : Int)) Q := by
  have hl := (List.getElem?_eq_some_iff.mp h).1
  exact .itemL .im (by omega) (by omega) (by simp [h]) hq hs
/-- where a place leads -/
def succs (o : Ins) (i : Nat) : List Int := o.goals ++ if o.on then [(i : Int) + 1] else []
theorem listMk {d : V} {ds : List V} {k : Nat} {σ' : List O} (c : LC σ d ds) (hk : σ.length = k) (hs : σ ++ [.list ds] = σ') (hl : ds.length ≤ 1000) (hn : V.nrs ds = true) (h : Q (.ref k) σ') : OpC X n σ (.type "list") [d] Q := by
  subst hk; subst hs; exact .listM c hl hn h
theorem O2.itO {value slice : Expr} {i : Nat} {o : Ins} (h : ops[i]? = some o) (hi : ops.length ≤ 100) (hs : Sits slice) : O2 X σ (subscriptTail value slice) (opsV ops) (.int (i : Int)) o.toV := fun _ _ q => itemOps h hi q hs
end

local macro_rules | `(tactic| kba_ints) => `(tactic| with_reducible ((refine' O2.itO ?a ?b ?c); (case a => assumption); (case b => k_dflt omega); (case c => kp_flats)))
local macro_rules | `(tactic| kas_types) => `(tactic| first
  | refine' callG (TopOk.f3 ?T) ?_ ?d ?e ?f ?g
  | refine' callG (TopOk.f4 ?T) ?_ ?d ?e ?f ?g
  | refine' callG (TopOk.f5 ?T) ?_ ?d ?e ?f ?g
  | refine' callG (TopOk.f6 ?T) ?_ ?d ?e ?f ?g
  | refine' callG (TopOk.f8 ?T) ?_ ?d ?e ?f ?g
  | refine' callG (TopOk.f9 ?T) ?_ ?d ?e ?f ?g
  | refine' callG (TopOk.f10 ?T) ?_ ?d ?e ?f ?g
  | refine' callG (TopOk.f11 ?T) ?_ ?d ?e ?f ?g
  | refine' callG (TopOk.f12 ?T) ?_ ?d ?e ?f ?g
  | refine' callG (TopOk.f13 ?T) ?_ ?d ?e ?f ?g
  | refine' callG (TopOk.f17 ?T) ?_ ?d ?e ?f ?g
  | refine' callG (TopOk.f18 ?T) ?_ ?d ?e ?f ?g
  | refine' callG (TopOk.f20 ?T) ?_ ?d ?e ?f ?g
  | refine' callG (TopOk.f21 ?T) ?_ ?d ?e ?f ?g
  | refine' callG (TopOk.f24 ?T) ?_ ?d ?e ?f ?g
  | refine' callG (TopOk.f25 ?T) ?_ ?d ?e ?f ?g
  | refine' callG (TopOk.f26 ?T) ?_ ?d ?e ?f ?g
  | refine' callG (TopOk.f27 ?T) ?_ ?d ?e ?f ?g)
local macro_rules | `(tactic| kxs_still) => `(tactic| with_reducible (kas_types; (case T => assumption); (case d => kat_tups); (case e => kat_tups); (case f => (intro _; kat_tups)); (case g => decide)))
local macro_rules | `(tactic| lcg_off) => `(tactic| first
  | (with_reducible first
    | ((refine' reads_call ?T _ ?h ?_); (case T => assumption); (case h => assumption))
    | ((refine' jumps_call ?T _ ?h ?_); (case T => assumption); (case h => assumption))
    | ((refine' goes_call ?T _ ?_); (case T => assumption))
    | ((refine' writes_call ?T _ ?_); (case T => assumption)))
  | (leaf_len)
  | ((with_reducible show AW _ _ _ _ _ (Expr.Call (Expr.Name _ _) _ _ _) _); kxs_still))

section
variable {X : Cfg} {n : Nat} {sc : List (Str × NameKind)} {ρ : Rho} {σ : List O} {Q : V → List O → Prop} {QF : Fl → Rho → List O → Prop} {aS aR : Addr} {c : Nat} {ops : List Ins}
theorem follows_body (T : TopOk X aS aR) {i : Nat} {o : Ins} (hi : ops[i]? = some o) (hl : ops.length ≤ 100) (ho : o.goals.length ≤ 3) {Q : V → List O → Prop} (h : Q (.list ((succs o i).map V.int)) []) : AXs X (n + 1) (fsc 9) [("ops", opsV ops), ("at", .int i)] [] (fbody 9) (RetQ 0 Q) := by
  refine cons_ ?_
  lcg_off
  refine callB (T := T) (v := .type "list") (by simp) (by rfl) (by decide) (.inr ⟨_, rfl⟩) (by rfl) ?_
  repeat lcg_off
  refine listMk (k := 0) (σ' := [.list (o.goals.map V.int)]) .im rfl rfl (by simp; omega) (nrs_ints _) ?_
  repeat lcg_off
  refine ite_ (fun e => ?_) fun e => ?_
  · repeat lcg_off
    refine retL (by omega) (by kwd_inv) ?_
    simpa [succs, e] using h
  · repeat lcg_off
    refine retL (by omega) (by kwd_inv) ?_
    simpa [succs, e] using h
theorem follows_call (T : TopOk X aS aR) {i : Nat} {o : Ins} (hi : ops[i]? = some o) (hl : ops.length ≤ 100) (ho : o.goals.length ≤ 3) (h : Q (.list ((succs o i).map V.int)) σ) : ∀ f, Code X "follows" ["ops", "at"] (fsc 9) (fbody 9) f → OpC X (n + 2) σ (.ref f) [opsV ops, .int i] Q := fun f c =>
  funR c (by decide) (by decide) (by decide) rfl (by simp [V.nrs, opsV_nr, V.nr]) (Q := fun d => d = .list ((succs o i).map V.int)) (follows_body T hi hl ho rfl) fun d e => e ▸ h
end

local macro_rules | `(tactic| lcg_src) => `(tactic| first
  | lcg_off
  | ((with_reducible refine' itemP _ ?a ?b ?_ ?c); (case b => rfl); (case a => decide); (case c => (intro _ _ _; with_unfolding_all rfl)))
  | (refine' Op2.inT (ns := [Str.ofString "true", Str.ofString "false"]) rfl ?_))
section
variable {X : Cfg} {n : Nat} {sc : List (Str × NameKind)} {ρ : Rho} {σ : List O} {Q : V → List O → Prop} {QF : Fl → Rho → List O → Prop} {aS aR : Addr} {c : Nat} {ops : List Ins}

/-- the table's places, what stands there, and the rest -/
def Ins.idx : Ins → List Int
  | .set .. => [] | .move .. => [2] | .bin .. => [4, 5] | .cmp .. => [4, 5] | .un .. => [4] | .addr .. => [] | .elem .. => [2] | .load .. => [2] | .store .. => [1, 2]
  | .call .. => [] | .ret .. => [1] | .nop => [] | .tru .. => [1] | .fls .. => [1] | .sign .. => [1] | .switch .. => [1] | .jump .. => []
def Ins.r0 : Ins → List Int
  | .elem _ b _ => [b] | .call .. => [] | .set .. => [] | .move _ b => [b] | .bin _ _ b c => [b, c] | .cmp _ _ b c => [b, c] | .un _ _ _ b => [b] | .addr .. => [] | .load _ b => [b] | .store a b => [a, b]
  | .ret a => [a] | .nop => [] | .tru a _ => [a] | .fls a _ => [a] | .sign a _ _ _ => [a] | .switch a _ => [a] | .jump _ => []
inductive At (ps : List V) : List Int → List Int → Prop
  | nil : At ps [] []
  | cons {i r : Int} {is rs : List Int} : 1 ≤ i → ps[(i - 1).toNat]? = some (.int r) → At ps is rs → At ps (i :: is) (r :: rs)
theorem Ins.ats (o : Ins) : At o.parts o.idx o.r0 := by
  cases o with
  | bin => exact .cons (by decide) rfl (.cons (by decide) rfl .nil)
  | cmp => exact .cons (by decide) rfl (.cons (by decide) rfl .nil)
  | store => exact .cons (by decide) rfl (.cons (by decide) rfl .nil)
  | _ => first | exact .nil | exact .cons (by decide) rfl .nil
theorem Ins.idxTab (o : Ins) : ((o.tag, o.idx) ∈ readTab) ∨ (o.tag ∈ readNot ∧ o.idx = []) := by
  cases o with
  | set => exact .inr ⟨List.mem_of_getElem? (i := 0) rfl, rfl⟩
  | addr => exact .inr ⟨List.mem_of_getElem? (i := 1) rfl, rfl⟩
  | call => exact .inr ⟨List.mem_of_getElem? (i := 2) rfl, rfl⟩
  | jump => exact .inr ⟨List.mem_of_getElem? (i := 3) rfl, rfl⟩
  | nop => exact .inr ⟨List.mem_of_getElem? (i := 4) rfl, rfl⟩
  | move => exact .inl (List.mem_of_getElem? (i := 0) rfl)
  | bin => exact .inl (List.mem_of_getElem? (i := 1) rfl)
  | cmp => exact .inl (List.mem_of_getElem? (i := 2) rfl)
  | un => exact .inl (List.mem_of_getElem? (i := 3) rfl)
  | load => exact .inl (List.mem_of_getElem? (i := 4) rfl)
  | store => exact .inl (List.mem_of_getElem? (i := 5) rfl)
  | tru => exact .inl (List.mem_of_getElem? (i := 6) rfl)
  | fls => exact .inl (List.mem_of_getElem? (i := 7) rfl)
  | sign => exact .inl (List.mem_of_getElem? (i := 8) rfl)
  | switch => exact .inl (List.mem_of_getElem? (i := 9) rfl)
  | elem => exact .inl (List.mem_of_getElem? (i := 10) rfl)
  | ret => exact .inl (List.mem_of_getElem? (i := 11) rfl)
theorem getTab (T : TopOk X aS aR) (o : Ins) (h : Q (.list (o.idx.map V.int)) σ) : OpC X n σ (.builtin "dict.get") [.addr aR, .str (Str.ofString o.tag), .list []] Q := by
  obtain ⟨es, k, hl, hk⟩ := T.rdD
  rcases o.idxTab with hm | ⟨hm, e⟩
  · obtain ⟨v, e, hv⟩ := T.read _ hm
    exact .getG hl hk T.rdLow e (.inl ⟨v, rfl, hv⟩) h
  · rw [e] at h
    exact .getG hl hk T.rdLow (T.readN _ hm) (.inr ⟨rfl, rfl⟩) h
theorem compAt {sc' : List (Str × NameKind)} {p1 p2 p3 : Pos} (o : Ins) {ρf : Rho} (hf : Lk ρf "op" o.toV) : ∀ (is rs : List Int) (acc : List V), At o.parts is rs → Q (.list (acc ++ rs.map V.int)) σ → CompW X n sc' ρf "at" (.Subscript (.Name (Str.ofString "op") p1) (.Name (Str.ofString "at") p2) p3) Q (is.map V.int) acc σ
  | _, _, acc, .nil, h => by simpa [CompW] using h
  | _, _, acc, .cons (i := i) (r := r) (rs := rs) h1 h2 h3, h => by
    show AW X n sc' (("at", V.int i) :: ρf) σ _ _
    refine Subscript_ (Name_ (.there (by decide) hf) (Name_ .here (itemP o h1 h2 (compAt o hf _ _ (acc ++ [.int r]) h3 ?_) (by intro _ _ _; with_unfolding_all rfl))))
    simpa using h
theorem Ins.extra (o : Ins) : (((Str.ofString o.tag).cps.toList == (Str.ofString "elem").cps.toList) = false ∧ ((Str.ofString o.tag).cps.toList == (Str.ofString "call").cps.toList) = false ∧ o.reads = o.r0) ∨
    ((((Str.ofString o.tag).cps.toList == (Str.ofString "elem").cps.toList) = true ∨ ((Str.ofString o.tag).cps.toList == (Str.ofString "elem").cps.toList) = false ∧ ((Str.ofString o.tag).cps.toList == (Str.ofString "call").cps.toList) = true) ∧ ∃ b, o.parts[2]? = some (.list [.int b]) ∧ o.reads = o.r0 ++ [b] ∧ o.r0.length ≤ 1) := by
  cases o with
  | elem a b c => exact .inr ⟨.inl rfl, c, rfl, rfl, Nat.le_refl 1⟩
  | call a b => exact .inr ⟨.inr ⟨rfl, rfl⟩, b, rfl, rfl, Nat.zero_le _⟩
  | _ => exact .inl ⟨rfl, rfl, rfl⟩
theorem lread_body (T : TopOk X aS aR) (o : Ins) {Q : V → List O → Prop} (h : Q (.list (o.reads.map V.int)) []) : AXs X n (fsc 24) [("op", o.toV)] [] (fbody 24) (RetQ 0 Q) := by
  have h2 := o.readsLen
  refine cons_ ?_
  refine AssignComp_ (ρf := [("op", o.toV)]) ⟨rfl, by decide, by decide, rfl, ?_, ?_⟩ rfl ?_ (by nest_fact) (by intro _ _; rfl)
  · intro y hy
    simp at hy
    subst hy
    exact ⟨rfl, "op", _, rfl, .here⟩
  · intro y d l
    cases l with
    | here => exact ⟨.here, rfl⟩
    | there _ l => exact nomatch l
  refine Method_ (T := "dict") (id := "dict.get") PySem.F.plainAttrs_dict PySem.F.slot_dict_get rfl ?_
  obtain ⟨es, k, hl, hk⟩ := T.rdD
  repeat lcg_off
  refine ⟨.addrD hl, ?_⟩
  repeat lcg_off
  refine getTab T o ?_
  have hi : o.idx.length ≤ 2 := by cases o <;> simp [Ins.idx]
  refine ⟨_, .list (by simp; omega), compAt o .here _ _ [] o.ats ?_⟩
  rw [List.nil_append]
  repeat lcg_off
  rcases o.extra with ⟨e1, e2, e3⟩ | ⟨e, b, hb, e3, hb1⟩
  · repeat lcg_off
    refine AndK.f e1 ?_
    repeat lcg_off
    refine AndK.f e2 ?_
    repeat lcg_off
    refine retA (Nat.le_refl _) (nrs_ints _) ?_
    rw [← e3]; exact h
  · have hfin : Q (.list (o.r0.map V.int ++ [.int b])) [] := by rw [e3] at h; simpa using h
    rcases e with e | ⟨e, e'⟩
    · repeat lcg_off
      refine AndK.t e ?_
      repeat lcg_off
      refine itemP o (by decide) hb ?_ (by intro _ _ _; with_unfolding_all rfl)
      refine Op2.catF .im .im (by simp; omega) (nrs_ints _) rfl ?_
      repeat lcg_off
      exact retA (Nat.le_refl _) (nrs_ints (o.r0 ++ [b]) ▸ by simp [V.nr]) hfin
    · repeat lcg_off
      refine AndK.f e ?_
      repeat lcg_off
      refine AndK.t e' ?_
      repeat lcg_off
      refine itemP o (by decide) hb ?_ (by intro _ _ _; with_unfolding_all rfl)
      refine Op2.catF .im .im (by simp; omega) (nrs_ints _) rfl ?_
      repeat lcg_off
      exact retA (Nat.le_refl _) (nrs_ints (o.r0 ++ [b]) ▸ by simp [V.nr]) hfin
theorem lread_call (T : TopOk X aS aR) (o : Ins) (h : Q (.list (o.reads.map V.int)) σ) : ∀ f, Code X "_law_read_by" ["op"] (fsc 24) (fbody 24) f → OpC X (n + 1) σ (.ref f) [o.toV] Q := fun f c =>
  funRC c (by decide) (by decide) (by decide) rfl (by simp [V.nrs, o.nr]) (Q := fun d => d = .list (o.reads.map V.int)) (lread_body T o rfl) fun d e => e ▸ h

set_option maxHeartbeats 8000000 in
theorem lgoals_body (T : TopOk X aS aR) (o : Ins) {Q : V → List O → Prop} (h : Q (.list (o.goals.map V.int)) []) : AXs X n (fsc 25) [("op", o.toV)] [] (fbody 25) (RetQ 0 Q) := by
  cases o with
  | switch a gs =>
    refine cons_ ?_
    repeat lcg_src
    exact retA (Nat.le_refl _) (nrs_ints gs) h
  | _ =>
    refine cons_ ?_
    repeat lcg_src
    exact retA (Nat.le_refl _) rfl h
theorem lgoals_call (T : TopOk X aS aR) (o : Ins) (h : Q (.list (o.goals.map V.int)) σ) : ∀ f, Code X "_law_goals" ["op"] (fsc 25) (fbody 25) f → OpC X (n + 1) σ (.ref f) [o.toV] Q := fun f c =>
  funR c (by decide) (by decide) (by decide) rfl (by simp [V.nrs, o.nr]) (Q := fun d => d = .list (o.goals.map V.int)) (lgoals_body T o rfl) fun d e => e ▸ h

theorem onTag (o : Ins) : [Str.ofString "jump", Str.ofString "sign", Str.ofString "return"].any (· == Str.ofString o.tag) = !o.on := by cases o <;> rfl
theorem lways_body (T : TopOk X aS aR) {i : Nat} {o : Ins} (hi : ops[i]? = some o) (hl : ops.length ≤ 100) (ho : o.goals.length ≤ 3) {Q : V → List O → Prop} (h : Q (.list ((succs o i).map V.int)) []) : AXs X (n + 1) (fsc 26) [("ops", opsV ops), ("at", .int i)] [] (fbody 26) (RetQ 0 Q) := by
  refine cons_ ?_
  repeat lcg_off
  refine lgoals_call T o ?_
  repeat lcg_off
  refine Op2.inT (ns := [Str.ofString "jump", Str.ofString "sign", Str.ofString "return"]) rfl ?_
  rw [onTag]
  repeat lcg_off
  refine ite_ (fun e => ?_) fun e => ?_
  · repeat lcg_off
    refine Op2.catF .im .im (by simp; omega) (nrs_ints _) rfl ?_
    have e' : o.on = false := by simpa using e
    repeat lcg_off
    refine retA (Nat.le_refl _) ?_ ?_
    · simpa [V.nr] using nrs_ints o.goals
    · simpa [succs, e'] using h
  · repeat lcg_off
    refine Op2.catF .im .im (by simp; omega) (nrs_ints _) rfl ?_
    have e' : o.on = true := by simpa using e
    repeat lcg_off
    refine retA (Nat.le_refl _) ?_ ?_
    · have := nrs_ints (o.goals ++ [(i : Int) + 1])
      simpa [V.nr] using this
    · simpa [succs, e'] using h
theorem lways_call (T : TopOk X aS aR) {i : Nat} {o : Ins} (hi : ops[i]? = some o) (hl : ops.length ≤ 100) (ho : o.goals.length ≤ 3) (h : Q (.list ((succs o i).map V.int)) σ) : ∀ f, Code X "_law_ways" ["ops", "at"] (fsc 26) (fbody 26) f → OpC X (n + 2) σ (.ref f) [opsV ops, .int i] Q := fun f c =>
  funR c (by decide) (by decide) (by decide) rfl (by simp [V.nrs, opsV_nr, V.nr]) (Q := fun d => d = .list ((succs o i).map V.int)) (lways_body T hi hl ho rfl) fun d e => e ▸ h
end

section
variable {X : Cfg} {n : Nat} {sc : List (Str × NameKind)} {ρ : Rho} {σ : List O} {Q : V → List O → Prop} {QF : Fl → Rho → List O → Prop} {QB : Bool → List O → Prop} {aS aR : Addr} {c : Nat} {ops : List Ins}

abbrev natV (m : Nat) : V := .int (m : Int)
theorem nrs_nats : ∀ l : List Nat, V.nrs (l.map natV) = true
  | [] => rfl
  | a :: l => by simp [V.nrs, V.nr, nrs_nats l]
theorem bitOr_nat (a b : Nat) : Builtin.bitOr (a : Int) (b : Int) = ((a ||| b : Nat) : Int) := by
  unfold Builtin.bitOr
  rw [bitAnd_nn (by simp [Builtin.bitNot]; omega) (by simp [Builtin.bitNot]; omega)]
  have e : ∀ z : Int, Builtin.bitNot (Builtin.bitNot z) = z := fun z => by simp only [Builtin.bitNot]; omega
  simp only [e, Int.toNat_natCast]
theorem iorN {a b : Nat} (h : Q (natV (a ||| b)) σ) : Op2 X n σ (inplaceOp .BitOr) (natV a) (natV b) Q := .ior (by rw [bitOr_nat]; exact h)
theorem orN {a b : Nat} (h : Q (natV (a ||| b)) σ) : Op2 X n σ (binaryOp .BitOr) (natV a) (natV b) Q := .or (by rw [bitOr_nat]; exact h)
theorem shl1 {j : Int} (h0 : 0 ≤ j) (h1 : j ≤ 1000) (h : Q (natV (2 ^ j.toNat)) σ) : Op2 X n σ (binaryOp .LShift) (.int 1) (.int j) Q := .shl h0 (by omega) (by decide) (by
  have e : (1 : Int) * 2 ^ j.toNat = ((2 ^ j.toNat : Nat) : Int) := by simp
  rw [e]; exact h)
theorem shrN {a : Nat} {j : Int} (h0 : 0 ≤ j) (h : Q (natV (a >>> j.toNat)) σ) : Op2 X n σ (binaryOp .RShift) (natV a) (.int j) Q := .shr h0 (by
  have e : ((a : Int)).fdiv (2 ^ j.toNat) = ((a >>> j.toNat : Nat) : Int) := by
    rw [Int.fdiv_eq_ediv_of_nonneg _ (Int.le_of_lt (Int.pow_pos (by decide))), Nat.shiftRight_eq_div_pow]; simp
  rw [e]; exact h)
theorem ishrN {a : Nat} {j : Int} (h0 : 0 ≤ j) (h : Q (natV (a >>> j.toNat)) σ) : Op2 X n σ (inplaceOp .RShift) (natV a) (.int j) Q := .ishr h0 (by
  have e : ((a : Int)).fdiv (2 ^ j.toNat) = ((a >>> j.toNat : Nat) : Int) := by
    rw [Int.fdiv_eq_ediv_of_nonneg _ (Int.le_of_lt (Int.pow_pos (by decide))), Nat.shiftRight_eq_div_pow]; simp
  rw [e]; exact h)
theorem and1 {a : Nat} (h : Q (natV (a % 2)) σ) : Op2 X n σ (binaryOp .BitAnd) (natV a) (.int 1) Q := .and (by
  have e : Builtin.bitAnd (a : Int) 1 = ((a % 2 : Nat) : Int) := by rw [bitAnd_m1]; simp
  rw [e]; exact h)
theorem trN {a : Nat} (h : QB (a != 0) σ) : Tr X n σ (natV a) QB := .int (by
  have e : ((a : Int) != 0) = (a != 0) := by
    cases a <;> simp [bne] <;> omega
  rw [e]; exact h)
theorem bit_mod (a j : Nat) : ((a >>> j) % 2 != 0) = a.testBit j := by
  simp [Nat.testBit, Nat.and_comm, Nat.and_one_is_mod]

def bitsOf (rs : List Int) : Nat := rs.foldl (fun m r => m ||| 2 ^ r.toNat) 0
def behind (o : Ins) (i : Nat) (live : List Nat) : Nat := (succs o i).foldl (fun m g => m ||| live.getD g.toNat 0) 0
def less (m : Nat) : Option Int → Nat
  | some a => if m.testBit a.toNat then m - 2 ^ a.toNat else m
  | none => m
def newMask (o : Ins) (i : Nat) (live : List Nat) : Nat := less (behind o i live) o.w ||| bitsOf o.reads
theorem foldl_take {α β : Type} (f : β → α → β) (b : β) (l : List α) (i : Nat) (x : α) (h : l[i]? = some x) : (l.take (i + 1)).foldl f b = f ((l.take i).foldl f b) x := by
  rw [List.take_add_one, h]
  simp
end

section
variable {X : Cfg} {n : Nat} {sc : List (Str × NameKind)} {ρ : Rho} {σ : List O} {Q : V → List O → Prop} {QF : Fl → Rho → List O → Prop} {aS aR : Addr} {c : Nat} {ops : List Ins}
theorem mask_body (T : TopOk X aS aR) {rs : List Int} (hr : ∀ r ∈ rs, 0 ≤ r ∧ r < 8) {Q : V → List O → Prop} (h : Q (natV (bitsOf rs)) []) : AXs X n (fsc 11) [("registers", .list (rs.map V.int))] [] (fbody 11) (RetQ 0 Q) := by
  refine cons_ ?_
  repeat lcg_off
  refine ⟨_, fun i R σ' => R = [("registers", .list (rs.map V.int)), ("mask", natV (bitsOf (rs.take i)))] ∧ σ' = [], .list, ⟨[("registers", .list (rs.map V.int)), ("mask", .int 0)], ?_, rfl, rfl⟩, ?_, ?_⟩
  · kwd_less
  · rintro i d R σ' hi ⟨rfl, rfl⟩
    rw [List.getElem?_map] at hi
    obtain ⟨r, hi', rfl⟩ := Option.map_eq_some_iff.mp hi
    have hm := hr r (List.mem_of_getElem? hi')
    repeat lcg_off
    refine shl1 hm.1 (by omega) ?_
    refine iorN ?_
    repeat lcg_off
    refine ⟨_, ?_, rfl, rfl⟩
    have e : bitsOf (rs.take (i + 1)) = bitsOf (rs.take i) ||| 2 ^ r.toNat := foldl_take _ _ _ _ _ hi'
    rw [e]
    kwd_less
  · rintro R σ' ⟨rfl, rfl⟩
    repeat lcg_off
    refine retA (Nat.le_refl _) rfl ?_
    rw [List.length_map, List.take_length]
    exact h
theorem mask_call (T : TopOk X aS aR) {rs : List Int} (hr : ∀ r ∈ rs, 0 ≤ r ∧ r < 8) (h : Q (natV (bitsOf rs)) σ) : ∀ f, Code X "mask_of" ["registers"] (fsc 11) (fbody 11) f → OpC X (n + 1) σ (.ref f) [.list (rs.map V.int)] Q := fun f c =>
  funR c (by decide) (by decide) (by decide) rfl (by simp [V.nrs, V.nr, nrs_ints]) (Q := fun d => d = natV (bitsOf rs)) (mask_body T hr rfl) fun d e => e ▸ h

theorem behind_body (T : TopOk X aS aR) {i : Nat} {o : Ins} {live : List Nat} {k : Nat} (hk : σ[k]? = some (.list (live.map natV))) (hi : ops[i]? = some o) (hl : ops.length ≤ 100) (ho : o.goals.length ≤ 3) (hs : ∀ g ∈ succs o i, 0 ≤ g ∧ g < live.length) (hll : live.length ≤ 200)
    (h : Q (natV (behind o i live)) σ) : AXs X (n + 2) (fsc 13) [("ops", opsV ops), ("live", .ref k), ("at", .int i)] σ (fbody 13) (RetQ σ.length Q) := by
  refine cons_ ?_
  repeat lcg_off
  refine follows_call T hi hl ho ?_
  refine ⟨_, fun j R σ' => R = [("ops", opsV ops), ("live", .ref k), ("at", .int i), ("mask", natV (((succs o i).take j).foldl (fun m g => m ||| live.getD g.toNat 0) 0))] ∧ σ' = σ, .list, ⟨[("ops", opsV ops), ("live", .ref k), ("at", .int i), ("mask", .int 0)], ?_, rfl, rfl⟩, ?_, ?_⟩
  · kwd_less
  · rintro j d R σ' hj ⟨rfl, rfl⟩
    rw [List.getElem?_map] at hj
    obtain ⟨r, hj', rfl⟩ := Option.map_eq_some_iff.mp hj
    have hm := hs r (List.mem_of_getElem? hj')
    repeat lcg_off
    have hg : (live.map natV)[r.toNat]? = some (natV (live.getD r.toNat 0)) := by
      have : r.toNat < live.length := by omega
      simp [this]
    refine Op2.itemL (.mu hk) hm.1 (by omega) hg ?_ (by intro _ _ _; with_unfolding_all rfl)
    refine iorN ?_
    repeat lcg_off
    refine ⟨_, ?_, rfl, rfl⟩
    rw [foldl_take _ _ _ _ _ hj']
    kwd_less
  · rintro R σ' ⟨rfl, rfl⟩
    repeat lcg_off
    refine retA (Nat.le_refl _) rfl ?_
    rw [List.length_map, List.take_length]
    exact h
theorem behind_call (T : TopOk X aS aR) {i : Nat} {o : Ins} {live : List Nat} {k : Nat} (hk : σ[k]? = some (.list (live.map natV))) (hi : ops[i]? = some o) (hl : ops.length ≤ 100) (ho : o.goals.length ≤ 3) (hs : ∀ g ∈ succs o i, 0 ≤ g ∧ g < live.length) (hll : live.length ≤ 200)
    (h : Q (natV (behind o i live)) σ) : ∀ f, Code X "live_behind" ["ops", "live", "at"] (fsc 13) (fbody 13) f → OpC X (n + 3) σ (.ref f) [opsV ops, .ref k, .int i] Q := fun f c =>
  funW c (by decide) (by decide) (by decide) rfl (behind_body T hk hi hl ho hs hll h)
end

section
variable {X : Cfg} {n : Nat} {sc : List (Str × NameKind)} {ρ : Rho} {σ : List O} {Q : V → List O → Prop} {QF : Fl → Rho → List O → Prop} {QB : Bool → List O → Prop} {aS aR : Addr} {c : Nat} {ops : List Ins}
/-- the ways through a statement meet -/
theorem join {st : Stmt} {rest : List Stmt} (R' : Rho) (σ2 : List O) (h1 : AX X n sc ρ σ st (fun f ρ' σ'' => f = .next ∧ Sup ρ' R' ∧ σ'' = σ2)) (h2 : AXs X n sc R' σ2 rest QF) : AX X n sc ρ σ st (Go X n sc rest QF) :=
  AWs.mono h1 fun f ρ' σ' h => by
    obtain ⟨rfl, h3, rfl⟩ := h
    exact goNext (AWs.weak h2 h3)
theorem lenOps (hl : ops.length ≤ 100) (h : Q (.int ops.length) σ) : OpC X n σ (.builtin "len") [opsV ops] Q := .len (ds := ops.map Ins.toV) .im (by simp; omega) (by simpa using h)
theorem repMk {a : V} {d : V} {i : Int} {k : Nat} {σ' : List O} {m : Nat} (ca : LC σ a [d]) (hm : i = (m : Int)) (hi : m ≤ 1000) (hn : d.nr = true) (hk : σ.length = k) (hs : σ ++ [.list (List.replicate m d)] = σ') (h : Q (.ref k) σ') : Op2 X n σ (binaryOp .Mult) a (.int i) Q := by
  subst hk; subst hs; subst hm
  exact .rep ca (by omega) (by omega) hn (by simpa using h)
theorem isubN {a b : Nat} (hab : b ≤ a) (h : Q (natV (a - b)) σ) : Op2 X n σ (inplaceOp .Sub) (natV a) (natV b) Q := .isub (by
  have e : (a : Int) - (b : Int) = ((a - b : Nat) : Int) := by omega
  rw [e]; exact h)
theorem itemN {value slice : Expr} {a : V} {i : Nat} {live : List Nat} (c : LC σ a (live.map natV)) (hi : i < live.length) (hl : live.length ≤ 1000) (h : Q (natV (live.getD i 0)) σ)
    (hs : ∀ a k u, subscripted slice false (.ref a) (.int k u) = operate [.ref a, .int k u] (getItem (.ref a) (.int k u))) : Op2 X n σ (subscriptTail value slice) a (.int (i : Int)) Q :=
  .itemL c (by omega) (by omega) (by simp [hi]) h hs
theorem O2.liv {value slice : Expr} {a : V} {i : Nat} {live : List Nat} (c : LC σ a (live.map natV)) (hi : i < live.length) (hl : live.length ≤ 1000) (hs : Sits slice) : O2 X σ (subscriptTail value slice) a (.int (i : Int)) (natV (live.getD i 0)) := fun _ _ q => itemN c hi hl q hs
end

local macro_rules | `(tactic| lcg_off) => `(tactic| first
  | ((with_reducible refine' lenOps ?a ?_); (case a => assumption)))
local macro_rules | `(tactic| one_item) => `(tactic| first | ((refine ⟨rfl, ?a, rfl⟩); (case a => kwd_less)) | ((refine ⟨?a, rfl⟩); (case a => kwd_less)))
local macro_rules | `(tactic| mem_news) => `(tactic| ((fail_if_success (with_reducible show AX _ _ _ _ _ (Stmt.If _ _ _ _) _)); lcg_off))
set_option maxHeartbeats 8000000
section
variable {X : Cfg} {n : Nat} {sc : List (Str × NameKind)} {ρ : Rho} {σ : List O} {Q : V → List O → Prop} {QF : Fl → Rho → List O → Prop} {aS aR : Addr} {c : Nat} {ops : List Ins}
theorem live_body (T : TopOk X aS aR) (hl : ops.length ≤ 100) (hok : ∀ i o, ops[i]? = some o → o.ok ops.length ∧ ∀ g ∈ succs o i, 0 ≤ g ∧ g < ops.length + 1)
    {P : List Nat → Prop} {ms : List Nat → Nat} (hp0 : P (List.replicate (ops.length + 1) 0)) (hpl : ∀ live, P live → live.length = ops.length + 1)
    (hstep : ∀ live i o, ops[i]? = some o → P live → newMask o i live ≠ live.getD i 0 → P (live.set i (newMask o i live)) ∧ ms (live.set i (newMask o i live)) < ms live)
    {Q : V → List O → Prop} (h : ∀ live, P live → (∀ i o, ops[i]? = some o → newMask o i live = live.getD i 0) → Q (.list (live.map natV)) []) :
    AXs X (n + 3) (fsc 12) [("ops", opsV ops)] [] (fbody 12) (RetQ 0 Q) := by
  refine cons_ ?_
  repeat lcg_off
  refine repMk (m := ops.length + 1) (k := 0) (σ' := [.list ((List.replicate (ops.length + 1) 0).map natV)]) .im (by omega) (by omega) rfl rfl (by simp [natV]) ?_
  repeat lcg_off
  refine while_ (fun k R σ' => ∃ live b, R = [("ops", opsV ops), ("live", .ref 0), ("is_new", .bool b)] ∧ σ' = [.list (live.map natV)] ∧ P live ∧ (b = true ∧ k = ms live + 1 ∨ b = false ∧ k = 0 ∧ ∀ i o, ops[i]? = some o → newMask o i live = live.getD i 0)) (ms (List.replicate (ops.length + 1) 0) + 1)
    ⟨[("ops", opsV ops), ("live", .ref 0), ("is_new", .bool true)], ?_, _, true, rfl, rfl, hp0, .inl ⟨rfl, rfl⟩⟩ ?_
  · kwd_less
  rintro k R σ' ⟨live₀, b, rfl, rfl, hP, hb⟩
  repeat lcg_off
  refine ite_ (fun e => ?_) (fun e => ?_)
  · subst e
    have hk : k = ms live₀ + 1 := by simpa using hb
    subst hk
    repeat lcg_off
    refine ⟨_, fun j R σ' => ∃ live b, R = [("ops", opsV ops), ("live", .ref 0), ("is_new", .bool b)] ∧ σ' = [.list (live.map natV)] ∧ P live ∧ (b = true ∧ ms live < ms live₀ ∨ b = false ∧ live = live₀ ∧ ∀ i o, ops.length - j ≤ i → ops[i]? = some o → newMask o i live = live.getD i 0),
      It.down (by omega), ⟨[("ops", opsV ops), ("live", .ref 0), ("is_new", .bool false)], ?_, live₀, false, rfl, rfl, hP, .inr ⟨rfl, rfl, fun i o hi ho => ?_⟩⟩, ?_, ?_⟩
    · kwd_less
    · have := (List.getElem?_eq_some_iff.mp ho).1
      omega
    · rintro j d R σ' hj ⟨live, b, rfl, rfl, hP', hb'⟩
      obtain ⟨hj, hd⟩ := range_at hj
      obtain ⟨i, hi⟩ : ∃ i : Nat, (ops.length : Int) - 1 - (j : Int) = i := ⟨ops.length - 1 - j, by omega⟩
      rw [hi] at hd
      subst hd
      have hil : i < ops.length := by omega
      obtain ⟨o, ho⟩ : ∃ o, ops[i]? = some o := ⟨ops[i], List.getElem?_eq_getElem hil⟩
      obtain ⟨ok, hsu⟩ := hok i o ho
      have hlen := hpl live hP'
      have hrd : ∀ r ∈ o.reads, 0 ≤ r := fun r hr => (ok.rd r hr).1
      repeat lcg_off
      refine behind_call T rfl ho hl ok.few (fun g hg => by have := hsu g hg; omega) (by omega) ?_
      repeat mem_news
      refine join [("ops", opsV ops), ("live", .ref 0), ("is_new", .bool b), ("at", .int i), ("made", .int (o.w.getD (-1))), ("behind", natV (less (behind o i live) o.w))] [.list (live.map natV)] ?_ ?_
      · repeat lcg_off
        cases hw : o.w with
        | none =>
          have el : less (behind o i live) none = behind o i live := rfl
          rw [el]
          refine AndK.f (by simp) ?_
          repeat lcg_off
          one_item
        | some a =>
          have ha := ok.wr a hw
          simp only [Option.getD_some]
          refine AndK.t (by simpa using ha.1) ?_
          repeat lcg_off
          refine shrN ha.1 ?_
          lcg_off
          refine and1 (trN ?_)
          rw [bit_mod]
          refine ⟨fun e => ?_, fun e => ?_⟩
          · have hge : 2 ^ a.toNat ≤ behind o i live := Nat.ge_two_pow_of_testBit e
            repeat lcg_off
            refine shl1 ha.1 (by omega) (isubN hge ?_)
            repeat lcg_off
            have el : less (behind o i live) (some a) = behind o i live - 2 ^ a.toNat := by simp [less, e]
            rw [el]
            one_item
          · have el : less (behind o i live) (some a) = behind o i live := by simp [less, e]
            rw [el]
            repeat lcg_off
            one_item
      · repeat lcg_off
        refine mask_call T ok.rd ?_
        refine orN ?_
        have em : less (behind o i live) o.w ||| bitsOf o.reads = newMask o i live := rfl
        rw [em]
        repeat lcg_off
        refine itemN (.mu rfl) (by omega) (by omega) ?_ (by intro _ _ _; with_unfolding_all rfl)
        repeat lcg_off
        refine ite_ (fun e => ?_) fun e => ?_
        · have hne : newMask o i live ≠ live.getD i 0 := by
            intro q
            rw [q] at e
            simp at e
          obtain ⟨s1, s2⟩ := hstep live i o ho hP' hne
          repeat lcg_off
          refine ⟨[("ops", opsV ops), ("live", .ref 0), ("is_new", .bool true)], ?_, live.set i (newMask o i live), true, rfl, ?_, s1, .inl ⟨rfl, ?_⟩⟩
          · kwd_less
          · simp [List.map_set]
          · rcases hb' with ⟨_, q⟩ | ⟨_, q, _⟩
            · omega
            · rw [← q]; exact s2
        · have heq : newMask o i live = live.getD i 0 := by
            rw [bne_eq_false_iff_eq] at e
            exact Int.ofNat_inj.mp e
          repeat lcg_off
          refine ⟨[("ops", opsV ops), ("live", .ref 0), ("is_new", .bool b)], ?_, live, b, rfl, rfl, hP', ?_⟩
          · kwd_less
          · rcases hb' with q | ⟨q1, q2, q3⟩
            · exact .inl q
            · refine .inr ⟨q1, q2, fun i' o' hi' ho' => ?_⟩
              by_cases hii : i' = i
              · subst hii
                rw [ho] at ho'
                cases ho'
                exact heq
              · exact q3 i' o' (by omega) ho'
    · rintro R σ' ⟨live, b, rfl, rfl, hP', hb'⟩
      repeat lcg_off
      rcases hb' with ⟨q1, q2⟩ | ⟨q1, q2, q3⟩
      · exact ⟨ms live + 1, by omega, [("ops", opsV ops), ("live", .ref 0), ("is_new", .bool b)], Sup.refl, live, b, rfl, rfl, hP', .inl ⟨q1, rfl⟩⟩
      · exact ⟨0, by omega, [("ops", opsV ops), ("live", .ref 0), ("is_new", .bool b)], Sup.refl, live, b, rfl, rfl, hP', .inr ⟨q1, rfl, fun i o ho => q3 i o (by simp) ho⟩⟩
  · subst e
    have hk : ∀ i o, ops[i]? = some o → newMask o i live₀ = live₀.getD i 0 := by simpa using hb.resolve_left (by simp) |>.2.2
    repeat lcg_off
    exact retL (Nat.le_refl _) (by kwd_inv) (h _ hP hk)
theorem live_call (T : TopOk X aS aR) (hl : ops.length ≤ 100) (hok : ∀ i o, ops[i]? = some o → o.ok ops.length ∧ ∀ g ∈ succs o i, 0 ≤ g ∧ g < ops.length + 1)
    {P : List Nat → Prop} {ms : List Nat → Nat} (hp0 : P (List.replicate (ops.length + 1) 0)) (hpl : ∀ live, P live → live.length = ops.length + 1)
    (hstep : ∀ live i o, ops[i]? = some o → P live → newMask o i live ≠ live.getD i 0 → P (live.set i (newMask o i live)) ∧ ms (live.set i (newMask o i live)) < ms live)
    {Q : V → List O → Prop} (h : ∀ live, P live → (∀ i o, ops[i]? = some o → newMask o i live = live.getD i 0) → Q (.list (live.map natV)) σ) :
    ∀ f, Code X "live_ahead" ["ops"] (fsc 12) (fbody 12) f → OpC X (n + 4) σ (.ref f) [opsV ops] Q := fun f c =>
  funR c (by decide) (by decide) (by decide) rfl (by simp [V.nrs, opsV_nr]) (Q := fun d => ∃ live, d = .list (live.map natV) ∧ P live ∧ ∀ i o, ops[i]? = some o → newMask o i live = live.getD i 0)
    (live_body T hl hok hp0 hpl hstep fun live h1 h2 => ⟨live, rfl, h1, h2⟩) fun d e => by
      obtain ⟨live, rfl, h1, h2⟩ := e
      exact h live h1 h2
end

section
variable {X : Cfg} {n : Nat} {sc : List (Str × NameKind)} {ρ : Rho} {σ : List O} {Q : V → List O → Prop} {QF : Fl → Rho → List O → Prop} {QB : Bool → List O → Prop} {aS aR : Addr} {c : Nat} {ops : List Ins}

/-! spans: a dict of pairs -/
abbrev Dm := List (Int × (Int × Int))
def mget (m : Dm) (k : Int) : Option (Int × Int) := (m.find? fun kv => kv.1 = k).map (·.2)
def mput (m : Dm) (k : Int) (p : Int × Int) : Dm := if m.any (fun kv => kv.1 = k) then m.map (fun kv => if kv.1 = k then (kv.1, p) else kv) else m ++ [(k, p)]
theorem dval_dInts (m : Dm) (k : Int) : dval (dInts m) k = (mget m k).map pairV := by
  induction m with
  | nil => rfl
  | cons e m ih =>
    obtain ⟨i, p⟩ := e
    by_cases hk : i = k
    · simp [dInts, dval, mget, hk]
    · have := ih
      simpa [dInts, dval, mget, List.find?_cons, hk] using this
theorem dput_dInts (m : Dm) (k : Int) (p : Int × Int) : dput (dInts m) k (pairV p) = dInts (mput m k p) := by
  have any : (dInts m).any (fun kv => decide (kv.1 = k)) = m.any (fun kv => decide (kv.1 = k)) := by simp [dInts, Function.comp_def]
  unfold dput mput
  rw [any]
  split
  · simp only [dInts, List.map_map]
    refine List.map_congr_left fun e _ => ?_
    simp only [Function.comp]
    split <;> rfl
  · simp [dInts]
theorem mget_cons (i : Int) (q : Int × Int) (m : Dm) (j : Int) : mget ((i, q) :: m) j = if i = j then some q else mget m j := by
  by_cases h : i = j <;> simp [mget, List.find?_cons, h]
theorem mget_mapNe (k : Int) (p : Int × Int) (j : Int) (hj : j ≠ k) : ∀ m : Dm, mget (m.map fun kv => if kv.1 = k then (kv.1, p) else kv) j = mget m j
  | [] => rfl
  | (i, q) :: m => by
    rw [List.map_cons, mget_cons]
    by_cases hi : i = k
    · subst hi
      simp only [if_true]
      rw [mget_cons, mget_mapNe i p j hj m]
      have : ¬ i = j := fun e => hj e.symm
      simp [this]
    · simp only [hi, if_false]
      rw [mget_cons, mget_mapNe k p j hj m]
theorem mget_mapEq (k : Int) (p : Int × Int) : ∀ m : Dm, m.any (fun kv => decide (kv.1 = k)) = true → mget (m.map fun kv => if kv.1 = k then (kv.1, p) else kv) k = some p
  | [], h => by simp at h
  | (i, q) :: m, h => by
    rw [List.map_cons]
    by_cases hi : i = k
    · subst hi; simp only [if_true]; rw [mget_cons]; simp
    · simp only [hi, if_false]
      rw [mget_cons, mget_mapEq k p m (by simpa [hi] using h)]
      simp [hi]
theorem mget_put (m : Dm) (k : Int) (p : Int × Int) (j : Int) : mget (mput m k p) j = if j = k then some p else mget m j := by
  unfold mput
  split
  · rename_i h
    by_cases hj : j = k
    · subst hj; rw [mget_mapEq _ _ _ h]; simp
    · rw [mget_mapNe _ _ _ hj]; simp [hj]
  · rename_i h
    have hn : mget m k = none := by
      simp only [mget, Option.map_eq_none_iff, List.find?_eq_none]
      intro x hx e
      exact h (List.any_eq_true.mpr ⟨x, hx, by simpa using e⟩)
    simp only [mget, List.find?_append] at hn ⊢
    by_cases hj : j = k
    · subst hj
      rw [Option.map_eq_none_iff] at hn
      simp [hn]
    · have : ¬ k = j := fun e => hj e.symm
      simp [hj, this]
theorem mput_keys (m : Dm) (k : Int) (p : Int × Int) (h : (m.map (·.1)).Nodup) : ((mput m k p).map (·.1)).Nodup := by
  unfold mput
  split
  · have e : (m.map (fun kv => if kv.1 = k then (kv.1, p) else kv)).map (·.1) = m.map (·.1) := by
      rw [List.map_map]
      refine List.map_congr_left fun x _ => ?_
      simp only [Function.comp]
      split <;> rfl
    rw [e]; exact h
  · rename_i hn
    rw [List.map_append]
    refine List.nodup_append.mpr ⟨h, by simp, fun a ha b hb e => ?_⟩
    simp at hb
    subst hb; subst e
    obtain ⟨x, hx, ex⟩ := List.mem_map.mp ha
    exact hn (List.any_eq_true.mpr ⟨x, hx, by simpa using ex⟩)
theorem mput_len (m : Dm) (k : Int) (p : Int × Int) : (mput m k p).length ≤ m.length + 1 := by
  unfold mput; split <;> simp
/-- a register's range, widened -/
def wid (m : Dm) (r at_ : Int) : Dm := mput m r (((mget m r).map (·.1)).getD at_, at_)
/-- the ranges up to a place, by what is touched where -/
def spanF (T : Nat → Int → Bool) : Nat → Int → Option (Int × Int)
  | 0, _ => none
  | i + 1, r => if T i r then some (((spanF T i r).map (·.1)).getD (i : Int), (i : Int)) else spanF T i r
def Wd (f : Int → Option (Int × Int)) (S : Int → Bool) (i : Int) (m : Dm) : Prop := ∀ r, mget m r = if S r then some (((f r).map (·.1)).getD i, i) else f r
theorem Wd.wid {f : Int → Option (Int × Int)} {S : Int → Bool} {i : Int} {m : Dm} (h : Wd f S i m) (r₀ : Int) : Wd f (fun r => r == r₀ || S r) i (wid m r₀ i) := fun r => by
  unfold Mine.wid
  rw [mget_put]
  by_cases e : r = r₀
  · subst e
    rw [if_pos rfl, h r]
    by_cases hs : S r = true
    · simp [hs]
    · simp [hs]
  · rw [if_neg e, h r]
    simp [e]
theorem Wd.congr {f : Int → Option (Int × Int)} {S S' : Int → Bool} {i : Int} {m : Dm} (h : Wd f S i m) (e : ∀ r, S r = S' r) : Wd f S' i m := fun r => by rw [h r, e]
theorem dict0Mk {pos : Pos} {k : Nat} {σ' : List O} (hk : σ.length = k) (hs : σ ++ [.dict []] = σ') (h : Q (.ref k) σ') : AW X n sc ρ σ (.Dict [] [] pos) Q := by
  subst hk; subst hs; exact Dict0_ h
/-- what is touched at a place -/
def touched (ops : List Ins) (live : List Nat) (i : Nat) (r : Int) : Bool := match ops[i]? with
  | some o => (o.reads ++ o.w.toList).contains r || (decide (0 ≤ r) && (live.getD i 0).testBit r.toNat)
  | none => false
end

local macro_rules | `(tactic| kba_ints) => `(tactic| with_reducible first | exact O2.of (fun _ _ => and1) | ((refine' O2.liv ?l ?a ?b ?c); (case l => kwd_rel); (case a => k_dflt omega); (case b => k_dflt omega); (case c => kp_flats)))
local macro_rules | `(tactic| lcg_off) => `(tactic| with_reducible first | ((refine' lenOps ?a ?_); (case a => assumption)) | refine' trN ?_)
local macro_rules | `(tactic| one_item) => `(tactic| first | ((refine ⟨rfl, ?a, rfl⟩); (case a => kwd_less)) | ((refine ⟨?a, rfl⟩); (case a => kwd_less)))
local macro_rules | `(tactic| mem_news) => `(tactic| ((fail_if_success (with_reducible show AX _ _ _ _ _ (Stmt.If _ _ _ _) _)); lcg_off))

set_option maxHeartbeats 8000000
section
variable {X : Cfg} {n : Nat} {sc : List (Str × NameKind)} {ρ : Rho} {σ : List O} {Q : V → List O → Prop} {QF : Fl → Rho → List O → Prop} {aS aR : Addr} {c : Nat} {ops : List Ins}
theorem widen_body (T : TopOk X aS aR) {k : Nat} {m : Dm} {r i : Int} (hk : σ[k]? = some (.dict (dInts m))) (hm : m.length ≤ 1000) (h : Q .none (σ.set k (.dict (dInts (wid m r i))))) :
    AXs X n (fsc 18) [("found", .ref k), ("register", .int r), ("at", .int i)] σ (fbody 18) (RetQ σ.length Q) := by
  have hl : (dInts m).length ≤ 1000 := by simpa [dInts] using hm
  refine cons_ ?_
  repeat mem_news
  refine join [("found", .ref k), ("register", .int r), ("at", .int i), ("first", .int (((mget m r).map (·.1)).getD i))] σ ?_ ?_
  · repeat lcg_off
    refine Op2.inD (.mu hk) ?_
    rw [dval_dInts]
    cases hg : mget m r with
    | none =>
      simp only [Option.map_none, Option.getD_none]
      repeat lcg_off
      one_item
    | some p =>
      simp only [Option.map_some, Option.getD_some]
      repeat lcg_off
      refine Op2.itemD (.mu hk) (by rw [dval_dInts, hg]; rfl) ?_ (by intro _ _ _; with_unfolding_all rfl)
      lcg_off
      refine Op2.itemT (by decide) (by decide) (by rfl) ?_ (by intro _ _ _; with_unfolding_all rfl)
      repeat lcg_off
      one_item
  · repeat lcg_off
    refine Op3.setD hk hl rfl ?_
    rw [show (V.tup [V.int (((mget m r).map (·.1)).getD i), V.int i]) = pairV (((mget m r).map (·.1)).getD i, i) from rfl, dput_dInts]
    repeat lcg_off
    exact retAN (by simp) h
theorem widen_call (T : TopOk X aS aR) {k : Nat} {m : Dm} {r i : Int} (hk : σ[k]? = some (.dict (dInts m))) (hm : m.length ≤ 1000) (h : Q .none (σ.set k (.dict (dInts (wid m r i))))) :
    ∀ f, Code X "widen" ["found", "register", "at"] (fsc 18) (fbody 18) f → OpC X (n + 1) σ (.ref f) [.ref k, .int r, .int i] Q := fun f c =>
  funW c (by decide) (by decide) (by decide) rfl (widen_body T hk hm h)
theorem ranges_body (T : TopOk X aS aR) (hl : ops.length ≤ 50) (hok : ∀ i o, ops[i]? = some o → o.ok ops.length ∧ ∀ g ∈ succs o i, 0 ≤ g ∧ g < ops.length + 1)
    {P : List Nat → Prop} {ms : List Nat → Nat} (hp0 : P (List.replicate (ops.length + 1) 0)) (hpl : ∀ live, P live → live.length = ops.length + 1) (hp8 : ∀ live, P live → ∀ i, live.getD i 0 < 256)
    (hstep : ∀ live i o, ops[i]? = some o → P live → newMask o i live ≠ live.getD i 0 → P (live.set i (newMask o i live)) ∧ ms (live.set i (newMask o i live)) < ms live)
    {Q : V → List O → Prop} (h : ∀ live m, P live → (∀ i o, ops[i]? = some o → newMask o i live = live.getD i 0) → (m.map (·.1)).Nodup → (∀ r, mget m r = spanF (touched ops live) ops.length r) → Q (.dict (dInts m)) []) :
    AXs X (n + 4) (fsc 17) [("ops", opsV ops)] [] (fbody 17) (RetQ 0 Q) := by
  have hl' : ops.length ≤ 100 := by omega
  refine cons_ ?_
  repeat lcg_off
  refine live_call T hl' hok hp0 hpl hstep fun live hP hfix => ?_
  have hlen := hpl live hP
  repeat lcg_off
  refine dict0Mk (k := 0) (σ' := [.dict (dInts [])]) rfl rfl ?_
  repeat lcg_off
  refine ⟨_, fun i R σ' => ∃ m, R = [("ops", opsV ops), ("live", .list (live.map natV)), ("found", .ref 0)] ∧ σ' = [.dict (dInts m)] ∧ (m.map (·.1)).Nodup ∧ m.length ≤ 12 * i ∧ ∀ r, mget m r = spanF (touched ops live) i r,
    It.up (by omega), ⟨_, ?_, [], rfl, rfl, by simp, by simp, fun _ => rfl⟩, ?_, ?_⟩
  · kwd_less
  · rintro i d R σ' hi ⟨m, rfl, rfl, hnd, hml, hsp⟩
    obtain ⟨hil, rfl⟩ := range_at hi
    obtain ⟨o, ho⟩ : ∃ o, ops[i]? = some o := ⟨ops[i], List.getElem?_eq_getElem hil⟩
    obtain ⟨ok, hsu⟩ := hok i o ho
    have hrd : ∀ r ∈ o.reads, 0 ≤ r := fun r hr => (ok.rd r hr).1
    have hrl := o.readsLen
    repeat mem_news
    refine join [("ops", opsV ops), ("live", .list (live.map natV)), ("found", .ref 0), ("at", .int i), ("here", .list ((o.reads ++ o.w.toList).map V.int))] [.dict (dInts m)] ?_ ?_
    · repeat lcg_off
      cases hw : o.w with
      | none =>
        refine iteF (by simp) ?_
        simp only [Option.toList_none, List.append_nil]
        repeat lcg_off
        one_item
      | some a =>
        have ha := ok.wr a hw
        refine iteT (by simpa using ha.1) ?_
        repeat lcg_off
        rw [hw]
        simp only [Option.getD_some, Option.toList_some]
        repeat lcg_off
        refine Op2.catF .im .im (by simp; omega) (nrs_ints _) rfl ?_
        rw [show List.map V.int o.reads ++ [V.int a] = (o.reads ++ [a]).map V.int by simp]
        repeat lcg_off
        one_item
    · have hhl : (o.reads ++ o.w.toList).length ≤ 3 := by
        cases o.w <;> simp <;> omega
      have hto : ∀ r, touched ops live i r = ((o.reads ++ o.w.toList).contains r || (decide (0 ≤ r) && (live.getD i 0).testBit r.toNat)) := fun r => by simp [touched, ho]
      have h8 := hp8 live hP i
      generalize hhs : o.reads ++ o.w.toList = hs at *
      generalize hlv : live.getD i 0 = lv at *
      repeat lcg_off
      refine ⟨_, fun j R σ' => ∃ m', R = [("ops", opsV ops), ("live", .list (live.map natV)), ("found", .ref 0), ("at", .int i), ("here", .list (hs.map V.int))] ∧ σ' = [.dict (dInts m')] ∧ (m'.map (·.1)).Nodup ∧ m'.length ≤ 12 * i + j ∧ Wd (spanF (touched ops live) i) (fun r => (hs.take j).contains r) i m',
        .list, ⟨_, Sup.refl, m, rfl, rfl, hnd, hml, fun r => by rw [hsp r]; simp⟩, ?_, ?_⟩
      · rintro j d R σ' hj ⟨m', rfl, rfl, hnd', hml', hW⟩
        rw [List.getElem?_map] at hj
        obtain ⟨r, hj', rfl⟩ := Option.map_eq_some_iff.mp hj
        have hjl := (List.getElem?_eq_some_iff.mp hj').1
        repeat lcg_off
        refine widen_call T (m := m') rfl (by omega) ?_
        repeat lcg_off
        refine ⟨[("ops", opsV ops), ("live", .list (live.map natV)), ("found", .ref 0), ("at", .int i), ("here", .list (hs.map V.int))], ?_, wid m' r i, rfl, rfl, mput_keys _ _ _ hnd', ?_, ?_⟩
        · kwd_less
        · have := mput_len m' r ((((mget m' r).map (·.1)).getD i, i))
          show (mput _ _ _).length ≤ _
          omega
        · refine (hW.wid r).congr fun r' => ?_
          rw [List.take_add_one, hj']
          simp [Bool.or_comm]
          rfl
      · rintro R σ' ⟨m', rfl, rfl, hnd', hml', hW⟩
        rw [List.length_map] at hml' hW
        rw [List.take_length] at hW
        repeat lcg_off
        rw [hlv]
        repeat lcg_off
        refine while_ (fun k R σ' => ∃ q m', k = lv >>> q ∧ q ≤ 8 ∧ R = [("ops", opsV ops), ("live", .list (live.map natV)), ("found", .ref 0), ("at", .int i), ("mask", natV (lv >>> q)), ("register", natV q)] ∧ σ' = [.dict (dInts m')] ∧ (m'.map (·.1)).Nodup ∧ m'.length ≤ 12 * i + 3 + q ∧
            Wd (spanF (touched ops live) i) (fun r => hs.contains r || (decide (0 ≤ r ∧ r < (q : Int)) && lv.testBit r.toNat)) i m') (lv >>> 0) ⟨[("ops", opsV ops), ("live", .list (live.map natV)), ("found", .ref 0), ("at", .int i), ("mask", natV lv), ("register", .int 0)], ?_, 0, m', rfl, by omega, rfl, rfl, hnd', by omega, hW.congr fun r => ?_⟩ ?_
        · kwd_less
        · have : decide (0 ≤ r ∧ r < ((0 : Nat) : Int)) = false := by simp
          rw [this]; simp
        rintro k R σ' ⟨q, m', rfl, hq, rfl, rfl, hnd', hml', hW⟩
        repeat lcg_off
        refine ite_ (fun e => ?_) (fun e => ?_)
        · have hne : lv >>> q ≠ 0 := by simpa using e
          have hq8 : q < 8 := by
            apply Nat.lt_of_not_le
            intro hge
            apply hne
            rw [Nat.shiftRight_eq_div_pow]
            apply Nat.div_eq_of_lt
            have := Nat.pow_le_pow_right (n := 2) (by decide) hge
            omega
          repeat mem_news
          refine join [("ops", opsV ops), ("live", .list (live.map natV)), ("found", .ref 0), ("at", .int i), ("mask", natV (lv >>> q)), ("register", natV q)] [.dict (dInts (if lv.testBit q then wid m' q i else m'))] ?_ ?_
          · repeat lcg_off
            rw [bit_mod]
            cases hb : lv.testBit q with
            | true =>
              repeat lcg_off
              refine widen_call T (m := m') rfl (by omega) ?_
              repeat lcg_off
              one_item
            | false =>
              repeat lcg_off
              one_item
          · repeat lcg_off
            refine ishrN (by decide) ?_
            repeat lcg_off
            refine ⟨lv >>> (q + 1), ?_, [("ops", opsV ops), ("live", .list (live.map natV)), ("found", .ref 0), ("at", .int i), ("mask", natV ((lv >>> q) >>> Int.toNat 1)), ("register", .int ((q : Int) + 1))], ?_, q + 1, _, rfl, by omega, ?_, rfl, ?_, ?_, ?_⟩
            · rw [Nat.shiftRight_succ]
              exact Nat.div_lt_self (Nat.pos_of_ne_zero hne) (by decide)
            · kwd_less
            · have es : (lv >>> q) >>> Int.toNat 1 = lv >>> (q + 1) := rfl
              rw [es]; rfl
            · split
              · exact mput_keys _ _ _ hnd'
              · exact hnd'
            · split
              · have := mput_len m' q ((((mget m' q).map (·.1)).getD i, i))
                show (mput _ _ _).length ≤ _
                omega
              · omega
            · have key : ∀ r : Int, (decide (0 ≤ r ∧ r < ((q + 1 : Nat) : Int)) && lv.testBit r.toNat) = ((decide (0 ≤ r ∧ r < (q : Int)) && lv.testBit r.toNat) || (r == (q : Int) && lv.testBit q)) := fun r => by
                by_cases hr : r = (q : Int)
                · subst hr
                  have h1 : (0 : Int) ≤ q ∧ (q : Int) < ((q + 1 : Nat) : Int) := by omega
                  rw [decide_eq_true h1, show decide (0 ≤ (q : Int) ∧ (q : Int) < (q : Int)) = false by simp]
                  simp
                · have h1 : (0 ≤ r ∧ r < ((q + 1 : Nat) : Int)) ↔ (0 ≤ r ∧ r < (q : Int)) := by omega
                  have hd : decide (0 ≤ r ∧ r < ((q + 1 : Nat) : Int)) = decide (0 ≤ r ∧ r < (q : Int)) := decide_eq_decide.mpr h1
                  rw [hd, beq_eq_false_iff_ne.mpr hr]
                  simp
              split
              · rename_i hb
                refine (hW.wid q).congr fun r => ?_
                rw [key, hb, Bool.and_true, Bool.or_comm, Bool.or_assoc]
              · rename_i hb
                have hb' : lv.testBit q = false := by simpa using hb
                refine hW.congr fun r => ?_
                rw [key, hb', Bool.and_false, Bool.or_false]
        · have hz : lv >>> q = 0 := by simpa using e
          repeat lcg_off
          refine ⟨[("ops", opsV ops), ("live", .list (live.map natV)), ("found", .ref 0)], ?_, m', rfl, rfl, hnd', by omega, fun r => ?_⟩
          · kwd_less
          · have hr' : mget m' r = if (hs.contains r || (decide (0 ≤ r ∧ r < (q : Int)) && lv.testBit r.toNat)) = true then some (((spanF (touched ops live) i r).map (·.1)).getD (i : Int), (i : Int)) else spanF (touched ops live) i r := hW r
            rw [hr']
            have es : (hs.contains r || (decide (0 ≤ r ∧ r < (q : Int)) && lv.testBit r.toNat)) = touched ops live i r := by
              rw [hto r]
              congr 1
              by_cases hr : 0 ≤ r
              · by_cases hrq : r < (q : Int)
                · simp [hr, hrq]
                · have hbit : lv.testBit r.toNat = false := by
                    have hk : r.toNat = q + (r.toNat - q) := by omega
                    rw [hk, ← Nat.testBit_shiftRight, hz]
                    simp
                  simp [hbit]
              · simp [hr]
            rw [es]
            rfl
  · rintro R σ' ⟨m, rfl, rfl, hnd, hml, hsp⟩
    repeat lcg_off
    rw [List.length_map, List.length_range] at hsp
    exact retD (Nat.le_refl _) (by kwd_inv) (h live m hP hfix hnd hsp)
theorem ranges_call (T : TopOk X aS aR) (hl : ops.length ≤ 50) (hok : ∀ i o, ops[i]? = some o → o.ok ops.length ∧ ∀ g ∈ succs o i, 0 ≤ g ∧ g < ops.length + 1)
    {P : List Nat → Prop} {ms : List Nat → Nat} (hp0 : P (List.replicate (ops.length + 1) 0)) (hpl : ∀ live, P live → live.length = ops.length + 1) (hp8 : ∀ live, P live → ∀ i, live.getD i 0 < 256)
    (hstep : ∀ live i o, ops[i]? = some o → P live → newMask o i live ≠ live.getD i 0 → P (live.set i (newMask o i live)) ∧ ms (live.set i (newMask o i live)) < ms live)
    {Q : V → List O → Prop} (h : ∀ live m, P live → (∀ i o, ops[i]? = some o → newMask o i live = live.getD i 0) → (m.map (·.1)).Nodup → (∀ r, mget m r = spanF (touched ops live) ops.length r) → Q (.dict (dInts m)) σ) :
    ∀ f, Code X "ranges_of" ["ops"] (fsc 17) (fbody 17) f → OpC X (n + 5) σ (.ref f) [opsV ops] Q := fun f c =>
  funR c (by decide) (by decide) (by decide) rfl (by simp [V.nrs, opsV_nr]) (Q := fun d => ∃ live m, d = .dict (dInts m) ∧ P live ∧ (∀ i o, ops[i]? = some o → newMask o i live = live.getD i 0) ∧ (m.map (·.1)).Nodup ∧ (∀ r, mget m r = spanF (touched ops live) ops.length r))
    (ranges_body T hl hok hp0 hpl hp8 hstep fun live m h1 h2 h3 h4 => ⟨live, m, rfl, h1, h2, h3, h4⟩) fun d e => by
      obtain ⟨live, m, rfl, h1, h2, h3, h4⟩ := e
      exact h live m h1 h2 h3 h4
end

section
variable {X : Cfg} {n : Nat} {sc : List (Str × NameKind)} {ρ : Rho} {σ : List O} {Q : V → List O → Prop} {QF : Fl → Rho → List O → Prop} {QB : Bool → List O → Prop} {aS aR : Addr} {c : Nat} {ops : List Ins}
theorem retP {b k : Nat} {c : V} {ds : List V} (hc : c.nr = true) (hb : b ≤ k) (hk : σ[k]? = some (.list ds)) (h : Q (.tup [c, .list ds]) (σ.take b)) : RetQ b Q (.ret (.tup [c, .ref k])) ρ σ := ⟨_, .pair hc (.list hb hk), h⟩
theorem wTag (o : Ins) : (!(writesL.any (· == Str.ofString o.tag))) = !o.w.isSome := by cases o <;> rfl
theorem anyMem {ns : List Int} {i : Int} : ns.any (· == i) = decide (i ∈ ns) := by
  induction ns with
  | nil => simp
  | cons a l ih =>
    rw [List.any_cons, ih]
    by_cases h : a = i
    · subst h; simp
    · have : ¬ i = a := fun e => h e.symm
      simp [h, this]
theorem list1Mk {e : Expr} {pos : Pos} {k : Nat} {v : V} {σ' : List O} (hk : σ.length = k) (hs : σ ++ [.list [v]] = σ') (hn : v.nr = true) (h : AW X n sc ρ σ e fun d σ₁ => d = v ∧ σ₁ = σ) (hq : Q (.ref k) σ')
    (he : ∀ env, starEach [e] env = (false, eval e env) :: starEach [] env) : AW X n sc ρ σ (.List [e] pos) Q := by
  subst hk; subst hs
  refine ListM_ (l_cons (h.mono fun d σ₁ q => l_nil ?_) he)
  obtain ⟨rfl, rfl⟩ := q
  exact ⟨by simp, by simp [V.nrs, hn], hq⟩
end

set_option maxHeartbeats 8000000
section
variable {X : Cfg} {n : Nat} {sc : List (Str × NameKind)} {ρ : Rho} {σ : List O} {Q : V → List O → Prop} {QF : Fl → Rho → List O → Prop} {aS aR : Addr} {c : Nat} {ops : List Ins}
theorem sought_body (T : TopOk X aS aR) (hl : ops.length ≤ 50) (hok : ∀ (i : Nat) (o : Ins), ops[i]? = some o → o.ok ops.length) {start reg : Int}
    {I : List Int → List Int → Prop} {R : Bool → List Int → Prop} (h0 : I [] [start]) (hb : ∀ seen line, I seen line → (∀ g ∈ line, 0 ≤ g ∧ g < ops.length) ∧ seen.length ≤ ops.length)
    (hskip : ∀ seen line a, I seen (line ++ [a]) → a ∈ seen → I seen line)
    (hret : ∀ seen line (i : Nat) o, I seen (line ++ [(i : Int)]) → (i : Int) ∉ seen → ops[i]? = some o → reg ∈ o.reads → R true (seen ++ [(i : Int)]))
    (hext : ∀ seen line (i : Nat) o, I seen (line ++ [(i : Int)]) → (i : Int) ∉ seen → ops[i]? = some o → reg ∉ o.reads → o.w ≠ some reg → I (seen ++ [(i : Int)]) (line ++ succs o i))
    (hstop : ∀ seen line (i : Nat) o, I seen (line ++ [(i : Int)]) → (i : Int) ∉ seen → ops[i]? = some o → reg ∉ o.reads → o.w = some reg → I (seen ++ [(i : Int)]) line)
    (hend : ∀ seen, I seen [] → R false seen)
    {Q : V → List O → Prop} (h : ∀ b seen, R b seen → Q (.tup [.bool b, .list (seen.map V.int)]) []) : AXs X (n + 2) (fsc 27) [("ops", opsV ops), ("start", .int start), ("register", .int reg)] [] (fbody 27) (RetQ 0 Q) := by
  have hl' : ops.length ≤ 100 := by omega
  refine cons_ ?_
  lcg_off
  refine list0 (k := 0) (σ' := [.list []]) rfl rfl ?_
  lcg_off
  lcg_off
  lcg_off
  refine list1Mk (k := 1) (v := .int start) (σ' := [.list (([] : List Int).map V.int), .list ([start].map V.int)]) rfl rfl rfl ?_ ?_ (by intro _; rfl)
  · lcg_off
    exact ⟨rfl, rfl⟩
  repeat lcg_off
  refine while_ (fun k R σ' => ∃ seen line, R = [("ops", opsV ops), ("start", .int start), ("register", .int reg), ("seen", .ref 0), ("line", .ref 1)] ∧ σ' = [.list (seen.map V.int), .list (line.map V.int)] ∧ I seen line ∧ k = 5 * (ops.length - seen.length) + line.length ∧ k ≤ 5 * ops.length + 1) (5 * ops.length + 1)
    ⟨_, ?_, [], [start], rfl, rfl, h0, by simp, by omega⟩ ?_
  · kwd_less
  rintro k R σ' ⟨seen, line, rfl, rfl, hI, hk, hk5⟩
  have hll : line.length ≤ 300 := by omega
  obtain ⟨hg, hsl⟩ := hb _ _ hI
  repeat lcg_off
  refine Tr.ref (ds := line.map V.int) rfl (by simp; omega) ?_
  rcases List.eq_nil_or_concat line with rfl | ⟨l', a, rfl⟩
  · repeat lcg_off
    exact retP rfl (Nat.le_refl _) (by kwd_inv) (h _ _ (hend _ hI))
  rw [List.concat_eq_append] at *
  refine iteT (by simp) ?_
  have ha := hg a (by simp)
  obtain ⟨i, rfl⟩ : ∃ i : Nat, a = i := ⟨a.toNat, by omega⟩
  have hil : i < ops.length := by omega
  obtain ⟨o, ho⟩ : ∃ o, ops[i]? = some o := ⟨ops[i], List.getElem?_eq_getElem hil⟩
  have ok := hok i o ho
  have hl1 : l'.length + 1 ≤ 300 := by simpa using hll
  repeat lcg_off
  refine ⟨1, l'.map V.int, .int i, rfl, by simp, by simp; omega, ?_⟩
  repeat lcg_off
  refine Op2.inL (ns := seen) (.mu rfl) ?_
  rw [anyMem]
  repeat lcg_off
  refine ite_ (fun e => ?_) (fun e => ?_)
  · have hm : (i : Int) ∈ seen := by simpa using e
    repeat lcg_off
    refine ⟨_, ?_, [("ops", opsV ops), ("start", .int start), ("register", .int reg), ("seen", .ref 0), ("line", .ref 1)], ?_, seen, l', rfl, rfl, hskip _ _ _ hI hm, rfl, ?_⟩
    · rw [hk]; simp
    · kwd_less
    · rw [hk] at hk5; simp at hk5; omega
  · have hm : (i : Int) ∉ seen := by simpa using e
    have hfew := ok.few
    have hsl4 : (succs o i).length ≤ 4 := by unfold succs; split <;> simp <;> omega
    repeat lcg_off
    refine lread_call T o ?_
    refine Op2.inL (ns := o.reads) .im ?_
    rw [anyMem]
    repeat lcg_off
    refine ite_ (fun e => ?_) (fun e => ?_)
    · have hr : reg ∈ o.reads := by simpa using e
      have hq := h true _ (hret _ _ _ _ hI hm ho hr)
      rw [List.map_append] at hq
      repeat lcg_off
      exact retP rfl (Nat.le_refl _) rfl hq
    · have hr : reg ∉ o.reads := by simpa using e
      have fin : ∀ ρ' σ' line', I (seen ++ [(i : Int)]) line' → line'.length ≤ l'.length + (succs o i).length → σ' = [.list ((seen ++ [(i : Int)]).map V.int), .list (line'.map V.int)] → Sup ρ' [("ops", opsV ops), ("start", .int start), ("register", .int reg), ("seen", .ref 0), ("line", .ref 1)] →
          ∃ j, j < k ∧ Jx (fun k R σ' => ∃ seen line, R = [("ops", opsV ops), ("start", .int start), ("register", .int reg), ("seen", .ref 0), ("line", .ref 1)] ∧ σ' = [.list (seen.map V.int), .list (line.map V.int)] ∧ I seen line ∧ k = 5 * (ops.length - seen.length) + line.length ∧ k ≤ 5 * ops.length + 1) j ρ' σ' := fun ρ' σ' line' h1 h2 h3 h4 => by
        have hs2 := (hb _ _ h1).2
        simp at hs2 hk
        have hk' := hk
        refine ⟨5 * (ops.length - (seen ++ [(i : Int)]).length) + line'.length, by simp; omega, _, h4, seen ++ [(i : Int)], line', rfl, h3, h1, rfl, by simp; omega⟩
      repeat lcg_off
      refine Op2.ninT rfl ?_
      rw [wTag]
      cases hw : o.w with
      | none =>
        repeat lcg_off
        refine lways_call T ho hl' hfew ?_
        repeat lcg_off
        exact fin _ _ _ (hext _ _ _ _ hI hm ho hr (by rw [hw]; simp)) (by simp) (by simp) (by kwd_less)
      | some b =>
        repeat lcg_off
        refine itemP o (by decide) (wPart o hw) ?_ (by intro _ _ _; with_unfolding_all rfl)
        repeat lcg_off
        refine ⟨fun e => ?_, fun e => ?_⟩
        · have hne : b ≠ reg := by simpa using e
          repeat lcg_off
          refine lways_call T ho hl' hfew ?_
          repeat lcg_off
          exact fin _ _ _ (hext _ _ _ _ hI hm ho hr (by rw [hw]; simpa using hne)) (by simp) (by simp) (by kwd_less)
        · have hne : b = reg := by simpa using e
          repeat lcg_off
          exact fin _ _ _ (hstop _ _ _ _ hI hm ho hr (by rw [hw, hne])) (by simp) (by simp) (by kwd_less)
theorem sought_call (T : TopOk X aS aR) (hl : ops.length ≤ 50) (hok : ∀ (i : Nat) (o : Ins), ops[i]? = some o → o.ok ops.length) {start reg : Int}
    {I : List Int → List Int → Prop} {R : Bool → List Int → Prop} (h0 : I [] [start]) (hb : ∀ seen line, I seen line → (∀ g ∈ line, 0 ≤ g ∧ g < ops.length) ∧ seen.length ≤ ops.length)
    (hskip : ∀ seen line a, I seen (line ++ [a]) → a ∈ seen → I seen line)
    (hret : ∀ seen line (i : Nat) o, I seen (line ++ [(i : Int)]) → (i : Int) ∉ seen → ops[i]? = some o → reg ∈ o.reads → R true (seen ++ [(i : Int)]))
    (hext : ∀ seen line (i : Nat) o, I seen (line ++ [(i : Int)]) → (i : Int) ∉ seen → ops[i]? = some o → reg ∉ o.reads → o.w ≠ some reg → I (seen ++ [(i : Int)]) (line ++ succs o i))
    (hstop : ∀ seen line (i : Nat) o, I seen (line ++ [(i : Int)]) → (i : Int) ∉ seen → ops[i]? = some o → reg ∉ o.reads → o.w = some reg → I (seen ++ [(i : Int)]) line)
    (hend : ∀ seen, I seen [] → R false seen)
    (h : ∀ b seen, R b seen → Q (.tup [.bool b, .list (seen.map V.int)]) σ) : ∀ f, Code X "_law_sought" ["ops", "start", "register"] (fsc 27) (fbody 27) f → OpC X (n + 3) σ (.ref f) [opsV ops, .int start, .int reg] Q := fun f c =>
  funR c (by decide) (by decide) (by decide) rfl (by simp [V.nrs, V.nr, opsV_nr]) (Q := fun d => ∃ b seen, d = .tup [.bool b, .list (seen.map V.int)] ∧ R b seen)
    (sought_body T hl hok h0 hb hskip hret hext hstop hend fun b seen h => ⟨b, seen, rfl, h⟩) fun d e => by
      obtain ⟨b, seen, rfl, h1⟩ := e
      exact h b seen h1
end

section
variable {X : Cfg} {n : Nat} {sc : List (Str × NameKind)} {ρ : Rho} {σ : List O} {Q : V → List O → Prop} {QF : Fl → Rho → List O → Prop} {QB : Bool → List O → Prop} {aS aR : Addr} {c : Nat} {ops : List Ins}
theorem nrs_bools (l : List Bool) : V.nrs (l.map V.bool) = true := by
  induction l with
  | nil => rfl
  | cons a l ih => simp [V.nrs, V.nr, ih]
theorem itemB {value slice : Expr} {a : V} {i : Nat} {bs : List Bool} (c : LC σ a (bs.map V.bool)) (hi : i < bs.length) (hl : bs.length ≤ 1000) (h : Q (.bool (bs.getD i false)) σ)
    (hs : ∀ a k u, subscripted slice false (.ref a) (.int k u) = operate [.ref a, .int k u] (getItem (.ref a) (.int k u))) : Op2 X n σ (subscriptTail value slice) a (.int (i : Int)) Q :=
  .itemL c (by omega) (by omega) (by simp [hi]) h hs
theorem setB {k : Nat} {bs : List Bool} {i : Nat} (hk : σ[k]? = some (.list (bs.map V.bool))) (hi : i < bs.length) (hl : bs.length ≤ 1000) {Q : Unit → List O → Prop} (h : Q () (σ.set k (.list ((bs.set i true).map V.bool)))) : Op3 X n σ setItem (.ref k) (.int (i : Int)) (.bool true) Q :=
  .setL hk (by omega) (by omega) (by simpa using hi) rfl (by
    have e : (bs.map V.bool).set (i : Int).toNat (V.bool true) = (bs.set i true).map V.bool := by simp [List.map_set]
    rw [e]; exact h)
theorem count_mark : ∀ {marks : List Bool} {i : Nat}, i < marks.length → marks.getD i false = false → (marks.set i true).count false + 1 = marks.count false
  | [], i, h, _ => by simp at h
  | b :: l, 0, _, h => by
    have : b = false := by simpa using h
    subst this
    simp
  | b :: l, i + 1, hi, h => by
    have := count_mark (marks := l) (i := i) (by simpa using hi) (by simpa using h)
    simp only [List.set_cons_succ, List.count_cons]
    omega
/-- which places are in a list -/
def markN (k : Nat) (bs : List Int) : List Bool := (List.range k).map fun (j : Nat) => decide ((j : Int) ∈ bs)
theorem markN_len (k : Nat) (bs : List Int) : (markN k bs).length = k := by simp [markN]
theorem markN_nil (k : Nat) : markN k [] = List.replicate k false := by
  refine List.ext_getElem (by simp [markN]) fun i h1 h2 => ?_
  simp [markN]
theorem markN_set {k : Nat} {bs : List Int} {g : Nat} (hg : g < k) : (markN k bs).set g true = markN k (bs ++ [(g : Int)]) := by
  refine List.ext_getElem (by simp [markN]) fun i h1 h2 => ?_
  rw [List.getElem_set]
  by_cases e : g = i
  · subst e; simp [markN]
  · simp [markN, e]
    intro q
    omega
theorem setM {k K : Nat} {bs : List Int} {i : Nat} (hk : σ[k]? = some (.list ((markN K bs).map V.bool))) (hi : i < K) (hl : K ≤ 1000) {Q : Unit → List O → Prop} (h : Q () (σ.set k (.list ((markN K (bs ++ [(i : Int)])).map V.bool)))) : Op3 X n σ setItem (.ref k) (.int (i : Int)) (.bool true) Q :=
  setB hk (by rw [markN_len]; exact hi) (by rw [markN_len]; exact hl) (by rw [markN_set hi]; exact h)
/-- where blocks begin -/
def begL (ops : List Ins) (starts : List Int) : Nat → List Int
  | 0 => starts
  | i + 1 => match ops[i]? with
    | some o => begL ops starts i ++ o.goals ++ (if !o.goals.isEmpty || !o.on then [(i : Int) + 1] else [])
    | none => begL ops starts i
end

set_option maxHeartbeats 8000000
section
variable {X : Cfg} {n : Nat} {sc : List (Str × NameKind)} {ρ : Rho} {σ : List O} {Q : V → List O → Prop} {QF : Fl → Rho → List O → Prop} {aS aR : Addr} {c : Nat} {ops : List Ins}
theorem reached_body (T : TopOk X aS aR) (hl : ops.length ≤ 50) (hok : ∀ (i : Nat) (o : Ins), ops[i]? = some o → o.ok ops.length) {starts : List Int} (hst : starts.length ≤ 50)
    {I : List Bool → List Int → Prop} (h0 : I (List.replicate ops.length false) starts) (hb : ∀ marks line, I marks line → (∀ g ∈ line, 0 ≤ g ∧ g < ops.length) ∧ marks.length = ops.length)
    (hskip : ∀ marks line (i : Nat), I marks (line ++ [(i : Int)]) → marks.getD i false = true → I marks line)
    (hext : ∀ marks line (i : Nat) o, I marks (line ++ [(i : Int)]) → marks.getD i false = false → ops[i]? = some o → I (marks.set i true) (line ++ succs o i))
    {Q : V → List O → Prop} (h : ∀ marks, I marks [] → Q (.list (marks.map V.bool)) []) : AXs X (n + 2) (fsc 10) [("ops", opsV ops), ("starts", .list (starts.map V.int))] [] (fbody 10) (RetQ 0 Q) := by
  have hl' : ops.length ≤ 100 := by omega
  refine cons_ ?_
  repeat lcg_off
  refine repMk (m := ops.length) (k := 0) (σ' := [.list ((List.replicate ops.length false).map V.bool)]) .im rfl (by omega) rfl rfl (by simp) ?_
  lcg_off
  lcg_off
  lcg_off
  refine callB (T := T) (v := .type "list") (by simp) (by rfl) (by decide) (.inr ⟨_, rfl⟩) (by rfl) ?_
  repeat lcg_off
  refine listMk (k := 1) (σ' := [.list ((List.replicate ops.length false).map V.bool), .list (starts.map V.int)]) .im rfl rfl (by simp; omega) (nrs_ints _) ?_
  repeat lcg_off
  refine while_ (fun k R σ' => ∃ marks line, R = [("ops", opsV ops), ("marks", .ref 0), ("line", .ref 1)] ∧ σ' = [.list (marks.map V.bool), .list (line.map V.int)] ∧ I marks line ∧ k = 5 * marks.count false + line.length ∧ k ≤ 5 * ops.length + starts.length) (5 * ops.length + starts.length)
    ⟨_, ?_, List.replicate ops.length false, starts, rfl, rfl, h0, by simp, by omega⟩ ?_
  · kwd_less
  rintro k R σ' ⟨marks, line, rfl, rfl, hI, hk, hk5⟩
  have hll : line.length ≤ 400 := by omega
  obtain ⟨hg, hsl⟩ := hb _ _ hI
  repeat lcg_off
  refine Tr.ref (ds := line.map V.int) rfl (by simp; omega) ?_
  rcases List.eq_nil_or_concat line with rfl | ⟨l', a, rfl⟩
  · repeat lcg_off
    exact retL (Nat.le_refl _) rfl (h _ hI)
  rw [List.concat_eq_append] at *
  refine iteT (by simp) ?_
  have ha := hg a (by simp)
  obtain ⟨i, rfl⟩ : ∃ i : Nat, a = i := ⟨a.toNat, by omega⟩
  have hil : i < ops.length := by omega
  obtain ⟨o, ho⟩ : ∃ o, ops[i]? = some o := ⟨ops[i], List.getElem?_eq_getElem hil⟩
  have ok := hok i o ho
  have hfew := ok.few
  have hsl4 : (succs o i).length ≤ 4 := by unfold succs; split <;> simp <;> omega
  have hl1 : l'.length + 1 ≤ 400 := by simpa using hll
  repeat lcg_off
  refine ⟨1, l'.map V.int, .int i, rfl, by simp, by simp; omega, ?_⟩
  repeat lcg_off
  refine itemB (.mu rfl) (by omega) (by omega) ?_ (by intro _ _ _; with_unfolding_all rfl)
  repeat lcg_off
  refine ⟨fun e => ?_, fun e => ?_⟩
  · have hm : marks.getD i false = false := by simpa using e
    repeat lcg_off
    refine follows_call T ho hl' hfew ?_
    repeat lcg_off
    have hcm := count_mark (by omega) hm
    refine ⟨_, ?_, [("ops", opsV ops), ("marks", .ref 0), ("line", .ref 1)], ?_, marks.set i true, l' ++ succs o i, rfl, by simp [List.map_set], hext _ _ _ _ hI hm ho, rfl, ?_⟩
    · rw [hk]; simp; omega
    · kwd_less
    · rw [hk] at hk5; simp at hk5 ⊢; omega
  · have hm : marks.getD i false = true := by simpa using e
    repeat lcg_off
    refine ⟨_, ?_, [("ops", opsV ops), ("marks", .ref 0), ("line", .ref 1)], ?_, marks, l', rfl, rfl, hskip _ _ _ hI hm, rfl, ?_⟩
    · rw [hk]; simp
    · kwd_less
    · rw [hk] at hk5; simp at hk5; omega
theorem reached_call (T : TopOk X aS aR) (hl : ops.length ≤ 50) (hok : ∀ (i : Nat) (o : Ins), ops[i]? = some o → o.ok ops.length) {starts : List Int} (hst : starts.length ≤ 50)
    {I : List Bool → List Int → Prop} (h0 : I (List.replicate ops.length false) starts) (hb : ∀ marks line, I marks line → (∀ g ∈ line, 0 ≤ g ∧ g < ops.length) ∧ marks.length = ops.length)
    (hskip : ∀ marks line (i : Nat), I marks (line ++ [(i : Int)]) → marks.getD i false = true → I marks line)
    (hext : ∀ marks line (i : Nat) o, I marks (line ++ [(i : Int)]) → marks.getD i false = false → ops[i]? = some o → I (marks.set i true) (line ++ succs o i))
    (h : ∀ marks, I marks [] → Q (.list (marks.map V.bool)) σ) : ∀ f, Code X "reached" ["ops", "starts"] (fsc 10) (fbody 10) f → OpC X (n + 3) σ (.ref f) [opsV ops, .list (starts.map V.int)] Q := fun f c =>
  funR c (by decide) (by decide) (by decide) rfl (by simp [V.nrs, V.nr, opsV_nr, nrs_ints]) (Q := fun d => ∃ marks, d = .list (marks.map V.bool) ∧ I marks [])
    (reached_body T hl hok hst h0 hb hskip hext fun marks h => ⟨marks, rfl, h⟩) fun d e => by
      obtain ⟨marks, rfl, h1⟩ := e
      exact h marks h1

theorem begins_body (T : TopOk X aS aR) (hl : ops.length ≤ 50) (hok : ∀ (i : Nat) (o : Ins), ops[i]? = some o → o.ok ops.length) {starts : List Int} (hst : ∀ g ∈ starts, 0 ≤ g ∧ g < ops.length)
    {Q : V → List O → Prop} (h : Q (.list ((markN (ops.length + 1) (begL ops starts ops.length)).map V.bool)) []) : AXs X (n + 2) (fsc 8) [("ops", opsV ops), ("starts", .list (starts.map V.int))] [] (fbody 8) (RetQ 0 Q) := by
  have hl' : ops.length ≤ 100 := by omega
  refine cons_ ?_
  repeat lcg_off
  refine repMk (m := ops.length + 1) (k := 0) (σ' := [.list ((markN (ops.length + 1) []).map V.bool)]) .im rfl (by omega) rfl rfl (by rw [markN_nil]; simp) ?_
  repeat lcg_off
  refine ⟨_, fun i R σ' => R = [("ops", opsV ops), ("begins", .ref 0)] ∧ σ' = [.list ((markN (ops.length + 1) (starts.take i)).map V.bool)], .list, ⟨_, ?_, rfl, rfl⟩, ?_, ?_⟩
  · kwd_less
  · rintro i d R σ' hi ⟨rfl, rfl⟩
    rw [List.getElem?_map] at hi
    obtain ⟨r, hi', rfl⟩ := Option.map_eq_some_iff.mp hi
    have hm := hst r (List.mem_of_getElem? hi')
    obtain ⟨g, rfl⟩ : ∃ g : Nat, r = g := ⟨r.toNat, by omega⟩
    repeat lcg_off
    refine setM rfl (by omega) (by omega) ?_
    have et : starts.take i ++ [(g : Int)] = starts.take (i + 1) := by rw [List.take_add_one, hi']; rfl
    rw [et]
    repeat lcg_off
    refine ⟨[("ops", opsV ops), ("begins", .ref 0)], ?_, rfl, rfl⟩
    kwd_less
  · rintro R σ' ⟨rfl, rfl⟩
    rw [List.length_map, List.take_length]
    repeat lcg_off
    refine ⟨_, fun i R σ' => R = [("ops", opsV ops), ("begins", .ref 0)] ∧ σ' = [.list ((markN (ops.length + 1) (begL ops starts i)).map V.bool)], It.up (by omega), ⟨_, Sup.refl, rfl, rfl⟩, ?_, ?_⟩
    · rintro i d R σ' hi ⟨rfl, rfl⟩
      obtain ⟨hil, rfl⟩ := range_at hi
      obtain ⟨o, ho⟩ : ∃ o, ops[i]? = some o := ⟨ops[i], List.getElem?_eq_getElem hil⟩
      have ok := hok i o ho
      have hfew := ok.few
      have hbe : begL ops starts (i + 1) = begL ops starts i ++ o.goals ++ (if !o.goals.isEmpty || !o.on then [(i : Int) + 1] else []) := by simp [begL, ho]
      repeat lcg_off
      refine ⟨_, fun j R σ' => R = [("ops", opsV ops), ("begins", .ref 0), ("at", .int i), ("goals", .list (o.goals.map V.int))] ∧ σ' = [.list ((markN (ops.length + 1) (begL ops starts i ++ o.goals.take j)).map V.bool)], .list, ⟨_, ?_, rfl, by simp⟩, ?_, ?_⟩
      · kwd_less
      · rintro j d R σ' hj ⟨rfl, rfl⟩
        rw [List.getElem?_map] at hj
        obtain ⟨r, hj', rfl⟩ := Option.map_eq_some_iff.mp hj
        have hm := ok.go r (List.mem_of_getElem? hj')
        obtain ⟨g, rfl⟩ : ∃ g : Nat, r = g := ⟨r.toNat, by omega⟩
        repeat lcg_off
        refine setM rfl (by omega) (by omega) ?_
        have et : begL ops starts i ++ o.goals.take j ++ [(g : Int)] = begL ops starts i ++ o.goals.take (j + 1) := by rw [List.take_add_one, hj', List.append_assoc]; rfl
        rw [et]
        repeat lcg_off
        refine ⟨[("ops", opsV ops), ("begins", .ref 0), ("at", .int i), ("goals", .list (o.goals.map V.int))], ?_, rfl, rfl⟩
        kwd_less
      · rintro R σ' ⟨rfl, rfl⟩
        rw [List.length_map, List.take_length]
        repeat mem_news
        refine join [("ops", opsV ops), ("begins", .ref 0)] [.list ((markN (ops.length + 1) (begL ops starts (i + 1))).map V.bool)] ?_ ?_
        · repeat lcg_off
          refine Tr.list (by simp; omega) ?_
          refine ⟨fun e => ?_, fun e => ?_⟩
          · have hi1 : (!o.goals.isEmpty || !o.on) = true := by
              have : (!o.goals.isEmpty) = true := by simpa using e
              rw [this]; rfl
            rw [hbe, hi1]
            simp only [if_true]
            repeat lcg_off
            refine setM (i := i + 1) rfl (by omega) (by omega) ?_
            repeat lcg_off
            one_item
          · have hi0 : (!o.goals.isEmpty) = false := by simpa using e
            repeat lcg_off
            refine ⟨fun e => ?_, fun e => ?_⟩
            · have hi1 : (!o.goals.isEmpty || !o.on) = true := by rw [e]; simp
              rw [hbe, hi1]
              simp only [if_true]
              repeat lcg_off
              refine setM (i := i + 1) rfl (by omega) (by omega) ?_
              repeat lcg_off
              one_item
            · have hi1 : (!o.goals.isEmpty || !o.on) = false := by rw [e, hi0]; rfl
              rw [hbe, hi1]
              simp only [Bool.false_eq_true, if_false, List.append_nil]
              repeat lcg_off
              one_item
        · repeat lcg_off
          refine ⟨_, Sup.refl, rfl, rfl⟩
    · rintro R σ' ⟨rfl, rfl⟩
      rw [List.length_map, List.length_range]
      repeat lcg_off
      exact retL (Nat.le_refl _) rfl h
theorem begins_call (T : TopOk X aS aR) (hl : ops.length ≤ 50) (hok : ∀ (i : Nat) (o : Ins), ops[i]? = some o → o.ok ops.length) {starts : List Int} (hst : ∀ g ∈ starts, 0 ≤ g ∧ g < ops.length)
    (h : Q (.list ((markN (ops.length + 1) (begL ops starts ops.length)).map V.bool)) σ) : ∀ f, Code X "block_begins" ["ops", "starts"] (fsc 8) (fbody 8) f → OpC X (n + 3) σ (.ref f) [opsV ops, .list (starts.map V.int)] Q := fun f c =>
  funR c (by decide) (by decide) (by decide) rfl (by simp [V.nrs, V.nr, opsV_nr, nrs_ints]) (Q := fun d => d = .list ((markN (ops.length + 1) (begL ops starts ops.length)).map V.bool)) (begins_body T hl hok hst rfl) fun d e => e ▸ h
end

section
variable {ops : List Ins}
/-- every operation is sound, and every way leads to a place -/
def Good (ops : List Ins) : Prop := ∀ (i : Nat) (o : Ins), ops[i]? = some o → o.ok ops.length ∧ ∀ g ∈ succs o i, 0 ≤ g ∧ g < ops.length
inductive LiveR (ops : List Ins) (r : Int) : Int → Prop
  | read {i : Nat} {o : Ins} : ops[i]? = some o → r ∈ o.reads → LiveR ops r i
  | step {i : Nat} {o : Ins} {g : Int} : ops[i]? = some o → o.w ≠ some r → g ∈ succs o i → LiveR ops r g → LiveR ops r i
inductive Wy (ops : List Ins) (r : Int) (s : Int) : Int → Prop
  | refl : Wy ops r s s
  | step {i : Nat} {o : Ins} {g : Int} : Wy ops r s i → ops[i]? = some o → o.w ≠ some r → g ∈ succs o i → Wy ops r s g

theorem Wy.live {r s a : Int} (h : Wy ops r s a) : LiveR ops r a → LiveR ops r s := by
  induction h with
  | refl => exact id
  | step _ h2 h3 h4 ih => exact fun k => ih (.step h2 h3 h4 k)

theorem len_le : ∀ (n : Nat) (l : List Int), l.Nodup → (∀ g ∈ l, 0 ≤ g ∧ g < n) → l.length ≤ n
  | 0, l, _, h => by
    cases l with
    | nil => simp
    | cons a l => have := h a (by simp); omega
  | n + 1, l, hn, h => by
    by_cases hm : (n : Int) ∈ l
    · have := len_le n (l.erase (n : Int)) (hn.erase _) fun g hg => by
        have h1 := h g (List.mem_of_mem_erase hg)
        have h2 : g ≠ (n : Int) := (List.Nodup.mem_erase_iff hn).mp hg |>.1
        omega
      rw [List.length_erase_of_mem hm] at this
      omega
    · have := len_le n l hn fun g hg => by
        have h1 := h g hg
        have h2 : g ≠ (n : Int) := fun e => hm (e ▸ hg)
        omega
      omega

/-! masks -/
theorem foldl_or (f : Int → Nat) : ∀ (l : List Int) (m r : Nat), (l.foldl (fun m g => m ||| f g) m).testBit r = (m.testBit r || l.any fun g => (f g).testBit r)
  | [], m, r => by simp
  | a :: l, m, r => by rw [List.foldl_cons, foldl_or f l, Nat.testBit_or, List.any_cons, Bool.or_assoc]
theorem behind_bit (o : Ins) (i : Nat) (live : List Nat) (r : Nat) : (behind o i live).testBit r = (succs o i).any fun g => (live.getD g.toNat 0).testBit r := by
  unfold behind; rw [foldl_or fun g => live.getD g.toNat 0]; simp
theorem bitsOf_bit (rs : List Int) (h : ∀ r ∈ rs, 0 ≤ r) (r : Nat) : (bitsOf rs).testBit r = decide ((r : Int) ∈ rs) := by
  unfold bitsOf
  rw [foldl_or fun r => 2 ^ r.toNat]
  simp only [Nat.zero_testBit, Bool.false_or, Nat.testBit_two_pow]
  rw [Bool.eq_iff_iff, List.any_eq_true, decide_eq_true_eq]
  constructor
  · rintro ⟨x, hx, e⟩
    have := h x hx
    have e' : x.toNat = r := by simpa using e
    have : (r : Int) = x := by omega
    rw [this]; exact hx
  · intro hm
    exact ⟨r, hm, by simp⟩
theorem less_bit (m : Nat) (w : Option Int) (h : ∀ a, w = some a → 0 ≤ a) (r : Nat) : (less m w).testBit r = (m.testBit r && decide (w ≠ some (r : Int))) := by
  cases w with
  | none => simp [less]
  | some a =>
    have ha := h a rfl
    obtain ⟨k, rfl⟩ : ∃ k : Nat, a = k := ⟨a.toNat, by omega⟩
    have e0 : (some (k : Int) ≠ some (r : Int)) ↔ ¬ k = r := by
      simp only [ne_eq, Option.some.injEq]
      omega
    simp only [less, Int.toNat_natCast, e0]
    by_cases hb : m.testBit k = true
    · rw [if_pos hb]
      have hx : m - 2 ^ k = m ^^^ 2 ^ k := by
        have h1 : (m ^^^ 2 ^ k) + 2 ^ k = m := by
          have h2 : (m ^^^ 2 ^ k) &&& 2 ^ k = 0 := by
            apply Nat.eq_of_testBit_eq
            intro j
            simp only [Nat.testBit_and, Nat.testBit_xor, Nat.testBit_two_pow, Nat.zero_testBit]
            by_cases hj : k = j
            · subst hj; simp [hb]
            · simp [hj]
          have h3 : (m ^^^ 2 ^ k) ||| 2 ^ k = m := by
            apply Nat.eq_of_testBit_eq
            intro j
            simp only [Nat.testBit_or, Nat.testBit_xor, Nat.testBit_two_pow]
            by_cases hj : k = j
            · subst hj; simp [hb]
            · simp [hj]
          have h4 := bitOr_and ((m ^^^ 2 ^ k : Nat) : Int) ((2 ^ k : Nat) : Int)
          rw [bitOr_nat, bitAnd_pp (Int.natCast_nonneg _) (Int.natCast_nonneg _)] at h4
          simp only [Int.toNat_natCast] at h4
          rw [h2, h3] at h4
          generalize 2 ^ k = p at h4
          omega
        omega
      rw [hx, Nat.testBit_xor, Nat.testBit_two_pow]
      by_cases hj : k = r
      · subst hj; simp [hb]
      · simp [hj]
    · rw [if_neg hb]
      by_cases hj : k = r
      · subst hj; simp [hb]
      · simp [hj]
theorem newMask_bit {n : Int} (o : Ins) (ok : o.ok n) (i : Nat) (live : List Nat) (r : Nat) : (newMask o i live).testBit r = true ↔ ((∃ g ∈ succs o i, (live.getD g.toNat 0).testBit r = true) ∧ o.w ≠ some (r : Int)) ∨ (r : Int) ∈ o.reads := by
  unfold newMask
  rw [Nat.testBit_or, less_bit _ _ (fun a h => (ok.wr a h).1), behind_bit, bitsOf_bit _ fun r h => (ok.rd r h).1]
  simp only [Bool.or_eq_true, Bool.and_eq_true, List.any_eq_true, decide_eq_true_eq]

/-! the registers live ahead -/
structure LP (ops : List Ins) (live : List Nat) : Prop where
  len : live.length = ops.length + 1
  small : ∀ i, live.getD i 0 < 256
  last : live.getD ops.length 0 = 0
  up : ∀ (i : Nat) (o : Ins), ops[i]? = some o → ∀ r, (live.getD i 0).testBit r = true → (newMask o i live).testBit r = true
  sound : ∀ (i : Nat) (o : Ins) (r : Nat), ops[i]? = some o → (live.getD i 0).testBit r = true → LiveR ops r i
def msL (live : List Nat) : Nat := (live.map fun m => 256 - m).sum
theorem LP.start : LP ops (List.replicate (ops.length + 1) 0) := by
  have h : ∀ i, (List.replicate (ops.length + 1) 0).getD i 0 = 0 := fun i => by
    simp only [List.getD_eq_getElem?_getD, List.getElem?_replicate]
    split <;> rfl
  refine ⟨by simp, fun i => by rw [h]; decide, h _, fun i o _ r hb => ?_, fun i o r _ hb => ?_⟩
  · rw [h] at hb; simp at hb
  · rw [h] at hb; simp at hb
theorem getD_set (live : List Nat) (i j m : Nat) (h : i < live.length) : (live.set i m).getD j 0 = if i = j then m else live.getD j 0 := by
  simp only [List.getD_eq_getElem?_getD, List.getElem?_set, h]
  by_cases e : i = j
  · subst e; simp [h]
  · simp [e]
theorem msL_set : ∀ (live : List Nat) (i m : Nat), i < live.length → live.getD i 0 < m → m < 256 → msL (live.set i m) < msL live
  | [], i, m, h, _, _ => by simp at h
  | a :: l, 0, m, _, h2, h3 => by
    have : a < m := by simpa using h2
    simp only [msL, List.set_cons_zero, List.map_cons, List.sum_cons]
    omega
  | a :: l, i + 1, m, h1, h2, h3 => by
    have := msL_set l i m (by simpa using h1) (by simpa using h2) h3
    simp only [msL, List.set_cons_succ, List.map_cons, List.sum_cons] at this ⊢
    omega
theorem LP.step (hg : Good ops) {live : List Nat} {i : Nat} {o : Ins} (ho : ops[i]? = some o) (h : LP ops live) (hne : newMask o i live ≠ live.getD i 0) :
    LP ops (live.set i (newMask o i live)) ∧ msL (live.set i (newMask o i live)) < msL live := by
  obtain ⟨ok, hs⟩ := hg i o ho
  have hil := (List.getElem?_eq_some_iff.mp ho).1
  have hlen := h.len
  have hi' : i < live.length := by omega
  have hsm : newMask o i live < 256 := by
    refine Nat.lt_pow_two_of_testBit (n := 8) _ fun r hr => ?_
    apply Bool.eq_false_iff.mpr
    intro hb
    rcases (newMask_bit o ok i live r).mp hb with ⟨⟨g, _, hb'⟩, _⟩ | hm
    · have := h.small g.toNat
      have h2 := Nat.ge_two_pow_of_testBit hb'
      have h3 : 2 ^ 8 ≤ 2 ^ r := Nat.pow_le_pow_right (by decide) hr
      omega
    · have := ok.rd _ hm
      omega
  have mono : ∀ j r, (live.getD j 0).testBit r = true → ((live.set i (newMask o i live)).getD j 0).testBit r = true := fun j r hb => by
    rw [getD_set _ _ _ _ hi']
    split
    · rename_i e; subst e; exact h.up _ _ ho r hb
    · exact hb
  have monoN : ∀ (j : Nat) (p : Ins), ops[j]? = some p → ∀ r, (newMask p j live).testBit r = true → (newMask p j (live.set i (newMask o i live))).testBit r = true := fun j p hp r hb => by
    have okp := (hg j p hp).1
    rw [newMask_bit p okp] at hb ⊢
    rcases hb with ⟨⟨g, h1, h2⟩, h3⟩ | hb
    · exact .inl ⟨⟨g, h1, mono _ _ h2⟩, h3⟩
    · exact .inr hb
  refine ⟨⟨by simp [hlen], fun j => ?_, ?_, fun j p hp r hb => ?_, fun j p r hp hb => ?_⟩, msL_set _ _ _ hi' ?_ hsm⟩
  · rw [getD_set _ _ _ _ hi']
    split
    · exact hsm
    · exact h.small j
  · rw [getD_set _ _ _ _ hi', if_neg (by omega)]; exact h.last
  · refine monoN j p hp r ?_
    rw [getD_set _ _ _ _ hi'] at hb
    split at hb
    · rename_i e; subst e
      rw [ho] at hp; cases hp
      exact hb
    · exact h.up j p hp r hb
  · rw [getD_set _ _ _ _ hi'] at hb
    split at hb
    · rename_i e; subst e
      rw [ho] at hp; cases hp
      rcases (newMask_bit o ok i live r).mp hb with ⟨⟨g, h1, h2⟩, h3⟩ | hm
      · have hgr := hs g h1
        obtain ⟨k, rfl⟩ : ∃ k : Nat, g = k := ⟨g.toNat, by omega⟩
        have hk : k < ops.length := by omega
        exact .step ho h3 h1 (h.sound k ops[k] r (List.getElem?_eq_getElem hk) (by simpa using h2))
      · exact .read ho hm
    · exact h.sound j p r hp hb
  · have he : newMask o i live = live.getD i 0 ||| newMask o i live := by
      apply Nat.eq_of_testBit_eq
      intro r
      rw [Nat.testBit_or]
      by_cases hb : (live.getD i 0).testBit r = true
      · rw [hb, h.up i o ho r hb]; rfl
      · rw [Bool.eq_false_iff.mpr hb]; rfl
    have := Nat.left_le_or (n := live.getD i 0) (m := newMask o i live)
    rw [← he] at this
    omega
theorem LP.full (hg : Good ops) {live : List Nat} (hf : ∀ i o, ops[i]? = some o → newMask o i live = live.getD i 0) {r : Nat} {a : Int} (h : LiveR ops r a) : (live.getD a.toNat 0).testBit r = true := by
  induction h with
  | @read i o h1 h2 =>
    have ok := (hg i o h1).1
    rw [Int.toNat_natCast, ← hf i o h1]
    exact (newMask_bit o ok i live r).mpr (.inr h2)
  | @step i o g h1 h2 h3 _ ih =>
    have ok := (hg i o h1).1
    rw [Int.toNat_natCast, ← hf i o h1]
    exact (newMask_bit o ok i live r).mpr (.inl ⟨⟨g, h3, ih⟩, h2⟩)
theorem LP.iff (hg : Good ops) {live : List Nat} (h : LP ops live) (hf : ∀ i o, ops[i]? = some o → newMask o i live = live.getD i 0) {i : Nat} (hi : i < ops.length) (r : Nat) : (live.getD i 0).testBit r = true ↔ LiveR ops r i := by
  constructor
  · exact h.sound i ops[i] r (List.getElem?_eq_getElem hi)
  · intro hl
    have := LP.full hg hf hl
    simpa using this
end

section
variable {ops : List Ins}

/-! the law's own search -/
structure SI (ops : List Ins) (r s : Int) (seen line : List Int) : Prop where
  inL : ∀ g ∈ line, 0 ≤ g ∧ g < ops.length
  inS : ∀ g ∈ seen, 0 ≤ g ∧ g < ops.length
  nd : seen.Nodup
  way : ∀ g, g ∈ seen ∨ g ∈ line → Wy ops r s g
  start : s ∈ seen ∨ s ∈ line
  clos : ∀ (i : Nat) (o : Ins), (i : Int) ∈ seen → ops[i]? = some o → r ∉ o.reads ∧ (o.w ≠ some r → ∀ g ∈ succs o i, g ∈ seen ∨ g ∈ line)
theorem SI.start' {r s : Int} (h : 0 ≤ s ∧ s < ops.length) : SI ops r s [] [s] :=
  ⟨by simpa using h, by simp, by simp, by simpa using Wy.refl, .inr (by simp), by simp⟩
theorem SI.len {r s : Int} {seen line : List Int} (h : SI ops r s seen line) : seen.length ≤ ops.length := len_le _ _ h.nd h.inS
theorem SI.skip {r s : Int} {seen line : List Int} {a : Int} (h : SI ops r s seen (line ++ [a])) (ha : a ∈ seen) : SI ops r s seen line := by
  have sh : ∀ g, g ∈ seen ∨ g ∈ line ++ [a] → g ∈ seen ∨ g ∈ line := fun g hg => by
    rcases hg with hg | hg
    · exact .inl hg
    · rcases List.mem_append.mp hg with hg | hg
      · exact .inr hg
      · exact .inl ((List.mem_singleton.mp hg) ▸ ha)
  exact ⟨fun g hg => h.inL g (List.mem_append_left _ hg), h.inS, h.nd, fun g hg => h.way g (hg.imp id fun x => List.mem_append_left _ x), sh _ h.start, fun i o h1 h2 => ⟨(h.clos i o h1 h2).1, fun h3 g h4 => sh _ ((h.clos i o h1 h2).2 h3 g h4)⟩⟩
theorem SI.next {r s : Int} {seen line more : List Int} {i : Nat} {o : Ins} (h : SI ops r s seen (line ++ [(i : Int)])) (hn : (i : Int) ∉ seen) (ho : ops[i]? = some o) (hr : r ∉ o.reads)
    (hm : ∀ g ∈ more, (0 ≤ g ∧ g < ops.length) ∧ Wy ops r s g) (hc : o.w ≠ some r → ∀ g ∈ succs o i, g ∈ more) : SI ops r s (seen ++ [(i : Int)]) (line ++ more) := by
  have hi := h.inL i (by simp)
  have sh : ∀ g, g ∈ seen ∨ g ∈ line ++ [(i : Int)] → g ∈ seen ++ [(i : Int)] ∨ g ∈ line ++ more := fun g hg => by
    rcases hg with hg | hg
    · exact .inl (List.mem_append_left _ hg)
    · rcases List.mem_append.mp hg with hg | hg
      · exact .inr (List.mem_append_left _ hg)
      · exact .inl (List.mem_append_right _ hg)
  refine ⟨fun g hg => ?_, fun g hg => ?_, ?_, fun g hg => ?_, sh _ h.start, fun j p h1 h2 => ?_⟩
  · rcases List.mem_append.mp hg with hg | hg
    · exact h.inL g (List.mem_append_left _ hg)
    · exact (hm g hg).1
  · rcases List.mem_append.mp hg with hg | hg
    · exact h.inS g hg
    · rw [List.mem_singleton.mp hg]; exact hi
  · refine List.nodup_append.mpr ⟨h.nd, by simp, fun a ha b hb e => ?_⟩
    rw [List.mem_singleton.mp hb] at e
    exact hn (e ▸ ha)
  · rcases hg with hg | hg
    · rcases List.mem_append.mp hg with hg | hg
      · exact h.way g (.inl hg)
      · exact h.way g (.inr (List.mem_append_right _ hg))
    · rcases List.mem_append.mp hg with hg | hg
      · exact h.way g (.inr (List.mem_append_left _ hg))
      · exact (hm g hg).2
  · rcases List.mem_append.mp h1 with h1 | h1
    · exact ⟨(h.clos j p h1 h2).1, fun h3 g h4 => sh _ ((h.clos j p h1 h2).2 h3 g h4)⟩
    · have e : j = i := by have := List.mem_singleton.mp h1; omega
      subst e
      rw [ho] at h2; cases h2
      exact ⟨hr, fun h3 g h4 => .inr (List.mem_append_right _ (hc h3 g h4))⟩
theorem SI.ext (hg : Good ops) {r s : Int} {seen line : List Int} {i : Nat} {o : Ins} (h : SI ops r s seen (line ++ [(i : Int)])) (hn : (i : Int) ∉ seen) (ho : ops[i]? = some o) (hr : r ∉ o.reads) (hw : o.w ≠ some r) :
    SI ops r s (seen ++ [(i : Int)]) (line ++ succs o i) :=
  h.next hn ho hr (fun g h1 => ⟨(hg i o ho).2 g h1, .step (h.way _ (.inr (by simp))) ho hw h1⟩) fun _ g h1 => h1
theorem SI.stop {r s : Int} {seen line : List Int} {i : Nat} {o : Ins} (h : SI ops r s seen (line ++ [(i : Int)])) (hn : (i : Int) ∉ seen) (ho : ops[i]? = some o) (hr : r ∉ o.reads) (hw : o.w = some r) :
    SI ops r s (seen ++ [(i : Int)]) line := by
  have := h.next (more := []) hn ho hr (by simp) fun q => absurd hw q
  simpa using this
/-- what the search answers -/
def SR (ops : List Ins) (r s : Int) (b : Bool) (seen : List Int) : Prop := if b then LiveR ops r s else SI ops r s seen []
theorem SI.yes {r s : Int} {seen line : List Int} {i : Nat} {o : Ins} (h : SI ops r s seen (line ++ [(i : Int)])) (ho : ops[i]? = some o) (hr : r ∈ o.reads) : LiveR ops r s :=
  (h.way i (.inr (by simp))).live (.read ho hr)
theorem SI.no {r s : Int} {seen : List Int} (h : SI ops r s seen []) : ¬ LiveR ops r s := fun hl => by
  have key : ∀ a, LiveR ops r a → a ∈ seen → False := fun a ha => by
    induction ha with
    | read h1 h2 => exact fun hm => (h.clos _ _ hm h1).1 h2
    | step h1 h2 h3 _ ih => exact fun hm => ih (((h.clos _ _ hm h1).2 h2 _ h3).resolve_right (by simp))
  exact key s hl (h.start.resolve_right (by simp))
theorem SR.iff {r s : Int} {b : Bool} {seen : List Int} (h : SR ops r s b seen) : b = true ↔ LiveR ops r s := by
  cases b with
  | true => exact ⟨fun _ => h, fun _ => rfl⟩
  | false => exact ⟨fun e => (by cases e), fun hl => absurd hl (SI.no h)⟩
theorem noLive (hg : Good ops) {a : Int} : ¬ LiveR ops (-1) a := fun h => by
  induction h with
  | read h1 h2 => have := ((hg _ _ h1).1.rd _ h2).1; omega
  | step _ _ _ _ ih => exact ih
theorem SR.all (hg : Good ops) {s : Int} {b : Bool} {seen : List Int} (h : SR ops (-1) s b seen) (g : Int) : g ∈ seen ↔ Wy ops (-1) s g := by
  cases b with
  | true => exact absurd h (noLive hg)
  | false =>
    have h : SI ops (-1) s seen [] := h
    refine ⟨fun hm => h.way g (.inl hm), fun hw => ?_⟩
    induction hw with
    | refl => exact h.start.resolve_right (by simp)
    | step _ h2 h3 h4 ih => exact ((h.clos _ _ ih h2).2 h3 _ h4).resolve_right (by simp)

/-! the places that are reached -/
def Rs (ops : List Ins) (starts : List Int) (g : Int) : Prop := ∃ s ∈ starts, Wy ops (-1) s g
structure RI (ops : List Ins) (starts : List Int) (marks : List Bool) (line : List Int) : Prop where
  len : marks.length = ops.length
  inL : ∀ g ∈ line, 0 ≤ g ∧ g < ops.length
  wayM : ∀ i : Nat, marks.getD i false = true → Rs ops starts i
  wayL : ∀ g ∈ line, Rs ops starts g
  start : ∀ s ∈ starts, marks.getD s.toNat false = true ∨ s ∈ line
  clos : ∀ (i : Nat) (o : Ins), marks.getD i false = true → ops[i]? = some o → ∀ g ∈ succs o i, marks.getD g.toNat false = true ∨ g ∈ line
theorem getD_repl (n i : Nat) : (List.replicate n false).getD i false = false := by
  simp only [List.getD_eq_getElem?_getD, List.getElem?_replicate]
  split <;> rfl
theorem RI.start' {starts : List Int} (h : ∀ s ∈ starts, 0 ≤ s ∧ s < ops.length) : RI ops starts (List.replicate ops.length false) starts :=
  ⟨by simp, h, fun i e => (by rw [getD_repl] at e; cases e), fun g hg => ⟨g, hg, .refl⟩, fun s hs => .inr hs, fun i o e => (by rw [getD_repl] at e; cases e)⟩
theorem RI.skip {starts line : List Int} {marks : List Bool} {i : Nat} (h : RI ops starts marks (line ++ [(i : Int)])) (hi : marks.getD i false = true) : RI ops starts marks line := by
  have sh : ∀ g, marks.getD g.toNat false = true ∨ g ∈ line ++ [(i : Int)] → marks.getD g.toNat false = true ∨ g ∈ line := fun g hg => by
    rcases hg with hg | hg
    · exact .inl hg
    · rcases List.mem_append.mp hg with hg | hg
      · exact .inr hg
      · rw [List.mem_singleton.mp hg]; exact .inl hi
  exact ⟨h.len, fun g hg => h.inL g (List.mem_append_left _ hg), h.wayM, fun g hg => h.wayL g (List.mem_append_left _ hg), fun s hs => sh s (h.start s hs), fun j o h1 h2 g h3 => sh g (h.clos j o h1 h2 g h3)⟩
theorem getD_setB (marks : List Bool) (i j : Nat) (h : i < marks.length) : (marks.set i true).getD j false = if i = j then true else marks.getD j false := by
  simp only [List.getD_eq_getElem?_getD, List.getElem?_set, h]
  by_cases e : i = j
  · subst e; simp [h]
  · simp [e]
theorem RI.ext (hg : Good ops) {starts line : List Int} {marks : List Bool} {i : Nat} {o : Ins} (h : RI ops starts marks (line ++ [(i : Int)])) (hi : marks.getD i false = false) (ho : ops[i]? = some o) :
    RI ops starts (marks.set i true) (line ++ succs o i) := by
  have hil := (List.getElem?_eq_some_iff.mp ho).1
  have him : i < marks.length := by rw [h.len]; exact hil
  have hw := h.wayL i (by simp)
  have up : ∀ j, marks.getD j false = true → (marks.set i true).getD j false = true := fun j e => by
    rw [getD_setB _ _ _ him]; split
    · rfl
    · exact e
  have sh : ∀ g, marks.getD g.toNat false = true ∨ g ∈ line ++ [(i : Int)] → (marks.set i true).getD g.toNat false = true ∨ g ∈ line ++ succs o i := fun g hg => by
    rcases hg with hg | hg
    · exact .inl (up _ hg)
    · rcases List.mem_append.mp hg with hg | hg
      · exact .inr (List.mem_append_left _ hg)
      · rw [List.mem_singleton.mp hg]
        left
        rw [getD_setB _ _ _ him]; simp
  have nxt : ∀ g ∈ succs o i, Rs ops starts g := fun g h1 => by
    obtain ⟨s, hs, hw⟩ := hw
    exact ⟨s, hs, .step hw ho (fun e => by have := ((hg i o ho).1.wr _ e).1; omega) h1⟩
  refine ⟨by simp [h.len], fun g hm => ?_, fun j e => ?_, fun g hm => ?_, fun s hs => sh s (h.start s hs), fun j p h1 h2 g h3 => ?_⟩
  · rcases List.mem_append.mp hm with hm | hm
    · exact h.inL g (List.mem_append_left _ hm)
    · exact (hg i o ho).2 g hm
  · rw [getD_setB _ _ _ him] at e
    split at e
    · rename_i q; subst q; exact hw
    · exact h.wayM j e
  · rcases List.mem_append.mp hm with hm | hm
    · exact h.wayL g (List.mem_append_left _ hm)
    · exact nxt g hm
  · rw [getD_setB _ _ _ him] at h1
    split at h1
    · rename_i q; subst q
      rw [ho] at h2; cases h2
      exact .inr (List.mem_append_right _ h3)
    · exact sh g (h.clos j p h1 h2 g h3)
theorem RI.fin (hg : Good ops) {starts : List Int} (hst : ∀ s ∈ starts, 0 ≤ s ∧ s < ops.length) {marks : List Bool} (h : RI ops starts marks []) {come : List Int} (hc : ∀ g, g ∈ come ↔ Rs ops starts g) : marks = markN ops.length come := by
  have key : ∀ g, Rs ops starts g → marks.getD g.toNat false = true := by
    intro g hr
    obtain ⟨s, hs, hw⟩ := hr
    induction hw with
    | refl => exact (h.start s hs).resolve_right (by simp)
    | step _ h2 _ h4 ih => exact (h.clos _ _ (by simpa using ih) h2 _ h4).resolve_right (by simp)
  refine List.ext_getElem (by rw [h.len, markN_len]) fun i h1 h2 => ?_
  have hgd : marks.getD i false = marks[i] := by simp [h1]
  have e : (markN ops.length come)[i] = decide ((i : Int) ∈ come) := by simp [markN]
  rw [e, Bool.eq_iff_iff, decide_eq_true_eq, hc]
  constructor
  · intro hm
    exact h.wayM i (by rw [hgd]; exact hm)
  · intro hr
    have := key _ hr
    rw [Int.toNat_natCast, hgd] at this
    exact this

/-! two dicts that answer alike -/
theorem mget_mem {m : Dm} {k : Int} {p : Int × Int} (h : mget m k = some p) : (k, p) ∈ m := by
  unfold mget at h
  obtain ⟨kv, h1, rfl⟩ := Option.map_eq_some_iff.mp h
  have h2 := List.mem_of_find?_eq_some h1
  have h3 : kv.1 = k := by simpa using List.find?_some h1
  rw [← h3]; exact h2
theorem mget_of_mem {m : Dm} (hn : (m.map (·.1)).Nodup) {k : Int} {p : Int × Int} (h : (k, p) ∈ m) : mget m k = some p := by
  induction m with
  | nil => cases h
  | cons e m ih =>
    obtain ⟨i, q⟩ := e
    rw [List.map_cons, List.nodup_cons] at hn
    rw [mget_cons]
    rcases List.mem_cons.mp h with h | h
    · cases h; simp
    · have : ¬ i = k := fun e => hn.1 (e ▸ List.mem_map.mpr ⟨(k, p), h, rfl⟩)
      rw [if_neg this]; exact ih hn.2 h
theorem sub_len {a b : List Int} (ha : a.Nodup) (h : ∀ x ∈ a, x ∈ b) : a.length ≤ b.length := by
  induction a generalizing b with
  | nil => simp
  | cons x a ih =>
    rw [List.nodup_cons] at ha
    have hx := h x (by simp)
    have := ih (b := b.erase x) ha.2 fun y hy => by
      have hne : y ≠ x := fun e => ha.1 (e ▸ hy)
      exact (List.mem_erase_of_ne hne).mpr (h y (List.mem_cons_of_mem _ hy))
    rw [List.length_erase_of_mem hx] at this
    have hp : 0 < b.length := List.length_pos_of_mem hx
    simp only [List.length_cons]
    omega
theorem same_dicts {a b : Dm} (ha : (a.map (·.1)).Nodup) (hb : (b.map (·.1)).Nodup) (h : ∀ r, mget a r = mget b r) : (a.length == b.length && dSame a b) = true := by
  have keys : ∀ {a b : Dm}, (a.map (·.1)).Nodup → (∀ r, mget a r = mget b r) → ∀ x ∈ a.map (·.1), x ∈ b.map (·.1) := fun {a b} hn h x hx => by
    obtain ⟨⟨k, p⟩, hm, rfl⟩ := List.mem_map.mp hx
    have := mget_of_mem hn hm
    rw [h] at this
    exact List.mem_map.mpr ⟨_, mget_mem this, rfl⟩
  have l1 := sub_len ha (keys ha h)
  have l2 := sub_len hb (keys hb fun r => (h r).symm)
  rw [List.length_map, List.length_map] at l1 l2
  rw [Bool.and_eq_true]
  refine ⟨by simp; omega, ?_⟩
  unfold dSame
  rw [List.all_eq_true]
  rintro ⟨k, p⟩ hm
  have := mget_of_mem ha hm
  rw [h] at this
  have : (b.find? fun kv => kv.1 = k).map (·.2) = some p := this
  simp only [this]
  simp
end

section
variable {X : Cfg} {n : Nat} {sc : List (Str × NameKind)} {ρ ρf : Rho} {σ : List O} {Q : V → List O → Prop} {QF : Fl → Rho → List O → Prop} {QB : Bool → List O → Prop} {aS aR : Addr} {c : Nat} {ops : List Ins}

/-- a cut of the caller's list -/
theorem SubSliceG_ {value u : Expr} {p pos : Pos} {l : Nat} {vs : List Value} {ns : List Int} (hl : X.Hb.IsList l vs.toArray) (hi : IntsAre vs ns) (hn : ns.length ≤ 1000) (h : AW X n sc ρ σ value fun a σ₁ => AW X n sc ρ σ₁ u fun b σ₂ => ∃ j, a = .addr l ∧ b = .int j ∧ 0 ≤ j ∧ Q (.list ((ns.take j.toNat).map V.int)) σ₂)
    (hs : ∀ l a, subscripted (.Slice none (some u) none p) false (.ref l) (.ref a) = operate [.ref a, .ref l] (getItem (.ref l) (.ref a)) := by intro _ _; with_unfolding_all rfl)
    (ht : ∀ l r, letTemporaryGo value (.ref l) r = pure () := by intro _ _; with_unfolding_all rfl) : AW X n sc ρ σ (.Subscript value (.Slice none (some u) none p) pos) Q :=
  fun A env h₀ L m os cs im fr s Qc Ec F S R q => PyProof.Rows.Subscript_ (h A env h₀ L m os cs im fr s _ Ec F S R fun va a σ₁ os₁ im₁ h₁ tk₁ k₁ P₁ v₁ =>
    wpAny_Slice (by
      rw [evalPart_none]
      refine wpAny_pure ?_
      rw [evalPart_some]
      refine k₁ A env h₀ L m os₁ cs im₁ fr { s with heap := h₁, toks := tk₁ } _ Ec F P₁.sim (R.post P₁.sub P₁.pre) fun vb b σ₂ os₂ im₂ h₂ tk₂ k₂ P₂ v₂ => ?_
      obtain ⟨j, rfl, rfl, h0, hq⟩ := k₂
      cases v₂
      cases v₁
      have hL : h₂.IsList l vs.toArray := by
        obtain ⟨o, ho, hc⟩ := hl
        exact ⟨o, F.hb P₂.sim.F _ _ ho, hc⟩
      have hlen : vs.length = ns.length := hi.length
      refine wpAny_pure ?_
      refine slice_list (s := { s with heap := h₂, toks := tk₂ }) P₂.sim.F P₂.sim.N hL .none (.int j _) (fun h' F' N' => ?_) (hs _ _) (ht _) (by rw [List.size_toArray, hlen]; simp only [sizeLine]; omega)
      rw [pick_upto _ h0] at N'
      have P₃ := P₂.sim.newIm F' N' (fun p hp => Nat.ne_of_lt (Nat.lt_succ_of_lt (Heap.lt_size (P₂.sim.N p hp).1)))
      refine q _ _ _ _ _ h' tk₂ hq ((P₁.trans P₂).trans P₃) (.list (n := 0) (.inr (.head _)) ?_)
      rw [List.map_take]
      exact (VRs.ints hi).take _))

theorem dispMk {es : List Expr} {pos : Pos} (h : AWl X n sc ρ σ es fun ds σ₁ => ∃ k σ', ds.length ≤ 1000 ∧ V.nrs ds = true ∧ σ₁.length = k ∧ σ₁ ++ [.list ds] = σ' ∧ Q (.ref k) σ') : AW X n sc ρ σ (.List es pos) Q :=
  ListM_ (h.mono fun ds σ₁ q => by
    obtain ⟨k, σ', h1, h2, rfl, rfl, h3⟩ := q
    exact ⟨h1, h2, h3⟩)
theorem ItC.up {k : Nat} (hk : k ≤ 1000) : ItC (.rng 0 (k : Int) 1) ((List.range k).map fun i : Nat => V.int (i : Int)) := by
  have h := @ItC.rng 0 (k : Int) k (small_one (by omega) (by omega) (by omega) (by omega)) (by
    rw [rangeSize_one]; split <;> omega) hk
  have e : (fun i : Nat => V.int (0 + (i : Int))) = fun i : Nat => V.int (i : Int) := by funext i; congr 1; omega
  rw [e] at h
  exact h
theorem ItC.up' {b : Int} (h0 : 0 ≤ b) (hk : b ≤ 1000) : ItC (.rng 0 b 1) ((List.range b.toNat).map fun i : Nat => V.int (i : Int)) := by
  have := ItC.up (k := b.toNat) (by omega)
  rw [show ((b.toNat : Nat) : Int) = b by omega] at this
  exact this

theorem op_call (T : TopOk X aS aR) {kp : Nat} {k s m : Int} {sl : List Int} (hp : PenOk σ kp sl s) (hk : 0 ≤ k) (hk' : k < 900) (hm : 0 < m) (hm' : m ≤ 1000)
    (h : ∀ (o : Ins) (k' : Int), o.ok m → k ≤ k' → k' ≤ k + 8 → Q o.toV (Pen σ kp sl k' s)) : ∀ f, Code X "_law_op" ["pen", "size"] (fsc 21) (fbody 21) f → OpC X (n + 2) (Pen σ kp sl k s) (.ref f) [.ref kp, .int m] Q := fun f c =>
  funW c (by decide) (by decide) (by decide) rfl (op_body T hp hk hk' hm hm' h)

/-- the drawn operations -/
theorem compOps {sc' : List (Str × NameKind)} {p1 p2 p3 p4 : Pos} (T : TopOk X aS aR) {kp : Nat} {s m : Int} {sl : List Int} (hp : PenOk σ kp sl s) (hm : 0 < m) (hm' : m ≤ 1000) (hs : sc'.lookup (Str.ofString "_law_op") = some .globalImplicit)
    (h1 : Lk ρf "pen" (.ref kp)) (h2 : Lk ρf "size" (.int m)) {Q : V → List O → Prop} :
    ∀ (items : List V) (os : List Ins) (k : Int), 0 ≤ k → k + 8 * items.length ≤ 800 → (∀ o ∈ os, o.ok m) → (∀ (os' : List Ins) (k' : Int), 0 ≤ k' → k' ≤ k + 8 * items.length → (∀ o ∈ os', o.ok m) → os'.length = os.length + items.length → Q (.list (os'.map Ins.toV)) (Pen σ kp sl k' s)) →
      CompW X (n + 2) sc' ρf "_" (.Call (.Name (Str.ofString "_law_op") p1) [.Name (Str.ofString "pen") p2, .Name (Str.ofString "size") p3] [] p4) Q items (os.map Ins.toV) (Pen σ kp sl k s)
  | [], os, k, h0, hk, ho, h => h os k h0 (by simp) ho (by simp)
  | d :: items, os, k, h0, hk, ho, h => by
    simp only [List.length_cons] at hk h
    show AW X (n + 2) sc' (("_", d) :: ρf) (Pen σ kp sl k s) _ _
    refine callF T.f21 hs (l_cons (Name_ (.there (by decide) h1) (l_cons (Name_ (.there (by decide) h2) (l_nil ?_)))))
    refine op_call T hp h0 (by omega) hm hm' fun o k' hok hk1 hk2 => ?_
    have := compOps (p1 := p1) (p2 := p2) (p3 := p3) (p4 := p4) T hp hm hm' hs h1 h2 items (os ++ [o]) k' (by omega) (by omega) (fun x hx => by
      rcases List.mem_append.mp hx with hx | hx
      · exact ho x hx
      · rw [List.mem_singleton.mp hx]; exact hok) (Q := Q) fun os' k'' a b c d => h os' k'' a (by omega) c (by rw [d]; simp; omega)
    simpa using this

/-- which places are in a list, by a comprehension -/
theorem compIn {sc' : List (Str × NameKind)} {y : String} {p1 p2 p3 : Pos} {d : V} {ns : List Int} (c : LC σ d (ns.map V.int)) (hy : (Str.ofString y == ("__debug__" : Str)) = false) (hy' : (Str.ofString y == ("__classdict__" : Str)) = false) (hne : ("at" == y) = false) (h1 : Lk ρf y d) :
    ∀ (k i : Nat) (acc : List V), Q (.list (acc ++ ((List.range' i k).map fun (j : Nat) => V.bool (decide ((j : Int) ∈ ns))))) σ →
      CompW X n sc' ρf "at" (.Compare (.Name (Str.ofString "at") p1) [.In] [.Name (Str.ofString y) p2] p3) Q ((List.range' i k).map fun j : Nat => V.int (j : Int)) acc σ
  | 0, i, acc, h => by simpa [CompW] using h
  | k + 1, i, acc, h => by
    show AW X n sc' (("at", V.int i) :: ρf) σ _ _
    refine Compare_ (Name_ .here (Name_ (.there hne h1) (Op2.inL c ?_) hy hy')) (by with_unfolding_all rfl)
    rw [anyMem]
    refine compIn c hy hy' hne h1 k (i + 1) _ ?_
    rw [List.range'_succ] at h
    simpa using h
theorem range_range' (k : Nat) (f : Nat → V) : (List.range k).map f = (List.range' 0 k).map f := by rw [List.range_eq_range']
theorem bit_eq1 (a j : Nat) : ((((a >>> j) % 2 : Nat) : Int) == 1) = a.testBit j := by
  rw [← bit_mod]
  rcases Nat.mod_two_eq_zero_or_one (a >>> j) with h | h <;> rw [h] <;> rfl
theorem wTag' (o : Ins) : writesL.any (· == Str.ofString o.tag) = o.w.isSome := by
  have := wTag o
  cases h : writesL.any (· == Str.ofString o.tag) <;> cases h' : o.w.isSome <;> simp_all
theorem retTag (o : Ins) : ((!o.goals.isEmpty) = true ∨ ((Str.ofString o.tag).cps.toList == (Str.ofString "return").cps.toList) = true) ↔ (!o.goals.isEmpty || !o.on) = true := by
  cases o with
  | ret a => simp [Ins.goals, Ins.on, Ins.tag]
  | jump a => simp [Ins.goals]
  | sign => simp [Ins.goals]
  | tru => simp [Ins.goals]
  | fls => simp [Ins.goals]
  | switch a gs => 
    have : ((Str.ofString (Ins.switch a gs).tag).cps.toList == (Str.ofString "return").cps.toList) = false := rfl
    rw [this]; simp [Ins.on]
  | _ => simp [Ins.goals, Ins.on, Ins.tag] <;> decide
theorem spanF_congr {T T' : Nat → Int → Bool} : ∀ (k : Nat), (∀ i, i < k → ∀ r, T i r = T' i r) → ∀ r, spanF T k r = spanF T' k r
  | 0, _, _ => rfl
  | k + 1, h, r => by
    simp only [spanF]
    rw [spanF_congr k (fun i hi => h i (by omega)) r, h k (by omega) r]
theorem begL_len (hok : ∀ (i : Nat) (o : Ins), ops[i]? = some o → o.goals.length ≤ 3) (starts : List Int) : ∀ i, (begL ops starts i).length ≤ starts.length + 4 * i
  | 0 => by simp [begL]
  | i + 1 => by
    have := begL_len hok starts i
    unfold begL
    split
    · rename_i o ho
      have := hok i o ho
      split <;> simp <;> omega
    · omega
end

set_option maxHeartbeats 8000000
section
variable {X : Cfg} {n : Nat} {sc : List (Str × NameKind)} {ρ : Rho} {σ : List O} {Q : V → List O → Prop} {QF : Fl → Rho → List O → Prop} {aS aR : Addr} {c : Nat} {ops : List Ins}
theorem law_D (T : TopOk X aS aR) (hl : ops.length ≤ 50) (hg : Good ops) {starts : List Int} (hst : ∀ g ∈ starts, 0 ≤ g ∧ g < ops.length) (hsl : starts.length ≤ 10) (h : ∀ ρ σ, QF (.ret (.bool true)) ρ σ) :
    AXs X (n + 3) (fsc 28) [("ops", opsV ops), ("size", .int ops.length), ("starts", .list (starts.map V.int))] σ ((fbody 28).drop 11) QF := by
  have hl' : ops.length ≤ 100 := by omega
  refine cons_ ?_
  lcg_off
  refine SubAll_ ?_ (by intro _ _; with_unfolding_all rfl) (by intro _ _; with_unfolding_all rfl)
  repeat lcg_off
  refine ⟨_, rfl, by simp; omega, nrs_ints _, ?_⟩
  repeat lcg_off
  refine ⟨_, fun i R σ' => ∃ k, R = [("ops", opsV ops), ("size", .int ops.length), ("starts", .list (starts.map V.int)), ("begins", .ref k)] ∧ σ'[k]? = some (.list ((begL ops starts i).map V.int)),
    It.up (by omega), ⟨[("ops", opsV ops), ("size", .int ops.length), ("starts", .list (starts.map V.int)), ("begins", .ref σ.length)], ?_, σ.length, rfl, sgLast⟩, ?_, ?_⟩
  · kwd_less
  · rintro i d R σ' hi ⟨k, rfl, hk⟩
    obtain ⟨hil, rfl⟩ := range_at hi
    obtain ⟨o, ho⟩ : ∃ o, ops[i]? = some o := ⟨ops[i], List.getElem?_eq_getElem hil⟩
    obtain ⟨ok, hsu⟩ := hg i o ho
    have hfew := ok.few
    have hbl := begL_len (ops := ops) (fun i o ho => (hg i o ho).1.few) starts i
    have hbe : begL ops starts (i + 1) = begL ops starts i ++ o.goals ++ (if !o.goals.isEmpty || !o.on then [(i : Int) + 1] else []) := by simp [begL, ho]
    repeat lcg_off
    refine lgoals_call T o ?_
    refine Op2.catM (.mu hk) .im (by simp; omega) (nrs_ints _) (nrs_ints _) ?_
    rw [← List.map_append]
    have hk2 : (σ' ++ [O.list ((begL ops starts i ++ o.goals).map V.int)])[σ'.length]? = some (.list ((begL ops starts i ++ o.goals).map V.int)) := sgLast
    generalize σ' ++ [O.list ((begL ops starts i ++ o.goals).map V.int)] = σ2 at hk2
    generalize σ'.length = k2 at hk2
    repeat lcg_off
    refine lgoals_call T o ?_
    have hml : ((begL ops starts i ++ o.goals).map V.int).length ≤ 1000 := by simp; omega
    have fin : ∀ ρ' σ3 bs, σ3[k2]? = some (O.list (bs.map V.int)) → bs = begL ops starts (i + 1) → Sup ρ' [("ops", opsV ops), ("size", .int ops.length), ("starts", .list (starts.map V.int)), ("begins", .ref k2)] →
        Jx (fun i R σ' => ∃ k, R = [("ops", opsV ops), ("size", .int ops.length), ("starts", .list (starts.map V.int)), ("begins", .ref k)] ∧ σ'[k]? = some (.list ((begL ops starts i).map V.int))) (i + 1) ρ' σ3 := fun ρ' σ3 bs h1 h2 h3 =>
      ⟨_, h3, k2, rfl, h2 ▸ h1⟩
    refine Tr.list (by simp; omega) ?_
    have rt := retTag o
    refine ⟨fun e => ?_, fun e => ?_⟩
    · have e1 : (!o.goals.isEmpty) = true := by simpa using e
      have e2 : (!o.goals.isEmpty || !o.on) = true := by rw [e1]; rfl
      rw [e2, if_pos rfl] at hbe
      repeat lcg_off
      refine fin _ _ (begL ops starts i ++ o.goals ++ [(i : Int) + 1]) ?_ hbe.symm (by kwd_less)
      rw [List.map_append (l₁ := begL ops starts i ++ o.goals)]
      exact sgSet hk2
    · have e1 : (!o.goals.isEmpty) = false := by simpa using e
      repeat lcg_off
      refine ⟨fun e' => ?_, fun e' => ?_⟩
      · have e2 : (!o.goals.isEmpty || !o.on) = true := rt.mp (.inr e')
        rw [e2, if_pos rfl] at hbe
        repeat lcg_off
        refine fin _ _ (begL ops starts i ++ o.goals ++ [(i : Int) + 1]) ?_ hbe.symm (by kwd_less)
        rw [List.map_append (l₁ := begL ops starts i ++ o.goals)]
        exact sgSet hk2
      · have e2 : (!o.goals.isEmpty || !o.on) = false := by
          apply Bool.eq_false_iff.mpr
          intro q
          rcases rt.mpr q with q | q
          · rw [e1] at q; cases q
          · rw [e'] at q; cases q
        rw [e2, if_neg (by simp), List.append_nil] at hbe
        repeat lcg_off
        exact fin _ _ _ hk2 hbe.symm (by kwd_less)
  · rintro R σ' ⟨k, rfl, hk⟩
    rw [List.length_map, List.length_range] at hk
    repeat lcg_off
    refine begins_call T hl (fun i o ho => (hg i o ho).1) hst ?_
    refine ListComp_ (ρf := [("begins", .ref k)]) ⟨rfl, by decide, by decide, rfl, ?_, ?_⟩ ?_ (by intro _ _; rfl)
    · intro y hy
      simp at hy
      subst hy
      exact ⟨rfl, "begins", _, rfl, by tb_rel⟩
    · intro y d l
      cases l with
      | here => exact ⟨by tb_rel, rfl⟩
      | there _ l => exact nomatch l
    repeat lcg_off
    refine ⟨_, ItC.up (k := ops.length + 1) (by omega), ?_⟩
    rw [range_range']
    refine compIn (.mu hk) (by decide) (by decide) (by decide) .here _ _ _ ?_
    rw [List.nil_append, ← range_range' _ (fun j => V.bool (decide ((j : Int) ∈ begL ops starts ops.length)))]
    have em : (List.range (ops.length + 1)).map (fun (j : Nat) => V.bool (decide ((j : Int) ∈ begL ops starts ops.length))) = (markN (ops.length + 1) (begL ops starts ops.length)).map V.bool := by
      rw [markN, List.map_map]; rfl
    rw [em]
    refine Op2.eqBs .im .im ?_
    rw [decide_eq_true rfl]
    repeat lcg_off
    exact h _ _
end

set_option maxHeartbeats 8000000
section
variable {X : Cfg} {n : Nat} {sc : List (Str × NameKind)} {ρ : Rho} {σ : List O} {Q : V → List O → Prop} {QF : Fl → Rho → List O → Prop} {aS aR : Addr} {c : Nat} {ops : List Ins}
theorem Good.hok (hg : Good ops) : ∀ i o, ops[i]? = some o → o.ok ops.length ∧ ∀ g ∈ succs o i, 0 ≤ g ∧ g < ops.length + 1 := fun i o ho =>
  ⟨(hg i o ho).1, fun g h => by have := (hg i o ho).2 g h; omega⟩
theorem touched_eq (hg : Good ops) {live live' : List Nat} (h : LP ops live) (hf : ∀ i o, ops[i]? = some o → newMask o i live = live.getD i 0) (h' : LP ops live') (hf' : ∀ i o, ops[i]? = some o → newMask o i live' = live'.getD i 0) (i : Nat) (hi : i < ops.length) (r : Int) : touched ops live i r = touched ops live' i r := by
  have e : (live.getD i 0).testBit r.toNat = (live'.getD i 0).testBit r.toNat := by
    rw [Bool.eq_iff_iff, h.iff hg hf hi, h'.iff hg hf' hi]
  unfold touched
  rw [e]
theorem searchL (T : TopOk X aS aR) (hl : ops.length ≤ 50) (hg : Good ops) {s r : Int} (hs : 0 ≤ s ∧ s < ops.length) (h : ∀ b seen, SR ops r s b seen → Q (.tup [.bool b, .list (seen.map V.int)]) σ) :
    ∀ f, Code X "_law_sought" ["ops", "start", "register"] (fsc 27) (fbody 27) f → OpC X (n + 3) σ (.ref f) [opsV ops, .int s, .int r] Q :=
  sought_call T hl (fun i o ho => (hg i o ho).1) (I := SI ops r s) (R := SR ops r s) (SI.start' hs) (fun seen line h => ⟨h.inL, h.len⟩) (fun _ _ _ h ha => h.skip ha) (fun _ _ _ _ h _ ho hr => h.yes ho hr) (fun _ _ _ _ h hn ho hr hw => h.ext hg hn ho hr hw)
    (fun _ _ _ _ h hn ho hr hw => h.stop hn ho hr hw) (fun _ h => h) h

theorem law_C (T : TopOk X aS aR) (hl : ops.length ≤ 50) (hg : Good ops) {s₁ : Int} (h0 : 0 < ops.length) (hs₁ : 0 ≤ s₁ ∧ s₁ < ops.length) {live : List Nat} {m : Dm} {k : Nat} (hk : σ[k]? = some (.dict (dInts m))) (hP : LP ops live) (hf : ∀ i o, ops[i]? = some o → newMask o i live = live.getD i 0)
    (hnd : (m.map (·.1)).Nodup) (hsp : ∀ r, mget m r = spanF (touched ops live) ops.length r) (h : ∀ ρ σ, QF (.ret (.bool true)) ρ σ) :
    AXs X (n + 5) (fsc 28) [("ops", opsV ops), ("size", .int ops.length), ("starts", .list ([0, s₁].map V.int)), ("spans", .ref k)] σ ((fbody 28).drop 8) QF := by
  have hl' : ops.length ≤ 100 := by omega
  refine cons_ ?_
  repeat lcg_off
  refine ranges_call T hl hg.hok (P := LP ops) (ms := msL) LP.start (fun _ h => h.len) (fun _ h => h.small) (fun _ _ _ ho h hne => h.step hg ho hne) fun live' m' hP' hf' hnd' hsp' => ?_
  repeat lcg_off
  refine Op2.neD .im (.mu hk) ?_
  have he : (m'.length == m.length && dSame m' m) = true := same_dicts hnd' hnd fun r => by
    rw [hsp, hsp']
    exact spanF_congr _ (fun i hi r => touched_eq hg hP' hf' hP hf i hi r) r
  rw [he]
  repeat lcg_off
  refine searchL T hl hg (by omega) fun b seen hR => ?_
  lcg_off
  refine Op2.itemT (by decide) (by decide) (by rfl) ?_ (by intro _ _ _; with_unfolding_all rfl)
  repeat lcg_off
  refine searchL T hl hg hs₁ fun b' seen' hR' => ?_
  lcg_off
  refine Op2.itemT (by decide) (by decide) (by rfl) ?_ (by intro _ _ _; with_unfolding_all rfl)
  have len : ∀ {s b seen}, SR ops (-1) s b seen → seen.length ≤ ops.length := fun {s b seen} h => by
    cases b with
    | true => exact absurd h (noLive hg)
    | false => exact SI.len h
  have l1 := len hR
  have l2 := len hR'
  refine Op2.catF .im .im (by simp; omega) (nrs_ints _) (nrs_ints _) ?_
  rw [← List.map_append]
  have hcome : ∀ g, g ∈ seen ++ seen' ↔ Rs ops [0, s₁] g := fun g => by
    rw [List.mem_append, hR.all hg, hR'.all hg]
    simp [Rs]
  have hst : ∀ s ∈ [0, s₁], 0 ≤ s ∧ s < ops.length := by simp; omega
  generalize hcm : seen ++ seen' = come at hcome
  repeat lcg_off
  refine reached_call T hl (fun i o ho => (hg i o ho).1) (starts := [0, s₁]) (by simp) (I := RI ops [0, s₁]) (RI.start' hst) (fun marks line h => ⟨h.inL, h.len⟩) (fun _ _ _ h hi => h.skip hi) (fun _ _ _ _ h hi ho => h.ext hg hi ho) fun marks hM => ?_
  have hmk := hM.fin hg hst hcome
  refine ListComp_ (ρf := [("come", .list (come.map V.int))]) ⟨rfl, by decide, by decide, rfl, ?_, ?_⟩ ?_ (by intro _ _; rfl)
  · intro y hy
    simp at hy
    subst hy
    exact ⟨rfl, "come", _, rfl, by tb_rel⟩
  · intro y d l
    cases l with
    | here => exact ⟨by tb_rel, rfl⟩
    | there _ l => exact nomatch l
  repeat lcg_off
  refine ⟨_, ItC.up (k := ops.length) (by omega), ?_⟩
  rw [range_range']
  refine compIn .im (by decide) (by decide) (by decide) .here _ _ _ ?_
  rw [List.nil_append, ← range_range' _ (fun j => V.bool (decide ((j : Int) ∈ come)))]
  have em : (List.range ops.length).map (fun (j : Nat) => V.bool (decide ((j : Int) ∈ come))) = (markN ops.length come).map V.bool := by
    rw [markN, List.map_map]; rfl
  rw [em]
  refine Op2.neBs .im .im ?_
  rw [decide_eq_true hmk]
  repeat ((fail_if_success (with_reducible show AXs _ _ _ _ _ (Stmt.Assign _ _ _ :: _) _)); lcg_off)
  refine AWs.weak (law_D T hl hg hst (by simp) h) ?_
  kwd_less
end

section
variable {X : Cfg} {n : Nat} {sc : List (Str × NameKind)} {ρ : Rho} {σ : List O} {Q : V → List O → Prop} {QF : Fl → Rho → List O → Prop} {aS aR : Addr} {c : Nat} {ops : List Ins}
/-- the first place of a range so far, by get with a default -/
theorem getSpan {a : V} {m : Dm} {r i : Int} (hc : DC σ a (dInts m)) (h : Q (pairV ((mget m r).getD (i, i))) σ) : OpC X n σ (.builtin "dict.get") [a, .int r, .tup [.int i, .int i]] Q :=
  .get2 hc (by
    have e : (dval (dInts m) r).getD (.tup [.int i, .int i]) = pairV ((mget m r).getD (i, i)) := by
      rw [dval_dInts]
      cases mget m r <;> rfl
    rw [e]; exact h)
theorem wid_eq (m : Dm) (r i : Int) : mput m r (((mget m r).getD (i, i)).1, i) = wid m r i := by
  unfold wid
  cases mget m r <;> rfl
end

set_option maxHeartbeats 8000000
section
variable {X : Cfg} {n : Nat} {sc : List (Str × NameKind)} {ρ : Rho} {σ : List O} {Q : V → List O → Prop} {QF : Fl → Rho → List O → Prop} {aS aR : Addr} {c : Nat} {ops : List Ins}
theorem law_B (T : TopOk X aS aR) (hl : ops.length ≤ 50) (hg : Good ops) {s₁ : Int} (h0 : 0 < ops.length) (hs₁ : 0 ≤ s₁ ∧ s₁ < ops.length) {live : List Nat} {p : O} (hP : LP ops live) (hf : ∀ i o, ops[i]? = some o → newMask o i live = live.getD i 0)
    (h : ∀ ρ σ, QF (.ret (.bool true)) ρ σ) :
    AXs X (n + 5) (fsc 28) [("ops", opsV ops), ("size", .int ops.length), ("starts", .list ([0, s₁].map V.int)), ("live", .list (live.map natV))] [p] ((fbody 28).drop 6) QF := by
  have hl' : ops.length ≤ 100 := by omega
  have hlen := hP.len
  refine cons_ ?_
  lcg_off
  refine dict0Mk (k := 1) (σ' := [p, .dict (dInts [])]) rfl rfl ?_
  repeat lcg_off
  refine ⟨_, fun i R σ' => ∃ m, R = [("ops", opsV ops), ("size", .int ops.length), ("starts", .list ([0, s₁].map V.int)), ("live", .list (live.map natV)), ("spans", .ref 1)] ∧ σ' = [p, .dict (dInts m)] ∧ (m.map (·.1)).Nodup ∧ m.length ≤ 8 * i ∧ ∀ r, mget m r = spanF (touched ops live) i r,
    It.up (by omega), ⟨_, ?_, [], rfl, rfl, by simp, by simp, fun _ => rfl⟩, ?_, ?_⟩
  · kwd_less
  · rintro i d R σ' hi ⟨m, rfl, rfl, hnd, hml, hsp⟩
    obtain ⟨hil, rfl⟩ := range_at hi
    obtain ⟨o, ho⟩ : ∃ o, ops[i]? = some o := ⟨ops[i], List.getElem?_eq_getElem hil⟩
    obtain ⟨ok, hsu⟩ := hg i o ho
    have hrl := o.readsLen
    have h8 := hP.small i
    have hto : ∀ r, touched ops live i r = ((o.reads ++ o.w.toList).contains r || (decide (0 ≤ r) && (live.getD i 0).testBit r.toNat)) := fun r => by simp [touched, ho]
    repeat mem_news
    refine lread_call T o ?_
    repeat mem_news
    refine join [("ops", opsV ops), ("size", .int ops.length), ("starts", .list ([0, s₁].map V.int)), ("live", .list (live.map natV)), ("spans", .ref 1), ("at", .int i), ("here", .list ((o.reads ++ o.w.toList).map V.int))] [p, .dict (dInts m)] ?_ ?_
    · repeat lcg_off
      refine Op2.inT rfl ?_
      rw [wTag']
      cases hw : o.w with
      | none =>
        simp only [Option.toList_none, List.append_nil]
        repeat lcg_off
        one_item
      | some a =>
        simp only [Option.toList_some]
        repeat lcg_off
        refine itemP o (by decide) (wPart o hw) ?_ (by intro _ _ _; with_unfolding_all rfl)
        repeat lcg_off
        refine Op2.catF .im .im (by simp; omega) (nrs_ints _) rfl ?_
        rw [show List.map V.int o.reads ++ [V.int a] = (o.reads ++ [a]).map V.int by simp]
        repeat lcg_off
        one_item
    · have hhr : ∀ r ∈ o.reads ++ o.w.toList, 0 ≤ r ∧ r < 8 := fun r hr => by
        rcases List.mem_append.mp hr with hr | hr
        · exact ok.rd r hr
        · exact ok.wr r (by simpa using hr)
      generalize hhs : o.reads ++ o.w.toList = hs at *
      generalize hlv : live.getD i 0 = lv at *
      repeat lcg_off
      refine ⟨_, fun q R σ' => ∃ m', R = [("ops", opsV ops), ("size", .int ops.length), ("starts", .list ([0, s₁].map V.int)), ("live", .list (live.map natV)), ("spans", .ref 1), ("at", .int i), ("here", .list (hs.map V.int))] ∧ σ' = [p, .dict (dInts m')] ∧ (m'.map (·.1)).Nodup ∧ m'.length ≤ 8 * i + q ∧ Wd (spanF (touched ops live) i) (fun r => decide (0 ≤ r ∧ r < (q : Int)) && touched ops live i r) i m',
        It.up (k := 8) (by omega), ⟨_, Sup.refl, m, rfl, rfl, hnd, by omega, fun r => ?_⟩, ?_, ?_⟩
      · have hz : decide (0 ≤ r ∧ r < ((0 : Nat) : Int)) = false := by simp
        show mget m r = if (decide (0 ≤ r ∧ r < ((0 : Nat) : Int)) && touched ops live i r) = true then _ else _
        rw [hsp r, hz]
        simp
      · rintro q d R σ' hq ⟨m', rfl, rfl, hnd', hml', hW⟩
        obtain ⟨hq8, rfl⟩ := range_at hq
        repeat lcg_off
        refine searchL T hl hg (by omega) fun b seen hR => ?_
        have hb : b = lv.testBit q := by
          rw [Bool.eq_iff_iff, hR.iff, ← hlv, hP.iff hg hf hil]
        subst hb
        repeat lcg_off
        refine shrN (by omega) ?_
        rw [hlv, Int.toNat_natCast]
        repeat lcg_off
        rw [bit_eq1]
        refine AndK.f (by simp) ?_
        repeat lcg_off
        refine shrN (by omega) ?_
        rw [hlv]
        have e8 : lv >>> Int.toNat 8 = 0 := by
          show lv >>> 8 = 0
          rw [Nat.shiftRight_eq_div_pow]
          exact Nat.div_eq_of_lt (by simpa using h8)
        rw [e8]
        repeat mem_news
        refine join [("ops", opsV ops), ("size", .int ops.length), ("starts", .list ([0, s₁].map V.int)), ("live", .list (live.map natV)), ("spans", .ref 1), ("at", .int i), ("here", .list (hs.map V.int))] [p, .dict (dInts (if touched ops live i q then wid m' q i else m'))] ?_ ?_
        · have htq : touched ops live i q = (lv.testBit q || decide ((q : Int) ∈ hs)) := by rw [hto q]; simp [Bool.or_comm]
          rw [htq]
          cases hb : lv.testBit q with
          | true =>
            repeat lcg_off
            refine Method_ (T := "dict") (id := "dict.get") PySem.F.plainAttrs_dict PySem.F.slot_dict_get rfl ?_
            repeat mem_news
            refine ⟨.dict (.mu rfl), ?_⟩
            repeat lcg_off
            refine getSpan (m := m') (.mu rfl) ?_
            lcg_off
            refine Op2.itemT (by decide) (by decide) (by rfl) ?_ (by intro _ _ _; with_unfolding_all rfl)
            repeat lcg_off
            refine Op3.setD (k := 1) rfl ?_ rfl ?_
            · simp [dInts]; omega
            show AXs _ _ _ _ [p, .dict (dput (dInts m') q (pairV (((mget m' q).getD ((i : Int), (i : Int))).1, (i : Int))))] _ _
            rw [dput_dInts, wid_eq]
            repeat lcg_off
            one_item
          | false =>
            repeat lcg_off
            refine Op2.inL (ns := hs) .im ?_
            rw [anyMem]
            by_cases hm : (q : Int) ∈ hs
            · rw [decide_eq_true hm]
              repeat lcg_off
              refine Method_ (T := "dict") (id := "dict.get") PySem.F.plainAttrs_dict PySem.F.slot_dict_get rfl ?_
              repeat mem_news
              refine ⟨.dict (.mu rfl), ?_⟩
              repeat lcg_off
              refine getSpan (m := m') (.mu rfl) ?_
              lcg_off
              refine Op2.itemT (by decide) (by decide) (by rfl) ?_ (by intro _ _ _; with_unfolding_all rfl)
              repeat lcg_off
              refine Op3.setD (k := 1) rfl ?_ rfl ?_
              · simp [dInts]; omega
              show AXs _ _ _ _ [p, .dict (dput (dInts m') q (pairV (((mget m' q).getD ((i : Int), (i : Int))).1, (i : Int))))] _ _
              rw [dput_dInts, wid_eq]
              repeat lcg_off
              one_item
            · rw [decide_eq_false hm]
              repeat lcg_off
              one_item
        · repeat lcg_off
          refine ⟨[("ops", opsV ops), ("size", .int ops.length), ("starts", .list ([0, s₁].map V.int)), ("live", .list (live.map natV)), ("spans", .ref 1), ("at", .int i), ("here", .list (hs.map V.int))], ?_, _, rfl, rfl, ?_, ?_, ?_⟩
          · kwd_less
          · split
            · exact mput_keys _ _ _ hnd'
            · exact hnd'
          · split
            · have := mput_len m' q ((((mget m' q).map (·.1)).getD i, i))
              show (mput _ _ _).length ≤ _
              omega
            · omega
          · have key : ∀ r : Int, (decide (0 ≤ r ∧ r < ((q + 1 : Nat) : Int)) && touched ops live i r) = ((decide (0 ≤ r ∧ r < (q : Int)) && touched ops live i r) || (r == (q : Int) && touched ops live i q)) := fun r => by
              by_cases hr : r = (q : Int)
              · subst hr
                have h1 : (0 : Int) ≤ q ∧ (q : Int) < ((q + 1 : Nat) : Int) := by omega
                rw [decide_eq_true h1, show decide (0 ≤ (q : Int) ∧ (q : Int) < (q : Int)) = false by simp]
                simp
              · have h1 : (0 ≤ r ∧ r < ((q + 1 : Nat) : Int)) ↔ (0 ≤ r ∧ r < (q : Int)) := by omega
                have hd : decide (0 ≤ r ∧ r < ((q + 1 : Nat) : Int)) = decide (0 ≤ r ∧ r < (q : Int)) := decide_eq_decide.mpr h1
                rw [hd, beq_eq_false_iff_ne.mpr hr]
                simp
            split
            · rename_i hb
              refine (hW.wid q).congr fun r => ?_
              rw [key, hb, Bool.and_true, Bool.or_comm]
            · rename_i hb
              have hb' : touched ops live i q = false := by simpa using hb
              refine hW.congr fun r => ?_
              rw [key, hb', Bool.and_false, Bool.or_false]
      · rintro R σ' ⟨m', rfl, rfl, hnd', hml', hW⟩
        rw [List.length_map, List.length_range] at hml' hW
        repeat lcg_off
        refine ⟨[("ops", opsV ops), ("size", .int ops.length), ("starts", .list ([0, s₁].map V.int)), ("live", .list (live.map natV)), ("spans", .ref 1)], ?_, m', rfl, rfl, hnd', by omega, fun r => ?_⟩
        · kwd_less
        · have hr' : mget m' r = if (decide (0 ≤ r ∧ r < ((8 : Nat) : Int)) && touched ops live i r) = true then some (((spanF (touched ops live) i r).map (·.1)).getD (i : Int), (i : Int)) else spanF (touched ops live) i r := hW r
          rw [hr']
          have es : (decide (0 ≤ r ∧ r < ((8 : Nat) : Int)) && touched ops live i r) = touched ops live i r := by
            by_cases hr : 0 ≤ r ∧ r < ((8 : Nat) : Int)
            · rw [decide_eq_true hr, Bool.true_and]
            · rw [decide_eq_false hr, Bool.false_and, hto r]
              have h1 : hs.contains r = false := by
                cases hc : hs.contains r with
                | false => rfl
                | true =>
                  have := hhr r (by simpa using hc)
                  omega
              rw [h1, Bool.false_or]
              by_cases hr0 : 0 ≤ r
              · have hbit : lv.testBit r.toNat = false := by
                  apply Nat.testBit_lt_two_pow
                  have : 8 ≤ r.toNat := by omega
                  exact Nat.lt_of_lt_of_le h8 (Nat.pow_le_pow_right (n := 2) (by decide) this)
                rw [hbit, Bool.and_false]
              · rw [decide_eq_false hr0, Bool.false_and]
          rw [es]
          rfl
  · rintro R σ' ⟨m, rfl, rfl, hnd, hml, hsp⟩
    rw [List.length_map, List.length_range] at hsp
    refine AWs.weak (law_C T hl hg h0 hs₁ (k := 1) rfl hP hf hnd hsp h) ?_
    kwd_less
end

section
variable {X : Cfg} {n : Nat} {sc : List (Str × NameKind)} {ρ : Rho} {σ : List O} {Q : V → List O → Prop} {QF : Fl → Rho → List O → Prop} {aS aR : Addr} {c : Nat} {ops : List Ins}
theorem good_drawn {os : List Ins} {size : Int} (ho : ∀ o ∈ os, o.ok size) (hsz : (os.length : Int) + 1 = size) : Good (os ++ [Ins.ret 0]) := fun i o h => by
  obtain ⟨hi, e⟩ := List.getElem?_eq_some_iff.mp h
  have hl : ((os ++ [Ins.ret 0]).length : Int) = size := by simp; omega
  simp only [List.length_append, List.length_singleton] at hi
  rw [hl]
  by_cases hc : i < os.length
  · rw [List.getElem_append_left hc] at e
    have ok := ho o (e ▸ List.getElem_mem hc)
    refine ⟨ok, fun g hg => ?_⟩
    unfold succs at hg
    rcases List.mem_append.mp hg with hg | hg
    · exact ok.go g hg
    · split at hg
      · have := List.mem_singleton.mp hg
        omega
      · exact nomatch hg
  · have hc' : i = os.length := by omega
    subst hc'
    have e' : o = Ins.ret 0 := by simpa using e.symm
    subst e'
    refine ⟨⟨by simp [Ins.reads], by simp [Ins.w], by simp [Ins.goals], by simp [Ins.goals]⟩, fun g hg => ?_⟩
    simp [succs, Ins.goals, Ins.on] at hg
end

set_option maxHeartbeats 8000000
section
variable {X : Cfg} {n : Nat} {sc : List (Str × NameKind)} {ρ : Rho} {σ : List O} {Q : V → List O → Prop} {QF : Fl → Rho → List O → Prop} {aS aR : Addr} {c : Nat} {ops : List Ins}
theorem law_A (T : TopOk X aS aR) {l : Nat} {vs : List Value} {ns : List Int} (hl : X.Hb.IsList l vs.toArray) (hi : IntsAre vs ns) (hn : ns.length ≤ 63)
    (h : ∀ ρ σ, QF (.ret (.bool true)) ρ σ) :
    AXs X (n + 6) (fsc 28) [("script", .addr l)] [] (fbody 28) QF := by
  refine cons_ ?_
  lcg_off
  refine dispMk ?_
  lcg_off
  refine SubSliceG_ hl hi (by omega) ?_
  repeat lcg_off
  refine ⟨60, rfl, rfl, by decide, ?_⟩
  repeat lcg_off
  refine callB (T := T) (v := .builtin "abs") (by simp) rfl (by decide) (.inl ⟨_, rfl⟩) rfl ?_ (by intro _; rfl) (by intro _; rfl) (by decide)
  lcg_off
  refine callB (T := T) (v := .builtin "sum") (by simp) rfl (by decide) (.inl ⟨_, rfl⟩) rfl ?_ (by intro _; rfl) (by intro _; rfl) (by decide)
  lcg_off
  refine SubSliceG_ hl hi (by omega) ?_
  repeat lcg_off
  refine ⟨60, rfl, rfl, by decide, ?_⟩
  repeat lcg_off
  have hsl : (ns.take (Int.toNat 60)).length ≤ 60 := by
    rw [List.length_take]; exact Nat.min_le_left _ _
  generalize ns.take (Int.toNat 60) = sl at hsl
  refine OpC.sum .im ?_
  repeat lcg_off
  refine OpC.abs ?_
  repeat lcg_off
  have hs5 : 0 ≤ (if sl.sum < 0 then -sl.sum else sl.sum).fmod 5 ∧ (if sl.sum < 0 then -sl.sum else sl.sum).fmod 5 < 5 := fmod_range (by decide)
  generalize (if sl.sum < 0 then -sl.sum else sl.sum).fmod 5 = s at hs5
  refine ⟨0, Pen [.list []] 0 sl 0 s, by simp, by simp [V.nrs, V.nr, nrs_ints], rfl, rfl, ?_⟩
  have hp : PenOk [.list []] 0 sl s := ⟨by simp, hs5.1, hs5.2, hsl⟩
  repeat lcg_off
  refine draw_call' T hp (by omega) (by omega) (by omega) (by omega) fun r r0 r1 => ?_
  repeat lcg_off
  generalize hm : 4 + r = m
  have hm1 : 4 ≤ m := by omega
  have hm2 : m ≤ 10 := by omega
  clear hm
  refine ListComp_ (ρf := [("pen", .ref 0), ("size", .int m)]) ⟨rfl, by decide, by decide, rfl, ?_, ?_⟩ ?_ (by intro _ _; rfl)
  · intro y hy
    simp at hy
    rcases hy with rfl | rfl
    · exact ⟨rfl, "pen", _, rfl, by tb_rel⟩
    · exact ⟨rfl, "size", _, rfl, by tb_rel⟩
  · intro y d l
    cases l with
    | here => exact ⟨by tb_rel, rfl⟩
    | there _ l => cases l with
      | here => exact ⟨by tb_rel, rfl⟩
      | there _ l => exact nomatch l
  repeat lcg_off
  refine ⟨_, ItC.up' (b := m - 1) (by omega) (by omega), ?_⟩
  refine compOps T hp (by omega) (by omega) rfl .here (.there (by decide) .here) _ [] _ (by omega) (by simp; omega) (by simp) fun os k' k0 k1 hok hlen => ?_
  repeat lcg_off
  simp only [List.length_map, List.length_range, List.length_nil, Nat.zero_add] at k1 hlen
  have hsz : (os.length : Int) + 1 = m := by omega
  have hg := good_drawn hok hsz
  refine Op2.catF .im .im (by simp; omega) (nrs_toV os) rfl ?_
  have e : V.list (os.map Ins.toV ++ [V.tup [V.str (Str.ofString "return"), V.int 0]]) = opsV (os ++ [Ins.ret 0]) := by simp [opsV]; rfl
  rw [e]
  have hlm : m = ((os ++ [Ins.ret 0]).length : Int) := by simp; omega
  clear e hok hlen hsz
  generalize os ++ [Ins.ret 0] = ops at hg hlm
  subst hlm
  repeat lcg_off
  refine draw_call' T hp (by omega) (by omega) (by omega) (by omega) fun s₁ s₁0 s₁1 => ?_
  repeat lcg_off
  refine live_call T (by omega) hg.hok (P := LP ops) (ms := msL) LP.start (fun _ h => h.len) (fun _ _ _ ho h hne => h.step hg ho hne) fun live hP hf => ?_
  repeat lcg_off
  have hlv := hP.len
  refine OpC.len .im (by simp; omega) ?_
  rw [List.length_map, hlv]
  repeat lcg_off
  rw [hP.last]
  refine AndK.f rfl ?_
  repeat ((fail_if_success (with_reducible show AXs _ _ _ _ _ (Stmt.Assign _ _ _ :: _) _)); lcg_off)
  rw [show V.list [V.int 0, V.int s₁] = V.list ([0, s₁].map V.int) from rfl]
  refine AWs.weak (law_B T (by omega) hg (by omega) ⟨s₁0, s₁1⟩ hP hf h) ?_
  kwd_less
end

set_option maxRecDepth 100000
set_option maxHeartbeats 8000000
theorem join_law {X : Cfg} {aS aR : Addr} (T : TopOk X aS aR) {l : Nat} {vs : List Value} {ns : List Int} (hl : X.Hb.IsList l vs.toArray) (hi : IntsAre vs ns) (hn : ns.length ≤ 63)
    {name : Str} {scope : Scope} {f L : Addr} {cdv : Value} {h₁ : Heap} {cells : Led} {tk : Nat} {s : Shared} {body : List Stmt} {binds : List (Str × Value)} {Qc : Flow → Shared → Prop} {Ec : Value → Shared → Prop}
    (hb : body = fbody 28) (hbi : binds = [(Str.ofString "script", .ref l)]) (hs : scope.names = fsc 28) (hk : scope.kind = .function) (hlow : sysModules < X.Hb.objs.size)
    (F : Fr X.Hb L h₁ (bindL (envOfC name scope L f cdv).kindOf binds fun _ => none)) (N : News X.Hb L h₁ cells)
    (Y : CellsAre (bindC (envOfC name scope L f cdv).kindOf binds fun _ => none) (cellsFrom (L + 1) scope.names []) cells)
    (B : Below callerA X.Hb [] X.Hb)
    (fin : ∀ h' tk' m', Fr X.Hb L h' m' → Qc (.ret (.bool true)) { s with heap := h', toks := tk' }) :
    wpAny (model X.prog X.w) (callerA.deeper (envOfC name scope L f cdv)) (execs body (envOfC name scope L f cdv)) Qc Ec { s with heap := h₁, toks := tk } := by
  subst hb; subst hbi
  have W := law_A (n := 0) T hl hi hn (QF := fun g _ _ => g = .ret (.bool true)) (fun _ _ => rfl)
  have Fx' : Fx X 6 (callerA.deeper (envOfC name scope L f cdv)) (envOfC name scope L f cdv) X.Hb L (fsc 28) := by
    refine ⟨rfl, ⟨_, [], callerA, X.Hb, Around.frames_deeper rfl, rfl, hk, B⟩, hk, hs, rfl, rfl, rfl, ?_, ?_, fun b o e => e, hlow⟩
    · rw [deeper_depth]; show 1 + claimMargin + 1 + 6 < 400; decide
    · rw [deeper_units]; show 4 + 3 + 4 * 6 < 400; decide
  have nd : (adr (cells ++ [])).Nodup := (cells_nodup Y (news := []) (fun p hp => (nomatch hp)) (by simp)).1
  have S : Sim X X.Hb L (bindL (envOfC name scope L f cdv).kindOf [(Str.ofString "script", .ref l)] fun _ => none) [] cells [] [] [] h₁ :=
    ⟨F, by simpa using N, by simpa using nd, fun p hp q hq => (nomatch hq), .nil⟩
  have R : LR X (envOfC name scope L f cdv) L (bindL (envOfC name scope L f cdv).kindOf [(Str.ofString "script", .ref l)] fun _ => none) [] cells [] [] [("script", .addr l)] := fun y d lk => by
    cases lk with
    | here =>
      have kl : (envOfC name scope L f cdv).kindOf (Str.ofString "script") = some .local := by
        show scope.names.lookup _ = _
        rw [hs]; rfl
      exact ⟨.ref l, .addr l, .loc kl rfl (bindL_at kl (by simp) (.head _))⟩
    | there _ k => exact nomatch k
  refine W (callerA.deeper (envOfC name scope L f cdv)) (envOfC name scope L f cdv) X.Hb L _ [] cells [] [] { s with heap := h₁, toks := tk } Qc Ec Fx' rfl (cells_start Y) S R ?_
  intro fl g ρ' σ' m' os' cs' im' h' tk' hq P R' f'
  subst hq
  cases f' with
  | ret hv =>
    cases hv
    exact fin _ _ _ P.sim.F

set_option maxRecDepth 100000
set_option maxHeartbeats 8000000
/-- all of a heap, as a written part -/
def ofHeap (h : Heap) : Frag := (List.range h.objs.size).filterMap fun a => (h.get? a).map fun o => (a, o)
theorem lookup_fm (g : Addr → Option Obj) (a : Addr) : ∀ l : List Addr, (l.filterMap fun b => (g b).map fun o => (b, o)).lookup a = if a ∈ l then g a else none
  | [] => by simp
  | b :: l => by
    rw [List.filterMap_cons]
    by_cases e : a = b
    · subst e
      cases hg : g a with
      | none => simp only [Option.map_none, lookup_fm g a l, hg]; simp
      | some o => simp
    · have hm : (a ∈ b :: l) ↔ a ∈ l := by simp [e]
      cases hg : g b with
      | none => simp only [Option.map_none, lookup_fm g a l, hm]
      | some o =>
        simp only [Option.map_some, List.lookup_cons, beq_eq_false_iff_ne.mpr e, lookup_fm g a l, hm]
theorem lookup_of (h : Heap) (a : Addr) : (ofHeap h).lookup a = h.get? a := by
  unfold ofHeap
  rw [lookup_fm]
  split
  · rfl
  · rename_i hn
    cases hg : h.get? a with
    | none => rfl
    | some o => exact absurd (List.mem_range.mpr (Heap.lt_size hg)) hn
theorem inOf (h : Heap) : (ofHeap h).In h := fun a o e => (lookup_of h a).symm.trans e
theorem lookup_up {K : Frag} {h : Heap} (KX : K.In h) {a : Addr} {o : Obj} (e : K.lookup a = some o) : (ofHeap h).lookup a = some o := (lookup_of h a).trans (KX _ _ e)
theorem nsIn_up {K : Frag} {h : Heap} (KX : K.In h) {a : Addr} {x : Str} {r : Option Value} (e : nsIn K a x = some r) : nsIn (ofHeap h) a x = some r := by
  unfold nsIn at e ⊢
  cases hk : K.lookup a with
  | none => rw [hk] at e; cases e
  | some o => rw [hk] at e; rw [lookup_up KX hk]; exact e

/-- a def of the text, by its place -/
def defOf (i : Nat) : DefRec := match PySem.Challenge.pw_no0234_01.main.body[i]? with
  | some (.FunctionDef name a b _ _ _ sc _ _ pos) => ⟨name, a, b, sc, pos⟩
  | _ => ⟨default, default, default, default, default⟩
abbrev topP {p : Program} {loose : List Str} {mean : ExcName → Option Value} {mg mb : Str → Option Value} {h : Heap} (_ : Top p loose mean mg mb h) : Program := p
theorem Code.ofTop {X : Cfg} {h : Heap} {p : Program} {loose : List Str} {mean : ExcName → Option Value} {mg mb : Str → Option Value} {K : Frag} {x : String} {ps : List String} {sc : List (Str × NameKind)} {body : List Stmt} {f : Addr} {d : DefRec}
    (T : Top p loose mean mg mb h) (KX : K.In h) (hX : X.K = ofHeap h) (hd : d ∈ recsOf p) (hx : d.name = Str.ofString x) (hb : d.body = body) (hs : d.scope.names = sc) (hc : d.scope.isCoroutine = false) (hg : d.scope.isGenerator = false) (hk : d.scope.kind = .function)
    (ns : nsIn K mainGlobals (Str.ofString x) = some (some (.ref f)))
    (hbind : ∀ pm code doc (vs : List Value), vs.length = ps.length → bindArgs (docDef d.name d.params d.body d.scope pm code doc) ⟨vs, []⟩ = pure ((ps.map Str.ofString).zip vs)) : ∃ f, Code X x ps sc body f := by
  obtain ⟨a, o, pm, code, doc, h1, h2, h3, h4⟩ := T.fn d hd
  have ea : a = f := by
    have := mg_of KX T.g ns
    rw [← hx, h1] at this
    cases this; rfl
  subst ea
  obtain ⟨oc, od, data, osl⟩ := o
  have h3' : data = .func (docDef d.name d.params d.body d.scope pm code doc) := h3
  subst h3'
  have lk : (ofHeap h).lookup a = some ⟨oc, od, .func (docDef d.name d.params d.body d.scope pm code doc), osl⟩ := (lookup_of h a).trans h2
  subst hb
  refine ⟨a, ?_, ?_, d.name, d.params, d.scope, .none, .none, doc, pm, code, .none, oc, none, od, osl, ?_, ?_, hs, hc, hg, hk, ?_⟩
  · rw [hX]; exact nsIn_up KX ns
  · rw [hX]; simp only [keepIn, lk]
  · rw [hX]; exact lk
  · rw [hX]
    obtain ⟨c, oo, vs, t, rfl, e1, e2, e3⟩ := h4
    obtain ⟨occ, ood, odd, oss⟩ := oo
    have e2' : odd = .fields vs := e2
    subst e2'
    have lc : (ofHeap h).lookup c = some ⟨occ, ood, .fields vs, oss⟩ := (lookup_of h c).trans e1
    simp only [codeIn, lc]
    obtain ⟨l⟩ := vs
    match l, e3 with
    | [], e3 => simp at e3
    | [_], e3 => simp at e3
    | _ :: b :: _, e3 =>
      have : b = .str d.name t := by simpa using e3
      subst this
      simp
  · exact hbind pm code doc
def ent (P : Params) (x : String) (t : Nat) (v : Value) : DictEntry := { hash := PyData.keyHash P (Str.ofString x), key := .str (Str.ofString x) t, val := v }
/-- the few objects of the top that are not functions -/
def ksm (P : Params) : Frag := [
  (3, { cls := .type "dict", data := .dict #[ent P "__name__" 165 (.str (S "law_no0234_01") 412), ent P "__doc__" 166 .none, ent P "__package__" 167 .none, ent P "__loader__" 168 (.builtin "__main__.__loader__#opaque"), ent P "__spec__" 169 .none, ent P "__annotations__" 170 (.ref 6), ent P "__builtins__" 171 (.ref 4), ent P "__file__" 173 (.str (S "/claim/cut.py") 172), ent P "__cached__" 174 .none, ent P "SHAPES" 282 (.ref 15), ent P "LEAVING" 288 (.ref 17), ent P "reads_of" 294 (.ref 22), ent P "writes_of" 301 (.ref 29), ent P "jumps_of" 307 (.ref 34), ent P "goes_on" 314 (.ref 41), ent P "block_begins" 329 (.ref 48), ent P "follows" 338 (.ref 55), ent P "reached" 349 (.ref 62), ent P "mask_of" 358 (.ref 69), ent P "live_ahead" 371 (.ref 76), ent P "live_behind" 382 (.ref 83), ent P "INTEGER" 384 (.int 0 383), ent P "LOGICAL" 386 (.int 4 385), ent P "ranges_of" 401 (.ref 90), ent P "widen" 411 (.ref 97), ent P "_law_draw" 422 (.ref 104), ent P "_law_op" 437 (.ref 111), ent P "_law_reads" 477 (.ref 112), ent P "_law_writes" 487 (.ref 125), ent P "_law_read_by" 493 (.ref 130), ent P "_law_goals" 500 (.ref 137), ent P "_law_ways" 508 (.ref 144), ent P "_law_sought" 520 (.ref 151), ent P "law" 526 (.ref 156)] 34 }),
  (15, { cls := .type "dict", data := .dict #[ent P "set" 189 (.str (S "w--") 190), ent P "move" 192 (.str (S "wr") 193), ent P "bin" 195 (.str (S "w--rr") 196), ent P "cmp" 198 (.str (S "w--rr") 199), ent P "un" 201 (.str (S "w--r") 202), ent P "conv" 204 (.str (S "w--r") 205), ent P "cat" 207 (.str (S "wrr") 208), ent P "addr" 210 (.str (S "w-") 211), ent P "elem" 213 (.str (S "wrR") 214), ent P "cut" 216 (.str (S "wroo") 217), ent P "load" 219 (.str (S "wr") 220), ent P "store" 222 (.str (S "rr") 223), ent P "temp" 225 (.str (S "w-r") 226), ent P "intr" 228 (.str (S "w--R") 229), ent P "call" 231 (.str (S "v-AJ") 232), ent P "count" 234 (.str (S "w-rrr") 235), ent P "jump" 237 (.str (S "j") 238), ent P "true" 240 (.str (S "rj") 241), ent P "false" 242 (.str (S "rj") 243), ent P "sign" 244 (.str (S "rjjj") 245), ent P "switch" 246 (.str (S "rJ") 247), ent P "setlabel" 248 (.str (S "r-") 249), ent P "agoto" 250 (.str (S "rP") 251), ent P "return" 252 (.str (S "o") 253), ent P "stop" 254 (.str (S "-") 255), ent P "pause" 256 (.str (S "-") 257), ent P "io" 258 (.str (S "-D") 259), ent P "nop" 260 (.str (S "") 261), ent P "length" 262 (.str (S "wr") 263), ent P "keep" 264 (.str (S "-r") 265), ent P "fetch" 266 (.str (S "w-") 267)] 31 }),
  (17, { cls := .type "tuple", data := .seq #[.str (S "jump") 283, .str (S "sign") 284, .str (S "agoto") 285, .str (S "return") 286, .str (S "stop") 287] }),
  (112, { cls := .type "dict", data := .dict #[ent P "move" 438 (.ref 113), ent P "bin" 440 (.ref 114), ent P "cmp" 443 (.ref 115), ent P "un" 446 (.ref 116), ent P "load" 448 (.ref 117), ent P "store" 450 (.ref 118), ent P "true" 453 (.ref 119), ent P "false" 455 (.ref 120), ent P "sign" 457 (.ref 121), ent P "switch" 459 (.ref 122), ent P "elem" 461 (.ref 123), ent P "return" 463 (.ref 124)] 12 }),
  (113, { cls := .type "list", data := .seq #[.int 2 439] }),
  (114, { cls := .type "list", data := .seq #[.int 4 441, .int 5 442] }),
  (115, { cls := .type "list", data := .seq #[.int 4 444, .int 5 445] }),
  (116, { cls := .type "list", data := .seq #[.int 4 447] }),
  (117, { cls := .type "list", data := .seq #[.int 2 449] }),
  (118, { cls := .type "list", data := .seq #[.int 1 451, .int 2 452] }),
  (119, { cls := .type "list", data := .seq #[.int 1 454] }),
  (120, { cls := .type "list", data := .seq #[.int 1 456] }),
  (121, { cls := .type "list", data := .seq #[.int 1 458] }),
  (122, { cls := .type "list", data := .seq #[.int 1 460] }),
  (123, { cls := .type "list", data := .seq #[.int 2 462] }),
  (124, { cls := .type "list", data := .seq #[.int 1 464] }),
  (125, { cls := .type "tuple", data := .seq #[.str (S "set") 478, .str (S "move") 479, .str (S "bin") 480, .str (S "cmp") 481, .str (S "un") 482, .str (S "addr") 483, .str (S "elem") 484, .str (S "load") 485, .str (S "call") 486] })]
def kas : List Addr := [3, 15, 17, 112, 113, 114, 115, 116, 117, 118, 119, 120, 121, 122, 123, 124, 125]

set_option maxRecDepth 100000
set_option maxHeartbeats 8000000
open PySem.Challenge
def vw : Program := view pw_no0234_01 [3, 4, 5, 6, 8, 9, 10, 11, 12, 13, 17, 18, 20, 21, 24, 25, 26, 27, 28]
def lse : List Str := [S "SHAPES", S "LEAVING", S "INTEGER", S "LOGICAL", S "_law_reads", S "_law_writes"]
def hk : Hook := kHook Mine.ksm Mine.kas (fun _ => by kernel_rfl)
def xt (s : Shared) : Bool := xlAt vw [] s && recOk (RowW.records rw_no0234_01.row.toRowW) s
theorem e0 : opening pw_no0234_01 = plainProg pw_no0234_01.main.scope.names := by kernel_rfl
theorem f0 (s : Shared) : fenceModules? pw_no0234_01 s = some s := by kernel_rfl
theorem bo (w : World) : (fencedOpening treeTable pw_no0234_01 w 3044).map (fun s => (s.heap, s.gens, s.drawn, s.toks)) = some (boot_heap w.params, Array.mk [], boot_drawn, boot_toks) := boot_open e0 (by decide) f0 w
noncomputable abbrev seenBy (w : World) : Prop := (fun os => (topFrom treeTable pw_no0234_01 w 3044 ⟨boot_heap w.params, #[], boot_drawn, boot_toks, os⟩).map (fun s => (openSeen vw lse (importedModules pw_no0234_01.main.body) xt true s, hk.obs s))) = fun os => some (openGood vw lse, hk.val w)
theorem t1 (w : World) : seenBy (w.withFollow "special-get-raises" false) := by
  unfold seenBy topFrom
  (try rw [PySem.W.Fast.te14082659384304107361]); (try rw [PySem.W.Fast.te14364793385576792824]); (try rw [PySem.W.Fast.te4187177175401517315])
  kernel_rfl
theorem t2 (w : World) : seenBy (w.withFollow "special-get-raises" true) := by
  unfold seenBy topFrom
  (try rw [PySem.W.Fast.te14082659384304107361]); (try rw [PySem.W.Fast.te14364793385576792824]); (try rw [PySem.W.Fast.te4187177175401517315])
  kernel_rfl
theorem left : LeftO pw_no0234_01 vw lse xt hk.obs hk.val 3044 := fun w => by
  obtain ⟨⟨h, gs, d, k, os⟩, e, e'⟩ := Option.map_eq_some_iff.mp (bo w)
  obtain ⟨rfl, rfl, rfl, rfl⟩ : h = boot_heap w.params ∧ gs = #[] ∧ d = boot_drawn ∧ k = boot_toks := by simpa using e'
  have r : seenBy w := byRow2 "special-get-raises" t1 t2 w
  unfold openEnds
  rw [e]
  exact congrFun r os

set_option maxRecDepth 100000
set_option maxHeartbeats 8000000
theorem len1 {P : List Value → Prop} (h : ∀ a, P [a]) : ∀ vs : List Value, vs.length = 1 → P vs := fun vs e => by
  match vs, e with
  | [a], _ => exact h a
theorem len2 {P : List Value → Prop} (h : ∀ a b, P [a, b]) : ∀ vs : List Value, vs.length = 2 → P vs := fun vs e => by
  match vs, e with
  | [a, b], _ => exact h a b
theorem len3 {P : List Value → Prop} (h : ∀ a b c, P [a, b, c]) : ∀ vs : List Value, vs.length = 3 → P vs := fun vs e => by
  match vs, e with
  | [a, b, c], _ => exact h a b c


theorem tupIn {Hb : Heap} {K : Frag} (KX : K.In Hb) {a : Addr} {vs : List Value} {n : Nat} {ds : List V} (h : K.lookup a = some (tupObj vs n)) (r : ∀ im β, VRs Hb im β vs ds) (im : Led) (β : List Addr) : VR Hb im β (.ref a) (.tup ds) := .tup (.inl (KX _ _ h)) (r im β)
theorem lstIn {Hb : Heap} {K : Frag} (KX : K.In Hb) {a : Addr} {vs : List Value} {n : Nat} {ds : List V} (h : K.lookup a = some (lstObj vs n)) (r : ∀ im β, VRs Hb im β vs ds) (im : Led) (β : List Addr) : VR Hb im β (.ref a) (.list ds) := .list (.inl (KX _ _ h)) (r im β)

local macro_rules | `(tactic| tb_start) => `(tactic| first | exact trivial | (refine' And.intro ⟨_, _, rfl, rfl⟩ ?keysRest; (case keysRest => tb_start)))
local macro_rules | `(tactic| tb_rel) => `(tactic| first | exact Mine.VRs.nil | (refine' Mine.VRs.cons ?vhead ?vtail; (case vhead => first | exact Mine.VR.int _ _ | exact Mine.VR.str _ _); (case vtail => tb_rel)))
theorem topOk {w : World} {h : Heap} {mean : ExcName → Option Value} {mg mb : Str → Option Value} (KX : (ksm w.params).In h) (T : Top vw (looseW vw lse) mean mg mb h) : TopOk (Cfg.mk PySem.Challenge.rw_no0234_01.row.prog w h (ofHeap h) vw (looseW vw lse) mean mg mb (inOf h) T) 15 112 := by
  have hr : recsOf vw = [defOf 3, defOf 4, defOf 5, defOf 6, defOf 8, defOf 9, defOf 10, defOf 11, defOf 12, defOf 13, defOf 17, defOf 18, defOf 20, defOf 21, defOf 24, defOf 25, defOf 26, defOf 27, defOf 28] := by kernel_rfl
  refine' TopOk.mk ?f3 ?f4 ?f5 ?f6 ?f8 ?f9 ?f10 ?f11 ?f12 ?f13 ?f17 ?f18 ?f20 ?f21 ?f24 ?f25 ?f26 ?f27 ?blt ?shapes ?shapesD ?shape ?rd ?rdD ?rdLow ?read ?readN ?leaving ?writes ?int0 ?log4
  case f3 => exact Code.ofTop T KX rfl (f := 22) (d := defOf 3) (List.mem_of_getElem? (i := 0) (by rw [hr]; rfl)) (by kernel_rfl) (by kernel_rfl) (by kernel_rfl) (by kernel_rfl) (by kernel_rfl) (by kernel_rfl) (by kernel_rfl) (fun _ _ _ => len1 fun _ => by kernel_rfl)
  case f4 => exact Code.ofTop T KX rfl (f := 29) (d := defOf 4) (List.mem_of_getElem? (i := 1) (by rw [hr]; rfl)) (by kernel_rfl) (by kernel_rfl) (by kernel_rfl) (by kernel_rfl) (by kernel_rfl) (by kernel_rfl) (by kernel_rfl) (fun _ _ _ => len1 fun _ => by kernel_rfl)
  case f5 => exact Code.ofTop T KX rfl (f := 34) (d := defOf 5) (List.mem_of_getElem? (i := 2) (by rw [hr]; rfl)) (by kernel_rfl) (by kernel_rfl) (by kernel_rfl) (by kernel_rfl) (by kernel_rfl) (by kernel_rfl) (by kernel_rfl) (fun _ _ _ => len1 fun _ => by kernel_rfl)
  case f6 => exact Code.ofTop T KX rfl (f := 41) (d := defOf 6) (List.mem_of_getElem? (i := 3) (by rw [hr]; rfl)) (by kernel_rfl) (by kernel_rfl) (by kernel_rfl) (by kernel_rfl) (by kernel_rfl) (by kernel_rfl) (by kernel_rfl) (fun _ _ _ => len1 fun _ => by kernel_rfl)
  case f8 => exact Code.ofTop T KX rfl (f := 48) (d := defOf 8) (List.mem_of_getElem? (i := 4) (by rw [hr]; rfl)) (by kernel_rfl) (by kernel_rfl) (by kernel_rfl) (by kernel_rfl) (by kernel_rfl) (by kernel_rfl) (by kernel_rfl) (fun _ _ _ => len2 fun _ _ => by kernel_rfl)
  case f9 => exact Code.ofTop T KX rfl (f := 55) (d := defOf 9) (List.mem_of_getElem? (i := 5) (by rw [hr]; rfl)) (by kernel_rfl) (by kernel_rfl) (by kernel_rfl) (by kernel_rfl) (by kernel_rfl) (by kernel_rfl) (by kernel_rfl) (fun _ _ _ => len2 fun _ _ => by kernel_rfl)
  case f10 => exact Code.ofTop T KX rfl (f := 62) (d := defOf 10) (List.mem_of_getElem? (i := 6) (by rw [hr]; rfl)) (by kernel_rfl) (by kernel_rfl) (by kernel_rfl) (by kernel_rfl) (by kernel_rfl) (by kernel_rfl) (by kernel_rfl) (fun _ _ _ => len2 fun _ _ => by kernel_rfl)
  case f11 => exact Code.ofTop T KX rfl (f := 69) (d := defOf 11) (List.mem_of_getElem? (i := 7) (by rw [hr]; rfl)) (by kernel_rfl) (by kernel_rfl) (by kernel_rfl) (by kernel_rfl) (by kernel_rfl) (by kernel_rfl) (by kernel_rfl) (fun _ _ _ => len1 fun _ => by kernel_rfl)
  case f12 => exact Code.ofTop T KX rfl (f := 76) (d := defOf 12) (List.mem_of_getElem? (i := 8) (by rw [hr]; rfl)) (by kernel_rfl) (by kernel_rfl) (by kernel_rfl) (by kernel_rfl) (by kernel_rfl) (by kernel_rfl) (by kernel_rfl) (fun _ _ _ => len1 fun _ => by kernel_rfl)
  case f13 => exact Code.ofTop T KX rfl (f := 83) (d := defOf 13) (List.mem_of_getElem? (i := 9) (by rw [hr]; rfl)) (by kernel_rfl) (by kernel_rfl) (by kernel_rfl) (by kernel_rfl) (by kernel_rfl) (by kernel_rfl) (by kernel_rfl) (fun _ _ _ => len3 fun _ _ _ => by kernel_rfl)
  case f17 => exact Code.ofTop T KX rfl (f := 90) (d := defOf 17) (List.mem_of_getElem? (i := 10) (by rw [hr]; rfl)) (by kernel_rfl) (by kernel_rfl) (by kernel_rfl) (by kernel_rfl) (by kernel_rfl) (by kernel_rfl) (by kernel_rfl) (fun _ _ _ => len1 fun _ => by kernel_rfl)
  case f18 => exact Code.ofTop T KX rfl (f := 97) (d := defOf 18) (List.mem_of_getElem? (i := 11) (by rw [hr]; rfl)) (by kernel_rfl) (by kernel_rfl) (by kernel_rfl) (by kernel_rfl) (by kernel_rfl) (by kernel_rfl) (by kernel_rfl) (fun _ _ _ => len3 fun _ _ _ => by kernel_rfl)
  case f20 => exact Code.ofTop T KX rfl (f := 104) (d := defOf 20) (List.mem_of_getElem? (i := 12) (by rw [hr]; rfl)) (by kernel_rfl) (by kernel_rfl) (by kernel_rfl) (by kernel_rfl) (by kernel_rfl) (by kernel_rfl) (by kernel_rfl) (fun _ _ _ => len2 fun _ _ => by kernel_rfl)
  case f21 => exact Code.ofTop T KX rfl (f := 111) (d := defOf 21) (List.mem_of_getElem? (i := 13) (by rw [hr]; rfl)) (by kernel_rfl) (by kernel_rfl) (by kernel_rfl) (by kernel_rfl) (by kernel_rfl) (by kernel_rfl) (by kernel_rfl) (fun _ _ _ => len2 fun _ _ => by kernel_rfl)
  case f24 => exact Code.ofTop T KX rfl (f := 130) (d := defOf 24) (List.mem_of_getElem? (i := 14) (by rw [hr]; rfl)) (by kernel_rfl) (by kernel_rfl) (by kernel_rfl) (by kernel_rfl) (by kernel_rfl) (by kernel_rfl) (by kernel_rfl) (fun _ _ _ => len1 fun _ => by kernel_rfl)
  case f25 => exact Code.ofTop T KX rfl (f := 137) (d := defOf 25) (List.mem_of_getElem? (i := 15) (by rw [hr]; rfl)) (by kernel_rfl) (by kernel_rfl) (by kernel_rfl) (by kernel_rfl) (by kernel_rfl) (by kernel_rfl) (by kernel_rfl) (fun _ _ _ => len1 fun _ => by kernel_rfl)
  case f26 => exact Code.ofTop T KX rfl (f := 144) (d := defOf 26) (List.mem_of_getElem? (i := 16) (by rw [hr]; rfl)) (by kernel_rfl) (by kernel_rfl) (by kernel_rfl) (by kernel_rfl) (by kernel_rfl) (by kernel_rfl) (by kernel_rfl) (fun _ _ _ => len2 fun _ _ => by kernel_rfl)
  case f27 => exact Code.ofTop T KX rfl (f := 151) (d := defOf 27) (List.mem_of_getElem? (i := 17) (by rw [hr]; rfl)) (by kernel_rfl) (by kernel_rfl) (by kernel_rfl) (by kernel_rfl) (by kernel_rfl) (by kernel_rfl) (by kernel_rfl) (fun _ _ _ => len3 fun _ _ _ => by kernel_rfl)
  all_goals (try dsimp only)
  case shapes => exact nsIn_up KX (by kernel_rfl)
  case rd => exact nsIn_up KX (by kernel_rfl)
  case blt => exact List.forall_mem_cons.mpr ⟨nsIn_up KX (by kernel_rfl), List.forall_mem_cons.mpr ⟨nsIn_up KX (by kernel_rfl), List.forall_mem_cons.mpr ⟨nsIn_up KX (by kernel_rfl), List.forall_mem_cons.mpr ⟨nsIn_up KX (by kernel_rfl), List.forall_mem_cons.mpr ⟨nsIn_up KX (by kernel_rfl), List.forall_mem_cons.mpr ⟨nsIn_up KX (by kernel_rfl), List.forall_mem_cons.mpr ⟨nsIn_up KX (by kernel_rfl), List.forall_mem_nil _⟩⟩⟩⟩⟩⟩⟩
  case shapesD => exact ⟨_, _, lookup_up KX rfl, by tb_start⟩
  case rdD => exact ⟨_, _, lookup_up KX rfl, by tb_start⟩
  case rdLow => decide
  case int0 => exact ⟨383, nsIn_up KX (by kernel_rfl)⟩
  case log4 => exact ⟨385, nsIn_up KX (by kernel_rfl)⟩
  case leaving => exact ⟨.ref 17, nsIn_up KX (by kernel_rfl), tupIn KX rfl fun _ _ => by tb_rel⟩
  case writes => exact ⟨.ref 125, nsIn_up KX (by kernel_rfl), tupIn KX rfl fun _ _ => by tb_rel⟩
  case readN => repeat (first | exact List.forall_mem_nil _ | refine List.forall_mem_cons.mpr ⟨nsIn_up KX (by kernel_rfl), ?_⟩)
  case shape => exact List.forall_mem_cons.mpr ⟨⟨190, nsIn_up KX (by kernel_rfl)⟩, List.forall_mem_cons.mpr ⟨⟨193, nsIn_up KX (by kernel_rfl)⟩, List.forall_mem_cons.mpr ⟨⟨196, nsIn_up KX (by kernel_rfl)⟩, List.forall_mem_cons.mpr ⟨⟨199, nsIn_up KX (by kernel_rfl)⟩, List.forall_mem_cons.mpr ⟨⟨202, nsIn_up KX (by kernel_rfl)⟩, List.forall_mem_cons.mpr ⟨⟨211, nsIn_up KX (by kernel_rfl)⟩, List.forall_mem_cons.mpr ⟨⟨214, nsIn_up KX (by kernel_rfl)⟩, List.forall_mem_cons.mpr ⟨⟨220, nsIn_up KX (by kernel_rfl)⟩, List.forall_mem_cons.mpr ⟨⟨223, nsIn_up KX (by kernel_rfl)⟩, List.forall_mem_cons.mpr ⟨⟨232, nsIn_up KX (by kernel_rfl)⟩, List.forall_mem_cons.mpr ⟨⟨238, nsIn_up KX (by kernel_rfl)⟩, List.forall_mem_cons.mpr ⟨⟨241, nsIn_up KX (by kernel_rfl)⟩, List.forall_mem_cons.mpr ⟨⟨243, nsIn_up KX (by kernel_rfl)⟩, List.forall_mem_cons.mpr ⟨⟨245, nsIn_up KX (by kernel_rfl)⟩, List.forall_mem_cons.mpr ⟨⟨247, nsIn_up KX (by kernel_rfl)⟩, List.forall_mem_cons.mpr ⟨⟨253, nsIn_up KX (by kernel_rfl)⟩, List.forall_mem_cons.mpr ⟨⟨261, nsIn_up KX (by kernel_rfl)⟩, List.forall_mem_nil _⟩⟩⟩⟩⟩⟩⟩⟩⟩⟩⟩⟩⟩⟩⟩⟩⟩
  case read => exact List.forall_mem_cons.mpr ⟨⟨.ref 113, nsIn_up KX (by kernel_rfl), lstIn KX rfl fun _ _ => by tb_rel⟩, List.forall_mem_cons.mpr ⟨⟨.ref 114, nsIn_up KX (by kernel_rfl), lstIn KX rfl fun _ _ => by tb_rel⟩, List.forall_mem_cons.mpr ⟨⟨.ref 115, nsIn_up KX (by kernel_rfl), lstIn KX rfl fun _ _ => by tb_rel⟩, List.forall_mem_cons.mpr ⟨⟨.ref 116, nsIn_up KX (by kernel_rfl), lstIn KX rfl fun _ _ => by tb_rel⟩, List.forall_mem_cons.mpr ⟨⟨.ref 117, nsIn_up KX (by kernel_rfl), lstIn KX rfl fun _ _ => by tb_rel⟩, List.forall_mem_cons.mpr ⟨⟨.ref 118, nsIn_up KX (by kernel_rfl), lstIn KX rfl fun _ _ => by tb_rel⟩, List.forall_mem_cons.mpr ⟨⟨.ref 119, nsIn_up KX (by kernel_rfl), lstIn KX rfl fun _ _ => by tb_rel⟩, List.forall_mem_cons.mpr ⟨⟨.ref 120, nsIn_up KX (by kernel_rfl), lstIn KX rfl fun _ _ => by tb_rel⟩, List.forall_mem_cons.mpr ⟨⟨.ref 121, nsIn_up KX (by kernel_rfl), lstIn KX rfl fun _ _ => by tb_rel⟩, List.forall_mem_cons.mpr ⟨⟨.ref 122, nsIn_up KX (by kernel_rfl), lstIn KX rfl fun _ _ => by tb_rel⟩, List.forall_mem_cons.mpr ⟨⟨.ref 123, nsIn_up KX (by kernel_rfl), lstIn KX rfl fun _ _ => by tb_rel⟩, List.forall_mem_cons.mpr ⟨⟨.ref 124, nsIn_up KX (by kernel_rfl), lstIn KX rfl fun _ _ => by tb_rel⟩, List.forall_mem_nil _⟩⟩⟩⟩⟩⟩⟩⟩⟩⟩⟩⟩

set_option maxRecDepth 100000
set_option maxHeartbeats 8000000
open PySem.Challenge
theorem said0 : rw_no0234_01.wellSaid = true := by
  (try rw [PySem.W.Fast.te9446332074065402090])
  kernel_rfl
theorem d1 : PySem.W.defOf vw rw_no0234_01.row.name = some (Mine.defOf 28, []) := by kernel_rfl
theorem d2 : rw_no0234_01.row.prog.theDef rw_no0234_01.row.name = some ((Mine.defOf 28).params, (Mine.defOf 28).body, (Mine.defOf 28).scope) := by kernel_rfl
theorem d3 : kwWritten? (Mine.defOf 28).params.kwonlyargs (Mine.defOf 28).params.kw_defaults = some [] := by kernel_rfl
theorem d5 : (chainsOk vw && opensWell rw_no0234_01.row.prog && (frees rw_no0234_01.row.toRowW && rw_no0234_01.row.within.isEmpty)) = true := by decide +kernel
theorem d6 : rw_no0234_01.row.prog.bare := ⟨rfl, rfl, rfl, rfl, rfl, by decide +kernel⟩
theorem join2 {w : World} {h : Heap} {mean : ExcName → Option Value} {mg mb : Str → Option Value} (KX : (ksm w.params).In h) (T : Top vw (looseW vw lse) mean mg mb h) {l : Nat} {vs : List Value} {ns : List Int} (hl : h.IsList l vs.toArray) (hi : IntsAre vs ns) (hn : ns.length ≤ 63)
    {L : Addr} {f : Addr} {cdv : Value} {h₁ : Heap} {cells : Led} {tk : Nat} {s : Shared} {binds : List (Str × Value)} {Qc : Flow → Shared → Prop} {Ec : Value → Shared → Prop}
    (F : Fr h L h₁ (bindL (envOfC (Mine.defOf 28).name (Mine.defOf 28).scope L f cdv).kindOf binds fun _ => none)) (N : News h L h₁ cells)
    (Y : CellsAre (bindC (envOfC (Mine.defOf 28).name (Mine.defOf 28).scope L f cdv).kindOf binds fun _ => none) (cellsFrom (L + 1) (Mine.defOf 28).scope.names []) cells)
    (B : Below callerA h [] h) (hbi : binds = [(Str.ofString "script", .ref l)])
    (fin : ∀ h' tk' m', Fr h L h' m' → Qc (.ret (.bool true)) { s with heap := h', toks := tk' }) :
    wpAny (model rw_no0234_01.row.prog w) (callerA.deeper (envOfC (Mine.defOf 28).name (Mine.defOf 28).scope L f cdv)) (execs (Mine.defOf 28).body (envOfC (Mine.defOf 28).name (Mine.defOf 28).scope L f cdv)) Qc Ec { s with heap := h₁, toks := tk } :=
  join_law (topOk KX T) hl hi hn (by kernel_rfl) hbi (by kernel_rfl) (by kernel_rfl) (Nat.lt_trans (by decide) (Heap.lt_size (KX 3 _ rfl))) F N Y B fin

end Mine
open Mine
set_option maxRecDepth 100000 in
set_option maxHeartbeats 8000000 in
theorem PySem.Challenge.cw_no0234_01_holds : PySem.Challenge.rw_no0234_01.Holds := by
  w_on
  refine holds_law said0 fun said => ?_
  refine PySem.W.holds_open (q := vw) (loose := lse) (Xt := xt) (XP := XL vw []) (Yf := hk.obs) (Ya := hk.val) (YP := hk.says) (N := 3044) left hk.of hk.keeps (fun s e => xl_of s (Bool.and_eq_true_iff.mp e).1) XL.keeps d1 d2 d3 (fun s e => recFacts_of (Bool.and_eq_true_iff.mp e).2) rfl said d5 d6 ?hw ?hc
  (case hw => w_witness2)
  w_strict (
    intro w s₀ s₁ mg mb G Y fa o pm cd doc dV kV ho hd hcd hD hmg hg args vals as hpre hlay hrd hwl hlo
    have KX := kIn_of Y
    refine Ground.open G ?_
    intro T B D TE TW
    clear D
    obtain ⟨_, _, he, B0⟩ := based_of_top T rfl hmg ho hd
    have he' : cd = _ := he
    subst he'
    clear he hmg
    wrow_args hpre hlay hrd hwl hlo
    refine enter_call ?_
    w_top on
    refine codeAny_mono ?_ (fun _ _ g => GoodW.toG g)
    have K0 := below_caller (Top.heap T)
    w_call any ho hd hcd hD T F
    k_drop)
  rename Frag.In _ _ => KX'
  rename Top _ _ _ _ _ _ => T'
  rename Heap.IsList _ _ _ => hL'
  rename IntsAre _ _ => hI'
  rename Fr _ _ _ _ => F'
  rename News _ _ _ _ => N'
  rename CellsAre _ _ _ => Y'
  rename Below _ _ _ _ => B'
  rename Shared.gens _ = _ => hg'
  rename ¬ (_ < _) => hn'
  refine join2 KX' T' hL' hI' (by omega) F' N' Y' B' (by kernel_rfl) ?fin
  case fin =>
    intro h' tk' m' F₂
    refine goodW_bool F₂ hg' (raisesW_false ?_) ?_
    · wrow_none_raised
    · wrow_post
