import PyProof.Rows.All
import Wide.All
import OpenK.AllK
import Wide.FinOn
import KE.KDictOf
import Lean
import PySem.Challenge.RW_np0171_01
set_option Elab.async false
set_option autoImplicit false
set_option linter.all false
set_option tactic.hygienic false

section
open PySem PySem.Spec PySem.Calls PyProof.Rows
namespace Mine
open scoped Classical

/-! default proofs, each tactic text once -/
theorem aR (P : Prop) (h : P := by rfl) : P := h
theorem aD (P : Prop) (h : P := by decide) : P := h
theorem aI (P : Prop) (h : P := by intro _ _; rfl) : P := h
theorem aE (P : Prop) (h : P := by intro _ _; exact ⟨_, rfl⟩) : P := h
theorem aO (P : Prop) (h : P := by first | exact .inl rfl | exact .inr rfl) : P := h
theorem aU (P : Prop) (h : P := by with_unfolding_all rfl) : P := h

/-! Part A: the persistent part of a heap, data, the relation -/

noncomputable abbrev Gh := Addr → Option Obj
noncomputable def Sub (G G' : Gh) : Prop := ∀ a o, G a = some o → G' a = some o
noncomputable def InH (G : Gh) (h : Heap) : Prop := ∀ a o, G a = some o → h.get? a = some o

structure Keep (h h' : Heap) : Prop where
  size : h.objs.size ≤ h'.objs.size
  get : ∀ a o, h.get? a = some o → h'.get? a = some o

noncomputable def rm (G : Gh) (a : Addr) : Gh := fun b => if b = a then none else G b
noncomputable def put (G : Gh) (a : Addr) (o : Obj) : Gh := fun b => if b = a then some o else G b

theorem nn {P : Prop} (h : (P → False) → False) : P := Classical.byContradiction h
theorem Sub.refl (G : Gh) : Sub G G := fun _ _ e => e
theorem Keep.push (h : Heap) (o : Obj) : Keep h (h.push o) := ⟨by rw [Heap.size_push]; exact Nat.le_succ _, fun _ _ e => Heap.get?_push_of_some o e⟩
theorem InH.keep {G : Gh} {h h' : Heap} (x : InH G h) (k : Keep h h') : InH G h' := fun a o e => k.get a o (x a o e)
theorem InH.lt {G : Gh} {h : Heap} (x : InH G h) {a : Addr} {o : Obj} (e : G a = some o) : a < h.objs.size := Heap.lt_size (x a o e)
theorem InH.none {G : Gh} {h : Heap} (x : InH G h) {a : Addr} (e : h.objs.size ≤ a) : G a = none := by
  cases q : G a with
  | none => rfl
  | some o => exact absurd (x.lt q) (Nat.not_lt.mpr e)
theorem heap_none {h : Heap} {a : Addr} (e : h.objs.size ≤ a) : h.get? a = none := by
  cases q : h.get? a with
  | none => rfl
  | some o => exact absurd (Heap.lt_size q) (Nat.not_lt.mpr e)

inductive Dt where
  | none
  | bool (b : Bool)
  | int (i : Int)
  | str (s : Str)
  | tup (l : List Dt)
  | list (l : List Dt)
  | dict (l : List (Dt × Dt))
  | inst (C : Addr) (l : List (Str × Dt))

open Classical in

mutual
noncomputable def hashD (w : World) : Dt → Int
  | .int i => hashInt i
  | .str s => hashStr w s
  | .tup l => reduceHash (Builtin.Tuple.tupleHashOf (hashDs w l))
  | _ => 0
noncomputable def hashDs (w : World) : List Dt → List Int
  | [] => []
  | d :: r => hashD w d :: hashDs w r
end
theorem hashDs_eq (w : World) (l : List Dt) : hashDs w l = l.map (hashD w) := by
  induction l with
  | nil => rfl
  | cons d r ih => rw [hashDs, ih]; rfl

/-- ints, texts, tuples of such: the keys of dicts -/
noncomputable def hk : Nat → Dt → Bool
  | _, .int _ => true
  | _, .str _ => true
  | n + 1, .tup l => l.all (hk n)
  | _, _ => false
noncomputable abbrev tupObj (vs : Array Value) (n : Nat) : Obj := ⟨.type "tuple", none, .seq vs n, #[]⟩
noncomputable abbrev lstObj (vs : Array Value) (n : Nat) : Obj := ⟨.type "list", none, .seq vs n, #[]⟩
noncomputable abbrev dicObj (es : Array DictEntry) (n : Nat) : Obj := ⟨.type "dict", none, .dict es n, #[]⟩

mutual
inductive Is (w : World) (G : Gh) : Value → Dt → Prop
  | none : Is w G .none .none
  | bool (b : Bool) : Is w G (.bool b) (.bool b)
  | int (i : Int) (t : Tok) : Is w G (.int i t) (.int i)
  | str (x : Str) (t : Tok) : PyData.strOk x = true → Is w G (.str x t) (.str x)
  | tup {a : Addr} {vs : Array Value} {n : Nat} {ds : List Dt} : G a = some (tupObj vs n) → IsAll w G vs.toList ds → Is w G (.ref a) (.tup ds)
  | list {a : Addr} {vs : Array Value} {n : Nat} {ds : List Dt} : G a = some (lstObj vs n) → IsAll w G vs.toList ds → Is w G (.ref a) (.list ds)
  | dict {a : Addr} {es : Array DictEntry} {n : Nat} {kvs : List (Dt × Dt)} : G a = some (dicObj es n) → a ≠ sysModules → IsEnts w G es.toList kvs → (kvs.map (·.1)).Nodup → Is w G (.ref a) (.dict kvs)
  | inst {a C dx : Addr} {es : Array DictEntry} {n : Nat} {fs : List (Str × Dt)} : G a = some ⟨.ref C, some dx, .plain, #[]⟩ → G dx = some (dicObj es n) → IsFields w G es.toList fs → (fs.map (·.1)).Nodup → Is w G (.ref a) (.inst C fs)
inductive IsAll (w : World) (G : Gh) : List Value → List Dt → Prop
  | nil : IsAll w G [] []
  | cons {v : Value} {vs : List Value} {d : Dt} {ds : List Dt} : Is w G v d → IsAll w G vs ds → IsAll w G (v :: vs) (d :: ds)
inductive IsEnts (w : World) (G : Gh) : List DictEntry → List (Dt × Dt) → Prop
  | nil : IsEnts w G [] []
  | cons {e : DictEntry} {es : List DictEntry} {k d : Dt} {kvs : List (Dt × Dt)} : e.hash = hashD w k → hk 6 k = true → Is w G e.key k → Is w G e.val d → IsEnts w G es kvs → IsEnts w G (e :: es) ((k, d) :: kvs)
inductive IsFields (w : World) (G : Gh) : List DictEntry → List (Str × Dt) → Prop
  | nil : IsFields w G [] []
  | cons {h : Int} {x : Str} {t : Tok} {v : Value} {es : List DictEntry} {d : Dt} {fs : List (Str × Dt)} : Is w G v d → IsFields w G es fs → IsFields w G (⟨h, .str x t, v⟩ :: es) ((x, d) :: fs)
end

section
variable {w : World} {G G' : Gh}
theorem IsAll.ind {P : List Value → List Dt → Prop} (nil : P [] []) (cons : ∀ {v : Value} {vs : List Value} {d : Dt} {ds : List Dt}, Is w G v d → IsAll w G vs ds → P vs ds → P (v :: vs) (d :: ds)) {vs : List Value} {ds : List Dt} (x : IsAll w G vs ds) : P vs ds :=
  IsAll.rec (motive_1 := fun _ _ _ => True) (motive_2 := fun vs ds _ => P vs ds) (motive_3 := fun _ _ _ => True) (motive_4 := fun _ _ _ => True)
    trivial (fun _ => trivial) (fun _ _ => trivial) (fun _ _ _ => trivial) (fun _ _ _ => trivial) (fun _ _ _ => trivial) (fun _ _ _ _ _ => trivial) (fun _ _ _ _ _ => trivial)
    nil (fun h r _ ih => cons h r ih) trivial (fun _ _ _ _ _ _ _ _ => trivial) trivial (fun _ _ _ _ => trivial) x
theorem IsEnts.ind {P : List DictEntry → List (Dt × Dt) → Prop} (nil : P [] [])
    (cons : ∀ {e : DictEntry} {es : List DictEntry} {k d : Dt} {kvs : List (Dt × Dt)}, e.hash = hashD w k → hk 6 k = true → Is w G e.key k → Is w G e.val d → IsEnts w G es kvs → P es kvs → P (e :: es) ((k, d) :: kvs))
    {es : List DictEntry} {kvs : List (Dt × Dt)} (x : IsEnts w G es kvs) : P es kvs :=
  IsEnts.rec (motive_1 := fun _ _ _ => True) (motive_2 := fun _ _ _ => True) (motive_3 := fun es kvs _ => P es kvs) (motive_4 := fun _ _ _ => True)
    trivial (fun _ => trivial) (fun _ _ => trivial) (fun _ _ _ => trivial) (fun _ _ _ => trivial) (fun _ _ _ => trivial) (fun _ _ _ _ _ => trivial) (fun _ _ _ _ _ => trivial)
    trivial (fun _ _ _ _ => trivial) nil (fun a b c d r _ _ ih => cons a b c d r ih) trivial (fun _ _ _ _ => trivial) x
theorem IsFields.ind {P : List DictEntry → List (Str × Dt) → Prop} (nil : P [] [])
    (cons : ∀ {h : Int} {x : Str} {t : Tok} {v : Value} {es : List DictEntry} {d : Dt} {fs : List (Str × Dt)}, Is w G v d → IsFields w G es fs → P es fs → P (⟨h, .str x t, v⟩ :: es) ((x, d) :: fs))
    {es : List DictEntry} {fs : List (Str × Dt)} (x : IsFields w G es fs) : P es fs :=
  IsFields.rec (motive_1 := fun _ _ _ => True) (motive_2 := fun _ _ _ => True) (motive_3 := fun _ _ _ => True) (motive_4 := fun es fs _ => P es fs)
    trivial (fun _ => trivial) (fun _ _ => trivial) (fun _ _ _ => trivial) (fun _ _ _ => trivial) (fun _ _ _ => trivial) (fun _ _ _ _ _ => trivial) (fun _ _ _ _ _ => trivial)
    trivial (fun _ _ _ _ => trivial) trivial (fun _ _ _ _ _ _ _ _ => trivial) nil (fun d r _ ih => cons d r ih) x

theorem Is.mono (s : Sub G G') {v : Value} {d : Dt} (x : Is w G v d) : Is w G' v d :=
  Is.rec (motive_1 := fun v d _ => Is w G' v d) (motive_2 := fun vs ds _ => IsAll w G' vs ds) (motive_3 := fun es kvs _ => IsEnts w G' es kvs) (motive_4 := fun es fs _ => IsFields w G' es fs)
    .none .bool .int .str (fun a _ h => .tup (s _ _ a) h) (fun a _ h => .list (s _ _ a) h) (fun a m _ n h => .dict (s _ _ a) m h n) (fun a b _ n h => .inst (s _ _ a) (s _ _ b) h n)
    .nil (fun _ _ h r => .cons h r) .nil (fun a b _ _ _ c d r => .cons a b c d r) .nil (fun _ _ d r => .cons d r) x
theorem IsAll.mono (s : Sub G G') {vs : List Value} {ds : List Dt} (x : IsAll w G vs ds) : IsAll w G' vs ds := x.ind .nil fun h _ r => .cons (h.mono s) r
theorem IsEnts.mono (s : Sub G G') {es : List DictEntry} {kvs : List (Dt × Dt)} (x : IsEnts w G es kvs) : IsEnts w G' es kvs := x.ind .nil fun a b c d _ r => .cons a b (c.mono s) (d.mono s) r

/-- what a value is, by its datum -/
noncomputable def IsV (w : World) (G : Gh) (v : Value) : Dt → Prop
  | .none => v = .none
  | .bool b => v = .bool b
  | .int i => ∃ t, v = .int i t
  | .str x => ∃ t, v = .str x t ∧ PyData.strOk x = true
  | .tup ds => ∃ a vs n, v = .ref a ∧ G a = some (tupObj vs n) ∧ IsAll w G vs.toList ds
  | .list ds => ∃ a vs n, v = .ref a ∧ G a = some (lstObj vs n) ∧ IsAll w G vs.toList ds
  | .dict kvs => ∃ a es n, v = .ref a ∧ G a = some (dicObj es n) ∧ a ≠ sysModules ∧ IsEnts w G es.toList kvs ∧ (kvs.map (·.1)).Nodup
  | .inst C fs => ∃ a dx es n, v = .ref a ∧ G a = some ⟨.ref C, some dx, .plain, #[]⟩ ∧ G dx = some (dicObj es n) ∧ IsFields w G es.toList fs ∧ (fs.map (·.1)).Nodup
theorem Is.inv {v : Value} {d : Dt} (x : Is w G v d) : IsV w G v d :=
  Is.rec (motive_1 := fun v d _ => IsV w G v d) (motive_2 := fun _ _ _ => True) (motive_3 := fun _ _ _ => True) (motive_4 := fun _ _ _ => True)
    rfl (fun _ => rfl) (fun _ t => ⟨t, rfl⟩) (fun _ t h => ⟨t, rfl, h⟩) (fun a h _ => ⟨_, _, _, rfl, a, h⟩) (fun a h _ => ⟨_, _, _, rfl, a, h⟩) (fun a m h n _ => ⟨_, _, _, rfl, a, m, h, n⟩) (fun a b h n _ => ⟨_, _, _, _, rfl, a, b, h, n⟩)
    trivial (fun _ _ _ _ => trivial) trivial (fun _ _ _ _ _ _ _ _ => trivial) trivial (fun _ _ _ _ => trivial) x
noncomputable def AllV (w : World) (G : Gh) (vs : List Value) : List Dt → Prop
  | [] => vs = []
  | d :: ds => ∃ v r, vs = v :: r ∧ Is w G v d ∧ IsAll w G r ds
theorem IsAll.inv {vs : List Value} {ds : List Dt} (x : IsAll w G vs ds) : AllV w G vs ds := x.ind (P := AllV w G) rfl fun h r _ => ⟨_, _, rfl, h, r⟩
noncomputable def AllD (w : World) (G : Gh) (ds : List Dt) : List Value → Prop
  | [] => ds = []
  | v :: vs => ∃ d r, ds = d :: r ∧ Is w G v d ∧ IsAll w G vs r
theorem IsAll.invD {vs : List Value} {ds : List Dt} (x : IsAll w G vs ds) : AllD w G ds vs := x.ind (P := fun vs ds => AllD w G ds vs) rfl fun h r _ => ⟨_, _, rfl, h, r⟩
theorem IsAll.one {vs : List Value} {d : Dt} (x : IsAll w G vs [d]) : ∃ v, vs = [v] ∧ Is w G v d := by
  obtain ⟨v, r, e, h, q⟩ := x.inv
  exact ⟨v, by rw [e, show r = [] from q.inv], h⟩
theorem IsAll.two {vs : List Value} {d e : Dt} (x : IsAll w G vs [d, e]) : ∃ v u, vs = [v, u] ∧ Is w G v d ∧ Is w G u e := by
  obtain ⟨v, r, e, h, q⟩ := x.inv
  obtain ⟨u, e', h'⟩ := q.one
  exact ⟨v, u, by rw [e, e'], h, h'⟩
theorem IsAll.three {vs : List Value} {d e f : Dt} (x : IsAll w G vs [d, e, f]) : ∃ v u t, vs = [v, u, t] ∧ Is w G v d ∧ Is w G u e ∧ Is w G t f := by
  obtain ⟨v, r, e, h, q⟩ := x.inv
  obtain ⟨u, t, e', h'⟩ := q.two
  exact ⟨v, u, t, by rw [e, e'], h, h'⟩
noncomputable def EntsV (w : World) (G : Gh) (es : List DictEntry) : List (Dt × Dt) → Prop
  | [] => es = []
  | p :: r => ∃ e q, es = e :: q ∧ e.hash = hashD w p.1 ∧ hk 6 p.1 = true ∧ Is w G e.key p.1 ∧ Is w G e.val p.2 ∧ IsEnts w G q r
theorem IsEnts.inv {es : List DictEntry} {kvs : List (Dt × Dt)} (x : IsEnts w G es kvs) : EntsV w G es kvs := x.ind (P := EntsV w G) rfl fun a b c d r _ => ⟨_, _, rfl, a, b, c, d, r⟩

theorem no_tl {a b : Array Value} {n m : Nat} (e : tupObj a n = lstObj b m) : False := by simp at e
theorem no_td {a : Array Value} {b : Array DictEntry} {n m : Nat} (e : tupObj a n = dicObj b m) : False := by simp at e
theorem no_ti {a : Array Value} {n : Nat} {C dx : Addr} (e : tupObj a n = ⟨.ref C, some dx, .plain, #[]⟩) : False := by simp at e
theorem no_ld {a : Array Value} {b : Array DictEntry} {n m : Nat} (e : lstObj a n = dicObj b m) : False := by simp at e
theorem no_li {a : Array Value} {n : Nat} {C dx : Addr} (e : lstObj a n = ⟨.ref C, some dx, .plain, #[]⟩) : False := by simp at e
theorem no_di {a : Array DictEntry} {n : Nat} {C dx : Addr} (e : dicObj a n = ⟨.ref C, some dx, .plain, #[]⟩) : False := by simp at e
/-- what lies at an address, by its datum -/
noncomputable def IsO (w : World) (G : Gh) (o : Obj) : Dt → Prop
  | .tup ds => ∃ vs n, o = tupObj vs n ∧ IsAll w G vs.toList ds
  | .list ds => ∃ vs n, o = lstObj vs n ∧ IsAll w G vs.toList ds
  | .dict kvs => ∃ es n, o = dicObj es n ∧ IsEnts w G es.toList kvs
  | .inst C fs => ∃ dx es n, o = ⟨.ref C, some dx, .plain, #[]⟩ ∧ G dx = some (dicObj es n) ∧ IsFields w G es.toList fs
  | _ => False
theorem at_ref {a : Addr} {o o' : Obj} {v : Value} (e : v = .ref a) {b : Addr} (e' : v = .ref b) (h : G a = some o) (h' : G b = some o') : o = o' := by
  rw [e] at e'
  cases e'
  exact Option.some.inj (h.symm.trans h')
theorem Is.atO {v : Value} {a : Addr} {o : Obj} {d : Dt} (x : Is w G v d) (ev : v = .ref a) (h : G a = some o) : IsO w G o d :=
  Is.rec (motive_1 := fun v d _ => v = .ref a → IsO w G o d) (motive_2 := fun _ _ _ => True) (motive_3 := fun _ _ _ => True) (motive_4 := fun _ _ _ => True)
    (fun e => nomatch e) (fun _ e => nomatch e) (fun _ _ e => nomatch e) (fun _ _ _ e => nomatch e) (fun q r _ e => ⟨_, _, at_ref e rfl h q, r⟩) (fun q r _ e => ⟨_, _, at_ref e rfl h q, r⟩) (fun q _ r _ _ e => ⟨_, _, at_ref e rfl h q, r⟩) (fun q t r _ _ e => ⟨_, _, _, at_ref e rfl h q, t, r⟩)
    trivial (fun _ _ _ _ => trivial) trivial (fun _ _ _ _ _ _ _ _ => trivial) trivial (fun _ _ _ _ => trivial) x ev
theorem Obj.seqI {c c' : Value} {a b : Array Value} {n m : Nat} (e : (⟨c, none, .seq a n, #[]⟩ : Obj) = ⟨c', none, .seq b m, #[]⟩) : a = b := by cases e; rfl
theorem Obj.dicI {a b : Array DictEntry} {n m : Nat} (e : dicObj a n = dicObj b m) : a = b := by cases e; rfl
theorem IsO.tup {vs : Array Value} {n : Nat} {d : Dt} (x : IsO w G (tupObj vs n) d) : ∃ ds, d = .tup ds ∧ IsAll w G vs.toList ds :=
  match d, x with
  | .tup ds, ⟨_, _, e, h⟩ => ⟨ds, rfl, Obj.seqI e ▸ h⟩
  | .list _, ⟨_, _, e, _⟩ => (no_tl e).elim
  | .dict _, ⟨_, _, e, _⟩ => (no_td e).elim
  | .inst _ _, ⟨_, _, _, e, _⟩ => (no_ti e).elim
theorem IsO.list {vs : Array Value} {n : Nat} {d : Dt} (x : IsO w G (lstObj vs n) d) : ∃ ds, d = .list ds ∧ IsAll w G vs.toList ds :=
  match d, x with
  | .list ds, ⟨_, _, e, h⟩ => ⟨ds, rfl, Obj.seqI e ▸ h⟩
  | .tup _, ⟨_, _, e, _⟩ => (no_tl e.symm).elim
  | .dict _, ⟨_, _, e, _⟩ => (no_ld e).elim
  | .inst _ _, ⟨_, _, _, e, _⟩ => (no_li e).elim
theorem IsO.dict {es : Array DictEntry} {n : Nat} {d : Dt} (x : IsO w G (dicObj es n) d) : ∃ kvs, d = .dict kvs ∧ IsEnts w G es.toList kvs :=
  match d, x with
  | .dict ds, ⟨_, _, e, h⟩ => ⟨ds, rfl, Obj.dicI e ▸ h⟩
  | .tup _, ⟨_, _, e, _⟩ => (no_td e.symm).elim
  | .list _, ⟨_, _, e, _⟩ => (no_ld e.symm).elim
  | .inst _ _, ⟨_, _, _, e, _⟩ => (no_di e).elim
theorem IsO.inst {C dx : Addr} {d : Dt} (x : IsO w G ⟨.ref C, some dx, .plain, #[]⟩ d) : ∃ es n fs, d = .inst C fs ∧ G dx = some (dicObj es n) ∧ IsFields w G es.toList fs :=
  match d, x with
  | .inst _ fs, ⟨_, es, n, e, q, h⟩ => ⟨es, n, fs, by cases e; rfl, by cases e; exact q, h⟩
  | .tup _, ⟨_, _, e, _⟩ => (no_ti e.symm).elim
  | .list _, ⟨_, _, e, _⟩ => (no_li e.symm).elim
  | .dict _, ⟨_, _, e, _⟩ => (no_di e.symm).elim
/-- the data that a value can be, when it is no address -/
noncomputable def NoRef (v : Value) (d : Dt) : Prop := match v with
  | .none => d = .none
  | .bool b => d = .bool b
  | .int i _ => d = .int i
  | .str x _ => d = .str x
  | _ => True
theorem Is.noref {v : Value} {d : Dt} (x : Is w G v d) : NoRef v d :=
  Is.rec (motive_1 := fun v d _ => NoRef v d) (motive_2 := fun _ _ _ => True) (motive_3 := fun _ _ _ => True) (motive_4 := fun _ _ _ => True)
    rfl (fun _ => rfl) (fun _ _ => rfl) (fun _ _ _ => rfl) (fun _ _ _ => trivial) (fun _ _ _ => trivial) (fun _ _ _ _ _ => trivial) (fun _ _ _ _ _ => trivial)
    trivial (fun _ _ _ _ => trivial) trivial (fun _ _ _ _ _ _ _ _ => trivial) trivial (fun _ _ _ _ => trivial) x
theorem Is.det {v : Value} {d d' : Dt} (x : Is w G v d) (y : Is w G v d') : d = d' :=
  Is.rec (motive_1 := fun v d _ => ∀ d', Is w G v d' → d = d') (motive_2 := fun vs ds _ => ∀ ds', IsAll w G vs ds' → ds = ds') (motive_3 := fun es kvs _ => ∀ k', IsEnts w G es k' → kvs = k') (motive_4 := fun es fs _ => ∀ f', IsFields w G es f' → fs = f')
    (fun _ y => y.noref.symm) (fun _ _ y => y.noref.symm) (fun _ _ _ y => y.noref.symm) (fun _ _ _ _ y => y.noref.symm)
    (fun a _ ih _ y => let ⟨_, e, h⟩ := (y.atO rfl a).tup; (congrArg Dt.tup (ih _ h)).trans e.symm)
    (fun a _ ih _ y => let ⟨_, e, h⟩ := (y.atO rfl a).list; (congrArg Dt.list (ih _ h)).trans e.symm)
    (fun a _ _ _ ih _ y => let ⟨_, e, h⟩ := (y.atO rfl a).dict; (congrArg Dt.dict (ih _ h)).trans e.symm)
    (fun a b _ _ ih _ y => let ⟨_, _, _, e, q, h⟩ := (y.atO rfl a).inst; (congrArg (Dt.inst _) (ih _ (Obj.dicI (Option.some.inj (q.symm.trans b)) ▸ h))).trans e.symm)
    (fun _ y => y.invD.symm) (fun _ _ ih ih' _ y => let ⟨_, _, e, h, r⟩ := y.invD; (congr (congrArg List.cons (ih _ h)) (ih' _ r)).trans e.symm)
    (fun _ y => IsEnts.rec (motive_1 := fun _ _ _ => True) (motive_2 := fun _ _ _ => True) (motive_3 := fun es kvs _ => es = [] → [] = kvs) (motive_4 := fun _ _ _ => True)
      trivial (fun _ => trivial) (fun _ _ => trivial) (fun _ _ _ => trivial) (fun _ _ _ => trivial) (fun _ _ _ => trivial) (fun _ _ _ _ _ => trivial) (fun _ _ _ _ _ => trivial)
      trivial (fun _ _ _ _ => trivial) (fun _ => rfl) (fun _ _ _ _ _ _ _ _ e => nomatch e) trivial (fun _ _ _ _ => trivial) y rfl)
    (fun _ _ _ _ _ ih ih' ih'' _ y => by cases y with | cons _ _ c d r => rw [ih _ c, ih' _ d, ih'' _ r])
    (fun _ y => by cases y; rfl) (fun _ _ ih ih' _ y => by cases y with | cons d r => rw [ih _ d, ih' _ r])
    x d' y

theorem IsAll_rm {a : Addr} {ds₀ : List Dt} {vs₀ : Array Value} {n₀ : Nat} (ha₀ : G a = some (lstObj vs₀ n₀)) (h₀ : Is w G (.ref a) (.list ds₀)) {vs : List Value} {ds : List Dt} (x : IsAll w G vs ds) (hl : sizeOf ds ≤ sizeOf (Dt.list ds₀)) : IsAll w (rm G a) vs ds :=
  have ne : ∀ {b : Addr} {d : Dt}, Is w G (.ref b) d → sizeOf d < sizeOf (Dt.list ds₀) → b ≠ a := fun i hl q => by subst q; rw [h₀.det i] at hl; exact Nat.lt_irrefl _ hl
  have get : ∀ {b : Addr} {o : Obj}, b ≠ a → G b = some o → rm G a b = some o := fun n e => (if_neg n).trans e
  have c1 : ∀ {x : Nat} {y : Nat}, 1 + x < y → x ≤ y := fun h => by omega
  have c2 : ∀ {x y z : Nat}, 1 + x + y ≤ z → x < z := fun h => by omega
  have c3 : ∀ {x y z : Nat}, 1 + x + y ≤ z → y ≤ z := fun h => by omega
  IsAll.rec (motive_1 := fun v d _ => sizeOf d < sizeOf (Dt.list ds₀) → Is w (rm G a) v d) (motive_2 := fun vs ds _ => sizeOf ds ≤ sizeOf (Dt.list ds₀) → IsAll w (rm G a) vs ds)
    (motive_3 := fun es kvs _ => sizeOf kvs ≤ sizeOf (Dt.list ds₀) → IsEnts w (rm G a) es kvs) (motive_4 := fun es fs _ => sizeOf fs ≤ sizeOf (Dt.list ds₀) → IsFields w (rm G a) es fs)
    (fun _ => .none) (fun b _ => .bool b) (fun i t _ => .int i t) (fun x t h _ => .str x t h)
    (fun h hs ih hl => .tup (get (ne (.tup h hs) hl) h) (ih (c1 (Dt.tup.sizeOf_spec _ ▸ hl)))) (fun h hs ih hl => .list (get (ne (.list h hs) hl) h) (ih (Nat.le_trans (c1 (Dt.list.sizeOf_spec _ ▸ hl)) (Nat.le_refl _))))
    (fun h m hs n ih hl => .dict (get (ne (.dict h m hs n) hl) h) m (ih (c1 (Dt.dict.sizeOf_spec _ ▸ hl))) n)
    (fun h q hs n ih hl => .inst (get (ne (.inst h q hs n) hl) h) (get (fun e => by subst e; exact no_ld (Option.some.inj (ha₀.symm.trans q))) q) (ih (Nat.le_trans (Nat.le_add_left _ _) (Nat.le_of_lt (Dt.inst.sizeOf_spec _ _ ▸ hl)))) n)
    (fun _ => .nil) (fun _ _ ih ih' hl => .cons (ih (c2 hl)) (ih' (c3 hl)))
    (fun _ => .nil) (fun p q _ _ _ ih ih' ih'' hl => .cons p q (ih (Nat.lt_trans (Nat.lt_of_lt_of_le (Nat.lt_add_of_pos_left (by decide)) (Nat.le_add_right _ _)) (c2 hl))) (ih' (Nat.lt_trans (Nat.lt_add_of_pos_left (Nat.lt_of_lt_of_le (by decide) (Nat.le_add_right _ _))) (c2 hl))) (ih'' (c3 hl)))
    (fun _ => .nil) (fun _ _ ih ih' hl => .cons (ih (Nat.lt_trans (Nat.lt_add_of_pos_left (Nat.lt_of_lt_of_le (by decide) (Nat.le_add_right _ _))) (c2 hl))) (ih' (c3 hl)))
    x hl

theorem IsAll.length {vs : List Value} {ds : List Dt} (x : IsAll w G vs ds) : vs.length = ds.length := x.ind (P := fun vs ds => vs.length = ds.length) rfl fun _ _ ih => congrArg (· + 1) ih
theorem IsAll.get {vs : List Value} {ds : List Dt} {i : Nat} {d : Dt} (x : IsAll w G vs ds) (e : ds[i]? = some d) : ∃ v, vs[i]? = some v ∧ Is w G v d :=
  x.ind (P := fun vs ds => ∀ i, ds[i]? = some d → ∃ v, vs[i]? = some v ∧ Is w G v d) (fun _ e => nomatch List.getElem?_nil.symm.trans e)
    (fun h _ ih i => match i with
      | 0 => fun e => ⟨_, rfl, Option.some.inj e ▸ h⟩
      | i + 1 => fun e => ih i e) i e
theorem IsAll.append {vs us : List Value} {ds es : List Dt} (x : IsAll w G vs ds) (y : IsAll w G us es) : IsAll w G (vs ++ us) (ds ++ es) := x.ind (P := fun vs ds => IsAll w G (vs ++ us) (ds ++ es)) y fun h _ r => .cons h r
theorem IsAll.take {vs : List Value} {ds : List Dt} (i : Nat) (x : IsAll w G vs ds) : IsAll w G (vs.take i) (ds.take i) :=
  x.ind (P := fun vs ds => ∀ i, IsAll w G (vs.take i) (ds.take i)) (fun i => by rw [List.take_nil, List.take_nil]; exact .nil)
    (fun h _ ih i => match i with
      | 0 => .nil
      | i + 1 => .cons h (ih i)) i
theorem IsAll.drop {vs : List Value} {ds : List Dt} (i : Nat) (x : IsAll w G vs ds) : IsAll w G (vs.drop i) (ds.drop i) :=
  x.ind (P := fun vs ds => ∀ i, IsAll w G (vs.drop i) (ds.drop i)) (fun i => by rw [List.drop_nil, List.drop_nil]; exact .nil)
    (fun h r ih i => match i with
      | 0 => .cons h r
      | i + 1 => ih i) i
theorem IsAll.snoc {vs : List Value} {ds : List Dt} {v : Value} {d : Dt} (x : IsAll w G vs ds) (y : Is w G v d) : IsAll w G (vs ++ [v]) (ds ++ [d]) := x.append (.cons y .nil)
end
end Mine
end

section
open PySem PySem.Spec PySem.Calls PyProof.Rows
namespace Mine
open scoped Classical

mutual
noncomputable def py : Dt → PyData
  | .none => .none
  | .bool b => .bool b
  | .int i => .int i
  | .str s => .str s
  | .tup l => .tuple (pys l)
  | .list l => .list (pys l)
  | .dict _ => .none
  | .inst _ _ => .none
noncomputable def pys : List Dt → List PyData
  | [] => []
  | d :: r => py d :: pys r
end
/-- plain data: no bools, dicts, objects; at most n levels -/
noncomputable def pl : Nat → Dt → Bool
  | _, .none => true
  | _, .int _ => true
  | _, .str _ => true
  | n + 1, .tup l => l.all (pl n)
  | n + 1, .list l => l.all (pl n)
  | _, _ => false

theorem pl_cases {n : Nat} {d : Dt} (h : pl n d = true) : d = .none ∨ (∃ i, d = .int i) ∨ (∃ x, d = .str x) ∨ (∃ m l, n = m + 1 ∧ d = .tup l ∧ ∀ x ∈ l, pl m x = true) ∨ ∃ m l, n = m + 1 ∧ d = .list l ∧ ∀ x ∈ l, pl m x = true := by
  cases d with
  | none => exact .inl rfl
  | int i => exact .inr (.inl ⟨i, rfl⟩)
  | str x => exact .inr (.inr (.inl ⟨x, rfl⟩))
  | tup l =>
    cases n with
    | zero => exact absurd h Bool.false_ne_true
    | succ m => exact .inr (.inr (.inr (.inl ⟨m, l, rfl, rfl, List.all_eq_true.mp h⟩)))
  | list l =>
    cases n with
    | zero => exact absurd h Bool.false_ne_true
    | succ m => exact .inr (.inr (.inr (.inr ⟨m, l, rfl, rfl, List.all_eq_true.mp h⟩)))
  | _ => cases n <;> exact absurd h Bool.false_ne_true
theorem hk_cases {n : Nat} {d : Dt} (h : hk n d = true) : (∃ i, d = .int i) ∨ (∃ x, d = .str x) ∨ ∃ m l, n = m + 1 ∧ d = .tup l ∧ ∀ x ∈ l, hk m x = true := by
  cases d with
  | int i => exact .inl ⟨i, rfl⟩
  | str x => exact .inr (.inl ⟨x, rfl⟩)
  | tup l =>
    cases n with
    | zero => exact absurd h Bool.false_ne_true
    | succ m => exact .inr (.inr ⟨m, l, rfl, rfl, List.all_eq_true.mp h⟩)
  | _ => cases n <;> exact absurd h Bool.false_ne_true
theorem pl_of_hk : ∀ (n : Nat) (d : Dt), hk n d = true → pl n d = true := by
  intro n
  induction n using Nat.strongRecOn with
  | ind n ih =>
    intro d h
    rcases hk_cases h with ⟨i, rfl⟩ | ⟨x, rfl⟩ | ⟨m, l, rfl, rfl, hl⟩
    · cases n <;> rfl
    · cases n <;> rfl
    · exact List.all_eq_true.mpr fun x hx => ih m (Nat.lt_succ_self m) x (hl x hx)

section
variable {w : World} {G : Gh} {h : Heap}
/-- what the library's reader of plain data is told -/
noncomputable def RdOk (h : Heap) (n : Nat) (v : Value) (d : Dt) : Prop := ∃ as, Reads h v (py d) as ∧ (py d).canLay0 = true ∧ (py d).depth ≤ n
theorem IsAll.reads_of {n : Nat} {vs : List Value} {ds : List Dt} (ih : ∀ {v : Value} {d : Dt}, Is w G v d → pl n d = true → RdOk h n v d) (x : IsAll w G vs ds) :
    (∀ d ∈ ds, pl n d = true) → ∃ as, ReadsAll h vs (pys ds) as ∧ PyData.canLayAll0 (pys ds) = true ∧ PyData.depthAll (pys ds) ≤ n :=
  x.ind (P := fun vs ds => (∀ d ∈ ds, pl n d = true) → ∃ as, ReadsAll h vs (pys ds) as ∧ PyData.canLayAll0 (pys ds) = true ∧ PyData.depthAll (pys ds) ≤ n)
    (fun _ => ⟨_, .nil, by rw [pys, PyData.canLayAll0], by rw [pys, PyData.depthAll]; exact Nat.zero_le _⟩) fun i _ r hp => by
      obtain ⟨as, q, l, m⟩ := ih i (hp _ (.head _))
      obtain ⟨bs, q', l', m'⟩ := r fun d hm => hp d (.tail _ hm)
      rw [pys]
      exact ⟨_, .cons q q', by rw [PyData.canLayAll0, l, l']; rfl, by rw [PyData.depthAll]; exact Nat.max_le.mpr ⟨m, m'⟩⟩
theorem Is.reads (gh : InH G h) (n : Nat) : ∀ {v : Value} {d : Dt}, Is w G v d → pl n d = true → RdOk h n v d := by
  induction n using Nat.strongRecOn with
  | ind n ih =>
    intro v d i hp
    rcases pl_cases hp with rfl | ⟨i', rfl⟩ | ⟨x, rfl⟩ | ⟨m, ds, rfl, rfl, hd⟩ | ⟨m, ds, rfl, rfl, hd⟩
    · obtain rfl := i.inv
      exact ⟨_, .none, by rw [py, PyData.canLay0], by rw [py, PyData.depth]; exact Nat.zero_le _⟩
    · obtain ⟨t, rfl⟩ := i.inv
      exact ⟨_, .int i' t, by rw [py, PyData.canLay0], by rw [py, PyData.depth]; exact Nat.zero_le _⟩
    · obtain ⟨t, rfl, hs⟩ := i.inv
      exact ⟨_, .str x t, by rw [py, PyData.canLay0]; exact hs, by rw [py, PyData.depth]; exact Nat.zero_le _⟩
    · obtain ⟨a, vs, k, rfl, ha, hs⟩ := i.inv
      obtain ⟨as, r, l, q⟩ := hs.reads_of (ih m (Nat.lt_succ_self m)) hd
      exact ⟨as, by rw [py]; exact .tuple (gh _ _ ha) rfl rfl r, by rw [py, PyData.canLay0]; exact l, by rw [py, PyData.depth]; lia⟩
    · obtain ⟨a, vs, k, rfl, ha, hs⟩ := i.inv
      obtain ⟨as, r, l, q⟩ := hs.reads_of (ih m (Nat.lt_succ_self m)) hd
      exact ⟨a :: as, by rw [py]; exact .list (gh _ _ ha) rfl rfl r, by rw [py, PyData.canLay0]; exact l, by rw [py, PyData.depth]; lia⟩
end

theorem pys_eqv {n k : Nat} (ih : ∀ d e, pl n d = true → pl k e = true → (PyData.eqv (py d) (py e) = true ↔ d = e)) (ds : List Dt) : ∀ es : List Dt, (∀ d ∈ ds, pl n d = true) → (∀ d ∈ es, pl k d = true) → (PyData.eqvAll (pys ds) (pys es) = true ↔ ds = es) := by
  induction ds with
  | nil =>
    intro es _ _
    cases es with
    | nil => exact ⟨fun _ => rfl, fun _ => by rw [pys, PyData.eqvAll]⟩
    | cons e es => exact ⟨fun h => absurd (by rwa [pys, pys, PyData.eqvAll] at h) Bool.false_ne_true, fun h => nomatch h⟩
  | cons d ds hi =>
    intro es h1 h2
    cases es with
    | nil => exact ⟨fun h => absurd (by rwa [pys, pys, PyData.eqvAll] at h) Bool.false_ne_true, fun h => nomatch h⟩
    | cons e es => rw [pys, pys, PyData.eqvAll, Bool.and_eq_true, ih d e (h1 d (.head _)) (h2 e (.head _)), hi es (fun x hx => h1 x (.tail _ hx)) fun x hx => h2 x (.tail _ hx), List.cons.injEq]
theorem eqv_no {d e : Dt} (h : PyData.eqv (py d) (py e) = false) (q : d = e → False) : PyData.eqv (py d) (py e) = true ↔ d = e := ⟨fun x => absurd (h.symm.trans x) Bool.false_ne_true, fun x => (q x).elim⟩
theorem eqv_py (n : Nat) : ∀ (d e : Dt) (k : Nat), pl n d = true → pl k e = true → (PyData.eqv (py d) (py e) = true ↔ d = e) := by
  induction n using Nat.strongRecOn with
  | ind n ih =>
    intro d e k h1 h2
    rcases pl_cases h1 with rfl | ⟨i, rfl⟩ | ⟨x, rfl⟩ | ⟨m, ds, rfl, rfl, hd⟩ | ⟨m, ds, rfl, rfl, hd⟩ <;> rcases pl_cases h2 with rfl | ⟨j, rfl⟩ | ⟨y, rfl⟩ | ⟨m', es, rfl, rfl, he⟩ | ⟨m', es, rfl, rfl, he⟩
    case inr.inl.inr.inl => rw [py, py, PyData.eqv, beq_iff_eq, Dt.int.injEq]
    case inr.inr.inl.inr.inr.inl => rw [py, py, PyData.eqv, beq_iff_eq, Dt.str.injEq]
    case inr.inr.inr.inl.inr.inr.inr.inl => rw [py, py, PyData.eqv, Dt.tup.injEq]; exact pys_eqv (fun d e a b => ih m (Nat.lt_succ_self m) d e m' a b) ds es hd he
    case inr.inr.inr.inr.inr.inr.inr.inr => rw [py, py, PyData.eqv, Dt.list.injEq]; exact pys_eqv (fun d e a b => ih m (Nat.lt_succ_self m) d e m' a b) ds es hd he
    case inl.inl => exact ⟨fun _ => rfl, fun _ => by rw [py, PyData.eqv]⟩
    all_goals exact eqv_no (by rw [py, py, PyData.eqv]) nofun

theorem eqv_dec {n k : Nat} {d e : Dt} (h1 : pl n d = true) (h2 : pl k e = true) : PyData.eqv (py d) (py e) = decide (d = e) := by
  have q := eqv_py n d e k h1 h2
  by_cases hq : d = e
  · rw [decide_eq_true hq]; exact q.mpr hq
  · rw [decide_eq_false hq]; exact Bool.eq_false_iff.mpr fun x => hq (q.mp x)

section
variable {prog : Program} {w : World} {A : Around} {E : Value → Shared → Prop} {s : Shared} {G : Gh} {u v : Value} {d e : Dt}

theorem eqBool_D {n k : Nat} {Q : Bool → Shared → Prop} (gh : InH G s.heap) (hu : Is w G u d) (hv : Is w G v e) (pd : pl n d = true) (pe : pl k e = true) (hn : n ≤ 60) (hA : A.units + 64 < cLine)
    (h : Q (decide (d = e)) s) : wpAny (model prog w) A (eqBool u v) Q E s := by
  refine nn fun hno_ => ?_
  obtain ⟨as, r, l, q⟩ := hu.reads gh n pd
  refine hno_ ?_
  refine nn fun hno_ => ?_
  obtain ⟨bs, r', l', q'⟩ := hv.reads gh k pe
  refine hno_ ?_
  exact SeqAt.eqAt_reads _ _ A s _ _ _ _ r r' l l' (Nat.lt_of_le_of_lt (Nat.add_le_add_left (Nat.le_trans (Nat.min_le_left _ _) q) _) (by lia)) prog w E Q (by rw [eqv_dec pd pe]; exact h)

theorem cmpEq_D {n k : Nat} {Q : Value → Shared → Prop} (gh : InH G s.heap) (hu : Is w G u d) (hv : Is w G v e) (pd : pl n d = true) (pe : pl k e = true) (hn : n ≤ 60) (hk : k ≤ 60) (hA : A.units + 64 < cLine)
    (h : Q (.bool (decide (d = e))) s) : wpAny (model prog w) A (compareOp .Eq u v) Q E s := by
  obtain ⟨as, r, l, q⟩ := hu.reads gh n pd
  obtain ⟨bs, r', l', q'⟩ := hv.reads gh k pe
  refine eq_dataH r r' ?_ ?_ hA (by rw [eqv_dec pd pe]; exact h)
  · unfold SeqAt.shaped; rw [l, Bool.true_and]; exact decide_eq_true (by lia)
  · unfold SeqAt.shaped; rw [l', Bool.true_and]; exact decide_eq_true (by lia)
theorem cmpNe_D {n k : Nat} {Q : Value → Shared → Prop} (gh : InH G s.heap) (hu : Is w G u d) (hv : Is w G v e) (pd : pl n d = true) (pe : pl k e = true) (hn : n ≤ 60) (hk : k ≤ 60) (hA : A.units + 64 < cLine)
    (h : Q (.bool (!decide (d = e))) s) : wpAny (model prog w) A (compareOp .NotEq u v) Q E s := by
  obtain ⟨as, r, l, q⟩ := hu.reads gh n pd
  obtain ⟨bs, r', l', q'⟩ := hv.reads gh k pe
  refine ne_dataH r r' ?_ ?_ hA (by rw [eqv_dec pd pe]; exact h)
  · unfold SeqAt.shaped; rw [l, Bool.true_and]; exact decide_eq_true (by lia)
  · unfold SeqAt.shaped; rw [l', Bool.true_and]; exact decide_eq_true (by lia)

theorem any_py {n k : Nat} {ds : List Dt} (pd : ∀ d ∈ ds, pl n d = true) (pe : pl k e = true) : ((pys ds).any fun y => PyData.eqv y (py e)) = decide (e ∈ ds) := by
  induction ds with
  | nil => simp [pys]
  | cons d ds ih =>
    rw [pys, List.any_cons, ih fun x hx => pd x (.tail _ hx), eqv_dec (pd d (.head _)) pe]
    by_cases h1 : d = e <;> by_cases h2 : e ∈ ds <;> simp [h1, h2, eq_comm]
    all_goals exact fun q => h1 q.symm

theorem notInList_D {n k : Nat} {Q : Value → Shared → Prop} {ds : List Dt} (gh : InH G s.heap) (hu : Is w G u e) (hv : Is w G v (.list ds)) (pe : pl n e = true) (pd : ∀ d ∈ ds, pl k d = true) (hn : n ≤ 60) (hA : A.units + 64 < cLine)
    (h : Q (.bool (!decide (e ∈ ds))) s) : wpAny (model prog w) A (compareOp .NotIn u v) Q E s := by
  refine nn fun hno_ => ?_
  obtain ⟨as, r, l, q⟩ := hu.reads gh n pe
  refine hno_ ?_
  obtain ⟨bs, r', l', q'⟩ := hv.reads gh (k + 1) (List.all_eq_true.mpr pd)
  rw [py] at r' l'
  exact SeqAt.notIn_list_reads r' r l' l (by have := Nat.min_le_right (PyData.depthAll (pys ds)) (py e).depth; lia) (by rw [any_py pd pe]; exact h)
end
end Mine
end

section
open PySem PySem.Spec PySem.Calls PyProof.Rows
namespace Mine
open scoped Classical

section
variable {prog : Program} {w : World} {E : Value → Shared → Prop} {G : Gh}

theorem pyHash_D (n : Nat) : ∀ {A : Around} {s : Shared} {v : Value} {d : Dt} {Q : Int → Shared → Prop}, hk n d = true → Is w G v d → InH G s.heap → A.units + 2 * n < cLine →
    (∀ tk, Q (hashD w d) { s with toks := tk }) → wpAny (model prog w) A (pyHash v) Q E s := by
  induction n using Nat.strongRecOn with
  | ind n ih =>
    intro A s v d Q hd h gh hu q
    rcases hk_cases hd with ⟨i, rfl⟩ | ⟨x, rfl⟩ | ⟨n, ds, rfl, rfl, hd'⟩
    · obtain ⟨t, rfl⟩ := h.inv
      exact wpAny_pyHash_int (by have := q (s.toks + 1); rw [hashD] at this; exact this)
    · obtain ⟨t, rfl, _⟩ := h.inv
      exact wpAny_pyHash_str (by have := q (s.toks + 1); rw [hashD] at this; exact this)
    obtain ⟨a, vs, ep, rfl, ha, hs⟩ := h.inv
    replace ih := @ih n (Nat.lt_succ_self n)
    clear h hd
    have hT : s.TypeIs (.ref a) "tuple" := ⟨_, gh _ _ ha, rfl⟩
    show wpAny _ _ (pyHashByItsType (.ref a)) Q E s
    refine wpAny_bind (wpAny_cRoomFor_or (.inr (by lia)) ?_)
    refine wpAny_bind (wpAny_specialOf hT F.slot_tuple_hash.lookup ?_)
    refine wpAny_bind (wpAny_specialOf hT F.slot_tuple_hash.lookup ?_)
    refine wpAny_bind (wpAny_callSpecialIfBoundUnlessNone?_slot hT F.slot_tuple_hash (wpAny_call_entry F.slot_tuple_hash hT F.entry_tuple_hash ?_ (F.args_tuple_hash_1 _)))
    show wpAny _ _ (Builtin.Tuple.tupleItemsOf (.ref a) >>= _) _ _ s
    refine wpAny_bind (wpAny_tupleItemsOf (gh _ _ ha) rfl ?_)
    refine wpAny_bind ?_
    rw [← Array.forIn_toList]
    refine wpAny_forIn_list _
      (fun rest (b : Array Int) s' => ∃ done left tk, ds = done ++ left ∧ IsAll w G rest left ∧ b.toList = done.map (hashD w) ∧ s' = { s with toks := tk })
      _ ?_ ?_ _ _ ⟨[], ds, s.toks, rfl, hs, rfl, rfl⟩
    · rintro x rest b s' ⟨done, left, tk, rfl, hl, hb, rfl⟩
      obtain ⟨d, ds', rfl, h1, h2⟩ := hl.invD
      · refine wpAny_bind (ih (s := { s with toks := tk }) (hd' d (by simp)) h1 gh (by show A.units + 1 + 2 * n < cLine; lia) fun tk' => ?_)
        first
          | exact wpAny_pure ⟨done ++ [d], ds', tk', by simp, h2, by simp [hb], rfl⟩
          | exact wpAny_bind (wpAny_pure (wpAny_pure ⟨done ++ [d], ds', tk', by simp, h2, by simp [hb], rfl⟩))
    · intro b s' hI_
      refine nn fun hno_ => ?_
      obtain ⟨done, left, tk, rfl, hl, hb, rfl⟩ := hI_
      refine hno_ ?_
      obtain rfl := hl.invD
      rw [List.append_nil] at q
      show wpAny _ _ (retInt (Builtin.Tuple.tupleHashOf b.toList)) _ _ _
      rw [hb]
      refine wpAny_ret_mkInt ?_
      have q' := q (tk + 1)
      rw [hashD, hashDs_eq] at q'
      show wpAny _ _ (if (decide (-(2 : Int) ^ 63 ≤ Builtin.Tuple.tupleHashOf (done.map (hashD w))) && decide (Builtin.Tuple.tupleHashOf (done.map (hashD w)) < 2 ^ 63)) = true then _ else _) Q E _
      unfold reduceHash at q'
      split
      · rename_i hr; rw [if_pos hr] at q'; exact wpAny_pure q'
      · rename_i hr; rw [if_neg hr] at q'; exact wpAny_bind (wpAny_rule (wpAny_pure q'))

theorem quiet_D (n : Nat) : ∀ (m : Nat) {A : Around} {s : Shared} {v : Value} {d : Dt} {Q : Bool → Shared → Prop}, hk n d = true → n ≤ m → Is w G v d → InH G s.heap → Q true s →
    wpAny (model prog w) A (eqIsQuiet m v) Q E s := by
  induction n using Nat.strongRecOn with
  | ind n ih =>
    intro m A s v d Q hd hm h gh q
    rcases hk_cases hd with ⟨i, rfl⟩ | ⟨x, rfl⟩ | ⟨n, ds, rfl, rfl, hd'⟩
    · obtain ⟨t, rfl⟩ := h.inv
      rw [eqIsQuiet_byValue _ rfl]; exact wpAny_pure q
    · obtain ⟨t, rfl, _⟩ := h.inv
      rw [eqIsQuiet_byValue _ rfl]; exact wpAny_pure q
    obtain ⟨a, vs, ep, rfl, ha, hs⟩ := h.inv
    replace ih := @ih n (Nat.lt_succ_self n)
    clear h hd
    obtain ⟨m, rfl⟩ : ∃ k, m = k + 1 := ⟨m - 1, by lia⟩
    have hT : s.TypeIs (.ref a) "tuple" := ⟨_, gh _ _ ha, rfl⟩
    unfold eqIsQuiet
    refine wpAny_bind (wpAny_specialOf hT F.slot_tuple_eq.lookup ?_)
    refine wpAny_bind (wpAny_isInstance hT isSubtype_tuple_tuple ?_)
    refine wpAny_bind (wpAny_seqItems (gh _ _ ha) rfl ?_)
    refine wpAny_bind ?_
    rw [← Array.forIn_toList]
    refine wpAny_forIn_list _ (fun rest r s' => r.1 = none ∧ s' = s ∧ ∃ left, IsAll w G rest left ∧ ∀ x ∈ left, hk n x = true) _ ?_ ?_ _ _ ⟨rfl, rfl, ds, hs, hd'⟩
    · intro v rest r s' hI_
      refine nn fun hno_ => ?_
      obtain ⟨hr, rfl, left, hl, hall⟩ := hI_
      refine hno_ ?_
      obtain ⟨d, ds', rfl, h1, h2⟩ := hl.invD
      · refine wpAny_bind (ih m (hall d (by simp)) (by lia) h1 gh ?_)
        exact wpAny_pure ⟨rfl, rfl, ds', h2, fun x hx => hall x (by simp [hx])⟩
    · rintro ⟨r1, r2⟩ s' ⟨hr, rfl, _⟩
      simp only at hr
      subst hr
      exact wpAny_pure q
end

/-! the functions of a dict -/
noncomputable def dIdx (kvs : List (Dt × Dt)) (k : Dt) : Option Nat := kvs.findIdx? fun p => decide (p.1 = k)
noncomputable def dget (kvs : List (Dt × Dt)) (k : Dt) : Option Dt := (kvs.find? fun p => decide (p.1 = k)).map (·.2)
noncomputable def dhas (kvs : List (Dt × Dt)) (k : Dt) : Bool := (dget kvs k).isSome
noncomputable def dset (kvs : List (Dt × Dt)) (k v : Dt) : List (Dt × Dt) := if dhas kvs k then kvs.map (fun p => if p.1 = k then (p.1, v) else p) else kvs ++ [(k, v)]
noncomputable def ddel (kvs : List (Dt × Dt)) (k : Dt) : List (Dt × Dt) := kvs.filter fun p => !decide (p.1 = k)

theorem dIdx_of {kvs : List (Dt × Dt)} {k : Dt} (hn : (kvs.map (·.1)).Nodup) {i : Nat} {d : Dt} (h : kvs[i]? = some (k, d)) : dIdx kvs k = some i := by
  unfold dIdx
  obtain ⟨hl, he⟩ := List.getElem?_eq_some_iff.mp h
  rw [List.findIdx?_eq_some_iff_getElem]
  refine ⟨hl, by rw [he]; simp, fun j hj => ?_⟩
  have hjl : j < kvs.length := by lia
  simp only [decide_eq_true_eq]
  intro hq
  have h1 : (kvs.map (·.1))[j]'(by simpa using hjl) = k := by simpa using hq
  have h2 : (kvs.map (·.1))[i]'(by simpa using hl) = k := by simp [he]
  have := (List.getElem?_inj (by simpa using hjl) hn).mp (show (kvs.map (·.1))[j]? = (kvs.map (·.1))[i]? by rw [List.getElem?_eq_getElem (by simpa using hjl), List.getElem?_eq_getElem (by simpa using hl), h1, h2])
  lia
theorem dIdx_none {kvs : List (Dt × Dt)} {k : Dt} (h : ∀ (i : Nat) (d : Dt), kvs[i]? ≠ some (k, d)) : dIdx kvs k = none := by
  unfold dIdx
  rw [List.findIdx?_eq_none_iff]
  intro x hx
  simp only [decide_eq_false_iff_not]
  rintro rfl
  obtain ⟨i, hi⟩ := List.mem_iff_getElem?.mp hx
  exact h i x.2 hi
theorem dIdx_some {kvs : List (Dt × Dt)} {k : Dt} {i : Nat} (h : dIdx kvs k = some i) : ∃ d, kvs[i]? = some (k, d) ∧ dget kvs k = some d := by
  unfold dIdx at h
  refine nn fun hno_ => ?_
  obtain ⟨hl, he, hj⟩ := List.findIdx?_eq_some_iff_getElem.mp h
  refine hno_ ?_
  have he' : kvs[i].1 = k := by simpa using he
  refine ⟨kvs[i].2, ?_, ?_⟩
  · rw [List.getElem?_eq_getElem hl, ← he']
  · unfold dget
    have : kvs.find? (fun p => decide (p.1 = k)) = some kvs[i] := by
      rw [List.find?_eq_some_iff_getElem]
      exact ⟨by simpa using he', i, hl, rfl, fun j hj' => by have := hj j hj'; simpa using this⟩
    rw [this]; rfl
theorem dget_none_of {kvs : List (Dt × Dt)} {k : Dt} (h : dIdx kvs k = none) : dget kvs k = none := by
  unfold dIdx at h
  unfold dget
  rw [List.findIdx?_eq_none_iff] at h
  have : kvs.find? (fun p => decide (p.1 = k)) = none := by
    rw [List.find?_eq_none]
    intro x hx
    have := h x hx
    simpa using this
  rw [this]; rfl
theorem keys_map_set (kvs : List (Dt × Dt)) (k v : Dt) : (kvs.map fun p => if p.1 = k then (p.1, v) else p).map (·.1) = kvs.map (·.1) := by
  rw [List.map_map]
  refine List.map_congr_left fun p _ => ?_
  simp only [Function.comp]
  split <;> rfl
theorem dget_none_iff {kvs : List (Dt × Dt)} {k : Dt} : dget kvs k = none ↔ k ∉ kvs.map (·.1) := by
  unfold dget
  rw [Option.map_eq_none_iff, List.find?_eq_none]
  constructor
  · intro h hm
    obtain ⟨p, hp, rfl⟩ := List.mem_map.mp hm
    exact absurd (decide_eq_true rfl) (h p hp)
  · intro h p hp
    simp only [decide_eq_true_eq]
    rintro rfl
    exact h (List.mem_map_of_mem hp)
theorem nodup_dset {kvs : List (Dt × Dt)} (hn : (kvs.map (·.1)).Nodup) (k v : Dt) : ((dset kvs k v).map (·.1)).Nodup := by
  unfold dset
  split
  · rw [keys_map_set]; exact hn
  · rename_i h
    have h' : dget kvs k = none := by unfold dhas at h; simpa using h
    rw [List.map_append, List.nodup_append]
    refine ⟨hn, by simp, ?_⟩
    intro a ha b hb
    simp at hb
    subst hb
    rintro rfl
    exact dget_none_iff.mp h' ha
theorem length_dset (kvs : List (Dt × Dt)) (k v : Dt) : (dset kvs k v).length ≤ kvs.length + 1 := by
  unfold dset; split <;> simp
theorem nodup_ddel {kvs : List (Dt × Dt)} (hn : (kvs.map (·.1)).Nodup) (k : Dt) : ((ddel kvs k).map (·.1)).Nodup :=
  hn.sublist (List.filter_sublist.map _)

section
variable {w : World} {G : Gh}
theorem IsEnts.length {es : List DictEntry} {kvs : List (Dt × Dt)} (x : IsEnts w G es kvs) : es.length = kvs.length := x.ind (P := fun es kvs => es.length = kvs.length) rfl fun _ _ _ _ _ ih => congrArg (· + 1) ih
theorem IsEnts.at {es : List DictEntry} {kvs : List (Dt × Dt)} {i : Nat} {e : DictEntry} (x : IsEnts w G es kvs) (h : es[i]? = some e) : ∃ k d, kvs[i]? = some (k, d) ∧ e.hash = hashD w k ∧ hk 6 k = true ∧ Is w G e.key k ∧ Is w G e.val d :=
  x.ind (P := fun es kvs => ∀ i, es[i]? = some e → ∃ k d, kvs[i]? = some (k, d) ∧ e.hash = hashD w k ∧ hk 6 k = true ∧ Is w G e.key k ∧ Is w G e.val d) (fun _ h => nomatch List.getElem?_nil.symm.trans h)
    (fun a b c d _ ih i => match i with
      | 0 => fun h => Option.some.inj h ▸ ⟨_, _, rfl, a, b, c, d⟩
      | i + 1 => fun h => ih i h) i h
theorem IsEnts.at' {es : List DictEntry} {kvs : List (Dt × Dt)} {i : Nat} {k d : Dt} (x : IsEnts w G es kvs) (h : kvs[i]? = some (k, d)) : ∃ e, es[i]? = some e ∧ e.hash = hashD w k ∧ hk 6 k = true ∧ Is w G e.key k ∧ Is w G e.val d :=
  x.ind (P := fun es kvs => ∀ i, kvs[i]? = some (k, d) → ∃ e, es[i]? = some e ∧ e.hash = hashD w k ∧ hk 6 k = true ∧ Is w G e.key k ∧ Is w G e.val d) (fun _ h => nomatch List.getElem?_nil.symm.trans h)
    (fun a b c d _ ih i => match i with
      | 0 => fun h => by cases h; exact ⟨_, rfl, a, b, c, d⟩
      | i + 1 => fun h => ih i h) i h
theorem IsEnts.snoc {es : List DictEntry} {kvs : List (Dt × Dt)} {e : DictEntry} {k d : Dt} (x : IsEnts w G es kvs) (a' : e.hash = hashD w k) (b' : hk 6 k = true) (c' : Is w G e.key k) (d' : Is w G e.val d) : IsEnts w G (es ++ [e]) (kvs ++ [(k, d)]) :=
  x.ind (P := fun es kvs => IsEnts w G (es ++ [e]) (kvs ++ [(k, d)])) (.cons a' b' c' d' .nil) fun a b c d _ ih => .cons a b c d ih
theorem key_mem {kvs : List (Dt × Dt)} {k d : Dt} {i : Nat} (h : kvs[i]? = some (k, d)) : k ∈ kvs.map (·.1) := List.mem_map_of_mem (f := (·.1)) (List.mem_of_getElem? h)
theorem IsEnts.modify {es : List DictEntry} {kvs : List (Dt × Dt)} {i : Nat} {k d₀ d : Dt} {v : Value} (x : IsEnts w G es kvs) (hn : (kvs.map (·.1)).Nodup) (h : kvs[i]? = some (k, d₀)) (hv : Is w G v d) :
    IsEnts w G (es.modify i fun e => { e with val := v }) (kvs.map fun p => if p.1 = k then (p.1, d) else p) :=
  x.ind (P := fun es kvs => ∀ i, (kvs.map (·.1)).Nodup → kvs[i]? = some (k, d₀) → IsEnts w G (es.modify i fun e => { e with val := v }) (kvs.map fun p => if p.1 = k then (p.1, d) else p)) (fun _ _ h => nomatch List.getElem?_nil.symm.trans h)
    (fun {_ es k' _ kvs} a b c d' r ih i hn => match i with
      | 0 => fun h => by
        cases h
        have hn := (List.nodup_cons.mp hn).1
        have : (kvs.map fun p => if p.1 = k then (p.1, d) else p) = kvs := (List.map_congr_left (g := id) fun p hp => if_neg fun (q : p.1 = k) => hn (q ▸ List.mem_map_of_mem (f := (·.1)) hp)).trans (List.map_id kvs)
        rw [List.modify_zero_cons, List.map_cons, this, if_pos rfl]
        exact .cons a b c hv r
      | i + 1 => fun h => by
        have hn := List.nodup_cons.mp hn
        rw [List.modify_succ_cons, List.map_cons, if_neg fun q => hn.1 ((show k' = k from q) ▸ key_mem (i := i) h)]
        exact .cons a b c d' (ih i hn.2 h)) i hn h
theorem IsEnts.filter {es : List DictEntry} {kvs : List (Dt × Dt)} {i : Nat} {k d₀ : Dt} (x : IsEnts w G es kvs) (hn : (kvs.map (·.1)).Nodup) (h : kvs[i]? = some (k, d₀)) : IsEnts w G (es.eraseIdx i) (ddel kvs k) :=
  x.ind (P := fun es kvs => ∀ i, (kvs.map (·.1)).Nodup → kvs[i]? = some (k, d₀) → IsEnts w G (es.eraseIdx i) (ddel kvs k)) (fun _ _ h => nomatch List.getElem?_nil.symm.trans h)
    (fun {_ es k' _ kvs} a b c d' r ih i hn => match i with
      | 0 => fun h => by
        cases h
        have hn := (List.nodup_cons.mp hn).1
        unfold ddel
        rw [List.filter_cons_of_neg (by rw [decide_eq_true rfl]; exact Bool.false_ne_true), List.filter_eq_self.mpr fun p hp => by rw [decide_eq_false fun (q : p.1 = k) => hn (q ▸ List.mem_map_of_mem (f := (·.1)) hp)]; rfl]
        exact r
      | i + 1 => fun h => by
        have hn := List.nodup_cons.mp hn
        have ih := ih i hn.2 h
        unfold ddel at ih ⊢
        rw [List.filter_cons_of_pos (by rw [decide_eq_false fun q => hn.1 ((show k' = k from q) ▸ key_mem (i := i) h)]; rfl)]
        exact .cons a b c d' ih) i hn h
end
end Mine
end

section
open PySem PySem.Spec PySem.Calls PyProof.Rows
namespace Mine
open scoped Classical

section
variable {prog : Program} {w : World} {A : Around} {E : Value → Shared → Prop} {s : Shared} {G : Gh}

theorem mem_places {n : Nat} {f : Nat → Option Int} {h : Int} {i : Nat} : i ∈ placesWithHash n f h ↔ i < n ∧ f i = some h := by
  unfold placesWithHash
  rw [List.mem_filter, List.mem_range, beq_iff_eq]
theorem nodup_places {n : Nat} {f : Nat → Option Int} {h : Int} : (placesWithHash n f h).Nodup := List.Nodup.sublist List.filter_sublist List.nodup_range

theorem tell_D {key : Value} {k : Dt} {stored : List Value} {Q : Bool → Shared → Prop} (gh : InH G s.heap) (hd : hk 6 k = true) (hkey : Is w G key k)
    (hst : ∀ v ∈ stored, ∃ k', hk 6 k' = true ∧ Is w G v k') (h : Q false s) : wpAny (model prog w) A (tableMayTell key stored) Q E s := by
  unfold tableMayTell
  split
  · exact wpAny_pure h
  · refine wpAny_bind (quiet_D 6 8 hd (by lia) hkey gh ?_)
    refine wpAny_bind ?_
    refine wpAny_forIn_list _ (fun rest r s' => s' = s ∧ r = (none, ()) ∧ ∀ v ∈ rest, ∃ k', hk 6 k' = true ∧ Is w G v k') _ ?_ ?_ _ _ ⟨rfl, rfl, hst⟩
    · rintro x rest r s' ⟨rfl, rfl, hr⟩
      refine nn fun hno_ => ?_
      obtain ⟨k', h1, h2⟩ := hr x List.mem_cons_self
      refine hno_ ?_
      clear hno_
      refine wpAny_bind (quiet_D 6 8 h1 (by lia) h2 gh ?_)
      exact wpAny_pure ⟨rfl, rfl, fun v hv => hr v (List.mem_cons_of_mem _ hv)⟩
    · rintro r s' ⟨rfl, rfl, _⟩
      exact wpAny_pure h

/-- a part of a goal is taken from the goal itself -/
theorem via {β : Type} {P : β → Prop} {C : Prop} (X : β) (main : P X → C) (pf : P X) : C := main pf

theorem key_kinds {key : Value} {k : Dt} (hd : hk 6 k = true) (hkey : Is w G key k) : (∃ i t, key = .int i t) ∨ (∃ x t, key = .str x t) ∨ (∃ a, key = .ref a) := by
  have q := hkey.inv
  cases k with
  | int i => obtain ⟨t, e⟩ := q; exact .inl ⟨_, _, e⟩
  | str x => obtain ⟨t, e, _⟩ := q; exact .inr (.inl ⟨_, _, e⟩)
  | tup => obtain ⟨a, _, _, e, _⟩ := q; exact .inr (.inr ⟨_, e⟩)
  | _ => exact absurd hd Bool.false_ne_true

theorem dictFind_D {d : Addr} {o : Obj} {es : Array DictEntry} {ep : Nat} {kvs : List (Dt × Dt)} {k : Dt} {key : Value} {Q : Option Nat → Shared → Prop} (gh : InH G s.heap) (hA : A.units + 64 < cLine)
    (hd : hk 6 k = true) (hkey : Is w G key k) (ho : s.heap.get? d = some o) (hdat : o.data = .dict es ep) (he : IsEnts w G es.toList kvs) (hn : (kvs.map (·.1)).Nodup)
    (h : Q (dIdx kvs k) s) : wpAny (model prog w) A (dictFind d key (hashD w k)) Q E s := by
  have at_ : ∀ {i : Nat} {e : DictEntry}, es[i]? = some e → ∃ k d, kvs[i]? = some (k, d) ∧ e.hash = hashD w k ∧ hk 6 k = true ∧ Is w G e.key k ∧ Is w G e.val d := fun h => he.at (by simpa using h)
  have eqb : ∀ {i : Nat} {e : DictEntry} {k' d' : Dt} {Q' : Bool → Shared → Prop}, es[i]? = some e → kvs[i]? = some (k', d') → Q' (decide (k' = k)) s → wpAny (model prog w) A (eqBool e.key key) Q' E s := by
    intro i e k' d' Q' h1 h2 q
    refine nn fun hno_ => ?_
    obtain ⟨k'', d'', h3, _, h4, h5, _⟩ := at_ h1
    refine hno_ ?_
    rw [h2] at h3; cases h3
    exact eqBool_D (n := 6) (k := 6) gh h5 hkey (pl_of_hk 6 _ h4) (pl_of_hk 6 _ hd) (by lia) hA q
  -- no entry of the places holds the key: none holds it
  have nokey : (∀ j ∈ placesWithHash es.size (fun i => es[i]?.map (·.hash)) (hashD w k), ∀ d', kvs[j]? ≠ some (k, d')) → dIdx kvs k = none := by
    intro hall
    refine dIdx_none fun i d' hi => ?_
    obtain ⟨e, h1, h2, _⟩ := he.at' hi
    have h1' : es[i]? = some e := by simpa using h1
    exact hall i (mem_places.mpr ⟨(Array.getElem?_eq_some_iff.mp h1').1, by simp only [h1', Option.map_some, h2]⟩) d' hi
  have uniq : ∀ {i j : Nat} {d₁ d₂ : Dt}, kvs[i]? = some (k, d₁) → kvs[j]? = some (k, d₂) → i = j := by
    intro i j d₁ d₂ h1 h2
    have a := dIdx_of hn h1
    rw [dIdx_of hn h2] at a
    exact (Option.some.inj a).symm
  refine wpAny_holding (wpAny_bind (wpAny_dictEntries ho hdat ?_))
  generalize hP : placesWithHash es.size (fun i => es[i]?.map (·.hash)) (hashD w k) = P at nokey ⊢
  have hPm : ∀ i, i ∈ P → i < es.size := fun i hi => by rw [← hP] at hi; exact (mem_places.mp hi).1
  have hPn : P.Nodup := hP ▸ nodup_places
  have hst : ∀ v ∈ P.filterMap (fun i => es[i]?.map (·.key)), ∃ k', hk 6 k' = true ∧ Is w G v k' := by
    intro v hv
    refine nn fun hno_ => ?_
    obtain ⟨i, _, hi⟩ := List.mem_filterMap.mp hv
    refine hno_ ?_
    clear hno_
    cases hei : es[i]? with
    | none => rw [hei] at hi; cases hi
    | some e =>
      rw [hei] at hi
      obtain rfl : e.key = v := by simpa using hi
      refine nn fun hno_ => ?_
      obtain ⟨k', d', _, _, h1, h2, _⟩ := at_ hei
      refine hno_ ?_
      exact ⟨k', h1, h2⟩
  -- the walk where no key is an object
  have plain : wpAny (model prog w) A (dictWalkPlain d key (hashD w k) es P) Q E s := by
    unfold dictWalkPlain
    refine wpAny_bind ?_
    refine wpAny_forIn_list _ (fun rest b s' => s' = s ∧ b = (none, ()) ∧ (∀ j ∈ rest, j ∈ P) ∧ ∀ j ∈ P, j ∉ rest → ∀ d', kvs[j]? ≠ some (k, d')) _ ?_ ?_ _ _ ⟨rfl, rfl, fun _ hj => hj, fun j hj hr => absurd hj hr⟩
    · rintro x rest b s' ⟨rfl, rfl, hsub, hno⟩
      have hx : x < es.size := hPm x (hsub x (.head _))
      obtain ⟨e, hex⟩ : ∃ e, es[x]? = some e := ⟨es[x], Array.getElem?_eq_getElem hx⟩
      refine nn fun hno_ => ?_
      obtain ⟨k', d', hkv, hh, _⟩ := at_ hex
      refine hno_ ?_
      clear hno_
      rw [hex]
      dsimp only
      have goon : ¬ k' = k → (∀ j ∈ rest, j ∈ P) ∧ ∀ j ∈ P, j ∉ rest → ∀ d', kvs[j]? ≠ some (k, d') := fun hne => by
        refine ⟨fun j hj => hsub j (.tail _ hj), fun j hj hr d'' => ?_⟩
        by_cases hjx : j = x
        · subst hjx; rw [hkv]; intro q; injection q with q; injection q with q; exact hne q
        · exact hno j hj (fun hm => (List.mem_cons.mp hm).elim hjx hr) d''
      by_cases hh' : (e.hash == hashD w k) = true
      · rw [if_pos hh']
        refine wpAny_bind (wpAny_dictEpoch ho hdat (wpAny_bind (eqb hex hkv (wpAny_bind (wpAny_dictEpoch ho hdat ?_)))))
        show wpAny _ _ (if (ep != ep) = true then _ else _) _ E _
        rw [if_neg (by simp)]
        by_cases hkk : k' = k
        · subst hkk
          rw [decide_eq_true rfl]
          rw [dIdx_of hn hkv] at h
          exact wpAny_bind (wpAny_rule (wpAny_pure (wpAny_pure h)))
        · rw [decide_eq_false hkk]
          exact wpAny_bind (wpAny_rule (wpAny_pure ⟨rfl, rfl, goon hkk⟩))
      · rw [if_neg hh']
        refine wpAny_pure ⟨rfl, rfl, goon ?_⟩
        rintro rfl
        exact hh' (by rw [hh]; simp)
    · intro b s' hI_
      refine nn fun hno_ => ?_
      obtain ⟨rfl, rfl, _, hno⟩ := hI_
      refine hno_ ?_
      rw [nokey fun j hj => hno j hj (by simp)] at h
      exact wpAny_pure h
  have hany : ¬ (es.any fun e => e.key == key && e.hash != hashD w k) = true := by
    rw [← Array.any_toList, List.any_eq_true]
    rintro ⟨e, hin, hc⟩
    obtain ⟨i, hi⟩ := List.mem_iff_getElem?.mp hin
    obtain ⟨k', d', _, h1, _, h2, _⟩ := at_ (i := i) (e := e) (by simpa using hi)
    simp only [Bool.and_eq_true, beq_iff_eq, bne_iff_ne, ne_eq] at hc
    obtain ⟨hc1, hc2⟩ := hc
    rw [hc1] at h2
    exact hc2 (by rw [h1, h2.det hkey])
  exact via (P := fun (X : Sem (Option Nat)) => wpAny (model prog w) A X Q E s) _ (fun slow => by
    rcases key_kinds hd hkey with ⟨i, t, ek⟩ | ⟨x, t, ek⟩ | ⟨a, ek⟩
    · rw [ek]
      dsimp only
      refine wpAny_ite_split (fun hall => ek ▸ plain) (fun hall => ?_)
      refine wpAny_ite_split (fun hone => wpAny_bind (wpAny_pure ?_)) (fun hone => wpAny_bind (tell_D gh hd (ek ▸ hkey) hst ?_))
      all_goals (rw [if_neg (by simp), ← ek]; exact slow)
    · rw [ek]
      dsimp only
      refine wpAny_ite_split (fun hstr => ?_) (fun hstr => ?_)
      · have hk' : k = .str x := (ek ▸ hkey : Is w G (.str x t) k).noref
        have fwd : ∀ (i : Nat) (e : DictEntry), es[i]? = some e → e.key.isStr x = true → ∃ d', kvs[i]? = some (k, d') := by
          intro i e h1 h2
          refine nn fun hno_ => ?_
          obtain ⟨k', d', h3, _, _, h4, _⟩ := at_ h1
          refine hno_ ?_
          obtain ⟨t', ht⟩ : ∃ t', e.key = .str x t' := by
            cases he : e.key <;> rw [he] at h2 <;> simp [Value.isStr] at h2
            subst h2; exact ⟨_, rfl⟩
          rw [ht] at h4
          refine ⟨d', ?_⟩
          rw [h3, hk']; cases h4; rfl
        have bwd : ∀ (i : Nat) (d' : Dt), kvs[i]? = some (k, d') → ∃ e, es[i]? = some e ∧ e.key.isStr x = true := by
          intro i d' h1
          refine nn fun hno_ => ?_
          obtain ⟨e, h2, _, _, h3, _⟩ := he.at' h1
          refine hno_ ?_
          refine ⟨e, by simpa using h2, ?_⟩
          rw [hk'] at h3
          generalize e.key = ek at h3
          cases h3
          simp [Value.isStr]
        unfold foundByValue
        cases hf : es.findIdx? (fun e => e.key.isStr x) with
        | none =>
          have hnone : dIdx kvs k = none := dIdx_none fun i d' hi => by
            obtain ⟨e, h1, h2⟩ := bwd i d' hi
            have := Array.findIdx?_eq_none_iff.mp hf e (Array.mem_of_getElem? h1)
            rw [h2] at this; cases this
          rw [hnone] at h
          exact wpAny_pure h
        | some i =>
          refine nn fun hno_ => ?_
          obtain ⟨hlt, hi, _⟩ := Array.findIdx?_eq_some_iff_getElem.mp hf
          refine hno_ ?_
          clear hno_
          have hei : es[i]? = some es[i] := Array.getElem?_eq_getElem hlt
          obtain ⟨d', hkv⟩ := fwd i _ hei hi
          rw [dIdx_of hn hkv] at h
          simp only [hei]
          rw [← ek]
          refine wpAny_bind (wpAny_dictEpoch ho hdat (wpAny_bind (eqb hei hkv (wpAny_bind (wpAny_dictEpoch ho hdat ?_)))))
          rw [if_neg (by simp), decide_eq_true rfl, if_pos rfl]
          exact wpAny_bind (wpAny_rule (wpAny_pure h))
      refine wpAny_ite_split (fun hall => ek ▸ plain) (fun hall => ?_)
      refine wpAny_ite_split (fun hone => wpAny_bind (wpAny_pure ?_)) (fun hone => wpAny_bind (tell_D gh hd (ek ▸ hkey) hst ?_))
      all_goals (rw [if_neg (by simp), ← ek]; exact slow)
    · rw [ek]
      dsimp only
      rw [if_neg (by simp [carriedByValue])]
      rw [if_neg (ek ▸ hany)]
      refine wpAny_ite_split (fun hone => wpAny_bind (wpAny_pure ?_)) (fun hone => wpAny_bind (tell_D gh hd (ek ▸ hkey) hst ?_))
      all_goals (rw [if_neg (by simp), ← ek]; exact slow)) (by
    refine wpAny_bind ?_
    refine wpAny_forIn_list _
      (fun rest b s' => s' = s ∧ b.1 = none ∧ (∀ j ∈ rest, j ∈ P) ∧ rest.Nodup ∧
        ((b.2 = none ∧ ∀ j ∈ P, j ∉ rest → ∀ d', kvs[j]? ≠ some (k, d')) ∨ ∃ j d', b.2 = some j ∧ j ∉ rest ∧ kvs[j]? = some (k, d'))) _ ?_ ?_ _ _
      ⟨rfl, rfl, fun _ hj => hj, hPn, .inl ⟨rfl, fun j hj hr => absurd hj hr⟩⟩
    · intro x rest ⟨b1, hit⟩ s' hI_
      refine nn fun hno_ => ?_
      obtain ⟨rfl, hb, hsub, hnd, hH⟩ := hI_
      refine hno_ ?_
      clear hno_
      simp only at hb hH
      have hx : x < es.size := hPm x (hsub x (.head _))
      refine nn fun hno_ => ?_
      obtain ⟨e, hex⟩ : ∃ e, es[x]? = some e := ⟨es[x], Array.getElem?_eq_getElem hx⟩
      refine hno_ ?_
      clear hno_
      refine nn fun hno_ => ?_
      obtain ⟨k', d', hkv, hh, _⟩ := at_ hex
      refine hno_ ?_
      clear hno_
      have hsub' : ∀ j ∈ rest, j ∈ P := fun j hj => hsub j (.tail _ hj)
      have hnd' := (List.nodup_cons.mp hnd).2
      have hxr := (List.nodup_cons.mp hnd).1
      have goon : ¬ k' = k → ((hit = none ∧ ∀ j ∈ P, j ∉ rest → ∀ d', kvs[j]? ≠ some (k, d')) ∨ ∃ j d', hit = some j ∧ j ∉ rest ∧ kvs[j]? = some (k, d')) := fun hne => by
        rcases hH with ⟨h0, hno⟩ | ⟨j, d'', h1, h2, h3⟩
        · refine .inl ⟨h0, fun j hj hr d'' => ?_⟩
          by_cases hjx : j = x
          · subst hjx; rw [hkv]; intro q; injection q with q; injection q with q; exact hne q
          · exact hno j hj (fun hm => (List.mem_cons.mp hm).elim hjx hr) d''
        · exact .inr ⟨j, d'', h1, fun hm => h2 (.tail _ hm), h3⟩
      rw [hex]
      dsimp only
      by_cases hh' : (e.hash == hashD w k) = true
      · rw [if_pos hh']
        refine wpAny_bind (wpAny_dictEpoch ho hdat (wpAny_bind (eqb hex hkv (wpAny_bind (wpAny_dictEpoch ho hdat ?_)))))
        rw [if_neg (by simp)]
        by_cases hkk : k' = k
        · subst hkk
          rw [decide_eq_true rfl, if_pos rfl]
          rcases hH with ⟨h0, hno⟩ | ⟨j, d'', h1, h2, h3⟩
          · subst h0
            refine wpAny_bind (wpAny_rule ?_)
            rw [dIdx_of hn hkv] at h
            refine wpAny_ite_split (fun _ => wpAny_pure (wpAny_pure h)) (fun _ => wpAny_pure ⟨rfl, rfl, hsub', hnd', .inr ⟨x, d', rfl, hxr, hkv⟩⟩)
          · exact absurd (uniq h3 hkv) (fun q => h2 (q ▸ .head _))
        · rw [decide_eq_false hkk, if_neg Bool.false_ne_true]
          refine wpAny_bind (wpAny_rule ?_)
          exact wpAny_pure ⟨rfl, rfl, hsub', hnd', goon hkk⟩
      · rw [if_neg hh']
        refine wpAny_pure ⟨rfl, rfl, hsub', hnd', goon ?_⟩
        rintro rfl
        exact hh' (by rw [hh]; simp)
    · rintro ⟨b1, hit⟩ s' ⟨rfl, hb, _, _, hH⟩
      simp only at hb hH
      subst hb
      dsimp only
      rcases hH with ⟨h0, hno⟩ | ⟨j, d'', h1, h2, h3⟩
      · subst h0
        rw [nokey fun j hj => hno j hj (by simp)] at h
        exact wpAny_pure h
      · subst h1
        rw [dIdx_of hn h3] at h
        exact wpAny_pure h)
end
end Mine
end

section
open PySem PySem.Spec PySem.Calls PyProof.Rows
namespace Mine
open scoped Classical

/-- the dict at a: its items by data; it may be the call's own to change, or frozen -/
structure DAt (w : World) (G : Gh) (h : Heap) (a : Addr) (kvs : List (Dt × Dt)) : Prop where
  obj : ∃ es n, h.get? a = some (dicObj es n) ∧ IsEnts w G es.toList kvs
  nodup : (kvs.map (·.1)).Nodup
  ne : a ≠ sysModules
structure LAt (w : World) (G : Gh) (h : Heap) (a : Addr) (ds : List Dt) : Prop where
  obj : ∃ vs n, h.get? a = some (lstObj vs n) ∧ IsAll w G vs.toList ds

section
variable {w : World} {G G' : Gh} {h h' : Heap} {a : Addr} {kvs : List (Dt × Dt)} {ds : List Dt}
theorem DAt.mono (x : DAt w G h a kvs) (s : Sub G G') (k : ∀ o, h.get? a = some o → h'.get? a = some o) : DAt w G' h' a kvs :=
  let ⟨⟨es, n, h1, h2⟩, h3, h4⟩ := x; ⟨⟨es, n, k _ h1, h2.mono s⟩, h3, h4⟩
theorem LAt.mono (x : LAt w G h a ds) (s : Sub G G') (k : ∀ o, h.get? a = some o → h'.get? a = some o) : LAt w G' h' a ds :=
  let ⟨⟨vs, n, h1, h2⟩⟩ := x; ⟨⟨vs, n, k _ h1, h2.mono s⟩⟩
theorem DAt.of_is (gh : InH G h) (x : Is w G (.ref a) (.dict kvs)) : DAt w G h a kvs := by
  cases x with | dict h1 h2 h3 h4 => exact ⟨⟨_, _, gh _ _ h1, h3⟩, h4, h2⟩
theorem LAt.of_is (gh : InH G h) (x : Is w G (.ref a) (.list ds)) : LAt w G h a ds := by
  cases x with | list h1 h2 => exact ⟨⟨_, _, gh _ _ h1, h2⟩⟩
theorem DAt.typeIs {s : Shared} (x : DAt w G s.heap a kvs) : s.TypeIs (.ref a) "dict" := let ⟨⟨_, _, h1, _⟩, _, _⟩ := x; ⟨_, h1, rfl⟩
theorem DAt.sys (x : DAt w G h a kvs) : (a == sysModules) = false := beq_eq_false_iff_ne.mpr x.ne
/-- to be found by an item's value -/
noncomputable def OptIs (w : World) (G : Gh) (r : Option Value) (d : Option Dt) : Prop := match d with
  | none => r = none
  | some d => ∃ v, r = some v ∧ Is w G v d
end

section
variable {prog : Program} {w : World} {A : Around} {E : Value → Shared → Prop} {s : Shared} {G : Gh} {a : Addr} {key : Value} {k : Dt} {kvs : List (Dt × Dt)}

theorem dictGet_D {Q : Option Value → Shared → Prop} (gh : InH G s.heap) (hA : A.units + 64 < cLine) (x : DAt w G s.heap a kvs) (hd : hk 6 k = true) (hkey : Is w G key k)
    (h : ∀ r tk, OptIs w G r (dget kvs k) → Q r { s with toks := tk }) : wpAny (model prog w) A (dictGet a key) Q E s := by
  refine nn fun hno_ => ?_
  obtain ⟨⟨es, n, ho, he⟩, hn, hne⟩ := x
  refine hno_ ?_
  clear hno_
  unfold dictGet
  refine wpAny_holding (wpAny_bind (pyHash_D 6 hd hkey gh (by lia) fun tk => wpAny_bind (dictFind_D (s := { s with toks := tk }) gh hA hd hkey ho rfl he hn ?_)))
  cases hi : dIdx kvs k with
  | none => exact wpAny_pure (h none tk (by rw [dget_none_of hi]; rfl))
  | some i =>
    refine nn fun hno_ => ?_
    obtain ⟨d, hkv, hg⟩ := dIdx_some hi
    refine hno_ ?_
    clear hno_
    refine nn fun hno_ => ?_
    obtain ⟨e, h1, _, _, _, h2⟩ := he.at' hkv
    refine hno_ ?_
    clear hno_
    refine wpAny_bind (wpAny_dictEntries (s := { s with toks := tk }) ho rfl (wpAny_pure ?_))
    have h1' : es[i]? = some e := by simpa using h1
    rw [h1']
    exact h (some e.val) tk (by rw [hg]; exact ⟨_, rfl, h2⟩)

theorem dictSet_D {v : Value} {d : Dt} {Q : Unit → Shared → Prop} (gh : InH G s.heap) (hA : A.units + 64 < cLine) (x : DAt w G s.heap a kvs) (hd : hk 6 k = true) (hkey : Is w G key k) (hv : Is w G v d)
    (hsz : kvs.length ≤ 5000)
    (h : ∀ h' tk, DAt w G h' a (dset kvs k d) → Heap.SameBut a s.heap h' → Q () { s with heap := h', toks := tk }) : wpAny (model prog w) A (dictSet a key v) Q E s := by
  refine nn fun hno_ => ?_
  obtain ⟨⟨es, n, ho, he⟩, hn, hne⟩ := x
  refine hno_ ?_
  clear hno_
  have hes : es.size = kvs.length := by rw [← he.length]; simp
  unfold dictSet
  refine wpAny_holding (wpAny_bind (pyHash_D 6 hd hkey gh (by lia) fun tk => ?_))
  unfold dictSetHashed
  refine wpAny_holding (wpAny_bind (dictFind_D (s := { s with toks := tk }) gh hA hd hkey ho rfl he hn ?_))
  cases hi : dIdx kvs k with
  | none =>
    have hg := dget_none_of hi
    refine wpAny_bind (wpAny_rule (wpAny_updateDictKeys (hz := by rw [sizeLine_eq]; lia) (s := { s with toks := tk }) ho rfl (h _ tk ⟨⟨_, _, Heap.get?_update_self _ ho rfl, ?_⟩, nodup_dset hn k d, hne⟩ (Heap.SameBut.update ..))))
    unfold dset dhas
    rw [hg]
    simp only [Option.isSome_none, Bool.false_eq_true, if_false, Array.toList_push]
    exact he.snoc rfl hd hkey hv
  | some i =>
    refine nn fun hno_ => ?_
    obtain ⟨d₀, hkv, hg⟩ := dIdx_some hi
    refine hno_ ?_
    clear hno_
    refine wpAny_bind (wpAny_rule (wpAny_bind (wpAny_updateDict (s := { s with toks := tk }) ho rfl (wpAny_point (h _ tk ⟨⟨_, _, Heap.get?_update_self _ ho rfl, ?_⟩, nodup_dset hn k d, hne⟩ (Heap.SameBut.update ..))))))
    unfold dset dhas
    rw [hg]
    simp only [Option.isSome_some, if_true]
    have := he.modify hn hkv hv
    simpa using this

theorem takeOut_D {d : Dt} {Q : Option DictEntry → Shared → Prop} (gh : InH G s.heap) (hA : A.units + 64 < cLine) (x : DAt w G s.heap a kvs) (hd : hk 6 k = true) (hkey : Is w G key k) (hg : dget kvs k = some d)
    (hsz : kvs.length ≤ 5000)
    (h : ∀ h' tk e, DAt w G h' a (ddel kvs k) → Is w G e.val d → Heap.SameBut a s.heap h' → Q (some e) { s with heap := h', toks := tk }) : wpAny (model prog w) A (Builtin.Dict.takeOut a key) Q E s := by
  refine nn fun hno_ => ?_
  obtain ⟨⟨es, n, ho, he⟩, hn, hne⟩ := x
  refine hno_ ?_
  clear hno_
  have hes : es.size = kvs.length := by rw [← he.length]; simp
  unfold Builtin.Dict.takeOut
  refine wpAny_holding (wpAny_bind (pyHash_D 6 hd hkey gh (by lia) fun tk => wpAny_bind (dictFind_D (s := { s with toks := tk }) gh hA hd hkey ho rfl he hn ?_)))
  cases hi : dIdx kvs k with
  | none => rw [dget_none_of hi] at hg; cases hg
  | some i =>
    refine nn fun hno_ => ?_
    obtain ⟨d₀, hkv, hg'⟩ := dIdx_some hi
    refine hno_ ?_
    clear hno_
    rw [hg] at hg'; cases hg'
    refine nn fun hno_ => ?_
    obtain ⟨e, h1, _, _, _, h2⟩ := he.at' hkv
    refine hno_ ?_
    clear hno_
    have h1' : es[i]? = some e := by simpa using h1
    have hlt : i < es.size := (Array.getElem?_eq_some_iff.mp h1').1
    dsimp only
    refine wpAny_bind (wpAny_dictEntries (s := { s with toks := tk }) ho rfl ?_)
    rw [h1']
    dsimp only
    refine wpAny_bind (wpAny_updateDictKeysTo (s := { s with toks := tk }) ho rfl (wpAny_pure (h _ tk e ⟨⟨_, _, Heap.get?_update_self _ ho rfl, ?_⟩, nodup_ddel hn k, hne⟩ h2 (Heap.SameBut.update ..))) ?_)
    · have := he.filter hn hkv
      simp only [Array.eraseIdxIfInBounds, hlt, dif_pos]
      simpa using this
    · simp only [Array.eraseIdxIfInBounds, hlt, dif_pos, Array.size_eraseIdx]; rw [sizeLine_eq]; lia

theorem dictIn_D {Q : Value → Shared → Prop} (gh : InH G s.heap) (hA : A.units + 100 < cLine) (x : DAt w G s.heap a kvs) (hd : hk 6 k = true) (hkey : Is w G key k)
    (h : ∀ tk, Q (.bool (dhas kvs k)) { s with toks := tk }) : wpAny (model prog w) A (compareOp .In key (.ref a)) Q E s := by
  show wpAny _ _ (do return .bool (← contains (.ref a) key)) Q E s
  refine wpAny_bind ?_
  unfold contains
  refine wpAny_holding (wpAny_bind (wpAny_specialOf x.typeIs slot_dict_contains.lookup ?_))
  show wpAny _ _ (if (some (Value.builtin "dict.__contains__") == some Value.none) = true then _ else _) _ E s
  rw [if_neg (by rw [beq_builtin_none]; exact Bool.false_ne_true)]
  refine wpAny_bind (wpAny_callSpecialUnlessNone?_slot (name := Str.ofString "__contains__") x.typeIs slot_dict_contains
    (wpAny_call_entry slot_dict_contains x.typeIs entry_dict_contains ?_ (args_dict_contains _ _)))
  show wpAny _ _ (dictGet a key >>= _) _ _ s
  refine wpAny_bind (dictGet_D gh (by show A.units + 1 + 64 < cLine; lia) x hd hkey fun r tk hr => ?_)
  have h' := h tk
  unfold dhas at h'
  cases hg : dget kvs k with
  | none =>
    rw [hg] at hr h'
    have hr : r = none := hr
    subst hr
    show wpAny _ _ (Builtin.Dict.pendingKey? a key >>= _) _ _ _
    unfold Builtin.Dict.pendingKey?
    rw [if_neg (by rw [x.sys]; exact Bool.false_ne_true)]
    exact wpAny_bind (wpAny_pure (wpAny_pure ⟨_, rfl, wpAny_truthy_bool (wpAny_pure h')⟩))
  | some d =>
    rw [hg] at hr h'
    obtain ⟨v, rfl, _⟩ := hr
    show wpAny _ _ (ret (.bool true)) _ _ _
    exact wpAny_pure ⟨_, rfl, wpAny_truthy_bool (wpAny_pure h')⟩
theorem dictNotIn_D {Q : Value → Shared → Prop} (gh : InH G s.heap) (hA : A.units + 100 < cLine) (x : DAt w G s.heap a kvs) (hd : hk 6 k = true) (hkey : Is w G key k)
    (h : ∀ tk, Q (.bool (!dhas kvs k)) { s with toks := tk }) : wpAny (model prog w) A (compareOp .NotIn key (.ref a)) Q E s := by
  show wpAny _ _ (do return .bool (!(← contains (.ref a) key))) Q E s
  refine wpAny_bind ?_
  unfold contains
  refine wpAny_holding (wpAny_bind (wpAny_specialOf x.typeIs slot_dict_contains.lookup ?_))
  show wpAny _ _ (if (some (Value.builtin "dict.__contains__") == some Value.none) = true then _ else _) _ E s
  rw [if_neg (by rw [beq_builtin_none]; exact Bool.false_ne_true)]
  refine wpAny_bind (wpAny_callSpecialUnlessNone?_slot (name := Str.ofString "__contains__") x.typeIs slot_dict_contains
    (wpAny_call_entry slot_dict_contains x.typeIs entry_dict_contains ?_ (args_dict_contains _ _)))
  show wpAny _ _ (dictGet a key >>= _) _ _ s
  refine wpAny_bind (dictGet_D gh (by show A.units + 1 + 64 < cLine; lia) x hd hkey fun r tk hr => ?_)
  have h' := h tk
  unfold dhas at h'
  cases hg : dget kvs k with
  | none =>
    rw [hg] at hr h'
    have hr : r = none := hr
    subst hr
    show wpAny _ _ (Builtin.Dict.pendingKey? a key >>= _) _ _ _
    unfold Builtin.Dict.pendingKey?
    rw [if_neg (by rw [x.sys]; exact Bool.false_ne_true)]
    exact wpAny_bind (wpAny_pure (wpAny_pure ⟨_, rfl, wpAny_truthy_bool (wpAny_pure h')⟩))
  | some d =>
    rw [hg] at hr h'
    obtain ⟨v, rfl, _⟩ := hr
    show wpAny _ _ (ret (.bool true)) _ _ _
    exact wpAny_pure ⟨_, rfl, wpAny_truthy_bool (wpAny_pure h')⟩

theorem dictItem_D {d : Dt} {Q : Value → Shared → Prop} (gh : InH G s.heap) (hA : A.units + 100 < cLine) (x : DAt w G s.heap a kvs) (hd : hk 6 k = true) (hkey : Is w G key k) (hg : dget kvs k = some d)
    (h : ∀ v tk, Is w G v d → Q v { s with toks := tk }) : wpAny (model prog w) A (getItem (.ref a) key) Q E s := by
  unfold getItem
  refine wpAny_holding (wpAny_bind (wpAny_sequenceKey x.typeIs (by decide) ?_))
  refine wpAny_bind (wpAny_callSpecial?_slot (name := Str.ofString "__getitem__") x.typeIs slot_dict_getitem
    (wpAny_call_entry slot_dict_getitem x.typeIs entry_dict_getitem ?_ (args_dict_getitem _ _)))
  show wpAny _ _ (dictGet a key >>= _) _ _ s
  refine wpAny_bind (dictGet_D gh (by show A.units + 1 + 64 < cLine; lia) x hd hkey fun r tk hr => ?_)
  rw [hg] at hr
  obtain ⟨v, rfl, hv⟩ := hr
  exact wpAny_pure ⟨v, rfl, wpAny_pure (h v tk hv)⟩

theorem dictStore_D {v : Value} {d : Dt} {Q : Unit → Shared → Prop} (gh : InH G s.heap) (hA : A.units + 100 < cLine) (x : DAt w G s.heap a kvs) (hd : hk 6 k = true) (hkey : Is w G key k) (hv : Is w G v d)
    (hsz : kvs.length ≤ 5000)
    (h : ∀ h' tk, DAt w G h' a (dset kvs k d) → Heap.SameBut a s.heap h' → Q () { s with heap := h', toks := tk }) : wpAny (model prog w) A (setItem (.ref a) key v) Q E s := by
  unfold setItem
  refine wpAny_holding (wpAny_bind (wpAny_sequenceKey x.typeIs (by decide) ?_))
  refine wpAny_bind (wpAny_callSpecial?_slot (name := Str.ofString "__setitem__") x.typeIs slot_dict_setitem
    (wpAny_call_entry slot_dict_setitem x.typeIs entry_dict_setitem ?_ (args_dict_setitem _ _ _)))
  show wpAny _ _ (Builtin.Dict.notOrdered "__setitem__" ⟨[.ref a, key, v], []⟩ >>= _) _ _ s
  refine wpAny_bind (wpAny_notOrdered_dict x.typeIs ?_)
  show wpAny _ _ (dictSet a key v >>= _) _ _ s
  exact wpAny_bind (dictSet_D gh (by show A.units + 1 + 64 < cLine; lia) x hd hkey hv hsz fun h' tk hm hs => wpAny_pure ⟨.none, rfl, wpAny_pure (h h' tk hm hs)⟩)

/-- d.get(key, dflt) -/
theorem dictGet2_D {v : Value} {Q : Value → Shared → Prop} (gh : InH G s.heap) (hA : A.units + 100 < cLine) (x : DAt w G s.heap a kvs) (hd : hk 6 k = true) (hkey : Is w G key k)
    (h : ∀ r tk, (match dget kvs k with | some d => Is w G r d | none => r = v) → Q r { s with toks := tk }) : wpAny (model prog w) A (call (.builtin "dict.get") [.ref a, key, v]) Q E s := by
  refine wpAny_call_entry F.slot_dict_get x.typeIs F.entry_dict_get ?_ (F.args_dict_get_3 _ _ _)
  unfold Builtin.«dict.get»
  refine wpAny_bind ?_
  unfold Builtin.Dict.keyAndDefault
  refine wpAny_bind (wpAny_notOrdered_dict x.typeIs ?_)
  show wpAny _ _ (pure (a, key, some v)) _ _ s
  refine wpAny_pure ?_
  dsimp only
  refine wpAny_bind (dictGet_D gh (by show A.units + 1 + 64 < cLine; lia) x hd hkey fun r tk hr => ?_)
  cases hg : dget kvs k with
  | none =>
    rw [hg] at hr
    have hr : r = none := hr
    subst hr
    dsimp only
    unfold Builtin.Dict.missed
    rw [if_neg (by rw [x.sys]; exact Bool.false_ne_true)]
    exact wpAny_bind (wpAny_pure (wpAny_pure ⟨_, rfl, h v tk (by rw [hg])⟩))
  | some d =>
    rw [hg] at hr
    obtain ⟨v', rfl, hv'⟩ := hr
    dsimp only
    first
      | exact wpAny_pure ⟨_, rfl, h v' tk (by rw [hg]; exact hv')⟩
      | exact wpAny_bind (wpAny_pure (wpAny_pure ⟨_, rfl, h v' tk (by rw [hg]; exact hv')⟩))

/-- d.pop(key), the key there -/
theorem dictPop_D {d : Dt} {Q : Value → Shared → Prop} (gh : InH G s.heap) (hA : A.units + 100 < cLine) (x : DAt w G s.heap a kvs) (hd : hk 6 k = true) (hkey : Is w G key k) (hg : dget kvs k = some d)
    (hsz : kvs.length ≤ 5000)
    (h : ∀ v h' tk, Is w G v d → DAt w G h' a (ddel kvs k) → Heap.SameBut a s.heap h' → Q v { s with heap := h', toks := tk }) : wpAny (model prog w) A (call (.builtin "dict.pop") [.ref a, key]) Q E s := by
  refine wpAny_call_entry F.slot_dict_pop x.typeIs F.entry_dict_pop ?_ (F.args_dict_pop_2 _ _)
  have hpos : kvs ≠ [] := by rintro rfl; simp [dget] at hg
  have take : wpAny (model prog w) A.in1 (Builtin.Dict.takeOut a key >>= fun old => do
      if old.isNone then Builtin.Dict.missedRemoval a key
      match old, (none : Option Value) with
      | some e, _ => letGo [e.key] [e.val]; ret e.val
      | none, some x => rule "dict.pop.default"; ret x
      | none, none => rule "dict.pop.keyerror"; raiseNew (← newExc (.type "KeyError") [key])) (fun fin s' => ∃ v, fin = .done (.ret v) ∧ Q v s') E s := by
    refine wpAny_bind (takeOut_D gh (by show A.units + 1 + 64 < cLine; lia) x hd hkey hg hsz fun h' tk e hm hv hs => ?_)
    simp only [Option.isNone_some, Bool.false_eq_true, if_false]
    exact wpAny_bind (wpAny_letGo (wpAny_pure ⟨_, rfl, h e.val h' tk hv hm hs⟩))
  unfold Builtin.«dict.pop»
  refine wpAny_bind ?_
  unfold Builtin.Dict.keyAndDefault
  refine wpAny_bind (wpAny_notOrdered_dict x.typeIs ?_)
  show wpAny _ _ (pure (a, key, none)) _ _ s
  refine wpAny_pure ?_
  dsimp only
  refine wpAny_ite_split (fun _ => wpAny_bind (wpAny_pure ?_)) (fun _ => ?_)
  · simp only [Bool.false_eq_true, if_false]
    exact take
  · refine nn fun hno_ => ?_
    obtain ⟨⟨es, n, ho, he⟩, _, _⟩ := id x
    refine hno_ ?_
    clear hno_
    refine wpAny_bind (wpAny_dictEntries ho rfl ?_)
    have hes : es.isEmpty = false := by
      have hl := he.length
      cases kvs with
      | nil => exact absurd rfl hpos
      | cons p r =>
        cases hb : es.isEmpty with
        | false => rfl
        | true =>
          have := Array.isEmpty_iff_size_eq_zero.mp hb
          rw [Array.length_toList, this] at hl
          simp at hl
    rw [hes]
    refine wpAny_bind (wpAny_pure ?_)
    rw [if_neg Bool.false_ne_true]
    exact take
end
end Mine
end

section
open PySem PySem.Spec PySem.Calls PyProof.Rows
namespace Mine
open scoped Classical

/-! Sorting by a comparison that holds at one state, of any kind of keys (tuples too); fewer than 64 items -/
section
variable {prog : Program} {w : World} {A : Around} {E : Value → Shared → Prop} {s : Shared} {a₀ : Array Keyed} {κ : PyProof.Rows.KeyKind} {kd : SortKind}

/-- the comparison of two keys answers by κ where the state's kind is kd -/
noncomputable def LtBy (prog : Program) (w : World) (A : Around) (E : Value → Shared → Prop) (s : Shared) (κ : PyProof.Rows.KeyKind) (kd : SortKind) : Prop :=
  ∀ (x y : Value) (a b : κ.α) {Q : Bool → Shared → Prop}, κ.keyOf x = some a → κ.keyOf y = some b → Q (κ.blt a b) s → wpAny (model prog w) A (keyLt' kd x y) Q E s

structure SB (a₀ : Array Keyed) (kd : SortKind) (st : SortSt) : Prop where
  perm : (arrOf st).Perm a₀
  kind : kindOf st = kd
  failed : failedOf st = none
  pend : pendingOf st = #[]

theorem SB.size {st : SortSt} (h : SB a₀ kd st) : (arrOf st).size = a₀.size := h.perm.size_eq
theorem SB.arr {st : SortSt} (h : SB a₀ kd st) {xs : Array Keyed} (hp : xs.Perm (arrOf st)) : SB a₀ kd (setArr st xs) := ⟨hp.trans h.perm, h.kind, h.failed, h.pend⟩

/-- one comparison, by places -/
theorem sb_lt {st : SortSt} {i j : Nat} {Q : Option Bool → SortSt → Prop} (hL : LtBy prog w A (fun _ _ => False) s κ kd) (hB : SB a₀ kd st) (h0 : KeysOf κ a₀) (hi : i < a₀.size) (hj : j < a₀.size)
    (h : Q (some (κ.blt (KK κ (arrOf st) i) (KK κ (arrOf st) j))) st) : wpS (model prog w) A E s (ltAt' i j) Q st := by
  have at_ : ∀ {i : Nat}, i < a₀.size → ∃ p a, (arrOf st)[i]? = some p ∧ κ.keyOf p.1 = some a ∧ KK κ (arrOf st) i = a := by
    intro i hi
    have hi' : i < (arrOf st).size := by rw [hB.size]; exact hi
    have e : (arrOf st)[i]? = some (arrOf st)[i] := getElem?_pos _ i hi'
    obtain ⟨a, ha⟩ := h0 _ ((Array.perm_iff_toList_perm.mp hB.perm).mem_iff.mp (show (arrOf st)[i] ∈ (arrOf st).toList by simp))
    exact ⟨_, a, e, ha, by unfold KK; rw [e]; simp [ha]⟩
  refine nn fun hno_ => ?_
  obtain ⟨p, a, e1, ha, ka⟩ := at_ hi
  refine hno_ ?_
  clear hno_
  refine nn fun hno_ => ?_
  obtain ⟨q, b, e2, hb, kb⟩ := at_ hj
  refine hno_ ?_
  clear hno_
  rw [ka, kb] at h
  rw [ltAt'_eq]
  refine wpS_bind (wpS_get ?_)
  show wpS _ _ _ _ (do let x ← elem' (arrOf st) i; let y ← elem' (arrOf st) j; lt' x y) Q st
  rw [elem'_eq, elem'_eq, e1, e2]
  refine wpS_bind (wpS_pure (wpS_bind (wpS_pure ?_)))
  rw [lt'_eq]
  refine wpS_bind (wpS_get ?_)
  rw [hB.kind]
  refine wpS_bind (wpS_lift (wpAny_attempt (wpAny_mono (hL p.1 q.1 a b ha hb (Q := fun r s' => s' = s ∧ r = κ.blt a b) ⟨rfl, rfl⟩) ?_ fun _ _ f => f.elim)))
  rintro r s' ⟨rfl, rfl⟩
  exact ⟨rfl, wpS_pure h⟩

theorem sb_one (xs : Array Keyed) {k : Nat} (hk : k ≤ 1) : SortedToK κ xs k := fun i j hij hj => by
  have : i = j := by lia
  subst this; exact KeyOrd.kle_refl _
/-- one more item behind a rising run -/
theorem sb_more {xs : Array Keyed} {k : Nat} (h : SortedToK κ xs k) (hl : κ.kle (KK κ xs (k - 1)) (KK κ xs k)) : SortedToK κ xs (k + 1) := fun i j hij hj => by
  by_cases h1 : j < k
  · exact h i j hij h1
  · have hj' : j = k := by lia
    subst hj'
    by_cases h2 : i = j
    · subst h2; exact KeyOrd.kle_refl _
    · exact KeyOrd.kle_trans (h i (j - 1) (by lia) (by lia)) hl
theorem sb_less {xs : Array Keyed} {k : Nat} (h : NonIncK κ xs k) (hl : κ.kle (KK κ xs k) (KK κ xs (k - 1))) : NonIncK κ xs (k + 1) := fun i j hij hj => by
  by_cases h1 : j < k
  · exact h i j hij h1
  · have hj' : j = k := by lia
    subst hj'
    by_cases h2 : i = j
    · subst h2; exact KeyOrd.kle_refl _
    · exact KeyOrd.kle_trans hl (h i (j - 1) (by lia) (by lia))

theorem sb_asc {st : SortSt} {a nrem : Nat} {Q : AscSt → SortSt → Prop} (hL : LtBy prog w A (fun _ _ => False) s κ kd) (h0 : KeysOf κ a₀) (hn : nrem ≤ a₀.size) (ha : 1 ≤ a) (han : a ≤ nrem) (hB : SB a₀ kd st)
    (hs : SortedToK κ (arrOf st) a)
    (h : ∀ n, a ≤ n → n ≤ nrem → SortedToK κ (arrOf st) n → (n = nrem ∨ κ.klt (KK κ (arrOf st) n) (KK κ (arrOf st) (n - 1))) → Q (none, n) st) :
    wpS (model prog w) A E s (ascLoop a nrem) Q st := by
  unfold ascLoop
  refine wpS_forRange (I := fun x c st' => st' = st ∧ c = (none, x) ∧ SortedToK κ (arrOf st) x) (fun x c st' hax hxn hI => ?_) (fun c st' hI => ?_) ⟨rfl, rfl, hs⟩
  · obtain ⟨rfl, rfl, hs'⟩ := hI
    refine wpS_bind (sb_lt hL hB h0 (by lia) (by lia) ?_)
    cases hq : κ.blt (KK κ (arrOf st') x) (KK κ (arrOf st') (x - 1)) with
    | true => exact wpS_pure (h x hax (by lia) hs' (.inr hq))
    | false => exact wpS_pure ⟨rfl, rfl, sb_more hs' hq⟩
  · obtain ⟨rfl, rfl, hs'⟩ := hI
    have e : max a nrem = nrem := Nat.max_eq_right han
    rw [e] at hs' ⊢
    exact h nrem han (Nat.le_refl _) hs' (.inl rfl)

theorem sb_tail {st : SortSt} {n nrem : Nat} {Q : Option Nat → SortSt → Prop} (hL : LtBy prog w A (fun _ _ => False) s κ kd) (h0 : KeysOf κ a₀) (hn : nrem ≤ a₀.size) (h1 : 1 ≤ n) (hnn : n ≤ nrem) (hB : SB a₀ kd st)
    (hs : NonIncK κ (arrOf st) n) (h : ∀ m st', SB a₀ kd st' → 1 ≤ m → m ≤ nrem → SortedToK κ (arrOf st') m → Q (some m) st') :
    wpS (model prog w) A E s (tail3 n nrem) Q st := by
  have hsz : n ≤ (arrOf st).size := by rw [hB.size]; lia
  have hB' : SB a₀ kd (setArr st (mirror (arrOf st) 0 n ((n - 0) / 2))) := hB.arr (mirror_perm _ _ _ _)
  refine wpS_bind (wpS_reverse (wpS_bind (sb_asc hL h0 hn h1 hnn hB' (fun i j hij hj => ?_) fun m hm1 hm2 hsm _ => wpS_pure (h m _ hB' (by lia) hm2 hsm))))
  show κ.kle (KK κ (mirror (arrOf st) 0 n ((n - 0) / 2)) i) (KK κ (mirror (arrOf st) 0 n ((n - 0) / 2)) j)
  rw [KK_mirror hsz, KK_mirror hsz, if_pos (by lia), if_pos (by lia)]
  exact hs _ _ (Nat.sub_le_sub_left hij _) (by rw [Nat.zero_add]; exact Nat.lt_of_le_of_lt (Nat.sub_le _ _) (Nat.sub_one_lt_of_le h1 (Nat.le_refl _)))

theorem sb_desc {st : SortSt} {n nrem : Nat} {Q : DescSt → SortSt → Prop} (hL : LtBy prog w A (fun _ _ => False) s κ kd) (h0 : KeysOf κ a₀) (hn : nrem ≤ a₀.size) (h1 : 1 ≤ n) (hnn : n ≤ nrem) (hB : SB a₀ kd st)
    (hs : NonIncK κ (arrOf st) n)
    (h : ∀ m neq st', SB a₀ kd st' → n ≤ m → m ≤ nrem → NonIncK κ (arrOf st') m → neq + 1 ≤ m → (∀ i, m - (neq + 1) ≤ i → i < m → KK κ (arrOf st') i = KK κ (arrOf st') (m - 1)) → Q (none, m, neq) st') :
    wpS (model prog w) A E s (descLoop n nrem) Q st := by
  unfold descLoop
  refine wpS_forRange (I := fun x c st' => ∃ neq, c = (none, x, neq) ∧ SB a₀ kd st' ∧ NonIncK κ (arrOf st') x ∧ neq + 1 ≤ x ∧
      (∀ i, x - (neq + 1) ≤ i → i < x → KK κ (arrOf st') i = KK κ (arrOf st') (x - 1))) (fun x c st' hax hxn hI => ?_) (fun c st' hI => ?_) ⟨0, rfl, hB, hs, by lia, fun i h1 h2 => by congr 1; lia⟩
  · refine nn fun hno_ => ?_
    obtain ⟨neq, rfl, hB', hs', hq, he⟩ := hI
    refine hno_ ?_
    clear hno_
    have hsz : x ≤ (arrOf st').size := by rw [hB'.size]; lia
    dsimp only
    refine wpS_bind (sb_lt hL hB' h0 (by lia) (by lia) ?_)
    cases hlt : κ.blt (KK κ (arrOf st') x) (KK κ (arrOf st') (x - 1)) with
    | true =>
      have up : NonIncK κ (arrOf st') (x + 1) := sb_less hs' (KeyOrd.kle_of_klt hlt)
      show wpS _ _ _ _ (if neq > 0 then (do reverseSlice' (x - (neq + 1)) x; pure (ForInStep.yield ((none, x + 1, 0) : DescSt))) else pure (ForInStep.yield (none, x + 1, 0))) _ _
      split
      · refine wpS_bind (wpS_reverse (wpS_pure ⟨0, rfl, hB'.arr (mirror_perm _ _ _ _), fun i j hij hj => ?_, by lia, fun i h1 h2 => by congr 1; lia⟩))
        show κ.kle (KK κ (mirror (arrOf st') _ _ _) j) (KK κ (mirror (arrOf st') _ _ _) i)
        rw [KK_mirror_equal hsz he, KK_mirror_equal hsz he]
        exact up i j hij hj
      · exact wpS_pure ⟨0, rfl, hB', up, by lia, fun i h1 h2 => by congr 1; lia⟩
    | false =>
      refine wpS_bind (sb_lt hL hB' h0 (by lia) (by lia) ?_)
      cases hgt : κ.blt (KK κ (arrOf st') (x - 1)) (KK κ (arrOf st') x) with
      | true => exact wpS_pure (h x neq st' hB' hax (by lia) hs' hq he)
      | false =>
        have hx : KK κ (arrOf st') x = KK κ (arrOf st') (x - 1) := KeyOrd.kle_antisymm hgt hlt
        refine wpS_pure ⟨neq + 1, rfl, hB', sb_less hs' hgt, by lia, fun i h1 h2 => ?_⟩
        rw [show x + 1 - 1 = x by lia]
        by_cases hix : i = x
        · rw [hix]
        · rw [hx]; exact he i (by lia) (by lia)
  · obtain ⟨neq, rfl, hB', hs', hq, he⟩ := hI
    have e : max n nrem = nrem := Nat.max_eq_right hnn
    rw [e] at hs' hq he ⊢
    exact h nrem neq st' hB' hnn (Nat.le_refl _) hs' hq he

theorem sb_part {st : SortSt} {n nrem : Nat} {Q : Option Nat → SortSt → Prop} (hL : LtBy prog w A (fun _ _ => False) s κ kd) (h0 : KeysOf κ a₀) (hn : nrem ≤ a₀.size) (hnn : n + 1 ≤ nrem) (hB : SB a₀ kd st)
    (hs : NonIncK κ (arrOf st) (n + 1)) (h : ∀ m st', SB a₀ kd st' → 1 ≤ m → m ≤ nrem → SortedToK κ (arrOf st') m → Q (some m) st') :
    wpS (model prog w) A E s (descPart n nrem) Q st := by
  unfold descPart
  refine wpS_bind (wpS_lift (wpAny_rule ⟨rfl, wpS_bind (sb_desc hL h0 hn (by lia) hnn hB hs fun m neq st' hB' hm1 hm2 hs' hq he => ?_)⟩))
  have hsz : m ≤ (arrOf st').size := by rw [hB'.size]; lia
  show wpS _ _ _ _ (if neq > 0 then (do reverseSlice' (m - (neq + 1)) m; tail3 m nrem) else tail3 m nrem) _ _
  split
  · refine wpS_bind (wpS_reverse (sb_tail hL h0 hn (by lia) hm2 (hB'.arr (mirror_perm _ _ _ _)) (fun i j hij hj => ?_) h))
    show κ.kle (KK κ (mirror (arrOf st') _ _ _) j) (KK κ (mirror (arrOf st') _ _ _) i)
    rw [KK_mirror_equal hsz he, KK_mirror_equal hsz he]
    exact hs' i j hij hj
  · exact sb_tail hL h0 hn (by lia) hm2 hB' hs' h

theorem sb_count {st : SortSt} {nrem : Nat} {Q : Option Nat → SortSt → Prop} (hL : LtBy prog w A (fun _ _ => False) s κ kd) (h0 : KeysOf κ a₀) (hn : nrem ≤ a₀.size) (h1 : 1 ≤ nrem) (hB : SB a₀ kd st)
    (h : ∀ m st', SB a₀ kd st' → 1 ≤ m → m ≤ nrem → SortedToK κ (arrOf st') m → Q (some m) st') :
    wpS (model prog w) A E s (countRun' 0 nrem) Q st := by
  rw [countRun0_eq]
  refine wpS_bind (sb_asc hL h0 hn (Nat.le_refl 1) h1 hB (sb_one _ (Nat.le_refl 1)) fun n hn1 hn2 hsn hor => ?_)
  dsimp only
  by_cases hnn : n = nrem
  · rw [if_pos (by simpa using hnn)]
    exact wpS_pure (h n st hB hn1 hn2 hsn)
  rw [if_neg (by simpa using hnn)]
  have hlt : κ.klt (KK κ (arrOf st) n) (KK κ (arrOf st) (n - 1)) := hor.resolve_left hnn
  by_cases hgt : n > 1
  · rw [if_pos hgt]
    refine wpS_bind (sb_lt hL hB h0 (by lia) (by lia) ?_)
    cases hrose : κ.blt (KK κ (arrOf st) 0) (KK κ (arrOf st) (n - 1)) with
    | true => exact wpS_pure (h n st hB hn1 hn2 hsn)
    | false =>
      have hsz : n ≤ (arrOf st).size := by rw [hB.size]; lia
      have hall : ∀ k, 0 ≤ k → k < n → KK κ (arrOf st) k = KK κ (arrOf st) (n - 1) := fun k _ hk =>
        KeyOrd.kle_antisymm (hsn k (n - 1) (by lia) (by lia)) (KeyOrd.kle_trans hrose (hsn 0 k (by lia) hk))
      have down : NonIncK κ (arrOf st) (n + 1) := sb_less (fun i j hij hj => by rw [hall i (by lia) (by lia), hall j (by lia) hj]; exact KeyOrd.kle_refl _) (KeyOrd.kle_of_klt hlt)
      refine wpS_bind (wpS_reverse (sb_part hL h0 hn (by lia) (hB.arr (mirror_perm _ _ _ _)) (fun i j hij hj => ?_) h))
      show κ.kle (KK κ (mirror (arrOf st) _ _ _) j) (KK κ (mirror (arrOf st) _ _ _) i)
      rw [KK_mirror_equal hsz hall, KK_mirror_equal hsz hall]
      exact down i j hij hj
  · skip
    obtain rfl : n = 1 := by lia
    refine sb_part hL h0 hn (by lia) hB (sb_less (fun i j hij hj => ?_) (KeyOrd.kle_of_klt hlt)) h
    obtain rfl : i = j := by lia
    exact KeyOrd.kle_refl _

theorem sb_binary {st : SortSt} {n ok : Nat} {Q : Bool → SortSt → Prop} (hL : LtBy prog w A (fun _ _ => False) s κ kd) (h0 : KeysOf κ a₀) (hn : n ≤ a₀.size) (hok : ok ≤ n) (hB : SB a₀ kd st) (hs : SortedToK κ (arrOf st) ok)
    (h : ∀ st', SB a₀ kd st' → SortedToK κ (arrOf st') n → Q true st') : wpS (model prog w) A E s (binarySort' 0 n ok) Q st := by
  rw [binarySort'_eq]
  simp only [Nat.zero_add]
  refine wpS_bind (wpS_mono (wpS_forRange (I := fun k c st' => c = (none, ()) ∧ SB a₀ kd st' ∧ SortedToK κ (arrOf st') (min k n))
    (Q := fun c st' => c = (none, ()) ∧ SB a₀ kd st' ∧ SortedToK κ (arrOf st') n) (fun k c st' hak hkn hI => ?_) (fun c st' hI => ?_) ⟨rfl, hB, ?_⟩) ?_)
  · refine nn fun hno_ => ?_
    obtain ⟨rfl, hB', hs'⟩ := hI
    refine hno_ ?_
    clear hno_
    have hk : k < a₀.size := by lia
    rw [Nat.min_eq_left (Nat.le_of_lt hkn)] at hs'
    refine wpS_bind (wpS_mono (wpS_forRange (I := fun x c st'' => st'' = st' ∧ ∃ l r, c = (none, l, r) ∧ l ≤ r ∧ r ≤ k ∧ r - l ≤ k - x ∧
        (∀ i, i < l → κ.kle (KK κ (arrOf st') i) (KK κ (arrOf st') k)) ∧ (∀ i, r ≤ i → i < k → κ.klt (KK κ (arrOf st') k) (KK κ (arrOf st') i)))
      (Q := fun c st'' => st'' = st' ∧ ∃ l, c = (none, l, l) ∧ l ≤ k ∧
        (∀ i, i < l → κ.kle (KK κ (arrOf st') i) (KK κ (arrOf st') k)) ∧ (∀ i, l ≤ i → i < k → κ.klt (KK κ (arrOf st') k) (KK κ (arrOf st') i)))
      (fun x c st'' _ hxk hJ => ?_) (fun c st'' hJ => ?_) ⟨rfl, 0, k, rfl, by lia, by lia, by lia, fun i hi => by lia, fun i h1 h2 => by lia⟩) ?_)
    · refine nn fun hno_ => ?_
      obtain ⟨rfl, l, r, rfl, hlr, hrk, hm, hlo, hhi⟩ := hJ
      refine hno_ ?_
      clear hno_
      dsimp only
      by_cases hge : l ≥ r
      · rw [if_pos hge]
        obtain rfl : l = r := by lia
        exact wpS_pure ⟨rfl, l, rfl, hrk, hlo, hhi⟩
      · rw [if_neg hge]
        have hlt : l < r := Nat.lt_of_not_le hge
        have m1 : l ≤ (l + r) / 2 := by lia
        have m2 : (l + r) / 2 < r := by lia
        refine wpS_bind (sb_lt hL hB' h0 hk (Nat.lt_trans (Nat.lt_of_lt_of_le m2 hrk) hk) ?_)
        cases hq : κ.blt (KK κ (arrOf st'') k) (KK κ (arrOf st'') ((l + r) / 2)) with
        | true => exact wpS_pure ⟨rfl, l, (l + r) / 2, rfl, m1, Nat.le_trans (Nat.le_of_lt m2) hrk, Nat.le_pred_of_lt (Nat.lt_of_lt_of_le (Nat.sub_lt_sub_right m1 m2) hm), hlo, fun i h1 h2 => KeyOrd.klt_of_klt_of_kle hq (hs' _ _ h1 h2)⟩
        | false => exact wpS_pure ⟨rfl, (l + r) / 2 + 1, r, rfl, m2, hrk, Nat.le_pred_of_lt (Nat.lt_of_lt_of_le (Nat.sub_lt_sub_left hlt (Nat.lt_succ_of_le m1)) hm), fun i h1 => KeyOrd.kle_trans (hs' i ((l + r) / 2) (Nat.le_of_lt_succ h1) (Nat.lt_of_lt_of_le m2 hrk)) hq, hhi⟩
    · refine nn fun hno_ => ?_
      obtain ⟨rfl, l, r, rfl, hlr, hrk, hm, hlo, hhi⟩ := hJ
      refine hno_ ?_
      clear hno_
      obtain rfl : l = r := by lia
      exact ⟨rfl, l, rfl, hrk, hlo, hhi⟩
    · intro c st'' hI_
      refine nn fun hno_ => ?_
      obtain ⟨rfl, l, rfl, hlk, hlo, hhi⟩ := hI_
      refine hno_ ?_
      clear hno_
      show wpS _ _ _ _ (do moveDown' k l; pure (ForInStep.yield (none, ()))) _ _
      rw [moveDown'_eq]
      refine wpS_bind (wpS_modify (wpS_pure ⟨rfl, hB'.arr (bubble_perm _ _ _), fun i j hij hj => ?_⟩))
      have hks : k < (arrOf st'').size := by rw [hB'.size]; exact hk
      show κ.kle (KK κ (bubble (arrOf st'') k (k - l)) i) (KK κ (bubble (arrOf st'') k (k - l)) j)
      rw [KK_bubble hks (Nat.sub_le _ _), KK_bubble hks (Nat.sub_le _ _), Nat.sub_sub_self hlk]
      (repeat' split) <;> first
        | (exfalso; lia)
        | exact KeyOrd.kle_refl _
        | exact hlo _ (by lia)
        | exact KeyOrd.kle_of_klt (hhi _ (by lia) (by lia))
        | exact hs' _ _ (by lia) (by lia)
  · obtain ⟨hc, hB', hs'⟩ := hI
    rw [Nat.min_eq_right (Nat.le_max_right _ _)] at hs'
    exact ⟨hc, hB', hs'⟩
  · by_cases h1 : ok = 0
    · exact sb_one _ (by lia)
    · exact fun i j hij hj => hs i j hij (by lia)
  · rintro c st' ⟨rfl, hB', hs'⟩
    exact wpS_pure (h st' hB' hs')

theorem sb_runs {st : SortSt} {Q : Unit → SortSt → Prop} (hL : LtBy prog w A (fun _ _ => False) s κ kd) (h0 : KeysOf κ a₀) (hB : SB a₀ kd st) (h2 : 2 ≤ a₀.size) (h64 : a₀.size < 64)
    (h : ∀ st', (arrOf st').Perm a₀ → failedOf st' = none → SortedToK κ (arrOf st') a₀.size → Q () st') : wpS (model prog w) A E s sortRuns' Q st := by
  have hmr : minRun' a₀.size a₀.size 0 = a₀.size := by
    have : ∀ f, minRun' (f + 1) a₀.size 0 = a₀.size := fun f => by rw [minRun'_succ, if_pos h64]; rfl
    have e := this (a₀.size - 1)
    rwa [show a₀.size - 1 + 1 = a₀.size by lia] at e
  rw [sortRuns'_eq]
  refine wpS_bind (wpS_get ?_)
  dsimp only
  rw [hB.size, hmr]
  -- the whole is one run: behind the first turn it lies sorted, as the one pending run
  let Done : SortSt → Prop := fun st => (arrOf st).Perm a₀ ∧ failedOf st = none ∧ pendingOf st = #[(0, a₀.size, 0)] ∧ SortedToK κ (arrOf st) a₀.size
  have done : ∀ {st : SortSt}, SB a₀ kd st → SortedToK κ (arrOf st) a₀.size → Done (setPending st ((pendingOf st).push (0, a₀.size, 0))) := fun hB hs =>
    ⟨hB.perm, hB.failed, by show (pendingOf _).push _ = _; rw [hB.pend]; rfl, hs⟩
  refine wpS_bind (wpS_mono (wpS_forRange
    (I := fun x c st' => (x = 0 ∧ c = (none, 0) ∧ SB a₀ kd st') ∨ (1 ≤ x ∧ c = (none, a₀.size) ∧ Done st'))
    (Q := fun c st' => c = (none, a₀.size) ∧ Done st') (fun x c st' _ hx hI => ?_) (fun c st' hI => ?_) (.inl ⟨rfl, rfl, hB⟩)) ?_)
  · rcases hI with ⟨rfl, rfl, hB'⟩ | ⟨hx1, rfl, hD⟩
    · skip
      rw [if_neg (by lia)]
      rw [Nat.sub_zero, Nat.min_self]
      refine wpS_bind (sb_count hL h0 (Nat.le_refl _) (by lia) hB' fun m st2 hB2 hm1 hm2 hs2 => ?_)
      dsimp only
      by_cases hlt : m < a₀.size
      · rw [if_pos hlt]
        refine wpS_bind (wpS_lift (wpAny_rule ⟨rfl, wpS_bind (sb_binary hL h0 (Nat.le_refl _) hm2 hB2 hs2 fun st3 hB3 hs3 => ?_)⟩))
        refine wpS_bind (wpS_get ?_)
        rw [show (pendingOf st3).back? = none by rw [hB3.pend]; rfl]
        exact wpS_bind (wpS_modify (wpS_pure (.inr ⟨Nat.le_refl 1, by rw [Nat.zero_add], done hB3 hs3⟩)))
      · rw [if_neg hlt]
        obtain rfl : m = a₀.size := by lia
        refine wpS_bind (wpS_get ?_)
        rw [show (pendingOf st2).back? = none by rw [hB2.pend]; rfl]
        exact wpS_bind (wpS_modify (wpS_pure (.inr ⟨Nat.le_refl 1, by rw [Nat.zero_add], done hB2 hs2⟩)))
    · skip
      rw [if_pos (Nat.le_refl _)]
      exact wpS_pure ⟨rfl, hD⟩
  · rcases hI with ⟨hx, _, _⟩ | ⟨_, hc, hD⟩
    · lia
    · exact ⟨hc, hD⟩
  · rintro c st' ⟨rfl, hD⟩
    refine wpS_bind (wpS_mono (wpS_forRange (I := fun _ c st'' => st'' = st' ∧ c = (none, ())) (Q := fun c st'' => st'' = st' ∧ c = (none, ())) (fun x c st'' _ _ hI => ?_) (fun _ _ hh => hh) ⟨rfl, rfl⟩) ?_)
    · obtain ⟨rfl, rfl⟩ := hI
      refine wpS_bind (wpS_get ?_)
      rw [if_pos (by rw [hD.2.2.1]; exact Nat.le_refl 1)]
      exact wpS_pure ⟨rfl, rfl⟩
    · rintro c st'' ⟨rfl, rfl⟩
      exact wpS_pure (h _ hD.1 hD.2.1 hD.2.2.2)
end
end Mine
end

section
open PySem PySem.Spec PySem.Calls PyProof.Rows
namespace Mine
open scoped Classical

section
variable {prog : Program} {w : World} {A : Around} {E : Value → Shared → Prop} {s : Shared}

/-! walking a dict's keys, whatever they are -/
theorem rawIter {d : Addr} {es : Array DictEntry} {ep : Nat} {Q : Value → Shared → Prop} (hd : (d == sysModules) = false) (ho : s.heap.get? d = some (dicObj es ep))
    (hQ : Q (.ref s.heap.objs.size) { s with heap := s.heap.push { cls := .type "dict_keyiterator", data := .fields #[.ref d, .int 0 0, .int es.size 0, .int ep 0] } }) :
    wpAny (model prog w) A (pyIter (.ref d)) Q E s := by
  have hT : s.TypeIs (.ref d) "dict" := ⟨_, ho, rfl⟩
  refine wpAny_pyIter_slot hT F.slot_dict_iter (wpAny_call_entry F.slot_dict_iter hT F.entry_dict_iter ?_ (F.args_dict_iter_1 _))
  unfold Builtin.«dict.__iter__»
  refine wpAny_bind ?_
  unfold Builtin.Dict.dictSlotNone
  refine wpAny_bind (wpAny_notOrdered_dict hT ?_)
  show wpAny _ _ (pure (Value.ref d)) _ _ s
  refine wpAny_pure ?_
  show wpAny _ _ (Builtin.Dict.showsAll d >>= _) _ _ s
  unfold Builtin.Dict.showsAll
  rw [if_neg (by rw [hd]; exact Bool.false_ne_true)]
  refine wpAny_bind (wpAny_pure (wpAny_bind (wpAny_dictEntries ho rfl (wpAny_bind (wpAny_dictEpoch ho rfl ?_)))))
  refine wpAny_bind (wpAny_newObj_type (wpAny_pure ⟨_, rfl, "dict_keyiterator", _, ⟨_, Heap.get?_push_size _ rfl, rfl⟩, F.slot_dict_keyiterator_next.lookup, ?_⟩))
  simpa [rawInt] using hQ

theorem rawNext {it d : Addr} {i : Nat} {es : Array DictEntry} {ep : Nat} {e : DictEntry} {Q : Option Value → Shared → Prop} (hit : s.heap.IsKeyIter it d i es.size ep)
    (hod : s.heap.get? d = some (dicObj es ep)) (hx : es[i]? = some e)
    (hQ : ∀ h', h'.IsKeyIter it d (i + 1) es.size ep → Heap.SameBut it s.heap h' → Q (some e.key) { s with heap := h' }) :
    wpAny (model prog w) A (pyNext (.ref it)) Q E s := by
  obtain ⟨o, ho, hc, hd⟩ := id hit
  have hlt : i < es.size := (Array.getElem?_eq_some_iff.mp hx).1
  unfold pyNext
  refine wpAny_bind (wpAny_attempt (wpAny_callSpecial?_slot (name := Str.ofString "__next__") hit.typeIs F.slot_dict_keyiterator_next
    (wpAny_call_entry F.slot_dict_keyiterator_next hit.typeIs F.entry_dict_keyiterator_next ?_ (F.args_dict_keyiterator_next_1 _))))
  refine wpAny_bind (wpAny_pure (wpAny_bind (wpAny_bind ?_)))
  first | refine wpAny_bind (wpAny_typeNameOfWhole_keyiter hit.typeIs (wpAny_pure ?_)) | refine wpAny_bind (wpAny_typeNameOf_keyiter hit.typeIs (wpAny_pure ?_))
  refine wpAny_bind (wpAny_fieldsOf ho hd ?_)
  have hown : Builtin.Dict_items.ownsTuple "dict_keyiterator" = false := by decide
  rw [hown]
  show wpAny _ _ (if (Value.ref d == Value.none) = true then _ else _) _ _ s
  rw [if_neg (show ¬ ((Value.ref d == Value.none) = true) from Bool.false_ne_true)]
  refine wpAny_bind (wpAny_pure (wpAny_bind (wpAny_dictEntries hod rfl ?_)))
  rw [if_neg (by simp)]
  refine wpAny_bind (wpAny_pure (wpAny_bind (wpAny_dictEpoch hod rfl ?_)))
  rw [if_neg (by simp)]
  refine wpAny_pure ?_
  dsimp only
  rw [if_neg (show ¬ ((i : Int) < 0) from by lia), Int.toNat_natCast, hx]
  refine wpAny_bind ?_
  first | refine wpAny_bind (wpAny_typeNameOfWhole_keyiter hit.typeIs (wpAny_pure ?_)) | refine wpAny_bind (wpAny_typeNameOf_keyiter hit.typeIs (wpAny_pure ?_))
  refine wpAny_bind (wpAny_isOneOf_keyiter hit.typeIs ?_)
  show wpAny _ _ (setField (.ref it) 1 (rawInt ((i : Int) + 1)) >>= _) _ _ s
  refine wpAny_bind (wpAny_setField ho hd (by simp) ?_)
  have hit' : (s.heap.update it (Obj.mapFields (·.setIfInBounds 1 (rawInt ((i : Int) + 1))))).IsKeyIter it d (i + 1) es.size ep :=
    ⟨_, Heap.get?_update_self _ ho (Obj.isFreed_of_fields (Obj.data_mapFields hd _)), (Obj.cls_mapFields ..).trans hc, by rw [Obj.data_mapFields hd]; simp [rawInt]⟩
  refine wpAny_bind (wpAny_holding (wpAny_bind (wpAny_isOneOf_keyiter (s := { s with heap := s.heap.update it (Obj.mapFields (·.setIfInBounds 1 (rawInt ((i : Int) + 1)))) }) hit'.typeIs ?_)))
  show wpAny _ _ (pure e.key) _ _ _
  exact wpAny_pure (wpAny_pure ⟨_, rfl, wpAny_pure (hQ _ hit' (Heap.SameBut.update ..))⟩)

theorem rawEnd {it d : Addr} {es : Array DictEntry} {ep : Nat} {Q : Option Value → Shared → Prop} (hh : A.handled = none) (hit : s.heap.IsKeyIter it d es.size es.size ep)
    (hod : s.heap.get? d = some (dicObj es ep)) (hQ : ∀ h', Heap.ExtBut it s.heap h' → Q none { s with heap := h' }) : wpAny (model prog w) A (pyNext (.ref it)) Q E s := by
  refine nn fun hno_ => ?_
  refine nn fun hno_ => ?_
  obtain ⟨o, ho, hc, hd⟩ := id hit
  refine hno_ ?_
  clear hno_
  refine hno_ ?_
  clear hno_
  unfold pyNext
  refine wpAny_bind (wpAny_attempt (wpAny_callSpecial?_slot (name := Str.ofString "__next__") hit.typeIs F.slot_dict_keyiterator_next
    (wpAny_call_entry F.slot_dict_keyiterator_next hit.typeIs F.entry_dict_keyiterator_next ?_ (F.args_dict_keyiterator_next_1 _))))
  refine wpAny_bind (wpAny_pure (wpAny_bind (wpAny_bind ?_)))
  first | refine wpAny_bind (wpAny_typeNameOfWhole_keyiter hit.typeIs (wpAny_pure ?_)) | refine wpAny_bind (wpAny_typeNameOf_keyiter hit.typeIs (wpAny_pure ?_))
  refine wpAny_bind (wpAny_fieldsOf ho hd ?_)
  have hown : Builtin.Dict_items.ownsTuple "dict_keyiterator" = false := by decide
  rw [hown]
  show wpAny _ _ (if (Value.ref d == Value.none) = true then _ else _) _ _ s
  rw [if_neg (show ¬ ((Value.ref d == Value.none) = true) from Bool.false_ne_true)]
  refine wpAny_bind (wpAny_pure (wpAny_bind (wpAny_dictEntries hod rfl ?_)))
  rw [if_neg (by simp)]
  refine wpAny_bind (wpAny_pure (wpAny_bind (wpAny_dictEpoch hod rfl ?_)))
  rw [if_neg (by simp)]
  refine wpAny_pure ?_
  dsimp only
  rw [if_neg (show ¬ ((es.size : Int) < 0) from by lia), Int.toNat_natCast, Array.getElem?_eq_none (Nat.le_refl _)]
  refine wpAny_bind ?_
  first | refine wpAny_bind (wpAny_typeNameOfWhole_keyiter hit.typeIs (wpAny_pure ?_)) | refine wpAny_bind (wpAny_typeNameOf_keyiter hit.typeIs (wpAny_pure ?_))
  show wpAny _ _ (setField (.ref it) 0 .none >>= _) _ _ s
  refine wpAny_bind (wpAny_setField ho hd (by simp) ?_)
  show wpAny _ _ (newExc (.type "StopIteration") [] >>= _) _ _ _
  refine wpAny_bind ?_
  simp only [newExc, newTuple]
  refine wpAny_bind (wpAny_newObj_type ?_ (by size_fits))
  refine wpAny_bind (m := firstArgMember _ _) (wpAny_of_eq (a := Value.none) (by first | rfl | (simp only [firstArgMember]; rfl)) ?_)
  refine wpAny_newObj_type ?_ (by size_fits)
  unfold raiseNew
  dsimp only
  refine wpAny_bind (wpAny_handled ?_)
  rw [show A.in1.handled = none from hh]
  refine wpAny_bind (wpAny_pure (wpAny_throw ?_))
  refine wpAny_bind (wpAny_isInstance (T := "StopIteration") (b := true) ⟨_, Heap.get?_push_size _ rfl, rfl⟩ isSubtype_stop ?_)
  exact wpAny_pure (hQ _ (((Heap.SameBut.update ..).extBut.push _).push _))

theorem rawWalks (hh : A.handled = none) (I d : Addr) (hne : d ≠ I) (es : Array DictEntry) (ep : Nat) :
    Walks prog w A I [I, d] [I] es.size (fun i v => ∃ e, es[i]? = some e ∧ v = e.key) (fun i h => h.IsKeyIter I d i es.size ep ∧ h.get? d = some (dicObj es ep)) where
  sub := fun b hb => by simp at hb; simp [hb]
  frame := fun _ _ _ st hk => ⟨st.1.at fun o e => hk I (by simp) o e, hk d (by simp) _ st.2⟩
  item := fun i s Q E hi st hQ => by
    refine rawNext st.1 st.2 (e := es[i]) (by simp [hi]) fun h' hit' hs' => ?_
    exact hQ _ h' s.toks ⟨es[i], by simp [hi], rfl⟩ ⟨hit', (hs'.2 d hne).trans st.2⟩ fun b o hb e => hs'.extBut b o (fun h => hb (by simp [h])) e
  done := fun s Q E st hQ => rawEnd hh st.1 st.2 fun h' he' => hQ h' s.toks fun b o hb e => he' b o (fun h => hb (by simp [h])) e
  self := fun _ _ _ _ st hQ => wpAny_pyIter_keyiter st.1 hQ

theorem rawSrc {d : Addr} {es : Array DictEntry} {ep : Nat} (lo : (d == sysModules) = false) :
    PySem.W.KdlSrc prog w "dict" d d es.size (fun i v => ∃ e, es[i]? = some e ∧ v = e.key) (fun h => h.get? d = some (dicObj es ep)) where
  type := fun _ hm => ⟨_, hm, rfl⟩
  there := fun _ hm => ⟨Heap.lt_size hm, Heap.lt_size hm⟩
  keep := fun _ _ hm hk => hk d (.inl rfl) _ hm
  notList := by decide
  notTuple := by decide
  hint := fun _ _ _ _ hm hq => PySem.W.kdl_hint_dict ⟨_, hm, rfl⟩ hq
  iter := fun _ s hh hm => ⟨_, _, (fun _ _ hq => rawIter lo hm hq), rawWalks hh _ d (Nat.ne_of_lt (Heap.lt_size hm)) es ep, ⟨⟨_, Heap.get?_push_size _ rfl, rfl, rfl⟩, Heap.get?_push_of_some _ hm⟩⟩
end

section
variable {prog : Program} {w : World} {A : Around} {E : Value → Shared → Prop} {s : Shared} {G : Gh}

theorem ItemsOf.keys {es : List DictEntry} {kvs : List (Dt × Dt)} (x : IsEnts w G es kvs) {vs : List Value} (hl : vs.length = es.length) (hv : ∀ (i : Nat) v, vs[i]? = some v → ∃ e, es[i]? = some e ∧ v = e.key) :
    IsAll w G vs (kvs.map (·.1)) :=
  x.ind (P := fun es kvs => ∀ vs : List Value, vs.length = es.length → (∀ (i : Nat) v, vs[i]? = some v → ∃ e, es[i]? = some e ∧ v = e.key) → IsAll w G vs (kvs.map (·.1)))
    (fun vs hl _ => List.eq_nil_of_length_eq_zero hl ▸ .nil)
    (fun _ _ c _ _ ih vs hl hv => match vs, hl, hv with
      | v :: vs, hl, hv => .cons (let ⟨_, h1, h2⟩ := hv 0 v rfl; h2 ▸ Option.some.inj h1 ▸ c) (ih vs (Nat.succ.inj hl) fun i v h => hv (i + 1) v h)) vs hl hv

/-- list(d): its keys -/
theorem listOfDict_D {a : Addr} {kvs : List (Dt × Dt)} {Q : Value → Shared → Prop} (hh : A.handled = none) (x : DAt w G s.heap a kvs) (hz : kvs.length ≤ 5000)
    (h : ∀ h' tk, Keep s.heap h' → LAt w G h' s.heap.objs.size (kvs.map (·.1)) → Q (.ref s.heap.objs.size) { s with heap := h', toks := tk }) :
    wpAny (model prog w) A (call (.type "list") [.ref a]) Q E s := by
  obtain ⟨⟨es, n, ho, he⟩, hn, hne⟩ := id x
  have hes : es.size = kvs.length := by rw [← he.length]; simp
  refine PySem.W.kdl_call (rawSrc (es := es) (ep := n) x.sys) hh ho (by rw [sizeLine_eq]; lia) fun h' tk acc c hk hS hacc => ?_
  refine h h' tk ⟨Nat.le_of_lt (Heap.lt_size hS), hk⟩ ⟨⟨acc, c, hS, ItemsOf.keys he (by rw [Array.length_toList, Array.length_toList]; exact hacc.1) fun i v hv => ?_⟩⟩
  obtain ⟨e, h1, h2⟩ := hacc.2 i v (by simpa using hv)
  exact ⟨e, by simpa using h1, h2⟩

/-- what `collect` makes of a dict | of a list -/
theorem collectDict_D {a : Addr} {kvs : List (Dt × Dt)} {Q : List Value → Shared → Prop} (hh : A.handled = none) (x : DAt w G s.heap a kvs) (hz : kvs.length ≤ 5000)
    (h : ∀ vs h' tk, Keep s.heap h' → IsAll w G vs (kvs.map (·.1)) → Q vs { s with heap := h', toks := tk }) :
    wpAny (model prog w) A (collect (.ref a)) Q E s := by
  obtain ⟨⟨es, n, ho, he⟩, hn, hne⟩ := id x
  have hes : es.size = kvs.length := by rw [← he.length]; simp
  unfold collect
  refine wpAny_bind (wpAny_runValue (codeAny_builtin F.entry_proto_collect ?_))
  rw [Around.under_plainId F.plain_proto_collect _]
  show wpAny _ A.in1 (newList [] >>= fun l => again (.builtin "list.__iadd__" ⟨[l, .ref a], []⟩)) _ _ s
  refine wpAny_bind (wpAny_newObj_type ?_)
  refine wpAny_pure ⟨plainId_quiet F.plain_list_iadd _, codeAny_builtin F.entry_list_iadd ?_⟩
  rw [Around.under_plainId F.plain_list_iadd _]
  have hlt := Heap.lt_size ho
  show wpAny _ A.in1 (Builtin.List.listExtendWith (.ref s.heap.objs.size) (.ref a) (.ref s.heap.objs.size)) _ _ _
  refine PySem.W.kdl_extend (R := fun r s' => match r with
      | .ok (.ret v) => wpAny (model prog w) A (match v with
          | .ref a => do match (← load a).data with
            | .seq xs _ => pure xs.toList
            | _ => unsupported "internal:collect"
          | _ => unsupported "internal:collect") Q E s'
      | .ok _ => False
      | .error e => E e s') (s := { s with heap := s.heap.push { cls := .type "list", data := .seq ([] : List Value).toArray } }) (rawSrc (es := es) (ep := n) x.sys) hh (Heap.get?_push_of_some _ ho) s.heap.objs.size (Nat.ne_of_gt hlt) (Nat.ne_of_gt hlt) (.ref s.heap.objs.size) 0
    (Heap.get?_push_size _ rfl) (fun h' tk acc c hk hS hacc => ?_) (by rw [sizeLine_eq]; lia)
  show wpAny _ A (load s.heap.objs.size >>= _) _ _ _
  refine wpAny_bind (wpAny_load hS (wpAny_pure (h acc.toList h' tk ⟨Nat.le_of_lt (Heap.lt_size hS), fun b o e => hk b o (Nat.ne_of_lt (Heap.lt_size e)) (Heap.get?_push_of_some _ e)⟩ ?_)))
  refine ItemsOf.keys he (by rw [Array.length_toList, Array.length_toList]; exact hacc.1) fun i v hv => ?_
  obtain ⟨e, h1, h2⟩ := hacc.2 i v (by simpa using hv)
  exact ⟨e, by simpa using h1, h2⟩

theorem collectList_D {a : Addr} {ds : List Dt} {Q : List Value → Shared → Prop} (x : LAt w G s.heap a ds) (hz : ds.length ≤ 5000)
    (h : ∀ vs h' tk, Keep s.heap h' → IsAll w G vs ds → Q vs { s with heap := h', toks := tk }) :
    wpAny (model prog w) A (collect (.ref a)) Q E s := by
  refine nn fun hno_ => ?_
  obtain ⟨⟨vs, n, ho, he⟩⟩ := id x
  refine hno_ ?_
  clear hno_
  refine collect_list (vs := vs.toList) ⟨_, ho, rfl, n, by simp⟩ (h vs.toList _ s.toks ⟨?_, fun b o e => ?_⟩ he) (by rw [he.length, sizeLine_eq]; lia)
  · rw [Heap.size_update, Heap.size_push]; lia
  · exact (Heap.get?_update_other _ _ (Nat.ne_of_gt (Heap.lt_size e))).trans (Heap.get?_push_of_some _ e)
end
end Mine
end

section
open PySem PySem.Spec PySem.Calls PyProof.Rows
namespace Mine
open scoped Classical

/-! the order of ints, of texts, of flat tuples: by codes -/
noncomputable def enE : Dt → List Int
  | .int i => [0, i]
  | .str s => 1 :: s.cps.toList.map fun n : Nat => (n : Int)
  | _ => []
noncomputable def enD : Dt → List (List Int)
  | .tup l => l.map enE
  | d => [enE d]
noncomputable def leaf : Dt → Bool
  | .int _ => true
  | .str _ => true
  | _ => false
noncomputable def isInt : Dt → Bool
  | .int _ => true
  | _ => false
noncomputable def isStr : Dt → Bool
  | .str _ => true
  | _ => false
/-- flat tuples whose first items are of one kind -/
noncomputable def isTup (f : Dt → Bool) : Dt → Bool
  | .tup (d :: r) => f d && r.all leaf
  | _ => false

theorem enE_inj : ∀ {a b : Dt}, leaf a = true → leaf b = true → enE a = enE b → a = b
  | .int i, .int j, _, _, h => by simp [enE] at h; rw [h]
  | .str s, .str t, _, _, h => by
    simp only [enE, List.cons.injEq, true_and] at h
    have := (List.map_inj_right (fun x y q => by lia)).mp h
    have e : s = t := Str.ext' (by simpa using this)
    rw [e]
  | .int _, .str _, _, _, h => by simp [enE] at h
  | .str _, .int _, _, _, h => by simp [enE] at h
theorem map_inj_of {f : Dt → List Int} : ∀ {l m : List Dt}, (∀ a ∈ l, ∀ b ∈ m, f a = f b → a = b) → l.map f = m.map f → l = m
  | [], [], _, _ => rfl
  | [], _ :: _, _, h => by simp at h
  | _ :: _, [], _, h => by simp at h
  | a :: l, b :: m, hf, h => by
    simp only [List.map_cons, List.cons.injEq] at h
    rw [hf a (.head _) b (.head _) h.1, map_inj_of (fun x hx y hy => hf x (.tail _ hx) y (.tail _ hy)) h.2]

@[reducible] def ordD : PyProof.Rows.KeyOrd where
  α := List (List Int)
  blt a b := decide (a < b)
  irrefl a := by simp [List.lt_irrefl a]
  trans a b c h1 h2 := by simp only [decide_eq_true_eq] at *; exact List.lt_trans h1 h2
  negTrans a b c h := by
    simp only [decide_eq_true_eq] at *
    by_cases hab : a < b
    · exact .inl hab
    · exact .inr (List.lt_of_le_of_lt (List.not_lt.mp hab) h)
  total a b h1 h2 := by simp only [decide_eq_false_iff_not] at *; exact List.le_antisymm (List.not_lt.mp h2) (List.not_lt.mp h1)

open Classical in
/-- keys by the kept part G and a kind of data -/
@[reducible] noncomputable def keyD (w : World) (G : Gh) (kind : Dt → Bool) : PyProof.Rows.KeyKind where
  toKeyOrd := ordD
  keyOf v := if h : ∃ d, Is w G v d ∧ kind d = true then some (enD (choose h)) else none
  dflt := []

theorem keyD_of {w : World} {G : Gh} {kind : Dt → Bool} {v : Value} {d : Dt} (h : Is w G v d) (hk : kind d = true) : (keyD w G kind).keyOf v = some (enD d) := by
  have hx : ∃ d, Is w G v d ∧ kind d = true := ⟨d, h, hk⟩
  simp only [keyD]
  rw [dif_pos hx, (Classical.choose_spec hx).1.det h]
theorem keyD_inv {w : World} {G : Gh} {kind : Dt → Bool} {v : Value} {a : List (List Int)} (h : (keyD w G kind).keyOf v = some a) : ∃ d, Is w G v d ∧ kind d = true ∧ a = enD d := by
  simp only [keyD] at h
  split at h
  · rename_i hx
    exact ⟨_, (Classical.choose_spec hx).1, (Classical.choose_spec hx).2, (Option.some.inj h).symm⟩
  · cases h

theorem lt_map_nat : ∀ (a b : List Nat), ((a.map fun n : Nat => (n : Int)) < b.map fun n : Nat => (n : Int)) ↔ a < b
  | [], [] => by simp
  | [], _ :: _ => by simp
  | _ :: _, [] => by simp
  | x :: a, y :: b => by
    simp only [List.map_cons, List.cons_lt_cons_iff, lt_map_nat a b]
    constructor
    · rintro (h | ⟨h1, h2⟩)
      · exact .inl (by lia)
      · exact .inr ⟨by lia, h2⟩
    · rintro (h | ⟨h1, h2⟩)
      · exact .inl (by lia)
      · exact .inr ⟨by lia, h2⟩

section
variable {prog : Program} {w : World} {A : Around} {E : Value → Shared → Prop} {s : Shared} {G : Gh}

theorem isInt_inv {d : Dt} (h : isInt d = true) : ∃ i, d = .int i := by
  cases d with
  | int i => exact ⟨i, rfl⟩
  | _ => cases h
theorem isStr_inv {d : Dt} (h : isStr d = true) : ∃ x, d = .str x := by
  cases d with
  | str x => exact ⟨x, rfl⟩
  | _ => cases h
theorem lt_ints (i j : Int) : decide (enE (.int i) < enE (.int j)) = decide (i < j) := decide_eq_decide.mpr (by simp [enE, List.cons_lt_cons_iff])
theorem lt_strs (x y : Str) : decide (enE (.str x) < enE (.str y)) = decide (x.cps.toList < y.cps.toList) := by
  simp only [enE, List.cons_lt_cons_iff, Int.lt_irrefl, false_or, true_and]
  exact decide_eq_decide.mpr (lt_map_nat _ _)
theorem oneLt_i {b : Bool} {i j : Int} {t u : Nat} {Q : Bool → Shared → Prop} (hA : A.units + 64 < cLine) (h : Q (decide (i < j)) s) : wpAny (model prog w) A (oneLt' b (.int i t) (.int j u)) Q E s := by
  cases b with
  | true => exact oneLt_int h
  | false => exact (wpAny_bind (wpAny_lt_int (wpAny_truthy_bool h)) : wpAny (model prog w) A (richCompare .Lt (.int i t) (.int j u) >>= truthOfDropped) Q E s)
theorem oneLt_s {b : Bool} {x y : Str} {t u : Nat} {Q : Bool → Shared → Prop} (hA : A.units + 64 < cLine) (h : Q (decide (x.cps.toList < y.cps.toList)) s) : wpAny (model prog w) A (oneLt' b (.str x t) (.str y u)) Q E s := by
  cases b with
  | true => exact oneLt_str h
  | false => exact (wpAny_bind (PyProof.Rows.lt_str (wpAny_truthy_bool h)) : wpAny (model prog w) A (richCompare .Lt (.str x t) (.str y u) >>= truthOfDropped) Q E s)
/-- one comparison of two leaves, ints or texts both -/
theorem oneLt_leaf {b : Bool} {u v : Value} {d e : Dt} {Q : Bool → Shared → Prop} (hu : Is w G u d) (hv : Is w G v e) (hk : (isInt d = true ∧ isInt e = true) ∨ (isStr d = true ∧ isStr e = true)) (hA : A.units + 64 < cLine)
    (h : Q (decide (enE d < enE e)) s) : wpAny (model prog w) A (oneLt' b u v) Q E s := by
  rcases hk with ⟨h1, h2⟩ | ⟨h1, h2⟩
  · obtain ⟨i, rfl⟩ := isInt_inv h1
    obtain ⟨j, rfl⟩ := isInt_inv h2
    obtain ⟨t, rfl⟩ := hu.inv
    obtain ⟨t', rfl⟩ := hv.inv
    exact oneLt_i hA (lt_ints i j ▸ h)
  · obtain ⟨i, rfl⟩ := isStr_inv h1
    obtain ⟨j, rfl⟩ := isStr_inv h2
    obtain ⟨t, rfl, _⟩ := hu.inv
    obtain ⟨t', rfl, _⟩ := hv.inv
    exact oneLt_s hA (lt_strs i j ▸ h)

theorem keyLt_tuples (b : Bool) (x y : Value) : keyLt' (tuples' b) x y = (do
    let xs ← Builtin.List.listItems x
    let ys ← Builtin.List.listItems y
    for ((p, q), i) in (xs.toList.zip ys.toList).zipIdx do
      if !(← eqBool p q) then return ← oneLt' (b && i == 0) p q
    return xs.size < ys.size) := rfl

/-- ints or texts at one place in both, as far as both are equal before -/
noncomputable def alike : List Dt → List Dt → Prop
  | d :: r, e :: t => ((isInt d = true ∧ isInt e = true) ∨ (isStr d = true ∧ isStr e = true)) ∧ (d = e → alike r t)
  | _, _ => True

theorem zip_head {p q : Value} {j i : Nat} {rest : List ((Value × Value) × Nat)} : ∀ {vs us : List Value}, ((p, q), j) :: rest = (List.zip vs us).zipIdx i → ∃ vs' us', vs = p :: vs' ∧ us = q :: us' ∧ rest = (List.zip vs' us').zipIdx (i + 1)
  | [], _, h => nomatch h
  | _ :: _, [], h => nomatch h
  | _ :: vs, _ :: us, h => by cases h; exact ⟨vs, us, rfl, rfl, rfl⟩
theorem zip_end {i : Nat} : ∀ {vs us : List Value}, [] = (List.zip vs us).zipIdx i → vs = [] ∨ us = []
  | [], _, _ => .inl rfl
  | _ :: _, [], _ => .inr rfl
  | _ :: _, _ :: _, h => nomatch h
theorem cons_lt_same {a : List Int} {x y : List (List Int)} : a :: x < a :: y ↔ x < y := List.cons_lt_cons_iff.trans ⟨fun h => h.elim (fun c => absurd c (List.lt_irrefl _)) And.right, fun h => .inr ⟨rfl, h⟩⟩
theorem cons_lt_ne {a b : List Int} {x y : List (List Int)} (h : a ≠ b) : a :: x < b :: y ↔ a < b := List.cons_lt_cons_iff.trans ⟨fun c => c.elim id fun c => absurd c.1 h, .inl⟩
theorem lt_end : ∀ {l m : List Dt}, l = [] ∨ m = [] → decide (l.length < m.length) = decide (l.map enE < m.map enE)
  | [], [], _ => rfl
  | [], _ :: _, _ => rfl
  | _ :: _, [], _ => rfl
  | _ :: _, _ :: _, h => h.elim nofun nofun
theorem pl_leaf {d : Dt} (h : leaf d = true) : pl 1 d = true := by
  cases d with
  | int _ => rfl
  | str _ => rfl
  | _ => cases h
inductive KI (w : World) (G : Gh) (l m : List Dt) (n k : Nat) (s : Shared) (rest : List ((Value × Value) × Nat)) : Option Bool × PUnit → Shared → Prop
  | mk {i : Nat} {vs us : List Value} {l' m' : List Dt} (hz : rest = (List.zip vs us).zipIdx i) (h3 : IsAll w G vs l') (h4 : IsAll w G us m') (h5 : alike l' m') (h6 : ∀ d ∈ l', leaf d = true) (h7 : ∀ d ∈ m', leaf d = true)
    (h8 : l.map enE < m.map enE ↔ l'.map enE < m'.map enE) (h9 : decide (n < k) = decide (l'.length < m'.length)) : KI w G l m n k s rest (none, ⟨⟩) s

theorem keyLt_tup {b : Bool} {x y : Value} {l m : List Dt} {Q : Bool → Shared → Prop} (gh : InH G s.heap) (hx : Is w G x (.tup l)) (hy : Is w G y (.tup m)) (hl : ∀ d ∈ l, leaf d = true) (hm : ∀ d ∈ m, leaf d = true)
    (ha : alike l m) (hA : A.units + 64 < cLine) (h : Q (decide (l.map enE < m.map enE)) s) : wpAny (model prog w) A (keyLt' (tuples' b) x y) Q E s := by
  refine nn fun hno_ => ?_
  obtain ⟨a, vs, n, rfl, h1, hs⟩ := hx.inv
  refine hno_ ?_
  clear hno_
  obtain ⟨c, us, k, rfl, h2, ht⟩ := hy.inv
  rw [keyLt_tuples]
  refine wpAny_bind (listItems_at (gh _ _ h1) rfl (wpAny_bind (listItems_at (gh _ _ h2) rfl (wpAny_bind ?_))))
  have hlen1 : vs.size = l.length := hs.length ▸ Array.length_toList.symm
  have hlen2 : us.size = m.length := ht.length ▸ Array.length_toList.symm
  refine wpAny_forIn_list _ (KI w G l m vs.size us.size s) _ ?_ ?_ _ _ (.mk rfl hs ht ha hl hm Iff.rfl (by rw [hlen1, hlen2]))
  · intro ⟨⟨p, q⟩, j⟩ rest r s' hI
    cases hI with
    | mk hz h3 h4 h5 h6 h7 h8 h9 =>
      refine nn fun no => ?_
      obtain ⟨vs', us', rfl, rfl, hz'⟩ := zip_head hz
      obtain ⟨d, l'', rfl, hp, hvs⟩ := h3.invD
      obtain ⟨e, m'', rfl, hq, hus⟩ := h4.invD
      refine no ?_
      clear no
      have ld := h6 d (.head _)
      have le := h7 e (.head _)
      refine wpAny_bind (eqBool_D gh hp hq (pl_leaf ld) (pl_leaf le) (by decide) hA ?_)
      by_cases hde : d = e
      · subst hde
        rw [decide_eq_true rfl]
        exact wpAny_pure (.mk hz' hvs hus (h5.2 rfl) (fun x hx => h6 x (.tail _ hx)) (fun x hx => h7 x (.tail _ hx)) (h8.trans cons_lt_same) (h9.trans (decide_eq_decide.mpr Nat.succ_lt_succ_iff)))
      · rw [decide_eq_false hde]
        refine wpAny_bind (oneLt_leaf hp hq h5.1 hA (wpAny_pure (wpAny_pure ?_)))
        have : decide (l.map enE < m.map enE) = decide (enE d < enE e) := decide_eq_decide.mpr (h8.trans (cons_lt_ne fun q => hde (enE_inj ld le q)))
        rw [this] at h
        exact h
  · intro r s' hI
    cases hI with
    | mk hz h3 h4 h5 h6 h7 h8 h9 =>
      have z : l' = [] ∨ m' = [] := (zip_end hz).imp (fun e => by subst e; exact h3.invD) (fun e => by subst e; exact h4.invD)
      have : Q (decide (vs.size < us.size)) s := by rw [h9, lt_end z, ← decide_eq_decide.mpr h8]; exact h
      exact wpAny_pure this
end
end Mine
end

section
open PySem PySem.Spec PySem.Calls PyProof.Rows
namespace Mine
open scoped Classical

/-! sorted: the items in the order of their codes -/
noncomputable def leD (a b : Dt) : Bool := !decide (enD b < enD a)
noncomputable def ins (d : Dt) : List Dt → List Dt
  | [] => [d]
  | e :: r => if leD d e then d :: e :: r else e :: ins d r
noncomputable def isort : List Dt → List Dt
  | [] => []
  | d :: r => ins d (isort r)

theorem ins_perm (d : Dt) : ∀ l : List Dt, (ins d l).Perm (d :: l)
  | [] => .refl _
  | e :: r => by
    unfold ins
    split
    · exact .refl _
    · exact ((ins_perm d r).cons e).trans (.swap d e r)
theorem isort_perm : ∀ l : List Dt, (isort l).Perm l
  | [] => .refl _
  | d :: r => (ins_perm d _).trans ((isort_perm r).cons d)
theorem leD_total (a b : Dt) : leD a b = true ∨ leD b a = true := by
  unfold leD
  by_cases h : enD b < enD a
  · exact .inr (by simp [List.not_lt.mpr (List.le_of_lt h)])
  · exact .inl (by simp [List.not_lt.mp h])
theorem leD_trans {a b c : Dt} (h1 : leD a b = true) (h2 : leD b c = true) : leD a c = true := by
  unfold leD at *
  simp only [Bool.not_eq_eq_eq_not, Bool.not_true, decide_eq_false_iff_not] at *
  exact fun h => h1 (List.lt_of_le_of_lt (List.not_lt.mp h2) h)
theorem ins_sorted {d : Dt} : ∀ {l : List Dt}, l.Pairwise (fun a b => leD a b = true) → (ins d l).Pairwise (fun a b => leD a b = true)
  | [], _ => by simp [ins]
  | e :: r, h => by
    obtain ⟨h1, h2⟩ := List.pairwise_cons.mp h
    unfold ins
    split
    · rename_i hq
      exact List.pairwise_cons.mpr ⟨fun x hx => (List.mem_cons.mp hx).elim (fun q => q ▸ hq) fun q => leD_trans hq (h1 x q), h⟩
    · rename_i hq
      refine List.pairwise_cons.mpr ⟨fun x hx => ?_, ins_sorted h2⟩
      rcases List.mem_cons.mp ((ins_perm d r).mem_iff.mp hx) with q | q
      · subst q; exact (leD_total x e).resolve_left hq
      · exact h1 x q
theorem isort_sorted : ∀ l : List Dt, (isort l).Pairwise (fun a b => leD a b = true)
  | [] => .nil
  | d :: r => ins_sorted (isort_sorted r)

/-- of one kind, by the codes: sorted lists of the same items are one -/
theorem sorted_unique : ∀ {l m : List Dt}, (∀ a ∈ l, ∀ b ∈ l, enD a = enD b → a = b) → l.Perm m → l.Pairwise (fun a b => leD a b = true) → m.Pairwise (fun a b => leD a b = true) → l = m
  | [], m, _, hp, _, _ => by rw [hp.symm.eq_nil]
  | a :: l, [], _, hp, _, _ => by have := hp.eq_nil; cases this
  | a :: l, b :: m, hi, hp, h1, h2 => by
    obtain ⟨a1, a2⟩ := List.pairwise_cons.mp h1
    obtain ⟨b1, b2⟩ := List.pairwise_cons.mp h2
    have hb : b ∈ a :: l := hp.mem_iff.mpr (.head _)
    have ha : a ∈ b :: m := hp.mem_iff.mp (.head _)
    have e : a = b := by
      rcases List.mem_cons.mp hb with q | q
      · exact q.symm
      · rcases List.mem_cons.mp ha with r | r
        · exact r
        · have x1 := a1 b q
          have x2 := b1 a r
          unfold leD at x1 x2
          simp only [Bool.not_eq_eq_eq_not, Bool.not_true, decide_eq_false_iff_not] at x1 x2
          exact hi a (.head _) b hb (List.le_antisymm (List.not_lt.mp x1) (List.not_lt.mp x2))
    subst e
    rw [sorted_unique (fun x hx y hy => hi x (.tail _ hx) y (.tail _ hy)) (List.Perm.cons_inv hp) a2 b2]

/-- the kinds of items that sorted is asked for here -/
inductive SortOk : List Dt → Prop
  | iAll {l : List Dt} : (∀ d ∈ l, isInt d = true) → SortOk l
  | sAll {l : List Dt} : (∀ d ∈ l, isStr d = true) → SortOk l
  | iTup {l : List Dt} : (∀ d ∈ l, isTup isInt d = true) → (∀ d ∈ l, ∀ e ∈ l, ∀ x y, d = .tup x → e = .tup y → alike x y) → SortOk l
  | sTup {l : List Dt} : (∀ d ∈ l, isTup isStr d = true) → (∀ d ∈ l, ∀ e ∈ l, ∀ x y, d = .tup x → e = .tup y → alike x y) → SortOk l

theorem tup_inv {f : Dt → Bool} (hf : ∀ d, f d = true → leaf d = true) {d : Dt} (h : isTup f d = true) : ∃ x r, d = .tup (x :: r) ∧ f x = true ∧ ∀ y ∈ x :: r, leaf y = true := by
  cases d with
  | tup l =>
    cases l with
    | nil => simp [isTup] at h
    | cons x r =>
      simp only [isTup, Bool.and_eq_true, List.all_eq_true] at h
      exact ⟨x, r, rfl, h.1, fun y hy => (List.mem_cons.mp hy).elim (fun q => q ▸ hf x h.1) (h.2 y)⟩
  | _ => simp [isTup] at h
theorem enD_inj_tup {f : Dt → Bool} (hf : ∀ d, f d = true → leaf d = true) {a b : Dt} (ha : isTup f a = true) (hb : isTup f b = true) (h : enD a = enD b) : a = b := by
  obtain ⟨x, r, rfl, _, h1⟩ := tup_inv hf ha
  obtain ⟨y, t, rfl, _, h2⟩ := tup_inv hf hb
  simp only [enD] at h
  rw [map_inj_of (fun a ha b hb => enE_inj (h1 a ha) (h2 b hb)) h]
theorem leaf_of_int {d : Dt} (h : isInt d = true) : leaf d = true := by cases d <;> simp_all [isInt, leaf]
theorem leaf_of_str {d : Dt} (h : isStr d = true) : leaf d = true := by cases d <;> simp_all [isStr, leaf]
theorem enD_leaf {d : Dt} (h : leaf d = true) : enD d = [enE d] := by cases d <;> simp_all [enD, leaf]

/-- one kind for the whole list -/
noncomputable def kindOfOk (l : List Dt) (kind : Dt → Bool) : Prop := (∀ d ∈ l, kind d = true) ∧ ∀ a b, kind a = true → kind b = true → enD a = enD b → a = b

section
variable {prog : Program} {w : World} {A : Around} {E : Value → Shared → Prop} {s : Shared} {G : Gh}

theorem IsAll.mem {vs : List Value} {ds : List Dt} {v : Value} (x : IsAll w G vs ds) (h : v ∈ vs) : ∃ d ∈ ds, Is w G v d :=
  x.ind (P := fun vs ds => v ∈ vs → ∃ d ∈ ds, Is w G v d) (fun h => nomatch h) (fun a _ ih h => match List.mem_cons.mp h with
    | .inl e => ⟨_, .head _, e ▸ a⟩
    | .inr h => let ⟨d, h1, h2⟩ := ih h; ⟨d, .tail _ h1, h2⟩) h

theorem keys_ok {kind : Dt → Bool} {vs : List Value} {ds : List Dt} (hs : IsAll w G vs ds) (hk : ∀ d ∈ ds, kind d = true) : KeysOf (keyD w G kind) (pairsOf vs) := by
  intro p hp
  rw [pairsOf_toList] at hp
  refine nn fun hno_ => ?_
  obtain ⟨d, h1, h2⟩ := hs.mem (mem_zip_self hp).2
  refine hno_ ?_
  clear hno_
  exact ⟨_, keyD_of h2 (hk d h1)⟩

/-- what stands behind the sort, by data -/
theorem out_D {kind : Dt → Bool} {vs : List Value} {ds : List Dt} (hs : IsAll w G vs ds) (hk : kindOfOk ds kind) {xs : Array Keyed} (hp : xs.Perm (pairsOf vs)) (hsort : SortedToK (keyD w G kind) xs (pairsOf vs).size) :
    IsAll w G (xs.map (·.2)).toList (isort ds) := by
  -- each pair's key is its value
  have hl : xs.toList.Perm (vs.zip vs) := by rw [← pairsOf_toList]; exact Array.perm_iff_toList_perm.mp hp
  have hmem : ∀ p, p ∈ xs.toList → p.1 = p.2 ∧ p.1 ∈ vs := fun p hp' => mem_zip_self (hl.mem_iff.mp hp')
  have e : (xs.map (·.2)).toList = xs.toList.map (·.1) := by
    rw [Array.toList_map]; exact List.map_congr_left fun p hp' => (hmem p hp').1.symm
  rw [e]
  have hpv : (xs.toList.map (·.1)).Perm vs := by
    have := hl.map (·.1)
    rwa [List.map_fst_zip (Nat.le_refl _)] at this
  -- a list of values that is a permutation of vs stands for a permutation of ds
  have perm_is : ∀ {us vs : List Value}, us.Perm vs → ∀ {ds : List Dt}, IsAll w G vs ds → ∃ es, IsAll w G us es ∧ es.Perm ds := by
    intro us vs h
    induction h with
    | nil => intro ds h; cases h; exact ⟨[], .nil, .refl _⟩
    | cons x _ ih => intro ds h; cases h with | cons a r => obtain ⟨es, h1, h2⟩ := ih r; exact ⟨_, .cons a h1, h2.cons _⟩
    | swap x y l => intro ds h; cases h with | cons a r => cases r with | cons b r => exact ⟨_, .cons b (.cons a r), .swap ..⟩
    | trans _ _ ih1 ih2 => intro ds h; obtain ⟨es, h1, h2⟩ := ih2 h; obtain ⟨fs, h3, h4⟩ := ih1 h1; exact ⟨fs, h3, h4.trans h2⟩
  obtain ⟨es, hes, hpe⟩ := perm_is hpv hs
  have hsorted : es.Pairwise (fun a b => leD a b = true) := by
    rw [List.pairwise_iff_getElem]
    intro i j hi hj hij
    have hsz : xs.size = es.length := by rw [← hes.length]; simp
    have h1 := hsort i j (Nat.le_of_lt hij) (by rw [← hp.size_eq, hsz]; exact hj)
    have kk : ∀ (k : Nat) (hk' : k < es.length), KK (keyD w G kind) xs k = enD es[k] := by
      intro k hk'
      have hkx : k < xs.size := by rw [hsz]; exact hk'
      obtain ⟨v, hv, his⟩ := hes.get (i := k) (List.getElem?_eq_getElem hk')
      have hv' : v = xs[k].1 := by simp [hkx] at hv; exact hv.symm
      rw [hv'] at his
      unfold KK
      rw [getElem?_pos xs k hkx]
      show ((keyD w G kind).keyOf xs[k].1).getD _ = _
      rw [keyD_of his (hk.1 _ (hpe.mem_iff.mp (List.getElem_mem hk')))]
      rfl
    rw [kk i hi, kk j hj] at h1
    unfold leD
    change decide (enD es[j] < enD es[i]) = false at h1
    simp only [h1, Bool.not_false]
  have : es = isort ds := sorted_unique (fun a ha b hb q => hk.2 a b (hk.1 a (hpe.mem_iff.mp ha)) (hk.1 b (hpe.mem_iff.mp hb)) q) (hpe.trans (isort_perm ds).symm) hsorted (isort_sorted ds)
  rw [← this]; exact hes

theorem wpAny_mapM {α β : Type} {M : Model} {f : α → Sem β} {R : β → Prop} : ∀ {l : List α} {Q : List β → Shared → Prop},
    (∀ x ∈ l, ∀ Q' : β → Shared → Prop, (∀ y, R y → Q' y s) → wpAny M A (f x) Q' E s) → (∀ ys, ys.length = l.length → (∀ y ∈ ys, R y) → Q ys s) → wpAny M A (l.mapM f) Q E s
  | [], Q, _, h => by rw [List.mapM_nil]; exact wpAny_pure (h [] rfl (by simp))
  | x :: l, Q, hf, h => by
    rw [List.mapM_cons]
    refine wpAny_bind (hf x (.head _) _ fun y hy => ?_)
    refine wpAny_bind (wpAny_mapM (fun z hz => hf z (.tail _ hz)) fun ys hl hys => ?_)
    exact wpAny_pure (h _ (by simp [hl]) (by simpa using ⟨hy, hys⟩))

theorem first_tup {f : Dt → Bool} (hf : ∀ d, f d = true → leaf d = true) {v : Value} {d : Dt} (gh : InH G s.heap) (h : Is w G v d) (hk : isTup f d = true) {Q : Option Value → Shared → Prop}
    (q : ∀ u x, Is w G u x → f x = true → Q (some u) s) : wpAny (model prog w) A (firstOfTuple' v) Q E s := by
  refine nn fun hno_ => ?_
  obtain ⟨x, r, rfl, h1, _⟩ := tup_inv hf hk
  refine hno_ ?_
  clear hno_
  obtain ⟨a, vs, n, rfl, ha, hs⟩ : ∃ a vs n, v = .ref a ∧ G a = some (tupObj vs n) ∧ IsAll w G vs.toList (x :: r) := by cases h with | tup p q => exact ⟨_, _, _, rfl, p, q⟩
  show wpAny _ _ (typeOf (.ref a) >>= fun t => if (t != .type "tuple") = true then pure none else Builtin.List.listItems (.ref a) >>= fun xs => pure xs[0]?) Q E s
  refine wpAny_bind (wpAny_typeOf (T := "tuple") ⟨_, gh _ _ ha, rfl⟩ ?_)
  rw [if_neg (by decide)]
  refine wpAny_bind (listItems_at (gh _ _ ha) rfl (wpAny_pure ?_))
  obtain ⟨u, hu, hi⟩ := hs.get (i := 0) rfl
  have : vs[0]? = some u := by simpa using hu
  rw [this]
  exact q u x hi h1

/-- the sort's kind for flat tuples -/
theorem keyKind_tups {f : Dt → Bool} {T : String} (hf : ∀ d, f d = true → leaf d = true) (hT : ∀ {u : Value} {x : Dt}, Is w G u x → f x = true → typeOf u = pure (.type T)) (hne : (Value.type T != .type "tuple") = true)
    {vs : List Value} {ds : List Dt} (gh : InH G s.heap) (hs : IsAll w G vs ds) (hk : ∀ d ∈ ds, isTup f d = true) (h2 : 1 ≤ vs.length) {Q : SortKind → Shared → Prop} (q : Q (tuples' true) s) :
    wpAny (model prog w) A (keyKind' vs.toArray) Q E s := by
  rw [keyKind'_eq, List.mapM_toArray, bind_map_left]
  refine wpAny_bind (wpAny_mapM (R := fun y => ∃ u x, y = some u ∧ Is w G u x ∧ f x = true) (fun v hv Q' h => ?_) fun ys hlen hall => ?_)
  · obtain ⟨d, hd, his⟩ := hs.mem hv
    exact first_tup hf gh his (hk d hd) fun u x h1 h2 => h _ ⟨u, x, rfl, h1, h2⟩
  · rw [if_pos (by
      simp only [List.all_toArray, List.all_eq_true]
      intro y hy
      obtain ⟨u, x, rfl, _⟩ := hall y hy
      rfl)]
    refine wpAny_bind (wpAny_rule ?_)
    have typ : ∀ y ∈ ys.filterMap id, typeOf y = pure (.type T) := by
      intro y hy
      obtain ⟨o, ho, ho'⟩ := List.mem_filterMap.mp hy
      obtain ⟨u, x, rfl, h3, h4⟩ := hall o ho
      simp at ho'; subst ho'
      exact hT h3 h4
    have hmap : (ys.filterMap id).mapM typeOf = pure ((ys.filterMap id).map fun _ => Value.type T) := by
      generalize ys.filterMap id = l at typ
      induction l with
      | nil => simp
      | cons y l ih => rw [List.mapM_cons, typ y (.head _), ih fun z hz => typ z (.tail _ hz)]; simp
    have hnil : ys.filterMap id ≠ [] := by
      cases ys with
      | nil => simp at hlen; lia
      | cons y r =>
        obtain ⟨u, x, rfl, _⟩ := hall y (.head _)
        simp
    have hone : oneTypeOnly' (ys.filterMap id).toArray = pure (some (.type T)) := by
      rw [oneTypeOnly'_eq, List.mapM_toArray, hmap]
      simp only [map_pure, pure_bind]
      obtain ⟨z, l, hz⟩ : ∃ z l, ys.filterMap id = z :: l := by
        cases hq : ys.filterMap id with
        | nil => exact absurd hq hnil
        | cons z l => exact ⟨z, l, rfl⟩
      rw [hz]
      have h0 : (List.map (fun _ => Value.type T) (z :: l)).toArray[0]? = some (Value.type T) := by simp
      rw [h0]
      have hall' : ((List.map (fun _ => Value.type T) (z :: l)).toArray.all fun x => x == Value.type T) = true := by
        simp only [List.all_toArray, List.all_map, List.all_eq_true]
        intro _ _; simp
      simp only [hall', if_true]
    rw [show (ys.toArray.filterMap id) = (ys.filterMap id).toArray by simp, hone]
    refine wpAny_bind (wpAny_pure (wpAny_pure ?_))
    show Q (tuples' ((some (Value.type T)).any fun x => x != .type "tuple")) s
    rw [show ((some (Value.type T)).any fun x => x != .type "tuple") = true from hne]
    exact q
end
end Mine
end

section
open PySem PySem.Spec PySem.Calls PyProof.Rows
namespace Mine
open scoped Classical

section
variable {prog : Program} {w : World} {A : Around} {E : Value → Shared → Prop} {s : Shared} {G : Gh}

/-- the body of list.sort, the kind found and the comparison known -/
theorem sortTree {kind : Dt → Bool} {kd : SortKind} {a : Addr} {vs : List Value} {ds : List Dt} {n : Nat} {P : Fin → Shared → Prop} (ho : s.heap.get? a = some (seqObj "list" vs.toArray n))
    (hs : IsAll w G vs ds) (hk : kindOfOk ds kind) (hG : ∀ b o, G b = some o → b ≠ a)
    (hkk : 2 ≤ vs.length → ∀ (s' : Shared) (Q : SortKind → Shared → Prop), InH G s'.heap → Q kd s' → wpAny (model prog w) A (keyKind' vs.toArray) Q E s')
    (hL : ∀ s' : Shared, InH G s'.heap → LtBy prog w A (fun _ _ => False) s' (keyD w G kind) kd) (gh : InH G s.heap) (h64 : vs.length < 64)
    (h : ∀ out : Array Value, IsAll w G out.toList (isort ds) → P (.done (.ret .none)) { s with heap := sortedHeap s.heap a vs out }) :
    wpAny (model prog w) A (Builtin.«list.sort» ⟨[.ref a], []⟩) P E s := by
  rw [list_sort_plain]
  have ha : a < s.heap.objs.size := Heap.lt_size ho
  refine wpAny_bind (listItems_at ho rfl (wpAny_bind (listUpdate_at ho rfl ?_)))
  obtain ⟨e1, ho1⟩ : ∃ e1, (s.heap.update a (Obj.mapSeq fun _ => #[])).get? a = some (seqObj "list" #[] e1) := ⟨_, get?_update_seq ho (fun _ => #[])⟩
  refine wpAny_bind (seqEpoch_at ho1 rfl (wpAny_bind (wpAny_newTuple (wpAny_bind (wpAny_newList (wpAny_holding ?_))))))
  have hsz : vs.toArray.size = vs.length := by simp
  have ho6 : (((s.heap.update a (Obj.mapSeq fun _ => #[])).push (seqObj "tuple" vs.toArray 0)).push (seqObj "list" #[] 0)).get? a = some (seqObj "list" #[] e1) := Heap.get?_push_of_some _ (Heap.get?_push_of_some _ ho1)
  have gh6 : InH G (((s.heap.update a (Obj.mapSeq fun _ => #[])).push (seqObj "tuple" vs.toArray 0)).push (seqObj "list" #[] 0)) := fun b o e =>
    Heap.get?_push_of_some _ (Heap.get?_push_of_some _ ((Heap.get?_update_other _ _ (Ne.symm (hG b o e))).trans (gh b o e)))
  show wpAny (model prog w) A _ P E { s with heap := ((s.heap.update a (Obj.mapSeq fun _ => #[])).push (seqObj "tuple" vs.toArray 0)).push (seqObj "list" #[] 0) }
  dsimp only
  -- the store back
  have back : ∀ xs : Array Keyed, xs.Perm (pairsOf vs) → (hsorted : SortedToK (keyD w G kind) xs (pairsOf vs).size) → ∀ t : Unit → Sem Fin,
      wpAny (model prog w) A (t ()) P E { s with heap := sortedHeap s.heap a vs (xs.map (·.2)) } →
      wpAny (model prog w) A (Builtin.List.listUpdate (.ref a) (fun _ => xs.map (·.2)) >>= t) P E { s with heap := ((s.heap.update a (Obj.mapSeq fun _ => #[])).push (seqObj "tuple" vs.toArray 0)).push (seqObj "list" #[] 0) } := fun xs hp _ t ht =>
    wpAny_bind (listUpdate_at ho6 rfl ht (hsz2 := by rw [Array.size_map, hp.size_eq, pairsOf_size, sizeLine_eq]; lia))
  by_cases h2 : vs.toArray.size < 2
  · rw [if_pos h2, if_pos h2]
    refine wpAny_bind (wpAny_pure ?_)
    rw [StateT.run_pure]
    refine wpAny_bind (wpAny_pure ?_)
    dsimp only
    have hsorted : SortedToK (keyD w G kind) (vs.toArray.zip vs.toArray) (pairsOf vs).size := sb_one _ (by rw [pairsOf_size]; lia)
    refine wpAny_bind (seqEpoch_at ho6 rfl (back _ (Array.Perm.refl _) hsorted _ ?_))
    simp only [bne_self_eq_false, Bool.false_eq_true, if_false]
    exact wpAny_pure (h _ (out_D hs hk (Array.Perm.refl _) hsorted))
  · rw [if_neg h2, if_neg h2]
    refine wpAny_bind (hkk (by lia) _ _ gh6 ?_)
    refine wpAny_bind (wpAny_mono (sb_runs (κ := keyD w G kind) (kd := kd) (s := { s with heap := ((s.heap.update a (Obj.mapSeq fun _ => #[])).push (seqObj "tuple" vs.toArray 0)).push (seqObj "list" #[] 0) }) (a₀ := pairsOf vs)
      (st := SortSt.mk' kd (vs.toArray.zip vs.toArray) #[] 7 none)
      (Q := fun _ st' => (arrOf st').Perm (pairsOf vs) ∧ failedOf st' = none ∧ SortedToK (keyD w G kind) (arrOf st') (pairsOf vs).size)
      (hL _ gh6) (keys_ok hs hk.1) ⟨Array.Perm.refl _, rfl, rfl, rfl⟩ (by rw [pairsOf_size]; lia) (by rw [pairsOf_size]; exact h64) fun st' a1 a2 a3 => ⟨a1, a2, a3⟩) ?_ fun _ _ e => e)
    intro ⟨⟨⟩, st'⟩ s' hI_
    refine nn fun hno_ => ?_
    obtain ⟨rfl, hp, hf, hsorted⟩ := hI_
    refine hno_ ?_
    clear hno_
    dsimp only
    refine wpAny_bind (seqEpoch_at ho6 rfl (back _ hp hsorted _ ?_))
    rw [hf]
    simp only [bne_self_eq_false, Bool.false_eq_true, if_false]
    exact wpAny_pure (h _ (out_D hs hk hp hsorted))

/-- sorted(x), what x holds known -/
theorem sortedCore {x : Value} {kind : Dt → Bool} {kd : SortKind} {ds : List Dt} {Q : Value → Shared → Prop}
    (hcol : ∀ Q' : List Value → Shared → Prop, (∀ vs h' tk, Keep s.heap h' → IsAll w G vs ds → Q' vs { s with heap := h', toks := tk }) → wpAny (model prog w) A.in1 (collect x) Q' E s)
    (hk : kindOfOk ds kind)
    (hkk : ∀ vs, IsAll w G vs ds → 2 ≤ vs.length → ∀ (s' : Shared) (Q : SortKind → Shared → Prop), InH G s'.heap → Q kd s' → wpAny (model prog w) A.in1.in1 (keyKind' vs.toArray) Q E s')
    (hL : ∀ s' : Shared, InH G s'.heap → LtBy prog w A.in1.in1 (fun _ _ => False) s' (keyD w G kind) kd) (gh : InH G s.heap) (h64 : ds.length < 64)
    (h : ∀ D h' tk, Keep s.heap h' → s.heap.objs.size ≤ D → LAt w G h' D (isort ds) → Q (.ref D) { s with heap := h', toks := tk }) :
    wpAny (model prog w) A (call (.builtin "sorted") [x]) Q E s := by
  refine Calls.call_function_entry kind_sorted plain_sorted entry_sorted (args_sorted1 _) ?_
  unfold Builtin.«sorted»
  refine wpAny_bind (m := checkCount "sorted" 1 1 _) (wpAny_pure ?_)
  refine wpAny_bind (hcol _ fun vs h₁ tk hk₁ hvs => ?_)
  have hlen := hvs.length
  refine wpAny_bind (wpAny_newList ?_ (by rw [sizeLine_eq]; lia))
  have hoL : (h₁.push (seqObj "list" vs.toArray 0)).get? h₁.objs.size = some (seqObj "list" vs.toArray 0) := Heap.get?_push_size _ rfl
  have gh₁ : InH G (h₁.push (seqObj "list" vs.toArray 0)) := (gh.keep hk₁).keep (Keep.push _ _)
  refine wpAny_bind (wpAny_holding (wpAny_call_entry slot_list_sort ⟨_, hoL, rfl⟩ entry_list_sort (sortTree (s := { s with heap := h₁.push (seqObj "list" vs.toArray 0), toks := tk }) hoL hvs hk (fun b o e => ?_) (hkk vs hvs) hL gh₁ (by lia) fun out ho => ⟨_, rfl, ?_⟩) (args_list_sort _)))
  · have := (gh.keep hk₁).lt e
    exact Nat.ne_of_lt this
  refine wpAny_pure ⟨_, rfl, h h₁.objs.size _ tk ⟨?_, fun b o e => ?_⟩ hk₁.size ?_⟩
  · unfold sortedHeap
    rw [Heap.size_update, size_push', size_push', Heap.size_update, size_push']
    have := hk₁.size; lia
  · have hb : b ≠ h₁.objs.size := Nat.ne_of_lt (Heap.lt_size (hk₁.get b o e))
    unfold sortedHeap
    rw [Heap.get?_update_other _ _ (Ne.symm hb)]
    exact Heap.get?_push_of_some _ (Heap.get?_push_of_some _ ((Heap.get?_update_other _ _ (Ne.symm hb)).trans (Heap.get?_push_of_some _ (hk₁.get b o e))))
  · obtain ⟨e1, ho1⟩ : ∃ e1, ((h₁.push (seqObj "list" vs.toArray 0)).update h₁.objs.size (Obj.mapSeq fun _ => #[])).get? h₁.objs.size = some (seqObj "list" #[] e1) := ⟨_, get?_update_seq hoL (fun _ => #[])⟩
    have ho6 : ((((h₁.push (seqObj "list" vs.toArray 0)).update h₁.objs.size (Obj.mapSeq fun _ => #[])).push (seqObj "tuple" vs.toArray 0)).push (seqObj "list" #[] 0)).get? h₁.objs.size = some (seqObj "list" #[] e1) := Heap.get?_push_of_some _ (Heap.get?_push_of_some _ ho1)
    exact ⟨⟨_, _, get?_update_seq ho6 (fun _ => out), ho⟩⟩

theorem ltBy_leaf {kind : Dt → Bool} (hi : kind = isInt ∨ kind = isStr) (hA : A.units + 64 < cLine) : LtBy prog w A (fun _ _ => False) s (keyD w G kind) oneType' := by
  intro x y a b Q hx hy h
  obtain ⟨d, h1, h2, rfl⟩ := keyD_inv hx
  obtain ⟨e, h3, h4, rfl⟩ := keyD_inv hy
  rw [keyLt'_oneType]
  have ld : leaf d = true := by rcases hi with rfl | rfl; exact leaf_of_int h2; exact leaf_of_str h2
  have le : leaf e = true := by rcases hi with rfl | rfl; exact leaf_of_int h4; exact leaf_of_str h4
  refine oneLt_leaf h1 h3 ?_ hA ?_
  · rcases hi with rfl | rfl
    · exact .inl ⟨h2, h4⟩
    · exact .inr ⟨h2, h4⟩
  · have : decide (enD d < enD e) = decide (enE d < enE e) := by
      rw [enD_leaf ld, enD_leaf le, decide_eq_decide]
      simp [List.cons_lt_cons_iff]
    rw [← this]; exact h

theorem IsAll.intsAre : ∀ {vs : List Value} {ds : List Dt}, IsAll w G vs ds → (∀ d ∈ ds, isInt d = true) → ∃ ns, IntsAre vs ns
  | _, _, .nil, _ => ⟨[], .nil⟩
  | _, _, .cons h r, hk => by
    obtain ⟨ns, hn⟩ := r.intsAre fun d hd => hk d (.tail _ hd)
    have hi := hk _ (.head _)
    cases h <;> simp [isInt] at hi
    exact ⟨_, .cons _ _ hn⟩
theorem IsAll.strsAre : ∀ {vs : List Value} {ds : List Dt}, IsAll w G vs ds → (∀ d ∈ ds, isStr d = true) → ∃ ns, StrsAre vs ns
  | _, _, .nil, _ => ⟨[], .nil⟩
  | _, _, .cons h r, hk => by
    obtain ⟨ns, hn⟩ := r.strsAre fun d hd => hk d (.tail _ hd)
    have hi := hk _ (.head _)
    cases h <;> simp [isStr] at hi
    exact ⟨_, .cons _ _ hn⟩
theorem keyKind_leaf {kind : Dt → Bool} (hi : kind = isInt ∨ kind = isStr) {vs : List Value} {ds : List Dt} (hs : IsAll w G vs ds) (hk : ∀ d ∈ ds, kind d = true) (h2 : 2 ≤ vs.length) {Q : SortKind → Shared → Prop} (q : Q oneType' s) :
    wpAny (model prog w) A (keyKind' vs.toArray) Q E s := by
  obtain ⟨v₁, v₂, rest, rfl⟩ : ∃ v₁ v₂ rest, vs = v₁ :: v₂ :: rest := by
    match vs, h2 with
    | [], h => simp at h
    | [_], h => simp at h
    | a :: b :: r, _ => exact ⟨a, b, r, rfl⟩
  rcases hi with rfl | rfl
  · obtain ⟨ns, hn⟩ := hs.intsAre hk
    rw [keyKind_ints hn]; exact wpAny_pure q
  · obtain ⟨ns, hn⟩ := hs.strsAre hk
    rw [keyKind_strs hn]; exact wpAny_pure q

/-- sorted(x) by what x collects to -/
theorem sortedOf_D {x : Value} {ds : List Dt} {Q : Value → Shared → Prop}
    (hcol : ∀ Q' : List Value → Shared → Prop, (∀ vs h' tk, Keep s.heap h' → IsAll w G vs ds → Q' vs { s with heap := h', toks := tk }) → wpAny (model prog w) A.in1 (collect x) Q' E s)
    (ok : SortOk ds) (gh : InH G s.heap) (h64 : ds.length < 64) (hA : A.units + 80 < cLine)
    (h : ∀ D h' tk, Keep s.heap h' → s.heap.objs.size ≤ D → LAt w G h' D (isort ds) → Q (.ref D) { s with heap := h', toks := tk }) :
    wpAny (model prog w) A (call (.builtin "sorted") [x]) Q E s := by
  have hA2 : A.in1.in1.units + 64 < cLine := by show A.units + 1 + 1 + 64 < cLine; lia
  have tups : ∀ {f : Dt → Bool} {T : String}, (∀ d, f d = true → leaf d = true) → (∀ {u : Value} {x : Dt}, Is w G u x → f x = true → typeOf u = pure (.type T)) → (Value.type T != .type "tuple") = true →
      (∀ d ∈ ds, isTup f d = true) → (∀ d ∈ ds, ∀ e ∈ ds, ∀ x y, d = .tup x → e = .tup y → alike x y) → wpAny (model prog w) A (call (.builtin "sorted") [x]) Q E s := by
    intro f T hf hT hne hk hal
    refine sortedCore (kind := fun d => isTup f d && decide (d ∈ ds)) (kd := tuples' true) hcol ⟨fun d hd => by simp [hk d hd, hd], fun a b ha hb q => ?_⟩ (fun vs hvs h2 s' Q' g q => keyKind_tups hf hT hne g hvs hk (by lia) q) (fun s' g => ?_) gh h64 h
    · simp only [Bool.and_eq_true] at ha hb
      exact enD_inj_tup hf ha.1 hb.1 q
    · intro x y a b Q' hx hy q
      obtain ⟨d, h1, h2, rfl⟩ := keyD_inv hx
      obtain ⟨e, h3, h4, rfl⟩ := keyD_inv hy
      simp only [Bool.and_eq_true, decide_eq_true_eq] at h2 h4
      refine nn fun hno_ => ?_
      obtain ⟨x1, r1, rfl, _, l1⟩ := tup_inv hf h2.1
      refine hno_ ?_
      clear hno_
      refine nn fun hno_ => ?_
      obtain ⟨x2, r2, rfl, _, l2⟩ := tup_inv hf h4.1
      refine hno_ ?_
      clear hno_
      exact keyLt_tup g h1 h3 l1 l2 (hal _ h2.2 _ h4.2 _ _ rfl rfl) hA2 q
  cases ok with
  | iAll hk =>
    exact sortedCore (kind := isInt) (kd := oneType') hcol ⟨hk, fun a b ha hb q => enE_inj (leaf_of_int ha) (leaf_of_int hb) (by rw [enD_leaf (leaf_of_int ha), enD_leaf (leaf_of_int hb)] at q; simpa using q)⟩
      (fun vs hvs h2 s' Q' g q => keyKind_leaf (.inl rfl) hvs hk h2 q) (fun s' g => ltBy_leaf (.inl rfl) hA2) gh h64 h
  | sAll hk =>
    exact sortedCore (kind := isStr) (kd := oneType') hcol ⟨hk, fun a b ha hb q => enE_inj (leaf_of_str ha) (leaf_of_str hb) (by rw [enD_leaf (leaf_of_str ha), enD_leaf (leaf_of_str hb)] at q; simpa using q)⟩
      (fun vs hvs h2 s' Q' g q => keyKind_leaf (.inr rfl) hvs hk h2 q) (fun s' g => ltBy_leaf (.inr rfl) hA2) gh h64 h
  | iTup hk hal => exact tups (T := "int") (fun d => leaf_of_int) (fun h1 h2 => by cases h1 <;> simp [isInt] at h2; rfl) (by decide) hk hal
  | sTup hk hal => exact tups (T := "str") (fun d => leaf_of_str) (fun h1 h2 => by cases h1 <;> simp [isStr] at h2; rfl) (by decide) hk hal
end
end Mine
end

section
open PySem PySem.Spec PySem.Calls PyProof.Rows
namespace Mine
open scoped Classical

/-! Part K: judgements on expressions -/


/-- all that lived lives on, unchanged -/
noncomputable def Kp (h h' : Heap) : Prop := ∀ a o, h.get? a = some o → h'.get? a = some o
theorem Kp.refl (h : Heap) : Kp h h := fun _ _ e => e
theorem Kp.trans {h h' h'' : Heap} (x : Kp h h') (y : Kp h' h'') : Kp h h'' := fun a o e => y a o (x a o e)
theorem Kp.push (h : Heap) (o : Obj) : Kp h (h.push o) := fun _ _ e => Heap.get?_push_of_some o e
theorem Keep.kp {h h' : Heap} (x : Keep h h') : Kp h h' := x.get
theorem InH.kp {G : Gh} {h h' : Heap} (x : InH G h) (k : Kp h h') : InH G h' := fun a o e => k a o (x a o e)
theorem Kp.fresh {h h' : Heap} (k : Kp h h') : h.get? h'.objs.size = none := by
  cases q : h.get? h'.objs.size with
  | none => rfl
  | some o => exact absurd (Heap.lt_size (k _ _ q)) (Nat.lt_irrefl _)
theorem Kp.none {h h' : Heap} (k : Kp h h') {a : Addr} (e : h'.get? a = none) : h.get? a = none := by
  cases q : h.get? a with
  | none => rfl
  | some o => rw [k _ _ q] at e; cases e

/-- what was held, and all that is new since h -/
noncomputable def exl (G : Gh) (h h' : Heap) : Gh := fun a => match h.get? a with
  | some _ => G a
  | none => h'.get? a
theorem exl_in {G : Gh} {h h' : Heap} (x : InH G h') : InH (exl G h h') h' := by
  intro a o e
  unfold exl at e
  split at e
  · exact x a o e
  · exact e
theorem sub_exl {G : Gh} {h h' : Heap} (x : InH G h') : Sub G (exl G h h') := by
  intro a o e
  unfold exl
  split
  · exact e
  · exact x a o e
theorem exl_mono {G : Gh} {h h' h'' : Heap} (k : Kp h' h'') : Sub (exl G h h') (exl G h h'') := by
  intro a o e
  unfold exl at e ⊢
  split at e
  · exact e
  · exact k a o e
theorem exl_exl {G : Gh} {h h1 h2 : Heap} (k1 : Kp h h1) (k2 : Kp h1 h2) : Sub (exl (exl G h h1) h1 h2) (exl G h h2) := by
  intro a o e
  unfold exl at e ⊢
  cases q : h.get? a with
  | some o' =>
    rw [q] at e
    rw [k1 _ _ q] at e
    exact e
  | none =>
    rw [q] at e
    split at e
    · exact k2 _ _ e
    · exact e
theorem exl_none {G : Gh} {h h' : Heap} {a : Addr} {o : Obj} (hl : h.get? a = some o) (hn : G a = none) : exl G h h' a = none := by unfold exl; rw [hl]; exact hn
theorem exl_push {G : Gh} {h h' : Heap} (o : Obj) (k : Kp h h') (ho : autoParam (o.isFreed = false) aR._auto_1) : exl G h (h'.push o) h'.objs.size = some o := by
  unfold exl; rw [k.fresh]; exact Heap.get?_push_size _ ho

noncomputable def starred (e : Expr) : Bool := Nat.beq e.ctorIdx 22
noncomputable def isComp (e : Expr) : Bool := Nat.beq e.ctorIdx 8 || Nat.beq e.ctorIdx 9 || Nat.beq e.ctorIdx 10
theorem star_cons {e : Expr} {es : List Expr} {env : Env} (h : starred e = false) : starEach (e :: es) env = (false, eval e env) :: starEach es env := by
  cases e <;> first | rfl | exact (Bool.noConfusion (show true = false from h))
theorem star_none {pos : Pos} {env : Env} : ∀ {es : List Expr}, (es.all fun e => !starred e) = true → ((backTo pos (starEach es env)).any fun x => x.1) = false
  | [], _ => rfl
  | e :: es, h => by
    simp only [List.all_cons, Bool.and_eq_true, Bool.not_eq_true'] at h
    rw [star_cons h.1]
    show (false || (backTo pos (starEach es env)).any fun x => x.1) = false
    rw [star_none h.2]; rfl
theorem back_one {e : Expr} {pos : Pos} {env : Env} (h : starred e = false) : backTo pos (starEach [e] env) = [(false, eval e env)] := by rw [star_cons h]; rfl
theorem back_all {pos : Pos} {env : Env} : ∀ {es : List Expr}, (es.all fun e => !starred e) = true → ((backTo pos (starEach es env)).all fun x => !x.1) = true
  | [], _ => rfl
  | e :: es, h => by
    simp only [List.all_cons, Bool.and_eq_true, Bool.not_eq_true'] at h
    rw [star_cons h.1]
    show (true && (backTo pos (starEach es env)).all fun x => !x.1) = true
    rw [back_all h.2]; rfl
theorem swaps_no {e : Expr} {t : Option Expr} {l : Nat} {env : Env} (h : isComp e = false) : swapsWith e t l env = pure false := by
  cases e <;> first | rfl | exact (Bool.noConfusion (show true = false from h))
theorem swaps_sub {e o i : Expr} {p : Pos} {l : Nat} {env : Env} : swapsWithSole [.Subscript o i p] e l env = pure false := by
  cases e <;> rfl
theorem swapped_sub {e o i : Expr} {p : Pos} {env : Env} : swappedStores [.Subscript o i p] e env = pure none := by
  cases e <;> rfl
noncomputable def Ok (A : Around) (k : Nat) : Prop := A.handled = none ∧ A.depth + 10 * k < 800 ∧ A.units + 100 * k + 400 < 9000
theorem Ok.mono {A : Around} {k k' : Nat} (h : Ok A k) (hk : k' ≤ k) : Ok A k' := ⟨h.1, by have := h.2.1; lia, by have := h.2.2; lia⟩
theorem Ok.u {A : Around} {k : Nat} (h : Ok A k) (n : Nat) (hn : n ≤ 400) : A.units + n < cLine := by have := h.2.2; unfold cLine; lia
theorem Ok.deeper {A : Around} {k : Nat} (h : Ok A (k + 1)) (env : Env) : Ok (A.deeper env) k := ⟨h.1, by have := h.2.1; show A.depth + 1 + _ < _; lia, by have := h.2.2; show A.units + 3 + _ + _ < _; lia⟩
theorem Ok.room {A : Around} {k : Nat} (h : Ok A k) : A.depth < recursionLimit := by have := h.2.1; unfold recursionLimit; lia

noncomputable def At (h : Heap) (env : Env) (x : Str) (v : Value) : Prop :=
  (env.kindOf x = some .local ∧ ∃ m, h.Ns env.locals m ∧ m x = some v) ∨
  ((env.kindOf x = some .cell ∨ env.kindOf x = some .free) ∧ ∃ c, env.cells.lookup x = some c ∧ h.IsCell c (some v))

theorem At.keep {h h' : Heap} {env : Env} {x : Str} {v : Value} (a : At h env x v) (k : Kp h h') : At h' env x v := by
  rcases a with ⟨h1, m, h2, h3⟩ | ⟨h1, c, h2, h3⟩
  · exact .inl ⟨h1, m, h2.keeps k, h3⟩
  · exact .inr ⟨h1, c, h2, h3.keeps k⟩

structure Rd (w : World) (h₀ : Heap) (sc : Scope) (ρ : List (Str × Dt)) (G : Gh) (h : Heap) (env : Env) : Prop where
  scope : env.scope = sc
  kind : sc.kind = .function
  glob : env.globals = mainGlobals
  bi : env.builtins = builtinsNs
  keep : Kp h₀ h
  inh : InH G h
  cells : ∀ x, (sc.names.lookup x = some .cell ∨ sc.names.lookup x = some .free) → (env.cells.lookup x).isSome = true
  names : ∀ x d, ρ.lookup x = some d → ∃ v, Is w G v d ∧ At h env x v

section
variable {prog : Program} {w : World} {h₀ : Heap} {sc : Scope} {ρ : List (Str × Dt)} {k : Nat} {G G' : Gh} {s : Shared} {env : Env} {A : Around} {E : Value → Shared → Prop}

theorem Rd.step {h h' : Heap} (R : Rd w h₀ sc ρ G h env) (kp : Kp h h') : Rd w h₀ sc ρ (exl G h h') h' env where
  scope := R.scope
  kind := R.kind
  glob := R.glob
  bi := R.bi
  keep := R.keep.trans kp
  inh := exl_in (R.inh.kp kp)
  cells := R.cells
  names := fun x d e => let ⟨v, hv, a⟩ := R.names x d e; ⟨v, hv.mono (sub_exl (R.inh.kp kp)), a.keep kp⟩

inductive Po (w : World) (G : Gh) (s : Shared) (d : Dt) (v : Value) (s' : Shared) : Prop
  | mk (h' : Heap) (tk : Nat) (e : s' = { s with heap := h', toks := tk }) (kp : Kp s.heap h') (i : Is w (exl G s.heap h') v d)

structure Ev (prog : Program) (w : World) (h₀ : Heap) (k : Nat) (sc : Scope) (ρ : List (Str × Dt)) (e : Expr) (d : Dt) : Prop where
  run :
    ∀ (A : Around) (G : Gh) (env : Env) (s : Shared) (E : Value → Shared → Prop), Ok A k → Rd w h₀ sc ρ G s.heap env →
      wpAny (model prog w) A (eval e env) (Po w G s d) E s

/-- a list that nothing else holds -/
inductive PoF (w : World) (G : Gh) (s : Shared) (ds : List Dt) (v : Value) (s' : Shared) : Prop
  | mk (a : Addr) (h' : Heap) (tk : Nat) (ev : v = .ref a) (free : s.heap.get? a = none) (e : s' = { s with heap := h', toks := tk }) (kp : Kp s.heap h') (i : Is w (exl G s.heap h') (.ref a) (.list ds))

structure EvF (prog : Program) (w : World) (h₀ : Heap) (k : Nat) (sc : Scope) (ρ : List (Str × Dt)) (e : Expr) (ds : List Dt) : Prop where
  run :
    ∀ (A : Around) (G : Gh) (env : Env) (s : Shared) (E : Value → Shared → Prop), Ok A k → Rd w h₀ sc ρ G s.heap env →
      wpAny (model prog w) A (eval e env) (PoF w G s ds) E s

theorem EvF.ev {e : Expr} {ds : List Dt} (H : EvF prog w h₀ k sc ρ e ds) : Ev prog w h₀ k sc ρ e (.list ds) := .mk fun A G env s E ok R =>
  wpAny_mono (H.run A G env s E ok R) (fun v s' x => x.rec fun _ h' tk e1 _ e2 kp i => ⟨h', tk, e2, kp, e1 ▸ i⟩) fun _ _ e => e

theorem Ev.go {e : Expr} {d : Dt} {Q : Value → Shared → Prop} (H : Ev prog w h₀ k sc ρ e d) (ok : Ok A k) (R : Rd w h₀ sc ρ G s.heap env)
    (c : ∀ v h' tk, Kp s.heap h' → Is w (exl G s.heap h') v d → Rd w h₀ sc ρ (exl G s.heap h') h' env → Q v { s with heap := h', toks := tk }) :
    wpAny (model prog w) A (eval e env) Q E s :=
  wpAny_mono (H.run A G env s E ok R) (fun v s' x => by obtain ⟨h', tk, rfl, kp, i⟩ := x; exact c v h' tk kp i (R.step kp)) fun _ _ e => e

theorem Po.val {d : Dt} {v : Value} {h' : Heap} {tk : Nat} (kp : Kp s.heap h') (i : Is w (exl G s.heap h') v d) : Po w G s d v { s with heap := h', toks := tk } := ⟨h', tk, rfl, kp, i⟩
/-- a later step's answer is the whole's -/
theorem Po.thru {d : Dt} {v : Value} {h' : Heap} {tk : Nat} {s' : Shared} (kp : Kp s.heap h') (p : Po w (exl G s.heap h') { s with heap := h', toks := tk } d v s') : Po w G s d v s' := by
  obtain ⟨h2, tk2, rfl, k2, i⟩ := p
  exact ⟨h2, tk2, rfl, kp.trans k2, i.mono (exl_exl kp k2)⟩
theorem PoF.thru {ds : List Dt} {v : Value} {h' : Heap} {tk : Nat} {s' : Shared} (kp : Kp s.heap h') (p : PoF w (exl G s.heap h') { s with heap := h', toks := tk } ds v s') : PoF w G s ds v s' := by
  obtain ⟨a, h2, tk2, rfl, ha, rfl, k2, i⟩ := p
  exact ⟨a, h2, tk2, rfl, kp.none ha, rfl, kp.trans k2, i.mono (exl_exl kp k2)⟩

/-- a tuple, just made -/
theorem is_new_tup {h h' : Heap} {vs : List Value} {ds : List Dt} {c : Nat} (k : Kp h h') (i : IsAll w (exl G h h') vs ds) :
    Is w (exl G h (h'.push (tupObj vs.toArray c))) (.ref h'.objs.size) (.tup ds) := .tup (exl_push _ k) (by simpa using i.mono (exl_mono (Kp.push _ _)))
theorem is_new_lst {h h' : Heap} {vs : List Value} {ds : List Dt} {c : Nat} (k : Kp h h') (i : IsAll w (exl G h h') vs ds) :
    Is w (exl G h (h'.push (lstObj vs.toArray c))) (.ref h'.objs.size) (.list ds) := .list (exl_push _ k) (by simpa using i.mono (exl_mono (Kp.push _ _)))

theorem Is.at_now {v : Value} {d : Dt} (gh : InH G s.heap) (i : Is w G v d) : Is w (exl G s.heap s.heap) v d := i.mono (sub_exl gh)

/-! the leaves -/
theorem Ev.int {i : Int} {kd : Nat} {p : Pos} : Ev prog w h₀ k sc ρ (.Constant (.int i) kd p) (.int i) := .mk fun _ _ _ s _ _ _ => wpAny_Constant_int (Po.val (Kp.refl s.heap) (.int _ _))
theorem Ev.str {x : Str} {kd : Nat} {p : Pos} (hx : PyData.strOk x = true := by decide +kernel) : Ev prog w h₀ k sc ρ (.Constant (.str x) kd p) (.str x) := .mk fun _ _ _ s _ _ _ => wpAny_Constant_str (Po.val (Kp.refl s.heap) (.str _ _ hx))
theorem load_D {x : Str} {d : Dt} {Q : Value → Shared → Prop} (R : Rd w h₀ sc ρ G s.heap env) (hx : ρ.lookup x = some d) (hc : (x == ("__classdict__" : Str)) = false)
    (h : ∀ v, Is w G v d → Q v s) : wpAny (model prog w) A (loadName env x) Q E s := by
  obtain ⟨v, hv, ⟨h1, m, h2, h3⟩ | ⟨h1 | h1, c, h2, h3⟩⟩ := R.names x d hx
  · exact wpAny_loadName_local (R.scope ▸ R.kind) h1 h2 h3 (h v hv)
  · exact wpAny_loadName_cell (R.scope ▸ R.kind) h1 h2 h3 (h v hv)
  · exact wpAny_loadName_free (R.scope ▸ R.kind) h1 h2 h3 (h v hv) hc

theorem Ev.name {x : Str} {p : Pos} {d : Dt} (hx : ρ.lookup x = some d) (hc : autoParam ((x == ("__classdict__" : Str)) = false) aD._auto_1) (hd : autoParam ((x == ("__debug__" : Str)) = false) aD._auto_1) :
    Ev prog w h₀ k sc ρ (.Name x p) d := .mk fun _ _ _ s _ _ R =>
  wpAny_Name (load_D R hx hc fun _ hv => Po.val (tk := s.toks) (Kp.refl s.heap) (hv.at_now R.inh)) hd

theorem Ev.nm {x : Str} {p : Pos} {d : Dt} (hx : autoParam (ρ.lookup x = some d) aR._auto_1) (hc : autoParam ((x == ("__classdict__" : Str)) = false) aD._auto_1) (hd : autoParam ((x == ("__debug__" : Str)) = false) aD._auto_1) :
    Ev prog w h₀ k sc ρ (.Name x p) d := Ev.name hx hc hd

/-! several -/
structure Evs (prog : Program) (w : World) (h₀ : Heap) (k : Nat) (sc : Scope) (ρ : List (Str × Dt)) (es : List Expr) (ds : List Dt) : Prop where
  run :
    ∀ (A : Around) (G : Gh) (env : Env) (s : Shared) (E : Value → Shared → Prop) (pos : Pos), Ok A k → Rd w h₀ sc ρ G s.heap env →
      wpAny (model prog w) A (spliced (backTo pos (starEach es env))) (fun vs s' => ∃ h' tk, s' = { s with heap := h', toks := tk } ∧ Kp s.heap h' ∧ IsAll w (exl G s.heap h') vs ds) E s

theorem Evs.nil : Evs prog w h₀ k sc ρ [] [] := .mk fun _ _ _ s _ _ _ _ => wpAny_items_nil ⟨s.heap, s.toks, rfl, Kp.refl _, .nil⟩
theorem Evs.cons {e : Expr} {es : List Expr} {d : Dt} {ds : List Dt} (h : Ev prog w h₀ k sc ρ e d) (t : Evs prog w h₀ k sc ρ es ds)
    (he : autoParam (starred e = false) aR._auto_1) : Evs prog w h₀ k sc ρ (e :: es) (d :: ds) := .mk fun A G env s E pos ok R =>
  wpAny_items_cons (h.go ok R fun v h1 tk k1 i1 R1 => wpAny_mono (t.run A _ env _ E pos ok R1) (fun vs s' ⟨h2, tk2, e2, k2, i2⟩ => by
    subst e2
    exact ⟨h2, tk2, rfl, k1.trans k2, .cons (i1.mono (exl_mono k2)) (i2.mono (exl_exl k1 k2))⟩) fun _ _ e => e) (star_cons he)

theorem Ev.tup {es : List Expr} {ds : List Dt} {kd : Nat} {p : Pos} (H : Evs prog w h₀ k sc ρ es ds) (hz : autoParam (ds.length ≤ 5000) aD._auto_1) : Ev prog w h₀ k sc ρ (.Tuple es kd p) (.tup ds) := .mk fun A G env s E ok R =>
  wpAny_Tuple (wpAny_mono (H.run A G env s E p ok R) (fun vs s' ⟨h', tk, e, kp, i⟩ => by
    subst e
    have := i.length
    exact ⟨by unfold sizeLine; lia, Po.val (kp.trans (Kp.push h' _)) (is_new_tup kp i)⟩) fun _ _ e => e)
theorem EvF.lst {es : List Expr} {ds : List Dt} {p : Pos} (H : Evs prog w h₀ k sc ρ es ds) (hz : autoParam (ds.length ≤ 5000) aD._auto_1) : EvF prog w h₀ k sc ρ (.List es p) ds := .mk fun A G env s E ok R =>
  wpAny_List (wpAny_mono (H.run A G env s E p ok R) (fun vs s' ⟨h', tk, e, kp, i⟩ => by
    subst e
    have := i.length
    exact ⟨by unfold sizeLine; lia, _, _, _, rfl, kp.fresh, rfl, kp.trans (Kp.push h' _), is_new_lst kp i⟩) fun _ _ e => e)

end
end Mine
end

section
open PySem PySem.Spec PySem.Calls PyProof.Rows
namespace Mine
open scoped Classical

/-! Part L: operators, comparisons, subscripts -/
section
variable {prog : Program} {w : World} {h₀ : Heap} {sc : Scope} {ρ : List (Str × Dt)} {k : Nat} {G G' : Gh} {s : Shared} {env : Env} {A : Around} {E : Value → Shared → Prop}

theorem subs_D {value slice : Expr} {pos : Pos} {T id : String} {Q : Value → Shared → Prop} (hl : typeLookup (.type T) "__getitem__" = pure (some (.builtin id)))
    (h : wpAny (model prog w) A (eval value env) (fun o s₁ => wpAny (model prog w) A (eval slice env) (fun i s₂ => s₂.TypeIs o T ∧ wpAny (model prog w) A (getItem o i) Q E s₂) E s₁) E s)
    (hs : ∀ o i, ∃ ops, subscripted slice false o i = operate ops (getItem o i)) : wpAny (model prog w) A (eval (.Subscript value slice pos) env) Q E s := by
  rw [eval_Subscript]
  refine wpAny_bind (wpAny_mono h (fun o s₁ h₁ => wpAny_bind (wpAny_holding (wpAny_mono h₁ (fun i s₂ h₂ => wpAny_bind (wpAny_standAt ?_)) fun _ _ x => x))) fun _ _ x => x)
  obtain ⟨hT, hg⟩ := h₂
  refine wpAny_bind ?_
  rw [getitemInPython_of_ne hT.not_modules]
  refine wpAny_bind (wpAny_specialOf hT hl ?_)
  obtain ⟨ops, ho⟩ := hs o i
  have fin : wpAny (model prog w) A (subscripted slice false o i) (fun r s₃ => wpAny (model prog w) A (letTemporaryGo value o r >>= fun _ => pure r) Q E s₃) E s₂ := by
    rw [ho]
    exact wpAny_operating (wpAny_mono hg (fun r s₃ h₃ => wpAny_bind (wpAny_letTemporaryGo (wpAny_pure h₃))) fun _ _ x => x)
  first
    | exact wpAny_pure (wpAny_bind fin)
    | exact wpAny_bind (wpAny_pure (wpAny_bind fin))
    | exact wpAny_bind fin

noncomputable def Item (prog : Program) (w : World) (k : Nat) (d i r : Dt) : Prop := ∃ T id, typeLookup (.type T) "__getitem__" = pure (some (.builtin id)) ∧
  ∀ (A : Around) (G : Gh) (s : Shared) (E : Value → Shared → Prop) (v u : Value) (Q : Value → Shared → Prop), Ok A k → InH G s.heap → Is w G v d → Is w G u i →
    (∀ x tk, Is w G x r → Q x { s with toks := tk }) → s.TypeIs v T ∧ wpAny (model prog w) A (getItem v u) Q E s

theorem Ev.sub {value slice : Expr} {pos : Pos} {d i r : Dt} (H : Ev prog w h₀ k sc ρ value d) (J : Ev prog w h₀ k sc ρ slice i) (K : Item prog w k d i r)
    (hs : autoParam (∀ o i, ∃ ops, subscripted slice false o i = operate ops (getItem o i)) aE._auto_1) : Ev prog w h₀ k sc ρ (.Subscript value slice pos) r := .mk fun A G env s E ok R => by
  refine nn fun hno_ => ?_
  obtain ⟨T, id, hl, hK⟩ := K
  refine hno_ ?_
  clear hno_
  refine subs_D hl (H.go ok R fun v h1 tk1 k1 i1 R1 => J.go ok R1 fun u h2 tk2 k2 i2 R2 => ?_) hs
  exact hK A _ _ E v u _ ok R2.inh (i1.mono (sub_exl (R1.inh.kp k2))) i2 fun x tk ix => Po.thru k1 (Po.val k2 ix)

theorem Item.list {ds : List Dt} {n : Nat} {d : Dt} (hd : ds[n]? = some d) (hz : ds.length ≤ 5000) : Item prog w k (.list ds) (.int n) d := by
  refine ⟨"list", "list.__getitem__", list_getitem_lookup, fun A G s E v u Q ok gh iv iu h => ?_⟩
  cases iv with
  | list ha hs =>
    cases iu with
    | int i t =>
      have hL : s.heap.IsList _ _ := ⟨_, gh _ _ ha, rfl, _, rfl⟩
      obtain ⟨x, hx, ix⟩ := hs.get hd
      have hn : n < 5000 := by
        have := (List.getElem?_eq_some_iff.mp hd).1; lia
      exact ⟨hL.typeIs, wpAny_getItem_list hL (by lia) (by lia) (by simpa using hx) (h x s.toks ix)⟩

theorem Item.list_last {ds : List Dt} {d : Dt} (hd : ds.getLast? = some d) (hz : ds.length ≤ 5000) : Item prog w k (.list ds) (.int (-1)) d := by
  refine ⟨"list", "list.__getitem__", list_getitem_lookup, fun A G s E v u Q ok gh iv iu h => ?_⟩
  cases iv with
  | list ha hs =>
    cases iu with
    | int i t =>
      have hL : s.heap.IsList _ _ := ⟨_, gh _ _ ha, rfl, _, rfl⟩
      rw [List.getLast?_eq_getElem?] at hd
      obtain ⟨x, hx, ix⟩ := hs.get hd
      have hn := (List.getElem?_eq_some_iff.mp hd).1
      have hlen := hs.length
      simp only [Array.length_toList] at hlen
      refine ⟨hL.typeIs, wpAny_getItem_list_neg hL (by lia) (by lia) (by lia) ?_ (h x s.toks ix)⟩
      have e : ((-1 : Int) + (‹Array Value›.size : Int)).toNat = ds.length - 1 := by lia
      rw [e]; simpa using hx

theorem Item.tup {ds : List Dt} {n : Nat} {d : Dt} (hd : ds[n]? = some d) (hz : ds.length ≤ 5000) : Item prog w k (.tup ds) (.int n) d := by
  refine ⟨"tuple", "tuple.__getitem__", F.slot_tuple_getitem.lookup, fun A G s E v u Q ok gh iv iu h => ?_⟩
  cases iv with
  | tup ha hs =>
    cases iu with
    | int i t =>
      have hL : IsTup s.heap _ _ := ⟨_, gh _ _ ha, rfl, _, rfl⟩
      obtain ⟨x, hx, ix⟩ := hs.get hd
      have hn := (List.getElem?_eq_some_iff.mp hd).1
      have hlen := hs.length
      simp only [Array.length_toList] at hlen
      refine ⟨⟨_, gh _ _ ha, rfl⟩, getItem_tuple (j := n) hL (by lia) (by lia) ?_ (by simpa using hx) (h x s.toks ix)⟩
      unfold seqIndex?
      simp only [show ¬ ((n : Int) < 0) by lia, if_false]
      rw [if_pos (by simp; lia)]; simp

theorem Item.dict {kvs : List (Dt × Dt)} {i d : Dt} (hd : dget kvs i = some d) (hh : hk 6 i = true) : Item prog w k (.dict kvs) i d := by
  refine ⟨"dict", "dict.__getitem__", F.slot_dict_getitem.lookup, fun A G s E v u Q ok gh iv iu h => ?_⟩
  cases iv with
  | dict ha hm hs hn =>
    have hD := DAt.of_is gh (.dict ha hm hs hn)
    exact ⟨hD.typeIs, dictItem_D gh (ok.u 100 (by lia)) hD hh iu hd fun x tk ix => h x tk ix⟩

theorem Item.str {x : Str} {n c : Nat} (hc : x.cps[n]? = some c) (hz : x.length ≤ 5000) (ho : PyData.strOk ⟨#[c]⟩ = true) : Item prog w k (.str x) (.int n) (.str ⟨#[c]⟩) := by
  refine ⟨"str", "str.__getitem__", F.slot_str_getitem.lookup, fun A G s E v u Q ok gh iv iu h => ?_⟩
  cases iv with
  | str y t hy =>
    cases iu with
    | int i t' =>
      have hn := (Array.getElem?_eq_some_iff.mp hc).1
      have hn' : n < x.length := hn
      refine ⟨rfl, PyProof.Rows.getItem_str (c := c) ?_ ?_ (h _ _ (.str _ _ ho))⟩
      · simp; lia
      · unfold seqIndex?
        simp only [show ¬ ((n : Int) < 0) by lia, if_false]
        rw [if_pos (by simp; exact hn')]; simpa using hc

/-! slices -/
theorem slice_eval {lo hi : Option Expr} {p : Pos} {dl dh : Dt} {Q : Value → Shared → Prop} (ok : Ok A k) (R : Rd w h₀ sc ρ G s.heap env)
    (Hl : match lo with | none => dl = .none | some e => Ev prog w h₀ k sc ρ e dl) (Hh : match hi with | none => dh = .none | some e => Ev prog w h₀ k sc ρ e dh)
    (c : ∀ vl vh h' tk, Kp s.heap h' → Is w (exl G s.heap h') vl dl → Is w (exl G s.heap h') vh dh → Rd w h₀ sc ρ (exl G s.heap h') h' env →
      Q (.ref h'.objs.size) { s with heap := h'.push { cls := .type "slice", data := .fields #[vl, vh, .none] }, toks := tk }) :
    wpAny (model prog w) A (eval (.Slice lo hi none p) env) Q E s := by
  refine wpAny_Slice ?_
  have part : ∀ (o : Option Expr) (d : Dt) (s : Shared) (G : Gh) (Q : Value → Shared → Prop), Rd w h₀ sc ρ G s.heap env → (match o with | none => d = .none | some e => Ev prog w h₀ k sc ρ e d) →
      (∀ v h' tk, Kp s.heap h' → Is w (exl G s.heap h') v d → Rd w h₀ sc ρ (exl G s.heap h') h' env → Q v { s with heap := h', toks := tk }) → wpAny (model prog w) A (evalPart o env) Q E s := by
    intro o d s G Q R H c
    cases o with
    | none => subst H; exact wpAny_pure (c .none s.heap s.toks (Kp.refl _) .none (R.step (Kp.refl _)))
    | some e => exact H.go ok R c
  refine part lo dl s G _ R Hl fun vl h1 tk1 k1 i1 R1 => part hi dh _ _ _ R1 Hh fun vh h2 tk2 k2 i2 R2 => ?_
  refine wpAny_pure (c vl vh h2 tk2 (k1.trans k2) (i1.mono (exl_mono k2)) (i2.mono (exl_exl k1 k2)) (R.step (k1.trans k2)))

/-- a part of a slice: an int of Lean's natural numbers or none -/
inductive IsNatOr : Dt → Option Nat → Prop
  | none : IsNatOr .none none
  | some (n : Nat) : IsNatOr (.int n) (some n)

theorem IsNatOr.part {d : Dt} {o : Option Nat} {v : Value} (x : IsNatOr d o) (i : Is w G v d) : IsPart v (o.map fun n : Nat => (n : Int)) := by
  cases x with
  | none => cases i; exact .none
  | some n => cases i; exact .int _ _

theorem slicePick_nat (items : Array Value) (lo hi : Option Nat) : (slicePick items (lo.map fun n : Nat => (n : Int)) (hi.map fun n : Nat => (n : Int)) none).toList = (match hi with | none => items.toList | some b => items.toList.take b).drop (lo.getD 0) := by
  rw [slicePick_plain]
  have e1 : ((lo.map fun n : Nat => (n : Int)).elim 0 (clipAt items.size)) = min (lo.getD 0) items.size := by cases lo <;> simp [clipAt_nat]
  rw [e1]
  cases hi with
  | none =>
    simp only [Option.map_none, Option.elim]
    rcases Nat.le_total (lo.getD 0) items.size with h | h
    · rw [Nat.min_eq_left h, List.take_of_length_le (by simp)]
    · rw [Nat.min_eq_right h, List.drop_of_length_le (by simp), List.drop_of_length_le (by simpa using h)]; simp
  | some b =>
    simp only [Option.map_some, Option.elim, clipAt_nat]
    rcases Nat.le_total (lo.getD 0) items.size with h | h
    · rw [Nat.min_eq_left h, List.drop_take]
      rcases Nat.le_total b items.size with h2 | h2
      · rw [Nat.min_eq_left h2]
      · rw [Nat.min_eq_right h2, List.take_of_length_le (by simp), List.take_of_length_le (by simp; lia)]
    · rw [Nat.min_eq_right h, List.drop_of_length_le (by simp), List.drop_of_length_le (by simp; lia)]; simp

theorem EvF.slice {value : Expr} {lo hi : Option Expr} {p pos : Pos} {dl dh : Dt} {l u : Option Nat} {ds : List Dt} (H : Ev prog w h₀ k sc ρ value (.list ds))
    (Hl : match lo with | none => dl = .none | some e => Ev prog w h₀ k sc ρ e dl) (Hh : match hi with | none => dh = .none | some e => Ev prog w h₀ k sc ρ e dh)
    (nl : IsNatOr dl l) (nh : IsNatOr dh u) (hz : ds.length ≤ 5000) :
    EvF prog w h₀ k sc ρ (.Subscript value (.Slice lo hi none p) pos) ((match u with | none => ds | some b => ds.take b).drop (l.getD 0)) := .mk fun A G env s E ok R => by
  refine subs_D list_getitem_lookup (H.go ok R fun v h1 tk1 k1 i1 R1 => slice_eval ok R1 Hl Hh fun vl vh h2 tk2 k2 il ih R2 => ?_) (fun _ _ => ⟨_, rfl⟩)
  cases i1 with
  | @list a vs n _ ha hs =>
    have ha2 := R2.inh a _ (sub_exl (R1.inh.kp k2) _ _ ha)
    have hlen := hs.length
    simp only [Array.length_toList] at hlen
    have hL : Heap.IsList (h2.push { cls := .type "slice", data := .fields #[vl, vh, .none] }) a vs := ⟨_, Heap.get?_push_of_some _ ha2, rfl, n, rfl⟩
    refine ⟨hL.typeIs, wpAny_getItem_list_slice hL (Heap.IsSliceOf.new ..) (nl.part il) (nh.part ih) .none (by simp) ?_ (by unfold sizeLine; lia)⟩
    have hs2 : IsAll w (exl G s.heap (h2.push { cls := .type "slice", data := .fields #[vl, vh, .none] })) vs.toList ds :=
      (hs.mono (exl_mono k2)).mono (exl_mono (Kp.push _ _))
    have hp : IsAll w (exl G s.heap (h2.push { cls := .type "slice", data := .fields #[vl, vh, .none] })) (slicePick vs (l.map fun n : Nat => (n : Int)) (u.map fun n : Nat => (n : Int)) none).toList ((match u with | none => ds | some b => ds.take b).drop (l.getD 0)) := by
      rw [slicePick_nat]
      cases u with
      | none => exact hs2.drop _
      | some b => exact (hs2.take b).drop _
    refine ⟨_, _, tk2, rfl, ?_, rfl, ?_, ?_⟩
    · exact ((k1.trans k2).trans (Kp.push _ _)).fresh
    · exact ((k1.trans k2).trans (Kp.push _ _)).trans (Kp.push _ _)
    · have := is_new_lst (c := 0) (h' := h2.push { cls := .type "slice", data := .fields #[vl, vh, .none] }) (h := s.heap) (G := G) ((k1.trans k2).trans (Kp.push _ _)) hp
      simpa using this

theorem Ev.slice_tup {value e : Expr} {p pos : Pos} {n : Nat} {ds : List Dt} (H : Ev prog w h₀ k sc ρ value (.tup ds)) (Hl : Ev prog w h₀ k sc ρ e (.int n)) (h1 : 1 ≤ n) (hn : n ≤ ds.length) (hz : ds.length ≤ 5000) :
    Ev prog w h₀ k sc ρ (.Subscript value (.Slice (some e) none none p) pos) (.tup (ds.drop n)) := .mk fun A G env s E ok R => by
  refine subs_D F.slot_tuple_getitem.lookup (H.go ok R fun v h1' tk1 k1 i1 R1 => slice_eval (lo := some e) (hi := Option.none) ok R1 Hl rfl fun vl vh h2 tk2 k2 il ih R2 => ?_) (fun _ _ => ⟨_, rfl⟩)
  cases i1 with
  | @tup a vs c _ ha hs =>
    cases ih
    cases il with
    | int _ t =>
    have ha2 := R2.inh a _ (sub_exl (R1.inh.kp k2) _ _ ha)
    have hlen := hs.length
    simp only [Array.length_toList] at hlen
    have hL : IsTup (h2.push { cls := .type "slice", data := .fields #[.int n t, .none, .none] }) a vs := ⟨_, Heap.get?_push_of_some _ ha2, rfl, c, rfl⟩
    refine ⟨⟨_, Heap.get?_push_of_some _ ha2, rfl⟩, getItem_tuple_from hL (Heap.IsSliceOf.new ..) h1 (by lia) ?_ (by unfold sizeLine; lia)⟩
    have hs2 : IsAll w (exl G s.heap (h2.push { cls := .type "slice", data := .fields #[.int n t, .none, .none] })) vs.toList ds :=
      (hs.mono (exl_mono k2)).mono (exl_mono (Kp.push _ _))
    refine Po.val (((k1.trans k2).trans (Kp.push _ _)).trans (Kp.push _ _)) ?_
    exact is_new_tup (c := 0) ((k1.trans k2).trans (Kp.push _ _)) (hs2.drop n)
end
end Mine
end

section
open PySem PySem.Spec PySem.Calls PyProof.Rows
namespace Mine
open scoped Classical

/-! Part M: operators, tests -/
section
variable {prog : Program} {w : World} {h₀ : Heap} {sc : Scope} {ρ : List (Str × Dt)} {k : Nat} {G G' : Gh} {s : Shared} {env : Env} {A : Around} {E : Value → Shared → Prop}

theorem Rd.same {h h' : Heap} (R : Rd w h₀ sc ρ G h env) (kp : Kp h h') : Rd w h₀ sc ρ G h' env where
  scope := R.scope
  kind := R.kind
  glob := R.glob
  bi := R.bi
  keep := R.keep.trans kp
  inh := R.inh.kp kp
  cells := R.cells
  names := fun x d e => let ⟨v, hv, a⟩ := R.names x d e; ⟨v, hv, a.keep kp⟩

structure Cmp (prog : Program) (w : World) (k : Nat) (op : CmpOp) (d e : Dt) (b : Bool) : Prop where
  run :
    ∀ (A : Around) (G : Gh) (s : Shared) (E : Value → Shared → Prop) (v u : Value) (Q : Value → Shared → Prop), Ok A k → InH G s.heap → Is w G v d → Is w G u e →
      (∀ tk, Q (.bool b) { s with toks := tk }) → wpAny (model prog w) A (compareOp op v u) Q E s

theorem Cmp.eq {d e : Dt} (hd : pl 60 d = true) (he : pl 60 e = true) : Cmp prog w k .Eq d e (decide (d = e)) := .mk fun _ _ s _ _ _ _ ok gh iv iu h =>
  cmpEq_D gh iv iu hd he (by decide) (by decide) (ok.u 64 (by lia)) (h s.toks)
theorem Cmp.ne {d e : Dt} (hd : pl 60 d = true) (he : pl 60 e = true) : Cmp prog w k .NotEq d e (!decide (d = e)) := .mk fun _ _ s _ _ _ _ ok gh iv iu h =>
  cmpNe_D gh iv iu hd he (by decide) (by decide) (ok.u 64 (by lia)) (h s.toks)
theorem Cmp.lt {a b : Int} : Cmp prog w k .Lt (.int a) (.int b) (decide (a < b)) := .mk fun _ _ s _ _ _ _ _ _ iv iu h => by
  cases iv; cases iu; exact wpAny_lt_int (h s.toks)
theorem Cmp.gt {a b : Int} : Cmp prog w k .Gt (.int a) (.int b) (decide (a > b)) := .mk fun _ _ s _ _ _ _ _ _ iv iu h => by
  cases iv; cases iu; exact PyProof.Rows.gt_int (h s.toks)
theorem Cmp.notMem {e : Dt} {ds : List Dt} (he : pl 60 e = true) (hd : ∀ d ∈ ds, pl 60 d = true) : Cmp prog w k .NotIn e (.list ds) (!decide (e ∈ ds)) := .mk fun _ _ s _ _ _ _ ok gh iv iu h =>
  notInList_D gh iv iu he hd (by decide) (ok.u 64 (by lia)) (h s.toks)
theorem Cmp.has {e : Dt} {kvs : List (Dt × Dt)} (he : hk 6 e = true) : Cmp prog w k .In e (.dict kvs) (dhas kvs e) := .mk fun _ _ s _ _ _ _ ok gh iv iu h => by
  cases iu with | dict ha hm hs hn => exact dictIn_D gh (ok.u 100 (by lia)) (DAt.of_is gh (.dict ha hm hs hn)) he iv h
theorem Cmp.notHas {e : Dt} {kvs : List (Dt × Dt)} (he : hk 6 e = true) : Cmp prog w k .NotIn e (.dict kvs) (!dhas kvs e) := .mk fun _ _ s _ _ _ _ ok gh iv iu h => by
  cases iu with | dict ha hm hs hn => exact dictNotIn_D gh (ok.u 100 (by lia)) (DAt.of_is gh (.dict ha hm hs hn)) he iv h

theorem Ev.cmp {l r : Expr} {op : CmpOp} {p : Pos} {d e : Dt} {b : Bool} (H : Ev prog w h₀ k sc ρ l d) (J : Ev prog w h₀ k sc ρ r e) (C : Cmp prog w k op d e b)
    (hm : autoParam (behindInMarks op r = false) aU._auto_1) : Ev prog w h₀ k sc ρ (.Compare l [op] [r] p) (.bool b) := .mk fun A G env s E ok R =>
  wpAny_Compare1 (H.go ok R fun v h1 tk1 k1 i1 R1 => J.go ok R1 fun u h2 tk2 k2 i2 R2 =>
    C.run A _ _ E v u _ ok R2.inh (i1.mono (sub_exl (R1.inh.kp k2))) i2 fun tk => Po.thru k1 (Po.val k2 (.bool b))) hm

structure Tr (prog : Program) (w : World) (h₀ : Heap) (k : Nat) (sc : Scope) (ρ : List (Str × Dt)) (e : Expr) (b : Bool) : Prop where
  run :
    ∀ (A : Around) (G : Gh) (env : Env) (s : Shared) (E : Value → Shared → Prop), Ok A k → Rd w h₀ sc ρ G s.heap env →
      wpAny (model prog w) A (isTrue e env (eval e env)) (fun t s' => t = b ∧ ∃ h' tk, s' = { s with heap := h', toks := tk } ∧ Kp s.heap h') E s

theorem Tr.go {e : Expr} {b : Bool} {Q : Bool → Shared → Prop} (H : Tr prog w h₀ k sc ρ e b) (ok : Ok A k) (R : Rd w h₀ sc ρ G s.heap env)
    (c : ∀ h' tk, Kp s.heap h' → Rd w h₀ sc ρ G h' env → Q b { s with heap := h', toks := tk }) : wpAny (model prog w) A (isTrue e env (eval e env)) Q E s :=
  wpAny_mono (H.run A G env s E ok R) (fun t s' ⟨e0, h', tk, e1, kp⟩ => by subst e1; subst e0; exact c h' tk kp (R.same kp)) fun _ _ e => e

theorem Tr.cmp {l r : Expr} {op : CmpOp} {p : Pos} {d e : Dt} {b : Bool} (H : Ev prog w h₀ k sc ρ l d) (J : Ev prog w h₀ k sc ρ r e) (C : Cmp prog w k op d e b)
    (hm : autoParam (behindInMarks op r = false) aU._auto_1) : Tr prog w h₀ k sc ρ (.Compare l [op] [r] p) b := .mk fun A G env s E ok R =>
  wpAny_isTrue_Compare1 (H.go ok R fun v h1 tk1 k1 i1 R1 => J.go ok R1 fun u h2 tk2 k2 i2 R2 =>
    C.run A _ _ E v u _ ok R2.inh (i1.mono (sub_exl (R1.inh.kp k2))) i2 fun tk => wpAny_truthy_bool ⟨rfl, h2, tk, rfl, k1.trans k2⟩) hm

theorem Tr.name {x : Str} {p : Pos} {b : Bool} (H : Ev prog w h₀ k sc ρ (.Name x p) (.bool b)) : Tr prog w h₀ k sc ρ (.Name x p) b := .mk fun A G env s E ok R =>
  wpAny_isTrue_value (H.go ok R fun v h1 tk1 k1 i1 R1 => by cases i1; exact wpAny_truthy_bool ⟨rfl, h1, tk1, rfl, k1⟩)

/-- a chain of «and» -/
structure Ands (prog : Program) (w : World) (h₀ : Heap) (k : Nat) (sc : Scope) (ρ : List (Str × Dt)) (op : BoolOp) (es : List Expr) (b : Bool) : Prop where
  run :
    ∀ (A : Around) (G : Gh) (env : Env) (s : Shared) (E : Value → Shared → Prop), Ok A k → Rd w h₀ sc ρ G s.heap env →
      wpAny (model prog w) A (allTrue op es env) (fun t s' => t = b ∧ ∃ h' tk, s' = { s with heap := h', toks := tk } ∧ Kp s.heap h') E s

theorem Ands.nil : Ands prog w h₀ k sc ρ .And [] true := .mk fun _ _ _ s _ _ _ => wpAny_allTrue_And_nil ⟨rfl, s.heap, s.toks, rfl, Kp.refl _⟩
theorem Ands.cons {e : Expr} {es : List Expr} {b c : Bool} (H : Tr prog w h₀ k sc ρ e b) (J : b = true → Ands prog w h₀ k sc ρ .And es c) : Ands prog w h₀ k sc ρ .And (e :: es) (b && c) := .mk fun A G env s E ok R =>
  wpAny_allTrue_And_cons (H.go ok R fun h1 tk1 k1 R1 => by
    cases b with
    | false => exact ⟨rfl, h1, tk1, rfl, k1⟩
    | true => exact wpAny_mono ((J rfl).run A G env _ E ok R1) (fun t s' x => x.imp id fun x => x.elim fun h2 x => x.elim fun tk2 x => ⟨h2, tk2, x.1, k1.trans x.2⟩) fun _ _ e => e)
theorem Ands.onil : Ands prog w h₀ k sc ρ .Or [] false := .mk fun _ _ _ s _ _ _ => wpAny_allTrue_Or_nil ⟨rfl, s.heap, s.toks, rfl, Kp.refl _⟩
theorem Ands.ocons {e : Expr} {es : List Expr} {b c : Bool} (H : Tr prog w h₀ k sc ρ e b) (J : b = false → Ands prog w h₀ k sc ρ .Or es c) : Ands prog w h₀ k sc ρ .Or (e :: es) (b || c) := .mk fun A G env s E ok R =>
  wpAny_allTrue_Or_cons (H.go ok R fun h1 tk1 k1 R1 => by
    cases b with
    | true => exact ⟨rfl, h1, tk1, rfl, k1⟩
    | false => exact wpAny_mono ((J rfl).run A G env _ E ok R1) (fun t s' x => x.imp id fun x => x.elim fun h2 x => x.elim fun tk2 x => ⟨h2, tk2, x.1, k1.trans x.2⟩) fun _ _ e => e)
theorem Tr.bool {op : BoolOp} {es : List Expr} {p : Pos} {b : Bool} (H : Ands prog w h₀ k sc ρ op es b) : Tr prog w h₀ k sc ρ (.BoolOp op es p) b := .mk fun A G env s E ok R =>
  wpAny_isTrue_BoolOp (H.run A G env s E ok R)

theorem Ev.ite {c t f : Expr} {p : Pos} {b : Bool} {d : Dt} (C : Tr prog w h₀ k sc ρ c b) (H : b = true → Ev prog w h₀ k sc ρ t d) (J : b = false → Ev prog w h₀ k sc ρ f d) :
    Ev prog w h₀ k sc ρ (.IfExp c t f p) d := .mk fun A G env s E ok R =>
  wpAny_IfExp (C.go ok R fun h1 tk1 k1 R1 => by
    have fin : ∀ v s', Po w G { s with heap := h1, toks := tk1 } d v s' → Po w G s d v s' := fun v s' x => by
      obtain ⟨h2, tk2, rfl, k2, i⟩ := x
      refine ⟨h2, tk2, rfl, k1.trans k2, i.mono ?_⟩
      intro a o x
      unfold exl at x ⊢
      cases q : s.heap.get? a with
      | some o' => rw [k1 _ _ q] at x; exact x
      | none =>
        split at x
        · exact k2 a o (R1.inh a o x)
        · exact x
    cases b with
    | true => exact wpAny_mono ((H rfl).run A G env _ E ok R1) fin fun _ _ e => e
    | false => exact wpAny_mono ((J rfl).run A G env _ E ok R1) fin fun _ _ e => e)

theorem Ev.and2 {x y : Expr} {p : Pos} {a b : Bool} (H : Ev prog w h₀ k sc ρ x (.bool a)) (J : a = true → Ev prog w h₀ k sc ρ y (.bool b)) : Ev prog w h₀ k sc ρ (.BoolOp .And [x, y] p) (.bool (a && b)) := .mk fun A G env s E ok R =>
  wpAny_And2 (H.go ok R fun v h1 tk1 k1 i1 R1 => by
    cases i1
    refine wpAny_truthy_bool ?_
    cases a with
    | false => exact Po.val k1 (.bool _)
    | true => exact wpAny_mono ((J rfl).run A _ env _ E ok R1) (fun v s' p => Po.thru k1 p) fun _ _ e => e)

/-! binary operators -/
structure Bin (prog : Program) (w : World) (k : Nat) (op : Operator) (d e r : Dt) : Prop where
  run :
    ∀ (A : Around) (G : Gh) (s : Shared) (E : Value → Shared → Prop) (v u : Value), Ok A k → InH G s.heap → Is w G v d → Is w G u e →
      wpAny (model prog w) A (binaryOp op v u) (Po w G s r) E s
structure BinF (prog : Program) (w : World) (k : Nat) (op : Operator) (d e : Dt) (r : List Dt) : Prop where
  run :
    ∀ (A : Around) (G : Gh) (s : Shared) (E : Value → Shared → Prop) (v u : Value), Ok A k → InH G s.heap → Is w G v d → Is w G u e →
      wpAny (model prog w) A (binaryOp op v u) (PoF w G s r) E s

theorem Ev.bin {l r : Expr} {op : Operator} {p : Pos} {d e f : Dt} (H : Ev prog w h₀ k sc ρ l d) (J : Ev prog w h₀ k sc ρ r e) (B : Bin prog w k op d e f) : Ev prog w h₀ k sc ρ (.BinOp l op r p) f := .mk fun A G env s E ok R =>
  wpAny_BinOp (H.go ok R fun v h1 tk1 k1 i1 R1 => J.go ok R1 fun u h2 tk2 k2 i2 R2 =>
    wpAny_mono (B.run A _ _ E v u ok R2.inh (i1.mono (sub_exl (R1.inh.kp k2))) i2) (fun v s' p => Po.thru k1 (Po.thru k2 p)) fun _ _ e => e)
theorem EvF.bin {l r : Expr} {op : Operator} {p : Pos} {d e : Dt} {f : List Dt} (H : Ev prog w h₀ k sc ρ l d) (J : Ev prog w h₀ k sc ρ r e) (B : BinF prog w k op d e f) : EvF prog w h₀ k sc ρ (.BinOp l op r p) f := .mk fun A G env s E ok R =>
  wpAny_BinOp (H.go ok R fun v h1 tk1 k1 i1 R1 => J.go ok R1 fun u h2 tk2 k2 i2 R2 =>
    wpAny_mono (B.run A _ _ E v u ok R2.inh (i1.mono (sub_exl (R1.inh.kp k2))) i2) (fun v s' p => PoF.thru k1 (PoF.thru k2 p)) fun _ _ e => e)

theorem Bin.add_int {a b : Int} : Bin prog w k .Add (.int a) (.int b) (.int (a + b)) := .mk fun _ _ s _ _ _ _ _ iv iu => by
  cases iv; cases iu; exact wpAny_add_int (Po.val (Kp.refl s.heap) (.int _ _))
theorem Bin.mod {a b : Int} (hb : b ≠ 0) : Bin prog w k .Mod (.int a) (.int b) (.int (a.fmod b)) := .mk fun _ _ s _ _ _ _ _ iv iu => by
  cases iv; cases iu; exact mod_int' hb (Po.val (Kp.refl s.heap) (.int _ _))
theorem Bin.div {a b : Int} (hb : b ≠ 0) (hz : b.natAbs < 1073741824) : Bin prog w k .FloorDiv (.int a) (.int b) (.int (a.fdiv b)) := .mk fun _ _ s _ _ _ _ _ iv iu => by
  cases iv; cases iu; exact floordiv_int hb (Po.val (Kp.refl s.heap) (.int _ _)) (.inl (PyProof.noPylong_small hz))
theorem Bin.add_str {x y : Str} (hz : x.length + y.length ≤ 100000) (hs : PyData.strOk (x ++ y) = true) : Bin prog w k .Add (.str x) (.str y) (.str (x ++ y)) := .mk fun _ _ s _ _ _ _ _ iv iu => by
  cases iv with | str _ _ hx =>
  cases iu with | str _ _ hy =>
  exact PySem.P.add_str (PySem.SB.post_add (by unfold sizeLine; lia) fun t' k => Po.val (Kp.refl s.heap) (.str _ _ hs))
theorem BinF.add_list {a b : List Dt} (hz : a.length + b.length ≤ 5000) : BinF prog w k .Add (.list a) (.list b) (a ++ b) := .mk fun _ G s _ _ _ _ gh iv iu => by
  cases iv with
  | @list p vs n _ ha hs =>
    cases iu with
    | @list q us m _ hb ht =>
      have e1 := hs.length
      have e2 := ht.length
      simp only [Array.length_toList] at e1 e2
      refine PySem.P.add_list (gh _ _ ha) (gh _ _ hb) ⟨_, _, s.toks, rfl, (Kp.refl _).fresh, rfl, Kp.push _ _, ?_⟩ (by unfold sizeLine; lia)
      have := is_new_lst (h' := s.heap) (h := s.heap) (G := G) (c := 0) (Kp.refl _) ((hs.append ht).mono (sub_exl gh))
      simpa [← Array.toList_append] using this
theorem Bin.add_tup {a b : List Dt} (hz : a.length + b.length ≤ 5000) : Bin prog w k .Add (.tup a) (.tup b) (.tup (a ++ b)) := .mk fun _ G s _ _ _ _ gh iv iu => by
  cases iv with
  | @tup p vs n _ ha hs =>
    cases iu with
    | @tup q us m _ hb ht =>
      have e1 := hs.length
      have e2 := ht.length
      simp only [Array.length_toList] at e1 e2
      have now : ∀ {v d}, Is w G v d → Is w (exl G s.heap s.heap) v d := fun x => x.mono (sub_exl gh)
      by_cases z1 : a = []
      · subst z1
        have q : vs.isEmpty = true := by simpa using Array.eq_empty_of_size_eq_zero (by simpa using e1)
        exact concat_meets ⟨_, gh _ _ ha, rfl⟩ ⟨_, gh _ _ hb, rfl⟩ noFill_tuple_add seq_tuple_add F.slot_tuple_add F.entry_tuple_add (F.args_tuple_add_2 _ _) (AutoSeq1.tuple___add___tuple_tuple_0 _ vs n _ us m q)
          ⟨gh _ _ ha, gh _ _ hb, Po.val (Kp.refl s.heap) (now (.tup hb ht))⟩
      · have q : ¬ vs.isEmpty = true := by
          intro q; apply z1
          have : vs.size = 0 := by simpa using q
          exact List.length_eq_zero_iff.mp (by lia)
        by_cases z2 : b = []
        · subst z2
          have q2 : us.isEmpty = true := by simpa using Array.eq_empty_of_size_eq_zero (by simpa using e2)
          exact concat_meets ⟨_, gh _ _ ha, rfl⟩ ⟨_, gh _ _ hb, rfl⟩ noFill_tuple_add seq_tuple_add F.slot_tuple_add F.entry_tuple_add (F.args_tuple_add_2 _ _) (AutoSeq1.tuple___add___tuple_tuple_1 _ vs n _ us m q q2)
            ⟨gh _ _ ha, gh _ _ hb, Po.val (tk := s.toks) (Kp.refl s.heap) (by rw [List.append_nil]; exact now (.tup ha hs))⟩
        · have q2 : ¬ us.isEmpty = true := by
            intro q; apply z2
            have : us.size = 0 := by simpa using q
            exact List.length_eq_zero_iff.mp (by lia)
          refine PySem.P.add_tuple (gh _ _ ha) (gh _ _ hb) q q2 (Po.val (tk := s.toks) (Kp.push _ _) ?_) (by unfold sizeLine; lia)
          have := is_new_tup (h' := s.heap) (h := s.heap) (G := G) (c := 0) (Kp.refl _) ((hs.append ht).mono (sub_exl gh))
          simpa [← Array.toList_append] using this
end
end Mine
end

section
open PySem PySem.Spec PySem.Calls PyProof.Rows
namespace Mine
open scoped Classical

/-! Part N: targets, sources -/
inductive NamesOf : List Expr → List Str → Prop
  | nil : NamesOf [] []
  | cons {x : Str} {p : Pos} {es : List Expr} {xs : List Str} : NamesOf es xs → NamesOf (.Name x p :: es) (x :: xs)
inductive Binds : Expr → Dt → List (Str × Dt) → Prop
  | name {x : Str} {p : Pos} {d : Dt} : Binds (.Name x p) d [(x, d)]
  | tup {es : List Expr} {kd : Nat} {p : Pos} {xs : List Str} {ds : List Dt} : NamesOf es xs → xs.length = ds.length → xs.Nodup → Binds (.Tuple es kd p) (.tup ds) (xs.zip ds)

section
variable {prog : Program} {w : World} {h₀ : Heap} {sc : Scope} {ρ : List (Str × Dt)} {k : Nat} {G G' : Gh} {s : Shared} {env : Env} {A : Around} {E : Value → Shared → Prop}

theorem in_but {h h' : Heap} {a : Addr} (x : InH G h) (k : Heap.ExtBut a h h') (hn : G a = none) : InH G h' := fun b o e => k b o (fun q => by subst q; rw [hn] at e; cases e) (x b o e)

theorem assignNames_D {es : List Expr} {xs : List Str} (N : NamesOf es xs) : ∀ {s : Shared} {vs : List Value} {ds : List Dt} {m : Str → Option Value} {Q : Unit → Shared → Prop},
    xs.length = ds.length → IsAll w G vs ds → xs.Nodup → (∀ x ∈ xs, env.kindOf x = some .local) → env.scope.kind = .function → s.heap.Ns env.locals m →
    (∀ h' tk m', Heap.ExtBut env.locals s.heap h' → h'.Ns env.locals m' → (∀ x d, (xs.zip ds).lookup x = some d → ∃ u, m' x = some u ∧ Is w G u d) → (∀ x, x ∉ xs → m' x = m x) → Q () { s with heap := h', toks := tk }) →
    wpAny (model prog w) A (assignInOrder ((assignEach es env).map (·.2)) vs) Q E s := by
  induction N with
  | nil =>
    intro s vs ds m Q hl iv nd hk hf hn c
    exact assignInOrder_nil (c s.heap s.toks m (fun _ _ _ e => e) hn (fun x d e => by simp at e) fun _ _ => rfl)
  | @cons x p es xs N ih =>
    intro s vs ds m Q hl iv nd hk hf hn c
    cases iv with
    | nil => simp at hl
    | @cons v vs d ds i r =>
    show wpAny _ A (assignInOrder (assign (.Name x p) env :: (assignEach es env).map (·.2)) (v :: vs)) Q E s
    refine assignInOrder_cons (wpAny_assign_Name (wpAny_storeName_local (hk x List.mem_cons_self) hn (fun h1 hn1 hs1 => ?_) (by rw [hf]; rfl)))
    obtain ⟨nx, nd'⟩ := List.nodup_cons.mp nd
    refine ih (by simpa using hl) r nd' (fun y hy => hk y (List.mem_cons_of_mem _ hy)) hf hn1 fun h2 tk2 m2 k2 hn2 l2 o2 => ?_
    refine c h2 tk2 m2 (fun a o ha e => k2 a o ha (hs1.extBut a o ha e)) hn2 (fun y d' e => ?_) fun y hy => ?_
    · by_cases hyx : y = x
      · subst hyx
        rw [List.zip_cons_cons, List.lookup_cons, beq_self_eq_true] at e
        simp only [Option.some.injEq] at e; subst e
        exact ⟨v, by rw [o2 y nx, if_pos rfl], i⟩
      · rw [List.zip_cons_cons, List.lookup_cons, beq_eq_false_iff_ne.mpr hyx] at e
        exact l2 y d' e
    · have h1 : y ≠ x := fun q => hy (q ▸ List.mem_cons_self)
      rw [o2 y (fun q => hy (List.mem_cons_of_mem _ q)), if_neg h1]

theorem zip_lookup_mem {xs : List Str} {ds : List Dt} (hl : xs.length = ds.length) : ∀ x ∈ xs, ∃ d, (xs.zip ds).lookup x = some d := by
  induction xs generalizing ds with
  | nil => intro x hx; cases hx
  | cons y ys ih =>
    cases ds with
    | nil => simp at hl
    | cons d ds =>
      intro x hx
      rw [List.zip_cons_cons, List.lookup_cons]
      by_cases hxy : x = y
      · subst hxy; rw [beq_self_eq_true]; exact ⟨d, rfl⟩
      · rw [beq_eq_false_iff_ne.mpr hxy]
        exact ih (by simpa using hl) x ((List.mem_cons.mp hx).resolve_left hxy)

theorem assign_D {target : Expr} {d : Dt} {bs : List (Str × Dt)} {v : Value} {m : Str → Option Value} {Q : Unit → Shared → Prop} (B : Binds target d bs) (iv : Is w G v d) (gh : InH G s.heap) (hh : A.handled = none)
    (hC : G env.locals = none) (hk : ∀ x d, bs.lookup x = some d → env.kindOf x = some .local) (hf : env.scope.kind = .function) (hn : s.heap.Ns env.locals m)
    (c : ∀ h' tk m', Heap.ExtBut env.locals s.heap h' → h'.Ns env.locals m' → InH G h' → (∀ x d, bs.lookup x = some d → ∃ u, m' x = some u ∧ Is w G u d) → (∀ x, bs.lookup x = none → m' x = m x) → Q () { s with heap := h', toks := tk }) :
    wpAny (model prog w) A (assign target env v) Q E s := by
  cases B with
  | @name x p d =>
    refine wpAny_assign_Name (wpAny_storeName_local (hk x d (by simp [List.lookup_cons])) hn (fun h1 hn1 hs1 => ?_) (by rw [hf]; rfl))
    refine c h1 _ _ hs1.extBut hn1 (in_but gh hs1.extBut hC) (fun y d' e => ?_) fun y e => ?_
    · simp only [List.lookup_cons, List.lookup_nil] at e
      by_cases hyx : y = x
      · subst hyx; simp at e; subst e; exact ⟨v, by simp, iv⟩
      · rw [beq_eq_false_iff_ne.mpr hyx] at e; cases e
    · by_cases hyx : y = x
      · subst hyx; simp [List.lookup_cons] at e
      · rw [if_neg hyx]
  | @tup es kd p xs ds N hl nd =>
    cases iv with
    | @tup a vs n _ ha hs =>
      have hT : s.heap.IsTuple a vs := ⟨_, gh _ _ ha, rfl, n, rfl⟩
      have e1 := hs.length
      have len : ∀ {es : List Expr} {xs : List Str}, NamesOf es xs → (assignEach es env).length = xs.length := by
        intro es xs N
        induction N with
        | nil => rfl
        | cons N ih => show (assignEach _ env).length + 1 = _; rw [ih]; rfl
      have star : ∀ {es : List Expr} {xs : List Str}, NamesOf es xs → ∀ q ∈ assignEach es env, q.1 = false := by
        intro es xs N
        induction N with
        | nil => intro q hq; cases hq
        | cons N ih =>
          intro q hq
          rcases List.mem_cons.mp hq with e | hq
          · subst e; rfl
          · exact ih q hq
      refine wpAny_assign_Tuple hh hT (by rw [len N, hl, ← e1]; simp) (List.findIdx?_eq_none_iff.mpr fun q hq => star N q hq) fun h1 he1 => ?_
      have k1 : Kp s.heap h1 := fun b o e => he1 b o (Nat.ne_of_lt (Heap.lt_size e)) e
      refine assignNames_D N hl hs nd (fun x hx => let ⟨d, e⟩ := zip_lookup_mem hl x hx; hk x d e) hf (hn.keeps k1) fun h2 tk2 m2 k2 hn2 l2 o2 => ?_
      refine c h2 tk2 m2 (fun b o hb e => k2 b o hb (k1 b o e)) hn2 (in_but (gh.kp k1) k2 hC) l2 fun x e => o2 x fun hx => ?_
      obtain ⟨d, e'⟩ := zip_lookup_mem hl x hx
      rw [e'] at e; cases e

/-! what a loop walks over -/
noncomputable def Quiet (o : Obj) : Prop := o.cls = .type "list_iterator" ∨ o.cls = .type "dict_keyiterator"

inductive Src (prog : Program) (w : World) (G : Gh) (h : Heap) (v : Value) (ds : List Dt) : Prop
  | mk (a : Addr) (oI : Obj) (P : Nat → Value → Prop) (St : Nat → Heap → Prop) (hoa : ∃ oa, h.get? a = some oa ∧ G a = some oa) (hfr : oI.isFreed = false)
    (hit : ∀ (A : Around) (s : Shared) (E : Value → Shared → Prop) (Q : Value → Shared → Prop), s.heap = h → Q (.ref h.objs.size) { s with heap := h.push oI } → wpAny (model prog w) A (pyIter v) Q E s)
    (W : ∀ A : Around, A.handled = none → Walks prog w A h.objs.size [h.objs.size, a] [h.objs.size] ds.length P St) (hst : St 0 (h.push oI))
    (hP : ∀ i u, P i u → ∃ d, ds[i]? = some d ∧ Is w G u d) (hq : ∀ i h', St i h' → ∃ o, h'.get? h.objs.size = some o ∧ Quiet o)

theorem Src.list {h : Heap} {v : Value} {ds : List Dt} (gh : InH G h) (i : Is w G v (.list ds)) : Src prog w G h v ds := by
  cases i with
  | @list a vs n _ ha hs =>
    have hL : h.IsList a vs := ⟨_, gh _ _ ha, rfl, n, rfl⟩
    have e1 := hs.length
    simp only [Array.length_toList] at e1
    refine ⟨a, { cls := .type "list_iterator", data := .fields #[.ref a, .int 0 0] }, (fun i v => vs[i]? = some v), (fun i h' => h'.IsListIter h.objs.size a i ∧ h'.IsList a vs), ⟨_, gh _ _ ha, ha⟩, rfl, fun A s E Q e q => ?_, fun A hA => e1 ▸ Walks.list hA h.objs.size a (Nat.ne_of_lt (Heap.lt_size (gh _ _ ha))) vs, ⟨⟨_, Heap.get?_push_size _ rfl, rfl, rfl⟩, ⟨_, Heap.get?_push_of_some _ (gh _ _ ha), rfl, n, rfl⟩⟩, fun i u hu => ?_, fun i h' st => ?_⟩
    · subst e; exact wpAny_pyIter_list hL q
    · have hi := (Array.getElem?_eq_some_iff.mp hu).1
      obtain ⟨x, hx, ix⟩ := hs.get (i := i) (d := ds[i]'(by lia)) (by simp)
      rw [show u = x by have : vs.toList[i]? = some u := by simpa using hu
                        rw [this] at hx; exact Option.some.inj hx]
      exact ⟨_, by simp, ix⟩
    · refine nn fun hno_ => ?_
      obtain ⟨⟨o, ho, hc, _⟩, _⟩ := st
      refine hno_ ?_
      clear hno_
      exact ⟨o, ho, .inl hc⟩

theorem Src.dict {h : Heap} {v : Value} {kvs : List (Dt × Dt)} (gh : InH G h) (i : Is w G v (.dict kvs)) : Src prog w G h v (kvs.map (·.1)) := by
  cases i with
  | @dict a es n _ ha hm hs hn =>
    have e1 := hs.length
    simp only [Array.length_toList] at e1
    have e2 : (kvs.map (·.1)).length = es.size := by rw [List.length_map, e1]
    refine ⟨a, { cls := .type "dict_keyiterator", data := .fields #[.ref a, .int 0 0, .int es.size 0, .int n 0] }, (fun i v => ∃ e, es[i]? = some e ∧ v = e.key), (fun i h' => h'.IsKeyIter h.objs.size a i es.size n ∧ h'.get? a = some (dicObj es n)), ⟨_, gh _ _ ha, ha⟩, rfl, fun A s E Q e q => ?_, fun A hA => by rw [e2]; exact rawWalks hA h.objs.size a (Nat.ne_of_lt (Heap.lt_size (gh _ _ ha))) es n,
      ⟨⟨_, Heap.get?_push_size _ rfl, rfl, rfl⟩, Heap.get?_push_of_some _ (gh _ _ ha)⟩, fun i u hu => ?_, fun i h' st => ?_⟩
    · subst e; exact rawIter (beq_eq_false_iff_ne.mpr hm) (gh _ _ ha) q
    · obtain ⟨e, he, rfl⟩ := hu
      refine nn fun hno_ => ?_
      obtain ⟨kk, d, hkd, _, _, ik, _⟩ := hs.at (i := i) (e := e) (by simpa using he)
      refine hno_ ?_
      clear hno_
      exact ⟨kk, by rw [List.getElem?_map, hkd]; rfl, ik⟩
    · obtain ⟨⟨o, ho, hc, _⟩, _⟩ := st
      exact ⟨o, ho, .inr hc⟩

theorem own_D {target : Expr} {I : Addr} {v : Value} {Q : Unit → Shared → Prop} (hI : ∃ o, s.heap.get? I = some o ∧ Quiet o) (h : Q () s) : wpAny (model prog w) A (letOwnedTupleGo target (.ref I) v) Q E s := by
  refine nn fun hno_ => ?_
  obtain ⟨o, ho, hq⟩ := hI
  refine hno_ ?_
  clear hno_
  have main : ∀ a : Addr, wpAny (model prog w) A (do
      let o ← load I
      match o.cls, o.data with
      | .type n, .fields vs =>
        if ["enumerate", "zip", "dict_itemiterator", "dict_reverseitemiterator", "odict_iterator", "itertools.zip_longest", "itertools.pairwise"].contains n && vs[0]? == some (rawInt a) then
          rule "for.unpacks-the-owned-tuple"
          updateField I 0 .none
      | _, _ => pure ()) Q E s := by
    intro a
    refine wpAny_bind (wpAny_load ho ?_)
    rcases hq with e | e <;> rw [e] <;> (cases o.data <;> exact wpAny_pure h)
  cases target <;> first | exact wpAny_pure h | (cases v <;> first | exact wpAny_pure h | exact main _)
end
end Mine
end

section
open PySem PySem.Spec PySem.Calls PyProof.Rows
namespace Mine
open scoped Classical

/-! Part O: list comprehensions -/
noncomputable def relab (sc scope : Scope) : Scope :=
  { scope with names := scope.names.map fun (n, k) => if (k == .free && sc.kind == .function && sc.names.lookup n == some .cell) then (n, .cell) else (n, k) }
theorem relabel_eq (scope : Scope) (env : Env) : relabel scope env = relab env.scope scope := rfl

noncomputable def compRho (sc scope : Scope) (ρ : List (Str × Dt)) : List (Str × Dt) :=
  ρ.filter fun p => scope.names.lookup p.1 == some .free && (sc.names.lookup p.1 == some .cell || sc.names.lookup p.1 == some .free)

theorem lookup_filter_key (g : Str → Bool) : ∀ (ρ : List (Str × Dt)) (x : Str), (ρ.filter fun p => g p.1).lookup x = if g x then ρ.lookup x else none
  | [], x => by simp
  | (y, d) :: r, x => by
    have ih := lookup_filter_key g r x
    by_cases hxy : x = y
    · subst hxy
      cases hg : g x with
      | true => simp [List.filter_cons, hg, List.lookup_cons]
      | false => rw [List.filter_cons]; simp only [hg, Bool.false_eq_true, if_false]; rw [ih]; simp [hg]
    · have hb : (x == y) = false := beq_eq_false_iff_ne.mpr hxy
      rw [List.lookup_cons, hb, List.filter_cons]
      split
      · rw [List.lookup_cons, hb]; exact ih
      · exact ih

theorem lookup_relab (sc scope : Scope) (x : Str) : (relab sc scope).names.lookup x = (scope.names.lookup x).map fun k => if (k == .free && sc.kind == .function && sc.names.lookup x == some .cell) then .cell else k := by
  unfold relab
  dsimp only
  generalize scope.names = l
  induction l with
  | nil => rfl
  | cons q r ih =>
    obtain ⟨n, k⟩ := q
    rw [List.map_cons]
    dsimp only
    by_cases hx : x = n
    · subst hx
      by_cases hc : (k == NameKind.free && sc.kind == ScopeKind.function && List.lookup x sc.names == some NameKind.cell) = true
      · rw [if_pos hc, List.lookup_cons, List.lookup_cons, beq_self_eq_true]
        simp only [Option.map_some]; rw [if_pos hc]
      · rw [if_neg hc, List.lookup_cons, List.lookup_cons, beq_self_eq_true]
        simp only [Option.map_some]; rw [if_neg hc]
    · have hb : (x == n) = false := beq_eq_false_iff_ne.mpr hx
      rw [List.lookup_cons (k := n) (b := k), hb]
      split <;> (rw [List.lookup_cons, hb]; exact ih)

theorem closure_D {scope : Scope} {env : Env} (h : ∀ x ∈ scope.names, x.2 = .free → (env.cells.lookup x.1).isSome = true) :
    ∃ cl, closureFor scope env = pure cl ∧ ∀ x, (x, NameKind.free) ∈ scope.names → cl.lookup x = env.cells.lookup x := by
  have key : ∀ (names : List (Str × NameKind)) (acc : List (Str × Addr)), (∀ x ∈ names, x.2 = .free → (env.cells.lookup x.1).isSome = true) →
      ∃ cl, (forIn names acc fun (x : Str × NameKind) cs => if x.2 == NameKind.free then (do let a ← cellOf env x.1; pure (ForInStep.yield ((x.1, a) :: cs))) else pure (ForInStep.yield cs) : Sem (List (Str × Addr))) = pure cl ∧
        (∀ x, (x, NameKind.free) ∈ names → cl.lookup x = env.cells.lookup x) ∧ (∀ x, acc.lookup x = env.cells.lookup x → cl.lookup x = env.cells.lookup x) := by
    intro names
    induction names with
    | nil => intro acc _; exact ⟨acc, rfl, (fun x hx => nomatch hx), fun x e => e⟩
    | cons q r ih =>
      intro acc hq
      obtain ⟨n, k⟩ := q
      rw [List.forIn_cons]
      cases hk : (k == NameKind.free) with
      | false =>
        obtain ⟨cl, h1, h2, h3⟩ := ih acc fun x hx => hq x (List.mem_cons_of_mem _ hx)
        refine ⟨cl, ?_, fun x hx => ?_, h3⟩
        · simp only [hk, Bool.false_eq_true, if_false, pure_bind]; exact h1
        · rcases List.mem_cons.mp hx with e | hx
          · cases e; simp at hk
          · exact h2 x hx
      | true =>
        have hkf : k = .free := eq_of_beq hk
        obtain ⟨a, ha⟩ := Option.isSome_iff_exists.mp (hq (n, k) List.mem_cons_self hkf)
        dsimp only at ha
        obtain ⟨cl, h1, h2, h3⟩ := ih ((n, a) :: acc) fun x hx => hq x (List.mem_cons_of_mem _ hx)
        refine ⟨cl, ?_, fun x hx => ?_, fun x e => h3 x ?_⟩
        · have hc : cellOf env n = pure a := by unfold cellOf; rw [ha]
          simp only [hk, if_true, hc, pure_bind]; exact h1
        · by_cases hxn : x = n
          · subst hxn; exact h3 x (by rw [List.lookup_cons, beq_self_eq_true, ha])
          · rcases List.mem_cons.mp hx with e | hx
            · cases e; exact absurd rfl hxn
            · exact h2 x hx
        · rw [List.lookup_cons]
          by_cases hxn : x = n
          · subst hxn; rw [beq_self_eq_true, ha]
          · rw [beq_eq_false_iff_ne.mpr hxn]; exact e
  obtain ⟨cl, h1, h2, _⟩ := key scope.names [] h
  refine ⟨cl, ?_, h2⟩
  unfold closureFor
  rw [← h1]
  simp only [bind_pure]

section
variable {prog : Program} {w : World} {h₀ : Heap} {sc : Scope} {ρ : List (Str × Dt)} {k : Nat} {G G' : Gh} {s : Shared} {env : Env} {A : Around} {E : Value → Shared → Prop}

theorem Rd.to {h h' : Heap} (R : Rd w h₀ sc ρ G h env) (sb : Sub G G') (kp : Kp h h') (gh : InH G' h') : Rd w h₀ sc ρ G' h' env where
  scope := R.scope
  kind := R.kind
  glob := R.glob
  bi := R.bi
  keep := R.keep.trans kp
  inh := gh
  cells := R.cells
  names := fun x d e => let ⟨v, hv, a⟩ := R.names x d e; ⟨v, hv.mono sb, a.keep kp⟩

theorem mem_of_look {α : Type} {l : List (Str × α)} {x : Str} {k : α} (h : l.lookup x = some k) : (x, k) ∈ l := mem_of_lookup h

theorem Rd.comp {h : Heap} {scope : Scope} {cl : List (Str × Addr)} {C : Addr} {m : Str → Option Value} {bs : List (Str × Dt)} (R : Rd w h₀ sc ρ G h env) (hk : scope.kind = .function)
    (hcell : ∀ y ∈ scope.names, y.2 ≠ .cell) (hcl : ∀ x, (x, NameKind.free) ∈ scope.names → cl.lookup x = env.cells.lookup x)
    (hfree : ∀ y ∈ scope.names, y.2 = .free → sc.names.lookup y.1 = some .cell ∨ sc.names.lookup y.1 = some .free)
    (hloc : ∀ x d, bs.lookup x = some d → scope.names.lookup x = some .local) (hn : h.Ns C m) (hm : ∀ x d, bs.lookup x = some d → ∃ u, m x = some u ∧ Is w G u d) :
    Rd w h₀ (relab sc scope) (bs ++ compRho sc scope ρ) G h (compEnvC scope cl C env) where
  scope := by show relabel scope env = _; rw [relabel_eq, R.scope]
  kind := hk
  glob := R.glob
  bi := R.bi
  keep := R.keep
  inh := R.inh
  cells := fun x hx => by
    rw [lookup_relab] at hx
    show (cl.lookup x).isSome = true
    cases q : scope.names.lookup x with
    | none => rw [q] at hx; simp at hx
    | some kd =>
      have hmem := mem_of_look q
      rw [q] at hx
      have : kd = .free := by
        cases kd <;> simp at hx
        · exact absurd rfl (hcell _ hmem)
        · rfl
      subst this
      rw [hcl x hmem]
      exact R.cells x (hfree _ hmem rfl)
  names := fun x d e => by
    rw [List.lookup_append] at e
    have hscope : (compEnvC scope cl C env).kindOf x = (relab sc scope).names.lookup x := by show (relabel scope env).names.lookup x = _; rw [relabel_eq, R.scope]
    cases q : bs.lookup x with
    | some d' =>
      rw [q] at e
      have ed : d' = d := by simpa using e
      subst ed
      obtain ⟨u, hu, iu⟩ := hm x d' q
      refine ⟨u, iu, .inl ⟨?_, m, hn, hu⟩⟩
      rw [hscope, lookup_relab, hloc x d' q]; rfl
    | none =>
      rw [q] at e
      simp only [Option.none_or] at e
      unfold compRho at e
      rw [lookup_filter_key (fun x => scope.names.lookup x == some .free && (sc.names.lookup x == some .cell || sc.names.lookup x == some .free))] at e
      split at e
      · rename_i hc
        simp only [Bool.and_eq_true, Bool.or_eq_true, beq_iff_eq] at hc
        obtain ⟨v, iv, hat⟩ := R.names x d e
        have hmem := mem_of_look hc.1
        refine ⟨v, iv, .inr ?_⟩
        have hkd : env.kindOf x = sc.names.lookup x := by unfold Env.kindOf; rw [R.scope]
        rcases hat with ⟨h1, _⟩ | ⟨h1, c, h2, h3⟩
        · rw [hkd] at h1
          rcases hc.2 with h2 | h2 <;> rw [h1] at h2 <;> cases h2
        · refine ⟨?_, c, ?_, h3⟩
          · rw [hscope, lookup_relab, hc.1]
            rcases hc.2 with h2 | h2
            · left; simp [h2, R.kind]
            · right; simp [h2]
          · show cl.lookup x = some c
            rw [hcl x hmem]; exact h2
      · cases e

noncomputable def Tst (prog : Program) (w : World) (h₀ : Heap) (k : Nat) (sc : Scope) (ρ : List (Str × Dt)) (ifs : List Expr) (b : Bool) : Prop := match ifs with
  | [] => b = true
  | [c] => Tr prog w h₀ k sc ρ c b
  | _ => False

theorem Tst.go {ifs : List Expr} {b : Bool} {Q : Bool → Shared → Prop} (H : Tst prog w h₀ k sc ρ ifs b) (ok : Ok A k) (R : Rd w h₀ sc ρ G s.heap env)
    (c : ∀ h' tk, Kp s.heap h' → Rd w h₀ sc ρ G h' env → Q b { s with heap := h', toks := tk }) :
    wpAny (model prog w) A (forIn ifs true fun c r => if r = true then do let ok ← isTrue c env (eval c env); pure (ForInStep.yield ok) else pure (ForInStep.yield r)) Q E s := by
  match ifs, H with
  | [], H => subst H; exact wpAny_tests_nil (c s.heap s.toks (Kp.refl _) R)
  | [e], H =>
    have H' : Tr prog w h₀ k sc ρ e b := H
    exact wpAny_tests_one (H'.go ok R c)

end
end Mine
end

section
open PySem PySem.Spec PySem.Calls PyProof.Rows
namespace Mine
open scoped Classical

/-! Part P: the comprehension's loop -/
section
variable {prog : Program} {w : World} {h₀ : Heap} {sc : Scope} {ρ : List (Str × Dt)} {k : Nat} {G G' : Gh} {s : Shared} {env : Env} {A : Around} {E : Value → Shared → Prop}

/-- of the live addresses of h the two hold the same -/
noncomputable def Low (h : Heap) (G G' : Gh) : Prop := ∀ a o, h.get? a = some o → G' a = G a
theorem Low.refl (h : Heap) (G : Gh) : Low h G G := fun _ _ _ => rfl
theorem Low.sub {h : Heap} {G G' : Gh} (l : Low h G G') (gh : InH G h) : Sub G G' := fun a o e => (l a o (gh a o e)).trans e
theorem Low.exl {h h1 h2 : Heap} {G G' : Gh} (l : Low h G G') (k : Kp h h1) : Low h G (exl G' h1 h2) := fun a o e => by
  unfold Mine.exl; rw [k a o e]; exact l a o e
theorem Low.to_exl {h h1 : Heap} {G G' : Gh} (l : Low h G G') (gh : InH G' h1) : Sub G' (Mine.exl G h h1) := fun a o e => by
  unfold Mine.exl
  cases q : h.get? a with
  | some o' => rw [l a o' q] at e; exact e
  | none => exact gh a o e

theorem take_succ_filter' {α : Type} (p : α → Bool) (l : List α) (i : Nat) (v : α) (h : l[i]? = some v) : (l.take (i + 1)).filter p = (l.take i).filter p ++ (if p v then [v] else []) := by
  rw [List.take_add_one, h, List.filter_append]
  cases hp : p v <;> simp [hp]

noncomputable def CompBody (prog : Program) (w : World) (h₀ : Heap) (k : Nat) (sc scope : Scope) (ρ : List (Str × Dt)) (target : Expr) (ifs : List Expr) (elt : Expr) (ds : List Dt) (p : Dt → Bool) (f : Dt → Dt) : Prop :=
  ∀ d ∈ ds, ∃ bs, Binds target d bs ∧ (∀ x d, bs.lookup x = some d → scope.names.lookup x = some .local) ∧
      Tst prog w h₀ k (relab sc scope) (bs ++ compRho sc scope ρ) ifs (p d) ∧ (p d = true → Ev prog w h₀ k (relab sc scope) (bs ++ compRho sc scope ρ) elt (f d))

structure CompScope (sc scope : Scope) : Prop where
  cell : ∀ y ∈ scope.names, y.2 ≠ .cell
  kind : scope.kind = .function
  names : ∀ y ∈ scope.names, y.2 = .local → scope.names.lookup y.1 = some .local
  free : ∀ y ∈ scope.names, y.2 = .free → sc.names.lookup y.1 = some .cell ∨ sc.names.lookup y.1 = some .free

theorem take_done (p : Dt → Bool) (f : Dt → Dt) {ds : List Dt} {i : Nat} {d : Dt} (h : ds[i]? = some d) : ((ds.take (i + 1)).filter p).map f = ((ds.take i).filter p).map f ++ (if p d then [f d] else []) := by
  rw [take_succ_filter' p _ i d h, List.map_append]
  cases p d <;> rfl
/-- what turns under a comprehension -/
structure Iter (prog : Program) (w : World) (A : Around) (G : Gh) (it : Value) (target : Expr) (ds : List Dt) (wr fp : List Addr) (St : Nat → Heap → Prop) : Prop where
  frame : ∀ i H H', St i H → (∀ b o, b ∈ fp → H.get? b = some o → H'.get? b = some o) → St i H'
  live : ∀ i H b, St i H → b ∈ wr → ∃ o, H.get? b = some o
  item : ∀ (i : Nat) (d : Dt) (Gi : Gh) (s : Shared) (E : Value → Shared → Prop) (Q : Option Value → Shared → Prop), ds[i]? = some d → St i s.heap → InH Gi s.heap → Sub G Gi → (∀ b ∈ wr, Gi b = none) →
    (∀ v s1, (∀ (Q' : Unit → Shared → Prop) (E' : Value → Shared → Prop), (∀ h2 tk G2, St (i + 1) h2 → (∀ b o, b ∉ wr → s.heap.get? b = some o → h2.get? b = some o) → InH G2 h2 → Low s.heap Gi G2 → Is w G2 v d → Q' () { s with heap := h2, toks := tk }) →
      wpAny (model prog w) A (letOwnedTupleGo target it v) Q' E' s1) → Q (some v) s1) → wpAny (model prog w) A (pyNext it) Q E s
  done : ∀ (s : Shared) (E : Value → Shared → Prop) (Q : Option Value → Shared → Prop), St ds.length s.heap → (∀ h2 tk, (∀ b o, b ∉ wr → s.heap.get? b = some o → h2.get? b = some o) → Q none { s with heap := h2, toks := tk }) → wpAny (model prog w) A (pyNext it) Q E s

inductive CI (w : World) (G : Gh) (p : Dt → Bool) (f : Dt → Dt) (ds : List Dt) (wr : List Addr) (St : Nat → Heap → Prop) (C D : Addr) (s : Shared) (n : Nat) (s' : Shared) : Prop
  | mk (H : Heap) (tk : Nat) (m : Str → Option Value) (ys : Array Value) (c i : Nat) (Gi : Gh) (e : s' = { s with heap := H, toks := tk }) (st : St i H) (hn : H.Ns C m) (hl : H.get? D = some (lstObj ys c)) (iy : IsAll w Gi ys.toList (((ds.take i).filter p).map f))
    (ghi : InH Gi H) (low : Low s.heap G Gi) (gN : ∀ b ∈ D :: C :: wr, Gi b = none) (kp : Kp s.heap H) (hi : i ≤ ds.length) (hn' : n = ds.length + 1 - i)

theorem dead_none {G : Gh} {h : Heap} (gh : InH G h) {b : Addr} (hb : h.get? b = none) : G b = none := by
  cases q : G b with
  | none => rfl
  | some o => rw [gh b o q] at hb; cases hb

theorem comp_core {elt target iter : Expr} {ifs : List Expr} {scope : Scope} {pos : Pos} {cl : List (Str × Addr)} {ds : List Dt} {R : Result → Shared → Prop} (p : Dt → Bool) (f : Dt → Dt)
    {D C : Addr} {it : Value} {wr fp : List Addr} {St : Nat → Heap → Prop} {H₀ : Heap} {m₀ : Str → Option Value}
    (ok : Ok A k) (Ro : Rd w h₀ sc ρ G s.heap env) (hz : ds.length ≤ 5000) (hcell : ∀ y ∈ scope.names, y.2 ≠ .cell) (hkind : scope.kind = .function)
    (hcl : ∀ x, (x, NameKind.free) ∈ scope.names → cl.lookup x = env.cells.lookup x)
    (hfree : ∀ y ∈ scope.names, y.2 = .free → sc.names.lookup y.1 = some .cell ∨ sc.names.lookup y.1 = some .free) (body : CompBody prog w h₀ k sc scope ρ target ifs elt ds p f)
    (I : Iter prog w A G it target ds wr fp St) (hst : St 0 H₀) (hk₀ : Kp s.heap H₀) (hn₀ : H₀.Ns C m₀) (hD₀ : ∃ c, H₀.get? D = some (lstObj #[] c))
    (dead : ∀ b ∈ D :: C :: wr, s.heap.get? b = none) (hDw : D ∉ wr) (hCw : C ∉ wr) (hDC : D ≠ C) (nfp : ∀ b ∈ fp, b ≠ D ∧ b ≠ C)
    (hR : ∀ h' tk m' G', h'.Ns C m' → Kp s.heap h' → Low s.heap G G' → InH G' h' → G' C = none → LAt w G' h' D ((ds.filter p).map f) → R (.ok .next) { s with heap := h', toks := tk }) (tk : Nat) :
    codeAny (model prog w) A (.compLoop (.ListComp elt [⟨target, iter, ifs, 0⟩] scope pos) 0 it (.ref D) (compEnvC scope cl C env)) R { s with heap := H₀, toks := tk } := by
  have gh := Ro.inh
  have off : ∀ {b c o}, s.heap.get? b = some o → c ∈ D :: C :: wr → b ≠ c := fun e hc q => by rw [q, dead _ hc] at e; cases e
  have lv : ∀ {i H m ys c}, St i H → H.Ns C m → H.get? D = some (lstObj ys c) → ∀ b ∈ D :: C :: wr, ∃ o, H.get? b = some o := fun st hn hl b hb => by
    rcases List.mem_cons.mp hb with rfl | hb
    · exact ⟨_, hl⟩
    · rcases List.mem_cons.mp hb with rfl | hb
      · exact hn.elim fun o x => x.elim fun _ x => x.elim fun _ x => ⟨o, x.1⟩
      · exact I.live _ _ _ st hb
  obtain ⟨c₀, hD₀⟩ := hD₀
  refine codeAny_loop rfl (CI w G p f ds wr St C D s) (fun n s' hI' => ?_) (ds.length + 1)
    ⟨H₀, tk, m₀, #[], c₀, 0, G, rfl, hst, hn₀, hD₀, .nil, gh.kp hk₀, Low.refl _ _, fun b hb => dead_none gh (dead b hb), hk₀, Nat.zero_le _, rfl⟩
  refine nn fun no => ?_
  obtain ⟨H, tk, m, ys, c, i, Gi, rfl, st, hn, hl, iy, ghi, low, gN, kp, hi, rfl⟩ := hI'
  refine no ?_
  clear no
  show wpAny _ A ((compTurn (.ListComp elt [⟨target, iter, ifs, 0⟩] scope pos) 0 it (.ref D) (compEnvC scope cl C env)).onRaise (fun x => do noteFrame x (compEnvC scope cl C env); theTreesLotGoes x)) _ _ _
  refine wpAny_noted ?_
  rw [compTurn_list]
  refine wpAny_bind (wpAny_standAt (wpAny_bind ?_))
  rcases Nat.lt_or_eq_of_le hi with hlt | rfl
  · have hd : ds[i]? = some ds[i] := List.getElem?_eq_getElem hlt
    refine nn fun no => ?_
    obtain ⟨bs, B, hloc, tst, hev⟩ := body ds[i] (List.getElem_mem hlt)
    refine no ?_
    clear no
    refine I.item i _ Gi _ _ _ hd st ghi (low.sub gh) (fun b hb => gN b (.tail _ (.tail _ hb))) fun v s1 go => wpAny_bind (go _ _ fun h2 tk2 G2 st2 k2 gh2 lw2 iv => ?_)
    have gN2 : ∀ b ∈ D :: C :: wr, G2 b = none := fun b hb => (lv st hn hl b hb).elim fun o e => (lw2 b o e).trans (gN b hb)
    have low2 : Low s.heap G G2 := fun b o e => (lw2 b o (kp b o e)).trans (low b o e)
    have kp2 : Kp s.heap h2 := fun b o e => k2 b o (fun hb => off e (.tail _ (.tail _ hb)) rfl) (kp b o e)
    refine wpAny_bind (assign_D B iv gh2 ok.1 (gN2 C (.tail _ (.head _))) (fun x d e => ?_) hkind (hn.at fun o e => k2 C o hCw e) fun h3 tk3 m3 k3 hn3 gh3 hm3 _ => ?_)
    · show (relabel scope env).names.lookup x = some .local
      rw [relabel_eq, Ro.scope, lookup_relab, hloc x d e]; rfl
    have kp3 : Kp s.heap h3 := fun b o e => k3 b o (off e (.tail _ (.head _))) (kp2 b o e)
    have R3 : Rd w h₀ (relab sc scope) (bs ++ compRho sc scope ρ) G2 h3 (compEnvC scope cl C env) := (Ro.to (low2.sub gh) kp3 gh3).comp hkind hcell hcl hfree hloc hn3 hm3
    have st3 := I.frame _ _ h3 st2 fun b o hb e => k3 b o (nfp b hb).2 e
    have hl3 : h3.get? D = some (lstObj ys c) := k3 D _ hDC (k2 D _ hDw hl)
    have iy2 := iy.mono (lw2.sub ghi)
    have less : ds.length + 1 - (i + 1) < ds.length + 1 - i := Nat.sub_lt_sub_left (Nat.lt_succ_of_lt hlt) (Nat.lt_succ_self i)
    have ht := take_done p f hd
    refine wpAny_bind (tst.go ok R3 fun h4 tk4 k4 R4 => ?_)
    have st4 := I.frame _ _ h4 st3 fun b o _ e => k4 b o e
    have hn4 := hn3.keeps k4
    have hl4 := k4 _ _ hl3
    have kp4 := kp3.trans k4
    cases hp : p ds[i] with
    | false => exact wpAny_pure ⟨rfl, _, less, h4, tk4, m3, ys, c, i + 1, G2, rfl, st4, hn4, hl4, by rw [ht, hp]; exact (List.append_nil _).symm ▸ iy2, R4.inh, low2, gN2, kp4, hlt, rfl⟩
    | true =>
      rw [if_pos rfl]
      refine wpAny_bind (wpAny_bind ((hev hp).go ok R4 fun y h5 tk5 k5 i5 R5 => ?_))
      have hl5 := k5 _ _ hl4
      have hsz : ys.size ≤ sizeLine := by
        have e1 := iy.length
        rw [Array.length_toList, List.length_map] at e1
        rw [e1, sizeLine_eq]
        exact Nat.le_trans (List.length_filter_le _ _) (Nat.le_trans (List.length_take_le _ _) (Nat.le_trans (Nat.le_trans hi hz) (by decide)))
      have gN5 : ∀ b ∈ D :: C :: wr, exl G2 h4 h5 b = none := fun b hb => (lv st4 hn4 hl4 b hb).elim fun o e => exl_none e (gN2 b hb)
      refine wpAny_bind (wpAny_list_append_plain (hsz := hsz) (items := ys) ⟨c, hl5⟩ fun h6 hl6 s6 => wpAny_pure (wpAny_pure ?_))
      obtain ⟨c6, hl6⟩ := hl6
      exact ⟨rfl, _, less, h6, tk5, m3, ys.push y, c6, i + 1, exl G2 h4 h5, rfl, I.frame _ _ h6 st4 fun b o hb e => s6.extBut b o (nfp b hb).1 (k5 b o e), (hn4.keeps k5).sameBut s6 (Ne.symm hDC), hl6,
        by rw [ht, hp, Array.toList_push]; exact (iy2.mono (sub_exl (R4.inh.kp k5))).snoc i5, in_but R5.inh s6.extBut (gN5 D (.head _)), low2.exl kp4, gN5, fun b o e => s6.extBut b o (off e (.head _)) (k5 b o (kp4 b o e)), hlt, rfl⟩
  · refine I.done _ _ _ st fun h1 tk1 k1 => wpAny_pure ?_
    rw [List.take_length] at iy
    exact hR h1 tk1 m Gi (hn.at fun o e => k1 C o hCw e) (fun b o e => k1 b o (fun hb => off e (.tail _ (.tail _ hb)) rfl) (kp b o e)) low
      (fun b o e => k1 b o (fun hb => by rw [gN b (.tail _ (.tail _ hb))] at e; cases e) (ghi b o e)) (gN C (.tail _ (.head _))) ⟨⟨ys, c, k1 D _ hDw hl, iy⟩⟩

theorem Iter.walk {target : Expr} {ds : List Dt} {a I : Addr} {P : Nat → Value → Prop} {St : Nat → Heap → Prop} (W : Walks prog w A I [I, a] [I] ds.length P St) (hP : ∀ i u, P i u → ∃ d, ds[i]? = some d ∧ Is w G u d) (hq : ∀ i h', St i h' → ∃ o, h'.get? I = some o ∧ Quiet o) :
    Iter prog w A G (.ref I) target ds [I] [I, a] St where
  frame := fun i H H' st hk => W.frame _ _ _ st fun b hb o e => hk b o hb e
  live := fun i H b st hb => (hq i H st).elim fun o x => ⟨o, List.mem_singleton.mp hb ▸ x.1⟩
  item := fun i d Gi s E Q hd st gh sub gN hQ => W.item i _ _ _ (List.getElem?_eq_some_iff.mp hd).1 st fun v h1 tk1 hPv st1 k1 => hQ v _ fun Q' E' c => own_D (hq _ _ st1) (c h1 tk1 Gi st1 k1 (in_but gh (fun b o hb e => k1 b o (fun m => hb (List.mem_singleton.mp m)) e) (gN I (.head _))) (Low.refl _ _) (by
    obtain ⟨d', hd', iv⟩ := hP i v hPv
    rw [hd] at hd'; cases hd'
    exact iv.mono sub))
  done := fun s E Q st q => W.done _ _ _ st fun h2 tk2 k2 => q h2 tk2 k2
end
end Mine
end

section
open PySem PySem.Spec PySem.Calls PyProof.Rows
namespace Mine
open scoped Classical

/-! Part Q: the comprehension -/
section
variable {prog : Program} {w : World} {h₀ : Heap} {sc : Scope} {ρ : List (Str × Dt)} {k : Nat} {G G' : Gh} {s : Shared} {env : Env} {A : Around} {E : Value → Shared → Prop}

theorem comp_start {elt target iter : Expr} {ifs : List Expr} {scope : Scope} {pos : Pos} {cl : List (Str × Addr)} {v : Value} {ds : List Dt} {RR : Value → Addr → Result → Shared → Prop} {p : Dt → Bool} {f : Dt → Dt}
    (ok : Ok A k) (R : Rd w h₀ sc ρ G s.heap env) (src : Src prog w G s.heap v ds) (hz : ds.length ≤ 5000) (S : CompScope sc scope)
    (hcl : ∀ x, (x, NameKind.free) ∈ scope.names → cl.lookup x = env.cells.lookup x)
    (body : CompBody prog w h₀ k sc scope ρ target ifs elt ds p f)
    (hRR : ∀ D C h' tk m' G', s.heap.get? D = none → s.heap.get? C = none → D ≠ C → h'.Ns C m' → Kp s.heap h' → Low s.heap G G' → InH G' h' → G' C = none → LAt w G' h' D ((ds.filter p).map f) → RR (.ref D) C (.ok .next) { s with heap := h', toks := tk }) :
    wpAny (model prog w) A (pyIter v) (fun it s₂ => wpAny (model prog w) A (newList []) (fun acc s₃ => wpAny (model prog w) A (newFunctionEnv scope env.globals cl [] env.qual none .none (some env)) (fun cenv s₄ =>
      codeAny (model prog w) A (.compStart (.ListComp elt [⟨target, iter, ifs, 0⟩] scope pos) 0 it acc { cenv with scope := relabel scope env }) (RR acc cenv.locals) s₄) E s₃) E s₂) E s := by
  obtain ⟨a, oI, P, St, ⟨oa, hoa, _⟩, hfr, hit, W, hst, hP, hq⟩ := src
  refine hit A s E _ rfl ?_
  refine wpAny_newObj_type (wpAny_newFunctionEnv S.cell (by intro y hy; simp at hy) (fun h₁ hns₁ hsb₁ => ?_) S.kind) (by size_fits)
  dsimp only at hns₁ hsb₁ ⊢
  generalize hH1 : s.heap.push oI = H1 at hns₁ hsb₁ hst ⊢
  have hD : H1.objs.size = s.heap.objs.size + 1 := by rw [← hH1, Heap.size_push]
  generalize hH2 : H1.push { cls := .type "list", dict := none, data := .seq ([] : List Value).toArray } = H2 at hns₁ hsb₁ ⊢
  have hC : H2.objs.size = s.heap.objs.size + 2 := by rw [← hH2, Heap.size_push, hD]
  have hID : s.heap.objs.size ≠ H1.objs.size := by rw [hD]; exact Nat.ne_of_lt (Nat.lt_succ_self _)
  have hDC : H1.objs.size ≠ H2.objs.size := by rw [hD, hC]; exact Nat.ne_of_lt (Nat.lt_succ_self _)
  have hIC : s.heap.objs.size ≠ H2.objs.size := by rw [hC]; exact Nat.ne_of_lt (Nat.lt_succ_of_lt (Nat.lt_succ_self _))
  have k1 : Kp s.heap H1 := hH1 ▸ Kp.push _ _
  have k2 : Kp H1 H2 := hH2 ▸ Kp.push _ _
  have up : ∀ b o, b ≠ H2.objs.size → H2.get? b = some o → h₁.get? b = some o := fun b o hb e => hsb₁.extBut b o hb (Heap.get?_push_of_some _ e)
  have k3 : Kp s.heap h₁ := fun b o e => up b o (Nat.ne_of_lt (by rw [hC]; exact Nat.lt_of_lt_of_le (Heap.lt_size e) (Nat.le_add_right _ 2))) (k2 _ _ (k1 _ _ e))
  have hst₁ : St 0 h₁ := (W A ok.1).frame _ _ _ hst fun b hb o e => up b o (by
    simp only [List.mem_cons, List.not_mem_nil, or_false] at hb
    rcases hb with rfl | rfl
    · exact hIC
    · exact Nat.ne_of_lt (by rw [hC]; exact Nat.lt_of_lt_of_le (Heap.lt_size hoa) (Nat.le_add_right _ 2))) (k2 _ _ e)
  have hfresh : ∀ b, s.heap.objs.size ≤ b → s.heap.get? b = none := fun b hb => heap_none hb
  have loop : ∀ tk, codeAny (model prog w) A (.compLoop (.ListComp elt [⟨target, iter, ifs, 0⟩] scope pos) 0 (.ref s.heap.objs.size) (.ref H1.objs.size) (compEnvC scope cl H2.objs.size env))
      (RR (.ref H1.objs.size) H2.objs.size) { s with heap := h₁, toks := tk } := fun tk =>
    comp_core p f ok R hz S.cell S.kind hcl S.free body (Iter.walk (W A ok.1) hP hq) hst₁ k3 hns₁
      ⟨0, up _ _ hDC (by rw [← hH2]; exact Heap.get?_push_size _ rfl)⟩
      (fun b hb => hfresh b (by
        rcases List.mem_cons.mp hb with rfl | hb
        · rw [hD]; exact Nat.le_succ _
        · rcases List.mem_cons.mp hb with rfl | hb
          · rw [hC]; exact Nat.le_add_right _ 2
          · exact Nat.le_of_eq (List.mem_singleton.mp hb).symm))
      (fun hb => hID (List.mem_singleton.mp hb).symm) (fun hb => hIC (List.mem_singleton.mp hb).symm) hDC (fun b hb => by
        rcases List.mem_cons.mp hb with rfl | hb
        · exact ⟨hID, hIC⟩
        · cases List.mem_singleton.mp hb
          have := Heap.lt_size hoa
          exact ⟨Nat.ne_of_lt (by rw [hD]; exact Nat.lt_succ_of_lt this), Nat.ne_of_lt (by rw [hC]; exact Nat.lt_of_lt_of_le this (Nat.le_add_right _ 2))⟩)
      (fun h' tk m' G' hn kp low gh gC hl => hRR _ _ h' tk m' G' (hfresh _ (by rw [hD]; exact Nat.le_succ _)) (hfresh _ (by rw [hC]; exact Nat.le_add_right _ 2)) hDC hn kp low gh gC hl) tk
  exact codeAny_compStart_list (loop _) ((W A ok.1).self 0 _ _ _ hst₁ (loop _))

theorem src_of {h : Heap} {v : Value} {d : Dt} {ds : List Dt} (gh : InH G h) (i : Is w G v d) (hd : d = .list ds ∨ ∃ kvs, d = .dict kvs ∧ ds = kvs.map (·.1)) : Src prog w G h v ds := by
  rcases hd with rfl | ⟨kvs, rfl, rfl⟩
  · exact Src.list gh i
  · exact Src.dict gh i

theorem EvF.comp {elt target iter : Expr} {ifs : List Expr} {scope : Scope} {pos : Pos} {d : Dt} {ds : List Dt} (p : Dt → Bool) (f : Dt → Dt)
    (H : Ev prog w h₀ k sc ρ iter d) (hd : d = .list ds ∨ ∃ kvs, d = .dict kvs ∧ ds = kvs.map (·.1)) (hz : ds.length ≤ 5000) (S : CompScope sc scope)
    (body : CompBody prog w h₀ k sc scope ρ target ifs elt ds p f) (hs : autoParam (∀ env x, foldedSetIterable iter env x = pure x) aI._auto_1) :
    EvF prog w h₀ k sc ρ (.ListComp elt [⟨target, iter, ifs, 0⟩] scope pos) ((ds.filter p).map f) := .mk fun A G env s E ok R => by
  obtain ⟨cl, hclo, hcl⟩ := closure_D (scope := scope) (env := env) fun x hx hf => R.cells _ (S.free x hx hf)
  rw [eval_ListComp]
  refine wpAny_comprehension_free (use := none) rfl (hs env) hclo S.kind S.names ?_
  refine H.go ok R fun v h1 tk1 k1 i1 R1 => comp_start ok R1 (src_of R1.inh i1 hd) hz S hcl body fun D C h' tk m' G' hD hC hDC hn kp low gh gC hl => ?_
  refine ⟨m', hn, fun h'' s'' => PoF.thru (tk := tk1) k1 ?_⟩
  obtain ⟨ys, c, hy, iy⟩ := hl.obj
  have kb : Heap.ExtBut C h' h'' := s''.extBut
  have kp' : Kp h1 h'' := fun b o e => kb b o (by intro q; subst q; dsimp only at hC; rw [hC] at e; cases e) (kp b o e)
  have gh'' : InH G' h'' := in_but gh kb gC
  refine ⟨D, h'', tk, rfl, hD, rfl, kp', ?_⟩
  refine .list (vs := ys) (n := c) ?_ (iy.mono (low.to_exl gh''))
  show exl _ h1 h'' D = _
  unfold exl
  dsimp only at hD
  rw [hD]
  exact kb D _ hDC hy

end
end Mine
end

section
open PySem PySem.Spec PySem.Calls PyProof.Rows
namespace Mine
open scoped Classical

/-! Part R: texts, global names, calls -/

noncomputable def slash : Str := ⟨#[47]⟩

/-- what stands behind the last slash -/
noncomputable def tailOf (x : Str) : Str := ((Txt.split x slash).getLast?).getD x

theorem join_mem : ∀ {l : List Str} {p : Str} {c : Nat}, p ∈ l → c ∈ p.cps.toList → c ∈ (Str.join slash l).cps.toList
  | [x], p, c, hp, hc => by
    simp only [List.mem_singleton] at hp; subst hp; exact hc
  | x :: y :: r, p, c, hp, hc => by
    show c ∈ (x ++ slash ++ Str.join slash (y :: r)).cps.toList
    have e : ∀ a b : Str, (a ++ b).cps.toList = a.cps.toList ++ b.cps.toList := fun a b => by show (a.cps ++ b.cps).toList = _; simp
    rw [e, e]
    rcases List.mem_cons.mp hp with rfl | hp
    · exact List.mem_append_left _ (List.mem_append_left _ hc)
    · exact List.mem_append_right _ (join_mem hp hc)

theorem split_ok {x : Str} (hx : PyData.strOk x = true) : ∀ p ∈ Txt.split x slash, PyData.strOk p = true := by
  intro p hp
  unfold PyData.strOk at hx ⊢
  rw [Array.all_eq_true_iff_forall_mem] at hx ⊢
  intro c hc
  apply hx c
  have := join_mem hp (by simpa using hc)
  rw [show Str.join slash (Txt.split x slash) = x from StrLaws.join_split x slash] at this
  simpa using this

theorem append_cps (a b : Str) : (a ++ b).cps.toList = a.cps.toList ++ b.cps.toList := by show (a.cps ++ b.cps).toList = _; simp

theorem suffix_unique {a b : List Nat} {y z : List Nat} (hy : 47 ∉ y) (hz : 47 ∉ z) (h : a ++ 47 :: y = b ++ 47 :: z) : y = z := by
  rcases List.append_eq_append_iff.mp h with ⟨c, h1, h2⟩ | ⟨c, h1, h2⟩
  · cases c with
    | nil => simpa using h2
    | cons q r =>
      simp only [List.cons_append, List.cons.injEq] at h2
      obtain ⟨_, h2⟩ := h2
      exact absurd (h2 ▸ List.mem_append_right _ List.mem_cons_self) hy
  · cases c with
    | nil => simpa using h2.symm
    | cons q r =>
      simp only [List.cons_append, List.cons.injEq] at h2
      obtain ⟨_, h2⟩ := h2
      exact absurd (h2 ▸ List.mem_append_right _ List.mem_cons_self) hz

theorem last_of_join {z : Str} : ∀ {l : List Str}, l.getLast? = some z → (l = [z]) ∨ ∃ a, (Str.join slash l).cps.toList = a ++ 47 :: z.cps.toList
  | [x], h => by simp at h; subst h; exact .inl rfl
  | x :: y :: r, h => by
    right
    have h' : (y :: r).getLast? = some z := by simpa using h
    have e : (Str.join slash (x :: y :: r)).cps.toList = x.cps.toList ++ 47 :: (Str.join slash (y :: r)).cps.toList := by
      show (x ++ slash ++ Str.join slash (y :: r)).cps.toList = _
      rw [append_cps, append_cps]; simp [slash]
    rcases last_of_join h' with h1 | ⟨a, h1⟩
    · rw [e, h1]; exact ⟨x.cps.toList, rfl⟩
    · rw [e, h1]; exact ⟨x.cps.toList ++ 47 :: a, by simp⟩

theorem tailOf_eq {a b : Str} (hb : 47 ∉ b.cps.toList) : tailOf (a ++ slash ++ b) = b := by
  unfold tailOf
  have hj := StrLaws.join_split (a ++ slash ++ b) slash
  have hf := StrLaws.split_free (a ++ slash ++ b) 47
  have hx : (a ++ slash ++ b).cps.toList = a.cps.toList ++ 47 :: b.cps.toList := by rw [append_cps, append_cps]; simp [slash]
  cases q : (Txt.split (a ++ slash ++ b) slash).getLast? with
  | none =>
    rw [List.getLast?_eq_none_iff] at q
    rw [q] at hj
    have : (a ++ slash ++ b).cps.toList = [] := by rw [← hj]; rfl
    rw [hx] at this; simp at this
  | some z =>
    show z = b
    have hz := hf z (List.mem_of_getLast? q)
    rcases last_of_join q with h1 | ⟨c, h1⟩
    · rw [h1] at hj
      have : z = a ++ slash ++ b := hj
      rw [this, hx] at hz
      exact absurd (List.mem_append_right _ List.mem_cons_self) hz
    · rw [hj, hx] at h1
      have := suffix_unique hb hz h1
      have e : b.cps = z.cps := Array.toList_inj.mp this
      cases b; cases z; exact congrArg Str.mk e.symm

section
variable {prog : Program} {w : World} {h₀ : Heap} {sc : Scope} {ρ : List (Str × Dt)} {k : Nat} {G G' : Gh} {s : Shared} {env : Env} {A : Around} {E : Value → Shared → Prop}

theorem is_strs : ∀ (l : List (Str × Tok)), (∀ p ∈ l, PyData.strOk p.1 = true) → IsAll w G (strValues l) ((l.map (·.1)).map Dt.str)
  | [], _ => .nil
  | p :: r, h => .cons (.str _ _ (h p List.mem_cons_self)) (is_strs r fun q hq => h q (List.mem_cons_of_mem _ hq))

theorem split_D {x : Str} {t u : Tok} {Q : Value → Shared → Prop} (hx : PyData.strOk x = true) (hz : x.length ≤ 100000)
    (h : ∀ l tk, l.map (·.1) = Txt.split x slash → Q (.ref s.heap.objs.size) { s with heap := s.heap.push { cls := .type "list", data := .seq (strValues l).toArray }, toks := tk }) :
    wpAny (model prog w) A (call (.builtin "str.split") [.str x t, .str slash u]) Q E s := by
  have hn : (Builtin.Str.partsBetween x (Builtin.Str.occurrences x slash 0 x.length (x.length + 1)) slash.length).length ≤ sizeLine := by
    have e1 := StrLaws.occ_length_le x slash 0 x.length (x.length + 1)
    rw [length_partsBetween]; unfold sizeLine; lia
  cases h1 : (decide (x.length < slash.length) || decide (Builtin.Str.strKind x < Builtin.Str.strKind slash))
  · cases hf : (Builtin.Str.occurrences x slash 0 x.length (x.length + 1)).isEmpty
    · refine call_meets F.slot_str_split (typeIs_str _ _ _) F.entry_str_split (F.args_str_split_2 _ _) (meets_str_split_sep x slash t u h1 rfl hf (by unfold sizeLine; lia) hn) ?_
      show wants Q E _ { s with toks := _, heap := s.heap.push { cls := .type "list", data := .seq (strsFrom s.toks (Builtin.Str.partsBetween x (Builtin.Str.occurrences x slash 0 x.length (x.length + 1)) slash.length)).toArray } }
      rw [strsFrom_eq]
      exact h (numbered s.toks _) _ ((numbered_texts _ _).trans ((if_neg (ne_true_of_eq_false h1)).trans (if_neg (ne_true_of_eq_false hf))).symm)
    · exact call_meets F.slot_str_split (typeIs_str _ _ _) F.entry_str_split (F.args_str_split_2 _ _) (meets_str_split_not_found x slash t u h1 rfl hf)
        (h [(x, t)] s.toks ((if_neg (ne_true_of_eq_false h1)).trans (if_pos hf)).symm)
  · exact call_meets F.slot_str_split (typeIs_str _ _ _) F.entry_str_split (F.args_str_split_2 _ _) (meets_str_split_cannot_occur x slash t u h1)
      (h [(x, t)] s.toks (if_pos h1).symm)

end
end Mine
end

section
open PySem PySem.Spec PySem.Calls PyProof.Rows
namespace Mine
open scoped Classical

/-! Part S: names of the module, calls -/
section
variable {prog : Program} {w : World} {h₀ : Heap} {sc : Scope} {ρ : List (Str × Dt)} {k : Nat} {G G' : Gh} {s : Shared} {env : Env} {A : Around} {E : Value → Shared → Prop}

noncomputable def GVal (h₀ : Heap) (x : Str) (v : Value) : Prop := ∃ mg mb, h₀.Ns mainGlobals mg ∧ h₀.Ns builtinsNs mb ∧ (mg x = some v ∨ (mg x = none ∧ mb x = some v))

theorem gname_D {x : Str} {v : Value} {p : Pos} {Q : Value → Shared → Prop} (R : Rd w h₀ sc ρ G s.heap env) (hx : sc.names.lookup x = some .globalImplicit) (hv : GVal h₀ x v) (hd : (x == ("__debug__" : Str)) = false) (h : Q v s) :
    wpAny (model prog w) A (eval (.Name x p) env) Q E s := by
  refine nn fun hno_ => ?_
  obtain ⟨mg, mb, hg, hb, hm⟩ := hv
  refine hno_ ?_
  clear hno_
  refine Name_function_global (R.scope ▸ R.kind) (by unfold Env.kindOf; rw [R.scope]; exact hx) ?_ hd
  rcases hm with hm | ⟨h1, h2⟩
  · exact loadGlobal_global (R.glob ▸ hg.keeps R.keep) hm h
  · exact loadGlobal_builtin (R.glob ▸ hg.keeps R.keep) h1 (R.bi ▸ hb.keeps R.keep) h2 h

theorem Ev.gstr {x y : Str} {t : Tok} {p : Pos} (hv : GVal h₀ x (.str y t)) (hy : PyData.strOk y = true) (hx : sc.names.lookup x = some .globalImplicit) (hd : autoParam ((x == ("__debug__" : Str)) = false) aD._auto_1) :
    Ev prog w h₀ k sc ρ (.Name x p) (.str y) := .mk fun _ _ _ s _ _ R => gname_D R hx hv hd (Po.val (tk := s.toks) (Kp.refl s.heap) (.str y t hy))

noncomputable def Callee (h₀ : Heap) (f : Value) : Prop := (∃ id, f = .builtin id) ∨ (∃ T, f = .type T) ∨ (∃ a o fd, f = .ref a ∧ h₀.get? a = some o ∧ o.data = .func fd)

structure Cl (prog : Program) (w : World) (h₀ : Heap) (k : Nat) (f : Value) (ds : List Dt) (d : Dt) : Prop where
  run :
    ∀ (A : Around) (G : Gh) (s : Shared) (E : Value → Shared → Prop) (vs : List Value), Ok A k → InH G s.heap → Kp h₀ s.heap → IsAll w G vs ds → wpAny (model prog w) A (call f vs) (Po w G s d) E s
structure ClF (prog : Program) (w : World) (h₀ : Heap) (k : Nat) (f : Value) (ds : List Dt) (rs : List Dt) : Prop where
  run :
    ∀ (A : Around) (G : Gh) (s : Shared) (E : Value → Shared → Prop) (vs : List Value), Ok A k → InH G s.heap → Kp h₀ s.heap → IsAll w G vs ds → wpAny (model prog w) A (call f vs) (PoF w G s rs) E s
theorem ClF.cl {f : Value} {ds rs : List Dt} (H : ClF prog w h₀ k f ds rs) : Cl prog w h₀ k f ds (.list rs) := .mk fun A G s E vs ok gh kp i =>
  wpAny_mono (H.run A G s E vs ok gh kp i) (fun _ _ ⟨_, h', tk, e1, _, e2, kp, i⟩ => ⟨h', tk, e2, kp, e1 ▸ i⟩) fun _ _ e => e

theorem callW_D {f : Value} {e : Expr} {es : List Expr} {pos : Pos} {Q : Value → Shared → Prop} (hf : Callee h₀ f)
    (h : wpAny (model prog w) A (spliced (backTo pos (starEach (e :: es) env))) (fun vs s₁ => Kp h₀ s₁.heap ∧ wpAny (model prog w) A (call f vs) Q E s₁) E s)
    (he : starEach (e :: es) env = (false, eval e env) :: starEach es env) (hp : ((backTo pos (starEach es env)).any fun x => x.1) = false) : wpAny (model prog w) A (callWith pos f [] (backTo pos (starEach (e :: es) env)) []) Q E s := by
  rcases hf with ⟨id, rfl⟩ | ⟨T, rfl⟩ | ⟨a, o, fd, rfl, ho, hd⟩
  · exact PyProof.Rows.callWith_builtin1 (hplain := hp) (wpAny_mono h (fun _ _ x => x.2) fun _ _ e => e) he
  · exact PyProof.Rows.callWith_type1 (hplain := hp) (wpAny_mono h (fun _ _ x => x.2) fun _ _ e => e) he
  · exact callWith_def hd (wpAny_mono h (fun _ _ x => ⟨x.1 _ _ ho, x.2⟩) fun _ _ e => e) he

theorem Evs.go {es : List Expr} {ds : List Dt} {pos : Pos} {Q : List Value → Shared → Prop} (H : Evs prog w h₀ k sc ρ es ds) (ok : Ok A k) (R : Rd w h₀ sc ρ G s.heap env)
    (c : ∀ vs h' tk, Kp s.heap h' → IsAll w (exl G s.heap h') vs ds → Rd w h₀ sc ρ (exl G s.heap h') h' env → Q vs { s with heap := h', toks := tk }) :
    wpAny (model prog w) A (spliced (backTo pos (starEach es env))) Q E s :=
  wpAny_mono (H.run A G env s E pos ok R) (fun vs s' ⟨h', tk, e, kp, i⟩ => by subst e; exact c vs h' tk kp i (R.step kp)) fun _ _ e => e

theorem Ev.call {x : Str} {np pos : Pos} {e : Expr} {es : List Expr} {f : Value} {ds : List Dt} {d : Dt} (hv : GVal h₀ x f) (hf : Callee h₀ f) (H : Evs prog w h₀ k sc ρ (e :: es) ds) (C : Cl prog w h₀ k f ds d)
    (hx : autoParam (sc.names.lookup x = some .globalImplicit) aR._auto_1) (hd : autoParam ((x == ("__debug__" : Str)) = false) aD._auto_1)
    (he : autoParam (starred e = false) aR._auto_1) (hp : autoParam ((es.all fun e => !starred e) = true) aR._auto_1) : Ev prog w h₀ k sc ρ (.Call (.Name x np) (e :: es) [] pos) d := .mk fun A G env s E ok R =>
  wpAny_Call_ofName (gname_D R hx hv hd (callW_D hf (H.go ok R fun vs h1 tk k1 i1 R1 => ⟨R1.keep, wpAny_mono (C.run A _ _ E vs ok R1.inh R1.keep i1) (fun _ _ p => Po.thru k1 p) fun _ _ e => e⟩) (star_cons he) (star_none hp)))
theorem EvF.call {x : Str} {np pos : Pos} {e : Expr} {es : List Expr} {f : Value} {ds : List Dt} {d : List Dt} (hv : GVal h₀ x f) (hf : Callee h₀ f) (H : Evs prog w h₀ k sc ρ (e :: es) ds) (C : ClF prog w h₀ k f ds d)
    (hx : autoParam (sc.names.lookup x = some .globalImplicit) aR._auto_1) (hd : autoParam ((x == ("__debug__" : Str)) = false) aD._auto_1)
    (he : autoParam (starred e = false) aR._auto_1) (hp : autoParam ((es.all fun e => !starred e) = true) aR._auto_1) : EvF prog w h₀ k sc ρ (.Call (.Name x np) (e :: es) [] pos) d := .mk fun A G env s E ok R =>
  wpAny_Call_ofName (gname_D R hx hv hd (callW_D hf (H.go ok R fun vs h1 tk k1 i1 R1 => ⟨R1.keep, wpAny_mono (C.run A _ _ E vs ok R1.inh R1.keep i1) (fun _ _ p => PoF.thru k1 p) fun _ _ e => e⟩) (star_cons he) (star_none hp)))

/-! methods of the built-in types -/
noncomputable def Mt (prog : Program) (w : World) (h₀ : Heap) (k : Nat) (name : Str) (d : Dt) (ds : List Dt) (r : Dt) : Prop :=
  ∃ T id, PlainAttrs T ∧ Slot T name id ∧ typeOf (.builtin id) = pure (.type "method_descriptor") ∧
    (∀ (G : Gh) (s : Shared) v, InH G s.heap → Is w G v d → s.TypeIs v T ∧ (∀ a, v = .ref a → ∃ o, s.heap.get? a = some o ∧ o.dict = none)) ∧
    ∀ (A : Around) (G : Gh) (s : Shared) (E : Value → Shared → Prop) (v : Value) (vs : List Value), Ok A k → InH G s.heap → Kp h₀ s.heap → Is w G v d → IsAll w G vs ds → wpAny (model prog w) A (call (.builtin id) (v :: vs)) (Po w G s r) E s

theorem Ev.meth {o e : Expr} {name : Str} {apos pos : Pos} {es : List Expr} {d r : Dt} {ds : List Dt} (H : Ev prog w h₀ k sc ρ o d) (J : Evs prog w h₀ k sc ρ (e :: es) ds) (M : Mt prog w h₀ k name d ds r)
    (hb : autoParam (∀ env w, attributeBase o name env w = w) aI._auto_1)
    (hl : autoParam (es.length < 28) aD._auto_1)
    (hline : autoParam ((apos.endLine == pos.line) = true) aR._auto_1)
    (he : autoParam (starred e = false) aR._auto_1) (hp : autoParam ((es.all fun e => !starred e) = true) aR._auto_1) : Ev prog w h₀ k sc ρ (.Call (.Attribute o name apos) (e :: es) [] pos) r := .mk fun A G env s E ok R => by
  refine nn fun hno_ => ?_
  obtain ⟨T, id, pa, sl, ty, hT, hc⟩ := M
  refine hno_ ?_
  clear hno_
  refine wpAny_Call_method_late (hb env _) (by rw [back_all (by rw [List.all_cons, he, hp]; rfl)]; exact decide_eq_true (show es.length + 1 + 0 + 0 < 30 by lia)) hline rfl (H.go ok R fun v h1 tk1 k1 i1 R1 => ?_)
  obtain ⟨t1, t2⟩ := hT _ { s with heap := h1, toks := tk1 } v R1.inh i1
  refine ⟨T, id, pa, sl, ty, t1, t2, callWith_method1 (hplain := star_none hp) (J.go ok R1 fun vs h2 tk2 k2 i2 R2 => ?_) (star_cons he)⟩
  exact wpAny_mono (hc A _ _ E v vs ok R2.inh R2.keep (i1.mono (sub_exl (R1.inh.kp k2))) i2) (fun _ _ p => Po.thru k1 (Po.thru k2 p)) fun _ _ e => e

theorem Mt.split {x : Str} (hx : PyData.strOk x = true) (hz : x.length ≤ 100000) : Mt prog w h₀ k "split" (.str x) [.str slash] (.list ((Txt.split x slash).map .str)) := by
  refine ⟨"str", "str.split", F.plainAttrs_str, F.slot_str_split, F.type_str_split, fun G s v gh i => ?_, fun A G s E v vs ok gh kp i j => ?_⟩
  · cases i; exact ⟨typeIs_str _ _ _, fun _ e => nomatch e⟩
  · cases i
    cases j with
    | cons j jn =>
      cases j; cases jn
      refine split_D hx hz fun l tk e => Po.val (Kp.push _ _) ?_
      rw [← e]
      have := is_new_lst (h' := s.heap) (h := s.heap) (G := G) (c := 0) (Kp.refl _) (is_strs (w := w) (G := exl G s.heap s.heap) l fun p hp => split_ok hx _ (by rw [← e]; exact List.mem_map.mpr ⟨p, hp, rfl⟩))
      exact this

theorem Mt.get {kvs : List (Dt × Dt)} {key dflt : Dt} (hh : hk 6 key = true) : Mt prog w h₀ k "get" (.dict kvs) [key, dflt] ((dget kvs key).getD dflt) := by
  refine ⟨"dict", "dict.get", F.plainAttrs_dict, F.slot_dict_get, F.type_dict_get, fun G s v gh i => ?_, fun A G s E v vs ok gh kp i j => ?_⟩
  · cases i with | dict ha hm hs hn => exact ⟨⟨_, gh _ _ ha, rfl⟩, fun a e => by cases e; exact ⟨_, gh _ _ ha, rfl⟩⟩
  · cases i with
    | dict ha hm hs hn =>
      cases j with
      | cons j1 j =>
        cases j with
        | cons j2 j =>
          cases j
          refine dictGet2_D gh (ok.u 100 (by lia)) (DAt.of_is gh (.dict ha hm hs hn)) hh j1 fun r tk hr => Po.val (Kp.refl _) ?_
          cases q : dget kvs key with
          | none => rw [q] at hr; dsimp only at hr; subst hr; exact j2.mono (sub_exl gh)
          | some d => rw [q] at hr; exact hr.mono (sub_exl gh)

end
end Mine
end

section
open PySem PySem.Spec PySem.Calls PyProof.Rows
namespace Mine
open scoped Classical

/-! Part T: dict(list of pairs) -/
section
variable {prog : Program} {w : World} {h₀ : Heap} {sc : Scope} {ρ : List (Str × Dt)} {k : Nat} {G G' : Gh} {s : Shared} {env : Env} {A : Around} {E : Value → Shared → Prop}

theorem no_keys_list : typeLookup (.type "list") "keys" = pure none := by rw [typeLookup_type, builtinLookup_eq_fast]; kernel_rfl

set_option maxRecDepth 100000 in
theorem keys_miss {a : Addr} {xs : Array Value} {c : Nat} {Q : Option Value → Shared → Prop} (hx : s.heap.get? a = some (lstObj xs c)) (hA : A.handled = none)
    (h : ∀ h' tk, Kp s.heap h' → Q none { s with heap := h', toks := tk }) : wpAny (model prog w) A (getAttr? (.ref a) "keys") Q E s := by
  obtain ⟨hp, g, d, tk, os⟩ := s
  have hT : ∀ tk', (⟨hp, g, d, tk', os⟩ : Shared).TypeIs (.ref a) "list" := fun _ => ⟨_, hx, rfl⟩
  have f1 := sub_AttributeError
  have f3 := PySem.F.slot_list_getattribute.lookup
  have f4 := PySem.F.slot_list_getattribute.bind (.ref a)
  have f5 := am_list_getattr_none
  unfold getAttr? getAttrBy? getAttrBy
  repeat (any_goals (first | assumption | exact hT _ | ((with_reducible show wpAny _ _ (call (Value.builtin "list.__getattribute__") _ _) _ _ _); refine call_meets PySem.F.slot_list_getattribute (hT _) am_entry_list_getattribute (PySem.F.args_list_getattribute_2 _ _) (meets_getattribute_miss_list a xs c #[] "keys" _ no_keys_list (by decide) (by size_fits)) ⟨hx, hA, fun h' tk' e hx' => ?_⟩) | wp_step))
  refine nn fun hno_ => ?_
  obtain ⟨t', u', he⟩ := hx'.there
  refine hno_ ?_
  clear hno_
  show wpAny _ _ (getattributeRaised _ _ _ _ _ _ _) _ _ _
  unfold getattributeRaised
  repeat (any_goals (first | assumption | wp_step))
  exact h _ _ hx'.keeps

theorem entry_dul : entryFor table "dict.update.loop" = some Builtin.«dict.update.loop» := entryFor_of_tree (by kernel_rfl)
theorem plain_dul : plainId "dict.update.loop" = true := by decide +kernel

theorem pairItems_D {a : Addr} {x y : Value} {c : Nat} {Q : List Value → Shared → Prop} (ht : s.heap.get? a = some (tupObj #[x, y] c)) (h : Q [x, y] s) : wpAny (model prog w) A (Builtin.Dict.pairItems (.ref a)) Q E s := by
  have hT : s.TypeIs (.ref a) "tuple" := ⟨_, ht, rfl⟩
  unfold Builtin.Dict.pairItems
  refine wpAny_bind (wpAny_typeOf hT ?_)
  rw [if_pos (by decide)]
  exact wpAny_bind (wpAny_seqItems ht rfl (wpAny_pure h))

noncomputable def ofPairs (kvs : List (Dt × Dt)) (ps : List (Dt × Dt)) : List (Dt × Dt) := ps.foldl (fun m p => dset m p.1 p.2) kvs

theorem dict_loop {ps : List (Dt × Dt)} {D I a : Addr} {P : Nat → Value → Prop} {St : Nat → Heap → Prop} {R : Result → Shared → Prop}
    (W : Walks prog w A.in1 I [I, a] [I] ps.length P St) (hP : ∀ i u, P i u → ∃ d, (ps.map fun p => Dt.tup [p.1, p.2])[i]? = some d ∧ Is w G u d) (hk : ∀ p ∈ ps, hk 6 p.1 = true) (hA : A.units + 80 < cLine) (hz : ps.length ≤ 4000)
    (hDI : D ≠ I) (hDa : D ≠ a) (gD : G D = none) (gI : G I = none) :
    ∀ (j i : Nat) (s : Shared) (kvs : List (Dt × Dt)), ps.length - i = j → i ≤ ps.length → St i s.heap → InH G s.heap → DAt w G s.heap D kvs → kvs.length ≤ i →
      (∀ h' tk, (∀ b o, b ≠ D → b ≠ I → s.heap.get? b = some o → h'.get? b = some o) → DAt w G h' D (ofPairs kvs (ps.drop i)) → InH G h' → R (.ok (.ret .none)) { s with heap := h', toks := tk }) →
      codeAny (model prog w) A (.builtin "dict.update.loop" ⟨[.ref D, .ref I, rawInt i, .none], []⟩) R s := by
  intro j
  induction j with
  | zero =>
    intro i s kvs hj hi hst gh hD hl hR
    have hin : i = ps.length := by lia
    subst hin
    refine codeAny_builtin entry_dul ?_
    rw [Around.under_plainId plain_dul _]
    show wpAny _ A.in1 (pyNext (.ref I) >>= _) _ _ s
    refine wpAny_bind (W.done s _ _ hst fun h1 tk1 k1 => ?_)
    have b1 : Heap.ExtBut I s.heap h1 := fun b o hb e => k1 b o (by simpa using hb) e
    show wpAny _ A.in1 (Builtin.Dict.addKeywords D [] >>= _) _ _ _
    refine wpAny_bind (wpAny_pure (wpAny_pure ?_))
    refine hR h1 tk1 (fun b o _ hb e => b1 b o hb e) ?_ (in_but gh b1 gI)
    rw [List.drop_length]
    exact hD.mono (fun _ _ e => e) fun o e => b1 D o hDI e
  | succ j ih =>
    intro i s kvs hj hi hst gh hD hl hR
    have hlt : i < ps.length := by lia
    refine codeAny_builtin entry_dul ?_
    rw [Around.under_plainId plain_dul _]
    show wpAny _ A.in1 (pyNext (.ref I) >>= _) _ _ s
    refine wpAny_bind (W.item i s _ _ hlt hst fun v h1 tk1 hPv st1 k1 => ?_)
    have b1 : Heap.ExtBut I s.heap h1 := fun b o hb e => k1 b o (by simpa using hb) e
    have gh1 := in_but gh b1 gI
    have hD1 : DAt w G h1 D kvs := hD.mono (fun _ _ e => e) fun o e => b1 D o hDI e
    refine nn fun hno_ => ?_
    obtain ⟨d, hd, iv⟩ := hP i v hPv
    refine hno_ ?_
    clear hno_
    rw [List.getElem?_map, List.getElem?_eq_getElem hlt] at hd
    simp only [Option.map_some, Option.some.injEq] at hd
    subst hd
    cases iv with
    | @tup t vs c _ ha hs =>
      obtain ⟨vl⟩ := vs
      cases hs with
      | cons i1 hs =>
        cases hs with
        | cons i2 hs =>
          cases hs
          refine wpAny_bind (wpAny_holding (wpAny_bind (wpAny_tryCatch (pairItems_D (gh1 _ _ ha) ?_))))
          show wpAny _ A.in1 (holding _ (dictSet D _ _)) _ _ _
          refine wpAny_holding (dictSet_D gh1 (by show A.units + 1 + 64 < cLine; lia) hD1 (hk _ (List.getElem_mem hlt)) i1 i2 (by lia) fun h2 tk2 hD2 s2 => ?_)
          refine wpAny_pure ⟨plainId_quiet plain_dul _, ih (i + 1) _ _ (by lia) hlt (W.frame _ _ _ st1 fun b hb o e => ?_) (in_but gh1 s2.extBut gD) hD2 (Nat.le_trans (length_dset _ _ _) (by lia)) fun h3 tk3 k3 hD3 gh3 => ?_⟩
          · refine s2.extBut b o ?_ e
            simp only [List.mem_cons, List.not_mem_nil, or_false] at hb
            rcases hb with rfl | rfl
            · exact Ne.symm hDI
            · exact Ne.symm hDa
          · refine hR h3 tk3 (fun b o hb1 hb2 e => k3 b o hb1 hb2 (s2.extBut b o hb1 (b1 b o hb2 e))) ?_ gh3
            rw [List.drop_eq_getElem_cons hlt]
            exact hD3
end
end Mine
end

section
open PySem PySem.Spec PySem.Calls PyProof.Rows
namespace Mine
open scoped Classical

/-! Part U: built-in callables -/
section
variable {prog : Program} {w : World} {h₀ : Heap} {sc : Scope} {ρ : List (Str × Dt)} {k : Nat} {G G' : Gh} {s : Shared} {env : Env} {A : Around} {E : Value → Shared → Prop}

theorem LAt.now {h h' : Heap} {D : Addr} {ds : List Dt} (x : LAt w G h' D ds) (k : Kp h h') (gh : InH G h) (hD : h.get? D = none) : Is w (exl G h h') (.ref D) (.list ds) := by
  refine nn fun hno_ => ?_
  obtain ⟨vs, n, hv, i⟩ := x.obj
  refine hno_ ?_
  clear hno_
  exact .list (vs := vs) (n := n) (by unfold exl; rw [hD]; exact hv) (i.mono (sub_exl (gh.kp k)))

theorem ClF.sorted_list {ds : List Dt} (so : SortOk ds) (hz : ds.length < 64) : ClF prog w h₀ k (.builtin "sorted") [.list ds] (isort ds) := .mk fun A G s E vs ok gh kp i => by
  cases i with
  | @cons v _ _ _ i j =>
    cases j
    cases v with
    | ref a =>
      have hL := LAt.of_is gh i
      refine sortedOf_D (fun Q' h => collectList_D hL (by lia) h) so gh hz (ok.u 80 (by lia)) fun D h' tk kp' hD hl => ?_
      exact ⟨D, h', tk, rfl, heap_none hD, rfl, kp'.kp, hl.now kp'.kp gh (heap_none hD)⟩
    | _ => cases i

theorem ClF.sorted_dict {kvs : List (Dt × Dt)} (so : SortOk (kvs.map (·.1))) (hz : kvs.length < 64) : ClF prog w h₀ k (.builtin "sorted") [.dict kvs] (isort (kvs.map (·.1))) := .mk fun A G s E vs ok gh kp i => by
  cases i with
  | @cons v _ _ _ i j =>
    cases j
    cases v with
    | ref a =>
      have hL := DAt.of_is gh i
      refine sortedOf_D (fun Q' h => collectDict_D (A := A.in1) ok.1 hL (by lia) h) so gh (by rw [List.length_map]; exact hz) (ok.u 80 (by lia)) fun D h' tk kp' hD hl => ?_
      exact ⟨D, h', tk, rfl, heap_none hD, rfl, kp'.kp, hl.now kp'.kp gh (heap_none hD)⟩
    | _ => cases i

theorem ClF.list_dict {kvs : List (Dt × Dt)} (hz : kvs.length ≤ 5000) : ClF prog w h₀ k (.type "list") [.dict kvs] (kvs.map (·.1)) := .mk fun A G s E vs ok gh kp i => by
  cases i with
  | @cons v _ _ _ i j =>
    cases j
    cases v with
    | ref a =>
      have hL := DAt.of_is gh i
      exact listOfDict_D ok.1 hL hz fun h' tk kp' hl => ⟨_, h', tk, rfl, heap_none (Nat.le_refl _), rfl, kp'.kp, hl.now kp'.kp gh (heap_none (Nat.le_refl _))⟩
    | _ => cases i

theorem Cl.len_list {ds : List Dt} (hz : ds.length ≤ 5000) : Cl prog w h₀ k (.builtin "len") [.list ds] (.int ds.length) := .mk fun A G s E vs ok gh kp i => by
  cases i with
  | @cons v _ _ _ i j =>
    cases j
    cases i with
    | @list a us n _ ha hs =>
      have e := hs.length
      simp only [Array.length_toList] at e
      refine PySem.Calls.call_len_list ⟨_, gh _ _ ha, rfl, n, rfl⟩ (by lia) ?_
      rw [e]
      exact Po.val (Kp.refl s.heap) (.int _ _)

theorem Cl.tuple {ds : List Dt} (hz : ds.length ≤ 5000) : Cl prog w h₀ k (.type "tuple") [.list ds] (.tup ds) := .mk fun A G s E vs ok gh kp i => by
  cases i with
  | @cons v _ _ _ i j =>
    cases j
    cases i with
    | @list a us n _ ha hs =>
      have e := hs.length
      simp only [Array.length_toList] at e
      refine call_tuple_list ⟨_, gh _ _ ha, rfl, n, rfl⟩ (fun h' hk => ?_) (by unfold sizeLine; lia)
      refine Po.val (tk := s.toks) (Kp.trans hk (Kp.push _ _)) ?_
      have := is_new_tup (h := s.heap) (h' := h') (G := G) (c := 0) hk (hs.mono (sub_exl (gh.kp hk)))
      simpa using this

theorem Cl.min2 {a b : Int} : Cl prog w h₀ k (.builtin "min") [.int a, .int b] (.int (if b < a then b else a)) := .mk fun A G s E vs ok gh kp i => by
  cases i with
  | @cons v _ _ _ i j =>
    cases j with
    | cons j l =>
      cases l; cases i; cases j
      refine min_two_ints ok.1 fun h' tk hk => Po.val hk ?_
      split <;> exact .int _ _

theorem argBest_le (bt : Nat → Nat → Bool) : ∀ k, argBest bt k ≤ k
  | 0 => Nat.le_refl _
  | k + 1 => by
    cases h : bt (k + 1) (argBest bt k) with
    | true => exact Nat.le_of_eq (if_pos h)
    | false => exact Nat.le_trans (Nat.le_of_eq (show argBest bt (k + 1) = argBest bt k from if_neg (by rw [h]; decide))) (Nat.le_succ_of_le (argBest_le bt k))

noncomputable def bestBt (ds : List Dt) (i j : Nat) : Bool := decide (enE (ds.getD i .none) < enE (ds.getD j .none))
theorem getD_of {ds : List Dt} {i : Nat} {x : Dt} (h : ds[i]? = some x) : ds.getD i .none = x := by rw [List.getD_eq_getElem?_getD, h]; rfl
theorem bestBt_eq {ds : List Dt} {i j : Nat} {x y : Dt} (hx : ds[i]? = some x) (hy : ds[j]? = some y) : bestBt ds i j = decide (enE x < enE y) := by unfold bestBt; rw [getD_of hx, getD_of hy]
/-- the best of the first n -/
theorem best_of {ds : List Dt} : ∀ n, n < ds.length → ∀ j, j ≤ n → ¬ enE (ds.getD j .none) < enE (ds.getD (argBest (bestBt ds) n) .none)
  | 0, _, j, hj => by cases Nat.le_zero.mp hj; exact List.lt_irrefl _
  | n + 1, hn, j, hj => by
    have ih := best_of n (Nat.lt_of_succ_lt hn)
    by_cases c : enE (ds.getD (n + 1) .none) < enE (ds.getD (argBest (bestBt ds) n) .none)
    · rw [show argBest (bestBt ds) (n + 1) = n + 1 from if_pos (decide_eq_true c)]
      exact (Nat.lt_or_eq_of_le hj).elim (fun h1 h2 => ih j (Nat.le_of_lt_succ h1) (List.lt_trans h2 c)) (fun e => e ▸ List.lt_irrefl _)
    · rw [show argBest (bestBt ds) (n + 1) = argBest (bestBt ds) n from if_neg fun e => c (of_decide_eq_true e)]
      exact (Nat.lt_or_eq_of_le hj).elim (fun h1 => ih j (Nat.le_of_lt_succ h1)) (fun e => e ▸ c)
theorem eq_of_le {m d : Dt} (hm : isStr m = true) (hd : isStr d = true) (h : leD m d = true) (b : ¬ enE m < enE d) : m = d := by
  obtain ⟨y, rfl⟩ := isStr_inv hm
  obtain ⟨x, rfl⟩ := isStr_inv hd
  have h : ¬ ([enE (.str x)] < [enE (.str y)]) := by unfold leD at h; rw [Bool.not_eq_true', decide_eq_false_iff_not] at h; exact h
  exact enE_inj rfl rfl (List.le_antisymm (List.not_lt.mp fun c => h (List.cons_lt_cons_iff.mpr (.inl c))) (List.not_lt.mp b))
/-- the least of texts -/
theorem Cl.min_strs {ds : List Dt} {m : Dt} (hm : m ∈ ds) (hs : ∀ d ∈ ds, isStr d = true) (hl : ∀ d ∈ ds, leD m d = true) (hz : ds.length ≤ 5000) : Cl prog w h₀ k (.builtin "min") [.list ds] m := .mk fun A G s E vs ok gh kp i => by
  obtain ⟨v, rfl, iv⟩ := i.one
  have src := Src.list (prog := prog) gh iv
  refine nn fun no => ?_
  obtain ⟨a, oI, P, St, ⟨oa, hoa, _⟩, hfr, hit, W, hst, hP, hq⟩ := src
  refine no ?_
  clear no
  have hpos : 0 < ds.length := List.length_pos_of_mem hm
  refine call_min_walk (hit A.in1 s E _ rfl ⟨_, [s.heap.objs.size, a], [s.heap.objs.size], ds.length, P, St, bestBt ds, rfl, W A.in1 ok.1, hst, fun b hb => ?_, hpos, ?_, ?_⟩)
  · show b < (s.heap.push oI).objs.size
    rw [Heap.size_push]
    rcases List.mem_cons.mp hb with e | hb
    · exact e ▸ Nat.lt_succ_self _
    · exact List.mem_singleton.mp hb ▸ Nat.lt_succ_of_lt (Heap.lt_size hoa)
  · intro i j vi vj s' Q' E' hi hj hQ
    obtain ⟨x, hx, ix⟩ := hP i vi hi
    obtain ⟨y, hy, iy⟩ := hP j vj hj
    rw [bestBt_eq hx hy] at hQ
    obtain ⟨x, rfl⟩ := isStr_inv (hs x (List.mem_of_getElem? hx))
    obtain ⟨y, rfl⟩ := isStr_inv (hs y (List.mem_of_getElem? hy))
    obtain ⟨t, rfl, _⟩ := ix.inv
    obtain ⟨u, rfl, _⟩ := iy.inv
    rw [lt_strs] at hQ
    exact richCompare_gives (op := .Lt) (typeIs_str _ _ _) (typeIs_str _ _ _) PySem.F.slot_str_lt PySem.F.entry_str_lt (PySem.F.args_str_lt_2 _ _) (gives_str_lt _ _ _ _) (fun x => nomatch x) hQ
  · intro u h' tk hPu hk
    have kp' : Kp s.heap h' := fun b o e => hk b o (fun hb => Nat.lt_irrefl _ (List.mem_singleton.mp hb ▸ Heap.lt_size e)) (Heap.get?_push_of_some _ e)
    refine Po.val kp' ?_
    obtain ⟨d, hd, iu⟩ := hP _ _ hPu
    obtain ⟨j, hj, hmj⟩ := List.getElem_of_mem hm
    have hd' := List.mem_of_getElem? hd
    have b1 := best_of (ds.length - 1) (Nat.sub_lt hpos Nat.one_pos) j (Nat.le_sub_one_of_lt hj)
    rw [getD_of hd, getD_of (List.getElem?_eq_getElem hj), hmj] at b1
    rw [eq_of_le (hs m hm) (hs d hd') (hl d hd') b1]
    exact iu.mono (sub_exl (gh.kp kp'))
end
end Mine
end

section
open PySem PySem.Spec PySem.Calls PyProof.Rows
namespace Mine
open scoped Classical

/-! Part V: the frame of a call -/
/-- the dict at a: three texts for keys, two dicts and an int by address and value -/
noncomputable def TopO (w : World) (h : Heap) (a af st : Addr) (last : Int) : Prop :=
  a ≠ sysModules ∧ ∃ es c t1 t2 t3 t4, h.get? a = some (dicObj es c) ∧ es.toList = [⟨hashD w (.str "folders"), .str "folders" t1, .ref af⟩, ⟨hashD w (.str "states"), .str "states" t2, .ref st⟩, ⟨hashD w (.str "last"), .str "last" t3, .int last t4⟩]
noncomputable def intOf (p : Str × Dt) : Int := match p.2 with
  | .int i => i
  | _ => 0
inductive IAt (w : World) (h : Heap) (a C : Addr) (fs : List (Str × Dt)) : Prop
  | one {i : Int} (hf : fs.map intOf = [i]) (ho : h.get? a = some ⟨.ref C, some i.toNat, .plain, #[]⟩) (ha : a = i.toNat + 1)
  | top {af st last : Int} (hf : fs.map intOf = [af, st, last]) (ha : a = C) (ho : TopO w h a af.toNat st.toNat last)
noncomputable def OAt (w : World) (G : Gh) (h : Heap) (a : Addr) : Dt → Prop
  | .list ds => LAt w G h a ds
  | .dict kvs => DAt w G h a kvs
  | .inst C fs => IAt w h a C fs
  | _ => False
theorem IAt.live {w : World} {h : Heap} {a C : Addr} {fs : List (Str × Dt)} (x : IAt w h a C fs) : ∃ o, h.get? a = some o ∧ ∀ h', h'.get? a = some o → IAt w h' a C fs := by
  cases x with
  | one h0 h1 h2 => exact ⟨_, h1, fun h' e => .one h0 e h2⟩
  | top h0 h1 h2 =>
    obtain ⟨h2, es, c, t1, t2, t3, t4, h3, h4⟩ := h2
    exact ⟨_, h3, fun h' e => .top h0 h1 ⟨h2, es, c, t1, t2, t3, t4, e, h4⟩⟩
theorem IAt.of {w : World} {h : Heap} {a C : Addr} {x : Str} {n : Nat} (q : IAt w h a C [(x, .int n)]) : h.get? a = some ⟨.ref C, some n, .plain, #[]⟩ ∧ a = n + 1 := by
  cases q with
  | one h0 h1 h2 =>
    obtain rfl : (n : Int) = _ := (List.cons.inj h0).1
    exact ⟨h1, h2⟩
  | top h0 => exact absurd (List.cons.inj h0).2 (List.cons_ne_nil _ _).symm
theorem IAt.of3 {w : World} {h : Heap} {a C : Addr} {x y z : Str} {n m : Nat} {l : Int} (q : IAt w h a C [(x, .int n), (y, .int m), (z, .int l)]) : a = C ∧ TopO w h a n m l := by
  cases q with
  | one h0 => exact absurd (List.cons.inj h0).2 (List.cons_ne_nil _ _)
  | top h0 h1 h2 =>
    have e := List.cons.inj h0
    have e2 := List.cons.inj e.2
    obtain rfl : (n : Int) = _ := e.1
    obtain rfl : (m : Int) = _ := e2.1
    obtain rfl : l = _ := (List.cons.inj e2.2).1
    exact ⟨h1, h2⟩
theorem OAt.mono {w : World} {G G' : Gh} {h h' : Heap} {a : Addr} {d : Dt} (x : OAt w G h a d) (s : Sub G G') (k : ∀ o, h.get? a = some o → h'.get? a = some o) : OAt w G' h' a d := by
  cases d <;> first | exact LAt.mono x s k | exact DAt.mono x s k | exact (let ⟨o, h1, h2⟩ := IAt.live x; h2 _ (k o h1)) | exact x.elim
theorem OAt.live {w : World} {G : Gh} {h : Heap} {a : Addr} {d : Dt} (x : OAt w G h a d) : ∃ o, h.get? a = some o := by
  cases d with
  | list ds => obtain ⟨vs, n, e, _⟩ := LAt.obj x; exact ⟨_, e⟩
  | dict kvs => obtain ⟨vs, n, e, _⟩ := DAt.obj x; exact ⟨_, e⟩
  | inst C fs => obtain ⟨o, h1, _⟩ := IAt.live x; exact ⟨o, h1⟩
  | _ => exact x.elim

theorem ns_det {h : Heap} {L : Addr} {m m' : Str → Option Value} (x : h.Ns L m) (y : h.Ns L m') : m = m' := by
  obtain ⟨o, es, ep, ho, hd, _, hf⟩ := x
  obtain ⟨o', es', ep', ho', hd', _, hf'⟩ := y
  rw [ho] at ho'; cases ho'
  rw [hd] at hd'; cases hd'
  funext n; rw [← hf n, ← hf' n]

structure CellIs (F G : Gh) (h : Heap) (env : Env) (c : Addr) : Prop where
  f : F c = none
  g : G c = none
  nl : c ≠ env.locals
  ex : ∃ v, h.IsCell c v
structure OwnIs (w : World) (F G : Gh) (h : Heap) (env : Env) (x : Str) (d : Dt) (a : Addr) : Prop where
  hat : At h env x (.ref a)
  o : OAt w G h a d
  g : G a = none
  f : F a = none
  nl : a ≠ env.locals
  nc : ∀ y c, env.cells.lookup y = some c → a ≠ c
structure Fs (w : World) (h₀ : Heap) (sc : Scope) (F G₀ : Gh) (ρ ω : List (Str × Dt)) (G : Gh) (h : Heap) (env : Env) : Prop where
  rd : Rd w h₀ sc ρ G h env
  base : ∀ a o, h₀.get? a = some o → F a = some o
  inF : InH F h
  low : ∀ a o, F a = some o → G a = G₀ a
  gF : Sub G₀ F
  ns : ∃ m, h.Ns env.locals m
  FL : F env.locals = none
  GL : G env.locals = none
  cell : ∀ x c, env.cells.lookup x = some c → CellIs F G h env c
  apart : ∀ x y c, env.cells.lookup x = some c → env.cells.lookup y = some c → x = y
  own : ∀ x d, ω.lookup x = some d → ∃ a, OwnIs w F G h env x d a
  oapart : ∀ x y d e a, ω.lookup x = some d → ω.lookup y = some e → At h env x (.ref a) → At h env y (.ref a) → x = y

section
variable {prog : Program} {w : World} {h₀ : Heap} {sc : Scope} {F G₀ : Gh} {ρ ω : List (Str × Dt)} {k : Nat} {G G' : Gh} {s : Shared} {env : Env} {A : Around} {E : Value → Shared → Prop} {h h' : Heap}

theorem ref_inj {a b : Addr} (h : Value.ref a = Value.ref b) : a = b := by injection h
theorem At.det {x : Str} {u v : Value} (a : At h env x u) (b : At h env x v) : u = v := by
  rcases a with ⟨h1, m, h2, h3⟩ | ⟨h1, c, h2, h3⟩ <;> rcases b with ⟨g1, m', g2, g3⟩ | ⟨g1, c', g2, g3⟩
  · rw [ns_det h2 g2, g3] at h3; exact (Option.some.inj h3).symm
  · rcases g1 with g1 | g1 <;> rw [h1] at g1 <;> cases g1
  · rcases h1 with h1 | h1 <;> rw [g1] at h1 <;> cases h1
  · rw [h2] at g2; cases g2
    obtain ⟨o, ho, hd⟩ := h3
    obtain ⟨o', ho', hd'⟩ := g3
    rw [ho] at ho'; cases ho'
    rw [hd] at hd'; cases hd'; rfl

theorem At.keep2 {x : Str} {v : Value} (a : At h env x v) (k : Kp h h') : At h' env x v := a.keep k

/-- the heap grew, so did what is held -/
theorem Fs.to (X : Fs w h₀ sc F G₀ ρ ω G h env) (kp : Kp h h') (gh : InH G' h') (low : ∀ b o, h.get? b = some o → G' b = G b) : Fs w h₀ sc F G₀ ρ ω G' h' env where
  rd := X.rd.to (fun a o e => (low a o (X.rd.inh a o e)).trans e) kp gh
  base := X.base
  inF := X.inF.kp kp
  low := fun a o e => (low a o (X.inF a o e)).trans (X.low a o e)
  gF := X.gF
  ns := let ⟨m, hn⟩ := X.ns; ⟨m, hn.keeps kp⟩
  FL := X.FL
  GL := by obtain ⟨m, o, es, ep, ho, _⟩ := X.ns; rw [low _ o ho]; exact X.GL
  cell := fun x c e => by
    obtain ⟨h1, h2, h3, v, hv⟩ := X.cell x c e
    obtain ⟨o, ho, _⟩ := id hv
    exact ⟨h1, by rw [low c o ho]; exact h2, h3, v, hv.keeps kp⟩
  apart := X.apart
  own := fun x d e => by
    obtain ⟨a, h1, h2, h3, h4, h5, h6⟩ := X.own x d e
    obtain ⟨o, ho⟩ := h2.live
    exact ⟨a, h1.keep2 kp, h2.mono (fun b o e => (low b o (X.rd.inh b o e)).trans e) (kp a), by rw [low a o ho]; exact h3, h4, h5, h6⟩
  oapart := fun x y d e a h1 h2 h3 h4 => by
    obtain ⟨b, g1, g2, _⟩ := X.own x d h1
    obtain ⟨b', g1', g2', _⟩ := X.own y e h2
    have e1 := (g1.keep2 kp).det h3
    have e2 := (g1'.keep2 kp).det h4
    cases e1; cases e2
    exact X.oapart x y d e a h1 h2 g1 g1'

theorem Fs.exl (X : Fs w h₀ sc F G₀ ρ ω G h env) (kp : Kp h h') : Fs w h₀ sc F G₀ ρ ω (Mine.exl G h h') h' env :=
  X.to kp (exl_in (X.rd.inh.kp kp)) fun b o e => by unfold Mine.exl; rw [e]
theorem Fs.same (X : Fs w h₀ sc F G₀ ρ ω G h env) (kp : Kp h h') : Fs w h₀ sc F G₀ ρ ω G h' env :=
  X.to kp (X.rd.inh.kp kp) fun _ _ _ => rfl

theorem Fs.weak {ρ' ω' : List (Str × Dt)} (X : Fs w h₀ sc F G₀ ρ ω G h env) (hρ : ∀ x d, ρ'.lookup x = some d → ρ.lookup x = some d) (hω : ∀ x d, ω'.lookup x = some d → ω.lookup x = some d) : Fs w h₀ sc F G₀ ρ' ω' G h env where
  rd := { X.rd with names := fun x d e => X.rd.names x d (hρ x d e) }
  base := X.base
  inF := X.inF
  low := X.low
  gF := X.gF
  ns := X.ns
  FL := X.FL
  GL := X.GL
  cell := X.cell
  apart := X.apart
  own := fun x d e => X.own x d (hω x d e)
  oapart := fun x y d e a h1 h2 => X.oapart x y d e a (hω x d h1) (hω y e h2)

/-- a name is bound anew -/
theorem store_D {x : Str} {v : Value} {Q : Unit → Shared → Prop} (X : Fs w h₀ sc F G₀ ρ ω G s.heap env) (hx : sc.names.lookup x = some .local ∨ sc.names.lookup x = some .cell) 
    (c : ∀ h' tk, (∃ b, (b = env.locals ∨ ∃ y, env.cells.lookup y = some b) ∧ Heap.ExtBut b s.heap h') → At h' env x v → (∀ y u, y ≠ x → At s.heap env y u → At h' env y u) → (∃ m, h'.Ns env.locals m) → (∀ y b, env.cells.lookup y = some b → ∃ u, h'.IsCell b u) → Q () { s with heap := h', toks := tk }) :
    wpAny (model prog w) A (storeName env x v) Q E s := by
  have hkd : env.kindOf x = sc.names.lookup x := by unfold Env.kindOf; rw [X.rd.scope]
  obtain ⟨m, hn⟩ := X.ns
  have hf : env.scope.kind = .function := X.rd.scope ▸ X.rd.kind
  rcases hx with hx | hx
  · rw [← hkd] at hx
    refine wpAny_storeName_local hx hn (fun h1 hn1 hs1 => ?_) (by rw [hf]; rfl)
    refine c h1 _ ⟨_, .inl rfl, hs1.extBut⟩ (.inl ⟨hx, _, hn1, by simp⟩) (fun y u hy hu => ?_) ⟨_, hn1⟩ fun y b e => ?_
    · rcases hu with ⟨g1, m', g2, g3⟩ | ⟨g1, c', g2, g3⟩
      · rw [ns_det g2 hn] at g3
        exact .inl ⟨g1, _, hn1, by rw [if_neg hy]; exact g3⟩
      · exact .inr ⟨g1, c', g2, g3.sameBut hs1 (X.cell y c' g2).nl⟩
    · obtain ⟨_, _, h3, u, hu⟩ := X.cell y b e
      exact ⟨u, hu.sameBut hs1 h3⟩
  · rw [← hkd] at hx
    obtain ⟨cx, hcx⟩ := Option.isSome_iff_exists.mp (X.rd.cells x (.inl (hkd ▸ hx)))
    refine nn fun hno_ => ?_
    obtain ⟨c1, c2, c3, u0, hu0⟩ := X.cell x cx hcx
    refine hno_ ?_
    clear hno_
    refine wpAny_storeName_cell hf hx hcx hu0 fun h1 hc1 hs1 => ?_
    have tok : ({ s with heap := h1 } : Shared) = { s with heap := h1, toks := s.toks } := rfl
    refine c h1 s.toks ⟨cx, .inr ⟨x, hcx⟩, hs1.extBut⟩ (.inr ⟨.inl hx, cx, hcx, hc1⟩) (fun y u hy hu => ?_) ⟨m, hn.sameBut hs1 (Ne.symm c3)⟩ fun y b e => ?_
    · rcases hu with ⟨g1, m', g2, g3⟩ | ⟨g1, c', g2, g3⟩
      · exact .inl ⟨g1, m', g2.sameBut hs1 (Ne.symm c3), g3⟩
      · refine .inr ⟨g1, c', g2, g3.sameBut hs1 fun e => ?_⟩
        subst e; exact hy (X.apart y x _ g2 hcx)
    · by_cases hb : b = cx
      · subst hb; exact ⟨_, hc1⟩
      · refine nn fun hno_ => ?_
        obtain ⟨_, _, _, u, hu⟩ := X.cell y b e
        refine hno_ ?_
        clear hno_
        exact ⟨u, hu.sameBut hs1 hb⟩
end
end Mine
end

section
open PySem PySem.Spec PySem.Calls PyProof.Rows
namespace Mine
open scoped Classical

/-! Part W: statements -/
section
variable {prog : Program} {w : World} {h₀ : Heap} {sc : Scope} {F G₀ : Gh} {ρ ω : List (Str × Dt)} {k : Nat} {G G' : Gh} {s : Shared} {env : Env} {A : Around} {E : Value → Shared → Prop} {h h' : Heap}

theorem Fs.bound {ρ' : List (Str × Dt)} {P : Str → Prop} (X : Fs w h₀ sc F G₀ ρ ω G h env) (hb : ∃ b, (b = env.locals ∨ ∃ y, env.cells.lookup y = some b) ∧ Heap.ExtBut b h h')
    (hat : ∀ y u, P y → At h env y u → At h' env y u) (hns : ∃ m, h'.Ns env.locals m) (hcells : ∀ y b, env.cells.lookup y = some b → ∃ u, h'.IsCell b u) (ow : ∀ y d, ω.lookup y = some d → P y)
    (hρ : ∀ y d, ρ'.lookup y = some d → ∃ v, Is w G v d ∧ At h' env y v) : Fs w h₀ sc F G₀ ρ' ω G h' env := by
  refine nn fun hno_ => ?_
  obtain ⟨b, hb, kb⟩ := hb
  refine hno_ ?_
  clear hno_
  have Fb : F b = none := by rcases hb with rfl | ⟨y, e⟩; exact X.FL; exact (X.cell y b e).f
  have Gb : G b = none := by rcases hb with rfl | ⟨y, e⟩; exact X.GL; exact (X.cell y b e).g
  have inF' := in_but X.inF kb Fb
  have inh' := in_but X.rd.inh kb Gb
  exact {
    rd := { scope := X.rd.scope, kind := X.rd.kind, glob := X.rd.glob, bi := X.rd.bi, keep := fun a o e => inF' a o (X.base a o e), inh := inh', cells := X.rd.cells, names := hρ }
    base := X.base
    inF := inF'
    low := X.low
    gF := X.gF
    ns := hns
    FL := X.FL
    GL := X.GL
    cell := fun y c e => let ⟨h1, h2, h3, _⟩ := X.cell y c e; ⟨h1, h2, h3, hcells y c e⟩
    apart := X.apart
    own := fun y d e => by
      obtain ⟨a, h1, h2, h3, h4, h5, h6⟩ := X.own y d e
      have hab : a ≠ b := by rcases hb with rfl | ⟨z, e'⟩; exact h5; exact h6 z b e'
      exact ⟨a, hat y _ (ow y d e) h1, h2.mono (fun _ _ e => e) (fun o e => kb a o hab e), h3, h4, h5, h6⟩
    oapart := fun y z d e a h1 h2 h3 h4 => by
      refine nn fun hno_ => ?_
      obtain ⟨b1, g1, g2, _⟩ := X.own y d h1
      refine hno_ ?_
      clear hno_
      refine nn fun hno_ => ?_
      obtain ⟨b2, g1', g2', _⟩ := X.own z e h2
      refine hno_ ?_
      clear hno_
      have e1 := (hat y _ (ow y d h1) g1).det h3
      have e2 := (hat z _ (ow z e h2) g1').det h4
      cases e1; cases e2
      exact X.oapart y z d e a h1 h2 g1 g1' }

theorem Fs.addOwn {x : Str} {a : Addr} {d : Dt} (X : Fs w h₀ sc F G₀ ρ ω G h env) (h1 : At h env x (.ref a)) (h2 : OAt w G h a d) (h3 : G a = none) (h4 : F a = none) (h5 : a ≠ env.locals) (h6 : ∀ y c, env.cells.lookup y = some c → a ≠ c)
    (h7 : ∀ y d b, ω.lookup y = some d → At h env y (.ref b) → b ≠ a) (hx : ω.lookup x = none) : Fs w h₀ sc F G₀ ρ ((x, d) :: ω) G h env :=
  { X with
    own := fun y e hy => by
      rw [List.lookup_cons] at hy
      by_cases hyx : y = x
      · subst hyx; rw [beq_self_eq_true] at hy; cases hy; exact ⟨a, h1, h2, h3, h4, h5, h6⟩
      · rw [beq_eq_false_iff_ne.mpr hyx] at hy; exact X.own y e hy
    oapart := fun y z d' e b g1 g2 g3 g4 => by
      rw [List.lookup_cons] at g1 g2
      by_cases hyx : y = x <;> by_cases hzx : z = x
      · rw [hyx, hzx]
      · rw [beq_eq_false_iff_ne.mpr hzx] at g2
        subst hyx
        have e1 := h1.det g3
        cases e1
        exact absurd rfl (h7 z e a g2 g4)
      · rw [beq_eq_false_iff_ne.mpr hyx] at g1
        subst hzx
        have e1 := h1.det g4
        cases e1
        exact absurd rfl (h7 y d' a g1 g3)
      · rw [beq_eq_false_iff_ne.mpr hyx] at g1
        rw [beq_eq_false_iff_ne.mpr hzx] at g2
        exact X.oapart y z d' e b g1 g2 g3 g4 }

/-- an owned object has changed -/
theorem Fs.mut {x : Str} {a : Addr} {d d' : Dt} (X : Fs w h₀ sc F G₀ ρ ω G h env) (hx : ω.lookup x = some d) (hat : At h env x (.ref a)) (kb : Heap.ExtBut a h h') (ho : OAt w G h' a d') :
    Fs w h₀ sc F G₀ ρ ((x, d') :: ω) G h' env := by
  obtain ⟨a', h1, h2, h3, h4, h5, h6⟩ := X.own x d hx
  have e := h1.det hat
  cases e
  have keepAt : ∀ y u, At h env y u → At h' env y u := fun y u hu => by
    rcases hu with ⟨g1, m', g2, g3⟩ | ⟨g1, c', g2, g3⟩
    · exact .inl ⟨g1, m', g2.extBut kb (Ne.symm h5), g3⟩
    · exact .inr ⟨g1, c', g2, let ⟨o, ho, hd⟩ := g3; ⟨o, kb _ _ (Ne.symm (h6 y c' g2)) ho, hd⟩⟩
  have inF' := in_but X.inF kb h4
  have inh' := in_but X.rd.inh kb h3
  exact {
    rd := { scope := X.rd.scope, kind := X.rd.kind, glob := X.rd.glob, bi := X.rd.bi, keep := fun a o e => inF' a o (X.base a o e), inh := inh', cells := X.rd.cells, names := fun y d e => let ⟨v, hv, hu⟩ := X.rd.names y d e; ⟨v, hv, keepAt y v hu⟩ }
    base := X.base
    inF := inF'
    low := X.low
    gF := X.gF
    ns := let ⟨m, hn⟩ := X.ns; ⟨m, hn.extBut kb (Ne.symm h5)⟩
    FL := X.FL
    GL := X.GL
    cell := fun y c e => let ⟨g1, g2, g3, v, o, ho, hd⟩ := X.cell y c e; ⟨g1, g2, g3, v, o, kb _ _ (Ne.symm (h6 y c e)) ho, hd⟩
    apart := X.apart
    own := fun y e hy => by
      rw [List.lookup_cons] at hy
      by_cases hyx : y = x
      · subst hyx; rw [beq_self_eq_true] at hy; cases hy; exact ⟨a, keepAt _ _ h1, ho, h3, h4, h5, h6⟩
      · rw [beq_eq_false_iff_ne.mpr hyx] at hy
        obtain ⟨b, g1, g2, g3, g4, g5, g6⟩ := X.own y e hy
        have hba : b ≠ a := fun q => by subst q; exact hyx (X.oapart y x e d b hy hx g1 h1)
        exact ⟨b, keepAt _ _ g1, g2.mono (fun _ _ e => e) (fun o e => kb b o hba e), g3, g4, g5, g6⟩
    oapart := fun y z d1 e1 b g1 g2 g3 g4 => by
      have back : ∀ y d1, ((x, d') :: ω).lookup y = some d1 → ∃ d2, ω.lookup y = some d2 := fun y d1 g => by
        rw [List.lookup_cons] at g
        by_cases hyx : y = x
        · subst hyx; exact ⟨d, hx⟩
        · rw [beq_eq_false_iff_ne.mpr hyx] at g; exact ⟨d1, g⟩
      obtain ⟨dy, ey⟩ := back y d1 g1
      obtain ⟨dz, ez⟩ := back z e1 g2
      obtain ⟨b1, q1, _⟩ := X.own y dy ey
      obtain ⟨b2, q2, _⟩ := X.own z dz ez
      have e1 := (keepAt y _ q1).det g3
      have e2 := (keepAt z _ q2).det g4
      cases e1; cases e2
      exact X.oapart y z dy dz b ey ez q1 q2 }

/-- an owned object is held from now on -/
theorem Fs.freeze {x : Str} {d : Dt} (X : Fs w h₀ sc F G₀ ρ ω G h env) (hx : ω.lookup x = some d) (hi : ∀ C fs, d ≠ .inst C fs) :
    ∃ G₁, Sub G G₁ ∧ (∃ a o, At h env x (.ref a) ∧ h.get? a = some o ∧ G a = none ∧ F a = none ∧ G₁ = put G a o ∧ OAt w G h a d) ∧ Fs w h₀ sc F G₀ ((x, d) :: ρ) (ω.filter fun p => !(p.1 == x)) G₁ h env := by
  refine nn fun hno_ => ?_
  obtain ⟨a, h1, h2, h3, h4, h5, h6⟩ := X.own x d hx
  refine hno_ ?_
  clear hno_
  refine nn fun hno_ => ?_
  obtain ⟨o, ho⟩ := h2.live
  refine hno_ ?_
  clear hno_
  have sb : Sub G (put G a o) := fun b o' e => by
    unfold put
    split
    · rename_i q; subst q; rw [h3] at e; cases e
    · exact e
  have gh : InH (put G a o) h := fun b o' e => by
    unfold put at e
    split at e
    · rename_i q; subst q; cases e; exact ho
    · exact X.rd.inh b o' e
  have other : ∀ b, b ≠ a → put G a o b = G b := fun b hb => by unfold put; rw [if_neg hb]
  have hlook : ∀ y e, (ω.filter fun p => !(p.1 == x)).lookup y = some e → y ≠ x ∧ ω.lookup y = some e := fun y e hy => by
    rw [lookup_filter_key (fun y => !(y == x))] at hy
    split at hy
    · rename_i q; exact ⟨by simpa using q, hy⟩
    · cases hy
  have isx : Is w (put G a o) (.ref a) d := by
    cases d with
    | list ds =>
      obtain ⟨vs, n, hv, i⟩ := LAt.obj h2
      rw [ho] at hv; cases hv
      exact .list (vs := vs) (n := n) (by unfold put; rw [if_pos rfl]) (i.mono sb)
    | dict kvs =>
      obtain ⟨es, n, hv, i⟩ := DAt.obj h2
      rw [ho] at hv; cases hv
      exact .dict (es := es) (n := n) (by unfold put; rw [if_pos rfl]) (DAt.ne h2) (i.mono sb) (DAt.nodup h2)
    | inst C fs => exact absurd rfl (hi C fs)
    | _ => exact h2.elim
  refine ⟨put G a o, sb, ⟨a, o, h1, ho, h3, h4, rfl, h2⟩, ?_⟩
  have nm : ∀ y e, ((x, d) :: ρ).lookup y = some e → ∃ v, Is w (put G a o) v e ∧ At h env y v := fun y e hy => by
    rw [List.lookup_cons] at hy
    by_cases hyx : y = x
    · subst hyx; rw [beq_self_eq_true] at hy; cases hy; exact ⟨_, isx, h1⟩
    · rw [beq_eq_false_iff_ne.mpr hyx] at hy
      obtain ⟨v, hv, hu⟩ := X.rd.names y e hy
      exact ⟨v, hv.mono sb, hu⟩
  exact {
    rd := { scope := X.rd.scope, kind := X.rd.kind, glob := X.rd.glob, bi := X.rd.bi, keep := X.rd.keep, inh := gh, cells := X.rd.cells, names := nm }
    base := X.base
    inF := X.inF
    low := fun b o' e => by rw [other b (fun q => by subst q; rw [h4] at e; cases e)]; exact X.low b o' e
    gF := X.gF
    ns := X.ns
    FL := X.FL
    GL := by rw [other _ (Ne.symm h5)]; exact X.GL
    cell := fun y c e => let ⟨g1, g2, g3, g4⟩ := X.cell y c e; ⟨g1, by rw [other _ (Ne.symm (h6 y c e))]; exact g2, g3, g4⟩
    apart := X.apart
    own := fun y e hy => by
      refine nn fun hno_ => ?_
      obtain ⟨hyx, hy⟩ := hlook y e hy
      refine hno_ ?_
      clear hno_
      refine nn fun hno_ => ?_
      obtain ⟨b, g1, g2, g3, g4, g5, g6⟩ := X.own y e hy
      refine hno_ ?_
      clear hno_
      have hba : b ≠ a := fun q => by subst q; exact hyx (X.oapart y x e d b hy hx g1 h1)
      exact ⟨b, g1, g2.mono sb fun _ e => e, by rw [other b hba]; exact g3, g4, g5, g6⟩
    oapart := fun y z d1 e1 b g1 g2 => X.oapart y z d1 e1 b (hlook y d1 g1).2 (hlook z e1 g2).2 }

/-! how a block ends -/
inductive Ctl where
  | next (ρ ω : List (Str × Dt))
  | ret (d : Dt)
  | retF (ds : List Dt)

noncomputable def Fit (w : World) (h₀ : Heap) (sc : Scope) (F G₀ : Gh) (env : Env) : Ctl → Flow → Heap → Prop
  | .next ρ ω, fl, h' => fl = .next ∧ ∃ G', Fs w h₀ sc F G₀ ρ ω G' h' env
  | .ret d, fl, h' => ∃ v G', fl = .ret v ∧ InH F h' ∧ InH G' h' ∧ (∀ a o, F a = some o → G' a = G₀ a) ∧ Is w G' v d
  | .retF ds, fl, h' => ∃ a G', fl = .ret (.ref a) ∧ InH F h' ∧ InH G' h' ∧ (∀ a o, F a = some o → G' a = G₀ a) ∧ F a = none ∧ Is w G' (.ref a) (.list ds)

/-- what a statement leaves -/
inductive EP (w : World) (h₀ : Heap) (sc : Scope) (F G₀ : Gh) (env : Env) (Q : Ctl → Prop) (s : Shared) (fl : Flow) (s' : Shared) : Prop
  | mk (c : Ctl) (h' : Heap) (tk : Nat) (e : s' = { s with heap := h', toks := tk }) (q : Q c) (ft : Fit w h₀ sc F G₀ env c fl h')
structure Es (prog : Program) (w : World) (h₀ : Heap) (k : Nat) (sc : Scope) (ρ ω : List (Str × Dt)) (st : Stmt) (Q : Ctl → Prop) : Prop where
  run :
    ∀ (A : Around) (F G₀ G : Gh) (env : Env) (s : Shared) (E : Value → Shared → Prop), Ok A k → Fs w h₀ sc F G₀ ρ ω G s.heap env →
      wpAny (model prog w) A (exec st env) (EP w h₀ sc F G₀ env Q s) E s
structure Ex (prog : Program) (w : World) (h₀ : Heap) (k : Nat) (sc : Scope) (ρ ω : List (Str × Dt)) (ss : List Stmt) (Q : Ctl → Prop) : Prop where
  run :
    ∀ (A : Around) (F G₀ G : Gh) (env : Env) (s : Shared) (E : Value → Shared → Prop), Ok A k → Fs w h₀ sc F G₀ ρ ω G s.heap env →
      wpAny (model prog w) A (execs ss env) (EP w h₀ sc F G₀ env Q s) E s

theorem EP.re {Q : Ctl → Prop} {h1 : Heap} {tk : Nat} {fl : Flow} {s' : Shared} (x : EP w h₀ sc F G₀ env Q { s with heap := h1, toks := tk } fl s') : EP w h₀ sc F G₀ env Q s fl s' := x.rec fun c h' tk' e q ft => .mk c h' tk' e q ft
theorem Ex.nil {Q : Ctl → Prop} (q : Q (.next ρ ω)) : Ex prog w h₀ k sc ρ ω [] Q := .mk fun A F G₀ G env s E ok X => wpAny_execs_nil ⟨_, s.heap, s.toks, rfl, q, rfl, G, X⟩

theorem Ex.cons {st : Stmt} {ss : List Stmt} {Q : Ctl → Prop} (H : Es prog w h₀ k sc ρ ω st fun c => match c with | .next ρ' ω' => Ex prog w h₀ k sc ρ' ω' ss Q | c => Q c) : Ex prog w h₀ k sc ρ ω (st :: ss) Q := .mk fun A F G₀ G env s E ok X =>
  wpAny_execs_cons (wpAny_mono (H.run A F G₀ G env s E ok X) (fun fl s' x => by
    obtain ⟨c, h1, tk, rfl, q, ft⟩ := x
    cases c with
    | next ρ' ω' =>
      obtain ⟨rfl, G1, X1⟩ := ft
      exact wpAny_mono (q.run A F G₀ G1 env _ E ok X1) (fun _ _ => EP.re) fun _ _ e => e
    | ret d =>
      obtain ⟨v, G1, rfl, r⟩ := ft
      exact ⟨.ret d, h1, tk, rfl, q, v, G1, rfl, r⟩
    | retF ds =>
      obtain ⟨a, G1, rfl, r⟩ := ft
      exact ⟨.retF ds, h1, tk, rfl, q, a, G1, rfl, r⟩) fun _ _ e => e)

theorem Ex.freeze {x : Str} {d : Dt} {ss : List Stmt} {Q : Ctl → Prop} (hx : ω.lookup x = some d) (hi : ∀ C fs, d ≠ .inst C fs) (H : Ex prog w h₀ k sc ((x, d) :: ρ) (ω.filter fun p => !(p.1 == x)) ss Q) : Ex prog w h₀ k sc ρ ω ss Q :=
  .mk fun A F G₀ G env s E ok X => let ⟨G₁, _, _, X'⟩ := X.freeze hx hi; H.run A F G₀ G₁ env s E ok X'

theorem Es.ret {e : Expr} {d : Dt} {p : Pos} {Q : Ctl → Prop} (H : Ev prog w h₀ k sc ρ e d) (q : Q (.ret d)) : Es prog w h₀ k sc ρ ω (.Return (some e) p) Q := .mk fun A F G₀ G env s E ok X =>
  wpAny_Return_some (H.go ok X.rd fun v h1 tk k1 i1 R1 => ⟨.ret d, h1, tk, rfl, q, v, _, rfl, X.inF.kp k1, R1.inh, (X.exl k1).low, i1⟩)
theorem Es.retF {e : Expr} {ds : List Dt} {p : Pos} {Q : Ctl → Prop} (H : EvF prog w h₀ k sc ρ e ds) (q : Q (.retF ds)) : Es prog w h₀ k sc ρ ω (.Return (some e) p) Q := .mk fun A F G₀ G env s E ok X =>
  wpAny_Return_some (wpAny_mono (H.run A G env s E ok X.rd) (fun v s' x => by
    obtain ⟨a, h1, tk, rfl, ha, rfl, k1, i1⟩ := x
    refine ⟨.retF ds, h1, tk, rfl, q, a, _, rfl, X.inF.kp k1, exl_in (X.rd.inh.kp k1), (X.exl k1).low, ?_, i1⟩
    cases q : F a with
    | none => rfl
    | some o => rw [X.inF a o q] at ha; cases ha) fun _ _ e => e)

theorem Es.assign {e : Expr} {d : Dt} {x : Str} {p p' : Pos} {Q : Ctl → Prop} (H : Ev prog w h₀ k sc ρ e d) (q : Q (.next ((x, d) :: ρ) ω)) (hx : autoParam (sc.names.lookup x = some .local ∨ sc.names.lookup x = some .cell) aO._auto_1) (hω : autoParam (ω.lookup x = none) aR._auto_1)
    (hs : autoParam (isComp e = false) aR._auto_1) : Es prog w h₀ k sc ρ ω (.Assign [.Name x p'] e p) Q := .mk fun A F G₀ G env s E ok X =>
  wpAny_Assign_Name (H.go ok X.rd fun v h1 tk k1 i1 R1 => store_D (X.exl k1) hx fun h2 tk2 hb hat hk hns hc =>
    ⟨_, h2, tk2, rfl, q, rfl, _, (X.exl k1).bound hb hk hns hc (fun y d e q => by subst q; rw [hω] at e; cases e) fun y e hy => by
      rw [List.lookup_cons] at hy
      by_cases hyx : y = x
      · subst hyx; rw [beq_self_eq_true] at hy; cases hy; exact ⟨v, i1, hat⟩
      · rw [beq_eq_false_iff_ne.mpr hyx] at hy
        obtain ⟨u, hu, hau⟩ := R1.names y e hy
        exact ⟨u, hu, hk y u hyx hau⟩⟩) (swaps_no hs)
end
end Mine
end

section
open PySem PySem.Spec PySem.Calls PyProof.Rows
namespace Mine
open scoped Classical

/-! Part X: loops, branches -/
noncomputable def un (F R : Gh) : Gh := fun a => (F a).or (R a)
theorem un_left {F R : Gh} {a : Addr} {o : Obj} (e : F a = some o) : un F R a = some o := by unfold un; rw [e]; rfl
theorem un_right {F R : Gh} {a : Addr} (e : F a = none) : un F R a = R a := by unfold un; rw [e]; rfl
theorem un_none {F R : Gh} {a : Addr} (e : un F R a = none) : F a = none ∧ R a = none := by
  unfold un at e
  cases q : F a with
  | some o => rw [q] at e; cases e
  | none => rw [q] at e; exact ⟨rfl, e⟩
theorem un_some {F R : Gh} {a : Addr} {o : Obj} (e : un F R a = some o) : F a = some o ∨ (F a = none ∧ R a = some o) := by
  unfold un at e
  cases q : F a with
  | some o' => rw [q] at e; exact .inl e
  | none => rw [q] at e; exact .inr ⟨rfl, e⟩

structure OffIs (F G : Gh) (h : Heap) (ω : List (Str × Dt)) (env : Env) (a : Addr) : Prop where
  f : F a = none
  g : G a = none
  nl : a ≠ env.locals
  nc : ∀ y c, env.cells.lookup y = some c → a ≠ c
  no : ∀ y d b, ω.lookup y = some d → At h env y (.ref b) → b ≠ a
structure Own2 (F G R : Gh) (h : Heap) (ω : List (Str × Dt)) (env : Env) : Prop where
  inR : InH R h
  off : ∀ a o, R a = some o → OffIs F G h ω env a

section
variable {prog : Program} {w : World} {h₀ : Heap} {sc : Scope} {F G₀ R : Gh} {ρ ω : List (Str × Dt)} {k : Nat} {G G' : Gh} {s : Shared} {env : Env} {A : Around} {E : Value → Shared → Prop} {h h' : Heap}

theorem Es.ite {t : Expr} {b : Bool} {body orelse : List Stmt} {p : Pos} {Q : Ctl → Prop} (T : Tr prog w h₀ k sc ρ t b) (H : b = true → Ex prog w h₀ k sc ρ ω body Q) (J : b = false → Ex prog w h₀ k sc ρ ω orelse Q) :
    Es prog w h₀ k sc ρ ω (.If t body orelse p) Q := .mk fun A F G₀ G env s E ok X =>
  wpAny_If (T.go ok X.rd fun h1 tk k1 R1 => by
    cases b with
    | true => exact wpAny_mono ((H rfl).run A F G₀ G env _ E ok (X.same k1)) (fun _ _ => EP.re) fun _ _ e => e
    | false => exact wpAny_mono ((J rfl).run A F G₀ G env _ E ok (X.same k1)) (fun _ _ => EP.re) fun _ _ e => e)

/-- another part is kept apart -/
theorem Fs.reF {F₁ F₂ G₁ G₂ : Gh} {I : Addr} (X : Fs w h₀ sc F₁ G₁ ρ ω G h env) (hI : ∃ o, F₁ I = some o) (gI : G I = none) (kb : Heap.ExtBut I h h') (base : ∀ a o, h₀.get? a = some o → F₂ a = some o) (inF : InH F₂ h')
    (low : ∀ a o, F₂ a = some o → G a = G₂ a) (gF : Sub G₂ F₂) (dom : ∀ a o, F₂ a = some o → ∃ o', F₁ a = some o') : Fs w h₀ sc F₂ G₂ ρ ω G h' env := by
  obtain ⟨oI, hI⟩ := hI
  have no : ∀ a, F₁ a = none → F₂ a = none := fun a e => by
    cases q : F₂ a with
    | none => rfl
    | some o => obtain ⟨o', e'⟩ := dom a o q; rw [e] at e'; cases e'
  have ne : ∀ a, F₁ a = none → a ≠ I := fun a e q => by subst q; rw [hI] at e; cases e
  have keepAt : ∀ y u, At h env y u → At h' env y u := fun y u hu => by
    rcases hu with ⟨g1, m', g2, g3⟩ | ⟨g1, c', g2, g3⟩
    · exact .inl ⟨g1, m', g2.extBut kb (ne _ X.FL), g3⟩
    · exact .inr ⟨g1, c', g2, let ⟨o, ho, hd⟩ := g3; ⟨o, kb _ _ (ne _ (X.cell y c' g2).f) ho, hd⟩⟩
  have inh' := in_but X.rd.inh kb gI
  exact {
    rd := { scope := X.rd.scope, kind := X.rd.kind, glob := X.rd.glob, bi := X.rd.bi, keep := fun a o e => inF a o (base a o e), inh := inh', cells := X.rd.cells, names := fun y d e => let ⟨v, hv, hu⟩ := X.rd.names y d e; ⟨v, hv, keepAt y v hu⟩ }
    base := base
    inF := inF
    low := low
    gF := gF
    ns := let ⟨m, hn⟩ := X.ns; ⟨m, hn.extBut kb (ne _ X.FL)⟩
    FL := no _ X.FL
    GL := X.GL
    cell := fun y c e => let ⟨g1, g2, g3, v, o, ho, hd⟩ := X.cell y c e; ⟨no _ g1, g2, g3, v, o, kb _ _ (ne _ g1) ho, hd⟩
    apart := X.apart
    own := fun y e hy => by
      obtain ⟨b, g1, g2, g3, g4, g5, g6⟩ := X.own y e hy
      exact ⟨b, keepAt _ _ g1, g2.mono (fun _ _ e => e) (fun o e => kb b o (ne b g4) e), g3, no b g4, g5, g6⟩
    oapart := fun y z d1 e1 b g1 g2 g3 g4 => by
      obtain ⟨b1, q1, _⟩ := X.own y d1 g1
      obtain ⟨b2, q2, _⟩ := X.own z e1 g2
      have e1 := (keepAt y _ q1).det g3
      have e2 := (keepAt z _ q2).det g4
      cases e1; cases e2
      exact X.oapart y z _ _ b g1 g2 q1 q2 }

/-- what a loop keeps apart -/
noncomputable def FI (F G : Gh) (I : Addr) (o : Obj) : Gh := fun a => if a = I then some o else (F a).or (G a)

theorem Fs.grow {I : Addr} {o : Obj} (X : Fs w h₀ sc F G₀ ρ ω G h env) (hI : h.get? I = none) (kp : Kp h h') (ho : h'.get? I = some o) : Fs w h₀ sc (FI F G I o) G ρ ω G h' env := by
  have X' := X.same kp
  have ne : ∀ a o', h.get? a = some o' → a ≠ I := fun a o' e q => by subst q; rw [hI] at e; cases e
  have fi : ∀ a, a ≠ I → F a = none → G a = none → FI F G I o a = none := fun a h1 h2 h3 => by unfold FI; rw [if_neg h1, h2, h3]; rfl
  have inF' : InH (FI F G I o) h' := fun a o' e => by
    unfold FI at e
    split at e
    · rename_i q; subst q; cases e; exact ho
    · cases q : F a with
      | some o2 => rw [q] at e; cases e; exact X'.inF a _ q
      | none => rw [q] at e; exact X'.rd.inh a _ e
  exact { X' with
    base := fun a o' e => by
      have h1 := X.base a o' e
      unfold FI
      rw [if_neg (ne a o' (X.inF a o' h1)), h1]; rfl
    inF := inF'
    low := fun _ _ _ => rfl
    gF := fun a o' e => by
      unfold FI
      rw [if_neg (ne a o' (X.rd.inh a o' e))]
      cases q : F a with
      | some o2 =>
        have h1 := X.inF a o2 q
        have h2 := X.rd.inh a o' e
        rw [h1] at h2; cases h2; rfl
      | none => exact e
    FL := by obtain ⟨m, o', es, ep, hL, _⟩ := X.ns; exact fi _ (ne _ o' hL) X.FL X.GL
    cell := fun y c e => by
      obtain ⟨g1, g2, g3, v, hv⟩ := X.cell y c e
      obtain ⟨o', ho', _⟩ := id hv
      exact ⟨fi c (ne c o' ho') g1 g2, g2, g3, v, hv.keeps kp⟩
    own := fun y e hy => by
      obtain ⟨b, g1, g2, g3, g4, g5, g6⟩ := X.own y e hy
      obtain ⟨o', ho'⟩ := g2.live
      exact ⟨b, g1.keep2 kp, g2.mono (fun _ _ e => e) (fun o e => kp b o e), g3, fi b (ne b o' ho') g4 g3, g5, g6⟩ }

theorem Own2.step (Y : Own2 F G R h ω env) (X : Fs w h₀ sc F G₀ ρ ω G h env) (kp : Kp h h') (low : ∀ b o, h.get? b = some o → G' b = G b) : Own2 F G' R h' ω env where
  inR := Y.inR.kp kp
  off := fun a o e => by
    obtain ⟨h1, h2, h3, h4, h5⟩ := Y.off a o e
    refine ⟨h1, by rw [low a o (Y.inR a o e)]; exact h2, h3, h4, fun y d b hy hb => ?_⟩
    obtain ⟨b', g1, _⟩ := X.own y d hy
    obtain rfl := ref_inj ((g1.keep2 kp).det hb)
    exact h5 y d _ hy g1
theorem Own2.exl (Y : Own2 F G R h ω env) (X : Fs w h₀ sc F G₀ ρ ω G h env) (kp : Kp h h') : Own2 F (Mine.exl G h h') R h' ω env :=
  Y.step X kp fun b o e => by unfold Mine.exl; rw [e]

theorem Fs.add (X : Fs w h₀ sc F G₀ ρ ω G h env) (Y : Own2 F G R h ω env) : Fs w h₀ sc (un F R) G₀ ρ ω G h env := by
  have no : ∀ a, F a = none → R a = none → un F R a = none := fun a h1 h2 => by rw [un_right h1]; exact h2
  exact { X with
    base := fun a o e => un_left (X.base a o e)
    inF := fun a o e => by rcases un_some e with h1 | ⟨_, h1⟩; exact X.inF a o h1; exact Y.inR a o h1
    low := fun a o e => by
      rcases un_some e with h1 | ⟨h0, h1⟩
      · exact X.low a o h1
      · rw [(Y.off a o h1).g]
        cases q : G₀ a with
        | none => rfl
        | some o' => rw [X.gF a o' q] at h0; cases h0
    gF := fun a o e => un_left (X.gF a o e)
    FL := no _ X.FL (by
      cases q : R env.locals with
      | none => rfl
      | some o => exact absurd rfl (Y.off _ o q).nl)
    cell := fun x c e => by
      obtain ⟨h1, h2, h3, h4⟩ := X.cell x c e
      refine ⟨no c h1 ?_, h2, h3, h4⟩
      cases q : R c with
      | none => rfl
      | some o => exact absurd rfl ((Y.off _ o q).nc x c e)
    own := fun x d e => by
      obtain ⟨a, h1, h2, h3, h4, h5, h6⟩ := X.own x d e
      refine ⟨a, h1, h2, h3, no a h4 ?_, h5, h6⟩
      cases q : R a with
      | none => rfl
      | some o => exact absurd rfl ((Y.off _ o q).no x d a e h1) }

theorem Fs.del {ρ' ω' : List (Str × Dt)} (Z : Fs w h₀ sc (un F R) G₀ ρ' ω' G' h' env) (base : ∀ a o, h₀.get? a = some o → F a = some o) (gF : Sub G₀ F) (hR : ∀ a o, R a = some o → F a = none) :
    Fs w h₀ sc F G₀ ρ' ω' G' h' env ∧ Own2 F G' R h' ω' env := by
  have ur : ∀ {a o}, R a = some o → un F R a = some o := fun e => (un_right (hR _ _ e)).trans e
  refine ⟨{ Z with
    base := base
    inF := fun a o e => Z.inF a o (un_left e)
    low := fun a o e => Z.low a o (un_left e)
    gF := gF
    FL := (un_none Z.FL).1
    cell := fun x c e => let ⟨h1, h2, h3, h4⟩ := Z.cell x c e; ⟨(un_none h1).1, h2, h3, h4⟩
    own := fun x d e => let ⟨a, h1, h2, h3, h4, h5, h6⟩ := Z.own x d e; ⟨a, h1, h2, h3, (un_none h4).1, h5, h6⟩ }, ⟨fun a o e => Z.inF a o (ur e), fun a o e => ?_⟩⟩
  have fa := hR a o e
  refine ⟨fa, ?_, fun q => ?_, fun y c hc q => ?_, fun y d b hy hb q => ?_⟩
  · rw [Z.low a o (ur e)]
    cases q : G₀ a with
    | none => rfl
    | some o' => rw [gF a o' q] at fa; cases fa
  · subst q; have := ur e; rw [Z.FL] at this; cases this
  · subst q; have := (Z.cell y _ hc).f; rw [ur e] at this; cases this
  · subst q
    obtain ⟨b', g1, g2, g3, g4, _⟩ := Z.own y d hy
    obtain rfl := ref_inj (g1.det hb)
    rw [ur e] at g4; cases g4

theorem Own2.reF {F' : Gh} (Y : Own2 F G R h ω env) (hF : ∀ a o, R a = some o → F' a = none) (X : Fs w h₀ sc F G₀ ρ ω G h env) (keepAt : ∀ y u, At h env y u → At h' env y u) (inR : InH R h') : Own2 F' G R h' ω env where
  inR := inR
  off := fun a o e => by
    obtain ⟨h1, h2, h3, h4, h5⟩ := Y.off a o e
    refine ⟨hF a o e, h2, h3, h4, fun y d b hy hb => ?_⟩
    obtain ⟨b', g1, _⟩ := X.own y d hy
    obtain rfl := ref_inj ((keepAt y _ g1).det hb)
    exact h5 y d _ hy g1

theorem At.but {I : Addr} {y : Str} {u : Value} (hu : At h env y u) (kb : Heap.ExtBut I h h') (nL : I ≠ env.locals) (nc : ∀ y c, env.cells.lookup y = some c → I ≠ c) : At h' env y u := by
  rcases hu with ⟨g1, m', g2, g3⟩ | ⟨g1, c', g2, g3⟩
  · exact .inl ⟨g1, m', g2.extBut kb (Ne.symm nL), g3⟩
  · exact .inr ⟨g1, c', g2, let ⟨o, ho, hd⟩ := g3; ⟨o, kb _ _ (Ne.symm (nc y c' g2)) ho, hd⟩⟩

noncomputable def BindOk (sc : Scope) (target : Expr) (bs : List (Str × Dt)) : Prop := (∃ x p, target = .Name x p ∧ sc.names.lookup x = some .cell) ∨ (∀ x d, bs.lookup x = some d → sc.names.lookup x = some .local)

theorem bind_D {target : Expr} {d : Dt} {bs : List (Str × Dt)} {v : Value} {Q : Unit → Shared → Prop} (X : Fs w h₀ sc F G₀ ρ ω G s.heap env) (B : Binds target d bs) (iv : Is w G v d) (hh : A.handled = none) (hk : BindOk sc target bs)
    (hω : ∀ x d, bs.lookup x = some d → ω.lookup x = none) (c : ∀ h' tk, Fs w h₀ sc F G₀ (bs ++ ρ) ω G h' env → Q () { s with heap := h', toks := tk }) : wpAny (model prog w) A (assign target env v) Q E s := by
  have hf : env.scope.kind = .function := X.rd.scope ▸ X.rd.kind
  have named : ∀ {x : Str} {p : Pos}, target = .Name x p → (sc.names.lookup x = some .local ∨ sc.names.lookup x = some .cell) → wpAny (model prog w) A (assign target env v) Q E s := by
    intro x p ht hx
    subst ht
    cases B
    have hωx : ω.lookup x = none := hω x d (by simp [List.lookup_cons])
    refine wpAny_assign_Name (store_D X hx fun h2 tk2 hb hat hk hns hc => c h2 tk2 (X.bound hb hk hns hc (fun y d e q => by subst q; rw [hωx] at e; cases e) fun y e hy => ?_))
    rw [List.cons_append, List.lookup_cons] at hy
    by_cases hyx : y = x
    · subst hyx; rw [beq_self_eq_true] at hy; cases hy; exact ⟨v, iv, hat⟩
    · rw [beq_eq_false_iff_ne.mpr hyx] at hy
      obtain ⟨u, hu, hau⟩ := X.rd.names y e hy
      exact ⟨u, hu, hk y u hyx hau⟩
  rcases hk with ⟨x, p, ht, hx⟩ | hk
  · exact named ht (.inr hx)
  · have hkd : ∀ x, env.kindOf x = sc.names.lookup x := fun x => by unfold Env.kindOf; rw [X.rd.scope]
    obtain ⟨m, hn⟩ := X.ns
    refine assign_D B iv X.rd.inh hh X.GL (fun x d e => by rw [hkd]; exact hk x d e) hf hn fun h1 tk1 m1 k1 hn1 gh1 hb1 ho1 => ?_
    have keepAt : ∀ y u, bs.lookup y = none → At s.heap env y u → At h1 env y u := fun y u hy hu => by
      rcases hu with ⟨g1, m', g2, g3⟩ | ⟨g1, c', g2, g3⟩
      · rw [ns_det g2 hn] at g3
        exact .inl ⟨g1, m1, hn1, by rw [ho1 y hy]; exact g3⟩
      · exact .inr ⟨g1, c', g2, let ⟨o, ho, hd⟩ := g3; ⟨o, k1 _ _ (X.cell y c' g2).nl ho, hd⟩⟩
    refine c h1 tk1 (X.bound (P := fun y => bs.lookup y = none) ⟨_, .inl rfl, k1⟩ keepAt ⟨m1, hn1⟩ (fun y b e => ?_) (fun y e hy => ?_) fun y e hy => ?_)
    · obtain ⟨_, _, g3, u, o, ho, hd⟩ := X.cell y b e
      exact ⟨u, o, k1 _ _ g3 ho, hd⟩
    · cases q : bs.lookup y with
      | none => rfl
      | some d' => rw [hω y d' q] at hy; cases hy
    · rw [List.lookup_append] at hy
      cases q : bs.lookup y with
      | some d' =>
        rw [q] at hy
        have : d' = e := by simpa using hy
        subst this
        obtain ⟨u, hu, iu⟩ := hb1 y d' q
        exact ⟨u, iu, .inl ⟨by rw [hkd]; exact hk y d' q, m1, hn1, hu⟩⟩
      | none =>
        rw [q] at hy
        simp only [Option.none_or] at hy
        refine nn fun hno_ => ?_
        obtain ⟨u, hu, hau⟩ := X.rd.names y e hy
        refine hno_ ?_
        clear hno_
        exact ⟨u, hu, keepAt y u q hau⟩

theorem inh_none {X : Gh} {b : Addr} (hX : InH X h) (hd : h.get? b = none) : X b = none := by
  cases q : X b with
  | none => rfl
  | some o => rw [hX b o q] at hd; cases hd
theorem FI_I {I : Addr} {o : Obj} : FI F G I o I = some o := if_pos rfl
theorem FI_ne {I a : Addr} {o o2 : Obj} (h : a ≠ I) : FI F G I o a = FI F G I o2 a := (if_neg h).trans (if_neg h).symm
theorem FI_off {I a : Addr} {o : Obj} (e : FI F G I o a = none) : a ≠ I := fun q => by rw [q, FI_I] at e; cases e
theorem FI_F {I a : Addr} {o o' : Obj} (fI : F I = none) (e : F a = some o') : FI F G I o a = some o' := (if_neg fun q => by rw [q, fI] at e; cases e).trans (by rw [e]; rfl)
theorem FI_G {I a : Addr} {o oa : Obj} (hF : InH F h) (hI : h.get? I = none) (ha : h.get? a = some oa) (e : G a = some oa) : FI F G I o a = some oa := (if_neg fun q => by rw [q, hI] at ha; cases ha).trans (by
  cases q : F a with
  | none => exact e
  | some o2 => rw [hF a o2 q] at ha; exact ha)
/-- the iterator has moved on -/
theorem Fs.moved {G1 : Gh} {I : Addr} {o o2 : Obj} (Z : Fs w h₀ sc (FI F G1 I o) G1 ρ ω G h env) (gI : G1 I = none) (bI : ∀ o, h₀.get? I ≠ some o) (kb : Heap.ExtBut I h h') (ho : h'.get? I = some o2) : Fs w h₀ sc (FI F G1 I o2) G1 ρ ω G h' env :=
  have gi : G I = none := (Z.low I o FI_I).trans gI
  Z.reF ⟨o, FI_I⟩ gi kb
    (fun b o' e => (FI_ne fun q => bI o' (by rw [← q]; exact e)).trans (Z.base b o' e))
    (fun b o' e => by
      by_cases q : b = I
      · rw [q, FI_I] at e; cases e; rw [q]; exact ho
      · exact kb b o' q (Z.inF b o' ((FI_ne q).trans e)))
    (fun b o' e => by
      by_cases q : b = I
      · rw [q, gi, gI]
      · exact Z.low b o' ((FI_ne q).trans e))
    (fun b o' e => (FI_ne fun q => by rw [q, gI] at e; cases e).trans (Z.gF b o' e))
    (fun b o' e => by
      by_cases q : b = I
      · exact ⟨o, q ▸ FI_I⟩
      · exact ⟨o', (FI_ne q).trans e⟩)
theorem Own2.moved {G1 : Gh} {I : Addr} {o : Obj} (V : Own2 (FI F G1 I o) G R h ω env) (Z : Fs w h₀ sc (FI F G1 I o) G1 ρ ω G h env) (kb : Heap.ExtBut I h h') {F' : Gh} (hF : ∀ b, b ≠ I → FI F G1 I o b = none → F' b = none) : Own2 F' G R h' ω env :=
  V.reF (fun b o' e => hF b (FI_off (V.off b o' e).f) (V.off b o' e).f) Z (fun y u hu => hu.but kb (Ne.symm (FI_off Z.FL)) fun y c e => Ne.symm (FI_off (Z.cell y c e).f)) fun b o' e => kb b o' (FI_off (V.off b o' e).f) (V.inR b o' e)

/-- what a turn of a loop leaves -/
inductive TurnP (w : World) (h₀ : Heap) (sc : Scope) (F G₀ : Gh) (ρ : List (Str × Dt)) (env : Env) (Cn : List (Str × Dt) → Gh → Gh → Prop) (s : Shared) (fl : Flow) (s' : Shared) : Prop
  | mk (ef : fl = .next) (h' : Heap) (tk : Nat) (G' R' : Gh) (ω' : List (Str × Dt)) (e : s' = { s with heap := h', toks := tk }) (Z : Fs w h₀ sc F G₀ ρ ω' G' h' env) (V : Own2 F G' R' h' ω' env) (cn : Cn ω' G' R')
inductive TurnE (prog : Program) (w : World) (h₀ : Heap) (k : Nat) (sc : Scope) (ρ : List (Str × Dt)) (target : Expr) (body : List Stmt) (env : Env) (Cn Cn' : List (Str × Dt) → Gh → Gh → Prop) (F₀ : Gh) (d : Dt) : Prop
  | mk (bs : List (Str × Dt)) (Bn : Binds target d bs) (hbk : BindOk sc target bs) (hbω : ∀ ω G R, Cn ω G R → ∀ x d, bs.lookup x = some d → ω.lookup x = none)
    (run : ∀ (A : Around) (F G₀ G R : Gh) (ω : List (Str × Dt)) (s : Shared) (E : Value → Shared → Prop), Ok A k → (∀ a o, F₀ a = some o → F a = some o) → Fs w h₀ sc F G₀ (bs ++ ρ) ω G s.heap env → Own2 F G R s.heap ω env → Cn ω G R →
      wpAny (model prog w) A (execs body env) (TurnP w h₀ sc F G₀ ρ env Cn' s) E s)
noncomputable def BodyE (prog : Program) (w : World) (h₀ : Heap) (k : Nat) (sc : Scope) (ρ : List (Str × Dt)) (target : Expr) (body : List Stmt) (env : Env) (Cn : Nat → List (Str × Dt) → Gh → Gh → Prop) (F₀ : Gh) (ds : List Dt) : Prop :=
  ∀ i d, ds[i]? = some d → TurnE prog w h₀ k sc ρ target body env (Cn i) (Cn (i + 1)) F₀ d

inductive LI (w : World) (h₀ : Heap) (sc : Scope) (F G1 : Gh) (ρ : List (Str × Dt)) (env : Env) (St : Nat → Heap → Prop) (Cn : Nat → List (Str × Dt) → Gh → Gh → Prop) (I : Addr) (N : Nat) (s : Shared) (n : Nat) (s' : Shared) : Prop
  | mk (H : Heap) (tk i : Nat) (Gi Ri : Gh) (o : Obj) (ω : List (Str × Dt)) (e : s' = { s with heap := H, toks := tk }) (st : St i H) (Z : Fs w h₀ sc (FI F G1 I o) G1 ρ ω Gi H env) (V : Own2 (FI F G1 I o) Gi Ri H ω env) (cn : Cn i ω Gi Ri) (hi : i ≤ N) (hn : n = N + 1 - i)

theorem for_core {target : Expr} {body : List Stmt} {ds : List Dt} {Q : Flow → Shared → Prop} {Cn : Nat → List (Str × Dt) → Gh → Gh → Prop} {I a : Addr} {oI oa : Obj} {P : Nat → Value → Prop} {St : Nat → Heap → Prop}
    (ok : Ok A k) (X : Fs w h₀ sc F G₀ ρ ω G h env) (Y : Own2 F G R h ω env) (c0 : Cn 0 ω G R) (hI : h.get? I = none) (hoa : h.get? a = some oa) (hga : G a = some oa) (hpI : s.heap.get? I = some oI) (kp : Kp h s.heap)
    (W : Walks prog w A I [I, a] [I] ds.length P St) (hst : St 0 s.heap) (hP : ∀ i u, P i u → ∃ d, ds[i]? = some d ∧ Is w G u d) (hq : ∀ i h', St i h' → ∃ o, h'.get? I = some o ∧ Quiet o) (B : BodyE prog w h₀ k sc ρ target body env Cn F ds)
    (q : ∀ h' tk G' R' ω', Fs w h₀ sc F G₀ ρ ω' G' h' env → Own2 F G' R' h' ω' env → Cn ds.length ω' G' R' → Q .next { s with heap := h', toks := tk }) :
    codeAny (model prog w) A (.forLoop target (.ref I) body [] env) (fun r s' => match r with | .ok f => Q f s' | .error e => cameBackBy (model prog w) A env E e s') s := by
  have gI : G I = none := inh_none X.rd.inh hI
  have fI : F I = none := inh_none X.inF hI
  have bI : ∀ o, h₀.get? I ≠ some o := fun o e => by have := X.base I o e; rw [fI] at this; cases this
  have fia : ∀ o, FI F G I o a = some oa := fun o => FI_G X.inF hI hoa hga
  have Y2 : Own2 (FI F G I oI) G R s.heap ω env := Y.reF (fun b o e => by
    have hb : b ≠ I := fun q => by have := Y.inR _ _ e; rw [q, hI] at this; cases this
    exact (if_neg hb).trans (by rw [(Y.off b o e).f, (Y.off b o e).g]; rfl)) X (fun y u hu => hu.keep2 kp) (Y.inR.kp kp)
  have fpOk : ∀ {o : Obj} {H H' : Heap} {i : Nat}, InH (FI F G I o) H → InH (FI F G I o) H' → St i H → St i H' := fun {o H H' i} h1 h2 st => W.frame _ _ _ st fun b hb o' e => by
    rcases List.mem_cons.mp hb with rfl | hb
    · rw [h1 _ _ FI_I] at e; cases e; exact h2 _ _ FI_I
    · cases List.mem_singleton.mp hb
      rw [h1 _ _ (fia o)] at e; cases e; exact h2 _ _ (fia o)
  refine codeAny_loop' rfl (LI w h₀ sc F G ρ env St Cn I ds.length s) (fun n s' hI' => ?_) (ds.length + 1) ⟨s.heap, s.toks, 0, G, R, oI, ω, rfl, hst, X.grow hI kp hpI, Y2, c0, Nat.zero_le _, rfl⟩
  refine nn fun no => ?_
  obtain ⟨H, tk, i, Gi, Ri, o, ωi, rfl, st, Z, V, cn, hi, rfl⟩ := hI'
  refine no ?_
  clear no
  refine wpAny_noted ?_
  refine wpAny_bind (wpAny_standAt (wpAny_bind (wpAny_onRaise ?_)))
  rcases Nat.lt_or_eq_of_le hi with hlt | rfl
  · refine W.item i _ _ _ hlt st fun u h2 tk2 hPu st2 k2 => ?_
    have b2 : Heap.ExtBut I H h2 := fun b o hb e => k2 b o (fun m => hb (List.mem_singleton.mp m)) e
    have sub1 : Sub G Gi := fun b o' e => (Z.low b o' (Z.gF b o' e)).trans e
    refine nn fun no => ?_
    obtain ⟨d', hd', iu⟩ := hP i u hPu
    obtain ⟨o2, ho2, quiet⟩ := hq _ _ st2
    obtain ⟨bs, Bn, hbk, hbω, hbody⟩ := B i d' hd'
    refine no ?_
    clear no
    have Z2 := Z.moved gI bI b2 ho2
    have V2 : Own2 (FI F G I o2) Gi Ri h2 ωi env := V.moved Z b2 fun b hb e => (FI_ne hb).trans e
    refine wpAny_bind (own_D ⟨o2, ho2, quiet⟩ (wpAny_bind (bind_D (Z2.add V2) Bn (iu.mono sub1) ok.1 hbk (hbω _ _ _ cn) fun h3 tk3 Z3 => ?_)))
    have ZV := Z3.del Z2.base Z2.gF fun b o' e => (V2.off b o' e).f
    refine wpAny_bind (wpAny_mono (hbody A _ G Gi Ri _ _ _ ok (fun b o' e => FI_F fI e) ZV.1 ZV.2 cn) (fun fl s4 hres => ?_) fun _ _ e => e)
    refine nn fun no => ?_
    obtain ⟨rfl, h4, tk4, G4, R4, ω4, rfl, Z5, V5, cn5⟩ := hres
    refine no ?_
    clear no
    exact wpAny_pure (.inl ⟨rfl, ds.length + 1 - (i + 1), Nat.sub_lt_sub_left (Nat.lt_succ_of_lt hlt) (Nat.lt_succ_self i), h4, tk4, i + 1, G4, R4, o2, ω4, rfl, fpOk Z2.inF Z5.inF st2, Z5, V5, cn5, hlt, rfl⟩)
  · refine W.done _ _ _ st fun h2 tk2 k2 => ?_
    have b2 : Heap.ExtBut I H h2 := fun b o hb e => k2 b o (fun m => hb (List.mem_singleton.mp m)) e
    have Z2 : Fs w h₀ sc F G₀ ρ ωi Gi h2 env := Z.reF ⟨o, FI_I⟩ ((Z.low I o FI_I).trans gI) b2 X.base
      (fun b o' e => b2 b o' (fun q => by rw [q, fI] at e; cases e) (Z.inF b o' (FI_F fI e)))
      (fun b o' e => (Z.low b o' (FI_F fI e)).trans (X.low b o' e)) X.gF (fun b o' e => ⟨o', FI_F fI e⟩)
    have V2 : Own2 F Gi Ri h2 ωi env := V.moved Z b2 fun b hb e => by
      cases q : F b with
      | none => rfl
      | some o3 => rw [FI_F fI q] at e; cases e
    exact wpAny_pure (.inr ⟨rfl, codeAny_block (wpAny_execs_nil (q h2 tk2 Gi Ri ωi Z2 V2 cn))⟩)

theorem for_E {target iter : Expr} {body : List Stmt} {p : Pos} {d : Dt} {ds : List Dt} {Q : Flow → Shared → Prop} {Cn : Nat → List (Str × Dt) → Gh → Gh → Prop} {ρ₁ : List (Str × Dt)} (hmono : ∀ i ω G G' R, Sub G G' → Cn i ω G R → Cn i ω G' R)
    (ok : Ok A k) (X : Fs w h₀ sc F G₀ ρ ω G s.heap env) (Y : Own2 F G R s.heap ω env) (c0 : Cn 0 ω G R) (H : Ev prog w h₀ k sc ρ iter d) (hd : d = .list ds ∨ ∃ kvs, d = .dict kvs ∧ ds = kvs.map (·.1))
    (hρ : ∀ x d, ρ₁.lookup x = some d → ρ.lookup x = some d) (B : BodyE prog w h₀ k sc ρ₁ target body env Cn F ds)
    (q : ∀ h' tk G' R' ω', Fs w h₀ sc F G₀ ρ₁ ω' G' h' env → Own2 F G' R' h' ω' env → Cn ds.length ω' G' R' → Q .next { s with heap := h', toks := tk })
    (hs : autoParam (∀ env x, foldedSetIterable iter env x = pure x) aI._auto_1) : wpAny (model prog w) A (exec (.For target iter body [] p) env) Q E s := by
  refine wpAny_For (H.go ok X.rd fun v h1 tk1 k1 i1 R1 => ?_) (hs env)
  have src := src_of (prog := prog) R1.inh i1 hd
  refine nn fun no => ?_
  obtain ⟨a, oI, P, St, ⟨oa, hoa, hga⟩, hfr, hit, W, hst, hP, hq⟩ := src
  exact no (hit A _ E _ rfl (for_core (Cn := Cn) (oI := oI) ok ((X.exl k1).weak hρ fun _ _ e => e) (Y.exl X k1) (hmono 0 ω G _ R (sub_exl (X.rd.inh.kp k1)) c0) (heap_none (Nat.le_refl _)) hoa hga (Heap.get?_push_size _ hfr) (Kp.push h1 oI) (W A ok.1) hst hP hq B q))

/-- the names are known at each turn -/
noncomputable def BodyR (prog : Program) (w : World) (h₀ : Heap) (k : Nat) (sc : Scope) (ρ : List (Str × Dt)) (ω : Nat → List (Str × Dt)) (target : Expr) (body : List Stmt) (env : Env) (Cn : Nat → Gh → Gh → Prop) (F₀ : Gh) (ds : List Dt) : Prop :=
  BodyE prog w h₀ k sc ρ target body env (fun i ω' G R => ω' = ω i ∧ Cn i G R) F₀ ds

theorem Own2.nil (hR : ∀ a, R a = none) : Own2 F G R h ω env := ⟨fun a o e => (nomatch (hR a).symm.trans e), fun a o e => (nomatch (hR a).symm.trans e)⟩
inductive TurnF (prog : Program) (w : World) (h₀ : Heap) (k : Nat) (sc : Scope) (ρ ω ω₁ : List (Str × Dt)) (target : Expr) (body : List Stmt) (d : Dt) : Prop
  | mk (bs : List (Str × Dt)) (Bn : Binds target d bs) (hbk : BindOk sc target bs) (hbω : ∀ x d, bs.lookup x = some d → ω.lookup x = none)
    (run : Ex prog w h₀ k sc (bs ++ ρ) ω body fun c => ∃ ρ' ω', c = .next ρ' ω' ∧ (∀ x d, ρ.lookup x = some d → ρ'.lookup x = some d) ∧ (∀ x d, ω₁.lookup x = some d → ω'.lookup x = some d))
noncomputable def ForBody (prog : Program) (w : World) (h₀ : Heap) (k : Nat) (sc : Scope) (ρ : List (Str × Dt)) (ω : Nat → List (Str × Dt)) (target : Expr) (body : List Stmt) (ds : List Dt) : Prop :=
  ∀ i d, ds[i]? = some d → TurnF prog w h₀ k sc ρ (ω i) (ω (i + 1)) target body d

theorem Es.for_ {target iter : Expr} {body : List Stmt} {p : Pos} {d : Dt} {ds : List Dt} {Q : Ctl → Prop} (ρ₁ : List (Str × Dt)) (ωi : Nat → List (Str × Dt)) (H : Ev prog w h₀ k sc ρ iter d) (hd : d = .list ds ∨ ∃ kvs, d = .dict kvs ∧ ds = kvs.map (·.1))
    (hρ : ∀ x d, ρ₁.lookup x = some d → ρ.lookup x = some d) (hω : ∀ x d, (ωi 0).lookup x = some d → ω.lookup x = some d) (B : ForBody prog w h₀ k sc ρ₁ ωi target body ds) (q : Q (.next ρ₁ (ωi ds.length)))
    (hs : autoParam (∀ env x, foldedSetIterable iter env x = pure x) aI._auto_1) : Es prog w h₀ k sc ρ ω (.For target iter body [] p) Q := .mk fun A F G₀ G env s E ok X =>
  for_E (R := fun _ => none) (Cn := fun i ω' _ _ => ω' = ωi i) (fun _ _ _ _ _ _ c => c) ok (X.weak (fun _ _ e => e) hω) (.nil fun _ => rfl) rfl H hd hρ (fun i d hi => by
    obtain ⟨bs, Bn, hbk, hbω, run⟩ := B i d hi
    refine ⟨bs, Bn, hbk, fun ω' G R c => c ▸ hbω, fun A F G₀ G R ω' s E ok _ Z V c => ?_⟩
    subst c
    refine wpAny_mono (run.run A F G₀ G env s E ok Z) (fun fl s4 hres => ?_) fun _ _ e => e
    obtain ⟨c, h4, tk4, rfl, ⟨ρ', ω'', rfl, hr1, hr2⟩, rfl, G4, Y4⟩ := hres
    exact ⟨rfl, h4, tk4, G4, fun _ => none, _, rfl, Y4.weak hr1 hr2, .nil fun _ => rfl, rfl⟩) (fun h' tk G' R' ω' Z V c => ⟨_, h', tk, rfl, q, rfl, G', c ▸ Z⟩) hs
end
end Mine
end

section
open PySem PySem.Spec PySem.Calls PyProof.Rows
namespace Mine
open scoped Classical

/-! Part Y: more statements -/
theorem not_sys {h₀ h : Heap} (hl : h₀.NoLimit) (kp : Kp h₀ h) : h.objs.size ≠ sysModules := by
  refine nn fun hno_ => ?_
  obtain ⟨mc, ⟨o, es, ep, ho, _⟩, _⟩ := hl
  refine hno_ ?_
  clear hno_
  have := Heap.lt_size (kp _ _ ho)
  intro e
  rw [e] at this
  exact absurd this (by decide)

section
variable {prog : Program} {w : World} {h₀ : Heap} {sc : Scope} {F G₀ : Gh} {ρ ω : List (Str × Dt)} {k : Nat} {G G' : Gh} {s : Shared} {env : Env} {A : Around} {E : Value → Shared → Prop} {h h' : Heap}

theorem load_At {x : Str} {v : Value} {Q : Value → Shared → Prop} (X : Fs w h₀ sc F G₀ ρ ω G s.heap env) (a : At s.heap env x v) (hc : (x == ("__classdict__" : Str)) = false) (q : Q v s) : wpAny (model prog w) A (loadName env x) Q E s := by
  have hf : env.scope.kind = .function := X.rd.scope ▸ X.rd.kind
  rcases a with ⟨h1, m, h2, h3⟩ | ⟨h1 | h1, c, h2, h3⟩
  · exact wpAny_loadName_local hf h1 h2 h3 q
  · exact wpAny_loadName_cell hf h1 h2 h3 q
  · exact wpAny_loadName_free hf h1 h2 h3 q hc

theorem in_rm {a : Addr} (gh : InH G h) : InH (rm G a) h := fun b o e => by
  unfold rm at e
  split at e
  · cases e
  · exact gh b o e

/-- a fresh list becomes the frame's own -/
theorem fresh_own {a : Addr} {ds : List Dt} (X : Fs w h₀ sc F G₀ ρ ω G h env) (kp : Kp h h') (ha : h.get? a = none) (i : Is w (exl G h h') (.ref a) (.list ds)) :
    Fs w h₀ sc F G₀ ρ ω (rm (exl G h h') a) h' env ∧ LAt w (rm (exl G h h') a) h' a ds ∧ rm (exl G h h') a a = none ∧ F a = none ∧ a ≠ env.locals ∧ (∀ y c, env.cells.lookup y = some c → a ≠ c) ∧
      (∀ y d b, ω.lookup y = some d → At h' env y (.ref b) → b ≠ a) := by
  have gh := exl_in (h := h) (X.rd.inh.kp kp)
  have ne : ∀ {b o}, h.get? b = some o → b ≠ a := fun e q => by subst q; rw [ha] at e; cases e
  refine ⟨X.to kp (in_rm gh) fun b o e => ?_, ?_, ?_, ?_, ?_, ?_, ?_⟩
  · unfold rm; rw [if_neg (ne e)]; unfold exl; rw [e]
  · cases i with
    | @list _ vs n _ hv hs =>
      have i' : Is w (exl G h h') (.ref a) (.list ds) := .list hv hs
      exact ⟨⟨vs, n, gh _ _ hv, IsAll_rm hv i' hs (by simp)⟩⟩
  · unfold rm; rw [if_pos rfl]
  · cases q : F a with
    | none => rfl
    | some o => rw [X.inF a o q] at ha; cases ha
  · obtain ⟨m, o, es, ep, ho, _⟩ := X.ns
    exact Ne.symm (ne ho)
  · intro y c e
    obtain ⟨_, _, _, v, o, ho, _⟩ := X.cell y c e
    exact Ne.symm (ne ho)
  · intro y d b e hat
    obtain ⟨b', g1, g2, _⟩ := X.own y d e
    obtain ⟨o, ho⟩ := g2.live
    obtain rfl := ref_inj ((g1.keep2 kp).det hat)
    exact ne ho

theorem Fs.bindOwn {x : Str} {a : Addr} {d : Dt} {ρ' : List (Str × Dt)} (X : Fs w h₀ sc F G₀ ρ ω G h env) (hb : ∃ b, (b = env.locals ∨ ∃ y, env.cells.lookup y = some b) ∧ Heap.ExtBut b h h') (hat : At h' env x (.ref a))
    (hk : ∀ y u, y ≠ x → At h env y u → At h' env y u) (hns : ∃ m, h'.Ns env.locals m) (hc : ∀ y b, env.cells.lookup y = some b → ∃ u, h'.IsCell b u) (hω : ω.lookup x = none) (hρ : ∀ y d, ρ'.lookup y = some d → y ≠ x ∧ ρ.lookup y = some d)
    (h2 : OAt w G h a d) (h3 : G a = none) (h4 : F a = none) (h5 : a ≠ env.locals) (h6 : ∀ y c, env.cells.lookup y = some c → a ≠ c) (h7 : ∀ y d b, ω.lookup y = some d → At h env y (.ref b) → b ≠ a) :
    Fs w h₀ sc F G₀ ρ' ((x, d) :: ω) G h' env := by
  have ow : ∀ y d, ω.lookup y = some d → y ≠ x := fun y d e q => by subst q; rw [hω] at e; cases e
  have Y : Fs w h₀ sc F G₀ ρ' ω G h' env := X.bound hb hk hns hc ow fun y e hy => by
    obtain ⟨hyx, hy⟩ := hρ y e hy
    obtain ⟨u, hu, hau⟩ := X.rd.names y e hy
    exact ⟨u, hu, hk y u hyx hau⟩
  refine nn fun hno_ => ?_
  obtain ⟨b, hb1, kb⟩ := hb
  refine hno_ ?_
  clear hno_
  have hab : a ≠ b := by rcases hb1 with rfl | ⟨z, e'⟩; exact h5; exact h6 z b e'
  refine Y.addOwn hat (h2.mono (fun _ _ e => e) (fun o e => kb a o hab e)) h3 h4 h5 h6 (fun y d b e hy => ?_) hω
  obtain ⟨b', g1, g2, _⟩ := X.own y d e
  obtain rfl := ref_inj ((hk y _ (ow y d e) g1).det hy)
  exact h7 y d _ e g1

theorem Es.own {e : Expr} {ds : List Dt} {x : Str} {p p' : Pos} {Q : Ctl → Prop} (H : EvF prog w h₀ k sc ρ e ds) (q : Q (.next ρ ((x, .list ds) :: ω))) (hx : autoParam (sc.names.lookup x = some .local ∨ sc.names.lookup x = some .cell) aO._auto_1) (hω : autoParam (ω.lookup x = none) aR._auto_1) (hρ : autoParam (ρ.lookup x = none) aR._auto_1)
    (hs : autoParam (isComp e = false) aR._auto_1) : Es prog w h₀ k sc ρ ω (.Assign [.Name x p'] e p) Q := .mk fun A F G₀ G env s E ok X =>
  wpAny_Assign_Name (wpAny_mono (H.run A G env s E ok X.rd) (fun v s' x => by
    obtain ⟨a, h1, tk, rfl, ha, rfl, k1, i1⟩ := x
    refine nn fun hno_ => ?_
    obtain ⟨X1, l1, g1, f1, n1, c1, o1⟩ := fresh_own X k1 ha i1
    refine hno_ ?_
    clear hno_
    exact store_D X1 hx fun h2 tk2 hb hat hk hns hc => ⟨_, h2, tk2, rfl, q, rfl, _, X1.bindOwn hb hat hk hns hc hω (fun y d e => ⟨fun q => (by subst q; rw [hρ] at e; cases e), e⟩) (d := .list ds) l1 g1 f1 n1 c1 o1⟩) fun _ _ e => e) (swaps_no hs)

theorem Es.ownDict {x : Str} {p p' p'' : Pos} {Q : Ctl → Prop} (hl : h₀.NoLimit) (q : Q (.next ρ ((x, .dict []) :: ω))) (hx : autoParam (sc.names.lookup x = some .local ∨ sc.names.lookup x = some .cell) aO._auto_1) (hω : autoParam (ω.lookup x = none) aR._auto_1) (hρ : autoParam (ρ.lookup x = none) aR._auto_1) :
    Es prog w h₀ k sc ρ ω (.Assign [.Name x p'] (.Dict [] [] p'') p) Q := .mk fun A F G₀ G env s E ok X =>
  wpAny_Assign_Name (wpAny_Dict_empty (by
    have kp := Kp.push s.heap { cls := .type "dict", data := .dict #[] }
    have X1 := X.same kp
    have fr : s.heap.get? s.heap.objs.size = none := heap_none (Nat.le_refl _)
    have ne : ∀ {b o}, s.heap.get? b = some o → b ≠ s.heap.objs.size := fun e q => by rw [q, fr] at e; cases e
    have hD : DAt w G (s.heap.push { cls := .type "dict", data := .dict #[] }) s.heap.objs.size [] := ⟨⟨#[], 0, Heap.get?_push_size _ rfl, .nil⟩, List.nodup_nil, not_sys hl X.rd.keep⟩
    refine store_D X1 hx fun h2 tk2 hb hat hk hns hc => ⟨_, h2, tk2, rfl, q, rfl, _, X1.bindOwn hb hat hk hns hc hω (fun y d e => ⟨fun q => (by subst q; rw [hρ] at e; cases e), e⟩) (d := .dict []) hD ?_ ?_ ?_ ?_ ?_⟩
    · cases q : G s.heap.objs.size with
      | none => rfl
      | some o => rw [X.rd.inh _ o q] at fr; cases fr
    · cases q : F s.heap.objs.size with
      | none => rfl
      | some o => rw [X.inF _ o q] at fr; cases fr
    · obtain ⟨m, o, es, ep, ho, _⟩ := X.ns
      exact Ne.symm (ne ho)
    · intro y c e
      obtain ⟨_, _, _, v, o, ho, _⟩ := X.cell y c e
      exact Ne.symm (ne ho)
    · intro y d b e hat
      obtain ⟨b', g1, g2, _⟩ := X.own y d e
      obtain ⟨o, ho⟩ := g2.live
      obtain rfl := ref_inj ((g1.keep2 kp).det hat)
      exact ne ho)) rfl

/-- found.append(e) -/
theorem Es.append {x : Str} {e : Expr} {d : Dt} {ds : List Dt} {np apos pos p : Pos} {Q : Ctl → Prop} (H : Ev prog w h₀ k sc ρ e d) (hz : ds.length ≤ 5000) (q : Q (.next ρ ((x, .list (ds ++ [d])) :: ω))) (hω : autoParam (ω.lookup x = some (.list ds)) aR._auto_1)
    (hc : autoParam ((x == ("__classdict__" : Str)) = false) aD._auto_1) (hd : autoParam ((x == ("__debug__" : Str)) = false) aD._auto_1)
    (hline : autoParam ((apos.endLine == pos.line) = true) aR._auto_1) (ht : autoParam (starred e = false) aR._auto_1) :
    Es prog w h₀ k sc ρ ω (.Expr (.Call (.Attribute (.Name x np) "append" apos) [e] [] pos) p) Q := .mk fun A F G₀ G env s E ok X => by
  obtain ⟨a, g1, g2, g3, g4, g5, g6⟩ := X.own x _ hω
  refine wpAny_Expr (wpAny_Call_method1_late rfl hline (back_one ht) (wpAny_Name (load_At X g1 hc ?_) hd)) (hi := by unfold interactive; rw [X.rd.scope, X.rd.kind]; rfl)
  have g2' : LAt w G s.heap a ds := g2
  obtain ⟨vs, n, hv, iv⟩ := g2'.obj
  refine ⟨"list", "list.append", PySem.F.plainAttrs_list, PySem.F.slot_list_append, PySem.F.type_list_append, ⟨_, hv, rfl⟩, fun b e => by cases e; exact ⟨_, hv, rfl⟩, ?_⟩
  refine PySem.P.append_list (H.go ok X.rd fun v h1 tk1 k1 i1 R1 => ⟨vs, n, ?_, k1 _ _ hv, ?_⟩)
  · have := iv.length; simp only [Array.length_toList] at this; unfold sizeLine; lia
  · have X1 := X.exl k1
    have kb : Heap.ExtBut a h1 (h1.update a (Obj.mapSeq fun xs => xs.push v)) := (Heap.SameBut.update ..).extBut
    refine ⟨_, _, tk1, rfl, q, rfl, _, X1.mut (d := .list ds) hω (g1.keep2 k1) kb ?_⟩
    exact ⟨⟨vs.push v, _, IsL.update (k1 _ _ hv) (fun xs => xs.push v), by
      rw [Array.toList_push]
      exact (iv.mono (sub_exl (X.rd.inh.kp k1))).snoc i1⟩⟩

/-- found.extend(e) -/
theorem Es.extend {x : Str} {e : Expr} {es ds : List Dt} {np apos pos p : Pos} {Q : Ctl → Prop} (H : Ev prog w h₀ k sc ρ e (.list es)) (hz : ds.length + es.length ≤ 5000) (q : Q (.next ρ ((x, .list (ds ++ es)) :: ω))) (hω : autoParam (ω.lookup x = some (.list ds)) aR._auto_1)
    (hc : autoParam ((x == ("__classdict__" : Str)) = false) aD._auto_1) (hd : autoParam ((x == ("__debug__" : Str)) = false) aD._auto_1)
    (hline : autoParam ((apos.endLine == pos.line) = true) aR._auto_1) (ht : autoParam (starred e = false) aR._auto_1) :
    Es prog w h₀ k sc ρ ω (.Expr (.Call (.Attribute (.Name x np) "extend" apos) [e] [] pos) p) Q := .mk fun A F G₀ G env s E ok X => by
  obtain ⟨a, g1, g2, g3, g4, g5, g6⟩ := X.own x _ hω
  refine wpAny_Expr (wpAny_Call_method1_late rfl hline (back_one ht) (wpAny_Name (load_At X g1 hc ?_) hd)) (hi := by unfold interactive; rw [X.rd.scope, X.rd.kind]; rfl)
  have g2' : LAt w G s.heap a ds := g2
  obtain ⟨vs, n, hv, iv⟩ := g2'.obj
  refine ⟨"list", "list.extend", PySem.F.plainAttrs_list, PySem.F.slot_list_extend, PySem.F.type_list_extend, ⟨_, hv, rfl⟩, fun b e => by cases e; exact ⟨_, hv, rfl⟩, ?_⟩
  refine PySem.P.extend_list (H.go ok X.rd fun v h1 tk1 k1 i1 R1 => ?_)
  cases i1 with
  | @list b us c _ hb hs =>
    have e1 := iv.length
    have e2 := hs.length
    simp only [Array.length_toList] at e1 e2
    refine ⟨b, vs, us, n, c, by unfold sizeLine; lia, by unfold sizeLine; lia, ?_, rfl, k1 _ _ hv, R1.inh _ _ hb, ?_⟩
    · have : ¬ vs.size + us.size > sizeLine := by unfold sizeLine; lia
      unfold Builtin.List.listTooLong
      simp [this]
    · have X1 := X.exl k1
      have kb : Heap.ExtBut a h1 (h1.update a (Obj.mapSeq fun xs => xs ++ us)) := (Heap.SameBut.update ..).extBut
      refine ⟨_, _, tk1, rfl, q, rfl, _, X1.mut (d := .list ds) hω (g1.keep2 k1) kb ?_⟩
      exact ⟨⟨vs ++ us, _, IsL.update (k1 _ _ hv) (fun xs => xs ++ us), by
        rw [Array.toList_append]
        exact (iv.mono (sub_exl (X.rd.inh.kp k1))).append hs⟩⟩
end
end Mine
end

section
open PySem PySem.Spec PySem.Calls PyProof.Rows
namespace Mine
open scoped Classical

/-! Part Z: stores into dicts, tuple assignments -/
mutual
noncomputable def nd : Dt → Bool
  | .dict _ => false
  | .inst _ _ => false
  | .tup l => nds l
  | .list l => nds l
  | _ => true
noncomputable def nds : List Dt → Bool
  | [] => true
  | d :: r => nd d && nds r
end
theorem nds_iff : ∀ {l : List Dt}, nds l = true ↔ ∀ d ∈ l, nd d = true
  | [] => by simp [nds]
  | d :: r => by simp [nds, nds_iff (l := r)]

section
variable {w : World} {G G' : Gh}
theorem Is.nodict (hG : ∀ b vs n, (G b = some (tupObj vs n) → G' b = some (tupObj vs n)) ∧ (G b = some (lstObj vs n) → G' b = some (lstObj vs n))) {v : Value} {d : Dt} (x : Is w G v d) (h : nd d = true) : Is w G' v d :=
  Is.rec (motive_1 := fun v d _ => nd d = true → Is w G' v d) (motive_2 := fun vs ds _ => nds ds = true → IsAll w G' vs ds) (motive_3 := fun _ _ _ => True) (motive_4 := fun _ _ _ => True)
    (fun _ => .none) (fun b _ => .bool b) (fun i t _ => .int i t) (fun x t h _ => .str x t h) (fun a _ ih h => .tup ((hG _ _ _).1 a) (ih (by rwa [nd] at h))) (fun a _ ih h => .list ((hG _ _ _).2 a) (ih (by rwa [nd] at h)))
    (fun _ _ _ _ _ h => absurd (by rwa [nd] at h) Bool.false_ne_true) (fun _ _ _ _ _ h => absurd (by rwa [nd] at h) Bool.false_ne_true)
    (fun _ => .nil) (fun _ _ ih ih' h => by rw [nds, Bool.and_eq_true] at h; exact .cons (ih h.1) (ih' h.2)) trivial (fun _ _ _ _ _ _ _ _ => trivial) trivial (fun _ _ _ _ => trivial) x h
theorem IsAll.nodict (hG : ∀ b vs n, (G b = some (tupObj vs n) → G' b = some (tupObj vs n)) ∧ (G b = some (lstObj vs n) → G' b = some (lstObj vs n))) {vs : List Value} {ds : List Dt} (x : IsAll w G vs ds) : nds ds = true → IsAll w G' vs ds :=
  x.ind (P := fun vs ds => nds ds = true → IsAll w G' vs ds) (fun _ => .nil) (fun a _ ih h => by rw [nds, Bool.and_eq_true] at h; exact .cons (a.nodict hG h.1) (ih h.2))
end

section
variable {prog : Program} {w : World} {h₀ : Heap} {sc : Scope} {F G₀ : Gh} {ρ ω : List (Str × Dt)} {k : Nat} {G G' : Gh} {s : Shared} {env : Env} {A : Around} {E : Value → Shared → Prop} {h h' : Heap}

theorem storeF_D {x : Str} {v : Value} {d : Dt} {Q : Unit → Shared → Prop} (X : Fs w h₀ sc F G₀ ρ ω G s.heap env) (iv : Is w G v d) (hx : sc.names.lookup x = some .local ∨ sc.names.lookup x = some .cell) (hω : ω.lookup x = none)
    (c : ∀ h' tk, Fs w h₀ sc F G₀ ((x, d) :: ρ) ω G h' env → Q () { s with heap := h', toks := tk }) : wpAny (model prog w) A (storeName env x v) Q E s :=
  store_D X hx fun h2 tk2 hb hat hk hns hc => c h2 tk2 (X.bound hb hk hns hc (fun y d e q => by subst q; rw [hω] at e; cases e) fun y e hy => by
    rw [List.lookup_cons] at hy
    by_cases hyx : y = x
    · subst hyx; rw [beq_self_eq_true] at hy; cases hy; exact ⟨v, iv, hat⟩
    · rw [beq_eq_false_iff_ne.mpr hyx] at hy
      obtain ⟨u, hu, hau⟩ := X.rd.names y e hy
      exact ⟨u, hu, hk y u hyx hau⟩)

/-- found[ke] = e -/
theorem Es.store {x : Str} {e ke : Expr} {d key : Dt} {kvs : List (Dt × Dt)} {np spos p : Pos} {Q : Ctl → Prop} (H : Ev prog w h₀ k sc ((x, .dict kvs) :: ρ) e d) (hn : nd d = true) (J : Ev prog w h₀ k sc ρ ke key) (hk : hk 6 key = true)
    (hz : kvs.length ≤ 5000) (q : Q (.next ρ ((x, .dict (dset kvs key d)) :: ω))) (hω : autoParam (ω.lookup x = some (.dict kvs)) aR._auto_1)
    (hc : autoParam ((x == ("__classdict__" : Str)) = false) aD._auto_1) (hd : autoParam ((x == ("__debug__" : Str)) = false) aD._auto_1) :
    Es prog w h₀ k sc ρ ω (.Assign [.Subscript (.Name x np) ke spos] e p) Q := .mk fun A F G₀ G env s E ok X => by
  refine wpAny_Assign_stores ?_ swaps_sub swapped_sub
  refine nn fun hno_ => ?_
  obtain ⟨G₁, sb, ⟨a, o, hat, ho, hGa, hFa, rfl, hOA⟩, X'⟩ := X.freeze hω (fun _ _ e => nomatch e)
  refine hno_ ?_
  clear hno_
  refine H.go ok X'.rd fun v h1 tk1 k1 i1 R1 => ?_
  have X1 := X.exl k1
  have iv : Is w (exl G s.heap h1) v d := by
    refine i1.nodict (fun b vs n => ?_) hn
    refine nn fun hno_ => ?_
    obtain ⟨es, c, hdic, _⟩ := DAt.obj hOA
    refine hno_ ?_
    clear hno_
    rw [ho] at hdic; cases hdic
    have key : ∀ ob : Obj, ob ≠ dicObj es c → exl (put G a (dicObj es c)) s.heap h1 b = some ob → exl G s.heap h1 b = some ob := fun ob hne e => by
      unfold exl at e ⊢
      cases q : s.heap.get? b with
      | none => rw [q] at e; exact e
      | some o' =>
        rw [q] at e
        unfold put at e
        dsimp only at e ⊢
        split at e
        · cases e; exact absurd rfl hne
        · exact e
    exact ⟨key _ (by simp), key _ (by simp)⟩
  show wpAny _ A (PySem.assign (.Subscript (.Name x np) ke spos) env v) _ _ _
  refine wpAny_bind (wpAny_holding (wpAny_Name (load_At X1 (hat.keep2 k1) hc ?_) hd))
  refine wpAny_bind (wpAny_holding (J.go ok X1.rd fun kv h2 tk2 k2 i2 R2 => ?_))
  have X2 := X1.exl k2
  have hD2 : DAt w (exl (exl G s.heap h1) h1 h2) h2 a kvs := DAt.mono hOA (fun b o e => sub_exl (X1.rd.inh.kp k2) _ _ (sub_exl (X.rd.inh.kp k1) _ _ e)) (fun o e => k2 _ _ (k1 _ _ e))
  refine wpAny_bind (wpAny_standAt (wpAny_bind (wpAny_holding (dictStore_D R2.inh (ok.u 100 (by lia)) hD2 hk i2 (iv.mono (sub_exl (X1.rd.inh.kp k2))) hz fun h3 tk3 hD3 s3 => ?_))))
  refine wpAny_release ?_
  exact ⟨_, h3, tk3, rfl, q, rfl, _, X2.mut (d := .dict kvs) hω ((hat.keep2 k1).keep2 k2) s3.extBut hD3⟩

theorem tuple_items {t : Addr} {vs : List Value} {c : Nat} (ht : h.get? t = some (tupObj vs.toArray c)) : h.IsTuple t vs.toArray := ⟨_, ht, rfl, c, rfl⟩

/-- x, y, z = (e1, e2, e3), of which the last is a list of the frame's own -/
theorem Es.swap3 {e1 e2 e3 : Expr} {d1 d2 : Dt} {ds : List Dt} {x y z : Str} {px py pz tp vp p : Pos} {kd kd' : Nat} {Q : Ctl → Prop} (H1 : Ev prog w h₀ k sc ρ e1 d1) (H2 : Ev prog w h₀ k sc ρ e2 d2) (H3 : EvF prog w h₀ k sc ρ e3 ds)
    (hw : ∀ env, env.scope = sc → swappedStores [.Tuple [.Name x px, .Name y py, .Name z pz] kd tp] (.Tuple [e1, e2, e3] kd' vp) env = pure (some [x, y, z]))
    (q : Q (.next ((x, d1) :: (y, d2) :: ρ) ((z, .list ds) :: ω)))
    (hx : autoParam (sc.names.lookup x = some .local) aR._auto_1) (hy : autoParam (sc.names.lookup y = some .local) aR._auto_1) (hz : autoParam (sc.names.lookup z = some .local) aR._auto_1) (hxz : autoParam (x ≠ z) aD._auto_1) (hyz : autoParam (y ≠ z) aD._auto_1)
    (ωx : autoParam (ω.lookup x = none) aR._auto_1) (ωy : autoParam (ω.lookup y = none) aR._auto_1) (ωz : autoParam (ω.lookup z = none) aR._auto_1) (ρz : autoParam (ρ.lookup z = none) aR._auto_1)
    (he1 : autoParam (starred e1 = false) aR._auto_1) (he2 : autoParam (starred e2 = false) aR._auto_1) (he3 : autoParam (starred e3 = false) aR._auto_1) :
    Es prog w h₀ k sc ρ ω (.Assign [.Tuple [.Name x px, .Name y py, .Name z pz] kd tp] (.Tuple [e1, e2, e3] kd' vp) p) Q := .mk fun A F G₀ G env s E ok X => by
  refine Assign_Tuple_swapped (names := [x, y, z]) ?_ rfl (hw env X.rd.scope)
  refine wpAny_Tuple (wpAny_items_cons (H1.go ok X.rd fun v1 h1 tk1 k1 i1 R1 => wpAny_items_cons (H2.go ok R1 fun v2 h2 tk2 k2 i2 R2 => wpAny_items_cons (wpAny_mono (H3.run A _ env _ E ok R2) (fun v3 s3 ⟨a, h3, tk3, e0, ha, e1', k3, i3⟩ => wpAny_items_nil ?_) fun _ _ e => e) (star_cons he3)) (star_cons he2)) (star_cons he1))
  subst e0; subst e1'
  have X2 := (X.exl k1).exl k2
  refine nn fun hno_ => ?_
  obtain ⟨X3, l3, g3, f3, n3, c3, o3⟩ := fresh_own X2 k3 ha i3
  refine hno_ ?_
  clear hno_
  refine ⟨by show 3 ≤ sizeLine; unfold sizeLine; lia, ?_⟩
  generalize hG3 : rm (exl (exl (exl G s.heap h1) h1 h2) h2 h3) a = G3 at *
  have sub2 : Sub (exl (exl G s.heap h1) h1 h2) G3 := fun b o e => by
    rw [← hG3]; unfold rm
    have hb := X2.rd.inh b o e
    rw [if_neg (fun q => by subst q; rw [ha] at hb; cases hb)]
    exact sub_exl (X2.rd.inh.kp k3) _ _ e
  have j1 : Is w G3 v1 d1 := (i1.mono (sub_exl ((X.exl k1).rd.inh.kp k2))).mono sub2
  have j2 : Is w G3 v2 d2 := i2.mono sub2
  have kp4 := Kp.push h3 (tupObj [v1, v2, .ref a].toArray 0)
  have X4 := X3.same kp4
  refine wpAny_unpackItems_tuple ok.1 (items := [v1, v2, .ref a].toArray) (tuple_items (c := 0) (Heap.get?_push_size _ rfl)) fun h5 k5 => ?_
  have kp5 : Kp (h3.push (tupObj [v1, v2, .ref a].toArray 0)) h5 := fun b o e => k5 b o (Nat.ne_of_lt (Heap.lt_size e)) e
  have X5 := X4.same kp5
  have l5 : LAt w G3 h5 a ds := l3.mono (fun _ _ e => e) (fun o e => kp5 _ _ (kp4 _ _ e))
  have o5 : ∀ y d b, ω.lookup y = some d → At h5 env y (.ref b) → b ≠ a := fun y d b e hat => by
    obtain ⟨b', g1, _⟩ := X3.own y d e
    obtain rfl := ref_inj (((g1.keep2 kp4).keep2 kp5).det hat)
    exact o3 y d _ e g1
  show wpAny _ A (assignInOrder [bindName env z, bindName env y, bindName env x] [.ref a, v2, v1]) _ _ _
  refine assignInOrder_cons (wpAny_bindName (store_D X5 (.inl hz) fun h6 tk6 hb hat hk hns hc => ?_))
  have X6 : Fs w h₀ sc F G₀ ρ ((z, .list ds) :: ω) G3 h6 env := X5.bindOwn hb hat hk hns hc ωz (fun y d e => ⟨fun q => (by subst q; rw [ρz] at e; cases e), e⟩) (d := .list ds) l5 g3 f3 n3 c3 o5
  refine assignInOrder_cons (wpAny_bindName (storeF_D X6 j2 (.inl hy) (by rw [List.lookup_cons, beq_eq_false_iff_ne.mpr hyz]; exact ωy) fun h7 tk7 X7 => ?_))
  refine assignInOrder_cons (wpAny_bindName (storeF_D X7 j1 (.inl hx) (by rw [List.lookup_cons, beq_eq_false_iff_ne.mpr hxz]; exact ωx) fun h8 tk8 X8 => ?_))
  exact assignInOrder_nil ⟨_, h8, tk8, rfl, q, rfl, _, X8⟩

/-- x, y = (e1, e2), by the plain road -/
theorem Es.pair {e1 e2 : Expr} {d1 d2 : Dt} {x y : Str} {px py tp vp p : Pos} {kd kd' : Nat} {Q : Ctl → Prop} (H1 : Ev prog w h₀ k sc ρ e1 d1) (H2 : Ev prog w h₀ k sc ρ e2 d2)
    (hw : ∀ env, env.scope = sc → swappedStores [.Tuple [.Name x px, .Name y py] kd tp] (.Tuple [e1, e2] kd' vp) env = pure none)
    (q : Q (.next ((y, d2) :: (x, d1) :: ρ) ω))
    (hx : autoParam (sc.names.lookup x = some .local ∨ sc.names.lookup x = some .cell) aO._auto_1) (hy : autoParam (sc.names.lookup y = some .local ∨ sc.names.lookup y = some .cell) aO._auto_1) (ωx : autoParam (ω.lookup x = none) aR._auto_1) (ωy : autoParam (ω.lookup y = none) aR._auto_1)
    (he1 : autoParam (starred e1 = false) aR._auto_1) (he2 : autoParam (starred e2 = false) aR._auto_1) :
    Es prog w h₀ k sc ρ ω (.Assign [.Tuple [.Name x px, .Name y py] kd tp] (.Tuple [e1, e2] kd' vp) p) Q := .mk fun A F G₀ G env s E ok X => by
  refine wpAny_Assign_stores ?_ rfl (hw env X.rd.scope)
  refine (Ev.tup (ds := [d1, d2]) (Evs.cons H1 (Evs.cons H2 Evs.nil he2) he1) (by simp)).go ok X.rd fun v h1 tk1 k1 i1 R1 => ?_
  have X1 := X.exl k1
  show wpAny _ A (PySem.assign (.Tuple [.Name x px, .Name y py] kd tp) env v) _ _ _
  cases i1 with
  | @tup t vs c _ ht hs =>
    obtain ⟨vl⟩ := vs
    cases hs with
    | cons j1 hs =>
      cases hs with
      | cons j2 hs =>
        cases hs
        refine wpAny_assign_Tuple ok.1 ⟨_, R1.inh _ _ ht, rfl, c, rfl⟩ rfl rfl fun h2 k2 => ?_
        have kp2 : Kp h1 h2 := fun b o e => k2 b o (Nat.ne_of_lt (Heap.lt_size e)) e
        have X2 := X1.same kp2
        refine assignInOrder_cons (wpAny_assign_Name (storeF_D X2 j1 hx ωx fun h3 tk3 X3 => ?_))
        refine assignInOrder_cons (wpAny_assign_Name (storeF_D X3 j2 hy ωy fun h4 tk4 X4 => ?_))
        exact assignInOrder_nil ⟨_, h4, tk4, rfl, q, rfl, _, X4⟩

/-- what is nobody's has changed -/
theorem Fs.off {C : Addr} (X : Fs w h₀ sc F G₀ ρ ω G h env) (kb : Heap.ExtBut C h h') (fC : F C = none) (gC : G C = none) (nL : C ≠ env.locals) (nc : ∀ y c, env.cells.lookup y = some c → C ≠ c) (no : ∀ y d b, ω.lookup y = some d → At h env y (.ref b) → b ≠ C) :
    Fs w h₀ sc F G₀ ρ ω G h' env := by
  have keepAt : ∀ y u, At h env y u → At h' env y u := fun y u hu => by
    rcases hu with ⟨g1, m', g2, g3⟩ | ⟨g1, c', g2, g3⟩
    · exact .inl ⟨g1, m', g2.extBut kb (Ne.symm nL), g3⟩
    · exact .inr ⟨g1, c', g2, let ⟨o, ho, hd⟩ := g3; ⟨o, kb _ _ (Ne.symm (nc y c' g2)) ho, hd⟩⟩
  have inF' := in_but X.inF kb fC
  exact {
    rd := { scope := X.rd.scope, kind := X.rd.kind, glob := X.rd.glob, bi := X.rd.bi, keep := fun a o e => inF' a o (X.base a o e), inh := in_but X.rd.inh kb gC, cells := X.rd.cells, names := fun y d e => let ⟨v, hv, hu⟩ := X.rd.names y d e; ⟨v, hv, keepAt y v hu⟩ }
    base := X.base
    inF := inF'
    low := X.low
    gF := X.gF
    ns := let ⟨m, hn⟩ := X.ns; ⟨m, hn.extBut kb (Ne.symm nL)⟩
    FL := X.FL
    GL := X.GL
    cell := fun y c e => let ⟨g1, g2, g3, v, o, ho, hd⟩ := X.cell y c e; ⟨g1, g2, g3, v, o, kb _ _ (Ne.symm (nc y c e)) ho, hd⟩
    apart := X.apart
    own := fun y e hy => by
      obtain ⟨b, g1, g2, g3, g4, g5, g6⟩ := X.own y e hy
      exact ⟨b, keepAt _ _ g1, g2.mono (fun _ _ e => e) (fun o e => kb b o (no y _ b hy g1) e), g3, g4, g5, g6⟩
    oapart := fun y z d1 e1 b g1 g2 g3 g4 => by
      obtain ⟨b1, q1, _⟩ := X.own y d1 g1
      obtain ⟨b2, q2, _⟩ := X.own z e1 g2
      have e1 := (keepAt y _ q1).det g3
      have e2 := (keepAt z _ q2).det g4
      cases e1; cases e2
      exact X.oapart y z _ _ b g1 g2 q1 q2 }

/-- y = [comprehension], where the compiler keeps the name's place on the stack -/
theorem Es.compAssign {elt target iter : Expr} {ifs : List Expr} {scope : Scope} {pos py spos : Pos} {y : Str} {d : Dt} {ds : List Dt} {Q : Ctl → Prop} (p : Dt → Bool) (f : Dt → Dt)
    (H : Ev prog w h₀ k sc ρ iter d) (hd : d = .list ds ∨ ∃ kvs, d = .dict kvs ∧ ds = kvs.map (·.1)) (hz : ds.length ≤ 5000) (S : CompScope sc scope)
    (body : CompBody prog w h₀ k sc scope ρ target ifs elt ds p f) (q : Q (.next ((y, .list ((ds.filter p).map f)) :: ρ) ω))
    (hsw : ∀ env, env.scope = sc → swapsWith (.ListComp elt [⟨target, iter, ifs, 0⟩] scope pos) (some (.Name y py)) spos.line env = pure true)
    (hy : autoParam (sc.names.lookup y = some .local) aR._auto_1) (hω : autoParam (ω.lookup y = none) aR._auto_1) (hs : autoParam (∀ env x, foldedSetIterable iter env x = pure x) aI._auto_1) :
    Es prog w h₀ k sc ρ ω (.Assign [.Name y py] (.ListComp elt [⟨target, iter, ifs, 0⟩] scope pos) spos) Q := .mk fun A F G₀ G env s E ok X => by
  refine nn fun hno_ => ?_
  obtain ⟨cl, hclo, hcl⟩ := closure_D (scope := scope) (env := env) fun x hx hf => X.rd.cells _ (S.free x hx hf)
  refine hno_ ?_
  clear hno_
  rw [exec_Assign_Name_used _ _ _ _ (hsw env X.rd.scope)]
  refine wpAny_bind (wpAny_standAt (wpAny_bind ?_))
  show wpAny _ A (do let _ ← comprehension (.ListComp elt [⟨target, iter, ifs, 0⟩] scope pos) scope env _ (newList []) false (eval iter env) (some (PySem.assign (.Name y py) env))) _ _ s
  refine wpAny_bind (wpAny_mono (wpAny_comprehension_free (use := some (PySem.assign (.Name y py) env)) (Q := fun _ s' => EP w h₀ sc F G₀ env Q s .next s') rfl (hs env) hclo S.kind S.names ?_) (fun _ _ hq => wpAny_pure (wpAny_pure hq)) fun _ _ e => e)
  refine H.go ok X.rd fun v h1 tk1 k1 i1 R1 => comp_start ok R1 (src_of R1.inh i1 hd) hz S hcl body fun D C h' tk m' G' hD hC hDC hn kp low gh gC hl => ?_
  dsimp only at hD hC kp low
  have X1 := X.exl k1
  generalize hG1 : exl G s.heap h1 = G1 at *
  have ne : ∀ {b o}, h1.get? b = some o → b ≠ C := fun e q => by subst q; rw [hC] at e; cases e
  have ghx := exl_in (G := G1) (h := h1) (X1.rd.inh.kp kp)
  have X2 : Fs w h₀ sc F G₀ ρ ω (rm (exl G1 h1 h') C) h' env := X1.to kp (in_rm ghx) fun b o e => by unfold rm; rw [if_neg (ne e)]; unfold exl; rw [e]
  refine nn fun hno_ => ?_
  obtain ⟨ys, c, hys, iy⟩ := hl.obj
  refine hno_ ?_
  clear hno_
  have ilist : Is w (rm (exl G1 h1 h') C) (.ref D) (.list ((ds.filter p).map f)) := by
    refine .list (vs := ys) (n := c) ?_ (iy.mono fun b o e => ?_)
    · unfold rm; rw [if_neg hDC]; unfold exl; rw [hD]; exact hys
    · unfold rm; rw [if_neg (fun q => by subst q; rw [gC] at e; cases e)]; exact low.to_exl gh b o e
  have fC : F C = none := by
    cases q : F C with
    | none => rfl
    | some o => rw [X1.inF C o q] at hC; cases hC
  have nL : C ≠ env.locals := by obtain ⟨m, o, es, ep, ho, _⟩ := X1.ns; exact Ne.symm (ne ho)
  have nc : ∀ y c, env.cells.lookup y = some c → C ≠ c := fun y c e => by obtain ⟨_, _, _, v, o, ho, _⟩ := X1.cell y c e; exact Ne.symm (ne ho)
  refine wpAny_assign_Name (store_D X2 (.inl hy) fun h2 tk2 hb hat hk hns hc => ?_)
  have X3 : Fs w h₀ sc F G₀ ((y, .list ((ds.filter p).map f)) :: ρ) ω (rm (exl G1 h1 h') C) h2 env := X2.bound hb hk hns hc (fun z d e q => by subst q; rw [hω] at e; cases e) fun z e hz => by
    rw [List.lookup_cons] at hz
    by_cases hzy : z = y
    · subst hzy; rw [beq_self_eq_true] at hz; cases hz; exact ⟨_, ilist, hat⟩
    · rw [beq_eq_false_iff_ne.mpr hzy] at hz
      obtain ⟨u, hu, hau⟩ := X2.rd.names z e hz
      exact ⟨u, hu, hk z u hzy hau⟩
  have hCb : ∃ m, h2.Ns C m := by
    obtain ⟨b, hb1, kb⟩ := hb
    have : C ≠ b := by rcases hb1 with rfl | ⟨z, e⟩; exact nL; exact nc z b e
    exact ⟨m', hn.extBut kb this⟩
  obtain ⟨m2, hn2⟩ := hCb
  refine ⟨m2, hn2, fun h3 s3 => ⟨_, h3, tk2, rfl, q, rfl, _, X3.off s3.extBut fC (by unfold rm; rw [if_pos rfl]) nL nc fun z e b hz hau => ?_⟩⟩
  obtain ⟨b', g1, g2, _⟩ := X1.own z e hz
  obtain ⟨o, ho⟩ := g2.live
  have hzy : z ≠ y := fun q => by subst q; rw [hω] at hz; cases hz
  obtain rfl := ref_inj ((hk z _ hzy (g1.keep2 kp)).det hau)
  exact ne ho
end
end Mine
end

section
open PySem PySem.Spec PySem.Calls PyProof.Rows
namespace Mine
open scoped Classical

/-! Part NA: entering a function -/
theorem bindL_off (kd : Str → Option NameKind) : ∀ (bs : List (Str × Value)) (m : Str → Option Value) (x : Str), (∀ p ∈ bs, p.1 ≠ x) → bindL kd bs m x = m x
  | [], m, x, _ => rfl
  | (n, v) :: r, m, x, h => by
    unfold bindL
    rw [bindL_off kd r _ x fun p hp => h p (List.mem_cons_of_mem _ hp)]
    have hn : x ≠ n := Ne.symm (h (n, v) List.mem_cons_self)
    split
    · exact if_neg hn
    · rfl
theorem bindC_off (kd : Str → Option NameKind) : ∀ (bs : List (Str × Value)) (m : Str → Option Value) (x : Str), (∀ p ∈ bs, p.1 ≠ x) → bindC kd bs m x = m x
  | [], m, x, _ => rfl
  | (n, v) :: r, m, x, h => by
    unfold bindC
    rw [bindC_off kd r _ x fun p hp => h p (List.mem_cons_of_mem _ hp)]
    have hn : x ≠ n := Ne.symm (h (n, v) List.mem_cons_self)
    split
    · rfl
    · exact if_neg hn
theorem zip_ne {xs : List Str} {vs : List Value} {x : Str} (h : x ∉ xs) : ∀ p ∈ xs.zip vs, p.1 ≠ x := fun p hp e => h (e ▸ (List.of_mem_zip hp).1)

theorem bindL_on (kd : Str → Option NameKind) : ∀ (xs : List Str) (vs : List Value) (m : Str → Option Value), xs.Nodup → ∀ x v, (xs.zip vs).lookup x = some v → kd x = some .local → bindL kd (xs.zip vs) m x = some v
  | [], _, _, _, x, v, h, _ => by simp at h
  | n :: xs, [], _, _, x, v, h, _ => by simp at h
  | n :: xs, u :: vs, m, hn, x, v, h, hk => by
    obtain ⟨h1, h2⟩ := List.nodup_cons.mp hn
    rw [List.zip_cons_cons, List.lookup_cons] at h
    rw [List.zip_cons_cons]
    unfold bindL
    by_cases hx : x = n
    · subst hx
      rw [beq_self_eq_true] at h; cases h
      rw [if_pos hk, bindL_off kd _ _ _ (zip_ne h1), if_pos rfl]
    · rw [beq_eq_false_iff_ne.mpr hx] at h
      exact bindL_on kd xs vs _ h2 x v h hk
theorem bindC_on (kd : Str → Option NameKind) : ∀ (xs : List Str) (vs : List Value) (m : Str → Option Value), xs.Nodup → ∀ x v, (xs.zip vs).lookup x = some v → kd x ≠ some .local → bindC kd (xs.zip vs) m x = some v
  | [], _, _, _, x, v, h, _ => by simp at h
  | n :: xs, [], _, _, x, v, h, _ => by simp at h
  | n :: xs, u :: vs, m, hn, x, v, h, hk => by
    obtain ⟨h1, h2⟩ := List.nodup_cons.mp hn
    rw [List.zip_cons_cons, List.lookup_cons] at h
    rw [List.zip_cons_cons]
    unfold bindC
    by_cases hx : x = n
    · subst hx
      rw [beq_self_eq_true] at h; cases h
      rw [if_neg hk, bindC_off kd _ _ _ (zip_ne h1), if_pos rfl]
    · rw [beq_eq_false_iff_ne.mpr hx] at h
      exact bindC_on kd xs vs _ h2 x v h hk

theorem cellsFrom_has : ∀ (names : List (Str × NameKind)) (n : Nat) (acc : List (Str × Addr)) (x : Str), (names.lookup x = some .cell ∨ (acc.lookup x).isSome = true) → ((cellsFrom n names acc).lookup x).isSome = true
  | [], n, acc, x, h => by
    rcases h with h | h
    · simp at h
    · exact h
  | (y, kd) :: r, n, acc, x, h => by
    unfold cellsFrom
    split
    · rename_i hk
      refine cellsFrom_has r _ _ x ?_
      by_cases hxy : x = y
      · subst hxy; right; rw [List.lookup_cons, beq_self_eq_true]; rfl
      · rw [List.lookup_cons, beq_eq_false_iff_ne.mpr hxy] at h
        rcases h with h | h
        · exact .inl h
        · right; rw [List.lookup_cons, beq_eq_false_iff_ne.mpr hxy]; exact h
    · rename_i hk
      refine cellsFrom_has r _ _ x ?_
      rcases h with h | h
      · rw [List.lookup_cons] at h
        by_cases hxy : x = y
        · subst hxy; rw [beq_self_eq_true] at h; cases h; exact absurd rfl hk
        · rw [beq_eq_false_iff_ne.mpr hxy] at h; exact .inl h
      · exact .inr h

structure Fn (h₀ : Heap) (f : Value) (xs : List Str) (sc : Scope) (body : List Stmt) : Prop where
  ex : ∃ a o fd, f = .ref a ∧ h₀.get? a = some o ∧ o.data = .func fd ∧ h₀.CodeRec fd.code fd.qualname ∧ fd.body = .stmts body ∧ fd.closure = [] ∧ fd.scope = sc ∧ fd.globals = mainGlobals ∧ fd.builtins = builtinsNs ∧
    (∀ vs : List Value, vs.length = xs.length → bindArgs fd ⟨vs, []⟩ = pure (xs.zip vs))
  co : sc.isCoroutine = false
  gen : sc.isGenerator = false
  kind : sc.kind = .function
  lim : h₀.NoLimit
  nodup : xs.Nodup
  kinds : ∀ x ∈ xs, sc.names.lookup x = some .local ∨ sc.names.lookup x = some .cell
  free : ∀ y ∈ sc.names, y.2 ≠ .free

section
variable {prog : Program} {w : World} {h₀ : Heap} {sc : Scope} {F G₀ : Gh} {ρ ω : List (Str × Dt)} {k : Nat} {G G' : Gh} {s : Shared} {env : Env} {A : Around} {E : Value → Shared → Prop} {h h' : Heap}

theorem Fn.callee {f : Value} {xs : List Str} {body : List Stmt} (fn : Fn h₀ f xs sc body) : Callee h₀ f := by
  obtain ⟨a, o, fd, rfl, ho, hd, _⟩ := fn.ex
  exact .inr (.inr ⟨a, o, fd, rfl, ho, hd⟩)

theorem zip_look {xs : List Str} {vs : List Value} {ds : List Dt} (iv : IsAll w G vs ds) : ∀ x d, (xs.zip ds).lookup x = some d → ∃ v, (xs.zip vs).lookup x = some v ∧ Is w G v d := by
  induction xs generalizing vs ds with
  | nil => intro x d e; simp at e
  | cons n xs ih =>
    intro x d e
    cases iv with
    | nil => simp at e
    | @cons v vs d' ds i r =>
      rw [List.zip_cons_cons, List.lookup_cons] at e ⊢
      by_cases hx : x = n
      · subst hx
        rw [beq_self_eq_true] at e ⊢
        cases e
        exact ⟨v, rfl, i⟩
      · rw [beq_eq_false_iff_ne.mpr hx] at e ⊢
        exact ih r x d e

theorem enterC {f : Value} {xs : List Str} {body : List Stmt} {vs : List Value} {R : Result → Shared → Prop} (fn : Fn h₀ f xs sc body) (ok : Ok A (k + 1)) (base : ∀ a o, h₀.get? a = some o → F a = some o) (inF : InH F s.heap) (gF : Sub G F)
    (hlen : vs.length = xs.length) (hρ : ∀ x d, ρ.lookup x = some d → ∃ v, (xs.zip vs).lookup x = some v ∧ Is w G v d)
    (h : ∀ (A' : Around) env H tk (E' : Value → Shared → Prop), Ok A' k → Kp s.heap H → Fs w h₀ sc F G ρ [] G H env → (∀ n v, (xs.zip vs).lookup n = some v → At H env n v) → (∀ b o, s.heap.get? b = some o → b ≠ env.locals ∧ ∀ y c, env.cells.lookup y = some c → b ≠ c) →
      wpAny (model prog w) A' (execs body env) (fun fl s' => R (.ok (.ret (match fl with | .ret v => v | _ => .none))) s') E' { s with heap := H, toks := tk }) :
    codeAny (model prog w) A (.call f ⟨vs, []⟩) R s := by
  obtain ⟨a, o, fd, rfl, ho, hd, hcr, hb, hclo, hsc, hgl, hbi, hbind⟩ := fn.ex
  have kp : Kp h₀ s.heap := fun a o e => inF a o (base a o e)
  subst hsc
  refine codeAny_call_cells (binds := xs.zip vs) ok.room (kp _ _ ho) hd (fn.lim.keeps kp) (hcr.keeps kp) hb (hbind vs hlen) hclo (fun p hp => ?_) (fun s₁ x => ?_) fn.co fn.gen fn.kind
  · have hp1 := (List.of_mem_zip hp).1
    rcases fn.kinds _ hp1 with e | e
    · exact .inl e
    · exact .inr ⟨e, cellsFrom_has _ _ _ _ (.inl e)⟩
  · obtain ⟨H, tk, hs1⟩ := x.toInCall.same
    subst hs1
    have kpH : Kp s.heap H := x.toInCall.keep
    have hLsz : s.heap.objs.size ≤ (callEnvC fd s.heap.objs.size a).locals := x.toInCall.fresh
    have offF : ∀ b, s.heap.objs.size ≤ b → F b = none := fun b hb => by
      cases q : F b with
      | none => rfl
      | some o => have := inF b o q; rw [heap_none hb] at this; cases this
    have offG : ∀ b, s.heap.objs.size ≤ b → G b = none := fun b hb => by
      cases q : G b with
      | none => rfl
      | some o => have := gF b o q; rw [offF b hb] at this; cases this
    have hat : ∀ y v, (xs.zip vs).lookup y = some v → At H (callEnvC fd s.heap.objs.size a) y v := fun y v hv => by
      have hmem : y ∈ xs := (List.of_mem_zip (mem_of_look hv)).1
      rcases fn.kinds y hmem with hk | hk
      · exact .inl ⟨hk, _, x.toInCall.ns, bindL_on _ xs vs _ fn.nodup y v hv hk⟩
      · have hk' : (callEnvC fd s.heap.objs.size a).kindOf y = some .cell := hk
        obtain ⟨c, hc⟩ := Option.isSome_iff_exists.mp (cellsFrom_has fd.scope.names (s.heap.objs.size + 1) [] y (.inl hk))
        refine .inr ⟨.inl hk', c, hc, ?_⟩
        have := x.cell y c hc
        rwa [bindC_on _ xs vs _ fn.nodup y v hv (by rw [hk']; decide)] at this
    have inFH : InH F H := inF.kp kpH
    refine h _ _ H tk _ (ok.deeper _) kpH ?_ hat (fun b o e => ⟨Nat.ne_of_lt (Nat.lt_of_lt_of_le (Heap.lt_size e) hLsz), fun y c hc => Nat.ne_of_lt (Nat.lt_of_lt_of_le (Heap.lt_size e) (Nat.le_of_lt (Nat.lt_of_le_of_lt hLsz (x.above y c (mem_of_lookup hc)))))⟩)
    exact {
      rd := {
        scope := rfl
        kind := fn.kind
        glob := hgl
        bi := hbi
        keep := kp.trans kpH
        inh := fun a o e => inFH a o (gF a o e)
        cells := fun y hy => by
          rcases hy with hy | hy
          · exact cellsFrom_has _ _ _ _ (.inl hy)
          · exact absurd rfl (fn.free _ (mem_of_look hy))
        names := fun y d e => by
          obtain ⟨v, hv, i⟩ := hρ y d e
          exact ⟨v, i, hat y v hv⟩ }
      base := base
      inF := inFH
      low := fun _ _ _ => rfl
      gF := gF
      ns := ⟨_, x.toInCall.ns⟩
      FL := offF _ hLsz
      GL := offG _ hLsz
      cell := fun y c e => by
        have hlt := x.above y c (mem_of_lookup e)
        exact ⟨offF _ (Nat.le_of_lt (Nat.lt_of_le_of_lt hLsz hlt)), offG _ (Nat.le_of_lt (Nat.lt_of_le_of_lt hLsz hlt)), Ne.symm (Nat.ne_of_lt hlt), _, x.cell y c e⟩
      apart := fun y z c e1 e2 => name_of_addr x.apart (mem_of_lookup e1) (mem_of_lookup e2)
      own := fun y d e => by simp at e
      oapart := fun y z d e b g1 => by simp at g1 }

theorem enter_D {f : Value} {xs : List Str} {body : List Stmt} {vs : List Value} {ds : List Dt} {Q : Value → Shared → Prop} (fn : Fn h₀ f xs sc body) (ok : Ok A (k + 1)) (kp : Kp h₀ s.heap) (gh : InH G s.heap) (iv : IsAll w G vs ds) (hl : xs.length = ds.length)
    (h : ∀ (A' : Around) env H tk (E' : Value → Shared → Prop), Ok A' k → Kp s.heap H → Fs w h₀ sc (fun a => s.heap.get? a) G (xs.zip ds) [] G H env →
      wpAny (model prog w) A' (execs body env) (fun fl s' => Q (match fl with | .ret v => v | _ => .none) s') E' { s with heap := H, toks := tk }) :
    wpAny (model prog w) A (call f vs) Q E s :=
  wpAny_call (enterC fn ok kp (fun _ _ e => e) gh (by rw [iv.length, hl]) (zip_look iv) fun A' env H tk E' ok' kpH X _ _ => h A' env H tk E' ok' kpH X)

theorem Cl.of_ex {f : Value} {xs : List Str} {body : List Stmt} {ds : List Dt} {d : Dt} (fn : Fn h₀ f xs sc body) (hl : xs.length = ds.length) (H : Ex prog w h₀ k sc (xs.zip ds) [] body fun c => c = .ret d) : Cl prog w h₀ (k + 1) f ds d :=
  .mk fun A G s E vs ok gh kp i => enter_D fn ok kp gh i hl fun A' env H' tk E' ok' kpH X => wpAny_mono (H.run A' _ G G env _ E' ok' X) (fun fl s' x => by
    obtain ⟨c, h', tk', rfl, rfl, ft⟩ := x
    obtain ⟨v, G', rfl, inF, gh', low, iv⟩ := ft
    exact ⟨h', tk', rfl, inF, iv.mono (Low.to_exl low gh')⟩) fun _ _ e => e

theorem ClF.of_ex {f : Value} {xs : List Str} {body : List Stmt} {ds rs : List Dt} (fn : Fn h₀ f xs sc body) (hl : xs.length = ds.length) (H : Ex prog w h₀ k sc (xs.zip ds) [] body fun c => c = .retF rs) : ClF prog w h₀ (k + 1) f ds rs :=
  .mk fun A G s E vs ok gh kp i => enter_D fn ok kp gh i hl fun A' env H' tk E' ok' kpH X => wpAny_mono (H.run A' _ G G env _ E' ok' X) (fun fl s' x => by
    obtain ⟨c, h', tk', rfl, rfl, ft⟩ := x
    obtain ⟨a, G', rfl, inF, gh', low, fa, iv⟩ := ft
    exact ⟨a, h', tk', rfl, fa, rfl, inF, iv.mono (Low.to_exl low gh')⟩) fun _ _ e => e
end
end Mine
end

section
open PySem PySem.Spec PySem.Calls PyProof.Rows
namespace Mine
open scoped Classical

/-! Part NB: the program's parts, by place -/
noncomputable def bodyAt (i : Nat) : List Stmt := match PySem.Challenge.pw_np0171_01.main.body[i]? with
  | some (PySem.Stmt.FunctionDef _ _ b _ _ _ _ _ _ _) => b
  | _ => []
noncomputable def scopeAt (i : Nat) : Scope := match PySem.Challenge.pw_np0171_01.main.body[i]? with
  | some (PySem.Stmt.FunctionDef _ _ _ _ _ _ sc _ _ _) => sc
  | _ => default
noncomputable def methAt (j : Nat) : Option Stmt := match PySem.Challenge.pw_np0171_01.main.body[5]? with
  | some (PySem.Stmt.ClassDef _ _ _ b _ _ _ _ _ _ _) => b[j]?
  | _ => none
noncomputable def methBody (j : Nat) : List Stmt := match methAt j with
  | some (PySem.Stmt.FunctionDef _ _ b _ _ _ _ _ _ _) => b
  | _ => []
noncomputable def methScope (j : Nat) : Scope := match methAt j with
  | some (PySem.Stmt.FunctionDef _ _ _ _ _ _ sc _ _ _) => sc
  | _ => default

/-! the world of the law, typed -/
structure Wd where
  fol : List (Int × List (Str × Int))
  sts : List (Int × Int)
  last : Int
noncomputable def dirD (l : List (Str × Int)) : List (Dt × Dt) := l.map fun q => (.str q.1, .int q.2)
noncomputable def folD (l : List (Int × List (Str × Int))) : List (Dt × Dt) := l.map fun p => (.int p.1, .dict (dirD p.2))
noncomputable def stsD (l : List (Int × Int)) : List (Dt × Dt) := l.map fun p => (.int p.1, .int p.2)
noncomputable def Wd.kvs (W : Wd) : List (Dt × Dt) := [(.str "folders", .dict (folD W.fol)), (.str "states", .dict (stsD W.sts)), (.str "last", .int W.last)]
noncomputable def Wd.dt (W : Wd) : Dt := .dict W.kvs

theorem dget_dir (l : List (Str × Int)) (x : Str) : dget (dirD l) (.str x) = (l.lookup x).map .int := by
  unfold dget dirD
  induction l with
  | nil => rfl
  | cons q r ih =>
    obtain ⟨y, i⟩ := q
    rw [List.map_cons, List.find?_cons, List.lookup_cons]
    by_cases h : x = y
    · subst h; simp
    · have h1 : decide (Dt.str y = Dt.str x) = false := by simp [Ne.symm h]
      rw [h1, beq_eq_false_iff_ne.mpr h]; exact ih
theorem dget_fol (l : List (Int × List (Str × Int))) (x : Int) : dget (folD l) (.int x) = (l.lookup x).map fun d => .dict (dirD d) := by
  unfold dget folD
  induction l with
  | nil => rfl
  | cons q r ih =>
    obtain ⟨y, i⟩ := q
    rw [List.map_cons, List.find?_cons, List.lookup_cons]
    by_cases h : x = y
    · subst h; simp
    · have h1 : decide (Dt.int y = Dt.int x) = false := by simp [Ne.symm h]
      rw [h1, beq_eq_false_iff_ne.mpr h]; exact ih
theorem dget_sts (l : List (Int × Int)) (x : Int) : dget (stsD l) (.int x) = (l.lookup x).map .int := by
  unfold dget stsD
  induction l with
  | nil => rfl
  | cons q r ih =>
    obtain ⟨y, i⟩ := q
    rw [List.map_cons, List.find?_cons, List.lookup_cons]
    by_cases h : x = y
    · subst h; simp
    · have h1 : decide (Dt.int y = Dt.int x) = false := by simp [Ne.symm h]
      rw [h1, beq_eq_false_iff_ne.mpr h]; exact ih
theorem dhas_fol (l : List (Int × List (Str × Int))) (x : Int) : dhas (folD l) (.int x) = (l.lookup x).isSome := by unfold dhas; rw [dget_fol]; cases l.lookup x <;> rfl
theorem dhas_dir (l : List (Str × Int)) (x : Str) : dhas (dirD l) (.str x) = (l.lookup x).isSome := by unfold dhas; rw [dget_dir]; cases l.lookup x <;> rfl

theorem get_folders (W : Wd) : dget W.kvs (.str "folders") = some (.dict (folD W.fol)) := by unfold dget Wd.kvs; simp
theorem str_ne {a b : Str} (h : (a == b) = false) : (Dt.str a = Dt.str b) = False := by
  have := beq_eq_false_iff_ne.mp h
  simp [this]
theorem get_states (W : Wd) : dget W.kvs (.str "states") = some (.dict (stsD W.sts)) := by
  unfold dget Wd.kvs
  simp only [List.find?_cons, str_ne (show (("folders" : Str) == ("states" : Str)) = false by decide)]
  simp
theorem get_last (W : Wd) : dget W.kvs (.str "last") = some (.int W.last) := by
  unfold dget Wd.kvs
  simp only [List.find?_cons, str_ne (show (("folders" : Str) == ("last" : Str)) = false by decide), str_ne (show (("states" : Str) == ("last" : Str)) = false by decide)]
  simp

theorem filter_all {α : Type} (l : List α) : (l.filter fun _ => true) = l := List.filter_eq_self.mpr fun _ _ => rfl
theorem look_mem {α β : Type} [BEq α] [LawfulBEq α] : ∀ {l : List (α × β)} {x : α} {v : β}, (x, v) ∈ l → (l.lookup x).isSome = true
  | (y, u) :: r, x, v, h => by
    rw [List.lookup_cons]
    cases hb : x == y with
    | true => rfl
    | false =>
      rcases List.mem_cons.mp h with e | h
      · cases e; simp at hb
      · exact look_mem h
theorem look_nodup {α β : Type} [BEq α] [LawfulBEq α] : ∀ {l : List (α × β)} {x : α} {v : β}, (l.map (·.1)).Nodup → (x, v) ∈ l → l.lookup x = some v
  | (y, u) :: r, x, v, hn, h => by
    rw [List.map_cons, List.nodup_cons] at hn
    rw [List.lookup_cons]
    cases hb : x == y with
    | true =>
      have := eq_of_beq hb; subst this
      rcases List.mem_cons.mp h with e | h
      · cases e; rfl
      · exact absurd (List.mem_map.mpr ⟨_, h, rfl⟩) hn.1
    | false =>
      rcases List.mem_cons.mp h with e | h
      · cases e; simp at hb
      · exact look_nodup hn.2 h
theorem mem_look {α β : Type} [BEq α] [LawfulBEq α] : ∀ {l : List (α × β)} {x : α} {v : β}, l.lookup x = some v → (x, v) ∈ l
  | (y, u) :: r, x, v, h => by
    rw [List.lookup_cons] at h
    cases hb : x == y with
    | true => rw [hb] at h; cases h; rw [eq_of_beq hb]; exact List.mem_cons_self
    | false => rw [hb] at h; exact List.mem_cons_of_mem _ (mem_look h)
theorem one_bind {x y : Str} {d e : Dt} (h : [(x, d)].lookup y = some e) : y = x := by
  simp only [List.lookup_cons, List.lookup_nil] at h
  split at h
  · rename_i h'; exact eq_of_beq h'
  · cases h

/-! entries in the order of their names -/
noncomputable def insE (e : Str × Int) : List (Str × Int) → List (Str × Int)
  | [] => [e]
  | x :: r => if leD (.str e.1) (.str x.1) then e :: x :: r else x :: insE e r
noncomputable def sortE : List (Str × Int) → List (Str × Int)
  | [] => []
  | e :: r => insE e (sortE r)
theorem ins_map (e : Str × Int) : ∀ l : List (Str × Int), ins (.str e.1) (l.map fun q => Dt.str q.1) = (insE e l).map fun q => Dt.str q.1
  | [] => rfl
  | x :: r => by
    rw [List.map_cons]
    unfold ins insE
    split
    · rfl
    · rw [List.map_cons, ins_map e r]
theorem isort_dir (l : List (Str × Int)) : isort ((dirD l).map (·.1)) = (sortE l).map fun q => Dt.str q.1 := by
  have h : (dirD l).map (·.1) = l.map fun q => Dt.str q.1 := by unfold dirD; rw [List.map_map]; rfl
  rw [h]
  clear h
  induction l with
  | nil => rfl
  | cons e r ih =>
    rw [List.map_cons]
    unfold isort sortE
    rw [ih, ins_map]
theorem insE_perm (e : Str × Int) : ∀ l : List (Str × Int), (insE e l).Perm (e :: l)
  | [] => .refl _
  | x :: r => by
    unfold insE
    split
    · exact .refl _
    · exact ((insE_perm e r).cons x).trans (.swap _ _ _)
theorem sortE_perm : ∀ l : List (Str × Int), (sortE l).Perm l
  | [] => .refl _
  | e :: r => (insE_perm e _).trans ((sortE_perm r).cons e)

section
variable {prog : Program} {w : World} {h₀ : Heap} {sc : Scope} {ρ : List (Str × Dt)} {k : Nat}

theorem Ev.folders {e : Expr} {W : Wd} {kd : Nat} {p p' : Pos} (H : Ev prog w h₀ k sc ρ e W.dt) : Ev prog w h₀ k sc ρ (.Subscript e (.Constant (.str "folders") kd p) p') (.dict (folD W.fol)) :=
  Ev.sub H Ev.str (Item.dict (get_folders W) rfl)
theorem Ev.states {e : Expr} {W : Wd} {kd : Nat} {p p' : Pos} (H : Ev prog w h₀ k sc ρ e W.dt) : Ev prog w h₀ k sc ρ (.Subscript e (.Constant (.str "states") kd p) p') (.dict (stsD W.sts)) :=
  Ev.sub H Ev.str (Item.dict (get_states W) rfl)
theorem Ev.dir {e i : Expr} {l : List (Int × List (Str × Int))} {t : Int} {d : List (Str × Int)} {p : Pos} (H : Ev prog w h₀ k sc ρ e (.dict (folD l))) (J : Ev prog w h₀ k sc ρ i (.int t)) (h : l.lookup t = some d)
    (hs : autoParam (∀ o i', ∃ ops, subscripted i false o i' = operate ops (getItem o i')) aE._auto_1) : Ev prog w h₀ k sc ρ (.Subscript e i p) (.dict (dirD d)) :=
  Ev.sub H J (Item.dict (by rw [dget_fol, h]; rfl) rfl) hs
theorem Ev.ent {e i : Expr} {d : List (Str × Int)} {x : Str} {t : Int} {p : Pos} (H : Ev prog w h₀ k sc ρ e (.dict (dirD d))) (J : Ev prog w h₀ k sc ρ i (.str x)) (h : d.lookup x = some t)
    (hs : autoParam (∀ o i', ∃ ops, subscripted i false o i' = operate ops (getItem o i')) aE._auto_1) : Ev prog w h₀ k sc ρ (.Subscript e i p) (.int t) :=
  Ev.sub H J (Item.dict (by rw [dget_dir, h]; rfl) rfl) hs
theorem Ev.stt {e i : Expr} {d : List (Int × Int)} {x t : Int} {p : Pos} (H : Ev prog w h₀ k sc ρ e (.dict (stsD d))) (J : Ev prog w h₀ k sc ρ i (.int x)) (h : d.lookup x = some t)
    (hs : autoParam (∀ o i', ∃ ops, subscripted i false o i' = operate ops (getItem o i')) aE._auto_1) : Ev prog w h₀ k sc ρ (.Subscript e i p) (.int t) :=
  Ev.sub H J (Item.dict (by rw [dget_sts, h]; rfl) rfl) hs
theorem Tr.folder {e i : Expr} {l : List (Int × List (Str × Int))} {t : Int} {p : Pos} (H : Ev prog w h₀ k sc ρ i (.int t)) (J : Ev prog w h₀ k sc ρ e (.dict (folD l)))
    (hm : autoParam (behindInMarks .In e = false) aU._auto_1) : Tr prog w h₀ k sc ρ (.Compare i [.In] [e] p) (l.lookup t).isSome := by
  rw [← dhas_fol]; exact Tr.cmp H J (Cmp.has rfl) hm

/-! callables of the world outside -/
structure Outer (h₀ : Heap) : Prop where
  sorted : GVal h₀ "sorted" (.builtin "sorted")
  tuple : GVal h₀ "tuple" (.type "tuple")
  dict : GVal h₀ "dict" (.type "dict")
  list : GVal h₀ "list" (.type "list")
  len : GVal h₀ "len" (.builtin "len")
  min : GVal h₀ "min" (.builtin "min")
  zip : GVal h₀ "zip" (.type "zip")
  lim : h₀.NoLimit
theorem cb (h₀ : Heap) (id : String) : Callee h₀ (.builtin id) := .inl ⟨id, rfl⟩
theorem ct (h₀ : Heap) (T : String) : Callee h₀ (.type T) := .inr (.inl ⟨T, rfl⟩)

theorem sortOk_dir (l : List (Str × Int)) : SortOk ((dirD l).map (·.1)) := .sAll fun d hd => by
  unfold dirD at hd
  rw [List.map_map] at hd
  obtain ⟨q, _, rfl⟩ := List.mem_map.mp hd
  rfl

theorem EvF.sorted_names {e : Expr} {np p : Pos} {d : List (Str × Int)} (O : Outer h₀) (H : Ev prog w h₀ k sc ρ e (.dict (dirD d))) (hz : d.length < 64) (hx : autoParam (sc.names.lookup ("sorted" : Str) = some .globalImplicit) aR._auto_1)
    (he : autoParam (starred e = false) aR._auto_1) :
    EvF prog w h₀ k sc ρ (.Call (.Name "sorted" np) [e] [] p) ((sortE d).map fun q => Dt.str q.1) := by
  rw [← isort_dir]
  exact EvF.call O.sorted (cb _ _) (Evs.cons H Evs.nil he) (ClF.sorted_dict (sortOk_dir d) (by unfold dirD; rw [List.length_map]; exact hz)) hx (by decide) he

/-! _law_state -/
noncomputable def stD (W : Wd) (t : Int) : Dt := .tup [.int ((W.sts.lookup t).getD 0), .tup (match W.fol.lookup t with
  | some l => (sortE l).map fun q => .tup [.str q.1, .int ((l.lookup q.1).getD 0)]
  | none => [])]

theorem state_ex (O : Outer h₀) (W : Wd) (t : Int) (hs : (W.sts.lookup t).isSome = true) (hz : ∀ l, W.fol.lookup t = some l → l.length < 64 ∧ (l.map (·.1)).Nodup) :
    Ex prog w h₀ k (scopeAt 14) [("world", W.dt), ("thing", .int t)] [] (bodyAt 14) fun c => c = .ret (stD W t) := by
  refine nn fun hno_ => ?_
  obtain ⟨n, hn⟩ := Option.isSome_iff_exists.mp hs
  refine hno_ ?_
  clear hno_
  refine Ex.cons (Es.ite (Tr.folder (t := t) (Ev.nm) (Ev.folders (W := W) (Ev.nm))) (fun hb => Ex.cons ?_) (fun hb => Ex.nil (Ex.cons ?_)))
  · obtain ⟨l, hl⟩ := Option.isSome_iff_exists.mp hb
    refine Es.ret (d := stD W t) ?_ rfl
    refine Ev.tup (ds := [_, _]) (Evs.cons (Ev.stt (Ev.states (W := W) (Ev.nm)) (Ev.nm) (by rw [hn]; rfl)) (Evs.cons ?_ Evs.nil)) (by simp)
    have hlen := (sortE_perm l).length_eq
    have hz1 := (hz l hl).1
    have hE : (match W.fol.lookup t with
        | some l => (sortE l).map fun q => Dt.tup [.str q.1, .int ((l.lookup q.1).getD 0)]
        | none => []) = ((((sortE l).map fun q => Dt.str q.1).filter fun _ => true).map fun d => Dt.tup [d, match d with | .str x => .int ((l.lookup x).getD 0) | _ => .none]) := by
      rw [hl, filter_all, List.map_map]; rfl
    rw [hE]
    refine Ev.call O.tuple (ct _ _) (Evs.cons (EvF.ev (EvF.comp _ _ (EvF.ev (EvF.sorted_names O (Ev.dir (Ev.folders (W := W) (Ev.nm)) (Ev.nm) hl) hz1)) (.inl rfl) (by rw [List.length_map]; omega)
      ⟨by decide, rfl, by decide, by decide⟩ fun d hd => ?_)) Evs.nil) (Cl.tuple (by rw [List.length_map, filter_all, List.length_map]; omega))
    obtain ⟨q, hq, rfl⟩ := List.mem_map.mp hd
    have hq' : (l.lookup q.1).isSome = true := by
      exact look_mem ((sortE_perm l).mem_iff.mp hq)
    obtain ⟨v, hv⟩ := Option.isSome_iff_exists.mp hq'
    refine ⟨_, .name, fun x d hx => ?_, rfl, fun _ => ?_⟩
    · rw [one_bind hx]; rfl
    · refine Ev.tup (ds := [_, _]) (Evs.cons (Ev.nm) (Evs.cons ?_ Evs.nil)) (by simp)
      simp only [hv, Option.getD_some]
      exact Ev.ent (Ev.dir (Ev.folders (W := W) (Ev.nm)) (Ev.nm) hl) (Ev.nm) hv
  · have hl : W.fol.lookup t = none := by cases q : W.fol.lookup t with | none => rfl | some l => rw [q] at hb; cases hb
    refine Es.ret (d := stD W t) ?_ rfl
    refine Ev.tup (ds := [_, _]) (Evs.cons (Ev.stt (Ev.states (W := W) (Ev.nm)) (Ev.nm) (by rw [hn]; rfl)) (Evs.cons ?_ Evs.nil)) (by simp)
    rw [hl]
    exact Ev.tup (ds := []) Evs.nil (by simp)
end
end Mine
end

section
open PySem PySem.Spec PySem.Calls PyProof.Rows
namespace Mine
open scoped Classical

/-! Part NC: _law_names -/
theorem look_skip {ρ : List (Str × Dt)} {y : Str} {e : Dt} (h : ρ.lookup y = none) : ∀ x d, ρ.lookup x = some d → ((y, e) :: ρ).lookup x = some d := fun x d hx => by
  rw [List.lookup_cons]
  by_cases hxy : x = y
  · subst hxy; rw [h] at hx; cases hx
  · rw [beq_eq_false_iff_ne.mpr hxy]; exact hx
theorem look_trans {a b c : List (Str × Dt)} (h : ∀ x d, a.lookup x = some d → b.lookup x = some d) (g : ∀ x d, b.lookup x = some d → c.lookup x = some d) : ∀ x d, a.lookup x = some d → c.lookup x = some d := fun x d e => g x d (h x d e)
theorem look_one {y : Str} {e e' : Dt} {r : List (Str × Dt)} (h : e = e') : ∀ x d, [(y, e)].lookup x = some d → ((y, e') :: r).lookup x = some d := fun x d hx => by
  subst h
  rw [List.lookup_cons] at hx ⊢
  split
  · rename_i q; rw [q] at hx; exact hx
  · rename_i q; rw [q] at hx; simp at hx
theorem look_id (a : List (Str × Dt)) : ∀ x d, a.lookup x = some d → a.lookup x = some d := fun _ _ e => e

structure NRow where
  path : Str
  folder : Int
  name : Str
  thing : Int
noncomputable def NRow.dt (r : NRow) : Dt := .tup [.str r.path, .int r.folder, .str r.name, .int r.thing]

noncomputable def namesOf (W : Wd) : Nat → Int → Str → List NRow
  | 0, _, _ => []
  | n + 1, f, p => (sortE ((W.fol.lookup f).getD [])).flatMap fun q => ⟨p ++ slash ++ q.1, f, q.1, q.2⟩ :: (if (W.fol.lookup q.2).isSome then namesOf W n q.2 (p ++ slash ++ q.1) else [])

noncomputable def Deep (W : Wd) : Nat → Int → Prop
  | 0, _ => False
  | n + 1, f => ∃ l, W.fol.lookup f = some l ∧ l.length < 64 ∧ (l.map (·.1)).Nodup ∧ ∀ q ∈ l, PyData.strOk q.1 = true ∧ q.1.length ≤ 8 ∧ ((W.fol.lookup q.2).isSome = true → Deep W n q.2)

theorem strOk_append {a b : Str} (ha : PyData.strOk a = true) (hb : PyData.strOk b = true) : PyData.strOk (a ++ b) = true := by
  unfold PyData.strOk at *
  rw [Array.all_eq_true_iff_forall_mem] at *
  intro c hc
  have : c ∈ (a.cps ++ b.cps) := hc
  rcases Array.mem_append.mp this with h | h
  · exact ha c h
  · exact hb c h
theorem len_append (a b : Str) : (a ++ b).length = a.length + b.length := by show (a.cps ++ b.cps).size = _; rw [Array.size_append]; rfl
theorem slash_ok : PyData.strOk slash = true := by decide +kernel

section
variable {prog : Program} {w : World} {h₀ : Heap} {sc : Scope} {ρ : List (Str × Dt)} {k : Nat}

theorem ClF.up {f : Value} {ds rs : List Dt} {k k' : Nat} (H : ClF prog w h₀ k f ds rs) (h : k ≤ k') : ClF prog w h₀ k' f ds rs := .mk fun A G s E vs ok gh kp i => H.run A G s E vs (ok.mono h) gh kp i

/-- return found -/
theorem Es.retOwn {ω : List (Str × Dt)} {x : Str} {ds : List Dt} {np p : Pos} {Q : Ctl → Prop} (q : Q (.retF ds)) (hω : autoParam (ω.lookup x = some (.list ds)) aR._auto_1) (hc : autoParam ((x == ("__classdict__" : Str)) = false) aD._auto_1) (hd : autoParam ((x == ("__debug__" : Str)) = false) aD._auto_1) :
    Es prog w h₀ k sc ρ ω (.Return (some (.Name x np)) p) Q := .mk fun A F G₀ G env s E ok X => by
  obtain ⟨G₁, sb, ⟨a, o, hat, ho, hGa, hFa, rfl, hOA⟩, X'⟩ := X.freeze hω (fun _ _ e => nomatch e)
  obtain ⟨u, hu, hau⟩ := X'.rd.names x (.list ds) (by rw [List.lookup_cons, beq_self_eq_true])
  have := hau.det hat
  subst this
  exact wpAny_Return_some (wpAny_Name (load_At X hat hc ⟨.retF ds, s.heap, s.toks, rfl, q, a, _, rfl, X.inF, X'.rd.inh, X'.low, hFa, hu⟩) hd)
theorem Es.retDict {ω : List (Str × Dt)} {x : Str} {kvs : List (Dt × Dt)} {np p : Pos} {Q : Ctl → Prop} (q : Q (.ret (.dict kvs))) (hω : autoParam (ω.lookup x = some (.dict kvs)) aR._auto_1) (hc : autoParam ((x == ("__classdict__" : Str)) = false) aD._auto_1) (hd : autoParam ((x == ("__debug__" : Str)) = false) aD._auto_1) :
    Es prog w h₀ k sc ρ ω (.Return (some (.Name x np)) p) Q := .mk fun A F G₀ G env s E ok X => by
  obtain ⟨G₁, sb, ⟨a, o, hat, ho, hGa, hFa, rfl, hOA⟩, X'⟩ := X.freeze hω (fun _ _ e => nomatch e)
  obtain ⟨u, hu, hau⟩ := X'.rd.names x (.dict kvs) (by rw [List.lookup_cons, beq_self_eq_true])
  exact wpAny_Return_some (wpAny_Name (load_At X (hau) hc ⟨.ret (.dict kvs), s.heap, s.toks, rfl, q, u, _, rfl, X.inF, X'.rd.inh, X'.low, hu⟩) hd)

/-- path + '/' + name -/
theorem Ev.joined {e1 e3 : Expr} {a b : Str} {kd : Nat} {p p' p'' : Pos} (H : Ev prog w h₀ k sc ρ e1 (.str a)) (J : Ev prog w h₀ k sc ρ e3 (.str b)) (oa : PyData.strOk a = true) (ob : PyData.strOk b = true) (hz : a.length + b.length ≤ 50000) :
    Ev prog w h₀ k sc ρ (.BinOp (.BinOp e1 .Add (.Constant (.str "/") kd p) p') .Add e3 p'') (.str (a ++ slash ++ b)) := by
  have h1 : slash.length = 1 := rfl
  refine Ev.bin (Ev.bin H (Ev.str (x := slash) slash_ok) (Bin.add_str (by lia) (strOk_append oa slash_ok))) J (Bin.add_str (by rw [len_append]; lia) (strOk_append (strOk_append oa slash_ok) ob))

theorem names_cl (O : Outer h₀) {f : Value} (g : GVal h₀ "_law_names" f) (fn : Fn h₀ f ["world", "folder", "path"] (scopeAt 12) (bodyAt 12)) (W : Wd) :
    ∀ (n : Nat) (t : Int) (p : Str), Deep W n t → PyData.strOk p = true → p.length + 20 * n ≤ 20000 → (namesOf W n t p).length ≤ 4000 →
      ClF prog w h₀ n f [W.dt, .int t, .str p] ((namesOf W n t p).map NRow.dt) := by
  intro n
  induction n with
  | zero => intro t p hd; exact hd.elim
  | succ n ih =>
    intro t p hd op hp hz
    refine nn fun hno_ => ?_
    obtain ⟨l, hl, hl64, hnd, hq⟩ := hd
    refine hno_ ?_
    clear hno_
    refine ClF.of_ex fn rfl ?_
    -- the rows of one name
    have hrows : namesOf W (n + 1) t p = (sortE l).flatMap fun q => (⟨p ++ slash ++ q.1, t, q.1, q.2⟩ : NRow) :: (if (W.fol.lookup q.2).isSome then namesOf W n q.2 (p ++ slash ++ q.1) else []) := by
      show (sortE ((W.fol.lookup t).getD [])).flatMap _ = _
      rw [hl]; rfl
    rw [hrows] at hz ⊢
    generalize hF : (fun q : Str × Int => (⟨p ++ slash ++ q.1, t, q.1, q.2⟩ : NRow) :: (if (W.fol.lookup q.2).isSome then namesOf W n q.2 (p ++ slash ++ q.1) else [])) = Fq at hz ⊢
    have hpart : ∀ i, ((sortE l).take i |>.flatMap Fq).length ≤ ((sortE l).flatMap Fq).length := fun i => by
      have e : (sortE l).flatMap Fq = ((sortE l).take i).flatMap Fq ++ ((sortE l).drop i).flatMap Fq := by
        rw [← List.flatMap_append, List.take_append_drop]
      rw [e, List.length_append]; lia
    refine Ex.cons (Es.own (EvF.lst (ds := []) Evs.nil (by simp)) (Ex.cons ?_))
    refine Es.for_ [("world", W.dt), ("folder", .int t), ("path", .str p)] (fun i => [("found", .list ((((sortE l).take i).flatMap Fq).map NRow.dt))])
      (EvF.ev (EvF.sorted_names O (Ev.dir (Ev.folders (W := W) (Ev.nm)) (Ev.nm) hl) hl64)) (.inl rfl) (look_id _) (look_one (by simp)) ?_ ?_
    · intro i d hd
      rw [List.getElem?_map] at hd
      cases hqi : (sortE l)[i]? with
      | none => rw [hqi] at hd; cases hd
      | some q =>
        rw [hqi] at hd
        simp only [Option.map_some, Option.some.injEq] at hd
        subst hd
        have hmem : q ∈ l := (sortE_perm l).mem_iff.mp (List.mem_of_getElem? hqi)
        refine nn fun hno_ => ?_
        obtain ⟨oq, lq, deep⟩ := hq q hmem
        refine hno_ ?_
        clear hno_
        have hlook : l.lookup q.1 = some q.2 := look_nodup hnd hmem
        have htake : ((sortE l).take (i + 1)).flatMap Fq = ((sortE l).take i).flatMap Fq ++ Fq q := by
          rw [List.take_add_one, hqi, List.flatMap_append]; simp
        have hz1 := hpart (i + 1)
        rw [htake, List.length_append] at hz1
        have hFq : Fq q = (⟨p ++ slash ++ q.1, t, q.1, q.2⟩ : NRow) :: (if (W.fol.lookup q.2).isSome then namesOf W n q.2 (p ++ slash ++ q.1) else []) := by rw [← hF]
        have hFl : (Fq q).length = (if (W.fol.lookup q.2).isSome then namesOf W n q.2 (p ++ slash ++ q.1) else []).length + 1 := by rw [hFq]; rfl
        refine ⟨_, .name, .inr fun x d hx => by rw [one_bind hx]; rfl, fun x d hx => by rw [one_bind hx]; rfl, ?_⟩
        refine Ex.cons (Es.assign (Ev.ent (Ev.dir (Ev.folders (W := W) (Ev.nm)) (Ev.nm) hl) (Ev.nm) hlook) ?_)
        refine Ex.cons (Es.append (Ev.tup (ds := [_, _, _, _]) (Evs.cons (Ev.joined (Ev.nm) (Ev.nm) op oq (by lia)) (Evs.cons (Ev.nm) (Evs.cons (Ev.nm) (Evs.cons (Ev.nm) Evs.nil)))) (by simp)) ?_ ?_)
        · rw [List.length_map]; lia
        refine Ex.cons (Es.ite (Tr.folder (Ev.nm) (Ev.folders (W := W) (Ev.nm))) (fun hb => Ex.cons ?_) (fun hb => Ex.nil (Ex.nil ?_)))
        · have hF1 : Fq q = (⟨p ++ slash ++ q.1, t, q.1, q.2⟩ : NRow) :: namesOf W n q.2 (p ++ slash ++ q.1) := by rw [hFq, if_pos hb]
          rw [if_pos hb] at hFl
          refine Es.extend (es := (namesOf W n q.2 (p ++ slash ++ q.1)).map NRow.dt) (EvF.ev (EvF.call g fn.callee (Evs.cons (Ev.nm) (Evs.cons (Ev.nm) (Evs.cons (Ev.joined (Ev.nm) (Ev.nm) op oq (by lia)) Evs.nil)))
            (ih q.2 (p ++ slash ++ q.1) (deep hb) (strOk_append (strOk_append op slash_ok) oq) (by rw [len_append, len_append]; have : slash.length = 1 := rfl; lia) (by lia)))) ?_ ?_
          · rw [List.length_append, List.length_map, List.length_map, List.length_singleton]; lia
          refine Ex.nil (Ex.nil ⟨_, _, rfl, look_trans (look_skip rfl) (look_skip rfl), look_one ?_⟩)
          rw [htake, hF1]
          simp only [List.map_append, List.map_cons, List.append_assoc, List.singleton_append]
          rfl
        · have hF1 : Fq q = [(⟨p ++ slash ++ q.1, t, q.1, q.2⟩ : NRow)] := by rw [hFq, if_neg (by rw [hb]; decide)]
          refine ⟨_, _, rfl, look_trans (look_skip rfl) (look_skip rfl), look_one ?_⟩
          rw [htake, hF1]
          simp only [List.map_append, List.map_cons, List.map_nil]
          rfl
    · refine Ex.cons (Es.retOwn ?_)
      have e : ((sortE l).map fun q => Dt.str q.1).length = (sortE l).length := List.length_map _
      show Ctl.retF _ = Ctl.retF _
      rw [e, List.take_length]
end
end Mine
end

section
open PySem PySem.Spec PySem.Calls PyProof.Rows
namespace Mine
open scoped Classical

/-! Part ND: _law_rows, _law_below, _law_told -/
noncomputable def idD (t : Int) : Dt := .tup [.int t, .int 0]
structure Row where
  path : Str
  who : Int
  folder : Int
  state : Dt
noncomputable def Row.dt (r : Row) : Dt := .tup [.str r.path, idD r.who, idD r.folder, r.state]
noncomputable def rowsOf (W : Wd) (n : Nat) : List Row := ⟨slash, 1, 1, stD W 1⟩ :: (namesOf W n 1 ⟨#[]⟩).map fun r => ⟨r.path, r.thing, r.folder, stD W r.thing⟩

theorem zipb {P : Str → Prop} {xs : List Str} {ds : List Dt} (h : ∀ x ∈ xs, P x) : ∀ x d, (xs.zip ds).lookup x = some d → P x := fun x d e => h x (List.of_mem_zip (mem_of_look e)).1

/-- what the deeds keep of a world, as far as the readers ask -/
structure WOk (W : Wd) (n : Nat) : Prop where
  deep : Deep W n 1
  small : ∀ t l, W.fol.lookup t = some l → l.length < 64 ∧ (l.map (·.1)).Nodup
  few : ∀ t, (namesOf W n t ⟨#[]⟩).length ≤ 4000
  root : (W.sts.lookup 1).isSome = true
  sts : ∀ r ∈ namesOf W n 1 ⟨#[]⟩, (W.sts.lookup r.thing).isSome = true
  n_le : n ≤ 30

section
variable {prog : Program} {w : World} {h₀ : Heap} {sc : Scope} {ρ : List (Str × Dt)} {k : Nat}

theorem state_cl (O : Outer h₀) {f : Value} (fn : Fn h₀ f ["world", "thing"] (scopeAt 14) (bodyAt 14)) (W : Wd) (t : Int) (hs : (W.sts.lookup t).isSome = true) (hz : ∀ l, W.fol.lookup t = some l → l.length < 64 ∧ (l.map (·.1)).Nodup) :
    Cl prog w h₀ (k + 1) f [W.dt, .int t] (stD W t) := Cl.of_ex fn rfl (state_ex O W t hs hz)

theorem rows_cl (O : Outer h₀) {f fnm fst : Value} (fn : Fn h₀ f ["world"] (scopeAt 13) (bodyAt 13)) (gn : GVal h₀ "_law_names" fnm) (fnn : Fn h₀ fnm ["world", "folder", "path"] (scopeAt 12) (bodyAt 12))
    (gs : GVal h₀ "_law_state" fst) (fns : Fn h₀ fst ["world", "thing"] (scopeAt 14) (bodyAt 14)) (W : Wd) (n : Nat) (ok : WOk W n) (hk : n ≤ k) :
    ClF prog w h₀ (k + 1 + 1) f [W.dt] ((rowsOf W n).map Row.dt) := by
  refine ClF.of_ex fn rfl ?_
  show Ex prog w h₀ (k + 1) (scopeAt 13) [("world", W.dt)] [] (bodyAt 13) _
  have hlen := ok.few 1
  generalize hN : namesOf W n 1 ⟨#[]⟩ = N at hlen
  have hrow : (rowsOf W n) = ⟨slash, 1, 1, stD W 1⟩ :: N.map fun r => ⟨r.path, r.thing, r.folder, stD W r.thing⟩ := by unfold rowsOf; rw [hN]
  rw [hrow]
  have hsts : ∀ r ∈ N, (W.sts.lookup r.thing).isSome = true := by rw [← hN]; exact ok.sts
  refine Ex.cons (Es.own (ds := [Row.dt ⟨slash, 1, 1, stD W 1⟩]) (EvF.lst (ds := [_]) (Evs.cons ?_ Evs.nil) (by simp)) (Ex.cons ?_))
  · refine Ev.tup (ds := [.str slash, idD 1, idD 1, stD W 1]) (Evs.cons (Ev.str (x := slash) slash_ok) (Evs.cons ?_ (Evs.cons ?_ (Evs.cons ?_ Evs.nil)))) (by simp)
    · exact Ev.tup (ds := [.int 1, .int 0]) (Evs.cons Ev.int (Evs.cons Ev.int Evs.nil)) (by simp)
    · exact Ev.tup (ds := [.int 1, .int 0]) (Evs.cons Ev.int (Evs.cons Ev.int Evs.nil)) (by simp)
    · exact Ev.call gs fns.callee (ds := [W.dt, .int 1]) (Evs.cons (Ev.nm) (Evs.cons Ev.int Evs.nil)) (state_cl O fns W 1 ok.root (ok.small 1))
  have hN' : ClF prog w h₀ (k + 1) fnm [W.dt, .int 1, .str ⟨#[]⟩] (N.map NRow.dt) := by
    rw [← hN]
    have := ok.n_le
    have e0 : (⟨#[]⟩ : Str).length = 0 := rfl
    exact (names_cl O gn fnn W n 1 ⟨#[]⟩ ok.deep (by decide +kernel) (by rw [e0]; omega) (ok.few 1)).up (by omega)
  refine Es.for_ [("world", W.dt)] (fun i => [("found", .list ((Row.dt ⟨slash, 1, 1, stD W 1⟩) :: (N.take i).map fun r => Row.dt ⟨r.path, r.thing, r.folder, stD W r.thing⟩))])
    (EvF.ev (EvF.call gn fnn.callee (Evs.cons (Ev.nm) (Evs.cons Ev.int (Evs.cons (Ev.str (x := ⟨#[]⟩) (by decide +kernel)) Evs.nil))) hN')) (.inl rfl) (look_id _) (look_one rfl) ?_ ?_
  · intro i d hd
    rw [List.getElem?_map] at hd
    cases hri : N[i]? with
    | none => rw [hri] at hd; cases hd
    | some r =>
      rw [hri] at hd
      simp only [Option.map_some, Option.some.injEq] at hd
      subst hd
      have hmem := List.mem_of_getElem? hri
      have hi := (List.getElem?_eq_some_iff.mp hri).1
      refine ⟨_, .tup (xs := ["path", "folder", "name", "thing"]) (.cons (.cons (.cons (.cons .nil)))) rfl (by decide), .inr (zipb (by decide)), zipb (P := fun x => List.lookup x _ = none) (fun x hx => ?_), ?_⟩
      · have : x ≠ ("found" : Str) := by revert x; decide
        rw [List.lookup_cons, beq_eq_false_iff_ne.mpr this]; rfl
      · refine Ex.cons (Es.append (d := Row.dt ⟨r.path, r.thing, r.folder, stD W r.thing⟩) ?_ ?_ ?_)
        · refine Ev.tup (ds := [.str r.path, idD r.thing, idD r.folder, stD W r.thing]) (Evs.cons (Ev.nm) (Evs.cons ?_ (Evs.cons ?_ (Evs.cons ?_ Evs.nil)))) (by simp)
          · exact Ev.tup (ds := [.int r.thing, .int 0]) (Evs.cons (Ev.nm) (Evs.cons Ev.int Evs.nil)) (by simp)
          · exact Ev.tup (ds := [.int r.folder, .int 0]) (Evs.cons (Ev.nm) (Evs.cons Ev.int Evs.nil)) (by simp)
          · exact Ev.call gs fns.callee (ds := [W.dt, .int r.thing]) (Evs.cons (Ev.nm) (Evs.cons (Ev.nm) Evs.nil)) (state_cl O fns W r.thing (hsts r hmem) (ok.small r.thing))
        · rw [List.length_cons, List.length_map, List.length_take]; omega
        refine Ex.nil ⟨_, _, rfl, ?_, look_one ?_⟩
        · exact look_trans (look_skip rfl) (look_trans (look_skip rfl) (look_trans (look_skip rfl) (look_skip rfl)))
        · rw [List.take_add_one, hri, List.map_append]; rfl
  · refine Ex.cons (Es.retOwn ?_)
    show Ctl.retF _ = Ctl.retF _
    rw [List.length_map, List.take_length, List.map_cons, List.map_map]
    rfl

/-! _law_below -/
theorem below_cl (O : Outer h₀) {f fnm : Value} (fn : Fn h₀ f ["world", "folder"] (scopeAt 16) (bodyAt 16)) (gn : GVal h₀ "_law_names" fnm) (fnn : Fn h₀ fnm ["world", "folder", "path"] (scopeAt 12) (bodyAt 12))
    (W : Wd) (n : Nat) (t : Int) (hd : Deep W n t) (hf : (namesOf W n t ⟨#[]⟩).length ≤ 4000) (hn : n ≤ 30) (hk : n ≤ k) :
    ClF prog w h₀ (k + 1) f [W.dt, .int t] (.int t :: ((namesOf W n t ⟨#[]⟩).filter fun r => (W.fol.lookup r.thing).isSome).map fun r => .int r.thing) := by
  refine ClF.of_ex fn rfl ?_
  have hN' : ClF prog w h₀ k fnm [W.dt, .int t, .str ⟨#[]⟩] ((namesOf W n t ⟨#[]⟩).map NRow.dt) := by
    have e0 : (⟨#[]⟩ : Str).length = 0 := rfl
    exact (names_cl O gn fnn W n t ⟨#[]⟩ hd (by decide +kernel) (by rw [e0]; omega) hf).up hk
  generalize namesOf W n t ⟨#[]⟩ = N at hN' hf ⊢
  have hE : ((N.filter fun r => (W.fol.lookup r.thing).isSome).map fun r => Dt.int r.thing) =
      ((N.map NRow.dt).filter fun d => match d with | .tup [_, _, _, .int x] => (W.fol.lookup x).isSome | _ => false).map fun d => match d with | .tup [_, _, _, x] => x | _ => .none := by
    rw [List.filter_map, List.map_map]; rfl
  have hlen : ((N.map NRow.dt).filter fun d => match d with | .tup [_, _, _, .int x] => (W.fol.lookup x).isSome | _ => false).length ≤ 4000 := Nat.le_trans (List.length_filter_le _ _) (by rw [List.length_map]; exact hf)
  rw [hE]
  refine Ex.cons (Es.retF (EvF.bin (EvF.ev (EvF.lst (ds := [_]) (Evs.cons (Ev.nm) Evs.nil) (by simp))) (EvF.ev (EvF.comp _ _ (EvF.ev (EvF.call gn fnn.callee (Evs.cons (Ev.nm) (Evs.cons (Ev.nm) (Evs.cons (Ev.str (x := ⟨#[]⟩) (by decide +kernel)) Evs.nil))) hN')) (.inl rfl)
    (by rw [List.length_map]; omega) ⟨by decide, rfl, by decide, by decide⟩ fun d hd => ?_)) (BinF.add_list (by rw [List.length_map, List.length_singleton]; omega))) rfl)
  obtain ⟨r, hr, rfl⟩ := List.mem_map.mp hd
  refine ⟨_, .tup (xs := ["path", "within", "name", "thing"]) (.cons (.cons (.cons (.cons .nil)))) rfl (by decide), zipb (by decide), ?_, fun _ => Ev.nm⟩
  exact Tr.folder (Ev.nm) (Ev.folders (W := W) (Ev.nm))
end
end Mine
end

section
open PySem PySem.Spec PySem.Calls PyProof.Rows
namespace Mine
open scoped Classical

/-! Part NE: grouping; _law_told -/
theorem find_map_fst (l : List (Dt × Dt)) (k k' v : Dt) : ((l.map fun p => if p.1 = k then (p.1, v) else p).find? fun p => decide (p.1 = k')) = (l.find? fun p => decide (p.1 = k')).map fun p => if p.1 = k then (p.1, v) else p := by
  induction l with
  | nil => rfl
  | cons q r ih =>
    rw [List.map_cons, List.find?_cons, List.find?_cons]
    have e : (if q.1 = k then (q.1, v) else q).1 = q.1 := by split <;> rfl
    rw [e]
    cases decide (q.1 = k') with
    | true => rfl
    | false => exact ih
theorem dget_dset (m : List (Dt × Dt)) (k v k' : Dt) : dget (dset m k v) k' = if k' = k then some v else dget m k' := by
  unfold dset
  split
  · rename_i h
    unfold dget
    rw [find_map_fst]
    cases q : m.find? fun p => decide (p.1 = k') with
    | none =>
      have hn : ¬ k' = k := fun e => by
        subst e
        unfold dhas dget at h
        rw [q] at h; cases h
      rw [if_neg hn]; rfl
    | some p =>
      have hp : p.1 = k' := by have := List.find?_some q; simpa using this
      simp only [Option.map_some]
      rw [hp]
      split <;> rfl
  · rename_i h
    unfold dget
    rw [List.find?_append]
    cases q : m.find? fun p => decide (p.1 = k') with
    | none =>
      simp only [Option.none_or, List.find?_cons, List.find?_nil, Option.map_none]
      by_cases e : k' = k
      · subst e; simp
      · rw [if_neg e]
        have : decide (k = k') = false := by simp [Ne.symm e]
        rw [this]; rfl
    | some p =>
      have hp : p.1 = k' := by have := List.find?_some q; simpa using this
      have hn : ¬ k' = k := fun e => by
        subst e
        apply h
        unfold dhas dget
        rw [q]; rfl
      rw [if_neg hn]; rfl
theorem keys_dset (m : List (Dt × Dt)) (k v : Dt) : (dset m k v).map (·.1) = if dhas m k then m.map (·.1) else m.map (·.1) ++ [k] := by
  unfold dset
  split
  · exact keys_map_set m k v
  · simp
theorem dhas_iff (m : List (Dt × Dt)) (k : Dt) : dhas m k = true ↔ k ∈ m.map (·.1) := by
  unfold dhas
  cases q : dget m k with
  | none => simp only [Option.isSome_none, Bool.false_eq_true, false_iff]; exact dget_none_iff.mp q
  | some d =>
    simp only [Option.isSome_some, true_iff]
    by_cases h : k ∈ m.map (·.1)
    · exact h
    · rw [dget_none_iff.mpr h] at q; cases q

noncomputable def listOf : Option Dt → List Dt
  | some (.list l) => l
  | _ => []
noncomputable def grpStep (m : List (Dt × Dt)) (k v : Dt) : List (Dt × Dt) := dset m k (.list (listOf (dget m k) ++ [v]))
noncomputable def grp (l : List (Dt × Dt)) : List (Dt × Dt) := l.foldl (fun m p => grpStep m p.1 p.2) []
theorem grp_snoc (l : List (Dt × Dt)) (p : Dt × Dt) : grp (l ++ [p]) = grpStep (grp l) p.1 p.2 := by unfold grp; rw [List.foldl_append]; rfl

noncomputable def sel (l : List (Dt × Dt)) (k : Dt) : List Dt := (l.filter fun p => decide (p.1 = k)).map (·.2)
theorem sel_snoc (l : List (Dt × Dt)) (p : Dt × Dt) (k : Dt) : sel (l ++ [p]) k = sel l k ++ if p.1 = k then [p.2] else [] := by
  unfold sel
  rw [List.filter_append, List.map_append]
  congr 1
  by_cases h : p.1 = k <;> simp [h]

theorem snoc_ind {α : Type} {P : List α → Prop} (h0 : P []) (h1 : ∀ l a, P l → P (l ++ [a])) (l : List α) : P l := by
  have : ∀ r : List α, P r.reverse := by
    intro r
    induction r with
    | nil => exact h0
    | cons a r ih => rw [List.reverse_cons]; exact h1 _ _ ih
  have := this l.reverse
  rwa [List.reverse_reverse] at this

theorem grp_get (l : List (Dt × Dt)) : ∀ k, dget (grp l) k = if sel l k = [] then none else some (.list (sel l k)) := by
  induction l using snoc_ind with
  | h0 => intro k; rfl
  | h1 l p ih =>
    intro k
    rw [grp_snoc, sel_snoc]
    unfold grpStep
    rw [dget_dset]
    by_cases h : k = p.1
    · rw [if_pos h, if_pos h.symm, if_neg (by simp), ih, h]
      congr 2
      split
      · rename_i h2; rw [h2]; rfl
      · rfl
    · rw [if_neg h, if_neg (Ne.symm h), ih, List.append_nil]
theorem grp_list (l : List (Dt × Dt)) (k : Dt) : (dget (grp l) k).getD (.list []) = .list (listOf (dget (grp l) k)) := by
  rw [grp_get]; split <;> rfl
theorem grp_listOf (l : List (Dt × Dt)) (k : Dt) : listOf (dget (grp l) k) = sel l k := by
  rw [grp_get]
  split
  · rename_i h; rw [h]; rfl
  · rfl
theorem grp_nodup (l : List (Dt × Dt)) : ((grp l).map (·.1)).Nodup := by
  induction l using snoc_ind with
  | h0 => exact List.nodup_nil
  | h1 l p ih => rw [grp_snoc]; exact nodup_dset ih _ _
theorem grp_len (l : List (Dt × Dt)) : (grp l).length ≤ l.length := by
  induction l using snoc_ind with
  | h0 => exact Nat.le_refl _
  | h1 l p ih => rw [grp_snoc, List.length_append]; exact Nat.le_trans (length_dset _ _ _) (by simpa using ih)
theorem grp_keys (l : List (Dt × Dt)) (k : Dt) : k ∈ (grp l).map (·.1) ↔ sel l k ≠ [] := by
  rw [← dhas_iff]
  unfold dhas
  rw [grp_get]
  split <;> simp_all
theorem sel_len (l : List (Dt × Dt)) (k : Dt) : (sel l k).length ≤ l.length := by unfold sel; rw [List.length_map]; exact List.length_filter_le _ _
theorem sel_mem {l : List (Dt × Dt)} {k x : Dt} (h : x ∈ sel l k) : ∃ p ∈ l, p.1 = k ∧ p.2 = x := by
  unfold sel at h
  obtain ⟨p, hp, rfl⟩ := List.mem_map.mp h
  obtain ⟨h1, h2⟩ := List.mem_filter.mp hp
  exact ⟨p, h1, by simpa using h2, rfl⟩

/-- rows as the law's readers need them -/
structure RowOk (r : Row) : Prop where
  ok : PyData.strOk r.path = true
  len : r.path.length ≤ 4000
  nd : nd r.state = true
  pl : pl 40 r.state = true

noncomputable def Row.ent (r : Row) : Dt × Dt := (idD r.who, .tup [.tup [idD r.folder, .str (tailOf r.path)], .str r.path])

section
variable {prog : Program} {w : World} {h₀ : Heap} {sc : Scope} {ρ : List (Str × Dt)} {k : Nat}

theorem Ev.minus {i : Int} {kd : Nat} {p p' : Pos} : Ev prog w h₀ k sc ρ (.UnaryOp .USub (.Constant (.int i) kd p) p') (.int (-i)) := .mk fun A G env s E ok R =>
  wpAny_UnaryOp (wpAny_Constant_int (PyProof.Rows.neg_int (Po.val (Kp.refl s.heap) (.int _ _))))

theorem tail_last (x : Str) : ((Txt.split x slash).map Dt.str).getLast? = some (.str (tailOf x)) := by
  have h := PyProof.Rows.split_pos x slash
  rw [List.getLast?_map]
  unfold tailOf
  cases q : (Txt.split x slash).getLast? with
  | none => rw [List.getLast?_eq_none_iff] at q; rw [q] at h; simp at h
  | some z => rfl

/-- e.split('/')[-1] -/
theorem Ev.tail {e : Expr} {x : Str} {ap p1 p2 p3 p4 p5 : Pos} {kd kd' : Nat} (H : Ev prog w h₀ k sc ρ e (.str x)) (ox : PyData.strOk x = true) (hz : x.length ≤ 4000)
    (hb : autoParam (∀ env w, attributeBase e "split" env w = w) aI._auto_1) (hl : autoParam ((ap.endLine == p2.line) = true) aR._auto_1) :
    Ev prog w h₀ k sc ρ (.Subscript (.Call (.Attribute e "split" ap) [.Constant (.str "/") kd p1] [] p2) (.UnaryOp .USub (.Constant (.int 1) kd' p3) p4) p5) (.str (tailOf x)) := by
  have h1 := PyProof.Rows.split_le x slash
  exact Ev.sub (Ev.meth H (Evs.cons (Ev.str (x := slash) slash_ok) Evs.nil) (Mt.split ox (by lia)) hb (by decide) hl rfl rfl) Ev.minus (Item.list_last (tail_last x) (by rw [List.length_map]; lia))

theorem told_cl (O : Outer h₀) {f : Value} (fn : Fn h₀ f ["rows"] (scopeAt 19) (bodyAt 19)) (rows : List Row) (hr : ∀ r ∈ rows, RowOk r) (hz : rows.length ≤ 500) :
    Cl prog w h₀ (k + 1) f [.list (rows.map Row.dt)] (.dict (grp (rows.map Row.ent))) := by
  refine Cl.of_ex fn rfl ?_
  show Ex prog w h₀ k (scopeAt 19) [("rows", .list (rows.map Row.dt))] [] (bodyAt 19) _
  refine Ex.cons (Es.ownDict O.lim (Ex.cons ?_))
  refine Es.for_ [("rows", .list (rows.map Row.dt))] (fun i => [("found", .dict (grp ((rows.take i).map Row.ent)))]) Ev.nm (.inl rfl) (look_id _) (look_one rfl) ?_ ?_
  · intro i d hd
    rw [List.getElem?_map] at hd
    cases hri : rows[i]? with
    | none => rw [hri] at hd; cases hd
    | some r =>
      rw [hri] at hd
      simp only [Option.map_some, Option.some.injEq] at hd
      subst hd
      have ro := hr r (List.mem_of_getElem? hri)
      have hgl := grp_len ((rows.take i).map Row.ent)
      rw [List.length_map, List.length_take] at hgl
      refine ⟨_, .tup (xs := ["path", "who", "folder", "state"]) (.cons (.cons (.cons (.cons .nil)))) rfl (by decide), .inr (zipb (by decide)), zipb (P := fun x => List.lookup x _ = none) (fun x hx => ?_), ?_⟩
      · have : x ≠ ("found" : Str) := by revert x; decide
        rw [List.lookup_cons, beq_eq_false_iff_ne.mpr this]; rfl
      · refine Ex.cons (Es.store (kvs := grp ((rows.take i).map Row.ent)) (key := idD r.who) (d := .list (listOf (dget (grp ((rows.take i).map Row.ent)) (idD r.who)) ++ [(Row.ent r).2])) ?_ ?_ Ev.nm rfl (by lia) ?_)
        · refine EvF.ev (EvF.bin (d := .list (listOf (dget (grp ((rows.take i).map Row.ent)) (idD r.who)))) (e := .list [(Row.ent r).2]) ?_ (EvF.ev (EvF.lst (Evs.cons ?_ Evs.nil) (by simp))) (BinF.add_list ?_))
          · rw [← grp_list]
            exact Ev.meth Ev.nm (Evs.cons Ev.nm (Evs.cons (EvF.ev (EvF.lst (ds := []) Evs.nil (by simp))) Evs.nil)) (Mt.get rfl)
          · refine Ev.tup (ds := [.tup [idD r.folder, .str (tailOf r.path)], .str r.path]) (Evs.cons ?_ (Evs.cons Ev.nm Evs.nil)) (by simp)
            exact Ev.tup (ds := [idD r.folder, .str (tailOf r.path)]) (Evs.cons Ev.nm (Evs.cons (Ev.tail Ev.nm ro.ok ro.len) Evs.nil)) (by simp)
          · rw [grp_listOf, List.length_singleton]
            have := sel_len ((rows.take i).map Row.ent) (idD r.who)
            rw [List.length_map, List.length_take] at this
            lia
        · show nds _ = true
          rw [nds_iff]
          intro d hd
          rcases List.mem_append.mp hd with h | h
          · rw [grp_listOf] at h
            obtain ⟨p, hp, _, rfl⟩ := sel_mem h
            obtain ⟨r', _, rfl⟩ := List.mem_map.mp hp
            rfl
          · rw [List.mem_singleton.mp h]; rfl
        · refine Ex.nil ⟨_, _, rfl, look_trans (look_skip rfl) (look_trans (look_skip rfl) (look_trans (look_skip rfl) (look_skip rfl))), look_one ?_⟩
          rw [List.take_add_one, hri, List.map_append]
          show Dt.dict (grp (_ ++ [Row.ent r])) = _
          rw [grp_snoc]; rfl
  · refine Ex.cons (Es.retDict ?_)
    show Ctl.ret _ = Ctl.ret _
    rw [List.length_map, List.take_length]
end
end Mine
end

section
open PySem PySem.Spec PySem.Calls PyProof.Rows
namespace Mine
open scoped Classical

/-! Part NF: what a frame may change besides its own names -/
section
variable {prog : Program} {w : World} {h₀ : Heap} {sc : Scope} {F G₀ R : Gh} {ρ ω : List (Str × Dt)} {k : Nat} {G G' : Gh} {s : Shared} {env : Env} {A : Around} {E : Value → Shared → Prop} {h h' : Heap}

/-- an object of R has changed, one may have come -/
theorem Own2.mut {a : Addr} {o : Obj} (X : Fs w h₀ sc F G₀ ρ ω G h env) (Y : Own2 F G R h ω env) (ha : ∃ o, R a = some o) (kb : Heap.ExtBut a h h') (ho : h'.get? a = some o) :
    Fs w h₀ sc F G₀ ρ ω G h' env ∧ Own2 F G (put R a o) h' ω env := by
  obtain ⟨o₀, ha⟩ := ha
  obtain ⟨h1, h2, h3, h4, h5⟩ := Y.off a o₀ ha
  have X' : Fs w h₀ sc F G₀ ρ ω G h' env := X.off kb h1 h2 h3 h4 h5
  refine ⟨X', ⟨fun b o' e => ?_, fun b o' e => ?_⟩⟩
  · unfold put at e
    split at e
    · rename_i q; subst q; cases e; exact ho
    · rename_i q; exact kb b o' q (Y.inR b o' e)
  · have hb : ∃ o2, R b = some o2 := by
      unfold put at e
      split at e
      · rename_i q; subst q; exact ⟨_, ha⟩
      · exact ⟨_, e⟩
    obtain ⟨o2, hb⟩ := hb
    obtain ⟨g1, g2, g3, g4, g5⟩ := Y.off b o2 hb
    refine ⟨g1, g2, g3, g4, fun y d c hy hc => ?_⟩
    obtain ⟨c', q1, q2, q3, q4, q5, q6⟩ := X.own y d hy
    have hca : c' ≠ a := h5 y d c' hy q1
    obtain ⟨c'', r1, _⟩ := X'.own y d hy
    -- the name still holds what it held
    have keepAt : At h' env y (.ref c') := by
      rcases q1 with ⟨t1, m', t2, t3⟩ | ⟨t1, c3, t2, t3⟩
      · exact .inl ⟨t1, m', t2.extBut kb (Ne.symm h3), t3⟩
      · exact .inr ⟨t1, c3, t2, let ⟨o, ho, hd⟩ := t3; ⟨o, kb _ _ (Ne.symm (h4 y c3 t2)) ho, hd⟩⟩
    obtain rfl := ref_inj (keepAt.det hc)
    exact g5 y d _ hy q1
end
end Mine
end

section
open PySem PySem.Spec PySem.Calls PyProof.Rows
namespace Mine
open scoped Classical

/-! Part NG: a loop that changes other owned objects -/
section
variable {prog : Program} {w : World} {h₀ : Heap} {sc : Scope} {F G₀ R : Gh} {ρ ω : List (Str × Dt)} {k : Nat} {G G' : Gh} {s : Shared} {env : Env} {A : Around} {E : Value → Shared → Prop} {h h' : Heap}

theorem for_R {target iter : Expr} {body : List Stmt} {p : Pos} {d : Dt} {ds : List Dt} {Q : Flow → Shared → Prop} {Cn : Nat → Gh → Gh → Prop} {ρ₁ : List (Str × Dt)} {ω : Nat → List (Str × Dt)} (hmono : ∀ i G G' R, Sub G G' → Cn i G R → Cn i G' R)
    (ok : Ok A k) (X : Fs w h₀ sc F G₀ ρ (ω 0) G s.heap env) (Y : Own2 F G R s.heap (ω 0) env) (c0 : Cn 0 G R) (H : Ev prog w h₀ k sc ρ iter d) (hd : d = .list ds ∨ ∃ kvs, d = .dict kvs ∧ ds = kvs.map (·.1))
    (hρ : ∀ x d, ρ₁.lookup x = some d → ρ.lookup x = some d) (B : BodyR prog w h₀ k sc ρ₁ ω target body env Cn F ds)
    (q : ∀ h' tk G' R', Fs w h₀ sc F G₀ ρ₁ (ω ds.length) G' h' env → Own2 F G' R' h' (ω ds.length) env → Cn ds.length G' R' → Q .next { s with heap := h', toks := tk })
    (hs : autoParam (∀ env x, foldedSetIterable iter env x = pure x) aI._auto_1) : wpAny (model prog w) A (exec (.For target iter body [] p) env) Q E s :=
  for_E (Cn := fun i ω' G R => ω' = ω i ∧ Cn i G R) (fun i _ G G' R s c => ⟨c.1, hmono i G G' R s c.2⟩) ok X Y ⟨rfl, c0⟩ H hd hρ B (fun h' tk G' R' ω' Z V c => q h' tk G' R' (c.1 ▸ Z) (c.1 ▸ V) c.2) hs
end
end Mine
end

section
open PySem PySem.Spec PySem.Calls PyProof.Rows PySem.W
namespace Mine
open scoped Classical

/-! Part NH: instances -/
structure Cls (K : Frag) (h₀ : Heap) (C fI fO : Addr) (fields : List Str) : Prop where
  kin : K.In h₀
  make : makesIn K C = true
  keep : keepIn K (.ref C) = true
  init : findIn K (.ref C) "__init__" = some (some (.ref fI))
  fnI : typeIn K (.ref fI) = some (.type "function")
  only : findIn K (.ref C) "only" = some (some (.ref fO))
  fnO : typeIn K (.ref fO) = some (.type "function")
  keepO : keepIn K (.ref fO) = true
  hga : findIn K (.ref C) "__getattribute__" = some (some (.builtin "object.__getattribute__"))
  hk : findIn K (.ref C) "__getattr__" = some none
  hsa : findIn K (.ref C) "__setattr__" = some (some (.builtin "object.__setattr__"))
  plain : plainOver K C = true
  dict : (clsIn K C).any (·.hasDict) = true
  none : ∀ x ∈ fields, findIn K (.ref C) x = some none
  onlyF : ∀ x ∈ fields, (x == ("only" : Str)) = false
  copied : ∀ x ∈ fields, copiedNames.contains x = false

section
variable {prog : Program} {w : World} {h₀ : Heap} {sc : Scope} {F G₀ R : Gh} {ρ ω : List (Str × Dt)} {k : Nat} {G G' : Gh} {s : Shared} {env : Env} {A : Around} {E : Value → Shared → Prop} {h h' : Heap} {K : Frag} {C fI fO : Addr} {fields : List Str}

theorem isStr_str (x y : Str) (t : Tok) : Value.isStr (.str y t) x = (y == x) := rfl
theorem fields_find {es : List DictEntry} {fs : List (Str × Dt)} (q : IsFields w G es fs) {x : Str} {d : Dt} (h : fs.lookup x = some d) : ∃ e, es.find? (·.key.isStr x) = some e ∧ Is w G e.val d :=
  q.ind (P := fun es fs => fs.lookup x = some d → ∃ e, es.find? (·.key.isStr x) = some e ∧ Is w G e.val d) (fun h => nomatch h) (fun {hh y t v _ d' _} i _ ih h => by
    rw [List.lookup_cons] at h
    rw [List.find?_cons, isStr_str]
    by_cases hxy : x = y
    · rw [hxy, beq_self_eq_true] at h ⊢
      exact ⟨_, rfl, Option.some.inj h ▸ i⟩
    · rw [beq_eq_false_iff_ne.mpr hxy] at h
      rw [beq_eq_false_iff_ne.mpr (Ne.symm hxy)]
      exact ih h) h
theorem fields_none {es : List DictEntry} {fs : List (Str × Dt)} (q : IsFields w G es fs) {x : Str} (h : ∀ y d, (y, d) ∈ fs → (y == x) = false) : es.find? (·.key.isStr x) = none ∧ es.any (·.refKey) = false :=
  q.ind (P := fun es fs => (∀ y d, (y, d) ∈ fs → (y == x) = false) → es.find? (·.key.isStr x) = none ∧ es.any (·.refKey) = false) (fun _ => ⟨rfl, rfl⟩) (fun {hh y t v _ d' _} _ _ ih h => by
    have q := ih fun z d hz => h z d (.tail _ hz)
    exact ⟨by rw [List.find?_cons, isStr_str, h y d' (.head _)]; exact q.1, by rw [List.any_cons, q.2]; rfl⟩) h
theorem Is.handed {v : Value} {d : Dt} (i : Is w G v d) : handedIn v = true := by cases i <;> rfl

theorem find_value (c : Cls K h₀ C fI fO fields) {x : Str} (hx : x ∈ fields) {od : Obj} {v : Value} (hl : lookIn x od = some (some v)) : findObj K C (some od) x = some (.value v) := by
  refine nn fun hno_ => ?_
  obtain ⟨cd, hc, hd⟩ := any_some c.dict
  refine hno_ ?_
  clear hno_
  unfold findObj
  rw [hc, c.none x hx]
  simp only [Option.bind_some]
  unfold W.ownOf
  rw [if_pos hd]
  simp only [hl, Option.bind_some]

theorem inst_at {x dx : Addr} {es : Array DictEntry} {n : Nat} (hx : h.get? x = some ⟨.ref C, some dx, .plain, #[]⟩) (hd : h.get? dx = some (dicObj es n)) : InstAt h x ⟨.ref C, some dx, .plain, #[]⟩ C (some (dicObj es n)) :=
  ⟨hx, rfl, rfl, hd⟩

/-- e.field -/
theorem Ev.attr {e : Expr} {x : Str} {p : Pos} {fs : List (Str × Dt)} {d : Dt} (c : Cls K h₀ C fI fO fields) (H : Ev prog w h₀ k sc ρ e (.inst C fs)) (hx : x ∈ fields) (hf : fs.lookup x = some d)
    (hb : autoParam (∀ env w, attributeBase e x env w = w) aI._auto_1) : Ev prog w h₀ k sc ρ (.Attribute e x p) d := .mk fun A G env s E ok R => by
  rw [arm_eval_Attribute, hb]
  refine wpAny_bind (H.go ok R fun v h1 tk1 k1 i1 R1 => wpAny_bind (wpAny_standAt (wpAny_bind (wpAny_holding ?_))))
  cases i1 with
  | @inst a _ dx es n _ ha hdx hfs hn =>
    obtain ⟨en, hen, iv⟩ := fields_find hfs hf
    have hl : lookIn x (dicObj es n) = some (some en.val) := by unfold lookIn; dsimp only; rw [hen]
    have hh : handedIn en.val = true := iv.handed
    refine get_value (K := K) (fun b o e => R1.keep _ _ (c.kin b o e)) (inst_at (R1.inh _ _ ha) (R1.inh _ _ hdx)) c.hga (find_value c hx hl) hh ?_
    exact wpAny_bind (wpAny_letTemporaryGo (wpAny_pure (Po.val k1 iv)))

/-- a method of the class -/
theorem Ev.only {o e : Expr} {apos pos : Pos} {fs : List (Str × Dt)} {d r : Dt} (c : Cls K h₀ C fI fO fields) (H : Ev prog w h₀ k sc ρ o (.inst C fs)) (J : Ev prog w h₀ k sc ρ e d) (hsub : ∀ x d, (x, d) ∈ fs → x ∈ fields) (M : Cl prog w h₀ k (.ref fO) [.inst C fs, d] r)
    (hb : autoParam (∀ env w, attributeBase o "only" env w = w) aI._auto_1) (hline : autoParam ((apos.endLine == pos.line) = true) aR._auto_1) (he : autoParam (starred e = false) aR._auto_1) :
    Ev prog w h₀ k sc ρ (.Call (.Attribute o "only" apos) [e] [] pos) r := .mk fun A G env s E ok R => by
  rw [arm_eval_Call, hb]
  refine wpAny_bind (H.go ok R fun v h1 tk1 k1 i1 R1 => wpAny_bind (wpAny_standAt ?_))
  have hform : methodCallForm ([e].length + ([] : List Keyword).length) (backTo pos (starEach [e] env)) (backToKw pos (keywordEach [] env)) = true := by
    unfold methodCallForm
    rw [back_all (by rw [List.all_cons, he]; rfl)]; rfl
  have hpos : methodCallPos true o env apos pos = pure pos := by unfold methodCallPos; simp [hline]
  unfold methodCall
  rw [hform]
  have i1' := i1
  cases i1 with
  | @inst a _ dx es n _ ha hdx hfs hn =>
    have hsh : shadowIn (some (dicObj es n)) "only" = some false := by
      refine nn fun hno_ => ?_
      obtain ⟨f1, f2⟩ := fields_none hfs (x := "only") fun y d hy => c.onlyF y (hsub y d hy)
      refine hno_ ?_
      clear hno_
      unfold shadowIn lookIn
      dsimp only
      rw [f1, f2]; rfl
    refine wpAny_bind (wpAny_holding (method_fn (K := K) (fun b o e => R1.keep _ _ (c.kin b o e)) (inst_at (R1.inh _ _ ha) (R1.inh _ _ hdx)) c.hga c.hk c.only c.fnO hsh ?_))
    refine wpAny_bind (wpAny_of_eq hpos ?_)
    refine callWith_K (h₀ := h₀) c.kin c.keepO ((Evs.cons J Evs.nil he).go ok R1 fun vs h2 tk2 k2 i2 R2 => ?_) (star_cons he) (star_none rfl)
    refine ⟨fun b o e => R2.keep _ _ (c.kin b o e), ?_⟩
    exact wpAny_mono (M.run A _ _ E (.ref a :: vs) ok R2.inh R2.keep (.cons (i1'.mono (sub_exl (R1.inh.kp k2))) i2)) (fun _ _ p => Po.thru k1 (Po.thru k2 p)) fun _ _ e => e

/-- self.field = v, of a field that is new -/
theorem setattr_D {x dx : Addr} {es : Array DictEntry} {n : Nat} {name : Str} {v : Value} {Q : Unit → Shared → Prop} (c : Cls K h₀ C fI fO fields) (kp : Kp h₀ s.heap) (hx : name ∈ fields) (hxo : s.heap.get? x = some ⟨.ref C, some dx, .plain, #[]⟩) (hdx : s.heap.get? dx = some (dicObj es n))
    (hf : es.toList.find? (·.key.isStr name) = none) (hr : es.toList.any (·.refKey) = false) (hz : es.size ≤ 100)
    (q : ∀ h' tk tk', h'.get? dx = some (dicObj (es.push ⟨PyData.keyHash w.params name, .str name tk', v⟩) (n + 1)) → Heap.ExtBut dx s.heap h' → Q () { s with heap := h', toks := tk }) :
    wpAny (model prog w) A (setAttr (.ref x) name v) Q E s := by
  have X : K.In s.heap := fun b o e => kp _ _ (c.kin b o e)
  have I := inst_at (C := C) hxo hdx
  have ht : takerIn K C name = some none := by unfold takerIn; rw [c.none name hx]; rfl
  refine set_plain X I c.hsa ?_
  refine osa_open (s := { s with toks := s.toks + 1 }) X I c.plain ht fun b => ?_
  refine nn fun hno_ => ?_
  obtain ⟨cd, hc, hd'⟩ := any_some c.dict
  refine hno_ ?_
  clear hno_
  obtain ⟨hh, g, d, t, os⟩ := s
  dsimp only at X I hxo hdx q ⊢
  refine wpAny_bind (wpAny_pure (wpAny_bind (wpAny_bind (wpAny_loadPart hxo (wpAny_bind ((looks_clsIn X hc).at ?_))))))
  rw [hd']
  refine wpAny_pure (a := some dx) (wpAny_bind (wpAny_pure (wpAny_bind ?_)))
  unfold nsSet
  refine wpAny_bind (wpAny_bind (wpAny_askSetting (wpAny_pure (wpAny_bind (wpAny_mkText (wpAny_bind (wpAny_loadPart hdx ?_)))))))
  dsimp only
  have cc : (!es.any (·.key.isStr name) && es.any (·.refKey)) = false := by
    rw [← Array.any_toList, ← Array.any_toList, hr, Bool.and_false]
  rw [aRefKeyMayBeTheName_at, cc]
  refine wpAny_updatePart hdx ?_
  have hput : Obj.putName name (PyData.keyHash w.params name) (.str name (t + 1)) v (dicObj es n) = dicObj (es.push ⟨PyData.keyHash w.params name, .str name (t + 1), v⟩) (n + 1) := by
    rw [Obj.putName_eq]
    unfold Obj.putNameByArray
    dsimp only
    have : es.findIdx? (·.key.isStr name) = none := by
      rw [Array.findIdx?_eq_none_iff]
      intro e he
      have := List.find?_eq_none.mp hf e (by simpa using he)
      simpa using this
    rw [this]
  have hg : (hh.update dx (Obj.putName name (PyData.keyHash w.params name) (.str name (t + 1)) v)).get? dx = some (dicObj (es.push ⟨PyData.keyHash w.params name, .str name (t + 1), v⟩) (n + 1)) := by
    have := Heap.get?_update_self (Obj.putName name (PyData.keyHash w.params name) (.str name (t + 1)) v) hdx (by rw [hput]; rfl)
    rw [hput] at this; exact this
  refine wpAny_bind (wpAny_lookBehind hg (pastItsLine_dict (by rw [Array.size_push, sizeLine_eq]; lia)) ?_)
  exact wpAny_pure (q _ _ _ hg (Heap.SameBut.update ..).extBut)
end
end Mine
end

section
open PySem PySem.Spec PySem.Calls PyProof.Rows PySem.W
namespace Mine
open scoped Classical

/-! Part NI: NameTable.__init__ -/
section
variable {prog : Program} {w : World} {h₀ : Heap} {sc : Scope} {F G₀ R : Gh} {ρ ω : List (Str × Dt)} {k : Nat} {G G' : Gh} {s : Shared} {env : Env} {A : Around} {E : Value → Shared → Prop} {h h' : Heap} {K : Frag} {C fI fO : Addr} {fields : List Str}

noncomputable abbrev selfD (C dx : Addr) : Dt := .inst C [(⟨#[]⟩, .int dx)]
noncomputable abbrev insObj (C dx : Addr) : Obj := ⟨.ref C, some dx, .plain, #[]⟩


theorem Own2.new {a : Addr} {o : Obj} (X : Fs w h₀ sc F G₀ ρ ω G h env) (Y : Own2 F G R h ω env) (kp : Kp h h') (ha : h.get? a = none) (ho : h'.get? a = some o) : Own2 F G (put R a o) h' ω env where
  inR := fun b o' e => by
    unfold put at e
    split at e
    · rename_i q; subst q; cases e; exact ho
    · exact kp _ _ (Y.inR b o' e)
  off := fun b o' e => by
    have Y' := Y.step (G' := G) X kp fun _ _ _ => rfl
    unfold put at e
    split at e
    · rename_i q
      subst q
      have ne : ∀ {c o}, h.get? c = some o → b ≠ c := fun e q => by subst q; rw [ha] at e; cases e
      refine ⟨?_, ?_, ?_, ?_, ?_⟩
      · cases q : F b with
        | none => rfl
        | some o => rw [X.inF b o q] at ha; cases ha
      · cases q : G b with
        | none => rfl
        | some o => rw [X.rd.inh b o q] at ha; cases ha
      · obtain ⟨m, o, es, ep, hL, _⟩ := X.ns; exact ne hL
      · intro y c hc; obtain ⟨_, _, _, v, o, hcell, _⟩ := X.cell y c hc; exact ne hcell
      · intro y d c hy hc
        obtain ⟨c', g1, g2, _⟩ := X.own y d hy
        obtain ⟨o, hl⟩ := g2.live
        obtain rfl := ref_inj ((g1.keep2 kp).det hc)
        exact Ne.symm (ne hl)
    · exact Y'.off b o' e

/-- `self.f[ke] = e` -/
theorem store_self {dx a : Addr} {f : Str} {es eds : Array DictEntry} {n m : Nat} {ent : DictEntry} {fs : List (Str × Dt)} {e ke : Expr} {d key : Dt} {kvs : List (Dt × Dt)} {p1 p2 p3 p4 : Pos} {Q : Flow → Shared → Prop} (c : Cls K h₀ C fI fO fields) (ok : Ok A k)
    (X : Fs w h₀ sc F G₀ ρ ω G s.heap env) (Y : Own2 F G R s.heap ω env) (hself : ω.lookup ("self" : Str) = some (selfD C dx)) (hdx : R dx = some (dicObj es n)) (hent : es.toList.find? (·.key.isStr f) = some ent) (hval : ent.val = .ref a) (hf : f ∈ fields)
    (ha : R a = some (dicObj eds m)) (hents : IsEnts w G eds.toList kvs) (hnod : (kvs.map (·.1)).Nodup) (hsys : a ≠ sysModules) (hRd : ∀ b o, R b = some o → ∃ es n, o = dicObj es n)
    (hI : ∀ x, R x = none → G x = none → Is w (un G (put R x (insObj C dx))) (.ref x) (.inst C fs)) (hρs : ρ.lookup ("self" : Str) = none)
    (H : Ev prog w h₀ k sc (("self", .inst C fs) :: ρ) e d) (hn : nd d = true) (J : Ev prog w h₀ k sc ρ ke key) (hk : hk 6 key = true) (hz : kvs.length ≤ 5000)
    (q : ∀ h' tk G' eds' m', Fs w h₀ sc F G₀ ρ ω G' h' env → Own2 F G' (put R a (dicObj eds' m')) h' ω env → Sub G G' → IsEnts w G' eds'.toList (dset kvs key d) → ((dset kvs key d).map (·.1)).Nodup → Q .next { s with heap := h', toks := tk }) :
    wpAny (model prog w) A (exec (.Assign [.Subscript (.Attribute (.Name "self" p1) f p2) ke p3] e p4) env) Q E s := by
  refine wpAny_Assign_stores ?_ swaps_sub swapped_sub
  obtain ⟨x, hat, hox, hGx, hFx, hxL, hxc⟩ := X.own _ _ hself
  have hox' : s.heap.get? x = some (insObj C dx) := (IAt.of hox).1
  have hRx : R x = none := by
    cases q : R x with
    | none => rfl
    | some o => exact absurd rfl ((Y.off x o q).no _ _ x hself hat)
  -- the reader's frame, where the object is held
  have Rp : Rd w h₀ sc (("self", .inst C fs) :: ρ) (un G (put R x (insObj C dx))) s.heap env := {
    scope := X.rd.scope
    kind := X.rd.kind
    glob := X.rd.glob
    bi := X.rd.bi
    keep := X.rd.keep
    inh := fun b o e => by
      rcases un_some e with e1 | ⟨_, e1⟩
      · exact X.rd.inh b o e1
      · by_cases q : b = x
        · have e2 : put R x (insObj C dx) b = some (insObj C dx) := by unfold put; rw [if_pos q]
          rw [e2] at e1; cases e1; rw [q]; exact hox'
        · have e2 : put R x (insObj C dx) b = R b := by unfold put; rw [if_neg q]
          rw [e2] at e1; exact Y.inR b o e1
    cells := X.rd.cells
    names := fun y d' hy => by
      rw [List.lookup_cons] at hy
      by_cases hys : y = ("self" : Str)
      · subst hys
        rw [beq_self_eq_true] at hy; cases hy
        exact ⟨.ref x, hI x hRx hGx, hat⟩
      · rw [beq_eq_false_iff_ne.mpr hys] at hy
        obtain ⟨u, hu, hau⟩ := X.rd.names y d' hy
        exact ⟨u, hu.mono fun b o e => un_left e, hau⟩ }
  refine H.go ok Rp fun v h1 tk1 k1 i1 _ => ?_
  have X1 := X.exl k1
  have Y1 := Y.exl X k1
  have iv : Is w (exl G s.heap h1) v d := by
    refine i1.nodict (fun b vs nn => ?_) hn
    have key : ∀ ob : Obj, (∀ es n, ob ≠ dicObj es n) → ob ≠ insObj C dx → exl (un G (put R x (insObj C dx))) s.heap h1 b = some ob → exl G s.heap h1 b = some ob := fun ob h1' h2' e => by
      unfold exl at e ⊢
      cases q : s.heap.get? b with
      | none => rw [q] at e; exact e
      | some o' =>
        rw [q] at e
        rcases un_some e with e1 | ⟨_, e1⟩
        · exact e1
        · by_cases q : b = x
          · have e2 : put R x (insObj C dx) b = some (insObj C dx) := by unfold put; rw [if_pos q]
            rw [e2] at e1; cases e1; exact absurd rfl h2'
          · have e2 : put R x (insObj C dx) b = R b := by unfold put; rw [if_neg q]
            rw [e2] at e1
            obtain ⟨es', n', q'⟩ := hRd b ob e1; exact absurd q' (h1' es' n')
    exact ⟨key _ (by simp) (by simp), key _ (by simp) (by simp)⟩
  show wpAny _ A (PySem.assign (.Subscript (.Attribute (.Name "self" p1) f p2) ke p3) env v) _ _ _
  rw [arm_assign_Subscript]
  have hcls : ∀ {H : Heap}, Kp h₀ H → K.In H := fun kp b o e => kp _ _ (c.kin b o e)
  refine wpAny_bind (wpAny_holding ?_)
  rw [arm_eval_Attribute]
  show wpAny _ A (eval (.Name "self" p1) env >>= _) _ _ _
  refine wpAny_bind (wpAny_Name (load_At X1 (hat.keep2 k1) (by decide) ?_) (by decide))
  refine wpAny_bind (wpAny_standAt (wpAny_bind (wpAny_holding ?_)))
  have hl : lookIn f (dicObj es n) = some (some (.ref a)) := by unfold lookIn; dsimp only; rw [hent]; dsimp only; rw [hval]
  refine get_value (K := K) (hcls X1.rd.keep) (inst_at (k1 _ _ hox') (Y1.inR _ _ hdx)) c.hga (find_value c hf hl) rfl ?_
  refine wpAny_bind (wpAny_letTemporaryGo (wpAny_pure ?_))
  refine wpAny_bind (wpAny_holding (J.go ok X1.rd fun kv h2 tk2 k2 i2 R2 => ?_))
  have X2 := X1.exl k2
  have Y2 := Y1.exl X1 k2
  have sb2 : Sub G (exl (exl G s.heap h1) h1 h2) := fun b o e => sub_exl (X1.rd.inh.kp k2) _ _ (sub_exl (X.rd.inh.kp k1) _ _ e)
  have hD2 : DAt w (exl (exl G s.heap h1) h1 h2) h2 a kvs := ⟨⟨eds, m, Y2.inR _ _ ha, hents.mono sb2⟩, hnod, hsys⟩
  refine wpAny_bind (wpAny_standAt (wpAny_bind (wpAny_holding (dictStore_D R2.inh (ok.u 100 (by lia)) hD2 hk i2 (iv.mono (sub_exl (X1.rd.inh.kp k2))) hz fun h3 tk3 hD3 s3 => ?_))))
  refine wpAny_release ?_
  obtain ⟨eds3, m3, h3a, hents3⟩ := hD3.obj
  obtain ⟨X3, Y3⟩ := Own2.mut X2 Y2 ⟨_, ha⟩ s3.extBut h3a
  exact q h3 tk3 _ eds3 m3 X3 Y3 sb2 hents3 hD3.nodup
end
end Mine
end

section
open PySem PySem.Spec PySem.Calls PyProof.Rows PySem.W
namespace Mine
open scoped Classical

/-! Part NJ: making a NameTable -/
noncomputable def setAll (l : List (Dt × Dt)) : List (Dt × Dt) := l.foldl (fun m p => dset m p.1 p.2) []
theorem setAll_snoc (l : List (Dt × Dt)) (p : Dt × Dt) : setAll (l ++ [p]) = dset (setAll l) p.1 p.2 := by unfold setAll; rw [List.foldl_append]; rfl
theorem setAll_nodup (l : List (Dt × Dt)) : ((setAll l).map (·.1)).Nodup := by
  induction l using snoc_ind with
  | h0 => exact List.nodup_nil
  | h1 l p ih => rw [setAll_snoc]; exact nodup_dset ih _ _
theorem setAll_len (l : List (Dt × Dt)) : (setAll l).length ≤ l.length := by
  induction l using snoc_ind with
  | h0 => exact Nat.le_refl _
  | h1 l p ih => rw [setAll_snoc, List.length_append]; exact Nat.le_trans (length_dset _ _ _) (by simpa using ih)

noncomputable def Row.key (r : Row) : Dt := .tup [idD r.folder, .str (tailOf r.path), idD r.who]
noncomputable def namesKV (rs : List Row) : List (Dt × Dt) := setAll (rs.map fun r => (r.key, .str r.path))
noncomputable def pathsKV (rs : List Row) : List (Dt × Dt) := grp (rs.map fun r => (idD r.who, .str r.path))
noncomputable def statesKV (rs : List Row) : List (Dt × Dt) := setAll (rs.map fun r => (idD r.who, r.state))
noncomputable def nF : List Str := ["names", "paths", "states"]
noncomputable def tabF (kn kp ks : List (Dt × Dt)) : List (Str × Dt) := [("names", .dict kn), ("paths", .dict kp), ("states", .dict ks)]
noncomputable def tableF (rs : List Row) : List (Str × Dt) := tabF (namesKV rs) (pathsKV rs) (statesKV rs)

structure TC (w : World) (dx n p st : Addr) (kn kp ks : List (Dt × Dt)) (G R : Gh) : Prop where
  od : ∃ t1 t2 t3 c, R dx = some (dicObj #[⟨PyData.keyHash w.params "names", .str "names" t1, .ref n⟩, ⟨PyData.keyHash w.params "paths", .str "paths" t2, .ref p⟩, ⟨PyData.keyHash w.params "states", .str "states" t3, .ref st⟩] c)
  on : ∃ es c, R n = some (dicObj es c) ∧ IsEnts w G es.toList kn
  op : ∃ es c, R p = some (dicObj es c) ∧ IsEnts w G es.toList kp
  os : ∃ es c, R st = some (dicObj es c) ∧ IsEnts w G es.toList ks
  ne : n ≠ p ∧ n ≠ st ∧ p ≠ st ∧ dx ≠ n ∧ dx ≠ p ∧ dx ≠ st
  sys : n ≠ sysModules ∧ p ≠ sysModules ∧ st ≠ sysModules
  all : ∀ b o, R b = some o → ∃ es n, o = dicObj es n
  nod : (kn.map (·.1)).Nodup ∧ (kp.map (·.1)).Nodup ∧ (ks.map (·.1)).Nodup

theorem TC.mono {w : World} {dx n p st : Addr} {kn kp ks : List (Dt × Dt)} {G G' R : Gh} (x : TC w dx n p st kn kp ks G R) (s : Sub G G') : TC w dx n p st kn kp ks G' R where
  od := x.od
  on := let ⟨es, c, h1, h2⟩ := x.on; ⟨es, c, h1, h2.mono s⟩
  op := let ⟨es, c, h1, h2⟩ := x.op; ⟨es, c, h1, h2.mono s⟩
  os := let ⟨es, c, h1, h2⟩ := x.os; ⟨es, c, h1, h2.mono s⟩
  ne := x.ne
  sys := x.sys
  all := x.all
  nod := x.nod

/-- the table, read -/
theorem TC.is {w : World} {dx n p st C : Addr} {kn kp ks : List (Dt × Dt)} {G R T : Gh} (x : TC w dx n p st kn kp ks G R) (hG : Sub G T) (hR : Sub R T) {a : Addr} (ha : T a = some (insObj C dx)) : Is w T (.ref a) (.inst C (tabF kn kp ks)) := by
  obtain ⟨t1, t2, t3, c, hd⟩ := x.od
  obtain ⟨e1, c1, h1, i1⟩ := x.on
  obtain ⟨e2, c2, h2, i2⟩ := x.op
  obtain ⟨e3, c3, h3, i3⟩ := x.os
  refine .inst ha (hR _ _ hd) ?_ (by show (["names", "paths", "states"] : List Str).Nodup; decide)
  refine .cons (.dict (hR _ _ h1) x.sys.1 (i1.mono hG) x.nod.1) (.cons (.dict (hR _ _ h2) x.sys.2.1 (i2.mono hG) x.nod.2.1) (.cons (.dict (hR _ _ h3) x.sys.2.2 (i3.mono hG) x.nod.2.2) .nil))

section
variable {prog : Program} {w : World} {h₀ : Heap} {sc : Scope} {F G₀ R : Gh} {ρ ω : List (Str × Dt)} {k : Nat} {G G' : Gh} {s : Shared} {env : Env} {A : Around} {E : Value → Shared → Prop} {h h' : Heap} {K : Frag} {C fI fO : Addr}

/-- `self.f = {}` -/
theorem init_field {dx : Addr} {f : Str} {es : Array DictEntry} {n : Nat} {fields : List Str} {p1 p2 p3 p4 : Pos} {Q : Flow → Shared → Prop} (c : Cls K h₀ C fI fO fields) (hl : h₀.NoLimit)
    (X : Fs w h₀ sc F G₀ ρ ω G s.heap env) (Y : Own2 F G R s.heap ω env) (hself : ω.lookup ("self" : Str) = some (selfD C dx)) (hdx : R dx = some (dicObj es n)) (hfind : es.toList.find? (·.key.isStr f) = none) (hr : es.toList.any (·.refKey) = false) (hz : es.size ≤ 100) (hf : f ∈ fields)
    (q : ∀ h' tk a tk', R a = none → a ≠ dx → a ≠ sysModules → Fs w h₀ sc F G₀ ρ ω G h' env → Own2 F G (put (put R a (dicObj #[] 0)) dx (dicObj (es.push ⟨PyData.keyHash w.params f, .str f tk', .ref a⟩) (n + 1))) h' ω env → Q .next { s with heap := h', toks := tk }) :
    wpAny (model prog w) A (exec (.Assign [.Attribute (.Name "self" p1) f p2] (.Dict [] [] p3) p4) env) Q E s := by
  refine wpAny_Assign_stores ?_ rfl rfl
  refine wpAny_Dict_empty ?_
  obtain ⟨x, hat, hox, hGx, hFx, hxL, hxc⟩ := X.own _ _ hself
  have hox' : s.heap.get? x = some (insObj C dx) := (IAt.of hox).1
  have kp := Kp.push s.heap { cls := .type "dict", data := .dict #[] }
  have dead : s.heap.get? s.heap.objs.size = none := heap_none (Nat.le_refl _)
  have X1 := X.same kp
  have Y1 := Own2.new (o := dicObj #[] 0) X Y kp dead (Heap.get?_push_size _ rfl)
  have hne : s.heap.objs.size ≠ dx := fun q => by have := Y.inR _ _ hdx; rw [← q, dead] at this; cases this
  have hRa : R s.heap.objs.size = none := by
    cases q : R s.heap.objs.size with
    | none => rfl
    | some o => have := Y.inR _ _ q; rw [dead] at this; cases this
  have hdx1 : put R s.heap.objs.size (dicObj #[] 0) dx = some (dicObj es n) := by unfold put; rw [if_neg (Ne.symm hne)]; exact hdx
  show wpAny _ A (PySem.assign (.Attribute (.Name "self" p1) f p2) env (.ref s.heap.objs.size)) _ _ _
  rw [arm_assign_Attribute]
  refine wpAny_bind (wpAny_holding (wpAny_Name (load_At X1 (hat.keep2 kp) (by decide) ?_) (by decide)))
  refine wpAny_bind (wpAny_standAt (wpAny_bind (wpAny_holding (setattr_D (s := { s with heap := s.heap.push { cls := .type "dict", data := .dict #[] } }) c X1.rd.keep hf (kp _ _ hox') (Y1.inR _ _ hdx1) hfind hr hz fun h2 tk2 tk3 hd2 k2 => ?_))))
  refine wpAny_release ?_
  obtain ⟨X2, Y2⟩ := Own2.mut X1 Y1 ⟨_, hdx1⟩ k2 hd2
  exact q h2 tk2 _ tk3 hRa hne (not_sys hl X.rd.keep) X2 Y2
end
end Mine
end

section
open PySem PySem.Spec PySem.Calls PyProof.Rows PySem.W
namespace Mine
open scoped Classical

/-! Part NK: NameTable(rows) -/
section
variable {prog : Program} {w : World} {h₀ : Heap} {sc : Scope} {F G₀ R : Gh} {ρ ω : List (Str × Dt)} {k : Nat} {G G' : Gh} {s : Shared} {env : Env} {A : Around} {E : Value → Shared → Prop} {h h' : Heap} {K : Frag} {C fI fO : Addr}

theorem put_ne {R : Gh} {a b : Addr} {o : Obj} (h : b ≠ a) : put R a o b = R b := by unfold put; rw [if_neg h]
theorem put_eq {R : Gh} {a : Addr} {o : Obj} : put R a o a = some o := by unfold put; rw [if_pos rfl]

theorem TC.self {dx n p st : Addr} {kn kp ks : List (Dt × Dt)} (T : TC w dx n p st kn kp ks G R) (hd : ∀ a o, R a = some o → G a = none) : ∀ x, R x = none → G x = none → Is w (un G (put R x (insObj C dx))) (.ref x) (.inst C (tabF kn kp ks)) := by
  intro x hx gx
  refine T.is (fun a o e => un_left e) (fun a o e => ?_) (by rw [un_right gx]; exact put_eq)
  show un G (put R x (insObj C dx)) a = some o
  rw [un_right (hd a o e), put_ne (fun q => by subst q; rw [hx] at e; cases e)]; exact e

theorem TC.setN {dx n p st : Addr} {kn kp ks kn' : List (Dt × Dt)} {es : Array DictEntry} {m : Nat} (T : TC w dx n p st kn kp ks G R) (s : Sub G G') (i : IsEnts w G' es.toList kn') (hn : (kn'.map (·.1)).Nodup) : TC w dx n p st kn' kp ks G' (put R n (dicObj es m)) where
  od := let ⟨t1, t2, t3, c, h⟩ := T.od; ⟨t1, t2, t3, c, by rw [put_ne T.ne.2.2.2.1]; exact h⟩
  on := ⟨es, m, put_eq, i⟩
  op := let ⟨e, c, h1, h2⟩ := T.op; ⟨e, c, by rw [put_ne (Ne.symm T.ne.1)]; exact h1, h2.mono s⟩
  os := let ⟨e, c, h1, h2⟩ := T.os; ⟨e, c, by rw [put_ne (Ne.symm T.ne.2.1)]; exact h1, h2.mono s⟩
  ne := T.ne
  sys := T.sys
  all := fun b o e => by
    by_cases q : b = n
    · subst q; rw [put_eq] at e; cases e; exact ⟨es, m, rfl⟩
    · rw [put_ne q] at e; exact T.all b o e
  nod := ⟨hn, T.nod.2⟩
theorem TC.setP {dx n p st : Addr} {kn kp ks kp' : List (Dt × Dt)} {es : Array DictEntry} {m : Nat} (T : TC w dx n p st kn kp ks G R) (s : Sub G G') (i : IsEnts w G' es.toList kp') (hn : (kp'.map (·.1)).Nodup) : TC w dx n p st kn kp' ks G' (put R p (dicObj es m)) where
  od := let ⟨t1, t2, t3, c, h⟩ := T.od; ⟨t1, t2, t3, c, by rw [put_ne T.ne.2.2.2.2.1]; exact h⟩
  on := let ⟨e, c, h1, h2⟩ := T.on; ⟨e, c, by rw [put_ne T.ne.1]; exact h1, h2.mono s⟩
  op := ⟨es, m, put_eq, i⟩
  os := let ⟨e, c, h1, h2⟩ := T.os; ⟨e, c, by rw [put_ne (Ne.symm T.ne.2.2.1)]; exact h1, h2.mono s⟩
  ne := T.ne
  sys := T.sys
  all := fun b o e => by
    by_cases q : b = p
    · subst q; rw [put_eq] at e; cases e; exact ⟨es, m, rfl⟩
    · rw [put_ne q] at e; exact T.all b o e
  nod := ⟨T.nod.1, hn, T.nod.2.2⟩
theorem TC.setS {dx n p st : Addr} {kn kp ks ks' : List (Dt × Dt)} {es : Array DictEntry} {m : Nat} (T : TC w dx n p st kn kp ks G R) (s : Sub G G') (i : IsEnts w G' es.toList ks') (hn : (ks'.map (·.1)).Nodup) : TC w dx n p st kn kp ks' G' (put R st (dicObj es m)) where
  od := let ⟨t1, t2, t3, c, h⟩ := T.od; ⟨t1, t2, t3, c, by rw [put_ne T.ne.2.2.2.2.2]; exact h⟩
  on := let ⟨e, c, h1, h2⟩ := T.on; ⟨e, c, by rw [put_ne T.ne.2.1]; exact h1, h2.mono s⟩
  op := let ⟨e, c, h1, h2⟩ := T.op; ⟨e, c, by rw [put_ne T.ne.2.2.1]; exact h1, h2.mono s⟩
  os := ⟨es, m, put_eq, i⟩
  ne := T.ne
  sys := T.sys
  all := fun b o e => by
    by_cases q : b = st
    · subst q; rw [put_eq] at e; cases e; exact ⟨es, m, rfl⟩
    · rw [put_ne q] at e; exact T.all b o e
  nod := ⟨T.nod.1, T.nod.2.1, hn⟩

/-- the loop of __init__ -/
theorem init_loop (c : Cls K h₀ C fI fO nF) (rows : List Row) (hrow : ∀ r ∈ rows, RowOk r) (hz : rows.length ≤ 500) (dx n p st : Addr) (env : Env) (body : List Stmt)
    (hb : body = (match methBody 0 with | [_, _, _, .For _ _ b _ _] => b | _ => [])) :
    BodyR prog w h₀ k (methScope 0) [("rows", .list (rows.map Row.dt))] (fun _ => [("self", selfD C dx)]) (match methBody 0 with | [_, _, _, .For t _ _ _ _] => t | _ => .Constant .none 0 default) body env
      (fun i G R => TC w dx n p st (namesKV (rows.take i)) (pathsKV (rows.take i)) (statesKV (rows.take i)) G R) F (rows.map Row.dt) := by
  subst hb
  intro i d hd
  rw [List.getElem?_map] at hd
  cases hri : rows[i]? with
  | none => rw [hri] at hd; cases hd
  | some r =>
    rw [hri] at hd
    simp only [Option.map_some, Option.some.injEq] at hd
    subst hd
    have ro := hrow r (List.mem_of_getElem? hri)
    have hi := (List.getElem?_eq_some_iff.mp hri).1
    have htake : rows.take (i + 1) = rows.take i ++ [r] := by rw [List.take_add_one, hri]; rfl
    have hlen : (rows.take i).length ≤ 500 := by rw [List.length_take]; lia
    obtain ⟨ts, hts⟩ : ∃ ts, ts = rows.take i := ⟨_, rfl⟩
    rw [← hts] at htake hlen
    have zn : (namesKV ts).length ≤ 500 := Nat.le_trans (setAll_len _) (by rw [List.length_map]; exact hlen)
    have zp : (pathsKV ts).length ≤ 500 := Nat.le_trans (grp_len _) (by rw [List.length_map]; exact hlen)
    have zs : (statesKV ts).length ≤ 500 := Nat.le_trans (setAll_len _) (by rw [List.length_map]; exact hlen)
    have en : namesKV (ts ++ [r]) = dset (namesKV ts) r.key (.str r.path) := by unfold namesKV; rw [List.map_append]; exact setAll_snoc _ _
    have ep : pathsKV (ts ++ [r]) = dset (pathsKV ts) (idD r.who) (.list (listOf (dget (pathsKV ts) (idD r.who)) ++ [.str r.path])) := by unfold pathsKV; rw [List.map_append]; exact grp_snoc _ _
    have es : statesKV (ts ++ [r]) = dset (statesKV ts) (idD r.who) r.state := by unfold statesKV; rw [List.map_append]; exact setAll_snoc _ _
    refine ⟨_, .tup (xs := ["path", "who", "folder", "state"]) (.cons (.cons (.cons (.cons .nil)))) rfl (by decide), .inr (zipb (by decide)), fun ω _ _ c => c.1 ▸ zipb (P := fun x => List.lookup x _ = none) (fun x hx => ?_), ?_⟩
    · have : x ≠ ("self" : Str) := by revert x; decide
      rw [List.lookup_cons, beq_eq_false_iff_ne.mpr this]; rfl
    · intro A F' G₀ G R ω s E ok _ X Y c
      refine nn fun hno_ => ?_
      obtain ⟨rfl, T⟩ := c
      refine hno_ ?_
      clear hno_
      have T : TC w dx n p st (namesKV ts) (pathsKV ts) (statesKV ts) G R := by rw [hts]; exact T
      have back : ∀ {G : Gh} {h : Heap}, Fs w h₀ (methScope 0) F' G₀ ((["path", "who", "folder", "state"] : List Str).zip [Dt.str r.path, idD r.who, idD r.folder, r.state] ++ [(("rows" : Str), Dt.list (rows.map Row.dt))]) [("self", selfD C dx)] G h env →
          Fs w h₀ (methScope 0) F' G₀ [("rows", Dt.list (rows.map Row.dt))] [("self", selfD C dx)] G h env := fun X =>
        X.weak (look_trans (look_skip rfl) (look_trans (look_skip rfl) (look_trans (look_skip rfl) (look_skip rfl)))) (look_id _)
      refine nn fun hno_ => ?_
      obtain ⟨t1, t2, t3, cc, hod⟩ := T.od
      refine hno_ ?_
      clear hno_
      refine nn fun hno_ => ?_
      obtain ⟨e1, c1, o1, i1⟩ := T.on
      refine hno_ ?_
      clear hno_
      -- self.names[folder, tail, who] = path
      refine wpAny_execs_cons (store_self (K := K) (f := "names") (key := r.key) (d := .str r.path) c ok X Y rfl hod rfl rfl (by decide) o1 i1 T.nod.1 T.sys.1 T.all (T.self fun a o e => (Y.off a o e).g) rfl Ev.nm rfl ?_ rfl (by lia) fun h1 tk1 G1 ed1 m1 X1 Y1 s1 j1 n1 => ?_)
      · exact Ev.tup (ds := [idD r.folder, .str (tailOf r.path), idD r.who]) (Evs.cons Ev.nm (Evs.cons (Ev.tail Ev.nm ro.ok ro.len) (Evs.cons Ev.nm Evs.nil))) (by simp)
      rw [← en] at j1 n1
      have T1 := T.setN (m := m1) s1 j1 n1
      refine nn fun hno_ => ?_
      obtain ⟨t1, t2, t3, cc, hod⟩ := T1.od
      refine hno_ ?_
      clear hno_
      refine nn fun hno_ => ?_
      obtain ⟨e2, c2, o2, i2⟩ := T1.op
      refine hno_ ?_
      clear hno_
      refine wpAny_execs_cons (store_self (K := K) (f := "paths") (key := idD r.who) (d := .list (listOf (dget (pathsKV ts) (idD r.who)) ++ [.str r.path])) c ok X1 Y1 rfl hod rfl rfl (by decide) o2 i2 T1.nod.2.1 T1.sys.2.1 T1.all (T1.self fun a o e => (Y1.off a o e).g) rfl ?_ ?_ Ev.nm rfl (by lia) fun h2 tk2 G2 ed2 m2 X2 Y2 s2 j2 n2 => ?_)
      · refine EvF.ev (EvF.bin (d := .list (listOf (dget (pathsKV ts) (idD r.who)))) (e := .list [.str r.path]) ?_ (EvF.ev (EvF.lst (Evs.cons Ev.nm Evs.nil) (by simp))) (BinF.add_list ?_))
        · have := grp_list (ts.map fun r => (idD r.who, Dt.str r.path)) (idD r.who)
          rw [show listOf (dget (pathsKV ts) (idD r.who)) = listOf (dget (grp (ts.map fun r => (idD r.who, Dt.str r.path))) (idD r.who)) from rfl, ← this]
          exact Ev.meth (Ev.attr (x := "paths") c Ev.nm (by decide) rfl) (Evs.cons Ev.nm (Evs.cons (EvF.ev (EvF.lst (ds := []) Evs.nil (by simp))) Evs.nil)) (Mt.get rfl)
        · rw [show listOf (dget (pathsKV ts) (idD r.who)) = sel (ts.map fun r => (idD r.who, Dt.str r.path)) (idD r.who) from grp_listOf _ _, List.length_singleton]
          have := sel_len (ts.map fun r => (idD r.who, Dt.str r.path)) (idD r.who)
          rw [List.length_map] at this
          lia
      · show nds _ = true
        rw [nds_iff]
        intro d hd
        rcases List.mem_append.mp hd with h | h
        · rw [show listOf (dget (pathsKV ts) (idD r.who)) = sel (ts.map fun r => (idD r.who, Dt.str r.path)) (idD r.who) from grp_listOf _ _] at h
          obtain ⟨p, hp, _, rfl⟩ := sel_mem h
          obtain ⟨r', _, rfl⟩ := List.mem_map.mp hp
          rfl
        · rw [List.mem_singleton.mp h]; rfl
      rw [← ep] at j2 n2
      have T2 := T1.setP (m := m2) s2 j2 n2
      refine nn fun hno_ => ?_
      obtain ⟨t1, t2, t3, cc, hod⟩ := T2.od
      refine hno_ ?_
      clear hno_
      refine nn fun hno_ => ?_
      obtain ⟨e3, c3, o3, i3⟩ := T2.os
      refine hno_ ?_
      clear hno_
      refine wpAny_execs_cons (store_self (K := K) (f := "states") (key := idD r.who) (d := r.state) c ok X2 Y2 rfl hod rfl rfl (by decide) o3 i3 T2.nod.2.2 T2.sys.2.2 T2.all (T2.self fun a o e => (Y2.off a o e).g) rfl Ev.nm ro.nd Ev.nm rfl (by lia) fun h3 tk3 G3 ed3 m3 X3 Y3 s3 j3 n3 => ?_)
      rw [← es] at j3 n3
      have T3 := T2.setS (m := m3) s3 j3 n3
      refine wpAny_execs_nil ⟨rfl, h3, tk3, G3, _, _, rfl, back X3, Y3, rfl, ?_⟩
      show TC w dx n p st (namesKV (rows.take (i + 1))) (pathsKV (rows.take (i + 1))) (statesKV (rows.take (i + 1))) _ _
      rw [htake]
      exact T3
end
end Mine
end

section
open PySem PySem.Spec PySem.Calls PyProof.Rows PySem.W
namespace Mine
open scoped Classical

/-! Part NL: NameTable(rows), the call -/
section
variable {prog : Program} {w : World} {h₀ : Heap} {sc : Scope} {F G₀ R : Gh} {ρ ω : List (Str × Dt)} {k : Nat} {G G' : Gh} {s : Shared} {env : Env} {A : Around} {E : Value → Shared → Prop} {h h' : Heap} {K : Frag} {C fI fO : Addr}

noncomputable def one (a : Addr) (o : Obj) : Gh := fun b => if b = a then some o else none
theorem one_eq {a : Addr} {o : Obj} : one a o a = some o := if_pos rfl
theorem one_some {a b : Addr} {o o' : Obj} (e : one a o b = some o') : b = a ∧ o' = o := by
  unfold one at e
  split at e
  · rename_i q; cases e; exact ⟨q, rfl⟩
  · cases e

/-- the three fields and the loop -/
theorem init_run (c : Cls K h₀ C fI fO nF) (hl : h₀.NoLimit) (rows : List Row) (hrow : ∀ r ∈ rows, RowOk r) (hz : rows.length ≤ 500) {dx : Addr} {Q : Flow → Shared → Prop} (ok : Ok A k)
    (X : Fs w h₀ (methScope 0) F G₀ [("rows", .list (rows.map Row.dt))] [("self", selfD C dx)] G s.heap env) (Y : Own2 F G R s.heap [("self", selfD C dx)] env) (hR : R = one dx (dicObj #[] 0))
    (q : ∀ h' tk G' R' n p st, Fs w h₀ (methScope 0) F G₀ [("rows", .list (rows.map Row.dt))] [("self", selfD C dx)] G' h' env → Own2 F G' R' h' [("self", selfD C dx)] env → TC w dx n p st (namesKV rows) (pathsKV rows) (statesKV rows) G' R' → Q .next { s with heap := h', toks := tk }) :
    wpAny (model prog w) A (execs (methBody 0) env) Q E s := by
  subst hR
  have onlyD : ∀ {R : Gh}, (∀ b o, R b = some o → ∃ es n, o = dicObj es n) → True := fun _ => trivial
  refine wpAny_execs_cons (init_field (K := K) (f := "names") c hl X Y rfl one_eq rfl rfl (by decide) (by decide) fun h1 tk1 n t1 Rn nd ns X1 Y1 => ?_)
  refine wpAny_execs_cons (init_field (K := K) (f := "paths") c hl X1 Y1 rfl put_eq rfl rfl (by simp) (by decide) fun h2 tk2 p t2 Rp pd ps X2 Y2 => ?_)
  refine wpAny_execs_cons (init_field (K := K) (f := "states") c hl X2 Y2 rfl put_eq rfl rfl (by simp) (by decide) fun h3 tk3 st t3 Rst sd ss X3 Y3 => ?_)
  generalize hR1 : put (put (one dx (dicObj #[] 0)) n (dicObj #[] 0)) dx _ = R1 at *
  generalize hR2 : put (put R1 p (dicObj #[] 0)) dx _ = R2 at *
  generalize hR3 : put (put R2 st (dicObj #[] 0)) dx _ = R3 at *
  have pn : p ≠ n := by rintro rfl; rw [← hR1, put_ne nd, put_eq] at Rp; cases Rp
  have sn : st ≠ n := by rintro rfl; rw [← hR2, put_ne nd, put_ne (Ne.symm pn), ← hR1, put_ne nd, put_eq] at Rst; cases Rst
  have sp : st ≠ p := by rintro rfl; rw [← hR2, put_ne pd, put_eq] at Rst; cases Rst
  have e0 : namesKV [] = [] := rfl
  have T : TC w dx n p st (namesKV (rows.take 0)) (pathsKV (rows.take 0)) (statesKV (rows.take 0)) G R3 := {
    od := ⟨t1, t2, t3, _, by rw [← hR3]; exact put_eq⟩
    on := ⟨#[], 0, by rw [← hR3, put_ne nd, put_ne (Ne.symm sn), ← hR2, put_ne nd, put_ne (Ne.symm pn), ← hR1, put_ne nd]; exact put_eq, .nil⟩
    op := ⟨#[], 0, by rw [← hR3, put_ne pd, put_ne (Ne.symm sp), ← hR2, put_ne pd]; exact put_eq, .nil⟩
    os := ⟨#[], 0, by rw [← hR3, put_ne sd]; exact put_eq, .nil⟩
    ne := ⟨Ne.symm pn, Ne.symm sn, Ne.symm sp, Ne.symm nd, Ne.symm pd, Ne.symm sd⟩
    sys := ⟨ns, ps, ss⟩
    all := fun b o e => by
      have step : ∀ {Ra : Gh} {a : Addr} {oa : Obj}, (∃ es n, oa = dicObj es n) → (∀ b o, Ra b = some o → ∃ es n, o = dicObj es n) → ∀ b o, put Ra a oa b = some o → ∃ es n, o = dicObj es n := fun {Ra a oa} ho hr b o e => by
        by_cases q : b = a
        · subst q; rw [put_eq] at e; cases e; exact ho
        · rw [put_ne q] at e; exact hr b o e
      have z0 : ∀ b o, one dx (dicObj #[] 0) b = some o → ∃ es n, o = dicObj es n := fun b o e => ⟨_, _, (one_some e).2⟩
      have z1 : ∀ b o, R1 b = some o → ∃ es n, o = dicObj es n := by rw [← hR1]; exact step ⟨_, _, rfl⟩ (step ⟨_, _, rfl⟩ z0)
      have z2 : ∀ b o, R2 b = some o → ∃ es n, o = dicObj es n := by rw [← hR2]; exact step ⟨_, _, rfl⟩ (step ⟨_, _, rfl⟩ z1)
      have z3 : ∀ b o, R3 b = some o → ∃ es n, o = dicObj es n := by rw [← hR3]; exact step ⟨_, _, rfl⟩ (step ⟨_, _, rfl⟩ z2)
      exact z3 b o e
    nod := ⟨List.nodup_nil, List.nodup_nil, List.nodup_nil⟩ }
  refine wpAny_execs_cons (for_R (Cn := fun i G R => TC w dx n p st (namesKV (rows.take i)) (pathsKV (rows.take i)) (statesKV (rows.take i)) G R) (ρ₁ := [("rows", .list (rows.map Row.dt))]) (ω := fun _ => [("self", selfD C dx)]) (ds := rows.map Row.dt) (fun i G G' R s t => t.mono s) ok X3 Y3 T Ev.nm (.inl rfl) (look_id _)
    (init_loop c rows hrow hz dx n p st env _ rfl) fun h4 tk4 G4 R4 X4 Y4 T4 => ?_)
  rw [List.length_map, List.take_length] at T4
  exact wpAny_execs_nil (q h4 tk4 G4 R4 n p st X4 Y4 T4)

theorem units_tc (C : Addr) (l : List Value) (kw : List (Str × Value)) : (Code.builtin "type.__call__" ⟨.ref C :: l, kw⟩).cUnits = 1 := rfl
theorem weight_tc (C : Addr) (l : List Value) (kw : List (Str × Value)) : (Code.builtin "type.__call__" ⟨.ref C :: l, kw⟩).weight ≤ 1 := by
  unfold Code.weight
  have h1 : (Code.builtin "type.__call__" ⟨.ref C :: l, kw⟩).frames = 0 := rfl
  have h2 : (Code.builtin "type.__call__" ⟨.ref C :: l, kw⟩).isGuard = false := rfl
  have h3 : (Code.builtin "type.__call__" ⟨.ref C :: l, kw⟩).isCaller = false := rfl
  rw [h1, h2, h3]
  split <;> simp

theorem table_cl (c : Cls K h₀ C fI fO nF) (fn : Fn h₀ (.ref fI) ["self", "rows"] (methScope 0) (methBody 0)) (rows : List Row) (hrow : ∀ r ∈ rows, RowOk r) (hz : rows.length ≤ 500) :
    Cl prog w h₀ (k + 2) (.ref C) [.list (rows.map Row.dt)] (.inst C (tableF rows)) := .mk fun A G s E vs ok gh kp i => by
  cases i with
  | @cons v _ _ _ iv j =>
  cases j
  have KI : K.In s.heap := fun b o e => kp _ _ (c.kin b o e)
  obtain ⟨hh, g, d, t, os⟩ := s
  dsimp only at gh kp KI
  refine wpAny_call (make_core (makes_of KI c.make) (looks_findIn KI c.init) (fun self => bind_fn KI self c.fnI) (.inl rfl) ?_)
  have okU : Ok (A.under (.builtin "type.__call__" ⟨.ref C :: [v], []⟩)) (k + 1) := by
    refine ⟨ok.1, ?_, ?_⟩
    · show A.depth + _ + _ < _
      have := ok.2.1
      have := weight_tc C [v] []
      lia
    · show A.units + _ + _ + _ < _
      have := ok.2.2
      rw [units_tc]
      lia
  have kp1 : Kp hh ((hh.push emptyDict).push (instObj C hh.objs.size)) := (Kp.push _ _).trans (Kp.push _ _)
  have hdx : ((hh.push emptyDict).push (instObj C hh.objs.size)).get? hh.objs.size = some (dicObj #[] 0) := Heap.get?_push_of_some _ (Heap.get?_push_size _ rfl)
  have hox : ((hh.push emptyDict).push (instObj C hh.objs.size)).get? (hh.objs.size + 1) = some (insObj C hh.objs.size) := by
    have := Heap.get?_push_size (h := hh.push emptyDict) (o := instObj C hh.objs.size) rfl
    rw [Heap.size_push] at this; exact this
  refine enterC (F := fun a => hh.get? a) (G := G) (ρ := [("rows", .list (rows.map Row.dt))]) (vs := [.ref (hh.objs.size + 1), v]) fn okU kp (fun a o e => kp1 a o e) gh rfl (fun x d e => ?_) fun A' env H tk E' ok' kpH X hat hoff => ?_
  · have hx := one_bind e
    subst hx
    refine ⟨v, rfl, ?_⟩
    have : d = .list (rows.map Row.dt) := by simpa using e.symm
    rw [this]; exact iv
  have hoxH := kpH _ _ hox
  have hdxH := kpH _ _ hdx
  obtain ⟨n1, n2⟩ := hoff _ _ hox
  obtain ⟨m1, m2⟩ := hoff _ _ hdx
  have dead0 : hh.get? hh.objs.size = none := heap_none (Nat.le_refl _)
  have dead1 : hh.get? (hh.objs.size + 1) = none := heap_none (Nat.le_succ _)
  have G0 : G hh.objs.size = none := gh.none (Nat.le_refl _)
  have G1 : G (hh.objs.size + 1) = none := gh.none (Nat.le_succ _)
  have Xs : Fs w h₀ (methScope 0) (fun a => hh.get? a) G [("rows", .list (rows.map Row.dt))] [("self", selfD C hh.objs.size)] G H env := by
    refine X.addOwn (x := "self") (a := hh.objs.size + 1) (hat _ _ rfl) ?_ G1 dead1 n1 n2 (fun y d b e => by simp at e) rfl
    exact .one rfl hoxH rfl
  have Ys : Own2 (fun a => hh.get? a) G (one hh.objs.size (dicObj #[] 0)) H [("self", selfD C hh.objs.size)] env := {
    inR := fun b o e => by obtain ⟨rfl, rfl⟩ := one_some e; exact hdxH
    off := fun b o e => by
      obtain ⟨rfl, rfl⟩ := one_some e
      refine ⟨dead0, G0, m1, m2, fun y d b hy hb => ?_⟩
      have hy' := one_bind hy
      subst hy'
      obtain rfl := ref_inj ((hat "self" _ rfl).det hb)
      exact Nat.succ_ne_self _ }
  refine init_run c fn.lim rows hrow hz ok' Xs Ys rfl fun h' tk' G' R' n p st X' Y' T' => ?_
  refine ⟨rfl, h', tk', rfl, X'.inF, ?_⟩
  obtain ⟨x, hatx, hOx, gx, fx, _⟩ := X'.own "self" _ rfl
  obtain ⟨hx1, rfl⟩ := IAt.of hOx
  have low : Low hh G G' := fun a o e => X'.low a o e
  refine (T'.self (fun a o e => (Y'.off a o e).g) (hh.objs.size + 1) ?_ gx).mono fun a o e => ?_
  · cases q : R' (hh.objs.size + 1) with
    | none => rfl
    | some o => exact absurd rfl ((Y'.off _ _ q).no "self" _ _ rfl hatx)
  · show exl G hh h' a = some o
    rcases un_some e with e1 | ⟨e0, e1⟩
    · exact low.to_exl X'.rd.inh a o e1
    · have hh' : h'.get? a = some o := by
        by_cases q : a = hh.objs.size + 1
        · subst q; rw [put_eq] at e1; cases e1; exact hx1
        · rw [put_ne q] at e1; exact Y'.inR a o e1
      have dead : hh.get? a = none := by
        by_cases q : a = hh.objs.size + 1
        · rw [q]; exact dead1
        · rw [put_ne q] at e1; exact (Y'.off a o e1).f
      unfold exl; rw [dead]; exact hh'
end
end Mine
end

section
open PySem PySem.Spec PySem.Calls PyProof.Rows PySem.W
namespace Mine
open scoped Classical

/-! Part NM: dict(list of pairs) as a call -/
section
variable {prog : Program} {w : World} {h₀ : Heap} {sc : Scope} {F G₀ R : Gh} {ρ ω : List (Str × Dt)} {k : Nat} {G G' : Gh} {s : Shared} {env : Env} {A : Around} {E : Value → Shared → Prop} {h h' : Heap} {K : Frag} {C fI fO : Addr}

theorem Cl.dict_pairs {ps : List (Dt × Dt)} (hl : h₀.NoLimit) (hk : ∀ p ∈ ps, hk 6 p.1 = true) (hz : ps.length ≤ 4000) : Cl prog w h₀ k (.type "dict") [.list (ps.map fun p => .tup [p.1, p.2])] (.dict (ofPairs [] ps)) := .mk fun A G s E vs ok gh kp i => by
  cases i with
  | @cons v _ _ _ iv j =>
  cases j
  cases iv with
  | @list a us n _ ha hs =>
  have iv' : Is w G (.ref a) (.list (ps.map fun p => .tup [p.1, p.2])) := .list ha hs
  refine callType_codes (Q₁ := fun obj s₁ => obj = .ref s.heap.objs.size ∧ s₁ = { s with heap := s.heap.push { cls := .type "dict", data := .dict #[] } }) F.kt_called_dict (F.kt_typeCall_dict_1 _) F.entry_dict_init (kt_code_dict_new _ ⟨rfl, rfl⟩) ?_
  rintro obj s₁ ⟨rfl, rfl⟩
  have kp1 : Kp s.heap (s.heap.push { cls := .type "dict", data := .dict #[] }) := Kp.push _ _
  have fr : s.heap.get? s.heap.objs.size = none := heap_none (Nat.le_refl _)
  have hget : (s.heap.push { cls := .type "dict", data := .dict #[] }).get? s.heap.objs.size = some { cls := .type "dict", data := .dict #[] } := Heap.get?_push_size _ rfl
  have hT : ({ s with heap := s.heap.push { cls := .type "dict", data := .dict #[] } } : Shared).TypeIs (.ref s.heap.objs.size) "dict" := ⟨_, hget, rfl⟩
  have hTl : ({ s with heap := s.heap.push { cls := .type "dict", data := .dict #[] } } : Shared).TypeIs (.ref a) "list" := ⟨_, kp1 _ _ (gh _ _ ha), rfl⟩
  have hD : DAt w G (s.heap.push { cls := .type "dict", data := .dict #[] }) s.heap.objs.size [] := ⟨⟨#[], 0, hget, .nil⟩, List.nodup_nil, not_sys hl kp⟩
  generalize hD0 : s.heap.objs.size = D at *
  have gD : G D = none := by rw [← hD0]; exact gh.none (Nat.le_refl _)
  refine ⟨hT, F.args_dict_init_2 _ _, ?_⟩
  unfold Builtin.«dict.__init__»
  refine wpAny_bind ?_
  unfold Builtin.Dict.selfAndRest
  refine wpAny_bind (wpAny_notOrdered_dict hT ?_)
  show wpAny _ _ (pure (D, [Value.ref a])) _ _ _
  refine wpAny_pure ?_
  show wpAny _ _ (Builtin.Dict.updateFrom "dict.__init__" D (.ref a) [] .none) _ _ _
  unfold Builtin.Dict.updateFrom
  refine wpAny_bind (wpAny_typeOf hTl ?_)
  rw [if_pos (by decide)]
  refine wpAny_bind (keys_miss (A := A.in1.in1) (kp1 _ _ (gh _ _ ha)) ok.1 fun h2 tk2 k2 => ?_)
  rw [if_pos (by rfl)]
  refine wpAny_bind (wpAny_rule (wpAny_bind ?_))
  have k02 : Kp s.heap h2 := kp1.trans k2
  obtain ⟨b, oI, P, St, ⟨ob, hob, hgb⟩, hfr, hit, W, hst, hP, hq⟩ := (Src.list (prog := prog) (gh.kp k02) iv')
  refine hit _ _ _ _ rfl ?_
  dsimp only at hst hq hP hit W hob ⊢
  have hI : h2.get? h2.objs.size = none := heap_none (Nat.le_refl _)
  have hpI : (h2.push oI).get? h2.objs.size = some oI := Heap.get?_push_size _ hfr
  have hDh : ∃ o, h2.get? D = some o := ⟨_, k2 _ _ hget⟩
  generalize hIv : h2.objs.size = I at *
  have kI : Kp h2 (h2.push oI) := Kp.push _ _
  have gI : G I = none := by
    cases q : G I with
    | none => rfl
    | some o => have := gh.kp k02 I o q; rw [hI] at this; cases this
  have hDI : D ≠ I := by rintro rfl; obtain ⟨o, e⟩ := hDh; rw [hI] at e; cases e
  have hDb : D ≠ b := by rintro rfl; rw [gD] at hgb; cases hgb
  have hlen : (ps.map fun p => Dt.tup [p.1, p.2]).length = ps.length := List.length_map _
  rw [hlen] at W
  refine wpAny_pure ⟨plainId_quiet plain_dul _, ?_⟩
  have hD2 : DAt w G (h2.push oI) D [] := hD.mono (fun _ _ e => e) fun o e => kI _ _ (k2 _ _ e)
  refine dict_loop (A := A.in1) (W _ ok.1) hP hk (by have := ok.u 100 (by lia); show A.units + 1 + 80 < cLine; lia) hz hDI hDb gD gI ps.length 0 _ [] (by lia) (Nat.zero_le _) hst (gh.kp (k02.trans kI)) hD2 (Nat.zero_le _) fun h3 tk3 k3 hD3 gh3 => ?_
  refine ⟨rfl, ?_⟩
  have kp3 : Kp s.heap h3 := fun c o e => k3 c o (by rintro rfl; rw [fr] at e; cases e) (by rintro rfl; rw [k02 _ _ e] at hI; cases hI) (kI _ _ (k02 _ _ e))
  refine Po.val kp3 ?_
  obtain ⟨es, c, he, ie⟩ := hD3.obj
  rw [List.drop_zero] at ie
  refine .dict (es := es) (n := c) ?_ hD3.ne (ie.mono (sub_exl (gh.kp kp3))) ?_
  · unfold exl; rw [fr]; exact he
  · have := hD3.nodup; rw [List.drop_zero] at this; exact this
end
end Mine
end

section
open PySem PySem.Spec PySem.Calls PyProof.Rows PySem.W
namespace Mine
open scoped Classical

/-! Part NN: a comprehension over zip(a, b) -/
section
variable {prog : Program} {w : World} {h₀ : Heap} {sc : Scope} {F G₀ : Gh} {ρ ω : List (Str × Dt)} {k : Nat} {G G' : Gh} {s : Shared} {env : Env} {A : Around} {E : Value → Shared → Prop} {h h' : Heap}

noncomputable def ZSt (z TI TO i1 i2 l1 l2 : Addr) (xs ys : Array Value) (i : Nat) (h : Heap) : Prop :=
  IsZip h z TI TO .none ∧ IsPair h TI (.ref i1) (.ref i2) ∧ (∃ a b, IsPair h TO a b) ∧ h.IsListIter i1 l1 i ∧ h.IsListIter i2 l2 i ∧ h.IsList l1 xs ∧ h.IsList l2 ys

theorem zip_item {z TI TO i1 i2 l1 l2 : Addr} {xs ys : Array Value} {i : Nat} {x y : Value} {elts : List Expr} {kd : Nat} {pos : Pos} {Q : Option Value → Shared → Prop} (hh : A.handled = none) (D : ZipApart z TI TO i1 i2 l1 l2) (hst : ZSt z TI TO i1 i2 l1 l2 xs ys i s.heap)
    (hx : xs[i]? = some x) (hy : ys[i]? = some y)
    (q : ∀ T h', s.heap.objs.size = T → h'.get? T = some (tupObj #[x, y] 0) → (∀ b o, b ≠ z → b ≠ TO → b ≠ i1 → b ≠ i2 → s.heap.get? b = some o → h'.get? b = some o) →
      (∀ (s' : Shared) (Q' : Unit → Shared → Prop) (E : Value → Shared → Prop), s'.heap = h' → (∀ h2, ZSt z TI TO i1 i2 l1 l2 xs ys (i + 1) h2 → (∀ b o, b ≠ z → b ≠ TO → b ≠ i1 → b ≠ i2 → h'.get? b = some o → h2.get? b = some o) → Q' () { s' with heap := h2 }) →
        wpAny (model prog w) A (letOwnedTupleGo (.Tuple elts kd pos) (.ref z) (.ref T)) Q' E s') → Q (some (.ref T)) { s with heap := h' }) :
    wpAny (model prog w) A (pyNext (.ref z)) Q E s := by
  refine nn fun hno_ => ?_
  obtain ⟨hz, hTI, ⟨a, b, hTO⟩, h1, h2, hl1, hl2⟩ := hst
  refine hno_ ?_
  clear hno_
  refine wpAny_pyNext_zip_item D hz hTI hTO h1 h2 hl1 hl2 hx hy fun h' a1 a2 a3 a4 a5 a6 hk => q _ h' rfl a5 hk fun s' Q' E' e hQ => ?_
  subst e
  have lt : ∀ {c o}, s.heap.get? c = some o → s.heap.objs.size ≠ c := fun e => Nat.ne_of_gt (Heap.lt_size e)
  refine wpAny_letOwnedTupleGo_zip a1 fun h2 hz' hs' => hQ h2 ⟨hz', hs'.extBut _ _ D.TIz (hk _ _ D.TIz D.TITO D.TIi1 D.TIi2 hTI), ⟨_, _, hs'.extBut _ _ D.TOz a2⟩, a3.extBut hs'.extBut D.i1z, a4.extBut hs'.extBut D.i2z,
      (hl1.at fun o e => hk _ o D.l1z D.l1TO D.l1i1 D.l1i2 e).extBut hs'.extBut D.l1z, (hl2.at fun o e => hk _ o D.l2z D.l2TO D.l2i1 D.l2i2 e).extBut hs'.extBut D.l2z⟩ fun c o hc _ _ _ e => hs'.extBut _ _ hc e

theorem zs_frame {z TI TO i1 i2 l1 l2 : Addr} {xs ys : Array Value} {i : Nat} (hst : ZSt z TI TO i1 i2 l1 l2 xs ys i h) (hk : ∀ b o, b ∈ [z, TI, TO, i1, i2, l1, l2] → h.get? b = some o → h'.get? b = some o) : ZSt z TI TO i1 i2 l1 l2 xs ys i h' := by
  refine nn fun hno_ => ?_
  obtain ⟨hz, hTI, ⟨a, b, hTO⟩, h1, h2, hl1, hl2⟩ := hst
  refine hno_ ?_
  clear hno_
  exact ⟨hk z _ (by simp) hz, hk TI _ (by simp) hTI, ⟨a, b, hk TO _ (by simp) hTO⟩, h1.at fun o e => hk i1 o (by simp) e, h2.at fun o e => hk i2 o (by simp) e,
      hl1.at fun o e => hk l1 o (by simp) e, hl2.at fun o e => hk l2 o (by simp) e⟩

theorem zs_live {z TI TO i1 i2 l1 l2 : Addr} {xs ys : Array Value} {i : Nat} (hst : ZSt z TI TO i1 i2 l1 l2 xs ys i h) : (∃ o, h.get? z = some o) ∧ (∃ o, h.get? TO = some o) ∧ (∃ o, h.get? i1 = some o) ∧ ∃ o, h.get? i2 = some o := by
  refine nn fun hno_ => ?_
  obtain ⟨hz, hTI, ⟨a, b, hTO⟩, ⟨o1, h1, _⟩, ⟨o2, h2, _⟩, hl1, hl2⟩ := hst
  refine hno_ ?_
  clear hno_
  exact ⟨⟨_, hz⟩, ⟨_, hTO⟩, ⟨o1, h1⟩, ⟨o2, h2⟩⟩

theorem Iter.zip {elts : List Expr} {kd : Nat} {tpos : Pos} {as bs : List Dt} {z TI TO i1 i2 l1 l2 : Addr} {xs ys : Array Value} (hh : A.handled = none) (ZA : ZipApart z TI TO i1 i2 l1 l2) (ia : IsAll w G xs.toList as) (ib : IsAll w G ys.toList bs) :
    Iter prog w A G (.ref z) (.Tuple elts kd tpos) (List.zipWith (fun a b => Dt.tup [a, b]) as bs) [z, TO, i1, i2] [z, TI, TO, i1, i2, l1, l2] (ZSt z TI TO i1 i2 l1 l2 xs ys) where
  frame := fun i H H' st hk => zs_frame st hk
  live := fun i H b st hb => by
    have v := zs_live st
    rcases List.mem_cons.mp hb with rfl | hb
    · exact v.1
    · rcases List.mem_cons.mp hb with rfl | hb
      · exact v.2.1
      · rcases List.mem_cons.mp hb with rfl | hb
        · exact v.2.2.1
        · cases List.mem_singleton.mp hb; exact v.2.2.2
  item := fun i d Gi s E Q hd st gh sub gN hQ => by
    have but : ∀ {b : Addr}, b ∉ [z, TO, i1, i2] → b ≠ z ∧ b ≠ TO ∧ b ≠ i1 ∧ b ≠ i2 := fun hb => ⟨fun q => hb (q ▸ .head _), fun q => hb (q ▸ .tail _ (.head _)), fun q => hb (q ▸ .tail _ (.tail _ (.head _))), fun q => hb (q ▸ .tail _ (.tail _ (.tail _ (.head _))))⟩
    rw [List.getElem?_zipWith] at hd
    cases ha : as[i]? with
    | none => rw [ha] at hd; cases hd
    | some a =>
    cases hb : bs[i]? with
    | none => rw [ha, hb] at hd; cases hd
    | some b =>
    rw [ha, hb] at hd
    cases hd
    refine nn fun no => ?_
    obtain ⟨x, hx, ix⟩ := ia.get ha
    obtain ⟨y, hy, iyy⟩ := ib.get hb
    refine no ?_
    clear no
    rw [Array.getElem?_toList] at hx hy
    refine zip_item (elts := elts) (kd := kd) (pos := tpos) hh ZA st hx hy fun T h1 hT hTo k1 hgo => hQ _ _ fun Q' E' c => hgo _ _ _ rfl fun h2 st2 k2 => ?_
    have Td : ∀ {b o}, s.heap.get? b = some o → b ≠ T := fun e q => Nat.lt_irrefl _ (by have := Heap.lt_size e; rw [q, ← hT] at this; exact this)
    have v := zs_live st
    have hTo2 : h2.get? T = some (tupObj #[x, y] 0) := k2 T _ (v.1.elim fun _ e => Ne.symm (Td e)) (v.2.1.elim fun _ e => Ne.symm (Td e)) (v.2.2.1.elim fun _ e => Ne.symm (Td e)) (v.2.2.2.elim fun _ e => Ne.symm (Td e)) hTo
    have k12 : ∀ b o, b ∉ [z, TO, i1, i2] → s.heap.get? b = some o → h2.get? b = some o := fun b o hb e => k2 b o (but hb).1 (but hb).2.1 (but hb).2.2.1 (but hb).2.2.2 (k1 b o (but hb).1 (but hb).2.1 (but hb).2.2.1 (but hb).2.2.2 e)
    have lw : Low s.heap Gi (put Gi T (tupObj #[x, y] 0)) := fun b o e => put_ne (Td e)
    have sb : Sub G (put Gi T (tupObj #[x, y] 0)) := fun b o e => lw.sub gh b o (sub b o e)
    refine c h2 s.toks (put Gi T (tupObj #[x, y] 0)) st2 k12 (fun b o e => ?_) lw (.tup (vs := #[x, y]) (n := 0) put_eq (.cons (ix.mono sb) (.cons (iyy.mono sb) .nil)))
    by_cases q : b = T
    · rw [q, put_eq] at e; cases e; rw [q]; exact hTo2
    · rw [put_ne q] at e
      exact k12 b o (fun hb => by rw [gN b hb] at e; cases e) (gh b o e)
  done := fun s E Q st q => by
    have lx := ia.length
    have ly := ib.length
    rw [Array.length_toList] at lx ly
    rw [List.length_zipWith, ← lx, ← ly] at st
    exact (WalksT.zip2 hh z TI TO i1 i2 l1 l2 ZA xs ys).done _ _ _ st fun h1 tk1 k1 => q h1 tk1 k1
end
end Mine
end

section
open PySem PySem.Spec PySem.Calls PyProof.Rows PySem.W
namespace Mine
open scoped Classical

/-! Part NO: y = [e for a, b in zip(p, q)] -/
section
variable {prog : Program} {w : World} {h₀ : Heap} {sc : Scope} {F G₀ : Gh} {ρ ω : List (Str × Dt)} {k : Nat} {G G' : Gh} {s : Shared} {env : Env} {A : Around} {E : Value → Shared → Prop} {h h' : Heap}

theorem comp_start_zip {elt iter : Expr} {elts : List Expr} {kd : Nat} {tpos : Pos} {scope : Scope} {pos : Pos} {cl : List (Str × Addr)} {u v : Value} {as bs : List Dt} {RR : Value → Addr → Result → Shared → Prop} {f : Dt → Dt} {E' : Value → Shared → Prop}
    (ok : Ok A k) (R : Rd w h₀ sc ρ G s.heap env) (iu : Is w G u (.list as)) (iv : Is w G v (.list bs)) (hz : as.length ≤ 5000) (S : CompScope sc scope)
    (hcl : ∀ x, (x, NameKind.free) ∈ scope.names → cl.lookup x = env.cells.lookup x)
    (body : ∀ d ∈ List.zipWith (fun a b => Dt.tup [a, b]) as bs, ∃ bn, Binds (.Tuple elts kd tpos) d bn ∧ (∀ x d, bn.lookup x = some d → scope.names.lookup x = some .local) ∧
      Ev prog w h₀ k (relab sc scope) (bn ++ compRho sc scope ρ) elt (f d))
    (hRR : ∀ D C h' tk m' G', s.heap.get? D = none → s.heap.get? C = none → D ≠ C → h'.Ns C m' → Kp s.heap h' → Low s.heap G G' → InH G' h' → G' C = none → LAt w G' h' D ((List.zipWith (fun a b => Dt.tup [a, b]) as bs).map f) → RR (.ref D) C (.ok .next) { s with heap := h', toks := tk }) :
    wpAny (model prog w) A (call (.type "zip") [u, v]) (fun zv s₁ => wpAny (model prog w) A (pyIter zv) (fun it s₂ => wpAny (model prog w) A (newList []) (fun acc s₃ => wpAny (model prog w) A (newFunctionEnv scope env.globals cl [] env.qual none .none (some env)) (fun cenv s₄ =>
      codeAny (model prog w) A (.compStart (.ListComp elt [⟨.Tuple elts kd tpos, iter, [], 0⟩] scope pos) 0 it acc { cenv with scope := relabel scope env }) (RR acc cenv.locals) s₄) E' s₃) E' s₂) E' s₁) E s := by
  cases iu with
  | @list l1 xs c1 _ h1o ia =>
  cases iv with
  | @list l2 ys c2 _ h2o ib =>
  have a1 := Heap.lt_size (R.inh _ _ h1o)
  have a2 := Heap.lt_size (R.inh _ _ h2o)
  have hl1 : s.heap.IsList l1 xs := ⟨_, R.inh _ _ h1o, rfl, c1, rfl⟩
  have hl2 : s.heap.IsList l2 ys := ⟨_, R.inh _ _ h2o, rfl, c2, rfl⟩
  refine call_zip_2 hl1 hl2 fun hz' gz gTI gTO g1 g2 hsz k0 => ?_
  have ZA := zipApart_new a1 a2
  generalize hn : s.heap.objs.size = n at *
  have st0 : ZSt (n + 4) (n + 2) (n + 3) n (n + 1) l1 l2 xs ys 0 hz' := ⟨gz, gTI, ⟨_, _, gTO⟩, g1, g2, hl1.at fun o e => k0 _ o e, hl2.at fun o e => k0 _ o e⟩
  refine wpAny_pyIter_zip gz ?_
  refine wpAny_newObj_type (wpAny_newFunctionEnv S.cell (by intro y hy; simp at hy) (fun h₁ hns₁ hsb₁ => ?_) S.kind) (by size_fits)
  dsimp only at hns₁ hsb₁ ⊢
  generalize hH2 : hz'.push { cls := .type "list", dict := none, data := .seq ([] : List Value).toArray } = H2 at hns₁ hsb₁ ⊢
  have hD : hz'.objs.size = n + 5 := hsz
  have hC : H2.objs.size = n + 6 := by rw [← hH2, Heap.size_push, hD]
  have hDC : hz'.objs.size ≠ H2.objs.size := by rw [hD, hC]; exact Nat.ne_of_lt (Nat.lt_succ_self _)
  have k2 : Kp hz' H2 := hH2 ▸ Kp.push _ _
  have up : ∀ b o, b ≠ H2.objs.size → H2.get? b = some o → h₁.get? b = some o := fun b o hb e => hsb₁.extBut b o hb (Heap.get?_push_of_some _ e)
  have up0 : ∀ b o, hz'.get? b = some o → h₁.get? b = some o := fun b o e => up b o (Nat.ne_of_lt (by rw [hC]; have := Heap.lt_size e; rw [hD] at this; exact Nat.lt_succ_of_lt this)) (k2 _ _ e)
  have k3 : Kp s.heap h₁ := fun b o e => up0 b o (k0 b o e)
  have lt5 : ∀ b, b ∈ [n + 4, n + 3, n, n + 1] ∨ b ∈ [n + 4, n + 2, n + 3, n, n + 1, l1, l2] → b < hz'.objs.size := fun b hb => by
    rw [hD]
    simp only [List.mem_cons, List.not_mem_nil, or_false] at hb
    rcases hb with (rfl | rfl | rfl | rfl) | (rfl | rfl | rfl | rfl | rfl | rfl | rfl)
    · exact Nat.lt_succ_self _
    · exact Nat.add_lt_add_left (by decide) n
    · exact Nat.lt_add_of_pos_right (by decide)
    · exact Nat.add_lt_add_left (by decide) n
    · exact Nat.lt_succ_self _
    · exact Nat.add_lt_add_left (by decide) n
    · exact Nat.add_lt_add_left (by decide) n
    · exact Nat.lt_add_of_pos_right (by decide)
    · exact Nat.add_lt_add_left (by decide) n
    · exact Nat.lt_of_lt_of_le a1 (Nat.le_add_right n 5)
    · exact Nat.lt_of_lt_of_le a2 (Nat.le_add_right n 5)
  have lt6 : ∀ b, b ∈ [n + 4, n + 3, n, n + 1] ∨ b ∈ [n + 4, n + 2, n + 3, n, n + 1, l1, l2] → b < H2.objs.size := fun b hb => Nat.lt_trans (lt5 b hb) (by rw [hD, hC]; exact Nat.lt_succ_self _)
  have hfresh : ∀ b, n ≤ b → s.heap.get? b = none := fun b hb => heap_none (by rw [hn]; exact hb)
  have loop : ∀ tk, codeAny (model prog w) A (.compLoop (.ListComp elt [⟨.Tuple elts kd tpos, iter, [], 0⟩] scope pos) 0 (.ref (n + 4)) (.ref hz'.objs.size) (compEnvC scope cl H2.objs.size env))
      (RR (.ref hz'.objs.size) H2.objs.size) { s with heap := h₁, toks := tk } := fun tk =>
    comp_core (ifs := []) (fun _ => true) f ok R (by rw [List.length_zipWith]; exact Nat.le_trans (Nat.min_le_left _ _) hz) S.cell S.kind hcl S.free (fun d hd => let ⟨bn, B, hl, hev⟩ := body d hd; ⟨bn, B, hl, rfl, fun _ => hev⟩) (Iter.zip ok.1 ZA ia ib) (zs_frame st0 fun b o _ e => up0 b o e) k3 hns₁
      ⟨0, up _ _ hDC (by rw [← hH2]; exact Heap.get?_push_size _ rfl)⟩
      (fun b hb => by
        simp only [List.mem_cons, List.not_mem_nil, or_false] at hb
        rw [hD, hC] at hb
        rcases hb with rfl | rfl | rfl | rfl | rfl | rfl
        · exact hfresh _ (Nat.le_add_right n 5)
        · exact hfresh _ (Nat.le_add_right n 6)
        · exact hfresh _ (Nat.le_add_right n 4)
        · exact hfresh _ (Nat.le_add_right n 3)
        · exact hfresh _ (Nat.le_refl _)
        · exact hfresh _ (Nat.le_add_right n 1))
      (fun hb => Nat.lt_irrefl _ (lt5 _ (.inl hb))) (fun hb => Nat.lt_irrefl _ (lt6 _ (.inl hb))) hDC
      (fun b hb => ⟨Nat.ne_of_lt (lt5 _ (.inr hb)), Nat.ne_of_lt (lt6 _ (.inr hb))⟩)
      (fun h' tk m' G' hn' kp low gh gC hl => hRR _ _ h' tk m' G' (hfresh _ (by rw [hD]; exact Nat.le_add_right n 5)) (hfresh _ (by rw [hC]; exact Nat.le_add_right n 6)) hDC hn' kp low gh gC (by rw [List.filter_eq_self.mpr fun _ _ => rfl] at hl; exact hl)) tk
  refine codeAny_compStart_list (loop _) (wpAny_pyIter_zip (f0 := .none) (up0 _ _ gz) (loop _))

/-- y = [e for a, b in zip(p, q)], where the compiler keeps the name's place on the stack -/
theorem Es.compZip {elt e1 e2 : Expr} {elts : List Expr} {kd : Nat} {tpos np cp : Pos} {scope : Scope} {pos py spos : Pos} {y : Str} {as bs : List Dt} {Q : Ctl → Prop} (f : Dt → Dt) (hzip : GVal h₀ "zip" (.type "zip"))
    (H1 : Ev prog w h₀ k sc ρ e1 (.list as)) (H2 : Ev prog w h₀ k sc ρ e2 (.list bs)) (hz : as.length ≤ 5000) (S : CompScope sc scope)
    (body : ∀ d ∈ List.zipWith (fun a b => Dt.tup [a, b]) as bs, ∃ bn, Binds (.Tuple elts kd tpos) d bn ∧ (∀ x d, bn.lookup x = some d → scope.names.lookup x = some .local) ∧
      Ev prog w h₀ k (relab sc scope) (bn ++ compRho sc scope ρ) elt (f d)) (q : Q (.next ((y, .list ((List.zipWith (fun a b => Dt.tup [a, b]) as bs).map f)) :: ρ) ω))
    (hsw : ∀ env, env.scope = sc → swapsWith (.ListComp elt [⟨.Tuple elts kd tpos, .Call (.Name "zip" np) [e1, e2] [] cp, [], 0⟩] scope pos) (some (.Name y py)) spos.line env = pure true)
    (hgz : autoParam (sc.names.lookup ("zip" : Str) = some .globalImplicit) aR._auto_1)
    (hy : autoParam (sc.names.lookup y = some .local) aR._auto_1) (hω : autoParam (ω.lookup y = none) aR._auto_1) (he1 : autoParam (starred e1 = false) aR._auto_1) (he2 : autoParam (starred e2 = false) aR._auto_1) (hs : autoParam (∀ env x, foldedSetIterable (.Call (.Name "zip" np) [e1, e2] [] cp) env x = pure x) aI._auto_1) :
    Es prog w h₀ k sc ρ ω (.Assign [.Name y py] (.ListComp elt [⟨.Tuple elts kd tpos, .Call (.Name "zip" np) [e1, e2] [] cp, [], 0⟩] scope pos) spos) Q := .mk fun A F G₀ G env s E ok X => by
  refine nn fun hno_ => ?_
  obtain ⟨cl, hclo, hcl⟩ := closure_D (scope := scope) (env := env) fun x hx hf => X.rd.cells _ (S.free x hx hf)
  refine hno_ ?_
  clear hno_
  rw [exec_Assign_Name_used _ _ _ _ (hsw env X.rd.scope)]
  refine wpAny_bind (wpAny_standAt (wpAny_bind ?_))
  show wpAny _ A (do let _ ← comprehension (.ListComp elt [⟨.Tuple elts kd tpos, .Call (.Name "zip" np) [e1, e2] [] cp, [], 0⟩] scope pos) scope env _ (newList []) false (eval (.Call (.Name "zip" np) [e1, e2] [] cp) env) (some (PySem.assign (.Name y py) env))) _ _ s
  refine wpAny_bind (wpAny_mono (wpAny_comprehension_free (use := some (PySem.assign (.Name y py) env)) (Q := fun _ s' => EP w h₀ sc F G₀ env Q s .next s') rfl (hs env) hclo S.kind S.names ?_) (fun _ _ hq => wpAny_pure (wpAny_pure hq)) fun _ _ e => e)
  refine wpAny_Call_ofName (gname_D X.rd hgz hzip (by decide) (callW_D (ct h₀ "zip") ((Evs.cons H1 (Evs.cons H2 Evs.nil he2) he1).go ok X.rd fun vs h1 tk1 k1 i1 R1 => ⟨R1.keep, ?_⟩) (star_cons he1) (star_none (by rw [List.all_cons, he2]; rfl))))
  cases i1 with
  | @cons u _ _ _ iu i1 =>
  cases i1 with
  | @cons v _ _ _ iv i1 =>
  cases i1
  refine comp_start_zip ok R1 iu iv hz S hcl body fun D C h' tk m' G' hD hC hDC hn kp low gh gC hl => ?_
  dsimp only at hD hC kp low
  have X1 := X.exl k1
  generalize hG1 : exl G s.heap h1 = G1 at *
  have ne : ∀ {b o}, h1.get? b = some o → b ≠ C := fun e q => by subst q; rw [hC] at e; cases e
  have ghx := exl_in (G := G1) (h := h1) (X1.rd.inh.kp kp)
  have X2 : Fs w h₀ sc F G₀ ρ ω (rm (exl G1 h1 h') C) h' env := X1.to kp (in_rm ghx) fun b o e => by unfold rm; rw [if_neg (ne e)]; unfold exl; rw [e]
  refine nn fun hno_ => ?_
  obtain ⟨ys, c, hys, iy⟩ := hl.obj
  refine hno_ ?_
  clear hno_
  have ilist : Is w (rm (exl G1 h1 h') C) (.ref D) (.list ((List.zipWith (fun a b => Dt.tup [a, b]) as bs).map f)) := by
    refine .list (vs := ys) (n := c) ?_ (iy.mono fun b o e => ?_)
    · unfold rm; rw [if_neg hDC]; unfold exl; rw [hD]; exact hys
    · unfold rm; rw [if_neg (fun q => by subst q; rw [gC] at e; cases e)]; exact low.to_exl gh b o e
  have fC : F C = none := by
    cases q : F C with
    | none => rfl
    | some o => rw [X1.inF C o q] at hC; cases hC
  have nL : C ≠ env.locals := by obtain ⟨m, o, es, ep, ho, _⟩ := X1.ns; exact Ne.symm (ne ho)
  have nc : ∀ y c, env.cells.lookup y = some c → C ≠ c := fun y c e => by obtain ⟨_, _, _, v, o, ho, _⟩ := X1.cell y c e; exact Ne.symm (ne ho)
  show wpAny _ A (PySem.assign (.Name y py) env (.ref D)) _ _ _
  refine wpAny_assign_Name (store_D X2 (.inl hy) fun h2 tk2 hb hat hk hns hc => ?_)
  have X3 : Fs w h₀ sc F G₀ ((y, .list ((List.zipWith (fun a b => Dt.tup [a, b]) as bs).map f)) :: ρ) ω (rm (exl G1 h1 h') C) h2 env := X2.bound hb hk hns hc (fun z d e q => by subst q; rw [hω] at e; cases e) fun z e hz => by
    rw [List.lookup_cons] at hz
    by_cases hzy : z = y
    · subst hzy; rw [beq_self_eq_true] at hz; cases hz; exact ⟨_, ilist, hat⟩
    · rw [beq_eq_false_iff_ne.mpr hzy] at hz
      obtain ⟨u, hu, hau⟩ := X2.rd.names z e hz
      exact ⟨u, hu, hk z u hzy hau⟩
  have hCb : ∃ m, h2.Ns C m := by
    refine nn fun hno_ => ?_
    obtain ⟨b, hb1, kb⟩ := hb
    refine hno_ ?_
    clear hno_
    have : C ≠ b := by rcases hb1 with rfl | ⟨z, e⟩; exact nL; exact nc z b e
    exact ⟨m', hn.extBut kb this⟩
  obtain ⟨m2, hn2⟩ := hCb
  refine ⟨m2, hn2, fun h3 s3 => ⟨_, h3, tk2, rfl, q, rfl, _, X3.off s3.extBut fC (by unfold rm; rw [if_pos rfl]) nL nc fun z e b hz hau => ?_⟩⟩
  obtain ⟨b', g1, g2, _⟩ := X1.own z e hz
  obtain ⟨o, ho⟩ := g2.live
  have hzy : z ≠ y := fun q => by subst q; rw [hω] at hz; cases hz
  obtain rfl := ref_inj ((hk z _ hzy (g1.keep2 kp)).det hau)
  exact ne ho
end
end Mine
end

section
open PySem PySem.Spec PySem.Calls PyProof.Rows PySem.W
namespace Mine
open scoped Classical

/-! Part NP: only, name_rows -/
theorem dget_mem {l : List (Dt × Dt)} {p : Dt × Dt} (hn : (l.map (·.1)).Nodup) (h : p ∈ l) : dget l p.1 = some p.2 := by
  obtain ⟨i, hi, e⟩ := List.getElem_of_mem h
  have h1 : l[i]? = some (p.1, p.2) := by rw [List.getElem?_eq_getElem hi, e]
  obtain ⟨d, h2, h3⟩ := dIdx_some (dIdx_of hn h1)
  rw [h1] at h2; cases h2; exact h3
theorem mem_dget {l : List (Dt × Dt)} {k d : Dt} (h : dget l k = some d) : (k, d) ∈ l := by
  unfold dget at h
  cases q : l.find? fun p => decide (p.1 = k) with
  | none => rw [q] at h; cases h
  | some p =>
    rw [q] at h; cases h
    have h1 := List.find?_some q
    have h2 := List.mem_of_find?_eq_some q
    have : p.1 = k := by simpa using h1
    subst this; exact h2

theorem mem_of_filter {α : Type} {p : α → Bool} {l : List α} {a : α} (h : a ∈ l.filter p) : a ∈ l := (List.mem_filter.mp h).1
noncomputable def third : Dt → Dt
  | .tup [_, _, t] => t
  | _ => .none
noncomputable def NKey (d : Dt) : Prop := ∃ f x t, d = .tup [idD f, .str x, idD t]
structure NOk (kn : List (Dt × Dt)) : Prop where
  nodup : (kn.map (·.1)).Nodup
  key : ∀ p ∈ kn, NKey p.1
  val : ∀ p ∈ kn, isStr p.2 = true
  len : kn.length ≤ 20
theorem NKey.hk {d : Dt} (h : NKey d) : hk 6 d = true := by obtain ⟨f, x, t, rfl⟩ := h; rfl
theorem NKey.hk3 {d : Dt} (h : NKey d) : Mine.hk 6 (third d) = true := by obtain ⟨f, x, t, rfl⟩ := h; rfl

noncomputable def only3 (kn kn' : List (Dt × Dt)) : List (Dt × Dt) := (kn.filter fun p => !dhas kn' p.1).map fun p => (third p.1, p.2)
noncomputable def onlyKV (kn kn' : List (Dt × Dt)) : List (Dt × Dt) := ((grp (only3 kn kn')).map (·.1)).map fun k => (k, .list (isort (sel (only3 kn kn') k)))

theorem only3_len (kn kn' : List (Dt × Dt)) : (only3 kn kn').length ≤ kn.length := by unfold only3; rw [List.length_map]; exact List.length_filter_le _ _
theorem only3_take {kn kn' : List (Dt × Dt)} {i : Nat} {p : Dt × Dt} (h : kn[i]? = some p) : only3 (kn.take (i + 1)) kn' = only3 (kn.take i) kn' ++ if dhas kn' p.1 then [] else [(third p.1, p.2)] := by
  unfold only3
  rw [take_succ_filter' _ _ _ _ h, List.map_append]
  congr 1
  cases dhas kn' p.1 <;> rfl

theorem ofPairs_nodup : ∀ (ps kvs : List (Dt × Dt)), ((kvs ++ ps).map (·.1)).Nodup → ofPairs kvs ps = kvs ++ ps
  | [], kvs, _ => by simp [ofPairs]
  | p :: r, kvs, h => by
    have hno : dhas kvs p.1 = false := by
      unfold dhas
      have : p.1 ∉ kvs.map (·.1) := by
        intro hm
        rw [List.map_append, List.nodup_append] at h
        exact h.2.2 _ hm _ (by simp) rfl
      rw [dget_none_iff.mpr this]; rfl
    have hs : dset kvs p.1 p.2 = kvs ++ [p] := by unfold dset; rw [hno]; rfl
    show ofPairs (dset kvs p.1 p.2) r = _
    rw [hs, ofPairs_nodup r (kvs ++ [p]) (by rw [List.append_assoc]; exact h), List.append_assoc]; rfl

theorem only3_val {kn kn' : List (Dt × Dt)} (N : NOk kn) : ∀ p ∈ only3 kn kn', isStr p.2 = true ∧ hk 6 p.1 = true := by
  intro p hp
  unfold only3 at hp
  obtain ⟨q, hq, rfl⟩ := List.mem_map.mp hp
  have hq' := mem_of_filter hq
  exact ⟨N.val q hq', (N.key q hq').hk3⟩

theorem grp_key_of {l : List (Dt × Dt)} {k : Dt} (h : k ∈ (grp l).map (·.1)) : ∃ p ∈ l, p.1 = k := by
  have := (grp_keys l k).mp h
  obtain ⟨x, hx⟩ := List.exists_mem_of_ne_nil _ this
  obtain ⟨p, hp, h1, _⟩ := sel_mem hx
  exact ⟨p, hp, h1⟩

section
variable {prog : Program} {w : World} {h₀ : Heap} {sc : Scope} {F G₀ : Gh} {ρ ω : List (Str × Dt)} {k : Nat} {G G' : Gh} {s : Shared} {env : Env} {A : Around} {E : Value → Shared → Prop} {h h' : Heap} {K : Frag} {C fI fO : Addr}

theorem only_cl (O : Outer h₀) (c : Cls K h₀ C fI fO nF) (fn : Fn h₀ (.ref fO) ["self", "other"] (methScope 1) (methBody 1)) (kn kp ks kn' kp' ks' : List (Dt × Dt)) (N : NOk kn) :
    Cl prog w h₀ (k + 1) (.ref fO) [.inst C (tabF kn kp ks), .inst C (tabF kn' kp' ks')] (.dict (onlyKV kn kn')) := by
  refine Cl.of_ex fn rfl ?_
  show Ex prog w h₀ k (methScope 1) [("self", .inst C (tabF kn kp ks)), ("other", .inst C (tabF kn' kp' ks'))] [] (methBody 1) _
  have selstr : ∀ (l : List (Dt × Dt)), (∀ p ∈ only3 l kn', isStr p.2 = true) → ∀ key, ∀ d ∈ sel (only3 l kn') key, isStr d = true := fun l hl key d hd => by
    obtain ⟨p, hp, _, rfl⟩ := sel_mem hd
    exact hl p hp
  refine Ex.cons (Es.ownDict O.lim (Ex.cons ?_))
  refine Es.for_ [("self", .inst C (tabF kn kp ks)), ("other", .inst C (tabF kn' kp' ks'))] (fun i => [("found", .dict (grp (only3 (kn.take i) kn')))]) (Ev.attr (x := "names") c Ev.nm (by decide) rfl) (.inr ⟨kn, rfl, rfl⟩) (look_id _) (look_one rfl) ?_ ?_
  · intro i d hd
    rw [List.getElem?_map] at hd
    cases hri : kn[i]? with
    | none => rw [hri] at hd; cases hd
    | some p =>
      rw [hri] at hd
      simp only [Option.map_some, Option.some.injEq] at hd
      subst hd
      have hmem := List.mem_of_getElem? hri
      have hkey := N.key p hmem
      have htk := only3_take (kn' := kn') hri
      have Ni : ∀ q ∈ only3 (kn.take i) kn', isStr q.2 = true := fun q hq => by
        unfold only3 at hq
        obtain ⟨r, hr, rfl⟩ := List.mem_map.mp hq
        exact N.val r (List.mem_of_mem_take (mem_of_filter hr))
      have hlen : (only3 (kn.take i) kn').length ≤ 20 := Nat.le_trans (only3_len _ _) (Nat.le_trans (by rw [List.length_take]; exact Nat.min_le_right _ _) N.len)
      have hgl := grp_len (only3 (kn.take i) kn')
      have i3 : Item prog w k p.1 (.int (2 : Nat)) (third p.1) := by
        refine nn fun hno_ => ?_
        obtain ⟨f, x, t, e⟩ := hkey
        refine hno_ ?_
        clear hno_
        rw [e]
        exact Item.tup (n := 2) rfl (by simp)
      refine ⟨_, .name, .inr fun x d hx => by rw [one_bind hx]; rfl, fun x d hx => by rw [one_bind hx]; rfl, ?_⟩
      refine Ex.cons (Es.ite (Tr.cmp Ev.nm (Ev.attr (x := "names") (fs := tabF kn' kp' ks') c Ev.nm (by decide) rfl) (Cmp.notHas hkey.hk)) (fun hb => Ex.cons ?_) (fun hb => Ex.nil (Ex.nil ?_)))
      · have hb' : dhas kn' p.1 = false := by simpa using hb
        refine Es.store (kvs := grp (only3 (kn.take i) kn')) (key := third p.1) (d := .list (listOf (dget (grp (only3 (kn.take i) kn')) (third p.1)) ++ [p.2])) ?_ ?_ (Ev.sub Ev.nm Ev.int i3) hkey.hk3 (by lia) ?_
        · refine EvF.ev (EvF.bin (d := .list (listOf (dget (grp (only3 (kn.take i) kn')) (third p.1)))) (e := .list [p.2]) ?_ (EvF.ev (EvF.lst (Evs.cons ?_ Evs.nil) (by simp))) (BinF.add_list ?_))
          · rw [← grp_list]
            exact Ev.meth Ev.nm (Evs.cons (Ev.sub Ev.nm Ev.int i3) (Evs.cons (EvF.ev (EvF.lst (ds := []) Evs.nil (by simp))) Evs.nil)) (Mt.get hkey.hk3)
          · exact Ev.sub (Ev.attr (x := "names") c Ev.nm (by decide) rfl) Ev.nm (Item.dict (dget_mem N.nodup hmem) hkey.hk)
          · rw [grp_listOf, List.length_singleton]
            have := sel_len (only3 (kn.take i) kn') (third p.1)
            lia
        · show nds _ = true
          rw [nds_iff]
          intro d hd
          have hs : isStr d = true := by
            rcases List.mem_append.mp hd with h | h
            · rw [grp_listOf] at h
              exact selstr _ Ni _ d h
            · rw [List.mem_singleton.mp h]; exact N.val p hmem
          cases d <;> first | rfl | (simp [isStr] at hs)
        · refine Ex.nil (Ex.nil ⟨_, _, rfl, look_skip rfl, look_one ?_⟩)
          rw [htk, hb', if_neg (by decide), grp_snoc]; rfl
      · have hb' : dhas kn' p.1 = true := by simpa using hb
        refine ⟨_, _, rfl, look_skip rfl, look_one ?_⟩
        rw [htk, hb', if_pos rfl, List.append_nil]
  · rw [List.length_map, List.take_length]
    have hL := only3_val (kn' := kn') N
    have hLl : (only3 kn kn').length ≤ 20 := Nat.le_trans (only3_len _ _) N.len
    have hkv : onlyKV kn kn' = ((grp (only3 kn kn')).map (·.1)).map fun k => (k, .list (isort (sel (only3 kn kn') k))) := rfl
    generalize only3 kn kn' = L at *
    have hgl := grp_len L
    refine Ex.freeze (x := "found") rfl (fun _ _ e => nomatch e) (Ex.cons (Es.ret (d := .dict (onlyKV kn kn')) ?_ rfl))
    have hps : onlyKV kn kn' = ofPairs [] (((grp L).map (·.1)).map fun k => (k, .list (isort (sel L k)))) := by
      rw [hkv, ofPairs_nodup _ _ ?_]; rfl
      rw [List.nil_append, List.map_map]
      show (((grp L).map (·.1)).map fun x => x).Nodup
      rw [List.map_id']; exact grp_nodup L
    rw [hps]
    refine Ev.call O.dict (ct _ _) (Evs.cons (ds := []) (d := .list _) ?_ Evs.nil) (Cl.dict_pairs O.lim (fun q hq => ?_) (by rw [List.length_map, List.length_map]; lia))
    · rw [List.map_map]
      have hE : (((grp L).map (·.1)).map ((fun p : Dt × Dt => Dt.tup [p.1, p.2]) ∘ fun k => (k, .list (isort (sel L k))))) = (((grp L).map (·.1)).filter fun _ => true).map fun k => Dt.tup [k, .list (isort (sel L k))] := by
        rw [filter_all]; rfl
      rw [hE]
      refine EvF.ev (EvF.comp _ _ Ev.nm (.inr ⟨grp L, rfl, rfl⟩) (by rw [List.length_map]; lia) ⟨by decide, rfl, by decide, by decide⟩ fun d hd => ?_)
      refine ⟨_, .name, fun x d hx => ?_, rfl, fun _ => ?_⟩
      · rw [one_bind hx]; rfl
      · have hne := (grp_keys L d).mp hd
        refine nn fun hno_ => ?_
        obtain ⟨q, hq, hq1⟩ := grp_key_of hd
        refine hno_ ?_
        clear hno_
        have hget : dget (grp L) d = some (.list (sel L d)) := by rw [grp_get, if_neg hne]
        refine Ev.tup (ds := [_, _]) (Evs.cons Ev.nm (Evs.cons ?_ Evs.nil)) (by simp)
        refine EvF.ev (EvF.call O.sorted (cb _ _) (Evs.cons (Ev.sub (d := .dict (grp L)) (i := d) Ev.nm Ev.nm (Item.dict hget (hq1 ▸ (hL q hq).2))) Evs.nil) (ClF.sorted_list (.sAll fun x hx => ?_) ?_))
        · obtain ⟨p, hp, _, rfl⟩ := sel_mem hx
          exact (hL p hp).1
        · have := sel_len L d
          lia
    · obtain ⟨kk, hkk, rfl⟩ := List.mem_map.mp hq
      obtain ⟨q, hq, hq1⟩ := grp_key_of hkk
      exact hq1 ▸ (hL q hq).2
end
end Mine
end

section
open PySem PySem.Spec PySem.Calls PyProof.Rows PySem.W
namespace Mine
open scoped Classical

/-! Part NQ: name_rows, turned_rows -/
structure Marks (h₀ : Heap) : Prop where
  came : ∃ t, GVal h₀ "CAME" (.str "+" t)
  went : ∃ t, GVal h₀ "WENT" (.str "-" t)
  turned : ∃ t, GVal h₀ "TURNED" (.str "M" t)
  moved : ∃ t, GVal h₀ "MOVED" (.str "R" t)

noncomputable def row3 (a m b : Dt) : Dt := .tup [a, m, b]
noncomputable def nameRows (went came : List Dt) : List Dt :=
  (List.zipWith (fun a b => row3 a (.str "R") b) went came ++ (went.drop (min went.length came.length)).map fun p => row3 p (.str "-") (.str "")) ++ (came.drop (min went.length came.length)).map fun p => row3 p (.str "+") (.str "")

theorem zw_mem {as bs : List Dt} {d : Dt} (h : d ∈ List.zipWith (fun a b => Dt.tup [a, b]) as bs) : ∃ a b, d = .tup [a, b] := by
  induction as generalizing bs with
  | nil => simp at h
  | cons a as ih =>
    cases bs with
    | nil => simp at h
    | cons b bs =>
      rw [List.zipWith_cons_cons, List.mem_cons] at h
      rcases h with rfl | h
      · exact ⟨a, b, rfl⟩
      · exact ih h

section
variable {prog : Program} {w : World} {h₀ : Heap} {sc : Scope} {F G₀ : Gh} {ρ ω : List (Str × Dt)} {k : Nat} {G G' : Gh} {s : Shared} {env : Env} {A : Around} {E : Value → Shared → Prop} {h h' : Heap} {K : Frag} {C fI fO : Addr}

theorem min_nat (a b : Nat) : (if (b : Int) < a then (b : Int) else a) = ((min a b : Nat) : Int) := by
  split <;> omega

theorem name_rows_cl (O : Outer h₀) (M : Marks h₀) {f : Value} (fn : Fn h₀ f ["went", "came"] (scopeAt 6) (bodyAt 6)) (went came : List Dt) (h1 : went.length ≤ 40) (h2 : came.length ≤ 40) :
    Cl prog w h₀ (k + 1) f [.list went, .list came] (.list (nameRows went came)) := by
  refine ClF.cl (ClF.of_ex fn rfl ?_)
  show Ex prog w h₀ k (scopeAt 6) [("went", .list went), ("came", .list came)] [] (bodyAt 6) _
  obtain ⟨t1, g1⟩ := M.came
  obtain ⟨t2, g2⟩ := M.went
  obtain ⟨t4, g4⟩ := M.moved
  refine Ex.cons (Es.assign (d := .int ((min went.length came.length : Nat) : Int)) ?_ (Ex.cons ?_))
  · rw [← min_nat]
    exact Ev.call O.min (cb _ _) (Evs.cons (Ev.call O.len (cb _ _) (Evs.cons Ev.nm Evs.nil) (Cl.len_list (by omega))) (Evs.cons (Ev.call O.len (cb _ _) (Evs.cons Ev.nm Evs.nil) (Cl.len_list (by omega))) Evs.nil)) Cl.min2
  refine Es.compZip (as := went) (bs := came) (fun d => match d with | .tup [a, b] => row3 a (.str "R") b | _ => .none) O.zip Ev.nm Ev.nm (by omega) ⟨by decide, rfl, by decide, by decide⟩ (fun d hd => ?_) ?_ (fun env he => ?_)
  · obtain ⟨a, b, rfl⟩ := zw_mem hd
    refine ⟨_, .tup (xs := ["one", "other"]) (.cons (.cons .nil)) rfl (by decide), zipb (by decide), ?_⟩
    exact Ev.tup (ds := [_, _, _]) (Evs.cons Ev.nm (Evs.cons (Ev.gstr g4 (by decide +kernel) (by rfl)) (Evs.cons Ev.nm Evs.nil))) (by simp)
  · generalize hm : min went.length came.length = m at *
    have hF : ((List.zipWith (fun a b => Dt.tup [a, b]) went came).map fun d => match d with | .tup [a, b] => row3 a (.str "R") b | _ => .none) = List.zipWith (fun a b => row3 a (.str "R") b) went came := by
      rw [List.map_zipWith]
    rw [hF]
    have lF : (List.zipWith (fun a b => row3 a (.str "R") b) went came).length ≤ 40 := by rw [List.length_zipWith]; omega
    have eN : nameRows went came = (List.zipWith (fun a b => row3 a (.str "R") b) went came ++ (((went.drop m).filter fun _ => true).map fun p => row3 p (.str "-") (.str ""))) ++ (((came.drop m).filter fun _ => true).map fun p => row3 p (.str "+") (.str "")) := by
      rw [filter_all, filter_all]; unfold nameRows; rw [hm]
    rw [eN]
    generalize List.zipWith (fun a b => row3 a (.str "R") b) went came = Z at *
    refine Ex.cons (Es.retF (EvF.bin (EvF.ev (EvF.bin (f := Z ++ (((went.drop m).filter fun _ => true).map fun p => row3 p (.str "-") (.str ""))) (d := .list Z) Ev.nm (EvF.ev (EvF.comp _ _ (EvF.ev (EvF.slice (lo := some _) (hi := none) (dl := .int m) (dh := .none) (l := some m) (u := none) (ds := went) Ev.nm Ev.nm rfl (.some m) .none (by omega))) (.inl rfl) ?_ ⟨by decide, rfl, by decide, by decide⟩ ?_)) (BinF.add_list ?_)))
      (EvF.ev (EvF.comp _ _ (EvF.ev (EvF.slice (lo := some _) (hi := none) (dl := .int m) (dh := .none) (l := some m) (u := none) (ds := came) Ev.nm Ev.nm rfl (.some m) .none (by omega))) (.inl rfl) ?_ ⟨by decide, rfl, by decide, by decide⟩ ?_)) (BinF.add_list ?_)) rfl)
    · show (went.drop m).length ≤ 5000
      rw [List.length_drop]; omega
    · intro d hd
      refine ⟨_, .name, fun x d hx => by rw [one_bind hx]; rfl, rfl, fun _ => ?_⟩
      exact Ev.tup (ds := [_, _, _]) (Evs.cons Ev.nm (Evs.cons (Ev.gstr g2 (by decide +kernel) (by rfl)) (Evs.cons Ev.str Evs.nil))) (by simp)
    · show Z.length + (((went.drop m).filter fun _ => true).map _).length ≤ 5000
      rw [filter_all, List.length_map, List.length_drop]; omega
    · show (came.drop m).length ≤ 5000
      rw [List.length_drop]; omega
    · intro d hd
      refine ⟨_, .name, fun x d hx => by rw [one_bind hx]; rfl, rfl, fun _ => ?_⟩
      exact Ev.tup (ds := [_, _, _]) (Evs.cons Ev.nm (Evs.cons (Ev.gstr g1 (by decide +kernel) (by rfl)) (Evs.cons Ev.str Evs.nil))) (by simp)
    · show (Z ++ ((went.drop m).filter fun _ => true).map _).length + (((came.drop m).filter fun _ => true).map _).length ≤ 5000
      rw [filter_all, filter_all, List.length_append, List.length_map, List.length_drop, List.length_map, List.length_drop]; omega
  · show (pure _ : Sem Bool) = pure true
    unfold Env.blockKind Env.kindOf
    rw [he]; rfl
end
end Mine
end

section
open PySem PySem.Spec PySem.Calls PyProof.Rows PySem.W
namespace Mine
open scoped Classical

/-! Part NR: turned_rows, diff_rows, rows_changed -/
theorem alike_strs : ∀ {x y : List Dt}, (∀ d ∈ x, isStr d = true) → (∀ d ∈ y, isStr d = true) → alike x y
  | [], _, _, _ => by unfold alike; trivial
  | _ :: _, [], _, _ => by unfold alike; trivial
  | a :: x, b :: y, h1, h2 => ⟨.inr ⟨h1 a (by simp), h2 b (by simp)⟩, fun _ => alike_strs (fun d hd => h1 d (by simp [hd])) (fun d hd => h2 d (by simp [hd]))⟩
theorem SortOk.strs {l : List Dt} (h : ∀ d ∈ l, ∃ r, d = .tup r ∧ r ≠ [] ∧ ∀ x ∈ r, isStr x = true) : SortOk l := by
  refine .sTup (fun d hd => ?_) (fun d hd e he x y hx hy => ?_)
  · obtain ⟨r, rfl, hn, hs⟩ := h d hd
    cases r with
    | nil => exact absurd rfl hn
    | cons a r =>
      simp only [isTup, Bool.and_eq_true, List.all_eq_true]
      exact ⟨hs a (by simp), fun y hy => leaf_of_str (hs y (by simp [hy]))⟩
  · subst hx; subst hy
    obtain ⟨r, e1, _, hs⟩ := h _ hd
    obtain ⟨r', e2, _, hs'⟩ := h _ he
    cases e1; cases e2
    exact alike_strs hs hs'
noncomputable def IsId (d : Dt) : Prop := ∃ t : Int, d = idD t
theorem IsId.hk {d : Dt} (h : IsId d) : hk 6 d = true := by obtain ⟨t, rfl⟩ := h; rfl
theorem SortOk.ids {l : List Dt} (h : ∀ d ∈ l, IsId d) : SortOk l := by
  refine .iTup (fun d hd => ?_) (fun d hd e he x y hx hy => ?_)
  · obtain ⟨t, rfl⟩ := h d hd; rfl
  · obtain ⟨t, e1⟩ := h d hd
    obtain ⟨u, e2⟩ := h e he
    rw [hx] at e1; rw [hy] at e2
    unfold idD at e1 e2
    cases e1; cases e2
    exact ⟨.inl ⟨rfl, rfl⟩, fun _ => ⟨.inl ⟨rfl, rfl⟩, fun _ => trivial⟩⟩

noncomputable def firstOf (l : List Dt) : Dt := l.head?.getD .none
noncomputable def sval (ks : List (Dt × Dt)) (d : Dt) : Dt := (dget ks d).getD .none
noncomputable def turnedRows (ks kp' ks' : List (Dt × Dt)) : List Dt :=
  (((ks'.map (·.1)).filter fun d => dhas ks d).filter fun d => !decide (sval ks d = sval ks' d)).map fun d => row3 (firstOf (isort (listOf (dget kp' d)))) (.str "M") (.str "")

structure SOk (kp ks : List (Dt × Dt)) : Prop where
  id : ∀ p ∈ ks, IsId p.1
  pl : ∀ p ∈ ks, pl 60 p.2 = true
  path : ∀ p ∈ ks, ∃ l, dget kp p.1 = some (.list l) ∧ l ≠ [] ∧ (∀ x ∈ l, isStr x = true) ∧ l.length ≤ 20
  len : ks.length ≤ 20

theorem isort_len (l : List Dt) : (isort l).length = l.length := (isort_perm l).length_eq

theorem sval_mem {ks : List (Dt × Dt)} {d : Dt} (h : d ∈ ks.map (·.1)) : dget ks d = some (sval ks d) ∧ (d, sval ks d) ∈ ks := by
  unfold sval
  cases q : dget ks d with
  | none => exact absurd h (dget_none_iff.mp q)
  | some e => exact ⟨rfl, mem_dget q⟩

theorem firstOf_get {l : List Dt} (h : l ≠ []) : l[0]? = some (firstOf l) := by
  cases l with
  | nil => exact absurd rfl h
  | cons a r => rfl
theorem firstOf_mem {l : List Dt} (h : l ≠ []) : firstOf l ∈ l := List.mem_of_getElem? (firstOf_get h)

section
variable {prog : Program} {w : World} {h₀ : Heap} {sc : Scope} {F G₀ : Gh} {ρ ω : List (Str × Dt)} {k : Nat} {G G' : Gh} {s : Shared} {env : Env} {A : Around} {E : Value → Shared → Prop} {h h' : Heap} {K : Frag} {C fI fO : Addr}

theorem turned_cl (O : Outer h₀) (M : Marks h₀) (c : Cls K h₀ C fI fO nF) {f : Value} (fn : Fn h₀ f ["old", "new"] (scopeAt 7) (bodyAt 7)) (kn kp ks kn' kp' ks' : List (Dt × Dt)) (S : SOk kp ks) (S' : SOk kp' ks') :
    ClF prog w h₀ (k + 1) f [.inst C (tabF kn kp ks), .inst C (tabF kn' kp' ks')] (turnedRows ks kp' ks') := by
  refine ClF.of_ex fn rfl ?_
  show Ex prog w h₀ k (scopeAt 7) [("old", .inst C (tabF kn kp ks)), ("new", .inst C (tabF kn' kp' ks'))] [] (bodyAt 7) _
  obtain ⟨t3, g3⟩ := M.turned
  have l1 : (ks'.map (·.1)).length ≤ 20 := by rw [List.length_map]; exact S'.len
  refine Ex.cons (Es.compAssign (fun d => dhas ks d) (fun d => d) (Ev.attr (x := "states") c Ev.nm (by decide) rfl) (.inr ⟨ks', rfl, rfl⟩) (by lia) ⟨by decide, rfl, by decide, by decide⟩ (fun d hd => ?_) ?_ (fun env he => ?_))
  · obtain ⟨p, hp, rfl⟩ := List.mem_map.mp hd
    refine ⟨_, .name, fun x d hx => by rw [one_bind hx]; rfl, ?_, fun _ => Ev.nm⟩
    exact Tr.cmp Ev.nm (Ev.attr (x := "states") (fs := tabF kn kp ks) c Ev.nm (by decide) rfl) (Cmp.has (S'.id p hp).hk)
  · rw [show (((ks'.map (·.1)).filter fun d => dhas ks d).map fun d => d) = (ks'.map (·.1)).filter fun d => dhas ks d from List.map_id' _]
    have l2 : ((ks'.map (·.1)).filter fun d => dhas ks d).length ≤ 20 := Nat.le_trans (List.length_filter_le _ _) l1
    refine Ex.cons (Es.retF (EvF.comp (fun d => !decide (sval ks d = sval ks' d)) (fun d => row3 (firstOf (isort (listOf (dget kp' d)))) (.str "M") (.str "")) Ev.nm (.inl rfl) (by lia) ⟨by decide, rfl, by decide, by decide⟩ fun d hd => ?_) rfl)
    obtain ⟨hd1, hd2⟩ := List.mem_filter.mp hd
    obtain ⟨p, hp, rfl⟩ := List.mem_map.mp hd1
    have hid := (S'.id p hp).hk
    refine nn fun hno_ => ?_
    obtain ⟨e1, m1⟩ := sval_mem ((dhas_iff _ _).mp hd2)
    refine hno_ ?_
    clear hno_
    obtain ⟨e2, m2⟩ := sval_mem hd1
    refine ⟨_, .name, fun x d hx => by rw [one_bind hx]; rfl, ?_, fun _ => ?_⟩
    · exact Tr.cmp (Ev.sub (d := .dict ks) (i := p.1) (Ev.attr (x := "states") (fs := tabF kn kp ks) c Ev.nm (by decide) rfl) Ev.nm (Item.dict e1 hid)) (Ev.sub (d := .dict ks') (i := p.1) (Ev.attr (x := "states") (fs := tabF kn' kp' ks') c Ev.nm (by decide) rfl) Ev.nm (Item.dict e2 hid))
        (Cmp.ne (S.pl _ m1) (S'.pl _ m2))
    · refine nn fun hno_ => ?_
      obtain ⟨l, hl, hne, hs, hlen⟩ := S'.path p hp
      refine hno_ ?_
      clear hno_
      show Ev _ _ _ _ _ _ _ (row3 (firstOf (isort (listOf (dget kp' p.1)))) (.str "M") (.str ""))
      rw [hl]
      show Ev _ _ _ _ _ _ _ (row3 (firstOf (isort l)) _ _)
      have hne' : isort l ≠ [] := fun q => hne (by have := isort_len l; rw [q] at this; exact List.length_eq_zero_iff.mp this.symm)
      refine Ev.tup (ds := [_, _, _]) (Evs.cons ?_ (Evs.cons (Ev.gstr g3 (by decide +kernel) (by rfl)) (Evs.cons Ev.str Evs.nil))) (by simp)
      refine Ev.sub (EvF.ev (EvF.call O.sorted (cb _ _) (Evs.cons (Ev.sub (d := .dict kp') (i := p.1) (Ev.attr (x := "paths") (fs := tabF kn' kp' ks') c Ev.nm (by decide) rfl) Ev.nm (Item.dict hl hid)) Evs.nil) (ClF.sorted_list (.sAll hs) (by lia)))) Ev.int (Item.list (n := 0) (firstOf_get hne') (by rw [isort_len]; lia))
  · show (pure _ : Sem Bool) = pure true
    unfold Env.blockKind Env.kindOf
    rw [he]; rfl

/-- the class, called -/
theorem Ev.make {x : Str} {np pos : Pos} {e : Expr} {ds : Dt} {d : Dt} (c : Cls K h₀ C fI fO nF) (hv : GVal h₀ x (.ref C)) (H : Ev prog w h₀ k sc ρ e ds) (J : Cl prog w h₀ k (.ref C) [ds] d)
    (hx : autoParam (sc.names.lookup x = some .globalImplicit) aR._auto_1) (hd : autoParam ((x == ("__debug__" : Str)) = false) aD._auto_1)
    (he : autoParam (starred e = false) aR._auto_1) : Ev prog w h₀ k sc ρ (.Call (.Name x np) [e] [] pos) d := .mk fun A G env s E ok R =>
  wpAny_Call_ofName (gname_D R hx hv hd (callWith_K (h₀ := h₀) c.kin c.keep ((Evs.cons H Evs.nil he).go ok R fun vs h1 tk k1 i1 R1 => ⟨fun b o e => R1.keep _ _ (c.kin b o e), wpAny_mono (J.run A _ _ E vs ok R1.inh R1.keep i1) (fun _ _ p => Po.thru k1 p) fun _ _ e => e⟩) (star_cons he) (star_none rfl)))
end
end Mine
end

section
open PySem PySem.Spec PySem.Calls PyProof.Rows PySem.W
namespace Mine
open scoped Classical

/-! Part NS: diff_rows, rows_changed -/
theorem sel_sum : ∀ (L : List (Dt × Dt)) (ds : List Dt), ds.Nodup → (ds.map fun d => (sel L d).length).sum ≤ L.length
  | [], ds, _ => by
    have : (ds.map fun d => (sel [] d).length) = ds.map fun _ => 0 := rfl
    rw [this]
    induction ds with
    | nil => simp
    | cons d ds ih => rename_i h; simpa using ih (List.nodup_cons.mp h).2 rfl
  | p :: L, ds, hn => by
    have ih := sel_sum L ds hn
    have key : ∀ d, (sel (p :: L) d).length = (if p.1 = d then 1 else 0) + (sel L d).length := fun d => by
      unfold sel
      by_cases h : p.1 = d
      · simp [h]; lia
      · simp [h]
    have hs : ∀ ds : List Dt, ds.Nodup → (ds.map fun d => if p.1 = d then 1 else 0).sum ≤ 1 := by
      intro ds
      induction ds with
      | nil => intro _; simp
      | cons d ds ih2 =>
        intro hn
        refine nn fun hno_ => ?_
        obtain ⟨h1, h2⟩ := List.nodup_cons.mp hn
        refine hno_ ?_
        clear hno_
        rw [List.map_cons, List.sum_cons]
        by_cases h : p.1 = d
        · have : (ds.map fun d => if p.1 = d then 1 else 0) = ds.map fun _ => 0 := List.map_congr_left fun e he => by
            rw [if_neg]; rintro q; rw [← q, h] at he; exact h1 he
          rw [this, if_pos h]
          have z : (ds.map fun _ : Dt => 0).sum = 0 := by clear ih2 hn h1 h2 this; induction ds <;> simp_all
          rw [z]; exact Nat.le_refl 1
        · rw [if_neg h]; have := ih2 h2; lia
    have hsum : (ds.map fun d => (sel (p :: L) d).length).sum = (ds.map fun d => if p.1 = d then 1 else 0).sum + (ds.map fun d => (sel L d).length).sum := by
      clear ih hn
      induction ds with
      | nil => rfl
      | cons d ds ih2 =>
        rw [List.map_cons, List.sum_cons, ih2, key d]
        simp only [List.map_cons, List.sum_cons]
        lia
    rw [hsum, List.length_cons]
    have := hs ds hn
    lia

theorem nameRows_len (a b : List Dt) : (nameRows a b).length ≤ a.length + b.length := by
  unfold nameRows
  simp only [List.length_append, List.length_zipWith, List.length_map, List.length_drop]
  lia
noncomputable def Str3 (d : Dt) : Prop := ∃ a m b, d = row3 a m b ∧ isStr a = true ∧ isStr m = true ∧ isStr b = true
theorem zw_row {as bs : List Dt} {d : Dt} (h : d ∈ List.zipWith (fun a b => row3 a (.str "R") b) as bs) : ∃ a ∈ as, ∃ b ∈ bs, d = row3 a (.str "R") b := by
  induction as generalizing bs with
  | nil => simp at h
  | cons a as ih =>
    cases bs with
    | nil => simp at h
    | cons b bs =>
      rw [List.zipWith_cons_cons, List.mem_cons] at h
      rcases h with rfl | h
      · exact ⟨a, by simp, b, by simp, rfl⟩
      · obtain ⟨x, hx, y, hy, e⟩ := ih h; exact ⟨x, by simp [hx], y, by simp [hy], e⟩
theorem nameRows_str {a b : List Dt} (ha : ∀ d ∈ a, isStr d = true) (hb : ∀ d ∈ b, isStr d = true) : ∀ d ∈ nameRows a b, Str3 d := by
  intro d hd
  rcases List.mem_append.mp hd with hd | hd
  · rcases List.mem_append.mp hd with hd | hd
    · obtain ⟨x, hx, y, hy, rfl⟩ := zw_row hd
      exact ⟨x, _, y, rfl, ha x hx, rfl, hb y hy⟩
    · obtain ⟨x, hx, rfl⟩ := List.mem_map.mp hd
      exact ⟨x, _, _, rfl, ha x (List.mem_of_mem_drop hx), rfl, rfl⟩
  · obtain ⟨x, hx, rfl⟩ := List.mem_map.mp hd
    exact ⟨x, _, _, rfl, hb x (List.mem_of_mem_drop hx), rfl, rfl⟩
theorem Str3.sort {l : List Dt} (h : ∀ d ∈ l, Str3 d) : SortOk l := .strs fun d hd => by
  obtain ⟨a, m, b, rfl, h1, h2, h3⟩ := h d hd
  refine ⟨_, rfl, by simp, fun x hx => ?_⟩
  simp only [List.mem_cons, List.not_mem_nil, or_false] at hx
  rcases hx with rfl | rfl | rfl <;> assumption

theorem turned_str {ks kp' ks' : List (Dt × Dt)} (S' : SOk kp' ks') : ∀ d ∈ turnedRows ks kp' ks', Str3 d := by
  intro d hd
  obtain ⟨e, he, rfl⟩ := List.mem_map.mp hd
  obtain ⟨p, hp, rfl⟩ := List.mem_map.mp (mem_of_filter (mem_of_filter he))
  refine nn fun hno_ => ?_
  obtain ⟨l, hl, hne, hs, _⟩ := S'.path p hp
  refine hno_ ?_
  clear hno_
  have hne' : isort l ≠ [] := fun q => hne (by have := isort_len l; rw [q] at this; exact List.length_eq_zero_iff.mp this.symm)
  refine ⟨_, _, _, rfl, ?_, rfl, rfl⟩
  rw [hl]
  exact hs _ ((isort_perm l).mem_iff.mp (firstOf_mem hne'))
theorem turned_len {ks kp' ks' : List (Dt × Dt)} (S' : SOk kp' ks') : (turnedRows ks kp' ks').length ≤ 20 := by
  unfold turnedRows
  rw [List.length_map]
  refine Nat.le_trans (List.length_filter_le _ _) (Nat.le_trans (List.length_filter_le _ _) ?_)
  rw [List.length_map]; exact S'.len

theorem onlyKV_keys (kn kn' : List (Dt × Dt)) : (onlyKV kn kn').map (·.1) = (grp (only3 kn kn')).map (·.1) := by
  unfold onlyKV
  rw [List.map_map]
  exact List.map_id' _
theorem onlyKV_get (kn kn' : List (Dt × Dt)) (d : Dt) : (dget (onlyKV kn kn') d).getD (.list []) = .list (isort (sel (only3 kn kn') d)) := by
  have hk := onlyKV_keys kn kn'
  by_cases h : d ∈ (onlyKV kn kn').map (·.1)
  · have h' := h
    rw [hk] at h'
    have hm : (d, Dt.list (isort (sel (only3 kn kn') d))) ∈ onlyKV kn kn' := List.mem_map.mpr ⟨d, h', rfl⟩
    have := dget_mem (p := (d, Dt.list (isort (sel (only3 kn kn') d)))) (by rw [hk]; exact grp_nodup _) hm
    rw [this]; rfl
  · rw [dget_none_iff.mpr h]
    rw [hk] at h
    have : sel (only3 kn kn') d = [] := by
      by_cases q : sel (only3 kn kn') d = []
      · exact q
      · exact absurd ((grp_keys _ _).mpr q) h
    rw [this]; rfl
theorem only3_id {kn kn' : List (Dt × Dt)} (N : NOk kn) : ∀ d ∈ (onlyKV kn kn').map (·.1), IsId d := by
  intro d hd
  rw [onlyKV_keys] at hd
  obtain ⟨p, hp, rfl⟩ := grp_key_of hd
  obtain ⟨q, hq, rfl⟩ := List.mem_map.mp hp
  obtain ⟨f, x, t, e⟩ := N.key q (mem_of_filter hq)
  exact ⟨t, by rw [e]; rfl⟩

theorem setAll_mem (l : List (Dt × Dt)) : ∀ p ∈ setAll l, p ∈ l := by
  induction l using snoc_ind with
  | h0 => intro p hp; exact hp
  | h1 l a ih =>
    intro p hp
    rw [setAll_snoc] at hp
    unfold dset at hp
    split at hp
    · obtain ⟨q, hq, e⟩ := List.mem_map.mp hp
      split at e
      · rename_i h; subst e; rw [h]; simp
      · subst e; exact List.mem_append_left _ (ih _ hq)
    · rcases List.mem_append.mp hp with h | h
      · exact List.mem_append_left _ (ih _ h)
      · rw [List.mem_singleton.mp h]; simp
theorem setAll_key (l : List (Dt × Dt)) : ∀ k : Dt, k ∈ (setAll l).map (·.1) ↔ k ∈ l.map (·.1) := by
  induction l using snoc_ind with
  | h0 => intro k; exact Iff.rfl
  | h1 l a ih =>
    intro k
    rw [setAll_snoc, keys_dset, List.map_append]
    split
    · rename_i h
      rw [dhas_iff, ih] at h
      rw [ih, List.mem_append]
      constructor
      · exact .inl
      · rintro (h1 | h1)
        · exact h1
        · rw [List.map_cons, List.map_nil, List.mem_singleton] at h1; rw [h1]; exact h
    · rw [List.mem_append, List.mem_append, ih]; rfl
noncomputable def ofIds (l : List Dt) : List (Dt × Dt) := ofPairs [] (l.map fun d => (d, .int 0))
theorem ofPairs_setAll (l : List (Dt × Dt)) : ofPairs [] l = setAll l := rfl
theorem ofIds_mem (l : List Dt) (d : Dt) : d ∈ (ofIds l).map (·.1) ↔ d ∈ l := by
  unfold ofIds
  rw [ofPairs_setAll, setAll_key, List.map_map]
  exact ⟨fun h => by obtain ⟨x, hx, rfl⟩ := List.mem_map.mp h; exact hx, fun h => List.mem_map.mpr ⟨d, h, rfl⟩⟩
theorem ofIds_nodup (l : List Dt) : ((ofIds l).map (·.1)).Nodup := by unfold ofIds; rw [ofPairs_setAll]; exact setAll_nodup _
theorem ofIds_len (l : List Dt) : (ofIds l).length ≤ l.length := by unfold ofIds; rw [ofPairs_setAll]; have := setAll_len (l.map fun d => (d, Dt.int 0)); rwa [List.length_map] at this

noncomputable def whosOf (l : List Dt) : List Dt := isort ((ofIds l).map (·.1))
theorem whosOf_mem (l : List Dt) (d : Dt) : d ∈ whosOf l ↔ d ∈ l := by unfold whosOf; rw [(isort_perm _).mem_iff, ofIds_mem]
theorem whosOf_nodup (l : List Dt) : (whosOf l).Nodup := by unfold whosOf; exact (isort_perm _).nodup_iff.mpr (ofIds_nodup l)

noncomputable def nameAll (kn kn' : List (Dt × Dt)) : List Dt :=
  (whosOf ((onlyKV kn kn').map (·.1) ++ (onlyKV kn' kn).map (·.1))).flatMap fun d => nameRows (isort (sel (only3 kn kn') d)) (isort (sel (only3 kn' kn) d))
noncomputable def diffRows (kn ks kn' kp' ks' : List (Dt × Dt)) : List Dt := isort (turnedRows ks kp' ks' ++ nameAll kn kn')

theorem flat_len {α β : Type} (f : α → List β) (l : List α) : (l.flatMap f).length = (l.map fun a => (f a).length).sum := List.length_flatMap
theorem flat_part {α β : Type} (f : α → List β) (l : List α) (i : Nat) : ((l.take i).flatMap f).length ≤ (l.flatMap f).length := by
  have e : l.flatMap f = (l.take i).flatMap f ++ (l.drop i).flatMap f := by
    rw [← List.flatMap_append, List.take_append_drop]
  rw [e, List.length_append]; lia

theorem nameAll_len {kn kn' : List (Dt × Dt)} (N : NOk kn) (N' : NOk kn') : (nameAll kn kn').length ≤ 40 := by
  unfold nameAll
  rw [flat_len]
  generalize hW : whosOf ((onlyKV kn kn').map (·.1) ++ (onlyKV kn' kn).map (·.1)) = W
  have hn : W.Nodup := hW ▸ whosOf_nodup _
  have h1 := sel_sum (only3 kn kn') W hn
  have h2 := sel_sum (only3 kn' kn) W hn
  have l1 := only3_len kn kn'
  have l2 := only3_len kn' kn
  have := N.len
  have := N'.len
  have hle : (W.map fun a => (nameRows (isort (sel (only3 kn kn') a)) (isort (sel (only3 kn' kn) a))).length).sum ≤ (W.map fun d => (sel (only3 kn kn') d).length).sum + (W.map fun d => (sel (only3 kn' kn) d).length).sum := by
    clear h1 h2 hn hW
    induction W with
    | nil => simp
    | cons a W ih =>
      simp only [List.map_cons, List.sum_cons]
      have := nameRows_len (isort (sel (only3 kn kn') a)) (isort (sel (only3 kn' kn) a))
      rw [isort_len, isort_len] at this
      lia
  lia

theorem sel_str {kn kn' : List (Dt × Dt)} (N : NOk kn) (d : Dt) : ∀ x ∈ isort (sel (only3 kn kn') d), isStr x = true := by
  intro x hx
  have hx := (isort_perm _).mem_iff.mp hx
  obtain ⟨p, hp, _, rfl⟩ := sel_mem hx
  exact (only3_val N p hp).1

theorem diffAll_str {kn ks kn' kp' ks' : List (Dt × Dt)} (N : NOk kn) (N' : NOk kn') (S' : SOk kp' ks') : ∀ d ∈ turnedRows ks kp' ks' ++ nameAll kn kn', Str3 d := by
  intro d hd
  rcases List.mem_append.mp hd with h | h
  · exact turned_str S' d h
  · unfold nameAll at h
    obtain ⟨w, _, h⟩ := List.mem_flatMap.mp h
    exact nameRows_str (sel_str N w) (sel_str N' w) d h

section
variable {prog : Program} {w : World} {h₀ : Heap} {sc : Scope} {F G₀ : Gh} {ρ ω : List (Str × Dt)} {k : Nat} {G G' : Gh} {s : Shared} {env : Env} {A : Around} {E : Value → Shared → Prop} {h h' : Heap} {K : Frag} {C fI fO : Addr}

theorem diff_cl (O : Outer h₀) (M : Marks h₀) (c : Cls K h₀ C fI fO nF) {f fT fN : Value} (fn : Fn h₀ f ["old", "new"] (scopeAt 8) (bodyAt 8)) (fnO : Fn h₀ (.ref fO) ["self", "other"] (methScope 1) (methBody 1))
    (gT : GVal h₀ "turned_rows" fT) (fnT : Fn h₀ fT ["old", "new"] (scopeAt 7) (bodyAt 7)) (gN : GVal h₀ "name_rows" fN) (fnN : Fn h₀ fN ["went", "came"] (scopeAt 6) (bodyAt 6))
    (kn kp ks kn' kp' ks' : List (Dt × Dt)) (N : NOk kn) (N' : NOk kn') (S : SOk kp ks) (S' : SOk kp' ks') :
    ClF prog w h₀ (k + 2) f [.inst C (tabF kn kp ks), .inst C (tabF kn' kp' ks')] (diffRows kn ks kn' kp' ks') := by
  refine ClF.of_ex fn rfl ?_
  have hsub : ∀ (a b e : List (Dt × Dt)) x d, (x, d) ∈ tabF a b e → x ∈ nF := fun a b e x d h => by
    simp only [tabF, List.mem_cons, Prod.mk.injEq, List.not_mem_nil, or_false] at h
    rcases h with ⟨rfl, _⟩ | ⟨rfl, _⟩ | ⟨rfl, _⟩ <;> decide
  refine Ex.cons (Es.swap3 (d1 := .dict (onlyKV kn kn')) (d2 := .dict (onlyKV kn' kn)) (ds := turnedRows ks kp' ks') (Ev.only c Ev.nm Ev.nm (hsub _ _ _) (only_cl O c fnO kn kp ks kn' kp' ks' N)) (Ev.only c Ev.nm Ev.nm (hsub _ _ _) (only_cl O c fnO kn' kp' ks' kn kp ks N'))
    (EvF.call gT fnT.callee (Evs.cons Ev.nm (Evs.cons Ev.nm Evs.nil)) (turned_cl O M c fnT kn kp ks kn' kp' ks' S S')) (fun env he => ?_) (Ex.cons ?_))
  · show (if _ then _ else _ : Sem (Option (List Str))) = _
    unfold Env.blockKind Env.kindOf
    rw [he]; rfl
  have hT := turned_len (ks := ks) S'
  have hA := nameAll_len N N'
  have lw : (onlyKV kn kn').length ≤ 20 := by
    have e := congrArg List.length (onlyKV_keys kn kn')
    rw [List.length_map, List.length_map] at e
    have := grp_len (only3 kn kn'); have := only3_len kn kn'; have := N.len; lia
  have lc : (onlyKV kn' kn).length ≤ 20 := by
    have e := congrArg List.length (onlyKV_keys kn' kn)
    rw [List.length_map, List.length_map] at e
    have := grp_len (only3 kn' kn); have := only3_len kn' kn; have := N'.len; lia
  have iw := only3_id (kn' := kn') N
  have ic := only3_id (kn' := kn) N'
  have gw := onlyKV_get kn kn'
  have gc := onlyKV_get kn' kn
  have hdef : nameAll kn kn' = (whosOf ((onlyKV kn kn').map (·.1) ++ (onlyKV kn' kn).map (·.1))).flatMap fun d => nameRows (isort (sel (only3 kn kn') d)) (isort (sel (only3 kn' kn) d)) := rfl
  have hstr := diffAll_str (ks := ks) N N' S'
  have lsw : ∀ d, (isort (sel (only3 kn kn') d)).length ≤ 20 := fun d => by rw [isort_len]; exact Nat.le_trans (sel_len _ _) (Nat.le_trans (only3_len _ _) N.len)
  have lsc : ∀ d, (isort (sel (only3 kn' kn) d)).length ≤ 20 := fun d => by rw [isort_len]; exact Nat.le_trans (sel_len _ _) (Nat.le_trans (only3_len _ _) N'.len)
  have hres : diffRows kn ks kn' kp' ks' = isort (turnedRows ks kp' ks' ++ nameAll kn kn') := rfl
  rw [hres]
  generalize turnedRows ks kp' ks' = T at *
  generalize nameAll kn kn' = Z at *
  subst hdef
  generalize onlyKV kn kn' = wv at *
  generalize onlyKV kn' kn = cv at *
  have hlen : (wv.map (·.1) ++ cv.map (·.1)).length ≤ 40 := by rw [List.length_append, List.length_map, List.length_map]; lia
  have hids : ∀ d ∈ wv.map (·.1) ++ cv.map (·.1), IsId d := fun d hd => (List.mem_append.mp hd).elim (iw d) (ic d)
  refine Es.for_ [("went", .dict wv), ("came", .dict cv)] (fun i => [("found", .list (T ++ ((whosOf (wv.map (·.1) ++ cv.map (·.1))).take i).flatMap fun d => nameRows (isort (sel (only3 kn kn') d)) (isort (sel (only3 kn' kn) d))))])
    (d := .list (whosOf (wv.map (·.1) ++ cv.map (·.1)))) (EvF.ev (EvF.call O.sorted (cb _ _) (Evs.cons (d := .dict (ofIds (wv.map (·.1) ++ cv.map (·.1)))) (Ev.call O.dict (ct _ _) (Evs.cons (ds := []) (d := .list _) ?_ Evs.nil) (Cl.dict_pairs O.lim (fun q hq => ?_) ?_)) Evs.nil) (ClF.sorted_dict (.ids fun d hd => hids d ((ofIds_mem _ _).mp hd)) (by have := ofIds_len (wv.map (·.1) ++ cv.map (·.1)); lia)))) (.inl rfl)
    (look_trans (look_id _) ?_) (look_one (by simp)) ?_ ?_
  · rw [List.map_map]
    generalize hV : wv.map (·.1) ++ cv.map (·.1) = V at *
    have hE : V.map ((fun p : Dt × Dt => Dt.tup [p.1, p.2]) ∘ fun d => (d, Dt.int 0)) = (V.filter fun _ => true).map fun d => Dt.tup [d, .int 0] := by rw [filter_all]; rfl
    rw [hE]
    refine EvF.ev (EvF.comp _ _ (d := .list V) ?_ (.inl rfl) (by lia) ⟨by decide, rfl, by decide, by decide⟩ fun d hd => ?_)
    · rw [← hV]
      exact EvF.ev (EvF.bin (EvF.ev (EvF.call O.list (ct _ _) (Evs.cons (d := .dict wv) Ev.nm Evs.nil) (ClF.list_dict (by lia)))) (EvF.ev (EvF.call O.list (ct _ _) (Evs.cons (d := .dict cv) Ev.nm Evs.nil) (ClF.list_dict (by lia)))) (BinF.add_list (by rw [List.length_map, List.length_map]; lia)))
    · exact ⟨_, .name, fun x d hx => by rw [one_bind hx]; rfl, rfl, fun _ => Ev.tup (ds := [_, _]) (Evs.cons Ev.nm (Evs.cons Ev.int Evs.nil)) (by simp)⟩
  · obtain ⟨d, hd, rfl⟩ := List.mem_map.mp hq
    exact (hids d hd).hk
  · rw [List.length_map]; lia
  · intro x d hx
    rw [List.lookup_cons] at hx ⊢
    split at hx
    · exact hx
    · rename_i q1
      rw [List.lookup_cons] at hx ⊢
      split at hx
      · exact hx
      · simp at hx
  · generalize hV : whosOf (wv.map (·.1) ++ cv.map (·.1)) = V at *
    intro i d hd
    have htk : V.take (i + 1) = V.take i ++ [d] := by rw [List.take_add_one, hd]; rfl
    have hmem := List.mem_of_getElem? hd
    have hidd : IsId d := hids d ((whosOf_mem _ _).mp (hV ▸ hmem))
    refine ⟨_, .name, .inr fun x d hx => by rw [one_bind hx]; rfl, fun x d hx => by rw [one_bind hx]; rfl, ?_⟩
    have hp := flat_part (fun d => nameRows (isort (sel (only3 kn kn') d)) (isort (sel (only3 kn' kn) d))) V i
    refine Ex.cons (Es.extend (es := nameRows (isort (sel (only3 kn kn') d)) (isort (sel (only3 kn' kn) d))) (Ev.call gN fnN.callee (Evs.cons (d := .list (isort (sel (only3 kn kn') d))) ?_ (Evs.cons (d := .list (isort (sel (only3 kn' kn) d))) ?_ Evs.nil)) (name_rows_cl O M fnN _ _ ?_ ?_)) ?_ ?_)
    · rw [← gw]
      exact Ev.meth Ev.nm (Evs.cons Ev.nm (Evs.cons (EvF.ev (EvF.lst (ds := []) Evs.nil (by simp))) Evs.nil)) (Mt.get hidd.hk)
    · rw [← gc]
      exact Ev.meth Ev.nm (Evs.cons Ev.nm (Evs.cons (EvF.ev (EvF.lst (ds := []) Evs.nil (by simp))) Evs.nil)) (Mt.get hidd.hk)
    · have := lsw d; lia
    · have := lsc d; lia
    · have := nameRows_len (isort (sel (only3 kn kn') d)) (isort (sel (only3 kn' kn) d))
      have := lsw d; have := lsc d
      rw [List.length_append]; lia
    · refine Ex.nil ⟨_, _, rfl, look_skip rfl, look_one ?_⟩
      rw [htk, List.flatMap_append, List.append_assoc]
      simp
  · rw [List.take_length]
    refine Ex.freeze (x := "found") rfl (fun _ _ e => nomatch e) (Ex.cons (Es.retF (EvF.call O.sorted (cb _ _) (Evs.cons Ev.nm Evs.nil) (ClF.sorted_list (Str3.sort hstr) ?_)) rfl))
    rw [List.length_append]; lia
end
end Mine
end

section
open PySem PySem.Spec PySem.Calls PyProof.Rows PySem.W
namespace Mine
open scoped Classical

/-! Part NT: rows_changed -/
theorem pl_mono : ∀ (n m : Nat) (d : Dt), n ≤ m → pl n d = true → pl m d = true := by
  intro n
  induction n with
  | zero => intro m d _ h; cases d <;> simp_all [pl]
  | succ n ih =>
    intro m d hm h
    cases m with
    | zero => lia
    | succ m => cases d <;> simp_all [pl] <;> (intro x hx; exact ih m x (by lia) (h x hx))

theorem nok_of {rows : List Row} (hz : rows.length ≤ 20) : NOk (namesKV rows) where
  nodup := setAll_nodup _
  key := fun p hp => by
    obtain ⟨r, _, rfl⟩ := List.mem_map.mp (setAll_mem _ p hp)
    exact ⟨_, _, _, rfl⟩
  val := fun p hp => by
    obtain ⟨r, _, rfl⟩ := List.mem_map.mp (setAll_mem _ p hp)
    rfl
  len := Nat.le_trans (setAll_len _) (by rw [List.length_map]; exact hz)

theorem pathsKV_get (rows : List Row) {t : Int} (h : ∃ r ∈ rows, r.who = t) : dget (pathsKV rows) (idD t) = some (.list (sel (rows.map fun r => (idD r.who, Dt.str r.path)) (idD t))) ∧ sel (rows.map fun r => (idD r.who, Dt.str r.path)) (idD t) ≠ [] := by
  obtain ⟨r, hr, rfl⟩ := h
  have hne : sel (rows.map fun r => (idD r.who, Dt.str r.path)) (idD r.who) ≠ [] := by
    intro q
    have : Dt.str r.path ∈ sel (rows.map fun r => (idD r.who, Dt.str r.path)) (idD r.who) := by
      unfold sel
      exact List.mem_map.mpr ⟨(idD r.who, .str r.path), List.mem_filter.mpr ⟨List.mem_map.mpr ⟨r, hr, rfl⟩, by simp⟩, rfl⟩
    rw [q] at this; cases this
  refine ⟨?_, hne⟩
  show dget (grp _) _ = _
  rw [grp_get, if_neg hne]

theorem sok_of {rows : List Row} (hr : ∀ r ∈ rows, RowOk r) (hz : rows.length ≤ 20) : SOk (pathsKV rows) (statesKV rows) where
  id := fun p hp => by
    obtain ⟨r, _, rfl⟩ := List.mem_map.mp (setAll_mem _ p hp)
    exact ⟨_, rfl⟩
  pl := fun p hp => by
    obtain ⟨r, h, rfl⟩ := List.mem_map.mp (setAll_mem _ p hp)
    exact pl_mono 40 60 _ (by decide) (hr r h).pl
  path := fun p hp => by
    obtain ⟨r, h, rfl⟩ := List.mem_map.mp (setAll_mem _ p hp)
    obtain ⟨h1, h2⟩ := pathsKV_get rows ⟨r, h, rfl⟩
    refine ⟨_, h1, h2, fun x hx => ?_, Nat.le_trans (sel_len _ _) (by rw [List.length_map]; exact hz)⟩
    obtain ⟨q, hq, _, rfl⟩ := sel_mem hx
    obtain ⟨r', _, rfl⟩ := List.mem_map.mp hq
    rfl
  len := Nat.le_trans (setAll_len _) (by rw [List.length_map]; exact hz)

noncomputable def rcOut : Dt → Dt
  | .tup [p, m, o] => if m = .str "R" then .tup [m, p, o] else .tup [m, p]
  | _ => .none
noncomputable def diffOf (old new : List Row) : List Dt := diffRows (namesKV old) (statesKV old) (namesKV new) (pathsKV new) (statesKV new)
noncomputable def rowsChanged (old new : List Row) : List Dt := (diffOf old new).map rcOut

theorem diffOf_str {old new : List Row} (h1 : ∀ r ∈ old, RowOk r) (h2 : ∀ r ∈ new, RowOk r) (z1 : old.length ≤ 20) (z2 : new.length ≤ 20) : ∀ d ∈ diffOf old new, Str3 d := fun d hd =>
  diffAll_str (nok_of z1) (nok_of z2) (sok_of h2 z2) d ((isort_perm _).mem_iff.mp hd)
theorem diffOf_len {old new : List Row} (h1 : ∀ r ∈ old, RowOk r) (h2 : ∀ r ∈ new, RowOk r) (z1 : old.length ≤ 20) (z2 : new.length ≤ 20) : (diffOf old new).length ≤ 60 := by
  unfold diffOf diffRows
  rw [isort_len, List.length_append]
  have := turned_len (ks := statesKV old) (sok_of h2 z2)
  have := nameAll_len (nok_of z1) (nok_of z2)
  lia

structure Funs (prog : Program) (w : World) (h₀ : Heap) (K : Frag) (C fI fO : Addr) : Prop where
  out : Outer h₀
  marks : Marks h₀
  cls : Cls K h₀ C fI fO nF
  gC : GVal h₀ "NameTable" (.ref C)
  fnI : Fn h₀ (.ref fI) ["self", "rows"] (methScope 0) (methBody 0)
  fnO : Fn h₀ (.ref fO) ["self", "other"] (methScope 1) (methBody 1)
  f6 : ∃ f, GVal h₀ "name_rows" f ∧ Fn h₀ f ["went", "came"] (scopeAt 6) (bodyAt 6)
  f7 : ∃ f, GVal h₀ "turned_rows" f ∧ Fn h₀ f ["old", "new"] (scopeAt 7) (bodyAt 7)
  f8 : ∃ f, GVal h₀ "diff_rows" f ∧ Fn h₀ f ["old", "new"] (scopeAt 8) (bodyAt 8)
  f9 : ∃ f, GVal h₀ "rows_changed" f ∧ Fn h₀ f ["old", "new"] (scopeAt 9) (bodyAt 9)
  f11 : ∃ f, GVal h₀ "_law_pick" f ∧ Fn h₀ f ["one", "many"] (scopeAt 11) (bodyAt 11)
  f12 : ∃ f, GVal h₀ "_law_names" f ∧ Fn h₀ f ["world", "folder", "path"] (scopeAt 12) (bodyAt 12)
  f13 : ∃ f, GVal h₀ "_law_rows" f ∧ Fn h₀ f ["world"] (scopeAt 13) (bodyAt 13)
  f14 : ∃ f, GVal h₀ "_law_state" f ∧ Fn h₀ f ["world", "thing"] (scopeAt 14) (bodyAt 14)
  f15 : ∃ f, GVal h₀ "_law_made" f ∧ Fn h₀ f ["world", "folder", "name", "is_folder"] (scopeAt 15) (bodyAt 15)
  f16 : ∃ f, GVal h₀ "_law_below" f ∧ Fn h₀ f ["world", "folder"] (scopeAt 16) (bodyAt 16)
  f17 : ∃ f, GVal h₀ "_law_taken" f ∧ Fn h₀ f ["world", "folder", "name", "thing"] (scopeAt 17) (bodyAt 17)
  f18 : ∃ f, GVal h₀ "_law_deed" f ∧ Fn h₀ f ["world", "one"] (scopeAt 18) (bodyAt 18)
  f19 : ∃ f, GVal h₀ "_law_told" f ∧ Fn h₀ f ["rows"] (scopeAt 19) (bodyAt 19)
  f20 : ∃ f, GVal h₀ "_law_due" f ∧ Fn h₀ f ["old", "new"] (scopeAt 20) (bodyAt 20)

section
variable {prog : Program} {w : World} {h₀ : Heap} {sc : Scope} {F G₀ : Gh} {ρ ω : List (Str × Dt)} {k : Nat} {G G' : Gh} {s : Shared} {env : Env} {A : Around} {E : Value → Shared → Prop} {h h' : Heap} {K : Frag} {C fI fO : Addr}

theorem changed_cl (U : Funs prog w h₀ K C fI fO) {f : Value} (fn : Fn h₀ f ["old", "new"] (scopeAt 9) (bodyAt 9)) (old new : List Row) (h1 : ∀ r ∈ old, RowOk r) (h2 : ∀ r ∈ new, RowOk r) (z1 : old.length ≤ 20) (z2 : new.length ≤ 20) :
    ClF prog w h₀ (k + 3) f [.list (old.map Row.dt), .list (new.map Row.dt)] (rowsChanged old new) := by
  refine ClF.of_ex fn rfl ?_
  show Ex prog w h₀ (k + 2) (scopeAt 9) [("old", .list (old.map Row.dt)), ("new", .list (new.map Row.dt))] [] (bodyAt 9) _
  obtain ⟨fT, gT, fnT⟩ := U.f7
  obtain ⟨fN, gN, fnN⟩ := U.f6
  obtain ⟨fD, gD, fnD⟩ := U.f8
  obtain ⟨t4, g4⟩ := U.marks.moved
  have hs := diffOf_str h1 h2 z1 z2
  have hl := diffOf_len h1 h2 z1 z2
  refine Ex.cons (Es.assign (d := .list (diffOf old new)) (EvF.ev (EvF.call gD fnD.callee (Evs.cons (Ev.make U.cls U.gC Ev.nm (table_cl U.cls U.fnI old h1 (by lia))) (Evs.cons (Ev.make U.cls U.gC Ev.nm (table_cl U.cls U.fnI new h2 (by lia))) Evs.nil))
    (diff_cl U.out U.marks U.cls fnD U.fnO gT fnT gN fnN _ _ _ _ _ _ (nok_of z1) (nok_of z2) (sok_of h1 z1) (sok_of h2 z2)))) (Ex.cons ?_))
  show Es prog w h₀ (k + 2) (scopeAt 9) [("rows", .list (diffOf old new)), ("old", .list (old.map Row.dt)), ("new", .list (new.map Row.dt))] [] _ _
  have hE : rowsChanged old new = ((diffOf old new).filter fun _ => true).map rcOut := by rw [filter_all]; rfl
  rw [hE]
  refine Es.retF (EvF.comp _ _ Ev.nm (.inl rfl) (by lia) ⟨by decide, rfl, by decide, by decide⟩ fun d hd => ?_) rfl
  obtain ⟨a, m, b, rfl, s1, s2, s3⟩ := hs d hd
  refine ⟨_, .tup (xs := ["path", "mark", "other"]) (.cons (.cons (.cons .nil))) rfl (by decide), zipb (by decide), rfl, fun _ => ?_⟩
  have hpl : pl 60 m = true := by cases m <;> first | rfl | (simp [isStr] at s2)
  refine Ev.ite (Tr.cmp (d := m) Ev.nm (Ev.gstr g4 (by decide +kernel) (by rfl)) (Cmp.eq hpl rfl)) (fun hb => ?_) (fun hb => ?_)
  · have : rcOut (row3 a m b) = .tup [m, a, b] := if_pos (by simpa using hb)
    rw [this]
    exact Ev.tup (ds := [_, _, _]) (Evs.cons Ev.nm (Evs.cons Ev.nm (Evs.cons Ev.nm Evs.nil))) (by simp)
  · have : rcOut (row3 a m b) = .tup [m, a] := if_neg (by simpa using hb)
    rw [this]
    exact Ev.tup (ds := [_, _]) (Evs.cons Ev.nm (Evs.cons Ev.nm Evs.nil)) (by simp)
end
end Mine
end

section
open PySem PySem.Spec PySem.Calls PyProof.Rows PySem.W
namespace Mine
open scoped Classical

/-! Part NU: pop(0), the loop of pairs -/
section
variable {prog : Program} {w : World} {h₀ : Heap} {sc : Scope} {F G₀ : Gh} {ρ ω : List (Str × Dt)} {k : Nat} {G G' : Gh} {s : Shared} {env : Env} {A : Around} {E : Value → Shared → Prop} {h h' : Heap}

theorem IsAll.tail {vs : Array Value} {d : Dt} {ds : List Dt} (i : IsAll w G vs.toList (d :: ds)) : IsAll w G (vs.eraseIdxIfInBounds 0).toList ds := by
  have hl := i.length
  obtain ⟨l⟩ := vs
  cases i with
  | cons h r =>
    unfold Array.eraseIdxIfInBounds
    rw [dif_pos (by simp)]
    simpa using r

/-- an own list changes: what else lies where -/
theorem Fs.mutAt {x : Str} {a : Addr} {d d' : Dt} (X : Fs w h₀ sc F G₀ ρ ω G h env) (hx : ω.lookup x = some d) (hat : At h env x (.ref a)) (kb : Heap.ExtBut a h h') (ho : OAt w G h' a d') :
    Fs w h₀ sc F G₀ ρ ((x, d') :: ω) G h' env ∧ ∀ y u, At h env y u → At h' env y u := by
  refine ⟨X.mut hx hat kb ho, fun y u hu => ?_⟩
  obtain ⟨a', g1, _, _, _, g5, g6⟩ := X.own x d hx
  obtain rfl := ref_inj (g1.det hat)
  exact hu.but kb g5 g6

theorem pop0_D {x : Str} {d : Dt} {ds : List Dt} {np apos ip pos : Pos} {kd : Nat} {Q : Value → Shared → Prop} (X : Fs w h₀ sc F G₀ ρ ω G s.heap env) (hω : ω.lookup x = some (.list (d :: ds))) (hz : ds.length ≤ 4000)
    (c : ∀ v h' tk, Is w G v d → Fs w h₀ sc F G₀ ρ ((x, .list ds) :: ω) G h' env → (∀ y u, At s.heap env y u → At h' env y u) → Q v { s with heap := h', toks := tk })
    (hc : autoParam ((x == ("__classdict__" : Str)) = false) aD._auto_1) (hd : autoParam ((x == ("__debug__" : Str)) = false) aD._auto_1) (hline : autoParam ((apos.endLine == pos.line) = true) aR._auto_1) :
    wpAny (model prog w) A (eval (.Call (.Attribute (.Name x np) "pop" apos) [.Constant (.int 0) kd ip] [] pos) env) Q E s := by
  obtain ⟨a, g1, g2, g3, g4, g5, g6⟩ := X.own x _ hω
  refine wpAny_Call_method1_late rfl hline (back_one rfl) (wpAny_Name (load_At X g1 hc ?_) hd)
  have g2' : LAt w G s.heap a (d :: ds) := g2
  obtain ⟨vs, n, hv, iv⟩ := g2'.obj
  have hl := iv.length
  simp only [Array.length_toList, List.length_cons] at hl
  refine ⟨"list", "list.pop", PySem.F.plainAttrs_list, PySem.F.slot_list_pop, PySem.F.type_list_pop, ⟨_, hv, rfl⟩, fun b e => by cases e; exact ⟨_, hv, rfl⟩, ?_⟩
  obtain ⟨y, hy, iy⟩ := iv.get (i := 0) (d := d) rfl
  refine PySem.P.pop_at_list (wpAny_Constant_int ⟨vs, n, 0, _, 0, y, by unfold sizeLine; lia, rfl, hv, by decide, ?_, by simpa using hy, ?_⟩)
  · unfold seqIndex?
    simp only [show ¬ ((0 : Int) < 0) by lia, if_false]
    rw [if_pos (by simp; lia)]; rfl
  · have kb : Heap.ExtBut a s.heap (s.heap.update a (Obj.mapSeq fun xs => xs.eraseIdxIfInBounds 0)) := (Heap.SameBut.update ..).extBut
    obtain ⟨X', at'⟩ := X.mutAt (d' := .list ds) hω g1 kb ⟨⟨_, _, IsL.update hv (fun xs => xs.eraseIdxIfInBounds 0), iv.tail⟩⟩
    exact c y _ _ iy X' at'

noncomputable def mkR (a b : Dt) : Dt := .tup [a, .str "R", b]
noncomputable def omW (cs ws rs : List Dt) : List (Str × Dt) := [("came", .list cs), ("went", .list ws), ("rows", .list rs)]

theorem pair_turn {a b : Dt} {as bs rs : List Dt} {np1 np2 np3 ap1 ap2 ap3 ip1 ip2 p1 p2 p3 tp sp xp : Pos} {kd1 kd2 kd3 kd4 : Nat} {Q : Flow → Shared → Prop} (ok : Ok A k) (X : Fs w h₀ sc F G₀ ρ (omW (b :: bs) (a :: as) rs) G s.heap env) (h1 : as.length ≤ 100) (h2 : bs.length ≤ 100) (h3 : rs.length ≤ 1000)
    (q : ∀ h' tk G', Fs w h₀ sc F G₀ ρ (omW bs as (rs ++ [mkR a b])) G' h' env → Q .next { s with heap := h', toks := tk })
    (l1 : (ap1.endLine == p1.line) = true) (l2 : (ap2.endLine == p2.line) = true) (l3 : (ap3.endLine == p3.line) = true) :
    wpAny (model prog w) A (execs [.Expr (.Call (.Attribute (.Name "rows" np1) "append" ap1) [.Tuple [.Call (.Attribute (.Name "went" np2) "pop" ap2) [.Constant (.int 0) kd1 ip1] [] p2, .Constant (.str "R") kd2 sp, .Call (.Attribute (.Name "came" np3) "pop" ap3) [.Constant (.int 0) kd3 ip2] [] p3] kd4 tp] [] p1) xp] env) Q E s := by
  refine wpAny_execs_cons ?_
  obtain ⟨ar, r1, r2, r3, r4, r5, r6⟩ := X.own "rows" (.list rs) rfl
  refine wpAny_Expr (wpAny_Call_method1_late rfl l1 (back_one rfl) (wpAny_Name (load_At X r1 (by decide) ?_) (by decide))) (hi := by unfold interactive; rw [X.rd.scope, X.rd.kind]; rfl)
  have r2' : LAt w G s.heap ar rs := r2
  obtain ⟨vs0, n0, hv0, iv0⟩ := r2'.obj
  refine ⟨"list", "list.append", PySem.F.plainAttrs_list, PySem.F.slot_list_append, PySem.F.type_list_append, ⟨_, hv0, rfl⟩, fun b e => by cases e; exact ⟨_, hv0, rfl⟩, ?_⟩
  refine PySem.P.append_list (wpAny_Tuple (wpAny_items_cons (pop0_D X rfl (by lia) (fun v1 h1' tk1 i1 X1 at1 => ?_) (hline := l2)) (star_cons rfl)))
  refine wpAny_items_cons (wpAny_Constant_str ?_) (star_cons rfl)
  refine wpAny_items_cons (pop0_D X1 rfl (by lia) (fun v2 h2' tk2 i2 X2 at2 => ?_) (hline := l3)) (star_cons rfl)
  refine wpAny_items_nil ?_
  refine ⟨by show 3 ≤ sizeLine; unfold sizeLine; lia, ?_⟩
  obtain ⟨ar', s1, s2, s3, s4, s5, s6⟩ := X2.own "rows" (.list rs) rfl
  have e := (at2 _ _ (at1 _ _ r1)).det s1
  cases e
  have kp := Kp.push h2' (tupObj [v1, Value.str "R" tk1, v2].toArray 0)
  have s2' : LAt w G h2' ar rs := s2
  obtain ⟨vs, n, hv, iv⟩ := s2'.obj
  have hl := iv.length
  simp only [Array.length_toList] at hl
  refine ⟨vs, n, by unfold sizeLine; lia, kp _ _ hv, ?_⟩
  refine wpAny_execs_nil ?_
  have X3 := X2.exl kp
  have iT := is_new_tup (w := w) (G := G) (h := h2') (h' := h2') (c := 0) (vs := [v1, Value.str "R" tk1, v2]) (ds := [a, .str "R", b]) (Kp.refl _) (.cons (i1.at_now (s := { s with heap := h2' }) X2.rd.inh) (.cons (.str _ _ (by decide +kernel)) (.cons (i2.at_now (s := { s with heap := h2' }) X2.rd.inh) .nil)))
  have kb : Heap.ExtBut ar (h2'.push (tupObj [v1, Value.str "R" tk1, v2].toArray 0)) ((h2'.push (tupObj [v1, Value.str "R" tk1, v2].toArray 0)).update ar (Obj.mapSeq fun xs => xs.push (.ref h2'.objs.size))) := (Heap.SameBut.update ..).extBut
  have X4 := X3.mut (d := .list rs) (d' := .list (rs ++ [mkR a b])) rfl (s1.keep2 kp) kb ⟨⟨_, _, IsL.update (kp _ _ hv) (fun xs => xs.push (.ref h2'.objs.size)), by
    rw [Array.toList_push]
    exact (iv.mono (sub_exl (X2.rd.inh.kp kp))).snoc iT⟩⟩
  refine q _ _ _ (X4.weak (look_id _) fun x d hx => ?_)
  unfold omW at hx ⊢
  simp only [List.lookup_cons] at hx ⊢
  by_cases e1 : x = ("rows" : Str)
  · subst e1; exact hx
  · by_cases e2 : x = ("went" : Str)
    · subst e2; exact hx
    · by_cases e3 : x = ("came" : Str)
      · subst e3; exact hx
      · rw [beq_eq_false_iff_ne.mpr e1, beq_eq_false_iff_ne.mpr e2, beq_eq_false_iff_ne.mpr e3] at hx
        simp at hx
end
end Mine
end

section
open PySem PySem.Spec PySem.Calls PyProof.Rows PySem.W
namespace Mine
open scoped Classical

/-! Part NV: the while loop of _law_due -/
section
variable {prog : Program} {w : World} {h₀ : Heap} {sc : Scope} {F G₀ : Gh} {ρ ω : List (Str × Dt)} {k : Nat} {G G' : Gh} {s : Shared} {env : Env} {A : Around} {E : Value → Shared → Prop} {h h' : Heap}

theorem pl_strs {l : List Dt} (h : ∀ d ∈ l, isStr d = true) : pl 60 (.list l) = true := by
  show l.all (pl 59) = true
  rw [List.all_eq_true]
  intro d hd
  have := h d hd
  cases d <;> first | rfl | (simp [isStr] at this)

theorem ne_nil_test {l : List Dt} : (!decide (Dt.list l = .list [])) = !l.isEmpty := by
  cases l <;> simp

theorem while_pairs {np1 np2 np3 ap1 ap2 ap3 ip1 ip2 p1 p2 p3 tp sp xp q1 q2 q3 q4 q5 q6 q7 p : Pos} {kd1 kd2 kd3 kd4 : Nat} {ws cs rs : List Dt} {Q : Ctl → Prop} (hw : ∀ d ∈ ws, isStr d = true) (hc : ∀ d ∈ cs, isStr d = true) (zw : ws.length ≤ 100) (zc : cs.length ≤ 100) (zr : rs.length + ws.length ≤ 1000)
    (q : Q (.next ρ (omW (cs.drop (min ws.length cs.length)) (ws.drop (min ws.length cs.length)) (rs ++ List.zipWith mkR ws cs))))
    (l1 : autoParam ((ap1.endLine == p1.line) = true) aR._auto_1) (l2 : autoParam ((ap2.endLine == p2.line) = true) aR._auto_1) (l3 : autoParam ((ap3.endLine == p3.line) = true) aR._auto_1) :
    Es prog w h₀ k sc ρ (omW cs ws rs) (.While (.BoolOp .And [.Compare (.Name "went" q1) [.NotEq] [.List [] q2] q3, .Compare (.Name "came" q4) [.NotEq] [.List [] q5] q6] q7)
      [.Expr (.Call (.Attribute (.Name "rows" np1) "append" ap1) [.Tuple [.Call (.Attribute (.Name "went" np2) "pop" ap2) [.Constant (.int 0) kd1 ip1] [] p2, .Constant (.str "R") kd2 sp, .Call (.Attribute (.Name "came" np3) "pop" ap3) [.Constant (.int 0) kd3 ip2] [] p3] kd4 tp] [] p1) xp] [] p) Q := .mk fun A F G₀ G env s E ok X => by
  refine wpAny_While (codeAny_whileLoop (fun n s' => ∃ H tk Gi ws' cs' rs', s' = { s with heap := H, toks := tk } ∧ Fs w h₀ sc F G₀ ρ (omW cs' ws' rs') Gi H env ∧ n = ws'.length ∧ (∀ d ∈ ws', isStr d = true) ∧ (∀ d ∈ cs', isStr d = true) ∧ ws'.length ≤ 100 ∧ cs'.length ≤ 100 ∧ rs'.length + ws'.length ≤ 1000 ∧
    rs' ++ List.zipWith mkR ws' cs' = rs ++ List.zipWith mkR ws cs ∧ ws'.drop (min ws'.length cs'.length) = ws.drop (min ws.length cs.length) ∧ cs'.drop (min ws'.length cs'.length) = cs.drop (min ws.length cs.length)) (fun n s' hI => ?_) ws.length
    ⟨s.heap, s.toks, G, ws, cs, rs, rfl, X, rfl, hw, hc, zw, zc, zr, rfl, rfl, rfl⟩)
  refine nn fun hno_ => ?_
  obtain ⟨H, tk, Gi, ws', cs', rs', rfl, Y, rfl, hw', hc', zw', zc', zr', e1, e2, e3⟩ := hI
  refine hno_ ?_
  clear hno_
  refine nn fun hno_ => ?_
  obtain ⟨G1, _, _, Y1⟩ := Y.freeze (x := "went") (d := .list ws') rfl (fun _ _ e => nomatch e)
  refine hno_ ?_
  clear hno_
  refine nn fun hno_ => ?_
  obtain ⟨G2, _, _, Y2⟩ := Y1.freeze (x := "came") (d := .list cs') rfl (fun _ _ e => nomatch e)
  refine hno_ ?_
  clear hno_
  have T : Tr prog w h₀ k sc (("came", .list cs') :: ("went", .list ws') :: ρ) (.BoolOp .And [.Compare (.Name "went" q1) [.NotEq] [.List [] q2] q3, .Compare (.Name "came" q4) [.NotEq] [.List [] q5] q6] q7) (!ws'.isEmpty && (!cs'.isEmpty && true)) := by
    rw [← ne_nil_test, ← ne_nil_test]
    exact Tr.bool (Ands.cons (Tr.cmp Ev.nm (EvF.ev (EvF.lst (ds := []) Evs.nil (by simp))) (Cmp.ne (pl_strs hw') (by decide))) fun _ => Ands.cons (Tr.cmp Ev.nm (EvF.ev (EvF.lst (ds := []) Evs.nil (by simp))) (Cmp.ne (pl_strs hc') (by decide))) fun _ => Ands.nil)
  refine T.go ok Y2.rd fun h1 tk1 k1 _ => ?_
  have Y' := Y.same k1
  cases ws' with
  | nil =>
    refine wpAny_execs_nil ⟨_, h1, tk1, rfl, q, rfl, Gi, ?_⟩
    simp only [List.zipWith_nil_left, List.append_nil, List.length_nil, Nat.zero_min, List.drop_zero] at e1 e2 e3
    rw [← e1, ← e2, ← e3]; exact Y'
  | cons a as =>
    cases cs' with
    | nil =>
      refine wpAny_execs_nil ⟨_, h1, tk1, rfl, q, rfl, Gi, ?_⟩
      simp only [List.zipWith_nil_right, List.append_nil, List.length_nil, Nat.min_zero, List.drop_zero] at e1 e2 e3
      rw [← e1, ← e2, ← e3]; exact Y'
    | cons b bs =>
      simp only [List.length_cons] at zw' zc' zr' e2 e3
      refine pair_turn ok Y' (by lia) (by lia) (by lia) (fun h2 tk2 G2 Y2 => ?_) l1 l2 l3
      refine ⟨as.length, by simp, h2, tk2, G2, as, bs, rs' ++ [mkR a b], rfl, Y2, rfl, fun d hd => hw' d (by simp [hd]), fun d hd => hc' d (by simp [hd]), by lia, by lia, by rw [List.length_append, List.length_singleton]; lia, ?_, ?_, ?_⟩
      · rw [← e1]; simp
      · rw [← e2, Nat.add_min_add_right, List.drop_succ_cons]
      · rw [← e3, Nat.add_min_add_right, List.drop_succ_cons]
end
end Mine
end

section
open PySem PySem.Spec PySem.Calls PyProof.Rows PySem.W
namespace Mine
open scoped Classical

/-! Part NW: _law_due -/
noncomputable def fstD : Dt → Dt
  | .tup [a, _] => a
  | _ => .none
noncomputable def sndD : Dt → Dt
  | .tup [_, b] => b
  | _ => .none
noncomputable def whoD : Dt → Dt
  | .tup [_, a, _, _] => a
  | _ => .none
noncomputable def stD3 : Dt → Dt
  | .tup [_, _, _, a] => a
  | _ => .none
noncomputable def partOf (had has : List Dt) : List Dt := isort ((had.filter fun d => !decide (fstD d ∈ has.map fstD)).map sndD)
noncomputable def mk2 (m : Str) (a : Dt) : Dt := .tup [a, .str m]
noncomputable def stOf (rows : List Row) (d : Dt) : List Dt := (((rows.map Row.dt).filter fun r => decide (whoD r = d)).map stD3).take 1
noncomputable def dueRows (went came : List Dt) : List Dt :=
  List.zipWith mkR went came ++ ((went.drop (min went.length came.length)).map (mk2 "-") ++ (came.drop (min went.length came.length)).map (mk2 "+"))
noncomputable def turnIf (has first last : List Dt) : List Dt := if !first.isEmpty && (!last.isEmpty && !decide (Dt.list first = .list last)) then [mk2 "M" (firstOf (isort (has.map sndD)))] else []
noncomputable def duePart (old new : List Row) (d : Dt) : List Dt :=
  dueRows (partOf (sel (old.map Row.ent) d) (sel (new.map Row.ent) d)) (partOf (sel (new.map Row.ent) d) (sel (old.map Row.ent) d)) ++ turnIf (sel (new.map Row.ent) d) (stOf old d) (stOf new d)
noncomputable def dueWhos (old new : List Row) : List Dt := whosOf ((old ++ new).map fun r => idD r.who)
noncomputable def dueAll (old new : List Row) : List Dt := (dueWhos old new).flatMap (duePart old new)
noncomputable def outD : Dt → Dt
  | .tup (a :: b :: r) => .tup ([b, a] ++ r)
  | _ => .none
noncomputable def lawDue (old new : List Row) : List Dt := (isort (dueAll old new)).map outD

theorem partOf_len (had has : List Dt) : (partOf had has).length ≤ had.length := by
  unfold partOf
  rw [isort_len, List.length_map]; exact List.length_filter_le _ _
theorem dueRows_len (a b : List Dt) : (dueRows a b).length ≤ a.length + b.length := by
  unfold dueRows
  simp only [List.length_append, List.length_zipWith, List.length_map, List.length_drop]
  lia
noncomputable def EntD (d : Dt) : Prop := ∃ k p, d = .tup [k, .str p] ∧ pl 60 k = true
theorem ent_ok {rows : List Row} {d x : Dt} (h : x ∈ sel (rows.map Row.ent) d) : EntD x := by
  obtain ⟨p, hp, _, rfl⟩ := sel_mem h
  obtain ⟨r, _, rfl⟩ := List.mem_map.mp hp
  exact ⟨_, _, rfl, rfl⟩
theorem partOf_str {had has : List Dt} (h : ∀ d ∈ had, EntD d) : ∀ d ∈ partOf had has, isStr d = true := by
  intro d hd
  unfold partOf at hd
  obtain ⟨x, hx, rfl⟩ := List.mem_map.mp ((isort_perm _).mem_iff.mp hd)
  obtain ⟨k, p, rfl, _⟩ := h x (mem_of_filter hx)
  rfl
noncomputable def Strs (d : Dt) : Prop := ∃ a b r, d = .tup (a :: b :: r) ∧ (∀ x ∈ a :: b :: r, isStr x = true) ∧ r.length ≤ 1
theorem zwR_row {as bs : List Dt} {d : Dt} (h : d ∈ List.zipWith mkR as bs) : ∃ a ∈ as, ∃ b ∈ bs, d = mkR a b := zw_row h
theorem dueRows_str {a b : List Dt} (ha : ∀ d ∈ a, isStr d = true) (hb : ∀ d ∈ b, isStr d = true) : ∀ d ∈ dueRows a b, Strs d := by
  intro d hd
  unfold dueRows at hd
  rcases List.mem_append.mp hd with hd | hd
  · obtain ⟨x, hx, y, hy, rfl⟩ := zwR_row hd
    refine ⟨x, .str "R", [y], rfl, fun z hz => ?_, by simp⟩
    simp only [List.mem_cons, List.not_mem_nil, or_false] at hz
    rcases hz with rfl | rfl | rfl
    · exact ha _ hx
    · rfl
    · exact hb _ hy
  · rcases List.mem_append.mp hd with hd | hd
    · obtain ⟨x, hx, rfl⟩ := List.mem_map.mp hd
      refine ⟨x, .str "-", [], rfl, fun z hz => ?_, by simp⟩
      simp only [List.mem_cons, List.not_mem_nil, or_false] at hz
      rcases hz with rfl | rfl
      · exact ha _ (List.mem_of_mem_drop hx)
      · rfl
    · obtain ⟨x, hx, rfl⟩ := List.mem_map.mp hd
      refine ⟨x, .str "+", [], rfl, fun z hz => ?_, by simp⟩
      simp only [List.mem_cons, List.not_mem_nil, or_false] at hz
      rcases hz with rfl | rfl
      · exact hb _ (List.mem_of_mem_drop hx)
      · rfl

theorem stOf_ne {rows : List Row} {d : Dt} (h : stOf rows d ≠ []) : sel (rows.map Row.ent) d ≠ [] := by
  intro q
  apply h
  unfold stOf
  have : ((rows.map Row.dt).filter fun r => decide (whoD r = d)) = [] := by
    rw [List.filter_eq_nil_iff]
    intro x hx
    obtain ⟨r, hr, rfl⟩ := List.mem_map.mp hx
    simp only [decide_eq_true_eq]
    intro e
    have hm : (Row.ent r).2 ∈ sel (rows.map Row.ent) d := by
      unfold sel
      exact List.mem_map.mpr ⟨Row.ent r, List.mem_filter.mpr ⟨List.mem_map.mpr ⟨r, hr, rfl⟩, decide_eq_true (show idD r.who = d from e)⟩, rfl⟩
    rw [q] at hm; cases hm
  rw [this]; rfl
theorem min_ok {l : List Dt} (h : ∀ x ∈ l, EntD x) (hne : l ≠ []) : firstOf (isort (l.map sndD)) ∈ l.map sndD ∧ (∀ x ∈ l.map sndD, isStr x = true) ∧ ∀ x ∈ l.map sndD, leD (firstOf (isort (l.map sndD))) x = true := by
  have hne' : isort (l.map sndD) ≠ [] := fun q => hne (by have := isort_len (l.map sndD); rw [q, List.length_map] at this; exact List.length_eq_zero_iff.mp this.symm)
  have hp := isort_perm (l.map sndD)
  refine ⟨hp.mem_iff.mp (firstOf_mem hne'), fun x hx => ?_, fun x hx => ?_⟩
  · obtain ⟨y, hy, rfl⟩ := List.mem_map.mp hx
    obtain ⟨k, p, rfl, _⟩ := h y hy
    rfl
  · have hs := isort_sorted (l.map sndD)
    have hx' := hp.mem_iff.mpr hx
    cases q : isort (l.map sndD) with
    | nil => exact absurd q hne'
    | cons a r =>
      rw [q] at hs hx'
      show leD a x = true
      rcases List.mem_cons.mp hx' with rfl | hx'
      · rcases leD_total x x with h | h <;> exact h
      · exact (List.pairwise_cons.mp hs).1 x hx'

theorem turnIf_str {has first last : List Dt} (h : ∀ x ∈ has, EntD x) (hne : last ≠ [] → has ≠ []) : ∀ d ∈ turnIf has first last, Strs d := by
  intro d hd
  unfold turnIf at hd
  split at hd
  · rename_i hc
    simp only [Bool.and_eq_true] at hc
    have hl : last ≠ [] := by intro q; subst q; simp at hc
    obtain ⟨m1, m2, _⟩ := min_ok h (hne hl)
    rw [List.mem_singleton.mp hd]
    refine ⟨_, .str "M", [], rfl, fun z hz => ?_, by simp⟩
    simp only [List.mem_cons, List.not_mem_nil, or_false] at hz
    rcases hz with rfl | rfl
    · exact m2 _ m1
    · rfl
  · cases hd
theorem turnIf_len {has first last : List Dt} (hne : last ≠ [] → has ≠ []) : (turnIf has first last).length ≤ has.length := by
  unfold turnIf
  split
  · rename_i hc
    simp only [Bool.and_eq_true] at hc
    have hl : last ≠ [] := by intro q; subst q; simp at hc
    exact List.length_pos_iff.mpr (hne hl)
  · simp

theorem duePart_str (old new : List Row) (d : Dt) : ∀ x ∈ duePart old new d, Strs x := by
  intro x hx
  unfold duePart at hx
  rcases List.mem_append.mp hx with h | h
  · exact dueRows_str (partOf_str fun _ => ent_ok) (partOf_str fun _ => ent_ok) x h
  · exact turnIf_str (fun _ => ent_ok) stOf_ne x h
theorem duePart_len (old new : List Row) (d : Dt) : (duePart old new d).length ≤ (sel (old.map Row.ent) d).length + (sel (new.map Row.ent) d).length + (sel (new.map Row.ent) d).length := by
  unfold duePart
  rw [List.length_append]
  have h1 := dueRows_len (partOf (sel (old.map Row.ent) d) (sel (new.map Row.ent) d)) (partOf (sel (new.map Row.ent) d) (sel (old.map Row.ent) d))
  have h2 := partOf_len (sel (old.map Row.ent) d) (sel (new.map Row.ent) d)
  have h3 := partOf_len (sel (new.map Row.ent) d) (sel (old.map Row.ent) d)
  have h4 := turnIf_len (first := stOf old d) (stOf_ne (rows := new) (d := d))
  lia
theorem dueAll_len {old new : List Row} (z1 : old.length ≤ 20) (z2 : new.length ≤ 20) : (dueAll old new).length ≤ 60 := by
  unfold dueAll
  rw [flat_len]
  have hn : (dueWhos old new).Nodup := whosOf_nodup _
  have h1 := sel_sum (old.map Row.ent) _ hn
  have h2 := sel_sum (new.map Row.ent) _ hn
  rw [List.length_map] at h1 h2
  generalize dueWhos old new = W at *
  have hle : (W.map fun a => (duePart old new a).length).sum ≤ (W.map fun d => (sel (old.map Row.ent) d).length).sum + (W.map fun d => (sel (new.map Row.ent) d).length).sum + (W.map fun d => (sel (new.map Row.ent) d).length).sum := by
    clear h1 h2 hn
    induction W with
    | nil => simp
    | cons a W ih =>
      simp only [List.map_cons, List.sum_cons]
      have := duePart_len old new a
      lia
  lia
theorem Strs.sort {l : List Dt} (h : ∀ d ∈ l, Strs d) : SortOk l := .strs fun d hd => by
  obtain ⟨a, b, r, rfl, h1, _⟩ := h d hd
  exact ⟨_, rfl, by simp, h1⟩
theorem dueAll_str (old new : List Row) : ∀ x ∈ dueAll old new, Strs x := by
  intro x hx
  obtain ⟨w, _, h⟩ := List.mem_flatMap.mp hx
  exact duePart_str old new w x h
end Mine
end

section
open PySem PySem.Spec PySem.Calls PyProof.Rows PySem.W
namespace Mine
open scoped Classical

/-! Part NX: _law_due, the walk -/
section
variable {prog : Program} {w : World} {h₀ : Heap} {sc : Scope} {F G₀ : Gh} {ρ ω : List (Str × Dt)} {k : Nat} {G G' : Gh} {s : Shared} {env : Env} {A : Around} {E : Value → Shared → Prop} {h h' : Heap} {K : Frag} {C fI fO : Addr}

theorem Ev.row {e : Expr} {p q : Pos} {kd : Nat} {n : Nat} {ds : List Dt} {d : Dt} (H : Ev prog w h₀ k sc ρ e (.tup ds)) (hd : ds[n]? = some d) (hz : ds.length ≤ 5000) : Ev prog w h₀ k sc ρ (.Subscript e (.Constant (.int (n : Int)) kd p) q) d :=
  Ev.sub H Ev.int (Item.tup hd hz)

theorem told_get (rows : List Row) (d : Dt) : (dget (grp (rows.map Row.ent)) d).getD (.list []) = .list (sel (rows.map Row.ent) d) := by
  rw [grp_list, grp_listOf]

theorem due_cl (U : Funs prog w h₀ K C fI fO) {f : Value} (fn : Fn h₀ f ["old", "new"] (scopeAt 20) (bodyAt 20)) (old new : List Row) (h1 : ∀ r ∈ old, RowOk r) (h2 : ∀ r ∈ new, RowOk r) (z1 : old.length ≤ 20) (z2 : new.length ≤ 20) :
    ClF prog w h₀ (k + 2) f [.list (old.map Row.dt), .list (new.map Row.dt)] (lawDue old new) := by
  refine ClF.of_ex fn rfl ?_
  show Ex prog w h₀ (k + 1) (scopeAt 20) [("old", .list (old.map Row.dt)), ("new", .list (new.map Row.dt))] [] (bodyAt 20) _
  refine nn fun hno_ => ?_
  obtain ⟨fT, gT, fnT⟩ := U.f19
  refine hno_ ?_
  clear hno_
  have O := U.out
  have hall := dueAll_str old new
  have hlen := dueAll_len z1 z2
  refine Ex.cons (Es.swap3 (d1 := .dict (grp (old.map Row.ent))) (d2 := .dict (grp (new.map Row.ent))) (ds := []) (Ev.call gT fnT.callee (Evs.cons Ev.nm Evs.nil) (told_cl O fnT old h1 (by lia))) (Ev.call gT fnT.callee (Evs.cons Ev.nm Evs.nil) (told_cl O fnT new h2 (by lia))) (EvF.lst (ds := []) Evs.nil (by simp)) (fun env he => ?_) (Ex.cons ?_))
  · show (if _ then _ else _ : Sem (Option (List Str))) = _
    unfold Env.blockKind Env.kindOf
    rw [he]; rfl
  show Es prog w h₀ (k + 1) (scopeAt 20) [("before", .dict (grp (old.map Row.ent))), ("after", .dict (grp (new.map Row.ent))), ("old", .list (old.map Row.dt)), ("new", .list (new.map Row.dt))] [("rows", .list [])] _ _
  have hwl : ((old ++ new).map fun r => idD r.who).length ≤ 40 := by rw [List.length_map, List.length_append]; lia
  have hids : ∀ d ∈ (old ++ new).map fun r => idD r.who, IsId d := fun d hd => by obtain ⟨r, _, rfl⟩ := List.mem_map.mp hd; exact ⟨_, rfl⟩
  have hdef : dueAll old new = (dueWhos old new).flatMap (duePart old new) := rfl
  have hWid : ∀ d ∈ dueWhos old new, IsId d := fun d hd => hids d ((whosOf_mem _ _).mp hd)
  refine Es.for_ [("before", .dict (grp (old.map Row.ent))), ("after", .dict (grp (new.map Row.ent))), ("old", .list (old.map Row.dt)), ("new", .list (new.map Row.dt))] (fun i => [("rows", .list (((dueWhos old new).take i).flatMap (duePart old new)))])
    (d := .list (dueWhos old new)) (EvF.ev (EvF.call O.sorted (cb _ _) (Evs.cons (d := .dict (ofIds ((old ++ new).map fun r => idD r.who))) (Ev.call O.dict (ct _ _) (Evs.cons (ds := []) (d := .list _) ?_ Evs.nil) (Cl.dict_pairs O.lim (fun q hq => ?_) ?_)) Evs.nil) (ClF.sorted_dict (.ids fun d hd => hids d ((ofIds_mem _ _).mp hd)) (by have := ofIds_len ((old ++ new).map fun r => idD r.who); lia)))) (.inl rfl)
    (look_id _) (look_one (by simp)) ?_ ?_
  · rw [List.map_map, List.map_map]
    have hE : (old ++ new).map (((fun p : Dt × Dt => Dt.tup [p.1, p.2]) ∘ fun d => (d, Dt.int 0)) ∘ fun r => idD r.who) = (((old ++ new).map Row.dt).filter fun _ => true).map fun d => Dt.tup [whoD d, .int 0] := by rw [filter_all, List.map_map]; rfl
    rw [hE]
    refine EvF.ev (EvF.comp _ _ (d := .list ((old ++ new).map Row.dt)) ?_ (.inl rfl) (by rw [List.length_map, List.length_append]; lia) ⟨by decide, rfl, by decide, by decide⟩ fun d hd => ?_)
    · rw [List.map_append]
      exact EvF.ev (EvF.bin Ev.nm Ev.nm (BinF.add_list (by rw [List.length_map, List.length_map]; lia)))
    · refine nn fun hno_ => ?_
      obtain ⟨r, _, rfl⟩ := List.mem_map.mp hd
      refine hno_ ?_
      clear hno_
      exact ⟨_, .name, fun x d hx => by rw [one_bind hx]; rfl, rfl, fun _ => Ev.tup (ds := [_, _]) (Evs.cons (Ev.row (n := 1) (ds := [.str r.path, idD r.who, idD r.folder, r.state]) Ev.nm rfl (by simp)) (Evs.cons Ev.int Evs.nil)) (by simp)⟩
  · obtain ⟨d, hd, rfl⟩ := List.mem_map.mp hq
    exact (hids d hd).hk
  · rw [List.length_map]; lia
  · intro i d hd
    have hmem := List.mem_of_getElem? hd
    have hidd : IsId d := hWid d hmem
    have htk : (dueWhos old new).take (i + 1) = (dueWhos old new).take i ++ [d] := by rw [List.take_add_one, hd]; rfl
    have hpart := flat_part (duePart old new) (dueWhos old new) (i + 1)
    rw [htk, List.flatMap_append] at hpart
    rw [← hdef, List.length_append] at hpart
    have hone : ([d].flatMap (duePart old new)) = duePart old new d := by simp
    rw [hone] at hpart
    generalize hR : ((dueWhos old new).take i).flatMap (duePart old new) = R at *
    have hRn : ((dueWhos old new).take (i + 1)).flatMap (duePart old new) = R ++ duePart old new d := by rw [htk, List.flatMap_append, hone, hR]
    obtain ⟨had, hhad⟩ : ∃ l, l = sel (old.map Row.ent) d := ⟨_, rfl⟩
    obtain ⟨has, hhas⟩ : ∃ l, l = sel (new.map Row.ent) d := ⟨_, rfl⟩
    have ehad : ∀ x ∈ had, EntD x := fun x hx => ent_ok (hhad ▸ hx)
    have ehas : ∀ x ∈ has, EntD x := fun x hx => ent_ok (hhas ▸ hx)
    have lhad : had.length ≤ 20 := by rw [hhad]; exact Nat.le_trans (sel_len _ _) (by rw [List.length_map]; exact z1)
    have lhas : has.length ≤ 20 := by rw [hhas]; exact Nat.le_trans (sel_len _ _) (by rw [List.length_map]; exact z2)
    have hP : duePart old new d = dueRows (partOf had has) (partOf has had) ++ turnIf has (stOf old d) (stOf new d) := by rw [hhad, hhas]; rfl
    have hmin : stOf new d ≠ [] → has ≠ [] := by rw [hhas]; exact stOf_ne
    refine ⟨_, .name, .inl ⟨_, _, rfl, rfl⟩, fun x d hx => by rw [one_bind hx]; rfl, ?_⟩
    show Ex prog w h₀ (k + 1) (scopeAt 20) [("who", d), ("before", .dict (grp (old.map Row.ent))), ("after", .dict (grp (new.map Row.ent))), ("old", .list (old.map Row.dt)), ("new", .list (new.map Row.dt))] [("rows", .list (((dueWhos old new).take i).flatMap (duePart old new)))] _ _
    rw [hR]
    have gold := told_get old d
    have gnew := told_get new d
    rw [← hhad] at gold
    rw [← hhas] at gnew
    refine Ex.cons (Es.pair (d1 := .list had) (d2 := .list has) ?_ ?_ (fun env he => ?_) (Ex.cons ?_))
    · rw [← gold]
      exact Ev.meth Ev.nm (Evs.cons Ev.nm (Evs.cons (EvF.ev (EvF.lst (ds := []) Evs.nil (by simp))) Evs.nil)) (Mt.get hidd.hk)
    · rw [← gnew]
      exact Ev.meth Ev.nm (Evs.cons Ev.nm (Evs.cons (EvF.ev (EvF.lst (ds := []) Evs.nil (by simp))) Evs.nil)) (Mt.get hidd.hk)
    · show (if _ then _ else _ : Sem (Option (List Str))) = _
      unfold Env.blockKind Env.kindOf
      rw [he]; rfl
    have sorted1 : ∀ (a b : List Dt), (∀ x ∈ a, EntD x) → a.length ≤ 20 → SortOk ((a.filter fun d => !decide (fstD d ∈ b.map fstD)).map sndD) ∧ ((a.filter fun d => !decide (fstD d ∈ b.map fstD)).map sndD).length < 64 := fun a b ha hl => by
      refine ⟨.sAll fun x hx => ?_, ?_⟩
      · obtain ⟨y, hy, rfl⟩ := List.mem_map.mp hx
        obtain ⟨kk, p, rfl, _⟩ := ha y (mem_of_filter hy)
        rfl
      · rw [List.length_map]
        have := List.length_filter_le (fun d => !decide (fstD d ∈ b.map fstD)) a
        lia
    have plk : ∀ (b : List Dt), (∀ x ∈ b, EntD x) → ∀ x ∈ b.map fstD, pl 60 x = true := fun b hb x hx => by
      obtain ⟨y, hy, rfl⟩ := List.mem_map.mp hx
      obtain ⟨kk, p, rfl, h⟩ := hb y hy
      exact h
    have eqb : ∀ (b : List Dt), b.map fstD = (b.filter fun _ => true).map fstD := fun b => by rw [filter_all]
    refine Es.own (ds := partOf had has) (EvF.call O.sorted (cb _ _) (Evs.cons (EvF.ev (EvF.comp (fun d => !decide (fstD d ∈ has.map fstD)) sndD (d := .list had) Ev.nm (.inl rfl) (by lia) ⟨by decide, rfl, by decide, by decide⟩ fun x hx => ?_)) Evs.nil) (ClF.sorted_list (sorted1 had has ehad lhad).1 (sorted1 had has ehad lhad).2)) (Ex.cons ?_)
    · refine nn fun hno_ => ?_
      obtain ⟨kk, p, rfl, hp⟩ := ehad x hx
      refine hno_ ?_
      clear hno_
      refine ⟨_, .tup (xs := ["key", "path"]) (.cons (.cons .nil)) rfl (by decide), zipb (by decide), ?_, fun _ => Ev.nm⟩
      refine Tr.cmp (d := kk) Ev.nm (EvF.ev (ds := has.map fstD) ?_) (Cmp.notMem hp (plk has ehas))
      rw [eqb]
      refine EvF.comp _ _ (d := .list has) Ev.nm (.inl rfl) (by lia) ⟨by decide, rfl, by decide, by decide⟩ fun y hy => ?_
      refine nn fun hno_ => ?_
      obtain ⟨kk', p', rfl, _⟩ := ehas y hy
      refine hno_ ?_
      clear hno_
      exact ⟨_, .tup (xs := ["other", "where"]) (.cons (.cons .nil)) rfl (by decide), zipb (by decide), rfl, fun _ => Ev.nm⟩
    refine Es.own (ds := partOf has had) (EvF.call O.sorted (cb _ _) (Evs.cons (EvF.ev (EvF.comp (fun d => !decide (fstD d ∈ had.map fstD)) sndD (d := .list has) Ev.nm (.inl rfl) (by lia) ⟨by decide, rfl, by decide, by decide⟩ fun x hx => ?_)) Evs.nil) (ClF.sorted_list (sorted1 has had ehas lhas).1 (sorted1 has had ehas lhas).2)) (Ex.cons ?_)
    · obtain ⟨kk, p, rfl, hp⟩ := ehas x hx
      refine ⟨_, .tup (xs := ["key", "path"]) (.cons (.cons .nil)) rfl (by decide), zipb (by decide), ?_, fun _ => Ev.nm⟩
      refine Tr.cmp (d := kk) Ev.nm (EvF.ev (ds := had.map fstD) ?_) (Cmp.notMem hp (plk had ehad))
      rw [eqb]
      refine EvF.comp _ _ (d := .list had) Ev.nm (.inl rfl) (by lia) ⟨by decide, rfl, by decide, by decide⟩ fun y hy => ?_
      refine nn fun hno_ => ?_
      obtain ⟨kk', p', rfl, _⟩ := ehad y hy
      refine hno_ ?_
      clear hno_
      exact ⟨_, .tup (xs := ["other", "where"]) (.cons (.cons .nil)) rfl (by decide), zipb (by decide), rfl, fun _ => Ev.nm⟩
    have sw := partOf_str (has := has) ehad
    have scm := partOf_str (has := had) ehas
    have lw : (partOf had has).length ≤ 20 := Nat.le_trans (partOf_len _ _) lhad
    have lc : (partOf has had).length ≤ 20 := Nat.le_trans (partOf_len _ _) lhas
    generalize partOf had has = ws at *
    generalize partOf has had = cs at *
    refine while_pairs sw scm (by lia) (by lia) (by lia) ?_
    generalize hm : min ws.length cs.length = m at *
    refine Ex.freeze (x := "went") (d := .list (ws.drop m)) rfl (fun _ _ e => nomatch e) (Ex.freeze (x := "came") (d := .list (cs.drop m)) rfl (fun _ _ e => nomatch e) ?_)
    show Ex prog w h₀ (k + 1) (scopeAt 20) [("came", .list (cs.drop m)), ("went", .list (ws.drop m)), ("has", .list has), ("had", .list had), ("who", d), ("before", .dict (grp (old.map Row.ent))), ("after", .dict (grp (new.map Row.ent))), ("old", .list (old.map Row.dt)), ("new", .list (new.map Row.dt))] [("rows", .list (R ++ List.zipWith mkR ws cs))] _ _
    have ld1 : (ws.drop m).length ≤ 20 := by rw [List.length_drop]; lia
    have ld2 : (cs.drop m).length ≤ 20 := by rw [List.length_drop]; lia
    have hdr : dueRows ws cs = List.zipWith mkR ws cs ++ ((((ws.drop m).filter fun _ => true).map (mk2 "-")) ++ (((cs.drop m).filter fun _ => true).map (mk2 "+"))) := by
      rw [filter_all, filter_all]; unfold dueRows; rw [hm]
    have hRd : R ++ dueRows ws cs = (R ++ List.zipWith mkR ws cs) ++ ((((ws.drop m).filter fun _ => true).map (mk2 "-")) ++ (((cs.drop m).filter fun _ => true).map (mk2 "+"))) := by rw [hdr, List.append_assoc]
    have lDR : (R ++ dueRows ws cs).length ≤ 60 := by rw [hP] at hpart; rw [List.length_append] at hpart ⊢; lia
    refine Ex.cons (Es.extend (es := (((ws.drop m).filter fun _ => true).map (mk2 "-")) ++ (((cs.drop m).filter fun _ => true).map (mk2 "+"))) (EvF.ev (EvF.bin (EvF.ev (EvF.comp _ (mk2 "-") Ev.nm (.inl rfl) (by lia) ⟨by decide, rfl, by decide, by decide⟩ fun x hx => ?_)) (EvF.ev (EvF.comp _ (mk2 "+") Ev.nm (.inl rfl) (by lia) ⟨by decide, rfl, by decide, by decide⟩ fun x hx => ?_)) (BinF.add_list ?_))) ?_ ?_)
    · exact ⟨_, .name, fun x d hx => by rw [one_bind hx]; rfl, rfl, fun _ => Ev.tup (ds := [_, _]) (Evs.cons Ev.nm (Evs.cons Ev.str Evs.nil)) (by simp)⟩
    · exact ⟨_, .name, fun x d hx => by rw [one_bind hx]; rfl, rfl, fun _ => Ev.tup (ds := [_, _]) (Evs.cons Ev.nm (Evs.cons Ev.str Evs.nil)) (by simp)⟩
    · rw [filter_all, filter_all, List.length_map, List.length_map]; lia
    · have := congrArg List.length hRd
      rw [List.length_append (as := R ++ List.zipWith mkR ws cs)] at this
      lia
    rw [← hRd]
    clear hRd hdr
    have plSt : ∀ (rows : List Row), (∀ r ∈ rows, RowOk r) → pl 60 (.list (stOf rows d)) = true := fun rows hr => by
      show (stOf rows d).all (pl 59) = true
      rw [List.all_eq_true]
      intro x hx
      obtain ⟨y, hy, rfl⟩ := List.mem_map.mp (List.mem_of_mem_take hx)
      obtain ⟨r, hr', rfl⟩ := List.mem_map.mp (mem_of_filter hy)
      exact pl_mono 40 59 _ (by decide) (hr r hr').pl
    have pld : pl 60 d = true := by obtain ⟨t, rfl⟩ := hidd; rfl
    refine Ex.cons (Es.assign (d := .list (stOf old d)) (EvF.ev (EvF.slice (lo := none) (hi := some _) (dl := .none) (dh := .int (1 : Nat)) (l := none) (u := some 1) (ds := (((old.map Row.dt).filter fun r => decide (whoD r = d)).map stD3)) (EvF.ev (EvF.comp _ _ (d := .list (old.map Row.dt)) Ev.nm (.inl rfl) (by rw [List.length_map]; lia) ⟨by decide, rfl, by decide, by decide⟩ fun x hx => ?_)) rfl Ev.int .none (.some 1) ?_)) (Ex.cons ?_))
    · obtain ⟨r, hr', rfl⟩ := List.mem_map.mp hx
      refine ⟨_, .name, fun x d hx => by rw [one_bind hx]; rfl, ?_, fun _ => ?_⟩
      · exact Tr.cmp (Ev.row (n := 1) (ds := [.str r.path, idD r.who, idD r.folder, r.state]) Ev.nm rfl (by simp)) Ev.nm (Cmp.eq rfl pld)
      · exact Ev.row (n := 3) (ds := [.str r.path, idD r.who, idD r.folder, r.state]) Ev.nm rfl (by simp)
    · rw [List.length_map]
      exact Nat.le_trans (List.length_filter_le _ _) (by rw [List.length_map]; lia)
    refine Es.assign (d := .list (stOf new d)) (EvF.ev (EvF.slice (lo := none) (hi := some _) (dl := .none) (dh := .int (1 : Nat)) (l := none) (u := some 1) (ds := (((new.map Row.dt).filter fun r => decide (whoD r = d)).map stD3)) (EvF.ev (EvF.comp _ _ (d := .list (new.map Row.dt)) Ev.nm (.inl rfl) (by rw [List.length_map]; lia) ⟨by decide, rfl, by decide, by decide⟩ fun x hx => ?_)) rfl Ev.int .none (.some 1) ?_)) (Ex.cons ?_)
    · obtain ⟨r, hr', rfl⟩ := List.mem_map.mp hx
      refine ⟨_, .name, fun x d hx => by rw [one_bind hx]; rfl, ?_, fun _ => ?_⟩
      · exact Tr.cmp (Ev.row (n := 1) (ds := [.str r.path, idD r.who, idD r.folder, r.state]) Ev.nm rfl (by simp)) Ev.nm (Cmp.eq rfl pld)
      · exact Ev.row (n := 3) (ds := [.str r.path, idD r.who, idD r.folder, r.state]) Ev.nm rfl (by simp)
    · rw [List.length_map]
      exact Nat.le_trans (List.length_filter_le _ _) (by rw [List.length_map]; lia)
    have pf := plSt old h1
    have pn := plSt new h2
    generalize stOf old d = st1 at *
    generalize stOf new d = st2 at *
    have back : ∀ x e, List.lookup x [(("before" : Str), Dt.dict (grp (old.map Row.ent))), ("after", .dict (grp (new.map Row.ent))), ("old", .list (old.map Row.dt)), ("new", .list (new.map Row.dt))] = some e →
        List.lookup x [(("last" : Str), Dt.list st2), ("first", .list st1), ("came", .list (cs.drop m)), ("went", .list (ws.drop m)), ("has", .list has), ("had", .list had), ("who", d), ("before", .dict (grp (old.map Row.ent))), ("after", .dict (grp (new.map Row.ent))), ("old", .list (old.map Row.dt)), ("new", .list (new.map Row.dt))] = some e :=
      look_trans (look_skip rfl) (look_trans (look_skip rfl) (look_trans (look_skip rfl) (look_trans (look_skip rfl) (look_trans (look_skip rfl) (look_trans (look_skip rfl) (look_skip rfl))))))
    refine Es.ite (Tr.bool (Ands.cons (Tr.cmp (d := .list st1) Ev.nm (EvF.ev (EvF.lst (ds := []) Evs.nil (by simp))) (Cmp.ne pf (by decide))) fun _ => Ands.cons (Tr.cmp (d := .list st2) Ev.nm (EvF.ev (EvF.lst (ds := []) Evs.nil (by simp))) (Cmp.ne pn (by decide))) fun _ => Ands.cons (Tr.cmp (d := .list st1) (e := .list st2) Ev.nm Ev.nm (Cmp.ne pf pn)) fun _ => Ands.nil)) (fun hb => Ex.cons ?_) (fun hb => Ex.nil (Ex.nil ?_))
    · rw [ne_nil_test, ne_nil_test, Bool.and_true] at hb
      have hT : turnIf has st1 st2 = [mk2 "M" (firstOf (isort (has.map sndD)))] := if_pos hb
      have hne : has ≠ [] := hmin (by
        intro q; subst q; simp at hb)
      obtain ⟨m1, m2, m3⟩ := min_ok ehas hne
      refine Es.append (d := mk2 "M" (firstOf (isort (has.map sndD)))) (Ev.tup (ds := [_, _]) (Evs.cons (Ev.call O.min (cb _ _) (Evs.cons (d := .list (has.map sndD)) ?_ Evs.nil) (Cl.min_strs m1 m2 m3 (by rw [List.length_map]; lia))) (Evs.cons Ev.str Evs.nil)) (by simp)) (ds := R ++ dueRows ws cs) (by lia) (Ex.nil (Ex.nil ⟨_, _, rfl, back, look_one ?_⟩))
      · have eq2 : has.map sndD = (has.filter fun _ => true).map sndD := by rw [filter_all]
        rw [eq2]
        refine EvF.ev (EvF.comp _ _ (d := .list has) Ev.nm (.inl rfl) (by lia) ⟨by decide, rfl, by decide, by decide⟩ fun y hy => ?_)
        refine nn fun hno_ => ?_
        obtain ⟨kk', p', rfl, _⟩ := ehas y hy
        refine hno_ ?_
        clear hno_
        exact ⟨_, .tup (xs := ["key", "path"]) (.cons (.cons .nil)) rfl (by decide), zipb (by decide), rfl, fun _ => Ev.nm⟩
      · rw [hRn, hP, hT, List.append_assoc]
    · rw [ne_nil_test, ne_nil_test, Bool.and_true] at hb
      have hT : turnIf has st1 st2 = [] := if_neg (by rw [hb]; decide)
      refine ⟨_, _, rfl, back, look_one ?_⟩
      rw [hRn, hP, hT, List.append_nil]
  · rw [List.take_length, ← hdef]
    have hE : lawDue old new = ((isort (dueAll old new)).filter fun _ => true).map outD := by rw [filter_all]; rfl
    rw [hE]
    generalize dueAll old new = D at *
    refine Ex.freeze (x := "rows") rfl (fun _ _ e => nomatch e) (Ex.cons (Es.retF (EvF.comp _ _ (EvF.ev (EvF.call O.sorted (cb _ _) (Evs.cons Ev.nm Evs.nil) (ClF.sorted_list (Strs.sort hall) (by lia)))) (.inl rfl) (by rw [isort_len]; lia) ⟨by decide, rfl, by decide, by decide⟩ fun d hd => ?_) rfl))
    refine nn fun hno_ => ?_
    obtain ⟨a, b, r, rfl, _, hr⟩ := hall d ((isort_perm _).mem_iff.mp hd)
    refine hno_ ?_
    clear hno_
    refine ⟨_, .name, fun x d hx => by rw [one_bind hx]; rfl, rfl, fun _ => ?_⟩
    have hl : (a :: b :: r).length ≤ 3 := by simp only [List.length_cons]; lia
    exact Ev.bin (Ev.tup (ds := [b, a]) (Evs.cons (Ev.row (n := 1) (ds := a :: b :: r) Ev.nm rfl (by lia)) (Evs.cons (Ev.row (n := 0) (ds := a :: b :: r) Ev.nm rfl (by lia)) Evs.nil)) (by simp)) (Ev.slice_tup (n := 2) (ds := a :: b :: r) Ev.nm Ev.int (by decide) (by simp) (by lia)) (Bin.add_tup (a := [b, a]) (b := r) (by simp; lia))
end
end Mine
end

section
open PySem PySem.Spec PySem.Calls PyProof.Rows PySem.W
namespace Mine
open scoped Classical

/-! Part PA: the world's objects -/
inductive FE (w : World) : List DictEntry → List (Int × Addr) → Prop
  | nil : FE w [] []
  | cons {t : Int} {tok : Tok} {a : Addr} {es : List DictEntry} {fa : List (Int × Addr)} : FE w es fa → FE w (⟨hashD w (.int t), .int t tok, .ref a⟩ :: es) ((t, a) :: fa)

noncomputable def aset {α β : Type} [BEq α] [DecidableEq α] (l : List (α × β)) (k : α) (v : β) : List (α × β) := if (l.lookup k).isSome then l.map (fun p => if p.1 = k then (p.1, v) else p) else l ++ [(k, v)]
noncomputable def adel {α β : Type} [DecidableEq α] (l : List (α × β)) (k : α) : List (α × β) := l.filter fun p => !decide (p.1 = k)

section
variable {α β : Type} [BEq α] [LawfulBEq α] [DecidableEq α]
theorem look_map (l : List (α × β)) (k x : α) (v : β) : (l.map (fun p => if p.1 = k then (p.1, v) else p)).lookup x = (l.lookup x).map fun y => if x = k then v else y := by
  induction l with
  | nil => rfl
  | cons p r ih =>
    obtain ⟨a, b⟩ := p
    rw [List.map_cons]
    have e0 : (if (a, b).1 = k then ((a, b).1, v) else (a, b)) = (a, if a = k then v else b) := by
      by_cases hk : a = k
      · simp [hk]
      · simp [hk]
    rw [e0, List.lookup_cons, List.lookup_cons]
    by_cases hx : x = a
    · subst hx
      simp
    · rw [beq_eq_false_iff_ne.mpr hx]
      exact ih
theorem look_append (l : List (α × β)) (k x : α) (v : β) : (l ++ [(k, v)]).lookup x = (l.lookup x).or (if x = k then some v else none) := by
  rw [List.lookup_append]
  congr 1
  rw [List.lookup_cons]
  by_cases h : x = k
  · subst h; simp
  · rw [beq_eq_false_iff_ne.mpr h, if_neg h]; rfl
theorem look_aset (l : List (α × β)) (k x : α) (v : β) : (aset l k v).lookup x = if x = k then some v else l.lookup x := by
  unfold aset
  split
  · rename_i h
    rw [look_map]
    by_cases hx : x = k
    · subst hx
      rw [if_pos rfl]
      obtain ⟨y, hy⟩ := Option.isSome_iff_exists.mp h
      rw [hy]; simp
    · rw [if_neg hx]
      cases l.lookup x <;> simp [hx]
  · rename_i h
    rw [look_append]
    by_cases hx : x = k
    · subst hx
      rw [if_pos rfl]
      have : l.lookup x = none := by cases q : l.lookup x with | none => rfl | some y => rw [q] at h; simp at h
      rw [this]; simp
    · rw [if_neg hx, if_neg hx]; simp
theorem look_adel (l : List (α × β)) (k x : α) : (adel l k).lookup x = if x = k then none else l.lookup x := by
  unfold adel
  induction l with
  | nil => simp
  | cons p r ih =>
    obtain ⟨a, b⟩ := p
    rw [List.filter_cons]
    by_cases ha : a = k
    · subst ha
      simp only [decide_true, Bool.not_true, Bool.false_eq_true, if_false]
      rw [ih, List.lookup_cons]
      by_cases hx : x = a
      · subst hx; simp
      · rw [if_neg hx, if_neg hx, beq_eq_false_iff_ne.mpr hx]
    · simp only [ha, decide_false, Bool.not_false, if_true]
      rw [List.lookup_cons, List.lookup_cons]
      by_cases hx : x = a
      · subst hx; simp [ha]
      · rw [beq_eq_false_iff_ne.mpr hx]; exact ih
theorem keys_aset_some {l : List (α × β)} {k : α} {v : β} (h : (l.lookup k).isSome = true) : (aset l k v).map (·.1) = l.map (·.1) := by
  unfold aset
  rw [if_pos h, List.map_map]
  apply List.map_congr_left
  intro p _
  show (if p.1 = k then (p.1, v) else p).1 = p.1
  split <;> rfl
theorem keys_aset_none {l : List (α × β)} {k : α} {v : β} (h : l.lookup k = none) : aset l k v = l ++ [(k, v)] := by
  unfold aset
  rw [h]; rfl
theorem look_none_iff {l : List (α × β)} {k : α} : l.lookup k = none ↔ k ∉ l.map (·.1) := by
  induction l with
  | nil => simp
  | cons p r ih =>
    obtain ⟨a, b⟩ := p
    rw [List.lookup_cons]
    by_cases h : k = a
    · subst h; simp
    · rw [beq_eq_false_iff_ne.mpr h]; simp [ih, h]
theorem nodup_aset {l : List (α × β)} (hn : (l.map (·.1)).Nodup) (k : α) (v : β) : ((aset l k v).map (·.1)).Nodup := by
  cases h : l.lookup k with
  | some y => rw [keys_aset_some (by rw [h]; rfl)]; exact hn
  | none =>
    rw [keys_aset_none h, List.map_append, List.nodup_append]
    refine ⟨hn, by simp, fun a ha b hb => ?_⟩
    rw [List.map_cons, List.map_nil, List.mem_singleton] at hb
    rintro rfl
    subst hb
    exact look_none_iff.mp h ha
theorem nodup_adel {l : List (α × β)} (hn : (l.map (·.1)).Nodup) (k : α) : ((adel l k).map (·.1)).Nodup :=
  List.Nodup.sublist (List.Sublist.map _ List.filter_sublist) hn
theorem aset_len (l : List (α × β)) (k : α) (v : β) : (aset l k v).length ≤ l.length + 1 := by unfold aset; split <;> simp
theorem adel_len (l : List (α × β)) (k : α) : (adel l k).length ≤ l.length := List.length_filter_le _ _
end

theorem dset_sts (l : List (Int × Int)) (k v : Int) : dset (stsD l) (.int k) (.int v) = stsD (aset l k v) := by
  unfold dset dhas aset
  rw [dget_sts]
  cases h : l.lookup k with
  | none => simp [stsD]
  | some y =>
    simp only [Option.map_some, Option.isSome_some, if_true]
    unfold stsD
    rw [List.map_map, List.map_map]
    apply List.map_congr_left
    intro p _
    show (if Dt.int p.1 = Dt.int k then _ else _) = _
    by_cases hp : p.1 = k
    · simp [hp]
    · simp [hp]
theorem dset_dir (l : List (Str × Int)) (k : Str) (v : Int) : dset (dirD l) (.str k) (.int v) = dirD (aset l k v) := by
  unfold dset dhas aset
  rw [dget_dir]
  cases h : l.lookup k with
  | none => simp [dirD]
  | some y =>
    simp only [Option.map_some, Option.isSome_some, if_true]
    unfold dirD
    rw [List.map_map, List.map_map]
    apply List.map_congr_left
    intro p _
    show (if Dt.str p.1 = Dt.str k then _ else _) = _
    by_cases hp : p.1 = k
    · simp [hp]
    · simp [hp]
theorem ddel_dir (l : List (Str × Int)) (k : Str) : ddel (dirD l) (.str k) = dirD (adel l k) := by
  unfold ddel dirD adel
  rw [List.filter_map]
  congr 1
  apply List.filter_congr
  intro p _
  simp
noncomputable abbrev nG : Gh := fun _ => none
theorem sub_nG (G : Gh) : Sub nG G := fun _ _ e => nomatch e

structure WR (w : World) (R : Gh) (af st : Addr) (fa : List (Int × Addr)) (W : Wd) : Prop where
  fol : ∃ es c, R af = some (dicObj es c) ∧ FE w es.toList fa
  sts : ∃ es c, R st = some (dicObj es c) ∧ IsEnts w nG es.toList (stsD W.sts)
  keys : fa.map (·.1) = W.fol.map (·.1)
  dirs : ∀ t a l, (t, a) ∈ fa → W.fol.lookup t = some l → ∃ es c, R a = some (dicObj es c) ∧ IsEnts w nG es.toList (dirD l)
  inj : (fa.map (·.2)).Nodup
  off : af ∉ fa.map (·.2) ∧ st ∉ fa.map (·.2) ∧ af ≠ st
  sys : af ≠ sysModules ∧ st ≠ sysModules ∧ sysModules ∉ fa.map (·.2)
  nodF : (W.fol.map (·.1)).Nodup
  nodS : (W.sts.map (·.1)).Nodup
  nodD : ∀ t l, W.fol.lookup t = some l → (l.map (·.1)).Nodup
  all : ∀ b o, R b = some o → ∃ es n, o = dicObj es n

theorem nodup_dirD {l : List (Str × Int)} (h : (l.map (·.1)).Nodup) : ((dirD l).map (·.1)).Nodup := by
  unfold dirD
  rw [List.map_map]
  have : (((fun x : Dt × Dt => x.1) ∘ fun q : Str × Int => (Dt.str q.1, Dt.int q.2))) = Dt.str ∘ fun q => q.1 := rfl
  rw [this, ← List.map_map]
  exact List.Pairwise.map _ (fun a b h q => h (by injection q)) h
theorem nodup_stsD {l : List (Int × Int)} (h : (l.map (·.1)).Nodup) : ((stsD l).map (·.1)).Nodup := by
  unfold stsD
  rw [List.map_map]
  have : (((fun x : Dt × Dt => x.1) ∘ fun q : Int × Int => (Dt.int q.1, Dt.int q.2))) = Dt.int ∘ fun q => q.1 := rfl
  rw [this, ← List.map_map]
  exact List.Pairwise.map _ (fun a b h q => h (by injection q)) h
theorem nodup_folD {l : List (Int × List (Str × Int))} (h : (l.map (·.1)).Nodup) : ((folD l).map (·.1)).Nodup := by
  unfold folD
  rw [List.map_map]
  have : (((fun x : Dt × Dt => x.1) ∘ fun q : Int × List (Str × Int) => (Dt.int q.1, Dt.dict (dirD q.2)))) = Dt.int ∘ fun q => q.1 := rfl
  rw [this, ← List.map_map]
  exact List.Pairwise.map _ (fun a b h q => h (by injection q)) h

theorem FE.ents {w : World} {T : Gh} : ∀ {es : List DictEntry} {fa : List (Int × Addr)} {fol : List (Int × List (Str × Int))}, FE w es fa → fa.map (·.1) = fol.map (·.1) →
    (∀ (i : Nat) t a l, fa[i]? = some (t, a) → fol[i]? = some (t, l) → Is w T (.ref a) (.dict (dirD l))) → IsEnts w T es (folD fol)
  | _, _, [], .nil, _, _ => .nil
  | _, _, _ :: _, .nil, hk, _ => by simp at hk
  | _, _, [], .cons _, hk, _ => by simp at hk
  | _, _, (t', l) :: fol, .cons (t := t) (tok := tok) (a := a) (es := es) (fa := fa) r, hk, hd => by
    simp only [List.map_cons, List.cons.injEq] at hk
    obtain ⟨rfl, hk⟩ := hk
    refine .cons rfl rfl (.int _ _) (hd 0 t a l rfl rfl) (r.ents hk fun i t' a' l' h1 h2 => hd (i + 1) t' a' l' h1 h2)

theorem WR.ents {w : World} {R T : Gh} {af st : Addr} {fa : List (Int × Addr)} {W : Wd} (x : WR w R af st fa W) (hR : Sub R T) {es : List DictEntry} (h : FE w es fa) : IsEnts w T es (folD W.fol) := by
  refine h.ents x.keys fun i t a l h1 h2 => ?_
  have hl : W.fol.lookup t = some l := look_nodup x.nodF (List.mem_of_getElem? h2)
  obtain ⟨des, c, hd, ie⟩ := x.dirs t a l (List.mem_of_getElem? h1) hl
  refine .dict (hR _ _ hd) ?_ (ie.mono (sub_nG _)) (nodup_dirD (x.nodD t l hl))
  rintro rfl
  exact x.sys.2.2 (List.mem_map.mpr ⟨_, List.mem_of_getElem? h1, rfl⟩)

theorem WR.is {w : World} {R T : Gh} {h : Heap} {aw af st : Addr} {fa : List (Int × Addr)} {W : Wd} {o : Obj} (x : WR w R af st fa W) (hR : Sub R T) (ht : TopO w h aw af st W.last) (ho : h.get? aw = some o) (hT : T aw = some o) : Is w T (.ref aw) W.dt := by
  refine nn fun hno_ => ?_
  obtain ⟨ns, es, c, t1, t2, t3, t4, h1, h2⟩ := ht
  refine hno_ ?_
  clear hno_
  rw [ho] at h1; cases h1
  obtain ⟨fes, fc, f1, f2⟩ := x.fol
  obtain ⟨ses, scc, s1, s2⟩ := x.sts
  refine .dict hT ns ?_ (by show ([Dt.str "folders", .str "states", .str "last"] : List Dt).Nodup; rw [List.nodup_cons, List.nodup_cons]; simp only [List.mem_cons, List.not_mem_nil, or_false, not_or]; refine ⟨⟨?_, ?_⟩, ?_, by simp⟩ <;> (intro e; injection e with e; revert e; decide))
  rw [h2]
  exact .cons rfl rfl (.str _ _ (by decide +kernel)) (.dict (hR _ _ f1) x.sys.1 (x.ents hR f2) (nodup_folD x.nodF)) (.cons rfl rfl (.str _ _ (by decide +kernel)) (.dict (hR _ _ s1) x.sys.2.1 (s2.mono (sub_nG _)) (nodup_stsD x.nodS))
    (.cons rfl rfl (.str _ _ (by decide +kernel)) (.int _ _) .nil))
end Mine
end

section
open PySem PySem.Spec PySem.Calls PyProof.Rows PySem.W
namespace Mine
open scoped Classical

/-! Part PB: a dict's items to the letter -/
section
variable {prog : Program} {w : World} {A : Around} {E : Value → Shared → Prop} {s : Shared} {G : Gh} {a : Addr} {key : Value} {k : Dt} {kvs : List (Dt × Dt)} {es : Array DictEntry} {n i : Nat} {e : DictEntry}

theorem dictGetV {Q : Option Value → Shared → Prop} (gh : InH G s.heap) (hA : A.units + 64 < cLine) (ho : s.heap.get? a = some (dicObj es n)) (he : IsEnts w G es.toList kvs) (hn : (kvs.map (·.1)).Nodup) (hd : hk 6 k = true) (hkey : Is w G key k)
    (hi : dIdx kvs k = some i) (hei : es.toList[i]? = some e) (h : ∀ tk, Q (some e.val) { s with toks := tk }) : wpAny (model prog w) A (dictGet a key) Q E s := by
  unfold dictGet
  refine wpAny_holding (wpAny_bind (pyHash_D 6 hd hkey gh (by lia) fun tk => wpAny_bind (dictFind_D (s := { s with toks := tk }) gh hA hd hkey ho rfl he hn ?_)))
  rw [hi]
  refine wpAny_bind (wpAny_dictEntries (s := { s with toks := tk }) ho rfl (wpAny_pure ?_))
  have h1' : es[i]? = some e := by simpa using hei
  rw [h1']
  exact h tk

theorem dictItemV {Q : Value → Shared → Prop} (gh : InH G s.heap) (hA : A.units + 100 < cLine) (ho : s.heap.get? a = some (dicObj es n)) (he : IsEnts w G es.toList kvs) (hn : (kvs.map (·.1)).Nodup) (hd : hk 6 k = true) (hkey : Is w G key k)
    (hi : dIdx kvs k = some i) (hei : es.toList[i]? = some e) (h : ∀ tk, Q e.val { s with toks := tk }) : wpAny (model prog w) A (getItem (.ref a) key) Q E s := by
  have hT : s.TypeIs (.ref a) "dict" := ⟨_, ho, rfl⟩
  unfold getItem
  refine wpAny_holding (wpAny_bind (wpAny_sequenceKey hT (by decide) ?_))
  refine wpAny_bind (wpAny_callSpecial?_slot (name := Str.ofString "__getitem__") hT slot_dict_getitem
    (wpAny_call_entry slot_dict_getitem hT entry_dict_getitem ?_ (args_dict_getitem _ _)))
  show wpAny _ _ (dictGet a key >>= _) _ _ s
  exact wpAny_bind (dictGetV gh (by show A.units + 1 + 64 < cLine; lia) ho he hn hd hkey hi hei fun tk => wpAny_pure ⟨e.val, rfl, wpAny_pure (h tk)⟩)

theorem dictSetV {v : Value} {Q : Unit → Shared → Prop} (gh : InH G s.heap) (hA : A.units + 64 < cLine) (ho : s.heap.get? a = some (dicObj es n)) (he : IsEnts w G es.toList kvs) (hn : (kvs.map (·.1)).Nodup) (hd : hk 6 k = true) (hkey : Is w G key k)
    (hsz : kvs.length ≤ 5000)
    (h : ∀ h' tk es' n', h'.get? a = some (dicObj es' n') → es'.toList = (match dIdx kvs k with | some i => es.toList.modify i (fun e => { e with val := v }) | none => es.toList ++ [⟨hashD w k, key, v⟩]) → Heap.SameBut a s.heap h' → Q () { s with heap := h', toks := tk }) :
    wpAny (model prog w) A (dictSet a key v) Q E s := by
  have hes : es.size = kvs.length := by rw [← he.length]; simp
  unfold dictSet
  refine wpAny_holding (wpAny_bind (pyHash_D 6 hd hkey gh (by lia) fun tk => ?_))
  unfold dictSetHashed
  refine wpAny_holding (wpAny_bind (dictFind_D (s := { s with toks := tk }) gh hA hd hkey ho rfl he hn ?_))
  cases hi : dIdx kvs k with
  | none =>
    rw [hi] at h
    refine wpAny_bind (wpAny_rule (wpAny_updateDictKeys (hz := by rw [sizeLine_eq]; lia) (s := { s with toks := tk }) ho rfl (h _ tk _ _ (Heap.get?_update_self _ ho rfl) ?_ (Heap.SameBut.update ..))))
    simp
  | some i =>
    rw [hi] at h
    refine wpAny_bind (wpAny_rule (wpAny_bind (wpAny_updateDict (s := { s with toks := tk }) ho rfl (wpAny_point (h _ tk _ _ (Heap.get?_update_self _ ho rfl) ?_ (Heap.SameBut.update ..))))))
    simp

theorem dictStoreV {v : Value} {Q : Unit → Shared → Prop} (gh : InH G s.heap) (hA : A.units + 100 < cLine) (ho : s.heap.get? a = some (dicObj es n)) (he : IsEnts w G es.toList kvs) (hn : (kvs.map (·.1)).Nodup) (hd : hk 6 k = true) (hkey : Is w G key k)
    (hsz : kvs.length ≤ 5000)
    (h : ∀ h' tk es' n', h'.get? a = some (dicObj es' n') → es'.toList = (match dIdx kvs k with | some i => es.toList.modify i (fun e => { e with val := v }) | none => es.toList ++ [⟨hashD w k, key, v⟩]) → Heap.SameBut a s.heap h' → Q () { s with heap := h', toks := tk }) :
    wpAny (model prog w) A (setItem (.ref a) key v) Q E s := by
  have hT : s.TypeIs (.ref a) "dict" := ⟨_, ho, rfl⟩
  unfold setItem
  refine wpAny_holding (wpAny_bind (wpAny_sequenceKey hT (by decide) ?_))
  refine wpAny_bind (wpAny_callSpecial?_slot (name := Str.ofString "__setitem__") hT slot_dict_setitem
    (wpAny_call_entry slot_dict_setitem hT entry_dict_setitem ?_ (args_dict_setitem _ _ _)))
  show wpAny _ _ (Builtin.Dict.notOrdered "__setitem__" ⟨[.ref a, key, v], []⟩ >>= _) _ _ s
  refine wpAny_bind (wpAny_notOrdered_dict hT ?_)
  show wpAny _ _ (dictSet a key v >>= _) _ _ s
  exact wpAny_bind (dictSetV gh (by show A.units + 1 + 64 < cLine; lia) ho he hn hd hkey hsz fun h' tk es' n' h1 h2 h3 => wpAny_pure ⟨.none, rfl, wpAny_pure (h h' tk es' n' h1 h2 h3)⟩)

theorem takeOutV {Q : Option DictEntry → Shared → Prop} (gh : InH G s.heap) (hA : A.units + 64 < cLine) (ho : s.heap.get? a = some (dicObj es n)) (he : IsEnts w G es.toList kvs) (hn : (kvs.map (·.1)).Nodup) (hd : hk 6 k = true) (hkey : Is w G key k)
    (hi : dIdx kvs k = some i) (hei : es.toList[i]? = some e) (hsz : kvs.length ≤ 5000)
    (h : ∀ h' tk es' n', h'.get? a = some (dicObj es' n') → es'.toList = es.toList.eraseIdx i → Heap.SameBut a s.heap h' → Q (some e) { s with heap := h', toks := tk }) : wpAny (model prog w) A (Builtin.Dict.takeOut a key) Q E s := by
  have hes : es.size = kvs.length := by rw [← he.length]; simp
  unfold Builtin.Dict.takeOut
  refine wpAny_holding (wpAny_bind (pyHash_D 6 hd hkey gh (by lia) fun tk => wpAny_bind (dictFind_D (s := { s with toks := tk }) gh hA hd hkey ho rfl he hn ?_)))
  rw [hi]
  have h1' : es[i]? = some e := by simpa using hei
  have hlt : i < es.size := (Array.getElem?_eq_some_iff.mp h1').1
  dsimp only
  refine wpAny_bind (wpAny_dictEntries (s := { s with toks := tk }) ho rfl ?_)
  rw [h1']
  dsimp only
  refine wpAny_bind (wpAny_updateDictKeysTo (s := { s with toks := tk }) ho rfl (wpAny_pure (h _ tk _ _ (Heap.get?_update_self _ ho rfl) ?_ (Heap.SameBut.update ..))) ?_)
  · simp only [Array.eraseIdxIfInBounds, hlt, dif_pos]
    simp
  · simp only [Array.eraseIdxIfInBounds, hlt, dif_pos, Array.size_eraseIdx]; rw [sizeLine_eq]; lia

theorem dictPopV {Q : Value → Shared → Prop} (gh : InH G s.heap) (hA : A.units + 100 < cLine) (ho : s.heap.get? a = some (dicObj es n)) (he : IsEnts w G es.toList kvs) (hn : (kvs.map (·.1)).Nodup) (hd : hk 6 k = true) (hkey : Is w G key k)
    (hi : dIdx kvs k = some i) (hei : es.toList[i]? = some e) (hsz : kvs.length ≤ 5000)
    (h : ∀ h' tk es' n', h'.get? a = some (dicObj es' n') → es'.toList = es.toList.eraseIdx i → Heap.SameBut a s.heap h' → Q e.val { s with heap := h', toks := tk }) : wpAny (model prog w) A (call (.builtin "dict.pop") [.ref a, key]) Q E s := by
  have hT : s.TypeIs (.ref a) "dict" := ⟨_, ho, rfl⟩
  refine wpAny_call_entry F.slot_dict_pop hT F.entry_dict_pop ?_ (F.args_dict_pop_2 _ _)
  have take : wpAny (model prog w) A.in1 (Builtin.Dict.takeOut a key >>= fun old => do
      if old.isNone then Builtin.Dict.missedRemoval a key
      match old, (none : Option Value) with
      | some e, _ => letGo [e.key] [e.val]; ret e.val
      | none, some x => rule "dict.pop.default"; ret x
      | none, none => rule "dict.pop.keyerror"; raiseNew (← newExc (.type "KeyError") [key])) (fun fin s' => ∃ v, fin = .done (.ret v) ∧ Q v s') E s := by
    refine wpAny_bind (takeOutV gh (by show A.units + 1 + 64 < cLine; lia) ho he hn hd hkey hi hei hsz fun h' tk es' n' h1 h2 h3 => ?_)
    simp only [Option.isNone_some, Bool.false_eq_true, if_false]
    exact wpAny_bind (wpAny_letGo (wpAny_pure ⟨_, rfl, h h' tk es' n' h1 h2 h3⟩))
  unfold Builtin.«dict.pop»
  refine wpAny_bind ?_
  unfold Builtin.Dict.keyAndDefault
  refine wpAny_bind (wpAny_notOrdered_dict hT ?_)
  show wpAny _ _ (pure (a, key, none)) _ _ s
  refine wpAny_pure ?_
  dsimp only
  refine wpAny_ite_split (fun _ => wpAny_bind (wpAny_pure ?_)) (fun _ => ?_)
  · simp only [Bool.false_eq_true, if_false]
    exact take
  · refine wpAny_bind (wpAny_dictEntries ho rfl ?_)
    have hes : es.isEmpty = false := by
      have h1' : es[i]? = some e := by simpa using hei
      have hlt : i < es.size := (Array.getElem?_eq_some_iff.mp h1').1
      cases hb : es.isEmpty with
      | false => rfl
      | true =>
        have := Array.isEmpty_iff_size_eq_zero.mp hb
        lia
    rw [hes]
    refine wpAny_bind (wpAny_pure ?_)
    rw [if_neg Bool.false_ne_true]
    exact take
end

theorem FE.snoc {w : World} : ∀ {es : List DictEntry} {fa : List (Int × Addr)} {t : Int} {tok : Tok} {a : Addr}, FE w es fa → FE w (es ++ [⟨hashD w (.int t), .int t tok, .ref a⟩]) (fa ++ [(t, a)])
  | _, _, _, _, _, .nil => .cons .nil
  | _, _, _, _, _, .cons r => .cons r.snoc
theorem FE.at {w : World} : ∀ {es : List DictEntry} {fa : List (Int × Addr)} {i : Nat} {t : Int} {a : Addr}, FE w es fa → fa[i]? = some (t, a) → ∃ e, es[i]? = some e ∧ e.val = .ref a
  | _, _, _, _, _, .nil, h => by simp at h
  | _, _, 0, _, _, .cons r, h => by simp at h; obtain ⟨rfl, rfl⟩ := h; exact ⟨_, rfl, rfl⟩
  | _, _, i + 1, _, _, .cons r, h => by simpa using r.at (i := i) (by simpa using h)
theorem FE.erase {w : World} : ∀ {es : List DictEntry} {fa : List (Int × Addr)} {i : Nat}, FE w es fa → FE w (es.eraseIdx i) (fa.eraseIdx i)
  | _, _, _, .nil => by simpa using FE.nil
  | _, _, 0, .cons r => by simpa using r
  | _, _, i + 1, .cons r => by simpa using FE.cons r.erase
theorem erase_adel {α β : Type} [DecidableEq α] : ∀ {l : List (α × β)} {i : Nat} {t : α} {a : β}, (l.map (·.1)).Nodup → l[i]? = some (t, a) → l.eraseIdx i = adel l t
  | [], _, _, _, _, h => by simp at h
  | (t', a') :: r, 0, t, a, hn, h => by
    simp only [List.getElem?_cons_zero, Option.some.injEq, Prod.mk.injEq] at h
    obtain ⟨rfl, rfl⟩ := h
    rw [List.map_cons, List.nodup_cons] at hn
    unfold adel
    rw [List.eraseIdx_cons_zero, List.filter_cons]
    simp only [decide_true, Bool.not_true, Bool.false_eq_true, if_false]
    refine (List.filter_eq_self.mpr fun p hp => ?_).symm
    simp only [Bool.not_eq_true', decide_eq_false_iff_not]
    intro e
    exact hn.1 (List.mem_map.mpr ⟨p, hp, e⟩)
  | (t', a') :: r, i + 1, t, a, hn, h => by
    rw [List.map_cons, List.nodup_cons] at hn
    rw [List.getElem?_cons_succ] at h
    have hne : t' ≠ t := by rintro rfl; exact hn.1 (List.mem_map.mpr ⟨_, List.mem_of_getElem? h, rfl⟩)
    have ih := erase_adel hn.2 h
    unfold adel at ih ⊢
    rw [List.eraseIdx_cons_succ, List.filter_cons, ih]
    simp [hne]
end Mine
end

section
open PySem PySem.Spec PySem.Calls PyProof.Rows PySem.W
namespace Mine
open scoped Classical

/-! Part PC: a frame that owns the world -/
noncomputable abbrev wD (aw af st : Addr) (last : Int) : Dt := .inst aw [("folders", .int (af : Int)), ("states", .int (st : Int)), ("last", .int last)]
noncomputable abbrev wN : Str := "world"

structure Wst (w : World) (h₀ : Heap) (sc : Scope) (F G₀ : Gh) (ρ ω : List (Str × Dt)) (G R : Gh) (h : Heap) (env : Env) (aw af st : Addr) (fa : List (Int × Addr)) (W : Wd) : Prop where
  fs : Fs w h₀ sc F G₀ ρ ((wN, wD aw af st W.last) :: ω) G h env
  o2 : Own2 F G R h ((wN, wD aw af st W.last) :: ω) env
  wr : WR w R af st fa W

/-- the world as it lies -/
structure WH (w : World) (h₀ h : Heap) (aw af st : Addr) (fa : List (Int × Addr)) (R : Gh) (W : Wd) : Prop where
  top : TopO w h aw af st W.last
  inR : InH R h
  offT : R aw = none
  wr : WR w R af st fa W
  fr0 : h₀.get? aw = none
  frR : ∀ b o, R b = some o → h₀.get? b = none
structure WStep (X : Addr → Prop) (h h' : Heap) (aw : Addr) (R R' : Gh) : Prop where
  keep : ∀ b o, b ≠ aw → R b = none → ¬ X b → h.get? b = some o → h'.get? b = some o
  new : ∀ b o, R' b = some o → (∃ o', R b = some o') ∨ h.get? b = none ∨ X b

section
variable {prog : Program} {w : World} {h₀ : Heap} {sc : Scope} {F G₀ R R' : Gh} {ρ ω ω' : List (Str × Dt)} {k : Nat} {G G' : Gh} {s : Shared} {env : Env} {A : Around} {E : Value → Shared → Prop} {h h' : Heap} {aw af st : Addr} {fa fa' : List (Int × Addr)} {W W' : Wd}

theorem At.chg {P : Addr → Prop} {y : Str} {u : Value} (hu : At h env y u) (kb : ∀ b o, ¬ P b → h.get? b = some o → h'.get? b = some o) (nL : ¬ P env.locals) (nc : ∀ y c, env.cells.lookup y = some c → ¬ P c) : At h' env y u := by
  rcases hu with ⟨g1, m', g2, g3⟩ | ⟨g1, c', g2, g3⟩
  · obtain ⟨o, es, ep, ho, r⟩ := g2
    exact .inl ⟨g1, m', ⟨o, es, ep, kb _ _ nL ho, r⟩, g3⟩
  · exact .inr ⟨g1, c', g2, let ⟨o, ho, hd⟩ := g3; ⟨o, kb _ _ (nc y c' g2) ho, hd⟩⟩

theorem Fs.chg {P : Addr → Prop} (X : Fs w h₀ sc F G₀ ρ ω G h env) (kb : ∀ b o, ¬ P b → h.get? b = some o → h'.get? b = some o) (hF : ∀ b, P b → F b = none) (hG : ∀ b, P b → G b = none) (nL : ¬ P env.locals) (nc : ∀ y c, env.cells.lookup y = some c → ¬ P c)
    (ho : ∀ y d', ω'.lookup y = some d' → ∃ d, ω.lookup y = some d ∧ ∀ a, At h env y (.ref a) → OAt w G h a d → OAt w G h' a d') : Fs w h₀ sc F G₀ ρ ω' G h' env := by
  have kF : InH F h' := fun b o e => kb b o (fun p => by rw [hF b p] at e; cases e) (X.inF b o e)
  have kG : InH G h' := fun b o e => kb b o (fun p => by rw [hG b p] at e; cases e) (X.rd.inh b o e)
  have kA : ∀ {y u}, At h env y u → At h' env y u := fun hu => hu.chg kb nL nc
  exact {
    rd := { scope := X.rd.scope, kind := X.rd.kind, glob := X.rd.glob, bi := X.rd.bi, keep := fun a o e => kF a o (X.base a o e), inh := kG, cells := X.rd.cells, names := fun x d e => let ⟨v, hv, a⟩ := X.rd.names x d e; ⟨v, hv, kA a⟩ }
    base := X.base
    inF := kF
    low := X.low
    gF := X.gF
    ns := by
      refine nn fun hno_ => ?_
      obtain ⟨m, o, es, ep, hL, r⟩ := X.ns
      refine hno_ ?_
      clear hno_
      exact ⟨m, o, es, ep, kb _ _ nL hL, r⟩
    FL := X.FL
    GL := X.GL
    cell := fun x c e => by
      obtain ⟨h1, h2, h3, v, o, ho', hd⟩ := X.cell x c e
      exact ⟨h1, h2, h3, v, o, kb _ _ (nc x c e) ho', hd⟩
    apart := X.apart
    own := fun y d' e => by
      obtain ⟨d, h1, h2⟩ := ho y d' e
      obtain ⟨a, g1, g2, g3, g4, g5, g6⟩ := X.own y d h1
      exact ⟨a, kA g1, h2 a g1 g2, g3, g4, g5, g6⟩
    oapart := fun x y d e a h1 h2 h3 h4 => by
      obtain ⟨d1, q1, _⟩ := ho x d h1
      obtain ⟨d2, q2, _⟩ := ho y e h2
      obtain ⟨b, g1, _⟩ := X.own x d1 q1
      obtain ⟨b', g1', _⟩ := X.own y d2 q2
      have e1 := (kA g1).det h3
      have e2 := (kA g1').det h4
      cases e1; cases e2
      exact X.oapart x y d1 d2 a q1 q2 g1 g1' }

theorem wD_at {G : Gh} {h : Heap} {a : Addr} {l : Int} (x : OAt w G h a (wD aw af st l)) : a = aw ∧ TopO w h aw af st l := by
  have q := IAt.of3 x
  exact ⟨q.1, q.1 ▸ q.2⟩
theorem wD_of {G : Gh} {h : Heap} {l : Int} (x : TopO w h aw af st l) : OAt w G h aw (wD aw af st l) :=
  IAt.top (af := (af : Int)) (st := (st : Int)) rfl rfl x

structure TopIs (w : World) (F G R : Gh) (h : Heap) (env : Env) (aw af st : Addr) (l : Int) : Prop where
  hat : At h env wN (.ref aw)
  o : TopO w h aw af st l
  g : G aw = none
  f : F aw = none
  nl : aw ≠ env.locals
  nc : ∀ y c, env.cells.lookup y = some c → aw ≠ c
  r : R aw = none
theorem Wst.top (S : Wst w h₀ sc F G₀ ρ ω G R h env aw af st fa W) : TopIs w F G R h env aw af st W.last := by
  obtain ⟨a, g1, g2, g3, g4, g5, g6⟩ := S.fs.own wN _ (by rw [List.lookup_cons, beq_self_eq_true])
  obtain ⟨rfl, g2⟩ := wD_at g2
  refine ⟨g1, g2, g3, g4, g5, g6, ?_⟩
  cases q : R a with
  | none => rfl
  | some o => exact absurd rfl ((S.o2.off a o q).no wN _ a (by rw [List.lookup_cons, beq_self_eq_true]) g1)

theorem Wst.ex (S : Wst w h₀ sc F G₀ ρ ω G R h env aw af st fa W) (kp : Kp h h') : Wst w h₀ sc F G₀ ρ ω (Mine.exl G h h') R h' env aw af st fa W :=
  ⟨S.fs.exl kp, S.o2.exl S.fs kp, S.wr⟩
theorem Wst.same (S : Wst w h₀ sc F G₀ ρ ω G R h env aw af st fa W) (kp : Kp h h') : Wst w h₀ sc F G₀ ρ ω G R h' env aw af st fa W :=
  ⟨S.fs.same kp, S.o2.step S.fs kp (fun _ _ _ => rfl), S.wr⟩

/-- the world is looked at: it is held for that time -/
structure Frz (w : World) (h₀ : Heap) (sc : Scope) (ρ : List (Str × Dt)) (G R T : Gh) (h : Heap) (env : Env) (aw : Addr) (W : Wd) : Prop where
  rd : Rd w h₀ sc ((wN, W.dt) :: ρ) T h env
  sub : Sub G T
  subR : Sub R T
  is : Is w T (.ref aw) W.dt
  nod : ∀ b vs n, (T b = some (tupObj vs n) → G b = some (tupObj vs n)) ∧ (T b = some (lstObj vs n) → G b = some (lstObj vs n))

theorem Wst.frz (S : Wst w h₀ sc F G₀ ρ ω G R h env aw af st fa W) : ∃ T, Frz w h₀ sc ρ G R T h env aw W := by
  refine nn fun hno_ => ?_
  obtain ⟨hat, ht, hG, hF, hL, hc, hR⟩ := S.top
  refine hno_ ?_
  clear hno_
  refine nn fun hno_ => ?_
  obtain ⟨ns, es, c, t1, t2, t3, t4, ho, hes⟩ := id ht
  refine hno_ ?_
  clear hno_
  have pn : ∀ {b}, b ≠ aw → put R aw (dicObj es c) b = R b := fun h => by unfold put; rw [if_neg h]
  have pe : put R aw (dicObj es c) aw = some (dicObj es c) := by unfold put; rw [if_pos rfl]
  have sub : Sub G (un G (put R aw (dicObj es c))) := fun b o e => un_left e
  have subR : Sub R (un G (put R aw (dicObj es c))) := fun b o e => by
    have hb : b ≠ aw := by rintro rfl; rw [hR] at e; cases e
    rw [un_right (S.o2.off b o e).g, pn hb]; exact e
  have hTw : un G (put R aw (dicObj es c)) aw = some (dicObj es c) := by rw [un_right hG, pe]
  have inh : InH (un G (put R aw (dicObj es c))) h := fun b o e => by
    rcases un_some e with e1 | ⟨_, e1⟩
    · exact S.fs.rd.inh b o e1
    · by_cases q : b = aw
      · subst q; rw [pe] at e1; cases e1; exact ho
      · rw [pn q] at e1; exact S.o2.inR b o e1
  have hI := S.wr.is subR ht ho hTw
  refine ⟨_, ⟨{ scope := S.fs.rd.scope, kind := S.fs.rd.kind, glob := S.fs.rd.glob, bi := S.fs.rd.bi, keep := S.fs.rd.keep, inh := inh, cells := S.fs.rd.cells, names := fun y d' hy => ?_ }, sub, subR, hI, fun b vs n => ?_⟩⟩
  · rw [List.lookup_cons] at hy
    by_cases hys : y = wN
    · subst hys
      rw [beq_self_eq_true] at hy; cases hy
      exact ⟨.ref aw, hI, hat⟩
    · rw [beq_eq_false_iff_ne.mpr hys] at hy
      obtain ⟨u, hu, hau⟩ := S.fs.rd.names y d' hy
      exact ⟨u, hu.mono sub, hau⟩
  · have key : ∀ ob : Obj, (∀ es n, ob ≠ dicObj es n) → un G (put R aw (dicObj es c)) b = some ob → G b = some ob := fun ob hne e => by
      rcases un_some e with e1 | ⟨_, e1⟩
      · exact e1
      · by_cases q : b = aw
        · subst q; rw [pe] at e1; cases e1; exact absurd rfl (hne _ _)
        · rw [pn q] at e1
          obtain ⟨es', n', q'⟩ := S.wr.all b ob e1; exact absurd q' (hne es' n')
    exact ⟨key _ (by simp), key _ (by simp)⟩

theorem Frz.back {T : Gh} {v : Value} {d : Dt} (Z : Frz w h₀ sc ρ G R T h env aw W) (i : Is w (exl T h h') v d) (hn : nd d = true) : Is w (exl G h h') v d := by
  refine i.nodict (fun b vs n => ?_) hn
  obtain ⟨z1, z2⟩ := Z.nod b vs n
  unfold Mine.exl
  cases q : h.get? b with
  | none => exact ⟨id, id⟩
  | some o => exact ⟨z1, z2⟩

/-- an expression, the world in sight -/
theorem Wst.ev {e : Expr} {d : Dt} {Q : Value → Shared → Prop} (S : Wst w h₀ sc F G₀ ρ ω G R s.heap env aw af st fa W) (ok : Ok A k) (H : Ev prog w h₀ k sc ((wN, W.dt) :: ρ) e d) (hn : nd d = true)
    (q : ∀ v h' tk, Kp s.heap h' → Is w (exl G s.heap h') v d → Wst w h₀ sc F G₀ ρ ω (exl G s.heap h') R h' env aw af st fa W → Q v { s with heap := h', toks := tk }) :
    wpAny (model prog w) A (eval e env) Q E s := by
  refine nn fun hno_ => ?_
  obtain ⟨T, Z⟩ := S.frz
  refine hno_ ?_
  clear hno_
  exact H.go ok Z.rd fun v h1 tk1 k1 i1 _ => q v h1 tk1 k1 (Z.back i1 hn) (S.ex k1)
theorem Wst.tr {e : Expr} {b : Bool} {Q : Bool → Shared → Prop} (S : Wst w h₀ sc F G₀ ρ ω G R s.heap env aw af st fa W) (ok : Ok A k) (H : Tr prog w h₀ k sc ((wN, W.dt) :: ρ) e b)
    (q : ∀ h' tk, Wst w h₀ sc F G₀ ρ ω G R h' env aw af st fa W → Q b { s with heap := h', toks := tk }) : wpAny (model prog w) A (isTrue e env (eval e env)) Q E s := by
  refine nn fun hno_ => ?_
  obtain ⟨T, Z⟩ := S.frz
  refine hno_ ?_
  clear hno_
  exact H.go ok Z.rd fun h1 tk1 k1 _ => q h1 tk1 (S.same k1)
theorem Wst.evs {es : List Expr} {ds : List Dt} {pos : Pos} {Q : List Value → Shared → Prop} (S : Wst w h₀ sc F G₀ ρ ω G R s.heap env aw af st fa W) (ok : Ok A k) (H : Evs prog w h₀ k sc ((wN, W.dt) :: ρ) es ds) (hn : ∀ d ∈ ds, nd d = true)
    (q : ∀ vs h' tk, Kp s.heap h' → IsAll w (exl G s.heap h') vs ds → Wst w h₀ sc F G₀ ρ ω (exl G s.heap h') R h' env aw af st fa W → Q vs { s with heap := h', toks := tk }) :
    wpAny (model prog w) A (spliced (backTo pos (starEach es env))) Q E s := by
  obtain ⟨T, Z⟩ := S.frz
  refine H.go ok Z.rd fun v h1 tk1 k1 i1 _ => q v h1 tk1 k1 ?_ (S.ex k1)
  refine i1.nodict (fun b vs n => ?_) (nds_iff.mpr hn)
  obtain ⟨z1, z2⟩ := Z.nod b vs n
  unfold Mine.exl
  cases q : s.heap.get? b with
  | none => exact ⟨id, id⟩
  | some o => exact ⟨z1, z2⟩

theorem Wst.ite {t : Expr} {b : Bool} {body orelse : List Stmt} {p : Pos} {Q : Flow → Shared → Prop} (S : Wst w h₀ sc F G₀ ρ ω G R s.heap env aw af st fa W) (ok : Ok A k) (H : Tr prog w h₀ k sc ((wN, W.dt) :: ρ) t b)
    (q1 : b = true → ∀ h' tk, Wst w h₀ sc F G₀ ρ ω G R h' env aw af st fa W → wpAny (model prog w) A (execs body env) Q E { s with heap := h', toks := tk })
    (q2 : b = false → ∀ h' tk, Wst w h₀ sc F G₀ ρ ω G R h' env aw af st fa W → wpAny (model prog w) A (execs orelse env) Q E { s with heap := h', toks := tk }) :
    wpAny (model prog w) A (exec (.If t body orelse p) env) Q E s :=
  wpAny_If (S.tr ok H fun h1 tk S1 => by
    cases b with
    | true => exact q1 rfl h1 tk S1
    | false => exact q2 rfl h1 tk S1)

/-- x = e -/
theorem Wst.assign {e : Expr} {d : Dt} {x : Str} {p p' : Pos} {Q : Flow → Shared → Prop} (S : Wst w h₀ sc F G₀ ρ ω G R s.heap env aw af st fa W) (ok : Ok A k) (H : Ev prog w h₀ k sc ((wN, W.dt) :: ρ) e d) (hn : nd d = true)
    (q : ∀ h' tk G', Sub G G' → Wst w h₀ sc F G₀ ((x, d) :: ρ) ω G' R h' env aw af st fa W → Q .next { s with heap := h', toks := tk })
    (hx : autoParam (sc.names.lookup x = some .local ∨ sc.names.lookup x = some .cell) aO._auto_1) (hω : autoParam (ω.lookup x = none) aR._auto_1) (hxw : autoParam (x ≠ wN) aD._auto_1)
    (hs : autoParam (isComp e = false) aR._auto_1) : wpAny (model prog w) A (exec (.Assign [.Name x p'] e p) env) Q E s := by
  refine wpAny_Assign_Name (S.ev ok H hn fun v h1 tk1 k1 i1 S1 => ?_) (swaps_no hs)
  refine storeF_D (S1.fs.add S1.o2) i1 hx (by rw [List.lookup_cons, beq_eq_false_iff_ne.mpr hxw]; exact hω) fun h2 tk2 X2 => ?_
  obtain ⟨X3, Y3⟩ := X2.del S1.fs.base S1.fs.gF fun b o e => (S1.o2.off b o e).f
  exact q h2 tk2 _ (sub_exl (S.fs.rd.inh.kp k1)) ⟨X3, Y3, S1.wr⟩
end
end Mine
end

section
open PySem PySem.Spec PySem.Calls PyProof.Rows PySem.W
namespace Mine
open scoped Classical

/-! Part PD: the world changes -/
section
variable {w : World} {R : Gh} {af st : Addr} {fa : List (Int × Addr)} {W : Wd}

theorem fa_at {fa : List (Int × Addr)} {fol : List (Int × List (Str × Int))} {t : Int} {l : List (Str × Int)} (hk : fa.map (·.1) = fol.map (·.1)) (hn : (fol.map (·.1)).Nodup) (h : fol.lookup t = some l) :
    ∃ i a, fa[i]? = some (t, a) ∧ fol[i]? = some (t, l) ∧ dIdx (folD fol) (.int t) = some i := by
  refine nn fun hno_ => ?_
  obtain ⟨i, hi⟩ := List.mem_iff_getElem?.mp (mem_look h)
  refine hno_ ?_
  clear hno_
  have e1 : (fol.map (·.1))[i]? = some t := by rw [List.getElem?_map, hi]; rfl
  rw [← hk, List.getElem?_map] at e1
  cases q : fa[i]? with
  | none => rw [q] at e1; cases e1
  | some p =>
    refine nn fun hno_ => ?_
    obtain ⟨t', a⟩ := p
    refine hno_ ?_
    clear hno_
    rw [q] at e1
    simp only [Option.map_some, Option.some.injEq] at e1
    subst e1
    refine ⟨i, a, q, hi, dIdx_of (d := .dict (dirD l)) (nodup_folD hn) ?_⟩
    unfold folD
    rw [List.getElem?_map, hi]; rfl

theorem fa_uniq {fa : List (Int × Addr)} (hn : (fa.map (·.1)).Nodup) {t : Int} {a b : Addr} (h1 : (t, a) ∈ fa) (h2 : (t, b) ∈ fa) : a = b := by
  have e1 := look_nodup hn h1
  rw [look_nodup hn h2] at e1
  exact (Option.some.inj e1).symm
theorem fa_inj {fa : List (Int × Addr)} (hn : (fa.map (·.2)).Nodup) {t t' : Int} {a : Addr} (h1 : (t, a) ∈ fa) (h2 : (t', a) ∈ fa) : t = t' := by
  induction fa with
  | nil => cases h1
  | cons p r ih =>
    rw [List.map_cons, List.nodup_cons] at hn
    rcases List.mem_cons.mp h1 with e1 | e1
    · rcases List.mem_cons.mp h2 with e2 | e2
      · rw [← e1] at e2; cases e2; rfl
      · subst e1; exact absurd (List.mem_map.mpr ⟨_, e2, rfl⟩) hn.1
    · rcases List.mem_cons.mp h2 with e2 | e2
      · subst e2; exact absurd (List.mem_map.mpr ⟨_, e1, rfl⟩) hn.1
      · exact ih hn.2 e1 e2

theorem all_put {R : Gh} {a : Addr} {es : Array DictEntry} {n : Nat} (h : ∀ b o, R b = some o → ∃ es n, o = dicObj es n) : ∀ b o, put R a (dicObj es n) b = some o → ∃ es n, o = dicObj es n := fun b o e => by
  by_cases q : b = a
  · subst q; rw [put_eq] at e; cases e; exact ⟨es, n, rfl⟩
  · rw [put_ne q] at e; exact h b o e

theorem WR.setDir {t : Int} {a : Addr} {l l' : List (Str × Int)} {es : Array DictEntry} {n : Nat} (x : WR w R af st fa W) (ha : (t, a) ∈ fa) (hl : W.fol.lookup t = some l) (he : IsEnts w nG es.toList (dirD l')) (hn : (l'.map (·.1)).Nodup) :
    WR w (put R a (dicObj es n)) af st fa { W with fol := aset W.fol t l' } where
  fol := let ⟨fes, c, h1, h2⟩ := x.fol; ⟨fes, c, by rw [put_ne (fun q => x.off.1 (List.mem_map.mpr ⟨_, ha, q.symm⟩))]; exact h1, h2⟩
  sts := let ⟨fes, c, h1, h2⟩ := x.sts; ⟨fes, c, by rw [put_ne (fun q => x.off.2.1 (List.mem_map.mpr ⟨_, ha, q.symm⟩))]; exact h1, h2⟩
  keys := by rw [keys_aset_some (by rw [hl]; rfl)]; exact x.keys
  dirs := fun t' a' l'' h1 h2 => by
    rw [look_aset] at h2
    by_cases q : t' = t
    · subst q
      rw [if_pos rfl] at h2; cases h2
      have : a' = a := fa_uniq (by rw [x.keys]; exact x.nodF) h1 ha
      subst this
      exact ⟨es, n, put_eq, he⟩
    · rw [if_neg q] at h2
      refine nn fun hno_ => ?_
      obtain ⟨des, c, d1, d2⟩ := x.dirs t' a' l'' h1 h2
      refine hno_ ?_
      clear hno_
      refine ⟨des, c, ?_, d2⟩
      rw [put_ne (fun e => q (by subst e; exact fa_inj x.inj h1 ha))]; exact d1
  inj := x.inj
  off := x.off
  sys := x.sys
  nodF := nodup_aset x.nodF _ _
  nodS := x.nodS
  nodD := fun t' l'' h2 => by
    rw [look_aset] at h2
    by_cases q : t' = t
    · rw [if_pos q] at h2; cases h2; exact hn
    · rw [if_neg q] at h2; exact x.nodD t' l'' h2
  all := all_put x.all
theorem WR.setSts {l' : List (Int × Int)} {es : Array DictEntry} {n : Nat} (x : WR w R af st fa W) (he : IsEnts w nG es.toList (stsD l')) (hn : (l'.map (·.1)).Nodup) :
    WR w (put R st (dicObj es n)) af st fa { W with sts := l' } where
  fol := let ⟨fes, c, h1, h2⟩ := x.fol; ⟨fes, c, by rw [put_ne x.off.2.2]; exact h1, h2⟩
  sts := ⟨es, n, put_eq, he⟩
  keys := x.keys
  dirs := fun t' a' l'' h1 h2 => by
    refine nn fun hno_ => ?_
    obtain ⟨des, c, d1, d2⟩ := x.dirs t' a' l'' h1 h2
    refine hno_ ?_
    clear hno_
    exact ⟨des, c, by rw [put_ne (fun e => x.off.2.1 (List.mem_map.mpr ⟨_, h1, e⟩))]; exact d1, d2⟩
  inj := x.inj
  off := x.off
  sys := x.sys
  nodF := x.nodF
  nodS := hn
  nodD := x.nodD
  all := all_put x.all
theorem WR.setLast {l : Int} (x : WR w R af st fa W) : WR w R af st fa { W with last := l } := ⟨x.fol, x.sts, x.keys, x.dirs, x.inj, x.off, x.sys, x.nodF, x.nodS, x.nodD, x.all⟩
theorem WR.addFol {t : Int} {a : Addr} {es : Array DictEntry} {n : Nat} (x : WR w R af st fa W) (ha : R a = none) (hs : a ≠ sysModules) (ht : W.fol.lookup t = none) (he : FE w es.toList (fa ++ [(t, a)])) (hfa : a ∉ fa.map (·.2)) :
    WR w (put (put R a (dicObj #[] 0)) af (dicObj es n)) af st (fa ++ [(t, a)]) { W with fol := aset W.fol t [] } := by
  have haf : a ≠ af := by rintro rfl; obtain ⟨_, _, h, _⟩ := x.fol; rw [h] at ha; cases ha
  have hst : a ≠ st := by rintro rfl; obtain ⟨_, _, h, _⟩ := x.sts; rw [h] at ha; cases ha
  have hmem : ∀ {b}, b ∈ (fa ++ [(t, a)]).map (·.2) → b ∈ fa.map (·.2) ∨ b = a := fun h => by
    rw [List.map_append, List.mem_append] at h
    rcases h with h | h
    · exact .inl h
    · exact .inr (by simpa using h)
  exact {
  fol := ⟨es, n, put_eq, he⟩
  sts := let ⟨fes, c, h1, h2⟩ := x.sts; ⟨fes, c, by rw [put_ne (Ne.symm x.off.2.2), put_ne (Ne.symm hst)]; exact h1, h2⟩
  keys := by rw [keys_aset_none ht, List.map_append, List.map_append, x.keys]; rfl
  dirs := fun t' a' l'' h1 h2 => by
    rw [look_aset] at h2
    rcases List.mem_append.mp h1 with g1 | g1
    · have hne : t' ≠ t := by
        rintro rfl
        have : t' ∈ W.fol.map (·.1) := by rw [← x.keys]; exact List.mem_map.mpr ⟨(t', a'), g1, rfl⟩
        exact look_none_iff.mp ht this
      rw [if_neg hne] at h2
      obtain ⟨des, c, d1, d2⟩ := x.dirs t' a' l'' g1 h2
      refine ⟨des, c, ?_, d2⟩
      rw [put_ne (fun e => x.off.1 (List.mem_map.mpr ⟨_, g1, e⟩)), put_ne (fun e => hfa (List.mem_map.mpr ⟨_, g1, e⟩))]; exact d1
    · rw [List.mem_singleton] at g1; cases g1
      rw [if_pos rfl] at h2; cases h2
      exact ⟨#[], 0, by rw [put_ne haf, put_eq], .nil⟩
  inj := by
    rw [List.map_append, List.nodup_append]
    refine ⟨x.inj, by simp, fun b hb c hc => ?_⟩
    simp only [List.map_cons, List.map_nil, List.mem_singleton] at hc
    subst hc
    rintro rfl; exact hfa hb
  off := ⟨fun h => by rcases hmem h with h | h; exact x.off.1 h; exact haf h.symm, fun h => by rcases hmem h with h | h; exact x.off.2.1 h; exact hst h.symm, x.off.2.2⟩
  sys := ⟨x.sys.1, x.sys.2.1, fun h => by rcases hmem h with h | h; exact x.sys.2.2 h; exact hs h.symm⟩
  nodF := nodup_aset x.nodF _ _
  nodS := x.nodS
  nodD := fun t' l'' h2 => by
    rw [look_aset] at h2
    by_cases q : t' = t
    · rw [if_pos q] at h2; cases h2; exact List.nodup_nil
    · rw [if_neg q] at h2; exact x.nodD t' l'' h2
  all := all_put (all_put x.all) }
theorem WR.delFol {t : Int} {es : Array DictEntry} {n : Nat} (x : WR w R af st fa W) (he : FE w es.toList (adel fa t)) :
    WR w (put R af (dicObj es n)) af st (adel fa t) { W with fol := adel W.fol t } := by
  have hsub : ∀ {p}, p ∈ adel fa t → p ∈ fa := fun h => mem_of_filter h
  have hm : ∀ {b}, b ∈ (adel fa t).map (·.2) → b ∈ fa.map (·.2) := fun h => by obtain ⟨p, hp, e⟩ := List.mem_map.mp h; exact List.mem_map.mpr ⟨p, hsub hp, e⟩
  exact {
  fol := ⟨es, n, put_eq, he⟩
  sts := let ⟨fes, c, h1, h2⟩ := x.sts; ⟨fes, c, by rw [put_ne (Ne.symm x.off.2.2)]; exact h1, h2⟩
  keys := by
    have : ∀ {α : Type} (l : List (Int × α)), (adel l t).map (·.1) = (l.map (·.1)).filter fun q => !decide (q = t) := fun l => by
      unfold adel; rw [List.filter_map]; rfl
    rw [this, this, x.keys]
  dirs := fun t' a' l'' h1 h2 => by
    rw [look_adel] at h2
    by_cases q : t' = t
    · rw [if_pos q] at h2; cases h2
    · rw [if_neg q] at h2
      obtain ⟨des, c, d1, d2⟩ := x.dirs t' a' l'' (hsub h1) h2
      exact ⟨des, c, by rw [put_ne (fun e => x.off.1 (List.mem_map.mpr ⟨_, hsub h1, e⟩))]; exact d1, d2⟩
  inj := List.Nodup.sublist (List.Sublist.map _ List.filter_sublist) x.inj
  off := ⟨fun h => x.off.1 (hm h), fun h => x.off.2.1 (hm h), x.off.2.2⟩
  sys := ⟨x.sys.1, x.sys.2.1, fun h => x.sys.2.2 (hm h)⟩
  nodF := nodup_adel x.nodF _
  nodS := x.nodS
  nodD := fun t' l'' h2 => by
    rw [look_adel] at h2
    by_cases q : t' = t
    · rw [if_pos q] at h2; cases h2
    · rw [if_neg q] at h2; exact x.nodD t' l'' h2
  all := all_put x.all }
end

/-! the top dict's places -/
theorem idx_folders (W : Wd) : dIdx W.kvs (.str "folders") = some 0 := dIdx_of (d := .dict (folD W.fol)) (by show ([Dt.str "folders", .str "states", .str "last"] : List Dt).Nodup; rw [List.nodup_cons, List.nodup_cons]; simp only [List.mem_cons, List.not_mem_nil, or_false, not_or]; refine ⟨⟨?_, ?_⟩, ?_, by simp⟩ <;> (intro e; injection e with e; revert e; decide)) rfl
theorem kvs_nodup (W : Wd) : (W.kvs.map (·.1)).Nodup := by show ([Dt.str "folders", .str "states", .str "last"] : List Dt).Nodup; rw [List.nodup_cons, List.nodup_cons]; simp only [List.mem_cons, List.not_mem_nil, or_false, not_or]; refine ⟨⟨?_, ?_⟩, ?_, by simp⟩ <;> (intro e; injection e with e; revert e; decide)
theorem idx_states (W : Wd) : dIdx W.kvs (.str "states") = some 1 := dIdx_of (d := .dict (stsD W.sts)) (kvs_nodup W) rfl
theorem idx_last (W : Wd) : dIdx W.kvs (.str "last") = some 2 := dIdx_of (d := .int W.last) (kvs_nodup W) rfl

section
variable {prog : Program} {w : World} {h₀ : Heap} {sc : Scope} {F G₀ R R' : Gh} {ρ ω ω' : List (Str × Dt)} {k : Nat} {G G' : Gh} {s : Shared} {env : Env} {A : Around} {E : Value → Shared → Prop} {h h' : Heap} {aw af st : Addr} {fa fa' : List (Int × Addr)} {W W' : Wd}

theorem is_kvs {T : Gh} {es : Array DictEntry} {n : Nat} (i : Is w T (.ref aw) W.dt) (ho : T aw = some (dicObj es n)) : IsEnts w T es.toList W.kvs := by
  cases i with
  | dict ha _ hs _ => rw [ho] at ha; cases ha; exact hs

/-- world['folders'], the dict itself -/
theorem Wst.folders_D {p p' p'' : Pos} {kd : Nat} {Q : Value → Shared → Prop} (S : Wst w h₀ sc F G₀ ρ ω G R s.heap env aw af st fa W) (ok : Ok A k) (q : ∀ tk, Q (.ref af) { s with toks := tk }) :
    wpAny (model prog w) A (eval (.Subscript (.Name wN p) (.Constant (.str "folders") kd p') p'') env) Q E s := by
  obtain ⟨hat, ht, hG, hF, hL, hc, hR⟩ := S.top
  obtain ⟨T, Z⟩ := S.frz
  obtain ⟨ns, es, c, t1, t2, t3, t4, ho, hes⟩ := id ht
  refine subs_D (T := "dict") slot_dict_getitem.lookup (wpAny_Name (load_At S.fs hat (by decide) ?_) (by decide)) (fun _ _ => ⟨_, rfl⟩)
  refine wpAny_Constant_str ⟨⟨_, ho, rfl⟩, ?_⟩
  have hT : T aw = some (dicObj es c) := by
    have i := Z.is
    cases i with
    | dict ha _ _ _ => have := Z.rd.inh _ _ ha; rw [ho] at this; cases this; exact ha
  exact dictItemV (s := { s with toks := s.toks + 1 }) Z.rd.inh (ok.u 100 (by lia)) ho (is_kvs Z.is hT) (kvs_nodup W) rfl (.str _ _ (by decide +kernel)) (idx_folders W) (by rw [hes]; rfl) fun tk => q tk
theorem Wst.states_D {p p' p'' : Pos} {kd : Nat} {Q : Value → Shared → Prop} (S : Wst w h₀ sc F G₀ ρ ω G R s.heap env aw af st fa W) (ok : Ok A k) (q : ∀ tk, Q (.ref st) { s with toks := tk }) :
    wpAny (model prog w) A (eval (.Subscript (.Name wN p) (.Constant (.str "states") kd p') p'') env) Q E s := by
  obtain ⟨hat, ht, hG, hF, hL, hc, hR⟩ := S.top
  obtain ⟨T, Z⟩ := S.frz
  obtain ⟨ns, es, c, t1, t2, t3, t4, ho, hes⟩ := id ht
  refine subs_D (T := "dict") slot_dict_getitem.lookup (wpAny_Name (load_At S.fs hat (by decide) ?_) (by decide)) (fun _ _ => ⟨_, rfl⟩)
  refine wpAny_Constant_str ⟨⟨_, ho, rfl⟩, ?_⟩
  have hT : T aw = some (dicObj es c) := by
    have i := Z.is
    cases i with
    | dict ha _ _ _ => have := Z.rd.inh _ _ ha; rw [ho] at this; cases this; exact ha
  exact dictItemV (s := { s with toks := s.toks + 1 }) Z.rd.inh (ok.u 100 (by lia)) ho (is_kvs Z.is hT) (kvs_nodup W) rfl (.str _ _ (by decide +kernel)) (idx_states W) (by rw [hes]; rfl) fun tk => q tk

/-- world['folders'][e], the dict itself -/
theorem Wst.dir_D {e : Expr} {t : Int} {l : List (Str × Int)} {p p' p'' p3 : Pos} {kd : Nat} {Q : Value → Shared → Prop} (S : Wst w h₀ sc F G₀ ρ ω G R s.heap env aw af st fa W) (ok : Ok A k) (J : Ev prog w h₀ k sc ((wN, W.dt) :: ρ) e (.int t)) (hl : W.fol.lookup t = some l)
    (q : ∀ a h' tk, (t, a) ∈ fa → Kp s.heap h' → Wst w h₀ sc F G₀ ρ ω (exl G s.heap h') R h' env aw af st fa W → Q (.ref a) { s with heap := h', toks := tk })
    (hs : autoParam (∀ o i, ∃ ops, subscripted e false o i = operate ops (getItem o i)) aE._auto_1) :
    wpAny (model prog w) A (eval (.Subscript (.Subscript (.Name wN p) (.Constant (.str "folders") kd p') p'') e p3) env) Q E s := by
  refine subs_D (T := "dict") slot_dict_getitem.lookup (S.folders_D ok fun tk => ?_) hs
  have S' : Wst w h₀ sc F G₀ ρ ω G R ({ s with toks := tk } : Shared).heap env aw af st fa W := S
  refine S'.ev ok J rfl fun v h1 tk1 k1 i1 S1 => ?_
  obtain ⟨T, Z⟩ := S1.frz
  refine nn fun hno_ => ?_
  obtain ⟨fes, c, f1, f2⟩ := S1.wr.fol
  refine hno_ ?_
  clear hno_
  refine nn fun hno_ => ?_
  obtain ⟨i, a, hi1, hi2, hi3⟩ := fa_at S1.wr.keys S1.wr.nodF hl
  refine hno_ ?_
  clear hno_
  refine nn fun hno_ => ?_
  obtain ⟨ent, he1, he2⟩ := f2.at hi1
  refine hno_ ?_
  clear hno_
  have ho := S1.o2.inR _ _ f1
  have iv : Is w T v (.int t) := i1.mono Z.sub
  refine ⟨⟨_, ho, rfl⟩, dictItemV (s := { s with heap := h1, toks := tk1 }) Z.rd.inh (ok.u 100 (by lia)) ho (S1.wr.ents Z.subR f2) (nodup_folD S1.wr.nodF) rfl iv hi3 he1 fun tk2 => ?_⟩
  rw [he2]
  exact q a h1 tk2 (List.mem_of_getElem? hi1) k1 S1

/-- an object of the world has changed -/
theorem Wst.mutR {a : Addr} {o : Obj} {W' : Wd} {fa' : List (Int × Addr)} (S : Wst w h₀ sc F G₀ ρ ω G R h env aw af st fa W) (ha : ∃ o, R a = some o) (kb : Heap.ExtBut a h h') (ho : h'.get? a = some o) (hl : W'.last = W.last)
    (x : WR w (put R a o) af st fa' W') : Wst w h₀ sc F G₀ ρ ω G (put R a o) h' env aw af st fa' W' := by
  obtain ⟨X, Y⟩ := Own2.mut S.fs S.o2 ha kb ho
  exact ⟨by rw [hl]; exact X, by rw [hl]; exact Y, x⟩

theorem Is.nG_str {v : Value} {x : Str} (i : Is w G v (.str x)) : Is w nG v (.str x) := by cases i with | str _ t h => exact .str x t h
theorem Is.nG_int {v : Value} {x : Int} (i : Is w G v (.int x)) : Is w nG v (.int x) := by cases i with | int _ t => exact .int x t
theorem inH_nG (h : Heap) : InH nG h := fun _ _ e => nomatch e

/-- world['folders'][e1][e2] = e -/
theorem Wst.setDir {e e1 e2 : Expr} {t v : Int} {x : Str} {l : List (Str × Int)} {p1 p2 p3 p4 p5 p6 : Pos} {kd : Nat} {Q : Flow → Shared → Prop} (S : Wst w h₀ sc F G₀ ρ ω G R s.heap env aw af st fa W) (ok : Ok A k)
    (H : Ev prog w h₀ k sc ((wN, W.dt) :: ρ) e (.int v)) (J : Ev prog w h₀ k sc ((wN, W.dt) :: ρ) e1 (.int t)) (J2 : Ev prog w h₀ k sc ((wN, W.dt) :: ρ) e2 (.str x)) (hl : W.fol.lookup t = some l) (hz : l.length ≤ 5000)
    (q : ∀ h' tk G' R', Wst w h₀ sc F G₀ ρ ω G' R' h' env aw af st fa { W with fol := aset W.fol t (aset l x v) } → Q .next { s with heap := h', toks := tk })
    (hs : autoParam (∀ o i, ∃ ops, subscripted e1 false o i = operate ops (getItem o i)) aE._auto_1) :
    wpAny (model prog w) A (exec (.Assign [.Subscript (.Subscript (.Subscript (.Name wN p1) (.Constant (.str "folders") kd p2) p3) e1 p4) e2 p5] e p6) env) Q E s := by
  refine wpAny_Assign_stores (S.ev ok H rfl fun vv h1 tk1 k1 i1 S1 => ?_) swaps_sub swapped_sub
  show wpAny _ A (PySem.assign (.Subscript _ e2 p5) env vv) _ _ _
  rw [arm_assign_Subscript]
  have S1' : Wst w h₀ sc F G₀ ρ ω (exl G s.heap h1) R ({ s with heap := h1, toks := tk1 } : Shared).heap env aw af st fa W := S1
  refine wpAny_bind (wpAny_holding (S1'.dir_D ok J hl (fun a h2 tk2 ha k2 S2 => ?_) hs))
  have S2' : Wst w h₀ sc F G₀ ρ ω (exl (exl G s.heap h1) h1 h2) R ({ s with heap := h2, toks := tk2 } : Shared).heap env aw af st fa W := S2
  refine wpAny_bind (wpAny_holding (S2'.ev ok J2 rfl fun kv h3 tk3 k3 i3 S3 => ?_))
  refine nn fun hno_ => ?_
  obtain ⟨des, c, d1, d2⟩ := S3.wr.dirs t a l ha hl
  refine hno_ ?_
  clear hno_
  have hsys : a ≠ sysModules := by rintro rfl; exact S3.wr.sys.2.2 (List.mem_map.mpr ⟨_, ha, rfl⟩)
  have hD : DAt w nG h3 a (dirD l) := ⟨⟨des, c, S3.o2.inR _ _ d1, d2⟩, nodup_dirD (S3.wr.nodD t l hl), hsys⟩
  refine wpAny_bind (wpAny_standAt (wpAny_bind (wpAny_holding (dictStore_D (s := { s with heap := h3, toks := tk3 }) (inH_nG _) (ok.u 100 (by lia)) hD rfl i3.nG_str (i1.nG_int) (by unfold dirD; rw [List.length_map]; exact hz) fun h4 tk4 hD4 s4 => ?_))))
  refine wpAny_release ?_
  refine nn fun hno_ => ?_
  obtain ⟨des', c', o4, e4⟩ := hD4.obj
  refine hno_ ?_
  clear hno_
  rw [dset_dir] at e4
  exact q h4 tk4 _ _ (S3.mutR ⟨_, d1⟩ s4.extBut o4 rfl (S3.wr.setDir ha hl e4 (nodup_aset (S3.wr.nodD t l hl) _ _)))

/-- world['states'][e1] = e -/
theorem Wst.setSts {e e1 : Expr} {t v : Int} {p1 p2 p3 p5 p6 : Pos} {kd : Nat} {Q : Flow → Shared → Prop} (S : Wst w h₀ sc F G₀ ρ ω G R s.heap env aw af st fa W) (ok : Ok A k)
    (H : Ev prog w h₀ k sc ((wN, W.dt) :: ρ) e (.int v)) (J : Ev prog w h₀ k sc ((wN, W.dt) :: ρ) e1 (.int t)) (hz : W.sts.length ≤ 5000)
    (q : ∀ h' tk G' R', Wst w h₀ sc F G₀ ρ ω G' R' h' env aw af st fa { W with sts := aset W.sts t v } → Q .next { s with heap := h', toks := tk }) :
    wpAny (model prog w) A (exec (.Assign [.Subscript (.Subscript (.Name wN p1) (.Constant (.str "states") kd p2) p3) e1 p5] e p6) env) Q E s := by
  refine wpAny_Assign_stores (S.ev ok H rfl fun vv h1 tk1 k1 i1 S1 => ?_) swaps_sub swapped_sub
  show wpAny _ A (PySem.assign (.Subscript _ e1 p5) env vv) _ _ _
  rw [arm_assign_Subscript]
  have S1' : Wst w h₀ sc F G₀ ρ ω (exl G s.heap h1) R ({ s with heap := h1, toks := tk1 } : Shared).heap env aw af st fa W := S1
  refine wpAny_bind (wpAny_holding (S1'.states_D ok (fun tk2 => ?_)))
  have S2' : Wst w h₀ sc F G₀ ρ ω (exl G s.heap h1) R ({ s with heap := h1, toks := tk2 } : Shared).heap env aw af st fa W := S1
  refine wpAny_bind (wpAny_holding (S2'.ev ok J rfl fun kv h3 tk3 k3 i3 S3 => ?_))
  refine nn fun hno_ => ?_
  obtain ⟨des, c, d1, d2⟩ := S3.wr.sts
  refine hno_ ?_
  clear hno_
  have hD : DAt w nG h3 st (stsD W.sts) := ⟨⟨des, c, S3.o2.inR _ _ d1, d2⟩, nodup_stsD S3.wr.nodS, S3.wr.sys.2.1⟩
  refine wpAny_bind (wpAny_standAt (wpAny_bind (wpAny_holding (dictStore_D (s := { s with heap := h3, toks := tk3 }) (inH_nG _) (ok.u 100 (by lia)) hD rfl i3.nG_int (i1.nG_int) (by unfold stsD; rw [List.length_map]; exact hz) fun h4 tk4 hD4 s4 => ?_))))
  refine wpAny_release ?_
  refine nn fun hno_ => ?_
  obtain ⟨des', c', o4, e4⟩ := hD4.obj
  refine hno_ ?_
  clear hno_
  rw [dset_sts] at e4
  exact q h4 tk4 _ _ (S3.mutR ⟨_, d1⟩ s4.extBut o4 rfl (S3.wr.setSts e4 (nodup_aset S3.wr.nodS _ _)))

/-- the top dict has changed -/
theorem Wst.mutW {l : Int} (S : Wst w h₀ sc F G₀ ρ ω G R h env aw af st fa W) (kb : Heap.ExtBut aw h h') (ht : TopO w h' aw af st l) (hω : ω.lookup wN = none) : Wst w h₀ sc F G₀ ρ ω G R h' env aw af st fa { W with last := l } := by
  refine nn fun hno_ => ?_
  obtain ⟨hat, _, hG, hF, hL, hc, hR⟩ := S.top
  refine hno_ ?_
  clear hno_
  have hlk : ∀ l', List.lookup wN ((wN, wD aw af st l') :: ω) = some (wD aw af st l') := fun l' => by rw [List.lookup_cons, beq_self_eq_true]
  have kb' : ∀ b o, ¬ b = aw → h.get? b = some o → h'.get? b = some o := fun b o hb e => kb b o hb e
  have nL : ¬ env.locals = aw := fun e => hL e.symm
  have nc : ∀ y c, env.cells.lookup y = some c → ¬ c = aw := fun y c e q => hc y c e q.symm
  have X : Fs w h₀ sc F G₀ ρ ((wN, wD aw af st l) :: ω) G h' env := by
    refine S.fs.chg (P := fun b => b = aw) kb' (fun b e => e ▸ hF) (fun b e => e ▸ hG) nL nc fun y d' hy => ?_
    rw [List.lookup_cons] at hy
    by_cases hyw : y = wN
    · subst hyw
      rw [beq_self_eq_true] at hy; cases hy
      refine ⟨_, hlk _, fun a ha _ => ?_⟩
      obtain rfl := ref_inj (ha.det hat)
      exact wD_of ht
    · rw [beq_eq_false_iff_ne.mpr hyw] at hy
      refine ⟨d', by rw [List.lookup_cons, beq_eq_false_iff_ne.mpr hyw]; exact hy, fun a ha ho => ho.mono (Sub.refl G) fun o e => kb a o ?_ e⟩
      rintro rfl
      exact hyw (S.fs.oapart y wN _ _ a (by rw [List.lookup_cons, beq_eq_false_iff_ne.mpr hyw]; exact hy) (hlk _) ha hat)
  refine ⟨X, ⟨fun b o e => kb b o (fun q => by subst q; rw [hR] at e; cases e) (S.o2.inR b o e), fun b o e => ?_⟩, S.wr.setLast⟩
  obtain ⟨g1, g2, g3, g4, g5⟩ := S.o2.off b o e
  refine ⟨g1, g2, g3, g4, fun y d c hy hcat => ?_⟩
  have : ∃ d2, List.lookup y ((wN, wD aw af st W.last) :: ω) = some d2 := by
    rw [List.lookup_cons] at hy ⊢
    by_cases hyw : y = wN
    · subst hyw; rw [beq_self_eq_true]; exact ⟨_, rfl⟩
    · rw [beq_eq_false_iff_ne.mpr hyw] at hy ⊢; exact ⟨d, hy⟩
  obtain ⟨d2, hd2⟩ := this
  obtain ⟨c', q1, _⟩ := S.fs.own y d2 hd2
  obtain rfl := ref_inj ((q1.chg kb' nL nc).det hcat)
  exact g5 y d2 _ hd2 q1

/-- world['last'] = e -/
theorem Wst.setLast {e : Expr} {v : Int} {p1 p2 p5 p6 : Pos} {kd : Nat} {Q : Flow → Shared → Prop} (S : Wst w h₀ sc F G₀ ρ ω G R s.heap env aw af st fa W) (ok : Ok A k)
    (H : Ev prog w h₀ k sc ((wN, W.dt) :: ρ) e (.int v)) (hω : ω.lookup wN = none)
    (q : ∀ h' tk G', Wst w h₀ sc F G₀ ρ ω G' R h' env aw af st fa { W with last := v } → Q .next { s with heap := h', toks := tk }) :
    wpAny (model prog w) A (exec (.Assign [.Subscript (.Name wN p1) (.Constant (.str "last") kd p2) p5] e p6) env) Q E s := by
  refine wpAny_Assign_stores (S.ev ok H rfl fun vv h1 tk1 k1 i1 S1 => ?_) swaps_sub swapped_sub
  show wpAny _ A (PySem.assign (.Subscript _ _ p5) env vv) _ _ _
  refine nn fun hno_ => ?_
  obtain ⟨hat, ht, hG, hF, hL, hc, hR⟩ := S1.top
  refine hno_ ?_
  clear hno_
  obtain ⟨T, Z⟩ := S1.frz
  refine nn fun hno_ => ?_
  obtain ⟨ns, es, c, t1, t2, t3, t4, ho, hes⟩ := id ht
  refine hno_ ?_
  clear hno_
  refine wpAny_bind (wpAny_holding (wpAny_Name (load_At (s := { s with heap := h1, toks := tk1 }) S1.fs hat (by decide) ?_) (by decide)))
  refine wpAny_bind (wpAny_holding (wpAny_Constant_str ?_))
  have hT : T aw = some (dicObj es c) := by
    have i := Z.is
    cases i with
    | dict ha _ _ _ => have := Z.rd.inh _ _ ha; rw [ho] at this; cases this; exact ha
  cases i1 with
  | int _ tv =>
  refine wpAny_bind (wpAny_standAt (wpAny_bind (wpAny_holding (dictStoreV (s := { s with heap := h1, toks := tk1 + 1 }) Z.rd.inh (ok.u 100 (by lia)) ho (is_kvs Z.is hT) (kvs_nodup W) rfl (.str _ _ (by decide +kernel)) (by show 3 ≤ 5000; lia) fun h4 tk4 es' n' o4 e4 s4 => ?_))))
  refine wpAny_release ?_
  rw [idx_last, hes] at e4
  exact q h4 tk4 _ (S1.mutW s4.extBut ⟨ns, es', n', t1, t2, t3, tv, o4, e4⟩ hω)
end
end Mine
end

section
open PySem PySem.Spec PySem.Calls PyProof.Rows PySem.W
namespace Mine
open scoped Classical

/-! Part PE: new folders, pops, calls that change the world -/
theorem fol_none {fol : List (Int × List (Str × Int))} {t : Int} (h : fol.lookup t = none) : dIdx (folD fol) (.int t) = none := by
  refine dIdx_none fun i d e => ?_
  have hm := List.mem_of_getElem? e
  obtain ⟨p, hp, e2⟩ := List.mem_map.mp hm
  injection e2 with e3 e4
  injection e3 with e3
  exact look_none_iff.mp h (List.mem_map.mpr ⟨p, hp, e3⟩)

theorem WR.add {w : World} {R : Gh} {af st a : Addr} {fa : List (Int × Addr)} {W : Wd} (x : WR w R af st fa W) (ha : R a = none) : WR w (put R a (dicObj #[] 0)) af st fa W := by
  have ne : ∀ {b o}, R b = some o → b ≠ a := fun e q => by subst q; rw [ha] at e; cases e
  exact {
    fol := let ⟨fes, c, h1, h2⟩ := x.fol; ⟨fes, c, by rw [put_ne (ne h1)]; exact h1, h2⟩
    sts := let ⟨fes, c, h1, h2⟩ := x.sts; ⟨fes, c, by rw [put_ne (ne h1)]; exact h1, h2⟩
    keys := x.keys
    dirs := fun t b l h1 h2 => let ⟨des, c, d1, d2⟩ := x.dirs t b l h1 h2; ⟨des, c, by rw [put_ne (ne d1)]; exact d1, d2⟩
    inj := x.inj, off := x.off, sys := x.sys, nodF := x.nodF, nodS := x.nodS, nodD := x.nodD
    all := all_put x.all }

theorem WR.fa_live {w : World} {R : Gh} {af st : Addr} {fa : List (Int × Addr)} {W : Wd} (x : WR w R af st fa W) {a : Addr} (h : a ∈ fa.map (·.2)) : ∃ o, R a = some o := by
  obtain ⟨⟨t, b⟩, hp, rfl⟩ := List.mem_map.mp h
  have ht : t ∈ W.fol.map (·.1) := by rw [← x.keys]; exact List.mem_map.mpr ⟨_, hp, rfl⟩
  cases q : W.fol.lookup t with
  | none => exact absurd ht (look_none_iff.mp q)
  | some l =>
    refine nn fun hno_ => ?_
    obtain ⟨des, c, d1, _⟩ := x.dirs t b l hp q
    refine hno_ ?_
    clear hno_
    exact ⟨_, d1⟩

noncomputable def flat : Dt → Bool
  | .none => true
  | .bool _ => true
  | .int _ => true
  | .str _ => true
  | _ => false

section
variable {prog : Program} {w : World} {h₀ : Heap} {sc : Scope} {F G₀ R R' : Gh} {ρ ω ω' : List (Str × Dt)} {k : Nat} {G G' : Gh} {s : Shared} {env : Env} {A : Around} {E : Value → Shared → Prop} {h h' : Heap} {aw af st : Addr} {fa fa' : List (Int × Addr)} {W W' : Wd}

theorem Is.flat {v : Value} {d : Dt} (i : Is w G v d) (hd : flat d = true) : Is w nG v d := by
  have q := i.inv
  cases d with
  | none => exact q ▸ .none
  | bool b => exact q ▸ .bool b
  | int n => obtain ⟨t, rfl⟩ := q; exact .int n t
  | str x => obtain ⟨t, rfl, h⟩ := q; exact .str x t h
  | _ => exact absurd hd Bool.false_ne_true
theorem IsAll.flat {vs : List Value} {ds : List Dt} (x : IsAll w G vs ds) : (∀ d ∈ ds, flat d = true) → IsAll w nG vs ds :=
  x.ind (P := fun vs ds => (∀ d ∈ ds, Mine.flat d = true) → IsAll w nG vs ds) (fun _ => .nil) fun h _ ih hd => .cons (h.flat (hd _ (.head _))) (ih fun d hm => hd d (.tail _ hm))

/-- world['folders'][e1] = {} -/
theorem Wst.newDir {e1 : Expr} {t : Int} {p1 p2 p3 p4 p5 p6 : Pos} {kd : Nat} {Q : Flow → Shared → Prop} (hlim : h₀.NoLimit) (S : Wst w h₀ sc F G₀ ρ ω G R s.heap env aw af st fa W) (ok : Ok A k)
    (J : Ev prog w h₀ k sc ((wN, W.dt) :: ρ) e1 (.int t)) (hl : W.fol.lookup t = none) (hz : W.fol.length ≤ 5000)
    (q : ∀ h' tk G' R' fa', Wst w h₀ sc F G₀ ρ ω G' R' h' env aw af st fa' { W with fol := aset W.fol t [] } → Q .next { s with heap := h', toks := tk }) :
    wpAny (model prog w) A (exec (.Assign [.Subscript (.Subscript (.Name wN p1) (.Constant (.str "folders") kd p2) p3) e1 p4] (.Dict [] [] p5) p6) env) Q E s := by
  refine wpAny_Assign_stores (wpAny_Dict_empty ?_) swaps_sub swapped_sub
  show wpAny _ A (PySem.assign (.Subscript _ e1 p4) env _) _ _ _
  rw [arm_assign_Subscript]
  have kp := Kp.push s.heap { cls := .type "dict", data := .dict #[] }
  have dead : s.heap.get? s.heap.objs.size = none := heap_none (Nat.le_refl _)
  have live : (s.heap.push { cls := .type "dict", data := .dict #[] }).get? s.heap.objs.size = some (dicObj #[] 0) := Heap.get?_push_size _ rfl
  have hsys : s.heap.objs.size ≠ sysModules := not_sys hlim S.fs.rd.keep
  have Ra : R s.heap.objs.size = none := by
    cases q : R s.heap.objs.size with
    | none => rfl
    | some o => have := S.o2.inR _ _ q; rw [dead] at this; cases this
  have hfa : s.heap.objs.size ∉ fa.map (·.2) := fun hm => by obtain ⟨o, e⟩ := S.wr.fa_live hm; rw [Ra] at e; cases e
  generalize hN : s.heap.objs.size = a at *
  generalize hH : s.heap.push { cls := .type "dict", data := .dict #[] } = H at *
  have S1 : Wst w h₀ sc F G₀ ρ ω G (put R a (dicObj #[] 0)) ({ s with heap := H } : Shared).heap env aw af st fa W := ⟨S.fs.same kp, Own2.new S.fs S.o2 kp dead live, S.wr.add Ra⟩
  refine wpAny_bind (wpAny_holding (S1.folders_D ok fun tk1 => ?_))
  have S1' : Wst w h₀ sc F G₀ ρ ω G (put R a (dicObj #[] 0)) ({ s with heap := H, toks := tk1 } : Shared).heap env aw af st fa W := S1
  refine wpAny_bind (wpAny_holding (S1'.ev ok J rfl fun kv h3 tk3 k3 i3 S3 => ?_))
  obtain ⟨T, Z⟩ := S3.frz
  refine nn fun hno_ => ?_
  obtain ⟨fes, c, f1, f2⟩ := S3.wr.fol
  refine hno_ ?_
  clear hno_
  have ho := S3.o2.inR _ _ f1
  have i3' : Is w T kv (.int t) := i3.mono Z.sub
  refine wpAny_bind (wpAny_standAt (wpAny_bind (wpAny_holding (dictStoreV (s := { s with heap := h3, toks := tk3 }) Z.rd.inh (ok.u 100 (by lia)) ho (S3.wr.ents Z.subR f2) (nodup_folD S3.wr.nodF) rfl i3' (by unfold folD; rw [List.length_map]; exact hz) fun h4 tk4 es' n' o4 e4 s4 => ?_))))
  refine wpAny_release ?_
  rw [fol_none hl] at e4
  have hFE : FE w es'.toList (fa ++ [(t, a)]) := by
    rw [e4]
    cases i3' with
    | int _ tok => exact f2.snoc
  exact q h4 tk4 _ _ _ (S3.mutR ⟨_, f1⟩ s4.extBut o4 rfl (S.wr.addFol Ra hsys hl hFE hfa))

/-- world['folders'][e1].pop(e2) -/
theorem Wst.popDir {e1 e2 : Expr} {t v : Int} {x : Str} {l : List (Str × Int)} {p1 p2 p3 p4 ap p5 p6 : Pos} {kd : Nat} {Q : Flow → Shared → Prop} (S : Wst w h₀ sc F G₀ ρ ω G R s.heap env aw af st fa W) (ok : Ok A k)
    (J : Ev prog w h₀ k sc ((wN, W.dt) :: ρ) e1 (.int t)) (J2 : Ev prog w h₀ k sc ((wN, W.dt) :: ρ) e2 (.str x)) (hl : W.fol.lookup t = some l) (hx : l.lookup x = some v) (hz : l.length ≤ 5000)
    (q : ∀ h' tk G' R', Wst w h₀ sc F G₀ ρ ω G' R' h' env aw af st fa { W with fol := aset W.fol t (adel l x) } → Q .next { s with heap := h', toks := tk })
    (hs : autoParam (∀ o i, ∃ ops, subscripted e1 false o i = operate ops (getItem o i)) aE._auto_1) (he2 : autoParam (starred e2 = false) aR._auto_1) (hline : autoParam ((ap.endLine == p5.line) = true) aR._auto_1) :
    wpAny (model prog w) A (exec (.Expr (.Call (.Attribute (.Subscript (.Subscript (.Name wN p1) (.Constant (.str "folders") kd p2) p3) e1 p4) "pop" ap) [e2] [] p5) p6) env) Q E s := by
  refine wpAny_Expr_any (wpAny_Call_method1_late rfl hline (back_one he2) (S.dir_D ok J hl (fun a h1 tk1 ha k1 S1 => ?_) hs)) (hi := by unfold interactive; rw [S.fs.rd.scope, S.fs.rd.kind]; rfl)
  refine nn fun hno_ => ?_
  obtain ⟨des, c, d1, d2⟩ := S1.wr.dirs t a l ha hl
  refine hno_ ?_
  clear hno_
  have o1 := S1.o2.inR _ _ d1
  refine ⟨"dict", "dict.pop", PySem.F.plainAttrs_dict, PySem.F.slot_dict_pop, PySem.F.type_dict_pop, ⟨_, o1, rfl⟩, fun b e => by cases e; exact ⟨_, o1, rfl⟩, ?_⟩
  rw [← back_one (pos := p5) (env := env) he2]
  have S1' : Wst w h₀ sc F G₀ ρ ω (exl G s.heap h1) R ({ s with heap := h1, toks := tk1 } : Shared).heap env aw af st fa W := S1
  refine callWith_method1 (hplain := star_none (by rfl)) (S1'.evs ok (Evs.cons J2 Evs.nil he2) (by simp [nd]) fun vs h2 tk2 k2 i2 S2 => ?_) (star_cons he2)
  cases i2 with
  | cons i2 r2 =>
  cases r2
  have hsys : a ≠ sysModules := by rintro rfl; exact S2.wr.sys.2.2 (List.mem_map.mpr ⟨_, ha, rfl⟩)
  have hD : DAt w nG h2 a (dirD l) := ⟨⟨des, c, S2.o2.inR _ _ d1, d2⟩, nodup_dirD (S2.wr.nodD t l hl), hsys⟩
  refine dictPop_D (s := { s with heap := h2, toks := tk2 }) (d := .int v) (inH_nG _) (ok.u 100 (by lia)) hD rfl i2.nG_str (by rw [dget_dir, hx]; rfl) (by unfold dirD; rw [List.length_map]; exact hz) fun vv h4 tk4 iv hD4 s4 => ?_
  refine nn fun hno_ => ?_
  obtain ⟨des', c', o4, e4⟩ := hD4.obj
  refine hno_ ?_
  clear hno_
  rw [ddel_dir] at e4
  exact q h4 tk4 _ _ (S2.mutR ⟨_, d1⟩ s4.extBut o4 rfl (S2.wr.setDir ha hl e4 (nodup_adel (S2.wr.nodD t l hl) _)))

/-- world['folders'].pop(e2) -/
theorem Wst.popFol {e2 : Expr} {t : Int} {l : List (Str × Int)} {p1 p2 p3 ap p5 p6 : Pos} {kd : Nat} {Q : Flow → Shared → Prop} (S : Wst w h₀ sc F G₀ ρ ω G R s.heap env aw af st fa W) (ok : Ok A k)
    (J2 : Ev prog w h₀ k sc ((wN, W.dt) :: ρ) e2 (.int t)) (hl : W.fol.lookup t = some l) (hz : W.fol.length ≤ 5000)
    (q : ∀ h' tk G' R' fa', Wst w h₀ sc F G₀ ρ ω G' R' h' env aw af st fa' { W with fol := adel W.fol t } → Q .next { s with heap := h', toks := tk })
    (he2 : autoParam (starred e2 = false) aR._auto_1) (hline : autoParam ((ap.endLine == p5.line) = true) aR._auto_1) :
    wpAny (model prog w) A (exec (.Expr (.Call (.Attribute (.Subscript (.Name wN p1) (.Constant (.str "folders") kd p2) p3) "pop" ap) [e2] [] p5) p6) env) Q E s := by
  refine wpAny_Expr_any (wpAny_Call_method1_late rfl hline (back_one he2) (S.folders_D ok (fun tk1 => ?_))) (hi := by unfold interactive; rw [S.fs.rd.scope, S.fs.rd.kind]; rfl)
  refine nn fun hno_ => ?_
  obtain ⟨fes, c, f1, f2⟩ := S.wr.fol
  refine hno_ ?_
  clear hno_
  have o1 := S.o2.inR _ _ f1
  refine ⟨"dict", "dict.pop", PySem.F.plainAttrs_dict, PySem.F.slot_dict_pop, PySem.F.type_dict_pop, ⟨_, o1, rfl⟩, fun b e => by cases e; exact ⟨_, o1, rfl⟩, ?_⟩
  rw [← back_one (pos := p5) (env := env) he2]
  have S1' : Wst w h₀ sc F G₀ ρ ω G R ({ s with toks := tk1 } : Shared).heap env aw af st fa W := S
  refine callWith_method1 (hplain := star_none (by rfl)) (S1'.evs ok (Evs.cons J2 Evs.nil he2) (by simp [nd]) fun vs h2 tk2 k2 i2 S2 => ?_) (star_cons he2)
  cases i2 with
  | cons i2 r2 =>
  cases r2
  obtain ⟨T, Z⟩ := S2.frz
  refine nn fun hno_ => ?_
  obtain ⟨i, a, hi1, hi2, hi3⟩ := fa_at S2.wr.keys S2.wr.nodF hl
  refine hno_ ?_
  clear hno_
  refine nn fun hno_ => ?_
  obtain ⟨ent, he1, he2'⟩ := f2.at hi1
  refine hno_ ?_
  clear hno_
  have ho := S2.o2.inR _ _ f1
  refine dictPopV (s := { s with heap := h2, toks := tk2 }) Z.rd.inh (ok.u 100 (by lia)) ho (S2.wr.ents Z.subR f2) (nodup_folD S2.wr.nodF) rfl (i2.mono Z.sub) hi3 he1 (by unfold folD; rw [List.length_map]; exact hz) fun h4 tk4 es' n' o4 e4 s4 => ?_
  have hFE : FE w es'.toList (adel fa t) := by
    rw [e4, ← erase_adel (by rw [S2.wr.keys]; exact S2.wr.nodF) hi1]
    exact f2.erase
  exact q h4 tk4 _ _ _ (S2.mutR ⟨_, f1⟩ s4.extBut o4 rfl (S2.wr.delFol hFE))
end
end Mine
end

section
open PySem PySem.Spec PySem.Calls PyProof.Rows PySem.W
namespace Mine
open scoped Classical

/-! Part PF: calls that change the world -/
noncomputable abbrev noX : Addr → Prop := fun _ => False
open Classical in
/-- all that a call keeps -/
noncomputable def Fw (X : Addr → Prop) (h : Heap) (aw : Addr) (R : Gh) : Gh := fun b => if b = aw ∨ R b ≠ none ∨ X b then none else h.get? b
theorem Fw_some {X : Addr → Prop} {h : Heap} {aw b : Addr} {R : Gh} {o : Obj} (e : Fw X h aw R b = some o) : b ≠ aw ∧ R b = none ∧ ¬ X b ∧ h.get? b = some o := by
  unfold Fw at e
  split at e
  · cases e
  · rename_i q
    refine ⟨fun c => q (.inl c), ?_, fun c => q (.inr (.inr c)), e⟩
    cases r : R b with
    | none => rfl
    | some o => exact absurd (.inr (.inl (by rw [r]; simp))) q
theorem Fw_of {X : Addr → Prop} {h : Heap} {aw b : Addr} {R : Gh} {o : Obj} (h1 : b ≠ aw) (h2 : R b = none) (h3 : ¬ X b) (e : h.get? b = some o) : Fw X h aw R b = some o := by
  unfold Fw
  rw [if_neg]
  · exact e
  · rintro (q | q | q)
    · exact h1 q
    · exact q h2
    · exact h3 q
theorem Fw_no {X : Addr → Prop} {h : Heap} {aw b : Addr} {R : Gh} (q : b = aw ∨ R b ≠ none ∨ X b) : Fw X h aw R b = none := by unfold Fw; rw [if_pos q]
theorem Fw_none {X : Addr → Prop} {h : Heap} {aw b : Addr} {R : Gh} (e : Fw X h aw R b = none) : b = aw ∨ (∃ o, R b = some o) ∨ X b ∨ h.get? b = none := by
  by_cases h1 : b = aw
  · exact .inl h1
  · cases h2 : R b with
    | some o => exact .inr (.inl ⟨o, rfl⟩)
    | none =>
      by_cases hX : X b
      · exact .inr (.inr (.inl hX))
      · cases h3 : h.get? b with
        | none => exact .inr (.inr (.inr rfl))
        | some o => rw [Fw_of h1 h2 hX h3] at e; cases e

section
variable {prog : Program} {w : World} {h₀ : Heap} {sc : Scope} {F G₀ R R' : Gh} {ρ ω ω' : List (Str × Dt)} {k : Nat} {G G' : Gh} {s : Shared} {env : Env} {A : Around} {E : Value → Shared → Prop} {h h' : Heap} {aw af st : Addr} {fa fa' : List (Int × Addr)} {W W' : Wd}

/-- a function whose first argument is the world -/
theorem enterW {f : Value} {xs : List Str} {ds : List Dt} {us : List Value} {body : List Stmt} {Q : Value → Shared → Prop} (fn : Fn h₀ f (wN :: xs) sc body) (ok : Ok A (k + 1)) (kp : Kp h₀ s.heap) (H : WH w h₀ s.heap aw af st fa R W)
    (iv : IsAll w nG us ds) (hl : xs.length = ds.length)
    (q : ∀ (A' : Around) env H tk (E' : Value → Shared → Prop), Ok A' k → Wst w h₀ sc (Fw noX s.heap aw R) nG (xs.zip ds) [] nG R H env aw af st fa W →
      wpAny (model prog w) A' (execs body env) (fun fl s' => Q (match fl with | .ret v => v | _ => .none) s') E' { s with heap := H, toks := tk }) :
    wpAny (model prog w) A (call f (.ref aw :: us)) Q E s := by
  have hnd := List.nodup_cons.mp fn.nodup
  refine nn fun hno_ => ?_
  obtain ⟨tn, tes, tc, t1, t2, t3, t4, ho, hes⟩ := id H.top
  refine hno_ ?_
  clear hno_
  refine wpAny_call (enterC (F := Fw noX s.heap aw R) (G := nG) (ρ := xs.zip ds) (vs := .ref aw :: us) fn ok (fun a o e => ?_) (fun a o e => (Fw_some e).2.2.2) (sub_nG _) (by rw [List.length_cons, List.length_cons, iv.length, hl]) (fun x d e => ?_) fun A' env HH tk E' ok' kpH X hat hoff => ?_)
  · refine Fw_of (fun q => ?_) ?_ id (kp a o e)
    · subst q; rw [H.fr0] at e; cases e
    · cases q : R a with
      | none => rfl
      | some o' => rw [H.frR a o' q] at e; cases e
  · refine nn fun hno_ => ?_
    obtain ⟨v, hv, iv'⟩ := zip_look iv x d e
    refine hno_ ?_
    clear hno_
    refine ⟨v, ?_, iv'⟩
    have hx : x ≠ wN := by
      rintro rfl
      exact hnd.1 (List.of_mem_zip (mem_of_look e)).1
    rw [List.zip_cons_cons, List.lookup_cons, beq_eq_false_iff_ne.mpr hx]; exact hv
  · have hw : At HH env wN (.ref aw) := hat wN (.ref aw) (by rw [List.zip_cons_cons, List.lookup_cons, beq_self_eq_true])
    obtain ⟨n1, n2⟩ := hoff _ _ ho
    have Fa : Fw noX s.heap aw R aw = none := Fw_no (.inl rfl)
    have top' : TopO w HH aw af st W.last := ⟨tn, tes, tc, t1, t2, t3, t4, kpH _ _ ho, hes⟩
    have X' := X.addOwn (x := wN) (a := aw) (d := wD aw af st W.last) hw (wD_of top') rfl Fa n1 n2 (fun y d b e => by simp at e) rfl
    refine q A' env HH tk E' ok' ⟨X', ⟨H.inR.kp kpH, fun a o e => ?_⟩, H.wr⟩
    obtain ⟨m1, m2⟩ := hoff _ _ (H.inR _ _ e)
    refine ⟨Fw_no (.inr (.inl (by rw [e]; simp))), rfl, m1, m2, fun y d b hy hb => ?_⟩
    have hyw := one_bind hy
    subst hyw
    obtain rfl := ref_inj (hw.det hb)
    rintro rfl
    rw [H.offT] at e; cases e

theorem Wst.leave {X : Addr → Prop} (hX0 : ∀ b, X b → h₀.get? b = none) (H : WH w h₀ h aw af st fa R W) (kp : Kp h₀ h) (S : Wst w h₀ sc (Fw X h aw R) G₀ ρ ω G R' h' env aw af st fa' W') : WH w h₀ h' aw af st fa' R' W' ∧ WStep X h h' aw R R' := by
  refine nn fun hno_ => ?_
  obtain ⟨hat, ht, hG, hF, hL, hc, hR⟩ := S.top
  refine hno_ ?_
  clear hno_
  have new : ∀ b o, R' b = some o → (∃ o', R b = some o') ∨ h.get? b = none ∨ X b := fun b o e => by
    rcases Fw_none (S.o2.off b o e).f with q | q | q | q
    · subst q; rw [hR] at e; cases e
    · exact .inl q
    · exact .inr (.inr q)
    · exact .inr (.inl q)
  refine ⟨⟨ht, S.o2.inR, hR, S.wr, H.fr0, fun b o e => ?_⟩, ⟨fun b o h1 h2 h3 e => S.fs.inF b o (Fw_of h1 h2 h3 e), new⟩⟩
  rcases new b o e with ⟨o', q⟩ | q | q
  · exact H.frR b o' q
  · exact kp.none q
  · exact hX0 b q

/-- what the caller has behind the call -/
theorem Wst.after {Z : Addr → Prop} (S : Wst w h₀ sc F G₀ ρ ω G R h env aw af st fa W) (H : WH w h₀ h' aw af st fa' R' W') (st' : WStep Z h h' aw R R') (hω : ω.lookup wN = none)
    (hZ : ∀ b, Z b → F b = none ∧ G b = none ∧ b ≠ env.locals ∧ (∀ y c, env.cells.lookup y = some c → b ≠ c) ∧ (∀ y d a, List.lookup y ((wN, wD aw af st W.last) :: ω) = some d → At h env y (.ref a) → a ≠ b)) : Wst w h₀ sc F G₀ ρ ω G R' h' env aw af st fa' W' := by
  obtain ⟨hat, _, hG, hF, hL, hc, hR⟩ := S.top
  have hlk : ∀ l', List.lookup wN ((wN, wD aw af st l') :: ω) = some (wD aw af st l') := fun l' => by rw [List.lookup_cons, beq_self_eq_true]
  have kb' : ∀ b o, ¬ (b = aw ∨ R b ≠ none ∨ Z b) → h.get? b = some o → h'.get? b = some o := fun b o hb e => st'.keep b o (fun q => hb (.inl q)) (by
    cases q : R b with
    | none => rfl
    | some o => exact absurd (.inr (.inl (by rw [q]; simp))) hb) (fun q => hb (.inr (.inr q))) e
  have off' : ∀ {b}, (b = aw ∨ R b ≠ none ∨ Z b) → b = aw ∨ (∃ o, R b = some o) ∨ Z b := fun {b} hb => by
    rcases hb with q | q | q
    · exact .inl q
    · cases r : R b with
      | none => exact absurd r q
      | some o => exact .inr (.inl ⟨o, rfl⟩)
    · exact .inr (.inr q)
  have nF : ∀ b, (b = aw ∨ R b ≠ none ∨ Z b) → F b = none := fun b hb => by
    rcases off' hb with rfl | ⟨o, q⟩ | q
    · exact hF
    · exact (S.o2.off b o q).f
    · exact (hZ b q).1
  have nGG : ∀ b, (b = aw ∨ R b ≠ none ∨ Z b) → G b = none := fun b hb => by
    rcases off' hb with rfl | ⟨o, q⟩ | q
    · exact hG
    · exact (S.o2.off b o q).g
    · exact (hZ b q).2.1
  have nL : ¬ (env.locals = aw ∨ R env.locals ≠ none ∨ Z env.locals) := fun hb => by
    rcases off' hb with e | ⟨o, q⟩ | q
    · exact hL e.symm
    · exact (S.o2.off _ o q).nl rfl
    · exact (hZ _ q).2.2.1 rfl
  have nc : ∀ y c, env.cells.lookup y = some c → ¬ (c = aw ∨ R c ≠ none ∨ Z c) := fun y c e hb => by
    rcases off' hb with q | ⟨o, q⟩ | q
    · exact hc y c e q.symm
    · exact (S.o2.off _ o q).nc y c e rfl
    · exact (hZ _ q).2.2.2.1 y c e rfl
  have X : Fs w h₀ sc F G₀ ρ ((wN, wD aw af st W'.last) :: ω) G h' env := by
    refine S.fs.chg (P := fun b => b = aw ∨ R b ≠ none ∨ Z b) kb' nF nGG nL nc fun y d' hy => ?_
    rw [List.lookup_cons] at hy
    by_cases hyw : y = wN
    · subst hyw
      rw [beq_self_eq_true] at hy; cases hy
      refine ⟨_, hlk _, fun a ha _ => ?_⟩
      obtain rfl := ref_inj (ha.det hat)
      exact wD_of H.top
    · rw [beq_eq_false_iff_ne.mpr hyw] at hy
      have hy' : List.lookup y ((wN, wD aw af st W.last) :: ω) = some d' := by rw [List.lookup_cons, beq_eq_false_iff_ne.mpr hyw]; exact hy
      refine ⟨d', hy', fun a ha ho => ho.mono (Sub.refl G) fun o e => kb' a o (fun hb => ?_) e⟩
      rcases off' hb with e | ⟨o2, q⟩ | q
      · subst e; exact hyw (S.fs.oapart y wN _ _ a hy' (hlk _) ha hat)
      · exact (S.o2.off _ o2 q).no y d' a hy' ha rfl
      · exact (hZ _ q).2.2.2.2 y d' a hy' ha rfl
  have fresh : ∀ {b : Addr}, h.get? b = none → ∀ {c : Addr} {o2 : Obj}, h.get? c = some o2 → b ≠ c := by
    intro b hn c o2 e q
    subst q; rw [hn] at e; cases e
  refine ⟨X, ⟨H.inR, fun b o e => ?_⟩, H.wr⟩
  rcases st'.new b o e with ⟨o', q⟩ | q | q
  · refine nn fun hno_ => ?_
    refine nn fun hno_ => ?_
    obtain ⟨g1, g2, g3, g4, g5⟩ := S.o2.off b o' q
    refine hno_ ?_
    clear hno_
    refine hno_ ?_
    clear hno_
    refine ⟨g1, g2, g3, g4, fun y d c hy hcat => ?_⟩
    have : ∃ d2, List.lookup y ((wN, wD aw af st W.last) :: ω) = some d2 := by
      rw [List.lookup_cons] at hy ⊢
      by_cases hyw : y = wN
      · subst hyw; rw [beq_self_eq_true]; exact ⟨_, rfl⟩
      · rw [beq_eq_false_iff_ne.mpr hyw] at hy ⊢; exact ⟨d, hy⟩
    refine nn fun hno_ => ?_
    obtain ⟨d2, hd2⟩ := this
    refine hno_ ?_
    clear hno_
    refine nn fun hno_ => ?_
    obtain ⟨c', q1, _⟩ := S.fs.own y d2 hd2
    refine hno_ ?_
    clear hno_
    obtain rfl := ref_inj ((q1.chg kb' nL nc).det hcat)
    exact g5 y d2 _ hd2 q1
  · have ne := @fresh b q
    refine ⟨?_, ?_, ?_, fun y c hcell => ?_, fun y d c hy hcat => ?_⟩
    · cases r : F b with
      | none => rfl
      | some o => exact absurd rfl (ne (S.fs.inF b o r))
    · cases r : G b with
      | none => rfl
      | some o => exact absurd rfl (ne (S.fs.rd.inh b o r))
    · obtain ⟨m, oL, es, ep, hLive, _⟩ := S.fs.ns; exact ne hLive
    · obtain ⟨_, _, _, v, oc, hcl, _⟩ := S.fs.cell y c hcell; exact ne hcl
    · have : ∃ d2, List.lookup y ((wN, wD aw af st W.last) :: ω) = some d2 := by
        rw [List.lookup_cons] at hy ⊢
        by_cases hyw : y = wN
        · subst hyw; rw [beq_self_eq_true]; exact ⟨_, rfl⟩
        · rw [beq_eq_false_iff_ne.mpr hyw] at hy ⊢; exact ⟨d, hy⟩
      obtain ⟨d2, hd2⟩ := this
      obtain ⟨c', q1, q2, _⟩ := S.fs.own y d2 hd2
      obtain ⟨o3, hl3⟩ := q2.live
      obtain rfl := ref_inj ((q1.chg kb' nL nc).det hcat)
      exact Ne.symm (ne hl3)
  · obtain ⟨g1, g2, g3, g4, g5⟩ := hZ b q
    refine ⟨g1, g2, g3, g4, fun y d c hy hcat => ?_⟩
    have : ∃ d2, List.lookup y ((wN, wD aw af st W.last) :: ω) = some d2 := by
      rw [List.lookup_cons] at hy ⊢
      by_cases hyw : y = wN
      · subst hyw; rw [beq_self_eq_true]; exact ⟨_, rfl⟩
      · rw [beq_eq_false_iff_ne.mpr hyw] at hy ⊢; exact ⟨d, hy⟩
    obtain ⟨d2, hd2⟩ := this
    obtain ⟨c', q1, _⟩ := S.fs.own y d2 hd2
    obtain rfl := ref_inj ((q1.chg kb' nL nc).det hcat)
    exact g5 y d2 _ hd2 q1

theorem Wst.wh (S : Wst w h₀ sc F G₀ ρ ω G R h env aw af st fa W) : WH w h₀ h aw af st fa R W := by
  obtain ⟨hat, ht, hG, hF, hL, hc, hR⟩ := S.top
  refine ⟨ht, S.o2.inR, hR, S.wr, ?_, fun b o e => ?_⟩
  · cases q : h₀.get? aw with
    | none => rfl
    | some o => rw [S.fs.base _ o q] at hF; cases hF
  · have := (S.o2.off b o e).f
    cases q : h₀.get? b with
    | none => rfl
    | some o => rw [S.fs.base _ o q] at this; cases this

/-- what a call does that changes the world -/
structure DeedC (prog : Program) (w : World) (h₀ : Heap) (k : Nat) (f : Value) (ds : List Dt) (W W' : Wd) : Prop where
  run : ∀ (A : Around) (s : Shared) (E : Value → Shared → Prop) (us : List Value) (aw af st : Addr) (fa : List (Int × Addr)) (R : Gh), Ok A k → Kp h₀ s.heap → WH w h₀ s.heap aw af st fa R W → IsAll w nG us ds →
    wpAny (model prog w) A (call f (.ref aw :: us)) (fun v s' => ∃ h' tk fa' R', s' = { s with heap := h', toks := tk } ∧ WH w h₀ h' aw af st fa' R' W' ∧ WStep noX s.heap h' aw R R') E s

theorem DeedC.up {f : Value} {ds : List Dt} {k' : Nat} (H : DeedC prog w h₀ k f ds W W') (hk : k ≤ k') : DeedC prog w h₀ k' f ds W W' := .mk fun A s E us aw af st fa R ok kp wh iv => H.run A s E us aw af st fa R (ok.mono hk) kp wh iv

/-- a body that changes the world -/
theorem DeedC.of {f : Value} {xs : List Str} {ds : List Dt} {body : List Stmt} (fn : Fn h₀ f (wN :: xs) sc body) (hl : xs.length = ds.length)
    (q : ∀ (A : Around) (F : Gh) (R : Gh) (env : Env) (s : Shared) (E : Value → Shared → Prop) (aw af st : Addr) (fa : List (Int × Addr)) (Q : Flow → Shared → Prop), Ok A k → Wst w h₀ sc F nG (xs.zip ds) [] nG R s.heap env aw af st fa W →
      (∀ fl ρ' G' R' h' tk fa', Wst w h₀ sc F nG ρ' [] G' R' h' env aw af st fa' W' → Q fl { s with heap := h', toks := tk }) → wpAny (model prog w) A (execs body env) Q E s) :
    DeedC prog w h₀ (k + 1) f ds W W' := .mk fun A s E us aw af st fa R ok kp wh iv => by
  refine enterW fn ok kp wh iv hl fun A' env H tk E' ok' S => ?_
  refine q A' _ R env _ E' aw af st fa _ ok' S fun fl ρ' G' R' h' tk' fa' S' => ?_
  obtain ⟨h1, h2⟩ := S'.leave (fun _ q => q.elim) wh kp
  exact ⟨h', tk', fa', R', rfl, h1, h2⟩

/-- f(world, e, ..) -/
theorem Wst.callW {x : Str} {np wp pos ep : Pos} {es : List Expr} {f : Value} {ds : List Dt} {W' : Wd} {Q : Flow → Shared → Prop} (S : Wst w h₀ sc F G₀ ρ ω G R s.heap env aw af st fa W) (ok : Ok A k) (hv : GVal h₀ x f) (hf : Callee h₀ f)
    (H : Evs prog w h₀ k sc ((wN, W.dt) :: ρ) es ds) (hfl : ∀ d ∈ ds, flat d = true) (C : DeedC prog w h₀ k f ds W W')
    (q : ∀ h' tk G' R' fa', Wst w h₀ sc F G₀ ρ ω G' R' h' env aw af st fa' W' → Q .next { s with heap := h', toks := tk })
    (hω : autoParam (ω.lookup wN = none) aR._auto_1)
    (hx : autoParam (sc.names.lookup x = some .globalImplicit) aR._auto_1) (hd : autoParam ((x == ("__debug__" : Str)) = false) aD._auto_1) (hp : autoParam ((es.all fun e => !starred e) = true) aR._auto_1) :
    wpAny (model prog w) A (exec (.Expr (.Call (.Name x np) (.Name wN wp :: es) [] pos) ep) env) Q E s := by
  refine wpAny_Expr_any (wpAny_Call_ofName (gname_D S.fs.rd hx hv hd (callW_D hf (wpAny_items_cons (wpAny_Name (load_At S.fs S.top.hat (by decide) ?_) (by decide)) (star_cons rfl)) (star_cons rfl) (star_none hp)))) (hi := by unfold interactive; rw [S.fs.rd.scope, S.fs.rd.kind]; rfl)
  have hnd : ∀ d ∈ ds, nd d = true := fun d hm => by
    have := hfl d hm
    cases d <;> first | rfl | (simp [Mine.flat] at this)
  refine S.evs ok H hnd fun us h1 tk1 k1 i1 S1 => ?_
  refine ⟨S1.fs.rd.keep, ?_⟩
  refine wpAny_mono (C.run A _ E us aw af st fa R ok S1.fs.rd.keep S1.wh (i1.flat hfl)) (fun v s' x => ?_) fun _ _ e => e
  obtain ⟨h', tk, fa', R', rfl, wh, step⟩ := x
  exact q h' tk _ R' fa' (S1.after wh step hω fun _ q => q.elim)
end
end Mine
end

section
open PySem PySem.Spec PySem.Calls PyProof.Rows PySem.W
namespace Mine
open scoped Classical

/-! Part PG: _law_made, _law_taken -/
section
variable {prog : Program} {w : World} {h₀ : Heap} {sc : Scope} {F G₀ R R' : Gh} {ρ ω ω' : List (Str × Dt)} {k : Nat} {G G' : Gh} {s : Shared} {env : Env} {A : Around} {E : Value → Shared → Prop} {h h' : Heap} {aw af st : Addr} {fa fa' : List (Int × Addr)} {W W' : Wd}

theorem cmpEq_empty {a b : Addr} {es : Array DictEntry} {n m : Nat} {Q : Value → Shared → Prop} (hA : A.units + 100 < cLine) (ha : s.heap.get? a = some (dicObj es n)) (hb : s.heap.get? b = some (dicObj #[] m)) (na : a ≠ sysModules) (nb : b ≠ sysModules)
    (h : Q (.bool es.isEmpty) s) : wpAny (model prog w) A (compareOp .Eq (.ref a) (.ref b)) Q E s := by
  have Ta : s.TypeIs (.ref a) "dict" := ⟨_, ha, rfl⟩
  have Tb : s.TypeIs (.ref b) "dict" := ⟨_, hb, rfl⟩
  show wpAny _ _ (richCompare .Eq (.ref a) (.ref b)) Q E s
  refine wpAny_richCompare_same_room (op := .Eq) Ta Tb PySem.F.slot_dict_eq (wpAny_call_entry PySem.F.slot_dict_eq Ta PySem.F.entry_dict_eq ?_ (PySem.F.args_dict_eq_2 _ _)) (by omega)
  show wpAny _ _ (Builtin.Dict.dictSlotArgs "__eq__" ⟨[.ref a, .ref b], []⟩ >>= _) _ _ s
  refine wpAny_bind ?_
  unfold Builtin.Dict.dictSlotArgs
  refine wpAny_bind (wpAny_notOrdered_dict Ta ?_)
  show wpAny _ _ (pure (Value.ref a, Value.ref b)) _ _ s
  refine wpAny_pure ?_
  dsimp only
  refine wpAny_bind (wpAny_isInstance Tb PySem.F.sub_dict_dict ?_)
  simp only [Bool.not_true, Bool.false_eq_true, if_false]
  refine wpAny_bind (wpAny_pure ?_)
  show wpAny _ _ (Builtin.Dict.samePairs _ a b >>= _) _ _ s
  refine wpAny_bind ?_
  unfold Builtin.Dict.samePairs
  unfold Builtin.Dict.showsAll
  rw [if_neg (by rw [beq_eq_false_iff_ne.mpr na]; exact Bool.false_ne_true)]
  refine wpAny_bind (wpAny_pure ?_)
  rw [if_neg (by rw [beq_eq_false_iff_ne.mpr nb]; exact Bool.false_ne_true)]
  refine wpAny_bind (wpAny_pure ?_)
  refine wpAny_bind (wpAny_dictEntries ha rfl ?_)
  refine wpAny_bind (wpAny_dictEntries hb rfl ?_)
  obtain ⟨l⟩ := es
  cases l with
  | cons e r =>
    rw [if_pos (by simp)]
    refine wpAny_bind (wpAny_rule (wpAny_pure ?_))
    exact wpAny_pure ⟨_, rfl, fun x => (nomatch x), h⟩
  | nil =>
    rw [if_neg (by simp)]
    refine wpAny_bind (wpAny_dictEpoch ha rfl ?_)
    simp only [Std.Legacy.Range.forIn_eq_forIn_range', Std.Legacy.Range.size, List.size_toArray, List.length_nil, Nat.sub_zero, Nat.add_sub_cancel, Nat.div_one, List.range'_zero, List.forIn_nil]
    refine wpAny_bind (wpAny_pure (wpAny_pure ?_))
    exact wpAny_pure ⟨_, rfl, fun x => (nomatch x), h⟩

/-- {} -/
theorem Ev.dictNil {p : Pos} (hl : h₀.NoLimit) : Ev prog w h₀ k sc ρ (.Dict [] [] p) (.dict []) := .mk fun A G env s E ok R =>
  wpAny_Dict_empty (by
    have kp := Kp.push s.heap { cls := .type "dict", data := .dict #[] }
    refine Po.val kp (.dict (es := #[]) (n := 0) ?_ (not_sys hl R.keep) .nil List.nodup_nil)
    exact exl_push (h := s.heap) (h' := s.heap) (G := G) _ (Kp.refl _))

theorem Cmp.eqNil {kvs : List (Dt × Dt)} : Cmp prog w k .Eq (.dict kvs) (.dict []) kvs.isEmpty := .mk fun A G s E v u Q ok gh iv iu h => by
  cases iv with
  | @dict a es n _ ha hm hs hn =>
  cases iu with
  | @dict b es' n' _ hb hm' hs' hn' =>
  have e' : es' = #[] := by
    have := hs'.length
    simpa using this
  subst e'
  refine cmpEq_empty (ok.u 100 (by omega)) (gh _ _ ha) (gh _ _ hb) hm hm' ?_
  have e2 : es.isEmpty = kvs.isEmpty := by
    have hl := hs.length
    obtain ⟨l⟩ := es
    cases l <;> cases kvs <;> simp_all
  rw [e2]
  exact h s.toks

theorem Ev.lastW {e : Expr} {kd : Nat} {p p' : Pos} (H : Ev prog w h₀ k sc ρ e W.dt) : Ev prog w h₀ k sc ρ (.Subscript e (.Constant (.str "last") kd p) p') (.int W.last) :=
  Ev.sub H (Ev.str (by decide +kernel)) (Item.dict (get_last W) rfl)

noncomputable def madeW (W : Wd) (t : Int) (x : Str) (b : Bool) : Wd := match W.fol.lookup t with
  | none => W
  | some l => if (l.lookup x).isSome then W else
    { fol := if b then aset (aset W.fol t (aset l x (W.last + 1))) (W.last + 1) [] else aset W.fol t (aset l x (W.last + 1)), sts := aset W.sts (W.last + 1) 0, last := W.last + 1 }
noncomputable def takenW (W : Wd) (t : Int) (x : Str) (v : Int) : Wd := match W.fol.lookup t with
  | none => W
  | some l => match W.fol.lookup v with
    | none => { W with fol := aset W.fol t (adel l x) }
    | some d => if d.isEmpty then { W with fol := adel (aset W.fol t (adel l x)) v } else W

/-- sizes of a world -/
structure WSz (W : Wd) : Prop where
  fol : W.fol.length ≤ 1000
  sts : W.sts.length ≤ 1000
  dir : ∀ t l, W.fol.lookup t = some l → l.length ≤ 1000

theorem made_dc (hlim : h₀.NoLimit) {f : Value} (fn : Fn h₀ f ["world", "folder", "name", "is_folder"] (scopeAt 15) (bodyAt 15)) (W : Wd) (sz : WSz W) (t : Int) (x : Str) (b : Bool) {l : List (Str × Int)} (hl : W.fol.lookup t = some l) (hn : W.fol.lookup (W.last + 1) = none) :
    DeedC prog w h₀ (k + 1) f [.int t, .str x, .bool b] W (madeW W t x b) := by
  refine DeedC.of (xs := ["folder", "name", "is_folder"]) fn rfl fun A F R env s E aw af st fa Q ok S q => ?_
  show wpAny _ _ (execs (bodyAt 15) env) _ _ _
  replace S : Wst w h₀ (scopeAt 15) F nG [("folder", .int t), ("name", .str x), ("is_folder", .bool b)] [] nG R s.heap env aw af st fa W := S
  have hM : madeW W t x b = if (l.lookup x).isSome then W else { fol := if b then aset (aset W.fol t (aset l x (W.last + 1))) (W.last + 1) [] else aset W.fol t (aset l x (W.last + 1)), sts := aset W.sts (W.last + 1) 0, last := W.last + 1 } := by
    unfold madeW; rw [hl]
  have hne : W.last + 1 ≠ t := by rintro e; rw [e, hl] at hn; cases hn
  have zl := sz.dir t l hl
  refine wpAny_execs_cons (S.ite ok (Tr.cmp Ev.nm (Ev.dir (Ev.folders (W := W) Ev.nm) Ev.nm hl) (Cmp.notHas rfl)) (fun hb h1 tk1 S1 => ?_) (fun hb h1 tk1 S1 => ?_))
  · rw [dhas_dir] at hb
    have hb' : (l.lookup x).isSome = false := by simpa using hb
    rw [hb'] at hM
    simp only [Bool.false_eq_true, if_false] at hM
    refine wpAny_execs_cons (Wst.setLast (s := { s with heap := h1, toks := tk1 }) S1 ok (Ev.bin (Ev.lastW (W := W) Ev.nm) Ev.int Bin.add_int) rfl fun h2 tk2 G2 S2 => ?_)
    refine wpAny_execs_cons (Wst.setDir (s := { s with heap := h2, toks := tk2 }) S2 ok (Ev.lastW (W := { W with last := W.last + 1 }) Ev.nm) Ev.nm Ev.nm hl (by omega) fun h3 tk3 G3 R3 S3 => ?_)
    refine wpAny_execs_cons (Wst.setSts (s := { s with heap := h3, toks := tk3 }) S3 ok Ev.int (Ev.lastW (W := { W with fol := aset W.fol t (aset l x (W.last + 1)), last := W.last + 1 }) Ev.nm) (by have := sz.sts; show W.sts.length ≤ 5000; omega) fun h4 tk4 G4 R4 S4 => ?_)
    refine wpAny_execs_cons (Wst.ite (s := { s with heap := h4, toks := tk4 }) S4 ok (Tr.name Ev.nm) (fun hb h5 tk5 S5 => ?_) (fun hb h5 tk5 S5 => ?_))
    · subst hb
      refine wpAny_execs_cons (Wst.newDir (s := { s with heap := h5, toks := tk5 }) hlim S5 ok (Ev.lastW (W := { fol := aset W.fol t (aset l x (W.last + 1)), sts := aset W.sts (W.last + 1) 0, last := W.last + 1 }) Ev.nm) ?_ ?_ fun h6 tk6 G6 R6 fa6 S6 => ?_)
      · show (aset W.fol t _).lookup (W.last + 1) = none
        rw [look_aset, if_neg hne]; exact hn
      · refine Nat.le_trans (aset_len _ _ _) ?_
        have := sz.fol
        show W.fol.length + 1 ≤ 5000
        omega
      · refine wpAny_execs_nil (wpAny_execs_nil (wpAny_execs_nil ?_))
        rw [hM] at q
        exact q _ _ _ _ _ _ _ S6
    · subst hb
      refine wpAny_execs_nil (wpAny_execs_nil (wpAny_execs_nil ?_))
      rw [hM] at q
      exact q _ _ _ _ _ _ _ S5
  · rw [dhas_dir] at hb
    have hb' : (l.lookup x).isSome = true := by simpa using hb
    rw [hb', if_pos rfl] at hM
    refine wpAny_execs_nil (wpAny_execs_nil ?_)
    rw [hM] at q
    exact q _ _ _ _ _ _ _ S1

theorem taken_dc (hlim : h₀.NoLimit) {f : Value} (fn : Fn h₀ f ["world", "folder", "name", "thing"] (scopeAt 17) (bodyAt 17)) (W : Wd) (sz : WSz W) (t v : Int) (x : Str) {l : List (Str × Int)} (hl : W.fol.lookup t = some l) (hx : l.lookup x = some v) (hne : v ≠ t) :
    DeedC prog w h₀ (k + 1) f [.int t, .str x, .int v] W (takenW W t x v) := by
  refine DeedC.of (xs := ["folder", "name", "thing"]) fn rfl fun A F R env s E aw af st fa Q ok S q => ?_
  show wpAny _ _ (execs (bodyAt 17) env) _ _ _
  replace S : Wst w h₀ (scopeAt 17) F nG [("folder", .int t), ("name", .str x), ("thing", .int v)] [] nG R s.heap env aw af st fa W := S
  have hM : takenW W t x v = match W.fol.lookup v with
    | none => { W with fol := aset W.fol t (adel l x) }
    | some d => if d.isEmpty then { W with fol := adel (aset W.fol t (adel l x)) v } else W := by
    unfold takenW; rw [hl]
  have zl := sz.dir t l hl
  have zf := sz.fol
  have za := aset_len W.fol t (adel l x)
  -- what the get finds
  obtain ⟨kvs, hg, hem⟩ : ∃ kvs, (dget (folD W.fol) (.int v)).getD (.dict []) = .dict kvs ∧ kvs.isEmpty = (match W.fol.lookup v with | none => true | some d => d.isEmpty) := by
    rw [dget_fol]
    cases W.fol.lookup v with
    | none => exact ⟨[], rfl, rfl⟩
    | some d => exact ⟨dirD d, rfl, by unfold dirD; cases d <;> rfl⟩
  have T : Ev prog w h₀ k (scopeAt 17) [("world", W.dt), ("folder", .int t), ("name", .str x), ("thing", .int v)] (match bodyAt 17 with | [.If (.Compare e _ _ _) _ _ _] => e | _ => .Constant .none 0 default) (.dict kvs) := by
    rw [← hg]
    exact Ev.meth (Ev.folders (W := W) Ev.nm) (Evs.cons Ev.nm (Evs.cons (Ev.dictNil hlim) Evs.nil)) (Mt.get rfl)
  refine wpAny_execs_cons (S.ite ok (Tr.cmp T (Ev.dictNil hlim) Cmp.eqNil) (fun hb h1 tk1 S1 => ?_) (fun hb h1 tk1 S1 => ?_))
  · rw [hem] at hb
    refine wpAny_execs_cons (Wst.popDir (s := { s with heap := h1, toks := tk1 }) S1 ok Ev.nm Ev.nm hl hx (by omega) fun h2 tk2 G2 R2 S2 => ?_)
    refine wpAny_execs_cons (Wst.ite (s := { s with heap := h2, toks := tk2 }) S2 ok (Tr.folder Ev.nm (Ev.folders (W := { W with fol := aset W.fol t (adel l x) }) Ev.nm)) (fun hb2 h3 tk3 S3 => ?_) (fun hb2 h3 tk3 S3 => ?_))
    · have hb3 : ((aset W.fol t (adel l x)).lookup v).isSome = true := hb2
      rw [look_aset, if_neg hne] at hb3
      obtain ⟨d, hd⟩ := Option.isSome_iff_exists.mp hb3
      rw [hd] at hb hM
      dsimp only at hb hM
      rw [if_pos hb] at hM
      refine wpAny_execs_cons (Wst.popFol (s := { s with heap := h3, toks := tk3 }) (l := d) S3 ok Ev.nm (by show (aset W.fol t (adel l x)).lookup v = some d; rw [look_aset, if_neg hne]; exact hd) (by show (aset W.fol t (adel l x)).length ≤ 5000; omega) fun h4 tk4 G4 R4 fa4 S4 => ?_)
      refine wpAny_execs_nil (wpAny_execs_nil (wpAny_execs_nil ?_))
      rw [hM] at q
      exact q _ _ _ _ _ _ _ S4
    · have hb3 : ((aset W.fol t (adel l x)).lookup v).isSome = false := hb2
      rw [look_aset, if_neg hne] at hb3
      have hd : W.fol.lookup v = none := by cases r : W.fol.lookup v with | none => rfl | some d => rw [r] at hb3; cases hb3
      rw [hd] at hM
      refine wpAny_execs_nil (wpAny_execs_nil (wpAny_execs_nil ?_))
      rw [hM] at q
      exact q _ _ _ _ _ _ _ S3
  · rw [hem] at hb
    refine wpAny_execs_nil (wpAny_execs_nil ?_)
    cases hd : W.fol.lookup v with
    | none => rw [hd] at hb; cases hb
    | some d =>
      rw [hd] at hb hM
      dsimp only at hb hM
      rw [if_neg (by rw [hb]; exact Bool.false_ne_true)] at hM
      rw [hM] at q
      exact q _ _ _ _ _ _ _ S1
end
end Mine
end

section
open PySem PySem.Spec PySem.Calls PyProof.Rows PySem.W
namespace Mine
open scoped Classical

/-! Part PH: len of a dict, _law_pick -/
section
variable {prog : Program} {w : World} {h₀ : Heap} {sc : Scope} {F G₀ R R' : Gh} {ρ ω ω' : List (Str × Dt)} {k : Nat} {G G' : Gh} {s : Shared} {env : Env} {A : Around} {E : Value → Shared → Prop} {h h' : Heap} {aw af st : Addr} {fa fa' : List (Int × Addr)} {W W' : Wd}

theorem len_dict_raw {d : Addr} {es : Array DictEntry} {n : Nat} {Q : Value → Shared → Prop} (ho : s.heap.get? d = some (dicObj es n)) (hd : d ≠ sysModules) (hfit : es.size ≤ 5000)
    (h : ∀ t tk, Q (.int es.size t) { s with toks := tk }) : wpAny (model prog w) A (call (.builtin "len") [.ref d]) Q E s := by
  have hT : s.TypeIs (.ref d) "dict" := ⟨_, ho, rfl⟩
  refine Calls.call_function_entry PySem.kind_len PySem.plain_len PySem.entry_len (PySem.args_len1 _) ?_
  unfold Builtin.«len»
  refine wpAny_bind (m := oneArg "len" _) (wpAny_pure ?_)
  refine wpAny_bind (m := callSpecial? (.ref d) (Str.ofString "__len__")) (wpAny_callSpecial?_slot (name := Str.ofString "__len__") hT PySem.F.slot_dict_len
    (wpAny_call_entry PySem.F.slot_dict_len hT PySem.F.entry_dict_len ?_ (PySem.F.args_dict_len_1 _)))
  show wpAny _ _ (dictSize d >>= _) _ _ s
  unfold dictSize
  refine wpAny_bind (wpAny_bind (wpAny_dictEntries ho rfl (wpAny_pure ?_)))
  show wpAny _ _ (Builtin.Dict.pendingCount d >>= _) _ _ s
  refine wpAny_bind (wpAny_pendingCount_other (beq_eq_false_iff_ne.mpr hd) ?_)
  refine wpAny_ret_mkInt ?_
  rw [show ((es.size : Int) + ((0 : Nat) : Int)) = es.size by lia]
  refine wpAny_bind (wpAny_holding (wpAny_pure ?_))
  refine wpAny_bind (wpAny_letGo ?_)
  show wpAny _ _ (if ((es.size : Nat) : Int) < 0 then _ else _) _ _ _
  rw [if_neg (by lia)]
  show wpAny _ _ (if ((es.size : Nat) : Int) ≥ 2 ^ 63 then _ else _) _ _ _
  rw [if_neg (by lia)]
  exact wpAny_bind (wpAny_mkInt (wpAny_pure ⟨_, rfl, h _ _⟩))
theorem Cl.len_dict {kvs : List (Dt × Dt)} (hz : kvs.length ≤ 5000) : Cl prog w h₀ k (.builtin "len") [.dict kvs] (.int kvs.length) := .mk fun A G s E vs ok gh kp i => by
  cases i with
  | @cons v _ _ _ i j =>
    cases j
    cases i with
    | @dict a es n _ ha hm hs hn =>
      have e := hs.length
      simp only [Array.length_toList] at e
      refine len_dict_raw (gh _ _ ha) hm (by lia) fun t tk => ?_
      rw [e]
      exact Po.val (Kp.refl s.heap) (.int _ _)

theorem setItem0 {l : Addr} {kk : Int} {x v : Value} {n : Nat} {t : Tok} {Q : Unit → Shared → Prop} (hk : kk = 0) (ho : s.heap.get? l = some (lstObj #[x] n)) (q : ∀ h' n', h'.get? l = some (lstObj #[v] n') → Heap.SameBut l s.heap h' → Q () { s with heap := h' }) :
    wpAny (model prog w) A (setItem (.ref l) (.int kk t) v) Q E s := by
  have hl : s.heap.IsList l #[x] := ⟨_, ho, rfl, n, rfl⟩
  have h0 : 0 ≤ kk := by lia
  have hfit : kk < 2 ^ 63 := by lia
  unfold setItem
  try with_reducible refine wpAny_holding ?_
  first | refine wpAny_bind (wpAny_pure ?_) | skip
  refine wpAny_bind (wpAny_sequenceKey hl.typeIs (by decide) ?_)
  refine wpAny_bind (wpAny_callSpecial?_slot (name := Str.ofString "__setitem__") hl.typeIs PySem.slot_list_setitem
    (wpAny_call_entry PySem.slot_list_setitem hl.typeIs PySem.entry_list_setitem ?_ (PySem.args_list_setitem _ _ _)))
  show wpAny _ _ (Builtin.List.listSubscript? (.int kk t) >>= _) _ _ s
  refine wpAny_bind (wpAny_listSubscript_int (fitsIndex_of h0 hfit) ?_)
  clear hfit
  obtain ⟨j, rfl⟩ := Int.eq_ofNat_of_zero_le h0
  have hj : j = 0 := by lia
  subst hj
  show wpAny _ _ ((seqItemAt l 0 >>= fun r => pure (r.map (0, ·))) >>= _) _ _ s
  refine wpAny_bind (wpAny_bind (wpAny_seqItemAt ho rfl (wpAny_pure ?_)))
  show wpAny _ _ (setSeqItemAt l 0 v >>= _) _ _ s
  refine wpAny_bind (wpAny_setSeqItemAt ho rfl ?_)
  have hfin := IsL.update ho (·.setIfInBounds 0 v)
  first
    | exact wpAny_bind (wpAny_pure (wpAny_pure ⟨.none, rfl, wpAny_pure (q _ _ hfin (Heap.SameBut.update ..))⟩))
    | exact wpAny_pure ⟨.none, rfl, wpAny_pure (q _ _ hfin (Heap.SameBut.update ..))⟩

/-- a name that the frame owns is looked at for a while -/
theorem Fs.evFlat {x : Str} {d0 d : Dt} {e : Expr} {Q : Value → Shared → Prop} (X : Fs w h₀ sc F G₀ ρ ω G s.heap env) (ok : Ok A k) (hω : ω.lookup x = some d0) (hi : ∀ C fs, d0 ≠ .inst C fs) (H : Ev prog w h₀ k sc ((x, d0) :: ρ) e d) (hf : flat d = true)
    (q : ∀ v h' tk, Kp s.heap h' → Is w nG v d → Fs w h₀ sc F G₀ ρ ω (Mine.exl G s.heap h') h' env → Q v { s with heap := h', toks := tk }) : wpAny (model prog w) A (eval e env) Q E s := by
  refine nn fun hno_ => ?_
  obtain ⟨G₁, sb, _, X'⟩ := X.freeze hω hi
  refine hno_ ?_
  clear hno_
  exact H.go ok X'.rd fun v h1 tk1 k1 i1 R1 => q v h1 tk1 k1 (i1.flat hf) (X.exl k1)

theorem storeFA_D {x : Str} {v : Value} {d : Dt} {Q : Unit → Shared → Prop} (X : Fs w h₀ sc F G₀ ρ ω G s.heap env) (iv : Is w G v d) (hx : sc.names.lookup x = some .local ∨ sc.names.lookup x = some .cell) (hω : ω.lookup x = none)
    (c : ∀ h' tk, Fs w h₀ sc F G₀ ((x, d) :: ρ) ω G h' env → (∀ y u, y ≠ x → At s.heap env y u → At h' env y u) → At h' env x v → Q () { s with heap := h', toks := tk }) : wpAny (model prog w) A (storeName env x v) Q E s :=
  store_D X hx fun h2 tk2 hb hat hk hns hc => c h2 tk2 (X.bound hb hk hns hc (fun y d e q => by subst q; rw [hω] at e; cases e) fun y e hy => by
    rw [List.lookup_cons] at hy
    by_cases hyx : y = x
    · subst hyx; rw [beq_self_eq_true] at hy; cases hy; exact ⟨v, iv, hat⟩
    · rw [beq_eq_false_iff_ne.mpr hyx] at hy
      obtain ⟨u, hu, hau⟩ := X.rd.names y e hy
      exact ⟨u, hu, hk y u hyx hau⟩) hk hat

/-- _law_pick(one, many) -/
structure PickC (prog : Program) (w : World) (h₀ : Heap) (k : Nat) (f : Value) : Prop where
  run : ∀ (A : Around) (s : Shared) (E : Value → Shared → Prop) (ao : Addr) (d m : Int) (t : Tok), Ok A k → Kp h₀ s.heap → LAt w nG s.heap ao [.int d] → h₀.get? ao = none → m ≠ 0 → m.natAbs < 100000 →
    wpAny (model prog w) A (call f [.ref ao, .int m t]) (fun v s' => ∃ h' tk t', s' = { s with heap := h', toks := tk } ∧ v = .int (d.fmod m) t' ∧ LAt w nG h' ao [.int (d.fdiv m)] ∧ Heap.ExtBut ao s.heap h') E s

noncomputable def Fo (h : Heap) (a : Addr) : Gh := fun b => if b = a then none else h.get? b
theorem Fo_some {h : Heap} {a b : Addr} {o : Obj} (e : Fo h a b = some o) : b ≠ a ∧ h.get? b = some o := by
  unfold Fo at e
  split at e
  · cases e
  · rename_i q; exact ⟨q, e⟩
theorem Fo_of {h : Heap} {a b : Addr} {o : Obj} (n : b ≠ a) (e : h.get? b = some o) : Fo h a b = some o := by unfold Fo; rw [if_neg n]; exact e

theorem pick_pc {f : Value} (fn : Fn h₀ f ["one", "many"] (scopeAt 11) (bodyAt 11)) : PickC prog w h₀ (k + 1) f := .mk fun A s E ao d m t ok kp la fr hm hz => by
  refine nn fun hno_ => ?_
  obtain ⟨vs0, n0, ho0, iv0⟩ := id la.obj
  refine hno_ ?_
  clear hno_
  refine wpAny_call (enterC (F := Fo s.heap ao) (G := nG) (ρ := [("many", .int m)]) (vs := [.ref ao, .int m t]) fn ok (fun a o e => ?_) (fun a o e => (Fo_some e).2) (sub_nG _) rfl (fun x dd e => ?_) fun A' env H tk E' ok' kpH X hat hoff => ?_)
  · exact Fo_of (by rintro rfl; rw [fr] at e; cases e) (kp a o e)
  · have hx := one_bind e
    subst hx
    refine ⟨.int m t, rfl, ?_⟩
    have : dd = .int m := by simpa using e.symm
    rw [this]; exact .int _ _
  have h1a : At H env "one" (.ref ao) := hat "one" _ rfl
  obtain ⟨n1, n2⟩ := hoff _ _ ho0
  have X1 : Fs w h₀ (scopeAt 11) (Fo s.heap ao) nG [("many", .int m)] [("one", .list [.int d])] nG H env :=
    X.addOwn (x := "one") (a := ao) h1a (d := .list [.int d]) (la.mono (Sub.refl _) (kpH ao)) rfl (by unfold Fo; rw [if_pos rfl]) n1 n2 (fun y d b e => by simp at e) rfl
  -- found = one[0] % many
  refine wpAny_execs_cons (wpAny_Assign_Name (X1.evFlat (s := { s with heap := H, toks := tk }) ok' (x := "one") (d0 := .list [.int d]) rfl (fun _ _ e => nomatch e) (Ev.bin (Ev.sub (Ev.nm (d := .list [.int d])) Ev.int (Item.list (n := 0) (d := .int d) rfl (by simp))) Ev.nm (Bin.mod hm)) rfl fun v1 h1 tk1 k1 i1 X2 => ?_) (swaps_no rfl))
  refine storeFA_D (s := { s with heap := h1, toks := tk1 }) X2 (i1.mono (sub_nG _)) (.inl rfl) rfl fun h2 tk2 X3 at3 atf => ?_
  have h3a := at3 "one" _ (by decide) (h1a.keep k1)
  -- one[0] = one[0] // many
  refine wpAny_execs_cons (wpAny_Assign_stores (X3.evFlat (s := { s with heap := h2, toks := tk2 }) ok' (x := "one") (d0 := .list [.int d]) rfl (fun _ _ e => nomatch e) (Ev.bin (Ev.sub (Ev.nm (d := .list [.int d])) Ev.int (Item.list (n := 0) (d := .int d) rfl (by simp))) Ev.nm (Bin.div hm (by lia))) rfl fun v3 h3 tk3 k3 i3 X4 => ?_) swaps_sub swapped_sub)
  show wpAny _ A' (PySem.assign (.Subscript _ _ _) env v3) _ _ _
  rw [arm_assign_Subscript]
  have h4a := h3a.keep k3
  have h4f := atf.keep k3
  refine nn fun hno_ => ?_
  obtain ⟨a4, g1, g2, g3, g4, g5, g6⟩ := X4.own "one" _ rfl
  refine hno_ ?_
  clear hno_
  have e4 := g1.det h4a
  cases e4
  have g2' : LAt w _ h3 ao [.int d] := g2
  refine nn fun hno_ => ?_
  obtain ⟨vs4, n4, ho4, iv4⟩ := g2'.obj
  refine hno_ ?_
  clear hno_
  obtain ⟨x4, hx4⟩ : ∃ x, vs4 = #[x] := by
    have := iv4.length
    obtain ⟨l⟩ := vs4
    match l with
    | [x] => exact ⟨x, rfl⟩
    | [] => simp at this
    | _ :: _ :: _ => simp at this
  subst hx4
  refine wpAny_bind (wpAny_holding (wpAny_Name (load_At (s := { s with heap := h3, toks := tk3 }) X4 h4a (by decide) ?_) (by decide)))
  refine wpAny_bind (wpAny_holding (wpAny_Constant_int ?_))
  refine wpAny_bind (wpAny_standAt (wpAny_bind (wpAny_holding (setItem0 (s := { s with heap := h3, toks := tk3 + 1 }) rfl ho4 fun h5 n5 ho5 s5 => ?_))))
  refine wpAny_release ?_
  have la5 : LAt w nG h5 ao [.int (d.fdiv m)] := ⟨⟨#[v3], n5, ho5, .cons i3 .nil⟩⟩
  obtain ⟨X5, at5⟩ := X4.mutAt (x := "one") (d := .list [.int d]) (d' := .list [.int (d.fdiv m)]) rfl h4a s5.extBut (LAt.mono la5 (sub_nG _) fun _ e => e)
  have h5f := at5 _ _ h4f
  cases i1 with
  | int _ t1 =>
  refine wpAny_execs_cons (wpAny_Return_some (wpAny_Name (load_At (s := { s with heap := h5, toks := tk3 + 1 }) X5 h5f (by decide) ?_) (by decide)))
  exact ⟨h5, _, t1, rfl, rfl, la5, fun b o hb e => X5.inF b o (Fo_of hb e)⟩
end
end Mine
end

section
open PySem PySem.Spec PySem.Calls PyProof.Rows PySem.W
namespace Mine
open scoped Classical

/-! Part PI: the frame of _law_deed -/
noncomputable abbrev oN : Str := "one"
section
variable {prog : Program} {w : World} {h₀ : Heap} {sc : Scope} {F G₀ R R' : Gh} {ρ ω ω' : List (Str × Dt)} {k : Nat} {G G' : Gh} {s : Shared} {env : Env} {A : Around} {E : Value → Shared → Prop} {h h' : Heap} {aw af st : Addr} {fa fa' : List (Int × Addr)} {W W' : Wd}

noncomputable abbrev oD (d : Int) : List (Str × Dt) := [(oN, .list [.int d])]

theorem oN_w : (oN == wN) = false := by decide
theorem look_o {a : Dt} {d : Int} : List.lookup oN ((wN, a) :: oD d) = some (.list [.int d]) := by
  rw [List.lookup_cons, oN_w, List.lookup_cons, beq_self_eq_true]
theorem look_o2 {a : Dt} {d : Int} {y : Str} {e : Dt} (h : List.lookup y ((wN, a) :: oD d) = some e) : y = wN ∨ (y = oN ∧ e = .list [.int d]) := by
  rw [List.lookup_cons] at h
  by_cases hyw : y = wN
  · exact .inl hyw
  · rw [beq_eq_false_iff_ne.mpr hyw] at h
    have := one_bind h
    subst this
    rw [List.lookup_cons, beq_self_eq_true] at h
    cases h
    exact .inr ⟨rfl, rfl⟩

/-- the list of the frame's own has changed -/
theorem Wst.mutOne {d d' : Int} {ao : Addr} (S : Wst w h₀ sc F G₀ ρ (oD d) G R h env aw af st fa W) (kb : Heap.ExtBut ao h h') (hat : At h env oN (.ref ao)) (ho : LAt w G h' ao [.int d']) : Wst w h₀ sc F G₀ ρ (oD d') G R h' env aw af st fa W := by
  refine nn fun hno_ => ?_
  obtain ⟨hw, ht, hG, hF, hL, hc, hR⟩ := S.top
  refine hno_ ?_
  clear hno_
  obtain ⟨ao', q1, q2, q3, q4, q5, q6⟩ := S.fs.own oN _ look_o
  obtain rfl := (ref_inj (q1.det hat)).symm
  have hne : ao ≠ aw := by
    rintro rfl
    have := S.fs.oapart oN wN _ _ ao look_o (by rw [List.lookup_cons, beq_self_eq_true]) hat hw
    revert this; decide
  have hRo : R ao = none := by
    cases q : R ao with
    | none => rfl
    | some o => exact absurd rfl ((S.o2.off ao o q).no oN _ ao look_o hat)
  have kb' : ∀ b o, ¬ b = ao → h.get? b = some o → h'.get? b = some o := fun b o hb e => kb b o hb e
  have nL : ¬ env.locals = ao := fun e => q5 e.symm
  have nc : ∀ y c, env.cells.lookup y = some c → ¬ c = ao := fun y c e q => q6 y c e q.symm
  refine ⟨?_, ⟨fun b o e => kb b o (fun q => by subst q; rw [hRo] at e; cases e) (S.o2.inR b o e), fun b o e => ?_⟩, S.wr⟩
  · refine S.fs.chg (P := fun b => b = ao) kb' (fun b e => e ▸ q4) (fun b e => e ▸ q3) nL nc fun y d2 hy => ?_
    rcases look_o2 hy with rfl | ⟨rfl, rfl⟩
    · rw [List.lookup_cons, beq_self_eq_true] at hy
      cases hy
      refine ⟨_, by rw [List.lookup_cons, beq_self_eq_true], fun a ha hoa => hoa.mono (Sub.refl G) fun o e => kb a o ?_ e⟩
      obtain rfl := ref_inj (ha.det hw)
      exact Ne.symm hne
    · refine ⟨_, look_o, fun a ha hoa => ?_⟩
      obtain rfl := ref_inj (ha.det hat)
      exact ho
  · obtain ⟨g1, g2, g3, g4, g5⟩ := S.o2.off b o e
    refine ⟨g1, g2, g3, g4, fun y d2 c hy hcat => ?_⟩
    have : ∃ d3, List.lookup y ((wN, wD aw af st W.last) :: oD d) = some d3 := by
      rcases look_o2 hy with rfl | ⟨rfl, rfl⟩
      · exact ⟨_, by rw [List.lookup_cons, beq_self_eq_true]⟩
      · exact ⟨_, look_o⟩
    obtain ⟨d3, hd3⟩ := this
    obtain ⟨c', r1, _⟩ := S.fs.own y d3 hd3
    obtain rfl := ref_inj ((r1.chg kb' nL nc).det hcat)
    exact g5 y d3 _ hd3 r1

/-- _law_pick(one, e) -/
theorem Wst.pick {e : Expr} {d m : Int} {np op pos : Pos} {f : Value} {Q : Value → Shared → Prop} (S : Wst w h₀ sc F G₀ ρ (oD d) G R s.heap env aw af st fa W) (ok : Ok A k) (hv : GVal h₀ "_law_pick" f) (hf : Callee h₀ f) (C : PickC prog w h₀ k f)
    (H : Ev prog w h₀ k sc ((wN, W.dt) :: ρ) e (.int m)) (hm : m ≠ 0) (hz : m.natAbs < 100000)
    (q : ∀ t h' tk G', Sub G G' → Wst w h₀ sc F G₀ ρ (oD (d.fdiv m)) G' R h' env aw af st fa W → Q (.int (d.fmod m) t) { s with heap := h', toks := tk })
    (hx : autoParam (sc.names.lookup ("_law_pick" : Str) = some .globalImplicit) aR._auto_1) (he : autoParam (starred e = false) aR._auto_1) :
    wpAny (model prog w) A (eval (.Call (.Name "_law_pick" np) [.Name oN op, e] [] pos) env) Q E s := by
  refine nn fun hno_ => ?_
  refine nn fun hno_ => ?_
  obtain ⟨ao, g1, g2, g3, g4, g5, g6⟩ := S.fs.own oN _ look_o
  refine hno_ ?_
  clear hno_
  refine hno_ ?_
  clear hno_
  refine wpAny_Call_ofName (gname_D S.fs.rd hx hv (by decide) (callW_D hf (wpAny_items_cons (wpAny_Name (load_At S.fs g1 (by decide) ?_) (by decide)) (star_cons rfl)) (star_cons rfl) (star_none (by rw [List.all_cons, he]; rfl))))
  refine S.evs ok (Evs.cons H Evs.nil he) (by simp [nd]) fun us h1 tk1 k1 i1 S1 => ?_
  cases i1 with
  | cons i1 r1 =>
  cases r1
  cases i1 with
  | int _ t1 =>
  refine ⟨S1.fs.rd.keep, ?_⟩
  obtain ⟨ao', q1, q2, q3, q4, q5, q6⟩ := S1.fs.own oN _ look_o
  obtain rfl := (ref_inj (q1.det (g1.keep k1))).symm
  have q2' : LAt w _ h1 ao [.int d] := q2
  have la : LAt w nG h1 ao [.int d] := by
    refine nn fun hno_ => ?_
    obtain ⟨vs, n, hv, iv⟩ := q2'.obj
    refine hno_ ?_
    clear hno_
    exact ⟨⟨vs, n, hv, iv.flat (by simp [Mine.flat])⟩⟩
  have fr : h₀.get? ao = none := by
    cases q : h₀.get? ao with
    | none => rfl
    | some o => rw [S1.fs.base _ o q] at q4; cases q4
  refine wpAny_mono (C.run A _ E ao d m t1 ok S1.fs.rd.keep la fr hm hz) (fun v s' x => ?_) fun _ _ e => e
  obtain ⟨h', tk, t', rfl, rfl, la', kb⟩ := x
  exact q t' h' tk _ (sub_exl (S.fs.rd.inh.kp k1)) (S1.mutOne kb q1 (LAt.mono la' (sub_nG _) fun _ e => e))

/-- a function of the world and a list -/
theorem enterD {f : Value} {ao : Addr} {d : Int} {body : List Stmt} {Q : Value → Shared → Prop} (fn : Fn h₀ f [wN, oN] sc body) (ok : Ok A (k + 1)) (kp : Kp h₀ s.heap) (H : WH w h₀ s.heap aw af st fa R W)
    (la : LAt w nG s.heap ao [.int d]) (hne : ao ≠ aw) (hRo : R ao = none) (fr : h₀.get? ao = none)
    (q : ∀ (A' : Around) env H tk (E' : Value → Shared → Prop), Ok A' k → Wst w h₀ sc (Fw (fun b => b = ao) s.heap aw R) nG [] (oD d) nG R H env aw af st fa W →
      wpAny (model prog w) A' (execs body env) (fun fl s' => Q (match fl with | .ret v => v | _ => .none) s') E' { s with heap := H, toks := tk }) :
    wpAny (model prog w) A (call f [.ref aw, .ref ao]) Q E s := by
  refine nn fun hno_ => ?_
  obtain ⟨tn, tes, tc, t1, t2, t3, t4, ho, hes⟩ := id H.top
  refine hno_ ?_
  clear hno_
  refine nn fun hno_ => ?_
  obtain ⟨vs0, n0, ho0, iv0⟩ := id la.obj
  refine hno_ ?_
  clear hno_
  refine wpAny_call (enterC (F := Fw (fun b => b = ao) s.heap aw R) (G := nG) (ρ := []) (vs := [.ref aw, .ref ao]) fn ok (fun a o e => ?_) (fun a o e => (Fw_some e).2.2.2) (sub_nG _) rfl (fun x d e => by simp at e) fun A' env HH tk E' ok' kpH X hat hoff => ?_)
  · refine Fw_of (fun q => ?_) ?_ (fun q => ?_) (kp a o e)
    · subst q; rw [H.fr0] at e; cases e
    · cases q : R a with
      | none => rfl
      | some o' => rw [H.frR a o' q] at e; cases e
    · rw [q, fr] at e; cases e
  · have hw : At HH env wN (.ref aw) := hat wN (.ref aw) (by rw [List.zip_cons_cons, List.lookup_cons, beq_self_eq_true])
    have ho' : At HH env oN (.ref ao) := hat oN (.ref ao) (by rw [List.zip_cons_cons, List.lookup_cons, oN_w, List.zip_cons_cons, List.lookup_cons, beq_self_eq_true])
    obtain ⟨n1, n2⟩ := hoff _ _ ho
    obtain ⟨m1, m2⟩ := hoff _ _ ho0
    have X1 := X.addOwn (x := oN) (a := ao) (d := .list [.int d]) ho' (la.mono (Sub.refl _) (kpH ao)) rfl (Fw_no (.inr (.inr rfl))) m1 m2 (fun y d b e => by simp at e) rfl
    have top' : TopO w HH aw af st W.last := ⟨tn, tes, tc, t1, t2, t3, t4, kpH _ _ ho, hes⟩
    have X' := X1.addOwn (x := wN) (a := aw) (d := wD aw af st W.last) hw (wD_of top') rfl (Fw_no (.inl rfl)) n1 n2 (fun y d b hy hb => by
      have hyw := one_bind hy
      subst hyw
      obtain rfl := ref_inj (ho'.det hb)
      exact hne) rfl
    refine q A' env HH tk E' ok' ⟨X', ⟨H.inR.kp kpH, fun a o e => ?_⟩, H.wr⟩
    obtain ⟨l1, l2⟩ := hoff _ _ (H.inR _ _ e)
    refine ⟨Fw_no (.inr (.inl (by rw [e]; simp))), rfl, l1, l2, fun y d b hy hb => ?_⟩
    rcases look_o2 hy with rfl | ⟨rfl, rfl⟩
    · obtain rfl := ref_inj (hw.det hb)
      rintro rfl
      rw [H.offT] at e; cases e
    · obtain rfl := ref_inj (ho'.det hb)
      rintro rfl
      rw [hRo] at e; cases e

/-- a tuple of names is bound to what an expression gives -/
theorem Wst.bind {target : Expr} {d : Dt} {bs : List (Str × Dt)} {v : Value} {Q : Unit → Shared → Prop} (S : Wst w h₀ sc F G₀ ρ ω G R s.heap env aw af st fa W) (B : Binds target d bs) (iv : Is w G v d) (hh : A.handled = none) (hk : BindOk sc target bs)
    (hω : ∀ x d, bs.lookup x = some d → List.lookup x ((wN, wD aw af st W.last) :: ω) = none) (c : ∀ h' tk, Wst w h₀ sc F G₀ (bs ++ ρ) ω G R h' env aw af st fa W → Q () { s with heap := h', toks := tk }) : wpAny (model prog w) A (PySem.assign target env v) Q E s :=
  bind_D (S.fs.add S.o2) B iv hh hk hω fun h' tk X => by
    obtain ⟨X3, Y3⟩ := X.del S.fs.base S.fs.gF fun b o e => (S.o2.off b o e).f
    exact c h' tk ⟨X3, Y3, S.wr⟩

theorem Wst.storeF {x : Str} {d : Dt} {v : Value} {Q : Unit → Shared → Prop} (S : Wst w h₀ sc F G₀ ρ ω G R s.heap env aw af st fa W) (iv : Is w G v d) (hx : sc.names.lookup x = some .local ∨ sc.names.lookup x = some .cell) (hω : List.lookup x ((wN, wD aw af st W.last) :: ω) = none)
    (c : ∀ h' tk, Wst w h₀ sc F G₀ ((x, d) :: ρ) ω G R h' env aw af st fa W → Q () { s with heap := h', toks := tk }) : wpAny (model prog w) A (storeName env x v) Q E s :=
  storeF_D (S.fs.add S.o2) iv hx hω fun h' tk X => by
    obtain ⟨X3, Y3⟩ := X.del S.fs.base S.fs.gF fun b o e => (S.o2.off b o e).f
    exact c h' tk ⟨X3, Y3, S.wr⟩
end
end Mine
end

section
open PySem PySem.Spec PySem.Calls PyProof.Rows PySem.W
namespace Mine
open scoped Classical

/-! Part PJ: _law_deed -/
noncomputable abbrev NN : Nat := 17
noncomputable def nameOk (x : Str) : Prop := ∃ c : Nat, x = ⟨#[c]⟩ ∧ 97 ≤ c ∧ c ≤ 100
noncomputable def belowI (W : Wd) (v : Int) : List Int := v :: ((namesOf W NN v ⟨#[]⟩).filter fun r => (W.fol.lookup r.thing).isSome).map fun r => r.thing
noncomputable def movedW (W : Wd) (t' : Int) (l' : List (Str × Int)) (x' : Str) (t : Int) (x : Str) (v : Int) : Wd :=
  { W with fol := aset (aset W.fol t' (adel l' x')) t (aset (((aset W.fol t' (adel l' x')).lookup t).getD []) x v) }

/-- what a deed may make of a world -/
inductive Deed (W : Wd) : Wd → Prop
  | same : Deed W W
  | made {t : Int} {x : Str} {b : Bool} {l : List (Str × Int)} : W.fol.lookup t = some l → nameOk x → Deed W (madeW W t x b)
  | state {v : Int} (s : Int) : (W.sts.lookup v).isSome = true → Deed W { W with sts := aset W.sts v s }
  | taken {t v : Int} {x : Str} {l : List (Str × Int)} : W.fol.lookup t = some l → l.lookup x = some v → Deed W (takenW W t x v)
  | link {t v t' : Int} {x x' : Str} {l l' : List (Str × Int)} : W.fol.lookup t = some l → nameOk x → l.lookup x = none → W.fol.lookup v = none → W.fol.lookup t' = some l' → l'.lookup x' = some v → Deed W { W with fol := aset W.fol t (aset l x v) }
  | move {t v t' : Int} {x x' : Str} {l l' : List (Str × Int)} : W.fol.lookup t' = some l' → l'.lookup x' = some v → W.fol.lookup t = some l → nameOk x → l.lookup x = none → ((W.fol.lookup v).isSome = true → t ∉ belowI W v) → Deed W (movedW W t' l' x' t x v)

/-- what the deeds need of a world -/
structure Rdy (W : Wd) : Prop where
  ok : WOk W NN
  sz : WSz W
  len : W.fol.length ≤ 40
  root : (W.fol.lookup 1).isSome = true
  deepF : ∀ t, (W.fol.lookup t).isSome = true → Deep W NN t
  new : W.fol.lookup (W.last + 1) = none
  few : (namesOf W NN 1 ⟨#[]⟩).length ≤ 40
  mem : ∀ r ∈ namesOf W NN 1 ⟨#[]⟩, (∃ l, W.fol.lookup r.folder = some l ∧ l.lookup r.name = some r.thing) ∧ (W.sts.lookup r.thing).isSome = true ∧ r.thing ≠ r.folder ∧ PyData.strOk r.path = true

theorem nr_nd (l : List NRow) : nd (.list (l.map NRow.dt)) = true := by
  show nds _ = true
  rw [nds_iff]
  intro d hd
  obtain ⟨r, _, rfl⟩ := List.mem_map.mp hd
  rfl
theorem nr_pl (l : List NRow) : pl 60 (.list (l.map NRow.dt)) = true := by
  show (l.map NRow.dt).all (pl 59) = true
  rw [List.all_eq_true]
  intro d hd
  obtain ⟨r, _, rfl⟩ := List.mem_map.mp hd
  rfl

theorem fmod_nat (a : Int) {m : Nat} (hm : 0 < m) : ∃ n : Nat, a.fmod m = n ∧ n < m := by
  have h1 : 0 ≤ a.fmod m := Int.fmod_nonneg_of_pos a (by lia)
  have h2 : a.fmod m < m := Int.fmod_lt_of_pos a (by lia)
  obtain ⟨n, hn⟩ := Int.eq_ofNat_of_zero_le h1
  exact ⟨n, hn, by lia⟩

theorem abcd_at : ∀ n : Nat, n < 4 → ("abcd" : Str).cps[n]? = some (97 + n)
  | 0, _ => by decide +kernel
  | 1, _ => by decide +kernel
  | 2, _ => by decide +kernel
  | 3, _ => by decide +kernel

theorem strOk_one {c : Nat} (h1 : 97 ≤ c) (h2 : c ≤ 100) : PyData.strOk ⟨#[c]⟩ = true := by
  have : c = 97 ∨ c = 98 ∨ c = 99 ∨ c = 100 := by lia
  rcases this with rfl | rfl | rfl | rfl <;> decide +kernel

section
variable {prog : Program} {w : World} {h₀ : Heap} {sc : Scope} {F G₀ R R' : Gh} {ρ ω ω' : List (Str × Dt)} {k : Nat} {G G' : Gh} {s : Shared} {env : Env} {A : Around} {E : Value → Shared → Prop} {h h' : Heap} {aw af st : Addr} {fa fa' : List (Int × Addr)} {W W' : Wd}

theorem fol_sort (l : List (Int × List (Str × Int))) : SortOk ((folD l).map (·.1)) := .iAll fun d hd => by
  unfold folD at hd
  rw [List.map_map] at hd
  obtain ⟨p, _, rfl⟩ := List.mem_map.mp hd
  rfl

noncomputable abbrev rho3 (way t : Int) (x : Str) : List (Str × Dt) := [("way", .int way), ("folder", .int t), ("name", .str x)]

/-- way, folder, name = .. -/
theorem deed_first {d : Int} {fP : Value} {Q : Flow → Shared → Prop} (O : Outer h₀) (S : Wst w h₀ (scopeAt 18) F G₀ [] (oD d) G R s.heap env aw af st fa W) (ok : Ok A k) (hv : GVal h₀ "_law_pick" fP) (hf : Callee h₀ fP) (C : PickC prog w h₀ k fP)
    (hlen : W.fol.length ≤ 40) (hroot : (W.fol.lookup 1).isSome = true) (st0 : Stmt) (hst : (bodyAt 18).head? = some st0)
    (q : ∀ h' tk G' R' way t l x d', W.fol.lookup t = some l → nameOk x → Wst w h₀ (scopeAt 18) F G₀ (rho3 way t x) (oD d') G' R' h' env aw af st fa W → Q .next { s with heap := h', toks := tk }) :
    wpAny (model prog w) A (exec st0 env) Q E s := by
  have hpos : 0 < W.fol.length := by
    cases q : W.fol with
    | nil => rw [q] at hroot; cases hroot
    | cons _ _ => simp
  obtain ⟨L, hL⟩ : ∃ L, L = isort ((folD W.fol).map (·.1)) := ⟨_, rfl⟩
  have hLl : L.length = W.fol.length := by rw [hL, isort_len, List.length_map]; unfold folD; rw [List.length_map]
  obtain ⟨n1, e1, hn1⟩ := fmod_nat (d.fdiv 8) hpos
  obtain ⟨tD, htD⟩ : ∃ x, L[n1]? = some x := ⟨L[n1], List.getElem?_eq_getElem (by lia)⟩
  obtain ⟨t, l, rfl, hl⟩ : ∃ t l, tD = .int t ∧ W.fol.lookup t = some l := by
    have hm := List.mem_of_getElem? htD
    rw [hL, (isort_perm _).mem_iff] at hm
    unfold folD at hm
    rw [List.map_map] at hm
    obtain ⟨p, hp, rfl⟩ := List.mem_map.mp hm
    obtain ⟨l, hl⟩ := Option.isSome_iff_exists.mp (look_mem (x := p.1) (v := p.2) hp)
    exact ⟨p.1, l, rfl, hl⟩
  obtain ⟨n2, e2, hn2⟩ := fmod_nat ((d.fdiv 8).fdiv W.fol.length) (m := 4) (by decide)
  have hc := abcd_at n2 hn2
  have hok : nameOk ⟨#[97 + n2]⟩ := ⟨_, rfl, by lia, by lia⟩
  refine nn fun hno_ => ?_
  obtain ⟨T1, id1, hk1, K1⟩ := Item.list (prog := prog) (w := w) (k := k) htD (by lia)
  refine hno_ ?_
  clear hno_
  refine nn fun hno_ => ?_
  obtain ⟨T2, id2, hk2, K2⟩ := Item.str (prog := prog) (w := w) (k := k) hc (by decide) (strOk_one (c := 97 + n2) (by lia) (by lia))
  refine hno_ ?_
  clear hno_
  cases hst
  refine Assign_Tuple_swapped (names := ["way", "folder", "name"]) ?_ rfl ?_
  · refine wpAny_Tuple (wpAny_items_cons (S.pick ok hv hf C Ev.int (by decide) (by decide) fun t1 h1 tk1 G1 sb1 S1 => ?_) (star_cons rfl))
    refine wpAny_items_cons ?_ (star_cons rfl)
    refine subs_D hk1 (Wst.ev (s := { s with heap := h1, toks := tk1 }) S1 ok (d := .list L) ?_ ?_ fun v2 h2 tk2 k2 i2 S2 => ?_) (fun _ _ => ⟨_, rfl⟩)
    · rw [hL]
      exact EvF.ev (EvF.call O.sorted (cb _ _) (Evs.cons (Ev.folders (W := W) Ev.nm) Evs.nil) (ClF.sorted_dict (fol_sort _) (by unfold folD; rw [List.length_map]; lia)))
    · show nds L = true
      rw [nds_iff]
      intro x hx
      rw [hL, (isort_perm _).mem_iff] at hx
      unfold folD at hx
      rw [List.map_map] at hx
      obtain ⟨p, hp, rfl⟩ := List.mem_map.mp hx
      rfl
    refine Wst.pick (s := { s with heap := h2, toks := tk2 }) S2 ok hv hf C (m := (W.fol.length : Nat)) (by
      have := Cl.len_dict (prog := prog) (w := w) (h₀ := h₀) (k := k) (kvs := folD W.fol) (by unfold folD; rw [List.length_map]; lia)
      have e : (folD W.fol).length = W.fol.length := by unfold folD; rw [List.length_map]
      rw [e] at this
      exact Ev.call O.len (cb _ _) (Evs.cons (Ev.folders (W := W) Ev.nm) Evs.nil) this) (by lia) (by lia) fun t3 h3 tk3 G3 sb3 S3 => ?_
    rw [e1]
    refine K1 A G3 { s with heap := h3, toks := tk3 } E v2 _ _ ok S3.fs.rd.inh (i2.mono sb3) (.int _ _) fun v4 tk4 i4 => ?_
    refine wpAny_items_cons ?_ (star_cons rfl)
    refine subs_D hk2 (wpAny_Constant_str (Wst.pick (s := { s with heap := h3, toks := tk4 + 1 }) S3 ok hv hf C (m := 4) Ev.int (by decide) (by decide) fun t5 h5 tk5 G5 sb5 S5 => ?_)) (fun _ _ => ⟨_, rfl⟩)
    have e2' : (((d.fdiv 8).fdiv W.fol.length).fmod 4 : Int) = n2 := e2
    rw [e2']
    refine K2 A G5 { s with heap := h5, toks := tk5 } E _ _ _ ok S5.fs.rd.inh (.str _ _ (by decide +kernel)) (.int _ _) fun v6 tk6 i6 => wpAny_items_nil ?_
    refine ⟨by show 3 ≤ sizeLine; unfold sizeLine; lia, ?_⟩
    have kp4 := Kp.push h5 (tupObj [Value.int (d.fmod 8) t1, v4, v6].toArray 0)
    refine wpAny_unpackItems_tuple ok.1 (items := [Value.int (d.fmod 8) t1, v4, v6].toArray) (tuple_items (c := 0) (Heap.get?_push_size _ rfl)) fun h7 k7 => ?_
    have kp5 : Kp (h5.push (tupObj [Value.int (d.fmod 8) t1, v4, v6].toArray 0)) h7 := fun b o e => k7 b o (Nat.ne_of_lt (Heap.lt_size e)) e
    have S7 := (S5.same kp4).same kp5
    have j4 : Is w G5 v4 (.int t) := i4.mono sb5
    show wpAny _ A (assignInOrder [bindName env "name", bindName env "folder", bindName env "way"] [v6, v4, Value.int (d.fmod 8) t1]) _ _ _
    refine assignInOrder_cons (wpAny_bindName (Wst.storeF (s := { s with heap := h7, toks := tk6 }) S7 i6 (.inl rfl) (by rfl) fun h8 tk8 S8 => ?_))
    refine assignInOrder_cons (wpAny_bindName (Wst.storeF (s := { s with heap := h8, toks := tk8 }) S8 j4 (.inl rfl) (by rfl) fun h9 tk9 S9 => ?_))
    refine assignInOrder_cons (wpAny_bindName (Wst.storeF (s := { s with heap := h9, toks := tk9 }) (d := .int (d.fmod 8)) S9 (.int _ _) (.inl rfl) (by rfl) fun h10 tk10 S10 => ?_))
    exact assignInOrder_nil (q h10 tk10 G5 R (d.fmod 8) t l ⟨#[97 + n2]⟩ _ hl hok S10)
  · show (if _ then _ else _ : Sem (Option (List Str))) = _
    unfold Env.blockKind Env.kindOf
    rw [S.fs.rd.scope]; rfl
end
end Mine
end

section
open PySem PySem.Spec PySem.Calls PyProof.Rows PySem.W
namespace Mine
open scoped Classical

/-! Part PK: _law_deed, the rest -/
section
variable {prog : Program} {w : World} {h₀ : Heap} {sc : Scope} {F G₀ R R' : Gh} {ρ ω ω' : List (Str × Dt)} {k : Nat} {G G' : Gh} {s : Shared} {env : Env} {A : Around} {E : Value → Shared → Prop} {h h' : Heap} {aw af st : Addr} {fa fa' : List (Int × Addr)} {W W' : Wd} {K : Frag} {C fI fO : Addr}

noncomputable abbrev rho5 (b : Bool) (r : NRow) (N : List NRow) (way t : Int) (x : Str) : List (Str × Dt) := ("is_free", .bool b) :: ("path", .str r.path) :: ("within", .int r.folder) :: ("old", .str r.name) :: ("thing", .int r.thing) :: ("names", .list (N.map NRow.dt)) :: rho3 way t x

/-- the last statement -/
theorem deed_last (U : Funs prog w h₀ K C fI fO) {d : Int} {Q : Flow → Shared → Prop} {r : NRow} {N : List NRow} {way t : Int} {x : Str} {l : List (Str × Int)} (rd : Rdy W) (hr : r ∈ namesOf W NN 1 ⟨#[]⟩) (hl : W.fol.lookup t = some l) (hxo : nameOk x)
    (S : Wst w h₀ (scopeAt 18) F G₀ (rho5 (!(l.lookup x).isSome) r N way t x) (oD d) G R s.heap env aw af st fa W) (ok : Ok A (k + 20)) (st5 : Stmt) (hst : (bodyAt 18)[6]? = some st5)
    (q : ∀ h' tk G' R' fa' W', Deed W W' → Wst w h₀ (scopeAt 18) F G₀ (rho5 (!(l.lookup x).isSome) r N way t x) (oD d) G' R' h' env aw af st fa' W' → Q .next { s with heap := h', toks := tk }) :
    wpAny (model prog w) A (exec st5 env) Q E s := by
  refine nn fun hno_ => ?_
  obtain ⟨fN, gN, fnN⟩ := U.f12
  refine hno_ ?_
  clear hno_
  obtain ⟨fB, gB, fnB⟩ := U.f16
  obtain ⟨fT, gT, fnT⟩ := U.f17
  have O := U.out
  refine nn fun hno_ => ?_
  obtain ⟨⟨l', hl', hx'⟩, hs, hne, _⟩ := rd.mem r hr
  refine hno_ ?_
  clear hno_
  obtain ⟨sv, hsv⟩ := Option.isSome_iff_exists.mp hs
  have zl := rd.sz.dir t l hl
  have zl' := rd.sz.dir _ l' hl'
  cases hst
  refine S.ite ok (Tr.cmp Ev.nm Ev.int (Cmp.eq rfl rfl)) (fun hb h1 tk1 S1 => ?_) (fun hb h1 tk1 S1 => ?_)
  · refine wpAny_execs_cons (Wst.setSts (s := { s with heap := h1, toks := tk1 }) S1 ok (Ev.bin (Ev.stt (Ev.states (W := W) Ev.nm) Ev.nm hsv) Ev.int Bin.add_int) Ev.nm (by have := rd.sz.sts; lia) fun h2 tk2 G2 R2 S2 => wpAny_execs_nil ?_)
    exact q _ _ _ _ _ _ (.state _ hs) S2
  refine wpAny_execs_cons (Wst.ite (s := { s with heap := h1, toks := tk1 }) S1 ok (Tr.cmp Ev.nm Ev.int (Cmp.eq rfl rfl)) (fun hb2 h2 tk2 S2 => ?_) (fun hb2 h2 tk2 S2 => ?_))
  · refine wpAny_execs_cons (Wst.callW (s := { s with heap := h2, toks := tk2 }) (ds := [.int r.folder, .str r.name, .int r.thing]) S2 ok gT fnT.callee (Evs.cons Ev.nm (Evs.cons Ev.nm (Evs.cons Ev.nm Evs.nil))) (by simp [Mine.flat]) ((taken_dc O.lim fnT W rd.sz r.folder r.thing r.name hl' hx' hne).up (k := k + 1) (by lia)) fun h3 tk3 G3 R3 fa3 S3 => ?_)
    exact wpAny_execs_nil (wpAny_execs_nil (q _ _ _ _ _ _ (.taken hl' hx') S3))
  refine wpAny_execs_cons (Wst.ite (s := { s with heap := h2, toks := tk2 }) S2 ok (Tr.bool (Ands.cons (Tr.cmp Ev.nm Ev.int (Cmp.eq rfl rfl)) fun _ => Ands.cons (Tr.cmp Ev.nm (Ev.folders (W := W) Ev.nm) (Cmp.notHas rfl)) fun _ => Ands.cons (Tr.name Ev.nm) fun _ => Ands.nil)) (fun hb3 h3 tk3 S3 => ?_) (fun hb3 h3 tk3 S3 => ?_))
  · simp only [Bool.and_eq_true, Bool.and_true, Bool.not_eq_true', dhas_fol] at hb3
    refine nn fun hno_ => ?_
    obtain ⟨_, hv, hfree⟩ := hb3
    refine hno_ ?_
    clear hno_
    have hv' : W.fol.lookup r.thing = none := by cases q : W.fol.lookup r.thing with | none => rfl | some _ => rw [q] at hv; cases hv
    have hfree' : l.lookup x = none := by cases q : l.lookup x with | none => rfl | some _ => rw [q] at hfree; cases hfree
    refine wpAny_execs_cons (Wst.setDir (s := { s with heap := h3, toks := tk3 }) S3 ok Ev.nm Ev.nm Ev.nm hl (by lia) fun h4 tk4 G4 R4 S4 => ?_)
    exact wpAny_execs_nil (wpAny_execs_nil (wpAny_execs_nil (q _ _ _ _ _ _ (.link hl hxo hfree' hv' hl' hx') S4)))
  have hdeep : (W.fol.lookup r.thing).isSome = true → Deep W NN r.thing := rd.deepF _
  have below : (W.fol.lookup r.thing).isSome = true → ClF prog w h₀ (k + 20) fB [W.dt, .int r.thing] ((belowI W r.thing).map Dt.int) := fun hsome => by
    have e : (belowI W r.thing).map Dt.int = .int r.thing :: ((namesOf W NN r.thing ⟨#[]⟩).filter fun r => (W.fol.lookup r.thing).isSome).map fun r => .int r.thing := by
      unfold belowI; rw [List.map_cons, List.map_map]; rfl
    rw [e]
    exact (below_cl (k := k + 19) O fnB gN fnN W NN r.thing (hdeep hsome) (rd.ok.few r.thing) (by decide) (by show 17 ≤ k + 19; lia))
  refine wpAny_execs_cons (Wst.ite (s := { s with heap := h3, toks := tk3 }) S3 ok (b := decide (way > 4) && (!(l.lookup x).isSome && ((!dhas (folD W.fol) (.int r.thing) || (!decide (Dt.int t ∈ (belowI W r.thing).map Dt.int) || false)) && true)))
    (Tr.bool (Ands.cons (Tr.cmp Ev.nm Ev.int Cmp.gt) fun _ => Ands.cons (Tr.name Ev.nm) fun _ => Ands.cons (Tr.bool (Ands.ocons (Tr.cmp Ev.nm (Ev.folders (W := W) Ev.nm) (Cmp.notHas rfl)) fun hnb => Ands.ocons (Tr.cmp Ev.nm (EvF.ev (EvF.call gB fnB.callee (Evs.cons Ev.nm (Evs.cons Ev.nm Evs.nil)) (below ?_))) (Cmp.notMem rfl ?_)) fun _ => Ands.onil)) fun _ => Ands.nil)) (fun hb4 h4 tk4 S4 => ?_) (fun hb4 h4 tk4 S4 => ?_))
  · rw [dhas_fol] at hnb; simpa using hnb
  · intro e he
    obtain ⟨i, _, rfl⟩ := List.mem_map.mp he
    rfl
  · simp only [Bool.and_eq_true, Bool.and_true, Bool.or_false, Bool.not_eq_true', dhas_fol, Bool.or_eq_true, decide_eq_false_iff_not] at hb4
    refine nn fun hno_ => ?_
    obtain ⟨_, hfree, hbel⟩ := hb4
    refine hno_ ?_
    clear hno_
    have hfree' : l.lookup x = none := by cases q : l.lookup x with | none => rfl | some _ => rw [q] at hfree; cases hfree
    have hbel' : (W.fol.lookup r.thing).isSome = true → t ∉ belowI W r.thing := fun hsome => by
      rcases hbel with e | e
      · rw [hsome] at e; cases e
      · exact fun hm => e (List.mem_map.mpr ⟨t, hm, rfl⟩)
    refine wpAny_execs_cons (Wst.popDir (s := { s with heap := h4, toks := tk4 }) S4 ok Ev.nm Ev.nm hl' hx' (by lia) fun h5 tk5 G5 R5 S5 => ?_)
    obtain ⟨l1, hl1, zl1⟩ : ∃ l1, (aset W.fol r.folder (adel l' r.name)).lookup t = some l1 ∧ l1.length ≤ 1000 := by
      rw [look_aset]
      by_cases e : t = r.folder
      · rw [if_pos e]; exact ⟨_, rfl, Nat.le_trans (adel_len _ _) zl'⟩
      · rw [if_neg e]; exact ⟨l, hl, zl⟩
    refine wpAny_execs_cons (Wst.setDir (s := { s with heap := h5, toks := tk5 }) (l := l1) S5 ok Ev.nm Ev.nm Ev.nm hl1 (by lia) fun h6 tk6 G6 R6 S6 => ?_)
    have eM : movedW W r.folder l' r.name t x r.thing = { W with fol := aset (aset W.fol r.folder (adel l' r.name)) t (aset l1 x r.thing) } := by
      unfold movedW; rw [hl1]; rfl
    exact wpAny_execs_nil (wpAny_execs_nil (wpAny_execs_nil (wpAny_execs_nil (q _ _ _ _ _ _ (.move hl' hx' hl hxo hfree' hbel') (eM ▸ S6)))))
  · exact wpAny_execs_nil (wpAny_execs_nil (wpAny_execs_nil (wpAny_execs_nil (q _ _ _ _ _ _ .same S4))))

/-- what _law_deed does -/
structure DeedD (prog : Program) (w : World) (h₀ : Heap) (k : Nat) (f : Value) (W : Wd) : Prop where
  run : ∀ (A : Around) (s : Shared) (E : Value → Shared → Prop) (ao aw af st : Addr) (fa : List (Int × Addr)) (R : Gh) (d : Int), Ok A k → Kp h₀ s.heap → WH w h₀ s.heap aw af st fa R W → LAt w nG s.heap ao [.int d] → ao ≠ aw → R ao = none → h₀.get? ao = none →
    wpAny (model prog w) A (call f [.ref aw, .ref ao]) (fun v s' => ∃ h' tk fa' R' W', Deed W W' ∧ s' = { s with heap := h', toks := tk } ∧ WH w h₀ h' aw af st fa' R' W' ∧ WStep (fun b => b = ao) s.heap h' aw R R') E s

theorem deed_dd (U : Funs prog w h₀ K C fI fO) {f : Value} (fn : Fn h₀ f [wN, oN] (scopeAt 18) (bodyAt 18)) (W : Wd) (rd : Rdy W) : DeedD prog w h₀ (k + 21) f W := .mk fun A s E ao aw af st fa R d ok kp H la hne hRo fr => by
  refine nn fun hno_ => ?_
  obtain ⟨fP, gP, fnP⟩ := U.f11
  refine hno_ ?_
  clear hno_
  refine nn fun hno_ => ?_
  obtain ⟨fN, gN, fnN⟩ := U.f12
  refine hno_ ?_
  clear hno_
  refine nn fun hno_ => ?_
  obtain ⟨fM, gM, fnM⟩ := U.f15
  refine hno_ ?_
  clear hno_
  have O := U.out
  refine enterD fn ok kp H la hne hRo fr fun A' env HH tk E' ok' S => ?_
  have fin : ∀ ρ' d' G' R' h' tk' fa' W', Deed W W' → Wst w h₀ (scopeAt 18) (Fw (fun b => b = ao) s.heap aw R) nG ρ' (oD d') G' R' h' env aw af st fa' W' →
      (∃ h'' tk'' fa' R' W', Deed W W' ∧ ({ s with heap := h', toks := tk' } : Shared) = { s with heap := h'', toks := tk'' } ∧ WH w h₀ h'' aw af st fa' R' W' ∧ WStep (fun b => b = ao) s.heap h'' aw R R') := fun ρ' d' G' R' h' tk' fa' W' dd S' => by
    refine nn fun hno_ => ?_
    obtain ⟨h1, h2⟩ := S'.leave (fun b e => by rw [e]; exact fr) H kp
    refine hno_ ?_
    clear hno_
    exact ⟨h', tk', fa', R', W', dd, rfl, h1, h2⟩
  refine wpAny_execs_cons (deed_first (s := { s with heap := HH, toks := tk }) O S ok' gP fnP.callee (pick_pc (k := k + 19) fnP) rd.len rd.root _ rfl fun h1 tk1 G1 R1 way t l x d1 hl hxo S1 => ?_)
  refine wpAny_execs_cons (Wst.ite (s := { s with heap := h1, toks := tk1 }) S1 ok' (Tr.cmp Ev.nm Ev.int Cmp.lt) (fun hb h2 tk2 S2 => ?_) (fun hb h2 tk2 S2 => ?_))
  · refine wpAny_execs_cons (Wst.callW (s := { s with heap := h2, toks := tk2 }) (ds := [.int t, .str x, .bool (decide (Dt.int way = Dt.int 1))]) S2 ok' gM fnM.callee (Evs.cons Ev.nm (Evs.cons Ev.nm (Evs.cons (Ev.cmp Ev.nm Ev.int (Cmp.eq rfl rfl)) Evs.nil))) (by simp [Mine.flat]) ((made_dc O.lim fnM W rd.sz t x _ hl rd.new).up (k := k + 1) (by lia)) fun h3 tk3 G3 R3 fa3 S3 => ?_)
    exact wpAny_execs_cons (wpAny_Return_none (fin _ _ _ _ _ _ _ _ (.made hl hxo) S3))
  refine wpAny_execs_nil ?_
  have hNn : ClF prog w h₀ (k + 20) fN [W.dt, .int 1, .str ⟨#[]⟩] ((namesOf W NN 1 ⟨#[]⟩).map NRow.dt) := by
    have e0 : (⟨#[]⟩ : Str).length = 0 := rfl
    exact (names_cl O gN fnN W NN 1 ⟨#[]⟩ rd.ok.deep (by decide +kernel) (by rw [e0]; decide) (rd.ok.few 1)).up (by show 17 ≤ k + 20; lia)
  have few := rd.few
  obtain ⟨N, hN⟩ : ∃ N, N = namesOf W NN 1 ⟨#[]⟩ := ⟨_, rfl⟩
  rw [← hN] at hNn few
  refine wpAny_execs_cons (Wst.assign (s := { s with heap := h2, toks := tk2 }) (d := .list (N.map NRow.dt)) S2 ok' (EvF.ev (EvF.call gN fnN.callee (Evs.cons Ev.nm (Evs.cons Ev.int (Evs.cons (Ev.str (x := ⟨#[]⟩) (by decide +kernel)) Evs.nil))) hNn)) (nr_nd N) fun h3 tk3 G3 sb3 S3 => ?_)
  refine wpAny_execs_cons (Wst.ite (s := { s with heap := h3, toks := tk3 }) S3 ok' (Tr.cmp Ev.nm (EvF.ev (EvF.lst (ds := []) Evs.nil (by simp))) (Cmp.eq (nr_pl N) (by decide))) (fun hb2 h4 tk4 S4 => ?_) (fun hb2 h4 tk4 S4 => ?_))
  · exact wpAny_execs_cons (wpAny_Return_none (fin _ _ _ _ _ _ _ _ .same S4))
  refine wpAny_execs_nil ?_
  have hpos : 0 < N.length := by
    cases N with
    | nil => simp at hb2
    | cons _ _ => simp
  refine nn fun hno_ => ?_
  obtain ⟨n1, e1, hn1⟩ := fmod_nat d1 hpos
  refine hno_ ?_
  clear hno_
  refine nn fun hno_ => ?_
  obtain ⟨r, hr⟩ : ∃ x, N[n1]? = some x := ⟨N[n1], List.getElem?_eq_getElem hn1⟩
  refine hno_ ?_
  clear hno_
  have hrm : r ∈ namesOf W NN 1 ⟨#[]⟩ := hN ▸ List.mem_of_getElem? hr
  refine nn fun hno_ => ?_
  obtain ⟨T1, id1, hk1, K1⟩ := Item.list (prog := prog) (w := w) (k := k + 20) (ds := N.map NRow.dt) (n := n1) (d := r.dt) (by rw [List.getElem?_map, hr]; rfl) (by rw [List.length_map]; lia)
  refine hno_ ?_
  clear hno_
  refine wpAny_execs_cons (wpAny_Assign_stores ?_ ?_ ?_)
  · refine subs_D hk1 (Wst.ev (s := { s with heap := h4, toks := tk4 }) (d := .list (N.map NRow.dt)) S4 ok' Ev.nm (nr_nd N) fun v5 h5 tk5 k5 i5 S5 => ?_) (fun _ _ => ⟨_, rfl⟩)
    refine Wst.pick (s := { s with heap := h5, toks := tk5 }) S5 ok' gP fnP.callee (pick_pc (k := k + 19) fnP) (m := (N.length : Nat)) (by
      have := Cl.len_list (prog := prog) (w := w) (h₀ := h₀) (k := k + 20) (ds := N.map NRow.dt) (by rw [List.length_map]; lia)
      rw [List.length_map] at this
      exact Ev.call O.len (cb _ _) (Evs.cons Ev.nm Evs.nil) this) (by lia) (by lia) fun t6 h6 tk6 G6 sb6 S6 => ?_
    rw [e1]
    refine K1 A' G6 { s with heap := h6, toks := tk6 } E' v5 _ _ ok' S6.fs.rd.inh (i5.mono sb6) (.int _ _) fun v7 tk7 i7 => ?_
    show wpAny _ A' (PySem.assign (.Tuple [.Name "path" _, .Name "within" _, .Name "old" _, .Name "thing" _] 0 _) env v7) _ _ _
    refine Wst.bind (s := { s with heap := h6, toks := tk7 }) S6 (.tup (xs := ["path", "within", "old", "thing"]) (.cons (.cons (.cons (.cons .nil)))) rfl (by decide)) i7 ok'.1 (.inr (zipb (by decide))) (zipb (P := fun x => List.lookup x _ = none) fun y hy => ?_) fun h8 tk8 S8 => ?_
    · have h1 : y ≠ wN := by revert y; decide
      have h2 : y ≠ oN := by revert y; decide
      rw [List.lookup_cons, beq_eq_false_iff_ne.mpr h1, List.lookup_cons, beq_eq_false_iff_ne.mpr h2]; rfl
    · refine wpAny_execs_cons (Wst.assign (s := { s with heap := h8, toks := tk8 }) (d := .bool (!dhas (dirD l) (.str x))) S8 ok' (Ev.cmp Ev.nm (Ev.dir (Ev.folders (W := W) Ev.nm) Ev.nm hl) (Cmp.notHas rfl)) rfl fun h9 tk9 G9 sb9 S9 => ?_)
      rw [dhas_dir] at S9
      refine wpAny_execs_cons (deed_last (k := k) (s := { s with heap := h9, toks := tk9 }) (r := r) (N := N) (way := way) U rd hrm hl hxo S9 ok' _ rfl fun h10 tk10 G10 R10 fa10 W10 dd S10 => ?_)
      exact wpAny_execs_nil (fin _ _ _ _ _ _ _ _ dd S10)
  · rfl
  · rfl
end
end Mine
end

section
open PySem PySem.Spec PySem.Calls PyProof.Rows PySem.W
namespace Mine
open scoped Classical

/-! Part PL: the world is made -/
section
variable {prog : Program} {w : World} {h₀ : Heap} {sc : Scope} {F G₀ R R' : Gh} {ρ ω ω' : List (Str × Dt)} {k : Nat} {G G' : Gh} {s : Shared} {env : Env} {A : Around} {E : Value → Shared → Prop} {h h' : Heap} {aw af st : Addr} {fa fa' : List (Int × Addr)} {W W' : Wd}

theorem storeAll_nil {d : Addr} {Q : PUnit → Shared → Prop} (q : Q PUnit.unit s) : wpAny (model prog w) A (storeAll d []) Q E s := by
  unfold storeAll
  rw [List.forIn_nil]
  exact wpAny_pure q
theorem storeAll_cons {d : Addr} {x y : Value} {vs : List (Value × Value)} {Q : PUnit → Shared → Prop} (q : wpAny (model prog w) A (dictSet d x y) (fun _ s₁ => wpAny (model prog w) A (storeAll d vs) Q E s₁) E s) : wpAny (model prog w) A (storeAll d ((x, y) :: vs)) Q E s := by
  unfold storeAll
  rw [List.forIn_cons]
  exact wpAny_bind (wpAny_bind (wpAny_mono q (fun _ s₁ h₁ => wpAny_pure h₁) fun _ _ e => e))

theorem pairs_nil {Q : List (Value × Value) → Shared → Prop} (q : Q [] s) : wpAny (model prog w) A (evalPairs []) Q E s := wpAny_pure q
theorem pairs_cons {ke ve : Expr} {ks : List (Option Expr)} {vs : List Expr} {pos : Pos} {Q : List (Value × Value) → Shared → Prop}
    (q : wpAny (model prog w) A (eval ke env) (fun kv s₁ => wpAny (model prog w) A (eval ve env) (fun vv s₂ => wpAny (model prog w) A (evalPairs (pairTrees ks vs env pos)) (fun r s₃ => Q ((kv, vv) :: r) s₃) E s₂) E s₁) E s) :
    wpAny (model prog w) A (evalPairs (pairTrees (some ke :: ks) (ve :: vs) env pos)) Q E s := by
  show wpAny _ _ (evalPairs ((eval ke env, (do let x ← eval ve env; standAt pos; pure x)) :: pairTrees ks vs env pos)) Q E s
  refine wpAny_bind (wpAny_mono q (fun kv s₁ h₁ => wpAny_bind (wpAny_holding (wpAny_bind (wpAny_mono h₁ (fun vv s₂ h₂ => wpAny_bind (wpAny_standAt (wpAny_pure (wpAny_bind (wpAny_holding (wpAny_mono h₂ (fun r s₃ h₃ => wpAny_pure h₃) fun _ _ e => e)))))) fun _ _ e => e)))) fun _ _ e => e)

theorem same_get {a b : Addr} {o : Obj} (x : Heap.SameBut a h h') (hb : b ≠ a) (e : h.get? b = some o) : h'.get? b = some o := x.extBut b o hb e

noncomputable abbrev newD : Obj := { cls := .type "dict", data := .dict #[] }

/-- a walk, wrapped: no unfolding when it is used -/
structure Run {α : Type} (M : Model) (A : Around) (x : Sem α) (Q : α → Shared → Prop) (E : Value → Shared → Prop) (s : Shared) : Prop where
  run : wpAny M A x Q E s

/-- {1: {}} -/
theorem disp_dir {p1 p2 p3 : Pos} {kd : Nat} {Q : Value → Shared → Prop} (ok : Ok A k) (hs : sysModules < s.heap.objs.size)
    (q : ∀ h' tk es c, Kp s.heap h' → h'.objs.size = s.heap.objs.size + 2 → h'.get? s.heap.objs.size = some (dicObj es c) → FE w es.toList [(1, s.heap.objs.size + 1)] → h'.get? (s.heap.objs.size + 1) = some (dicObj #[] 0) → Q (.ref s.heap.objs.size) { s with heap := h', toks := tk }) :
    Run (model prog w) A (eval (.Dict [some (.Constant (.int 1) kd p1)] [.Dict [] [] p2] p3) env) Q E s := by
  refine ⟨?_⟩
  refine nn fun hno_ => ?_
  obtain ⟨X, hX⟩ : ∃ X, X = Expr.Dict [] [] p2 := ⟨_, rfl⟩
  refine hno_ ?_
  clear hno_
  rw [← hX]
  refine wpAny_Dict_any (by rfl) (by rfl) (by simp) (by simp) ?_
  have dead : s.heap.get? s.heap.objs.size = none := heap_none (Nat.le_refl _)
  have kp1 : Kp s.heap (s.heap.push newD) := Kp.push _ _
  have l1 : (s.heap.push newD).get? s.heap.objs.size = some (dicObj #[] 0) := Heap.get?_push_size _ rfl
  have z1 : (s.heap.push newD).objs.size = s.heap.objs.size + 1 := Heap.size_push ..
  generalize hn : s.heap.objs.size = n at *
  generalize hH1 : s.heap.push newD = H1 at *
  refine pairs_cons (ke := .Constant (.int 1) kd p1) (ve := X) (ks := []) (vs := []) (pos := p3) (env := env) ?_
  refine wpAny_Constant_int ?_
  rw [hX]
  refine wpAny_Dict_empty ?_
  refine pairs_nil ?_
  show wpAny _ _ (storeAll n [(Value.int 1 s.toks, Value.ref H1.objs.size)]) _ _ { s with heap := H1.push newD, toks := s.toks + 1 }
  have kp2 : Kp H1 (H1.push newD) := Kp.push _ _
  have l2 : (H1.push newD).get? (n + 1) = some (dicObj #[] 0) := by rw [← z1]; exact Heap.get?_push_size _ rfl
  have z2 : (H1.push newD).objs.size = n + 2 := by rw [Heap.size_push, z1]
  rw [z1]
  generalize hH2 : H1.push newD = H2 at *
  refine storeAll_cons (dictSetV (s := { s with heap := H2, toks := s.toks + 1 }) (G := nG) (kvs := []) (k := .int 1) (inH_nG _) (ok.u 64 (by omega)) (kp2 _ _ l1) .nil List.nodup_nil rfl (.int _ _) (by simp) fun h3 tk3 es' n' o3 e3 s3 => storeAll_nil ?_)
  have kp : Kp s.heap h3 := fun b o e => same_get s3 (by rintro rfl; rw [dead] at e; cases e) (kp2 _ _ (kp1 _ _ e))
  refine q h3 tk3 es' n' kp ?_ o3 ?_ (same_get s3 (Nat.succ_ne_self n) l2)
  · rw [s3.1]; exact z2
  · rw [e3]
    exact FE.cons .nil

/-- {1: 0} -/
theorem disp_sts {p1 p2 p3 : Pos} {kd kd' : Nat} {Q : Value → Shared → Prop} (ok : Ok A k) (hs : sysModules < s.heap.objs.size)
    (q : ∀ h' tk es c, Kp s.heap h' → h'.objs.size = s.heap.objs.size + 1 → h'.get? s.heap.objs.size = some (dicObj es c) → IsEnts w nG es.toList (stsD [(1, 0)]) → Q (.ref s.heap.objs.size) { s with heap := h', toks := tk }) :
    Run (model prog w) A (eval (.Dict [some (.Constant (.int 1) kd p1)] [.Constant (.int 0) kd' p2] p3) env) Q E s := by
  refine ⟨?_⟩
  obtain ⟨X, hX⟩ : ∃ X, X = Expr.Constant (.int 0) kd' p2 := ⟨_, rfl⟩
  rw [← hX]
  refine wpAny_Dict_any (by rfl) (by rfl) (by simp) (by simp) ?_
  have dead : s.heap.get? s.heap.objs.size = none := heap_none (Nat.le_refl _)
  have kp1 : Kp s.heap (s.heap.push newD) := Kp.push _ _
  have l1 : (s.heap.push newD).get? s.heap.objs.size = some (dicObj #[] 0) := Heap.get?_push_size _ rfl
  have z1 : (s.heap.push newD).objs.size = s.heap.objs.size + 1 := Heap.size_push ..
  generalize hn : s.heap.objs.size = n at *
  generalize hH1 : s.heap.push newD = H1 at *
  refine pairs_cons ?_
  refine wpAny_Constant_int ?_
  rw [hX]
  refine wpAny_Constant_int ?_
  refine pairs_nil ?_
  refine storeAll_cons (dictSetV (s := { s with heap := H1, toks := s.toks + 1 + 1 }) (G := nG) (kvs := []) (k := .int 1) (inH_nG _) (ok.u 64 (by omega)) l1 .nil List.nodup_nil rfl (.int _ _) (by simp) fun h3 tk3 es' n' o3 e3 s3 => storeAll_nil ?_)
  have kp : Kp s.heap h3 := fun b o e => same_get s3 (by rintro rfl; rw [dead] at e; cases e) (kp1 _ _ e)
  refine q h3 tk3 es' n' kp ?_ o3 ?_
  · rw [s3.1]; exact z1
  · rw [e3]
    exact .cons rfl rfl (.int _ _) (.int _ _) .nil

theorem str_ne' {a b : Str} (h : (a == b) = false) : Dt.str a ≠ Dt.str b := fun e => by rw [str_ne h] at e; exact e

/-- the world as the law makes it -/
theorem disp_D {p1 p2 p3 p4 p5 p6 p7 p8 p9 p10 p11 : Pos} {k1 k2 k3 k4 k5 k6 k7 : Nat} {Q : Value → Shared → Prop} (ok : Ok A k) (hs : sysModules < s.heap.objs.size)
    (q : ∀ h' tk, Kp s.heap h' → TopO w h' s.heap.objs.size (s.heap.objs.size + 1) (s.heap.objs.size + 3) 1 → (∃ es c, h'.get? (s.heap.objs.size + 1) = some (dicObj es c) ∧ FE w es.toList [(1, s.heap.objs.size + 2)]) → h'.get? (s.heap.objs.size + 2) = some (dicObj #[] 0) →
      (∃ es c, h'.get? (s.heap.objs.size + 3) = some (dicObj es c) ∧ IsEnts w nG es.toList (stsD [(1, 0)])) → Q (.ref s.heap.objs.size) { s with heap := h', toks := tk }) :
    Run (model prog w) A (eval (.Dict [some (.Constant (.str "folders") k1 p1), some (.Constant (.str "states") k2 p2), some (.Constant (.str "last") k3 p3)]
      [.Dict [some (.Constant (.int 1) k4 p4)] [.Dict [] [] p5] p6, .Dict [some (.Constant (.int 1) k5 p7)] [.Constant (.int 0) k6 p8] p9, .Constant (.int 1) k7 p10] p11) env) Q E s := by
  refine ⟨?_⟩
  obtain ⟨X, hX⟩ : ∃ X, X = Expr.Dict [some (.Constant (.int 1) k4 p4)] [.Dict [] [] p5] p6 := ⟨_, rfl⟩
  obtain ⟨Y, hY⟩ : ∃ X, X = Expr.Dict [some (.Constant (.int 1) k5 p7)] [.Constant (.int 0) k6 p8] p9 := ⟨_, rfl⟩
  obtain ⟨Z, hZ⟩ : ∃ X, X = Expr.Constant (.int 1) k7 p10 := ⟨_, rfl⟩
  rw [← hX, ← hY, ← hZ]
  refine wpAny_Dict_any (by rfl) (by rfl) (by simp) (by simp) ?_
  have dead : s.heap.get? s.heap.objs.size = none := heap_none (Nat.le_refl _)
  have kp1 : Kp s.heap (s.heap.push newD) := Kp.push _ _
  have l1 : (s.heap.push newD).get? s.heap.objs.size = some (dicObj #[] 0) := Heap.get?_push_size _ rfl
  have z1 : (s.heap.push newD).objs.size = s.heap.objs.size + 1 := Heap.size_push ..
  generalize hn : s.heap.objs.size = n at *
  generalize hH1 : s.heap.push newD = H1 at *
  refine pairs_cons (ke := (.Constant (.str "folders") k1 p1)) (ve := X) (ks := [some (.Constant (.str "states") k2 p2), some (.Constant (.str "last") k3 p3)]) (vs := [Y, Z]) (pos := p11) (env := env) ?_
  refine wpAny_Constant_str ?_
  rw [hX]
  refine Run.run ?_
  refine disp_dir (s := { s with heap := H1, toks := s.toks + 1 }) ok (by show sysModules < H1.objs.size; rw [z1]; exact Nat.lt_succ_of_lt hs) fun h2 tk2 es2 c2 kp2 z2 o2 f2 d2 => ?_
  dsimp only at kp2 z2 o2 f2 d2
  refine pairs_cons (ke := (.Constant (.str "states") k2 p2)) (ve := Y) (ks := [some (.Constant (.str "last") k3 p3)]) (vs := [Z]) (pos := p11) (env := env) ?_
  refine wpAny_Constant_str ?_
  rw [hY]
  refine Run.run ?_
  refine disp_sts (s := { s with heap := h2, toks := tk2 + 1 }) ok (by show sysModules < h2.objs.size; rw [z2, z1]; exact Nat.lt_of_lt_of_le hs (Nat.le_add_right n 3)) fun h3 tk3 es3 c3 kp3 z3 o3 f3 => ?_
  dsimp only at kp3 z3 o3 f3
  refine pairs_cons (ke := (.Constant (.str "last") k3 p3)) (ve := Z) (ks := []) (vs := []) (pos := p11) (env := env) ?_
  refine wpAny_Constant_str ?_
  rw [hZ]
  refine wpAny_Constant_int ?_
  refine pairs_nil ?_
  rw [z1] at o2 f2 d2 z2
  rw [z2] at o3 z3
  have e4 : n + 1 + 2 = n + 3 := rfl
  rw [e4] at o3 z3
  dsimp only
  rw [z1, z2]
  have hne : ∀ i : Nat, n + i ≠ sysModules := fun i => Nat.ne_of_gt (Nat.lt_of_lt_of_le hs (Nat.le_add_right n i))
  have hn1 : n + 1 ≠ n := Nat.succ_ne_self n
  have hn2 : n + 2 ≠ n := Nat.ne_of_gt (Nat.lt_add_of_pos_right (by decide))
  have hn3 : n + 3 ≠ n := Nat.ne_of_gt (Nat.lt_add_of_pos_right (by decide))
  have a0 := kp3 _ _ (kp2 _ _ l1)
  have a1 := kp3 _ _ o2
  have a2 := kp3 _ _ d2
  have I1 : Is w (fun b => h3.get? b) (.ref (n + 1)) (.dict [(.int 1, .dict [])]) := by
    refine .dict a1 (hne 1) ?_ (by simp)
    have f2' := f2
    revert f2'
    generalize es2.toList = l2
    intro f2'
    cases f2' with
    | cons r =>
      cases r
      exact .cons rfl rfl (.int _ _) (.dict a2 (hne 2) .nil List.nodup_nil) .nil
  have I3 : Is w (fun b => h3.get? b) (.ref (n + 3)) (.dict (stsD [(1, 0)])) := .dict o3 (hne 3) (f3.mono (sub_nG _)) (by simp [stsD])
  have n1 : Dt.str "states" ≠ Dt.str "folders" := str_ne' (by decide)
  have n2 : Dt.str "last" ≠ Dt.str "folders" := str_ne' (by decide)
  have n3 : Dt.str "last" ≠ Dt.str "states" := str_ne' (by decide)
  refine storeAll_cons (dictSetV (s := { s with heap := h3, toks := tk3 + 1 + 1 }) (G := fun b => h3.get? b) (kvs := []) (k := .str "folders") (fun _ _ e => e) (ok.u 64 (by omega)) a0 .nil List.nodup_nil rfl (.str _ _ (by decide +kernel)) (by simp) fun h4 tk4 es4 n4 o4 e4 s4 => ?_)
  have b1 : ∀ {b o}, b ≠ n → h3.get? b = some o → h4.get? b = some o := fun hb e => same_get s4 hb e
  have hG4 : InH (fun b => if b = n then none else h3.get? b) h4 := fun b o e => by
    dsimp only at e
    split at e
    · cases e
    · rename_i hb; exact b1 hb e
  have sub4 : ∀ {b o}, b ≠ n → h3.get? b = some o → (fun b => if b = n then none else h3.get? b : Gh) b = some o := fun {b o} hb e => by dsimp only; rw [if_neg hb]; exact e
  have J1 : Is w (fun b => if b = n then none else h3.get? b) (.ref (n + 1)) (.dict [(.int 1, .dict [])]) := by
    refine .dict (sub4 hn1 a1) (hne 1) ?_ (by simp)
    have f2' := f2
    revert f2'
    generalize es2.toList = l2
    intro f2'
    cases f2' with
    | cons r =>
      cases r
      exact .cons rfl rfl (.int _ _) (.dict (sub4 hn2 a2) (hne 2) .nil List.nodup_nil) .nil
  have J3 : Is w (fun b => if b = n then none else h3.get? b) (.ref (n + 3)) (.dict (stsD [(1, 0)])) := .dict (sub4 hn3 o3) (hne 3) (f3.mono (sub_nG _)) (by simp [stsD])
  have E4 : IsEnts w (fun b => if b = n then none else h3.get? b) es4.toList [(.str "folders", .dict [(.int 1, .dict [])])] := by
    rw [e4]
    exact .cons rfl rfl (.str _ _ (by decide +kernel)) J1 .nil
  refine storeAll_cons (dictSetV (s := { s with heap := h4, toks := tk4 }) (G := fun b => if b = n then none else h3.get? b) (k := .str "states") hG4 (ok.u 64 (by omega)) o4 E4 (by simp) rfl (.str _ _ (by decide +kernel)) (by simp) fun h5 tk5 es5 n5 o5 e5 s5 => ?_)
  have d5 : dIdx [(Dt.str "folders", Dt.dict [(.int 1, .dict [])])] (.str "states") = none := dIdx_none fun i d e => by
    have := List.mem_of_getElem? e
    simp only [List.mem_singleton, Prod.mk.injEq] at this
    exact n1 this.1
  rw [d5, e4] at e5
  have hG5 : InH (fun b => if b = n then none else h3.get? b) h5 := fun b o e => by
    have := hG4 b o e
    dsimp only at e
    split at e
    · cases e
    · rename_i hb; exact same_get s5 hb this
  have E5 : IsEnts w (fun b => if b = n then none else h3.get? b) es5.toList [(.str "folders", .dict [(.int 1, .dict [])]), (.str "states", .dict (stsD [(1, 0)]))] := by
    rw [e5]
    exact .cons rfl rfl (.str _ _ (by decide +kernel)) J1 (.cons rfl rfl (.str _ _ (by decide +kernel)) J3 .nil)
  refine storeAll_cons (dictSetV (s := { s with heap := h5, toks := tk5 }) (G := fun b => if b = n then none else h3.get? b) (k := .str "last") hG5 (ok.u 64 (by omega)) o5 E5 (by simpa using fun e => n1 (by rw [e])) rfl (.str _ _ (by decide +kernel)) (by simp) fun h6 tk6 es6 n6 o6 e6 s6 => ?_)
  have d6 : dIdx [(Dt.str "folders", Dt.dict [(.int 1, .dict [])]), (.str "states", .dict (stsD [(1, 0)]))] (.str "last") = none := dIdx_none fun i d e => by
    have := List.mem_of_getElem? e
    simp only [List.mem_cons, List.not_mem_nil, or_false, Prod.mk.injEq] at this
    rcases this with ⟨e, _⟩ | ⟨e, _⟩
    · exact n2 e
    · exact n3 e
  rw [d6, e5] at e6
  refine storeAll_nil ?_
  have b6 : ∀ {b o}, b ≠ n → h3.get? b = some o → h6.get? b = some o := fun hb e => same_get s6 hb (same_get s5 hb (b1 hb e))
  refine q h6 tk6 (fun b o e => b6 (by rintro rfl; rw [dead] at e; cases e) (kp3 _ _ (kp2 _ _ (kp1 _ _ e)))) ⟨hne 0, es6, n6, _, _, _, _, o6, e6⟩ ⟨_, _, b6 hn1 a1, f2⟩ (b6 hn2 a2) ⟨_, _, b6 hn3 o3, f3⟩
end
end Mine
end

section
open PySem PySem.Spec PySem.Calls PyProof.Rows PySem.W
namespace Mine
open scoped Classical

/-! Part PM: a loop whose names change in ways not foreseen -/
section
variable {prog : Program} {w : World} {h₀ : Heap} {sc : Scope} {F G₀ R : Gh} {ρ ω : List (Str × Dt)} {k : Nat} {G G' : Gh} {s : Shared} {env : Env} {A : Around} {E : Value → Shared → Prop} {h h' : Heap}

end
end Mine
end

section
open PySem PySem.Spec PySem.Calls PyProof.Rows PySem.W
namespace Mine
open scoped Classical

/-! Part PN: the law's body -/
noncomputable def W0 : Wd := ⟨[(1, [])], [(1, 0)], 1⟩

/-- what the plain law must show -/
structure Plain (I : Nat → Wd → Prop) : Prop where
  zero : I 0 W0
  step : ∀ m W W', m < 16 → I m W → Deed W W' → I (m + 1) W'
  rdy : ∀ m W, m ≤ 16 → I m W → Rdy W
  rows : ∀ m W, m ≤ 16 → I m W → (∀ r ∈ rowsOf W NN, RowOk r) ∧ (rowsOf W NN).length ≤ 20
  law : ∀ m m' W W', m ≤ 16 → m' ≤ 16 → I m W → I m' W' → rowsChanged (rowsOf W NN) (rowsOf W' NN) = lawDue (rowsOf W NN) (rowsOf W' NN)
  self : ∀ m W, m ≤ 16 → I m W → rowsChanged (rowsOf W NN) (rowsOf W NN) = []

section
variable {prog : Program} {w : World} {h₀ : Heap} {sc : Scope} {F G₀ R R' : Gh} {ρ ω ω' : List (Str × Dt)} {k : Nat} {G G' : Gh} {s : Shared} {env : Env} {A : Around} {E : Value → Shared → Prop} {h h' : Heap} {aw af st : Addr} {fa fa' : List (Int × Addr)} {W W' : Wd} {K : Frag} {C fI fO : Addr}

theorem Es.go {st : Stmt} {ρ' ω' : List (Str × Dt)} {Q : Flow → Shared → Prop} (H : Es prog w h₀ k sc ρ ω st fun c => c = .next ρ' ω') (ok : Ok A k) (X : Fs w h₀ sc F G₀ ρ ω G s.heap env)
    (q : ∀ h' tk G', Fs w h₀ sc F G₀ ρ' ω' G' h' env → Q .next { s with heap := h', toks := tk }) : wpAny (model prog w) A (exec st env) Q E s :=
  wpAny_mono (H.run A F G₀ G env s E ok X) (fun fl s' x => by
    obtain ⟨c, h', tk, rfl, rfl, fit⟩ := x
    obtain ⟨rfl, G', X'⟩ := fit
    exact q h' tk G' X') fun _ _ e => e

/-- _law_deed(world, [e]) -/
theorem Wst.callD {e : Expr} {d : Int} {np wp lp pos ep : Pos} {f : Value} {Q : Flow → Shared → Prop} (S : Wst w h₀ sc F G₀ ρ ω G R s.heap env aw af st fa W) (ok : Ok A k) (hv : GVal h₀ "_law_deed" f) (hf : Callee h₀ f) (D : DeedD prog w h₀ k f W)
    (H : Ev prog w h₀ k sc ρ e (.int d)) (hω : ω.lookup wN = none)
    (q : ∀ h' tk G' R' fa' W', Deed W W' → Wst w h₀ sc F G₀ ρ ω G' R' h' env aw af st fa' W' → Q .next { s with heap := h', toks := tk })
    (hx : autoParam (sc.names.lookup ("_law_deed" : Str) = some .globalImplicit) aR._auto_1) (he : autoParam (starred e = false) aR._auto_1) :
    wpAny (model prog w) A (exec (.Expr (.Call (.Name "_law_deed" np) [.Name wN wp, .List [e] lp] [] pos) ep) env) Q E s := by
  refine wpAny_Expr_any (wpAny_Call_ofName (gname_D S.fs.rd hx hv (by decide) (callW_D hf (wpAny_items_cons (wpAny_Name (load_At S.fs S.top.hat (by decide) ?_) (by decide)) (star_cons rfl)) (star_cons rfl) (star_none (by rfl))))) (hi := by unfold interactive; rw [S.fs.rd.scope, S.fs.rd.kind]; rfl)
  refine wpAny_items_cons (wpAny_mono ((EvF.lst (ds := [.int d]) (Evs.cons H Evs.nil he) (by simp)).run A G env s E ok S.fs.rd) (fun v s' x => wpAny_items_nil ?_) fun _ _ e => e) (star_cons rfl)
  obtain ⟨ao, h1, tk1, rfl, ha, rfl, k1, i1⟩ := x
  refine nn fun hno_ => ?_
  obtain ⟨X1, l1, g1, f1, n1, c1, o1⟩ := fresh_own S.fs k1 ha i1
  refine hno_ ?_
  clear hno_
  have low : ∀ b o, s.heap.get? b = some o → rm (Mine.exl G s.heap h1) ao b = G b := fun b o e => by
    unfold rm
    rw [if_neg (by rintro rfl; rw [ha] at e; cases e)]
    unfold Mine.exl; rw [e]
  have S1 : Wst w h₀ sc F G₀ ρ ω (rm (Mine.exl G s.heap h1) ao) R h1 env aw af st fa W := ⟨X1, S.o2.step S.fs k1 low, S.wr⟩
  refine ⟨X1.rd.keep, ?_⟩
  have la : LAt w nG h1 ao [.int d] := by
    refine nn fun hno_ => ?_
    obtain ⟨vs, n, hv, iv⟩ := l1.obj
    refine hno_ ?_
    clear hno_
    exact ⟨⟨vs, n, hv, iv.flat (by simp [Mine.flat])⟩⟩
  have hwl : ∃ o, s.heap.get? aw = some o := by
    refine nn fun hno_ => ?_
    obtain ⟨_, es, c, _, _, _, _, ho, _⟩ := S.top.o
    refine hno_ ?_
    clear hno_
    exact ⟨_, ho⟩
  have hRo : R ao = none := by
    cases r : R ao with
    | none => rfl
    | some o => have := S.o2.inR _ _ r; rw [ha] at this; cases this
  refine wpAny_mono (D.run A _ E ao aw af st fa R d ok X1.rd.keep S1.wh la (by rintro rfl; obtain ⟨o, e⟩ := hwl; rw [ha] at e; cases e) hRo (S.fs.rd.keep.none ha)) (fun v s' x => ?_) fun _ _ e => e
  obtain ⟨h', tk, fa', R', W', dd, rfl, wh, step⟩ := x
  refine q h' tk _ R' fa' W' dd (S1.after wh step hω fun b e => ?_)
  subst e
  exact ⟨f1, g1, n1, c1, o1⟩

theorem Run.assignName {x : Str} {pos' pos : Pos} {value : Expr} {Q : Flow → Shared → Prop} (h : Run (model prog w) A (eval value env) (fun v s₁ => wpAny (model prog w) A (storeName env x v) (fun _ => Q .next) E s₁) E s)
    (hs : swapsWith value (some (.Name x pos')) pos.line env = pure false) : Run (model prog w) A (exec (.Assign [.Name x pos'] value pos) env) Q E s := ⟨wpAny_Assign_Name h.run hs⟩

/-- world = {..} -/
theorem world_made {p1 p2 p3 p4 p5 p6 p7 p8 p9 p10 p11 pw ps : Pos} {k1 k2 k3 k4 k5 k6 k7 : Nat} {Q : Flow → Shared → Prop} (hlim : h₀.NoLimit) (X : Fs w h₀ sc F G₀ ρ [] G s.heap env) (ok : Ok A k) (hρ : ρ.lookup wN = none)
    (hx : sc.names.lookup wN = some .local ∨ sc.names.lookup wN = some .cell)
    (q : ∀ h' tk R aw af st fa, Wst w h₀ sc F G₀ ρ [] G R h' env aw af st fa W0 → Q .next { s with heap := h', toks := tk }) :
    Run (model prog w) A (exec (.Assign [.Name wN pw] (.Dict [some (.Constant (.str "folders") k1 p1), some (.Constant (.str "states") k2 p2), some (.Constant (.str "last") k3 p3)]
      [.Dict [some (.Constant (.int 1) k4 p4)] [.Dict [] [] p5] p6, .Dict [some (.Constant (.int 1) k5 p7)] [.Constant (.int 0) k6 p8] p9, .Constant (.int 1) k7 p10] p11) ps) env) Q E s := by
  have hsys : sysModules < s.heap.objs.size := by
    refine nn fun hno_ => ?_
    obtain ⟨mc, ⟨o, es, ep, ho, _⟩, _⟩ := id hlim
    refine hno_ ?_
    clear hno_
    exact Nat.lt_trans (by decide) (Heap.lt_size (X.rd.keep _ _ ho))
  refine Run.assignName ?_ (swaps_no rfl)
  refine disp_D ok hsys fun h1 tk1 k1 ht hf hd hst => ?_
  have dead : ∀ i : Nat, s.heap.get? (s.heap.objs.size + i) = none := fun i => heap_none (Nat.le_add_right _ _)
  generalize hn : s.heap.objs.size = n at *
  refine nn fun hno_ => ?_
  obtain ⟨es1, c1, o1, f1⟩ := hf
  refine hno_ ?_
  clear hno_
  refine nn fun hno_ => ?_
  obtain ⟨es3, c3, o3, f3⟩ := hst
  refine hno_ ?_
  clear hno_
  have dead0 : s.heap.get? n = none := dead 0
  have X1 := X.same k1
  have ne : ∀ {i : Nat} {b : Addr} {o : Obj}, s.heap.get? b = some o → n + i ≠ b := fun {i b o} e q => by rw [← q, dead i] at e; cases e
  have nL : ∀ i : Nat, n + i ≠ env.locals := fun i => by obtain ⟨m, o, es, ep, hL, _⟩ := X.ns; exact ne hL
  have nc : ∀ (i : Nat) y c, env.cells.lookup y = some c → n + i ≠ c := fun i y c hc => by obtain ⟨_, _, _, v, o, hcell, _⟩ := X.cell y c hc; exact ne hcell
  refine store_D (s := { s with heap := h1, toks := tk1 }) X1 hx fun h2 tk2 hb hat hk hns hc => ?_
  have X2 : Fs w h₀ sc F G₀ ρ [(wN, wD n (n + 1) (n + 3) 1)] G h2 env := X1.bindOwn hb hat hk hns hc rfl (fun y d e => ⟨fun q => (by subst q; rw [hρ] at e; cases e), e⟩) (d := wD n (n + 1) (n + 3) 1) (wD_of ht) (inh_none X.rd.inh dead0) (inh_none X.inF dead0) (nL 0) (nc 0) (fun y d b e => by simp at e)
  obtain ⟨b0, hb0, kb⟩ := hb
  have nb : ∀ i : Nat, n + i ≠ b0 := fun i => by
    rcases hb0 with rfl | ⟨y, e⟩
    · exact nL i
    · exact nc i y b0 e
  have x1 := kb _ _ (nb 1) o1
  have x2 := kb _ _ (nb 2) hd
  have x3 := kb _ _ (nb 3) o3
  have e12 : n + 1 ≠ n + 2 := Nat.ne_of_lt (Nat.lt_succ_self _)
  have e13 : n + 1 ≠ n + 3 := Nat.ne_of_lt (Nat.add_lt_add_left (by decide) n)
  have e23 : n + 2 ≠ n + 3 := Nat.ne_of_lt (Nat.lt_succ_self _)
  have hRs : ∀ b o, put (put (put nG (n + 1) (dicObj es1 c1)) (n + 2) (dicObj #[] 0)) (n + 3) (dicObj es3 c3) b = some o → (b = n + 1 ∧ o = dicObj es1 c1) ∨ (b = n + 2 ∧ o = dicObj #[] 0) ∨ (b = n + 3 ∧ o = dicObj es3 c3) := fun b o e => by
    by_cases q3 : b = n + 3
    · subst q3; rw [put_eq] at e; cases e; exact .inr (.inr ⟨rfl, rfl⟩)
    · rw [put_ne q3] at e
      by_cases q2 : b = n + 2
      · subst q2; rw [put_eq] at e; cases e; exact .inr (.inl ⟨rfl, rfl⟩)
      · rw [put_ne q2] at e
        by_cases q1 : b = n + 1
        · subst q1; rw [put_eq] at e; cases e; exact .inl ⟨rfl, rfl⟩
        · rw [put_ne q1] at e; cases e
  have r1 : put (put (put nG (n + 1) (dicObj es1 c1)) (n + 2) (dicObj #[] 0)) (n + 3) (dicObj es3 c3) (n + 1) = some (dicObj es1 c1) := by rw [put_ne e13, put_ne e12, put_eq]
  have r2 : put (put (put nG (n + 1) (dicObj es1 c1)) (n + 2) (dicObj #[] 0)) (n + 3) (dicObj es3 c3) (n + 2) = some (dicObj #[] 0) := by rw [put_ne e23, put_eq]
  have r3 : put (put (put nG (n + 1) (dicObj es1 c1)) (n + 2) (dicObj #[] 0)) (n + 3) (dicObj es3 c3) (n + 3) = some (dicObj es3 c3) := put_eq
  generalize put (put (put nG (n + 1) (dicObj es1 c1)) (n + 2) (dicObj #[] 0)) (n + 3) (dicObj es3 c3) = R at *
  have hsys' : ∀ i : Nat, n + i ≠ sysModules := fun i => Nat.ne_of_gt (Nat.lt_of_lt_of_le hsys (Nat.le_add_right n i))
  refine q h2 tk2 R n (n + 1) (n + 3) [(1, n + 2)] ⟨X2, ⟨fun b o e => ?_, fun b o e => ?_⟩, ?_⟩
  · rcases hRs b o e with ⟨rfl, rfl⟩ | ⟨rfl, rfl⟩ | ⟨rfl, rfl⟩
    · exact x1
    · exact x2
    · exact x3
  · obtain ⟨i, hi, rfl⟩ : ∃ i : Nat, 0 < i ∧ b = n + i := by
      rcases hRs b o e with ⟨rfl, _⟩ | ⟨rfl, _⟩ | ⟨rfl, _⟩
      · exact ⟨1, by decide, rfl⟩
      · exact ⟨2, by decide, rfl⟩
      · exact ⟨3, by decide, rfl⟩
    refine ⟨inh_none X.inF (dead i), inh_none X.rd.inh (dead i), nL i, nc i, fun y d c hy hcat => ?_⟩
    have hyw := one_bind hy
    subst hyw
    obtain rfl := ref_inj (hat.det hcat)
    exact Nat.ne_of_lt (Nat.lt_add_of_pos_right hi)
  · exact {
      fol := ⟨es1, c1, r1, f1⟩
      sts := ⟨es3, c3, r3, f3⟩
      keys := rfl
      dirs := fun t a l h1 h2 => by
        rw [List.mem_singleton] at h1
        cases h1
        have : l = [] := by
          have e : (W0.fol.lookup 1) = some [] := rfl
          rw [e] at h2; exact (Option.some.inj h2).symm
        subst this
        exact ⟨#[], 0, r2, .nil⟩
      inj := by simp
      off := by
        refine ⟨?_, ?_, e13⟩
        · intro h; rw [List.map_cons, List.map_nil, List.mem_singleton] at h; exact e12 h
        · intro h; rw [List.map_cons, List.map_nil, List.mem_singleton] at h; exact e23 h.symm
      sys := ⟨hsys' 1, hsys' 3, by intro h; rw [List.map_cons, List.map_nil, List.mem_singleton] at h; exact hsys' 2 h.symm⟩
      nodF := by simp [W0]
      nodS := by simp [W0]
      nodD := fun t l h => by
        have hm := mem_look h
        have : (t, l) = (1, []) := by simpa [W0] using hm
        cases this
        exact List.nodup_nil
      all := fun b o e => by
        rcases hRs b o e with ⟨_, rfl⟩ | ⟨_, rfl⟩ | ⟨_, rfl⟩ <;> exact ⟨_, _, rfl⟩ }
end
end Mine
end

section
open PySem PySem.Spec PySem.Calls PyProof.Rows PySem.W
namespace Mine
open scoped Classical

/-! Part PO: the law's body, walked -/
section
variable {prog : Program} {w : World} {h₀ : Heap} {sc : Scope} {F G₀ R R' : Gh} {ρ ω ω' : List (Str × Dt)} {k : Nat} {G G' : Gh} {s : Shared} {env : Env} {A : Around} {E : Value → Shared → Prop} {h h' : Heap} {aw af st : Addr} {fa fa' : List (Int × Addr)} {W W' : Wd} {K : Frag} {C fI fO : Addr}

noncomputable abbrev intsD (ns : List Int) : List Dt := ns.map Dt.int

/-- the invariant of the loops of deeds -/
noncomputable def LoopC (w : World) (I : Nat → Wd → Prop) (m : Nat) (aw af st : Addr) (i : Nat) (ω : List (Str × Dt)) (G R : Gh) : Prop := ∃ fa W, ω = [(wN, wD aw af st W.last)] ∧ WR w R af st fa W ∧ I (m + i) W

theorem law_loop (U : Funs prog w h₀ K C fI fO) {I : Nat → Wd → Prop} (PI : Plain I) {m : Nat} {ds : List Int} (hm : m + ds.length ≤ 16) {sc : Scope} (hρ : ρ.lookup ("digit" : Str) = none) (hdig : sc.names.lookup ("digit" : Str) = some .local) (hdeed : sc.names.lookup ("_law_deed" : Str) = some .globalImplicit) {np wp lp pos ep tp : Pos} {dp : Pos} :
    BodyE prog w h₀ (k + 21) sc ρ (.Name "digit" tp) [.Expr (.Call (.Name "_law_deed" np) [.Name wN wp, .List [.Name "digit" dp] lp] [] pos) ep] env (LoopC w I m aw af st) F (intsD ds) := by
  intro i d hd
  rw [List.getElem?_map] at hd
  cases hi : ds[i]? with
  | none => rw [hi] at hd; cases hd
  | some x =>
  rw [hi] at hd
  simp only [Option.map_some, Option.some.injEq] at hd
  subst hd
  have hlt := (List.getElem?_eq_some_iff.mp hi).1
  refine nn fun hno_ => ?_
  obtain ⟨fD, gD, fnD⟩ := U.f18
  refine hno_ ?_
  clear hno_
  refine ⟨_, .name, .inr fun x d hx => by rw [one_bind hx]; exact hdig, fun ω G R c x d hx => ?_, ?_⟩
  · obtain ⟨fa, W, rfl, _, _⟩ := c
    rw [one_bind hx]
    rfl
  · intro A F' G₀ G R ω s E ok _ X Y c
    obtain ⟨fa, W, rfl, x, iv⟩ := c
    have rd := PI.rdy _ W (by lia) iv
    have S : Wst w h₀ sc F' G₀ ([(("digit" : Str), Dt.int _)] ++ ρ) [] G R s.heap env aw af st fa W := ⟨X, Y, x⟩
    refine wpAny_execs_cons (S.callD ok gD fnD.callee (deed_dd U fnD W rd) Ev.nm rfl (fun h' tk G' R' fa' W' dd S' => ?_) hdeed)
    exact wpAny_execs_nil ⟨rfl, h', tk, G', R', _, rfl, S'.fs.weak (look_skip hρ) (look_id _), S'.o2, fa', W', rfl, S'.wr, PI.step (m + i) W W' (by lia) iv dd⟩

theorem rc_pl {l : List Dt} (h : ∀ d ∈ l, pl 59 d = true) : pl 60 (.list l) = true := by
  show l.all (pl 59) = true
  rw [List.all_eq_true]; exact h

theorem rowsChanged_pl {old new : List Row} (h1 : ∀ r ∈ old, RowOk r) (h2 : ∀ r ∈ new, RowOk r) (z1 : old.length ≤ 20) (z2 : new.length ≤ 20) : pl 60 (.list (rowsChanged old new)) = true := rc_pl fun d hd => by
  unfold rowsChanged at hd
  obtain ⟨x, hx, rfl⟩ := List.mem_map.mp hd
  obtain ⟨a, m, b, rfl, ha, hm, hb⟩ := diffOf_str h1 h2 z1 z2 x hx
  cases a <;> simp only [isStr] at ha <;> try cases ha
  cases m <;> simp only [isStr] at hm <;> try cases hm
  cases b <;> simp only [isStr] at hb <;> try cases hb
  unfold row3 rcOut
  dsimp only
  split <;> rfl

theorem Run.cons {st : Stmt} {ss : List Stmt} {Q : Flow → Shared → Prop} (h : Run (model prog w) A (exec st env) (fun fl s' => match fl with | .next => wpAny (model prog w) A (execs ss env) Q E s' | fl => Q fl s') E s) : Run (model prog w) A (execs (st :: ss) env) Q E s := ⟨wpAny_execs_cons h.run⟩

set_option maxHeartbeats 1000000 in
theorem law_run (U : Funs prog w h₀ K C fI fO) {I : Nat → Wd → Prop} (PI : Plain I) (ns : List Int) (hn : ns.length ≤ 63) {Q : Flow → Shared → Prop} (ok : Ok A (k + 24)) (X : Fs w h₀ (scopeAt 21) F G₀ [("script", .list (intsD ns))] [] G s.heap env)
    (q : ∀ h' tk, InH F h' → Q (.ret (.bool true)) { s with heap := h', toks := tk }) : wpAny (model prog w) A (execs (bodyAt 21) env) Q E s := by
  refine nn fun hno_ => ?_
  obtain ⟨fC, gC, fnC⟩ := U.f9
  refine hno_ ?_
  clear hno_
  obtain ⟨fR, gR, fnR⟩ := U.f13
  obtain ⟨fN, gN, fnN⟩ := U.f12
  obtain ⟨fS, gS, fnS⟩ := U.f14
  obtain ⟨fU, gU, fnU⟩ := U.f20
  have O := U.out
  -- script = script[:63]
  have e63 : (intsD ns).take 63 = intsD ns := List.take_of_length_le (by rw [List.length_map]; exact hn)
  refine wpAny_execs_cons (Es.go (k := k + 24) (ρ' := ("script", .list (intsD ns)) :: [("script", .list (intsD ns))]) (ω' := []) (Es.assign (d := .list (intsD ns)) ?_ rfl) ok X fun h1 tk1 G1 X1 => ?_)
  · have := EvF.slice (prog := prog) (w := w) (h₀ := h₀) (k := k + 24) (sc := scopeAt 21) (ρ := [("script", .list (intsD ns))]) (value := .Name "script" ⟨113, 13, 113, 19⟩) (lo := none) (hi := some (.Constant (.int 63) 0 ⟨113, 21, 113, 23⟩)) (p := ⟨113, 20, 113, 23⟩) (pos := ⟨113, 13, 113, 24⟩) (dl := .none) (dh := .int (63 : Nat)) (l := none) (u := some 63) (ds := intsD ns) Ev.nm rfl Ev.int .none (.some 63) (by rw [List.length_map]; lia)
    dsimp only [Option.getD_none] at this
    rw [List.drop_zero, e63] at this
    exact EvF.ev this
  replace X1 : Fs w h₀ (scopeAt 21) F G₀ [("script", .list (intsD ns))] [] G1 ({ s with heap := h1, toks := tk1 } : Shared).heap env := X1.weak (fun x d hx => by
    have := one_bind hx
    subst this
    exact hx) (look_id _)
  -- world = ..
  refine Run.run ?_
  refine Run.cons ?_
  refine world_made O.lim X1 ok rfl (.inl rfl) fun h2 tk2 R2 aw af st fa S2 => ?_
  -- the first deeds
  have l8 : intsD (ns.take 8) = (intsD ns).take 8 := List.map_take
  have z8 : (ns.take 8).length ≤ 8 := by rw [List.length_take]; lia
  refine wpAny_execs_cons (for_E (s := { s with heap := h2, toks := tk2 }) (Cn := LoopC w I 0 aw af st) (ρ₁ := [("script", .list (intsD ns))]) (d := .list (intsD (ns.take 8))) (fun i ω G G' R _ c => c) ok S2.fs S2.o2 ⟨fa, W0, rfl, S2.wr, PI.zero⟩ ?_ (.inl rfl) (look_id _)
    (law_loop (k := k + 3) U PI (m := 0) (ds := ns.take 8) (by lia) rfl rfl rfl) fun h3 tk3 G3 R3 ω3 X3 Y3 ⟨fa3, W1, e3, x3, iv1⟩ => ?_)
  · have := EvF.slice (prog := prog) (w := w) (h₀ := h₀) (k := k + 24) (sc := scopeAt 21) (ρ := [("script", .list (intsD ns))]) (value := .Name "script" ⟨115, 17, 115, 23⟩) (lo := none) (hi := some (.Constant (.int 8) 0 ⟨115, 25, 115, 26⟩)) (p := ⟨115, 24, 115, 26⟩) (pos := ⟨115, 17, 115, 27⟩) (dl := .none) (dh := .int (8 : Nat)) (l := none) (u := some 8) (ds := intsD ns) Ev.nm rfl Ev.int .none (.some 8) (by rw [List.length_map]; lia)
    dsimp only [Option.getD_none] at this
    rw [List.drop_zero, ← l8] at this
    exact EvF.ev this
  subst e3
  rw [List.length_map] at iv1
  have m1 : 0 + (ns.take 8).length ≤ 8 := by lia
  generalize 0 + (ns.take 8).length = m at iv1 m1
  have S3 : Wst w h₀ (scopeAt 21) F G₀ [("script", .list (intsD ns))] [] G3 R3 ({ s with heap := h3, toks := tk3 } : Shared).heap env aw af st fa3 W1 := ⟨X3, Y3, x3⟩
  have rd1 := PI.rdy m W1 (by lia) iv1
  obtain ⟨ro1, rz1⟩ := PI.rows m W1 (by lia) iv1
  have hnd : ∀ (rows : List Row), (∀ r ∈ rows, RowOk r) → nd (.list (rows.map Row.dt)) = true := fun rows hr => by
    show nds _ = true
    rw [nds_iff]
    intro d hd
    obtain ⟨r, hr', rfl⟩ := List.mem_map.mp hd
    show nds [Dt.str r.path, idD r.who, idD r.folder, r.state] = true
    rw [nds_iff]
    intro e he
    simp only [List.mem_cons, List.not_mem_nil, or_false] at he
    rcases he with rfl | rfl | rfl | rfl
    · rfl
    · rfl
    · rfl
    · exact (hr r hr').nd
  have rc1 := rows_cl (prog := prog) (w := w) (k := k + 22) O fnR gN fnN gS fnS W1 NN rd1.ok (by show 17 ≤ k + 22; lia)
  have self1 := PI.self m W1 (by lia) iv1
  have law12 := PI.law m
  generalize hr1 : rowsOf W1 NN = rows1 at *
  -- old = _law_rows(world)
  refine wpAny_execs_cons (Wst.assign (d := .list (rows1.map Row.dt)) S3 ok (EvF.ev (EvF.call gR fnR.callee (Evs.cons Ev.nm Evs.nil) rc1)) (hnd _ ro1) fun h4 tk4 G4 sb4 S4 => ?_)
  replace S4 : Wst w h₀ (scopeAt 21) F G₀ [("old", .list (rows1.map Row.dt)), ("script", .list (intsD ns))] [] G4 R3 ({ s with heap := h4, toks := tk4 } : Shared).heap env aw af st fa3 W1 := S4
  refine wpAny_execs_cons (Wst.ite S4 ok (Tr.cmp (EvF.ev (EvF.call gC fnC.callee (Evs.cons Ev.nm (Evs.cons Ev.nm Evs.nil)) (changed_cl (k := k + 21) U fnC rows1 rows1 ro1 ro1 rz1 rz1))) (EvF.ev (EvF.lst (ds := []) Evs.nil (by simp))) (Cmp.ne (rowsChanged_pl ro1 ro1 rz1 rz1) (by decide))) (fun hb h5 tk5 S5 => ?_) (fun hb h5 tk5 S5 => ?_))
  · rw [self1] at hb; simp at hb
  refine wpAny_execs_nil ?_
  replace S5 : Wst w h₀ (scopeAt 21) F G₀ [("old", .list (rows1.map Row.dt)), ("script", .list (intsD ns))] [] G4 R3 ({ s with heap := h5, toks := tk5 } : Shared).heap env aw af st fa3 W1 := S5
  -- the further deeds
  have l16 : intsD ((ns.take 16).drop 8) = ((intsD ns).take 16).drop 8 := by
    show ((ns.take 16).drop 8).map Dt.int = _
    rw [List.map_drop, List.map_take]
  have z16 : ((ns.take 16).drop 8).length ≤ 8 := by rw [List.length_drop, List.length_take]; lia
  refine wpAny_execs_cons (for_E (Cn := LoopC w I m aw af st) (ρ₁ := [("old", .list (rows1.map Row.dt)), ("script", .list (intsD ns))]) (d := .list (intsD ((ns.take 16).drop 8))) (fun i ω G G' R _ c => c) ok S5.fs S5.o2 ⟨fa3, W1, rfl, S5.wr, iv1⟩ ?_ (.inl rfl) (look_id _)
    (law_loop (k := k + 3) U PI (m := m) (ds := (ns.take 16).drop 8) (by lia) rfl rfl rfl) fun h6 tk6 G6 R6 ω6 X6 Y6 ⟨fa6, W2, e6, x6, iv2⟩ => ?_)
  · have := EvF.slice (prog := prog) (w := w) (h₀ := h₀) (k := k + 24) (sc := scopeAt 21) (ρ := [("old", .list (rows1.map Row.dt)), ("script", .list (intsD ns))]) (value := .Name "script" ⟨120, 17, 120, 23⟩) (lo := some (.Constant (.int 8) 0 ⟨120, 24, 120, 25⟩)) (hi := some (.Constant (.int 16) 0 ⟨120, 26, 120, 28⟩)) (p := ⟨120, 24, 120, 28⟩) (pos := ⟨120, 17, 120, 29⟩) (dl := .int (8 : Nat)) (dh := .int (16 : Nat)) (l := some 8) (u := some 16) (ds := intsD ns) Ev.nm Ev.int Ev.int (.some 8) (.some 16) (by rw [List.length_map]; lia)
    dsimp only [Option.getD_some] at this
    rw [← l16] at this
    exact EvF.ev this
  subst e6
  rw [List.length_map] at iv2
  have m2 : m + ((ns.take 16).drop 8).length ≤ 16 := by lia
  generalize m + ((ns.take 16).drop 8).length = m' at iv2 m2
  have S6 : Wst w h₀ (scopeAt 21) F G₀ [("old", .list (rows1.map Row.dt)), ("script", .list (intsD ns))] [] G6 R6 ({ s with heap := h6, toks := tk6 } : Shared).heap env aw af st fa6 W2 := ⟨X6, Y6, x6⟩
  have rd2 := PI.rdy m' W2 m2 iv2
  obtain ⟨ro2, rz2⟩ := PI.rows m' W2 m2 iv2
  have rc2 := rows_cl (prog := prog) (w := w) (k := k + 22) O fnR gN fnN gS fnS W2 NN rd2.ok (by show 17 ≤ k + 22; lia)
  have law1 := law12 m' W1 W2 (by lia) m2 iv1 iv2
  have law2 := PI.law m' m W2 W1 m2 (by lia) iv2 iv1
  rw [hr1] at law1 law2
  generalize hr2 : rowsOf W2 NN = rows2 at *
  refine wpAny_execs_cons (Wst.assign (d := .list (rows2.map Row.dt)) S6 ok (EvF.ev (EvF.call gR fnR.callee (Evs.cons Ev.nm Evs.nil) rc2)) (hnd _ ro2) fun h7 tk7 G7 sb7 S7 => ?_)
  replace S7 : Wst w h₀ (scopeAt 21) F G₀ [("new", .list (rows2.map Row.dt)), ("old", .list (rows1.map Row.dt)), ("script", .list (intsD ns))] [] G7 R6 ({ s with heap := h7, toks := tk7 } : Shared).heap env aw af st fa6 W2 := S7
  have pc1 := rowsChanged_pl ro1 ro2 rz1 rz2
  have pc2 := rowsChanged_pl ro2 ro1 rz2 rz1
  refine wpAny_execs_cons (wpAny_Return_some (Wst.ev S7 ok (d := .bool (decide (Dt.list (rowsChanged rows1 rows2) = .list (lawDue rows1 rows2)) && decide (Dt.list (rowsChanged rows2 rows1) = .list (lawDue rows2 rows1)))) (Ev.and2
    (Ev.cmp (EvF.ev (EvF.call gC fnC.callee (Evs.cons Ev.nm (Evs.cons Ev.nm Evs.nil)) (changed_cl (k := k + 21) U fnC rows1 rows2 ro1 ro2 rz1 rz2))) (EvF.ev (EvF.call gU fnU.callee (Evs.cons Ev.nm (Evs.cons Ev.nm Evs.nil)) (due_cl (k := k + 22) U fnU rows1 rows2 ro1 ro2 rz1 rz2))) (Cmp.eq pc1 (law1 ▸ pc1)))
    (fun _ => Ev.cmp (EvF.ev (EvF.call gC fnC.callee (Evs.cons Ev.nm (Evs.cons Ev.nm Evs.nil)) (changed_cl (k := k + 21) U fnC rows2 rows1 ro2 ro1 rz2 rz1))) (EvF.ev (EvF.call gU fnU.callee (Evs.cons Ev.nm (Evs.cons Ev.nm Evs.nil)) (due_cl (k := k + 22) U fnU rows2 rows1 ro2 ro1 rz2 rz1))) (Cmp.eq pc2 (law2 ▸ pc2)))) rfl fun v h8 tk8 k8 i8 S8 => ?_))
  rw [law1, law2, decide_eq_true rfl, decide_eq_true rfl] at i8
  cases i8
  exact q h8 tk8 S8.fs.inF
end
end Mine
end

section
open PySem PySem.Spec PySem.Calls PyProof.Rows PySem.W
namespace Mine
open scoped Classical

/-! Part QA: what the head says -/
/-- a function of the written part -/
structure FnK (K : Frag) (f : Addr) (xs : List Str) (sc : Scope) (body : List Stmt) : Prop where
  ex : ∃ oc od osl name qual params dV kV doc pm an cdv ct, K.lookup f = some ⟨oc, od, .func (fnOf name qual params body sc dV kV doc pm an cdv ct), osl⟩ ∧ codeIn K cdv qual = true ∧
    ∀ vs : List Value, vs.length = xs.length → bindArgs (fnOf name qual params body sc dV kV doc pm an cdv ct) ⟨vs, []⟩ = pure (xs.zip vs)
  co : sc.isCoroutine = false
  gen : sc.isGenerator = false
  kind : sc.kind = .function
  nodup : xs.Nodup
  kinds : ∀ x ∈ xs, sc.names.lookup x = some .local ∨ sc.names.lookup x = some .cell
  free : ∀ y ∈ sc.names, y.2 ≠ .free

theorem FnK.fn {K : Frag} {h₀ : Heap} {f : Addr} {xs : List Str} {sc : Scope} {body : List Stmt} (x : FnK K f xs sc body) (KX : K.In h₀) (lim : h₀.NoLimit) : Fn h₀ (.ref f) xs sc body := by
  obtain ⟨oc, od, osl, name, qual, params, dV, kV, doc, pm, an, cdv, ct, h1, h2, h3⟩ := x.ex
  exact {
    ex := ⟨f, _, _, rfl, KX _ _ h1, rfl, codeRec_of KX h2, rfl, rfl, rfl, rfl, rfl, h3⟩
    co := x.co, gen := x.gen, kind := x.kind, lim := lim, nodup := x.nodup, kinds := x.kinds, free := x.free }

theorem len1 {α : Type} {vs : List α} (h : vs.length = 1) : ∃ a, vs = [a] := by
  match vs, h with
  | [a], _ => exact ⟨a, rfl⟩
theorem len2 {α : Type} {vs : List α} (h : vs.length = 2) : ∃ a b, vs = [a, b] := by
  match vs, h with
  | [a, b], _ => exact ⟨a, b, rfl⟩
theorem len3 {α : Type} {vs : List α} (h : vs.length = 3) : ∃ a b c, vs = [a, b, c] := by
  match vs, h with
  | [a, b, c], _ => exact ⟨a, b, c, rfl⟩
theorem len4 {α : Type} {vs : List α} (h : vs.length = 4) : ∃ a b c d, vs = [a, b, c, d] := by
  match vs, h with
  | [a, b, c, d], _ => exact ⟨a, b, c, d, rfl⟩

/-- a global name of the written part -/
noncomputable def NmF (K : Frag) (x : Str) (f : Addr) : Prop := nsIn K mainGlobals x = some (some (.ref f))
noncomputable def NmS (K : Frag) (x y : Str) : Prop := ∃ t, nsIn K mainGlobals x = some (some (.str y t))
noncomputable def NmN (K : Frag) (x : Str) : Prop := nsIn K mainGlobals x = some none

structure Facts (K : Frag) : Prop where
  sorted : NmN K "sorted"
  tuple : NmN K "tuple"
  dict : NmN K "dict"
  list : NmN K "list"
  len : NmN K "len"
  min : NmN K "min"
  zip : NmN K "zip"
  came : NmS K "CAME" "+"
  went : NmS K "WENT" "-"
  turned : NmS K "TURNED" "M"
  moved : NmS K "MOVED" "R"
  gC : NmF K "NameTable" 36
  make : makesIn K 36 = true
  keep : keepIn K (.ref 36) = true
  init : findIn K (.ref 36) "__init__" = some (some (.ref 28))
  fnI : typeIn K (.ref 28) = some (.type "function")
  only : findIn K (.ref 36) "only" = some (some (.ref 33))
  fnO : typeIn K (.ref 33) = some (.type "function")
  keepO : keepIn K (.ref 33) = true
  hga : findIn K (.ref 36) "__getattribute__" = some (some (.builtin "object.__getattribute__"))
  hk : findIn K (.ref 36) "__getattr__" = some none
  hsa : findIn K (.ref 36) "__setattr__" = some (some (.builtin "object.__setattr__"))
  plain : plainOver K 36 = true
  hdict : (clsIn K 36).any (·.hasDict) = true
  n1 : findIn K (.ref 36) "names" = some none
  n2 : findIn K (.ref 36) "paths" = some none
  n3 : findIn K (.ref 36) "states" = some none
  kI : FnK K 28 ["self", "rows"] (methScope 0) (methBody 0)
  kO : FnK K 33 ["self", "other"] (methScope 1) (methBody 1)
  g6 : NmF K "name_rows" 45
  k6 : FnK K 45 ["went", "came"] (scopeAt 6) (bodyAt 6)
  g7 : NmF K "turned_rows" 50
  k7 : FnK K 50 ["old", "new"] (scopeAt 7) (bodyAt 7)
  g8 : NmF K "diff_rows" 55
  k8 : FnK K 55 ["old", "new"] (scopeAt 8) (bodyAt 8)
  g9 : NmF K "rows_changed" 60
  k9 : FnK K 60 ["old", "new"] (scopeAt 9) (bodyAt 9)
  g11 : NmF K "_law_pick" 67
  k11 : FnK K 67 ["one", "many"] (scopeAt 11) (bodyAt 11)
  g12 : NmF K "_law_names" 74
  k12 : FnK K 74 ["world", "folder", "path"] (scopeAt 12) (bodyAt 12)
  g13 : NmF K "_law_rows" 81
  k13 : FnK K 81 ["world"] (scopeAt 13) (bodyAt 13)
  g14 : NmF K "_law_state" 86
  k14 : FnK K 86 ["world", "thing"] (scopeAt 14) (bodyAt 14)
  g15 : NmF K "_law_made" 93
  k15 : FnK K 93 ["world", "folder", "name", "is_folder"] (scopeAt 15) (bodyAt 15)
  g16 : NmF K "_law_below" 98
  k16 : FnK K 98 ["world", "folder"] (scopeAt 16) (bodyAt 16)
  g17 : NmF K "_law_taken" 105
  k17 : FnK K 105 ["world", "folder", "name", "thing"] (scopeAt 17) (bodyAt 17)
  g18 : NmF K "_law_deed" 112
  k18 : FnK K 112 ["world", "one"] (scopeAt 18) (bodyAt 18)
  g19 : NmF K "_law_told" 119
  k19 : FnK K 119 ["rows"] (scopeAt 19) (bodyAt 19)
  g20 : NmF K "_law_due" 124
  k20 : FnK K 124 ["old", "new"] (scopeAt 20) (bodyAt 20)
  g21 : NmF K "law" 131
  k21 : FnK K 131 ["script"] (scopeAt 21) (bodyAt 21)

theorem funs_of {prog : Program} {w : World} {h₀ : Heap} {K : Frag} {mg mb : Str → Option Value} (KF : Facts K) (KX : K.In h₀) (Tg : h₀.Ns mainGlobals mg) (Tb : h₀.Ns builtinsNs mb) (lim : h₀.NoLimit) (hb : ∀ x : Str, x ≠ "__name__" → mb x = bootBuiltins x) :
    Funs prog w h₀ K 36 28 33 := by
  have gF : ∀ {x : Str} {f : Addr}, NmF K x f → GVal h₀ x (.ref f) := fun e => ⟨mg, mb, Tg, Tb, .inl (mg_of KX Tg e)⟩
  have gS : ∀ {x y : Str}, NmS K x y → ∃ t, GVal h₀ x (.str y t) := fun ⟨t, e⟩ => ⟨t, mg, mb, Tg, Tb, .inl (mg_of KX Tg e)⟩
  have gN : ∀ {x : Str} {v : Value}, NmN K x → x ≠ "__name__" → bootBuiltins x = some v → GVal h₀ x v := fun e n q => ⟨mg, mb, Tg, Tb, .inr ⟨mg_none_of KX Tg e, (hb _ n).trans q⟩⟩
  exact {
    out := ⟨gN KF.sorted (by decide) (by decide +kernel), gN KF.tuple (by decide) (by decide +kernel), gN KF.dict (by decide) (by decide +kernel), gN KF.list (by decide) (by decide +kernel), gN KF.len (by decide) (by decide +kernel), gN KF.min (by decide) (by decide +kernel), gN KF.zip (by decide) (by decide +kernel), lim⟩
    marks := ⟨gS KF.came, gS KF.went, gS KF.turned, gS KF.moved⟩
    cls := {
      kin := KX, make := KF.make, keep := KF.keep, init := KF.init, fnI := KF.fnI, only := KF.only, fnO := KF.fnO, keepO := KF.keepO, hga := KF.hga, hk := KF.hk, hsa := KF.hsa, plain := KF.plain, dict := KF.hdict
      none := fun x hx => by
        simp only [nF, List.mem_cons, List.not_mem_nil, or_false] at hx
        rcases hx with rfl | rfl | rfl
        · exact KF.n1
        · exact KF.n2
        · exact KF.n3
      onlyF := by decide
      copied := by decide }
    gC := gF KF.gC
    fnI := KF.kI.fn KX lim
    fnO := KF.kO.fn KX lim
    f6 := ⟨_, gF KF.g6, KF.k6.fn KX lim⟩
    f7 := ⟨_, gF KF.g7, KF.k7.fn KX lim⟩
    f8 := ⟨_, gF KF.g8, KF.k8.fn KX lim⟩
    f9 := ⟨_, gF KF.g9, KF.k9.fn KX lim⟩
    f11 := ⟨_, gF KF.g11, KF.k11.fn KX lim⟩
    f12 := ⟨_, gF KF.g12, KF.k12.fn KX lim⟩
    f13 := ⟨_, gF KF.g13, KF.k13.fn KX lim⟩
    f14 := ⟨_, gF KF.g14, KF.k14.fn KX lim⟩
    f15 := ⟨_, gF KF.g15, KF.k15.fn KX lim⟩
    f16 := ⟨_, gF KF.g16, KF.k16.fn KX lim⟩
    f17 := ⟨_, gF KF.g17, KF.k17.fn KX lim⟩
    f18 := ⟨_, gF KF.g18, KF.k18.fn KX lim⟩
    f19 := ⟨_, gF KF.g19, KF.k19.fn KX lim⟩
    f20 := ⟨_, gF KF.g20, KF.k20.fn KX lim⟩ }
end Mine
end

section
open PySem PySem.Spec PySem.Calls PyProof.Rows PySem.W
namespace Mine
open scoped Classical

/-! Part QB: the walk as the head asks for it -/
theorem fnk {K : Frag} {f : Addr} {xs : List Str} {sc : Scope} {body : List Stmt} {oc : Value} {od : Option Addr} {osl : Array (Option Value)} {name qual : Str} {params : Arguments} {dV kV doc pm : Value} {an : Option Addr} {cdv ct : Value}
    (h1 : K.lookup f = some ⟨oc, od, .func (fnOf name qual params body sc dV kV doc pm an cdv ct), osl⟩) (h2 : codeIn K cdv qual = true)
    (h3 : ∀ vs : List Value, vs.length = xs.length → bindArgs (fnOf name qual params body sc dV kV doc pm an cdv ct) ⟨vs, []⟩ = pure (xs.zip vs))
    (co : sc.isCoroutine = false) (gen : sc.isGenerator = false) (kind : sc.kind = .function) (nodup : xs.Nodup) (kinds : ∀ x ∈ xs, sc.names.lookup x = some .local ∨ sc.names.lookup x = some .cell) (free : ∀ y ∈ sc.names, y.2 ≠ .free) : FnK K f xs sc body :=
  ⟨⟨oc, od, osl, name, qual, params, dV, kV, doc, pm, an, cdv, ct, h1, h2, h3⟩, co, gen, kind, nodup, kinds, free⟩

theorem well_ints {w : World} {P : Params} {h : Heap} {G : Gh} : ∀ {vs : List Value} {ns : List Int}, WellAll P h vs (ns.map fun n => WData.int n) → IsAll w G vs (intsD ns)
  | _, [], x => by cases x; exact .nil
  | _, n :: ns, x => by
    cases x with
    | cons a b =>
      cases a
      exact .cons (.int _ _) (well_ints b)

theorem ofPy_ints : ∀ ns : List Int, ofPys (ns.map PyData.int) = ns.map fun n => WData.int n
  | [] => by rw [List.map_nil, ofPys]; rfl
  | n :: ns => by rw [List.map_cons, ofPys, ofPy, ofPy_ints ns]; rfl

theorem my_walk {r : OpenRow} {w : World} {s₁ : Shared} {mg mb : Str → Option Value} {l : Addr} {ns : List Int} {K : Frag} {I : Nat → Wd → Prop} {args : List WData} {cl : Str → Option Addr} {mean : ExcName → Option Value}
    (PI : Plain I) (KF : Facts K) (KX : K.In s₁.heap) (Tg : s₁.heap.Ns mainGlobals mg) (Tb : s₁.heap.Ns builtinsNs mb) (lim : s₁.heap.NoLimit) (hb : ∀ x : Str, x ≠ "__name__" → mb x = bootBuiltins x)
    (W1 : Well w.params s₁.heap (.ref l) (ofPy (PyData.list (ns.map PyData.int)))) (hn : ns.length ≤ 63)
    (q : ∀ h' tk', (∀ b o, s₁.heap.get? b = some o → h'.get? b = some o) → GoodW r.toRowW.claim cl mean args s₁ (.ok (.ret (.bool true))) { s₁ with heap := h', toks := tk' }) :
    wpAny (model r.toRowW.prog w) callerA (PySem.call (.ref 131) [.ref l]) (fun v s' => GoodWG r.toRowW.claim cl mean args s₁ (.ok (.ret v)) s') (fun e s' => GoodWG r.toRowW.claim cl mean args s₁ (.error e) s') s₁ := by
  have U := funs_of (prog := r.toRowW.prog) (w := w) KF KX Tg Tb lim hb
  have iS : Is w (fun a => s₁.heap.get? a) (.ref l) (.list (intsD ns)) := by
    have eW : ofPy (PyData.list (ns.map PyData.int)) = .list (ns.map fun n => WData.int n) := by
      rw [ofPy, ofPy_ints]
    rw [eW] at W1
    cases W1 with
    | list ha hs => exact .list (vs := _) (n := 0) ha (by simpa using well_ints hs)
  have ok : Ok callerA (0 + 24 + 1) := ⟨rfl, by decide, by decide⟩
  refine enter_call (enterC (F := fun a => s₁.heap.get? a) (G := fun a => s₁.heap.get? a) (ρ := [("script", .list (intsD ns))]) (k := 0 + 24) (KF.k21.fn KX lim) ok (fun a o e => e) (fun a o e => e) (Sub.refl _) rfl
    (fun x d e => ?_) fun A' env H tk E' ok' kp X _ _ => law_run U PI ns hn ok' X fun h' tk' hf => GoodW.toG (q h' tk' hf))
  have hx := one_bind e
  subst hx
  rw [List.lookup_cons, beq_self_eq_true] at e
  cases e
  exact ⟨.ref l, rfl, iS⟩
end Mine
end

section
open PySem PySem.Spec PySem.Calls PyProof.Rows PySem.W
namespace Mine
open scoped Classical

/-! Part RA: the plain law, for any rows -/
structure Good (rows : List Row) (st : Int → Dt) : Prop where
  keys : (rows.map Row.key).Nodup
  st : ∀ r ∈ rows, r.state = st r.who

theorem dset_new {m : List (Dt × Dt)} {k v : Dt} (h : k ∉ m.map (·.1)) : dset m k v = m ++ [(k, v)] := by
  unfold dset
  rw [if_neg]
  rw [dhas_iff]; exact h
theorem setAll_id (l : List (Dt × Dt)) : (l.map (·.1)).Nodup → setAll l = l := by
  induction l using snoc_ind with
  | h0 => intro _; rfl
  | h1 l p ih =>
    intro h
    rw [List.map_append, List.nodup_append] at h
    rw [setAll_snoc, ih h.1, dset_new]
    intro hm
    exact h.2.2 _ hm p.1 (by simp) rfl

theorem setAll_get (l : List (Dt × Dt)) (k v : Dt) : (∀ p ∈ l, p.1 = k → p.2 = v) → (∃ p ∈ l, p.1 = k) → dget (setAll l) k = some v := by
  induction l using snoc_ind with
  | h0 => intro _ ⟨p, h, _⟩; cases h
  | h1 l p ih =>
    intro h1 ⟨q, hq, hk⟩
    rw [setAll_snoc, dget_dset]
    by_cases hp : k = p.1
    · rw [if_pos hp, h1 p (by simp) hp.symm]
    · rw [if_neg hp]
      refine ih (fun p' hp' => h1 p' (by simp [hp'])) ?_
      rcases List.mem_append.mp hq with hq | hq
      · exact ⟨q, hq, hk⟩
      · rw [List.mem_singleton] at hq; subst hq; exact absurd hk.symm hp

theorem namesKV_id {rows : List Row} {st : Int → Dt} (g : Good rows st) : namesKV rows = rows.map fun r => (r.key, .str r.path) := by
  unfold namesKV
  apply setAll_id
  rw [List.map_map]
  exact g.keys

theorem dhas_names {rows : List Row} {st : Int → Dt} (g : Good rows st) (k : Dt) : dhas (namesKV rows) k = true ↔ k ∈ rows.map Row.key := by
  rw [dhas_iff, namesKV_id g, List.map_map]; rfl

theorem sel_ent (rows : List Row) (d : Dt) : sel (rows.map Row.ent) d = (rows.filter fun r => decide (idD r.who = d)).map fun r => (Row.ent r).2 := by
  unfold sel
  rw [List.filter_map, List.map_map]
  rfl

theorem key_iff {r : Row} {new : List Row} {d : Dt} (h : idD r.who = d) : fstD (Row.ent r).2 ∈ (sel (new.map Row.ent) d).map fstD ↔ r.key ∈ new.map Row.key := by
  rw [sel_ent, List.map_map]
  constructor
  · intro hm
    obtain ⟨r', hr', e⟩ := List.mem_map.mp hm
    obtain ⟨h1, h2⟩ := List.mem_filter.mp hr'
    refine List.mem_map.mpr ⟨r', h1, ?_⟩
    have e2 : Dt.tup [idD r'.folder, .str (tailOf r'.path)] = Dt.tup [idD r.folder, .str (tailOf r.path)] := e
    simp only [Dt.tup.injEq, List.cons.injEq, and_true] at e2
    have e3 := of_decide_eq_true h2
    unfold Row.key
    rw [e2.1, e2.2, e3, h]
  · intro hm
    obtain ⟨r', hr', e⟩ := List.mem_map.mp hm
    unfold Row.key at e
    simp only [Dt.tup.injEq, List.cons.injEq, and_true] at e
    refine List.mem_map.mpr ⟨r', List.mem_filter.mpr ⟨hr', decide_eq_true (by rw [e.2.2, h])⟩, ?_⟩
    show Dt.tup [idD r'.folder, .str (tailOf r'.path)] = Dt.tup [idD r.folder, .str (tailOf r.path)]
    rw [e.1, e.2.1]

theorem sel_only {old new : List Row} {s1 s2 : Int → Dt} (g1 : Good old s1) (g2 : Good new s2) (d : Dt) :
    sel (only3 (namesKV old) (namesKV new)) d = ((sel (old.map Row.ent) d).filter fun e => !decide (fstD e ∈ (sel (new.map Row.ent) d).map fstD)).map sndD := by
  unfold only3
  rw [namesKV_id g1]
  have hL : sel (((old.map fun r => (r.key, Dt.str r.path)).filter fun p => !dhas (namesKV new) p.1).map fun p => (third p.1, p.2)) d = (old.filter fun r => (!dhas (namesKV new) r.key) && decide (idD r.who = d)).map fun r => Dt.str r.path := by
    unfold sel
    rw [List.filter_map, List.map_map, List.filter_map, List.filter_map, List.map_map, List.filter_filter]
    congr 1
    apply List.filter_congr
    intro r _
    simp only [Function.comp]
    rw [Bool.and_comm]
    rfl
  rw [hL]
  have hR : (sel (old.map Row.ent) d).filter (fun e => !decide (fstD e ∈ (sel (new.map Row.ent) d).map fstD)) = ((old.filter fun r => decide (idD r.who = d)).filter fun r => !decide (fstD (Row.ent r).2 ∈ (sel (new.map Row.ent) d).map fstD)).map fun r => (Row.ent r).2 := by
    rw [sel_ent old, List.filter_map]
    rfl
  rw [hR, List.map_map, List.filter_filter]
  congr 1
  apply List.filter_congr
  intro r _
  by_cases hd : idD r.who = d
  · have := key_iff (new := new) hd
    rw [decide_eq_true hd, Bool.and_true, Bool.and_true]
    congr 1
    have h2 := dhas_names g2 r.key
    by_cases hm : r.key ∈ new.map Row.key
    · rw [h2.mpr hm, decide_eq_true (this.mpr hm)]
    · have e1 : dhas (namesKV new) r.key = false := by
        cases q : dhas (namesKV new) r.key with
        | false => rfl
        | true => exact absurd (h2.mp q) hm
      rw [e1, decide_eq_false (fun q => hm (this.mp q))]
  · rw [decide_eq_false hd, Bool.and_false, Bool.and_false]

noncomputable def gD : Dt → Dt
  | .tup [a, m, b] => if m = .str "R" then .tup [a, m, b] else .tup [a, m]
  | d => d

theorem ne_R {m : Str} (h : (m == ("R" : Str)) = false) : ¬ Dt.str m = .str "R" := fun e => by rw [str_ne h] at e; exact e

theorem due_map (w c : List Dt) : dueRows w c = (nameRows w c).map gD := by
  unfold dueRows nameRows
  rw [List.map_append, List.map_append, List.append_assoc, List.map_map, List.map_map]
  congr 1
  · rw [List.map_zipWith]
    congr 1
    funext a b
    show mkR a b = if Dt.str "R" = .str "R" then _ else _
    rw [if_pos rfl]; rfl
  · congr 1
    · apply List.map_congr_left
      intro p _
      show mk2 "-" p = if Dt.str "-" = .str "R" then _ else _
      rw [if_neg (ne_R (by decide))]; rfl
    · apply List.map_congr_left
      intro p _
      show mk2 "+" p = if Dt.str "+" = .str "R" then _ else _
      rw [if_neg (ne_R (by decide))]; rfl

theorem out_g {a m b : Dt} : rcOut (row3 a m b) = outD (gD (row3 a m b)) := by
  unfold row3 rcOut gD
  dsimp only
  split
  · rfl
  · rfl

/-! lists -/
theorem flatMap_app {α β : Type} (f g : α → List β) : ∀ l : List α, (l.flatMap fun a => f a ++ g a).Perm (l.flatMap f ++ l.flatMap g)
  | [] => .refl _
  | a :: l => by
    simp only [List.flatMap_cons]
    refine ((flatMap_app f g l).append_left _).trans ?_
    rw [List.append_assoc, List.append_assoc]
    refine List.Perm.append_left _ ?_
    rw [← List.append_assoc, ← List.append_assoc]
    exact List.Perm.append_right _ List.perm_append_comm
theorem flatMap_sub {α β : Type} [DecidableEq α] {f : α → List β} {A B : List α} (hA : A.Nodup) (hB : B.Nodup) (hs : ∀ d ∈ A, d ∈ B) (hf : ∀ d ∈ B, d ∉ A → f d = []) : (A.flatMap f).Perm (B.flatMap f) := by
  have hp : B.Perm (A ++ B.filter fun d => !decide (d ∈ A)) := by
    rw [List.perm_ext_iff_of_nodup hB]
    · intro a
      rw [List.mem_append, List.mem_filter]
      constructor
      · intro h
        by_cases ha : a ∈ A
        · exact .inl ha
        · exact .inr ⟨h, by simp [ha]⟩
      · rintro (h | h)
        · exact hs a h
        · exact h.1
    · rw [List.nodup_append]
      refine ⟨hA, List.Nodup.sublist List.filter_sublist hB, fun a ha b hb => ?_⟩
      rintro rfl
      have := (List.mem_filter.mp hb).2
      simp [ha] at this
  have h2 := hp.flatMap_right f
  rw [List.flatMap_append] at h2
  have h3 : (B.filter fun d => !decide (d ∈ A)).flatMap f = [] := by
    rw [List.flatMap_eq_nil_iff]
    intro d hd
    obtain ⟨h4, h5⟩ := List.mem_filter.mp hd
    exact hf d h4 (by simpa using h5)
  rw [h3, List.append_nil] at h2
  exact h2.symm

/-! the states -/
theorem who_inj {t u : Int} (h : idD t = idD u) : t = u := by
  unfold idD at h
  simp only [Dt.tup.injEq, List.cons.injEq, Dt.int.injEq, and_true] at h
  exact h
theorem states_key (rows : List Row) (d : Dt) : d ∈ (statesKV rows).map (·.1) ↔ ∃ r ∈ rows, idD r.who = d := by
  unfold statesKV
  rw [setAll_key, List.map_map]
  constructor
  · intro h; obtain ⟨r, hr, e⟩ := List.mem_map.mp h; exact ⟨r, hr, e⟩
  · rintro ⟨r, hr, e⟩; exact List.mem_map.mpr ⟨r, hr, e⟩
theorem states_get {rows : List Row} {st : Int → Dt} (g : Good rows st) {r : Row} (hr : r ∈ rows) : sval (statesKV rows) (idD r.who) = st r.who := by
  unfold sval statesKV
  rw [setAll_get _ (idD r.who) (st r.who)]
  · rfl
  · intro p hp e
    obtain ⟨r', hr', rfl⟩ := List.mem_map.mp hp
    have := who_inj e
    show r'.state = _
    rw [g.st r' hr', this]
  · exact ⟨_, List.mem_map.mpr ⟨r, hr, rfl⟩, rfl⟩
theorem stOf_get {rows : List Row} {st : Int → Dt} (g : Good rows st) {r : Row} (hr : r ∈ rows) : stOf rows (idD r.who) = [st r.who] := by
  unfold stOf
  have e : ((rows.map Row.dt).filter fun x => decide (whoD x = idD r.who)).map stD3 = (rows.filter fun x => decide (idD x.who = idD r.who)).map Row.state := by
    rw [List.filter_map, List.map_map]; rfl
  rw [e]
  have hm : r ∈ rows.filter fun x => decide (idD x.who = idD r.who) := List.mem_filter.mpr ⟨hr, decide_eq_true rfl⟩
  cases q : rows.filter fun x => decide (idD x.who = idD r.who) with
  | nil => rw [q] at hm; cases hm
  | cons a l =>
    have ha : a ∈ rows.filter fun x => decide (idD x.who = idD r.who) := by rw [q]; exact List.mem_cons_self
    obtain ⟨h1, h2⟩ := List.mem_filter.mp ha
    have e2 := who_inj (of_decide_eq_true h2)
    simp only [List.map_cons, List.take_succ_cons, List.take_zero]
    rw [g.st a h1, e2]
theorem stOf_none {rows : List Row} {d : Dt} (h : ¬ ∃ r ∈ rows, idD r.who = d) : stOf rows d = [] := by
  unfold stOf
  have : ((rows.map Row.dt).filter fun x => decide (whoD x = d)) = [] := by
    rw [List.filter_eq_nil_iff]
    intro x hx
    obtain ⟨r, hr, rfl⟩ := List.mem_map.mp hx
    simp only [decide_eq_true_eq]
    exact fun e => h ⟨r, hr, e⟩
  rw [this]; rfl

theorem paths_sel (rows : List Row) (d : Dt) : listOf (dget (pathsKV rows) d) = (sel (rows.map Row.ent) d).map sndD := by
  unfold pathsKV
  rw [grp_listOf, sel_ent, List.map_map]
  unfold sel
  rw [List.filter_map, List.map_map]
  rfl
end Mine
end

section
open PySem PySem.Spec PySem.Calls PyProof.Rows PySem.W
namespace Mine
open scoped Classical

/-! Part RB: the two lists before they are sorted -/
noncomputable def newL (old new : List Row) : List Dt := turnedRows (statesKV old) (pathsKV new) (statesKV new) ++ nameAll (namesKV old) (namesKV new)

theorem diffOf_eq (old new : List Row) : diffOf old new = isort (newL old new) := rfl

theorem whoN_out {kn kn' : List (Dt × Dt)} {d : Dt} (h : d ∉ whosOf ((onlyKV kn kn').map (·.1) ++ (onlyKV kn' kn).map (·.1))) : sel (only3 kn kn') d = [] ∧ sel (only3 kn' kn) d = [] := by
  rw [whosOf_mem, List.mem_append, not_or, onlyKV_keys, onlyKV_keys, grp_keys, grp_keys] at h
  exact ⟨Classical.not_not.mp h.1, Classical.not_not.mp h.2⟩

theorem names_perm {old new : List Row} {s1 s2 : Int → Dt} (g1 : Good old s1) (g2 : Good new s2) :
    ((nameAll (namesKV old) (namesKV new)).map gD).Perm ((dueWhos old new).flatMap fun d => dueRows (partOf (sel (old.map Row.ent) d) (sel (new.map Row.ent) d)) (partOf (sel (new.map Row.ent) d) (sel (old.map Row.ent) d))) := by
  have e1 : ∀ d, dueRows (partOf (sel (old.map Row.ent) d) (sel (new.map Row.ent) d)) (partOf (sel (new.map Row.ent) d) (sel (old.map Row.ent) d)) = (nameRows (isort (sel (only3 (namesKV old) (namesKV new)) d)) (isort (sel (only3 (namesKV new) (namesKV old)) d))).map gD := fun d => by
    rw [due_map, sel_only g1 g2, sel_only g2 g1]; rfl
  unfold nameAll
  rw [List.map_flatMap]
  simp only [e1]
  refine flatMap_sub (whosOf_nodup _) (whosOf_nodup _) (fun d hd => ?_) (fun d _ hd => ?_)
  · rw [whosOf_mem, List.mem_append, onlyKV_keys, onlyKV_keys, grp_keys, grp_keys] at hd
    unfold dueWhos
    rw [whosOf_mem]
    have key : ∀ {a b : List Row} {s1 s2 : Int → Dt}, Good a s1 → Good b s2 → sel (only3 (namesKV a) (namesKV b)) d ≠ [] → ∃ r ∈ a, idD r.who = d := fun {a b s1 s2} ga gb h => by
      rw [sel_only ga gb] at h
      obtain ⟨x, hx⟩ := List.exists_mem_of_ne_nil _ h
      obtain ⟨y, hy, _⟩ := List.mem_map.mp hx
      have := (List.mem_filter.mp hy).1
      rw [sel_ent] at this
      obtain ⟨r, hr, _⟩ := List.mem_map.mp this
      obtain ⟨h1, h2⟩ := List.mem_filter.mp hr
      exact ⟨r, h1, of_decide_eq_true h2⟩
    rcases hd with h | h
    · obtain ⟨r, hr, e⟩ := key g1 g2 h
      exact List.mem_map.mpr ⟨r, List.mem_append_left _ hr, e⟩
    · obtain ⟨r, hr, e⟩ := key g2 g1 h
      exact List.mem_map.mpr ⟨r, List.mem_append_right _ hr, e⟩
  · obtain ⟨h1, h2⟩ := whoN_out hd
    rw [h1, h2]; rfl

theorem flat_congr {α β : Type} {f g : α → List β} : ∀ {l : List α}, (∀ a ∈ l, f a = g a) → l.flatMap f = l.flatMap g
  | [], _ => rfl
  | a :: l, h => by rw [List.flatMap_cons, List.flatMap_cons, h a (.head _), flat_congr fun b hb => h b (.tail _ hb)]

theorem filter_map_flat {α β : Type} (p q : α → Bool) (f : α → β) : ∀ l : List α, ((l.filter p).filter q).map f = l.flatMap fun d => if p d && q d then [f d] else []
  | [] => rfl
  | a :: l => by
    rw [List.flatMap_cons, ← filter_map_flat p q f l, List.filter_cons]
    cases hp : p a
    · simp
    · simp only [if_true, List.filter_cons]
      cases hq : q a
      · simp
      · simp

theorem turned_perm {old new : List Row} {s1 s2 : Int → Dt} (g1 : Good old s1) (g2 : Good new s2) :
    ((turnedRows (statesKV old) (pathsKV new) (statesKV new)).map gD).Perm ((dueWhos old new).flatMap fun d => turnIf (sel (new.map Row.ent) d) (stOf old d) (stOf new d)) := by
  unfold turnedRows
  rw [List.map_map, filter_map_flat]
  have e1 : ∀ d, d ∈ (statesKV new).map (·.1) → (if (dhas (statesKV old) d && !decide (sval (statesKV old) d = sval (statesKV new) d)) = true then [(gD ∘ fun d => row3 (firstOf (isort (listOf (dget (pathsKV new) d)))) (.str "M") (.str "")) d] else []) = turnIf (sel (new.map Row.ent) d) (stOf old d) (stOf new d) := fun d hd => by
    obtain ⟨r, hr, rfl⟩ := (states_key new d).mp hd
    have eM : (gD ∘ fun d => row3 (firstOf (isort (listOf (dget (pathsKV new) d)))) (.str "M") (.str "")) (idD r.who) = mk2 "M" (firstOf (isort ((sel (new.map Row.ent) (idD r.who)).map sndD))) := by
      show gD (row3 _ _ _) = _
      rw [paths_sel]
      show (if Dt.str "M" = .str "R" then _ else _) = _
      rw [if_neg (ne_R (by decide))]; rfl
    rw [eM, states_get g2 hr, stOf_get g2 hr]
    unfold turnIf
    by_cases ho : ∃ r' ∈ old, idD r'.who = idD r.who
    · obtain ⟨r', hr', e⟩ := ho
      have h1 : dhas (statesKV old) (idD r.who) = true := (dhas_iff _ _).mpr ((states_key old _).mpr ⟨r', hr', e⟩)
      have h2 := states_get g1 hr'
      have h3 := stOf_get g1 hr'
      rw [e] at h2 h3
      rw [h1, h2, h3]
      simp
    · have h1 : dhas (statesKV old) (idD r.who) = false := by
        cases q : dhas (statesKV old) (idD r.who) with
        | false => rfl
        | true => exact absurd ((states_key old _).mp ((dhas_iff _ _).mp q)) ho
      rw [h1, stOf_none ho]
      simp
  have e2 : ((statesKV new).map (·.1)).flatMap (fun d => if (dhas (statesKV old) d && !decide (sval (statesKV old) d = sval (statesKV new) d)) = true then [(gD ∘ fun d => row3 (firstOf (isort (listOf (dget (pathsKV new) d)))) (.str "M") (.str "")) d] else []) = ((statesKV new).map (·.1)).flatMap fun d => turnIf (sel (new.map Row.ent) d) (stOf old d) (stOf new d) :=
    flat_congr e1
  rw [e2]
  refine flatMap_sub (setAll_nodup _) (whosOf_nodup _) (fun d hd => ?_) (fun d _ hd => ?_)
  · obtain ⟨r, hr, e⟩ := (states_key new d).mp hd
    unfold dueWhos
    rw [whosOf_mem]
    exact List.mem_map.mpr ⟨r, List.mem_append_right _ hr, e⟩
  · have hn : ¬ ∃ r ∈ new, idD r.who = d := fun h => hd ((states_key new d).mpr h)
    rw [stOf_none hn]
    unfold turnIf
    simp

theorem all_perm {old new : List Row} {s1 s2 : Int → Dt} (g1 : Good old s1) (g2 : Good new s2) : (dueAll old new).Perm ((newL old new).map gD) := by
  unfold dueAll newL
  rw [List.map_append]
  have h : (dueWhos old new).flatMap (duePart old new) = (dueWhos old new).flatMap fun d => dueRows (partOf (sel (old.map Row.ent) d) (sel (new.map Row.ent) d)) (partOf (sel (new.map Row.ent) d) (sel (old.map Row.ent) d)) ++ turnIf (sel (new.map Row.ent) d) (stOf old d) (stOf new d) := rfl
  rw [h]
  refine (flatMap_app _ _ _).trans ?_
  refine (List.perm_append_comm).trans ?_
  exact ((turned_perm g1 g2).append (names_perm g1 g2)).symm

/-! the order -/
noncomputable def Pd (x : Dt) : Prop := ∃ a m b : Str, x = row3 (.str a) (.str m) (.str b) ∧ (Dt.str m ≠ .str "R" → Dt.str b = .str "")

theorem str_of {d : Dt} (h : isStr d = true) : ∃ s, d = .str s := by cases d <;> simp [isStr] at h; exact ⟨_, rfl⟩

theorem nameRows_pd {a b : List Dt} (ha : ∀ d ∈ a, isStr d = true) (hb : ∀ d ∈ b, isStr d = true) : ∀ d ∈ nameRows a b, Pd d := by
  intro d hd
  unfold nameRows at hd
  rcases List.mem_append.mp hd with hd | hd
  · rcases List.mem_append.mp hd with hd | hd
    · obtain ⟨x, hx, y, hy, rfl⟩ := zw_row hd
      obtain ⟨s, rfl⟩ := str_of (ha x hx)
      obtain ⟨t, rfl⟩ := str_of (hb y hy)
      exact ⟨s, "R", t, rfl, fun h => absurd rfl h⟩
    · obtain ⟨x, hx, rfl⟩ := List.mem_map.mp hd
      obtain ⟨s, rfl⟩ := str_of (ha x (List.mem_of_mem_drop hx))
      exact ⟨s, "-", "", rfl, fun _ => rfl⟩
  · obtain ⟨x, hx, rfl⟩ := List.mem_map.mp hd
    obtain ⟨s, rfl⟩ := str_of (hb x (List.mem_of_mem_drop hx))
    exact ⟨s, "+", "", rfl, fun _ => rfl⟩

theorem newL_pd {old new : List Row} (h1 : ∀ r ∈ old, RowOk r) (h2 : ∀ r ∈ new, RowOk r) (z1 : old.length ≤ 20) (z2 : new.length ≤ 20) : ∀ d ∈ newL old new, Pd d := by
  intro d hd
  unfold newL at hd
  rcases List.mem_append.mp hd with hd | hd
  · have hs := turned_str (ks := statesKV old) (sok_of h2 z2) d hd
    unfold turnedRows at hd
    obtain ⟨x, hx, rfl⟩ := List.mem_map.mp hd
    obtain ⟨a, m, b, e, ha, hm, hb⟩ := hs
    unfold row3 at e
    simp only [Dt.tup.injEq, List.cons.injEq, and_true] at e
    obtain ⟨s, es⟩ := str_of (e.1 ▸ ha)
    rw [es]
    exact ⟨s, "M", "", rfl, fun _ => rfl⟩
  · unfold nameAll at hd
    obtain ⟨x, _, hx⟩ := List.mem_flatMap.mp hd
    exact nameRows_pd (sel_str (nok_of z1) x) (sel_str (nok_of z2) x) d hx

theorem enE_str_inj {a b : Str} (h : enE (.str a) = enE (.str b)) : Dt.str a = Dt.str b := enE_inj rfl rfl h

theorem leD_g {x y : Dt} (hx : Pd x) (hy : Pd y) : leD (gD x) (gD y) = leD x y := by
  obtain ⟨a, m, b, rfl, hb⟩ := hx
  obtain ⟨a', m', b', rfl, hb'⟩ := hy
  unfold leD
  congr 1
  apply decide_eq_decide.mpr
  unfold gD row3
  dsimp only
  by_cases h1 : Dt.str m = .str "R" <;> by_cases h2 : Dt.str m' = .str "R"
  · rw [if_pos h1, if_pos h2]
  · rw [if_pos h1, if_neg h2]
    have hne : enE (.str m') ≠ enE (.str m) := fun e => h2 ((enE_str_inj e).trans h1)
    simp only [enD, List.map_cons, List.map_nil, List.cons_lt_cons_iff, hne, false_and, or_false]
  · rw [if_neg h1, if_pos h2]
    have hne : enE (.str m') ≠ enE (.str m) := fun e => h1 ((enE_str_inj e).symm.trans h2)
    simp only [enD, List.map_cons, List.map_nil, List.cons_lt_cons_iff, hne, false_and, or_false]
  · rw [if_neg h1, if_neg h2, hb h1, hb' h2]
    simp only [enD, List.map_cons, List.map_nil, List.cons_lt_cons_iff, List.lt_irrefl, List.not_lt_nil, and_false, or_false]

theorem ins_g {x : Dt} (hx : Pd x) : ∀ {l : List Dt}, (∀ d ∈ l, Pd d) → ins (gD x) (l.map gD) = (ins x l).map gD
  | [], _ => rfl
  | y :: l, h => by
    rw [List.map_cons]
    unfold ins
    rw [leD_g hx (h y (.head _))]
    split
    · rfl
    · rw [List.map_cons, ins_g hx fun d hd => h d (.tail _ hd)]
theorem isort_g : ∀ {l : List Dt}, (∀ d ∈ l, Pd d) → isort (l.map gD) = (isort l).map gD
  | [], _ => rfl
  | y :: l, h => by
    rw [List.map_cons]
    show ins (gD y) (isort (l.map gD)) = (ins y (isort l)).map gD
    rw [isort_g fun d hd => h d (.tail _ hd), ins_g (h y (.head _)) fun d hd => h d (.tail _ ((isort_perm l).mem_iff.mp hd))]

theorem strs_inj {x y : Dt} (hx : Strs x) (hy : Strs y) (h : enD x = enD y) : x = y := by
  obtain ⟨a, b, r, rfl, hs, _⟩ := hx
  obtain ⟨a', b', r', rfl, hs', _⟩ := hy
  have h' : (a :: b :: r).map enE = (a' :: b' :: r').map enE := h
  rw [map_inj_of (fun u hu v hv e => enE_inj (leaf_of_str (hs u hu)) (leaf_of_str (hs' v hv)) e) h']

theorem law_eq {old new : List Row} {s1 s2 : Int → Dt} (g1 : Good old s1) (g2 : Good new s2) (h1 : ∀ r ∈ old, RowOk r) (h2 : ∀ r ∈ new, RowOk r) (z1 : old.length ≤ 20) (z2 : new.length ≤ 20) : rowsChanged old new = lawDue old new := by
  have hp := newL_pd h1 h2 z1 z2
  have e1 : isort (dueAll old new) = (isort (newL old new)).map gD := by
    rw [← isort_g hp]
    refine sorted_unique (fun a ha b hb e => ?_) ?_ (isort_sorted _) (isort_sorted _)
    · exact strs_inj (dueAll_str old new a ((isort_perm _).mem_iff.mp ha)) (dueAll_str old new b ((isort_perm _).mem_iff.mp hb)) e
    · exact (isort_perm _).trans ((all_perm g1 g2).trans (isort_perm _).symm)
  unfold rowsChanged lawDue
  rw [e1, diffOf_eq, List.map_map]
  apply List.map_congr_left
  intro x hx
  obtain ⟨a, m, b, rfl, _⟩ := hp x ((isort_perm _).mem_iff.mp hx)
  exact out_g

theorem law_self (rows : List Row) : rowsChanged rows rows = [] := by
  have e3 : ∀ kn : List (Dt × Dt), only3 kn kn = [] := fun kn => by
    unfold only3
    rw [List.filter_eq_nil_iff.mpr]
    · rfl
    · intro p hp
      have : dhas kn p.1 = true := (dhas_iff _ _).mpr (List.mem_map.mpr ⟨p, hp, rfl⟩)
      rw [this]; decide
  have eo : ∀ kn : List (Dt × Dt), onlyKV kn kn = [] := fun kn => by
    unfold onlyKV
    rw [e3]; rfl
  have e1 : newL rows rows = [] := by
    unfold newL nameAll turnedRows
    rw [eo]
    have e2 : (((statesKV rows).map (·.1)).filter fun d => dhas (statesKV rows) d).filter (fun d => !decide (sval (statesKV rows) d = sval (statesKV rows) d)) = [] := by
      rw [List.filter_eq_nil_iff]
      intro d _
      simp
    rw [e2]; rfl
  unfold rowsChanged
  rw [diffOf_eq, e1]; rfl
end Mine
end

section
open PySem PySem.Spec PySem.Calls PyProof.Rows PySem.W
namespace Mine
open scoped Classical

/-! Part RC: worlds that the deeds make -/
noncomputable def Ent (W : Wd) (f : Int) (x : Str) (v : Int) : Prop := ∃ l, W.fol.lookup f = some l ∧ l.lookup x = some v
noncomputable abbrev isF (W : Wd) (v : Int) : Prop := (W.fol.lookup v).isSome = true

structure Inv (m : Nat) (W : Wd) : Prop where
  nodF : (W.fol.map (·.1)).Nodup
  nodD : ∀ t l, W.fol.lookup t = some l → (l.map (·.1)).Nodup
  root : isF W 1
  rootS : (W.sts.lookup 1).isSome = true
  names : ∀ f x v, Ent W f x v → nameOk x
  fle : ∀ t, isF W t → 1 ≤ t ∧ t ≤ W.last
  vle : ∀ f x v, Ent W f x v → 1 < v ∧ v ≤ W.last ∧ (W.sts.lookup v).isSome = true
  uniq : ∀ f f' x x' v, Ent W f x v → Ent W f' x' v → isF W v → f = f' ∧ x = x'
  rank : ∃ r : Int → Nat, ∀ f x v, Ent W f x v → isF W v → r f < r v
  lenF : W.fol.length ≤ m + 1
  lenS : W.sts.length ≤ m + 1
  cnt : (W.fol.map fun p => p.2.length).sum ≤ m

inductive Bel (W : Wd) (f : Int) : Int → Prop
  | refl : Bel W f f
  | step {g : Int} {x : Str} {v : Int} : Bel W f g → Ent W g x v → isF W v → Bel W f v

section
variable {W : Wd} {m : Nat}

theorem Bel.trans {a b c : Int} (h1 : Bel W a b) (h2 : Bel W b c) : Bel W a c := by
  induction h2 with
  | refl => exact h1
  | step _ e i ih => exact ih.step e i
theorem Bel.last {a b : Int} (h : Bel W a b) : a = b ∨ ∃ g x, Bel W a g ∧ Ent W g x b ∧ isF W b := by
  cases h with
  | refl => exact .inl rfl
  | step h e i => exact .inr ⟨_, _, h, e, i⟩
theorem Bel.rank {r : Int → Nat} (hr : ∀ f x v, Ent W f x v → isF W v → r f < r v) {a b : Int} (h : Bel W a b) : r a ≤ r b := by
  induction h with
  | refl => exact Nat.le_refl _
  | step _ e i ih => exact Nat.le_trans ih (Nat.le_of_lt (hr _ _ _ e i))
theorem Bel.comp (hu : ∀ f f' x x' v, Ent W f x v → Ent W f' x' v → isF W v → f = f' ∧ x = x') {a b g : Int} (h1 : Bel W a g) (h2 : Bel W b g) : Bel W a b ∨ Bel W b a := by
  induction h1 with
  | refl => exact .inr h2
  | step h1' e i ih =>
    cases h2 with
    | refl => exact .inl (h1'.step e i)
    | step h2' e' i' =>
      obtain ⟨rfl, _⟩ := hu _ _ _ _ _ e e' i
      exact ih h2'

theorem filter_lt {α : Type} {p q : α → Bool} : ∀ {l : List α}, (∀ x ∈ l, p x = true → q x = true) → (∃ x ∈ l, q x = true ∧ p x = false) → (l.filter p).length < (l.filter q).length
  | [], _, ⟨x, hx, _⟩ => by cases hx
  | a :: l, h, hx => by
    have hle : ∀ {l : List α}, (∀ x ∈ l, p x = true → q x = true) → (l.filter p).length ≤ (l.filter q).length := by
      intro l
      induction l with
      | nil => intro _; simp
      | cons b l ih =>
        intro hb
        have := ih fun x hx => hb x (.tail _ hx)
        rw [List.filter_cons, List.filter_cons]
        cases hp : p b
        · simp only [Bool.false_eq_true, if_false]
          split
          · rw [List.length_cons]; lia
          · exact this
        · rw [hb b (.head _) hp]
          simp only [if_true, List.length_cons]; lia
    obtain ⟨x, hm, hq, hp⟩ := hx
    have ht : ∀ x ∈ l, p x = true → q x = true := fun x hx => h x (.tail _ hx)
    rw [List.filter_cons, List.filter_cons]
    rcases List.mem_cons.mp hm with rfl | hm
    · rw [hp, hq]
      have := hle ht
      simp only [Bool.false_eq_true, if_false, if_true, List.length_cons]; lia
    · have := filter_lt ht ⟨x, hm, hq, hp⟩
      cases hpa : p a
      · simp only [Bool.false_eq_true, if_false]
        split
        · rw [List.length_cons]; lia
        · exact this
      · rw [h a (.head _) hpa]
        simp only [if_true, List.length_cons]; lia

theorem Deep_mono : ∀ {n k : Nat} {t : Int}, Deep W n t → n ≤ k → Deep W k t
  | 0, _, _, h, _ => h.elim
  | n + 1, 0, _, _, h => by lia
  | n + 1, k + 1, t, ⟨l, h1, h2, h3, h4⟩, h => ⟨l, h1, h2, h3, fun q hq => ⟨(h4 q hq).1, (h4 q hq).2.1, fun hf => Deep_mono ((h4 q hq).2.2 hf) (by lia)⟩⟩

theorem nameOk.len {x : Str} (h : nameOk x) : x.length = 1 := by obtain ⟨c, rfl, _⟩ := h; rfl
theorem nameOk.ok {x : Str} (h : nameOk x) : PyData.strOk x = true := by obtain ⟨c, rfl, h1, h2⟩ := h; exact strOk_one h1 h2
theorem nameOk.no {x : Str} (h : nameOk x) : 47 ∉ x.cps.toList := by
  obtain ⟨c, rfl, h1, h2⟩ := h
  simp; lia

theorem isF_iff {t : Int} : isF W t ↔ t ∈ W.fol.map (·.1) := by
  constructor
  · intro h
    by_cases hm : t ∈ W.fol.map (·.1)
    · exact hm
    · rw [isF, look_none_iff.mpr hm] at h; cases h
  · intro h
    rw [isF]
    cases q : W.fol.lookup t with
    | some _ => rfl
    | none => exact absurd h (look_none_iff.mp q)

theorem len_le_sum {α : Type} : ∀ {l : List (Int × List α)} {t : Int} {d : List α}, (t, d) ∈ l → d.length ≤ (l.map fun p => p.2.length).sum
  | [], _, _, h => by cases h
  | p :: l, t, d, h => by
    rw [List.map_cons, List.sum_cons]
    rcases List.mem_cons.mp h with rfl | h
    · exact Nat.le_add_right _ _
    · exact Nat.le_trans (len_le_sum h) (Nat.le_add_left _ _)

theorem Inv.dirLen (I : Inv m W) {t : Int} {l : List (Str × Int)} (h : W.fol.lookup t = some l) : l.length ≤ m := Nat.le_trans (len_le_sum (mem_look h)) I.cnt
theorem Inv.ent (I : Inv m W) {t : Int} {l : List (Str × Int)} (h : W.fol.lookup t = some l) {q : Str × Int} (hq : q ∈ l) : Ent W t q.1 q.2 := ⟨l, h, look_nodup (I.nodD t l h) hq⟩

theorem Inv.deep (I : Inv m W) (hm : m ≤ 16) {t : Int} (ht : isF W t) : Deep W NN t := by
  refine nn fun hno_ => ?_
  obtain ⟨r, hr⟩ := I.rank
  refine hno_ ?_
  clear hno_
  have main : ∀ (n : Nat) (t : Int), isF W t → (W.fol.filter fun p => decide (r t < r p.1)).length < n → Deep W n t := by
    intro n
    induction n with
    | zero => intro t _ h; lia
    | succ n ih =>
      intro t ht hn
      obtain ⟨l, hl⟩ := Option.isSome_iff_exists.mp ht
      refine ⟨l, hl, by have := I.dirLen hl; lia, I.nodD t l hl, fun q hq => ?_⟩
      have e := I.ent hl hq
      have ok := I.names _ _ _ e
      refine ⟨ok.ok, by rw [ok.len]; lia, fun hf => ih q.2 hf ?_⟩
      have hlt := hr _ _ _ e hf
      have : (W.fol.filter fun p => decide (r q.2 < r p.1)).length < (W.fol.filter fun p => decide (r t < r p.1)).length := by
        refine filter_lt (fun p _ hp => ?_) ?_
        · have := of_decide_eq_true hp
          exact decide_eq_true (by lia)
        · refine nn fun hno_ => ?_
          obtain ⟨p, hp, e⟩ := List.mem_map.mp (isF_iff.mp hf)
          refine hno_ ?_
          clear hno_
          exact ⟨p, hp, decide_eq_true (by rw [e]; exact hlt), decide_eq_false (by rw [e]; lia)⟩
      lia
  refine Deep_mono (main W.fol.length t ht ?_) (by have := I.lenF; show W.fol.length ≤ 17; lia)
  have : (W.fol.filter fun p => decide (r t < r p.1)).length < (W.fol.filter fun _ => true).length := by
    refine filter_lt (fun _ _ _ => rfl) ?_
    obtain ⟨p, hp, e⟩ := List.mem_map.mp (isF_iff.mp ht)
    exact ⟨p, hp, rfl, decide_eq_false (by rw [e]; lia)⟩
  rwa [filter_all] at this

/-! the rows of a world -/
theorem names_zero {n : Nat} {t : Int} {p : Str} (h : W.fol.lookup t = none) : namesOf W n t p = [] := by
  cases n with
  | zero => rfl
  | succ n => show (sortE ((W.fol.lookup t).getD [])).flatMap _ = []; rw [h]; rfl
theorem names_succ {n : Nat} {t : Int} {p : Str} {l : List (Str × Int)} (h : W.fol.lookup t = some l) : namesOf W (n + 1) t p = (sortE l).flatMap fun q => (⟨p ++ slash ++ q.1, t, q.1, q.2⟩ : NRow) :: (if (W.fol.lookup q.2).isSome then namesOf W n q.2 (p ++ slash ++ q.1) else []) := by
  show (sortE ((W.fol.lookup t).getD [])).flatMap _ = _
  rw [h]; rfl

theorem Inv.row (I : Inv m W) : ∀ (n : Nat) (t : Int) (p : Str) (r : NRow), r ∈ namesOf W n t p →
    Ent W r.folder r.name r.thing ∧ Bel W t r.folder ∧ (∃ a, r.path = a ++ slash ++ r.name) ∧ r.path.length ≤ p.length + 2 * n ∧ (PyData.strOk p = true → PyData.strOk r.path = true)
  | 0, _, _, _, h => by cases h
  | n + 1, t, p, r, h => by
    cases hl : W.fol.lookup t with
    | none => rw [names_zero hl] at h; cases h
    | some l =>
      rw [names_succ hl] at h
      refine nn fun hno_ => ?_
      obtain ⟨q, hq, hr⟩ := List.mem_flatMap.mp h
      refine hno_ ?_
      clear hno_
      have hq' : q ∈ l := (sortE_perm l).mem_iff.mp hq
      have e := I.ent hl hq'
      have ok := I.names _ _ _ e
      have hlen : (p ++ slash ++ q.1).length = p.length + 2 := by rw [len_append, len_append, ok.len]; rfl
      have hok : PyData.strOk p = true → PyData.strOk (p ++ slash ++ q.1) = true := fun h => strOk_append (strOk_append h slash_ok) ok.ok
      rcases List.mem_cons.mp hr with rfl | hr
      · exact ⟨e, .refl, ⟨p, rfl⟩, by show (p ++ slash ++ q.1).length ≤ _; lia, hok⟩
      · split at hr
        · rename_i hf
          refine nn fun hno_ => ?_
          obtain ⟨h1, h2, h3, h4, h5⟩ := I.row n q.2 _ r hr
          refine hno_ ?_
          clear hno_
          exact ⟨h1, (Bel.step .refl e hf).trans h2, h3, by lia, fun h => h5 (hok h)⟩
        · cases hr

theorem Inv.reach (I : Inv m W) : ∀ (n : Nat) (t : Int) (p : Str), Deep W n t → ∀ g, Bel W t g → g = t ∨ ∃ r ∈ namesOf W n t p, r.thing = g ∧ isF W g
  | 0, _, _, h, _, _ => h.elim
  | n + 1, t, p, ⟨l, hl, _, _, hd⟩, g, hb => by
    rw [names_succ hl]
    -- the first step of the way
    have head : ∀ g, Bel W t g → g = t ∨ ∃ q ∈ l, isF W q.2 ∧ Bel W q.2 g := by
      intro g hb
      induction hb with
      | refl => exact .inl rfl
      | step hb' e i ih =>
        rcases ih with rfl | ⟨q, hq, hf, hb2⟩
        · obtain ⟨l', hl', hx⟩ := e
          rw [hl] at hl'; cases hl'
          exact .inr ⟨_, mem_look hx, i, .refl⟩
        · exact .inr ⟨q, hq, hf, hb2.step e i⟩
    rcases head g hb with h | ⟨q, hq, hf, hb2⟩
    · exact .inl h
    · right
      have hq' : q ∈ sortE l := (sortE_perm l).mem_iff.mpr hq
      rcases I.reach n q.2 (p ++ slash ++ q.1) ((hd q hq).2.2 hf) g hb2 with rfl | ⟨r, hr, h1, h2⟩
      · exact ⟨_, List.mem_flatMap.mpr ⟨q, hq', List.mem_cons_self⟩, rfl, hf⟩
      · exact ⟨r, List.mem_flatMap.mpr ⟨q, hq', List.mem_cons_of_mem _ (by rw [if_pos hf]; exact hr)⟩, h1, h2⟩

theorem sortE_nodup {l : List (Str × Int)} (h : (l.map (·.1)).Nodup) : (sortE l).Pairwise fun a b => a.1 ≠ b.1 := by
  have : ((sortE l).map (·.1)).Nodup := ((sortE_perm l).map _).nodup_iff.mpr h
  exact List.pairwise_map.mp this

theorem Inv.apart (I : Inv m W) : ∀ (n : Nat) (t : Int) (p : Str), (namesOf W n t p).Pairwise fun a b => ¬ (a.folder = b.folder ∧ a.name = b.name)
  | 0, _, _ => .nil
  | n + 1, t, p => by
    cases hl : W.fol.lookup t with
    | none => rw [names_zero hl]; exact .nil
    | some l =>
      rw [names_succ hl, List.pairwise_flatMap]
      refine nn fun hno_ => ?_
      obtain ⟨r, hr⟩ := I.rank
      refine hno_ ?_
      clear hno_
      -- nothing below lies in t itself
      have off : ∀ q ∈ l, isF W q.2 → ∀ p' x, x ∈ namesOf W n q.2 p' → x.folder ≠ t := fun q hq hf p' x hx e => by
        have h2 := (I.row n q.2 p' x hx).2.1
        rw [e] at h2
        have := h2.rank hr
        have := hr _ _ _ (I.ent hl hq) hf
        lia
      refine ⟨fun q hq => ?_, ?_⟩
      · have hq' := (sortE_perm l).mem_iff.mp hq
        rw [List.pairwise_cons]
        split
        · rename_i hf
          exact ⟨fun x hx ⟨h1, _⟩ => off q hq' hf _ x hx h1.symm, I.apart n q.2 _⟩
        · exact ⟨fun x hx => (by cases hx), .nil⟩
      · have hs := sortE_nodup (I.nodD t l hl)
        refine (List.Pairwise.and_mem.mp hs).imp fun {a b} ⟨ha, hb, hab⟩ x hx y hy ⟨h1, h2⟩ => ?_
        have ha' := (sortE_perm l).mem_iff.mp ha
        have hb' := (sortE_perm l).mem_iff.mp hb
        have ea := I.ent hl ha'
        have eb := I.ent hl hb'
        rcases List.mem_cons.mp hx with rfl | hx
        · rcases List.mem_cons.mp hy with rfl | hy
          · exact hab h2
          · split at hy
            · rename_i hf; exact off b hb' hf _ y hy h1.symm
            · cases hy
        · split at hx
          · rename_i hfa
            rcases List.mem_cons.mp hy with rfl | hy
            · exact off a ha' hfa _ x hx h1
            · split at hy
              · rename_i hfb
                have ba := (I.row n a.2 _ x hx).2.1
                have bb := (I.row n b.2 _ y hy).2.1
                rw [h1] at ba
                -- two folders of one folder
                have no : ∀ {u v : Str × Int}, u ∈ l → v ∈ l → u.1 ≠ v.1 → isF W u.2 → isF W v.2 → ¬ Bel W u.2 v.2 := fun {u v} hu hv huv fu fv hb => by
                  rcases hb.last with q | ⟨g, x, hb2, e, i⟩
                  · have eu := I.ent hl hu
                    rw [q] at eu
                    exact huv (I.uniq _ _ _ _ _ eu (I.ent hl hv) fv).2
                  · have := (I.uniq _ _ _ _ _ e (I.ent hl hv) i).1
                    subst this
                    have h5 := hb2.rank hr
                    have h6 := hr _ _ _ (I.ent hl hu) fu
                    lia
                rcases Bel.comp I.uniq ba bb with h | h
                · exact no ha' hb' hab hfa hfb h
                · exact no hb' ha' (Ne.symm hab) hfb hfa h
              · cases hy
          · cases hx
end
end Mine
end

section
open PySem PySem.Spec PySem.Calls PyProof.Rows PySem.W
namespace Mine
open scoped Classical

/-! Part RD: what the walk needs of such worlds -/
section
variable {W : Wd} {m : Nat}

theorem ents_len : ∀ l : List (Int × List (Str × Int)), (l.flatMap fun p => p.2.map fun q => (p.1, q.1)).length = (l.map fun p => p.2.length).sum
  | [] => rfl
  | p :: l => by
    rw [List.flatMap_cons, List.length_append, ents_len l, List.map_cons, List.sum_cons, List.length_map]

theorem Inv.few (I : Inv m W) (n : Nat) (t : Int) (p : Str) : (namesOf W n t p).length ≤ m := by
  have hn : ((namesOf W n t p).map fun r => (r.folder, r.name)).Nodup := by
    refine List.pairwise_map.mpr ((I.apart n t p).imp fun {a b} h e => h ?_)
    simp only [Prod.mk.injEq] at e
    exact e
  have hs : ((namesOf W n t p).map fun r => (r.folder, r.name)) ⊆ (W.fol.flatMap fun p => p.2.map fun q => (p.1, q.1)) := by
    intro x hx
    obtain ⟨r, hr, rfl⟩ := List.mem_map.mp hx
    obtain ⟨l, h1, h2⟩ := (I.row n t p r hr).1
    exact List.mem_flatMap.mpr ⟨_, mem_look h1, List.mem_map.mpr ⟨_, mem_look h2, rfl⟩⟩
  have := List.Nodup.length_le_of_subset hn hs
  rw [List.length_map, ents_len] at this
  exact Nat.le_trans this I.cnt

theorem Inv.rdy (I : Inv m W) (hm : m ≤ 16) : Rdy W where
  ok := {
    deep := I.deep hm I.root
    small := fun t l h => ⟨by have := I.dirLen h; lia, I.nodD t l h⟩
    few := fun t => by have := I.few NN t ⟨#[]⟩; lia
    root := I.rootS
    sts := fun r hr => (I.vle _ _ _ (I.row _ _ _ r hr).1).2.2
    n_le := by decide }
  sz := ⟨by have := I.lenF; lia, by have := I.lenS; lia, fun t l h => by have := I.dirLen h; lia⟩
  len := by have := I.lenF; lia
  root := I.root
  deepF := fun t ht => I.deep hm ht
  new := by
    cases q : W.fol.lookup (W.last + 1) with
    | none => rfl
    | some l =>
      have := I.fle (W.last + 1) (by rw [isF, q]; rfl)
      lia
  few := by have := I.few NN 1 ⟨#[]⟩; lia
  mem := fun r hr => by
    obtain ⟨e, _, _, _, hok⟩ := I.row _ _ _ r hr
    refine ⟨e, (I.vle _ _ _ e).2.2, fun q => ?_, hok (by decide +kernel)⟩
    obtain ⟨rk, hrk⟩ := I.rank
    obtain ⟨l, h1, h2⟩ := id e
    have hf : isF W r.thing := by rw [isF, q, h1]; rfl
    have := hrk _ _ _ e hf
    rw [q] at this
    lia

theorem stD_nd (t : Int) : nd (stD W t) = true := by
  unfold stD
  show nds [_, _] = true
  rw [nds_iff]
  intro d hd
  simp only [List.mem_cons, List.not_mem_nil, or_false] at hd
  rcases hd with rfl | rfl
  · rfl
  · show nds _ = true
    rw [nds_iff]
    intro e he
    split at he
    · obtain ⟨q, _, rfl⟩ := List.mem_map.mp he
      rfl
    · cases he
theorem stD_pl (t : Int) : pl 40 (stD W t) = true := by
  unfold stD
  show ([_, _] : List Dt).all (pl 39) = true
  rw [List.all_eq_true]
  intro d hd
  simp only [List.mem_cons, List.not_mem_nil, or_false] at hd
  rcases hd with rfl | rfl
  · rfl
  · show List.all _ (pl 38) = true
    rw [List.all_eq_true]
    intro e he
    split at he
    · obtain ⟨q, _, rfl⟩ := List.mem_map.mp he
      rfl
    · cases he

theorem str_nil_app (a : Str) : a ++ (⟨#[]⟩ : Str) = a := Str.ext' (by show a.cps ++ #[] = a.cps; simp)
theorem nil_app_str (a : Str) : (⟨#[]⟩ : Str) ++ a = a := Str.ext' (by show #[] ++ a.cps = a.cps; simp)
theorem tail_slash : tailOf slash = ⟨#[]⟩ := by
  have := tailOf_eq (a := ⟨#[]⟩) (b := ⟨#[]⟩) (by simp)
  rw [str_nil_app, nil_app_str] at this
  exact this

theorem Inv.rowsOk (I : Inv m W) (hm : m ≤ 16) : (∀ r ∈ rowsOf W NN, RowOk r) ∧ (rowsOf W NN).length ≤ 20 := by
  refine ⟨fun r hr => ?_, ?_⟩
  · unfold rowsOf at hr
    rcases List.mem_cons.mp hr with rfl | hr
    · exact ⟨slash_ok, by show slash.length ≤ 4000; decide, stD_nd _, stD_pl _⟩
    · obtain ⟨x, hx, rfl⟩ := List.mem_map.mp hr
      obtain ⟨_, _, _, h4, h5⟩ := I.row _ _ _ x hx
      have e0 : (⟨#[]⟩ : Str).length = 0 := rfl
      exact ⟨h5 (by decide +kernel), by show x.path.length ≤ 4000; have : x.path.length ≤ 0 + 2 * 17 := h4; lia, stD_nd _, stD_pl _⟩
  · unfold rowsOf
    rw [List.length_cons, List.length_map]
    have := I.few NN 1 ⟨#[]⟩
    lia

theorem Inv.good (I : Inv m W) : Good (rowsOf W NN) (stD W) := by
  refine ⟨?_, fun r hr => ?_⟩
  · unfold rowsOf
    rw [List.map_cons, List.map_map, List.nodup_cons]
    have tl : ∀ r ∈ namesOf W NN 1 ⟨#[]⟩, tailOf r.path = r.name := fun r hr => by
      obtain ⟨e, _, ⟨a, ha⟩, _, _⟩ := I.row _ _ _ r hr
      rw [ha]
      exact tailOf_eq (I.names _ _ _ e).no
    refine ⟨fun hm => ?_, ?_⟩
    · obtain ⟨r, hr, e⟩ := List.mem_map.mp hm
      have e2 : Dt.tup [idD r.folder, .str (tailOf r.path), idD r.thing] = Dt.tup [idD 1, .str (tailOf slash), idD 1] := e
      simp only [Dt.tup.injEq, List.cons.injEq, and_true, Dt.str.injEq] at e2
      have h1 := e2.2.1
      rw [tl r hr, tail_slash] at h1
      have := (I.names _ _ _ (I.row _ _ _ r hr).1).len
      rw [h1] at this
      exact absurd this (by decide)
    · refine List.pairwise_map.mpr ((List.Pairwise.and_mem.mp (I.apart NN 1 ⟨#[]⟩)).imp fun {a b} ⟨ha, hb, h⟩ e => h ?_)
      have e2 : Dt.tup [idD a.folder, .str (tailOf a.path), idD a.thing] = Dt.tup [idD b.folder, .str (tailOf b.path), idD b.thing] := e
      simp only [Dt.tup.injEq, List.cons.injEq, and_true, Dt.str.injEq] at e2
      rw [tl a ha, tl b hb] at e2
      exact ⟨who_inj e2.1, e2.2.1⟩
  · unfold rowsOf at hr
    rcases List.mem_cons.mp hr with rfl | hr
    · rfl
    · obtain ⟨x, _, rfl⟩ := List.mem_map.mp hr
      rfl

theorem inv_zero : Inv 0 W0 where
  nodF := by simp [W0]
  nodD := fun t l h => by
    have hm := mem_look h
    have : (t, l) = (1, []) := by simpa [W0] using hm
    cases this
    exact List.nodup_nil
  root := rfl
  rootS := rfl
  names := fun f x v ⟨l, h1, h2⟩ => by
    have hm := mem_look h1
    have : (f, l) = (1, []) := by simpa [W0] using hm
    cases this
    cases h2
  fle := fun t h => by
    have : t = 1 := by simpa [W0] using isF_iff.mp h
    subst this
    exact ⟨by decide, by decide⟩
  vle := fun f x v ⟨l, h1, h2⟩ => by
    have hm := mem_look h1
    have : (f, l) = (1, []) := by simpa [W0] using hm
    cases this
    cases h2
  uniq := fun f f' x x' v ⟨l, h1, h2⟩ => by
    have hm := mem_look h1
    have : (f, l) = (1, []) := by simpa [W0] using hm
    cases this
    cases h2
  rank := ⟨fun _ => 0, fun f x v ⟨l, h1, h2⟩ => by
    have hm := mem_look h1
    have : (f, l) = (1, []) := by simpa [W0] using hm
    cases this
    cases h2⟩
  lenF := by decide
  lenS := by decide
  cnt := by decide
end
end Mine
end

section
open PySem PySem.Spec PySem.Calls PyProof.Rows PySem.W
namespace Mine
open scoped Classical

/-! Part RE: the deeds keep the invariant -/
noncomputable abbrev sumF (l : List (Int × List (Str × Int))) : Nat := (l.map fun p => p.2.length).sum

theorem aset_len_some {α β : Type} [BEq α] [LawfulBEq α] [DecidableEq α] {l : List (α × β)} {k : α} {v w : β} (h : l.lookup k = some w) : (aset l k v).length = l.length := by
  unfold aset
  rw [h, if_pos (show (some w).isSome = true from rfl), List.length_map]

theorem sum_map_off {l' : List (Str × Int)} {t : Int} : ∀ {l : List (Int × List (Str × Int))}, t ∉ l.map (·.1) → sumF (l.map fun p => if p.1 = t then (p.1, l') else p) = sumF l
  | [], _ => rfl
  | p :: l, h => by
    rw [List.map_cons, List.mem_cons, not_or] at h
    show ((if p.1 = t then (p.1, l') else p).2.length + sumF _) = p.2.length + sumF l
    rw [if_neg (fun e => h.1 e.symm), sum_map_off h.2]
theorem sum_aset : ∀ {l : List (Int × List (Str × Int))} {t : Int} {d l' : List (Str × Int)}, (l.map (·.1)).Nodup → l.lookup t = some d → sumF (aset l t l') + d.length = sumF l + l'.length := by
  intro l t d l' hn h
  unfold aset
  rw [h, if_pos (show (some d).isSome = true from rfl)]
  induction l with
  | nil => cases h
  | cons p l ih =>
    obtain ⟨a, b⟩ := p
    rw [List.map_cons, List.nodup_cons] at hn
    rw [List.lookup_cons] at h
    by_cases ht : t = a
    · subst ht
      rw [beq_self_eq_true] at h
      cases h
      have := sum_map_off (l' := l') hn.1
      show (if t = t then (t, l') else (t, d)).2.length + sumF _ + d.length = d.length + sumF l + l'.length
      rw [if_pos rfl, this]
      show l'.length + sumF l + d.length = d.length + sumF l + l'.length
      lia
    · rw [beq_eq_false_iff_ne.mpr ht] at h
      show (if a = t then (a, l') else (a, b)).2.length + sumF _ + d.length = b.length + sumF l + l'.length
      rw [if_neg (fun e => ht e.symm)]
      show b.length + sumF _ + d.length = b.length + sumF l + l'.length
      lia
theorem sum_new {l : List (Int × List (Str × Int))} {t : Int} (h : l.lookup t = none) : sumF (aset l t []) = sumF l := by
  rw [keys_aset_none h]
  unfold sumF
  simp
theorem sum_adel : ∀ {l : List (Int × List (Str × Int))} {t : Int}, sumF (adel l t) ≤ sumF l
  | [], _ => Nat.le_refl _
  | p :: l, t => by
    have := sum_adel (l := l) (t := t)
    unfold adel at this ⊢
    rw [List.filter_cons]
    show sumF _ ≤ p.2.length + sumF l
    split
    · show p.2.length + sumF _ ≤ _; lia
    · lia

section
variable {W W' : Wd} {m : Nat}

theorem Inv.up (I : Inv m W) {k : Nat} (h : m ≤ k) : Inv k W := { I with lenF := by have := I.lenF; lia, lenS := by have := I.lenS; lia, cnt := Nat.le_trans I.cnt h }

/-- less of it -/
theorem Inv.shrink (I : Inv m W) (nodF : (W'.fol.map (·.1)).Nodup) (nodD : ∀ t l, W'.fol.lookup t = some l → (l.map (·.1)).Nodup) (root : isF W' 1) (hS : W'.sts = W.sts) (hL : W'.last = W.last)
    (hE : ∀ f x v, Ent W' f x v → Ent W f x v) (hF : ∀ v, isF W' v → isF W v) (lenF : W'.fol.length ≤ W.fol.length) (cnt : sumF W'.fol ≤ sumF W.fol) : Inv m W' where
  nodF := nodF
  nodD := nodD
  root := root
  rootS := by rw [hS]; exact I.rootS
  names := fun f x v e => I.names f x v (hE _ _ _ e)
  fle := fun t h => by rw [hL]; exact I.fle t (hF t h)
  vle := fun f x v e => by rw [hL, hS]; exact I.vle f x v (hE _ _ _ e)
  uniq := fun f f' x x' v e e' i => I.uniq f f' x x' v (hE _ _ _ e) (hE _ _ _ e') (hF _ i)
  rank := let ⟨r, hr⟩ := I.rank; ⟨r, fun f x v e i => hr f x v (hE _ _ _ e) (hF _ i)⟩
  lenF := Nat.le_trans lenF I.lenF
  lenS := by rw [hS]; exact I.lenS
  cnt := Nat.le_trans cnt I.cnt

theorem nodD_aset {fol : List (Int × List (Str × Int))} {t : Int} {l' : List (Str × Int)} (h : ∀ t l, fol.lookup t = some l → (l.map (·.1)).Nodup) (hn : (l'.map (·.1)).Nodup) : ∀ u l, (aset fol t l').lookup u = some l → (l.map (·.1)).Nodup := fun u l e => by
  rw [look_aset] at e
  split at e
  · cases e; exact hn
  · exact h u l e

theorem isF_aset {fol : List (Int × List (Str × Int))} {t : Int} {d l' : List (Str × Int)} (ht : fol.lookup t = some d) (v : Int) : ((aset fol t l').lookup v).isSome = (fol.lookup v).isSome := by
  rw [look_aset]
  by_cases h : v = t
  · rw [if_pos h, h, ht]; rfl
  · rw [if_neg h]

theorem Inv.state (I : Inv m W) {v : Int} (s : Int) (h : (W.sts.lookup v).isSome = true) : Inv m { W with sts := aset W.sts v s } := by
  have keep : ∀ u, (W.sts.lookup u).isSome = true → ((aset W.sts v s).lookup u).isSome = true := fun u hu => by
    rw [look_aset]; split
    · rfl
    · exact hu
  obtain ⟨y, hy⟩ := Option.isSome_iff_exists.mp h
  exact {
    nodF := I.nodF, nodD := I.nodD, root := I.root, rootS := keep 1 I.rootS, names := I.names, fle := I.fle
    vle := fun f x u e => let ⟨h1, h2, h3⟩ := I.vle f x u e; ⟨h1, h2, keep u h3⟩
    uniq := I.uniq, rank := I.rank, lenF := I.lenF
    lenS := by show (aset W.sts v s).length ≤ _; rw [aset_len_some hy]; exact I.lenS
    cnt := I.cnt }

theorem Inv.taken (I : Inv m W) {t v : Int} {x : Str} {l : List (Str × Int)} (hl : W.fol.lookup t = some l) (hx : l.lookup x = some v) : Inv m (takenW W t x v) := by
  have hv := I.vle t x v ⟨l, hl, hx⟩
  have hE1 : ∀ f y u d, (aset W.fol t (adel l x)).lookup f = some d → d.lookup y = some u → Ent W f y u := fun f y u d h1 h2 => by
    rw [look_aset] at h1
    split at h1
    · rename_i e
      cases h1
      rw [look_adel] at h2
      split at h2
      · cases h2
      · exact ⟨l, by rw [e]; exact hl, h2⟩
    · exact ⟨d, h1, h2⟩
  have hlen : (aset W.fol t (adel l x)).length = W.fol.length := aset_len_some hl
  have hsum : sumF (aset W.fol t (adel l x)) ≤ sumF W.fol := by
    have h1 := sum_aset (l' := adel l x) I.nodF hl
    have h2 := adel_len l x
    lia
  have hnod := nodD_aset (t := t) (l' := adel l x) I.nodD (nodup_adel (I.nodD t l hl) x)
  unfold takenW
  rw [hl]
  dsimp only
  cases hd : W.fol.lookup v with
  | none =>
    refine I.shrink (nodup_aset I.nodF _ _) hnod ?_ rfl rfl (fun f y u ⟨d, h1, h2⟩ => hE1 f y u d h1 h2) (fun u h => ?_) (Nat.le_of_eq hlen) hsum
    · show ((aset W.fol t (adel l x)).lookup 1).isSome = true
      rw [isF_aset hl]; exact I.root
    · have h' : ((aset W.fol t (adel l x)).lookup u).isSome = true := h
      rw [isF_aset hl] at h'; exact h'
  | some d =>
    dsimp only
    split
    · have hsub : ∀ u d', (adel (aset W.fol t (adel l x)) v).lookup u = some d' → (aset W.fol t (adel l x)).lookup u = some d' := fun u d' h => by
        rw [look_adel] at h
        split at h
        · cases h
        · exact h
      refine I.shrink (nodup_adel (nodup_aset I.nodF _ _) _) (fun u d' h => hnod u d' (hsub u d' h)) ?_ rfl rfl (fun f y u ⟨d', h1, h2⟩ => hE1 f y u d' (hsub f d' h1) h2) (fun u h => ?_) ?_ (Nat.le_trans sum_adel hsum)
      · show ((adel (aset W.fol t (adel l x)) v).lookup 1).isSome = true
        rw [look_adel, if_neg (by lia), isF_aset hl]; exact I.root
      · have h' : ((adel (aset W.fol t (adel l x)) v).lookup u).isSome = true := h
        obtain ⟨d', hd'⟩ := Option.isSome_iff_exists.mp h'
        have := hsub u d' hd'
        have h2 : ((aset W.fol t (adel l x)).lookup u).isSome = true := by rw [this]; rfl
        rw [isF_aset hl] at h2; exact h2
      · have := adel_len (aset W.fol t (adel l x)) v
        show (adel (aset W.fol t (adel l x)) v).length ≤ _
        lia
    · exact I

/-- one more entry, of a thing that is no folder or comes from nowhere else -/
theorem Inv.link (I : Inv m W) {t v t' : Int} {x x' : Str} {l l' : List (Str × Int)} (hl : W.fol.lookup t = some l) (hx : nameOk x) (hn : l.lookup x = none) (hv : W.fol.lookup v = none) (hl' : W.fol.lookup t' = some l') (hx' : l'.lookup x' = some v) :
    Inv (m + 1) { W with fol := aset W.fol t (aset l x v) } := by
  have vl := I.vle t' x' v ⟨l', hl', hx'⟩
  have hE : ∀ f y u, Ent { W with fol := aset W.fol t (aset l x v) } f y u → Ent W f y u ∨ (f = t ∧ y = x ∧ u = v) := fun f y u ⟨d, h1, h2⟩ => by
    have h1' : (aset W.fol t (aset l x v)).lookup f = some d := h1
    rw [look_aset] at h1'
    split at h1'
    · rename_i e
      cases h1'
      rw [look_aset] at h2
      split at h2
      · rename_i ey
        cases h2
        exact .inr ⟨e, ey, rfl⟩
      · exact .inl ⟨l, by rw [e]; exact hl, h2⟩
    · exact .inl ⟨d, h1', h2⟩
  have hF : ∀ u, isF { W with fol := aset W.fol t (aset l x v) } u → isF W u := fun u h => by
    have h' : ((aset W.fol t (aset l x v)).lookup u).isSome = true := h
    rw [isF_aset hl] at h'; exact h'
  have nv : ¬ isF W v := fun h => by rw [isF, hv] at h; cases h
  exact {
    nodF := nodup_aset I.nodF _ _
    nodD := nodD_aset I.nodD (nodup_aset (I.nodD t l hl) _ _)
    root := by show ((aset W.fol t (aset l x v)).lookup 1).isSome = true; rw [isF_aset hl]; exact I.root
    rootS := I.rootS
    names := fun f y u e => by
      rcases hE f y u e with h | ⟨_, rfl, _⟩
      · exact I.names f y u h
      · exact hx
    fle := fun u h => I.fle u (hF u h)
    vle := fun f y u e => by
      rcases hE f y u e with h | ⟨_, _, rfl⟩
      · exact I.vle f y u h
      · exact vl
    uniq := fun f f' y y' u e e' i => by
      have i' := hF u i
      rcases hE f y u e with h | ⟨_, _, rfl⟩
      · rcases hE f' y' u e' with h' | ⟨_, _, rfl⟩
        · exact I.uniq f f' y y' u h h' i'
        · exact absurd i' nv
      · exact absurd i' nv
    rank := by
      refine nn fun hno_ => ?_
      obtain ⟨r, hr⟩ := I.rank
      refine hno_ ?_
      clear hno_
      refine ⟨r, fun f y u e i => ?_⟩
      have i' := hF u i
      rcases hE f y u e with h | ⟨_, _, rfl⟩
      · exact hr f y u h i'
      · exact absurd i' nv
    lenF := by
      rw [aset_len_some hl]; have := I.lenF; lia
    lenS := by have := I.lenS; exact Nat.le_succ_of_le this
    cnt := by
      have h1 := sum_aset (l' := aset l x v) I.nodF hl
      have h2 := aset_len l x v
      have h3 : sumF W.fol ≤ m := I.cnt
      show sumF (aset W.fol t (aset l x v)) ≤ m + 1
      lia }

theorem Inv.made (I : Inv m W) {t : Int} {x : Str} {b : Bool} {l : List (Str × Int)} (hl : W.fol.lookup t = some l) (hx : nameOk x) : Inv (m + 1) (madeW W t x b) := by
  unfold madeW
  rw [hl]
  dsimp only
  split
  · exact I.up (Nat.le_succ m)
  rename_i hfree
  generalize hN : W.last + 1 = n
  have hl1 : 1 ≤ W.last := (I.fle 1 I.root).2
  have new : W.fol.lookup n = none := by
    cases q : W.fol.lookup n with
    | none => rfl
    | some l' => have := I.fle n (by rw [isF, q]; rfl); lia
  have htn : t ≠ n := by lia
  have look : ∀ f, (if b = true then aset (aset W.fol t (aset l x n)) n [] else aset W.fol t (aset l x n)).lookup f = if b = true ∧ f = n then some [] else if f = t then some (aset l x n) else W.fol.lookup f := fun f => by
    cases b with
    | true =>
      simp only [if_true, true_and]
      rw [look_aset, look_aset]
    | false =>
      simp only [Bool.false_eq_true, if_false, false_and]
      rw [look_aset]
  have new1 : (aset W.fol t (aset l x n)).lookup n = none := by rw [look_aset, if_neg (Ne.symm htn)]; exact new
  have len1 : (aset W.fol t (aset l x n)).length = W.fol.length := aset_len_some hl
  have sum1 : sumF (aset W.fol t (aset l x n)) ≤ m + 1 := by
    have h1 := sum_aset (l' := aset l x n) I.nodF hl
    have h2 := aset_len l x n
    have h3 : sumF W.fol ≤ m := I.cnt
    lia
  have nodF' : ((if b = true then aset (aset W.fol t (aset l x n)) n [] else aset W.fol t (aset l x n)).map (·.1)).Nodup := by
    split
    · exact nodup_aset (nodup_aset I.nodF _ _) _ _
    · exact nodup_aset I.nodF _ _
  have lenF' : (if b = true then aset (aset W.fol t (aset l x n)) n [] else aset W.fol t (aset l x n)).length ≤ m + 1 + 1 := by
    have := I.lenF
    split
    · have := aset_len (aset W.fol t (aset l x n)) n []; lia
    · lia
  have sumF' : sumF (if b = true then aset (aset W.fol t (aset l x n)) n [] else aset W.fol t (aset l x n)) ≤ m + 1 := by
    split
    · rw [sum_new new1]; exact sum1
    · exact sum1
  generalize (if b = true then aset (aset W.fol t (aset l x n)) n [] else aset W.fol t (aset l x n)) = fol' at look nodF' lenF' sumF'
  have hE : ∀ f y u, Ent ⟨fol', aset W.sts n 0, n⟩ f y u → Ent W f y u ∨ (f = t ∧ y = x ∧ u = n) := fun f y u ⟨d, h1, h2⟩ => by
    have h1' : fol'.lookup f = some d := h1
    rw [look] at h1'
    split at h1'
    · cases h1'; cases h2
    · split at h1'
      · rename_i e
        cases h1'
        rw [look_aset] at h2
        split at h2
        · rename_i ey
          cases h2
          exact .inr ⟨e, ey, rfl⟩
        · exact .inl ⟨l, by rw [e]; exact hl, h2⟩
      · exact .inl ⟨d, h1', h2⟩
  have hF : ∀ u, isF ⟨fol', aset W.sts n 0, n⟩ u → isF W u ∨ u = n := fun u h => by
    have h' : (fol'.lookup u).isSome = true := h
    rw [look] at h'
    split at h'
    · rename_i e; exact .inr e.2
    · split at h'
      · rename_i e; left; rw [isF, e, hl]; rfl
      · exact .inl h'
  have ne : ∀ {f y u}, Ent W f y u → u ≠ n ∧ f ≠ n := fun {f y u} e => by
    have h1 := I.vle f y u e
    obtain ⟨d, h2, _⟩ := e
    exact ⟨by lia, by lia⟩
  have keepS : ∀ u, (W.sts.lookup u).isSome = true → ((aset W.sts n 0).lookup u).isSome = true := fun u hu => by
    rw [look_aset]; split
    · rfl
    · exact hu
  exact {
    nodF := nodF'
    nodD := fun u d h => by
      have h' : fol'.lookup u = some d := h
      rw [look] at h'
      split at h'
      · cases h'; exact List.nodup_nil
      · split at h'
        · cases h'; exact nodup_aset (I.nodD t l hl) _ _
        · exact I.nodD u d h'
    root := by
      show (fol'.lookup 1).isSome = true
      rw [look]
      split
      · rfl
      · split
        · rfl
        · exact I.root
    rootS := keepS 1 I.rootS
    names := fun f y u e => by
      rcases hE f y u e with h | ⟨_, rfl, _⟩
      · exact I.names f y u h
      · exact hx
    fle := fun u h => by
      rcases hF u h with h | rfl
      · have := I.fle u h; exact ⟨this.1, by show u ≤ n; lia⟩
      · exact ⟨by lia, Int.le_refl _⟩
    vle := fun f y u e => by
      rcases hE f y u e with h | ⟨_, _, rfl⟩
      · obtain ⟨h1, h2, h3⟩ := I.vle f y u h
        exact ⟨h1, by show u ≤ n; lia, keepS u h3⟩
      · refine ⟨by lia, Int.le_refl _, ?_⟩
        rw [look_aset, if_pos rfl]; rfl
    uniq := fun f f' y y' u e e' i => by
      rcases hE f y u e with h | ⟨rfl, rfl, rfl⟩
      · rcases hE f' y' u e' with h' | ⟨_, _, rfl⟩
        · rcases hF u i with i | rfl
          · exact I.uniq f f' y y' u h h' i
          · exact absurd rfl (ne h).1
        · exact absurd rfl (ne h).1
      · rcases hE f' y' u e' with h' | ⟨rfl, rfl, _⟩
        · exact absurd rfl (ne h').1
        · exact ⟨rfl, rfl⟩
    rank := by
      obtain ⟨r, hr⟩ := I.rank
      refine ⟨fun u => if u = n then r t + 1 else r u, fun f y u e i => ?_⟩
      dsimp only
      rcases hE f y u e with h | ⟨rfl, _, rfl⟩
      · rw [if_neg (ne h).1, if_neg (ne h).2]
        rcases hF u i with i | e2
        · exact hr f y u h i
        · exact absurd e2 (ne h).1
      · rw [if_pos rfl, if_neg htn]; exact Nat.lt_succ_self _
    lenF := lenF'
    lenS := by
      have h1 := aset_len W.sts n 0
      have h2 := I.lenS
      show (aset W.sts n 0).length ≤ _
      lia
    cnt := sumF' }

open Classical in
theorem Inv.move (I : Inv m W) (hm : m ≤ 16) {t v t' : Int} {x x' : Str} {l l' : List (Str × Int)} (hl' : W.fol.lookup t' = some l') (hx' : l'.lookup x' = some v) (hl : W.fol.lookup t = some l) (hx : nameOk x) (hn : l.lookup x = none)
    (hb : isF W v → t ∉ belowI W v) : Inv (m + 1) (movedW W t' l' x' t x v) := by
  have vl := I.vle t' x' v ⟨l', hl', hx'⟩
  obtain ⟨l1, h1, hl1, hl1n, hlen1⟩ : ∃ l1, (aset W.fol t' (adel l' x')).lookup t = some l1 ∧ (∀ y u, l1.lookup y = some u → l.lookup y = some u ∧ ¬ (t = t' ∧ y = x')) ∧ (l1.map (·.1)).Nodup ∧ l1.length ≤ l.length := by
    rw [look_aset]
    by_cases e : t = t'
    · subst e
      rw [hl] at hl'; cases hl'
      rw [if_pos rfl]
      refine ⟨_, rfl, fun y u h => ?_, nodup_adel (I.nodD t l hl) _, adel_len _ _⟩
      rw [look_adel] at h
      split at h
      · cases h
      · rename_i ny; exact ⟨h, fun q => ny q.2⟩
    · rw [if_neg e]
      exact ⟨l, hl, fun y u h => ⟨h, fun q => e q.1⟩, I.nodD t l hl, Nat.le_refl _⟩
  have eW : movedW W t' l' x' t x v = { W with fol := aset (aset W.fol t' (adel l' x')) t (aset l1 x v) } := by unfold movedW; rw [h1]; rfl
  rw [eW]
  have hE : ∀ f y u, Ent { W with fol := aset (aset W.fol t' (adel l' x')) t (aset l1 x v) } f y u → (Ent W f y u ∧ ¬ (f = t' ∧ y = x')) ∨ (f = t ∧ y = x ∧ u = v) := fun f y u ⟨d, g1, g2⟩ => by
    have g1' : (aset (aset W.fol t' (adel l' x')) t (aset l1 x v)).lookup f = some d := g1
    rw [look_aset] at g1'
    split at g1'
    · rename_i e
      cases g1'
      rw [look_aset] at g2
      split at g2
      · rename_i ey
        cases g2
        exact .inr ⟨e, ey, rfl⟩
      · obtain ⟨q1, q2⟩ := hl1 y u g2
        exact .inl ⟨⟨l, by rw [e]; exact hl, q1⟩, fun q => q2 ⟨by rw [← e]; exact q.1, q.2⟩⟩
    · rw [look_aset] at g1'
      split at g1'
      · rename_i e
        cases g1'
        rw [look_adel] at g2
        split at g2
        · cases g2
        · rename_i ny
          exact .inl ⟨⟨l', by rw [e]; exact hl', g2⟩, fun q => ny q.2⟩
      · rename_i e
        exact .inl ⟨⟨d, g1', g2⟩, fun q => e q.1⟩
  have hFeq : ∀ u, isF { W with fol := aset (aset W.fol t' (adel l' x')) t (aset l1 x v) } u → isF W u := fun u h => by
    have h' : ((aset (aset W.fol t' (adel l' x')) t (aset l1 x v)).lookup u).isSome = true := h
    rw [isF_aset h1, isF_aset hl'] at h'; exact h'
  have hold : Ent W t' x' v := ⟨l', hl', hx'⟩
  have nbel : isF W v → ¬ Bel W v t := fun hf hbel => by
    apply hb hf
    rcases I.reach NN v ⟨#[]⟩ (I.deep hm hf) t hbel with e | ⟨r, hr, e, i⟩
    · rw [e]; exact List.mem_cons_self
    · refine List.mem_cons_of_mem _ (List.mem_map.mpr ⟨r, List.mem_filter.mpr ⟨hr, ?_⟩, e⟩)
      rw [e]; exact i
  have nod1 := nodup_aset I.nodF t' (adel l' x')
  exact {
    nodF := nodup_aset nod1 _ _
    nodD := nodD_aset (nodD_aset I.nodD (nodup_adel (I.nodD t' l' hl') _)) (nodup_aset hl1n _ _)
    root := by
      show ((aset (aset W.fol t' (adel l' x')) t (aset l1 x v)).lookup 1).isSome = true
      rw [isF_aset h1, isF_aset hl']; exact I.root
    rootS := I.rootS
    names := fun f y u e => by
      rcases hE f y u e with ⟨h, _⟩ | ⟨_, rfl, _⟩
      · exact I.names f y u h
      · exact hx
    fle := fun u h => I.fle u (hFeq u h)
    vle := fun f y u e => by
      rcases hE f y u e with ⟨h, _⟩ | ⟨_, _, rfl⟩
      · exact I.vle f y u h
      · exact vl
    uniq := fun f f' y y' u e e' i => by
      have i' := hFeq u i
      rcases hE f y u e with ⟨h, n1⟩ | ⟨rfl, rfl, rfl⟩
      · rcases hE f' y' u e' with ⟨h', _⟩ | ⟨_, _, rfl⟩
        · exact I.uniq f f' y y' u h h' i'
        · exact absurd (I.uniq _ _ _ _ _ h hold i') n1
      · rcases hE f' y' u e' with ⟨h', n2⟩ | ⟨rfl, rfl, _⟩
        · exact absurd (I.uniq _ _ _ _ _ h' hold i') n2
        · exact ⟨rfl, rfl⟩
    rank := by
      obtain ⟨r, hr⟩ := I.rank
      by_cases hf : isF W v
      · refine ⟨fun u => if Bel W v u then r u + (r t + 1) else r u, fun f y u e i => ?_⟩
        have i' := hFeq u i
        dsimp only
        rcases hE f y u e with ⟨h, n1⟩ | ⟨rfl, _, rfl⟩
        · have hlt := hr f y u h i'
          by_cases bf : Bel W v f
          · rw [if_pos bf, if_pos (bf.step h i')]; lia
          · have bu : ¬ Bel W v u := fun bu => by
              rcases bu.last with rfl | ⟨g, z, b2, e2, _⟩
              · exact n1 (I.uniq _ _ _ _ _ h hold i')
              · have := (I.uniq _ _ _ _ _ h e2 i').1
                rw [← this] at b2
                exact bf b2
            rw [if_neg bf, if_neg bu]; exact hlt
        · rw [if_neg (nbel hf), if_pos .refl]; lia
      · refine ⟨r, fun f y u e i => ?_⟩
        have i' := hFeq u i
        rcases hE f y u e with ⟨h, _⟩ | ⟨_, _, rfl⟩
        · exact hr f y u h i'
        · exact absurd i' hf
    lenF := by
      rw [aset_len_some h1, aset_len_some hl']; have := I.lenF; lia
    lenS := Nat.le_succ_of_le I.lenS
    cnt := by
      have s1 := sum_aset (l' := adel l' x') I.nodF hl'
      have s2 := sum_aset (l' := aset l1 x v) nod1 h1
      have s3 := adel_len l' x'
      have s4 := aset_len l1 x v
      have s5 : sumF W.fol ≤ m := I.cnt
      show sumF (aset (aset W.fol t' (adel l' x')) t (aset l1 x v)) ≤ m + 1
      lia }

theorem Inv.step (I : Inv m W) (hm : m < 16) (d : Deed W W') : Inv (m + 1) W' := by
  cases d with
  | same => exact I.up (Nat.le_succ m)
  | made hl hx => exact I.made hl hx
  | state s h => exact (I.state s h).up (Nat.le_succ m)
  | taken hl hx => exact (I.taken hl hx).up (Nat.le_succ m)
  | link hl hx hn hv hl' hx' => exact I.link hl hx hn hv hl' hx'
  | move hl' hx' hl hx hn hb => exact I.move (by lia) hl' hx' hl hx hn hb

theorem plain_inv : Plain Inv where
  zero := inv_zero
  step := fun m W W' hm I d => I.step hm d
  rdy := fun m W hm I => I.rdy hm
  rows := fun m W hm I => I.rowsOk hm
  law := fun m m' W W' hm hm' I I' => law_eq I.good I'.good (I.rowsOk hm).1 (I'.rowsOk hm').1 (I.rowsOk hm).2 (I'.rowsOk hm').2
  self := fun m W _ _ => law_self _
end
end Mine
end

section
open PySem PySem.Spec PySem.Calls PyProof.Rows PySem.W
namespace Mine
open scoped Classical

/-! Part QC: the head, by one run of the top in the kernel (the strings as they stand: no twin of the program is made) -/
noncomputable def argsAt (i : Nat) : Arguments := match PySem.Challenge.pw_np0171_01.main.body[i]? with
  | some (PySem.Stmt.FunctionDef _ p _ _ _ _ _ _ _ _) => p
  | _ => default
noncomputable def methArgs (j : Nat) : Arguments := match methAt j with
  | some (PySem.Stmt.FunctionDef _ p _ _ _ _ _ _ _ _) => p
  | _ => default
noncomputable def kd (P : Params) (x : Str) (t : Nat) (v : Value) : DictEntry := ⟨PyData.keyHash P x, .str x t, v⟩
noncomputable def fnObj (n q m : Str) (mt c : Nat) (p : Arguments) (b : List Stmt) (sc : Scope) : Obj :=
  { cls := .type "function", data := .func { name := n, qualname := q, params := p, body := .stmts b, scope := sc, globals := 3, closure := [], defaults := .none, kwdefaults := .none, pyModule := .str m mt, code := .ref c } }
noncomputable def fo (i : Nat) (n q m : Str) (mt c : Nat) : Obj := fnObj n q m mt c (argsAt i) (bodyAt i) (scopeAt i)
noncomputable def me (j : Nat) (n q m : Str) (mt c : Nat) : Obj := fnObj n q m mt c (methArgs j) (methBody j) (methScope j)
noncomputable def co (n q : Str) (t : Nat) (line nargs : Int) (a b : Addr) (x y : Value) (c : Addr) (k : Int) : Obj :=
  { cls := .type "code", data := .fields #[.str n t, .str q (t + 1), .str "/claim/cut.py" (t + 2), .int line 0, .int nargs 0, .int 0 0, .int 0 0, .int 3 0, .ref a, .bool true, .int 181 0, .ref b, .none, x, y, .ref c, .int k 0, .int line 0, .str "/claim/cut.py" (k.toNat + 1)] }
noncomputable def headK (P : Params) : Frag := [
  (3, { cls := .type "dict", data := .dict #[kd P "__name__" 165 (.str "law_np0171_01" 262), kd P "__doc__" 166 (.none), kd P "__package__" 167 (.none), kd P "__loader__" 168 (.builtin "__main__.__loader__#opaque"), kd P "__spec__" 169 (.none), kd P "__annotations__" 170 (.ref 6), kd P "__builtins__" 171 (.ref 4), kd P "__file__" 173 (.str "/claim/cut.py" 172), kd P "__cached__" 174 (.none), kd P "CAME" 190 (.str "+" 189), kd P "WENT" 192 (.str "-" 191), kd P "TURNED" 194 (.str "M" 193), kd P "MOVED" 196 (.str "R" 195), kd P "NameTable" 237 (.ref 36), kd P "name_rows" 243 (.ref 45), kd P "turned_rows" 249 (.ref 50), kd P "diff_rows" 255 (.ref 55), kd P "rows_changed" 261 (.ref 60), kd P "_law_pick" 272 (.ref 67), kd P "_law_names" 284 (.ref 74), kd P "_law_rows" 296 (.ref 81), kd P "_law_state" 302 (.ref 86), kd P "_law_made" 312 (.ref 93), kd P "_law_below" 318 (.ref 98), kd P "_law_taken" 328 (.ref 105), kd P "_law_deed" 345 (.ref 112), kd P "_law_told" 357 (.ref 119), kd P "_law_due" 363 (.ref 124), kd P "law" 374 (.ref 131)] 29 }),
  (27, co "__init__" "NameTable.__init__" 209 8 2 22 23 (.ref 24) (.ref 25) 26 218),
  (28, me 0 "__init__" "NameTable.__init__" "treepool.diffs" 187 27),
  (32, co "only" "NameTable.only" 221 17 2 29 30 (.none) (.none) 31 224),
  (33, me 1 "only" "NameTable.only" "treepool.diffs" 187 32),
  (35, { cls := .type "dict", data := .dict #[kd P "__module__" 204 (.str "treepool.diffs" 187), kd P "__firstlineno__" 208 (.int 6 207), kd P "__init__" 220 (.ref 28), kd P "only" 226 (.ref 33), kd P "__static_attributes__" 230 (.ref 34), kd P "__dict__" 232 (.ref 37), kd P "__weakref__" 234 (.ref 38), kd P "__doc__" 235 (.none)] 4 }),
  (36, { cls := .type "type", data := .cls { name := "NameTable", bases := [.type "object"], mro := [.ref 36, .type "object"], ns := 35, qualname := "NameTable" }, slots := #[none, none, some (.str "NameTable" 197), some (.str "NameTable" 205), some (.builtin "object.__new__"), some (.bool true)] }),
  (44, co "name_rows" "name_rows" 238 23 2 41 42 (.none) (.none) 43 241),
  (45, fo 6 "name_rows" "name_rows" "treepool.diffs" 187 44),
  (49, co "turned_rows" "turned_rows" 244 27 2 46 47 (.none) (.none) 48 247),
  (50, fo 7 "turned_rows" "turned_rows" "treepool.diffs" 187 49),
  (54, co "diff_rows" "diff_rows" 250 30 2 51 52 (.none) (.none) 53 253),
  (55, fo 8 "diff_rows" "diff_rows" "treepool.diffs" 187 54),
  (59, co "rows_changed" "rows_changed" 256 35 2 56 57 (.none) (.none) 58 259),
  (60, fo 9 "rows_changed" "rows_changed" "treepool.diffs" 187 59),
  (66, co "_law_pick" "_law_pick" 264 39 2 61 62 (.ref 63) (.ref 64) 65 270),
  (67, fo 11 "_law_pick" "_law_pick" "law_np0171_01" 262 66),
  (73, co "_law_names" "_law_names" 273 43 3 68 69 (.ref 70) (.ref 71) 72 282),
  (74, fo 12 "_law_names" "_law_names" "law_np0171_01" 262 73),
  (80, co "_law_rows" "_law_rows" 285 51 1 75 76 (.ref 77) (.ref 78) 79 294),
  (81, fo 13 "_law_rows" "_law_rows" "law_np0171_01" 262 80),
  (85, co "_law_state" "_law_state" 297 56 2 82 83 (.none) (.none) 84 300),
  (86, fo 14 "_law_state" "_law_state" "law_np0171_01" 262 85),
  (92, co "_law_made" "_law_made" 303 60 4 87 88 (.ref 89) (.ref 90) 91 310),
  (93, fo 15 "_law_made" "_law_made" "law_np0171_01" 262 92),
  (97, co "_law_below" "_law_below" 313 67 2 94 95 (.none) (.none) 96 316),
  (98, fo 16 "_law_below" "_law_below" "law_np0171_01" 262 97),
  (104, co "_law_taken" "_law_taken" 319 69 4 99 100 (.ref 101) (.ref 102) 103 326),
  (105, fo 17 "_law_taken" "_law_taken" "law_np0171_01" 262 104),
  (111, co "_law_deed" "_law_deed" 329 74 2 106 107 (.ref 108) (.ref 109) 110 343),
  (112, fo 18 "_law_deed" "_law_deed" "law_np0171_01" 262 111),
  (118, co "_law_told" "_law_told" 346 93 1 113 114 (.ref 115) (.ref 116) 117 355),
  (119, fo 19 "_law_told" "_law_told" "law_np0171_01" 262 118),
  (123, co "_law_due" "_law_due" 358 98 2 120 121 (.none) (.none) 122 361),
  (124, fo 20 "_law_due" "_law_due" "law_np0171_01" 262 123),
  (130, co "law" "law" 364 112 1 125 126 (.ref 127) (.ref 128) 129 372),
  (131, fo 21 "law" "law" "law_np0171_01" 262 130)]
noncomputable def headA : List Addr := [3, 27, 28, 32, 33, 35, 36, 44, 45, 49, 50, 54, 55, 59, 60, 66, 67, 73, 74, 80, 81, 85, 86, 92, 93, 97, 98, 104, 105, 111, 112, 118, 119, 123, 124, 130, 131]
theorem headA_eq (P : Params) : headA = (headK P).map (·.1) := by kernel_rfl

noncomputable abbrev topP : Program := PySem.Challenge.pw_np0171_01
/-- the top but for the two rows that name the module -/
noncomputable def headV : Program := { topP with main := { topP.main with body := (topP.main.body.take 10).tail ++ topP.main.body.drop 11 } }
noncomputable def headX (s : Shared) : Bool := xlAt headV [] s && recOk [] s
noncomputable def headS (w : World) (os : OsState) : Shared := ⟨boot_heap w.params, ⟨[]⟩, boot_drawn, boot_toks, os⟩
noncomputable def headT (w : World) (s : Shared) : Bool := staticsOk (importedModules topP.main.body) (boot_heap w.params) s.heap && namesBound topP s.heap && gensDone s && laidKept (boot_heap w.params) s.heap

theorem said : OpenLaw.wellSaid PySem.Challenge.rw_np0171_01 = true := by
  refine (congrFun Fast.te9446332074065402090 _).trans ?_
  with_reducible delta Fast.tw9446332074065402090
  with_reducible repeat' refine look_both ?_ ?_
  with_reducible delta Fast.tw17960256430627541270
  with_reducible repeat' refine look_both ?_ ?_
  all_goals as_aux_lemma => kernel_rfl
theorem top_open : opening topP = plainProg topP.main.scope.names := by kernel_rfl
theorem top_fence (s : Shared) : fenceModules? topP s = some s := by kernel_rfl
theorem top_size (w : World) : ((boot_heap w.params).isNs mainGlobals && (#[] : Array GenState).size == 0, (boot_heap w.params).objs.size, (boot_heap w.params).nsMap mainGlobals "__annotations__") = (true, 11, some (.ref 6)) := by kernel_rfl
theorem top_runs (w : World) (os : OsState) : (Fast.tw14082659384304107361 Fast.tw14364793385576792824 topP w 11 (some (.ref 6)) 1648 (headS w os) (topStub topP)).map (fun s =>
    (headT w s, Fast.tw4187177175401517315 headV [] (importedModules topP.main.body) headX true s, headA.map s.heap.get?)) =
    some (true, openGood headV [], (headK w.params).map fun p => some p.2) := by kernel_rfl
theorem left_of {p q : Program} {loose : List Str} {Xt : Shared → Bool} {α : Type} {Yf : Shared → α} {Ya : World → α} {N : Nat} {H₀ : Params → Heap} {gs₀ : Array GenState} {d₀ : Drawn} {k₀ : Nat} {m₀ : Nat} {ann : Option Value}
    (open_ : ∀ w : World, (fencedOpening treeTable p w N).map (fun s => (s.heap, s.gens, s.drawn, s.toks)) = some (H₀ w.params, gs₀, d₀, k₀))
    (size : ∀ w : World, ((H₀ w.params).isNs mainGlobals && gs₀.size == 0, (H₀ w.params).objs.size, (H₀ w.params).nsMap mainGlobals "__annotations__") = (true, m₀, ann))
    (run : ∀ (w : World) (os : OsState), (topRun treeTable p w m₀ ann N ⟨H₀ w.params, gs₀, d₀, k₀, os⟩ (topStub p)).map (fun s =>
      (staticsOk (importedModules p.main.body) (H₀ w.params) s.heap && namesBound p s.heap && gensDone s && laidKept (H₀ w.params) s.heap, openSeen q loose (importedModules p.main.body) Xt true s, Yf s)) =
      some (true, openGood q loose, Ya w)) : LeftO p q loose Xt Yf Ya N := fun w => by
  obtain ⟨⟨h, gs, d, k, os⟩, e, e'⟩ := Option.map_eq_some_iff.mp (open_ w)
  cases e'
  obtain ⟨z1, z⟩ := Prod.mk.inj (size w)
  obtain ⟨z2, z3⟩ := Prod.mk.inj z
  obtain ⟨s, r, l⟩ := Option.map_eq_some_iff.mp (run w os)
  obtain ⟨l1, l2⟩ := Prod.mk.inj l
  have t : topFrom treeTable p w N ⟨H₀ w.params, gs, d, k, os⟩ = some s := by
    unfold topFrom
    dsimp only
    rw [z1, z2, z3, r]
    show (match staticsOk (importedModules p.main.body) (H₀ w.params) s.heap && namesBound p s.heap && gensDone s && laidKept (H₀ w.params) s.heap with | true => _ | false => _) = _
    rw [l1]
  unfold openEnds
  rw [e]
  show (topFrom treeTable p w N _).map _ = _
  rw [t]
  exact congrArg some l2

theorem top_left : LeftO topP headV [] headX (fun s => headA.map s.heap.get?) (fun w => (headK w.params).map fun p => some p.2) 1648 :=
  left_of (boot_open top_open rfl top_fence) top_size fun w os => by
    rw [Fast.te14082659384304107361, Fast.te14364793385576792824, Fast.te4187177175401517315]
    exact top_runs w os
noncomputable def headD : DefRec := ⟨"law", argsAt 21, bodyAt 21, scopeAt 21, match topP.main.body[21]? with
  | some (PySem.Stmt.FunctionDef _ _ _ _ _ _ _ _ _ p) => p
  | _ => default⟩
noncomputable abbrev headH : Hook := kHook headK headA headA_eq
theorem head_def : defOf headV "law" = some (headD, []) := by kernel_rfl
theorem head_the : topP.theDef "law" = some (argsAt 21, bodyAt 21, scopeAt 21) := by kernel_rfl
theorem head_kw : kwWritten? headD.params.kwonlyargs headD.params.kw_defaults = some [] := by kernel_rfl
theorem head_ok : (chainsOk headV && opensWell topP && (frees PySem.Challenge.rw_np0171_01.row.toRowW && List.isEmpty PySem.Challenge.rw_np0171_01.row.within)) = true := by kernel_rfl
theorem head_bare : topP.bare := ⟨rfl, rfl, rfl, rfl, rfl, by decide +kernel⟩
theorem head_wit : PySem.Challenge.rw_np0171_01.row.toRowW.promised := ⟨[.list []], by decide +kernel, by decide +kernel⟩
theorem head (walk : WalkO headV [] (XL headV []) headH.says PySem.Challenge.rw_np0171_01.row.toRowW headD [] fun f vs => PySem.call f vs) : PySem.Challenge.rw_np0171_01.Holds :=
  holds_law said fun said' => PySem.W.holds_open (q := headV) (loose := []) (Xt := headX) (XP := XL headV []) (Yf := headH.obs) (Ya := headH.val) (YP := headH.says) (N := 1648) top_left headH.of headH.keeps
    (fun s e => xl_of s (Bool.and_eq_true_iff.mp e).1) XL.keeps head_def head_the head_kw (fun s e => recFacts_of (Bool.and_eq_true_iff.mp e).2) rfl said' head_ok head_bare head_wit walk
end Mine
end

section
open PySem PySem.Spec PySem.Calls PyProof.Rows PySem.W
namespace Mine
open scoped Classical

/-! Part QD: the facts of the head's objects -/
set_option maxRecDepth 100000
theorem facts (P : Params) : Facts (headK P) := by
  constructor
  all_goals first
    | (with_reducible show NmN _ _; unfold NmN; kernel_rfl)
    | (with_reducible show NmF _ _ _; unfold NmF; kernel_rfl)
    | (with_reducible show NmS _ _ _; unfold NmS; refine ⟨?_, ?_⟩; rotate_left; with_unfolding_all rfl)
    | (with_reducible show FnK _ _ _ _ _
       refine fnk (by with_unfolding_all rfl) (by kernel_rfl) (fun vs hv => ?_) (by rfl) (by rfl) (by rfl) (by decide) (by decide) (by decide)
       first
         | (obtain ⟨a, rfl⟩ := len1 hv; rfl)
         | (obtain ⟨a, b, rfl⟩ := len2 hv; rfl)
         | (obtain ⟨a, b, c, rfl⟩ := len3 hv; rfl)
         | (obtain ⟨a, b, c, d, rfl⟩ := len4 hv; rfl))
    | kernel_rfl
end Mine
end

open PySem PySem.W PyProof.Rows
set_option maxRecDepth 100000 in
set_option maxHeartbeats 8000000 in
theorem PySem.Challenge.cw_np0171_01_holds : PySem.Challenge.rw_np0171_01.Holds := by
  refine Mine.head ?_
  intro w s₀ s₁ mg mb G Y a o pm cd doc dV kV ho hd hcd hD hmg hg args vals as hpre hlay hrd hwl hlo
  have KX := kIn_of Y
  have KF := Mine.facts w.params
  have T := G.T
  cases hmg.symm.trans (mg_of KX (Top.g T) KF.g21)
  clear Y ho hd hcd hD
  wrow_args hpre hlay hrd hwl hlo
  refine Mine.my_walk (r := PySem.Challenge.rw_np0171_01.row) Mine.plain_inv KF KX (Top.g T) (Top.b T) (Top.nolimit T) (Top.builtins T) (by assumption) (by omega) ?_
  intro h' tk' hk
  exact ⟨.inl ⟨.bool true, .bool true, [], rfl, fun _ => by rfl, .bool true, by with_unfolding_all rfl, fun _ => ⟨List.nodup_nil, fun a h => by cases h⟩⟩, hk, rfl, by assumption⟩
