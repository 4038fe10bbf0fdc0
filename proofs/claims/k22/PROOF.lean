import PyProof.Rows.All
import Wide.All
import OpenK.AllK
import Wide.FinOn
import HandS.ForExc
import HandS.ForMost
import HandS.Nested
import HandS.TupAny
import HandS.TupMul
import HandS.RaiseMore
import KE.DataEq
import KE.DataCmp
import KE.DataAny
import KE.DataIsa
import KE.DataMinMax
import KE.DataFind
import KE.SortData
import PyProof.ReprRoads
import HandS.Conv
import HandS.IsInst
import HandS.Style
import HandS.Walk
import HandS.WordsExc
import HandS.Star
import KE.GoesEnum
import HandS.Ends
import HandS.ExcInit
import KE.KExcSuper
import HandS.TryOnly
import HandS.ExcField
import HandS.ExcIs
import KE.KExcIs
import KE.KNest
import HandS.SetBool
import HandS.SetFor
import HandS.Strs
import HandS.Small
import HandS.More
import HandS.DictComp
import PyProof.DictUpdate
import PyProof.ReprBulk
import KE.SortLaws
import PySem.Challenge.RW_toldforgood_k22_sets_part_by_part
set_option Elab.async false
set_option linter.all false
set_option maxRecDepth 100000
set_option maxHeartbeats 2000000
/-! VlA: values of Python as data (PyData), local lists and dicts as values that are owned; the relation of these to the abstract heap of HandS. -/
namespace VL
open PySem PySem.Spec PyProof.Rows L2

abbrev D := PyData
abbrev Fg := PySem.W.Frag
abbrev Mg := Str → Option Value

def kD : Key → D
  | .inl i => .int i
  | .inr x => .str x

/-! ### frozen data -/
/-- a plain tuple: tracked with its object, or an object of the module -/
def TpL (K : Fg) (F : Hp) (a : Addr) (xs : List V) : Prop :=
  (∃ o : Obj, F a = some (.frz o (.tup xs)) ∧ o.dict = none) ∨
    ∃ (o : Obj) (its : Array Value) (n : Nat), K.lookup a = some o ∧ o.cls = .type "tuple" ∧ o.dict = none ∧ o.data = .seq its n ∧ its.size ≤ sizeLine ∧ Vals xs its.toList
/-- a list: tracked, or an object of the module -/
def LsL (K : Fg) (F : Hp) (a : Addr) (xs : List V) : Prop :=
  Rd F a (.lst xs) ∨ ∃ (us : List Value) (n : Nat), K.lookup a = some { cls := .type "list", data := .seq us.toArray n } ∧ us.length ≤ sizeLine ∧ Vals xs us
theorem LsL.sqL {K : Fg} {F : Hp} {a : Addr} {xs : List V} (h : LsL K F a xs) : SqL K F a xs :=
  h.imp id fun ⟨us, n, e, z, r⟩ => ⟨_, us.toArray, n, e, rfl, rfl, rfl, by rw [List.size_toArray]; exact z, by simpa using r⟩
theorem TpL.sqT {K : Fg} {F : Hp} {a : Addr} {xs : List V} (h : TpL K F a xs) : SqT K F a xs := by
  rcases h with ⟨o, h, _⟩ | ⟨o, its, n, h1, h2, _, h4⟩
  · exact .inl (.inr ⟨o, h⟩)
  · exact .inr ⟨o, its, n, h1, h2, h4⟩
mutual
/-- v holds the data d, all of it in the frozen part F (or in the written part K) -/
inductive Dt (K : Fg) (F : Hp) : V → D → Prop
  | non : Dt K F .non .none
  | bl (b : Bool) : Dt K F (.bl b) (.bool b)
  | int (i : Int) : Dt K F (.int i) (.int i)
  | str (x : Str) : Dt K F (.str x) (.str x)
  | lst {a : Addr} {xs : List V} {ds : List D} : LsL K F a xs → DtAll K F xs ds → Dt K F (.ref a) (.list ds)
  | tup {a : Addr} {xs : List V} {ds : List D} : TpL K F a xs → DtAll K F xs ds → Dt K F (.ref a) (.tuple ds)
  | dct {a : Addr} {kvs : List (Key × V)} {es : List (D × D)} : F a = some (.dK kvs) → DtKv K F kvs es → Dt K F (.ref a) (.dict es)
inductive DtAll (K : Fg) (F : Hp) : List V → List D → Prop
  | nil : DtAll K F [] []
  | cons {v : V} {vs : List V} {d : D} {ds : List D} : Dt K F v d → DtAll K F vs ds → DtAll K F (v :: vs) (d :: ds)
inductive DtKv (K : Fg) (F : Hp) : List (Key × V) → List (D × D) → Prop
  | nil : DtKv K F [] []
  | cons {k : Key} {v : V} {kvs : List (Key × V)} {d : D} {es : List (D × D)} : Dt K F v d → DtKv K F kvs es → DtKv K F ((k, v) :: kvs) ((kD k, d) :: es)
end
/-- F within F' -/
def Le (F F' : Hp) : Prop := ∀ a o, F a = some o → F' a = some o
theorem Le.refl (F : Hp) : Le F F := fun _ _ h => h
theorem Le.trans {F F1 F2 : Hp} (a : Le F F1) (b : Le F1 F2) : Le F F2 := fun c o h => b c o (a c o h)
theorem Le.upd {F : Hp} {p : Addr} {o : HO} (h : F p = none) : Le F (upd F p o) := fun a u e => by
  rw [upd_ne (ne_of_none e h)]; exact e
theorem _root_.L2.Rd.le {F F' : Hp} (l : Le F F') {a : Addr} {u : HO} (r : Rd F a u) : Rd F' a u := by
  rcases r with h | ⟨o, h⟩
  · exact .inl (l _ _ h)
  · exact .inr ⟨o, l _ _ h⟩
theorem lsL_le {K : Fg} {F F' : Hp} (l : Le F F') {a : Addr} {xs : List V} (h : LsL K F a xs) : LsL K F' a xs := h.imp (fun z => z.le l) id
theorem sqL_le {K : Fg} {F F' : Hp} (l : Le F F') {a : Addr} {xs : List V} (h : SqL K F a xs) : SqL K F' a xs := h.imp (fun z => z.le l) id
theorem tpL_le {K : Fg} {F F' : Hp} (l : Le F F') {a : Addr} {xs : List V} (h : TpL K F a xs) : TpL K F' a xs := h.imp (fun ⟨o, e, d⟩ => ⟨o, l _ _ e, d⟩) id
theorem sqT_le {K : Fg} {F F' : Hp} (l : Le F F') {a : Addr} {xs : List V} (h : SqT K F a xs) : SqT K F' a xs := h.imp (fun z => z.le l) id
mutual
theorem Dt.le {K : Fg} {F F' : Hp} (l : Le F F') : ∀ {v : V} {d : D}, Dt K F v d → Dt K F' v d
  | _, _, .non => .non
  | _, _, .bl b => .bl b
  | _, _, .int i => .int i
  | _, _, .str x => .str x
  | _, _, .lst h r => .lst (lsL_le l h) (DtAll.le l r)
  | _, _, .tup h r => .tup (tpL_le l h) (DtAll.le l r)
  | _, _, .dct h r => .dct (l _ _ h) (DtKv.le l r)
theorem DtAll.le {K : Fg} {F F' : Hp} (l : Le F F') : ∀ {vs : List V} {ds : List D}, DtAll K F vs ds → DtAll K F' vs ds
  | _, _, .nil => .nil
  | _, _, .cons h r => .cons (Dt.le l h) (DtAll.le l r)
theorem DtKv.le {K : Fg} {F F' : Hp} (l : Le F F') : ∀ {kvs : List (Key × V)} {es : List (D × D)}, DtKv K F kvs es → DtKv K F' kvs es
  | _, _, .nil => .nil
  | _, _, .cons h r => .cons (Dt.le l h) (DtKv.le l r)
end
theorem DtAll.length {K : Fg} {F : Hp} : ∀ {vs : List V} {ds : List D}, DtAll K F vs ds → vs.length = ds.length
  | _, _, .nil => rfl
  | _, _, .cons _ r => by rw [List.length_cons, List.length_cons, DtAll.length r]
theorem DtAll.get {K : Fg} {F : Hp} : ∀ {vs : List V} {ds : List D} {i : Nat} {v : V}, DtAll K F vs ds → vs[i]? = some v → ∃ d, ds[i]? = some d ∧ Dt K F v d
  | _, _, i, v, .nil, h => by simp at h
  | _, _, 0, v, .cons h r, e => by simp at e; subst e; exact ⟨_, rfl, h⟩
  | _, _, i + 1, v, .cons h r, e => by
    obtain ⟨d, e1, e2⟩ := DtAll.get (i := i) r (by simpa using e)
    exact ⟨d, by simpa using e1, e2⟩
theorem DtAll.getD {K : Fg} {F : Hp} {vs : List V} {ds : List D} {i : Nat} {d : D} (r : DtAll K F vs ds) (e : ds[i]? = some d) : ∃ v, vs[i]? = some v ∧ Dt K F v d := by
  have hi : i < vs.length := by
    rw [r.length]
    exact (List.getElem?_eq_some_iff.mp e).1
  obtain ⟨d', e1, e2⟩ := r.get (List.getElem?_eq_getElem hi)
  rw [e] at e1
  cases e1
  exact ⟨_, List.getElem?_eq_getElem hi, e2⟩
theorem DtAll.append {K : Fg} {F : Hp} : ∀ {vs ws : List V} {ds es : List D}, DtAll K F vs ds → DtAll K F ws es → DtAll K F (vs ++ ws) (ds ++ es)
  | _, _, _, _, .nil, s => s
  | _, _, _, _, .cons h r, s => .cons h (DtAll.append r s)
theorem DtAll.take {K : Fg} {F : Hp} : ∀ {vs : List V} {ds : List D} (n : Nat), DtAll K F vs ds → DtAll K F (vs.take n) (ds.take n)
  | _, _, 0, _ => .nil
  | _, _, _ + 1, .nil => .nil
  | _, _, n + 1, .cons h r => .cons h (DtAll.take n r)
theorem DtAll.drop {K : Fg} {F : Hp} : ∀ {vs : List V} {ds : List D} (n : Nat), DtAll K F vs ds → DtAll K F (vs.drop n) (ds.drop n)
  | _, _, 0, r => r
  | _, _, _ + 1, .nil => .nil
  | _, _, n + 1, .cons _ r => DtAll.drop n r
theorem DtAll.set {K : Fg} {F : Hp} {v : V} {d : D} (h : Dt K F v d) : ∀ {vs : List V} {ds : List D} (n : Nat), DtAll K F vs ds → DtAll K F (vs.set n v) (ds.set n d)
  | _, _, _, .nil => .nil
  | _, _, 0, .cons _ r => .cons h r
  | _, _, n + 1, .cons g r => .cons g (DtAll.set h n r)
theorem DtAll.erase {K : Fg} {F : Hp} : ∀ {vs : List V} {ds : List D} (n : Nat), DtAll K F vs ds → DtAll K F (vs.eraseIdx n) (ds.eraseIdx n)
  | _, _, _, .nil => .nil
  | _, _, 0, .cons _ r => r
  | _, _, n + 1, .cons g r => .cons g (DtAll.erase n r)
theorem DtAll.reverse {K : Fg} {F : Hp} {vs : List V} {ds : List D} (h : DtAll K F vs ds) : DtAll K F vs.reverse ds.reverse := by
  induction h using DtAll.rec (motive_1 := fun _ _ _ => True) (motive_3 := fun _ _ _ => True) with
  | nil => exact .nil
  | cons h r _ ih => rw [List.reverse_cons, List.reverse_cons]; exact ih.append (.cons h .nil)
  | _ => trivial
theorem DtAll.ints {K : Fg} {F : Hp} : ∀ (ns : List Int), DtAll K F (ns.map V.int) (ns.map PyData.int)
  | [] => .nil
  | n :: ns => .cons (.int n) (DtAll.ints ns)
theorem DtAll.strs {K : Fg} {F : Hp} : ∀ (ns : List Str), DtAll K F (ns.map V.str) (ns.map PyData.str)
  | [] => .nil
  | n :: ns => .cons (.str n) (DtAll.strs ns)
theorem DtAll.ofInts {K : Fg} {F : Hp} : ∀ {ns : List Int} {vs : List V}, DtAll K F vs (ns.map PyData.int) → vs = ns.map V.int
  | [], _, .nil => rfl
  | n :: ns, _, .cons h r => by cases h; rw [DtAll.ofInts (ns := ns) r]; rfl
theorem DtAll.ofStrs {K : Fg} {F : Hp} : ∀ {ns : List Str} {vs : List V}, DtAll K F vs (ns.map PyData.str) → vs = ns.map V.str
  | [], _, .nil => rfl
  | n :: ns, _, .cons h r => by cases h; rw [DtAll.ofStrs (ns := ns) r]; rfl
theorem DtAll.ofBools {K : Fg} {F : Hp} : ∀ {ns : List Bool} {vs : List V}, DtAll K F vs (ns.map PyData.bool) → vs = ns.map V.bl
  | [], _, .nil => rfl
  | n :: ns, _, .cons h r => by cases h; rw [DtAll.ofBools (ns := ns) r]; rfl

/-! ### from frozen data to the machine's own reading -/
theorem DtKv.map {K : Fg} {F : Hp} : ∀ {kvs : List (Key × V)} {es : List (D × D)}, DtKv K F kvs es → es.map (·.1) = kvs.map (fun p => kD p.1) ∧ DtAll K F (kvs.map (·.2)) (es.map (·.2))
  | _, _, .nil => ⟨rfl, .nil⟩
  | _, _, .cons h r => ⟨by rw [List.map_cons, List.map_cons, (DtKv.map r).1], .cons h (DtKv.map r).2⟩
/-- the keys of a dict's entries -/
theorem reads_keys {P : Program} {w : World} {h : Heap} : ∀ {es : List DictEntry} {vs : List (Key × Value)}, PySem.Pairs (mixKind P w) es vs → ReadsAll h (es.map (·.key)) (vs.map fun p => kD p.1) []
  | _, _, .nil => .nil
  | _, _, .cons (e := e) (kv := kv) h1 _ r => by
    have r' := reads_keys (h := h) r
    have h1' : keyIs kv.1 e.key = true := h1
    have hk : Reads h e.key (kD kv.1) [] := by
      rcases keyIs_shape h1' with ⟨i, t, e1, e2⟩ | ⟨x, t, e1, e2⟩
      · rw [e1, e2]; exact .int i t
      · rw [e1, e2]; exact .str x t
    exact .cons hk r'
theorem pairs_vals {P : Program} {w : World} : ∀ {es : List DictEntry} {vs : List (Key × Value)}, PySem.Pairs (mixKind P w) es vs → es.map (·.val) = vs.map (·.2)
  | _, _, .nil => rfl
  | _, _, .cons h1 h2 r => by rw [List.map_cons, List.map_cons, h2, pairs_vals r]
theorem kv_keys : ∀ {kvs : List (Key × V)} {vs : List (Key × Value)}, KV kvs vs → vs.map (fun p => kD p.1) = kvs.map (fun p => kD p.1) ∧ Vals (kvs.map (·.2)) (vs.map (·.2))
  | _, _, .nil => ⟨rfl, .nil⟩
  | _, _, .cons h r => ⟨by rw [List.map_cons, List.map_cons, (kv_keys r).1, h.1], .cons h.2 (kv_keys r).2⟩
section
variable {X : Cx} {pins : List (Addr × Obj)} {σ : L2.St} {H F : Hp} {s : Shared}
theorem TpL.obj (I : Inv X pins σ H s) (l : Le F H) {a : Addr} {xs : List V} (h : TpL X.K F a xs) : ∃ o, s.heap.get? a = some o ∧ o.cls = .type "tuple" ∧ o.dict = none := by
  rcases h with ⟨o, h, d⟩ | ⟨o, its, n, h1, h2, h3, _⟩
  · obtain ⟨e, _, its, _, o', e', c, _⟩ := I.hok _ _ (l _ _ h)
    rw [e] at e'
    cases e'
    exact ⟨o, e, c, d⟩
  · exact ⟨o, I.kIn a o h1, h2, h3⟩
/-- the object of a new tuple -/
abbrev tupO (us : List Value) : Obj := { cls := .type "tuple", data := .seq us.toArray }
abbrev tupH (us : List Value) (xs : List V) : HO := .frz (tupO us) (.tup xs)
/-- a new tuple is laid -/
theorem Inv.laidT (I : Inv X pins σ H s) {h' : Heap} {a : Addr} {t' : Nat} {xs : List V} {us : List Value} (k : ∀ b u, s.heap.get? b = some u → h'.get? b = some u) (hp : s.heap.objs.size ≤ a) (r : Vals xs us) (z : xs.length ≤ sizeLine)
    (e : h'.get? a = some (tupO us)) : Inv X pins σ (upd H a (tupH us xs)) { s with heap := h', toks := t' } :=
  I.laid (t' := t') k hp ⟨e, z, us, r, _, e, rfl, _, rfl⟩
mutual
theorem Dt.reads (I : Inv X pins σ H s) (l : Le F H) : ∀ {v : V} {d : D} {u : Value}, Dt X.K F v d → RelV v u → ∃ as, Reads s.heap u d as
  | _, _, _, .non, r => by cases r; exact ⟨_, Reads.none⟩
  | _, _, _, .bl b, r => by cases r; exact ⟨_, Reads.bool b⟩
  | _, _, _, .int i, r => by obtain ⟨t, rfl⟩ := r; exact ⟨_, Reads.int i t⟩
  | _, _, _, .str x, r => by obtain ⟨t, rfl⟩ := r; exact ⟨_, Reads.str x t⟩
  | _, _, _, .lst hs ha, r => by
    cases r
    obtain ⟨its, rv, ⟨o, n, ho, hc, _, hd⟩, _⟩ := I.list (lsL_le l hs).sqL
    obtain ⟨as, hr⟩ := DtAll.reads I l ha rv
    exact ⟨_, Reads.list ho hc hd hr⟩
  | _, _, _, .tup hs ha, r => by
    cases r
    obtain ⟨its, rv, ⟨o, ho, hc, n, hd⟩, _⟩ := I.tuple (sqT_le l hs.sqT)
    obtain ⟨as, hr⟩ := DtAll.reads I l ha rv
    exact ⟨_, Reads.tuple ho hc hd hr⟩
  | _, _, _, .dct h ha, r => by
    cases r
    obtain ⟨_, _, vs, kv, o, es, ep, ho, ex, hd, _, pr, _⟩ := I.hok _ _ (l _ _ h)
    obtain ⟨e1, e2⟩ := DtKv.map ha
    obtain ⟨k1, k2⟩ := kv_keys kv
    obtain ⟨bs, hr⟩ := DtKv.readsV I l ha k2
    refine ⟨_, Reads.dict ho ex.1 hd (as := []) (bs := bs) ?_ ?_⟩
    · rw [e1, ← k1]
      exact reads_keys pr
    · rw [pairs_vals pr]
      exact hr
theorem DtAll.reads (I : Inv X pins σ H s) (l : Le F H) : ∀ {vs : List V} {ds : List D} {us : List Value}, DtAll X.K F vs ds → Vals vs us → ∃ as, ReadsAll s.heap us ds as
  | _, _, _, .nil, .nil => ⟨_, ReadsAll.nil⟩
  | _, _, _, .cons h r, .cons q qs => by
    obtain ⟨as, e1⟩ := Dt.reads I l h q
    obtain ⟨bs, e2⟩ := DtAll.reads I l r qs
    exact ⟨_, ReadsAll.cons e1 e2⟩
theorem DtKv.readsV (I : Inv X pins σ H s) (l : Le F H) : ∀ {kvs : List (Key × V)} {es : List (D × D)} {us : List Value}, DtKv X.K F kvs es → Vals (kvs.map (·.2)) us → ∃ as, ReadsAll s.heap us (es.map (·.2)) as
  | _, _, _, .nil, .nil => ⟨_, ReadsAll.nil⟩
  | _, _, _, .cons h r, .cons q qs => by
    obtain ⟨as, e1⟩ := Dt.reads I l h q
    obtain ⟨bs, e2⟩ := DtKv.readsV I l r qs
    exact ⟨_, ReadsAll.cons e1 e2⟩
end
end
end VL

/-! VlB: the slots of a def by value: frozen data, or a list or dict of its own; what the heap must be for them. -/
namespace VL
open PySem PySem.Spec PyProof.Rows L2

/-- an exception of an own class by value: its class's name, its fields -/
structure Ex where
  cls : Str
  fs : List (Str × D)

/-- what a slot holds: frozen data; an own list, an own dict (nobody else holds it); a def of the module by its name -/
inductive M where
  | fz (d : D)
  | lst (ds : List D)
  | dct (es : List (D × D))
  | gl (x : Str)
  | adr (a : Addr)
def isOwn : M → Bool
  | .lst _ => true
  | .dct _ => true
  | _ => false
def toD : M → Option D
  | .fz d => some d
  | .lst ds => some (.list ds)
  | .dct es => some (.dict es)
  | .gl _ => none
  | .adr _ => none
/-- an expression's result: a value, or the own thing that stands in a slot -/
inductive R where
  | val (m : M)
  | slot (i : Nat)
abbrev Slots := List (Option M)
/-- the slots; which of them are borrowed from the caller (never stored to) -/
structure Env where
  sl : Slots
  bor : List Nat
/-- the data that a result shows now -/
def pk (env : Env) : R → Option D
  | .val m => toD m
  | .slot i => match env.sl[i]? with
    | some (some m) => toD m
    | _ => none

/-- what an own thing may be -/
def OwnHO : HO → Prop
  | .lst _ => True
  | .dK _ => True
  | .dT _ => True
  | .set _ _ => True
  | .ins _ _ _ => True
  | _ => False
theorem OwnHO.mut {u : HO} (h : OwnHO u) : Mut (some u) := by
  cases u <;> first | exact True.intro | exact h.elim
/-- no table of code objects -/
def NTb (o : HO) : Prop := ∀ ps, o ≠ .tbl ps
theorem OwnHO.ntb {u : HO} (h : OwnHO u) : NTb u := fun ps z => by rw [z] at h; exact h
theorem OwnHO.nco {u : HO} (h : OwnHO u) {c : Addr} {q : Str} : u ≠ LamX.CodeO c q := fun z => by
  unfold LamX.CodeO at z
  rw [z] at h
  exact h
abbrev NTb' := NdefX.NTab
theorem tabs_upd {T : List NdefX.NTab} {H : Hp} (t : NdefX.TabsN T H) {a : Addr} {o u : HO} (ha : H a = some o) (ho : OwnHO o) : NdefX.TabsN T (upd H a u) := fun p hp => by
  obtain ⟨ps, h1, h2, h3⟩ := t p hp
  refine ⟨ps, ?_, h2, fun pos cv hc => ?_⟩
  · rw [upd_ne fun z => ?_]
    · exact h1
    · rw [z, ha] at h1
      exact ho.ntb ps (Option.some.inj h1)
  · obtain ⟨c, e1, e2⟩ := h3 pos cv hc
    refine ⟨c, e1, ?_⟩
    rw [upd_ne fun z => ?_]
    · exact e2
    · rw [z, ha] at e2
      exact ho.nco (Option.some.inj e2)
theorem tabs_new {T : List NdefX.NTab} {H : Hp} (t : NdefX.TabsN T H) {a : Addr} {u : HO} (ha : H a = none) : NdefX.TabsN T (upd H a u) := t.ext fun b o e => by rw [upd_ne (ne_of_none e ha)]; exact e
inductive DtKt (K : Fg) (F : Hp) : List (List Key × V) → List (D × D) → Prop
  | nil : DtKt K F [] []
  | cons {k : List Key} {v : V} {kvs : List (List Key × V)} {d : D} {es : List (D × D)} : Dt K F v d → DtKt K F kvs es → DtKt K F ((k, v) :: kvs) ((.tuple (k.map kD), d) :: es)
theorem DtKt.le {K : Fg} {F F' : Hp} (l : Le F F') : ∀ {kvs : List (List Key × V)} {es : List (D × D)}, DtKt K F kvs es → DtKt K F' kvs es
  | _, _, .nil => .nil
  | _, _, .cons h r => .cons (h.le l) (DtKt.le l r)
def DctAt (K : Fg) (F H : Hp) (a : Addr) (es : List (D × D)) : Prop :=
  (∃ kvs, H a = some (.dK kvs) ∧ DtKv K F kvs es) ∨ ∃ kvs, H a = some (.dT kvs) ∧ DtKt K F kvs es ∧ es ≠ []
theorem DctAt.le {K : Fg} {F F' H H' : Hp} {a : Addr} {es : List (D × D)} (h : DctAt K F H a es) (l : Le F F') (e : H' a = H a) : DctAt K F' H' a es := by
  rcases h with ⟨kvs, h1, h2⟩ | ⟨kvs, h1, h2, h3⟩
  · exact .inl ⟨kvs, by rw [e]; exact h1, h2.le l⟩
  · exact .inr ⟨kvs, by rw [e]; exact h1, h2.le l, h3⟩
theorem DctAt.some {K : Fg} {F H : Hp} {a : Addr} {es : List (D × D)} (h : DctAt K F H a es) : ∃ o, H a = some o ∧ OwnHO o := by
  rcases h with ⟨kvs, h1, _⟩ | ⟨kvs, h1, _, _⟩
  · exact ⟨_, h1, trivial⟩
  · exact ⟨_, h1, trivial⟩

/-- v is what the value m says -/
def RM (K : Fg) (mg : Mg) (F H : Hp) (m : M) (v : V) : Prop :=
  match m with
  | .fz d => Dt K F v d
  | .lst ds => ∃ a vs, v = .ref a ∧ H a = some (.lst vs) ∧ F a = none ∧ DtAll K F vs ds
  | .dct es => ∃ a, v = .ref a ∧ F a = none ∧ DctAt K F H a es
  | .gl x => ∃ f, v = .ref f ∧ mg x = some (.ref f)
  | .adr a => v = .ref a
theorem RM.own {K : Fg} {mg : Mg} {F H : Hp} {m : M} {v : V} (h : RM K mg F H m v) (o : isOwn m = true) : ∃ a u, v = .ref a ∧ F a = none ∧ H a = some u ∧ OwnHO u := by
  cases m with
  | fz d => cases o
  | gl x => cases o
  | adr x => cases o
  | lst ds => obtain ⟨a, vs, e, e1, e2, _⟩ := h; exact ⟨a, _, e, e2, e1, trivial⟩
  | dct es => obtain ⟨a, e, e2, d⟩ := h; obtain ⟨u, e1, mu⟩ := d.some; exact ⟨a, u, e, e2, e1, mu⟩
theorem RM.le {K : Fg} {mg : Mg} {F F' H H' : Hp} {m : M} {v : V} (h : RM K mg F H m v) (l : Le F F') (k : isOwn m = true → ∀ a, v = .ref a → H' a = H a ∧ F' a = none) : RM K mg F' H' m v := by
  cases m with
  | fz d => exact Dt.le l h
  | gl x => exact h
  | adr x => exact h
  | lst ds =>
    obtain ⟨a, vs, e, e1, e2, r⟩ := h
    obtain ⟨k1, k2⟩ := k rfl a e
    exact ⟨a, vs, e, by rw [k1]; exact e1, k2, r.le l⟩
  | dct es =>
    obtain ⟨a, e, e2, d⟩ := h
    obtain ⟨k1, k2⟩ := k rfl a e
    exact ⟨a, e, k2, d.le l k1⟩

/-- slot i holds an own thing, at a -/
def OwnAt (σ : L2.St) (sl : Slots) (i : Nat) (a : Addr) : Prop := ∃ m, sl[i]? = some (some m) ∧ isOwn m = true ∧ σ[i]? = some (some (.ref a))
/-- at the entry: the frozen part, the heap, what may be changed, the borrowed slots with their addresses -/
structure Gh where
  F0 : Hp
  H0 : Hp
  own0 : Addr → Prop
  bor : List (Nat × Addr)
  T : List NdefX.NTab
structure EnvOk (K : Fg) (mg : Mg) (G : Gh) (F H : Hp) (σ : L2.St) (env : Env) : Prop where
  sub : Le F H
  slot : ∀ (i : Nat) (m : M), env.sl[i]? = some (some m) → ∃ v : V, σ[i]? = some (some v) ∧ RM K mg F H m v
  apart : ∀ (i j : Nat) (a : Addr), OwnAt σ env.sl i a → OwnAt σ env.sl j a → i = j
  frz : Le G.F0 F
  frame : ∀ a o, G.H0 a = some o → ¬ G.own0 a → NTb o → H a = some o
  dom : ∀ a, H a = none → G.H0 a = none
  newF : ∀ a o, F a = some o → G.F0 a = some o ∨ G.H0 a = none ∨ G.own0 a
  newO : ∀ (i : Nat) (a : Addr), OwnAt σ env.sl i a → G.own0 a ∨ G.H0 a = none
  bor : env.bor = G.bor.map (·.1)
  borA : ∀ p ∈ G.bor, σ[p.1]? = some (some (.ref p.2))
  sep : ∀ p ∈ G.bor, ∀ i : Nat, OwnAt σ env.sl i p.2 → i = p.1
  borH : ∀ p ∈ G.bor, G.H0 p.2 ≠ none
  len : env.sl.length = σ.length
  tabs : NdefX.TabsN G.T H
  nt : ∀ a o, F a = some o → NTb o
section
variable {K : Fg} {mg : Mg} {G : Gh} {F H F' H' : Hp} {σ : L2.St} {env : Env} {i : Nat} {a : Addr} {m : M} {v : V}
theorem OwnAt.some (ok : EnvOk K mg G F H σ env) (o : OwnAt σ env.sl i a) : F a = none ∧ ∃ u, H a = some u ∧ OwnHO u := by
  obtain ⟨m, e1, e2, e3⟩ := o
  obtain ⟨v, e4, r⟩ := ok.slot i m e1
  rw [e3] at e4
  cases e4
  obtain ⟨b, u, e5, e6, e7, mu⟩ := r.own e2
  cases e5
  exact ⟨e6, u, e7, mu⟩
/-- a new object at p: frozen at once, or not -/
theorem EnvOk.newFz (ok : EnvOk K mg G F H σ env) {p : Addr} {o : HO} (ho : NTb o) (hp : H p = none) : EnvOk K mg G (upd F p o) (upd H p o) σ env := by
  have hF : F p = none := by
    cases e : F p with
    | none => rfl
    | some u => rw [ok.sub _ _ e] at hp; cases hp
  have l : Le F (upd F p o) := Le.upd hF
  have nown : ∀ {i a}, OwnAt σ env.sl i a → a ≠ p := fun z e => by
    obtain ⟨_, u, hu, _⟩ := z.some ok
    rw [e, hp] at hu; cases hu
  refine ⟨fun a u e => ?_, fun i m e => ?_, ok.apart, ok.frz.trans l, fun a u e n nt => ?_, fun a e => ok.dom a ?_, fun a u e => ?_, ok.newO, ok.bor, ok.borA, ok.sep, ok.borH, ok.len, tabs_new ok.tabs hp, fun a u e => by
    by_cases ha : a = p
    · subst ha; rw [upd_same] at e; cases e; exact ho
    · rw [upd_ne ha] at e; exact ok.nt a u e⟩
  · by_cases ha : a = p
    · subst ha; rw [upd_same] at e ⊢; exact e
    · rw [upd_ne ha] at e ⊢; exact ok.sub _ _ e
  · obtain ⟨v, e1, r⟩ := ok.slot i m e
    refine ⟨v, e1, r.le l fun o a ea => ?_⟩
    have z : a ≠ p := nown (i := i) ⟨m, e, o, by rw [e1, ea]⟩
    obtain ⟨b, u, e5, e6, e7, mu⟩ := r.own o
    rw [ea] at e5; cases e5
    exact ⟨upd_ne z, by rw [upd_ne z]; exact e6⟩
  · have := ok.frame a u e n nt
    rw [upd_ne (ne_of_none this hp)]; exact this
  · by_cases ha : a = p
    · subst ha; exact hp
    · rw [upd_ne ha] at e; exact e
  · by_cases ha : a = p
    · subst ha
      exact .inr (.inl (ok.dom _ hp))
    · rw [upd_ne ha] at e; exact ok.newF _ _ e
theorem EnvOk.newH (ok : EnvOk K mg G F H σ env) {p : Addr} {o : HO} (hp : H p = none) : EnvOk K mg G F (upd H p o) σ env := by
  have nown : ∀ {i a}, OwnAt σ env.sl i a → a ≠ p := fun z e => by
    obtain ⟨_, u, hu, _⟩ := z.some ok
    rw [e, hp] at hu; cases hu
  refine ⟨fun a u e => ?_, fun i m e => ?_, ok.apart, ok.frz, fun a u e n nt => ?_, fun a e => ok.dom a ?_, ok.newF, ok.newO, ok.bor, ok.borA, ok.sep, ok.borH, ok.len, tabs_new ok.tabs hp, ok.nt⟩
  · have := ok.sub _ _ e
    rw [upd_ne (ne_of_none this hp)]; exact this
  · obtain ⟨v, e1, r⟩ := ok.slot i m e
    refine ⟨v, e1, r.le (Le.refl _) fun o a ea => ?_⟩
    have z : a ≠ p := nown (i := i) ⟨m, e, o, by rw [e1, ea]⟩
    obtain ⟨b, u, e5, e6, e7, mu⟩ := r.own o
    rw [ea] at e5; cases e5
    exact ⟨upd_ne z, e6⟩
  · have := ok.frame a u e n nt
    rw [upd_ne (ne_of_none this hp)]; exact this
  · by_cases ha : a = p
    · subst ha; exact hp
    · rw [upd_ne ha] at e; exact e

/-! ### a slot is stored to, frozen, changed -/
theorem OwnAt.set_other {i j : Nat} {m' : Option M} {v' : Option V} (hij : j ≠ i) : OwnAt (σ.set i v') (env.sl.set i m') j a ↔ OwnAt σ env.sl j a := by
  unfold OwnAt
  rw [List.getElem?_set_ne (Ne.symm hij), List.getElem?_set_ne (Ne.symm hij)]
theorem OwnAt.set_sl {i j : Nat} {m' : Option M} (hij : j ≠ i) : OwnAt σ (env.sl.set i m') j a ↔ OwnAt σ env.sl j a := by
  unfold OwnAt
  rw [List.getElem?_set_ne (Ne.symm hij)]
/-- the slots that hold something own keep it, the frozen part grows -/
theorem EnvOk.slots (ok : EnvOk K mg G F H σ env) (l : Le F F') (hk : ∀ j b, OwnAt σ env.sl j b → j ≠ i → H' b = H b ∧ F' b = none) {j : Nat} {m : M} (hj : j ≠ i) (e : env.sl[j]? = some (some m)) : ∃ v : V, σ[j]? = some (some v) ∧ RM K mg F' H' m v := by
  obtain ⟨v, e1, r⟩ := ok.slot j m e
  exact ⟨v, e1, r.le l fun o a ea => hk j a ⟨m, e, o, by rw [e1, ea]⟩ hj⟩
/-- a list or dict of slot i is frozen -/
theorem EnvOk.freeze (ok : EnvOk K mg G F H σ env) (o : OwnAt σ env.sl i a) {u : HO} (hu : H a = some u) {d : D} (hd : ∀ v, σ[i]? = some (some v) → Dt K (upd F a u) v d) :
    EnvOk K mg G (upd F a u) H σ { env with sl := env.sl.set i (some (.fz d)) } := by
  obtain ⟨hF, _⟩ := o.some ok
  have l : Le F (upd F a u) := Le.upd hF
  obtain ⟨m0, e0, o0, s0⟩ := id o
  have hi : i < env.sl.length := (List.getElem?_eq_some_iff.mp e0).1
  have back : ∀ {j b}, OwnAt σ (env.sl.set i (some (.fz d))) j b → OwnAt σ env.sl j b ∧ j ≠ i := fun {j b} z => by
    have hj : j ≠ i := fun e => by
      subst e
      obtain ⟨m, e1, e2, _⟩ := z
      rw [List.getElem?_set_self hi] at e1
      cases e1; cases e2
    exact ⟨(OwnAt.set_sl hj).mp z, hj⟩
  refine ⟨fun b w e => ?_, fun j m e => ?_, fun j k b z1 z2 => ok.apart j k b (back z1).1 (back z2).1, ok.frz.trans l, ok.frame, ok.dom, fun b w e => ?_, fun j b z => ok.newO j b (back z).1, ok.bor, ok.borA, fun p hp j z => ok.sep p hp j (back z).1, ok.borH, by rw [List.length_set]; exact ok.len, ok.tabs, fun b w e => by
    by_cases hb : b = a
    · subst hb; rw [upd_same] at e; cases e; obtain ⟨_, u', hu', ou⟩ := o.some ok; rw [hu] at hu'; cases hu'; exact ou.ntb
    · rw [upd_ne hb] at e; exact ok.nt b w e⟩
  · by_cases hb : b = a
    · subst hb; rw [upd_same] at e; rw [← e]; exact hu
    · rw [upd_ne hb] at e; exact ok.sub _ _ e
  · by_cases hj : j = i
    · subst hj
      have e : (env.sl.set j (some (.fz d)))[j]? = some (some m) := e
      rw [List.getElem?_set_self hi] at e
      cases e
      exact ⟨_, s0, hd _ s0⟩
    · have e : (env.sl.set i (some (.fz d)))[j]? = some (some m) := e
      rw [List.getElem?_set_ne (Ne.symm hj)] at e
      refine ok.slots (i := i) l (fun k b z hk => ⟨rfl, ?_⟩) hj e
      have hb : b ≠ a := fun e => hk (ok.apart k i a (e ▸ z) o)
      rw [upd_ne hb]
      exact (z.some ok).1
  · by_cases hb : b = a
    · subst hb; exact (ok.newO i b o).elim (fun z => .inr (.inr z)) fun z => .inr (.inl z)
    · rw [upd_ne hb] at e; exact ok.newF _ _ e
/-- a new thing that nobody holds is frozen -/
theorem EnvOk.freezeT (ok : EnvOk K mg G F H σ env) {u : HO} (un : NTb u) (hu : H a = some u) (hF : F a = none) (hn : ∀ i, ¬ OwnAt σ env.sl i a) (hG : G.H0 a = none ∨ G.own0 a) : EnvOk K mg G (upd F a u) H σ env := by
  have l : Le F (upd F a u) := Le.upd hF
  refine ⟨fun b w e => ?_, fun j m e => ?_, ok.apart, ok.frz.trans l, ok.frame, ok.dom, fun b w e => ?_, ok.newO, ok.bor, ok.borA, ok.sep, ok.borH, ok.len, ok.tabs, fun b w e => by
    by_cases hb : b = a
    · subst hb; rw [upd_same] at e; cases e; exact un
    · rw [upd_ne hb] at e; exact ok.nt b w e⟩
  · by_cases hb : b = a
    · subst hb; rw [upd_same] at e; rw [← e]; exact hu
    · rw [upd_ne hb] at e; exact ok.sub _ _ e
  · obtain ⟨v, e1, r⟩ := ok.slot j m e
    refine ⟨v, e1, r.le l fun o b eb => ⟨rfl, ?_⟩⟩
    have z : OwnAt σ env.sl j b := ⟨m, e, o, by rw [e1, eb]⟩
    have hb : b ≠ a := fun e => hn j (e ▸ z)
    rw [upd_ne hb]
    exact (z.some ok).1
  · by_cases hb : b = a
    · subst hb; exact .inr hG
    · rw [upd_ne hb] at e; exact ok.newF _ _ e
/-- what is own in slot i is changed -/
theorem EnvOk.mut (ok : EnvOk K mg G F H σ env) (o : OwnAt σ env.sl i a) {u : HO} {m : M} (om : isOwn m = true) (hm : RM K mg F (upd H a u) m (.ref a)) :
    EnvOk K mg G F (upd H a u) σ { env with sl := env.sl.set i (some m) } := by
  obtain ⟨hF, u0, hu0, ou0⟩ := o.some ok
  obtain ⟨m0, e0, o0, s0⟩ := id o
  have hi : i < env.sl.length := (List.getElem?_eq_some_iff.mp e0).1
  have back : ∀ {j b}, OwnAt σ (env.sl.set i (some m)) j b → OwnAt σ env.sl j b := fun {j b} z => by
    by_cases hj : j = i
    · subst hj
      obtain ⟨_, _, _, e3⟩ := z
      exact ⟨m0, e0, o0, e3⟩
    · exact (OwnAt.set_sl hj).mp z
  refine ⟨fun b w e => ?_, fun j m1 e => ?_, fun j k b z1 z2 => ok.apart j k b (back z1) (back z2), ok.frz, fun b w e n nt => ?_, fun b e => ok.dom b ?_, ok.newF, fun j b z => ok.newO j b (back z), ok.bor, ok.borA, fun p hp j z => ok.sep p hp j (back z), ok.borH, by rw [List.length_set]; exact ok.len, tabs_upd ok.tabs hu0 ou0, ok.nt⟩
  · have hb : b ≠ a := fun z => by rw [z, hF] at e; cases e
    rw [upd_ne hb]; exact ok.sub _ _ e
  · by_cases hj : j = i
    · subst hj
      have e : (env.sl.set j (some m))[j]? = some (some m1) := e
      rw [List.getElem?_set_self hi] at e
      cases e
      exact ⟨_, s0, hm⟩
    · have e : (env.sl.set i (some m))[j]? = some (some m1) := e
      rw [List.getElem?_set_ne (Ne.symm hj)] at e
      refine ok.slots (i := i) (Le.refl _) (fun k b z hk => ⟨?_, (z.some ok).1⟩) hj e
      have hb : b ≠ a := fun e => hk (ok.apart k i a (e ▸ z) o)
      exact upd_ne hb
  · have hb : b ≠ a := fun z => by
      subst z
      rcases ok.newO i b o with q | q
      · exact n q
      · rw [q] at e; cases e
    rw [upd_ne hb]; exact ok.frame _ _ e n nt
  · by_cases hb : b = a
    · subst hb; rw [upd_same] at e; cases e
    · rw [upd_ne hb] at e; exact e
/-- a value that is no slot's own -/
structure Free (K : Fg) (mg : Mg) (G : Gh) (F H : Hp) (σ : L2.St) (env : Env) (m : M) (v : V) : Prop where
  rm : RM K mg F H m v
  new : isOwn m = true → ∀ a, v = .ref a → G.H0 a = none ∧ ∀ i, ¬ OwnAt σ env.sl i a
/-- slot i, not borrowed, gets a value -/
theorem EnvOk.store (ok : EnvOk K mg G F H σ env) (hi : i < env.sl.length) (hb : i ∉ env.bor) (f : Free K mg G F H σ env m v) :
    EnvOk K mg G F H (σ.set i (some v)) { env with sl := env.sl.set i (some m) } := by
  have hiσ : i < σ.length := by rw [← ok.len]; exact hi
  have here : ∀ {b}, OwnAt (σ.set i (some v)) (env.sl.set i (some m)) i b → isOwn m = true ∧ v = .ref b := fun {b} z => by
    obtain ⟨m1, e1, e2, e3⟩ := z
    rw [List.getElem?_set_self hi] at e1
    rw [List.getElem?_set_self hiσ] at e3
    cases e1; cases e3
    exact ⟨e2, rfl⟩
  have back : ∀ {j b}, j ≠ i → OwnAt (σ.set i (some v)) (env.sl.set i (some m)) j b → OwnAt σ env.sl j b := fun {j b} hj z => (OwnAt.set_other hj).mp z
  have clash : ∀ {j b}, j ≠ i → OwnAt (σ.set i (some v)) (env.sl.set i (some m)) j b → OwnAt (σ.set i (some v)) (env.sl.set i (some m)) i b → False := fun {j b} hj z1 z2 => by
    obtain ⟨h1, h2⟩ := here z2
    exact (f.new h1 b h2).2 j (back hj z1)
  refine ⟨ok.sub, fun j m1 e => ?_, fun j k b z1 z2 => ?_, ok.frz, ok.frame, ok.dom, ok.newF, fun j b z => ?_, ok.bor, fun p hp => ?_, fun p hp j z => ?_, ok.borH, by rw [List.length_set, List.length_set]; exact ok.len, ok.tabs, ok.nt⟩
  · by_cases hj : j = i
    · subst hj
      have e : (env.sl.set j (some m))[j]? = some (some m1) := e
      rw [List.getElem?_set_self hi] at e
      cases e
      exact ⟨v, List.getElem?_set_self hiσ, f.rm⟩
    · have e : (env.sl.set i (some m))[j]? = some (some m1) := e
      rw [List.getElem?_set_ne (Ne.symm hj)] at e
      obtain ⟨w, e1, r⟩ := ok.slot j m1 e
      exact ⟨w, by rw [List.getElem?_set_ne (Ne.symm hj)]; exact e1, r⟩
  · by_cases hj : j = i
    · by_cases hk : k = i
      · rw [hj, hk]
      · exact (clash hk z2 (hj ▸ z1)).elim
    · by_cases hk : k = i
      · exact (clash hj z1 (hk ▸ z2)).elim
      · exact ok.apart j k b (back hj z1) (back hk z2)
  · by_cases hj : j = i
    · subst hj
      obtain ⟨h1, h2⟩ := here z
      exact .inr (f.new h1 b h2).1
    · exact ok.newO j b (back hj z)
  · have hne : p.1 ≠ i := fun e => hb (by rw [ok.bor]; exact List.mem_map.mpr ⟨p, hp, e⟩)
    rw [List.getElem?_set_ne (Ne.symm hne)]
    exact ok.borA p hp
  · by_cases hj : j = i
    · subst hj
      obtain ⟨h1, h2⟩ := here z
      exact absurd (f.new h1 p.2 h2).1 (ok.borH p hp)
    · exact ok.sep p hp j (back hj z)
end
end VL

/-! VlC: what a piece of code means by value (FE, FT, FA, FS) and that the machine does it (VE, VT, VA, VS). -/
namespace VL
open PySem PySem.Spec PyProof.Rows L2

abbrev KX := Ex → Env → Prop
abbrev FE := Env → (R → Env → Prop) → KX → Prop
abbrev FT := Env → (Bool → Env → Prop) → KX → Prop
/-- an argument: data, a def, the thing in a slot -/
inductive Ar where
  | d (d : D)
  | g (x : Str)
  | s (i : Nat)
abbrev FA := Env → (List Ar → Env → Prop) → KX → Prop
structure EndV where
  nx : Env → Prop
  rt : M → Env → Prop
  bk : Env → Prop := fun _ => False
  ct : Env → Prop := fun _ => False
abbrev FS := Env → EndV → KX → Prop
abbrev FSs := Env → EndV → KX → Prop

def bindP {α : Type} (o : Option α) (k : α → Prop) : Prop :=
  match o with
  | some a => k a
  | none => False
@[simp] theorem bindP_some {α : Type} (a : α) (k : α → Prop) : bindP (some a) k = k a := rfl
@[simp] theorem bindP_none {α : Type} (k : α → Prop) : bindP none k = False := rfl
theorem bindP_of {α : Type} {o : Option α} {k : α → Prop} (h : bindP o k) : ∃ a, o = some a ∧ k a := by
  cases o with
  | none => exact h.elim
  | some a => exact ⟨a, rfl, h⟩

/-- an argument looked at: what is new is frozen, what stands in a slot stays -/
def pkR : R → Option Ar
  | .val (.fz d) => some (.d d)
  | .val (.lst ds) => some (.d (.list ds))
  | .val (.gl x) => some (.g x)
  | .val (.adr _) => none
  | .val (.dct _) => none
  | .slot i => some (.s i)
/-- an argument handed on: what stands in a slot is frozen -/
def lkR (env : Env) : R → Option (Ar × Env)
  | .val (.fz d) => some (.d d, env)
  | .val (.lst ds) => some (.d (.list ds), env)
  | .val (.gl x) => some (.g x, env)
  | .val (.adr _) => none
  | .val (.dct _) => none
  | .slot i => match env.sl[i]? with
    | some (some (.lst ds)) => some (.d (.list ds), { env with sl := env.sl.set i (some (.fz (.list ds))) })
    | _ => none
def pkA (env : Env) : Ar → Option D
  | .d d => some d
  | .g _ => none
  | .s i => match env.sl[i]? with
    | some (some m) => toD m
    | _ => none
def dOf : Ar → Option D
  | .d d => some d
  | _ => none
def pkAs (env : Env) : List Ar → Option (List D)
  | [] => some []
  | a :: as => match pkA env a with
    | some d => match pkAs env as with
      | some ds => some (d :: ds)
      | none => none
    | none => none
def dOfs : List Ar → Option (List D)
  | [] => some []
  | a :: as => match dOf a with
    | some d => match dOfs as with
      | some ds => some (d :: ds)
      | none => none
    | none => none

/-! ### how these lie in the machine -/
def ExOk (K : Fg) (mg : Mg) (F H : Hp) (ex : Ex) (cls : Value) (d : Option Addr) : Prop :=
  ∃ C, cls = Value.ref C ∧ mg ex.cls = some (.ref C) ∧
    ((d = none ∧ ex.fs = []) ∨ ∃ dx fs, d = some dx ∧ H dx = some (.xd fs) ∧ fs.map (·.1) = ex.fs.map (·.1) ∧ DtAll K F (fs.map (·.2)) (ex.fs.map (·.2)))
def liftW (K : Fg) (mg : Mg) (G : Gh) (W : KX) : WX := fun cls d σ H => ∃ ex F env, EnvOk K mg G F H σ env ∧ ExOk K mg F H ex cls d ∧ W ex env
def RR (K : Fg) (mg : Mg) (G : Gh) (F H : Hp) (σ : L2.St) (env : Env) : R → V → Prop
  | .val m, v => Free K mg G F H σ env m v
  | .slot i, v => ∃ a, v = .ref a ∧ OwnAt σ env.sl i a
def ArOk (K : Fg) (mg : Mg) (F : Hp) (σ : L2.St) : Ar → V → Prop
  | .d d, v => Dt K F v d
  | .g x, v => ∃ f, v = .ref f ∧ mg x = some (.ref f)
  | .s i, v => σ[i]? = some (some v)
inductive ArAll (K : Fg) (mg : Mg) (F : Hp) (σ : L2.St) : List Ar → List V → Prop
  | nil : ArAll K mg F σ [] []
  | cons {a : Ar} {as : List Ar} {v : V} {vs : List V} : ArOk K mg F σ a v → ArAll K mg F σ as vs → ArAll K mg F σ (a :: as) (v :: vs)
/-- looked at now -/
inductive Pk (K : Fg) (F H : Hp) : V → D → Prop
  | fz {v : V} {d : D} : Dt K F v d → Pk K F H v d
  | lst {a : Addr} {vs : List V} {ds : List D} : H a = some (.lst vs) → DtAll K F vs ds → Pk K F H (.ref a) (.list ds)
  | dct {a : Addr} {es : List (D × D)} : DctAt K F H a es → Pk K F H (.ref a) (.dict es)
inductive PkAll (K : Fg) (F H : Hp) : List V → List D → Prop
  | nil : PkAll K F H [] []
  | cons {v : V} {vs : List V} {d : D} {ds : List D} : Pk K F H v d → PkAll K F H vs ds → PkAll K F H (v :: vs) (d :: ds)
section
variable {K : Fg} {mg : Mg} {G : Gh} {F F' H H' : Hp} {σ : L2.St} {env : Env} {i : Nat} {a : Addr} {m : M} {v : V}
theorem ArOk.le {x : Ar} (h : ArOk K mg F σ x v) (l : Le F F') : ArOk K mg F' σ x v := by
  cases x with
  | d d => exact Dt.le l h
  | g x => exact h
  | s i => exact h
theorem ArAll.le {as : List Ar} {vs : List V} (h : ArAll K mg F σ as vs) (l : Le F F') : ArAll K mg F' σ as vs := by
  induction h with
  | nil => exact .nil
  | cons h _ ih => exact .cons (h.le l) ih
theorem ArAll.length {as : List Ar} {vs : List V} (h : ArAll K mg F σ as vs) : as.length = vs.length := by
  induction h with
  | nil => rfl
  | cons h _ ih => rw [List.length_cons, List.length_cons, ih]
theorem ArAll.data : ∀ {as : List Ar} {vs : List V} {ds : List D}, ArAll K mg F σ as vs → dOfs as = some ds → DtAll K F vs ds
  | _, _, ds, .nil, e => by cases e; exact .nil
  | _, _, ds, .cons (a := a) (as := as) h r, e => by
    cases a with
    | g x => cases e
    | s i => cases e
    | d d =>
      have e : (match dOfs as with | some ds => some (d :: ds) | none => none) = some ds := e
      cases q : dOfs as with
      | none => rw [q] at e; cases e
      | some es => rw [q] at e; cases e; exact .cons h (ArAll.data r q)
theorem ArOk.pk (ok : EnvOk K mg G F H σ env) {x : Ar} {d : D} (h : ArOk K mg F σ x v) (e : pkA env x = some d) : Pk K F H v d := by
  cases x with
  | d d' => cases e; exact .fz h
  | g x => cases e
  | s i =>
    have e : (match env.sl[i]? with | some (some m) => toD m | _ => none) = some d := e
    cases q : env.sl[i]? with
    | none => rw [q] at e; cases e
    | some o =>
      cases o with
      | none => rw [q] at e; cases e
      | some m =>
        rw [q] at e
        obtain ⟨w, e1, r⟩ := ok.slot i m q
        have h : σ[i]? = some (some v) := h
        rw [h] at e1
        cases e1
        cases m with
        | fz d' => cases e; exact .fz r
        | gl x => cases e
        | adr x => cases e
        | lst ds => cases e; obtain ⟨b, vs, rfl, h1, _, h3⟩ := r; exact .lst h1 h3
        | dct es => cases e; obtain ⟨b, rfl, _, h3⟩ := r; exact .dct h3
theorem ArAll.pk (ok : EnvOk K mg G F H σ env) : ∀ {as : List Ar} {vs : List V} {ds : List D}, ArAll K mg F σ as vs → pkAs env as = some ds → PkAll K F H vs ds
  | _, _, ds, .nil, e => by cases e; exact .nil
  | _, _, ds, .cons (a := a) (as := as) h r, e => by
    have e : (match pkA env a with | some d => (match pkAs env as with | some ds => some (d :: ds) | none => none) | none => none) = some ds := e
    cases q : pkA env a with
    | none => rw [q] at e; cases e
    | some d =>
      rw [q] at e
      cases q2 : pkAs env as with
      | none => rw [q2] at e; cases e
      | some es => rw [q2] at e; cases e; exact .cons (h.pk ok q) (ArAll.pk ok r q2)
/-- looked at: what is new is frozen -/
theorem RR.peek (ok : EnvOk K mg G F H σ env) {r : R} {x : Ar} (h : RR K mg G F H σ env r v) (e : pkR r = some x) : ∃ F1, EnvOk K mg G F1 H σ env ∧ Le F F1 ∧ ArOk K mg F1 σ x v := by
  cases r with
  | slot i =>
    cases e
    obtain ⟨a, rfl, _, _, _, h3⟩ := h
    exact ⟨F, ok, Le.refl _, h3⟩
  | val m =>
    obtain ⟨rm, nw⟩ := h
    cases m with
    | fz d => cases e; exact ⟨F, ok, Le.refl _, rm⟩
    | gl x => cases e; exact ⟨F, ok, Le.refl _, rm⟩
    | adr x => cases e
    | dct es => cases e
    | lst ds =>
      cases e
      obtain ⟨a, vs, rfl, h1, h2, h3⟩ := rm
      obtain ⟨n1, n2⟩ := nw rfl a rfl
      have l : Le F (upd F a (.lst vs)) := Le.upd h2
      exact ⟨_, ok.freezeT (fun ps z => by cases z) h1 h2 n2 (.inl n1), l, .lst (.inl (.inl upd_same)) (h3.le l)⟩
/-- handed on: what stands in a slot is frozen, too -/
theorem RR.leak (ok : EnvOk K mg G F H σ env) {r : R} {x : Ar} {env' : Env} (h : RR K mg G F H σ env r v) (e : lkR env r = some (x, env')) : ∃ F1, EnvOk K mg G F1 H σ env' ∧ Le F F1 ∧ ArOk K mg F1 σ x v := by
  cases r with
  | slot i =>
    obtain ⟨a, rfl, o⟩ := h
    obtain ⟨m, e1, e2, e3⟩ := id o
    dsimp only [lkR] at e
    rw [e1] at e
    cases m with
    | fz d => cases e2
    | gl x => cases e2
    | adr x => cases e2
    | dct es => cases e
    | lst ds =>
      cases e
      obtain ⟨w, e4, b, vs, rfl, h1, h2, h3⟩ := ok.slot i _ e1
      rw [e3] at e4
      cases e4
      have l : Le F (upd F a (.lst vs)) := Le.upd h2
      have q : Dt K (upd F a (.lst vs)) (.ref a) (.list ds) := .lst (.inl (.inl upd_same)) (h3.le l)
      refine ⟨_, ok.freeze o h1 (d := .list ds) fun v hv => ?_, l, q⟩
      rw [e3] at hv
      cases hv
      exact q
  | val m =>
    obtain ⟨rm, nw⟩ := h
    cases m with
    | fz d => cases e; exact ⟨F, ok, Le.refl _, rm⟩
    | gl x => cases e; exact ⟨F, ok, Le.refl _, rm⟩
    | adr x => cases e
    | dct es => cases e
    | lst ds =>
      cases e
      obtain ⟨a, vs, rfl, h1, h2, h3⟩ := rm
      obtain ⟨n1, n2⟩ := nw rfl a rfl
      have l : Le F (upd F a (.lst vs)) := Le.upd h2
      exact ⟨_, ok.freezeT (fun ps z => by cases z) h1 h2 n2 (.inl n1), l, .lst (.inl (.inl upd_same)) (h3.le l)⟩
theorem Free.fz (h : Dt K F v d) : Free K mg G F H σ env (.fz d) v := ⟨h, fun z => by cases z⟩
theorem Free.scal {d : D} (h : Dt K F v d) : Free K mg G F H σ env (.fz d) v := ⟨h, fun z => by cases z⟩
end

/-! ### lifted readings -/
def liftE (K : Fg) (mg : Mg) (G : Gh) (W : KX) (f : FE) : TE := fun σ H Qh => ∃ F env Q, EnvOk K mg G F H σ env ∧ f env Q W ∧
  ∀ r env' v F' H', EnvOk K mg G F' H' σ env' → Le F F' → RR K mg G F' H' σ env' r v → Q r env' → Qh v H'
def liftT (K : Fg) (mg : Mg) (G : Gh) (W : KX) (f : FT) : TT := fun σ H Qh => ∃ F env Q, EnvOk K mg G F H σ env ∧ f env Q W ∧
  ∀ b env' F' H', EnvOk K mg G F' H' σ env' → Le F F' → Q b env' → Qh b H'
def liftA (K : Fg) (mg : Mg) (G : Gh) (W : KX) (f : FA) : TA := fun σ H Qh => ∃ F env Q, EnvOk K mg G F H σ env ∧ f env Q W ∧
  ∀ as env' vs F' H', EnvOk K mg G F' H' σ env' → Le F F' → ArAll K mg F' σ as vs → Q as env' → Qh vs H'
def liftS (K : Fg) (mg : Mg) (G : Gh) (W : KX) (g : FS) : TS := fun Dn σ H => ∃ F env E, EnvOk K mg G F H σ env ∧ g env E W ∧
  (∀ σ' F' H' env', EnvOk K mg G F' H' σ' env' → Le F F' → E.nx env' → Dn.nx σ' H') ∧ (∀ σ' F' H' env', EnvOk K mg G F' H' σ' env' → Le F F' → E.bk env' → Dn.bk σ' H') ∧
  (∀ σ' F' H' env', EnvOk K mg G F' H' σ' env' → Le F F' → E.ct env' → Dn.ct σ' H') ∧
  (∀ σ' F' H' env' m v, EnvOk K mg G F' H' σ' env' → Le F F' → Free K mg G F' H' σ' env' m v → E.rt m env' → Dn.rt v H')
/-- what is known of the ghost: its tables of code objects, and more -/
abbrev Gp := Gh → Prop
def Tk (gp : Gp) (X : Cx) (G : Gh) (W : KX) : Prop := gp G ∧ Takes X (liftW X.K X.mg G W)
/-- its tables are T -/
def gpT (T : List NdefX.NTab) : Gp := fun G => G.T = T
def VE (gp : Gp) (X : Cx) (e : Expr) (f : FE) : Prop := ∀ G W, Tk gp X G W → PE X e (liftE X.K X.mg G W f)
def VT (gp : Gp) (X : Cx) (e : Expr) (f : FT) : Prop := ∀ G W, Tk gp X G W → PT X e (liftT X.K X.mg G W f)
def VW (gp : Gp) (X : Cx) (e : Expr) (f : FT) : Prop := ∀ G W, Tk gp X G W → PW X e (liftT X.K X.mg G W f)
def VA (gp : Gp) (X : Cx) (es : List Expr) (f : FA) : Prop := ∀ G W, Tk gp X G W → PA X es (liftA X.K X.mg G W f)
/-- the entry is that of a def: only what is borrowed may change -/
def GOk (G : Gh) : Prop := ∀ a, G.own0 a → ∃ p ∈ G.bor, p.2 = a
def VS (gp : Gp) (X : Cx) (st : Stmt) (g : FS) : Prop := ∀ G W, GOk G → Tk gp X G W → PS X st (liftS X.K X.mg G W g)
def VSs (gp : Gp) (X : Cx) (st : List Stmt) (g : FS) : Prop := ∀ G W, GOk G → Tk gp X G W → PSs X st (liftS X.K X.mg G W g)
theorem PE.imp {X : Cx} {e : Expr} {t t' : TE} (h : PE X e t) (i : ∀ σ H Q, t' σ H Q → t σ H Q) : PE X e t' := ⟨fun pins s σ H Q I q => h.run pins s σ H Q I (i σ H Q q)⟩
theorem PT.imp {X : Cx} {e : Expr} {t t' : TT} (h : PT X e t) (i : ∀ σ H Q, t' σ H Q → t σ H Q) : PT X e t' := ⟨fun pins s σ H Q I q => h.run pins s σ H Q I (i σ H Q q)⟩
theorem PW.imp {X : Cx} {e : Expr} {t t' : TT} (h : PW X e t) (i : ∀ σ H Q, t' σ H Q → t σ H Q) : PW X e t' := ⟨fun wh pins s σ H Q I q => h.run wh pins s σ H Q I (i σ H Q q)⟩
theorem PA.imp {X : Cx} {es : List Expr} {t t' : TA} (h : PA X es t) (i : ∀ σ H Q, t' σ H Q → t σ H Q) : PA X es t' := ⟨fun pos pins s σ H Q I q => h.run pos pins s σ H Q I (i σ H Q q)⟩
theorem PS.imp {X : Cx} {st : Stmt} {t t' : TS} (h : PS X st t) (i : ∀ D σ H, t' D σ H → t D σ H) : PS X st t' := ⟨fun pins s σ H D I q => h.run pins s σ H D I (i D σ H q)⟩
theorem PSs.imp {X : Cx} {st : List Stmt} {t t' : TS} (h : PSs X st t) (i : ∀ D σ H, t' D σ H → t D σ H) : PSs X st t' := ⟨fun pins s σ H D I q => h.run pins s σ H D I (i D σ H q)⟩

/-! ### names, constants -/
def fVar (i : Nat) : FE := fun env Q _ => bindP (env.sl[i]?.join) fun m => if isOwn m = true then Q (.slot i) env else Q (.val m) env
def fC (d : D) : FE := fun env Q _ => Q (.val (.fz d)) env
def fGl (x : Str) : FE := fun env Q _ => Q (.val (.gl x)) env
section
variable {X : Cx}
theorem ve_var {i : Nat} {x : Str} {pos : Pos} (hN : X.N[i]? = some x) (hv : Vis X.env.scope x) (hd : (x == ("__debug__" : Str)) = false := by decide) (hcd : (x == ("__classdict__" : Str)) = false := by decide) : VE gp X (.Name x pos) (fVar i) := fun G W _ =>
  PE.imp (pe_var hN hv hd hcd) fun σ H Qh h => by
    obtain ⟨F, env, Q, ok, hf, q⟩ := h
    obtain ⟨m, e, hf⟩ := bindP_of hf
    have e : env.sl[i]? = some (some m) := by
      cases z : env.sl[i]? with
      | none => rw [z] at e; cases e
      | some o => rw [z] at e; exact congrArg some e
    obtain ⟨v, e1, r⟩ := ok.slot i m e
    refine ⟨v, e1, ?_⟩
    by_cases o : isOwn m = true
    · rw [if_pos o] at hf
      obtain ⟨a, u, rfl, _⟩ := r.own o
      exact q (.slot i) _ _ F H ok (Le.refl _) ⟨a, rfl, m, e, o, e1⟩ hf
    · rw [if_neg o] at hf
      exact q (.val m) _ _ F H ok (Le.refl _) ⟨r, fun z => absurd z o⟩ hf
theorem ve_c {e : Expr} {v : V} {d : D} (h : PE X e (tC v)) (hd : ∀ F, Dt X.K F v d) : VE gp X e (fC d) := fun G W _ =>
  PE.imp h fun σ H Qh h => by
    obtain ⟨F, env, Q, ok, hf, q⟩ := h
    exact q (.val (.fz d)) _ _ F H ok (Le.refl _) (Free.scal (hd F)) hf
theorem ve_int {i : Int} {j pos} : VE gp X (.Constant (.int i) j pos) (fC (.int i)) := ve_c pe_int fun _ => .int i
theorem ve_bl {b : Bool} {j pos} : VE gp X (.Constant (.bool b) j pos) (fC (.bool b)) := ve_c pe_bl fun _ => .bl b
theorem ve_non {j pos} : VE gp X (.Constant .none j pos) (fC .none) := ve_c pe_non fun _ => .non
theorem ve_str {x : Str} {j pos} : VE gp X (.Constant (.str x) j pos) (fC (.str x)) := ve_c pe_str fun _ => .str x
/-- a constant of the module -/
theorem ve_glob {x : Str} {v : V} {u : Value} {d : D} {pos : Pos} (hg : Gl X x) (hm : X.mg x = some u) (r : RelV v u) (hd : ∀ F, Dt X.K F v d) (hb : (x == ("__debug__" : Str)) = false := by decide) : VE gp X (.Name x pos) (fC d) := ve_c (pe_glob hg hm r hb) hd
/-- a def of the module as a value -/
theorem ve_def {x : Str} {f : Addr} {pos : Pos} (hg : Gl X x) (hm : X.mg x = some (.ref f)) (hb : (x == ("__debug__" : Str)) = false := by decide) : VE gp X (.Name x pos) (fGl x) := fun G W _ =>
  PE.imp (pe_glob (v := .ref f) hg hm rfl hb) fun σ H Qh h => by
    obtain ⟨F, env, Q, ok, hf, q⟩ := h
    exact q (.val (.gl x)) _ _ F H ok (Le.refl _) ⟨⟨f, rfl, hm⟩, fun z => by cases z⟩ hf
end

/-! ### argument lists -/
def aNil : FA := fun env Q _ => Q [] env
def aP (fe : FE) (fa : FA) : FA := fun env Q W => fe env (fun r env1 => bindP (pkR r) fun x => fa env1 (fun xs env2 => Q (x :: xs) env2) W) W
def aL (fe : FE) (fa : FA) : FA := fun env Q W => fe env (fun r env1 => bindP (lkR env1 r) fun x => fa x.2 (fun xs env2 => Q (x.1 :: xs) env2) W) W
section
variable {X : Cx} {e : Expr} {es : List Expr} {fe : FE} {fa : FA} {pos : Pos}
theorem va_nil : VA gp X [] aNil := fun G W _ => PA.imp pa_nil fun σ H Qh h => by
  obtain ⟨F, env, Q, ok, hf, q⟩ := h
  exact q _ _ _ F H ok (Le.refl _) .nil hf
theorem va_p (he : VE gp X e fe) (ha : VA gp X es fa) (hs : starEach (e :: es) X.env = (false, eval e X.env) :: starEach es X.env := by rfl) : VA gp X (e :: es) (aP fe fa) := fun G W t =>
  PA.imp (pa_cons (he G W t) (ha G W t) hs) fun σ H Qh h => by
    obtain ⟨F, env, Q, ok, hf, q⟩ := h
    refine ⟨F, env, _, ok, hf, fun r env1 v F1 H1 ok1 l1 rr hq => ?_⟩
    obtain ⟨x, ex, hq⟩ := bindP_of hq
    obtain ⟨F2, ok2, l2, ax⟩ := rr.peek ok1 ex
    refine ⟨F2, env1, _, ok2, hq, fun as env3 vs F3 H3 ok3 l3 aa hq => ?_⟩
    exact q _ _ _ F3 H3 ok3 ((l1.trans l2).trans l3) (.cons (ax.le l3) aa) hq
theorem va_l (he : VE gp X e fe) (ha : VA gp X es fa) (hs : starEach (e :: es) X.env = (false, eval e X.env) :: starEach es X.env := by rfl) : VA gp X (e :: es) (aL fe fa) := fun G W t =>
  PA.imp (pa_cons (he G W t) (ha G W t) hs) fun σ H Qh h => by
    obtain ⟨F, env, Q, ok, hf, q⟩ := h
    refine ⟨F, env, _, ok, hf, fun r env1 v F1 H1 ok1 l1 rr hq => ?_⟩
    obtain ⟨⟨x, env2⟩, ex, hq⟩ := bindP_of hq
    obtain ⟨F2, ok2, l2, ax⟩ := rr.leak ok1 ex
    refine ⟨F2, env2, _, ok2, hq, fun as env3 vs F3 H3 ok3 l3 aa hq => ?_⟩
    exact q _ _ _ F3 H3 ok3 ((l1.trans l2).trans l3) (.cons (ax.le l3) aa) hq
end

/-! ### displays -/
def fTup (fa : FA) : FE := fun env Q W => fa env (fun as env1 => bindP (dOfs as) fun ds => ds.length ≤ 16777216 ∧ Q (.val (.fz (.tuple ds))) env1) W
def fLst (fa : FA) : FE := fun env Q W => fa env (fun as env1 => bindP (dOfs as) fun ds => ds.length ≤ 16777216 ∧ Q (.val (.lst ds)) env1) W
theorem line_of {n : Nat} (h : n ≤ 16777216) : n ≤ sizeLine := by rw [sizeLine_eq]; exact h
section
variable {X : Cx} {e : Expr} {es : List Expr} {fe : FE} {fa : FA} {pos : Pos}
section
variable {K : Fg} {mg : Mg} {G : Gh} {F H : Hp} {σ : L2.St} {env : Env} {p : Addr} {vs : List V} {ds : List D}
/-- a new tuple, frozen at once -/
theorem EnvOk.newTup {us : List Value} (ok : EnvOk K mg G F H σ env) (hp : H p = none) (r : DtAll K F vs ds) : EnvOk K mg G (upd F p (tupH us vs)) (upd H p (tupH us vs)) σ env ∧ Le F (upd F p (tupH us vs)) ∧ Free K mg G (upd F p (tupH us vs)) (upd H p (tupH us vs)) σ env (.fz (.tuple ds)) (.ref p) := by
  have hF : F p = none := by
    cases e : F p with
    | none => rfl
    | some u => rw [ok.sub _ _ e] at hp; cases hp
  exact ⟨ok.newFz (fun ps z => by cases z) hp, Le.upd hF, Free.fz (.tup (.inl ⟨_, upd_same, rfl⟩) (r.le (Le.upd hF)))⟩
/-- a new list, own -/
theorem EnvOk.newLst (ok : EnvOk K mg G F H σ env) (hp : H p = none) (r : DtAll K F vs ds) : EnvOk K mg G F (upd H p (.lst vs)) σ env ∧ Free K mg G F (upd H p (.lst vs)) σ env (.lst ds) (.ref p) := by
  have hF : F p = none := by
    cases e : F p with
    | none => rfl
    | some u => rw [ok.sub _ _ e] at hp; cases hp
  refine ⟨ok.newH hp, ⟨p, vs, rfl, upd_same, hF, r⟩, fun _ a ea => ?_⟩
  cases ea
  refine ⟨ok.dom _ hp, fun i z => ?_⟩
  obtain ⟨_, u, hu, _⟩ := z.some ok
  rw [hp] at hu; cases hu
end
/-- a tuple of written items -/
def tTupP (t : TA) : TE := fun σ H Q => t σ H fun xs H1 => xs.length ≤ sizeLine ∧ ∀ p us, H1 p = none → Q (.ref p) (upd H1 p (tupH us xs))
theorem pe_tupP {x1} {t : TA} (h : PA X es t) : PE X (.Tuple es x1 pos) (tTupP t) := by
  refine ⟨fun pins s σ H Q I hq => ?_⟩
  refine wpAny_Tuple_spliced (thn (h.run pos pins s σ H _ I hq) fun us s1 ⟨xs, H1, I1, r, z, q⟩ => ⟨by rw [← r.length]; exact z, ?_⟩)
  have hf : H1 s1.heap.objs.size = none := I1.hok.fresh (Nat.le_refl _)
  exact ⟨.ref s1.heap.objs.size, upd H1 s1.heap.objs.size (tupH us xs), Inv.laidT I1 (t' := s1.toks) (fun b u e => Heap.get?_push_of_some _ e) (Nat.le_refl _) r z (Heap.get?_push_size _ rfl), rfl, q _ _ hf⟩
theorem ve_tup {x1} (h : VA gp X es fa) : VE gp X (.Tuple es x1 pos) (fTup fa) := fun G W t => PE.imp (pe_tupP (h G W t)) fun σ H Qh hw => by
  obtain ⟨F, env, Q, ok, hf, q⟩ := hw
  refine ⟨F, env, _, ok, hf, fun as env1 vs F1 H1 ok1 l1 aa hq => ?_⟩
  obtain ⟨ds, e, hz, hq⟩ := bindP_of hq
  have r := aa.data e
  refine ⟨line_of (by rw [r.length]; exact hz), fun p us hp => ?_⟩
  obtain ⟨ok2, l2, fr⟩ := ok1.newTup hp r
  exact q (.val _) _ _ _ _ ok2 (l1.trans l2) fr hq
theorem ve_lst (h : VA gp X es fa) : VE gp X (.List es pos) (fLst fa) := fun G W t => PE.imp (pe_lst (h G W t)) fun σ H Qh hw => by
  obtain ⟨F, env, Q, ok, hf, q⟩ := hw
  refine ⟨F, env, _, ok, hf, fun as env1 vs F1 H1 ok1 l1 aa hq => ?_⟩
  obtain ⟨ds, e, hz, hq⟩ := bindP_of hq
  have r := aa.data e
  refine ⟨line_of (by rw [r.length]; exact hz), fun p hp => ?_⟩
  obtain ⟨ok2, fr⟩ := ok1.newLst hp r
  exact q (.val _) _ _ _ _ ok2 l1 fr hq
end

/-! ### operations on data -/
/-- act, done with values that show the data, gives what g says -/
def OpS (X : Cx) (act : List Value → Sem Value) (g : List D → (M → Prop) → Prop) : Prop :=
  ∀ (G : Gh) (pins : List (Addr × Obj)) (s : Shared) (τ σ : L2.St) (F H : Hp) (env : Env) (vs : List V) (us : List Value) (ds : List D) (Q : M → Prop), Inv X pins τ H s → EnvOk X.K X.mg G F H σ env → PkAll X.K F H vs ds → Vals vs us → g ds Q →
    wpAny (model X.prog X.w) X.A (act us) (fun u s' => ∃ m v F' H', Inv X pins τ H' s' ∧ RelV v u ∧ EnvOk X.K X.mg G F' H' σ env ∧ Le F F' ∧ Free X.K X.mg G F' H' σ env m v ∧ Q m) X.xe s
def fOp (g : List D → (M → Prop) → Prop) (fa : FA) : FE := fun env Q W => fa env (fun as env1 => bindP (pkAs env1 as) fun ds => g ds fun m => Q (.val m) env1) W
/-- the reading of an operation by values -/
def rOp (X : Cx) (σ : L2.St) (g : List D → (M → Prop) → Prop) : List V → Hp → VK → Prop := fun vs H Qh => ∃ (G : Gh) (F : Hp) (env : Env) (ds : List D) (Q : M → Prop), EnvOk X.K X.mg G F H σ env ∧ PkAll X.K F H vs ds ∧ g ds Q ∧
  ∀ m v F' H', EnvOk X.K X.mg G F' H' σ env → Le F F' → Free X.K X.mg G F' H' σ env m v → Q m → Qh v H'
theorem OpS.run {X : Cx} {act : List Value → Sem Value} {g : List D → (M → Prop) → Prop} (h : OpS X act g) {pins : List (Addr × Obj)} {s : Shared} {σ τ : L2.St} {H : Hp} {vs : List V} {us : List Value} {Qh : VK}
    (I : Inv X pins τ H s) (r : Vals vs us) (q : rOp X σ g vs H Qh) : wpAny (model X.prog X.w) X.A (act us) (EP X pins τ Qh) X.xe s := by
  obtain ⟨G, F, env, ds, Q, ok, pk, hg, k⟩ := q
  refine thn (h G pins s τ σ F H env vs us ds Q I ok pk r hg) fun u s' ⟨m, v, F', H', I', rv, ok', l, fr, hq⟩ => ⟨v, H', I', rv, k m v F' H' ok' l fr hq⟩
/-- from the lifted argument list to an operation -/
theorem lift_op {X : Cx} {G : Gh} {W : KX} {fa : FA} {g : List D → (M → Prop) → Prop} {σ : L2.St} {H : Hp} {Qh : VK} (hw : liftE X.K X.mg G W (fOp g fa) σ H Qh) : liftA X.K X.mg G W fa σ H fun vs H1 => rOp X σ g vs H1 Qh := by
  obtain ⟨F, env, Q, ok, hf, q⟩ := hw
  refine ⟨F, env, _, ok, hf, fun as env1 vs F1 H1 ok1 l1 aa hq => ?_⟩
  obtain ⟨ds, e, hq⟩ := bindP_of hq
  exact ⟨G, F1, env1, ds, _, ok1, aa.pk ok1 e, hq, fun m v F' H' ok' l fr hq => q (.val m) _ v F' H' ok' (l1.trans l) fr hq⟩
end VL

/-! VlD: the forms of expressions and tests. -/
namespace VL
open PySem PySem.Spec PyProof.Rows L2

abbrev act1 (f : Value → Sem Value) : List Value → Sem Value := fun us => match us with
  | [u] => f u
  | _ => pure .none
abbrev act2 (f : Value → Value → Sem Value) : List Value → Sem Value := fun us => match us with
  | [u, v] => f u v
  | _ => pure .none
section
variable {X : Cx} {G : Gh} {W : KX} {fa fb : FE} {g : List D → (M → Prop) → Prop} {σ : L2.St} {H : Hp} {Qh : VK}
theorem OpS.opR {f : Value → Value → Sem Value} (h : OpS X (act2 f) g) (σ : L2.St) : OpR X f (fun x y H Q => rOp X σ g [x, y] H Q) := fun pins s τ H x y v u Q I rx ry q =>
  h.run I (.cons rx (.cons ry .nil)) q
theorem OpS.unR {f : Value → Sem Value} (h : OpS X (act1 f) g) (σ : L2.St) : UnR X f (fun x H Q => rOp X σ g [x] H Q) := fun pins s τ H x v Q I rx q =>
  h.run I (.cons rx .nil) q
theorem OpS.callR {f : Value} (h : OpS X (fun us => call f us) g) (σ : L2.St) : CallR X f (fun xs H Q => rOp X σ g xs H Q) := fun pins s τ H xs us Q I r q =>
  h.run I r q
/-- one operand, two operands, from the lifted operation -/
theorem lift_1 (hw : liftE X.K X.mg G W (fOp g (aP fa aNil)) σ H Qh) : liftE X.K X.mg G W fa σ H fun x H1 => rOp X σ g [x] H1 Qh := by
  obtain ⟨F, env, Q, ok, hf, q⟩ := hw
  refine ⟨F, env, _, ok, hf, fun r env1 v F1 H1 ok1 l1 rr hq => ?_⟩
  obtain ⟨x, ex, hq⟩ := bindP_of hq
  obtain ⟨F2, ok2, l2, ax⟩ := rr.peek ok1 ex
  obtain ⟨ds, e, hq⟩ := bindP_of hq
  exact ⟨G, F2, env1, ds, _, ok2, (ArAll.cons ax .nil).pk ok2 e, hq, fun m v F' H' ok' l fr hq => q (.val m) _ v F' H' ok' ((l1.trans l2).trans l) fr hq⟩
theorem lift_2 (hw : liftE X.K X.mg G W (fOp g (aP fa (aP fb aNil))) σ H Qh) : liftE X.K X.mg G W fa σ H fun x H1 => liftE X.K X.mg G W fb σ H1 fun y H2 => rOp X σ g [x, y] H2 Qh := by
  obtain ⟨F, env, Q, ok, hf, q⟩ := hw
  refine ⟨F, env, _, ok, hf, fun r env1 v F1 H1 ok1 l1 rr hq => ?_⟩
  obtain ⟨x, ex, hq⟩ := bindP_of hq
  obtain ⟨F2, ok2, l2, ax⟩ := rr.peek ok1 ex
  refine ⟨F2, env1, _, ok2, hq, fun r env2 v2 F3 H2 ok3 l3 rr2 hq => ?_⟩
  obtain ⟨y, ey, hq⟩ := bindP_of hq
  obtain ⟨F4, ok4, l4, ay⟩ := rr2.peek ok3 ey
  obtain ⟨ds, e, hq⟩ := bindP_of hq
  exact ⟨G, F4, env2, ds, _, ok4, (ArAll.cons (ax.le (l3.trans l4)) (.cons ay .nil)).pk ok4 e, hq, fun m v F' H' ok' l fr hq => q (.val m) _ v F' H' ok' (((l1.trans l2).trans (l3.trans l4)).trans l) fr hq⟩
end

section
variable {X : Cx} {a b c : Expr} {fa fb fc : FE} {g g' : List D → (M → Prop) → Prop} {pos : Pos}
theorem ve_bin {op : Operator} (ho : OpS X (act2 (binaryOp op)) g) (ha : VE gp X a fa) (hb : VE gp X b fb) : VE gp X (.BinOp a op b pos) (fOp g (aP fa (aP fb aNil))) := fun G W t =>
  ⟨fun pins s σ H Qh I hw => (pe_op (ho.opR σ) (ha G W t) (hb G W t)).run pins s σ H Qh I (lift_2 hw)⟩
theorem ve_un {op : UnaryOp} (ho : OpS X (act1 (unaryOp op)) g) (ha : VE gp X a fa) : VE gp X (.UnaryOp op a pos) (fOp g (aP fa aNil)) := fun G W t =>
  ⟨fun pins s σ H Qh I hw => (pe_un (ho.unR σ) (ha G W t)).run pins s σ H Qh I (lift_1 hw)⟩
theorem ve_cmp {op : CmpOp} (ho : OpS X (act2 (compareOp op)) g) (ha : VE gp X a fa) (hb : VE gp X b fb) (hm : behindInMarks op b = false := by rfl) : VE gp X (.Compare a [op] [b] pos) (fOp g (aP fa (aP fb aNil))) := fun G W t =>
  ⟨fun pins s σ H Qh I hw => (pe_cmpR (ho.opR σ) (ha G W t) (hb G W t) hm).run pins s σ H Qh I (lift_2 hw)⟩

/-! ### tests -/
/-- the value is a truth -/
def fTB (fe : FE) : FT := fun env Q W => fe env (fun r env1 => match r with
  | .val (.fz (.bool k)) => Q k env1
  | _ => False) W
/-- the value's truth -/
def truD : D → Option Bool
  | .none => some false
  | .bool b => some b
  | .int i => some (i != 0)
  | .str _ => none
  | .list xs => some (!xs.isEmpty)
  | .tuple xs => some (!xs.isEmpty)
  | .dict _ => none
def fTr (fe : FE) : FT := fun env Q W => fe env (fun r env1 => bindP (pkR r) fun x => bindP (pkA env1 x) fun d => bindP (truD d) fun k => Q k env1) W
theorem bool_of {K : Fg} {F : Hp} {v : V} {k : Bool} (h : Dt K F v (.bool k)) : v = .bl k := by cases h; rfl
theorem lift_tb {G : Gh} {W : KX} {σ : L2.St} {H : Hp} {Qh : Bool → Hp → Prop} (hw : liftT X.K X.mg G W (fTB fa) σ H Qh) : liftE X.K X.mg G W fa σ H fun x H1 => ∃ k, x = .bl k ∧ Qh k H1 := by
  obtain ⟨F, env, Q, ok, hf, q⟩ := hw
  refine ⟨F, env, _, ok, hf, fun r env1 v F1 H1 ok1 l1 rr hq => ?_⟩
  cases r with
  | slot i => exact hq.elim
  | val m =>
    cases m with
    | lst ds => exact hq.elim
    | dct ds => exact hq.elim
    | gl ds => exact hq.elim
    | adr ds => exact hq.elim
    | fz d =>
      cases d with
      | bool k => exact ⟨k, bool_of rr.rm, q k env1 F1 H1 ok1 l1 hq⟩
      | _ => exact hq.elim
theorem vt_cmp {op : CmpOp} (ho : OpS X (act2 (compareOp op)) g) (ha : VE gp X a fa) (hb : VE gp X b fb) (hm : behindInMarks op b = false := by rfl) : VT gp X (.Compare a [op] [b] pos) (fTB (fOp g (aP fa (aP fb aNil)))) := fun G W t =>
  ⟨fun pins s σ H Qh I hw => (pt_cmpR (ho.opR σ) (ha G W t) (hb G W t) hm).run pins s σ H Qh I (lift_2 (lift_tb hw))⟩
theorem vt_val (ha : VE gp X a fa) (he : ∀ whole, isTrue a X.env whole = (do let v ← whole; standAt a.pos; holding [v] (truthy v)) := by intro _; rfl) : VT gp X a (fTB fa) := fun G W t =>
  PT.imp (pt_val (ha G W t) he) fun σ H Qh hw => lift_tb hw
theorem Pk.tru {K : Fg} {F H : Hp} (l : Le F H) {v : V} {d : D} {k : Bool} (h : Pk K F H v d) (e : truD d = some k) : TruV K v H k := by
  cases h with
  | lst h1 h2 =>
    cases e
    refine .inl ⟨_, .inl (.inl h1), ?_⟩
    cases h2 <;> rfl
  | dct h => cases e
  | fz h =>
    cases h with
    | non => cases e; rfl
    | bl b => cases e; rfl
    | int i => cases e; rfl
    | str x => cases e
    | dct _ _ => cases e
    | lst h1 h2 =>
      cases e
      refine .inl ⟨_, (lsL_le l h1).sqL, ?_⟩
      cases h2 <;> rfl
    | tup h1 h2 =>
      cases e
      refine .inr (.inl ⟨_, sqT_le l h1.sqT, ?_⟩)
      cases h2 <;> rfl
theorem vt_tru (ha : VE gp X a fa) (he : ∀ whole, isTrue a X.env whole = (do let v ← whole; standAt a.pos; holding [v] (truthy v)) := by intro _; rfl) : VT gp X a (fTr fa) := fun G W t =>
  PT.imp (pt_truth (ha G W t) he) fun σ H Qh hw => by
    obtain ⟨F, env, Q, ok, hf, q⟩ := hw
    refine ⟨F, env, _, ok, hf, fun r env1 v F1 H1 ok1 l1 rr hq => ?_⟩
    obtain ⟨x, ex, hq⟩ := bindP_of hq
    obtain ⟨F2, ok2, l2, ax⟩ := rr.peek ok1 ex
    obtain ⟨d, ed, hq⟩ := bindP_of hq
    obtain ⟨k, ek, hq⟩ := bindP_of hq
    exact ⟨k, (ax.pk ok2 ed).tru ok2.sub ek, q k env1 F2 H1 ok2 (l1.trans l2) hq⟩
/-! and, or, not as tests -/
variable {ta tb tc : FT} {rest : List Expr}
def fAnd (ta tb : FT) : FT := fun env Q W => ta env (fun k env1 => if k = true then tb env1 Q W else Q false env1) W
def fOr (ta tb : FT) : FT := fun env Q W => ta env (fun k env1 => if k = true then Q true env1 else tb env1 Q W) W
def fNot (ta : FT) : FT := fun env Q W => ta env (fun k env1 => Q (!k) env1) W
theorem vw_and1 (ha : VT gp X a ta) : VW gp X (.BoolOp .And [a] pos) ta := fun G W t => pw_and1 (ha G W t)
theorem vw_or1 (ha : VT gp X a ta) : VW gp X (.BoolOp .Or [a] pos) ta := fun G W t => pw_or1 (ha G W t)
theorem vw_and (ha : VT gp X a ta) (hb : VW gp X (.BoolOp .And (b :: rest) pos) tb) : VW gp X (.BoolOp .And (a :: b :: rest) pos) (fAnd ta tb) := fun G W t =>
  PW.imp (pw_and (ha G W t) (hb G W t)) fun σ H Qh hw => by
    obtain ⟨F, env, Q, ok, hf, q⟩ := hw
    refine ⟨F, env, _, ok, hf, fun k env1 F1 H1 ok1 l1 hq => ?_⟩
    cases k with
    | true => exact ⟨F1, env1, _, ok1, hq, fun k env2 F2 H2 ok2 l2 hq => q k env2 F2 H2 ok2 (l1.trans l2) hq⟩
    | false => exact q false env1 F1 H1 ok1 l1 hq
theorem vw_or (ha : VT gp X a ta) (hb : VW gp X (.BoolOp .Or (b :: rest) pos) tb) : VW gp X (.BoolOp .Or (a :: b :: rest) pos) (fOr ta tb) := fun G W t =>
  PW.imp (pw_or (ha G W t) (hb G W t)) fun σ H Qh hw => by
    obtain ⟨F, env, Q, ok, hf, q⟩ := hw
    refine ⟨F, env, _, ok, hf, fun k env1 F1 H1 ok1 l1 hq => ?_⟩
    cases k with
    | false => exact ⟨F1, env1, _, ok1, hq, fun k env2 F2 H2 ok2 l2 hq => q k env2 F2 H2 ok2 (l1.trans l2) hq⟩
    | true => exact q true env1 F1 H1 ok1 l1 hq
theorem VW.vt (h : VW gp X a ta) : VT gp X a ta := fun G W t => (h G W t).pt
theorem vt_not (ha : VT gp X a ta) : VT gp X (.UnaryOp .Not a pos) (fNot ta) := fun G W t =>
  PT.imp (pt_not (ha G W t)) fun σ H Qh hw => by
    obtain ⟨F, env, Q, ok, hf, q⟩ := hw
    exact ⟨F, env, _, ok, hf, fun k env1 F1 H1 ok1 l1 hq => q (!k) env1 F1 H1 ok1 l1 hq⟩
/-! .. as values, all parts truths -/
def fAndV (fa fb : FE) : FE := fun env Q W => fTB fa env (fun k env1 => if k = true then fb env1 Q W else Q (.val (.fz (.bool false))) env1) W
def fOrV (fa fb : FE) : FE := fun env Q W => fTB fa env (fun k env1 => if k = true then Q (.val (.fz (.bool true))) env1 else fb env1 Q W) W
def fNotV (fa : FE) : FE := fun env Q W => fTB fa env (fun k env1 => Q (.val (.fz (.bool (!k)))) env1) W
theorem lift_tb' {G : Gh} {W : KX} {σ : L2.St} {H F : Hp} {env : Env} {Q : Bool → Env → Prop} {Qh : V → Hp → Prop} (ok : EnvOk X.K X.mg G F H σ env) (hf : fTB fa env Q W)
    (q : ∀ k env' F' H', EnvOk X.K X.mg G F' H' σ env' → Le F F' → Q k env' → Qh (.bl k) H') : liftE X.K X.mg G W fa σ H Qh := by
  refine ⟨F, env, _, ok, hf, fun r env1 v F1 H1 ok1 l1 rr hq => ?_⟩
  cases r with
  | slot i => exact hq.elim
  | val m =>
    cases m with
    | lst ds => exact hq.elim
    | dct ds => exact hq.elim
    | gl ds => exact hq.elim
    | adr ds => exact hq.elim
    | fz d =>
      cases d with
      | bool k =>
        rw [bool_of rr.rm]
        exact q k env1 F1 H1 ok1 l1 hq
      | _ => exact hq.elim
theorem ve_one {op} (h : VE gp X a fa) : VE gp X (.BoolOp op [a] pos) fa := fun G W t => pe_one (h G W t)
theorem ve_and (ha : VE gp X a fa) (hb : VE gp X (.BoolOp .And (b :: rest) pos) fb) : VE gp X (.BoolOp .And (a :: b :: rest) pos) (fAndV fa fb) := fun G W t =>
  PE.imp (pe_and (ha G W t) (hb G W t)) fun σ H Qh hw => by
    obtain ⟨F, env, Q, ok, hf, q⟩ := hw
    refine lift_tb' ok hf fun k env1 F1 H1 ok1 l1 hq => ⟨k, rfl, ?_⟩
    cases k with
    | true => exact ⟨F1, env1, _, ok1, hq, fun r env2 v F2 H2 ok2 l2 rr hq => q r env2 v F2 H2 ok2 (l1.trans l2) rr hq⟩
    | false => exact q (.val (.fz (.bool false))) env1 _ F1 H1 ok1 l1 (Free.fz (.bl false)) hq
theorem ve_or (ha : VE gp X a fa) (hb : VE gp X (.BoolOp .Or (b :: rest) pos) fb) : VE gp X (.BoolOp .Or (a :: b :: rest) pos) (fOrV fa fb) := fun G W t =>
  PE.imp (pe_or (ha G W t) (hb G W t)) fun σ H Qh hw => by
    obtain ⟨F, env, Q, ok, hf, q⟩ := hw
    refine lift_tb' ok hf fun k env1 F1 H1 ok1 l1 hq => ⟨k, rfl, ?_⟩
    cases k with
    | false => exact ⟨F1, env1, _, ok1, hq, fun r env2 v F2 H2 ok2 l2 rr hq => q r env2 v F2 H2 ok2 (l1.trans l2) rr hq⟩
    | true => exact q (.val (.fz (.bool true))) env1 _ F1 H1 ok1 l1 (Free.fz (.bl true)) hq
theorem ve_not (ha : VE gp X a fa) : VE gp X (.UnaryOp .Not a pos) (fNotV fa) := fun G W t =>
  PE.imp (pe_not (ha G W t)) fun σ H Qh hw => by
    obtain ⟨F, env, Q, ok, hf, q⟩ := hw
    refine lift_tb' ok hf fun k env1 F1 H1 ok1 l1 hq => ⟨k, rfl, ?_⟩
    exact q (.val (.fz (.bool (!k)))) env1 _ F1 H1 ok1 l1 (Free.fz (.bl (!k))) hq
/-! a if t else b -/
def fIf (t : FT) (fa fb : FE) : FE := fun env Q W => t env (fun k env1 => if k = true then fa env1 Q W else fb env1 Q W) W
theorem ve_if (hc : VT gp X c tc) (ha : VE gp X a fa) (hb : VE gp X b fb) : VE gp X (.IfExp c a b pos) (fIf tc fa fb) := fun G W t =>
  PE.imp (pe_ifExp (hc G W t) (ha G W t) (hb G W t)) fun σ H Qh hw => by
    obtain ⟨F, env, Q, ok, hf, q⟩ := hw
    refine ⟨F, env, _, ok, hf, fun k env1 F1 H1 ok1 l1 hq => ?_⟩
    cases k with
    | true => exact ⟨F1, env1, _, ok1, hq, fun r env2 v F2 H2 ok2 l2 rr hq => q r env2 v F2 H2 ok2 (l1.trans l2) rr hq⟩
    | false => exact ⟨F1, env1, _, ok1, hq, fun r env2 v F2 H2 ok2 l2 rr hq => q r env2 v F2 H2 ok2 (l1.trans l2) rr hq⟩
/-! a < b < c -/
def fChain (g g' : List D → (M → Prop) → Prop) (fa fb fc : FE) : FE := fun env Q W =>
  fa env (fun ra env1 => bindP (pkR ra) fun xa => fb env1 (fun rb env2 => bindP (pkR rb) fun xb => bindP (pkAs env2 [xa, xb]) fun ds => g ds fun m => match m with
    | .fz (.bool k) => if k = true then fc env2 (fun rc env3 => bindP (pkR rc) fun xc => bindP (pkAs env3 [xb, xc]) fun es => g' es fun m => Q (.val m) env3) W else Q (.val (.fz (.bool false))) env2
    | _ => False) W) W
theorem lift_chain {G : Gh} {W : KX} {σ : L2.St} {H : Hp} {Qh : VK} (hw : liftE X.K X.mg G W (fChain g g' fa fb fc) σ H Qh) :
    tChain (fun x y H Q => rOp X σ g [x, y] H Q) (fun x y H Q => rOp X σ g' [x, y] H Q) (liftE X.K X.mg G W fa) (liftE X.K X.mg G W fb) (liftE X.K X.mg G W fc) σ H Qh := by
  obtain ⟨F, env, Q, ok, hf, q⟩ := hw
  refine ⟨F, env, _, ok, hf, fun r env1 v F1 H1 ok1 l1 rr hq => ?_⟩
  obtain ⟨x, ex, hq⟩ := bindP_of hq
  obtain ⟨F2, ok2, l2, ax⟩ := rr.peek ok1 ex
  refine ⟨F2, env1, _, ok2, hq, fun r env2 v2 F3 H2 ok3 l3 rr2 hq => ?_⟩
  obtain ⟨y, ey, hq⟩ := bindP_of hq
  obtain ⟨F4, ok4, l4, ay⟩ := rr2.peek ok3 ey
  obtain ⟨ds, e, hq⟩ := bindP_of hq
  refine ⟨G, F4, env2, ds, _, ok4, (ArAll.cons (ax.le (l3.trans l4)) (.cons ay .nil)).pk ok4 e, hq, fun m z F5 H5 ok5 l5 fr hq => ?_⟩
  have l15 := ((l1.trans l2).trans (l3.trans l4)).trans l5
  cases m with
  | lst ds => exact hq.elim
  | dct ds => exact hq.elim
  | gl ds => exact hq.elim
  | adr ds => exact hq.elim
  | fz d =>
    cases d with
    | bool k =>
      refine ⟨k, bool_of fr.rm, ?_⟩
      cases k with
      | false => exact q (.val (.fz (.bool false))) env2 _ F5 H5 ok5 l15 (Free.fz (.bl false)) hq
      | true =>
        refine ⟨F5, env2, _, ok5, hq, fun r env3 v3 F6 H6 ok6 l6 rr3 hq => ?_⟩
        obtain ⟨z, ez, hq⟩ := bindP_of hq
        obtain ⟨F7, ok7, l7, az⟩ := rr3.peek ok6 ez
        obtain ⟨es, ee, hq⟩ := bindP_of hq
        exact ⟨G, F7, env3, es, _, ok7, (ArAll.cons (ay.le ((l5.trans l6).trans l7)) (.cons az .nil)).pk ok7 ee, hq, fun m v F' H' ok' l fr hq => q (.val m) _ v F' H' ok' ((l15.trans (l6.trans l7)).trans l) fr hq⟩
    | _ => exact hq.elim
theorem ve_chain {op op' : CmpOp} (ho : OpS X (act2 (compareOp op)) g) (ho' : OpS X (act2 (compareOp op')) g') (ha : VE gp X a fa) (hb : VE gp X b fb) (hc : VE gp X c fc) (hm : lastMarks [op, op'] [b, c] = false := by with_unfolding_all rfl) :
    VE gp X (.Compare a [op, op'] [b, c] pos) (fChain g g' fa fb fc) := fun G W t =>
  ⟨fun pins s σ H Qh I hw => (pe_chain (ho.opR σ) (ho'.opR σ) (ha G W t) (hb G W t) (hc G W t) hm).run pins s σ H Qh I (lift_chain hw)⟩
theorem vt_chain {op op' : CmpOp} (ho : OpS X (act2 (compareOp op)) g) (ho' : OpS X (act2 (compareOp op')) g') (ha : VE gp X a fa) (hb : VE gp X b fb) (hc : VE gp X c fc) (hm : lastMarks [op, op'] [b, c] = false := by with_unfolding_all rfl) :
    VT gp X (.Compare a [op, op'] [b, c] pos) (fTB (fChain g g' fa fb fc)) := fun G W t =>
  ⟨fun pins s σ H Qh I hw => (pt_chain (ho.opR σ) (ho'.opR σ) (ha G W t) (hb G W t) (hc G W t) hm).run pins s σ H Qh I (lift_chain (lift_tb hw))⟩
end

/-! ### calls of built-ins by name -/
section
variable {X : Cx} {x : Str} {p pos : Pos} {e : Expr} {es : List Expr} {fa : FA} {id T : String} {g : List D → (M → Prop) → Prop}
theorem ve_callB (ho : OpS X (fun us => call (.builtin id) us) g) (hg : Gl X x) (hm : X.mg x = none) (hv : bootBuiltins x = some (.builtin id)) (ha : VA gp X (e :: es) fa) (hn : x ≠ "__name__" := by decide) (hdb : (x == ("__debug__" : Str)) = false := by decide)
    (he : starEach (e :: es) X.env = (false, eval e X.env) :: starEach es X.env := by rfl) (hpl : (backTo pos (starEach es X.env)).any (·.1) = false := by rfl) : VE gp X (.Call (.Name x p) (e :: es) [] pos) (fOp g fa) := fun G W t =>
  ⟨fun pins s σ H Qh I hw => (pe_callB (ho.callR σ) hg hm hv (ha G W t) hn hdb he hpl).run pins s σ H Qh I (lift_op hw)⟩
theorem ve_callT (ho : OpS X (fun us => call (.type T) us) g) (hg : Gl X x) (hm : X.mg x = none) (hv : bootBuiltins x = some (.type T)) (ha : VA gp X (e :: es) fa) (hn : x ≠ "__name__" := by decide) (hdb : (x == ("__debug__" : Str)) = false := by decide)
    (he : starEach (e :: es) X.env = (false, eval e X.env) :: starEach es X.env := by rfl) (hpl : (backTo pos (starEach es X.env)).any (·.1) = false := by rfl) : VE gp X (.Call (.Name x p) (e :: es) [] pos) (fOp g fa) := fun G W t =>
  ⟨fun pins s σ H Qh I hw => (pe_callTy (ho.callR σ) hg hm hv (ha G W t) hn hdb he hpl).run pins s σ H Qh I (lift_op hw)⟩
end
end VL

set_option maxHeartbeats 4000000
/-! VlE: operations on data. -/
namespace VL
open PySem PySem.Spec PyProof.Rows L2
open PySem.W (alike dataLt dataLe dataLe_int)

/-- plain data (no dict), at most n deep -/
def Pl : Nat → D → Prop
  | _, .none => True
  | _, .bool _ => True
  | _, .int _ => True
  | _, .str _ => True
  | 0, .list _ => False
  | 0, .tuple _ => False
  | _, .dict _ => False
  | n + 1, .list xs => ∀ x, x ∈ xs → Pl n x
  | n + 1, .tuple xs => ∀ x, x ∈ xs → Pl n x
@[simp] theorem Pl_none (n : Nat) : Pl n .none = True := by cases n <;> rfl
@[simp] theorem Pl_bool (n : Nat) (b : Bool) : Pl n (.bool b) = True := by cases n <;> rfl
@[simp] theorem Pl_int (n : Nat) (b : Int) : Pl n (.int b) = True := by cases n <;> rfl
@[simp] theorem Pl_str (n : Nat) (b : Str) : Pl n (.str b) = True := by cases n <;> rfl
@[simp] theorem Pl_dict (n : Nat) (b : List (D × D)) : Pl n (.dict b) = False := by cases n <;> rfl
@[simp] theorem Pl_list (n : Nat) (xs : List D) : Pl n (.list xs) = (0 < n ∧ ∀ x, x ∈ xs → Pl (n - 1) x) := by
  cases n with
  | zero => exact propext ⟨fun h => h.elim, fun h => absurd h.1 (Nat.lt_irrefl _)⟩
  | succ n => exact propext ⟨fun h => ⟨Nat.succ_pos _, h⟩, fun h => h.2⟩
@[simp] theorem Pl_tuple (n : Nat) (xs : List D) : Pl n (.tuple xs) = (0 < n ∧ ∀ x, x ∈ xs → Pl (n - 1) x) := by
  cases n with
  | zero => exact propext ⟨fun h => h.elim, fun h => absurd h.1 (Nat.lt_irrefl _)⟩
  | succ n => exact propext ⟨fun h => ⟨Nat.succ_pos _, h⟩, fun h => h.2⟩
mutual
theorem Pl.plain : ∀ (n : Nat) (d : D), Pl n d → d.plain = true ∧ d.depth ≤ n
  | n, .none, _ => ⟨rfl, by simp [PyData.depth]⟩
  | n, .bool _, _ => ⟨rfl, by simp [PyData.depth]⟩
  | n, .int _, _ => ⟨rfl, by simp [PyData.depth]⟩
  | n, .str _, _ => ⟨rfl, by simp [PyData.depth]⟩
  | n, .dict _, h => by cases n <;> exact h.elim
  | n, .list xs, h => by
    rw [Pl_list] at h
    obtain ⟨h1, h2⟩ := Pl.plainAll (n - 1) xs h.2
    refine ⟨by simpa [PyData.plain] using h1, ?_⟩
    simp only [PyData.depth]
    have := h.1
    omega
  | n, .tuple xs, h => by
    rw [Pl_tuple] at h
    obtain ⟨h1, h2⟩ := Pl.plainAll (n - 1) xs h.2
    refine ⟨by simpa [PyData.plain] using h1, ?_⟩
    simp only [PyData.depth]
    have := h.1
    omega
theorem Pl.plainAll : ∀ (n : Nat) (xs : List D), (∀ x, x ∈ xs → Pl n x) → PyData.plainAll xs = true ∧ PyData.depthAll xs ≤ n
  | n, [], _ => ⟨rfl, by simp [PyData.depthAll]⟩
  | n, x :: xs, h => by
    obtain ⟨h1, h2⟩ := Pl.plain n x (h x List.mem_cons_self)
    obtain ⟨h3, h4⟩ := Pl.plainAll n xs fun y hy => h y (List.mem_cons_of_mem _ hy)
    refine ⟨by rw [PyData.plainAll, h1, h3]; rfl, ?_⟩
    simp only [PyData.depthAll]
    omega
end

/-! ### what shown values are -/
section
variable {K : Fg} {F H : Hp} {v : V}
theorem Pk.scal_non (h : Pk K F H v .none) : v = .non := by cases h with | fz h => cases h; rfl
theorem Pk.scal_bl {b : Bool} (h : Pk K F H v (.bool b)) : v = .bl b := by cases h with | fz h => cases h; rfl
theorem Pk.scal_int {i : Int} (h : Pk K F H v (.int i)) : v = .int i := by cases h with | fz h => cases h; rfl
theorem Pk.scal_str {x : Str} (h : Pk K F H v (.str x)) : v = .str x := by cases h with | fz h => cases h; rfl
theorem Pk.list (l : Le F H) {ds : List D} (h : Pk K F H v (.list ds)) : ∃ a vs, v = .ref a ∧ LsL K H a vs ∧ DtAll K F vs ds := by
  cases h with
  | fz h => cases h with | lst h1 h2 => exact ⟨_, _, rfl, lsL_le l h1, h2⟩
  | lst h1 h2 => exact ⟨_, _, rfl, .inl (.inl h1), h2⟩
theorem Pk.tuple {ds : List D} (h : Pk K F H v (.tuple ds)) : ∃ a vs, v = .ref a ∧ TpL K F a vs ∧ DtAll K F vs ds := by
  cases h with
  | fz h => cases h with | tup h1 h2 => exact ⟨_, _, rfl, h1, h2⟩
theorem PkAll.one {d : D} {vs : List V} (h : PkAll K F H vs [d]) : ∃ v, vs = [v] ∧ Pk K F H v d := by
  cases h with | cons h r => cases r; exact ⟨_, rfl, h⟩
theorem PkAll.two {d e : D} {vs : List V} (h : PkAll K F H vs [d, e]) : ∃ v w, vs = [v, w] ∧ Pk K F H v d ∧ Pk K F H w e := by
  cases h with | cons h r => cases r with | cons h' r => cases r; exact ⟨_, _, rfl, h, h'⟩
theorem PkAll.three {d e f : D} {vs : List V} (h : PkAll K F H vs [d, e, f]) : ∃ v w z, vs = [v, w, z] ∧ Pk K F H v d ∧ Pk K F H w e ∧ Pk K F H z f := by
  cases h with | cons h r => cases r with | cons h' r => cases r with | cons h2 r => cases r; exact ⟨_, _, _, rfl, h, h', h2⟩
theorem PkAll.zero {vs : List V} (h : PkAll K F H vs []) : vs = [] := by cases h; rfl
end
section
variable {X : Cx} {G : Gh} {pins : List (Addr × Obj)} {σ τ : L2.St} {F H : Hp} {env : Env} {s : Shared} {v : V} {u : Value} {d : D}
/-- plain data that is looked at reads -/
theorem Pk.reads (I : Inv X pins τ H s) (l : Le F H) (h : Pk X.K F H v d) (p : d.plain = true) (r : RelV v u) : ∃ as, Reads s.heap u d as := by
  cases h with
  | fz h => exact Dt.reads I l h r
  | dct h => cases p
  | lst h1 h2 =>
    cases r
    obtain ⟨its, rv, ⟨o, n, ho, hc, _, hd⟩, _⟩ := I.list (.inl (.inl h1))
    obtain ⟨as, hr⟩ := DtAll.reads I l h2 rv
    exact ⟨_, Reads.list ho hc hd hr⟩
/-- the post that an operation is to reach -/
def PostM (X : Cx) (pins : List (Addr × Obj)) (τ σ : L2.St) (G : Gh) (F : Hp) (env : Env) (Q : M → Prop) (u : Value) (s' : Shared) : Prop :=
  ∃ m v F' H', Inv X pins τ H' s' ∧ RelV v u ∧ EnvOk X.K X.mg G F' H' σ env ∧ Le F F' ∧ Free X.K X.mg G F' H' σ env m v ∧ Q m
theorem fin_dt {Q : M → Prop} {s' : Shared} (I : Inv X pins τ H s') (ok : EnvOk X.K X.mg G F H σ env) (r : RelV v u) (h : Dt X.K F v d) (q : Q (.fz d)) : PostM X pins τ σ G F env Q u s' := ⟨.fz d, v, F, H, I, r, ok, Le.refl _, Free.fz h, q⟩
theorem fin_bool {Q : M → Prop} {s' : Shared} {k : Bool} (I : Inv X pins τ H s') (ok : EnvOk X.K X.mg G F H σ env) (q : Q (.fz (.bool k))) : PostM X pins τ σ G F env Q (.bool k) s' := fin_dt (v := .bl k) I ok rfl (.bl k) q
theorem fin_int {Q : M → Prop} {s' : Shared} {i : Int} {t : Tok} (I : Inv X pins τ H s') (ok : EnvOk X.K X.mg G F H σ env) (q : Q (.fz (.int i))) : PostM X pins τ σ G F env Q (.int i t) s' := fin_dt (v := .int i) I ok ⟨t, rfl⟩ (.int i) q
theorem fin_str {Q : M → Prop} {s' : Shared} {x : Str} {t : Tok} (I : Inv X pins τ H s') (ok : EnvOk X.K X.mg G F H σ env) (q : Q (.fz (.str x))) : PostM X pins τ σ G F env Q (.str x t) s' := fin_dt (v := .str x) I ok ⟨t, rfl⟩ (.str x) q
/-- a new list -/
theorem fin_lst {Q : M → Prop} {h' : Heap} {t' : Nat} {a : Addr} {vs : List V} {us : List Value} {n : Nat} {ds : List D} (I : Inv X pins τ H s) (ok : EnvOk X.K X.mg G F H σ env) (k : ∀ b u, s.heap.get? b = some u → h'.get? b = some u) (hp : s.heap.objs.size ≤ a)
    (r : Vals vs us) (z : vs.length ≤ sizeLine) (e : h'.get? a = some { cls := .type "list", data := .seq us.toArray n }) (h : DtAll X.K F vs ds) (q : Q (.lst ds)) : PostM X pins τ σ G F env Q (.ref a) { s with heap := h', toks := t' } := by
  obtain ⟨ok2, fr⟩ := ok.newLst (I.hok.fresh hp) h
  exact ⟨.lst ds, .ref a, F, upd H a (.lst vs), I.laid (t' := t') k hp ⟨z, us, n, r, e⟩, rfl, ok2, Le.refl _, fr, q⟩
/-- a new tuple -/
theorem fin_tup {Q : M → Prop} {h' : Heap} {t' : Nat} {a : Addr} {vs : List V} {us : List Value} {ds : List D} (I : Inv X pins τ H s) (ok : EnvOk X.K X.mg G F H σ env) (k : ∀ b u, s.heap.get? b = some u → h'.get? b = some u) (hp : s.heap.objs.size ≤ a)
    (r : Vals vs us) (z : vs.length ≤ sizeLine) (e : h'.get? a = some (tupO us)) (h : DtAll X.K F vs ds) (q : Q (.fz (.tuple ds))) : PostM X pins τ σ G F env Q (.ref a) { s with heap := h', toks := t' } := by
  obtain ⟨ok2, l2, fr⟩ := ok.newTup (us := us) (I.hok.fresh hp) h
  exact ⟨.fz (.tuple ds), .ref a, _, _, Inv.laidT I k hp r z e, rfl, ok2, l2, fr, q⟩
theorem Inv.lstR (I : Inv X pins τ H s) {a : Addr} {vs : List V} (h : LsL X.K H a vs) : vs.length ≤ sizeLine ∧ ∃ (its : List Value) (n : Nat), Vals vs its ∧ s.heap.get? a = some { cls := .type "list", data := .seq its.toArray n } := by
  rcases h with h | ⟨us, n, e, z, r⟩
  · exact h.ok I.hok
  · exact ⟨by rw [r.length]; exact z, us, n, r, I.kIn a _ e⟩
end

/-! ### integers, texts, lists, tuples: + - * // % ** -/
def gAdd : List D → (M → Prop) → Prop
  | [.int i, .int j], k => k (.fz (.int (i + j)))
  | [.str x, .str y], k => x.length + y.length ≤ 16777216 ∧ k (.fz (.str (x ++ y)))
  | [.list xs, .list ys], k => xs.length + ys.length ≤ 16777216 ∧ k (.lst (xs ++ ys))
  | [.tuple xs, .tuple ys], k => xs.length + ys.length ≤ 16777216 ∧ k (.fz (.tuple (xs ++ ys)))
  | _, _ => False
def gSub : List D → (M → Prop) → Prop
  | [.int i, .int j], k => k (.fz (.int (i - j)))
  | _, _ => False
/-- one factor below 2^64 -/
def gMul : List D → (M → Prop) → Prop
  | [.int i, .int j], k => ((-(2 ^ 64) < i ∧ i < 2 ^ 64) ∨ (-(2 ^ 64) < j ∧ j < 2 ^ 64)) ∧ k (.fz (.int (i * j)))
  | _, _ => False
def gDiv : List D → (M → Prop) → Prop
  | [.int i, .int j], k => 0 < j ∧ j < 1073741824 ∧ k (.fz (.int (i / j)))
  | _, _ => False
def gMod : List D → (M → Prop) → Prop
  | [.int i, .int j], k => 0 < j ∧ k (.fz (.int (i % j)))
  | _, _ => False
def gPow : List D → (M → Prop) → Prop
  | [.int i, .int j], k => 0 ≤ j ∧ j ≤ 1000000 ∧ i.natAbs < 2 ^ 64 ∧ k (.fz (.int (i ^ j.toNat)))
  | _, _ => False
def gNeg : List D → (M → Prop) → Prop
  | [.int i], k => k (.fz (.int (-i)))
  | _, _ => False
section
variable {X : Cx}
theorem os_of_opR {f : Value → Value → Sem Value} {g : List D → (M → Prop) → Prop}
    (h : ∀ (G : Gh) (pins : List (Addr × Obj)) (s : Shared) (τ σ : L2.St) (F H : Hp) (env : Env) (d e : D) (v w : V) (u u' : Value) (Q : M → Prop), Inv X pins τ H s → EnvOk X.K X.mg G F H σ env → Pk X.K F H v d → Pk X.K F H w e → RelV v u → RelV w u' → g [d, e] Q →
      wpAny (model X.prog X.w) X.A (f u u') (PostM X pins τ σ G F env Q) X.xe s) (hg : ∀ ds Q, g ds Q → ∃ d e, ds = [d, e]) : OpS X (act2 f) g := fun G pins s τ σ F H env vs us ds Q I ok pk r q => by
  obtain ⟨d, e, rfl⟩ := hg ds Q q
  obtain ⟨v, w, rfl, p1, p2⟩ := pk.two
  obtain ⟨u, u', rfl, r1, r2⟩ := vals2 r
  exact h G pins s τ σ F H env d e v w u u' Q I ok p1 p2 r1 r2 q
theorem two_add : ∀ ds Q, gAdd ds Q → ∃ d e, ds = [d, e]
  | [], _, h => h.elim
  | [_], _, h => by unfold gAdd at h; split at h <;> first | exact h.elim | simp_all
  | [d, e], _, _ => ⟨d, e, rfl⟩
  | _ :: _ :: _ :: _, _, h => by unfold gAdd at h; split at h <;> first | exact h.elim | simp_all
theorem os_add : OpS X (act2 (binaryOp .Add)) gAdd := os_of_opR (fun G pins s τ σ F H env d e v w u u' Q I ok p1 p2 r1 r2 q => by
  unfold gAdd at q
  split at q
  · rename_i e1
    cases e1
    cases p1.scal_int; cases p2.scal_int
    obtain ⟨t, rfl⟩ := r1
    obtain ⟨t', rfl⟩ := r2
    exact add_int (fin_int (I.tok _) ok q)
  · rename_i k x y e1
    cases e1
    cases p1.scal_str; cases p2.scal_str
    exact thn (op_add_str pins s τ H (.str x) (.str y) u u' (fun z H' => H' = H ∧ z = .str (x ++ y)) I r1 r2 ⟨x, y, rfl, rfl, line_of q.1, rfl, rfl⟩) fun z s' ⟨v, H', I', rv, hv⟩ => by
      obtain ⟨rfl, rfl⟩ := hv
      exact fin_dt I' ok rv (.str _) q.2
  · rename_i k xs ys e1
    cases e1
    obtain ⟨a, vs, rfl, h1, h2⟩ := p1.list ok.sub
    obtain ⟨b, ws, rfl, h3, h4⟩ := p2.list ok.sub
    cases r1; cases r2
    obtain ⟨z1, its1, n1, v1, e1⟩ := Inv.lstR I h1
    obtain ⟨z2, its2, n2, v2, e2⟩ := Inv.lstR I h3
    have l1 := v1.length; have l2 := v2.length; have l3 := h2.length; have l4 := h4.length
    have hs : sizeLine = 16777216 := sizeLine_eq
    refine PySem.P.add_list e1 e2 ?_ (by rw [List.size_toArray, List.size_toArray]; omega)
    have ea : its1.toArray ++ its2.toArray = (its1 ++ its2).toArray := by simp
    rw [ea]
    exact fin_lst I ok (fun b o e => Heap.get?_push_of_some _ e) (Nat.le_refl _) (v1.append v2) (by rw [List.length_append]; omega) (Heap.get?_push_size _ rfl) (h2.append h4) q.2
  · rename_i k xs ys e1
    cases e1
    obtain ⟨a, vs, rfl, h1, h2⟩ := p1.tuple
    obtain ⟨b, ws, rfl, h3, h4⟩ := p2.tuple
    cases r1; cases r2
    obtain ⟨its1, v1, t1, z1⟩ := I.tuple (sqT_le ok.sub h1.sqT)
    obtain ⟨its2, v2, t2, z2⟩ := I.tuple (sqT_le ok.sub h3.sqT)
    have l1 := v1.length; have l2 := v2.length; have l3 := h2.length; have l4 := h4.length
    have hs : sizeLine = 16777216 := sizeLine_eq
    by_cases hx : its1 = []
    · subst hx
      have hxs : xs = [] := List.eq_nil_of_length_eq_zero (by have e : vs.length = 0 := l1; omega)
      subst hxs
      refine cat_tup0 t1 t2 (fin_dt (v := .ref b) I ok rfl (.tup h3 h4) ?_)
      exact q.2
    · refine HT.cat_tup t1 t2 hx (fun z => ?_) (fun z => ?_) (by omega)
      · subst z
        have hys : ys = [] := List.eq_nil_of_length_eq_zero (by have e : ws.length = 0 := l2; omega)
        subst hys
        refine fin_dt (v := .ref a) I ok rfl (.tup h1 h2) ?_
        have := q.2
        rw [List.append_nil] at this
        exact this
      · refine fin_tup I ok (fun b o e => Heap.get?_push_of_some _ e) (Nat.le_refl _) (v1.append v2) (by rw [List.length_append]; omega) ?_ (h2.append h4) q.2
        exact Heap.get?_push_size _ rfl
  · exact q.elim) two_add

theorem two_gen {g : List D → (M → Prop) → Prop} (h0 : ∀ Q, ¬ g [] Q) (h1 : ∀ d Q, ¬ g [d] Q) (h3 : ∀ d e f r Q, ¬ g (d :: e :: f :: r) Q) : ∀ ds Q, g ds Q → ∃ d e, ds = [d, e]
  | [], Q, h => (h0 Q h).elim
  | [d], Q, h => (h1 d Q h).elim
  | [d, e], _, _ => ⟨d, e, rfl⟩
  | d :: e :: f :: r, Q, h => (h3 d e f r Q h).elim
theorem os_sub : OpS X (act2 (binaryOp .Sub)) gSub := os_of_opR (fun G pins s τ σ F H env d e v w u u' Q I ok p1 p2 r1 r2 q => by
  unfold gSub at q
  split at q
  · rename_i e1
    cases e1
    cases p1.scal_int; cases p2.scal_int
    obtain ⟨t, rfl⟩ := r1
    obtain ⟨t', rfl⟩ := r2
    exact sub_int (fin_int (I.tok _) ok q)
  · exact q.elim) (two_gen (fun _ h => h) (fun d _ h => by cases d <;> exact h) fun d e f r Q h => by cases d <;> cases e <;> exact h)
theorem os_div : OpS X (act2 (binaryOp .FloorDiv)) gDiv := os_of_opR (fun G pins s τ σ F H env d e v w u u' Q I ok p1 p2 r1 r2 q => by
  unfold gDiv at q
  split at q
  · rename_i k i j e1
    cases e1
    cases p1.scal_int; cases p2.scal_int
    exact thn (op_fdiv pins s τ H (.int i) (.int j) u u' (fun z H' => H' = H ∧ z = .int (i / j)) I r1 r2 ⟨i, j, rfl, rfl, ⟨q.1, q.2.1⟩, rfl, rfl⟩) fun z s' ⟨v, H', I', rv, hv⟩ => by
      obtain ⟨rfl, rfl⟩ := hv
      exact fin_dt I' ok rv (.int _) q.2.2
  · exact q.elim) (two_gen (fun _ h => h) (fun d _ h => by cases d <;> exact h) fun d e f r Q h => by cases d <;> cases e <;> exact h)
theorem os_mod : OpS X (act2 (binaryOp .Mod)) gMod := os_of_opR (fun G pins s τ σ F H env d e v w u u' Q I ok p1 p2 r1 r2 q => by
  unfold gMod at q
  split at q
  · rename_i k i j e1
    cases e1
    cases p1.scal_int; cases p2.scal_int
    exact thn (op_mod pins s τ H (.int i) (.int j) u u' (fun z H' => H' = H ∧ z = .int (i % j)) I r1 r2 ⟨i, j, rfl, rfl, q.1, rfl, rfl⟩) fun z s' ⟨v, H', I', rv, hv⟩ => by
      obtain ⟨rfl, rfl⟩ := hv
      exact fin_dt I' ok rv (.int _) q.2
  · exact q.elim) (two_gen (fun _ h => h) (fun d _ h => by cases d <;> exact h) fun d e f r Q h => by cases d <;> cases e <;> exact h)
theorem os_pow : OpS X (act2 (binaryOp .Pow)) gPow := os_of_opR (fun G pins s τ σ F H env d e v w u u' Q I ok p1 p2 r1 r2 q => by
  unfold gPow at q
  split at q
  · rename_i k i j e1
    cases e1
    cases p1.scal_int; cases p2.scal_int
    exact thn (op_pow pins s τ H (.int i) (.int j) u u' (fun z H' => H' = H ∧ z = .int (i ^ j.toNat)) I r1 r2 ⟨i, j, rfl, rfl, ⟨q.1, q.2.1, q.2.2.1⟩, rfl, rfl⟩) fun z s' ⟨v, H', I', rv, hv⟩ => by
      obtain ⟨rfl, rfl⟩ := hv
      exact fin_dt I' ok rv (.int _) q.2.2.2
  · exact q.elim) (two_gen (fun _ h => h) (fun d _ h => by cases d <;> exact h) fun d e f r Q h => by cases d <;> cases e <;> exact h)
theorem tuple_mulOne (l : Addr) (items : Array Value) (n : Nat) (sl : Array (Option Value)) (u : Tok) :
    Meets (Builtin.«tuple.__mul__» ⟨[.ref l, .int 1 u], []⟩) (fun _ R s => s.heap.get? l = some { cls := .type "tuple", dict := none, data := .seq items n, slots := sl } ∧ R (.ok (.ret (.ref l))) s) :=
  .of_wp fun prog w A R s h => by
    obtain ⟨hp, g, d, tk, os⟩ := s
    obtain ⟨hl, h⟩ := h
    have f1 := AutoSeq1.idx_int
    have c1 : (items.isEmpty || (1 : Int) == 1) = true := by simp
    wp_walk using wpAny_loadPart' hl
    repeat (first
      | (refine wpAny_ite_false (decide_eq_false (by decide)) ?_; wp_walk using wpAny_loadPart' hl)
      | (refine wpAny_ite_true (decide_eq_true c1) ?_; wp_walk using wpAny_loadPart' hl))
    exact ⟨_, rfl, h⟩

theorem mul_gMul_tuple {xs : List D} {j : Int} : True := trivial
/-- a tuple or list times a count -/
def gRepT : List D → (M → Prop) → Prop
  | [.tuple xs, .int j], k => xs ≠ [] ∧ 1 ≤ j ∧ j ≤ 1000 ∧ xs.length ≤ 1000 ∧ k (.fz (.tuple (List.replicate j.toNat xs).flatten))
  | [.list xs, .int j], k => 0 ≤ j ∧ j ≤ 1000000 ∧ xs.length * j.toNat ≤ 16777216 ∧ k (.lst (List.replicate j.toNat xs).flatten)
  | [.int i, .int j], k => ((-(2 ^ 64) < i ∧ i < 2 ^ 64) ∨ (-(2 ^ 64) < j ∧ j < 2 ^ 64)) ∧ k (.fz (.int (i * j)))
  | _, _ => False
theorem DtAll.rep {K : Fg} {F : Hp} {vs : List V} {ds : List D} (h : DtAll K F vs ds) : ∀ k : Nat, DtAll K F (List.replicate k vs).flatten (List.replicate k ds).flatten
  | 0 => .nil
  | k + 1 => by
    rw [List.replicate_succ, List.replicate_succ, List.flatten_cons, List.flatten_cons]
    exact h.append (DtAll.rep h k)
theorem os_mul : OpS X (act2 (binaryOp .Mult)) gRepT := os_of_opR (fun G pins s τ σ F H env d e v w u u' Q I ok p1 p2 r1 r2 q => by
  have hs : sizeLine = 16777216 := sizeLine_eq
  unfold gRepT at q
  split at q
  · rename_i Q xs j e1
    cases e1
    obtain ⟨q1, q2, q3, q4, q⟩ := q
    obtain ⟨a, vs, rfl, h1, h2⟩ := p1.tuple
    cases p2.scal_int
    cases r1
    obtain ⟨t, rfl⟩ := r2
    have l3 := h2.length
    by_cases hj : j = 1
    · subst hj
      obtain ⟨⟨cls, dd, data, sl⟩, ho, hc, hd⟩ := TpL.obj I ok.sub h1
      obtain ⟨its1, v1, ⟨o, ho', hc', n, hd'⟩, z1⟩ := I.tuple (sqT_le ok.sub h1.sqT)
      rw [ho] at ho'
      cases ho'
      simp only at hc hd hd'
      subst hc hd hd'
      refine wpAny_binaryOp_repeat_ref (T := "tuple") (U := "int") (by decide) ⟨_, ho, rfl⟩ (fun s' => typeIs_int s' 1 t) noFill_tuple_mul PySem.F.fills_int_mul PySem.F.slot_int_rmul repeat_tuple PySem.F.slot_int_index.lookup
        (call_meets PySem.F.slot_int_rmul (typeIs_int s 1 t) PySem.F.entry_int_rmul (PySem.F.args_int_rmul_2 _ _) (int_rmul_tuple 1 t a its1.toArray n none sl)
          ⟨ho, rfl, ⟨_, ho, rfl⟩, call_meets PySem.F.slot_tuple_mul ⟨_, ho, rfl⟩ PySem.F.entry_tuple_mul (PySem.F.args_tuple_mul_2 _ _) (tuple_mulOne a its1.toArray n sl t) ⟨ho, ?_⟩⟩)
      refine fin_dt (v := .ref a) I ok rfl (.tup h1 h2) ?_
      have e : (List.replicate (1 : Int).toNat xs).flatten = xs := by
        show (List.replicate 1 xs).flatten = xs
        simp
      rw [e] at q
      exact q
    · obtain ⟨its, r, ⟨⟨cls, dd, data, sl⟩, ho, hc, n, hd⟩, z1⟩ := I.tuple (sqT_le ok.sub h1.sqT)
      simp only at hc hd
      subst hc hd
      have hle : its.length = vs.length := r.length.symm
      have hn : its ≠ [] := fun e => q1 (by
        rw [e] at hle
        exact List.eq_nil_of_length_eq_zero (by rw [← l3]; exact hle.symm))
      have hi : its.toArray.isEmpty = false := by
        cases its with
        | nil => exact absurd rfl hn
        | cons a b => rfl
      have hsz0 : its.toArray.size = xs.length := by rw [List.size_toArray, hle, l3]
      have hm : ((its.toArray.size : Nat) : Int) * j ≤ 1000000 := by
        rw [hsz0]
        have a1 : ((xs.length : Nat) : Int) * j ≤ 1000 * j := Int.mul_le_mul_of_nonneg_right (by omega) (by omega)
        omega
      have flen : (List.replicate j.toNat its).flatten.length ≤ sizeLine := by
        rw [PyProof.Rows.lm_len_rep_flat, hle, l3, sizeLine_eq]
        have a1 : j.toNat * xs.length ≤ 1000 * 1000 := Nat.mul_le_mul (by omega) q4
        omega
      have c0 : (decide (j < -(2 ^ 63)) || decide (j ≥ 2 ^ 63)) = false := by
        rw [decide_eq_false (by omega), decide_eq_false (by omega)] <;> rfl
      have c1 : (its.toArray.isEmpty || j == 1) = false := by
        rw [hi, Bool.false_or]
        exact beq_eq_false_iff_ne.mpr (by omega)
      have c2 : (decide (j ≤ 0) || its.toArray.isEmpty) = false := by
        rw [hi, Bool.or_false]
        exact decide_eq_false (by omega)
      have c4 : Builtin.Tuple.tupleTooMany (((its.toArray.size : Nat) : Int) * j) = false := by
        unfold Builtin.Tuple.tupleTooMany
        rw [sizeLine_eq]
        exact decide_eq_false (by omega)
      refine wpAny_binaryOp_repeat_ref (T := "tuple") (U := "int") (by decide) ⟨_, ho, rfl⟩ (fun s' => typeIs_int s' j t) noFill_tuple_mul PySem.F.fills_int_mul PySem.F.slot_int_rmul repeat_tuple PySem.F.slot_int_index.lookup
        (call_meets PySem.F.slot_int_rmul (typeIs_int s j t) PySem.F.entry_int_rmul (PySem.F.args_int_rmul_2 _ _) (int_rmul_tuple j t a its.toArray n dd sl)
          ⟨ho, rfl, ⟨_, ho, rfl⟩, call_meets PySem.F.slot_tuple_mul ⟨_, ho, rfl⟩ PySem.F.entry_tuple_mul (PySem.F.args_tuple_mul_2 _ _) (tuple_mulW a its.toArray n dd sl j t c0 c1 c2 (by omega) c4 (by rw [size_rep, List.size_toArray]; exact flen)) ⟨ho, ?_⟩⟩)
      rw [size_rep]
      refine fin_tup I ok (fun b ob q => Heap.get?_push_of_some _ q) (Nat.le_refl _) (r.rep j.toNat) (by rw [(r.rep j.toNat).length]; exact flen) ?_ (h2.rep j.toNat) q
      exact Heap.get?_push_size _ rfl
  · rename_i Q xs j e1
    cases e1
    obtain ⟨q1, q2, q3, q⟩ := q
    obtain ⟨a, vs, rfl, h1, h2⟩ := p1.list ok.sub
    cases p2.scal_int
    cases r1
    obtain ⟨t, rfl⟩ := r2
    have l3 := h2.length
    obtain ⟨z1, its, n, r, e⟩ := Inv.lstR I h1
    have hl := r.length
    have hlen : its.toArray.size * j.toNat ≤ sizeLine := by rw [List.size_toArray, ← hl, l3, sizeLine_eq]; exact q3
    have hcap : ¬ its.toArray.size * j.toNat > (2 ^ 63 - 1) / 8 := by
      have : (sizeLine : Nat) ≤ (2 ^ 63 - 1) / 8 := by decide
      omega
    have hfit : ¬ (!Builtin.List.listFitsIndex j) = true := by
      rw [fitsIndex_both (by omega) (by omega)]
      exact Bool.false_ne_true
    have hlong : ¬ Builtin.List.listTooLong (its.toArray.size * j.toNat) = true := by
      rw [notLongL hlen]
      exact Bool.false_ne_true
    have hnew : List.foldl (fun x1 x2 => x1 ++ x2) #[] (List.replicate (if its.toArray.isEmpty = true then 0 else j.toNat) its.toArray) = (List.replicate j.toNat its).flatten.toArray := by
      rw [size_rep]
      cases its with
      | nil => simp
      | cons a r' => rw [if_neg (by simp)]
    refine wpAny_binaryOp_repeat_ref (T := "list") (U := "int") (by decide) ⟨_, e, rfl⟩ (fun s' => typeIs_int s' j t) noFill_list_mul PySem.F.fills_int_mul PySem.F.slot_int_rmul repeat_list PySem.F.slot_int_index.lookup
      (call_meets PySem.F.slot_int_rmul (typeIs_int s j t) PySem.F.entry_int_rmul (PySem.F.args_int_rmul_2 _ _) (int___rmul___int_list j t a its.toArray n)
        ⟨e, rfl, ⟨_, e, rfl⟩, call_meets PySem.F.slot_list_mul ⟨_, e, rfl⟩ PySem.F.entry_list_mul (PySem.F.args_list_mul_2 _ _) (AutoListH.list___mul___list_int_3 a its.toArray n j t hfit hcap hlong) ⟨e, ?_⟩⟩)
    rw [hnew]
    refine fin_lst I ok (fun b ob q => Heap.get?_push_of_some _ q) (Nat.le_refl _) (r.rep j.toNat) ?_ (Heap.get?_push_size _ rfl) (h2.rep j.toNat) q
    rw [PyProof.Rows.lm_len_rep_flat, Nat.mul_comm, hl]
    exact hlen
  · rename_i Q i j e1
    cases e1
    cases p1.scal_int; cases p2.scal_int
    exact thn (op_mul pins s τ H (.int i) (.int j) u u' (fun z H' => H' = H ∧ z = .int (i * j)) I r1 r2 ⟨i, j, rfl, rfl, q.1, rfl, rfl⟩) fun z s' ⟨v, H', I', rv, hv⟩ => by
      obtain ⟨rfl, rfl⟩ := hv
      exact fin_dt I' ok rv (.int _) q.2
  · exact q.elim) (two_gen (fun _ h => h) (fun d _ h => by cases d <;> exact h) fun d e f r Q h => by cases d <;> cases e <;> exact h)
theorem os_of_unR {f : Value → Sem Value} {g : List D → (M → Prop) → Prop}
    (h : ∀ (G : Gh) (pins : List (Addr × Obj)) (s : Shared) (τ σ : L2.St) (F H : Hp) (env : Env) (d : D) (v : V) (u : Value) (Q : M → Prop), Inv X pins τ H s → EnvOk X.K X.mg G F H σ env → Pk X.K F H v d → RelV v u → g [d] Q →
      wpAny (model X.prog X.w) X.A (f u) (PostM X pins τ σ G F env Q) X.xe s) (hg : ∀ ds Q, g ds Q → ∃ d, ds = [d]) : OpS X (act1 f) g := fun G pins s τ σ F H env vs us ds Q I ok pk r q => by
  obtain ⟨d, rfl⟩ := hg ds Q q
  obtain ⟨v, rfl, p1⟩ := pk.one
  obtain ⟨u, rfl, r1⟩ := vals1 r
  exact h G pins s τ σ F H env d v u Q I ok p1 r1 q
theorem one_gen {g : List D → (M → Prop) → Prop} (h0 : ∀ Q, ¬ g [] Q) (h2 : ∀ d e r Q, ¬ g (d :: e :: r) Q) : ∀ ds Q, g ds Q → ∃ d, ds = [d]
  | [], Q, h => (h0 Q h).elim
  | [d], Q, h => ⟨d, rfl⟩
  | d :: e :: r, Q, h => (h2 d e r Q h).elim
theorem os_neg : OpS X (act1 (unaryOp .USub)) gNeg := os_of_unR (fun G pins s τ σ F H env d v u Q I ok p1 r1 q => by
  unfold gNeg at q
  split at q
  · rename_i e1
    cases e1
    cases p1.scal_int
    obtain ⟨t, rfl⟩ := r1
    exact neg_int (fin_int (I.tok _) ok q)
  · exact q.elim) (one_gen (fun _ h => h) (fun d e r Q h => by cases d <;> exact h))

/-! ### comparisons -/
def gEq : List D → (M → Prop) → Prop
  | [d, e], k => Pl 60 d ∧ Pl 60 e ∧ k (.fz (.bool (PyData.eqv d e)))
  | _, _ => False
def gNe : List D → (M → Prop) → Prop
  | [d, e], k => Pl 60 d ∧ Pl 60 e ∧ k (.fz (.bool (!PyData.eqv d e)))
  | _, _ => False
/-- data that may be ordered -/
def Ord2 (d e : D) : Prop := Pl 60 d ∧ Pl 60 e ∧ alike d e = true ∧ d ≠ .none
def ltD : D → D → Bool
  | .int i, .int j => decide (i < j)
  | d, e => dataLt d e
theorem dataLt_int (i j : Int) : dataLt (.int i) (.int j) = decide (i < j) := by
  have e := congrFun (congrFun (dataLe_int (fun b : Int => b)) j) i
  have e1 : (!dataLt (.int i) (.int j)) = decide (j ≤ i) := e
  by_cases h : i < j
  · rw [decide_eq_false (by omega)] at e1
    rw [decide_eq_true h]
    simpa using e1
  · rw [decide_eq_true (by omega)] at e1
    rw [decide_eq_false h]
    simpa using e1
theorem ltD_eq (d e : D) : ltD d e = dataLt d e := by
  unfold ltD
  split
  · exact (dataLt_int _ _).symm
  · rfl
def gLt : List D → (M → Prop) → Prop
  | [d, e], k => Ord2 d e ∧ k (.fz (.bool (ltD d e)))
  | _, _ => False
def gGt : List D → (M → Prop) → Prop
  | [d, e], k => Ord2 d e ∧ k (.fz (.bool (ltD e d)))
  | _, _ => False
def gLe : List D → (M → Prop) → Prop
  | [d, e], k => Ord2 d e ∧ k (.fz (.bool (!ltD e d)))
  | _, _ => False
def gGe : List D → (M → Prop) → Prop
  | [d, e], k => Ord2 d e ∧ k (.fz (.bool (!ltD d e)))
  | _, _ => False
theorem min_dep {a b n : Nat} (h : a ≤ n) : min a b ≤ n := Nat.le_trans (Nat.min_le_left _ _) h
theorem os_eq (hu : X.A.units + 150 < cLine) : OpS X (act2 (compareOp .Eq)) gEq := os_of_opR (fun G pins s τ σ F H env d e v w u u' Q I ok p1 p2 r1 r2 q => by
  obtain ⟨q1, q2, q⟩ := q
  obtain ⟨as, ra⟩ := Pk.reads I ok.sub p1 (Pl.plain _ _ q1).1 r1
  obtain ⟨bs, rb⟩ := Pk.reads I ok.sub p2 (Pl.plain _ _ q2).1 r2
  exact SeqAt.eq_plain ra rb (Pl.plain _ _ q1).1 (Pl.plain _ _ q2).1 (by have := min_dep (b := e.depth) (Pl.plain _ _ q1).2; omega) (fin_bool I ok q)) (two_gen (fun _ h => h) (fun d _ h => h) fun d e f r Q h => h)
theorem os_ne (hu : X.A.units + 150 < cLine) : OpS X (act2 (compareOp .NotEq)) gNe := os_of_opR (fun G pins s τ σ F H env d e v w u u' Q I ok p1 p2 r1 r2 q => by
  obtain ⟨q1, q2, q⟩ := q
  obtain ⟨as, ra⟩ := Pk.reads I ok.sub p1 (Pl.plain _ _ q1).1 r1
  obtain ⟨bs, rb⟩ := Pk.reads I ok.sub p2 (Pl.plain _ _ q2).1 r2
  exact SeqAt.ne_plain ra rb (Pl.plain _ _ q1).1 (Pl.plain _ _ q2).1 (by have := min_dep (b := e.depth) (Pl.plain _ _ q1).2; omega) (fin_bool I ok q)) (two_gen (fun _ h => h) (fun d _ h => h) fun d e f r Q h => h)
theorem os_lt (hu : X.A.units + 150 < cLine) : OpS X (act2 (compareOp .Lt)) gLt := os_of_opR (fun G pins s τ σ F H env d e v w u u' Q I ok p1 p2 r1 r2 q => by
  obtain ⟨⟨q1, q2, q3, q4⟩, q⟩ := q
  obtain ⟨as, ra⟩ := Pk.reads I ok.sub p1 (Pl.plain _ _ q1).1 r1
  obtain ⟨bs, rb⟩ := Pk.reads I ok.sub p2 (Pl.plain _ _ q2).1 r2
  rw [ltD_eq] at q
  exact PySem.W.lt_data ra rb q3 q4 (by have := min_dep (b := e.depth) (Pl.plain _ _ q1).2; omega) (fin_bool I ok q)) (two_gen (fun _ h => h) (fun d _ h => h) fun d e f r Q h => h)
theorem os_gt (hu : X.A.units + 150 < cLine) : OpS X (act2 (compareOp .Gt)) gGt := os_of_opR (fun G pins s τ σ F H env d e v w u u' Q I ok p1 p2 r1 r2 q => by
  obtain ⟨⟨q1, q2, q3, q4⟩, q⟩ := q
  obtain ⟨as, ra⟩ := Pk.reads I ok.sub p1 (Pl.plain _ _ q1).1 r1
  obtain ⟨bs, rb⟩ := Pk.reads I ok.sub p2 (Pl.plain _ _ q2).1 r2
  rw [ltD_eq] at q
  exact PySem.W.gt_data ra rb q3 q4 (by have := min_dep (b := e.depth) (Pl.plain _ _ q1).2; omega) (fin_bool I ok q)) (two_gen (fun _ h => h) (fun d _ h => h) fun d e f r Q h => h)
theorem os_le (hu : X.A.units + 150 < cLine) : OpS X (act2 (compareOp .LtE)) gLe := os_of_opR (fun G pins s τ σ F H env d e v w u u' Q I ok p1 p2 r1 r2 q => by
  obtain ⟨⟨q1, q2, q3, q4⟩, q⟩ := q
  obtain ⟨as, ra⟩ := Pk.reads I ok.sub p1 (Pl.plain _ _ q1).1 r1
  obtain ⟨bs, rb⟩ := Pk.reads I ok.sub p2 (Pl.plain _ _ q2).1 r2
  rw [ltD_eq] at q
  exact PySem.W.le_data ra rb q3 q4 (by have := min_dep (b := e.depth) (Pl.plain _ _ q1).2; omega) (fin_bool I ok q)) (two_gen (fun _ h => h) (fun d _ h => h) fun d e f r Q h => h)
theorem os_ge (hu : X.A.units + 150 < cLine) : OpS X (act2 (compareOp .GtE)) gGe := os_of_opR (fun G pins s τ σ F H env d e v w u u' Q I ok p1 p2 r1 r2 q => by
  obtain ⟨⟨q1, q2, q3, q4⟩, q⟩ := q
  obtain ⟨as, ra⟩ := Pk.reads I ok.sub p1 (Pl.plain _ _ q1).1 r1
  obtain ⟨bs, rb⟩ := Pk.reads I ok.sub p2 (Pl.plain _ _ q2).1 r2
  rw [ltD_eq] at q
  exact PySem.W.ge_data ra rb q3 q4 (by have := min_dep (b := e.depth) (Pl.plain _ _ q1).2; omega) (fin_bool I ok q)) (two_gen (fun _ h => h) (fun d _ h => h) fun d e f r Q h => h)
/-- x in xs -/
def inD (neg : Bool) : List D → (M → Prop) → Prop
  | [x, .list xs], k => Pl 60 x ∧ Pl 60 (.list xs) ∧ k (.fz (.bool (xor neg (xs.any fun y => PyData.eqv y x))))
  | [x, .tuple xs], k => Pl 60 x ∧ Pl 60 (.tuple xs) ∧ k (.fz (.bool (xor neg (xs.any fun y => PyData.eqv y x))))
  | [.str x, .str y], k => k (.fz (.bool (xor neg (!(Builtin.Str.occurrences y x 0 y.length 1).isEmpty))))
  | _, _ => False
abbrev gIn := inD false
abbrev gNotIn := inD true
theorem os_in (hu : X.A.units + 150 < cLine) : OpS X (act2 (compareOp .In)) gIn := os_of_opR (fun G pins s τ σ F H env d e v w u u' Q I ok p1 p2 r1 r2 q => by
  unfold gIn inD at q
  simp only [Bool.false_bne, Bool.false_xor] at q
  split at q
  · rename_i Q x xs e1
    cases e1
    obtain ⟨q1, q2, q⟩ := q
    obtain ⟨as, ra⟩ := Pk.reads I ok.sub p1 (Pl.plain _ _ q1).1 r1
    obtain ⟨bs, rb⟩ := Pk.reads I ok.sub p2 (Pl.plain _ _ q2).1 r2
    have hp : PyData.plainAll xs = true := by have := (Pl.plain _ _ q2).1; simpa [PyData.plain] using this
    refine SeqAt.in_list_data rb ra hp (Pl.plain _ _ q1).1 ?_ (fin_bool I ok q)
    have := (Pl.plain _ _ q1).2
    have h2 : min (PyData.depthAll xs) d.depth ≤ 60 := Nat.le_trans (Nat.min_le_right _ _) this
    omega
  · rename_i Q x xs e1
    cases e1
    obtain ⟨q1, q2, q⟩ := q
    obtain ⟨as, ra⟩ := Pk.reads I ok.sub p1 (Pl.plain _ _ q1).1 r1
    obtain ⟨bs, rb⟩ := Pk.reads I ok.sub p2 (Pl.plain _ _ q2).1 r2
    have hp : PyData.plainAll xs = true := by have := (Pl.plain _ _ q2).1; simpa [PyData.plain] using this
    refine SeqAt.in_tuple_data rb ra hp (Pl.plain _ _ q1).1 ?_ (fin_bool I ok q)
    have := (Pl.plain _ _ q1).2
    have h2 : min (PyData.depthAll xs) d.depth ≤ 60 := Nat.le_trans (Nat.min_le_right _ _) this
    omega
  · rename_i Q x y e1
    cases e1
    cases p1.scal_str; cases p2.scal_str
    exact thn (op_in_str pins s τ H (.str x) (.str y) u u' (fun z H' => H' = H ∧ z = .bl (!(Builtin.Str.occurrences y x 0 y.length 1).isEmpty)) I r1 r2 ⟨x, y, rfl, rfl, rfl, rfl⟩) fun z s' ⟨v, H', I', rv, hv⟩ => by
      obtain ⟨rfl, rfl⟩ := hv
      exact fin_dt I' ok rv (.bl _) q
  · exact q.elim) (two_gen (fun _ h => h) (fun d _ h => by cases d <;> exact h) fun d e f r Q h => by cases d <;> cases e <;> exact h)
theorem os_notIn (hu : X.A.units + 150 < cLine) : OpS X (act2 (compareOp .NotIn)) gNotIn := os_of_opR (fun G pins s τ σ F H env d e v w u u' Q I ok p1 p2 r1 r2 q => by
  unfold gNotIn inD at q
  simp only [Bool.true_bne, Bool.true_xor] at q
  split at q
  · rename_i Q x xs e1
    cases e1
    obtain ⟨q1, q2, q⟩ := q
    obtain ⟨as, ra⟩ := Pk.reads I ok.sub p1 (Pl.plain _ _ q1).1 r1
    obtain ⟨bs, rb⟩ := Pk.reads I ok.sub p2 (Pl.plain _ _ q2).1 r2
    have hp : PyData.plainAll xs = true := by have := (Pl.plain _ _ q2).1; simpa [PyData.plain] using this
    refine SeqAt.notIn_list_data rb ra hp (Pl.plain _ _ q1).1 ?_ (fin_bool I ok q)
    have := (Pl.plain _ _ q1).2
    have h2 : min (PyData.depthAll xs) d.depth ≤ 60 := Nat.le_trans (Nat.min_le_right _ _) this
    omega
  · rename_i Q x xs e1
    cases e1
    obtain ⟨q1, q2, q⟩ := q
    obtain ⟨as, ra⟩ := Pk.reads I ok.sub p1 (Pl.plain _ _ q1).1 r1
    obtain ⟨bs, rb⟩ := Pk.reads I ok.sub p2 (Pl.plain _ _ q2).1 r2
    have hp : PyData.plainAll xs = true := by have := (Pl.plain _ _ q2).1; simpa [PyData.plain] using this
    refine SeqAt.notIn_tuple_data rb ra hp (Pl.plain _ _ q1).1 ?_ (fin_bool I ok q)
    have := (Pl.plain _ _ q1).2
    have h2 : min (PyData.depthAll xs) d.depth ≤ 60 := Nat.le_trans (Nat.min_le_right _ _) this
    omega
  · rename_i Q x y e1
    cases e1
    cases p1.scal_str; cases p2.scal_str
    exact thn (op_notIn_str pins s τ H (.str x) (.str y) u u' (fun z H' => H' = H ∧ z = .bl (!(!(Builtin.Str.occurrences y x 0 y.length 1).isEmpty))) I r1 r2 ⟨x, y, rfl, rfl, rfl, rfl⟩) fun z s' ⟨v, H', I', rv, hv⟩ => by
      obtain ⟨rfl, rfl⟩ := hv
      exact fin_dt I' ok rv (.bl _) q
  · exact q.elim) (two_gen (fun _ h => h) (fun d _ h => by cases d <;> exact h) fun d e f r Q h => by cases d <;> cases e <;> exact h)
/-- x is None, x is not None -/
def isN : D → Bool
  | .none => true
  | _ => false
def gIs : List D → (M → Prop) → Prop
  | [d, .none], k => k (.fz (.bool (isN d)))
  | _, _ => False
def gIsNot : List D → (M → Prop) → Prop
  | [d, .none], k => k (.fz (.bool (!isN d)))
  | _, _ => False
theorem Pk.isN {K : Fg} {F H : Hp} {v : V} {d : D} (h : Pk K F H v d) : decide (v = .non) = VL.isN d := by
  cases h with
  | fz h => cases h <;> rfl
  | lst _ _ => rfl
  | dct _ => rfl
theorem os_is : OpS X (act2 (compareOp .Is)) gIs := os_of_opR (fun G pins s τ σ F H env d e v w u u' Q I ok p1 p2 r1 r2 q => by
  unfold gIs at q
  split at q
  · rename_i e1
    cases e1
    cases p2.scal_non
    exact thn (op_isN pins s τ H v .non u u' (fun z H' => H' = H ∧ z = .bl (decide (v = .non))) I r1 r2 ⟨rfl, rfl, rfl⟩) fun z s' ⟨v', H', I', rv, hv⟩ => by
      obtain ⟨rfl, rfl⟩ := hv
      rw [p1.isN] at rv
      exact fin_dt I' ok rv (.bl _) q
  · exact q.elim) (two_gen (fun _ h => h) (fun d _ h => by cases d <;> exact h) fun d e f r Q h => by cases d <;> cases e <;> exact h)
theorem os_isNot : OpS X (act2 (compareOp .IsNot)) gIsNot := os_of_opR (fun G pins s τ σ F H env d e v w u u' Q I ok p1 p2 r1 r2 q => by
  unfold gIsNot at q
  split at q
  · rename_i e1
    cases e1
    cases p2.scal_non
    exact thn (op_notN pins s τ H v .non u u' (fun z H' => H' = H ∧ z = .bl (!decide (v = .non))) I r1 r2 ⟨rfl, rfl, rfl⟩) fun z s' ⟨v', H', I', rv, hv⟩ => by
      obtain ⟨rfl, rfl⟩ := hv
      rw [p1.isN] at rv
      exact fin_dt I' ok rv (.bl _) q
  · exact q.elim) (two_gen (fun _ h => h) (fun d _ h => by cases d <;> exact h) fun d e f r Q h => by cases d <;> cases e <;> exact h)
end
end VL

/-! VlF: built-in functions, subscripts, slices. -/
namespace VL
open PySem PySem.Spec PyProof.Rows L2
open PySem.W (alike dataLt dataLe AllAlike Sortable AlikeAll maxD minD)

section
variable {X : Cx}
theorem os_callR {f : Value} {g : List D → (M → Prop) → Prop}
    (h : ∀ (G : Gh) (pins : List (Addr × Obj)) (s : Shared) (τ σ : L2.St) (F H : Hp) (env : Env) (d : D) (v : V) (u : Value) (Q : M → Prop), Inv X pins τ H s → EnvOk X.K X.mg G F H σ env → Pk X.K F H v d → RelV v u → g [d] Q →
      wpAny (model X.prog X.w) X.A (call f [u]) (PostM X pins τ σ G F env Q) X.xe s) (hg : ∀ ds Q, g ds Q → ∃ d, ds = [d]) : OpS X (fun us => call f us) g := fun G pins s τ σ F H env vs us ds Q I ok pk r q => by
  obtain ⟨d, rfl⟩ := hg ds Q q
  obtain ⟨v, rfl, p1⟩ := pk.one
  obtain ⟨u, rfl, r1⟩ := vals1 r
  exact h G pins s τ σ F H env d v u Q I ok p1 r1 q
theorem os_callR2 {f : Value} {g : List D → (M → Prop) → Prop}
    (h : ∀ (G : Gh) (pins : List (Addr × Obj)) (s : Shared) (τ σ : L2.St) (F H : Hp) (env : Env) (d e : D) (v w : V) (u u' : Value) (Q : M → Prop), Inv X pins τ H s → EnvOk X.K X.mg G F H σ env → Pk X.K F H v d → Pk X.K F H w e → RelV v u → RelV w u' → g [d, e] Q →
      wpAny (model X.prog X.w) X.A (call f [u, u']) (PostM X pins τ σ G F env Q) X.xe s) (hg : ∀ ds Q, g ds Q → ∃ d e, ds = [d, e]) : OpS X (fun us => call f us) g := fun G pins s τ σ F H env vs us ds Q I ok pk r q => by
  obtain ⟨d, e, rfl⟩ := hg ds Q q
  obtain ⟨v, w, rfl, p1, p2⟩ := pk.two
  obtain ⟨u, u', rfl, r1, r2⟩ := vals2 r
  exact h G pins s τ σ F H env d e v w u u' Q I ok p1 p2 r1 r2 q
def gLen : List D → (M → Prop) → Prop
  | [.list xs], k => k (.fz (.int xs.length))
  | [.tuple xs], k => k (.fz (.int xs.length))
  | [.str z], k => z.length ≤ 16777216 ∧ k (.fz (.int z.length))
  | _, _ => False
theorem os_len : OpS X (fun us => call (.builtin "len") us) gLen := os_callR (fun G pins s τ σ F H env d v u Q I ok p1 r1 q => by
  have fin : ∀ n : Nat, LenV X.K v H n → Q (.fz (.int n)) → wpAny (model X.prog X.w) X.A (call (.builtin "len") [u]) (PostM X pins τ σ G F env Q) X.xe s := fun n hl q =>
    thn (call_len pins s τ H [v] [u] (fun z H' => H' = H ∧ z = .int n) I (.cons r1 .nil) ⟨v, n, rfl, hl, rfl, rfl⟩) fun z s' ⟨v', H', I', rv, hv⟩ => by
      obtain ⟨rfl, rfl⟩ := hv
      exact fin_dt I' ok rv (.int _) q
  unfold gLen at q
  split at q
  · rename_i Q xs e1
    cases e1
    obtain ⟨a, vs, rfl, h1, h2⟩ := p1.list ok.sub
    exact fin xs.length (.inl ⟨vs, h1.sqL, h2.length.symm⟩) q
  · rename_i Q xs e1
    cases e1
    obtain ⟨a, vs, rfl, h1, h2⟩ := p1.tuple
    exact fin xs.length (.inr ⟨vs, sqT_le ok.sub h1.sqT, h2.length.symm⟩) q
  · rename_i Q z e1
    cases e1
    cases p1.scal_str
    exact fin z.length ⟨line_of q.1, rfl⟩ q.2
  · exact q.elim) (one_gen (fun _ h => h) (fun d e r Q h => by cases d <;> exact h))
def gAbs : List D → (M → Prop) → Prop
  | [.int i], k => k (.fz (.int (if i < 0 then -i else i)))
  | _, _ => False
theorem os_abs : OpS X (fun us => call (.builtin "abs") us) gAbs := os_callR (fun G pins s τ σ F H env d v u Q I ok p1 r1 q => by
  unfold gAbs at q
  split at q
  · rename_i i e1
    cases e1
    cases p1.scal_int
    exact thn (call_abs pins s τ H [.int _] [u] (fun z H' => H' = H ∧ z = .int (if i < 0 then -i else i)) I (.cons r1 .nil) ⟨i, rfl, rfl, rfl⟩) fun z s' ⟨v', H', I', rv, hv⟩ => by
      obtain ⟨rfl, rfl⟩ := hv
      exact fin_dt I' ok rv (.int _) q
  · exact q.elim) (one_gen (fun _ h => h) (fun d e r Q h => by cases d <;> exact h))
def b2 (k : Bool) : Int := if k then 1 else 0
def gInt : List D → (M → Prop) → Prop
  | [.int i], k => k (.fz (.int i))
  | [.bool b], k => k (.fz (.int (b2 b)))
  | _, _ => False
theorem os_int : OpS X (fun us => call (.type "int") us) gInt := os_callR (fun G pins s τ σ F H env d v u Q I ok p1 r1 q => by
  unfold gInt at q
  split at q
  · rename_i i e1
    cases e1
    cases p1.scal_int
    exact thn (call_int1 pins s τ H [.int i] [u] (fun z H' => H' = H ∧ z = .int i) I (.cons r1 .nil) (.inl ⟨i, rfl, rfl, rfl⟩)) fun z s' ⟨v', H', I', rv, hv⟩ => by
      obtain ⟨rfl, rfl⟩ := hv
      exact fin_dt I' ok rv (.int _) q
  · rename_i b e1
    cases e1
    cases p1.scal_bl
    exact thn (call_int1 pins s τ H [.bl b] [u] (fun z H' => H' = H ∧ z = .int (b2 b)) I (.cons r1 .nil) (.inr ⟨b, rfl, rfl, rfl⟩)) fun z s' ⟨v', H', I', rv, hv⟩ => by
      obtain ⟨rfl, rfl⟩ := hv
      exact fin_dt I' ok rv (.int _) q
  · exact q.elim) (one_gen (fun _ h => h) (fun d e r Q h => by cases d <;> exact h))
def gMin2 : List D → (M → Prop) → Prop
  | [.int i, .int j], k => k (.fz (.int (if j < i then j else i)))
  | _, _ => False
def gMax2 : List D → (M → Prop) → Prop
  | [.int i, .int j], k => k (.fz (.int (if j > i then j else i)))
  | _, _ => False
theorem os_min2 (hc : X.calm = true) : OpS X (fun us => call (.builtin "min") us) gMin2 := os_callR2 (fun G pins s τ σ F H env d e v w u u' Q I ok p1 p2 r1 r2 q => by
  unfold gMin2 at q
  split at q
  · rename_i i j e1
    cases e1
    cases p1.scal_int; cases p2.scal_int
    exact thn (call_min2 hc pins s τ H [.int i, .int j] [u, u'] (fun z H' => H' = H ∧ z = .int (if j < i then j else i)) I (.cons r1 (.cons r2 .nil)) ⟨i, j, rfl, rfl, rfl⟩) fun z s' ⟨v', H', I', rv, hv⟩ => by
      obtain ⟨rfl, rfl⟩ := hv
      exact fin_dt I' ok rv (.int _) q
  · exact q.elim) (two_gen (fun _ h => h) (fun d _ h => by cases d <;> exact h) fun d e f r Q h => by cases d <;> cases e <;> exact h)
theorem os_max2 (hc : X.calm = true) : OpS X (fun us => call (.builtin "max") us) gMax2 := os_callR2 (fun G pins s τ σ F H env d e v w u u' Q I ok p1 p2 r1 r2 q => by
  unfold gMax2 at q
  split at q
  · rename_i i j e1
    cases e1
    cases p1.scal_int; cases p2.scal_int
    exact thn (call_max2 hc pins s τ H [.int i, .int j] [u, u'] (fun z H' => H' = H ∧ z = .int (if j > i then j else i)) I (.cons r1 (.cons r2 .nil)) ⟨i, j, rfl, rfl, rfl⟩) fun z s' ⟨v', H', I', rv, hv⟩ => by
      obtain ⟨rfl, rfl⟩ := hv
      exact fin_dt I' ok rv (.int _) q
  · exact q.elim) (two_gen (fun _ h => h) (fun d _ h => by cases d <;> exact h) fun d e f r Q h => by cases d <;> cases e <;> exact h)
/-- the greatest, the least of a list -/
def gMax1 : List D → (M → Prop) → Prop
  | [.list (x :: xs)], k => Pl 60 (.list (x :: xs)) ∧ AlikeAll (x :: xs) ∧ k (.fz (maxD x xs))
  | [.tuple (x :: xs)], k => Pl 60 (.tuple (x :: xs)) ∧ AlikeAll (x :: xs) ∧ k (.fz (maxD x xs))
  | _, _ => False
def gMin1 : List D → (M → Prop) → Prop
  | [.list (x :: xs)], k => Pl 60 (.list (x :: xs)) ∧ AlikeAll (x :: xs) ∧ k (.fz (minD x xs))
  | [.tuple (x :: xs)], k => Pl 60 (.tuple (x :: xs)) ∧ AlikeAll (x :: xs) ∧ k (.fz (minD x xs))
  | _, _ => False
/-- an item of what is read, by its place -/
theorem item_fin {G : Gh} {pins : List (Addr × Obj)} {s : Shared} {τ σ : L2.St} {F H : Hp} {env : Env} {ds : List D} {vs : List V} {us : List Value} {i : Nat} {u : Value} {d : D} {Q : M → Prop} {h' : Heap} {tk : Nat} {bs : List Addr} (I : Inv X pins τ H s) (ok : EnvOk X.K X.mg G F H σ env)
    (r : Vals vs us) (h : DtAll X.K F vs ds) (hp : PyData.plainAll ds = true) (e : us[i]? = some u) (k : ∀ b o, s.heap.get? b = some o → h'.get? b = some o) (rd : Reads h' u d bs) (q : Q (.fz d)) : PostM X pins τ σ G F env Q u { s with heap := h', toks := tk } := by
  have I' : Inv X pins τ H { s with heap := h', toks := tk } := I.kept k
  have hi : i < vs.length := by rw [r.length]; exact (List.getElem?_eq_some_iff.mp e).1
  obtain ⟨u2, e2, rv⟩ := r.get (List.getElem?_eq_getElem hi)
  rw [e] at e2
  cases e2
  obtain ⟨d2, e3, dt⟩ := h.get (List.getElem?_eq_getElem hi)
  obtain ⟨as, rd2⟩ := Dt.reads I' ok.sub dt rv
  have hd2 : d2.plain = true := PySem.W.plain_mem hp (List.mem_of_getElem? e3)
  have e4 := SeqAt.plain_unique d2 d u as bs hd2 rd2 rd
  subst e4
  exact fin_dt I' ok rv dt q
theorem os_max1 (hu : X.A.units + 150 < cLine) (hc : X.calm = true) : OpS X (fun us => call (.builtin "max") us) gMax1 := os_callR (fun G pins s τ σ F H env d v u Q I ok p1 r1 q => by
  unfold gMax1 at q
  split at q
  · rename_i Q x xs e1
    cases e1
    obtain ⟨q1, q2, q⟩ := q
    obtain ⟨a, vs, rfl, h1, h2⟩ := p1.list ok.sub
    cases r1
    obtain ⟨z1, its, n, rv, e⟩ := Inv.lstR I h1
    obtain ⟨as, hr⟩ := DtAll.reads I ok.sub h2 rv
    obtain ⟨pl, dp⟩ := Pl.plain _ _ q1
    have pl' : PyData.plainAll (x :: xs) = true := by simpa [PyData.plain] using pl
    have dp' : PyData.depthAll (x :: xs) + 1 ≤ 60 := by simpa [PyData.depth] using dp
    refine PySem.W.max_list_data (I.ok.hd hc) ⟨_, e, rfl, _, rfl⟩ (by simpa using hr) q2 (by omega) fun i v h' tk bs hi rd k => ?_
    exact item_fin I ok rv h2 pl' (by simpa using hi) k rd q
  · rename_i Q x xs e1
    cases e1
    obtain ⟨q1, q2, q⟩ := q
    obtain ⟨a, vs, rfl, h1, h2⟩ := p1.tuple
    cases r1
    obtain ⟨its, rv, tt, z1⟩ := I.tuple (sqT_le ok.sub h1.sqT)
    obtain ⟨as, hr⟩ := DtAll.reads I ok.sub h2 rv
    obtain ⟨pl, dp⟩ := Pl.plain _ _ q1
    have pl' : PyData.plainAll (x :: xs) = true := by simpa [PyData.plain] using pl
    have dp' : PyData.depthAll (x :: xs) + 1 ≤ 60 := by simpa [PyData.depth] using dp
    refine PySem.W.max_tuple_data (I.ok.hd hc) tt (by simpa using hr) q2 (by omega) fun i v h' tk bs hi rd k => ?_
    exact item_fin I ok rv h2 pl' (by simpa using hi) k rd q
  · exact q.elim) (one_gen (fun _ h => h) (fun d e r Q h => by unfold gMax1 at h; split at h <;> simp_all))
theorem os_min1 (hu : X.A.units + 150 < cLine) (hc : X.calm = true) : OpS X (fun us => call (.builtin "min") us) gMin1 := os_callR (fun G pins s τ σ F H env d v u Q I ok p1 r1 q => by
  unfold gMin1 at q
  split at q
  · rename_i Q x xs e1
    cases e1
    obtain ⟨q1, q2, q⟩ := q
    obtain ⟨a, vs, rfl, h1, h2⟩ := p1.list ok.sub
    cases r1
    obtain ⟨z1, its, n, rv, e⟩ := Inv.lstR I h1
    obtain ⟨as, hr⟩ := DtAll.reads I ok.sub h2 rv
    obtain ⟨pl, dp⟩ := Pl.plain _ _ q1
    have pl' : PyData.plainAll (x :: xs) = true := by simpa [PyData.plain] using pl
    have dp' : PyData.depthAll (x :: xs) + 1 ≤ 60 := by simpa [PyData.depth] using dp
    refine PySem.W.min_list_data (I.ok.hd hc) ⟨_, e, rfl, _, rfl⟩ (by simpa using hr) q2 (by omega) fun i v h' tk bs hi rd k => ?_
    exact item_fin I ok rv h2 pl' (by simpa using hi) k rd q
  · rename_i Q x xs e1
    cases e1
    obtain ⟨q1, q2, q⟩ := q
    obtain ⟨a, vs, rfl, h1, h2⟩ := p1.tuple
    cases r1
    obtain ⟨its, rv, tt, z1⟩ := I.tuple (sqT_le ok.sub h1.sqT)
    obtain ⟨as, hr⟩ := DtAll.reads I ok.sub h2 rv
    obtain ⟨pl, dp⟩ := Pl.plain _ _ q1
    have pl' : PyData.plainAll (x :: xs) = true := by simpa [PyData.plain] using pl
    have dp' : PyData.depthAll (x :: xs) + 1 ≤ 60 := by simpa [PyData.depth] using dp
    refine PySem.W.min_tuple_data (I.ok.hd hc) tt (by simpa using hr) q2 (by omega) fun i v h' tk bs hi rd k => ?_
    exact item_fin I ok rv h2 pl' (by simpa using hi) k rd q
  · exact q.elim) (one_gen (fun _ h => h) (fun d e r Q h => by unfold gMin1 at h; split at h <;> simp_all))
/-! tuple(x), list(x) -/
def gTuple : List D → (M → Prop) → Prop
  | [.list xs], k => k (.fz (.tuple xs))
  | [.tuple xs], k => k (.fz (.tuple xs))
  | _, _ => False
def gList : List D → (M → Prop) → Prop
  | [.list xs], k => k (.lst xs)
  | [.tuple xs], k => k (.lst xs)
  | _, _ => False
theorem os_tuple : OpS X (fun us => call (.type "tuple") us) gTuple := os_callR (fun G pins s τ σ F H env d v u Q I ok p1 r1 q => by
  have hs : sizeLine = 16777216 := sizeLine_eq
  unfold gTuple at q
  split at q
  · rename_i Q xs e1
    cases e1
    obtain ⟨a, vs, rfl, h1, h2⟩ := p1.list ok.sub
    cases r1
    obtain ⟨its, rv, pl, z1⟩ := I.list h1.sqL
    refine call_tuple_list pl.isList (fun h' kp => ?_) (by simp only [List.size_toArray]; have := rv.length; omega)
    have I1 : Inv X pins τ H { s with heap := h' } := I.kept (t' := s.toks) kp
    exact fin_tup (s := { s with heap := h' }) (t' := s.toks) I1 ok (fun b o e => Heap.get?_push_of_some _ e) (Nat.le_refl _) rv z1 (Heap.get?_push_size _ rfl) h2 q
  · rename_i Q xs e1
    cases e1
    obtain ⟨a, vs, rfl, h1, h2⟩ := p1.tuple
    cases r1
    obtain ⟨its, rv, pl, z1⟩ := I.tuple (sqT_le ok.sub h1.sqT)
    exact call_tuple_same pl (fin_dt (v := .ref a) I ok rfl (.tup h1 h2) q)
  · exact q.elim) (one_gen (fun _ h => h) (fun d e r Q h => by cases d <;> exact h))
theorem os_list : OpS X (fun us => call (.type "list") us) gList := os_callR (fun G pins s τ σ F H env d v u Q I ok p1 r1 q => by
  have hs : sizeLine = 16777216 := sizeLine_eq
  unfold gList at q
  split at q
  · rename_i Q xs e1
    cases e1
    obtain ⟨a, vs, rfl, h1, h2⟩ := p1.list ok.sub
    cases r1
    obtain ⟨its, rv, pl, z1⟩ := I.list h1.sqL
    obtain ⟨o, ho, hc, n, hd⟩ := pl.isList
    exact call_list_seq a (.inl rfl) ho hc hd (fun h' c' kp e => fin_lst I ok kp (Nat.le_refl _) rv z1 e h2 q) (by simp only [List.size_toArray]; have := rv.length; omega)
  · rename_i Q xs e1
    cases e1
    obtain ⟨a, vs, rfl, h1, h2⟩ := p1.tuple
    cases r1
    obtain ⟨its, rv, pl, z1⟩ := I.tuple (sqT_le ok.sub h1.sqT)
    obtain ⟨o, ho, hc, n, hd⟩ := pl
    exact call_list_seq a (.inr rfl) ho hc hd (fun h' c' kp e => fin_lst I ok kp (Nat.le_refl _) rv z1 e h2 q) (by simp only [List.size_toArray]; have := rv.length; omega)
  · exact q.elim) (one_gen (fun _ h => h) (fun d e r Q h => by cases d <;> exact h))
/-! sorted(xs) -/
def gSorted : List D → (M → Prop) → Prop
  | [.list xs], k => (∀ x ∈ xs, Pl 60 x) ∧ AllAlike xs ∧ Sortable xs ∧ k (.lst (xs.mergeSort (dataLe false id)))
  | _, _ => False
theorem each_of {R : Value → V × D → Prop} {F : Hp} (h : ∀ v d u, Dt X.K F v d → RelV v u → R u (v, d)) : ∀ {vs : List V} {ds : List D} {us : List Value}, DtAll X.K F vs ds → Vals vs us → PySem.W.EachIs R us (vs.zip ds)
  | _, _, _, .nil, .nil => .nil
  | _, _, _, .cons a b, .cons c e => .cons (h _ _ _ a c) (each_of h b e)
theorem of_each {F : Hp} : ∀ {us : List Value} {ps : List (V × D)}, PySem.W.EachIs (fun u (p : V × D) => RelV p.1 u ∧ Dt X.K F p.1 p.2) us ps → Vals (ps.map (·.1)) us ∧ DtAll X.K F (ps.map (·.1)) (ps.map (·.2))
  | _, _, .nil => ⟨.nil, .nil⟩
  | _, _, .cons h r => ⟨.cons h.1 (of_each r).1, .cons h.2 (of_each r).2⟩
theorem os_sorted (hu : X.A.units + 150 < cLine) : OpS X (fun us => call (.builtin "sorted") us) gSorted := os_callR (fun G pins s τ σ F H env d v u Q I ok p1 r1 q => by
  unfold gSorted at q
  split at q
  · rename_i Q xs e1
    cases e1
    obtain ⟨q1, q2, q3, q⟩ := q
    obtain ⟨a, vs, rfl, h1, h2⟩ := p1.list ok.sub
    cases r1
    obtain ⟨z1, its, n, rv, e⟩ := Inv.lstR I h1
    have hl := h2.length
    have emap : (vs.zip xs).map (fun p => p.2) = xs := List.map_snd_zip (by omega)
    have e1 : PySem.W.EachIs (fun u (p : V × D) => RelV p.1 u ∧ Dt X.K F p.1 p.2) its (vs.zip xs) := each_of (fun v d u a b => ⟨b, a⟩) h2 rv
    have e2 : PySem.W.EachIs (fun u (p : V × D) => ∃ as, Reads s.heap u p.2 as) its (vs.zip xs) := e1.mono fun u p ⟨a, b⟩ => Dt.reads I ok.sub b a
    refine PySem.W.sorted_data (enc := fun p : V × D => p.2) ⟨_, e, rfl, _, rfl⟩ e1 e2 (by rw [emap]; exact q2) (by rw [emap]; exact q3) (by rw [List.length_zip]; omega) (fun p hp => ?_) fun out hlen ho => ?_
    · have := (Pl.plain _ _ (q1 p.2 (List.of_mem_zip hp).2)).2
      omega
    · obtain ⟨o1, o2⟩ := of_each ho
      obtain ⟨ep, he'⟩ := PyProof.Rows.sortedAll_at s.heap its out.toArray
      have em : ((vs.zip xs).mergeSort (dataLe false fun p : V × D => p.2)).map (fun p => p.2) = xs.mergeSort (dataLe false id) := by
        have := PySem.W.sort_maps (r := dataLe false fun p : V × D => p.2) (s := dataLe false (id : D → D)) (fun p : V × D => p.2) (l := vs.zip xs) (fun a _ b _ => rfl)
        rw [emap] at this
        exact this
      rw [em] at o2
      refine fin_lst I ok (fun _ _ => PyProof.Rows.sortedAll_old) (Nat.le_succ _) o1 ?_ he' o2 q
      rw [List.length_map, List.length_mergeSort, List.length_zip]
      omega
  · exact q.elim) (one_gen (fun _ h => h) (fun d e r Q h => by cases d <;> exact h))
/-! repr -/
def gRepr : List D → (M → Prop) → Prop
  | [d], k => Pl 60 d ∧ d.showable = true ∧ d.shown.length ≤ 16777216 ∧ k (.fz (.str d.shown))
  | _, _ => False
mutual
theorem hasDict_of_plain : ∀ d : D, d.plain = true → d.hasDict = false
  | .none, _ => by simp only [PyData.hasDict]
  | .bool _, _ => by simp only [PyData.hasDict]
  | .int _, _ => by simp only [PyData.hasDict]
  | .str _, _ => by simp only [PyData.hasDict]
  | .list xs, h => by simp only [PyData.hasDict]; exact hasDictAll_of_plain xs (by simpa [PyData.plain] using h)
  | .tuple xs, h => by simp only [PyData.hasDict]; exact hasDictAll_of_plain xs (by simpa [PyData.plain] using h)
  | .dict _, h => by simp [PyData.plain] at h
theorem hasDictAll_of_plain : ∀ xs : List D, PyData.plainAll xs = true → PyData.hasDictAll xs = false
  | [], _ => by simp only [PyData.hasDictAll]
  | x :: xs, h => by
    have h' : x.plain = true ∧ PyData.plainAll xs = true := by simpa [PyData.plainAll] using h
    simp only [PyData.hasDictAll, hasDict_of_plain x h'.1, hasDictAll_of_plain xs h'.2, Bool.or_self]
end
theorem os_repr (hu : X.A.units + 150 < cLine) (hg : X.A.guards = some []) : OpS X (fun us => call (.builtin "repr") us) gRepr := os_callR (fun G pins s τ σ F H env d v u Q I ok p1 r1 q => by
  obtain ⟨q1, q2, q3, q⟩ := q
  obtain ⟨pl, dp⟩ := Pl.plain _ _ q1
  obtain ⟨as, rd⟩ := Pk.reads I ok.sub p1 pl r1
  have hd := hasDict_of_plain d pl
  cases rd with
  | none => exact PySem.P.repr_of_none (fin_str (I.tok _) ok q)
  | bool b => exact PySem.P.repr_of_bool (fin_str (I.tok _) ok (by simpa only [PyData.shown] using q))
  | int i t => exact PySem.P.repr_of_int (by simpa [PyData.showable] using q2) (fin_str (I.tok _) ok q)
  | str x t => exact PySem.P.repr_of_str (fin_str (I.tok _) ok q) (line_of q3)
  | list h1 h2 h3 h4 => exact repr_of_reads' (.list h1 h2 h3 h4) q2 (PyData.noDict_hsm hd) hg (by omega) (fun _ _ e => e) (fun h' t tk k => fin_str (I.kept (t' := tk) k) ok q) (line_of q3)
  | tuple h1 h2 h3 h4 => exact repr_of_reads' (.tuple h1 h2 h3 h4) q2 (PyData.noDict_hsm hd) hg (by omega) (fun _ _ e => e) (fun h' t tk k => fin_str (I.kept (t' := tk) k) ok q) (line_of q3)
  | dict h1 h2 h3 h4 h5 => simp [PyData.plain] at pl) (one_gen (fun _ h => h) (fun d e r Q h => h))
end
end VL

/-! VlG: ranges as arguments, all, any, sum, isinstance, subscripts, slices. -/
namespace VL
open PySem PySem.Spec PyProof.Rows L2
open PySem.W (alike dataLt dataLe AllAlike Sortable AlikeAll maxD minD)

/-! ### range(..) as an argument -/
abbrev FRg := Env → (Int → Int → Env → Prop) → KX → Prop
def liftRg (K : Fg) (mg : Mg) (G : Gh) (W : KX) (f : FRg) : L2.St → Hp → (Int → Int → Hp → Prop) → Prop := fun σ H Qh => ∃ F env Q, EnvOk K mg G F H σ env ∧ f env Q W ∧
  ∀ a b env' F' H', EnvOk K mg G F' H' σ env' → Le F F' → Q a b env' → Qh a b H'
def VR (gp : Gp) (X : Cx) (e : Expr) (f : FRg) : Prop := ∀ G W, Tk gp X G W → PRg X e (liftRg X.K X.mg G W f)
/-- the value is an int -/
def fI (fe : FE) (env : Env) (Q : Int → Env → Prop) (W : KX) : Prop := fe env (fun r env1 => match r with
  | .val (.fz (.int i)) => Q i env1
  | _ => False) W
def fRg1 (fa : FE) : FRg := fun env Q W => fI fa env (fun n env1 => Q 0 n env1) W
def fRg2 (fa fb : FE) : FRg := fun env Q W => fI fa env (fun i env1 => fI fb env1 (fun j env2 => Q i j env2) W) W
section
variable {X : Cx}
theorem lift_i {fa : FE} {G : Gh} {W : KX} {σ : L2.St} {H F : Hp} {env : Env} {Q : Int → Env → Prop} {Qh : V → Hp → Prop} (ok : EnvOk X.K X.mg G F H σ env) (hf : fI fa env Q W)
    (q : ∀ i env' F' H', EnvOk X.K X.mg G F' H' σ env' → Le F F' → Q i env' → Qh (.int i) H') : liftE X.K X.mg G W fa σ H Qh := by
  refine ⟨F, env, _, ok, hf, fun r env1 v F1 H1 ok1 l1 rr hq => ?_⟩
  cases r with
  | slot i => exact hq.elim
  | val m =>
    cases m with
    | lst ds => exact hq.elim
    | dct ds => exact hq.elim
    | gl ds => exact hq.elim
    | adr ds => exact hq.elim
    | fz d =>
      cases d with
      | int k =>
        have rm : Dt X.K F1 v (.int k) := rr.rm
        cases rm
        exact q k env1 F1 H1 ok1 l1 hq
      | _ => exact hq.elim
theorem prg_imp {e : Expr} {t t' : L2.St → Hp → (Int → Int → Hp → Prop) → Prop} (h : PRg X e t) (i : ∀ σ H Q, t' σ H Q → t σ H Q) : PRg X e t' := fun pins s σ H Q I q => h pins s σ H Q I (i σ H Q q)
theorem vr_1 {a : Expr} {fa : FE} {p pos : Pos} (hg : Gl X "range") (hm : X.mg "range" = none) (ha : VE gp X a fa) (na : starEach [a] X.env = (false, eval a X.env) :: starEach [] X.env := by rfl) : VR gp X (.Call (.Name "range" p) [a] [] pos) (fRg1 fa) := fun G W t =>
  prg_imp (prg_1 hg hm (ha G W t) na) fun σ H Qh hw => by
    obtain ⟨F, env, Q, ok, hf, q⟩ := hw
    exact lift_i ok hf fun n env1 F1 H1 ok1 l1 hq => ⟨n, rfl, q 0 n env1 F1 H1 ok1 l1 hq⟩
theorem vr_2 {a b : Expr} {fa fb : FE} {p pos : Pos} (hg : Gl X "range") (hm : X.mg "range" = none) (ha : VE gp X a fa) (hb : VE gp X b fb) (na : starEach [a, b] X.env = (false, eval a X.env) :: starEach [b] X.env := by rfl)
    (nb : starEach [b] X.env = (false, eval b X.env) :: starEach [] X.env := by rfl) (hp : (backTo pos (starEach [b] X.env)).any (·.1) = false := by rfl) : VR gp X (.Call (.Name "range" p) [a, b] [] pos) (fRg2 fa fb) := fun G W t =>
  prg_imp (prg_2 hg hm (ha G W t) (hb G W t) na nb hp) fun σ H Qh hw => by
    obtain ⟨F, env, Q, ok, hf, q⟩ := hw
    refine lift_i ok hf fun i env1 F1 H1 ok1 l1 hq => ?_
    exact lift_i ok1 hq fun j env2 F2 H2 ok2 l2 hq => ⟨i, j, rfl, rfl, q i j env2 F2 H2 ok2 (l1.trans l2) hq⟩
def rgD (a b : Int) : List D := (List.range (b - a).toNat).map fun i => .int (a + (i : Nat))
theorem rgD_length (a b : Int) : (rgD a b).length = (b - a).toNat := by unfold rgD; rw [List.length_map, List.length_range]
theorem dt_rg {K : Fg} {F : Hp} (a b : Int) : DtAll K F (rgV a b) (rgD a b) := by
  have h : ∀ l : List Nat, DtAll K F (l.map fun i => V.int (a + (i : Nat))) (l.map fun i => PyData.int (a + (i : Nat))) := fun l => by
    induction l with
    | nil => exact .nil
    | cons x l ih => exact .cons (.int _) ih
  exact h _
def RgFit (a b : Int) : Prop := -1000000000 ≤ a ∧ a ≤ 1000000000 ∧ -1000000000 ≤ b ∧ b ≤ 1000000000 ∧ b - a ≤ 16777216
theorem RgFit.ok {a b : Int} (h : RgFit a b) : RgOk a b := by
  obtain ⟨h1, h2, h3, h4, h5⟩ := h
  exact ⟨by omega, by omega, by omega, by omega, by omega⟩
def fTupRg (fr : FRg) : FE := fun env Q W => fr env (fun a b env1 => RgFit a b ∧ Q (.val (.fz (.tuple (rgD a b)))) env1) W
def fLstRg (fr : FRg) : FE := fun env Q W => fr env (fun a b env1 => RgFit a b ∧ Q (.val (.lst (rgD a b))) env1) W
variable {e : Expr} {fr : FRg} {te : L2.St → Hp → (Int → Int → Hp → Prop) → Prop}
def tTupRgP (te : L2.St → Hp → (Int → Int → Hp → Prop) → Prop) : TE := fun σ H Q => te σ H fun a b H1 => RgOk a b ∧ ∀ q us, H1 q = none → Q (.ref q) (upd H1 q (tupH us (rgV a b)))
theorem pe_tupRgP {p pos : Pos} (hc : X.calm = true) (hg : Gl X "tuple") (hm : X.mg "tuple" = none) (he : PRg X e te) (na : starEach [e] X.env = (false, eval e X.env) :: starEach [] X.env := by rfl) : PE X (.Call (.Name "tuple" p) [e] [] pos) (tTupRgP te) := by
  refine ⟨fun pins s σ H Q I h => ?_⟩
  refine Call_ (ld_blt I hg hm boot_tuple (PyProof.Rows.callWith_type1 (args_cons (thn (he pins s σ H _ I h) fun x s1 ⟨r, a, b, t, u, v, H1, ex, hr, I1, ok, q⟩ => args_nil ?_) na) na))
  subst ex
  obtain ⟨b1, b2, b3, b4, b5⟩ := ok
  refine call_tuple_range (n := (b - a).toNat) (I1.ok.hd hc) hr (small_one b1 b2 b3 b4) (rangeSize_nat a b) b5 fun h' tk acc hk hi => ?_
  have I2 : Inv X pins σ H1 { s1 with heap := h', toks := tk } := I1.kept hk
  have hz : (rgV a b).length ≤ sizeLine := by rw [rgV_length, sizeLine_eq]; omega
  refine ⟨.ref h'.objs.size, upd H1 h'.objs.size (tupH acc.toList (rgV a b)), Inv.laidT I2 (t' := tk) (fun c o e => Heap.get?_push_of_some _ e) (Nat.le_refl _) (vals_rg hi) hz ?_, rfl, q _ _ (I2.hok.fresh (Nat.le_refl _))⟩
  rw [show tupO acc.toList = { cls := .type "tuple", data := .seq acc } from by unfold tupO; rw [Array.toArray_toList]]
  exact Heap.get?_push_size _ rfl
theorem ve_tupRg {p pos : Pos} (hc : X.calm = true) (hg : Gl X "tuple") (hm : X.mg "tuple" = none) (he : VR gp X e fr) (na : starEach [e] X.env = (false, eval e X.env) :: starEach [] X.env := by rfl) : VE gp X (.Call (.Name "tuple" p) [e] [] pos) (fTupRg fr) := fun G W t =>
  PE.imp (pe_tupRgP hc hg hm (he G W t) na) fun σ H Qh hw => by
    obtain ⟨F, env, Q, ok, hf, q⟩ := hw
    refine ⟨F, env, _, ok, hf, fun a b env1 F1 H1 ok1 l1 hq => ⟨hq.1.ok, fun p us hp => ?_⟩⟩
    obtain ⟨ok2, l2, fr⟩ := ok1.newTup (us := us) hp (dt_rg a b)
    exact q (.val _) _ _ _ _ ok2 (l1.trans l2) fr hq.2
theorem ve_lstRg {p pos : Pos} (hc : X.calm = true) (hg : Gl X "list") (hm : X.mg "list" = none) (he : VR gp X e fr) (na : starEach [e] X.env = (false, eval e X.env) :: starEach [] X.env := by rfl) : VE gp X (.Call (.Name "list" p) [e] [] pos) (fLstRg fr) := fun G W t =>
  PE.imp (pe_listRg hc hg hm (he G W t) na) fun σ H Qh hw => by
    obtain ⟨F, env, Q, ok, hf, q⟩ := hw
    refine ⟨F, env, _, ok, hf, fun a b env1 F1 H1 ok1 l1 hq => ⟨hq.1.ok, fun p hp => ?_⟩⟩
    obtain ⟨ok2, fr⟩ := ok1.newLst hp (dt_rg a b)
    exact q (.val _) _ _ _ _ ok2 l1 fr hq.2
end

/-! ### all, any, sum -/
def isB : D → Bool
  | .bool _ => true
  | _ => false
def isI : D → Bool
  | .int _ => true
  | _ => false
def valB : D → Bool
  | .bool b => b
  | _ => false
def valI : D → Int
  | .int i => i
  | _ => 0
@[simp] theorem isB_bool (b : Bool) : isB (.bool b) = true := rfl
@[simp] theorem isI_int (b : Int) : isI (.int b) = true := rfl
@[simp] theorem valB_bool (b : Bool) : valB (.bool b) = b := rfl
@[simp] theorem valI_int (b : Int) : valI (.int b) = b := rfl
theorem bools_of : ∀ {ds : List D}, (∀ d ∈ ds, isB d = true) → ds = (ds.map valB).map .bool
  | [], _ => rfl
  | d :: ds, h => by
    rw [List.map_cons, List.map_cons, ← bools_of fun x hx => h x (List.mem_cons_of_mem _ hx)]
    have := h d List.mem_cons_self
    cases d with
    | bool b => rfl
    | _ => cases this
theorem ints_of : ∀ {ds : List D}, (∀ d ∈ ds, isI d = true) → ds = (ds.map valI).map .int
  | [], _ => rfl
  | d :: ds, h => by
    rw [List.map_cons, List.map_cons, ← ints_of fun x hx => h x (List.mem_cons_of_mem _ hx)]
    have := h d List.mem_cons_self
    cases d with
    | int b => rfl
    | _ => cases this
def gAll : List D → (M → Prop) → Prop
  | [.list xs], k => (∀ d ∈ xs, isB d = true) ∧ k (.fz (.bool (xs.all valB)))
  | _, _ => False
def gAny : List D → (M → Prop) → Prop
  | [.list xs], k => (∀ d ∈ xs, isB d = true) ∧ k (.fz (.bool (xs.any valB)))
  | _, _ => False
def gSum : List D → (M → Prop) → Prop
  | [.list xs], k => (∀ d ∈ xs, isI d = true) ∧ k (.fz (.int (xs.map valI).sum))
  | _, _ => False
section
variable {X : Cx}
theorem os_all (hc : X.calm = true) : OpS X (fun us => call (.builtin "all") us) gAll := os_callR (fun G pins s τ σ F H env d v u Q I ok p1 r1 q => by
  unfold gAll at q
  split at q
  · rename_i xs e1
    cases e1
    obtain ⟨a, vs, rfl, h1, h2⟩ := p1.list ok.sub
    obtain ⟨q1, q⟩ := q
    have eb := bools_of q1
    rw [eb] at h2
    have ev := h2.ofBools
    subst ev
    exact thn (cr_all hc pins s τ H [.ref a] [u] (fun z H' => H' = H ∧ z = .bl ((xs.map valB).all id)) I (.cons r1 .nil) ⟨a, _, rfl, h1.sqL, rfl, rfl⟩) fun z s' ⟨v', H', I', rv, hv⟩ => by
      obtain ⟨rfl, rfl⟩ := hv
      refine fin_dt I' ok rv (.bl _) ?_
      rw [List.all_map]
      exact q
  · exact q.elim) (one_gen (fun _ h => h) (fun d e r Q h => by cases d <;> exact h))
theorem os_any (hc : X.calm = true) : OpS X (fun us => call (.builtin "any") us) gAny := os_callR (fun G pins s τ σ F H env d v u Q I ok p1 r1 q => by
  unfold gAny at q
  split at q
  · rename_i xs e1
    cases e1
    obtain ⟨a, vs, rfl, h1, h2⟩ := p1.list ok.sub
    obtain ⟨q1, q⟩ := q
    have eb := bools_of q1
    rw [eb] at h2
    have ev := h2.ofBools
    subst ev
    exact thn (cr_any hc pins s τ H [.ref a] [u] (fun z H' => H' = H ∧ z = .bl ((xs.map valB).any id)) I (.cons r1 .nil) ⟨a, _, rfl, h1.sqL, rfl, rfl⟩) fun z s' ⟨v', H', I', rv, hv⟩ => by
      obtain ⟨rfl, rfl⟩ := hv
      refine fin_dt I' ok rv (.bl _) ?_
      rw [List.any_map]
      exact q
  · exact q.elim) (one_gen (fun _ h => h) (fun d e r Q h => by cases d <;> exact h))
theorem os_sum (hc : X.calm = true) : OpS X (fun us => call (.builtin "sum") us) gSum := os_callR (fun G pins s τ σ F H env d v u Q I ok p1 r1 q => by
  unfold gSum at q
  split at q
  · rename_i xs e1
    cases e1
    obtain ⟨a, vs, rfl, h1, h2⟩ := p1.list ok.sub
    obtain ⟨q1, q⟩ := q
    have eb := ints_of q1
    rw [eb] at h2
    have ev := h2.ofInts
    subst ev
    exact thn (cr_sum hc pins s τ H [.ref a] [u] (fun z H' => H' = H ∧ z = .int ((xs.map valI).sum)) I (.cons r1 .nil) ⟨a, _, rfl, h1.sqL, rfl, rfl⟩) fun z s' ⟨v', H', I', rv, hv⟩ => by
      obtain ⟨rfl, rfl⟩ := hv
      exact fin_dt I' ok rv (.int _) q
  · exact q.elim) (one_gen (fun _ h => h) (fun d e r Q h => by cases d <;> exact h))
end

/-! ### a[i] -/
def gIx : List D → (M → Prop) → Prop
  | [.list xs, .int i], k => bindP (atI xs i) fun d => k (.fz d)
  | [.tuple xs, .int i], k => bindP (atI xs i) fun d => k (.fz d)
  | [.str z, .int i], k => z.length ≤ 16777216 ∧ bindP (atI z.cps.toList i) fun c => k (.fz (.str ⟨#[c]⟩))
  | _, _ => False
theorem atI_dt {K : Fg} {F : Hp} {vs : List V} {ds : List D} {i : Int} {d : D} (h : DtAll K F vs ds) (e : atI ds i = some d) : ∃ v, atI vs i = some v ∧ Dt K F v d := by
  unfold atI at e ⊢
  rw [h.length]
  cases q : ixN ds.length i with
  | none => rw [q] at e; cases e
  | some j =>
    rw [q] at e
    exact h.getD e
section
variable {X : Cx} {a b : Expr} {fa fb : FE} {pos : Pos}
theorem rIx_of {σ : L2.St} {x y : V} {H : Hp} {Qh : VK} (h : rOp X σ gIx [x, y] H Qh) : rIx X.K x y H Qh := by
  obtain ⟨G, F, env, ds, Q, ok, pk, hg, k⟩ := h
  obtain ⟨d, e, rfl⟩ := two_gen (g := gIx) (fun _ h => h) (fun d _ h => by cases d <;> exact h) (fun d e f r Q h => by cases d <;> cases e <;> exact h) ds Q hg
  obtain ⟨v, w, e2, p1, p2⟩ := pk.two
  cases e2
  unfold gIx at hg
  split at hg
  · rename_i xs i e1
    cases e1
    obtain ⟨d, ed, hq⟩ := bindP_of hg
    obtain ⟨p, vs, rfl, h1, h2⟩ := p1.list ok.sub
    cases p2.scal_int
    obtain ⟨z, ez, dz⟩ := atI_dt h2 ed
    exact .inl ⟨p, vs, i, z, rfl, rfl, h1.sqL, ez, k _ z F H ok (Le.refl _) (Free.fz dz) hq⟩
  · rename_i xs i e1
    cases e1
    obtain ⟨d, ed, hq⟩ := bindP_of hg
    obtain ⟨p, vs, rfl, h1, h2⟩ := p1.tuple
    cases p2.scal_int
    obtain ⟨z, ez, dz⟩ := atI_dt h2 ed
    exact .inr (.inl ⟨p, vs, i, z, rfl, rfl, sqT_le ok.sub h1.sqT, ez, k _ z F H ok (Le.refl _) (Free.fz dz) hq⟩)
  · rename_i z i e1
    cases e1
    obtain ⟨hz, hg⟩ := hg
    obtain ⟨c, ec, hq⟩ := bindP_of hg
    cases p1.scal_str; cases p2.scal_int
    exact .inr (.inr ⟨z, i, c, rfl, rfl, line_of hz, ec, k _ (.str _) F H ok (Le.refl _) (Free.fz (.str _)) hq⟩)
  · exact hg.elim
theorem ve_ix (ha : VE gp X a fa) (hb : VE gp X b fb) (hs : PlainIx b := by exact fun _ _ => rfl) : VE gp X (.Subscript a b pos) (fOp gIx (aP fa (aP fb aNil))) := fun G W t =>
  PE.imp (pe_ix ix_seq (ha G W t) (hb G W t) hs) fun σ H Qh hw => by
    have := lift_2 hw
    obtain ⟨F, env, Q, ok, hf, q⟩ := this
    refine ⟨F, env, Q, ok, hf, fun r env1 v F1 H1 ok1 l1 rr hq => ?_⟩
    obtain ⟨F2, env2, Q2, ok2, hf2, q2⟩ := q r env1 v F1 H1 ok1 l1 rr hq
    exact ⟨F2, env2, Q2, ok2, hf2, fun r2 env3 w F3 H3 ok3 l3 rr3 hq3 => rIx_of (q2 r2 env3 w F3 H3 ok3 l3 rr3 hq3)⟩
end

/-! ### a[i:j] -/
/-- a part of a slice -/
abbrev FO := Env → (Option Int → Env → Prop) → KX → Prop
def liftO (K : Fg) (mg : Mg) (G : Gh) (W : KX) (f : FO) : TO := fun σ H Qh => ∃ F env Q, EnvOk K mg G F H σ env ∧ f env Q W ∧
  ∀ o env' F' H', EnvOk K mg G F' H' σ env' → Le F F' → Q o env' → Qh o H'
def VO (gp : Gp) (X : Cx) (e : Option Expr) (f : FO) : Prop := ∀ G W, Tk gp X G W → PO X e (liftO X.K X.mg G W f)
def oNone : FO := fun env Q _ => Q none env
def oSome (fe : FE) : FO := fun env Q W => fI fe env (fun i env1 => Q (some i) env1) W
/-- the items of xs[lo:hi] -/
def cutD {α : Type} (xs : List α) (lo hi : Option Int) : List α := (xs.drop (HT.sIx xs.length 0 lo)).take (HT.sIx xs.length xs.length hi - HT.sIx xs.length 0 lo)
def gSl (lo hi : Option Int) : D → (M → Prop) → Prop
  | .list xs, k => k (.lst (cutD xs lo hi))
  | .tuple xs, k => k (.fz (.tuple (cutD xs lo hi)))
  | .str z, k => z.length ≤ 16777216 ∧ k (.fz (.str (cutS z lo hi)))
  | _, _ => False
def fSl (fe : FE) (fl fh : FO) : FE := fun env Q W => fe env (fun r env1 => bindP (pkR r) fun x => fl env1 (fun lo env2 => fh env2 (fun hi env3 => bindP (pkA env3 x) fun d => gSl lo hi d fun m => Q (.val m) env3) W) W) W
section
variable {X : Cx} {e : Expr} {lo hi : Option Expr} {fe : FE} {fl fh : FO} {pos p2 : Pos}
theorem po_imp {t t' : TO} {e : Option Expr} (h : PO X e t) (i : ∀ σ H Q, t' σ H Q → t σ H Q) : PO X e t' := ⟨fun pins s σ H Q I q => h.run pins s σ H Q I (i σ H Q q)⟩
theorem vo_none : VO gp X none oNone := fun G W _ => po_imp po_none fun σ H Qh hw => by
  obtain ⟨F, env, Q, ok, hf, q⟩ := hw
  exact q none env F H ok (Le.refl _) hf
theorem vo_some (h : VE gp X e fe) : VO gp X (some e) (oSome fe) := fun G W t => po_imp (po_some (h G W t)) fun σ H Qh hw => by
  obtain ⟨F, env, Q, ok, hf, q⟩ := hw
  exact lift_i ok hf fun i env1 F1 H1 ok1 l1 hq => ⟨i, rfl, q (some i) env1 F1 H1 ok1 l1 hq⟩
/-- t[lo:hi] of a tuple: the whole of it is itself, else a new one -/
def rSlP (K : Fg) : V → Option Int → Option Int → Hp → VK → Prop := fun x lo hi H Q => ∃ a xs, x = .ref a ∧ SqT K H a xs ∧
  (HT.sIx xs.length 0 lo = 0 ∧ HT.sIx xs.length xs.length hi = xs.length → Q (.ref a) H) ∧ (¬ (HT.sIx xs.length 0 lo = 0 ∧ HT.sIx xs.length xs.length hi = xs.length) → ∀ p us, H p = none → Q (.ref p) (upd H p (tupH us (cutV xs lo hi))))
theorem sl_tupP : SlR X (rSlP X.K) := by
  intro pins s σ H x v vl vu lo hi sl Q I rx hs pl pu h
  obtain ⟨a, xs, rfl, hx, q1, q2⟩ := h
  cases rx
  obtain ⟨its, r, ht, hz⟩ := I.tuple hx
  have hlen : its.toArray.size = xs.length := by rw [List.size_toArray]; exact r.length.symm
  refine ⟨"tuple", _, PyProof.Rows.slot_tuple_getitem.lookup, ht.typeIs, ?_⟩
  by_cases hw : HT.sIx xs.length 0 lo = 0 ∧ HT.sIx xs.length xs.length hi = xs.length
  · exact getItem_tuple_whole ht hs pl pu (by rw [hlen]; exact hw) ⟨.ref a, H, I, rfl, q1 hw⟩
  · refine HT.getItem_tuple_cut ht hs pl pu (by rw [hlen]; exact hw) ?_ (by rw [hlen]; exact hz)
    rw [hlen]
    refine ⟨.ref s.heap.objs.size, _, Inv.laidT I (t' := s.toks) (fun b ob q => Heap.get?_push_of_some _ q) (Nat.le_refl _) ((r.drop (HT.sIx xs.length 0 lo)).take (HT.sIx xs.length xs.length hi - HT.sIx xs.length 0 lo)) (Nat.le_trans (cutV_length xs lo hi) hz) ?_, rfl, q2 hw _ _ (I.hok.fresh (Nat.le_refl _))⟩
    exact Heap.get?_push_size _ rfl
theorem DtAll.cut {K : Fg} {F : Hp} {vs : List V} {ds : List D} (h : DtAll K F vs ds) (lo hi : Option Int) : DtAll K F (cutV vs lo hi) (cutD ds lo hi) := by
  unfold cutV cutD
  rw [h.length]
  exact (h.drop _).take _
theorem ve_sl (he : VE gp X e fe) (hl : VO gp X lo fl) (hh : VO gp X hi fh) : VE gp X (.Subscript e (.Slice lo hi none p2) pos) (fSl fe fl fh) := fun G W t =>
  PE.imp (pe_slice (sl_list.or (sl_tupP.or sl_str)) (he G W t) (hl G W t) (hh G W t)) fun σ H Qh hw => by
    obtain ⟨F, env, Q, ok, hf, q⟩ := hw
    refine ⟨F, env, _, ok, hf, fun r env1 v F1 H1 ok1 l1 rr hq => ?_⟩
    obtain ⟨x, ex, hq⟩ := bindP_of hq
    obtain ⟨F2, ok2, l2, ax⟩ := rr.peek ok1 ex
    refine ⟨F2, env1, _, ok2, hq, fun l env2 F3 H3 ok3 l3 hq => ?_⟩
    refine ⟨F3, env2, _, ok3, hq, fun h env3 F4 H4 ok4 l4 hq => ?_⟩
    obtain ⟨d, ed, hq⟩ := bindP_of hq
    have pk := (ax.le (l3.trans l4)).pk ok4 ed
    have l14 := (l1.trans l2).trans (l3.trans l4)
    cases d with
    | list xs =>
      obtain ⟨p, vs, rfl, h1, h2⟩ := pk.list ok4.sub
      refine .inl ⟨p, vs, rfl, h1.sqL, fun p' hp' => ?_⟩
      obtain ⟨ok5, fr⟩ := ok4.newLst hp' (h2.cut l h)
      exact q (.val _) _ _ _ _ ok5 l14 fr hq
    | tuple xs =>
      obtain ⟨p, vs, rfl, h1, h2⟩ := pk.tuple
      refine .inr (.inl ⟨p, vs, rfl, sqT_le ok4.sub h1.sqT, fun hw => ?_, fun hw p' us hp' => ?_⟩)
      · refine q (.val _) env3 _ F4 H4 ok4 l14 (Free.fz (.tup h1 h2)) ?_
        have e : cutD xs l h = xs := by
          unfold cutD
          rw [h2.length] at hw
          rw [hw.1, hw.2, List.drop_zero, Nat.sub_zero, List.take_length]
        have hq : Q (.val (.fz (.tuple (cutD xs l h)))) env3 := hq
        rw [e] at hq
        exact hq
      · obtain ⟨ok5, l5, fr⟩ := ok4.newTup (us := us) hp' (h2.cut l h)
        exact q (.val _) _ _ _ _ ok5 (l14.trans l5) fr hq
    | str z =>
      cases pk.scal_str
      exact .inr (.inr ⟨z, rfl, line_of hq.1, q (.val _) _ _ _ _ ok4 l14 (Free.fz (.str _)) hq.2⟩)
    | _ => exact hq.elim
end
end VL

set_option maxHeartbeats 2000000
/-! VlH: statements by value. -/
namespace VL
open PySem PySem.Spec PyProof.Rows L2

/-- the value to be stored in slot i, and the slots behind the store -/
def stR (i : Nat) (r : R) (env : Env) : Option Env :=
  if i < env.sl.length ∧ i ∉ env.bor then
    match r with
    | .val m => some { env with sl := env.sl.set i (some m) }
    | .slot j => match lkR env (.slot j) with
      | some (.d d, e2) => some { e2 with sl := e2.sl.set i (some (.fz d)) }
      | _ => none
  else none
/-- the value that is handed out: an own thing leaves its slot -/
def rtR (env : Env) : R → Option (M × Env)
  | .val m => some (m, env)
  | .slot j => if j ∈ env.bor then none else match env.sl[j]? with
    | some (some m) => some (m, { env with sl := env.sl.set j none })
    | _ => none

def sNext : FS := fun env E _ => E.nx env
def sBrk : FS := fun env E _ => E.bk env
def sCnt : FS := fun env E _ => E.ct env
def sNever : FS := fun _ _ _ => False
def sSeq (g h : FS) : FS := fun env E W => g env { E with nx := fun e1 => h e1 E W } W
def sDrop (f : FE) : FS := fun env E W => f env (fun _ e1 => E.nx e1) W
def sRet (f : FE) : FS := fun env E W => f env (fun r e1 => bindP (rtR e1 r) fun x => E.rt x.1 x.2) W
def sRetN : FS := fun env E _ => E.rt (.fz .none) env
def sIf (t : FT) (g h : FS) : FS := fun env E W => t env (fun b e1 => if b = true then g e1 E W else h e1 E W) W
def sSet (i : Nat) (f : FE) : FS := fun env E W => f env (fun r e1 => bindP (stR i r e1) E.nx) W

section
variable {K : Fg} {mg : Mg} {G : Gh} {F F' H H' : Hp} {σ : L2.St} {env : Env} {i j : Nat} {a : Addr} {m : M} {v : V} {r : R}
theorem lkR_same {r : R} {env e2 : Env} {x : Ar} (h : lkR env r = some (x, e2)) : e2.sl.length = env.sl.length ∧ e2.bor = env.bor := by
  cases r with
  | val m =>
    cases m with
    | fz d => cases h; exact ⟨rfl, rfl⟩
    | lst ds => cases h; exact ⟨rfl, rfl⟩
    | gl x => cases h; exact ⟨rfl, rfl⟩
    | adr x => cases h
    | dct es => cases h
  | slot i =>
    dsimp only [lkR] at h
    split at h
    · cases h; exact ⟨List.length_set, rfl⟩
    · cases h
/-- slot j is emptied -/
theorem EnvOk.drop (ok : EnvOk K mg G F H σ env) : EnvOk K mg G F H σ { env with sl := env.sl.set j none } := by
  have back : ∀ {k b}, OwnAt σ (env.sl.set j none) k b → OwnAt σ env.sl k b ∧ k ≠ j := fun {k b} z => by
    have hk : k ≠ j := fun e => by
      subst e
      obtain ⟨m, e1, _, _⟩ := z
      by_cases hl : k < env.sl.length
      · rw [List.getElem?_set_self hl] at e1; cases e1
      · rw [List.getElem?_eq_none (by rw [List.length_set]; omega)] at e1; cases e1
    exact ⟨(OwnAt.set_sl hk).mp z, hk⟩
  refine ⟨ok.sub, fun k m e => ?_, fun k l b z1 z2 => ok.apart k l b (back z1).1 (back z2).1, ok.frz, ok.frame, ok.dom, ok.newF, fun k b z => ok.newO k b (back z).1, ok.bor, ok.borA, fun p hp k z => ok.sep p hp k (back z).1, ok.borH, by rw [List.length_set]; exact ok.len, ok.tabs, ok.nt⟩
  have e : (env.sl.set j none)[k]? = some (some m) := e
  by_cases hk : k = j
  · subst hk
    by_cases hl : k < env.sl.length
    · rw [List.getElem?_set_self hl] at e; cases e
    · rw [List.getElem?_eq_none (by rw [List.length_set]; omega)] at e; cases e
  · rw [List.getElem?_set_ne (Ne.symm hk)] at e
    exact ok.slot k m e
theorem RR.store (ok : EnvOk K mg G F H σ env) (h : RR K mg G F H σ env r v) {e2 : Env} (e : stR i r env = some e2) : ∃ F1, EnvOk K mg G F1 H (σ.set i (some v)) e2 ∧ Le F F1 := by
  unfold stR at e
  by_cases c : i < env.sl.length ∧ i ∉ env.bor
  · rw [if_pos c] at e
    cases r with
    | val m => cases e; exact ⟨F, ok.store c.1 c.2 h, Le.refl _⟩
    | slot j =>
      dsimp only at e
      cases q : lkR env (.slot j) with
      | none => rw [q] at e; cases e
      | some x =>
        obtain ⟨y, e1⟩ := x
        rw [q] at e
        cases y with
        | g x => cases e
        | s x => cases e
        | d d =>
          cases e
          obtain ⟨F1, ok1, l1, ax⟩ := RR.leak ok h q
          obtain ⟨s1, s2⟩ := lkR_same q
          exact ⟨F1, ok1.store (by rw [s1]; exact c.1) (by rw [s2]; exact c.2) (Free.fz ax), l1⟩
  · rw [if_neg c] at e; cases e
theorem RR.out (g : GOk G) (ok : EnvOk K mg G F H σ env) (h : RR K mg G F H σ env r v) {x : M × Env} (e : rtR env r = some x) : EnvOk K mg G F H σ x.2 ∧ Free K mg G F H σ x.2 x.1 v := by
  cases r with
  | val m => cases e; exact ⟨ok, h⟩
  | slot j =>
    unfold rtR at e
    by_cases c : j ∈ env.bor
    · simp only [if_pos c] at e; cases e
    · simp only [if_neg c] at e
      obtain ⟨a, rfl, o⟩ := h
      obtain ⟨m, e1, e2, e3⟩ := id o
      rw [e1] at e
      cases e
      obtain ⟨w, e4, rm⟩ := ok.slot j m e1
      rw [e3] at e4
      cases e4
      refine ⟨ok.drop, rm, fun _ b eb => ?_⟩
      cases eb
      refine ⟨(ok.newO j a o).elim (fun z => ?_) id, fun k z => ?_⟩
      · obtain ⟨p, hp, rfl⟩ := g a z
        refine absurd ?_ c
        rw [ok.bor, ok.sep p hp j o]
        exact List.mem_map.mpr ⟨p, hp, rfl⟩
      · have hk : k ≠ j := fun e => by
          subst e
          obtain ⟨m', e5, _, _⟩ := z
          rw [List.getElem?_set_self (List.getElem?_eq_some_iff.mp e1).1] at e5
          cases e5
        exact hk (ok.apart k j a ((OwnAt.set_sl hk).mp z) o)
end

section
variable {X : Cx} {st : Stmt} {rest : List Stmt} {g h : FS} {f : FE} {t : FT} {e : Expr} {pos : Pos}
theorem vss_nil : VSs gp X [] sNext := fun G W _ _ => PSs.imp pss_nil fun Dn σ H hw => by
  obtain ⟨F, env, E, ok, hf, k1, _⟩ := hw
  exact k1 σ F H env ok (Le.refl _) hf
theorem vs_next (p : PS X st tNext) : VS gp X st sNext := fun G W _ _ => PS.imp p fun Dn σ H hw => by
  obtain ⟨F, env, E, ok, hf, k1, _⟩ := hw
  exact k1 σ F H env ok (Le.refl _) hf
theorem vs_pass : VS gp X (.Pass pos) sNext := vs_next ps_pass
theorem vs_doc {x j p1 p2} : VS gp X (.Expr (.Constant (.str x) j p1) p2) sNext := vs_next ps_doc
theorem vs_never : VS gp X st sNever := fun G W _ _ => PS.imp ps_never fun Dn σ H hw => by
  obtain ⟨F, env, E, ok, hf, _⟩ := hw
  exact hf
theorem vss_never : VSs gp X rest sNever := fun G W _ _ => PSs.imp pss_never fun Dn σ H hw => by
  obtain ⟨F, env, E, ok, hf, _⟩ := hw
  exact hf
theorem vs_brk : VS gp X (.Break pos) sBrk := fun G W _ _ => PS.imp ps_break fun Dn σ H hw => by
  obtain ⟨F, env, E, ok, hf, _, k2, _⟩ := hw
  exact k2 σ F H env ok (Le.refl _) hf
theorem vs_cnt : VS gp X (.Continue pos) sCnt := fun G W _ _ => PS.imp ps_continue fun Dn σ H hw => by
  obtain ⟨F, env, E, ok, hf, _, _, k3, _⟩ := hw
  exact k3 σ F H env ok (Le.refl _) hf
theorem vss_cons (h1 : VS gp X st g) (h2 : VSs gp X rest h) : VSs gp X (st :: rest) (sSeq g h) := fun G W gk tk => PSs.imp (pss_cons (h1 G W gk tk) (h2 G W gk tk)) fun Dn σ H hw => by
  obtain ⟨F, env, E, ok, hf, k1, k2, k3, k4⟩ := hw
  refine ⟨F, env, _, ok, hf, fun σ1 F1 H1 e1 ok1 l1 q1 => ?_, k2, k3, k4⟩
  exact ⟨F1, e1, E, ok1, q1, fun σ2 F2 H2 e2 o2 l2 => k1 σ2 F2 H2 e2 o2 (l1.trans l2), fun σ2 F2 H2 e2 o2 l2 => k2 σ2 F2 H2 e2 o2 (l1.trans l2), fun σ2 F2 H2 e2 o2 l2 => k3 σ2 F2 H2 e2 o2 (l1.trans l2), fun σ2 F2 H2 e2 m v o2 l2 => k4 σ2 F2 H2 e2 m v o2 (l1.trans l2)⟩
theorem vss_one (h1 : VS gp X st g) : VSs gp X [st] g := fun G W gk tk => PSs.imp (pss_one (h1 G W gk tk)) fun _ _ _ hw => hw
theorem vs_drop (he : VE gp X e f) (hs : swapsWith e none pos.line X.env = pure false := by rfl) : VS gp X (.Expr e pos) (sDrop f) := fun G W _ tk => PS.imp (ps_expr (he G W tk) hs) fun Dn σ H hw => by
  obtain ⟨F, env, E, ok, hf, k1, _⟩ := hw
  exact ⟨F, env, _, ok, hf, fun r e1 v F1 H1 ok1 l1 _ q => k1 σ F1 H1 e1 ok1 l1 q⟩
theorem vs_ret (he : VE gp X e f) : VS gp X (.Return (some e) pos) (sRet f) := fun G W gk tk => PS.imp (ps_ret (he G W tk)) fun Dn σ H hw => by
  obtain ⟨F, env, E, ok, hf, _, _, _, k4⟩ := hw
  refine ⟨F, env, _, ok, hf, fun r e1 v F1 H1 ok1 l1 rr q => ?_⟩
  obtain ⟨x, ex, q⟩ := bindP_of q
  obtain ⟨ok2, fr⟩ := RR.out gk ok1 rr ex
  exact k4 σ F1 H1 x.2 x.1 v ok2 l1 fr q
theorem vs_retN : VS gp X (.Return none pos) sRetN := fun G W _ _ => PS.imp ps_retN fun Dn σ H hw => by
  obtain ⟨F, env, E, ok, hf, _, _, _, k4⟩ := hw
  exact k4 σ F H env _ _ ok (Le.refl _) (Free.fz .non) hf
theorem vs_if {c : Expr} {a b : List Stmt} (hc : VT gp X c t) (ha : VSs gp X a g) (hb : VSs gp X b h) : VS gp X (.If c a b pos) (sIf t g h) := fun G W gk tk => PS.imp (ps_if (hc G W tk) (ha G W gk tk) (hb G W gk tk)) fun Dn σ H hw => by
  obtain ⟨F, env, E, ok, hf, k1, k2, k3, k4⟩ := hw
  refine ⟨F, env, _, ok, hf, fun d e1 F1 H1 ok1 l1 q => ?_⟩
  cases d with
  | true => exact ⟨F1, e1, E, ok1, q, fun σ2 F2 H2 e2 o2 l2 => k1 σ2 F2 H2 e2 o2 (l1.trans l2), fun σ2 F2 H2 e2 o2 l2 => k2 σ2 F2 H2 e2 o2 (l1.trans l2), fun σ2 F2 H2 e2 o2 l2 => k3 σ2 F2 H2 e2 o2 (l1.trans l2), fun σ2 F2 H2 e2 m v o2 l2 => k4 σ2 F2 H2 e2 m v o2 (l1.trans l2)⟩
  | false => exact ⟨F1, e1, E, ok1, q, fun σ2 F2 H2 e2 o2 l2 => k1 σ2 F2 H2 e2 o2 (l1.trans l2), fun σ2 F2 H2 e2 o2 l2 => k2 σ2 F2 H2 e2 o2 (l1.trans l2), fun σ2 F2 H2 e2 o2 l2 => k3 σ2 F2 H2 e2 o2 (l1.trans l2), fun σ2 F2 H2 e2 m v o2 l2 => k4 σ2 F2 H2 e2 m v o2 (l1.trans l2)⟩
theorem vs_set {i : Nat} {x : Str} {p2 : Pos} (hN : X.N.Nodup) (hi : X.N[i]? = some x) (hx : Loc X.env.scope x) (he : VE gp X e f) (hf : X.fn x = true ∨ X.env.scope.names.lookup x = some .local) (hs : swapsWith e (some (.Name x p2)) pos.line X.env = pure false := by rfl) :
    VS gp X (.Assign [.Name x p2] e pos) (sSet i f) := fun G W _ tk => PS.imp (ps_set hN hi hx (he G W tk) hs hf) fun Dn σ H hw => by
  obtain ⟨F, env, E, ok, hf, k1, _⟩ := hw
  refine ⟨F, env, _, ok, hf, fun r e1 v F1 H1 ok1 l1 rr q => ?_⟩
  obtain ⟨e2, ee, q⟩ := bindP_of q
  obtain ⟨F2, ok2, l2⟩ := RR.store ok1 rr ee
  exact k1 _ F2 H1 e2 ok2 (l1.trans l2) q
end

/-! ### targets -/
abbrev FG := D → Env → (Env → Prop) → Prop
abbrev FGs := List D → Env → (Env → Prop) → Prop
/-- data, or a new tuple of data that is not frozen yet -/
def Gv (K : Fg) (F H : Hp) (v : V) (d : D) : Prop := Dt K F v d ∨ ∃ a xs ds, v = .ref a ∧ SqT K H a xs ∧ DtAll K F xs ds ∧ d = .tuple ds
def liftG (K : Fg) (mg : Mg) (G : Gh) (vs : List Nat) (g : FG) : TG := fun v σ H Q => ∃ F env d k, EnvOk K mg G F H σ env ∧ Dt K F v d ∧ g d env k ∧
  ∀ σ' env', wipe σ' vs = wipe σ vs → EnvOk K mg G F H σ' env' → k env' → Q σ' H
def liftGt (K : Fg) (mg : Mg) (G : Gh) (vs : List Nat) (g : FG) : TG := fun v σ H Q => ∃ F env d k, EnvOk K mg G F H σ env ∧ Gv K F H v d ∧ g d env k ∧
  ∀ σ' env', wipe σ' vs = wipe σ vs → EnvOk K mg G F H σ' env' → k env' → Q σ' H
def liftGs (K : Fg) (mg : Mg) (G : Gh) (vs : List Nat) (g : FGs) : TGs := fun xs σ H Q => ∃ F env ds k, EnvOk K mg G F H σ env ∧ DtAll K F xs ds ∧ g ds env k ∧
  ∀ σ' env', wipe σ' vs = wipe σ vs → EnvOk K mg G F H σ' env' → k env' → Q σ' H
theorem PG.imp {X : Cx} {e : Expr} {t t' : TG} (h : PG X e t) (i : ∀ v σ H Q, t' v σ H Q → t v σ H Q) : PG X e t' := ⟨fun pins s σ H v u Q I r q => h.run pins s σ H v u Q I r (i v σ H Q q)⟩
theorem PGs.imp {X : Cx} {e : List Expr} {t t' : TGs} (h : PGs X e t) (i : ∀ v σ H Q, t' v σ H Q → t v σ H Q) : PGs X e t' := ⟨fun pins s σ H v u Q I r q => h.run pins s σ H v u Q I r (i v σ H Q q)⟩
/-- vs: the slots it may store to -/
def VG (X : Cx) (tg : Expr) (is : List Nat) (g : FG) : Prop := ∀ G vs, (∀ i ∈ is, i ∈ vs) → PG X tg (liftG X.K X.mg G vs g)
def VGt (X : Cx) (tg : Expr) (is : List Nat) (g : FG) : Prop := ∀ G vs, (∀ i ∈ is, i ∈ vs) → PG X tg (liftGt X.K X.mg G vs g)
def VGs (X : Cx) (tg : List Expr) (is : List Nat) (g : FGs) : Prop := ∀ G vs, (∀ i ∈ is, i ∈ vs) → PGs X tg (liftGs X.K X.mg G vs g)
def gN (i : Nat) : FG := fun d env k => i < env.sl.length ∧ i ∉ env.bor ∧ k { env with sl := env.sl.set i (some (.fz d)) }
def gsNil : FGs := fun ds env k => ds = [] ∧ k env
def gsCons (g : FG) (r : FGs) : FGs := fun ds env k => match ds with
  | d :: ds => g d env fun e1 => r ds e1 k
  | [] => False
def gT (n : Nat) (g : FGs) : FG := fun d env k => match d with
  | .tuple ds => ds.length = n ∧ g ds env k
  | _ => False
theorem wipe_set {σ : L2.St} {i : Nat} {x : Option V} : ∀ {vs : List Nat}, i ∈ vs → wipe (σ.set i x) vs = wipe σ vs
  | v :: vs, h => by
    by_cases hi : i ∈ vs
    · show (wipe (σ.set i x) vs).set v none = (wipe σ vs).set v none
      rw [wipe_set hi]
    · have e : i = v := (List.mem_cons.mp h).resolve_right hi
      subst e
      have out : ∀ (vs : List Nat), i ∉ vs → (wipe (σ.set i x) vs) = (wipe σ vs).set i x := by
        intro vs
        induction vs with
        | nil => intro _; rfl
        | cons w ws ih =>
          intro hn
          simp only [List.mem_cons, not_or] at hn
          show (wipe (σ.set i x) ws).set w none = ((wipe σ ws).set w none).set i x
          rw [ih hn.2, List.set_comm _ _ hn.1]
      show (wipe (σ.set i x) vs).set i none = (wipe σ vs).set i none
      rw [out vs hi, List.set_set]
section
variable {X : Cx} {e : Expr} {es : List Expr} {is js : List Nat} {g : FG} {r : FGs} {pos : Pos}
theorem vg_n {i : Nat} {x : Str} (hN : X.N.Nodup) (hi : X.N[i]? = some x) (hx : Loc X.env.scope x) (hf : X.fn x = true ∨ X.env.scope.names.lookup x = some .local) : VG X (.Name x pos) [i] (gN i) := fun G vs hv => PG.imp (pg_name hN hi hx hf) fun v σ H Q hw => by
  obtain ⟨F, env, d, k, ok, r, ⟨h1, h2, hk⟩, q⟩ := hw
  exact q _ _ (wipe_set (hv i (by simp))) (ok.store h1 h2 (Free.fz r)) hk
theorem vgs_nil : VGs X [] [] gsNil := fun G vs _ => PGs.imp pgs_nil fun xs σ H Q hw => by
  obtain ⟨F, env, ds, k, ok, r, ⟨rfl, hk⟩, q⟩ := hw
  cases r
  exact ⟨rfl, q _ _ rfl ok hk⟩
theorem vgs_cons (h1 : VG X e is g) (h2 : VGs X es js r) (hs : (assignEach (e :: es) X.env).map (·.2) = assign e X.env :: (assignEach es X.env).map (·.2) := by rfl) : VGs X (e :: es) (is ++ js) (gsCons g r) := fun G vs hv =>
  PGs.imp (pgs_cons (h1 G vs fun i hi => hv i (List.mem_append_left _ hi)) (h2 G vs fun i hi => hv i (List.mem_append_right _ hi)) hs) fun xs σ H Q hw => by
  obtain ⟨F, env, ds, k, ok, r, hg, q⟩ := hw
  cases r with
  | nil => exact hg.elim
  | cons a b =>
    refine ⟨_, _, rfl, F, env, _, _, ok, a, hg, fun σ1 e1 w1 ok1 q1 => ?_⟩
    exact ⟨F, e1, _, k, ok1, b, q1, fun σ2 e2 w2 ok2 q2 => q σ2 e2 (w2.trans w1) ok2 q2⟩
theorem vgt_t {k n : Nat} (hc : X.calm = true) (h : VGs X es is r) (hn : (assignEach es X.env).length = n := by rfl) (hst : (assignEach es X.env).findIdx? (·.1) = none := by rfl) : VGt X (.Tuple es k pos) is (gT n r) := fun G vs hv =>
  PG.imp (pg_tup hc (h G vs hv) hn hst) fun v σ H Q hw => by
  obtain ⟨F, env, d, k, ok, gv, hg, q⟩ := hw
  cases d with
  | tuple ds =>
    obtain ⟨hl, hg⟩ := hg
    have key : ∃ a xs, v = .ref a ∧ SqT X.K H a xs ∧ DtAll X.K F xs ds := by
      rcases gv with r | ⟨a, xs, ds', rfl, h1, h2, e⟩
      · cases r with
        | tup h1 h2 =>
          exact ⟨_, _, rfl, h1.sqT.imp (fun z => z.imp (fun e => ok.sub _ _ e) fun ⟨o, e⟩ => ⟨o, ok.sub _ _ e⟩) id, h2⟩
      · cases e; exact ⟨a, xs, rfl, h1, h2⟩
    obtain ⟨a, xs, rfl, h1, h2⟩ := key
    exact ⟨a, xs, rfl, h1, by rw [h2.length]; exact hl, F, env, ds, k, ok, h2, hg, q⟩
  | none => exact hg.elim
  | bool _ => exact hg.elim
  | int _ => exact hg.elim
  | str _ => exact hg.elim
  | list _ => exact hg.elim
  | dict _ => exact hg.elim
theorem VGt.vg (h : VGt X e is g) : VG X e is g := fun G vs hv => PG.imp (h G vs hv) fun v σ H Q hw => by
  obtain ⟨F, env, d, k, ok, r, hg, q⟩ := hw
  exact ⟨F, env, d, k, ok, .inl r, hg, q⟩
end
end VL

/-! VlI: what is walked; for, while; list comprehensions. -/
namespace VL
open PySem PySem.Spec PyProof.Rows L2

/-! ### walks -/
abbrev FW := Env → (List D → Env → Prop) → KX → Prop
/-- J gives the data ds, one by one, while the frozen part F stands; pr: it may give new pairs -/
structure Wk (K : Fg) (F : Hp) (J : It) (ds : List D) (pr : Bool) : Prop where
  go : ∀ i H, i < ds.length → Le F H → J.go i H
  stop : ∀ H, Le F H → J.stop ds.length H
  yld : ∀ i H x H', i < ds.length → Le F H → J.yld i H x H' → ∃ d, ds[i]? = some d ∧
    ((H' = H ∧ Dt K F x d) ∨ (pr = true ∧ ∃ T xs es, x = .ref T ∧ H T = none ∧ H' = upd H T (.tup xs) ∧ d = .tuple es ∧ DtAll K F xs es))
def liftI (K : Fg) (mg : Mg) (G : Gh) (W : KX) (pr : Bool) (w : FW) : TI := fun σ H R => ∃ F env Q, EnvOk K mg G F H σ env ∧ w env Q W ∧
  ∀ ds env' F' H' J, EnvOk K mg G F' H' σ env' → Le F F' → Wk K F' J ds pr → Q ds env' → R J H'
def VI (gp : Gp) (X : Cx) (tg iter : Expr) (pr : Bool) (w : FW) : Prop := ∀ G W, Tk gp X G W → PI X tg iter (liftI X.K X.mg G W pr w)
theorem PI.imp {X : Cx} {tg e : Expr} {t t' : TI} (h : PI X tg e t) (i : ∀ σ H R, t' σ H R → t σ H R) : PI X tg e t' := ⟨fun pins s σ H R I q => h.run pins s σ H R I (i σ H R q)⟩
def chD (z : Str) : List D := z.cps.toList.map fun c => .str ⟨#[c]⟩
def seqOf : Ar → Option (List D)
  | .d (.list ds) => some ds
  | .d (.tuple ds) => some ds
  | .d (.str z) => some (chD z)
  | _ => none
def fSq (fe : FE) : FW := fun env Q W => fe env (fun r e1 => bindP (lkR e1 r) fun x => bindP (seqOf x.1) fun ds => Q ds x.2) W
/-- a list, a tuple or a text -/
def iAny (K : Fg) (te : TE) : TI := fun σ H R => te σ H fun x H1 =>
  (∃ a xs, x = .ref a ∧ SqL K H1 a xs ∧ R (Itl K a) H1) ∨ (∃ a xs, x = .ref a ∧ SqT K H1 a xs ∧ R (Itt K a) H1) ∨ ∃ z, x = .str z ∧ R (Its z) H1
section
variable {X : Cx} {tg e : Expr} {te : TE} {fe : FE} {pos : Pos}
theorem pi_any (he : PE X e te) : PI X tg e (iAny X.K te) := by
  refine ⟨fun pins s σ H R I h => thn (he.run pins s σ H _ I h) fun v s1 ⟨x, H1, J1, rx, q1⟩ => ?_⟩
  have one : ∀ b, b ∈ [s1.heap.objs.size] → FpOk X pins H1 b := fun b hb => by
    rw [List.mem_singleton.mp hb]
    exact J1.fpOk (Nat.le_refl _) (J1.hok.fresh (Nat.le_refl _))
  rcases q1 with ⟨a, xs, rfl, hq, q⟩ | ⟨a, xs, rfl, hq, q⟩ | ⟨z, rfl, q⟩
  · cases rx
    obtain ⟨us, _, p, _⟩ := J1.list hq
    exact wpAny_pyIter_list p.isList ⟨_, [s1.heap.objs.size], _, _, H1, rfl, J1.kept (t' := s1.toks) fun b o z => Heap.get?_push_of_some _ z, turn_list a _, ⟨_, Heap.get?_push_size _ rfl, rfl, rfl⟩, one, q⟩
  · cases rx
    obtain ⟨us, _, p, _⟩ := J1.tuple hq
    exact wpAny_pyIter_tuple (show s1.heap.IsTuple a us.toArray from p) ⟨_, [s1.heap.objs.size], _, _, H1, rfl, J1.kept (t' := s1.toks) fun b o z => Heap.get?_push_of_some _ z, turn_tuple a _, ⟨_, Heap.get?_push_size _ rfl, rfl, rfl⟩, one, q⟩
  · obtain ⟨t, rfl⟩ := rx
    cases ha : z.cps.all (· < 128)
    · exact wpAny_pyIter_wide ha (pi_one (tk := s1.toks) J1 _ (turn_str _ z t "str_iterator" (.inr rfl)) ⟨_, Heap.get?_push_size _ rfl, rfl, rfl⟩ q)
    · exact wpAny_pyIter_ascii ha (pi_one (tk := s1.toks) J1 _ (turn_str _ z t "str_ascii_iterator" (.inl rfl)) ⟨_, Heap.get?_push_size _ rfl, rfl, rfl⟩ q)
theorem DtAll.at {K : Fg} {F : Hp} : ∀ {vs : List V} {ds : List D} (_ : DtAll K F vs ds) {i : Nat} {v : V} (_ : vs[i]? = some v), ∃ d, ds[i]? = some d ∧ Dt K F v d
  | _, _, .nil, i, v, e => by simp at e
  | _, _, .cons a r, 0, v, e => by simp at e; subst e; exact ⟨_, rfl, a⟩
  | _, _, .cons a r, i + 1, v, e => by simpa using DtAll.at r (by simpa using e)
theorem wk_list {K : Fg} {F : Hp} {a : Addr} {xs : List V} {ds : List D} (h : SqL K F a xs) (r : DtAll K F xs ds) : Wk K F (Itl K a) ds false := by
  have hl := r.length
  have w := walk_list (K := K) (a := a) (xs := xs)
  refine ⟨fun i H hi l => w.goes i H (by omega) (sqL_le l h), fun H l => by rw [← hl]; exact w.stops H (sqL_le l h), fun i H x H' hi l y => ?_⟩
  obtain ⟨e1, e2⟩ := w.yields i H x H' (by omega) (sqL_le l h) y
  obtain ⟨d, e3, q⟩ := r.at e2
  exact ⟨d, e3, .inl ⟨e1, q⟩⟩
theorem wk_tup {K : Fg} {F : Hp} {a : Addr} {xs : List V} {ds : List D} (h : SqT K F a xs) (r : DtAll K F xs ds) : Wk K F (Itt K a) ds false := by
  have hl := r.length
  have w := walk_tup (K := K) (a := a) (xs := xs)
  refine ⟨fun i H hi l => w.goes i H (by omega) (sqT_le l h), fun H l => by rw [← hl]; exact w.stops H (sqT_le l h), fun i H x H' hi l y => ?_⟩
  obtain ⟨e1, e2⟩ := w.yields i H x H' (by omega) (sqT_le l h) y
  obtain ⟨d, e3, q⟩ := r.at e2
  exact ⟨d, e3, .inl ⟨e1, q⟩⟩
theorem wk_str {K : Fg} {F : Hp} {z : Str} : Wk K F (Its z) (chD z) false := by
  have hl : (chD z).length = z.cps.size := by unfold chD; rw [List.length_map]; exact Array.length_toList
  refine ⟨fun i H hi _ => by show i < z.cps.size; omega, fun H _ => by show z.cps.size ≤ _; omega, fun i H x H' hi _ y => ?_⟩
  obtain ⟨e1, c, e2, rfl⟩ := y
  refine ⟨.str ⟨#[c]⟩, ?_, .inl ⟨e1, .str _⟩⟩
  unfold chD
  rw [List.getElem?_map, Array.getElem?_toList, e2] <;> rfl
theorem vi_sq (he : VE gp X e fe) : VI gp X tg e false (fSq fe) := fun G W t => PI.imp (pi_any (he G W t)) fun σ H R hw => by
  obtain ⟨F, env, Q, ok, hf, q⟩ := hw
  refine ⟨F, env, _, ok, hf, fun r e1 v F1 H1 ok1 l1 rr hq => ?_⟩
  obtain ⟨⟨x, e2⟩, ex, hq⟩ := bindP_of hq
  obtain ⟨ds, es, hq⟩ := bindP_of hq
  obtain ⟨F2, ok2, l2, ax⟩ := rr.leak ok1 ex
  cases x with
  | g x => cases es
  | s x => cases es
  | d d =>
    cases d with
    | list xs =>
      cases es
      cases ax with
      | lst h r => exact .inl ⟨_, _, rfl, sqL_le ok2.sub h.sqL, q _ e2 F2 H1 _ ok2 (l1.trans l2) (wk_list h.sqL r) hq⟩
    | tuple xs =>
      cases es
      cases ax with
      | tup h r => exact .inr (.inl ⟨_, _, rfl, sqT_le ok2.sub h.sqT, q _ e2 F2 H1 _ ok2 (l1.trans l2) (wk_tup h.sqT r) hq⟩)
    | str z =>
      cases es
      cases ax
      exact .inr (.inr ⟨_, rfl, q _ e2 F2 H1 _ ok2 (l1.trans l2) wk_str hq⟩)
    | _ => cases es
/-- range(..) -/
def fRgI1 (fa : FE) : FW := fun env Q W => fI fa env (fun n e1 => (-1000000000 ≤ n ∧ n ≤ 1000000000) ∧ Q (rgD 0 n) e1) W
def fRgI2 (fa fb : FE) : FW := fun env Q W => fI fa env (fun i e1 => fI fb e1 (fun j e2 => (-1000000000 ≤ i ∧ i ≤ 1000000000 ∧ -1000000000 ≤ j ∧ j ≤ 1000000000) ∧ Q (rgD i j) e2) W) W
theorem wk_range {K : Fg} {F : Hp} (a b : Int) : Wk K F (Itr a (b - a).toNat) (rgD a b) false := by
  have hl := rgD_length a b
  refine ⟨fun i H hi _ => by show i < (b - a).toNat; omega, fun H _ => by show (b - a).toNat ≤ _; omega, fun i H x H' hi _ y => ?_⟩
  obtain ⟨e1, rfl⟩ := y
  refine ⟨.int (a + i), ?_, .inl ⟨e1, .int _⟩⟩
  unfold rgD
  rw [List.getElem?_map, List.getElem?_range (by omega)] <;> rfl
theorem vi_rg1 {a : Expr} {fa : FE} {p pos : Pos} (hg : Gl X "range") (hm : X.mg "range" = none) (ha : VE gp X a fa) (hs : starEach [a] X.env = [(false, eval a X.env)] := by rfl) (hs' : starEach [a] X.env = (false, eval a X.env) :: starEach [] X.env := by rfl) :
    VI gp X tg (.Call (.Name "range" p) [a] [] pos) false (fRgI1 fa) := fun G W t => PI.imp (pi_range1 hg hm (pa_cons (ha G W t) pa_nil hs') hs) fun σ H R hw => by
  obtain ⟨F, env, Q, ok, hf, q⟩ := hw
  refine lift_i ok hf fun n e1 F1 H1 ok1 l1 hq => ⟨n, rfl, by omega, by omega, ?_⟩
  have w := wk_range (K := X.K) (F := F1) 0 n
  rw [Int.sub_zero] at w
  exact q _ e1 F1 H1 _ ok1 l1 w hq.2
theorem vi_rg2 {a b : Expr} {fa fb : FE} {p pos : Pos} (hg : Gl X "range") (hm : X.mg "range" = none) (ha : VE gp X a fa) (hb : VE gp X b fb) (hs : starEach [a, b] X.env = [(false, eval a X.env), (false, eval b X.env)] := by rfl)
    (hs2 : starEach [b] X.env = [(false, eval b X.env)] := by rfl) (hs' : starEach [a, b] X.env = (false, eval a X.env) :: starEach [b] X.env := by rfl) (hs'' : starEach [b] X.env = (false, eval b X.env) :: starEach [] X.env := by rfl) :
    VI gp X tg (.Call (.Name "range" p) [a, b] [] pos) false (fRgI2 fa fb) := fun G W t => PI.imp (pi_range2 hg hm (pa_cons (ha G W t) (pa_cons (hb G W t) pa_nil hs'') hs') hs hs2) fun σ H R hw => by
  obtain ⟨F, env, Q, ok, hf, q⟩ := hw
  refine lift_i ok hf fun i e1 F1 H1 ok1 l1 hq => lift_i ok1 hq fun j e2 F2 H2 ok2 l2 hq => ⟨i, j, rfl, by omega, q _ e2 F2 H2 _ ok2 (l1.trans l2) (wk_range i j) hq.2⟩
end

/-! ### targets of a walk -/
def GvP (pr : Bool) (K : Fg) (F H : Hp) (v : V) (d : D) : Prop := if pr = true then Gv K F H v d else Dt K F v d
def liftGp (K : Fg) (mg : Mg) (G : Gh) (vs : List Nat) (pr : Bool) (g : FG) : TG := fun v σ H Q => ∃ F env d k, EnvOk K mg G F H σ env ∧ GvP pr K F H v d ∧ g d env k ∧
  ∀ σ' env', wipe σ' vs = wipe σ vs → EnvOk K mg G F H σ' env' → k env' → Q σ' H
def VGp (X : Cx) (tg : Expr) (is : List Nat) (pr : Bool) (g : FG) : Prop := ∀ G vs, (∀ i ∈ is, i ∈ vs) → PG X tg (liftGp X.K X.mg G vs pr g)
theorem VG.p {X : Cx} {tg : Expr} {is : List Nat} {g : FG} (h : VG X tg is g) : VGp X tg is false g := fun G vs hv => PG.imp (h G vs hv) fun v σ H Q hw => hw
theorem VGt.p {X : Cx} {tg : Expr} {is : List Nat} {g : FG} {pr : Bool} (h : VGt X tg is g) : VGp X tg is pr g := fun G vs hv => PG.imp (h G vs hv) fun v σ H Q hw => by
  obtain ⟨F, env, d, k, ok, r, q⟩ := hw
  refine ⟨F, env, d, k, ok, ?_, q⟩
  cases pr with
  | true => exact r
  | false => exact .inl r
/-- a turn's item at hand: the slots as they were, the item as the target takes it -/
theorem Wk.item {K : Fg} {mg : Mg} {G : Gh} {F F1 H H' : Hp} {σ : L2.St} {env : Env} {J : It} {ds : List D} {pr : Bool} {i : Nat} {x : V} (w : Wk K F1 J ds pr) (ok : EnvOk K mg G F H σ env) (l : Le F1 F) (hi : i < ds.length) (y : J.yld i H x H') :
    ∃ d, ds[i]? = some d ∧ EnvOk K mg G F H' σ env ∧ GvP pr K F H' x d ∧ ∀ p o, H p = some o → H' p = some o := by
  obtain ⟨d, e, h⟩ := w.yld i H x H' hi (l.trans ok.sub) y
  refine ⟨d, e, ?_⟩
  rcases h with ⟨rfl, r⟩ | ⟨rfl, T, xs, es, rfl, hT, rfl, rfl, r⟩
  · refine ⟨ok, ?_, fun p o e => e⟩
    unfold GvP
    split
    · exact .inl (r.le l)
    · exact r.le l
  · refine ⟨ok.newH hT, ?_, fun p o e => by rw [upd_ne (ne_of_none e hT)]; exact e⟩
    unfold GvP
    rw [if_pos rfl]
    exact .inr ⟨T, xs, es, rfl, .inl (.inl upd_same), r.le l, rfl⟩

/-! ### for -/
def sForL (g : FG) (body : FS) (E : EndV) (W : KX) : List D → Env → Prop
  | [], env => E.nx env
  | d :: ds, env => g d env fun e1 => body e1 { nx := sForL g body E W ds, rt := E.rt, bk := E.nx, ct := sForL g body E W ds } W
def sFor (w : FW) (g : FG) (body : FS) : FS := fun env E W => w env (fun ds e1 => sForL g body E W ds e1) W
@[simp] theorem sForL_nil {g : FG} {body : FS} {E : EndV} {W : KX} {env : Env} : sForL g body E W [] env = E.nx env := rfl
theorem sForL_cons {g : FG} {body : FS} {E : EndV} {W : KX} {d : D} {ds : List D} {env : Env} : sForL g body E W (d :: ds) env = g d env fun e1 => body e1 { nx := sForL g body E W ds, rt := E.rt, bk := E.nx, ct := sForL g body E W ds } W := rfl
theorem drop_at {ds : List D} {i : Nat} {d : D} (e : ds[i]? = some d) : ds.drop i = d :: ds.drop (i + 1) := by
  obtain ⟨h, rfl⟩ := List.getElem?_eq_some_iff.mp e
  exact List.drop_eq_getElem_cons h
section
variable {X : Cx} {tg iter : Expr} {body orelse : List Stmt} {w : FW} {g : FG} {gb : FS} {pr : Bool} {is : List Nat} {pos : Pos}
theorem vs_for (hp : PassesOwn (model X.prog X.w) X.A X.env X.xe) (hc : X.calm = true) (hi : VI gp X tg iter pr w) (hg : VGp X tg is pr g) (hb : VSs gp X body gb) (hs : ∀ x, foldedSetIterable iter X.env x = pure x := by intro _; rfl) :
    VS gp X (.For tg iter body [] pos) (sFor w g gb) := fun G W gk tk => PS.imp (ps_for hp hc (hi G W tk) (hg G is fun _ h => h) (hb G W gk tk) hs) fun Dn σ H hw => by
  obtain ⟨F, env, E, ok, hf, k1, k2, k3, k4⟩ := hw
  refine ⟨F, env, _, ok, hf, fun ds e1 F1 H1 J ok1 l1 wk q => ?_⟩
  refine ⟨fun i m σ H => i + m = ds.length ∧ ∃ F2 e2, EnvOk X.K X.mg G F2 H σ e2 ∧ Le F1 F2 ∧ sForL g gb E W (ds.drop i) e2, ⟨ds.length, Nat.zero_add _, F1, e1, ok1, Le.refl _, q⟩, fun i m σ2 H2 hW => ?_⟩
  obtain ⟨em, F2, e2, ok2, l2, q2⟩ := hW
  by_cases hlt : i < ds.length
  · refine .inr ⟨wk.go i H2 hlt (l2.trans ok2.sub), fun σ' H' => ∃ F3 e3, EnvOk X.K X.mg G F3 H' σ' e3 ∧ Le F1 F3 ∧ sForL g gb E W (ds.drop (i + 1)) e3, fun σ' H' ⟨F3, e3, ok3, l3, q3⟩ => ⟨m - 1, by omega, by omega, F3, e3, ok3, l3, q3⟩, fun x H' y => ?_⟩
    obtain ⟨d, ed, ok3, gv, _⟩ := wk.item ok2 l2 hlt y
    rw [drop_at ed, sForL_cons] at q2
    refine ⟨F2, e2, d, _, ok3, gv, q2, fun σ4 e4 _ ok4 q4 => ?_⟩
    refine ⟨F2, e4, _, ok4, q4, fun σ5 F5 H5 e5 ok5 l5 q5 => ⟨F5, e5, ok5, l2.trans l5, q5⟩, fun σ5 F5 H5 e5 ok5 l5 q5 => k1 σ5 F5 H5 e5 ok5 (l1.trans (l2.trans l5)) q5,
      fun σ5 F5 H5 e5 ok5 l5 q5 => ⟨F5, e5, ok5, l2.trans l5, q5⟩, fun σ5 F5 H5 e5 m v ok5 l5 => k4 σ5 F5 H5 e5 m v ok5 (l1.trans (l2.trans l5))⟩
  · have e : i = ds.length := by omega
    subst e
    rw [List.drop_length] at q2
    exact .inl ⟨wk.stop H2 (l2.trans ok2.sub), k1 σ2 F2 H2 e2 ok2 (l1.trans l2) q2⟩

/-! ### while -/
def sWhile (c : FT) (body : FS) : FS := fun env E W => ∃ I : Nat → Env → Prop, (∃ n, I n env) ∧ ∀ n e, I n e → c e (fun b e1 => if b = true then body e1 { nx := fun e2 => ∃ m, m < n ∧ I m e2, rt := E.rt, bk := E.nx, ct := fun e2 => ∃ m, m < n ∧ I m e2 } W else E.nx e1) W
theorem vs_while {c : Expr} {t : FT} (hp : PassesOwn (model X.prog X.w) X.A X.env X.xe) (hc : VT gp X c t) (hb : VSs gp X body gb) : VS gp X (.While c body [] pos) (sWhile t gb) := fun G W gk tk => PS.imp (ps_while hp (hc G W tk) (hb G W gk tk)) fun Dn σ H hw => by
  obtain ⟨F, env, E, ok, ⟨I, ⟨n0, h0⟩, turn⟩, k1, k2, k3, k4⟩ := hw
  refine ⟨fun n σ H => ∃ F2 e2, EnvOk X.K X.mg G F2 H σ e2 ∧ Le F F2 ∧ I n e2, ⟨n0, F, env, ok, Le.refl _, h0⟩, fun n σ2 H2 ⟨F2, e2, ok2, l2, h2⟩ => ?_⟩
  refine ⟨F2, e2, _, ok2, turn n e2 h2, fun b e3 F3 H3 ok3 l3 q3 => ?_⟩
  cases b with
  | false => exact k1 σ2 F3 H3 e3 ok3 (l2.trans l3) q3
  | true =>
    refine ⟨fun σ' H' => ∃ m, m < n ∧ ∃ F4 e4, EnvOk X.K X.mg G F4 H' σ' e4 ∧ Le F F4 ∧ I m e4, fun σ' H' h => h, F3, e3, _, ok3, q3, fun σ5 F5 H5 e5 ok5 l5 ⟨m, hm, q5⟩ => ⟨m, hm, F5, e5, ok5, l2.trans (l3.trans l5), q5⟩,
      fun σ5 F5 H5 e5 ok5 l5 q5 => k1 σ5 F5 H5 e5 ok5 (l2.trans (l3.trans l5)) q5, fun σ5 F5 H5 e5 ok5 l5 ⟨m, hm, q5⟩ => ⟨m, hm, F5, e5, ok5, l2.trans (l3.trans l5), q5⟩, fun σ5 F5 H5 e5 m v ok5 l5 => k4 σ5 F5 H5 e5 m v ok5 (l2.trans (l3.trans l5))⟩
end
end VL

/-! VlJ: list comprehensions by value. -/
namespace VL
open PySem PySem.Spec PyProof.Rows L2

/-- the slots of a block's own names, forgotten; and as they were -/
def wipeS (sl : Slots) : List Nat → Slots
  | [] => sl
  | v :: vs => (wipeS sl vs).set v none
def restS (old new : Slots) : List Nat → Slots
  | [] => new
  | v :: vs => (restS old new vs).set v (old[v]?.getD none)
theorem wipeS_len (sl : Slots) : ∀ vs, (wipeS sl vs).length = sl.length
  | [] => rfl
  | v :: vs => by unfold wipeS; rw [List.length_set, wipeS_len sl vs]
theorem restS_len (old new : Slots) : ∀ vs, (restS old new vs).length = new.length
  | [] => rfl
  | v :: vs => by unfold restS; rw [List.length_set, restS_len old new vs]
theorem wipeS_some {sl : Slots} {i : Nat} {m : M} : ∀ {vs}, (wipeS sl vs)[i]? = some (some m) → sl[i]? = some (some m) ∧ i ∉ vs
  | [], h => ⟨h, by simp⟩
  | v :: vs, h => by
    have h : ((wipeS sl vs).set v none)[i]? = some (some m) := h
    by_cases hi : v = i
    · subst hi
      rw [List.getElem?_set] at h
      split at h
      · split at h <;> cases h
      · cases (by assumption : ¬ v = v) rfl
    · rw [List.getElem?_set_ne hi] at h
      obtain ⟨h1, h2⟩ := wipeS_some h
      exact ⟨h1, by simp only [List.mem_cons, not_or]; exact ⟨fun e => hi e.symm, h2⟩⟩
theorem restS_some {old new : Slots} {i : Nat} {m : M} : ∀ {vs}, (restS old new vs)[i]? = some (some m) → (i ∉ vs ∧ new[i]? = some (some m)) ∨ (i ∈ vs ∧ old[i]? = some (some m))
  | [], h => .inl ⟨by simp, h⟩
  | v :: vs, h => by
    have h : ((restS old new vs).set v (old[v]?.getD none))[i]? = some (some m) := h
    by_cases hi : v = i
    · subst hi
      refine .inr ⟨by simp, ?_⟩
      rw [List.getElem?_set] at h
      split at h
      · split at h
        · cases q : old[v]? with
          | none => rw [q] at h; cases h
          | some o => rw [q] at h; exact h
        · cases h
      · cases (by assumption : ¬ v = v) rfl
    · rw [List.getElem?_set_ne hi] at h
      rcases restS_some h with ⟨h1, h2⟩ | ⟨h1, h2⟩
      · exact .inl ⟨by simp only [List.mem_cons, not_or]; exact ⟨fun e => hi e.symm, h1⟩, h2⟩
      · exact .inr ⟨List.mem_cons_of_mem _ h1, h2⟩
theorem wipe_in {σ : L2.St} {vs : List Nat} : ∀ ws : List Nat, (∀ i ∈ ws, i ∈ vs) → wipe (wipe σ ws) vs = wipe σ vs
  | [], _ => rfl
  | w :: ws, h => by
    show wipe ((wipe σ ws).set w none) vs = _
    rw [wipe_set (h w List.mem_cons_self)]
    exact wipe_in ws fun i hi => h i (List.mem_cons_of_mem _ hi)
theorem wipe_wipe {σ : L2.St} {vs : List Nat} : wipe (wipe σ vs) vs = wipe σ vs := wipe_in vs fun _ h => h
def wipeE (env : Env) (vs : List Nat) : Env := { env with sl := wipeS env.sl vs }
def restE (old new : Env) (vs : List Nat) : Env := { old with sl := restS old.sl new.sl vs }
/-- no borrowed slot among vs -/
def offB (env : Env) (vs : List Nat) : Bool := vs.all fun v => !env.bor.contains v

/-- the ghost of a turn: what stands now is kept, but what is own in a slot -/
def Gh.now (G : Gh) (F H : Hp) (σ : L2.St) (sl : Slots) : Gh := { F0 := F, H0 := H, own0 := fun a => ∃ i, OwnAt σ sl i a, bor := G.bor, T := G.T }
section
variable {K : Fg} {mg : Mg} {G : Gh} {F F' H H' : Hp} {σ σ' : L2.St} {env env' : Env} {vs : List Nat} {i : Nat} {a : Addr}
theorem own_wipe (z : OwnAt (wipe σ vs) (wipeS env.sl vs) i a) : OwnAt σ env.sl i a ∧ i ∉ vs := by
  obtain ⟨m, e1, e2, e3⟩ := z
  obtain ⟨h1, h2⟩ := wipeS_some e1
  exact ⟨⟨m, h1, e2, (wipe_some e3).1⟩, h2⟩
theorem not_bor (ok : EnvOk K mg G F H σ env) (hb : offB env vs = true) : ∀ p ∈ G.bor, p.1 ∉ vs := fun p hp hv => by
  unfold offB at hb
  have := List.all_eq_true.mp hb p.1 hv
  rw [ok.bor] at this
  have m : p.1 ∈ G.bor.map (·.1) := List.mem_map.mpr ⟨p, hp, rfl⟩
  simp [m] at this
/-- into a block's turn -/
theorem EnvOk.enter (ok : EnvOk K mg G F H σ env) (hb : offB env vs = true) : EnvOk K mg (G.now F H (wipe σ vs) (wipeS env.sl vs)) F H (wipe σ vs) (wipeE env vs) := by
  have nb := not_bor ok hb
  refine ⟨ok.sub, fun j m e => ?_, fun j k b z1 z2 => ok.apart j k b (own_wipe z1).1 (own_wipe z2).1, Le.refl _, fun b o e _ _ => e, fun b e => e, fun b o e => .inl e, fun j b z => .inl ⟨j, z⟩, ok.bor, fun p hp => ?_, fun p hp j z => ok.sep p hp j (own_wipe z).1, fun p hp e => ok.borH p hp (ok.dom _ e), ?_, ok.tabs, ok.nt⟩
  · obtain ⟨h1, h2⟩ := wipeS_some e
    obtain ⟨v, e1, r⟩ := ok.slot j m h1
    exact ⟨v, by rw [wipe_out h2]; exact e1, r⟩
  · rw [wipe_out (nb p hp)]; exact ok.borA p hp
  · show (wipeS env.sl vs).length = _
    rw [wipeS_len, wipe_length]; exact ok.len
/-- back from it -/
theorem EnvOk.back (ok : EnvOk K mg G F H σ env) (hb : offB env vs = true) (ok' : EnvOk K mg (G.now F H (wipe σ vs) (wipeS env.sl vs)) F' H' σ' env') (hw : wipe σ' vs = wipe σ vs) : EnvOk K mg G F' H' σ (restE env env' vs) := by
  have nb := not_bor ok hb
  have same : ∀ {j}, j ∉ vs → σ'[j]? = σ[j]? := fun hj => by rw [← wipe_out hj, hw, wipe_out hj]
  have keepH : ∀ {j b}, j ∈ vs → OwnAt σ env.sl j b → H' b = H b ∧ F' b = none := fun {j b} hj z => by
    obtain ⟨n1, u, hu, mu⟩ := z.some ok
    have no : ¬ (∃ i, OwnAt (wipe σ vs) (wipeS env.sl vs) i b) := fun ⟨i, z'⟩ => by
      obtain ⟨z1, z2⟩ := own_wipe z'
      exact z2 (ok.apart i j b z1 z ▸ hj)
    refine ⟨by rw [ok'.frame b u hu no mu.ntb, hu], ?_⟩
    cases q : F' b with
    | none => rfl
    | some o =>
      rcases ok'.newF b o q with z | z | z
      · rw [show F b = some o from z] at n1; cases n1
      · rw [show H b = none from z] at hu; cases hu
      · exact (no z).elim
  have back : ∀ {j b}, OwnAt σ (restS env.sl env'.sl vs) j b → (j ∉ vs ∧ OwnAt σ' env'.sl j b) ∨ (j ∈ vs ∧ OwnAt σ env.sl j b) := fun {j b} ⟨m, e1, e2, e3⟩ => by
    rcases restS_some e1 with ⟨h1, h2⟩ | ⟨h1, h2⟩
    · exact .inl ⟨h1, m, h2, e2, by rw [same h1]; exact e3⟩
    · exact .inr ⟨h1, m, h2, e2, e3⟩
  have clash : ∀ {j k b}, (j ∉ vs ∧ OwnAt σ' env'.sl j b) → (k ∈ vs ∧ OwnAt σ env.sl k b) → False := fun {j k b} z1 z2 => by
    obtain ⟨n1, u, hu, mu⟩ := z2.2.some ok
    rcases ok'.newO j b z1.2 with ⟨i, z⟩ | z
    · obtain ⟨y1, y2⟩ := own_wipe z
      exact y2 (ok.apart i k b y1 z2.2 ▸ z2.1)
    · rw [show H b = none from z] at hu; cases hu
  refine ⟨ok'.sub, fun j m e => ?_, fun j k b z1 z2 => ?_, ok.frz.trans ok'.frz, fun b o e n nt => ?_, fun b e => ok.dom b (ok'.dom b e), fun b o e => ?_, fun j b z => ?_, ok.bor, ok.borA, fun p hp j z => ?_, ok.borH, ?_, ok'.tabs, ok'.nt⟩
  · rcases restS_some e with ⟨h1, h2⟩ | ⟨h1, h2⟩
    · obtain ⟨v, e1, r⟩ := ok'.slot j m h2
      exact ⟨v, by rw [← same h1]; exact e1, r⟩
    · obtain ⟨v, e1, r⟩ := ok.slot j m h2
      exact ⟨v, e1, r.le ok'.frz fun o b eb => keepH h1 ⟨m, h2, o, by rw [e1, eb]⟩⟩
  · rcases back z1 with y1 | y1
    · rcases back z2 with y2 | y2
      · exact ok'.apart j k b y1.2 y2.2
      · exact (clash y1 y2).elim
    · rcases back z2 with y2 | y2
      · exact (clash y2 y1).elim
      · exact ok.apart j k b y1.2 y2.2
  · refine ok'.frame b o (ok.frame b o e n nt) (fun ⟨i, z⟩ => ?_) nt
    rcases ok.newO i b (own_wipe z).1 with q | q
    · exact n q
    · rw [q] at e; cases e
  · rcases ok'.newF b o e with z | z | ⟨i, z⟩
    · exact ok.newF b o z
    · exact .inr (.inl (ok.dom b z))
    · exact (ok.newO i b (own_wipe z).1).elim (fun q => .inr (.inr q)) fun q => .inr (.inl q)
  · rcases back z with y | y
    · rcases ok'.newO j b y.2 with ⟨i, q⟩ | q
      · exact ok.newO i b (own_wipe q).1
      · exact .inr (ok.dom b q)
    · exact ok.newO j b y.2
  · rcases back z with y | y
    · exact ok'.sep p hp j y.2
    · exact ok.sep p hp j y.2
  · show (restS env.sl env'.sl vs).length = _
    rw [restS_len, ok'.len, ← wipe_length σ' vs, hw, wipe_length]
/-- a thing that nobody holds is changed -/
theorem EnvOk.other (ok : EnvOk K mg G F H σ env) {u u0 : HO} (h0 : H a = some u0) (o0 : OwnHO u0) (hF : F a = none) (hn : ∀ i, ¬ OwnAt σ env.sl i a) (hG : G.H0 a = none) : EnvOk K mg G F (upd H a u) σ env := by
  refine ⟨fun b w e => ?_, fun j m e => ?_, ok.apart, ok.frz, fun b w e n nt => ?_, fun b e => ok.dom b ?_, ok.newF, ok.newO, ok.bor, ok.borA, ok.sep, ok.borH, ok.len, tabs_upd ok.tabs h0 o0, ok.nt⟩
  · have hb : b ≠ a := fun z => by rw [z, hF] at e; cases e
    rw [upd_ne hb]; exact ok.sub _ _ e
  · obtain ⟨v, e1, r⟩ := ok.slot j m e
    refine ⟨v, e1, r.le (Le.refl _) fun o b eb => ?_⟩
    have z : OwnAt σ env.sl j b := ⟨m, e, o, by rw [e1, eb]⟩
    have hb : b ≠ a := fun q => hn j (q ▸ z)
    exact ⟨upd_ne hb, (z.some ok).1⟩
  · have hb : b ≠ a := fun z => by rw [z, hG] at e; cases e
    rw [upd_ne hb]; exact ok.frame _ _ e n nt
  · by_cases hb : b = a
    · subst hb; rw [upd_same] at e; cases e
    · rw [upd_ne hb] at e; exact e
end

/-! ### the block's readings, whatever the turn's ghost is -/
def W0 : KX := fun _ _ => False
/-- what holds on in a block's turns -/
def Stb (gp : Gp) : Prop := ∀ G F H σ sl, gp G → gp (G.now F H σ sl)
theorem stbT {T : List NdefX.NTab} : Stb (gpT T) := fun _ _ _ _ _ h => h
def someE (gp : Gp) (K : Fg) (mg : Mg) (f : FE) : TE := fun σ H Q => ∃ G, gp G ∧ liftE K mg G W0 f σ H Q
def someT (gp : Gp) (K : Fg) (mg : Mg) (f : FT) : TT := fun σ H Q => ∃ G, gp G ∧ liftT K mg G W0 f σ H Q
def someG (K : Fg) (mg : Mg) (vs : List Nat) (pr : Bool) (g : FG) : TG := fun v σ H Q => ∃ G, liftGp K mg G vs pr g v σ H Q
/-- a clause's tests -/
def VTs (gp : Gp) (X : Cx) (ifs : List Expr) (f : FT) : Prop := ∀ G W, Tk gp X G W → PTs X ifs (liftT X.K X.mg G W f)
def fYes : FT := fun env Q _ => Q true env
section
variable {X : Cx}
theorem vts_nil : VTs gp X [] fYes := fun G W t => ⟨fun pins s σ H Q I hw => by
  obtain ⟨F, env, Q', ok, hf, q⟩ := hw
  exact pts_nil.run pins s σ H Q I (q true env F H ok (Le.refl _) hf)⟩
theorem vts_one {c : Expr} {f : FT} (h : VT gp X c f) : VTs gp X [c] f := fun G W t => pts_one (h G W t)
end
/-- no exception is let out of a block -/
theorem takes_blk {X : Cx} {G : Gh} (hx : X.xe = fun _ _ => False) : Takes X (liftW X.K X.mg G W0) := fun u s' x => by
  obtain ⟨a, B, sI, pins, σ, H, cls, d, _, _, _, _, _, _, _, _, w⟩ := x
  obtain ⟨ex, F, env, _, _, h⟩ := w
  exact h.elim

/-! ### [elt for target in iter if ..] -/
def fLcL (vs : List Nat) (g : FG) (ft : FT) (fe : FE) : List D → Env → (List D → Env → Prop) → Prop
  | [], env, k => k [] env
  | d :: ds, env, k => g d (wipeE env vs) fun e1 => ft e1 (fun b e2 =>
      if b = true then fe e2 (fun r e3 => bindP (lkR e3 r) fun x => bindP (dOf x.1) fun y => fLcL vs g ft fe ds (restE env x.2 vs) fun ys e4 => k (y :: ys) e4) W0
      else fLcL vs g ft fe ds (restE env e2 vs) k) W0
def fLc (w : FW) (vs : List Nat) (g : FG) (ft : FT) (fe : FE) : FE := fun env Q W => w env (fun ds e1 => offB e1 vs = true ∧ ds.length ≤ 16777216 ∧ fLcL vs g ft fe ds e1 fun ys e2 => Q (.val (.lst ys)) e2) W
section
variable {X : Cx} {elt tg iter : Expr} {ifs : List Expr} {scope : Scope} {own : List (Str × Nat)} {is : List Nat} {pos : Pos} {w : FW} {pr : Bool} {g : FG} {ft : FT} {fe : FE}
/-- the turns of a comprehension's reading, by value -/
theorem lc_lift {gp : Gp} (stb : Stb gp) {G : Gh} (hp : gp G) {W : KX} {σ : L2.St} {H : Hp} {Qh : VK} {vs : List Nat} (hw : liftE X.K X.mg G W (fLc w vs g ft fe) σ H Qh) : tLc (liftI X.K X.mg G W pr w) (someG X.K X.mg vs pr g) (someT gp X.K X.mg ft) (someE gp X.K X.mg fe) vs σ H Qh := by
  obtain ⟨F, env, Q, ok, hf, q⟩ := hw
  refine ⟨F, env, _, ok, hf, fun ds e1 F1 H1 J ok1 l1 wk hq => ?_⟩
  obtain ⟨hb, hz, hq⟩ := hq
  intro D hD
  -- the invariant: the list at D, what is left to do
  refine ⟨fun i m H => i + m = ds.length ∧ ∃ F2 e2 accV acc, EnvOk X.K X.mg G F2 H σ e2 ∧ Le F1 F2 ∧ offB e2 vs = true ∧ H D = some (.lst accV) ∧ F2 D = none ∧ G.H0 D = none ∧ (∀ j, ¬ OwnAt σ e2.sl j D) ∧ DtAll X.K F2 accV acc ∧ acc.length ≤ i ∧
      fLcL vs g ft fe (ds.drop i) e2 fun ys e3 => Q (.val (.lst (acc ++ ys))) e3, ⟨ds.length, Nat.zero_add _, F1, e1, [], [], ok1.newH hD, Le.refl _, hb, upd_same, ?_, ok1.dom _ hD, fun j z => ?_, .nil, Nat.le_refl _, hq⟩, fun i m H2 hW => ?_⟩
  · cases e : F1 D with
    | none => rfl
    | some o => rw [ok1.sub _ _ e] at hD; cases hD
  · obtain ⟨_, u, hu, _⟩ := z.some ok1
    rw [hD] at hu; cases hu
  obtain ⟨em, F2, e2, accV, acc, ok2, l2, hb2, hDa, hFD, hGD, hnD, racc, hlen, q2⟩ := hW
  by_cases hlt : i < ds.length
  · refine .inr ⟨wk.go i H2 hlt (l2.trans ok2.sub), fun H' => ∃ F3 e3 accV acc, EnvOk X.K X.mg G F3 H' σ e3 ∧ Le F1 F3 ∧ offB e3 vs = true ∧ H' D = some (.lst accV) ∧ F3 D = none ∧ G.H0 D = none ∧ (∀ j, ¬ OwnAt σ e3.sl j D) ∧ DtAll X.K F3 accV acc ∧ acc.length ≤ i + 1 ∧
        fLcL vs g ft fe (ds.drop (i + 1)) e3 fun ys e4 => Q (.val (.lst (acc ++ ys))) e4, fun H' h => ⟨m - 1, by omega, by omega, h⟩, fun x H' y => ?_⟩
    obtain ⟨d, ed, ok3, gv, kH⟩ := wk.item ok2 l2 hlt y
    rw [drop_at ed] at q2
    have hDa3 := kH _ _ hDa
    -- what is known of D behind the block's steps
    have keep : ∀ {F5 H5 : Hp} {σ5 : L2.St} {e5 : Env}, EnvOk X.K X.mg (G.now F2 H' (wipe σ vs) (wipeS e2.sl vs)) F5 H5 σ5 e5 → wipe σ5 vs = wipe σ vs →
        H5 D = some (.lst accV) ∧ F5 D = none ∧ (∀ j, ¬ OwnAt σ (restE e2 e5 vs).sl j D) := fun {F5 H5 σ5 e5} ok5 w5 => by
      have no : ¬ (∃ i, OwnAt (wipe σ vs) (wipeS e2.sl vs) i D) := fun ⟨i, z⟩ => hnD i (own_wipe z).1
      refine ⟨ok5.frame D _ hDa3 no (fun ps z => by cases z), ?_, fun j z => ?_⟩
      · cases q : F5 D with
        | none => rfl
        | some o =>
          rcases ok5.newF D o q with z | z | z
          · rw [show F2 D = some o from z] at hFD; cases hFD
          · rw [show H' D = none from z] at hDa3; cases hDa3
          · exact (no z).elim
      · obtain ⟨m', z1, z2, z3⟩ := z
        rcases restS_some z1 with ⟨h1, h2⟩ | ⟨h1, h2⟩
        · have z3' : σ5[j]? = some (some (.ref D)) := by rw [← wipe_out h1, w5, wipe_out h1]; exact z3
          rcases ok5.newO j D ⟨m', h2, z2, z3'⟩ with z | z
          · exact no z
          · rw [show H' D = none from z] at hDa3; cases hDa3
        · exact hnD j ⟨m', h2, z2, z3⟩
    have okE := EnvOk.enter (vs := vs) ok3 hb2
    refine ⟨_, F2, wipeE e2 vs, d, _, okE, gv, q2, fun σ4 e4 w4 ok4 q4 => ⟨by rw [w4]; exact wipe_wipe, ?_⟩⟩
    have w4' : wipe σ4 vs = wipe σ vs := by rw [w4]; exact wipe_wipe
    refine ⟨_, stb _ _ _ _ _ hp, F2, e4, _, ok4, q4, fun b e5 F5 H5 ok5 l5 q5 => ?_⟩
    cases b with
    | false =>
      simp only [Bool.false_eq_true, if_false] at q5 ⊢
      obtain ⟨k1, k2, k3⟩ := keep ok5 w4'
      exact ⟨F5, restE e2 e5 vs, accV, acc, EnvOk.back ok3 hb2 ok5 w4', l2.trans l5, hb2, k1, k2, hGD, k3, racc.le l5, by omega, q5⟩
    | true =>
      simp only [if_true] at q5 ⊢
      refine ⟨_, stb _ _ _ _ _ hp, F5, e5, _, ok5, q5, fun r e6 v F6 H6 ok6 l6 rr q6 => ?_⟩
      obtain ⟨⟨x, e7⟩, ex, q6⟩ := bindP_of q6
      obtain ⟨yd, ey, q6⟩ := bindP_of q6
      obtain ⟨F7, ok7, l7, ax⟩ := rr.leak ok6 ex
      cases x with
      | g x => cases ey
      | s x => cases ey
      | d d7 =>
        cases ey
        obtain ⟨k1, k2, k3⟩ := keep ok7 w4'
        have l27 : Le F2 F7 := l5.trans (l6.trans l7)
        refine ⟨accV, k1, ?_, F7, restE e2 e7 vs, accV ++ [v], acc ++ [yd], EnvOk.other (EnvOk.back ok3 hb2 ok7 w4') k1 True.intro k2 k3 hGD, l2.trans l27, hb2, upd_same, k2, hGD, k3, (racc.le l27).append (.cons ax .nil), ?_, ?_⟩
        · rw [racc.length]
          have := line_of hz
          omega
        · rw [List.length_append]; simp; omega
        · simpa [List.append_assoc] using q6
  · have e : i = ds.length := by omega
    subst e
    rw [List.drop_length] at q2
    refine .inl ⟨wk.stop H2 (l2.trans ok2.sub), ?_⟩
    have q2 : Q (.val (.lst (acc ++ []))) e2 := q2
    rw [List.append_nil] at q2
    exact q (.val (.lst acc)) e2 (.ref D) F2 H2 ok2 (l1.trans l2) ⟨⟨D, accV, rfl, hDa, hFD, racc⟩, fun _ b eb => by cases eb; exact ⟨hGD, hnD⟩⟩ q2
end
end VL
namespace VL
open PySem PySem.Spec PyProof.Rows L2
section
variable {X : Cx} {elt tg iter : Expr} {ifs : List Expr} {scope : Scope} {own : List (Str × Nat)} {is : List Nat} {pos spos : Pos} {w : FW} {pr : Bool} {g : FG} {ft : FT} {fe : FE}
theorem some_g {vs : List Nat} (h : VGp X tg is pr g) (hv : ∀ i ∈ is, i ∈ vs) : PG X tg (someG X.K X.mg vs pr g) := ⟨fun pins s σ H v u Q I r ⟨G, q⟩ => (h G vs hv).run pins s σ H v u Q I r q⟩
theorem some_t (h : VTs gp X ifs ft) (hx : X.xe = fun _ _ => False) : PTs X ifs (someT gp X.K X.mg ft) := ⟨fun pins s σ H Q I ⟨G, hp, q⟩ => (h G W0 ⟨hp, takes_blk hx⟩).run pins s σ H Q I q⟩
theorem some_e (h : VE gp X elt fe) (hx : X.xe = fun _ _ => False) : PE X elt (someE gp X.K X.mg fe) := ⟨fun pins s σ H Q I ⟨G, hp, q⟩ => (h G W0 ⟨hp, takes_blk hx⟩).run pins s σ H Q I q⟩
theorem ve_lc (hc : X.calm = true) (hN : X.N.Nodup) (hi : VI gp X tg iter pr w) (ok : BlkOk X.N X.env.scope scope own)
    (hg : ∀ (s : Shared) (H : Hp) (C : Addr) (cl : List (Str × Addr)) (fp : List Addr), VGp (X.blk s H scope (compEnvC scope cl C X.env) fp) tg is pr g)
    (ht : ∀ (s : Shared) (H : Hp) (C : Addr) (cl : List (Str × Addr)) (fp : List Addr), VTs gp (X.blk s H scope (compEnvC scope cl C X.env) fp) ifs ft)
    (he : ∀ (s : Shared) (H : Hp) (C : Addr) (cl : List (Str × Addr)) (fp : List Addr), VE gp (X.blk s H scope (compEnvC scope cl C X.env) fp) elt fe) (hv : ∀ i ∈ is, i ∈ own.map (·.2) := by decide)
    (hs : ∀ x, foldedSetIterable iter X.env x = pure x := by intro _; rfl) (stb : Stb gp := by exact stbT) : VE gp X (.ListComp elt [⟨tg, iter, ifs, 0⟩] scope pos) (fLc w (own.map (·.2)) g ft fe) := fun G W t =>
  PE.imp (pe_lc hc hN (hi G W t) ok (fun s H C cl fp => some_g (hg s H C cl fp) hv) (fun s H C cl fp => some_t (ht s H C cl fp) rfl) (fun s H C cl fp => some_e (he s H C cl fp) rfl) hs) fun σ H Qh hw => lc_lift stb t.1 hw
/-- name = [..], the name a local -/
theorem vs_setLc {i : Nat} {y : Str} {py : Pos} (hc : X.calm = true) (hN : X.N.Nodup) (hy : X.N[i]? = some y) (hyl : X.env.scope.names.lookup y = some .local) (hsw : swapsWith (.ListComp elt [⟨tg, iter, ifs, 0⟩] scope pos) (some (.Name y py)) spos.line X.env = pure true)
    (hi : VI gp X tg iter pr w) (ok : BlkOk X.N X.env.scope scope own)
    (hg : ∀ (s : Shared) (H : Hp) (C : Addr) (cl : List (Str × Addr)) (fp : List Addr), VGp (X.blk s H scope (compEnvC scope cl C X.env) fp) tg is pr g)
    (ht : ∀ (s : Shared) (H : Hp) (C : Addr) (cl : List (Str × Addr)) (fp : List Addr), VTs gp (X.blk s H scope (compEnvC scope cl C X.env) fp) ifs ft)
    (he : ∀ (s : Shared) (H : Hp) (C : Addr) (cl : List (Str × Addr)) (fp : List Addr), VE gp (X.blk s H scope (compEnvC scope cl C X.env) fp) elt fe) (hv : ∀ i ∈ is, i ∈ own.map (·.2) := by decide)
    (hs : ∀ x, foldedSetIterable iter X.env x = pure x := by intro _; rfl) (stb : Stb gp := by exact stbT) : VS gp X (.Assign [.Name y py] (.ListComp elt [⟨tg, iter, ifs, 0⟩] scope pos) spos) (sSet i (fLc w (own.map (·.2)) g ft fe)) := fun G W _ t =>
  PS.imp (ps_setLc hc hN hy hyl hsw (hi G W t) ok (fun s H C cl fp => some_g (hg s H C cl fp) hv) (fun s H C cl fp => some_t (ht s H C cl fp) rfl) (fun s H C cl fp => some_e (he s H C cl fp) rfl) hs) fun Dn σ H hw => by
    obtain ⟨F, env, E, ok, hf, k1, _⟩ := hw
    refine lc_lift stb t.1 ⟨F, env, _, ok, hf, fun r e1 v F1 H1 ok1 l1 rr q => ?_⟩
    obtain ⟨e2, ee, q⟩ := bindP_of q
    obtain ⟨F2, ok2, l2⟩ := RR.store ok1 rr ee
    exact k1 _ F2 H1 e2 ok2 (l1.trans l2) q
end
end VL

/-! VlK: what a def promises, by value; calls. -/
namespace VL
open PySem PySem.Spec PyProof.Rows L2

/-- a def's promise by value: the arguments; the wanted end with what then stands in the borrowed ones; the wanted exception -/
abbrev SpV := List M → (M → List M → Prop) → (Ex → List M → Prop) → Prop
/-- the values of the borrowed slots -/
def borOf (sl : Slots) : List Nat → Option (List M)
  | [] => some []
  | i :: is => match sl[i]? with
    | some (some m) => if isOwn m = true then (match borOf sl is with
      | some ms => some (m :: ms)
      | none => none) else none
    | _ => none
theorem borOf_at {sl : Slots} : ∀ {bs : List Nat} {ms : List M}, borOf sl bs = some ms → ms.length = bs.length ∧ ∀ (k i : Nat), bs[k]? = some i → ∃ m, ms[k]? = some m ∧ sl[i]? = some (some m) ∧ isOwn m = true
  | [], ms, h => by cases h; exact ⟨rfl, fun k i e => by simp at e⟩
  | b :: bs, ms, h => by
    have h : (match sl[b]? with | some (some m) => if isOwn m = true then (match borOf sl bs with | some ms => some (m :: ms) | none => none) else none | _ => none) = some ms := h
    split at h
    · split at h
      · cases q : borOf sl bs with
        | none => rw [q] at h; cases h
        | some ms' =>
          rw [q] at h
          cases h
          obtain ⟨h1, h2⟩ := borOf_at q
          refine ⟨by rw [List.length_cons, List.length_cons, h1], fun k i e => ?_⟩
          cases k with
          | zero => simp at e; subst e; exact ⟨_, rfl, by assumption, by assumption⟩
          | succ k => simpa using h2 k i (by simpa using e)
      · cases h
    · cases h

/-- the arguments of a call, the borrowed ones at bs -/
structure ArgIn (K : Fg) (mg : Mg) (F H : Hp) (bs : List Nat) (vs : List V) (ms : List M) : Prop where
  len : vs.length = ms.length
  val : ∀ i m, ms[i]? = some m → ∃ v, vs[i]? = some v ∧ RM K mg F H m v ∧ (isOwn m = true → i ∈ bs)
  bor : ∀ i ∈ bs, ∃ m a, ms[i]? = some m ∧ isOwn m = true ∧ vs[i]? = some (.ref a)
  inj : ∀ i j a, i ∈ bs → j ∈ bs → vs[i]? = some (V.ref a) → vs[j]? = some (V.ref a) → i = j
/-- behind a call -/
structure Bk (T : List NdefX.NTab) (K : Fg) (mg : Mg) (F H : Hp) (bs : List Nat) (vs : List V) (F' H' : Hp) (bms : List M) : Prop where
  le : Le F F'
  sub : Le F' H'
  frame : ∀ a o, H a = some o → (¬ ∃ i ∈ bs, vs[i]? = some (V.ref a)) → NTb o → H' a = some o
  tabs : NdefX.TabsN T H'
  nt : ∀ a o, F' a = some o → NTb o
  dom : ∀ a, H' a = none → H a = none
  newF : ∀ a o, F' a = some o → F a = some o ∨ H a = none
  len : bms.length = bs.length
  bor : ∀ (k i : Nat) (a : Addr), bs[k]? = some i → vs[i]? = some (V.ref a) → ∃ m, bms[k]? = some m ∧ isOwn m = true ∧ RM K mg F' H' m (.ref a)
def QV (T : List NdefX.NTab) (K : Fg) (mg : Mg) (F H : Hp) (bs : List Nat) (vs : List V) (Q : M → List M → Prop) : VK := fun v H' => ∃ F' m bms, Bk T K mg F H bs vs F' H' bms ∧ RM K mg F' H' m v ∧ (isOwn m = true → ∀ a, v = .ref a → H a = none) ∧ Q m bms
def EV (T : List NdefX.NTab) (K : Fg) (mg : Mg) (F H : Hp) (bs : List Nat) (vs : List V) (E : Ex → List M → Prop) : XK := fun cls d H' => ∃ ex F' bms, Bk T K mg F H bs vs F' H' bms ∧ ExOk K mg F' H' ex cls d ∧ E ex bms
structure FnV (P : Program) (w : World) (K : Fg) (mg : Mg) (base : Heap) (T : List NdefX.NTab) (k : Nat) (f : Addr) (fd : FuncData) (ps : List Str) (bs : List Nat) (sp : SpV) : Prop where
  len : ∀ ms Q E, sp ms Q E → ms.length = ps.length
  run : ∀ (A : Around) (outer : List PySem.Env) (s : Shared) (H F : Hp) (args : Args) (us : List Value) (vs : List V) (ms : List M) (Q : M → List M → Prop) (E : Ex → List M → Prop), Room k A → A.guards = some [] → Env0 P w K mg base A outer s H → BindsTo s fd args (ps.zip us) →
    Vals vs us → Le F H → ArgIn K mg F H bs vs ms → NdefX.TabsN T H → (∀ a o, F a = some o → NTb o) → sp ms Q E → codeAny (model P w) A (.call (.ref f) args) (CR (L2.CX P w) outer P w H s (QV T K mg F H bs vs Q) (EV T K mg F H bs vs E)) s
theorem FnV.imp {P : Program} {w : World} {K : Fg} {mg : Mg} {base : Heap} {T : List NdefX.NTab} {k : Nat} {f : Addr} {fd : FuncData} {ps : List Str} {bs : List Nat} {sp sp' : SpV} (h : FnV P w K mg base T k f fd ps bs sp) (i : ∀ ms Q E, sp' ms Q E → sp ms Q E) : FnV P w K mg base T k f fd ps bs sp' :=
  ⟨fun ms Q E q => h.len ms Q E (i _ _ _ q), fun A outer s H F args us vs ms Q E a b c d e l g t n q => h.run A outer s H F args us vs ms Q E a b c d e l g t n (i _ _ _ q)⟩

/-! ### the entry -/
def ghV (T : List NdefX.NTab) (F H : Hp) (bs : List Nat) (vs : List V) : Gh := { F0 := F, H0 := H, own0 := fun a => ∃ i ∈ bs, vs[i]? = some (.ref a), bor := bs.filterMap fun i => match vs[i]? with | some (V.ref a) => some (i, a) | _ => none, T := T }
def env0 (n : Nat) (ms : List M) (bs : List Nat) : Env := { sl := ms.map some ++ List.replicate (n - ms.length) none, bor := bs }
theorem ghV_mem {T : List NdefX.NTab} {F H : Hp} {bs : List Nat} {vs : List V} {p : Nat × Addr} : p ∈ (ghV T F H bs vs).bor ↔ p.1 ∈ bs ∧ vs[p.1]? = some (.ref p.2) := by
  unfold ghV
  simp only [List.mem_filterMap]
  constructor
  · rintro ⟨i, hi, e⟩
    split at e
    · cases e; exact ⟨hi, by assumption⟩
    · cases e
  · rintro ⟨h1, h2⟩
    exact ⟨p.1, h1, by rw [h2]⟩
theorem gok_ghV {T : List NdefX.NTab} {F H : Hp} {bs : List Nat} {vs : List V} : GOk (ghV T F H bs vs) := fun a ⟨i, h1, h2⟩ => ⟨(i, a), ghV_mem.mpr ⟨h1, h2⟩, rfl⟩
theorem start_at {N : List Str} {vs : List V} {i : Nat} {v : V} (h : vs[i]? = some v) : (start N vs)[i]? = some (some v) := by
  unfold L2.start
  rw [List.getElem?_append_left (by rw [List.length_map]; exact (List.getElem?_eq_some_iff.mp h).1), List.getElem?_map, h] <;> rfl
theorem env0_at {n : Nat} {ms : List M} {bs : List Nat} {i : Nat} {m : M} (h : (env0 n ms bs).sl[i]? = some (some m)) : ms[i]? = some m := by
  have h : (ms.map some ++ List.replicate (n - ms.length) none)[i]? = some (some m) := h
  by_cases hi : i < ms.length
  · rw [List.getElem?_append_left (by rw [List.length_map]; exact hi), List.getElem?_map] at h
    cases q : ms[i]? with
    | none => rw [q] at h; cases h
    | some m' => rw [q] at h; cases h; rfl
  · rw [List.getElem?_append_right (by rw [List.length_map]; omega), List.getElem?_replicate] at h
    split at h <;> cases h
section
variable {T : List NdefX.NTab} {K : Fg} {mg : Mg} {F H F' H' : Hp} {bs : List Nat} {vs : List V} {ms bms : List M} {N : List Str}
theorem ArgIn.own (h : ArgIn K mg F H bs vs ms) {i : Nat} {a : Addr} (o : OwnAt (start N vs) (env0 N.length ms bs).sl i a) : i ∈ bs ∧ vs[i]? = some (.ref a) := by
  obtain ⟨m, e1, e2, e3⟩ := o
  obtain ⟨v, h1, _, h2⟩ := h.val i m (env0_at e1)
  rw [start_at h1] at e3
  cases e3
  exact ⟨h2 e2, h1⟩
theorem EnvOk.start (h : ArgIn K mg F H bs vs ms) (l : Le F H) (ht : NdefX.TabsN T H) (nt : ∀ a o, F a = some o → NTb o) (hn : vs.length ≤ N.length) : EnvOk K mg (ghV T F H bs vs) F H (start N vs) (env0 N.length ms bs) := by
  refine ⟨l, fun i m e => ?_, fun i j a z1 z2 => ?_, Le.refl _, fun a o e _ _ => e, fun a e => e, fun a o e => .inl e, fun i a z => .inl ⟨i, h.own z⟩, ?_, fun p hp => start_at (ghV_mem.mp hp).2, fun p hp i z => ?_, fun p hp => ?_, ?_, ht, nt⟩
  · obtain ⟨v, h1, r, _⟩ := h.val i m (env0_at e)
    exact ⟨v, start_at h1, r⟩
  · obtain ⟨a1, a2⟩ := h.own z1
    obtain ⟨b1, b2⟩ := h.own z2
    exact h.inj i j a a1 b1 a2 b2
  · show bs = (ghV T F H bs vs).bor.map (·.1)
    have all : ∀ l : List Nat, (∀ i ∈ l, ∃ a, vs[i]? = some (V.ref a)) → (l.filterMap fun i => match vs[i]? with | some (V.ref a) => some (i, a) | _ => none).map (·.1) = l := by
      intro l
      induction l with
      | nil => intro _; rfl
      | cons i l ih =>
        intro hl
        obtain ⟨a, e⟩ := hl i List.mem_cons_self
        rw [List.filterMap_cons, e]
        show i :: _ = _
        rw [ih fun j hj => hl j (List.mem_cons_of_mem _ hj)]
    exact (all bs fun i hi => let ⟨m, a, _, _, e⟩ := h.bor i hi; ⟨a, e⟩).symm
  · obtain ⟨a1, a2⟩ := h.own z
    obtain ⟨b1, b2⟩ := ghV_mem.mp hp
    exact h.inj i p.1 p.2 a1 b1 a2 b2
  · obtain ⟨b1, b2⟩ := ghV_mem.mp hp
    obtain ⟨m, a, h1, h2, h3⟩ := h.bor p.1 b1
    obtain ⟨v, h4, r, _⟩ := h.val _ _ h1
    obtain ⟨a', u, e, _, hu, _⟩ := r.own h2
    rw [b2] at h4
    cases h4
    cases e
    intro z
    rw [show H p.2 = none from z] at hu; cases hu
  · show (ms.map some ++ List.replicate (N.length - ms.length) none).length = _
    have hl := h.len
    unfold L2.start
    simp only [List.length_append, List.length_map, List.length_replicate]
    omega
/-- at the end of the body -/
theorem EnvOk.back_of (h : ArgIn K mg F H bs vs ms) {σ : L2.St} {env : Env} (ok : EnvOk K mg (ghV T F H bs vs) F' H' σ env) (hb : borOf env.sl bs = some bms) : Bk T K mg F H bs vs F' H' bms := by
  obtain ⟨hl, hat⟩ := borOf_at hb
  have one : ∀ (k i : Nat) (a : Addr), bs[k]? = some i → vs[i]? = some (V.ref a) → ∃ m, bms[k]? = some m ∧ isOwn m = true ∧ env.sl[i]? = some (some m) ∧ σ[i]? = some (some (V.ref a)) := fun k i a e1 e2 => by
    obtain ⟨m, h1, h2, h3⟩ := hat k i e1
    exact ⟨m, h1, h3, h2, ok.borA (i, a) (ghV_mem.mpr ⟨List.mem_of_getElem? e1, e2⟩)⟩
  refine ⟨ok.frz, ok.sub, fun a o e n nt => ok.frame a o e n nt, ok.tabs, ok.nt, ok.dom, fun a o e => ?_, hl, fun k i a e1 e2 => ?_⟩
  · rcases ok.newF a o e with z | z | ⟨i, hi, z⟩
    · exact .inl z
    · exact .inr z
    · obtain ⟨k, hk⟩ := List.mem_iff_getElem?.mp hi
      obtain ⟨m, h1, h2, h3, h4⟩ := one k i a hk z
      have o : OwnAt σ env.sl i a := ⟨m, h3, h2, h4⟩
      rw [(o.some ok).1] at e; cases e
  · obtain ⟨m, h1, h2, h3, h4⟩ := one k i a e1 e2
    obtain ⟨v, h5, r⟩ := ok.slot i m h3
    rw [h4] at h5
    cases h5
    exact ⟨m, h1, h2, r⟩
end

/-- the ends of a body, from the promise's -/
def endV (bs : List Nat) (Q : M → List M → Prop) : EndV := { nx := fun e => bindP (borOf e.sl bs) fun b => Q (.fz .none) b, rt := fun m e => bindP (borOf e.sl bs) fun b => Q m b }
def endX (bs : List Nat) (E : Ex → List M → Prop) : KX := fun ex e => bindP (borOf e.sl bs) fun b => E ex b
/-- the body's reading at the entry -/
def bodyV (n np : Nat) (bs : List Nat) (g : FS) : SpV := fun ms Q E => ms.length = np ∧ g (env0 n ms bs) (endV bs Q) (endX bs E)
section
variable {P : Program} {w : World} {K : Fg} {mg : Mg} {base : Heap} {T : List NdefX.NTab}
/-- a def called in one state, its body's reading told for that state -/
theorem fnv_run {gp : Gp} {k : Nat} {x qual : Str} {st : Stmt} {f : Addr} {fd : FuncData} {N ps : List Str} {bs : List Nat} {g : FS} (D : Fun K x qual st f fd) (S : FnScope N ps (defScope st))
    {A : Around} {outer : List PySem.Env} {s : Shared} {H F : Hp} {args : Args} {us : List Value} {vs : List V} {ms : List M} {Q : M → List M → Prop} {E : Ex → List M → Prop} (room : Room (k + 1) A) (gd : A.guards = some []) (e0 : Env0 P w K mg base A outer s H) (hb : BindsTo s fd args (ps.zip us))
    (rv : Vals vs us) (l : Le F H) (ai : ArgIn K mg F H bs vs ms) (ht : NdefX.TabsN T H) (nt : ∀ a o, F a = some o → NTb o) (hg : gp (ghV T F H bs vs))
    (body : ∀ (cdv : Value), fd.code = cdv → Room k (A.deeper (envOfC qual (defScope st) s.heap.objs.size f cdv)) → (A.deeper (envOfC qual (defScope st) s.heap.objs.size f cdv)).guards = some [] →
      VSs gp (cxOf (L2.CX P w) P w K mg base N qual (defScope st) f cdv A outer s H (EV T K mg F H bs vs E)) (defBody st) g) (hsp : bodyV N.length ps.length bs g ms Q E) :
    codeAny (model P w) A (.call (.ref f) args) (CR (L2.CX P w) outer P w H s (QV T K mg F H bs vs Q) (EV T K mg F H bs vs E)) s := by
  obtain ⟨oc, od, kV, doc, pm, an, cdv, ct, osl, rfl, lk, hcd⟩ := D.ex
  obtain ⟨hlen, hbody⟩ := hsp
  have stays : ∀ b o, base.get? b = some o → s.heap.get? b = some o := fun b o e => (e0.bs b o e).1
  have hN : ps.length ≤ N.length := by have := congrArg List.length S.pre; rw [List.length_take] at this; omega
  have hvl : vs.length = ps.length := by rw [ai.len, hlen]
  refine codeAny_call_function room.depth ((e0.mod.kin.keeps stays) _ _ lk) rfl S.co S.gen rfl (PySem.W.codeRec_of (e0.mod.kin.keeps stays) hcd) (hb _ _ _ _ ?_)
  refine wpAny_newFunctionEnv_cells S.kind (fun y hy => (S.par y.1 (List.of_mem_zip hy).1).imp id fun q => ⟨q, PySem.W.cellsFrom_some _ _ _ (.inl q)⟩) fun fe efe s1 ic => ?_
  subst efe
  refine ⟨(e0.mod.nolimit.keeps stays).keeps ic.toInCall.keep, codeAny_func ?_⟩
  have I := inv_start (CX := L2.CX P w) (E := EV T K mg F H bs vs E) S room.hd e0 hvl rv ic
  have tk : Takes (cxOf (L2.CX P w) P w K mg base N qual (defScope st) f cdv A outer s H (EV T K mg F H bs vs E)) (liftW K mg (ghV T F H bs vs) (endX bs E)) := by
    refine Takes.imp (takes_of (E := EV T K mg F H bs vs E) rfl rfl rfl rfl) fun cls d σ H' h => ?_
    obtain ⟨ex, F', env, ok, eo, q⟩ := h
    obtain ⟨bms, eb, q⟩ := bindP_of q
    exact ⟨ex, F', bms, ok.back_of ai eb, eo, q⟩
  have hS := body cdv rfl (room.deeper _) gd (ghV T F H bs vs) (endX bs E) gok_ghV ⟨hg, tk⟩
  have start : liftS K mg (ghV T F H bs vs) (endX bs E) g { nx := fun _ H' => QV T K mg F H bs vs Q .non H', rt := QV T K mg F H bs vs Q } (L2.start N vs) H := by
    refine ⟨F, _, _, EnvOk.start ai l ht nt (by omega), hbody, fun σ' F' H' env' ok l' q => ?_, fun _ _ _ _ _ _ q => q, fun _ _ _ _ _ _ q => q, fun σ' F' H' env' m v ok l' fr q => ?_⟩
    · obtain ⟨bms, eb, q⟩ := bindP_of q
      exact ⟨F', .fz .none, bms, ok.back_of ai eb, .non, (fun z => by cases z), q⟩
    · obtain ⟨bms, eb, q⟩ := bindP_of q
      exact ⟨F', m, bms, ok.back_of ai eb, fr.rm, (fun z a e => (fr.new z a e).1), q⟩
  refine wpAny_mono (hS.run [] s1 _ H _ I start) (fun fl s' hs => ?_) fun _ _ hs => hs
  cases fl with
  | next => obtain ⟨_, H', J, q⟩ := hs; exact ⟨V.non, H', J.os, J.bare, J.base, J.hok, rfl, q⟩
  | ret u => obtain ⟨v, _, H', J, rv', q⟩ := hs; exact ⟨v, H', J.os, J.bare, J.base, J.hok, rv', q⟩
  | brk => obtain ⟨_, _, _, q⟩ := hs; exact q.elim
  | cont => obtain ⟨_, _, _, q⟩ := hs; exact q.elim
/-- THE RULE for a def by value -/
theorem FnV.of {k : Nat} {x qual : Str} {st : Stmt} {f : Addr} {fd : FuncData} {N ps : List Str} {bs : List Nat} {g : FS} (D : Fun K x qual st f fd) (S : FnScope N ps (defScope st))
    (body : ∀ (cdv : Value) (A : Around) (outer : List PySem.Env) (s : Shared) (H : Hp) (E : XK), fd.code = cdv → Room k (A.deeper (envOfC qual (defScope st) s.heap.objs.size f cdv)) → (A.deeper (envOfC qual (defScope st) s.heap.objs.size f cdv)).guards = some [] →
      VSs (gpT T) (cxOf (L2.CX P w) P w K mg base N qual (defScope st) f cdv A outer s H E) (defBody st) g) : FnV P w K mg base T (k + 1) f fd ps bs (bodyV N.length ps.length bs g) :=
  ⟨fun ms Q E h => h.1, fun A outer s H F args us vs ms Q E room gd e0 hb rv l ai ht nt hsp => fnv_run (gp := gpT T) D S room gd e0 hb rv l ai ht nt rfl (fun cdv => body cdv A outer s H _) hsp⟩
end
end VL

/-! VlL: calls by value. -/
namespace VL
open PySem PySem.Spec PyProof.Rows L2

def arM (env : Env) : Ar → Option M
  | .d d => some (.fz d)
  | .g x => some (.gl x)
  | .s i => match env.sl[i]? with
    | some (some m) => if isOwn m = true then some m else none
    | _ => none
def arMs (env : Env) : List Ar → Option (List M)
  | [] => some []
  | a :: as => match arM env a with
    | some m => match arMs env as with
      | some ms => some (m :: ms)
      | none => none
    | none => none
/-- the places of the own ones -/
def ownPos : Nat → List M → List Nat
  | _, [] => []
  | n, m :: ms => if isOwn m = true then n :: ownPos (n + 1) ms else ownPos (n + 1) ms
def slotsOf : List Ar → List Nat
  | [] => []
  | .s i :: as => i :: slotsOf as
  | _ :: as => slotsOf as
def putB : Slots → List Nat → List M → Slots
  | sl, i :: is, m :: ms => putB (sl.set i (some m)) is ms
  | sl, _, _ => sl
def putE (env : Env) (is : List Nat) (ms : List M) : Env := { env with sl := putB env.sl is ms }
def fCall (sp : SpV) (bs : List Nat) (fa : FA) : FE := fun env Q W => fa env (fun as e1 => bindP (arMs e1 as) fun ms => ownPos 0 ms = bs ∧ (slotsOf as).Nodup ∧
  sp ms (fun m bms => Q (.val m) (putE e1 (slotsOf as) bms)) fun ex bms => W ex (putE e1 (slotsOf as) bms)) W

section
variable {K : Fg} {mg : Mg} {G : Gh} {F F' H H' : Hp} {σ : L2.St} {env : Env} {as : List Ar} {vs : List V} {ms bms : List M} {bs : List Nat}
theorem putB_len : ∀ {sl : Slots} {is : List Nat} {ms : List M}, (putB sl is ms).length = sl.length
  | _, [], _ => rfl
  | _, _ :: _, [] => rfl
  | sl, i :: is, m :: ms => by
    show (putB (sl.set i (some m)) is ms).length = _
    rw [putB_len, List.length_set]
theorem putB_out : ∀ {sl : Slots} {is : List Nat} {ms : List M} {j : Nat}, j ∉ is → (putB sl is ms)[j]? = sl[j]?
  | _, [], _, _, _ => rfl
  | _, _ :: _, [], _, _ => rfl
  | sl, i :: is, m :: ms, j, h => by
    simp only [List.mem_cons, not_or] at h
    show (putB (sl.set i (some m)) is ms)[j]? = _
    rw [putB_out h.2, List.getElem?_set_ne (Ne.symm h.1)]
theorem putB_at : ∀ {sl : Slots} {is : List Nat} {ms : List M} {k j : Nat} {m : M}, is.Nodup → is[k]? = some j → ms[k]? = some m → j < sl.length → (putB sl is ms)[j]? = some (some m)
  | _, [], _, _, _, _, _, h, _, _ => by simp at h
  | _, _ :: _, [], _, _, _, _, _, h, _ => by simp at h
  | sl, i :: is, m' :: ms, 0, j, m, nd, h1, h2, hl => by
    simp at h1 h2
    subst h1 h2
    show (putB (sl.set i (some m')) is ms)[i]? = _
    rw [putB_out (List.nodup_cons.mp nd).1, List.getElem?_set_self hl]
  | sl, i :: is, m' :: ms, k + 1, j, m, nd, h1, h2, hl => by
    show (putB (sl.set i (some m')) is ms)[j]? = _
    exact putB_at (List.nodup_cons.mp nd).2 (by simpa using h1) (by simpa using h2) (by rw [List.length_set]; exact hl)
/-- place, slot and address of each borrowed argument -/
theorem pairs (ok : EnvOk K mg G F H σ env) : ∀ {as : List Ar} {vs : List V} {ms : List M} (n : Nat), ArAll K mg F σ as vs → arMs env as = some ms → (ownPos n ms).length = (slotsOf as).length ∧
    ∀ (k i j : Nat), (ownPos n ms)[k]? = some i → (slotsOf as)[k]? = some j → n ≤ i ∧ ∃ m a, ms[i - n]? = some m ∧ isOwn m = true ∧ vs[i - n]? = some (V.ref a) ∧ OwnAt σ env.sl j a ∧ env.sl[j]? = some (some m)
  | _, _, ms, n, .nil, e => by cases e; exact ⟨rfl, fun k i j h => by simp [ownPos] at h⟩
  | _, _, ms, n, .cons (a := a) (as := as) (v := v) (vs := vs) h r, e => by
    have e : (match arM env a with | some m => (match arMs env as with | some ms => some (m :: ms) | none => none) | none => none) = some ms := e
    cases q : arM env a with
    | none => rw [q] at e; cases e
    | some m =>
      rw [q] at e
      cases q2 : arMs env as with
      | none => rw [q2] at e; cases e
      | some ms' =>
        rw [q2] at e
        cases e
        obtain ⟨l1, l2⟩ := pairs ok (n + 1) r q2
        have shift : ∀ (k i j : Nat), (ownPos (n + 1) ms')[k]? = some i → (slotsOf as)[k]? = some j → n ≤ i ∧ ∃ m' a, (m :: ms')[i - n]? = some m' ∧ isOwn m' = true ∧ (v :: vs)[i - n]? = some (V.ref a) ∧ OwnAt σ env.sl j a ∧ env.sl[j]? = some (some m') := fun k i j h1 h2 => by
          obtain ⟨g1, m', a, g2, g3, g4, g5⟩ := l2 k i j h1 h2
          have e1 : i - n = (i - (n + 1)) + 1 := by omega
          exact ⟨by omega, m', a, by rw [e1]; exact g2, g3, by rw [e1]; exact g4, g5⟩
        cases a with
        | d d =>
          cases q
          exact ⟨l1, shift⟩
        | g x =>
          cases q
          exact ⟨l1, shift⟩
        | s j0 =>
          have q : (match env.sl[j0]? with | some (some m) => if isOwn m = true then some m else none | _ => none) = some m := q
          split at q
          · split at q
            · rename_i hs ho
              cases q
              obtain ⟨w, h1, r⟩ := ok.slot j0 _ hs
              have h : σ[j0]? = some (some v) := h
              rw [h] at h1
              cases h1
              obtain ⟨b, u, rfl, _⟩ := r.own ho
              have ep : ownPos n (m :: ms') = n :: ownPos (n + 1) ms' := if_pos ho
              rw [ep]
              refine ⟨by show _ + 1 = _ + 1; rw [l1], fun k i j h1 h2 => ?_⟩
              cases k with
              | zero =>
                have h1 : some n = some i := h1
                have h2 : some j0 = some j := h2
                cases h1
                cases h2
                exact ⟨Nat.le_refl _, m, b, by simp, ho, by simp, ⟨m, hs, ho, h⟩, hs⟩
              | succ k => exact shift k i j h1 h2
            · cases q
          · cases q
theorem arMs_at : ∀ {as : List Ar} {vs : List V} {ms : List M} (n : Nat), EnvOk K mg G F H σ env → ArAll K mg F σ as vs → arMs env as = some ms → vs.length = ms.length ∧ ∀ (i : Nat) (m : M), ms[i]? = some m → ∃ v, vs[i]? = some v ∧ RM K mg F H m v ∧ (isOwn m = true → i + n ∈ ownPos n ms)
  | _, _, ms, n, ok, .nil, e => by cases e; exact ⟨rfl, fun i m h => by simp at h⟩
  | _, _, ms, n, ok, .cons (a := a) (as := as) (v := v) (vs := vs) h r, e => by
    have e : (match arM env a with | some m => (match arMs env as with | some ms => some (m :: ms) | none => none) | none => none) = some ms := e
    cases q : arM env a with
    | none => rw [q] at e; cases e
    | some m =>
      rw [q] at e
      cases q2 : arMs env as with
      | none => rw [q2] at e; cases e
      | some ms' =>
        rw [q2] at e
        cases e
        obtain ⟨l1, l2⟩ := arMs_at (n + 1) ok r q2
        refine ⟨by rw [List.length_cons, List.length_cons, l1], fun i m' hm => ?_⟩
        cases i with
        | zero =>
          have hm : some m = some m' := hm
          cases hm
          refine ⟨v, rfl, ?_, fun o => ?_⟩
          · cases a with
            | d d => cases q; exact h
            | g x => cases q; exact h
            | s j0 =>
              have q : (match env.sl[j0]? with | some (some m) => if isOwn m = true then some m else none | _ => none) = some m := q
              split at q
              · split at q
                · rename_i hs ho
                  cases q
                  obtain ⟨w, h1, r⟩ := ok.slot j0 _ hs
                  have h : σ[j0]? = some (some v) := h
                  rw [h] at h1
                  cases h1
                  exact r
                · cases q
              · cases q
          · rw [show ownPos n (m :: ms') = n :: ownPos (n + 1) ms' from if_pos o, Nat.zero_add]
            exact List.mem_cons_self
        | succ i =>
          obtain ⟨w, g1, g2, g3⟩ := l2 i m' hm
          refine ⟨w, g1, g2, fun o => ?_⟩
          have hm : i + (n + 1) ∈ ownPos (n + 1) ms' := g3 o
          have e1 : i + 1 + n = i + (n + 1) := by omega
          rw [e1]
          unfold ownPos
          split
          · exact List.mem_cons_of_mem _ hm
          · exact hm
/-- what a callee is given -/
theorem argIn_of (ok : EnvOk K mg G F H σ env) (ha : ArAll K mg F σ as vs) (e : arMs env as = some ms) (hb : ownPos 0 ms = bs) (nd : (slotsOf as).Nodup) : ArgIn K mg F H bs vs ms := by
  obtain ⟨p1, p2⟩ := pairs ok 0 ha e
  obtain ⟨a1, a2⟩ := arMs_at 0 ok ha e
  rw [hb] at p1 p2 a2
  have idx : ∀ i ∈ bs, ∃ k j : Nat, bs[k]? = some i ∧ (slotsOf as)[k]? = some j := fun i hi => by
    obtain ⟨k, hk⟩ := List.mem_iff_getElem?.mp hi
    have hl : k < (slotsOf as).length := by rw [← p1]; exact (List.getElem?_eq_some_iff.mp hk).1
    exact ⟨k, _, hk, List.getElem?_eq_getElem hl⟩
  refine ⟨a1, fun i m hm => ?_, fun i hi => ?_, fun i j a hi hj h1 h2 => ?_⟩
  · obtain ⟨v, g1, g2, g3⟩ := a2 i m hm
    exact ⟨v, g1, g2, fun o => g3 o⟩
  · obtain ⟨k, j, h1, h2⟩ := idx i hi
    obtain ⟨_, m, a, g1, g2, g3, _⟩ := p2 k i j h1 h2
    exact ⟨m, a, g1, g2, g3⟩
  · obtain ⟨k1, j1, h3, h4⟩ := idx i hi
    obtain ⟨k2, j2, h5, h6⟩ := idx j hj
    obtain ⟨_, m1, b1, g1, g2, g3, g4, _⟩ := p2 k1 i j1 h3 h4
    obtain ⟨_, m2, b2, g5, g6, g7, g8, _⟩ := p2 k2 j j2 h5 h6
    have e1 : b1 = a := by
      have := g3.symm.trans h1
      cases this; rfl
    have e2 : b2 = a := by
      have := g7.symm.trans h2
      cases this; rfl
    rw [e1] at g4
    rw [e2] at g8
    have ej := ok.apart j1 j2 a g4 g8
    rw [← ej] at h6
    have ek : k1 = k2 := by
      have l1 := (List.getElem?_eq_some_iff.mp h4).1
      exact (List.getElem?_inj l1 nd).mp (h4.trans h6.symm)
    rw [← ek, h3] at h5
    cases h5
    rfl
/-- behind a call: the borrowed slots as the callee left them -/
theorem EnvOk.called {T : List NdefX.NTab} (ok : EnvOk K mg G F H σ env) (hT : G.T = T) (ha : ArAll K mg F σ as vs) (e : arMs env as = some ms) (hb : ownPos 0 ms = bs) (nd : (slotsOf as).Nodup) (bk : Bk T K mg F H bs vs F' H' bms) : EnvOk K mg G F' H' σ (putE env (slotsOf as) bms) ∧
    ∀ j a, OwnAt σ (putE env (slotsOf as) bms).sl j a → OwnAt σ env.sl j a := by
  obtain ⟨p1, p2⟩ := pairs ok 0 ha e
  rw [hb] at p1 p2
  have idx : ∀ j ∈ slotsOf as, ∃ (k i : Nat) (m m' : M) (a : Addr), bs[k]? = some i ∧ (slotsOf as)[k]? = some j ∧ vs[i]? = some (V.ref a) ∧ OwnAt σ env.sl j a ∧ bms[k]? = some m' ∧ isOwn m' = true ∧ RM K mg F' H' m' (.ref a) := fun j hj => by
    obtain ⟨k, hk⟩ := List.mem_iff_getElem?.mp hj
    have hl : k < bs.length := by rw [p1]; exact (List.getElem?_eq_some_iff.mp hk).1
    have hk2 := List.getElem?_eq_getElem hl
    obtain ⟨_, m, a, g1, g2, g3, g4, _⟩ := p2 k _ j hk2 hk
    obtain ⟨m', b1, b2, b3⟩ := bk.bor k _ a hk2 g3
    exact ⟨k, _, m, m', a, hk2, hk, g3, g4, b1, b2, b3⟩
  have len0 : ∀ j ∈ slotsOf as, j < env.sl.length := fun j hj => by
    obtain ⟨_, _, _, _, a, _, _, _, ⟨m, g, _⟩, _⟩ := idx j hj
    exact (List.getElem?_eq_some_iff.mp g).1
  have isBA : ∀ a, (∃ i ∈ bs, vs[i]? = some (V.ref a)) → ∃ j ∈ slotsOf as, OwnAt σ env.sl j a := fun a ⟨i, hi, h⟩ => by
    obtain ⟨k, hk⟩ := List.mem_iff_getElem?.mp hi
    have hl : k < (slotsOf as).length := by rw [← p1]; exact (List.getElem?_eq_some_iff.mp hk).1
    have hk2 := List.getElem?_eq_getElem hl
    obtain ⟨_, m, b, g1, g2, g3, g4, _⟩ := p2 k i _ hk hk2
    have := g3.symm.trans h
    cases this
    exact ⟨_, List.mem_of_getElem? hk2, g4⟩
  have back : ∀ j a, OwnAt σ (putB env.sl (slotsOf as) bms) j a → OwnAt σ env.sl j a := fun j a ⟨m, g1, g2, g3⟩ => by
    by_cases hj : j ∈ slotsOf as
    · obtain ⟨k, i, m0, m', b, _, _, _, ⟨m1, q1, q2, q3⟩, _⟩ := idx j hj
      exact ⟨m1, q1, q2, g3⟩
    · rw [putB_out hj] at g1
      exact ⟨m, g1, g2, g3⟩
  refine ⟨⟨bk.sub, fun j m g => ?_, fun i j a z1 z2 => ok.apart i j a (back i a z1) (back j a z2), ok.frz.trans bk.le, fun a o g n nt => ?_, fun a g => ok.dom a (bk.dom a g), fun a o g => ?_, fun j a z => ok.newO j a (back j a z), ok.bor, ok.borA, fun p hp j z => ok.sep p hp j (back j _ z), ok.borH, ?_, hT ▸ bk.tabs, bk.nt⟩, back⟩
  · have g : (putB env.sl (slotsOf as) bms)[j]? = some (some m) := g
    by_cases hj : j ∈ slotsOf as
    · obtain ⟨k, i, m0, m', a, h1, h2, h3, h4, h5, h6, h7⟩ := idx j hj
      rw [putB_at nd h2 h5 (len0 j hj)] at g
      cases g
      obtain ⟨m1, q1, q2, q3⟩ := h4
      exact ⟨_, q3, h7⟩
    · rw [putB_out hj] at g
      obtain ⟨v, g1, r⟩ := ok.slot j m g
      refine ⟨v, g1, r.le bk.le fun o a ea => ?_⟩
      have z : OwnAt σ env.sl j a := ⟨m, g, o, by rw [g1, ea]⟩
      obtain ⟨n1, u, hu, ou⟩ := z.some ok
      refine ⟨?_, ?_⟩
      · rw [bk.frame a u hu (fun hba => ?_) ou.ntb, hu]
        obtain ⟨j', hj', z'⟩ := isBA a hba
        exact hj (ok.apart j j' a z z' ▸ hj')
      · cases q : F' a with
        | none => rfl
        | some o =>
          rcases bk.newF a o q with y | y
          · rw [n1] at y; cases y
          · rw [hu] at y; cases y
  · refine bk.frame a o (ok.frame a o g n nt) (fun hba => ?_) nt
    obtain ⟨j', hj', z'⟩ := isBA a hba
    rcases ok.newO j' a z' with y | y
    · exact n y
    · rw [g] at y; cases y
  · rcases bk.newF a o g with y | y
    · exact ok.newF a o y
    · exact .inr (.inl (ok.dom a y))
  · show (putB env.sl (slotsOf as) bms).length = _
    rw [putB_len]; exact ok.len
end

section
variable {X : Cx} {T : List NdefX.NTab} {k : Nat} {f : Addr} {fd : FuncData} {ps : List Str} {bs : List Nat} {sp : SpV} {x : Str} {p pos : Pos} {e : Expr} {es : List Expr} {fa : FA}
/-- the callee runs -/
theorem run_fnv {G : Gh} {W : KX} {pins : List (Addr × Obj)} {σ : L2.St} {H F : Hp} {s : Shared} {Qh : VK} {us : List Value} {vs : List V} {env : Env} {as : List Ar} {Q : R → Env → Prop} (C : FnV X.prog X.w X.K X.mg X.base T k f fd ps bs sp) (hr : Room k X.A) (gd : X.A.guards = some []) (hT : G.T = T) (tk : Takes X (liftW X.K X.mg G W))
    (I : Inv X pins σ H s) (ok : EnvOk X.K X.mg G F H σ env) (aa : ArAll X.K X.mg F σ as vs) (rv : Vals vs us) (hb : us.length = ps.length → BindsTo s fd ⟨us, []⟩ (ps.zip us))
    (hq : bindP (arMs env as) fun ms => ownPos 0 ms = bs ∧ (slotsOf as).Nodup ∧ sp ms (fun m bms => Q (.val m) (putE env (slotsOf as) bms)) fun ex bms => W ex (putE env (slotsOf as) bms))
    (q : ∀ r env' v F' H', EnvOk X.K X.mg G F' H' σ env' → Le F F' → RR X.K X.mg G F' H' σ env' r v → Q r env' → Qh v H') : wpAny (model X.prog X.w) X.A (call (.ref f) us) (EP X pins σ Qh) X.xe s := by
  obtain ⟨ms, em, eb, nd, hsp⟩ := bindP_of hq
  have ai := argIn_of ok aa em eb nd
  have hl : us.length = ps.length := by rw [← rv.length, ai.len]; exact C.len _ _ _ hsp
  refine wpAny_call (codeAny_mono (C.run X.A X.stack s H F ⟨us, []⟩ us vs ms _ _ hr gd I.env0 (hb hl) rv ok.sub ai (hT ▸ ok.tabs) ok.nt hsp) fun r s' h => ?_)
  cases r with
  | error u =>
    refine tk u s' (XE.of_call I (fun cls d H' h => ?_) h)
    obtain ⟨ex, F', bms, bk, eo, hw⟩ := h
    obtain ⟨ok', _⟩ := ok.called hT aa em eb nd bk
    exact ⟨ex, F', _, ok', eo, hw⟩
  | ok fl =>
    cases fl with
    | next => exact False.elim h
    | brk => exact False.elim h
    | cont => exact False.elim h
    | ret u =>
      obtain ⟨v, H', I', rv', F', m, bms, bk, rm, nw, hQ⟩ := I.after h
      obtain ⟨ok', own'⟩ := ok.called hT aa em eb nd bk
      refine ⟨v, H', I', rv', q (.val m) _ v F' H' ok' bk.le ⟨rm, fun o a ea => ⟨ok.dom a (nw o a ea), fun i z => ?_⟩⟩ hQ⟩
      obtain ⟨_, w, hu, _⟩ := (own' i a z).some ok
      rw [nw o a ea] at hu; cases hu
/-- f(e, ..): f a def of the module -/
theorem ve_call (C : FnV X.prog X.w X.K X.mg X.base T k f fd ps bs sp) (hr : Room k X.A) (gd : X.A.guards = some []) (hg : Gl X x) (hm : X.mg x = some (.ref f)) (hk : PySem.W.keepIn X.K (.ref f) = true) (hb : Binds X.K fd ps []) (ha : VA gp X (e :: es) fa)
    (hdb : (x == ("__debug__" : Str)) = false := by decide) (he : starEach (e :: es) X.env = (false, eval e X.env) :: starEach es X.env := by rfl) (hpl : (backTo pos (starEach es X.env)).any (·.1) = false := by rfl) (hT : ∀ G, gp G → G.T = T := by first | exact fun _ h => h | exact fun _ h => h.1 | assumption) :
    VE gp X (.Call (.Name x p) (e :: es) [] pos) (fCall sp bs fa) := fun G W tk => by
  refine ⟨fun pins s σ H Qh I h => wpAny_Call_Name_kw (ld_glob I hg hm ?_ hdb)⟩
  obtain ⟨F, env, Q, ok, hf, q⟩ := h
  have ht : liftA X.K X.mg G W fa σ H fun vs H1 => ∃ F1 env1 as, EnvOk X.K X.mg G F1 H1 σ env1 ∧ Le F F1 ∧ ArAll X.K X.mg F1 σ as vs ∧ (bindP (arMs env1 as) fun ms => ownPos 0 ms = bs ∧ (slotsOf as).Nodup ∧ sp ms (fun m bms => Q (.val m) (putE env1 (slotsOf as) bms)) fun ex bms => W ex (putE env1 (slotsOf as) bms)) :=
    ⟨F, env, _, ok, hf, fun as env1 vs F1 H1 ok1 l1 aa hq => ⟨F1, env1, as, ok1, l1, aa, hq⟩⟩
  refine PySem.W.callWith_K (h₀ := X.base) I.ok.mod.kin hk (thn ((ha G W tk).run pos pins s σ H _ I ht) fun us s1 ⟨vs, H1, I1, rv, F1, env1, as, ok1, l1, aa, hq⟩ => ⟨I1.kIn, ?_⟩) he hpl
  refine run_fnv C hr gd (hT G tk.1) tk.2 I1 ok1 aa rv (fun hl => ?_) hq fun r env' v F' H' ok' l' => q r env' v F' H' ok' (l1.trans l')
  have := hb s1 us I1.kIn (by rw [List.append_nil]; exact hl)
  rw [List.append_nil] at this
  exact this
theorem ve_call0 (C : FnV X.prog X.w X.K X.mg X.base T k f fd ps bs sp) (hr : Room k X.A) (gd : X.A.guards = some []) (hg : Gl X x) (hm : X.mg x = some (.ref f)) (hk : PySem.W.keepIn X.K (.ref f) = true) (hb : Binds X.K fd ps [])
    (hdb : (x == ("__debug__" : Str)) = false := by decide) (hT : ∀ G, gp G → G.T = T := by first | exact fun _ h => h | exact fun _ h => h.1 | assumption) : VE gp X (.Call (.Name x p) [] [] pos) (fCall sp bs aNil) := fun G W tk => by
  refine ⟨fun pins s σ H Qh I h => wpAny_Call_Name_kw (ld_glob I hg hm ?_ hdb)⟩
  obtain ⟨F, env, Q, ok, hf, q⟩ := h
  refine PySem.W.callWith_K0 I.kIn hk (run_fnv (us := []) (as := []) C hr gd (hT G tk.1) tk.2 I ok .nil .nil (fun hl => ?_) hf q)
  exact hb s [] I.kIn hl
end
end VL

/-! VlM: own lists changed: append, pop, items stored; names op= ints; two names at once; starred items. -/
namespace VL
open PySem PySem.Spec PyProof.Rows L2

def lstAt (env : Env) (i : Nat) : Option (List D) :=
  match env.sl[i]? with
  | some (some (.lst ds)) => some ds
  | _ => none
def putL (env : Env) (i : Nat) (ds : List D) : Env := { env with sl := env.sl.set i (some (.lst ds)) }
theorem lstAt_is {env : Env} {i : Nat} {ds : List D} (h : lstAt env i = some ds) : env.sl[i]? = some (some (.lst ds)) := by
  unfold lstAt at h
  split at h
  · cases h; assumption
  · cases h
section
variable {K : Fg} {mg : Mg} {G : Gh} {F H : Hp} {σ : L2.St} {env : Env} {i : Nat} {a : Addr} {ds es : List D} {vs ws : List V}
/-- the own list in slot i -/
theorem EnvOk.lstOf (ok : EnvOk K mg G F H σ env) (h : lstAt env i = some ds) : ∃ a vs, OwnAt σ env.sl i a ∧ σ[i]? = some (some (.ref a)) ∧ H a = some (.lst vs) ∧ F a = none ∧ DtAll K F vs ds := by
  have e := lstAt_is h
  obtain ⟨v, e1, a, vs, rfl, h1, h2, h3⟩ := ok.slot i _ e
  exact ⟨a, vs, ⟨_, e, rfl, e1⟩, e1, h1, h2, h3⟩
theorem EnvOk.putL (ok : EnvOk K mg G F H σ env) (o : OwnAt σ env.sl i a) (r : DtAll K F ws es) : EnvOk K mg G F (upd H a (.lst ws)) σ (putL env i es) :=
  ok.mut o rfl ⟨a, ws, rfl, upd_same, (o.some ok).1, r⟩
end

/-! ### x.append(e), x.pop(), x.pop(e) -/
def fApp (i : Nat) (fe : FE) : FE := fun env Q W => bindP (lstAt env i) fun _ => fe env (fun r e1 => bindP (lkR e1 r) fun x => bindP (dOf x.1) fun d => bindP (lstAt x.2 i) fun ds => ds.length < 16777216 ∧ Q (.val (.fz .none)) (putL x.2 i (ds ++ [d]))) W
def fPop (i : Nat) : FE := fun env Q _ => bindP (lstAt env i) fun ds => bindP ds.getLast? fun d => Q (.val (.fz d)) (putL env i ds.dropLast)
def fPopAt (i : Nat) (fe : FE) : FE := fun env Q W => bindP (lstAt env i) fun _ => fI fe env (fun k e1 => bindP (lstAt e1 i) fun ds => bindP (ixN ds.length k) fun j => bindP ds[j]? fun d => ds.length ≤ 16777216 ∧ Q (.val (.fz d)) (putL e1 i (ds.eraseIdx j))) W
section
variable {X : Cx} {x : Str} {i : Nat} {e : Expr} {fe : FE} {p apos cpos : Pos}
theorem lst_ty {H : Hp} {K : Fg} {a : Addr} {vs : List V} (h : H a = some (.lst vs)) : tyV K "list" (.ref a) H := .inl ⟨rfl, vs, .inl (.inl h)⟩
theorem ve_append (hN : X.N[i]? = some x) (hv : Vis X.env.scope x) (he : VE gp X e fe) (hs : starEach [e] X.env = (false, eval e X.env) :: starEach [] X.env := by rfl)
    (hd : (x == ("__debug__" : Str)) = false := by decide) (hcd : (x == ("__classdict__" : Str)) = false := by decide) (hbase : attributeBase (.Name x p) "append" X.env (eval (.Name x p) X.env) = eval (.Name x p) X.env := by rfl)
    (hfew : ((backTo cpos (starEach [e] X.env)).all (fun x => !x.1) && (backToKw cpos (keywordEach [] X.env)).all (fun x => x.1.isSome) && decide ([e].length + ([] : List Keyword).length + (if ([] : List Keyword).isEmpty then 0 else 1) < 30)) = true := by rfl)
    (hline : (apos.endLine == cpos.line) = true := by rfl) (hpl : (backTo cpos (starEach [] X.env)).any (·.1) = false := by rfl) : VE gp X (.Call (.Attribute (.Name x p) "append" apos) [e] [] cpos) (fApp i fe) := fun G W t =>
  PE.imp (pe_bm PySem.F.plainAttrs_list PySem.F.slot_list_append PySem.F.type_list_append mt_append (pe_var hN hv hd hcd) (pa_cons (he G W t) pa_nil hs) hbase hfew hline hs hpl) fun σ H Qh hw => by
    obtain ⟨F, env, Q, ok, hf, q⟩ := hw
    obtain ⟨d0, e0, hf⟩ := bindP_of hf
    obtain ⟨a, vs, oa, sa, ha, fa, ra⟩ := ok.lstOf e0
    refine ⟨.ref a, sa, lst_ty ha, F, env, _, ok, hf, fun r e1 v F1 H1 ok1 l1 rr hq => ?_⟩
    obtain ⟨⟨y, e2⟩, ey, hq⟩ := bindP_of hq
    obtain ⟨d, ed, hq⟩ := bindP_of hq
    obtain ⟨ds, el, hz, hq⟩ := bindP_of hq
    obtain ⟨F2, ok2, l2, ax⟩ := rr.leak ok1 ey
    cases y with
    | g x => cases ed
    | s x => cases ed
    | d d' =>
      cases ed
      obtain ⟨b, ws, ob, sb, hb, fb, rb⟩ := ok2.lstOf el
      rw [sa] at sb
      cases sb
      refine ⟨a, ws, v, rfl, rfl, hb, ?_, q (.val _) _ _ F2 _ (ok2.putL ob (rb.append (.cons ax .nil))) (l1.trans l2) (Free.fz .non) hq⟩
      rw [rb.length]
      have := line_of (n := ds.length + 1) hz
      omega
theorem ve_pop (hN : X.N[i]? = some x) (hv : Vis X.env.scope x) (hd : (x == ("__debug__" : Str)) = false := by decide) (hcd : (x == ("__classdict__" : Str)) = false := by decide)
    (hbase : attributeBase (.Name x p) "pop" X.env (eval (.Name x p) X.env) = eval (.Name x p) X.env := by rfl) (hline : (apos.endLine == cpos.line) = true := by rfl) : VE gp X (.Call (.Attribute (.Name x p) "pop" apos) [] [] cpos) (fPop i) := fun G W t =>
  PE.imp (pe_bm0 PySem.F.plainAttrs_list PySem.F.slot_list_pop PySem.F.type_list_pop (show MtR X "list.pop" rPop from mt_pop) (pe_var hN hv hd hcd) hbase hline) fun σ H Qh hw => by
    obtain ⟨F, env, Q, ok, hf, q⟩ := hw
    obtain ⟨ds, e0, hf⟩ := bindP_of hf
    obtain ⟨d, e1, hf⟩ := bindP_of hf
    obtain ⟨a, vs, oa, sa, ha, fa, ra⟩ := ok.lstOf e0
    rw [List.getLast?_eq_getElem?] at e1
    obtain ⟨y, ey, ry⟩ := ra.getD e1
    rw [← ra.length] at ey
    refine ⟨.ref a, sa, lst_ty ha, a, vs, y, rfl, rfl, ha, ey, q (.val _) _ _ F _ (ok.putL oa ?_) (Le.refl _) (Free.fz ry) hf⟩
    rw [List.dropLast_eq_take, List.dropLast_eq_take, ra.length]
    exact ra.take _
theorem ve_popAt (hN : X.N[i]? = some x) (hv : Vis X.env.scope x) (he : VE gp X e fe) (hs : starEach [e] X.env = (false, eval e X.env) :: starEach [] X.env := by rfl)
    (hd : (x == ("__debug__" : Str)) = false := by decide) (hcd : (x == ("__classdict__" : Str)) = false := by decide) (hbase : attributeBase (.Name x p) "pop" X.env (eval (.Name x p) X.env) = eval (.Name x p) X.env := by rfl)
    (hfew : ((backTo cpos (starEach [e] X.env)).all (fun x => !x.1) && (backToKw cpos (keywordEach [] X.env)).all (fun x => x.1.isSome) && decide ([e].length + ([] : List Keyword).length + (if ([] : List Keyword).isEmpty then 0 else 1) < 30)) = true := by rfl)
    (hline : (apos.endLine == cpos.line) = true := by rfl) (hpl : (backTo cpos (starEach [] X.env)).any (·.1) = false := by rfl) : VE gp X (.Call (.Attribute (.Name x p) "pop" apos) [e] [] cpos) (fPopAt i fe) := fun G W t =>
  PE.imp (pe_bm PySem.F.plainAttrs_list PySem.F.slot_list_pop PySem.F.type_list_pop (show MtR X "list.pop" rPopAt from mt_popAt) (pe_var hN hv hd hcd) (pa_cons (he G W t) pa_nil hs) hbase hfew hline hs hpl) fun σ H Qh hw => by
    obtain ⟨F, env, Q, ok, hf, q⟩ := hw
    obtain ⟨d0, e0, hf⟩ := bindP_of hf
    obtain ⟨a, vs, oa, sa, ha, fa, ra⟩ := ok.lstOf e0
    refine ⟨.ref a, sa, lst_ty ha, lift_i ok hf fun k e1 F1 H1 ok1 l1 hq => ?_⟩
    obtain ⟨ds, el, hq⟩ := bindP_of hq
    obtain ⟨j, ej, hq⟩ := bindP_of hq
    obtain ⟨d, ed, hz, hq⟩ := bindP_of hq
    obtain ⟨b, ws, ob, sb, hb, fb, rb⟩ := ok1.lstOf el
    rw [sa] at sb
    cases sb
    obtain ⟨y, ey, ry⟩ := rb.getD ed
    obtain ⟨h1, h2, h3, h4⟩ := ixN_seq ej
    exact ⟨a, ws, k, j, y, rfl, rfl, hb, by omega, by omega, by rw [rb.length]; exact h1, ey, q (.val _) _ _ F1 _ (ok1.putL ob (rb.erase j)) l1 (Free.fz ry) hq⟩
end

/-! ### x[k] = e, x[k] op= e, x op= e (ints) -/
def sSetIx (i : Nat) (fk fe : FE) : FS := fun env E W => fe env (fun r e1 => bindP (lkR e1 r) fun x => bindP (dOf x.1) fun d => bindP (lstAt x.2 i) fun _ =>
  fI fk x.2 (fun k e2 => bindP (lstAt e2 i) fun ds => bindP (ixN ds.length k) fun j => E.nx (putL e2 i (ds.set j d))) W) W
def intOf : D → Option Int
  | .int i => some i
  | _ => none
def sAugIx (i : Nat) (c : Int → Int → Prop) (f : Int → Int → Int) (fk fe : FE) : FS := fun env E W => bindP (lstAt env i) fun _ => fI fk env (fun k e1 => bindP (lstAt e1 i) fun ds => bindP (ixN ds.length k) fun j => bindP (ds[j]?.bind intOf) fun a =>
  fI fe e1 (fun b e2 => c a b ∧ bindP (lstAt e2 i) fun es => ixN es.length k = some j ∧ E.nx (putL e2 i (es.set j (.int (f a b))))) W) W
def intAt (env : Env) (i : Nat) : Option Int := (env.sl[i]?.join).bind fun m => match m with
  | .fz (.int k) => some k
  | _ => none
def sAug (i : Nat) (c : Int → Int → Prop) (f : Int → Int → Int) (fe : FE) : FS := fun env E W => bindP (intAt env i) fun a => fI fe env (fun b e1 => c a b ∧ bindP (stR i (.val (.fz (.int (f a b)))) e1) E.nx) W
def rAugI (c : Int → Int → Prop) (f : Int → Int → Int) : TIp := fun x y H Q => ∃ i j, x = .int i ∧ y = .int j ∧ c i j ∧ Q (.int (f i j)) H
def cAny : Int → Int → Prop := fun _ _ => True
section
variable {X : Cx}
theorem au_add : PIp X .Add (rAugI cAny fun i j => i + j) := fun pins s σ H x y v u Q I rx ry ⟨i, j, e1, e2, _, q⟩ => iop_add pins s σ H x y v u Q I rx ry ⟨i, j, e1, e2, q⟩
theorem au_sub : PIp X .Sub (rAugI cAny fun i j => i - j) := fun pins s σ H x y v u Q I rx ry ⟨i, j, e1, e2, _, q⟩ => iop_sub pins s σ H x y v u Q I rx ry ⟨i, j, e1, e2, q⟩
theorem au_mul : PIp X .Mult (rAugI CMul fun i j => i * j) := iop_mul
/-- o[k] of a list -/
theorem get_own : PGet X (fun o i H Q => ∃ p xs k v, o = .ref p ∧ i = .int k ∧ SqL X.K H p xs ∧ atI xs k = some v ∧ Q v H) := by
  intro pins s σ H o i ov iv Q I ro ri h
  obtain ⟨p, xs, k, z, rfl, rfl, hq, he, q⟩ := h
  cases ro
  obtain ⟨t, rfl⟩ := ri
  obtain ⟨us, rv, pl, hz⟩ := I.list hq
  obtain ⟨j, a1, a2, a3, a4, a5⟩ := atI_get he
  obtain ⟨u, eu, ru⟩ := rv.get a2
  have len := rv.length
  have big := line63
  by_cases neg : k < 0
  · refine wpAny_getItem_list_neg pl.isList neg (by rw [List.size_toArray]; omega) (by omega) (x := u) ?_ ⟨z, H, I, ru, q⟩
    rw [seqIndex_neg neg a4] at a1
    rw [List.size_toArray, ← len, Option.some.inj a1]
    simpa using eu
  · refine wpAny_getItem_list pl.isList (by omega) (by omega) (x := u) ?_ ⟨z, H, I, ru, q⟩
    rw [seqIndex_of (by omega) a5] at a1
    rw [Option.some.inj a1]
    simpa using eu
theorem dt_int {K : Fg} {F : Hp} {v : V} {i : Int} (h : Dt K F v (.int i)) : v = .int i := by cases h; rfl
theorem intAt_is {env : Env} {i : Nat} {k : Int} (h : intAt env i = some k) : env.sl[i]? = some (some (.fz (.int k))) := by
  unfold intAt at h
  cases e : env.sl[i]? with
  | none => rw [e] at h; cases h
  | some o =>
    cases o with
    | none => rw [e] at h; cases h
    | some m =>
      rw [e] at h
      cases m with
      | fz d =>
        cases d with
        | int j => cases h; rfl
        | _ => cases h
      | _ => cases h
variable {x : Str} {i : Nat} {e k : Expr} {fe fk : FE} {p p2 pos tpos : Pos} {op : Operator} {c : Int → Int → Prop} {f : Int → Int → Int}
theorem vs_setIx (hN : X.N[i]? = some x) (hv : Vis X.env.scope x) (he : VE gp X e fe) (hk : VE gp X k fk) (hd : (x == ("__debug__" : Str)) = false := by decide) (hcd : (x == ("__classdict__" : Str)) = false := by decide)
    (ha : ∀ v, assign (.Subscript (.Name x p) k tpos) X.env v = (do
      let ov ← holding [v] (eval (.Name x p) X.env)
      let iv ← holding [v, ov] (eval k X.env)
      standAt tpos
      holding [v, ov, iv] (setItem ov iv v)
      release [v, ov, iv] []) := by intro _; rfl) (hs : swapsWithSole [.Subscript (.Name x p) k tpos] e pos.line X.env = pure false := by rfl) (hw : swappedStores [.Subscript (.Name x p) k tpos] e X.env = pure none := by rfl)
    (h1 : (assignEach [.Subscript (.Name x p) k tpos] X.env).map (·.2) = [assign (.Subscript (.Name x p) k tpos) X.env] := by rfl) : VS gp X (.Assign [.Subscript (.Name x p) k tpos] e pos) (sSetIx i fk fe) := fun G W _ t =>
  PS.imp (ps_asg (he G W t) (pg_sub (pe_var hN hv hd hcd) (hk G W t) set_list ha) hs hw h1) fun Dn σ H hq => by
    obtain ⟨F, env, E, ok, hf, k1, _⟩ := hq
    refine ⟨F, env, _, ok, hf, fun r e1 v F1 H1 ok1 l1 rr hq => ?_⟩
    obtain ⟨⟨y, e2⟩, ey, hq⟩ := bindP_of hq
    obtain ⟨d, ed, hq⟩ := bindP_of hq
    obtain ⟨d0, el, hq⟩ := bindP_of hq
    obtain ⟨F2, ok2, l2, ax⟩ := rr.leak ok1 ey
    obtain ⟨a, vs, oa, sa, hA, fa, ra⟩ := ok2.lstOf el
    refine ⟨.ref a, sa, lift_i ok2 hq fun n e3 F3 H3 ok3 l3 q3 => ?_⟩
    obtain ⟨ds, el3, q3⟩ := bindP_of q3
    obtain ⟨j, ej, q3⟩ := bindP_of q3
    obtain ⟨b, ws, ob, sb, hb, fb, rb⟩ := ok3.lstOf el3
    rw [sa] at sb
    cases sb
    cases y with
    | g x => cases ed
    | s x => cases ed
    | d d' =>
      cases ed
      exact ⟨a, ws, n, j, rfl, rfl, hb, by rw [rb.length]; exact ej, k1 _ F3 _ _ (ok3.putL ob (rb.set (Dt.le l3 ax) j)) (l1.trans (l2.trans l3)) q3⟩
theorem vs_augIx (hN : X.N[i]? = some x) (hv : Vis X.env.scope x) (hk : VE gp X k fk) (he : VE gp X e fe) (ho : PIp X op (rAugI c f)) (hd : (x == ("__debug__" : Str)) = false := by decide) (hcd : (x == ("__classdict__" : Str)) = false := by decide)
    (ha : ∀ ov iv new, augStore k ov iv new = (do holding [new, ov, iv] (setItem ov iv new); release [new, ov, iv] []; pure .next) := by intros; rfl) : VS gp X (.AugAssign (.Subscript (.Name x p) k tpos) op e pos) (sAugIx i c f fk fe) := fun G W _ t =>
  PS.imp (ps_augS (pe_var hN hv hd hcd) (hk G W t) get_own (he G W t) ho set_list ha) fun Dn σ H hq => by
    obtain ⟨F, env, E, ok, hf, k1, _⟩ := hq
    obtain ⟨d0, e0, hf⟩ := bindP_of hf
    obtain ⟨a, vs, oa, sa, hA, fa, ra⟩ := ok.lstOf e0
    refine ⟨.ref a, sa, lift_i ok hf fun n e1 F1 H1 ok1 l1 hq => ?_⟩
    obtain ⟨ds, el, hq⟩ := bindP_of hq
    obtain ⟨j, ej, hq⟩ := bindP_of hq
    obtain ⟨m, em, hq⟩ := bindP_of hq
    obtain ⟨b, ws, ob, sb, hb, fb, rb⟩ := ok1.lstOf el
    rw [sa] at sb
    cases sb
    obtain ⟨d, ed, em⟩ := Option.bind_eq_some_iff.mp em
    obtain ⟨y, ey, ry⟩ := rb.getD ed
    have ed2 : d = .int m := by
      cases d with
      | int z => cases em; rfl
      | _ => cases em
    subst ed2
    cases dt_int ry
    refine ⟨a, ws, n, .int m, rfl, rfl, .inl (.inl hb), ?_, lift_i ok1 hq fun z e2 F2 H2 ok2 l2 ⟨hc, hq⟩ => ⟨m, z, rfl, rfl, hc, ?_⟩⟩
    · unfold atI
      rw [rb.length, ej]
      exact ey
    · obtain ⟨es, el2, ej2, hq⟩ := bindP_of hq
      obtain ⟨b, us, ob2, sb2, hb2, fb2, rb2⟩ := ok2.lstOf el2
      rw [sa] at sb2
      cases sb2
      exact ⟨a, us, n, j, rfl, rfl, hb2, by rw [rb2.length]; exact ej2, k1 _ F2 _ _ (ok2.putL ob2 (rb2.set (.int _) j)) (l1.trans l2) hq⟩
theorem vs_aug (hN : X.N.Nodup) (hi : X.N[i]? = some x) (hx : Loc X.env.scope x) (he : VE gp X e fe) (ho : PIp X op (rAugI c f)) (hf : X.fn x = true ∨ X.env.scope.names.lookup x = some .local) : VS gp X (.AugAssign (.Name x p) op e pos) (sAug i c f fe) := fun G W _ t =>
  PS.imp (ps_aug hN hi hx (he G W t) ho hf) fun Dn σ H hq => by
    obtain ⟨F, env, E, ok, hg, k1, _⟩ := hq
    obtain ⟨m, em, hg⟩ := bindP_of hg
    obtain ⟨v, e1, rm⟩ := ok.slot i _ (intAt_is em)
    cases dt_int rm
    refine ⟨.int m, e1, lift_i ok hg fun z e2 F2 H2 ok2 l2 ⟨hc, hq⟩ => ⟨m, z, rfl, rfl, hc, ?_⟩⟩
    obtain ⟨e3, ee, hq⟩ := bindP_of hq
    obtain ⟨F3, ok3, l3⟩ := RR.store (r := .val (.fz (.int (f m z)))) (v := .int (f m z)) ok2 (Free.fz (.int _)) ee
    exact k1 _ F3 _ e3 ok3 (l2.trans l3) hq
end

/-! ### a, b = e, f -/
/-- the value by itself: what stands in a slot is frozen -/
def ownR (env : Env) : R → Option (M × Env)
  | .val m => some (m, env)
  | .slot j => match lkR env (.slot j) with
    | some (.d d, e2) => some (.fz d, e2)
    | _ => none
def sPar (i j : Nat) (fa fb : FE) : FS := fun env E W => fa env (fun r1 e1 => bindP (ownR e1 r1) fun x => fb x.2 (fun r2 e2 => bindP (ownR e2 r2) fun y =>
  (i < y.2.sl.length ∧ i ∉ y.2.bor ∧ j < y.2.sl.length ∧ j ∉ y.2.bor) ∧ E.nx { y.2 with sl := (y.2.sl.set i (some x.1)).set j (some y.1) }) W) W
section
variable {K : Fg} {mg : Mg} {G : Gh} {F F' H H' : Hp} {σ σ' : L2.St} {env env' : Env} {m : M} {v : V}
theorem RR.own (ok : EnvOk K mg G F H σ env) {r : R} (h : RR K mg G F H σ env r v) {x : M × Env} (e : ownR env r = some x) : ∃ F1, EnvOk K mg G F1 H σ x.2 ∧ Le F F1 ∧ Free K mg G F1 H σ x.2 x.1 v := by
  cases r with
  | val m => cases e; exact ⟨F, ok, Le.refl _, h⟩
  | slot j =>
    unfold ownR at e
    dsimp only at e
    cases q : lkR env (.slot j) with
    | none => rw [q] at e; cases e
    | some y =>
      obtain ⟨y, e1⟩ := y
      rw [q] at e
      cases y with
      | g x => cases e
      | s x => cases e
      | d d =>
        cases e
        obtain ⟨F1, ok1, l1, ax⟩ := RR.leak ok h q
        exact ⟨F1, ok1, l1, Free.fz ax⟩
/-- from the ghost of a moment to the entry's -/
theorem EnvOk.up (ok : EnvOk K mg G F H σ env) (ok' : EnvOk K mg (G.now F H σ env.sl) F' H' σ' env') : EnvOk K mg G F' H' σ' env' := by
  refine ⟨ok'.sub, ok'.slot, ok'.apart, ok.frz.trans ok'.frz, fun b o e n nt => ?_, fun b e => ok.dom b (ok'.dom b e), fun b o e => ?_, fun j b z => ?_, ok'.bor, ok'.borA, ok'.sep, ok.borH, ok'.len, ok'.tabs, ok'.nt⟩
  · refine ok'.frame b o (ok.frame b o e n nt) (fun ⟨i, z⟩ => ?_) nt
    rcases ok.newO i b z with q | q
    · exact n q
    · rw [q] at e; cases e
  · rcases ok'.newF b o e with z | z | ⟨i, z⟩
    · exact ok.newF b o z
    · exact .inr (.inl (ok.dom b z))
    · exact (ok.newO i b z).elim (fun q => .inr (.inr q)) fun q => .inr (.inl q)
  · rcases ok'.newO j b z with ⟨i, q⟩ | q
    · exact ok.newO i b q
    · exact .inr (ok.dom b q)
theorem EnvOk.now (ok : EnvOk K mg G F H σ env) : EnvOk K mg (G.now F H σ env.sl) F H σ env :=
  ⟨ok.sub, ok.slot, ok.apart, Le.refl _, fun b o e _ _ => e, fun b e => e, fun b o e => .inl e, fun j b z => .inl ⟨j, z⟩, ok.bor, ok.borA, ok.sep, fun p hp e => ok.borH p hp (ok.dom _ e), ok.len, ok.tabs, ok.nt⟩
/-- a value in hand stays as it is -/
theorem Free.keep (f : Free K mg G F H σ env m v) (ok : EnvOk K mg G F H σ env) (ok' : EnvOk K mg (G.now F H σ env.sl) F' H' σ' env') : Free K mg G F' H' σ' env' m v := by
  have key : isOwn m = true → ∀ a, v = .ref a → H' a = H a ∧ F' a = none ∧ ∀ i, ¬ OwnAt σ' env'.sl i a := fun o a ea => by
    obtain ⟨n1, n2⟩ := f.new o a ea
    obtain ⟨b, u, e1, e2, e3, ou⟩ := f.rm.own o
    rw [ea] at e1
    cases e1
    have no : ¬ ∃ i, OwnAt σ env.sl i a := fun ⟨i, z⟩ => n2 i z
    refine ⟨by rw [ok'.frame a u e3 no ou.ntb, e3], ?_, fun i z => ?_⟩
    · cases q : F' a with
      | none => rfl
      | some o =>
        rcases ok'.newF a o q with z | z | z
        · rw [show F a = some o from z] at e2; cases e2
        · rw [show H a = none from z] at e3; cases e3
        · exact (no z).elim
    · rcases ok'.newO i a z with q | q
      · exact no q
      · rw [show H a = none from q] at e3; cases e3
  exact ⟨f.rm.le ok'.frz fun o a ea => ⟨(key o a ea).1, (key o a ea).2.1⟩, fun o a ea => ⟨(f.new o a ea).1, (key o a ea).2.2⟩⟩
end
/-- an expression's reading at a later moment of the same statement -/
def laterE (gp : Gp) (K : Fg) (mg : Mg) (G : Gh) (W : KX) (f : FE) : TE := fun σ H Q => ∃ G1, gp G1 ∧ (∀ c d σ' H', liftW K mg G1 W c d σ' H' → liftW K mg G W c d σ' H') ∧ liftE K mg G1 W f σ H Q
section
variable {X : Cx}
theorem later_e {e : Expr} {f : FE} {G : Gh} {W : KX} (h : VE gp X e f) (t : Tk gp X G W) : PE X e (laterE gp X.K X.mg G W f) := ⟨fun pins s σ H Q I ⟨G1, hp, i, q⟩ => (h G1 W ⟨hp, t.2.imp i⟩).run pins s σ H Q I q⟩
theorem up_w {G : Gh} {W : KX} {F H : Hp} {σ : L2.St} {env : Env} (ok : EnvOk X.K X.mg G F H σ env) : ∀ c d σ' H', liftW X.K X.mg (G.now F H σ env.sl) W c d σ' H' → liftW X.K X.mg G W c d σ' H' := fun c d σ' H' ⟨ex, F', e', ok', eo, w⟩ => ⟨ex, F', e', ok.up ok', eo, w⟩
theorem vs_par {i j : Nat} {x y : Str} {a b : Expr} {fa fb : FE} {px py pt pos : Pos} {kt k2 pt2} (hc : X.calm = true) (hN : X.N.Nodup) (hi : X.N[i]? = some x) (hj : X.N[j]? = some y) (hij : i ≠ j)
    (hx : X.env.scope.names.lookup x = some .local) (hy : X.env.scope.names.lookup y = some .local) (ha : VE gp X a fa) (hb : VE gp X b fb) (na : starEach [a, b] X.env = (false, eval a X.env) :: starEach [b] X.env := by rfl) (nb : starEach [b] X.env = (false, eval b X.env) :: starEach [] X.env := by rfl)
    (hw : swappedStores [.Tuple [.Name x px, .Name y py] kt pt] (.Tuple [a, b] k2 pt2) X.env = pure (some [x, y]) := by rfl)
    (hs : swapsWithSole [.Tuple [.Name x px, .Name y py] kt pt] (.Tuple [a, b] k2 pt2) pos.line X.env = pure false := by rfl) (stb : Stb gp := by exact stbT) :
    VS gp X (.Assign [.Tuple [.Name x px, .Name y py] kt pt] (.Tuple [a, b] k2 pt2) pos) (sPar i j fa fb) := fun G W _ t =>
  PS.imp (ps_par hc hN hi hj hij hx hy (pa_cons (ha G W t) (pa_cons (later_e hb t) pa_nil nb) na) hw hs) fun Dn σ H hq => by
    obtain ⟨F, env, E, ok, hf, k1, _⟩ := hq
    refine ⟨F, env, _, ok, hf, fun r1 e1 v1 F1 H1 ok1 l1 rr hq => ?_⟩
    obtain ⟨⟨m1, e1'⟩, eo, hq⟩ := bindP_of hq
    obtain ⟨F2, ok2, l2, fr⟩ := RR.own ok1 rr eo
    refine ⟨G.now F2 H1 σ e1'.sl, stb _ _ _ _ _ t.1, up_w ok2, F2, e1', _, ok2.now, hq, fun r2 e2 v2 F3 H3 ok3 l3 rr2 hq => ?_⟩
    obtain ⟨⟨m2, e2'⟩, eo2, ⟨c1, c2, c3, c4⟩, hq⟩ := bindP_of hq
    obtain ⟨F4, ok4, l4, fr2⟩ := RR.own ok3 rr2 eo2
    have okF := ok2.up ok4
    have frF := fr.keep ok2 ok4
    have frS : Free X.K X.mg G F4 H3 σ e2' m2 v2 := ⟨fr2.rm, fun o a ea => ⟨ok2.dom a (fr2.new o a ea).1, (fr2.new o a ea).2⟩⟩
    have okI := okF.store c1 c2 frF
    have apart : isOwn m2 = true → ∀ a, v2 = .ref a → ∀ k, ¬ OwnAt (σ.set i (some v1)) (e2'.sl.set i (some m1)) k a := fun o a ea k z => by
      by_cases hk : k = i
      · subst hk
        obtain ⟨m, g1, g2, g3⟩ := z
        rw [List.getElem?_set_self c1] at g1
        rw [List.getElem?_set_self (by rw [← okF.len]; exact c1)] at g3
        cases g1
        cases g3
        obtain ⟨b, u, q1, q2, q3, _⟩ := fr.rm.own g2
        cases q1
        have := (fr2.new o a ea).1
        rw [show H1 a = none from this] at q3; cases q3
      · exact (frS.new o a ea).2 k ((OwnAt.set_other hk).mp z)
    have okJ := okI.store (i := j) (m := m2) (v := v2) (by show j < (e2'.sl.set i (some m1)).length; rw [List.length_set]; exact c3) c4 ⟨frS.rm, fun o a ea => ⟨(frS.new o a ea).1, apart o a ea⟩⟩
    exact ⟨v1, v2, rfl, k1 _ F4 H3 _ okJ (l1.trans (l2.trans (l3.trans l4))) hq⟩

/-! ### *e in an argument list -/
def lotOf : Ar → Option (List D)
  | .d (.list ds) => some ds
  | .d (.tuple ds) => some ds
  | _ => none
def aS (fe : FE) (fa : FA) : FA := fun env Q W => fe env (fun r e1 => bindP (lkR e1 r) fun x => bindP (lotOf x.1) fun ds => fa x.2 (fun as e2 => Q (ds.map .d ++ as) e2) W) W
theorem ArAll.ofData {K : Fg} {mg : Mg} {F : Hp} {σ : L2.St} : ∀ {vs : List V} {ds : List D}, DtAll K F vs ds → ArAll K mg F σ (ds.map .d) vs
  | _, _, .nil => .nil
  | _, _, .cons h r => .cons h (ArAll.ofData r)
theorem ArAll.append {K : Fg} {mg : Mg} {F : Hp} {σ : L2.St} {as bs : List Ar} {vs ws : List V} (h : ArAll K mg F σ as vs) (r : ArAll K mg F σ bs ws) : ArAll K mg F σ (as ++ bs) (vs ++ ws) := by
  induction h with
  | nil => exact r
  | cons a _ ih => exact .cons a ih
theorem va_s {e : Expr} {es : List Expr} {fe : FE} {fa : FA} {p : Pos} (he : VE gp X e fe) (ha : VA gp X es fa) (hs : starEach (.Starred e p :: es) X.env = (true, eval e X.env) :: starEach es X.env := by rfl) : VA gp X (.Starred e p :: es) (aS fe fa) := fun G W t =>
  PA.imp (StX.pa_star (he G W t) (ha G W t) hs) fun σ H Q hw => by
    obtain ⟨F, env, Qv, ok, hf, q⟩ := hw
    refine ⟨F, env, _, ok, hf, fun r e1 v F1 H1 ok1 l1 rr hq => ?_⟩
    obtain ⟨⟨x, e2⟩, ex, hq⟩ := bindP_of hq
    obtain ⟨ds, eds, hq⟩ := bindP_of hq
    obtain ⟨F2, ok2, l2, ax⟩ := rr.leak ok1 ex
    have key : ∃ p xs, v = .ref p ∧ (SqT X.K H1 p xs ∨ SqL X.K H1 p xs) ∧ DtAll X.K F2 xs ds := by
      cases x with
      | g x => cases eds
      | s x => cases eds
      | d d =>
        cases d with
        | list zs =>
          cases eds
          cases ax with
          | lst h r => exact ⟨_, _, rfl, .inr (sqL_le ok2.sub h.sqL), r⟩
        | tuple zs =>
          cases eds
          cases ax with
          | tup h r => exact ⟨_, _, rfl, .inl (sqT_le ok2.sub h.sqT), r⟩
        | _ => cases eds
    obtain ⟨p, xs, ev, hsq, rx⟩ := key
    refine ⟨p, xs, ev, hsq, F2, e2, _, ok2, hq, fun as e3 vs F3 H3 ok3 l3 aa hq => ?_⟩
    exact q _ e3 _ F3 H3 ok3 ((l1.trans l2).trans l3) ((ArAll.ofData (rx.le l3)).append aa) hq
end
end VL

/-! VlN: enumerate, zip over lists, tuples, texts. -/
namespace VL
open PySem PySem.Spec PyProof.Rows L2

/-! ### enumerate(v) begins, whatever v is walked by -/
set_option maxHeartbeats 1000000 in
theorem new_enum0 {v : Value} {o : Obj} {P : Heap → Prop} (B : Begins v o P) : Meets (Builtin.«enumerate.__new__» ⟨[.type "enumerate", v], []⟩) (fun _ R s => P s.heap ∧
    R (.ok (.ret (.ref (s.heap.push o).objs.size))) { s with heap := (s.heap.push o).push { cls := .type "enumerate", data := .fields #[.none, .bool false, .ref s.heap.objs.size, rawInt 0, .none, .none] } }) :=
  .of_wp fun prog w A R s hyp => by
    obtain ⟨hp, gs, dr, tk, os⟩ := s
    obtain ⟨hP, hR⟩ := hyp
    have hsub := sub_enumerate
    have step : ∀ {A' : Around} {E : Value → Shared → Prop} {Q : Value → Shared → Prop}, Q (.ref hp.objs.size) ⟨hp.push o, gs, dr, tk, os⟩ → wpAny (model prog w) A' (pyIter v) Q E ⟨hp, gs, dr, tk, os⟩ := fun q => B.iter prog w _ _ _ _ hP q
    wp_walk using step
    refine wpAny_stack_any fun st => wpAny_pure ?_
    split
    · rename_i c _ _ _ _ _
      cases (c == Value.type "enumerate") <;> (wp_walk using step; exact ⟨_, rfl, hR⟩)
    · wp_walk using step
      exact ⟨_, rfl, hR⟩
theorem enum_begins0 {prog : Program} {w : World} {A : Around} {E : Value → Shared → Prop} {s : Shared} {v : Value} {o : Obj} {P : Heap → Prop} {Q : Value → Shared → Prop} (B : Begins v o P) (hP : P s.heap)
    (h : ∀ h', IsEnum h' (s.heap.objs.size + 1) s.heap.objs.size 0 .none → h'.get? s.heap.objs.size = some o → h'.objs.size = s.heap.objs.size + 2 → (∀ b o, s.heap.get? b = some o → h'.get? b = some o) → Q (.ref (s.heap.objs.size + 1)) { s with heap := h' }) :
    wpAny (model prog w) A (call (.type "enumerate") [v]) Q E s := by
  refine callType_new F.called_enumerate (by decide) (F.typeCall_enumerate_1 _) (F.newCall_enumerate_1 _) (fun obj => F.args_object_init_2 obj _) F.entry_enumerate_new (new_enum0 B) ⟨hP, ?_⟩
  have size1 : (s.heap.push o).objs.size = s.heap.objs.size + 1 := Heap.size_push ..
  have lies := Heap.get?_push_size (s.heap.push o) (o := { cls := .type "enumerate", data := .fields #[.none, .bool false, .ref s.heap.objs.size, rawInt 0, .none, .none] }) rfl
  show _ ∧ _
  rw [size1] at lies ⊢
  exact ⟨⟨_, lies, rfl⟩, h _ lies (Heap.get?_push_of_some _ (Heap.get?_push_size _ B.free)) (by rw [Heap.size_push, size1]) fun b u e => Heap.get?_push_of_some _ (Heap.get?_push_of_some _ e)⟩

theorem vals_getR : ∀ {xs : List V} {us : List Value} {j : Nat} {u : Value}, Vals xs us → us[j]? = some u → ∃ y, xs[j]? = some y ∧ RelV y u
  | _, _, _, _, .nil, e => by simp at e
  | _, _, 0, _, .cons r _, e => by simp at e; subst e; exact ⟨_, rfl, r⟩
  | _, _, j + 1, _, .cons _ t, e => vals_getR (j := j) t (by simpa using e)
/-! ### sources -/
inductive Src where
  | l (a : Addr)
  | t (a : Addr)
  | z (x : Str)
def Src.v : Src → V
  | .l a => .ref a
  | .t a => .ref a
  | .z x => .str x
def Src.At (K : Fg) (H : Hp) : Src → List V → Prop
  | .l a, xs => SqL K H a xs
  | .t a, xs => SqT K H a xs
  | .z x, xs => xs = x.cps.toList.map fun c => V.str ⟨#[c]⟩
theorem Src.At.le {K : Fg} {F F' : Hp} (l : Le F F') {r : Src} {xs : List V} (h : r.At K F xs) : r.At K F' xs := by
  cases r with
  | l a => exact sqL_le l h
  | t a => exact sqT_le l h
  | z x => exact h
/-- the iterator at it stands at the i-th item -/
def Src.St (it : Addr) : Src → Nat → Heap → Prop
  | .l a, i, h => h.IsListIter it a i
  | .t a, i, h => h.IsTupleIter it a i
  | .z x, i, h => ∃ t, h.IsStrIter it (strIterType x) x t i
def Src.off (it : Addr) : Src → Prop
  | .l a => a ≠ it
  | .t a => a ≠ it
  | .z _ => True
theorem Src.St.obj {it : Addr} {r : Src} {i : Nat} {h : Heap} (st : r.St it i h) : ∃ o, h.get? it = some o ∧ ∀ v, o.data ≠ .cell v := by
  cases r with
  | l a => obtain ⟨o, e, _, d⟩ := st; exact ⟨o, e, fun v z => by rw [d] at z; cases z⟩
  | t a => obtain ⟨o, e, _, d⟩ := st; exact ⟨o, e, fun v z => by rw [d] at z; cases z⟩
  | z x => obtain ⟨t, o, e, _, d⟩ := st; exact ⟨o, e, fun v z => by rw [d] at z; cases z⟩
theorem Src.St.keep {it : Addr} {r : Src} {i : Nat} {h h' : Heap} (st : r.St it i h) (k : ∀ o, h.get? it = some o → h'.get? it = some o) : r.St it i h' := by
  cases r with
  | l a => exact Heap.IsListIter.at st k
  | t a => exact Heap.IsTupleIter.at st k
  | z x => obtain ⟨t, o, e, q⟩ := st; exact ⟨t, o, k o e, q⟩
section
variable {X : Cx} {pins : List (Addr × Obj)} {σ : L2.St} {H : Hp} {s : Shared} {r : Src} {xs : List V} {it : Addr}
/-- what is drawn from a source that stands tracked -/
theorem Src.draws (I : Inv X pins σ H s) (hh : X.A.handled = none) (hA : r.At X.K H xs) (ho : r.off it) {i : Nat} (st : r.St it i s.heap) : ∃ fp P St, Draws X.prog X.w X.A.in1 it fp xs.length P St ∧ it ∈ fp ∧ St i s.heap ∧ (∀ j h, St j h → r.St it j h) ∧
    (∀ j x, P j x → ∃ y, xs[j]? = some y ∧ RelV y x) ∧ ∀ b ∈ fp, b = it ∨ ∃ a, r.v = .ref a ∧ b = a := by
  cases r with
  | l a =>
    obtain ⟨us, rv, p, hz⟩ := I.list hA
    have e : xs.length = us.toArray.size := by rw [rv.length, List.size_toArray]
    rw [e]
    refine ⟨_, _, _, Draws.list (A := X.A.in1) hh it a ho us.toArray, by simp, ⟨st, p.isList⟩, fun j h q => q.1, fun j x q => ?_, fun b hb => by simpa [Src.v, eq_comm] using hb⟩
    obtain ⟨y, h1, h2⟩ := vals_getR rv (show us[j]? = some x by simpa using q)
    exact ⟨y, h1, h2⟩
  | t a =>
    obtain ⟨us, rv, p, hz⟩ := I.tuple hA
    have e : xs.length = us.toArray.size := by rw [rv.length, List.size_toArray]
    rw [e]
    refine ⟨_, _, _, Draws.tuple (A := X.A.in1) hh it a ho us.toArray, by simp, ⟨st, p⟩, fun j h q => q.1, fun j x q => ?_, fun b hb => by simpa [Src.v, eq_comm] using hb⟩
    obtain ⟨y, h1, h2⟩ := vals_getR rv (show us[j]? = some x by simpa using q)
    exact ⟨y, h1, h2⟩
  | z x =>
    obtain ⟨t, st⟩ := st
    have hA : xs = x.cps.toList.map fun c => V.str ⟨#[c]⟩ := hA
    have e : xs.length = x.cps.size := by rw [hA, List.length_map, Array.length_toList]
    rw [e]
    refine ⟨_, _, _, Draws.text (A := X.A.in1) hh it x t, by simp, st, fun j h q => ⟨t, q⟩, fun j u q => ?_, fun b hb => .inl (by simpa using hb)⟩
    obtain ⟨c, k, h1, rfl⟩ := q
    refine ⟨.str ⟨#[c]⟩, ?_, k, rfl⟩
    rw [hA, List.getElem?_map, Array.getElem?_toList, h1] <;> rfl
/-- its iterator begins -/
theorem Src.begins (I : Inv X pins σ H s) (hA : r.At X.K H xs) {u : Value} (rx : RelV r.v u) : ∃ o P, Begins u o P ∧ P s.heap ∧ ∀ it h, h.get? it = some o → r.St it 0 h := by
  cases r with
  | l a =>
    cases rx
    obtain ⟨us, rv, p, hz⟩ := I.list hA
    exact ⟨_, _, begins_list a us.toArray, p.isList, fun it h e => ⟨_, e, rfl, rfl⟩⟩
  | t a =>
    cases rx
    obtain ⟨us, rv, p, hz⟩ := I.tuple hA
    exact ⟨_, _, begins_tuple a us.toArray, p, fun it h e => ⟨_, e, rfl, rfl⟩⟩
  | z x =>
    obtain ⟨t, rfl⟩ := rx
    exact ⟨_, _, begins_text x t, trivial, fun it h e => ⟨t, _, e, rfl, rfl⟩⟩
theorem Src.lt (I : Inv X pins σ H s) (hA : r.At X.K H xs) : ∀ a, r.v = .ref a → a < s.heap.objs.size := by
  intro a ea
  cases r with
  | l b => cases ea; obtain ⟨us, rv, p, hz⟩ := I.list hA; exact p.lt
  | t b => cases ea; obtain ⟨us, rv, ⟨o, e, _⟩, hz⟩ := I.tuple hA; exact Heap.lt_size e
  | z x => cases ea
theorem Src.off_of {r : Src} (h : ∀ a, r.v = .ref a → a ≠ it) : r.off it := by
  cases r with
  | l b => exact h b rfl
  | t b => exact h b rfl
  | z x => trivial
end

/-! ### a walk that gives new tuples -/
/-- turns from a walk of the library that stands at each turn -/
theorem turn_of {P : Program} {w : World} {K : Fg} {elts : List Expr} {kk : Nat} {tpos : Pos} {J : It} {e : Addr} {own : List Addr} {tn : Nat → Heap → Prop} (mem : e ∈ own) (obj : ∀ i h, tn i h → ∀ b ∈ own, ∃ o, h.get? b = some o ∧ ∀ v, o.data ≠ .cell v)
    (keep : ∀ i h h', tn i h → (∀ b ∈ own, ∀ o, h.get? b = some o → h'.get? b = some o) → tn i h')
    (self : ∀ (A : Around) (i : Nat) (s : Shared) (Q E : Value → Shared → Prop), tn i s.heap → Q (.ref e) s → wpAny (model P w) A (pyIter (.ref e)) Q E s)
    (build : ∀ (X : Cx), X.prog = P → X.w = w → X.K = K → X.calm = true → ∀ i pins s σ H, Inv X pins σ H s → (∀ b ∈ own, FpOk X pins H b) → tn i s.heap → (J.go i H ∨ J.stop i H) → ∃ fp ch n Pv St Mid, WalksT X.prog X.w X.A e fp ch n Pv St Mid ∧ (∀ b ∈ ch, b ∈ own) ∧
      St i s.heap ∧ (J.go i H → i < n) ∧ (J.stop i H → i = n) ∧ (∀ h, St (i + 1) h → tn (i + 1) h) ∧ ∀ vals, Pv i vals → ∃ xs, Vals xs vals.toList ∧ xs.length ≤ sizeLine ∧ ∀ T, H T = none → J.yld i H (.ref T) (upd H T (.tup xs))) :
    Turn P w K (.Tuple elts kk tpos) J own e tn where
  mem := mem
  obj := obj
  keep := keep
  self := self
  item := by
    intro X hP hw hK hc i pins s σ H E I hf st hg
    obtain ⟨fp, ch, n, Pv, St, Mid, W, hch, hst, g1, _, g3, g4⟩ := build X hP hw hK hc i pins s σ H I hf st (.inl hg)
    subst hP hw hK
    refine W.item i s _ _ (g1 hg) hst fun T vals h1 tk pv hT tup mid k1 => ⟨_, rfl, ?_⟩
    obtain ⟨xs, rv, hz, hy⟩ := g4 vals pv
    refine W.go elts kk tpos i T _ _ _ mid fun h2 st2 k2 => ?_
    have nT : H T = none := I.hok.fresh hT
    obtain ⟨o, t1, t2, t3⟩ := tup
    have tup2 : IsTup h2 T vals := ⟨o, k2 T o (W.apart i T _ mid) t1, t2, t3⟩
    have ob : ObjOk X.prog X.w (upd H T (.tup xs)) h2 T (.tup xs) := ⟨hz, vals.toList, rv, by rw [Array.toArray_toList]; exact tup2⟩
    have fch : ∀ b ∈ ch, FpOk X pins H b := fun b hb => hf b (hch b hb)
    have J2 : Inv X pins σ (upd H T (.tup xs)) { s with heap := h2, toks := tk } := I.turnedNew (ch := ch) (fun b u hb q => k2 b u hb (k1 b u hb q)) fch hT ob
    refine ⟨.ref T, _, J2, rfl, hy T nT, g3 h2 st2, fun b hb => ?_⟩
    obtain ⟨u, hu, _⟩ := obj i s.heap st b hb
    have hne : b ≠ T := fun z => by
      have := Heap.lt_size hu
      rw [z] at this
      exact absurd (Nat.lt_of_lt_of_le this hT) (Nat.lt_irrefl _)
    rw [upd_ne hne]
    exact (hf b hb).1
  done := by
    intro X hP hw hK hc i pins s σ H E I hf st hg
    obtain ⟨fp, ch, n, Pv, St, Mid, W, hch, hst, _, g2, _, _⟩ := build X hP hw hK hc i pins s σ H I hf st (.inr hg)
    subst hP hw hK
    rw [g2 hg] at hst
    exact W.done s _ _ hst fun h' tk k => ⟨rfl, I.turnedL (ch := ch) k fun b hb => hf b (hch b hb)⟩

/-- (k, x0), (k + 1, x1), .. -/
def ItE (K : Fg) (r : Src) (xs : List V) (k : Int) : It :=
  ⟨fun i H => r.At K H xs ∧ i < xs.length, fun i H v H' => ∃ T x, v = .ref T ∧ H T = none ∧ H' = upd H T (.tup [.int (k + (i : Nat)), x]) ∧ xs[i]? = some x, fun i H => r.At K H xs ∧ i = xs.length⟩
theorem turn_e {P : Program} {w : World} {K : Fg} {elts : List Expr} {kk : Nat} {tpos : Pos} {r : Src} {xs : List V} {k : Int} {e it : Addr} (hei : e ≠ it) (ho : r.off it) (he : ∀ a, r.v = .ref a → a ≠ e) :
    Turn P w K (.Tuple elts kk tpos) (ItE K r xs k) [e, it] e (fun i h => (∃ old, IsEnum h e it (k + (i : Nat)) old) ∧ r.St it i h) := by
  refine turn_of (by simp) (fun i h st b hb => ?_) (fun i h h' st q => ?_) (fun A i s Q E st q => let ⟨⟨_, z⟩, _⟩ := st; wpAny_pyIter_enum z q) fun X hP hw hK hc i pins s σ H I hf st hg => ?_
  · have hb' : b = e ∨ b = it := by simpa using hb
    rcases hb' with z | z
    · obtain ⟨⟨old, q⟩, _⟩ := st
      rw [z]; exact ⟨_, q, fun v y => nomatch y⟩
    · rw [z]; exact st.2.obj
  · obtain ⟨⟨old, z⟩, y⟩ := st
    exact ⟨⟨old, q e (by simp) _ z⟩, y.keep fun o => q it (by simp) o⟩
  · subst hP hw hK
    have hA : r.At X.K H xs := hg.elim (fun z => z.1) fun z => z.1
    obtain ⟨fp, Pv, St, D, hm, hs, back, vals, hfp⟩ := Src.draws I (I.ok.hd hc) hA ho st.2
    have hef : e ∉ fp := fun z => by
      rcases hfp e z with q | ⟨a, q1, q2⟩
      · exact hei q
      · exact he a q1 q2.symm
    refine ⟨_, _, _, _, _, _, WalksT.enumFrom k D e hei hef hm, fun b hb => hb, ⟨st.1, hs⟩, fun z => z.2, fun z => z.2, fun h z => ⟨z.1, back _ _ z.2⟩, fun vs pv => ?_⟩
    obtain ⟨t, x, px, rfl⟩ := pv
    obtain ⟨y, h1, h2⟩ := vals i x px
    exact ⟨[.int (k + (i : Nat)), y], .cons ⟨_, rfl⟩ (.cons h2 .nil), by rw [sizeLine_eq]; show 2 ≤ _; decide, fun T nT => ⟨T, y, rfl, nT, rfl, h1⟩⟩
def enumD : Int → List D → List D
  | _, [] => []
  | k, d :: ds => .tuple [.int k, d] :: enumD (k + 1) ds
theorem enumD_length : ∀ (k : Int) (ds : List D), (enumD k ds).length = ds.length
  | _, [] => rfl
  | k, d :: ds => by show (enumD (k + 1) ds).length + 1 = _; rw [enumD_length]; rfl
theorem enumD_at : ∀ {k : Int} {ds : List D} {i : Nat} {d : D}, ds[i]? = some d → (enumD k ds)[i]? = some (.tuple [.int (k + (i : Nat)), d])
  | k, d :: ds, 0, d', e => by
    simp at e; subst e
    show some _ = _
    simp
  | k, d :: ds, i + 1, d', e => by
    show (enumD (k + 1) ds)[i]? = _
    rw [enumD_at (k := k + 1) (show ds[i]? = some d' from e)]
    congr 4
    push_cast
    omega
theorem Src.At.dt {K : Fg} {F : Hp} {ds : List D} {x : Ar} {σ : L2.St} {mg : Mg} {v : V} (ax : ArOk K mg F σ x v) (e : seqOf x = some ds) : ∃ r xs, v = Src.v r ∧ r.At K F xs ∧ DtAll K F xs ds := by
  cases x with
  | g x => cases e
  | s x => cases e
  | d d =>
    cases d with
    | list zs =>
      cases e
      cases ax with
      | lst h q => exact ⟨.l _, _, rfl, h.sqL, q⟩
    | tuple zs =>
      cases e
      cases ax with
      | tup h q => exact ⟨.t _, _, rfl, h.sqT, q⟩
    | str z =>
      cases e
      cases ax
      refine ⟨.z z, _, rfl, rfl, ?_⟩
      have all : ∀ l : List Nat, DtAll K F (l.map fun c => V.str ⟨#[c]⟩) (l.map fun c => PyData.str ⟨#[c]⟩) := fun l => by
        induction l with
        | nil => exact .nil
        | cons c l ih => exact .cons (.str _) ih
      exact all _
    | _ => cases e
theorem wk_e {K : Fg} {F : Hp} {r : Src} {xs : List V} {ds : List D} {k : Int} (h : r.At K F xs) (q : DtAll K F xs ds) : Wk K F (ItE K r xs k) (enumD k ds) true := by
  have hl := q.length
  have he := enumD_length k ds
  refine ⟨fun i H hi l => ⟨h.le l, by omega⟩, fun H l => ⟨h.le l, by omega⟩, fun i H x H' hi l y => ?_⟩
  obtain ⟨T, z, rfl, nT, rfl, hz⟩ := y
  obtain ⟨d, e, rd⟩ := q.get hz
  exact ⟨_, enumD_at e, .inr ⟨rfl, T, _, _, rfl, nT, rfl, rfl, .cons (.int _) (.cons rd .nil)⟩⟩
/-- enumerate(x), enumerate(x, k) -/
def fEn (fe : FE) : FW := fun env Q W => fe env (fun r e1 => bindP (lkR e1 r) fun x => bindP (seqOf x.1) fun ds => Q (enumD 0 ds) x.2) W
def fEnK (fe fk : FE) : FW := fun env Q W => fe env (fun r e1 => bindP (lkR e1 r) fun x => bindP (seqOf x.1) fun ds => fI fk x.2 (fun k e2 => (-1000000000 ≤ k ∧ k ≤ 1000000000) ∧ Q (enumD k ds) e2) W) W
section
variable {X : Cx} {e e2 : Expr} {fe fk : FE} {p pos tpos : Pos} {elts : List Expr} {kk : Nat}
/-- the two cells of an enumerate that has begun -/
theorem en_it {pins : List (Addr × Obj)} {σ : L2.St} {H : Hp} {s : Shared} {R : It → Hp → Prop} {r : Src} {xs : List V} {o : Obj} {k : Int} {h' : Heap} {E : Value → Shared → Prop} (I : Inv X pins σ H s) (hA : r.At X.K H xs) (hSt : ∀ it h, h.get? it = some o → r.St it 0 h)
    (he : IsEnum h' (s.heap.objs.size + 1) s.heap.objs.size k .none) (ho : h'.get? s.heap.objs.size = some o) (hk : ∀ b o, s.heap.get? b = some o → h'.get? b = some o) (q : R (ItE X.K r xs k) H) :
    wpAny (model X.prog X.w) X.A (pyIter (.ref (s.heap.objs.size + 1))) (PIE X pins σ (.Tuple elts kk tpos) R) E { s with heap := h' } := by
  refine wpAny_pyIter_enum he ?_
  have new : ∀ b ∈ [s.heap.objs.size + 1, s.heap.objs.size], FpOk X pins H b := fun b hb => by
    have hle : s.heap.objs.size ≤ b := by
      have e' : b = s.heap.objs.size + 1 ∨ b = s.heap.objs.size := by simpa using hb
      rcases e' with z | z <;> rw [z]
      · exact Nat.le_succ _
      · exact Nat.le_refl _
    exact I.fpOk hle (I.hok.fresh hle)
  have far : ∀ a, r.v = .ref a → a < s.heap.objs.size := Src.lt I hA
  refine ⟨_, [s.heap.objs.size + 1, s.heap.objs.size], _, _, H, rfl, I.kept (t' := s.toks) hk, turn_e (Nat.succ_ne_self _) (Src.off_of fun a ea => Nat.ne_of_lt (far a ea)) (fun a ea => Nat.ne_of_lt (Nat.lt_succ_of_lt (far a ea))), ⟨⟨.none, ?_⟩, hSt _ _ ho⟩, new, q⟩
  simpa using he
theorem vi_en (hg : Gl X "enumerate") (hm : X.mg "enumerate" = none) (he : VE gp X e fe) (hs : starEach [e] X.env = [(false, eval e X.env)] := by rfl) (hs' : starEach [e] X.env = (false, eval e X.env) :: starEach [] X.env := by rfl) :
    VI gp X (.Tuple elts kk tpos) (.Call (.Name "enumerate" p) [e] [] pos) true (fEn fe) := fun G W t => by
  refine ⟨fun pins s σ H R I h => Call_ (ld_blt I hg hm boot_enumerate (PyProof.Rows.callWith_type1 ?_ hs rfl))⟩
  obtain ⟨F, env, Q, ok, hf, q⟩ := h
  refine thn ((pa_cons (he G W t) pa_nil hs').run pos pins s σ H (fun vs H1 => ∃ r xs, vs = [Src.v r] ∧ r.At X.K H1 xs ∧ R (ItE X.K r xs 0) H1) I ?_) fun us s1 ⟨vs, H1, I1, rv, r, xs, ev, hA, hR⟩ => ?_
  · refine ⟨F, env, _, ok, hf, fun rr e1 v F1 H1 ok1 l1 hr hq => ?_⟩
    obtain ⟨⟨x, e2⟩, ex, hq⟩ := bindP_of hq
    obtain ⟨ds, eds, hq⟩ := bindP_of hq
    obtain ⟨F2, ok2, l2, ax⟩ := hr.leak ok1 ex
    obtain ⟨r, xs, ev, hA, rd⟩ := Src.At.dt ax eds
    exact ⟨r, xs, by rw [ev], hA.le ok2.sub, q _ e2 F2 H1 _ ok2 (l1.trans l2) (wk_e hA rd) hq⟩
  · subst ev
    obtain ⟨u, rfl, ru⟩ := rv.one
    obtain ⟨o, Ph, B, hP, hSt⟩ := Src.begins I1 hA ru
    exact enum_begins0 B hP fun h' z1 z2 _ hk => en_it I1 hA hSt z1 z2 hk hR
end
end VL

/-! VlO: enumerate with a start, zip of two. -/
namespace VL
open PySem PySem.Spec PyProof.Rows L2

/-- (x0, y0), (x1, y1), .. -/
def ItZ (K : Fg) (r1 r2 : Src) (xs ys : List V) : It :=
  ⟨fun i H => r1.At K H xs ∧ r2.At K H ys ∧ i < min xs.length ys.length, fun i H v H' => ∃ T x y, v = .ref T ∧ H T = none ∧ H' = upd H T (.tup [x, y]) ∧ xs[i]? = some x ∧ ys[i]? = some y, fun i H => r1.At K H xs ∧ r2.At K H ys ∧ i = min xs.length ys.length⟩
theorem turn_z {P : Program} {w : World} {K : Fg} {elts : List Expr} {kk : Nat} {tpos : Pos} {r1 r2 : Src} {xs ys : List V} {N : Nat} (f1 : ∀ a, r1.v = .ref a → a < N) (f2 : ∀ a, r2.v = .ref a → a < N) :
    Turn P w K (.Tuple elts kk tpos) (ItZ K r1 r2 xs ys) [N + 4, N + 2, N + 3, N, N + 1] (N + 4) (fun i h => IsZip h (N + 4) (N + 2) (N + 3) .none ∧ IsTupOf2 h (N + 2) (.ref N) (.ref (N + 1)) ∧ (∃ a b, IsTupOf2 h (N + 3) a b) ∧ r1.St N i h ∧ r2.St (N + 1) i h) := by
  refine turn_of (by simp) (fun i h st b hb => ?_) (fun i h h' st q => ?_) (fun A i s Q E st q => wpAny_pyIter_zip st.1 q) fun X hP hw hK hc i pins s σ H I hf st hg => ?_
  · obtain ⟨z1, z2, ⟨x, y, z3⟩, z4, z5⟩ := st
    have hb' : b = N + 4 ∨ b = N + 2 ∨ b = N + 3 ∨ b = N ∨ b = N + 1 := by simpa using hb
    rcases hb' with z | z | z | z | z
    · rw [z]; exact ⟨_, z1, fun v y => nomatch y⟩
    · rw [z]; exact ⟨_, z2, fun v y => nomatch y⟩
    · rw [z]; exact ⟨_, z3, fun v y => nomatch y⟩
    · rw [z]; exact z4.obj
    · rw [z]; exact z5.obj
  · obtain ⟨z1, z2, ⟨x, y, z3⟩, z4, z5⟩ := st
    exact ⟨q (N + 4) (by simp) _ z1, q (N + 2) (by simp) _ z2, ⟨x, y, q (N + 3) (by simp) _ z3⟩, z4.keep fun o => q N (by simp) o, z5.keep fun o => q (N + 1) (by simp) o⟩
  · subst hP hw hK
    have hA : r1.At X.K H xs ∧ r2.At X.K H ys := hg.elim (fun z => ⟨z.1, z.2.1⟩) fun z => ⟨z.1, z.2.1⟩
    obtain ⟨z1, z2, z3, z4, z5⟩ := st
    have o1 : r1.off N := Src.off_of fun a ea => Nat.ne_of_lt (f1 a ea)
    have o2 : r2.off (N + 1) := Src.off_of fun a ea => Nat.ne_of_lt (Nat.lt_succ_of_lt (f2 a ea))
    obtain ⟨p1, P1, S1, D1, m1, s1, b1, v1, h1⟩ := Src.draws I (I.ok.hd hc) hA.1 o1 z4
    obtain ⟨p2, P2, S2, D2, m2, s2, b2, v2, h2⟩ := Src.draws I (I.ok.hd hc) hA.2 o2 z5
    have out1 : ∀ j : Nat, 0 < j → N + j ∉ p1 := fun j hj z => by
      rcases h1 _ z with q | ⟨a, q1, q2⟩
      · have q : (N + j : Nat) = N := q
        omega
      · have := f1 a q1
        rw [← q2] at this
        have this : (N + j : Nat) < N := this
        omega
    have out2 : ∀ j : Nat, j ≠ 1 → N + j ∉ p2 := fun j hj z => by
      rcases h2 _ z with q | ⟨a, q1, q2⟩
      · have q : (N + j : Nat) = N + 1 := q
        omega
      · have := f2 a q1
        rw [← q2] at this
        have this : (N + j : Nat) < N := this
        omega
    have sep : ZipSep2 (N + 4) (N + 2) (N + 3) N (N + 1) p1 p2 :=
      { TIz := show (N + 2 : Nat) ≠ N + 4 by omega, TOz := show (N + 3 : Nat) ≠ N + 4 by omega, TITO := show (N + 2 : Nat) ≠ N + 3 by omega, TIi1 := show (N + 2 : Nat) ≠ N by omega, mem1 := m1, zf1 := out1 4 (by omega), Tf1 := out1 3 (by omega),
        TIi2 := show (N + 2 : Nat) ≠ N + 1 by omega, mem2 := m2, zf2 := out2 4 (by omega), Tf2 := out2 3 (by omega), sep1_2 := out2 0 (by omega), sep2_1 := out1 1 (by omega) }
    refine ⟨_, _, _, _, _, _, WalksT.zipD2 sep D1 D2, fun b hb => ?_, ⟨z1, z2, z3, s1, s2⟩, fun z => z.2.2, fun z => z.2.2, fun h ⟨q1, q2, q3, q4, q5⟩ => ⟨q1, q2, q3, b1 _ _ q4, b2 _ _ q5⟩, fun vs pv => ?_⟩
    · have hb' : b = N + 4 ∨ b = N + 3 ∨ b = N ∨ b = N + 1 := by simpa using hb
      rcases hb' with z | z | z | z <;> simp [z]
    · obtain ⟨x, y, px, py, rfl⟩ := pv
      obtain ⟨u, q1, q2⟩ := v1 i x px
      obtain ⟨v, q3, q4⟩ := v2 i y py
      exact ⟨[u, v], .cons q2 (.cons q4 .nil), by rw [sizeLine_eq]; show 2 ≤ _; decide, fun T nT => ⟨T, u, v, rfl, nT, rfl, q1, q3⟩⟩
def zipD : List D → List D → List D
  | x :: xs, y :: ys => .tuple [x, y] :: zipD xs ys
  | _, _ => []
theorem zipD_length : ∀ xs ys : List D, (zipD xs ys).length = min xs.length ys.length
  | [], _ => by simp [zipD]
  | _ :: _, [] => by simp [zipD]
  | x :: xs, y :: ys => by
    show (zipD xs ys).length + 1 = _
    rw [zipD_length]
    simp only [List.length_cons]
    omega
theorem zipD_at : ∀ {xs ys : List D} {i : Nat} {x y : D}, xs[i]? = some x → ys[i]? = some y → (zipD xs ys)[i]? = some (.tuple [x, y])
  | [], _, _, _, _, h, _ => by simp at h
  | _ :: _, [], _, _, _, _, h => by simp at h
  | x :: xs, y :: ys, 0, a, b, h1, h2 => by simp at h1 h2; subst h1 h2; rfl
  | x :: xs, y :: ys, i + 1, a, b, h1, h2 => zipD_at (xs := xs) (ys := ys) (i := i) (by simpa using h1) (by simpa using h2)
theorem wk_z {K : Fg} {F : Hp} {r1 r2 : Src} {xs ys : List V} {ds es : List D} (h1 : r1.At K F xs) (q1 : DtAll K F xs ds) (h2 : r2.At K F ys) (q2 : DtAll K F ys es) : Wk K F (ItZ K r1 r2 xs ys) (zipD ds es) true := by
  have l1 := q1.length
  have l2 := q2.length
  have lz := zipD_length ds es
  refine ⟨fun i H hi l => ⟨h1.le l, h2.le l, by omega⟩, fun H l => ⟨h1.le l, h2.le l, by omega⟩, fun i H x H' hi l y => ?_⟩
  obtain ⟨T, u, v, rfl, nT, rfl, e1, e2⟩ := y
  obtain ⟨d1, g1, r1⟩ := q1.get e1
  obtain ⟨d2, g2, r2⟩ := q2.get e2
  exact ⟨_, zipD_at g1 g2, .inr ⟨rfl, T, _, _, rfl, nT, rfl, rfl, .cons r1 (.cons r2 .nil)⟩⟩
def fZp (fe fg : FE) : FW := fun env Q W => fe env (fun r e1 => bindP (lkR e1 r) fun x => bindP (seqOf x.1) fun ds => fg x.2 (fun r2 e2 => bindP (lkR e2 r2) fun y => bindP (seqOf y.1) fun es => Q (zipD ds es) y.2) W) W
section
variable {X : Cx} {e e2 : Expr} {fe fg fk : FE} {p pos tpos : Pos} {elts : List Expr} {kk : Nat}
theorem vi_enK (hg : Gl X "enumerate") (hm : X.mg "enumerate" = none) (he : VE gp X e fe) (hk : VE gp X e2 fk) (hs : starEach [e, e2] X.env = (false, eval e X.env) :: starEach [e2] X.env := by rfl) (hs2 : starEach [e2] X.env = (false, eval e2 X.env) :: starEach [] X.env := by rfl)
    (hpl : (backTo pos (starEach [e2] X.env)).any (·.1) = false := by rfl) : VI gp X (.Tuple elts kk tpos) (.Call (.Name "enumerate" p) [e, e2] [] pos) true (fEnK fe fk) := fun G W t => by
  refine ⟨fun pins s σ H R I h => Call_ (ld_blt I hg hm boot_enumerate (PyProof.Rows.callWith_type1 ?_ hs hpl))⟩
  obtain ⟨F, env, Q, ok, hf, q⟩ := h
  refine thn ((pa_cons (he G W t) (pa_cons (hk G W t) pa_nil hs2) hs).run pos pins s σ H (fun vs H1 => ∃ r xs k, vs = [Src.v r, .int k] ∧ (-1000000000 ≤ k ∧ k ≤ 1000000000) ∧ r.At X.K H1 xs ∧ R (ItE X.K r xs k) H1) I ?_) fun us s1 ⟨vs, H1, I1, rv, r, xs, k, ev, hr, hA, hR⟩ => ?_
  · refine ⟨F, env, _, ok, hf, fun rr e1 v F1 H1 ok1 l1 hr hq => ?_⟩
    obtain ⟨⟨x, e2⟩, ex, hq⟩ := bindP_of hq
    obtain ⟨ds, eds, hq⟩ := bindP_of hq
    obtain ⟨F2, ok2, l2, ax⟩ := hr.leak ok1 ex
    obtain ⟨r, xs, ev, hA, rd⟩ := Src.At.dt ax eds
    refine lift_i ok2 hq fun k e3 F3 H3 ok3 l3 ⟨hr, q3⟩ => ?_
    exact ⟨r, xs, k, by rw [ev], hr, (hA.le l3).le ok3.sub, q _ e3 F3 H3 _ ok3 (l1.trans (l2.trans l3)) (wk_e (hA.le l3) (rd.le l3)) q3⟩
  · subst ev
    obtain ⟨u, v, rfl, ru, t, rfl⟩ := rv.two
    obtain ⟨o, Ph, B, hP, hSt⟩ := Src.begins I1 hA ru
    exact enum_begins B hP (by omega) (by omega) fun h' z1 z2 _ hk => en_it I1 hA hSt z1 z2 hk hR
theorem vi_zp (hg : Gl X "zip") (hm : X.mg "zip" = none) (he : VE gp X e fe) (hk : VE gp X e2 fg) (hs : starEach [e, e2] X.env = (false, eval e X.env) :: starEach [e2] X.env := by rfl) (hs2 : starEach [e2] X.env = (false, eval e2 X.env) :: starEach [] X.env := by rfl)
    (hpl : (backTo pos (starEach [e2] X.env)).any (·.1) = false := by rfl) : VI gp X (.Tuple elts kk tpos) (.Call (.Name "zip" p) [e, e2] [] pos) true (fZp fe fg) := fun G W t => by
  refine ⟨fun pins s σ H R I h => Call_ (ld_blt I hg hm PyProof.Rows.boot_zip (PyProof.Rows.callWith_type1 ?_ hs hpl))⟩
  obtain ⟨F, env, Q, ok, hf, q⟩ := h
  refine thn ((pa_cons (he G W t) (pa_cons (hk G W t) pa_nil hs2) hs).run pos pins s σ H (fun vs H1 => ∃ r1 xs r2 ys, vs = [Src.v r1, Src.v r2] ∧ r1.At X.K H1 xs ∧ r2.At X.K H1 ys ∧ R (ItZ X.K r1 r2 xs ys) H1) I ?_) fun us s1 ⟨vs, H1, I1, rv, r1, xs, r2, ys, ev, hA1, hA2, hR⟩ => ?_
  · refine ⟨F, env, _, ok, hf, fun rr e1 v F1 H1 ok1 l1 hr hq => ?_⟩
    obtain ⟨⟨x, e2⟩, ex, hq⟩ := bindP_of hq
    obtain ⟨ds, eds, hq⟩ := bindP_of hq
    obtain ⟨F2, ok2, l2, ax⟩ := hr.leak ok1 ex
    obtain ⟨r, xs, ev, hA, rd⟩ := Src.At.dt ax eds
    refine ⟨F2, e2, _, ok2, hq, fun rr2 e3 v2 F3 H3 ok3 l3 hr2 hq => ?_⟩
    obtain ⟨⟨y, e4⟩, ey, hq⟩ := bindP_of hq
    obtain ⟨es, ees, hq⟩ := bindP_of hq
    obtain ⟨F4, ok4, l4, ay⟩ := hr2.leak ok3 ey
    obtain ⟨r', ys, ev', hA', rd'⟩ := Src.At.dt ay ees
    have l24 := l3.trans l4
    exact ⟨r, xs, r', ys, by rw [ev, ev'], (hA.le l24).le ok4.sub, hA'.le ok4.sub, q _ e4 F4 H3 _ ok4 (l1.trans (l2.trans l24)) (wk_z (hA.le l24) (rd.le l24) hA' rd') hq⟩
  · subst ev
    obtain ⟨u, v, rfl, ru, rv2⟩ := rv.two
    obtain ⟨o1, P1, B1, h1, st1⟩ := Src.begins I1 hA1 ru
    obtain ⟨o2, P2, B2, h2, st2⟩ := Src.begins I1 hA2 rv2
    refine zip_begins2 B1 B2 h1 h2 fun h' z1 z2 z3 z4 z5 _ hk => wpAny_pyIter_zip z1 ?_
    have new : ∀ b ∈ [s1.heap.objs.size + 4, s1.heap.objs.size + 2, s1.heap.objs.size + 3, s1.heap.objs.size, s1.heap.objs.size + 1], FpOk X pins H1 b := fun b hb => by
      have hle : s1.heap.objs.size ≤ b := by
        have e' : b = s1.heap.objs.size + 4 ∨ b = s1.heap.objs.size + 2 ∨ b = s1.heap.objs.size + 3 ∨ b = s1.heap.objs.size ∨ b = s1.heap.objs.size + 1 := by simpa using hb
        rcases e' with z | z | z | z | z <;> rw [z] <;> first | exact Nat.le_add_right _ _ | exact Nat.le_refl _
      exact I1.fpOk hle (I1.hok.fresh hle)
    exact ⟨_, [s1.heap.objs.size + 4, s1.heap.objs.size + 2, s1.heap.objs.size + 3, s1.heap.objs.size, s1.heap.objs.size + 1], _, _, H1, rfl, I1.kept (t' := s1.toks) hk, turn_z (Src.lt I1 hA1) (Src.lt I1 hA2), ⟨z1, z2, ⟨_, _, z3⟩, st1 _ _ z4, st2 _ _ z5⟩, new, hR⟩
end
end VL

/-! VlP: small words for the printed derivations. -/
namespace VL
open PySem PySem.Spec PyProof.Rows L2
theorem hu150 {k : Nat} {A : Around} (hr : Room k A) : A.units + 150 < cLine := by have := hr.un; omega
/-- targets = value -/
def sTup (fe : FE) (g : FG) : FS := fun env E W => fe env (fun r e1 => bindP (lkR e1 r) fun x => bindP (dOf x.1) fun d => g d x.2 E.nx) W
section
variable {X : Cx} {e tg : Expr} {fe : FE} {g : FG} {is : List Nat} {pos : Pos}
theorem ve_v (i : Nat) {x : Str} {pos : Pos} (hN : X.N[i]? = some x := by rfl) (hv : Vis X.env.scope x := by first | exact Or.inl rfl | exact Or.inr (Or.inl rfl) | exact Or.inr (Or.inr rfl)) (hd : (x == ("__debug__" : Str)) = false := by decide)
    (hcd : (x == ("__classdict__" : Str)) = false := by decide) : VE gp X (.Name x pos) (fVar i) := ve_var hN hv hd hcd
theorem ve_gS {x z : Str} {pos : Pos} (hg : Gl X x) (h : ∃ t, X.mg x = some (.str z t)) (hb : (x == ("__debug__" : Str)) = false := by decide) : VE gp X (.Name x pos) (fC (.str z)) := by
  obtain ⟨t, h⟩ := h
  exact ve_glob (v := .str z) hg h ⟨t, rfl⟩ (fun _ => .str z) hb
theorem ve_gI {x : Str} {i : Int} {pos : Pos} (hg : Gl X x) (h : ∃ t, X.mg x = some (.int i t)) (hb : (x == ("__debug__" : Str)) = false := by decide) : VE gp X (.Name x pos) (fC (.int i)) := by
  obtain ⟨t, h⟩ := h
  exact ve_glob (v := .int i) hg h ⟨t, rfl⟩ (fun _ => .int i) hb
theorem vs_tup (he : VE gp X e fe) (hg : VGt X tg is g) (hs : swapsWithSole [tg] e pos.line X.env = pure false := by rfl) (hw : swappedStores [tg] e X.env = pure none := by rfl) (h1 : (assignEach [tg] X.env).map (·.2) = [assign tg X.env] := by rfl) :
    VS gp X (.Assign [tg] e pos) (sTup fe g) := fun G W _ t => PS.imp (ps_asg (he G W t) (hg G is fun _ h => h) hs hw h1) fun Dn σ H hq => by
  obtain ⟨F, env, E, ok, hf, k1, _⟩ := hq
  refine ⟨F, env, _, ok, hf, fun r e1 v F1 H1 ok1 l1 rr hq => ?_⟩
  obtain ⟨⟨x, e2⟩, ex, hq⟩ := bindP_of hq
  obtain ⟨d, ed, hq⟩ := bindP_of hq
  obtain ⟨F2, ok2, l2, ax⟩ := rr.leak ok1 ex
  cases x with
  | g x => cases ed
  | s x => cases ed
  | d d' =>
    cases ed
    exact ⟨F2, e2, d, _, ok2, .inl ax, hq, fun σ' e3 _ ok3 q3 => k1 σ' F2 H1 e3 ok3 (l1.trans l2) q3⟩
end
end VL

/-! VlQ: the law's head, from the promise of its def by value. -/
namespace VL
open PySem PySem.Spec PyProof.Rows L2

/-- the law's def gives True at the script -/
def LawV (sp : SpV) (ns : List Int) : Prop := sp [.fz (.list (ns.map .int))] (fun m _ => m = .fz (.bool true)) fun _ _ => False
section
variable {P : Program} {w : World} {K : Fg} {mg : Mg} {mb : Str → Option Value} {k : Nat} {fa a : Addr} {fd : FuncData} {x : Str} {sp : SpV} {s : Shared} {vs : List Value} {ns : List Int}
/-- from a heap H in which nothing but the script is tracked, frozen -/
theorem law_core (KX : K.In s.heap) (gl : s.heap.Ns mainGlobals mg) (bl : s.heap.Ns builtinsNs mb) (bb : ∀ x : Str, x ≠ "__name__" → mb x = bootBuiltins x) (lim : s.heap.NoLimit) (gn : s.gens = #[]) (room : Room k callerA)
    (F : ∀ base : Heap, K.In base → base.Ns mainGlobals mg → FnV P w K mg base [] k fa fd [x] [] sp) (bind : ∀ (s : Shared) (u : Value), BindsTo s fd ⟨[u], []⟩ [(x, u)]) (h : LawV sp ns)
    (H : Hp) (frozen : ∀ b u, H b = some u → ∃ o xs, u = .frz o (.lst xs)) (dt : Dt K H (.ref a) (.list (ns.map .int))) (hok : HOk P w H s.heap) (off : ∀ b o, s.heap.get? b = some o → H b ≠ none → (∀ es ep, o.data ≠ .dict es ep) ∧ K.lookup b = none) :
    codeAny (model P w) callerA (.call (.ref fa) ⟨[.ref a], []⟩) (fun r s' => r = .ok (.ret (.bool true)) ∧ OldK s.heap s'.heap ∧ s'.os = s.os ∧ AllBare s'.gens) s := by
  have keepD : ∀ {b : Addr} {m : Str → Option Value}, s.heap.Ns b m → (hidT s.heap H).Ns b m := fun {b m} ⟨o, es, ep, e, d, r⟩ => by
    refine ⟨o, es, ep, hidT_get e ?_, d, r⟩
    cases q : H b with
    | none => rfl
    | some u => exact absurd d ((off b o e (by rw [q]; exact fun z => by cases z)).1 es ep)
  have KB : K.In (hidT s.heap H) := fun b o e => by
    refine hidT_get (KX b o e) ?_
    cases q : H b with
    | none => rfl
    | some u =>
      have := (off b o (KX b o e) (by rw [q]; exact fun z => by cases z)).2
      rw [this] at e; cases e
  have md : Mod K mg (hidT s.heap H) := ⟨KB, keepD gl, ⟨mb, keepD bl, bb⟩, let ⟨mc, n1, n2⟩ := lim; ⟨mc, keepD n1, n2⟩⟩
  have e0 : Env0 P w K mg (hidT s.heap H) callerA [] s H := ⟨rfl, md, fun b o e => of_hidT e, Nat.le_of_eq (hidT_size _ _), trivial, fun b z => (nomatch z), hok, .of_eq gn⟩
  have ai : ArgIn K mg H H [] [V.ref a] [M.fz (.list (ns.map .int))] := by
    refine ⟨rfl, fun i m e => ?_, (fun i z => nomatch z), (fun i j b z => nomatch z)⟩
    cases i with
    | zero => cases e; exact ⟨_, rfl, dt, fun z => by cases z⟩
    | succ i => simp at e
  refine codeAny_mono ((F _ KB (keepD gl)).run callerA [] s H H ⟨[.ref a], []⟩ [.ref a] [.ref a] _ _ _ room rfl e0 (bind s (.ref a)) (.cons rfl .nil) (Le.refl H) ai (fun p hp => by simp at hp) (fun b u e ps z => by obtain ⟨_, _, w⟩ := frozen b u e; rw [w] at z; cases z) h) fun r s' q => ?_
  cases r with
  | error e =>
    obtain ⟨_, _, _, _, _, _, _, _, _, _, _, _, ex, F', bms, _, _, z⟩ := q
    exact z.elim
  | ok fl =>
    cases fl with
    | next => exact False.elim q
    | brk => exact False.elim q
    | cont => exact False.elim q
    | ret u =>
      obtain ⟨v, H', os, bare, un, hok', rv, F', m, bms, _, rm, _, em⟩ := q
      have em : m = .fz (.bool true) := em
      subst em
      have rm : Dt K F' v (.bool true) := rm
      cases bool_of rm
      obtain rfl : u = Value.bool true := rv
      refine ⟨rfl, OldK.of_keep fun b o e => ?_, os, bare⟩
      cases q : H b with
      | none => exact un.keep b o e q (fun z => nomatch z) (fun z => nomatch z)
      | some y =>
        obtain ⟨ob, xs, rfl⟩ := frozen b y q
        obtain ⟨e1, _⟩ := hok b _ q
        obtain ⟨e2, _⟩ := hok' b _ (un.frzs b ob _ q)
        rw [e] at e1
        cases e1
        exact e2
/-- the script wherever it lies -/
theorem law_runs (KX : K.In s.heap) (gl : s.heap.Ns mainGlobals mg) (bl : s.heap.Ns builtinsNs mb) (bb : ∀ x : Str, x ≠ "__name__" → mb x = bootBuiltins x) (lim : s.heap.NoLimit) (gn : s.gens = #[]) (room : Room k callerA)
    (ha : s.heap.get? a = some { cls := .type "list", data := .seq vs.toArray }) (iar : PyProof.Rows.IntsAre vs ns) (len : ns.length ≤ sizeLine)
    (F : ∀ base : Heap, K.In base → base.Ns mainGlobals mg → FnV P w K mg base [] k fa fd [x] [] sp) (bind : ∀ (s : Shared) (u : Value), BindsTo s fd ⟨[u], []⟩ [(x, u)]) (h : LawV sp ns) :
    codeAny (model P w) callerA (.call (.ref fa) ⟨[.ref a], []⟩) (fun r s' => r = .ok (.ret (.bool true)) ∧ OldK s.heap s'.heap ∧ s'.os = s.os ∧ AllBare s'.gens) s := by
  have rv : Vals (ns.map V.int) vs := vals_ints iar
  have lv := iar.length
  cases hk : K.lookup a with
  | some o =>
    have e := KX a o hk
    rw [ha] at e
    cases e
    exact law_core KX gl bl bb lim gn room F bind h (fun _ => none) (fun b u z => by cases z) (.lst (.inr ⟨vs, _, hk, by rw [lv]; exact len, rv⟩) (DtAll.ints ns)) (fun b u z => by cases z) fun b o e z => absurd rfl z
  | none =>
    have at_a : ∀ {b u}, (if b = a then some (HO.frz { cls := .type "list", data := .seq vs.toArray } (.lst (ns.map V.int))) else none) = some u → b = a ∧ u = .frz { cls := .type "list", data := .seq vs.toArray } (.lst (ns.map V.int)) := fun {b u} z => by
      by_cases hb : b = a
      · rw [if_pos hb] at z; cases z; exact ⟨hb, rfl⟩
      · rw [if_neg hb] at z; cases z
    refine law_core KX gl bl bb lim gn room F bind h (fun b => if b = a then some (.frz { cls := .type "list", data := .seq vs.toArray } (.lst (ns.map V.int))) else none) (fun b u z => ⟨_, _, (at_a z).2⟩) (.lst (.inl (.inr ⟨_, if_pos rfl⟩)) (DtAll.ints ns)) (fun b u z => ?_) fun b o e z => ?_
    · obtain ⟨rfl, rfl⟩ := at_a z
      exact ⟨ha, by rw [List.length_map]; exact len, vs, _, rv, ha⟩
    · have hb : b = a := by
        by_cases hb : b = a
        · exact hb
        · exact absurd (if_neg hb) z
      subst hb
      rw [ha] at e
      cases e
      exact ⟨(fun es ep q => by cases q), hk⟩
end
/-- the goal that k_head leaves (case hc), from the law's promise by value -/
theorem walk_val {l : PySem.W.OpenLaw} {n k : Nat} {q : Program} {loose : List Str} {XP : (Str → Option Value) → Heap → Prop} {YP : World → Heap → Prop} {d : DefRec} {K : Params → PySem.W.Frag} {sp : SpV} {x : Str}
    (hn : l.most = some n) (hz : n ≤ sizeLine) (hdf : d.params.defaults = []) (room : Room k callerA) (hY : ∀ (w : World) (h : Heap), YP w h → (K w.params).In h)
    (F : ∀ (w : World) (mg : Str → Option Value) (fa : Addr) (h : Heap), (K w.params).In h → h.Ns mainGlobals mg → mg d.name = some (.ref fa) → ∃ fd : FuncData, (∀ (s : Shared) (u : Value), BindsTo s fd ⟨[u], []⟩ [(x, u)]) ∧
      ∀ base : Heap, (K w.params).In base → base.Ns mainGlobals mg → FnV l.prog w (K w.params) mg base [] k fa fd [x] [] sp)
    (law : ∀ ns : List Int, ns.length ≤ n → LawV sp ns) : PySem.W.WalkO q loose XP YP l.row.toRowW d [] (fun f vs => PySem.call f vs) := by
  refine Att.attach_call hn hdf fun w s0 s1 mg mb fa o pm cd doc a vs ns Gr Y ho hd hcd hmg hobj iar len hg => ?_
  obtain ⟨fd, hb, hF⟩ := F w mg fa _ (hY w _ Y) Gr.T.g hmg
  exact law_runs (hY w _ Y) Gr.T.g Gr.T.b Gr.T.builtins Gr.T.nolimit hg room hobj iar (Nat.le_trans len hz) hF hb (law ns len)
end VL

/-! VlR: xs[b:] of a list, b a bool. -/
namespace VL
open PySem PySem.Spec PyProof.Rows L2
theorem part_bool {M : Model} {A : Around} {E : Value → Shared → Prop} {s : Shared} {b : Bool} {Q : Value → Shared → Prop} (h : Q (rawPart (some (b.toNat : Int))) s) : wpAny M A (listPart (.bool b)) Q E s := by
  unfold listPart
  rw [if_neg (show ¬ ((Value.bool b == Value.none) = true) from Bool.false_ne_true)]
  refine wpAny_bind (wpAny_specialOf (T := "bool") (PySem.typeIs_bool s b) PySem.F.slot_bool_index.lookup ?_)
  simp only [Option.isNone_some, Bool.false_eq_true, if_false]
  cases b
  · exact wpAny_bind (wpAny_of_eq (a := 0) rfl (wpAny_pure h))
  · exact wpAny_bind (wpAny_of_eq (a := 1) rfl (wpAny_pure h))
/-- l[b:] at the machine -/
theorem item_boolcut {prog : Program} {w : World} {A : Around} {E : Value → Shared → Prop} {s : Shared} {l sl : Addr} {items : Array Value} {b : Bool} {Q : Value → Shared → Prop} (hl : s.heap.IsList l items) (hs : s.heap.IsSliceOf sl (.bool b) .none .none) (hz : items.size ≤ sizeLine)
    (h : Q (.ref s.heap.objs.size) { s with heap := s.heap.push { cls := .type "list", data := .seq (slicePick items (some (b.toNat : Int)) none none) } }) : wpAny (model prog w) A (getItem (.ref l) (.ref sl)) Q E s := by
  obtain ⟨o, ho, hc, ne, hd⟩ := id hl
  obtain ⟨so, hso, hsc, hsd⟩ := id hs
  have ty : s.TypeIs (.ref sl) "slice" := ⟨so, hso, hsc⟩
  unfold getItem
  try with_reducible refine wpAny_holding ?_
  first | refine wpAny_bind (wpAny_pure ?_) | skip
  refine wpAny_bind (wpAny_sequenceKey hl.typeIs (by decide) ?_)
  refine wpAny_bind (wpAny_callSpecial?_slot (name := Str.ofString "__getitem__") hl.typeIs slot_list_getitem (wpAny_call_entry slot_list_getitem hl.typeIs entry_list_getitem ?_ (args_list_getitem _ _)))
  show wpAny _ _ (Builtin.List.listSubscript? (.ref sl) >>= _) _ _ s
  unfold Builtin.List.listSubscript?
  refine wpAny_bind (wpAny_bind (wpAny_specialOf ty slice_no_index ?_))
  simp only [Option.isNone_none, if_true]
  refine wpAny_pure ?_
  show wpAny _ _ (typeOf (.ref sl) >>= _) _ _ s
  refine wpAny_bind (wpAny_typeOf ty ?_)
  rw [if_neg (by decide), listSliceParts_eq]
  refine wpAny_bind (wpAny_bind (wpAny_field hso hsd (x := .none) rfl (wpAny_bind (wpAny_listPart .none ?_))))
  rw [if_neg (show ¬ ((rawPart none == rawInt 0) = true) from Bool.false_ne_true)]
  refine wpAny_bind (wpAny_field hso hsd (x := .bool b) rfl (wpAny_bind (part_bool ?_)))
  refine wpAny_bind (wpAny_field hso hsd (x := .none) rfl (wpAny_bind (wpAny_listPart .none (wpAny_pure ?_))))
  refine wpAny_bind (m := Builtin.List.listItems (.ref l)) ?_
  unfold Builtin.List.listItems
  refine wpAny_bind (wpAny_seqItems ho hd (wpAny_pure ?_))
  refine wpAny_bind (wpAny_of_eq (sliceIndices_raw (some (b.toNat : Int)) none none items.size (by simp)) ?_)
  exact wpAny_bind (wpAny_newObj_type (wpAny_pure ⟨_, rfl, wpAny_pure h⟩) (Nat.le_trans (slicePick_size_le items _ none none) hz))
def fSlB (fe fb : FE) : FE := fun env Q W => fe env (fun r e1 => bindP (lkR e1 r) fun x => bindP (dOf x.1) fun d => fTB fb x.2 (fun b e2 => match d with
  | .list xs => Q (.val (.lst (cutD xs (some (b.toNat : Int)) none))) e2
  | _ => False) W) W
section
variable {X : Cx} {e lo : Expr} {fe fb : FE} {pos p2 : Pos}
theorem pe_slB {te tb : TE} (he : PE X e te) (hb : PE X lo tb) : PE X (.Subscript e (.Slice (some lo) none none p2) pos) (fun σ H Q => te σ H fun x H1 => tb σ H1 fun y H2 => ∃ a xs b, x = .ref a ∧ y = .bl b ∧ SqL X.K H2 a xs ∧ ∀ p, H2 p = none → Q (.ref p) (upd H2 p (.lst (cutV xs (some (b.toNat : Int)) none)))) := by
  refine ⟨fun pins s σ H Q I h => Subscript_ (thn (he.run pins s σ H _ I h) fun v s1 ⟨x, H1, I1, r1, q1⟩ => ?_)⟩
  refine wpAny_Slice ?_
  rw [evalPart_some]
  refine thn (hb.run pins s1 σ H1 _ I1 q1) fun u s2 ⟨y, H2, I2, r2, a, xs, b, ex, ey, hx, q⟩ => ?_
  subst ex ey
  cases r1
  obtain rfl : u = Value.bool b := r2
  rw [evalPart_none]
  refine wpAny_pure (wpAny_pure ?_)
  have I4 : Inv X pins σ H2 { s2 with heap := s2.heap.push { cls := .type "slice", data := .fields #[.bool b, .none, .none] } } := I2.kept (t' := s2.toks) fun c ob q => Heap.get?_push_of_some _ q
  obtain ⟨us, rv, pl, hz⟩ := I4.list hx
  show wpAny (model X.prog X.w) X.A (subscriptTail e (.Slice (some lo) none none p2) (.ref a) (.ref s2.heap.objs.size)) (EP X pins σ Q) X.xe { s2 with heap := s2.heap.push { cls := .type "slice", data := .fields #[.bool b, .none, .none] } }
  refine tail_any (ops := [.ref s2.heap.objs.size, .ref a]) pl.isList.typeIs PySem.slot_list_getitem.lookup ?_ (by with_unfolding_all rfl)
  have hsz : us.toArray.size ≤ sizeLine := by rw [List.size_toArray, ← rv.length]; exact hz
  refine item_boolcut pl.isList (Heap.IsSliceOf.new _ _ _ _) hsz ?_
  rw [slicePick_cut, ← rv.length]
  have len : (cutV xs (some (b.toNat : Int)) none).length ≤ sizeLine := Nat.le_trans (cutV_length xs _ _) hz
  exact ⟨.ref _, _, I4.laid (t' := s2.toks) (o := .lst (cutV xs (some (b.toNat : Int)) none)) (fun c ob z => Heap.get?_push_of_some _ z) (Nat.le_refl _) ⟨len, _, 0, (rv.drop _).take _, Heap.get?_push_size _ rfl⟩, rfl, q _ (I4.hok.fresh (Nat.le_refl _))⟩
theorem ve_slB (he : VE gp X e fe) (hb : VE gp X lo fb) : VE gp X (.Subscript e (.Slice (some lo) none none p2) pos) (fSlB fe fb) := fun G W t => PE.imp (pe_slB (he G W t) (hb G W t)) fun σ H Qh hw => by
  obtain ⟨F, env, Q, ok, hf, q⟩ := hw
  refine ⟨F, env, _, ok, hf, fun r e1 v F1 H1 ok1 l1 rr hq => ?_⟩
  obtain ⟨⟨x, e2⟩, ex, hq⟩ := bindP_of hq
  obtain ⟨d, ed, hq⟩ := bindP_of hq
  obtain ⟨F2, ok2, l2, ax⟩ := rr.leak ok1 ex
  refine lift_tb' ok2 hq fun b e3 F3 H3 ok3 l3 q3 => ?_
  cases x with
  | g x => cases ed
  | s x => cases ed
  | d d' =>
    cases ed
    cases d with
    | list xs =>
      cases ax with
      | lst h1 h2 =>
        refine ⟨_, _, b, rfl, rfl, sqL_le (l3.trans ok3.sub) h1.sqL, fun p hp => ?_⟩
        obtain ⟨ok4, fr⟩ := ok3.newLst hp ((h2.le l3).cut (some (b.toNat : Int)) none)
        exact q (.val _) _ _ _ _ ok4 (l1.trans (l2.trans l3)) fr q3
    | _ => exact q3.elim
end
end VL

/-! VxA: the __init__ of an own exception that begins with super().__init__(..). -/
namespace VL
open PySem PySem.Spec PyProof.Rows L2 NdefX
section
variable {X : Cx} {pins : List (Addr × Obj)} {σ : L2.St} {H : Hp} {s : Shared} {A : Around} {E : Value → Shared → Prop}
/-- the bound ValueError.__init__ called -/
theorem mw_call {a C u : Addr} {us : List Value} {Q : Value → Shared → Prop} (T : OexC X.K C) (I : Inv X pins σ H s) (e : H a = some (exo a C none)) (hu : s.heap.get? u = some (PySem.W.kxs_mw "ValueError.__init__" a)) (hl : us.length ≤ sizeLine)
    (h : ∀ s', Inv X pins σ H s' → Q .none s') : wpAny (model X.prog X.w) A (call (.ref u) us) Q E s := by
  obtain ⟨nm, q, N, bs, bm, sn, sub, ab, col, dd, k0, k1, k2, k3, k5, hC, hbm⟩ := T.cls
  obtain ⟨t1, ho⟩ := exo_at I.hok e
  obtain ⟨hp, g, d, t, os⟩ := s
  have fin : ∀ (h' : Heap) (t2 : Addr), (∀ b o, b ≠ a → hp.get? b = some o → h'.get? b = some o) → h'.get? a = some ({ cls := .ref C, dict := none, data := .fields #[.ref t2, .none, .none, .none, .bool false, .none] } : Obj) → Q .none ⟨h', g, d, t, os⟩ := fun h' t2 k hx => by
    have J := I.write (t' := t) (x := a) (e := a) (o := exo a C none) (by rw [e]; exact True.intro) (.inl rfl) k ⟨_, hx⟩ (exo_ok hx)
    have eu : upd H a (exo a C none) = H := by
      funext b
      by_cases hb : b = a
      · rw [hb, upd_same, e]
      · rw [upd_ne hb]
    rw [eu] at J
    exact h _ J
  refine wpAny_call (codeAny_of_tree ?_)
  show wpAny _ A.in1 (callAny (.ref u) ⟨us, []⟩) _ _ _
  simp only [callAny]
  refine wpAny_bind (wpAny_load hu ?_)
  simp only [PySem.W.kxs_mw, show (Value.type "method-wrapper" == Value.type "method" || Value.type "method-wrapper" == Value.type "builtin_function_or_method" || Value.type "method-wrapper" == Value.type "method-wrapper") = true by decide, if_true]
  refine PySem.W.KFB.if_so (by decide) ?_
  refine wpAny_bind (PySem.W.check_bound_init F.excBase_ValueError.toExcCallFacts (I.kIn _ _ hC) ho rfl ?_)
  refine wpAny_bind (wpAny_pure (wpAny_pure ?_))
  refine ⟨plainId_quiet F.excBase_ValueError.init.plain _, codeAny_builtin F.excBase_ValueError.initEntry ?_⟩
  refine PySem.W.exc_init_tree (cls := .ref C) (t0 := t1) (dv := none) (c2 := .none) (c3 := .none) (b4 := .bool false) ho hl fun h' k e' t' => fin h' _ k e'
end
section
variable {P : Program} {w : World} {K : Fg} {mg : Mg} {base : Heap} {CX : CXT}
/-- what the written part tells of the class D and of its __init__ at fI -/
structure IniK (P : Program) (K : Fg) (mg : Mg) (D fI cc cda : Addr) (qual : Str) (params : Arguments) (body : List Stmt) (scope : Scope) (fd : FuncData) : Prop where
  fn : ∃ (oc dV kV doc pm ct : Value) (an od : Option Addr) (osl : Array (Option Value)), fd = PySem.W.ksFn "__init__" qual params body scope dV kV doc pm an (.ref cda) ct cc ∧ K.lookup fI = some ⟨oc, od, .func fd, osl⟩
  hcd : PySem.W.codeIn K (.ref cda) qual = true
  code : ∃ (ccl : Value) (cdd : Option Addr) (vs : Array Value) (ccs : Array (Option Value)) (file : Str) (tf : Tok), K.lookup cda = some ⟨ccl, cdd, .fields vs, ccs⟩ ∧ vs[2]? = some (.str file tf) ∧ ((P.main.file : Str) == file) = true
  cell : ∃ (cl : Value) (cld : Option Addr) (csl : Array (Option Value)), K.lookup cc = some ⟨cl, cld, .cell (some (.ref D)), csl⟩
  cls : ∃ cdD : ClassData, PySem.W.clsIn K D = some cdD
  sub : PySem.W.mroIn K D (.ref D) = some true
  ini : PySem.W.ks_superIn K D D "__init__" = some (some (.builtin "ValueError.__init__"))
  ve : PySem.W.subIn K (.ref D) (.type "ValueError") = some true
  opq : PySem.W.nsIn K cStatics "thirdparty.any" = some none
  sup : mg "super" = none
  top : (P.main.scope.names.lookup ("super" : Str)).isSome = false
theorem ini_run {N ps : List Str} {D fI cc cda : Addr} {qual : Str} {params : Arguments} {body rest : List Stmt} {scope : Scope} {fd : FuncData} {e : Expr} {es : List Expr} {p0 p1 p2 p3 p4 : Pos} {ta : TA} {t : TS} {ar : Arg}
    (B : IniK P K mg D fI cc cda qual params body scope fd) (hbody : body = .Expr (.Call (.Attribute (.Call (.Name "super" p0) [] [] p1) "__init__" p2) (e :: es) [] p3) p4 :: rest) (S : NScope N ps ["__class__"] scope)
    (har : (params.posonlyargs ++ params.args).head? = some ar) (h0 : ps[0]? = some ar.arg) (hss : scope.names.lookup ("super" : Str) = some .globalImplicit)
    (hargs : ∀ (A : Around) (outer : List PySem.Env) (s : Shared) (H : Hp) (E : XK), PA (ncx CX P w K mg base N ⟨"__init__", qual, params, body, scope, [("__class__", cc)], cda⟩ fI A outer s H E) (e :: es) ta)
    (hrest : ∀ (A : Around) (outer : List PySem.Env) (s : Shared) (H : Hp) (E : XK), PSs (ncx CX P w K mg base N ⟨"__init__", qual, params, body, scope, [("__class__", cc)], cda⟩ fI A outer s H E) rest t)
    (T : OexC K D) (he : ∀ env : PySem.Env, starEach (e :: es) env = (false, eval e env) :: starEach es env) (hpl : ∀ env : PySem.Env, (backTo p3 (starEach es env)).any (·.1) = false)
    (hev : ∀ env : PySem.Env, ∃ pl : Sem Bool, eval (.Call (.Attribute (.Call (.Name "super" p0) [] [] p1) "__init__" p2) (e :: es) [] p3) env = (do
      let ov ← attributeBase (.Call (.Name "super" p0) [] [] p1) "__init__" env (eval (.Call (.Name "super" p0) [] [] p1) env)
      standAt p2.atName
      let (f, first) ← holding [ov] (getMethod ov "__init__" pl)
      callWith p3 f first (backTo p3 (starEach (e :: es) env)) []))
    (hsw : ∀ env : PySem.Env, swapsWith (.Call (.Attribute (.Call (.Name "super" p0) [] [] p1) "__init__" p2) (e :: es) [] p3) none p4.line env = pure false) :
    FnOk P w K mg base CX 1 fI fd ps (fun vs H Q E => vs.length = ps.length ∧ ∃ a, vs[0]? = some (.ref a) ∧ H a = some (exo a D none) ∧
      ta (startF N vs [none]) H fun ws H1 => ws.length ≤ 1000 ∧ H1 a = some (exo a D none) ∧ t { nx := fun _ H' => Q .non H', rt := Q } (startF N vs [none]) H1) := by
  obtain ⟨oc, dV, kV, doc, pm, ct, an, od, osl, rfl, lk⟩ := B.fn
  obtain ⟨ccl, cdd, fvs, ccs, file, tf, lc, hfv, hfile⟩ := B.code
  obtain ⟨cl, cld, csl, lcell⟩ := B.cell
  obtain ⟨cdD, hD⟩ := B.cls
  refine ⟨fun vs H Q E h => h.1, fun A outer s H args us vs Q E hr e0 hb r hsp => ?_⟩
  obtain ⟨hlen, a, ha0, hea, hta⟩ := hsp
  have stays : ∀ b o, base.get? b = some o → s.heap.get? b = some o := fun b o e => (e0.bs b o e).1
  have KX : K.In s.heap := e0.mod.kin.keeps stays
  have C : CellsAt [(("__class__" : Str), cc)] ["__class__"] [none] s.heap H := by
    have hl : ∀ y c, ([(("__class__" : Str), cc)]).lookup y = some c → y = ("__class__" : Str) ∧ c = cc := fun y c e => by
      have := PySem.mem_of_lookup e
      simp only [List.mem_singleton] at this
      cases this
      exact ⟨rfl, rfl⟩
    refine ⟨rfl, fun y c e => ?_, fun x y c e1 e2 => by rw [(hl x c e1).1, (hl y c e2).1], fun i y e => ?_⟩
    · obtain ⟨_, rfl⟩ := hl y c e
      exact ⟨(e0.bs _ _ (e0.mod.kin _ _ lcell)).2, _, _, KX _ _ lcell, rfl⟩
    · cases i with
      | zero => cases e; exact ⟨cc, rfl, fun v ev => by cases ev⟩
      | succ i => simp at e
  refine PySem.ks_codeAny_call_defAt (fd := PySem.W.ksFn "__init__" qual params body scope dV kV doc pm an (.ref cda) ct cc) (binds := ps.zip us) hr.depth (KX _ _ lk) rfl (e0.mod.nolimit.keeps stays) (PySem.W.codeRec_of KX B.hcd) rfl hb S.nocell (fun y hy => S.par _ (List.of_mem_zip (show (y.1, y.2) ∈ ps.zip us from hy)).1) (fun h₁ hns kp => ?_) S.co S.gen S.kind
  have I := inv_startN (CX := CX) (E := E) (F := ⟨"__init__", qual, params, body, scope, [("__class__", cc)], cda⟩) (f := fI) (tk := s.toks + (ps.zip us).length) S hr.hd e0 hlen r C hns kp
  obtain ⟨t1, hx⟩ := exo_at I.hok hea
  have hself : (ps.zip us).reverse.lookup ar.arg = some (.ref a) := by
    obtain ⟨u, hu, ru⟩ := r.get ha0
    obtain rfl : u = Value.ref a := ru
    have ndP : ps.Nodup := by
      have q := S.nd.sublist (List.take_sublist (ps.length + 1) N)
      have p := S.pre
      rw [show (["__class__"] : List Str).length = 1 from rfl] at p
      rw [p] at q
      exact (List.nodup_append.mp q).1
    exact zip_look ndP h0 hu
  have oDD : ∃ oD, (h₁.get? D = some oD ∧ oD.data = .cls cdD) := by
    unfold PySem.W.clsIn at hD
    split at hD
    · rename_i c d cd' sl ho
      cases hD
      exact ⟨_, kp _ _ (KX _ _ ho), rfl⟩
    · cases hD
  obtain ⟨oD, hD1, hD2⟩ := oDD
  show PySem.wpAt _ _ _ (execs body _) _ _ _
  rw [show ∀ env : PySem.Env, execs body env = execs (.Expr (.Call (.Attribute (.Call (.Name "super" p0) [] [] p1) "__init__" p2) (e :: es) [] p3) p4 :: rest) env from fun env => by rw [hbody]]
  refine PySem.ks_wpAt_execs_cons (PySem.ks_wpAt_Expr_any (PySem.ks_wpAt_MethodCall ?_ (hev _).choose_spec) (hi := I.quiet) (hs := hsw _))
  refine PySem.ks_wpAt_super_base (f := fI) (cc := cda) hss (S.frk _ (by simp)) (by decide) rfl (kp _ _ (KX _ _ lk)) rfl har rfl (kp _ _ (KX _ _ lc)) rfl hfv hfile B.top ?_
  obtain ⟨mb, hb1, hb2⟩ := I.mod.blt
  refine PySem.W.ks_loadName_global S.kind hss (PySem.Calls.loadGlobal_builtin (I.mod.glob.keeps I.bk) B.sup (hb1.keeps I.bk) ((hb2 _ (by decide)).trans (by first | rfl | kernel_rfl | decide +kernel)) ⟨rfl, ?_⟩)
  refine PySem.wpAny_loadName_free S.kind (S.frk _ (by simp)) rfl ⟨_, kp _ _ (KX _ _ lcell), rfl⟩ ?_
  refine PySem.wpAny_loadName_local S.kind (S.par _ (List.mem_of_getElem? h0)) hns hself ?_
  refine PySem.ks_wpAny_isType_cls hD1 hD2 ⟨rfl, ?_⟩
  have KX1 : K.In h₁ := fun b o e => kp b o (KX b o e)
  refine PySem.ks_wpAny_call_super hD1 hD2 hx rfl (fun c z => by cases z) (PySem.W.looks_mroIn KX1 B.sub) (fun h2 hso k2 => ?_)
  have I2 := I.kept (t' := s.toks + (ps.zip us).length) (h' := h2) k2
  have KX2 : K.In h2 := fun b o e => k2 b o (KX1 b o e)
  have hini := B.ini
  unfold PySem.W.ks_superIn at hini
  rw [hD] at hini
  have hxD : a ≠ D := fun z => by
    rw [z, hD1] at hx
    cases hx
    cases hD2
  refine PySem.W.kxs_getMethod PySem.W.kxs_ValueError hso (PySem.W.looks_opaque KX2 B.opq) (l₀ := cdD.mro) (fun A Q E s k q => wpAny_bind ((PySem.W.looks_clsIn KX2 hD) A _ E s k (wpAny_pure q))) rfl KX2 hini ?_ hxD (by decide) ?_
  · exact (show PySem.W.InstAt h2 a _ D none from ⟨k2 _ _ hx, rfl, rfl, trivial⟩).type.andThen (PySem.W.looks_subIn KX2 B.ve)
  have I3 := I2.kept (t' := s.toks + (ps.zip us).length + 1) (h' := h2.push (PySem.W.kxs_mw "ValueError.__init__" a)) (fun b u e => Heap.get?_push_of_some _ e)
  have hu3 : (h2.push (PySem.W.kxs_mw "ValueError.__init__" a)).get? h2.objs.size = some (PySem.W.kxs_mw "ValueError.__init__" a) := Heap.get?_push_size _ rfl
  have nu : H h2.objs.size = none := I2.hok.fresh (Nat.le_refl _)
  have I4 : Inv (ncx CX P w K mg base N ⟨"__init__", qual, params, body, scope, [("__class__", cc)], cda⟩ fI A outer s H E) [(h2.objs.size, PySem.W.kxs_mw "ValueError.__init__" a)] (startF N vs [none]) H ⟨h2.push (PySem.W.kxs_mw "ValueError.__init__" a), s.gens, s.drawn, s.toks + (ps.zip us).length + 1, s.os⟩ := I3.pins_of fun p hp => by
    rw [List.mem_singleton] at hp
    subst hp
    exact ⟨hu3, nu, fun z => absurd I2.lt (by rw [← z]; exact Nat.lt_irrefl _), I2.nofs (Nat.le_refl _), fun v z => by cases z⟩
  refine PySem.wpAny_mono (Q := fun _ s' => ∃ H1, Inv (ncx CX P w K mg base N ⟨"__init__", qual, params, body, scope, [("__class__", cc)], cda⟩ fI A outer s H E) [] (startF N vs [none]) H1 s' ∧ t { nx := fun _ H' => Q .non H', rt := Q } (startF N vs [none]) H1) ?_ (fun v s' hq => ?_) fun _ _ z => z
  · rw [he]
    refine PySem.W.kxs_callWith (i := "ValueError.__init__") (x := a) (by exact hpl _) ?_
    refine PySem.Calls.evalArgs_plain ?_
    have hR := (hargs A outer s H E).run p3 _ _ _ H _ I4 hta
    rw [he] at hR
    refine thn hR fun ws s5 ⟨vws, H1, J, rv, hz, hea1, ht⟩ => ?_
    have hp := (J.pin (h2.objs.size, PySem.W.kxs_mw "ValueError.__init__" a) (by simp)).1
    refine ⟨hp, mw_call T (J.pins_of (pins' := []) fun p hp => by simp at hp) hea1 hp (by show ws.length ≤ sizeLine; rw [← Paired.length rv, sizeLine_eq]; omega) fun s' J' => ⟨H1, J', ht⟩⟩
  · obtain ⟨H1, J, ht⟩ := hq
    refine PySem.wpAt_of_wpAny ?_
    refine PySem.wpAny_mono ((hrest A outer s H E).run [] s' _ H1 _ J ht) (fun fl s'' hs => ?_) fun e s'' hs => hs
    have fin : ∀ {σ' : L2.St} {H' : Hp} {v : V} {u : Value}, Inv (ncx CX P w K mg base N ⟨"__init__", qual, params, body, scope, [("__class__", cc)], cda⟩ fI A outer s H E) [] σ' H' s'' → RelV v u → Q v H' → CE outer P w H s Q u s'' :=
      fun {σ' H' v u} J rv q => ⟨v, H', J.os, J.bare, J.base, J.hok, rv, q⟩
    cases fl with
    | ret u =>
      obtain ⟨v, σ', H', J, rv, q⟩ := hs
      exact fin J rv q
    | next =>
      obtain ⟨σ', H', J, q⟩ := hs
      exact fin (v := V.non) (u := Value.none) J rfl q
    | brk =>
      obtain ⟨_, _, _, q⟩ := hs
      exact False.elim q
    | cont =>
      obtain ⟨_, _, _, q⟩ := hs
      exact False.elim q
end
end VL

/-! VxB: own exceptions of one or two fields: their __init__, their raise, by value. -/
namespace VL
open PySem PySem.Spec PyProof.Rows L2 NdefX
def CXf : CXT := fun _ _ _ _ _ _ => False
section
variable {P : Program} {w : World} {K : Fg} {mg : Mg} {base : Heap}
/-- what __init__ does: the fields are set -/
def spIni (D : Addr) (fs : List Str) : Sp := fun vs H Q _ => ∃ a xs, vs = .ref a :: xs ∧ xs.length = fs.length ∧ H a = some (exo a D none) ∧
  ∀ d, H d = none → d ≠ a → ∀ H', (H' = upd (upd H d (exd d (fs.zip xs).reverse)) a (exo a D (some d))) → Q .non H'
theorem upd_upd {H : Hp} {a : Addr} {o u : HO} : upd (upd H a o) a u = upd H a u := by
  funext b
  by_cases h : b = a
  · rw [h, upd_same, upd_same]
  · rw [upd_ne h, upd_ne h, upd_ne h]
theorem upd_comm {H : Hp} {a b : Addr} {o u : HO} (h : a ≠ b) : upd (upd H a o) b u = upd (upd H b u) a o := by
  funext c
  by_cases h1 : c = b
  · subst h1
    rw [upd_same, upd_ne (Ne.symm h), upd_same]
  · rw [upd_ne h1]
    by_cases h2 : c = a
    · subst h2
      rw [upd_same, upd_same]
    · rw [upd_ne h2, upd_ne h2, upd_ne h1]
theorem ini1 {D fI cc cda : Addr} {qual f : Str} {params : Arguments} {body : List Stmt} {scope : Scope} {fd : FuncData} {p0 p1 p2 p3 p4 p5 q1 q2 q3 q4 : Pos} {ar : Arg}
    (B : IniK P K mg D fI cc cda qual params body scope fd) (hbody : body = [.Expr (.Call (.Attribute (.Call (.Name "super" p0) [] [] p1) "__init__" p2) [.Name f p5] [] p3) p4, .Assign [.Attribute (.Name "self" q1) f q2] (.Name f q3) q4])
    (S : NScope ["self", f, "__class__"] ["self", f] ["__class__"] scope) (har : (params.posonlyargs ++ params.args).head? = some ar) (hn : ar.arg = ("self" : Str)) (hss : scope.names.lookup ("super" : Str) = some .globalImplicit)
    (T : OexC K D) (nf : PySem.W.findIn K (.ref D) f = some none) (hd : (f == ("__debug__" : Str)) = false) (hc : (f == ("__classdict__" : Str)) = false)
    (hev : ∀ env : PySem.Env, ∃ pl : Sem Bool, eval (.Call (.Attribute (.Call (.Name "super" p0) [] [] p1) "__init__" p2) [.Name f p5] [] p3) env = (do
      let ov ← attributeBase (.Call (.Name "super" p0) [] [] p1) "__init__" env (eval (.Call (.Name "super" p0) [] [] p1) env)
      standAt p2.atName
      let (g, first) ← holding [ov] (getMethod ov "__init__" pl)
      callWith p3 g first (backTo p3 (starEach [.Name f p5] env)) [])) : FnOk P w K mg base CXf 1 fI fd ["self", f] (spIni D [f]) := by
  have vis : ∀ x, x = ("self" : Str) ∨ x = f → Vis scope x := fun x h => .inl (S.par x (by rcases h with rfl | rfl <;> simp))
  have st : ∀ (A : Around) (outer : List PySem.Env) (s : Shared) (H : Hp) (E : XK), PS (ncx CXf P w K mg base ["self", f, "__class__"] ⟨"__init__", qual, params, body, scope, [("__class__", cc)], cda⟩ fI A outer s H E) (.Assign [.Attribute (.Name "self" q1) f q2] (.Name f q3) q4) (tOst K f (tVar 0) (tVar 1)) :=
    fun A outer s H E => by
      have e0 : PE (ncx CXf P w K mg base ["self", f, "__class__"] ⟨"__init__", qual, params, body, scope, [("__class__", cc)], cda⟩ fI A outer s H E) (.Name "self" q1) (tVar 0) := pe_var rfl (vis _ (.inl rfl)) (by decide) (by decide)
      have e1 : PE (ncx CXf P w K mg base ["self", f, "__class__"] ⟨"__init__", qual, params, body, scope, [("__class__", cc)], cda⟩ fI A outer s H E) (.Name f q3) (tVar 1) := pe_var rfl (vis _ (.inr rfl)) hd hc
      exact ps_ost e0 e1
  refine (ini_run (N := ["self", f, "__class__"]) (ps := ["self", f]) (ar := ar) B hbody S har (by rw [hn]; rfl) hss
    (fun A outer s H E => pa_cons (pe_var (i := 1) rfl (vis _ (.inr rfl)) hd hc) pa_nil)
    (fun A outer s H E => pss_one (st A outer s H E))
    T (fun env => rfl) (fun env => rfl) hev (fun env => rfl)).imp fun vs H Q E h => ?_
  obtain ⟨a, xs, rfl, hl, ha, q⟩ := h
  cases xs with
  | nil => cases hl
  | cons x xs =>
    cases xs with
    | cons _ _ => cases hl
    | nil =>
      refine ⟨rfl, a, rfl, ha, ?_⟩
      refine ⟨x, rfl, ?_⟩
      refine ⟨by simp, ha, ?_⟩
      refine ⟨x, rfl, .ref a, rfl, a, D, rfl, T, nf, .inl ⟨ha, fun dx n ne => ?_⟩⟩
      exact q dx n ne _ rfl
theorem ini2 {D fI cc cda : Addr} {qual f g : Str} {params : Arguments} {body : List Stmt} {scope : Scope} {fd : FuncData} {p0 p1 p2 p3 p4 p5 p6 q1 q2 q3 q4 r1 r2 r3 r4 : Pos} {ar : Arg}
    (B : IniK P K mg D fI cc cda qual params body scope fd) (hbody : body = [.Expr (.Call (.Attribute (.Call (.Name "super" p0) [] [] p1) "__init__" p2) [.Name f p5, .Name g p6] [] p3) p4, .Assign [.Attribute (.Name "self" q1) f q2] (.Name f q3) q4, .Assign [.Attribute (.Name "self" r1) g r2] (.Name g r3) r4])
    (S : NScope ["self", f, g, "__class__"] ["self", f, g] ["__class__"] scope) (har : (params.posonlyargs ++ params.args).head? = some ar) (hn : ar.arg = ("self" : Str)) (hss : scope.names.lookup ("super" : Str) = some .globalImplicit)
    (T : OexC K D) (nf : PySem.W.findIn K (.ref D) f = some none) (ng : PySem.W.findIn K (.ref D) g = some none) (hd : (f == ("__debug__" : Str)) = false) (hc : (f == ("__classdict__" : Str)) = false) (hd2 : (g == ("__debug__" : Str)) = false) (hc2 : (g == ("__classdict__" : Str)) = false)
    (hev : ∀ env : PySem.Env, ∃ pl : Sem Bool, eval (.Call (.Attribute (.Call (.Name "super" p0) [] [] p1) "__init__" p2) [.Name f p5, .Name g p6] [] p3) env = (do
      let ov ← attributeBase (.Call (.Name "super" p0) [] [] p1) "__init__" env (eval (.Call (.Name "super" p0) [] [] p1) env)
      standAt p2.atName
      let (g', first) ← holding [ov] (getMethod ov "__init__" pl)
      callWith p3 g' first (backTo p3 (starEach [.Name f p5, .Name g p6] env)) [])) : FnOk P w K mg base CXf 1 fI fd ["self", f, g] (spIni D [f, g]) := by
  have vis : ∀ x, x = ("self" : Str) ∨ x = f ∨ x = g → Vis scope x := fun x h => .inl (S.par x (by rcases h with rfl | rfl | rfl <;> simp))
  have st : ∀ (A : Around) (outer : List PySem.Env) (s : Shared) (H : Hp) (E : XK), PS (ncx CXf P w K mg base ["self", f, g, "__class__"] ⟨"__init__", qual, params, body, scope, [("__class__", cc)], cda⟩ fI A outer s H E) (.Assign [.Attribute (.Name "self" q1) f q2] (.Name f q3) q4) (tOst K f (tVar 0) (tVar 1)) :=
    fun A outer s H E => by
      have e0 : PE (ncx CXf P w K mg base ["self", f, g, "__class__"] ⟨"__init__", qual, params, body, scope, [("__class__", cc)], cda⟩ fI A outer s H E) (.Name "self" q1) (tVar 0) := pe_var rfl (vis _ (.inl rfl)) (by decide) (by decide)
      have e1 : PE (ncx CXf P w K mg base ["self", f, g, "__class__"] ⟨"__init__", qual, params, body, scope, [("__class__", cc)], cda⟩ fI A outer s H E) (.Name f q3) (tVar 1) := pe_var rfl (vis _ (.inr (.inl rfl))) hd hc
      exact ps_ost e0 e1
  have st2 : ∀ (A : Around) (outer : List PySem.Env) (s : Shared) (H : Hp) (E : XK), PS (ncx CXf P w K mg base ["self", f, g, "__class__"] ⟨"__init__", qual, params, body, scope, [("__class__", cc)], cda⟩ fI A outer s H E) (.Assign [.Attribute (.Name "self" r1) g r2] (.Name g r3) r4) (tOst K g (tVar 0) (tVar 2)) :=
    fun A outer s H E => by
      have e0 : PE (ncx CXf P w K mg base ["self", f, g, "__class__"] ⟨"__init__", qual, params, body, scope, [("__class__", cc)], cda⟩ fI A outer s H E) (.Name "self" r1) (tVar 0) := pe_var rfl (vis _ (.inl rfl)) (by decide) (by decide)
      have e1 : PE (ncx CXf P w K mg base ["self", f, g, "__class__"] ⟨"__init__", qual, params, body, scope, [("__class__", cc)], cda⟩ fI A outer s H E) (.Name g r3) (tVar 2) := pe_var rfl (vis _ (.inr (.inr rfl))) hd2 hc2
      exact ps_ost e0 e1
  refine (ini_run (N := ["self", f, g, "__class__"]) (ps := ["self", f, g]) (ar := ar) B hbody S har (by rw [hn]; rfl) hss
    (fun A outer s H E => pa_cons (pe_var (i := 1) rfl (vis _ (.inr (.inl rfl))) hd hc) (pa_cons (pe_var (i := 2) rfl (vis _ (.inr (.inr rfl))) hd2 hc2) pa_nil))
    (fun A outer s H E => pss_cons (st A outer s H E) (pss_one (st2 A outer s H E)))
    T (fun env => rfl) (fun env => rfl) hev (fun env => rfl)).imp fun vs H Q E h => ?_
  obtain ⟨a, xs, rfl, hl, ha, q⟩ := h
  match xs, hl with
  | [x, y], _ =>
    refine ⟨rfl, a, rfl, ha, ?_⟩
    refine ⟨x, rfl, y, rfl, ?_⟩
    refine ⟨by simp, ha, ?_⟩
    refine ⟨x, rfl, .ref a, rfl, a, D, rfl, T, nf, .inl ⟨ha, fun dx n ne => ?_⟩⟩
    refine ⟨y, rfl, .ref a, rfl, a, D, rfl, T, ng, .inr ⟨dx, [(f, x)], upd_same, by rw [upd_ne ne, upd_same], by simp, ?_⟩⟩
    refine q dx n ne _ ?_
    rw [upd_comm (a := a) (b := dx) (Ne.symm ne), upd_upd]
    rfl
end
/-! ### the raise -/
/-- fields by value, as the machine's dict has them -/
def exFs (ns : List Str) (ds : List D) : List (Str × D) := (ns.zip ds).reverse
def sRaise (x : Str) (ns : List Str) (fa : FA) : FS := fun env _ W => fa env (fun as e1 => bindP (dOfs as) fun ds => ds.length = ns.length ∧ W ⟨x, exFs ns ds⟩ e1) W
theorem DtAll.zipRev {K : Fg} {F : Hp} : ∀ {ns : List Str} {vs : List V} {ds : List D}, DtAll K F vs ds → vs.length = ns.length → ((ns.zip vs).reverse.map (·.1) = (exFs ns ds).map (·.1)) ∧ DtAll K F ((ns.zip vs).reverse.map (·.2)) ((exFs ns ds).map (·.2)) := fun {ns vs ds} h hl => by
  unfold exFs
  rw [List.map_reverse, List.map_reverse, List.map_reverse, List.map_reverse]
  have hl2 : ds.length = ns.length := by rw [← h.length]; exact hl
  rw [List.map_fst_zip (by omega), List.map_fst_zip (by omega), List.map_snd_zip (by omega), List.map_snd_zip (by omega)]
  exact ⟨rfl, h.reverse⟩
section
variable {X : Cx} {D fI : Addr} {x : Str} {ns ps : List Str} {fd : FuncData} {e : Expr} {es : List Expr} {fa : FA} {p pos pos2 : Pos}
theorem vs_raise (hc : X.calm = true) (T : OexC X.K D) (iC : PySem.W.findIn X.K (.ref D) "__init__" = some (some (.ref fI))) (tI : PySem.W.typeIn X.K (.ref fI) = some (.type "function")) (F1 : FnOk X.prog X.w X.K X.mg X.base CXf 1 fI fd ps (spIni D ns)) (hr : Room 2 X.A) (hb : Binds X.K fd ps [])
    (hg : Gl X x) (hm : X.mg x = some (.ref D)) (ha : VA gp X (e :: es) fa) (hl : ns.length ≤ 1000)
    (hdb : (x == ("__debug__" : Str)) = false := by decide) (he : starEach (e :: es) X.env = (false, eval e X.env) :: starEach es X.env := by rfl) (hpl : (backTo pos (starEach es X.env)).any (·.1) = false := by rfl) :
    VS gp X (.Raise (some (.Call (.Name x p) (e :: es) [] pos)) none pos2) (sRaise x ns fa) := fun G W gk tk => PS.imp (ps_raise hc tk.2 (pmk_oex T iC tI F1 hr hb .nil (fun _ _ _ _ _ _ _ z => z.elim) hg hm (ha G W tk) hdb he hpl)) fun Dn σ H hw => by
  obtain ⟨F, env, E, ok, hf, _⟩ := hw
  refine ⟨F, env, _, ok, hf, fun as e1 vs F1 H1 ok1 l1 aa q => ?_⟩
  obtain ⟨ds, ed, hlen, q⟩ := bindP_of q
  have dt := aa.data ed
  have hvl : vs.length = ns.length := by rw [dt.length, hlen]
  refine ⟨by omega, fun a na => ⟨a, vs, by rw [List.append_nil], hvl, upd_same, fun d nd ne H' eH => ?_⟩⟩
  refine ⟨rfl, d, (ns.zip vs).reverse, by rw [eH, upd_same], by rw [eH, upd_ne ne, upd_same], by rw [upd_ne ne] at nd; exact nd, ?_⟩
  have nd1 : H1 d = none := by rw [upd_ne ne] at nd; exact nd
  have eq : upd (L2.del H' a) d (.xd (ns.zip vs).reverse) = upd H1 d (.xd (ns.zip vs).reverse) := by
    funext b
    by_cases hb : b = d
    · rw [hb, upd_same, upd_same]
    · rw [upd_ne hb, upd_ne hb]
      by_cases hb2 : b = a
      · rw [hb2, L2.del_same, na]
      · rw [L2.del_ne hb2, eH, upd_ne hb2, upd_ne hb, upd_ne hb2]
  rw [eq]
  obtain ⟨z1, z2⟩ := dt.zipRev hvl
  exact ⟨_, F1, e1, ok1.newH nd1, ⟨D, rfl, hm, .inr ⟨d, _, rfl, upd_same, z1, z2⟩⟩, q⟩
end
end VL

/-! VxC: try .. except, by value. -/
namespace VL
open PySem PySem.Spec PyProof.Rows L2
/-- the ghost within a handler: the exception's dict is told -/
def Gh.exc (G : Gh) (F H : Hp) (d : Option Addr) : Gh := { G with F0 := F, H0 := fun b => if d = some b then H b else G.H0 b }
/-- what is known of the caught exception -/
def gpX (gp : Gp) (K : Fg) (mg : Mg) (ex : Ex) (cls : Value) (d : Option Addr) : Gp := fun G => gp G ∧ ExOk K mg G.F0 G.H0 ex cls d ∧ ∀ dx, d = some dx → ¬ G.own0 dx
/-- gp does not hang on the moment -/
def StbX (gp : Gp) : Prop := ∀ (K : Fg) (mg : Mg) (G : Gh) (F H : Hp) (σ : L2.St) (env : Env) (d : Option Addr), EnvOk K mg G F H σ env → (∀ dx, d = some dx → ¬ G.own0 dx ∧ ∃ fs, H dx = some (.xd fs)) → gp G → gp (G.exc F H d)
theorem stbXT {T : List NdefX.NTab} : StbX (gpT T) := fun _ _ _ _ _ _ _ _ _ _ h => h
section
variable {K : Fg} {mg : Mg} {G : Gh} {F F' H H' : Hp} {σ σ' : L2.St} {env env' : Env} {ex : Ex} {cls : Value} {d : Option Addr}
theorem exc_own (ok : EnvOk K mg G F H σ env) (gk : GOk G) (hb : (borOf env.sl env.bor).isSome = true) (eo : ExOk K mg F H ex cls d) : ∀ dx, d = some dx → ¬ G.own0 dx ∧ ∃ fs, H dx = some (.xd fs) := fun dx ed => by
  obtain ⟨C, _, _, h⟩ := eo
  rcases h with ⟨h, _⟩ | ⟨dx', fs, h, h2, _⟩
  · rw [ed] at h; cases h
  · rw [ed] at h
    cases h
    refine ⟨fun z => ?_, fs, h2⟩
    obtain ⟨p, hp, ep⟩ := gk dx z
    obtain ⟨ms, em⟩ := Option.isSome_iff_exists.mp hb
    obtain ⟨_, hat⟩ := borOf_at em
    have hm : p.1 ∈ env.bor := by rw [ok.bor]; exact List.mem_map.mpr ⟨p, hp, rfl⟩
    obtain ⟨k, hk⟩ := List.mem_iff_getElem?.mp hm
    obtain ⟨m, _, e1, e2⟩ := hat k p.1 hk
    have o : OwnAt σ env.sl p.1 p.2 := ⟨m, e1, e2, ok.borA p hp⟩
    obtain ⟨_, u, hu, ou⟩ := o.some ok
    rw [ep, h2] at hu
    cases hu
    exact ou
theorem EnvOk.toExc (ok : EnvOk K mg G F H σ env) (hd : ∀ dx, d = some dx → ¬ G.own0 dx ∧ ∃ fs, H dx = some (.xd fs)) : EnvOk K mg (G.exc F H d) F H σ env := by
  have at0 : ∀ a, (G.exc F H d).H0 a = if d = some a then H a else G.H0 a := fun _ => rfl
  refine ⟨ok.sub, ok.slot, ok.apart, Le.refl _, fun a o e n nt => ?_, fun a e => ?_, fun a o e => .inl e, fun i a z => ?_, ok.bor, ok.borA, ok.sep, fun p hp => ?_, ok.len, ok.tabs, ok.nt⟩
  · rw [at0] at e
    split at e
    · exact e
    · exact ok.frame a o e n nt
  · rw [at0]
    split
    · exact e
    · exact ok.dom a e
  · rcases ok.newO i a z with h | h
    · exact .inl h
    · refine .inr ?_
      rw [at0]
      split
      · rename_i ed
        obtain ⟨_, fs, hf⟩ := hd a ed
        obtain ⟨_, u, hu, ou⟩ := z.some ok
        rw [hf] at hu
        cases hu
        exact ou.elim
      · exact h
  · rw [at0]
    split
    · rename_i ed
      obtain ⟨_, fs, hf⟩ := hd _ ed
      rw [hf]
      exact fun z => by cases z
    · exact ok.borH p hp
theorem EnvOk.ofExc (ok : EnvOk K mg G F H σ env) (hd : ∀ dx, d = some dx → ¬ G.own0 dx ∧ ∃ fs, H dx = some (.xd fs)) (ok' : EnvOk K mg (G.exc F H d) F' H' σ' env') : EnvOk K mg G F' H' σ' env' := by
  have at0 : ∀ a, (G.exc F H d).H0 a = if d = some a then H a else G.H0 a := fun _ => rfl
  have low : ∀ a, (G.exc F H d).H0 a = none → G.H0 a = none := fun a e => by
    rw [at0] at e
    split at e
    · exact ok.dom a e
    · exact e
  refine ⟨ok'.sub, ok'.slot, ok'.apart, ok.frz.trans ok'.frz, fun a o e n nt => ?_, fun a e => low a (ok'.dom a e), fun a o e => ?_, fun i a z => ?_, ok'.bor, ok'.borA, ok'.sep, ok.borH, ok'.len, ok'.tabs, ok'.nt⟩
  · refine ok'.frame a o ?_ n nt
    rw [at0]
    split
    · exact ok.frame a o e n nt
    · exact e
  · rcases ok'.newF a o e with z | z | z
    · exact ok.newF a o z
    · exact .inr (.inl (low a z))
    · exact .inr (.inr z)
  · rcases ok'.newO i a z with h | h
    · exact .inl h
    · exact .inr (low a h)
theorem EnvOk.dom0 (ok : EnvOk K mg G F H σ env) {a : Addr} (e : (G.exc F H d).H0 a = none) : G.H0 a = none := by
  have e : (if d = some a then H a else G.H0 a) = none := e
  split at e
  · exact ok.dom a e
  · exact e
theorem Free.ghost {G' : Gh} {m : M} {v : V} (f : Free K mg G' F H σ env m v) (h : ∀ a, G'.H0 a = none → G.H0 a = none) : Free K mg G F H σ env m v := ⟨f.rm, fun o a e => ⟨h a (f.new o a e).1, (f.new o a e).2⟩⟩
/-- slot i, not borrowed, is given something of which only its place is known -/
theorem EnvOk.setAdr (ok : EnvOk K mg G F H σ env) {i : Nat} {a : Addr} (hi : i < env.sl.length) (hb : i ∉ env.bor) : EnvOk K mg G F H (σ.set i (some (.ref a))) { env with sl := env.sl.set i (some (.adr a)) } :=
  ok.store hi hb ⟨rfl, fun z => by cases z⟩
/-- slot i, not borrowed, is emptied -/
theorem EnvOk.unset (ok : EnvOk K mg G F H σ env) {i : Nat} (hb : i ∉ env.bor) : EnvOk K mg G F H (σ.set i none) { env with sl := env.sl.set i none } := by
  have back : ∀ {k b}, OwnAt (σ.set i none) (env.sl.set i none) k b → OwnAt σ env.sl k b ∧ k ≠ i := fun {k b} z => by
    have hk : k ≠ i := fun e => by
      subst e
      obtain ⟨m, e1, _, _⟩ := z
      by_cases hl : k < env.sl.length
      · rw [List.getElem?_set_self hl] at e1; cases e1
      · rw [List.getElem?_eq_none (by rw [List.length_set]; omega)] at e1; cases e1
    exact ⟨(OwnAt.set_other hk).mp z, hk⟩
  refine ⟨ok.sub, fun k m e => ?_, fun k l b z1 z2 => ok.apart k l b (back z1).1 (back z2).1, ok.frz, ok.frame, ok.dom, ok.newF, fun k b z => ok.newO k b (back z).1, ok.bor, fun p hp => ?_, fun p hp k z => ok.sep p hp k (back z).1, ok.borH, by rw [List.length_set, List.length_set]; exact ok.len, ok.tabs, ok.nt⟩
  · have e : (env.sl.set i none)[k]? = some (some m) := e
    by_cases hk : k = i
    · subst hk
      by_cases hl : k < env.sl.length
      · rw [List.getElem?_set_self hl] at e; cases e
      · rw [List.getElem?_eq_none (by rw [List.length_set]; omega)] at e; cases e
    · rw [List.getElem?_set_ne (Ne.symm hk)] at e
      obtain ⟨v, h1, h2⟩ := ok.slot k m e
      exact ⟨v, by rw [List.getElem?_set_ne (Ne.symm hk)]; exact h1, h2⟩
  · have hne : p.1 ≠ i := fun e => hb (by rw [ok.bor]; exact List.mem_map.mpr ⟨p, hp, e⟩)
    rw [List.getElem?_set_ne (Ne.symm hne)]
    exact ok.borA p hp
end
/-- a handler's reading: of the caught thing's place and of what it is -/
abbrev FHd := Addr → Ex → FS
def VHd (gp : Gp) (X : Cx) (suite : List Stmt) (g : FHd) : Prop := ∀ (a : Addr) (oe : Obj) (cls : Value) (d : Option Addr) (pn : List (Addr × Obj)) (ex : Ex), Zc cls d oe → (∃ vs, oe.data = .fields vs) → VSs (gpX gp X.K X.mg ex cls d) (X.suite a ((a, oe) :: pn)) suite (g a ex)
/-- try: body except c as slot i: handler; sub: is an exception of the first class one of the second -/
def hdAs (i : Nat) (h : FHd) (ex : Ex) (e1 : Env) (E : EndV) : Prop := i < e1.sl.length ∧ i ∉ e1.bor ∧ (borOf e1.sl e1.bor).isSome = true ∧ ∀ a, h a ex { e1 with sl := e1.sl.set i (some (.adr a)) }
  { nx := fun e => i ∉ e.bor ∧ E.nx { e with sl := e.sl.set i none }, rt := fun m e => E.rt m e, bk := fun e => i ∉ e.bor ∧ E.bk { e with sl := e.sl.set i none }, ct := fun e => i ∉ e.bor ∧ E.ct { e with sl := e.sl.set i none } } W0
def sTryAs (sub : Str → Option Bool) (i : Nat) (g : FS) (h : FHd) : FS := fun env E W => g env E fun ex e1 => bindP (sub ex.cls) fun b => if b = true then hdAs i h ex e1 E else W ex e1
/-- .. without a name -/
def hdOn (h : FHd) (ex : Ex) (e1 : Env) (E : EndV) : Prop := (borOf e1.sl e1.bor).isSome = true ∧ ∀ a, h a ex e1 E W0
def sTryOn (sub : Str → Option Bool) (g : FS) (h : FHd) : FS := fun env E W => g env E fun ex e1 => bindP (sub ex.cls) fun b => if b = true then hdOn h ex e1 E else W ex e1
/-- what the written part says to sub -/
def SubOk (K : Fg) (mg : Mg) (c : Value) (sub : Str → Option Bool) : Prop := ∀ (x : Str) (b : Bool) (C : Addr), sub x = some b → mg x = some (.ref C) → PySem.W.exmOne K (.ref C) c = some b
section
variable {X : Cx} {gp : Gp} {x n : Str} {c : Value} {i : Nat} {body suite : List Stmt} {b₀ : Stmt} {np pos pos' : Pos} {sub : Str → Option Bool} {g : FS} {h : FHd}
theorem suite_takes {a : Addr} {pn : List (Addr × Obj)} {G : Gh} : Takes (X.suite a pn) (liftW X.K X.mg G W0) := takes_blk rfl
theorem vs_tryAs (hs : X.stack = X.env :: X.outer) (hf : X.env.frame = some X.env.locals) (hN : X.N.Nodup) (hi : X.N[i]? = some n) (hln : X.env.kindOf n = some .local) (hc : Names X x c) (so : SubOk X.K X.mg c sub)
    (hb : ∀ (pn : List (Addr × Obj)) (xe : Value → Shared → Prop), PassesOwn (model X.prog X.w) X.A X.env xe → VSs gp (X.tr pn xe) body g) (hh : VHd gp X (b₀ :: suite) h) (stb : StbX gp := by exact stbXT) :
    VS gp X (.Try body [.ExceptHandler (some (.Name x np)) (some n) (b₀ :: suite) pos'] [] [] pos) (sTryAs sub i g h) := fun G W gk t => by
  have body' : ∀ (W' : WX) (pn : List (Addr × Obj)) (xe : Value → Shared → Prop), Takes (X.tr pn xe) W' → PassesOwn (model X.prog X.w) X.A X.env xe →
      PSs (X.tr pn xe) body (fun D σ H => ∃ (W1 : KX) (G1 : Gh), gp G1 ∧ GOk G1 ∧ (∀ c d σ' H', liftW X.K X.mg G1 W1 c d σ' H' → W' c d σ' H') ∧ liftS X.K X.mg G1 W1 g D σ H) := fun W' pn xe tk po =>
    ⟨fun pins s σ H D I ⟨W1, G1, g1, gk1, im, q⟩ => (hb pn xe po G1 W1 gk1 ⟨g1, tk.imp im⟩).run pins s σ H D I q⟩
  have suite' : ∀ (a : Addr) (oe : Obj) (cls : Value) (d : Option Addr) (pn : List (Addr × Obj)), Zc cls d oe → (∃ vs, oe.data = .fields vs) →
      PSs (X.suite a ((a, oe) :: pn)) (b₀ :: suite) (fun D σ H => ∃ (ex : Ex) (G' : Gh), GOk G' ∧ gpX gp X.K X.mg ex cls d G' ∧ liftS X.K X.mg G' W0 (h a ex) D σ H) := fun a oe cls d pn hz hf' =>
    ⟨fun pins s σ H D I ⟨ex, G', gk', gx, q⟩ => (hh a oe cls d pn ex hz hf' G' W0 gk' ⟨gx, suite_takes⟩).run pins s σ H D I q⟩
  refine PS.imp (ps_try_as hs hf hN hi hln hc t.2 body' suite') fun D σ H hw => ?_
  obtain ⟨F, env, E, ok, hg, k1, k2, k3, k4⟩ := hw
  have hn : ∀ dx, (none : Option Addr) = some dx → ¬ G.own0 dx ∧ ∃ fs, H dx = some (.xd fs) := fun dx e => by cases e
  refine ⟨_, G.exc F H none, stb _ _ _ _ _ _ _ _ ok hn t.1, gk, fun cls d σ' H' hw => ?_, F, env, E, ok.toExc hn, hg, fun σ' F' H' e' o l => k1 σ' F' H' e' (ok.ofExc hn o) l, fun σ' F' H' e' o l => k2 σ' F' H' e' (ok.ofExc hn o) l, fun σ' F' H' e' o l => k3 σ' F' H' e' (ok.ofExc hn o) l,
    fun σ' F' H' e' m v o l f => k4 σ' F' H' e' m v (ok.ofExc hn o) l (f.ghost fun a e => ok.dom0 e)⟩
  obtain ⟨ex, F1, e1, ok1, eo, hw⟩ := hw
  obtain ⟨b, eb, hw⟩ := bindP_of hw
  obtain ⟨C, eC, mC, _⟩ := id eo
  subst eC
  have lF : Le F F1 := ok1.frz
  refine ⟨b, so _ _ _ eb mC, fun hb1 a na => ?_, fun hb0 => ?_⟩
  · rw [if_pos hb1] at hw
    obtain ⟨h1, h2, h3, hw⟩ := hw
    have hd := exc_own ok1 gk h3 eo
    have okX := ok1.toExc hd
    have eo' : ExOk X.K X.mg ((G.exc F H none).exc F1 H' d).F0 ((G.exc F H none).exc F1 H' d).H0 ex (.ref C) d := by
      obtain ⟨C', e1, e2, e3⟩ := eo
      refine ⟨C', e1, e2, e3.imp id fun ⟨dx, fs, a1, a2, a3, a4⟩ => ⟨dx, fs, a1, ?_, a3, a4⟩⟩
      show (if d = some dx then H' dx else (G.exc F H none).H0 dx) = _
      rw [if_pos a1]; exact a2
    have back : ∀ {σ2 F2 H2 e2}, EnvOk X.K X.mg ((G.exc F H none).exc F1 H' d) F2 H2 σ2 e2 → EnvOk X.K X.mg G F2 H2 σ2 e2 := fun o => ok.ofExc hn (ok1.ofExc hd o)
    refine ⟨ex, (G.exc F H none).exc F1 H' d, gk, ⟨stb _ _ _ _ _ _ _ _ ok1 hd (stb _ _ _ _ _ _ _ _ ok hn t.1), eo', fun dx ed => (hd dx ed).1⟩, F1, _, _, okX.setAdr (a := a) h1 h2, hw a, ?_, ?_, ?_, ?_⟩
    · exact fun σ2 F2 H2 e2 ok2 l2 q => k1 _ _ _ _ ((back ok2).unset q.1) (lF.trans l2) q.2
    · exact fun σ2 F2 H2 e2 ok2 l2 q => k2 _ _ _ _ ((back ok2).unset q.1) (lF.trans l2) q.2
    · exact fun σ2 F2 H2 e2 ok2 l2 q => k3 _ _ _ _ ((back ok2).unset q.1) (lF.trans l2) q.2
    · exact fun σ2 F2 H2 e2 m v ok2 l2 f q => k4 _ _ _ _ m v (back ok2) (lF.trans l2) (f.ghost fun a e => ok.dom0 (ok1.dom0 e)) q
  · rw [hb0, if_neg Bool.false_ne_true] at hw
    exact ⟨ex, F1, e1, ok.ofExc hn ok1, eo, hw⟩
end
end VL

/-! VxD: what a handler asks of the caught exception. -/
namespace VL
open PySem PySem.Spec PyProof.Rows L2
theorem DtAll.look {K : Fg} {F : Hp} {f : Str} {d : D} : ∀ {fs : List (Str × V)} {es : List (Str × D)}, fs.map (·.1) = es.map (·.1) → DtAll K F (fs.map (·.2)) (es.map (·.2)) → es.lookup f = some d → ∃ v, fs.lookup f = some v ∧ Dt K F v d
  | [], [], _, _, h => by simp at h
  | [], _ :: _, h, _, _ => by simp at h
  | _ :: _, [], h, _, _ => by simp at h
  | (n, v) :: fs, (m, e) :: es, hn, hd, h => by
    rw [List.map_cons, List.map_cons] at hn hd
    obtain ⟨h1, h2⟩ := List.cons.inj hn
    have h1 : n = m := h1
    subst h1
    cases hd with
    | cons a r =>
      rw [List.lookup_cons] at h ⊢
      cases q : f == n with
      | true => rw [q] at h; cases h; exact ⟨v, rfl, a⟩
      | false => rw [q] at h; exact DtAll.look h2 r h
/-- e.f, e the caught exception in slot i -/
def fFld (fld : Str → Bool) (i : Nat) (a : Addr) (ex : Ex) (f : Str) : FE := fun env Q _ => fld ex.cls = true ∧ env.sl[i]? = some (some (.adr a)) ∧ bindP (ex.fs.lookup f) fun d => Q (.val (.fz d)) env
def FldOk (K : Fg) (mg : Mg) (f : Str) (fld : Str → Bool) : Prop := ∀ (x : Str) (C : Addr), fld x = true → mg x = some (.ref C) → XfC K C ∧ PySem.W.findIn K (.ref C) f = some none
/-- isinstance(e, c) -/
def fIsX (sub : Str → Option Bool) (i : Nat) (a : Addr) (ex : Ex) : FE := fun env Q _ => env.sl[i]? = some (some (.adr a)) ∧ bindP (sub ex.cls) fun b => Q (.val (.fz (.bool b))) env
def IsXOk (K : Fg) (mg : Mg) (c : Value) (sub : Str → Option Bool) : Prop := ∀ (x : Str) (b : Bool) (C : Addr), sub x = some b → mg x = some (.ref C) → ExcC K C ∧ PySem.W.kitOne K (.ref C) c = some b
section
variable {X : Cx} {gp : Gp} {a : Addr} {oe : Obj} {cls : Value} {d : Option Addr} {pn : List (Addr × Obj)} {ex : Ex} {i : Nat} {n f : Str} {pos p p2 p3 : Pos}
/-- the exception's dict where the handler stands -/
theorem exc_here {K : Fg} {mg : Mg} {G : Gh} {F H : Hp} {σ : L2.St} {env : Env} (ok : EnvOk K mg G F H σ env) (g : gpX gp K mg ex cls d G) : ∃ C, cls = .ref C ∧ mg ex.cls = some (.ref C) ∧ ((d = none ∧ ex.fs = []) ∨ ∃ dx fs, d = some dx ∧ H dx = some (.xd fs) ∧ fs.map (·.1) = ex.fs.map (·.1) ∧ DtAll K F (fs.map (·.2)) (ex.fs.map (·.2))) := by
  obtain ⟨_, ⟨C, e1, e2, e3⟩, no⟩ := g
  refine ⟨C, e1, e2, e3.imp id fun ⟨dx, fs, a1, a2, a3, a4⟩ => ⟨dx, fs, a1, ok.frame dx _ a2 (no dx a1) (fun ps z => by cases z), a3, a4.le ok.frz⟩⟩
theorem ve_fld {fld : Str → Bool} (fo : FldOk X.K X.mg f fld) (hz : Zc cls d oe) (hf : ∃ vs, oe.data = .fields vs) (hN : X.N[i]? = some n) (hv : Vis X.env.scope n) (hd : (n == ("__debug__" : Str)) = false := by decide) (hcd : (n == ("__classdict__" : Str)) = false := by decide)
    (hb : attributeBase (.Name n p) f X.env (eval (.Name n p) X.env) = eval (.Name n p) X.env := by rfl) : VE (gpX gp X.K X.mg ex cls d) (X.suite a ((a, oe) :: pn)) (.Attribute (.Name n p) f pos) (fFld fld i a ex f) := fun G W t => by
  refine ⟨fun pins s σ H Qh I hw => ?_⟩
  obtain ⟨F, env, Q, ok, ⟨hl, hs, hw⟩, q⟩ := hw
  obtain ⟨dv, el, hw⟩ := bindP_of hw
  obtain ⟨C, e1, e2, e3⟩ := exc_here ok t.1
  obtain ⟨T, hno⟩ := fo _ C hl e2
  obtain ⟨v, hσ, rm⟩ := ok.slot i _ hs
  have rm : v = .ref a := rm
  subst rm
  refine (pe_xf T hno hz hf (pe_var (X := X.suite a ((a, oe) :: pn)) (pos := p) (i := i) hN hv hd hcd) hb).run pins s σ H Qh I ⟨.ref a, hσ, rfl, e1, ?_⟩
  rcases e3 with ⟨_, e4⟩ | ⟨dx, fs, a1, a2, a3, a4⟩
  · rw [e4] at el; cases el
  · obtain ⟨v, l1, l2⟩ := DtAll.look a3 a4 el
    exact ⟨dx, fs, v, a1, a2, l1, q (.val (.fz dv)) env v F H ok (Le.refl _) (Free.fz l2) hw⟩
/-- isinstance asked of the exception that the suite holds -/
theorem call_isD {C : Addr} {cv : Value} {b : Bool} (E : ExcC X.K C) (e : PySem.W.kitOne X.K (.ref C) cv = some b) (hz : Zc (.ref C) d oe) (hf : ∃ vs, oe.data = .fields vs) : CallR (X.suite a ((a, oe) :: pn)) (.builtin "isinstance")
    (fun xs H Q => ∃ c : V, xs = [.ref a, c] ∧ (∀ u, RelV c u → u = cv) ∧ (d = none ∨ ∃ dx fs, d = some dx ∧ H dx = some (.xd fs)) ∧ Q (.bl b) H) := by
  intro pins s σ H xs us Q I r h
  obtain ⟨c, rfl, hcv, hd, q⟩ := h
  cases r with
  | cons rx rr =>
    cases rr with
    | cons rt rr =>
      cases rr
      cases rx
      have ec := hcv _ rt
      subst ec
      obtain ⟨hget, _⟩ := I.pin (a, oe) (List.mem_append.mpr (.inl List.mem_cons_self))
      obtain ⟨vs, hv⟩ := hf
      have key : ∃ od, PySem.W.InstAt s.heap a oe C od := by
        rcases hd with e0 | ⟨dx, fs, e0, hx⟩
        · refine ⟨none, hget, hz.1, by unfold PySem.W.notCls; rw [hv] <;> rfl, ?_⟩
          rw [hz.2, e0]
          trivial
        · have ho : ObjOk X.prog X.w H s.heap dx (.xd fs) := I.hok dx _ hx
          obtain ⟨mA, hns, _⟩ := ho
          obtain ⟨od, ho, _⟩ := lookIn_ns hns
          exact ⟨some od, hget, hz.1, by unfold PySem.W.notCls; rw [hv] <;> rfl, by rw [hz.2, e0]; exact ho⟩
      obtain ⟨od, J⟩ := key
      obtain ⟨cd, hcd, _⟩ := PySem.W.any_some E.hd
      exact PySem.W.kia_one (PySem.W.kitx_exc (by rw [hcd]; rfl) E.hg E.hk E.hs E.ha E.hn E.ht E.hm) I.kIn J e (fun z => nomatch z) fun tk => ⟨.bl b, H, I.kept (t' := tk) fun _ _ z => z, rfl, q⟩
theorem ve_isX {sub : Str → Option Bool} {c : Str} {Cc : Addr} (io : IsXOk X.K X.mg (.ref Cc) sub) (hz : Zc cls d oe) (hf : ∃ vs, oe.data = .fields vs) (hN : X.N[i]? = some n) (hv : Vis X.env.scope n) (hg : Gl X "isinstance") (hm : X.mg "isinstance" = none) (hgc : Gl X c) (hmc : X.mg c = some (.ref Cc))
    (hd : (n == ("__debug__" : Str)) = false := by decide) (hcd : (n == ("__classdict__" : Str)) = false := by decide) (hdc : (c == ("__debug__" : Str)) = false := by decide) : VE (gpX gp X.K X.mg ex cls d) (X.suite a ((a, oe) :: pn)) (.Call (.Name "isinstance" p) [.Name n p2, .Name c p3] [] pos) (fIsX sub i a ex) := fun G W t => by
  refine ⟨fun pins s σ H Qh I hw => ?_⟩
  obtain ⟨F, env, Q, ok, ⟨hs, hw⟩, q⟩ := hw
  obtain ⟨b, eb, hw⟩ := bindP_of hw
  obtain ⟨C, e1, e2, e3⟩ := exc_here ok t.1
  subst e1
  obtain ⟨E, ek⟩ := io _ b C eb e2
  obtain ⟨v, hσ, rm⟩ := ok.slot i _ hs
  have rm : v = .ref a := rm
  subst rm
  refine (pe_callB (X := X.suite a ((a, oe) :: pn)) (x := "isinstance") (p := p) (pos := pos) (call_isD E ek hz hf) hg hm (by decide +kernel) (pa_cons (pe_var (pos := p2) (i := i) hN hv hd hcd) (pa_cons (pe_glob (pos := p3) (v := .ref Cc) hgc hmc rfl hdc) pa_nil))).run pins s σ H Qh I ?_
  refine ⟨.ref a, hσ, .ref Cc, rfl, (fun u ru => ru), ?_, q (.val (.fz (.bool b))) env (.bl b) F H ok (Le.refl _) (Free.fz (.bl b)) hw⟩
  exact e3.imp (fun h => h.1) fun ⟨dx, fs, a1, a2, _⟩ => ⟨dx, fs, a1, a2⟩
end
end VL

/-! VxE: a lambda handed to a def that calls it, by value. -/
namespace VL
open PySem PySem.Spec PyProof.Rows L2 LamX
section
variable {X : Cx} {pins : List (Addr × Obj)} {σ : L2.St} {H : Hp} {s : Shared}
/-- a lambda is made: its code object is new, or stands in the table already; all that stood stands, the tables grow -/
theorem lam_new {T : List NdefX.NTab} {nm : Nat → Nat → Str} {c P : Addr} {params : Arguments} {body : Expr} {scope : Scope} {pos : Pos} {E : Value → Shared → Prop} {Q : Value → Shared → Prop} (I : Inv X pins σ H s) (B : TabB X.base X.mg c P) (hcode : X.env.code = .ref c)
    (hm : (P, nm) ∈ T) (hn : nm pos.line pos.col = X.env.qual ++ "<lambda>") (hu : ∀ p ∈ T, p.1 = P → p.2 = nm) (ht : NdefX.TabsN T H) (hdef : defaultsOf params X.env = ([], [])) (hfree : ∀ y ∈ scope.names, y.2 = .free → ∃ c, X.env.cells.lookup y.1 = some c)
    (k : ∀ (f c1 : Addr) (pm ctv : Value) (H1 : Hp) (s1 : Shared), Inv X pins σ H1 s1 → ExtN H H1 → (∀ b, H1 b = none → H b = none) → NdefX.TabsN T H1 →
      s1.heap.get? f = some (PySem.W.kla_obj "<lambda>" (X.env.qual ++ "<lambda>") params body scope (cloFrom X.env.cells scope.names []) pm c1 ctv) → H1 f = none → f ∉ frs X.stack → H1 c1 = some (CodeO c1 (X.env.qual ++ "<lambda>")) → Q (.ref f) s1) :
    wpAny (model X.prog X.w) X.A (eval (.Lambda params body scope pos) X.env) Q E s := by
  obtain ⟨ps, tP, t3, tall⟩ := show NdefX.TabN H P nm from ht _ hm
  refine PySem.W.kla_eval hdef ?_
  have bmP : s.heap.BuiltinsAt X.mg P := B.bm.keeps I.bk
  have objP : s.heap.get? P = some { cls := .none, data := .fields ps } := I.hok P _ tP
  have noFr : ∀ z, s.heap.objs.size ≤ z → z ∉ frs X.stack := fun z hz hin => by
    rcases List.mem_cons.mp (I.stkSub _ hin) with e | e
    · have lt := I.lt
      rw [← e] at lt
      exact Nat.lt_irrefl _ (Nat.lt_of_lt_of_le lt hz)
    · exact I.nofs hz e
  cases am : codeAmong pos ps.toList with
  | some cv =>
    obtain ⟨c1, ecv, hco⟩ := tall pos cv am
    subst ecv
    rw [hn] at hco
    refine PySem.W.kla_makeFunctionHit (mg := X.mg) (c := c) (P := P) (ps := ps) (closure_ok hfree) I.ok.glob (I.mod.glob.keeps I.bk) hcode (B.code.keeps I.bk) objP t3 am bmP fun ctv h2 tk sub sz => ?_
    have J : Inv X pins σ H { s with heap := h2.push (PySem.W.kla_obj "<lambda>" (X.env.qual ++ "<lambda>") params body scope (cloFrom X.env.cells scope.names []) ((X.mg "__name__").getD .none) c1 ctv), toks := tk } := I.kept fun b o e => Heap.get?_push_of_some _ (sub b o e)
    exact k h2.objs.size c1 _ ctv H _ J (ExtN.refl H) (fun _ e => e) ht (Heap.get?_push_size _ rfl) (I.hok.fresh sz) (noFr _ sz) hco
  | none =>
    refine PySem.W.kla_makeFunction (mg := X.mg) (c := c) (P := P) (ps := ps) (closure_ok hfree) I.ok.glob (I.mod.glob.keeps I.bk) hcode (B.code.keeps I.bk) objP t3 am B.gP bmP fun c1 ctv h2 tk sub ge lt rec tb => ?_
    obtain ⟨c2, oc, fs, t, ec, o1, o2, o3⟩ := rec
    cases ec
    have sz : s.heap.objs.size ≤ h2.objs.size := by omega
    have fc : H c1 = none := I.hok.fresh ge
    have J := inv_table (t' := tk) (more := #[rawInt pos.line, rawInt pos.col, .ref c1]) (h' := h2.push (PySem.W.kla_obj "<lambda>" (X.env.qual ++ "<lambda>") params body scope (cloFrom X.env.cells scope.names []) ((X.mg "__name__").getD .none) c1 ctv)) I tP
      (fun b o nb e => Heap.get?_push_of_some _ (sub b o nb e)) (Heap.get?_push_of_some _ tb) ge ⟨oc, fs, t, Heap.get?_push_of_some _ o1, o2, o3⟩
    have ext : ExtN H (upd (upd H P (.tbl (ps ++ #[rawInt pos.line, rawInt pos.col, .ref c1]))) c1 (CodeO c1 (X.env.qual ++ "<lambda>"))) := fun b o e nt => by
      rw [upd_ne (ne_of_none e fc)]
      by_cases hb : b = P
      · subst hb
        rw [tP] at e
        exact absurd (Option.some.inj e).symm (nt ps)
      · rw [upd_ne hb]
        exact e
    have tl : (ps ++ #[rawInt pos.line, rawInt pos.col, .ref c1]).toList = ps.toList ++ [rawInt pos.line, rawInt pos.col, .ref c1] := by simp
    refine k h2.objs.size c1 _ ctv _ _ J ext (fun b e => ?_) (fun p hp => ?_) (Heap.get?_push_size _ rfl) ?_ (noFr _ sz) upd_same
    · exact NdefX.upd_none (NdefX.upd_none e)
    · by_cases hb : p.1 = P
      · rw [hu p hp hb, hb]
        refine ⟨_, by rw [upd_ne (ne_of_none tP fc), upd_same], by rw [tl]; exact PySem.TriplesOk_snoc _ _ _ _ t3, fun p2 cv hcv => ?_⟩
        rw [tl] at hcv
        rcases NdefX.among_app2 _ t3 hcv with z | ⟨z, z1, z2⟩
        · obtain ⟨c0, w1, w2⟩ := tall p2 cv z
          exact ⟨c0, w1, ext _ _ w2 codeO_ne⟩
        · refine ⟨c1, z, ?_⟩
          rw [← z1, ← z2, hn]
          exact upd_same
      · obtain ⟨qs, b1, b2, b3⟩ := ht p hp
        refine ⟨qs, by rw [upd_ne (ne_of_none b1 fc), upd_ne hb]; exact b1, b2, fun p2 cv hcv => ?_⟩
        obtain ⟨c0, w1, w2⟩ := b3 p2 cv hcv
        exact ⟨c0, w1, ext _ _ w2 codeO_ne⟩
    · have n1 : h2.objs.size ≠ c1 := by omega
      have n2 : h2.objs.size ≠ P := fun z => by
        have w := Nat.lt_of_lt_of_le (Heap.lt_size objP) sz
        rw [z] at w
        exact Nat.lt_irrefl _ w
      rw [upd_ne n1, upd_ne n2]
      exact I.hok.fresh sz
end
section
variable {X : Cx} {pins : List (Addr × Obj)} {σ : L2.St} {H : Hp} {s : Shared}
/-- the lambda called in the def that got it; what is raised is wished for at that def's slots -/
theorem act_run {CXg : CXT} {Eg : XK} {Ng : List Str} {qg q : Str} {sg : Scope} {g f c' : Addr} {cdg pm ctv : Value} {params : Arguments} {body : Expr} {scope : Scope} {k i : Nat} {a : Str} {pn : List (Addr × Obj)} {xe : Value → Shared → Prop} {W : WX} {tb : XK → TE} {p1 p2 : Pos}
    (I : Inv X pins σ H s) (L : LamS X.env.scope scope) (hq : q = X.env.qual ++ "<lambda>")
    (hf : s.heap.get? f = some (PySem.W.kla_obj "<lambda>" (X.env.qual ++ "<lambda>") params body scope (cloFrom X.env.cells scope.names []) pm c' ctv)) (hfn : H f = none) (hfr : f ∉ frs X.stack)
    (hbind : bindArgs (PySem.W.kla_fn "<lambda>" (X.env.qual ++ "<lambda>") params body scope (cloFrom X.env.cells scope.names []) pm (.ref c') ctv) ⟨[], []⟩ = pure [])
    (tk : Takes ((cxOf CXg X.prog X.w X.K X.mg X.base Ng qg sg g cdg X.A X.stack s H Eg).tr pn xe) W) (hr : Room (k + 1) (X.A.deeper (envOfC qg sg s.heap.objs.size g cdg)))
    (hbody : ∀ (A : Around) (outer : List PySem.Env) (s : Shared) (H : Hp) (E : XK), Room k (A.deeper (lamEnv X scope s.heap.objs.size f c')) → A.guards = X.A.guards → PE (lamCx X A outer s H E scope f c') body (tb E))
    (hN : Ng[i]? = some a) (hv : Vis sg a) (hd : (a == ("__debug__" : Str)) = false) (hcd : (a == ("__classdict__" : Str)) = false) :
    PE ((cxOf CXg X.prog X.w X.K X.mg X.base Ng qg sg g cdg X.A X.stack s H Eg).tr pn xe) (.Call (.Name a p1) [] [] p2)
      (fun σ1 H1 Q => σ1[i]? = some (some (.ref f)) ∧ H1 c' = some (CodeO c' q) ∧ tb (fun cls d H' => W cls d σ1 H') σ H1 Q) := by
  subst hq
  refine ⟨fun pins1 s1 σ1 H1 Q I1 h => ?_⟩
  obtain ⟨hs, hc, ht⟩ := h
  refine wpAny_Call_Name_kw (thn ((pe_var (pos := p1) (i := i) hN hv hd hcd).run pins1 s1 σ1 H1 (fun v H2 => v = .ref f ∧ H2 = H1) I1 ⟨.ref f, hs, rfl, rfl⟩) fun u s2 hu => ?_)
  obtain ⟨v, H2, I2, rv, e1, e2⟩ := hu
  subst e1 e2
  obtain rfl : u = Value.ref f := rv
  have kf : s2.heap.get? f = some (PySem.W.kla_obj "<lambda>" (X.env.qual ++ "<lambda>") params body scope (cloFrom X.env.cells scope.names []) pm c' ctv) := I2.base.keep f _ hf hfn hfr fun z => by cases z
  refine PySem.W.callWith_F0 ⟨_, _, _, _, kf⟩ ?_
  have un : Un (frs X.stack) [] H H2 s.heap s2.heap := I2.base
  obtain ⟨⟨oc, fs, t, o1, o2, o3⟩, _, _⟩ := I2.hok c' _ hc
  have run : codeAny (model X.prog X.w) (X.A.deeper (envOfC qg sg s.heap.objs.size g cdg)) (.call (.ref f) ⟨[], []⟩) (CR (L2.CX X.prog X.w) (envOfC qg sg s.heap.objs.size g cdg :: X.stack) X.prog X.w H2 s2 Q (fun cls d H' => W cls d σ1 H')) s2 := by
    refine PySem.W.kla_callFunE hr.depth kf rfl L.co L.gen rfl ⟨c', oc, fs, t, rfl, o1, o2, o3⟩ ?_
    rw [hbind]
    refine wpAny_pure (wpAny_newFunctionEnv (fun y hy => (L.own y hy).2) (fun y hy => by cases hy) (fun h₁ hns hsb => ⟨I2.nolimit.fresh _ hsb, ?_⟩) L.kind)
    show codeAny _ _ (.expr body (lamEnv X scope s2.heap.objs.size f c')) _ _
    have keep : ∀ b o, s2.heap.get? b = some o → h₁.get? b = some o := fun b o e => hsb.extBut b o (Nat.ne_of_lt (Heap.lt_size e)) (Heap.get?_push_of_some _ e)
    have J := lam_start2 (A := X.A.deeper (envOfC qg sg s.heap.objs.size g cdg)) (outer := envOfC qg sg s.heap.objs.size g cdg :: X.stack) (E := fun cls d H' => W cls d σ1 H') (f := f) (c' := c') (tk := s2.toks + ([] : List (Str × Value)).length) I L I2.env0 hr.hd un hns keep
    refine PySem.W.kla_codeExpr (wpAny_mono ((hbody _ _ s2 H2 (fun cls d H' => W cls d σ1 H') (hr.deeper _) rfl).run [] _ _ H2 Q J ht) (fun v s' hq => ?_) fun e s' hq => hq)
    obtain ⟨w', H', J', rv, q⟩ := hq
    exact ⟨w', H', J'.os, J'.bare, J'.base, J'.hok, rv, q⟩
  refine wpAny_call (codeAny_mono run fun r s' hq => ?_)
  cases r with
  | error e => exact tk e s' (XE.of_call I2 (fun _ _ _ h => h) hq)
  | ok fl =>
    cases fl with
    | ret u => exact I2.after hq
    | next => exact False.elim hq
    | brk => exact False.elim hq
    | cont => exact False.elim hq
end
end VL

/-! VxF: f(lambda: ..), f a def of one parameter that it calls. -/
namespace VL
open PySem PySem.Spec PyProof.Rows L2 LamX
/-- what a call of the lambda asks: of its value, of its exception -/
abbrev LamV := (M → Prop) → (Ex → Prop) → Prop
/-- own things aside -/
def dropOwn : Slots → Slots
  | [] => []
  | o :: sl => (match o with
    | some m => if isOwn m = true then none else some m
    | none => none) :: dropOwn sl
/-- the lambda's meaning where it was made -/
def lamOf (fl : FE) (env : Env) : LamV := fun Qv Ev => fl ⟨dropOwn env.sl, []⟩ (fun r _ => ∃ m, r = .val m ∧ Qv m) (fun ex _ => Ev ex)
/-- act(), act the parameter in slot i -/
def fAct (i : Nat) (f : Addr) (lam : LamV) : FE := fun env Q W => env.sl[i]? = some (some (.adr f)) ∧ lam (fun m => Q (.val m) env) (fun ex => W ex env)
def fHeard (n : Nat) (g : Addr → LamV → FS) (fl : FE) : FE := fun env Q W => ∀ f : Addr, bodyV n 1 [] (g f (lamOf fl env)) [.adr f] (fun m _ => Q (.val m) env) (fun ex _ => W ex env)
theorem dropOwn_len : ∀ sl : Slots, (dropOwn sl).length = sl.length
  | [] => rfl
  | _ :: sl => by show (dropOwn sl).length + 1 = sl.length + 1; rw [dropOwn_len sl]
theorem dropOwn_at : ∀ {sl : Slots} {i : Nat} {m : M}, (dropOwn sl)[i]? = some (some m) → sl[i]? = some (some m) ∧ isOwn m = false
  | o :: sl, 0, m, h => by
    cases o with
    | none => cases h
    | some m0 =>
      have h : some (if isOwn m0 = true then none else some m0) = some (some m) := h
      by_cases c : isOwn m0 = true
      · rw [if_pos c] at h; cases h
      · rw [if_neg c] at h; cases h; exact ⟨rfl, by simpa using c⟩
  | o :: sl, i + 1, m, h => dropOwn_at (sl := sl) (i := i) h
/-- the ghost of a run in which nothing that stands may change -/
def still (F H : Hp) (T : List NdefX.NTab) : Gh := { F0 := F, H0 := H, own0 := fun _ => False, bor := [], T := T }
/-- what the def that got the lambda knows of it -/
structure LamG (T : List NdefX.NTab) (K : Fg) (mg : Mg) (tl : XK → Hp → VK → Prop) (c : Addr) (q : Str) (lam : LamV) (G : Gh) : Prop where
  tb : G.T = T
  no : ∀ a, ¬ G.own0 a
  co : G.H0 c = some (CodeO c q)
  run : ∀ (F H : Hp) (Qv : M → Prop) (Ev : Ex → Prop) (E : XK) (Q : VK), Le G.F0 F → Le F H → NdefX.TabsN T H → (∀ a o, F a = some o → NTb o) → lam Qv Ev →
    (∀ m v F' H', Bk T K mg F H [] [] F' H' [] → RM K mg F' H' m v → (isOwn m = true → ∀ a, v = .ref a → H a = none) → Qv m → Q v H') →
    (∀ ex cls d F' H', Bk T K mg F H [] [] F' H' [] → ExOk K mg F' H' ex cls d → Ev ex → E cls d H') → tl E H Q
section
variable {K : Fg} {mg : Mg} {G : Gh} {F F' H H' : Hp} {σ : L2.St} {env env' : Env} {T : List NdefX.NTab}
theorem EnvOk.calm0 (ok : EnvOk K mg G F H σ env) (l : Le F F') (l2 : Le F' H') (t : NdefX.TabsN T H') (nt : ∀ a o, F' a = some o → NTb o) : EnvOk K mg (still F' H' T) F' H' σ ⟨dropOwn env.sl, []⟩ := by
  have no : ∀ {i a}, ¬ OwnAt σ (dropOwn env.sl) i a := fun {i a} ⟨m, e1, e2, _⟩ => by
    rw [(dropOwn_at e1).2] at e2; cases e2
  refine ⟨l2, fun i m e => ?_, fun i j a z _ => (no z).elim, Le.refl _, fun a o e _ _ => e, fun a e => e, fun a o e => .inl e, fun i a z => (no z).elim, rfl, (fun p hp => nomatch hp), (fun p hp => nomatch hp), (fun p hp => nomatch hp), by rw [dropOwn_len]; exact ok.len, t, nt⟩
  obtain ⟨h1, h2⟩ := dropOwn_at e
  obtain ⟨v, e1, r⟩ := ok.slot i m h1
  exact ⟨v, e1, r.le l fun o => by rw [h2] at o; cases o⟩
theorem Bk.of_still (ok : EnvOk K mg (still F H T) F' H' σ env) : Bk T K mg F H [] [] F' H' [] :=
  ⟨ok.frz, ok.sub, fun a o e _ nt => ok.frame a o e (fun z => z) nt, ok.tabs, ok.nt, ok.dom, fun a o e => (ok.newF a o e).imp id fun z => z.elim id fun z => z.elim, rfl, fun k i a e => by simp at e⟩
theorem Bk.vs0 {vs : List V} {bms : List M} (bk : Bk T K mg F H [] vs F' H' bms) : Bk T K mg F H [] [] F' H' [] :=
  ⟨bk.le, bk.sub, fun a o e n => bk.frame a o e (fun ⟨i, hi, _⟩ => nomatch hi), bk.tabs, bk.nt, bk.dom, bk.newF, rfl, fun k i a e => by simp at e⟩
theorem EnvOk.acted (ok : EnvOk K mg G F H σ env) (hT : G.T = T) (bk : Bk T K mg F H [] [] F' H' []) : EnvOk K mg G F' H' σ env ∧ ∀ i a, OwnAt σ env.sl i a → H' a = H a :=
  ⟨(ok.called (as := []) (vs := []) (ms := []) (bms := []) (bs := []) hT .nil rfl rfl List.nodup_nil bk).1, fun i a z => by
    obtain ⟨_, u, hu, ou⟩ := z.some ok
    rw [hu]
    exact bk.frame a u hu (fun ⟨i, hi, _⟩ => nomatch hi) ou.ntb⟩
end
section
variable {X : Cx} {pins : List (Addr × Obj)} {σ : L2.St} {H : Hp} {s : Shared}
/-- the rule of act() -/
theorem ve_act {T : List NdefX.NTab} {tl : XK → Hp → VK → Prop} {Z : Cx} {c f : Addr} {q : Str} {lam : LamV} {i : Nat} {a : Str} {p1 p2 : Pos}
    (act : ∀ W : WX, Takes Z W → PE Z (.Call (.Name a p1) [] [] p2) (fun σ1 H1 Q => σ1[i]? = some (some (.ref f)) ∧ H1 c = some (CodeO c q) ∧ tl (fun cls d H' => W cls d σ1 H') H1 Q)) :
    VE (LamG T Z.K Z.mg tl c q lam) Z (.Call (.Name a p1) [] [] p2) (fAct i f lam) := fun G W t => PE.imp (act _ t.2) fun σ1 H1 Qh hw => by
  obtain ⟨F, env, Q, ok, ⟨hs, hl⟩, k⟩ := hw
  obtain ⟨v, hσ, rm⟩ := ok.slot i _ hs
  have rm : v = .ref f := rm
  subst rm
  have g := t.1
  refine ⟨hσ, ok.frame c _ g.co (g.no c) codeO_ne, g.run F H1 _ _ _ _ ok.frz ok.sub (g.tb ▸ ok.tabs) ok.nt hl (fun m v F' H' bk rm nw hq => ?_) fun ex cls d F' H' bk eo hq => ?_⟩
  · obtain ⟨ok', _⟩ := ok.acted g.tb bk
    refine k (.val m) env v F' H' ok' bk.le ⟨rm, fun o b eb => ⟨ok.dom b (nw o b eb), fun j z => ?_⟩⟩ hq
    obtain ⟨_, u, hu, _⟩ := z.some ok
    rw [nw o b eb] at hu; cases hu
  · obtain ⟨ok', _⟩ := ok.acted g.tb bk
    exact ⟨ex, F', env, ok', eo, hq⟩
theorem LamG.stbX {T : List NdefX.NTab} {K : Fg} {mg : Mg} {tl : XK → Hp → VK → Prop} {c : Addr} {q : Str} {lam : LamV} : StbX (LamG T K mg tl c q lam) := fun K' mg' G F H σ env d ok hd g => by
  refine ⟨g.tb, g.no, ?_, fun F2 H2 Qv Ev E Q l => g.run F2 H2 Qv Ev E Q (ok.frz.trans l)⟩
  show (if d = some c then H c else G.H0 c) = _
  split
  · exact ok.frame c _ g.co (g.no c) codeO_ne
  · exact g.co
/-- what a def does with the lambda that it gets: g -/
def GivesV (P : Program) (w : World) (K : Fg) (mg : Mg) (base : Heap) (T : List NdefX.NTab) (k : Nat) (N : List Str) (x : Str) (st : Stmt) (fg : Addr) (fd : FuncData) (a : Str) (g : Addr → LamV → FS) : Prop :=
  ∀ (gpc : Gp) (cdv : Value) (A : Around) (outer : List PySem.Env) (s : Shared) (H : Hp) (E : XK) (f : Addr) (lam : LamV), StbX gpc → (∀ G, gpc G → G.T = T) → fd.code = cdv →
    Room k (A.deeper (envOfC x (defScope st) s.heap.objs.size fg cdv)) → (A.deeper (envOfC x (defScope st) s.heap.objs.size fg cdv)).guards = some [] →
    (∀ (pn : List (Addr × Obj)) (xe : Value → Shared → Prop) (p1 p2 : Pos), VE gpc ((cxOf (L2.CX P w) P w K mg base N x (defScope st) fg cdv A outer s H E).tr pn xe) (.Call (.Name a p1) [] [] p2) (fAct 0 f lam)) →
    VSs gpc (cxOf (L2.CX P w) P w K mg base N x (defScope st) fg cdv A outer s H E) (defBody st) (g f lam)
theorem ve_heard {T : List NdefX.NTab} {nm : Nat → Nat → Str} {k : Nat} {x a : Str} {st : Stmt} {fg cc Pt : Addr} {fd : FuncData} {N : List Str} {g : Addr → LamV → FS} {params : Arguments} {body : Expr} {scope : Scope} {fl : FE} {p lpos pos : Pos}
    (C : GivesV X.prog X.w X.K X.mg X.base T (k + 1) N x st fg fd a g) (hr : Room (k + 2) X.A) (gd : X.A.guards = some []) (hg : Gl X x) (hm : X.mg x = some (.ref fg)) (hk : PySem.W.keepIn X.K (.ref fg) = true) (D : Fun X.K x x st fg fd) (S : FnScope N [a] (defScope st)) (hb : Binds X.K fd [a] [])
    (TB : TabB X.base X.mg cc Pt) (hcode : X.env.code = .ref cc) (hmT : (Pt, nm) ∈ T) (hn : nm lpos.line lpos.col = X.env.qual ++ "<lambda>") (hu : ∀ p ∈ T, p.1 = Pt → p.2 = nm) (L : LamS X.env.scope scope) (hdef : defaultsOf params X.env = ([], []))
    (hbind : ∀ (q : Str) (cl : List (Str × Addr)) (pm cv ctv : Value), bindArgs (PySem.W.kla_fn "<lambda>" q params body scope cl pm cv ctv) ⟨[], []⟩ = pure [])
    (hbody : ∀ (A : Around) (outer : List PySem.Env) (s : Shared) (H : Hp) (E : XK) (f c' : Addr), Room k (A.deeper (lamEnv X scope s.heap.objs.size f c')) → (A.deeper (lamEnv X scope s.heap.objs.size f c')).guards = some [] → VE (gpT T) (lamCx X A outer s H E scope f c') body fl)
    (hN : N[0]? = some a) (hva : Vis (defScope st) a) (hdb : (x == ("__debug__" : Str)) = false := by decide) (hd : (a == ("__debug__" : Str)) = false := by decide) (hcd : (a == ("__classdict__" : Str)) = false := by decide) :
    VE (gpT T) X (.Call (.Name x p) [.Lambda params body scope lpos] [] pos) (fHeard N.length g fl) := fun G W t => by
  have tG : G.T = T := t.1
  refine ⟨fun pins s σ H Qh I hw => ?_⟩
  obtain ⟨F, env, Q, ok, hf, q⟩ := hw
  refine wpAny_Call_Name_kw (ld_glob I hg hm ?_ hdb)
  refine PySem.W.callWith_K (h₀ := X.base) I.ok.mod.kin hk ?_ (by rfl) (by rfl)
  show wpAny _ _ (spliced ((false, eval (.Lambda params body scope lpos) X.env) :: backTo pos (starEach [] X.env))) _ _ s
  refine Calls.spliced_cons (lam_new I TB hcode hmT hn hu (tG ▸ ok.tabs) hdef (L.has I.ok) fun f c1 pm ctv H1 s1 I1 ext dm T1 hfo hfn hfr hco => ?_)
  refine Calls.spliced_nil ⟨I1.kIn, ?_⟩
  have ok1 : EnvOk X.K X.mg G F H1 σ env := by
    refine ⟨fun b o e => ext b o (ok.sub b o e) (ok.nt b o e), fun i m e => ?_, ok.apart, ok.frz, fun b o e n nt => ext b o (ok.frame b o e n nt) nt, fun b e => ok.dom b (dm b e), ok.newF, ok.newO, ok.bor, ok.borA, ok.sep, ok.borH, ok.len, tG ▸ T1, ok.nt⟩
    obtain ⟨v, e1, r⟩ := ok.slot i m e
    refine ⟨v, e1, r.le (Le.refl _) fun o b eb => ?_⟩
    have z : OwnAt σ env.sl i b := ⟨m, e, o, by rw [e1, eb]⟩
    obtain ⟨n1, u, hu, ou⟩ := z.some ok
    exact ⟨by rw [hu]; exact ext b u hu ou.ntb, n1⟩
  have ai : ArgIn X.K X.mg F H1 [] [V.ref f] [M.adr f] := by
    refine ⟨rfl, fun i m e => ?_, (fun i z => nomatch z), (fun i j b z => nomatch z)⟩
    cases i with
    | zero => cases e; exact ⟨_, rfl, rfl, fun z => by cases z⟩
    | succ i => simp at e
  have hg1 : LamG T X.K X.mg (fun E H' Q' => ∃ (G' : Gh) (W' : KX), G'.T = T ∧ (∀ c d σ' H2, liftW X.K X.mg G' W' c d σ' H2 → E c d H2) ∧ liftE X.K X.mg G' W' fl σ H' Q') c1 (X.env.qual ++ "<lambda>") (lamOf fl env) (ghV T F H1 [] [V.ref f]) := by
    refine ⟨rfl, (fun a ⟨i, hi, _⟩ => nomatch hi), hco, fun F2 H2 Qv Ev E Q2 l1 l2 t2 n2 hl kq ke => ?_⟩
    refine ⟨still F2 H2 T, fun ex _ => Ev ex, rfl, fun cl d σ' H3 hw => ?_, F2, _, _, ok1.calm0 l1 l2 t2 n2, hl, fun r e3 v F3 H3 ok3 l3 rr hq => ?_⟩
    · obtain ⟨ex, F3, e3, ok3, eo, hq⟩ := hw
      exact ke ex cl d F3 H3 (Bk.of_still ok3) eo hq
    · obtain ⟨m, er, hq⟩ := hq
      subst er
      exact kq m v F3 H3 (Bk.of_still ok3) rr.rm (fun o b eb => (rr.new o b eb).1) hq
  have run : codeAny (model X.prog X.w) X.A (.call (.ref fg) ⟨[.ref f], []⟩) (CR (L2.CX X.prog X.w) X.stack X.prog X.w H1 s1 (QV T X.K X.mg F H1 [] [V.ref f] fun m _ => Q (.val m) env) (EV T X.K X.mg F H1 [] [V.ref f] fun ex _ => W ex env)) s1 := by
    refine fnv_run D S hr gd I1.env0 ?_ (us := [.ref f]) (.cons rfl .nil) ok1.sub ai T1 ok1.nt hg1 (fun cdv hcv hr2 gd2 => ?_) (hf f)
    · have := hb s1 [.ref f] I1.kIn rfl
      rw [List.append_nil] at this
      exact this
    · refine C _ cdv X.A X.stack s1 H1 _ f (lamOf fl env) LamG.stbX (fun _ g => g.tb) hcv hr2 gd2 fun pn xe p1 p2 => ve_act (T := T) (Z := (cxOf (L2.CX X.prog X.w) X.prog X.w X.K X.mg X.base N x (defScope st) fg cdv X.A X.stack s1 H1 (EV T X.K X.mg F H1 [] [V.ref f] fun ex _ => W ex env)).tr pn xe) (tl := fun E H' Q' => ∃ (G' : Gh) (W' : KX), G'.T = T ∧ (∀ c d σ' H2, liftW X.K X.mg G' W' c d σ' H2 → E c d H2) ∧ liftE X.K X.mg G' W' fl σ H' Q') (c := c1) (f := f) (q := X.env.qual ++ "<lambda>") (lam := lamOf fl env) (i := 0) (a := a) (p1 := p1) (p2 := p2) fun W2 tk2 => ?_
      refine act_run (tb := fun E σ2 H' Q' => ∃ (G' : Gh) (W' : KX), G'.T = T ∧ (∀ c d σ' H2, liftW X.K X.mg G' W' c d σ' H2 → E c d H2) ∧ liftE X.K X.mg G' W' fl σ2 H' Q') I1 L rfl hfo hfn hfr (hbind _ _ _ _ _) tk2 hr2 (fun A outer s H E hr3 ga => ⟨fun pins s2 σ2 H2 Q2 I2 ⟨G', W', gT, im, hq⟩ => ?_⟩) hN hva hd hcd
      exact (hbody A outer s H E f c1 hr3 (ga.trans gd) G' W' ⟨gT, (takes_of (E := E) rfl rfl rfl rfl).imp im⟩).run pins s2 σ2 H2 Q2 I2 hq
  refine wpAny_call (codeAny_mono run fun r s2 hq => ?_)
  cases r with
  | error u =>
    refine t.2 u s2 (XE.of_call I1 (fun cls d H' h => ?_) hq)
    obtain ⟨ex, F', bms, bk, eo, hw⟩ := h
    obtain ⟨ok', _⟩ := ok1.called (as := []) (vs := []) (ms := []) (bms := []) (bs := []) tG .nil rfl rfl List.nodup_nil (bk.vs0)
    exact ⟨ex, F', _, ok', eo, hw⟩
  | ok fl2 =>
    cases fl2 with
    | next => exact False.elim hq
    | brk => exact False.elim hq
    | cont => exact False.elim hq
    | ret u =>
      obtain ⟨v, H', I', rv', F', m, bms, bk, rm, nw, hQ⟩ := I1.after hq
      obtain ⟨ok', own'⟩ := ok1.called (as := []) (vs := []) (ms := []) (bms := []) (bs := []) tG .nil rfl rfl List.nodup_nil (bk.vs0)
      refine ⟨v, H', I', rv', q (.val m) _ v F' H' ok' bk.le ⟨rm, fun o a ea => ⟨ok1.dom a (nw o a ea), fun i z => ?_⟩⟩ hQ⟩
      obtain ⟨_, w, hu, _⟩ := (own' i a z).some ok1
      rw [nw o a ea] at hu; cases hu
end
end VL

/-! VxG: isinstance of data. -/
namespace VL
open PySem PySem.Spec PyProof.Rows L2
/-- the type's name -/
def tyN : D → String
  | .none => "NoneType"
  | .bool _ => "bool"
  | .int _ => "int"
  | .str _ => "str"
  | .list _ => "list"
  | .tuple _ => "tuple"
  | .dict _ => "dict"
def isiD (T : String) (d : D) : Bool := tyN d == T || (T == "int" && tyN d == "bool")
/-- T is one of the types that are asked about -/
def askT (T : String) : Bool := T == "tuple" || T == "str" || T == "int" || T == "bool" || T == "list" || T == "dict"
theorem isi_kit (K : Fg) (d : D) {T : String} (h : askT T = true) : PySem.W.kitOne K (.type (tyN d)) (.type T) = some (isiD T d) := by
  unfold askT at h
  simp only [Bool.or_eq_true, beq_iff_eq] at h
  rcases h with ((((rfl | rfl) | rfl) | rfl) | rfl) | rfl
  all_goals (cases d <;> first | rfl | kernel_rfl)
def fIsi (T : String) (fe : FE) : FE := fun env Q W => fe env (fun r e1 => bindP (pkR r) fun x => bindP (pkA e1 x) fun d => Q (.val (.fz (.bool (isiD T d)))) e1) W
section
variable {X : Cx} {gp : Gp} {e : Expr} {fe : FE} {p p2 pos : Pos} {x : Str} {T : String}
theorem Pk.tyX {K : Fg} {F H : Hp} (l : Le F H) {v : V} {d : D} (h : Pk K F H v d) : TyX K H v (.type (tyN d)) := by
  cases h with
  | lst h1 _ => exact .base (.lst h1)
  | dct h =>
    rcases h with ⟨kvs, h, _⟩ | ⟨kvs, h, _⟩
    · exact .base (.dK h)
    · exact .base (.dT h)
  | fz h =>
    cases h with
    | non => exact .base .non
    | bl b => exact .base (.bl b)
    | int i => exact .base (.int i)
    | str x => exact .base (.str x)
    | lst h _ =>
      rcases h with (h | ⟨o, h⟩) | ⟨us, n, h, _⟩
      · exact .base (.lst (l _ _ h))
      · exact .base (.frz (l _ _ h))
      · exact .kList h rfl
    | tup h _ =>
      rcases h with ⟨o, h, _⟩ | ⟨o, its, n, h, hc, _⟩
      · exact .fTuple (l _ _ h)
      · exact .kTuple h hc
    | dct h _ => exact .base (.dK (l _ _ h))
theorem ve_isi (ht : askT T = true) (he : VE gp X e fe) (hg : Gl X "isinstance") (hm : X.mg "isinstance" = none) (hgT : Gl X x) (hmT : X.mg x = none) (hbT : bootBuiltins x = some (.type T)) (hn : x ≠ "__name__" := by decide) (hdx : (x == ("__debug__" : Str)) = false := by decide)
    (hs : starEach (e :: [.Name x p2]) X.env = (false, eval e X.env) :: starEach [.Name x p2] X.env := by rfl) (hpl : (backTo pos (starEach [.Name x p2] X.env)).any (·.1) = false := by rfl) :
    VE gp X (.Call (.Name "isinstance" p) [e, .Name x p2] [] pos) (fIsi T fe) := fun G W t =>
  PE.imp (pe_callB (x := "isinstance") (p := p) (pos := pos) call_isi hg hm (by decide +kernel) (pa_cons (he G W t) (pa_cons (pe_bltn (pos := p2) (v := .ty T) hgT hmT hbT rfl hn hdx) pa_nil) hs) (he := hs) (hpl := hpl)) fun σ H Qh hw => by
  obtain ⟨F, env, Q, ok, hf, q⟩ := hw
  refine ⟨F, env, _, ok, hf, fun r e1 v F1 H1 ok1 l1 rr hq => ?_⟩
  obtain ⟨y, ey, hq⟩ := bindP_of hq
  obtain ⟨d, ed, hq⟩ := bindP_of hq
  obtain ⟨F2, ok2, l2, ay⟩ := rr.peek ok1 ey
  have pk := ay.pk ok2 ed
  exact ⟨v, .ty T, _, _, _, rfl, .ty T, pk.tyX ok2.sub, isi_kit X.K d ht, q (.val (.fz (.bool _))) e1 (.bl _) F2 H1 ok2 (l1.trans l2) (Free.fz (.bl _)) hq⟩
end
end VL

/-! VxH: what the head tells of the exception classes, packed. -/
namespace VL
open PySem PySem.Spec PyProof.Rows L2 NdefX
/-- the first def of a class -/
def initSt (st : Stmt) : Stmt := match C8.clsBody st with
  | s :: _ => s
  | [] => st
/-- an exception class of one's own -/
structure ExcM (K : Fg) (mg : Mg) (x : Str) (D : Addr) : Prop where
  mg : mg x = some (.ref D)
  hg : PySem.W.findIn K (.ref D) "__getattribute__" = some (some (.builtin "BaseException.__getattribute__"))
  hk : PySem.W.findIn K (.ref D) "__getattr__" = some none
  hs : PySem.W.subIn K (.ref D) (.type "BaseException") = some true
  hd : PySem.W.hasDictIn K D = true
  ha : PySem.W.findIn K (.ref D) "__class__" = some (some (.builtin "object.__class__"))
  hn : PySem.W.specialIn K (.builtin "object.__class__") "__get__" = some (some (.builtin "getset_descriptor.__get__"))
  ht : PySem.W.takesIn K (.builtin "object.__class__") = some true
  hm : PySem.W.mroIn K D (.type "object") = some true
  ty : PySem.W.typeIn K (.ref D) = some (.type "type")
  self : PySem.W.subIn K (.ref D) (.ref D) = some true
/-- .. that is raised with fields ns -/
structure RaiseM (P : Program) (K : Fg) (mg : Mg) (D : Addr) (ns : List Str) : Prop where
  T : OexC K D
  ex : ∃ (fI : Addr) (fd : FuncData) (ps : List Str), PySem.W.findIn K (.ref D) "__init__" = some (some (.ref fI)) ∧ PySem.W.typeIn K (.ref fI) = some (.type "function") ∧ (∀ (w : World) (base : Heap), FnOk P w K mg base CXf 1 fI fd ps (spIni D ns)) ∧ Binds K fd ps []
section
variable {P : Program} {K : Fg} {mg : Mg} {x y : Str} {C D : Addr} {b : Bool}
theorem ExcM.excC (M : ExcM K mg x D) : ExcC K D := ⟨M.hg, M.hk, M.hs, M.hd, M.ha, M.hn, M.ht, M.hm⟩
theorem ExcM.xfC (M : ExcM K mg x D) : XfC K D := ⟨M.hg, M.hk, M.hs, M.hd⟩
theorem ExcM.exm (M : ExcM K mg x D) (h : PySem.W.subIn K (.ref C) (.ref D) = some b) : PySem.W.exmOne K (.ref C) (.ref D) = some b := PySem.W.exm_ref M.hs M.hd M.ty h
theorem ExcM.kit (M : ExcM K mg x D) (h : PySem.W.subIn K (.ref C) (.ref D) = some b) : PySem.W.kitOne K (.ref C) (.ref D) = some b := by
  unfold PySem.W.kitOne
  split
  · rename_i e
    have e : C = D := Value.ref.inj (beq_iff_eq.mp e)
    subst e
    rw [M.self] at h
    exact h
  · obtain ⟨cd, hc, _⟩ := PySem.W.any_some M.hd
    show (if ((PySem.W.clsIn K D).isSome && PySem.W.typeIn K (.ref D) == some (.type "type")) = true then PySem.W.subIn K (.ref C) (.ref D) else none) = some b
    rw [hc, M.ty]
    exact h
theorem mg_inj {mg : Mg} {x : Str} {C D : Addr} (h1 : mg x = some (.ref C)) (h2 : mg x = some (.ref D)) : C = D := by
  rw [h1] at h2; cases h2; rfl
/-- the table of a clause's class, row by row -/
def tabL (l : List (Str × Bool)) (x : Str) : Option Bool := l.lookup x
theorem tab_nil {p : Str → Bool → Prop} : ∀ x b, tabL [] x = some b → p x b := fun _ _ h => by cases h
theorem tab_cons {p : Str → Bool → Prop} {x0 : Str} {b0 : Bool} {l : List (Str × Bool)} (h0 : p x0 b0) (h : ∀ x b, tabL l x = some b → p x b) : ∀ x b, tabL ((x0, b0) :: l) x = some b → p x b := fun x b e => by
  unfold tabL at e
  rw [List.lookup_cons] at e
  cases q : x == x0 with
  | true => rw [q] at e; cases e; rw [eq_of_beq q]; exact h0
  | false => rw [q] at e; exact h x b e
theorem subOk_of {l : List (Str × Bool)} (M : ExcM K mg y D) (h : ∀ x b, tabL l x = some b → ∃ C, mg x = some (.ref C) ∧ PySem.W.subIn K (.ref C) (.ref D) = some b) : SubOk K mg (.ref D) (tabL l) := fun x b C e m => by
  obtain ⟨C', m', s⟩ := h x b e
  cases mg_inj m m'
  exact M.exm s
theorem isXOk_of {l : List (Str × Bool)} (M : ExcM K mg y D) (h : ∀ x b, tabL l x = some b → ∃ C, ExcM K mg x C ∧ PySem.W.subIn K (.ref C) (.ref D) = some b) : IsXOk K mg (.ref D) (tabL l) := fun x b C e m => by
  obtain ⟨C', m', s⟩ := h x b e
  cases mg_inj m m'.mg
  exact ⟨m'.excC, M.kit s⟩
def fldL (l : List Str) (x : Str) : Bool := l.contains x
theorem fldOk_of {l : List Str} {f : Str} (h : ∀ x ∈ l, ∃ C, ExcM K mg x C ∧ PySem.W.findIn K (.ref C) f = some none) : FldOk K mg f (fldL l) := fun x C e m => by
  obtain ⟨C', m', s⟩ := h x (by unfold fldL at e; simpa using e)
  cases mg_inj m m'.mg
  exact ⟨m'.xfC, s⟩
/-- the facts of an __init__ of one field -/
theorem raise1 {fI cc cda : Addr} {nmC qC qual f : Str} {params : Arguments} {body : List Stmt} {scope : Scope} {p0 p1 p2 p3 p4 p5 q1 q2 q3 q4 : Pos} {ar : Arg} {oc kV doc pm ct ccl cl : Value} {an od cdd cld : Option Addr} {osl ccs csl : Array (Option Value)} {vs : Array Value} {file : Str} {tf : Tok} {cdD : ClassData}
    {N : Addr} {bs bm : List Value} {sn : List Str} {sub : List Value} {ab : Bool} {col : Option Bool} {dd : Option Addr} {k0 k1 k2 k3 k5 : Option Value}
    (hbody : body = [.Expr (.Call (.Attribute (.Call (.Name "super" p0) [] [] p1) "__init__" p2) [.Name f p5] [] p3) p4, .Assign [.Attribute (.Name "self" q1) f q2] (.Name f q3) q4])
    (S : nscB ["self", f, "__class__"] ["self", f] ["__class__"] scope = true) (har : (params.posonlyargs ++ params.args).head? = some ar) (hn : ar.arg = ("self" : Str)) (hss : scope.names.lookup ("super" : Str) = some .globalImplicit)
    (hd : (f == ("__debug__" : Str)) = false) (hc : (f == ("__classdict__" : Str)) = false)
    (hev : ∀ env : PySem.Env, ∃ pl : Sem Bool, eval (.Call (.Attribute (.Call (.Name "super" p0) [] [] p1) "__init__" p2) [.Name f p5] [] p3) env = (do
      let ov ← attributeBase (.Call (.Name "super" p0) [] [] p1) "__init__" env (eval (.Call (.Name "super" p0) [] [] p1) env)
      standAt p2.atName
      let (g, first) ← holding [ov] (getMethod ov "__init__" pl)
      callWith p3 g first (backTo p3 (starEach [.Name f p5] env)) []))
    (hbind : ∀ (kV doc pm ct : Value) (an : Option Addr) (cda cc : Addr) (us : List Value), us.length = 2 → bindArgs (PySem.W.ksFn "__init__" qual params body scope .none kV doc pm an (.ref cda) ct cc) ⟨us, []⟩ = pure ((["self", f] : List Str).zip us))
    (top : (P.main.scope.names.lookup ("super" : Str)).isSome = false) (sup : mg "super" = none)
    (l1 : K.lookup D = some (excClassObj nmC qC D N bs bm true sn sub ab col dd k0 k1 k2 k3 k5 "ValueError.__new__")) (l2 : PySem.HandSPX.refsVE bm = true) (l3 : PySem.W.findIn K (.ref D) "__setattr__" = some (some (.builtin "object.__setattr__"))) (l4 : PySem.W.subIn K (.ref D) (.type "BaseException") = some true)
    (l5 : PySem.W.typeIn K (.ref D) = some (.type "type")) (l6 : PySem.W.keepIn K (.ref D) = true) (l7 : PySem.W.findIn K (.ref D) "__init__" = some (some (.ref fI))) (l8 : PySem.W.typeIn K (.ref fI) = some (.type "function"))
    (l9 : K.lookup fI = some ⟨oc, od, .func (PySem.W.ksFn "__init__" qual params body scope .none kV doc pm an (.ref cda) ct cc), osl⟩) (m1 : PySem.W.codeIn K (.ref cda) qual = true) (m2 : K.lookup cda = some ⟨ccl, cdd, .fields vs, ccs⟩) (m3 : vs[2]? = some (.str file tf)) (m4 : ((P.main.file : Str) == file) = true)
    (m5 : K.lookup cc = some ⟨cl, cld, .cell (some (.ref D)), csl⟩) (m6 : PySem.W.clsIn K D = some cdD) (m7 : PySem.W.mroIn K D (.ref D) = some true) (m8 : PySem.W.ks_superIn K D D "__init__" = some (some (.builtin "ValueError.__init__"))) (m9 : PySem.W.subIn K (.ref D) (.type "ValueError") = some true)
    (n1 : PySem.W.nsIn K cStatics "thirdparty.any" = some none) (n2 : PySem.W.findIn K (.ref D) f = some none) : RaiseM P K mg D [f] := by
  have T : OexC K D := ⟨⟨nmC, qC, N, bs, bm, sn, sub, ab, col, dd, k0, k1, k2, k3, k5, l1, l2⟩, l3, l4, l5, l6⟩
  refine ⟨T, fI, _, ["self", f], l7, l8, fun w base => ini1 (cda := cda) (cc := cc) ⟨⟨oc, .none, kV, doc, pm, ct, an, od, osl, rfl, l9⟩, m1, ⟨ccl, cdd, vs, ccs, file, tf, m2, m3, m4⟩, ⟨cl, cld, csl, m5⟩, ⟨cdD, m6⟩, m7, m8, m9, n1, sup, top⟩ hbody (nscope_by S) har hn hss T n2 hd hc hev, Binds.all fun us hl => hbind _ _ _ _ _ _ _ us hl⟩
theorem raise2 {fI cc cda : Addr} {nmC qC qual f g : Str} {params : Arguments} {body : List Stmt} {scope : Scope} {p0 p1 p2 p3 p4 p5 p6 q1 q2 q3 q4 r1 r2 r3 r4 : Pos} {ar : Arg} {oc kV doc pm ct ccl cl : Value} {an od cdd cld : Option Addr} {osl ccs csl : Array (Option Value)} {vs : Array Value} {file : Str} {tf : Tok} {cdD : ClassData}
    {N : Addr} {bs bm : List Value} {sn : List Str} {sub : List Value} {ab : Bool} {col : Option Bool} {dd : Option Addr} {k0 k1 k2 k3 k5 : Option Value}
    (hbody : body = [.Expr (.Call (.Attribute (.Call (.Name "super" p0) [] [] p1) "__init__" p2) [.Name f p5, .Name g p6] [] p3) p4, .Assign [.Attribute (.Name "self" q1) f q2] (.Name f q3) q4, .Assign [.Attribute (.Name "self" r1) g r2] (.Name g r3) r4])
    (S : nscB ["self", f, g, "__class__"] ["self", f, g] ["__class__"] scope = true) (har : (params.posonlyargs ++ params.args).head? = some ar) (hn : ar.arg = ("self" : Str)) (hss : scope.names.lookup ("super" : Str) = some .globalImplicit)
    (hd : (f == ("__debug__" : Str)) = false) (hc : (f == ("__classdict__" : Str)) = false) (hd2 : (g == ("__debug__" : Str)) = false) (hc2 : (g == ("__classdict__" : Str)) = false)
    (hev : ∀ env : PySem.Env, ∃ pl : Sem Bool, eval (.Call (.Attribute (.Call (.Name "super" p0) [] [] p1) "__init__" p2) [.Name f p5, .Name g p6] [] p3) env = (do
      let ov ← attributeBase (.Call (.Name "super" p0) [] [] p1) "__init__" env (eval (.Call (.Name "super" p0) [] [] p1) env)
      standAt p2.atName
      let (g', first) ← holding [ov] (getMethod ov "__init__" pl)
      callWith p3 g' first (backTo p3 (starEach [.Name f p5, .Name g p6] env)) []))
    (hbind : ∀ (kV doc pm ct : Value) (an : Option Addr) (cda cc : Addr) (us : List Value), us.length = 3 → bindArgs (PySem.W.ksFn "__init__" qual params body scope .none kV doc pm an (.ref cda) ct cc) ⟨us, []⟩ = pure ((["self", f, g] : List Str).zip us))
    (top : (P.main.scope.names.lookup ("super" : Str)).isSome = false) (sup : mg "super" = none)
    (l1 : K.lookup D = some (excClassObj nmC qC D N bs bm true sn sub ab col dd k0 k1 k2 k3 k5 "ValueError.__new__")) (l2 : PySem.HandSPX.refsVE bm = true) (l3 : PySem.W.findIn K (.ref D) "__setattr__" = some (some (.builtin "object.__setattr__"))) (l4 : PySem.W.subIn K (.ref D) (.type "BaseException") = some true)
    (l5 : PySem.W.typeIn K (.ref D) = some (.type "type")) (l6 : PySem.W.keepIn K (.ref D) = true) (l7 : PySem.W.findIn K (.ref D) "__init__" = some (some (.ref fI))) (l8 : PySem.W.typeIn K (.ref fI) = some (.type "function"))
    (l9 : K.lookup fI = some ⟨oc, od, .func (PySem.W.ksFn "__init__" qual params body scope .none kV doc pm an (.ref cda) ct cc), osl⟩) (m1 : PySem.W.codeIn K (.ref cda) qual = true) (m2 : K.lookup cda = some ⟨ccl, cdd, .fields vs, ccs⟩) (m3 : vs[2]? = some (.str file tf)) (m4 : ((P.main.file : Str) == file) = true)
    (m5 : K.lookup cc = some ⟨cl, cld, .cell (some (.ref D)), csl⟩) (m6 : PySem.W.clsIn K D = some cdD) (m7 : PySem.W.mroIn K D (.ref D) = some true) (m8 : PySem.W.ks_superIn K D D "__init__" = some (some (.builtin "ValueError.__init__"))) (m9 : PySem.W.subIn K (.ref D) (.type "ValueError") = some true)
    (n1 : PySem.W.nsIn K cStatics "thirdparty.any" = some none) (n2 : PySem.W.findIn K (.ref D) f = some none) (n3 : PySem.W.findIn K (.ref D) g = some none) : RaiseM P K mg D [f, g] := by
  have T : OexC K D := ⟨⟨nmC, qC, N, bs, bm, sn, sub, ab, col, dd, k0, k1, k2, k3, k5, l1, l2⟩, l3, l4, l5, l6⟩
  refine ⟨T, fI, _, ["self", f, g], l7, l8, fun w base => ini2 (cda := cda) (cc := cc) ⟨⟨oc, .none, kV, doc, pm, ct, an, od, osl, rfl, l9⟩, m1, ⟨ccl, cdd, vs, ccs, file, tf, m2, m3, m4⟩, ⟨cl, cld, csl, m5⟩, ⟨cdD, m6⟩, m7, m8, m9, n1, sup, top⟩ hbody (nscope_by S) har hn hss T n2 n3 hd hc hd2 hc2 hev, Binds.all fun us hl => hbind _ _ _ _ _ _ _ us hl⟩
end
/-- raise, by the packed facts -/
theorem vs_raiseM {X : Cx} {gp : Gp} {D : Addr} {x : Str} {ns : List Str} {e : Expr} {es : List Expr} {fa : FA} {p pos pos2 : Pos} (R : RaiseM X.prog X.K X.mg D ns) (hc : X.calm = true) (hr : Room 2 X.A) (hg : Gl X x) (hm : X.mg x = some (.ref D)) (ha : VA gp X (e :: es) fa) (hl : ns.length ≤ 1000)
    (hdb : (x == ("__debug__" : Str)) = false := by decide) (he : starEach (e :: es) X.env = (false, eval e X.env) :: starEach es X.env := by rfl) (hpl : (backTo pos (starEach es X.env)).any (·.1) = false := by rfl) :
    VS gp X (.Raise (some (.Call (.Name x p) (e :: es) [] pos)) none pos2) (sRaise x ns fa) := by
  obtain ⟨fI, fd, ps, h1, h2, h3, h4⟩ := R.ex
  exact vs_raise hc R.T h1 h2 (h3 _ _) hr h4 hg hm ha hl hdb he hpl
end VL

/-! VxQ: the law's head where tables of code objects are told. -/
namespace VL
open PySem PySem.Spec PyProof.Rows L2 LamX
section
variable {P : Program} {w : World} {K : Fg} {mg : Mg} {mb : Str → Option Value} {k : Nat} {fa a : Addr} {fd : FuncData} {x : Str} {sp : SpV} {s : Shared} {vs : List Value} {ns : List Int} {cs : List (Addr × Addr × Str)}
/-- the tables, each with the name of the code objects that it will tell -/
def tabsOf (cs : List (Addr × Addr × Str)) : List NdefX.NTab := cs.map fun p => (p.2.1, fun _ _ => p.2.2)
theorem law_tabs (KX : K.In s.heap) (gl : s.heap.Ns mainGlobals mg) (bl : s.heap.Ns builtinsNs mb) (bb : ∀ x : Str, x ≠ "__name__" → mb x = bootBuiltins x) (lim : s.heap.NoLimit) (gn : s.gens = #[]) (room : Room k callerA)
    (tE : ∀ p ∈ cs, s.heap.get? p.2.1 = some { cls := .none, data := .fields #[] }) (tK : ∀ p ∈ cs, K.lookup p.2.1 = none) (tC : ∀ p ∈ cs, PySem.W.CodeHd s.heap p.1 p.2.1)
    (bmn : ∃ (bm : Addr) (ob : Obj), mg "__builtins__" = some (.ref bm) ∧ bm ≠ builtinsNs ∧ s.heap.get? bm = some ob ∧ ob.cls = .type "module" ∧ ob.dict = some builtinsNs ∧ ob.data = .plain)
    (F : ∀ base : Heap, K.In base → base.Ns mainGlobals mg → (∀ p ∈ cs, TabB base mg p.1 p.2.1) → FnV P w K mg base (tabsOf cs) k fa fd [x] [] sp) (bind : ∀ (s : Shared) (u : Value), BindsTo s fd ⟨[u], []⟩ [(x, u)]) (h : LawV sp ns)
    (H F0 : Hp) (sub : Le F0 H) (nt : ∀ b u, F0 b = some u → NTb u) (whole : ∀ b u, H b = some u → (∃ o xs, u = .frz o (.lst xs)) ∨ (u = .tbl #[] ∧ ∃ p ∈ cs, p.2.1 = b)) (tabs : ∀ p ∈ cs, H p.2.1 = some (.tbl #[])) (dt : Dt K F0 (.ref a) (.list (ns.map .int))) (hok : HOk P w H s.heap)
    (off : ∀ b o, s.heap.get? b = some o → H b ≠ none → ((∀ es ep, o.data ≠ .dict es ep) ∧ (∀ us, o.data = .fields us → us = #[]) ∧ o.data ≠ .plain) ∧ K.lookup b = none) :
    codeAny (model P w) callerA (.call (.ref fa) ⟨[.ref a], []⟩) (fun r s' => r = .ok (.ret (.bool true)) ∧ OldK s.heap s'.heap ∧ s'.os = s.os ∧ AllBare s'.gens) s := by
  have free : ∀ {b : Addr} {o : Obj}, s.heap.get? b = some o → ((∃ es ep, o.data = .dict es ep) ∨ (∃ us, o.data = .fields us ∧ us ≠ #[]) ∨ o.data = .plain) → H b = none := fun {b o} e d => by
    cases q : H b with
    | none => rfl
    | some u =>
      obtain ⟨⟨n1, n2, n3⟩, _⟩ := off b o e (by rw [q]; exact fun z => by cases z)
      rcases d with ⟨es, ep, d⟩ | ⟨us, d, n⟩ | d
      · exact absurd d (n1 es ep)
      · exact absurd (n2 us d) n
      · exact absurd d n3
  have keepD : ∀ {b : Addr} {m : Str → Option Value}, s.heap.Ns b m → (hidT s.heap H).Ns b m := fun {b m} ⟨o, es, ep, e, d, r⟩ => ⟨o, es, ep, hidT_get e (free e (.inl ⟨es, ep, d⟩)), d, r⟩
  have KB : K.In (hidT s.heap H) := fun b o e => by
    refine hidT_get (KX b o e) ?_
    cases q : H b with
    | none => rfl
    | some u =>
      have := (off b o (KX b o e) (by rw [q]; exact fun z => by cases z)).2
      rw [this] at e; cases e
  have TB : ∀ p ∈ cs, TabB (hidT s.heap H) mg p.1 p.2.1 := fun p hp => by
    refine ⟨?_, ?_, fun z => ?_⟩
    · obtain ⟨o, us, file, tf, flags, tg, inF, text, tt, e1, r1, r2, r3, r4⟩ := tC p hp
      refine ⟨o, us, file, tf, flags, tg, inF, text, tt, hidT_get e1 (free e1 (.inr (.inl ⟨us, r2, fun z => ?_⟩))), r1, r2, r3, r4⟩
      rw [z] at r3
      simp at r3
    · obtain ⟨bm, ob, b1, b2, b3, b4, b5, b6⟩ := bmn
      refine ⟨bm, ob, b1, b2, fun q => ?_, fun q => ?_, hidT_get b3 (free b3 (.inr (.inr b6))), b4, b5, b6⟩
      · obtain ⟨o, es, ep, e, hd, _⟩ := gl
        rw [q, e] at b3
        cases b3
        rw [hd] at b6
        cases b6
      · rw [q, tE p hp] at b3
        cases b3
        cases b6
    · obtain ⟨o, es, ep, e, hd, _⟩ := gl
      rw [z, tE p hp] at e
      cases e
      cases hd
  have md : Mod K mg (hidT s.heap H) := ⟨KB, keepD gl, ⟨mb, keepD bl, bb⟩, let ⟨mc, n1, n2⟩ := lim; ⟨mc, keepD n1, n2⟩⟩
  have e0 : Env0 P w K mg (hidT s.heap H) callerA [] s H := ⟨rfl, md, fun b o e => of_hidT e, Nat.le_of_eq (hidT_size _ _), trivial, fun b z => (nomatch z), hok, .of_eq gn⟩
  have ai : ArgIn K mg F0 H [] [V.ref a] [M.fz (.list (ns.map .int))] := by
    refine ⟨rfl, fun i m e => ?_, (fun i z => nomatch z), (fun i j b z => nomatch z)⟩
    cases i with
    | zero => cases e; exact ⟨_, rfl, dt, fun z => by cases z⟩
    | succ i => simp at e
  have tn : NdefX.TabsN (tabsOf cs) H := fun p hp => by
    obtain ⟨c, hc, rfl⟩ := List.mem_map.mp hp
    exact NdefX.TabN.nil (tabs c hc)
  refine codeAny_mono ((F _ KB (keepD gl) TB).run callerA [] s H F0 ⟨[.ref a], []⟩ [.ref a] [.ref a] _ _ _ room rfl e0 (bind s (.ref a)) (.cons rfl .nil) sub ai tn nt h) fun r s' q => ?_
  cases r with
  | error e =>
    obtain ⟨_, _, _, _, _, _, _, _, _, _, _, _, ex, F', bms, _, _, z⟩ := q
    exact z.elim
  | ok fl =>
    cases fl with
    | next => exact False.elim q
    | brk => exact False.elim q
    | cont => exact False.elim q
    | ret u =>
      obtain ⟨v, H', os, bare, un, hok', rv, F', m, bms, _, rm, _, em⟩ := q
      have em : m = .fz (.bool true) := em
      subst em
      have rm : Dt K F' v (.bool true) := rm
      cases bool_of rm
      obtain rfl : u = Value.bool true := rv
      have grown : ∀ p ∈ cs, ∃ more : Array Value, s'.heap.get? p.2.1 = some { cls := .none, data := .fields more } := fun p hp => by
        obtain ⟨more, z⟩ := un.tbls p.2.1 #[] (tabs p hp)
        exact ⟨_, hok' p.2.1 _ z⟩
      have same : ∀ b o, s.heap.get? b = some o → (¬ ∃ p ∈ cs, p.2.1 = b) → s'.heap.get? b = some o := fun b o e nb => by
        cases q : H b with
        | none => exact un.keep b o e q (fun z => nomatch z) (fun z => nomatch z)
        | some y =>
          rcases whole b y q with ⟨ob, xs, rfl⟩ | ⟨_, z⟩
          · obtain ⟨e1, _⟩ := hok b _ q
            obtain ⟨e2, _⟩ := hok' b _ (un.frzs b ob _ q)
            rw [e] at e1
            cases e1
            exact e2
          · exact absurd z nb
      refine ⟨rfl, ⟨fun b o e => ?_, fun b o e => ?_⟩, os, bare⟩
      · by_cases hb : ∃ p ∈ cs, p.2.1 = b
        · obtain ⟨p, hp, rfl⟩ := hb
          obtain ⟨more, hm⟩ := grown p hp
          rw [tE p hp] at e
          cases e
          exact .inr (.inl ⟨((tC p hp).tab (tE p hp)).isCodeTable, rfl, #[], more, rfl, by rw [Array.empty_append]; exact hm⟩)
        · exact .inl (same b o e hb)
      · by_cases hb : ∃ p ∈ cs, p.2.1 = b
        · obtain ⟨p, hp, rfl⟩ := hb
          obtain ⟨more, hm⟩ := grown p hp
          exact ⟨_, hm⟩
        · exact ⟨o, same b o e hb⟩
theorem law_runsT (KX : K.In s.heap) (gl : s.heap.Ns mainGlobals mg) (bl : s.heap.Ns builtinsNs mb) (bb : ∀ x : Str, x ≠ "__name__" → mb x = bootBuiltins x) (lim : s.heap.NoLimit) (gn : s.gens = #[]) (room : Room k callerA)
    (tE : ∀ p ∈ cs, s.heap.get? p.2.1 = some { cls := .none, data := .fields #[] }) (tK : ∀ p ∈ cs, K.lookup p.2.1 = none) (tC : ∀ p ∈ cs, PySem.W.CodeHd s.heap p.1 p.2.1)
    (bmn : ∃ (bm : Addr) (ob : Obj), mg "__builtins__" = some (.ref bm) ∧ bm ≠ builtinsNs ∧ s.heap.get? bm = some ob ∧ ob.cls = .type "module" ∧ ob.dict = some builtinsNs ∧ ob.data = .plain)
    (ha : s.heap.get? a = some { cls := .type "list", data := .seq vs.toArray }) (iar : PyProof.Rows.IntsAre vs ns) (len : ns.length ≤ sizeLine)
    (F : ∀ base : Heap, K.In base → base.Ns mainGlobals mg → (∀ p ∈ cs, TabB base mg p.1 p.2.1) → FnV P w K mg base (tabsOf cs) k fa fd [x] [] sp) (bind : ∀ (s : Shared) (u : Value), BindsTo s fd ⟨[u], []⟩ [(x, u)]) (h : LawV sp ns) :
    codeAny (model P w) callerA (.call (.ref fa) ⟨[.ref a], []⟩) (fun r s' => r = .ok (.ret (.bool true)) ∧ OldK s.heap s'.heap ∧ s'.os = s.os ∧ AllBare s'.gens) s := by
  have rv : Vals (ns.map V.int) vs := vals_ints iar
  have lv := iar.length
  have aN : ¬ ∃ p ∈ cs, p.2.1 = a := fun ⟨p, hp, e⟩ => by
    have := tE p hp
    rw [e, ha] at this
    have z : Data.seq vs.toArray _ = Data.fields #[] := congrArg Obj.data (Option.some.inj this)
    cases z
  have noff : ∀ b, (∃ p ∈ cs, p.2.1 = b) → ∀ o, s.heap.get? b = some o → ((∀ es ep, o.data ≠ .dict es ep) ∧ (∀ us, o.data = .fields us → us = #[]) ∧ o.data ≠ .plain) ∧ K.lookup b = none := fun b ⟨p, hp, e⟩ o ho => by
    subst e
    rw [tE p hp] at ho
    cases ho
    exact ⟨⟨(fun _ _ z => by cases z), (fun us z => by cases z; rfl), (fun z => by cases z)⟩, tK p hp⟩
  open Classical in
  cases hk : K.lookup a with
  | some o =>
    have e := KX a o hk
    rw [ha] at e
    cases e
    refine law_tabs KX gl bl bb lim gn room tE tK tC bmn F bind h (fun b => if ∃ p ∈ cs, p.2.1 = b then some (.tbl #[]) else none) (fun _ => none) (fun b u z => by cases z) (fun b u z => by cases z) (fun b u z => ?_) (fun p hp => if_pos ⟨p, hp, rfl⟩) (.lst (.inr ⟨vs, _, hk, by rw [lv]; exact len, rv⟩) (DtAll.ints ns)) (fun b u z => ?_) fun b o e z => ?_
    · try dsimp only at z
      by_cases hb : ∃ p ∈ cs, p.2.1 = b
      · rw [if_pos hb] at z; cases z; exact .inr ⟨rfl, hb⟩
      · rw [if_neg hb] at z; cases z
    · try dsimp only at z
      by_cases hb : ∃ p ∈ cs, p.2.1 = b
      · rw [if_pos hb] at z
        cases z
        obtain ⟨p, hp, rfl⟩ := hb
        exact tE p hp
      · rw [if_neg hb] at z; cases z
    · by_cases hb : ∃ p ∈ cs, p.2.1 = b
      · exact noff b hb o e
      · exact absurd (if_neg hb) z
  | none =>
    have f0 : ∀ {b u}, (if b = a then some (HO.frz { cls := .type "list", data := .seq vs.toArray } (.lst (ns.map V.int))) else none) = some u → b = a ∧ u = .frz { cls := .type "list", data := .seq vs.toArray } (.lst (ns.map V.int)) := fun {b u} z => by
      by_cases hb : b = a
      · rw [if_pos hb] at z; cases z; exact ⟨hb, rfl⟩
      · rw [if_neg hb] at z; cases z
    refine law_tabs KX gl bl bb lim gn room tE tK tC bmn F bind h (fun b => if b = a then some (.frz { cls := .type "list", data := .seq vs.toArray } (.lst (ns.map V.int))) else if ∃ p ∈ cs, p.2.1 = b then some (.tbl #[]) else none)
      (fun b => if b = a then some (.frz { cls := .type "list", data := .seq vs.toArray } (.lst (ns.map V.int))) else none) (fun b u z => ?_) (fun b u z ps y => ?_) (fun b u z => ?_) (fun p hp => ?_) (.lst (.inl (.inr ⟨_, if_pos rfl⟩)) (DtAll.ints ns)) (fun b u z => ?_) fun b o e z => ?_
    · obtain ⟨rfl, rfl⟩ := f0 z
      exact if_pos rfl
    · obtain ⟨_, rfl⟩ := f0 z
      cases y
    · try dsimp only at z
      by_cases hb : b = a
      · rw [if_pos hb] at z; cases z; exact .inl ⟨_, _, rfl⟩
      · rw [if_neg hb] at z
        by_cases hc : ∃ p ∈ cs, p.2.1 = b
        · rw [if_pos hc] at z; cases z; exact .inr ⟨rfl, hc⟩
        · rw [if_neg hc] at z; cases z
    · have hb : ¬ p.2.1 = a := fun e => aN ⟨p, hp, e⟩
      exact (if_neg hb).trans (if_pos ⟨p, hp, rfl⟩)
    · try dsimp only at z
      by_cases hb : b = a
      · rw [if_pos hb] at z
        cases z
        subst hb
        exact ⟨ha, by rw [List.length_map]; exact len, vs, _, rv, ha⟩
      · rw [if_neg hb] at z
        by_cases hc : ∃ p ∈ cs, p.2.1 = b
        · rw [if_pos hc] at z
          cases z
          obtain ⟨p, hp, rfl⟩ := hc
          exact tE p hp
        · rw [if_neg hc] at z; cases z
    · by_cases hb : b = a
      · subst hb
        rw [ha] at e
        cases e
        exact ⟨⟨(fun es ep q => by cases q), (fun us q => by cases q), (fun q => by cases q)⟩, hk⟩
      · by_cases hc : ∃ p ∈ cs, p.2.1 = b
        · exact noff b hc o e
        · exact absurd ((if_neg hb).trans (if_neg hc)) z
end
/-- the goal that k_head leaves, tables told: cs, each maker's code object, table, and the name of what it makes -/
theorem walk_valT {l : PySem.W.OpenLaw} {n k : Nat} {q : Program} {loose : List Str} {XP : (Str → Option Value) → Heap → Prop} {YP : World → Heap → Prop} {d : DefRec} {K : Params → PySem.W.Frag} {sp : SpV} {x : Str}
    (hn : l.most = some n) (hz : n ≤ sizeLine) (hdf : d.params.defaults = []) (room : Room k callerA) (hY : ∀ (w : World) (h : Heap), YP w h → (K w.params).In h)
    (F : ∀ (w : World) (mg : Str → Option Value) (fa : Addr) (h : Heap), (K w.params).In h → h.Ns mainGlobals mg → mg d.name = some (.ref fa) → ∃ (fd : FuncData) (cs : List (Addr × Addr × Str)),
      (∀ p ∈ cs, ∃ (y : Str) (r : DefRec), (recsOf q).find? (fun e => e.name == y) = some r ∧ PySem.W.tabIn (K w.params) y = some (p.1, p.2.1) ∧ (K w.params).lookup p.2.1 = none) ∧ (∀ (s : Shared) (u : Value), BindsTo s fd ⟨[u], []⟩ [(x, u)]) ∧
      ∀ base : Heap, (K w.params).In base → base.Ns mainGlobals mg → (∀ p ∈ cs, TabB base mg p.1 p.2.1) → FnV l.prog w (K w.params) mg base (tabsOf cs) k fa fd [x] [] sp)
    (law : ∀ ns : List Int, ns.length ≤ n → LawV sp ns) : PySem.W.WalkO q loose XP YP l.row.toRowW d [] (fun f vs => PySem.call f vs) := by
  refine Att.attach_call hn hdf fun w s0 s1 mg mb fa o pm cd doc a vs ns Gr Y ho hd hcd hmg hobj iar len hg => ?_
  obtain ⟨fd, cs, hcs, hb, hF⟩ := F w mg fa _ (hY w _ Y) Gr.T.g hmg
  have tb : ∀ p ∈ cs, PySem.W.CodeHd s1.heap p.1 p.2.1 ∧ s1.heap.get? p.2.1 = some (PySem.W.tabObj #[]) := fun p hp => by
    obtain ⟨y, r, h1, h2, _⟩ := hcs p hp
    exact PySem.W.tab_of Gr.T (hY w _ Y) h1 h2
  exact law_runsT (hY w _ Y) Gr.T.g Gr.T.b Gr.T.builtins Gr.T.nolimit hg room (fun p hp => (tb p hp).2) (fun p hp => let ⟨_, _, _, _, h3⟩ := hcs p hp; h3) (fun p hp => (tb p hp).1) Gr.T.bmain hobj iar (Nat.le_trans len hz) hF hb (law ns len)
end VL

/-! VxS: sets of whole numbers and texts that were just made: adding, walking, len, sorted. -/
namespace VL
open PySem PySem.Spec PyProof.Rows L2

/-- the key that a value is -/
def kfV : Value → Key
  | .int i _ => .inl i
  | .str x _ => .inr x
  | _ => .inl 0
theorem kfV_is {k : Key} {v : Value} (h : keyIs k v = true) : kfV v = k := by
  rcases keyIs_shape h with ⟨i, t, rfl, rfl⟩ | ⟨x, t, rfl, rfl⟩ <;> rfl
def kfE (e : Int × Value) : Key := kfV e.2
abbrev Es := Array (Int × Value)
/-- entries of keys ks; their table rises and is led -/
structure EntM (P : Program) (w : World) (es : Es) (t : SetTable) (ks : List Key) : Prop where
  el : ElemsOf (mixKind P w) es.toList
  pm : (es.toList.map kfE).Perm ks
  nd : ks.Nodup
  few : es.size < scanBound
  fit : t.fits es.size = true
  ris : Ris t.place.toList
  led : w.params.followText "set-order" = true ∨ t.led = true
/-- the set at a holds just the keys ks -/
def SetM (P : Program) (w : World) (h : Heap) (a : Addr) (ks : List Key) : Prop := ∃ o es ep t, h.get? a = some o ∧ o.ExactSet ∧ o.data = .set es ep t ∧ EntM P w es t ks
/-- what a new set is -/
def setO0 (w : World) : Obj := { cls := .type "set", dict := none, data := .set #[] 0 (.fresh 0 0 (!w.params.followText "set-order")) }
section
variable {P : Program} {w : World} {A : Around} {E : Value → Shared → Prop} {s : Shared} {a : Addr} {ks : List Key} {k : Key} {v : Value} {es : Es} {t : SetTable}
theorem EntM.len (m : EntM P w es t ks) : es.size = ks.length := by rw [← m.pm.length_eq, List.length_map, Array.length_toList]
theorem SetM.at {h h' : Heap} (R : SetM P w h a ks) (c : ∀ o, h.get? a = some o → h'.get? a = some o) : SetM P w h' a ks :=
  let ⟨o, es, ep, t, ho, r⟩ := R; ⟨o, es, ep, t, c o ho, r⟩
theorem SetM.ob {h : Heap} (R : SetM P w h a ks) : ∃ o, h.get? a = some o := let ⟨o, _, _, _, ho, _⟩ := R; ⟨o, ho⟩
theorem SetM.new {h : Heap} (ho : h.get? a = some (setO0 w)) : SetM P w h a [] :=
  ⟨_, #[], 0, _, ho, ⟨rfl, rfl, rfl⟩, rfl, (fun e he => nomatch he), List.Perm.refl _, List.nodup_nil, by decide, by rfl, List.Pairwise.nil, by
    show _ ∨ (!w.params.followText "set-order") = true
    rcases Bool.eq_false_or_eq_true (w.params.followText "set-order") with z | z
    · exact .inl z
    · exact .inr (by rw [z]; rfl)⟩
theorem is_kfE {e : Int × Value} (h : (mixKind P w).is k e.2 = true) : kfE e = k := kfV_is h
theorem EntM.mem (m : EntM P w es t ks) : k ∈ ks ↔ ∃ e ∈ es.toList, (mixKind P w).is k e.2 = true := by
  rw [← m.pm.mem_iff, List.mem_map]
  refine ⟨fun ⟨e, he, q⟩ => ⟨e, he, ?_⟩, fun ⟨e, he, q⟩ => ⟨e, he, is_kfE q⟩⟩
  obtain ⟨⟨k', h1, _⟩, _⟩ := m.el e he
  rw [← q, is_kfE h1]
  exact h1
/-- a new entry -/
theorem EntM.push {es1 : Es} {t1 : SetTable} (m : EntM P w es t ks) (hk : (mixKind P w).is k v = true) (hs : v.scannable = true) (hn : k ∉ ks) (room : ks.length + 1 < scanBound)
    (pm : es1.toList.Perm (es.push ((mixKind P w).hash k, v)).toList) (hf : t1.fits es1.size = true) (hr : Ris t1.place.toList) (hl : t1.led = t.led) : EntM P w es1 t1 (k :: ks) := by
  rw [Array.toList_push] at pm
  refine ⟨(m.el.push hk hs).perm pm, ?_, List.nodup_cons.mpr ⟨hn, m.nd⟩, ?_, hf, hr, m.led.imp id fun z => hl.trans z⟩
  · refine (pm.map kfE).trans ?_
    rw [List.map_append]
    have e : kfE ((mixKind P w).hash k, v) = k := kfV_is hk
    show (es.toList.map kfE ++ [kfE ((mixKind P w).hash k, v)]).Perm (k :: ks)
    rw [e]
    exact (List.perm_append_singleton _ _).trans (m.pm.cons k)
  · have := pm.length_eq
    rw [Array.length_toList, List.length_append, Array.length_toList, m.len] at this
    simp only [List.length_cons, List.length_nil] at this
    omega
/-- the table laid anew -/
theorem EntM.anew {es2 : Es} {t2 : SetTable} (m : EntM P w es t ks) (pm : es2.toList.Perm es.toList) (hf : t2.fits es2.size = true) (hr : Ris t2.place.toList) (hl : t2.led = t.led) : EntM P w es2 t2 ks :=
  ⟨m.el.perm pm, (pm.map kfE).trans m.pm, m.nd, by rw [← Array.length_toList, pm.length_eq, Array.length_toList]; exact m.few, hf, hr, m.led.imp id fun z => hl.trans z⟩
theorem EntM.plainOff (m : EntM P w es t ks) : EntM P w es { t with plain := false } ks := ⟨m.el, m.pm, m.nd, m.few, SetTable.fits_plain_off m.fit, m.ris, m.led⟩
open Classical in
/-- the keys behind an add -/
noncomputable def addK (k : Key) (ks : List Key) : List Key := if k ∈ ks then ks else k :: ks
theorem mem_addK {j : Key} : j ∈ addK k ks ↔ j = k ∨ j ∈ ks := by
  unfold addK
  split
  · exact ⟨.inr, fun z => z.elim (fun e => e ▸ (by assumption)) id⟩
  · exact List.mem_cons
theorem len_addK : (addK k ks).length ≤ ks.length + 1 := by
  unfold addK
  split
  · exact Nat.le_succ _
  · exact Nat.le_refl _
theorem gaveM (b : Bool) {s₁ : Shared} {Q' : Unit → Shared → Prop} (q : Q' () s₁) : wpAny (model P w) A (match b with | true => rule "set.scan.the-table-gave-way" | false => pure ()) Q' E s₁ := by
  cases b
  · exact wpAny_pure q
  · exact wpAny_rule q
/-- a payload is stored -/
theorem storeM {o : Obj} {ep : Nat} {es1 : Es} {t1 : SetTable} {Q : Unit → Shared → Prop} (ho : s.heap.get? a = some o) (hd : o.data = .set es ep t) (m : EntM P w es1 t1 ks)
    (h : ∀ h' o', Heap.SameBut a s.heap h' → h'.get? a = some o' → o' = { o with data := .set es1 (ep + 1) t1 } → Q () { s with heap := h' }) : wpAny (model P w) A (storeSet a es1 t1) Q E s := by
  refine wpAny_storeSet_of ho hd (h _ _ (Heap.SameBut.update s.heap a _) ?_ rfl) (fits_of_scanBound m.few)
  rw [← putSet_of es1 t1 hd]
  exact Heap.get?_update_self _ ho (by rw [putSet_of es1 t1 hd]; rfl)
theorem setM_tail {o : Obj} {ep : Nat} {es1 : Es} {t1 : SetTable} {wd : Bool} {R : Option Bool → Shared → Prop} (ho : s.heap.get? a = some o) (hx : o.ExactSet) (hd : o.data = .set es ep t) (m : EntM P w es1 t1 ks)
    {g : Bool → Sem Unit} (hg : ∀ (b : Bool) (s₁ : Shared) (Q' : Unit → Shared → Prop), Q' () s₁ → wpAny (model P w) A (g b) Q' E s₁)
    (hR : ∀ h', Heap.SameBut a s.heap h' → SetM P w h' a ks → R (some true) { s with heap := h' }) : wpAny (model P w) A (do
      storeSet a es1 t1
      if (!wd && t1.tooFull) = true then do
        g (relayAll t1 es1 (SetTable.grown es1.size)).2.2
        storeSet a (relayAll t1 es1 (SetTable.grown es1.size)).1 (relayAll t1 es1 (SetTable.grown es1.size)).2.1
        pure (some true)
      else pure (some true)) R E s := by
  refine wpAny_bind (storeM ho hd m fun h1 o1 sb1 ho1 e1 => ?_)
  subst e1
  by_cases c : (!wd && t1.tooFull) = true
  · rw [if_pos c]
    have m2 := m.anew (relayAll_perm t1 es1 (SetTable.grown es1.size)) (relayAll_fits t1 es1 _) (relayAll_ris t1 es1 _) (relayAll_led t1 es1 _)
    refine wpAny_bind (hg _ _ _ (wpAny_bind (storeM (s := { s with heap := h1 }) ho1 rfl m2 fun h2 o2 sb2 ho2 e2 => ?_)))
    subst e2
    exact wpAny_pure (hR _ (sb1.trans sb2) ⟨_, _, _, _, ho2, hx, rfl, m2⟩)
  · rw [if_neg c]
    exact wpAny_pure (hR _ sb1 ⟨_, _, _, _, ho1, hx, rfl, m⟩)
theorem setM_hashed {Q : Bool → Shared → Prop} (hk : (mixKind P w).is k v = true) (hs : v.scannable = true) (R : SetM P w s.heap a ks) (room : ks.length + 1 < scanBound)
    (hQ : ∀ b h', Heap.SameBut a s.heap h' → SetM P w h' a (addK k ks) → Q b { s with heap := h' }) : wpAny (model P w) A (setAddHashed a v ((mixKind P w).hash k)) Q E s := by
  obtain ⟨o, es, ep, t, ho, hx, hd, m⟩ := R
  unfold setAddHashed setAddHashedIn
  refine wpAny_holding (wpAny_bind (wpAny_setState_of ho hd m.fit ?_))
  dsimp only
  rw [byScan_of hs m.few m.el]
  simp only [↓reduceIte]
  unfold setAddByScan
  refine wpAny_bind (wpAny_bind (wpAny_rule (wpAny_bind (wpAny_setScan_of hk ho hd m.fit m.el ?_))))
  by_cases hm : k ∈ ks
  · obtain ⟨e, he, q⟩ := m.mem.mp hm
    cases hfi : List.findIdx? (fun e => (mixKind P w).is k e.2) es.toList with
    | none =>
      have c := List.findIdx?_eq_none_iff.mp hfi e he
      rw [q] at c
      cases c
    | some j =>
      refine wpAny_pure (wpAny_pure (hQ false s.heap (Heap.SameBut.refl a s.heap) ?_))
      unfold addK
      rw [if_pos hm]
      exact ⟨o, es, ep, t, ho, hx, hd, m⟩
  · have hfi : List.findIdx? (fun e => (mixKind P w).is k e.2) es.toList = none := List.findIdx?_eq_none_iff.mpr fun e he => Bool.eq_false_iff.mpr fun q => hm (m.mem.mpr ⟨e, he, q⟩)
    rw [hfi]
    dsimp only
    have m1 := m.push hk hs hm room (layNew_perm t es ((mixKind P w).hash k) v) (layNew_fits t es _ v) (layNew_ris t es _ v m.ris) (layNew_led t es _ v)
    have ea : addK k ks = k :: ks := by unfold addK; rw [if_neg hm]
    generalize layNew t es ((mixKind P w).hash k) v = Z at m1 ⊢
    obtain ⟨es1, t1, wd, gv⟩ := Z
    dsimp only at m1 ⊢
    have fin : ∀ h', Heap.SameBut a s.heap h' → SetM P w h' a (k :: ks) → Q true { s with heap := h' } := fun h' sb r => hQ true h' sb (by rw [ea]; exact r)
    refine wpAny_bind (gaveM _ ?_)
    by_cases cp : t1.plain = true
    · rw [if_pos cp]
      refine wpAny_bind ?_
      rw [hashByValue_scannable 8 hs]
      refine wpAny_pure ?_
      cases plainKind v
      · exact setM_tail ho hx hd m1.plainOff (fun b _ _ q => gaveM b q) fun h' sb r => wpAny_pure (fin h' sb r)
      · exact setM_tail ho hx hd m1 (fun b _ _ q => gaveM b q) fun h' sb r => wpAny_pure (fin h' sb r)
    · rw [if_neg cp]
      refine wpAny_bind (wpAny_pure ?_)
      exact setM_tail ho hx hd m1 (fun b _ _ q => gaveM b q) fun h' sb r => wpAny_pure (fin h' sb r)
end
end VL

set_option maxHeartbeats 4000000
/-! VxT: sorted and len of such a set; set(xs). -/
namespace VL
open PySem PySem.Spec PyProof.Rows L2
open PySem.W (alike dataLt dataLe AllAlike Sortable)

section
variable {X : Cx} {pins : List (Addr × Obj)} {τ σ : L2.St} {G : Gh} {F H : Hp} {env : Env} {s : Shared} {a : Addr} {ks : List Key} {Q : M → Prop}
/-- all of one kind -/
def OneKind (ks : List Key) : Prop := (∃ ns : List Int, ks = ns.map Sum.inl) ∨ ∃ xs : List Str, ks = xs.map Sum.inr
theorem OneKind.sort {ys : List Key} (h : OneKind ks) (p : ys.Perm ks) : AllAlike (ys.map kD) ∧ Sortable (ys.map kD) := by
  have key : ∀ k ∈ ys, k ∈ ks := fun k hk => p.mem_iff.mp hk
  rcases h with ⟨ns, rfl⟩ | ⟨xs, rfl⟩
  · have e : ∀ d ∈ ys.map kD, ∃ i : Int, d = .int i := fun d hd => by
      obtain ⟨k, hk, rfl⟩ := List.mem_map.mp hd
      obtain ⟨i, _, rfl⟩ := List.mem_map.mp (key k hk)
      exact ⟨i, rfl⟩
    refine ⟨fun d hd d' hd' => ?_, .inr fun d hd => ?_⟩
    · obtain ⟨i, rfl⟩ := e d hd; obtain ⟨j, rfl⟩ := e d' hd'; rfl
    · obtain ⟨i, rfl⟩ := e d hd; exact ⟨(fun z => nomatch z), (fun xs z => nomatch z)⟩
  · have e : ∀ d ∈ ys.map kD, ∃ x : Str, d = .str x := fun d hd => by
      obtain ⟨k, hk, rfl⟩ := List.mem_map.mp hd
      obtain ⟨i, _, rfl⟩ := List.mem_map.mp (key k hk)
      exact ⟨i, rfl⟩
    refine ⟨fun d hd d' hd' => ?_, .inr fun d hd => ?_⟩
    · obtain ⟨i, rfl⟩ := e d hd; obtain ⟨j, rfl⟩ := e d' hd'; rfl
    · obtain ⟨i, rfl⟩ := e d hd; exact ⟨(fun z => nomatch z), (fun xs z => nomatch z)⟩
theorem rel_kf {k : Key} {v : Value} (h : keyIs k v = true) : RelV (kV k) v := by
  rcases keyIs_shape h with ⟨i, t, rfl, rfl⟩ | ⟨x, t, rfl, rfl⟩
  · exact ⟨t, rfl⟩
  · exact ⟨t, rfl⟩
theorem reads_k {h : Heap} {k : Key} {v : Value} (r : RelV (kV k) v) : Reads h v (kD k) [] := by
  cases k with
  | inl i => obtain ⟨t, rfl⟩ := r; exact .int i t
  | inr x => obtain ⟨t, rfl⟩ := r; exact .str x t
theorem dt_k {k : Key} : Dt X.K F (kV k) (kD k) := by
  cases k with
  | inl i => exact .int i
  | inr x => exact .str x
theorem dts_k : ∀ ks : List Key, DtAll X.K F (ks.map kV) (ks.map kD)
  | [] => .nil
  | k :: ks => .cons dt_k (dts_k ks)
theorem eachK {P : Program} {w : World} {es : Es} {t : SetTable} (m : EntM P w es t ks) {vs : List Value} (p : vs.Perm (es.toList.map (·.2))) : PySem.W.EachIs (fun u (k : Key) => RelV (kV k) u) vs (vs.map kfV) := by
  have all : ∀ v ∈ vs, RelV (kV (kfV v)) v := fun v hv => by
    obtain ⟨e, he, rfl⟩ := List.mem_map.mp (p.mem_iff.mp hv)
    obtain ⟨⟨k, h1, _⟩, _⟩ := m.el e he
    have : kfV e.2 = k := kfV_is h1
    rw [this]
    exact rel_kf h1
  clear p
  induction vs with
  | nil => exact .nil
  | cons v vs ih => exact .cons (all v List.mem_cons_self) (ih fun u hu => all u (List.mem_cons_of_mem _ hu))
theorem vals_of_each : ∀ {us : List Value} {ys : List Key}, PySem.W.EachIs (fun u (k : Key) => RelV (kV k) u) us ys → Vals (ys.map kV) us
  | _, _, .nil => .nil
  | _, _, .cons h r => .cons h (vals_of_each r)
/-- sorted(the set at a) -/
theorem sorted_setM (hh : X.A.handled = none) (hu : X.A.units + 150 < cLine) (I : Inv X pins τ H s) (ok : EnvOk X.K X.mg G F H σ env) (R : SetM X.prog X.w s.heap a ks) (one : OneKind ks)
    (q : ∀ ys : List Key, ys.Perm ks → Q (.lst ((ys.map kD).mergeSort (dataLe false id)))) : wpAny (model X.prog X.w) X.A (call (.builtin "sorted") [.ref a]) (PostM X pins τ σ G F env Q) X.xe s := by
  obtain ⟨o, es, ep, t, ho, hx, hd, m⟩ := R
  have hlen := m.len
  have hfew := m.few
  have hs : sizeLine = 16777216 := sizeLine_eq
  have hb : scanBound = 4096 := rfl
  refine Calls.call_function_entry kind_sorted plain_sorted entry_sorted (args_sorted1 _) ?_
  unfold Builtin.«sorted»
  refine wpAny_bind (m := checkCount "sorted" 1 1 _) (wpAny_pure (wpAny_bind ?_))
  refine collect_set (A := X.A.in1) hh ⟨o, ho, hx.1, hd⟩ m.fit m.few m.ris m.led fun s1 vs k1 z1 g1 o1 pm => ?_
  have vl : vs.length = ks.length := by rw [pm.length_eq, List.length_map, Array.length_toList, hlen]
  have pk : (vs.map kfV).Perm ks := by
    have e0 : (es.toList.map (·.2)).map kfV = es.toList.map kfE := by rw [List.map_map]; rfl
    have := pm.map kfV
    rw [e0] at this
    exact this.trans m.pm
  have ea := eachK m pm
  refine wpAny_bind (wpAny_newList ?_ (by omega))
  have hL : (s1.heap.push (seqObj "list" vs.toArray 0)).get? s1.heap.objs.size = some (seqObj "list" vs.toArray 0) := Heap.get?_push_size _ rfl
  obtain ⟨al, so⟩ := one.sort pk
  refine wpAny_bind (wpAny_holding ?_)
  refine PySem.W.list_sort_data (s := { s1 with heap := s1.heap.push (seqObj "list" vs.toArray 0) }) (enc := kD) hL ea (ea.mono fun u k r => ⟨[], reads_k r, fun z => nomatch z⟩) al so (by rw [List.length_map]; omega) (fun b _ => ?_) fun out ol oe => ?_
  · have : X.A.in1.units = X.A.units + 1 := rfl
    have e : (kD b).depth ≤ 1 := by cases b <;> simp [kD, PyData.depth]
    omega
  · obtain ⟨c, hc⟩ := sortedHeap_at (vs := vs) (out := out.toArray) hL
    have old : ∀ b u, s1.heap.get? b = some u → (sortedHeap (s1.heap.push (seqObj "list" vs.toArray 0)) s1.heap.objs.size vs out.toArray).get? b = some u := fun b u e => by
      have lt := Heap.lt_size e
      rw [sortedHeap_old (Nat.ne_of_lt lt) (by rw [size_push']; exact Nat.lt_succ_of_lt lt)]
      exact Heap.get?_push_of_some _ e
    have I1 : Inv X pins τ H s1 := I.call' (ch := []) o1 (Un.kept k1) (I.hok.kept k1) (by rw [g1]; exact I.bare) fun _ z => nomatch z
    refine wpAny_pure ⟨_, rfl, ?_⟩
    have sp := PySem.W.sort_maps (r := dataLe false kD) (s := dataLe false (id : D → D)) kD (l := vs.map kfV) (fun a _ b _ => rfl)
    refine fin_lst (s := s1) (vs := ((vs.map kfV).mergeSort (dataLe false kD)).map kV) I1 ok old (Nat.le_refl _) (vals_of_each oe) ?_ hc (ds := ((vs.map kfV).map kD).mergeSort (dataLe false id)) ?_ (q _ pk)
    · rw [List.length_map, List.length_mergeSort, List.length_map]; omega
    · rw [← sp]; exact dts_k _
/-- len(the set at a) -/
theorem len_setM (I : Inv X pins τ H s) (ok : EnvOk X.K X.mg G F H σ env) (R : SetM X.prog X.w s.heap a ks) (q : Q (.fz (.int ks.length))) : wpAny (model X.prog X.w) X.A (call (.builtin "len") [.ref a]) (PostM X pins τ σ G F env Q) X.xe s := by
  obtain ⟨o, es, ep, t, ho, hx, hd, m⟩ := R
  have hb : scanBound = 4096 := rfl
  have hfew := m.few
  refine call_len_set ho hx hd m.fit (by omega) (fin_int (I.tok _) ok ?_)
  rw [m.len]
  exact q
end
section
variable {P : Program} {w : World} {A : Around} {E : Value → Shared → Prop} {s : Shared}
/-- set.update's loop -/
theorem setM_loop {I S : Addr} {fp wr : List Addr} {G : Array GenState → Array GenState → Prop} {n : Nat} {Pv : Nat → Value → Prop} {St : Nat → Shared → Prop} {R : Result → Shared → Prop} {ks : List Key}
    (W : WalksS P w A.in1 I fp wr G n Pv St) (hSf : S ∉ fp) (hn : n = ks.length) (few : ks.length + 1 < scanBound) (hv : ∀ i v, Pv i v → ∃ k, ks[i]? = some k ∧ keyIs k v = true ∧ v.scannable = true) :
    ∀ (m i : Nat) (s : Shared), n - i = m → i ≤ n → St i s → (∃ L, SetM P w s.heap S L ∧ L.length ≤ i ∧ ∀ j, j ∈ L ↔ j ∈ ks.take i) →
      (∀ s' L, Moved (S :: wr) G s s' → SetM P w s'.heap S L → (∀ j, j ∈ L ↔ j ∈ ks) → R (.ok (.ret .none)) s') → codeAny (model P w) A (.builtin "set.update.loop" ⟨[.ref S, .ref I], []⟩) R s := by
  have hSw : S ∉ wr := fun z => hSf (W.sub _ z)
  have sub : ∀ b ∈ wr, b ∈ S :: wr := fun b z => List.mem_cons_of_mem S z
  intro m
  induction m with
  | zero =>
    rintro i s em hi st ⟨L, hS, _, hL⟩ hR
    obtain rfl : i = n := by omega
    refine codeAny_builtin F.entry_set_update_loop ?_
    rw [Around.under_plainId F.plain_set_update_loop _]
    refine wpAny_bind (m := pyNext (.ref I)) (W.done s _ _ st fun s' hm => ?_)
    refine wpAny_pure (hR s' L (hm.mono sub) (hS.at fun o e => hm.heap S o hSw e) fun j => ?_)
    rw [hL j, hn, List.take_length]
  | succ m ih =>
    rintro i s em hi st ⟨L, hS, hl, hL⟩ hR
    have lt : i < n := by omega
    refine codeAny_builtin F.entry_set_update_loop ?_
    rw [Around.under_plainId F.plain_set_update_loop _]
    refine wpAny_bind (m := pyNext (.ref I)) (W.item i s _ _ lt st fun v s' hp st' hm => ?_)
    obtain ⟨k, hk, ek, sk⟩ := hv i v hp
    show wpAny _ A.in1 (holding [v] (setAdd S v) >>= _) _ _ s'
    refine wpAny_bind (wpAny_holding ?_)
    unfold setAdd
    refine wpAny_holding (wpAny_bind ((mixKind P w).pyHash (k := k) ek ?_))
    refine setM_hashed (s := { s' with toks := s'.toks + 1 }) ek sk (hS.at fun o e => hm.heap S o hSw e) (by omega) fun b h' sb hS2 => ?_
    refine wpAny_pure ⟨plainId_quiet F.plain_set_update_loop _, ih (i + 1) _ (by omega) lt (W.frame _ s' _ _ st' (Nat.le_succ _) fun b hb o e => ?_) ⟨_, hS2, ?_, fun j => ?_⟩ fun s'' L' hm'' hS'' hL'' => ?_⟩
    · exact (sb.2 b fun z => hSf (z ▸ hb)).trans e
    · exact Nat.le_trans len_addK (Nat.succ_le_succ hl)
    · rw [mem_addK, hL j, List.take_add_one, hk, List.mem_append]
      exact ⟨fun z => z.elim (fun e => .inr (by rw [e]; exact List.mem_cons_self)) .inl, fun z => z.elim .inr fun e => .inl (List.mem_singleton.mp e)⟩
    · refine hR s'' L' (Moved.trans W.gtrans ((hm.mono sub).then_heap (Nat.le_succ _) fun b o hb e => ?_) hm'') hS'' hL''
      exact (sb.2 b fun z => hb (z ▸ List.mem_cons_self)).trans e

/-- set(xs), xs a list -/
theorem set_listM {l : Addr} {items : Array Value} {ks : List Key} {Q : Value → Shared → Prop} (hh : A.handled = none) (hl : s.heap.IsList l items) (hn : items.size = ks.length) (few : ks.length + 1 < scanBound)
    (hv : ∀ (i : Nat) (v : Value), items[i]? = some v → ∃ k, ks[i]? = some k ∧ keyIs k v = true ∧ v.scannable = true)
    (h : ∀ (h' : Heap) (tk : Nat) (L : List Key), SetM P w h' s.heap.objs.size L → (∀ j, j ∈ L ↔ j ∈ ks) → (∀ b o, s.heap.get? b = some o → h'.get? b = some o) → Q (.ref s.heap.objs.size) { s with heap := h', toks := tk }) :
    wpAny (model P w) A (call (.type "set") [.ref l]) Q E s := by
  have mro := F.called_set.mro
  obtain ⟨c, tl, mro⟩ := mro
  have hmade := F.called_set.made
  have hsub := F.called_set.sub
  have nt := F.called_set.notType
  have cc := F.called_set.canCreate
  have tc := F.typeCall_set_1 (.ref l)
  refine wpAny_call (codeAny_of_tree ?_)
  show wpAny (model P w) _ (callAny (Value.type "set") _) _ _ s
  refine wpAny_pure (And.intro (Code.quiet_builtin _ (by decide +kernel)) (codeAny_builtin F.entry_type_call ?_))
  rw [Around.under_plain (weight_type_call_type "set" [.ref l] []) rfl]
  repeat (any_goals (first | assumption | wp_step))
  refine codeAny_mono (code_set_led1 (.ref l) (E := E) (Q₁ := fun ob s₁ => ob = .ref s.heap.objs.size ∧ s₁ = { s with heap := s.heap.push (setO0 w) }) ⟨rfl, rfl⟩) fun r s₁ hr => ?_
  cases r with
  | error e => exact hr
  | ok fl => cases fl with
    | ret ob =>
      obtain ⟨rfl, rfl⟩ := hr
      have hS : (s.heap.push (setO0 w)).get? s.heap.objs.size = some (setO0 w) := Heap.get?_push_size _ rfl
      have hT : Shared.TypeIs { s with heap := s.heap.push (setO0 w) } (.ref s.heap.objs.size) "set" := ⟨_, hS, rfl⟩
      have li := F.called_set.init.lookup
      have bi := F.called_set.init.bind (.ref s.heap.objs.size)
      repeat (any_goals (first | assumption | wp_step))
      refine codeAny_mono (codeAny_call_builtin (R := wants (fun r s₂ => r = .none ∧ ∃ h' tk L, s₂ = { s with heap := h', toks := tk } ∧ SetM P w h' s.heap.objs.size L ∧ (∀ j, j ∈ L ↔ j ∈ ks) ∧
        ∀ b o, s.heap.get? b = some o → h'.get? b = some o) E) F.called_set.init.plain F.entry_set_init (check_set_init_1 hT ?_)) fun r₂ s₂ hr₂ => ?_
      · obtain ⟨⟨oc, od, oda, osl⟩, hol, hc, nl, hd⟩ := hl
        simp only at hc hd
        subst hc hd
        have hol' : (s.heap.push (setO0 w)).get? l = some { cls := .type "list", dict := od, data := .seq items nl, slots := osl } := Heap.get?_push_of_some _ hol
        have hsls := F.sub_list_set
        have hslf := F.sub_list_frozenset
        have hne : (Value.type "list" == Value.type "dict") = false := by decide
        have hl1 : (s.heap.push (setO0 w)).IsList l items := ⟨_, hol', rfl, nl, rfl⟩
        have lt := Heap.lt_size hol
        have sz : (s.heap.push (setO0 w)).objs.size = s.heap.objs.size + 1 := size_push' _ _
        unfold Builtin.«set.__init__» noKeywords Builtin.Frozenset.updateFrom
        generalize hPI : pyIter = PI
        wp_walk
        subst hPI
        refine wpAny_pyIter_list hl1 (wpAny_bind (wpAny_runValue ?_))
        have hh3 : A.in1.in1.in1.handled = none := by simp [hh]
        have nI : l ≠ (s.heap.push (setO0 w)).objs.size := by rw [sz]; exact Nat.ne_of_lt (Nat.lt_succ_of_lt lt)
        have nS : s.heap.objs.size ∉ [(s.heap.push (setO0 w)).objs.size, l] := by
          rw [sz]
          simp only [List.mem_cons, List.not_mem_nil, or_false, not_or]
          exact ⟨Nat.ne_of_lt (Nat.lt_succ_self _), Nat.ne_of_gt lt⟩
        refine setM_loop ((Walks.list hh3 _ l nI items).toS) nS hn few hv (items.size - 0) 0 _ (by omega) (Nat.zero_le _) ⟨⟨_, Heap.get?_push_size _ rfl, rfl, rfl⟩, hl1.push _⟩ ⟨[], SetM.new (Heap.get?_push_of_some _ hS), Nat.le_refl _, fun j => by simp⟩ ?_
        rintro ⟨h', g2, d', tk', os'⟩ L hm hS' hL
        obtain rfl : g2 = s.gens := hm.gens
        obtain rfl : d' = s.drawn := hm.drawn
        obtain rfl : os' = s.os := hm.os
        refine (show wpAny _ _ (pure _) _ _ _ from wpAny_pure (show wpAny _ _ (ret Value.none) _ _ _ from wpAny_pure ⟨rfl, h', tk', L, rfl, hS', hL, fun b o e => ?_⟩))
        have lb := Heap.lt_size e
        refine hm.heap b o ?_ (Heap.get?_push_of_some _ (Heap.get?_push_of_some _ e))
        rw [sz]
        simp only [List.mem_cons, List.not_mem_nil, or_false, not_or]
        exact ⟨Nat.ne_of_lt lb, Nat.ne_of_lt (Nat.lt_succ_of_lt lb)⟩
      · cases r₂ with
        | error e => exact hr₂
        | ok fl₂ => cases fl₂ with
          | ret r =>
            obtain ⟨rfl, h', tk, L, rfl, hS', hL, hk⟩ := hr₂
            repeat (any_goals (first | assumption | wp_step))
            exact h _ _ _ hS' hL hk
          | _ => exact hr₂.elim
    | _ => exact hr.elim
end
end VL

/-! VxV: sets as parts of expressions: set(xs), sorted(set), len(set). -/
namespace VL
open PySem PySem.Spec PyProof.Rows L2
open PySem.W (dataLe)

def SetHO (P : Program) (w : World) (a : Addr) (ks : List Key) : HO := .ext fun h => SetM P w h a ks
theorem setHO_new {P : Program} {w : World} {H : Hp} {h : Heap} {a : Addr} {ks : List Key} (R : SetM P w h a ks) : ObjOk P w H h a (SetHO P w a ks) := ⟨R, R.ob, fun h1 h2 p k => p.at k⟩
theorem setHO_get {X : Cx} {pins : List (Addr × Obj)} {σ : L2.St} {H : Hp} {s : Shared} {a : Addr} {ks : List Key} (I : Inv X pins σ H s) (e : H a = some (SetHO X.prog X.w a ks)) : SetM X.prog X.w s.heap a ks := (I.hok a _ e).1
abbrev FKS := Env → (List Key → Env → Prop) → KX → Prop
def liftKS (X : Cx) (G : Gh) (W : KX) (f : FKS) : TE := fun σ H Qh => ∃ F env Q, EnvOk X.K X.mg G F H σ env ∧ f env Q W ∧
  ∀ ks env' a F' H', EnvOk X.K X.mg G F' H' σ env' → Le F F' → H' a = some (SetHO X.prog X.w a ks) → Q ks env' → Qh (.ref a) H'
/-- e makes a set -/
def VKS (gp : Gp) (X : Cx) (e : Expr) (f : FKS) : Prop := ∀ G W, Tk gp X G W → PE X e (liftKS X G W f)
def gSetOf : List D → (List Key → Prop) → Prop
  | [.list xs], k => ∃ ks : List Key, xs = ks.map kD ∧ ks.length ≤ 4000 ∧ ∀ L : List Key, L.Nodup → (∀ j, j ∈ L ↔ j ∈ ks) → k L
  | _, _ => False
def fSetOf (fa : FA) : FKS := fun env Q W => fa env (fun as env1 => bindP (pkAs env1 as) fun ds => gSetOf ds fun ks => Q ks env1) W
def fSortS (fs : FKS) : FE := fun env Q W => fs env (fun ks env1 => OneKind ks ∧ ∀ ys : List Key, ys.Perm ks → Q (.val (.lst ((ys.map kD).mergeSort (dataLe false id)))) env1) W
def fLenS (fs : FKS) : FE := fun env Q W => fs env (fun ks env1 => Q (.val (.fz (.int ks.length))) env1) W
theorem key_at {K : Fg} {F : Hp} {k : Key} {v : V} {u : Value} (h : Dt K F v (kD k)) (r : RelV v u) : keyIs k u = true ∧ u.scannable = true := by
  cases k with
  | inl i => cases h; obtain ⟨t, rfl⟩ := r; exact ⟨keyIs_int i t, rfl⟩
  | inr x => cases h; obtain ⟨t, rfl⟩ := r; exact ⟨keyIs_str x t, rfl⟩
theorem keys_at {K : Fg} {F : Hp} : ∀ {ks : List Key} {vs : List V} {us : List Value}, DtAll K F vs (ks.map kD) → Vals vs us → us.length = ks.length ∧ ∀ (i : Nat) (v : Value), us[i]? = some v → ∃ k, ks[i]? = some k ∧ keyIs k v = true ∧ v.scannable = true
  | [], _, _, h, r => by cases h; cases r; exact ⟨rfl, fun i v e => by simp at e⟩
  | k :: ks, _, _, h, r => by
    cases h with
    | cons h ht => cases r with
      | cons r rt =>
        obtain ⟨l, a⟩ := keys_at ht rt
        refine ⟨congrArg (· + 1) l, fun i v e => ?_⟩
        cases i with
        | zero => cases e; exact ⟨k, rfl, key_at h r⟩
        | succ i => exact a i v e
section
variable {X : Cx} {x : Str} {p pos : Pos} {e : Expr} {fa : FA} {fs : FKS} {fe : FE}
/-- set(xs) -/
theorem cr_setM (hc : X.calm = true) {G : Gh} {σ' : L2.St} : CallR X (.type "set") (fun xs H Qh => ∃ F env ds Q, EnvOk X.K X.mg G F H σ' env ∧ PkAll X.K F H xs ds ∧ gSetOf ds Q ∧
    ∀ ks a H', EnvOk X.K X.mg G F H' σ' env → H' a = some (SetHO X.prog X.w a ks) → Q ks → Qh (.ref a) H') := by
  intro pins s τ H xs us Qh I r hw
  obtain ⟨F, env, ds, Q, ok, pk, hg, q⟩ := hw
  unfold gSetOf at hg
  split at hg
  · rename_i zs
    obtain ⟨ks, rfl, few, hg⟩ := hg
    obtain ⟨v, rfl, p1⟩ := pk.one
    obtain ⟨u, rfl, r1⟩ := vals1 r
    obtain ⟨a, vs, rfl, h1, h2⟩ := p1.list ok.sub
    cases r1
    obtain ⟨its, rv, pl, z1⟩ := I.list h1.sqL
    obtain ⟨l1, l2⟩ := keys_at h2 rv
    have hb : scanBound = 4096 := rfl
    refine set_listM (I.ok.hd hc) pl.isList (by rw [List.size_toArray]; exact l1) (by omega) (fun i v e => l2 i v (by simpa using e)) fun h' tk L R hL kp => ?_
    have hn : H s.heap.objs.size = none := I.hok.fresh (Nat.le_refl _)
    obtain ⟨o, es, ep, t, ho, hx, hd, m⟩ := id R
    exact ⟨.ref _, upd H s.heap.objs.size (SetHO X.prog X.w s.heap.objs.size L), I.laid (t' := tk) kp (Nat.le_refl _) (setHO_new R), rfl, q L _ _ (ok.newH hn) upd_same (hg L m.nd hL)⟩
  · exact hg.elim
theorem vks_set (hc : X.calm = true) (hg : Gl X "set") (hm : X.mg "set" = none) (ha : VA gp X [e] fa) (he : starEach [e] X.env = (false, eval e X.env) :: starEach [] X.env := by rfl) (hpl : (backTo pos (starEach [] X.env)).any (·.1) = false := by rfl) :
    VKS gp X (.Call (.Name "set" p) [e] [] pos) (fSetOf fa) := fun G W t => ⟨fun pins s σ H Qh I hw => by
  refine (pe_callTy (cr_setM hc (G := G) (σ' := σ)) hg hm boot_set (ha G W t) (by decide) (by decide) he hpl).run pins s σ H Qh I ?_
  obtain ⟨F, env, Q, ok, hf, q⟩ := hw
  refine ⟨F, env, _, ok, hf, fun as env1 vs F1 H1 ok1 l1 aa hq => ?_⟩
  obtain ⟨ds, e1, hq⟩ := bindP_of hq
  exact ⟨F1, env1, ds, _, ok1, aa.pk ok1 e1, hq, fun ks a H' ok' ha hq => q ks env1 a F1 H' ok' l1 ha hq⟩⟩
/-- sorted(e), e makes a set -/
theorem ve_sortS (hc : X.calm = true) (hu : X.A.units + 150 < cLine) (hg : Gl X "sorted") (hm : X.mg "sorted" = none) (hs : VKS gp X e fs) (he : starEach [e] X.env = (false, eval e X.env) :: starEach [] X.env := by rfl) (hpl : (backTo pos (starEach [] X.env)).any (·.1) = false := by rfl) :
    VE gp X (.Call (.Name "sorted" p) [e] [] pos) (fSortS fs) := fun G W t => ⟨fun pins s σ H Qh I hw => by
  obtain ⟨F, env, Q, ok, hf, q⟩ := hw
  have cr : CallR X (.builtin "sorted") (fun xs H Qh => ∃ F1 env1 a ks, Le F F1 ∧ xs = [.ref a] ∧ EnvOk X.K X.mg G F1 H σ env1 ∧ H a = some (SetHO X.prog X.w a ks) ∧ OneKind ks ∧
      (∀ ys : List Key, ys.Perm ks → Q (.val (.lst ((ys.map kD).mergeSort (dataLe false id)))) env1) ∧
      ∀ r v F' H', EnvOk X.K X.mg G F' H' σ env1 → Le F F' → RR X.K X.mg G F' H' σ env1 r v → Q r env1 → Qh v H') := by
    intro pins s τ H xs us Qh I r hw
    obtain ⟨F1, env1, a, ks, l1, rfl, ok1, ha, one, hq, q⟩ := hw
    obtain ⟨u, rfl, r1⟩ := vals1 r
    cases r1
    refine thn (sorted_setM (Q := fun m => Q (.val m) env1) (I.ok.hd hc) hu I ok1 (setHO_get I ha) one hq) fun z s' ⟨m, v, F', H', I', rv, ok', l, fr, hq⟩ => ⟨v, H', I', rv, q (.val m) v F' H' ok' (l1.trans l) fr hq⟩
  refine (pe_callB cr hg hm boot_sorted (pa_cons (hs G W t) pa_nil he) (by decide) (by decide) he hpl).run pins s σ H Qh I ?_
  refine ⟨F, env, _, ok, hf, fun ks env1 a F1 H1 ok1 l1 ha hq => ?_⟩
  exact ⟨F1, env1, a, ks, l1, rfl, ok1, ha, hq.1, hq.2, fun r v F' H' ok' l rr hq => q r env1 v F' H' ok' l rr hq⟩⟩
/-- len(e), e makes a set -/
theorem ve_lenS (hc : X.calm = true) (hg : Gl X "len") (hm : X.mg "len" = none) (hs : VKS gp X e fs) (he : starEach [e] X.env = (false, eval e X.env) :: starEach [] X.env := by rfl) (hpl : (backTo pos (starEach [] X.env)).any (·.1) = false := by rfl) :
    VE gp X (.Call (.Name "len" p) [e] [] pos) (fLenS fs) := fun G W t => ⟨fun pins s σ H Qh I hw => by
  obtain ⟨F, env, Q, ok, hf, q⟩ := hw
  have cr : CallR X (.builtin "len") (fun xs H Qh => ∃ F1 env1 a ks, Le F F1 ∧ xs = [.ref a] ∧ EnvOk X.K X.mg G F1 H σ env1 ∧ H a = some (SetHO X.prog X.w a ks) ∧ Q (.val (.fz (.int ks.length))) env1 ∧
      ∀ r v F' H', EnvOk X.K X.mg G F' H' σ env1 → Le F F' → RR X.K X.mg G F' H' σ env1 r v → Q r env1 → Qh v H') := by
    intro pins s τ H xs us Qh I r hw
    obtain ⟨F1, env1, a, ks, l1, rfl, ok1, ha, hq, q⟩ := hw
    obtain ⟨u, rfl, r1⟩ := vals1 r
    cases r1
    refine thn (len_setM (Q := fun m => Q (.val m) env1) I ok1 (setHO_get I ha) hq) fun z s' ⟨m, v, F', H', I', rv, ok', l, fr, hq⟩ => ⟨v, H', I', rv, q (.val m) v F' H' ok' (l1.trans l) fr hq⟩
  refine (pe_callB cr hg hm boot_len (pa_cons (hs G W t) pa_nil he) (by decide) (by decide) he hpl).run pins s σ H Qh I ?_
  refine ⟨F, env, _, ok, hf, fun ks env1 a F1 H1 ok1 l1 ha hq => ?_⟩
  exact ⟨F1, env1, a, ks, l1, rfl, ok1, ha, hq, fun r v F' H' ok' l rr hq => q r env1 v F' H' ok' l rr hq⟩⟩
end
end VL

/-! VxW: set comprehensions of whole numbers and texts. -/
namespace VL
open PySem PySem.Spec PyProof.Rows L2

theorem kScan {k : Key} {u : Value} (r : RelV (kV k) u) : u.scannable = true := by
  rcases k with i | x
  · obtain ⟨t, rfl⟩ := r; rfl
  · obtain ⟨t, rfl⟩ := r; rfl
/-- set.add of a key to a new set -/
theorem addM {X : Cx} {pins : List (Addr × Obj)} {σ : L2.St} {H : Hp} {s : Shared} {E : Value → Shared → Prop} {a : Addr} {ks : List Key} {k : Key} {u : Value} {Q : Value → Shared → Prop} (I : Inv X pins σ H s) (ha : H a = some (SetHO X.prog X.w a ks)) (r : RelV (kV k) u) (few : ks.length + 1 < scanBound)
    (h : ∀ s', Inv X pins σ (upd H a (SetHO X.prog X.w a (addK k ks))) s' → Q .none s') : wpAny (model X.prog X.w) X.A (call (.builtin "set.add") [.ref a, u]) Q E s := by
  have R := setHO_get I ha
  have hk : keyIs k u = true := kV_is (P := X.prog) (w := X.w) r
  have ty : s.TypeIs (.ref a) "set" := by obtain ⟨o, _, _, _, ho, hx, _⟩ := id R; exact ⟨o, ho, hx.1⟩
  refine wpAny_call_entry F.slot_set_add ty F.entry_set_add ?_ (F.args_set_add_2 _ _)
  unfold Builtin.«set.add» Builtin.Frozenset.oneOther Builtin.Frozenset.addrOf setAdd
  simp only [List.isEmpty_nil, bind_assoc]
  refine wpAny_bind (wpAny_pure ?_)
  refine wpAny_bind (wpAny_pure (wpAny_bind (wpAny_holding (wpAny_bind ((mixKind X.prog X.w).pyHash hk ?_)))))
  refine setM_hashed (s := { s with toks := s.toks + 1 }) hk (kScan r) R few fun b h' sb R' => ?_
  refine (show wpAny _ _ (ret Value.none) _ _ _ from wpAny_pure ⟨_, rfl, h _ ?_⟩)
  exact I.write (e := a) (t' := s.toks + 1) (by rw [ha]; trivial) (.inl rfl) (fun b u hb hu => (sb.2 b hb).trans hu) R'.ob (setHO_new R')

/-- {elt for target in iter if ..} at the machine's level; D the new set -/
def tSk (P : Program) (w : World) (wi : TI) (g : TG) (tt : TT) (te : TE) (vs : List Nat) : TE := fun σ H Q => wi σ H fun J H1 => ∀ D, H1 D = none → ∃ Wv : Nat → Nat → Hp → Prop, (∃ m, Wv 0 m (upd H1 D (SetHO P w D []))) ∧ ∀ i m H, Wv i m H →
  (J.stop i H ∧ Q (.ref D) H) ∨ (J.go i H ∧ ∃ Nx : Hp → Prop, (∀ H', Nx H' → ∃ m', m' < m ∧ Wv (i + 1) m' H') ∧ ∀ x H', J.yld i H x H' → g x (wipe σ vs) H' fun σ2 H2 => wipe σ2 vs = wipe σ vs ∧ tt σ2 H2 fun b H3 =>
    if b = true then te σ2 H3 fun y H4 => ∃ (k : Key) (ks : List Key), y = kV k ∧ H4 D = some (SetHO P w D ks) ∧ ks.length + 1 < scanBound ∧ Nx (upd H4 D (SetHO P w D (addK k ks))) else Nx H3)
section
variable {X : Cx} {elt tg iter : Expr} {ifs : List Expr} {scope : Scope} {own : List (Str × Nat)} {pos pos' : Pos} {wi : TI} {g : TG} {tt : TT} {te : TE}
theorem pe_sk (hc : X.calm = true) (hN : X.N.Nodup) (hi : PI X tg iter wi) (ok : BlkOk X.N X.env.scope scope own)
    (hg : ∀ (s : Shared) (H : Hp) (C : Addr) (cl : List (Str × Addr)) (fp : List Addr), PG (X.blk s H scope (compEnvC scope cl C X.env) fp) tg g)
    (ht : ∀ (s : Shared) (H : Hp) (C : Addr) (cl : List (Str × Addr)) (fp : List Addr), PTs (X.blk s H scope (compEnvC scope cl C X.env) fp) ifs tt)
    (he : ∀ (s : Shared) (H : Hp) (C : Addr) (cl : List (Str × Addr)) (fp : List Addr), PE (X.blk s H scope (compEnvC scope cl C X.env) fp) elt te)
    (hs : ∀ x, foldedSetIterable iter X.env x = pure x := by intro _; rfl) : PE X (.SetComp elt [⟨tg, iter, ifs, 0⟩] scope pos) (tSk X.prog X.w wi g tt te (own.map (·.2))) := ⟨fun pins s σ H Q I h => by
  rw [PpSet.eval_SetComp]
  have free : ∀ y ∈ scope.names, y.2 = .free → ∃ c, X.env.cells.lookup y.1 = some c := fun y hy e =>
    (ok.free y hy e).elim (fun k => I.ok.has _ (.inl k)) fun k => I.ok.has _ (.inr k)
  refine wpAny_comprehension_free (use := none) rfl hs (closure_ok free) ok.kind (fun y hy e => by rw [ok.uniq y hy, e]) (thn (hi.run pins s σ H _ I h) fun xv s1 hx => thn hx fun itv s2 h2 => ?_)
  obtain ⟨it, fp, tn, J, H2, rfl, I2, T, st2, f2, q⟩ := h2
  refine PpSet.newSet_ok (newEnv_comp ?_)
  obtain ⟨D, hD⟩ : ∃ D, D = s2.heap.objs.size := ⟨_, rfl⟩
  rw [← hD]
  have hDn : H2 D = none := I2.hok.fresh (Nat.le_of_eq hD.symm)
  obtain ⟨Wv, ⟨m0, w0⟩, turn⟩ := q D hDn
  obtain ⟨s3, hs3⟩ : ∃ s3 : Shared, s3 = { s2 with heap := s2.heap.push (setO0 X.w) } := ⟨_, rfl⟩
  have e3 : s3.heap = s2.heap.push (setO0 X.w) := by rw [hs3]
  obtain ⟨H3, hH3⟩ : ∃ H3, H3 = upd H2 D (SetHO X.prog X.w D []) := ⟨_, rfl⟩
  rw [← hH3] at w0
  have I3 : Inv X pins σ H3 s3 := by
    rw [hs3, hH3]
    refine I2.laid (t' := s2.toks) (fun b o e => Heap.get?_push_of_some _ e) (Nat.le_of_eq hD.symm) (setHO_new (SetM.new ?_))
    rw [hD]
    exact Heap.get?_push_size _ rfl
  have f3 : ∀ b ∈ fp, FpOk X pins H3 b ∧ b < s3.heap.objs.size := fun b hb => by
    obtain ⟨o, e, _⟩ := T.obj _ _ st2 b hb
    have lt := Heap.lt_size e
    refine ⟨⟨?_, (f2 b hb).2⟩, by rw [e3, Heap.size_push]; exact Nat.lt_succ_of_lt lt⟩
    rw [hH3, upd_ne (by rw [hD]; exact Nat.ne_of_lt lt)]
    exact (f2 b hb).1
  have I4 := block_start I3 ok hN f3
  have st4 : tn 0 { s3 with heap := pushCells (s3.heap.push { cls := .type "dict", data := .dict #[] }) scope.names }.heap :=
    T.keep _ _ _ (T.keep _ _ _ st2 fun b _ o e => by rw [e3]; exact Heap.get?_push_of_some _ e) fun b _ o e => pushCells_keeps _ _ _ _ (Heap.get?_push_of_some _ e)
  have pg := hg s3 H3 s3.heap.objs.size (cellsFrom (s3.heap.objs.size + 1) scope.names (cloFrom X.env.cells scope.names [])) fp
  have pt := ht s3 H3 s3.heap.objs.size (cellsFrom (s3.heap.objs.size + 1) scope.names (cloFrom X.env.cells scope.names [])) fp
  have pe := he s3 H3 s3.heap.objs.size (cellsFrom (s3.heap.objs.size + 1) scope.names (cloFrom X.env.cells scope.names [])) fp
  obtain ⟨ce, hce⟩ : ∃ ce, ce = compEnvC scope (cellsFrom (s3.heap.objs.size + 1) scope.names (cloFrom X.env.cells scope.names [])) s3.heap.objs.size X.env := ⟨_, rfl⟩
  obtain ⟨s4, hs4⟩ : ∃ s4 : Shared, s4 = { s3 with heap := pushCells (s3.heap.push { cls := .type "dict", data := .dict #[] }) scope.names } := ⟨_, rfl⟩
  rw [← hce] at I4 pg pt pe
  rw [← hs4] at I4 st4
  have cL : ce.locals = s3.heap.objs.size := by rw [hce]; rfl
  have goal : codeAny (model X.prog X.w) X.A (.compStart (.SetComp elt [⟨tg, iter, ifs, 0⟩] scope pos) 0 (.ref it) (.ref D) ce) (compPost (model X.prog X.w) X.A X.xe none (EP X pins σ Q) (.ref D) s3.heap.objs.size) s4 := by
    have nD : ∀ {σ' : L2.St} {H' : Hp} {s' : Shared}, Inv (X.blk s3 H3 scope ce fp) [] σ' H' s' → (∀ b ∈ fp, H' b = none) → ∀ b ∈ fp, FpOk (X.blk s3 H3 scope ce fp) [] H' b := fun {σ' H' s'} I' hn b hb =>
      ⟨hn b hb, (I'.ok.exf b hb).1, I'.ok.exfs b hb, .inl hb, fun x c e => (I'.ok.exf b hb).2 x c e, fun p hp => absurd (show p ∈ ([] : List (Addr × Obj)) ++ [] from hp) (by simp)⟩
    have loop : codeAny (model X.prog X.w) X.A (.compLoop (.SetComp elt [⟨tg, iter, ifs, 0⟩] scope pos) 0 (.ref it) (.ref D) ce) (compPost (model X.prog X.w) X.A X.xe none (EP X pins σ Q) (.ref D) s3.heap.objs.size) s4 := by
      refine PpSet.compLoopS_any (fun n s' => ∃ i H', Inv (X.blk s3 H3 scope ce fp) [] (wipe σ (own.map (·.2))) H' s' ∧ tn i s'.heap ∧ (∀ b ∈ fp, H' b = none) ∧ Wv i n H') (fun n s5 h5 => ?_) m0 ⟨0, H3, I4, st4, fun b hb => (f3 b hb).1.1, w0⟩
      obtain ⟨i, H5, I5, st5, n5, w5⟩ := h5
      rcases turn i n H5 w5 with ⟨stop, qq⟩ | ⟨go, Nx, hNx, step⟩
      · refine thnF (T.done (X.blk s3 H3 scope ce fp) rfl rfl rfl hc i [] s5 _ H5 (fun _ _ => False) I5 (nD I5 n5) st5 stop) fun r s6 z6 => ?_
        obtain ⟨rfl, I6⟩ := z6
        have I7 : Inv X pins σ H5 s6 := I3.call' (ch := fp) I6.os I6.base I6.hok I6.bare fun b hb => ⟨(f3 b hb).1.2.2.2.1, (f3 b hb).1.2.1, (f3 b hb).1.2.2.2.2.1, (f3 b hb).1.2.2.2.2.2⟩
        have nC : H5 s3.heap.objs.size = none := cL ▸ (show H5 ce.locals = none from I6.free)
        obtain ⟨m, hn, _⟩ := I6.loc
        have hn : s6.heap.Ns s3.heap.objs.size m := cL ▸ (show s6.heap.Ns ce.locals m from hn)
        refine ⟨m, hn, fun h'' sb => ?_⟩
        obtain ⟨f0, f1, _, g3, g4, g5⟩ := I3.fpOk (Nat.le_refl _) nC
        exact ⟨.ref D, H5, I7.turned (t' := s6.toks) (fun b o hb e => (sb.2 b hb).trans e) f0 f1 g3 g4 g5, rfl, qq⟩
      · refine thnF (T.item (X.blk s3 H3 scope ce fp) rfl rfl rfl hc i [] s5 _ H5 (fun _ _ => False) I5 (nD I5 n5) st5 go) fun r s6 z6 => ?_
        obtain ⟨u, rfl, h6⟩ := z6
        refine thnF h6 fun _ s7 z7 => ?_
        obtain ⟨x, H7, I7, r7, y7, st7, n7⟩ := z7
        refine thnF (pg.run _ s7 _ H7 x u _ (I7.pinned (nD I7 n7) (T.obj _ _ st7)) r7 (step x H7 y7)) fun _ s8 z8 => ?_
        obtain ⟨σ8, H8, I8, w8, q8⟩ := z8
        refine thnF (pt.run _ s8 σ8 H8 _ I8 q8) fun b s9 z9 => ?_
        obtain ⟨H9, I9, q9⟩ := z9
        have fin : ∀ {s' : Shared} {H' : Hp}, Inv (X.blk s3 H3 scope ce fp) ([] ++ pinsAt fp s7.heap) σ8 H' s' → Nx H' → ∃ m, m < n ∧ ∃ i H', Inv (X.blk s3 H3 scope ce fp) [] (wipe σ (own.map (·.2))) H' s' ∧ tn i s'.heap ∧ (∀ b ∈ fp, H' b = none) ∧ Wv i m H' := fun {s' H'} I' nx => by
          obtain ⟨m', lt, w'⟩ := hNx H' nx
          have pin : ∀ b ∈ fp, ∀ o, s7.heap.get? b = some o → s'.heap.get? b = some o ∧ H' b = none := fun b hb o e =>
            have z := I'.pin (b, o) (List.mem_append_right _ (List.mem_append_right _ (mem_pinsAt hb e)))
            ⟨z.1, z.2.1⟩
          refine ⟨m', lt, i + 1, H', (I'.unpinned (pins := [])).weak (by rw [← w8, wipe_length]) (fun j v e => (wipe_some (show (wipe σ8 _)[j]? = _ by rw [w8]; exact e)).1), T.keep _ _ _ st7 fun b hb o e => (pin b hb o e).1, fun b hb => ?_, w'⟩
          obtain ⟨o, e, _⟩ := T.obj _ _ st7 b hb
          exact (pin b hb o e).2
        cases b with
        | false =>
          rw [if_neg Bool.false_ne_true] at q9
          exact fin I9 q9
        | true =>
          rw [if_pos rfl] at q9
          refine thnF (pe.run _ s9 σ8 H9 _ I9 q9) fun z s10 z10 => ?_
          obtain ⟨yv, H10, I10, r10, k, ks, rfl, hD10, few, nx⟩ := z10
          exact addM (X := X.blk s3 H3 scope ce fp) I10 hD10 r10 few fun s11 I11 => fin I11 nx
    exact PpSet.codeAny_compStart_set loop (T.self X.A 0 _ _ _ st4 loop)
  rw [hs4, hs3, hce, hs3] at goal
  exact goal⟩
end
end VL

/-! VxX: set comprehensions by value. -/
namespace VL
open PySem PySem.Spec PyProof.Rows L2

theorem setHO_nco {P : Program} {w : World} {D : Addr} {ks : List Key} (c : Addr) (q : Str) : SetHO P w D ks ≠ LamX.CodeO c q := fun e => by
  have e1 := HO.ext.inj e
  let ob : Obj := { cls := .none, data := .fields #[.none, .str q 0] }
  let h0 : Heap := { objs := Array.replicate (c + 1) ob }
  have e2 := congrFun e1 h0
  have hc : h0.get? c = some ob := Heap.get?_some_iff.mpr ⟨by simp [h0], rfl⟩
  have y : ∃ (oc : Obj) (vs : Array Value) (t : Tok), h0.get? c = some oc ∧ oc.data = .fields vs ∧ vs[1]? = some (.str q t) := ⟨ob, _, 0, hc, rfl, rfl⟩
  have z : SetM P w h0 D ks := e2.mpr y
  obtain ⟨o, es, ep, t, ho, _, hd, _⟩ := z
  have h1 := (Heap.get?_some_iff.mp ho).1
  have h2 : o = ob := by
    have : (Array.replicate (c + 1) ob)[D]? = some o := h1
    rw [Array.getElem?_replicate] at this
    split at this
    · exact (Option.some.inj this).symm
    · cases this
  rw [h2] at hd
  cases hd
section
variable {K : Fg} {mg : Mg} {G : Gh} {F H : Hp} {σ : L2.St} {env : Env} {a : Addr}
theorem tabs_upd2 {T : List NdefX.NTab} (t : NdefX.TabsN T H) {o u : HO} (ha : H a = some o) (nt : NTb o) (nc : ∀ c q, o ≠ LamX.CodeO c q) : NdefX.TabsN T (upd H a u) := fun p hp => by
  obtain ⟨ps, h1, h2, h3⟩ := t p hp
  refine ⟨ps, ?_, h2, fun pos cv hc => ?_⟩
  · rw [upd_ne fun z => nt ps ?_]
    · exact h1
    · rw [z, ha] at h1
      exact Option.some.inj h1
  · obtain ⟨c, e1, e2⟩ := h3 pos cv hc
    refine ⟨c, e1, ?_⟩
    have hca : c ≠ a := fun z => by
      rw [z, ha] at e2
      exact nc _ _ (Option.some.inj e2)
    rw [upd_ne hca]
    exact e2
theorem EnvOk.other2 (ok : EnvOk K mg G F H σ env) {u u0 : HO} (h0 : H a = some u0) (nt : NTb u0) (nc : ∀ c q, u0 ≠ LamX.CodeO c q) (hF : F a = none) (hn : ∀ i, ¬ OwnAt σ env.sl i a) (hG : G.H0 a = none) : EnvOk K mg G F (upd H a u) σ env := by
  have no : ∀ {i b}, OwnAt σ env.sl i b → b ≠ a := fun z e => hn _ (e ▸ z)
  refine ⟨fun b w e => ?_, fun j m e => ?_, ok.apart, ok.frz, fun b w e n nt => ?_, fun b e => ok.dom b ?_, ok.newF, ok.newO, ok.bor, ok.borA, ok.sep, ok.borH, ok.len, tabs_upd2 ok.tabs h0 nt nc, ok.nt⟩
  · rw [upd_ne fun z => by rw [z, hF] at e; cases e]; exact ok.sub _ _ e
  · obtain ⟨v, e1, r⟩ := ok.slot j m e
    refine ⟨v, e1, r.le (Le.refl _) fun o b eb => ?_⟩
    have z : OwnAt σ env.sl j b := ⟨m, e, o, by rw [e1, eb]⟩
    exact ⟨upd_ne (no z), (z.some ok).1⟩
  · rw [upd_ne fun z => by rw [z, hG] at e; cases e]; exact ok.frame _ _ e n nt
  · by_cases hb : b = a
    · rw [hb, upd_same] at e; cases e
    · rw [upd_ne hb] at e; exact e
end
/-! {elt for target in iter if ..} -/
def fScL (vs : List Nat) (g : FG) (ft : FT) (fe : FE) : List D → Env → (List Key → Env → Prop) → Prop
  | [], env, k => k [] env
  | d :: ds, env, k => g d (wipeE env vs) fun e1 => ft e1 (fun b e2 =>
      if b = true then fe e2 (fun r e3 => bindP (lkR e3 r) fun x => bindP (dOf x.1) fun y => ∃ j, y = kD j ∧ fScL vs g ft fe ds (restE env x.2 vs) fun ks e4 => k (j :: ks) e4) W0
      else fScL vs g ft fe ds (restE env e2 vs) k) W0
def fSc (w : FW) (vs : List Nat) (g : FG) (ft : FT) (fe : FE) : FKS := fun env Q W => w env (fun ds e1 => offB e1 vs = true ∧ ds.length ≤ 4000 ∧ fScL vs g ft fe ds e1 fun ks e2 => ∀ L : List Key, L.Nodup → (∀ j, j ∈ L ↔ j ∈ ks) → Q L e2) W
theorem nodup_addK {k : Key} {ks : List Key} (h : ks.Nodup) : (addK k ks).Nodup := by
  unfold addK
  split
  · exact h
  · exact List.nodup_cons.mpr ⟨by assumption, h⟩
section
variable {X : Cx} {elt tg iter : Expr} {ifs : List Expr} {scope : Scope} {own : List (Str × Nat)} {is : List Nat} {pos : Pos} {w : FW} {pr : Bool} {g : FG} {ft : FT} {fe : FE}
theorem sc_lift {gp : Gp} (stb : Stb gp) {G : Gh} (hp : gp G) {W : KX} {σ : L2.St} {H : Hp} {Qh : VK} {vs : List Nat} (hw : liftKS X G W (fSc w vs g ft fe) σ H Qh) : tSk X.prog X.w (liftI X.K X.mg G W pr w) (someG X.K X.mg vs pr g) (someT gp X.K X.mg ft) (someE gp X.K X.mg fe) vs σ H Qh := by
  obtain ⟨F, env, Q, ok, hf, q⟩ := hw
  refine ⟨F, env, _, ok, hf, fun ds e1 F1 H1 J ok1 l1 wk hq => ?_⟩
  obtain ⟨hb, hz, hq⟩ := hq
  intro D hD
  have hFD1 : F1 D = none := by
    cases e : F1 D with
    | none => rfl
    | some o => rw [ok1.sub _ _ e] at hD; cases hD
  let Iv : Nat → Hp → Prop := fun i H => ∃ F2 e2 L acc, EnvOk X.K X.mg G F2 H σ e2 ∧ Le F1 F2 ∧ offB e2 vs = true ∧ H D = some (SetHO X.prog X.w D L) ∧ F2 D = none ∧ (∀ j, ¬ OwnAt σ e2.sl j D) ∧ L.Nodup ∧ (∀ j, j ∈ L ↔ j ∈ acc) ∧ L.length ≤ i ∧
      fScL vs g ft fe (ds.drop i) e2 fun ks e3 => ∀ L' : List Key, L'.Nodup → (∀ j, j ∈ L' ↔ j ∈ acc ++ ks) → Q L' e3
  have hGD : G.H0 D = none := ok1.dom _ hD
  refine ⟨fun i m H => i + m = ds.length ∧ Iv i H, ⟨ds.length, Nat.zero_add _, F1, e1, [], [], ok1.newH hD, Le.refl _, hb, upd_same, hFD1, fun j z => ?_, List.nodup_nil, fun j => Iff.rfl, Nat.le_refl _, hq⟩, fun i m H2 hW => ?_⟩
  · obtain ⟨_, u, hu, _⟩ := z.some ok1
    rw [hD] at hu; cases hu
  obtain ⟨em, F2, e2, L, acc, ok2, l2, hb2, hDa, hFD, hnD, nd, hL, hlen, q2⟩ := hW
  by_cases hlt : i < ds.length
  · refine .inr ⟨wk.go i H2 hlt (l2.trans ok2.sub), Iv (i + 1), fun H' h => ⟨m - 1, by omega, by omega, h⟩, fun x H' y => ?_⟩
    obtain ⟨d, ed, ok3, gv, kH⟩ := wk.item ok2 l2 hlt y
    rw [drop_at ed] at q2
    have hDa3 := kH _ _ hDa
    have ntS : NTb (SetHO X.prog X.w D L) := fun ps z => nomatch z
    have keep : ∀ {F5 H5 : Hp} {σ5 : L2.St} {e5 : Env}, EnvOk X.K X.mg (G.now F2 H' (wipe σ vs) (wipeS e2.sl vs)) F5 H5 σ5 e5 → wipe σ5 vs = wipe σ vs →
        H5 D = some (SetHO X.prog X.w D L) ∧ F5 D = none ∧ (∀ j, ¬ OwnAt σ (restE e2 e5 vs).sl j D) := fun {F5 H5 σ5 e5} ok5 w5 => by
      have no : ¬ (∃ i, OwnAt (wipe σ vs) (wipeS e2.sl vs) i D) := fun ⟨i, z⟩ => hnD i (own_wipe z).1
      refine ⟨ok5.frame D _ hDa3 no ntS, ?_, fun j z => ?_⟩
      · cases q : F5 D with
        | none => rfl
        | some o =>
          rcases ok5.newF D o q with z | z | z
          · rw [show F2 D = some o from z] at hFD; cases hFD
          · rw [show H' D = none from z] at hDa3; cases hDa3
          · exact (no z).elim
      · obtain ⟨m', z1, z2, z3⟩ := z
        rcases restS_some z1 with ⟨h1, h2⟩ | ⟨h1, h2⟩
        · have z3' : σ5[j]? = some (some (.ref D)) := by rw [← wipe_out h1, w5, wipe_out h1]; exact z3
          rcases ok5.newO j D ⟨m', h2, z2, z3'⟩ with z | z
          · exact no z
          · rw [show H' D = none from z] at hDa3; cases hDa3
        · exact hnD j ⟨m', h2, z2, z3⟩
    have okE := EnvOk.enter (vs := vs) ok3 hb2
    refine ⟨_, F2, wipeE e2 vs, d, _, okE, gv, q2, fun σ4 e4 w4 ok4 q4 => ⟨by rw [w4]; exact wipe_wipe, ?_⟩⟩
    have w4' : wipe σ4 vs = wipe σ vs := by rw [w4]; exact wipe_wipe
    refine ⟨_, stb _ _ _ _ _ hp, F2, e4, _, ok4, q4, fun b e5 F5 H5 ok5 l5 q5 => ?_⟩
    cases b with
    | false =>
      rw [if_neg Bool.false_ne_true] at q5 ⊢
      obtain ⟨k1, k2, k3⟩ := keep ok5 w4'
      exact ⟨F5, restE e2 e5 vs, L, acc, EnvOk.back ok3 hb2 ok5 w4', l2.trans l5, hb2, k1, k2, k3, nd, hL, by omega, q5⟩
    | true =>
      rw [if_pos rfl] at q5 ⊢
      refine ⟨_, stb _ _ _ _ _ hp, F5, e5, _, ok5, q5, fun r e6 v F6 H6 ok6 l6 rr q6 => ?_⟩
      obtain ⟨⟨x, e7⟩, ex, q6⟩ := bindP_of q6
      obtain ⟨yd, ey, q6⟩ := bindP_of q6
      obtain ⟨F7, ok7, l7, ax⟩ := rr.leak ok6 ex
      obtain ⟨k, ek, q6⟩ := q6
      cases x with
      | g x => cases ey
      | s x => cases ey
      | d d7 =>
        cases ey
        subst ek
        obtain ⟨k1, k2, k3⟩ := keep ok7 w4'
        have l27 : Le F2 F7 := l5.trans (l6.trans l7)
        have ev : v = kV k := by
          have ax : Dt X.K F7 v (kD k) := ax
          cases k with
          | inl n => cases ax; rfl
          | inr n => cases ax; rfl
        have sb : scanBound = 4096 := rfl
        refine ⟨k, L, ev, k1, by omega, F7, restE e2 e7 vs, addK k L, acc ++ [k], EnvOk.other2 (EnvOk.back ok3 hb2 ok7 w4') k1 ntS setHO_nco k2 k3 hGD, l2.trans l27, hb2, upd_same, k2, k3, nodup_addK nd, fun j => ?_, Nat.le_trans len_addK (Nat.succ_le_succ hlen), ?_⟩
        · rw [mem_addK, hL j, List.mem_append, List.mem_singleton]; exact Or.comm
        · simpa [List.append_assoc] using q6
  · have e : i = ds.length := by omega
    subst e
    rw [List.drop_length] at q2
    have q2 : ∀ L' : List Key, L'.Nodup → (∀ j, j ∈ L' ↔ j ∈ acc ++ []) → Q L' e2 := q2
    exact .inl ⟨wk.stop H2 (l2.trans ok2.sub), q L e2 D F2 H2 ok2 (l1.trans l2) hDa (q2 L nd fun j => by rw [List.append_nil]; exact hL j)⟩
theorem vks_sc (hc : X.calm = true) (hN : X.N.Nodup) (hi : VI gp X tg iter pr w) (ok : BlkOk X.N X.env.scope scope own)
    (hg : ∀ (s : Shared) (H : Hp) (C : Addr) (cl : List (Str × Addr)) (fp : List Addr), VGp (X.blk s H scope (compEnvC scope cl C X.env) fp) tg is pr g)
    (ht : ∀ (s : Shared) (H : Hp) (C : Addr) (cl : List (Str × Addr)) (fp : List Addr), VTs gp (X.blk s H scope (compEnvC scope cl C X.env) fp) ifs ft)
    (he : ∀ (s : Shared) (H : Hp) (C : Addr) (cl : List (Str × Addr)) (fp : List Addr), VE gp (X.blk s H scope (compEnvC scope cl C X.env) fp) elt fe) (hv : ∀ i ∈ is, i ∈ own.map (·.2) := by decide)
    (hs : ∀ x, foldedSetIterable iter X.env x = pure x := by intro _; rfl) (stb : Stb gp := by exact stbT) : VKS gp X (.SetComp elt [⟨tg, iter, ifs, 0⟩] scope pos) (fSc w (own.map (·.2)) g ft fe) := fun G W t =>
  PE.imp (pe_sk hc hN (hi G W t) ok (fun s H C cl fp => some_g (hg s H C cl fp) hv) (fun s H C cl fp => some_t (ht s H C cl fp) rfl) (fun s H C cl fp => some_e (he s H C cl fp) rfl) hs) fun σ H Qh hw => sc_lift stb t.1 hw
end
end VL

/-! VxY: dicts with whole numbers and texts as keys: looked at. -/
namespace VL
open PySem PySem.Spec PyProof.Rows L2
open PySem.W (dataLe)

abbrev Kes := List (Key × D)
def fz1 (p : Key × D) : D × D := (kD p.1, p.2)
/-- a dict's data -/
def dctD (kes : Kes) : List (D × D) := kes.map fz1
def valK (kes : Kes) (k : Key) : Option D := (kes.find? fun p => decide (p.1 = k)).map (·.2)
def hasK (kes : Kes) (k : Key) : Bool := kes.any fun p => decide (p.1 = k)
def putKes (kes : Kes) (k : Key) (d : D) : Kes := if hasK kes k = true then kes.map (fun p => if p.1 = k then (p.1, d) else p) else kes ++ [(k, d)]
theorem kD_inj {a b : Key} (e : kD a = kD b) : a = b := by
  rcases a with i | x
  · rcases b with j | y
    · have e' : PyData.int i = PyData.int j := e
      injection e' with e'
      rw [e']
    · exact nomatch (show PyData.int i = PyData.str y from e)
  · rcases b with j | y
    · exact nomatch (show PyData.str x = PyData.int j from e)
    · have e' : PyData.str x = PyData.str y := e
      injection e' with e'
      rw [e']
theorem kD_ntup {a : Key} {ks : List D} : kD a ≠ .tuple ks := by rcases a with i | x <;> exact fun e => nomatch e
inductive Kvs (K : Fg) (F : Hp) : List (Key × V) → Kes → Prop
  | nil : Kvs K F [] []
  | cons {k : Key} {v : V} {d : D} {kvs : List (Key × V)} {kes : Kes} : Dt K F v d → Kvs K F kvs kes → Kvs K F ((k, v) :: kvs) ((k, d) :: kes)
section
variable {K : Fg} {F F' H : Hp} {a : Addr} {kvs : List (Key × V)} {kes : Kes} {k : Key} {v : V} {d : D}
theorem Kvs.le (l : Le F F') (h : Kvs K F kvs kes) : Kvs K F' kvs kes := by
  induction h with
  | nil => exact .nil
  | cons h _ ih => exact .cons (h.le l) ih
theorem Kvs.of : ∀ {kes : Kes} {kvs : List (Key × V)}, DtKv K F kvs (dctD kes) → Kvs K F kvs kes
  | [], _, h => by cases h; exact .nil
  | (k, d) :: kes, kvs, h => by
    generalize e : dctD ((k, d) :: kes) = es at h
    cases h with
    | nil => cases e
    | @cons k' v kvs d' es' hv hr =>
      have e : (kD k, d) :: dctD kes = (kD k', d') :: es' := e
      injection e with e1 e2
      injection e1 with e3 e4
      have := kD_inj e3
      subst this e4 e2
      exact .cons hv (Kvs.of hr)
theorem Kvs.dt (h : Kvs K F kvs kes) : DtKv K F kvs (dctD kes) := by
  induction h with
  | nil => exact .nil
  | cons h _ ih => exact .cons h ih
theorem dctAt_kes (h : DctAt K F H a (dctD kes)) : ∃ kvs, H a = some (.dK kvs) ∧ Kvs K F kvs kes := by
  rcases h with ⟨kvs, h1, h2⟩ | ⟨kvs, h1, h2, h3⟩
  · exact ⟨kvs, h1, .of h2⟩
  · cases kes with
    | nil => exact (h3 rfl).elim
    | cons p kes =>
      generalize e : dctD (p :: kes) = es at h2
      cases h2 with
      | nil => cases e
      | cons _ _ =>
        have e : (kD p.1, p.2) :: dctD kes = _ := e
        injection e with e1 e2
        injection e1 with e3 e4
        exact (kD_ntup e3).elim
theorem Pk.dctK {v : V} (l : Le F H) (h : Pk K F H v (.dict (dctD kes))) : ∃ a kvs, v = .ref a ∧ H a = some (.dK kvs) ∧ Kvs K F kvs kes := by
  cases h with
  | fz h => cases h with
    | dct h1 h2 => exact ⟨_, _, rfl, l _ _ h1, .of h2⟩
  | dct h => obtain ⟨kvs, h1, h2⟩ := dctAt_kes h; exact ⟨_, kvs, rfl, h1, h2⟩
theorem Kvs.len (h : Kvs K F kvs kes) : kvs.length = kes.length := by
  induction h with
  | nil => rfl
  | cons _ _ ih => rw [List.length_cons, List.length_cons, ih]
theorem Kvs.keys (h : Kvs K F kvs kes) : kvs.map (·.1) = kes.map (·.1) := by
  induction h with
  | nil => rfl
  | cons _ _ ih => rw [List.map_cons, List.map_cons, ih]
theorem Kvs.val (h : Kvs K F kvs kes) : (valK kes k = none ∧ valV kvs k = none ∧ hasK kes k = false) ∨ ∃ d v, valK kes k = some d ∧ valV kvs k = some v ∧ Dt K F v d ∧ hasK kes k = true := by
  induction h with
  | nil => exact .inl ⟨rfl, rfl, rfl⟩
  | @cons j v d kvs kes hd _ ih =>
    by_cases e : j = k
    · refine .inr ⟨d, v, ?_, valV_pos e, hd, ?_⟩
      · unfold valK; rw [List.find?_cons_of_pos (by simpa using e)]; rfl
      · unfold hasK; rw [List.any_cons, decide_eq_true e]; rfl
    · have e1 : valK ((j, d) :: kes) k = valK kes k := by unfold valK; rw [List.find?_cons_of_neg (by simpa using e)]
      have e2 : valV ((j, v) :: kvs) k = valV kvs k := valV_neg e
      have e3 : hasK ((j, d) :: kes) k = hasK kes k := by unfold hasK; rw [List.any_cons, decide_eq_false e, Bool.false_or]
      rw [e1, e2, e3]
      exact ih
theorem Kvs.has (h : Kvs K F kvs kes) : (valV kvs k).isSome = hasK kes k := by
  rcases h.val (k := k) with ⟨_, e2, e3⟩ | ⟨d, v, _, e2, _, e3⟩ <;> rw [e2, e3] <;> rfl
theorem Kvs.put (h : Kvs K F kvs kes) (hd : Dt K F v d) : Kvs K F (putK kvs k v) (putKes kes k d) := by
  unfold putK putKes
  rw [valV_any, h.has]
  split
  · rename_i c
    clear c
    induction h with
    | nil => exact .nil
    | @cons j w e kvs kes hd' _ ih =>
      rw [List.map_cons, List.map_cons]
      by_cases q : j = k
      · rw [if_pos q, if_pos q]; exact .cons hd ih
      · rw [if_neg q, if_neg q]; exact .cons hd' ih
  · rename_i c
    clear c
    induction h with
    | nil => exact .cons hd .nil
    | cons hd' _ ih => exact .cons hd' ih
theorem putKes_len : (putKes kes k d).length ≤ kes.length + 1 := by
  unfold putKes
  split
  · rw [List.length_map]; exact Nat.le_succ _
  · rw [List.length_append]; exact Nat.le_refl _
theorem dt_kV (h : Dt K F v (kD k)) : v = kV k := by
  rcases k with i | x
  · cases h; rfl
  · cases h; rfl
end

/-! ### looked at -/
def gInD (neg : Bool) : List D → (M → Prop) → Prop
  | [x, .dict es], q => ∃ (k : Key) (kes : Kes), x = kD k ∧ es = dctD kes ∧ q (.fz (.bool (xor neg (hasK kes k))))
  | _, _ => False
def gGetD : List D → (M → Prop) → Prop
  | [.dict es, x], q => ∃ (k : Key) (kes : Kes) (d : D), x = kD k ∧ es = dctD kes ∧ valK kes k = some d ∧ q (.fz d)
  | _, _ => False
def gLenD : List D → (M → Prop) → Prop
  | [.dict es], q => ∃ kes : Kes, es = dctD kes ∧ q (.fz (.int kes.length))
  | _, _ => False
def gSortD : List D → (M → Prop) → Prop
  | [.dict es], q => ∃ kes : Kes, es = dctD kes ∧ OneKind (kes.map (·.1)) ∧ q (.lst (((kes.map (·.1)).map kD).mergeSort (dataLe false id)))
  | _, _ => False
section
variable {X : Cx}
theorem pk_key {F H : Hp} {v : V} {k : Key} (h : Pk X.K F H v (kD k)) : v = kV k := by
  rcases k with i | x
  · exact h.scal_int
  · exact h.scal_str
theorem os_inD (hu : X.A.units + 150 < cLine) : OpS X (act2 (compareOp .In)) (gInD false) := os_of_opR (fun G pins s τ σ F H env d e v w u u' Q I ok p1 p2 r1 r2 q => by
  unfold gInD at q
  split at q
  · rename_i Q x es e1
    cases e1
    obtain ⟨k, kes, rfl, rfl, q⟩ := q
    obtain ⟨a, kvs, rfl, h1, h2⟩ := p2.dctK ok.sub
    cases r2
    cases pk_key p1
    refine d_in (by omega) I (DGet.k (k := k) h1) r1 fun s' I' => fin_bool I' ok ?_
    rw [h2.has]
    simpa using q
  · exact q.elim) (two_gen (fun _ h => h) (fun d _ h => by cases d <;> exact h) fun d e f r Q h => by cases d <;> cases e <;> exact h)
theorem os_notInD (hu : X.A.units + 150 < cLine) : OpS X (act2 (compareOp .NotIn)) (gInD true) := os_of_opR (fun G pins s τ σ F H env d e v w u u' Q I ok p1 p2 r1 r2 q => by
  unfold gInD at q
  split at q
  · rename_i Q x es e1
    cases e1
    obtain ⟨k, kes, rfl, rfl, q⟩ := q
    obtain ⟨a, kvs, rfl, h1, h2⟩ := p2.dctK ok.sub
    cases r2
    cases pk_key p1
    refine d_notIn (by omega) I (DGet.k (k := k) h1) r1 fun s' I' => fin_bool I' ok ?_
    rw [h2.has]
    simpa using q
  · exact q.elim) (two_gen (fun _ h => h) (fun d _ h => by cases d <;> exact h) fun d e f r Q h => by cases d <;> cases e <;> exact h)
theorem dk_dictAt {P : Program} {w : World} {H : Hp} {h : Heap} {a : Addr} {kvs : List (Key × V)} (ok : HOk P w H h) (e : H a = some (.dK kvs)) : kvs.length ≤ sizeLine ∧ (a == sysModules) = false ∧ ∃ vs ep, KV kvs vs ∧ h.DictAt (mixKind P w) a vs ep := by
  obtain ⟨z, lo, vs, rel, dd⟩ := dk_of ok e
  obtain ⟨ep, hat⟩ := dd.dictAt
  exact ⟨z, lo, vs, ep, rel, hat⟩
/-- sorted(d) -/
theorem os_sortedD (hc : X.calm = true) (hu : X.A.units + 150 < cLine) : OpS X (fun us => call (.builtin "sorted") us) gSortD := os_callR (fun G pins s τ σ F H env d v u Q I ok p1 r1 q => by
  unfold gSortD at q
  split at q
  · rename_i Q es e1
    cases e1
    obtain ⟨kes, rfl, one, q⟩ := q
    obtain ⟨a, kvs, rfl, h1, h2⟩ := p1.dctK ok.sub
    cases r1
    obtain ⟨z, lo, ws, ep, rel, hat⟩ := dk_dictAt I.hok h1
    have hs : sizeLine = 16777216 := sizeLine_eq
    have hk : ws.map (·.1) = kes.map (·.1) := rel.keys.symm.trans h2.keys
    have hl : ws.length = kvs.length := rel.length.symm
    refine Calls.call_function_entry kind_sorted plain_sorted entry_sorted (args_sorted1 _) ?_
    unfold Builtin.«sorted»
    refine wpAny_bind (m := checkCount "sorted" 1 1 _) (wpAny_pure (wpAny_bind ?_))
    refine PySem.W.kdu_collect (A := X.A.in1) (PySem.W.kdl_dict (knd := mixKind X.prog X.w) (kvs := ws) (ep := ep) lo) (I.ok.hd hc) hat (by omega) fun h' tk acc kp hacc => ?_
    have ea : PySem.W.EachIs (fun u (k : Key) => RelV (kV k) u) acc.toList (kes.map (·.1)) := by
      have len : acc.toList.length = (kes.map (·.1)).length := by rw [Array.length_toList, hacc.1, ← hk, List.length_map]
      have each : ∀ (j : Nat) (v : Value), acc.toList[j]? = some v → ∃ k, (kes.map (·.1))[j]? = some k ∧ RelV (kV k) v := fun j v e => by
        obtain ⟨k, x, e1, e2⟩ := hacc.2 j v (by rw [← Array.getElem?_toList]; exact e)
        refine ⟨k, ?_, rel_kf e2⟩
        rw [← hk, List.getElem?_map, e1]
        rfl
      clear q
      generalize kes.map (·.1) = ks at len each
      generalize acc.toList = vs at len each
      clear hk one
      induction vs generalizing ks with
      | nil => cases ks with
        | nil => exact .nil
        | cons k ks => cases len
      | cons v vs ih => cases ks with
        | nil => cases len
        | cons k ks =>
          obtain ⟨k', e1, e2⟩ := each 0 v rfl
          cases e1
          exact .cons e2 (ih ks (Nat.succ.inj len) fun j w e => each (j + 1) w e)
    have len : acc.toList.length = kes.length := by rw [Array.length_toList, hacc.1, hl, h2.len]
    have z2 : kes.length ≤ 16777216 := by rw [← h2.len]; omega
    refine wpAny_bind (wpAny_newList ?_ (by omega))
    have hL : (h'.push (seqObj "list" acc.toList.toArray 0)).get? h'.objs.size = some (seqObj "list" acc.toList.toArray 0) := Heap.get?_push_size _ rfl
    obtain ⟨al, so⟩ := one.sort (List.Perm.refl _)
    refine wpAny_bind (wpAny_holding ?_)
    refine PySem.W.list_sort_data (s := { s with heap := h'.push (seqObj "list" acc.toList.toArray 0), toks := tk }) (enc := kD) hL ea (ea.mono fun u k r => ⟨[], reads_k r, fun z => nomatch z⟩) al so (by rw [List.length_map]; omega) (fun b _ => ?_) fun out ol oe => ?_
    · have : X.A.in1.units = X.A.units + 1 := rfl
      have e : (kD b).depth ≤ 1 := by cases b <;> simp [kD, PyData.depth]
      omega
    · obtain ⟨c, hc⟩ := sortedHeap_at (vs := acc.toList) (out := out.toArray) hL
      have old : ∀ b u, h'.get? b = some u → (sortedHeap (h'.push (seqObj "list" acc.toList.toArray 0)) h'.objs.size acc.toList out.toArray).get? b = some u := fun b u e => by
        have lt := Heap.lt_size e
        rw [sortedHeap_old (Nat.ne_of_lt lt) (by rw [size_push']; exact Nat.lt_succ_of_lt lt)]
        exact Heap.get?_push_of_some _ e
      have I1 : Inv X pins τ H { s with heap := h', toks := tk } := I.kept kp
      refine wpAny_pure ⟨_, rfl, ?_⟩
      have sp := PySem.W.sort_maps (r := dataLe false kD) (s := dataLe false (id : D → D)) kD (l := kes.map (·.1)) (fun a _ b _ => rfl)
      refine fin_lst (s := { s with heap := h', toks := tk }) (vs := ((kes.map (·.1)).mergeSort (dataLe false kD)).map kV) I1 ok old (Nat.le_refl _) (vals_of_each oe) ?_ hc (ds := ((kes.map (·.1)).map kD).mergeSort (dataLe false id)) ?_ q
      · rw [List.length_map, List.length_mergeSort, List.length_map]; omega
      · rw [← sp]; exact dts_k _
  · exact q.elim) (one_gen (fun _ h => h) (fun d e r Q h => by cases d <;> exact h))
end
end VL

/-! VxZ: own dicts with whole numbers and texts as keys: made, stored to. -/
namespace VL
open PySem PySem.Spec PyProof.Rows L2

def dctAt (env : Env) (i : Nat) : Option (List (D × D)) :=
  match env.sl[i]? with
  | some (some (.dct es)) => some es
  | _ => none
def putDc (env : Env) (i : Nat) (es : List (D × D)) : Env := { env with sl := env.sl.set i (some (.dct es)) }
theorem dctAt_is {env : Env} {i : Nat} {es : List (D × D)} (h : dctAt env i = some es) : env.sl[i]? = some (some (.dct es)) := by
  unfold dctAt at h
  split at h
  · cases h; assumption
  · cases h
section
variable {K : Fg} {mg : Mg} {G : Gh} {F H : Hp} {σ : L2.St} {env : Env} {i : Nat} {a : Addr} {es es' : List (D × D)}
theorem EnvOk.dctOf (ok : EnvOk K mg G F H σ env) (h : dctAt env i = some es) : ∃ a, OwnAt σ env.sl i a ∧ σ[i]? = some (some (.ref a)) ∧ F a = none ∧ DctAt K F H a es := by
  have e := dctAt_is h
  obtain ⟨v, e1, a, rfl, h1, h2⟩ := ok.slot i _ e
  exact ⟨a, ⟨_, e, rfl, e1⟩, e1, h1, h2⟩
theorem EnvOk.putDc (ok : EnvOk K mg G F H σ env) (o : OwnAt σ env.sl i a) {kvs : List (Key × V)} {kes : Kes} (r : Kvs K F kvs kes) : EnvOk K mg G F (upd H a (.dK kvs)) σ (putDc env i (dctD kes)) :=
  ok.mut o rfl ⟨a, rfl, (o.some ok).1, .inl ⟨kvs, upd_same, r.dt⟩⟩
end
/-- x[k] = e, x an own dict -/
def sSetK (i : Nat) (fk fe : FE) : FS := fun env E W => fe env (fun r e1 => bindP (lkR e1 r) fun x => bindP (dOf x.1) fun d => bindP (dctAt x.2 i) fun _ =>
  fk x.2 (fun r2 e2 => bindP (pkR r2) fun y => bindP (pkA e2 y) fun kd => bindP (dctAt e2 i) fun es => ∃ (k : Key) (kes : Kes), kd = kD k ∧ es = dctD kes ∧ kes.length < 16777216 ∧ E.nx (putDc e2 i (dctD (putKes kes k d)))) W) W
def fDNew : FE := fun env Q _ => Q (.val (.dct (dctD []))) env
/-- {k: v} -/
def fDisp1 (fk fv : FE) : FE := fun env Q W => fk env (fun r1 e1 => bindP (lkR e1 r1) fun x => bindP (dOf x.1) fun kd => fv x.2 (fun r2 e2 => bindP (lkR e2 r2) fun y => bindP (dOf y.1) fun d => ∃ k : Key, kd = kD k ∧ Q (.val (.dct (dctD [(k, d)]))) y.2) W) W
section
variable {X : Cx} {x : Str} {i : Nat} {e k : Expr} {fe fk fv : FE} {p p2 pos tpos : Pos}
theorem dOf_is {y : Ar} {d : D} (h : dOf y = some d) : y = .d d := by
  cases y with
  | d d' => cases h; rfl
  | g x => cases h
  | s x => cases h
theorem vs_setK (hu : X.A.units + 150 < cLine) (hN : X.N[i]? = some x) (hv : Vis X.env.scope x) (he : VE gp X e fe) (hk : VE gp X k fk) (hd : (x == ("__debug__" : Str)) = false := by decide) (hcd : (x == ("__classdict__" : Str)) = false := by decide)
    (ha : ∀ v, assign (.Subscript (.Name x p) k tpos) X.env v = (do
      let ov ← holding [v] (eval (.Name x p) X.env)
      let iv ← holding [v, ov] (eval k X.env)
      standAt tpos
      holding [v, ov, iv] (setItem ov iv v)
      release [v, ov, iv] []) := by intro _; rfl) (hs : swapsWithSole [.Subscript (.Name x p) k tpos] e pos.line X.env = pure false := by rfl) (hw : swappedStores [.Subscript (.Name x p) k tpos] e X.env = pure none := by rfl)
    (h1 : (assignEach [.Subscript (.Name x p) k tpos] X.env).map (·.2) = [assign (.Subscript (.Name x p) k tpos) X.env] := by rfl) : VS gp X (.Assign [.Subscript (.Name x p) k tpos] e pos) (sSetK i fk fe) := fun G W _ t =>
  PS.imp (ps_asg (he G W t) (pg_sub (pe_var hN hv hd hcd) (hk G W t) (set_dict (by omega)) ha) hs hw h1) fun Dn σ H hq => by
    obtain ⟨F, env, E, ok, hf, k1, _⟩ := hq
    refine ⟨F, env, _, ok, hf, fun r e1 v F1 H1 ok1 l1 rr hq => ?_⟩
    obtain ⟨⟨y, e2⟩, ey, hq⟩ := bindP_of hq
    obtain ⟨d, ed, hq⟩ := bindP_of hq
    obtain ⟨d0, el, hq⟩ := bindP_of hq
    obtain ⟨F2, ok2, l2, ax⟩ := rr.leak ok1 ey
    obtain ⟨a, oa, sa, fa, ra⟩ := ok2.dctOf el
    refine ⟨.ref a, sa, F2, e2, _, ok2, hq, fun r2 e3 w F3 H3 ok3 l3 rr3 q3 => ?_⟩
    obtain ⟨z, ez, q3⟩ := bindP_of q3
    obtain ⟨F4, ok4, l4, az⟩ := rr3.peek ok3 ez
    obtain ⟨kd, ekd, q3⟩ := bindP_of q3
    obtain ⟨es, ees, kk, kes, e1', e2', hz, q4⟩ := bindP_of q3
    subst e1' e2'
    have hw := pk_key (az.pk ok4 ekd)
    subst hw
    obtain ⟨b, ob, sb, fb, rb⟩ := ok4.dctOf ees
    rw [sa] at sb
    cases sb
    obtain ⟨kvs, hb, rk⟩ := dctAt_kes rb
    have ay : Dt X.K F4 v d := by
      have e := dOf_is ed
      subst e
      exact Dt.le (l3.trans l4) (show Dt X.K F2 v d from ax)
    have hs : sizeLine = 16777216 := sizeLine_eq
    exact ⟨a, _, rfl, DPut.k hb (by rw [rk.len]; omega), k1 _ F4 _ _ (ok4.putDc ob (rk.put ay)) (l1.trans (l2.trans (l3.trans l4))) q4⟩
theorem ve_dnew : VE gp X (.Dict [] [] pos) fDNew := fun G W t => PE.imp pe_dnewK fun σ H Qh hw => by
  obtain ⟨F, env, Q, ok, hf, q⟩ := hw
  intro p hp
  have hF : F p = none := by
    cases e : F p with
    | none => rfl
    | some o => rw [ok.sub _ _ e] at hp; cases hp
  refine q (.val (.dct (dctD []))) env (.ref p) F _ (ok.newH hp) (Le.refl _) ⟨⟨p, rfl, hF, .inl ⟨[], upd_same, .nil⟩⟩, fun _ a ea => ?_⟩ hf
  cases ea
  refine ⟨ok.dom _ hp, fun i z => ?_⟩
  obtain ⟨_, u, hu, _⟩ := z.some ok
  rw [hp] at hu; cases hu
theorem ve_disp1 (hk : VE gp X k fk) (hv : VE gp X e fv) (stb : Stb gp := by exact stbT) : VE gp X (.Dict [some k] [e] pos) (fDisp1 fk fv) := fun G W t =>
  PE.imp (pe_disp (pps_cons (later_e hk t) (later_e hv t) pps_nil) rfl rfl (by simp) (by simp)) fun σ H Qh hw => by
    obtain ⟨F, env, Q, ok, hf, q⟩ := hw
    intro p hp
    have hF : F p = none := by
      cases e : F p with
      | none => rfl
      | some o => rw [ok.sub _ _ e] at hp; cases hp
    have okn := ok.newH (o := .dK []) hp
    have no : ¬ ∃ i, OwnAt σ env.sl i p := fun ⟨i, z⟩ => by
      obtain ⟨_, u, hu, _⟩ := z.some ok
      rw [hp] at hu; cases hu
    have hG1 := stb _ F (upd H p (.dK [])) σ env.sl t.1
    refine ⟨_, hG1, up_w okn, F, env, _, okn.now, hf, fun r1 e1 v1 F1 H1 ok1 l1 rr1 hq => ?_⟩
    obtain ⟨⟨y1, e1'⟩, ey1, hq⟩ := bindP_of hq
    obtain ⟨kd, ekd, hq⟩ := bindP_of hq
    obtain ⟨F2, ok2, l2, ax⟩ := rr1.leak ok1 ey1
    refine ⟨_, hG1, up_w okn, F2, e1', _, ok2, hq, fun r2 e2 v2 F3 H3 ok3 l3 rr2 hq => ?_⟩
    obtain ⟨⟨y2, e2'⟩, ey2, hq⟩ := bindP_of hq
    obtain ⟨d, ed, kk, ek, hq4⟩ := bindP_of hq
    obtain ⟨F4, ok4, l4, ay⟩ := rr2.leak ok3 ey2
    have q1 := dOf_is ekd
    have q2 := dOf_is ed
    dsimp only at q1 q2
    subst q1 q2 ek
    have ev : v1 = kV kk := dt_kV (show Dt X.K F2 v1 (kD kk) from ax)
    subst ev
    have h3 : H3 p = some (.dK []) := ok4.frame p _ upd_same no (fun ps z => by cases z)
    have f4 : F4 p = none := by
      cases c : F4 p with
      | none => rfl
      | some o =>
        rcases ok4.newF p o c with z | z | z
        · rw [show F p = some o from z] at hF; cases hF
        · have : upd H p (.dK []) p = some (.dK []) := upd_same
          rw [show upd H p (.dK []) p = none from z] at this
          cases this
        · exact (no z).elim
    have n4 : ∀ i, ¬ OwnAt σ e2'.sl i p := fun i z => by
      rcases ok4.newO i p z with y | y
      · exact no y
      · have : upd H p (.dK []) p = some (.dK []) := upd_same
        rw [show upd H p (.dK []) p = none from y] at this
        cases this
    have okU := okn.up ok4
    refine ⟨h3, [(kk, v2)], rfl, by simp, q (.val (.dct (dctD [(kk, d)]))) e2' (.ref p) F4 _ (okU.other h3 trivial f4 n4 (ok.dom _ hp)) (l1.trans (l2.trans (l3.trans l4))) ⟨⟨p, rfl, f4, .inl ⟨_, upd_same, ?_⟩⟩, fun _ a ea => ?_⟩ hq4⟩
    · exact .cons (show Dt X.K F4 v2 d from ay) .nil
    · cases ea
      exact ⟨ok.dom _ hp, n4⟩
end
end VL

set_option maxHeartbeats 2000000
/-! VyA: a local that holds a def is called; x[::-1] of lists and tuples; a < b < c < d. -/
namespace VL
open PySem PySem.Spec PyProof.Rows L2
/-! ### f(e, ..), f a local that holds a def -/
def fCallL (i : Nat) (x : Str) (sp : SpV) (bs : List Nat) (fa : FA) : FE := fun env Q W => env.sl[i]? = some (some (.gl x)) ∧ fCall sp bs fa env Q W
theorem FnV.never {P : Program} {w : World} {K : Fg} {mg : Mg} {base : Heap} {T : List NdefX.NTab} {k : Nat} {f : Addr} {fd : FuncData} {ps : List Str} {bs : List Nat} : FnV P w K mg base T k f fd ps bs (fun _ _ _ => False) :=
  ⟨fun _ _ _ h => h.elim, fun _ _ _ _ _ _ _ _ _ _ _ _ _ _ _ _ _ _ _ _ h => h.elim⟩
theorem FnV.room {P : Program} {w : World} {K : Fg} {mg : Mg} {base : Heap} {T : List NdefX.NTab} {k k' : Nat} {f : Addr} {fd : FuncData} {ps : List Str} {bs : List Nat} {sp : SpV} (h : FnV P w K mg base T k f fd ps bs sp) (l : k ≤ k') : FnV P w K mg base T k' f fd ps bs sp :=
  ⟨h.len, fun A outer s H F args us vs ms Q E a b c d e l1 g t n q => h.run A outer s H F args us vs ms Q E (a.mono l) b c d e l1 g t n q⟩
section
variable {X : Cx} {T : List NdefX.NTab} {k : Nat} {f : Addr} {fd : FuncData} {ps : List Str} {bs : List Nat} {sp : SpV} {x y : Str} {p pos : Pos} {e : Expr} {es : List Expr} {fa : FA} {i : Nat}
theorem ve_callL (C : FnV X.prog X.w X.K X.mg X.base T k f fd ps bs sp) (hr : Room k X.A) (gd : X.A.guards = some []) (hN : X.N[i]? = some y) (hv : Vis X.env.scope y) (hm : X.mg x = some (.ref f)) (hk : PySem.W.keepIn X.K (.ref f) = true) (hb : Binds X.K fd ps []) (ha : VA gp X (e :: es) fa)
    (hdb : (y == ("__debug__" : Str)) = false := by decide) (hcd : (y == ("__classdict__" : Str)) = false := by decide) (he : starEach (e :: es) X.env = (false, eval e X.env) :: starEach es X.env := by rfl) (hpl : (backTo pos (starEach es X.env)).any (·.1) = false := by rfl) (hT : ∀ G, gp G → G.T = T := by first | exact fun _ h => h | exact fun _ h => h.1 | assumption) :
    VE gp X (.Call (.Name y p) (e :: es) [] pos) (fCallL i x sp bs fa) := fun G W tk => by
  refine ⟨fun pins s σ H Qh I h => wpAny_Call_Name_kw ?_⟩
  obtain ⟨F, env, Q, ok, ⟨hs, hf⟩, q⟩ := h
  obtain ⟨v, e1, rm⟩ := ok.slot i _ hs
  obtain ⟨f', rfl, hm'⟩ : ∃ f' : Addr, v = .ref f' ∧ X.mg x = some (.ref f') := rm
  have ef : f' = f := by
    rw [hm] at hm'
    injection hm' with hm'
    injection hm' with hm'
    exact hm'.symm
  subst ef
  refine thn ((pe_var hN hv hdb hcd).run pins s σ H (fun z H' => z = .ref f' ∧ H' = H) I ⟨_, e1, rfl, rfl⟩) fun u s1 ⟨z, H1, I1, r, ez, eH⟩ => ?_
  subst ez eH
  cases r
  have ht : liftA X.K X.mg G W fa σ H1 fun vs H1 => ∃ F1 env1 as, EnvOk X.K X.mg G F1 H1 σ env1 ∧ Le F F1 ∧ ArAll X.K X.mg F1 σ as vs ∧ (bindP (arMs env1 as) fun ms => ownPos 0 ms = bs ∧ (slotsOf as).Nodup ∧ sp ms (fun m bms => Q (.val m) (putE env1 (slotsOf as) bms)) fun ex bms => W ex (putE env1 (slotsOf as) bms)) :=
    ⟨F, env, _, ok, hf, fun as env1 vs F1 H1 ok1 l1 aa hq => ⟨F1, env1, as, ok1, l1, aa, hq⟩⟩
  refine PySem.W.callWith_K (h₀ := X.base) I1.ok.mod.kin hk (thn ((ha G W tk).run pos pins s1 σ H1 _ I1 ht) fun us s2 ⟨vs, H2, I2, rv, F1, env1, as, ok1, l1, aa, hq⟩ => ⟨I2.kIn, ?_⟩) he hpl
  refine run_fnv C hr gd (hT G tk.1) tk.2 I2 ok1 aa rv (fun hl => ?_) hq fun r env' v F' H' ok' l' => q r env' v F' H' ok' (l1.trans l')
  have := hb s2 us I2.kIn (by rw [List.append_nil]; exact hl)
  rw [List.append_nil] at this
  exact this
end
/-! ### x[::-1] -/
section
variable {prog : Program} {w : World} {A : Around} {E : Value → Shared → Prop} {s : Shared}
theorem sliceApplied_back {sl : Addr} {vs : Value} {n : Nat} {Q : Int × Int × Nat → Shared → Prop} (hs : s.heap.IsSliceOf sl .none .none vs) (ps : IsPart vs (some (-1)))
    (h : Q ((n : Int) - 1, -1, n) s) : wpAny (model prog w) A (Builtin.Slice.sliceApplied (.ref sl) (pure (n : Int))) Q E s := by
  obtain ⟨os, hos, hcs, hds⟩ := id hs
  unfold Builtin.Slice.sliceApplied Builtin.Slice.sliceFields
  refine wpAny_bind (wpAny_bind (wpAny_field hos hds (x := .none) rfl (wpAny_bind (wpAny_field hos hds (x := .none) rfl (wpAny_bind (wpAny_field hos hds (x := vs) rfl (wpAny_pure ?_)))))))
  refine wpAny_bind (HT.slicePart_ ps ?_)
  show wpAny _ _ (if ((-1 : Int) == 0) = true then _ else _) _ _ s
  rw [if_neg (by decide)]
  refine wpAny_bind (slicePart_none (wpAny_bind (slicePart_none (wpAny_bind (wpAny_pure ?_)))))
  show wpAny _ _ (match Builtin.Slice.sliceAdjust none none (-1) (n : Int) with | (lo, hi) => pure (lo, (-1 : Int), Builtin.Slice.slicePlaces lo hi (-1))) _ _ s
  have e1 : Builtin.Slice.sliceAdjust none none (-1) (n : Int) = ((n : Int) - 1, -1) := by
    unfold Builtin.Slice.sliceAdjust
    rfl
  rw [e1]
  have e2 : Builtin.Slice.slicePlaces ((n : Int) - 1) (-1) (-1) = n := by
    unfold Builtin.Slice.slicePlaces
    have h1 : ¬ ((-1 : Int) > 0) := by omega
    simp only [h1, if_false]
    rw [show (- (-1 : Int)) = 1 from rfl, Int.ediv_one]
    split <;> omega
  show wpAny _ _ (pure ((n : Int) - 1, (-1 : Int), Builtin.Slice.slicePlaces ((n : Int) - 1) (-1) (-1))) _ _ s
  rw [e2]
  exact wpAny_pure h
theorem fm_congr {α β : Type} {f g : α → Option β} : ∀ {l : List α}, (∀ k ∈ l, f k = g k) → l.filterMap f = l.filterMap g
  | [], _ => rfl
  | k :: l, h => by rw [List.filterMap_cons, List.filterMap_cons, h k List.mem_cons_self, fm_congr fun j hj => h j (List.mem_cons_of_mem _ hj)]
theorem pick_back (xs : List Value) : ((List.range xs.length).filterMap fun (m : Nat) => xs.toArray[((xs.length : Int) - 1 + (m : Int) * -1).toNat]?) = xs.reverse := by
  have e : ∀ k, k < xs.length → xs.toArray[((xs.length : Int) - 1 + (k : Int) * -1).toNat]? = some (xs.reverse[k]?.getD .none) := fun k hk => by
    have e1 : ((xs.length : Int) - 1 + (k : Int) * -1).toNat = xs.length - 1 - k := by omega
    rw [e1, List.getElem?_toArray, List.getElem?_reverse hk, List.getElem?_eq_getElem (by omega)]
    rfl
  rw [show ((List.range xs.length).filterMap fun (m : Nat) => xs.toArray[((xs.length : Int) - 1 + (m : Int) * -1).toNat]?) = (List.range xs.length).filterMap fun m => some (xs.reverse[m]?.getD .none) from ?_]
  · rw [List.filterMap_eq_map']
    apply List.ext_getElem?
    intro k
    by_cases hk : k < xs.length
    · rw [List.getElem?_map, List.getElem?_range hk]
      have : xs.reverse[k]? = some (xs.reverse[k]'(by rw [List.length_reverse]; exact hk)) := List.getElem?_eq_getElem (by rw [List.length_reverse]; exact hk)
      rw [this, Option.map_some, this]
      rfl
    · rw [List.getElem?_eq_none (by rw [List.length_map, List.length_range]; omega), List.getElem?_eq_none (by rw [List.length_reverse]; omega)]
  · refine fm_congr fun k hk => e k (List.mem_range.mp hk)
theorem getItem_tuple_back {t sl : Addr} {items : List Value} {vs : Value} {Q : Value → Shared → Prop} (ht : IsTup s.heap t items.toArray) (hs : s.heap.IsSliceOf sl .none .none vs) (ps : IsPart vs (some (-1)))
    (h : Q (.ref s.heap.objs.size) { s with heap := s.heap.push { cls := .type "tuple", data := .seq items.reverse.toArray } })
    (hsz : items.length ≤ sizeLine) : wpAny (model prog w) A (getItem (.ref t) (.ref sl)) Q E s := by
  have htake : sizeOk (.seq items.reverse.toArray) := by
    show items.reverse.toArray.size ≤ sizeLine
    rw [List.size_toArray, List.length_reverse]
    exact hsz
  obtain ⟨os, hos, hcs, hds⟩ := id hs
  have hTs : s.TypeIs (.ref sl) "slice" := ⟨os, hos, hcs⟩
  unfold getItem
  try with_reducible refine wpAny_holding ?_
  first | refine wpAny_bind (wpAny_pure ?_) | skip
  refine wpAny_bind (wpAny_sequenceKey ht.typeIs (by decide) ?_)
  refine wpAny_bind (wpAny_callSpecial?_slot (name := Str.ofString "__getitem__") ht.typeIs PyProof.Rows.slot_tuple_getitem
    (wpAny_call_entry PyProof.Rows.slot_tuple_getitem ht.typeIs entry_tuple_getitem ?_ (args_tuple_getitem _ _)))
  show wpAny _ _ (Builtin.Tuple.tupleItemsOf (.ref t) >>= _) _ _ s
  refine wpAny_bind (tupleItemsOf_ ht ?_)
  refine wpAny_bind (wpAny_typeOf hTs ?_)
  rw [if_pos (by decide)]
  refine wpAny_bind (sliceApplied_back hs ps ?_)
  have hno : ¬ (((((items.toArray.size : Nat) : Int) - 1) == 0 && (-1 : Int) == 1 && items.toArray.size == items.toArray.size) = true) := by
    intro q
    rw [Bool.and_eq_true, Bool.and_eq_true] at q
    exact absurd q.1.2 (by decide)
  show wpAny _ _ (if ((((items.toArray.size : Nat) : Int) - 1) == 0 && (-1 : Int) == 1 && items.toArray.size == items.toArray.size) = true then _ else _) _ _ s
  rw [if_neg hno]
  have ep : (List.filterMap (fun (k : Nat) => items.toArray[((items.toArray.size : Int) - 1 + (k : Int) * -1).toNat]?) (List.range items.toArray.size)) = items.reverse := by
    rw [List.size_toArray]
    exact pick_back items
  rw [ep]
  first
    | exact wpAny_bind (m := Builtin.Tuple.tupleExact _) (wpAny_newObj_type (wpAny_pure ⟨_, rfl, wpAny_pure h⟩) htake)
    | exact wpAny_bind (m := Builtin.Tuple.tupleExact _) (wpAny_newObj_type (wpAny_bind (wpAny_pure (wpAny_pure ⟨_, rfl, wpAny_pure h⟩))) htake)
    | exact wpAny_bind (wpAny_bind (m := Builtin.Tuple.tupleExact _) (wpAny_newObj_type (wpAny_pure (wpAny_pure ⟨_, rfl, wpAny_pure h⟩)) htake))
    | exact wpAny_bind (wpAny_bind (m := Builtin.Tuple.tupleExact _) (wpAny_newObj_type (wpAny_pure ⟨_, rfl, wpAny_pure h⟩) htake))
end
def gRev : D → (M → Prop) → Prop
  | .list xs, k => k (.lst xs.reverse)
  | .tuple xs, k => k (.fz (.tuple xs.reverse))
  | _, _ => False
theorem DtAll.rev {K : Fg} {F : Hp} : ∀ {vs : List V} {ds : List D}, DtAll K F vs ds → DtAll K F vs.reverse ds.reverse
  | _, _, .nil => .nil
  | _, _, .cons a r => by
    rw [List.reverse_cons, List.reverse_cons]
    exact (DtAll.rev r).append (.cons a .nil)
section
variable {X : Cx} {e : Expr} {fe : FE} {te : TE} {k : Nat} {p1 p2 p3 pos : Pos}
def tRevA (K : PySem.W.Frag) (te : TE) : TE := fun σ H Q => te σ H fun x H1 => (∃ a xs, x = .ref a ∧ SqL K H1 a xs ∧ ∀ p, H1 p = none → Q (.ref p) (upd H1 p (.lst xs.reverse))) ∨
  ∃ a xs, x = .ref a ∧ SqT K H1 a xs ∧ ∀ p us, H1 p = none → Q (.ref p) (upd H1 p (tupH us xs.reverse))
theorem pe_revA (he : PE X e te) : PE X (.Subscript e (.Slice none none (some (.UnaryOp .USub (.Constant (.int 1) k p1) p2)) p3) pos) (tRevA X.K te) := by
  refine ⟨fun pins s σ H Q I h => ?_⟩
  refine Subscript_ (thn (he.run pins s σ H _ I h) fun v s1 ⟨x, H1, I1, r1, q1⟩ => ?_)
  have hst : PO X (some (.UnaryOp .USub (.Constant (.int 1) k p1) p2)) (tPart (tUn (rU fun i => .int (-i)) (tC (.int 1)))) := po_some (pe_un un_neg pe_int)
  refine wpAny_Slice (thn (po_none.run pins s1 σ H1 (fun o H2 => o = none ∧ H2 = H1) I1 ⟨rfl, rfl⟩) fun vl s2 ⟨l, H2, I2, pl, el, e2⟩ => ?_)
  subst el e2
  refine thn (po_none.run pins s2 σ H2 (fun o H3 => o = none ∧ H3 = H2) I2 ⟨rfl, rfl⟩) fun vu s3 ⟨u, H3, I3, pu, eu, e3⟩ => ?_
  subst eu e3
  refine thn (hst.run pins s3 σ H3 (fun o H4 => o = some (-1) ∧ H4 = H3) I3 ⟨1, rfl, -1, rfl, rfl, rfl⟩) fun vs s4 ⟨o, H4, I4, ps, eo, e4⟩ => ?_
  subst eo e4
  have I5 : Inv X pins σ H4 { s4 with heap := s4.heap.push { cls := .type "slice", data := .fields #[vl, vu, vs] } } := I4.kept (t' := s4.toks) fun b ob q => Heap.get?_push_of_some _ q
  cases pl
  cases pu
  rcases q1 with ⟨a, xs, ex, hx, q⟩ | ⟨a, xs, ex, hx, q⟩
  · subst ex
    cases r1
    obtain ⟨its, r, ht, hz⟩ := I5.list hx
    have hlen := r.length
    show wpAny (model X.prog X.w) X.A (subscriptTail e (.Slice none none (some (.UnaryOp .USub (.Constant (.int 1) k p1) p2)) p3) (.ref a) (.ref s4.heap.objs.size)) (EP X pins σ Q) X.xe { s4 with heap := s4.heap.push { cls := .type "slice", data := .fields #[.none, .none, vs] } }
    refine tail_any (ops := [.ref a, .ref s4.heap.objs.size]) ht.isList.typeIs (PySem.slot_list_getitem.lookup) ?_ (by with_unfolding_all rfl)
    refine wpAny_getItem_list_slice ht.isList (Heap.IsSliceOf.new _ .none .none vs) .none .none ps (by decide) ?_ (by rw [List.size_toArray]; omega)
    rw [PySem.W.krv_pick]
    refine ⟨.ref _, _, I5.laid (t' := s4.toks) (o := .lst xs.reverse) (fun b ob q => Heap.get?_push_of_some _ q) (Nat.le_refl _) ?_, rfl, q _ (I5.hok.fresh (Nat.le_refl _))⟩
    exact ⟨by rw [List.length_reverse]; exact hz, _, 0, r.reverse, Heap.get?_push_size _ rfl⟩
  · subst ex
    cases r1
    obtain ⟨its, r, ht, hz⟩ := I5.tuple hx
    have hlen := r.length
    show wpAny (model X.prog X.w) X.A (subscriptTail e (.Slice none none (some (.UnaryOp .USub (.Constant (.int 1) k p1) p2)) p3) (.ref a) (.ref s4.heap.objs.size)) (EP X pins σ Q) X.xe { s4 with heap := s4.heap.push { cls := .type "slice", data := .fields #[.none, .none, vs] } }
    refine tail_any (ops := [.ref a, .ref s4.heap.objs.size]) ht.typeIs PyProof.Rows.slot_tuple_getitem.lookup ?_ (by with_unfolding_all rfl)
    refine getItem_tuple_back ht (Heap.IsSliceOf.new _ .none .none vs) ps ?_ (by omega)
    exact ⟨.ref _, _, Inv.laidT I5 (t' := s4.toks) (fun b ob q => Heap.get?_push_of_some _ q) (Nat.le_refl _) r.reverse (by rw [List.length_reverse]; exact hz) (Heap.get?_push_size _ rfl), rfl, q _ _ (I5.hok.fresh (Nat.le_refl _))⟩
def fRev (fe : FE) : FE := fun env Q W => fe env (fun r e1 => bindP (pkR r) fun x => bindP (pkA e1 x) fun d => gRev d fun m => Q (.val m) e1) W
theorem ve_rev (he : VE gp X e fe) : VE gp X (.Subscript e (.Slice none none (some (.UnaryOp .USub (.Constant (.int 1) k p1) p2)) p3) pos) (fRev fe) := fun G W t =>
  PE.imp (pe_revA (he G W t)) fun σ H Qh hw => by
    obtain ⟨F, env, Q, ok, hf, q⟩ := hw
    refine ⟨F, env, _, ok, hf, fun r env1 v F1 H1 ok1 l1 rr hq => ?_⟩
    obtain ⟨x, ex, hq⟩ := bindP_of hq
    obtain ⟨F2, ok2, l2, ax⟩ := rr.peek ok1 ex
    obtain ⟨d, ed, hq⟩ := bindP_of hq
    have pk := ax.pk ok2 ed
    cases d with
    | list xs =>
      obtain ⟨p, vs, rfl, h1, h2⟩ := pk.list ok2.sub
      refine .inl ⟨p, vs, rfl, h1.sqL, fun p' hp' => ?_⟩
      obtain ⟨ok5, fr⟩ := ok2.newLst hp' h2.rev
      exact q (.val _) _ _ _ _ ok5 (l1.trans l2) fr hq
    | tuple xs =>
      obtain ⟨p, vs, rfl, h1, h2⟩ := pk.tuple
      refine .inr ⟨p, vs, rfl, sqT_le ok2.sub h1.sqT, fun p' us hp' => ?_⟩
      obtain ⟨ok5, l5, fr⟩ := ok2.newTup (us := us) hp' h2.rev
      exact q (.val _) _ _ _ _ ok5 ((l1.trans l2).trans l5) fr hq
    | _ => exact hq.elim
end
/-! ### a < b < c < d -/
def fChain3 (g g' g'' : List D → (M → Prop) → Prop) (fa fb fc fd : FE) : FE := fun env Q W =>
  fa env (fun ra env1 => bindP (pkR ra) fun xa => fb env1 (fun rb env2 => bindP (pkR rb) fun xb => bindP (pkAs env2 [xa, xb]) fun ds => g ds fun m => match m with
    | .fz (.bool k) => if k = true then fc env2 (fun rc env3 => bindP (pkR rc) fun xc => bindP (pkAs env3 [xb, xc]) fun es => g' es fun m => match m with
        | .fz (.bool k) => if k = true then fd env3 (fun rd env4 => bindP (pkR rd) fun xd => bindP (pkAs env4 [xc, xd]) fun es => g'' es fun m => Q (.val m) env4) W else Q (.val (.fz (.bool false))) env3
        | _ => False) W else Q (.val (.fz (.bool false))) env2
    | _ => False) W) W
def tChain3 (r r' r'' : R2) (ta tb tc td : TE) : TE := fun σ H Q => ta σ H fun x H1 => tb σ H1 fun y H2 => r x y H2 fun z H3 => ∃ k, z = .bl k ∧
  (if k = true then tc σ H3 fun w' H4 => r' y w' H4 (fun z H5 => ∃ k, z = .bl k ∧ (if k = true then td σ H5 fun u' H6 => r'' w' u' H6 Q else Q (.bl false) H5)) else Q (.bl false) H3)
section
variable {X : Cx} {a b c d : Expr} {fa fb fc fd : FE} {ta tb tc td : TE} {pos : Pos} {g g' g'' : List D → (M → Prop) → Prop} {op op' op'' : CmpOp}
theorem pe_chain3 {r r' r'' : R2} (ho : OpR X (compareOp op) r) (ho' : OpR X (compareOp op') r') (ho'' : OpR X (compareOp op'') r'') (ha : PE X a ta) (hb : PE X b tb) (hc : PE X c tc) (hd : PE X d td)
    (hm : lastMarks [op, op', op''] [b, c, d] = false := by with_unfolding_all rfl) : PE X (.Compare a [op, op', op''] [b, c, d] pos) (tChain3 r r' r'' ta tb tc td) := by
  refine ⟨fun pins s σ H Q I h => ?_⟩
  refine Compare_chain (thn (ha.run pins s σ H _ I h) fun v s1 ⟨x, H1, I1, r1, q1⟩ => chain_link (thn (hb.run pins s1 σ H1 _ I1 q1) fun u s2 ⟨y, H2, I2, r2, q2⟩ =>
    thn (ho pins s2 σ H2 x y v u _ I2 r1 r2 q2) fun d s3 ⟨z, H3, I3, r3, k, e, q3⟩ => ?_)) hm
  subst e
  cases r3
  refine wpAny_truthy_bool ?_
  cases k with
  | false => exact ite_ff ⟨.bl false, H3, I3, rfl, q3⟩
  | true =>
    refine ite_tt (chain_link (thn (hc.run pins s3 σ H3 _ I3 q3) fun w' s4 ⟨z', H4, I4, r4, q4⟩ => thn (ho' pins s4 σ H4 y z' u w' _ I4 r2 r4 q4) fun d s5 ⟨z, H5, I5, r5, k, e, q5⟩ => ?_))
    subst e
    cases r5
    refine wpAny_truthy_bool ?_
    cases k with
    | false => exact ite_ff ⟨.bl false, H5, I5, rfl, q5⟩
    | true => exact ite_tt (chain_last (thn (hd.run pins s5 σ H5 _ I5 q5) fun w3 s6 ⟨z3, H6, I6, r6, q6⟩ => ho'' pins s6 σ H6 z' z3 w' w3 Q I6 r4 r6 q6))
theorem lift_chain3 {G : Gh} {W : KX} {σ : L2.St} {H : Hp} {Qh : VK} (hw : liftE X.K X.mg G W (fChain3 g g' g'' fa fb fc fd) σ H Qh) :
    tChain3 (fun x y H Q => rOp X σ g [x, y] H Q) (fun x y H Q => rOp X σ g' [x, y] H Q) (fun x y H Q => rOp X σ g'' [x, y] H Q) (liftE X.K X.mg G W fa) (liftE X.K X.mg G W fb) (liftE X.K X.mg G W fc) (liftE X.K X.mg G W fd) σ H Qh := by
  obtain ⟨F, env, Q, ok, hf, q⟩ := hw
  refine ⟨F, env, _, ok, hf, fun r env1 v F1 H1 ok1 l1 rr hq => ?_⟩
  obtain ⟨x, ex, hq⟩ := bindP_of hq
  obtain ⟨F2, ok2, l2, ax⟩ := rr.peek ok1 ex
  refine ⟨F2, env1, _, ok2, hq, fun r env2 v2 F3 H2 ok3 l3 rr2 hq => ?_⟩
  obtain ⟨y, ey, hq⟩ := bindP_of hq
  obtain ⟨F4, ok4, l4, ay⟩ := rr2.peek ok3 ey
  obtain ⟨ds, e, hq⟩ := bindP_of hq
  refine ⟨G, F4, env2, ds, _, ok4, (ArAll.cons (ax.le (l3.trans l4)) (.cons ay .nil)).pk ok4 e, hq, fun m z F5 H5 ok5 l5 fr hq => ?_⟩
  have l15 := ((l1.trans l2).trans (l3.trans l4)).trans l5
  cases m with
  | lst ds => exact hq.elim
  | dct ds => exact hq.elim
  | gl ds => exact hq.elim
  | adr ds => exact hq.elim
  | fz d =>
    cases d with
    | bool k =>
      refine ⟨k, bool_of fr.rm, ?_⟩
      cases k with
      | false => exact q (.val (.fz (.bool false))) env2 _ F5 H5 ok5 l15 (Free.fz (.bl false)) hq
      | true =>
        refine ⟨F5, env2, _, ok5, hq, fun r env3 v3 F6 H6 ok6 l6 rr3 hq => ?_⟩
        obtain ⟨z, ez, hq⟩ := bindP_of hq
        obtain ⟨F7, ok7, l7, az⟩ := rr3.peek ok6 ez
        obtain ⟨es, ee, hq⟩ := bindP_of hq
        refine ⟨G, F7, env3, es, _, ok7, (ArAll.cons (ay.le ((l5.trans l6).trans l7)) (.cons az .nil)).pk ok7 ee, hq, fun m z2 F8 H8 ok8 l8 fr hq => ?_⟩
        have l18 := (l15.trans (l6.trans l7)).trans l8
        cases m with
        | lst ds => exact hq.elim
        | dct ds => exact hq.elim
        | gl ds => exact hq.elim
        | adr ds => exact hq.elim
        | fz d =>
          cases d with
          | bool k =>
            refine ⟨k, bool_of fr.rm, ?_⟩
            cases k with
            | false => exact q (.val (.fz (.bool false))) env3 _ F8 H8 ok8 l18 (Free.fz (.bl false)) hq
            | true =>
              refine ⟨F8, env3, _, ok8, hq, fun r env4 v4 F9 H9 ok9 l9 rr4 hq => ?_⟩
              obtain ⟨w, ew, hq⟩ := bindP_of hq
              obtain ⟨Fa, oka, la, aw⟩ := rr4.peek ok9 ew
              obtain ⟨es2, ee2, hq⟩ := bindP_of hq
              exact ⟨G, Fa, env4, es2, _, oka, (ArAll.cons (az.le ((l8.trans l9).trans la)) (.cons aw .nil)).pk oka ee2, hq, fun m v F' H' ok' l fr hq => q (.val m) _ v F' H' ok' ((l18.trans (l9.trans la)).trans l) fr hq⟩
          | _ => exact hq.elim
    | _ => exact hq.elim
theorem ve_chain3 (ho : OpS X (act2 (compareOp op)) g) (ho' : OpS X (act2 (compareOp op')) g') (ho'' : OpS X (act2 (compareOp op'')) g'') (ha : VE gp X a fa) (hb : VE gp X b fb) (hc : VE gp X c fc) (hd : VE gp X d fd) (hm : lastMarks [op, op', op''] [b, c, d] = false := by with_unfolding_all rfl) :
    VE gp X (.Compare a [op, op', op''] [b, c, d] pos) (fChain3 g g' g'' fa fb fc fd) := fun G W t =>
  ⟨fun pins s σ H Qh I hw => (pe_chain3 (ho.opR σ) (ho'.opR σ) (ho''.opR σ) (ha G W t) (hb G W t) (hc G W t) (hd G W t) hm).run pins s σ H Qh I (lift_chain3 hw)⟩
theorem pt_chain3 {r r' r'' : R2} (ho : OpR X (compareOp op) r) (ho' : OpR X (compareOp op') r') (ho'' : OpR X (compareOp op'') r'') (ha : PE X a ta) (hb : PE X b tb) (hc : PE X c tc) (hd : PE X d td)
    (hm : lastMarks [op, op', op''] [b, c, d] = false := by with_unfolding_all rfl) : PT X (.Compare a [op, op', op''] [b, c, d] pos) (tTest (tChain3 r r' r'' ta tb tc td)) := by
  refine ⟨fun pins s σ H Q I h => ?_⟩
  refine isTrue_chain (thn (ha.run pins s σ H _ I h) fun v s1 ⟨x, H1, I1, r1, q1⟩ => test_link (thn (hb.run pins s1 σ H1 _ I1 q1) fun u s2 ⟨y, H2, I2, r2, q2⟩ =>
    thn (ho pins s2 σ H2 x y v u _ I2 r1 r2 q2) fun d s3 ⟨z, H3, I3, r3, k, e, q3⟩ => ?_)) hm
  subst e
  cases r3
  refine wpAny_truthy_bool ?_
  cases k with
  | false =>
    obtain ⟨k', e', q'⟩ := q3
    cases e'
    exact ite_ff ⟨H3, I3, q'⟩
  | true =>
    refine ite_tt (test_link (thn (hc.run pins s3 σ H3 _ I3 q3) fun w' s4 ⟨z', H4, I4, r4, q4⟩ => thn (ho' pins s4 σ H4 y z' u w' _ I4 r2 r4 q4) fun d' s5 ⟨z2, H5, I5, r5, k2, e2, q5⟩ => ?_))
    subst e2
    cases r5
    refine wpAny_truthy_bool ?_
    cases k2 with
    | false =>
      obtain ⟨k', e', q'⟩ := q5
      cases e'
      exact ite_ff ⟨H5, I5, q'⟩
    | true =>
      refine ite_tt (test_last (thn (hd.run pins s5 σ H5 _ I5 q5) fun w3 s6 ⟨z3, H6, I6, r6, q6⟩ => thn (ho'' pins s6 σ H6 z' z3 w' w3 _ I6 r4 r6 q6) fun d3 s7 ⟨z4, H7, I7, r7, k3, e3, q7⟩ => ?_))
      subst e3
      cases r7
      exact wpAny_truthy_bool ⟨H7, I7, q7⟩
theorem vt_chain3 (ho : OpS X (act2 (compareOp op)) g) (ho' : OpS X (act2 (compareOp op')) g') (ho'' : OpS X (act2 (compareOp op'')) g'') (ha : VE gp X a fa) (hb : VE gp X b fb) (hc : VE gp X c fc) (hd : VE gp X d fd) (hm : lastMarks [op, op', op''] [b, c, d] = false := by with_unfolding_all rfl) :
    VT gp X (.Compare a [op, op', op''] [b, c, d] pos) (fTB (fChain3 g g' g'' fa fb fc fd)) := fun G W t =>
  ⟨fun pins s σ H Qh I hw => (pt_chain3 (ho.opR σ) (ho'.opR σ) (ho''.opR σ) (ha G W t) (hb G W t) (hc G W t) (hd G W t) hm).run pins s σ H Qh I (lift_chain3 (lift_tb hw))⟩
end
end VL

/-! VyB: methods of data: index, count, split, join, upper. -/
namespace VL
open PySem PySem.Spec PyProof.Rows L2
/-- the type's name -/
def tyD : D → String
  | .none => "NoneType"
  | .bool _ => "bool"
  | .int _ => "int"
  | .str _ => "str"
  | .list _ => "list"
  | .tuple _ => "tuple"
  | .dict _ => "dict"
/-- the type of a list, a tuple, a text -/
def TyIs (T : String) (d : D) : Prop := tyD d = T ∧ tyD d ≠ "dict" ∧ tyD d ≠ "int" ∧ tyD d ≠ "bool" ∧ tyD d ≠ "NoneType"
theorem ty_l {xs : List D} : TyIs "list" (.list xs) := ⟨rfl, (show ¬ ("list" : String) = "dict" from by decide), (show ¬ ("list" : String) = "int" from by decide), (show ¬ ("list" : String) = "bool" from by decide), (show ¬ ("list" : String) = "NoneType" from by decide)⟩
theorem ty_t {xs : List D} : TyIs "tuple" (.tuple xs) := ⟨rfl, (show ¬ ("tuple" : String) = "dict" from by decide), (show ¬ ("tuple" : String) = "int" from by decide), (show ¬ ("tuple" : String) = "bool" from by decide), (show ¬ ("tuple" : String) = "NoneType" from by decide)⟩
theorem ty_s {z : Str} : TyIs "str" (.str z) := ⟨rfl, (show ¬ ("str" : String) = "dict" from by decide), (show ¬ ("str" : String) = "int" from by decide), (show ¬ ("str" : String) = "bool" from by decide), (show ¬ ("str" : String) = "NoneType" from by decide)⟩
/-- o.m(e, ..) of data -/
def fMeth (T : String) (g : List D → (M → Prop) → Prop) (fo : FE) (fa : FA) : FE := fun env Q W => fo env (fun r e1 => bindP (pkR r) fun x => bindP (pkA e1 x) fun d => TyIs T d ∧
  fa e1 (fun as e2 => bindP (pkAs e2 (x :: as)) fun ds => g ds fun m => Q (.val m) e2) W) W
section
variable {X : Cx} {G : Gh} {pins : List (Addr × Obj)} {σ τ : L2.St} {F H : Hp} {env : Env} {s : Shared} {v : V} {u : Value} {d : D}
theorem Pk.type (I : Inv X pins τ H s) (l : Le F H) (h : Pk X.K F H v d) (r : RelV v u) (n : tyD d ≠ "dict" ∧ tyD d ≠ "int" ∧ tyD d ≠ "bool" ∧ tyD d ≠ "NoneType") : s.TypeIs u (tyD d) ∧ ∀ a, u = .ref a → ∃ ob, s.heap.get? a = some ob ∧ ob.dict = none := by
  obtain ⟨n1, n2, n3, n4⟩ := n
  cases d with
  | none => exact absurd rfl n4
  | bool b => exact absurd rfl n3
  | int i => exact absurd rfl n2
  | dict es => exact absurd rfl n1
  | str z =>
    cases h.scal_str
    obtain ⟨t, rfl⟩ := r
    exact ⟨typeIs_str s z t, fun _ e => nomatch e⟩
  | list xs =>
    obtain ⟨a, vs, rfl, h1, h2⟩ := h.list l
    cases r
    obtain ⟨_, its, n, _, e⟩ := Inv.lstR I h1
    exact ⟨⟨_, e, rfl⟩, fun b eb => by cases eb; exact ⟨_, e, rfl⟩⟩
  | tuple xs =>
    obtain ⟨a, vs, rfl, h1, h2⟩ := h.tuple
    cases r
    obtain ⟨o, e, hc, hd⟩ := h1.obj I l
    exact ⟨⟨_, e, hc⟩, fun b eb => by cases eb; exact ⟨_, e, hd⟩⟩
end
section
variable {X : Cx} {o e : Expr} {es : List Expr} {fo : FE} {fa : FA} {name : Str} {T id : String} {g : List D → (M → Prop) → Prop} {apos cpos : Pos}
theorem ve_meth (pa : PlainAttrs T) (slot : Slot T name id) (hty : typeOf (.builtin id) = pure (.type "method_descriptor")) (hm : OpS X (fun us => call (.builtin id) us) g) (ho : VE gp X o fo) (ha : VA gp X (e :: es) fa)
    (hbase : attributeBase o name X.env (eval o X.env) = eval o X.env := by rfl)
    (hfew : ((backTo cpos (starEach (e :: es) X.env)).all (fun x => !x.1) && (backToKw cpos (keywordEach [] X.env)).all (fun x => x.1.isSome)
      && decide ((e :: es).length + ([] : List Keyword).length + (if ([] : List Keyword).isEmpty then 0 else 1) < 30)) = true := by rfl)
    (hline : (apos.endLine == cpos.line) = true := by rfl) (hs : starEach (e :: es) X.env = (false, eval e X.env) :: starEach es X.env := by rfl) (hplain : (backTo cpos (starEach es X.env)).any (·.1) = false := by rfl) :
    VE gp X (.Call (.Attribute o name apos) (e :: es) [] cpos) (fMeth T g fo fa) := fun G W t => by
  refine ⟨fun pins s σ H Qh I hw => ?_⟩
  obtain ⟨F, env, Q, ok, hf, q⟩ := hw
  refine wpAny_Call_method_late hbase hfew hline rfl (thn ((ho G W t).run pins s σ H (fun v H1 => ∃ F2 e1 x d, EnvOk X.K X.mg G F2 H1 σ e1 ∧ Le F F2 ∧ ArOk X.K X.mg F2 σ x v ∧ pkA e1 x = some d ∧ TyIs T d ∧
      fa e1 (fun as e2 => bindP (pkAs e2 (x :: as)) fun ds => g ds fun m => Q (.val m) e2) W) I ⟨F, env, _, ok, hf, fun r e1 v F1 H1 ok1 l1 rr hq => ?_⟩) fun v s1 ⟨z, H1, I1, r1, F2, e1, x, d, ok2, l2, ax, ed, hn, hq⟩ => ?_)
  · obtain ⟨x, ex, hq⟩ := bindP_of hq
    obtain ⟨F2, ok2, l2, ax⟩ := rr.peek ok1 ex
    obtain ⟨d, ed, hn, hq⟩ := bindP_of hq
    exact ⟨F2, e1, x, d, ok2, l1.trans l2, ax, ed, hn, hq⟩
  · have pk := ax.pk ok2 ed
    obtain ⟨h1, h2⟩ := pk.type I1 ok2.sub r1 hn.2
    rw [hn.1] at h1
    refine ⟨T, id, pa, slot, hty, h1, h2, ?_⟩
    have hA := (ha G W t).run cpos pins s1 σ H1 (fun vs H2 => ∃ F3 e2 as, EnvOk X.K X.mg G F3 H2 σ e2 ∧ Le F2 F3 ∧ ArAll X.K X.mg F3 σ as vs ∧ bindP (pkAs e2 (x :: as)) fun ds => g ds fun m => Q (.val m) e2) I1
      ⟨F2, e1, _, ok2, hq, fun as e2 vs F3 H3 ok3 l3 aa hq => ⟨F3, e2, as, ok3, l3, aa, hq⟩⟩
    rw [hs] at hA ⊢
    refine Calls.callWith_builtin (by show (false || (backTo cpos (starEach es X.env)).any (·.1)) = false; rw [hplain] <;> rfl) (Calls.evalArgs_plain ?_)
    refine thn hA fun us s2 ⟨vs, H2, I2, r2, F3, e2, as, ok3, l3, aa, hq⟩ => ?_
    obtain ⟨ds, eds, hq⟩ := bindP_of hq
    exact hm.run I2 (.cons r1 r2) ⟨G, F3, e2, ds, _, ok3, (ArAll.cons (ax.le l3) aa).pk ok3 eds, hq, fun m v F' H' ok' l fr hq => q (.val m) _ v F' H' ok' ((l2.trans l3).trans l) fr hq⟩
end
/-! ### index, count -/
section
variable {prog : Program} {w : World} {A : Around} {E : Value → Shared → Prop} {s : Shared} {l : Addr} {c : Value} {xs : List PyData} {x : Value} {d : PyData} {as bs : List Addr} {Q : Value → Shared → Prop} {j : Nat}
theorem index_list_data (rc : Reads s.heap (.ref l) (.list xs) as) (rx : Reads s.heap x d bs) (hxs : PyData.plainAll xs = true) (hd : d.plain = true) (hu : A.units + 1 + min (PyData.depthAll xs) d.depth < cLine)
    (hp : SeqAt.dataPlace xs d = some j) (hsz : xs.length ≤ 16777216) (h : Q (.int (j : Nat) s.toks) { s with toks := s.toks + 1 }) : wpAny (model prog w) A (call (.builtin "list.index") [.ref l, x]) Q E s := by
  cases rc with
  | @list _ o vs n _ _ ho hc hd' rs =>
    obtain ⟨cls, dd, data, sl⟩ := o
    simp only at hc hd'
    subst hc hd'
    obtain ⟨hj, hit, hno⟩ := SeqAt.hit_at rs hxs hp
    have hl := SeqAt.len_at rs
    exact call_meets PySem.F.slot_list_index ⟨_, ho, rfl⟩ PySem.F.entry_list_index (PySem.F.args_list_index_2 _ _) (SeqAt.list_indexAt l vs n dd sl x _ j hj (by omega) hit hno) ⟨ho, SeqAt.items_plain rs rx hxs hd hu, h⟩
theorem index_tuple_data (rc : Reads s.heap (.ref l) (.tuple xs) as) (rx : Reads s.heap x d bs) (hxs : PyData.plainAll xs = true) (hd : d.plain = true) (hu : A.units + 1 + min (PyData.depthAll xs) d.depth < cLine)
    (hp : SeqAt.dataPlace xs d = some j) (h : Q (.int (j : Nat) s.toks) { s with toks := s.toks + 1 }) : wpAny (model prog w) A (call (.builtin "tuple.index") [.ref l, x]) Q E s := by
  cases rc with
  | @tuple _ o vs n _ _ ho hc hd' rs =>
    obtain ⟨cls, dd, data, sl⟩ := o
    simp only at hc hd'
    subst hc hd'
    obtain ⟨hj, hit, hno⟩ := SeqAt.hit_at rs hxs hp
    exact call_meets PySem.F.slot_tuple_index ⟨_, ho, rfl⟩ PySem.F.entry_tuple_index (PySem.F.args_tuple_index_2 _ _) (TI.tuple_indexAt l vs n dd sl x _ j hj hit hno) ⟨ho, SeqAt.items_plain rs rx hxs hd hu, h⟩
end
def gIndexL : List D → (M → Prop) → Prop
  | [.list xs, d], k => Pl 60 (.list xs) ∧ Pl 60 d ∧ xs.length ≤ 16777216 ∧ ∃ j, SeqAt.dataPlace xs d = some j ∧ k (.fz (.int (j : Nat)))
  | _, _ => False
def gIndexT : List D → (M → Prop) → Prop
  | [.tuple xs, d], k => Pl 60 (.tuple xs) ∧ Pl 60 d ∧ ∃ j, SeqAt.dataPlace xs d = some j ∧ k (.fz (.int (j : Nat)))
  | _, _ => False
def gCountL : List D → (M → Prop) → Prop
  | [.list xs, d], k => Pl 60 (.list xs) ∧ Pl 60 d ∧ k (.fz (.int ((xs.countP fun y => PyData.eqv y d : Nat) : Int)))
  | _, _ => False
section
variable {X : Cx}
theorem os_two {id : String} {g : List D → (M → Prop) → Prop}
    (h : ∀ (G : Gh) (pins : List (Addr × Obj)) (s : Shared) (τ σ : L2.St) (F H : Hp) (env : Env) (d e : D) (v w : V) (u u' : Value) (Q : M → Prop), Inv X pins τ H s → EnvOk X.K X.mg G F H σ env → Pk X.K F H v d → Pk X.K F H w e → RelV v u → RelV w u' → g [d, e] Q →
      wpAny (model X.prog X.w) X.A (call (.builtin id) [u, u']) (PostM X pins τ σ G F env Q) X.xe s) (hg : ∀ ds Q, g ds Q → ∃ d e, ds = [d, e]) : OpS X (fun us => call (.builtin id) us) g := os_callR2 h hg
theorem plAll {n : Nat} {xs : List D} (h : Pl n (.tuple xs)) : PyData.plainAll xs = true ∧ PyData.depthAll xs ≤ n := by
  rw [Pl_tuple] at h
  obtain ⟨h1, h2⟩ := Pl.plainAll (n - 1) xs h.2
  exact ⟨h1, by omega⟩
theorem plAllL {n : Nat} {xs : List D} (h : Pl n (.list xs)) : PyData.plainAll xs = true ∧ PyData.depthAll xs ≤ n := by
  rw [Pl_list] at h
  obtain ⟨h1, h2⟩ := Pl.plainAll (n - 1) xs h.2
  exact ⟨h1, by omega⟩
theorem os_indexT (hu : X.A.units + 150 < cLine) : OpS X (fun us => call (.builtin "tuple.index") us) gIndexT := os_callR2 (fun G pins s τ σ F H env d e v w u u' Q I ok p1 p2 r1 r2 q => by
  unfold gIndexT at q
  split at q
  · rename_i Q' xs e' e1
    cases e1
    obtain ⟨q1, q2, j, hj, q⟩ := q
    obtain ⟨as, ra⟩ := Pk.reads I ok.sub p1 (Pl.plain _ _ q1).1 r1
    obtain ⟨bs, rb⟩ := Pk.reads I ok.sub p2 (Pl.plain _ _ q2).1 r2
    have h1 := plAll q1
    obtain ⟨p, vs, rfl, _, _⟩ := p1.tuple
    cases r1
    refine index_tuple_data ra rb h1.1 (Pl.plain _ _ q2).1 ?_ hj (fin_int (I.tok _) ok q)
    have h2 : min (PyData.depthAll xs) e.depth ≤ 60 := Nat.le_trans (Nat.min_le_left _ _) h1.2
    omega
  · exact q.elim) fun ds Q h => by
    unfold gIndexT at h
    split at h
    · exact ⟨_, _, rfl⟩
    · exact h.elim
theorem os_indexL (hu : X.A.units + 150 < cLine) : OpS X (fun us => call (.builtin "list.index") us) gIndexL := os_callR2 (fun G pins s τ σ F H env d e v w u u' Q I ok p1 p2 r1 r2 q => by
  unfold gIndexL at q
  split at q
  · rename_i Q' xs e' e1
    cases e1
    obtain ⟨q1, q2, hz, j, hj, q⟩ := q
    obtain ⟨as, ra⟩ := Pk.reads I ok.sub p1 (Pl.plain _ _ q1).1 r1
    obtain ⟨bs, rb⟩ := Pk.reads I ok.sub p2 (Pl.plain _ _ q2).1 r2
    have h1 := plAllL q1
    obtain ⟨p, vs, rfl, _, _⟩ := p1.list ok.sub
    cases r1
    refine index_list_data ra rb h1.1 (Pl.plain _ _ q2).1 ?_ hj hz (fin_int (I.tok _) ok q)
    have h2 : min (PyData.depthAll xs) e.depth ≤ 60 := Nat.le_trans (Nat.min_le_left _ _) h1.2
    omega
  · exact q.elim) fun ds Q h => by
    unfold gIndexL at h
    split at h
    · exact ⟨_, _, rfl⟩
    · exact h.elim
theorem os_countL (hu : X.A.units + 150 < cLine) : OpS X (fun us => call (.builtin "list.count") us) gCountL := os_callR2 (fun G pins s τ σ F H env d e v w u u' Q I ok p1 p2 r1 r2 q => by
  unfold gCountL at q
  split at q
  · rename_i Q' xs e' e1
    cases e1
    obtain ⟨q1, q2, q⟩ := q
    obtain ⟨as, ra⟩ := Pk.reads I ok.sub p1 (Pl.plain _ _ q1).1 r1
    obtain ⟨bs, rb⟩ := Pk.reads I ok.sub p2 (Pl.plain _ _ q2).1 r2
    have h1 := plAllL q1
    obtain ⟨p, vs, rfl, _, _⟩ := p1.list ok.sub
    cases r1
    have h2 : min (PyData.depthAll xs) e.depth ≤ 60 := Nat.le_trans (Nat.min_le_left _ _) h1.2
    cases ra with
    | list g1 g2 g3 g4 => exact SeqAt.count_list_data ⟨_, g1, g2, _, g3⟩ g4 rb h1.1 (Pl.plain _ _ q2).1 (by omega) (fin_int (I.tok _) ok q)
  · exact q.elim) fun ds Q h => by
    unfold gCountL at h
    split at h
    · exact ⟨_, _, rfl⟩
    · exact h.elim
end
/-! ### texts -/
def gSplit : List D → (M → Prop) → Prop
  | [.str a, .str b], k => (b.length == 0) = false ∧ a.length + 2 ≤ 16777216 ∧ k (.lst ((Txt.split a b).map .str))
  | _, _ => False
def gJoin : List D → (M → Prop) → Prop
  | [.str a, .list xs], k => ∃ ys : List Str, xs = ys.map .str ∧ (ys.map (·.length)).sum + ys.length * a.length ≤ 16777216 ∧ k (.fz (.str (Txt.join a ys)))
  | [.str a, .tuple xs], k => ∃ ys : List Str, xs = ys.map .str ∧ (ys.map (·.length)).sum + ys.length * a.length ≤ 16777216 ∧ k (.fz (.str (Txt.join a ys)))
  | _, _ => False
theorem dtAll_strs {K : Fg} {F : Hp} : ∀ {ys : List Str} {vs : List V}, DtAll K F vs (ys.map .str) → vs = ys.map V.str
  | [], _, .nil => rfl
  | y :: ys, _, .cons h r => by
    cases h
    rw [dtAll_strs r]
    rfl
theorem strs_dtAll {K : Fg} {F : Hp} : ∀ {ys : List Str}, DtAll K F (ys.map V.str) (ys.map .str)
  | [] => .nil
  | _ :: _ => .cons (.str _) strs_dtAll
section
variable {X : Cx}
theorem os_split : OpS X (fun us => call (.builtin "str.split") us) gSplit := os_callR2 (fun G pins s τ σ F H env d e v w u u' Q I ok p1 p2 r1 r2 q => by
  unfold gSplit at q
  split at q
  · rename_i Q' a b e1
    cases e1
    obtain ⟨hb, hz, q⟩ := q
    cases p1.scal_str
    cases p2.scal_str
    refine thn (mt_split pins s τ H (.str a) [.str b] u [u'] (fun v H' => ∃ p, H p = none ∧ v = .ref p ∧ H' = upd H p (.lst ((Txt.split a b).map V.str))) I r1 (.cons r2 .nil) ⟨a, b, rfl, rfl, hb, line_of hz, fun p hp => ⟨p, hp, rfl, rfl⟩⟩) fun z s' ⟨v, H', I', rv, p, hp, ev, eH⟩ => ?_
    subst ev eH
    obtain ⟨ok2, fr⟩ := ok.newLst hp (strs_dtAll (ys := Txt.split a b))
    exact ⟨.lst _, .ref p, F, _, I', rv, ok2, Le.refl _, fr, q⟩
  · exact q.elim) fun ds Q h => by
    unfold gSplit at h
    split at h
    · exact ⟨_, _, rfl⟩
    · exact h.elim
theorem os_join : OpS X (fun us => call (.builtin "str.join") us) gJoin := os_callR2 (fun G pins s τ σ F H env d e v w u u' Q I ok p1 p2 r1 r2 q => by
  unfold gJoin at q
  split at q
  · rename_i Q' a xs e1
    cases e1
    obtain ⟨ys, rfl, hz, q⟩ := q
    cases p1.scal_str
    obtain ⟨p, vs, rfl, h1, h2⟩ := p2.list ok.sub
    have := dtAll_strs h2
    subst this
    refine thn (mt_join pins s τ H (.str a) [.ref p] u [u'] (fun v H' => v = .str (Txt.join a ys) ∧ H' = H) I r1 (.cons r2 .nil) ⟨a, p, ys, rfl, rfl, .inl h1.sqL, hz, rfl, rfl⟩) fun z s' ⟨v, H', I', rv, ev, eH⟩ => ?_
    subst ev eH
    exact fin_dt I' ok rv (.str _) q
  · rename_i Q' a xs e1
    cases e1
    obtain ⟨ys, rfl, hz, q⟩ := q
    cases p1.scal_str
    obtain ⟨p, vs, rfl, h1, h2⟩ := p2.tuple
    have := dtAll_strs h2
    subst this
    refine thn (mt_join pins s τ H (.str a) [.ref p] u [u'] (fun v H' => v = .str (Txt.join a ys) ∧ H' = H) I r1 (.cons r2 .nil) ⟨a, p, ys, rfl, rfl, .inr (sqT_le ok.sub h1.sqT), hz, rfl, rfl⟩) fun z s' ⟨v, H', I', rv, ev, eH⟩ => ?_
    subst ev eH
    exact fin_dt I' ok rv (.str _) q
  · exact q.elim) fun ds Q h => by
    unfold gJoin at h
    split at h
    · exact ⟨_, _, rfl⟩
    · exact ⟨_, _, rfl⟩
    · exact h.elim
end
/-! ### x.extend(e) -/
def lotD : D → Option (List D)
  | .list ds => some ds
  | .tuple ds => some ds
  | _ => none
def fExt (i : Nat) (fe : FE) : FE := fun env Q W => bindP (lstAt env i) fun _ => fe env (fun r e1 => bindP (pkR r) fun x => bindP (pkA e1 x) fun d => bindP (lotD d) fun es => bindP (lstAt e1 i) fun ds => ds.length + es.length ≤ 16777216 ∧ Q (.val (.fz .none)) (putL e1 i (ds ++ es))) W

theorem ext_tuple (l : Addr) (items : Array Value) (n : Nat) (b : Addr) (items2 : Array Value) (n2 : Nat) (sl : Array (Option Value)) (hs0 : ¬(!items.isEmpty && Builtin.List.listTooLong (items.size + items2.size)) = true) (hs1 : items.size ≤ sizeLine) (hs2 : items.size + items2.size ≤ sizeLine + 1) :
    Meets (Builtin.«list.extend» ⟨[.ref l, .ref b], []⟩) (fun _ R s => s.heap.get? l = some { cls := .type "list", dict := none, data := .seq items n, slots := #[] } ∧ s.heap.get? b = some { cls := .type "tuple", dict := none, data := .seq items2 n2, slots := sl } ∧ R (.ok (.ret Value.none)) { s with heap := s.heap.update l (Obj.mapSeq fun x => x ++ items2), toks := s.toks }) :=
  .of_wp fun prog w A R s h => by
    obtain ⟨hp, g, d, tk, os⟩ := s; obtain ⟨hl, hb, h⟩ := h; have f1 := AutoSeq1.idx_int; have f2 := AutoSeq1.sub_tuple_tuple; have f3 := AutoSeq1.sub_list_list; have f4 := AutoSeq1.sub_tuple_list; have f5 := AutoSeq1.sub_list_tuple;
    have hz' : (items ++ items2).size ≤ sizeLine + 1 := by rw [Array.size_append]; exact hs2
    wp_walk using (wpAny_updateSeq hl rfl (hz := hs1) (_hz' := hz')), AutoSeq1.wpAny_loadPart' hl, AutoSeq1.wpAny_loadPart' hb; exact ⟨_, rfl, h⟩
section
variable {X : Cx} {x : Str} {i : Nat} {e : Expr} {fe : FE} {p apos cpos : Pos} {pins : List (Addr × Obj)} {σ : L2.St} {H F : Hp} {s : Shared}
theorem TpL.at' (I : Inv X pins σ H s) (l : Le F H) {a : Addr} {xs : List V} (h : TpL X.K F a xs) : xs.length ≤ sizeLine ∧ ∃ (its : List Value) (n : Nat) (sl : Array (Option Value)), Vals xs its ∧ s.heap.get? a = some { cls := .type "tuple", dict := none, data := .seq its.toArray n, slots := sl } := by
  obtain ⟨o, e, hc, hd⟩ := h.obj I l
  obtain ⟨its, r, ⟨o', e', hc', n, hd'⟩, z⟩ := I.tuple (sqT_le l h.sqT)
  rw [e] at e'
  cases e'
  obtain ⟨cls, dd, data, sl⟩ := o
  simp only at hc hd hd'
  subst hc hd hd'
  exact ⟨z, its, n, sl, r, e⟩
def rExtendA (K : PySem.W.Frag) : V → List V → Hp → VK → Prop := fun x vs H Q => ∃ l b xs zs, x = .ref l ∧ vs = [.ref b] ∧ H l = some (.lst xs) ∧ (LsL K H b zs ∨ ∃ F, Le F H ∧ TpL K F b zs) ∧ xs.length + zs.length ≤ sizeLine ∧ Q .non (upd H l (.lst (xs ++ zs)))
theorem mt_extendA : MtM X "list.extend" (rExtendA X.K) := by
  intro pins s σ H x vs v us Q I rx rv h
  obtain ⟨l, b, xs, zs, rfl, rfl, hH, hB, hz, q⟩ := h
  cases rx
  obtain ⟨u, rfl, ru⟩ := rv.one
  cases ru
  obtain ⟨z, its, n, r, hl, e⟩ := I.lstM hH
  have fin : ∀ its2, Vals zs its2 → EP X pins σ Q .none { s with heap := s.heap.update l (Obj.mapSeq fun x => x ++ its2.toArray), toks := s.toks } := fun its2 r2 => by
    refine ⟨.non, _, I.lset (its' := its ++ its2) hH e (by simp) (r.append r2) ?_, rfl, q⟩
    rw [List.length_append]
    exact hz
  rcases hB with hB | ⟨F, lF, hB⟩
  · obtain ⟨_, its2, n2, r2, e2⟩ := Inv.lstR I hB
    have e4 := r2.length
    have hsz : its.toArray.size + its2.toArray.size ≤ sizeLine := by rw [List.size_toArray, List.size_toArray]; omega
    have hlong : ¬ (!its.toArray.isEmpty && Builtin.List.listTooLong (its.toArray.size + its2.toArray.size)) = true := by
      rw [notLongL hsz, Bool.and_false]
      exact Bool.false_ne_true
    exact call_meets PySem.F.slot_list_extend ⟨_, e, rfl⟩ PySem.F.entry_list_extend (PySem.F.args_list_extend_2 _ _)
      (AutoSeq1.list_extend_list_list_0 l its.toArray n b its2.toArray n2 hlong (by rw [List.size_toArray]; omega) (by omega)) ⟨e, e2, fin its2 r2⟩
  · obtain ⟨_, its2, n2, sl, r2, e2⟩ := TpL.at' I lF hB
    have e4 := r2.length
    have hsz : its.toArray.size + its2.toArray.size ≤ sizeLine := by rw [List.size_toArray, List.size_toArray]; omega
    have hlong : ¬ (!its.toArray.isEmpty && Builtin.List.listTooLong (its.toArray.size + its2.toArray.size)) = true := by
      rw [notLongL hsz, Bool.and_false]
      exact Bool.false_ne_true
    exact call_meets PySem.F.slot_list_extend ⟨_, e, rfl⟩ PySem.F.entry_list_extend (PySem.F.args_list_extend_2 _ _)
      (ext_tuple l its.toArray n b its2.toArray n2 sl hlong (by rw [List.size_toArray]; omega) (by omega)) ⟨e, e2, fin its2 r2⟩
theorem ve_extend (hN : X.N[i]? = some x) (hv : Vis X.env.scope x) (he : VE gp X e fe) (hs : starEach [e] X.env = (false, eval e X.env) :: starEach [] X.env := by rfl)
    (hd : (x == ("__debug__" : Str)) = false := by decide) (hcd : (x == ("__classdict__" : Str)) = false := by decide) (hbase : attributeBase (.Name x p) "extend" X.env (eval (.Name x p) X.env) = eval (.Name x p) X.env := by rfl)
    (hfew : ((backTo cpos (starEach [e] X.env)).all (fun x => !x.1) && (backToKw cpos (keywordEach [] X.env)).all (fun x => x.1.isSome) && decide ([e].length + ([] : List Keyword).length + (if ([] : List Keyword).isEmpty then 0 else 1) < 30)) = true := by rfl)
    (hline : (apos.endLine == cpos.line) = true := by rfl) (hpl : (backTo cpos (starEach [] X.env)).any (·.1) = false := by rfl) : VE gp X (.Call (.Attribute (.Name x p) "extend" apos) [e] [] cpos) (fExt i fe) := fun G W t =>
  PE.imp (pe_bm PySem.F.plainAttrs_list PySem.F.slot_list_extend PySem.F.type_list_extend mt_extendA (pe_var hN hv hd hcd) (pa_cons (he G W t) pa_nil hs) hbase hfew hline hs hpl) fun σ H Qh hw => by
    obtain ⟨F, env, Q, ok, hf, q⟩ := hw
    obtain ⟨d0, e0, hf⟩ := bindP_of hf
    obtain ⟨a, vs, oa, sa, ha, fa, ra⟩ := ok.lstOf e0
    refine ⟨.ref a, sa, lst_ty ha, F, env, _, ok, hf, fun r e1 v F1 H1 ok1 l1 rr hq => ?_⟩
    obtain ⟨y, ey, hq⟩ := bindP_of hq
    obtain ⟨d, ed, hq⟩ := bindP_of hq
    obtain ⟨es, el, hq⟩ := bindP_of hq
    obtain ⟨ds, eds, hz, hq⟩ := bindP_of hq
    obtain ⟨F2, ok2, l2, ax⟩ := rr.peek ok1 ey
    have pk := ax.pk ok2 ed
    obtain ⟨b, ws, ob, sb, hb, fb, rb⟩ := ok2.lstOf eds
    rw [sa] at sb
    cases sb
    have hlen := rb.length
    have key : ∃ p zs, v = .ref p ∧ (LsL X.K H1 p zs ∨ ∃ F, Le F H1 ∧ TpL X.K F p zs) ∧ DtAll X.K F2 zs es := by
      cases d with
      | list xs =>
        cases el
        obtain ⟨p, zs, rfl, h1, h2⟩ := pk.list ok2.sub
        exact ⟨p, zs, rfl, .inl h1, h2⟩
      | tuple xs =>
        cases el
        obtain ⟨p, zs, rfl, h1, h2⟩ := pk.tuple
        exact ⟨p, zs, rfl, .inr ⟨F2, ok2.sub, h1⟩, h2⟩
      | _ => cases el
    obtain ⟨p, zs, rfl, hB, hzs⟩ := key
    have hlen2 := hzs.length
    exact ⟨a, p, ws, zs, rfl, rfl, hb, hB, by have := sizeLine_eq; omega, q (.val _) _ _ F2 _ (ok2.putL ob (rb.append hzs)) (l1.trans l2) (Free.fz .non) hq⟩
end
end VL

/-! VyC: tuples of the module; three names at once; many names at once. -/
namespace VL
open PySem PySem.Spec PyProof.Rows L2
/-- the data of a plain value -/
def valD : Value → Option D
  | .str x _ => some (.str x)
  | .int i _ => some (.int i)
  | .bool b => some (.bool b)
  | .none => some .none
  | _ => none
def valDs : List Value → Option (List D)
  | [] => some []
  | u :: us => match valD u with
    | some d => match valDs us with
      | some ds => some (d :: ds)
      | none => none
    | none => none
/-- a tuple of the module -/
def GTup (K : Fg) (mg : Mg) (x : Str) (ds : List D) : Prop := ∃ (a : Addr) (n : Nat) (its : Array Value) (sl : Array (Option Value)), mg x = some (.ref a) ∧ K.lookup a = some ⟨.type "tuple", none, .seq its n, sl⟩ ∧ valDs its.toList = some ds ∧ Nat.ble its.size 10000 = true
theorem dt_valD {K : Fg} {F : Hp} {u : Value} {d : D} (h : valD u = some d) : ∃ v : V, RelV v u ∧ Dt K F v d := by
  cases u with
  | str x t => cases h; exact ⟨.str x, ⟨t, rfl⟩, .str x⟩
  | int i t => cases h; exact ⟨.int i, ⟨t, rfl⟩, .int i⟩
  | bool b => cases h; exact ⟨.bl b, rfl, .bl b⟩
  | none => cases h; exact ⟨.non, rfl, .non⟩
  | _ => cases h
theorem dt_valDs {K : Fg} {F : Hp} : ∀ {us : List Value} {ds : List D}, valDs us = some ds → ∃ vs : List V, Vals vs us ∧ DtAll K F vs ds
  | [], _, h => by cases h; exact ⟨[], .nil, .nil⟩
  | u :: us, ds, h => by
    unfold valDs at h
    split at h
    · split at h
      · rename_i d e1 _ ds' e2
        cases h
        obtain ⟨v, r, hd⟩ := dt_valD (K := K) (F := F) e1
        obtain ⟨vs, rs, hds⟩ := dt_valDs (K := K) (F := F) e2
        exact ⟨v :: vs, .cons r rs, .cons hd hds⟩
      · cases h
    · cases h
section
variable {X : Cx}
theorem ve_gT {x : Str} {pos : Pos} {ds : List D} (hg : Gl X x) (h : GTup X.K X.mg x ds) (hb : (x == ("__debug__" : Str)) = false := by decide) : VE gp X (.Name x pos) (fC (.tuple ds)) := by
  obtain ⟨a, n, its, sl, h1, h2, h3, h4⟩ := h
  refine ve_glob (v := .ref a) hg h1 rfl (fun F => ?_) hb
  obtain ⟨vs, r, hd⟩ := dt_valDs (K := X.K) (F := F) h3
  have h4 := Nat.le_of_ble_eq_true h4
  exact .tup (.inr ⟨_, its, n, h2, rfl, rfl, rfl, by have := sizeLine_eq; omega, r⟩) hd
end
end VL

set_option maxHeartbeats 4000000
/-! VyD: dict comprehensions; x.update(e). -/
namespace VL
open PySem PySem.Spec PyProof.Rows L2
def fDcL (vs : List Nat) (g : FG) (ft : FT) (fk fe : FE) : List D → Kes → Env → (Kes → Env → Prop) → Prop
  | [], acc, env, k => k acc env
  | d :: ds, acc, env, k => g d (wipeE env vs) fun e1 => ft e1 (fun b e2 =>
      if b = true then fk e2 (fun r1 e3 => bindP (lkR e3 r1) fun x => bindP (dOf x.1) fun kd => fe x.2 (fun r2 e4 => bindP (lkR e4 r2) fun y => bindP (dOf y.1) fun dv => ∃ kk : Key, kd = kD kk ∧ fDcL vs g ft fk fe ds (putKes acc kk dv) (restE env y.2 vs) k) W0) W0
      else fDcL vs g ft fk fe ds acc (restE env e2 vs) k) W0
def fDc (w : FW) (vs : List Nat) (g : FG) (ft : FT) (fk fe : FE) : FE := fun env Q W => w env (fun ds e1 => offB e1 vs = true ∧ ds.length ≤ 16777216 ∧ fDcL vs g ft fk fe ds [] e1 fun kes e2 => Q (.val (.dct (dctD kes))) e2) W
theorem length_putKes (kes : Kes) (k : Key) (d : D) : (putKes kes k d).length ≤ kes.length + 1 := by
  unfold putKes
  split
  · rw [List.length_map]; omega
  · rw [List.length_append, List.length_singleton]; exact Nat.le_refl _
section
variable {X : Cx} {kx elt tg iter : Expr} {ifs : List Expr} {scope : Scope} {own : List (Str × Nat)} {is : List Nat} {pos : Pos} {w : FW} {pr : Bool} {g : FG} {ft : FT} {fk fe : FE}
theorem dc_lift {gp : Gp} (stb : Stb gp) {G : Gh} (hp : gp G) {W : KX} {σ : L2.St} {H : Hp} {Qh : VK} {vs : List Nat} (hw : liftE X.K X.mg G W (fDc w vs g ft fk fe) σ H Qh) : tDc (liftI X.K X.mg G W pr w) (someG X.K X.mg vs pr g) (someT gp X.K X.mg ft) (someE gp X.K X.mg fk) (someE gp X.K X.mg fe) vs σ H Qh := by
  obtain ⟨F, env, Q, ok, hf, q⟩ := hw
  refine ⟨F, env, _, ok, hf, fun ds e1 F1 H1 J ok1 l1 wk hq => ?_⟩
  obtain ⟨hb, hz, hq⟩ := hq
  intro D hD
  refine ⟨fun i m H => i + m = ds.length ∧ ∃ F2 e2 accV acc, EnvOk X.K X.mg G F2 H σ e2 ∧ Le F1 F2 ∧ offB e2 vs = true ∧ H D = some (.dK accV) ∧ F2 D = none ∧ G.H0 D = none ∧ (∀ j, ¬ OwnAt σ e2.sl j D) ∧ Kvs X.K F2 accV acc ∧ acc.length ≤ i ∧
      fDcL vs g ft fk fe (ds.drop i) acc e2 fun kes e3 => Q (.val (.dct (dctD kes))) e3, ⟨ds.length, Nat.zero_add _, F1, e1, [], [], ok1.newH hD, Le.refl _, hb, upd_same, ?_, ok1.dom _ hD, fun j z => ?_, .nil, Nat.le_refl _, hq⟩, fun i m H2 hW => ?_⟩
  · cases e : F1 D with
    | none => rfl
    | some o => rw [ok1.sub _ _ e] at hD; cases hD
  · obtain ⟨_, u, hu, _⟩ := z.some ok1
    rw [hD] at hu; cases hu
  obtain ⟨em, F2, e2, accV, acc, ok2, l2, hb2, hDa, hFD, hGD, hnD, racc, hlen, q2⟩ := hW
  by_cases hlt : i < ds.length
  · refine .inr ⟨wk.go i H2 hlt (l2.trans ok2.sub), fun H' => ∃ F3 e3 accV acc, EnvOk X.K X.mg G F3 H' σ e3 ∧ Le F1 F3 ∧ offB e3 vs = true ∧ H' D = some (.dK accV) ∧ F3 D = none ∧ G.H0 D = none ∧ (∀ j, ¬ OwnAt σ e3.sl j D) ∧ Kvs X.K F3 accV acc ∧ acc.length ≤ i + 1 ∧
        fDcL vs g ft fk fe (ds.drop (i + 1)) acc e3 fun kes e4 => Q (.val (.dct (dctD kes))) e4, fun H' h => ⟨m - 1, by omega, by omega, h⟩, fun x H' y => ?_⟩
    obtain ⟨d, ed, ok3, gv, kH⟩ := wk.item ok2 l2 hlt y
    rw [drop_at ed] at q2
    have hDa3 := kH _ _ hDa
    have keep : ∀ {F5 H5 : Hp} {σ5 : L2.St} {e5 : Env}, EnvOk X.K X.mg (G.now F2 H' (wipe σ vs) (wipeS e2.sl vs)) F5 H5 σ5 e5 → wipe σ5 vs = wipe σ vs →
        H5 D = some (.dK accV) ∧ F5 D = none ∧ (∀ j, ¬ OwnAt σ (restE e2 e5 vs).sl j D) := fun {F5 H5 σ5 e5} ok5 w5 => by
      have no : ¬ (∃ i, OwnAt (wipe σ vs) (wipeS e2.sl vs) i D) := fun ⟨i, z⟩ => hnD i (own_wipe z).1
      refine ⟨ok5.frame D _ hDa3 no (fun ps z => by cases z), ?_, fun j z => ?_⟩
      · cases q : F5 D with
        | none => rfl
        | some o =>
          rcases ok5.newF D o q with z | z | z
          · rw [show F2 D = some o from z] at hFD; cases hFD
          · rw [show H' D = none from z] at hDa3; cases hDa3
          · exact (no z).elim
      · obtain ⟨m', z1, z2, z3⟩ := z
        rcases restS_some z1 with ⟨h1, h2⟩ | ⟨h1, h2⟩
        · have z3' : σ5[j]? = some (some (.ref D)) := by rw [← wipe_out h1, w5, wipe_out h1]; exact z3
          rcases ok5.newO j D ⟨m', h2, z2, z3'⟩ with z | z
          · exact no z
          · rw [show H' D = none from z] at hDa3; cases hDa3
        · exact hnD j ⟨m', h2, z2, z3⟩
    have okE := EnvOk.enter (vs := vs) ok3 hb2
    refine ⟨_, F2, wipeE e2 vs, d, _, okE, gv, q2, fun σ4 e4 w4 ok4 q4 => ⟨by rw [w4]; exact wipe_wipe, ?_⟩⟩
    have w4' : wipe σ4 vs = wipe σ vs := by rw [w4]; exact wipe_wipe
    refine ⟨_, stb _ _ _ _ _ hp, F2, e4, _, ok4, q4, fun b e5 F5 H5 ok5 l5 q5 => ?_⟩
    cases b with
    | false =>
      simp only [Bool.false_eq_true, if_false] at q5 ⊢
      obtain ⟨k1, k2, k3⟩ := keep ok5 w4'
      exact ⟨F5, restE e2 e5 vs, accV, acc, EnvOk.back ok3 hb2 ok5 w4', l2.trans l5, hb2, k1, k2, hGD, k3, racc.le l5, by omega, q5⟩
    | true =>
      simp only [if_true] at q5 ⊢
      refine ⟨_, stb _ _ _ _ _ hp, F5, e5, _, ok5, q5, fun r e6 v F6 H6 ok6 l6 rr q6 => ?_⟩
      obtain ⟨⟨x, e7⟩, ex, q6⟩ := bindP_of q6
      obtain ⟨kd, ekd, q6⟩ := bindP_of q6
      obtain ⟨F7, ok7, l7, ax⟩ := rr.leak ok6 ex
      refine ⟨_, stb _ _ _ _ _ hp, F7, e7, _, ok7, q6, fun r2 e8 v2 F8 H8 ok8 l8 rr2 q8 => ?_⟩
      obtain ⟨⟨y, e9⟩, ey, q8⟩ := bindP_of q8
      obtain ⟨dv, edv, kk, ekk, q9⟩ := bindP_of q8
      clear q8
      obtain ⟨F9, ok9, l9, ay⟩ := rr2.leak ok8 ey
      have q1 := dOf_is ekd
      have q2 := dOf_is edv
      dsimp only at q1 q2
      subst q1 q2 ekk
      have ev : v = kV kk := dt_kV (show Dt X.K F7 v (kD kk) from ax)
      subst ev
      obtain ⟨k1, k2, k3⟩ := keep ok9 w4'
      have l29 : Le F2 F9 := l5.trans (l6.trans (l7.trans (l8.trans l9)))
      have hs : sizeLine = 16777216 := sizeLine_eq
      refine ⟨accV, kk, rfl, k1, ?_, F9, restE e2 e9 vs, putK accV kk v2, putKes acc kk dv, EnvOk.other (EnvOk.back ok3 hb2 ok9 w4') k1 True.intro k2 k3 hGD, l2.trans l29, hb2, upd_same, k2, hGD, k3, (racc.le l29).put (show Dt X.K F9 v2 dv from ay), ?_, q9⟩
      · rw [racc.len]; omega
      · have := length_putKes acc kk dv; omega
  · have e : i = ds.length := by omega
    subst e
    rw [List.drop_length] at q2
    refine .inl ⟨wk.stop H2 (l2.trans ok2.sub), ?_⟩
    exact q (.val (.dct (dctD acc))) e2 (.ref D) F2 H2 ok2 (l1.trans l2) ⟨⟨D, rfl, hFD, .inl ⟨accV, hDa, racc.dt⟩⟩, fun _ b eb => by cases eb; exact ⟨hGD, hnD⟩⟩ q2
theorem ve_dc (hc : X.calm = true) (hN : X.N.Nodup) (hi : VI gp X tg iter pr w) (ok : BlkOk X.N X.env.scope scope own)
    (hg : ∀ (s : Shared) (H : Hp) (C : Addr) (cl : List (Str × Addr)) (fp : List Addr), VGp (X.blk s H scope (compEnvC scope cl C X.env) fp) tg is pr g)
    (ht : ∀ (s : Shared) (H : Hp) (C : Addr) (cl : List (Str × Addr)) (fp : List Addr), VTs gp (X.blk s H scope (compEnvC scope cl C X.env) fp) ifs ft)
    (hk : ∀ (s : Shared) (H : Hp) (C : Addr) (cl : List (Str × Addr)) (fp : List Addr), VE gp (X.blk s H scope (compEnvC scope cl C X.env) fp) kx fk)
    (he : ∀ (s : Shared) (H : Hp) (C : Addr) (cl : List (Str × Addr)) (fp : List Addr), VE gp (X.blk s H scope (compEnvC scope cl C X.env) fp) elt fe) (hv : ∀ i ∈ is, i ∈ own.map (·.2) := by decide)
    (hs : ∀ x, foldedSetIterable iter X.env x = pure x := by intro _; rfl) (stb : Stb gp := by exact stbT) : VE gp X (.DictComp kx elt [⟨tg, iter, ifs, 0⟩] scope pos) (fDc w (own.map (·.2)) g ft fk fe) := fun G W t =>
  PE.imp (pe_dc hc hN (hi G W t) ok (fun s H C cl fp => some_g (hg s H C cl fp) hv) (fun s H C cl fp => some_t (ht s H C cl fp) rfl) (fun s H C cl fp => some_e (hk s H C cl fp) rfl) (fun s H C cl fp => some_e (he s H C cl fp) rfl) hs) fun σ H Qh hw => dc_lift stb t.1 hw
end
/-! ### x.update(e) -/
def mergeKes (kes more : Kes) : Kes := more.foldl (fun acc p => putKes acc p.1 p.2) kes
theorem Kvs.merge {K : Fg} {F : Hp} : ∀ {more : List (Key × V)} {mes : Kes} {kvs : List (Key × V)} {kes : Kes}, Kvs K F more mes → Kvs K F kvs kes → Kvs K F (mergeK kvs more) (mergeKes kes mes)
  | _, _, _, _, .nil, h => h
  | _, _, _, _, .cons (k := k) a r, h => by
    have := Kvs.merge r (h.put (k := k) a)
    exact this
def fUpdD (i : Nat) (fe : FE) : FE := fun env Q W => bindP (dctAt env i) fun _ => fe env (fun r e1 => ∃ mes, r = .val (.dct (dctD mes)) ∧ bindP (dctAt e1 i) fun es => ∃ kes, es = dctD kes ∧ kes.length + mes.length ≤ 16777216 ∧ Q (.val (.fz .none)) (putDc e1 i (dctD (mergeKes kes mes)))) W
section
variable {X : Cx} {x : Str} {i : Nat} {e : Expr} {fe : FE} {p apos cpos : Pos}
def rUpdK : V → List V → Hp → VK → Prop := fun x vs H Q => ∃ d o kvs more, x = .ref d ∧ vs = [.ref o] ∧ d ≠ o ∧ H d = some (.dK kvs) ∧ H o = some (.dK more) ∧ kvs.length + more.length ≤ sizeLine ∧ Q .non (upd H d (.dK (mergeK kvs more)))
theorem mt_updK : MtR X "dict.update" rUpdK := by
  intro pins s σ H x vs v us Q I rx rv h
  obtain ⟨d, o, kvs, more, rfl, rfl, hne, hd, ho, hz, q⟩ := h
  cases rx
  obtain ⟨u, rfl, ru⟩ := rv.one
  cases ru
  obtain ⟨z1, hsd, vs1, rel1, dd1⟩ := dk_of I.hok hd
  obtain ⟨z2, hso, vs2, rel2, dd2⟩ := dk_of I.hok ho
  refine call_meetsIn PySem.F.slot_dict_update dd1.typeIs PySem.F.entry_dict_update (PySem.F.args_dict_update_2 _ _) (meets_dict_update (mixKind X.prog X.w) d o hne hso)
    ⟨vs1, vs2, dd1, dd2, by rw [← rel1.length, ← rel2.length]; exact hz, fun h' dd' _ hs => ?_⟩
  have he : ∃ q, h'.get? d = some q := let ⟨q, _, _, hq, _⟩ := dd'; ⟨q, hq⟩
  have hl := length_mergeK more kvs
  exact ⟨.non, _, d_write I (by rw [hd]; exact True.intro) hs he (dk_new (by omega) hsd (KV.merge rel2 rel1) dd'), rfl, q⟩
theorem dct_ty {H : Hp} {K : Fg} {a : Addr} {kvs : List (Key × V)} (h : H a = some (.dK kvs)) : tyV K "dict" (.ref a) H := .inr (.inr (.inl ⟨rfl, .inl ⟨kvs, h⟩⟩))
theorem ve_updD (hN : X.N[i]? = some x) (hv : Vis X.env.scope x) (he : VE gp X e fe) (hs : starEach [e] X.env = (false, eval e X.env) :: starEach [] X.env := by rfl)
    (hd : (x == ("__debug__" : Str)) = false := by decide) (hcd : (x == ("__classdict__" : Str)) = false := by decide) (hbase : attributeBase (.Name x p) "update" X.env (eval (.Name x p) X.env) = eval (.Name x p) X.env := by rfl)
    (hfew : ((backTo cpos (starEach [e] X.env)).all (fun x => !x.1) && (backToKw cpos (keywordEach [] X.env)).all (fun x => x.1.isSome) && decide ([e].length + ([] : List Keyword).length + (if ([] : List Keyword).isEmpty then 0 else 1) < 30)) = true := by rfl)
    (hline : (apos.endLine == cpos.line) = true := by rfl) (hpl : (backTo cpos (starEach [] X.env)).any (·.1) = false := by rfl) : VE gp X (.Call (.Attribute (.Name x p) "update" apos) [e] [] cpos) (fUpdD i fe) := fun G W t =>
  PE.imp (pe_bm PySem.F.plainAttrs_dict PySem.F.slot_dict_update PySem.F.type_dict_update mt_updK (pe_var hN hv hd hcd) (pa_cons (he G W t) pa_nil hs) hbase hfew hline hs hpl) fun σ H Qh hw => by
    obtain ⟨F, env, Q, ok, hf, q⟩ := hw
    obtain ⟨d0, e0, hf⟩ := bindP_of hf
    obtain ⟨a, oa, sa, fa, ra⟩ := ok.dctOf e0
    have hty : tyV X.K "dict" (.ref a) H := by
      rcases ra with ⟨kvs, h1, _⟩ | ⟨kvs, h1, _⟩
      · exact dct_ty h1
      · exact .inr (.inr (.inl ⟨rfl, .inr ⟨_, h1⟩⟩))
    refine ⟨.ref a, sa, hty, F, env, _, ok, hf, fun r e1 v F1 H1 ok1 l1 rr hq => ?_⟩
    obtain ⟨mes, er, hq⟩ := hq
    subst er
    obtain ⟨es, ees, kes, eq, hz, hq⟩ := bindP_of hq
    subst eq
    obtain ⟨b, ob, sb, fb, rb⟩ := ok1.dctOf ees
    rw [sa] at sb
    cases sb
    obtain ⟨c, ec, hFc, rc⟩ : ∃ c, v = .ref c ∧ F1 c = none ∧ DctAt X.K F1 H1 c (dctD mes) := rr.rm
    subst ec
    obtain ⟨kvs, hb, rk⟩ := dctAt_kes rb
    obtain ⟨more, hc, rm⟩ := dctAt_kes rc
    have hne : a ≠ c := fun z => (rr.new rfl c rfl).2 i (z ▸ ob)
    have hs : sizeLine = 16777216 := sizeLine_eq
    exact ⟨a, c, kvs, more, rfl, rfl, hne, hb, hc, by rw [rk.len, rm.len]; omega, q (.val (.fz .none)) _ .non F1 _ (ok1.putDc ob (Kvs.merge rm rk)) l1 (Free.fz .non) hq⟩
end
end VL

set_option maxHeartbeats 2000000
/-! VyE: many names at once: a, b, c = e, f, g with own things. -/
namespace VL
open PySem PySem.Spec PyProof.Rows L2
/-- values side by side -/
def fOwns : List FE → Env → (List M → Env → Prop) → KX → Prop
  | [], env, Q, _ => Q [] env
  | f :: fs, env, Q, W => f env (fun r e1 => bindP (ownR e1 r) fun x => fOwns fs x.2 (fun ms e2 => Q (x.1 :: ms) e2) W) W
inductive Frees (K : Fg) (mg : Mg) (G : Gh) (F H : Hp) (σ : L2.St) (env : Env) : List M → List V → Prop
  | nil : Frees K mg G F H σ env [] []
  | cons {m : M} {v : V} {ms : List M} {vs : List V} : Free K mg G F H σ env m v → Frees K mg G F H σ env ms vs → (isOwn m = true → ∀ a, v = .ref a → ∀ (j : Nat) (m' : M), ms[j]? = some m' → isOwn m' = true → vs[j]? ≠ some (V.ref a)) → Frees K mg G F H σ env (m :: ms) (v :: vs)
section
variable {K : Fg} {mg : Mg} {G : Gh} {F F' H H' : Hp} {σ σ' : L2.St} {env env' : Env} {m : M} {v : V} {ms : List M} {vs : List V}
theorem Frees.at (h : Frees K mg G F H σ env ms vs) : ∀ {j : Nat} {m : M}, ms[j]? = some m → ∃ v, vs[j]? = some v ∧ Free K mg G F H σ env m v := by
  induction h with
  | nil => intro j m e; simp at e
  | cons a _ _ ih =>
    intro j m e
    cases j with
    | zero => cases e; exact ⟨_, rfl, a⟩
    | succ j => exact ih (j := j) e
/-- of a later moment's ghost: the entry's -/
theorem Frees.lift (ok : EnvOk K mg G F H σ env) (h : Frees K mg (G.now F H σ env.sl) F' H' σ' env' ms vs) : Frees K mg G F' H' σ' env' ms vs := by
  induction h with
  | nil => exact .nil
  | cons a _ d ih => exact .cons ⟨a.rm, fun o b eb => ⟨ok.dom b (a.new o b eb).1, (a.new o b eb).2⟩⟩ ih d
theorem Frees.len (h : Frees K mg G F H σ env ms vs) : vs.length = ms.length := by
  induction h with
  | nil => rfl
  | cons _ _ _ ih => rw [List.length_cons, List.length_cons, ih]
/-- a new thing beside them -/
theorem Frees.newH (ok : EnvOk K mg G F H σ env) {p : Addr} {o : HO} (hp : H p = none) (h : Frees K mg G F H σ env ms vs) : Frees K mg G F (upd H p o) σ env ms vs := by
  induction h with
  | nil => exact .nil
  | cons a _ d ih =>
    refine .cons ⟨a.rm.le (Le.refl _) fun o b eb => ?_, a.new⟩ ih d
    obtain ⟨c, u, e1, e2, e3, _⟩ := a.rm.own o
    rw [eb] at e1
    cases e1
    have hb : b ≠ p := fun z => by rw [z, hp] at e3; cases e3
    exact ⟨upd_ne hb, e2⟩
def setAll (sl : Slots) : List Nat → List M → Slots
  | i :: is, m :: ms => setAll (sl.set i (some m)) is ms
  | _, _ => sl
def setAllσ (σ : L2.St) : List Nat → List V → L2.St
  | i :: is, v :: vs => setAllσ (σ.set i (some v)) is vs
  | _, _ => σ
/-- stored one behind another -/
theorem EnvOk.storeAll : ∀ {is : List Nat} {ms : List M} {vs : List V} {σ : L2.St} {env : Env}, EnvOk K mg G F H σ env → (∀ i ∈ is, i < env.sl.length ∧ i ∉ env.bor) → ms.length = is.length → Frees K mg G F H σ env ms vs → EnvOk K mg G F H (setAllσ σ is vs) { env with sl := setAll env.sl is ms }
  | [], [], _, _, _, ok, _, _, _ => ok
  | [], _ :: _, _, _, _, _, _, hl, _ => by simp at hl
  | _ :: _, [], _, _, _, _, _, hl, _ => by simp at hl
  | i :: is, m :: ms, vs, σ, env, ok, hi, hl, h => by
    cases h with
    | @cons _ v _ vs a r d =>
      obtain ⟨h1, h2⟩ := hi i List.mem_cons_self
      have ok2 := ok.store h1 h2 a
      have rest : Frees K mg G F H (σ.set i (some v)) { env with sl := env.sl.set i (some m) } ms vs := by
        have gen : ∀ {ms : List M} {vs : List V}, Frees K mg G F H σ env ms vs → (isOwn m = true → ∀ a, v = .ref a → ∀ (j : Nat) (m' : M), ms[j]? = some m' → isOwn m' = true → vs[j]? ≠ some (V.ref a)) → Frees K mg G F H (σ.set i (some v)) { env with sl := env.sl.set i (some m) } ms vs := by
          intro ms vs r
          induction r with
          | nil => intro _; exact .nil
          | @cons m' v' ms vs b _ d' ih =>
            intro dd
            refine .cons ⟨b.rm, fun o c ec => ⟨(b.new o c ec).1, fun k z => ?_⟩⟩ (ih fun o c ec j m2 e2 o2 => dd o c ec (j + 1) m2 e2 o2) d'
            by_cases hk : k = i
            · subst hk
              obtain ⟨m1, g1, g2, g3⟩ := z
              rw [List.getElem?_set_self h1] at g1
              rw [List.getElem?_set_self (by rw [← ok.len]; exact h1)] at g3
              cases g1
              cases g3
              exact dd g2 c rfl 0 m' rfl o (by rw [ec]; rfl)
            · exact (b.new o c ec).2 k ((OwnAt.set_other hk).mp z)
        exact gen r d
      refine EnvOk.storeAll (is := is) (env := { env with sl := env.sl.set i (some m) }) ok2 (fun j hj => ?_) (by simpa using hl) rest
      obtain ⟨g1, g2⟩ := hi j (List.mem_cons_of_mem _ hj)
      exact ⟨by show j < (env.sl.set i (some m)).length; rw [List.length_set]; exact g1, g2⟩
end
/-! ### evaluated side by side -/
def liftN (K : Fg) (mg : Mg) (G : Gh) (W : KX) (fs : List FE) : TA := fun σ H Qh => ∃ F env Q, EnvOk K mg G F H σ env ∧ fOwns fs env Q W ∧
  ∀ ms env' vs F' H', EnvOk K mg G F' H' σ env' → Le F F' → Frees K mg G F' H' σ env' ms vs → Q ms env' → Qh vs H'
def VO' (gp : Gp) (X : Cx) (es : List Expr) (fs : List FE) : Prop := ∀ G W, Tk gp X G W → PA X es (liftN X.K X.mg G W fs)
def laterO (gp : Gp) (K : Fg) (mg : Mg) (G : Gh) (W : KX) (fs : List FE) : TA := fun σ H Q => ∃ G1, gp G1 ∧ (∀ c d σ' H', liftW K mg G1 W c d σ' H' → liftW K mg G W c d σ' H') ∧ liftN K mg G1 W fs σ H Q
section
variable {X : Cx} {e : Expr} {es : List Expr} {f : FE} {fs : List FE}
theorem later_o {G : Gh} {W : KX} (h : VO' gp X es fs) (t : Tk gp X G W) : PA X es (laterO gp X.K X.mg G W fs) := ⟨fun pos pins s σ H Q I ⟨G1, hp, i, q⟩ => (h G1 W ⟨hp, t.2.imp i⟩).run pos pins s σ H Q I q⟩
theorem vo_nil' : VO' gp X [] [] := fun G W t => PA.imp pa_nil fun σ H Q hw => by
  obtain ⟨F, env, Qv, ok, hf, q⟩ := hw
  exact q [] env [] F H ok (Le.refl _) .nil hf
theorem vo_cons' (he : VE gp X e f) (hr : VO' gp X es fs) (na : starEach (e :: es) X.env = (false, eval e X.env) :: starEach es X.env := by rfl) (stb : Stb gp := by exact stbT) : VO' gp X (e :: es) (f :: fs) := fun G W t =>
  PA.imp (pa_cons (he G W t) (later_o hr t) na) fun σ H Qh hw => by
    obtain ⟨F, env, Q, ok, hf, q⟩ := hw
    refine ⟨F, env, _, ok, hf, fun r1 e1 v1 F1 H1 ok1 l1 rr hq => ?_⟩
    obtain ⟨⟨m1, e1'⟩, eo, hq⟩ := bindP_of hq
    obtain ⟨F2, ok2, l2, fr⟩ := RR.own ok1 rr eo
    refine ⟨G.now F2 H1 σ e1'.sl, stb _ _ _ _ _ t.1, up_w ok2, F2, e1', _, ok2.now, hq, fun ms e2 vs F4 H3 ok4 l4 frs hq => ?_⟩
    have okF := ok2.up ok4
    have frF := fr.keep ok2 ok4
    refine q (m1 :: ms) e2 (v1 :: vs) F4 H3 okF (l1.trans (l2.trans l4)) (.cons frF (frs.lift ok2) fun o a ea j m' e' o' ez => ?_) hq
    obtain ⟨v', ev', fr'⟩ := frs.at e'
    rw [ez] at ev'
    cases ev'
    obtain ⟨b, u, q1, q2, q3, _⟩ := fr.rm.own o
    rw [ea] at q1
    cases q1
    have := (fr'.new o' a rfl).1
    rw [show H1 a = none from this] at q3; cases q3
end
/-! ### the stores -/
def sParN (is : List Nat) (fs : List FE) : FS := fun env E W => fOwns fs env (fun ms e1 => (∀ i ∈ is, i < e1.sl.length ∧ i ∉ e1.bor) ∧ ms.length = is.length ∧ E.nx { e1 with sl := setAll e1.sl is ms }) W
def tPar3 (i j k : Nat) (ta : TA) : TS := fun D σ H => ta σ H fun vs H1 => ∃ v w z, vs = [v, w, z] ∧ D.nx (((σ.set i (some v)).set j (some w)).set k (some z)) H1
section
variable {X : Cx}
theorem ps_par3 {i j k : Nat} {x y z : Str} {a b c : Expr} {ta : TA} {px py pz pt : Pos} {kt k2 pt2} {pos : Pos} (hc : X.calm = true) (hN : X.N.Nodup) (hi : X.N[i]? = some x) (hj : X.N[j]? = some y) (hk : X.N[k]? = some z) (hij : i ≠ j) (hik : i ≠ k) (hjk : j ≠ k)
    (hx : X.env.scope.names.lookup x = some .local) (hy : X.env.scope.names.lookup y = some .local) (hz : X.env.scope.names.lookup z = some .local) (ha : PA X [a, b, c] ta)
    (hw : swappedStores [.Tuple [.Name x px, .Name y py, .Name z pz] kt pt] (.Tuple [a, b, c] k2 pt2) X.env = pure (some [x, y, z]))
    (hs : swapsWithSole [.Tuple [.Name x px, .Name y py, .Name z pz] kt pt] (.Tuple [a, b, c] k2 pt2) pos.line X.env = pure false := by rfl) :
    PS X (.Assign [.Tuple [.Name x px, .Name y py, .Name z pz] kt pt] (.Tuple [a, b, c] k2 pt2) pos) (tPar3 i j k ta) := by
  refine ⟨fun pins s σ H D I h => ?_⟩
  rw [exec_Assign_arm]
  refine wpAny_bind (wpAny_standAt ?_)
  rw [hs]
  refine wpAny_bind (wpAny_pure ?_)
  rw [if_neg (by decide)]
  refine wpAny_bind (Tuple_ (thn (ha.run _ pins s σ H _ I h) fun us s1 ⟨vs, H1, I1, r1, q1⟩ => ?_))
  obtain ⟨v, w, w3, e1, q1⟩ := q1
  subst e1
  obtain ⟨u1, u2, u3, rfl, rv, rw', rz⟩ : ∃ u1 u2 u3, us = [u1, u2, u3] ∧ RelV v u1 ∧ RelV w u2 ∧ RelV w3 u3 := by
    cases r1 with
    | cons p q =>
      cases q with
      | cons p' q' =>
        cases q' with
        | cons p2 q2 =>
          cases q2
          exact ⟨_, _, _, rfl, p, p', p2⟩
  refine wpAny_newObj_type ?_ (by show 3 ≤ sizeLine; decide)
  have I2 : Inv X pins σ H1 { s1 with heap := s1.heap.push { cls := .type "tuple", data := .seq [u1, u2, u3].toArray } } := I1.kept (t' := s1.toks) fun b o e => Heap.get?_push_of_some _ e
  rw [hw]
  refine wpAny_bind (wpAny_pure ?_)
  show wpAny (model X.prog X.w) X.A (do rule "assign.swapped-stores"; let items ← unpackItems (.ref s1.heap.objs.size) 3 none; assignInOrder [fun v => bindName X.env z v, fun v => bindName X.env y v, fun v => bindName X.env x v] items.reverse; pure Flow.next) _ _ _
  refine wpAny_bind (wpAny_rule (wpAny_bind (unpackItems_tuple (items := #[u1, u2, u3]) (I.ok.hd hc) (IsTup.new s1.heap _) fun h' hx' => ?_)))
  have I3 := I2.kept (h' := h') (t' := s1.toks) fun b o e => hx' b o (Nat.ne_of_lt (Heap.lt_size e)) e
  show wpAny _ _ (assignInOrder [fun v => bindName X.env z v, fun v => bindName X.env y v, fun v => bindName X.env x v] [u3, u2, u1] >>= fun _ => pure Flow.next) _ _ _
  refine wpAny_bind (assignInOrder_cons (wpAny_bindName (store_ok I3 hN hk (.inl hz) rz (fun s2 I4 => ?_) (.inr hz))))
  refine assignInOrder_cons (wpAny_bindName (store_ok I4 hN hj (.inl hy) rw' (fun s3 I5 => ?_) (.inr hy)))
  refine assignInOrder_cons (wpAny_bindName (store_ok I5 hN hi (.inl hx) rv (fun s4 I6 => assignInOrder_nil (wpAny_pure ?_)) (.inr hx)))
  refine ⟨_, H1, ?_, q1⟩
  have e : ((σ.set i (some v)).set j (some w)).set k (some w3) = ((σ.set k (some w3)).set j (some w)).set i (some v) := by
    rw [List.set_comm _ _ hij, List.set_comm _ _ hik, List.set_comm (i := j) (j := k) _ _ hjk]
  rw [e]
  exact I6
theorem vs_par3 {i j k : Nat} {x y z : Str} {a b c : Expr} {fa fb fc : FE} {px py pz pt pos : Pos} {kt k2 pt2} (hc : X.calm = true) (hN : X.N.Nodup) (hi : X.N[i]? = some x) (hj : X.N[j]? = some y) (hk : X.N[k]? = some z) (hij : i ≠ j) (hik : i ≠ k) (hjk : j ≠ k)
    (hx : X.env.scope.names.lookup x = some .local) (hy : X.env.scope.names.lookup y = some .local) (hz : X.env.scope.names.lookup z = some .local) (ha : VO' gp X [a, b, c] [fa, fb, fc])
    (hw : swappedStores [.Tuple [.Name x px, .Name y py, .Name z pz] kt pt] (.Tuple [a, b, c] k2 pt2) X.env = pure (some [x, y, z]) := by rfl)
    (hs : swapsWithSole [.Tuple [.Name x px, .Name y py, .Name z pz] kt pt] (.Tuple [a, b, c] k2 pt2) pos.line X.env = pure false := by rfl) :
    VS gp X (.Assign [.Tuple [.Name x px, .Name y py, .Name z pz] kt pt] (.Tuple [a, b, c] k2 pt2) pos) (sParN [i, j, k] [fa, fb, fc]) := fun G W _ t =>
  PS.imp (ps_par3 hc hN hi hj hk hij hik hjk hx hy hz (ha G W t) hw hs) fun Dn σ H hq => by
    obtain ⟨F, env, E, ok, hf, k1, _⟩ := hq
    refine ⟨F, env, _, ok, hf, fun ms e1 vs F1 H1 ok1 l1 frs hq => ?_⟩
    obtain ⟨hb, hl, hq⟩ := hq
    have okA := ok1.storeAll hb hl frs
    have hvl := frs.len
    match vs, hvl, okA with
    | [], hv, _ => rw [hl] at hv; simp at hv
    | [_], hv, _ => rw [hl] at hv; simp at hv
    | [_, _], hv, _ => rw [hl] at hv; simp at hv
    | [v, w, w3], _, okA => exact ⟨v, w, w3, rfl, k1 _ F1 H1 _ okA l1 hq⟩
    | _ :: _ :: _ :: _ :: _, hv, _ => rw [hl] at hv; simp at hv
/-- names as targets -/
inductive Names (X : Cx) : List Expr → List Nat → TGs → Prop
  | nil : Names X [] [] gNil
  | cons {x : Str} {i : Nat} {p : Pos} {es : List Expr} {is : List Nat} {t : TGs} : X.N.Nodup → X.N[i]? = some x → Loc X.env.scope x → (X.fn x = true ∨ X.env.scope.names.lookup x = some .local) → (assignEach (.Name x p :: es) X.env).map (·.2) = assign (.Name x p) X.env :: (assignEach es X.env).map (·.2) → Names X es is t → Names X (.Name x p :: es) (i :: is) (gCons (gName i) t)
theorem Names.pgs {es : List Expr} {is : List Nat} {t : TGs} (h : Names X es is t) : PGs X es t ∧ ∀ (vs : List V) (σ : L2.St) (H : Hp) (Q : L2.St → Hp → Prop), vs.length = is.length → Q (setAllσ σ is vs) H → t vs σ H Q := by
  induction h with
  | nil => exact ⟨pgs_nil, fun vs σ H Q hl q => by cases vs with | nil => exact ⟨rfl, q⟩ | cons _ _ => simp at hl⟩
  | cons h1 h2 h3 h4 h5 _ ih =>
    refine ⟨pgs_cons (pg_name h1 h2 h3 h4) ih.1 h5, fun vs σ H Q hl q => ?_⟩
    cases vs with
    | nil => simp at hl
    | cons v vs => exact ⟨v, vs, rfl, ih.2 vs _ H Q (by simpa using hl) q⟩
theorem vs_parN {ts es : List Expr} {is : List Nat} {fs : List FE} {tg : TGs} {kt k2 n : Nat} {pt pt2 pos : Pos} (hc : X.calm = true) (hn : Names X ts is tg) (ha : VO' gp X es fs) (hl : is.length = n) (hz : Nat.ble n 100 = true := by rfl)
    (hn2 : (assignEach ts X.env).length = n := by rfl) (hst : (assignEach ts X.env).findIdx? (·.1) = none := by rfl)
    (hs : swapsWithSole [.Tuple ts kt pt] (.Tuple es k2 pt2) pos.line X.env = pure false := by rfl) (hw : swappedStores [.Tuple ts kt pt] (.Tuple es k2 pt2) X.env = pure none := by rfl)
    (h1 : (assignEach [.Tuple ts kt pt] X.env).map (·.2) = [assign (.Tuple ts kt pt) X.env] := by rfl) :
    VS gp X (.Assign [.Tuple ts kt pt] (.Tuple es k2 pt2) pos) (sParN is fs) := fun G W _ t =>
  PS.imp (ps_asg (pe_tup (ha G W t)) (pg_tup hc hn.pgs.1 hn2 hst) hs hw h1) fun Dn σ H hq => by
    obtain ⟨F, env, E, ok, hf, k1, _⟩ := hq
    refine ⟨F, env, _, ok, hf, fun ms e1 vs F1 H1 ok1 l1 frs hq => ?_⟩
    obtain ⟨hb, hlm, hq⟩ := hq
    have hvl := frs.len
    refine ⟨?_, fun p hp => ?_⟩
    · have := sizeLine_eq
      have := Nat.le_of_ble_eq_true hz
      omega
    · have okN := ok1.newH (o := .tup vs) hp
      have okA := okN.storeAll hb hlm (frs.newH ok1 hp)
      exact ⟨p, vs, rfl, .inl (.inl upd_same), by rw [hvl, hlm, hl], hn.pgs.2 vs _ _ _ (by rw [hvl, hlm]) (k1 _ F1 _ _ okA l1 hq)⟩
end
end VL

/-! VlT: rules by which a reading is gone through, backwards (printed by gent.py). -/
namespace VL
open PySem PySem.Spec PyProof.Rows L2
section
variable {env : Env} {Q : R → Env → Prop} {Qb : Bool → Env → Prop} {Qa : List Ar → Env → Prop} {Qd : List D → Env → Prop} {Qo : Option Int → Env → Prop} {Qr : Int → Int → Env → Prop} {Qi : Int → Env → Prop} {W : KX} {fe fa fb fc fk : FE} {xa : FA} {ta tb : FT} {g h' body : FS} {tg : FG} {fl fh : FO} {fr : FRg} {w : FW} {i j : Nat} {d e : D} {ds xs ys : List D} {gd gd' : List D → (M → Prop) → Prop} {c : Int → Int → Prop} {f : Int → Int → Int} {sp : SpV} {bs vs : List Nat} {x : Str} {gs : FGs} {n : Nat} {k : Env → Prop} {nx : Env → Prop} {rt : M → Env → Prop} {bk ct : Env → Prop} {a b : Int} {km : M → Prop} {s t : Str} {p q : Bool} {A B : Prop} {m : M} {sl : Slots} {as : List Ar} {ms : List M} {y : Ar} {Qk : List Key → Env → Prop} {fs : FKS} {kes : Kes} {key : Key} {T : String} {ad : Addr} {lam : LamV} {ex : Ex} {hh : FHd} {sub fld : Str → Option Bool} {Qv : M → Prop} {Ev : Ex → Prop} {ns : List Str} {fls : Str → Bool}
/-! one step, found by instances -/
class StpC (A : Prop) (B : outParam Prop) : Prop where
  imp : B → A
theorem ev_tc {A B : Prop} [StpC A B] (h : B) : A := StpC.imp h
/-! steps with what stands in hand -/
def putM (env : Env) (i : Nat) (m : M) (k : Env → Prop) : Prop := k { env with sl := env.sl.set i (some m) }
def pkK (r : R) (k : Ar → Prop) : Prop := bindP (pkR r) k
def lkK (r : R) (env : Env) (k : Ar → Env → Prop) : Prop := bindP (lkR env r) fun x => k x.1 x.2
def dK (a : Ar) (k : D → Prop) : Prop := bindP (dOf a) k
def pksK (env : Env) (as : List Ar) (k : List D → Prop) : Prop := bindP (pkAs env as) k
def dosK (as : List Ar) (k : List D → Prop) : Prop := bindP (dOfs as) k
def amK (env : Env) (as : List Ar) (k : List M → Prop) : Prop := bindP (arMs env as) k
def sqK (a : Ar) (k : List D → Prop) : Prop := bindP (seqOf a) k
def loK (a : Ar) (k : List D → Prop) : Prop := bindP (lotOf a) k
def rtK (r : R) (env : Env) (k : M → Env → Prop) : Prop := bindP (rtR env r) fun x => k x.1 x.2
def boK (sl : Slots) (is : List Nat) (k : List M → Prop) : Prop := bindP (borOf sl is) k
def laK (env : Env) (i : Nat) (k : List D → Prop) : Prop := bindP (lstAt env i) k
def owK (r : R) (env : Env) (k : M → Env → Prop) : Prop := bindP (ownR env r) fun x => k x.1 x.2
def ixK (xs : List D) (a : Int) (k : D → Prop) : Prop := bindP (atI xs a) k
def stK (i : Nat) (r : R) (env : Env) (k : Env → Prop) : Prop := bindP (stR i r env) k
def peK (env : Env) (is : List Nat) (ms : List M) (k : Env → Prop) : Prop := k (putE env is ms)
def liK (l : List D) (k : List D → Prop) : Prop := k l
def caT (r : R) (k : Bool → Prop) : Prop := match r with
  | .val (.fz (.bool b)) => k b
  | _ => False
def caN (r : R) (k : Int → Prop) : Prop := match r with
  | .val (.fz (.int b)) => k b
  | _ => False
def keK (d : D) (k : Key → Prop) : Prop := ∃ j : Key, d = kD j ∧ k j
def daK (env : Env) (i : Nat) (k : List (D × D) → Prop) : Prop := bindP (dctAt env i) k
def kdK (d : D) (es : List (D × D)) (k : Key → Kes → Prop) : Prop := ∃ (j : Key) (kes : Kes), d = kD j ∧ es = dctD kes ∧ k j kes
def vmK (r : R) (k : M → Prop) : Prop := ∃ m, r = .val m ∧ k m
def caL (d : D) (k : List D → Prop) : Prop := match d with
  | .list xs => k xs
  | _ => False
theorem k_pk1 {k : Ar → Prop} (h : k (.d d)) : pkK (.val (.fz d)) k := h
instance i_k_pk1 {k : Ar → Prop} : StpC (pkK (.val (.fz d)) k) (k (.d d)) := ⟨k_pk1⟩
theorem k_pk2 {k : Ar → Prop} (h : k (.d (.list ds))) : pkK (.val (.lst ds)) k := h
instance i_k_pk2 {k : Ar → Prop} : StpC (pkK (.val (.lst ds)) k) (k (.d (.list ds))) := ⟨k_pk2⟩
theorem k_pk3 {k : Ar → Prop} (h : k (.s i)) : pkK (.slot i) k := h
instance i_k_pk3 {k : Ar → Prop} : StpC (pkK (.slot i) k) (k (.s i)) := ⟨k_pk3⟩
theorem k_lk1 {k : Ar → Env → Prop} (h : k (.d d) env) : lkK (.val (.fz d)) env k := h
instance i_k_lk1 {k : Ar → Env → Prop} : StpC (lkK (.val (.fz d)) env k) (k (.d d) env) := ⟨k_lk1⟩
theorem k_lk2 {k : Ar → Env → Prop} (h : k (.d (.list ds)) env) : lkK (.val (.lst ds)) env k := h
instance i_k_lk2 {k : Ar → Env → Prop} : StpC (lkK (.val (.lst ds)) env k) (k (.d (.list ds)) env) := ⟨k_lk2⟩
theorem k_lk3 {k : Ar → Env → Prop} (e : env.sl[i]? = some (some (.lst ds))) (h : putM env i (.fz (.list ds)) fun e1 => k (.d (.list ds)) e1) : lkK (.slot i) env k := by unfold lkK lkR; simp only [e]; exact h
theorem k_lk4 {k : Ar → Env → Prop} (h : k (.g x) env) : lkK (.val (.gl x)) env k := h
instance i_k_lk4 {k : Ar → Env → Prop} : StpC (lkK (.val (.gl x)) env k) (k (.g x) env) := ⟨k_lk4⟩
theorem k_d {k : D → Prop} (h : k d) : dK (.d d) k := h
instance i_k_d {k : D → Prop} : StpC (dK (.d d) k) (k d) := ⟨k_d⟩
theorem k_ps0 {k : List D → Prop} (h : k []) : pksK env [] k := h
instance i_k_ps0 {k : List D → Prop} : StpC (pksK env [] k) (k []) := ⟨k_ps0⟩
theorem k_ps1 {k : List D → Prop} (h : pksK env as fun ds => k (d :: ds)) : pksK env (.d d :: as) k := by
  have h : bindP (pkAs env as) fun ds => k (d :: ds) := h
  obtain ⟨ds, e, h⟩ := bindP_of h
  show bindP (match pkAs env as with | some ds => some (d :: ds) | none => none) k
  rw [e]; exact h
instance i_k_ps1 {k : List D → Prop} : StpC (pksK env (.d d :: as) k) (pksK env as fun ds => k (d :: ds)) := ⟨k_ps1⟩
theorem k_ps2 {k : List D → Prop} (e : env.sl[i]? = some (some m)) (e2 : toD m = some d) (h : pksK env as fun ds => k (d :: ds)) : pksK env (.s i :: as) k := by
  have h : bindP (pkAs env as) fun ds => k (d :: ds) := h
  obtain ⟨ds, e3, h⟩ := bindP_of h
  show bindP (match (match env.sl[i]? with | some (some m) => toD m | _ => none) with | some d => (match pkAs env as with | some ds => some (d :: ds) | none => none) | none => none) k
  simp only [e, e2, e3]; exact h
theorem k_do0 {k : List D → Prop} (h : k []) : dosK [] k := h
instance i_k_do0 {k : List D → Prop} : StpC (dosK [] k) (k []) := ⟨k_do0⟩
theorem k_do1 {k : List D → Prop} (h : dosK as fun ds => k (d :: ds)) : dosK (.d d :: as) k := by
  have h : bindP (dOfs as) fun ds => k (d :: ds) := h
  obtain ⟨ds, e, h⟩ := bindP_of h
  show bindP (match dOfs as with | some ds => some (d :: ds) | none => none) k
  rw [e]; exact h
instance i_k_do1 {k : List D → Prop} : StpC (dosK (.d d :: as) k) (dosK as fun ds => k (d :: ds)) := ⟨k_do1⟩
theorem dOfs_app : ∀ (ds : List D) (as : List Ar), dOfs (ds.map .d ++ as) = (dOfs as).map (ds ++ ·)
  | [], as => by show dOfs as = _; cases dOfs as <;> rfl
  | d :: ds, as => by
    show (match dOfs (ds.map .d ++ as) with | some es => some (d :: es) | none => none) = _
    rw [dOfs_app ds as]
    cases dOfs as <;> rfl
theorem k_do2 {k : List D → Prop} (h : dosK as fun es => k (ds ++ es)) : dosK (ds.map .d ++ as) k := by
  have h : bindP (dOfs as) fun es => k (ds ++ es) := h
  obtain ⟨es, e, h⟩ := bindP_of h
  unfold dosK
  rw [dOfs_app, e]; exact h
instance i_k_do2 {k : List D → Prop} : StpC (dosK (ds.map .d ++ as) k) (dosK as fun es => k (ds ++ es)) := ⟨k_do2⟩
theorem k_am0 {k : List M → Prop} (h : k []) : amK env [] k := h
instance i_k_am0 {k : List M → Prop} : StpC (amK env [] k) (k []) := ⟨k_am0⟩
theorem k_am1 {k : List M → Prop} (h : amK env as fun ms => k (.fz d :: ms)) : amK env (.d d :: as) k := by
  have h : bindP (arMs env as) fun ms => k (.fz d :: ms) := h
  obtain ⟨ms, e, h⟩ := bindP_of h
  show bindP (match arMs env as with | some ms => some (.fz d :: ms) | none => none) k
  rw [e]; exact h
instance i_k_am1 {k : List M → Prop} : StpC (amK env (.d d :: as) k) (amK env as fun ms => k (.fz d :: ms)) := ⟨k_am1⟩
theorem k_am2 {k : List M → Prop} (e : env.sl[i]? = some (some m)) (o : isOwn m = true) (h : amK env as fun ms => k (m :: ms)) : amK env (.s i :: as) k := by
  have h : bindP (arMs env as) fun ms => k (m :: ms) := h
  obtain ⟨ms, e3, h⟩ := bindP_of h
  show bindP (match (match env.sl[i]? with | some (some m) => (if isOwn m = true then some m else none) | _ => none) with | some m => (match arMs env as with | some ms => some (m :: ms) | none => none) | none => none) k
  simp only [e, if_pos o, e3]; exact h
theorem k_am3 {k : List M → Prop} (h : amK env as fun ms => k (.gl x :: ms)) : amK env (.g x :: as) k := by
  have h : bindP (arMs env as) fun ms => k (.gl x :: ms) := h
  obtain ⟨ms, e, h⟩ := bindP_of h
  show bindP (match arMs env as with | some ms => some (.gl x :: ms) | none => none) k
  rw [e]; exact h
instance i_k_am3 {k : List M → Prop} : StpC (amK env (.g x :: as) k) (amK env as fun ms => k (.gl x :: ms)) := ⟨k_am3⟩
theorem k_sq1 {k : List D → Prop} (h : k ds) : sqK (.d (.list ds)) k := h
instance i_k_sq1 {k : List D → Prop} : StpC (sqK (.d (.list ds)) k) (k ds) := ⟨k_sq1⟩
theorem k_sq2 {k : List D → Prop} (h : k ds) : sqK (.d (.tuple ds)) k := h
instance i_k_sq2 {k : List D → Prop} : StpC (sqK (.d (.tuple ds)) k) (k ds) := ⟨k_sq2⟩
theorem k_lo1 {k : List D → Prop} (h : k ds) : loK (.d (.list ds)) k := h
instance i_k_lo1 {k : List D → Prop} : StpC (loK (.d (.list ds)) k) (k ds) := ⟨k_lo1⟩
theorem k_lo2 {k : List D → Prop} (h : k ds) : loK (.d (.tuple ds)) k := h
instance i_k_lo2 {k : List D → Prop} : StpC (loK (.d (.tuple ds)) k) (k ds) := ⟨k_lo2⟩
theorem k_rt1 {k : M → Env → Prop} (h : k m env) : rtK (.val m) env k := h
instance i_k_rt1 {k : M → Env → Prop} : StpC (rtK (.val m) env k) (k m env) := ⟨k_rt1⟩
theorem k_rt2 {k : M → Env → Prop} (h1 : env.bor.contains j = false) (e : env.sl[j]? = some (some m)) {sl2 : Slots} (e2 : env.sl.set j none = sl2) (h : k m ⟨sl2, env.bor⟩) : rtK (.slot j) env k := by
  subst e2
  have h1 : ¬ j ∈ env.bor := by simpa using h1
  show bindP (if j ∈ env.bor then none else match env.sl[j]? with | some (some m) => some (m, ({ env with sl := env.sl.set j none } : Env)) | _ => none) fun x => k x.1 x.2
  rw [if_neg h1]
  simp only [e]
  exact h
theorem k_bo0 {k : List M → Prop} (h : k []) : boK sl [] k := h
instance i_k_bo0 {k : List M → Prop} : StpC (boK sl [] k) (k []) := ⟨k_bo0⟩
theorem k_bo1 {k : List M → Prop} {is : List Nat} (e : sl[i]? = some (some m)) (o : isOwn m = true) (h : boK sl is fun ms => k (m :: ms)) : boK sl (i :: is) k := by
  have h : bindP (borOf sl is) fun ms => k (m :: ms) := h
  obtain ⟨ms, e3, h⟩ := bindP_of h
  show bindP (match sl[i]? with | some (some m) => (if isOwn m = true then (match borOf sl is with | some ms => some (m :: ms) | none => none) else none) | _ => none) k
  simp only [e, if_pos o, e3]; exact h
theorem k_la {k : List D → Prop} (e : env.sl[i]? = some (some (.lst ds))) (h : k ds) : laK env i k := by unfold laK lstAt; rw [e]; exact h
theorem k_ow1 {k : M → Env → Prop} (h : k m env) : owK (.val m) env k := h
instance i_k_ow1 {k : M → Env → Prop} : StpC (owK (.val m) env k) (k m env) := ⟨k_ow1⟩
theorem k_ow2 {k : M → Env → Prop} (e : env.sl[j]? = some (some (.lst ds))) (h : putM env j (.fz (.list ds)) fun e1 => k (.fz (.list ds)) e1) : owK (.slot j) env k := by unfold owK ownR lkR; simp only [e]; exact h
theorem k_ix0 {k : D → Prop} {x0 : D} (h : k x0) : ixK (x0 :: xs) 0 k := by
  unfold ixK
  rw [show atI (x0 :: xs) 0 = some x0 from by
    have : (0 : Int) < (xs.length : Int) + 1 := by omega
    simp [atI, ixN, this]]
  exact h
instance i_k_ix0 {k : D → Prop} {x0 : D} : StpC (ixK (x0 :: xs) 0 k) (k x0) := ⟨k_ix0⟩
theorem k_ix1 {k : D → Prop} {x0 x1 : D} (h : k x1) : ixK (x0 :: x1 :: xs) 1 k := by
  unfold ixK
  rw [show atI (x0 :: x1 :: xs) 1 = some x1 from by
    have : (1 : Int) < (xs.length : Int) + 1 + 1 := by omega
    simp [atI, ixN, this]]
  exact h
instance i_k_ix1 {k : D → Prop} {x0 x1 : D} : StpC (ixK (x0 :: x1 :: xs) 1 k) (k x1) := ⟨k_ix1⟩
theorem k_ix2 {k : D → Prop} {x0 x1 x2 : D} (h : k x2) : ixK (x0 :: x1 :: x2 :: xs) 2 k := by
  unfold ixK
  rw [show atI (x0 :: x1 :: x2 :: xs) 2 = some x2 from by
    have : (2 : Int) < (xs.length : Int) + 1 + 1 + 1 := by omega
    simp [atI, ixN, this]]
  exact h
instance i_k_ix2 {k : D → Prop} {x0 x1 x2 : D} : StpC (ixK (x0 :: x1 :: x2 :: xs) 2 k) (k x2) := ⟨k_ix2⟩
theorem k_ix3 {k : D → Prop} {x0 x1 x2 x3 : D} (h : k x3) : ixK (x0 :: x1 :: x2 :: x3 :: xs) 3 k := by
  unfold ixK
  rw [show atI (x0 :: x1 :: x2 :: x3 :: xs) 3 = some x3 from by
    have : (3 : Int) < (xs.length : Int) + 1 + 1 + 1 + 1 := by omega
    simp [atI, ixN, this]]
  exact h
instance i_k_ix3 {k : D → Prop} {x0 x1 x2 x3 : D} : StpC (ixK (x0 :: x1 :: x2 :: x3 :: xs) 3 k) (k x3) := ⟨k_ix3⟩
theorem k_ix4 {k : D → Prop} {x0 x1 x2 x3 x4 : D} (h : k x4) : ixK (x0 :: x1 :: x2 :: x3 :: x4 :: xs) 4 k := by
  unfold ixK
  rw [show atI (x0 :: x1 :: x2 :: x3 :: x4 :: xs) 4 = some x4 from by
    have : (4 : Int) < (xs.length : Int) + 1 + 1 + 1 + 1 + 1 := by omega
    simp [atI, ixN, this]]
  exact h
instance i_k_ix4 {k : D → Prop} {x0 x1 x2 x3 x4 : D} : StpC (ixK (x0 :: x1 :: x2 :: x3 :: x4 :: xs) 4 k) (k x4) := ⟨k_ix4⟩
theorem k_ix5 {k : D → Prop} {x0 x1 x2 x3 x4 x5 : D} (h : k x5) : ixK (x0 :: x1 :: x2 :: x3 :: x4 :: x5 :: xs) 5 k := by
  unfold ixK
  rw [show atI (x0 :: x1 :: x2 :: x3 :: x4 :: x5 :: xs) 5 = some x5 from by
    have : (5 : Int) < (xs.length : Int) + 1 + 1 + 1 + 1 + 1 + 1 := by omega
    simp [atI, ixN, this]]
  exact h
instance i_k_ix5 {k : D → Prop} {x0 x1 x2 x3 x4 x5 : D} : StpC (ixK (x0 :: x1 :: x2 :: x3 :: x4 :: x5 :: xs) 5 k) (k x5) := ⟨k_ix5⟩
theorem k_pe0 {ms : List M} (h : k env) : peK env [] ms k := by cases ms <;> exact h
instance i_k_pe0 {ms : List M} : StpC (peK env [] ms k) (k env) := ⟨k_pe0⟩
theorem k_pe1 {is : List Nat} (h : putM env i m fun e1 => peK e1 is ms k) : peK env (i :: is) (m :: ms) k := h
instance i_k_pe1 {is : List Nat} : StpC (peK env (i :: is) (m :: ms) k) (putM env i m fun e1 => peK e1 is ms k) := ⟨k_pe1⟩
theorem k_li {k : List D → Prop} (e : ds = xs) (h : k xs) : liK ds k := by subst e; exact h
theorem k_peS {is : List Nat} (e : slotsOf as = is) (h : peK env is ms k) : peK env (slotsOf as) ms k := by subst e; exact h
theorem e_caT {k : Bool → Prop} (h : k p) : caT (.val (.fz (.bool p))) k := h
instance i_e_caT {k : Bool → Prop} : StpC (caT (.val (.fz (.bool p))) k) (k p) := ⟨e_caT⟩
theorem e_caN {k : Int → Prop} (h : k a) : caN (.val (.fz (.int a))) k := h
instance i_e_caN {k : Int → Prop} : StpC (caN (.val (.fz (.int a))) k) (k a) := ⟨e_caN⟩
theorem e_caL {k : List D → Prop} (h : k xs) : caL (.list xs) k := h
instance i_e_caL {k : List D → Prop} : StpC (caL (.list xs) k) (k xs) := ⟨e_caL⟩
theorem e_putM {b : List Nat} {sl2 : Slots} (e : sl.set i (some m) = sl2) (h : k ⟨sl2, b⟩) : putM ⟨sl, b⟩ i m k := by unfold putM; rw [e]; exact h
theorem e_stK (h1 : Nat.blt i env.sl.length = true) (h2 : env.bor.contains i = false) (h : putM env i m k) : stK i (.val m) env k := by unfold stK stR; rw [if_pos ⟨by simpa using h1, by simpa using h2⟩]; exact h
theorem e_stO (h1 : Nat.blt i env.sl.length = true) (h2 : env.bor.contains i = false) (e : env.sl[j]? = some (some (.lst ds))) (h : putM env j (.fz (.list ds)) fun e1 => putM e1 i (.fz (.list ds)) k) : stK i (.slot j) env k := by unfold stK stR; rw [if_pos ⟨by simpa using h1, by simpa using h2⟩]; simp only [lkR, e]; exact h
theorem e_var (e : env.sl[i]? = some (some (.fz d))) (h : Q (.val (.fz d)) env) : fVar i env Q W := by unfold fVar; rw [e]; exact h
theorem e_varO (e : env.sl[i]? = some (some m)) (o : isOwn m = true) (h : Q (.slot i) env) : fVar i env Q W := by unfold fVar; rw [e]; show (if isOwn m = true then _ else _); rw [if_pos o]; exact h
theorem e_c (h : Q (.val (.fz d)) env) : fC d env Q W := h
instance i_e_c  : StpC (fC d env Q W) (Q (.val (.fz d)) env) := ⟨e_c⟩
theorem e_gl (h : Q (.val (.gl x)) env) : fGl x env Q W := h
instance i_e_gl  : StpC (fGl x env Q W) (Q (.val (.gl x)) env) := ⟨e_gl⟩
theorem e_nil (h : Qa [] env) : aNil env Qa W := h
instance i_e_nil  : StpC (aNil env Qa W) (Qa [] env) := ⟨e_nil⟩
theorem e_p (h : fe env (fun r e1 => pkK r fun y => xa e1 (fun ys e2 => Qa (y :: ys) e2) W) W) : aP fe xa env Qa W := h
instance i_e_p  : StpC (aP fe xa env Qa W) (fe env (fun r e1 => pkK r fun y => xa e1 (fun ys e2 => Qa (y :: ys) e2) W) W) := ⟨e_p⟩
theorem e_l (h : fe env (fun r e1 => lkK r e1 fun y e2 => xa e2 (fun ys e3 => Qa (y :: ys) e3) W) W) : aL fe xa env Qa W := h
instance i_e_l  : StpC (aL fe xa env Qa W) (fe env (fun r e1 => lkK r e1 fun y e2 => xa e2 (fun ys e3 => Qa (y :: ys) e3) W) W) := ⟨e_l⟩
theorem e_s (h : fe env (fun r e1 => lkK r e1 fun y e2 => loK y fun ds => xa e2 (fun as e3 => Qa (ds.map .d ++ as) e3) W) W) : aS fe xa env Qa W := h
instance i_e_s  : StpC (aS fe xa env Qa W) (fe env (fun r e1 => lkK r e1 fun y e2 => loK y fun ds => xa e2 (fun as e3 => Qa (ds.map .d ++ as) e3) W) W) := ⟨e_s⟩
theorem e_tup (h : xa env (fun as e1 => dosK as fun ds => ds.length ≤ 16777216 ∧ Q (.val (.fz (.tuple ds))) e1) W) : fTup xa env Q W := h
instance i_e_tup  : StpC (fTup xa env Q W) (xa env (fun as e1 => dosK as fun ds => ds.length ≤ 16777216 ∧ Q (.val (.fz (.tuple ds))) e1) W) := ⟨e_tup⟩
theorem e_lst (h : xa env (fun as e1 => dosK as fun ds => ds.length ≤ 16777216 ∧ Q (.val (.lst ds)) e1) W) : fLst xa env Q W := h
instance i_e_lst  : StpC (fLst xa env Q W) (xa env (fun as e1 => dosK as fun ds => ds.length ≤ 16777216 ∧ Q (.val (.lst ds)) e1) W) := ⟨e_lst⟩
theorem e_op (h : xa env (fun as e1 => pksK e1 as fun ds => gd ds fun m => Q (.val m) e1) W) : fOp gd xa env Q W := h
instance i_e_op  : StpC (fOp gd xa env Q W) (xa env (fun as e1 => pksK e1 as fun ds => gd ds fun m => Q (.val m) e1) W) := ⟨e_op⟩
theorem e_tb (h : fe env (fun r e1 => caT r fun k => Qb k e1) W) : fTB fe env Qb W := h
instance i_e_tb  : StpC (fTB fe env Qb W) (fe env (fun r e1 => caT r fun k => Qb k e1) W) := ⟨e_tb⟩
theorem e_tr (h : fe env (fun r e1 => pkK r fun x => bindP (pkA e1 x) fun d => bindP (truD d) fun k => Qb k e1) W) : fTr fe env Qb W := h
instance i_e_tr  : StpC (fTr fe env Qb W) (fe env (fun r e1 => pkK r fun x => bindP (pkA e1 x) fun d => bindP (truD d) fun k => Qb k e1) W) := ⟨e_tr⟩
theorem e_and (h : ta env (fun k e1 => if k = true then tb e1 Qb W else Qb false e1) W) : fAnd ta tb env Qb W := h
instance i_e_and  : StpC (fAnd ta tb env Qb W) (ta env (fun k e1 => if k = true then tb e1 Qb W else Qb false e1) W) := ⟨e_and⟩
theorem e_or (h : ta env (fun k e1 => if k = true then Qb true e1 else tb e1 Qb W) W) : fOr ta tb env Qb W := h
instance i_e_or  : StpC (fOr ta tb env Qb W) (ta env (fun k e1 => if k = true then Qb true e1 else tb e1 Qb W) W) := ⟨e_or⟩
theorem e_not (h : ta env (fun k e1 => Qb (!k) e1) W) : fNot ta env Qb W := h
instance i_e_not  : StpC (fNot ta env Qb W) (ta env (fun k e1 => Qb (!k) e1) W) := ⟨e_not⟩
theorem e_andV (h : fTB fa env (fun k e1 => if k = true then fb e1 Q W else Q (.val (.fz (.bool false))) e1) W) : fAndV fa fb env Q W := h
instance i_e_andV  : StpC (fAndV fa fb env Q W) (fTB fa env (fun k e1 => if k = true then fb e1 Q W else Q (.val (.fz (.bool false))) e1) W) := ⟨e_andV⟩
theorem e_orV (h : fTB fa env (fun k e1 => if k = true then Q (.val (.fz (.bool true))) e1 else fb e1 Q W) W) : fOrV fa fb env Q W := h
instance i_e_orV  : StpC (fOrV fa fb env Q W) (fTB fa env (fun k e1 => if k = true then Q (.val (.fz (.bool true))) e1 else fb e1 Q W) W) := ⟨e_orV⟩
theorem e_notV (h : fTB fa env (fun k e1 => Q (.val (.fz (.bool (!k)))) e1) W) : fNotV fa env Q W := h
instance i_e_notV  : StpC (fNotV fa env Q W) (fTB fa env (fun k e1 => Q (.val (.fz (.bool (!k)))) e1) W) := ⟨e_notV⟩
theorem e_fif (h : ta env (fun k e1 => if k = true then fa e1 Q W else fb e1 Q W) W) : fIf ta fa fb env Q W := h
instance i_e_fif  : StpC (fIf ta fa fb env Q W) (ta env (fun k e1 => if k = true then fa e1 Q W else fb e1 Q W) W) := ⟨e_fif⟩
theorem e_I (h : fe env (fun r e1 => caN r fun i => Qi i e1) W) : fI fe env Qi W := h
instance i_e_I  : StpC (fI fe env Qi W) (fe env (fun r e1 => caN r fun i => Qi i e1) W) := ⟨e_I⟩
theorem e_rg1 (h : fI fa env (fun n e1 => Qr 0 n e1) W) : fRg1 fa env Qr W := h
instance i_e_rg1  : StpC (fRg1 fa env Qr W) (fI fa env (fun n e1 => Qr 0 n e1) W) := ⟨e_rg1⟩
theorem e_rg2 (h : fI fa env (fun i e1 => fI fb e1 (fun j e2 => Qr i j e2) W) W) : fRg2 fa fb env Qr W := h
instance i_e_rg2  : StpC (fRg2 fa fb env Qr W) (fI fa env (fun i e1 => fI fb e1 (fun j e2 => Qr i j e2) W) W) := ⟨e_rg2⟩
theorem e_tupRg (h : fr env (fun a b e1 => RgFit a b ∧ Q (.val (.fz (.tuple (rgD a b)))) e1) W) : fTupRg fr env Q W := h
instance i_e_tupRg  : StpC (fTupRg fr env Q W) (fr env (fun a b e1 => RgFit a b ∧ Q (.val (.fz (.tuple (rgD a b)))) e1) W) := ⟨e_tupRg⟩
theorem e_lstRg (h : fr env (fun a b e1 => RgFit a b ∧ Q (.val (.lst (rgD a b))) e1) W) : fLstRg fr env Q W := h
instance i_e_lstRg  : StpC (fLstRg fr env Q W) (fr env (fun a b e1 => RgFit a b ∧ Q (.val (.lst (rgD a b))) e1) W) := ⟨e_lstRg⟩
theorem e_oN (h : Qo none env) : oNone env Qo W := h
instance i_e_oN  : StpC (oNone env Qo W) (Qo none env) := ⟨e_oN⟩
theorem e_oS (h : fI fe env (fun i e1 => Qo (some i) e1) W) : oSome fe env Qo W := h
instance i_e_oS  : StpC (oSome fe env Qo W) (fI fe env (fun i e1 => Qo (some i) e1) W) := ⟨e_oS⟩
theorem e_sl (h : fe env (fun r e1 => pkK r fun x => fl e1 (fun lo e2 => fh e2 (fun hi e3 => bindP (pkA e3 x) fun d => gSl lo hi d fun m => Q (.val m) e3) W) W) W) : fSl fe fl fh env Q W := h
instance i_e_sl  : StpC (fSl fe fl fh env Q W) (fe env (fun r e1 => pkK r fun x => fl e1 (fun lo e2 => fh e2 (fun hi e3 => bindP (pkA e3 x) fun d => gSl lo hi d fun m => Q (.val m) e3) W) W) W) := ⟨e_sl⟩
theorem e_slB (h : fe env (fun r e1 => lkK r e1 fun x e2 => dK x fun d => fTB fb e2 (fun b e3 => caL d fun xs => Q (.val (.lst (cutD xs (some (b.toNat : Int)) none))) e3) W) W) : fSlB fe fb env Q W := h
instance i_e_slB  : StpC (fSlB fe fb env Q W) (fe env (fun r e1 => lkK r e1 fun x e2 => dK x fun d => fTB fb e2 (fun b e3 => caL d fun xs => Q (.val (.lst (cutD xs (some (b.toNat : Int)) none))) e3) W) W) := ⟨e_slB⟩
theorem e_call (h : xa env (fun as e1 => amK e1 as fun ms => ownPos 0 ms = bs ∧ (slotsOf as).Nodup ∧ sp ms (fun m bms => peK e1 (slotsOf as) bms fun e2 => Q (.val m) e2) fun ex bms => W ex (putE e1 (slotsOf as) bms)) W) : fCall sp bs xa env Q W := h
instance i_e_call  : StpC (fCall sp bs xa env Q W) (xa env (fun as e1 => amK e1 as fun ms => ownPos 0 ms = bs ∧ (slotsOf as).Nodup ∧ sp ms (fun m bms => peK e1 (slotsOf as) bms fun e2 => Q (.val m) e2) fun ex bms => W ex (putE e1 (slotsOf as) bms)) W) := ⟨e_call⟩
def nodupB : List Nat → Bool
  | [] => true
  | x :: l => !l.contains x && nodupB l
theorem nodupB_of : ∀ {l : List Nat}, nodupB l = true → l.Nodup
  | [], _ => .nil
  | x :: l, h => by
    have h : (!l.contains x && nodupB l) = true := h
    simp only [Bool.and_eq_true, Bool.not_eq_true'] at h
    exact List.nodup_cons.mpr ⟨by simpa using h.1, nodupB_of h.2⟩
theorem e_callA {is js : List Nat} (h1 : ownPos 0 ms = bs) (e : is = js) (h2 : nodupB js = true) (h : A) : ownPos 0 ms = bs ∧ is.Nodup ∧ A := by subst e; exact ⟨h1, nodupB_of h2, h⟩
theorem e_app (h : laK env i fun _ => fe env (fun r e1 => lkK r e1 fun x e2 => dK x fun d => laK e2 i fun ds => ds.length < 16777216 ∧ liK (ds ++ [d]) fun l => putM e2 i (.lst l) fun e3 => Q (.val (.fz .none)) e3) W) : fApp i fe env Q W := h
instance i_e_app  : StpC (fApp i fe env Q W) (laK env i fun _ => fe env (fun r e1 => lkK r e1 fun x e2 => dK x fun d => laK e2 i fun ds => ds.length < 16777216 ∧ liK (ds ++ [d]) fun l => putM e2 i (.lst l) fun e3 => Q (.val (.fz .none)) e3) W) := ⟨e_app⟩
theorem e_pop (h : laK env i fun ds => bindP ds.getLast? fun d => putM env i (.lst ds.dropLast) fun e1 => Q (.val (.fz d)) e1) : fPop i env Q W := h
instance i_e_pop  : StpC (fPop i env Q W) (laK env i fun ds => bindP ds.getLast? fun d => putM env i (.lst ds.dropLast) fun e1 => Q (.val (.fz d)) e1) := ⟨e_pop⟩
theorem e_popAt (h : laK env i fun _ => fI fe env (fun k e1 => laK e1 i fun ds => bindP (ixN ds.length k) fun j => bindP ds[j]? fun d => ds.length ≤ 16777216 ∧ putM e1 i (.lst (ds.eraseIdx j)) fun e2 => Q (.val (.fz d)) e2) W) : fPopAt i fe env Q W := h
instance i_e_popAt  : StpC (fPopAt i fe env Q W) (laK env i fun _ => fI fe env (fun k e1 => laK e1 i fun ds => bindP (ixN ds.length k) fun j => bindP ds[j]? fun d => ds.length ≤ 16777216 ∧ putM e1 i (.lst (ds.eraseIdx j)) fun e2 => Q (.val (.fz d)) e2) W) := ⟨e_popAt⟩
theorem e_next (h : nx env) : sNext env ⟨nx, rt, bk, ct⟩ W := h
instance i_e_next  : StpC (sNext env ⟨nx, rt, bk, ct⟩ W) (nx env) := ⟨e_next⟩
theorem e_brk (h : bk env) : sBrk env ⟨nx, rt, bk, ct⟩ W := h
instance i_e_brk  : StpC (sBrk env ⟨nx, rt, bk, ct⟩ W) (bk env) := ⟨e_brk⟩
theorem e_cnt (h : ct env) : sCnt env ⟨nx, rt, bk, ct⟩ W := h
instance i_e_cnt  : StpC (sCnt env ⟨nx, rt, bk, ct⟩ W) (ct env) := ⟨e_cnt⟩
theorem e_seq (h : g env ⟨fun e1 => h' e1 ⟨nx, rt, bk, ct⟩ W, rt, bk, ct⟩ W) : sSeq g h' env ⟨nx, rt, bk, ct⟩ W := h
instance i_e_seq  : StpC (sSeq g h' env ⟨nx, rt, bk, ct⟩ W) (g env ⟨fun e1 => h' e1 ⟨nx, rt, bk, ct⟩ W, rt, bk, ct⟩ W) := ⟨e_seq⟩
theorem e_drop (h : fe env (fun _ e1 => nx e1) W) : sDrop fe env ⟨nx, rt, bk, ct⟩ W := h
instance i_e_drop  : StpC (sDrop fe env ⟨nx, rt, bk, ct⟩ W) (fe env (fun _ e1 => nx e1) W) := ⟨e_drop⟩
theorem e_ret (h : fe env (fun r e1 => rtK r e1 rt) W) : sRet fe env ⟨nx, rt, bk, ct⟩ W := h
instance i_e_ret  : StpC (sRet fe env ⟨nx, rt, bk, ct⟩ W) (fe env (fun r e1 => rtK r e1 rt) W) := ⟨e_ret⟩
theorem e_retN (h : rt (.fz .none) env) : sRetN env ⟨nx, rt, bk, ct⟩ W := h
instance i_e_retN  : StpC (sRetN env ⟨nx, rt, bk, ct⟩ W) (rt (.fz .none) env) := ⟨e_retN⟩
theorem e_sif (h : ta env (fun b e1 => if b = true then g e1 ⟨nx, rt, bk, ct⟩ W else h' e1 ⟨nx, rt, bk, ct⟩ W) W) : sIf ta g h' env ⟨nx, rt, bk, ct⟩ W := h
instance i_e_sif  : StpC (sIf ta g h' env ⟨nx, rt, bk, ct⟩ W) (ta env (fun b e1 => if b = true then g e1 ⟨nx, rt, bk, ct⟩ W else h' e1 ⟨nx, rt, bk, ct⟩ W) W) := ⟨e_sif⟩
theorem e_set (h : fe env (fun r e1 => stK i r e1 nx) W) : sSet i fe env ⟨nx, rt, bk, ct⟩ W := h
instance i_e_set  : StpC (sSet i fe env ⟨nx, rt, bk, ct⟩ W) (fe env (fun r e1 => stK i r e1 nx) W) := ⟨e_set⟩
theorem e_stup (h : fe env (fun r e1 => lkK r e1 fun x e2 => dK x fun d => tg d e2 nx) W) : sTup fe tg env ⟨nx, rt, bk, ct⟩ W := h
instance i_e_stup  : StpC (sTup fe tg env ⟨nx, rt, bk, ct⟩ W) (fe env (fun r e1 => lkK r e1 fun x e2 => dK x fun d => tg d e2 nx) W) := ⟨e_stup⟩
theorem e_setIx (h : fe env (fun r e1 => lkK r e1 fun x e2 => dK x fun d => laK e2 i fun _ => fI fk e2 (fun k e3 => laK e3 i fun ds => bindP (ixN ds.length k) fun j => liK (ds.set j d) fun l => putM e3 i (.lst l) nx) W) W) : sSetIx i fk fe env ⟨nx, rt, bk, ct⟩ W := h
instance i_e_setIx  : StpC (sSetIx i fk fe env ⟨nx, rt, bk, ct⟩ W) (fe env (fun r e1 => lkK r e1 fun x e2 => dK x fun d => laK e2 i fun _ => fI fk e2 (fun k e3 => laK e3 i fun ds => bindP (ixN ds.length k) fun j => liK (ds.set j d) fun l => putM e3 i (.lst l) nx) W) W) := ⟨e_setIx⟩
theorem e_augIx (h : laK env i fun _ => fI fk env (fun k e1 => laK e1 i fun ds => bindP (ixN ds.length k) fun j => bindP (ds[j]?.bind intOf) fun a => fI fe e1 (fun b e2 => c a b ∧ laK e2 i fun es => ixN es.length k = some j ∧ liK (es.set j (.int (f a b))) fun l => putM e2 i (.lst l) nx) W) W) : sAugIx i c f fk fe env ⟨nx, rt, bk, ct⟩ W := h
instance i_e_augIx  : StpC (sAugIx i c f fk fe env ⟨nx, rt, bk, ct⟩ W) (laK env i fun _ => fI fk env (fun k e1 => laK e1 i fun ds => bindP (ixN ds.length k) fun j => bindP (ds[j]?.bind intOf) fun a => fI fe e1 (fun b e2 => c a b ∧ laK e2 i fun es => ixN es.length k = some j ∧ liK (es.set j (.int (f a b))) fun l => putM e2 i (.lst l) nx) W) W) := ⟨e_augIx⟩
theorem e_aug (h : bindP (intAt env i) fun a => fI fe env (fun b e1 => c a b ∧ stK i (.val (.fz (.int (f a b)))) e1 nx) W) : sAug i c f fe env ⟨nx, rt, bk, ct⟩ W := h
instance i_e_aug  : StpC (sAug i c f fe env ⟨nx, rt, bk, ct⟩ W) (bindP (intAt env i) fun a => fI fe env (fun b e1 => c a b ∧ stK i (.val (.fz (.int (f a b)))) e1 nx) W) := ⟨e_aug⟩
theorem e_par (h : fa env (fun r1 e1 => owK r1 e1 fun x e2 => fb e2 (fun r2 e3 => owK r2 e3 fun y e4 => (i < e4.sl.length ∧ i ∉ e4.bor ∧ j < e4.sl.length ∧ j ∉ e4.bor) ∧ putM e4 i x fun e5 => putM e5 j y nx) W) W) : sPar i j fa fb env ⟨nx, rt, bk, ct⟩ W := h
instance i_e_par  : StpC (sPar i j fa fb env ⟨nx, rt, bk, ct⟩ W) (fa env (fun r1 e1 => owK r1 e1 fun x e2 => fb e2 (fun r2 e3 => owK r2 e3 fun y e4 => (i < e4.sl.length ∧ i ∉ e4.bor ∧ j < e4.sl.length ∧ j ∉ e4.bor) ∧ putM e4 i x fun e5 => putM e5 j y nx) W) W) := ⟨e_par⟩
theorem e_parA (h1 : Nat.blt i env.sl.length = true) (h2 : env.bor.contains i = false) (h3 : Nat.blt j env.sl.length = true) (h4 : env.bor.contains j = false) (h : A) : (i < env.sl.length ∧ i ∉ env.bor ∧ j < env.sl.length ∧ j ∉ env.bor) ∧ A := ⟨⟨by simpa using h1, by simpa using h2, by simpa using h3, by simpa using h4⟩, h⟩
theorem e_for (h : w env (fun ds e1 => sForL tg body ⟨nx, rt, bk, ct⟩ W ds e1) W) : sFor w tg body env ⟨nx, rt, bk, ct⟩ W := h
instance i_e_for  : StpC (sFor w tg body env ⟨nx, rt, bk, ct⟩ W) (w env (fun ds e1 => sForL tg body ⟨nx, rt, bk, ct⟩ W ds e1) W) := ⟨e_for⟩
theorem e_gN (h1 : Nat.blt i env.sl.length = true) (h2 : env.bor.contains i = false) (h : putM env i (.fz d) k) : gN i d env k := ⟨by simpa using h1, by simpa using h2, h⟩
theorem e_gsN (h : k env) : gsNil [] env k := ⟨rfl, h⟩
instance i_e_gsN  : StpC (gsNil [] env k) (k env) := ⟨e_gsN⟩
theorem e_gsC (h : tg d env fun e1 => gs ds e1 k) : gsCons tg gs (d :: ds) env k := h
instance i_e_gsC  : StpC (gsCons tg gs (d :: ds) env k) (tg d env fun e1 => gs ds e1 k) := ⟨e_gsC⟩
theorem e_gT (e : ds.length = n) (h : gs ds env k) : gT n gs (.tuple ds) env k := ⟨e, h⟩
theorem e_sq (h : fe env (fun r e1 => lkK r e1 fun x e2 => sqK x fun ds => Qd ds e2) W) : fSq fe env Qd W := h
instance i_e_sq  : StpC (fSq fe env Qd W) (fe env (fun r e1 => lkK r e1 fun x e2 => sqK x fun ds => Qd ds e2) W) := ⟨e_sq⟩
theorem e_rgI1 (h : fI fa env (fun n e1 => (-1000000000 ≤ n ∧ n ≤ 1000000000) ∧ Qd (rgD 0 n) e1) W) : fRgI1 fa env Qd W := h
instance i_e_rgI1  : StpC (fRgI1 fa env Qd W) (fI fa env (fun n e1 => (-1000000000 ≤ n ∧ n ≤ 1000000000) ∧ Qd (rgD 0 n) e1) W) := ⟨e_rgI1⟩
theorem e_rgI2 (h : fI fa env (fun i e1 => fI fb e1 (fun j e2 => (-1000000000 ≤ i ∧ i ≤ 1000000000 ∧ -1000000000 ≤ j ∧ j ≤ 1000000000) ∧ Qd (rgD i j) e2) W) W) : fRgI2 fa fb env Qd W := h
instance i_e_rgI2  : StpC (fRgI2 fa fb env Qd W) (fI fa env (fun i e1 => fI fb e1 (fun j e2 => (-1000000000 ≤ i ∧ i ≤ 1000000000 ∧ -1000000000 ≤ j ∧ j ≤ 1000000000) ∧ Qd (rgD i j) e2) W) W) := ⟨e_rgI2⟩
theorem e_en (h : fe env (fun r e1 => lkK r e1 fun x e2 => sqK x fun ds => Qd (enumD 0 ds) e2) W) : fEn fe env Qd W := h
instance i_e_en  : StpC (fEn fe env Qd W) (fe env (fun r e1 => lkK r e1 fun x e2 => sqK x fun ds => Qd (enumD 0 ds) e2) W) := ⟨e_en⟩
theorem e_enK (h : fe env (fun r e1 => lkK r e1 fun x e2 => sqK x fun ds => fI fk e2 (fun k e3 => (-1000000000 ≤ k ∧ k ≤ 1000000000) ∧ Qd (enumD k ds) e3) W) W) : fEnK fe fk env Qd W := h
instance i_e_enK  : StpC (fEnK fe fk env Qd W) (fe env (fun r e1 => lkK r e1 fun x e2 => sqK x fun ds => fI fk e2 (fun k e3 => (-1000000000 ≤ k ∧ k ≤ 1000000000) ∧ Qd (enumD k ds) e3) W) W) := ⟨e_enK⟩
theorem e_zp (h : fa env (fun r e1 => lkK r e1 fun x e2 => sqK x fun ds => fb e2 (fun r2 e3 => lkK r2 e3 fun y e4 => sqK y fun es => Qd (zipD ds es) e4) W) W) : fZp fa fb env Qd W := h
instance i_e_zp  : StpC (fZp fa fb env Qd W) (fa env (fun r e1 => lkK r e1 fun x e2 => sqK x fun ds => fb e2 (fun r2 e3 => lkK r2 e3 fun y e4 => sqK y fun es => Qd (zipD ds es) e4) W) W) := ⟨e_zp⟩
theorem e_yes (h : Qb true env) : fYes env Qb W := h
instance i_e_yes  : StpC (fYes env Qb W) (Qb true env) := ⟨e_yes⟩
theorem e_lc (h : w env (fun ds e1 => offB e1 vs = true ∧ ds.length ≤ 16777216 ∧ fLcL vs tg ta fe ds e1 fun ys e2 => Q (.val (.lst ys)) e2) W) : fLc w vs tg ta fe env Q W := h
instance i_e_lc  : StpC (fLc w vs tg ta fe env Q W) (w env (fun ds e1 => offB e1 vs = true ∧ ds.length ≤ 16777216 ∧ fLcL vs tg ta fe ds e1 fun ys e2 => Q (.val (.lst ys)) e2) W) := ⟨e_lc⟩
theorem e_oaddI (h : km (.fz (.int (a + b)))) : gAdd [.int a, .int b] km := h
instance i_e_oaddI  : StpC (gAdd [.int a, .int b] km) (km (.fz (.int (a + b)))) := ⟨e_oaddI⟩
theorem e_osub (h : km (.fz (.int (a - b)))) : gSub [.int a, .int b] km := h
instance i_e_osub  : StpC (gSub [.int a, .int b] km) (km (.fz (.int (a - b)))) := ⟨e_osub⟩
theorem e_oneg (h : km (.fz (.int (-a)))) : gNeg [.int a] km := h
instance i_e_oneg  : StpC (gNeg [.int a] km) (km (.fz (.int (-a)))) := ⟨e_oneg⟩
theorem e_oabs (h : km (.fz (.int (if a < 0 then -a else a)))) : gAbs [.int a] km := h
instance i_e_oabs  : StpC (gAbs [.int a] km) (km (.fz (.int (if a < 0 then -a else a)))) := ⟨e_oabs⟩
theorem e_ointI (h : km (.fz (.int a))) : gInt [.int a] km := h
instance i_e_ointI  : StpC (gInt [.int a] km) (km (.fz (.int a))) := ⟨e_ointI⟩
theorem e_ointB (h : km (.fz (.int (b2 p)))) : gInt [.bool p] km := h
instance i_e_ointB  : StpC (gInt [.bool p] km) (km (.fz (.int (b2 p)))) := ⟨e_ointB⟩
theorem e_omin2 (h : km (.fz (.int (if b < a then b else a)))) : gMin2 [.int a, .int b] km := h
instance i_e_omin2  : StpC (gMin2 [.int a, .int b] km) (km (.fz (.int (if b < a then b else a)))) := ⟨e_omin2⟩
theorem e_omax2 (h : km (.fz (.int (if b > a then b else a)))) : gMax2 [.int a, .int b] km := h
instance i_e_omax2  : StpC (gMax2 [.int a, .int b] km) (km (.fz (.int (if b > a then b else a)))) := ⟨e_omax2⟩
theorem e_olenL (h : km (.fz (.int xs.length))) : gLen [.list xs] km := h
instance i_e_olenL  : StpC (gLen [.list xs] km) (km (.fz (.int xs.length))) := ⟨e_olenL⟩
theorem e_olenT (h : km (.fz (.int xs.length))) : gLen [.tuple xs] km := h
instance i_e_olenT  : StpC (gLen [.tuple xs] km) (km (.fz (.int xs.length))) := ⟨e_olenT⟩
theorem e_otupL (h : km (.fz (.tuple xs))) : gTuple [.list xs] km := h
instance i_e_otupL  : StpC (gTuple [.list xs] km) (km (.fz (.tuple xs))) := ⟨e_otupL⟩
theorem e_otupT (h : km (.fz (.tuple xs))) : gTuple [.tuple xs] km := h
instance i_e_otupT  : StpC (gTuple [.tuple xs] km) (km (.fz (.tuple xs))) := ⟨e_otupT⟩
theorem e_olstL (h : km (.lst xs)) : gList [.list xs] km := h
instance i_e_olstL  : StpC (gList [.list xs] km) (km (.lst xs)) := ⟨e_olstL⟩
theorem e_olstT (h : km (.lst xs)) : gList [.tuple xs] km := h
instance i_e_olstT  : StpC (gList [.tuple xs] km) (km (.lst xs)) := ⟨e_olstT⟩
theorem e_oslL {lo hi : Option Int} (h : km (.lst (cutD xs lo hi))) : gSl lo hi (.list xs) km := h
instance i_e_oslL {lo hi : Option Int} : StpC (gSl lo hi (.list xs) km) (km (.lst (cutD xs lo hi))) := ⟨e_oslL⟩
theorem e_oslT {lo hi : Option Int} (h : km (.fz (.tuple (cutD xs lo hi)))) : gSl lo hi (.tuple xs) km := h
instance i_e_oslT {lo hi : Option Int} : StpC (gSl lo hi (.tuple xs) km) (km (.fz (.tuple (cutD xs lo hi)))) := ⟨e_oslT⟩
theorem e_oixL (h : ixK xs a fun d => km (.fz d)) : gIx [.list xs, .int a] km := h
instance i_e_oixL  : StpC (gIx [.list xs, .int a] km) (ixK xs a fun d => km (.fz d)) := ⟨e_oixL⟩
theorem e_oixT (h : ixK xs a fun d => km (.fz d)) : gIx [.tuple xs, .int a] km := h
instance i_e_oixT  : StpC (gIx [.tuple xs, .int a] km) (ixK xs a fun d => km (.fz d)) := ⟨e_oixT⟩
theorem e_oaddL (h : km (.lst (xs ++ ys))) (c : xs.length + ys.length ≤ 16777216) : gAdd [.list xs, .list ys] km := ⟨c, h⟩
theorem e_oaddT (h : km (.fz (.tuple (xs ++ ys)))) (c : xs.length + ys.length ≤ 16777216) : gAdd [.tuple xs, .tuple ys] km := ⟨c, h⟩
theorem e_omulI (h : km (.fz (.int (a * b)))) (c : (-(2 ^ 64) < a ∧ a < 2 ^ 64) ∨ (-(2 ^ 64) < b ∧ b < 2 ^ 64)) : gRepT [.int a, .int b] km := ⟨c, h⟩
theorem e_omulT (h : km (.fz (.tuple (List.replicate b.toNat xs).flatten))) (c : xs ≠ [] ∧ 1 ≤ b ∧ b ≤ 1000 ∧ xs.length ≤ 1000) : gRepT [.tuple xs, .int b] km := ⟨c.1, c.2.1, c.2.2.1, c.2.2.2, h⟩
theorem e_omulL (h : km (.lst (List.replicate b.toNat xs).flatten)) (c : 0 ≤ b ∧ b ≤ 1000000 ∧ xs.length * b.toNat ≤ 16777216) : gRepT [.list xs, .int b] km := ⟨c.1, c.2.1, c.2.2, h⟩
theorem e_odiv (h : km (.fz (.int (a / b)))) (c : 0 < b ∧ b < 1073741824) : gDiv [.int a, .int b] km := ⟨c.1, c.2, h⟩
theorem e_omod (h : km (.fz (.int (a % b)))) (c : 0 < b) : gMod [.int a, .int b] km := ⟨c, h⟩
theorem e_opow (h : km (.fz (.int (a ^ b.toNat)))) (c : 0 ≤ b ∧ b ≤ 1000000 ∧ a.natAbs < 2 ^ 64) : gPow [.int a, .int b] km := ⟨c.1, c.2.1, c.2.2, h⟩
theorem e_oeq (h : km (.fz (.bool (PyData.eqv d e)))) (c : Pl 60 d ∧ Pl 60 e) : gEq [d, e] km := ⟨c.1, c.2, h⟩
theorem e_one (h : km (.fz (.bool (!PyData.eqv d e)))) (c : Pl 60 d ∧ Pl 60 e) : gNe [d, e] km := ⟨c.1, c.2, h⟩
theorem e_oinL (h : km (.fz (.bool (xor q (xs.any fun y => PyData.eqv y d))))) (c : Pl 60 d ∧ Pl 60 (.list xs)) : inD q [d, .list xs] km := ⟨c.1, c.2, h⟩
theorem e_oinT (h : km (.fz (.bool (xor q (xs.any fun y => PyData.eqv y d))))) (c : Pl 60 d ∧ Pl 60 (.tuple xs)) : inD q [d, .tuple xs] km := ⟨c.1, c.2, h⟩
theorem ord_int : Ord2 (.int a) (.int b) := by simp [Ord2, PySem.W.alike]
theorem e_olt (h : km (.fz (.bool (decide (a < b))))) : gLt [.int a, .int b] km := ⟨ord_int, h⟩
instance i_e_olt  : StpC (gLt [.int a, .int b] km) (km (.fz (.bool (decide (a < b))))) := ⟨e_olt⟩
theorem e_ogt (h : km (.fz (.bool (decide (b < a))))) : gGt [.int a, .int b] km := ⟨ord_int, h⟩
instance i_e_ogt  : StpC (gGt [.int a, .int b] km) (km (.fz (.bool (decide (b < a))))) := ⟨e_ogt⟩
theorem e_ole (h : km (.fz (.bool (decide (a ≤ b))))) : gLe [.int a, .int b] km := by
  refine ⟨ord_int, ?_⟩
  show km (.fz (.bool (!decide (b < a))))
  rw [show (!decide (b < a)) = decide (a ≤ b) from by rw [← decide_not]; congr 1; exact propext ⟨fun h => by omega, fun h => by omega⟩]
  exact h
instance i_e_ole  : StpC (gLe [.int a, .int b] km) (km (.fz (.bool (decide (a ≤ b))))) := ⟨e_ole⟩
theorem e_oge (h : km (.fz (.bool (decide (b ≤ a))))) : gGe [.int a, .int b] km := by
  refine ⟨ord_int, ?_⟩
  show km (.fz (.bool (!decide (a < b))))
  rw [show (!decide (a < b)) = decide (b ≤ a) from by rw [← decide_not]; congr 1; exact propext ⟨fun h => by omega, fun h => by omega⟩]
  exact h
instance i_e_oge  : StpC (gGe [.int a, .int b] km) (km (.fz (.bool (decide (b ≤ a))))) := ⟨e_oge⟩
theorem e_any (h : A) : cAny a b ∧ A := ⟨trivial, h⟩
instance i_e_any  : StpC (cAny a b ∧ A) (A) := ⟨e_any⟩
theorem e_ixe (e : ixN n a = some j) (h : A) : ixN n a = some j ∧ A := ⟨e, h⟩
theorem k_ixN {k : Nat → Prop} (e : ixN n a = some j) (h : k j) : bindP (ixN n a) k := by rw [e]; exact h
theorem k_ixb {k : Int → Prop} (e : (ds[j]?.bind intOf) = some a) (h : k a) : bindP (ds[j]?.bind intOf) k := by rw [e]; exact h
theorem k_pa {k : D → Prop} (e : pkA env y = some d) (h : k d) : bindP (pkA env y) k := by rw [e]; exact h
theorem k_tru {k : Bool → Prop} (e : truD d = some p) (h : k p) : bindP (truD d) k := by rw [e]; exact h
theorem k_ia {k : Int → Prop} (e : intAt env i = some a) (h : k a) : bindP (intAt env i) k := by rw [e]; exact h
theorem k_ke1 {k : Key → Prop} (h : k (.inl a)) : keK (.int a) k := ⟨_, rfl, h⟩
instance i_k_ke1 {k : Key → Prop} : StpC (keK (.int a) k) (k (.inl a)) := ⟨k_ke1⟩
theorem k_ke2 {k : Key → Prop} (h : k (.inr t)) : keK (.str t) k := ⟨_, rfl, h⟩
instance i_k_ke2 {k : Key → Prop} : StpC (keK (.str t) k) (k (.inr t)) := ⟨k_ke2⟩
theorem k_da {k : List (D × D) → Prop} {es : List (D × D)} (e : env.sl[i]? = some (some (.dct es))) (h : k es) : daK env i k := by unfold daK dctAt; rw [e]; exact h
theorem k_kd1 {k : Key → Kes → Prop} (h : k (.inl a) kes) : kdK (.int a) (dctD kes) k := ⟨_, _, rfl, rfl, h⟩
instance i_k_kd1 {k : Key → Kes → Prop} : StpC (kdK (.int a) (dctD kes) k) (k (.inl a) kes) := ⟨k_kd1⟩
theorem k_kd2 {k : Key → Kes → Prop} (h : k (.inr t) kes) : kdK (.str t) (dctD kes) k := ⟨_, _, rfl, rfl, h⟩
instance i_k_kd2 {k : Key → Kes → Prop} : StpC (kdK (.str t) (dctD kes) k) (k (.inr t) kes) := ⟨k_kd2⟩
theorem k_vm {k : M → Prop} (h : k m) : vmK (.val m) k := ⟨_, rfl, h⟩
instance i_k_vm {k : M → Prop} : StpC (vmK (.val m) k) (k m) := ⟨k_vm⟩
theorem e_isi (h : fe env (fun r e1 => pkK r fun x => bindP (pkA e1 x) fun d => Q (.val (.fz (.bool (isiD T d)))) e1) W) : fIsi T fe env Q W := h
instance i_e_isi  : StpC (fIsi T fe env Q W) (fe env (fun r e1 => pkK r fun x => bindP (pkA e1 x) fun d => Q (.val (.fz (.bool (isiD T d)))) e1) W) := ⟨e_isi⟩
theorem e_setOf (h : xa env (fun as e1 => pksK e1 as fun ds => gSetOf ds fun ks => Qk ks e1) W) : fSetOf xa env Qk W := h
instance i_e_setOf  : StpC (fSetOf xa env Qk W) (xa env (fun as e1 => pksK e1 as fun ds => gSetOf ds fun ks => Qk ks e1) W) := ⟨e_setOf⟩
theorem e_sortS (h : fs env (fun ks e1 => OneKind ks ∧ ∀ ys : List Key, ys.Perm ks → Q (.val (.lst ((ys.map kD).mergeSort (PySem.W.dataLe false id)))) e1) W) : fSortS fs env Q W := h
instance i_e_sortS  : StpC (fSortS fs env Q W) (fs env (fun ks e1 => OneKind ks ∧ ∀ ys : List Key, ys.Perm ks → Q (.val (.lst ((ys.map kD).mergeSort (PySem.W.dataLe false id)))) e1) W) := ⟨e_sortS⟩
theorem e_lenS (h : fs env (fun ks e1 => Q (.val (.fz (.int ks.length))) e1) W) : fLenS fs env Q W := h
instance i_e_lenS  : StpC (fLenS fs env Q W) (fs env (fun ks e1 => Q (.val (.fz (.int ks.length))) e1) W) := ⟨e_lenS⟩
theorem e_sc (h : w env (fun ds e1 => offB e1 vs = true ∧ ds.length ≤ 4000 ∧ fScL vs tg ta fe ds e1 fun ks e2 => ∀ L : List Key, L.Nodup → (∀ j, j ∈ L ↔ j ∈ ks) → Qk L e2) W) : fSc w vs tg ta fe env Qk W := h
instance i_e_sc  : StpC (fSc w vs tg ta fe env Qk W) (w env (fun ds e1 => offB e1 vs = true ∧ ds.length ≤ 4000 ∧ fScL vs tg ta fe ds e1 fun ks e2 => ∀ L : List Key, L.Nodup → (∀ j, j ∈ L ↔ j ∈ ks) → Qk L e2) W) := ⟨e_sc⟩
theorem e_dnew (h : Q (.val (.dct (dctD []))) env) : fDNew env Q W := h
instance i_e_dnew  : StpC (fDNew env Q W) (Q (.val (.dct (dctD []))) env) := ⟨e_dnew⟩
theorem e_disp1 (h : fk env (fun r1 e1 => lkK r1 e1 fun x e2 => dK x fun kd => fe e2 (fun r2 e3 => lkK r2 e3 fun y e4 => dK y fun d => keK kd fun k => Q (.val (.dct (dctD [(k, d)]))) e4) W) W) : fDisp1 fk fe env Q W := h
instance i_e_disp1  : StpC (fDisp1 fk fe env Q W) (fk env (fun r1 e1 => lkK r1 e1 fun x e2 => dK x fun kd => fe e2 (fun r2 e3 => lkK r2 e3 fun y e4 => dK y fun d => keK kd fun k => Q (.val (.dct (dctD [(k, d)]))) e4) W) W) := ⟨e_disp1⟩
theorem e_oinDi (h : km (.fz (.bool (xor q (hasK kes (.inl a)))))) : gInD q [.int a, .dict (dctD kes)] km := ⟨.inl a, kes, rfl, rfl, h⟩
instance i_e_oinDi  : StpC (gInD q [.int a, .dict (dctD kes)] km) (km (.fz (.bool (xor q (hasK kes (.inl a)))))) := ⟨e_oinDi⟩
theorem e_oinDs (h : km (.fz (.bool (xor q (hasK kes (.inr t)))))) : gInD q [.str t, .dict (dctD kes)] km := ⟨.inr t, kes, rfl, rfl, h⟩
instance i_e_oinDs  : StpC (gInD q [.str t, .dict (dctD kes)] km) (km (.fz (.bool (xor q (hasK kes (.inr t)))))) := ⟨e_oinDs⟩
theorem e_osortD (h : km (.lst (((kes.map (·.1)).map kD).mergeSort (PySem.W.dataLe false id)))) (c : OneKind (kes.map (·.1))) : gSortD [.dict (dctD kes)] km := ⟨kes, rfl, c, h⟩
theorem e_setK (h : fe env (fun r e1 => lkK r e1 fun x e2 => dK x fun d => daK e2 i fun _ => fk e2 (fun r2 e3 => pkK r2 fun y => bindP (pkA e3 y) fun kd => daK e3 i fun es => kdK kd es fun k kes => kes.length < 16777216 ∧ putM e3 i (.dct (dctD (putKes kes k d))) nx) W) W) : sSetK i fk fe env ⟨nx, rt, bk, ct⟩ W := h
instance i_e_setK  : StpC (sSetK i fk fe env ⟨nx, rt, bk, ct⟩ W) (fe env (fun r e1 => lkK r e1 fun x e2 => dK x fun d => daK e2 i fun _ => fk e2 (fun r2 e3 => pkK r2 fun y => bindP (pkA e3 y) fun kd => daK e3 i fun es => kdK kd es fun k kes => kes.length < 16777216 ∧ putM e3 i (.dct (dctD (putKes kes k d))) nx) W) W) := ⟨e_setK⟩
theorem e_act (e : env.sl[i]? = some (some (.adr ad))) (h : lam (fun m => Q (.val m) env) fun ex => W ex env) : fAct i ad lam env Q W := ⟨e, h⟩
theorem e_lam {sl2 : Slots} (e : dropOwn env.sl = sl2) (h : fe ⟨sl2, []⟩ (fun r _ => vmK r Qv) fun ex _ => Ev ex) : lamOf fe env Qv Ev := by subst e; exact h
theorem e_tryAs (h : g env ⟨nx, rt, bk, ct⟩ fun ex e1 => bindP (sub ex.cls) fun b => if b = true then hdAs i hh ex e1 ⟨nx, rt, bk, ct⟩ else W ex e1) : sTryAs sub i g hh env ⟨nx, rt, bk, ct⟩ W := h
instance i_e_tryAs  : StpC (sTryAs sub i g hh env ⟨nx, rt, bk, ct⟩ W) (g env ⟨nx, rt, bk, ct⟩ fun ex e1 => bindP (sub ex.cls) fun b => if b = true then hdAs i hh ex e1 ⟨nx, rt, bk, ct⟩ else W ex e1) := ⟨e_tryAs⟩
theorem e_raise (h : xa env (fun as e1 => dosK as fun ds => ds.length = ns.length ∧ W ⟨x, exFs ns ds⟩ e1) W) : sRaise x ns xa env ⟨nx, rt, bk, ct⟩ W := h
instance i_e_raise  : StpC (sRaise x ns xa env ⟨nx, rt, bk, ct⟩ W) (xa env (fun as e1 => dosK as fun ds => ds.length = ns.length ∧ W ⟨x, exFs ns ds⟩ e1) W) := ⟨e_raise⟩
theorem e_hdAs (h1 : Nat.blt i env.sl.length = true) (h2 : env.bor.contains i = false) (h3 : (borOf env.sl env.bor).isSome = true) (h : ∀ a, putM env i (.adr a) fun e2 => hh a ex e2 ⟨fun e => i ∉ e.bor ∧ nx { e with sl := e.sl.set i none }, fun m e => rt m e, fun e => i ∉ e.bor ∧ bk { e with sl := e.sl.set i none }, fun e => i ∉ e.bor ∧ ct { e with sl := e.sl.set i none }⟩ W0) : hdAs i hh ex env ⟨nx, rt, bk, ct⟩ := ⟨by simpa using h1, by simpa using h2, h3, h⟩
theorem e_isX (e : env.sl[i]? = some (some (.adr ad))) (h : bindP (sub ex.cls) fun b => Q (.val (.fz (.bool b))) env) : fIsX sub i ad ex env Q W := ⟨e, h⟩
theorem e_fld (c : fls ex.cls = true) (e : env.sl[i]? = some (some (.adr ad))) (h : bindP (ex.fs.lookup x) fun d => Q (.val (.fz d)) env) : fFld fls i ad ex x env Q W := ⟨c, e, h⟩
def chK (m : M) (k : Bool → Prop) : Prop := match m with
  | .fz (.bool b) => k b
  | _ => False
def ltK (d : D) (k : List D → Prop) : Prop := bindP (lotD d) k
def dmK (r : R) (k : Kes → Prop) : Prop := ∃ mes, r = .val (.dct (dctD mes)) ∧ k mes
def dkK (es : List (D × D)) (k : Kes → Prop) : Prop := ∃ kes, es = dctD kes ∧ k kes
def parB (env : Env) (is : List Nat) : Bool := is.all fun i => Nat.blt i env.sl.length && !env.bor.contains i
def saK (env : Env) (is : List Nat) (ms : List M) (k : Env → Prop) : Prop := k { env with sl := setAll env.sl is ms }
theorem parB_of {env : Env} {is : List Nat} (c : parB env is = true) : ∀ i ∈ is, i < env.sl.length ∧ i ∉ env.bor := fun i hi => by
  have := List.all_eq_true.mp c i hi
  simp only [Bool.and_eq_true, Bool.not_eq_true'] at this
  exact ⟨by simpa using this.1, by simpa using this.2⟩
theorem k_dm {k : Kes → Prop} (h : k kes) : dmK (.val (.dct (dctD kes))) k := ⟨_, rfl, h⟩
instance i_k_dm {k : Kes → Prop} : StpC (dmK (.val (.dct (dctD kes))) k) (k kes) := ⟨k_dm⟩
theorem k_dk {k : Kes → Prop} (h : k kes) : dkK (dctD kes) k := ⟨_, rfl, h⟩
instance i_k_dk {k : Kes → Prop} : StpC (dkK (dctD kes) k) (k kes) := ⟨k_dk⟩
theorem e_dc (h : w env (fun ds e1 => offB e1 vs = true ∧ ds.length ≤ 16777216 ∧ fDcL vs tg ta fk fe ds [] e1 fun kes e2 => Q (.val (.dct (dctD kes))) e2) W) : fDc w vs tg ta fk fe env Q W := h
instance i_e_dc  : StpC (fDc w vs tg ta fk fe env Q W) (w env (fun ds e1 => offB e1 vs = true ∧ ds.length ≤ 16777216 ∧ fDcL vs tg ta fk fe ds [] e1 fun kes e2 => Q (.val (.dct (dctD kes))) e2) W) := ⟨e_dc⟩
theorem e_updD (h : daK env i fun _ => fe env (fun r e1 => dmK r fun mes => daK e1 i fun es => dkK es fun kes => kes.length + mes.length ≤ 16777216 ∧ putM e1 i (.dct (dctD (mergeKes kes mes))) fun e2 => Q (.val (.fz .none)) e2) W) : fUpdD i fe env Q W := h
instance i_e_updD  : StpC (fUpdD i fe env Q W) (daK env i fun _ => fe env (fun r e1 => dmK r fun mes => daK e1 i fun es => dkK es fun kes => kes.length + mes.length ≤ 16777216 ∧ putM e1 i (.dct (dctD (mergeKes kes mes))) fun e2 => Q (.val (.fz .none)) e2) W) := ⟨e_updD⟩
theorem e_ow0 {Qm : List M → Env → Prop} (h : Qm [] env) : fOwns [] env Qm W := h
instance i_e_ow0 {Qm : List M → Env → Prop} : StpC (fOwns [] env Qm W) (Qm [] env) := ⟨e_ow0⟩
theorem e_ow1 {Qm : List M → Env → Prop} {l : List FE} (h : fe env (fun r e1 => owK r e1 fun m e2 => fOwns l e2 (fun ms e3 => Qm (m :: ms) e3) W) W) : fOwns (fe :: l) env Qm W := h
instance i_e_ow1 {Qm : List M → Env → Prop} {l : List FE} : StpC (fOwns (fe :: l) env Qm W) (fe env (fun r e1 => owK r e1 fun m e2 => fOwns l e2 (fun ms e3 => Qm (m :: ms) e3) W) W) := ⟨e_ow1⟩
theorem e_parN {is : List Nat} {l : List FE} (h : fOwns l env (fun ms e1 => (∀ i ∈ is, i < e1.sl.length ∧ i ∉ e1.bor) ∧ ms.length = is.length ∧ saK e1 is ms nx) W) : sParN is l env ⟨nx, rt, bk, ct⟩ W := h
instance i_e_parN {is : List Nat} {l : List FE} : StpC (sParN is l env ⟨nx, rt, bk, ct⟩ W) (fOwns l env (fun ms e1 => (∀ i ∈ is, i < e1.sl.length ∧ i ∉ e1.bor) ∧ ms.length = is.length ∧ saK e1 is ms nx) W) := ⟨e_parN⟩
theorem e_parB {is : List Nat} {A : Prop} (c : parB env is = true) (c2 : ms.length = is.length) (h : A) : (∀ i ∈ is, i < env.sl.length ∧ i ∉ env.bor) ∧ ms.length = is.length ∧ A := ⟨parB_of c, c2, h⟩
theorem k_sa {is : List Nat} {b : List Nat} {sl2 : Slots} (e : setAll sl is ms = sl2) (h : k ⟨sl2, b⟩) : saK ⟨sl, b⟩ is ms k := by unfold saK; rw [e]; exact h
theorem k_ch {k : Bool → Prop} (h : k p) : chK (.fz (.bool p)) k := h
instance i_k_ch {k : Bool → Prop} : StpC (chK (.fz (.bool p)) k) (k p) := ⟨k_ch⟩
theorem k_lt1 {k : List D → Prop} (h : k ds) : ltK (.list ds) k := h
instance i_k_lt1 {k : List D → Prop} : StpC (ltK (.list ds) k) (k ds) := ⟨k_lt1⟩
theorem k_lt2 {k : List D → Prop} (h : k ds) : ltK (.tuple ds) k := h
instance i_k_lt2 {k : List D → Prop} : StpC (ltK (.tuple ds) k) (k ds) := ⟨k_lt2⟩
theorem e_chain {g1 g2 : List D → (M → Prop) → Prop} (h : fa env (fun ra e1 => pkK ra fun xa => fb e1 (fun rb e2 => pkK rb fun xb => pksK e2 [xa, xb] fun ds => g1 ds fun m => chK m fun k => if k = true then fc e2 (fun rc e3 => pkK rc fun xc => pksK e3 [xb, xc] fun es => g2 es fun m => Q (.val m) e3) W else Q (.val (.fz (.bool false))) e2) W) W) : fChain g1 g2 fa fb fc env Q W := h
instance i_e_chain {g1 g2 : List D → (M → Prop) → Prop} : StpC (fChain g1 g2 fa fb fc env Q W) (fa env (fun ra e1 => pkK ra fun xa => fb e1 (fun rb e2 => pkK rb fun xb => pksK e2 [xa, xb] fun ds => g1 ds fun m => chK m fun k => if k = true then fc e2 (fun rc e3 => pkK rc fun xc => pksK e3 [xb, xc] fun es => g2 es fun m => Q (.val m) e3) W else Q (.val (.fz (.bool false))) e2) W) W) := ⟨e_chain⟩
theorem e_chain3 {g1 g2 g3 : List D → (M → Prop) → Prop} {fd : FE} (h : fa env (fun ra e1 => pkK ra fun xa => fb e1 (fun rb e2 => pkK rb fun xb => pksK e2 [xa, xb] fun ds => g1 ds fun m => chK m fun k => if k = true then fc e2 (fun rc e3 => pkK rc fun xc => pksK e3 [xb, xc] fun es => g2 es fun m => chK m fun k => if k = true then fd e3 (fun rd e4 => pkK rd fun xd => pksK e4 [xc, xd] fun es => g3 es fun m => Q (.val m) e4) W else Q (.val (.fz (.bool false))) e3) W else Q (.val (.fz (.bool false))) e2) W) W) : fChain3 g1 g2 g3 fa fb fc fd env Q W := h
instance i_e_chain3 {g1 g2 g3 : List D → (M → Prop) → Prop} {fd : FE} : StpC (fChain3 g1 g2 g3 fa fb fc fd env Q W) (fa env (fun ra e1 => pkK ra fun xa => fb e1 (fun rb e2 => pkK rb fun xb => pksK e2 [xa, xb] fun ds => g1 ds fun m => chK m fun k => if k = true then fc e2 (fun rc e3 => pkK rc fun xc => pksK e3 [xb, xc] fun es => g2 es fun m => chK m fun k => if k = true then fd e3 (fun rd e4 => pkK rd fun xd => pksK e4 [xc, xd] fun es => g3 es fun m => Q (.val m) e4) W else Q (.val (.fz (.bool false))) e3) W else Q (.val (.fz (.bool false))) e2) W) W) := ⟨e_chain3⟩
theorem e_rev (h : fe env (fun r e1 => pkK r fun x => bindP (pkA e1 x) fun d => gRev d fun m => Q (.val m) e1) W) : fRev fe env Q W := h
instance i_e_rev  : StpC (fRev fe env Q W) (fe env (fun r e1 => pkK r fun x => bindP (pkA e1 x) fun d => gRev d fun m => Q (.val m) e1) W) := ⟨e_rev⟩
theorem e_grevL (h : km (.lst xs.reverse)) : gRev (.list xs) km := h
instance i_e_grevL  : StpC (gRev (.list xs) km) (km (.lst xs.reverse)) := ⟨e_grevL⟩
theorem e_grevT (h : km (.fz (.tuple xs.reverse))) : gRev (.tuple xs) km := h
instance i_e_grevT  : StpC (gRev (.tuple xs) km) (km (.fz (.tuple xs.reverse))) := ⟨e_grevT⟩
theorem e_callL (e : env.sl[i]? = some (some (.gl x))) (h : fCall sp bs xa env Q W) : fCallL i x sp bs xa env Q W := ⟨e, h⟩
theorem e_meth (h : fa env (fun r e1 => pkK r fun y => bindP (pkA e1 y) fun d => TyIs T d ∧ xa e1 (fun as e2 => pksK e2 (y :: as) fun ds => gd ds fun m => Q (.val m) e2) W) W) : fMeth T gd fa xa env Q W := h
instance i_e_meth  : StpC (fMeth T gd fa xa env Q W) (fa env (fun r e1 => pkK r fun y => bindP (pkA e1 y) fun d => TyIs T d ∧ xa e1 (fun as e2 => pksK e2 (y :: as) fun ds => gd ds fun m => Q (.val m) e2) W) W) := ⟨e_meth⟩
theorem e_tyL {A : Prop} (h : A) : TyIs "list" (.list xs) ∧ A := ⟨ty_l, h⟩
instance i_e_tyL {A : Prop} : StpC (TyIs "list" (.list xs) ∧ A) (A) := ⟨e_tyL⟩
theorem e_tyT {A : Prop} (h : A) : TyIs "tuple" (.tuple xs) ∧ A := ⟨ty_t, h⟩
instance i_e_tyT {A : Prop} : StpC (TyIs "tuple" (.tuple xs) ∧ A) (A) := ⟨e_tyT⟩
theorem e_tyS {A : Prop} (h : A) : TyIs "str" (.str t) ∧ A := ⟨ty_s, h⟩
instance i_e_tyS {A : Prop} : StpC (TyIs "str" (.str t) ∧ A) (A) := ⟨e_tyS⟩
theorem e_ext (h : laK env i fun _ => fe env (fun r e1 => pkK r fun y => bindP (pkA e1 y) fun d => ltK d fun es => laK e1 i fun ds => ds.length + es.length ≤ 16777216 ∧ liK (ds ++ es) fun l => putM e1 i (.lst l) fun e3 => Q (.val (.fz .none)) e3) W) : fExt i fe env Q W := h
instance i_e_ext  : StpC (fExt i fe env Q W) (laK env i fun _ => fe env (fun r e1 => pkK r fun y => bindP (pkA e1 y) fun d => ltK d fun es => laK e1 i fun ds => ds.length + es.length ≤ 16777216 ∧ liK (ds ++ es) fun l => putM e1 i (.lst l) fun e3 => Q (.val (.fz .none)) e3) W) := ⟨e_ext⟩
end
section
variable {α : Type} {a : α} {l : List α} {A B : Prop} {b : Bool}
theorem e_b {o : Option α} {k : α → Prop} (e : o = some a) (h : k a) : bindP o k := by rw [e]; exact h
theorem e_2 (h : B) (s : A) : A ∧ B := ⟨s, h⟩
theorem e_3 {C : Prop} (h : C) (s : A) (t : B) : A ∧ B ∧ C := ⟨s, t, h⟩
theorem e_ix {xs : List D} {i : Int} {d : D} {k : D → Prop} (e : atI xs i = some d) (h : k d) : ixK xs i k := by unfold ixK; rw [e]; exact h
theorem e_ite (h1 : b = true → A) (h2 : b = false → B) : if b = true then A else B := by
  cases b with
  | true => rw [if_pos rfl]; exact h1 rfl
  | false => rw [if_neg Bool.false_ne_true]; exact h2 rfl
theorem e_iteT (h : A) : if true = true then A else B := by rw [if_pos rfl]; exact h
theorem e_iteF (h : B) : if false = true then A else B := by rw [if_neg Bool.false_ne_true]; exact h
end
section
variable {ds es xs : List D} {d : D} {n : Nat}
theorem v_int {a b : Int} : PyData.eqv (.int a) (.int b) = (a == b) := rfl
theorem v_str {a b : Str} : PyData.eqv (.str a) (.str b) = (a == b) := rfl
theorem v_bool {a b : Bool} : PyData.eqv (.bool a) (.bool b) = (a == b) := rfl
theorem v_tup {a b : List D} : PyData.eqv (.tuple a) (.tuple b) = PyData.eqvAll a b := rfl
theorem v_lst {a b : List D} : PyData.eqv (.list a) (.list b) = PyData.eqvAll a b := rfl
end
/-- a def's body at its entry -/
theorem e_body {n np : Nat} {bs : List Nat} {g : FS} {ms : List M} {Q : M → List M → Prop} {E : Ex → List M → Prop} (e : ms.length = np) {sl : Slots} (es : ms.map some ++ List.replicate (n - ms.length) none = sl)
    (h : g ⟨sl, bs⟩ ⟨fun e => boK e.sl bs fun b => Q (.fz .none) b, fun m e => boK e.sl bs fun b => Q m b, fun _ => False, fun _ => False⟩ (fun ex e => bindP (borOf e.sl bs) fun b => E ex b)) : bodyV n np bs g ms Q E := by
  subst es
  exact ⟨e, h⟩
end VL

/-! VlU: loops and comprehensions gone through, backwards. -/
namespace VL
open PySem PySem.Spec PyProof.Rows L2
inductive All2 (R : D → D → Prop) : List D → List D → Prop
  | nil : All2 R [] []
  | cons {a b : D} {as bs : List D} : R a b → All2 R as bs → All2 R (a :: as) (b :: bs)
section
variable {vs : List Nat} {g : FG} {ft : FT} {fe : FE} {d : D} {ds : List D} {env : Env} {k : List D → Env → Prop} {Qy : D → Env → Prop} {Qn : Env → Prop} {W : KX} {sl new : Slots} {b : List Nat}
/-- one turn of a comprehension: an item comes of it, or none -/
def lcT (vs : List Nat) (g : FG) (ft : FT) (fe : FE) (d : D) (env : Env) (Qy : D → Env → Prop) (Qn : Env → Prop) : Prop := g d (wipeE env vs) fun e1 => ft e1 (fun b e2 =>
  if b = true then fe e2 (fun r e3 => bindP (lkR e3 r) fun x => bindP (dOf x.1) fun y => Qy y (restE env x.2 vs)) W0 else Qn (restE env e2 vs)) W0
theorem lcL_nil (h : k [] env) : fLcL vs g ft fe [] env k := h
theorem lcL_cons (h : lcT vs g ft fe d env (fun y e => fLcL vs g ft fe ds e fun ys e4 => k (y :: ys) e4) fun e => fLcL vs g ft fe ds e k) : fLcL vs g ft fe (d :: ds) env k := h
def reE (b : List Nat) (old : Slots) (e : Env) (vs : List Nat) (k : Env → Prop) : Prop := k ⟨restS old e.sl vs, b⟩
theorem k_re {k : Env → Prop} {c : List Nat} {sl3 : Slots} (e : restS sl new vs = sl3) (h : k ⟨sl3, b⟩) : reE b sl ⟨new, c⟩ vs k := by unfold reE; rw [e]; exact h
theorem e_turn {sl2 : Slots} (w : wipeS sl vs = sl2) (h : g d ⟨sl2, b⟩ fun e1 => ft e1 (fun p e2 => if p = true then fe e2 (fun r e3 => lkK r e3 fun x e4 => dK x fun y => reE b sl e4 vs fun e5 => Qy y e5) W0 else reE b sl e2 vs Qn) W0) : lcT vs g ft fe d ⟨sl, b⟩ Qy Qn := by
  subst w
  exact h
/-- every item gives one, the slots stay -/
theorem lc_map (f : D → D) : ∀ {ds : List D} {k : List D → Env → Prop} (_ : ∀ d ∈ ds, ∀ Qy Qn, Qy (f d) env → lcT vs g ft fe d env Qy Qn) (_ : k (ds.map f) env), fLcL vs g ft fe ds env k
  | [], _, _, hk => hk
  | d :: ds, k, h, hk => lcL_cons (h d List.mem_cons_self _ _ (lc_map f (fun x hx => h x (List.mem_cons_of_mem _ hx)) hk))
/-- some items give one, the slots stay -/
theorem lc_filt (p : D → Bool) (f : D → D) : ∀ {ds : List D} {k : List D → Env → Prop} (_ : ∀ d ∈ ds, ∀ Qy Qn, (p d = true → Qy (f d) env) → (p d = false → Qn env) → lcT vs g ft fe d env Qy Qn) (_ : k ((ds.filter p).map f) env), fLcL vs g ft fe ds env k
  | [], _, _, hk => hk
  | d :: ds, k, h, hk => by
    refine lcL_cons (h d List.mem_cons_self _ _ (fun e => ?_) fun e => ?_)
    · rw [List.filter_cons_of_pos e] at hk
      exact lc_filt p f (fun x hx => h x (List.mem_cons_of_mem _ hx)) hk
    · rw [List.filter_cons_of_neg (by simp [e])] at hk
      exact lc_filt p f (fun x hx => h x (List.mem_cons_of_mem _ hx)) hk
/-- every item gives one that R allows; I holds of the slots throughout -/
theorem lc_inv (I : Env → Prop) (R : D → D → Prop) : ∀ {ds : List D} {env : Env} {k : List D → Env → Prop} (_ : I env) (_ : ∀ d ∈ ds, ∀ env, I env → ∀ Qy Qn, (∀ y env', R d y → I env' → Qy y env') → lcT vs g ft fe d env Qy Qn)
    (_ : ∀ ys env', All2 R ds ys → I env' → k ys env'), fLcL vs g ft fe ds env k
  | [], _, _, hI, _, hk => hk [] _ .nil hI
  | d :: ds, env, k, hI, h, hk => lcL_cons (h d List.mem_cons_self env hI _ _ fun y env' r hI' => lc_inv I R hI' (fun x hx => h x (List.mem_cons_of_mem _ hx)) fun ys e4 rs hI4 => hk _ _ (.cons r rs) hI4)
end
section
variable {vs : List Nat} {g : FG} {ft : FT} {fk fe : FE} {d : D} {ds : List D} {env : Env} {k : Kes → Env → Prop} {acc : Kes} {Qy : Kes → Env → Prop} {Qn : Env → Prop} {W : KX} {sl : Slots} {b : List Nat}
/-- one turn of a dict comprehension -/
def dcT (vs : List Nat) (g : FG) (ft : FT) (fk fe : FE) (d : D) (acc : Kes) (env : Env) (Qy : Kes → Env → Prop) (Qn : Env → Prop) : Prop := g d (wipeE env vs) fun e1 => ft e1 (fun b e2 =>
  if b = true then fk e2 (fun r1 e3 => bindP (lkR e3 r1) fun x => bindP (dOf x.1) fun kd => fe x.2 (fun r2 e4 => bindP (lkR e4 r2) fun y => bindP (dOf y.1) fun dv => ∃ kk : Key, kd = kD kk ∧ Qy (putKes acc kk dv) (restE env y.2 vs)) W0) W0 else Qn (restE env e2 vs)) W0
theorem dcL_nil (h : k acc env) : fDcL vs g ft fk fe [] acc env k := h
theorem dcL_cons (h : dcT vs g ft fk fe d acc env (fun acc2 e => fDcL vs g ft fk fe ds acc2 e k) fun e => fDcL vs g ft fk fe ds acc e k) : fDcL vs g ft fk fe (d :: ds) acc env k := h
theorem e_turnD {sl2 : Slots} (w : wipeS sl vs = sl2) (h : g d ⟨sl2, b⟩ fun e1 => ft e1 (fun p e2 => if p = true then fk e2 (fun r1 e3 => lkK r1 e3 fun x e4 => dK x fun kd => fe e4 (fun r2 e5 => lkK r2 e5 fun y e6 => dK y fun dv => keK kd fun kk => reE b sl e6 vs fun e7 => Qy (putKes acc kk dv) e7) W0) W0 else reE b sl e2 vs Qn) W0) : dcT vs g ft fk fe d acc ⟨sl, b⟩ Qy Qn := by
  subst w
  exact h
/-- every item is put, the slots stay -/
theorem dc_map (f : D → Key × D) : ∀ {ds : List D} {acc : Kes} {k : Kes → Env → Prop} (_ : ∀ d ∈ ds, ∀ acc Qy Qn, Qy (putKes acc (f d).1 (f d).2) env → dcT vs g ft fk fe d acc env Qy Qn) (_ : k ((ds.map f).foldl (fun a p => putKes a p.1 p.2) acc) env), fDcL vs g ft fk fe ds acc env k
  | [], _, _, _, hk => hk
  | d :: ds, acc, k, h, hk => dcL_cons (h d List.mem_cons_self _ _ _ (dc_map f (fun x hx => h x (List.mem_cons_of_mem _ hx)) hk))
end
section
variable {g : FG} {body : FS} {W : KX} {d : D} {ds : List D} {env : Env} {nx : Env → Prop} {rt : M → Env → Prop} {bk ct : Env → Prop}
theorem for_nil (h : nx env) : sForL g body ⟨nx, rt, bk, ct⟩ W [] env := h
theorem for_cons (h : g d env fun e1 => body e1 ⟨sForL g body ⟨nx, rt, bk, ct⟩ W ds, rt, nx, sForL g body ⟨nx, rt, bk, ct⟩ W ds⟩ W) : sForL g body ⟨nx, rt, bk, ct⟩ W (d :: ds) env := h
/-- I: what is done, what is left, the slots -/
theorem for_inv (I : List D → List D → Env → Prop) : ∀ {ds dn : List D} {env : Env} (_ : I dn ds env) (_ : ∀ dn d ds env, I dn (d :: ds) env → g d env fun e1 => ∀ nx' : Env → Prop, (∀ e2, I (dn ++ [d]) ds e2 → nx' e2) → body e1 ⟨nx', rt, nx, nx'⟩ W)
    (_ : ∀ dn env, I dn [] env → nx env) (_ : ∀ d env (k k' : Env → Prop), (∀ e, k e → k' e) → g d env k → g d env k'), sForL g body ⟨nx, rt, bk, ct⟩ W ds env
  | [], dn, env, hI, _, hd, _ => hd dn env hI
  | d :: ds, dn, env, hI, h, hd, mono => for_cons (mono d env _ _ (fun e1 hb => hb _ fun e2 hI2 => for_inv I hI2 h hd mono) (h dn d ds env hI))
theorem mono_gN {i : Nat} : ∀ d env (k k' : Env → Prop), (∀ e, k e → k' e) → gN i d env k → gN i d env k' := fun d env k k' h ⟨a, b, c⟩ => ⟨a, b, h _ c⟩
/-- while: I holds by the measure -/
theorem e_while {c : FT} {body : FS} (I : Nat → Env → Prop) {n : Nat} (h0 : I n env) (h : ∀ n e, I n e → c e (fun b e1 => if b = true then body e1 ⟨fun e2 => ∃ m, m < n ∧ I m e2, rt, nx, fun e2 => ∃ m, m < n ∧ I m e2⟩ W else nx e1) W) : sWhile c body env ⟨nx, rt, bk, ct⟩ W := ⟨I, ⟨n, h0⟩, h⟩
end
theorem e_len {ds : List D} {A : Prop} (e : Nat.ble ds.length 16777216 = true) (h : A) : ds.length ≤ 16777216 ∧ A := ⟨Nat.le_of_ble_eq_true e, h⟩
theorem e_len2 {ds es : List D} {A : Prop} (h : A) (e : ds.length + es.length ≤ 16777216) : ds.length + es.length ≤ 16777216 ∧ A := ⟨e, h⟩
mutual
theorem Pl.mono : ∀ {n m : Nat} (d : D), Pl n d → n ≤ m → Pl m d
  | _, _, .none, _, _ => by simp
  | _, _, .bool _, _, _ => by simp
  | _, _, .int _, _, _ => by simp
  | _, _, .str _, _, _ => by simp
  | n, m, .dict _, h, _ => by simp at h
  | n, m, .list xs, h, l => by
    rw [Pl_list] at h ⊢
    exact ⟨by omega, Pl.monoAll xs h.2 (by omega)⟩
  | n, m, .tuple xs, h, l => by
    rw [Pl_tuple] at h ⊢
    exact ⟨by omega, Pl.monoAll xs h.2 (by omega)⟩
theorem Pl.monoAll : ∀ {n m : Nat} (xs : List D), (∀ x ∈ xs, Pl n x) → n ≤ m → ∀ x ∈ xs, Pl m x
  | _, _, [], _, _, x, hx => by simp at hx
  | n, m, y :: ys, h, l, x, hx => by
    rcases List.mem_cons.mp hx with e | hx
    · rw [e]
      exact Pl.mono y (h y List.mem_cons_self) l
    · exact Pl.monoAll ys (fun z hz => h z (List.mem_cons_of_mem _ hz)) l x hx
end
theorem erase_perm {α : Type} : ∀ {xs : List α} {i : Nat} (h : i < xs.length), (xs[i] :: xs.eraseIdx i).Perm xs
  | x :: xs, 0, _ => .refl _
  | x :: xs, i + 1, h => by
    have h' : i < xs.length := Nat.lt_of_succ_lt_succ h
    show (xs[i] :: x :: xs.eraseIdx i).Perm (x :: xs)
    exact (List.Perm.swap _ _ _).trans ((erase_perm h').cons x)
theorem ixN_nat {n : Nat} {v : Int} (h0 : 0 ≤ v) (h1 : v < n) : ixN n v = some v.toNat := by unfold ixN; rw [if_pos h0, if_pos h1]
theorem atI_of {α : Type} {xs : List α} {v : Int} {x : α} (h0 : 0 ≤ v) (h : xs[v.toNat]? = some x) : atI xs v = some x := by
  have hl := (List.getElem?_eq_some_iff.mp h).1
  unfold atI
  rw [ixN_nat h0 (by omega)]
  exact h
end VL

set_option maxHeartbeats 1000000
/-! VlS: small data: how deep, how much of it is printed. -/
namespace VL
open PySem PySem.Spec PyProof.Rows L2
def StrOk (x : Str) : Prop := ∀ c ∈ x.cps.toList, c < 16 ^ 8
/-- at most k deep, at most n of bulk -/
structure Sm (k n : Nat) (d : D) : Prop where
  pl : Pl k d
  sh : d.showable = true
  lv : d.leavesShort 13 = true
  bk : d.bulk ≤ n
theorem Sm.mono {k n k' n' : Nat} {d : D} (h : Sm k n d) (hk : k ≤ k') (hn : n ≤ n') : Sm k' n' d := ⟨Pl.mono _ h.pl hk, h.sh, h.lv, Nat.le_trans h.bk hn⟩
theorem Sm.int {k n : Nat} {i : Int} (h : i.natAbs < 10 ^ 12) : Sm k n (.int i) := by
  refine ⟨by simp, ?_, ?_, Nat.zero_le _⟩
  · show decide (i.natAbs.log2 < 1920) = true
    refine decide_eq_true ?_
    by_cases h0 : i.natAbs = 0
    · rw [h0]; decide
    · refine (Nat.log2_lt h0).mpr (Nat.lt_of_lt_of_le h ?_)
      calc 10 ^ 12 ≤ 2 ^ 40 := by decide
        _ ≤ 2 ^ 1920 := Nat.pow_le_pow_right (by decide) (by decide)
  · show decide ((PyData.shown (.int i)).length ≤ 13) = true
    refine decide_eq_true ?_
    show (Str.ofString (toString i)).length ≤ 13
    rw [PySem.ofString_length]
    exact int_text_length_le10 (k := 12) (by decide) h
theorem Sm.bool {k n : Nat} {b : Bool} : Sm k n (.bool b) := ⟨by simp, rfl, rfl, Nat.zero_le _⟩
theorem Sm.none {k n : Nat} : Sm k n .none := ⟨by simp, rfl, rfl, Nat.zero_le _⟩
theorem Sm.str {k n : Nat} {x : Str} (h : StrOk x) (hn : x.cps.size ≤ n) : Sm k n (.str x) := by
  refine ⟨by simp, rfl, ?_, hn⟩
  show (x.cps.toList.all fun c => decide (c < 16 ^ 8)) = true
  rw [List.all_eq_true]
  exact fun c hc => decide_eq_true (h c hc)
theorem sm_all {k n : Nat} : ∀ {xs : List D}, (∀ x ∈ xs, Sm k n x) → PyData.showableAll xs = true ∧ PyData.leavesShortAll 13 xs = true ∧ PyData.bulkAll xs ≤ xs.length * (n + 1)
  | [], _ => ⟨rfl, rfl, Nat.zero_le _⟩
  | x :: xs, h => by
    obtain ⟨h1, h2, h3⟩ := sm_all fun y hy => h y (List.mem_cons_of_mem _ hy)
    have hx := h x List.mem_cons_self
    refine ⟨?_, ?_, ?_⟩
    · show (x.showable && PyData.showableAll xs) = true
      rw [hx.sh, h1]; rfl
    · show (x.leavesShort 13 && PyData.leavesShortAll 13 xs) = true
      rw [hx.lv, h2]; rfl
    · show x.bulk + 1 + PyData.bulkAll xs ≤ (xs.length + 1) * (n + 1)
      have := hx.bk
      rw [Nat.add_mul, Nat.one_mul]
      omega
theorem Sm.lst {k n m N : Nat} {xs : List D} (h : ∀ x ∈ xs, Sm k n x) (hm : xs.length ≤ m) (hN : m * (n + 1) ≤ N) : Sm (k + 1) N (.list xs) := by
  obtain ⟨h1, h2, h3⟩ := sm_all h
  refine ⟨?_, h1, h2, Nat.le_trans h3 (Nat.le_trans (Nat.mul_le_mul_right _ hm) hN)⟩
  rw [Pl_list]
  exact ⟨Nat.succ_pos _, fun x hx => (h x hx).pl⟩
theorem Sm.tup {k n m N : Nat} {xs : List D} (h : ∀ x ∈ xs, Sm k n x) (hm : xs.length ≤ m) (hN : m * (n + 1) ≤ N) : Sm (k + 1) N (.tuple xs) := by
  obtain ⟨h1, h2, h3⟩ := sm_all h
  refine ⟨?_, h1, h2, Nat.le_trans h3 (Nat.le_trans (Nat.mul_le_mul_right _ hm) hN)⟩
  rw [Pl_tuple]
  exact ⟨Nat.succ_pos _, fun x hx => (h x hx).pl⟩
theorem Sm.len {k n : Nat} {d : D} (h : Sm k n d) (hn : n ≤ 2 ^ 20) : d.shown.length ≤ 16777216 := by
  have := PyData.shown_fits_bulk (B := 13) (by decide) (by decide) h.lv (Nat.le_trans h.bk hn)
  rw [sizeLine_eq] at this
  exact this
end VL

set_option maxHeartbeats 4000000
/-! printed by gen.py from the text of k22_sets_part_by_part -/
namespace K22
open PySem PySem.Spec PyProof.Rows L2 VL
def topS (i : Nat) : Stmt := PySem.Challenge.pw_toldforgood_k22_sets_part_by_part.main.body.getD i (.Pass ⟨0, 0, 0, 0⟩)
theorem sc__law_alike : FnScope ["found", "due"] ["found", "due"] (defScope (topS 49)) := ⟨rfl, rfl, rfl, by decide +kernel, rfl, by decide +kernel, by decide +kernel⟩
theorem sc__law_bag : FnScope ["script", "cell"] ["script"] (defScope (topS 39)) := ⟨rfl, rfl, rfl, by decide +kernel, rfl, by decide +kernel, by decide +kernel⟩
theorem sc__law_figure : FnScope ["plan", "name", "figure"] ["plan", "name"] (defScope (topS 31)) := ⟨rfl, rfl, rfl, by decide +kernel, rfl, by decide +kernel, by decide +kernel⟩
theorem sc__law_slots_of_times : FnScope ["plan", "reads", "begin", "end", "found", "time", "source", "number"] ["plan", "reads", "begin", "end"] (defScope (topS 32)) := ⟨rfl, rfl, rfl, by decide +kernel, rfl, by decide +kernel, by decide +kernel⟩
theorem sc__law_reading : FnScope ["plan", "name", "time", "figure", "found", "slot"] ["plan", "name"] (defScope (topS 33)) := ⟨rfl, rfl, rfl, by decide +kernel, rfl, by decide +kernel, by decide +kernel⟩
theorem sc__law_slot_sources : FnScope ["plan", "name", "part"] ["plan", "name"] (defScope (topS 51)) := ⟨rfl, rfl, rfl, by decide +kernel, rfl, by decide +kernel, by decide +kernel⟩
theorem sc__law_take : FnScope ["bag", "many", "begin", "second", "cell", "stirred", "value"] ["bag", "many"] (defScope (topS 34)) := ⟨rfl, rfl, rfl, by decide +kernel, rfl, by decide +kernel, by decide +kernel⟩
theorem sc__law_some : FnScope ["bag", "things"] ["bag", "things"] (defScope (topS 35)) := ⟨rfl, rfl, rfl, by decide +kernel, rfl, by decide +kernel, by decide +kernel⟩
theorem sc__law_source : FnScope ["plan", "name", "source"] ["plan", "name"] (defScope (topS 36)) := ⟨rfl, rfl, rfl, by decide +kernel, rfl, by decide +kernel, by decide +kernel⟩
theorem sc__law_drawn_row : FnScope ["bag", "plan", "name", "source", "found", "share", "some"] ["bag", "plan", "name"] (defScope (topS 52)) := ⟨rfl, rfl, rfl, by decide +kernel, rfl, by decide +kernel, by decide +kernel⟩
theorem sc__law_heard : FnScope ["act", "e"] ["act"] (defScope (topS 50)) := ⟨rfl, rfl, rfl, by decide +kernel, rfl, by decide +kernel, by decide +kernel⟩
theorem sc__law_is_row : FnScope ["plan", "name", "thing", "sources", "some", "member", "source"] ["plan", "name", "thing"] (defScope (topS 53)) := ⟨rfl, rfl, rfl, by decide +kernel, rfl, by decide +kernel, by decide +kernel⟩
theorem sc__law_odd_row : FnScope ["bag", "plan", "name", "row", "at", "odd", "some"] ["bag", "plan", "name", "row"] (defScope (topS 54)) := ⟨rfl, rfl, rfl, by decide +kernel, rfl, by decide +kernel, by decide +kernel⟩
theorem sc__law_counting : FnScope ["letters", "many", "row", "stay", "state", "letter"] ["letters", "many"] (defScope (topS 47)) := ⟨rfl, rfl, rfl, by decide +kernel, rfl, by decide +kernel, by decide +kernel⟩
theorem sc__law_letters : FnScope ["plan", "reads", "found", "name"] ["plan", "reads"] (defScope (topS 45)) := ⟨rfl, rfl, rfl, by decide +kernel, rfl, by decide +kernel, by decide +kernel⟩
theorem sc__law_machine : FnScope ["bag", "letters", "many", "outs", "rows", "letter", "steps", "row", "is_calm", "state"] ["bag", "letters", "many", "outs"] (defScope (topS 46)) := ⟨rfl, rfl, rfl, by decide +kernel, rfl, by decide +kernel, by decide +kernel⟩
theorem sc__law_names : FnScope ["plan", "source"] ["plan"] (defScope (topS 44)) := ⟨rfl, rfl, rfl, by decide +kernel, rfl, by decide +kernel, by decide +kernel⟩
theorem sc__law_promises_drawn : FnScope ["bag", "many", "most", "one", "gap", "found", "other"] ["bag", "many", "most"] (defScope (topS 43)) := ⟨rfl, rfl, rfl, by decide +kernel, rfl, by decide +kernel, by decide +kernel⟩
theorem sc__law_mixed : FnScope ["bag", "things", "left", "found"] ["bag", "things"] (defScope (topS 40)) := ⟨rfl, rfl, rfl, by decide +kernel, rfl, by decide +kernel, by decide +kernel⟩
theorem sc__law_some_names : FnScope ["bag", "names", "many"] ["bag", "names", "many"] (defScope (topS 41)) := ⟨rfl, rfl, rfl, by decide +kernel, rfl, by decide +kernel, by decide +kernel⟩
theorem sc__law_sources_drawn : FnScope ["bag", "many", "rate", "letters", "found", "name", "some"] ["bag", "many", "rate", "letters"] (defScope (topS 42)) := ⟨rfl, rfl, rfl, by decide +kernel, rfl, by decide +kernel, by decide +kernel⟩
theorem sc__law_plan : FnScope ["bag", "sources", "figures", "size", "some", "plan", "found", "name", "reads", "machine", "letters", "many"] ["bag", "sources", "figures", "size"] (defScope (topS 48)) := ⟨rfl, rfl, rfl, by decide +kernel, rfl, by decide +kernel, by decide +kernel⟩
theorem sc__law_step : FnScope ["machine", "state", "letter", "one", "states"] ["machine", "state", "letter"] (defScope (topS 38)) := ⟨rfl, rfl, rfl, by decide +kernel, rfl, by decide +kernel, by decide +kernel⟩
theorem sc__law_ways : FnScope ["plan", "source", "kind"] ["plan", "source", "kind"] (defScope (topS 37)) := ⟨rfl, rfl, rfl, by decide +kernel, rfl, by decide +kernel, by decide +kernel⟩
theorem sc__law_sets : FnScope ["plan", "name", "row", "part", "machine", "states", "left", "found", "later", "way", "kind", "state"] ["plan", "name", "row"] (defScope (topS 55)) := ⟨rfl, rfl, rfl, by decide +kernel, rfl, by decide +kernel, by decide +kernel⟩
theorem sc_figure_names : FnScope ["plan", "figure"] ["plan"] (defScope (topS 12)) := ⟨rfl, rfl, rfl, by decide +kernel, rfl, by decide +kernel, by decide +kernel⟩
theorem sc_figure_index : FnScope ["plan", "name", "names"] ["plan", "name"] (defScope (topS 14)) := ⟨rfl, rfl, rfl, by decide +kernel, rfl, by decide +kernel, by decide +kernel⟩
theorem sc_figure_of : FnScope ["plan", "name"] ["plan", "name"] (defScope (topS 15)) := ⟨rfl, rfl, rfl, by decide +kernel, rfl, by decide +kernel, by decide +kernel⟩
theorem sc_joined_letters : FnScope ["sources", "names", "found", "name", "rate", "letters", "letter"] ["sources", "names"] (defScope (topS 10)) := ⟨rfl, rfl, rfl, by decide +kernel, rfl, by decide +kernel, by decide +kernel⟩
theorem sc_source_names : FnScope ["plan", "source"] ["plan"] (defScope (topS 11)) := ⟨rfl, rfl, rfl, by decide +kernel, rfl, by decide +kernel, by decide +kernel⟩
theorem sc_source_index : FnScope ["plan", "name", "names"] ["plan", "name"] (defScope (topS 13)) := ⟨rfl, rfl, rfl, by decide +kernel, rfl, by decide +kernel, by decide +kernel⟩
theorem sc_letters_of : FnScope ["plan", "names", "name"] ["plan", "names"] (defScope (topS 16)) := ⟨rfl, rfl, rfl, by decide +kernel, rfl, by decide +kernel, by decide +kernel⟩
theorem sc_is_row : FnScope ["plan", "sources", "thing", "fits", "one", "it"] ["plan", "sources", "thing"] (defScope (topS 22)) := ⟨rfl, rfl, rfl, by decide +kernel, rfl, by decide +kernel, by decide +kernel⟩
theorem sc_parts_of : FnScope ["plan", "figure", "found", "name", "reads", "size", "slide", "machine", "source", "rate", "letters"] ["plan", "figure"] (defScope (topS 20)) := ⟨rfl, rfl, rfl, by decide +kernel, rfl, by decide +kernel, by decide +kernel⟩
theorem sc_slot_sources : FnScope ["plan", "figure", "part"] ["plan", "figure"] (defScope (topS 21)) := ⟨rfl, rfl, rfl, by decide +kernel, rfl, by decide +kernel, by decide +kernel⟩
theorem sc_need_row : FnScope ["plan", "figure", "row"] ["plan", "figure", "row"] (defScope (topS 23)) := ⟨rfl, rfl, rfl, by decide +kernel, rfl, by decide +kernel, by decide +kernel⟩
theorem sc_stepped : FnScope ["machine", "state", "letter", "one", "states"] ["machine", "state", "letter"] (defScope (topS 7)) := ⟨rfl, rfl, rfl, by decide +kernel, rfl, by decide +kernel, by decide +kernel⟩
theorem sc_ticked : FnScope ["machine", "state"] ["machine", "state"] (defScope (topS 8)) := ⟨rfl, rfl, rfl, by decide +kernel, rfl, by decide +kernel, by decide +kernel⟩
theorem sc_gone : FnScope ["machine", "state", "way"] ["machine", "state", "way"] (defScope (topS 26)) := ⟨rfl, rfl, rfl, by decide +kernel, rfl, by decide +kernel, by decide +kernel⟩
theorem sc_ways_at : FnScope ["plan", "part", "kind"] ["plan", "part", "kind"] (defScope (topS 25)) := ⟨rfl, rfl, rfl, by decide +kernel, rfl, by decide +kernel, by decide +kernel⟩
theorem sc_set_behind : FnScope ["plan", "machine", "states", "part", "kind", "found", "way", "state"] ["plan", "machine", "states", "part", "kind"] (defScope (topS 27)) := ⟨rfl, rfl, rfl, by decide +kernel, rfl, by decide +kernel, by decide +kernel⟩
theorem sc_whole_row : FnScope ["plan", "figure", "row", "part", "left", "found"] ["plan", "figure", "row"] (defScope (topS 24)) := ⟨rfl, rfl, rfl, by decide +kernel, rfl, by decide +kernel, by decide +kernel⟩
theorem sc_sets_of : FnScope ["plan", "figure", "row", "machine", "found", "part", "kind"] ["plan", "figure", "row"] (defScope (topS 28)) := ⟨rfl, rfl, rfl, by decide +kernel, rfl, by decide +kernel, by decide +kernel⟩
theorem sc_last_set : FnScope ["plan", "figure", "row"] ["plan", "figure", "row"] (defScope (topS 29)) := ⟨rfl, rfl, rfl, by decide +kernel, rfl, by decide +kernel, by decide +kernel⟩
theorem sc_law : FnScope ["script", "bag", "turn", "plan", "figure", "heard", "name", "more", "row", "again", "thing", "due", "kept"] ["script"] (defScope (topS 56)) := ⟨rfl, rfl, rfl, by decide +kernel, rfl, by decide +kernel, by decide +kernel⟩
def sub_NoFigure : Str → Option Bool := tabL [("NoFigure", true), ("NoSource", false), ("Refused", false)]
def sub_Refused : Str → Option Bool := tabL [("NoFigure", false), ("NoSource", false), ("Refused", true)]
def sub_StreamError : Str → Option Bool := tabL [("NoFigure", true), ("NoSource", true), ("Refused", true)]
def fld_name : Str → Bool := fldL ["NoFigure", "NoSource"]
def fld_why : Str → Bool := fldL ["Refused"]
def g__law_alike : FS := sRet (fAndV (fOp gEq (aP (fOp gRepr (aP (fVar 0) (aNil))) (aP (fOp gRepr (aP (fVar 1) (aNil))) aNil))) (fOp gEq (aP (fVar 0) (aP (fVar 1) aNil))))
def sp__law_alike : SpV := bodyV 2 2 [] g__law_alike
def g__law_bag : FS := sRet (fLst (aL (fC (.int 0)) (aL (fC (.int 1234567891)) (aL (fC (.int 0)) (aL (fLc (fSq (fSl (fVar 0) (oNone) (oSome (fC (.int 63))))) [1] (gN 1) (fYes) (fOp gAbs (aP (fVar 1) (aNil)))) (aNil))))))
def sp__law_bag : SpV := bodyV 2 1 [] g__law_bag
def g__law_figure : FS := sRet (fOp gIx (aP (fLc (fSq (fOp gIx (aP (fVar 0) (aP (fC (.int 2)) aNil)))) [2] (gN 2) (fTB (fOp gEq (aP (fOp gIx (aP (fVar 2) (aP (fC (.int 0)) aNil))) (aP (fVar 1) aNil)))) (fVar 2)) (aP (fC (.int 0)) aNil)))
def sp__law_figure : SpV := bodyV 3 2 [] g__law_figure
def g__law_slots_of_times_1 : FS := sIf (fTB (fOp gIn (aP (fOp gIx (aP (fVar 6) (aP (fC (.int 0)) aNil))) (aP (fVar 1) aNil))))
  (sDrop (fExt 4 (fLc (fRgI1 (fOp gIx (aP (fVar 6) (aP (fC (.int 1)) aNil)))) [7] (gN 7) (fYes) (fTup (aL (fOp gIx (aP (fVar 6) (aP (fC (.int 0)) aNil))) (aL (fVar 5) (aL (fVar 7) (aNil))))))))
  (sNext)
def g__law_slots_of_times_2 : FS := sFor (fSq (fOp gIx (aP (fVar 0) (aP (fC (.int 0)) aNil)))) (gN 6)
  (g__law_slots_of_times_1)
def g__law_slots_of_times : FS := sSeq (sSet 4 (fLst (aNil)))
  (sSeq (sFor (fRgI2 (fVar 2) (fVar 3)) (gN 5)
  (g__law_slots_of_times_2))
  (sRet (fVar 4)))
def sp__law_slots_of_times : SpV := bodyV 8 4 [] g__law_slots_of_times
def g__law_reading_1 : FS := sDrop (fExt 4 (fOp gAdd (aP (fLc (fSq (fCall sp__law_slots_of_times [] (aL (fVar 0) (aL (fOp gIx (aP (fVar 3) (aP (fC (.int 1)) aNil))) (aL (fVar 2) (aL (fOp gAdd (aP (fVar 2) (aP (fC (.int 1)) aNil))) (aNil))))))) [5] (gN 5) (fYes) (fOp gIx (aP (fVar 5) (aP (fC (.int 0)) aNil)))) (aP (fLst (aL (fC (.str "tick")) (aNil))) aNil))))
def g__law_reading : FS := sSeq (sPar 3 4 (fCall sp__law_figure [] (aL (fVar 0) (aL (fVar 1) (aNil)))) (fLst (aNil)))
  (sSeq (sFor (fRgI1 (fOp gIx (aP (fVar 3) (aP (fC (.int 2)) aNil)))) (gN 2)
  (g__law_reading_1))
  (sRet (fVar 4)))
def sp__law_reading : SpV := bodyV 6 2 [] g__law_reading
def g__law_slot_sources : FS := sRet (fLc (fSq (fCall sp__law_reading [] (aL (fVar 0) (aL (fVar 1) (aNil))))) [2] (gN 2) (fTB (fOp gNe (aP (fVar 2) (aP (fC (.str "tick")) aNil)))) (fVar 2))
def sp__law_slot_sources : SpV := bodyV 3 2 [] g__law_slot_sources
def g__law_take_1 : FS := sSeq (sSet 5 (fOp gAdd (aP (fOp gAdd (aP (fOp gRepT (aP (fOp gIx (aP (fVar 0) (aP (fC (.int 1)) aNil))) (aP (fC (.int 48271)) aNil))) (aP (fOp gMod (aP (fOp gInt (aP (fVar 4) (aNil))) (aP (fC (.int 2147483647)) aNil))) aNil))) (aP (fOp gRepT (aP (fC (.int 7919)) (aP (fOp gIx (aP (fVar 0) (aP (fC (.int 2)) aNil))) aNil))) aNil))))
  (sSetIx 0 (fC (.int 1)) (fOp gMod (aP (fOp gInt (aP (fVar 5) (aNil))) (aP (fC (.int 2147483647)) aNil))))
def g__law_take_2 : FS := sSeq (sSet 2 (fOp gMod (aP (fOp gInt (aP (fOp gRepT (aP (fOp gAdd (aP (fOp gIx (aP (fVar 0) (aP (fC (.int 1)) aNil))) (aP (fC (.int 1)) aNil))) (aP (fC (.int 39373)) aNil))) (aNil))) (aP (fC (.int 1000000007)) aNil))))
  (sSeq (sSet 3 (fOp gMod (aP (fOp gInt (aP (fOp gRepT (aP (fOp gMod (aP (fOp gInt (aP (fOp gRepT (aP (fVar 2) (aP (fVar 2) aNil))) (aNil))) (aP (fC (.int 998244353)) aNil))) (aP (fC (.int 30011)) aNil))) (aNil))) (aP (fC (.int 998244353)) aNil))))
  (sRet (fOp gMod (aP (fOp gInt (aP (fOp gDiv (aP (fVar 3) (aP (fC (.int 7)) aNil))) (aNil))) (aP (fVar 1) aNil)))))
def g__law_take_3 : FS := sSeq (sIf (fTB (fOp gGt (aP (fOp gIx (aP (fVar 0) (aP (fC (.int 0)) aNil))) (aP (fC (.int 0)) aNil))))
  (sSeq (sSet 6 (fOp gMod (aP (fOp gInt (aP (fOp gIx (aP (fVar 0) (aP (fC (.int 0)) aNil))) (aNil))) (aP (fVar 1) aNil))))
  (sSeq (sSetIx 0 (fC (.int 0)) (fOp gDiv (aP (fOp gInt (aP (fOp gIx (aP (fVar 0) (aP (fC (.int 0)) aNil))) (aNil))) (aP (fVar 1) aNil))))
  (sRet (fVar 6))))
  (sNext))
  (g__law_take_2)
def g__law_take : FS := sSeq (sIf (fTB (fOp gEq (aP (fOp gIx (aP (fVar 0) (aP (fC (.int 0)) aNil))) (aP (fC (.int 0)) aNil))))
  (sSeq (sSet 4 (fOp gIx (aP (fOp gAdd (aP (fSl (fOp gIx (aP (fVar 0) (aP (fC (.int 3)) aNil))) (oSome (fOp gIx (aP (fVar 0) (aP (fC (.int 2)) aNil)))) (oNone)) (aP (fLst (aL (fC (.int 0)) (aNil))) aNil))) (aP (fC (.int 0)) aNil))))
  (sSeq (sAugIx 0 cAny (fun i j => i + j) (fC (.int 2)) (fC (.int 1)))
  (sSeq (sIf (fTB (fOp gGe (aP (fVar 4) (aP (fOp gPow (aP (fC (.int 10)) (aP (fC (.int 18)) aNil))) aNil))))
  (sSetIx 0 (fC (.int 0)) (fVar 4))
  (sNext))
  (g__law_take_1))))
  (sNext))
  (g__law_take_3)
def sp__law_take : SpV := bodyV 7 2 [0] g__law_take
def g__law_some : FS := sRet (fOp gIx (aP (fVar 1) (aP (fCall sp__law_take [0] (aP (fVar 0) (aL (fOp gLen (aP (fVar 1) (aNil))) (aNil)))) aNil)))
def sp__law_some : SpV := bodyV 2 2 [0] g__law_some
def g__law_source : FS := sRet (fOp gIx (aP (fLc (fSq (fOp gIx (aP (fVar 0) (aP (fC (.int 0)) aNil)))) [2] (gN 2) (fTB (fOp gEq (aP (fOp gIx (aP (fVar 2) (aP (fC (.int 0)) aNil))) (aP (fVar 1) aNil)))) (fVar 2)) (aP (fC (.int 0)) aNil)))
def sp__law_source : SpV := bodyV 3 2 [] g__law_source
def g__law_drawn_row_1 : FS := sSeq (sSet 6 (fOp gAdd (aP (fOp gList (aP (fOp gIx (aP (fCall sp__law_source [] (aL (fVar 1) (aL (fVar 3) (aNil)))) (aP (fC (.int 2)) aNil))) (aNil))) (aP (fLst (aL (fC (.str "empty")) (aNil))) aNil))))
  (sDrop (fApp 4 (fIf (fTB (fOp gEq (aP (fCall sp__law_take [0] (aP (fVar 0) (aL (fVar 5) (aNil)))) (aP (fC (.int 0)) aNil)))) (fC (.str "open")) (fCall sp__law_some [0] (aP (fVar 0) (aL (fVar 6) (aNil)))))))
def g__law_drawn_row : FS := sSeq (sPar 4 5 (fLst (aNil)) (fCall sp__law_some [0] (aP (fVar 0) (aL (fLst (aL (fC (.int 2)) (aL (fC (.int 4)) (aL (fC (.int 1)) (aL (fC (.int 8)) (aNil)))))) (aNil)))))
  (sSeq (sFor (fSq (fCall sp__law_slot_sources [] (aL (fVar 1) (aL (fVar 2) (aNil))))) (gN 3)
  (g__law_drawn_row_1))
  (sRet (fOp gTuple (aP (fVar 4) (aNil)))))
def sp__law_drawn_row : SpV := bodyV 7 3 [0] g__law_drawn_row
def g__law_heard (f : Addr) (lam : LamV) : FS := sTryAs sub_StreamError 1 (sRet (fTup (aL (fC (.str "told")) (aL (fAct 0 f lam) (aNil)))))
  (fun a ex => sSeq (sIf (fTr (fIsX sub_NoFigure 1 a ex))
  (sRet (fTup (aL (fC (.str "nofigure")) (aL (fFld fld_name 1 a ex "name") (aNil)))))
  (sNext))
  (sSeq (sIf (fTr (fIsX sub_Refused 1 a ex))
  (sRet (fTup (aL (fC (.str "refused")) (aL (fFld fld_why 1 a ex "why") (aNil)))))
  (sNext))
  (sRet (fTup (aL (fC (.str "other")) (aNil))))))
def g__law_is_row_1 : FS := sSeq (sSet 4 (fLc (fZp (fVar 2) (fVar 3)) [5, 6] (gT 2 (gsCons (gN 5) (gsCons (gN 6) (gsNil)))) (fYes) (fOp gIn (aP (fVar 5) (aP (fOp gAdd (aP (fOp gIx (aP (fCall sp__law_source [] (aL (fVar 0) (aL (fVar 6) (aNil)))) (aP (fC (.int 2)) aNil))) (aP (fTup (aL (fC (.str "open")) (aL (fC (.str "empty")) (aNil)))) aNil))) aNil)))))
  (sRet (fOp gEq (aP (fMeth "list" gCountL (fVar 4) (aP (fC (.bool false)) (aNil))) (aP (fC (.int 0)) aNil))))
def g__law_is_row_2 : FS := sSeq (sIf (fTB (fOp gNe (aP (fLc (fSq (fVar 2)) [5] (gN 5) (fNot (fTr (fIsi "str" (fVar 5)))) (fC (.int 1))) (aP (fLst (aNil)) aNil))))
  (sRet (fC (.bool false)))
  (sNext))
  (g__law_is_row_1)
def g__law_is_row : FS := sSeq (sSet 3 (fCall sp__law_slot_sources [] (aL (fVar 0) (aL (fVar 1) (aNil)))))
  (sSeq (sIf (fOr (fNot (fTr (fIsi "tuple" (fVar 2)))) (fTB (fOp gNe (aP (fOp gLen (aP (fVar 2) (aNil))) (aP (fOp gLen (aP (fVar 3) (aNil))) aNil)))))
  (sRet (fC (.bool false)))
  (sNext))
  (g__law_is_row_2))
def sp__law_is_row : SpV := bodyV 7 3 [] g__law_is_row
def g__law_odd_row : FS := sSeq (sSet 4 (fCall sp__law_take [0] (aP (fVar 0) (aL (fOp gLen (aP (fVar 3) (aNil))) (aNil)))))
  (sSeq (sSet 5 (fCall sp__law_some [0] (aP (fVar 0) (aL (fLst (aL (fC (.str "zz")) (aL (fC (.str "tick")) (aL (fC .none) (aL (fC (.bool true)) (aL (fC (.str "")) (aL (fTup (aL (fC (.str "x")) (aNil))) (aL (fC (.str "Open")) (aNil))))))))) (aNil)))))
  (sSeq (sSet 6 (fLst (aL (fOp gAdd (aP (fSl (fVar 3) (oNone) (oSome (fVar 4))) (aP (fSl (fVar 3) (oSome (fOp gAdd (aP (fVar 4) (aP (fC (.int 1)) aNil)))) (oNone)) aNil))) (aL (fOp gAdd (aP (fVar 3) (aP (fTup (aL (fC (.str "open")) (aNil))) aNil))) (aL (fOp gList (aP (fVar 3) (aNil))) (aL (fOp gAdd (aP (fOp gAdd (aP (fSl (fVar 3) (oNone) (oSome (fVar 4))) (aP (fTup (aL (fVar 5) (aNil))) aNil))) (aP (fSl (fVar 3) (oSome (fOp gAdd (aP (fVar 4) (aP (fC (.int 1)) aNil)))) (oNone)) aNil))) (aL (fC .none) (aL (fTup (aNil)) (aL (fC (.str "open")) (aNil))))))))))
  (sRet (fCall sp__law_some [0] (aP (fVar 0) (aL (fOp gAdd (aP (fVar 6) (aP (fOp gRepT (aP (fLst (aL (fOp gAdd (aP (fOp gAdd (aP (fSl (fVar 3) (oNone) (oSome (fVar 4))) (aP (fTup (aL (fVar 5) (aNil))) aNil))) (aP (fSl (fVar 3) (oSome (fOp gAdd (aP (fVar 4) (aP (fC (.int 1)) aNil)))) (oNone)) aNil))) (aNil))) (aP (fC (.int 3)) aNil))) aNil))) (aNil)))))))
def sp__law_odd_row : SpV := bodyV 7 4 [0] g__law_odd_row
def g__law_counting : FS := sSeq (sSet 2 (fOp gTuple (aP (fLc (fRgI1 (fOp gAdd (aP (fVar 1) (aP (fC (.int 1)) aNil)))) [4] (gN 4) (fYes) (fOp gMin2 (aP (fOp gAdd (aP (fVar 4) (aP (fC (.int 1)) aNil))) (aP (fVar 1) (aNil))))) (aNil))))
  (sSeq (sSet 3 (fTupRg (fRg1 (fOp gAdd (aP (fVar 1) (aP (fC (.int 1)) aNil))))))
  (sRet (fTup (aL (fOp gTuple (aP (fLc (fSq (fVar 0)) [5] (gN 5) (fYes) (fTup (aL (fVar 5) (aL (fVar 2) (aNil))))) (aNil))) (aL (fVar 3) (aL (fOp gAdd (aP (fOp gRepT (aP (fTup (aL (fC (.str "no")) (aNil))) (aP (fVar 1) aNil))) (aP (fTup (aL (fC (.str "yes")) (aNil))) aNil))) (aNil)))))))
def sp__law_counting : SpV := bodyV 6 2 [] g__law_counting
def g__law_letters_1 : FS := sDrop (fExt 2 (fOp gIx (aP (fCall sp__law_source [] (aL (fVar 0) (aL (fVar 3) (aNil)))) (aP (fC (.int 2)) aNil))))
def g__law_letters_2 : FS := sRet (fOp gTuple (aP (fSortS (fSetOf (aP (fVar 2) (aNil)))) (aNil)))
def g__law_letters : FS := sSeq (sSet 2 (fLst (aNil)))
  (sSeq (sFor (fSq (fVar 1)) (gN 3)
  (g__law_letters_1))
  (g__law_letters_2))
def sp__law_letters : SpV := bodyV 4 2 [] g__law_letters
def g__law_machine_1 : FS := sSeq (sSet 7 (fLc (fRgI1 (fVar 2)) [9] (gN 9) (fYes) (fCall sp__law_take [0] (aP (fVar 0) (aL (fVar 2) (aNil))))))
  (sSeq (sSet 8 (fOrV (fOp gEq (aP (fCall sp__law_take [0] (aP (fVar 0) (aL (fC (.int 3)) (aNil)))) (aP (fC (.int 0)) aNil))) (fAndV (fOp gEq (aP (fVar 5) (aP (fC (.str "tick")) aNil))) (fOp gGt (aP (fCall sp__law_take [0] (aP (fVar 0) (aL (fC (.int 3)) (aNil)))) (aP (fC (.int 0)) aNil))))))
  (sDrop (fApp 4 (fOp gTuple (aP (fLc (fRgI1 (fVar 2)) [9] (gN 9) (fYes) (fIf (fOr (fTr (fVar 8)) (fTB (fOp gEq (aP (fCall sp__law_take [0] (aP (fVar 0) (aL (fC (.int 3)) (aNil)))) (aP (fC (.int 0)) aNil))))) (fVar 9) (fOp gIx (aP (fVar 7) (aP (fVar 9) aNil))))) (aNil))))))
def g__law_machine_2 : FS := sSeq (sSet 6 (fOp gTuple (aP (fLc (fZp (fVar 1) (fVar 4)) [5, 7] (gT 2 (gsCons (gN 5) (gsCons (gN 7) (gsNil)))) (fYes) (fTup (aL (fVar 5) (aL (fVar 7) (aNil))))) (aNil))))
  (sRet (fTup (aL (fVar 6) (aL (fOp gIx (aP (fVar 4) (aP (fOp gNeg (aP (fC (.int 1)) aNil)) aNil))) (aL (fOp gTuple (aP (fLc (fRgI1 (fVar 2)) [9] (gN 9) (fYes) (fCall sp__law_some [0] (aP (fVar 0) (aL (fVar 3) (aNil))))) (aNil))) (aNil))))))
def g__law_machine : FS := sSeq (sSet 4 (fLst (aNil)))
  (sSeq (sFor (fSq (fOp gAdd (aP (fOp gList (aP (fVar 1) (aNil))) (aP (fLst (aL (fC (.str "tick")) (aNil))) aNil)))) (gN 5)
  (g__law_machine_1))
  (g__law_machine_2))
def sp__law_machine : SpV := bodyV 10 4 [0] g__law_machine
def g__law_names : FS := sRet (fLc (fSq (fOp gIx (aP (fVar 0) (aP (fC (.int 0)) aNil)))) [1] (gN 1) (fYes) (fOp gIx (aP (fVar 1) (aP (fC (.int 0)) aNil))))
def sp__law_names : SpV := bodyV 2 1 [] g__law_names
def g__law_promises_drawn_1 : FS := sDrop (fApp 5 (fOp gTuple (aP (fLc (fRgI1 (fVar 1)) [6] (gN 6) (fYes) (fIf (fTB (fOp gEq (aP (fCall sp__law_take [0] (aP (fVar 0) (aL (fVar 4) (aNil)))) (aP (fC (.int 0)) aNil)))) (fC (.int 0)) (fOp gAdd (aP (fC (.int 1)) (aP (fCall sp__law_take [0] (aP (fVar 0) (aL (fVar 2) (aNil)))) aNil))))) (aNil))))
def g__law_promises_drawn : FS := sSeq (sParN [4, 5] [fCall sp__law_some [0] (aP (fVar 0) (aL (fLst (aL (fC (.int 9)) (aL (fC (.int 9)) (aL (fC (.int 3)) (aNil))))) (aNil))), fLst (aNil)])
  (sSeq (sFor (fRgI1 (fVar 1)) (gN 3)
  (g__law_promises_drawn_1))
  (sRet (fOp gTuple (aP (fVar 5) (aNil)))))
def sp__law_promises_drawn : SpV := bodyV 7 3 [0] g__law_promises_drawn
def g__law_mixed_1 : FS := sDrop (fApp 3 (fPopAt 2 (fCall sp__law_take [0] (aP (fVar 0) (aL (fOp gLen (aP (fVar 2) (aNil))) (aNil))))))
def g__law_mixed : FS := sSeq (sPar 2 3 (fOp gList (aP (fVar 1) (aNil))) (fLst (aNil)))
  (sSeq (sWhile (fTB (fOp gNe (aP (fVar 2) (aP (fLst (aNil)) aNil))))
  (g__law_mixed_1))
  (sRet (fVar 3)))
def sp__law_mixed : SpV := bodyV 4 2 [0] g__law_mixed
def g__law_some_names : FS := sRet (fOp gTuple (aP (fOp gSorted (aP (fSl (fCall sp__law_mixed [0] (aP (fVar 0) (aL (fVar 1) (aNil)))) (oNone) (oSome (fVar 2))) (aNil))) (aNil)))
def sp__law_some_names : SpV := bodyV 3 3 [0] g__law_some_names
def g__law_sources_drawn_1 : FS := sSeq (sSet 6 (fCall sp__law_some_names [0] (aP (fVar 0) (aL (fLst (aL (fC (.str "x")) (aL (fC (.str "y")) (aL (fC (.str "up")) (aL (fC (.str "down")) (aL (fC (.str "q")) (aNil))))))) (aL (fOp gAdd (aP (fC (.int 1)) (aP (fCall sp__law_take [0] (aP (fVar 0) (aL (fVar 3) (aNil)))) aNil))) (aNil))))))
  (sDrop (fApp 4 (fTup (aL (fVar 5) (aL (fOp gAdd (aP (fC (.int 1)) (aP (fCall sp__law_take [0] (aP (fVar 0) (aL (fVar 2) (aNil)))) aNil))) (aL (fVar 6) (aNil)))))))
def g__law_sources_drawn : FS := sSeq (sSet 4 (fLst (aNil)))
  (sSeq (sFor (fSq (fCall sp__law_some_names [0] (aP (fVar 0) (aL (fLst (aL (fC (.str "a")) (aL (fC (.str "b")) (aL (fC (.str "c")) (aL (fC (.str "pump")) (aL (fC (.str "door")) (aL (fC (.str "zz")) (aL (fC (.str "abcdefgh")) (aNil))))))))) (aL (fVar 1) (aNil)))))) (gN 5)
  (g__law_sources_drawn_1))
  (sRet (fOp gTuple (aP (fVar 4) (aNil)))))
def sp__law_sources_drawn : SpV := bodyV 7 4 [0] g__law_sources_drawn
def g__law_plan_1 : FS := sSeq (sSet 8 (fCall sp__law_some_names [0] (aP (fVar 0) (aL (fCall sp__law_names [] (aL (fVar 5) (aNil))) (aL (fOp gAdd (aP (fC (.int 1)) (aP (fCall sp__law_take [0] (aP (fVar 0) (aL (fVar 1) (aNil)))) aNil))) (aNil))))))
  (sSeq (sPar 10 11 (fCall sp__law_letters [] (aL (fVar 5) (aL (fVar 8) (aNil)))) (fOp gAdd (aP (fC (.int 1)) (aP (fCall sp__law_take [0] (aP (fVar 0) (aL (fC (.int 4)) (aNil)))) aNil))))
  (sSeq (sSet 9 (fCall sp__law_machine [0] (aP (fVar 0) (aL (fVar 10) (aL (fVar 11) (aL (fLst (aL (fC (.str "no")) (aL (fC (.str "yes")) (aL (fC (.str "no")) (aL (fC (.str "some")) (aNil)))))) (aNil)))))))
  (sSeq (sSet 9 (fIf (fTB (fOp gEq (aP (fCall sp__law_take [0] (aP (fVar 0) (aL (fC (.int 3)) (aNil)))) (aP (fC (.int 0)) aNil)))) (fCall sp__law_counting [] (aL (fVar 10) (aL (fVar 11) (aNil)))) (fVar 9)))
  (sDrop (fApp 6 (fTup (aL (fVar 7) (aL (fVar 8) (aL (fOp gAdd (aP (fC (.int 1)) (aP (fCall sp__law_take [0] (aP (fVar 0) (aL (fVar 3) (aNil)))) aNil))) (aL (fOp gAdd (aP (fC (.int 1)) (aP (fCall sp__law_take [0] (aP (fVar 0) (aL (fVar 3) (aNil)))) aNil))) (aL (fVar 9) (aNil))))))))))))
def g__law_plan_2 : FS := sRet (fTup (aL (fOp gIx (aP (fVar 5) (aP (fC (.int 0)) aNil))) (aL (fOp gIx (aP (fVar 5) (aP (fC (.int 1)) aNil))) (aL (fOp gTuple (aP (fVar 6) (aNil))) (aNil)))))
def g__law_plan : FS := sSeq (sSet 4 (fCall sp__law_sources_drawn [0] (aP (fVar 0) (aL (fVar 1) (aL (fCall sp__law_some [0] (aP (fVar 0) (aL (fLst (aL (fC (.int 1)) (aL (fC (.int 2)) (aNil)))) (aNil)))) (aL (fC (.int 2)) (aNil)))))))
  (sSeq (sSet 5 (fTup (aL (fVar 4) (aL (fCall sp__law_promises_drawn [0] (aP (fVar 0) (aL (fVar 1) (aL (fCall sp__law_some [0] (aP (fVar 0) (aL (fLst (aL (fC (.int 2)) (aL (fC (.int 3)) (aL (fC (.int 5)) (aNil))))) (aNil)))) (aNil))))) (aL (fTup (aNil)) (aNil))))))
  (sSeq (sSet 6 (fLst (aNil)))
  (sSeq (sFor (fSq (fCall sp__law_some_names [0] (aP (fVar 0) (aL (fLst (aL (fC (.str "f")) (aL (fC (.str "g")) (aL (fC (.str "sum")) (aL (fC (.str "most")) (aNil)))))) (aL (fVar 2) (aNil)))))) (gN 7)
  (g__law_plan_1))
  (g__law_plan_2))))
def sp__law_plan : SpV := bodyV 12 4 [0] g__law_plan
def g__law_step : FS := sRet (fOp gIx (aP (fOp gIx (aP (fLc (fSq (fOp gIx (aP (fVar 0) (aP (fC (.int 0)) aNil)))) [3, 4] (gT 2 (gsCons (gN 3) (gsCons (gN 4) (gsNil)))) (fTB (fOp gEq (aP (fVar 3) (aP (fVar 2) aNil)))) (fVar 4)) (aP (fC (.int 0)) aNil))) (aP (fVar 1) aNil)))
def sp__law_step : SpV := bodyV 5 3 [] g__law_step
def g__law_ways : FS := sRet (fIf (fTB (fOp gEq (aP (fVar 2) (aP (fC (.str "open")) aNil)))) (fOp gAdd (aP (fOp gList (aP (fOp gIx (aP (fCall sp__law_source [] (aL (fVar 0) (aL (fVar 1) (aNil)))) (aP (fC (.int 2)) aNil))) (aNil))) (aP (fLst (aL (fC (.str "empty")) (aNil))) aNil))) (fLst (aL (fVar 2) (aNil))))
def sp__law_ways : SpV := bodyV 3 3 [] g__law_ways
def g__law_sets_1 : FS := sDrop (fExt 8 (fLc (fSq (fVar 5)) [11] (gN 11) (fYes) (fIf (fTB (fOp gEq (aP (fVar 9) (aP (fC (.str "empty")) aNil)))) (fVar 11) (fCall sp__law_step [] (aL (fVar 4) (aL (fVar 11) (aL (fVar 9) (aNil))))))))
def g__law_sets_2 : FS := sSeq (sSet 5 (fSortS (fSetOf (aP (fVar 8) (aNil)))))
  (sDrop (fApp 7 (fOp gTuple (aP (fVar 5) (aNil)))))
def g__law_sets_3 : FS := sSeq (sIf (fTB (fOp gEq (aP (fVar 3) (aP (fC (.str "tick")) aNil))))
  (sSet 8 (fLc (fSq (fVar 5)) [11] (gN 11) (fYes) (fOp gIx (aP (fOp gIx (aP (fVar 4) (aP (fC (.int 1)) aNil))) (aP (fVar 11) aNil)))))
  (sSeq (sPar 10 8 (fPopAt 6 (fC (.int 0))) (fLst (aNil)))
  (sFor (fSq (fCall sp__law_ways [] (aL (fVar 0) (aL (fVar 3) (aL (fVar 10) (aNil)))))) (gN 9)
  (g__law_sets_1))))
  (g__law_sets_2)
def g__law_sets : FS := sSeq (sParN [4, 5, 6, 7] [fOp gIx (aP (fCall sp__law_figure [] (aL (fVar 0) (aL (fVar 1) (aNil)))) (aP (fC (.int 4)) aNil)), fLst (aL (fC (.int 0)) (aNil)), fOp gList (aP (fVar 2) (aNil)), fLst (aL (fTup (aL (fC (.int 0)) (aNil))) (aNil))])
  (sSeq (sFor (fSq (fCall sp__law_reading [] (aL (fVar 0) (aL (fVar 1) (aNil))))) (gN 3)
  (g__law_sets_3))
  (sRet (fOp gTuple (aP (fVar 7) (aNil)))))
def sp__law_sets : SpV := bodyV 12 3 [] g__law_sets
def g_figure_names : FS := sRet (fOp gTuple (aP (fLc (fSq (fOp gIx (aP (fVar 0) (aP (fC (.int 2)) aNil)))) [1] (gN 1) (fYes) (fOp gIx (aP (fVar 1) (aP (fC (.int 0)) aNil)))) (aNil)))
def sp_figure_names : SpV := bodyV 2 1 [] g_figure_names
def g_figure_index : FS := sSeq (sSet 2 (fCall sp_figure_names [] (aL (fVar 0) (aNil))))
  (sSeq (sIf (fTB (fOp gNotIn (aP (fVar 1) (aP (fVar 2) aNil))))
  (sRaise "NoFigure" ["name"] (aL (fVar 1) (aNil)))
  (sNext))
  (sRet (fMeth "tuple" gIndexT (fVar 2) (aP (fVar 1) (aNil)))))
def sp_figure_index : SpV := bodyV 3 2 [] g_figure_index
def g_figure_of : FS := sRet (fOp gIx (aP (fOp gIx (aP (fVar 0) (aP (fC (.int 2)) aNil))) (aP (fCall sp_figure_index [] (aL (fVar 0) (aL (fVar 1) (aNil)))) aNil)))
def sp_figure_of : SpV := bodyV 2 2 [] g_figure_of
def g_joined_letters_1 : FS := sDrop (fExt 2 (fIf (fTB (fOp gIn (aP (fVar 3) (aP (fVar 1) aNil)))) (fVar 5) (fTup (aNil))))
def g_joined_letters_2 : FS := sRet (fOp gTuple (aP (fSortS (fSc (fSq (fVar 2)) [6] (gN 6) (fYes) (fVar 6))) (aNil)))
def g_joined_letters : FS := sSeq (sSet 2 (fLst (aNil)))
  (sSeq (sFor (fSq (fVar 0)) (gT 3 (gsCons (gN 3) (gsCons (gN 4) (gsCons (gN 5) (gsNil)))))
  (g_joined_letters_1))
  (g_joined_letters_2))
def sp_joined_letters : SpV := bodyV 7 2 [] g_joined_letters
def g_source_names : FS := sRet (fOp gTuple (aP (fLc (fSq (fOp gIx (aP (fVar 0) (aP (fC (.int 0)) aNil)))) [1] (gN 1) (fYes) (fOp gIx (aP (fVar 1) (aP (fC (.int 0)) aNil)))) (aNil)))
def sp_source_names : SpV := bodyV 2 1 [] g_source_names
def g_source_index : FS := sSeq (sSet 2 (fCall sp_source_names [] (aL (fVar 0) (aNil))))
  (sSeq (sIf (fTB (fOp gNotIn (aP (fVar 1) (aP (fVar 2) aNil))))
  (sRaise "NoSource" ["name"] (aL (fVar 1) (aNil)))
  (sNext))
  (sRet (fMeth "tuple" gIndexT (fVar 2) (aP (fVar 1) (aNil)))))
def sp_source_index : SpV := bodyV 3 2 [] g_source_index
def g_letters_of_1 : FS := sDrop (fCall sp_source_index [] (aL (fVar 0) (aL (fVar 2) (aNil))))
def g_letters_of_2 : FS := sRet (fCall sp_joined_letters [] (aL (fOp gIx (aP (fVar 0) (aP (fC (.int 0)) aNil))) (aL (fVar 1) (aNil))))
def g_letters_of : FS := sSeq (sFor (fSq (fVar 1)) (gN 2)
  (g_letters_of_1))
  (g_letters_of_2)
def sp_letters_of : SpV := bodyV 3 2 [] g_letters_of
def g_is_row_1 : FS := sSeq (sSet 3 (fLc (fZp (fVar 2) (fVar 1)) [4, 5] (gT 2 (gsCons (gN 4) (gsCons (gN 5) (gsNil)))) (fYes) (fAndV (fIsi "str" (fVar 4)) (fOp gIn (aP (fVar 4) (aP (fTup (aL (fC (.str "open")) (aL (fC (.str "empty")) (aS (fCall sp_letters_of [] (aL (fVar 0) (aL (fTup (aL (fVar 5) (aNil))) (aNil)))) (aNil))))) aNil))))))
  (sRet (fOp gAll (aP (fVar 3) (aNil))))
def g_is_row : FS := sSeq (sIf (fOr (fNot (fTr (fIsi "tuple" (fVar 2)))) (fTB (fOp gNe (aP (fOp gLen (aP (fVar 2) (aNil))) (aP (fOp gLen (aP (fVar 1) (aNil))) aNil)))))
  (sRet (fC (.bool false)))
  (sNext))
  (g_is_row_1)
def sp_is_row : SpV := bodyV 6 3 [] g_is_row
def g_parts_of_1 : FS := sDrop (fExt 2 (fIf (fTB (fOp gIn (aP (fVar 8) (aP (fVar 4) aNil)))) (fOp gRepT (aP (fLst (aL (fVar 8) (aNil))) (aP (fVar 9) aNil))) (fLst (aNil))))
def g_parts_of_2 : FS := sRet (fOp gRepT (aP (fTup (aS (fVar 2) (aL (fC (.str "tick")) (aNil)))) (aP (fVar 5) aNil)))
def g_parts_of : FS := sSeq (sTup (fCall sp_figure_of [] (aL (fVar 0) (aL (fVar 1) (aNil)))) (gT 5 (gsCons (gN 3) (gsCons (gN 4) (gsCons (gN 5) (gsCons (gN 6) (gsCons (gN 7) (gsNil))))))))
  (sSeq (sSet 2 (fLst (aNil)))
  (sSeq (sFor (fSq (fOp gIx (aP (fVar 0) (aP (fC (.int 0)) aNil)))) (gT 3 (gsCons (gN 8) (gsCons (gN 9) (gsCons (gN 10) (gsNil)))))
  (g_parts_of_1))
  (g_parts_of_2)))
def sp_parts_of : SpV := bodyV 11 2 [] g_parts_of
def g_slot_sources : FS := sRet (fOp gTuple (aP (fLc (fSq (fCall sp_parts_of [] (aL (fVar 0) (aL (fVar 1) (aNil))))) [2] (gN 2) (fTB (fOp gNe (aP (fVar 2) (aP (fC (.str "tick")) aNil)))) (fVar 2)) (aNil)))
def sp_slot_sources : SpV := bodyV 3 2 [] g_slot_sources
def g_need_row : FS := sIf (fNot (fTr (fCall sp_is_row [] (aL (fVar 0) (aL (fCall sp_slot_sources [] (aL (fVar 0) (aL (fVar 1) (aNil)))) (aL (fVar 2) (aNil)))))))
  (sRaise "Refused" ["why"] (aL (fC (.str "row")) (aNil)))
  (sNext)
def sp_need_row : SpV := bodyV 3 3 [] g_need_row
def g_stepped_1 : FS := sIf (fTB (fOp gEq (aP (fVar 3) (aP (fVar 2) aNil))))
  (sRet (fOp gIx (aP (fVar 4) (aP (fVar 1) aNil))))
  (sNext)
def g_stepped : FS := sSeq (sFor (fSq (fOp gIx (aP (fVar 0) (aP (fC (.int 0)) aNil)))) (gT 2 (gsCons (gN 3) (gsCons (gN 4) (gsNil))))
  (g_stepped_1))
  (sRaise "Refused" ["why"] (aL (fC (.str "letter")) (aNil)))
def sp_stepped : SpV := bodyV 5 3 [] g_stepped
def g_ticked : FS := sRet (fOp gIx (aP (fOp gIx (aP (fVar 0) (aP (fC (.int 1)) aNil))) (aP (fVar 1) aNil)))
def sp_ticked : SpV := bodyV 2 2 [] g_ticked
def g_gone_1 : FS := sRet (fIf (fTB (fOp gEq (aP (fVar 2) (aP (fC (.str "empty")) aNil)))) (fVar 1) (fCall sp_stepped [] (aL (fVar 0) (aL (fVar 1) (aL (fVar 2) (aNil))))))
def g_gone : FS := sSeq (sIf (fTB (fOp gEq (aP (fVar 2) (aP (fC (.str "tick")) aNil))))
  (sRet (fCall sp_ticked [] (aL (fVar 0) (aL (fVar 1) (aNil)))))
  (sNext))
  (g_gone_1)
def sp_gone : SpV := bodyV 3 3 [] g_gone
def g_ways_at : FS := sRet (fIf (fTB (fOp gEq (aP (fVar 2) (aP (fC (.str "open")) aNil)))) (fTup (aL (fC (.str "empty")) (aS (fCall sp_letters_of [] (aL (fVar 0) (aL (fTup (aL (fVar 1) (aNil))) (aNil)))) (aNil)))) (fTup (aL (fVar 2) (aNil))))
def sp_ways_at : SpV := bodyV 3 3 [] g_ways_at
def g_set_behind_1 : FS := sDrop (fUpdD 5 (fDc (fSq (fVar 2)) [7] (gN 7) (fYes) (fCall sp_gone [] (aL (fVar 1) (aL (fVar 7) (aL (fVar 6) (aNil))))) (fC (.bool true))))
def g_set_behind_2 : FS := sRet (fOp gTuple (aP (fOp gSortD (aP (fVar 5) (aNil))) (aNil)))
def g_set_behind : FS := sSeq (sSet 5 (fDNew))
  (sSeq (sFor (fSq (fCall sp_ways_at [] (aL (fVar 0) (aL (fVar 3) (aL (fVar 4) (aNil)))))) (gN 6)
  (g_set_behind_1))
  (g_set_behind_2))
def sp_set_behind : SpV := bodyV 8 5 [] g_set_behind
def g_whole_row_1 : FS := sDrop (fApp 5 (fTup (aL (fVar 3) (aL (fIf (fTB (fOp gEq (aP (fVar 3) (aP (fC (.str "tick")) aNil)))) (fC (.str "tick")) (fPopAt 4 (fC (.int 0)))) (aNil)))))
def g_whole_row : FS := sSeq (sPar 4 5 (fOp gList (aP (fVar 2) (aNil))) (fLst (aNil)))
  (sSeq (sFor (fSq (fCall sp_parts_of [] (aL (fVar 0) (aL (fVar 1) (aNil))))) (gN 3)
  (g_whole_row_1))
  (sRet (fVar 5)))
def sp_whole_row : SpV := bodyV 6 3 [] g_whole_row
def g_sets_of_1 : FS := sDrop (fApp 4 (fCall sp_set_behind [] (aL (fVar 0) (aL (fVar 3) (aL (fOp gIx (aP (fVar 4) (aP (fOp gNeg (aP (fC (.int 1)) aNil)) aNil))) (aL (fVar 5) (aL (fVar 6) (aNil))))))))
def g_sets_of : FS := sSeq (sDrop (fCall sp_need_row [] (aL (fVar 0) (aL (fVar 1) (aL (fVar 2) (aNil))))))
  (sSeq (sPar 3 4 (fOp gIx (aP (fCall sp_figure_of [] (aL (fVar 0) (aL (fVar 1) (aNil)))) (aP (fC (.int 4)) aNil))) (fLst (aL (fTup (aL (fC (.int 0)) (aNil))) (aNil))))
  (sSeq (sFor (fSq (fCall sp_whole_row [] (aL (fVar 0) (aL (fVar 1) (aL (fVar 2) (aNil)))))) (gT 2 (gsCons (gN 5) (gsCons (gN 6) (gsNil))))
  (g_sets_of_1))
  (sRet (fOp gTuple (aP (fVar 4) (aNil))))))
def sp_sets_of : SpV := bodyV 7 3 [] g_sets_of
def g_last_set : FS := sRet (fOp gIx (aP (fCall sp_sets_of [] (aL (fVar 0) (aL (fVar 1) (aL (fVar 2) (aNil))))) (aP (fOp gNeg (aP (fC (.int 1)) aNil)) aNil)))
def sp_last_set : SpV := bodyV 3 3 [] g_last_set
def g_law_1 : FS := sIf (fNot (fTr (fCall sp__law_alike [] (aL (fLst (aL (fCall sp_sets_of [] (aL (fVar 3) (aL (fVar 6) (aL (fVar 8) (aNil))))) (aL (fCall sp_last_set [] (aL (fVar 3) (aL (fVar 6) (aL (fVar 8) (aNil))))) (aNil)))) (aL (fLst (aL (fVar 11) (aL (fOp gIx (aP (fVar 11) (aP (fOp gNeg (aP (fC (.int 1)) aNil)) aNil))) (aNil)))) (aNil))))))
  (sRet (fC (.bool false)))
  (sNext)
def g_law_2 : FS := sSeq (sSet 10 (fCall sp__law_odd_row [0] (aP (fVar 1) (aL (fVar 3) (aL (fVar 6) (aL (fVar 8) (aNil)))))))
  (sSeq (sSet 11 (fIf (fTr (fCall sp__law_is_row [] (aL (fVar 3) (aL (fVar 6) (aL (fVar 10) (aNil)))))) (fTup (aL (fC (.str "told")) (aL (fCall sp__law_sets [] (aL (fVar 3) (aL (fVar 6) (aL (fVar 10) (aNil))))) (aNil)))) (fTup (aL (fC (.str "refused")) (aL (fC (.str "row")) (aNil))))))
  (sIf (fOr (fNot (fTr (fCall sp__law_alike [] (aL (fHeard 2 g__law_heard (fCall sp_sets_of [] (aL (fVar 3) (aL (fVar 6) (aL (fVar 10) (aNil)))))) (aL (fVar 11) (aNil)))))) (fTB (fOp gNe (aP (fOp gRepr (aP (fTup (aL (fVar 3) (aL (fVar 8) (aNil)))) (aNil))) (aP (fVar 12) aNil)))))
  (sRet (fC (.bool false)))
  (sNext)))
def g_law_3 : FS := sSeq (sSet 8 (fCall sp__law_drawn_row [0] (aP (fVar 1) (aL (fVar 3) (aL (fVar 6) (aNil))))))
  (sSeq (sPar 11 12 (fCall sp__law_sets [] (aL (fVar 3) (aL (fVar 6) (aL (fVar 8) (aNil))))) (fOp gRepr (aP (fTup (aL (fVar 3) (aL (fVar 8) (aNil)))) (aNil))))
  (sSeq (sFor (fRgI1 (fC (.int 2))) (gN 9)
  (g_law_1))
  (g_law_2)))
def g_law_4 : FS := sSeq (sSet 6 (fOp gIx (aP (fVar 4) (aP (fC (.int 0)) aNil))))
  (sSeq (sIf (fNot (fTr (fCall sp__law_alike [] (aL (fCall sp_parts_of [] (aL (fVar 3) (aL (fVar 6) (aNil)))) (aL (fOp gTuple (aP (fCall sp__law_reading [] (aL (fVar 3) (aL (fVar 6) (aNil)))) (aNil))) (aNil))))))
  (sRet (fC (.bool false)))
  (sNext))
  (sFor (fRgI1 (fC (.int 5))) (gN 7)
  (g_law_3)))
def g_law_5 : FS := sSeq (sSet 5 (fLst (aL (fHeard 2 g__law_heard (fCall sp_parts_of [] (aL (fVar 3) (aL (fC (.str "nobody")) (aNil))))) (aNil))))
  (sSeq (sDrop (fApp 5 (fHeard 2 g__law_heard (fCall sp_sets_of [] (aL (fVar 3) (aL (fC (.str "nobody")) (aL (fC .none) (aNil))))))))
  (sSeq (sDrop (fApp 5 (fHeard 2 g__law_heard (fCall sp_last_set [] (aL (fVar 3) (aL (fC (.str "nobody")) (aL (fTup (aNil)) (aNil))))))))
  (sIf (fTB (fOp gNe (aP (fVar 5) (aP (fOp gRepT (aP (fLst (aL (fTup (aL (fC (.str "nofigure")) (aL (fC (.str "nobody")) (aNil)))) (aNil))) (aP (fC (.int 3)) aNil))) aNil))))
  (sRet (fC (.bool false)))
  (sNext))))
def g_law_6 : FS := sSeq (sSet 3 (fCall sp__law_plan [0] (aP (fVar 1) (aL (fOp gAdd (aP (fC (.int 1)) (aP (fCall sp__law_take [0] (aP (fVar 1) (aL (fC (.int 3)) (aNil)))) aNil))) (aL (fOp gAdd (aP (fC (.int 1)) (aP (fCall sp__law_take [0] (aP (fVar 1) (aL (fC (.int 2)) (aNil)))) aNil))) (aL (fC (.int 6)) (aNil)))))))
  (sSeq (sFor (fSq (fOp gIx (aP (fVar 3) (aP (fC (.int 2)) aNil)))) (gN 4)
  (g_law_4))
  (g_law_5))
def g_law : FS := sSeq (sSet 1 (fCall sp__law_bag [] (aL (fVar 0) (aNil))))
  (sSeq (sFor (fRgI1 (fC (.int 4))) (gN 2)
  (g_law_6))
  (sRet (fC (.bool true))))
def sp_law : SpV := bodyV 13 1 [] g_law
/-- what the top has written -/
structure Md (P : Program) (K : Fg) (mg : Mg) : Type where
  f__law_alike : Addr
  d__law_alike : FuncData
  F__law_alike : Fun K "_law_alike" "_law_alike" (topS 49) f__law_alike d__law_alike
  g__law_alike : mg "_law_alike" = some (.ref f__law_alike)
  f__law_bag : Addr
  d__law_bag : FuncData
  F__law_bag : Fun K "_law_bag" "_law_bag" (topS 39) f__law_bag d__law_bag
  g__law_bag : mg "_law_bag" = some (.ref f__law_bag)
  f__law_figure : Addr
  d__law_figure : FuncData
  F__law_figure : Fun K "_law_figure" "_law_figure" (topS 31) f__law_figure d__law_figure
  g__law_figure : mg "_law_figure" = some (.ref f__law_figure)
  f__law_slots_of_times : Addr
  d__law_slots_of_times : FuncData
  F__law_slots_of_times : Fun K "_law_slots_of_times" "_law_slots_of_times" (topS 32) f__law_slots_of_times d__law_slots_of_times
  g__law_slots_of_times : mg "_law_slots_of_times" = some (.ref f__law_slots_of_times)
  f__law_reading : Addr
  d__law_reading : FuncData
  F__law_reading : Fun K "_law_reading" "_law_reading" (topS 33) f__law_reading d__law_reading
  g__law_reading : mg "_law_reading" = some (.ref f__law_reading)
  f__law_slot_sources : Addr
  d__law_slot_sources : FuncData
  F__law_slot_sources : Fun K "_law_slot_sources" "_law_slot_sources" (topS 51) f__law_slot_sources d__law_slot_sources
  g__law_slot_sources : mg "_law_slot_sources" = some (.ref f__law_slot_sources)
  f__law_take : Addr
  d__law_take : FuncData
  F__law_take : Fun K "_law_take" "_law_take" (topS 34) f__law_take d__law_take
  g__law_take : mg "_law_take" = some (.ref f__law_take)
  f__law_some : Addr
  d__law_some : FuncData
  F__law_some : Fun K "_law_some" "_law_some" (topS 35) f__law_some d__law_some
  g__law_some : mg "_law_some" = some (.ref f__law_some)
  f__law_source : Addr
  d__law_source : FuncData
  F__law_source : Fun K "_law_source" "_law_source" (topS 36) f__law_source d__law_source
  g__law_source : mg "_law_source" = some (.ref f__law_source)
  f__law_drawn_row : Addr
  d__law_drawn_row : FuncData
  F__law_drawn_row : Fun K "_law_drawn_row" "_law_drawn_row" (topS 52) f__law_drawn_row d__law_drawn_row
  g__law_drawn_row : mg "_law_drawn_row" = some (.ref f__law_drawn_row)
  f__law_heard : Addr
  d__law_heard : FuncData
  F__law_heard : Fun K "_law_heard" "_law_heard" (topS 50) f__law_heard d__law_heard
  g__law_heard : mg "_law_heard" = some (.ref f__law_heard)
  f__law_is_row : Addr
  d__law_is_row : FuncData
  F__law_is_row : Fun K "_law_is_row" "_law_is_row" (topS 53) f__law_is_row d__law_is_row
  g__law_is_row : mg "_law_is_row" = some (.ref f__law_is_row)
  f__law_odd_row : Addr
  d__law_odd_row : FuncData
  F__law_odd_row : Fun K "_law_odd_row" "_law_odd_row" (topS 54) f__law_odd_row d__law_odd_row
  g__law_odd_row : mg "_law_odd_row" = some (.ref f__law_odd_row)
  f__law_counting : Addr
  d__law_counting : FuncData
  F__law_counting : Fun K "_law_counting" "_law_counting" (topS 47) f__law_counting d__law_counting
  g__law_counting : mg "_law_counting" = some (.ref f__law_counting)
  f__law_letters : Addr
  d__law_letters : FuncData
  F__law_letters : Fun K "_law_letters" "_law_letters" (topS 45) f__law_letters d__law_letters
  g__law_letters : mg "_law_letters" = some (.ref f__law_letters)
  f__law_machine : Addr
  d__law_machine : FuncData
  F__law_machine : Fun K "_law_machine" "_law_machine" (topS 46) f__law_machine d__law_machine
  g__law_machine : mg "_law_machine" = some (.ref f__law_machine)
  f__law_names : Addr
  d__law_names : FuncData
  F__law_names : Fun K "_law_names" "_law_names" (topS 44) f__law_names d__law_names
  g__law_names : mg "_law_names" = some (.ref f__law_names)
  f__law_promises_drawn : Addr
  d__law_promises_drawn : FuncData
  F__law_promises_drawn : Fun K "_law_promises_drawn" "_law_promises_drawn" (topS 43) f__law_promises_drawn d__law_promises_drawn
  g__law_promises_drawn : mg "_law_promises_drawn" = some (.ref f__law_promises_drawn)
  f__law_mixed : Addr
  d__law_mixed : FuncData
  F__law_mixed : Fun K "_law_mixed" "_law_mixed" (topS 40) f__law_mixed d__law_mixed
  g__law_mixed : mg "_law_mixed" = some (.ref f__law_mixed)
  f__law_some_names : Addr
  d__law_some_names : FuncData
  F__law_some_names : Fun K "_law_some_names" "_law_some_names" (topS 41) f__law_some_names d__law_some_names
  g__law_some_names : mg "_law_some_names" = some (.ref f__law_some_names)
  f__law_sources_drawn : Addr
  d__law_sources_drawn : FuncData
  F__law_sources_drawn : Fun K "_law_sources_drawn" "_law_sources_drawn" (topS 42) f__law_sources_drawn d__law_sources_drawn
  g__law_sources_drawn : mg "_law_sources_drawn" = some (.ref f__law_sources_drawn)
  f__law_plan : Addr
  d__law_plan : FuncData
  F__law_plan : Fun K "_law_plan" "_law_plan" (topS 48) f__law_plan d__law_plan
  g__law_plan : mg "_law_plan" = some (.ref f__law_plan)
  f__law_step : Addr
  d__law_step : FuncData
  F__law_step : Fun K "_law_step" "_law_step" (topS 38) f__law_step d__law_step
  g__law_step : mg "_law_step" = some (.ref f__law_step)
  f__law_ways : Addr
  d__law_ways : FuncData
  F__law_ways : Fun K "_law_ways" "_law_ways" (topS 37) f__law_ways d__law_ways
  g__law_ways : mg "_law_ways" = some (.ref f__law_ways)
  f__law_sets : Addr
  d__law_sets : FuncData
  F__law_sets : Fun K "_law_sets" "_law_sets" (topS 55) f__law_sets d__law_sets
  g__law_sets : mg "_law_sets" = some (.ref f__law_sets)
  f_figure_names : Addr
  d_figure_names : FuncData
  F_figure_names : Fun K "figure_names" "figure_names" (topS 12) f_figure_names d_figure_names
  g_figure_names : mg "figure_names" = some (.ref f_figure_names)
  f_figure_index : Addr
  d_figure_index : FuncData
  F_figure_index : Fun K "figure_index" "figure_index" (topS 14) f_figure_index d_figure_index
  g_figure_index : mg "figure_index" = some (.ref f_figure_index)
  f_figure_of : Addr
  d_figure_of : FuncData
  F_figure_of : Fun K "figure_of" "figure_of" (topS 15) f_figure_of d_figure_of
  g_figure_of : mg "figure_of" = some (.ref f_figure_of)
  f_joined_letters : Addr
  d_joined_letters : FuncData
  F_joined_letters : Fun K "joined_letters" "joined_letters" (topS 10) f_joined_letters d_joined_letters
  g_joined_letters : mg "joined_letters" = some (.ref f_joined_letters)
  f_source_names : Addr
  d_source_names : FuncData
  F_source_names : Fun K "source_names" "source_names" (topS 11) f_source_names d_source_names
  g_source_names : mg "source_names" = some (.ref f_source_names)
  f_source_index : Addr
  d_source_index : FuncData
  F_source_index : Fun K "source_index" "source_index" (topS 13) f_source_index d_source_index
  g_source_index : mg "source_index" = some (.ref f_source_index)
  f_letters_of : Addr
  d_letters_of : FuncData
  F_letters_of : Fun K "letters_of" "letters_of" (topS 16) f_letters_of d_letters_of
  g_letters_of : mg "letters_of" = some (.ref f_letters_of)
  f_is_row : Addr
  d_is_row : FuncData
  F_is_row : Fun K "is_row" "is_row" (topS 22) f_is_row d_is_row
  g_is_row : mg "is_row" = some (.ref f_is_row)
  f_parts_of : Addr
  d_parts_of : FuncData
  F_parts_of : Fun K "parts_of" "parts_of" (topS 20) f_parts_of d_parts_of
  g_parts_of : mg "parts_of" = some (.ref f_parts_of)
  f_slot_sources : Addr
  d_slot_sources : FuncData
  F_slot_sources : Fun K "slot_sources" "slot_sources" (topS 21) f_slot_sources d_slot_sources
  g_slot_sources : mg "slot_sources" = some (.ref f_slot_sources)
  f_need_row : Addr
  d_need_row : FuncData
  F_need_row : Fun K "need_row" "need_row" (topS 23) f_need_row d_need_row
  g_need_row : mg "need_row" = some (.ref f_need_row)
  f_stepped : Addr
  d_stepped : FuncData
  F_stepped : Fun K "stepped" "stepped" (topS 7) f_stepped d_stepped
  g_stepped : mg "stepped" = some (.ref f_stepped)
  f_ticked : Addr
  d_ticked : FuncData
  F_ticked : Fun K "ticked" "ticked" (topS 8) f_ticked d_ticked
  g_ticked : mg "ticked" = some (.ref f_ticked)
  f_gone : Addr
  d_gone : FuncData
  F_gone : Fun K "gone" "gone" (topS 26) f_gone d_gone
  g_gone : mg "gone" = some (.ref f_gone)
  f_ways_at : Addr
  d_ways_at : FuncData
  F_ways_at : Fun K "ways_at" "ways_at" (topS 25) f_ways_at d_ways_at
  g_ways_at : mg "ways_at" = some (.ref f_ways_at)
  f_set_behind : Addr
  d_set_behind : FuncData
  F_set_behind : Fun K "set_behind" "set_behind" (topS 27) f_set_behind d_set_behind
  g_set_behind : mg "set_behind" = some (.ref f_set_behind)
  f_whole_row : Addr
  d_whole_row : FuncData
  F_whole_row : Fun K "whole_row" "whole_row" (topS 24) f_whole_row d_whole_row
  g_whole_row : mg "whole_row" = some (.ref f_whole_row)
  f_sets_of : Addr
  d_sets_of : FuncData
  F_sets_of : Fun K "sets_of" "sets_of" (topS 28) f_sets_of d_sets_of
  g_sets_of : mg "sets_of" = some (.ref f_sets_of)
  f_last_set : Addr
  d_last_set : FuncData
  F_last_set : Fun K "last_set" "last_set" (topS 29) f_last_set d_last_set
  g_last_set : mg "last_set" = some (.ref f_last_set)
  f_law : Addr
  d_law : FuncData
  F_law : Fun K "law" "law" (topS 56) f_law d_law
  g_law : mg "law" = some (.ref f_law)
  e_NoFigure : Addr
  x_NoFigure : ExcM K mg "NoFigure" e_NoFigure
  e_NoSource : Addr
  x_NoSource : ExcM K mg "NoSource" e_NoSource
  e_Refused : Addr
  x_Refused : ExcM K mg "Refused" e_Refused
  e_StreamError : Addr
  x_StreamError : ExcM K mg "StreamError" e_StreamError
  r_NoFigure : RaiseM P K mg e_NoFigure ["name"]
  r_NoSource : RaiseM P K mg e_NoSource ["name"]
  r_Refused : RaiseM P K mg e_Refused ["why"]
  s_NoFigure_NoFigure : PySem.W.subIn K (.ref e_NoFigure) (.ref e_NoFigure) = some true
  s_NoFigure_Refused : PySem.W.subIn K (.ref e_NoFigure) (.ref e_Refused) = some false
  s_NoFigure_StreamError : PySem.W.subIn K (.ref e_NoFigure) (.ref e_StreamError) = some true
  s_NoSource_NoFigure : PySem.W.subIn K (.ref e_NoSource) (.ref e_NoFigure) = some false
  s_NoSource_Refused : PySem.W.subIn K (.ref e_NoSource) (.ref e_Refused) = some false
  s_NoSource_StreamError : PySem.W.subIn K (.ref e_NoSource) (.ref e_StreamError) = some true
  s_Refused_NoFigure : PySem.W.subIn K (.ref e_Refused) (.ref e_NoFigure) = some false
  s_Refused_Refused : PySem.W.subIn K (.ref e_Refused) (.ref e_Refused) = some true
  s_Refused_StreamError : PySem.W.subIn K (.ref e_Refused) (.ref e_StreamError) = some true
  h_NoFigure_name : PySem.W.findIn K (.ref e_NoFigure) "name" = some none
  h_NoSource_name : PySem.W.findIn K (.ref e_NoSource) "name" = some none
  h_Refused_why : PySem.W.findIn K (.ref e_Refused) "why" = some none
  c_law : Addr
  t_law : Addr
  hc_law : d_law.code = .ref c_law
  n_abs : mg "abs" = none
  n_all : mg "all" = none
  n_int : mg "int" = none
  n_isinstance : mg "isinstance" = none
  n_len : mg "len" = none
  n_list : mg "list" = none
  n_min : mg "min" = none
  n_range : mg "range" = none
  n_repr : mg "repr" = none
  n_set : mg "set" = none
  n_sorted : mg "sorted" = none
  n_str : mg "str" = none
  n_tuple : mg "tuple" = none
  n_zip : mg "zip" = none
  c_EMPTY : ∃ t, mg "EMPTY" = some (.str "empty" t)
  c_OPEN : ∃ t, mg "OPEN" = some (.str "open" t)
  c_TICK : ∃ t, mg "TICK" = some (.str "tick" t)
section
variable {P : Program} {w : World} {K : Fg} {mg : Mg} {base : Heap} {T : List NdefX.NTab}
def Md.cs (M : Md P K mg) : List (Addr × Addr × Str) := [(M.c_law, M.t_law, "law.<locals>.<lambda>")]
theorem Md.so_NoFigure (M : Md P K mg) : SubOk K mg (.ref M.e_NoFigure) sub_NoFigure := subOk_of M.x_NoFigure (tab_cons ⟨M.e_NoFigure, M.x_NoFigure.mg, M.s_NoFigure_NoFigure⟩ (tab_cons ⟨M.e_NoSource, M.x_NoSource.mg, M.s_NoSource_NoFigure⟩ (tab_cons ⟨M.e_Refused, M.x_Refused.mg, M.s_Refused_NoFigure⟩ (tab_nil (p := fun x b => ∃ C, mg x = some (.ref C) ∧ PySem.W.subIn K (.ref C) (.ref M.e_NoFigure) = some b)))))
theorem Md.io_NoFigure (M : Md P K mg) : IsXOk K mg (.ref M.e_NoFigure) sub_NoFigure := isXOk_of M.x_NoFigure (tab_cons ⟨M.e_NoFigure, M.x_NoFigure, M.s_NoFigure_NoFigure⟩ (tab_cons ⟨M.e_NoSource, M.x_NoSource, M.s_NoSource_NoFigure⟩ (tab_cons ⟨M.e_Refused, M.x_Refused, M.s_Refused_NoFigure⟩ (tab_nil (p := fun x b => ∃ C, ExcM K mg x C ∧ PySem.W.subIn K (.ref C) (.ref M.e_NoFigure) = some b)))))
theorem Md.so_Refused (M : Md P K mg) : SubOk K mg (.ref M.e_Refused) sub_Refused := subOk_of M.x_Refused (tab_cons ⟨M.e_NoFigure, M.x_NoFigure.mg, M.s_NoFigure_Refused⟩ (tab_cons ⟨M.e_NoSource, M.x_NoSource.mg, M.s_NoSource_Refused⟩ (tab_cons ⟨M.e_Refused, M.x_Refused.mg, M.s_Refused_Refused⟩ (tab_nil (p := fun x b => ∃ C, mg x = some (.ref C) ∧ PySem.W.subIn K (.ref C) (.ref M.e_Refused) = some b)))))
theorem Md.io_Refused (M : Md P K mg) : IsXOk K mg (.ref M.e_Refused) sub_Refused := isXOk_of M.x_Refused (tab_cons ⟨M.e_NoFigure, M.x_NoFigure, M.s_NoFigure_Refused⟩ (tab_cons ⟨M.e_NoSource, M.x_NoSource, M.s_NoSource_Refused⟩ (tab_cons ⟨M.e_Refused, M.x_Refused, M.s_Refused_Refused⟩ (tab_nil (p := fun x b => ∃ C, ExcM K mg x C ∧ PySem.W.subIn K (.ref C) (.ref M.e_Refused) = some b)))))
theorem Md.so_StreamError (M : Md P K mg) : SubOk K mg (.ref M.e_StreamError) sub_StreamError := subOk_of M.x_StreamError (tab_cons ⟨M.e_NoFigure, M.x_NoFigure.mg, M.s_NoFigure_StreamError⟩ (tab_cons ⟨M.e_NoSource, M.x_NoSource.mg, M.s_NoSource_StreamError⟩ (tab_cons ⟨M.e_Refused, M.x_Refused.mg, M.s_Refused_StreamError⟩ (tab_nil (p := fun x b => ∃ C, mg x = some (.ref C) ∧ PySem.W.subIn K (.ref C) (.ref M.e_StreamError) = some b)))))
theorem Md.io_StreamError (M : Md P K mg) : IsXOk K mg (.ref M.e_StreamError) sub_StreamError := isXOk_of M.x_StreamError (tab_cons ⟨M.e_NoFigure, M.x_NoFigure, M.s_NoFigure_StreamError⟩ (tab_cons ⟨M.e_NoSource, M.x_NoSource, M.s_NoSource_StreamError⟩ (tab_cons ⟨M.e_Refused, M.x_Refused, M.s_Refused_StreamError⟩ (tab_nil (p := fun x b => ∃ C, ExcM K mg x C ∧ PySem.W.subIn K (.ref C) (.ref M.e_StreamError) = some b)))))
theorem Md.fo_name (M : Md P K mg) : FldOk K mg "name" fld_name := fldOk_of (List.forall_mem_cons.mpr ⟨⟨M.e_NoFigure, M.x_NoFigure, M.h_NoFigure_name⟩, (List.forall_mem_cons.mpr ⟨⟨M.e_NoSource, M.x_NoSource, M.h_NoSource_name⟩, (fun _ h => nomatch h)⟩)⟩)
theorem Md.fo_why (M : Md P K mg) : FldOk K mg "why" fld_why := fldOk_of (List.forall_mem_cons.mpr ⟨⟨M.e_Refused, M.x_Refused, M.h_Refused_why⟩, (fun _ h => nomatch h)⟩)
theorem Md.k__law_alike (M : Md P K mg) : PySem.W.keepIn K (.ref M.f__law_alike) = true := M.F__law_alike.kp
theorem Md.b__law_alike (M : Md P K mg) : Binds K M.d__law_alike ["found", "due"] [] := M.F__law_alike.binds (ps := ["found", "due"]) fun _ _ _ _ _ _ us hl => match us, hl with | [_, _], _ => rfl
theorem Md.k__law_bag (M : Md P K mg) : PySem.W.keepIn K (.ref M.f__law_bag) = true := M.F__law_bag.kp
theorem Md.b__law_bag (M : Md P K mg) : Binds K M.d__law_bag ["script"] [] := M.F__law_bag.binds (ps := ["script"]) fun _ _ _ _ _ _ us hl => match us, hl with | [_], _ => rfl
theorem Md.k__law_figure (M : Md P K mg) : PySem.W.keepIn K (.ref M.f__law_figure) = true := M.F__law_figure.kp
theorem Md.b__law_figure (M : Md P K mg) : Binds K M.d__law_figure ["plan", "name"] [] := M.F__law_figure.binds (ps := ["plan", "name"]) fun _ _ _ _ _ _ us hl => match us, hl with | [_, _], _ => rfl
theorem Md.k__law_slots_of_times (M : Md P K mg) : PySem.W.keepIn K (.ref M.f__law_slots_of_times) = true := M.F__law_slots_of_times.kp
theorem Md.b__law_slots_of_times (M : Md P K mg) : Binds K M.d__law_slots_of_times ["plan", "reads", "begin", "end"] [] := M.F__law_slots_of_times.binds (ps := ["plan", "reads", "begin", "end"]) fun _ _ _ _ _ _ us hl => match us, hl with | [_, _, _, _], _ => rfl
theorem Md.k__law_reading (M : Md P K mg) : PySem.W.keepIn K (.ref M.f__law_reading) = true := M.F__law_reading.kp
theorem Md.b__law_reading (M : Md P K mg) : Binds K M.d__law_reading ["plan", "name"] [] := M.F__law_reading.binds (ps := ["plan", "name"]) fun _ _ _ _ _ _ us hl => match us, hl with | [_, _], _ => rfl
theorem Md.k__law_slot_sources (M : Md P K mg) : PySem.W.keepIn K (.ref M.f__law_slot_sources) = true := M.F__law_slot_sources.kp
theorem Md.b__law_slot_sources (M : Md P K mg) : Binds K M.d__law_slot_sources ["plan", "name"] [] := M.F__law_slot_sources.binds (ps := ["plan", "name"]) fun _ _ _ _ _ _ us hl => match us, hl with | [_, _], _ => rfl
theorem Md.k__law_take (M : Md P K mg) : PySem.W.keepIn K (.ref M.f__law_take) = true := M.F__law_take.kp
theorem Md.b__law_take (M : Md P K mg) : Binds K M.d__law_take ["bag", "many"] [] := M.F__law_take.binds (ps := ["bag", "many"]) fun _ _ _ _ _ _ us hl => match us, hl with | [_, _], _ => rfl
theorem Md.k__law_some (M : Md P K mg) : PySem.W.keepIn K (.ref M.f__law_some) = true := M.F__law_some.kp
theorem Md.b__law_some (M : Md P K mg) : Binds K M.d__law_some ["bag", "things"] [] := M.F__law_some.binds (ps := ["bag", "things"]) fun _ _ _ _ _ _ us hl => match us, hl with | [_, _], _ => rfl
theorem Md.k__law_source (M : Md P K mg) : PySem.W.keepIn K (.ref M.f__law_source) = true := M.F__law_source.kp
theorem Md.b__law_source (M : Md P K mg) : Binds K M.d__law_source ["plan", "name"] [] := M.F__law_source.binds (ps := ["plan", "name"]) fun _ _ _ _ _ _ us hl => match us, hl with | [_, _], _ => rfl
theorem Md.k__law_drawn_row (M : Md P K mg) : PySem.W.keepIn K (.ref M.f__law_drawn_row) = true := M.F__law_drawn_row.kp
theorem Md.b__law_drawn_row (M : Md P K mg) : Binds K M.d__law_drawn_row ["bag", "plan", "name"] [] := M.F__law_drawn_row.binds (ps := ["bag", "plan", "name"]) fun _ _ _ _ _ _ us hl => match us, hl with | [_, _, _], _ => rfl
theorem Md.k__law_heard (M : Md P K mg) : PySem.W.keepIn K (.ref M.f__law_heard) = true := M.F__law_heard.kp
theorem Md.b__law_heard (M : Md P K mg) : Binds K M.d__law_heard ["act"] [] := M.F__law_heard.binds (ps := ["act"]) fun _ _ _ _ _ _ us hl => match us, hl with | [_], _ => rfl
theorem Md.k__law_is_row (M : Md P K mg) : PySem.W.keepIn K (.ref M.f__law_is_row) = true := M.F__law_is_row.kp
theorem Md.b__law_is_row (M : Md P K mg) : Binds K M.d__law_is_row ["plan", "name", "thing"] [] := M.F__law_is_row.binds (ps := ["plan", "name", "thing"]) fun _ _ _ _ _ _ us hl => match us, hl with | [_, _, _], _ => rfl
theorem Md.k__law_odd_row (M : Md P K mg) : PySem.W.keepIn K (.ref M.f__law_odd_row) = true := M.F__law_odd_row.kp
theorem Md.b__law_odd_row (M : Md P K mg) : Binds K M.d__law_odd_row ["bag", "plan", "name", "row"] [] := M.F__law_odd_row.binds (ps := ["bag", "plan", "name", "row"]) fun _ _ _ _ _ _ us hl => match us, hl with | [_, _, _, _], _ => rfl
theorem Md.k__law_counting (M : Md P K mg) : PySem.W.keepIn K (.ref M.f__law_counting) = true := M.F__law_counting.kp
theorem Md.b__law_counting (M : Md P K mg) : Binds K M.d__law_counting ["letters", "many"] [] := M.F__law_counting.binds (ps := ["letters", "many"]) fun _ _ _ _ _ _ us hl => match us, hl with | [_, _], _ => rfl
theorem Md.k__law_letters (M : Md P K mg) : PySem.W.keepIn K (.ref M.f__law_letters) = true := M.F__law_letters.kp
theorem Md.b__law_letters (M : Md P K mg) : Binds K M.d__law_letters ["plan", "reads"] [] := M.F__law_letters.binds (ps := ["plan", "reads"]) fun _ _ _ _ _ _ us hl => match us, hl with | [_, _], _ => rfl
theorem Md.k__law_machine (M : Md P K mg) : PySem.W.keepIn K (.ref M.f__law_machine) = true := M.F__law_machine.kp
theorem Md.b__law_machine (M : Md P K mg) : Binds K M.d__law_machine ["bag", "letters", "many", "outs"] [] := M.F__law_machine.binds (ps := ["bag", "letters", "many", "outs"]) fun _ _ _ _ _ _ us hl => match us, hl with | [_, _, _, _], _ => rfl
theorem Md.k__law_names (M : Md P K mg) : PySem.W.keepIn K (.ref M.f__law_names) = true := M.F__law_names.kp
theorem Md.b__law_names (M : Md P K mg) : Binds K M.d__law_names ["plan"] [] := M.F__law_names.binds (ps := ["plan"]) fun _ _ _ _ _ _ us hl => match us, hl with | [_], _ => rfl
theorem Md.k__law_promises_drawn (M : Md P K mg) : PySem.W.keepIn K (.ref M.f__law_promises_drawn) = true := M.F__law_promises_drawn.kp
theorem Md.b__law_promises_drawn (M : Md P K mg) : Binds K M.d__law_promises_drawn ["bag", "many", "most"] [] := M.F__law_promises_drawn.binds (ps := ["bag", "many", "most"]) fun _ _ _ _ _ _ us hl => match us, hl with | [_, _, _], _ => rfl
theorem Md.k__law_mixed (M : Md P K mg) : PySem.W.keepIn K (.ref M.f__law_mixed) = true := M.F__law_mixed.kp
theorem Md.b__law_mixed (M : Md P K mg) : Binds K M.d__law_mixed ["bag", "things"] [] := M.F__law_mixed.binds (ps := ["bag", "things"]) fun _ _ _ _ _ _ us hl => match us, hl with | [_, _], _ => rfl
theorem Md.k__law_some_names (M : Md P K mg) : PySem.W.keepIn K (.ref M.f__law_some_names) = true := M.F__law_some_names.kp
theorem Md.b__law_some_names (M : Md P K mg) : Binds K M.d__law_some_names ["bag", "names", "many"] [] := M.F__law_some_names.binds (ps := ["bag", "names", "many"]) fun _ _ _ _ _ _ us hl => match us, hl with | [_, _, _], _ => rfl
theorem Md.k__law_sources_drawn (M : Md P K mg) : PySem.W.keepIn K (.ref M.f__law_sources_drawn) = true := M.F__law_sources_drawn.kp
theorem Md.b__law_sources_drawn (M : Md P K mg) : Binds K M.d__law_sources_drawn ["bag", "many", "rate", "letters"] [] := M.F__law_sources_drawn.binds (ps := ["bag", "many", "rate", "letters"]) fun _ _ _ _ _ _ us hl => match us, hl with | [_, _, _, _], _ => rfl
theorem Md.k__law_plan (M : Md P K mg) : PySem.W.keepIn K (.ref M.f__law_plan) = true := M.F__law_plan.kp
theorem Md.b__law_plan (M : Md P K mg) : Binds K M.d__law_plan ["bag", "sources", "figures", "size"] [] := M.F__law_plan.binds (ps := ["bag", "sources", "figures", "size"]) fun _ _ _ _ _ _ us hl => match us, hl with | [_, _, _, _], _ => rfl
theorem Md.k__law_step (M : Md P K mg) : PySem.W.keepIn K (.ref M.f__law_step) = true := M.F__law_step.kp
theorem Md.b__law_step (M : Md P K mg) : Binds K M.d__law_step ["machine", "state", "letter"] [] := M.F__law_step.binds (ps := ["machine", "state", "letter"]) fun _ _ _ _ _ _ us hl => match us, hl with | [_, _, _], _ => rfl
theorem Md.k__law_ways (M : Md P K mg) : PySem.W.keepIn K (.ref M.f__law_ways) = true := M.F__law_ways.kp
theorem Md.b__law_ways (M : Md P K mg) : Binds K M.d__law_ways ["plan", "source", "kind"] [] := M.F__law_ways.binds (ps := ["plan", "source", "kind"]) fun _ _ _ _ _ _ us hl => match us, hl with | [_, _, _], _ => rfl
theorem Md.k__law_sets (M : Md P K mg) : PySem.W.keepIn K (.ref M.f__law_sets) = true := M.F__law_sets.kp
theorem Md.b__law_sets (M : Md P K mg) : Binds K M.d__law_sets ["plan", "name", "row"] [] := M.F__law_sets.binds (ps := ["plan", "name", "row"]) fun _ _ _ _ _ _ us hl => match us, hl with | [_, _, _], _ => rfl
theorem Md.k_figure_names (M : Md P K mg) : PySem.W.keepIn K (.ref M.f_figure_names) = true := M.F_figure_names.kp
theorem Md.b_figure_names (M : Md P K mg) : Binds K M.d_figure_names ["plan"] [] := M.F_figure_names.binds (ps := ["plan"]) fun _ _ _ _ _ _ us hl => match us, hl with | [_], _ => rfl
theorem Md.k_figure_index (M : Md P K mg) : PySem.W.keepIn K (.ref M.f_figure_index) = true := M.F_figure_index.kp
theorem Md.b_figure_index (M : Md P K mg) : Binds K M.d_figure_index ["plan", "name"] [] := M.F_figure_index.binds (ps := ["plan", "name"]) fun _ _ _ _ _ _ us hl => match us, hl with | [_, _], _ => rfl
theorem Md.k_figure_of (M : Md P K mg) : PySem.W.keepIn K (.ref M.f_figure_of) = true := M.F_figure_of.kp
theorem Md.b_figure_of (M : Md P K mg) : Binds K M.d_figure_of ["plan", "name"] [] := M.F_figure_of.binds (ps := ["plan", "name"]) fun _ _ _ _ _ _ us hl => match us, hl with | [_, _], _ => rfl
theorem Md.k_joined_letters (M : Md P K mg) : PySem.W.keepIn K (.ref M.f_joined_letters) = true := M.F_joined_letters.kp
theorem Md.b_joined_letters (M : Md P K mg) : Binds K M.d_joined_letters ["sources", "names"] [] := M.F_joined_letters.binds (ps := ["sources", "names"]) fun _ _ _ _ _ _ us hl => match us, hl with | [_, _], _ => rfl
theorem Md.k_source_names (M : Md P K mg) : PySem.W.keepIn K (.ref M.f_source_names) = true := M.F_source_names.kp
theorem Md.b_source_names (M : Md P K mg) : Binds K M.d_source_names ["plan"] [] := M.F_source_names.binds (ps := ["plan"]) fun _ _ _ _ _ _ us hl => match us, hl with | [_], _ => rfl
theorem Md.k_source_index (M : Md P K mg) : PySem.W.keepIn K (.ref M.f_source_index) = true := M.F_source_index.kp
theorem Md.b_source_index (M : Md P K mg) : Binds K M.d_source_index ["plan", "name"] [] := M.F_source_index.binds (ps := ["plan", "name"]) fun _ _ _ _ _ _ us hl => match us, hl with | [_, _], _ => rfl
theorem Md.k_letters_of (M : Md P K mg) : PySem.W.keepIn K (.ref M.f_letters_of) = true := M.F_letters_of.kp
theorem Md.b_letters_of (M : Md P K mg) : Binds K M.d_letters_of ["plan", "names"] [] := M.F_letters_of.binds (ps := ["plan", "names"]) fun _ _ _ _ _ _ us hl => match us, hl with | [_, _], _ => rfl
theorem Md.k_is_row (M : Md P K mg) : PySem.W.keepIn K (.ref M.f_is_row) = true := M.F_is_row.kp
theorem Md.b_is_row (M : Md P K mg) : Binds K M.d_is_row ["plan", "sources", "thing"] [] := M.F_is_row.binds (ps := ["plan", "sources", "thing"]) fun _ _ _ _ _ _ us hl => match us, hl with | [_, _, _], _ => rfl
theorem Md.k_parts_of (M : Md P K mg) : PySem.W.keepIn K (.ref M.f_parts_of) = true := M.F_parts_of.kp
theorem Md.b_parts_of (M : Md P K mg) : Binds K M.d_parts_of ["plan", "figure"] [] := M.F_parts_of.binds (ps := ["plan", "figure"]) fun _ _ _ _ _ _ us hl => match us, hl with | [_, _], _ => rfl
theorem Md.k_slot_sources (M : Md P K mg) : PySem.W.keepIn K (.ref M.f_slot_sources) = true := M.F_slot_sources.kp
theorem Md.b_slot_sources (M : Md P K mg) : Binds K M.d_slot_sources ["plan", "figure"] [] := M.F_slot_sources.binds (ps := ["plan", "figure"]) fun _ _ _ _ _ _ us hl => match us, hl with | [_, _], _ => rfl
theorem Md.k_need_row (M : Md P K mg) : PySem.W.keepIn K (.ref M.f_need_row) = true := M.F_need_row.kp
theorem Md.b_need_row (M : Md P K mg) : Binds K M.d_need_row ["plan", "figure", "row"] [] := M.F_need_row.binds (ps := ["plan", "figure", "row"]) fun _ _ _ _ _ _ us hl => match us, hl with | [_, _, _], _ => rfl
theorem Md.k_stepped (M : Md P K mg) : PySem.W.keepIn K (.ref M.f_stepped) = true := M.F_stepped.kp
theorem Md.b_stepped (M : Md P K mg) : Binds K M.d_stepped ["machine", "state", "letter"] [] := M.F_stepped.binds (ps := ["machine", "state", "letter"]) fun _ _ _ _ _ _ us hl => match us, hl with | [_, _, _], _ => rfl
theorem Md.k_ticked (M : Md P K mg) : PySem.W.keepIn K (.ref M.f_ticked) = true := M.F_ticked.kp
theorem Md.b_ticked (M : Md P K mg) : Binds K M.d_ticked ["machine", "state"] [] := M.F_ticked.binds (ps := ["machine", "state"]) fun _ _ _ _ _ _ us hl => match us, hl with | [_, _], _ => rfl
theorem Md.k_gone (M : Md P K mg) : PySem.W.keepIn K (.ref M.f_gone) = true := M.F_gone.kp
theorem Md.b_gone (M : Md P K mg) : Binds K M.d_gone ["machine", "state", "way"] [] := M.F_gone.binds (ps := ["machine", "state", "way"]) fun _ _ _ _ _ _ us hl => match us, hl with | [_, _, _], _ => rfl
theorem Md.k_ways_at (M : Md P K mg) : PySem.W.keepIn K (.ref M.f_ways_at) = true := M.F_ways_at.kp
theorem Md.b_ways_at (M : Md P K mg) : Binds K M.d_ways_at ["plan", "part", "kind"] [] := M.F_ways_at.binds (ps := ["plan", "part", "kind"]) fun _ _ _ _ _ _ us hl => match us, hl with | [_, _, _], _ => rfl
theorem Md.k_set_behind (M : Md P K mg) : PySem.W.keepIn K (.ref M.f_set_behind) = true := M.F_set_behind.kp
theorem Md.b_set_behind (M : Md P K mg) : Binds K M.d_set_behind ["plan", "machine", "states", "part", "kind"] [] := M.F_set_behind.binds (ps := ["plan", "machine", "states", "part", "kind"]) fun _ _ _ _ _ _ us hl => match us, hl with | [_, _, _, _, _], _ => rfl
theorem Md.k_whole_row (M : Md P K mg) : PySem.W.keepIn K (.ref M.f_whole_row) = true := M.F_whole_row.kp
theorem Md.b_whole_row (M : Md P K mg) : Binds K M.d_whole_row ["plan", "figure", "row"] [] := M.F_whole_row.binds (ps := ["plan", "figure", "row"]) fun _ _ _ _ _ _ us hl => match us, hl with | [_, _, _], _ => rfl
theorem Md.k_sets_of (M : Md P K mg) : PySem.W.keepIn K (.ref M.f_sets_of) = true := M.F_sets_of.kp
theorem Md.b_sets_of (M : Md P K mg) : Binds K M.d_sets_of ["plan", "figure", "row"] [] := M.F_sets_of.binds (ps := ["plan", "figure", "row"]) fun _ _ _ _ _ _ us hl => match us, hl with | [_, _, _], _ => rfl
theorem Md.k_last_set (M : Md P K mg) : PySem.W.keepIn K (.ref M.f_last_set) = true := M.F_last_set.kp
theorem Md.b_last_set (M : Md P K mg) : Binds K M.d_last_set ["plan", "figure", "row"] [] := M.F_last_set.binds (ps := ["plan", "figure", "row"]) fun _ _ _ _ _ _ us hl => match us, hl with | [_, _, _], _ => rfl
theorem Md.k_law (M : Md P K mg) : PySem.W.keepIn K (.ref M.f_law) = true := M.F_law.kp
theorem Md.b_law (M : Md P K mg) : Binds K M.d_law ["script"] [] := M.F_law.binds (ps := ["script"]) fun _ _ _ _ _ _ us hl => match us, hl with | [_], _ => rfl
theorem ok__law_alike (M : Md P K mg) : FnV P w K mg base T 1 M.f__law_alike M.d__law_alike ["found", "due"] [] sp__law_alike := FnV.of (k := 0) M.F__law_alike sc__law_alike fun cdv A outer s H E hcv hr gd => by
  have hu := hu150 hr
  exact vss_one (vs_ret (ve_and (ve_cmp (os_eq hu) (ve_callB (os_repr hu gd) rfl M.n_repr (by decide +kernel) (va_p (ve_v 0) (va_nil))) (ve_callB (os_repr hu gd) rfl M.n_repr (by decide +kernel) (va_p (ve_v 1) (va_nil)))) (ve_one (ve_cmp (os_eq hu) (ve_v 0) (ve_v 1)))))
theorem ok__law_bag (M : Md P K mg) : FnV P w K mg base T 1 M.f__law_bag M.d__law_bag ["script"] [] sp__law_bag := FnV.of (k := 0) M.F__law_bag sc__law_bag fun cdv A outer s H E hcv hr gd => by
  have hu := hu150 hr
  exact vss_one (vs_ret (ve_lst (va_l (ve_int) (va_l (ve_int) (va_l (ve_int) (va_l (ve_lc rfl sc__law_bag.nd (vi_sq (ve_sl (ve_v 0) (vo_none) (vo_some (ve_int)))) (own := [(("cell" : Str), 1)]) (blkOk_by (by rfl)) (fun _ _ _ _ _ => (vg_n (i := 1) sc__law_bag.nd rfl (.inl rfl) (.inr rfl)).p) (fun _ _ _ _ _ => vts_nil) (fun _ _ _ _ _ => ve_callB (os_abs) rfl M.n_abs (by decide +kernel) (va_p (ve_v 1) (va_nil)))) (va_nil)))))))
theorem ok__law_figure (M : Md P K mg) : FnV P w K mg base T 1 M.f__law_figure M.d__law_figure ["plan", "name"] [] sp__law_figure := FnV.of (k := 0) M.F__law_figure sc__law_figure fun cdv A outer s H E hcv hr gd => by
  have hu := hu150 hr
  exact vss_one (vs_ret (ve_ix (ve_lc rfl sc__law_figure.nd (vi_sq (ve_ix (ve_v 0) (ve_int))) (own := [(("figure" : Str), 2)]) (blkOk_by (by rfl)) (fun _ _ _ _ _ => (vg_n (i := 2) sc__law_figure.nd rfl (.inl rfl) (.inr rfl)).p) (fun _ _ _ _ _ => vts_one (vt_cmp (os_eq hu) (ve_ix (ve_v 2) (ve_int)) (ve_v 1))) (fun _ _ _ _ _ => ve_v 2)) (ve_int)))
theorem ok__law_slots_of_times (M : Md P K mg) : FnV P w K mg base T 1 M.f__law_slots_of_times M.d__law_slots_of_times ["plan", "reads", "begin", "end"] [] sp__law_slots_of_times := FnV.of (k := 0) M.F__law_slots_of_times sc__law_slots_of_times fun cdv A outer s H E hcv hr gd => by
  have hu := hu150 hr
  exact vss_cons (vs_set (i := 4) sc__law_slots_of_times.nd rfl (.inl rfl) (ve_lst (va_nil)) (.inl rfl)) (vss_cons (vs_for PassesOwn.leaving rfl (vi_rg2 rfl M.n_range (ve_v 2) (ve_v 3)) (vg_n (i := 5) sc__law_slots_of_times.nd rfl (.inr rfl) (.inl rfl)).p (vss_one (vs_for PassesOwn.leaving rfl (vi_sq (ve_ix (ve_v 0) (ve_int))) (vg_n (i := 6) sc__law_slots_of_times.nd rfl (.inr rfl) (.inl rfl)).p (vss_one (vs_if (vt_cmp (os_in hu) (ve_ix (ve_v 6) (ve_int)) (ve_v 1)) (vss_one (vs_drop (ve_extend (i := 4) rfl (by first | exact .inl rfl | exact .inr (.inl rfl) | exact .inr (.inr rfl)) (ve_lc rfl sc__law_slots_of_times.nd (vi_rg1 rfl M.n_range (ve_ix (ve_v 6) (ve_int))) (own := [(("number" : Str), 7)]) (blkOk_by (by rfl)) (fun _ _ _ _ _ => (vg_n (i := 7) sc__law_slots_of_times.nd rfl (.inl rfl) (.inr rfl)).p) (fun _ _ _ _ _ => vts_nil) (fun _ _ _ _ _ => ve_tup (va_l (ve_ix (ve_v 6) (ve_int)) (va_l (ve_v 5) (va_l (ve_v 7) (va_nil))))))))) (vss_nil)))))) (vss_one (vs_ret (ve_v 4))))
theorem ok__law_reading (M : Md P K mg) : FnV P w K mg base T 2 M.f__law_reading M.d__law_reading ["plan", "name"] [] sp__law_reading := FnV.of (k := 1) M.F__law_reading sc__law_reading fun cdv A outer s H E hcv hr gd => by
  have hu := hu150 hr
  exact vss_cons (vs_par (i := 3) (j := 4) rfl sc__law_reading.nd rfl rfl (by decide) rfl rfl (ve_call (ok__law_figure M) (hr.mono (by decide)) gd rfl M.g__law_figure M.k__law_figure M.b__law_figure (va_l (ve_v 0) (va_l (ve_v 1) (va_nil)))) (ve_lst (va_nil))) (vss_cons (vs_for PassesOwn.leaving rfl (vi_rg1 rfl M.n_range (ve_ix (ve_v 3) (ve_int))) (vg_n (i := 2) sc__law_reading.nd rfl (.inl rfl) (.inl rfl)).p (vss_one (vs_drop (ve_extend (i := 4) rfl (by first | exact .inl rfl | exact .inr (.inl rfl) | exact .inr (.inr rfl)) (ve_bin os_add (ve_lc rfl sc__law_reading.nd (vi_sq (ve_call (ok__law_slots_of_times M) (hr.mono (by decide)) gd rfl M.g__law_slots_of_times M.k__law_slots_of_times M.b__law_slots_of_times (va_l (ve_v 0) (va_l (ve_ix (ve_v 3) (ve_int)) (va_l (ve_v 2) (va_l (ve_bin os_add (ve_v 2) (ve_int)) (va_nil))))))) (own := [(("slot" : Str), 5)]) (blkOk_by (by rfl)) (fun _ _ _ _ _ => (vg_n (i := 5) sc__law_reading.nd rfl (.inl rfl) (.inr rfl)).p) (fun _ _ _ _ _ => vts_nil) (fun _ _ _ _ _ => ve_ix (ve_v 5) (ve_int))) (ve_lst (va_l (ve_str) (va_nil)))))))) (vss_one (vs_ret (ve_v 4))))
theorem ok__law_slot_sources (M : Md P K mg) : FnV P w K mg base T 3 M.f__law_slot_sources M.d__law_slot_sources ["plan", "name"] [] sp__law_slot_sources := FnV.of (k := 2) M.F__law_slot_sources sc__law_slot_sources fun cdv A outer s H E hcv hr gd => by
  have hu := hu150 hr
  exact vss_one (vs_ret (ve_lc rfl sc__law_slot_sources.nd (vi_sq (ve_call (ok__law_reading M) (hr.mono (by decide)) gd rfl M.g__law_reading M.k__law_reading M.b__law_reading (va_l (ve_v 0) (va_l (ve_v 1) (va_nil))))) (own := [(("part" : Str), 2)]) (blkOk_by (by rfl)) (fun _ _ _ _ _ => (vg_n (i := 2) sc__law_slot_sources.nd rfl (.inl rfl) (.inr rfl)).p) (fun _ _ _ _ _ => vts_one (vt_cmp (os_ne hu) (ve_v 2) (ve_str))) (fun _ _ _ _ _ => ve_v 2)))
theorem ok__law_take (M : Md P K mg) : FnV P w K mg base T 1 M.f__law_take M.d__law_take ["bag", "many"] [0] sp__law_take := FnV.of (k := 0) M.F__law_take sc__law_take fun cdv A outer s H E hcv hr gd => by
  have hu := hu150 hr
  exact vss_cons (vs_if (vt_cmp (os_eq hu) (ve_ix (ve_v 0) (ve_int)) (ve_int)) (vss_cons (vs_set (i := 4) sc__law_take.nd rfl (.inl rfl) (ve_ix (ve_bin os_add (ve_sl (ve_ix (ve_v 0) (ve_int)) (vo_some (ve_ix (ve_v 0) (ve_int))) (vo_none)) (ve_lst (va_l (ve_int) (va_nil)))) (ve_int)) (.inl rfl)) (vss_cons (vs_augIx (i := 0) rfl (by first | exact .inl rfl | exact .inr (.inl rfl) | exact .inr (.inr rfl)) (ve_int) (ve_int) au_add) (vss_cons (vs_if (vt_cmp (os_ge hu) (ve_v 4) (ve_bin os_pow (ve_int) (ve_int))) (vss_one (vs_setIx (i := 0) rfl (by first | exact .inl rfl | exact .inr (.inl rfl) | exact .inr (.inr rfl)) (ve_v 4) (ve_int))) (vss_nil)) (vss_cons (vs_set (i := 5) sc__law_take.nd rfl (.inl rfl) (ve_bin os_add (ve_bin os_add (ve_bin os_mul (ve_ix (ve_v 0) (ve_int)) (ve_int)) (ve_bin os_mod (ve_callT (os_int) rfl M.n_int (by decide +kernel) (va_p (ve_v 4) (va_nil))) (ve_int))) (ve_bin os_mul (ve_int) (ve_ix (ve_v 0) (ve_int)))) (.inl rfl)) (vss_one (vs_setIx (i := 0) rfl (by first | exact .inl rfl | exact .inr (.inl rfl) | exact .inr (.inr rfl)) (ve_bin os_mod (ve_callT (os_int) rfl M.n_int (by decide +kernel) (va_p (ve_v 5) (va_nil))) (ve_int)) (ve_int))))))) (vss_nil)) (vss_cons (vs_if (vt_cmp (os_gt hu) (ve_ix (ve_v 0) (ve_int)) (ve_int)) (vss_cons (vs_set (i := 6) sc__law_take.nd rfl (.inl rfl) (ve_bin os_mod (ve_callT (os_int) rfl M.n_int (by decide +kernel) (va_p (ve_ix (ve_v 0) (ve_int)) (va_nil))) (ve_v 1)) (.inl rfl)) (vss_cons (vs_setIx (i := 0) rfl (by first | exact .inl rfl | exact .inr (.inl rfl) | exact .inr (.inr rfl)) (ve_bin os_div (ve_callT (os_int) rfl M.n_int (by decide +kernel) (va_p (ve_ix (ve_v 0) (ve_int)) (va_nil))) (ve_v 1)) (ve_int)) (vss_one (vs_ret (ve_v 6))))) (vss_nil)) (vss_cons (vs_set (i := 2) sc__law_take.nd rfl (.inl rfl) (ve_bin os_mod (ve_callT (os_int) rfl M.n_int (by decide +kernel) (va_p (ve_bin os_mul (ve_bin os_add (ve_ix (ve_v 0) (ve_int)) (ve_int)) (ve_int)) (va_nil))) (ve_int)) (.inl rfl)) (vss_cons (vs_set (i := 3) sc__law_take.nd rfl (.inl rfl) (ve_bin os_mod (ve_callT (os_int) rfl M.n_int (by decide +kernel) (va_p (ve_bin os_mul (ve_bin os_mod (ve_callT (os_int) rfl M.n_int (by decide +kernel) (va_p (ve_bin os_mul (ve_v 2) (ve_v 2)) (va_nil))) (ve_int)) (ve_int)) (va_nil))) (ve_int)) (.inl rfl)) (vss_one (vs_ret (ve_bin os_mod (ve_callT (os_int) rfl M.n_int (by decide +kernel) (va_p (ve_bin os_div (ve_v 3) (ve_int)) (va_nil))) (ve_v 1)))))))
theorem ok__law_some (M : Md P K mg) : FnV P w K mg base T 2 M.f__law_some M.d__law_some ["bag", "things"] [0] sp__law_some := FnV.of (k := 1) M.F__law_some sc__law_some fun cdv A outer s H E hcv hr gd => by
  have hu := hu150 hr
  exact vss_one (vs_ret (ve_ix (ve_v 1) (ve_call (ok__law_take M) (hr.mono (by decide)) gd rfl M.g__law_take M.k__law_take M.b__law_take (va_p (ve_v 0) (va_l (ve_callB (os_len) rfl M.n_len (by decide +kernel) (va_p (ve_v 1) (va_nil))) (va_nil))))))
theorem ok__law_source (M : Md P K mg) : FnV P w K mg base T 1 M.f__law_source M.d__law_source ["plan", "name"] [] sp__law_source := FnV.of (k := 0) M.F__law_source sc__law_source fun cdv A outer s H E hcv hr gd => by
  have hu := hu150 hr
  exact vss_one (vs_ret (ve_ix (ve_lc rfl sc__law_source.nd (vi_sq (ve_ix (ve_v 0) (ve_int))) (own := [(("source" : Str), 2)]) (blkOk_by (by rfl)) (fun _ _ _ _ _ => (vg_n (i := 2) sc__law_source.nd rfl (.inl rfl) (.inr rfl)).p) (fun _ _ _ _ _ => vts_one (vt_cmp (os_eq hu) (ve_ix (ve_v 2) (ve_int)) (ve_v 1))) (fun _ _ _ _ _ => ve_v 2)) (ve_int)))
theorem ok__law_drawn_row (M : Md P K mg) : FnV P w K mg base T 4 M.f__law_drawn_row M.d__law_drawn_row ["bag", "plan", "name"] [0] sp__law_drawn_row := FnV.of (k := 3) M.F__law_drawn_row sc__law_drawn_row fun cdv A outer s H E hcv hr gd => by
  have hu := hu150 hr
  exact vss_cons (vs_par (i := 4) (j := 5) rfl sc__law_drawn_row.nd rfl rfl (by decide) rfl rfl (ve_lst (va_nil)) (ve_call (ok__law_some M) (hr.mono (by decide)) gd rfl M.g__law_some M.k__law_some M.b__law_some (va_p (ve_v 0) (va_l (ve_lst (va_l (ve_int) (va_l (ve_int) (va_l (ve_int) (va_l (ve_int) (va_nil)))))) (va_nil))))) (vss_cons (vs_for PassesOwn.leaving rfl (vi_sq (ve_call (ok__law_slot_sources M) (hr.mono (by decide)) gd rfl M.g__law_slot_sources M.k__law_slot_sources M.b__law_slot_sources (va_l (ve_v 1) (va_l (ve_v 2) (va_nil))))) (vg_n (i := 3) sc__law_drawn_row.nd rfl (.inl rfl) (.inl rfl)).p (vss_cons (vs_set (i := 6) sc__law_drawn_row.nd rfl (.inl rfl) (ve_bin os_add (ve_callT (os_list) rfl M.n_list (by decide +kernel) (va_p (ve_ix (ve_call (ok__law_source M) (hr.mono (by decide)) gd rfl M.g__law_source M.k__law_source M.b__law_source (va_l (ve_v 1) (va_l (ve_v 3) (va_nil)))) (ve_int)) (va_nil))) (ve_lst (va_l (ve_str) (va_nil)))) (.inl rfl)) (vss_one (vs_drop (ve_append (i := 4) rfl (by first | exact .inl rfl | exact .inr (.inl rfl) | exact .inr (.inr rfl)) (ve_if (vt_cmp (os_eq hu) (ve_call (ok__law_take M) (hr.mono (by decide)) gd rfl M.g__law_take M.k__law_take M.b__law_take (va_p (ve_v 0) (va_l (ve_v 5) (va_nil)))) (ve_int)) (ve_str) (ve_call (ok__law_some M) (hr.mono (by decide)) gd rfl M.g__law_some M.k__law_some M.b__law_some (va_p (ve_v 0) (va_l (ve_v 6) (va_nil)))))))))) (vss_one (vs_ret (ve_callT (os_tuple) rfl M.n_tuple (by decide +kernel) (va_p (ve_v 4) (va_nil))))))
theorem gv__law_heard (M : Md P K mg) {j : Nat} (hj : 1 ≤ j) : GivesV P w K mg base T j ["act", "e"] "_law_heard" (topS 50) M.f__law_heard M.d__law_heard "act" g__law_heard := fun gpc cdv A outer s H E f lam stb hT hcv hr gd act => by
  have hu := hu150 hr
  exact vss_one (vs_tryAs (i := 1) rfl rfl sc__law_heard.nd rfl rfl ⟨rfl, by decide, .inl M.x_StreamError.mg⟩ M.so_StreamError (fun pn xe po => vss_one (vs_ret (ve_tup (va_l (ve_str) (va_l (act pn xe _ _) (va_nil)))))) (fun a oe cls d pn ex hz hf => vss_cons (vs_if (vt_tru (ve_isX M.io_NoFigure hz hf rfl (by first | exact .inl rfl | exact .inr (.inl rfl) | exact .inr (.inr rfl)) rfl M.n_isinstance rfl M.x_NoFigure.mg)) (vss_one (vs_ret (ve_tup (va_l (ve_str) (va_l (ve_fld M.fo_name hz hf rfl (by first | exact .inl rfl | exact .inr (.inl rfl) | exact .inr (.inr rfl))) (va_nil)))))) (vss_nil)) (vss_cons (vs_if (vt_tru (ve_isX M.io_Refused hz hf rfl (by first | exact .inl rfl | exact .inr (.inl rfl) | exact .inr (.inr rfl)) rfl M.n_isinstance rfl M.x_Refused.mg)) (vss_one (vs_ret (ve_tup (va_l (ve_str) (va_l (ve_fld M.fo_why hz hf rfl (by first | exact .inl rfl | exact .inr (.inl rfl) | exact .inr (.inr rfl))) (va_nil)))))) (vss_nil)) (vss_one (vs_ret (ve_tup (va_l (ve_str) (va_nil))))))) (stb := stb))
theorem ok__law_is_row (M : Md P K mg) : FnV P w K mg base T 4 M.f__law_is_row M.d__law_is_row ["plan", "name", "thing"] [] sp__law_is_row := FnV.of (k := 3) M.F__law_is_row sc__law_is_row fun cdv A outer s H E hcv hr gd => by
  have hu := hu150 hr
  exact vss_cons (vs_set (i := 3) sc__law_is_row.nd rfl (.inl rfl) (ve_call (ok__law_slot_sources M) (hr.mono (by decide)) gd rfl M.g__law_slot_sources M.k__law_slot_sources M.b__law_slot_sources (va_l (ve_v 0) (va_l (ve_v 1) (va_nil)))) (.inl rfl)) (vss_cons (vs_if (VW.vt (vw_or (vt_not (vt_tru (ve_isi (T := "tuple") rfl (ve_v 2) rfl M.n_isinstance rfl M.n_tuple (by decide +kernel)))) (vw_or1 (vt_cmp (os_ne hu) (ve_callB (os_len) rfl M.n_len (by decide +kernel) (va_p (ve_v 2) (va_nil))) (ve_callB (os_len) rfl M.n_len (by decide +kernel) (va_p (ve_v 3) (va_nil))))))) (vss_one (vs_ret (ve_bl))) (vss_nil)) (vss_cons (vs_if (vt_cmp (os_ne hu) (ve_lc rfl sc__law_is_row.nd (vi_sq (ve_v 2)) (own := [(("member" : Str), 5)]) (blkOk_by (by rfl)) (fun _ _ _ _ _ => (vg_n (i := 5) sc__law_is_row.nd rfl (.inl rfl) (.inr rfl)).p) (fun _ _ _ _ _ => vts_one (vt_not (vt_tru (ve_isi (T := "str") rfl (ve_v 5) rfl M.n_isinstance rfl M.n_str (by decide +kernel))))) (fun _ _ _ _ _ => ve_int)) (ve_lst (va_nil))) (vss_one (vs_ret (ve_bl))) (vss_nil)) (vss_cons (vs_setLc (i := 4) rfl sc__law_is_row.nd rfl rfl (sw_true rfl rfl rfl rfl) (vi_zp rfl M.n_zip (ve_v 2) (ve_v 3)) (own := [(("member" : Str), 5), (("source" : Str), 6)]) (blkOk_by (by rfl)) (fun _ _ _ _ _ => (vgt_t rfl (vgs_cons (vg_n (i := 5) sc__law_is_row.nd rfl (.inl rfl) (.inr rfl)) (vgs_cons (vg_n (i := 6) sc__law_is_row.nd rfl (.inl rfl) (.inr rfl)) (vgs_nil)))).p) (fun _ _ _ _ _ => vts_nil) (fun _ _ _ _ _ => ve_cmp (os_in hu) (ve_v 5) (ve_bin os_add (ve_ix (ve_call (ok__law_source M) (hr.mono (by decide)) gd rfl M.g__law_source M.k__law_source M.b__law_source (va_l (ve_v 0) (va_l (ve_v 6) (va_nil)))) (ve_int)) (ve_tup (va_l (ve_str) (va_l (ve_str) (va_nil))))))) (vss_one (vs_ret (ve_cmp (os_eq hu) (ve_meth PySem.F.plainAttrs_list PySem.F.slot_list_count PySem.F.type_list_count (os_countL hu) (ve_v 4) (va_p (ve_bl) (va_nil))) (ve_int)))))))
theorem ok__law_odd_row (M : Md P K mg) : FnV P w K mg base T 3 M.f__law_odd_row M.d__law_odd_row ["bag", "plan", "name", "row"] [0] sp__law_odd_row := FnV.of (k := 2) M.F__law_odd_row sc__law_odd_row fun cdv A outer s H E hcv hr gd => by
  have hu := hu150 hr
  exact vss_cons (vs_set (i := 4) sc__law_odd_row.nd rfl (.inl rfl) (ve_call (ok__law_take M) (hr.mono (by decide)) gd rfl M.g__law_take M.k__law_take M.b__law_take (va_p (ve_v 0) (va_l (ve_callB (os_len) rfl M.n_len (by decide +kernel) (va_p (ve_v 3) (va_nil))) (va_nil)))) (.inl rfl)) (vss_cons (vs_set (i := 5) sc__law_odd_row.nd rfl (.inl rfl) (ve_call (ok__law_some M) (hr.mono (by decide)) gd rfl M.g__law_some M.k__law_some M.b__law_some (va_p (ve_v 0) (va_l (ve_lst (va_l (ve_str) (va_l (ve_str) (va_l (ve_non) (va_l (ve_bl) (va_l (ve_str) (va_l (ve_tup (va_l (ve_str) (va_nil))) (va_l (ve_str) (va_nil))))))))) (va_nil)))) (.inl rfl)) (vss_cons (vs_set (i := 6) sc__law_odd_row.nd rfl (.inl rfl) (ve_lst (va_l (ve_bin os_add (ve_sl (ve_v 3) (vo_none) (vo_some (ve_v 4))) (ve_sl (ve_v 3) (vo_some (ve_bin os_add (ve_v 4) (ve_int))) (vo_none))) (va_l (ve_bin os_add (ve_v 3) (ve_tup (va_l (ve_str) (va_nil)))) (va_l (ve_callT (os_list) rfl M.n_list (by decide +kernel) (va_p (ve_v 3) (va_nil))) (va_l (ve_bin os_add (ve_bin os_add (ve_sl (ve_v 3) (vo_none) (vo_some (ve_v 4))) (ve_tup (va_l (ve_v 5) (va_nil)))) (ve_sl (ve_v 3) (vo_some (ve_bin os_add (ve_v 4) (ve_int))) (vo_none))) (va_l (ve_non) (va_l (ve_tup (va_nil)) (va_l (ve_str) (va_nil))))))))) (.inl rfl)) (vss_one (vs_ret (ve_call (ok__law_some M) (hr.mono (by decide)) gd rfl M.g__law_some M.k__law_some M.b__law_some (va_p (ve_v 0) (va_l (ve_bin os_add (ve_v 6) (ve_bin os_mul (ve_lst (va_l (ve_bin os_add (ve_bin os_add (ve_sl (ve_v 3) (vo_none) (vo_some (ve_v 4))) (ve_tup (va_l (ve_v 5) (va_nil)))) (ve_sl (ve_v 3) (vo_some (ve_bin os_add (ve_v 4) (ve_int))) (vo_none))) (va_nil))) (ve_int))) (va_nil))))))))
theorem ok__law_counting (M : Md P K mg) : FnV P w K mg base T 1 M.f__law_counting M.d__law_counting ["letters", "many"] [] sp__law_counting := FnV.of (k := 0) M.F__law_counting sc__law_counting fun cdv A outer s H E hcv hr gd => by
  have hu := hu150 hr
  exact vss_cons (vs_set (i := 2) sc__law_counting.nd rfl (.inr rfl) (ve_callT (os_tuple) rfl M.n_tuple (by decide +kernel) (va_p (ve_lc rfl sc__law_counting.nd (vi_rg1 rfl M.n_range (ve_bin os_add (ve_v 1) (ve_int))) (own := [(("state" : Str), 4)]) (blkOk_by (by rfl)) (fun _ _ _ _ _ => (vg_n (i := 4) sc__law_counting.nd rfl (.inl rfl) (.inr rfl)).p) (fun _ _ _ _ _ => vts_nil) (fun _ _ _ _ _ => ve_callB (os_min2 rfl) rfl M.n_min (by decide +kernel) (va_p (ve_bin os_add (ve_v 4) (ve_int)) (va_p (ve_v 1) (va_nil))))) (va_nil))) (.inl rfl)) (vss_cons (vs_set (i := 3) sc__law_counting.nd rfl (.inl rfl) (ve_tupRg rfl rfl M.n_tuple (vr_1 rfl M.n_range (ve_bin os_add (ve_v 1) (ve_int)))) (.inl rfl)) (vss_one (vs_ret (ve_tup (va_l (ve_callT (os_tuple) rfl M.n_tuple (by decide +kernel) (va_p (ve_lc rfl sc__law_counting.nd (vi_sq (ve_v 0)) (own := [(("letter" : Str), 5)]) (blkOk_by (by rfl)) (fun _ _ _ _ _ => (vg_n (i := 5) sc__law_counting.nd rfl (.inl rfl) (.inr rfl)).p) (fun _ _ _ _ _ => vts_nil) (fun _ _ _ _ _ => ve_tup (va_l (ve_v 5) (va_l (ve_v 2) (va_nil))))) (va_nil))) (va_l (ve_v 3) (va_l (ve_bin os_add (ve_bin os_mul (ve_tup (va_l (ve_str) (va_nil))) (ve_v 1)) (ve_tup (va_l (ve_str) (va_nil)))) (va_nil))))))))
theorem ok__law_letters (M : Md P K mg) : FnV P w K mg base T 2 M.f__law_letters M.d__law_letters ["plan", "reads"] [] sp__law_letters := FnV.of (k := 1) M.F__law_letters sc__law_letters fun cdv A outer s H E hcv hr gd => by
  have hu := hu150 hr
  exact vss_cons (vs_set (i := 2) sc__law_letters.nd rfl (.inl rfl) (ve_lst (va_nil)) (.inl rfl)) (vss_cons (vs_for PassesOwn.leaving rfl (vi_sq (ve_v 1)) (vg_n (i := 3) sc__law_letters.nd rfl (.inl rfl) (.inl rfl)).p (vss_one (vs_drop (ve_extend (i := 2) rfl (by first | exact .inl rfl | exact .inr (.inl rfl) | exact .inr (.inr rfl)) (ve_ix (ve_call (ok__law_source M) (hr.mono (by decide)) gd rfl M.g__law_source M.k__law_source M.b__law_source (va_l (ve_v 0) (va_l (ve_v 3) (va_nil)))) (ve_int)))))) (vss_one (vs_ret (ve_callT (os_tuple) rfl M.n_tuple (by decide +kernel) (va_p (ve_sortS rfl hu rfl M.n_sorted (vks_set rfl rfl M.n_set (va_p (ve_v 2) (va_nil)))) (va_nil))))))
theorem ok__law_machine (M : Md P K mg) : FnV P w K mg base T 3 M.f__law_machine M.d__law_machine ["bag", "letters", "many", "outs"] [0] sp__law_machine := FnV.of (k := 2) M.F__law_machine sc__law_machine fun cdv A outer s H E hcv hr gd => by
  have hu := hu150 hr
  exact vss_cons (vs_set (i := 4) sc__law_machine.nd rfl (.inl rfl) (ve_lst (va_nil)) (.inl rfl)) (vss_cons (vs_for PassesOwn.leaving rfl (vi_sq (ve_bin os_add (ve_callT (os_list) rfl M.n_list (by decide +kernel) (va_p (ve_v 1) (va_nil))) (ve_lst (va_l (ve_str) (va_nil))))) (vg_n (i := 5) sc__law_machine.nd rfl (.inl rfl) (.inl rfl)).p (vss_cons (vs_set (i := 7) sc__law_machine.nd rfl (.inr rfl) (ve_lc rfl sc__law_machine.nd (vi_rg1 rfl M.n_range (ve_v 2)) (own := [(("state" : Str), 9)]) (blkOk_by (by rfl)) (fun _ _ _ _ _ => (vg_n (i := 9) sc__law_machine.nd rfl (.inl rfl) (.inr rfl)).p) (fun _ _ _ _ _ => vts_nil) (fun _ _ _ _ _ => ve_call (ok__law_take M) (hr.mono (by decide)) gd rfl M.g__law_take M.k__law_take M.b__law_take (va_p (ve_v 0) (va_l (ve_v 2) (va_nil))))) (.inl rfl)) (vss_cons (vs_set (i := 8) sc__law_machine.nd rfl (.inr rfl) (ve_or (ve_cmp (os_eq hu) (ve_call (ok__law_take M) (hr.mono (by decide)) gd rfl M.g__law_take M.k__law_take M.b__law_take (va_p (ve_v 0) (va_l (ve_int) (va_nil)))) (ve_int)) (ve_one (ve_and (ve_cmp (os_eq hu) (ve_v 5) (ve_str)) (ve_one (ve_cmp (os_gt hu) (ve_call (ok__law_take M) (hr.mono (by decide)) gd rfl M.g__law_take M.k__law_take M.b__law_take (va_p (ve_v 0) (va_l (ve_int) (va_nil)))) (ve_int)))))) (.inl rfl)) (vss_one (vs_drop (ve_append (i := 4) rfl (by first | exact .inl rfl | exact .inr (.inl rfl) | exact .inr (.inr rfl)) (ve_callT (os_tuple) rfl M.n_tuple (by decide +kernel) (va_p (ve_lc rfl sc__law_machine.nd (vi_rg1 rfl M.n_range (ve_v 2)) (own := [(("state" : Str), 9)]) (blkOk_by (by rfl)) (fun _ _ _ _ _ => (vg_n (i := 9) sc__law_machine.nd rfl (.inl rfl) (.inr rfl)).p) (fun _ _ _ _ _ => vts_nil) (fun _ _ _ _ _ => ve_if (VW.vt (vw_or (vt_tru (ve_v 8)) (vw_or1 (vt_cmp (os_eq hu) (ve_call (ok__law_take M) (hr.mono (by decide)) gd rfl M.g__law_take M.k__law_take M.b__law_take (va_p (ve_v 0) (va_l (ve_int) (va_nil)))) (ve_int))))) (ve_v 9) (ve_ix (ve_v 7) (ve_v 9)))) (va_nil))))))))) (vss_cons (vs_set (i := 6) sc__law_machine.nd rfl (.inl rfl) (ve_callT (os_tuple) rfl M.n_tuple (by decide +kernel) (va_p (ve_lc rfl sc__law_machine.nd (vi_zp rfl M.n_zip (ve_v 1) (ve_v 4)) (own := [(("letter" : Str), 5), (("row" : Str), 7)]) (blkOk_by (by rfl)) (fun _ _ _ _ _ => (vgt_t rfl (vgs_cons (vg_n (i := 5) sc__law_machine.nd rfl (.inl rfl) (.inr rfl)) (vgs_cons (vg_n (i := 7) sc__law_machine.nd rfl (.inl rfl) (.inr rfl)) (vgs_nil)))).p) (fun _ _ _ _ _ => vts_nil) (fun _ _ _ _ _ => ve_tup (va_l (ve_v 5) (va_l (ve_v 7) (va_nil))))) (va_nil))) (.inl rfl)) (vss_one (vs_ret (ve_tup (va_l (ve_v 6) (va_l (ve_ix (ve_v 4) (ve_un os_neg (ve_int))) (va_l (ve_callT (os_tuple) rfl M.n_tuple (by decide +kernel) (va_p (ve_lc rfl sc__law_machine.nd (vi_rg1 rfl M.n_range (ve_v 2)) (own := [(("state" : Str), 9)]) (blkOk_by (by rfl)) (fun _ _ _ _ _ => (vg_n (i := 9) sc__law_machine.nd rfl (.inl rfl) (.inr rfl)).p) (fun _ _ _ _ _ => vts_nil) (fun _ _ _ _ _ => ve_call (ok__law_some M) (hr.mono (by decide)) gd rfl M.g__law_some M.k__law_some M.b__law_some (va_p (ve_v 0) (va_l (ve_v 3) (va_nil))))) (va_nil))) (va_nil)))))))))
theorem ok__law_names (M : Md P K mg) : FnV P w K mg base T 1 M.f__law_names M.d__law_names ["plan"] [] sp__law_names := FnV.of (k := 0) M.F__law_names sc__law_names fun cdv A outer s H E hcv hr gd => by
  have hu := hu150 hr
  exact vss_one (vs_ret (ve_lc rfl sc__law_names.nd (vi_sq (ve_ix (ve_v 0) (ve_int))) (own := [(("source" : Str), 1)]) (blkOk_by (by rfl)) (fun _ _ _ _ _ => (vg_n (i := 1) sc__law_names.nd rfl (.inl rfl) (.inr rfl)).p) (fun _ _ _ _ _ => vts_nil) (fun _ _ _ _ _ => ve_ix (ve_v 1) (ve_int))))
theorem ok__law_promises_drawn (M : Md P K mg) : FnV P w K mg base T 3 M.f__law_promises_drawn M.d__law_promises_drawn ["bag", "many", "most"] [0] sp__law_promises_drawn := FnV.of (k := 2) M.F__law_promises_drawn sc__law_promises_drawn fun cdv A outer s H E hcv hr gd => by
  have hu := hu150 hr
  exact vss_cons (vs_parN (is := [4, 5]) rfl (.cons sc__law_promises_drawn.nd rfl (.inr rfl) (.inl rfl) rfl (.cons sc__law_promises_drawn.nd rfl (.inl rfl) (.inl rfl) rfl .nil)) (vo_cons' (ve_call (ok__law_some M) (hr.mono (by decide)) gd rfl M.g__law_some M.k__law_some M.b__law_some (va_p (ve_v 0) (va_l (ve_lst (va_l (ve_int) (va_l (ve_int) (va_l (ve_int) (va_nil))))) (va_nil)))) (vo_cons' (ve_lst (va_nil)) (vo_nil'))) rfl) (vss_cons (vs_for PassesOwn.leaving rfl (vi_rg1 rfl M.n_range (ve_v 1)) (vg_n (i := 3) sc__law_promises_drawn.nd rfl (.inl rfl) (.inl rfl)).p (vss_one (vs_drop (ve_append (i := 5) rfl (by first | exact .inl rfl | exact .inr (.inl rfl) | exact .inr (.inr rfl)) (ve_callT (os_tuple) rfl M.n_tuple (by decide +kernel) (va_p (ve_lc rfl sc__law_promises_drawn.nd (vi_rg1 rfl M.n_range (ve_v 1)) (own := [(("other" : Str), 6)]) (blkOk_by (by rfl)) (fun _ _ _ _ _ => (vg_n (i := 6) sc__law_promises_drawn.nd rfl (.inl rfl) (.inr rfl)).p) (fun _ _ _ _ _ => vts_nil) (fun _ _ _ _ _ => ve_if (vt_cmp (os_eq hu) (ve_call (ok__law_take M) (hr.mono (by decide)) gd rfl M.g__law_take M.k__law_take M.b__law_take (va_p (ve_v 0) (va_l (ve_v 4) (va_nil)))) (ve_int)) (ve_int) (ve_bin os_add (ve_int) (ve_call (ok__law_take M) (hr.mono (by decide)) gd rfl M.g__law_take M.k__law_take M.b__law_take (va_p (ve_v 0) (va_l (ve_v 2) (va_nil))))))) (va_nil))))))) (vss_one (vs_ret (ve_callT (os_tuple) rfl M.n_tuple (by decide +kernel) (va_p (ve_v 5) (va_nil))))))
theorem ok__law_mixed (M : Md P K mg) : FnV P w K mg base T 2 M.f__law_mixed M.d__law_mixed ["bag", "things"] [0] sp__law_mixed := FnV.of (k := 1) M.F__law_mixed sc__law_mixed fun cdv A outer s H E hcv hr gd => by
  have hu := hu150 hr
  exact vss_cons (vs_par (i := 2) (j := 3) rfl sc__law_mixed.nd rfl rfl (by decide) rfl rfl (ve_callT (os_list) rfl M.n_list (by decide +kernel) (va_p (ve_v 1) (va_nil))) (ve_lst (va_nil))) (vss_cons (vs_while PassesOwn.leaving (vt_cmp (os_ne hu) (ve_v 2) (ve_lst (va_nil))) (vss_one (vs_drop (ve_append (i := 3) rfl (by first | exact .inl rfl | exact .inr (.inl rfl) | exact .inr (.inr rfl)) (ve_popAt (i := 2) rfl (by first | exact .inl rfl | exact .inr (.inl rfl) | exact .inr (.inr rfl)) (ve_call (ok__law_take M) (hr.mono (by decide)) gd rfl M.g__law_take M.k__law_take M.b__law_take (va_p (ve_v 0) (va_l (ve_callB (os_len) rfl M.n_len (by decide +kernel) (va_p (ve_v 2) (va_nil))) (va_nil))))))))) (vss_one (vs_ret (ve_v 3))))
theorem ok__law_some_names (M : Md P K mg) : FnV P w K mg base T 3 M.f__law_some_names M.d__law_some_names ["bag", "names", "many"] [0] sp__law_some_names := FnV.of (k := 2) M.F__law_some_names sc__law_some_names fun cdv A outer s H E hcv hr gd => by
  have hu := hu150 hr
  exact vss_one (vs_ret (ve_callT (os_tuple) rfl M.n_tuple (by decide +kernel) (va_p (ve_callB (os_sorted hu) rfl M.n_sorted (by decide +kernel) (va_p (ve_sl (ve_call (ok__law_mixed M) (hr.mono (by decide)) gd rfl M.g__law_mixed M.k__law_mixed M.b__law_mixed (va_p (ve_v 0) (va_l (ve_v 1) (va_nil)))) (vo_none) (vo_some (ve_v 2))) (va_nil))) (va_nil))))
theorem ok__law_sources_drawn (M : Md P K mg) : FnV P w K mg base T 4 M.f__law_sources_drawn M.d__law_sources_drawn ["bag", "many", "rate", "letters"] [0] sp__law_sources_drawn := FnV.of (k := 3) M.F__law_sources_drawn sc__law_sources_drawn fun cdv A outer s H E hcv hr gd => by
  have hu := hu150 hr
  exact vss_cons (vs_set (i := 4) sc__law_sources_drawn.nd rfl (.inl rfl) (ve_lst (va_nil)) (.inl rfl)) (vss_cons (vs_for PassesOwn.leaving rfl (vi_sq (ve_call (ok__law_some_names M) (hr.mono (by decide)) gd rfl M.g__law_some_names M.k__law_some_names M.b__law_some_names (va_p (ve_v 0) (va_l (ve_lst (va_l (ve_str) (va_l (ve_str) (va_l (ve_str) (va_l (ve_str) (va_l (ve_str) (va_l (ve_str) (va_l (ve_str) (va_nil))))))))) (va_l (ve_v 1) (va_nil)))))) (vg_n (i := 5) sc__law_sources_drawn.nd rfl (.inl rfl) (.inl rfl)).p (vss_cons (vs_set (i := 6) sc__law_sources_drawn.nd rfl (.inl rfl) (ve_call (ok__law_some_names M) (hr.mono (by decide)) gd rfl M.g__law_some_names M.k__law_some_names M.b__law_some_names (va_p (ve_v 0) (va_l (ve_lst (va_l (ve_str) (va_l (ve_str) (va_l (ve_str) (va_l (ve_str) (va_l (ve_str) (va_nil))))))) (va_l (ve_bin os_add (ve_int) (ve_call (ok__law_take M) (hr.mono (by decide)) gd rfl M.g__law_take M.k__law_take M.b__law_take (va_p (ve_v 0) (va_l (ve_v 3) (va_nil))))) (va_nil))))) (.inl rfl)) (vss_one (vs_drop (ve_append (i := 4) rfl (by first | exact .inl rfl | exact .inr (.inl rfl) | exact .inr (.inr rfl)) (ve_tup (va_l (ve_v 5) (va_l (ve_bin os_add (ve_int) (ve_call (ok__law_take M) (hr.mono (by decide)) gd rfl M.g__law_take M.k__law_take M.b__law_take (va_p (ve_v 0) (va_l (ve_v 2) (va_nil))))) (va_l (ve_v 6) (va_nil)))))))))) (vss_one (vs_ret (ve_callT (os_tuple) rfl M.n_tuple (by decide +kernel) (va_p (ve_v 4) (va_nil))))))
theorem ok__law_plan (M : Md P K mg) : FnV P w K mg base T 5 M.f__law_plan M.d__law_plan ["bag", "sources", "figures", "size"] [0] sp__law_plan := FnV.of (k := 4) M.F__law_plan sc__law_plan fun cdv A outer s H E hcv hr gd => by
  have hu := hu150 hr
  exact vss_cons (vs_set (i := 4) sc__law_plan.nd rfl (.inl rfl) (ve_call (ok__law_sources_drawn M) (hr.mono (by decide)) gd rfl M.g__law_sources_drawn M.k__law_sources_drawn M.b__law_sources_drawn (va_p (ve_v 0) (va_l (ve_v 1) (va_l (ve_call (ok__law_some M) (hr.mono (by decide)) gd rfl M.g__law_some M.k__law_some M.b__law_some (va_p (ve_v 0) (va_l (ve_lst (va_l (ve_int) (va_l (ve_int) (va_nil)))) (va_nil)))) (va_l (ve_int) (va_nil)))))) (.inl rfl)) (vss_cons (vs_set (i := 5) sc__law_plan.nd rfl (.inl rfl) (ve_tup (va_l (ve_v 4) (va_l (ve_call (ok__law_promises_drawn M) (hr.mono (by decide)) gd rfl M.g__law_promises_drawn M.k__law_promises_drawn M.b__law_promises_drawn (va_p (ve_v 0) (va_l (ve_v 1) (va_l (ve_call (ok__law_some M) (hr.mono (by decide)) gd rfl M.g__law_some M.k__law_some M.b__law_some (va_p (ve_v 0) (va_l (ve_lst (va_l (ve_int) (va_l (ve_int) (va_l (ve_int) (va_nil))))) (va_nil)))) (va_nil))))) (va_l (ve_tup (va_nil)) (va_nil))))) (.inl rfl)) (vss_cons (vs_set (i := 6) sc__law_plan.nd rfl (.inl rfl) (ve_lst (va_nil)) (.inl rfl)) (vss_cons (vs_for PassesOwn.leaving rfl (vi_sq (ve_call (ok__law_some_names M) (hr.mono (by decide)) gd rfl M.g__law_some_names M.k__law_some_names M.b__law_some_names (va_p (ve_v 0) (va_l (ve_lst (va_l (ve_str) (va_l (ve_str) (va_l (ve_str) (va_l (ve_str) (va_nil)))))) (va_l (ve_v 2) (va_nil)))))) (vg_n (i := 7) sc__law_plan.nd rfl (.inl rfl) (.inl rfl)).p (vss_cons (vs_set (i := 8) sc__law_plan.nd rfl (.inl rfl) (ve_call (ok__law_some_names M) (hr.mono (by decide)) gd rfl M.g__law_some_names M.k__law_some_names M.b__law_some_names (va_p (ve_v 0) (va_l (ve_call (ok__law_names M) (hr.mono (by decide)) gd rfl M.g__law_names M.k__law_names M.b__law_names (va_l (ve_v 5) (va_nil))) (va_l (ve_bin os_add (ve_int) (ve_call (ok__law_take M) (hr.mono (by decide)) gd rfl M.g__law_take M.k__law_take M.b__law_take (va_p (ve_v 0) (va_l (ve_v 1) (va_nil))))) (va_nil))))) (.inl rfl)) (vss_cons (vs_par (i := 10) (j := 11) rfl sc__law_plan.nd rfl rfl (by decide) rfl rfl (ve_call (ok__law_letters M) (hr.mono (by decide)) gd rfl M.g__law_letters M.k__law_letters M.b__law_letters (va_l (ve_v 5) (va_l (ve_v 8) (va_nil)))) (ve_bin os_add (ve_int) (ve_call (ok__law_take M) (hr.mono (by decide)) gd rfl M.g__law_take M.k__law_take M.b__law_take (va_p (ve_v 0) (va_l (ve_int) (va_nil)))))) (vss_cons (vs_set (i := 9) sc__law_plan.nd rfl (.inl rfl) (ve_call (ok__law_machine M) (hr.mono (by decide)) gd rfl M.g__law_machine M.k__law_machine M.b__law_machine (va_p (ve_v 0) (va_l (ve_v 10) (va_l (ve_v 11) (va_l (ve_lst (va_l (ve_str) (va_l (ve_str) (va_l (ve_str) (va_l (ve_str) (va_nil)))))) (va_nil)))))) (.inl rfl)) (vss_cons (vs_set (i := 9) sc__law_plan.nd rfl (.inl rfl) (ve_if (vt_cmp (os_eq hu) (ve_call (ok__law_take M) (hr.mono (by decide)) gd rfl M.g__law_take M.k__law_take M.b__law_take (va_p (ve_v 0) (va_l (ve_int) (va_nil)))) (ve_int)) (ve_call (ok__law_counting M) (hr.mono (by decide)) gd rfl M.g__law_counting M.k__law_counting M.b__law_counting (va_l (ve_v 10) (va_l (ve_v 11) (va_nil)))) (ve_v 9)) (.inl rfl)) (vss_one (vs_drop (ve_append (i := 6) rfl (by first | exact .inl rfl | exact .inr (.inl rfl) | exact .inr (.inr rfl)) (ve_tup (va_l (ve_v 7) (va_l (ve_v 8) (va_l (ve_bin os_add (ve_int) (ve_call (ok__law_take M) (hr.mono (by decide)) gd rfl M.g__law_take M.k__law_take M.b__law_take (va_p (ve_v 0) (va_l (ve_v 3) (va_nil))))) (va_l (ve_bin os_add (ve_int) (ve_call (ok__law_take M) (hr.mono (by decide)) gd rfl M.g__law_take M.k__law_take M.b__law_take (va_p (ve_v 0) (va_l (ve_v 3) (va_nil))))) (va_l (ve_v 9) (va_nil))))))))))))))) (vss_one (vs_ret (ve_tup (va_l (ve_ix (ve_v 5) (ve_int)) (va_l (ve_ix (ve_v 5) (ve_int)) (va_l (ve_callT (os_tuple) rfl M.n_tuple (by decide +kernel) (va_p (ve_v 6) (va_nil))) (va_nil))))))))))
theorem ok__law_step (M : Md P K mg) : FnV P w K mg base T 1 M.f__law_step M.d__law_step ["machine", "state", "letter"] [] sp__law_step := FnV.of (k := 0) M.F__law_step sc__law_step fun cdv A outer s H E hcv hr gd => by
  have hu := hu150 hr
  exact vss_one (vs_ret (ve_ix (ve_ix (ve_lc rfl sc__law_step.nd (vi_sq (ve_ix (ve_v 0) (ve_int))) (own := [(("one" : Str), 3), (("states" : Str), 4)]) (blkOk_by (by rfl)) (fun _ _ _ _ _ => (vgt_t rfl (vgs_cons (vg_n (i := 3) sc__law_step.nd rfl (.inl rfl) (.inr rfl)) (vgs_cons (vg_n (i := 4) sc__law_step.nd rfl (.inl rfl) (.inr rfl)) (vgs_nil)))).p) (fun _ _ _ _ _ => vts_one (vt_cmp (os_eq hu) (ve_v 3) (ve_v 2))) (fun _ _ _ _ _ => ve_v 4)) (ve_int)) (ve_v 1)))
theorem ok__law_ways (M : Md P K mg) : FnV P w K mg base T 2 M.f__law_ways M.d__law_ways ["plan", "source", "kind"] [] sp__law_ways := FnV.of (k := 1) M.F__law_ways sc__law_ways fun cdv A outer s H E hcv hr gd => by
  have hu := hu150 hr
  exact vss_one (vs_ret (ve_if (vt_cmp (os_eq hu) (ve_v 2) (ve_str)) (ve_bin os_add (ve_callT (os_list) rfl M.n_list (by decide +kernel) (va_p (ve_ix (ve_call (ok__law_source M) (hr.mono (by decide)) gd rfl M.g__law_source M.k__law_source M.b__law_source (va_l (ve_v 0) (va_l (ve_v 1) (va_nil)))) (ve_int)) (va_nil))) (ve_lst (va_l (ve_str) (va_nil)))) (ve_lst (va_l (ve_v 2) (va_nil)))))
theorem ok__law_sets (M : Md P K mg) : FnV P w K mg base T 3 M.f__law_sets M.d__law_sets ["plan", "name", "row"] [] sp__law_sets := FnV.of (k := 2) M.F__law_sets sc__law_sets fun cdv A outer s H E hcv hr gd => by
  have hu := hu150 hr
  exact vss_cons (vs_parN (is := [4, 5, 6, 7]) rfl (.cons sc__law_sets.nd rfl (.inr rfl) (.inl rfl) rfl (.cons sc__law_sets.nd rfl (.inl rfl) (.inl rfl) rfl (.cons sc__law_sets.nd rfl (.inl rfl) (.inl rfl) rfl (.cons sc__law_sets.nd rfl (.inl rfl) (.inl rfl) rfl .nil)))) (vo_cons' (ve_ix (ve_call (ok__law_figure M) (hr.mono (by decide)) gd rfl M.g__law_figure M.k__law_figure M.b__law_figure (va_l (ve_v 0) (va_l (ve_v 1) (va_nil)))) (ve_int)) (vo_cons' (ve_lst (va_l (ve_int) (va_nil))) (vo_cons' (ve_callT (os_list) rfl M.n_list (by decide +kernel) (va_p (ve_v 2) (va_nil))) (vo_cons' (ve_lst (va_l (ve_tup (va_l (ve_int) (va_nil))) (va_nil))) (vo_nil'))))) rfl) (vss_cons (vs_for PassesOwn.leaving rfl (vi_sq (ve_call (ok__law_reading M) (hr.mono (by decide)) gd rfl M.g__law_reading M.k__law_reading M.b__law_reading (va_l (ve_v 0) (va_l (ve_v 1) (va_nil))))) (vg_n (i := 3) sc__law_sets.nd rfl (.inl rfl) (.inl rfl)).p (vss_cons (vs_if (vt_cmp (os_eq hu) (ve_v 3) (ve_str)) (vss_one (vs_setLc (i := 8) rfl sc__law_sets.nd rfl rfl (sw_true rfl rfl rfl rfl) (vi_sq (ve_v 5)) (own := [(("state" : Str), 11)]) (blkOk_by (by rfl)) (fun _ _ _ _ _ => (vg_n (i := 11) sc__law_sets.nd rfl (.inl rfl) (.inr rfl)).p) (fun _ _ _ _ _ => vts_nil) (fun _ _ _ _ _ => ve_ix (ve_ix (ve_v 4) (ve_int)) (ve_v 11)))) (vss_cons (vs_par (i := 10) (j := 8) rfl sc__law_sets.nd rfl rfl (by decide) rfl rfl (ve_popAt (i := 6) rfl (by first | exact .inl rfl | exact .inr (.inl rfl) | exact .inr (.inr rfl)) (ve_int)) (ve_lst (va_nil))) (vss_one (vs_for PassesOwn.leaving rfl (vi_sq (ve_call (ok__law_ways M) (hr.mono (by decide)) gd rfl M.g__law_ways M.k__law_ways M.b__law_ways (va_l (ve_v 0) (va_l (ve_v 3) (va_l (ve_v 10) (va_nil)))))) (vg_n (i := 9) sc__law_sets.nd rfl (.inr rfl) (.inl rfl)).p (vss_one (vs_drop (ve_extend (i := 8) rfl (by first | exact .inl rfl | exact .inr (.inl rfl) | exact .inr (.inr rfl)) (ve_lc rfl sc__law_sets.nd (vi_sq (ve_v 5)) (own := [(("state" : Str), 11)]) (blkOk_by (by rfl)) (fun _ _ _ _ _ => (vg_n (i := 11) sc__law_sets.nd rfl (.inl rfl) (.inr rfl)).p) (fun _ _ _ _ _ => vts_nil) (fun _ _ _ _ _ => ve_if (vt_cmp (os_eq hu) (ve_v 9) (ve_str)) (ve_v 11) (ve_call (ok__law_step M) (hr.mono (by decide)) gd rfl M.g__law_step M.k__law_step M.b__law_step (va_l (ve_v 4) (va_l (ve_v 11) (va_l (ve_v 9) (va_nil)))))))))))))) (vss_cons (vs_set (i := 5) sc__law_sets.nd rfl (.inl rfl) (ve_sortS rfl hu rfl M.n_sorted (vks_set rfl rfl M.n_set (va_p (ve_v 8) (va_nil)))) (.inl rfl)) (vss_one (vs_drop (ve_append (i := 7) rfl (by first | exact .inl rfl | exact .inr (.inl rfl) | exact .inr (.inr rfl)) (ve_callT (os_tuple) rfl M.n_tuple (by decide +kernel) (va_p (ve_v 5) (va_nil))))))))) (vss_one (vs_ret (ve_callT (os_tuple) rfl M.n_tuple (by decide +kernel) (va_p (ve_v 7) (va_nil))))))
theorem ok_figure_names (M : Md P K mg) : FnV P w K mg base T 1 M.f_figure_names M.d_figure_names ["plan"] [] sp_figure_names := FnV.of (k := 0) M.F_figure_names sc_figure_names fun cdv A outer s H E hcv hr gd => by
  have hu := hu150 hr
  exact vss_one (vs_ret (ve_callT (os_tuple) rfl M.n_tuple (by decide +kernel) (va_p (ve_lc rfl sc_figure_names.nd (vi_sq (ve_ix (ve_v 0) (ve_int))) (own := [(("figure" : Str), 1)]) (blkOk_by (by rfl)) (fun _ _ _ _ _ => (vg_n (i := 1) sc_figure_names.nd rfl (.inl rfl) (.inr rfl)).p) (fun _ _ _ _ _ => vts_nil) (fun _ _ _ _ _ => ve_ix (ve_v 1) (ve_int))) (va_nil))))
theorem ok_figure_index (M : Md P K mg) : FnV P w K mg base T 3 M.f_figure_index M.d_figure_index ["plan", "name"] [] sp_figure_index := FnV.of (k := 2) M.F_figure_index sc_figure_index fun cdv A outer s H E hcv hr gd => by
  have hu := hu150 hr
  exact vss_cons (vs_set (i := 2) sc_figure_index.nd rfl (.inl rfl) (ve_call (ok_figure_names M) (hr.mono (by decide)) gd rfl M.g_figure_names M.k_figure_names M.b_figure_names (va_l (ve_v 0) (va_nil))) (.inl rfl)) (vss_cons (vs_if (vt_cmp (os_notIn hu) (ve_v 1) (ve_v 2)) (vss_one (vs_raiseM M.r_NoFigure rfl (hr.mono (by decide)) rfl M.x_NoFigure.mg (va_l (ve_v 1) (va_nil)) (by decide))) (vss_nil)) (vss_one (vs_ret (ve_meth PySem.F.plainAttrs_tuple PySem.F.slot_tuple_index PySem.F.type_tuple_index (os_indexT hu) (ve_v 2) (va_p (ve_v 1) (va_nil))))))
theorem ok_figure_of (M : Md P K mg) : FnV P w K mg base T 4 M.f_figure_of M.d_figure_of ["plan", "name"] [] sp_figure_of := FnV.of (k := 3) M.F_figure_of sc_figure_of fun cdv A outer s H E hcv hr gd => by
  have hu := hu150 hr
  exact vss_one (vs_ret (ve_ix (ve_ix (ve_v 0) (ve_int)) (ve_call (ok_figure_index M) (hr.mono (by decide)) gd rfl M.g_figure_index M.k_figure_index M.b_figure_index (va_l (ve_v 0) (va_l (ve_v 1) (va_nil))))))
theorem ok_joined_letters (M : Md P K mg) : FnV P w K mg base T 1 M.f_joined_letters M.d_joined_letters ["sources", "names"] [] sp_joined_letters := FnV.of (k := 0) M.F_joined_letters sc_joined_letters fun cdv A outer s H E hcv hr gd => by
  have hu := hu150 hr
  exact vss_cons (vs_set (i := 2) sc_joined_letters.nd rfl (.inl rfl) (ve_lst (va_nil)) (.inl rfl)) (vss_cons (vs_for PassesOwn.leaving rfl (vi_sq (ve_v 0)) (vgt_t rfl (vgs_cons (vg_n (i := 3) sc_joined_letters.nd rfl (.inl rfl) (.inl rfl)) (vgs_cons (vg_n (i := 4) sc_joined_letters.nd rfl (.inl rfl) (.inl rfl)) (vgs_cons (vg_n (i := 5) sc_joined_letters.nd rfl (.inl rfl) (.inl rfl)) (vgs_nil))))).p (vss_one (vs_drop (ve_extend (i := 2) rfl (by first | exact .inl rfl | exact .inr (.inl rfl) | exact .inr (.inr rfl)) (ve_if (vt_cmp (os_in hu) (ve_v 3) (ve_v 1)) (ve_v 5) (ve_tup (va_nil))))))) (vss_one (vs_ret (ve_callT (os_tuple) rfl M.n_tuple (by decide +kernel) (va_p (ve_sortS rfl hu rfl M.n_sorted (vks_sc rfl sc_joined_letters.nd (vi_sq (ve_v 2)) (own := [(("letter" : Str), 6)]) (blkOk_by (by rfl)) (fun _ _ _ _ _ => (vg_n (i := 6) sc_joined_letters.nd rfl (.inl rfl) (.inr rfl)).p) (fun _ _ _ _ _ => vts_nil) (fun _ _ _ _ _ => ve_v 6))) (va_nil))))))
theorem ok_source_names (M : Md P K mg) : FnV P w K mg base T 1 M.f_source_names M.d_source_names ["plan"] [] sp_source_names := FnV.of (k := 0) M.F_source_names sc_source_names fun cdv A outer s H E hcv hr gd => by
  have hu := hu150 hr
  exact vss_one (vs_ret (ve_callT (os_tuple) rfl M.n_tuple (by decide +kernel) (va_p (ve_lc rfl sc_source_names.nd (vi_sq (ve_ix (ve_v 0) (ve_int))) (own := [(("source" : Str), 1)]) (blkOk_by (by rfl)) (fun _ _ _ _ _ => (vg_n (i := 1) sc_source_names.nd rfl (.inl rfl) (.inr rfl)).p) (fun _ _ _ _ _ => vts_nil) (fun _ _ _ _ _ => ve_ix (ve_v 1) (ve_int))) (va_nil))))
theorem ok_source_index (M : Md P K mg) : FnV P w K mg base T 3 M.f_source_index M.d_source_index ["plan", "name"] [] sp_source_index := FnV.of (k := 2) M.F_source_index sc_source_index fun cdv A outer s H E hcv hr gd => by
  have hu := hu150 hr
  exact vss_cons (vs_set (i := 2) sc_source_index.nd rfl (.inl rfl) (ve_call (ok_source_names M) (hr.mono (by decide)) gd rfl M.g_source_names M.k_source_names M.b_source_names (va_l (ve_v 0) (va_nil))) (.inl rfl)) (vss_cons (vs_if (vt_cmp (os_notIn hu) (ve_v 1) (ve_v 2)) (vss_one (vs_raiseM M.r_NoSource rfl (hr.mono (by decide)) rfl M.x_NoSource.mg (va_l (ve_v 1) (va_nil)) (by decide))) (vss_nil)) (vss_one (vs_ret (ve_meth PySem.F.plainAttrs_tuple PySem.F.slot_tuple_index PySem.F.type_tuple_index (os_indexT hu) (ve_v 2) (va_p (ve_v 1) (va_nil))))))
theorem ok_letters_of (M : Md P K mg) : FnV P w K mg base T 4 M.f_letters_of M.d_letters_of ["plan", "names"] [] sp_letters_of := FnV.of (k := 3) M.F_letters_of sc_letters_of fun cdv A outer s H E hcv hr gd => by
  have hu := hu150 hr
  exact vss_cons (vs_for PassesOwn.leaving rfl (vi_sq (ve_v 1)) (vg_n (i := 2) sc_letters_of.nd rfl (.inl rfl) (.inl rfl)).p (vss_one (vs_drop (ve_call (ok_source_index M) (hr.mono (by decide)) gd rfl M.g_source_index M.k_source_index M.b_source_index (va_l (ve_v 0) (va_l (ve_v 2) (va_nil))))))) (vss_one (vs_ret (ve_call (ok_joined_letters M) (hr.mono (by decide)) gd rfl M.g_joined_letters M.k_joined_letters M.b_joined_letters (va_l (ve_ix (ve_v 0) (ve_int)) (va_l (ve_v 1) (va_nil))))))
theorem ok_is_row (M : Md P K mg) : FnV P w K mg base T 5 M.f_is_row M.d_is_row ["plan", "sources", "thing"] [] sp_is_row := FnV.of (k := 4) M.F_is_row sc_is_row fun cdv A outer s H E hcv hr gd => by
  have hu := hu150 hr
  exact vss_cons (vs_if (VW.vt (vw_or (vt_not (vt_tru (ve_isi (T := "tuple") rfl (ve_v 2) rfl M.n_isinstance rfl M.n_tuple (by decide +kernel)))) (vw_or1 (vt_cmp (os_ne hu) (ve_callB (os_len) rfl M.n_len (by decide +kernel) (va_p (ve_v 2) (va_nil))) (ve_callB (os_len) rfl M.n_len (by decide +kernel) (va_p (ve_v 1) (va_nil))))))) (vss_one (vs_ret (ve_bl))) (vss_nil)) (vss_cons (vs_setLc (i := 3) rfl sc_is_row.nd rfl rfl (sw_true rfl rfl rfl rfl) (vi_zp rfl M.n_zip (ve_v 2) (ve_v 1)) (own := [(("one" : Str), 4), (("it" : Str), 5)]) (blkOk_by (by rfl)) (fun _ _ _ _ _ => (vgt_t rfl (vgs_cons (vg_n (i := 4) sc_is_row.nd rfl (.inl rfl) (.inr rfl)) (vgs_cons (vg_n (i := 5) sc_is_row.nd rfl (.inl rfl) (.inr rfl)) (vgs_nil)))).p) (fun _ _ _ _ _ => vts_nil) (fun _ _ _ _ _ => ve_and (ve_isi (T := "str") rfl (ve_v 4) rfl M.n_isinstance rfl M.n_str (by decide +kernel)) (ve_one (ve_cmp (os_in hu) (ve_v 4) (ve_tup (va_l (ve_gS rfl M.c_OPEN) (va_l (ve_gS rfl M.c_EMPTY) (va_s (ve_call (ok_letters_of M) (hr.mono (by decide)) gd rfl M.g_letters_of M.k_letters_of M.b_letters_of (va_l (ve_v 0) (va_l (ve_tup (va_l (ve_v 5) (va_nil))) (va_nil)))) (va_nil))))))))) (vss_one (vs_ret (ve_callB (os_all rfl) rfl M.n_all (by decide +kernel) (va_p (ve_v 3) (va_nil))))))
theorem ok_parts_of (M : Md P K mg) : FnV P w K mg base T 5 M.f_parts_of M.d_parts_of ["plan", "figure"] [] sp_parts_of := FnV.of (k := 4) M.F_parts_of sc_parts_of fun cdv A outer s H E hcv hr gd => by
  have hu := hu150 hr
  exact vss_cons (vs_tup (ve_call (ok_figure_of M) (hr.mono (by decide)) gd rfl M.g_figure_of M.k_figure_of M.b_figure_of (va_l (ve_v 0) (va_l (ve_v 1) (va_nil)))) (vgt_t rfl (vgs_cons (vg_n (i := 3) sc_parts_of.nd rfl (.inl rfl) (.inl rfl)) (vgs_cons (vg_n (i := 4) sc_parts_of.nd rfl (.inl rfl) (.inl rfl)) (vgs_cons (vg_n (i := 5) sc_parts_of.nd rfl (.inl rfl) (.inl rfl)) (vgs_cons (vg_n (i := 6) sc_parts_of.nd rfl (.inl rfl) (.inl rfl)) (vgs_cons (vg_n (i := 7) sc_parts_of.nd rfl (.inl rfl) (.inl rfl)) (vgs_nil)))))))) (vss_cons (vs_set (i := 2) sc_parts_of.nd rfl (.inl rfl) (ve_lst (va_nil)) (.inl rfl)) (vss_cons (vs_for PassesOwn.leaving rfl (vi_sq (ve_ix (ve_v 0) (ve_int))) (vgt_t rfl (vgs_cons (vg_n (i := 8) sc_parts_of.nd rfl (.inl rfl) (.inl rfl)) (vgs_cons (vg_n (i := 9) sc_parts_of.nd rfl (.inl rfl) (.inl rfl)) (vgs_cons (vg_n (i := 10) sc_parts_of.nd rfl (.inl rfl) (.inl rfl)) (vgs_nil))))).p (vss_one (vs_drop (ve_extend (i := 2) rfl (by first | exact .inl rfl | exact .inr (.inl rfl) | exact .inr (.inr rfl)) (ve_if (vt_cmp (os_in hu) (ve_v 8) (ve_v 4)) (ve_bin os_mul (ve_lst (va_l (ve_v 8) (va_nil))) (ve_v 9)) (ve_lst (va_nil))))))) (vss_one (vs_ret (ve_bin os_mul (ve_tup (va_s (ve_v 2) (va_l (ve_gS rfl M.c_TICK) (va_nil)))) (ve_v 5))))))
theorem ok_slot_sources (M : Md P K mg) : FnV P w K mg base T 6 M.f_slot_sources M.d_slot_sources ["plan", "figure"] [] sp_slot_sources := FnV.of (k := 5) M.F_slot_sources sc_slot_sources fun cdv A outer s H E hcv hr gd => by
  have hu := hu150 hr
  exact vss_one (vs_ret (ve_callT (os_tuple) rfl M.n_tuple (by decide +kernel) (va_p (ve_lc rfl sc_slot_sources.nd (vi_sq (ve_call (ok_parts_of M) (hr.mono (by decide)) gd rfl M.g_parts_of M.k_parts_of M.b_parts_of (va_l (ve_v 0) (va_l (ve_v 1) (va_nil))))) (own := [(("part" : Str), 2)]) (blkOk_by (by rfl)) (fun _ _ _ _ _ => (vg_n (i := 2) sc_slot_sources.nd rfl (.inl rfl) (.inr rfl)).p) (fun _ _ _ _ _ => vts_one (vt_cmp (os_ne hu) (ve_v 2) (ve_gS rfl M.c_TICK))) (fun _ _ _ _ _ => ve_v 2)) (va_nil))))
theorem ok_need_row (M : Md P K mg) : FnV P w K mg base T 7 M.f_need_row M.d_need_row ["plan", "figure", "row"] [] sp_need_row := FnV.of (k := 6) M.F_need_row sc_need_row fun cdv A outer s H E hcv hr gd => by
  have hu := hu150 hr
  exact vss_one (vs_if (vt_not (vt_tru (ve_call (ok_is_row M) (hr.mono (by decide)) gd rfl M.g_is_row M.k_is_row M.b_is_row (va_l (ve_v 0) (va_l (ve_call (ok_slot_sources M) (hr.mono (by decide)) gd rfl M.g_slot_sources M.k_slot_sources M.b_slot_sources (va_l (ve_v 0) (va_l (ve_v 1) (va_nil)))) (va_l (ve_v 2) (va_nil))))))) (vss_one (vs_raiseM M.r_Refused rfl (hr.mono (by decide)) rfl M.x_Refused.mg (va_l (ve_str) (va_nil)) (by decide))) (vss_nil))
theorem ok_stepped (M : Md P K mg) : FnV P w K mg base T 3 M.f_stepped M.d_stepped ["machine", "state", "letter"] [] sp_stepped := FnV.of (k := 2) M.F_stepped sc_stepped fun cdv A outer s H E hcv hr gd => by
  have hu := hu150 hr
  exact vss_cons (vs_for PassesOwn.leaving rfl (vi_sq (ve_ix (ve_v 0) (ve_int))) (vgt_t rfl (vgs_cons (vg_n (i := 3) sc_stepped.nd rfl (.inl rfl) (.inl rfl)) (vgs_cons (vg_n (i := 4) sc_stepped.nd rfl (.inl rfl) (.inl rfl)) (vgs_nil)))).p (vss_one (vs_if (vt_cmp (os_eq hu) (ve_v 3) (ve_v 2)) (vss_one (vs_ret (ve_ix (ve_v 4) (ve_v 1)))) (vss_nil)))) (vss_one (vs_raiseM M.r_Refused rfl (hr.mono (by decide)) rfl M.x_Refused.mg (va_l (ve_str) (va_nil)) (by decide)))
theorem ok_ticked (M : Md P K mg) : FnV P w K mg base T 1 M.f_ticked M.d_ticked ["machine", "state"] [] sp_ticked := FnV.of (k := 0) M.F_ticked sc_ticked fun cdv A outer s H E hcv hr gd => by
  have hu := hu150 hr
  exact vss_one (vs_ret (ve_ix (ve_ix (ve_v 0) (ve_int)) (ve_v 1)))
theorem ok_gone (M : Md P K mg) : FnV P w K mg base T 4 M.f_gone M.d_gone ["machine", "state", "way"] [] sp_gone := FnV.of (k := 3) M.F_gone sc_gone fun cdv A outer s H E hcv hr gd => by
  have hu := hu150 hr
  exact vss_cons (vs_if (vt_cmp (os_eq hu) (ve_v 2) (ve_gS rfl M.c_TICK)) (vss_one (vs_ret (ve_call (ok_ticked M) (hr.mono (by decide)) gd rfl M.g_ticked M.k_ticked M.b_ticked (va_l (ve_v 0) (va_l (ve_v 1) (va_nil)))))) (vss_nil)) (vss_one (vs_ret (ve_if (vt_cmp (os_eq hu) (ve_v 2) (ve_gS rfl M.c_EMPTY)) (ve_v 1) (ve_call (ok_stepped M) (hr.mono (by decide)) gd rfl M.g_stepped M.k_stepped M.b_stepped (va_l (ve_v 0) (va_l (ve_v 1) (va_l (ve_v 2) (va_nil))))))))
theorem ok_ways_at (M : Md P K mg) : FnV P w K mg base T 5 M.f_ways_at M.d_ways_at ["plan", "part", "kind"] [] sp_ways_at := FnV.of (k := 4) M.F_ways_at sc_ways_at fun cdv A outer s H E hcv hr gd => by
  have hu := hu150 hr
  exact vss_one (vs_ret (ve_if (vt_cmp (os_eq hu) (ve_v 2) (ve_gS rfl M.c_OPEN)) (ve_tup (va_l (ve_gS rfl M.c_EMPTY) (va_s (ve_call (ok_letters_of M) (hr.mono (by decide)) gd rfl M.g_letters_of M.k_letters_of M.b_letters_of (va_l (ve_v 0) (va_l (ve_tup (va_l (ve_v 1) (va_nil))) (va_nil)))) (va_nil)))) (ve_tup (va_l (ve_v 2) (va_nil)))))
theorem ok_set_behind (M : Md P K mg) : FnV P w K mg base T 6 M.f_set_behind M.d_set_behind ["plan", "machine", "states", "part", "kind"] [] sp_set_behind := FnV.of (k := 5) M.F_set_behind sc_set_behind fun cdv A outer s H E hcv hr gd => by
  have hu := hu150 hr
  exact vss_cons (vs_set (i := 5) sc_set_behind.nd rfl (.inl rfl) (ve_dnew) (.inl rfl)) (vss_cons (vs_for PassesOwn.leaving rfl (vi_sq (ve_call (ok_ways_at M) (hr.mono (by decide)) gd rfl M.g_ways_at M.k_ways_at M.b_ways_at (va_l (ve_v 0) (va_l (ve_v 3) (va_l (ve_v 4) (va_nil)))))) (vg_n (i := 6) sc_set_behind.nd rfl (.inr rfl) (.inl rfl)).p (vss_one (vs_drop (ve_updD (i := 5) rfl (by first | exact .inl rfl | exact .inr (.inl rfl) | exact .inr (.inr rfl)) (ve_dc rfl sc_set_behind.nd (vi_sq (ve_v 2)) (own := [(("state" : Str), 7)]) (blkOk_by (by rfl)) (fun _ _ _ _ _ => (vg_n (i := 7) sc_set_behind.nd rfl (.inl rfl) (.inr rfl)).p) (fun _ _ _ _ _ => vts_nil) (fun _ _ _ _ _ => ve_call (ok_gone M) (hr.mono (by decide)) gd rfl M.g_gone M.k_gone M.b_gone (va_l (ve_v 1) (va_l (ve_v 7) (va_l (ve_v 6) (va_nil))))) (fun _ _ _ _ _ => ve_bl)))))) (vss_one (vs_ret (ve_callT (os_tuple) rfl M.n_tuple (by decide +kernel) (va_p (ve_callB (os_sortedD rfl hu) rfl M.n_sorted (by decide +kernel) (va_p (ve_v 5) (va_nil))) (va_nil))))))
theorem ok_whole_row (M : Md P K mg) : FnV P w K mg base T 6 M.f_whole_row M.d_whole_row ["plan", "figure", "row"] [] sp_whole_row := FnV.of (k := 5) M.F_whole_row sc_whole_row fun cdv A outer s H E hcv hr gd => by
  have hu := hu150 hr
  exact vss_cons (vs_par (i := 4) (j := 5) rfl sc_whole_row.nd rfl rfl (by decide) rfl rfl (ve_callT (os_list) rfl M.n_list (by decide +kernel) (va_p (ve_v 2) (va_nil))) (ve_lst (va_nil))) (vss_cons (vs_for PassesOwn.leaving rfl (vi_sq (ve_call (ok_parts_of M) (hr.mono (by decide)) gd rfl M.g_parts_of M.k_parts_of M.b_parts_of (va_l (ve_v 0) (va_l (ve_v 1) (va_nil))))) (vg_n (i := 3) sc_whole_row.nd rfl (.inl rfl) (.inl rfl)).p (vss_one (vs_drop (ve_append (i := 5) rfl (by first | exact .inl rfl | exact .inr (.inl rfl) | exact .inr (.inr rfl)) (ve_tup (va_l (ve_v 3) (va_l (ve_if (vt_cmp (os_eq hu) (ve_v 3) (ve_gS rfl M.c_TICK)) (ve_gS rfl M.c_TICK) (ve_popAt (i := 4) rfl (by first | exact .inl rfl | exact .inr (.inl rfl) | exact .inr (.inr rfl)) (ve_int))) (va_nil)))))))) (vss_one (vs_ret (ve_v 5))))
theorem ok_sets_of (M : Md P K mg) : FnV P w K mg base T 8 M.f_sets_of M.d_sets_of ["plan", "figure", "row"] [] sp_sets_of := FnV.of (k := 7) M.F_sets_of sc_sets_of fun cdv A outer s H E hcv hr gd => by
  have hu := hu150 hr
  exact vss_cons (vs_drop (ve_call (ok_need_row M) (hr.mono (by decide)) gd rfl M.g_need_row M.k_need_row M.b_need_row (va_l (ve_v 0) (va_l (ve_v 1) (va_l (ve_v 2) (va_nil)))))) (vss_cons (vs_par (i := 3) (j := 4) rfl sc_sets_of.nd rfl rfl (by decide) rfl rfl (ve_ix (ve_call (ok_figure_of M) (hr.mono (by decide)) gd rfl M.g_figure_of M.k_figure_of M.b_figure_of (va_l (ve_v 0) (va_l (ve_v 1) (va_nil)))) (ve_int)) (ve_lst (va_l (ve_tup (va_l (ve_int) (va_nil))) (va_nil)))) (vss_cons (vs_for PassesOwn.leaving rfl (vi_sq (ve_call (ok_whole_row M) (hr.mono (by decide)) gd rfl M.g_whole_row M.k_whole_row M.b_whole_row (va_l (ve_v 0) (va_l (ve_v 1) (va_l (ve_v 2) (va_nil)))))) (vgt_t rfl (vgs_cons (vg_n (i := 5) sc_sets_of.nd rfl (.inl rfl) (.inl rfl)) (vgs_cons (vg_n (i := 6) sc_sets_of.nd rfl (.inl rfl) (.inl rfl)) (vgs_nil)))).p (vss_one (vs_drop (ve_append (i := 4) rfl (by first | exact .inl rfl | exact .inr (.inl rfl) | exact .inr (.inr rfl)) (ve_call (ok_set_behind M) (hr.mono (by decide)) gd rfl M.g_set_behind M.k_set_behind M.b_set_behind (va_l (ve_v 0) (va_l (ve_v 3) (va_l (ve_ix (ve_v 4) (ve_un os_neg (ve_int))) (va_l (ve_v 5) (va_l (ve_v 6) (va_nil))))))))))) (vss_one (vs_ret (ve_callT (os_tuple) rfl M.n_tuple (by decide +kernel) (va_p (ve_v 4) (va_nil)))))))
theorem ok_last_set (M : Md P K mg) : FnV P w K mg base T 9 M.f_last_set M.d_last_set ["plan", "figure", "row"] [] sp_last_set := FnV.of (k := 8) M.F_last_set sc_last_set fun cdv A outer s H E hcv hr gd => by
  have hu := hu150 hr
  exact vss_one (vs_ret (ve_ix (ve_call (ok_sets_of M) (hr.mono (by decide)) gd rfl M.g_sets_of M.k_sets_of M.b_sets_of (va_l (ve_v 0) (va_l (ve_v 1) (va_l (ve_v 2) (va_nil))))) (ve_un os_neg (ve_int))))
theorem ok_law (M : Md P K mg) (tb : ∀ p ∈ M.cs, LamX.TabB base mg p.1 p.2.1) : FnV P w K mg base (tabsOf M.cs) 13 M.f_law M.d_law ["script"] [] sp_law := FnV.of (k := 12) M.F_law sc_law fun cdv A outer s H E hcv hr gd => by
  have hcv := hcv.symm.trans M.hc_law
  subst hcv
  have hu := hu150 hr
  exact vss_cons (vs_set (i := 1) sc_law.nd rfl (.inl rfl) (ve_call (ok__law_bag M) (hr.mono (by decide)) gd rfl M.g__law_bag M.k__law_bag M.b__law_bag (va_l (ve_v 0) (va_nil))) (.inl rfl)) (vss_cons (vs_for PassesOwn.leaving rfl (vi_rg1 rfl M.n_range (ve_int)) (vg_n (i := 2) sc_law.nd rfl (.inl rfl) (.inl rfl)).p (vss_cons (vs_set (i := 3) sc_law.nd rfl (.inr rfl) (ve_call (ok__law_plan M) (hr.mono (by decide)) gd rfl M.g__law_plan M.k__law_plan M.b__law_plan (va_p (ve_v 1) (va_l (ve_bin os_add (ve_int) (ve_call (ok__law_take M) (hr.mono (by decide)) gd rfl M.g__law_take M.k__law_take M.b__law_take (va_p (ve_v 1) (va_l (ve_int) (va_nil))))) (va_l (ve_bin os_add (ve_int) (ve_call (ok__law_take M) (hr.mono (by decide)) gd rfl M.g__law_take M.k__law_take M.b__law_take (va_p (ve_v 1) (va_l (ve_int) (va_nil))))) (va_l (ve_int) (va_nil)))))) (.inl rfl)) (vss_cons (vs_for PassesOwn.leaving rfl (vi_sq (ve_ix (ve_v 3) (ve_int))) (vg_n (i := 4) sc_law.nd rfl (.inl rfl) (.inl rfl)).p (vss_cons (vs_set (i := 6) sc_law.nd rfl (.inr rfl) (ve_ix (ve_v 4) (ve_int)) (.inl rfl)) (vss_cons (vs_if (vt_not (vt_tru (ve_call (ok__law_alike M) (hr.mono (by decide)) gd rfl M.g__law_alike M.k__law_alike M.b__law_alike (va_l (ve_call (ok_parts_of M) (hr.mono (by decide)) gd rfl M.g_parts_of M.k_parts_of M.b_parts_of (va_l (ve_v 3) (va_l (ve_v 6) (va_nil)))) (va_l (ve_callT (os_tuple) rfl M.n_tuple (by decide +kernel) (va_p (ve_call (ok__law_reading M) (hr.mono (by decide)) gd rfl M.g__law_reading M.k__law_reading M.b__law_reading (va_l (ve_v 3) (va_l (ve_v 6) (va_nil)))) (va_nil))) (va_nil)))))) (vss_one (vs_ret (ve_bl))) (vss_nil)) (vss_one (vs_for PassesOwn.leaving rfl (vi_rg1 rfl M.n_range (ve_int)) (vg_n (i := 7) sc_law.nd rfl (.inl rfl) (.inl rfl)).p (vss_cons (vs_set (i := 8) sc_law.nd rfl (.inl rfl) (ve_call (ok__law_drawn_row M) (hr.mono (by decide)) gd rfl M.g__law_drawn_row M.k__law_drawn_row M.b__law_drawn_row (va_p (ve_v 1) (va_l (ve_v 3) (va_l (ve_v 6) (va_nil))))) (.inl rfl)) (vss_cons (vs_par (i := 11) (j := 12) rfl sc_law.nd rfl rfl (by decide) rfl rfl (ve_call (ok__law_sets M) (hr.mono (by decide)) gd rfl M.g__law_sets M.k__law_sets M.b__law_sets (va_l (ve_v 3) (va_l (ve_v 6) (va_l (ve_v 8) (va_nil))))) (ve_callB (os_repr hu gd) rfl M.n_repr (by decide +kernel) (va_p (ve_tup (va_l (ve_v 3) (va_l (ve_v 8) (va_nil)))) (va_nil)))) (vss_cons (vs_for PassesOwn.leaving rfl (vi_rg1 rfl M.n_range (ve_int)) (vg_n (i := 9) sc_law.nd rfl (.inl rfl) (.inl rfl)).p (vss_one (vs_if (vt_not (vt_tru (ve_call (ok__law_alike M) (hr.mono (by decide)) gd rfl M.g__law_alike M.k__law_alike M.b__law_alike (va_l (ve_lst (va_l (ve_call (ok_sets_of M) (hr.mono (by decide)) gd rfl M.g_sets_of M.k_sets_of M.b_sets_of (va_l (ve_v 3) (va_l (ve_v 6) (va_l (ve_v 8) (va_nil))))) (va_l (ve_call (ok_last_set M) (hr.mono (by decide)) gd rfl M.g_last_set M.k_last_set M.b_last_set (va_l (ve_v 3) (va_l (ve_v 6) (va_l (ve_v 8) (va_nil))))) (va_nil)))) (va_l (ve_lst (va_l (ve_v 11) (va_l (ve_ix (ve_v 11) (ve_un os_neg (ve_int))) (va_nil)))) (va_nil)))))) (vss_one (vs_ret (ve_bl))) (vss_nil)))) (vss_cons (vs_set (i := 10) sc_law.nd rfl (.inr rfl) (ve_call (ok__law_odd_row M) (hr.mono (by decide)) gd rfl M.g__law_odd_row M.k__law_odd_row M.b__law_odd_row (va_p (ve_v 1) (va_l (ve_v 3) (va_l (ve_v 6) (va_l (ve_v 8) (va_nil)))))) (.inl rfl)) (vss_cons (vs_set (i := 11) sc_law.nd rfl (.inl rfl) (ve_if (vt_tru (ve_call (ok__law_is_row M) (hr.mono (by decide)) gd rfl M.g__law_is_row M.k__law_is_row M.b__law_is_row (va_l (ve_v 3) (va_l (ve_v 6) (va_l (ve_v 10) (va_nil)))))) (ve_tup (va_l (ve_str) (va_l (ve_call (ok__law_sets M) (hr.mono (by decide)) gd rfl M.g__law_sets M.k__law_sets M.b__law_sets (va_l (ve_v 3) (va_l (ve_v 6) (va_l (ve_v 10) (va_nil))))) (va_nil)))) (ve_tup (va_l (ve_str) (va_l (ve_str) (va_nil))))) (.inl rfl)) (vss_one (vs_if (VW.vt (vw_or (vt_not (vt_tru (ve_call (ok__law_alike M) (hr.mono (by decide)) gd rfl M.g__law_alike M.k__law_alike M.b__law_alike (va_l ((ve_heard (N := ["act", "e"]) (k := 10) (gv__law_heard M (by decide)) (hr.mono (by decide)) gd rfl M.g__law_heard M.k__law_heard M.F__law_heard sc__law_heard M.b__law_heard (tb _ (by simp [Md.cs])) rfl (List.mem_map.mpr ⟨_, List.mem_cons_self, rfl⟩) rfl (by simp [Md.cs, tabsOf]) (LamX.lamS_by (show LamX.lamSB (defScope (topS 56)) _ = true from by decide +kernel)) rfl (fun _ _ _ _ _ => rfl) (fun A outer s H E f c1 hr gd => have hu := hu150 hr; ve_call (ok_sets_of M) (hr.mono (by decide)) gd rfl M.g_sets_of M.k_sets_of M.b_sets_of (va_l (ve_v 3) (va_l (ve_v 6) (va_l (ve_v 10) (va_nil))))) rfl (.inl rfl))) (va_l (ve_v 11) (va_nil)))))) (vw_or1 (vt_cmp (os_ne hu) (ve_callB (os_repr hu gd) rfl M.n_repr (by decide +kernel) (va_p (ve_tup (va_l (ve_v 3) (va_l (ve_v 8) (va_nil)))) (va_nil))) (ve_v 12))))) (vss_one (vs_ret (ve_bl))) (vss_nil))))))))))))) (vss_cons (vs_set (i := 5) sc_law.nd rfl (.inl rfl) (ve_lst (va_l ((ve_heard (N := ["act", "e"]) (k := 10) (gv__law_heard M (by decide)) (hr.mono (by decide)) gd rfl M.g__law_heard M.k__law_heard M.F__law_heard sc__law_heard M.b__law_heard (tb _ (by simp [Md.cs])) rfl (List.mem_map.mpr ⟨_, List.mem_cons_self, rfl⟩) rfl (by simp [Md.cs, tabsOf]) (LamX.lamS_by (show LamX.lamSB (defScope (topS 56)) _ = true from by decide +kernel)) rfl (fun _ _ _ _ _ => rfl) (fun A outer s H E f c1 hr gd => have hu := hu150 hr; ve_call (ok_parts_of M) (hr.mono (by decide)) gd rfl M.g_parts_of M.k_parts_of M.b_parts_of (va_l (ve_v 3) (va_l (ve_str) (va_nil)))) rfl (.inl rfl))) (va_nil))) (.inl rfl)) (vss_cons (vs_drop (ve_append (i := 5) rfl (by first | exact .inl rfl | exact .inr (.inl rfl) | exact .inr (.inr rfl)) ((ve_heard (N := ["act", "e"]) (k := 10) (gv__law_heard M (by decide)) (hr.mono (by decide)) gd rfl M.g__law_heard M.k__law_heard M.F__law_heard sc__law_heard M.b__law_heard (tb _ (by simp [Md.cs])) rfl (List.mem_map.mpr ⟨_, List.mem_cons_self, rfl⟩) rfl (by simp [Md.cs, tabsOf]) (LamX.lamS_by (show LamX.lamSB (defScope (topS 56)) _ = true from by decide +kernel)) rfl (fun _ _ _ _ _ => rfl) (fun A outer s H E f c1 hr gd => have hu := hu150 hr; ve_call (ok_sets_of M) (hr.mono (by decide)) gd rfl M.g_sets_of M.k_sets_of M.b_sets_of (va_l (ve_v 3) (va_l (ve_str) (va_l (ve_non) (va_nil))))) rfl (.inl rfl))))) (vss_cons (vs_drop (ve_append (i := 5) rfl (by first | exact .inl rfl | exact .inr (.inl rfl) | exact .inr (.inr rfl)) ((ve_heard (N := ["act", "e"]) (k := 10) (gv__law_heard M (by decide)) (hr.mono (by decide)) gd rfl M.g__law_heard M.k__law_heard M.F__law_heard sc__law_heard M.b__law_heard (tb _ (by simp [Md.cs])) rfl (List.mem_map.mpr ⟨_, List.mem_cons_self, rfl⟩) rfl (by simp [Md.cs, tabsOf]) (LamX.lamS_by (show LamX.lamSB (defScope (topS 56)) _ = true from by decide +kernel)) rfl (fun _ _ _ _ _ => rfl) (fun A outer s H E f c1 hr gd => have hu := hu150 hr; ve_call (ok_last_set M) (hr.mono (by decide)) gd rfl M.g_last_set M.k_last_set M.b_last_set (va_l (ve_v 3) (va_l (ve_str) (va_l (ve_tup (va_nil)) (va_nil))))) rfl (.inl rfl))))) (vss_one (vs_if (vt_cmp (os_ne hu) (ve_v 5) (ve_bin os_mul (ve_lst (va_l (ve_tup (va_l (ve_str) (va_l (ve_str) (va_nil)))) (va_nil))) (ve_int))) (vss_one (vs_ret (ve_bl))) (vss_nil))))))))) (vss_one (vs_ret (ve_bl))))
end
end K22

/-! drawn numbers, things, orders, names; values alike -/
section
open PySem PySem.Spec PyProof.Rows L2 VL
local macro_rules | `(tactic| walk_at "vl") => `(tactic| repeat (first | (with_reducible apply ev_tc) | ((with_reducible apply e_var); (focus (rfl))) | ((with_reducible apply k_ps2); (focus (rfl)); (focus (rfl))) | ((with_reducible apply e_varO); (focus (rfl)); (focus (rfl))) | ((with_reducible apply k_lk3); (focus (rfl))) | ((with_reducible apply k_am2); (focus (rfl)); (focus (rfl))) | ((with_reducible apply k_peS); (focus (simp only [slotsOf]; rfl))) | ((with_reducible apply e_putM); (focus (simp only [List.set_cons_zero, List.set_cons_succ]; rfl))) | ((with_reducible apply e_stK); (focus (rfl)); (focus (rfl))) | ((with_reducible apply e_callA); (focus (rfl)); (focus (rfl)); (focus (rfl))) | ((with_reducible apply k_rt2); (focus (rfl)); (focus (rfl)); (focus (simp only [List.set_cons_zero, List.set_cons_succ]; rfl))) | ((with_reducible apply k_bo1); (focus (rfl)); (focus (rfl))) | ((with_reducible apply k_la); (focus (rfl))) | (with_reducible apply e_oaddL) | (with_reducible apply e_oaddT) | (with_reducible apply e_omulI) | (with_reducible apply e_omulT) | (with_reducible apply e_omulL) | (with_reducible apply e_odiv) | (with_reducible apply e_omod) | (with_reducible apply e_opow) | (with_reducible apply e_oeq) | (with_reducible apply e_one) | (with_reducible apply e_oinL) | (with_reducible apply e_oinT) | ((with_reducible apply k_pa); (focus (rfl))) | ((with_reducible apply k_tru); (focus (rfl))) | ((with_reducible apply k_ow2); (focus (rfl))) | ((with_reducible apply k_li); (focus (first | (simp only [List.set_cons_zero, List.set_cons_succ, List.cons_append, List.nil_append, List.dropLast_cons_cons, List.dropLast_singleton]; rfl) | rfl))) | ((with_reducible apply e_stO); (focus (rfl)); (focus (rfl)); (focus (rfl))) | ((with_reducible apply e_parA); (focus (rfl)); (focus (rfl)); (focus (rfl)); (focus (rfl))) | ((with_reducible apply e_gN); (focus (rfl)); (focus (rfl))) | ((with_reducible apply e_gT); (focus (rfl))) | ((with_reducible apply e_ixe); (focus (rfl))) | ((with_reducible apply k_ixN); (focus (simp [ixN]; rfl))) | ((with_reducible apply k_ixb); (focus (rfl))) | ((with_reducible apply k_ia); (focus (rfl))) | ((with_reducible apply k_da); (focus (rfl))) | (with_reducible apply e_osortD) | ((with_reducible apply e_act); (focus (rfl))) | ((with_reducible apply e_lam); (focus (simp only [dropOwn, isOwn]; rfl))) | ((with_reducible apply e_hdAs); (focus (rfl)); (focus (rfl)); (focus (rfl))) | ((with_reducible apply e_isX); (focus (rfl))) | ((with_reducible apply e_fld); (focus (rfl)); (focus (rfl))) | ((with_reducible apply e_parB); (focus (rfl)); (focus (rfl))) | ((with_reducible apply k_sa); (focus (simp only [setAll, List.set_cons_zero, List.set_cons_succ]; rfl))) | ((with_reducible apply e_callL); (focus (rfl))) | ((with_reducible apply e_turnD); (focus (simp only [wipeS, List.set_cons_zero, List.set_cons_succ]; rfl))) | ((with_reducible apply e_len); (focus (rfl))) | (with_reducible apply e_iteT) | (with_reducible apply e_iteF) | ((with_reducible apply e_turn); (focus (simp only [wipeS, List.set_cons_zero, List.set_cons_succ]; rfl))) | ((with_reducible apply k_re); (focus (simp only [restS, List.set_cons_zero, List.set_cons_succ, List.getElem?_cons_zero, List.getElem?_cons_succ, Option.getD_some]; rfl)))))
namespace K22
open PySem PySem.Spec PyProof.Rows L2 VL
section
theorem cutD_map {α β : Type} (f : α → β) (xs : List α) (lo hi : Option Int) : VL.cutD (xs.map f) lo hi = (VL.cutD xs lo hi).map f := by
  unfold VL.cutD
  rw [List.length_map, List.map_take, List.map_drop]
theorem cutD_len {α : Type} (xs : List α) (lo hi : Option Int) : (VL.cutD xs lo hi).length ≤ xs.length := by
  unfold VL.cutD
  rw [List.length_take, List.length_drop]
  omega
theorem atI_0 {x : D} {l : List D} : atI (x :: l) 0 = some x := by simp [atI, ixN]
theorem head0 (cells : List Int) : ∃ c : Int, atI (cells.map PyData.int ++ [.int 0]) 0 = some (.int c) := by
  cases cells with
  | nil => exact ⟨0, atI_0⟩
  | cons c r => exact ⟨c, atI_0⟩
structure BagOk (b : List D) : Prop where
  is : ∃ (b0 b1 b2 : Int) (cells : List Int), b = [.int b0, .int b1, .int b2, .list (cells.map .int)] ∧ 0 ≤ b0 ∧ cells.length ≤ 63
theorem take_3 {n : Int} {Q : M → List M → Prop} {E : Ex → List M → Prop} (h0 : 0 < n) (h1 : n < 1073741824) (q : ∀ v b', 0 ≤ v → v < n → BagOk b' → Q (.fz (.int v)) [.lst b']) {c0 c1 c2 : Int} {cells : List Int} {x4 x5 : Option M} (hc : 0 ≤ c0) (pc : cells.length ≤ 63) :
    g__law_take_3 ⟨[some (.lst [.int c0, .int c1, .int c2, .list (cells.map .int)]), some (.fz (.int n)), none, none, x4, x5, none], [0]⟩
      ⟨fun e => boK e.sl [0] fun b => Q (.fz .none) b, fun m e => boK e.sl [0] fun b => Q m b, fun _ => False, fun _ => False⟩ (fun ex e => bindP (borOf e.sl [0]) fun b => E ex b) := by
  unfold g__law_take_3
  walk_at "vl"
  refine e_ite (fun hz => ?_) (fun hz => ?_)
  · walk_at "vl"
    · exact q _ _ (Int.emod_nonneg _ (by omega)) (Int.emod_lt_of_pos _ h0) ⟨_, _, _, _, rfl, Int.ediv_nonneg hc (by omega), pc⟩
    · exact ⟨h0, h1⟩
    · exact h0
  · walk_at "vl"
    unfold g__law_take_2
    walk_at "vl"
    · exact q _ _ (Int.emod_nonneg _ (by omega)) (Int.emod_lt_of_pos _ h0) ⟨_, _, _, _, rfl, hc, pc⟩
    all_goals first | omega | exact .inr (by omega) | exact .inl (by omega) | (simp; done) | (simp; omega)
theorem s_take {b : List D} {n : Int} {Q : M → List M → Prop} {E : Ex → List M → Prop} (hb : BagOk b) (h0 : 0 < n) (h1 : n < 1073741824) (q : ∀ v b', 0 ≤ v → v < n → BagOk b' → Q (.fz (.int v)) [.lst b']) : sp__law_take [.lst b, .fz (.int n)] Q E := by
  obtain ⟨b0, b1, b2, cells, rfl, p0, pc⟩ := hb
  refine e_body rfl (by simp only [List.map_cons, List.map_nil, List.length_cons, List.length_nil, Nat.reduceAdd, Nat.reduceSub, List.replicate, List.replicate_zero, List.cons_append, List.nil_append]; rfl) ?_
  unfold g__law_take
  walk_at "vl"
  refine e_ite (fun hz => ?_) (fun hz => ?_)
  · have hl := cutD_len (cells.map PyData.int) (some b2) none
    rw [List.length_map] at hl
    walk_at "vl"
    rw [cutD_map]
    walk_at "vl"
    obtain ⟨c, hc⟩ := head0 (VL.cutD cells (some b2) none)
    refine e_ix hc ?_
    walk_at "vl"
    refine e_ite (fun hy => ?_) (fun hy => ?_)
    · walk_at "vl"
      unfold g__law_take_1
      walk_at "vl"
      · refine take_3 h0 h1 q ?_ pc
        have := of_decide_eq_true hy
        have h : (10 : Int) ^ Int.toNat 18 = 1000000000000000000 := by decide
        omega
      all_goals first | omega | exact .inr (by omega) | exact .inl (by omega) | (simp; done) | (simp; omega)
    · walk_at "vl"
      unfold g__law_take_1
      walk_at "vl"
      · exact take_3 h0 h1 q p0 pc
      all_goals first | omega | exact .inr (by omega) | exact .inl (by omega) | (simp; done) | (simp; omega)
    all_goals first | omega | (simp; done) | (simp; omega)
  · walk_at "vl"
    exact take_3 h0 h1 q p0 pc
  · simp

end
section
variable {b : List D} {Q : M → List M → Prop} {E : Ex → List M → Prop}
theorem s_bag {ns : List Int} (hl : ns.length ≤ 63) (q : ∀ b, BagOk b → Q (.lst b) []) : sp__law_bag [.fz (.list (ns.map .int))] Q E := by
  refine e_body rfl (by simp only [List.map_cons, List.map_nil, List.length_cons, List.length_nil, Nat.reduceAdd, Nat.reduceSub, List.replicate, List.replicate_zero, List.cons_append, List.nil_append]; rfl) ?_
  unfold g__law_bag
  walk_at "vl"
  rw [cutD_map]
  have h := cutD_len ns none (some 63)
  walk_at "vl"
  refine e_3 ?_ rfl (by rw [List.length_map]; omega)
  refine lc_map (fun d => match d with | .int a => .int (if a < 0 then -a else a) | d => d) (fun d hd Qy Qn hq => ?_) ?_
  · obtain ⟨a, _, rfl⟩ := List.mem_map.mp hd
    walk_at "vl"
    exact hq
  · walk_at "vl"
    refine q _ ⟨0, 1234567891, 0, (VL.cutD ns none (some 63)).map fun a => if a < 0 then -a else a, ?_, by omega, by rw [List.length_map]; omega⟩
    rw [List.map_map, List.map_map] <;> rfl
theorem s_some {things : List D} (hb : BagOk b) (h0 : 0 < things.length) (h1 : things.length ≤ 1000) (q : ∀ x b', x ∈ things → BagOk b' → Q (.fz x) [.lst b']) {d : D} (hd : d = .tuple things ∨ d = .list things) : sp__law_some [.lst b, .fz d] Q E := by
  have key : ∀ v : Int, 0 ≤ v → v < things.length → ∃ x, x ∈ things ∧ atI things v = some x := fun v hv hv2 => by
    have hlt : v.toNat < things.length := by omega
    exact ⟨things[v.toNat], List.getElem_mem hlt, atI_of hv (List.getElem?_eq_getElem hlt)⟩
  rcases hd with rfl | rfl
  all_goals
    refine e_body rfl (by simp only [List.map_cons, List.map_nil, List.length_cons, List.length_nil, Nat.reduceAdd, Nat.reduceSub, List.replicate, List.replicate_zero, List.cons_append, List.nil_append]; rfl) ?_
    unfold g__law_some
    walk_at "vl"
    refine s_take hb (by omega) (by omega) fun v b' hv hv2 hb' => ?_
    walk_at "vl"
    obtain ⟨x, hx, e⟩ := key v hv hv2
    refine e_ix e ?_
    walk_at "vl"
    exact q x b' hx hb'
end
section
variable {b : List D} {Q : M → List M → Prop} {E : Ex → List M → Prop}
theorem eqv_nil (xs : List D) : (PyData.list xs).eqv (.list []) = xs.isEmpty := by cases xs <;> rfl
theorem s_mixed {things : List D} (hb : BagOk b) (hp : ∀ x ∈ things, Pl 50 x) (h1 : things.length ≤ 1000) (q : ∀ found b', found.Perm things → BagOk b' → Q (.lst found) [.lst b']) {d : D} (hd : d = .tuple things ∨ d = .list things) : sp__law_mixed [.lst b, .fz d] Q E := by
  rcases hd with rfl | rfl
  all_goals
    refine e_body rfl (by simp only [List.map_cons, List.map_nil, List.length_cons, List.length_nil, Nat.reduceAdd, Nat.reduceSub, List.replicate, List.replicate_zero, List.cons_append, List.nil_append]; rfl) ?_
    unfold g__law_mixed
    walk_at "vl"
    refine e_while (fun n e => ∃ b left found d, e = ⟨[some (.lst b), some (.fz d), some (.lst left), some (.lst found)], [0]⟩ ∧ BagOk b ∧ n = left.length ∧ (found ++ left).Perm things) (n := things.length) ⟨b, things, [], _, rfl, hb, rfl, .refl _⟩ ?_
    rintro n e ⟨b, left, found, d, rfl, hb, rfl, hf⟩
    have hlen : found.length + left.length = things.length := by rw [← List.length_append]; exact hf.length_eq
    walk_at "vl"
    · rw [eqv_nil]
      refine e_ite (fun hz => ?_) (fun hz => ?_)
      · have h0 : 0 < left.length := by
          cases left with
          | nil => simp at hz
          | cons _ _ => exact Nat.succ_pos _
        unfold g__law_mixed_1
        walk_at "vl"
        refine s_take hb (by omega) (by omega) fun v b' hv hv2 hb' => ?_
        walk_at "vl"
        have hlt : v.toNat < left.length := by omega
        refine e_b (ixN_nat hv hv2) ?_
        refine e_b (List.getElem?_eq_getElem hlt) ?_
        refine e_2 ?_ (by omega)
        walk_at "vl"
        refine e_2 ?_ (by omega)
        walk_at "vl"
        refine ⟨left.length - 1, by omega, _, _, _, _, rfl, hb', by rw [List.length_eraseIdx_of_lt hlt], ?_⟩
        refine .trans ?_ hf
        rw [List.append_assoc]
        refine .append_left _ ?_
        exact erase_perm hlt
      · have h0 : left = [] := by
          cases left with
          | nil => rfl
          | cons _ _ => simp at hz
        subst h0
        walk_at "vl"
        rw [List.append_nil] at hf
        exact q _ _ hf hb
    · refine ⟨?_, by simp⟩
      rw [Pl_list]
      refine ⟨by omega, fun x hx => ?_⟩
      have := hp x (hf.mem_iff.mp (List.mem_append_right _ hx))
      exact Pl.mono _ this (by omega)
end
section
variable {b : List D} {Q : M → List M → Prop} {E : Ex → List M → Prop}
def strOf : D → Str
  | .str s => s
  | _ => ⟨#[]⟩
theorem map_strOf (L : List Str) : (L.map PyData.str).map strOf = L := by
  rw [List.map_map]
  exact List.map_id'' (fun _ => rfl) L
theorem strs_of : ∀ {l : List D}, (∀ x ∈ l, ∃ s, x = PyData.str s) → l = (l.map strOf).map .str
  | [], _ => rfl
  | x :: l, h => by
    obtain ⟨s, rfl⟩ := h x List.mem_cons_self
    rw [List.map_cons, List.map_cons, ← strs_of fun y hy => h y (List.mem_cons_of_mem _ hy)]
    rfl
theorem sIx_nat (n : Nat) (m : Int) (h : 0 ≤ m) : HT.sIx n n (some m) = min m.toNat n := by
  obtain ⟨k, rfl⟩ := Int.eq_ofNat_of_zero_le h
  exact HT.sIx_nat n n k
theorem cut_take {α : Type} (xs : List α) (m : Int) (h : 0 ≤ m) : VL.cutD xs none (some m) = xs.take m.toNat := by
  unfold VL.cutD
  rw [sIx_nat _ _ h, HT.sIx_none, List.drop_zero, Nat.sub_zero]
  rw [Nat.min_def]
  split
  · rfl
  · rw [List.take_of_length_le (by omega), List.take_of_length_le (by omega)]
def ltS (x y : Str) : Prop := x.cps.toList < y.cps.toList
theorem ltD_s {x y : Str} : PySem.W.dataLt (.str x) (.str y) = decide (x.cps.toList < y.cps.toList) := PySem.W.dataLt_str x y
theorem s_some_names {ns : List Str} {m : Int} (hb : BagOk b) (nd : ns.Nodup) (hl : ns.length ≤ 100) (h0 : 0 ≤ m) (q : ∀ (L : List Str) b', L.Pairwise ltS → (∀ x ∈ L, x ∈ ns) → L.length = min m.toNat ns.length → BagOk b' → Q (.fz (.tuple (L.map .str))) [.lst b']) :
    sp__law_some_names [.lst b, .fz (.list (ns.map .str)), .fz (.int m)] Q E := by
  refine e_body rfl (by simp only [List.map_cons, List.map_nil, List.length_cons, List.length_nil, Nat.reduceAdd, Nat.reduceSub, List.replicate, List.replicate_zero, List.cons_append, List.nil_append]; rfl) ?_
  unfold g__law_some_names
  walk_at "vl"
  refine s_mixed hb (fun x hx => ?_) (by rw [List.length_map]; omega) (fun found b' hf hb' => ?_) (.inr rfl)
  · obtain ⟨s, _, rfl⟩ := List.mem_map.mp hx
    simp
  · walk_at "vl"
    have hs : ∀ x ∈ found.take m.toNat, ∃ s, x = PyData.str s := fun x hx => by
      obtain ⟨s, _, rfl⟩ := List.mem_map.mp (hf.mem_iff.mp (List.mem_of_mem_take hx))
      exact ⟨s, rfl⟩
    have hz : ∀ x ∈ VL.cutD found none (some m), ∃ s, x = PyData.str s := by rw [cut_take _ _ h0]; exact hs
    generalize hL : (VL.cutD found none (some m)).map strOf = L
    have e : VL.cutD found none (some m) = L.map .str := by rw [← hL]; exact strs_of hz
    rw [e]
    refine ⟨fun x hx => ?_, PySem.W.AllAlike.of fun _ _ => rfl, PySem.W.Sortable.others fun _ => ⟨(fun z => by cases z), (fun xs z => by cases z)⟩, ?_⟩
    · obtain ⟨s, _, rfl⟩ := List.mem_map.mp hx
      simp
    · have hp : ((L.map PyData.str).mergeSort (PySem.W.dataLe false id)).Perm (L.map .str) := List.mergeSort_perm _ _
      have hw := PySem.W.sort_pairwise (PySem.W.sortLe_total (listOrd itemOrd) false fun d : D => PySem.W.keyToks d) (L.map PyData.str)
      have hw : ((L.map PyData.str).mergeSort (PySem.W.dataLe false id)).Pairwise fun a b => PySem.W.dataLe false id a b = true := hw
      generalize (L.map PyData.str).mergeSort (PySem.W.dataLe false id) = S at hp hw ⊢
      have hS : S = (S.map strOf).map .str := strs_of fun x hx => by
        obtain ⟨s, _, rfl⟩ := List.mem_map.mp (hp.mem_iff.mp hx)
        exact ⟨s, rfl⟩
      have hpL : (S.map strOf).Perm L := by
        have := hp.map strOf
        rwa [map_strOf] at this
      have hLn : ∃ L2, (L ++ L2).Perm ns := by
        refine ⟨(found.drop m.toNat).map strOf, ?_⟩
        have := hf.map strOf
        rw [map_strOf] at this
        rw [← hL, cut_take _ _ h0, ← List.map_append, List.take_append_drop]
        exact this
      obtain ⟨L2, hL2⟩ := hLn
      have hnd : (S.map strOf).Nodup := by
        refine hpL.nodup_iff.mpr ?_
        exact (List.nodup_append.mp (hL2.nodup_iff.mpr nd)).1
      have hlen : L.length = min m.toNat ns.length := by
        rw [← hL, List.length_map, cut_take _ _ h0, List.length_take, hf.length_eq, List.length_map]
      rw [hS] at hw ⊢
      generalize S.map strOf = T at hw hpL hnd ⊢
      walk_at "vl"
      refine q T b' ?_ (fun x hx => hL2.mem_iff.mp (List.mem_append_left _ (hpL.mem_iff.mp hx))) (by rw [hpL.length_eq]; exact hlen) hb'
      rw [List.pairwise_map] at hw
      refine List.Pairwise.imp_of_mem ?_ (hw.and hnd)
      intro x y _ _ ⟨h1, h2⟩
      have h1 : (!PySem.W.dataLt (.str y) (.str x)) = true := h1
      rw [ltD_s] at h1
      have h3 : ¬ y.cps.toList < x.cps.toList := by simpa using h1
      show x.cps.toList < y.cps.toList
      by_cases h : x.cps.toList < y.cps.toList
      · exact h
      · exact absurd (PySem.W.str_of_cps (List.le_antisymm h3 h)) h2
end
section
variable {b : List D} {Q : M → List M → Prop} {E : Ex → List M → Prop}
mutual
theorem same : ∀ {n : Nat} (d : D), Pl n d → PyData.eqv d d = true
  | _, .none, _ => rfl
  | _, .bool _, _ => by simp [PyData.eqv]
  | _, .int _, _ => by simp [PyData.eqv]
  | _, .str _, _ => by simp [PyData.eqv]
  | _, .dict _, h => by simp at h
  | n, .list xs, h => by
    rw [Pl_list] at h
    rw [v_lst]
    exact sameAll xs h.2
  | n, .tuple xs, h => by
    rw [Pl_tuple] at h
    rw [v_tup]
    exact sameAll xs h.2
theorem sameAll : ∀ {n : Nat} (xs : List D), (∀ x ∈ xs, Pl n x) → PyData.eqvAll xs xs = true
  | _, [], _ => rfl
  | n, x :: xs, h => by
    show (PyData.eqv x x && PyData.eqvAll xs xs) = true
    rw [same x (h x List.mem_cons_self), sameAll xs fun y hy => h y (List.mem_cons_of_mem _ hy)]
    rfl
end
theorem s_alike {d : D} (pl : Pl 60 d) (sh : d.showable = true) (ln : d.shown.length ≤ 16777216) (q : Q (.fz (.bool true)) []) : sp__law_alike [.fz d, .fz d] Q E := by
  have r : PyData.eqv d d = true := same d pl
  have r2 : PyData.eqv (.str d.shown) (.str d.shown) = true := by rw [v_str]; simp
  refine e_body rfl (by simp only [List.map_cons, List.map_nil, List.length_cons, List.length_nil, Nat.reduceAdd, Nat.reduceSub, List.replicate, List.replicate_zero, List.cons_append, List.nil_append]; rfl) ?_
  unfold g__law_alike
  walk_at "vl"
  refine ⟨pl, sh, ln, ?_⟩
  walk_at "vl"
  refine ⟨pl, sh, ln, ?_⟩
  walk_at "vl"
  · rw [r2]
    refine e_iteT ?_
    walk_at "vl"
    · rw [r]
      exact q
    · exact ⟨pl, pl⟩
  · exact ⟨by simp, by simp⟩
end
end K22

/-! machines -/
namespace K22
open PySem PySem.Spec PyProof.Rows L2 VL
variable {b : List D} {Q : M → List M → Prop} {E : Ex → List M → Prop} {n : Nat} {Ls : List Str} {f : Str → Nat → Nat} {tk : Nat → Nat} {outs : List D} {k : Nat} {s : Str}
def tick : Str := "tick"
def stepsOf (n : Nat) (Ls : List Str) (f : Str → Nat → Nat) : List D := Ls.map fun l => .tuple [.str l, .tuple ((List.range n).map fun k => .int (f l k : Nat))]
def mc (n : Nat) (Ls : List Str) (f : Str → Nat → Nat) (tk : Nat → Nat) (outs : List D) : D := .tuple [.tuple (stepsOf n Ls f), .tuple ((List.range n).map fun k => .int (tk k : Nat)), .tuple outs]
def oneP (s : Str) (d : D) : Bool := match d with
  | .tuple (x :: _) => PyData.eqv x (.str s)
  | _ => false
def snd2 (d : D) : D := match d with
  | .tuple [_, y] => y
  | d => d
theorem step_find {n : Nat} {f : Str → Nat → Nat} {s : Str} : ∀ {Ls : List Str}, s ∈ Ls → ∃ r, ((stepsOf n Ls f).filter (oneP s)).map snd2 = PyData.tuple ((List.range n).map fun k => .int (f s k : Nat)) :: r
  | l :: Ls, h => by
    by_cases e : l = s
    · subst e
      refine ⟨((stepsOf n Ls f).filter (oneP l)).map snd2, ?_⟩
      unfold stepsOf
      rw [List.map_cons, List.filter_cons_of_pos (by show PyData.eqv (.str l) (.str l) = true; rw [v_str]; simp)]
      rfl
    · rcases List.mem_cons.mp h with h | h
      · exact absurd h.symm e
      · obtain ⟨r, hr⟩ := step_find (n := n) (f := f) h
        refine ⟨r, ?_⟩
        unfold stepsOf
        rw [List.map_cons, List.filter_cons_of_neg (by show ¬ PyData.eqv (.str l) (.str s) = true; rw [v_str]; simpa using e)]
        exact hr
/-- a machine of n states -/
structure MOk (n : Nat) (Ls : List Str) (f : Str → Nat → Nat) (tk : Nat → Nat) (outs : List D) : Prop where
  n0 : 0 < n
  n9 : n ≤ 45
  l3 : Ls.length ≤ 20
  nt : ∀ l ∈ Ls, l ≠ tick
  fs : ∀ l ∈ Ls, ∀ k, k < n → f l k < n
  ts : ∀ k, k < n → tk k < n
  ol : outs.length = n
  os : ∀ d ∈ outs, ∃ x ∈ (["no", "yes", "some"] : List Str), d = .str x
/-- the state behind a letter or a tick -/
def gone (f : Str → Nat → Nat) (tk : Nat → Nat) (w : Str) (k : Nat) : Nat := if w = tick then tk k else f w k
theorem MOk.gone (m : MOk n Ls f tk outs) {w : Str} (hw : w = tick ∨ w ∈ Ls) (hk : k < n) : K22.gone f tk w k < n := by
  unfold K22.gone
  split
  · exact m.ts _ hk
  · exact m.fs _ (hw.resolve_left (by assumption)) _ hk
theorem at_row {g : Nat → Nat} (hk : k < n) : atI ((List.range n).map fun k => PyData.int (g k : Nat)) (k : Nat) = some (.int (g k : Nat)) :=
  atI_of (by omega) (by rw [Int.toNat_natCast, List.getElem?_map, List.getElem?_range hk]; rfl)
theorem rg_mem {a b : Int} {d : D} (h : d ∈ rgD a b) : ∃ s : Int, d = .int s ∧ a ≤ s ∧ s < b := by
  unfold rgD at h
  obtain ⟨i, hi, rfl⟩ := List.mem_map.mp h
  rw [List.mem_range] at hi
  exact ⟨_, rfl, by omega, by omega⟩
theorem rg_nat (n : Nat) : rgD 0 (n : Int) = (List.range n).map fun k => .int (k : Nat) := by
  unfold rgD
  rw [show ((n : Int) - 0).toNat = n from by omega]
  exact List.map_congr_left fun k _ => by rw [Int.zero_add]
/-- a number below n -/
def Below (n : Nat) (d : D) : Prop := ∃ j : Nat, j < n ∧ d = .int (j : Nat)
def rowD (n : Nat) (g : Nat → Nat) : D := .tuple ((List.range n).map fun k => .int (g k : Nat))
theorem row_of {ys : List D} (hl : ys.length = n) (h : ∀ y ∈ ys, Below n y) : ∃ g : Nat → Nat, (∀ k, k < n → g k < n) ∧ ys = (List.range n).map fun k => .int (g k : Nat) := by
  have key : ∀ k : Nat, ∃ j : Nat, k < n → j < n ∧ ys[k]? = some (.int (j : Nat)) := fun k => by
    by_cases hk : k < n
    · have hk' : k < ys.length := by omega
      obtain ⟨j, h1, h2⟩ := h ys[k] (List.getElem_mem hk')
      exact ⟨j, fun _ => ⟨h1, by rw [List.getElem?_eq_getElem hk', h2]⟩⟩
    · exact ⟨0, fun z => absurd z hk⟩
  refine ⟨fun k => (key k).choose, fun k hk => ((key k).choose_spec hk).1, ?_⟩
  apply List.ext_getElem?
  intro k
  by_cases hk : k < n
  · rw [((key k).choose_spec hk).2, List.getElem?_map, List.getElem?_range hk]
    rfl
  · rw [List.getElem?_eq_none (by omega), List.getElem?_eq_none (by rw [List.length_map, List.length_range]; omega)]
theorem all2_len {R : D → D → Prop} : ∀ {xs ys : List D}, All2 R xs ys → ys.length = xs.length
  | _, _, .nil => rfl
  | _, _, .cons _ r => by rw [List.length_cons, List.length_cons, all2_len r]
theorem all2_all {R : D → D → Prop} {P : D → Prop} (h : ∀ x y, R x y → P y) : ∀ {xs ys : List D}, All2 R xs ys → ∀ y ∈ ys, P y
  | _, _, .nil => fun _ h => nomatch h
  | _, _, .cons r rs => fun y hy => (List.mem_cons.mp hy).elim (fun e => e ▸ h _ _ r) (all2_all h rs y)
theorem all2_mem {R : D → D → Prop} : ∀ {xs ys : List D}, All2 R xs ys → ∀ {i : Nat} {x : D}, xs[i]? = some x → ∃ y, ys[i]? = some y ∧ R x y
  | _, _, .nil, i, x, h => by simp at h
  | _, _, .cons r rs, 0, x, h => by simp at h; subst h; exact ⟨_, rfl, r⟩
  | _, _, .cons r rs, i + 1, x, h => by simpa using all2_mem rs (i := i) (by simpa using h)
theorem at_last {xs : List D} {x : D} : atI (xs ++ [x]) (-1) = some x := by
  unfold atI ixN
  rw [List.length_append, List.length_singleton, if_neg (by omega), if_pos (by omega)]
  show (xs ++ [x])[((-1 : Int) + ((xs.length + 1 : Nat) : Int)).toNat]? = some x
  rw [show ((-1 : Int) + ((xs.length + 1 : Nat) : Int)).toNat = xs.length from by omega]
  simp
/-- couples of letters and rows -/
theorem zip_steps : ∀ {Ls : List Str} {gs : List (Nat → Nat)}, Ls.Nodup → Ls.length ≤ gs.length → ∃ f : Str → Nat → Nat, (∀ l ∈ Ls, ∃ g ∈ gs, f l = g) ∧ zipD (Ls.map .str) (gs.map (rowD n)) = (stepsOf n Ls f).map fun d => d
  | [], _, _, _ => ⟨fun _ k => k, (fun _ h => nomatch h), by cases (by assumption : List (Nat → Nat)) <;> rfl⟩
  | l :: Ls, [], _, h => by simp at h
  | l :: Ls, g :: gs, nd, h => by
    obtain ⟨nl, nd⟩ := List.nodup_cons.mp nd
    obtain ⟨f, h1, h2⟩ := zip_steps (gs := gs) nd (by simpa using h)
    refine ⟨fun s => if s = l then g else f s, fun s hs => ?_, ?_⟩
    · rcases List.mem_cons.mp hs with rfl | hs
      · exact ⟨g, List.mem_cons_self, if_pos rfl⟩
      · obtain ⟨g', h3, h4⟩ := h1 s hs
        exact ⟨g', List.mem_cons_of_mem _ h3, by rw [← h4]; exact if_neg fun e : s = l => nl (by rw [← e]; exact hs)⟩
    · rw [List.map_id'] at h2 ⊢
      have e : stepsOf n Ls (fun s => if s = l then g else f s) = stepsOf n Ls f := List.map_congr_left fun s hs => by
        have : s ≠ l := fun e => nl (by rw [← e]; exact hs)
        simp only [if_neg this]
      have e2 : stepsOf n (l :: Ls) (fun s => if s = l then g else f s) = PyData.tuple [.str l, rowD n g] :: stepsOf n Ls f := by
        rw [← e]
        show PyData.tuple [.str l, .tuple ((List.range n).map fun k => .int ((if l = l then g else f l) k : Nat))] :: _ = _
        rw [if_pos rfl]
        rfl
      rw [e2, ← h2]
      rfl
end K22

/-! _law_step -/
namespace K22
open PySem PySem.Spec PyProof.Rows L2 VL
variable {b : List D} {Q : M → List M → Prop} {E : Ex → List M → Prop} {n : Nat} {Ls : List Str} {f : Str → Nat → Nat} {tk : Nat → Nat} {outs : List D} {k : Nat} {s : Str}
theorem s_law_step {n : Nat} {Ls : List Str} {f : Str → Nat → Nat} {tk : Nat → Nat} {outs : List D} {k : Nat} {s : Str} (hl : Ls.length ≤ 100) (hk : k < n) (hs : s ∈ Ls) (q : Q (.fz (.int (f s k : Nat))) []) : sp__law_step [.fz (mc n Ls f tk outs), .fz (.int (k : Nat)), .fz (.str s)] Q E := by
  refine e_body rfl (by simp only [List.map_cons, List.map_nil, List.length_cons, List.length_nil, Nat.reduceAdd, Nat.reduceSub, List.replicate, List.replicate_zero, List.cons_append, List.nil_append]; rfl) ?_
  unfold g__law_step mc
  walk_at "vl"
  refine e_3 ?_ rfl (by unfold stepsOf; rw [List.length_map]; omega)
  refine lc_filt (oneP s) snd2 (fun d hd Qy Qn hy hn => ?_) ?_
  · obtain ⟨l, _, rfl⟩ := List.mem_map.mp hd
    walk_at "vl"
    · refine e_ite (fun hz => ?_) (fun hz => ?_)
      · walk_at "vl"
        exact hy hz
      · walk_at "vl"
        exact hn hz
    · exact ⟨by simp, by simp⟩
  · walk_at "vl"
    obtain ⟨r, hr⟩ := step_find (n := n) (f := f) hs
    rw [hr]
    refine e_ix atI_0 ?_
    walk_at "vl"
    refine e_ix (atI_of (by omega) (x := .int (f s k : Nat)) (by rw [Int.toNat_natCast, List.getElem?_map, List.getElem?_range hk]; rfl)) ?_
    walk_at "vl"
    exact q
end K22

/-! ticked -/
namespace K22
open PySem PySem.Spec PyProof.Rows L2 VL
variable {b : List D} {Q : M → List M → Prop} {E : Ex → List M → Prop} {n : Nat} {Ls : List Str} {f : Str → Nat → Nat} {tk : Nat → Nat} {outs : List D} {k : Nat} {s : Str}
theorem s_ticked (hk : k < n) (q : Q (.fz (.int (tk k : Nat))) []) : sp_ticked [.fz (mc n Ls f tk outs), .fz (.int (k : Nat))] Q E := by
  refine e_body rfl (by simp only [List.map_cons, List.map_nil, List.length_cons, List.length_nil, Nat.reduceAdd, Nat.reduceSub, List.replicate, List.replicate_zero, List.cons_append, List.nil_append]; rfl) ?_
  unfold g_ticked mc
  walk_at "vl"
  refine e_ix (at_row hk) ?_
  walk_at "vl"
  exact q
end K22

/-! stepped -/
namespace K22
open PySem PySem.Spec PyProof.Rows L2 VL
variable {b : List D} {Q : M → List M → Prop} {E : Ex → List M → Prop} {n : Nat} {Ls : List Str} {f : Str → Nat → Nat} {tk : Nat → Nat} {outs : List D} {k : Nat} {s : Str}
/-- stepped: of a letter that is there, and of one that is not -/
theorem s_stepped_aux : ∀ {Rs : List Str} {nx : VL.Env → Prop} {rt : M → VL.Env → Prop} {W : KX} {x3 x4 : Option M}, (s ∈ Rs → ∀ x3 x4, rt (.fz (.int (f s k : Nat))) ⟨[some (.fz (mc n Ls f tk outs)), some (.fz (.int (k : Nat))), some (.fz (.str s)), x3, x4], []⟩) → k < n →
    (s ∉ Rs → ∀ x3 x4, nx ⟨[some (.fz (mc n Ls f tk outs)), some (.fz (.int (k : Nat))), some (.fz (.str s)), x3, x4], []⟩) →
    sForL (gT 2 (gsCons (gN 3) (gsCons (gN 4) gsNil))) g_stepped_1 ⟨nx, rt, fun _ => False, fun _ => False⟩ W (stepsOf n Rs f) ⟨[some (.fz (mc n Ls f tk outs)), some (.fz (.int (k : Nat))), some (.fz (.str s)), x3, x4], []⟩
  | [], nx, rt, W, x3, x4, h1, hk, h2 => for_nil (h2 (by simp) _ _)
  | l :: Rs, nx, rt, W, x3, x4, h1, hk, h2 => by
    refine for_cons ?_
    walk_at "vl"
    unfold g_stepped_1
    walk_at "vl"
    · rw [v_str]
      refine e_ite (fun hz => ?_) (fun hz => ?_)
      · have el : l = s := of_decide_eq_true hz
        subst el
        walk_at "vl"
        refine e_ix (at_row hk) ?_
        walk_at "vl"
        exact h1 List.mem_cons_self _ _
      · have el : ¬ l = s := of_decide_eq_false hz
        walk_at "vl"
        exact s_stepped_aux (fun h => h1 (List.mem_cons_of_mem _ h)) hk fun h => h2 fun c => (List.mem_cons.mp c).elim (fun e => el e.symm) h
    · exact ⟨by simp, by simp⟩
theorem s_stepped (hk : k < n) (hs : s ∈ Ls) (q : Q (.fz (.int (f s k : Nat))) []) : sp_stepped [.fz (mc n Ls f tk outs), .fz (.int (k : Nat)), .fz (.str s)] Q E := by
  refine e_body rfl (by simp only [List.map_cons, List.map_nil, List.length_cons, List.length_nil, Nat.reduceAdd, Nat.reduceSub, List.replicate, List.replicate_zero, List.cons_append, List.nil_append]; rfl) ?_
  unfold g_stepped mc
  walk_at "vl"
  refine s_stepped_aux (fun _ x3 x4 => ?_) hk fun h => absurd hs h
  walk_at "vl"
  exact q
theorem s_stepped_no (hk : k < n) (hs : s ∉ Ls) (q : E ⟨"Refused", [("why", .str "letter")]⟩ []) : sp_stepped [.fz (mc n Ls f tk outs), .fz (.int (k : Nat)), .fz (.str s)] Q E := by
  refine e_body rfl (by simp only [List.map_cons, List.map_nil, List.length_cons, List.length_nil, Nat.reduceAdd, Nat.reduceSub, List.replicate, List.replicate_zero, List.cons_append, List.nil_append]; rfl) ?_
  unfold g_stepped mc
  walk_at "vl"
  refine s_stepped_aux (fun h => absurd h hs) hk fun _ x3 x4 => ?_
  walk_at "vl"
  exact e_2 (e_b (a := []) rfl q) rfl
end K22

/-! _law_machine -/
namespace K22
open PySem PySem.Spec PyProof.Rows L2 VL
variable {b : List D} {Q : M → List M → Prop} {E : Ex → List M → Prop} {n : Nat} {Ls : List Str} {f : Str → Nat → Nat} {tk : Nat → Nat} {outs : List D} {k : Nat} {s : Str}
def gAppM : FS := sDrop (fApp 4 (fOp gTuple (aP (fLc (fRgI1 (fVar 2)) [9] (gN 9) (fYes) (fIf (fOr (fTr (fVar 8)) (fTB (fOp gEq (aP (fCall sp__law_take [0] (aP (fVar 0) (aL (fC (.int 3)) (aNil)))) (aP (fC (.int 0)) aNil))))) (fVar 9) (fOp gIx (aP (fVar 7) (aP (fVar 9) aNil))))) (aNil))))
theorem mach_app {Ls : List Str} {os : List D} {gs : List (Nat → Nat)} {g0 : Nat → Nat} {wd : Str} {x8 : Bool} (hb : BagOk b) (h0 : 0 < n) (h9 : n ≤ 45) (hg0 : ∀ k, k < n → g0 k < n) (few : gs.length ≤ 100) {nx : VL.Env → Prop} {rt : M → VL.Env → Prop} {bk ct : VL.Env → Prop} {W : KX}
    (hn : ∀ b g, BagOk b → (∀ k, k < n → g k < n) → nx ⟨[some (.lst b), some (.fz (.tuple (Ls.map .str))), some (.fz (.int (n : Nat))), some (.fz (.list os)), some (.lst ((gs ++ [g]).map (rowD n))), some (.fz (.str wd)), none, some (.lst ((List.range n).map fun k => .int (g0 k : Nat))), some (.fz (.bool x8)), none], [0]⟩) :
    gAppM ⟨[some (.lst b), some (.fz (.tuple (Ls.map .str))), some (.fz (.int (n : Nat))), some (.fz (.list os)), some (.lst (gs.map (rowD n))), some (.fz (.str wd)), none, some (.lst ((List.range n).map fun k => .int (g0 k : Nat))), some (.fz (.bool x8)), none], [0]⟩ ⟨nx, rt, bk, ct⟩ W := by
  unfold gAppM
  walk_at "vl"
  refine e_2 ?_ (by omega)
  refine e_3 ?_ rfl (by rw [rgD_length]; omega)
  refine lc_inv (fun e => ∃ b, BagOk b ∧ e = ⟨[some (.lst b), some (.fz (.tuple (Ls.map .str))), some (.fz (.int (n : Nat))), some (.fz (.list os)), some (.lst (gs.map (rowD n))), some (.fz (.str wd)), none, some (.lst ((List.range n).map fun k => .int (g0 k : Nat))), some (.fz (.bool x8)), none], [0]⟩) (fun _ y => Below n y) ⟨_, hb, rfl⟩ ?_ ?_
  · rintro dd hd e ⟨b, hb, rfl⟩ Qy Qn hq
    obtain ⟨s, rfl, s0, s1⟩ := rg_mem hd
    obtain ⟨k, rfl⟩ := Int.eq_ofNat_of_zero_le s0
    have hk : k < n := by omega
    have own : Below n (.int (k : Nat)) := ⟨k, hk, rfl⟩
    walk_at "vl"
    refine e_ite (fun hz => ?_) (fun hz => ?_)
    · subst hz
      walk_at "vl"
      exact hq _ _ own ⟨b, hb, rfl⟩
    · subst hz
      walk_at "vl"
      refine s_take hb (by omega) (by omega) fun v b hv hw hb => ?_
      walk_at "vl"
      · rw [v_int]
        refine e_ite (fun hz => ?_) (fun hz => ?_)
        · walk_at "vl"
          exact hq _ _ own ⟨b, hb, rfl⟩
        · walk_at "vl"
          refine e_ix (at_row hk) ?_
          walk_at "vl"
          exact hq _ _ ⟨_, hg0 k hk, rfl⟩ ⟨b, hb, rfl⟩
      · exact ⟨by simp, by simp⟩
  · rintro ys e ha ⟨b, hb, rfl⟩
    have yl : ys.length = n := by rw [all2_len ha, rgD_length]; omega
    obtain ⟨g, hg, rfl⟩ := row_of yl (all2_all (R := fun _ y => Below n y) (P := Below n) (fun _ _ h => h) ha)
    clear ha yl
    walk_at "vl"
    refine e_2 ?_ (by rw [List.length_map]; omega)
    walk_at "vl"
    have := hn b g hb hg
    rw [List.map_append] at this
    exact this
theorem s_machine {Ls : List Str} {os : List D} (hb : BagOk b) (h0 : 0 < n) (h9 : n ≤ 45) (nd : Ls.Nodup) (h3 : Ls.length ≤ 20) (nt : ∀ l ∈ Ls, l ≠ tick) (o0 : 0 < os.length) (o1 : os.length ≤ 1000) (ho : ∀ d ∈ os, ∃ x ∈ (["no", "yes", "some"] : List Str), d = .str x)
    (q : ∀ f tk outs b', MOk n Ls f tk outs → BagOk b' → Q (.fz (mc n Ls f tk outs)) [.lst b']) : sp__law_machine [.lst b, .fz (.tuple (Ls.map .str)), .fz (.int (n : Nat)), .fz (.list os)] Q E := by
  refine e_body rfl (by simp only [List.map_cons, List.map_nil, List.length_cons, List.length_nil, Nat.reduceAdd, Nat.reduceSub, List.replicate, List.replicate_zero, List.cons_append, List.nil_append]; rfl) ?_
  unfold g__law_machine
  walk_at "vl"
  · refine for_inv (fun dn ds e => ∃ (b : List D) (gs : List (Nat → Nat)) (ws : List Str) (x5 x7 x8 : Option M), BagOk b ∧ ds = ws.map .str ∧ gs.length + ws.length = Ls.length + 1 ∧ (∀ g ∈ gs, ∀ k, k < n → g k < n) ∧
      e = ⟨[some (.lst b), some (.fz (.tuple (Ls.map .str))), some (.fz (.int (n : Nat))), some (.fz (.list os)), some (.lst (gs.map (rowD n))), x5, none, x7, x8, none], [0]⟩) (dn := [])
      ⟨b, [], Ls ++ [tick], none, none, none, hb, by rw [List.map_append]; rfl, by simp, (fun _ h => nomatch h), rfl⟩ ?_ ?_ mono_gN
    · rintro dn d ds e ⟨b, gs, ws, x5, x7, x8, hb, hds, hlen, hgs, rfl⟩
      cases ws with
      | nil => cases hds
      | cons wd ws =>
        rw [List.map_cons] at hds
        obtain ⟨rfl, rfl⟩ := List.cons.inj hds
        walk_at "vl"
        intro nx' hn
        unfold g__law_machine_1
        show sSeq _ (sSeq _ gAppM) _ _ _
        walk_at "vl"
        refine e_2 ?_ (by omega)
        refine e_3 ?_ rfl (by rw [rgD_length]; omega)
        refine lc_inv (fun e => ∃ b, BagOk b ∧ e = ⟨[some (.lst b), some (.fz (.tuple (Ls.map .str))), some (.fz (.int (n : Nat))), some (.fz (.list os)), some (.lst (gs.map (rowD n))), some (.fz (.str wd)), none, x7, x8, none], [0]⟩) (fun _ y => Below n y) ⟨_, hb, rfl⟩ ?_ ?_
        · rintro dd hd e ⟨b, hb, rfl⟩ Qy Qn hq
          walk_at "vl"
          refine s_take hb (by omega) (by omega) fun v b hv hw hb => ?_
          walk_at "vl"
          exact hq _ _ ⟨v.toNat, by omega, by congr 1; omega⟩ ⟨b, hb, rfl⟩
        · rintro ys e ha ⟨b, hb, rfl⟩
          have yl : ys.length = n := by rw [all2_len ha, rgD_length]; omega
          obtain ⟨g0, hg0, rfl⟩ := row_of yl (all2_all (R := fun _ y => Below n y) (P := Below n) (fun _ _ h => h) ha)
          clear ha yl
          walk_at "vl"
          refine s_take hb (by omega) (by omega) fun v b hv hw hb => ?_
          walk_at "vl"
          · have fin : ∀ (b : List D) (x8 : Bool) (g : Nat → Nat), BagOk b → (∀ k, k < n → g k < n) → nx' ⟨[some (.lst b), some (.fz (.tuple (Ls.map .str))), some (.fz (.int (n : Nat))), some (.fz (.list os)), some (.lst ((gs ++ [g]).map (rowD n))), some (.fz (.str wd)), none, some (.lst ((List.range n).map fun k => .int (g0 k : Nat))), some (.fz (.bool x8)), none], [0]⟩ := fun b x8 g hb hg =>
              hn _ ⟨b, gs ++ [g], ws, _, _, _, hb, rfl, by rw [List.length_append, List.length_singleton]; simp only [List.length_cons] at hlen; omega, fun g' hg' => (List.mem_append.mp hg').elim (hgs g') fun e => by rw [List.mem_singleton.mp e]; exact hg, rfl⟩
            have few : gs.length ≤ 100 := by simp only [List.length_cons] at hlen; omega
            rw [v_int]
            refine e_ite (fun hz => ?_) (fun hz => ?_)
            · walk_at "vl"
              exact mach_app hb h0 h9 hg0 few fun b g hb hg => fin b true g hb hg
            · walk_at "vl"
              · rw [v_str]
                refine e_ite (fun hz => ?_) (fun hz => ?_)
                · walk_at "vl"
                  refine s_take hb (by omega) (by omega) fun v b hv hw hb => ?_
                  walk_at "vl"
                  exact mach_app hb h0 h9 hg0 few fun b g hb hg => fin b _ g hb hg
                · walk_at "vl"
                  exact mach_app hb h0 h9 hg0 few fun b g hb hg => fin b false g hb hg
              · exact ⟨by simp, by simp⟩
          · exact ⟨by simp, by simp⟩
    · rintro dn e ⟨b, gs, ws, x5, x7, x8, hb, hds, hlen, hgs, rfl⟩
      have hw : ws = [] := by
        cases ws with
        | nil => rfl
        | cons _ _ => cases hds
      subst hw
      have hlen : gs.length = Ls.length + 1 := hlen
      obtain ⟨gl, gt, rfl⟩ : ∃ gl gt, gs = gl ++ [gt] := by
        have hne : gs ≠ [] := fun e => by rw [e] at hlen; simp at hlen
        exact ⟨gs.dropLast, gs.getLast hne, (List.dropLast_concat_getLast hne).symm⟩
      have gll : gl.length = Ls.length := by simp at hlen; exact hlen
      obtain ⟨f, hf, hz⟩ := zip_steps (n := n) (gs := gl ++ [gt]) nd (by simp; omega)
      rw [List.map_id'] at hz
      unfold g__law_machine_2
      walk_at "vl"
      rw [hz]
      refine e_3 ?_ rfl (by unfold stepsOf; rw [List.length_map]; omega)
      refine lc_map id (fun d hd Qy Qn hq => ?_) ?_
      · obtain ⟨l, _, rfl⟩ := List.mem_map.mp hd
        walk_at "vl"
        exact hq
      · rw [List.map_id]
        walk_at "vl"
        refine e_ix (d := rowD n gt) (by rw [List.map_append]; exact at_last) ?_
        walk_at "vl"
        refine e_2 ?_ (by omega)
        refine e_3 ?_ rfl (by rw [rgD_length]; omega)
        refine lc_inv (fun e => ∃ b, BagOk b ∧ e = ⟨[some (.lst b), some (.fz (.tuple (Ls.map .str))), some (.fz (.int (n : Nat))), some (.fz (.list os)), some (.fz (.list ((gl ++ [gt]).map (rowD n)))), x5, some (.fz (.tuple (stepsOf n Ls f))), x7, x8, none], [0]⟩) (fun _ y => y ∈ os) ⟨_, hb, rfl⟩ ?_ ?_
        · rintro dd hd e ⟨b, hb, rfl⟩ Qy Qn hq
          walk_at "vl"
          refine s_some hb o0 o1 (fun x b hx hb => ?_) (.inr rfl)
          walk_at "vl"
          exact hq _ _ hx ⟨b, hb, rfl⟩
        · rintro outs e ha ⟨b, hb, rfl⟩
          have ol : outs.length = n := by rw [all2_len ha, rgD_length]; omega
          have oo := all2_all (R := fun _ y => y ∈ os) (P := fun y => y ∈ os) (fun _ _ h => h) ha
          walk_at "vl"
          refine q f gt outs b ⟨h0, h9, h3, nt, fun l hl k hk => ?_, fun k hk => hgs gt (by simp) k hk, ol, fun d hd => ho d (oo d hd)⟩ hb
          obtain ⟨g, hg, e⟩ := hf l hl
          rw [e]
          exact hgs g hg k hk
  · rw [List.length_map]
    show Ls.length + 1 ≤ 16777216
    omega
end K22

/-! sorted things, sets -/
namespace K22
open PySem PySem.Spec PyProof.Rows L2 VL
def iD (k : Nat) : D := .int (k : Nat)
theorem iD_inj {a b : Nat} (e : iD a = iD b) : a = b := by unfold iD at e; injection e with e; omega
theorem uniq_of {α : Type} {lt : α → α → Prop} (irr : ∀ x, ¬ lt x x) (asy : ∀ x y, lt x y → ¬ lt y x) : ∀ {xs ys : List α}, xs.Pairwise lt → ys.Pairwise lt → (∀ k, k ∈ xs ↔ k ∈ ys) → xs = ys
  | [], [], _, _, _ => rfl
  | [], y :: ys, _, _, h => absurd ((h y).mpr List.mem_cons_self) (by simp)
  | x :: xs, [], _, _, h => absurd ((h x).mp List.mem_cons_self) (by simp)
  | x :: xs, y :: ys, h1, h2, h => by
    obtain ⟨a1, a2⟩ := List.pairwise_cons.mp h1
    obtain ⟨b1, b2⟩ := List.pairwise_cons.mp h2
    have e : x = y := by
      rcases List.mem_cons.mp ((h x).mp List.mem_cons_self) with e | hx
      · exact e
      · rcases List.mem_cons.mp ((h y).mpr List.mem_cons_self) with e | hy
        · exact e.symm
        · exact absurd (a1 y hy) (asy _ _ (b1 x hx))
    subst e
    rw [uniq_of irr asy a2 b2 fun k => ?_]
    constructor
    · intro hk
      rcases List.mem_cons.mp ((h k).mp (List.mem_cons_of_mem _ hk)) with e | z
      · exact absurd (a1 k hk) (by rw [e]; exact irr x)
      · exact z
    · intro hk
      rcases List.mem_cons.mp ((h k).mpr (List.mem_cons_of_mem _ hk)) with e | z
      · exact absurd (b1 k hk) (by rw [e]; exact irr x)
      · exact z
theorem sort_gen {α : Type} {enc : α → D} {lt : α → α → Prop} (inj : ∀ a c, enc a = enc c → a = c) (hlt : ∀ a c, PySem.W.dataLt (enc a) (enc c) = false → a ≠ c → lt c a) {xs : List α} (nd : xs.Nodup) : ∃ ys : List α, (xs.map enc).mergeSort (PySem.W.dataLe false id) = ys.map enc ∧ ys.Perm xs ∧ ys.Pairwise lt := by
  have hp : ((xs.map enc).mergeSort (PySem.W.dataLe false id)).Perm (xs.map enc) := List.mergeSort_perm _ _
  have hw := PySem.W.sort_pairwise (PySem.W.sortLe_total (listOrd itemOrd) false fun d : D => PySem.W.keyToks d) (xs.map enc)
  have hw : ((xs.map enc).mergeSort (PySem.W.dataLe false id)).Pairwise fun a b => PySem.W.dataLe false id a b = true := hw
  generalize (xs.map enc).mergeSort (PySem.W.dataLe false id) = S at hp hw ⊢
  obtain ⟨ys, rfl, hy⟩ : ∃ ys : List α, S = ys.map enc ∧ ys.Perm xs := by
    clear hw
    have all : ∀ d ∈ S, ∃ a, d = enc a := fun d hd => by
      obtain ⟨a, _, e⟩ := List.mem_map.mp (hp.mem_iff.mp hd)
      exact ⟨a, e.symm⟩
    obtain ⟨ys, rfl⟩ : ∃ ys : List α, S = ys.map enc := by
      clear hp
      induction S with
      | nil => exact ⟨[], rfl⟩
      | cons d S ih =>
        obtain ⟨a, rfl⟩ := all d List.mem_cons_self
        obtain ⟨ys, rfl⟩ := ih fun d hd => all d (List.mem_cons_of_mem _ hd)
        exact ⟨a :: ys, rfl⟩
    refine ⟨ys, rfl, ?_⟩
    have ndm : (xs.map enc).Nodup := List.pairwise_map.mpr (List.Pairwise.imp (S := fun a c => enc a ≠ enc c) (fun {a c} h e => h (inj _ _ e)) nd)
    have ndy : ys.Nodup := List.Pairwise.imp (S := fun a c => a ≠ c) (fun {a c} h e => h (congrArg enc e)) (List.pairwise_map.mp (hp.nodup_iff.mpr ndm))
    refine (List.perm_ext_iff_of_nodup ndy nd).mpr fun k => ?_
    have := hp.mem_iff (a := enc k)
    rw [List.mem_map, List.mem_map] at this
    exact ⟨fun h => by obtain ⟨c, h1, h2⟩ := this.mp ⟨k, h, rfl⟩; rw [← inj _ _ h2]; exact h1, fun h => by obtain ⟨c, h1, h2⟩ := this.mpr ⟨k, h, rfl⟩; rw [← inj _ _ h2]; exact h1⟩
  refine ⟨ys, rfl, hy, ?_⟩
  rw [List.pairwise_map] at hw
  refine List.Pairwise.imp_of_mem ?_ (hw.and (hy.nodup_iff.mpr nd))
  intro x y _ _ ⟨h1, h2⟩
  have h1 : (!PySem.W.dataLt (enc y) (enc x)) = true := h1
  exact hlt y x (by simpa using h1) fun e => h2 e.symm
theorem sort_ints {xs : List Nat} (nd : xs.Nodup) : ∃ ys : List Nat, (xs.map iD).mergeSort (PySem.W.dataLe false id) = ys.map iD ∧ ys.Perm xs ∧ ys.Pairwise (· < ·) :=
  sort_gen (fun a c e => iD_inj e) (fun a c h ne => by
    have h : PySem.W.dataLt (.int (a : Nat)) (.int (c : Nat)) = false := h
    rw [PySem.W.dataLt_int] at h
    have := of_decide_eq_false h
    omega) nd
theorem sort_strs {xs : List Str} (nd : xs.Nodup) : ∃ ys : List Str, (xs.map PyData.str).mergeSort (PySem.W.dataLe false id) = ys.map .str ∧ ys.Perm xs ∧ ys.Pairwise ltS :=
  sort_gen (fun a c e => by injection e) (fun a c h ne => by
    rw [ltD_s] at h
    have h := of_decide_eq_false h
    show c.cps.toList < a.cps.toList
    by_cases q : c.cps.toList < a.cps.toList
    · exact q
    · exact absurd (PySem.W.str_of_cps (List.le_antisymm q h)) ne) nd
theorem ints_one {xs ys : List Nat} (h1 : xs.Nodup) (h2 : ys.Nodup) (h : ∀ k, k ∈ xs ↔ k ∈ ys) : (xs.map iD).mergeSort (PySem.W.dataLe false id) = (ys.map iD).mergeSort (PySem.W.dataLe false id) := by
  obtain ⟨a, e1, p1, w1⟩ := sort_ints h1
  obtain ⟨c, e2, p2, w2⟩ := sort_ints h2
  rw [e1, e2, uniq_of (fun x => Nat.lt_irrefl x) (fun x y h => Nat.lt_asymm h) w1 w2 fun k => by rw [p1.mem_iff, p2.mem_iff, h k]]
theorem strs_one {xs ys : List Str} (h1 : xs.Nodup) (h2 : ys.Nodup) (h : ∀ k, k ∈ xs ↔ k ∈ ys) : (xs.map PyData.str).mergeSort (PySem.W.dataLe false id) = (ys.map PyData.str).mergeSort (PySem.W.dataLe false id) := by
  obtain ⟨a, e1, p1, w1⟩ := sort_strs h1
  obtain ⟨c, e2, p2, w2⟩ := sort_strs h2
  rw [e1, e2, uniq_of (lt := ltS) (fun x => List.lt_irrefl _) (fun x y h => List.lt_asymm h) w1 w2 fun k => by rw [p1.mem_iff, p2.mem_iff, h k]]
section
variable {vs : List Nat} {g : FG} {ft : FT} {fe : FE} {env : VL.Env}
theorem scL_cons {d : D} {ds : List D} {env : VL.Env} {k : List Key → VL.Env → Prop} (h : lcT vs g ft fe d env (fun y e => ∃ j, y = kD j ∧ fScL vs g ft fe ds e fun ks e4 => k (j :: ks) e4) fun e => fScL vs g ft fe ds e k) : fScL vs g ft fe (d :: ds) env k := h
theorem sc_map (g0 : D → Key) : ∀ {ds : List D} {k : List Key → VL.Env → Prop} (_ : ∀ d ∈ ds, ∀ Qy Qn, Qy (kD (g0 d)) env → lcT vs g ft fe d env Qy Qn) (_ : k (ds.map g0) env), fScL vs g ft fe ds env k
  | [], _, _, hk => hk
  | d :: ds, k, h, hk => scL_cons (h d List.mem_cons_self _ _ ⟨g0 d, rfl, sc_map g0 (fun x hx => h x (List.mem_cons_of_mem _ hx)) hk⟩)
end
theorem inrs_of : ∀ {L : List Key}, (∀ j ∈ L, ∃ x : Str, j = .inr x) → ∃ xs : List Str, L = xs.map Sum.inr
  | [], _ => ⟨[], rfl⟩
  | j :: L, h => by
    obtain ⟨x, rfl⟩ := h j List.mem_cons_self
    obtain ⟨xs, rfl⟩ := inrs_of fun j hj => h j (List.mem_cons_of_mem _ hj)
    exact ⟨x :: xs, rfl⟩
theorem kd_inr (xs : List Str) : (xs.map (Sum.inr : Str → Key)).map kD = xs.map .str := by rw [List.map_map]; rfl
/-- a set of texts, sorted -/
theorem sorted_strs {L : List Key} {xs : List Str} (nd : L.Nodup) (h : ∀ j, j ∈ L ↔ j ∈ xs.map (Sum.inr : Str → Key)) : OneKind L ∧ ∀ ys : List Key, ys.Perm L → ∃ zs : List Str, zs.Nodup ∧ (∀ x, x ∈ zs ↔ x ∈ xs) ∧ (ys.map kD).mergeSort (PySem.W.dataLe false id) = (zs.map PyData.str).mergeSort (PySem.W.dataLe false id) := by
  have all : ∀ j ∈ L, ∃ x : Str, j = .inr x := fun j hj => by
    obtain ⟨x, _, e⟩ := List.mem_map.mp ((h j).mp hj)
    exact ⟨x, e.symm⟩
  refine ⟨.inr (inrs_of all), fun ys hp => ?_⟩
  obtain ⟨zs, rfl⟩ := inrs_of fun j hj => all j (hp.mem_iff.mp hj)
  have ndz : (zs.map (Sum.inr : Str → Key)).Nodup := hp.nodup_iff.mpr nd
  have inr_mem : ∀ {l : List Str} {x : Str}, (Sum.inr x : Key) ∈ l.map (Sum.inr : Str → Key) ↔ x ∈ l := fun {l x} => by
    rw [List.mem_map]
    exact ⟨fun ⟨y, hy, e⟩ => by injection e with e; rw [← e]; exact hy, fun hx => ⟨x, hx, rfl⟩⟩
  refine ⟨zs, List.Pairwise.imp (S := fun a c => a ≠ c) (fun {a c} h e => h (congrArg _ e)) (List.pairwise_map.mp ndz), fun x => ?_, by rw [kd_inr]⟩
  rw [← inr_mem (l := zs), hp.mem_iff, h, inr_mem]
/-- states as keys -/
def inD' (k : Nat) : Key := .inl (k : Int)
theorem inl_inj {a b : Nat} (h : inD' a = inD' b) : a = b := by unfold inD' at h; injection h with h; omega
def asc (n : Nat) (xs : List Nat) : List Nat := (List.range n).filter fun k => decide (k ∈ xs)
theorem asc_mem {n : Nat} {xs : List Nat} (h : ∀ k ∈ xs, k < n) {k : Nat} : k ∈ asc n xs ↔ k ∈ xs := by
  unfold asc
  rw [List.mem_filter, List.mem_range]
  exact ⟨fun ⟨_, h⟩ => of_decide_eq_true h, fun hk => ⟨h k hk, decide_eq_true hk⟩⟩
theorem asc_lt {n : Nat} {xs : List Nat} {k : Nat} (h : k ∈ asc n xs) : k < n := List.mem_range.mp (List.mem_filter.mp h).1
theorem asc_pw {n : Nat} {xs : List Nat} : (asc n xs).Pairwise (· < ·) := List.Pairwise.filter _ List.pairwise_lt_range
theorem asc_nd {n : Nat} {xs : List Nat} : (asc n xs).Nodup := List.Pairwise.imp (fun h e => absurd h (by rw [e]; exact Nat.lt_irrefl _)) (asc_pw (n := n) (xs := xs))
theorem asc_len {n : Nat} {xs : List Nat} : (asc n xs).length ≤ n := by
  have := List.length_filter_le (fun k => decide (k ∈ xs)) (List.range n)
  rw [List.length_range] at this
  exact this
theorem asc_congr {n : Nat} {xs ys : List Nat} (h : ∀ k, k ∈ xs ↔ k ∈ ys) : asc n xs = asc n ys := by
  unfold asc
  exact List.filter_congr fun k _ => by rw [decide_eq_decide]; exact h k
/-- sorted, in the one way -/
theorem sort_asc {n : Nat} {xs ys : List Nat} (nd : ys.Nodup) (hm : ∀ k, k ∈ ys ↔ k ∈ xs) (h : ∀ k ∈ xs, k < n) : (ys.map iD).mergeSort (PySem.W.dataLe false id) = (asc n xs).map iD := by
  obtain ⟨a, e1, p1, w1⟩ := sort_ints nd
  rw [e1, uniq_of (fun x => Nat.lt_irrefl x) (fun x y h => Nat.lt_asymm h) w1 asc_pw fun k => by rw [p1.mem_iff, hm k, asc_mem h]]
theorem inls_of : ∀ {L : List Key}, (∀ j ∈ L, ∃ k : Nat, j = inD' k) → ∃ xs : List Nat, L = xs.map inD'
  | [], _ => ⟨[], rfl⟩
  | j :: L, h => by
    obtain ⟨x, rfl⟩ := h j List.mem_cons_self
    obtain ⟨xs, rfl⟩ := inls_of fun j hj => h j (List.mem_cons_of_mem _ hj)
    exact ⟨x :: xs, rfl⟩
theorem kd_inl (xs : List Nat) : (xs.map inD').map kD = xs.map iD := by rw [List.map_map]; rfl
theorem mem_inl {xs : List Nat} {k : Nat} : inD' k ∈ xs.map inD' ↔ k ∈ xs := by
  rw [List.mem_map]
  exact ⟨fun ⟨y, hy, e⟩ => by rw [← inl_inj e]; exact hy, fun hx => ⟨k, hx, rfl⟩⟩
theorem one_inl (xs : List Nat) : OneKind (xs.map inD') := .inl ⟨xs.map fun k : Nat => (k : Int), by rw [List.map_map]; rfl⟩
/-- a set of states, sorted -/
theorem set_ints {n : Nat} {xs : List Nat} (h : ∀ k ∈ xs, k < n) (hl : xs.length ≤ 4000) : ∃ ks : List Key, xs.map iD = ks.map kD ∧ ks.length ≤ 4000 ∧ ∀ L : List Key, L.Nodup → (∀ j, j ∈ L ↔ j ∈ ks) → OneKind L ∧ ∀ ys : List Key, ys.Perm L → (ys.map kD).mergeSort (PySem.W.dataLe false id) = (asc n xs).map iD := by
  refine ⟨xs.map inD', (kd_inl xs).symm, by rw [List.length_map]; exact hl, fun L nd hL => ?_⟩
  have key : ∀ ys : List Key, ys.Perm L → ∃ zs : List Nat, ys = zs.map inD' ∧ zs.Nodup ∧ ∀ k, k ∈ zs ↔ k ∈ xs := fun ys hp => by
    obtain ⟨zs, rfl⟩ := inls_of (L := ys) fun j hj => by
      obtain ⟨k, _, e⟩ := List.mem_map.mp ((hL j).mp (hp.mem_iff.mp hj))
      exact ⟨k, e.symm⟩
    have ndz := hp.nodup_iff.mpr nd
    exact ⟨zs, rfl, List.Pairwise.imp (S := fun a c => a ≠ c) (fun {a c} h e => h (congrArg _ e)) (List.pairwise_map.mp ndz), fun k => by rw [← mem_inl (xs := zs), hp.mem_iff, hL, mem_inl]⟩
  refine ⟨?_, fun ys hp => ?_⟩
  · obtain ⟨zs, e, _⟩ := key L (.refl _)
    rw [e]; exact one_inl zs
  · obtain ⟨zs, rfl, nz, hz⟩ := key ys hp
    rw [kd_inl]
    exact sort_asc nz hz h
/-- dicts from states to True -/
def trueKes (S : List Nat) : Kes := S.map fun k => (inD' k, .bool true)
def addN (S : List Nat) (k : Nat) : List Nat := if k ∈ S then S else S ++ [k]
theorem has_true {S : List Nat} {k : Nat} : hasK (trueKes S) (inD' k) = decide (k ∈ S) := by
  unfold hasK trueKes
  rw [List.any_map]
  by_cases h : k ∈ S
  · rw [decide_eq_true h, List.any_eq_true]
    exact ⟨k, h, decide_eq_true rfl⟩
  · rw [decide_eq_false h, List.any_eq_false]
    exact fun x hx e => h (by
      have := of_decide_eq_true e
      rw [← inl_inj this]; exact hx)
theorem put_true {S : List Nat} {k : Nat} : putKes (trueKes S) (inD' k) (.bool true) = trueKes (addN S k) := by
  unfold putKes addN
  rw [has_true]
  by_cases h : k ∈ S
  · rw [if_pos (decide_eq_true h), if_pos h]
    unfold trueKes
    rw [List.map_map]
    refine List.map_congr_left fun x _ => ?_
    show (if inD' x = inD' k then (inD' x, PyData.bool true) else (inD' x, PyData.bool true)) = _
    split <;> rfl
  · rw [if_neg (by rw [decide_eq_false h]; exact Bool.false_ne_true), if_neg h]
    unfold trueKes
    rw [List.map_append]
    rfl
theorem addN_mem {S : List Nat} {k j : Nat} : j ∈ addN S k ↔ j ∈ S ∨ j = k := by
  unfold addN
  split
  · exact ⟨.inl, fun h => h.elim id fun e => by rw [e]; assumption⟩
  · rw [List.mem_append, List.mem_singleton]
theorem addN_nd {S : List Nat} {k : Nat} (h : S.Nodup) : (addN S k).Nodup := by
  unfold addN
  split
  · exact h
  · rename_i hk
    refine List.nodup_append.mpr ⟨h, by simp, fun a ha b hb e => hk ?_⟩
    rw [List.mem_singleton] at hb
    rw [← hb, ← e]; exact ha
def addAll (S xs : List Nat) : List Nat := xs.foldl addN S
theorem addAll_mem : ∀ {xs S : List Nat} {j : Nat}, j ∈ addAll S xs ↔ j ∈ S ∨ j ∈ xs
  | [], S, j => by simp [addAll]
  | x :: xs, S, j => by
    show j ∈ addAll (addN S x) xs ↔ _
    rw [addAll_mem, addN_mem, List.mem_cons, or_assoc]
theorem addAll_nd : ∀ {xs S : List Nat}, S.Nodup → (addAll S xs).Nodup
  | [], S, h => h
  | x :: xs, S, h => addAll_nd (xs := xs) (addN_nd h)
theorem addAll_len : ∀ {xs S : List Nat}, (addAll S xs).length ≤ S.length + xs.length
  | [], S => Nat.le_refl _
  | x :: xs, S => by
    have := addAll_len (xs := xs) (S := addN S x)
    have h2 : (addN S x).length ≤ S.length + 1 := by
      unfold addN
      split
      · omega
      · rw [List.length_append, List.length_singleton]; exact Nat.le_refl _
    show (addAll (addN S x) xs).length ≤ _
    rw [List.length_cons]
    omega
theorem fold_true : ∀ {xs S : List Nat}, xs.foldl (fun a k => putKes a (inD' k) (.bool true)) (trueKes S) = trueKes (addAll S xs)
  | [], S => rfl
  | x :: xs, S => by
    rw [List.foldl_cons, put_true, fold_true]
    rfl
theorem merge_true {S xs : List Nat} : mergeKes (trueKes S) (trueKes xs) = trueKes (addAll S xs) := by
  unfold mergeKes
  rw [← fold_true]
  unfold trueKes
  rw [List.foldl_map]
theorem keys_true {S : List Nat} : (trueKes S).map (·.1) = S.map inD' := by
  unfold trueKes
  rw [List.map_map]
  rfl
theorem nodup_len {α : Type} [DecidableEq α] : ∀ {xs ys : List α}, xs.Nodup → (∀ x ∈ xs, x ∈ ys) → xs.length ≤ ys.length
  | [], _, _, _ => Nat.zero_le _
  | x :: xs, ys, nd, h => by
    obtain ⟨nx, nd⟩ := List.nodup_cons.mp nd
    have hx := h x List.mem_cons_self
    have := nodup_len nd (ys := ys.erase x) fun y hy => (List.mem_erase_of_ne (fun e => nx (by rw [← e]; exact hy))).mpr (h y (List.mem_cons_of_mem _ hy))
    rw [List.length_erase_of_mem hx] at this
    have : 0 < ys.length := List.length_pos_of_mem hx
    rw [List.length_cons]
    omega
/-- a set of texts, sorted: the one ascending list -/
theorem set_strs {xs Ls : List Str} (pw : Ls.Pairwise ltS) (hm : ∀ x, x ∈ xs ↔ x ∈ Ls) (hl : xs.length ≤ 4000) : ∃ ks : List Key, xs.map PyData.str = ks.map kD ∧ ks.length ≤ 4000 ∧ ∀ L : List Key, L.Nodup → (∀ j, j ∈ L ↔ j ∈ ks) → OneKind L ∧ ∀ ys : List Key, ys.Perm L → (ys.map kD).mergeSort (PySem.W.dataLe false id) = Ls.map .str := by
  refine ⟨xs.map Sum.inr, (kd_inr xs).symm, by rw [List.length_map]; exact hl, fun L nd hL => ?_⟩
  obtain ⟨one, hs⟩ := sorted_strs nd hL
  refine ⟨one, fun ys hp => ?_⟩
  obtain ⟨zs, nz, hz, e⟩ := hs ys hp
  obtain ⟨a, e1, p1, w1⟩ := sort_strs nz
  rw [e, e1, uniq_of (lt := ltS) (fun x => List.lt_irrefl _) (fun x y h => List.lt_asymm h) w1 pw fun x => by rw [p1.mem_iff, hz x, hm x]]
end K22

/-! plans as data -/
namespace K22
open PySem PySem.Spec PyProof.Rows L2 VL
structure Src where
  name : Str
  rate : Nat
  ls : List Str
structure Fig where
  name : Str
  reads : List Str
  size : Nat
  slide : Nat
  n : Nat
  Ls : List Str
  f : Str → Nat → Nat
  tk : Nat → Nat
  outs : List D
structure Plan where
  ss : List Src
  pr : List (List Nat)
  fs : List Fig
def srcD (s : Src) : D := .tuple [.str s.name, iD s.rate, .tuple (s.ls.map .str)]
def Fig.mcD (F : Fig) : D := mc F.n F.Ls F.f F.tk F.outs
def figD (F : Fig) : D := .tuple [.str F.name, .tuple (F.reads.map .str), iD F.size, iD F.slide, F.mcD]
def prD (r : List Nat) : D := .tuple (r.map iD)
def planD (P : Plan) : D := .tuple [.tuple (P.ss.map srcD), .tuple (P.pr.map prD), .tuple (P.fs.map figD)]
def Ltr : List Str := ["x", "y", "up", "down", "q"]
def Nm7 : List Str := ["a", "b", "c", "pump", "door", "zz", "abcdefgh"]
def Fn4 : List Str := ["f", "g", "sum", "most"]
structure SrcOk (s : Src) : Prop where
  nm : s.name ∈ Nm7
  r1 : 1 ≤ s.rate
  r3 : s.rate ≤ 3
  l1 : s.ls ≠ []
  l5 : s.ls.length ≤ 5
  pw : s.ls.Pairwise ltS
  lm : ∀ l ∈ s.ls, l ∈ Ltr
structure FigOk (ss : List Src) (F : Fig) : Prop where
  nm : F.name ∈ Fn4
  r1 : F.reads ≠ []
  r4 : F.reads.length ≤ 4
  rp : F.reads.Pairwise ltS
  rm : ∀ x ∈ F.reads, ∃ s ∈ ss, s.name = x
  s1 : 1 ≤ F.size
  s2 : F.size ≤ 24
  d1 : 1 ≤ F.slide
  d2 : F.slide ≤ 24
  m : MOk F.n F.Ls F.f F.tk F.outs
  lp : F.Ls.Pairwise ltS
  lm : ∀ l, l ∈ F.Ls ↔ ∃ s ∈ ss, s.name ∈ F.reads ∧ l ∈ s.ls
structure PlanOk (P : Plan) : Prop where
  s1 : P.ss ≠ []
  s4 : P.ss.length ≤ 4
  sp : (P.ss.map (·.name)).Pairwise ltS
  so : ∀ s ∈ P.ss, SrcOk s
  pl : P.pr.length = P.ss.length
  pr : ∀ r ∈ P.pr, r.length = P.ss.length ∧ ∀ k ∈ r, k ≤ 12
  f4 : P.fs.length ≤ 4
  fp : (P.fs.map (·.name)).Pairwise ltS
  fo : ∀ F ∈ P.fs, FigOk P.ss F
theorem ltS_ne {a c : Str} (h : ltS a c) : a ≠ c := fun e => List.lt_irrefl _ (show c.cps.toList < c.cps.toList from e ▸ h)
theorem pw_nd {L : List Str} (h : L.Pairwise ltS) : L.Nodup := List.Pairwise.imp ltS_ne h
/-- small names -/
theorem sm_lit {k N : Nat} (s : Str) (h : s.cps.toList.all (fun c => decide (c < 1000)) = true) (h2 : s.cps.size ≤ 20) (hN : 20 ≤ N) : Sm k N (.str s) := Sm.str (fun c hc => by
  have := of_decide_eq_true (List.all_eq_true.mp h c hc)
  omega) (by omega)
theorem sm_n {k N j : Nat} (h : j < 100000) : Sm k N (iD j) := Sm.int (by show ((j : Nat) : Int).natAbs < 10 ^ 12; omega)
theorem sm_ltr {l : Str} (h : l ∈ Ltr) {k N : Nat} (hN : 20 ≤ N) : Sm k N (.str l) := by
  unfold Ltr at h
  simp only [List.mem_cons, List.not_mem_nil, or_false] at h
  rcases h with rfl | rfl | rfl | rfl | rfl
  all_goals exact sm_lit _ (by decide) (by decide) hN
theorem sm_nm {l : Str} (h : l ∈ Nm7) {k N : Nat} (hN : 20 ≤ N) : Sm k N (.str l) := by
  unfold Nm7 at h
  simp only [List.mem_cons, List.not_mem_nil, or_false] at h
  rcases h with rfl | rfl | rfl | rfl | rfl | rfl | rfl
  all_goals exact sm_lit _ (by decide) (by decide) hN
theorem sm_fn {l : Str} (h : l ∈ Fn4) {k N : Nat} (hN : 20 ≤ N) : Sm k N (.str l) := by
  unfold Fn4 at h
  simp only [List.mem_cons, List.not_mem_nil, or_false] at h
  rcases h with rfl | rfl | rfl | rfl
  all_goals exact sm_lit _ (by decide) (by decide) hN
theorem sm_strs {L : List Str} {c : Nat} {R : Str → Prop} (h : ∀ l ∈ L, R l) (hR : ∀ l, R l → Sm 1 20 (.str l)) (hc : L.length ≤ c) {k N : Nat} (hk : 2 ≤ k) (hN : c * 21 ≤ N) : Sm k N (.tuple (L.map .str)) :=
  (Sm.tup (k := 1) (n := 20) (m := c) (N := N) (fun x hx => by obtain ⟨l, hl, rfl⟩ := List.mem_map.mp hx; exact hR l (h l hl)) (by rw [List.length_map]; exact hc) hN).mono hk (Nat.le_refl _)
theorem sm_nats {L : List Nat} {c : Nat} (h : ∀ l ∈ L, l < 100000) (hc : L.length ≤ c) {k N : Nat} (hk : 2 ≤ k) (hN : c ≤ N) : Sm k N (.tuple (L.map iD)) :=
  (Sm.tup (k := 1) (n := 0) (m := c) (N := N) (fun x hx => by obtain ⟨l, hl, rfl⟩ := List.mem_map.mp hx; exact sm_n (h l hl)) (by rw [List.length_map]; exact hc) (by omega)).mono hk (Nat.le_refl _)
theorem FigOk.ltr {ss : List Src} {F : Fig} (h : FigOk ss F) (so : ∀ s ∈ ss, SrcOk s) : ∀ l ∈ F.Ls, l ∈ Ltr := fun l hl => by
  obtain ⟨s, hs, _, h2⟩ := (h.lm l).mp hl
  exact (so s hs).lm l h2
theorem FigOk.l5 {ss : List Src} {F : Fig} (h : FigOk ss F) (so : ∀ s ∈ ss, SrcOk s) : F.Ls.length ≤ 5 := nodup_len (pw_nd h.lp) (ys := Ltr) (h.ltr so)
theorem sm_row {n : Nat} {g : Nat → Nat} (h9 : n ≤ 45) (hg : ∀ k, k < n → g k < n) : Sm 2 50 (.tuple ((List.range n).map fun k => .int (g k : Nat))) := by
  refine Sm.tup (n := 0) (m := 45) (fun x hx => ?_) (by rw [List.length_map, List.length_range]; omega) (by omega)
  obtain ⟨k, hk, rfl⟩ := List.mem_map.mp hx
  have := hg k (List.mem_range.mp hk)
  exact sm_n (j := g k) (by omega)
theorem sm_mac {n : Nat} {Ls : List Str} {f : Str → Nat → Nat} {tk : Nat → Nat} {outs : List D} (m : MOk n Ls f tk outs) (h6 : ∀ l ∈ Ls, Sm 2 20 (.str l)) : Sm 5 7000 (mc n Ls f tk outs) := by
  have n9 := m.n9
  have l3 := m.l3
  unfold mc
  refine Sm.tup (n := 2300) (m := 3) (fun x hx => ?_) (by simp) (by omega)
  simp only [List.mem_cons, List.not_mem_nil, or_false] at hx
  rcases hx with rfl | rfl | rfl
  · refine Sm.tup (n := 110) (m := 20) (fun x hx => ?_) (by unfold stepsOf; rw [List.length_map]; omega) (by omega)
    obtain ⟨l, hl, rfl⟩ := List.mem_map.mp hx
    refine Sm.tup (n := 50) (m := 2) (fun x hx => ?_) (by simp) (by omega)
    simp only [List.mem_cons, List.not_mem_nil, or_false] at hx
    rcases hx with rfl | rfl
    · exact (h6 l hl).mono (by omega) (by omega)
    · exact sm_row m.n9 fun k hk => m.fs l hl k hk
  · exact (sm_row m.n9 m.ts).mono (by omega) (by omega)
  · refine (Sm.tup (k := 1) (n := 20) (m := 45) (N := 1000) (fun x hx => ?_) (by rw [m.ol]; omega) (by omega)).mono (by omega) (by omega)
    obtain ⟨s, hs, rfl⟩ := m.os x hx
    simp only [List.mem_cons, List.not_mem_nil, or_false] at hs
    rcases hs with rfl | rfl | rfl
    all_goals exact sm_lit _ (by decide) (by decide) (by omega)
theorem sm_src {s : Src} (h : SrcOk s) : Sm 3 400 (srcD s) := by
  have := h.r3
  unfold srcD
  refine Sm.tup (n := 120) (m := 3) (fun x hx => ?_) (by simp) (by omega)
  simp only [List.mem_cons, List.not_mem_nil, or_false] at hx
  rcases hx with rfl | rfl | rfl
  · exact sm_nm h.nm (by omega)
  · exact sm_n (by omega)
  · exact sm_strs h.lm (fun l hl => sm_ltr hl (by omega)) h.l5 (by omega) (by omega)
theorem sm_fig {ss : List Src} (so : ∀ s ∈ ss, SrcOk s) {F : Fig} (h : FigOk ss F) : Sm 6 35100 (figD F) := by
  have := h.s2
  have := h.d2
  unfold figD
  refine Sm.tup (n := 7000) (m := 5) (fun x hx => ?_) (by simp) (by omega)
  simp only [List.mem_cons, List.not_mem_nil, or_false] at hx
  rcases hx with rfl | rfl | rfl | rfl | rfl
  · exact sm_fn h.nm (by omega)
  · exact sm_strs (c := 4) (R := fun l => l ∈ Nm7) (fun l hl => by obtain ⟨s, hs, e⟩ := h.rm l hl; rw [← e]; exact (so s hs).nm) (fun l hl => sm_nm hl (by omega)) h.r4 (by omega) (by omega)
  · exact sm_n (by omega)
  · exact sm_n (by omega)
  · exact sm_mac h.m fun l hl => sm_ltr (h.ltr so l hl) (by omega)
theorem sm_plan {P : Plan} (h : PlanOk P) : Sm 8 422000 (planD P) := by
  have := h.s4
  have := h.f4
  unfold planD
  refine Sm.tup (n := 140500) (m := 3) (fun x hx => ?_) (by simp) (by omega)
  simp only [List.mem_cons, List.not_mem_nil, or_false] at hx
  rcases hx with rfl | rfl | rfl
  · refine (Sm.tup (k := 3) (n := 400) (m := 4) (N := 2000) (fun x hx => ?_) (by rw [List.length_map]; omega) (by omega)).mono (by omega) (by omega)
    obtain ⟨s, hs, rfl⟩ := List.mem_map.mp hx
    exact sm_src (h.so s hs)
  · refine (Sm.tup (k := 2) (n := 10) (m := 4) (N := 100) (fun x hx => ?_) (by rw [List.length_map, h.pl]; omega) (by omega)).mono (by omega) (by omega)
    obtain ⟨r, hr, rfl⟩ := List.mem_map.mp hx
    obtain ⟨h1, h2⟩ := h.pr r hr
    exact sm_nats (c := 4) (fun l hl => by have := h2 l hl; omega) (by omega) (by omega) (by omega)
  · refine Sm.tup (n := 35100) (m := 4) (fun x hx => ?_) (by rw [List.length_map]; omega) (by omega)
    obtain ⟨F, hF, rfl⟩ := List.mem_map.mp hx
    exact sm_fig h.so (h.fo F hF)
end K22

/-! things found by their names -/
namespace K22
open PySem PySem.Spec PyProof.Rows L2 VL
variable {b : List D} {Q : M → List M → Prop} {E : Ex → List M → Prop} {P : Plan} {s : Src} {F : Fig} {x : Str}
theorem find_key {α : Type} {enc : α → D} {key : α → Str} (he : ∀ a, oneP x (enc a) = decide (key a = x)) {a : α} (hk : key a = x) : ∀ {l : List α}, (l.map key).Nodup → a ∈ l → ∃ r, (l.map enc).filter (oneP x) = enc a :: r
  | [], _, h => by simp at h
  | c :: l, nd, h => by
    rw [List.map_cons] at nd
    obtain ⟨n1, n2⟩ := List.nodup_cons.mp nd
    rw [List.map_cons]
    by_cases hc : key c = x
    · have e : a = c := by
        rcases List.mem_cons.mp h with e | h
        · exact e
        · exact absurd (List.mem_map.mpr ⟨a, h, hk.trans hc.symm⟩) n1
      subst e
      rw [List.filter_cons_of_pos (by rw [he]; exact decide_eq_true hc)]
      exact ⟨_, rfl⟩
    · rw [List.filter_cons_of_neg (by rw [he]; exact fun z => hc (of_decide_eq_true z))]
      rcases List.mem_cons.mp h with e | h
      · exact absurd (e ▸ hk) hc
      · exact find_key he hk n2 h
theorem one_src (s : Src) : oneP x (srcD s) = decide (s.name = x) := by
  show PyData.eqv (.str s.name) (.str x) = _
  rw [v_str]
  rfl
theorem one_fig (F : Fig) : oneP x (figD F) = decide (F.name = x) := by
  show PyData.eqv (.str F.name) (.str x) = _
  rw [v_str]
  rfl
theorem place_str : ∀ {L : List Str}, x ∈ L → ∃ j, SeqAt.dataPlace (L.map PyData.str) (.str x) = some j ∧ L[j]? = some x
  | [], h => by simp at h
  | y :: L, h => by
    unfold SeqAt.dataPlace
    rw [List.map_cons, List.findIdx?_cons, v_str]
    by_cases e : y = x
    · subst e
      exact ⟨0, by simp, rfl⟩
    · rcases List.mem_cons.mp h with e2 | h
      · exact absurd e2.symm e
      · obtain ⟨j, h1, h2⟩ := place_str h
        refine ⟨j + 1, ?_, by simpa using h2⟩
        have : (y == x) = false := by simpa using e
        rw [this]
        unfold SeqAt.dataPlace at h1
        simp [h1]
theorem at_key {α : Type} {key : α → Str} {a : α} (hk : key a = x) : ∀ {l : List α} {j : Nat}, (l.map key).Nodup → a ∈ l → (l.map key)[j]? = some x → l[j]? = some a
  | [], j, _, h, _ => by simp at h
  | c :: l, j, nd, h, hj => by
    rw [List.map_cons] at nd
    obtain ⟨n1, n2⟩ := List.nodup_cons.mp nd
    cases j with
    | zero =>
      have hc : key c = x := by simpa using hj
      rcases List.mem_cons.mp h with e | h
      · rw [e]; rfl
      · exact absurd (List.mem_map.mpr ⟨a, h, hk.trans hc.symm⟩) n1
    | succ j =>
      have hj : (l.map key)[j]? = some x := by simpa using hj
      rcases List.mem_cons.mp h with e | h
      · exact absurd (List.mem_of_getElem? (by rw [hj, ← hk, e])) n1
      · simpa using at_key hk n2 h hj
theorem any_strs {L : List Str} : ((L.map PyData.str).any fun y => PyData.eqv y (.str x)) = decide (x ∈ L) := by
  rw [List.any_map]
  by_cases h : x ∈ L
  · rw [decide_eq_true h, List.any_eq_true]
    exact ⟨x, h, by show PyData.eqv (.str x) (.str x) = true; rw [v_str]; simp⟩
  · rw [decide_eq_false h, List.any_eq_false]
    intro y hy e
    have e : PyData.eqv (.str y) (.str x) = true := e
    rw [v_str] at e
    exact h (by rw [← eq_of_beq e]; exact hy)
theorem pl_strs {L : List Str} {n : Nat} (hn : 0 < n) : Pl n (.tuple (L.map .str)) := by
  rw [Pl_tuple]
  exact ⟨hn, fun y hy => by obtain ⟨z, _, rfl⟩ := List.mem_map.mp hy; simp⟩
theorem pl_strsL {L : List Str} {n : Nat} (hn : 0 < n) : Pl n (.list (L.map .str)) := by
  rw [Pl_list]
  exact ⟨hn, fun y hy => by obtain ⟨z, _, rfl⟩ := List.mem_map.mp hy; simp⟩
end K22

/-! _law_source, _law_figure -/
namespace K22
open PySem PySem.Spec PyProof.Rows L2 VL
variable {b : List D} {Q : M → List M → Prop} {E : Ex → List M → Prop} {P : Plan} {s : Src} {F : Fig} {x : Str}
theorem s_law_source (h : PlanOk P) (hs : s ∈ P.ss) (hx : s.name = x) (q : Q (.fz (srcD s)) []) : sp__law_source [.fz (planD P), .fz (.str x)] Q E := by
  have := h.s4
  refine e_body rfl (by simp only [List.map_cons, List.map_nil, List.length_cons, List.length_nil, Nat.reduceAdd, Nat.reduceSub, List.replicate, List.replicate_zero, List.cons_append, List.nil_append]; rfl) ?_
  unfold g__law_source planD
  walk_at "vl"
  refine e_3 ?_ rfl (by rw [List.length_map]; omega)
  refine lc_filt (oneP x) id (fun d hd Qy Qn hy hn => ?_) ?_
  · obtain ⟨c, _, rfl⟩ := List.mem_map.mp hd
    unfold srcD
    walk_at "vl"
    · refine e_ite (fun hz => ?_) (fun hz => ?_)
      · walk_at "vl"
        exact hy hz
      · walk_at "vl"
        exact hn hz
    · exact ⟨by simp, by simp⟩
  · rw [List.map_id]
    obtain ⟨r, hr⟩ := find_key (enc := srcD) (key := (·.name)) (fun a => one_src a) hx (pw_nd h.sp) hs
    rw [hr]
    walk_at "vl"
    exact q
theorem s_law_figure (h : PlanOk P) (hF : F ∈ P.fs) (hx : F.name = x) (q : Q (.fz (figD F)) []) : sp__law_figure [.fz (planD P), .fz (.str x)] Q E := by
  have := h.f4
  refine e_body rfl (by simp only [List.map_cons, List.map_nil, List.length_cons, List.length_nil, Nat.reduceAdd, Nat.reduceSub, List.replicate, List.replicate_zero, List.cons_append, List.nil_append]; rfl) ?_
  unfold g__law_figure planD
  walk_at "vl"
  refine e_3 ?_ rfl (by rw [List.length_map]; omega)
  refine lc_filt (oneP x) id (fun d hd Qy Qn hy hn => ?_) ?_
  · obtain ⟨c, _, rfl⟩ := List.mem_map.mp hd
    unfold figD
    walk_at "vl"
    · refine e_ite (fun hz => ?_) (fun hz => ?_)
      · walk_at "vl"
        exact hy hz
      · walk_at "vl"
        exact hn hz
    · exact ⟨by simp, by simp⟩
  · rw [List.map_id]
    obtain ⟨r, hr⟩ := find_key (enc := figD) (key := (·.name)) (fun a => one_fig a) hx (pw_nd h.fp) hF
    rw [hr]
    walk_at "vl"
    exact q
end K22

/-! source_index, figure_of, letters_of .. -/
namespace K22
open PySem PySem.Spec PyProof.Rows L2 VL
variable {b : List D} {Q : M → List M → Prop} {E : Ex → List M → Prop} {P : Plan} {s : Src} {F : Fig} {x : Str}
theorem s_source_names (h : PlanOk P) (q : Q (.fz (.tuple ((P.ss.map (·.name)).map .str))) []) : sp_source_names [.fz (planD P)] Q E := by
  have := h.s4
  refine e_body rfl (by simp only [List.map_cons, List.map_nil, List.length_cons, List.length_nil, Nat.reduceAdd, Nat.reduceSub, List.replicate, List.replicate_zero, List.cons_append, List.nil_append]; rfl) ?_
  unfold g_source_names planD
  walk_at "vl"
  refine e_3 ?_ rfl (by rw [List.length_map]; omega)
  refine lc_map (fun d => match d with | .tuple (y :: _) => y | d => d) (fun d hd Qy Qn hq => ?_) ?_
  · obtain ⟨c, _, rfl⟩ := List.mem_map.mp hd
    unfold srcD at hq ⊢
    walk_at "vl"
    exact hq
  · rw [List.map_map]
    walk_at "vl"
    rw [List.map_map] at q
    exact q
theorem s_figure_names (h : PlanOk P) (q : Q (.fz (.tuple ((P.fs.map (·.name)).map .str))) []) : sp_figure_names [.fz (planD P)] Q E := by
  have := h.f4
  refine e_body rfl (by simp only [List.map_cons, List.map_nil, List.length_cons, List.length_nil, Nat.reduceAdd, Nat.reduceSub, List.replicate, List.replicate_zero, List.cons_append, List.nil_append]; rfl) ?_
  unfold g_figure_names planD
  walk_at "vl"
  refine e_3 ?_ rfl (by rw [List.length_map]; omega)
  refine lc_map (fun d => match d with | .tuple (y :: _) => y | d => d) (fun d hd Qy Qn hq => ?_) ?_
  · obtain ⟨c, _, rfl⟩ := List.mem_map.mp hd
    unfold figD at hq ⊢
    walk_at "vl"
    exact hq
  · rw [List.map_map]
    walk_at "vl"
    rw [List.map_map] at q
    exact q
theorem s_source_index (h : PlanOk P) (hs : s ∈ P.ss) (hx : s.name = x) (q : ∀ j : Nat, P.ss[j]? = some s → Q (.fz (iD j)) []) : sp_source_index [.fz (planD P), .fz (.str x)] Q E := by
  have hm : x ∈ P.ss.map (·.name) := List.mem_map.mpr ⟨s, hs, hx⟩
  refine e_body rfl (by simp only [List.map_cons, List.map_nil, List.length_cons, List.length_nil, Nat.reduceAdd, Nat.reduceSub, List.replicate, List.replicate_zero, List.cons_append, List.nil_append]; rfl) ?_
  unfold g_source_index
  walk_at "vl"
  refine s_source_names h ?_
  walk_at "vl"
  · rw [any_strs, decide_eq_true hm]
    refine e_iteF ?_
    walk_at "vl"
    obtain ⟨j, h1, h2⟩ := place_str hm
    refine ⟨pl_strs (by omega), by simp, j, h1, ?_⟩
    walk_at "vl"
    exact q j (at_key hx (pw_nd h.sp) hs h2)
  · exact ⟨by simp, pl_strs (by omega)⟩
theorem s_figure_index (h : PlanOk P) (hF : F ∈ P.fs) (hx : F.name = x) (q : ∀ j : Nat, P.fs[j]? = some F → Q (.fz (iD j)) []) : sp_figure_index [.fz (planD P), .fz (.str x)] Q E := by
  have hm : x ∈ P.fs.map (·.name) := List.mem_map.mpr ⟨F, hF, hx⟩
  refine e_body rfl (by simp only [List.map_cons, List.map_nil, List.length_cons, List.length_nil, Nat.reduceAdd, Nat.reduceSub, List.replicate, List.replicate_zero, List.cons_append, List.nil_append]; rfl) ?_
  unfold g_figure_index
  walk_at "vl"
  refine s_figure_names h ?_
  walk_at "vl"
  · rw [any_strs, decide_eq_true hm]
    refine e_iteF ?_
    walk_at "vl"
    obtain ⟨j, h1, h2⟩ := place_str hm
    refine ⟨pl_strs (by omega), by simp, j, h1, ?_⟩
    walk_at "vl"
    exact q j (at_key hx (pw_nd h.fp) hF h2)
  · exact ⟨by simp, pl_strs (by omega)⟩
theorem s_figure_index_no (h : PlanOk P) (hx : ∀ F ∈ P.fs, F.name ≠ x) (q : E ⟨"NoFigure", [("name", .str x)]⟩ []) : sp_figure_index [.fz (planD P), .fz (.str x)] Q E := by
  have hm : x ∉ P.fs.map (·.name) := fun z => by obtain ⟨F, hF, e⟩ := List.mem_map.mp z; exact hx F hF e
  refine e_body rfl (by simp only [List.map_cons, List.map_nil, List.length_cons, List.length_nil, Nat.reduceAdd, Nat.reduceSub, List.replicate, List.replicate_zero, List.cons_append, List.nil_append]; rfl) ?_
  unfold g_figure_index
  walk_at "vl"
  refine s_figure_names h ?_
  walk_at "vl"
  · rw [any_strs, decide_eq_false hm]
    refine e_iteT ?_
    walk_at "vl"
    exact e_2 (e_b (a := []) rfl q) rfl
  · exact ⟨by simp, pl_strs (by omega)⟩
theorem s_figure_of (h : PlanOk P) (hF : F ∈ P.fs) (hx : F.name = x) (q : Q (.fz (figD F)) []) : sp_figure_of [.fz (planD P), .fz (.str x)] Q E := by
  refine e_body rfl (by simp only [List.map_cons, List.map_nil, List.length_cons, List.length_nil, Nat.reduceAdd, Nat.reduceSub, List.replicate, List.replicate_zero, List.cons_append, List.nil_append]; rfl) ?_
  unfold g_figure_of
  have e : planD P = .tuple [.tuple (P.ss.map srcD), .tuple (P.pr.map prD), .tuple (P.fs.map figD)] := rfl
  rw [e]
  walk_at "vl"
  rw [← e]
  refine s_figure_index h hF hx fun j hj => ?_
  walk_at "vl"
  unfold iD
  walk_at "vl"
  refine e_ix (atI_of (by omega) (x := figD F) (by rw [Int.toNat_natCast, List.getElem?_map, hj]; rfl)) ?_
  walk_at "vl"
  exact q
theorem s_figure_of_no (h : PlanOk P) (hx : ∀ F ∈ P.fs, F.name ≠ x) (q : E ⟨"NoFigure", [("name", .str x)]⟩ []) : sp_figure_of [.fz (planD P), .fz (.str x)] Q E := by
  refine e_body rfl (by simp only [List.map_cons, List.map_nil, List.length_cons, List.length_nil, Nat.reduceAdd, Nat.reduceSub, List.replicate, List.replicate_zero, List.cons_append, List.nil_append]; rfl) ?_
  unfold g_figure_of
  have e : planD P = .tuple [.tuple (P.ss.map srcD), .tuple (P.pr.map prD), .tuple (P.fs.map figD)] := rfl
  rw [e]
  walk_at "vl"
  rw [← e]
  refine s_figure_index_no h hx ?_
  exact e_b (a := []) rfl q
end K22

/-! loops and comprehensions over coded lists -/
namespace K22
open PySem PySem.Spec PyProof.Rows L2 VL
section
variable {α β : Type} {enc : α → D} {g : FG} {body : FS} {W : KX} {nx : VL.Env → Prop} {rt : M → VL.Env → Prop} {bk ct : VL.Env → Prop}
theorem for_encA (enc : α → D) (I : List α → VL.Env → Prop) {xs : List α} (hs : ∀ dn x rest env (k : VL.Env → Prop), xs = dn ++ x :: rest → I dn env → (∀ e2, I (dn ++ [x]) e2 → k e2) → g (enc x) env fun e1 => body e1 ⟨k, rt, nx, k⟩ W) (hd : ∀ env, I xs env → nx env) : ∀ {ds dn : List α} {env : VL.Env}, xs = dn ++ ds → I dn env → sForL g body ⟨nx, rt, bk, ct⟩ W (ds.map enc) env
  | [], dn, env, e, h0 => by rw [List.append_nil] at e; subst e; exact for_nil (hd env h0)
  | x :: ds, dn, env, e, h0 => for_cons (hs dn x ds env _ e h0 fun e2 h2 => for_encA enc I hs hd (by rw [e, List.append_assoc]; rfl) h2)
/-- I: what is done, the slots -/
theorem for_enc (enc : α → D) (I : List α → VL.Env → Prop) {xs : List α} {env : VL.Env} (h0 : I [] env) (hs : ∀ dn x rest env (k : VL.Env → Prop), xs = dn ++ x :: rest → I dn env → (∀ e2, I (dn ++ [x]) e2 → k e2) → g (enc x) env fun e1 => body e1 ⟨k, rt, nx, k⟩ W) (hd : ∀ env, I xs env → nx env) : sForL g body ⟨nx, rt, bk, ct⟩ W (xs.map enc) env :=
  for_encA enc I hs hd (List.nil_append _).symm h0
variable {vs : List Nat} {ft : FT} {fe : FE} {env : VL.Env}
theorem lc_enc (f : α → D) : ∀ {xs : List α} {k : List D → VL.Env → Prop}, (∀ x ∈ xs, ∀ Qy Qn, Qy (f x) env → lcT vs g ft fe (enc x) env Qy Qn) → k (xs.map f) env → fLcL vs g ft fe (xs.map enc) env k
  | [], _, _, hk => hk
  | x :: xs, k, h, hk => lcL_cons (h x List.mem_cons_self _ _ (lc_enc f (fun y hy => h y (List.mem_cons_of_mem _ hy)) hk))
theorem lc_encF (p : α → Bool) (f : α → D) : ∀ {xs : List α} {k : List D → VL.Env → Prop}, (∀ x ∈ xs, ∀ Qy Qn, (p x = true → Qy (f x) env) → (p x = false → Qn env) → lcT vs g ft fe (enc x) env Qy Qn) → k ((xs.filter p).map f) env → fLcL vs g ft fe (xs.map enc) env k
  | [], _, _, hk => hk
  | x :: xs, k, h, hk => by
    refine lcL_cons (h x List.mem_cons_self _ _ (fun e => ?_) fun e => ?_)
    · rw [List.filter_cons_of_pos e] at hk
      exact lc_encF p f (fun y hy => h y (List.mem_cons_of_mem _ hy)) hk
    · rw [List.filter_cons_of_neg (by simp [e])] at hk
      exact lc_encF p f (fun y hy => h y (List.mem_cons_of_mem _ hy)) hk
/-- each item gives one that R allows, coded by dec -/
theorem lc_encI (dec : β → D) (I : VL.Env → Prop) (R : α → β → Prop) : ∀ {xs : List α} {env : VL.Env} {k : List D → VL.Env → Prop}, I env → (∀ x ∈ xs, ∀ env, I env → ∀ Qy Qn, (∀ y env', R x y → I env' → Qy (dec y) env') → lcT vs g ft fe (enc x) env Qy Qn) →
    (∀ (ys : List β) env', ys.length = xs.length → (∀ (i : Nat) x, xs[i]? = some x → ∃ y, ys[i]? = some y ∧ R x y) → I env' → k (ys.map dec) env') → fLcL vs g ft fe (xs.map enc) env k
  | [], env, k, hI, _, hk => hk [] env rfl (fun i x h => by simp at h) hI
  | x :: xs, env, k, hI, h, hk => lcL_cons (h x List.mem_cons_self env hI _ _ fun y env' r hI' => lc_encI dec I R hI' (fun x hx => h x (List.mem_cons_of_mem _ hx)) fun ys e4 hl hr hI4 => hk (y :: ys) e4 (by simp [hl]) (fun i z hz => by
      cases i with
      | zero => simp at hz; subst hz; exact ⟨y, rfl, r⟩
      | succ i => simpa using hr i z (by simpa using hz)) hI4)
theorem sc_enc (f : α → Key) : ∀ {xs : List α} {k : List Key → VL.Env → Prop}, (∀ x ∈ xs, ∀ Qy Qn, Qy (kD (f x)) env → lcT vs g ft fe (enc x) env Qy Qn) → k (xs.map f) env → fScL vs g ft fe (xs.map enc) env k
  | [], _, _, hk => hk
  | x :: xs, k, h, hk => scL_cons (h x List.mem_cons_self _ _ ⟨f x, rfl, sc_enc f (fun y hy => h y (List.mem_cons_of_mem _ hy)) hk⟩)
variable {fk : FE}
theorem dc_enc (f : α → Key × D) : ∀ {xs : List α} {acc : Kes} {k : Kes → VL.Env → Prop}, (∀ x ∈ xs, ∀ acc Qy Qn, Qy (putKes acc (f x).1 (f x).2) env → dcT vs g ft fk fe (enc x) acc env Qy Qn) → k (xs.foldl (fun a x => putKes a (f x).1 (f x).2) acc) env → fDcL vs g ft fk fe (xs.map enc) acc env k
  | [], _, _, _, hk => hk
  | x :: xs, acc, k, h, hk => dcL_cons (h x List.mem_cons_self _ _ _ (dc_enc f (fun y hy => h y (List.mem_cons_of_mem _ hy)) hk))
end
theorem rg_enc (n : Nat) : rgD 0 (n : Int) = (List.range n).map iD := rg_nat n
end K22

/-! joined_letters, letters_of -/
namespace K22
open PySem PySem.Spec PyProof.Rows L2 VL
variable {b : List D} {Q : M → List M → Prop} {E : Ex → List M → Prop} {P : Plan} {s : Src} {F : Fig} {x : Str}
def joinL (ss : List Src) (names : List Str) : List Str := ss.flatMap fun s => if s.name ∈ names then s.ls else []
theorem joinL_mem {ss : List Src} {names : List Str} {l : Str} : l ∈ joinL ss names ↔ ∃ s ∈ ss, s.name ∈ names ∧ l ∈ s.ls := by
  unfold joinL
  rw [List.mem_flatMap]
  constructor
  · rintro ⟨s, hs, h⟩
    by_cases c : s.name ∈ names
    · rw [if_pos c] at h; exact ⟨s, hs, c, h⟩
    · rw [if_neg c] at h; simp at h
  · rintro ⟨s, hs, c, h⟩
    exact ⟨s, hs, by rw [if_pos c]; exact h⟩
theorem joinL_len {names : List Str} : ∀ {ss : List Src}, (∀ s ∈ ss, s.ls.length ≤ 5) → (joinL ss names).length ≤ 5 * ss.length
  | [], _ => Nat.zero_le _
  | s :: ss, h => by
    have := joinL_len (names := names) (ss := ss) fun t ht => h t (List.mem_cons_of_mem _ ht)
    have h2 := h s List.mem_cons_self
    have e : joinL (s :: ss) names = (if s.name ∈ names then s.ls else []) ++ joinL ss names := rfl
    rw [e, List.length_append, List.length_cons]
    split
    · omega
    · simp; omega
theorem map_kD_inj : ∀ {xs ys : List Key}, xs.map kD = ys.map kD → xs = ys
  | [], [], _ => rfl
  | [], _ :: _, e => by simp at e
  | _ :: _, [], e => by simp at e
  | x :: xs, y :: ys, e => by
    rw [List.map_cons, List.map_cons] at e
    obtain ⟨e1, e2⟩ := List.cons.inj e
    rw [kD_inj e1, map_kD_inj e2]
theorem s_joined_letters {ss : List Src} {names Ls : List Str} (s4 : ss.length ≤ 4) (so : ∀ s ∈ ss, s.ls.length ≤ 5) (pw : Ls.Pairwise ltS) (lm : ∀ l, l ∈ Ls ↔ ∃ s ∈ ss, s.name ∈ names ∧ l ∈ s.ls) (q : Q (.fz (.tuple (Ls.map .str))) []) : sp_joined_letters [.fz (.tuple (ss.map srcD)), .fz (.tuple (names.map .str))] Q E := by
  refine e_body rfl (by simp only [List.map_cons, List.map_nil, List.length_cons, List.length_nil, Nat.reduceAdd, Nat.reduceSub, List.replicate, List.replicate_zero, List.cons_append, List.nil_append]; rfl) ?_
  unfold g_joined_letters
  walk_at "vl"
  refine for_enc srcD (fun dn e => ∃ x3 x4 x5, e = ⟨[some (.fz (.tuple (ss.map srcD))), some (.fz (.tuple (names.map .str))), some (.lst ((joinL dn names).map .str)), x3, x4, x5, none], []⟩) ⟨_, _, _, rfl⟩ ?_ ?_
  · rintro dn s rest e k hs ⟨x3, x4, x5, rfl⟩ hk
    have hd : dn.length ≤ 3 := by have := congrArg List.length hs; simp at this; omega
    have hl := joinL_len (names := names) (ss := dn) fun t ht => so t (by rw [hs]; exact List.mem_append_left _ ht)
    have h5 := so s (by rw [hs]; simp)
    have ej : joinL (dn ++ [s]) names = joinL dn names ++ (if s.name ∈ names then s.ls else []) := by unfold joinL; rw [List.flatMap_append, List.flatMap_singleton]
    unfold srcD
    walk_at "vl"
    unfold g_joined_letters_1
    walk_at "vl"
    · rw [any_strs, Bool.false_xor]
      refine e_ite (fun hz => ?_) (fun hz => ?_)
      · have hz := of_decide_eq_true hz
        rw [if_pos hz] at ej
        walk_at "vl"
        refine e_2 ?_ (by simp only [List.length_map]; omega)
        rw [← List.map_append, ← ej]
        walk_at "vl"
        exact hk _ ⟨_, _, _, rfl⟩
      · have hz := of_decide_eq_false hz
        rw [if_neg hz, List.append_nil] at ej
        walk_at "vl"
        refine e_2 ?_ (by simp only [List.length_map, List.length_nil]; omega)
        rw [List.append_nil, ← ej]
        walk_at "vl"
        exact hk _ ⟨_, _, _, rfl⟩
    · exact ⟨by simp, pl_strs (by omega)⟩
  · rintro e ⟨x3, x4, x5, rfl⟩
    unfold g_joined_letters_2
    have hl := joinL_len (names := names) (ss := ss) so
    obtain ⟨ks, e1, e2, hL⟩ := set_strs (xs := joinL ss names) pw (fun l => by rw [joinL_mem, lm]) (by omega)
    walk_at "vl"
    refine e_3 ?_ rfl (by rw [List.length_map]; omega)
    refine sc_enc (fun s => Sum.inr s) (fun s hs Qy Qn hq => ?_) ?_
    · walk_at "vl"
      exact hq
    · intro L nd hm
      have hks : (joinL ss names).map Sum.inr = ks := by
        have e3 : ((joinL ss names).map Sum.inr).map kD = ks.map kD := by rw [kd_inr]; exact e1
        exact map_kD_inj e3
      rw [hks] at hm
      obtain ⟨one, hs⟩ := hL L nd hm
      refine ⟨one, fun ys hy => ?_⟩
      rw [hs ys hy]
      walk_at "vl"
      exact q
theorem s_letters_of {names Ls : List Str} (h : PlanOk P) (hn : ∀ x ∈ names, ∃ s ∈ P.ss, s.name = x) (pw : Ls.Pairwise ltS) (lm : ∀ l, l ∈ Ls ↔ ∃ s ∈ P.ss, s.name ∈ names ∧ l ∈ s.ls) (q : Q (.fz (.tuple (Ls.map .str))) []) : sp_letters_of [.fz (planD P), .fz (.tuple (names.map .str))] Q E := by
  refine e_body rfl (by simp only [List.map_cons, List.map_nil, List.length_cons, List.length_nil, Nat.reduceAdd, Nat.reduceSub, List.replicate, List.replicate_zero, List.cons_append, List.nil_append]; rfl) ?_
  unfold g_letters_of
  walk_at "vl"
  refine for_enc .str (fun dn e => ∃ x2, e = ⟨[some (.fz (planD P)), some (.fz (.tuple (names.map .str))), x2], []⟩) ⟨_, rfl⟩ ?_ ?_
  · rintro dn x rest e k hx ⟨x2, rfl⟩ hk
    obtain ⟨s, hs, hxs⟩ := hn x (by rw [hx]; simp)
    walk_at "vl"
    unfold g_letters_of_1
    walk_at "vl"
    refine s_source_index h hs hxs fun j hj => ?_
    walk_at "vl"
    exact hk _ ⟨_, rfl⟩
  · rintro e ⟨x2, rfl⟩
    unfold g_letters_of_2
    have e : planD P = .tuple [.tuple (P.ss.map srcD), .tuple (P.pr.map prD), .tuple (P.fs.map figD)] := rfl
    rw [e]
    walk_at "vl"
    refine s_joined_letters h.s4 (fun s hs => (h.so s hs).l5) pw lm ?_
    walk_at "vl"
    exact q
end K22

/-! what is read of a window -/
namespace K22
open PySem PySem.Spec PyProof.Rows L2 VL
variable {b : List D} {Q : M → List M → Prop} {E : Ex → List M → Prop} {P : Plan} {s : Src} {F : Fig} {x : Str}
def slotSrc (ss : List Src) (reads : List Str) : List Str := ss.flatMap fun s => if s.name ∈ reads then List.replicate s.rate s.name else []
def slot3D (p : Str × Nat × Nat) : D := .tuple [.str p.1, iD p.2.1, iD p.2.2]
def slots3 (ss : List Src) (reads : List Str) (t : Nat) : List (Str × Nat × Nat) := ss.flatMap fun s => if s.name ∈ reads then (List.range s.rate).map fun k => (s.name, t, k) else []
def readL (ss : List Src) (F : Fig) : List Str := (List.replicate F.size (slotSrc ss F.reads ++ [tick])).flatten
theorem slots3_fst {ss : List Src} {reads : List Str} {t : Nat} : (slots3 ss reads t).map (·.1) = slotSrc ss reads := by
  unfold slots3 slotSrc
  rw [List.map_flatMap]
  congr 1
  funext s
  split
  · rw [List.map_map]
    show (List.range s.rate).map (fun _ => s.name) = _
    rw [List.map_const', List.length_range]
  · rfl
theorem flatMap_len {α β : Type} {f : α → List β} {c : Nat} : ∀ {xs : List α}, (∀ x ∈ xs, (f x).length ≤ c) → (xs.flatMap f).length ≤ c * xs.length
  | [], _ => Nat.zero_le _
  | x :: xs, h => by
    have := flatMap_len (xs := xs) fun y hy => h y (List.mem_cons_of_mem _ hy)
    have h1 := h x List.mem_cons_self
    rw [List.flatMap_cons, List.length_append, List.length_cons, Nat.mul_add]
    omega
theorem slotSrc_len {ss : List Src} {reads : List Str} (h : ∀ s ∈ ss, s.rate ≤ 3) : (slotSrc ss reads).length ≤ 3 * ss.length := flatMap_len fun s hs => by
  split
  · rw [List.length_replicate]; exact h s hs
  · simp
theorem slots3_len {ss : List Src} {reads : List Str} {t : Nat} (h : ∀ s ∈ ss, s.rate ≤ 3) : (slots3 ss reads t).length ≤ 3 * ss.length := flatMap_len fun s hs => by
  split
  · rw [List.length_map, List.length_range]; exact h s hs
  · simp
theorem slots3_app {dn : List Src} {s : Src} {reads : List Str} {t : Nat} : slots3 (dn ++ [s]) reads t = slots3 dn reads t ++ (if s.name ∈ reads then (List.range s.rate).map fun k => (s.name, t, k) else []) := by
  unfold slots3
  rw [List.flatMap_append, List.flatMap_singleton]
theorem rg_enc2 (a c : Nat) : rgD (a : Int) (c : Int) = (List.range' a (c - a)).map iD := by
  unfold rgD
  rw [show ((c : Int) - (a : Int)).toNat = c - a from by omega, List.range'_eq_map_range, List.map_map]
  refine List.map_congr_left fun k _ => ?_
  show PyData.int ((a : Int) + (k : Int)) = .int ((a + k : Nat) : Int)
  congr 1
theorem s_law_slots_of_times {reads : List Str} {a c : Nat} (h : PlanOk P) (hc : c ≤ 100000) (ha : a ≤ c) (hac : c - a ≤ 1000) (q : Q (.lst (((List.range' a (c - a)).flatMap (slots3 P.ss reads)).map slot3D)) []) : sp__law_slots_of_times [.fz (planD P), .fz (.tuple (reads.map .str)), .fz (.int (a : Nat)), .fz (.int (c : Nat))] Q E := by
  have h4 := h.s4
  have r3 : ∀ s ∈ P.ss, s.rate ≤ 3 := fun s hs => (h.so s hs).r3
  refine e_body rfl (by simp only [List.map_cons, List.map_nil, List.length_cons, List.length_nil, Nat.reduceAdd, Nat.reduceSub, List.replicate, List.replicate_zero, List.cons_append, List.nil_append]; rfl) ?_
  unfold g__law_slots_of_times
  walk_at "vl"
  refine e_2 ?_ (by omega)
  rw [rg_enc2]
  refine for_enc iD (fun dn e => ∃ x5 x6, e = ⟨[some (.fz (planD P)), some (.fz (.tuple (reads.map .str))), some (.fz (.int (a : Nat))), some (.fz (.int (c : Nat))), some (.lst ((dn.flatMap (slots3 P.ss reads)).map slot3D)), x5, x6, none], []⟩) ⟨_, _, rfl⟩ ?_ ?_
  · rintro dn t rest e k ht ⟨x5, x6, rfl⟩ hk
    have hdn : dn.length ≤ 1000 := by have := congrArg List.length ht; simp at this; omega
    have hl := flatMap_len (xs := dn) (c := 12) (f := slots3 P.ss reads) fun t _ => Nat.le_trans (slots3_len r3) (by omega)
    unfold iD
    walk_at "vl"
    unfold g__law_slots_of_times_2
    have e : planD P = .tuple [.tuple (P.ss.map srcD), .tuple (P.pr.map prD), .tuple (P.fs.map figD)] := rfl
    rw [e]
    walk_at "vl"
    rw [← e]
    refine for_enc srcD (fun ds e => ∃ x6, e = ⟨[some (.fz (planD P)), some (.fz (.tuple (reads.map .str))), some (.fz (.int (a : Nat))), some (.fz (.int (c : Nat))), some (.lst ((dn.flatMap (slots3 P.ss reads) ++ slots3 ds reads t).map slot3D)), some (.fz (.int (t : Nat))), x6, none], []⟩) ⟨_, by show _ = _; rw [show slots3 [] reads t = [] from rfl, List.append_nil]⟩ ?_ ?_
    · rintro ds s rest2 e2 k2 hs ⟨x6, rfl⟩ hk2
      have hds : ds.length ≤ 3 := by have := congrArg List.length hs; simp at this; omega
      have hs3 := r3 s (by rw [hs]; simp)
      have hl2 := slots3_len (ss := ds) (reads := reads) (t := t) fun s' hs' => r3 s' (by rw [hs]; exact List.mem_append_left _ hs')
      have ea := slots3_app (dn := ds) (s := s) (reads := reads) (t := t)
      unfold srcD
      walk_at "vl"
      unfold g__law_slots_of_times_1
      walk_at "vl"
      · rw [any_strs, Bool.false_xor]
        refine e_ite (fun hz => ?_) (fun hz => ?_)
        · have hz := of_decide_eq_true hz
          rw [if_pos hz] at ea
          unfold iD
          walk_at "vl"
          refine e_2 ?_ (by omega)
          rw [rg_enc]
          refine e_3 ?_ rfl (by rw [List.length_map, List.length_range]; omega)
          refine lc_enc (fun k => slot3D (s.name, t, k)) (fun j hj Qy Qn hq => ?_) ?_
          · unfold iD
            walk_at "vl"
            exact hq
          · walk_at "vl"
            refine e_2 ?_ (by simp only [List.length_map, List.length_append, List.length_range]; omega)
            have e3 : (List.range s.rate).map (fun k => slot3D (s.name, t, k)) = ((List.range s.rate).map fun k => (s.name, t, k)).map slot3D := by rw [List.map_map]; rfl
            rw [e3, ← List.map_append, List.append_assoc, ← ea]
            walk_at "vl"
            exact hk2 _ ⟨_, rfl⟩
        · have hz := of_decide_eq_false hz
          rw [if_neg hz, List.append_nil] at ea
          walk_at "vl"
          rw [← ea]
          exact hk2 _ ⟨_, rfl⟩
      · exact ⟨by simp, pl_strs (by omega)⟩
    · rintro e2 ⟨x6, rfl⟩
      rw [show dn.flatMap (slots3 P.ss reads) ++ slots3 P.ss reads t = (dn ++ [t]).flatMap (slots3 P.ss reads) from by rw [List.flatMap_append, List.flatMap_singleton]]
      exact hk _ ⟨_, _, rfl⟩
  · rintro e ⟨x5, x6, rfl⟩
    walk_at "vl"
    exact q
end K22

/-! the readings -/
namespace K22
open PySem PySem.Spec PyProof.Rows L2 VL
variable {b : List D} {Q : M → List M → Prop} {E : Ex → List M → Prop} {P : Plan} {s : Src} {F : Fig} {x : Str}
def oneRead (ss : List Src) (F : Fig) : List Str := slotSrc ss F.reads ++ [tick]
theorem oneRead_len (h : PlanOk P) : (oneRead P.ss F).length ≤ 13 := by
  have := slotSrc_len (ss := P.ss) (reads := F.reads) fun s hs => (h.so s hs).r3
  have := h.s4
  unfold oneRead
  rw [List.length_append, List.length_singleton]
  omega
theorem rep_len {α : Type} {xs : List α} : ∀ {k : Nat}, (List.replicate k xs).flatten.length = k * xs.length
  | 0 => by simp
  | k + 1 => by rw [List.replicate_succ, List.flatten_cons, List.length_append, rep_len, Nat.add_mul, Nat.one_mul, Nat.add_comm]
theorem readL_len (h : PlanOk P) (hF : FigOk P.ss F) : (readL P.ss F).length ≤ 400 := by
  have h1 := oneRead_len (F := F) h
  have h2 := hF.s2
  unfold readL
  rw [rep_len]
  have : F.size * (oneRead P.ss F).length ≤ 24 * 13 := Nat.mul_le_mul h2 h1
  have e : (slotSrc P.ss F.reads ++ [tick]).length = (oneRead P.ss F).length := rfl
  rw [e]
  omega
theorem rep_snoc {α : Type} {xs : List α} {k : Nat} : (List.replicate (k + 1) xs).flatten = (List.replicate k xs).flatten ++ xs := by
  rw [List.replicate_succ', List.flatten_append, List.flatten_singleton]
theorem s_law_reading (h : PlanOk P) (hF : F ∈ P.fs) (hx : F.name = x) (q : Q (.lst ((readL P.ss F).map .str)) []) : sp__law_reading [.fz (planD P), .fz (.str x)] Q E := by
  have hf := h.fo F hF
  have h24 := hf.s2
  have h13 := oneRead_len (F := F) h
  refine e_body rfl (by simp only [List.map_cons, List.map_nil, List.length_cons, List.length_nil, Nat.reduceAdd, Nat.reduceSub, List.replicate, List.replicate_zero, List.cons_append, List.nil_append]; rfl) ?_
  unfold g__law_reading
  walk_at "vl"
  refine s_law_figure h hF hx ?_
  unfold figD iD
  walk_at "vl"
  refine e_2 ?_ (by omega)
  rw [rg_enc]
  refine for_enc iD (fun dn e => ∃ x2 , e = ⟨[some (.fz (planD P)), some (.fz (.str x)), x2, some (.fz (figD F)), some (.lst ((List.replicate dn.length (oneRead P.ss F)).flatten.map .str)), none], []⟩) ⟨_, rfl⟩ ?_ ?_
  · rintro dn t rest e k ht ⟨x2, rfl⟩ hk
    have htl : t < F.size := by
      have : t ∈ List.range F.size := by rw [ht]; simp
      exact List.mem_range.mp this
    have hdn : dn.length ≤ 24 := by have := congrArg List.length ht; simp at this; omega
    have hrl : ((List.replicate dn.length (oneRead P.ss F)).flatten).length ≤ 24 * 13 := by rw [rep_len]; exact Nat.mul_le_mul hdn h13
    unfold iD figD
    walk_at "vl"
    unfold g__law_reading_1
    walk_at "vl"
    rw [show ((t : Nat) : Int) + 1 = ((t + 1 : Nat) : Int) from rfl]
    refine s_law_slots_of_times h (by omega) (by omega) (by omega) ?_
    rw [show t + 1 - t = 1 from by omega, show List.range' t 1 = [t] from rfl, List.flatMap_singleton]
    have hl3 := slots3_len (ss := P.ss) (reads := F.reads) (t := t) fun s hs => (h.so s hs).r3
    have h4 := h.s4
    walk_at "vl"
    refine e_3 ?_ rfl (by rw [List.length_map]; omega)
    refine lc_enc (fun p => .str p.1) (fun p hp Qy Qn hq => ?_) ?_
    · unfold slot3D
      walk_at "vl"
      exact hq
    · have e1 : (slots3 P.ss F.reads t).map (fun p => PyData.str p.1) = (slotSrc P.ss F.reads).map .str := by rw [← slots3_fst (t := t), List.map_map]; rfl
      have e2 : (slotSrc P.ss F.reads).map PyData.str ++ [.str "tick"] = (oneRead P.ss F).map .str := by unfold oneRead; rw [List.map_append]; rfl
      rw [e1]
      have h5 : (slotSrc P.ss F.reads).length + 1 = (oneRead P.ss F).length := by unfold oneRead; rw [List.length_append, List.length_singleton]
      walk_at "vl"
      · rw [e2]
        walk_at "vl"
        refine e_2 ?_ (by simp only [List.length_map]; omega)
        rw [← List.map_append, ← rep_snoc]
        walk_at "vl"
        exact hk _ ⟨_, by rw [List.length_append, List.length_singleton]; rfl⟩
      · simp only [List.length_map, List.length_cons, List.length_nil]; omega
  · rintro e ⟨x2, rfl⟩
    walk_at "vl"
    have e3 : (List.replicate (List.range F.size).length (oneRead P.ss F)).flatten = readL P.ss F := by rw [List.length_range]; rfl
    rw [e3]
    exact q
theorem s_parts_of (h : PlanOk P) (hF : F ∈ P.fs) (hx : F.name = x) (q : Q (.fz (.tuple ((readL P.ss F).map .str))) []) : sp_parts_of [.fz (planD P), .fz (.str x)] Q E := by
  have hf := h.fo F hF
  have h24 := hf.s2
  have h1 := hf.s1
  have h13 := oneRead_len (F := F) h
  have h4 := h.s4
  have e : planD P = .tuple [.tuple (P.ss.map srcD), .tuple (P.pr.map prD), .tuple (P.fs.map figD)] := rfl
  refine e_body rfl (by simp only [List.map_cons, List.map_nil, List.length_cons, List.length_nil, Nat.reduceAdd, Nat.reduceSub, List.replicate, List.replicate_zero, List.cons_append, List.nil_append]; rfl) ?_
  unfold g_parts_of
  walk_at "vl"
  refine s_figure_of h hF hx ?_
  unfold figD
  walk_at "vl"
  rw [e]
  walk_at "vl"
  rw [← e]
  refine for_enc srcD (fun dn e => ∃ x8 x9 x10, e = ⟨[some (.fz (planD P)), some (.fz (.str x)), some (.lst ((slotSrc dn F.reads).map .str)), some (.fz (.str F.name)), some (.fz (.tuple (F.reads.map .str))), some (.fz (iD F.size)), some (.fz (iD F.slide)), some (.fz F.mcD), x8, x9, x10], []⟩) ⟨_, _, _, rfl⟩ ?_ ?_
  · rintro dn s rest e k hs ⟨x8, x9, x10, rfl⟩ hk
    have hdn : dn.length ≤ 3 := by have := congrArg List.length hs; simp at this; omega
    have h3 := (h.so s (by rw [hs]; simp)).r3
    have hl := slotSrc_len (ss := dn) (reads := F.reads) fun s' hs' => (h.so s' (by rw [hs]; exact List.mem_append_left _ hs')).r3
    have ea : slotSrc (dn ++ [s]) F.reads = slotSrc dn F.reads ++ (if s.name ∈ F.reads then List.replicate s.rate s.name else []) := by unfold slotSrc; rw [List.flatMap_append, List.flatMap_singleton]
    unfold srcD iD
    walk_at "vl"
    unfold g_parts_of_1
    walk_at "vl"
    · rw [any_strs, Bool.false_xor]
      refine e_ite (fun hz => ?_) (fun hz => ?_)
      · have hz := of_decide_eq_true hz
        rw [if_pos hz] at ea
        walk_at "vl"
        · have e3 : (List.replicate ((s.rate : Nat) : Int).toNat [PyData.str s.name]).flatten = (List.replicate s.rate s.name).map .str := by
            rw [Int.toNat_natCast, List.map_replicate]
            have := List.flatten_replicate_singleton (n := s.rate) (a := PyData.str s.name)
            exact this
          rw [e3]
          walk_at "vl"
          refine e_2 ?_ (by simp only [List.length_map, List.length_replicate]; omega)
          rw [← List.map_append, ← ea]
          walk_at "vl"
          exact hk _ ⟨_, _, _, rfl⟩
        · simp; omega
      · have hz := of_decide_eq_false hz
        rw [if_neg hz, List.append_nil] at ea
        walk_at "vl"
        refine e_2 ?_ (by simp only [List.length_map, List.length_nil]; omega)
        rw [List.append_nil, ← ea]
        walk_at "vl"
        exact hk _ ⟨_, _, _, rfl⟩
    · exact ⟨by simp, pl_strs (by omega)⟩
  · rintro e ⟨x8, x9, x10, rfl⟩
    unfold g_parts_of_2 iD
    have hlen : (slotSrc P.ss F.reads).length + 1 = (oneRead P.ss F).length := by unfold oneRead; rw [List.length_append, List.length_singleton]
    have e2 : (slotSrc P.ss F.reads).map PyData.str ++ [.str "tick"] = (oneRead P.ss F).map .str := by unfold oneRead; rw [List.map_append]; rfl
    walk_at "vl"
    rw [e2]
    refine e_2 ?_ (by rw [List.length_map]; omega)
    walk_at "vl"
    · rw [Int.toNat_natCast]
      have e3 : (List.replicate F.size ((oneRead P.ss F).map PyData.str)).flatten = (readL P.ss F).map .str := by
        unfold readL
        rw [List.map_flatten, List.map_replicate]
        rfl
      rw [e3]
      walk_at "vl"
      exact q
    · refine ⟨fun z => ?_, by omega, by omega, by rw [List.length_map]; omega⟩
      have := congrArg List.length z
      rw [List.length_map, List.length_nil] at this
      omega
def slotL (ss : List Src) (F : Fig) : List Str := (readL ss F).filter fun w => decide (w ≠ tick)
theorem s_slot_sources (h : PlanOk P) (hF : F ∈ P.fs) (hx : F.name = x) (q : Q (.fz (.tuple ((slotL P.ss F).map .str))) []) : sp_slot_sources [.fz (planD P), .fz (.str x)] Q E := by
  have hl := readL_len h (h.fo F hF)
  refine e_body rfl (by simp only [List.map_cons, List.map_nil, List.length_cons, List.length_nil, Nat.reduceAdd, Nat.reduceSub, List.replicate, List.replicate_zero, List.cons_append, List.nil_append]; rfl) ?_
  unfold g_slot_sources
  walk_at "vl"
  refine s_parts_of h hF hx ?_
  walk_at "vl"
  refine e_3 ?_ rfl (by rw [List.length_map]; omega)
  refine lc_encF (fun w => decide (w ≠ tick)) .str (fun w hw Qy Qn hy hn => ?_) ?_
  · walk_at "vl"
    · rw [v_str]
      refine e_ite (fun hz => ?_) (fun hz => ?_)
      · walk_at "vl"
        exact hy (decide_eq_true (by simpa [tick] using hz))
      · walk_at "vl"
        exact hn (decide_eq_false (by simpa [tick] using hz))
    · exact ⟨by simp, by simp⟩
  · walk_at "vl"
    exact q
theorem s_law_slot_sources (h : PlanOk P) (hF : F ∈ P.fs) (hx : F.name = x) (q : Q (.lst ((slotL P.ss F).map .str)) []) : sp__law_slot_sources [.fz (planD P), .fz (.str x)] Q E := by
  have hl := readL_len h (h.fo F hF)
  refine e_body rfl (by simp only [List.map_cons, List.map_nil, List.length_cons, List.length_nil, Nat.reduceAdd, Nat.reduceSub, List.replicate, List.replicate_zero, List.cons_append, List.nil_append]; rfl) ?_
  unfold g__law_slot_sources
  walk_at "vl"
  refine s_law_reading h hF hx ?_
  walk_at "vl"
  refine e_3 ?_ rfl (by rw [List.length_map]; omega)
  refine lc_encF (fun w => decide (w ≠ tick)) .str (fun w hw Qy Qn hy hn => ?_) ?_
  · walk_at "vl"
    · rw [v_str]
      refine e_ite (fun hz => ?_) (fun hz => ?_)
      · walk_at "vl"
        exact hy (decide_eq_true (by simpa [tick] using hz))
      · walk_at "vl"
        exact hn (decide_eq_false (by simpa [tick] using hz))
    · exact ⟨by simp, by simp⟩
  · walk_at "vl"
    exact q
end K22

/-! sets of states, as lists -/
namespace K22
open PySem PySem.Spec PyProof.Rows L2 VL
variable {P : Plan} {s : Src} {F : Fig} {x p k : Str}
def opn : Str := "open"
def emp : Str := "empty"
theorem join_one : ∀ {ss : List Src}, (ss.map (·.name)).Nodup → s ∈ ss → joinL ss [s.name] = s.ls
  | [], _, h => by simp at h
  | c :: ss, nd, h => by
    rw [List.map_cons] at nd
    obtain ⟨n1, n2⟩ := List.nodup_cons.mp nd
    have e : joinL (c :: ss) [s.name] = (if c.name ∈ [s.name] then c.ls else []) ++ joinL ss [s.name] := rfl
    have no : ∀ {ss : List Src}, (∀ t ∈ ss, t.name ≠ s.name) → joinL ss [s.name] = [] := fun {ss} hh => by
      apply List.eq_nil_iff_forall_not_mem.mpr
      intro l hl
      obtain ⟨t, ht, h1, _⟩ := joinL_mem.mp hl
      exact hh t ht (by simpa using h1)
    rw [e]
    rcases List.mem_cons.mp h with h | h
    · subst h
      rw [if_pos (by simp), no fun t ht z => n1 (List.mem_map.mpr ⟨t, ht, z⟩), List.append_nil]
    · have hc : c.name ≠ s.name := fun z => n1 (List.mem_map.mpr ⟨s, h, z.symm⟩)
      rw [if_neg (by simpa using hc), List.nil_append]
      exact join_one n2 h
theorem nm_tick (h : x ∈ Nm7) : x ≠ tick := by
  unfold Nm7 at h
  simp only [List.mem_cons, List.not_mem_nil, or_false] at h
  rcases h with rfl | rfl | rfl | rfl | rfl | rfl | rfl
  all_goals unfold tick; decide
theorem ltr_no (h : x ∈ Ltr) : x ≠ tick ∧ x ≠ opn ∧ x ≠ emp := by
  unfold Ltr at h
  simp only [List.mem_cons, List.not_mem_nil, or_false] at h
  rcases h with rfl | rfl | rfl | rfl | rfl
  all_goals unfold tick opn emp; decide
/-- what may stand at a slot of a source -/
def KindOk (ls : List Str) (k : Str) : Prop := k = opn ∨ k = emp ∨ k ∈ ls
instance (ls : List Str) (k : Str) : Decidable (KindOk ls k) := by unfold KindOk; exact inferInstance
/-- a part and what stands there -/
def PairOk (ss : List Src) (F : Fig) (p k : Str) : Prop := (p = tick ∧ k = tick) ∨ ∃ s ∈ ss, s.name = p ∧ p ∈ F.reads ∧ KindOk s.ls k
def waysF (ss : List Src) (p k : Str) : List Str := if k = opn then emp :: joinL ss [p] else [k]
def goneW (f : Str → Nat → Nat) (tk : Nat → Nat) (w : Str) (j : Nat) : Nat := if w = tick then tk j else if w = emp then j else f w j
def allBehind (ss : List Src) (F : Fig) (S : List Nat) (p k : Str) : List Nat := (waysF ss p k).flatMap fun w => S.map (goneW F.f F.tk w)
def setBehind (ss : List Src) (F : Fig) (S : List Nat) (p k : Str) : List Nat := asc F.n (allBehind ss F S p k)
def setsL (ss : List Src) (F : Fig) : List Nat → List (Str × Str) → List (List Nat)
  | _, [] => []
  | S, (p, k) :: r => setBehind ss F S p k :: setsL ss F (setBehind ss F S p k) r
/-- all sets of a window -/
def setsAll (ss : List Src) (F : Fig) (ps : List (Str × Str)) : List (List Nat) := [0] :: setsL ss F [0] ps
def lastS (L : List (List Nat)) : List Nat := L.getLast?.getD []
theorem setsL_snoc {ss : List Src} {F : Fig} {p k : Str} : ∀ {ps : List (Str × Str)} {S : List Nat}, setsL ss F S (ps ++ [(p, k)]) = setsL ss F S ps ++ [setBehind ss F (lastS (S :: setsL ss F S ps)) p k]
  | [], S => rfl
  | (a, c) :: ps, S => by
    show setBehind ss F S a c :: setsL ss F (setBehind ss F S a c) (ps ++ [(p, k)]) = _
    rw [setsL_snoc]
    rfl
theorem setsAll_snoc {ss : List Src} {F : Fig} {p k : Str} {ps : List (Str × Str)} : setsAll ss F (ps ++ [(p, k)]) = setsAll ss F ps ++ [setBehind ss F (lastS (setsAll ss F ps)) p k] := by
  unfold setsAll
  rw [setsL_snoc]
  rfl
theorem ways_go (h : PlanOk P) (hF : FigOk P.ss F) (ok : PairOk P.ss F p k) {w : Str} (hw : w ∈ waysF P.ss p k) : w = tick ∨ w = emp ∨ w ∈ F.Ls := by
  unfold waysF at hw
  rcases ok with ⟨h1, h2⟩ | ⟨s, hs, rfl, hr, hk⟩
  · subst h1 h2
    rw [if_neg (by unfold tick opn; decide)] at hw
    exact .inl (by simpa using hw)
  · have inL : ∀ l ∈ s.ls, l ∈ F.Ls := fun l hl => (hF.lm l).mpr ⟨s, hs, hr, hl⟩
    by_cases e : k = opn
    · rw [if_pos e, join_one (pw_nd h.sp) hs] at hw
      rcases List.mem_cons.mp hw with e | hw
      · exact .inr (.inl e)
      · exact .inr (.inr (inL w hw))
    · rw [if_neg e] at hw
      have hw : w = k := by simpa using hw
      subst hw
      rcases hk with e2 | e2 | e2
      · exact absurd e2 e
      · exact .inr (.inl e2)
      · exact .inr (.inr (inL w e2))
theorem gone_lt (hF : FigOk P.ss F) {w : Str} (hw : w = tick ∨ w = emp ∨ w ∈ F.Ls) {j : Nat} (hj : j < F.n) : goneW F.f F.tk w j < F.n := by
  unfold goneW
  split
  · exact hF.m.ts j hj
  · rename_i h1
    split
    · exact hj
    · rename_i h2
      exact hF.m.fs w ((hw.resolve_left h1).resolve_left h2) j hj
theorem all_lt (h : PlanOk P) (hF : FigOk P.ss F) (ok : PairOk P.ss F p k) {S : List Nat} (hS : ∀ j ∈ S, j < F.n) : ∀ j ∈ allBehind P.ss F S p k, j < F.n := fun j hj => by
  unfold allBehind at hj
  obtain ⟨w, hw, hj⟩ := List.mem_flatMap.mp hj
  obtain ⟨i, hi, rfl⟩ := List.mem_map.mp hj
  exact gone_lt hF (ways_go h hF ok hw) (hS i hi)
theorem ways_len (h : PlanOk P) (ok : PairOk P.ss F p k) : (waysF P.ss p k).length ≤ 6 := by
  unfold waysF
  rcases ok with ⟨h1, h2⟩ | ⟨s, hs, rfl, hr, hk⟩
  · split
    · subst h1 h2; rename_i z; exact absurd z (by unfold tick opn; decide)
    · simp
  · split
    · rw [join_one (pw_nd h.sp) hs, List.length_cons]
      have := (h.so s hs).l5
      omega
    · simp
theorem setBehind_lt {S : List Nat} : ∀ j ∈ setBehind P.ss F S p k, j < F.n := fun j hj => asc_lt hj
theorem setsL_lt : ∀ {ps : List (Str × Str)} {S : List Nat}, ∀ T ∈ setsL P.ss F S ps, (∀ j ∈ T, j < F.n) ∧ T.length ≤ F.n
  | [], S, T, h => by simp [setsL] at h
  | (a, c) :: ps, S, T, h => by
    rcases List.mem_cons.mp h with e | h
    · subst e
      exact ⟨setBehind_lt, asc_len⟩
    · exact setsL_lt T h
theorem setsAll_lt (hF : FigOk P.ss F) {ps : List (Str × Str)} : ∀ T ∈ setsAll P.ss F ps, (∀ j ∈ T, j < F.n) ∧ T.length ≤ F.n := fun T h => by
  rcases List.mem_cons.mp h with e | h
  · subst e
    have := hF.m.n0
    exact ⟨fun j hj => by simp at hj; omega, by show 1 ≤ F.n; omega⟩
  · exact setsL_lt T h
theorem setsL_len {ss : List Src} {F : Fig} : ∀ {ps : List (Str × Str)} {S : List Nat}, (setsL ss F S ps).length = ps.length
  | [], _ => rfl
  | _ :: ps, S => by
    show (setsL ss F _ ps).length + 1 = _
    rw [setsL_len, List.length_cons]
theorem setsAll_len {ss : List Src} {F : Fig} {ps : List (Str × Str)} : (setsAll ss F ps).length = ps.length + 1 := by
  unfold setsAll
  rw [List.length_cons, setsL_len]
theorem lastS_mem {L : List (List Nat)} (h : L ≠ []) : lastS L ∈ L := by
  unfold lastS
  cases hL : L.getLast? with
  | none => exact absurd (List.getLast?_eq_none_iff.mp hL) h
  | some a => exact List.mem_of_getLast? hL
/-- parts and what stands there -/
def wholeR : List Str → List Str → List (Str × Str)
  | [], _ => []
  | p :: ps, row => if p = tick then (p, tick) :: wholeR ps row else match row with
    | k :: r => (p, k) :: wholeR ps r
    | [] => []
def notTick (w : Str) : Bool := decide (w ≠ tick)
/-- a row's kinds fit the sources -/
def RowOk (ss : List Src) : List Str → List Str → Prop
  | [], [] => True
  | p :: ps, k :: ks => KindOk (joinL ss [p]) k ∧ RowOk ss ps ks
  | _, _ => False
theorem RowOk.len {ss : List Src} : ∀ {ps ks : List Str}, RowOk ss ps ks → ks.length = ps.length
  | [], [], _ => rfl
  | _ :: _, _ :: _, h => by rw [List.length_cons, List.length_cons, RowOk.len h.2]
  | [], _ :: _, h => h.elim
  | _ :: _, [], h => h.elim
theorem whole_len {ss : List Src} : ∀ {ps row : List Str}, RowOk ss (ps.filter notTick) row → (wholeR ps row).length = ps.length
  | [], _, _ => rfl
  | p :: ps, row, h => by
    by_cases e : p = tick
    · rw [List.filter_cons_of_neg (by unfold notTick; rw [e]; simp)] at h
      unfold wholeR
      rw [if_pos e, List.length_cons, List.length_cons, whole_len h]
    · rw [List.filter_cons_of_pos (by unfold notTick; exact decide_eq_true e)] at h
      cases row with
      | nil => exact h.elim
      | cons k r =>
        unfold wholeR
        rw [if_neg e]
        show (wholeR ps r).length + 1 = _
        rw [whole_len h.2, List.length_cons]
theorem whole_ok (h : PlanOk P) : ∀ {ps row : List Str}, (∀ p ∈ ps, p = tick ∨ ∃ s ∈ P.ss, s.name = p ∧ p ∈ F.reads) → RowOk P.ss (ps.filter notTick) row → ∀ q ∈ wholeR ps row, PairOk P.ss F q.1 q.2
  | [], _, _, _, q, hq => by simp [wholeR] at hq
  | p :: ps, row, hp, hr, q, hq => by
    by_cases e : p = tick
    · rw [List.filter_cons_of_neg (by unfold notTick; rw [e]; simp)] at hr
      unfold wholeR at hq
      rw [if_pos e] at hq
      rcases List.mem_cons.mp hq with e2 | hq
      · subst e2; exact .inl ⟨e, rfl⟩
      · exact whole_ok h (fun a ha => hp a (List.mem_cons_of_mem _ ha)) hr q hq
    · rw [List.filter_cons_of_pos (by unfold notTick; exact decide_eq_true e)] at hr
      cases row with
      | nil => exact hr.elim
      | cons k r =>
        unfold wholeR at hq
        rw [if_neg e] at hq
        rcases List.mem_cons.mp hq with e2 | hq
        · subst e2
          obtain ⟨s, hs, hn, hR⟩ := (hp p List.mem_cons_self).resolve_left e
          refine .inr ⟨s, hs, hn, hR, ?_⟩
          have := hr.1
          rw [← hn, join_one (pw_nd h.sp) hs] at this
          exact this
        · exact whole_ok h (fun a ha => hp a (List.mem_cons_of_mem _ ha)) hr.2 q hq
theorem read_parts (h : PlanOk P) : ∀ p ∈ readL P.ss F, p = tick ∨ ∃ s ∈ P.ss, s.name = p ∧ p ∈ F.reads := fun p hp => by
  unfold readL at hp
  obtain ⟨l, hl, hp⟩ := List.mem_flatten.mp hp
  rw [List.eq_of_mem_replicate hl] at hp
  rcases List.mem_append.mp hp with hp | hp
  · obtain ⟨s, hs, hp⟩ := List.mem_flatMap.mp hp
    by_cases c : s.name ∈ F.reads
    · rw [if_pos c] at hp
      have e := List.eq_of_mem_replicate hp
      exact .inr ⟨s, hs, e.symm, e ▸ c⟩
    · rw [if_neg c] at hp; simp at hp
  · exact .inl (by simpa using hp)
end K22

/-! sets.py: set_behind .. -/
namespace K22
open PySem PySem.Spec PyProof.Rows L2 VL
variable {b : List D} {Q : M → List M → Prop} {E : Ex → List M → Prop} {P : Plan} {s : Src} {F : Fig} {x p k : Str}
theorem s_ways_at (h : PlanOk P) (ok : PairOk P.ss F p k) (q : Q (.fz (.tuple ((waysF P.ss p k).map .str))) []) : sp_ways_at [.fz (planD P), .fz (.str p), .fz (.str k)] Q E := by
  refine e_body rfl (by simp only [List.map_cons, List.map_nil, List.length_cons, List.length_nil, Nat.reduceAdd, Nat.reduceSub, List.replicate, List.replicate_zero, List.cons_append, List.nil_append]; rfl) ?_
  unfold g_ways_at
  unfold waysF at q
  walk_at "vl"
  · rw [v_str]
    refine e_ite (fun hz => ?_) (fun hz => ?_)
    · have hz : k = opn := of_decide_eq_true hz
      rw [if_pos hz] at q
      rcases ok with ⟨h1, h2⟩ | ⟨s, hs, rfl, hr, hk⟩
      · subst h2; exact absurd hz (by unfold tick opn; decide)
      · rw [join_one (pw_nd h.sp) hs] at q
        have h5 := (h.so s hs).l5
        walk_at "vl"
        refine s_letters_of (names := [s.name]) (Ls := s.ls) h (fun y hy => ⟨s, hs, (List.mem_singleton.mp hy).symm⟩) (h.so s hs).pw (fun l => ?_) ?_
        · rw [← joinL_mem, join_one (pw_nd h.sp) hs]
        · walk_at "vl"
          rw [List.append_nil]
          refine e_2 ?_ (by rw [List.length_cons, List.length_map]; omega)
          walk_at "vl"
          exact q
    · have hz : ¬ k = opn := of_decide_eq_false hz
      rw [if_neg hz] at q
      walk_at "vl"
      exact q
  · exact ⟨by simp, by simp⟩
theorem s_gone {j : Nat} (hF : FigOk P.ss F) (hl : ∀ l ∈ F.Ls, l ∈ Ltr) (hw : x = tick ∨ x = emp ∨ x ∈ F.Ls) (hj : j < F.n) (q : Q (.fz (iD (goneW F.f F.tk x j))) []) : sp_gone [.fz F.mcD, .fz (.int (j : Nat)), .fz (.str x)] Q E := by
  unfold goneW at q
  refine e_body rfl (by simp only [List.map_cons, List.map_nil, List.length_cons, List.length_nil, Nat.reduceAdd, Nat.reduceSub, List.replicate, List.replicate_zero, List.cons_append, List.nil_append]; rfl) ?_
  unfold g_gone
  walk_at "vl"
  · rw [v_str]
    refine e_ite (fun hz => ?_) (fun hz => ?_)
    · have hz : x = tick := of_decide_eq_true hz
      rw [if_pos hz] at q
      walk_at "vl"
      refine s_ticked hj ?_
      walk_at "vl"
      exact q
    · have hz : ¬ x = tick := of_decide_eq_false hz
      rw [if_neg hz] at q
      unfold g_gone_1
      walk_at "vl"
      · rw [v_str]
        refine e_ite (fun hy => ?_) (fun hy => ?_)
        · have hy : x = emp := of_decide_eq_true hy
          rw [if_pos hy] at q
          walk_at "vl"
          exact q
        · have hy : ¬ x = emp := of_decide_eq_false hy
          rw [if_neg hy] at q
          walk_at "vl"
          refine s_stepped hj ((hw.resolve_left hz).resolve_left hy) ?_
          walk_at "vl"
          exact q
      · exact ⟨by simp, by simp⟩
  · exact ⟨by simp, by simp⟩
theorem s_set_behind {S : List Nat} (h : PlanOk P) (hF : FigOk P.ss F) (ok : PairOk P.ss F p k) (hS : ∀ j ∈ S, j < F.n) (hl : S.length ≤ F.n) (q : Q (.fz (.tuple ((setBehind P.ss F S p k).map iD))) []) : sp_set_behind [.fz (planD P), .fz F.mcD, .fz (.tuple (S.map iD)), .fz (.str p), .fz (.str k)] Q E := by
  have n9 := hF.m.n9
  have w6 := ways_len h ok
  refine e_body rfl (by simp only [List.map_cons, List.map_nil, List.length_cons, List.length_nil, Nat.reduceAdd, Nat.reduceSub, List.replicate, List.replicate_zero, List.cons_append, List.nil_append]; rfl) ?_
  unfold g_set_behind
  walk_at "vl"
  refine s_ways_at h ok ?_
  walk_at "vl"
  have xl : ∀ {X : List Nat}, X.Nodup → (∀ j ∈ X, j < F.n) → X.length ≤ F.n := fun {X} nd hx => by
    have := nodup_len nd (ys := List.range F.n) fun j hj => List.mem_range.mpr (hx j hj)
    rwa [List.length_range] at this
  refine for_enc .str (fun dn e => ∃ X x6, X.Nodup ∧ (∀ j, j ∈ X ↔ j ∈ dn.flatMap fun w => S.map (goneW F.f F.tk w)) ∧ (∀ j ∈ X, j < F.n) ∧ e = ⟨[some (.fz (planD P)), some (.fz F.mcD), some (.fz (.tuple (S.map iD))), some (.fz (.str p)), some (.fz (.str k)), some (.dct (dctD (trueKes X))), x6, none], []⟩) ⟨[], _, List.nodup_nil, fun j => by simp, (fun _ h => nomatch h), rfl⟩ ?_ ?_
  · rintro dn w rest e kk hw ⟨X, x6, nd, hm, hlt, rfl⟩ hk
    have hww : w ∈ waysF P.ss p k := by rw [hw]; simp
    have hgo := ways_go h hF ok hww
    have l1 := xl nd hlt
    have l2 := addAll_len (xs := S.map (goneW F.f F.tk w)) (S := [])
    simp only [List.length_nil, List.length_map] at l2
    have hm2 : ∀ j, j ∈ addAll X (addAll [] (S.map (goneW F.f F.tk w))) ↔ j ∈ (dn ++ [w]).flatMap fun w => S.map (goneW F.f F.tk w) := fun j => by
      rw [addAll_mem, addAll_mem, hm, List.flatMap_append, List.mem_append, List.flatMap_singleton]
      simp
    have hlt2 : ∀ j ∈ addAll X (addAll [] (S.map (goneW F.f F.tk w))), j < F.n := fun j hj => by
      rw [addAll_mem, addAll_mem] at hj
      rcases hj with hj | hj | hj
      · exact hlt j hj
      · simp at hj
      · obtain ⟨i, hi, rfl⟩ := List.mem_map.mp hj
        exact gone_lt hF hgo (hS i hi)
    walk_at "vl"
    unfold g_set_behind_1
    walk_at "vl"
    refine e_3 ?_ rfl (by rw [List.length_map]; omega)
    refine dc_enc (fun j => (inD' (goneW F.f F.tk w j), .bool true)) (fun j hj acc Qy Qn hq => ?_) ?_
    · unfold iD
      walk_at "vl"
      refine s_gone hF (hF.ltr h.so) hgo (hS j hj) ?_
      unfold iD
      walk_at "vl"
      exact hq
    · have ef : S.foldl (fun a j => putKes a (inD' (goneW F.f F.tk w j), PyData.bool true).1 (inD' (goneW F.f F.tk w j), PyData.bool true).2) [] = trueKes (addAll [] (S.map (goneW F.f F.tk w))) := by
        have := fold_true (xs := S.map (goneW F.f F.tk w)) (S := [])
        rw [List.foldl_map] at this
        exact this
      rw [ef]
      walk_at "vl"
      refine e_2 ?_ (by unfold trueKes; simp only [List.length_map]; omega)
      rw [merge_true]
      walk_at "vl"
      exact hk _ ⟨_, _, addAll_nd nd, hm2, hlt2, rfl⟩
  · rintro e ⟨X, x6, nd, hm, hlt, rfl⟩
    unfold g_set_behind_2
    walk_at "vl"
    · rw [keys_true, kd_inl, sort_asc nd hm (all_lt h hF ok hS)]
      walk_at "vl"
      exact q
    · rw [keys_true]
      exact one_inl X
end K22

/-! sets.py: rows, sets_of -/
namespace K22
open PySem PySem.Spec PyProof.Rows L2 VL
variable {b : List D} {Q : M → List M → Prop} {E : Ex → List M → Prop} {P : Plan} {s : Src} {F : Fig} {x p k : Str}
def pairD (q : Str × Str) : D := .tuple [.str q.1, .str q.2]
theorem whole_tick {p : Str} {ps row : List Str} (e : p = tick) : wholeR (p :: ps) row = (p, tick) :: wholeR ps row := by
  show (if p = tick then _ else _) = _
  rw [if_pos e]
theorem whole_cons {p k : Str} {ps row : List Str} (e : ¬ p = tick) : wholeR (p :: ps) (k :: row) = (p, k) :: wholeR ps row := by
  show (if p = tick then _ else _) = _
  rw [if_neg e]
theorem whole_app : ∀ {dn ps r0 r : List Str}, (dn.filter notTick).length = r0.length → wholeR (dn ++ ps) (r0 ++ r) = wholeR dn r0 ++ wholeR ps r
  | [], ps, r0, r, h => by
    have : r0 = [] := List.eq_nil_of_length_eq_zero (by simpa using h.symm)
    subst this
    rfl
  | p :: dn, ps, r0, r, h => by
    by_cases e : p = tick
    · rw [List.filter_cons_of_neg (by unfold notTick; rw [e]; simp)] at h
      rw [List.cons_append, whole_tick e, whole_tick e, whole_app h, List.cons_append]
    · rw [List.filter_cons_of_pos (by unfold notTick; exact decide_eq_true e)] at h
      cases r0 with
      | nil => simp at h
      | cons k r0 => rw [List.cons_append, List.cons_append, whole_cons e, whole_cons e, whole_app (by simpa using h), List.cons_append]
theorem isi_tup (d : D) : isiD "tuple" d = match d with | .tuple _ => true | _ => false := by cases d <;> rfl
theorem isi_str (d : D) : isiD "str" d = match d with | .str _ => true | _ => false := by cases d <;> rfl
def fitB (ss : List Src) (it : Str) (d : D) : Bool := match d with
  | .str k => decide (KindOk (joinL ss [it]) k)
  | _ => false
def rowB (ss : List Src) (L : List Str) (d : D) : Bool := match d with
  | .tuple xs => decide (xs.length = L.length) && (xs.zip L).all fun p => fitB ss p.2 p.1
  | _ => false
theorem row_of_fit {ss : List Src} : ∀ {L : List Str} {xs : List D}, xs.length = L.length → ((xs.zip L).all fun p => fitB ss p.2 p.1) = true → ∃ row : List Str, xs = row.map .str ∧ RowOk ss L row
  | [], [], _, _ => ⟨[], rfl, trivial⟩
  | [], _ :: _, h, _ => by simp at h
  | _ :: _, [], h, _ => by simp at h
  | it :: L, y :: xs, h, ha => by
    rw [List.zip_cons_cons, List.all_cons, Bool.and_eq_true] at ha
    obtain ⟨row, e, ok⟩ := row_of_fit (by simpa using h) ha.2
    cases y with
    | str k => exact ⟨k :: row, by rw [e]; rfl, of_decide_eq_true ha.1, ok⟩
    | _ => exact absurd ha.1 (by simp [fitB])
theorem row_of_B {ss : List Src} {L : List Str} {d : D} (h : rowB ss L d = true) : ∃ row : List Str, d = .tuple (row.map .str) ∧ RowOk ss L row := by
  cases d with
  | tuple xs =>
    have h : (decide (xs.length = L.length) && (xs.zip L).all fun p => fitB ss p.2 p.1) = true := h
    rw [Bool.and_eq_true] at h
    obtain ⟨row, e, ok⟩ := row_of_fit (of_decide_eq_true h.1) h.2
    exact ⟨row, by rw [e], ok⟩
  | _ => exact absurd h (by simp [rowB])
theorem B_of_row {ss : List Src} {L row : List Str} (h : RowOk ss L row) : rowB ss L (.tuple (row.map .str)) = true := by
  have all : ∀ {L row : List Str}, RowOk ss L row → (((row.map PyData.str).zip L).all fun p => fitB ss p.2 p.1) = true := by
    intro L
    induction L with
    | nil => intro row h; cases row with | nil => rfl | cons _ _ => exact h.elim
    | cons it L ih =>
      intro row h
      cases row with
      | nil => exact h.elim
      | cons k row =>
        rw [List.map_cons, List.zip_cons_cons, List.all_cons, ih h.2, Bool.and_true]
        exact decide_eq_true h.1
  show (decide ((row.map PyData.str).length = L.length) && _) = true
  rw [all h, List.length_map, RowOk.len h]
  simp
theorem zip_strs {L : List Str} : ∀ {xs : List D}, zipD xs (L.map .str) = (xs.zip L).map fun p => .tuple [p.1, .str p.2] := by
  induction L with
  | nil => intro xs; cases xs <;> rfl
  | cons l L ih =>
    intro xs
    cases xs with
    | nil => rfl
    | cons y xs =>
      show PyData.tuple [y, .str l] :: zipD xs (L.map .str) = _
      rw [ih]
      rfl
theorem zip_snd {α β : Type} : ∀ {xs : List α} {ys : List β} {p : α × β}, p ∈ xs.zip ys → p.1 ∈ xs ∧ p.2 ∈ ys
  | _, _, p, h => List.of_mem_zip h
theorem s_whole_row {row : List Str} (h : PlanOk P) (hF : F ∈ P.fs) (hx : F.name = x) (hr : row.length = (slotL P.ss F).length) (q : Q (.lst ((wholeR (readL P.ss F) row).map pairD)) []) : sp_whole_row [.fz (planD P), .fz (.str x), .fz (.tuple (row.map .str))] Q E := by
  have hl := readL_len h (h.fo F hF)
  refine e_body rfl (by simp only [List.map_cons, List.map_nil, List.length_cons, List.length_nil, Nat.reduceAdd, Nat.reduceSub, List.replicate, List.replicate_zero, List.cons_append, List.nil_append]; rfl) ?_
  unfold g_whole_row
  walk_at "vl"
  refine s_parts_of h hF hx ?_
  walk_at "vl"
  refine for_enc .str (fun dn e => ∃ r0 r x3, row = r0 ++ r ∧ (dn.filter notTick).length = r0.length ∧ (wholeR dn r0).length ≤ dn.length ∧ e = ⟨[some (.fz (planD P)), some (.fz (.str x)), some (.fz (.tuple (row.map .str))), x3, some (.lst (r.map .str)), some (.lst ((wholeR dn r0).map pairD))], []⟩) ⟨[], row, _, rfl, rfl, Nat.le_refl _, rfl⟩ ?_ ?_
  · rintro dn p rest e kk hp ⟨r0, r, x3, hrow, hd, hwl, rfl⟩ hk
    have hdn : dn.length ≤ 400 := by have := congrArg List.length hp; simp at this; omega
    have hsl : (slotL P.ss F).length = r0.length + ((p :: rest).filter notTick).length := by
      have e : slotL P.ss F = (dn ++ p :: rest).filter notTick := by rw [← hp]; rfl
      rw [e, List.filter_append, List.length_append, hd]
    walk_at "vl"
    unfold g_whole_row_1
    walk_at "vl"
    · rw [v_str]
      refine e_ite (fun hz => ?_) (fun hz => ?_)
      · have hz : p = tick := of_decide_eq_true hz
        have ea := whole_app (dn := dn) (ps := [p]) (r0 := r0) (r := []) hd
        have e1 : wholeR [p] [] = [(p, tick)] := whole_tick hz
        rw [List.append_nil, e1] at ea
        walk_at "vl"
        refine e_2 ?_ (by rw [List.length_map]; omega)
        rw [show (wholeR dn r0).map pairD ++ [PyData.tuple [.str p, .str "tick"]] = (wholeR (dn ++ [p]) r0).map pairD from by rw [ea, List.map_append]; rfl]
        walk_at "vl"
        exact hk _ ⟨r0, r, _, hrow, by rw [List.filter_append, List.length_append, hd, List.filter_cons_of_neg (by unfold notTick; rw [hz]; simp)]; rfl, by rw [ea, List.length_append, List.length_append]; simp; omega, rfl⟩
      · have hz : ¬ p = tick := of_decide_eq_false hz
        rw [List.filter_cons_of_pos (by unfold notTick; exact decide_eq_true hz)] at hsl
        cases r with
        | nil =>
          rw [hrow, List.append_nil] at hr
          rw [List.length_cons] at hsl
          omega
        | cons k r =>
          have ea := whole_app (dn := dn) (ps := [p]) (r0 := r0) (r := [k]) hd
          have e1 : wholeR [p] [k] = [(p, k)] := whole_cons hz
          rw [e1] at ea
          have hr9 : r.length ≤ 400 := by
            have := congrArg List.length hrow
            have h9 : (slotL P.ss F).length ≤ (readL P.ss F).length := List.length_filter_le _ _
            rw [List.length_append, List.length_cons] at this
            omega
          rw [List.map_cons]
          walk_at "vl"
          refine e_b (a := .str k) rfl ?_
          refine e_2 ?_ (by rw [List.length_cons, List.length_map]; omega)
          rw [List.eraseIdx_cons_zero]
          walk_at "vl"
          refine e_2 ?_ (by rw [List.length_map]; omega)
          rw [show (wholeR dn r0).map pairD ++ [PyData.tuple [.str p, .str k]] = (wholeR (dn ++ [p]) (r0 ++ [k])).map pairD from by rw [ea, List.map_append]; rfl]
          walk_at "vl"
          exact hk _ ⟨r0 ++ [k], r, _, by rw [hrow, List.append_assoc]; rfl, by rw [List.filter_append, List.length_append, hd, List.filter_cons_of_pos (by unfold notTick; exact decide_eq_true hz), List.length_append]; rfl, by rw [ea, List.length_append, List.length_append]; simp; omega, rfl⟩
    · exact ⟨by simp, by simp⟩
  · rintro e ⟨r0, r, x3, hrow, hd, hwl, rfl⟩
    have er : r = [] := by
      have e : (slotL P.ss F).length = r0.length := by rw [← hd]; rfl
      have := congrArg List.length hrow
      rw [List.length_append] at this
      exact List.eq_nil_of_length_eq_zero (by omega)
    subst er
    rw [List.append_nil] at hrow
    subst hrow
    walk_at "vl"
    exact q
theorem s_is_row {L : List Str} {d : D} (h : PlanOk P) (hL : ∀ it ∈ L, ∃ s ∈ P.ss, s.name = it) (hl : L.length ≤ 400) (hd : ∀ xs, d = .tuple xs → xs.length ≤ 1000) (q : Q (.fz (.bool (rowB P.ss L d))) []) : sp_is_row [.fz (planD P), .fz (.tuple (L.map .str)), .fz d] Q E := by
  refine e_body rfl (by simp only [List.map_cons, List.map_nil, List.length_cons, List.length_nil, Nat.reduceAdd, Nat.reduceSub, List.replicate, List.replicate_zero, List.cons_append, List.nil_append]; rfl) ?_
  unfold g_is_row
  walk_at "vl"
  rw [isi_tup]
  cases d with
  | tuple xs =>
    have hx := hd xs rfl
    refine e_iteF ?_
    walk_at "vl"
    · rw [v_int]
      refine e_ite (fun hz => ?_) (fun hz => ?_)
      · walk_at "vl"
        have : rowB P.ss L (.tuple xs) = false := by
          show (decide (xs.length = L.length) && _) = false
          have hz : (!decide (((xs.length : Nat) : Int) = (((L.map PyData.str).length : Nat) : Int))) = true := hz
          rw [List.length_map] at hz
          rw [decide_eq_false (fun e => by rw [e] at hz; simp at hz), Bool.false_and]
        rw [this] at q
        exact q
      · have he : xs.length = L.length := by
          have hz : (!decide (((xs.length : Nat) : Int) = (((L.map PyData.str).length : Nat) : Int))) = false := hz
          rw [List.length_map] at hz
          have := of_decide_eq_true (by simpa using hz : decide (((xs.length : Nat) : Int) = ((L.length : Nat) : Int)) = true)
          omega
        walk_at "vl"
        unfold g_is_row_1
        walk_at "vl"
        rw [zip_strs]
        refine e_3 ?_ rfl (by rw [List.length_map, List.length_zip]; omega)
        refine lc_enc (fun p => .bool (fitB P.ss p.2 p.1)) (fun p hp Qy Qn hq => ?_) ?_
        · obtain ⟨y, it⟩ := p
          obtain ⟨s, hs, rfl⟩ := hL _ (zip_snd hp).2
          walk_at "vl"
          rw [isi_str]
          cases y with
          | str k =>
            refine e_iteT ?_
            walk_at "vl"
            refine s_letters_of (names := [s.name]) (Ls := s.ls) h (fun y hy => ⟨s, hs, (List.mem_singleton.mp hy).symm⟩) (h.so s hs).pw (fun l => ?_) ?_
            · rw [← joinL_mem, join_one (pw_nd h.sp) hs]
            · have h5 := (h.so s hs).l5
              walk_at "vl"
              rw [List.append_nil]
              refine e_2 ?_ (by rw [List.length_cons, List.length_cons, List.length_map]; omega)
              have em : PyData.str "open" :: PyData.str "empty" :: s.ls.map PyData.str = (opn :: emp :: s.ls).map .str := rfl
              walk_at "vl"
              · rw [em, any_strs, Bool.false_xor]
                have ek : fitB P.ss s.name (.str k) = decide (k ∈ opn :: emp :: s.ls) := by
                  unfold fitB KindOk
                  rw [join_one (pw_nd h.sp) hs]
                  simp only [List.mem_cons]
                have hq : Qy (.bool (fitB P.ss s.name (.str k))) _ := hq
                rw [ek] at hq
                exact hq
              · rw [em]
                exact ⟨by simp, pl_strs (by omega)⟩
          | _ =>
            refine e_iteF ?_
            walk_at "vl"
            exact hq
        · walk_at "vl"
          refine ⟨fun d hd => by obtain ⟨p, _, rfl⟩ := List.mem_map.mp hd; rfl, ?_⟩
          rw [List.all_map]
          have eb : rowB P.ss L (.tuple xs) = (xs.zip L).all (valB ∘ fun p => .bool (fitB P.ss p.2 p.1)) := by
            show (decide (xs.length = L.length) && _) = _
            rw [decide_eq_true he, Bool.true_and]
            rfl
          rw [eb] at q
          walk_at "vl"
          exact q
    · exact ⟨by simp, by simp⟩
  | _ =>
    refine e_iteT ?_
    walk_at "vl"
    exact q
theorem slotL_src (h : PlanOk P) : ∀ it ∈ slotL P.ss F, ∃ s ∈ P.ss, s.name = it := fun it hit => by
  obtain ⟨h1, h2⟩ := List.mem_filter.mp hit
  obtain ⟨s, hs, e, _⟩ := (read_parts h it h1).resolve_left (of_decide_eq_true h2)
  exact ⟨s, hs, e⟩
theorem slotL_len (h : PlanOk P) (hF : FigOk P.ss F) : (slotL P.ss F).length ≤ 400 := Nat.le_trans (List.length_filter_le _ _) (readL_len h hF)
theorem s_need_row {d : D} (h : PlanOk P) (hF : F ∈ P.fs) (hx : F.name = x) (hd : ∀ xs, d = .tuple xs → xs.length ≤ 1000) (q1 : rowB P.ss (slotL P.ss F) d = true → Q (.fz .none) []) (q2 : rowB P.ss (slotL P.ss F) d = false → E ⟨"Refused", [("why", .str "row")]⟩ []) : sp_need_row [.fz (planD P), .fz (.str x), .fz d] Q E := by
  refine e_body rfl (by simp only [List.map_cons, List.map_nil, List.length_cons, List.length_nil, Nat.reduceAdd, Nat.reduceSub, List.replicate, List.replicate_zero, List.cons_append, List.nil_append]; rfl) ?_
  unfold g_need_row
  walk_at "vl"
  refine s_slot_sources h hF hx ?_
  walk_at "vl"
  refine s_is_row h (slotL_src h) (slotL_len h (h.fo F hF)) hd ?_
  walk_at "vl"
  refine e_ite (fun hz => ?_) (fun hz => ?_)
  · have hz : rowB P.ss (slotL P.ss F) d = false := by simpa using hz
    walk_at "vl"
    exact e_2 (e_b (a := []) rfl (q2 hz)) rfl
  · have hz : rowB P.ss (slotL P.ss F) d = true := by simpa using hz
    walk_at "vl"
    exact q1 hz
end K22

/-! sets.py: sets_of, last_set; what is refused -/
namespace K22
open PySem PySem.Spec PyProof.Rows L2 VL
variable {b : List D} {Q : M → List M → Prop} {E : Ex → List M → Prop} {P : Plan} {s : Src} {F : Fig} {x p k : Str}
def stD (S : List Nat) : D := .tuple (S.map iD)
theorem s_parts_of_no (h : PlanOk P) (hx : ∀ F ∈ P.fs, F.name ≠ x) (q : E ⟨"NoFigure", [("name", .str x)]⟩ []) : sp_parts_of [.fz (planD P), .fz (.str x)] Q E := by
  refine e_body rfl (by simp only [List.map_cons, List.map_nil, List.length_cons, List.length_nil, Nat.reduceAdd, Nat.reduceSub, List.replicate, List.replicate_zero, List.cons_append, List.nil_append]; rfl) ?_
  unfold g_parts_of
  walk_at "vl"
  refine s_figure_of_no h hx ?_
  exact e_b (a := []) rfl q
theorem s_slot_sources_no (h : PlanOk P) (hx : ∀ F ∈ P.fs, F.name ≠ x) (q : E ⟨"NoFigure", [("name", .str x)]⟩ []) : sp_slot_sources [.fz (planD P), .fz (.str x)] Q E := by
  refine e_body rfl (by simp only [List.map_cons, List.map_nil, List.length_cons, List.length_nil, Nat.reduceAdd, Nat.reduceSub, List.replicate, List.replicate_zero, List.cons_append, List.nil_append]; rfl) ?_
  unfold g_slot_sources
  walk_at "vl"
  refine s_parts_of_no h hx ?_
  exact e_b (a := []) rfl q
theorem s_need_row_no {d : D} (h : PlanOk P) (hx : ∀ F ∈ P.fs, F.name ≠ x) (q : E ⟨"NoFigure", [("name", .str x)]⟩ []) : sp_need_row [.fz (planD P), .fz (.str x), .fz d] Q E := by
  refine e_body rfl (by simp only [List.map_cons, List.map_nil, List.length_cons, List.length_nil, Nat.reduceAdd, Nat.reduceSub, List.replicate, List.replicate_zero, List.cons_append, List.nil_append]; rfl) ?_
  unfold g_need_row
  walk_at "vl"
  refine s_slot_sources_no h hx ?_
  exact e_b (a := []) rfl q
theorem s_sets_of_no {d : D} (h : PlanOk P) (hx : ∀ F ∈ P.fs, F.name ≠ x) (q : E ⟨"NoFigure", [("name", .str x)]⟩ []) : sp_sets_of [.fz (planD P), .fz (.str x), .fz d] Q E := by
  refine e_body rfl (by simp only [List.map_cons, List.map_nil, List.length_cons, List.length_nil, Nat.reduceAdd, Nat.reduceSub, List.replicate, List.replicate_zero, List.cons_append, List.nil_append]; rfl) ?_
  unfold g_sets_of
  walk_at "vl"
  refine s_need_row_no h hx ?_
  exact e_b (a := []) rfl q
theorem s_last_set_no {d : D} (h : PlanOk P) (hx : ∀ F ∈ P.fs, F.name ≠ x) (q : E ⟨"NoFigure", [("name", .str x)]⟩ []) : sp_last_set [.fz (planD P), .fz (.str x), .fz d] Q E := by
  refine e_body rfl (by simp only [List.map_cons, List.map_nil, List.length_cons, List.length_nil, Nat.reduceAdd, Nat.reduceSub, List.replicate, List.replicate_zero, List.cons_append, List.nil_append]; rfl) ?_
  unfold g_last_set
  walk_at "vl"
  refine s_sets_of_no h hx ?_
  exact e_b (a := []) rfl q
/-- the last of a list -/
theorem at_lastS {L : List (List Nat)} (h : L ≠ []) : atI (L.map stD) (-1) = some (stD (lastS L)) := by
  have e := List.dropLast_concat_getLast h
  rw [← e, List.map_append]
  show atI (_ ++ [stD (L.getLast h)]) (-1) = _
  rw [at_last]
  unfold lastS
  rw [List.getLast?_append]
  rfl
theorem s_sets_of {d : D} (h : PlanOk P) (hF : F ∈ P.fs) (hx : F.name = x) (hd : ∀ xs, d = .tuple xs → xs.length ≤ 1000) (q1 : ∀ row : List Str, d = .tuple (row.map .str) → RowOk P.ss (slotL P.ss F) row → Q (.fz (.tuple ((setsAll P.ss F (wholeR (readL P.ss F) row)).map stD))) [])
    (q2 : rowB P.ss (slotL P.ss F) d = false → E ⟨"Refused", [("why", .str "row")]⟩ []) : sp_sets_of [.fz (planD P), .fz (.str x), .fz d] Q E := by
  have hf := h.fo F hF
  have hl := readL_len h hf
  refine e_body rfl (by simp only [List.map_cons, List.map_nil, List.length_cons, List.length_nil, Nat.reduceAdd, Nat.reduceSub, List.replicate, List.replicate_zero, List.cons_append, List.nil_append]; rfl) ?_
  unfold g_sets_of
  walk_at "vl"
  refine s_need_row h hF hx hd (fun hr => ?_) fun hr => e_b (a := []) rfl (q2 hr)
  obtain ⟨row, rfl, ok⟩ := row_of_B hr
  have q1 := q1 row rfl ok
  have wl := whole_len (ps := readL P.ss F) (row := row) ok
  have wo := whole_ok (F := F) h (read_parts h) ok
  generalize hps : wholeR (readL P.ss F) row = ps at q1 wl wo
  walk_at "vl"
  refine s_figure_of h hF hx ?_
  unfold figD
  walk_at "vl"
  refine s_whole_row h hF hx ok.len ?_
  rw [hps]
  walk_at "vl"
  refine for_enc pairD (fun dn e => ∃ x5 x6, e = ⟨[some (.fz (planD P)), some (.fz (.str x)), some (.fz (.tuple (row.map .str))), some (.fz F.mcD), some (.lst ((setsAll P.ss F dn).map stD)), x5, x6], []⟩) ⟨_, _, rfl⟩ ?_ ?_
  · rintro dn ⟨p, k⟩ rest e kk hp ⟨x5, x6, rfl⟩ hk
    have hdn : dn.length ≤ 400 := by have := congrArg List.length hp; simp at this; omega
    have ok1 : PairOk P.ss F p k := wo (p, k) (by rw [hp]; simp)
    have hne : setsAll P.ss F dn ≠ [] := by unfold setsAll; simp
    obtain ⟨l1, l2⟩ := setsAll_lt hf (lastS (setsAll P.ss F dn)) (lastS_mem hne)
    have hsl := setsAll_len (ss := P.ss) (F := F) (ps := dn)
    unfold pairD
    walk_at "vl"
    unfold g_sets_of_1
    walk_at "vl"
    refine e_ix (at_lastS hne) ?_
    rw [show stD (lastS (setsAll P.ss F dn)) = .tuple ((lastS (setsAll P.ss F dn)).map iD) from rfl]
    walk_at "vl"
    refine s_set_behind h hf ok1 l1 l2 ?_
    walk_at "vl"
    refine e_2 ?_ (by rw [List.length_map]; omega)
    rw [show (setsAll P.ss F dn).map stD ++ [PyData.tuple ((setBehind P.ss F (lastS (setsAll P.ss F dn)) p k).map iD)] = (setsAll P.ss F (dn ++ [(p, k)])).map stD from by rw [setsAll_snoc, List.map_append]; rfl]
    walk_at "vl"
    exact hk _ ⟨_, _, rfl⟩
  · rintro e ⟨x5, x6, rfl⟩
    walk_at "vl"
    exact q1
theorem s_last_set {d : D} (h : PlanOk P) (hF : F ∈ P.fs) (hx : F.name = x) (hd : ∀ xs, d = .tuple xs → xs.length ≤ 1000) (q1 : ∀ row : List Str, d = .tuple (row.map .str) → RowOk P.ss (slotL P.ss F) row → Q (.fz (stD (lastS (setsAll P.ss F (wholeR (readL P.ss F) row))))) [])
    (q2 : rowB P.ss (slotL P.ss F) d = false → E ⟨"Refused", [("why", .str "row")]⟩ []) : sp_last_set [.fz (planD P), .fz (.str x), .fz d] Q E := by
  refine e_body rfl (by simp only [List.map_cons, List.map_nil, List.length_cons, List.length_nil, Nat.reduceAdd, Nat.reduceSub, List.replicate, List.replicate_zero, List.cons_append, List.nil_append]; rfl) ?_
  unfold g_last_set
  walk_at "vl"
  refine s_sets_of h hF hx hd (fun row e ok => ?_) fun hr => e_b (a := []) rfl (q2 hr)
  walk_at "vl"
  refine e_ix (at_lastS (by unfold setsAll; simp)) ?_
  walk_at "vl"
  exact q1 row e ok
end K22

/-! the law's sets -/
namespace K22
open PySem PySem.Spec PyProof.Rows L2 VL
variable {b : List D} {Q : M → List M → Prop} {E : Ex → List M → Prop} {P : Plan} {s : Src} {F : Fig} {x p k : Str}
def lawWays (s : Src) (k : Str) : List Str := if k = opn then s.ls ++ [emp] else [k]
theorem s_law_ways (h : PlanOk P) (hs : s ∈ P.ss) (q : Q (.lst ((lawWays s k).map .str)) []) : sp__law_ways [.fz (planD P), .fz (.str s.name), .fz (.str k)] Q E := by
  have h5 := (h.so s hs).l5
  refine e_body rfl (by simp only [List.map_cons, List.map_nil, List.length_cons, List.length_nil, Nat.reduceAdd, Nat.reduceSub, List.replicate, List.replicate_zero, List.cons_append, List.nil_append]; rfl) ?_
  unfold g__law_ways
  unfold lawWays at q
  walk_at "vl"
  · rw [v_str]
    refine e_ite (fun hz => ?_) (fun hz => ?_)
    · have hz : k = opn := of_decide_eq_true hz
      rw [if_pos hz, List.map_append] at q
      walk_at "vl"
      refine s_law_source h hs rfl ?_
      unfold srcD
      walk_at "vl"
      · exact q
      · simp only [List.length_map, List.length_cons, List.length_nil]; omega
    · have hz : ¬ k = opn := of_decide_eq_false hz
      rw [if_neg hz] at q
      walk_at "vl"
      exact q
  · exact ⟨by simp, by simp⟩
theorem ways_same (h : PlanOk P) (hs : s ∈ P.ss) {w : Str} : w ∈ lawWays s k ↔ w ∈ waysF P.ss s.name k := by
  unfold lawWays waysF
  by_cases e : k = opn
  · rw [if_pos e, if_pos e, join_one (pw_nd h.sp) hs]
    simp only [List.mem_append, List.mem_cons, List.not_mem_nil, or_false]
    exact or_comm
  · rw [if_neg e, if_neg e]
end K22

/-! the law's sets -/
namespace K22
open PySem PySem.Spec PyProof.Rows L2 VL
variable {b : List D} {Q : M → List M → Prop} {E : Ex → List M → Prop} {P : Plan} {s : Src} {F : Fig} {x p k : Str}
theorem s_law_sets {row : List Str} (h : PlanOk P) (hF : F ∈ P.fs) (hx : F.name = x) (ok : RowOk P.ss (slotL P.ss F) row) (q : Q (.fz (.tuple ((setsAll P.ss F (wholeR (readL P.ss F) row)).map stD))) []) : sp__law_sets [.fz (planD P), .fz (.str x), .fz (.tuple (row.map .str))] Q E := by
  have hf := h.fo F hF
  have hl := readL_len h hf
  have n9 := hf.m.n9
  have hr := ok.len
  have hrl := slotL_len h hf
  have wo := whole_ok (F := F) h (read_parts h) ok
  refine e_body rfl (by simp only [List.map_cons, List.map_nil, List.length_cons, List.length_nil, Nat.reduceAdd, Nat.reduceSub, List.replicate, List.replicate_zero, List.cons_append, List.nil_append]; rfl) ?_
  unfold g__law_sets
  walk_at "vl"
  refine s_law_figure h hF hx ?_
  unfold figD
  walk_at "vl"
  refine s_law_reading h hF hx ?_
  walk_at "vl"
  refine for_enc .str (fun dn e => ∃ r0 r x3 x8 x9 x10, row = r0 ++ r ∧ (dn.filter notTick).length = r0.length ∧ (wholeR dn r0).length ≤ dn.length ∧ e = ⟨[some (.fz (planD P)), some (.fz (.str x)), some (.fz (.tuple (row.map .str))), x3, some (.fz F.mcD), some (.lst ((lastS (setsAll P.ss F (wholeR dn r0))).map iD)), some (.lst (r.map .str)), some (.lst ((setsAll P.ss F (wholeR dn r0)).map stD)), x8, x9, x10, none], []⟩) ⟨[], row, _, _, _, _, rfl, rfl, Nat.le_refl _, rfl⟩ ?_ ?_
  · rintro dn p rest e kk hp ⟨r0, r, x3, x8, x9, x10, hrow, hd, hwl, rfl⟩ hk
    have hdn : dn.length ≤ 400 := by have := congrArg List.length hp; simp at this; omega
    have hsl : (slotL P.ss F).length = r0.length + ((p :: rest).filter notTick).length := by
      have e : slotL P.ss F = (dn ++ p :: rest).filter notTick := by rw [← hp]; rfl
      rw [e, List.filter_append, List.length_append, hd]
    have hne : setsAll P.ss F (wholeR dn r0) ≠ [] := by unfold setsAll; simp
    obtain ⟨l1, l2⟩ := setsAll_lt hf (lastS (setsAll P.ss F (wholeR dn r0))) (lastS_mem hne)
    have hsa := setsAll_len (ss := P.ss) (F := F) (ps := wholeR dn r0)
    have snoc : ∀ {a c}, (setsAll P.ss F (wholeR dn r0 ++ [(a, c)])).map stD = (setsAll P.ss F (wholeR dn r0)).map stD ++ [stD (setBehind P.ss F (lastS (setsAll P.ss F (wholeR dn r0))) a c)] := fun {a c} => by rw [setsAll_snoc, List.map_append]; rfl
    have last : ∀ {a c}, lastS (setsAll P.ss F (wholeR dn r0 ++ [(a, c)])) = setBehind P.ss F (lastS (setsAll P.ss F (wholeR dn r0))) a c := fun {a c} => by
      rw [setsAll_snoc]; unfold lastS; rw [List.getLast?_append]; rfl
    generalize hS : lastS (setsAll P.ss F (wholeR dn r0)) = S at l1 l2 snoc last
    -- sorted, told
    have fin : ∀ (bk ct : VL.Env → Prop) (r0' r' : List Str) (p' k' : Str) (later : List Nat) (x5 x9 x10 : Option M), wholeR (dn ++ [p]) r0' = wholeR dn r0 ++ [(p', k')] → row = r0' ++ r' → ((dn ++ [p]).filter notTick).length = r0'.length → (∀ j, j ∈ later ↔ j ∈ allBehind P.ss F S p' k') → (∀ j ∈ later, j < F.n) → later.length ≤ 4000 →
        g__law_sets_2 ⟨[some (.fz (planD P)), some (.fz (.str x)), some (.fz (.tuple (row.map .str))), some (.fz (.str p)), some (.fz F.mcD), x5, some (.lst (r'.map .str)), some (.lst ((setsAll P.ss F (wholeR dn r0)).map stD)), some (.lst (later.map iD)), x9, x10, none], []⟩
          ⟨kk, fun m e => boK e.sl [] fun b => Q m b, bk, ct⟩ (fun ex e => bindP (borOf e.sl []) fun b => E ex b) := by
      intro bk ct r0' r' p' k' later x5 x9 x10 ew hrow' hfil hm hlt hll
      obtain ⟨ks, e1, e2, hL⟩ := set_ints (n := F.n) hlt hll
      have ea : asc F.n later = setBehind P.ss F S p' k' := asc_congr hm
      unfold g__law_sets_2
      walk_at "vl"
      refine ⟨ks, e1, e2, fun L nd hmm => ?_⟩
      obtain ⟨one, hs⟩ := hL L nd hmm
      refine ⟨one, fun ys hy => ?_⟩
      rw [hs ys hy, ea]
      walk_at "vl"
      refine e_2 ?_ (by rw [List.length_map]; omega)
      rw [show (setsAll P.ss F (wholeR dn r0)).map stD ++ [PyData.tuple ((setBehind P.ss F S p' k').map iD)] = (setsAll P.ss F (wholeR (dn ++ [p]) r0')).map stD from by rw [ew, snoc]; rfl]
      walk_at "vl"
      rw [show setBehind P.ss F S p' k' = lastS (setsAll P.ss F (wholeR (dn ++ [p]) r0')) from by rw [ew, last]]
      exact hk _ ⟨r0', r', _, _, _, _, hrow', hfil, by rw [ew, List.length_append, List.length_append]; simp; omega, rfl⟩
    walk_at "vl"
    unfold g__law_sets_3
    walk_at "vl"
    · rw [v_str]
      refine e_ite (fun hz => ?_) (fun hz => ?_)
      · have hz : p = tick := of_decide_eq_true hz
        have ea := whole_app (dn := dn) (ps := [p]) (r0 := r0) (r := []) hd
        rw [List.append_nil, whole_tick hz] at ea
        walk_at "vl"
        refine e_3 ?_ rfl (by rw [List.length_map]; omega)
        refine lc_enc (fun j => iD (F.tk j)) (fun j hj Qy Qn hq => ?_) ?_
        · unfold iD Fig.mcD mc at hq ⊢
          walk_at "vl"
          refine e_ix (at_row (l1 j hj)) ?_
          walk_at "vl"
          exact hq
        · walk_at "vl"
          rw [show S.map (fun j => iD (F.tk j)) = (S.map F.tk).map iD from by rw [List.map_map]; rfl]
          subst hz
          refine fin _ _ r0 r tick tick (S.map F.tk) _ _ _ ea hrow (by rw [List.filter_append, List.length_append, hd]; rfl) (fun j => ?_) (fun j hj => ?_) (by rw [List.length_map]; omega)
          · unfold allBehind waysF
            rw [if_neg (by unfold tick opn; decide), List.flatMap_singleton]
            unfold goneW
            simp
          · obtain ⟨i, hi, rfl⟩ := List.mem_map.mp hj
            exact hf.m.ts i (l1 i hi)
      · have hz : ¬ p = tick := of_decide_eq_false hz
        rw [List.filter_cons_of_pos (by unfold notTick; exact decide_eq_true hz)] at hsl
        cases r with
        | nil =>
          rw [hrow, List.append_nil] at hr
          rw [List.length_cons] at hsl
          omega
        | cons k r =>
          have ea := whole_app (dn := dn) (ps := [p]) (r0 := r0) (r := [k]) hd
          rw [whole_cons hz] at ea
          have hr9 : r.length ≤ 400 := by
            have := congrArg List.length hrow
            rw [List.length_append, List.length_cons] at this
            omega
          have pok : PairOk P.ss F p k := by
            refine wo (p, k) ?_
            have ew := whole_app (dn := dn) (ps := p :: rest) (r0 := r0) (r := k :: r) hd
            rw [hp, hrow, ew, whole_cons hz]
            simp
          obtain ⟨s, hs, hsn, hsr, hsk⟩ : ∃ s ∈ P.ss, s.name = p ∧ p ∈ F.reads ∧ KindOk s.ls k := pok.resolve_left fun z => hz z.1
          subst hsn
          have wl : (lawWays s k).length ≤ 6 := by
            have := (h.so s hs).l5
            unfold lawWays
            split
            · rw [List.length_append, List.length_singleton]; omega
            · simp
          rw [List.map_cons]
          walk_at "vl"
          refine e_b (a := .str k) rfl ?_
          refine e_2 ?_ (by rw [List.length_cons, List.length_map]; omega)
          rw [List.eraseIdx_cons_zero]
          walk_at "vl"
          refine s_law_ways h hs ?_
          walk_at "vl"
          have wgo : ∀ w ∈ lawWays s k, w ≠ tick ∧ (w = emp ∨ w ∈ F.Ls) := fun w hw => by
            have nt : w ≠ tick := fun e => by
              subst e
              unfold lawWays at hw
              by_cases e : k = opn
              · rw [if_pos e] at hw
                rcases List.mem_append.mp hw with hw | hw
                · exact (ltr_no ((h.so s hs).lm _ hw)).1 rfl
                · exact absurd (List.mem_singleton.mp hw) (by unfold tick emp; decide)
              · rw [if_neg e] at hw
                have hw := List.mem_singleton.mp hw
                rw [← hw] at hsk
                rcases hsk with e | e | e
                · exact absurd e (by unfold tick opn; decide)
                · exact absurd e (by unfold tick emp; decide)
                · exact (ltr_no ((h.so s hs).lm _ e)).1 rfl
            exact ⟨nt, (ways_go h hf pok ((ways_same h hs).mp hw)).resolve_left nt⟩
          refine for_enc .str (fun dw e => ∃ x5 x9, (x5 = .lst (S.map iD) ∨ x5 = .fz (.list (S.map iD))) ∧ e = ⟨[some (.fz (planD P)), some (.fz (.str x)), some (.fz (.tuple (row.map .str))), some (.fz (.str s.name)), some (.fz F.mcD), some x5, some (.lst (r.map .str)), some (.lst ((setsAll P.ss F (wholeR dn r0)).map stD)), some (.lst ((dw.flatMap fun w => S.map (goneW F.f F.tk w)).map iD)), x9, some (.fz (.str k)), none], []⟩) ⟨_, _, .inl rfl, rfl⟩ ?_ ?_
          · rintro dw w rest2 e2 k2 hw ⟨x5, x9, hx5, rfl⟩ hk2
            have hwm : w ∈ lawWays s k := by rw [hw]; simp
            obtain ⟨wt, we⟩ := wgo w hwm
            have hdw : dw.length ≤ 6 := by have := congrArg List.length hw; simp at this; omega
            have hl9 := flatMap_len (xs := dw) (c := 45) (f := fun w => S.map (goneW F.f F.tk w)) fun w _ => by rw [List.length_map]; omega
            have body : ∀ env : VL.Env, env = ⟨[some (.fz (planD P)), some (.fz (.str x)), some (.fz (.tuple (row.map .str))), some (.fz (.str s.name)), some (.fz F.mcD), some (.fz (.list (S.map iD))), some (.lst (r.map .str)), some (.lst ((setsAll P.ss F (wholeR dn r0)).map stD)), some (.lst ((dw.flatMap fun w => S.map (goneW F.f F.tk w)).map iD)), some (.fz (.str w)), some (.fz (.str k)), none], []⟩ →
                ∀ j ∈ S, ∀ Qy Qn, Qy (iD (goneW F.f F.tk w j)) env → lcT [11] (gN 11) fYes (fIf (fTB (fOp gEq (aP (fVar 9) (aP (fC (.str "empty")) aNil)))) (fVar 11) (fCall sp__law_step [] (aL (fVar 4) (aL (fVar 11) (aL (fVar 9) (aNil)))))) (iD j) env Qy Qn := by
              rintro env rfl j hj Qy Qn hq
              have eg : goneW F.f F.tk w j = if w = emp then j else F.f w j := by unfold goneW; rw [if_neg wt]
              rw [eg] at hq
              unfold iD at hq ⊢
              walk_at "vl"
              · rw [v_str]
                refine e_ite (fun hz => ?_) (fun hz => ?_)
                · have hz : w = emp := of_decide_eq_true hz
                  rw [if_pos hz] at hq
                  walk_at "vl"
                  exact hq
                · have hz : ¬ w = emp := of_decide_eq_false hz
                  rw [if_neg hz] at hq
                  walk_at "vl"
                  have l3 := hf.m.l3
                  refine s_law_step (by omega) (l1 j hj) (we.resolve_left hz) ?_
                  walk_at "vl"
                  exact hq
              · exact ⟨by simp, by simp⟩
            have fin2 : (dw.flatMap fun w => S.map (goneW F.f F.tk w)).map iD ++ S.map (fun j => iD (goneW F.f F.tk w j)) = ((dw ++ [w]).flatMap fun w => S.map (goneW F.f F.tk w)).map iD := by
              rw [List.flatMap_append, List.flatMap_singleton, List.map_append, List.map_map]
              rfl
            rcases hx5 with rfl | rfl
            · walk_at "vl"
              unfold g__law_sets_1
              walk_at "vl"
              refine e_3 ?_ rfl (by rw [List.length_map]; omega)
              refine lc_enc (fun j => iD (goneW F.f F.tk w j)) (body _ rfl) ?_
              walk_at "vl"
              refine e_2 ?_ (by simp only [List.length_map]; omega)
              rw [fin2]
              walk_at "vl"
              exact hk2 _ ⟨_, _, .inr rfl, rfl⟩
            · walk_at "vl"
              unfold g__law_sets_1
              walk_at "vl"
              refine e_3 ?_ rfl (by rw [List.length_map]; omega)
              refine lc_enc (fun j => iD (goneW F.f F.tk w j)) (body _ rfl) ?_
              walk_at "vl"
              refine e_2 ?_ (by simp only [List.length_map]; omega)
              rw [fin2]
              walk_at "vl"
              exact hk2 _ ⟨_, _, .inr rfl, rfl⟩
          · rintro e2 ⟨x5, x9, hx5, rfl⟩
            have hl9 := flatMap_len (xs := lawWays s k) (c := 45) (f := fun w => S.map (goneW F.f F.tk w)) fun w _ => by rw [List.length_map]; omega
            refine fin _ _ (r0 ++ [k]) r s.name k _ _ _ _ ea (by rw [hrow, List.append_assoc]; rfl) (by rw [List.filter_append, List.length_append, hd, List.filter_cons_of_pos (by unfold notTick; exact decide_eq_true hz), List.length_append]; rfl) (fun j => ?_) (fun j hj => ?_) (by omega)
            · unfold allBehind
              rw [List.mem_flatMap, List.mem_flatMap]
              exact ⟨fun ⟨w, h1, h2⟩ => ⟨w, (ways_same h hs).mp h1, h2⟩, fun ⟨w, h1, h2⟩ => ⟨w, (ways_same h hs).mpr h1, h2⟩⟩
            · obtain ⟨w, h1, h2⟩ := List.mem_flatMap.mp hj
              obtain ⟨i, hi, rfl⟩ := List.mem_map.mp h2
              exact gone_lt hf (.inr (wgo w h1).2) (l1 i hi)
    · exact ⟨by simp, by simp⟩
  · rintro e ⟨r0, r, x3, x8, x9, x10, hrow, hd, hwl, rfl⟩
    have er : r = [] := by
      have e : (slotL P.ss F).length = r0.length := by rw [← hd]; rfl
      have := congrArg List.length hrow
      rw [List.length_append] at this
      exact List.eq_nil_of_length_eq_zero (by omega)
    subst er
    rw [List.append_nil] at hrow
    subst hrow
    walk_at "vl"
    exact q
end K22

/-! the law's rows -/
namespace K22
open PySem PySem.Spec PyProof.Rows L2 VL
variable {b : List D} {Q : M → List M → Prop} {E : Ex → List M → Prop} {P : Plan} {s : Src} {F : Fig} {x p k : Str}
theorem RowOk.snoc {ss : List Src} : ∀ {ps ks : List Str}, RowOk ss ps ks → KindOk (joinL ss [p]) k → RowOk ss (ps ++ [p]) (ks ++ [k])
  | [], [], _, h => ⟨h, trivial⟩
  | _ :: _, _ :: _, h, h2 => ⟨h.1, RowOk.snoc h.2 h2⟩
  | [], _ :: _, h, _ => h.elim
  | _ :: _, [], h, _ => h.elim
theorem s_drawn_row (h : PlanOk P) (hF : F ∈ P.fs) (hx : F.name = x) (hb : BagOk b) (q : ∀ (row : List Str) b', RowOk P.ss (slotL P.ss F) row → BagOk b' → Q (.fz (.tuple (row.map .str))) [.lst b']) : sp__law_drawn_row [.lst b, .fz (planD P), .fz (.str x)] Q E := by
  have hl := slotL_len h (h.fo F hF)
  refine e_body rfl (by simp only [List.map_cons, List.map_nil, List.length_cons, List.length_nil, Nat.reduceAdd, Nat.reduceSub, List.replicate, List.replicate_zero, List.cons_append, List.nil_append]; rfl) ?_
  unfold g__law_drawn_row
  walk_at "vl"
  refine s_some hb (things := [.int 2, .int 4, .int 1, .int 8]) (by decide) (by decide) (fun sh b hsh hb => ?_) (.inr rfl)
  obtain ⟨m, rfl, m0, m1⟩ : ∃ m : Int, sh = .int m ∧ 1 ≤ m ∧ m ≤ 8 := by
    simp only [List.mem_cons, List.not_mem_nil, or_false] at hsh
    rcases hsh with rfl | rfl | rfl | rfl
    all_goals exact ⟨_, rfl, by omega, by omega⟩
  walk_at "vl"
  refine s_law_slot_sources h hF hx ?_
  walk_at "vl"
  refine for_enc .str (fun dn e => ∃ b row x3 x6, BagOk b ∧ RowOk P.ss dn row ∧ e = ⟨[some (.lst b), some (.fz (planD P)), some (.fz (.str x)), x3, some (.lst (row.map .str)), some (.fz (.int m)), x6], [0]⟩) ⟨b, [], _, _, hb, trivial, rfl⟩ ?_ ?_
  · rintro dn it rest e kk hp ⟨b, row, x3, x6, hb, ok, rfl⟩ hk
    have hdn : dn.length ≤ 400 := by have := congrArg List.length hp; simp at this; omega
    have hrl := ok.len
    obtain ⟨s, hs, rfl⟩ := slotL_src h it (by rw [hp]; simp)
    have h5 := (h.so s hs).l5
    have fin : ∀ b (k : Str) x3 x6, BagOk b → KindOk s.ls k → kk ⟨[some (.lst b), some (.fz (planD P)), some (.fz (.str x)), x3, some (.lst ((row ++ [k]).map .str)), some (.fz (.int m)), x6], [0]⟩ := fun b k x3 x6 hb hkk =>
      hk _ ⟨b, row ++ [k], _, _, hb, ok.snoc (by rw [join_one (pw_nd h.sp) hs]; exact hkk), rfl⟩
    walk_at "vl"
    unfold g__law_drawn_row_1
    walk_at "vl"
    refine s_law_source h hs rfl ?_
    unfold srcD
    walk_at "vl"
    · refine s_take hb (by omega) (by omega) fun v b hv hw hb => ?_
      walk_at "vl"
      · rw [v_int]
        refine e_ite (fun hz => ?_) (fun hz => ?_)
        · walk_at "vl"
          refine e_2 ?_ (by rw [List.length_map]; omega)
          rw [show row.map PyData.str ++ [.str "open"] = (row ++ [opn]).map .str from by rw [List.map_append]; rfl]
          walk_at "vl"
          exact fin _ _ _ _ hb (.inl rfl)
        · walk_at "vl"
          refine s_some hb (by simp) (by simp; omega) (fun y b hy hb => ?_) (.inr rfl)
          obtain ⟨w, rfl, hw⟩ : ∃ w, y = PyData.str w ∧ KindOk s.ls w := by
            rcases List.mem_append.mp hy with hy | hy
            · obtain ⟨w, hw, rfl⟩ := List.mem_map.mp hy
              exact ⟨w, rfl, .inr (.inr hw)⟩
            · exact ⟨emp, List.mem_singleton.mp hy, .inr (.inl rfl)⟩
          walk_at "vl"
          refine e_2 ?_ (by rw [List.length_map]; omega)
          rw [show row.map PyData.str ++ [.str w] = (row ++ [w]).map .str from by rw [List.map_append]; rfl]
          walk_at "vl"
          exact fin _ _ _ _ hb hw
      · exact ⟨by simp, by simp⟩
    · simp only [List.length_map, List.length_cons, List.length_nil]; omega
  · rintro e ⟨b, row, x3, x6, hb, ok, rfl⟩
    walk_at "vl"
    exact q row b ok hb
theorem count_fit {α : Type} {f : α → Bool} {l : List α} : ((((l.map fun p => PyData.bool (f p)).countP fun y => PyData.eqv y (.bool false) : Nat) : Int) == 0) = l.all f := by
  rw [List.countP_map]
  have e : ((fun y => PyData.eqv y (.bool false)) ∘ fun p => PyData.bool (f p)) = fun p => !f p := by
    funext p
    show PyData.eqv (.bool (f p)) (.bool false) = _
    rw [v_bool]
    cases f p <;> rfl
  rw [e]
  by_cases h : l.all f = true
  · rw [h]
    have : l.countP (fun p => !f p) = 0 := List.countP_eq_zero.mpr fun a ha => by
      have := List.all_eq_true.mp h a ha
      simp [this]
    rw [this]
    rfl
  · have h2 : l.all f = false := by simpa using h
    rw [h2]
    obtain ⟨a, ha, hf⟩ := List.all_eq_false.mp h2
    have : 0 < l.countP (fun p => !f p) := List.countP_pos_iff.mpr ⟨a, ha, by simpa using hf⟩
    have : ¬ ((l.countP (fun p => !f p) : Nat) : Int) = 0 := by omega
    simpa using this
theorem s_law_is_row {d : D} (h : PlanOk P) (hF : F ∈ P.fs) (hx : F.name = x) (hd : ∀ xs, d = .tuple xs → xs.length ≤ 1000) (q : Q (.fz (.bool (rowB P.ss (slotL P.ss F) d))) []) : sp__law_is_row [.fz (planD P), .fz (.str x), .fz d] Q E := by
  have hl := slotL_len h (h.fo F hF)
  have hL := slotL_src (F := F) h
  refine e_body rfl (by simp only [List.map_cons, List.map_nil, List.length_cons, List.length_nil, Nat.reduceAdd, Nat.reduceSub, List.replicate, List.replicate_zero, List.cons_append, List.nil_append]; rfl) ?_
  unfold g__law_is_row
  walk_at "vl"
  refine s_law_slot_sources h hF hx ?_
  generalize slotL P.ss F = L at q hl hL
  walk_at "vl"
  rw [isi_tup]
  cases d with
  | tuple xs =>
    have hxl := hd xs rfl
    refine e_iteF ?_
    walk_at "vl"
    · rw [v_int]
      refine e_ite (fun hz => ?_) (fun hz => ?_)
      · walk_at "vl"
        have : rowB P.ss L (.tuple xs) = false := by
          show (decide (xs.length = L.length) && _) = false
          have hz : (!decide (((xs.length : Nat) : Int) = (((L.map PyData.str).length : Nat) : Int))) = true := hz
          rw [List.length_map] at hz
          rw [decide_eq_false (fun e => by rw [e] at hz; simp at hz), Bool.false_and]
        rw [this] at q
        exact q
      · have he : xs.length = L.length := by
          have hz : (!decide (((xs.length : Nat) : Int) = (((L.map PyData.str).length : Nat) : Int))) = false := hz
          rw [List.length_map] at hz
          have := of_decide_eq_true (by simpa using hz : decide (((xs.length : Nat) : Int) = ((L.length : Nat) : Int)) = true)
          omega
        have eb : rowB P.ss L (.tuple xs) = (xs.zip L).all fun p => fitB P.ss p.2 p.1 := by
          show (decide (xs.length = L.length) && _) = _
          rw [decide_eq_true he, Bool.true_and]
        rw [eb] at q
        unfold g__law_is_row_2
        walk_at "vl"
        refine e_3 ?_ rfl (by omega)
        rw [show xs = xs.map id from (List.map_id xs).symm]
        refine lc_encF (fun d => !isiD "str" d) (fun _ => .int 1) (fun y hy Qy Qn h1 h2 => ?_) ?_
        · walk_at "vl"
          refine e_ite (fun hz => ?_) (fun hz => ?_)
          · walk_at "vl"
            exact h1 hz
          · walk_at "vl"
            exact h2 hz
        · rw [List.map_id]
          walk_at "vl"
          · rw [eqv_nil]
            refine e_ite (fun hz => ?_) (fun hz => ?_)
            · walk_at "vl"
              have : ((xs.zip L).all fun p => fitB P.ss p.2 p.1) = false := by
                rw [List.all_eq_false]
                have hz2 : (xs.filter fun d => !isiD "str" d) ≠ [] := fun e => by rw [e] at hz; simp at hz
                obtain ⟨y, hy⟩ := List.exists_mem_of_ne_nil _ hz2
                obtain ⟨hy1, hy2⟩ := List.mem_filter.mp hy
                obtain ⟨i, hi, e⟩ := List.getElem_of_mem hy1
                have hi2 : i < (xs.zip L).length := by rw [List.length_zip]; omega
                refine ⟨(xs.zip L)[i], List.getElem_mem hi2, ?_⟩
                rw [List.getElem_zip, e]
                cases y with
                | str z => simp [isi_str] at hy2
                | _ => simp [fitB]
              rw [this] at q
              exact q
            · have hall : ∀ y ∈ xs, ∃ z, y = PyData.str z := fun y hy => by
                by_cases c : isiD "str" y = true
                · cases y with
                  | str z => exact ⟨z, rfl⟩
                  | _ => exact absurd c (by simp [isi_str])
                · exfalso
                  have hm : y ∈ xs.filter fun d => !isiD "str" d := List.mem_filter.mpr ⟨hy, by simpa using c⟩
                  cases hf : (xs.filter fun d => !isiD "str" d) with
                  | nil => rw [hf] at hm; simp at hm
                  | cons a l => rw [hf] at hz; simp at hz
              walk_at "vl"
              unfold g__law_is_row_1
              walk_at "vl"
              rw [zip_strs]
              refine e_3 ?_ rfl (by rw [List.length_map, List.length_zip]; omega)
              refine lc_enc (fun p => .bool (fitB P.ss p.2 p.1)) (fun p hp Qy Qn hq => ?_) ?_
              · obtain ⟨y, it⟩ := p
                obtain ⟨hy, hit⟩ := zip_snd hp
                obtain ⟨s, hs, rfl⟩ := hL _ hit
                obtain ⟨k, rfl⟩ := hall _ hy
                have h5 := (h.so s hs).l5
                walk_at "vl"
                refine s_law_source h hs rfl ?_
                unfold srcD
                walk_at "vl"
                · have em : s.ls.map PyData.str ++ [PyData.str "open", PyData.str "empty"] = (s.ls ++ [opn, emp]).map .str := by rw [List.map_append]; rfl
                  rw [em, any_strs, Bool.false_xor]
                  have ek : fitB P.ss s.name (.str k) = decide (k ∈ s.ls ++ [opn, emp]) := by
                    show decide (KindOk (joinL P.ss [s.name]) k) = _
                    rw [join_one (pw_nd h.sp) hs]
                    refine decide_eq_decide.mpr ?_
                    show (k = opn ∨ k = emp ∨ k ∈ s.ls) ↔ _
                    simp only [List.mem_append, List.mem_cons, List.not_mem_nil, or_false]
                    constructor
                    · rintro (e | e | e)
                      · exact .inr (.inl e)
                      · exact .inr (.inr e)
                      · exact .inl e
                    · rintro (e | e | e)
                      · exact .inr (.inr e)
                      · exact .inl e
                      · exact .inr (.inl e)
                  have hq : Qy (.bool (fitB P.ss s.name (.str k))) _ := hq
                  rw [ek] at hq
                  exact hq
                · have em : s.ls.map PyData.str ++ [PyData.str "open", PyData.str "empty"] = (s.ls ++ [opn, emp]).map .str := by rw [List.map_append]; rfl
                  rw [em]
                  exact ⟨by simp, pl_strs (by omega)⟩
                · simp only [List.length_map, List.length_cons, List.length_nil]; omega
              · walk_at "vl"
                refine ⟨?_, by simp, ?_⟩
                · rw [Pl_list]
                  exact ⟨by omega, fun y hy => by obtain ⟨p, _, rfl⟩ := List.mem_map.mp hy; simp⟩
                · walk_at "vl"
                  · rw [v_int, count_fit]
                    exact q
                  · exact ⟨by simp, by simp⟩
          · refine ⟨?_, by simp⟩
            rw [Pl_list]
            exact ⟨by omega, fun y hy => by obtain ⟨p, _, rfl⟩ := List.mem_map.mp hy; simp⟩
    · exact ⟨by simp, by simp⟩
  | _ =>
    refine e_iteT ?_
    walk_at "vl"
    exact q
end K22

/-! odd rows -/
namespace K22
open PySem PySem.Spec PyProof.Rows L2 VL
variable {b : List D} {Q : M → List M → Prop} {E : Ex → List M → Prop} {P : Plan} {s : Src} {F : Fig} {x p k : Str}
theorem sm_kind (h : PlanOk P) {it : Str} (hit : ∃ s ∈ P.ss, s.name = it) (hk : KindOk (joinL P.ss [it]) k) : Sm 2 20 (.str k) := by
  obtain ⟨s, hs, rfl⟩ := hit
  rw [join_one (pw_nd h.sp) hs] at hk
  rcases hk with e | e | e
  · rw [e]; exact sm_lit _ (by decide) (by decide) (by omega)
  · rw [e]; exact sm_lit _ (by decide) (by decide) (by omega)
  · exact sm_ltr ((h.so s hs).lm k e) (by omega)
theorem sm_rowk (h : PlanOk P) : ∀ {L row : List Str}, (∀ it ∈ L, ∃ s ∈ P.ss, s.name = it) → RowOk P.ss L row → ∀ k ∈ row, Sm 2 20 (.str k)
  | [], [], _, _ => fun k hk => by simp at hk
  | it :: L, k' :: row, hL, ok => fun k hk => by
    rcases List.mem_cons.mp hk with e | hk
    · rw [e]; exact sm_kind h (hL it List.mem_cons_self) ok.1
    · exact sm_rowk h (fun a ha => hL a (List.mem_cons_of_mem _ ha)) ok.2 k hk
  | [], _ :: _, _, h => h.elim
  | _ :: _, [], _, h => h.elim
theorem slotL_pos (h : PlanOk P) (hF : FigOk P.ss F) : 0 < (slotL P.ss F).length := by
  obtain ⟨r, hr⟩ := List.exists_mem_of_ne_nil _ hF.r1
  obtain ⟨s, hs, e⟩ := hF.rm r hr
  have hs1 := (h.so s hs).r1
  have s1 := hF.s1
  have hm : s.name ∈ slotSrc P.ss F.reads := by
    unfold slotSrc
    rw [List.mem_flatMap]
    refine ⟨s, hs, ?_⟩
    rw [if_pos (by rw [e]; exact hr)]
    exact List.mem_replicate.mpr ⟨by omega, rfl⟩
  refine List.length_pos_of_mem (a := s.name) ?_
  unfold slotL readL
  refine List.mem_filter.mpr ⟨List.mem_flatten.mpr ⟨_, List.mem_replicate.mpr ⟨by omega, rfl⟩, List.mem_append_left _ hm⟩, decide_eq_true (nm_tick (h.so s hs).nm)⟩
/-- an odd row: small, not long -/
structure OddOk (d : D) : Prop where
  sm : Sm 4 100000 d
  few : ∀ xs, d = .tuple xs → xs.length ≤ 1000
theorem s_odd_row {row : List Str} (h : PlanOk P) (hF : F ∈ P.fs) (hb : BagOk b) (ok : RowOk P.ss (slotL P.ss F) row) (q : ∀ d b', OddOk d → BagOk b' → Q (.fz d) [.lst b']) {x : Str} : sp__law_odd_row [.lst b, .fz (planD P), .fz (.str x), .fz (.tuple (row.map .str))] Q E := by
  have hl := slotL_len h (h.fo F hF)
  have hp := slotL_pos h (h.fo F hF)
  have hr := ok.len
  have hsm := sm_rowk h (slotL_src (F := F) h) ok
  refine e_body rfl (by simp only [List.map_cons, List.map_nil, List.length_cons, List.length_nil, Nat.reduceAdd, Nat.reduceSub, List.replicate, List.replicate_zero, List.cons_append, List.nil_append]; rfl) ?_
  unfold g__law_odd_row
  walk_at "vl"
  refine s_take hb (by rw [List.length_map]; omega) (by rw [List.length_map]; omega) fun v b hv hw hb => ?_
  walk_at "vl"
  refine s_some hb (things := [.str "zz", .str "tick", .none, .bool true, .str "", .tuple [.str "x"], .str "Open"]) (by simp) (by simp) (fun odd b hodd hb => ?_) (.inr rfl)
  have so : Sm 2 100 odd := by
    simp only [List.mem_cons, List.not_mem_nil, or_false] at hodd
    rcases hodd with rfl | rfl | rfl | rfl | rfl | rfl | rfl
    · exact sm_lit _ (by decide) (by decide) (by omega)
    · exact sm_lit _ (by decide) (by decide) (by omega)
    · exact Sm.none
    · exact Sm.bool
    · exact sm_lit _ (by decide) (by decide) (by omega)
    · exact Sm.tup (n := 20) (m := 1) (fun x hx => by rw [List.mem_singleton.mp hx]; exact sm_lit _ (by decide) (by decide) (by omega)) (by simp) (by omega)
    · exact sm_lit _ (by decide) (by decide) (by omega)
  have cutm : ∀ (lo hi : Option Int) d, d ∈ VL.cutD (row.map PyData.str) lo hi → Sm 2 100 d := fun lo hi d hd => by
    rw [cutD_map] at hd
    obtain ⟨k, hk, rfl⟩ := List.mem_map.mp hd
    have hk : k ∈ row := by
      unfold VL.cutD at hk
      exact List.mem_of_mem_drop (List.mem_of_mem_take hk)
    exact (hsm k hk).mono (by omega) (by omega)
  have cutl : ∀ (lo hi : Option Int), (VL.cutD (row.map PyData.str) lo hi).length ≤ 400 := fun lo hi => by
    have := cutD_len (row.map PyData.str) lo hi
    rw [List.length_map] at this
    omega
  have okT : ∀ xs : List D, (∀ d ∈ xs, Sm 2 100 d) → xs.length ≤ 900 → OddOk (.tuple xs) := fun xs h1 h2 =>
    ⟨(Sm.tup (k := 2) (n := 100) (m := 900) (N := 100000) (fun d hd => h1 d hd) h2 (by omega)).mono (by omega) (by omega), fun ys e => by injection e with e; rw [← e]; omega⟩
  have c1 := cutl none (some v)
  have c2 := cutl (some (v + 1)) none
  have rowm : ∀ d ∈ row.map PyData.str, Sm 2 100 d := fun d hd => by
    obtain ⟨k, hk, rfl⟩ := List.mem_map.mp hd
    exact (hsm k hk).mono (by omega) (by omega)
  have o1 : OddOk (.tuple (VL.cutD (row.map PyData.str) none (some v) ++ VL.cutD (row.map PyData.str) (some (v + 1)) none)) :=
    okT _ (fun d hd => (List.mem_append.mp hd).elim (cutm _ _ d) (cutm _ _ d)) (by rw [List.length_append]; omega)
  have o2 : OddOk (.tuple (VL.cutD (row.map PyData.str) none (some v) ++ [odd] ++ VL.cutD (row.map PyData.str) (some (v + 1)) none)) :=
    okT _ (fun d hd => by
      rcases List.mem_append.mp hd with hd | hd
      · rcases List.mem_append.mp hd with hd | hd
        · exact cutm _ _ d hd
        · rw [List.mem_singleton.mp hd]; exact so
      · exact cutm _ _ d hd) (by rw [List.length_append, List.length_append, List.length_singleton]; omega)
  walk_at "vl"
  · refine s_some hb (by simp) (by simp only [rep_len, List.length_append, List.length_cons, List.length_nil]; omega) (fun d b hd hb => ?_) (.inr rfl)
    have od : OddOk d := by
      rcases List.mem_append.mp hd with hd | hd
      · simp only [List.mem_cons, List.not_mem_nil, or_false] at hd
        rcases hd with rfl | rfl | rfl | rfl | rfl | rfl | rfl
        · exact o1
        · refine okT _ (fun d hd => ?_) (by rw [List.length_append, List.length_map, List.length_singleton]; omega)
          rcases List.mem_append.mp hd with hd | hd
          · exact rowm d hd
          · rw [List.mem_singleton.mp hd]; exact sm_lit _ (by decide) (by decide) (by omega)
        · exact ⟨(Sm.lst (k := 2) (n := 100) (m := 400) (N := 100000) rowm (by rw [List.length_map]; omega) (by omega)).mono (by omega) (by omega), fun xs e => by cases e⟩
        · exact o2
        · exact ⟨Sm.none, fun xs e => by cases e⟩
        · exact okT _ (fun d hd => by simp at hd) (by simp)
        · exact ⟨sm_lit _ (by decide) (by decide) (by omega), fun xs e => by cases e⟩
      · obtain ⟨l, hl, hd⟩ := List.mem_flatten.mp hd
        rw [List.eq_of_mem_replicate hl] at hd
        rw [List.mem_singleton.mp hd]
        exact o2
    walk_at "vl"
    exact q d b od hb
  all_goals first | omega | (simp only [rep_len, List.length_append, List.length_cons, List.length_nil, List.length_map]; omega)
end K22

/-! drawn plans -/
namespace K22
open PySem PySem.Spec PyProof.Rows L2 VL
variable {b : List D} {Q : M → List M → Prop} {E : Ex → List M → Prop} {P : Plan} {s : Src} {F : Fig} {x p k : Str}
theorem join_one' {s : Src} : ∀ {ss : List Src}, (ss.map (·.name)).Nodup → s ∈ ss → joinL ss [s.name] = s.ls
  | [], _, h => by simp at h
  | c :: ss, nd, h => by
    rw [List.map_cons] at nd
    obtain ⟨n1, n2⟩ := List.nodup_cons.mp nd
    have e : joinL (c :: ss) [s.name] = (if c.name ∈ [s.name] then c.ls else []) ++ joinL ss [s.name] := rfl
    have no : ∀ {ss : List Src}, (∀ t ∈ ss, t.name ≠ s.name) → joinL ss [s.name] = [] := fun {ss} hh => by
      apply List.eq_nil_iff_forall_not_mem.mpr
      intro l hl
      obtain ⟨t, ht, h1, _⟩ := joinL_mem.mp hl
      exact hh t ht (by simpa using h1)
    rw [e]
    rcases List.mem_cons.mp h with h | h
    · subst h
      rw [if_pos (by simp), no fun t ht z => n1 (List.mem_map.mpr ⟨t, ht, z⟩), List.append_nil]
    · have hc : c.name ≠ s.name := fun z => n1 (List.mem_map.mpr ⟨s, h, z.symm⟩)
      rw [if_neg (by simpa using hc), List.nil_append]
      exact join_one' n2 h
theorem s_law_names (h : P.ss.length ≤ 4) (q : Q (.lst ((P.ss.map (·.name)).map .str)) []) : sp__law_names [.fz (planD P)] Q E := by
  refine e_body rfl (by simp only [List.map_cons, List.map_nil, List.length_cons, List.length_nil, Nat.reduceAdd, Nat.reduceSub, List.replicate, List.replicate_zero, List.cons_append, List.nil_append]; rfl) ?_
  unfold g__law_names planD
  walk_at "vl"
  refine e_3 ?_ rfl (by rw [List.length_map]; omega)
  refine lc_enc (fun s => .str s.name) (fun s hs Qy Qn hq => ?_) ?_
  · unfold srcD
    walk_at "vl"
    exact hq
  · rw [List.map_map] at q
    walk_at "vl"
    exact q
theorem s_counting {Ls : List Str} {m : Nat} (hl : Ls.length ≤ 20) (h1 : 1 ≤ m) (h2 : m ≤ 44) (nt : ∀ l ∈ Ls, l ≠ tick) (q : ∀ f tk outs, MOk (m + 1) Ls f tk outs → Q (.fz (mc (m + 1) Ls f tk outs)) []) : sp__law_counting [.fz (.tuple (Ls.map .str)), .fz (.int (m : Nat))] Q E := by
  refine e_body rfl (by simp only [List.map_cons, List.map_nil, List.length_cons, List.length_nil, Nat.reduceAdd, Nat.reduceSub, List.replicate, List.replicate_zero, List.cons_append, List.nil_append]; rfl) ?_
  unfold g__law_counting
  have e1 : ((m : Nat) : Int) + 1 = ((m + 1 : Nat) : Int) := rfl
  walk_at "vl"
  rw [e1]
  refine e_2 ?_ (by omega)
  rw [rg_enc]
  refine e_3 ?_ rfl (by rw [List.length_map, List.length_range]; omega)
  refine lc_enc (fun k => iD (min (k + 1) m)) (fun k hk Qy Qn hq => ?_) ?_
  · unfold iD at hq ⊢
    walk_at "vl"
    rw [show (if ((m : Nat) : Int) < ((k : Nat) : Int) + 1 then ((m : Nat) : Int) else ((k : Nat) : Int) + 1) = ((min (k + 1) m : Nat) : Int) from by split <;> omega]
    exact hq
  · walk_at "vl"
    refine e_2 ?_ ⟨by omega, by omega, by omega, by omega, by omega⟩
    rw [e1, rg_enc]
    walk_at "vl"
    refine e_3 ?_ rfl (by rw [List.length_map]; omega)
    refine lc_enc (fun l => .tuple [.str l, .tuple ((List.range (m + 1)).map fun k => iD (min (k + 1) m))]) (fun l hl Qy Qn hq => ?_) ?_
    · walk_at "vl"
      exact hq
    · walk_at "vl"
      · rw [Int.toNat_natCast]
        have hf : (List.replicate m [PyData.str "no"]).flatten = List.replicate m (.str "no") := List.flatten_replicate_singleton
        rw [hf]
        walk_at "vl"
        refine q (fun _ k => min (k + 1) m) (fun k => k) (List.replicate m (.str "no") ++ [.str "yes"]) ⟨by omega, by omega, hl, nt, fun l _ k hk => by show min (k + 1) m < m + 1; omega, fun k hk => hk, by simp, fun d hd => ?_⟩
        rcases List.mem_append.mp hd with hd | hd
        · exact ⟨"no", by simp, List.eq_of_mem_replicate hd⟩
        · exact ⟨"yes", by simp, List.mem_singleton.mp hd⟩
      · rw [Int.toNat_natCast, show (List.replicate m [PyData.str "no"]).flatten = List.replicate m (.str "no") from List.flatten_replicate_singleton, List.length_replicate, List.length_singleton]
        omega
      · exact ⟨by simp, by omega, by omega, by simp⟩
theorem s_sources_drawn {m r lt : Nat} (hb : BagOk b) (m1 : 1 ≤ m) (m4 : m ≤ 4) (r1 : 1 ≤ r) (r3 : r ≤ 3) (l1 : 1 ≤ lt) (l5 : lt ≤ 5) (q : ∀ (ss : List Src) b', ss.length = m → (ss.map (·.name)).Pairwise ltS → (∀ s ∈ ss, SrcOk s) → BagOk b' → Q (.fz (.tuple (ss.map srcD))) [.lst b']) : sp__law_sources_drawn [.lst b, .fz (.int (m : Nat)), .fz (.int (r : Nat)), .fz (.int (lt : Nat))] Q E := by
  refine e_body rfl (by simp only [List.map_cons, List.map_nil, List.length_cons, List.length_nil, Nat.reduceAdd, Nat.reduceSub, List.replicate, List.replicate_zero, List.cons_append, List.nil_append]; rfl) ?_
  unfold g__law_sources_drawn
  walk_at "vl"
  refine s_some_names (ns := Nm7) hb (by decide) (by decide) (by omega) fun L b pw hm hlen hb => ?_
  have hlen : L.length = m := by
    rw [hlen, Int.toNat_natCast]
    show min m 7 = m
    omega
  walk_at "vl"
  refine for_enc .str (fun dn e => ∃ b ss x5 x6, BagOk b ∧ ss.map Src.name = dn ∧ (∀ s ∈ ss, SrcOk s) ∧ e = ⟨[some (.lst b), some (.fz (.int (m : Nat))), some (.fz (.int (r : Nat))), some (.fz (.int (lt : Nat))), some (.lst (ss.map srcD)), x5, x6], [0]⟩) ⟨b, [], _, _, hb, rfl, (fun _ h => nomatch h), rfl⟩ ?_ ?_
  · rintro dn nm rest e kk hp ⟨b, ss, x5, x6, hb, hss, hok, rfl⟩ hk
    have hdn : ss.length ≤ 4 := by
      have h1 := congrArg List.length hp
      have h2 := congrArg List.length hss
      rw [List.length_append, List.length_cons] at h1
      rw [List.length_map] at h2
      omega
    have hnm : nm ∈ Nm7 := hm nm (by rw [hp]; simp)
    walk_at "vl"
    unfold g__law_sources_drawn_1
    walk_at "vl"
    refine s_take hb (by omega) (by omega) fun v b hv hw hb => ?_
    walk_at "vl"
    refine s_some_names (ns := Ltr) hb (by decide) (by decide) (by omega) fun ls b lpw lm llen hb => ?_
    have llen : ls.length = min (1 + v).toNat 5 := llen
    walk_at "vl"
    refine s_take hb (by omega) (by omega) fun u b hu hw2 hb => ?_
    obtain ⟨rt, hrt⟩ : ∃ rt : Nat, 1 + u = (rt : Int) := ⟨(1 + u).toNat, by omega⟩
    walk_at "vl"
    refine e_2 ?_ (by rw [List.length_map]; omega)
    rw [hrt]
    rw [show ss.map srcD ++ [PyData.tuple [.str nm, .int (rt : Nat), .tuple (ls.map .str)]] = (ss ++ [(⟨nm, rt, ls⟩ : Src)]).map srcD from by rw [List.map_append]; rfl]
    walk_at "vl"
    refine hk _ ⟨b, _, _, _, hb, by rw [List.map_append, hss]; rfl, fun s hs => ?_, rfl⟩
    rcases List.mem_append.mp hs with hs | hs
    · exact hok s hs
    · rw [List.mem_singleton.mp hs]
      exact ⟨hnm, by show 1 ≤ rt; omega, by show rt ≤ 3; omega, fun e => by have e : ls = [] := e; rw [e, List.length_nil] at llen; omega, by show ls.length ≤ 5; omega, lpw, lm⟩
  · rintro e ⟨b, ss, x5, x6, hb, hss, hok, rfl⟩
    walk_at "vl"
    refine q ss b ?_ (by rw [hss]; exact pw) hok hb
    have := congrArg List.length hss
    rw [List.length_map] at this
    omega
theorem s_promises_drawn {m mo : Nat} (hb : BagOk b) (m1 : 1 ≤ m) (m4 : m ≤ 4) (o1 : 1 ≤ mo) (o12 : mo ≤ 12) (q : ∀ (pr : List (List Nat)) b', pr.length = m → (∀ r ∈ pr, r.length = m ∧ ∀ k ∈ r, k ≤ 12) → BagOk b' → Q (.fz (.tuple (pr.map prD))) [.lst b']) : sp__law_promises_drawn [.lst b, .fz (.int (m : Nat)), .fz (.int (mo : Nat))] Q E := by
  refine e_body rfl (by simp only [List.map_cons, List.map_nil, List.length_cons, List.length_nil, Nat.reduceAdd, Nat.reduceSub, List.replicate, List.replicate_zero, List.cons_append, List.nil_append]; rfl) ?_
  unfold g__law_promises_drawn
  walk_at "vl"
  refine s_some hb (things := [.int 9, .int 9, .int 3]) (by decide) (by decide) (fun sh b hsh hb => ?_) (.inr rfl)
  obtain ⟨g, rfl, g0, g1⟩ : ∃ g : Int, sh = .int g ∧ 1 ≤ g ∧ g ≤ 9 := by
    simp only [List.mem_cons, List.not_mem_nil, or_false] at hsh
    rcases hsh with rfl | rfl | rfl
    all_goals exact ⟨_, rfl, by omega, by omega⟩
  walk_at "vl"
  refine e_2 ?_ (by omega)
  rw [rg_enc]
  refine for_enc iD (fun dn e => ∃ b pr x3, BagOk b ∧ pr.length = dn.length ∧ (∀ r ∈ pr, r.length = m ∧ ∀ k ∈ r, k ≤ 12) ∧ e = ⟨[some (.lst b), some (.fz (.int (m : Nat))), some (.fz (.int (mo : Nat))), x3, some (.fz (.int g)), some (.lst (pr.map prD)), none], [0]⟩) ⟨b, [], _, hb, rfl, (fun _ h => nomatch h), rfl⟩ ?_ ?_
  · rintro dn t rest e kk hp ⟨b, pr, x3, hb, hl, hok, rfl⟩ hk
    have hdn : pr.length ≤ 4 := by
      have h1 := congrArg List.length hp
      rw [List.length_append, List.length_cons, List.length_range] at h1
      omega
    walk_at "vl"
    unfold g__law_promises_drawn_1
    walk_at "vl"
    refine e_2 ?_ (by omega)
    rw [rg_enc]
    refine e_3 ?_ rfl (by rw [List.length_map, List.length_range]; omega)
    refine lc_encI iD (fun e => ∃ b, BagOk b ∧ e = ⟨[some (.lst b), some (.fz (.int (m : Nat))), some (.fz (.int (mo : Nat))), some (.fz (iD t)), some (.fz (.int g)), some (.lst (pr.map prD)), none], [0]⟩) (fun _ y => y ≤ 12) ⟨b, hb, rfl⟩ ?_ ?_
    · rintro j hj env ⟨b, hb, rfl⟩ Qy Qn hq
      walk_at "vl"
      refine s_take hb (by omega) (by omega) fun v b hv hw hb => ?_
      walk_at "vl"
      · rw [v_int]
        refine e_ite (fun hz => ?_) (fun hz => ?_)
        · walk_at "vl"
          exact hq 0 _ (by omega) ⟨b, hb, rfl⟩
        · walk_at "vl"
          refine s_take hb (by omega) (by omega) fun u b hu hw2 hb => ?_
          obtain ⟨w, hw3⟩ : ∃ w : Nat, 1 + u = (w : Int) := ⟨(1 + u).toNat, by omega⟩
          walk_at "vl"
          rw [hw3]
          exact hq w _ (by omega) ⟨b, hb, rfl⟩
      · exact ⟨by simp, by simp⟩
    · rintro ys env hyl hyr ⟨b, hb, rfl⟩
      rw [List.length_range] at hyl
      walk_at "vl"
      refine e_2 ?_ (by rw [List.length_map]; omega)
      rw [show pr.map prD ++ [PyData.tuple (ys.map iD)] = (pr ++ [ys]).map prD from by rw [List.map_append]; rfl]
      walk_at "vl"
      refine hk _ ⟨b, _, _, hb, by rw [List.length_append, List.length_append, hl]; rfl, fun r hr => ?_, rfl⟩
      rcases List.mem_append.mp hr with hr | hr
      · exact hok r hr
      · rw [List.mem_singleton.mp hr]
        refine ⟨hyl, fun k hk2 => ?_⟩
        obtain ⟨i, hi, e⟩ := List.getElem_of_mem hk2
        have hi2 : i < (List.range m).length := by rw [List.length_range]; omega
        obtain ⟨y, hy, r9⟩ := hyr i _ (List.getElem?_eq_getElem hi2)
        rw [List.getElem?_eq_getElem hi, e] at hy
        injection hy with hy
        omega
  · rintro e ⟨b, pr, x3, hb, hl, hok, rfl⟩
    walk_at "vl"
    exact q pr b (by rw [hl, List.length_range]) hok hb
theorem s_law_letters {reads : List Str} (h : PlanOk P) (hr : ∀ x ∈ reads, ∃ s ∈ P.ss, s.name = x) (r4 : reads.length ≤ 100) (q : ∀ Ls : List Str, Ls.Pairwise ltS → (∀ l, l ∈ Ls ↔ ∃ s ∈ P.ss, s.name ∈ reads ∧ l ∈ s.ls) → Q (.fz (.tuple (Ls.map .str))) []) : sp__law_letters [.fz (planD P), .fz (.tuple (reads.map .str))] Q E := by
  refine e_body rfl (by simp only [List.map_cons, List.map_nil, List.length_cons, List.length_nil, Nat.reduceAdd, Nat.reduceSub, List.replicate, List.replicate_zero, List.cons_append, List.nil_append]; rfl) ?_
  unfold g__law_letters
  walk_at "vl"
  refine for_enc .str (fun dn e => ∃ xs x3, (∀ l, l ∈ xs ↔ ∃ s ∈ P.ss, s.name ∈ dn ∧ l ∈ s.ls) ∧ xs.length ≤ 5 * dn.length ∧ e = ⟨[some (.fz (planD P)), some (.fz (.tuple (reads.map .str))), some (.lst (xs.map .str)), x3], []⟩) ⟨[], _, fun l => by simp, by simp, rfl⟩ ?_ ?_
  · rintro dn nm rest e kk hp ⟨xs, x3, hm, hl, rfl⟩ hk
    have hdn : dn.length ≤ 100 := by
      have h1 := congrArg List.length hp
      rw [List.length_append, List.length_cons] at h1
      omega
    obtain ⟨s, hs, rfl⟩ := hr nm (by rw [hp]; simp)
    have h5 := (h.so s hs).l5
    walk_at "vl"
    unfold g__law_letters_1
    walk_at "vl"
    refine s_law_source h hs rfl ?_
    unfold srcD
    walk_at "vl"
    refine e_2 ?_ (by rw [List.length_map, List.length_map]; omega)
    rw [← List.map_append]
    walk_at "vl"
    refine hk _ ⟨xs ++ s.ls, _, fun l => ?_, by rw [List.length_append, List.length_append, List.length_singleton]; omega, rfl⟩
    rw [List.mem_append, hm]
    constructor
    · rintro (⟨c, h1, h2, h3⟩ | h3)
      · exact ⟨c, h1, List.mem_append_left _ h2, h3⟩
      · exact ⟨s, hs, by simp, h3⟩
    · rintro ⟨c, h1, h2, h3⟩
      rcases List.mem_append.mp h2 with h2 | h2
      · exact .inl ⟨c, h1, h2, h3⟩
      · right
        have e := List.mem_singleton.mp h2
        rw [← join_one' (pw_nd h.sp) hs, ← e, join_one' (pw_nd h.sp) h1]
        exact h3
  · rintro e ⟨xs, x3, hm, hl, rfl⟩
    unfold g__law_letters_2
    walk_at "vl"
    refine ⟨xs.map Sum.inr, (kd_inr xs).symm, by rw [List.length_map]; omega, fun L nd hL => ?_⟩
    obtain ⟨one, hs⟩ := sorted_strs nd hL
    refine ⟨one, fun ys hy => ?_⟩
    obtain ⟨zs, nz, hz, e⟩ := hs ys hy
    obtain ⟨a, e1, p1, w1⟩ := sort_strs nz
    rw [e, e1]
    walk_at "vl"
    exact q a w1 fun l => by rw [p1.mem_iff, hz l, hm l]
end K22

set_option maxHeartbeats 1000000
/-! drawn plans -/
namespace K22
open PySem PySem.Spec PyProof.Rows L2 VL
variable {b : List D} {Q : M → List M → Prop} {E : Ex → List M → Prop} {P : Plan} {s : Src} {F : Fig} {x p k : Str}
theorem s_law_names2 {ss : List Src} {pr : List (List Nat)} {fs : List Fig} (h : ss.length ≤ 4) (q : Q (.lst ((ss.map Src.name).map .str)) []) : sp__law_names [.fz (planD ⟨ss, pr, fs⟩)] Q E := s_law_names (P := ⟨ss, pr, fs⟩) h q
theorem s_law_letters2 {ss : List Src} {pr : List (List Nat)} {fs : List Fig} {reads : List Str} (h : PlanOk ⟨ss, pr, fs⟩) (hr : ∀ x ∈ reads, ∃ s ∈ ss, s.name = x) (r4 : reads.length ≤ 100) (q : ∀ Ls : List Str, Ls.Pairwise ltS → (∀ l, l ∈ Ls ↔ ∃ s ∈ ss, s.name ∈ reads ∧ l ∈ s.ls) → Q (.fz (.tuple (Ls.map .str))) []) : sp__law_letters [.fz (planD ⟨ss, pr, fs⟩), .fz (.tuple (reads.map .str))] Q E := s_law_letters (P := ⟨ss, pr, fs⟩) h hr r4 q
theorem s_plan {m nf sz : Nat} (hb : BagOk b) (m1 : 1 ≤ m) (m4 : m ≤ 4) (f1 : 1 ≤ nf) (f4 : nf ≤ 4) (z1 : 1 ≤ sz) (z2 : sz ≤ 24) (q : ∀ (P : Plan) b', PlanOk P → P.ss.length = m → P.fs.length = nf → (∀ F ∈ P.fs, F.size ≤ sz) → BagOk b' → Q (.fz (planD P)) [.lst b']) : sp__law_plan [.lst b, .fz (.int (m : Nat)), .fz (.int (nf : Nat)), .fz (.int (sz : Nat))] Q E := by
  refine e_body rfl (by simp only [List.map_cons, List.map_nil, List.length_cons, List.length_nil, Nat.reduceAdd, Nat.reduceSub, List.replicate, List.replicate_zero, List.cons_append, List.nil_append]; rfl) ?_
  unfold g__law_plan
  walk_at "vl"
  refine s_some hb (things := [.int 1, .int 2]) (by decide) (by decide) (fun sh b hsh hb => ?_) (.inr rfl)
  obtain ⟨r, rfl, r1, r2⟩ : ∃ r : Nat, sh = .int (r : Nat) ∧ 1 ≤ r ∧ r ≤ 2 := by
    simp only [List.mem_cons, List.not_mem_nil, or_false] at hsh
    rcases hsh with rfl | rfl
    · exact ⟨1, rfl, by omega, by omega⟩
    · exact ⟨2, rfl, by omega, by omega⟩
  walk_at "vl"
  refine s_sources_drawn (lt := 2) hb m1 m4 r1 (by omega) (by omega) (by omega) fun ss b hss spw sok hb => ?_
  walk_at "vl"
  refine s_some hb (things := [.int 2, .int 3, .int 5]) (by decide) (by decide) (fun sh b hsh hb => ?_) (.inr rfl)
  obtain ⟨mo, rfl, o1, o2⟩ : ∃ r : Nat, sh = .int (r : Nat) ∧ 1 ≤ r ∧ r ≤ 5 := by
    simp only [List.mem_cons, List.not_mem_nil, or_false] at hsh
    rcases hsh with rfl | rfl | rfl
    · exact ⟨2, rfl, by omega, by omega⟩
    · exact ⟨3, rfl, by omega, by omega⟩
    · exact ⟨5, rfl, by omega, by omega⟩
  walk_at "vl"
  refine s_promises_drawn hb m1 m4 o1 (by omega) fun pr b hpl hpr hb => ?_
  have P0 : PlanOk ⟨ss, pr, []⟩ := ⟨fun e => by have e : ss = [] := e; rw [e, List.length_nil] at hss; omega, by show ss.length ≤ 4; omega, spw, sok, by show pr.length = ss.length; omega, fun r hr => by obtain ⟨h1, h2⟩ := hpr r hr; exact ⟨by show r.length = ss.length; omega, h2⟩, by simp, .nil, (fun _ h => nomatch h)⟩
  have e0 : planD ⟨ss, pr, []⟩ = .tuple [.tuple (ss.map srcD), .tuple (pr.map prD), .tuple []] := rfl
  walk_at "vl"
  refine s_some_names (ns := Fn4) hb (by decide) (by decide) (by omega) fun L b pw hm hlen hb => ?_
  have hlen : L.length = nf := by
    rw [hlen, Int.toNat_natCast]
    show min nf 4 = nf
    omega
  walk_at "vl"
  refine for_enc .str (fun dn e => ∃ b fs x7 x8 x9 x10 x11, BagOk b ∧ fs.map Fig.name = dn ∧ (∀ F ∈ fs, FigOk ss F ∧ F.size ≤ sz) ∧ e = ⟨[some (.lst b), some (.fz (.int (m : Nat))), some (.fz (.int (nf : Nat))), some (.fz (.int (sz : Nat))), some (.fz (.tuple (ss.map srcD))), some (.fz (planD ⟨ss, pr, []⟩)), some (.lst (fs.map figD)), x7, x8, x9, x10, x11], [0]⟩) ⟨b, [], _, _, _, _, _, hb, rfl, (fun _ h => nomatch h), rfl⟩ ?_ ?_
  · rintro dn nm rest e kk hp ⟨b, fs, x7, x8, x9, x10, x11, hb, hfs, hok, rfl⟩ hk
    have hdn : fs.length ≤ 4 := by
      have h1 := congrArg List.length hp
      have h2 := congrArg List.length hfs
      rw [List.length_append, List.length_cons] at h1
      rw [List.length_map] at h2
      omega
    have hnm : nm ∈ Fn4 := hm nm (by rw [hp]; simp)
    walk_at "vl"
    unfold g__law_plan_1
    walk_at "vl"
    refine s_law_names2 (by omega) ?_
    walk_at "vl"
    refine s_take hb (by omega) (by omega) fun v b hv hw hb => ?_
    walk_at "vl"
    refine s_some_names (ns := ss.map Src.name) hb (pw_nd spw) (by rw [List.length_map]; omega) (by omega) fun reads b rpw rm rlen hb => ?_
    rw [List.length_map] at rlen
    have rin : ∀ x ∈ reads, ∃ s ∈ ss, s.name = x := fun x hx => by
      obtain ⟨s, hs, e⟩ := List.mem_map.mp (rm x hx)
      exact ⟨s, hs, e⟩
    walk_at "vl"
    refine s_law_letters2 P0 rin (by omega) fun Ls lpw lm => ?_
    have lltr : ∀ l ∈ Ls, l ∈ Ltr := fun l hl => by
      obtain ⟨s, hs, _, h2⟩ := (lm l).mp hl
      exact (sok s hs).lm l h2
    have l5 : Ls.length ≤ 5 := nodup_len (pw_nd lpw) (ys := Ltr) lltr
    have lnt : ∀ l ∈ Ls, l ≠ tick := fun l hl => by
      have := lltr l hl
      unfold Ltr at this
      simp only [List.mem_cons, List.not_mem_nil, or_false] at this
      rcases this with rfl | rfl | rfl | rfl | rfl
      all_goals unfold tick; decide
    walk_at "vl"
    refine s_take hb (by omega) (by omega) fun u b hu hw2 hb => ?_
    obtain ⟨mn, hmn⟩ : ∃ mn : Nat, 1 + u = (mn : Int) := ⟨(1 + u).toNat, by omega⟩
    walk_at "vl"
    rw [hmn]
    walk_at "vl"
    refine s_machine (n := mn) (os := [.str "no", .str "yes", .str "no", .str "some"]) hb (by omega) (by omega) (pw_nd lpw) (by omega) lnt (by simp) (by simp) (fun d hd => ?_) fun f tk outs b mok hb => ?_
    · simp only [List.mem_cons, List.not_mem_nil, or_false] at hd
      rcases hd with rfl | rfl | rfl | rfl
      · exact ⟨_, by simp, rfl⟩
      · exact ⟨_, by simp, rfl⟩
      · exact ⟨_, by simp, rfl⟩
      · exact ⟨_, by simp, rfl⟩
    · -- the sizes, and the figure
      walk_at "vl"
      refine s_take hb (by omega) (by omega) fun v9 b hv9 hw9 hb => ?_
      walk_at "vl"
      · rw [v_int]
        refine e_ite (fun hz => ?_) (fun hz => ?_)
        · walk_at "vl"
          refine s_counting (by omega) (by omega) (by omega) lnt fun f tk outs mok => ?_
          walk_at "vl"
          refine s_take hb (by omega) (by omega) fun v1 b hv1 hw1 hb => ?_
          obtain ⟨s1, hs1⟩ : ∃ s : Nat, 1 + v1 = (s : Int) := ⟨(1 + v1).toNat, by omega⟩
          walk_at "vl"
          refine s_take hb (by omega) (by omega) fun v2 b hv2 hw2 hb => ?_
          obtain ⟨s2, hs2⟩ : ∃ s : Nat, 1 + v2 = (s : Int) := ⟨(1 + v2).toNat, by omega⟩
          walk_at "vl"
          refine e_2 ?_ (by rw [List.length_map]; omega)
          rw [hs1, hs2]
          rw [show fs.map figD ++ [PyData.tuple [.str nm, .tuple (reads.map .str), .int (s1 : Nat), .int (s2 : Nat), mc (mn + 1) Ls f tk outs]] = (fs ++ [(⟨nm, reads, s1, s2, (mn + 1), Ls, f, tk, outs⟩ : Fig)]).map figD from by rw [List.map_append]; rfl]
          walk_at "vl"
          refine hk _ ⟨b, _, _, _, _, _, _, hb, by rw [List.map_append, hfs]; rfl, fun F hF => ?_, rfl⟩
          rcases List.mem_append.mp hF with hF | hF
          · exact hok F hF
          · rw [List.mem_singleton.mp hF]
            exact ⟨⟨hnm, fun e => by have e : reads = [] := e; rw [e, List.length_nil] at rlen; omega, by show reads.length ≤ 4; omega, rpw, rin, by show 1 ≤ s1; omega, by show s1 ≤ 24; omega, by show 1 ≤ s2; omega, by show s2 ≤ 24; omega, mok, lpw, lm⟩, by show s1 ≤ sz; omega⟩
        · walk_at "vl"
          refine s_take hb (by omega) (by omega) fun v1 b hv1 hw1 hb => ?_
          obtain ⟨s1, hs1⟩ : ∃ s : Nat, 1 + v1 = (s : Int) := ⟨(1 + v1).toNat, by omega⟩
          walk_at "vl"
          refine s_take hb (by omega) (by omega) fun v2 b hv2 hw2 hb => ?_
          obtain ⟨s2, hs2⟩ : ∃ s : Nat, 1 + v2 = (s : Int) := ⟨(1 + v2).toNat, by omega⟩
          walk_at "vl"
          refine e_2 ?_ (by rw [List.length_map]; omega)
          rw [hs1, hs2]
          rw [show fs.map figD ++ [PyData.tuple [.str nm, .tuple (reads.map .str), .int (s1 : Nat), .int (s2 : Nat), mc mn Ls f tk outs]] = (fs ++ [(⟨nm, reads, s1, s2, mn, Ls, f, tk, outs⟩ : Fig)]).map figD from by rw [List.map_append]; rfl]
          walk_at "vl"
          refine hk _ ⟨b, _, _, _, _, _, _, hb, by rw [List.map_append, hfs]; rfl, fun F hF => ?_, rfl⟩
          rcases List.mem_append.mp hF with hF | hF
          · exact hok F hF
          · rw [List.mem_singleton.mp hF]
            exact ⟨⟨hnm, fun e => by have e : reads = [] := e; rw [e, List.length_nil] at rlen; omega, by show reads.length ≤ 4; omega, rpw, rin, by show 1 ≤ s1; omega, by show s1 ≤ 24; omega, by show 1 ≤ s2; omega, by show s2 ≤ 24; omega, mok, lpw, lm⟩, by show s1 ≤ sz; omega⟩
      · exact ⟨by simp, by simp⟩
  · rintro e ⟨b, fs, x7, x8, x9, x10, x11, hb, hfs, hok, rfl⟩
    unfold g__law_plan_2
    rw [e0]
    walk_at "vl"
    have hfl : fs.length = nf := by
      have := congrArg List.length hfs
      rw [List.length_map] at this
      omega
    exact q ⟨ss, pr, fs⟩ b ⟨P0.s1, P0.s4, spw, sok, P0.pl, P0.pr, (by show fs.length ≤ 4; omega), (by show (fs.map Fig.name).Pairwise ltS; rw [hfs]; exact pw), fun F hF => (hok F hF).1⟩ hss hfl (fun F hF => (hok F hF).2) hb
end K22

set_option maxHeartbeats 4000000
/-! the law k22 -/
namespace K22
open PySem PySem.Spec PyProof.Rows L2 VL
variable {b : List D} {Q : M → List M → Prop} {E : Ex → List M → Prop} {P : Plan} {s : Src} {F : Fig} {x p k : Str} {nx : VL.Env → Prop} {rt : M → VL.Env → Prop} {bk ct : VL.Env → Prop} {W : KX} {x0 x1 x2 x4 x5 x7 x8 x9 x10 x11 x12 : Option M}
section
variable {fe : FE} {Qr : R → VL.Env → Prop} {env : VL.Env}
theorem heard_told {r : D} (h : ∀ (Qv : M → Prop) (Ev : Ex → Prop), Qv (.fz r) → lamOf fe env Qv Ev) (q : Qr (.val (.fz (.tuple [.str "told", r]))) env) : fHeard 2 g__law_heard fe env Qr W := by
  intro fa
  refine e_body rfl (by simp only [List.map_cons, List.map_nil, List.length_cons, List.length_nil, Nat.reduceAdd, Nat.reduceSub, List.replicate, List.replicate_zero, List.cons_append, List.nil_append]; rfl) ?_
  unfold g__law_heard
  walk_at "vl"
  refine h _ _ ?_
  walk_at "vl"
  exact q
theorem heard_refused {why : Str} (h : ∀ (Qv : M → Prop) (Ev : Ex → Prop), Ev ⟨"Refused", [("why", .str why)]⟩ → lamOf fe env Qv Ev) (q : Qr (.val (.fz (.tuple [.str "refused", .str why]))) env) : fHeard 2 g__law_heard fe env Qr W := by
  intro fa
  refine e_body rfl (by simp only [List.map_cons, List.map_nil, List.length_cons, List.length_nil, Nat.reduceAdd, Nat.reduceSub, List.replicate, List.replicate_zero, List.cons_append, List.nil_append]; rfl) ?_
  unfold g__law_heard
  walk_at "vl"
  refine h _ _ ?_
  walk_at "vl"
  refine e_b (a := true) rfl ?_
  refine e_iteT ?_
  walk_at "vl"
  intro a
  walk_at "vl"
  refine e_b (a := false) rfl ?_
  walk_at "vl"
  refine e_b (a := true) rfl ?_
  walk_at "vl"
  refine e_b (a := .str why) rfl ?_
  walk_at "vl"
  exact q
theorem heard_nofig {nm : Str} (h : ∀ (Qv : M → Prop) (Ev : Ex → Prop), Ev ⟨"NoFigure", [("name", .str nm)]⟩ → lamOf fe env Qv Ev) (q : Qr (.val (.fz (.tuple [.str "nofigure", .str nm]))) env) : fHeard 2 g__law_heard fe env Qr W := by
  intro fa
  refine e_body rfl (by simp only [List.map_cons, List.map_nil, List.length_cons, List.length_nil, Nat.reduceAdd, Nat.reduceSub, List.replicate, List.replicate_zero, List.cons_append, List.nil_append]; rfl) ?_
  unfold g__law_heard
  walk_at "vl"
  refine h _ _ ?_
  walk_at "vl"
  refine e_b (a := true) rfl ?_
  refine e_iteT ?_
  walk_at "vl"
  intro a
  walk_at "vl"
  refine e_b (a := true) rfl ?_
  walk_at "vl"
  refine e_b (a := .str nm) rfl ?_
  walk_at "vl"
  exact q
end
theorem told_sm {k N : Nat} {d : D} {Q : M → List M → Prop} {E : Ex → List M → Prop} (h : Sm k N d) (hk : k ≤ 60) (hN : N ≤ 2 ^ 20) (q : Q (.fz (.bool true)) []) : sp__law_alike [.fz d, .fz d] Q E := s_alike (Pl.mono _ h.pl hk) h.sh (h.len hN) q
def dueD (P : Plan) (F : Fig) (row : List Str) : D := .tuple ((setsAll P.ss F (wholeR (readL P.ss F) row)).map stD)
theorem sm_st {S : List Nat} {n : Nat} (hn : n ≤ 45) (h : (∀ j ∈ S, j < n) ∧ S.length ≤ n) : Sm 2 50 (stD S) := sm_nats (c := 45) (fun l hl => by have := h.1 l hl; omega) (by omega) (by omega) (by omega)
theorem sm_due {row : List Str} (h : PlanOk P) (hF : FigOk P.ss F) (ok : RowOk P.ss (slotL P.ss F) row) : Sm 3 30000 (dueD P F row) := by
  have wl := whole_len (ps := readL P.ss F) (row := row) ok
  have rl := readL_len h hF
  have sl := setsAll_len (ss := P.ss) (F := F) (ps := wholeR (readL P.ss F) row)
  unfold dueD
  refine Sm.tup (n := 50) (m := 410) (fun x hx => ?_) (by rw [List.length_map]; omega) (by omega)
  obtain ⟨S, hS, rfl⟩ := List.mem_map.mp hx
  exact sm_st hF.m.n9 (setsAll_lt hF S hS)
theorem sm_last {row : List Str} (hF : FigOk P.ss F) : Sm 2 50 (stD (lastS (setsAll P.ss F (wholeR (readL P.ss F) row)))) := sm_st hF.m.n9 (setsAll_lt hF _ (lastS_mem (by unfold setsAll; simp)))
theorem row_few {row : List Str} (h : PlanOk P) (hF : FigOk P.ss F) (ok : RowOk P.ss (slotL P.ss F) row) : ∀ xs, PyData.tuple (row.map .str) = .tuple xs → xs.length ≤ 1000 := fun xs e => by
  injection e with e
  have := ok.len
  have := slotL_len h hF
  rw [← e, List.length_map]
  omega
theorem map_str_inj {a c : List Str} (e : a.map PyData.str = c.map .str) : a = c := by
  have := congrArg (List.map strOf) e
  rwa [map_strOf, map_strOf] at this
theorem law_1 {row : List Str} (h : PlanOk P) (hF : F ∈ P.fs) (ok : RowOk P.ss (slotL P.ss F) row) (hn : nx ⟨[x0, x1, x2, some (.fz (planD P)), x4, x5, some (.fz (.str F.name)), x7, some (.fz (.tuple (row.map .str))), x9, x10, some (.fz (dueD P F row)), x12], []⟩) :
    g_law_1 ⟨[x0, x1, x2, some (.fz (planD P)), x4, x5, some (.fz (.str F.name)), x7, some (.fz (.tuple (row.map .str))), x9, x10, some (.fz (dueD P F row)), x12], []⟩ ⟨nx, rt, bk, ct⟩ W := by
  have hf := h.fo F hF
  have hr := B_of_row ok
  unfold g_law_1
  walk_at "vl"
  refine s_sets_of h hF rfl (row_few h hf ok) (fun row' e _ => ?_) fun z => by rw [hr] at z; cases z
  have e : row' = row := by injection e with e; exact (map_str_inj e).symm
  subst e
  walk_at "vl"
  refine s_last_set h hF rfl (row_few h hf ok) (fun row2 e2 _ => ?_) fun z => by rw [hr] at z; cases z
  have e2 : row2 = row' := by injection e2 with e2; exact (map_str_inj e2).symm
  subst e2
  have ed : dueD P F row2 = .tuple ((setsAll P.ss F (wholeR (readL P.ss F) row2)).map stD) := rfl
  rw [ed]
  walk_at "vl"
  refine e_ix (at_lastS (by unfold setsAll; simp)) ?_
  rw [← ed]
  walk_at "vl"
  refine told_sm (k := 4) (N := 70000) (Sm.lst (n := 30000) (m := 2) (fun x hx => ?_) (by simp) (by omega)) (by omega) (by omega) ?_
  · simp only [List.mem_cons, List.not_mem_nil, or_false] at hx
    rcases hx with rfl | rfl
    · exact sm_due h hf ok
    · exact (sm_last hf).mono (by omega) (by omega)
  · walk_at "vl"
    refine e_ite (fun z => absurd z (by decide)) (fun _ => ?_)
    walk_at "vl"
    exact hn
end K22

/-! the law k22, its turns -/
namespace K22
open PySem PySem.Spec PyProof.Rows L2 VL
variable {b : List D} {Q : M → List M → Prop} {E : Ex → List M → Prop} {P : Plan} {s : Src} {F : Fig} {x p k : Str} {nx : VL.Env → Prop} {rt : M → VL.Env → Prop} {bk ct : VL.Env → Prop} {W : KX} {x0 x1 x2 x3 x4 x5 x6 x7 x8 x9 x10 x11 x12 : Option M}
theorem sm_two {row : List Str} (h : PlanOk P) (hF : FigOk P.ss F) (ok : RowOk P.ss (slotL P.ss F) row) : Sm 9 900000 (.tuple [planD P, .tuple (row.map .str)]) := by
  have hr := ok.len
  have hl := slotL_len h hF
  refine Sm.tup (n := 422000) (m := 2) (fun x hx => ?_) (by simp) (by omega)
  simp only [List.mem_cons, List.not_mem_nil, or_false] at hx
  rcases hx with rfl | rfl
  · exact sm_plan h
  · exact (Sm.tup (k := 2) (n := 20) (m := 400) (N := 10000) (fun x hx => by obtain ⟨k, hk, rfl⟩ := List.mem_map.mp hx; exact sm_rowk h (slotL_src (F := F) h) ok k hk) (by rw [List.length_map]; omega) (by omega)).mono (by omega) (by omega)
theorem law_2 {row : List Str} {S : Str} (h : PlanOk P) (hF : F ∈ P.fs) (hb : BagOk b) (ok : RowOk P.ss (slotL P.ss F) row) (hS : (PyData.tuple [planD P, .tuple (row.map .str)]).shown = S) (hn : ∀ b x10 x11, BagOk b → nx ⟨[x0, some (.lst b), x2, some (.fz (planD P)), x4, x5, some (.fz (.str F.name)), x7, some (.fz (.tuple (row.map .str))), x9, x10, x11, some (.fz (.str S))], []⟩) :
    g_law_2 ⟨[x0, some (.lst b), x2, some (.fz (planD P)), x4, x5, some (.fz (.str F.name)), x7, some (.fz (.tuple (row.map .str))), x9, x10, x11, some (.fz (.str S))], []⟩ ⟨nx, rt, bk, ct⟩ W := by
  have hf := h.fo F hF
  have sm := sm_two h hf ok
  unfold g_law_2
  walk_at "vl"
  refine s_odd_row h hF hb ok fun thing b od hb => ?_
  walk_at "vl"
  refine s_law_is_row h hF rfl od.few ?_
  walk_at "vl"
  refine e_ite (fun hz => ?_) (fun hz => ?_)
  · obtain ⟨row2, rfl, ok2⟩ := row_of_B hz
    walk_at "vl"
    refine s_law_sets h hF rfl ok2 ?_
    walk_at "vl"
    refine heard_told (r := dueD P F row2) (fun Qv Ev hv => ?_) ?_
    · refine e_lam rfl ?_
      walk_at "vl"
      refine s_sets_of h hF rfl od.few (fun row3 e _ => ?_) fun z => by rw [hz] at z; cases z
      have e : row3 = row2 := by injection e with e; exact (map_str_inj e).symm
      subst e
      walk_at "vl"
      exact hv
    · walk_at "vl"
      refine told_sm (k := 4) (N := 70000) (d := .tuple [.str "told", dueD P F row2]) (Sm.tup (n := 30000) (m := 2) (fun x hx => ?_) (by simp) (by omega)) (by omega) (by omega) ?_
      · simp only [List.mem_cons, List.not_mem_nil, or_false] at hx
        rcases hx with rfl | rfl
        · exact sm_lit _ (by decide) (by decide) (by omega)
        · exact sm_due h hf ok2
      · walk_at "vl"
        refine e_ite (fun z => absurd z (by decide)) (fun _ => ?_)
        walk_at "vl"
        refine ⟨Pl.mono _ sm.pl (by omega), sm.sh, sm.len (by omega), ?_⟩
        rw [hS]
        walk_at "vl"
        · have es : PyData.eqv (.str S) (.str S) = true := same (n := 60) _ (by simp)
          rw [es]
          refine e_ite (fun z => absurd z (by decide)) (fun _ => ?_)
          walk_at "vl"
          exact hn _ _ _ hb
        · exact ⟨by simp, by simp⟩
  · walk_at "vl"
    refine heard_refused (why := "row") (fun Qv Ev hv => ?_) ?_
    · refine e_lam rfl ?_
      walk_at "vl"
      refine s_sets_of h hF rfl od.few (fun row3 e ok3 => ?_) fun z => hv
      rw [e, B_of_row ok3] at hz
      cases hz
    · walk_at "vl"
      refine told_sm (k := 2) (N := 100) (d := .tuple [.str "refused", .str "row"]) (Sm.tup (n := 20) (m := 2) (fun x hx => ?_) (by simp) (by omega)) (by omega) (by omega) ?_
      · simp only [List.mem_cons, List.not_mem_nil, or_false] at hx
        rcases hx with rfl | rfl
        · exact sm_lit _ (by decide) (by decide) (by omega)
        · exact sm_lit _ (by decide) (by decide) (by omega)
      · walk_at "vl"
        refine e_ite (fun z => absurd z (by decide)) (fun _ => ?_)
        walk_at "vl"
        refine ⟨Pl.mono _ sm.pl (by omega), sm.sh, sm.len (by omega), ?_⟩
        rw [hS]
        walk_at "vl"
        · have es : PyData.eqv (.str S) (.str S) = true := same (n := 60) _ (by simp)
          rw [es]
          refine e_ite (fun z => absurd z (by decide)) (fun _ => ?_)
          walk_at "vl"
          exact hn _ _ _ hb
        · exact ⟨by simp, by simp⟩
theorem law_3 (h : PlanOk P) (hF : F ∈ P.fs) (hb : BagOk b) (hn : ∀ b x8 x9 x10 x11 x12, BagOk b → nx ⟨[x0, some (.lst b), x2, some (.fz (planD P)), x4, x5, some (.fz (.str F.name)), x7, x8, x9, x10, x11, x12], []⟩) :
    g_law_3 ⟨[x0, some (.lst b), x2, some (.fz (planD P)), x4, x5, some (.fz (.str F.name)), x7, x8, x9, x10, x11, x12], []⟩ ⟨nx, rt, bk, ct⟩ W := by
  have hf := h.fo F hF
  unfold g_law_3
  walk_at "vl"
  refine s_drawn_row h hF rfl hb fun row b ok hb => ?_
  have sm := sm_two h hf ok
  walk_at "vl"
  refine s_law_sets h hF rfl ok ?_
  walk_at "vl"
  refine ⟨Pl.mono _ sm.pl (by omega), sm.sh, sm.len (by omega), ?_⟩
  generalize hS : (PyData.tuple [planD P, .tuple (row.map .str)]).shown = S
  walk_at "vl"
  refine e_2 ?_ (by omega)
  rw [show rgD 0 2 = (List.range 2).map iD from rg_enc 2]
  refine for_enc iD (fun dn e => ∃ x9, e = ⟨[x0, some (.lst b), x2, some (.fz (planD P)), x4, x5, some (.fz (.str F.name)), x7, some (.fz (.tuple (row.map .str))), x9, x10, some (.fz (dueD P F row)), some (.fz (.str S))], []⟩) ⟨_, rfl⟩ ?_ ?_
  · rintro dn t rest e kk ht ⟨y9, rfl⟩ hk
    walk_at "vl"
    exact law_1 h hF ok (hk _ ⟨_, rfl⟩)
  · rintro e ⟨y9, rfl⟩
    exact law_2 h hF hb ok hS fun b x10 x11 hb => hn _ _ _ _ _ _ hb
theorem law_4 (h : PlanOk P) (hF : F ∈ P.fs) (hb : BagOk b) (hn : ∀ b x6 x7 x8 x9 x10 x11 x12, BagOk b → nx ⟨[x0, some (.lst b), x2, some (.fz (planD P)), some (.fz (figD F)), x5, x6, x7, x8, x9, x10, x11, x12], []⟩) :
    g_law_4 ⟨[x0, some (.lst b), x2, some (.fz (planD P)), some (.fz (figD F)), x5, x6, x7, x8, x9, x10, x11, x12], []⟩ ⟨nx, rt, bk, ct⟩ W := by
  have hf := h.fo F hF
  have rl := readL_len h hf
  have ef : figD F = .tuple [.str F.name, .tuple (F.reads.map .str), iD F.size, iD F.slide, F.mcD] := rfl
  unfold g_law_4
  walk_at "vl"
  rw [ef]
  walk_at "vl"
  rw [← ef]
  refine s_parts_of h hF rfl ?_
  walk_at "vl"
  refine s_law_reading h hF rfl ?_
  walk_at "vl"
  refine told_sm (k := 2) (N := 10000) (Sm.tup (k := 1) (n := 20) (m := 400) (fun x hx => ?_) (by rw [List.length_map]; omega) (by omega)) (by omega) (by omega) ?_
  · obtain ⟨w, hw, rfl⟩ := List.mem_map.mp hx
    rcases read_parts h w hw with e | ⟨s, hs, e, _⟩
    · rw [e]; exact sm_lit _ (by decide) (by decide) (by omega)
    · rw [← e]; exact sm_nm (h.so s hs).nm (by omega)
  · walk_at "vl"
    refine e_ite (fun z => absurd z (by decide)) (fun _ => ?_)
    walk_at "vl"
    refine e_2 ?_ (by omega)
    rw [show rgD 0 5 = (List.range 5).map iD from rg_enc 5]
    refine for_enc iD (fun dn e => ∃ b x7 x8 x9 x10 x11 x12, BagOk b ∧ e = ⟨[x0, some (.lst b), x2, some (.fz (planD P)), some (.fz (figD F)), x5, some (.fz (.str F.name)), x7, x8, x9, x10, x11, x12], []⟩) ⟨b, _, _, _, _, _, _, hb, rfl⟩ ?_ ?_
    · rintro dn t rest e kk ht ⟨b, y7, y8, y9, y10, y11, y12, hb, rfl⟩ hk
      walk_at "vl"
      exact law_3 h hF hb fun b z8 z9 z10 z11 z12 hb => hk _ ⟨b, _, _, _, _, _, _, hb, rfl⟩
    · rintro e ⟨b, y7, y8, y9, y10, y11, y12, hb, rfl⟩
      exact hn _ _ _ _ _ _ _ _ hb
theorem nobody (h : PlanOk P) : ∀ F ∈ P.fs, F.name ≠ "nobody" := fun F hF e => by
  have := (h.fo F hF).nm
  rw [e] at this
  revert this
  unfold Fn4
  decide
end K22

/-! the law k22, its turns -/
namespace K22
open PySem PySem.Spec PyProof.Rows L2 VL
variable {b : List D} {Q : M → List M → Prop} {E : Ex → List M → Prop} {P : Plan} {s : Src} {F : Fig} {x p k : Str} {nx : VL.Env → Prop} {rt : M → VL.Env → Prop} {bk ct : VL.Env → Prop} {W : KX} {x0 x1 x2 x3 x4 x5 x6 x7 x8 x9 x10 x11 x12 : Option M}
theorem law_5 (h : PlanOk P) (hn : ∀ x5, nx ⟨[x0, x1, x2, some (.fz (planD P)), x4, x5, x6, x7, x8, x9, x10, x11, x12], []⟩) :
    g_law_5 ⟨[x0, x1, x2, some (.fz (planD P)), x4, x5, x6, x7, x8, x9, x10, x11, x12], []⟩ ⟨nx, rt, bk, ct⟩ W := by
  have no := nobody h
  unfold g_law_5
  walk_at "vl"
  refine heard_nofig (nm := "nobody") (fun Qv Ev hv => ?_) ?_
  · refine e_lam rfl ?_
    walk_at "vl"
    exact s_parts_of_no h no hv
  · walk_at "vl"
    refine heard_nofig (nm := "nobody") (fun Qv Ev hv => ?_) ?_
    · refine e_lam rfl ?_
      walk_at "vl"
      exact s_sets_of_no h no hv
    · walk_at "vl"
      refine e_2 ?_ (by simp)
      walk_at "vl"
      refine heard_nofig (nm := "nobody") (fun Qv Ev hv => ?_) ?_
      · refine e_lam rfl ?_
        walk_at "vl"
        exact s_last_set_no h no hv
      · walk_at "vl"
        refine e_2 ?_ (by simp)
        walk_at "vl"
        · have es : PyData.eqv (.list [.tuple [.str "nofigure", .str "nobody"], .tuple [.str "nofigure", .str "nobody"], .tuple [.str "nofigure", .str "nobody"]]) (.list (List.replicate (Int.toNat 3) [.tuple [.str "nofigure", .str "nobody"]]).flatten) = true := same (n := 60) _ (by simp)
          rw [es]
          refine e_ite (fun z => absurd z (by decide)) (fun _ => ?_)
          walk_at "vl"
          exact hn _
        · exact ⟨by simp, by
            rw [show (List.replicate (Int.toNat 3) [PyData.tuple [PyData.str "nofigure", PyData.str "nobody"]]).flatten = [PyData.tuple [PyData.str "nofigure", PyData.str "nobody"], PyData.tuple [PyData.str "nofigure", PyData.str "nobody"], PyData.tuple [PyData.str "nofigure", PyData.str "nobody"]] from rfl]
            simp⟩
        · exact ⟨by omega, by omega, by decide⟩
theorem law_6 (hb : BagOk b) (hn : ∀ b x3 x4 x5 x6 x7 x8 x9 x10 x11 x12, BagOk b → nx ⟨[x0, some (.lst b), x2, x3, x4, x5, x6, x7, x8, x9, x10, x11, x12], []⟩) :
    g_law_6 ⟨[x0, some (.lst b), x2, x3, x4, x5, x6, x7, x8, x9, x10, x11, x12], []⟩ ⟨nx, rt, bk, ct⟩ W := by
  unfold g_law_6
  walk_at "vl"
  refine s_take hb (by omega) (by omega) fun v b v0 v1 hb => ?_
  obtain ⟨m, rfl⟩ : ∃ m : Nat, v = (m : Int) := ⟨v.toNat, by omega⟩
  walk_at "vl"
  refine s_take hb (by omega) (by omega) fun f b f0 f1 hb => ?_
  obtain ⟨f, rfl⟩ : ∃ m : Nat, f = (m : Int) := ⟨f.toNat, by omega⟩
  walk_at "vl"
  rw [show (1 : Int) + (m : Int) = ((1 + m : Nat) : Int) by omega, show (1 : Int) + (f : Int) = ((1 + f : Nat) : Int) by omega]
  refine s_plan (sz := 6) hb (by omega) (by omega) (by omega) (by omega) (by omega) (by omega) fun P b h _ _ _ hb => ?_
  have e : planD P = .tuple [.tuple (P.ss.map srcD), .tuple (P.pr.map prD), .tuple (P.fs.map figD)] := rfl
  walk_at "vl"
  rw [e]
  walk_at "vl"
  rw [← e]
  refine for_enc figD (fun dn e => ∃ b x4 x5 x6 x7 x8 x9 x10 x11 x12, BagOk b ∧ e = ⟨[x0, some (.lst b), x2, some (.fz (planD P)), x4, x5, x6, x7, x8, x9, x10, x11, x12], []⟩) ⟨b, _, _, _, _, _, _, _, _, _, hb, rfl⟩ ?_ ?_
  · rintro dn F rest e kk hs ⟨b, y4, y5, y6, y7, y8, y9, y10, y11, y12, hb, rfl⟩ hk
    have hF : F ∈ P.fs := by rw [hs]; simp
    walk_at "vl"
    exact law_4 h hF hb fun b z6 z7 z8 z9 z10 z11 z12 hb => hk _ ⟨b, _, _, _, _, _, _, _, _, _, hb, rfl⟩
  · rintro e ⟨b, y4, y5, y6, y7, y8, y9, y10, y11, y12, hb, rfl⟩
    walk_at "vl"
    exact law_5 h fun x5 => hn _ _ _ _ _ _ _ _ _ _ _ hb
theorem law_true (ns : List Int) (hl : ns.length ≤ 63) : LawV sp_law ns := by
  unfold LawV
  refine e_body rfl (by simp only [List.map_cons, List.map_nil, List.length_cons, List.length_nil, Nat.reduceAdd, Nat.reduceSub, List.replicate, List.replicate_zero, List.cons_append, List.nil_append]; rfl) ?_
  unfold g_law
  walk_at "vl"
  refine s_bag hl fun b hb => ?_
  walk_at "vl"
  refine e_2 ?_ (by omega)
  refine for_inv (fun dn ds e => ∃ b x2 x3 x4 x5 x6 x7 x8 x9 x10 x11 x12, BagOk b ∧ e = ⟨[some (.fz (.list (ns.map .int))), some (.lst b), x2, x3, x4, x5, x6, x7, x8, x9, x10, x11, x12], []⟩) (dn := []) ⟨b, _, _, _, _, _, _, _, _, _, _, _, hb, rfl⟩ ?_ ?_ mono_gN
  · rintro dn d ds e ⟨b, x2, x3, x4, x5, x6, x7, x8, x9, x10, x11, x12, hb, rfl⟩
    walk_at "vl"
    intro nx' hn
    exact law_6 hb fun b y3 y4 y5 y6 y7 y8 y9 y10 y11 y12 hb => hn _ ⟨b, _, _, _, _, _, _, _, _, _, _, _, hb, rfl⟩
  · rintro dn e ⟨b, x2, x3, x4, x5, x6, x7, x8, x9, x10, x11, x12, hb, rfl⟩
    walk_at "vl"
    rfl
end K22
end


/-! printed by gen.py: the head of k22_sets_part_by_part -/
namespace K22
open PySem PySem.Spec PyProof.Rows L2 VL
theorem mk_all {w : World} {K : PySem.W.Frag} {h : Heap} {mg : Str → Option Value} {fa : Addr} (X : K.In h) (G : h.Ns mainGlobals mg) (hfa : mg "law" = some (.ref fa))
    {f0 : Addr} {od0 an0 : Option Addr} {sl0 : Array (Option Value)} {oc0 kV0 dc0 pm0 ct0 : Value} {cd0 : Value}
    (a0 : PySem.W.nsIn K mainGlobals "_law_alike" = some (some (.ref f0)))
    (l0 : K.lookup f0 = some ⟨oc0, od0, .func (PySem.W.fnOf "_law_alike" "_law_alike" (defArgs (topS 49)) (defBody (topS 49)) (defScope (topS 49)) .none kV0 dc0 pm0 an0 cd0 ct0), sl0⟩)
    (c0 : PySem.W.codeIn K cd0 "_law_alike" = true)
    (k0 : PySem.W.keepIn K (.ref f0) = true)
    {f1 : Addr} {od1 an1 : Option Addr} {sl1 : Array (Option Value)} {oc1 kV1 dc1 pm1 ct1 : Value} {cd1 : Value}
    (a1 : PySem.W.nsIn K mainGlobals "_law_bag" = some (some (.ref f1)))
    (l1 : K.lookup f1 = some ⟨oc1, od1, .func (PySem.W.fnOf "_law_bag" "_law_bag" (defArgs (topS 39)) (defBody (topS 39)) (defScope (topS 39)) .none kV1 dc1 pm1 an1 cd1 ct1), sl1⟩)
    (c1 : PySem.W.codeIn K cd1 "_law_bag" = true)
    (k1 : PySem.W.keepIn K (.ref f1) = true)
    {f2 : Addr} {od2 an2 : Option Addr} {sl2 : Array (Option Value)} {oc2 kV2 dc2 pm2 ct2 : Value} {cd2 : Value}
    (a2 : PySem.W.nsIn K mainGlobals "_law_figure" = some (some (.ref f2)))
    (l2 : K.lookup f2 = some ⟨oc2, od2, .func (PySem.W.fnOf "_law_figure" "_law_figure" (defArgs (topS 31)) (defBody (topS 31)) (defScope (topS 31)) .none kV2 dc2 pm2 an2 cd2 ct2), sl2⟩)
    (c2 : PySem.W.codeIn K cd2 "_law_figure" = true)
    (k2 : PySem.W.keepIn K (.ref f2) = true)
    {f3 : Addr} {od3 an3 : Option Addr} {sl3 : Array (Option Value)} {oc3 kV3 dc3 pm3 ct3 : Value} {cd3 : Value}
    (a3 : PySem.W.nsIn K mainGlobals "_law_slots_of_times" = some (some (.ref f3)))
    (l3 : K.lookup f3 = some ⟨oc3, od3, .func (PySem.W.fnOf "_law_slots_of_times" "_law_slots_of_times" (defArgs (topS 32)) (defBody (topS 32)) (defScope (topS 32)) .none kV3 dc3 pm3 an3 cd3 ct3), sl3⟩)
    (c3 : PySem.W.codeIn K cd3 "_law_slots_of_times" = true)
    (k3 : PySem.W.keepIn K (.ref f3) = true)
    {f4 : Addr} {od4 an4 : Option Addr} {sl4 : Array (Option Value)} {oc4 kV4 dc4 pm4 ct4 : Value} {cd4 : Value}
    (a4 : PySem.W.nsIn K mainGlobals "_law_reading" = some (some (.ref f4)))
    (l4 : K.lookup f4 = some ⟨oc4, od4, .func (PySem.W.fnOf "_law_reading" "_law_reading" (defArgs (topS 33)) (defBody (topS 33)) (defScope (topS 33)) .none kV4 dc4 pm4 an4 cd4 ct4), sl4⟩)
    (c4 : PySem.W.codeIn K cd4 "_law_reading" = true)
    (k4 : PySem.W.keepIn K (.ref f4) = true)
    {f5 : Addr} {od5 an5 : Option Addr} {sl5 : Array (Option Value)} {oc5 kV5 dc5 pm5 ct5 : Value} {cd5 : Value}
    (a5 : PySem.W.nsIn K mainGlobals "_law_slot_sources" = some (some (.ref f5)))
    (l5 : K.lookup f5 = some ⟨oc5, od5, .func (PySem.W.fnOf "_law_slot_sources" "_law_slot_sources" (defArgs (topS 51)) (defBody (topS 51)) (defScope (topS 51)) .none kV5 dc5 pm5 an5 cd5 ct5), sl5⟩)
    (c5 : PySem.W.codeIn K cd5 "_law_slot_sources" = true)
    (k5 : PySem.W.keepIn K (.ref f5) = true)
    {f6 : Addr} {od6 an6 : Option Addr} {sl6 : Array (Option Value)} {oc6 kV6 dc6 pm6 ct6 : Value} {cd6 : Value}
    (a6 : PySem.W.nsIn K mainGlobals "_law_take" = some (some (.ref f6)))
    (l6 : K.lookup f6 = some ⟨oc6, od6, .func (PySem.W.fnOf "_law_take" "_law_take" (defArgs (topS 34)) (defBody (topS 34)) (defScope (topS 34)) .none kV6 dc6 pm6 an6 cd6 ct6), sl6⟩)
    (c6 : PySem.W.codeIn K cd6 "_law_take" = true)
    (k6 : PySem.W.keepIn K (.ref f6) = true)
    {f7 : Addr} {od7 an7 : Option Addr} {sl7 : Array (Option Value)} {oc7 kV7 dc7 pm7 ct7 : Value} {cd7 : Value}
    (a7 : PySem.W.nsIn K mainGlobals "_law_some" = some (some (.ref f7)))
    (l7 : K.lookup f7 = some ⟨oc7, od7, .func (PySem.W.fnOf "_law_some" "_law_some" (defArgs (topS 35)) (defBody (topS 35)) (defScope (topS 35)) .none kV7 dc7 pm7 an7 cd7 ct7), sl7⟩)
    (c7 : PySem.W.codeIn K cd7 "_law_some" = true)
    (k7 : PySem.W.keepIn K (.ref f7) = true)
    {f8 : Addr} {od8 an8 : Option Addr} {sl8 : Array (Option Value)} {oc8 kV8 dc8 pm8 ct8 : Value} {cd8 : Value}
    (a8 : PySem.W.nsIn K mainGlobals "_law_source" = some (some (.ref f8)))
    (l8 : K.lookup f8 = some ⟨oc8, od8, .func (PySem.W.fnOf "_law_source" "_law_source" (defArgs (topS 36)) (defBody (topS 36)) (defScope (topS 36)) .none kV8 dc8 pm8 an8 cd8 ct8), sl8⟩)
    (c8 : PySem.W.codeIn K cd8 "_law_source" = true)
    (k8 : PySem.W.keepIn K (.ref f8) = true)
    {f9 : Addr} {od9 an9 : Option Addr} {sl9 : Array (Option Value)} {oc9 kV9 dc9 pm9 ct9 : Value} {cd9 : Value}
    (a9 : PySem.W.nsIn K mainGlobals "_law_drawn_row" = some (some (.ref f9)))
    (l9 : K.lookup f9 = some ⟨oc9, od9, .func (PySem.W.fnOf "_law_drawn_row" "_law_drawn_row" (defArgs (topS 52)) (defBody (topS 52)) (defScope (topS 52)) .none kV9 dc9 pm9 an9 cd9 ct9), sl9⟩)
    (c9 : PySem.W.codeIn K cd9 "_law_drawn_row" = true)
    (k9 : PySem.W.keepIn K (.ref f9) = true)
    {f10 : Addr} {od10 an10 : Option Addr} {sl10 : Array (Option Value)} {oc10 kV10 dc10 pm10 ct10 : Value} {cd10 : Value}
    (a10 : PySem.W.nsIn K mainGlobals "_law_heard" = some (some (.ref f10)))
    (l10 : K.lookup f10 = some ⟨oc10, od10, .func (PySem.W.fnOf "_law_heard" "_law_heard" (defArgs (topS 50)) (defBody (topS 50)) (defScope (topS 50)) .none kV10 dc10 pm10 an10 cd10 ct10), sl10⟩)
    (c10 : PySem.W.codeIn K cd10 "_law_heard" = true)
    (k10 : PySem.W.keepIn K (.ref f10) = true)
    {f11 : Addr} {od11 an11 : Option Addr} {sl11 : Array (Option Value)} {oc11 kV11 dc11 pm11 ct11 : Value} {cd11 : Value}
    (a11 : PySem.W.nsIn K mainGlobals "_law_is_row" = some (some (.ref f11)))
    (l11 : K.lookup f11 = some ⟨oc11, od11, .func (PySem.W.fnOf "_law_is_row" "_law_is_row" (defArgs (topS 53)) (defBody (topS 53)) (defScope (topS 53)) .none kV11 dc11 pm11 an11 cd11 ct11), sl11⟩)
    (c11 : PySem.W.codeIn K cd11 "_law_is_row" = true)
    (k11 : PySem.W.keepIn K (.ref f11) = true)
    {f12 : Addr} {od12 an12 : Option Addr} {sl12 : Array (Option Value)} {oc12 kV12 dc12 pm12 ct12 : Value} {cd12 : Value}
    (a12 : PySem.W.nsIn K mainGlobals "_law_odd_row" = some (some (.ref f12)))
    (l12 : K.lookup f12 = some ⟨oc12, od12, .func (PySem.W.fnOf "_law_odd_row" "_law_odd_row" (defArgs (topS 54)) (defBody (topS 54)) (defScope (topS 54)) .none kV12 dc12 pm12 an12 cd12 ct12), sl12⟩)
    (c12 : PySem.W.codeIn K cd12 "_law_odd_row" = true)
    (k12 : PySem.W.keepIn K (.ref f12) = true)
    {f13 : Addr} {od13 an13 : Option Addr} {sl13 : Array (Option Value)} {oc13 kV13 dc13 pm13 ct13 : Value} {cd13 : Value}
    (a13 : PySem.W.nsIn K mainGlobals "_law_counting" = some (some (.ref f13)))
    (l13 : K.lookup f13 = some ⟨oc13, od13, .func (PySem.W.fnOf "_law_counting" "_law_counting" (defArgs (topS 47)) (defBody (topS 47)) (defScope (topS 47)) .none kV13 dc13 pm13 an13 cd13 ct13), sl13⟩)
    (c13 : PySem.W.codeIn K cd13 "_law_counting" = true)
    (k13 : PySem.W.keepIn K (.ref f13) = true)
    {f14 : Addr} {od14 an14 : Option Addr} {sl14 : Array (Option Value)} {oc14 kV14 dc14 pm14 ct14 : Value} {cd14 : Value}
    (a14 : PySem.W.nsIn K mainGlobals "_law_letters" = some (some (.ref f14)))
    (l14 : K.lookup f14 = some ⟨oc14, od14, .func (PySem.W.fnOf "_law_letters" "_law_letters" (defArgs (topS 45)) (defBody (topS 45)) (defScope (topS 45)) .none kV14 dc14 pm14 an14 cd14 ct14), sl14⟩)
    (c14 : PySem.W.codeIn K cd14 "_law_letters" = true)
    (k14 : PySem.W.keepIn K (.ref f14) = true)
    {f15 : Addr} {od15 an15 : Option Addr} {sl15 : Array (Option Value)} {oc15 kV15 dc15 pm15 ct15 : Value} {cd15 : Value}
    (a15 : PySem.W.nsIn K mainGlobals "_law_machine" = some (some (.ref f15)))
    (l15 : K.lookup f15 = some ⟨oc15, od15, .func (PySem.W.fnOf "_law_machine" "_law_machine" (defArgs (topS 46)) (defBody (topS 46)) (defScope (topS 46)) .none kV15 dc15 pm15 an15 cd15 ct15), sl15⟩)
    (c15 : PySem.W.codeIn K cd15 "_law_machine" = true)
    (k15 : PySem.W.keepIn K (.ref f15) = true)
    {f16 : Addr} {od16 an16 : Option Addr} {sl16 : Array (Option Value)} {oc16 kV16 dc16 pm16 ct16 : Value} {cd16 : Value}
    (a16 : PySem.W.nsIn K mainGlobals "_law_names" = some (some (.ref f16)))
    (l16 : K.lookup f16 = some ⟨oc16, od16, .func (PySem.W.fnOf "_law_names" "_law_names" (defArgs (topS 44)) (defBody (topS 44)) (defScope (topS 44)) .none kV16 dc16 pm16 an16 cd16 ct16), sl16⟩)
    (c16 : PySem.W.codeIn K cd16 "_law_names" = true)
    (k16 : PySem.W.keepIn K (.ref f16) = true)
    {f17 : Addr} {od17 an17 : Option Addr} {sl17 : Array (Option Value)} {oc17 kV17 dc17 pm17 ct17 : Value} {cd17 : Value}
    (a17 : PySem.W.nsIn K mainGlobals "_law_promises_drawn" = some (some (.ref f17)))
    (l17 : K.lookup f17 = some ⟨oc17, od17, .func (PySem.W.fnOf "_law_promises_drawn" "_law_promises_drawn" (defArgs (topS 43)) (defBody (topS 43)) (defScope (topS 43)) .none kV17 dc17 pm17 an17 cd17 ct17), sl17⟩)
    (c17 : PySem.W.codeIn K cd17 "_law_promises_drawn" = true)
    (k17 : PySem.W.keepIn K (.ref f17) = true)
    {f18 : Addr} {od18 an18 : Option Addr} {sl18 : Array (Option Value)} {oc18 kV18 dc18 pm18 ct18 : Value} {cd18 : Value}
    (a18 : PySem.W.nsIn K mainGlobals "_law_mixed" = some (some (.ref f18)))
    (l18 : K.lookup f18 = some ⟨oc18, od18, .func (PySem.W.fnOf "_law_mixed" "_law_mixed" (defArgs (topS 40)) (defBody (topS 40)) (defScope (topS 40)) .none kV18 dc18 pm18 an18 cd18 ct18), sl18⟩)
    (c18 : PySem.W.codeIn K cd18 "_law_mixed" = true)
    (k18 : PySem.W.keepIn K (.ref f18) = true)
    {f19 : Addr} {od19 an19 : Option Addr} {sl19 : Array (Option Value)} {oc19 kV19 dc19 pm19 ct19 : Value} {cd19 : Value}
    (a19 : PySem.W.nsIn K mainGlobals "_law_some_names" = some (some (.ref f19)))
    (l19 : K.lookup f19 = some ⟨oc19, od19, .func (PySem.W.fnOf "_law_some_names" "_law_some_names" (defArgs (topS 41)) (defBody (topS 41)) (defScope (topS 41)) .none kV19 dc19 pm19 an19 cd19 ct19), sl19⟩)
    (c19 : PySem.W.codeIn K cd19 "_law_some_names" = true)
    (k19 : PySem.W.keepIn K (.ref f19) = true)
    {f20 : Addr} {od20 an20 : Option Addr} {sl20 : Array (Option Value)} {oc20 kV20 dc20 pm20 ct20 : Value} {cd20 : Value}
    (a20 : PySem.W.nsIn K mainGlobals "_law_sources_drawn" = some (some (.ref f20)))
    (l20 : K.lookup f20 = some ⟨oc20, od20, .func (PySem.W.fnOf "_law_sources_drawn" "_law_sources_drawn" (defArgs (topS 42)) (defBody (topS 42)) (defScope (topS 42)) .none kV20 dc20 pm20 an20 cd20 ct20), sl20⟩)
    (c20 : PySem.W.codeIn K cd20 "_law_sources_drawn" = true)
    (k20 : PySem.W.keepIn K (.ref f20) = true)
    {f21 : Addr} {od21 an21 : Option Addr} {sl21 : Array (Option Value)} {oc21 kV21 dc21 pm21 ct21 : Value} {cd21 : Value}
    (a21 : PySem.W.nsIn K mainGlobals "_law_plan" = some (some (.ref f21)))
    (l21 : K.lookup f21 = some ⟨oc21, od21, .func (PySem.W.fnOf "_law_plan" "_law_plan" (defArgs (topS 48)) (defBody (topS 48)) (defScope (topS 48)) .none kV21 dc21 pm21 an21 cd21 ct21), sl21⟩)
    (c21 : PySem.W.codeIn K cd21 "_law_plan" = true)
    (k21 : PySem.W.keepIn K (.ref f21) = true)
    {f22 : Addr} {od22 an22 : Option Addr} {sl22 : Array (Option Value)} {oc22 kV22 dc22 pm22 ct22 : Value} {cd22 : Value}
    (a22 : PySem.W.nsIn K mainGlobals "_law_step" = some (some (.ref f22)))
    (l22 : K.lookup f22 = some ⟨oc22, od22, .func (PySem.W.fnOf "_law_step" "_law_step" (defArgs (topS 38)) (defBody (topS 38)) (defScope (topS 38)) .none kV22 dc22 pm22 an22 cd22 ct22), sl22⟩)
    (c22 : PySem.W.codeIn K cd22 "_law_step" = true)
    (k22 : PySem.W.keepIn K (.ref f22) = true)
    {f23 : Addr} {od23 an23 : Option Addr} {sl23 : Array (Option Value)} {oc23 kV23 dc23 pm23 ct23 : Value} {cd23 : Value}
    (a23 : PySem.W.nsIn K mainGlobals "_law_ways" = some (some (.ref f23)))
    (l23 : K.lookup f23 = some ⟨oc23, od23, .func (PySem.W.fnOf "_law_ways" "_law_ways" (defArgs (topS 37)) (defBody (topS 37)) (defScope (topS 37)) .none kV23 dc23 pm23 an23 cd23 ct23), sl23⟩)
    (c23 : PySem.W.codeIn K cd23 "_law_ways" = true)
    (k23 : PySem.W.keepIn K (.ref f23) = true)
    {f24 : Addr} {od24 an24 : Option Addr} {sl24 : Array (Option Value)} {oc24 kV24 dc24 pm24 ct24 : Value} {cd24 : Value}
    (a24 : PySem.W.nsIn K mainGlobals "_law_sets" = some (some (.ref f24)))
    (l24 : K.lookup f24 = some ⟨oc24, od24, .func (PySem.W.fnOf "_law_sets" "_law_sets" (defArgs (topS 55)) (defBody (topS 55)) (defScope (topS 55)) .none kV24 dc24 pm24 an24 cd24 ct24), sl24⟩)
    (c24 : PySem.W.codeIn K cd24 "_law_sets" = true)
    (k24 : PySem.W.keepIn K (.ref f24) = true)
    {f25 : Addr} {od25 an25 : Option Addr} {sl25 : Array (Option Value)} {oc25 kV25 dc25 pm25 ct25 : Value} {cd25 : Value}
    (a25 : PySem.W.nsIn K mainGlobals "figure_names" = some (some (.ref f25)))
    (l25 : K.lookup f25 = some ⟨oc25, od25, .func (PySem.W.fnOf "figure_names" "figure_names" (defArgs (topS 12)) (defBody (topS 12)) (defScope (topS 12)) .none kV25 dc25 pm25 an25 cd25 ct25), sl25⟩)
    (c25 : PySem.W.codeIn K cd25 "figure_names" = true)
    (k25 : PySem.W.keepIn K (.ref f25) = true)
    {f26 : Addr} {od26 an26 : Option Addr} {sl26 : Array (Option Value)} {oc26 kV26 dc26 pm26 ct26 : Value} {cd26 : Value}
    (a26 : PySem.W.nsIn K mainGlobals "figure_index" = some (some (.ref f26)))
    (l26 : K.lookup f26 = some ⟨oc26, od26, .func (PySem.W.fnOf "figure_index" "figure_index" (defArgs (topS 14)) (defBody (topS 14)) (defScope (topS 14)) .none kV26 dc26 pm26 an26 cd26 ct26), sl26⟩)
    (c26 : PySem.W.codeIn K cd26 "figure_index" = true)
    (k26 : PySem.W.keepIn K (.ref f26) = true)
    {f27 : Addr} {od27 an27 : Option Addr} {sl27 : Array (Option Value)} {oc27 kV27 dc27 pm27 ct27 : Value} {cd27 : Value}
    (a27 : PySem.W.nsIn K mainGlobals "figure_of" = some (some (.ref f27)))
    (l27 : K.lookup f27 = some ⟨oc27, od27, .func (PySem.W.fnOf "figure_of" "figure_of" (defArgs (topS 15)) (defBody (topS 15)) (defScope (topS 15)) .none kV27 dc27 pm27 an27 cd27 ct27), sl27⟩)
    (c27 : PySem.W.codeIn K cd27 "figure_of" = true)
    (k27 : PySem.W.keepIn K (.ref f27) = true)
    {f28 : Addr} {od28 an28 : Option Addr} {sl28 : Array (Option Value)} {oc28 kV28 dc28 pm28 ct28 : Value} {cd28 : Value}
    (a28 : PySem.W.nsIn K mainGlobals "joined_letters" = some (some (.ref f28)))
    (l28 : K.lookup f28 = some ⟨oc28, od28, .func (PySem.W.fnOf "joined_letters" "joined_letters" (defArgs (topS 10)) (defBody (topS 10)) (defScope (topS 10)) .none kV28 dc28 pm28 an28 cd28 ct28), sl28⟩)
    (c28 : PySem.W.codeIn K cd28 "joined_letters" = true)
    (k28 : PySem.W.keepIn K (.ref f28) = true)
    {f29 : Addr} {od29 an29 : Option Addr} {sl29 : Array (Option Value)} {oc29 kV29 dc29 pm29 ct29 : Value} {cd29 : Value}
    (a29 : PySem.W.nsIn K mainGlobals "source_names" = some (some (.ref f29)))
    (l29 : K.lookup f29 = some ⟨oc29, od29, .func (PySem.W.fnOf "source_names" "source_names" (defArgs (topS 11)) (defBody (topS 11)) (defScope (topS 11)) .none kV29 dc29 pm29 an29 cd29 ct29), sl29⟩)
    (c29 : PySem.W.codeIn K cd29 "source_names" = true)
    (k29 : PySem.W.keepIn K (.ref f29) = true)
    {f30 : Addr} {od30 an30 : Option Addr} {sl30 : Array (Option Value)} {oc30 kV30 dc30 pm30 ct30 : Value} {cd30 : Value}
    (a30 : PySem.W.nsIn K mainGlobals "source_index" = some (some (.ref f30)))
    (l30 : K.lookup f30 = some ⟨oc30, od30, .func (PySem.W.fnOf "source_index" "source_index" (defArgs (topS 13)) (defBody (topS 13)) (defScope (topS 13)) .none kV30 dc30 pm30 an30 cd30 ct30), sl30⟩)
    (c30 : PySem.W.codeIn K cd30 "source_index" = true)
    (k30 : PySem.W.keepIn K (.ref f30) = true)
    {f31 : Addr} {od31 an31 : Option Addr} {sl31 : Array (Option Value)} {oc31 kV31 dc31 pm31 ct31 : Value} {cd31 : Value}
    (a31 : PySem.W.nsIn K mainGlobals "letters_of" = some (some (.ref f31)))
    (l31 : K.lookup f31 = some ⟨oc31, od31, .func (PySem.W.fnOf "letters_of" "letters_of" (defArgs (topS 16)) (defBody (topS 16)) (defScope (topS 16)) .none kV31 dc31 pm31 an31 cd31 ct31), sl31⟩)
    (c31 : PySem.W.codeIn K cd31 "letters_of" = true)
    (k31 : PySem.W.keepIn K (.ref f31) = true)
    {f32 : Addr} {od32 an32 : Option Addr} {sl32 : Array (Option Value)} {oc32 kV32 dc32 pm32 ct32 : Value} {cd32 : Value}
    (a32 : PySem.W.nsIn K mainGlobals "is_row" = some (some (.ref f32)))
    (l32 : K.lookup f32 = some ⟨oc32, od32, .func (PySem.W.fnOf "is_row" "is_row" (defArgs (topS 22)) (defBody (topS 22)) (defScope (topS 22)) .none kV32 dc32 pm32 an32 cd32 ct32), sl32⟩)
    (c32 : PySem.W.codeIn K cd32 "is_row" = true)
    (k32 : PySem.W.keepIn K (.ref f32) = true)
    {f33 : Addr} {od33 an33 : Option Addr} {sl33 : Array (Option Value)} {oc33 kV33 dc33 pm33 ct33 : Value} {cd33 : Value}
    (a33 : PySem.W.nsIn K mainGlobals "parts_of" = some (some (.ref f33)))
    (l33 : K.lookup f33 = some ⟨oc33, od33, .func (PySem.W.fnOf "parts_of" "parts_of" (defArgs (topS 20)) (defBody (topS 20)) (defScope (topS 20)) .none kV33 dc33 pm33 an33 cd33 ct33), sl33⟩)
    (c33 : PySem.W.codeIn K cd33 "parts_of" = true)
    (k33 : PySem.W.keepIn K (.ref f33) = true)
    {f34 : Addr} {od34 an34 : Option Addr} {sl34 : Array (Option Value)} {oc34 kV34 dc34 pm34 ct34 : Value} {cd34 : Value}
    (a34 : PySem.W.nsIn K mainGlobals "slot_sources" = some (some (.ref f34)))
    (l34 : K.lookup f34 = some ⟨oc34, od34, .func (PySem.W.fnOf "slot_sources" "slot_sources" (defArgs (topS 21)) (defBody (topS 21)) (defScope (topS 21)) .none kV34 dc34 pm34 an34 cd34 ct34), sl34⟩)
    (c34 : PySem.W.codeIn K cd34 "slot_sources" = true)
    (k34 : PySem.W.keepIn K (.ref f34) = true)
    {f35 : Addr} {od35 an35 : Option Addr} {sl35 : Array (Option Value)} {oc35 kV35 dc35 pm35 ct35 : Value} {cd35 : Value}
    (a35 : PySem.W.nsIn K mainGlobals "need_row" = some (some (.ref f35)))
    (l35 : K.lookup f35 = some ⟨oc35, od35, .func (PySem.W.fnOf "need_row" "need_row" (defArgs (topS 23)) (defBody (topS 23)) (defScope (topS 23)) .none kV35 dc35 pm35 an35 cd35 ct35), sl35⟩)
    (c35 : PySem.W.codeIn K cd35 "need_row" = true)
    (k35 : PySem.W.keepIn K (.ref f35) = true)
    {f36 : Addr} {od36 an36 : Option Addr} {sl36 : Array (Option Value)} {oc36 kV36 dc36 pm36 ct36 : Value} {cd36 : Value}
    (a36 : PySem.W.nsIn K mainGlobals "stepped" = some (some (.ref f36)))
    (l36 : K.lookup f36 = some ⟨oc36, od36, .func (PySem.W.fnOf "stepped" "stepped" (defArgs (topS 7)) (defBody (topS 7)) (defScope (topS 7)) .none kV36 dc36 pm36 an36 cd36 ct36), sl36⟩)
    (c36 : PySem.W.codeIn K cd36 "stepped" = true)
    (k36 : PySem.W.keepIn K (.ref f36) = true)
    {f37 : Addr} {od37 an37 : Option Addr} {sl37 : Array (Option Value)} {oc37 kV37 dc37 pm37 ct37 : Value} {cd37 : Value}
    (a37 : PySem.W.nsIn K mainGlobals "ticked" = some (some (.ref f37)))
    (l37 : K.lookup f37 = some ⟨oc37, od37, .func (PySem.W.fnOf "ticked" "ticked" (defArgs (topS 8)) (defBody (topS 8)) (defScope (topS 8)) .none kV37 dc37 pm37 an37 cd37 ct37), sl37⟩)
    (c37 : PySem.W.codeIn K cd37 "ticked" = true)
    (k37 : PySem.W.keepIn K (.ref f37) = true)
    {f38 : Addr} {od38 an38 : Option Addr} {sl38 : Array (Option Value)} {oc38 kV38 dc38 pm38 ct38 : Value} {cd38 : Value}
    (a38 : PySem.W.nsIn K mainGlobals "gone" = some (some (.ref f38)))
    (l38 : K.lookup f38 = some ⟨oc38, od38, .func (PySem.W.fnOf "gone" "gone" (defArgs (topS 26)) (defBody (topS 26)) (defScope (topS 26)) .none kV38 dc38 pm38 an38 cd38 ct38), sl38⟩)
    (c38 : PySem.W.codeIn K cd38 "gone" = true)
    (k38 : PySem.W.keepIn K (.ref f38) = true)
    {f39 : Addr} {od39 an39 : Option Addr} {sl39 : Array (Option Value)} {oc39 kV39 dc39 pm39 ct39 : Value} {cd39 : Value}
    (a39 : PySem.W.nsIn K mainGlobals "ways_at" = some (some (.ref f39)))
    (l39 : K.lookup f39 = some ⟨oc39, od39, .func (PySem.W.fnOf "ways_at" "ways_at" (defArgs (topS 25)) (defBody (topS 25)) (defScope (topS 25)) .none kV39 dc39 pm39 an39 cd39 ct39), sl39⟩)
    (c39 : PySem.W.codeIn K cd39 "ways_at" = true)
    (k39 : PySem.W.keepIn K (.ref f39) = true)
    {f40 : Addr} {od40 an40 : Option Addr} {sl40 : Array (Option Value)} {oc40 kV40 dc40 pm40 ct40 : Value} {cd40 : Value}
    (a40 : PySem.W.nsIn K mainGlobals "set_behind" = some (some (.ref f40)))
    (l40 : K.lookup f40 = some ⟨oc40, od40, .func (PySem.W.fnOf "set_behind" "set_behind" (defArgs (topS 27)) (defBody (topS 27)) (defScope (topS 27)) .none kV40 dc40 pm40 an40 cd40 ct40), sl40⟩)
    (c40 : PySem.W.codeIn K cd40 "set_behind" = true)
    (k40 : PySem.W.keepIn K (.ref f40) = true)
    {f41 : Addr} {od41 an41 : Option Addr} {sl41 : Array (Option Value)} {oc41 kV41 dc41 pm41 ct41 : Value} {cd41 : Value}
    (a41 : PySem.W.nsIn K mainGlobals "whole_row" = some (some (.ref f41)))
    (l41 : K.lookup f41 = some ⟨oc41, od41, .func (PySem.W.fnOf "whole_row" "whole_row" (defArgs (topS 24)) (defBody (topS 24)) (defScope (topS 24)) .none kV41 dc41 pm41 an41 cd41 ct41), sl41⟩)
    (c41 : PySem.W.codeIn K cd41 "whole_row" = true)
    (k41 : PySem.W.keepIn K (.ref f41) = true)
    {f42 : Addr} {od42 an42 : Option Addr} {sl42 : Array (Option Value)} {oc42 kV42 dc42 pm42 ct42 : Value} {cd42 : Value}
    (a42 : PySem.W.nsIn K mainGlobals "sets_of" = some (some (.ref f42)))
    (l42 : K.lookup f42 = some ⟨oc42, od42, .func (PySem.W.fnOf "sets_of" "sets_of" (defArgs (topS 28)) (defBody (topS 28)) (defScope (topS 28)) .none kV42 dc42 pm42 an42 cd42 ct42), sl42⟩)
    (c42 : PySem.W.codeIn K cd42 "sets_of" = true)
    (k42 : PySem.W.keepIn K (.ref f42) = true)
    {f43 : Addr} {od43 an43 : Option Addr} {sl43 : Array (Option Value)} {oc43 kV43 dc43 pm43 ct43 : Value} {cd43 : Value}
    (a43 : PySem.W.nsIn K mainGlobals "last_set" = some (some (.ref f43)))
    (l43 : K.lookup f43 = some ⟨oc43, od43, .func (PySem.W.fnOf "last_set" "last_set" (defArgs (topS 29)) (defBody (topS 29)) (defScope (topS 29)) .none kV43 dc43 pm43 an43 cd43 ct43), sl43⟩)
    (c43 : PySem.W.codeIn K cd43 "last_set" = true)
    (k43 : PySem.W.keepIn K (.ref f43) = true)
    {f44 : Addr} {od44 an44 : Option Addr} {sl44 : Array (Option Value)} {oc44 kV44 dc44 pm44 ct44 : Value} {cm44 : Addr}
    (a44 : PySem.W.nsIn K mainGlobals "law" = some (some (.ref f44)))
    (l44 : K.lookup f44 = some ⟨oc44, od44, .func (PySem.W.fnOf "law" "law" (defArgs (topS 56)) (defBody (topS 56)) (defScope (topS 56)) .none kV44 dc44 pm44 an44 (.ref cm44) ct44), sl44⟩)
    (c44 : PySem.W.codeIn K (.ref cm44) "law" = true)
    (k44 : PySem.W.keepIn K (.ref f44) = true)
    {P44 : Addr} {cl44 : Value} {co44 : Option Addr} {cs44 : Array (Option Value)} {vs44 : Array Value} {r44 : DefRec}
    (u44 : K.lookup cm44 = some ⟨cl44, co44, .fields vs44, cs44⟩)
    (v44 : vs44[11]? = some (.ref P44))
    (tr44 : (recsOf PySem.Challenge.rw_toldforgood_k22_sets_part_by_part.prog).find? (fun e => e.name == ("law" : Str)) = some r44)
    (tt44 : PySem.W.tabIn K "law" = some (cm44, P44))
    (tn44 : K.lookup P44 = none)
    (z0 : PySem.W.nsIn K mainGlobals "abs" = some none)
    (z1 : PySem.W.nsIn K mainGlobals "all" = some none)
    (z2 : PySem.W.nsIn K mainGlobals "int" = some none)
    (z3 : PySem.W.nsIn K mainGlobals "isinstance" = some none)
    (z4 : PySem.W.nsIn K mainGlobals "len" = some none)
    (z5 : PySem.W.nsIn K mainGlobals "list" = some none)
    (z6 : PySem.W.nsIn K mainGlobals "min" = some none)
    (z7 : PySem.W.nsIn K mainGlobals "range" = some none)
    (z8 : PySem.W.nsIn K mainGlobals "repr" = some none)
    (z9 : PySem.W.nsIn K mainGlobals "set" = some none)
    (z10 : PySem.W.nsIn K mainGlobals "sorted" = some none)
    (z11 : PySem.W.nsIn K mainGlobals "str" = some none)
    (z12 : PySem.W.nsIn K mainGlobals "tuple" = some none)
    (z13 : PySem.W.nsIn K mainGlobals "zip" = some none)
    {t0 : Tok}
    (y0 : PySem.W.nsIn K mainGlobals "EMPTY" = some (some (.str "empty" t0)))
    {t1 : Tok}
    (y1 : PySem.W.nsIn K mainGlobals "OPEN" = some (some (.str "open" t1)))
    {t2 : Tok}
    (y2 : PySem.W.nsIn K mainGlobals "TICK" = some (some (.str "tick" t2)))
    (xg : PySem.W.specialIn K (.builtin "object.__class__") "__get__" = some (some (.builtin "getset_descriptor.__get__")))
    (xt : PySem.W.takesIn K (.builtin "object.__class__") = some true)
    (xp : PySem.W.nsIn K mainGlobals "super" = some none)
    (xy : PySem.W.nsIn K cStatics "thirdparty.any" = some none)
    {DNoFigure : Addr}
    (xaNoFigure : PySem.W.nsIn K mainGlobals "NoFigure" = some (some (.ref DNoFigure)))
    (x1NoFigure : PySem.W.findIn K (.ref DNoFigure) "__getattribute__" = some (some (.builtin "BaseException.__getattribute__")))
    (x2NoFigure : PySem.W.findIn K (.ref DNoFigure) "__getattr__" = some none)
    (x3NoFigure : PySem.W.subIn K (.ref DNoFigure) (.type "BaseException") = some true)
    (x4NoFigure : PySem.W.hasDictIn K DNoFigure = true)
    (x5NoFigure : PySem.W.findIn K (.ref DNoFigure) "__class__" = some (some (.builtin "object.__class__")))
    (x8NoFigure : PySem.W.mroIn K DNoFigure (.type "object") = some true)
    (x9NoFigure : PySem.W.typeIn K (.ref DNoFigure) = some (.type "type"))
    (xsNoFigure : PySem.W.subIn K (.ref DNoFigure) (.ref DNoFigure) = some true)
    {DNoSource : Addr}
    (xaNoSource : PySem.W.nsIn K mainGlobals "NoSource" = some (some (.ref DNoSource)))
    (x1NoSource : PySem.W.findIn K (.ref DNoSource) "__getattribute__" = some (some (.builtin "BaseException.__getattribute__")))
    (x2NoSource : PySem.W.findIn K (.ref DNoSource) "__getattr__" = some none)
    (x3NoSource : PySem.W.subIn K (.ref DNoSource) (.type "BaseException") = some true)
    (x4NoSource : PySem.W.hasDictIn K DNoSource = true)
    (x5NoSource : PySem.W.findIn K (.ref DNoSource) "__class__" = some (some (.builtin "object.__class__")))
    (x8NoSource : PySem.W.mroIn K DNoSource (.type "object") = some true)
    (x9NoSource : PySem.W.typeIn K (.ref DNoSource) = some (.type "type"))
    (xsNoSource : PySem.W.subIn K (.ref DNoSource) (.ref DNoSource) = some true)
    {DRefused : Addr}
    (xaRefused : PySem.W.nsIn K mainGlobals "Refused" = some (some (.ref DRefused)))
    (x1Refused : PySem.W.findIn K (.ref DRefused) "__getattribute__" = some (some (.builtin "BaseException.__getattribute__")))
    (x2Refused : PySem.W.findIn K (.ref DRefused) "__getattr__" = some none)
    (x3Refused : PySem.W.subIn K (.ref DRefused) (.type "BaseException") = some true)
    (x4Refused : PySem.W.hasDictIn K DRefused = true)
    (x5Refused : PySem.W.findIn K (.ref DRefused) "__class__" = some (some (.builtin "object.__class__")))
    (x8Refused : PySem.W.mroIn K DRefused (.type "object") = some true)
    (x9Refused : PySem.W.typeIn K (.ref DRefused) = some (.type "type"))
    (xsRefused : PySem.W.subIn K (.ref DRefused) (.ref DRefused) = some true)
    {DStreamError : Addr}
    (xaStreamError : PySem.W.nsIn K mainGlobals "StreamError" = some (some (.ref DStreamError)))
    (x1StreamError : PySem.W.findIn K (.ref DStreamError) "__getattribute__" = some (some (.builtin "BaseException.__getattribute__")))
    (x2StreamError : PySem.W.findIn K (.ref DStreamError) "__getattr__" = some none)
    (x3StreamError : PySem.W.subIn K (.ref DStreamError) (.type "BaseException") = some true)
    (x4StreamError : PySem.W.hasDictIn K DStreamError = true)
    (x5StreamError : PySem.W.findIn K (.ref DStreamError) "__class__" = some (some (.builtin "object.__class__")))
    (x8StreamError : PySem.W.mroIn K DStreamError (.type "object") = some true)
    (x9StreamError : PySem.W.typeIn K (.ref DStreamError) = some (.type "type"))
    (xsStreamError : PySem.W.subIn K (.ref DStreamError) (.ref DStreamError) = some true)
    {fINoFigure ccNoFigure cdaNoFigure : Addr} {nmCNoFigure qCNoFigure : Str} {ocNoFigure kVNoFigure docNoFigure pmNoFigure ctNoFigure cclNoFigure clNoFigure : Value} {anNoFigure odNoFigure cddNoFigure cldNoFigure : Option Addr} {oslNoFigure ccsNoFigure cslNoFigure : Array (Option Value)} {vsNoFigure : Array Value} {fileNoFigure : Str} {tfNoFigure : Tok} {cdDNoFigure : ClassData} {NNoFigure : Addr} {bsNoFigure bmNoFigure : List Value} {snNoFigure : List Str} {subNoFigure : List Value} {abNoFigure : Bool} {colNoFigure : Option Bool} {ddNoFigure : Option Addr} {k0NoFigure k1NoFigure k2NoFigure k3NoFigure k5NoFigure : Option Value}
    (l1NoFigure : K.lookup DNoFigure = some (excClassObj nmCNoFigure qCNoFigure DNoFigure NNoFigure bsNoFigure bmNoFigure true snNoFigure subNoFigure abNoFigure colNoFigure ddNoFigure k0NoFigure k1NoFigure k2NoFigure k3NoFigure k5NoFigure "ValueError.__new__"))
    (l2NoFigure : PySem.HandSPX.refsVE bmNoFigure = true)
    (l3NoFigure : PySem.W.findIn K (.ref DNoFigure) "__setattr__" = some (some (.builtin "object.__setattr__")))
    (l6NoFigure : PySem.W.keepIn K (.ref DNoFigure) = true)
    (l7NoFigure : PySem.W.findIn K (.ref DNoFigure) "__init__" = some (some (.ref fINoFigure)))
    (l8NoFigure : PySem.W.typeIn K (.ref fINoFigure) = some (.type "function"))
    (l9NoFigure : K.lookup fINoFigure = some ⟨ocNoFigure, odNoFigure, .func (PySem.W.ksFn "__init__" "NoFigure.__init__" (C8.fnArgs (initSt (topS 3))) (C8.fnBody (initSt (topS 3))) (C8.fnScope (initSt (topS 3))) .none kVNoFigure docNoFigure pmNoFigure anNoFigure (.ref cdaNoFigure) ctNoFigure ccNoFigure), oslNoFigure⟩)
    (m1NoFigure : PySem.W.codeIn K (.ref cdaNoFigure) "NoFigure.__init__" = true)
    (m2NoFigure : K.lookup cdaNoFigure = some ⟨cclNoFigure, cddNoFigure, .fields vsNoFigure, ccsNoFigure⟩)
    (m3NoFigure : vsNoFigure[2]? = some (.str fileNoFigure tfNoFigure))
    (m4NoFigure : ((PySem.Challenge.rw_toldforgood_k22_sets_part_by_part.prog.main.file : Str) == fileNoFigure) = true)
    (m5NoFigure : K.lookup ccNoFigure = some ⟨clNoFigure, cldNoFigure, .cell (some (.ref DNoFigure)), cslNoFigure⟩)
    (m6NoFigure : PySem.W.clsIn K DNoFigure = some cdDNoFigure)
    (m7NoFigure : PySem.W.mroIn K DNoFigure (.ref DNoFigure) = some true)
    (m8NoFigure : PySem.W.ks_superIn K DNoFigure DNoFigure "__init__" = some (some (.builtin "ValueError.__init__")))
    (m9NoFigure : PySem.W.subIn K (.ref DNoFigure) (.type "ValueError") = some true)
    (n2NoFigure : PySem.W.findIn K (.ref DNoFigure) "name" = some none)
    {fINoSource ccNoSource cdaNoSource : Addr} {nmCNoSource qCNoSource : Str} {ocNoSource kVNoSource docNoSource pmNoSource ctNoSource cclNoSource clNoSource : Value} {anNoSource odNoSource cddNoSource cldNoSource : Option Addr} {oslNoSource ccsNoSource cslNoSource : Array (Option Value)} {vsNoSource : Array Value} {fileNoSource : Str} {tfNoSource : Tok} {cdDNoSource : ClassData} {NNoSource : Addr} {bsNoSource bmNoSource : List Value} {snNoSource : List Str} {subNoSource : List Value} {abNoSource : Bool} {colNoSource : Option Bool} {ddNoSource : Option Addr} {k0NoSource k1NoSource k2NoSource k3NoSource k5NoSource : Option Value}
    (l1NoSource : K.lookup DNoSource = some (excClassObj nmCNoSource qCNoSource DNoSource NNoSource bsNoSource bmNoSource true snNoSource subNoSource abNoSource colNoSource ddNoSource k0NoSource k1NoSource k2NoSource k3NoSource k5NoSource "ValueError.__new__"))
    (l2NoSource : PySem.HandSPX.refsVE bmNoSource = true)
    (l3NoSource : PySem.W.findIn K (.ref DNoSource) "__setattr__" = some (some (.builtin "object.__setattr__")))
    (l6NoSource : PySem.W.keepIn K (.ref DNoSource) = true)
    (l7NoSource : PySem.W.findIn K (.ref DNoSource) "__init__" = some (some (.ref fINoSource)))
    (l8NoSource : PySem.W.typeIn K (.ref fINoSource) = some (.type "function"))
    (l9NoSource : K.lookup fINoSource = some ⟨ocNoSource, odNoSource, .func (PySem.W.ksFn "__init__" "NoSource.__init__" (C8.fnArgs (initSt (topS 2))) (C8.fnBody (initSt (topS 2))) (C8.fnScope (initSt (topS 2))) .none kVNoSource docNoSource pmNoSource anNoSource (.ref cdaNoSource) ctNoSource ccNoSource), oslNoSource⟩)
    (m1NoSource : PySem.W.codeIn K (.ref cdaNoSource) "NoSource.__init__" = true)
    (m2NoSource : K.lookup cdaNoSource = some ⟨cclNoSource, cddNoSource, .fields vsNoSource, ccsNoSource⟩)
    (m3NoSource : vsNoSource[2]? = some (.str fileNoSource tfNoSource))
    (m4NoSource : ((PySem.Challenge.rw_toldforgood_k22_sets_part_by_part.prog.main.file : Str) == fileNoSource) = true)
    (m5NoSource : K.lookup ccNoSource = some ⟨clNoSource, cldNoSource, .cell (some (.ref DNoSource)), cslNoSource⟩)
    (m6NoSource : PySem.W.clsIn K DNoSource = some cdDNoSource)
    (m7NoSource : PySem.W.mroIn K DNoSource (.ref DNoSource) = some true)
    (m8NoSource : PySem.W.ks_superIn K DNoSource DNoSource "__init__" = some (some (.builtin "ValueError.__init__")))
    (m9NoSource : PySem.W.subIn K (.ref DNoSource) (.type "ValueError") = some true)
    (n2NoSource : PySem.W.findIn K (.ref DNoSource) "name" = some none)
    {fIRefused ccRefused cdaRefused : Addr} {nmCRefused qCRefused : Str} {ocRefused kVRefused docRefused pmRefused ctRefused cclRefused clRefused : Value} {anRefused odRefused cddRefused cldRefused : Option Addr} {oslRefused ccsRefused cslRefused : Array (Option Value)} {vsRefused : Array Value} {fileRefused : Str} {tfRefused : Tok} {cdDRefused : ClassData} {NRefused : Addr} {bsRefused bmRefused : List Value} {snRefused : List Str} {subRefused : List Value} {abRefused : Bool} {colRefused : Option Bool} {ddRefused : Option Addr} {k0Refused k1Refused k2Refused k3Refused k5Refused : Option Value}
    (l1Refused : K.lookup DRefused = some (excClassObj nmCRefused qCRefused DRefused NRefused bsRefused bmRefused true snRefused subRefused abRefused colRefused ddRefused k0Refused k1Refused k2Refused k3Refused k5Refused "ValueError.__new__"))
    (l2Refused : PySem.HandSPX.refsVE bmRefused = true)
    (l3Refused : PySem.W.findIn K (.ref DRefused) "__setattr__" = some (some (.builtin "object.__setattr__")))
    (l6Refused : PySem.W.keepIn K (.ref DRefused) = true)
    (l7Refused : PySem.W.findIn K (.ref DRefused) "__init__" = some (some (.ref fIRefused)))
    (l8Refused : PySem.W.typeIn K (.ref fIRefused) = some (.type "function"))
    (l9Refused : K.lookup fIRefused = some ⟨ocRefused, odRefused, .func (PySem.W.ksFn "__init__" "Refused.__init__" (C8.fnArgs (initSt (topS 4))) (C8.fnBody (initSt (topS 4))) (C8.fnScope (initSt (topS 4))) .none kVRefused docRefused pmRefused anRefused (.ref cdaRefused) ctRefused ccRefused), oslRefused⟩)
    (m1Refused : PySem.W.codeIn K (.ref cdaRefused) "Refused.__init__" = true)
    (m2Refused : K.lookup cdaRefused = some ⟨cclRefused, cddRefused, .fields vsRefused, ccsRefused⟩)
    (m3Refused : vsRefused[2]? = some (.str fileRefused tfRefused))
    (m4Refused : ((PySem.Challenge.rw_toldforgood_k22_sets_part_by_part.prog.main.file : Str) == fileRefused) = true)
    (m5Refused : K.lookup ccRefused = some ⟨clRefused, cldRefused, .cell (some (.ref DRefused)), cslRefused⟩)
    (m6Refused : PySem.W.clsIn K DRefused = some cdDRefused)
    (m7Refused : PySem.W.mroIn K DRefused (.ref DRefused) = some true)
    (m8Refused : PySem.W.ks_superIn K DRefused DRefused "__init__" = some (some (.builtin "ValueError.__init__")))
    (m9Refused : PySem.W.subIn K (.ref DRefused) (.type "ValueError") = some true)
    (n2Refused : PySem.W.findIn K (.ref DRefused) "why" = some none)
    (s_NoFigure_NoFigure : PySem.W.subIn K (.ref DNoFigure) (.ref DNoFigure) = some true)
    (s_NoFigure_Refused : PySem.W.subIn K (.ref DNoFigure) (.ref DRefused) = some false)
    (s_NoFigure_StreamError : PySem.W.subIn K (.ref DNoFigure) (.ref DStreamError) = some true)
    (s_NoSource_NoFigure : PySem.W.subIn K (.ref DNoSource) (.ref DNoFigure) = some false)
    (s_NoSource_Refused : PySem.W.subIn K (.ref DNoSource) (.ref DRefused) = some false)
    (s_NoSource_StreamError : PySem.W.subIn K (.ref DNoSource) (.ref DStreamError) = some true)
    (s_Refused_NoFigure : PySem.W.subIn K (.ref DRefused) (.ref DNoFigure) = some false)
    (s_Refused_Refused : PySem.W.subIn K (.ref DRefused) (.ref DRefused) = some true)
    (s_Refused_StreamError : PySem.W.subIn K (.ref DRefused) (.ref DStreamError) = some true)
    (h_NoFigure_name : PySem.W.findIn K (.ref DNoFigure) "name" = some none)
    (h_NoSource_name : PySem.W.findIn K (.ref DNoSource) "name" = some none)
    (h_Refused_why : PySem.W.findIn K (.ref DRefused) "why" = some none)
    : ∃ (fd : FuncData) (cs : List (Addr × Addr × Str)), (∀ p ∈ cs, ∃ (y : Str) (r : DefRec), (recsOf PySem.Challenge.rw_toldforgood_k22_sets_part_by_part.prog).find? (fun e => e.name == y) = some r ∧ PySem.W.tabIn K y = some (p.1, p.2.1) ∧ K.lookup p.2.1 = none) ∧ (∀ (s : Shared) (v : Value), BindsTo s fd ⟨[v], []⟩ [("script", v)]) ∧ ∀ base : Heap, K.In base → base.Ns mainGlobals mg → (∀ p ∈ cs, LamX.TabB base mg p.1 p.2.1) → FnV PySem.Challenge.rw_toldforgood_k22_sets_part_by_part.prog w K mg base (tabsOf cs) 13 fa fd ["script"] [] sp_law := by
  have e := hfa.symm.trans (PySem.W.mg_of X G a44)
  cases e
  let M : Md PySem.Challenge.rw_toldforgood_k22_sets_part_by_part.prog K mg := { f__law_alike := f0, d__law_alike := _, F__law_alike := fun_mk (st := topS 49) l0 c0 k0, g__law_alike := PySem.W.mg_of X G a0, f__law_bag := f1, d__law_bag := _, F__law_bag := fun_mk (st := topS 39) l1 c1 k1, g__law_bag := PySem.W.mg_of X G a1, f__law_figure := f2, d__law_figure := _, F__law_figure := fun_mk (st := topS 31) l2 c2 k2, g__law_figure := PySem.W.mg_of X G a2, f__law_slots_of_times := f3, d__law_slots_of_times := _, F__law_slots_of_times := fun_mk (st := topS 32) l3 c3 k3, g__law_slots_of_times := PySem.W.mg_of X G a3, f__law_reading := f4, d__law_reading := _, F__law_reading := fun_mk (st := topS 33) l4 c4 k4, g__law_reading := PySem.W.mg_of X G a4, f__law_slot_sources := f5, d__law_slot_sources := _, F__law_slot_sources := fun_mk (st := topS 51) l5 c5 k5, g__law_slot_sources := PySem.W.mg_of X G a5, f__law_take := f6, d__law_take := _, F__law_take := fun_mk (st := topS 34) l6 c6 k6, g__law_take := PySem.W.mg_of X G a6, f__law_some := f7, d__law_some := _, F__law_some := fun_mk (st := topS 35) l7 c7 k7, g__law_some := PySem.W.mg_of X G a7, f__law_source := f8, d__law_source := _, F__law_source := fun_mk (st := topS 36) l8 c8 k8, g__law_source := PySem.W.mg_of X G a8, f__law_drawn_row := f9, d__law_drawn_row := _, F__law_drawn_row := fun_mk (st := topS 52) l9 c9 k9, g__law_drawn_row := PySem.W.mg_of X G a9, f__law_heard := f10, d__law_heard := _, F__law_heard := fun_mk (st := topS 50) l10 c10 k10, g__law_heard := PySem.W.mg_of X G a10, f__law_is_row := f11, d__law_is_row := _, F__law_is_row := fun_mk (st := topS 53) l11 c11 k11, g__law_is_row := PySem.W.mg_of X G a11, f__law_odd_row := f12, d__law_odd_row := _, F__law_odd_row := fun_mk (st := topS 54) l12 c12 k12, g__law_odd_row := PySem.W.mg_of X G a12, f__law_counting := f13, d__law_counting := _, F__law_counting := fun_mk (st := topS 47) l13 c13 k13, g__law_counting := PySem.W.mg_of X G a13, f__law_letters := f14, d__law_letters := _, F__law_letters := fun_mk (st := topS 45) l14 c14 k14, g__law_letters := PySem.W.mg_of X G a14, f__law_machine := f15, d__law_machine := _, F__law_machine := fun_mk (st := topS 46) l15 c15 k15, g__law_machine := PySem.W.mg_of X G a15, f__law_names := f16, d__law_names := _, F__law_names := fun_mk (st := topS 44) l16 c16 k16, g__law_names := PySem.W.mg_of X G a16, f__law_promises_drawn := f17, d__law_promises_drawn := _, F__law_promises_drawn := fun_mk (st := topS 43) l17 c17 k17, g__law_promises_drawn := PySem.W.mg_of X G a17, f__law_mixed := f18, d__law_mixed := _, F__law_mixed := fun_mk (st := topS 40) l18 c18 k18, g__law_mixed := PySem.W.mg_of X G a18, f__law_some_names := f19, d__law_some_names := _, F__law_some_names := fun_mk (st := topS 41) l19 c19 k19, g__law_some_names := PySem.W.mg_of X G a19, f__law_sources_drawn := f20, d__law_sources_drawn := _, F__law_sources_drawn := fun_mk (st := topS 42) l20 c20 k20, g__law_sources_drawn := PySem.W.mg_of X G a20, f__law_plan := f21, d__law_plan := _, F__law_plan := fun_mk (st := topS 48) l21 c21 k21, g__law_plan := PySem.W.mg_of X G a21, f__law_step := f22, d__law_step := _, F__law_step := fun_mk (st := topS 38) l22 c22 k22, g__law_step := PySem.W.mg_of X G a22, f__law_ways := f23, d__law_ways := _, F__law_ways := fun_mk (st := topS 37) l23 c23 k23, g__law_ways := PySem.W.mg_of X G a23, f__law_sets := f24, d__law_sets := _, F__law_sets := fun_mk (st := topS 55) l24 c24 k24, g__law_sets := PySem.W.mg_of X G a24, f_figure_names := f25, d_figure_names := _, F_figure_names := fun_mk (st := topS 12) l25 c25 k25, g_figure_names := PySem.W.mg_of X G a25, f_figure_index := f26, d_figure_index := _, F_figure_index := fun_mk (st := topS 14) l26 c26 k26, g_figure_index := PySem.W.mg_of X G a26, f_figure_of := f27, d_figure_of := _, F_figure_of := fun_mk (st := topS 15) l27 c27 k27, g_figure_of := PySem.W.mg_of X G a27, f_joined_letters := f28, d_joined_letters := _, F_joined_letters := fun_mk (st := topS 10) l28 c28 k28, g_joined_letters := PySem.W.mg_of X G a28, f_source_names := f29, d_source_names := _, F_source_names := fun_mk (st := topS 11) l29 c29 k29, g_source_names := PySem.W.mg_of X G a29, f_source_index := f30, d_source_index := _, F_source_index := fun_mk (st := topS 13) l30 c30 k30, g_source_index := PySem.W.mg_of X G a30, f_letters_of := f31, d_letters_of := _, F_letters_of := fun_mk (st := topS 16) l31 c31 k31, g_letters_of := PySem.W.mg_of X G a31, f_is_row := f32, d_is_row := _, F_is_row := fun_mk (st := topS 22) l32 c32 k32, g_is_row := PySem.W.mg_of X G a32, f_parts_of := f33, d_parts_of := _, F_parts_of := fun_mk (st := topS 20) l33 c33 k33, g_parts_of := PySem.W.mg_of X G a33, f_slot_sources := f34, d_slot_sources := _, F_slot_sources := fun_mk (st := topS 21) l34 c34 k34, g_slot_sources := PySem.W.mg_of X G a34, f_need_row := f35, d_need_row := _, F_need_row := fun_mk (st := topS 23) l35 c35 k35, g_need_row := PySem.W.mg_of X G a35, f_stepped := f36, d_stepped := _, F_stepped := fun_mk (st := topS 7) l36 c36 k36, g_stepped := PySem.W.mg_of X G a36, f_ticked := f37, d_ticked := _, F_ticked := fun_mk (st := topS 8) l37 c37 k37, g_ticked := PySem.W.mg_of X G a37, f_gone := f38, d_gone := _, F_gone := fun_mk (st := topS 26) l38 c38 k38, g_gone := PySem.W.mg_of X G a38, f_ways_at := f39, d_ways_at := _, F_ways_at := fun_mk (st := topS 25) l39 c39 k39, g_ways_at := PySem.W.mg_of X G a39, f_set_behind := f40, d_set_behind := _, F_set_behind := fun_mk (st := topS 27) l40 c40 k40, g_set_behind := PySem.W.mg_of X G a40, f_whole_row := f41, d_whole_row := _, F_whole_row := fun_mk (st := topS 24) l41 c41 k41, g_whole_row := PySem.W.mg_of X G a41, f_sets_of := f42, d_sets_of := _, F_sets_of := fun_mk (st := topS 28) l42 c42 k42, g_sets_of := PySem.W.mg_of X G a42, f_last_set := f43, d_last_set := _, F_last_set := fun_mk (st := topS 29) l43 c43 k43, g_last_set := PySem.W.mg_of X G a43, f_law := fa, d_law := _, F_law := fun_mk (st := topS 56) l44 c44 k44, g_law := PySem.W.mg_of X G a44, e_NoFigure := DNoFigure, x_NoFigure := ⟨PySem.W.mg_of X G xaNoFigure, x1NoFigure, x2NoFigure, x3NoFigure, x4NoFigure, x5NoFigure, xg, xt, x8NoFigure, x9NoFigure, xsNoFigure⟩, e_NoSource := DNoSource, x_NoSource := ⟨PySem.W.mg_of X G xaNoSource, x1NoSource, x2NoSource, x3NoSource, x4NoSource, x5NoSource, xg, xt, x8NoSource, x9NoSource, xsNoSource⟩, e_Refused := DRefused, x_Refused := ⟨PySem.W.mg_of X G xaRefused, x1Refused, x2Refused, x3Refused, x4Refused, x5Refused, xg, xt, x8Refused, x9Refused, xsRefused⟩, e_StreamError := DStreamError, x_StreamError := ⟨PySem.W.mg_of X G xaStreamError, x1StreamError, x2StreamError, x3StreamError, x4StreamError, x5StreamError, xg, xt, x8StreamError, x9StreamError, xsStreamError⟩, r_NoFigure := raise1 (params := C8.fnArgs (initSt (topS 3))) (body := C8.fnBody (initSt (topS 3))) (scope := C8.fnScope (initSt (topS 3))) rfl rfl rfl rfl rfl (by decide) (by decide) (fun env => ⟨_, rfl⟩) (fun _ _ _ _ _ _ _ us hl => match us, hl with | [_, _], _ => rfl) (by decide +kernel) (PySem.W.mg_none_of X G xp) l1NoFigure l2NoFigure l3NoFigure x3NoFigure x9NoFigure l6NoFigure l7NoFigure l8NoFigure l9NoFigure m1NoFigure m2NoFigure m3NoFigure m4NoFigure m5NoFigure m6NoFigure m7NoFigure m8NoFigure m9NoFigure xy n2NoFigure, r_NoSource := raise1 (params := C8.fnArgs (initSt (topS 2))) (body := C8.fnBody (initSt (topS 2))) (scope := C8.fnScope (initSt (topS 2))) rfl rfl rfl rfl rfl (by decide) (by decide) (fun env => ⟨_, rfl⟩) (fun _ _ _ _ _ _ _ us hl => match us, hl with | [_, _], _ => rfl) (by decide +kernel) (PySem.W.mg_none_of X G xp) l1NoSource l2NoSource l3NoSource x3NoSource x9NoSource l6NoSource l7NoSource l8NoSource l9NoSource m1NoSource m2NoSource m3NoSource m4NoSource m5NoSource m6NoSource m7NoSource m8NoSource m9NoSource xy n2NoSource, r_Refused := raise1 (params := C8.fnArgs (initSt (topS 4))) (body := C8.fnBody (initSt (topS 4))) (scope := C8.fnScope (initSt (topS 4))) rfl rfl rfl rfl rfl (by decide) (by decide) (fun env => ⟨_, rfl⟩) (fun _ _ _ _ _ _ _ us hl => match us, hl with | [_, _], _ => rfl) (by decide +kernel) (PySem.W.mg_none_of X G xp) l1Refused l2Refused l3Refused x3Refused x9Refused l6Refused l7Refused l8Refused l9Refused m1Refused m2Refused m3Refused m4Refused m5Refused m6Refused m7Refused m8Refused m9Refused xy n2Refused, s_NoFigure_NoFigure := s_NoFigure_NoFigure, s_NoFigure_Refused := s_NoFigure_Refused, s_NoFigure_StreamError := s_NoFigure_StreamError, s_NoSource_NoFigure := s_NoSource_NoFigure, s_NoSource_Refused := s_NoSource_Refused, s_NoSource_StreamError := s_NoSource_StreamError, s_Refused_NoFigure := s_Refused_NoFigure, s_Refused_Refused := s_Refused_Refused, s_Refused_StreamError := s_Refused_StreamError, h_NoFigure_name := h_NoFigure_name, h_NoSource_name := h_NoSource_name, h_Refused_why := h_Refused_why, c_law := cm44, t_law := P44, hc_law := rfl, n_abs := PySem.W.mg_none_of X G z0, n_all := PySem.W.mg_none_of X G z1, n_int := PySem.W.mg_none_of X G z2, n_isinstance := PySem.W.mg_none_of X G z3, n_len := PySem.W.mg_none_of X G z4, n_list := PySem.W.mg_none_of X G z5, n_min := PySem.W.mg_none_of X G z6, n_range := PySem.W.mg_none_of X G z7, n_repr := PySem.W.mg_none_of X G z8, n_set := PySem.W.mg_none_of X G z9, n_sorted := PySem.W.mg_none_of X G z10, n_str := PySem.W.mg_none_of X G z11, n_tuple := PySem.W.mg_none_of X G z12, n_zip := PySem.W.mg_none_of X G z13, c_EMPTY := ⟨_, PySem.W.mg_of X G y0⟩, c_OPEN := ⟨_, PySem.W.mg_of X G y1⟩, c_TICK := ⟨_, PySem.W.mg_of X G y2⟩ }
  refine ⟨M.d_law, M.cs, ?_, fun s v => .of_eq rfl, fun base _ _ tb => ok_law M tb⟩
  intro p hp
  simp only [Md.cs, List.mem_cons, List.not_mem_nil, or_false] at hp
  subst hp
  exact ⟨"law", _, tr44, tt44, tn44⟩
end K22
open PySem PySem.W PyProof.Rows
set_option maxHeartbeats 0 in
theorem PySem.Challenge.cw_toldforgood_k22_sets_part_by_part_holds : PySem.Challenge.rw_toldforgood_k22_sets_part_by_part.Holds := by
  w_on; o_law; k_head; (case hw => w_witness2)
  k_fill
  refine VL.walk_valT (l := PySem.Challenge.rw_toldforgood_k22_sets_part_by_part) (n := 63) (k := 13) (x := "script") (sp := K22.sp_law) rfl (by rw [sizeLine_eq]; decide) rfl ⟨rfl, by decide, by decide⟩ (fun w h Y => by first | exact PySem.W.kIn_of Y | exact PySem.W.km_in_of Y) ?F K22.law_true
  case F =>
    intro w mg fa h KX G hmg
    refine' K22.mk_all KX G hmg ?a0 ?l0 ?c0 ?k0 ?a1 ?l1 ?c1 ?k1 ?a2 ?l2 ?c2 ?k2 ?a3 ?l3 ?c3 ?k3 ?a4 ?l4 ?c4 ?k4 ?a5 ?l5 ?c5 ?k5 ?a6 ?l6 ?c6 ?k6 ?a7 ?l7 ?c7 ?k7 ?a8 ?l8 ?c8 ?k8 ?a9 ?l9 ?c9 ?k9 ?a10 ?l10 ?c10 ?k10 ?a11 ?l11 ?c11 ?k11 ?a12 ?l12 ?c12 ?k12 ?a13 ?l13 ?c13 ?k13 ?a14 ?l14 ?c14 ?k14 ?a15 ?l15 ?c15 ?k15 ?a16 ?l16 ?c16 ?k16 ?a17 ?l17 ?c17 ?k17 ?a18 ?l18 ?c18 ?k18 ?a19 ?l19 ?c19 ?k19 ?a20 ?l20 ?c20 ?k20 ?a21 ?l21 ?c21 ?k21 ?a22 ?l22 ?c22 ?k22 ?a23 ?l23 ?c23 ?k23 ?a24 ?l24 ?c24 ?k24 ?a25 ?l25 ?c25 ?k25 ?a26 ?l26 ?c26 ?k26 ?a27 ?l27 ?c27 ?k27 ?a28 ?l28 ?c28 ?k28 ?a29 ?l29 ?c29 ?k29 ?a30 ?l30 ?c30 ?k30 ?a31 ?l31 ?c31 ?k31 ?a32 ?l32 ?c32 ?k32 ?a33 ?l33 ?c33 ?k33 ?a34 ?l34 ?c34 ?k34 ?a35 ?l35 ?c35 ?k35 ?a36 ?l36 ?c36 ?k36 ?a37 ?l37 ?c37 ?k37 ?a38 ?l38 ?c38 ?k38 ?a39 ?l39 ?c39 ?k39 ?a40 ?l40 ?c40 ?k40 ?a41 ?l41 ?c41 ?k41 ?a42 ?l42 ?c42 ?k42 ?a43 ?l43 ?c43 ?k43 ?a44 ?l44 ?c44 ?k44 ?u44 ?v44 ?tr44 ?tt44 ?tn44 ?z0 ?z1 ?z2 ?z3 ?z4 ?z5 ?z6 ?z7 ?z8 ?z9 ?z10 ?z11 ?z12 ?z13 ?y0 ?y1 ?y2 ?xg ?xt ?xp ?xy ?xaNoFigure ?x1NoFigure ?x2NoFigure ?x3NoFigure ?x4NoFigure ?x5NoFigure ?x8NoFigure ?x9NoFigure ?xsNoFigure ?xaNoSource ?x1NoSource ?x2NoSource ?x3NoSource ?x4NoSource ?x5NoSource ?x8NoSource ?x9NoSource ?xsNoSource ?xaRefused ?x1Refused ?x2Refused ?x3Refused ?x4Refused ?x5Refused ?x8Refused ?x9Refused ?xsRefused ?xaStreamError ?x1StreamError ?x2StreamError ?x3StreamError ?x4StreamError ?x5StreamError ?x8StreamError ?x9StreamError ?xsStreamError ?l1NoFigure ?l2NoFigure ?l3NoFigure ?l6NoFigure ?l7NoFigure ?l8NoFigure ?l9NoFigure ?m1NoFigure ?m2NoFigure ?m3NoFigure ?m4NoFigure ?m5NoFigure ?m6NoFigure ?m7NoFigure ?m8NoFigure ?m9NoFigure ?n2NoFigure ?l1NoSource ?l2NoSource ?l3NoSource ?l6NoSource ?l7NoSource ?l8NoSource ?l9NoSource ?m1NoSource ?m2NoSource ?m3NoSource ?m4NoSource ?m5NoSource ?m6NoSource ?m7NoSource ?m8NoSource ?m9NoSource ?n2NoSource ?l1Refused ?l2Refused ?l3Refused ?l6Refused ?l7Refused ?l8Refused ?l9Refused ?m1Refused ?m2Refused ?m3Refused ?m4Refused ?m5Refused ?m6Refused ?m7Refused ?m8Refused ?m9Refused ?n2Refused ?s_NoFigure_NoFigure ?s_NoFigure_Refused ?s_NoFigure_StreamError ?s_NoSource_NoFigure ?s_NoSource_Refused ?s_NoSource_StreamError ?s_Refused_NoFigure ?s_Refused_Refused ?s_Refused_StreamError ?h_NoFigure_name ?h_NoSource_name ?h_Refused_why
    (case a0 => k_is)
    (case l0 => k_is)
    (case c0 => k_is)
    (case k0 => k_is)
    (case a1 => k_is)
    (case l1 => k_is)
    (case c1 => k_is)
    (case k1 => k_is)
    (case a2 => k_is)
    (case l2 => k_is)
    (case c2 => k_is)
    (case k2 => k_is)
    (case a3 => k_is)
    (case l3 => k_is)
    (case c3 => k_is)
    (case k3 => k_is)
    (case a4 => k_is)
    (case l4 => k_is)
    (case c4 => k_is)
    (case k4 => k_is)
    (case a5 => k_is)
    (case l5 => k_is)
    (case c5 => k_is)
    (case k5 => k_is)
    (case a6 => k_is)
    (case l6 => k_is)
    (case c6 => k_is)
    (case k6 => k_is)
    (case a7 => k_is)
    (case l7 => k_is)
    (case c7 => k_is)
    (case k7 => k_is)
    (case a8 => k_is)
    (case l8 => k_is)
    (case c8 => k_is)
    (case k8 => k_is)
    (case a9 => k_is)
    (case l9 => k_is)
    (case c9 => k_is)
    (case k9 => k_is)
    (case a10 => k_is)
    (case l10 => k_is)
    (case c10 => k_is)
    (case k10 => k_is)
    (case a11 => k_is)
    (case l11 => k_is)
    (case c11 => k_is)
    (case k11 => k_is)
    (case a12 => k_is)
    (case l12 => k_is)
    (case c12 => k_is)
    (case k12 => k_is)
    (case a13 => k_is)
    (case l13 => k_is)
    (case c13 => k_is)
    (case k13 => k_is)
    (case a14 => k_is)
    (case l14 => k_is)
    (case c14 => k_is)
    (case k14 => k_is)
    (case a15 => k_is)
    (case l15 => k_is)
    (case c15 => k_is)
    (case k15 => k_is)
    (case a16 => k_is)
    (case l16 => k_is)
    (case c16 => k_is)
    (case k16 => k_is)
    (case a17 => k_is)
    (case l17 => k_is)
    (case c17 => k_is)
    (case k17 => k_is)
    (case a18 => k_is)
    (case l18 => k_is)
    (case c18 => k_is)
    (case k18 => k_is)
    (case a19 => k_is)
    (case l19 => k_is)
    (case c19 => k_is)
    (case k19 => k_is)
    (case a20 => k_is)
    (case l20 => k_is)
    (case c20 => k_is)
    (case k20 => k_is)
    (case a21 => k_is)
    (case l21 => k_is)
    (case c21 => k_is)
    (case k21 => k_is)
    (case a22 => k_is)
    (case l22 => k_is)
    (case c22 => k_is)
    (case k22 => k_is)
    (case a23 => k_is)
    (case l23 => k_is)
    (case c23 => k_is)
    (case k23 => k_is)
    (case a24 => k_is)
    (case l24 => k_is)
    (case c24 => k_is)
    (case k24 => k_is)
    (case a25 => k_is)
    (case l25 => k_is)
    (case c25 => k_is)
    (case k25 => k_is)
    (case a26 => k_is)
    (case l26 => k_is)
    (case c26 => k_is)
    (case k26 => k_is)
    (case a27 => k_is)
    (case l27 => k_is)
    (case c27 => k_is)
    (case k27 => k_is)
    (case a28 => k_is)
    (case l28 => k_is)
    (case c28 => k_is)
    (case k28 => k_is)
    (case a29 => k_is)
    (case l29 => k_is)
    (case c29 => k_is)
    (case k29 => k_is)
    (case a30 => k_is)
    (case l30 => k_is)
    (case c30 => k_is)
    (case k30 => k_is)
    (case a31 => k_is)
    (case l31 => k_is)
    (case c31 => k_is)
    (case k31 => k_is)
    (case a32 => k_is)
    (case l32 => k_is)
    (case c32 => k_is)
    (case k32 => k_is)
    (case a33 => k_is)
    (case l33 => k_is)
    (case c33 => k_is)
    (case k33 => k_is)
    (case a34 => k_is)
    (case l34 => k_is)
    (case c34 => k_is)
    (case k34 => k_is)
    (case a35 => k_is)
    (case l35 => k_is)
    (case c35 => k_is)
    (case k35 => k_is)
    (case a36 => k_is)
    (case l36 => k_is)
    (case c36 => k_is)
    (case k36 => k_is)
    (case a37 => k_is)
    (case l37 => k_is)
    (case c37 => k_is)
    (case k37 => k_is)
    (case a38 => k_is)
    (case l38 => k_is)
    (case c38 => k_is)
    (case k38 => k_is)
    (case a39 => k_is)
    (case l39 => k_is)
    (case c39 => k_is)
    (case k39 => k_is)
    (case a40 => k_is)
    (case l40 => k_is)
    (case c40 => k_is)
    (case k40 => k_is)
    (case a41 => k_is)
    (case l41 => k_is)
    (case c41 => k_is)
    (case k41 => k_is)
    (case a42 => k_is)
    (case l42 => k_is)
    (case c42 => k_is)
    (case k42 => k_is)
    (case a43 => k_is)
    (case l43 => k_is)
    (case c43 => k_is)
    (case k43 => k_is)
    (case a44 => k_is)
    (case l44 => k_is)
    (case c44 => k_is)
    (case k44 => k_is)
    (case u44 => k_is)
    (case v44 => rfl)
    (case tr44 => rfl)
    (case tt44 => kernel_rfl)
    (case tn44 => kernel_rfl)
    (case z0 => k_is)
    (case z1 => k_is)
    (case z2 => k_is)
    (case z3 => k_is)
    (case z4 => k_is)
    (case z5 => k_is)
    (case z6 => k_is)
    (case z7 => k_is)
    (case z8 => k_is)
    (case z9 => k_is)
    (case z10 => k_is)
    (case z11 => k_is)
    (case z12 => k_is)
    (case z13 => k_is)
    (case y0 => k_is)
    (case y1 => k_is)
    (case y2 => k_is)
    (case xg => k_is)
    (case xt => k_is)
    (case xp => k_is)
    (case xy => k_is)
    (case xaNoFigure => k_is)
    (case x1NoFigure => k_is)
    (case x2NoFigure => k_is)
    (case x3NoFigure => k_is)
    (case x4NoFigure => k_is)
    (case x5NoFigure => k_is)
    (case x8NoFigure => k_is)
    (case x9NoFigure => k_is)
    (case xsNoFigure => k_is)
    (case xaNoSource => k_is)
    (case x1NoSource => k_is)
    (case x2NoSource => k_is)
    (case x3NoSource => k_is)
    (case x4NoSource => k_is)
    (case x5NoSource => k_is)
    (case x8NoSource => k_is)
    (case x9NoSource => k_is)
    (case xsNoSource => k_is)
    (case xaRefused => k_is)
    (case x1Refused => k_is)
    (case x2Refused => k_is)
    (case x3Refused => k_is)
    (case x4Refused => k_is)
    (case x5Refused => k_is)
    (case x8Refused => k_is)
    (case x9Refused => k_is)
    (case xsRefused => k_is)
    (case xaStreamError => k_is)
    (case x1StreamError => k_is)
    (case x2StreamError => k_is)
    (case x3StreamError => k_is)
    (case x4StreamError => k_is)
    (case x5StreamError => k_is)
    (case x8StreamError => k_is)
    (case x9StreamError => k_is)
    (case xsStreamError => k_is)
    (case l1NoFigure => k_is)
    (case l2NoFigure => rfl)
    (case l3NoFigure => k_is)
    (case l6NoFigure => k_is)
    (case l7NoFigure => k_is)
    (case l8NoFigure => k_is)
    (case l9NoFigure => k_is)
    (case m1NoFigure => k_is)
    (case m2NoFigure => k_is)
    (case m3NoFigure => rfl)
    (case m4NoFigure => first | rfl | decide +kernel)
    (case m5NoFigure => k_is)
    (case m6NoFigure => k_is)
    (case m7NoFigure => k_is)
    (case m8NoFigure => ks_is)
    (case m9NoFigure => k_is)
    (case n2NoFigure => k_is)
    (case l1NoSource => k_is)
    (case l2NoSource => rfl)
    (case l3NoSource => k_is)
    (case l6NoSource => k_is)
    (case l7NoSource => k_is)
    (case l8NoSource => k_is)
    (case l9NoSource => k_is)
    (case m1NoSource => k_is)
    (case m2NoSource => k_is)
    (case m3NoSource => rfl)
    (case m4NoSource => first | rfl | decide +kernel)
    (case m5NoSource => k_is)
    (case m6NoSource => k_is)
    (case m7NoSource => k_is)
    (case m8NoSource => ks_is)
    (case m9NoSource => k_is)
    (case n2NoSource => k_is)
    (case l1Refused => k_is)
    (case l2Refused => rfl)
    (case l3Refused => k_is)
    (case l6Refused => k_is)
    (case l7Refused => k_is)
    (case l8Refused => k_is)
    (case l9Refused => k_is)
    (case m1Refused => k_is)
    (case m2Refused => k_is)
    (case m3Refused => rfl)
    (case m4Refused => first | rfl | decide +kernel)
    (case m5Refused => k_is)
    (case m6Refused => k_is)
    (case m7Refused => k_is)
    (case m8Refused => ks_is)
    (case m9Refused => k_is)
    (case n2Refused => k_is)
    (case s_NoFigure_NoFigure => k_is)
    (case s_NoFigure_Refused => k_is)
    (case s_NoFigure_StreamError => k_is)
    (case s_NoSource_NoFigure => k_is)
    (case s_NoSource_Refused => k_is)
    (case s_NoSource_StreamError => k_is)
    (case s_Refused_NoFigure => k_is)
    (case s_Refused_Refused => k_is)
    (case s_Refused_StreamError => k_is)
    (case h_NoFigure_name => k_is)
    (case h_NoSource_name => k_is)
    (case h_Refused_why => k_is)

