import PyProof.Rows.All
import Wide.All
import OpenK.AllK
import Wide.FinOn
import HandS.ForExc
import HandS.ForMost
import HandS.TupAny
import HandS.TupMul
import HandS.RaiseMore
import KE.DataEq
import KE.DataCmp
import KE.DataAny
import KE.DataIsa
import KE.DataMinMax
import KE.DataFind
import KE.SortData
import PyProof.ReprRoads
import HandS.Conv
import HandS.IsInst
import HandS.Style
import HandS.Walk
import HandS.WordsExc
import HandS.Star
import KE.GoesEnum
import HandS.Ends
import PyProof.ReprBulk
import KE.SortLaws
import PySem.Challenge.RW_toldforgood_k18_machines_to_begin_with
set_option Elab.async false
set_option linter.all false
set_option maxRecDepth 100000
set_option maxHeartbeats 2000000
/-! VlA: values of Python as data (PyData), local lists and dicts as values that are owned; the relation of these to the abstract heap of HandS. -/
namespace VL
open PySem PySem.Spec PyProof.Rows L2

abbrev D := PyData
abbrev Fg := PySem.W.Frag
abbrev Mg := Str → Option Value

def kD : Key → D
  | .inl i => .int i
  | .inr x => .str x

/-! ### frozen data -/
/-- a plain tuple: tracked with its object, or an object of the module -/
def TpL (K : Fg) (F : Hp) (a : Addr) (xs : List V) : Prop :=
  (∃ o : Obj, F a = some (.frz o (.tup xs)) ∧ o.dict = none) ∨
    ∃ (o : Obj) (its : Array Value) (n : Nat), K.lookup a = some o ∧ o.cls = .type "tuple" ∧ o.dict = none ∧ o.data = .seq its n ∧ its.size ≤ sizeLine ∧ Vals xs its.toList
/-- a list: tracked, or an object of the module -/
def LsL (K : Fg) (F : Hp) (a : Addr) (xs : List V) : Prop :=
  Rd F a (.lst xs) ∨ ∃ (us : List Value) (n : Nat), K.lookup a = some { cls := .type "list", data := .seq us.toArray n } ∧ us.length ≤ sizeLine ∧ Vals xs us
theorem LsL.sqL {K : Fg} {F : Hp} {a : Addr} {xs : List V} (h : LsL K F a xs) : SqL K F a xs :=
  h.imp id fun ⟨us, n, e, z, r⟩ => ⟨_, us.toArray, n, e, rfl, rfl, rfl, by rw [List.size_toArray]; exact z, by simpa using r⟩
theorem TpL.sqT {K : Fg} {F : Hp} {a : Addr} {xs : List V} (h : TpL K F a xs) : SqT K F a xs := by
  rcases h with ⟨o, h, _⟩ | ⟨o, its, n, h1, h2, _, h4⟩
  · exact .inl (.inr ⟨o, h⟩)
  · exact .inr ⟨o, its, n, h1, h2, h4⟩
mutual
/-- v holds the data d, all of it in the frozen part F (or in the written part K) -/
inductive Dt (K : Fg) (F : Hp) : V → D → Prop
  | non : Dt K F .non .none
  | bl (b : Bool) : Dt K F (.bl b) (.bool b)
  | int (i : Int) : Dt K F (.int i) (.int i)
  | str (x : Str) : Dt K F (.str x) (.str x)
  | lst {a : Addr} {xs : List V} {ds : List D} : LsL K F a xs → DtAll K F xs ds → Dt K F (.ref a) (.list ds)
  | tup {a : Addr} {xs : List V} {ds : List D} : TpL K F a xs → DtAll K F xs ds → Dt K F (.ref a) (.tuple ds)
  | dct {a : Addr} {kvs : List (Key × V)} {es : List (D × D)} : F a = some (.dK kvs) → DtKv K F kvs es → Dt K F (.ref a) (.dict es)
inductive DtAll (K : Fg) (F : Hp) : List V → List D → Prop
  | nil : DtAll K F [] []
  | cons {v : V} {vs : List V} {d : D} {ds : List D} : Dt K F v d → DtAll K F vs ds → DtAll K F (v :: vs) (d :: ds)
inductive DtKv (K : Fg) (F : Hp) : List (Key × V) → List (D × D) → Prop
  | nil : DtKv K F [] []
  | cons {k : Key} {v : V} {kvs : List (Key × V)} {d : D} {es : List (D × D)} : Dt K F v d → DtKv K F kvs es → DtKv K F ((k, v) :: kvs) ((kD k, d) :: es)
end
/-- F within F' -/
def Le (F F' : Hp) : Prop := ∀ a o, F a = some o → F' a = some o
theorem Le.refl (F : Hp) : Le F F := fun _ _ h => h
theorem Le.trans {F F1 F2 : Hp} (a : Le F F1) (b : Le F1 F2) : Le F F2 := fun c o h => b c o (a c o h)
theorem Le.upd {F : Hp} {p : Addr} {o : HO} (h : F p = none) : Le F (upd F p o) := fun a u e => by
  rw [upd_ne (ne_of_none e h)]; exact e
theorem _root_.L2.Rd.le {F F' : Hp} (l : Le F F') {a : Addr} {u : HO} (r : Rd F a u) : Rd F' a u := by
  rcases r with h | ⟨o, h⟩
  · exact .inl (l _ _ h)
  · exact .inr ⟨o, l _ _ h⟩
theorem lsL_le {K : Fg} {F F' : Hp} (l : Le F F') {a : Addr} {xs : List V} (h : LsL K F a xs) : LsL K F' a xs := h.imp (fun z => z.le l) id
theorem sqL_le {K : Fg} {F F' : Hp} (l : Le F F') {a : Addr} {xs : List V} (h : SqL K F a xs) : SqL K F' a xs := h.imp (fun z => z.le l) id
theorem tpL_le {K : Fg} {F F' : Hp} (l : Le F F') {a : Addr} {xs : List V} (h : TpL K F a xs) : TpL K F' a xs := h.imp (fun ⟨o, e, d⟩ => ⟨o, l _ _ e, d⟩) id
theorem sqT_le {K : Fg} {F F' : Hp} (l : Le F F') {a : Addr} {xs : List V} (h : SqT K F a xs) : SqT K F' a xs := h.imp (fun z => z.le l) id
mutual
theorem Dt.le {K : Fg} {F F' : Hp} (l : Le F F') : ∀ {v : V} {d : D}, Dt K F v d → Dt K F' v d
  | _, _, .non => .non
  | _, _, .bl b => .bl b
  | _, _, .int i => .int i
  | _, _, .str x => .str x
  | _, _, .lst h r => .lst (lsL_le l h) (DtAll.le l r)
  | _, _, .tup h r => .tup (tpL_le l h) (DtAll.le l r)
  | _, _, .dct h r => .dct (l _ _ h) (DtKv.le l r)
theorem DtAll.le {K : Fg} {F F' : Hp} (l : Le F F') : ∀ {vs : List V} {ds : List D}, DtAll K F vs ds → DtAll K F' vs ds
  | _, _, .nil => .nil
  | _, _, .cons h r => .cons (Dt.le l h) (DtAll.le l r)
theorem DtKv.le {K : Fg} {F F' : Hp} (l : Le F F') : ∀ {kvs : List (Key × V)} {es : List (D × D)}, DtKv K F kvs es → DtKv K F' kvs es
  | _, _, .nil => .nil
  | _, _, .cons h r => .cons (Dt.le l h) (DtKv.le l r)
end
theorem DtAll.length {K : Fg} {F : Hp} : ∀ {vs : List V} {ds : List D}, DtAll K F vs ds → vs.length = ds.length
  | _, _, .nil => rfl
  | _, _, .cons _ r => by rw [List.length_cons, List.length_cons, DtAll.length r]
theorem DtAll.get {K : Fg} {F : Hp} : ∀ {vs : List V} {ds : List D} {i : Nat} {v : V}, DtAll K F vs ds → vs[i]? = some v → ∃ d, ds[i]? = some d ∧ Dt K F v d
  | _, _, i, v, .nil, h => by simp at h
  | _, _, 0, v, .cons h r, e => by simp at e; subst e; exact ⟨_, rfl, h⟩
  | _, _, i + 1, v, .cons h r, e => by
    obtain ⟨d, e1, e2⟩ := DtAll.get (i := i) r (by simpa using e)
    exact ⟨d, by simpa using e1, e2⟩
theorem DtAll.getD {K : Fg} {F : Hp} {vs : List V} {ds : List D} {i : Nat} {d : D} (r : DtAll K F vs ds) (e : ds[i]? = some d) : ∃ v, vs[i]? = some v ∧ Dt K F v d := by
  have hi : i < vs.length := by
    rw [r.length]
    exact (List.getElem?_eq_some_iff.mp e).1
  obtain ⟨d', e1, e2⟩ := r.get (List.getElem?_eq_getElem hi)
  rw [e] at e1
  cases e1
  exact ⟨_, List.getElem?_eq_getElem hi, e2⟩
theorem DtAll.append {K : Fg} {F : Hp} : ∀ {vs ws : List V} {ds es : List D}, DtAll K F vs ds → DtAll K F ws es → DtAll K F (vs ++ ws) (ds ++ es)
  | _, _, _, _, .nil, s => s
  | _, _, _, _, .cons h r, s => .cons h (DtAll.append r s)
theorem DtAll.take {K : Fg} {F : Hp} : ∀ {vs : List V} {ds : List D} (n : Nat), DtAll K F vs ds → DtAll K F (vs.take n) (ds.take n)
  | _, _, 0, _ => .nil
  | _, _, _ + 1, .nil => .nil
  | _, _, n + 1, .cons h r => .cons h (DtAll.take n r)
theorem DtAll.drop {K : Fg} {F : Hp} : ∀ {vs : List V} {ds : List D} (n : Nat), DtAll K F vs ds → DtAll K F (vs.drop n) (ds.drop n)
  | _, _, 0, r => r
  | _, _, _ + 1, .nil => .nil
  | _, _, n + 1, .cons _ r => DtAll.drop n r
theorem DtAll.set {K : Fg} {F : Hp} {v : V} {d : D} (h : Dt K F v d) : ∀ {vs : List V} {ds : List D} (n : Nat), DtAll K F vs ds → DtAll K F (vs.set n v) (ds.set n d)
  | _, _, _, .nil => .nil
  | _, _, 0, .cons _ r => .cons h r
  | _, _, n + 1, .cons g r => .cons g (DtAll.set h n r)
theorem DtAll.erase {K : Fg} {F : Hp} : ∀ {vs : List V} {ds : List D} (n : Nat), DtAll K F vs ds → DtAll K F (vs.eraseIdx n) (ds.eraseIdx n)
  | _, _, _, .nil => .nil
  | _, _, 0, .cons _ r => r
  | _, _, n + 1, .cons g r => .cons g (DtAll.erase n r)
theorem DtAll.reverse {K : Fg} {F : Hp} {vs : List V} {ds : List D} (h : DtAll K F vs ds) : DtAll K F vs.reverse ds.reverse := by
  induction h using DtAll.rec (motive_1 := fun _ _ _ => True) (motive_3 := fun _ _ _ => True) with
  | nil => exact .nil
  | cons h r _ ih => rw [List.reverse_cons, List.reverse_cons]; exact ih.append (.cons h .nil)
  | _ => trivial
theorem DtAll.ints {K : Fg} {F : Hp} : ∀ (ns : List Int), DtAll K F (ns.map V.int) (ns.map PyData.int)
  | [] => .nil
  | n :: ns => .cons (.int n) (DtAll.ints ns)
theorem DtAll.strs {K : Fg} {F : Hp} : ∀ (ns : List Str), DtAll K F (ns.map V.str) (ns.map PyData.str)
  | [] => .nil
  | n :: ns => .cons (.str n) (DtAll.strs ns)
theorem DtAll.ofInts {K : Fg} {F : Hp} : ∀ {ns : List Int} {vs : List V}, DtAll K F vs (ns.map PyData.int) → vs = ns.map V.int
  | [], _, .nil => rfl
  | n :: ns, _, .cons h r => by cases h; rw [DtAll.ofInts (ns := ns) r]; rfl
theorem DtAll.ofStrs {K : Fg} {F : Hp} : ∀ {ns : List Str} {vs : List V}, DtAll K F vs (ns.map PyData.str) → vs = ns.map V.str
  | [], _, .nil => rfl
  | n :: ns, _, .cons h r => by cases h; rw [DtAll.ofStrs (ns := ns) r]; rfl
theorem DtAll.ofBools {K : Fg} {F : Hp} : ∀ {ns : List Bool} {vs : List V}, DtAll K F vs (ns.map PyData.bool) → vs = ns.map V.bl
  | [], _, .nil => rfl
  | n :: ns, _, .cons h r => by cases h; rw [DtAll.ofBools (ns := ns) r]; rfl

/-! ### from frozen data to the machine's own reading -/
theorem DtKv.map {K : Fg} {F : Hp} : ∀ {kvs : List (Key × V)} {es : List (D × D)}, DtKv K F kvs es → es.map (·.1) = kvs.map (fun p => kD p.1) ∧ DtAll K F (kvs.map (·.2)) (es.map (·.2))
  | _, _, .nil => ⟨rfl, .nil⟩
  | _, _, .cons h r => ⟨by rw [List.map_cons, List.map_cons, (DtKv.map r).1], .cons h (DtKv.map r).2⟩
/-- the keys of a dict's entries -/
theorem reads_keys {P : Program} {w : World} {h : Heap} : ∀ {es : List DictEntry} {vs : List (Key × Value)}, PySem.Pairs (mixKind P w) es vs → ReadsAll h (es.map (·.key)) (vs.map fun p => kD p.1) []
  | _, _, .nil => .nil
  | _, _, .cons (e := e) (kv := kv) h1 _ r => by
    have r' := reads_keys (h := h) r
    have h1' : keyIs kv.1 e.key = true := h1
    have hk : Reads h e.key (kD kv.1) [] := by
      rcases keyIs_shape h1' with ⟨i, t, e1, e2⟩ | ⟨x, t, e1, e2⟩
      · rw [e1, e2]; exact .int i t
      · rw [e1, e2]; exact .str x t
    exact .cons hk r'
theorem pairs_vals {P : Program} {w : World} : ∀ {es : List DictEntry} {vs : List (Key × Value)}, PySem.Pairs (mixKind P w) es vs → es.map (·.val) = vs.map (·.2)
  | _, _, .nil => rfl
  | _, _, .cons h1 h2 r => by rw [List.map_cons, List.map_cons, h2, pairs_vals r]
theorem kv_keys : ∀ {kvs : List (Key × V)} {vs : List (Key × Value)}, KV kvs vs → vs.map (fun p => kD p.1) = kvs.map (fun p => kD p.1) ∧ Vals (kvs.map (·.2)) (vs.map (·.2))
  | _, _, .nil => ⟨rfl, .nil⟩
  | _, _, .cons h r => ⟨by rw [List.map_cons, List.map_cons, (kv_keys r).1, h.1], .cons h.2 (kv_keys r).2⟩
section
variable {X : Cx} {pins : List (Addr × Obj)} {σ : L2.St} {H F : Hp} {s : Shared}
theorem TpL.obj (I : Inv X pins σ H s) (l : Le F H) {a : Addr} {xs : List V} (h : TpL X.K F a xs) : ∃ o, s.heap.get? a = some o ∧ o.cls = .type "tuple" ∧ o.dict = none := by
  rcases h with ⟨o, h, d⟩ | ⟨o, its, n, h1, h2, h3, _⟩
  · obtain ⟨e, _, its, _, o', e', c, _⟩ := I.hok _ _ (l _ _ h)
    rw [e] at e'
    cases e'
    exact ⟨o, e, c, d⟩
  · exact ⟨o, I.kIn a o h1, h2, h3⟩
/-- the object of a new tuple -/
abbrev tupO (us : List Value) : Obj := { cls := .type "tuple", data := .seq us.toArray }
abbrev tupH (us : List Value) (xs : List V) : HO := .frz (tupO us) (.tup xs)
/-- a new tuple is laid -/
theorem Inv.laidT (I : Inv X pins σ H s) {h' : Heap} {a : Addr} {t' : Nat} {xs : List V} {us : List Value} (k : ∀ b u, s.heap.get? b = some u → h'.get? b = some u) (hp : s.heap.objs.size ≤ a) (r : Vals xs us) (z : xs.length ≤ sizeLine)
    (e : h'.get? a = some (tupO us)) : Inv X pins σ (upd H a (tupH us xs)) { s with heap := h', toks := t' } :=
  I.laid (t' := t') k hp ⟨e, z, us, r, _, e, rfl, _, rfl⟩
mutual
theorem Dt.reads (I : Inv X pins σ H s) (l : Le F H) : ∀ {v : V} {d : D} {u : Value}, Dt X.K F v d → RelV v u → ∃ as, Reads s.heap u d as
  | _, _, _, .non, r => by cases r; exact ⟨_, Reads.none⟩
  | _, _, _, .bl b, r => by cases r; exact ⟨_, Reads.bool b⟩
  | _, _, _, .int i, r => by obtain ⟨t, rfl⟩ := r; exact ⟨_, Reads.int i t⟩
  | _, _, _, .str x, r => by obtain ⟨t, rfl⟩ := r; exact ⟨_, Reads.str x t⟩
  | _, _, _, .lst hs ha, r => by
    cases r
    obtain ⟨its, rv, ⟨o, n, ho, hc, _, hd⟩, _⟩ := I.list (lsL_le l hs).sqL
    obtain ⟨as, hr⟩ := DtAll.reads I l ha rv
    exact ⟨_, Reads.list ho hc hd hr⟩
  | _, _, _, .tup hs ha, r => by
    cases r
    obtain ⟨its, rv, ⟨o, ho, hc, n, hd⟩, _⟩ := I.tuple (sqT_le l hs.sqT)
    obtain ⟨as, hr⟩ := DtAll.reads I l ha rv
    exact ⟨_, Reads.tuple ho hc hd hr⟩
  | _, _, _, .dct h ha, r => by
    cases r
    obtain ⟨_, _, vs, kv, o, es, ep, ho, ex, hd, _, pr, _⟩ := I.hok _ _ (l _ _ h)
    obtain ⟨e1, e2⟩ := DtKv.map ha
    obtain ⟨k1, k2⟩ := kv_keys kv
    obtain ⟨bs, hr⟩ := DtKv.readsV I l ha k2
    refine ⟨_, Reads.dict ho ex.1 hd (as := []) (bs := bs) ?_ ?_⟩
    · rw [e1, ← k1]
      exact reads_keys pr
    · rw [pairs_vals pr]
      exact hr
theorem DtAll.reads (I : Inv X pins σ H s) (l : Le F H) : ∀ {vs : List V} {ds : List D} {us : List Value}, DtAll X.K F vs ds → Vals vs us → ∃ as, ReadsAll s.heap us ds as
  | _, _, _, .nil, .nil => ⟨_, ReadsAll.nil⟩
  | _, _, _, .cons h r, .cons q qs => by
    obtain ⟨as, e1⟩ := Dt.reads I l h q
    obtain ⟨bs, e2⟩ := DtAll.reads I l r qs
    exact ⟨_, ReadsAll.cons e1 e2⟩
theorem DtKv.readsV (I : Inv X pins σ H s) (l : Le F H) : ∀ {kvs : List (Key × V)} {es : List (D × D)} {us : List Value}, DtKv X.K F kvs es → Vals (kvs.map (·.2)) us → ∃ as, ReadsAll s.heap us (es.map (·.2)) as
  | _, _, _, .nil, .nil => ⟨_, ReadsAll.nil⟩
  | _, _, _, .cons h r, .cons q qs => by
    obtain ⟨as, e1⟩ := Dt.reads I l h q
    obtain ⟨bs, e2⟩ := DtKv.readsV I l r qs
    exact ⟨_, ReadsAll.cons e1 e2⟩
end
end
end VL

/-! VlB: the slots of a def by value: frozen data, or a list or dict of its own; what the heap must be for them. -/
namespace VL
open PySem PySem.Spec PyProof.Rows L2

/-- an exception of an own class by value: its class's name, its fields -/
structure Ex where
  cls : Str
  fs : List (Str × D)

/-- what a slot holds: frozen data; an own list, an own dict (nobody else holds it); a def of the module by its name -/
inductive M where
  | fz (d : D)
  | lst (ds : List D)
  | dct (es : List (D × D))
  | gl (x : Str)
def isOwn : M → Bool
  | .lst _ => true
  | .dct _ => true
  | _ => false
def toD : M → Option D
  | .fz d => some d
  | .lst ds => some (.list ds)
  | .dct es => some (.dict es)
  | .gl _ => none
/-- an expression's result: a value, or the own thing that stands in a slot -/
inductive R where
  | val (m : M)
  | slot (i : Nat)
abbrev Slots := List (Option M)
/-- the slots; which of them are borrowed from the caller (never stored to) -/
structure Env where
  sl : Slots
  bor : List Nat
/-- the data that a result shows now -/
def pk (env : Env) : R → Option D
  | .val m => toD m
  | .slot i => match env.sl[i]? with
    | some (some m) => toD m
    | _ => none

inductive DtKt (K : Fg) (F : Hp) : List (List Key × V) → List (D × D) → Prop
  | nil : DtKt K F [] []
  | cons {k : List Key} {v : V} {kvs : List (List Key × V)} {d : D} {es : List (D × D)} : Dt K F v d → DtKt K F kvs es → DtKt K F ((k, v) :: kvs) ((.tuple (k.map kD), d) :: es)
theorem DtKt.le {K : Fg} {F F' : Hp} (l : Le F F') : ∀ {kvs : List (List Key × V)} {es : List (D × D)}, DtKt K F kvs es → DtKt K F' kvs es
  | _, _, .nil => .nil
  | _, _, .cons h r => .cons (h.le l) (DtKt.le l r)
def DctAt (K : Fg) (F H : Hp) (a : Addr) (es : List (D × D)) : Prop :=
  (∃ kvs, H a = some (.dK kvs) ∧ DtKv K F kvs es) ∨ ∃ kvs, H a = some (.dT kvs) ∧ DtKt K F kvs es
theorem DctAt.le {K : Fg} {F F' H H' : Hp} {a : Addr} {es : List (D × D)} (h : DctAt K F H a es) (l : Le F F') (e : H' a = H a) : DctAt K F' H' a es := by
  rcases h with ⟨kvs, h1, h2⟩ | ⟨kvs, h1, h2⟩
  · exact .inl ⟨kvs, by rw [e]; exact h1, h2.le l⟩
  · exact .inr ⟨kvs, by rw [e]; exact h1, h2.le l⟩
theorem DctAt.some {K : Fg} {F H : Hp} {a : Addr} {es : List (D × D)} (h : DctAt K F H a es) : ∃ o, H a = some o ∧ Mut (some o) := by
  rcases h with ⟨kvs, h1, _⟩ | ⟨kvs, h1, _⟩
  · exact ⟨_, h1, trivial⟩
  · exact ⟨_, h1, trivial⟩

/-- v is what the value m says -/
def RM (K : Fg) (mg : Mg) (F H : Hp) (m : M) (v : V) : Prop :=
  match m with
  | .fz d => Dt K F v d
  | .lst ds => ∃ a vs, v = .ref a ∧ H a = some (.lst vs) ∧ F a = none ∧ DtAll K F vs ds
  | .dct es => ∃ a, v = .ref a ∧ F a = none ∧ DctAt K F H a es
  | .gl x => ∃ f, v = .ref f ∧ mg x = some (.ref f)
theorem RM.own {K : Fg} {mg : Mg} {F H : Hp} {m : M} {v : V} (h : RM K mg F H m v) (o : isOwn m = true) : ∃ a u, v = .ref a ∧ F a = none ∧ H a = some u ∧ Mut (some u) := by
  cases m with
  | fz d => cases o
  | gl x => cases o
  | lst ds => obtain ⟨a, vs, e, e1, e2, _⟩ := h; exact ⟨a, _, e, e2, e1, trivial⟩
  | dct es => obtain ⟨a, e, e2, d⟩ := h; obtain ⟨u, e1, mu⟩ := d.some; exact ⟨a, u, e, e2, e1, mu⟩
theorem RM.le {K : Fg} {mg : Mg} {F F' H H' : Hp} {m : M} {v : V} (h : RM K mg F H m v) (l : Le F F') (k : isOwn m = true → ∀ a, v = .ref a → H' a = H a ∧ F' a = none) : RM K mg F' H' m v := by
  cases m with
  | fz d => exact Dt.le l h
  | gl x => exact h
  | lst ds =>
    obtain ⟨a, vs, e, e1, e2, r⟩ := h
    obtain ⟨k1, k2⟩ := k rfl a e
    exact ⟨a, vs, e, by rw [k1]; exact e1, k2, r.le l⟩
  | dct es =>
    obtain ⟨a, e, e2, d⟩ := h
    obtain ⟨k1, k2⟩ := k rfl a e
    exact ⟨a, e, k2, d.le l k1⟩

/-- slot i holds an own thing, at a -/
def OwnAt (σ : L2.St) (sl : Slots) (i : Nat) (a : Addr) : Prop := ∃ m, sl[i]? = some (some m) ∧ isOwn m = true ∧ σ[i]? = some (some (.ref a))
/-- at the entry: the frozen part, the heap, what may be changed, the borrowed slots with their addresses -/
structure Gh where
  F0 : Hp
  H0 : Hp
  own0 : Addr → Prop
  bor : List (Nat × Addr)
structure EnvOk (K : Fg) (mg : Mg) (G : Gh) (F H : Hp) (σ : L2.St) (env : Env) : Prop where
  sub : Le F H
  slot : ∀ (i : Nat) (m : M), env.sl[i]? = some (some m) → ∃ v : V, σ[i]? = some (some v) ∧ RM K mg F H m v
  apart : ∀ (i j : Nat) (a : Addr), OwnAt σ env.sl i a → OwnAt σ env.sl j a → i = j
  frz : Le G.F0 F
  frame : ∀ a o, G.H0 a = some o → ¬ G.own0 a → H a = some o
  dom : ∀ a, H a = none → G.H0 a = none
  newF : ∀ a o, F a = some o → G.F0 a = some o ∨ G.H0 a = none ∨ G.own0 a
  newO : ∀ (i : Nat) (a : Addr), OwnAt σ env.sl i a → G.own0 a ∨ G.H0 a = none
  bor : env.bor = G.bor.map (·.1)
  borA : ∀ p ∈ G.bor, σ[p.1]? = some (some (.ref p.2))
  sep : ∀ p ∈ G.bor, ∀ i : Nat, OwnAt σ env.sl i p.2 → i = p.1
  borH : ∀ p ∈ G.bor, G.H0 p.2 ≠ none
  len : env.sl.length = σ.length
section
variable {K : Fg} {mg : Mg} {G : Gh} {F H F' H' : Hp} {σ : L2.St} {env : Env} {i : Nat} {a : Addr} {m : M} {v : V}
theorem OwnAt.some (ok : EnvOk K mg G F H σ env) (o : OwnAt σ env.sl i a) : F a = none ∧ ∃ u, H a = some u ∧ Mut (some u) := by
  obtain ⟨m, e1, e2, e3⟩ := o
  obtain ⟨v, e4, r⟩ := ok.slot i m e1
  rw [e3] at e4
  cases e4
  obtain ⟨b, u, e5, e6, e7, mu⟩ := r.own e2
  cases e5
  exact ⟨e6, u, e7, mu⟩
/-- a new object at p: frozen at once, or not -/
theorem EnvOk.newFz (ok : EnvOk K mg G F H σ env) {p : Addr} {o : HO} (hp : H p = none) : EnvOk K mg G (upd F p o) (upd H p o) σ env := by
  have hF : F p = none := by
    cases e : F p with
    | none => rfl
    | some u => rw [ok.sub _ _ e] at hp; cases hp
  have l : Le F (upd F p o) := Le.upd hF
  have nown : ∀ {i a}, OwnAt σ env.sl i a → a ≠ p := fun z e => by
    obtain ⟨_, u, hu, _⟩ := z.some ok
    rw [e, hp] at hu; cases hu
  refine ⟨fun a u e => ?_, fun i m e => ?_, ok.apart, ok.frz.trans l, fun a u e n => ?_, fun a e => ok.dom a ?_, fun a u e => ?_, ok.newO, ok.bor, ok.borA, ok.sep, ok.borH, ok.len⟩
  · by_cases ha : a = p
    · subst ha; rw [upd_same] at e ⊢; exact e
    · rw [upd_ne ha] at e ⊢; exact ok.sub _ _ e
  · obtain ⟨v, e1, r⟩ := ok.slot i m e
    refine ⟨v, e1, r.le l fun o a ea => ?_⟩
    have z : a ≠ p := nown (i := i) ⟨m, e, o, by rw [e1, ea]⟩
    obtain ⟨b, u, e5, e6, e7, mu⟩ := r.own o
    rw [ea] at e5; cases e5
    exact ⟨upd_ne z, by rw [upd_ne z]; exact e6⟩
  · have := ok.frame a u e n
    rw [upd_ne (ne_of_none this hp)]; exact this
  · by_cases ha : a = p
    · subst ha; exact hp
    · rw [upd_ne ha] at e; exact e
  · by_cases ha : a = p
    · subst ha
      exact .inr (.inl (ok.dom _ hp))
    · rw [upd_ne ha] at e; exact ok.newF _ _ e
theorem EnvOk.newH (ok : EnvOk K mg G F H σ env) {p : Addr} {o : HO} (hp : H p = none) : EnvOk K mg G F (upd H p o) σ env := by
  have nown : ∀ {i a}, OwnAt σ env.sl i a → a ≠ p := fun z e => by
    obtain ⟨_, u, hu, _⟩ := z.some ok
    rw [e, hp] at hu; cases hu
  refine ⟨fun a u e => ?_, fun i m e => ?_, ok.apart, ok.frz, fun a u e n => ?_, fun a e => ok.dom a ?_, ok.newF, ok.newO, ok.bor, ok.borA, ok.sep, ok.borH, ok.len⟩
  · have := ok.sub _ _ e
    rw [upd_ne (ne_of_none this hp)]; exact this
  · obtain ⟨v, e1, r⟩ := ok.slot i m e
    refine ⟨v, e1, r.le (Le.refl _) fun o a ea => ?_⟩
    have z : a ≠ p := nown (i := i) ⟨m, e, o, by rw [e1, ea]⟩
    obtain ⟨b, u, e5, e6, e7, mu⟩ := r.own o
    rw [ea] at e5; cases e5
    exact ⟨upd_ne z, e6⟩
  · have := ok.frame a u e n
    rw [upd_ne (ne_of_none this hp)]; exact this
  · by_cases ha : a = p
    · subst ha; exact hp
    · rw [upd_ne ha] at e; exact e

/-! ### a slot is stored to, frozen, changed -/
theorem OwnAt.set_other {i j : Nat} {m' : Option M} {v' : Option V} (hij : j ≠ i) : OwnAt (σ.set i v') (env.sl.set i m') j a ↔ OwnAt σ env.sl j a := by
  unfold OwnAt
  rw [List.getElem?_set_ne (Ne.symm hij), List.getElem?_set_ne (Ne.symm hij)]
theorem OwnAt.set_sl {i j : Nat} {m' : Option M} (hij : j ≠ i) : OwnAt σ (env.sl.set i m') j a ↔ OwnAt σ env.sl j a := by
  unfold OwnAt
  rw [List.getElem?_set_ne (Ne.symm hij)]
/-- the slots that hold something own keep it, the frozen part grows -/
theorem EnvOk.slots (ok : EnvOk K mg G F H σ env) (l : Le F F') (hk : ∀ j b, OwnAt σ env.sl j b → j ≠ i → H' b = H b ∧ F' b = none) {j : Nat} {m : M} (hj : j ≠ i) (e : env.sl[j]? = some (some m)) : ∃ v : V, σ[j]? = some (some v) ∧ RM K mg F' H' m v := by
  obtain ⟨v, e1, r⟩ := ok.slot j m e
  exact ⟨v, e1, r.le l fun o a ea => hk j a ⟨m, e, o, by rw [e1, ea]⟩ hj⟩
/-- a list or dict of slot i is frozen -/
theorem EnvOk.freeze (ok : EnvOk K mg G F H σ env) (o : OwnAt σ env.sl i a) {u : HO} (hu : H a = some u) {d : D} (hd : ∀ v, σ[i]? = some (some v) → Dt K (upd F a u) v d) :
    EnvOk K mg G (upd F a u) H σ { env with sl := env.sl.set i (some (.fz d)) } := by
  obtain ⟨hF, _⟩ := o.some ok
  have l : Le F (upd F a u) := Le.upd hF
  obtain ⟨m0, e0, o0, s0⟩ := id o
  have hi : i < env.sl.length := (List.getElem?_eq_some_iff.mp e0).1
  have back : ∀ {j b}, OwnAt σ (env.sl.set i (some (.fz d))) j b → OwnAt σ env.sl j b ∧ j ≠ i := fun {j b} z => by
    have hj : j ≠ i := fun e => by
      subst e
      obtain ⟨m, e1, e2, _⟩ := z
      rw [List.getElem?_set_self hi] at e1
      cases e1; cases e2
    exact ⟨(OwnAt.set_sl hj).mp z, hj⟩
  refine ⟨fun b w e => ?_, fun j m e => ?_, fun j k b z1 z2 => ok.apart j k b (back z1).1 (back z2).1, ok.frz.trans l, ok.frame, ok.dom, fun b w e => ?_, fun j b z => ok.newO j b (back z).1, ok.bor, ok.borA, fun p hp j z => ok.sep p hp j (back z).1, ok.borH, by rw [List.length_set]; exact ok.len⟩
  · by_cases hb : b = a
    · subst hb; rw [upd_same] at e; rw [← e]; exact hu
    · rw [upd_ne hb] at e; exact ok.sub _ _ e
  · by_cases hj : j = i
    · subst hj
      have e : (env.sl.set j (some (.fz d)))[j]? = some (some m) := e
      rw [List.getElem?_set_self hi] at e
      cases e
      exact ⟨_, s0, hd _ s0⟩
    · have e : (env.sl.set i (some (.fz d)))[j]? = some (some m) := e
      rw [List.getElem?_set_ne (Ne.symm hj)] at e
      refine ok.slots (i := i) l (fun k b z hk => ⟨rfl, ?_⟩) hj e
      have hb : b ≠ a := fun e => hk (ok.apart k i a (e ▸ z) o)
      rw [upd_ne hb]
      exact (z.some ok).1
  · by_cases hb : b = a
    · subst hb; exact (ok.newO i b o).elim (fun z => .inr (.inr z)) fun z => .inr (.inl z)
    · rw [upd_ne hb] at e; exact ok.newF _ _ e
/-- a new thing that nobody holds is frozen -/
theorem EnvOk.freezeT (ok : EnvOk K mg G F H σ env) {u : HO} (hu : H a = some u) (hF : F a = none) (hn : ∀ i, ¬ OwnAt σ env.sl i a) (hG : G.H0 a = none ∨ G.own0 a) : EnvOk K mg G (upd F a u) H σ env := by
  have l : Le F (upd F a u) := Le.upd hF
  refine ⟨fun b w e => ?_, fun j m e => ?_, ok.apart, ok.frz.trans l, ok.frame, ok.dom, fun b w e => ?_, ok.newO, ok.bor, ok.borA, ok.sep, ok.borH, ok.len⟩
  · by_cases hb : b = a
    · subst hb; rw [upd_same] at e; rw [← e]; exact hu
    · rw [upd_ne hb] at e; exact ok.sub _ _ e
  · obtain ⟨v, e1, r⟩ := ok.slot j m e
    refine ⟨v, e1, r.le l fun o b eb => ⟨rfl, ?_⟩⟩
    have z : OwnAt σ env.sl j b := ⟨m, e, o, by rw [e1, eb]⟩
    have hb : b ≠ a := fun e => hn j (e ▸ z)
    rw [upd_ne hb]
    exact (z.some ok).1
  · by_cases hb : b = a
    · subst hb; exact .inr hG
    · rw [upd_ne hb] at e; exact ok.newF _ _ e
/-- what is own in slot i is changed -/
theorem EnvOk.mut (ok : EnvOk K mg G F H σ env) (o : OwnAt σ env.sl i a) {u : HO} {m : M} (om : isOwn m = true) (hm : RM K mg F (upd H a u) m (.ref a)) :
    EnvOk K mg G F (upd H a u) σ { env with sl := env.sl.set i (some m) } := by
  obtain ⟨hF, u0, hu0, _⟩ := o.some ok
  obtain ⟨m0, e0, o0, s0⟩ := id o
  have hi : i < env.sl.length := (List.getElem?_eq_some_iff.mp e0).1
  have back : ∀ {j b}, OwnAt σ (env.sl.set i (some m)) j b → OwnAt σ env.sl j b := fun {j b} z => by
    by_cases hj : j = i
    · subst hj
      obtain ⟨_, _, _, e3⟩ := z
      exact ⟨m0, e0, o0, e3⟩
    · exact (OwnAt.set_sl hj).mp z
  refine ⟨fun b w e => ?_, fun j m1 e => ?_, fun j k b z1 z2 => ok.apart j k b (back z1) (back z2), ok.frz, fun b w e n => ?_, fun b e => ok.dom b ?_, ok.newF, fun j b z => ok.newO j b (back z), ok.bor, ok.borA, fun p hp j z => ok.sep p hp j (back z), ok.borH, by rw [List.length_set]; exact ok.len⟩
  · have hb : b ≠ a := fun z => by rw [z, hF] at e; cases e
    rw [upd_ne hb]; exact ok.sub _ _ e
  · by_cases hj : j = i
    · subst hj
      have e : (env.sl.set j (some m))[j]? = some (some m1) := e
      rw [List.getElem?_set_self hi] at e
      cases e
      exact ⟨_, s0, hm⟩
    · have e : (env.sl.set i (some m))[j]? = some (some m1) := e
      rw [List.getElem?_set_ne (Ne.symm hj)] at e
      refine ok.slots (i := i) (Le.refl _) (fun k b z hk => ⟨?_, (z.some ok).1⟩) hj e
      have hb : b ≠ a := fun e => hk (ok.apart k i a (e ▸ z) o)
      exact upd_ne hb
  · have hb : b ≠ a := fun z => by
      subst z
      rcases ok.newO i b o with q | q
      · exact n q
      · rw [q] at e; cases e
    rw [upd_ne hb]; exact ok.frame _ _ e n
  · by_cases hb : b = a
    · subst hb; rw [upd_same] at e; cases e
    · rw [upd_ne hb] at e; exact e
/-- a value that is no slot's own -/
structure Free (K : Fg) (mg : Mg) (G : Gh) (F H : Hp) (σ : L2.St) (env : Env) (m : M) (v : V) : Prop where
  rm : RM K mg F H m v
  new : isOwn m = true → ∀ a, v = .ref a → G.H0 a = none ∧ ∀ i, ¬ OwnAt σ env.sl i a
/-- slot i, not borrowed, gets a value -/
theorem EnvOk.store (ok : EnvOk K mg G F H σ env) (hi : i < env.sl.length) (hb : i ∉ env.bor) (f : Free K mg G F H σ env m v) :
    EnvOk K mg G F H (σ.set i (some v)) { env with sl := env.sl.set i (some m) } := by
  have hiσ : i < σ.length := by rw [← ok.len]; exact hi
  have here : ∀ {b}, OwnAt (σ.set i (some v)) (env.sl.set i (some m)) i b → isOwn m = true ∧ v = .ref b := fun {b} z => by
    obtain ⟨m1, e1, e2, e3⟩ := z
    rw [List.getElem?_set_self hi] at e1
    rw [List.getElem?_set_self hiσ] at e3
    cases e1; cases e3
    exact ⟨e2, rfl⟩
  have back : ∀ {j b}, j ≠ i → OwnAt (σ.set i (some v)) (env.sl.set i (some m)) j b → OwnAt σ env.sl j b := fun {j b} hj z => (OwnAt.set_other hj).mp z
  have clash : ∀ {j b}, j ≠ i → OwnAt (σ.set i (some v)) (env.sl.set i (some m)) j b → OwnAt (σ.set i (some v)) (env.sl.set i (some m)) i b → False := fun {j b} hj z1 z2 => by
    obtain ⟨h1, h2⟩ := here z2
    exact (f.new h1 b h2).2 j (back hj z1)
  refine ⟨ok.sub, fun j m1 e => ?_, fun j k b z1 z2 => ?_, ok.frz, ok.frame, ok.dom, ok.newF, fun j b z => ?_, ok.bor, fun p hp => ?_, fun p hp j z => ?_, ok.borH, by rw [List.length_set, List.length_set]; exact ok.len⟩
  · by_cases hj : j = i
    · subst hj
      have e : (env.sl.set j (some m))[j]? = some (some m1) := e
      rw [List.getElem?_set_self hi] at e
      cases e
      exact ⟨v, List.getElem?_set_self hiσ, f.rm⟩
    · have e : (env.sl.set i (some m))[j]? = some (some m1) := e
      rw [List.getElem?_set_ne (Ne.symm hj)] at e
      obtain ⟨w, e1, r⟩ := ok.slot j m1 e
      exact ⟨w, by rw [List.getElem?_set_ne (Ne.symm hj)]; exact e1, r⟩
  · by_cases hj : j = i
    · by_cases hk : k = i
      · rw [hj, hk]
      · exact (clash hk z2 (hj ▸ z1)).elim
    · by_cases hk : k = i
      · exact (clash hj z1 (hk ▸ z2)).elim
      · exact ok.apart j k b (back hj z1) (back hk z2)
  · by_cases hj : j = i
    · subst hj
      obtain ⟨h1, h2⟩ := here z
      exact .inr (f.new h1 b h2).1
    · exact ok.newO j b (back hj z)
  · have hne : p.1 ≠ i := fun e => hb (by rw [ok.bor]; exact List.mem_map.mpr ⟨p, hp, e⟩)
    rw [List.getElem?_set_ne (Ne.symm hne)]
    exact ok.borA p hp
  · by_cases hj : j = i
    · subst hj
      obtain ⟨h1, h2⟩ := here z
      exact absurd (f.new h1 p.2 h2).1 (ok.borH p hp)
    · exact ok.sep p hp j (back hj z)
end
end VL

/-! VlC: what a piece of code means by value (FE, FT, FA, FS) and that the machine does it (VE, VT, VA, VS). -/
namespace VL
open PySem PySem.Spec PyProof.Rows L2

abbrev KX := Ex → Env → Prop
abbrev FE := Env → (R → Env → Prop) → KX → Prop
abbrev FT := Env → (Bool → Env → Prop) → KX → Prop
/-- an argument: data, a def, the thing in a slot -/
inductive Ar where
  | d (d : D)
  | g (x : Str)
  | s (i : Nat)
abbrev FA := Env → (List Ar → Env → Prop) → KX → Prop
structure EndV where
  nx : Env → Prop
  rt : M → Env → Prop
  bk : Env → Prop := fun _ => False
  ct : Env → Prop := fun _ => False
abbrev FS := Env → EndV → KX → Prop
abbrev FSs := Env → EndV → KX → Prop

def bindP {α : Type} (o : Option α) (k : α → Prop) : Prop :=
  match o with
  | some a => k a
  | none => False
@[simp] theorem bindP_some {α : Type} (a : α) (k : α → Prop) : bindP (some a) k = k a := rfl
@[simp] theorem bindP_none {α : Type} (k : α → Prop) : bindP none k = False := rfl
theorem bindP_of {α : Type} {o : Option α} {k : α → Prop} (h : bindP o k) : ∃ a, o = some a ∧ k a := by
  cases o with
  | none => exact h.elim
  | some a => exact ⟨a, rfl, h⟩

/-- an argument looked at: what is new is frozen, what stands in a slot stays -/
def pkR : R → Option Ar
  | .val (.fz d) => some (.d d)
  | .val (.lst ds) => some (.d (.list ds))
  | .val (.gl x) => some (.g x)
  | .val (.dct _) => none
  | .slot i => some (.s i)
/-- an argument handed on: what stands in a slot is frozen -/
def lkR (env : Env) : R → Option (Ar × Env)
  | .val (.fz d) => some (.d d, env)
  | .val (.lst ds) => some (.d (.list ds), env)
  | .val (.gl x) => some (.g x, env)
  | .val (.dct _) => none
  | .slot i => match env.sl[i]? with
    | some (some (.lst ds)) => some (.d (.list ds), { env with sl := env.sl.set i (some (.fz (.list ds))) })
    | _ => none
def pkA (env : Env) : Ar → Option D
  | .d d => some d
  | .g _ => none
  | .s i => match env.sl[i]? with
    | some (some m) => toD m
    | _ => none
def dOf : Ar → Option D
  | .d d => some d
  | _ => none
def pkAs (env : Env) : List Ar → Option (List D)
  | [] => some []
  | a :: as => match pkA env a with
    | some d => match pkAs env as with
      | some ds => some (d :: ds)
      | none => none
    | none => none
def dOfs : List Ar → Option (List D)
  | [] => some []
  | a :: as => match dOf a with
    | some d => match dOfs as with
      | some ds => some (d :: ds)
      | none => none
    | none => none

/-! ### how these lie in the machine -/
def ExOk (K : Fg) (mg : Mg) (F H : Hp) (ex : Ex) (cls : Value) (d : Option Addr) : Prop :=
  ∃ C, cls = Value.ref C ∧ mg ex.cls = some (.ref C) ∧
    ((d = none ∧ ex.fs = []) ∨ ∃ dx fs, d = some dx ∧ H dx = some (.xd fs) ∧ fs.map (·.1) = ex.fs.map (·.1) ∧ DtAll K F (fs.map (·.2)) (ex.fs.map (·.2)))
def liftW (K : Fg) (mg : Mg) (G : Gh) (W : KX) : WX := fun cls d σ H => ∃ ex F env, EnvOk K mg G F H σ env ∧ ExOk K mg F H ex cls d ∧ W ex env
def RR (K : Fg) (mg : Mg) (G : Gh) (F H : Hp) (σ : L2.St) (env : Env) : R → V → Prop
  | .val m, v => Free K mg G F H σ env m v
  | .slot i, v => ∃ a, v = .ref a ∧ OwnAt σ env.sl i a
def ArOk (K : Fg) (mg : Mg) (F : Hp) (σ : L2.St) : Ar → V → Prop
  | .d d, v => Dt K F v d
  | .g x, v => ∃ f, v = .ref f ∧ mg x = some (.ref f)
  | .s i, v => σ[i]? = some (some v)
inductive ArAll (K : Fg) (mg : Mg) (F : Hp) (σ : L2.St) : List Ar → List V → Prop
  | nil : ArAll K mg F σ [] []
  | cons {a : Ar} {as : List Ar} {v : V} {vs : List V} : ArOk K mg F σ a v → ArAll K mg F σ as vs → ArAll K mg F σ (a :: as) (v :: vs)
/-- looked at now -/
inductive Pk (K : Fg) (F H : Hp) : V → D → Prop
  | fz {v : V} {d : D} : Dt K F v d → Pk K F H v d
  | lst {a : Addr} {vs : List V} {ds : List D} : H a = some (.lst vs) → DtAll K F vs ds → Pk K F H (.ref a) (.list ds)
  | dct {a : Addr} {es : List (D × D)} : DctAt K F H a es → Pk K F H (.ref a) (.dict es)
inductive PkAll (K : Fg) (F H : Hp) : List V → List D → Prop
  | nil : PkAll K F H [] []
  | cons {v : V} {vs : List V} {d : D} {ds : List D} : Pk K F H v d → PkAll K F H vs ds → PkAll K F H (v :: vs) (d :: ds)
section
variable {K : Fg} {mg : Mg} {G : Gh} {F F' H H' : Hp} {σ : L2.St} {env : Env} {i : Nat} {a : Addr} {m : M} {v : V}
theorem ArOk.le {x : Ar} (h : ArOk K mg F σ x v) (l : Le F F') : ArOk K mg F' σ x v := by
  cases x with
  | d d => exact Dt.le l h
  | g x => exact h
  | s i => exact h
theorem ArAll.le {as : List Ar} {vs : List V} (h : ArAll K mg F σ as vs) (l : Le F F') : ArAll K mg F' σ as vs := by
  induction h with
  | nil => exact .nil
  | cons h _ ih => exact .cons (h.le l) ih
theorem ArAll.length {as : List Ar} {vs : List V} (h : ArAll K mg F σ as vs) : as.length = vs.length := by
  induction h with
  | nil => rfl
  | cons h _ ih => rw [List.length_cons, List.length_cons, ih]
theorem ArAll.data : ∀ {as : List Ar} {vs : List V} {ds : List D}, ArAll K mg F σ as vs → dOfs as = some ds → DtAll K F vs ds
  | _, _, ds, .nil, e => by cases e; exact .nil
  | _, _, ds, .cons (a := a) (as := as) h r, e => by
    cases a with
    | g x => cases e
    | s i => cases e
    | d d =>
      have e : (match dOfs as with | some ds => some (d :: ds) | none => none) = some ds := e
      cases q : dOfs as with
      | none => rw [q] at e; cases e
      | some es => rw [q] at e; cases e; exact .cons h (ArAll.data r q)
theorem ArOk.pk (ok : EnvOk K mg G F H σ env) {x : Ar} {d : D} (h : ArOk K mg F σ x v) (e : pkA env x = some d) : Pk K F H v d := by
  cases x with
  | d d' => cases e; exact .fz h
  | g x => cases e
  | s i =>
    have e : (match env.sl[i]? with | some (some m) => toD m | _ => none) = some d := e
    cases q : env.sl[i]? with
    | none => rw [q] at e; cases e
    | some o =>
      cases o with
      | none => rw [q] at e; cases e
      | some m =>
        rw [q] at e
        obtain ⟨w, e1, r⟩ := ok.slot i m q
        have h : σ[i]? = some (some v) := h
        rw [h] at e1
        cases e1
        cases m with
        | fz d' => cases e; exact .fz r
        | gl x => cases e
        | lst ds => cases e; obtain ⟨b, vs, rfl, h1, _, h3⟩ := r; exact .lst h1 h3
        | dct es => cases e; obtain ⟨b, rfl, _, h3⟩ := r; exact .dct h3
theorem ArAll.pk (ok : EnvOk K mg G F H σ env) : ∀ {as : List Ar} {vs : List V} {ds : List D}, ArAll K mg F σ as vs → pkAs env as = some ds → PkAll K F H vs ds
  | _, _, ds, .nil, e => by cases e; exact .nil
  | _, _, ds, .cons (a := a) (as := as) h r, e => by
    have e : (match pkA env a with | some d => (match pkAs env as with | some ds => some (d :: ds) | none => none) | none => none) = some ds := e
    cases q : pkA env a with
    | none => rw [q] at e; cases e
    | some d =>
      rw [q] at e
      cases q2 : pkAs env as with
      | none => rw [q2] at e; cases e
      | some es => rw [q2] at e; cases e; exact .cons (h.pk ok q) (ArAll.pk ok r q2)
/-- looked at: what is new is frozen -/
theorem RR.peek (ok : EnvOk K mg G F H σ env) {r : R} {x : Ar} (h : RR K mg G F H σ env r v) (e : pkR r = some x) : ∃ F1, EnvOk K mg G F1 H σ env ∧ Le F F1 ∧ ArOk K mg F1 σ x v := by
  cases r with
  | slot i =>
    cases e
    obtain ⟨a, rfl, _, _, _, h3⟩ := h
    exact ⟨F, ok, Le.refl _, h3⟩
  | val m =>
    obtain ⟨rm, nw⟩ := h
    cases m with
    | fz d => cases e; exact ⟨F, ok, Le.refl _, rm⟩
    | gl x => cases e; exact ⟨F, ok, Le.refl _, rm⟩
    | dct es => cases e
    | lst ds =>
      cases e
      obtain ⟨a, vs, rfl, h1, h2, h3⟩ := rm
      obtain ⟨n1, n2⟩ := nw rfl a rfl
      have l : Le F (upd F a (.lst vs)) := Le.upd h2
      exact ⟨_, ok.freezeT h1 h2 n2 (.inl n1), l, .lst (.inl (.inl upd_same)) (h3.le l)⟩
/-- handed on: what stands in a slot is frozen, too -/
theorem RR.leak (ok : EnvOk K mg G F H σ env) {r : R} {x : Ar} {env' : Env} (h : RR K mg G F H σ env r v) (e : lkR env r = some (x, env')) : ∃ F1, EnvOk K mg G F1 H σ env' ∧ Le F F1 ∧ ArOk K mg F1 σ x v := by
  cases r with
  | slot i =>
    obtain ⟨a, rfl, o⟩ := h
    obtain ⟨m, e1, e2, e3⟩ := id o
    dsimp only [lkR] at e
    rw [e1] at e
    cases m with
    | fz d => cases e2
    | gl x => cases e2
    | dct es => cases e
    | lst ds =>
      cases e
      obtain ⟨w, e4, b, vs, rfl, h1, h2, h3⟩ := ok.slot i _ e1
      rw [e3] at e4
      cases e4
      have l : Le F (upd F a (.lst vs)) := Le.upd h2
      have q : Dt K (upd F a (.lst vs)) (.ref a) (.list ds) := .lst (.inl (.inl upd_same)) (h3.le l)
      refine ⟨_, ok.freeze o h1 (d := .list ds) fun v hv => ?_, l, q⟩
      rw [e3] at hv
      cases hv
      exact q
  | val m =>
    obtain ⟨rm, nw⟩ := h
    cases m with
    | fz d => cases e; exact ⟨F, ok, Le.refl _, rm⟩
    | gl x => cases e; exact ⟨F, ok, Le.refl _, rm⟩
    | dct es => cases e
    | lst ds =>
      cases e
      obtain ⟨a, vs, rfl, h1, h2, h3⟩ := rm
      obtain ⟨n1, n2⟩ := nw rfl a rfl
      have l : Le F (upd F a (.lst vs)) := Le.upd h2
      exact ⟨_, ok.freezeT h1 h2 n2 (.inl n1), l, .lst (.inl (.inl upd_same)) (h3.le l)⟩
theorem Free.fz (h : Dt K F v d) : Free K mg G F H σ env (.fz d) v := ⟨h, fun z => by cases z⟩
theorem Free.scal {d : D} (h : Dt K F v d) : Free K mg G F H σ env (.fz d) v := ⟨h, fun z => by cases z⟩
end

/-! ### lifted readings -/
def liftE (K : Fg) (mg : Mg) (G : Gh) (W : KX) (f : FE) : TE := fun σ H Qh => ∃ F env Q, EnvOk K mg G F H σ env ∧ f env Q W ∧
  ∀ r env' v F' H', EnvOk K mg G F' H' σ env' → Le F F' → RR K mg G F' H' σ env' r v → Q r env' → Qh v H'
def liftT (K : Fg) (mg : Mg) (G : Gh) (W : KX) (f : FT) : TT := fun σ H Qh => ∃ F env Q, EnvOk K mg G F H σ env ∧ f env Q W ∧
  ∀ b env' F' H', EnvOk K mg G F' H' σ env' → Le F F' → Q b env' → Qh b H'
def liftA (K : Fg) (mg : Mg) (G : Gh) (W : KX) (f : FA) : TA := fun σ H Qh => ∃ F env Q, EnvOk K mg G F H σ env ∧ f env Q W ∧
  ∀ as env' vs F' H', EnvOk K mg G F' H' σ env' → Le F F' → ArAll K mg F' σ as vs → Q as env' → Qh vs H'
def liftS (K : Fg) (mg : Mg) (G : Gh) (W : KX) (g : FS) : TS := fun Dn σ H => ∃ F env E, EnvOk K mg G F H σ env ∧ g env E W ∧
  (∀ σ' F' H' env', EnvOk K mg G F' H' σ' env' → Le F F' → E.nx env' → Dn.nx σ' H') ∧ (∀ σ' F' H' env', EnvOk K mg G F' H' σ' env' → Le F F' → E.bk env' → Dn.bk σ' H') ∧
  (∀ σ' F' H' env', EnvOk K mg G F' H' σ' env' → Le F F' → E.ct env' → Dn.ct σ' H') ∧
  (∀ σ' F' H' env' m v, EnvOk K mg G F' H' σ' env' → Le F F' → Free K mg G F' H' σ' env' m v → E.rt m env' → Dn.rt v H')
def VE (X : Cx) (e : Expr) (f : FE) : Prop := ∀ G W, Takes X (liftW X.K X.mg G W) → PE X e (liftE X.K X.mg G W f)
def VT (X : Cx) (e : Expr) (f : FT) : Prop := ∀ G W, Takes X (liftW X.K X.mg G W) → PT X e (liftT X.K X.mg G W f)
def VW (X : Cx) (e : Expr) (f : FT) : Prop := ∀ G W, Takes X (liftW X.K X.mg G W) → PW X e (liftT X.K X.mg G W f)
def VA (X : Cx) (es : List Expr) (f : FA) : Prop := ∀ G W, Takes X (liftW X.K X.mg G W) → PA X es (liftA X.K X.mg G W f)
/-- the entry is that of a def: only what is borrowed may change -/
def GOk (G : Gh) : Prop := ∀ a, G.own0 a → ∃ p ∈ G.bor, p.2 = a
def VS (X : Cx) (st : Stmt) (g : FS) : Prop := ∀ G W, GOk G → Takes X (liftW X.K X.mg G W) → PS X st (liftS X.K X.mg G W g)
def VSs (X : Cx) (st : List Stmt) (g : FS) : Prop := ∀ G W, GOk G → Takes X (liftW X.K X.mg G W) → PSs X st (liftS X.K X.mg G W g)
theorem PE.imp {X : Cx} {e : Expr} {t t' : TE} (h : PE X e t) (i : ∀ σ H Q, t' σ H Q → t σ H Q) : PE X e t' := ⟨fun pins s σ H Q I q => h.run pins s σ H Q I (i σ H Q q)⟩
theorem PT.imp {X : Cx} {e : Expr} {t t' : TT} (h : PT X e t) (i : ∀ σ H Q, t' σ H Q → t σ H Q) : PT X e t' := ⟨fun pins s σ H Q I q => h.run pins s σ H Q I (i σ H Q q)⟩
theorem PW.imp {X : Cx} {e : Expr} {t t' : TT} (h : PW X e t) (i : ∀ σ H Q, t' σ H Q → t σ H Q) : PW X e t' := ⟨fun wh pins s σ H Q I q => h.run wh pins s σ H Q I (i σ H Q q)⟩
theorem PA.imp {X : Cx} {es : List Expr} {t t' : TA} (h : PA X es t) (i : ∀ σ H Q, t' σ H Q → t σ H Q) : PA X es t' := ⟨fun pos pins s σ H Q I q => h.run pos pins s σ H Q I (i σ H Q q)⟩
theorem PS.imp {X : Cx} {st : Stmt} {t t' : TS} (h : PS X st t) (i : ∀ D σ H, t' D σ H → t D σ H) : PS X st t' := ⟨fun pins s σ H D I q => h.run pins s σ H D I (i D σ H q)⟩
theorem PSs.imp {X : Cx} {st : List Stmt} {t t' : TS} (h : PSs X st t) (i : ∀ D σ H, t' D σ H → t D σ H) : PSs X st t' := ⟨fun pins s σ H D I q => h.run pins s σ H D I (i D σ H q)⟩

/-! ### names, constants -/
def fVar (i : Nat) : FE := fun env Q _ => bindP (env.sl[i]?.join) fun m => if isOwn m = true then Q (.slot i) env else Q (.val m) env
def fC (d : D) : FE := fun env Q _ => Q (.val (.fz d)) env
def fGl (x : Str) : FE := fun env Q _ => Q (.val (.gl x)) env
section
variable {X : Cx}
theorem ve_var {i : Nat} {x : Str} {pos : Pos} (hN : X.N[i]? = some x) (hv : Vis X.env.scope x) (hd : (x == ("__debug__" : Str)) = false := by decide) (hcd : (x == ("__classdict__" : Str)) = false := by decide) : VE X (.Name x pos) (fVar i) := fun G W _ =>
  PE.imp (pe_var hN hv hd hcd) fun σ H Qh h => by
    obtain ⟨F, env, Q, ok, hf, q⟩ := h
    obtain ⟨m, e, hf⟩ := bindP_of hf
    have e : env.sl[i]? = some (some m) := by
      cases z : env.sl[i]? with
      | none => rw [z] at e; cases e
      | some o => rw [z] at e; exact congrArg some e
    obtain ⟨v, e1, r⟩ := ok.slot i m e
    refine ⟨v, e1, ?_⟩
    by_cases o : isOwn m = true
    · rw [if_pos o] at hf
      obtain ⟨a, u, rfl, _⟩ := r.own o
      exact q (.slot i) _ _ F H ok (Le.refl _) ⟨a, rfl, m, e, o, e1⟩ hf
    · rw [if_neg o] at hf
      exact q (.val m) _ _ F H ok (Le.refl _) ⟨r, fun z => absurd z o⟩ hf
theorem ve_c {e : Expr} {v : V} {d : D} (h : PE X e (tC v)) (hd : ∀ F, Dt X.K F v d) : VE X e (fC d) := fun G W _ =>
  PE.imp h fun σ H Qh h => by
    obtain ⟨F, env, Q, ok, hf, q⟩ := h
    exact q (.val (.fz d)) _ _ F H ok (Le.refl _) (Free.scal (hd F)) hf
theorem ve_int {i : Int} {j pos} : VE X (.Constant (.int i) j pos) (fC (.int i)) := ve_c pe_int fun _ => .int i
theorem ve_bl {b : Bool} {j pos} : VE X (.Constant (.bool b) j pos) (fC (.bool b)) := ve_c pe_bl fun _ => .bl b
theorem ve_non {j pos} : VE X (.Constant .none j pos) (fC .none) := ve_c pe_non fun _ => .non
theorem ve_str {x : Str} {j pos} : VE X (.Constant (.str x) j pos) (fC (.str x)) := ve_c pe_str fun _ => .str x
/-- a constant of the module -/
theorem ve_glob {x : Str} {v : V} {u : Value} {d : D} {pos : Pos} (hg : Gl X x) (hm : X.mg x = some u) (r : RelV v u) (hd : ∀ F, Dt X.K F v d) (hb : (x == ("__debug__" : Str)) = false := by decide) : VE X (.Name x pos) (fC d) := ve_c (pe_glob hg hm r hb) hd
/-- a def of the module as a value -/
theorem ve_def {x : Str} {f : Addr} {pos : Pos} (hg : Gl X x) (hm : X.mg x = some (.ref f)) (hb : (x == ("__debug__" : Str)) = false := by decide) : VE X (.Name x pos) (fGl x) := fun G W _ =>
  PE.imp (pe_glob (v := .ref f) hg hm rfl hb) fun σ H Qh h => by
    obtain ⟨F, env, Q, ok, hf, q⟩ := h
    exact q (.val (.gl x)) _ _ F H ok (Le.refl _) ⟨⟨f, rfl, hm⟩, fun z => by cases z⟩ hf
end

/-! ### argument lists -/
def aNil : FA := fun env Q _ => Q [] env
def aP (fe : FE) (fa : FA) : FA := fun env Q W => fe env (fun r env1 => bindP (pkR r) fun x => fa env1 (fun xs env2 => Q (x :: xs) env2) W) W
def aL (fe : FE) (fa : FA) : FA := fun env Q W => fe env (fun r env1 => bindP (lkR env1 r) fun x => fa x.2 (fun xs env2 => Q (x.1 :: xs) env2) W) W
section
variable {X : Cx} {e : Expr} {es : List Expr} {fe : FE} {fa : FA} {pos : Pos}
theorem va_nil : VA X [] aNil := fun G W _ => PA.imp pa_nil fun σ H Qh h => by
  obtain ⟨F, env, Q, ok, hf, q⟩ := h
  exact q _ _ _ F H ok (Le.refl _) .nil hf
theorem va_p (he : VE X e fe) (ha : VA X es fa) (hs : starEach (e :: es) X.env = (false, eval e X.env) :: starEach es X.env := by rfl) : VA X (e :: es) (aP fe fa) := fun G W t =>
  PA.imp (pa_cons (he G W t) (ha G W t) hs) fun σ H Qh h => by
    obtain ⟨F, env, Q, ok, hf, q⟩ := h
    refine ⟨F, env, _, ok, hf, fun r env1 v F1 H1 ok1 l1 rr hq => ?_⟩
    obtain ⟨x, ex, hq⟩ := bindP_of hq
    obtain ⟨F2, ok2, l2, ax⟩ := rr.peek ok1 ex
    refine ⟨F2, env1, _, ok2, hq, fun as env3 vs F3 H3 ok3 l3 aa hq => ?_⟩
    exact q _ _ _ F3 H3 ok3 ((l1.trans l2).trans l3) (.cons (ax.le l3) aa) hq
theorem va_l (he : VE X e fe) (ha : VA X es fa) (hs : starEach (e :: es) X.env = (false, eval e X.env) :: starEach es X.env := by rfl) : VA X (e :: es) (aL fe fa) := fun G W t =>
  PA.imp (pa_cons (he G W t) (ha G W t) hs) fun σ H Qh h => by
    obtain ⟨F, env, Q, ok, hf, q⟩ := h
    refine ⟨F, env, _, ok, hf, fun r env1 v F1 H1 ok1 l1 rr hq => ?_⟩
    obtain ⟨⟨x, env2⟩, ex, hq⟩ := bindP_of hq
    obtain ⟨F2, ok2, l2, ax⟩ := rr.leak ok1 ex
    refine ⟨F2, env2, _, ok2, hq, fun as env3 vs F3 H3 ok3 l3 aa hq => ?_⟩
    exact q _ _ _ F3 H3 ok3 ((l1.trans l2).trans l3) (.cons (ax.le l3) aa) hq
end

/-! ### displays -/
def fTup (fa : FA) : FE := fun env Q W => fa env (fun as env1 => bindP (dOfs as) fun ds => ds.length ≤ 16777216 ∧ Q (.val (.fz (.tuple ds))) env1) W
def fLst (fa : FA) : FE := fun env Q W => fa env (fun as env1 => bindP (dOfs as) fun ds => ds.length ≤ 16777216 ∧ Q (.val (.lst ds)) env1) W
theorem line_of {n : Nat} (h : n ≤ 16777216) : n ≤ sizeLine := by rw [sizeLine_eq]; exact h
section
variable {X : Cx} {e : Expr} {es : List Expr} {fe : FE} {fa : FA} {pos : Pos}
section
variable {K : Fg} {mg : Mg} {G : Gh} {F H : Hp} {σ : L2.St} {env : Env} {p : Addr} {vs : List V} {ds : List D}
/-- a new tuple, frozen at once -/
theorem EnvOk.newTup {us : List Value} (ok : EnvOk K mg G F H σ env) (hp : H p = none) (r : DtAll K F vs ds) : EnvOk K mg G (upd F p (tupH us vs)) (upd H p (tupH us vs)) σ env ∧ Le F (upd F p (tupH us vs)) ∧ Free K mg G (upd F p (tupH us vs)) (upd H p (tupH us vs)) σ env (.fz (.tuple ds)) (.ref p) := by
  have hF : F p = none := by
    cases e : F p with
    | none => rfl
    | some u => rw [ok.sub _ _ e] at hp; cases hp
  exact ⟨ok.newFz hp, Le.upd hF, Free.fz (.tup (.inl ⟨_, upd_same, rfl⟩) (r.le (Le.upd hF)))⟩
/-- a new list, own -/
theorem EnvOk.newLst (ok : EnvOk K mg G F H σ env) (hp : H p = none) (r : DtAll K F vs ds) : EnvOk K mg G F (upd H p (.lst vs)) σ env ∧ Free K mg G F (upd H p (.lst vs)) σ env (.lst ds) (.ref p) := by
  have hF : F p = none := by
    cases e : F p with
    | none => rfl
    | some u => rw [ok.sub _ _ e] at hp; cases hp
  refine ⟨ok.newH hp, ⟨p, vs, rfl, upd_same, hF, r⟩, fun _ a ea => ?_⟩
  cases ea
  refine ⟨ok.dom _ hp, fun i z => ?_⟩
  obtain ⟨_, u, hu, _⟩ := z.some ok
  rw [hp] at hu; cases hu
end
/-- a tuple of written items -/
def tTupP (t : TA) : TE := fun σ H Q => t σ H fun xs H1 => xs.length ≤ sizeLine ∧ ∀ p us, H1 p = none → Q (.ref p) (upd H1 p (tupH us xs))
theorem pe_tupP {x1} {t : TA} (h : PA X es t) : PE X (.Tuple es x1 pos) (tTupP t) := by
  refine ⟨fun pins s σ H Q I hq => ?_⟩
  refine wpAny_Tuple_spliced (thn (h.run pos pins s σ H _ I hq) fun us s1 ⟨xs, H1, I1, r, z, q⟩ => ⟨by rw [← r.length]; exact z, ?_⟩)
  have hf : H1 s1.heap.objs.size = none := I1.hok.fresh (Nat.le_refl _)
  exact ⟨.ref s1.heap.objs.size, upd H1 s1.heap.objs.size (tupH us xs), Inv.laidT I1 (t' := s1.toks) (fun b u e => Heap.get?_push_of_some _ e) (Nat.le_refl _) r z (Heap.get?_push_size _ rfl), rfl, q _ _ hf⟩
theorem ve_tup {x1} (h : VA X es fa) : VE X (.Tuple es x1 pos) (fTup fa) := fun G W t => PE.imp (pe_tupP (h G W t)) fun σ H Qh hw => by
  obtain ⟨F, env, Q, ok, hf, q⟩ := hw
  refine ⟨F, env, _, ok, hf, fun as env1 vs F1 H1 ok1 l1 aa hq => ?_⟩
  obtain ⟨ds, e, hz, hq⟩ := bindP_of hq
  have r := aa.data e
  refine ⟨line_of (by rw [r.length]; exact hz), fun p us hp => ?_⟩
  obtain ⟨ok2, l2, fr⟩ := ok1.newTup hp r
  exact q (.val _) _ _ _ _ ok2 (l1.trans l2) fr hq
theorem ve_lst (h : VA X es fa) : VE X (.List es pos) (fLst fa) := fun G W t => PE.imp (pe_lst (h G W t)) fun σ H Qh hw => by
  obtain ⟨F, env, Q, ok, hf, q⟩ := hw
  refine ⟨F, env, _, ok, hf, fun as env1 vs F1 H1 ok1 l1 aa hq => ?_⟩
  obtain ⟨ds, e, hz, hq⟩ := bindP_of hq
  have r := aa.data e
  refine ⟨line_of (by rw [r.length]; exact hz), fun p hp => ?_⟩
  obtain ⟨ok2, fr⟩ := ok1.newLst hp r
  exact q (.val _) _ _ _ _ ok2 l1 fr hq
end

/-! ### operations on data -/
/-- act, done with values that show the data, gives what g says -/
def OpS (X : Cx) (act : List Value → Sem Value) (g : List D → (M → Prop) → Prop) : Prop :=
  ∀ (G : Gh) (pins : List (Addr × Obj)) (s : Shared) (τ σ : L2.St) (F H : Hp) (env : Env) (vs : List V) (us : List Value) (ds : List D) (Q : M → Prop), Inv X pins τ H s → EnvOk X.K X.mg G F H σ env → PkAll X.K F H vs ds → Vals vs us → g ds Q →
    wpAny (model X.prog X.w) X.A (act us) (fun u s' => ∃ m v F' H', Inv X pins τ H' s' ∧ RelV v u ∧ EnvOk X.K X.mg G F' H' σ env ∧ Le F F' ∧ Free X.K X.mg G F' H' σ env m v ∧ Q m) X.xe s
def fOp (g : List D → (M → Prop) → Prop) (fa : FA) : FE := fun env Q W => fa env (fun as env1 => bindP (pkAs env1 as) fun ds => g ds fun m => Q (.val m) env1) W
/-- the reading of an operation by values -/
def rOp (X : Cx) (σ : L2.St) (g : List D → (M → Prop) → Prop) : List V → Hp → VK → Prop := fun vs H Qh => ∃ (G : Gh) (F : Hp) (env : Env) (ds : List D) (Q : M → Prop), EnvOk X.K X.mg G F H σ env ∧ PkAll X.K F H vs ds ∧ g ds Q ∧
  ∀ m v F' H', EnvOk X.K X.mg G F' H' σ env → Le F F' → Free X.K X.mg G F' H' σ env m v → Q m → Qh v H'
theorem OpS.run {X : Cx} {act : List Value → Sem Value} {g : List D → (M → Prop) → Prop} (h : OpS X act g) {pins : List (Addr × Obj)} {s : Shared} {σ τ : L2.St} {H : Hp} {vs : List V} {us : List Value} {Qh : VK}
    (I : Inv X pins τ H s) (r : Vals vs us) (q : rOp X σ g vs H Qh) : wpAny (model X.prog X.w) X.A (act us) (EP X pins τ Qh) X.xe s := by
  obtain ⟨G, F, env, ds, Q, ok, pk, hg, k⟩ := q
  refine thn (h G pins s τ σ F H env vs us ds Q I ok pk r hg) fun u s' ⟨m, v, F', H', I', rv, ok', l, fr, hq⟩ => ⟨v, H', I', rv, k m v F' H' ok' l fr hq⟩
/-- from the lifted argument list to an operation -/
theorem lift_op {X : Cx} {G : Gh} {W : KX} {fa : FA} {g : List D → (M → Prop) → Prop} {σ : L2.St} {H : Hp} {Qh : VK} (hw : liftE X.K X.mg G W (fOp g fa) σ H Qh) : liftA X.K X.mg G W fa σ H fun vs H1 => rOp X σ g vs H1 Qh := by
  obtain ⟨F, env, Q, ok, hf, q⟩ := hw
  refine ⟨F, env, _, ok, hf, fun as env1 vs F1 H1 ok1 l1 aa hq => ?_⟩
  obtain ⟨ds, e, hq⟩ := bindP_of hq
  exact ⟨G, F1, env1, ds, _, ok1, aa.pk ok1 e, hq, fun m v F' H' ok' l fr hq => q (.val m) _ v F' H' ok' (l1.trans l) fr hq⟩
end VL

/-! VlD: the forms of expressions and tests. -/
namespace VL
open PySem PySem.Spec PyProof.Rows L2

abbrev act1 (f : Value → Sem Value) : List Value → Sem Value := fun us => match us with
  | [u] => f u
  | _ => pure .none
abbrev act2 (f : Value → Value → Sem Value) : List Value → Sem Value := fun us => match us with
  | [u, v] => f u v
  | _ => pure .none
section
variable {X : Cx} {G : Gh} {W : KX} {fa fb : FE} {g : List D → (M → Prop) → Prop} {σ : L2.St} {H : Hp} {Qh : VK}
theorem OpS.opR {f : Value → Value → Sem Value} (h : OpS X (act2 f) g) (σ : L2.St) : OpR X f (fun x y H Q => rOp X σ g [x, y] H Q) := fun pins s τ H x y v u Q I rx ry q =>
  h.run I (.cons rx (.cons ry .nil)) q
theorem OpS.unR {f : Value → Sem Value} (h : OpS X (act1 f) g) (σ : L2.St) : UnR X f (fun x H Q => rOp X σ g [x] H Q) := fun pins s τ H x v Q I rx q =>
  h.run I (.cons rx .nil) q
theorem OpS.callR {f : Value} (h : OpS X (fun us => call f us) g) (σ : L2.St) : CallR X f (fun xs H Q => rOp X σ g xs H Q) := fun pins s τ H xs us Q I r q =>
  h.run I r q
/-- one operand, two operands, from the lifted operation -/
theorem lift_1 (hw : liftE X.K X.mg G W (fOp g (aP fa aNil)) σ H Qh) : liftE X.K X.mg G W fa σ H fun x H1 => rOp X σ g [x] H1 Qh := by
  obtain ⟨F, env, Q, ok, hf, q⟩ := hw
  refine ⟨F, env, _, ok, hf, fun r env1 v F1 H1 ok1 l1 rr hq => ?_⟩
  obtain ⟨x, ex, hq⟩ := bindP_of hq
  obtain ⟨F2, ok2, l2, ax⟩ := rr.peek ok1 ex
  obtain ⟨ds, e, hq⟩ := bindP_of hq
  exact ⟨G, F2, env1, ds, _, ok2, (ArAll.cons ax .nil).pk ok2 e, hq, fun m v F' H' ok' l fr hq => q (.val m) _ v F' H' ok' ((l1.trans l2).trans l) fr hq⟩
theorem lift_2 (hw : liftE X.K X.mg G W (fOp g (aP fa (aP fb aNil))) σ H Qh) : liftE X.K X.mg G W fa σ H fun x H1 => liftE X.K X.mg G W fb σ H1 fun y H2 => rOp X σ g [x, y] H2 Qh := by
  obtain ⟨F, env, Q, ok, hf, q⟩ := hw
  refine ⟨F, env, _, ok, hf, fun r env1 v F1 H1 ok1 l1 rr hq => ?_⟩
  obtain ⟨x, ex, hq⟩ := bindP_of hq
  obtain ⟨F2, ok2, l2, ax⟩ := rr.peek ok1 ex
  refine ⟨F2, env1, _, ok2, hq, fun r env2 v2 F3 H2 ok3 l3 rr2 hq => ?_⟩
  obtain ⟨y, ey, hq⟩ := bindP_of hq
  obtain ⟨F4, ok4, l4, ay⟩ := rr2.peek ok3 ey
  obtain ⟨ds, e, hq⟩ := bindP_of hq
  exact ⟨G, F4, env2, ds, _, ok4, (ArAll.cons (ax.le (l3.trans l4)) (.cons ay .nil)).pk ok4 e, hq, fun m v F' H' ok' l fr hq => q (.val m) _ v F' H' ok' (((l1.trans l2).trans (l3.trans l4)).trans l) fr hq⟩
end

section
variable {X : Cx} {a b c : Expr} {fa fb fc : FE} {g g' : List D → (M → Prop) → Prop} {pos : Pos}
theorem ve_bin {op : Operator} (ho : OpS X (act2 (binaryOp op)) g) (ha : VE X a fa) (hb : VE X b fb) : VE X (.BinOp a op b pos) (fOp g (aP fa (aP fb aNil))) := fun G W t =>
  ⟨fun pins s σ H Qh I hw => (pe_op (ho.opR σ) (ha G W t) (hb G W t)).run pins s σ H Qh I (lift_2 hw)⟩
theorem ve_un {op : UnaryOp} (ho : OpS X (act1 (unaryOp op)) g) (ha : VE X a fa) : VE X (.UnaryOp op a pos) (fOp g (aP fa aNil)) := fun G W t =>
  ⟨fun pins s σ H Qh I hw => (pe_un (ho.unR σ) (ha G W t)).run pins s σ H Qh I (lift_1 hw)⟩
theorem ve_cmp {op : CmpOp} (ho : OpS X (act2 (compareOp op)) g) (ha : VE X a fa) (hb : VE X b fb) (hm : behindInMarks op b = false := by rfl) : VE X (.Compare a [op] [b] pos) (fOp g (aP fa (aP fb aNil))) := fun G W t =>
  ⟨fun pins s σ H Qh I hw => (pe_cmpR (ho.opR σ) (ha G W t) (hb G W t) hm).run pins s σ H Qh I (lift_2 hw)⟩

/-! ### tests -/
/-- the value is a truth -/
def fTB (fe : FE) : FT := fun env Q W => fe env (fun r env1 => match r with
  | .val (.fz (.bool k)) => Q k env1
  | _ => False) W
/-- the value's truth -/
def truD : D → Option Bool
  | .none => some false
  | .bool b => some b
  | .int i => some (i != 0)
  | .str _ => none
  | .list xs => some (!xs.isEmpty)
  | .tuple xs => some (!xs.isEmpty)
  | .dict _ => none
def fTr (fe : FE) : FT := fun env Q W => fe env (fun r env1 => bindP (pkR r) fun x => bindP (pkA env1 x) fun d => bindP (truD d) fun k => Q k env1) W
theorem bool_of {K : Fg} {F : Hp} {v : V} {k : Bool} (h : Dt K F v (.bool k)) : v = .bl k := by cases h; rfl
theorem lift_tb {G : Gh} {W : KX} {σ : L2.St} {H : Hp} {Qh : Bool → Hp → Prop} (hw : liftT X.K X.mg G W (fTB fa) σ H Qh) : liftE X.K X.mg G W fa σ H fun x H1 => ∃ k, x = .bl k ∧ Qh k H1 := by
  obtain ⟨F, env, Q, ok, hf, q⟩ := hw
  refine ⟨F, env, _, ok, hf, fun r env1 v F1 H1 ok1 l1 rr hq => ?_⟩
  cases r with
  | slot i => exact hq.elim
  | val m =>
    cases m with
    | lst ds => exact hq.elim
    | dct ds => exact hq.elim
    | gl ds => exact hq.elim
    | fz d =>
      cases d with
      | bool k => exact ⟨k, bool_of rr.rm, q k env1 F1 H1 ok1 l1 hq⟩
      | _ => exact hq.elim
theorem vt_cmp {op : CmpOp} (ho : OpS X (act2 (compareOp op)) g) (ha : VE X a fa) (hb : VE X b fb) (hm : behindInMarks op b = false := by rfl) : VT X (.Compare a [op] [b] pos) (fTB (fOp g (aP fa (aP fb aNil)))) := fun G W t =>
  ⟨fun pins s σ H Qh I hw => (pt_cmpR (ho.opR σ) (ha G W t) (hb G W t) hm).run pins s σ H Qh I (lift_2 (lift_tb hw))⟩
theorem vt_val (ha : VE X a fa) (he : ∀ whole, isTrue a X.env whole = (do let v ← whole; standAt a.pos; holding [v] (truthy v)) := by intro _; rfl) : VT X a (fTB fa) := fun G W t =>
  PT.imp (pt_val (ha G W t) he) fun σ H Qh hw => lift_tb hw
theorem Pk.tru {K : Fg} {F H : Hp} (l : Le F H) {v : V} {d : D} {k : Bool} (h : Pk K F H v d) (e : truD d = some k) : TruV K v H k := by
  cases h with
  | lst h1 h2 =>
    cases e
    refine .inl ⟨_, .inl (.inl h1), ?_⟩
    cases h2 <;> rfl
  | dct h => cases e
  | fz h =>
    cases h with
    | non => cases e; rfl
    | bl b => cases e; rfl
    | int i => cases e; rfl
    | str x => cases e
    | dct _ _ => cases e
    | lst h1 h2 =>
      cases e
      refine .inl ⟨_, (lsL_le l h1).sqL, ?_⟩
      cases h2 <;> rfl
    | tup h1 h2 =>
      cases e
      refine .inr (.inl ⟨_, sqT_le l h1.sqT, ?_⟩)
      cases h2 <;> rfl
theorem vt_tru (ha : VE X a fa) (he : ∀ whole, isTrue a X.env whole = (do let v ← whole; standAt a.pos; holding [v] (truthy v)) := by intro _; rfl) : VT X a (fTr fa) := fun G W t =>
  PT.imp (pt_truth (ha G W t) he) fun σ H Qh hw => by
    obtain ⟨F, env, Q, ok, hf, q⟩ := hw
    refine ⟨F, env, _, ok, hf, fun r env1 v F1 H1 ok1 l1 rr hq => ?_⟩
    obtain ⟨x, ex, hq⟩ := bindP_of hq
    obtain ⟨F2, ok2, l2, ax⟩ := rr.peek ok1 ex
    obtain ⟨d, ed, hq⟩ := bindP_of hq
    obtain ⟨k, ek, hq⟩ := bindP_of hq
    exact ⟨k, (ax.pk ok2 ed).tru ok2.sub ek, q k env1 F2 H1 ok2 (l1.trans l2) hq⟩
/-! and, or, not as tests -/
variable {ta tb tc : FT} {rest : List Expr}
def fAnd (ta tb : FT) : FT := fun env Q W => ta env (fun k env1 => if k = true then tb env1 Q W else Q false env1) W
def fOr (ta tb : FT) : FT := fun env Q W => ta env (fun k env1 => if k = true then Q true env1 else tb env1 Q W) W
def fNot (ta : FT) : FT := fun env Q W => ta env (fun k env1 => Q (!k) env1) W
theorem vw_and1 (ha : VT X a ta) : VW X (.BoolOp .And [a] pos) ta := fun G W t => pw_and1 (ha G W t)
theorem vw_or1 (ha : VT X a ta) : VW X (.BoolOp .Or [a] pos) ta := fun G W t => pw_or1 (ha G W t)
theorem vw_and (ha : VT X a ta) (hb : VW X (.BoolOp .And (b :: rest) pos) tb) : VW X (.BoolOp .And (a :: b :: rest) pos) (fAnd ta tb) := fun G W t =>
  PW.imp (pw_and (ha G W t) (hb G W t)) fun σ H Qh hw => by
    obtain ⟨F, env, Q, ok, hf, q⟩ := hw
    refine ⟨F, env, _, ok, hf, fun k env1 F1 H1 ok1 l1 hq => ?_⟩
    cases k with
    | true => exact ⟨F1, env1, _, ok1, hq, fun k env2 F2 H2 ok2 l2 hq => q k env2 F2 H2 ok2 (l1.trans l2) hq⟩
    | false => exact q false env1 F1 H1 ok1 l1 hq
theorem vw_or (ha : VT X a ta) (hb : VW X (.BoolOp .Or (b :: rest) pos) tb) : VW X (.BoolOp .Or (a :: b :: rest) pos) (fOr ta tb) := fun G W t =>
  PW.imp (pw_or (ha G W t) (hb G W t)) fun σ H Qh hw => by
    obtain ⟨F, env, Q, ok, hf, q⟩ := hw
    refine ⟨F, env, _, ok, hf, fun k env1 F1 H1 ok1 l1 hq => ?_⟩
    cases k with
    | false => exact ⟨F1, env1, _, ok1, hq, fun k env2 F2 H2 ok2 l2 hq => q k env2 F2 H2 ok2 (l1.trans l2) hq⟩
    | true => exact q true env1 F1 H1 ok1 l1 hq
theorem VW.vt (h : VW X a ta) : VT X a ta := fun G W t => (h G W t).pt
theorem vt_not (ha : VT X a ta) : VT X (.UnaryOp .Not a pos) (fNot ta) := fun G W t =>
  PT.imp (pt_not (ha G W t)) fun σ H Qh hw => by
    obtain ⟨F, env, Q, ok, hf, q⟩ := hw
    exact ⟨F, env, _, ok, hf, fun k env1 F1 H1 ok1 l1 hq => q (!k) env1 F1 H1 ok1 l1 hq⟩
/-! .. as values, all parts truths -/
def fAndV (fa fb : FE) : FE := fun env Q W => fTB fa env (fun k env1 => if k = true then fb env1 Q W else Q (.val (.fz (.bool false))) env1) W
def fOrV (fa fb : FE) : FE := fun env Q W => fTB fa env (fun k env1 => if k = true then Q (.val (.fz (.bool true))) env1 else fb env1 Q W) W
def fNotV (fa : FE) : FE := fun env Q W => fTB fa env (fun k env1 => Q (.val (.fz (.bool (!k)))) env1) W
theorem lift_tb' {G : Gh} {W : KX} {σ : L2.St} {H F : Hp} {env : Env} {Q : Bool → Env → Prop} {Qh : V → Hp → Prop} (ok : EnvOk X.K X.mg G F H σ env) (hf : fTB fa env Q W)
    (q : ∀ k env' F' H', EnvOk X.K X.mg G F' H' σ env' → Le F F' → Q k env' → Qh (.bl k) H') : liftE X.K X.mg G W fa σ H Qh := by
  refine ⟨F, env, _, ok, hf, fun r env1 v F1 H1 ok1 l1 rr hq => ?_⟩
  cases r with
  | slot i => exact hq.elim
  | val m =>
    cases m with
    | lst ds => exact hq.elim
    | dct ds => exact hq.elim
    | gl ds => exact hq.elim
    | fz d =>
      cases d with
      | bool k =>
        rw [bool_of rr.rm]
        exact q k env1 F1 H1 ok1 l1 hq
      | _ => exact hq.elim
theorem ve_one {op} (h : VE X a fa) : VE X (.BoolOp op [a] pos) fa := fun G W t => pe_one (h G W t)
theorem ve_and (ha : VE X a fa) (hb : VE X (.BoolOp .And (b :: rest) pos) fb) : VE X (.BoolOp .And (a :: b :: rest) pos) (fAndV fa fb) := fun G W t =>
  PE.imp (pe_and (ha G W t) (hb G W t)) fun σ H Qh hw => by
    obtain ⟨F, env, Q, ok, hf, q⟩ := hw
    refine lift_tb' ok hf fun k env1 F1 H1 ok1 l1 hq => ⟨k, rfl, ?_⟩
    cases k with
    | true => exact ⟨F1, env1, _, ok1, hq, fun r env2 v F2 H2 ok2 l2 rr hq => q r env2 v F2 H2 ok2 (l1.trans l2) rr hq⟩
    | false => exact q (.val (.fz (.bool false))) env1 _ F1 H1 ok1 l1 (Free.fz (.bl false)) hq
theorem ve_or (ha : VE X a fa) (hb : VE X (.BoolOp .Or (b :: rest) pos) fb) : VE X (.BoolOp .Or (a :: b :: rest) pos) (fOrV fa fb) := fun G W t =>
  PE.imp (pe_or (ha G W t) (hb G W t)) fun σ H Qh hw => by
    obtain ⟨F, env, Q, ok, hf, q⟩ := hw
    refine lift_tb' ok hf fun k env1 F1 H1 ok1 l1 hq => ⟨k, rfl, ?_⟩
    cases k with
    | false => exact ⟨F1, env1, _, ok1, hq, fun r env2 v F2 H2 ok2 l2 rr hq => q r env2 v F2 H2 ok2 (l1.trans l2) rr hq⟩
    | true => exact q (.val (.fz (.bool true))) env1 _ F1 H1 ok1 l1 (Free.fz (.bl true)) hq
theorem ve_not (ha : VE X a fa) : VE X (.UnaryOp .Not a pos) (fNotV fa) := fun G W t =>
  PE.imp (pe_not (ha G W t)) fun σ H Qh hw => by
    obtain ⟨F, env, Q, ok, hf, q⟩ := hw
    refine lift_tb' ok hf fun k env1 F1 H1 ok1 l1 hq => ⟨k, rfl, ?_⟩
    exact q (.val (.fz (.bool (!k)))) env1 _ F1 H1 ok1 l1 (Free.fz (.bl (!k))) hq
/-! a if t else b -/
def fIf (t : FT) (fa fb : FE) : FE := fun env Q W => t env (fun k env1 => if k = true then fa env1 Q W else fb env1 Q W) W
theorem ve_if (hc : VT X c tc) (ha : VE X a fa) (hb : VE X b fb) : VE X (.IfExp c a b pos) (fIf tc fa fb) := fun G W t =>
  PE.imp (pe_ifExp (hc G W t) (ha G W t) (hb G W t)) fun σ H Qh hw => by
    obtain ⟨F, env, Q, ok, hf, q⟩ := hw
    refine ⟨F, env, _, ok, hf, fun k env1 F1 H1 ok1 l1 hq => ?_⟩
    cases k with
    | true => exact ⟨F1, env1, _, ok1, hq, fun r env2 v F2 H2 ok2 l2 rr hq => q r env2 v F2 H2 ok2 (l1.trans l2) rr hq⟩
    | false => exact ⟨F1, env1, _, ok1, hq, fun r env2 v F2 H2 ok2 l2 rr hq => q r env2 v F2 H2 ok2 (l1.trans l2) rr hq⟩
/-! a < b < c -/
def fChain (g g' : List D → (M → Prop) → Prop) (fa fb fc : FE) : FE := fun env Q W =>
  fa env (fun ra env1 => bindP (pkR ra) fun xa => fb env1 (fun rb env2 => bindP (pkR rb) fun xb => bindP (pkAs env2 [xa, xb]) fun ds => g ds fun m => match m with
    | .fz (.bool k) => if k = true then fc env2 (fun rc env3 => bindP (pkR rc) fun xc => bindP (pkAs env3 [xb, xc]) fun es => g' es fun m => Q (.val m) env3) W else Q (.val (.fz (.bool false))) env2
    | _ => False) W) W
theorem lift_chain {G : Gh} {W : KX} {σ : L2.St} {H : Hp} {Qh : VK} (hw : liftE X.K X.mg G W (fChain g g' fa fb fc) σ H Qh) :
    tChain (fun x y H Q => rOp X σ g [x, y] H Q) (fun x y H Q => rOp X σ g' [x, y] H Q) (liftE X.K X.mg G W fa) (liftE X.K X.mg G W fb) (liftE X.K X.mg G W fc) σ H Qh := by
  obtain ⟨F, env, Q, ok, hf, q⟩ := hw
  refine ⟨F, env, _, ok, hf, fun r env1 v F1 H1 ok1 l1 rr hq => ?_⟩
  obtain ⟨x, ex, hq⟩ := bindP_of hq
  obtain ⟨F2, ok2, l2, ax⟩ := rr.peek ok1 ex
  refine ⟨F2, env1, _, ok2, hq, fun r env2 v2 F3 H2 ok3 l3 rr2 hq => ?_⟩
  obtain ⟨y, ey, hq⟩ := bindP_of hq
  obtain ⟨F4, ok4, l4, ay⟩ := rr2.peek ok3 ey
  obtain ⟨ds, e, hq⟩ := bindP_of hq
  refine ⟨G, F4, env2, ds, _, ok4, (ArAll.cons (ax.le (l3.trans l4)) (.cons ay .nil)).pk ok4 e, hq, fun m z F5 H5 ok5 l5 fr hq => ?_⟩
  have l15 := ((l1.trans l2).trans (l3.trans l4)).trans l5
  cases m with
  | lst ds => exact hq.elim
  | dct ds => exact hq.elim
  | gl ds => exact hq.elim
  | fz d =>
    cases d with
    | bool k =>
      refine ⟨k, bool_of fr.rm, ?_⟩
      cases k with
      | false => exact q (.val (.fz (.bool false))) env2 _ F5 H5 ok5 l15 (Free.fz (.bl false)) hq
      | true =>
        refine ⟨F5, env2, _, ok5, hq, fun r env3 v3 F6 H6 ok6 l6 rr3 hq => ?_⟩
        obtain ⟨z, ez, hq⟩ := bindP_of hq
        obtain ⟨F7, ok7, l7, az⟩ := rr3.peek ok6 ez
        obtain ⟨es, ee, hq⟩ := bindP_of hq
        exact ⟨G, F7, env3, es, _, ok7, (ArAll.cons (ay.le ((l5.trans l6).trans l7)) (.cons az .nil)).pk ok7 ee, hq, fun m v F' H' ok' l fr hq => q (.val m) _ v F' H' ok' ((l15.trans (l6.trans l7)).trans l) fr hq⟩
    | _ => exact hq.elim
theorem ve_chain {op op' : CmpOp} (ho : OpS X (act2 (compareOp op)) g) (ho' : OpS X (act2 (compareOp op')) g') (ha : VE X a fa) (hb : VE X b fb) (hc : VE X c fc) (hm : lastMarks [op, op'] [b, c] = false := by with_unfolding_all rfl) :
    VE X (.Compare a [op, op'] [b, c] pos) (fChain g g' fa fb fc) := fun G W t =>
  ⟨fun pins s σ H Qh I hw => (pe_chain (ho.opR σ) (ho'.opR σ) (ha G W t) (hb G W t) (hc G W t) hm).run pins s σ H Qh I (lift_chain hw)⟩
theorem vt_chain {op op' : CmpOp} (ho : OpS X (act2 (compareOp op)) g) (ho' : OpS X (act2 (compareOp op')) g') (ha : VE X a fa) (hb : VE X b fb) (hc : VE X c fc) (hm : lastMarks [op, op'] [b, c] = false := by with_unfolding_all rfl) :
    VT X (.Compare a [op, op'] [b, c] pos) (fTB (fChain g g' fa fb fc)) := fun G W t =>
  ⟨fun pins s σ H Qh I hw => (pt_chain (ho.opR σ) (ho'.opR σ) (ha G W t) (hb G W t) (hc G W t) hm).run pins s σ H Qh I (lift_chain (lift_tb hw))⟩
end

/-! ### calls of built-ins by name -/
section
variable {X : Cx} {x : Str} {p pos : Pos} {e : Expr} {es : List Expr} {fa : FA} {id T : String} {g : List D → (M → Prop) → Prop}
theorem ve_callB (ho : OpS X (fun us => call (.builtin id) us) g) (hg : Gl X x) (hm : X.mg x = none) (hv : bootBuiltins x = some (.builtin id)) (ha : VA X (e :: es) fa) (hn : x ≠ "__name__" := by decide) (hdb : (x == ("__debug__" : Str)) = false := by decide)
    (he : starEach (e :: es) X.env = (false, eval e X.env) :: starEach es X.env := by rfl) (hpl : (backTo pos (starEach es X.env)).any (·.1) = false := by rfl) : VE X (.Call (.Name x p) (e :: es) [] pos) (fOp g fa) := fun G W t =>
  ⟨fun pins s σ H Qh I hw => (pe_callB (ho.callR σ) hg hm hv (ha G W t) hn hdb he hpl).run pins s σ H Qh I (lift_op hw)⟩
theorem ve_callT (ho : OpS X (fun us => call (.type T) us) g) (hg : Gl X x) (hm : X.mg x = none) (hv : bootBuiltins x = some (.type T)) (ha : VA X (e :: es) fa) (hn : x ≠ "__name__" := by decide) (hdb : (x == ("__debug__" : Str)) = false := by decide)
    (he : starEach (e :: es) X.env = (false, eval e X.env) :: starEach es X.env := by rfl) (hpl : (backTo pos (starEach es X.env)).any (·.1) = false := by rfl) : VE X (.Call (.Name x p) (e :: es) [] pos) (fOp g fa) := fun G W t =>
  ⟨fun pins s σ H Qh I hw => (pe_callTy (ho.callR σ) hg hm hv (ha G W t) hn hdb he hpl).run pins s σ H Qh I (lift_op hw)⟩
end
end VL

set_option maxHeartbeats 4000000
/-! VlE: operations on data. -/
namespace VL
open PySem PySem.Spec PyProof.Rows L2
open PySem.W (alike dataLt dataLe dataLe_int)

/-- plain data (no dict), at most n deep -/
def Pl : Nat → D → Prop
  | _, .none => True
  | _, .bool _ => True
  | _, .int _ => True
  | _, .str _ => True
  | 0, .list _ => False
  | 0, .tuple _ => False
  | _, .dict _ => False
  | n + 1, .list xs => ∀ x, x ∈ xs → Pl n x
  | n + 1, .tuple xs => ∀ x, x ∈ xs → Pl n x
@[simp] theorem Pl_none (n : Nat) : Pl n .none = True := by cases n <;> rfl
@[simp] theorem Pl_bool (n : Nat) (b : Bool) : Pl n (.bool b) = True := by cases n <;> rfl
@[simp] theorem Pl_int (n : Nat) (b : Int) : Pl n (.int b) = True := by cases n <;> rfl
@[simp] theorem Pl_str (n : Nat) (b : Str) : Pl n (.str b) = True := by cases n <;> rfl
@[simp] theorem Pl_dict (n : Nat) (b : List (D × D)) : Pl n (.dict b) = False := by cases n <;> rfl
@[simp] theorem Pl_list (n : Nat) (xs : List D) : Pl n (.list xs) = (0 < n ∧ ∀ x, x ∈ xs → Pl (n - 1) x) := by
  cases n with
  | zero => exact propext ⟨fun h => h.elim, fun h => absurd h.1 (Nat.lt_irrefl _)⟩
  | succ n => exact propext ⟨fun h => ⟨Nat.succ_pos _, h⟩, fun h => h.2⟩
@[simp] theorem Pl_tuple (n : Nat) (xs : List D) : Pl n (.tuple xs) = (0 < n ∧ ∀ x, x ∈ xs → Pl (n - 1) x) := by
  cases n with
  | zero => exact propext ⟨fun h => h.elim, fun h => absurd h.1 (Nat.lt_irrefl _)⟩
  | succ n => exact propext ⟨fun h => ⟨Nat.succ_pos _, h⟩, fun h => h.2⟩
mutual
theorem Pl.plain : ∀ (n : Nat) (d : D), Pl n d → d.plain = true ∧ d.depth ≤ n
  | n, .none, _ => ⟨rfl, by simp [PyData.depth]⟩
  | n, .bool _, _ => ⟨rfl, by simp [PyData.depth]⟩
  | n, .int _, _ => ⟨rfl, by simp [PyData.depth]⟩
  | n, .str _, _ => ⟨rfl, by simp [PyData.depth]⟩
  | n, .dict _, h => by cases n <;> exact h.elim
  | n, .list xs, h => by
    rw [Pl_list] at h
    obtain ⟨h1, h2⟩ := Pl.plainAll (n - 1) xs h.2
    refine ⟨by simpa [PyData.plain] using h1, ?_⟩
    simp only [PyData.depth]
    have := h.1
    omega
  | n, .tuple xs, h => by
    rw [Pl_tuple] at h
    obtain ⟨h1, h2⟩ := Pl.plainAll (n - 1) xs h.2
    refine ⟨by simpa [PyData.plain] using h1, ?_⟩
    simp only [PyData.depth]
    have := h.1
    omega
theorem Pl.plainAll : ∀ (n : Nat) (xs : List D), (∀ x, x ∈ xs → Pl n x) → PyData.plainAll xs = true ∧ PyData.depthAll xs ≤ n
  | n, [], _ => ⟨rfl, by simp [PyData.depthAll]⟩
  | n, x :: xs, h => by
    obtain ⟨h1, h2⟩ := Pl.plain n x (h x List.mem_cons_self)
    obtain ⟨h3, h4⟩ := Pl.plainAll n xs fun y hy => h y (List.mem_cons_of_mem _ hy)
    refine ⟨by rw [PyData.plainAll, h1, h3]; rfl, ?_⟩
    simp only [PyData.depthAll]
    omega
end

/-! ### what shown values are -/
section
variable {K : Fg} {F H : Hp} {v : V}
theorem Pk.scal_non (h : Pk K F H v .none) : v = .non := by cases h with | fz h => cases h; rfl
theorem Pk.scal_bl {b : Bool} (h : Pk K F H v (.bool b)) : v = .bl b := by cases h with | fz h => cases h; rfl
theorem Pk.scal_int {i : Int} (h : Pk K F H v (.int i)) : v = .int i := by cases h with | fz h => cases h; rfl
theorem Pk.scal_str {x : Str} (h : Pk K F H v (.str x)) : v = .str x := by cases h with | fz h => cases h; rfl
theorem Pk.list (l : Le F H) {ds : List D} (h : Pk K F H v (.list ds)) : ∃ a vs, v = .ref a ∧ LsL K H a vs ∧ DtAll K F vs ds := by
  cases h with
  | fz h => cases h with | lst h1 h2 => exact ⟨_, _, rfl, lsL_le l h1, h2⟩
  | lst h1 h2 => exact ⟨_, _, rfl, .inl (.inl h1), h2⟩
theorem Pk.tuple {ds : List D} (h : Pk K F H v (.tuple ds)) : ∃ a vs, v = .ref a ∧ TpL K F a vs ∧ DtAll K F vs ds := by
  cases h with
  | fz h => cases h with | tup h1 h2 => exact ⟨_, _, rfl, h1, h2⟩
theorem PkAll.one {d : D} {vs : List V} (h : PkAll K F H vs [d]) : ∃ v, vs = [v] ∧ Pk K F H v d := by
  cases h with | cons h r => cases r; exact ⟨_, rfl, h⟩
theorem PkAll.two {d e : D} {vs : List V} (h : PkAll K F H vs [d, e]) : ∃ v w, vs = [v, w] ∧ Pk K F H v d ∧ Pk K F H w e := by
  cases h with | cons h r => cases r with | cons h' r => cases r; exact ⟨_, _, rfl, h, h'⟩
theorem PkAll.three {d e f : D} {vs : List V} (h : PkAll K F H vs [d, e, f]) : ∃ v w z, vs = [v, w, z] ∧ Pk K F H v d ∧ Pk K F H w e ∧ Pk K F H z f := by
  cases h with | cons h r => cases r with | cons h' r => cases r with | cons h2 r => cases r; exact ⟨_, _, _, rfl, h, h', h2⟩
theorem PkAll.zero {vs : List V} (h : PkAll K F H vs []) : vs = [] := by cases h; rfl
end
section
variable {X : Cx} {G : Gh} {pins : List (Addr × Obj)} {σ τ : L2.St} {F H : Hp} {env : Env} {s : Shared} {v : V} {u : Value} {d : D}
/-- plain data that is looked at reads -/
theorem Pk.reads (I : Inv X pins τ H s) (l : Le F H) (h : Pk X.K F H v d) (p : d.plain = true) (r : RelV v u) : ∃ as, Reads s.heap u d as := by
  cases h with
  | fz h => exact Dt.reads I l h r
  | dct h => cases p
  | lst h1 h2 =>
    cases r
    obtain ⟨its, rv, ⟨o, n, ho, hc, _, hd⟩, _⟩ := I.list (.inl (.inl h1))
    obtain ⟨as, hr⟩ := DtAll.reads I l h2 rv
    exact ⟨_, Reads.list ho hc hd hr⟩
/-- the post that an operation is to reach -/
def PostM (X : Cx) (pins : List (Addr × Obj)) (τ σ : L2.St) (G : Gh) (F : Hp) (env : Env) (Q : M → Prop) (u : Value) (s' : Shared) : Prop :=
  ∃ m v F' H', Inv X pins τ H' s' ∧ RelV v u ∧ EnvOk X.K X.mg G F' H' σ env ∧ Le F F' ∧ Free X.K X.mg G F' H' σ env m v ∧ Q m
theorem fin_dt {Q : M → Prop} {s' : Shared} (I : Inv X pins τ H s') (ok : EnvOk X.K X.mg G F H σ env) (r : RelV v u) (h : Dt X.K F v d) (q : Q (.fz d)) : PostM X pins τ σ G F env Q u s' := ⟨.fz d, v, F, H, I, r, ok, Le.refl _, Free.fz h, q⟩
theorem fin_bool {Q : M → Prop} {s' : Shared} {k : Bool} (I : Inv X pins τ H s') (ok : EnvOk X.K X.mg G F H σ env) (q : Q (.fz (.bool k))) : PostM X pins τ σ G F env Q (.bool k) s' := fin_dt (v := .bl k) I ok rfl (.bl k) q
theorem fin_int {Q : M → Prop} {s' : Shared} {i : Int} {t : Tok} (I : Inv X pins τ H s') (ok : EnvOk X.K X.mg G F H σ env) (q : Q (.fz (.int i))) : PostM X pins τ σ G F env Q (.int i t) s' := fin_dt (v := .int i) I ok ⟨t, rfl⟩ (.int i) q
theorem fin_str {Q : M → Prop} {s' : Shared} {x : Str} {t : Tok} (I : Inv X pins τ H s') (ok : EnvOk X.K X.mg G F H σ env) (q : Q (.fz (.str x))) : PostM X pins τ σ G F env Q (.str x t) s' := fin_dt (v := .str x) I ok ⟨t, rfl⟩ (.str x) q
/-- a new list -/
theorem fin_lst {Q : M → Prop} {h' : Heap} {t' : Nat} {a : Addr} {vs : List V} {us : List Value} {n : Nat} {ds : List D} (I : Inv X pins τ H s) (ok : EnvOk X.K X.mg G F H σ env) (k : ∀ b u, s.heap.get? b = some u → h'.get? b = some u) (hp : s.heap.objs.size ≤ a)
    (r : Vals vs us) (z : vs.length ≤ sizeLine) (e : h'.get? a = some { cls := .type "list", data := .seq us.toArray n }) (h : DtAll X.K F vs ds) (q : Q (.lst ds)) : PostM X pins τ σ G F env Q (.ref a) { s with heap := h', toks := t' } := by
  obtain ⟨ok2, fr⟩ := ok.newLst (I.hok.fresh hp) h
  exact ⟨.lst ds, .ref a, F, upd H a (.lst vs), I.laid (t' := t') k hp ⟨z, us, n, r, e⟩, rfl, ok2, Le.refl _, fr, q⟩
/-- a new tuple -/
theorem fin_tup {Q : M → Prop} {h' : Heap} {t' : Nat} {a : Addr} {vs : List V} {us : List Value} {ds : List D} (I : Inv X pins τ H s) (ok : EnvOk X.K X.mg G F H σ env) (k : ∀ b u, s.heap.get? b = some u → h'.get? b = some u) (hp : s.heap.objs.size ≤ a)
    (r : Vals vs us) (z : vs.length ≤ sizeLine) (e : h'.get? a = some (tupO us)) (h : DtAll X.K F vs ds) (q : Q (.fz (.tuple ds))) : PostM X pins τ σ G F env Q (.ref a) { s with heap := h', toks := t' } := by
  obtain ⟨ok2, l2, fr⟩ := ok.newTup (us := us) (I.hok.fresh hp) h
  exact ⟨.fz (.tuple ds), .ref a, _, _, Inv.laidT I k hp r z e, rfl, ok2, l2, fr, q⟩
theorem Inv.lstR (I : Inv X pins τ H s) {a : Addr} {vs : List V} (h : LsL X.K H a vs) : vs.length ≤ sizeLine ∧ ∃ (its : List Value) (n : Nat), Vals vs its ∧ s.heap.get? a = some { cls := .type "list", data := .seq its.toArray n } := by
  rcases h with h | ⟨us, n, e, z, r⟩
  · exact h.ok I.hok
  · exact ⟨by rw [r.length]; exact z, us, n, r, I.kIn a _ e⟩
end

/-! ### integers, texts, lists, tuples: + - * // % ** -/
def gAdd : List D → (M → Prop) → Prop
  | [.int i, .int j], k => k (.fz (.int (i + j)))
  | [.str x, .str y], k => x.length + y.length ≤ 16777216 ∧ k (.fz (.str (x ++ y)))
  | [.list xs, .list ys], k => xs.length + ys.length ≤ 16777216 ∧ k (.lst (xs ++ ys))
  | [.tuple xs, .tuple ys], k => xs.length + ys.length ≤ 16777216 ∧ k (.fz (.tuple (xs ++ ys)))
  | _, _ => False
def gSub : List D → (M → Prop) → Prop
  | [.int i, .int j], k => k (.fz (.int (i - j)))
  | _, _ => False
/-- one factor below 2^64 -/
def gMul : List D → (M → Prop) → Prop
  | [.int i, .int j], k => ((-(2 ^ 64) < i ∧ i < 2 ^ 64) ∨ (-(2 ^ 64) < j ∧ j < 2 ^ 64)) ∧ k (.fz (.int (i * j)))
  | _, _ => False
def gDiv : List D → (M → Prop) → Prop
  | [.int i, .int j], k => 0 < j ∧ j < 1073741824 ∧ k (.fz (.int (i / j)))
  | _, _ => False
def gMod : List D → (M → Prop) → Prop
  | [.int i, .int j], k => 0 < j ∧ k (.fz (.int (i % j)))
  | _, _ => False
def gPow : List D → (M → Prop) → Prop
  | [.int i, .int j], k => 0 ≤ j ∧ j ≤ 1000000 ∧ i.natAbs < 2 ^ 64 ∧ k (.fz (.int (i ^ j.toNat)))
  | _, _ => False
def gNeg : List D → (M → Prop) → Prop
  | [.int i], k => k (.fz (.int (-i)))
  | _, _ => False
section
variable {X : Cx}
theorem os_of_opR {f : Value → Value → Sem Value} {g : List D → (M → Prop) → Prop}
    (h : ∀ (G : Gh) (pins : List (Addr × Obj)) (s : Shared) (τ σ : L2.St) (F H : Hp) (env : Env) (d e : D) (v w : V) (u u' : Value) (Q : M → Prop), Inv X pins τ H s → EnvOk X.K X.mg G F H σ env → Pk X.K F H v d → Pk X.K F H w e → RelV v u → RelV w u' → g [d, e] Q →
      wpAny (model X.prog X.w) X.A (f u u') (PostM X pins τ σ G F env Q) X.xe s) (hg : ∀ ds Q, g ds Q → ∃ d e, ds = [d, e]) : OpS X (act2 f) g := fun G pins s τ σ F H env vs us ds Q I ok pk r q => by
  obtain ⟨d, e, rfl⟩ := hg ds Q q
  obtain ⟨v, w, rfl, p1, p2⟩ := pk.two
  obtain ⟨u, u', rfl, r1, r2⟩ := vals2 r
  exact h G pins s τ σ F H env d e v w u u' Q I ok p1 p2 r1 r2 q
theorem two_add : ∀ ds Q, gAdd ds Q → ∃ d e, ds = [d, e]
  | [], _, h => h.elim
  | [_], _, h => by unfold gAdd at h; split at h <;> first | exact h.elim | simp_all
  | [d, e], _, _ => ⟨d, e, rfl⟩
  | _ :: _ :: _ :: _, _, h => by unfold gAdd at h; split at h <;> first | exact h.elim | simp_all
theorem os_add : OpS X (act2 (binaryOp .Add)) gAdd := os_of_opR (fun G pins s τ σ F H env d e v w u u' Q I ok p1 p2 r1 r2 q => by
  unfold gAdd at q
  split at q
  · rename_i e1
    cases e1
    cases p1.scal_int; cases p2.scal_int
    obtain ⟨t, rfl⟩ := r1
    obtain ⟨t', rfl⟩ := r2
    exact add_int (fin_int (I.tok _) ok q)
  · rename_i k x y e1
    cases e1
    cases p1.scal_str; cases p2.scal_str
    exact thn (op_add_str pins s τ H (.str x) (.str y) u u' (fun z H' => H' = H ∧ z = .str (x ++ y)) I r1 r2 ⟨x, y, rfl, rfl, line_of q.1, rfl, rfl⟩) fun z s' ⟨v, H', I', rv, hv⟩ => by
      obtain ⟨rfl, rfl⟩ := hv
      exact fin_dt I' ok rv (.str _) q.2
  · rename_i k xs ys e1
    cases e1
    obtain ⟨a, vs, rfl, h1, h2⟩ := p1.list ok.sub
    obtain ⟨b, ws, rfl, h3, h4⟩ := p2.list ok.sub
    cases r1; cases r2
    obtain ⟨z1, its1, n1, v1, e1⟩ := Inv.lstR I h1
    obtain ⟨z2, its2, n2, v2, e2⟩ := Inv.lstR I h3
    have l1 := v1.length; have l2 := v2.length; have l3 := h2.length; have l4 := h4.length
    have hs : sizeLine = 16777216 := sizeLine_eq
    refine PySem.P.add_list e1 e2 ?_ (by rw [List.size_toArray, List.size_toArray]; omega)
    have ea : its1.toArray ++ its2.toArray = (its1 ++ its2).toArray := by simp
    rw [ea]
    exact fin_lst I ok (fun b o e => Heap.get?_push_of_some _ e) (Nat.le_refl _) (v1.append v2) (by rw [List.length_append]; omega) (Heap.get?_push_size _ rfl) (h2.append h4) q.2
  · rename_i k xs ys e1
    cases e1
    obtain ⟨a, vs, rfl, h1, h2⟩ := p1.tuple
    obtain ⟨b, ws, rfl, h3, h4⟩ := p2.tuple
    cases r1; cases r2
    obtain ⟨its1, v1, t1, z1⟩ := I.tuple (sqT_le ok.sub h1.sqT)
    obtain ⟨its2, v2, t2, z2⟩ := I.tuple (sqT_le ok.sub h3.sqT)
    have l1 := v1.length; have l2 := v2.length; have l3 := h2.length; have l4 := h4.length
    have hs : sizeLine = 16777216 := sizeLine_eq
    by_cases hx : its1 = []
    · subst hx
      have hxs : xs = [] := List.eq_nil_of_length_eq_zero (by have e : vs.length = 0 := l1; omega)
      subst hxs
      refine cat_tup0 t1 t2 (fin_dt (v := .ref b) I ok rfl (.tup h3 h4) ?_)
      exact q.2
    · refine HT.cat_tup t1 t2 hx (fun z => ?_) (fun z => ?_) (by omega)
      · subst z
        have hys : ys = [] := List.eq_nil_of_length_eq_zero (by have e : ws.length = 0 := l2; omega)
        subst hys
        refine fin_dt (v := .ref a) I ok rfl (.tup h1 h2) ?_
        have := q.2
        rw [List.append_nil] at this
        exact this
      · refine fin_tup I ok (fun b o e => Heap.get?_push_of_some _ e) (Nat.le_refl _) (v1.append v2) (by rw [List.length_append]; omega) ?_ (h2.append h4) q.2
        exact Heap.get?_push_size _ rfl
  · exact q.elim) two_add

theorem two_gen {g : List D → (M → Prop) → Prop} (h0 : ∀ Q, ¬ g [] Q) (h1 : ∀ d Q, ¬ g [d] Q) (h3 : ∀ d e f r Q, ¬ g (d :: e :: f :: r) Q) : ∀ ds Q, g ds Q → ∃ d e, ds = [d, e]
  | [], Q, h => (h0 Q h).elim
  | [d], Q, h => (h1 d Q h).elim
  | [d, e], _, _ => ⟨d, e, rfl⟩
  | d :: e :: f :: r, Q, h => (h3 d e f r Q h).elim
theorem os_sub : OpS X (act2 (binaryOp .Sub)) gSub := os_of_opR (fun G pins s τ σ F H env d e v w u u' Q I ok p1 p2 r1 r2 q => by
  unfold gSub at q
  split at q
  · rename_i e1
    cases e1
    cases p1.scal_int; cases p2.scal_int
    obtain ⟨t, rfl⟩ := r1
    obtain ⟨t', rfl⟩ := r2
    exact sub_int (fin_int (I.tok _) ok q)
  · exact q.elim) (two_gen (fun _ h => h) (fun d _ h => by cases d <;> exact h) fun d e f r Q h => by cases d <;> cases e <;> exact h)
theorem os_div : OpS X (act2 (binaryOp .FloorDiv)) gDiv := os_of_opR (fun G pins s τ σ F H env d e v w u u' Q I ok p1 p2 r1 r2 q => by
  unfold gDiv at q
  split at q
  · rename_i k i j e1
    cases e1
    cases p1.scal_int; cases p2.scal_int
    exact thn (op_fdiv pins s τ H (.int i) (.int j) u u' (fun z H' => H' = H ∧ z = .int (i / j)) I r1 r2 ⟨i, j, rfl, rfl, ⟨q.1, q.2.1⟩, rfl, rfl⟩) fun z s' ⟨v, H', I', rv, hv⟩ => by
      obtain ⟨rfl, rfl⟩ := hv
      exact fin_dt I' ok rv (.int _) q.2.2
  · exact q.elim) (two_gen (fun _ h => h) (fun d _ h => by cases d <;> exact h) fun d e f r Q h => by cases d <;> cases e <;> exact h)
theorem os_mod : OpS X (act2 (binaryOp .Mod)) gMod := os_of_opR (fun G pins s τ σ F H env d e v w u u' Q I ok p1 p2 r1 r2 q => by
  unfold gMod at q
  split at q
  · rename_i k i j e1
    cases e1
    cases p1.scal_int; cases p2.scal_int
    exact thn (op_mod pins s τ H (.int i) (.int j) u u' (fun z H' => H' = H ∧ z = .int (i % j)) I r1 r2 ⟨i, j, rfl, rfl, q.1, rfl, rfl⟩) fun z s' ⟨v, H', I', rv, hv⟩ => by
      obtain ⟨rfl, rfl⟩ := hv
      exact fin_dt I' ok rv (.int _) q.2
  · exact q.elim) (two_gen (fun _ h => h) (fun d _ h => by cases d <;> exact h) fun d e f r Q h => by cases d <;> cases e <;> exact h)
theorem os_pow : OpS X (act2 (binaryOp .Pow)) gPow := os_of_opR (fun G pins s τ σ F H env d e v w u u' Q I ok p1 p2 r1 r2 q => by
  unfold gPow at q
  split at q
  · rename_i k i j e1
    cases e1
    cases p1.scal_int; cases p2.scal_int
    exact thn (op_pow pins s τ H (.int i) (.int j) u u' (fun z H' => H' = H ∧ z = .int (i ^ j.toNat)) I r1 r2 ⟨i, j, rfl, rfl, ⟨q.1, q.2.1, q.2.2.1⟩, rfl, rfl⟩) fun z s' ⟨v, H', I', rv, hv⟩ => by
      obtain ⟨rfl, rfl⟩ := hv
      exact fin_dt I' ok rv (.int _) q.2.2.2
  · exact q.elim) (two_gen (fun _ h => h) (fun d _ h => by cases d <;> exact h) fun d e f r Q h => by cases d <;> cases e <;> exact h)
theorem tuple_mulOne (l : Addr) (items : Array Value) (n : Nat) (sl : Array (Option Value)) (u : Tok) :
    Meets (Builtin.«tuple.__mul__» ⟨[.ref l, .int 1 u], []⟩) (fun _ R s => s.heap.get? l = some { cls := .type "tuple", dict := none, data := .seq items n, slots := sl } ∧ R (.ok (.ret (.ref l))) s) :=
  .of_wp fun prog w A R s h => by
    obtain ⟨hp, g, d, tk, os⟩ := s
    obtain ⟨hl, h⟩ := h
    have f1 := AutoSeq1.idx_int
    have c1 : (items.isEmpty || (1 : Int) == 1) = true := by simp
    wp_walk using wpAny_loadPart' hl
    repeat (first
      | (refine wpAny_ite_false (decide_eq_false (by decide)) ?_; wp_walk using wpAny_loadPart' hl)
      | (refine wpAny_ite_true (decide_eq_true c1) ?_; wp_walk using wpAny_loadPart' hl))
    exact ⟨_, rfl, h⟩

theorem mul_gMul_tuple {xs : List D} {j : Int} : True := trivial
/-- a tuple or list times a count -/
def gRepT : List D → (M → Prop) → Prop
  | [.tuple xs, .int j], k => xs ≠ [] ∧ 1 ≤ j ∧ j ≤ 1000 ∧ xs.length ≤ 1000 ∧ k (.fz (.tuple (List.replicate j.toNat xs).flatten))
  | [.list xs, .int j], k => 0 ≤ j ∧ j ≤ 1000000 ∧ xs.length * j.toNat ≤ 16777216 ∧ k (.lst (List.replicate j.toNat xs).flatten)
  | [.int i, .int j], k => ((-(2 ^ 64) < i ∧ i < 2 ^ 64) ∨ (-(2 ^ 64) < j ∧ j < 2 ^ 64)) ∧ k (.fz (.int (i * j)))
  | _, _ => False
theorem DtAll.rep {K : Fg} {F : Hp} {vs : List V} {ds : List D} (h : DtAll K F vs ds) : ∀ k : Nat, DtAll K F (List.replicate k vs).flatten (List.replicate k ds).flatten
  | 0 => .nil
  | k + 1 => by
    rw [List.replicate_succ, List.replicate_succ, List.flatten_cons, List.flatten_cons]
    exact h.append (DtAll.rep h k)
theorem os_mul : OpS X (act2 (binaryOp .Mult)) gRepT := os_of_opR (fun G pins s τ σ F H env d e v w u u' Q I ok p1 p2 r1 r2 q => by
  have hs : sizeLine = 16777216 := sizeLine_eq
  unfold gRepT at q
  split at q
  · rename_i Q xs j e1
    cases e1
    obtain ⟨q1, q2, q3, q4, q⟩ := q
    obtain ⟨a, vs, rfl, h1, h2⟩ := p1.tuple
    cases p2.scal_int
    cases r1
    obtain ⟨t, rfl⟩ := r2
    have l3 := h2.length
    by_cases hj : j = 1
    · subst hj
      obtain ⟨⟨cls, dd, data, sl⟩, ho, hc, hd⟩ := TpL.obj I ok.sub h1
      obtain ⟨its1, v1, ⟨o, ho', hc', n, hd'⟩, z1⟩ := I.tuple (sqT_le ok.sub h1.sqT)
      rw [ho] at ho'
      cases ho'
      simp only at hc hd hd'
      subst hc hd hd'
      refine wpAny_binaryOp_repeat_ref (T := "tuple") (U := "int") (by decide) ⟨_, ho, rfl⟩ (fun s' => typeIs_int s' 1 t) noFill_tuple_mul PySem.F.fills_int_mul PySem.F.slot_int_rmul repeat_tuple PySem.F.slot_int_index.lookup
        (call_meets PySem.F.slot_int_rmul (typeIs_int s 1 t) PySem.F.entry_int_rmul (PySem.F.args_int_rmul_2 _ _) (int_rmul_tuple 1 t a its1.toArray n none sl)
          ⟨ho, rfl, ⟨_, ho, rfl⟩, call_meets PySem.F.slot_tuple_mul ⟨_, ho, rfl⟩ PySem.F.entry_tuple_mul (PySem.F.args_tuple_mul_2 _ _) (tuple_mulOne a its1.toArray n sl t) ⟨ho, ?_⟩⟩)
      refine fin_dt (v := .ref a) I ok rfl (.tup h1 h2) ?_
      have e : (List.replicate (1 : Int).toNat xs).flatten = xs := by
        show (List.replicate 1 xs).flatten = xs
        simp
      rw [e] at q
      exact q
    · obtain ⟨its, r, ⟨⟨cls, dd, data, sl⟩, ho, hc, n, hd⟩, z1⟩ := I.tuple (sqT_le ok.sub h1.sqT)
      simp only at hc hd
      subst hc hd
      have hle : its.length = vs.length := r.length.symm
      have hn : its ≠ [] := fun e => q1 (by
        rw [e] at hle
        exact List.eq_nil_of_length_eq_zero (by rw [← l3]; exact hle.symm))
      have hi : its.toArray.isEmpty = false := by
        cases its with
        | nil => exact absurd rfl hn
        | cons a b => rfl
      have hsz0 : its.toArray.size = xs.length := by rw [List.size_toArray, hle, l3]
      have hm : ((its.toArray.size : Nat) : Int) * j ≤ 1000000 := by
        rw [hsz0]
        have a1 : ((xs.length : Nat) : Int) * j ≤ 1000 * j := Int.mul_le_mul_of_nonneg_right (by omega) (by omega)
        omega
      have flen : (List.replicate j.toNat its).flatten.length ≤ sizeLine := by
        rw [PyProof.Rows.lm_len_rep_flat, hle, l3, sizeLine_eq]
        have a1 : j.toNat * xs.length ≤ 1000 * 1000 := Nat.mul_le_mul (by omega) q4
        omega
      have c0 : (decide (j < -(2 ^ 63)) || decide (j ≥ 2 ^ 63)) = false := by
        rw [decide_eq_false (by omega), decide_eq_false (by omega)] <;> rfl
      have c1 : (its.toArray.isEmpty || j == 1) = false := by
        rw [hi, Bool.false_or]
        exact beq_eq_false_iff_ne.mpr (by omega)
      have c2 : (decide (j ≤ 0) || its.toArray.isEmpty) = false := by
        rw [hi, Bool.or_false]
        exact decide_eq_false (by omega)
      have c4 : Builtin.Tuple.tupleTooMany (((its.toArray.size : Nat) : Int) * j) = false := by
        unfold Builtin.Tuple.tupleTooMany
        rw [sizeLine_eq]
        exact decide_eq_false (by omega)
      refine wpAny_binaryOp_repeat_ref (T := "tuple") (U := "int") (by decide) ⟨_, ho, rfl⟩ (fun s' => typeIs_int s' j t) noFill_tuple_mul PySem.F.fills_int_mul PySem.F.slot_int_rmul repeat_tuple PySem.F.slot_int_index.lookup
        (call_meets PySem.F.slot_int_rmul (typeIs_int s j t) PySem.F.entry_int_rmul (PySem.F.args_int_rmul_2 _ _) (int_rmul_tuple j t a its.toArray n dd sl)
          ⟨ho, rfl, ⟨_, ho, rfl⟩, call_meets PySem.F.slot_tuple_mul ⟨_, ho, rfl⟩ PySem.F.entry_tuple_mul (PySem.F.args_tuple_mul_2 _ _) (tuple_mulW a its.toArray n dd sl j t c0 c1 c2 (by omega) c4 (by rw [size_rep, List.size_toArray]; exact flen)) ⟨ho, ?_⟩⟩)
      rw [size_rep]
      refine fin_tup I ok (fun b ob q => Heap.get?_push_of_some _ q) (Nat.le_refl _) (r.rep j.toNat) (by rw [(r.rep j.toNat).length]; exact flen) ?_ (h2.rep j.toNat) q
      exact Heap.get?_push_size _ rfl
  · rename_i Q xs j e1
    cases e1
    obtain ⟨q1, q2, q3, q⟩ := q
    obtain ⟨a, vs, rfl, h1, h2⟩ := p1.list ok.sub
    cases p2.scal_int
    cases r1
    obtain ⟨t, rfl⟩ := r2
    have l3 := h2.length
    obtain ⟨z1, its, n, r, e⟩ := Inv.lstR I h1
    have hl := r.length
    have hlen : its.toArray.size * j.toNat ≤ sizeLine := by rw [List.size_toArray, ← hl, l3, sizeLine_eq]; exact q3
    have hcap : ¬ its.toArray.size * j.toNat > (2 ^ 63 - 1) / 8 := by
      have : (sizeLine : Nat) ≤ (2 ^ 63 - 1) / 8 := by decide
      omega
    have hfit : ¬ (!Builtin.List.listFitsIndex j) = true := by
      rw [fitsIndex_both (by omega) (by omega)]
      exact Bool.false_ne_true
    have hlong : ¬ Builtin.List.listTooLong (its.toArray.size * j.toNat) = true := by
      rw [notLongL hlen]
      exact Bool.false_ne_true
    have hnew : List.foldl (fun x1 x2 => x1 ++ x2) #[] (List.replicate (if its.toArray.isEmpty = true then 0 else j.toNat) its.toArray) = (List.replicate j.toNat its).flatten.toArray := by
      rw [size_rep]
      cases its with
      | nil => simp
      | cons a r' => rw [if_neg (by simp)]
    refine wpAny_binaryOp_repeat_ref (T := "list") (U := "int") (by decide) ⟨_, e, rfl⟩ (fun s' => typeIs_int s' j t) noFill_list_mul PySem.F.fills_int_mul PySem.F.slot_int_rmul repeat_list PySem.F.slot_int_index.lookup
      (call_meets PySem.F.slot_int_rmul (typeIs_int s j t) PySem.F.entry_int_rmul (PySem.F.args_int_rmul_2 _ _) (int___rmul___int_list j t a its.toArray n)
        ⟨e, rfl, ⟨_, e, rfl⟩, call_meets PySem.F.slot_list_mul ⟨_, e, rfl⟩ PySem.F.entry_list_mul (PySem.F.args_list_mul_2 _ _) (AutoListH.list___mul___list_int_3 a its.toArray n j t hfit hcap hlong) ⟨e, ?_⟩⟩)
    rw [hnew]
    refine fin_lst I ok (fun b ob q => Heap.get?_push_of_some _ q) (Nat.le_refl _) (r.rep j.toNat) ?_ (Heap.get?_push_size _ rfl) (h2.rep j.toNat) q
    rw [PyProof.Rows.lm_len_rep_flat, Nat.mul_comm, hl]
    exact hlen
  · rename_i Q i j e1
    cases e1
    cases p1.scal_int; cases p2.scal_int
    exact thn (op_mul pins s τ H (.int i) (.int j) u u' (fun z H' => H' = H ∧ z = .int (i * j)) I r1 r2 ⟨i, j, rfl, rfl, q.1, rfl, rfl⟩) fun z s' ⟨v, H', I', rv, hv⟩ => by
      obtain ⟨rfl, rfl⟩ := hv
      exact fin_dt I' ok rv (.int _) q.2
  · exact q.elim) (two_gen (fun _ h => h) (fun d _ h => by cases d <;> exact h) fun d e f r Q h => by cases d <;> cases e <;> exact h)
theorem os_of_unR {f : Value → Sem Value} {g : List D → (M → Prop) → Prop}
    (h : ∀ (G : Gh) (pins : List (Addr × Obj)) (s : Shared) (τ σ : L2.St) (F H : Hp) (env : Env) (d : D) (v : V) (u : Value) (Q : M → Prop), Inv X pins τ H s → EnvOk X.K X.mg G F H σ env → Pk X.K F H v d → RelV v u → g [d] Q →
      wpAny (model X.prog X.w) X.A (f u) (PostM X pins τ σ G F env Q) X.xe s) (hg : ∀ ds Q, g ds Q → ∃ d, ds = [d]) : OpS X (act1 f) g := fun G pins s τ σ F H env vs us ds Q I ok pk r q => by
  obtain ⟨d, rfl⟩ := hg ds Q q
  obtain ⟨v, rfl, p1⟩ := pk.one
  obtain ⟨u, rfl, r1⟩ := vals1 r
  exact h G pins s τ σ F H env d v u Q I ok p1 r1 q
theorem one_gen {g : List D → (M → Prop) → Prop} (h0 : ∀ Q, ¬ g [] Q) (h2 : ∀ d e r Q, ¬ g (d :: e :: r) Q) : ∀ ds Q, g ds Q → ∃ d, ds = [d]
  | [], Q, h => (h0 Q h).elim
  | [d], Q, h => ⟨d, rfl⟩
  | d :: e :: r, Q, h => (h2 d e r Q h).elim
theorem os_neg : OpS X (act1 (unaryOp .USub)) gNeg := os_of_unR (fun G pins s τ σ F H env d v u Q I ok p1 r1 q => by
  unfold gNeg at q
  split at q
  · rename_i e1
    cases e1
    cases p1.scal_int
    obtain ⟨t, rfl⟩ := r1
    exact neg_int (fin_int (I.tok _) ok q)
  · exact q.elim) (one_gen (fun _ h => h) (fun d e r Q h => by cases d <;> exact h))

/-! ### comparisons -/
def gEq : List D → (M → Prop) → Prop
  | [d, e], k => Pl 60 d ∧ Pl 60 e ∧ k (.fz (.bool (PyData.eqv d e)))
  | _, _ => False
def gNe : List D → (M → Prop) → Prop
  | [d, e], k => Pl 60 d ∧ Pl 60 e ∧ k (.fz (.bool (!PyData.eqv d e)))
  | _, _ => False
/-- data that may be ordered -/
def Ord2 (d e : D) : Prop := Pl 60 d ∧ Pl 60 e ∧ alike d e = true ∧ d ≠ .none
def ltD : D → D → Bool
  | .int i, .int j => decide (i < j)
  | d, e => dataLt d e
theorem dataLt_int (i j : Int) : dataLt (.int i) (.int j) = decide (i < j) := by
  have e := congrFun (congrFun (dataLe_int (fun b : Int => b)) j) i
  have e1 : (!dataLt (.int i) (.int j)) = decide (j ≤ i) := e
  by_cases h : i < j
  · rw [decide_eq_false (by omega)] at e1
    rw [decide_eq_true h]
    simpa using e1
  · rw [decide_eq_true (by omega)] at e1
    rw [decide_eq_false h]
    simpa using e1
theorem ltD_eq (d e : D) : ltD d e = dataLt d e := by
  unfold ltD
  split
  · exact (dataLt_int _ _).symm
  · rfl
def gLt : List D → (M → Prop) → Prop
  | [d, e], k => Ord2 d e ∧ k (.fz (.bool (ltD d e)))
  | _, _ => False
def gGt : List D → (M → Prop) → Prop
  | [d, e], k => Ord2 d e ∧ k (.fz (.bool (ltD e d)))
  | _, _ => False
def gLe : List D → (M → Prop) → Prop
  | [d, e], k => Ord2 d e ∧ k (.fz (.bool (!ltD e d)))
  | _, _ => False
def gGe : List D → (M → Prop) → Prop
  | [d, e], k => Ord2 d e ∧ k (.fz (.bool (!ltD d e)))
  | _, _ => False
theorem min_dep {a b n : Nat} (h : a ≤ n) : min a b ≤ n := Nat.le_trans (Nat.min_le_left _ _) h
theorem os_eq (hu : X.A.units + 150 < cLine) : OpS X (act2 (compareOp .Eq)) gEq := os_of_opR (fun G pins s τ σ F H env d e v w u u' Q I ok p1 p2 r1 r2 q => by
  obtain ⟨q1, q2, q⟩ := q
  obtain ⟨as, ra⟩ := Pk.reads I ok.sub p1 (Pl.plain _ _ q1).1 r1
  obtain ⟨bs, rb⟩ := Pk.reads I ok.sub p2 (Pl.plain _ _ q2).1 r2
  exact SeqAt.eq_plain ra rb (Pl.plain _ _ q1).1 (Pl.plain _ _ q2).1 (by have := min_dep (b := e.depth) (Pl.plain _ _ q1).2; omega) (fin_bool I ok q)) (two_gen (fun _ h => h) (fun d _ h => h) fun d e f r Q h => h)
theorem os_ne (hu : X.A.units + 150 < cLine) : OpS X (act2 (compareOp .NotEq)) gNe := os_of_opR (fun G pins s τ σ F H env d e v w u u' Q I ok p1 p2 r1 r2 q => by
  obtain ⟨q1, q2, q⟩ := q
  obtain ⟨as, ra⟩ := Pk.reads I ok.sub p1 (Pl.plain _ _ q1).1 r1
  obtain ⟨bs, rb⟩ := Pk.reads I ok.sub p2 (Pl.plain _ _ q2).1 r2
  exact SeqAt.ne_plain ra rb (Pl.plain _ _ q1).1 (Pl.plain _ _ q2).1 (by have := min_dep (b := e.depth) (Pl.plain _ _ q1).2; omega) (fin_bool I ok q)) (two_gen (fun _ h => h) (fun d _ h => h) fun d e f r Q h => h)
theorem os_lt (hu : X.A.units + 150 < cLine) : OpS X (act2 (compareOp .Lt)) gLt := os_of_opR (fun G pins s τ σ F H env d e v w u u' Q I ok p1 p2 r1 r2 q => by
  obtain ⟨⟨q1, q2, q3, q4⟩, q⟩ := q
  obtain ⟨as, ra⟩ := Pk.reads I ok.sub p1 (Pl.plain _ _ q1).1 r1
  obtain ⟨bs, rb⟩ := Pk.reads I ok.sub p2 (Pl.plain _ _ q2).1 r2
  rw [ltD_eq] at q
  exact PySem.W.lt_data ra rb q3 q4 (by have := min_dep (b := e.depth) (Pl.plain _ _ q1).2; omega) (fin_bool I ok q)) (two_gen (fun _ h => h) (fun d _ h => h) fun d e f r Q h => h)
theorem os_gt (hu : X.A.units + 150 < cLine) : OpS X (act2 (compareOp .Gt)) gGt := os_of_opR (fun G pins s τ σ F H env d e v w u u' Q I ok p1 p2 r1 r2 q => by
  obtain ⟨⟨q1, q2, q3, q4⟩, q⟩ := q
  obtain ⟨as, ra⟩ := Pk.reads I ok.sub p1 (Pl.plain _ _ q1).1 r1
  obtain ⟨bs, rb⟩ := Pk.reads I ok.sub p2 (Pl.plain _ _ q2).1 r2
  rw [ltD_eq] at q
  exact PySem.W.gt_data ra rb q3 q4 (by have := min_dep (b := e.depth) (Pl.plain _ _ q1).2; omega) (fin_bool I ok q)) (two_gen (fun _ h => h) (fun d _ h => h) fun d e f r Q h => h)
theorem os_le (hu : X.A.units + 150 < cLine) : OpS X (act2 (compareOp .LtE)) gLe := os_of_opR (fun G pins s τ σ F H env d e v w u u' Q I ok p1 p2 r1 r2 q => by
  obtain ⟨⟨q1, q2, q3, q4⟩, q⟩ := q
  obtain ⟨as, ra⟩ := Pk.reads I ok.sub p1 (Pl.plain _ _ q1).1 r1
  obtain ⟨bs, rb⟩ := Pk.reads I ok.sub p2 (Pl.plain _ _ q2).1 r2
  rw [ltD_eq] at q
  exact PySem.W.le_data ra rb q3 q4 (by have := min_dep (b := e.depth) (Pl.plain _ _ q1).2; omega) (fin_bool I ok q)) (two_gen (fun _ h => h) (fun d _ h => h) fun d e f r Q h => h)
theorem os_ge (hu : X.A.units + 150 < cLine) : OpS X (act2 (compareOp .GtE)) gGe := os_of_opR (fun G pins s τ σ F H env d e v w u u' Q I ok p1 p2 r1 r2 q => by
  obtain ⟨⟨q1, q2, q3, q4⟩, q⟩ := q
  obtain ⟨as, ra⟩ := Pk.reads I ok.sub p1 (Pl.plain _ _ q1).1 r1
  obtain ⟨bs, rb⟩ := Pk.reads I ok.sub p2 (Pl.plain _ _ q2).1 r2
  rw [ltD_eq] at q
  exact PySem.W.ge_data ra rb q3 q4 (by have := min_dep (b := e.depth) (Pl.plain _ _ q1).2; omega) (fin_bool I ok q)) (two_gen (fun _ h => h) (fun d _ h => h) fun d e f r Q h => h)
/-- x in xs -/
def inD (neg : Bool) : List D → (M → Prop) → Prop
  | [x, .list xs], k => Pl 60 x ∧ Pl 60 (.list xs) ∧ k (.fz (.bool (xor neg (xs.any fun y => PyData.eqv y x))))
  | [x, .tuple xs], k => Pl 60 x ∧ Pl 60 (.tuple xs) ∧ k (.fz (.bool (xor neg (xs.any fun y => PyData.eqv y x))))
  | [.str x, .str y], k => k (.fz (.bool (xor neg (!(Builtin.Str.occurrences y x 0 y.length 1).isEmpty))))
  | _, _ => False
abbrev gIn := inD false
abbrev gNotIn := inD true
theorem os_in (hu : X.A.units + 150 < cLine) : OpS X (act2 (compareOp .In)) gIn := os_of_opR (fun G pins s τ σ F H env d e v w u u' Q I ok p1 p2 r1 r2 q => by
  unfold gIn inD at q
  simp only [Bool.false_bne, Bool.false_xor] at q
  split at q
  · rename_i Q x xs e1
    cases e1
    obtain ⟨q1, q2, q⟩ := q
    obtain ⟨as, ra⟩ := Pk.reads I ok.sub p1 (Pl.plain _ _ q1).1 r1
    obtain ⟨bs, rb⟩ := Pk.reads I ok.sub p2 (Pl.plain _ _ q2).1 r2
    have hp : PyData.plainAll xs = true := by have := (Pl.plain _ _ q2).1; simpa [PyData.plain] using this
    refine SeqAt.in_list_data rb ra hp (Pl.plain _ _ q1).1 ?_ (fin_bool I ok q)
    have := (Pl.plain _ _ q1).2
    have h2 : min (PyData.depthAll xs) d.depth ≤ 60 := Nat.le_trans (Nat.min_le_right _ _) this
    omega
  · rename_i Q x xs e1
    cases e1
    obtain ⟨q1, q2, q⟩ := q
    obtain ⟨as, ra⟩ := Pk.reads I ok.sub p1 (Pl.plain _ _ q1).1 r1
    obtain ⟨bs, rb⟩ := Pk.reads I ok.sub p2 (Pl.plain _ _ q2).1 r2
    have hp : PyData.plainAll xs = true := by have := (Pl.plain _ _ q2).1; simpa [PyData.plain] using this
    refine SeqAt.in_tuple_data rb ra hp (Pl.plain _ _ q1).1 ?_ (fin_bool I ok q)
    have := (Pl.plain _ _ q1).2
    have h2 : min (PyData.depthAll xs) d.depth ≤ 60 := Nat.le_trans (Nat.min_le_right _ _) this
    omega
  · rename_i Q x y e1
    cases e1
    cases p1.scal_str; cases p2.scal_str
    exact thn (op_in_str pins s τ H (.str x) (.str y) u u' (fun z H' => H' = H ∧ z = .bl (!(Builtin.Str.occurrences y x 0 y.length 1).isEmpty)) I r1 r2 ⟨x, y, rfl, rfl, rfl, rfl⟩) fun z s' ⟨v, H', I', rv, hv⟩ => by
      obtain ⟨rfl, rfl⟩ := hv
      exact fin_dt I' ok rv (.bl _) q
  · exact q.elim) (two_gen (fun _ h => h) (fun d _ h => by cases d <;> exact h) fun d e f r Q h => by cases d <;> cases e <;> exact h)
theorem os_notIn (hu : X.A.units + 150 < cLine) : OpS X (act2 (compareOp .NotIn)) gNotIn := os_of_opR (fun G pins s τ σ F H env d e v w u u' Q I ok p1 p2 r1 r2 q => by
  unfold gNotIn inD at q
  simp only [Bool.true_bne, Bool.true_xor] at q
  split at q
  · rename_i Q x xs e1
    cases e1
    obtain ⟨q1, q2, q⟩ := q
    obtain ⟨as, ra⟩ := Pk.reads I ok.sub p1 (Pl.plain _ _ q1).1 r1
    obtain ⟨bs, rb⟩ := Pk.reads I ok.sub p2 (Pl.plain _ _ q2).1 r2
    have hp : PyData.plainAll xs = true := by have := (Pl.plain _ _ q2).1; simpa [PyData.plain] using this
    refine SeqAt.notIn_list_data rb ra hp (Pl.plain _ _ q1).1 ?_ (fin_bool I ok q)
    have := (Pl.plain _ _ q1).2
    have h2 : min (PyData.depthAll xs) d.depth ≤ 60 := Nat.le_trans (Nat.min_le_right _ _) this
    omega
  · rename_i Q x xs e1
    cases e1
    obtain ⟨q1, q2, q⟩ := q
    obtain ⟨as, ra⟩ := Pk.reads I ok.sub p1 (Pl.plain _ _ q1).1 r1
    obtain ⟨bs, rb⟩ := Pk.reads I ok.sub p2 (Pl.plain _ _ q2).1 r2
    have hp : PyData.plainAll xs = true := by have := (Pl.plain _ _ q2).1; simpa [PyData.plain] using this
    refine SeqAt.notIn_tuple_data rb ra hp (Pl.plain _ _ q1).1 ?_ (fin_bool I ok q)
    have := (Pl.plain _ _ q1).2
    have h2 : min (PyData.depthAll xs) d.depth ≤ 60 := Nat.le_trans (Nat.min_le_right _ _) this
    omega
  · rename_i Q x y e1
    cases e1
    cases p1.scal_str; cases p2.scal_str
    exact thn (op_notIn_str pins s τ H (.str x) (.str y) u u' (fun z H' => H' = H ∧ z = .bl (!(!(Builtin.Str.occurrences y x 0 y.length 1).isEmpty))) I r1 r2 ⟨x, y, rfl, rfl, rfl, rfl⟩) fun z s' ⟨v, H', I', rv, hv⟩ => by
      obtain ⟨rfl, rfl⟩ := hv
      exact fin_dt I' ok rv (.bl _) q
  · exact q.elim) (two_gen (fun _ h => h) (fun d _ h => by cases d <;> exact h) fun d e f r Q h => by cases d <;> cases e <;> exact h)
/-- x is None, x is not None -/
def isN : D → Bool
  | .none => true
  | _ => false
def gIs : List D → (M → Prop) → Prop
  | [d, .none], k => k (.fz (.bool (isN d)))
  | _, _ => False
def gIsNot : List D → (M → Prop) → Prop
  | [d, .none], k => k (.fz (.bool (!isN d)))
  | _, _ => False
theorem Pk.isN {K : Fg} {F H : Hp} {v : V} {d : D} (h : Pk K F H v d) : decide (v = .non) = VL.isN d := by
  cases h with
  | fz h => cases h <;> rfl
  | lst _ _ => rfl
  | dct _ => rfl
theorem os_is : OpS X (act2 (compareOp .Is)) gIs := os_of_opR (fun G pins s τ σ F H env d e v w u u' Q I ok p1 p2 r1 r2 q => by
  unfold gIs at q
  split at q
  · rename_i e1
    cases e1
    cases p2.scal_non
    exact thn (op_isN pins s τ H v .non u u' (fun z H' => H' = H ∧ z = .bl (decide (v = .non))) I r1 r2 ⟨rfl, rfl, rfl⟩) fun z s' ⟨v', H', I', rv, hv⟩ => by
      obtain ⟨rfl, rfl⟩ := hv
      rw [p1.isN] at rv
      exact fin_dt I' ok rv (.bl _) q
  · exact q.elim) (two_gen (fun _ h => h) (fun d _ h => by cases d <;> exact h) fun d e f r Q h => by cases d <;> cases e <;> exact h)
theorem os_isNot : OpS X (act2 (compareOp .IsNot)) gIsNot := os_of_opR (fun G pins s τ σ F H env d e v w u u' Q I ok p1 p2 r1 r2 q => by
  unfold gIsNot at q
  split at q
  · rename_i e1
    cases e1
    cases p2.scal_non
    exact thn (op_notN pins s τ H v .non u u' (fun z H' => H' = H ∧ z = .bl (!decide (v = .non))) I r1 r2 ⟨rfl, rfl, rfl⟩) fun z s' ⟨v', H', I', rv, hv⟩ => by
      obtain ⟨rfl, rfl⟩ := hv
      rw [p1.isN] at rv
      exact fin_dt I' ok rv (.bl _) q
  · exact q.elim) (two_gen (fun _ h => h) (fun d _ h => by cases d <;> exact h) fun d e f r Q h => by cases d <;> cases e <;> exact h)
end
end VL

/-! VlF: built-in functions, subscripts, slices. -/
namespace VL
open PySem PySem.Spec PyProof.Rows L2
open PySem.W (alike dataLt dataLe AllAlike Sortable AlikeAll maxD minD)

section
variable {X : Cx}
theorem os_callR {f : Value} {g : List D → (M → Prop) → Prop}
    (h : ∀ (G : Gh) (pins : List (Addr × Obj)) (s : Shared) (τ σ : L2.St) (F H : Hp) (env : Env) (d : D) (v : V) (u : Value) (Q : M → Prop), Inv X pins τ H s → EnvOk X.K X.mg G F H σ env → Pk X.K F H v d → RelV v u → g [d] Q →
      wpAny (model X.prog X.w) X.A (call f [u]) (PostM X pins τ σ G F env Q) X.xe s) (hg : ∀ ds Q, g ds Q → ∃ d, ds = [d]) : OpS X (fun us => call f us) g := fun G pins s τ σ F H env vs us ds Q I ok pk r q => by
  obtain ⟨d, rfl⟩ := hg ds Q q
  obtain ⟨v, rfl, p1⟩ := pk.one
  obtain ⟨u, rfl, r1⟩ := vals1 r
  exact h G pins s τ σ F H env d v u Q I ok p1 r1 q
theorem os_callR2 {f : Value} {g : List D → (M → Prop) → Prop}
    (h : ∀ (G : Gh) (pins : List (Addr × Obj)) (s : Shared) (τ σ : L2.St) (F H : Hp) (env : Env) (d e : D) (v w : V) (u u' : Value) (Q : M → Prop), Inv X pins τ H s → EnvOk X.K X.mg G F H σ env → Pk X.K F H v d → Pk X.K F H w e → RelV v u → RelV w u' → g [d, e] Q →
      wpAny (model X.prog X.w) X.A (call f [u, u']) (PostM X pins τ σ G F env Q) X.xe s) (hg : ∀ ds Q, g ds Q → ∃ d e, ds = [d, e]) : OpS X (fun us => call f us) g := fun G pins s τ σ F H env vs us ds Q I ok pk r q => by
  obtain ⟨d, e, rfl⟩ := hg ds Q q
  obtain ⟨v, w, rfl, p1, p2⟩ := pk.two
  obtain ⟨u, u', rfl, r1, r2⟩ := vals2 r
  exact h G pins s τ σ F H env d e v w u u' Q I ok p1 p2 r1 r2 q
def gLen : List D → (M → Prop) → Prop
  | [.list xs], k => k (.fz (.int xs.length))
  | [.tuple xs], k => k (.fz (.int xs.length))
  | [.str z], k => z.length ≤ 16777216 ∧ k (.fz (.int z.length))
  | _, _ => False
theorem os_len : OpS X (fun us => call (.builtin "len") us) gLen := os_callR (fun G pins s τ σ F H env d v u Q I ok p1 r1 q => by
  have fin : ∀ n : Nat, LenV X.K v H n → Q (.fz (.int n)) → wpAny (model X.prog X.w) X.A (call (.builtin "len") [u]) (PostM X pins τ σ G F env Q) X.xe s := fun n hl q =>
    thn (call_len pins s τ H [v] [u] (fun z H' => H' = H ∧ z = .int n) I (.cons r1 .nil) ⟨v, n, rfl, hl, rfl, rfl⟩) fun z s' ⟨v', H', I', rv, hv⟩ => by
      obtain ⟨rfl, rfl⟩ := hv
      exact fin_dt I' ok rv (.int _) q
  unfold gLen at q
  split at q
  · rename_i Q xs e1
    cases e1
    obtain ⟨a, vs, rfl, h1, h2⟩ := p1.list ok.sub
    exact fin xs.length (.inl ⟨vs, h1.sqL, h2.length.symm⟩) q
  · rename_i Q xs e1
    cases e1
    obtain ⟨a, vs, rfl, h1, h2⟩ := p1.tuple
    exact fin xs.length (.inr ⟨vs, sqT_le ok.sub h1.sqT, h2.length.symm⟩) q
  · rename_i Q z e1
    cases e1
    cases p1.scal_str
    exact fin z.length ⟨line_of q.1, rfl⟩ q.2
  · exact q.elim) (one_gen (fun _ h => h) (fun d e r Q h => by cases d <;> exact h))
def gAbs : List D → (M → Prop) → Prop
  | [.int i], k => k (.fz (.int (if i < 0 then -i else i)))
  | _, _ => False
theorem os_abs : OpS X (fun us => call (.builtin "abs") us) gAbs := os_callR (fun G pins s τ σ F H env d v u Q I ok p1 r1 q => by
  unfold gAbs at q
  split at q
  · rename_i i e1
    cases e1
    cases p1.scal_int
    exact thn (call_abs pins s τ H [.int _] [u] (fun z H' => H' = H ∧ z = .int (if i < 0 then -i else i)) I (.cons r1 .nil) ⟨i, rfl, rfl, rfl⟩) fun z s' ⟨v', H', I', rv, hv⟩ => by
      obtain ⟨rfl, rfl⟩ := hv
      exact fin_dt I' ok rv (.int _) q
  · exact q.elim) (one_gen (fun _ h => h) (fun d e r Q h => by cases d <;> exact h))
def b2 (k : Bool) : Int := if k then 1 else 0
def gInt : List D → (M → Prop) → Prop
  | [.int i], k => k (.fz (.int i))
  | [.bool b], k => k (.fz (.int (b2 b)))
  | _, _ => False
theorem os_int : OpS X (fun us => call (.type "int") us) gInt := os_callR (fun G pins s τ σ F H env d v u Q I ok p1 r1 q => by
  unfold gInt at q
  split at q
  · rename_i i e1
    cases e1
    cases p1.scal_int
    exact thn (call_int1 pins s τ H [.int i] [u] (fun z H' => H' = H ∧ z = .int i) I (.cons r1 .nil) (.inl ⟨i, rfl, rfl, rfl⟩)) fun z s' ⟨v', H', I', rv, hv⟩ => by
      obtain ⟨rfl, rfl⟩ := hv
      exact fin_dt I' ok rv (.int _) q
  · rename_i b e1
    cases e1
    cases p1.scal_bl
    exact thn (call_int1 pins s τ H [.bl b] [u] (fun z H' => H' = H ∧ z = .int (b2 b)) I (.cons r1 .nil) (.inr ⟨b, rfl, rfl, rfl⟩)) fun z s' ⟨v', H', I', rv, hv⟩ => by
      obtain ⟨rfl, rfl⟩ := hv
      exact fin_dt I' ok rv (.int _) q
  · exact q.elim) (one_gen (fun _ h => h) (fun d e r Q h => by cases d <;> exact h))
def gMin2 : List D → (M → Prop) → Prop
  | [.int i, .int j], k => k (.fz (.int (if j < i then j else i)))
  | _, _ => False
def gMax2 : List D → (M → Prop) → Prop
  | [.int i, .int j], k => k (.fz (.int (if j > i then j else i)))
  | _, _ => False
theorem os_min2 (hc : X.calm = true) : OpS X (fun us => call (.builtin "min") us) gMin2 := os_callR2 (fun G pins s τ σ F H env d e v w u u' Q I ok p1 p2 r1 r2 q => by
  unfold gMin2 at q
  split at q
  · rename_i i j e1
    cases e1
    cases p1.scal_int; cases p2.scal_int
    exact thn (call_min2 hc pins s τ H [.int i, .int j] [u, u'] (fun z H' => H' = H ∧ z = .int (if j < i then j else i)) I (.cons r1 (.cons r2 .nil)) ⟨i, j, rfl, rfl, rfl⟩) fun z s' ⟨v', H', I', rv, hv⟩ => by
      obtain ⟨rfl, rfl⟩ := hv
      exact fin_dt I' ok rv (.int _) q
  · exact q.elim) (two_gen (fun _ h => h) (fun d _ h => by cases d <;> exact h) fun d e f r Q h => by cases d <;> cases e <;> exact h)
theorem os_max2 (hc : X.calm = true) : OpS X (fun us => call (.builtin "max") us) gMax2 := os_callR2 (fun G pins s τ σ F H env d e v w u u' Q I ok p1 p2 r1 r2 q => by
  unfold gMax2 at q
  split at q
  · rename_i i j e1
    cases e1
    cases p1.scal_int; cases p2.scal_int
    exact thn (call_max2 hc pins s τ H [.int i, .int j] [u, u'] (fun z H' => H' = H ∧ z = .int (if j > i then j else i)) I (.cons r1 (.cons r2 .nil)) ⟨i, j, rfl, rfl, rfl⟩) fun z s' ⟨v', H', I', rv, hv⟩ => by
      obtain ⟨rfl, rfl⟩ := hv
      exact fin_dt I' ok rv (.int _) q
  · exact q.elim) (two_gen (fun _ h => h) (fun d _ h => by cases d <;> exact h) fun d e f r Q h => by cases d <;> cases e <;> exact h)
/-- the greatest, the least of a list -/
def gMax1 : List D → (M → Prop) → Prop
  | [.list (x :: xs)], k => Pl 60 (.list (x :: xs)) ∧ AlikeAll (x :: xs) ∧ k (.fz (maxD x xs))
  | [.tuple (x :: xs)], k => Pl 60 (.tuple (x :: xs)) ∧ AlikeAll (x :: xs) ∧ k (.fz (maxD x xs))
  | _, _ => False
def gMin1 : List D → (M → Prop) → Prop
  | [.list (x :: xs)], k => Pl 60 (.list (x :: xs)) ∧ AlikeAll (x :: xs) ∧ k (.fz (minD x xs))
  | [.tuple (x :: xs)], k => Pl 60 (.tuple (x :: xs)) ∧ AlikeAll (x :: xs) ∧ k (.fz (minD x xs))
  | _, _ => False
/-- an item of what is read, by its place -/
theorem item_fin {G : Gh} {pins : List (Addr × Obj)} {s : Shared} {τ σ : L2.St} {F H : Hp} {env : Env} {ds : List D} {vs : List V} {us : List Value} {i : Nat} {u : Value} {d : D} {Q : M → Prop} {h' : Heap} {tk : Nat} {bs : List Addr} (I : Inv X pins τ H s) (ok : EnvOk X.K X.mg G F H σ env)
    (r : Vals vs us) (h : DtAll X.K F vs ds) (hp : PyData.plainAll ds = true) (e : us[i]? = some u) (k : ∀ b o, s.heap.get? b = some o → h'.get? b = some o) (rd : Reads h' u d bs) (q : Q (.fz d)) : PostM X pins τ σ G F env Q u { s with heap := h', toks := tk } := by
  have I' : Inv X pins τ H { s with heap := h', toks := tk } := I.kept k
  have hi : i < vs.length := by rw [r.length]; exact (List.getElem?_eq_some_iff.mp e).1
  obtain ⟨u2, e2, rv⟩ := r.get (List.getElem?_eq_getElem hi)
  rw [e] at e2
  cases e2
  obtain ⟨d2, e3, dt⟩ := h.get (List.getElem?_eq_getElem hi)
  obtain ⟨as, rd2⟩ := Dt.reads I' ok.sub dt rv
  have hd2 : d2.plain = true := PySem.W.plain_mem hp (List.mem_of_getElem? e3)
  have e4 := SeqAt.plain_unique d2 d u as bs hd2 rd2 rd
  subst e4
  exact fin_dt I' ok rv dt q
theorem os_max1 (hu : X.A.units + 150 < cLine) (hc : X.calm = true) : OpS X (fun us => call (.builtin "max") us) gMax1 := os_callR (fun G pins s τ σ F H env d v u Q I ok p1 r1 q => by
  unfold gMax1 at q
  split at q
  · rename_i Q x xs e1
    cases e1
    obtain ⟨q1, q2, q⟩ := q
    obtain ⟨a, vs, rfl, h1, h2⟩ := p1.list ok.sub
    cases r1
    obtain ⟨z1, its, n, rv, e⟩ := Inv.lstR I h1
    obtain ⟨as, hr⟩ := DtAll.reads I ok.sub h2 rv
    obtain ⟨pl, dp⟩ := Pl.plain _ _ q1
    have pl' : PyData.plainAll (x :: xs) = true := by simpa [PyData.plain] using pl
    have dp' : PyData.depthAll (x :: xs) + 1 ≤ 60 := by simpa [PyData.depth] using dp
    refine PySem.W.max_list_data (I.ok.hd hc) ⟨_, e, rfl, _, rfl⟩ (by simpa using hr) q2 (by omega) fun i v h' tk bs hi rd k => ?_
    exact item_fin I ok rv h2 pl' (by simpa using hi) k rd q
  · rename_i Q x xs e1
    cases e1
    obtain ⟨q1, q2, q⟩ := q
    obtain ⟨a, vs, rfl, h1, h2⟩ := p1.tuple
    cases r1
    obtain ⟨its, rv, tt, z1⟩ := I.tuple (sqT_le ok.sub h1.sqT)
    obtain ⟨as, hr⟩ := DtAll.reads I ok.sub h2 rv
    obtain ⟨pl, dp⟩ := Pl.plain _ _ q1
    have pl' : PyData.plainAll (x :: xs) = true := by simpa [PyData.plain] using pl
    have dp' : PyData.depthAll (x :: xs) + 1 ≤ 60 := by simpa [PyData.depth] using dp
    refine PySem.W.max_tuple_data (I.ok.hd hc) tt (by simpa using hr) q2 (by omega) fun i v h' tk bs hi rd k => ?_
    exact item_fin I ok rv h2 pl' (by simpa using hi) k rd q
  · exact q.elim) (one_gen (fun _ h => h) (fun d e r Q h => by unfold gMax1 at h; split at h <;> simp_all))
theorem os_min1 (hu : X.A.units + 150 < cLine) (hc : X.calm = true) : OpS X (fun us => call (.builtin "min") us) gMin1 := os_callR (fun G pins s τ σ F H env d v u Q I ok p1 r1 q => by
  unfold gMin1 at q
  split at q
  · rename_i Q x xs e1
    cases e1
    obtain ⟨q1, q2, q⟩ := q
    obtain ⟨a, vs, rfl, h1, h2⟩ := p1.list ok.sub
    cases r1
    obtain ⟨z1, its, n, rv, e⟩ := Inv.lstR I h1
    obtain ⟨as, hr⟩ := DtAll.reads I ok.sub h2 rv
    obtain ⟨pl, dp⟩ := Pl.plain _ _ q1
    have pl' : PyData.plainAll (x :: xs) = true := by simpa [PyData.plain] using pl
    have dp' : PyData.depthAll (x :: xs) + 1 ≤ 60 := by simpa [PyData.depth] using dp
    refine PySem.W.min_list_data (I.ok.hd hc) ⟨_, e, rfl, _, rfl⟩ (by simpa using hr) q2 (by omega) fun i v h' tk bs hi rd k => ?_
    exact item_fin I ok rv h2 pl' (by simpa using hi) k rd q
  · rename_i Q x xs e1
    cases e1
    obtain ⟨q1, q2, q⟩ := q
    obtain ⟨a, vs, rfl, h1, h2⟩ := p1.tuple
    cases r1
    obtain ⟨its, rv, tt, z1⟩ := I.tuple (sqT_le ok.sub h1.sqT)
    obtain ⟨as, hr⟩ := DtAll.reads I ok.sub h2 rv
    obtain ⟨pl, dp⟩ := Pl.plain _ _ q1
    have pl' : PyData.plainAll (x :: xs) = true := by simpa [PyData.plain] using pl
    have dp' : PyData.depthAll (x :: xs) + 1 ≤ 60 := by simpa [PyData.depth] using dp
    refine PySem.W.min_tuple_data (I.ok.hd hc) tt (by simpa using hr) q2 (by omega) fun i v h' tk bs hi rd k => ?_
    exact item_fin I ok rv h2 pl' (by simpa using hi) k rd q
  · exact q.elim) (one_gen (fun _ h => h) (fun d e r Q h => by unfold gMin1 at h; split at h <;> simp_all))
/-! tuple(x), list(x) -/
def gTuple : List D → (M → Prop) → Prop
  | [.list xs], k => k (.fz (.tuple xs))
  | [.tuple xs], k => k (.fz (.tuple xs))
  | _, _ => False
def gList : List D → (M → Prop) → Prop
  | [.list xs], k => k (.lst xs)
  | [.tuple xs], k => k (.lst xs)
  | _, _ => False
theorem os_tuple : OpS X (fun us => call (.type "tuple") us) gTuple := os_callR (fun G pins s τ σ F H env d v u Q I ok p1 r1 q => by
  have hs : sizeLine = 16777216 := sizeLine_eq
  unfold gTuple at q
  split at q
  · rename_i Q xs e1
    cases e1
    obtain ⟨a, vs, rfl, h1, h2⟩ := p1.list ok.sub
    cases r1
    obtain ⟨its, rv, pl, z1⟩ := I.list h1.sqL
    refine call_tuple_list pl.isList (fun h' kp => ?_) (by simp only [List.size_toArray]; have := rv.length; omega)
    have I1 : Inv X pins τ H { s with heap := h' } := I.kept (t' := s.toks) kp
    exact fin_tup (s := { s with heap := h' }) (t' := s.toks) I1 ok (fun b o e => Heap.get?_push_of_some _ e) (Nat.le_refl _) rv z1 (Heap.get?_push_size _ rfl) h2 q
  · rename_i Q xs e1
    cases e1
    obtain ⟨a, vs, rfl, h1, h2⟩ := p1.tuple
    cases r1
    obtain ⟨its, rv, pl, z1⟩ := I.tuple (sqT_le ok.sub h1.sqT)
    exact call_tuple_same pl (fin_dt (v := .ref a) I ok rfl (.tup h1 h2) q)
  · exact q.elim) (one_gen (fun _ h => h) (fun d e r Q h => by cases d <;> exact h))
theorem os_list : OpS X (fun us => call (.type "list") us) gList := os_callR (fun G pins s τ σ F H env d v u Q I ok p1 r1 q => by
  have hs : sizeLine = 16777216 := sizeLine_eq
  unfold gList at q
  split at q
  · rename_i Q xs e1
    cases e1
    obtain ⟨a, vs, rfl, h1, h2⟩ := p1.list ok.sub
    cases r1
    obtain ⟨its, rv, pl, z1⟩ := I.list h1.sqL
    obtain ⟨o, ho, hc, n, hd⟩ := pl.isList
    exact call_list_seq a (.inl rfl) ho hc hd (fun h' c' kp e => fin_lst I ok kp (Nat.le_refl _) rv z1 e h2 q) (by simp only [List.size_toArray]; have := rv.length; omega)
  · rename_i Q xs e1
    cases e1
    obtain ⟨a, vs, rfl, h1, h2⟩ := p1.tuple
    cases r1
    obtain ⟨its, rv, pl, z1⟩ := I.tuple (sqT_le ok.sub h1.sqT)
    obtain ⟨o, ho, hc, n, hd⟩ := pl
    exact call_list_seq a (.inr rfl) ho hc hd (fun h' c' kp e => fin_lst I ok kp (Nat.le_refl _) rv z1 e h2 q) (by simp only [List.size_toArray]; have := rv.length; omega)
  · exact q.elim) (one_gen (fun _ h => h) (fun d e r Q h => by cases d <;> exact h))
/-! sorted(xs) -/
def gSorted : List D → (M → Prop) → Prop
  | [.list xs], k => (∀ x ∈ xs, Pl 60 x) ∧ AllAlike xs ∧ Sortable xs ∧ k (.lst (xs.mergeSort (dataLe false id)))
  | _, _ => False
theorem each_of {R : Value → V × D → Prop} {F : Hp} (h : ∀ v d u, Dt X.K F v d → RelV v u → R u (v, d)) : ∀ {vs : List V} {ds : List D} {us : List Value}, DtAll X.K F vs ds → Vals vs us → PySem.W.EachIs R us (vs.zip ds)
  | _, _, _, .nil, .nil => .nil
  | _, _, _, .cons a b, .cons c e => .cons (h _ _ _ a c) (each_of h b e)
theorem of_each {F : Hp} : ∀ {us : List Value} {ps : List (V × D)}, PySem.W.EachIs (fun u (p : V × D) => RelV p.1 u ∧ Dt X.K F p.1 p.2) us ps → Vals (ps.map (·.1)) us ∧ DtAll X.K F (ps.map (·.1)) (ps.map (·.2))
  | _, _, .nil => ⟨.nil, .nil⟩
  | _, _, .cons h r => ⟨.cons h.1 (of_each r).1, .cons h.2 (of_each r).2⟩
theorem os_sorted (hu : X.A.units + 150 < cLine) : OpS X (fun us => call (.builtin "sorted") us) gSorted := os_callR (fun G pins s τ σ F H env d v u Q I ok p1 r1 q => by
  unfold gSorted at q
  split at q
  · rename_i Q xs e1
    cases e1
    obtain ⟨q1, q2, q3, q⟩ := q
    obtain ⟨a, vs, rfl, h1, h2⟩ := p1.list ok.sub
    cases r1
    obtain ⟨z1, its, n, rv, e⟩ := Inv.lstR I h1
    have hl := h2.length
    have emap : (vs.zip xs).map (fun p => p.2) = xs := List.map_snd_zip (by omega)
    have e1 : PySem.W.EachIs (fun u (p : V × D) => RelV p.1 u ∧ Dt X.K F p.1 p.2) its (vs.zip xs) := each_of (fun v d u a b => ⟨b, a⟩) h2 rv
    have e2 : PySem.W.EachIs (fun u (p : V × D) => ∃ as, Reads s.heap u p.2 as) its (vs.zip xs) := e1.mono fun u p ⟨a, b⟩ => Dt.reads I ok.sub b a
    refine PySem.W.sorted_data (enc := fun p : V × D => p.2) ⟨_, e, rfl, _, rfl⟩ e1 e2 (by rw [emap]; exact q2) (by rw [emap]; exact q3) (by rw [List.length_zip]; omega) (fun p hp => ?_) fun out hlen ho => ?_
    · have := (Pl.plain _ _ (q1 p.2 (List.of_mem_zip hp).2)).2
      omega
    · obtain ⟨o1, o2⟩ := of_each ho
      obtain ⟨ep, he'⟩ := PyProof.Rows.sortedAll_at s.heap its out.toArray
      have em : ((vs.zip xs).mergeSort (dataLe false fun p : V × D => p.2)).map (fun p => p.2) = xs.mergeSort (dataLe false id) := by
        have := PySem.W.sort_maps (r := dataLe false fun p : V × D => p.2) (s := dataLe false (id : D → D)) (fun p : V × D => p.2) (l := vs.zip xs) (fun a _ b _ => rfl)
        rw [emap] at this
        exact this
      rw [em] at o2
      refine fin_lst I ok (fun _ _ => PyProof.Rows.sortedAll_old) (Nat.le_succ _) o1 ?_ he' o2 q
      rw [List.length_map, List.length_mergeSort, List.length_zip]
      omega
  · exact q.elim) (one_gen (fun _ h => h) (fun d e r Q h => by cases d <;> exact h))
/-! repr -/
def gRepr : List D → (M → Prop) → Prop
  | [d], k => Pl 60 d ∧ d.showable = true ∧ d.shown.length ≤ 16777216 ∧ k (.fz (.str d.shown))
  | _, _ => False
mutual
theorem hasDict_of_plain : ∀ d : D, d.plain = true → d.hasDict = false
  | .none, _ => by simp only [PyData.hasDict]
  | .bool _, _ => by simp only [PyData.hasDict]
  | .int _, _ => by simp only [PyData.hasDict]
  | .str _, _ => by simp only [PyData.hasDict]
  | .list xs, h => by simp only [PyData.hasDict]; exact hasDictAll_of_plain xs (by simpa [PyData.plain] using h)
  | .tuple xs, h => by simp only [PyData.hasDict]; exact hasDictAll_of_plain xs (by simpa [PyData.plain] using h)
  | .dict _, h => by simp [PyData.plain] at h
theorem hasDictAll_of_plain : ∀ xs : List D, PyData.plainAll xs = true → PyData.hasDictAll xs = false
  | [], _ => by simp only [PyData.hasDictAll]
  | x :: xs, h => by
    have h' : x.plain = true ∧ PyData.plainAll xs = true := by simpa [PyData.plainAll] using h
    simp only [PyData.hasDictAll, hasDict_of_plain x h'.1, hasDictAll_of_plain xs h'.2, Bool.or_self]
end
theorem os_repr (hu : X.A.units + 150 < cLine) (hg : X.A.guards = some []) : OpS X (fun us => call (.builtin "repr") us) gRepr := os_callR (fun G pins s τ σ F H env d v u Q I ok p1 r1 q => by
  obtain ⟨q1, q2, q3, q⟩ := q
  obtain ⟨pl, dp⟩ := Pl.plain _ _ q1
  obtain ⟨as, rd⟩ := Pk.reads I ok.sub p1 pl r1
  have hd := hasDict_of_plain d pl
  cases rd with
  | none => exact PySem.P.repr_of_none (fin_str (I.tok _) ok q)
  | bool b => exact PySem.P.repr_of_bool (fin_str (I.tok _) ok (by simpa only [PyData.shown] using q))
  | int i t => exact PySem.P.repr_of_int (by simpa [PyData.showable] using q2) (fin_str (I.tok _) ok q)
  | str x t => exact PySem.P.repr_of_str (fin_str (I.tok _) ok q) (line_of q3)
  | list h1 h2 h3 h4 => exact repr_of_reads' (.list h1 h2 h3 h4) q2 (PyData.noDict_hsm hd) hg (by omega) (fun _ _ e => e) (fun h' t tk k => fin_str (I.kept (t' := tk) k) ok q) (line_of q3)
  | tuple h1 h2 h3 h4 => exact repr_of_reads' (.tuple h1 h2 h3 h4) q2 (PyData.noDict_hsm hd) hg (by omega) (fun _ _ e => e) (fun h' t tk k => fin_str (I.kept (t' := tk) k) ok q) (line_of q3)
  | dict h1 h2 h3 h4 h5 => simp [PyData.plain] at pl) (one_gen (fun _ h => h) (fun d e r Q h => h))
end
end VL

/-! VlG: ranges as arguments, all, any, sum, isinstance, subscripts, slices. -/
namespace VL
open PySem PySem.Spec PyProof.Rows L2
open PySem.W (alike dataLt dataLe AllAlike Sortable AlikeAll maxD minD)

/-! ### range(..) as an argument -/
abbrev FRg := Env → (Int → Int → Env → Prop) → KX → Prop
def liftRg (K : Fg) (mg : Mg) (G : Gh) (W : KX) (f : FRg) : L2.St → Hp → (Int → Int → Hp → Prop) → Prop := fun σ H Qh => ∃ F env Q, EnvOk K mg G F H σ env ∧ f env Q W ∧
  ∀ a b env' F' H', EnvOk K mg G F' H' σ env' → Le F F' → Q a b env' → Qh a b H'
def VR (X : Cx) (e : Expr) (f : FRg) : Prop := ∀ G W, Takes X (liftW X.K X.mg G W) → PRg X e (liftRg X.K X.mg G W f)
/-- the value is an int -/
def fI (fe : FE) (env : Env) (Q : Int → Env → Prop) (W : KX) : Prop := fe env (fun r env1 => match r with
  | .val (.fz (.int i)) => Q i env1
  | _ => False) W
def fRg1 (fa : FE) : FRg := fun env Q W => fI fa env (fun n env1 => Q 0 n env1) W
def fRg2 (fa fb : FE) : FRg := fun env Q W => fI fa env (fun i env1 => fI fb env1 (fun j env2 => Q i j env2) W) W
section
variable {X : Cx}
theorem lift_i {fa : FE} {G : Gh} {W : KX} {σ : L2.St} {H F : Hp} {env : Env} {Q : Int → Env → Prop} {Qh : V → Hp → Prop} (ok : EnvOk X.K X.mg G F H σ env) (hf : fI fa env Q W)
    (q : ∀ i env' F' H', EnvOk X.K X.mg G F' H' σ env' → Le F F' → Q i env' → Qh (.int i) H') : liftE X.K X.mg G W fa σ H Qh := by
  refine ⟨F, env, _, ok, hf, fun r env1 v F1 H1 ok1 l1 rr hq => ?_⟩
  cases r with
  | slot i => exact hq.elim
  | val m =>
    cases m with
    | lst ds => exact hq.elim
    | dct ds => exact hq.elim
    | gl ds => exact hq.elim
    | fz d =>
      cases d with
      | int k =>
        have rm : Dt X.K F1 v (.int k) := rr.rm
        cases rm
        exact q k env1 F1 H1 ok1 l1 hq
      | _ => exact hq.elim
theorem prg_imp {e : Expr} {t t' : L2.St → Hp → (Int → Int → Hp → Prop) → Prop} (h : PRg X e t) (i : ∀ σ H Q, t' σ H Q → t σ H Q) : PRg X e t' := fun pins s σ H Q I q => h pins s σ H Q I (i σ H Q q)
theorem vr_1 {a : Expr} {fa : FE} {p pos : Pos} (hg : Gl X "range") (hm : X.mg "range" = none) (ha : VE X a fa) (na : starEach [a] X.env = (false, eval a X.env) :: starEach [] X.env := by rfl) : VR X (.Call (.Name "range" p) [a] [] pos) (fRg1 fa) := fun G W t =>
  prg_imp (prg_1 hg hm (ha G W t) na) fun σ H Qh hw => by
    obtain ⟨F, env, Q, ok, hf, q⟩ := hw
    exact lift_i ok hf fun n env1 F1 H1 ok1 l1 hq => ⟨n, rfl, q 0 n env1 F1 H1 ok1 l1 hq⟩
theorem vr_2 {a b : Expr} {fa fb : FE} {p pos : Pos} (hg : Gl X "range") (hm : X.mg "range" = none) (ha : VE X a fa) (hb : VE X b fb) (na : starEach [a, b] X.env = (false, eval a X.env) :: starEach [b] X.env := by rfl)
    (nb : starEach [b] X.env = (false, eval b X.env) :: starEach [] X.env := by rfl) (hp : (backTo pos (starEach [b] X.env)).any (·.1) = false := by rfl) : VR X (.Call (.Name "range" p) [a, b] [] pos) (fRg2 fa fb) := fun G W t =>
  prg_imp (prg_2 hg hm (ha G W t) (hb G W t) na nb hp) fun σ H Qh hw => by
    obtain ⟨F, env, Q, ok, hf, q⟩ := hw
    refine lift_i ok hf fun i env1 F1 H1 ok1 l1 hq => ?_
    exact lift_i ok1 hq fun j env2 F2 H2 ok2 l2 hq => ⟨i, j, rfl, rfl, q i j env2 F2 H2 ok2 (l1.trans l2) hq⟩
def rgD (a b : Int) : List D := (List.range (b - a).toNat).map fun i => .int (a + (i : Nat))
theorem rgD_length (a b : Int) : (rgD a b).length = (b - a).toNat := by unfold rgD; rw [List.length_map, List.length_range]
theorem dt_rg {K : Fg} {F : Hp} (a b : Int) : DtAll K F (rgV a b) (rgD a b) := by
  have h : ∀ l : List Nat, DtAll K F (l.map fun i => V.int (a + (i : Nat))) (l.map fun i => PyData.int (a + (i : Nat))) := fun l => by
    induction l with
    | nil => exact .nil
    | cons x l ih => exact .cons (.int _) ih
  exact h _
def RgFit (a b : Int) : Prop := -1000000000 ≤ a ∧ a ≤ 1000000000 ∧ -1000000000 ≤ b ∧ b ≤ 1000000000 ∧ b - a ≤ 16777216
theorem RgFit.ok {a b : Int} (h : RgFit a b) : RgOk a b := by
  obtain ⟨h1, h2, h3, h4, h5⟩ := h
  exact ⟨by omega, by omega, by omega, by omega, by omega⟩
def fTupRg (fr : FRg) : FE := fun env Q W => fr env (fun a b env1 => RgFit a b ∧ Q (.val (.fz (.tuple (rgD a b)))) env1) W
def fLstRg (fr : FRg) : FE := fun env Q W => fr env (fun a b env1 => RgFit a b ∧ Q (.val (.lst (rgD a b))) env1) W
variable {e : Expr} {fr : FRg} {te : L2.St → Hp → (Int → Int → Hp → Prop) → Prop}
def tTupRgP (te : L2.St → Hp → (Int → Int → Hp → Prop) → Prop) : TE := fun σ H Q => te σ H fun a b H1 => RgOk a b ∧ ∀ q us, H1 q = none → Q (.ref q) (upd H1 q (tupH us (rgV a b)))
theorem pe_tupRgP {p pos : Pos} (hc : X.calm = true) (hg : Gl X "tuple") (hm : X.mg "tuple" = none) (he : PRg X e te) (na : starEach [e] X.env = (false, eval e X.env) :: starEach [] X.env := by rfl) : PE X (.Call (.Name "tuple" p) [e] [] pos) (tTupRgP te) := by
  refine ⟨fun pins s σ H Q I h => ?_⟩
  refine Call_ (ld_blt I hg hm boot_tuple (PyProof.Rows.callWith_type1 (args_cons (thn (he pins s σ H _ I h) fun x s1 ⟨r, a, b, t, u, v, H1, ex, hr, I1, ok, q⟩ => args_nil ?_) na) na))
  subst ex
  obtain ⟨b1, b2, b3, b4, b5⟩ := ok
  refine call_tuple_range (n := (b - a).toNat) (I1.ok.hd hc) hr (small_one b1 b2 b3 b4) (rangeSize_nat a b) b5 fun h' tk acc hk hi => ?_
  have I2 : Inv X pins σ H1 { s1 with heap := h', toks := tk } := I1.kept hk
  have hz : (rgV a b).length ≤ sizeLine := by rw [rgV_length, sizeLine_eq]; omega
  refine ⟨.ref h'.objs.size, upd H1 h'.objs.size (tupH acc.toList (rgV a b)), Inv.laidT I2 (t' := tk) (fun c o e => Heap.get?_push_of_some _ e) (Nat.le_refl _) (vals_rg hi) hz ?_, rfl, q _ _ (I2.hok.fresh (Nat.le_refl _))⟩
  rw [show tupO acc.toList = { cls := .type "tuple", data := .seq acc } from by unfold tupO; rw [Array.toArray_toList]]
  exact Heap.get?_push_size _ rfl
theorem ve_tupRg {p pos : Pos} (hc : X.calm = true) (hg : Gl X "tuple") (hm : X.mg "tuple" = none) (he : VR X e fr) (na : starEach [e] X.env = (false, eval e X.env) :: starEach [] X.env := by rfl) : VE X (.Call (.Name "tuple" p) [e] [] pos) (fTupRg fr) := fun G W t =>
  PE.imp (pe_tupRgP hc hg hm (he G W t) na) fun σ H Qh hw => by
    obtain ⟨F, env, Q, ok, hf, q⟩ := hw
    refine ⟨F, env, _, ok, hf, fun a b env1 F1 H1 ok1 l1 hq => ⟨hq.1.ok, fun p us hp => ?_⟩⟩
    obtain ⟨ok2, l2, fr⟩ := ok1.newTup (us := us) hp (dt_rg a b)
    exact q (.val _) _ _ _ _ ok2 (l1.trans l2) fr hq.2
theorem ve_lstRg {p pos : Pos} (hc : X.calm = true) (hg : Gl X "list") (hm : X.mg "list" = none) (he : VR X e fr) (na : starEach [e] X.env = (false, eval e X.env) :: starEach [] X.env := by rfl) : VE X (.Call (.Name "list" p) [e] [] pos) (fLstRg fr) := fun G W t =>
  PE.imp (pe_listRg hc hg hm (he G W t) na) fun σ H Qh hw => by
    obtain ⟨F, env, Q, ok, hf, q⟩ := hw
    refine ⟨F, env, _, ok, hf, fun a b env1 F1 H1 ok1 l1 hq => ⟨hq.1.ok, fun p hp => ?_⟩⟩
    obtain ⟨ok2, fr⟩ := ok1.newLst hp (dt_rg a b)
    exact q (.val _) _ _ _ _ ok2 l1 fr hq.2
end

/-! ### all, any, sum -/
def isB : D → Bool
  | .bool _ => true
  | _ => false
def isI : D → Bool
  | .int _ => true
  | _ => false
def valB : D → Bool
  | .bool b => b
  | _ => false
def valI : D → Int
  | .int i => i
  | _ => 0
@[simp] theorem isB_bool (b : Bool) : isB (.bool b) = true := rfl
@[simp] theorem isI_int (b : Int) : isI (.int b) = true := rfl
@[simp] theorem valB_bool (b : Bool) : valB (.bool b) = b := rfl
@[simp] theorem valI_int (b : Int) : valI (.int b) = b := rfl
theorem bools_of : ∀ {ds : List D}, (∀ d ∈ ds, isB d = true) → ds = (ds.map valB).map .bool
  | [], _ => rfl
  | d :: ds, h => by
    rw [List.map_cons, List.map_cons, ← bools_of fun x hx => h x (List.mem_cons_of_mem _ hx)]
    have := h d List.mem_cons_self
    cases d with
    | bool b => rfl
    | _ => cases this
theorem ints_of : ∀ {ds : List D}, (∀ d ∈ ds, isI d = true) → ds = (ds.map valI).map .int
  | [], _ => rfl
  | d :: ds, h => by
    rw [List.map_cons, List.map_cons, ← ints_of fun x hx => h x (List.mem_cons_of_mem _ hx)]
    have := h d List.mem_cons_self
    cases d with
    | int b => rfl
    | _ => cases this
def gAll : List D → (M → Prop) → Prop
  | [.list xs], k => (∀ d ∈ xs, isB d = true) ∧ k (.fz (.bool (xs.all valB)))
  | _, _ => False
def gAny : List D → (M → Prop) → Prop
  | [.list xs], k => (∀ d ∈ xs, isB d = true) ∧ k (.fz (.bool (xs.any valB)))
  | _, _ => False
def gSum : List D → (M → Prop) → Prop
  | [.list xs], k => (∀ d ∈ xs, isI d = true) ∧ k (.fz (.int (xs.map valI).sum))
  | _, _ => False
section
variable {X : Cx}
theorem os_all (hc : X.calm = true) : OpS X (fun us => call (.builtin "all") us) gAll := os_callR (fun G pins s τ σ F H env d v u Q I ok p1 r1 q => by
  unfold gAll at q
  split at q
  · rename_i xs e1
    cases e1
    obtain ⟨a, vs, rfl, h1, h2⟩ := p1.list ok.sub
    obtain ⟨q1, q⟩ := q
    have eb := bools_of q1
    rw [eb] at h2
    have ev := h2.ofBools
    subst ev
    exact thn (cr_all hc pins s τ H [.ref a] [u] (fun z H' => H' = H ∧ z = .bl ((xs.map valB).all id)) I (.cons r1 .nil) ⟨a, _, rfl, h1.sqL, rfl, rfl⟩) fun z s' ⟨v', H', I', rv, hv⟩ => by
      obtain ⟨rfl, rfl⟩ := hv
      refine fin_dt I' ok rv (.bl _) ?_
      rw [List.all_map]
      exact q
  · exact q.elim) (one_gen (fun _ h => h) (fun d e r Q h => by cases d <;> exact h))
theorem os_any (hc : X.calm = true) : OpS X (fun us => call (.builtin "any") us) gAny := os_callR (fun G pins s τ σ F H env d v u Q I ok p1 r1 q => by
  unfold gAny at q
  split at q
  · rename_i xs e1
    cases e1
    obtain ⟨a, vs, rfl, h1, h2⟩ := p1.list ok.sub
    obtain ⟨q1, q⟩ := q
    have eb := bools_of q1
    rw [eb] at h2
    have ev := h2.ofBools
    subst ev
    exact thn (cr_any hc pins s τ H [.ref a] [u] (fun z H' => H' = H ∧ z = .bl ((xs.map valB).any id)) I (.cons r1 .nil) ⟨a, _, rfl, h1.sqL, rfl, rfl⟩) fun z s' ⟨v', H', I', rv, hv⟩ => by
      obtain ⟨rfl, rfl⟩ := hv
      refine fin_dt I' ok rv (.bl _) ?_
      rw [List.any_map]
      exact q
  · exact q.elim) (one_gen (fun _ h => h) (fun d e r Q h => by cases d <;> exact h))
theorem os_sum (hc : X.calm = true) : OpS X (fun us => call (.builtin "sum") us) gSum := os_callR (fun G pins s τ σ F H env d v u Q I ok p1 r1 q => by
  unfold gSum at q
  split at q
  · rename_i xs e1
    cases e1
    obtain ⟨a, vs, rfl, h1, h2⟩ := p1.list ok.sub
    obtain ⟨q1, q⟩ := q
    have eb := ints_of q1
    rw [eb] at h2
    have ev := h2.ofInts
    subst ev
    exact thn (cr_sum hc pins s τ H [.ref a] [u] (fun z H' => H' = H ∧ z = .int ((xs.map valI).sum)) I (.cons r1 .nil) ⟨a, _, rfl, h1.sqL, rfl, rfl⟩) fun z s' ⟨v', H', I', rv, hv⟩ => by
      obtain ⟨rfl, rfl⟩ := hv
      exact fin_dt I' ok rv (.int _) q
  · exact q.elim) (one_gen (fun _ h => h) (fun d e r Q h => by cases d <;> exact h))
end

/-! ### a[i] -/
def gIx : List D → (M → Prop) → Prop
  | [.list xs, .int i], k => bindP (atI xs i) fun d => k (.fz d)
  | [.tuple xs, .int i], k => bindP (atI xs i) fun d => k (.fz d)
  | [.str z, .int i], k => z.length ≤ 16777216 ∧ bindP (atI z.cps.toList i) fun c => k (.fz (.str ⟨#[c]⟩))
  | _, _ => False
theorem atI_dt {K : Fg} {F : Hp} {vs : List V} {ds : List D} {i : Int} {d : D} (h : DtAll K F vs ds) (e : atI ds i = some d) : ∃ v, atI vs i = some v ∧ Dt K F v d := by
  unfold atI at e ⊢
  rw [h.length]
  cases q : ixN ds.length i with
  | none => rw [q] at e; cases e
  | some j =>
    rw [q] at e
    exact h.getD e
section
variable {X : Cx} {a b : Expr} {fa fb : FE} {pos : Pos}
theorem rIx_of {σ : L2.St} {x y : V} {H : Hp} {Qh : VK} (h : rOp X σ gIx [x, y] H Qh) : rIx X.K x y H Qh := by
  obtain ⟨G, F, env, ds, Q, ok, pk, hg, k⟩ := h
  obtain ⟨d, e, rfl⟩ := two_gen (g := gIx) (fun _ h => h) (fun d _ h => by cases d <;> exact h) (fun d e f r Q h => by cases d <;> cases e <;> exact h) ds Q hg
  obtain ⟨v, w, e2, p1, p2⟩ := pk.two
  cases e2
  unfold gIx at hg
  split at hg
  · rename_i xs i e1
    cases e1
    obtain ⟨d, ed, hq⟩ := bindP_of hg
    obtain ⟨p, vs, rfl, h1, h2⟩ := p1.list ok.sub
    cases p2.scal_int
    obtain ⟨z, ez, dz⟩ := atI_dt h2 ed
    exact .inl ⟨p, vs, i, z, rfl, rfl, h1.sqL, ez, k _ z F H ok (Le.refl _) (Free.fz dz) hq⟩
  · rename_i xs i e1
    cases e1
    obtain ⟨d, ed, hq⟩ := bindP_of hg
    obtain ⟨p, vs, rfl, h1, h2⟩ := p1.tuple
    cases p2.scal_int
    obtain ⟨z, ez, dz⟩ := atI_dt h2 ed
    exact .inr (.inl ⟨p, vs, i, z, rfl, rfl, sqT_le ok.sub h1.sqT, ez, k _ z F H ok (Le.refl _) (Free.fz dz) hq⟩)
  · rename_i z i e1
    cases e1
    obtain ⟨hz, hg⟩ := hg
    obtain ⟨c, ec, hq⟩ := bindP_of hg
    cases p1.scal_str; cases p2.scal_int
    exact .inr (.inr ⟨z, i, c, rfl, rfl, line_of hz, ec, k _ (.str _) F H ok (Le.refl _) (Free.fz (.str _)) hq⟩)
  · exact hg.elim
theorem ve_ix (ha : VE X a fa) (hb : VE X b fb) (hs : PlainIx b := by exact fun _ _ => rfl) : VE X (.Subscript a b pos) (fOp gIx (aP fa (aP fb aNil))) := fun G W t =>
  PE.imp (pe_ix ix_seq (ha G W t) (hb G W t) hs) fun σ H Qh hw => by
    have := lift_2 hw
    obtain ⟨F, env, Q, ok, hf, q⟩ := this
    refine ⟨F, env, Q, ok, hf, fun r env1 v F1 H1 ok1 l1 rr hq => ?_⟩
    obtain ⟨F2, env2, Q2, ok2, hf2, q2⟩ := q r env1 v F1 H1 ok1 l1 rr hq
    exact ⟨F2, env2, Q2, ok2, hf2, fun r2 env3 w F3 H3 ok3 l3 rr3 hq3 => rIx_of (q2 r2 env3 w F3 H3 ok3 l3 rr3 hq3)⟩
end

/-! ### a[i:j] -/
/-- a part of a slice -/
abbrev FO := Env → (Option Int → Env → Prop) → KX → Prop
def liftO (K : Fg) (mg : Mg) (G : Gh) (W : KX) (f : FO) : TO := fun σ H Qh => ∃ F env Q, EnvOk K mg G F H σ env ∧ f env Q W ∧
  ∀ o env' F' H', EnvOk K mg G F' H' σ env' → Le F F' → Q o env' → Qh o H'
def VO (X : Cx) (e : Option Expr) (f : FO) : Prop := ∀ G W, Takes X (liftW X.K X.mg G W) → PO X e (liftO X.K X.mg G W f)
def oNone : FO := fun env Q _ => Q none env
def oSome (fe : FE) : FO := fun env Q W => fI fe env (fun i env1 => Q (some i) env1) W
/-- the items of xs[lo:hi] -/
def cutD {α : Type} (xs : List α) (lo hi : Option Int) : List α := (xs.drop (HT.sIx xs.length 0 lo)).take (HT.sIx xs.length xs.length hi - HT.sIx xs.length 0 lo)
def gSl (lo hi : Option Int) : D → (M → Prop) → Prop
  | .list xs, k => k (.lst (cutD xs lo hi))
  | .tuple xs, k => k (.fz (.tuple (cutD xs lo hi)))
  | .str z, k => z.length ≤ 16777216 ∧ k (.fz (.str (cutS z lo hi)))
  | _, _ => False
def fSl (fe : FE) (fl fh : FO) : FE := fun env Q W => fe env (fun r env1 => bindP (pkR r) fun x => fl env1 (fun lo env2 => fh env2 (fun hi env3 => bindP (pkA env3 x) fun d => gSl lo hi d fun m => Q (.val m) env3) W) W) W
section
variable {X : Cx} {e : Expr} {lo hi : Option Expr} {fe : FE} {fl fh : FO} {pos p2 : Pos}
theorem po_imp {t t' : TO} {e : Option Expr} (h : PO X e t) (i : ∀ σ H Q, t' σ H Q → t σ H Q) : PO X e t' := ⟨fun pins s σ H Q I q => h.run pins s σ H Q I (i σ H Q q)⟩
theorem vo_none : VO X none oNone := fun G W _ => po_imp po_none fun σ H Qh hw => by
  obtain ⟨F, env, Q, ok, hf, q⟩ := hw
  exact q none env F H ok (Le.refl _) hf
theorem vo_some (h : VE X e fe) : VO X (some e) (oSome fe) := fun G W t => po_imp (po_some (h G W t)) fun σ H Qh hw => by
  obtain ⟨F, env, Q, ok, hf, q⟩ := hw
  exact lift_i ok hf fun i env1 F1 H1 ok1 l1 hq => ⟨i, rfl, q (some i) env1 F1 H1 ok1 l1 hq⟩
/-- t[lo:hi] of a tuple: the whole of it is itself, else a new one -/
def rSlP (K : Fg) : V → Option Int → Option Int → Hp → VK → Prop := fun x lo hi H Q => ∃ a xs, x = .ref a ∧ SqT K H a xs ∧
  (HT.sIx xs.length 0 lo = 0 ∧ HT.sIx xs.length xs.length hi = xs.length → Q (.ref a) H) ∧ (¬ (HT.sIx xs.length 0 lo = 0 ∧ HT.sIx xs.length xs.length hi = xs.length) → ∀ p us, H p = none → Q (.ref p) (upd H p (tupH us (cutV xs lo hi))))
theorem sl_tupP : SlR X (rSlP X.K) := by
  intro pins s σ H x v vl vu lo hi sl Q I rx hs pl pu h
  obtain ⟨a, xs, rfl, hx, q1, q2⟩ := h
  cases rx
  obtain ⟨its, r, ht, hz⟩ := I.tuple hx
  have hlen : its.toArray.size = xs.length := by rw [List.size_toArray]; exact r.length.symm
  refine ⟨"tuple", _, PyProof.Rows.slot_tuple_getitem.lookup, ht.typeIs, ?_⟩
  by_cases hw : HT.sIx xs.length 0 lo = 0 ∧ HT.sIx xs.length xs.length hi = xs.length
  · exact getItem_tuple_whole ht hs pl pu (by rw [hlen]; exact hw) ⟨.ref a, H, I, rfl, q1 hw⟩
  · refine HT.getItem_tuple_cut ht hs pl pu (by rw [hlen]; exact hw) ?_ (by rw [hlen]; exact hz)
    rw [hlen]
    refine ⟨.ref s.heap.objs.size, _, Inv.laidT I (t' := s.toks) (fun b ob q => Heap.get?_push_of_some _ q) (Nat.le_refl _) ((r.drop (HT.sIx xs.length 0 lo)).take (HT.sIx xs.length xs.length hi - HT.sIx xs.length 0 lo)) (Nat.le_trans (cutV_length xs lo hi) hz) ?_, rfl, q2 hw _ _ (I.hok.fresh (Nat.le_refl _))⟩
    exact Heap.get?_push_size _ rfl
theorem DtAll.cut {K : Fg} {F : Hp} {vs : List V} {ds : List D} (h : DtAll K F vs ds) (lo hi : Option Int) : DtAll K F (cutV vs lo hi) (cutD ds lo hi) := by
  unfold cutV cutD
  rw [h.length]
  exact (h.drop _).take _
theorem ve_sl (he : VE X e fe) (hl : VO X lo fl) (hh : VO X hi fh) : VE X (.Subscript e (.Slice lo hi none p2) pos) (fSl fe fl fh) := fun G W t =>
  PE.imp (pe_slice (sl_list.or (sl_tupP.or sl_str)) (he G W t) (hl G W t) (hh G W t)) fun σ H Qh hw => by
    obtain ⟨F, env, Q, ok, hf, q⟩ := hw
    refine ⟨F, env, _, ok, hf, fun r env1 v F1 H1 ok1 l1 rr hq => ?_⟩
    obtain ⟨x, ex, hq⟩ := bindP_of hq
    obtain ⟨F2, ok2, l2, ax⟩ := rr.peek ok1 ex
    refine ⟨F2, env1, _, ok2, hq, fun l env2 F3 H3 ok3 l3 hq => ?_⟩
    refine ⟨F3, env2, _, ok3, hq, fun h env3 F4 H4 ok4 l4 hq => ?_⟩
    obtain ⟨d, ed, hq⟩ := bindP_of hq
    have pk := (ax.le (l3.trans l4)).pk ok4 ed
    have l14 := (l1.trans l2).trans (l3.trans l4)
    cases d with
    | list xs =>
      obtain ⟨p, vs, rfl, h1, h2⟩ := pk.list ok4.sub
      refine .inl ⟨p, vs, rfl, h1.sqL, fun p' hp' => ?_⟩
      obtain ⟨ok5, fr⟩ := ok4.newLst hp' (h2.cut l h)
      exact q (.val _) _ _ _ _ ok5 l14 fr hq
    | tuple xs =>
      obtain ⟨p, vs, rfl, h1, h2⟩ := pk.tuple
      refine .inr (.inl ⟨p, vs, rfl, sqT_le ok4.sub h1.sqT, fun hw => ?_, fun hw p' us hp' => ?_⟩)
      · refine q (.val _) env3 _ F4 H4 ok4 l14 (Free.fz (.tup h1 h2)) ?_
        have e : cutD xs l h = xs := by
          unfold cutD
          rw [h2.length] at hw
          rw [hw.1, hw.2, List.drop_zero, Nat.sub_zero, List.take_length]
        have hq : Q (.val (.fz (.tuple (cutD xs l h)))) env3 := hq
        rw [e] at hq
        exact hq
      · obtain ⟨ok5, l5, fr⟩ := ok4.newTup (us := us) hp' (h2.cut l h)
        exact q (.val _) _ _ _ _ ok5 (l14.trans l5) fr hq
    | str z =>
      cases pk.scal_str
      exact .inr (.inr ⟨z, rfl, line_of hq.1, q (.val _) _ _ _ _ ok4 l14 (Free.fz (.str _)) hq.2⟩)
    | _ => exact hq.elim
end
end VL

set_option maxHeartbeats 2000000
/-! VlH: statements by value. -/
namespace VL
open PySem PySem.Spec PyProof.Rows L2

/-- the value to be stored in slot i, and the slots behind the store -/
def stR (i : Nat) (r : R) (env : Env) : Option Env :=
  if i < env.sl.length ∧ i ∉ env.bor then
    match r with
    | .val m => some { env with sl := env.sl.set i (some m) }
    | .slot j => match lkR env (.slot j) with
      | some (.d d, e2) => some { e2 with sl := e2.sl.set i (some (.fz d)) }
      | _ => none
  else none
/-- the value that is handed out: an own thing leaves its slot -/
def rtR (env : Env) : R → Option (M × Env)
  | .val m => some (m, env)
  | .slot j => if j ∈ env.bor then none else match env.sl[j]? with
    | some (some m) => some (m, { env with sl := env.sl.set j none })
    | _ => none

def sNext : FS := fun env E _ => E.nx env
def sBrk : FS := fun env E _ => E.bk env
def sCnt : FS := fun env E _ => E.ct env
def sNever : FS := fun _ _ _ => False
def sSeq (g h : FS) : FS := fun env E W => g env { E with nx := fun e1 => h e1 E W } W
def sDrop (f : FE) : FS := fun env E W => f env (fun _ e1 => E.nx e1) W
def sRet (f : FE) : FS := fun env E W => f env (fun r e1 => bindP (rtR e1 r) fun x => E.rt x.1 x.2) W
def sRetN : FS := fun env E _ => E.rt (.fz .none) env
def sIf (t : FT) (g h : FS) : FS := fun env E W => t env (fun b e1 => if b = true then g e1 E W else h e1 E W) W
def sSet (i : Nat) (f : FE) : FS := fun env E W => f env (fun r e1 => bindP (stR i r e1) E.nx) W

section
variable {K : Fg} {mg : Mg} {G : Gh} {F F' H H' : Hp} {σ : L2.St} {env : Env} {i j : Nat} {a : Addr} {m : M} {v : V} {r : R}
theorem lkR_same {r : R} {env e2 : Env} {x : Ar} (h : lkR env r = some (x, e2)) : e2.sl.length = env.sl.length ∧ e2.bor = env.bor := by
  cases r with
  | val m =>
    cases m with
    | fz d => cases h; exact ⟨rfl, rfl⟩
    | lst ds => cases h; exact ⟨rfl, rfl⟩
    | gl x => cases h; exact ⟨rfl, rfl⟩
    | dct es => cases h
  | slot i =>
    dsimp only [lkR] at h
    split at h
    · cases h; exact ⟨List.length_set, rfl⟩
    · cases h
/-- slot j is emptied -/
theorem EnvOk.drop (ok : EnvOk K mg G F H σ env) : EnvOk K mg G F H σ { env with sl := env.sl.set j none } := by
  have back : ∀ {k b}, OwnAt σ (env.sl.set j none) k b → OwnAt σ env.sl k b ∧ k ≠ j := fun {k b} z => by
    have hk : k ≠ j := fun e => by
      subst e
      obtain ⟨m, e1, _, _⟩ := z
      by_cases hl : k < env.sl.length
      · rw [List.getElem?_set_self hl] at e1; cases e1
      · rw [List.getElem?_eq_none (by rw [List.length_set]; omega)] at e1; cases e1
    exact ⟨(OwnAt.set_sl hk).mp z, hk⟩
  refine ⟨ok.sub, fun k m e => ?_, fun k l b z1 z2 => ok.apart k l b (back z1).1 (back z2).1, ok.frz, ok.frame, ok.dom, ok.newF, fun k b z => ok.newO k b (back z).1, ok.bor, ok.borA, fun p hp k z => ok.sep p hp k (back z).1, ok.borH, by rw [List.length_set]; exact ok.len⟩
  have e : (env.sl.set j none)[k]? = some (some m) := e
  by_cases hk : k = j
  · subst hk
    by_cases hl : k < env.sl.length
    · rw [List.getElem?_set_self hl] at e; cases e
    · rw [List.getElem?_eq_none (by rw [List.length_set]; omega)] at e; cases e
  · rw [List.getElem?_set_ne (Ne.symm hk)] at e
    exact ok.slot k m e
theorem RR.store (ok : EnvOk K mg G F H σ env) (h : RR K mg G F H σ env r v) {e2 : Env} (e : stR i r env = some e2) : ∃ F1, EnvOk K mg G F1 H (σ.set i (some v)) e2 ∧ Le F F1 := by
  unfold stR at e
  by_cases c : i < env.sl.length ∧ i ∉ env.bor
  · rw [if_pos c] at e
    cases r with
    | val m => cases e; exact ⟨F, ok.store c.1 c.2 h, Le.refl _⟩
    | slot j =>
      dsimp only at e
      cases q : lkR env (.slot j) with
      | none => rw [q] at e; cases e
      | some x =>
        obtain ⟨y, e1⟩ := x
        rw [q] at e
        cases y with
        | g x => cases e
        | s x => cases e
        | d d =>
          cases e
          obtain ⟨F1, ok1, l1, ax⟩ := RR.leak ok h q
          obtain ⟨s1, s2⟩ := lkR_same q
          exact ⟨F1, ok1.store (by rw [s1]; exact c.1) (by rw [s2]; exact c.2) (Free.fz ax), l1⟩
  · rw [if_neg c] at e; cases e
theorem RR.out (g : GOk G) (ok : EnvOk K mg G F H σ env) (h : RR K mg G F H σ env r v) {x : M × Env} (e : rtR env r = some x) : EnvOk K mg G F H σ x.2 ∧ Free K mg G F H σ x.2 x.1 v := by
  cases r with
  | val m => cases e; exact ⟨ok, h⟩
  | slot j =>
    unfold rtR at e
    by_cases c : j ∈ env.bor
    · simp only [if_pos c] at e; cases e
    · simp only [if_neg c] at e
      obtain ⟨a, rfl, o⟩ := h
      obtain ⟨m, e1, e2, e3⟩ := id o
      rw [e1] at e
      cases e
      obtain ⟨w, e4, rm⟩ := ok.slot j m e1
      rw [e3] at e4
      cases e4
      refine ⟨ok.drop, rm, fun _ b eb => ?_⟩
      cases eb
      refine ⟨(ok.newO j a o).elim (fun z => ?_) id, fun k z => ?_⟩
      · obtain ⟨p, hp, rfl⟩ := g a z
        refine absurd ?_ c
        rw [ok.bor, ok.sep p hp j o]
        exact List.mem_map.mpr ⟨p, hp, rfl⟩
      · have hk : k ≠ j := fun e => by
          subst e
          obtain ⟨m', e5, _, _⟩ := z
          rw [List.getElem?_set_self (List.getElem?_eq_some_iff.mp e1).1] at e5
          cases e5
        exact hk (ok.apart k j a ((OwnAt.set_sl hk).mp z) o)
end

section
variable {X : Cx} {st : Stmt} {rest : List Stmt} {g h : FS} {f : FE} {t : FT} {e : Expr} {pos : Pos}
theorem vss_nil : VSs X [] sNext := fun G W _ _ => PSs.imp pss_nil fun Dn σ H hw => by
  obtain ⟨F, env, E, ok, hf, k1, _⟩ := hw
  exact k1 σ F H env ok (Le.refl _) hf
theorem vs_next (p : PS X st tNext) : VS X st sNext := fun G W _ _ => PS.imp p fun Dn σ H hw => by
  obtain ⟨F, env, E, ok, hf, k1, _⟩ := hw
  exact k1 σ F H env ok (Le.refl _) hf
theorem vs_pass : VS X (.Pass pos) sNext := vs_next ps_pass
theorem vs_doc {x j p1 p2} : VS X (.Expr (.Constant (.str x) j p1) p2) sNext := vs_next ps_doc
theorem vs_never : VS X st sNever := fun G W _ _ => PS.imp ps_never fun Dn σ H hw => by
  obtain ⟨F, env, E, ok, hf, _⟩ := hw
  exact hf
theorem vss_never : VSs X rest sNever := fun G W _ _ => PSs.imp pss_never fun Dn σ H hw => by
  obtain ⟨F, env, E, ok, hf, _⟩ := hw
  exact hf
theorem vs_brk : VS X (.Break pos) sBrk := fun G W _ _ => PS.imp ps_break fun Dn σ H hw => by
  obtain ⟨F, env, E, ok, hf, _, k2, _⟩ := hw
  exact k2 σ F H env ok (Le.refl _) hf
theorem vs_cnt : VS X (.Continue pos) sCnt := fun G W _ _ => PS.imp ps_continue fun Dn σ H hw => by
  obtain ⟨F, env, E, ok, hf, _, _, k3, _⟩ := hw
  exact k3 σ F H env ok (Le.refl _) hf
theorem vss_cons (h1 : VS X st g) (h2 : VSs X rest h) : VSs X (st :: rest) (sSeq g h) := fun G W gk tk => PSs.imp (pss_cons (h1 G W gk tk) (h2 G W gk tk)) fun Dn σ H hw => by
  obtain ⟨F, env, E, ok, hf, k1, k2, k3, k4⟩ := hw
  refine ⟨F, env, _, ok, hf, fun σ1 F1 H1 e1 ok1 l1 q1 => ?_, k2, k3, k4⟩
  exact ⟨F1, e1, E, ok1, q1, fun σ2 F2 H2 e2 o2 l2 => k1 σ2 F2 H2 e2 o2 (l1.trans l2), fun σ2 F2 H2 e2 o2 l2 => k2 σ2 F2 H2 e2 o2 (l1.trans l2), fun σ2 F2 H2 e2 o2 l2 => k3 σ2 F2 H2 e2 o2 (l1.trans l2), fun σ2 F2 H2 e2 m v o2 l2 => k4 σ2 F2 H2 e2 m v o2 (l1.trans l2)⟩
theorem vss_one (h1 : VS X st g) : VSs X [st] g := fun G W gk tk => PSs.imp (pss_one (h1 G W gk tk)) fun _ _ _ hw => hw
theorem vs_drop (he : VE X e f) (hs : swapsWith e none pos.line X.env = pure false := by rfl) : VS X (.Expr e pos) (sDrop f) := fun G W _ tk => PS.imp (ps_expr (he G W tk) hs) fun Dn σ H hw => by
  obtain ⟨F, env, E, ok, hf, k1, _⟩ := hw
  exact ⟨F, env, _, ok, hf, fun r e1 v F1 H1 ok1 l1 _ q => k1 σ F1 H1 e1 ok1 l1 q⟩
theorem vs_ret (he : VE X e f) : VS X (.Return (some e) pos) (sRet f) := fun G W gk tk => PS.imp (ps_ret (he G W tk)) fun Dn σ H hw => by
  obtain ⟨F, env, E, ok, hf, _, _, _, k4⟩ := hw
  refine ⟨F, env, _, ok, hf, fun r e1 v F1 H1 ok1 l1 rr q => ?_⟩
  obtain ⟨x, ex, q⟩ := bindP_of q
  obtain ⟨ok2, fr⟩ := RR.out gk ok1 rr ex
  exact k4 σ F1 H1 x.2 x.1 v ok2 l1 fr q
theorem vs_retN : VS X (.Return none pos) sRetN := fun G W _ _ => PS.imp ps_retN fun Dn σ H hw => by
  obtain ⟨F, env, E, ok, hf, _, _, _, k4⟩ := hw
  exact k4 σ F H env _ _ ok (Le.refl _) (Free.fz .non) hf
theorem vs_if {c : Expr} {a b : List Stmt} (hc : VT X c t) (ha : VSs X a g) (hb : VSs X b h) : VS X (.If c a b pos) (sIf t g h) := fun G W gk tk => PS.imp (ps_if (hc G W tk) (ha G W gk tk) (hb G W gk tk)) fun Dn σ H hw => by
  obtain ⟨F, env, E, ok, hf, k1, k2, k3, k4⟩ := hw
  refine ⟨F, env, _, ok, hf, fun d e1 F1 H1 ok1 l1 q => ?_⟩
  cases d with
  | true => exact ⟨F1, e1, E, ok1, q, fun σ2 F2 H2 e2 o2 l2 => k1 σ2 F2 H2 e2 o2 (l1.trans l2), fun σ2 F2 H2 e2 o2 l2 => k2 σ2 F2 H2 e2 o2 (l1.trans l2), fun σ2 F2 H2 e2 o2 l2 => k3 σ2 F2 H2 e2 o2 (l1.trans l2), fun σ2 F2 H2 e2 m v o2 l2 => k4 σ2 F2 H2 e2 m v o2 (l1.trans l2)⟩
  | false => exact ⟨F1, e1, E, ok1, q, fun σ2 F2 H2 e2 o2 l2 => k1 σ2 F2 H2 e2 o2 (l1.trans l2), fun σ2 F2 H2 e2 o2 l2 => k2 σ2 F2 H2 e2 o2 (l1.trans l2), fun σ2 F2 H2 e2 o2 l2 => k3 σ2 F2 H2 e2 o2 (l1.trans l2), fun σ2 F2 H2 e2 m v o2 l2 => k4 σ2 F2 H2 e2 m v o2 (l1.trans l2)⟩
theorem vs_set {i : Nat} {x : Str} {p2 : Pos} (hN : X.N.Nodup) (hi : X.N[i]? = some x) (hx : Loc X.env.scope x) (he : VE X e f) (hf : X.fn x = true ∨ X.env.scope.names.lookup x = some .local) (hs : swapsWith e (some (.Name x p2)) pos.line X.env = pure false := by rfl) :
    VS X (.Assign [.Name x p2] e pos) (sSet i f) := fun G W _ tk => PS.imp (ps_set hN hi hx (he G W tk) hs hf) fun Dn σ H hw => by
  obtain ⟨F, env, E, ok, hf, k1, _⟩ := hw
  refine ⟨F, env, _, ok, hf, fun r e1 v F1 H1 ok1 l1 rr q => ?_⟩
  obtain ⟨e2, ee, q⟩ := bindP_of q
  obtain ⟨F2, ok2, l2⟩ := RR.store ok1 rr ee
  exact k1 _ F2 H1 e2 ok2 (l1.trans l2) q
end

/-! ### targets -/
abbrev FG := D → Env → (Env → Prop) → Prop
abbrev FGs := List D → Env → (Env → Prop) → Prop
/-- data, or a new tuple of data that is not frozen yet -/
def Gv (K : Fg) (F H : Hp) (v : V) (d : D) : Prop := Dt K F v d ∨ ∃ a xs ds, v = .ref a ∧ SqT K H a xs ∧ DtAll K F xs ds ∧ d = .tuple ds
def liftG (K : Fg) (mg : Mg) (G : Gh) (vs : List Nat) (g : FG) : TG := fun v σ H Q => ∃ F env d k, EnvOk K mg G F H σ env ∧ Dt K F v d ∧ g d env k ∧
  ∀ σ' env', wipe σ' vs = wipe σ vs → EnvOk K mg G F H σ' env' → k env' → Q σ' H
def liftGt (K : Fg) (mg : Mg) (G : Gh) (vs : List Nat) (g : FG) : TG := fun v σ H Q => ∃ F env d k, EnvOk K mg G F H σ env ∧ Gv K F H v d ∧ g d env k ∧
  ∀ σ' env', wipe σ' vs = wipe σ vs → EnvOk K mg G F H σ' env' → k env' → Q σ' H
def liftGs (K : Fg) (mg : Mg) (G : Gh) (vs : List Nat) (g : FGs) : TGs := fun xs σ H Q => ∃ F env ds k, EnvOk K mg G F H σ env ∧ DtAll K F xs ds ∧ g ds env k ∧
  ∀ σ' env', wipe σ' vs = wipe σ vs → EnvOk K mg G F H σ' env' → k env' → Q σ' H
theorem PG.imp {X : Cx} {e : Expr} {t t' : TG} (h : PG X e t) (i : ∀ v σ H Q, t' v σ H Q → t v σ H Q) : PG X e t' := ⟨fun pins s σ H v u Q I r q => h.run pins s σ H v u Q I r (i v σ H Q q)⟩
theorem PGs.imp {X : Cx} {e : List Expr} {t t' : TGs} (h : PGs X e t) (i : ∀ v σ H Q, t' v σ H Q → t v σ H Q) : PGs X e t' := ⟨fun pins s σ H v u Q I r q => h.run pins s σ H v u Q I r (i v σ H Q q)⟩
/-- vs: the slots it may store to -/
def VG (X : Cx) (tg : Expr) (is : List Nat) (g : FG) : Prop := ∀ G vs, (∀ i ∈ is, i ∈ vs) → PG X tg (liftG X.K X.mg G vs g)
def VGt (X : Cx) (tg : Expr) (is : List Nat) (g : FG) : Prop := ∀ G vs, (∀ i ∈ is, i ∈ vs) → PG X tg (liftGt X.K X.mg G vs g)
def VGs (X : Cx) (tg : List Expr) (is : List Nat) (g : FGs) : Prop := ∀ G vs, (∀ i ∈ is, i ∈ vs) → PGs X tg (liftGs X.K X.mg G vs g)
def gN (i : Nat) : FG := fun d env k => i < env.sl.length ∧ i ∉ env.bor ∧ k { env with sl := env.sl.set i (some (.fz d)) }
def gsNil : FGs := fun ds env k => ds = [] ∧ k env
def gsCons (g : FG) (r : FGs) : FGs := fun ds env k => match ds with
  | d :: ds => g d env fun e1 => r ds e1 k
  | [] => False
def gT (n : Nat) (g : FGs) : FG := fun d env k => match d with
  | .tuple ds => ds.length = n ∧ g ds env k
  | _ => False
theorem wipe_set {σ : L2.St} {i : Nat} {x : Option V} : ∀ {vs : List Nat}, i ∈ vs → wipe (σ.set i x) vs = wipe σ vs
  | v :: vs, h => by
    by_cases hi : i ∈ vs
    · show (wipe (σ.set i x) vs).set v none = (wipe σ vs).set v none
      rw [wipe_set hi]
    · have e : i = v := (List.mem_cons.mp h).resolve_right hi
      subst e
      have out : ∀ (vs : List Nat), i ∉ vs → (wipe (σ.set i x) vs) = (wipe σ vs).set i x := by
        intro vs
        induction vs with
        | nil => intro _; rfl
        | cons w ws ih =>
          intro hn
          simp only [List.mem_cons, not_or] at hn
          show (wipe (σ.set i x) ws).set w none = ((wipe σ ws).set w none).set i x
          rw [ih hn.2, List.set_comm _ _ hn.1]
      show (wipe (σ.set i x) vs).set i none = (wipe σ vs).set i none
      rw [out vs hi, List.set_set]
section
variable {X : Cx} {e : Expr} {es : List Expr} {is js : List Nat} {g : FG} {r : FGs} {pos : Pos}
theorem vg_n {i : Nat} {x : Str} (hN : X.N.Nodup) (hi : X.N[i]? = some x) (hx : Loc X.env.scope x) (hf : X.fn x = true ∨ X.env.scope.names.lookup x = some .local) : VG X (.Name x pos) [i] (gN i) := fun G vs hv => PG.imp (pg_name hN hi hx hf) fun v σ H Q hw => by
  obtain ⟨F, env, d, k, ok, r, ⟨h1, h2, hk⟩, q⟩ := hw
  exact q _ _ (wipe_set (hv i (by simp))) (ok.store h1 h2 (Free.fz r)) hk
theorem vgs_nil : VGs X [] [] gsNil := fun G vs _ => PGs.imp pgs_nil fun xs σ H Q hw => by
  obtain ⟨F, env, ds, k, ok, r, ⟨rfl, hk⟩, q⟩ := hw
  cases r
  exact ⟨rfl, q _ _ rfl ok hk⟩
theorem vgs_cons (h1 : VG X e is g) (h2 : VGs X es js r) (hs : (assignEach (e :: es) X.env).map (·.2) = assign e X.env :: (assignEach es X.env).map (·.2) := by rfl) : VGs X (e :: es) (is ++ js) (gsCons g r) := fun G vs hv =>
  PGs.imp (pgs_cons (h1 G vs fun i hi => hv i (List.mem_append_left _ hi)) (h2 G vs fun i hi => hv i (List.mem_append_right _ hi)) hs) fun xs σ H Q hw => by
  obtain ⟨F, env, ds, k, ok, r, hg, q⟩ := hw
  cases r with
  | nil => exact hg.elim
  | cons a b =>
    refine ⟨_, _, rfl, F, env, _, _, ok, a, hg, fun σ1 e1 w1 ok1 q1 => ?_⟩
    exact ⟨F, e1, _, k, ok1, b, q1, fun σ2 e2 w2 ok2 q2 => q σ2 e2 (w2.trans w1) ok2 q2⟩
theorem vgt_t {k n : Nat} (hc : X.calm = true) (h : VGs X es is r) (hn : (assignEach es X.env).length = n := by rfl) (hst : (assignEach es X.env).findIdx? (·.1) = none := by rfl) : VGt X (.Tuple es k pos) is (gT n r) := fun G vs hv =>
  PG.imp (pg_tup hc (h G vs hv) hn hst) fun v σ H Q hw => by
  obtain ⟨F, env, d, k, ok, gv, hg, q⟩ := hw
  cases d with
  | tuple ds =>
    obtain ⟨hl, hg⟩ := hg
    have key : ∃ a xs, v = .ref a ∧ SqT X.K H a xs ∧ DtAll X.K F xs ds := by
      rcases gv with r | ⟨a, xs, ds', rfl, h1, h2, e⟩
      · cases r with
        | tup h1 h2 =>
          exact ⟨_, _, rfl, h1.sqT.imp (fun z => z.imp (fun e => ok.sub _ _ e) fun ⟨o, e⟩ => ⟨o, ok.sub _ _ e⟩) id, h2⟩
      · cases e; exact ⟨a, xs, rfl, h1, h2⟩
    obtain ⟨a, xs, rfl, h1, h2⟩ := key
    exact ⟨a, xs, rfl, h1, by rw [h2.length]; exact hl, F, env, ds, k, ok, h2, hg, q⟩
  | none => exact hg.elim
  | bool _ => exact hg.elim
  | int _ => exact hg.elim
  | str _ => exact hg.elim
  | list _ => exact hg.elim
  | dict _ => exact hg.elim
theorem VGt.vg (h : VGt X e is g) : VG X e is g := fun G vs hv => PG.imp (h G vs hv) fun v σ H Q hw => by
  obtain ⟨F, env, d, k, ok, r, hg, q⟩ := hw
  exact ⟨F, env, d, k, ok, .inl r, hg, q⟩
end
end VL

/-! VlI: what is walked; for, while; list comprehensions. -/
namespace VL
open PySem PySem.Spec PyProof.Rows L2

/-! ### walks -/
abbrev FW := Env → (List D → Env → Prop) → KX → Prop
/-- J gives the data ds, one by one, while the frozen part F stands; pr: it may give new pairs -/
structure Wk (K : Fg) (F : Hp) (J : It) (ds : List D) (pr : Bool) : Prop where
  go : ∀ i H, i < ds.length → Le F H → J.go i H
  stop : ∀ H, Le F H → J.stop ds.length H
  yld : ∀ i H x H', i < ds.length → Le F H → J.yld i H x H' → ∃ d, ds[i]? = some d ∧
    ((H' = H ∧ Dt K F x d) ∨ (pr = true ∧ ∃ T xs es, x = .ref T ∧ H T = none ∧ H' = upd H T (.tup xs) ∧ d = .tuple es ∧ DtAll K F xs es))
def liftI (K : Fg) (mg : Mg) (G : Gh) (W : KX) (pr : Bool) (w : FW) : TI := fun σ H R => ∃ F env Q, EnvOk K mg G F H σ env ∧ w env Q W ∧
  ∀ ds env' F' H' J, EnvOk K mg G F' H' σ env' → Le F F' → Wk K F' J ds pr → Q ds env' → R J H'
def VI (X : Cx) (tg iter : Expr) (pr : Bool) (w : FW) : Prop := ∀ G W, Takes X (liftW X.K X.mg G W) → PI X tg iter (liftI X.K X.mg G W pr w)
theorem PI.imp {X : Cx} {tg e : Expr} {t t' : TI} (h : PI X tg e t) (i : ∀ σ H R, t' σ H R → t σ H R) : PI X tg e t' := ⟨fun pins s σ H R I q => h.run pins s σ H R I (i σ H R q)⟩
def chD (z : Str) : List D := z.cps.toList.map fun c => .str ⟨#[c]⟩
def seqOf : Ar → Option (List D)
  | .d (.list ds) => some ds
  | .d (.tuple ds) => some ds
  | .d (.str z) => some (chD z)
  | _ => none
def fSq (fe : FE) : FW := fun env Q W => fe env (fun r e1 => bindP (lkR e1 r) fun x => bindP (seqOf x.1) fun ds => Q ds x.2) W
/-- a list, a tuple or a text -/
def iAny (K : Fg) (te : TE) : TI := fun σ H R => te σ H fun x H1 =>
  (∃ a xs, x = .ref a ∧ SqL K H1 a xs ∧ R (Itl K a) H1) ∨ (∃ a xs, x = .ref a ∧ SqT K H1 a xs ∧ R (Itt K a) H1) ∨ ∃ z, x = .str z ∧ R (Its z) H1
section
variable {X : Cx} {tg e : Expr} {te : TE} {fe : FE} {pos : Pos}
theorem pi_any (he : PE X e te) : PI X tg e (iAny X.K te) := by
  refine ⟨fun pins s σ H R I h => thn (he.run pins s σ H _ I h) fun v s1 ⟨x, H1, J1, rx, q1⟩ => ?_⟩
  have one : ∀ b, b ∈ [s1.heap.objs.size] → FpOk X pins H1 b := fun b hb => by
    rw [List.mem_singleton.mp hb]
    exact J1.fpOk (Nat.le_refl _) (J1.hok.fresh (Nat.le_refl _))
  rcases q1 with ⟨a, xs, rfl, hq, q⟩ | ⟨a, xs, rfl, hq, q⟩ | ⟨z, rfl, q⟩
  · cases rx
    obtain ⟨us, _, p, _⟩ := J1.list hq
    exact wpAny_pyIter_list p.isList ⟨_, [s1.heap.objs.size], _, _, H1, rfl, J1.kept (t' := s1.toks) fun b o z => Heap.get?_push_of_some _ z, turn_list a _, ⟨_, Heap.get?_push_size _ rfl, rfl, rfl⟩, one, q⟩
  · cases rx
    obtain ⟨us, _, p, _⟩ := J1.tuple hq
    exact wpAny_pyIter_tuple (show s1.heap.IsTuple a us.toArray from p) ⟨_, [s1.heap.objs.size], _, _, H1, rfl, J1.kept (t' := s1.toks) fun b o z => Heap.get?_push_of_some _ z, turn_tuple a _, ⟨_, Heap.get?_push_size _ rfl, rfl, rfl⟩, one, q⟩
  · obtain ⟨t, rfl⟩ := rx
    cases ha : z.cps.all (· < 128)
    · exact wpAny_pyIter_wide ha (pi_one (tk := s1.toks) J1 _ (turn_str _ z t "str_iterator" (.inr rfl)) ⟨_, Heap.get?_push_size _ rfl, rfl, rfl⟩ q)
    · exact wpAny_pyIter_ascii ha (pi_one (tk := s1.toks) J1 _ (turn_str _ z t "str_ascii_iterator" (.inl rfl)) ⟨_, Heap.get?_push_size _ rfl, rfl, rfl⟩ q)
theorem DtAll.at {K : Fg} {F : Hp} : ∀ {vs : List V} {ds : List D} (_ : DtAll K F vs ds) {i : Nat} {v : V} (_ : vs[i]? = some v), ∃ d, ds[i]? = some d ∧ Dt K F v d
  | _, _, .nil, i, v, e => by simp at e
  | _, _, .cons a r, 0, v, e => by simp at e; subst e; exact ⟨_, rfl, a⟩
  | _, _, .cons a r, i + 1, v, e => by simpa using DtAll.at r (by simpa using e)
theorem wk_list {K : Fg} {F : Hp} {a : Addr} {xs : List V} {ds : List D} (h : SqL K F a xs) (r : DtAll K F xs ds) : Wk K F (Itl K a) ds false := by
  have hl := r.length
  have w := walk_list (K := K) (a := a) (xs := xs)
  refine ⟨fun i H hi l => w.goes i H (by omega) (sqL_le l h), fun H l => by rw [← hl]; exact w.stops H (sqL_le l h), fun i H x H' hi l y => ?_⟩
  obtain ⟨e1, e2⟩ := w.yields i H x H' (by omega) (sqL_le l h) y
  obtain ⟨d, e3, q⟩ := r.at e2
  exact ⟨d, e3, .inl ⟨e1, q⟩⟩
theorem wk_tup {K : Fg} {F : Hp} {a : Addr} {xs : List V} {ds : List D} (h : SqT K F a xs) (r : DtAll K F xs ds) : Wk K F (Itt K a) ds false := by
  have hl := r.length
  have w := walk_tup (K := K) (a := a) (xs := xs)
  refine ⟨fun i H hi l => w.goes i H (by omega) (sqT_le l h), fun H l => by rw [← hl]; exact w.stops H (sqT_le l h), fun i H x H' hi l y => ?_⟩
  obtain ⟨e1, e2⟩ := w.yields i H x H' (by omega) (sqT_le l h) y
  obtain ⟨d, e3, q⟩ := r.at e2
  exact ⟨d, e3, .inl ⟨e1, q⟩⟩
theorem wk_str {K : Fg} {F : Hp} {z : Str} : Wk K F (Its z) (chD z) false := by
  have hl : (chD z).length = z.cps.size := by unfold chD; rw [List.length_map]; exact Array.length_toList
  refine ⟨fun i H hi _ => by show i < z.cps.size; omega, fun H _ => by show z.cps.size ≤ _; omega, fun i H x H' hi _ y => ?_⟩
  obtain ⟨e1, c, e2, rfl⟩ := y
  refine ⟨.str ⟨#[c]⟩, ?_, .inl ⟨e1, .str _⟩⟩
  unfold chD
  rw [List.getElem?_map, Array.getElem?_toList, e2] <;> rfl
theorem vi_sq (he : VE X e fe) : VI X tg e false (fSq fe) := fun G W t => PI.imp (pi_any (he G W t)) fun σ H R hw => by
  obtain ⟨F, env, Q, ok, hf, q⟩ := hw
  refine ⟨F, env, _, ok, hf, fun r e1 v F1 H1 ok1 l1 rr hq => ?_⟩
  obtain ⟨⟨x, e2⟩, ex, hq⟩ := bindP_of hq
  obtain ⟨ds, es, hq⟩ := bindP_of hq
  obtain ⟨F2, ok2, l2, ax⟩ := rr.leak ok1 ex
  cases x with
  | g x => cases es
  | s x => cases es
  | d d =>
    cases d with
    | list xs =>
      cases es
      cases ax with
      | lst h r => exact .inl ⟨_, _, rfl, sqL_le ok2.sub h.sqL, q _ e2 F2 H1 _ ok2 (l1.trans l2) (wk_list h.sqL r) hq⟩
    | tuple xs =>
      cases es
      cases ax with
      | tup h r => exact .inr (.inl ⟨_, _, rfl, sqT_le ok2.sub h.sqT, q _ e2 F2 H1 _ ok2 (l1.trans l2) (wk_tup h.sqT r) hq⟩)
    | str z =>
      cases es
      cases ax
      exact .inr (.inr ⟨_, rfl, q _ e2 F2 H1 _ ok2 (l1.trans l2) wk_str hq⟩)
    | _ => cases es
/-- range(..) -/
def fRgI1 (fa : FE) : FW := fun env Q W => fI fa env (fun n e1 => (-1000000000 ≤ n ∧ n ≤ 1000000000) ∧ Q (rgD 0 n) e1) W
def fRgI2 (fa fb : FE) : FW := fun env Q W => fI fa env (fun i e1 => fI fb e1 (fun j e2 => (-1000000000 ≤ i ∧ i ≤ 1000000000 ∧ -1000000000 ≤ j ∧ j ≤ 1000000000) ∧ Q (rgD i j) e2) W) W
theorem wk_range {K : Fg} {F : Hp} (a b : Int) : Wk K F (Itr a (b - a).toNat) (rgD a b) false := by
  have hl := rgD_length a b
  refine ⟨fun i H hi _ => by show i < (b - a).toNat; omega, fun H _ => by show (b - a).toNat ≤ _; omega, fun i H x H' hi _ y => ?_⟩
  obtain ⟨e1, rfl⟩ := y
  refine ⟨.int (a + i), ?_, .inl ⟨e1, .int _⟩⟩
  unfold rgD
  rw [List.getElem?_map, List.getElem?_range (by omega)] <;> rfl
theorem vi_rg1 {a : Expr} {fa : FE} {p pos : Pos} (hg : Gl X "range") (hm : X.mg "range" = none) (ha : VE X a fa) (hs : starEach [a] X.env = [(false, eval a X.env)] := by rfl) (hs' : starEach [a] X.env = (false, eval a X.env) :: starEach [] X.env := by rfl) :
    VI X tg (.Call (.Name "range" p) [a] [] pos) false (fRgI1 fa) := fun G W t => PI.imp (pi_range1 hg hm (pa_cons (ha G W t) pa_nil hs') hs) fun σ H R hw => by
  obtain ⟨F, env, Q, ok, hf, q⟩ := hw
  refine lift_i ok hf fun n e1 F1 H1 ok1 l1 hq => ⟨n, rfl, by omega, by omega, ?_⟩
  have w := wk_range (K := X.K) (F := F1) 0 n
  rw [Int.sub_zero] at w
  exact q _ e1 F1 H1 _ ok1 l1 w hq.2
theorem vi_rg2 {a b : Expr} {fa fb : FE} {p pos : Pos} (hg : Gl X "range") (hm : X.mg "range" = none) (ha : VE X a fa) (hb : VE X b fb) (hs : starEach [a, b] X.env = [(false, eval a X.env), (false, eval b X.env)] := by rfl)
    (hs2 : starEach [b] X.env = [(false, eval b X.env)] := by rfl) (hs' : starEach [a, b] X.env = (false, eval a X.env) :: starEach [b] X.env := by rfl) (hs'' : starEach [b] X.env = (false, eval b X.env) :: starEach [] X.env := by rfl) :
    VI X tg (.Call (.Name "range" p) [a, b] [] pos) false (fRgI2 fa fb) := fun G W t => PI.imp (pi_range2 hg hm (pa_cons (ha G W t) (pa_cons (hb G W t) pa_nil hs'') hs') hs hs2) fun σ H R hw => by
  obtain ⟨F, env, Q, ok, hf, q⟩ := hw
  refine lift_i ok hf fun i e1 F1 H1 ok1 l1 hq => lift_i ok1 hq fun j e2 F2 H2 ok2 l2 hq => ⟨i, j, rfl, by omega, q _ e2 F2 H2 _ ok2 (l1.trans l2) (wk_range i j) hq.2⟩
end

/-! ### targets of a walk -/
def GvP (pr : Bool) (K : Fg) (F H : Hp) (v : V) (d : D) : Prop := if pr = true then Gv K F H v d else Dt K F v d
def liftGp (K : Fg) (mg : Mg) (G : Gh) (vs : List Nat) (pr : Bool) (g : FG) : TG := fun v σ H Q => ∃ F env d k, EnvOk K mg G F H σ env ∧ GvP pr K F H v d ∧ g d env k ∧
  ∀ σ' env', wipe σ' vs = wipe σ vs → EnvOk K mg G F H σ' env' → k env' → Q σ' H
def VGp (X : Cx) (tg : Expr) (is : List Nat) (pr : Bool) (g : FG) : Prop := ∀ G vs, (∀ i ∈ is, i ∈ vs) → PG X tg (liftGp X.K X.mg G vs pr g)
theorem VG.p {X : Cx} {tg : Expr} {is : List Nat} {g : FG} (h : VG X tg is g) : VGp X tg is false g := fun G vs hv => PG.imp (h G vs hv) fun v σ H Q hw => hw
theorem VGt.p {X : Cx} {tg : Expr} {is : List Nat} {g : FG} {pr : Bool} (h : VGt X tg is g) : VGp X tg is pr g := fun G vs hv => PG.imp (h G vs hv) fun v σ H Q hw => by
  obtain ⟨F, env, d, k, ok, r, q⟩ := hw
  refine ⟨F, env, d, k, ok, ?_, q⟩
  cases pr with
  | true => exact r
  | false => exact .inl r
/-- a turn's item at hand: the slots as they were, the item as the target takes it -/
theorem Wk.item {K : Fg} {mg : Mg} {G : Gh} {F F1 H H' : Hp} {σ : L2.St} {env : Env} {J : It} {ds : List D} {pr : Bool} {i : Nat} {x : V} (w : Wk K F1 J ds pr) (ok : EnvOk K mg G F H σ env) (l : Le F1 F) (hi : i < ds.length) (y : J.yld i H x H') :
    ∃ d, ds[i]? = some d ∧ EnvOk K mg G F H' σ env ∧ GvP pr K F H' x d ∧ ∀ p o, H p = some o → H' p = some o := by
  obtain ⟨d, e, h⟩ := w.yld i H x H' hi (l.trans ok.sub) y
  refine ⟨d, e, ?_⟩
  rcases h with ⟨rfl, r⟩ | ⟨rfl, T, xs, es, rfl, hT, rfl, rfl, r⟩
  · refine ⟨ok, ?_, fun p o e => e⟩
    unfold GvP
    split
    · exact .inl (r.le l)
    · exact r.le l
  · refine ⟨ok.newH hT, ?_, fun p o e => by rw [upd_ne (ne_of_none e hT)]; exact e⟩
    unfold GvP
    rw [if_pos rfl]
    exact .inr ⟨T, xs, es, rfl, .inl (.inl upd_same), r.le l, rfl⟩

/-! ### for -/
def sForL (g : FG) (body : FS) (E : EndV) (W : KX) : List D → Env → Prop
  | [], env => E.nx env
  | d :: ds, env => g d env fun e1 => body e1 { nx := sForL g body E W ds, rt := E.rt, bk := E.nx, ct := sForL g body E W ds } W
def sFor (w : FW) (g : FG) (body : FS) : FS := fun env E W => w env (fun ds e1 => sForL g body E W ds e1) W
@[simp] theorem sForL_nil {g : FG} {body : FS} {E : EndV} {W : KX} {env : Env} : sForL g body E W [] env = E.nx env := rfl
theorem sForL_cons {g : FG} {body : FS} {E : EndV} {W : KX} {d : D} {ds : List D} {env : Env} : sForL g body E W (d :: ds) env = g d env fun e1 => body e1 { nx := sForL g body E W ds, rt := E.rt, bk := E.nx, ct := sForL g body E W ds } W := rfl
theorem drop_at {ds : List D} {i : Nat} {d : D} (e : ds[i]? = some d) : ds.drop i = d :: ds.drop (i + 1) := by
  obtain ⟨h, rfl⟩ := List.getElem?_eq_some_iff.mp e
  exact List.drop_eq_getElem_cons h
section
variable {X : Cx} {tg iter : Expr} {body orelse : List Stmt} {w : FW} {g : FG} {gb : FS} {pr : Bool} {is : List Nat} {pos : Pos}
theorem vs_for (hp : PassesOwn (model X.prog X.w) X.A X.env X.xe) (hc : X.calm = true) (hi : VI X tg iter pr w) (hg : VGp X tg is pr g) (hb : VSs X body gb) (hs : ∀ x, foldedSetIterable iter X.env x = pure x := by intro _; rfl) :
    VS X (.For tg iter body [] pos) (sFor w g gb) := fun G W gk tk => PS.imp (ps_for hp hc (hi G W tk) (hg G is fun _ h => h) (hb G W gk tk) hs) fun Dn σ H hw => by
  obtain ⟨F, env, E, ok, hf, k1, k2, k3, k4⟩ := hw
  refine ⟨F, env, _, ok, hf, fun ds e1 F1 H1 J ok1 l1 wk q => ?_⟩
  refine ⟨fun i m σ H => i + m = ds.length ∧ ∃ F2 e2, EnvOk X.K X.mg G F2 H σ e2 ∧ Le F1 F2 ∧ sForL g gb E W (ds.drop i) e2, ⟨ds.length, Nat.zero_add _, F1, e1, ok1, Le.refl _, q⟩, fun i m σ2 H2 hW => ?_⟩
  obtain ⟨em, F2, e2, ok2, l2, q2⟩ := hW
  by_cases hlt : i < ds.length
  · refine .inr ⟨wk.go i H2 hlt (l2.trans ok2.sub), fun σ' H' => ∃ F3 e3, EnvOk X.K X.mg G F3 H' σ' e3 ∧ Le F1 F3 ∧ sForL g gb E W (ds.drop (i + 1)) e3, fun σ' H' ⟨F3, e3, ok3, l3, q3⟩ => ⟨m - 1, by omega, by omega, F3, e3, ok3, l3, q3⟩, fun x H' y => ?_⟩
    obtain ⟨d, ed, ok3, gv, _⟩ := wk.item ok2 l2 hlt y
    rw [drop_at ed, sForL_cons] at q2
    refine ⟨F2, e2, d, _, ok3, gv, q2, fun σ4 e4 _ ok4 q4 => ?_⟩
    refine ⟨F2, e4, _, ok4, q4, fun σ5 F5 H5 e5 ok5 l5 q5 => ⟨F5, e5, ok5, l2.trans l5, q5⟩, fun σ5 F5 H5 e5 ok5 l5 q5 => k1 σ5 F5 H5 e5 ok5 (l1.trans (l2.trans l5)) q5,
      fun σ5 F5 H5 e5 ok5 l5 q5 => ⟨F5, e5, ok5, l2.trans l5, q5⟩, fun σ5 F5 H5 e5 m v ok5 l5 => k4 σ5 F5 H5 e5 m v ok5 (l1.trans (l2.trans l5))⟩
  · have e : i = ds.length := by omega
    subst e
    rw [List.drop_length] at q2
    exact .inl ⟨wk.stop H2 (l2.trans ok2.sub), k1 σ2 F2 H2 e2 ok2 (l1.trans l2) q2⟩

/-! ### while -/
def sWhile (c : FT) (body : FS) : FS := fun env E W => ∃ I : Nat → Env → Prop, (∃ n, I n env) ∧ ∀ n e, I n e → c e (fun b e1 => if b = true then body e1 { nx := fun e2 => ∃ m, m < n ∧ I m e2, rt := E.rt, bk := E.nx, ct := fun e2 => ∃ m, m < n ∧ I m e2 } W else E.nx e1) W
theorem vs_while {c : Expr} {t : FT} (hp : PassesOwn (model X.prog X.w) X.A X.env X.xe) (hc : VT X c t) (hb : VSs X body gb) : VS X (.While c body [] pos) (sWhile t gb) := fun G W gk tk => PS.imp (ps_while hp (hc G W tk) (hb G W gk tk)) fun Dn σ H hw => by
  obtain ⟨F, env, E, ok, ⟨I, ⟨n0, h0⟩, turn⟩, k1, k2, k3, k4⟩ := hw
  refine ⟨fun n σ H => ∃ F2 e2, EnvOk X.K X.mg G F2 H σ e2 ∧ Le F F2 ∧ I n e2, ⟨n0, F, env, ok, Le.refl _, h0⟩, fun n σ2 H2 ⟨F2, e2, ok2, l2, h2⟩ => ?_⟩
  refine ⟨F2, e2, _, ok2, turn n e2 h2, fun b e3 F3 H3 ok3 l3 q3 => ?_⟩
  cases b with
  | false => exact k1 σ2 F3 H3 e3 ok3 (l2.trans l3) q3
  | true =>
    refine ⟨fun σ' H' => ∃ m, m < n ∧ ∃ F4 e4, EnvOk X.K X.mg G F4 H' σ' e4 ∧ Le F F4 ∧ I m e4, fun σ' H' h => h, F3, e3, _, ok3, q3, fun σ5 F5 H5 e5 ok5 l5 ⟨m, hm, q5⟩ => ⟨m, hm, F5, e5, ok5, l2.trans (l3.trans l5), q5⟩,
      fun σ5 F5 H5 e5 ok5 l5 q5 => k1 σ5 F5 H5 e5 ok5 (l2.trans (l3.trans l5)) q5, fun σ5 F5 H5 e5 ok5 l5 ⟨m, hm, q5⟩ => ⟨m, hm, F5, e5, ok5, l2.trans (l3.trans l5), q5⟩, fun σ5 F5 H5 e5 m v ok5 l5 => k4 σ5 F5 H5 e5 m v ok5 (l2.trans (l3.trans l5))⟩
end
end VL

/-! VlJ: list comprehensions by value. -/
namespace VL
open PySem PySem.Spec PyProof.Rows L2

/-- the slots of a block's own names, forgotten; and as they were -/
def wipeS (sl : Slots) : List Nat → Slots
  | [] => sl
  | v :: vs => (wipeS sl vs).set v none
def restS (old new : Slots) : List Nat → Slots
  | [] => new
  | v :: vs => (restS old new vs).set v (old[v]?.getD none)
theorem wipeS_len (sl : Slots) : ∀ vs, (wipeS sl vs).length = sl.length
  | [] => rfl
  | v :: vs => by unfold wipeS; rw [List.length_set, wipeS_len sl vs]
theorem restS_len (old new : Slots) : ∀ vs, (restS old new vs).length = new.length
  | [] => rfl
  | v :: vs => by unfold restS; rw [List.length_set, restS_len old new vs]
theorem wipeS_some {sl : Slots} {i : Nat} {m : M} : ∀ {vs}, (wipeS sl vs)[i]? = some (some m) → sl[i]? = some (some m) ∧ i ∉ vs
  | [], h => ⟨h, by simp⟩
  | v :: vs, h => by
    have h : ((wipeS sl vs).set v none)[i]? = some (some m) := h
    by_cases hi : v = i
    · subst hi
      rw [List.getElem?_set] at h
      split at h
      · split at h <;> cases h
      · cases (by assumption : ¬ v = v) rfl
    · rw [List.getElem?_set_ne hi] at h
      obtain ⟨h1, h2⟩ := wipeS_some h
      exact ⟨h1, by simp only [List.mem_cons, not_or]; exact ⟨fun e => hi e.symm, h2⟩⟩
theorem restS_some {old new : Slots} {i : Nat} {m : M} : ∀ {vs}, (restS old new vs)[i]? = some (some m) → (i ∉ vs ∧ new[i]? = some (some m)) ∨ (i ∈ vs ∧ old[i]? = some (some m))
  | [], h => .inl ⟨by simp, h⟩
  | v :: vs, h => by
    have h : ((restS old new vs).set v (old[v]?.getD none))[i]? = some (some m) := h
    by_cases hi : v = i
    · subst hi
      refine .inr ⟨by simp, ?_⟩
      rw [List.getElem?_set] at h
      split at h
      · split at h
        · cases q : old[v]? with
          | none => rw [q] at h; cases h
          | some o => rw [q] at h; exact h
        · cases h
      · cases (by assumption : ¬ v = v) rfl
    · rw [List.getElem?_set_ne hi] at h
      rcases restS_some h with ⟨h1, h2⟩ | ⟨h1, h2⟩
      · exact .inl ⟨by simp only [List.mem_cons, not_or]; exact ⟨fun e => hi e.symm, h1⟩, h2⟩
      · exact .inr ⟨List.mem_cons_of_mem _ h1, h2⟩
theorem wipe_in {σ : L2.St} {vs : List Nat} : ∀ ws : List Nat, (∀ i ∈ ws, i ∈ vs) → wipe (wipe σ ws) vs = wipe σ vs
  | [], _ => rfl
  | w :: ws, h => by
    show wipe ((wipe σ ws).set w none) vs = _
    rw [wipe_set (h w List.mem_cons_self)]
    exact wipe_in ws fun i hi => h i (List.mem_cons_of_mem _ hi)
theorem wipe_wipe {σ : L2.St} {vs : List Nat} : wipe (wipe σ vs) vs = wipe σ vs := wipe_in vs fun _ h => h
def wipeE (env : Env) (vs : List Nat) : Env := { env with sl := wipeS env.sl vs }
def restE (old new : Env) (vs : List Nat) : Env := { old with sl := restS old.sl new.sl vs }
/-- no borrowed slot among vs -/
def offB (env : Env) (vs : List Nat) : Bool := vs.all fun v => !env.bor.contains v

/-- the ghost of a turn: what stands now is kept, but what is own in a slot -/
def Gh.now (G : Gh) (F H : Hp) (σ : L2.St) (sl : Slots) : Gh := { F0 := F, H0 := H, own0 := fun a => ∃ i, OwnAt σ sl i a, bor := G.bor }
section
variable {K : Fg} {mg : Mg} {G : Gh} {F F' H H' : Hp} {σ σ' : L2.St} {env env' : Env} {vs : List Nat} {i : Nat} {a : Addr}
theorem own_wipe (z : OwnAt (wipe σ vs) (wipeS env.sl vs) i a) : OwnAt σ env.sl i a ∧ i ∉ vs := by
  obtain ⟨m, e1, e2, e3⟩ := z
  obtain ⟨h1, h2⟩ := wipeS_some e1
  exact ⟨⟨m, h1, e2, (wipe_some e3).1⟩, h2⟩
theorem not_bor (ok : EnvOk K mg G F H σ env) (hb : offB env vs = true) : ∀ p ∈ G.bor, p.1 ∉ vs := fun p hp hv => by
  unfold offB at hb
  have := List.all_eq_true.mp hb p.1 hv
  rw [ok.bor] at this
  have m : p.1 ∈ G.bor.map (·.1) := List.mem_map.mpr ⟨p, hp, rfl⟩
  simp [m] at this
/-- into a block's turn -/
theorem EnvOk.enter (ok : EnvOk K mg G F H σ env) (hb : offB env vs = true) : EnvOk K mg (G.now F H (wipe σ vs) (wipeS env.sl vs)) F H (wipe σ vs) (wipeE env vs) := by
  have nb := not_bor ok hb
  refine ⟨ok.sub, fun j m e => ?_, fun j k b z1 z2 => ok.apart j k b (own_wipe z1).1 (own_wipe z2).1, Le.refl _, fun b o e _ => e, fun b e => e, fun b o e => .inl e, fun j b z => .inl ⟨j, z⟩, ok.bor, fun p hp => ?_, fun p hp j z => ok.sep p hp j (own_wipe z).1, fun p hp e => ok.borH p hp (ok.dom _ e), ?_⟩
  · obtain ⟨h1, h2⟩ := wipeS_some e
    obtain ⟨v, e1, r⟩ := ok.slot j m h1
    exact ⟨v, by rw [wipe_out h2]; exact e1, r⟩
  · rw [wipe_out (nb p hp)]; exact ok.borA p hp
  · show (wipeS env.sl vs).length = _
    rw [wipeS_len, wipe_length]; exact ok.len
/-- back from it -/
theorem EnvOk.back (ok : EnvOk K mg G F H σ env) (hb : offB env vs = true) (ok' : EnvOk K mg (G.now F H (wipe σ vs) (wipeS env.sl vs)) F' H' σ' env') (hw : wipe σ' vs = wipe σ vs) : EnvOk K mg G F' H' σ (restE env env' vs) := by
  have nb := not_bor ok hb
  have same : ∀ {j}, j ∉ vs → σ'[j]? = σ[j]? := fun hj => by rw [← wipe_out hj, hw, wipe_out hj]
  have keepH : ∀ {j b}, j ∈ vs → OwnAt σ env.sl j b → H' b = H b ∧ F' b = none := fun {j b} hj z => by
    obtain ⟨n1, u, hu, mu⟩ := z.some ok
    have no : ¬ (∃ i, OwnAt (wipe σ vs) (wipeS env.sl vs) i b) := fun ⟨i, z'⟩ => by
      obtain ⟨z1, z2⟩ := own_wipe z'
      exact z2 (ok.apart i j b z1 z ▸ hj)
    refine ⟨by rw [ok'.frame b u hu no, hu], ?_⟩
    cases q : F' b with
    | none => rfl
    | some o =>
      rcases ok'.newF b o q with z | z | z
      · rw [show F b = some o from z] at n1; cases n1
      · rw [show H b = none from z] at hu; cases hu
      · exact (no z).elim
  have back : ∀ {j b}, OwnAt σ (restS env.sl env'.sl vs) j b → (j ∉ vs ∧ OwnAt σ' env'.sl j b) ∨ (j ∈ vs ∧ OwnAt σ env.sl j b) := fun {j b} ⟨m, e1, e2, e3⟩ => by
    rcases restS_some e1 with ⟨h1, h2⟩ | ⟨h1, h2⟩
    · exact .inl ⟨h1, m, h2, e2, by rw [same h1]; exact e3⟩
    · exact .inr ⟨h1, m, h2, e2, e3⟩
  have clash : ∀ {j k b}, (j ∉ vs ∧ OwnAt σ' env'.sl j b) → (k ∈ vs ∧ OwnAt σ env.sl k b) → False := fun {j k b} z1 z2 => by
    obtain ⟨n1, u, hu, mu⟩ := z2.2.some ok
    rcases ok'.newO j b z1.2 with ⟨i, z⟩ | z
    · obtain ⟨y1, y2⟩ := own_wipe z
      exact y2 (ok.apart i k b y1 z2.2 ▸ z2.1)
    · rw [show H b = none from z] at hu; cases hu
  refine ⟨ok'.sub, fun j m e => ?_, fun j k b z1 z2 => ?_, ok.frz.trans ok'.frz, fun b o e n => ?_, fun b e => ok.dom b (ok'.dom b e), fun b o e => ?_, fun j b z => ?_, ok.bor, ok.borA, fun p hp j z => ?_, ok.borH, ?_⟩
  · rcases restS_some e with ⟨h1, h2⟩ | ⟨h1, h2⟩
    · obtain ⟨v, e1, r⟩ := ok'.slot j m h2
      exact ⟨v, by rw [← same h1]; exact e1, r⟩
    · obtain ⟨v, e1, r⟩ := ok.slot j m h2
      exact ⟨v, e1, r.le ok'.frz fun o b eb => keepH h1 ⟨m, h2, o, by rw [e1, eb]⟩⟩
  · rcases back z1 with y1 | y1
    · rcases back z2 with y2 | y2
      · exact ok'.apart j k b y1.2 y2.2
      · exact (clash y1 y2).elim
    · rcases back z2 with y2 | y2
      · exact (clash y2 y1).elim
      · exact ok.apart j k b y1.2 y2.2
  · refine ok'.frame b o (ok.frame b o e n) fun ⟨i, z⟩ => ?_
    rcases ok.newO i b (own_wipe z).1 with q | q
    · exact n q
    · rw [q] at e; cases e
  · rcases ok'.newF b o e with z | z | ⟨i, z⟩
    · exact ok.newF b o z
    · exact .inr (.inl (ok.dom b z))
    · exact (ok.newO i b (own_wipe z).1).elim (fun q => .inr (.inr q)) fun q => .inr (.inl q)
  · rcases back z with y | y
    · rcases ok'.newO j b y.2 with ⟨i, q⟩ | q
      · exact ok.newO i b (own_wipe q).1
      · exact .inr (ok.dom b q)
    · exact ok.newO j b y.2
  · rcases back z with y | y
    · exact ok'.sep p hp j y.2
    · exact ok.sep p hp j y.2
  · show (restS env.sl env'.sl vs).length = _
    rw [restS_len, ok'.len, ← wipe_length σ' vs, hw, wipe_length]
/-- a thing that nobody holds is changed -/
theorem EnvOk.other (ok : EnvOk K mg G F H σ env) {u : HO} (hF : F a = none) (hn : ∀ i, ¬ OwnAt σ env.sl i a) (hG : G.H0 a = none) : EnvOk K mg G F (upd H a u) σ env := by
  refine ⟨fun b w e => ?_, fun j m e => ?_, ok.apart, ok.frz, fun b w e n => ?_, fun b e => ok.dom b ?_, ok.newF, ok.newO, ok.bor, ok.borA, ok.sep, ok.borH, ok.len⟩
  · have hb : b ≠ a := fun z => by rw [z, hF] at e; cases e
    rw [upd_ne hb]; exact ok.sub _ _ e
  · obtain ⟨v, e1, r⟩ := ok.slot j m e
    refine ⟨v, e1, r.le (Le.refl _) fun o b eb => ?_⟩
    have z : OwnAt σ env.sl j b := ⟨m, e, o, by rw [e1, eb]⟩
    have hb : b ≠ a := fun q => hn j (q ▸ z)
    exact ⟨upd_ne hb, (z.some ok).1⟩
  · have hb : b ≠ a := fun z => by rw [z, hG] at e; cases e
    rw [upd_ne hb]; exact ok.frame _ _ e n
  · by_cases hb : b = a
    · subst hb; rw [upd_same] at e; cases e
    · rw [upd_ne hb] at e; exact e
end

/-! ### the block's readings, whatever the turn's ghost is -/
def W0 : KX := fun _ _ => False
def someE (K : Fg) (mg : Mg) (f : FE) : TE := fun σ H Q => ∃ G, liftE K mg G W0 f σ H Q
def someT (K : Fg) (mg : Mg) (f : FT) : TT := fun σ H Q => ∃ G, liftT K mg G W0 f σ H Q
def someG (K : Fg) (mg : Mg) (vs : List Nat) (pr : Bool) (g : FG) : TG := fun v σ H Q => ∃ G, liftGp K mg G vs pr g v σ H Q
/-- a clause's tests -/
def VTs (X : Cx) (ifs : List Expr) (f : FT) : Prop := ∀ G W, Takes X (liftW X.K X.mg G W) → PTs X ifs (liftT X.K X.mg G W f)
def fYes : FT := fun env Q _ => Q true env
section
variable {X : Cx}
theorem vts_nil : VTs X [] fYes := fun G W t => ⟨fun pins s σ H Q I hw => by
  obtain ⟨F, env, Q', ok, hf, q⟩ := hw
  exact pts_nil.run pins s σ H Q I (q true env F H ok (Le.refl _) hf)⟩
theorem vts_one {c : Expr} {f : FT} (h : VT X c f) : VTs X [c] f := fun G W t => pts_one (h G W t)
end
/-- no exception is let out of a block -/
theorem takes_blk {X : Cx} {G : Gh} (hx : X.xe = fun _ _ => False) : Takes X (liftW X.K X.mg G W0) := fun u s' x => by
  obtain ⟨a, B, sI, pins, σ, H, cls, d, _, _, _, _, _, _, _, _, w⟩ := x
  obtain ⟨ex, F, env, _, _, h⟩ := w
  exact h.elim

/-! ### [elt for target in iter if ..] -/
def fLcL (vs : List Nat) (g : FG) (ft : FT) (fe : FE) : List D → Env → (List D → Env → Prop) → Prop
  | [], env, k => k [] env
  | d :: ds, env, k => g d (wipeE env vs) fun e1 => ft e1 (fun b e2 =>
      if b = true then fe e2 (fun r e3 => bindP (lkR e3 r) fun x => bindP (dOf x.1) fun y => fLcL vs g ft fe ds (restE env x.2 vs) fun ys e4 => k (y :: ys) e4) W0
      else fLcL vs g ft fe ds (restE env e2 vs) k) W0
def fLc (w : FW) (vs : List Nat) (g : FG) (ft : FT) (fe : FE) : FE := fun env Q W => w env (fun ds e1 => offB e1 vs = true ∧ ds.length ≤ 16777216 ∧ fLcL vs g ft fe ds e1 fun ys e2 => Q (.val (.lst ys)) e2) W
section
variable {X : Cx} {elt tg iter : Expr} {ifs : List Expr} {scope : Scope} {own : List (Str × Nat)} {is : List Nat} {pos : Pos} {w : FW} {pr : Bool} {g : FG} {ft : FT} {fe : FE}
/-- the turns of a comprehension's reading, by value -/
theorem lc_lift {G : Gh} {W : KX} {σ : L2.St} {H : Hp} {Qh : VK} {vs : List Nat} (hw : liftE X.K X.mg G W (fLc w vs g ft fe) σ H Qh) : tLc (liftI X.K X.mg G W pr w) (someG X.K X.mg vs pr g) (someT X.K X.mg ft) (someE X.K X.mg fe) vs σ H Qh := by
  obtain ⟨F, env, Q, ok, hf, q⟩ := hw
  refine ⟨F, env, _, ok, hf, fun ds e1 F1 H1 J ok1 l1 wk hq => ?_⟩
  obtain ⟨hb, hz, hq⟩ := hq
  intro D hD
  -- the invariant: the list at D, what is left to do
  refine ⟨fun i m H => i + m = ds.length ∧ ∃ F2 e2 accV acc, EnvOk X.K X.mg G F2 H σ e2 ∧ Le F1 F2 ∧ offB e2 vs = true ∧ H D = some (.lst accV) ∧ F2 D = none ∧ G.H0 D = none ∧ (∀ j, ¬ OwnAt σ e2.sl j D) ∧ DtAll X.K F2 accV acc ∧ acc.length ≤ i ∧
      fLcL vs g ft fe (ds.drop i) e2 fun ys e3 => Q (.val (.lst (acc ++ ys))) e3, ⟨ds.length, Nat.zero_add _, F1, e1, [], [], ok1.newH hD, Le.refl _, hb, upd_same, ?_, ok1.dom _ hD, fun j z => ?_, .nil, Nat.le_refl _, hq⟩, fun i m H2 hW => ?_⟩
  · cases e : F1 D with
    | none => rfl
    | some o => rw [ok1.sub _ _ e] at hD; cases hD
  · obtain ⟨_, u, hu, _⟩ := z.some ok1
    rw [hD] at hu; cases hu
  obtain ⟨em, F2, e2, accV, acc, ok2, l2, hb2, hDa, hFD, hGD, hnD, racc, hlen, q2⟩ := hW
  by_cases hlt : i < ds.length
  · refine .inr ⟨wk.go i H2 hlt (l2.trans ok2.sub), fun H' => ∃ F3 e3 accV acc, EnvOk X.K X.mg G F3 H' σ e3 ∧ Le F1 F3 ∧ offB e3 vs = true ∧ H' D = some (.lst accV) ∧ F3 D = none ∧ G.H0 D = none ∧ (∀ j, ¬ OwnAt σ e3.sl j D) ∧ DtAll X.K F3 accV acc ∧ acc.length ≤ i + 1 ∧
        fLcL vs g ft fe (ds.drop (i + 1)) e3 fun ys e4 => Q (.val (.lst (acc ++ ys))) e4, fun H' h => ⟨m - 1, by omega, by omega, h⟩, fun x H' y => ?_⟩
    obtain ⟨d, ed, ok3, gv, kH⟩ := wk.item ok2 l2 hlt y
    rw [drop_at ed] at q2
    have hDa3 := kH _ _ hDa
    -- what is known of D behind the block's steps
    have keep : ∀ {F5 H5 : Hp} {σ5 : L2.St} {e5 : Env}, EnvOk X.K X.mg (G.now F2 H' (wipe σ vs) (wipeS e2.sl vs)) F5 H5 σ5 e5 → wipe σ5 vs = wipe σ vs →
        H5 D = some (.lst accV) ∧ F5 D = none ∧ (∀ j, ¬ OwnAt σ (restE e2 e5 vs).sl j D) := fun {F5 H5 σ5 e5} ok5 w5 => by
      have no : ¬ (∃ i, OwnAt (wipe σ vs) (wipeS e2.sl vs) i D) := fun ⟨i, z⟩ => hnD i (own_wipe z).1
      refine ⟨ok5.frame D _ hDa3 no, ?_, fun j z => ?_⟩
      · cases q : F5 D with
        | none => rfl
        | some o =>
          rcases ok5.newF D o q with z | z | z
          · rw [show F2 D = some o from z] at hFD; cases hFD
          · rw [show H' D = none from z] at hDa3; cases hDa3
          · exact (no z).elim
      · obtain ⟨m', z1, z2, z3⟩ := z
        rcases restS_some z1 with ⟨h1, h2⟩ | ⟨h1, h2⟩
        · have z3' : σ5[j]? = some (some (.ref D)) := by rw [← wipe_out h1, w5, wipe_out h1]; exact z3
          rcases ok5.newO j D ⟨m', h2, z2, z3'⟩ with z | z
          · exact no z
          · rw [show H' D = none from z] at hDa3; cases hDa3
        · exact hnD j ⟨m', h2, z2, z3⟩
    have okE := EnvOk.enter (vs := vs) ok3 hb2
    refine ⟨_, F2, wipeE e2 vs, d, _, okE, gv, q2, fun σ4 e4 w4 ok4 q4 => ⟨by rw [w4]; exact wipe_wipe, ?_⟩⟩
    have w4' : wipe σ4 vs = wipe σ vs := by rw [w4]; exact wipe_wipe
    refine ⟨_, F2, e4, _, ok4, q4, fun b e5 F5 H5 ok5 l5 q5 => ?_⟩
    cases b with
    | false =>
      simp only [Bool.false_eq_true, if_false] at q5 ⊢
      obtain ⟨k1, k2, k3⟩ := keep ok5 w4'
      exact ⟨F5, restE e2 e5 vs, accV, acc, EnvOk.back ok3 hb2 ok5 w4', l2.trans l5, hb2, k1, k2, hGD, k3, racc.le l5, by omega, q5⟩
    | true =>
      simp only [if_true] at q5 ⊢
      refine ⟨_, F5, e5, _, ok5, q5, fun r e6 v F6 H6 ok6 l6 rr q6 => ?_⟩
      obtain ⟨⟨x, e7⟩, ex, q6⟩ := bindP_of q6
      obtain ⟨yd, ey, q6⟩ := bindP_of q6
      obtain ⟨F7, ok7, l7, ax⟩ := rr.leak ok6 ex
      cases x with
      | g x => cases ey
      | s x => cases ey
      | d d7 =>
        cases ey
        obtain ⟨k1, k2, k3⟩ := keep ok7 w4'
        have l27 : Le F2 F7 := l5.trans (l6.trans l7)
        refine ⟨accV, k1, ?_, F7, restE e2 e7 vs, accV ++ [v], acc ++ [yd], EnvOk.other (EnvOk.back ok3 hb2 ok7 w4') k2 k3 hGD, l2.trans l27, hb2, upd_same, k2, hGD, k3, (racc.le l27).append (.cons ax .nil), ?_, ?_⟩
        · rw [racc.length]
          have := line_of hz
          omega
        · rw [List.length_append]; simp; omega
        · simpa [List.append_assoc] using q6
  · have e : i = ds.length := by omega
    subst e
    rw [List.drop_length] at q2
    refine .inl ⟨wk.stop H2 (l2.trans ok2.sub), ?_⟩
    have q2 : Q (.val (.lst (acc ++ []))) e2 := q2
    rw [List.append_nil] at q2
    exact q (.val (.lst acc)) e2 (.ref D) F2 H2 ok2 (l1.trans l2) ⟨⟨D, accV, rfl, hDa, hFD, racc⟩, fun _ b eb => by cases eb; exact ⟨hGD, hnD⟩⟩ q2
end
end VL
namespace VL
open PySem PySem.Spec PyProof.Rows L2
section
variable {X : Cx} {elt tg iter : Expr} {ifs : List Expr} {scope : Scope} {own : List (Str × Nat)} {is : List Nat} {pos spos : Pos} {w : FW} {pr : Bool} {g : FG} {ft : FT} {fe : FE}
theorem some_g {vs : List Nat} (h : VGp X tg is pr g) (hv : ∀ i ∈ is, i ∈ vs) : PG X tg (someG X.K X.mg vs pr g) := ⟨fun pins s σ H v u Q I r ⟨G, q⟩ => (h G vs hv).run pins s σ H v u Q I r q⟩
theorem some_t (h : VTs X ifs ft) (hx : X.xe = fun _ _ => False) : PTs X ifs (someT X.K X.mg ft) := ⟨fun pins s σ H Q I ⟨G, q⟩ => (h G W0 (takes_blk hx)).run pins s σ H Q I q⟩
theorem some_e (h : VE X elt fe) (hx : X.xe = fun _ _ => False) : PE X elt (someE X.K X.mg fe) := ⟨fun pins s σ H Q I ⟨G, q⟩ => (h G W0 (takes_blk hx)).run pins s σ H Q I q⟩
theorem ve_lc (hc : X.calm = true) (hN : X.N.Nodup) (hi : VI X tg iter pr w) (ok : BlkOk X.N X.env.scope scope own)
    (hg : ∀ (s : Shared) (H : Hp) (C : Addr) (cl : List (Str × Addr)) (fp : List Addr), VGp (X.blk s H scope (compEnvC scope cl C X.env) fp) tg is pr g)
    (ht : ∀ (s : Shared) (H : Hp) (C : Addr) (cl : List (Str × Addr)) (fp : List Addr), VTs (X.blk s H scope (compEnvC scope cl C X.env) fp) ifs ft)
    (he : ∀ (s : Shared) (H : Hp) (C : Addr) (cl : List (Str × Addr)) (fp : List Addr), VE (X.blk s H scope (compEnvC scope cl C X.env) fp) elt fe) (hv : ∀ i ∈ is, i ∈ own.map (·.2) := by decide)
    (hs : ∀ x, foldedSetIterable iter X.env x = pure x := by intro _; rfl) : VE X (.ListComp elt [⟨tg, iter, ifs, 0⟩] scope pos) (fLc w (own.map (·.2)) g ft fe) := fun G W t =>
  PE.imp (pe_lc hc hN (hi G W t) ok (fun s H C cl fp => some_g (hg s H C cl fp) hv) (fun s H C cl fp => some_t (ht s H C cl fp) rfl) (fun s H C cl fp => some_e (he s H C cl fp) rfl) hs) fun σ H Qh hw => lc_lift hw
/-- name = [..], the name a local -/
theorem vs_setLc {i : Nat} {y : Str} {py : Pos} (hc : X.calm = true) (hN : X.N.Nodup) (hy : X.N[i]? = some y) (hyl : X.env.scope.names.lookup y = some .local) (hsw : swapsWith (.ListComp elt [⟨tg, iter, ifs, 0⟩] scope pos) (some (.Name y py)) spos.line X.env = pure true)
    (hi : VI X tg iter pr w) (ok : BlkOk X.N X.env.scope scope own)
    (hg : ∀ (s : Shared) (H : Hp) (C : Addr) (cl : List (Str × Addr)) (fp : List Addr), VGp (X.blk s H scope (compEnvC scope cl C X.env) fp) tg is pr g)
    (ht : ∀ (s : Shared) (H : Hp) (C : Addr) (cl : List (Str × Addr)) (fp : List Addr), VTs (X.blk s H scope (compEnvC scope cl C X.env) fp) ifs ft)
    (he : ∀ (s : Shared) (H : Hp) (C : Addr) (cl : List (Str × Addr)) (fp : List Addr), VE (X.blk s H scope (compEnvC scope cl C X.env) fp) elt fe) (hv : ∀ i ∈ is, i ∈ own.map (·.2) := by decide)
    (hs : ∀ x, foldedSetIterable iter X.env x = pure x := by intro _; rfl) : VS X (.Assign [.Name y py] (.ListComp elt [⟨tg, iter, ifs, 0⟩] scope pos) spos) (sSet i (fLc w (own.map (·.2)) g ft fe)) := fun G W _ t =>
  PS.imp (ps_setLc hc hN hy hyl hsw (hi G W t) ok (fun s H C cl fp => some_g (hg s H C cl fp) hv) (fun s H C cl fp => some_t (ht s H C cl fp) rfl) (fun s H C cl fp => some_e (he s H C cl fp) rfl) hs) fun Dn σ H hw => by
    obtain ⟨F, env, E, ok, hf, k1, _⟩ := hw
    refine lc_lift ⟨F, env, _, ok, hf, fun r e1 v F1 H1 ok1 l1 rr q => ?_⟩
    obtain ⟨e2, ee, q⟩ := bindP_of q
    obtain ⟨F2, ok2, l2⟩ := RR.store ok1 rr ee
    exact k1 _ F2 H1 e2 ok2 (l1.trans l2) q
end
end VL

/-! VlK: what a def promises, by value; calls. -/
namespace VL
open PySem PySem.Spec PyProof.Rows L2

/-- a def's promise by value: the arguments; the wanted end with what then stands in the borrowed ones; the wanted exception -/
abbrev SpV := List M → (M → List M → Prop) → (Ex → List M → Prop) → Prop
/-- the values of the borrowed slots -/
def borOf (sl : Slots) : List Nat → Option (List M)
  | [] => some []
  | i :: is => match sl[i]? with
    | some (some m) => if isOwn m = true then (match borOf sl is with
      | some ms => some (m :: ms)
      | none => none) else none
    | _ => none
theorem borOf_at {sl : Slots} : ∀ {bs : List Nat} {ms : List M}, borOf sl bs = some ms → ms.length = bs.length ∧ ∀ (k i : Nat), bs[k]? = some i → ∃ m, ms[k]? = some m ∧ sl[i]? = some (some m) ∧ isOwn m = true
  | [], ms, h => by cases h; exact ⟨rfl, fun k i e => by simp at e⟩
  | b :: bs, ms, h => by
    have h : (match sl[b]? with | some (some m) => if isOwn m = true then (match borOf sl bs with | some ms => some (m :: ms) | none => none) else none | _ => none) = some ms := h
    split at h
    · split at h
      · cases q : borOf sl bs with
        | none => rw [q] at h; cases h
        | some ms' =>
          rw [q] at h
          cases h
          obtain ⟨h1, h2⟩ := borOf_at q
          refine ⟨by rw [List.length_cons, List.length_cons, h1], fun k i e => ?_⟩
          cases k with
          | zero => simp at e; subst e; exact ⟨_, rfl, by assumption, by assumption⟩
          | succ k => simpa using h2 k i (by simpa using e)
      · cases h
    · cases h

/-- the arguments of a call, the borrowed ones at bs -/
structure ArgIn (K : Fg) (mg : Mg) (F H : Hp) (bs : List Nat) (vs : List V) (ms : List M) : Prop where
  len : vs.length = ms.length
  val : ∀ i m, ms[i]? = some m → ∃ v, vs[i]? = some v ∧ RM K mg F H m v ∧ (isOwn m = true → i ∈ bs)
  bor : ∀ i ∈ bs, ∃ m a, ms[i]? = some m ∧ isOwn m = true ∧ vs[i]? = some (.ref a)
  inj : ∀ i j a, i ∈ bs → j ∈ bs → vs[i]? = some (V.ref a) → vs[j]? = some (V.ref a) → i = j
/-- behind a call -/
structure Bk (K : Fg) (mg : Mg) (F H : Hp) (bs : List Nat) (vs : List V) (F' H' : Hp) (bms : List M) : Prop where
  le : Le F F'
  sub : Le F' H'
  frame : ∀ a o, H a = some o → (¬ ∃ i ∈ bs, vs[i]? = some (V.ref a)) → H' a = some o
  dom : ∀ a, H' a = none → H a = none
  newF : ∀ a o, F' a = some o → F a = some o ∨ H a = none
  len : bms.length = bs.length
  bor : ∀ (k i : Nat) (a : Addr), bs[k]? = some i → vs[i]? = some (V.ref a) → ∃ m, bms[k]? = some m ∧ isOwn m = true ∧ RM K mg F' H' m (.ref a)
def QV (K : Fg) (mg : Mg) (F H : Hp) (bs : List Nat) (vs : List V) (Q : M → List M → Prop) : VK := fun v H' => ∃ F' m bms, Bk K mg F H bs vs F' H' bms ∧ RM K mg F' H' m v ∧ (isOwn m = true → ∀ a, v = .ref a → H a = none) ∧ Q m bms
def EV (K : Fg) (mg : Mg) (F H : Hp) (bs : List Nat) (vs : List V) (E : Ex → List M → Prop) : XK := fun cls d H' => ∃ ex F' bms, Bk K mg F H bs vs F' H' bms ∧ ExOk K mg F' H' ex cls d ∧ E ex bms
structure FnV (P : Program) (w : World) (K : Fg) (mg : Mg) (base : Heap) (k : Nat) (f : Addr) (fd : FuncData) (ps : List Str) (bs : List Nat) (sp : SpV) : Prop where
  len : ∀ ms Q E, sp ms Q E → ms.length = ps.length
  run : ∀ (A : Around) (outer : List PySem.Env) (s : Shared) (H F : Hp) (args : Args) (us : List Value) (vs : List V) (ms : List M) (Q : M → List M → Prop) (E : Ex → List M → Prop), Room k A → A.guards = some [] → Env0 P w K mg base A outer s H → BindsTo s fd args (ps.zip us) →
    Vals vs us → Le F H → ArgIn K mg F H bs vs ms → sp ms Q E → codeAny (model P w) A (.call (.ref f) args) (CR (L2.CX P w) outer P w H s (QV K mg F H bs vs Q) (EV K mg F H bs vs E)) s
theorem FnV.imp {P : Program} {w : World} {K : Fg} {mg : Mg} {base : Heap} {k : Nat} {f : Addr} {fd : FuncData} {ps : List Str} {bs : List Nat} {sp sp' : SpV} (h : FnV P w K mg base k f fd ps bs sp) (i : ∀ ms Q E, sp' ms Q E → sp ms Q E) : FnV P w K mg base k f fd ps bs sp' :=
  ⟨fun ms Q E q => h.len ms Q E (i _ _ _ q), fun A outer s H F args us vs ms Q E a b c d e l g q => h.run A outer s H F args us vs ms Q E a b c d e l g (i _ _ _ q)⟩

/-! ### the entry -/
def ghV (F H : Hp) (bs : List Nat) (vs : List V) : Gh := { F0 := F, H0 := H, own0 := fun a => ∃ i ∈ bs, vs[i]? = some (.ref a), bor := bs.filterMap fun i => match vs[i]? with | some (V.ref a) => some (i, a) | _ => none }
def env0 (n : Nat) (ms : List M) (bs : List Nat) : Env := { sl := ms.map some ++ List.replicate (n - ms.length) none, bor := bs }
theorem ghV_mem {F H : Hp} {bs : List Nat} {vs : List V} {p : Nat × Addr} : p ∈ (ghV F H bs vs).bor ↔ p.1 ∈ bs ∧ vs[p.1]? = some (.ref p.2) := by
  unfold ghV
  simp only [List.mem_filterMap]
  constructor
  · rintro ⟨i, hi, e⟩
    split at e
    · cases e; exact ⟨hi, by assumption⟩
    · cases e
  · rintro ⟨h1, h2⟩
    exact ⟨p.1, h1, by rw [h2]⟩
theorem gok_ghV {F H : Hp} {bs : List Nat} {vs : List V} : GOk (ghV F H bs vs) := fun a ⟨i, h1, h2⟩ => ⟨(i, a), ghV_mem.mpr ⟨h1, h2⟩, rfl⟩
theorem start_at {N : List Str} {vs : List V} {i : Nat} {v : V} (h : vs[i]? = some v) : (start N vs)[i]? = some (some v) := by
  unfold L2.start
  rw [List.getElem?_append_left (by rw [List.length_map]; exact (List.getElem?_eq_some_iff.mp h).1), List.getElem?_map, h] <;> rfl
theorem env0_at {n : Nat} {ms : List M} {bs : List Nat} {i : Nat} {m : M} (h : (env0 n ms bs).sl[i]? = some (some m)) : ms[i]? = some m := by
  have h : (ms.map some ++ List.replicate (n - ms.length) none)[i]? = some (some m) := h
  by_cases hi : i < ms.length
  · rw [List.getElem?_append_left (by rw [List.length_map]; exact hi), List.getElem?_map] at h
    cases q : ms[i]? with
    | none => rw [q] at h; cases h
    | some m' => rw [q] at h; cases h; rfl
  · rw [List.getElem?_append_right (by rw [List.length_map]; omega), List.getElem?_replicate] at h
    split at h <;> cases h
section
variable {K : Fg} {mg : Mg} {F H F' H' : Hp} {bs : List Nat} {vs : List V} {ms bms : List M} {N : List Str}
theorem ArgIn.own (h : ArgIn K mg F H bs vs ms) {i : Nat} {a : Addr} (o : OwnAt (start N vs) (env0 N.length ms bs).sl i a) : i ∈ bs ∧ vs[i]? = some (.ref a) := by
  obtain ⟨m, e1, e2, e3⟩ := o
  obtain ⟨v, h1, _, h2⟩ := h.val i m (env0_at e1)
  rw [start_at h1] at e3
  cases e3
  exact ⟨h2 e2, h1⟩
theorem EnvOk.start (h : ArgIn K mg F H bs vs ms) (l : Le F H) (hn : vs.length ≤ N.length) : EnvOk K mg (ghV F H bs vs) F H (start N vs) (env0 N.length ms bs) := by
  refine ⟨l, fun i m e => ?_, fun i j a z1 z2 => ?_, Le.refl _, fun a o e _ => e, fun a e => e, fun a o e => .inl e, fun i a z => .inl ⟨i, h.own z⟩, ?_, fun p hp => start_at (ghV_mem.mp hp).2, fun p hp i z => ?_, fun p hp => ?_, ?_⟩
  · obtain ⟨v, h1, r, _⟩ := h.val i m (env0_at e)
    exact ⟨v, start_at h1, r⟩
  · obtain ⟨a1, a2⟩ := h.own z1
    obtain ⟨b1, b2⟩ := h.own z2
    exact h.inj i j a a1 b1 a2 b2
  · show bs = (ghV F H bs vs).bor.map (·.1)
    have all : ∀ l : List Nat, (∀ i ∈ l, ∃ a, vs[i]? = some (V.ref a)) → (l.filterMap fun i => match vs[i]? with | some (V.ref a) => some (i, a) | _ => none).map (·.1) = l := by
      intro l
      induction l with
      | nil => intro _; rfl
      | cons i l ih =>
        intro hl
        obtain ⟨a, e⟩ := hl i List.mem_cons_self
        rw [List.filterMap_cons, e]
        show i :: _ = _
        rw [ih fun j hj => hl j (List.mem_cons_of_mem _ hj)]
    exact (all bs fun i hi => let ⟨m, a, _, _, e⟩ := h.bor i hi; ⟨a, e⟩).symm
  · obtain ⟨a1, a2⟩ := h.own z
    obtain ⟨b1, b2⟩ := ghV_mem.mp hp
    exact h.inj i p.1 p.2 a1 b1 a2 b2
  · obtain ⟨b1, b2⟩ := ghV_mem.mp hp
    obtain ⟨m, a, h1, h2, h3⟩ := h.bor p.1 b1
    obtain ⟨v, h4, r, _⟩ := h.val _ _ h1
    obtain ⟨a', u, e, _, hu, _⟩ := r.own h2
    rw [b2] at h4
    cases h4
    cases e
    intro z
    rw [show H p.2 = none from z] at hu; cases hu
  · show (ms.map some ++ List.replicate (N.length - ms.length) none).length = _
    have hl := h.len
    unfold L2.start
    simp only [List.length_append, List.length_map, List.length_replicate]
    omega
/-- at the end of the body -/
theorem EnvOk.back_of (h : ArgIn K mg F H bs vs ms) {σ : L2.St} {env : Env} (ok : EnvOk K mg (ghV F H bs vs) F' H' σ env) (hb : borOf env.sl bs = some bms) : Bk K mg F H bs vs F' H' bms := by
  obtain ⟨hl, hat⟩ := borOf_at hb
  have one : ∀ (k i : Nat) (a : Addr), bs[k]? = some i → vs[i]? = some (V.ref a) → ∃ m, bms[k]? = some m ∧ isOwn m = true ∧ env.sl[i]? = some (some m) ∧ σ[i]? = some (some (V.ref a)) := fun k i a e1 e2 => by
    obtain ⟨m, h1, h2, h3⟩ := hat k i e1
    exact ⟨m, h1, h3, h2, ok.borA (i, a) (ghV_mem.mpr ⟨List.mem_of_getElem? e1, e2⟩)⟩
  refine ⟨ok.frz, ok.sub, fun a o e n => ok.frame a o e n, ok.dom, fun a o e => ?_, hl, fun k i a e1 e2 => ?_⟩
  · rcases ok.newF a o e with z | z | ⟨i, hi, z⟩
    · exact .inl z
    · exact .inr z
    · obtain ⟨k, hk⟩ := List.mem_iff_getElem?.mp hi
      obtain ⟨m, h1, h2, h3, h4⟩ := one k i a hk z
      have o : OwnAt σ env.sl i a := ⟨m, h3, h2, h4⟩
      rw [(o.some ok).1] at e; cases e
  · obtain ⟨m, h1, h2, h3, h4⟩ := one k i a e1 e2
    obtain ⟨v, h5, r⟩ := ok.slot i m h3
    rw [h4] at h5
    cases h5
    exact ⟨m, h1, h2, r⟩
end

/-- the ends of a body, from the promise's -/
def endV (bs : List Nat) (Q : M → List M → Prop) : EndV := { nx := fun e => bindP (borOf e.sl bs) fun b => Q (.fz .none) b, rt := fun m e => bindP (borOf e.sl bs) fun b => Q m b }
def endX (bs : List Nat) (E : Ex → List M → Prop) : KX := fun ex e => bindP (borOf e.sl bs) fun b => E ex b
/-- the body's reading at the entry -/
def bodyV (n np : Nat) (bs : List Nat) (g : FS) : SpV := fun ms Q E => ms.length = np ∧ g (env0 n ms bs) (endV bs Q) (endX bs E)
section
variable {P : Program} {w : World} {K : Fg} {mg : Mg} {base : Heap}
/-- THE RULE for a def by value -/
theorem FnV.of {k : Nat} {x qual : Str} {st : Stmt} {f : Addr} {fd : FuncData} {N ps : List Str} {bs : List Nat} {g : FS} (D : Fun K x qual st f fd) (S : FnScope N ps (defScope st))
    (body : ∀ (cdv : Value) (A : Around) (outer : List PySem.Env) (s : Shared) (H : Hp) (E : XK), Room k (A.deeper (envOfC qual (defScope st) s.heap.objs.size f cdv)) → (A.deeper (envOfC qual (defScope st) s.heap.objs.size f cdv)).guards = some [] →
      VSs (cxOf (L2.CX P w) P w K mg base N qual (defScope st) f cdv A outer s H E) (defBody st) g) : FnV P w K mg base (k + 1) f fd ps bs (bodyV N.length ps.length bs g) := by
  obtain ⟨oc, od, kV, doc, pm, an, cdv, ct, osl, rfl, lk, hcd⟩ := D.ex
  refine ⟨fun ms Q E h => h.1, fun A outer s H F args us vs ms Q E room gd e0 hb rv l ai hsp => ?_⟩
  obtain ⟨hlen, hbody⟩ := hsp
  have stays : ∀ b o, base.get? b = some o → s.heap.get? b = some o := fun b o e => (e0.bs b o e).1
  have hN : ps.length ≤ N.length := by have := congrArg List.length S.pre; rw [List.length_take] at this; omega
  have hvl : vs.length = ps.length := by rw [ai.len, hlen]
  refine codeAny_call_function room.depth ((e0.mod.kin.keeps stays) _ _ lk) rfl S.co S.gen rfl (PySem.W.codeRec_of (e0.mod.kin.keeps stays) hcd) (hb _ _ _ _ ?_)
  refine wpAny_newFunctionEnv_cells S.kind (fun y hy => (S.par y.1 (List.of_mem_zip hy).1).imp id fun q => ⟨q, PySem.W.cellsFrom_some _ _ _ (.inl q)⟩) fun fe efe s1 ic => ?_
  subst efe
  refine ⟨(e0.mod.nolimit.keeps stays).keeps ic.toInCall.keep, codeAny_func ?_⟩
  have I := inv_start (CX := L2.CX P w) (E := EV K mg F H bs vs E) S room.hd e0 hvl rv ic
  have tk : Takes (cxOf (L2.CX P w) P w K mg base N qual (defScope st) f cdv A outer s H (EV K mg F H bs vs E)) (liftW K mg (ghV F H bs vs) (endX bs E)) := by
    refine Takes.imp (takes_of (E := EV K mg F H bs vs E) rfl rfl rfl rfl) fun cls d σ H' h => ?_
    obtain ⟨ex, F', env, ok, eo, q⟩ := h
    obtain ⟨bms, eb, q⟩ := bindP_of q
    exact ⟨ex, F', bms, ok.back_of ai eb, eo, q⟩
  have hS := body cdv A outer s H (EV K mg F H bs vs E) (room.deeper _) gd (ghV F H bs vs) (endX bs E) gok_ghV tk
  have start : liftS K mg (ghV F H bs vs) (endX bs E) g { nx := fun _ H' => QV K mg F H bs vs Q .non H', rt := QV K mg F H bs vs Q } (L2.start N vs) H := by
    refine ⟨F, _, _, EnvOk.start ai l (by omega), hbody, fun σ' F' H' env' ok l' q => ?_, fun _ _ _ _ _ _ q => q, fun _ _ _ _ _ _ q => q, fun σ' F' H' env' m v ok l' fr q => ?_⟩
    · obtain ⟨bms, eb, q⟩ := bindP_of q
      exact ⟨F', .fz .none, bms, ok.back_of ai eb, .non, (fun z => by cases z), q⟩
    · obtain ⟨bms, eb, q⟩ := bindP_of q
      exact ⟨F', m, bms, ok.back_of ai eb, fr.rm, (fun z a e => (fr.new z a e).1), q⟩
  refine wpAny_mono (hS.run [] s1 _ H _ I start) (fun fl s' hs => ?_) fun _ _ hs => hs
  cases fl with
  | next => obtain ⟨_, H', J, q⟩ := hs; exact ⟨V.non, H', J.os, J.bare, J.base, J.hok, rfl, q⟩
  | ret u => obtain ⟨v, _, H', J, rv', q⟩ := hs; exact ⟨v, H', J.os, J.bare, J.base, J.hok, rv', q⟩
  | brk => obtain ⟨_, _, _, q⟩ := hs; exact q.elim
  | cont => obtain ⟨_, _, _, q⟩ := hs; exact q.elim
end
end VL

/-! VlL: calls by value. -/
namespace VL
open PySem PySem.Spec PyProof.Rows L2

def arM (env : Env) : Ar → Option M
  | .d d => some (.fz d)
  | .g x => some (.gl x)
  | .s i => match env.sl[i]? with
    | some (some m) => if isOwn m = true then some m else none
    | _ => none
def arMs (env : Env) : List Ar → Option (List M)
  | [] => some []
  | a :: as => match arM env a with
    | some m => match arMs env as with
      | some ms => some (m :: ms)
      | none => none
    | none => none
/-- the places of the own ones -/
def ownPos : Nat → List M → List Nat
  | _, [] => []
  | n, m :: ms => if isOwn m = true then n :: ownPos (n + 1) ms else ownPos (n + 1) ms
def slotsOf : List Ar → List Nat
  | [] => []
  | .s i :: as => i :: slotsOf as
  | _ :: as => slotsOf as
def putB : Slots → List Nat → List M → Slots
  | sl, i :: is, m :: ms => putB (sl.set i (some m)) is ms
  | sl, _, _ => sl
def putE (env : Env) (is : List Nat) (ms : List M) : Env := { env with sl := putB env.sl is ms }
def fCall (sp : SpV) (bs : List Nat) (fa : FA) : FE := fun env Q W => fa env (fun as e1 => bindP (arMs e1 as) fun ms => ownPos 0 ms = bs ∧ (slotsOf as).Nodup ∧
  sp ms (fun m bms => Q (.val m) (putE e1 (slotsOf as) bms)) fun ex bms => W ex (putE e1 (slotsOf as) bms)) W

section
variable {K : Fg} {mg : Mg} {G : Gh} {F F' H H' : Hp} {σ : L2.St} {env : Env} {as : List Ar} {vs : List V} {ms bms : List M} {bs : List Nat}
theorem putB_len : ∀ {sl : Slots} {is : List Nat} {ms : List M}, (putB sl is ms).length = sl.length
  | _, [], _ => rfl
  | _, _ :: _, [] => rfl
  | sl, i :: is, m :: ms => by
    show (putB (sl.set i (some m)) is ms).length = _
    rw [putB_len, List.length_set]
theorem putB_out : ∀ {sl : Slots} {is : List Nat} {ms : List M} {j : Nat}, j ∉ is → (putB sl is ms)[j]? = sl[j]?
  | _, [], _, _, _ => rfl
  | _, _ :: _, [], _, _ => rfl
  | sl, i :: is, m :: ms, j, h => by
    simp only [List.mem_cons, not_or] at h
    show (putB (sl.set i (some m)) is ms)[j]? = _
    rw [putB_out h.2, List.getElem?_set_ne (Ne.symm h.1)]
theorem putB_at : ∀ {sl : Slots} {is : List Nat} {ms : List M} {k j : Nat} {m : M}, is.Nodup → is[k]? = some j → ms[k]? = some m → j < sl.length → (putB sl is ms)[j]? = some (some m)
  | _, [], _, _, _, _, _, h, _, _ => by simp at h
  | _, _ :: _, [], _, _, _, _, _, h, _ => by simp at h
  | sl, i :: is, m' :: ms, 0, j, m, nd, h1, h2, hl => by
    simp at h1 h2
    subst h1 h2
    show (putB (sl.set i (some m')) is ms)[i]? = _
    rw [putB_out (List.nodup_cons.mp nd).1, List.getElem?_set_self hl]
  | sl, i :: is, m' :: ms, k + 1, j, m, nd, h1, h2, hl => by
    show (putB (sl.set i (some m')) is ms)[j]? = _
    exact putB_at (List.nodup_cons.mp nd).2 (by simpa using h1) (by simpa using h2) (by rw [List.length_set]; exact hl)
/-- place, slot and address of each borrowed argument -/
theorem pairs (ok : EnvOk K mg G F H σ env) : ∀ {as : List Ar} {vs : List V} {ms : List M} (n : Nat), ArAll K mg F σ as vs → arMs env as = some ms → (ownPos n ms).length = (slotsOf as).length ∧
    ∀ (k i j : Nat), (ownPos n ms)[k]? = some i → (slotsOf as)[k]? = some j → n ≤ i ∧ ∃ m a, ms[i - n]? = some m ∧ isOwn m = true ∧ vs[i - n]? = some (V.ref a) ∧ OwnAt σ env.sl j a ∧ env.sl[j]? = some (some m)
  | _, _, ms, n, .nil, e => by cases e; exact ⟨rfl, fun k i j h => by simp [ownPos] at h⟩
  | _, _, ms, n, .cons (a := a) (as := as) (v := v) (vs := vs) h r, e => by
    have e : (match arM env a with | some m => (match arMs env as with | some ms => some (m :: ms) | none => none) | none => none) = some ms := e
    cases q : arM env a with
    | none => rw [q] at e; cases e
    | some m =>
      rw [q] at e
      cases q2 : arMs env as with
      | none => rw [q2] at e; cases e
      | some ms' =>
        rw [q2] at e
        cases e
        obtain ⟨l1, l2⟩ := pairs ok (n + 1) r q2
        have shift : ∀ (k i j : Nat), (ownPos (n + 1) ms')[k]? = some i → (slotsOf as)[k]? = some j → n ≤ i ∧ ∃ m' a, (m :: ms')[i - n]? = some m' ∧ isOwn m' = true ∧ (v :: vs)[i - n]? = some (V.ref a) ∧ OwnAt σ env.sl j a ∧ env.sl[j]? = some (some m') := fun k i j h1 h2 => by
          obtain ⟨g1, m', a, g2, g3, g4, g5⟩ := l2 k i j h1 h2
          have e1 : i - n = (i - (n + 1)) + 1 := by omega
          exact ⟨by omega, m', a, by rw [e1]; exact g2, g3, by rw [e1]; exact g4, g5⟩
        cases a with
        | d d =>
          cases q
          exact ⟨l1, shift⟩
        | g x =>
          cases q
          exact ⟨l1, shift⟩
        | s j0 =>
          have q : (match env.sl[j0]? with | some (some m) => if isOwn m = true then some m else none | _ => none) = some m := q
          split at q
          · split at q
            · rename_i hs ho
              cases q
              obtain ⟨w, h1, r⟩ := ok.slot j0 _ hs
              have h : σ[j0]? = some (some v) := h
              rw [h] at h1
              cases h1
              obtain ⟨b, u, rfl, _⟩ := r.own ho
              have ep : ownPos n (m :: ms') = n :: ownPos (n + 1) ms' := if_pos ho
              rw [ep]
              refine ⟨by show _ + 1 = _ + 1; rw [l1], fun k i j h1 h2 => ?_⟩
              cases k with
              | zero =>
                have h1 : some n = some i := h1
                have h2 : some j0 = some j := h2
                cases h1
                cases h2
                exact ⟨Nat.le_refl _, m, b, by simp, ho, by simp, ⟨m, hs, ho, h⟩, hs⟩
              | succ k => exact shift k i j h1 h2
            · cases q
          · cases q
theorem arMs_at : ∀ {as : List Ar} {vs : List V} {ms : List M} (n : Nat), EnvOk K mg G F H σ env → ArAll K mg F σ as vs → arMs env as = some ms → vs.length = ms.length ∧ ∀ (i : Nat) (m : M), ms[i]? = some m → ∃ v, vs[i]? = some v ∧ RM K mg F H m v ∧ (isOwn m = true → i + n ∈ ownPos n ms)
  | _, _, ms, n, ok, .nil, e => by cases e; exact ⟨rfl, fun i m h => by simp at h⟩
  | _, _, ms, n, ok, .cons (a := a) (as := as) (v := v) (vs := vs) h r, e => by
    have e : (match arM env a with | some m => (match arMs env as with | some ms => some (m :: ms) | none => none) | none => none) = some ms := e
    cases q : arM env a with
    | none => rw [q] at e; cases e
    | some m =>
      rw [q] at e
      cases q2 : arMs env as with
      | none => rw [q2] at e; cases e
      | some ms' =>
        rw [q2] at e
        cases e
        obtain ⟨l1, l2⟩ := arMs_at (n + 1) ok r q2
        refine ⟨by rw [List.length_cons, List.length_cons, l1], fun i m' hm => ?_⟩
        cases i with
        | zero =>
          have hm : some m = some m' := hm
          cases hm
          refine ⟨v, rfl, ?_, fun o => ?_⟩
          · cases a with
            | d d => cases q; exact h
            | g x => cases q; exact h
            | s j0 =>
              have q : (match env.sl[j0]? with | some (some m) => if isOwn m = true then some m else none | _ => none) = some m := q
              split at q
              · split at q
                · rename_i hs ho
                  cases q
                  obtain ⟨w, h1, r⟩ := ok.slot j0 _ hs
                  have h : σ[j0]? = some (some v) := h
                  rw [h] at h1
                  cases h1
                  exact r
                · cases q
              · cases q
          · rw [show ownPos n (m :: ms') = n :: ownPos (n + 1) ms' from if_pos o, Nat.zero_add]
            exact List.mem_cons_self
        | succ i =>
          obtain ⟨w, g1, g2, g3⟩ := l2 i m' hm
          refine ⟨w, g1, g2, fun o => ?_⟩
          have hm : i + (n + 1) ∈ ownPos (n + 1) ms' := g3 o
          have e1 : i + 1 + n = i + (n + 1) := by omega
          rw [e1]
          unfold ownPos
          split
          · exact List.mem_cons_of_mem _ hm
          · exact hm
/-- what a callee is given -/
theorem argIn_of (ok : EnvOk K mg G F H σ env) (ha : ArAll K mg F σ as vs) (e : arMs env as = some ms) (hb : ownPos 0 ms = bs) (nd : (slotsOf as).Nodup) : ArgIn K mg F H bs vs ms := by
  obtain ⟨p1, p2⟩ := pairs ok 0 ha e
  obtain ⟨a1, a2⟩ := arMs_at 0 ok ha e
  rw [hb] at p1 p2 a2
  have idx : ∀ i ∈ bs, ∃ k j : Nat, bs[k]? = some i ∧ (slotsOf as)[k]? = some j := fun i hi => by
    obtain ⟨k, hk⟩ := List.mem_iff_getElem?.mp hi
    have hl : k < (slotsOf as).length := by rw [← p1]; exact (List.getElem?_eq_some_iff.mp hk).1
    exact ⟨k, _, hk, List.getElem?_eq_getElem hl⟩
  refine ⟨a1, fun i m hm => ?_, fun i hi => ?_, fun i j a hi hj h1 h2 => ?_⟩
  · obtain ⟨v, g1, g2, g3⟩ := a2 i m hm
    exact ⟨v, g1, g2, fun o => g3 o⟩
  · obtain ⟨k, j, h1, h2⟩ := idx i hi
    obtain ⟨_, m, a, g1, g2, g3, _⟩ := p2 k i j h1 h2
    exact ⟨m, a, g1, g2, g3⟩
  · obtain ⟨k1, j1, h3, h4⟩ := idx i hi
    obtain ⟨k2, j2, h5, h6⟩ := idx j hj
    obtain ⟨_, m1, b1, g1, g2, g3, g4, _⟩ := p2 k1 i j1 h3 h4
    obtain ⟨_, m2, b2, g5, g6, g7, g8, _⟩ := p2 k2 j j2 h5 h6
    have e1 : b1 = a := by
      have := g3.symm.trans h1
      cases this; rfl
    have e2 : b2 = a := by
      have := g7.symm.trans h2
      cases this; rfl
    rw [e1] at g4
    rw [e2] at g8
    have ej := ok.apart j1 j2 a g4 g8
    rw [← ej] at h6
    have ek : k1 = k2 := by
      have l1 := (List.getElem?_eq_some_iff.mp h4).1
      exact (List.getElem?_inj l1 nd).mp (h4.trans h6.symm)
    rw [← ek, h3] at h5
    cases h5
    rfl
/-- behind a call: the borrowed slots as the callee left them -/
theorem EnvOk.called (ok : EnvOk K mg G F H σ env) (ha : ArAll K mg F σ as vs) (e : arMs env as = some ms) (hb : ownPos 0 ms = bs) (nd : (slotsOf as).Nodup) (bk : Bk K mg F H bs vs F' H' bms) : EnvOk K mg G F' H' σ (putE env (slotsOf as) bms) ∧
    ∀ j a, OwnAt σ (putE env (slotsOf as) bms).sl j a → OwnAt σ env.sl j a := by
  obtain ⟨p1, p2⟩ := pairs ok 0 ha e
  rw [hb] at p1 p2
  have idx : ∀ j ∈ slotsOf as, ∃ (k i : Nat) (m m' : M) (a : Addr), bs[k]? = some i ∧ (slotsOf as)[k]? = some j ∧ vs[i]? = some (V.ref a) ∧ OwnAt σ env.sl j a ∧ bms[k]? = some m' ∧ isOwn m' = true ∧ RM K mg F' H' m' (.ref a) := fun j hj => by
    obtain ⟨k, hk⟩ := List.mem_iff_getElem?.mp hj
    have hl : k < bs.length := by rw [p1]; exact (List.getElem?_eq_some_iff.mp hk).1
    have hk2 := List.getElem?_eq_getElem hl
    obtain ⟨_, m, a, g1, g2, g3, g4, _⟩ := p2 k _ j hk2 hk
    obtain ⟨m', b1, b2, b3⟩ := bk.bor k _ a hk2 g3
    exact ⟨k, _, m, m', a, hk2, hk, g3, g4, b1, b2, b3⟩
  have len0 : ∀ j ∈ slotsOf as, j < env.sl.length := fun j hj => by
    obtain ⟨_, _, _, _, a, _, _, _, ⟨m, g, _⟩, _⟩ := idx j hj
    exact (List.getElem?_eq_some_iff.mp g).1
  have isBA : ∀ a, (∃ i ∈ bs, vs[i]? = some (V.ref a)) → ∃ j ∈ slotsOf as, OwnAt σ env.sl j a := fun a ⟨i, hi, h⟩ => by
    obtain ⟨k, hk⟩ := List.mem_iff_getElem?.mp hi
    have hl : k < (slotsOf as).length := by rw [← p1]; exact (List.getElem?_eq_some_iff.mp hk).1
    have hk2 := List.getElem?_eq_getElem hl
    obtain ⟨_, m, b, g1, g2, g3, g4, _⟩ := p2 k i _ hk hk2
    have := g3.symm.trans h
    cases this
    exact ⟨_, List.mem_of_getElem? hk2, g4⟩
  have back : ∀ j a, OwnAt σ (putB env.sl (slotsOf as) bms) j a → OwnAt σ env.sl j a := fun j a ⟨m, g1, g2, g3⟩ => by
    by_cases hj : j ∈ slotsOf as
    · obtain ⟨k, i, m0, m', b, _, _, _, ⟨m1, q1, q2, q3⟩, _⟩ := idx j hj
      exact ⟨m1, q1, q2, g3⟩
    · rw [putB_out hj] at g1
      exact ⟨m, g1, g2, g3⟩
  refine ⟨⟨bk.sub, fun j m g => ?_, fun i j a z1 z2 => ok.apart i j a (back i a z1) (back j a z2), ok.frz.trans bk.le, fun a o g n => ?_, fun a g => ok.dom a (bk.dom a g), fun a o g => ?_, fun j a z => ok.newO j a (back j a z), ok.bor, ok.borA, fun p hp j z => ok.sep p hp j (back j _ z), ok.borH, ?_⟩, back⟩
  · have g : (putB env.sl (slotsOf as) bms)[j]? = some (some m) := g
    by_cases hj : j ∈ slotsOf as
    · obtain ⟨k, i, m0, m', a, h1, h2, h3, h4, h5, h6, h7⟩ := idx j hj
      rw [putB_at nd h2 h5 (len0 j hj)] at g
      cases g
      obtain ⟨m1, q1, q2, q3⟩ := h4
      exact ⟨_, q3, h7⟩
    · rw [putB_out hj] at g
      obtain ⟨v, g1, r⟩ := ok.slot j m g
      refine ⟨v, g1, r.le bk.le fun o a ea => ?_⟩
      have z : OwnAt σ env.sl j a := ⟨m, g, o, by rw [g1, ea]⟩
      obtain ⟨n1, u, hu, _⟩ := z.some ok
      refine ⟨?_, ?_⟩
      · rw [bk.frame a u hu fun hba => ?_, hu]
        obtain ⟨j', hj', z'⟩ := isBA a hba
        exact hj (ok.apart j j' a z z' ▸ hj')
      · cases q : F' a with
        | none => rfl
        | some o =>
          rcases bk.newF a o q with y | y
          · rw [n1] at y; cases y
          · rw [hu] at y; cases y
  · refine bk.frame a o (ok.frame a o g n) fun hba => ?_
    obtain ⟨j', hj', z'⟩ := isBA a hba
    rcases ok.newO j' a z' with y | y
    · exact n y
    · rw [g] at y; cases y
  · rcases bk.newF a o g with y | y
    · exact ok.newF a o y
    · exact .inr (.inl (ok.dom a y))
  · show (putB env.sl (slotsOf as) bms).length = _
    rw [putB_len]; exact ok.len
end

section
variable {X : Cx} {k : Nat} {f : Addr} {fd : FuncData} {ps : List Str} {bs : List Nat} {sp : SpV} {x : Str} {p pos : Pos} {e : Expr} {es : List Expr} {fa : FA}
/-- the callee runs -/
theorem run_fnv {G : Gh} {W : KX} {pins : List (Addr × Obj)} {σ : L2.St} {H F : Hp} {s : Shared} {Qh : VK} {us : List Value} {vs : List V} {env : Env} {as : List Ar} {Q : R → Env → Prop} (C : FnV X.prog X.w X.K X.mg X.base k f fd ps bs sp) (hr : Room k X.A) (gd : X.A.guards = some []) (tk : Takes X (liftW X.K X.mg G W))
    (I : Inv X pins σ H s) (ok : EnvOk X.K X.mg G F H σ env) (aa : ArAll X.K X.mg F σ as vs) (rv : Vals vs us) (hb : us.length = ps.length → BindsTo s fd ⟨us, []⟩ (ps.zip us))
    (hq : bindP (arMs env as) fun ms => ownPos 0 ms = bs ∧ (slotsOf as).Nodup ∧ sp ms (fun m bms => Q (.val m) (putE env (slotsOf as) bms)) fun ex bms => W ex (putE env (slotsOf as) bms))
    (q : ∀ r env' v F' H', EnvOk X.K X.mg G F' H' σ env' → Le F F' → RR X.K X.mg G F' H' σ env' r v → Q r env' → Qh v H') : wpAny (model X.prog X.w) X.A (call (.ref f) us) (EP X pins σ Qh) X.xe s := by
  obtain ⟨ms, em, eb, nd, hsp⟩ := bindP_of hq
  have ai := argIn_of ok aa em eb nd
  have hl : us.length = ps.length := by rw [← rv.length, ai.len]; exact C.len _ _ _ hsp
  refine wpAny_call (codeAny_mono (C.run X.A X.stack s H F ⟨us, []⟩ us vs ms _ _ hr gd I.env0 (hb hl) rv ok.sub ai hsp) fun r s' h => ?_)
  cases r with
  | error u =>
    refine tk u s' (XE.of_call I (fun cls d H' h => ?_) h)
    obtain ⟨ex, F', bms, bk, eo, hw⟩ := h
    obtain ⟨ok', _⟩ := ok.called aa em eb nd bk
    exact ⟨ex, F', _, ok', eo, hw⟩
  | ok fl =>
    cases fl with
    | next => exact False.elim h
    | brk => exact False.elim h
    | cont => exact False.elim h
    | ret u =>
      obtain ⟨v, H', I', rv', F', m, bms, bk, rm, nw, hQ⟩ := I.after h
      obtain ⟨ok', own'⟩ := ok.called aa em eb nd bk
      refine ⟨v, H', I', rv', q (.val m) _ v F' H' ok' bk.le ⟨rm, fun o a ea => ⟨ok.dom a (nw o a ea), fun i z => ?_⟩⟩ hQ⟩
      obtain ⟨_, w, hu, _⟩ := (own' i a z).some ok
      rw [nw o a ea] at hu; cases hu
/-- f(e, ..): f a def of the module -/
theorem ve_call (C : FnV X.prog X.w X.K X.mg X.base k f fd ps bs sp) (hr : Room k X.A) (gd : X.A.guards = some []) (hg : Gl X x) (hm : X.mg x = some (.ref f)) (hk : PySem.W.keepIn X.K (.ref f) = true) (hb : Binds X.K fd ps []) (ha : VA X (e :: es) fa)
    (hdb : (x == ("__debug__" : Str)) = false := by decide) (he : starEach (e :: es) X.env = (false, eval e X.env) :: starEach es X.env := by rfl) (hpl : (backTo pos (starEach es X.env)).any (·.1) = false := by rfl) :
    VE X (.Call (.Name x p) (e :: es) [] pos) (fCall sp bs fa) := fun G W tk => by
  refine ⟨fun pins s σ H Qh I h => wpAny_Call_Name_kw (ld_glob I hg hm ?_ hdb)⟩
  obtain ⟨F, env, Q, ok, hf, q⟩ := h
  have ht : liftA X.K X.mg G W fa σ H fun vs H1 => ∃ F1 env1 as, EnvOk X.K X.mg G F1 H1 σ env1 ∧ Le F F1 ∧ ArAll X.K X.mg F1 σ as vs ∧ (bindP (arMs env1 as) fun ms => ownPos 0 ms = bs ∧ (slotsOf as).Nodup ∧ sp ms (fun m bms => Q (.val m) (putE env1 (slotsOf as) bms)) fun ex bms => W ex (putE env1 (slotsOf as) bms)) :=
    ⟨F, env, _, ok, hf, fun as env1 vs F1 H1 ok1 l1 aa hq => ⟨F1, env1, as, ok1, l1, aa, hq⟩⟩
  refine PySem.W.callWith_K (h₀ := X.base) I.ok.mod.kin hk (thn ((ha G W tk).run pos pins s σ H _ I ht) fun us s1 ⟨vs, H1, I1, rv, F1, env1, as, ok1, l1, aa, hq⟩ => ⟨I1.kIn, ?_⟩) he hpl
  refine run_fnv C hr gd tk I1 ok1 aa rv (fun hl => ?_) hq fun r env' v F' H' ok' l' => q r env' v F' H' ok' (l1.trans l')
  have := hb s1 us I1.kIn (by rw [List.append_nil]; exact hl)
  rw [List.append_nil] at this
  exact this
theorem ve_call0 (C : FnV X.prog X.w X.K X.mg X.base k f fd ps bs sp) (hr : Room k X.A) (gd : X.A.guards = some []) (hg : Gl X x) (hm : X.mg x = some (.ref f)) (hk : PySem.W.keepIn X.K (.ref f) = true) (hb : Binds X.K fd ps [])
    (hdb : (x == ("__debug__" : Str)) = false := by decide) : VE X (.Call (.Name x p) [] [] pos) (fCall sp bs aNil) := fun G W tk => by
  refine ⟨fun pins s σ H Qh I h => wpAny_Call_Name_kw (ld_glob I hg hm ?_ hdb)⟩
  obtain ⟨F, env, Q, ok, hf, q⟩ := h
  refine PySem.W.callWith_K0 I.kIn hk (run_fnv (us := []) (as := []) C hr gd tk I ok .nil .nil (fun hl => ?_) hf q)
  exact hb s [] I.kIn hl
end
end VL

/-! VlM: own lists changed: append, pop, items stored; names op= ints; two names at once; starred items. -/
namespace VL
open PySem PySem.Spec PyProof.Rows L2

def lstAt (env : Env) (i : Nat) : Option (List D) :=
  match env.sl[i]? with
  | some (some (.lst ds)) => some ds
  | _ => none
def putL (env : Env) (i : Nat) (ds : List D) : Env := { env with sl := env.sl.set i (some (.lst ds)) }
theorem lstAt_is {env : Env} {i : Nat} {ds : List D} (h : lstAt env i = some ds) : env.sl[i]? = some (some (.lst ds)) := by
  unfold lstAt at h
  split at h
  · cases h; assumption
  · cases h
section
variable {K : Fg} {mg : Mg} {G : Gh} {F H : Hp} {σ : L2.St} {env : Env} {i : Nat} {a : Addr} {ds es : List D} {vs ws : List V}
/-- the own list in slot i -/
theorem EnvOk.lstOf (ok : EnvOk K mg G F H σ env) (h : lstAt env i = some ds) : ∃ a vs, OwnAt σ env.sl i a ∧ σ[i]? = some (some (.ref a)) ∧ H a = some (.lst vs) ∧ F a = none ∧ DtAll K F vs ds := by
  have e := lstAt_is h
  obtain ⟨v, e1, a, vs, rfl, h1, h2, h3⟩ := ok.slot i _ e
  exact ⟨a, vs, ⟨_, e, rfl, e1⟩, e1, h1, h2, h3⟩
theorem EnvOk.putL (ok : EnvOk K mg G F H σ env) (o : OwnAt σ env.sl i a) (r : DtAll K F ws es) : EnvOk K mg G F (upd H a (.lst ws)) σ (putL env i es) :=
  ok.mut o rfl ⟨a, ws, rfl, upd_same, (o.some ok).1, r⟩
end

/-! ### x.append(e), x.pop(), x.pop(e) -/
def fApp (i : Nat) (fe : FE) : FE := fun env Q W => bindP (lstAt env i) fun _ => fe env (fun r e1 => bindP (lkR e1 r) fun x => bindP (dOf x.1) fun d => bindP (lstAt x.2 i) fun ds => ds.length < 16777216 ∧ Q (.val (.fz .none)) (putL x.2 i (ds ++ [d]))) W
def fPop (i : Nat) : FE := fun env Q _ => bindP (lstAt env i) fun ds => bindP ds.getLast? fun d => Q (.val (.fz d)) (putL env i ds.dropLast)
def fPopAt (i : Nat) (fe : FE) : FE := fun env Q W => bindP (lstAt env i) fun _ => fI fe env (fun k e1 => bindP (lstAt e1 i) fun ds => bindP (ixN ds.length k) fun j => bindP ds[j]? fun d => ds.length ≤ 16777216 ∧ Q (.val (.fz d)) (putL e1 i (ds.eraseIdx j))) W
section
variable {X : Cx} {x : Str} {i : Nat} {e : Expr} {fe : FE} {p apos cpos : Pos}
theorem lst_ty {H : Hp} {K : Fg} {a : Addr} {vs : List V} (h : H a = some (.lst vs)) : tyV K "list" (.ref a) H := .inl ⟨rfl, vs, .inl (.inl h)⟩
theorem ve_append (hN : X.N[i]? = some x) (hv : Vis X.env.scope x) (he : VE X e fe) (hs : starEach [e] X.env = (false, eval e X.env) :: starEach [] X.env := by rfl)
    (hd : (x == ("__debug__" : Str)) = false := by decide) (hcd : (x == ("__classdict__" : Str)) = false := by decide) (hbase : attributeBase (.Name x p) "append" X.env (eval (.Name x p) X.env) = eval (.Name x p) X.env := by rfl)
    (hfew : ((backTo cpos (starEach [e] X.env)).all (fun x => !x.1) && (backToKw cpos (keywordEach [] X.env)).all (fun x => x.1.isSome) && decide ([e].length + ([] : List Keyword).length + (if ([] : List Keyword).isEmpty then 0 else 1) < 30)) = true := by rfl)
    (hline : (apos.endLine == cpos.line) = true := by rfl) (hpl : (backTo cpos (starEach [] X.env)).any (·.1) = false := by rfl) : VE X (.Call (.Attribute (.Name x p) "append" apos) [e] [] cpos) (fApp i fe) := fun G W t =>
  PE.imp (pe_bm PySem.F.plainAttrs_list PySem.F.slot_list_append PySem.F.type_list_append mt_append (pe_var hN hv hd hcd) (pa_cons (he G W t) pa_nil hs) hbase hfew hline hs hpl) fun σ H Qh hw => by
    obtain ⟨F, env, Q, ok, hf, q⟩ := hw
    obtain ⟨d0, e0, hf⟩ := bindP_of hf
    obtain ⟨a, vs, oa, sa, ha, fa, ra⟩ := ok.lstOf e0
    refine ⟨.ref a, sa, lst_ty ha, F, env, _, ok, hf, fun r e1 v F1 H1 ok1 l1 rr hq => ?_⟩
    obtain ⟨⟨y, e2⟩, ey, hq⟩ := bindP_of hq
    obtain ⟨d, ed, hq⟩ := bindP_of hq
    obtain ⟨ds, el, hz, hq⟩ := bindP_of hq
    obtain ⟨F2, ok2, l2, ax⟩ := rr.leak ok1 ey
    cases y with
    | g x => cases ed
    | s x => cases ed
    | d d' =>
      cases ed
      obtain ⟨b, ws, ob, sb, hb, fb, rb⟩ := ok2.lstOf el
      rw [sa] at sb
      cases sb
      refine ⟨a, ws, v, rfl, rfl, hb, ?_, q (.val _) _ _ F2 _ (ok2.putL ob (rb.append (.cons ax .nil))) (l1.trans l2) (Free.fz .non) hq⟩
      rw [rb.length]
      have := line_of (n := ds.length + 1) hz
      omega
theorem ve_pop (hN : X.N[i]? = some x) (hv : Vis X.env.scope x) (hd : (x == ("__debug__" : Str)) = false := by decide) (hcd : (x == ("__classdict__" : Str)) = false := by decide)
    (hbase : attributeBase (.Name x p) "pop" X.env (eval (.Name x p) X.env) = eval (.Name x p) X.env := by rfl) (hline : (apos.endLine == cpos.line) = true := by rfl) : VE X (.Call (.Attribute (.Name x p) "pop" apos) [] [] cpos) (fPop i) := fun G W t =>
  PE.imp (pe_bm0 PySem.F.plainAttrs_list PySem.F.slot_list_pop PySem.F.type_list_pop (show MtR X "list.pop" rPop from mt_pop) (pe_var hN hv hd hcd) hbase hline) fun σ H Qh hw => by
    obtain ⟨F, env, Q, ok, hf, q⟩ := hw
    obtain ⟨ds, e0, hf⟩ := bindP_of hf
    obtain ⟨d, e1, hf⟩ := bindP_of hf
    obtain ⟨a, vs, oa, sa, ha, fa, ra⟩ := ok.lstOf e0
    rw [List.getLast?_eq_getElem?] at e1
    obtain ⟨y, ey, ry⟩ := ra.getD e1
    rw [← ra.length] at ey
    refine ⟨.ref a, sa, lst_ty ha, a, vs, y, rfl, rfl, ha, ey, q (.val _) _ _ F _ (ok.putL oa ?_) (Le.refl _) (Free.fz ry) hf⟩
    rw [List.dropLast_eq_take, List.dropLast_eq_take, ra.length]
    exact ra.take _
theorem ve_popAt (hN : X.N[i]? = some x) (hv : Vis X.env.scope x) (he : VE X e fe) (hs : starEach [e] X.env = (false, eval e X.env) :: starEach [] X.env := by rfl)
    (hd : (x == ("__debug__" : Str)) = false := by decide) (hcd : (x == ("__classdict__" : Str)) = false := by decide) (hbase : attributeBase (.Name x p) "pop" X.env (eval (.Name x p) X.env) = eval (.Name x p) X.env := by rfl)
    (hfew : ((backTo cpos (starEach [e] X.env)).all (fun x => !x.1) && (backToKw cpos (keywordEach [] X.env)).all (fun x => x.1.isSome) && decide ([e].length + ([] : List Keyword).length + (if ([] : List Keyword).isEmpty then 0 else 1) < 30)) = true := by rfl)
    (hline : (apos.endLine == cpos.line) = true := by rfl) (hpl : (backTo cpos (starEach [] X.env)).any (·.1) = false := by rfl) : VE X (.Call (.Attribute (.Name x p) "pop" apos) [e] [] cpos) (fPopAt i fe) := fun G W t =>
  PE.imp (pe_bm PySem.F.plainAttrs_list PySem.F.slot_list_pop PySem.F.type_list_pop (show MtR X "list.pop" rPopAt from mt_popAt) (pe_var hN hv hd hcd) (pa_cons (he G W t) pa_nil hs) hbase hfew hline hs hpl) fun σ H Qh hw => by
    obtain ⟨F, env, Q, ok, hf, q⟩ := hw
    obtain ⟨d0, e0, hf⟩ := bindP_of hf
    obtain ⟨a, vs, oa, sa, ha, fa, ra⟩ := ok.lstOf e0
    refine ⟨.ref a, sa, lst_ty ha, lift_i ok hf fun k e1 F1 H1 ok1 l1 hq => ?_⟩
    obtain ⟨ds, el, hq⟩ := bindP_of hq
    obtain ⟨j, ej, hq⟩ := bindP_of hq
    obtain ⟨d, ed, hz, hq⟩ := bindP_of hq
    obtain ⟨b, ws, ob, sb, hb, fb, rb⟩ := ok1.lstOf el
    rw [sa] at sb
    cases sb
    obtain ⟨y, ey, ry⟩ := rb.getD ed
    obtain ⟨h1, h2, h3, h4⟩ := ixN_seq ej
    exact ⟨a, ws, k, j, y, rfl, rfl, hb, by omega, by omega, by rw [rb.length]; exact h1, ey, q (.val _) _ _ F1 _ (ok1.putL ob (rb.erase j)) l1 (Free.fz ry) hq⟩
end

/-! ### x[k] = e, x[k] op= e, x op= e (ints) -/
def sSetIx (i : Nat) (fk fe : FE) : FS := fun env E W => fe env (fun r e1 => bindP (lkR e1 r) fun x => bindP (dOf x.1) fun d => bindP (lstAt x.2 i) fun _ =>
  fI fk x.2 (fun k e2 => bindP (lstAt e2 i) fun ds => bindP (ixN ds.length k) fun j => E.nx (putL e2 i (ds.set j d))) W) W
def intOf : D → Option Int
  | .int i => some i
  | _ => none
def sAugIx (i : Nat) (c : Int → Int → Prop) (f : Int → Int → Int) (fk fe : FE) : FS := fun env E W => bindP (lstAt env i) fun _ => fI fk env (fun k e1 => bindP (lstAt e1 i) fun ds => bindP (ixN ds.length k) fun j => bindP (ds[j]?.bind intOf) fun a =>
  fI fe e1 (fun b e2 => c a b ∧ bindP (lstAt e2 i) fun es => ixN es.length k = some j ∧ E.nx (putL e2 i (es.set j (.int (f a b))))) W) W
def intAt (env : Env) (i : Nat) : Option Int := (env.sl[i]?.join).bind fun m => match m with
  | .fz (.int k) => some k
  | _ => none
def sAug (i : Nat) (c : Int → Int → Prop) (f : Int → Int → Int) (fe : FE) : FS := fun env E W => bindP (intAt env i) fun a => fI fe env (fun b e1 => c a b ∧ bindP (stR i (.val (.fz (.int (f a b)))) e1) E.nx) W
def rAugI (c : Int → Int → Prop) (f : Int → Int → Int) : TIp := fun x y H Q => ∃ i j, x = .int i ∧ y = .int j ∧ c i j ∧ Q (.int (f i j)) H
def cAny : Int → Int → Prop := fun _ _ => True
section
variable {X : Cx}
theorem au_add : PIp X .Add (rAugI cAny fun i j => i + j) := fun pins s σ H x y v u Q I rx ry ⟨i, j, e1, e2, _, q⟩ => iop_add pins s σ H x y v u Q I rx ry ⟨i, j, e1, e2, q⟩
theorem au_sub : PIp X .Sub (rAugI cAny fun i j => i - j) := fun pins s σ H x y v u Q I rx ry ⟨i, j, e1, e2, _, q⟩ => iop_sub pins s σ H x y v u Q I rx ry ⟨i, j, e1, e2, q⟩
theorem au_mul : PIp X .Mult (rAugI CMul fun i j => i * j) := iop_mul
/-- o[k] of a list -/
theorem get_own : PGet X (fun o i H Q => ∃ p xs k v, o = .ref p ∧ i = .int k ∧ SqL X.K H p xs ∧ atI xs k = some v ∧ Q v H) := by
  intro pins s σ H o i ov iv Q I ro ri h
  obtain ⟨p, xs, k, z, rfl, rfl, hq, he, q⟩ := h
  cases ro
  obtain ⟨t, rfl⟩ := ri
  obtain ⟨us, rv, pl, hz⟩ := I.list hq
  obtain ⟨j, a1, a2, a3, a4, a5⟩ := atI_get he
  obtain ⟨u, eu, ru⟩ := rv.get a2
  have len := rv.length
  have big := line63
  by_cases neg : k < 0
  · refine wpAny_getItem_list_neg pl.isList neg (by rw [List.size_toArray]; omega) (by omega) (x := u) ?_ ⟨z, H, I, ru, q⟩
    rw [seqIndex_neg neg a4] at a1
    rw [List.size_toArray, ← len, Option.some.inj a1]
    simpa using eu
  · refine wpAny_getItem_list pl.isList (by omega) (by omega) (x := u) ?_ ⟨z, H, I, ru, q⟩
    rw [seqIndex_of (by omega) a5] at a1
    rw [Option.some.inj a1]
    simpa using eu
theorem dt_int {K : Fg} {F : Hp} {v : V} {i : Int} (h : Dt K F v (.int i)) : v = .int i := by cases h; rfl
theorem intAt_is {env : Env} {i : Nat} {k : Int} (h : intAt env i = some k) : env.sl[i]? = some (some (.fz (.int k))) := by
  unfold intAt at h
  cases e : env.sl[i]? with
  | none => rw [e] at h; cases h
  | some o =>
    cases o with
    | none => rw [e] at h; cases h
    | some m =>
      rw [e] at h
      cases m with
      | fz d =>
        cases d with
        | int j => cases h; rfl
        | _ => cases h
      | _ => cases h
variable {x : Str} {i : Nat} {e k : Expr} {fe fk : FE} {p p2 pos tpos : Pos} {op : Operator} {c : Int → Int → Prop} {f : Int → Int → Int}
theorem vs_setIx (hN : X.N[i]? = some x) (hv : Vis X.env.scope x) (he : VE X e fe) (hk : VE X k fk) (hd : (x == ("__debug__" : Str)) = false := by decide) (hcd : (x == ("__classdict__" : Str)) = false := by decide)
    (ha : ∀ v, assign (.Subscript (.Name x p) k tpos) X.env v = (do
      let ov ← holding [v] (eval (.Name x p) X.env)
      let iv ← holding [v, ov] (eval k X.env)
      standAt tpos
      holding [v, ov, iv] (setItem ov iv v)
      release [v, ov, iv] []) := by intro _; rfl) (hs : swapsWithSole [.Subscript (.Name x p) k tpos] e pos.line X.env = pure false := by rfl) (hw : swappedStores [.Subscript (.Name x p) k tpos] e X.env = pure none := by rfl)
    (h1 : (assignEach [.Subscript (.Name x p) k tpos] X.env).map (·.2) = [assign (.Subscript (.Name x p) k tpos) X.env] := by rfl) : VS X (.Assign [.Subscript (.Name x p) k tpos] e pos) (sSetIx i fk fe) := fun G W _ t =>
  PS.imp (ps_asg (he G W t) (pg_sub (pe_var hN hv hd hcd) (hk G W t) set_list ha) hs hw h1) fun Dn σ H hq => by
    obtain ⟨F, env, E, ok, hf, k1, _⟩ := hq
    refine ⟨F, env, _, ok, hf, fun r e1 v F1 H1 ok1 l1 rr hq => ?_⟩
    obtain ⟨⟨y, e2⟩, ey, hq⟩ := bindP_of hq
    obtain ⟨d, ed, hq⟩ := bindP_of hq
    obtain ⟨d0, el, hq⟩ := bindP_of hq
    obtain ⟨F2, ok2, l2, ax⟩ := rr.leak ok1 ey
    obtain ⟨a, vs, oa, sa, hA, fa, ra⟩ := ok2.lstOf el
    refine ⟨.ref a, sa, lift_i ok2 hq fun n e3 F3 H3 ok3 l3 q3 => ?_⟩
    obtain ⟨ds, el3, q3⟩ := bindP_of q3
    obtain ⟨j, ej, q3⟩ := bindP_of q3
    obtain ⟨b, ws, ob, sb, hb, fb, rb⟩ := ok3.lstOf el3
    rw [sa] at sb
    cases sb
    cases y with
    | g x => cases ed
    | s x => cases ed
    | d d' =>
      cases ed
      exact ⟨a, ws, n, j, rfl, rfl, hb, by rw [rb.length]; exact ej, k1 _ F3 _ _ (ok3.putL ob (rb.set (Dt.le l3 ax) j)) (l1.trans (l2.trans l3)) q3⟩
theorem vs_augIx (hN : X.N[i]? = some x) (hv : Vis X.env.scope x) (hk : VE X k fk) (he : VE X e fe) (ho : PIp X op (rAugI c f)) (hd : (x == ("__debug__" : Str)) = false := by decide) (hcd : (x == ("__classdict__" : Str)) = false := by decide)
    (ha : ∀ ov iv new, augStore k ov iv new = (do holding [new, ov, iv] (setItem ov iv new); release [new, ov, iv] []; pure .next) := by intros; rfl) : VS X (.AugAssign (.Subscript (.Name x p) k tpos) op e pos) (sAugIx i c f fk fe) := fun G W _ t =>
  PS.imp (ps_augS (pe_var hN hv hd hcd) (hk G W t) get_own (he G W t) ho set_list ha) fun Dn σ H hq => by
    obtain ⟨F, env, E, ok, hf, k1, _⟩ := hq
    obtain ⟨d0, e0, hf⟩ := bindP_of hf
    obtain ⟨a, vs, oa, sa, hA, fa, ra⟩ := ok.lstOf e0
    refine ⟨.ref a, sa, lift_i ok hf fun n e1 F1 H1 ok1 l1 hq => ?_⟩
    obtain ⟨ds, el, hq⟩ := bindP_of hq
    obtain ⟨j, ej, hq⟩ := bindP_of hq
    obtain ⟨m, em, hq⟩ := bindP_of hq
    obtain ⟨b, ws, ob, sb, hb, fb, rb⟩ := ok1.lstOf el
    rw [sa] at sb
    cases sb
    obtain ⟨d, ed, em⟩ := Option.bind_eq_some_iff.mp em
    obtain ⟨y, ey, ry⟩ := rb.getD ed
    have ed2 : d = .int m := by
      cases d with
      | int z => cases em; rfl
      | _ => cases em
    subst ed2
    cases dt_int ry
    refine ⟨a, ws, n, .int m, rfl, rfl, .inl (.inl hb), ?_, lift_i ok1 hq fun z e2 F2 H2 ok2 l2 ⟨hc, hq⟩ => ⟨m, z, rfl, rfl, hc, ?_⟩⟩
    · unfold atI
      rw [rb.length, ej]
      exact ey
    · obtain ⟨es, el2, ej2, hq⟩ := bindP_of hq
      obtain ⟨b, us, ob2, sb2, hb2, fb2, rb2⟩ := ok2.lstOf el2
      rw [sa] at sb2
      cases sb2
      exact ⟨a, us, n, j, rfl, rfl, hb2, by rw [rb2.length]; exact ej2, k1 _ F2 _ _ (ok2.putL ob2 (rb2.set (.int _) j)) (l1.trans l2) hq⟩
theorem vs_aug (hN : X.N.Nodup) (hi : X.N[i]? = some x) (hx : Loc X.env.scope x) (he : VE X e fe) (ho : PIp X op (rAugI c f)) (hf : X.fn x = true ∨ X.env.scope.names.lookup x = some .local) : VS X (.AugAssign (.Name x p) op e pos) (sAug i c f fe) := fun G W _ t =>
  PS.imp (ps_aug hN hi hx (he G W t) ho hf) fun Dn σ H hq => by
    obtain ⟨F, env, E, ok, hg, k1, _⟩ := hq
    obtain ⟨m, em, hg⟩ := bindP_of hg
    obtain ⟨v, e1, rm⟩ := ok.slot i _ (intAt_is em)
    cases dt_int rm
    refine ⟨.int m, e1, lift_i ok hg fun z e2 F2 H2 ok2 l2 ⟨hc, hq⟩ => ⟨m, z, rfl, rfl, hc, ?_⟩⟩
    obtain ⟨e3, ee, hq⟩ := bindP_of hq
    obtain ⟨F3, ok3, l3⟩ := RR.store (r := .val (.fz (.int (f m z)))) (v := .int (f m z)) ok2 (Free.fz (.int _)) ee
    exact k1 _ F3 _ e3 ok3 (l2.trans l3) hq
end

/-! ### a, b = e, f -/
/-- the value by itself: what stands in a slot is frozen -/
def ownR (env : Env) : R → Option (M × Env)
  | .val m => some (m, env)
  | .slot j => match lkR env (.slot j) with
    | some (.d d, e2) => some (.fz d, e2)
    | _ => none
def sPar (i j : Nat) (fa fb : FE) : FS := fun env E W => fa env (fun r1 e1 => bindP (ownR e1 r1) fun x => fb x.2 (fun r2 e2 => bindP (ownR e2 r2) fun y =>
  (i < y.2.sl.length ∧ i ∉ y.2.bor ∧ j < y.2.sl.length ∧ j ∉ y.2.bor) ∧ E.nx { y.2 with sl := (y.2.sl.set i (some x.1)).set j (some y.1) }) W) W
section
variable {K : Fg} {mg : Mg} {G : Gh} {F F' H H' : Hp} {σ σ' : L2.St} {env env' : Env} {m : M} {v : V}
theorem RR.own (ok : EnvOk K mg G F H σ env) {r : R} (h : RR K mg G F H σ env r v) {x : M × Env} (e : ownR env r = some x) : ∃ F1, EnvOk K mg G F1 H σ x.2 ∧ Le F F1 ∧ Free K mg G F1 H σ x.2 x.1 v := by
  cases r with
  | val m => cases e; exact ⟨F, ok, Le.refl _, h⟩
  | slot j =>
    unfold ownR at e
    dsimp only at e
    cases q : lkR env (.slot j) with
    | none => rw [q] at e; cases e
    | some y =>
      obtain ⟨y, e1⟩ := y
      rw [q] at e
      cases y with
      | g x => cases e
      | s x => cases e
      | d d =>
        cases e
        obtain ⟨F1, ok1, l1, ax⟩ := RR.leak ok h q
        exact ⟨F1, ok1, l1, Free.fz ax⟩
/-- from the ghost of a moment to the entry's -/
theorem EnvOk.up (ok : EnvOk K mg G F H σ env) (ok' : EnvOk K mg (G.now F H σ env.sl) F' H' σ' env') : EnvOk K mg G F' H' σ' env' := by
  refine ⟨ok'.sub, ok'.slot, ok'.apart, ok.frz.trans ok'.frz, fun b o e n => ?_, fun b e => ok.dom b (ok'.dom b e), fun b o e => ?_, fun j b z => ?_, ok'.bor, ok'.borA, ok'.sep, ok.borH, ok'.len⟩
  · refine ok'.frame b o (ok.frame b o e n) fun ⟨i, z⟩ => ?_
    rcases ok.newO i b z with q | q
    · exact n q
    · rw [q] at e; cases e
  · rcases ok'.newF b o e with z | z | ⟨i, z⟩
    · exact ok.newF b o z
    · exact .inr (.inl (ok.dom b z))
    · exact (ok.newO i b z).elim (fun q => .inr (.inr q)) fun q => .inr (.inl q)
  · rcases ok'.newO j b z with ⟨i, q⟩ | q
    · exact ok.newO i b q
    · exact .inr (ok.dom b q)
theorem EnvOk.now (ok : EnvOk K mg G F H σ env) : EnvOk K mg (G.now F H σ env.sl) F H σ env :=
  ⟨ok.sub, ok.slot, ok.apart, Le.refl _, fun b o e _ => e, fun b e => e, fun b o e => .inl e, fun j b z => .inl ⟨j, z⟩, ok.bor, ok.borA, ok.sep, fun p hp e => ok.borH p hp (ok.dom _ e), ok.len⟩
/-- a value in hand stays as it is -/
theorem Free.keep (f : Free K mg G F H σ env m v) (ok : EnvOk K mg G F H σ env) (ok' : EnvOk K mg (G.now F H σ env.sl) F' H' σ' env') : Free K mg G F' H' σ' env' m v := by
  have key : isOwn m = true → ∀ a, v = .ref a → H' a = H a ∧ F' a = none ∧ ∀ i, ¬ OwnAt σ' env'.sl i a := fun o a ea => by
    obtain ⟨n1, n2⟩ := f.new o a ea
    obtain ⟨b, u, e1, e2, e3, _⟩ := f.rm.own o
    rw [ea] at e1
    cases e1
    have no : ¬ ∃ i, OwnAt σ env.sl i a := fun ⟨i, z⟩ => n2 i z
    refine ⟨by rw [ok'.frame a u e3 no, e3], ?_, fun i z => ?_⟩
    · cases q : F' a with
      | none => rfl
      | some o =>
        rcases ok'.newF a o q with z | z | z
        · rw [show F a = some o from z] at e2; cases e2
        · rw [show H a = none from z] at e3; cases e3
        · exact (no z).elim
    · rcases ok'.newO i a z with q | q
      · exact no q
      · rw [show H a = none from q] at e3; cases e3
  exact ⟨f.rm.le ok'.frz fun o a ea => ⟨(key o a ea).1, (key o a ea).2.1⟩, fun o a ea => ⟨(f.new o a ea).1, (key o a ea).2.2⟩⟩
end
/-- an expression's reading at a later moment of the same statement -/
def laterE (K : Fg) (mg : Mg) (G : Gh) (W : KX) (f : FE) : TE := fun σ H Q => ∃ G1, (∀ c d σ' H', liftW K mg G1 W c d σ' H' → liftW K mg G W c d σ' H') ∧ liftE K mg G1 W f σ H Q
section
variable {X : Cx}
theorem later_e {e : Expr} {f : FE} {G : Gh} {W : KX} (h : VE X e f) (t : Takes X (liftW X.K X.mg G W)) : PE X e (laterE X.K X.mg G W f) := ⟨fun pins s σ H Q I ⟨G1, i, q⟩ => (h G1 W (t.imp i)).run pins s σ H Q I q⟩
theorem up_w {G : Gh} {W : KX} {F H : Hp} {σ : L2.St} {env : Env} (ok : EnvOk X.K X.mg G F H σ env) : ∀ c d σ' H', liftW X.K X.mg (G.now F H σ env.sl) W c d σ' H' → liftW X.K X.mg G W c d σ' H' := fun c d σ' H' ⟨ex, F', e', ok', eo, w⟩ => ⟨ex, F', e', ok.up ok', eo, w⟩
theorem vs_par {i j : Nat} {x y : Str} {a b : Expr} {fa fb : FE} {px py pt pos : Pos} {kt k2 pt2} (hc : X.calm = true) (hN : X.N.Nodup) (hi : X.N[i]? = some x) (hj : X.N[j]? = some y) (hij : i ≠ j)
    (hx : X.env.scope.names.lookup x = some .local) (hy : X.env.scope.names.lookup y = some .local) (ha : VE X a fa) (hb : VE X b fb) (na : starEach [a, b] X.env = (false, eval a X.env) :: starEach [b] X.env := by rfl) (nb : starEach [b] X.env = (false, eval b X.env) :: starEach [] X.env := by rfl)
    (hw : swappedStores [.Tuple [.Name x px, .Name y py] kt pt] (.Tuple [a, b] k2 pt2) X.env = pure (some [x, y]) := by rfl)
    (hs : swapsWithSole [.Tuple [.Name x px, .Name y py] kt pt] (.Tuple [a, b] k2 pt2) pos.line X.env = pure false := by rfl) :
    VS X (.Assign [.Tuple [.Name x px, .Name y py] kt pt] (.Tuple [a, b] k2 pt2) pos) (sPar i j fa fb) := fun G W _ t =>
  PS.imp (ps_par hc hN hi hj hij hx hy (pa_cons (ha G W t) (pa_cons (later_e hb t) pa_nil nb) na) hw hs) fun Dn σ H hq => by
    obtain ⟨F, env, E, ok, hf, k1, _⟩ := hq
    refine ⟨F, env, _, ok, hf, fun r1 e1 v1 F1 H1 ok1 l1 rr hq => ?_⟩
    obtain ⟨⟨m1, e1'⟩, eo, hq⟩ := bindP_of hq
    obtain ⟨F2, ok2, l2, fr⟩ := RR.own ok1 rr eo
    refine ⟨G.now F2 H1 σ e1'.sl, up_w ok2, F2, e1', _, ok2.now, hq, fun r2 e2 v2 F3 H3 ok3 l3 rr2 hq => ?_⟩
    obtain ⟨⟨m2, e2'⟩, eo2, ⟨c1, c2, c3, c4⟩, hq⟩ := bindP_of hq
    obtain ⟨F4, ok4, l4, fr2⟩ := RR.own ok3 rr2 eo2
    have okF := ok2.up ok4
    have frF := fr.keep ok2 ok4
    have frS : Free X.K X.mg G F4 H3 σ e2' m2 v2 := ⟨fr2.rm, fun o a ea => ⟨ok2.dom a (fr2.new o a ea).1, (fr2.new o a ea).2⟩⟩
    have okI := okF.store c1 c2 frF
    have apart : isOwn m2 = true → ∀ a, v2 = .ref a → ∀ k, ¬ OwnAt (σ.set i (some v1)) (e2'.sl.set i (some m1)) k a := fun o a ea k z => by
      by_cases hk : k = i
      · subst hk
        obtain ⟨m, g1, g2, g3⟩ := z
        rw [List.getElem?_set_self c1] at g1
        rw [List.getElem?_set_self (by rw [← okF.len]; exact c1)] at g3
        cases g1
        cases g3
        obtain ⟨b, u, q1, q2, q3, _⟩ := fr.rm.own g2
        cases q1
        have := (fr2.new o a ea).1
        rw [show H1 a = none from this] at q3; cases q3
      · exact (frS.new o a ea).2 k ((OwnAt.set_other hk).mp z)
    have okJ := okI.store (i := j) (m := m2) (v := v2) (by show j < (e2'.sl.set i (some m1)).length; rw [List.length_set]; exact c3) c4 ⟨frS.rm, fun o a ea => ⟨(frS.new o a ea).1, apart o a ea⟩⟩
    exact ⟨v1, v2, rfl, k1 _ F4 H3 _ okJ (l1.trans (l2.trans (l3.trans l4))) hq⟩

/-! ### *e in an argument list -/
def lotOf : Ar → Option (List D)
  | .d (.list ds) => some ds
  | .d (.tuple ds) => some ds
  | _ => none
def aS (fe : FE) (fa : FA) : FA := fun env Q W => fe env (fun r e1 => bindP (lkR e1 r) fun x => bindP (lotOf x.1) fun ds => fa x.2 (fun as e2 => Q (ds.map .d ++ as) e2) W) W
theorem ArAll.ofData {K : Fg} {mg : Mg} {F : Hp} {σ : L2.St} : ∀ {vs : List V} {ds : List D}, DtAll K F vs ds → ArAll K mg F σ (ds.map .d) vs
  | _, _, .nil => .nil
  | _, _, .cons h r => .cons h (ArAll.ofData r)
theorem ArAll.append {K : Fg} {mg : Mg} {F : Hp} {σ : L2.St} {as bs : List Ar} {vs ws : List V} (h : ArAll K mg F σ as vs) (r : ArAll K mg F σ bs ws) : ArAll K mg F σ (as ++ bs) (vs ++ ws) := by
  induction h with
  | nil => exact r
  | cons a _ ih => exact .cons a ih
theorem va_s {e : Expr} {es : List Expr} {fe : FE} {fa : FA} {p : Pos} (he : VE X e fe) (ha : VA X es fa) (hs : starEach (.Starred e p :: es) X.env = (true, eval e X.env) :: starEach es X.env := by rfl) : VA X (.Starred e p :: es) (aS fe fa) := fun G W t =>
  PA.imp (StX.pa_star (he G W t) (ha G W t) hs) fun σ H Q hw => by
    obtain ⟨F, env, Qv, ok, hf, q⟩ := hw
    refine ⟨F, env, _, ok, hf, fun r e1 v F1 H1 ok1 l1 rr hq => ?_⟩
    obtain ⟨⟨x, e2⟩, ex, hq⟩ := bindP_of hq
    obtain ⟨ds, eds, hq⟩ := bindP_of hq
    obtain ⟨F2, ok2, l2, ax⟩ := rr.leak ok1 ex
    have key : ∃ p xs, v = .ref p ∧ (SqT X.K H1 p xs ∨ SqL X.K H1 p xs) ∧ DtAll X.K F2 xs ds := by
      cases x with
      | g x => cases eds
      | s x => cases eds
      | d d =>
        cases d with
        | list zs =>
          cases eds
          cases ax with
          | lst h r => exact ⟨_, _, rfl, .inr (sqL_le ok2.sub h.sqL), r⟩
        | tuple zs =>
          cases eds
          cases ax with
          | tup h r => exact ⟨_, _, rfl, .inl (sqT_le ok2.sub h.sqT), r⟩
        | _ => cases eds
    obtain ⟨p, xs, ev, hsq, rx⟩ := key
    refine ⟨p, xs, ev, hsq, F2, e2, _, ok2, hq, fun as e3 vs F3 H3 ok3 l3 aa hq => ?_⟩
    exact q _ e3 _ F3 H3 ok3 ((l1.trans l2).trans l3) ((ArAll.ofData (rx.le l3)).append aa) hq
end
end VL

/-! VlN: enumerate, zip over lists, tuples, texts. -/
namespace VL
open PySem PySem.Spec PyProof.Rows L2

/-! ### enumerate(v) begins, whatever v is walked by -/
set_option maxHeartbeats 1000000 in
theorem new_enum0 {v : Value} {o : Obj} {P : Heap → Prop} (B : Begins v o P) : Meets (Builtin.«enumerate.__new__» ⟨[.type "enumerate", v], []⟩) (fun _ R s => P s.heap ∧
    R (.ok (.ret (.ref (s.heap.push o).objs.size))) { s with heap := (s.heap.push o).push { cls := .type "enumerate", data := .fields #[.none, .bool false, .ref s.heap.objs.size, rawInt 0, .none, .none] } }) :=
  .of_wp fun prog w A R s hyp => by
    obtain ⟨hp, gs, dr, tk, os⟩ := s
    obtain ⟨hP, hR⟩ := hyp
    have hsub := sub_enumerate
    have step : ∀ {A' : Around} {E : Value → Shared → Prop} {Q : Value → Shared → Prop}, Q (.ref hp.objs.size) ⟨hp.push o, gs, dr, tk, os⟩ → wpAny (model prog w) A' (pyIter v) Q E ⟨hp, gs, dr, tk, os⟩ := fun q => B.iter prog w _ _ _ _ hP q
    wp_walk using step
    refine wpAny_stack_any fun st => wpAny_pure ?_
    split
    · rename_i c _ _ _ _ _
      cases (c == Value.type "enumerate") <;> (wp_walk using step; exact ⟨_, rfl, hR⟩)
    · wp_walk using step
      exact ⟨_, rfl, hR⟩
theorem enum_begins0 {prog : Program} {w : World} {A : Around} {E : Value → Shared → Prop} {s : Shared} {v : Value} {o : Obj} {P : Heap → Prop} {Q : Value → Shared → Prop} (B : Begins v o P) (hP : P s.heap)
    (h : ∀ h', IsEnum h' (s.heap.objs.size + 1) s.heap.objs.size 0 .none → h'.get? s.heap.objs.size = some o → h'.objs.size = s.heap.objs.size + 2 → (∀ b o, s.heap.get? b = some o → h'.get? b = some o) → Q (.ref (s.heap.objs.size + 1)) { s with heap := h' }) :
    wpAny (model prog w) A (call (.type "enumerate") [v]) Q E s := by
  refine callType_new F.called_enumerate (by decide) (F.typeCall_enumerate_1 _) (F.newCall_enumerate_1 _) (fun obj => F.args_object_init_2 obj _) F.entry_enumerate_new (new_enum0 B) ⟨hP, ?_⟩
  have size1 : (s.heap.push o).objs.size = s.heap.objs.size + 1 := Heap.size_push ..
  have lies := Heap.get?_push_size (s.heap.push o) (o := { cls := .type "enumerate", data := .fields #[.none, .bool false, .ref s.heap.objs.size, rawInt 0, .none, .none] }) rfl
  show _ ∧ _
  rw [size1] at lies ⊢
  exact ⟨⟨_, lies, rfl⟩, h _ lies (Heap.get?_push_of_some _ (Heap.get?_push_size _ B.free)) (by rw [Heap.size_push, size1]) fun b u e => Heap.get?_push_of_some _ (Heap.get?_push_of_some _ e)⟩

theorem vals_getR : ∀ {xs : List V} {us : List Value} {j : Nat} {u : Value}, Vals xs us → us[j]? = some u → ∃ y, xs[j]? = some y ∧ RelV y u
  | _, _, _, _, .nil, e => by simp at e
  | _, _, 0, _, .cons r _, e => by simp at e; subst e; exact ⟨_, rfl, r⟩
  | _, _, j + 1, _, .cons _ t, e => vals_getR (j := j) t (by simpa using e)
/-! ### sources -/
inductive Src where
  | l (a : Addr)
  | t (a : Addr)
  | z (x : Str)
def Src.v : Src → V
  | .l a => .ref a
  | .t a => .ref a
  | .z x => .str x
def Src.At (K : Fg) (H : Hp) : Src → List V → Prop
  | .l a, xs => SqL K H a xs
  | .t a, xs => SqT K H a xs
  | .z x, xs => xs = x.cps.toList.map fun c => V.str ⟨#[c]⟩
theorem Src.At.le {K : Fg} {F F' : Hp} (l : Le F F') {r : Src} {xs : List V} (h : r.At K F xs) : r.At K F' xs := by
  cases r with
  | l a => exact sqL_le l h
  | t a => exact sqT_le l h
  | z x => exact h
/-- the iterator at it stands at the i-th item -/
def Src.St (it : Addr) : Src → Nat → Heap → Prop
  | .l a, i, h => h.IsListIter it a i
  | .t a, i, h => h.IsTupleIter it a i
  | .z x, i, h => ∃ t, h.IsStrIter it (strIterType x) x t i
def Src.off (it : Addr) : Src → Prop
  | .l a => a ≠ it
  | .t a => a ≠ it
  | .z _ => True
theorem Src.St.obj {it : Addr} {r : Src} {i : Nat} {h : Heap} (st : r.St it i h) : ∃ o, h.get? it = some o ∧ ∀ v, o.data ≠ .cell v := by
  cases r with
  | l a => obtain ⟨o, e, _, d⟩ := st; exact ⟨o, e, fun v z => by rw [d] at z; cases z⟩
  | t a => obtain ⟨o, e, _, d⟩ := st; exact ⟨o, e, fun v z => by rw [d] at z; cases z⟩
  | z x => obtain ⟨t, o, e, _, d⟩ := st; exact ⟨o, e, fun v z => by rw [d] at z; cases z⟩
theorem Src.St.keep {it : Addr} {r : Src} {i : Nat} {h h' : Heap} (st : r.St it i h) (k : ∀ o, h.get? it = some o → h'.get? it = some o) : r.St it i h' := by
  cases r with
  | l a => exact Heap.IsListIter.at st k
  | t a => exact Heap.IsTupleIter.at st k
  | z x => obtain ⟨t, o, e, q⟩ := st; exact ⟨t, o, k o e, q⟩
section
variable {X : Cx} {pins : List (Addr × Obj)} {σ : L2.St} {H : Hp} {s : Shared} {r : Src} {xs : List V} {it : Addr}
/-- what is drawn from a source that stands tracked -/
theorem Src.draws (I : Inv X pins σ H s) (hh : X.A.handled = none) (hA : r.At X.K H xs) (ho : r.off it) {i : Nat} (st : r.St it i s.heap) : ∃ fp P St, Draws X.prog X.w X.A.in1 it fp xs.length P St ∧ it ∈ fp ∧ St i s.heap ∧ (∀ j h, St j h → r.St it j h) ∧
    (∀ j x, P j x → ∃ y, xs[j]? = some y ∧ RelV y x) ∧ ∀ b ∈ fp, b = it ∨ ∃ a, r.v = .ref a ∧ b = a := by
  cases r with
  | l a =>
    obtain ⟨us, rv, p, hz⟩ := I.list hA
    have e : xs.length = us.toArray.size := by rw [rv.length, List.size_toArray]
    rw [e]
    refine ⟨_, _, _, Draws.list (A := X.A.in1) hh it a ho us.toArray, by simp, ⟨st, p.isList⟩, fun j h q => q.1, fun j x q => ?_, fun b hb => by simpa [Src.v, eq_comm] using hb⟩
    obtain ⟨y, h1, h2⟩ := vals_getR rv (show us[j]? = some x by simpa using q)
    exact ⟨y, h1, h2⟩
  | t a =>
    obtain ⟨us, rv, p, hz⟩ := I.tuple hA
    have e : xs.length = us.toArray.size := by rw [rv.length, List.size_toArray]
    rw [e]
    refine ⟨_, _, _, Draws.tuple (A := X.A.in1) hh it a ho us.toArray, by simp, ⟨st, p⟩, fun j h q => q.1, fun j x q => ?_, fun b hb => by simpa [Src.v, eq_comm] using hb⟩
    obtain ⟨y, h1, h2⟩ := vals_getR rv (show us[j]? = some x by simpa using q)
    exact ⟨y, h1, h2⟩
  | z x =>
    obtain ⟨t, st⟩ := st
    have hA : xs = x.cps.toList.map fun c => V.str ⟨#[c]⟩ := hA
    have e : xs.length = x.cps.size := by rw [hA, List.length_map, Array.length_toList]
    rw [e]
    refine ⟨_, _, _, Draws.text (A := X.A.in1) hh it x t, by simp, st, fun j h q => ⟨t, q⟩, fun j u q => ?_, fun b hb => .inl (by simpa using hb)⟩
    obtain ⟨c, k, h1, rfl⟩ := q
    refine ⟨.str ⟨#[c]⟩, ?_, k, rfl⟩
    rw [hA, List.getElem?_map, Array.getElem?_toList, h1] <;> rfl
/-- its iterator begins -/
theorem Src.begins (I : Inv X pins σ H s) (hA : r.At X.K H xs) {u : Value} (rx : RelV r.v u) : ∃ o P, Begins u o P ∧ P s.heap ∧ ∀ it h, h.get? it = some o → r.St it 0 h := by
  cases r with
  | l a =>
    cases rx
    obtain ⟨us, rv, p, hz⟩ := I.list hA
    exact ⟨_, _, begins_list a us.toArray, p.isList, fun it h e => ⟨_, e, rfl, rfl⟩⟩
  | t a =>
    cases rx
    obtain ⟨us, rv, p, hz⟩ := I.tuple hA
    exact ⟨_, _, begins_tuple a us.toArray, p, fun it h e => ⟨_, e, rfl, rfl⟩⟩
  | z x =>
    obtain ⟨t, rfl⟩ := rx
    exact ⟨_, _, begins_text x t, trivial, fun it h e => ⟨t, _, e, rfl, rfl⟩⟩
theorem Src.lt (I : Inv X pins σ H s) (hA : r.At X.K H xs) : ∀ a, r.v = .ref a → a < s.heap.objs.size := by
  intro a ea
  cases r with
  | l b => cases ea; obtain ⟨us, rv, p, hz⟩ := I.list hA; exact p.lt
  | t b => cases ea; obtain ⟨us, rv, ⟨o, e, _⟩, hz⟩ := I.tuple hA; exact Heap.lt_size e
  | z x => cases ea
theorem Src.off_of {r : Src} (h : ∀ a, r.v = .ref a → a ≠ it) : r.off it := by
  cases r with
  | l b => exact h b rfl
  | t b => exact h b rfl
  | z x => trivial
end

/-! ### a walk that gives new tuples -/
/-- turns from a walk of the library that stands at each turn -/
theorem turn_of {P : Program} {w : World} {K : Fg} {elts : List Expr} {kk : Nat} {tpos : Pos} {J : It} {e : Addr} {own : List Addr} {tn : Nat → Heap → Prop} (mem : e ∈ own) (obj : ∀ i h, tn i h → ∀ b ∈ own, ∃ o, h.get? b = some o ∧ ∀ v, o.data ≠ .cell v)
    (keep : ∀ i h h', tn i h → (∀ b ∈ own, ∀ o, h.get? b = some o → h'.get? b = some o) → tn i h')
    (self : ∀ (A : Around) (i : Nat) (s : Shared) (Q E : Value → Shared → Prop), tn i s.heap → Q (.ref e) s → wpAny (model P w) A (pyIter (.ref e)) Q E s)
    (build : ∀ (X : Cx), X.prog = P → X.w = w → X.K = K → X.calm = true → ∀ i pins s σ H, Inv X pins σ H s → (∀ b ∈ own, FpOk X pins H b) → tn i s.heap → (J.go i H ∨ J.stop i H) → ∃ fp ch n Pv St Mid, WalksT X.prog X.w X.A e fp ch n Pv St Mid ∧ (∀ b ∈ ch, b ∈ own) ∧
      St i s.heap ∧ (J.go i H → i < n) ∧ (J.stop i H → i = n) ∧ (∀ h, St (i + 1) h → tn (i + 1) h) ∧ ∀ vals, Pv i vals → ∃ xs, Vals xs vals.toList ∧ xs.length ≤ sizeLine ∧ ∀ T, H T = none → J.yld i H (.ref T) (upd H T (.tup xs))) :
    Turn P w K (.Tuple elts kk tpos) J own e tn where
  mem := mem
  obj := obj
  keep := keep
  self := self
  item := by
    intro X hP hw hK hc i pins s σ H E I hf st hg
    obtain ⟨fp, ch, n, Pv, St, Mid, W, hch, hst, g1, _, g3, g4⟩ := build X hP hw hK hc i pins s σ H I hf st (.inl hg)
    subst hP hw hK
    refine W.item i s _ _ (g1 hg) hst fun T vals h1 tk pv hT tup mid k1 => ⟨_, rfl, ?_⟩
    obtain ⟨xs, rv, hz, hy⟩ := g4 vals pv
    refine W.go elts kk tpos i T _ _ _ mid fun h2 st2 k2 => ?_
    have nT : H T = none := I.hok.fresh hT
    obtain ⟨o, t1, t2, t3⟩ := tup
    have tup2 : IsTup h2 T vals := ⟨o, k2 T o (W.apart i T _ mid) t1, t2, t3⟩
    have ob : ObjOk X.prog X.w (upd H T (.tup xs)) h2 T (.tup xs) := ⟨hz, vals.toList, rv, by rw [Array.toArray_toList]; exact tup2⟩
    have fch : ∀ b ∈ ch, FpOk X pins H b := fun b hb => hf b (hch b hb)
    have J2 : Inv X pins σ (upd H T (.tup xs)) { s with heap := h2, toks := tk } := I.turnedNew (ch := ch) (fun b u hb q => k2 b u hb (k1 b u hb q)) fch hT ob
    refine ⟨.ref T, _, J2, rfl, hy T nT, g3 h2 st2, fun b hb => ?_⟩
    obtain ⟨u, hu, _⟩ := obj i s.heap st b hb
    have hne : b ≠ T := fun z => by
      have := Heap.lt_size hu
      rw [z] at this
      exact absurd (Nat.lt_of_lt_of_le this hT) (Nat.lt_irrefl _)
    rw [upd_ne hne]
    exact (hf b hb).1
  done := by
    intro X hP hw hK hc i pins s σ H E I hf st hg
    obtain ⟨fp, ch, n, Pv, St, Mid, W, hch, hst, _, g2, _, _⟩ := build X hP hw hK hc i pins s σ H I hf st (.inr hg)
    subst hP hw hK
    rw [g2 hg] at hst
    exact W.done s _ _ hst fun h' tk k => ⟨rfl, I.turnedL (ch := ch) k fun b hb => hf b (hch b hb)⟩

/-- (k, x0), (k + 1, x1), .. -/
def ItE (K : Fg) (r : Src) (xs : List V) (k : Int) : It :=
  ⟨fun i H => r.At K H xs ∧ i < xs.length, fun i H v H' => ∃ T x, v = .ref T ∧ H T = none ∧ H' = upd H T (.tup [.int (k + (i : Nat)), x]) ∧ xs[i]? = some x, fun i H => r.At K H xs ∧ i = xs.length⟩
theorem turn_e {P : Program} {w : World} {K : Fg} {elts : List Expr} {kk : Nat} {tpos : Pos} {r : Src} {xs : List V} {k : Int} {e it : Addr} (hei : e ≠ it) (ho : r.off it) (he : ∀ a, r.v = .ref a → a ≠ e) :
    Turn P w K (.Tuple elts kk tpos) (ItE K r xs k) [e, it] e (fun i h => (∃ old, IsEnum h e it (k + (i : Nat)) old) ∧ r.St it i h) := by
  refine turn_of (by simp) (fun i h st b hb => ?_) (fun i h h' st q => ?_) (fun A i s Q E st q => let ⟨⟨_, z⟩, _⟩ := st; wpAny_pyIter_enum z q) fun X hP hw hK hc i pins s σ H I hf st hg => ?_
  · have hb' : b = e ∨ b = it := by simpa using hb
    rcases hb' with z | z
    · obtain ⟨⟨old, q⟩, _⟩ := st
      rw [z]; exact ⟨_, q, fun v y => nomatch y⟩
    · rw [z]; exact st.2.obj
  · obtain ⟨⟨old, z⟩, y⟩ := st
    exact ⟨⟨old, q e (by simp) _ z⟩, y.keep fun o => q it (by simp) o⟩
  · subst hP hw hK
    have hA : r.At X.K H xs := hg.elim (fun z => z.1) fun z => z.1
    obtain ⟨fp, Pv, St, D, hm, hs, back, vals, hfp⟩ := Src.draws I (I.ok.hd hc) hA ho st.2
    have hef : e ∉ fp := fun z => by
      rcases hfp e z with q | ⟨a, q1, q2⟩
      · exact hei q
      · exact he a q1 q2.symm
    refine ⟨_, _, _, _, _, _, WalksT.enumFrom k D e hei hef hm, fun b hb => hb, ⟨st.1, hs⟩, fun z => z.2, fun z => z.2, fun h z => ⟨z.1, back _ _ z.2⟩, fun vs pv => ?_⟩
    obtain ⟨t, x, px, rfl⟩ := pv
    obtain ⟨y, h1, h2⟩ := vals i x px
    exact ⟨[.int (k + (i : Nat)), y], .cons ⟨_, rfl⟩ (.cons h2 .nil), by rw [sizeLine_eq]; show 2 ≤ _; decide, fun T nT => ⟨T, y, rfl, nT, rfl, h1⟩⟩
def enumD : Int → List D → List D
  | _, [] => []
  | k, d :: ds => .tuple [.int k, d] :: enumD (k + 1) ds
theorem enumD_length : ∀ (k : Int) (ds : List D), (enumD k ds).length = ds.length
  | _, [] => rfl
  | k, d :: ds => by show (enumD (k + 1) ds).length + 1 = _; rw [enumD_length]; rfl
theorem enumD_at : ∀ {k : Int} {ds : List D} {i : Nat} {d : D}, ds[i]? = some d → (enumD k ds)[i]? = some (.tuple [.int (k + (i : Nat)), d])
  | k, d :: ds, 0, d', e => by
    simp at e; subst e
    show some _ = _
    simp
  | k, d :: ds, i + 1, d', e => by
    show (enumD (k + 1) ds)[i]? = _
    rw [enumD_at (k := k + 1) (show ds[i]? = some d' from e)]
    congr 4
    push_cast
    omega
theorem Src.At.dt {K : Fg} {F : Hp} {ds : List D} {x : Ar} {σ : L2.St} {mg : Mg} {v : V} (ax : ArOk K mg F σ x v) (e : seqOf x = some ds) : ∃ r xs, v = Src.v r ∧ r.At K F xs ∧ DtAll K F xs ds := by
  cases x with
  | g x => cases e
  | s x => cases e
  | d d =>
    cases d with
    | list zs =>
      cases e
      cases ax with
      | lst h q => exact ⟨.l _, _, rfl, h.sqL, q⟩
    | tuple zs =>
      cases e
      cases ax with
      | tup h q => exact ⟨.t _, _, rfl, h.sqT, q⟩
    | str z =>
      cases e
      cases ax
      refine ⟨.z z, _, rfl, rfl, ?_⟩
      have all : ∀ l : List Nat, DtAll K F (l.map fun c => V.str ⟨#[c]⟩) (l.map fun c => PyData.str ⟨#[c]⟩) := fun l => by
        induction l with
        | nil => exact .nil
        | cons c l ih => exact .cons (.str _) ih
      exact all _
    | _ => cases e
theorem wk_e {K : Fg} {F : Hp} {r : Src} {xs : List V} {ds : List D} {k : Int} (h : r.At K F xs) (q : DtAll K F xs ds) : Wk K F (ItE K r xs k) (enumD k ds) true := by
  have hl := q.length
  have he := enumD_length k ds
  refine ⟨fun i H hi l => ⟨h.le l, by omega⟩, fun H l => ⟨h.le l, by omega⟩, fun i H x H' hi l y => ?_⟩
  obtain ⟨T, z, rfl, nT, rfl, hz⟩ := y
  obtain ⟨d, e, rd⟩ := q.get hz
  exact ⟨_, enumD_at e, .inr ⟨rfl, T, _, _, rfl, nT, rfl, rfl, .cons (.int _) (.cons rd .nil)⟩⟩
/-- enumerate(x), enumerate(x, k) -/
def fEn (fe : FE) : FW := fun env Q W => fe env (fun r e1 => bindP (lkR e1 r) fun x => bindP (seqOf x.1) fun ds => Q (enumD 0 ds) x.2) W
def fEnK (fe fk : FE) : FW := fun env Q W => fe env (fun r e1 => bindP (lkR e1 r) fun x => bindP (seqOf x.1) fun ds => fI fk x.2 (fun k e2 => (-1000000000 ≤ k ∧ k ≤ 1000000000) ∧ Q (enumD k ds) e2) W) W
section
variable {X : Cx} {e e2 : Expr} {fe fk : FE} {p pos tpos : Pos} {elts : List Expr} {kk : Nat}
/-- the two cells of an enumerate that has begun -/
theorem en_it {pins : List (Addr × Obj)} {σ : L2.St} {H : Hp} {s : Shared} {R : It → Hp → Prop} {r : Src} {xs : List V} {o : Obj} {k : Int} {h' : Heap} {E : Value → Shared → Prop} (I : Inv X pins σ H s) (hA : r.At X.K H xs) (hSt : ∀ it h, h.get? it = some o → r.St it 0 h)
    (he : IsEnum h' (s.heap.objs.size + 1) s.heap.objs.size k .none) (ho : h'.get? s.heap.objs.size = some o) (hk : ∀ b o, s.heap.get? b = some o → h'.get? b = some o) (q : R (ItE X.K r xs k) H) :
    wpAny (model X.prog X.w) X.A (pyIter (.ref (s.heap.objs.size + 1))) (PIE X pins σ (.Tuple elts kk tpos) R) E { s with heap := h' } := by
  refine wpAny_pyIter_enum he ?_
  have new : ∀ b ∈ [s.heap.objs.size + 1, s.heap.objs.size], FpOk X pins H b := fun b hb => by
    have hle : s.heap.objs.size ≤ b := by
      have e' : b = s.heap.objs.size + 1 ∨ b = s.heap.objs.size := by simpa using hb
      rcases e' with z | z <;> rw [z]
      · exact Nat.le_succ _
      · exact Nat.le_refl _
    exact I.fpOk hle (I.hok.fresh hle)
  have far : ∀ a, r.v = .ref a → a < s.heap.objs.size := Src.lt I hA
  refine ⟨_, [s.heap.objs.size + 1, s.heap.objs.size], _, _, H, rfl, I.kept (t' := s.toks) hk, turn_e (Nat.succ_ne_self _) (Src.off_of fun a ea => Nat.ne_of_lt (far a ea)) (fun a ea => Nat.ne_of_lt (Nat.lt_succ_of_lt (far a ea))), ⟨⟨.none, ?_⟩, hSt _ _ ho⟩, new, q⟩
  simpa using he
theorem vi_en (hg : Gl X "enumerate") (hm : X.mg "enumerate" = none) (he : VE X e fe) (hs : starEach [e] X.env = [(false, eval e X.env)] := by rfl) (hs' : starEach [e] X.env = (false, eval e X.env) :: starEach [] X.env := by rfl) :
    VI X (.Tuple elts kk tpos) (.Call (.Name "enumerate" p) [e] [] pos) true (fEn fe) := fun G W t => by
  refine ⟨fun pins s σ H R I h => Call_ (ld_blt I hg hm boot_enumerate (PyProof.Rows.callWith_type1 ?_ hs rfl))⟩
  obtain ⟨F, env, Q, ok, hf, q⟩ := h
  refine thn ((pa_cons (he G W t) pa_nil hs').run pos pins s σ H (fun vs H1 => ∃ r xs, vs = [Src.v r] ∧ r.At X.K H1 xs ∧ R (ItE X.K r xs 0) H1) I ?_) fun us s1 ⟨vs, H1, I1, rv, r, xs, ev, hA, hR⟩ => ?_
  · refine ⟨F, env, _, ok, hf, fun rr e1 v F1 H1 ok1 l1 hr hq => ?_⟩
    obtain ⟨⟨x, e2⟩, ex, hq⟩ := bindP_of hq
    obtain ⟨ds, eds, hq⟩ := bindP_of hq
    obtain ⟨F2, ok2, l2, ax⟩ := hr.leak ok1 ex
    obtain ⟨r, xs, ev, hA, rd⟩ := Src.At.dt ax eds
    exact ⟨r, xs, by rw [ev], hA.le ok2.sub, q _ e2 F2 H1 _ ok2 (l1.trans l2) (wk_e hA rd) hq⟩
  · subst ev
    obtain ⟨u, rfl, ru⟩ := rv.one
    obtain ⟨o, Ph, B, hP, hSt⟩ := Src.begins I1 hA ru
    exact enum_begins0 B hP fun h' z1 z2 _ hk => en_it I1 hA hSt z1 z2 hk hR
end
end VL

/-! VlO: enumerate with a start, zip of two. -/
namespace VL
open PySem PySem.Spec PyProof.Rows L2

/-- (x0, y0), (x1, y1), .. -/
def ItZ (K : Fg) (r1 r2 : Src) (xs ys : List V) : It :=
  ⟨fun i H => r1.At K H xs ∧ r2.At K H ys ∧ i < min xs.length ys.length, fun i H v H' => ∃ T x y, v = .ref T ∧ H T = none ∧ H' = upd H T (.tup [x, y]) ∧ xs[i]? = some x ∧ ys[i]? = some y, fun i H => r1.At K H xs ∧ r2.At K H ys ∧ i = min xs.length ys.length⟩
theorem turn_z {P : Program} {w : World} {K : Fg} {elts : List Expr} {kk : Nat} {tpos : Pos} {r1 r2 : Src} {xs ys : List V} {N : Nat} (f1 : ∀ a, r1.v = .ref a → a < N) (f2 : ∀ a, r2.v = .ref a → a < N) :
    Turn P w K (.Tuple elts kk tpos) (ItZ K r1 r2 xs ys) [N + 4, N + 2, N + 3, N, N + 1] (N + 4) (fun i h => IsZip h (N + 4) (N + 2) (N + 3) .none ∧ IsTupOf2 h (N + 2) (.ref N) (.ref (N + 1)) ∧ (∃ a b, IsTupOf2 h (N + 3) a b) ∧ r1.St N i h ∧ r2.St (N + 1) i h) := by
  refine turn_of (by simp) (fun i h st b hb => ?_) (fun i h h' st q => ?_) (fun A i s Q E st q => wpAny_pyIter_zip st.1 q) fun X hP hw hK hc i pins s σ H I hf st hg => ?_
  · obtain ⟨z1, z2, ⟨x, y, z3⟩, z4, z5⟩ := st
    have hb' : b = N + 4 ∨ b = N + 2 ∨ b = N + 3 ∨ b = N ∨ b = N + 1 := by simpa using hb
    rcases hb' with z | z | z | z | z
    · rw [z]; exact ⟨_, z1, fun v y => nomatch y⟩
    · rw [z]; exact ⟨_, z2, fun v y => nomatch y⟩
    · rw [z]; exact ⟨_, z3, fun v y => nomatch y⟩
    · rw [z]; exact z4.obj
    · rw [z]; exact z5.obj
  · obtain ⟨z1, z2, ⟨x, y, z3⟩, z4, z5⟩ := st
    exact ⟨q (N + 4) (by simp) _ z1, q (N + 2) (by simp) _ z2, ⟨x, y, q (N + 3) (by simp) _ z3⟩, z4.keep fun o => q N (by simp) o, z5.keep fun o => q (N + 1) (by simp) o⟩
  · subst hP hw hK
    have hA : r1.At X.K H xs ∧ r2.At X.K H ys := hg.elim (fun z => ⟨z.1, z.2.1⟩) fun z => ⟨z.1, z.2.1⟩
    obtain ⟨z1, z2, z3, z4, z5⟩ := st
    have o1 : r1.off N := Src.off_of fun a ea => Nat.ne_of_lt (f1 a ea)
    have o2 : r2.off (N + 1) := Src.off_of fun a ea => Nat.ne_of_lt (Nat.lt_succ_of_lt (f2 a ea))
    obtain ⟨p1, P1, S1, D1, m1, s1, b1, v1, h1⟩ := Src.draws I (I.ok.hd hc) hA.1 o1 z4
    obtain ⟨p2, P2, S2, D2, m2, s2, b2, v2, h2⟩ := Src.draws I (I.ok.hd hc) hA.2 o2 z5
    have out1 : ∀ j : Nat, 0 < j → N + j ∉ p1 := fun j hj z => by
      rcases h1 _ z with q | ⟨a, q1, q2⟩
      · have q : (N + j : Nat) = N := q
        omega
      · have := f1 a q1
        rw [← q2] at this
        have this : (N + j : Nat) < N := this
        omega
    have out2 : ∀ j : Nat, j ≠ 1 → N + j ∉ p2 := fun j hj z => by
      rcases h2 _ z with q | ⟨a, q1, q2⟩
      · have q : (N + j : Nat) = N + 1 := q
        omega
      · have := f2 a q1
        rw [← q2] at this
        have this : (N + j : Nat) < N := this
        omega
    have sep : ZipSep2 (N + 4) (N + 2) (N + 3) N (N + 1) p1 p2 :=
      { TIz := show (N + 2 : Nat) ≠ N + 4 by omega, TOz := show (N + 3 : Nat) ≠ N + 4 by omega, TITO := show (N + 2 : Nat) ≠ N + 3 by omega, TIi1 := show (N + 2 : Nat) ≠ N by omega, mem1 := m1, zf1 := out1 4 (by omega), Tf1 := out1 3 (by omega),
        TIi2 := show (N + 2 : Nat) ≠ N + 1 by omega, mem2 := m2, zf2 := out2 4 (by omega), Tf2 := out2 3 (by omega), sep1_2 := out2 0 (by omega), sep2_1 := out1 1 (by omega) }
    refine ⟨_, _, _, _, _, _, WalksT.zipD2 sep D1 D2, fun b hb => ?_, ⟨z1, z2, z3, s1, s2⟩, fun z => z.2.2, fun z => z.2.2, fun h ⟨q1, q2, q3, q4, q5⟩ => ⟨q1, q2, q3, b1 _ _ q4, b2 _ _ q5⟩, fun vs pv => ?_⟩
    · have hb' : b = N + 4 ∨ b = N + 3 ∨ b = N ∨ b = N + 1 := by simpa using hb
      rcases hb' with z | z | z | z <;> simp [z]
    · obtain ⟨x, y, px, py, rfl⟩ := pv
      obtain ⟨u, q1, q2⟩ := v1 i x px
      obtain ⟨v, q3, q4⟩ := v2 i y py
      exact ⟨[u, v], .cons q2 (.cons q4 .nil), by rw [sizeLine_eq]; show 2 ≤ _; decide, fun T nT => ⟨T, u, v, rfl, nT, rfl, q1, q3⟩⟩
def zipD : List D → List D → List D
  | x :: xs, y :: ys => .tuple [x, y] :: zipD xs ys
  | _, _ => []
theorem zipD_length : ∀ xs ys : List D, (zipD xs ys).length = min xs.length ys.length
  | [], _ => by simp [zipD]
  | _ :: _, [] => by simp [zipD]
  | x :: xs, y :: ys => by
    show (zipD xs ys).length + 1 = _
    rw [zipD_length]
    simp only [List.length_cons]
    omega
theorem zipD_at : ∀ {xs ys : List D} {i : Nat} {x y : D}, xs[i]? = some x → ys[i]? = some y → (zipD xs ys)[i]? = some (.tuple [x, y])
  | [], _, _, _, _, h, _ => by simp at h
  | _ :: _, [], _, _, _, _, h => by simp at h
  | x :: xs, y :: ys, 0, a, b, h1, h2 => by simp at h1 h2; subst h1 h2; rfl
  | x :: xs, y :: ys, i + 1, a, b, h1, h2 => zipD_at (xs := xs) (ys := ys) (i := i) (by simpa using h1) (by simpa using h2)
theorem wk_z {K : Fg} {F : Hp} {r1 r2 : Src} {xs ys : List V} {ds es : List D} (h1 : r1.At K F xs) (q1 : DtAll K F xs ds) (h2 : r2.At K F ys) (q2 : DtAll K F ys es) : Wk K F (ItZ K r1 r2 xs ys) (zipD ds es) true := by
  have l1 := q1.length
  have l2 := q2.length
  have lz := zipD_length ds es
  refine ⟨fun i H hi l => ⟨h1.le l, h2.le l, by omega⟩, fun H l => ⟨h1.le l, h2.le l, by omega⟩, fun i H x H' hi l y => ?_⟩
  obtain ⟨T, u, v, rfl, nT, rfl, e1, e2⟩ := y
  obtain ⟨d1, g1, r1⟩ := q1.get e1
  obtain ⟨d2, g2, r2⟩ := q2.get e2
  exact ⟨_, zipD_at g1 g2, .inr ⟨rfl, T, _, _, rfl, nT, rfl, rfl, .cons r1 (.cons r2 .nil)⟩⟩
def fZp (fe fg : FE) : FW := fun env Q W => fe env (fun r e1 => bindP (lkR e1 r) fun x => bindP (seqOf x.1) fun ds => fg x.2 (fun r2 e2 => bindP (lkR e2 r2) fun y => bindP (seqOf y.1) fun es => Q (zipD ds es) y.2) W) W
section
variable {X : Cx} {e e2 : Expr} {fe fg fk : FE} {p pos tpos : Pos} {elts : List Expr} {kk : Nat}
theorem vi_enK (hg : Gl X "enumerate") (hm : X.mg "enumerate" = none) (he : VE X e fe) (hk : VE X e2 fk) (hs : starEach [e, e2] X.env = (false, eval e X.env) :: starEach [e2] X.env := by rfl) (hs2 : starEach [e2] X.env = (false, eval e2 X.env) :: starEach [] X.env := by rfl)
    (hpl : (backTo pos (starEach [e2] X.env)).any (·.1) = false := by rfl) : VI X (.Tuple elts kk tpos) (.Call (.Name "enumerate" p) [e, e2] [] pos) true (fEnK fe fk) := fun G W t => by
  refine ⟨fun pins s σ H R I h => Call_ (ld_blt I hg hm boot_enumerate (PyProof.Rows.callWith_type1 ?_ hs hpl))⟩
  obtain ⟨F, env, Q, ok, hf, q⟩ := h
  refine thn ((pa_cons (he G W t) (pa_cons (hk G W t) pa_nil hs2) hs).run pos pins s σ H (fun vs H1 => ∃ r xs k, vs = [Src.v r, .int k] ∧ (-1000000000 ≤ k ∧ k ≤ 1000000000) ∧ r.At X.K H1 xs ∧ R (ItE X.K r xs k) H1) I ?_) fun us s1 ⟨vs, H1, I1, rv, r, xs, k, ev, hr, hA, hR⟩ => ?_
  · refine ⟨F, env, _, ok, hf, fun rr e1 v F1 H1 ok1 l1 hr hq => ?_⟩
    obtain ⟨⟨x, e2⟩, ex, hq⟩ := bindP_of hq
    obtain ⟨ds, eds, hq⟩ := bindP_of hq
    obtain ⟨F2, ok2, l2, ax⟩ := hr.leak ok1 ex
    obtain ⟨r, xs, ev, hA, rd⟩ := Src.At.dt ax eds
    refine lift_i ok2 hq fun k e3 F3 H3 ok3 l3 ⟨hr, q3⟩ => ?_
    exact ⟨r, xs, k, by rw [ev], hr, (hA.le l3).le ok3.sub, q _ e3 F3 H3 _ ok3 (l1.trans (l2.trans l3)) (wk_e (hA.le l3) (rd.le l3)) q3⟩
  · subst ev
    obtain ⟨u, v, rfl, ru, t, rfl⟩ := rv.two
    obtain ⟨o, Ph, B, hP, hSt⟩ := Src.begins I1 hA ru
    exact enum_begins B hP (by omega) (by omega) fun h' z1 z2 _ hk => en_it I1 hA hSt z1 z2 hk hR
theorem vi_zp (hg : Gl X "zip") (hm : X.mg "zip" = none) (he : VE X e fe) (hk : VE X e2 fg) (hs : starEach [e, e2] X.env = (false, eval e X.env) :: starEach [e2] X.env := by rfl) (hs2 : starEach [e2] X.env = (false, eval e2 X.env) :: starEach [] X.env := by rfl)
    (hpl : (backTo pos (starEach [e2] X.env)).any (·.1) = false := by rfl) : VI X (.Tuple elts kk tpos) (.Call (.Name "zip" p) [e, e2] [] pos) true (fZp fe fg) := fun G W t => by
  refine ⟨fun pins s σ H R I h => Call_ (ld_blt I hg hm PyProof.Rows.boot_zip (PyProof.Rows.callWith_type1 ?_ hs hpl))⟩
  obtain ⟨F, env, Q, ok, hf, q⟩ := h
  refine thn ((pa_cons (he G W t) (pa_cons (hk G W t) pa_nil hs2) hs).run pos pins s σ H (fun vs H1 => ∃ r1 xs r2 ys, vs = [Src.v r1, Src.v r2] ∧ r1.At X.K H1 xs ∧ r2.At X.K H1 ys ∧ R (ItZ X.K r1 r2 xs ys) H1) I ?_) fun us s1 ⟨vs, H1, I1, rv, r1, xs, r2, ys, ev, hA1, hA2, hR⟩ => ?_
  · refine ⟨F, env, _, ok, hf, fun rr e1 v F1 H1 ok1 l1 hr hq => ?_⟩
    obtain ⟨⟨x, e2⟩, ex, hq⟩ := bindP_of hq
    obtain ⟨ds, eds, hq⟩ := bindP_of hq
    obtain ⟨F2, ok2, l2, ax⟩ := hr.leak ok1 ex
    obtain ⟨r, xs, ev, hA, rd⟩ := Src.At.dt ax eds
    refine ⟨F2, e2, _, ok2, hq, fun rr2 e3 v2 F3 H3 ok3 l3 hr2 hq => ?_⟩
    obtain ⟨⟨y, e4⟩, ey, hq⟩ := bindP_of hq
    obtain ⟨es, ees, hq⟩ := bindP_of hq
    obtain ⟨F4, ok4, l4, ay⟩ := hr2.leak ok3 ey
    obtain ⟨r', ys, ev', hA', rd'⟩ := Src.At.dt ay ees
    have l24 := l3.trans l4
    exact ⟨r, xs, r', ys, by rw [ev, ev'], (hA.le l24).le ok4.sub, hA'.le ok4.sub, q _ e4 F4 H3 _ ok4 (l1.trans (l2.trans l24)) (wk_z (hA.le l24) (rd.le l24) hA' rd') hq⟩
  · subst ev
    obtain ⟨u, v, rfl, ru, rv2⟩ := rv.two
    obtain ⟨o1, P1, B1, h1, st1⟩ := Src.begins I1 hA1 ru
    obtain ⟨o2, P2, B2, h2, st2⟩ := Src.begins I1 hA2 rv2
    refine zip_begins2 B1 B2 h1 h2 fun h' z1 z2 z3 z4 z5 _ hk => wpAny_pyIter_zip z1 ?_
    have new : ∀ b ∈ [s1.heap.objs.size + 4, s1.heap.objs.size + 2, s1.heap.objs.size + 3, s1.heap.objs.size, s1.heap.objs.size + 1], FpOk X pins H1 b := fun b hb => by
      have hle : s1.heap.objs.size ≤ b := by
        have e' : b = s1.heap.objs.size + 4 ∨ b = s1.heap.objs.size + 2 ∨ b = s1.heap.objs.size + 3 ∨ b = s1.heap.objs.size ∨ b = s1.heap.objs.size + 1 := by simpa using hb
        rcases e' with z | z | z | z | z <;> rw [z] <;> first | exact Nat.le_add_right _ _ | exact Nat.le_refl _
      exact I1.fpOk hle (I1.hok.fresh hle)
    exact ⟨_, [s1.heap.objs.size + 4, s1.heap.objs.size + 2, s1.heap.objs.size + 3, s1.heap.objs.size, s1.heap.objs.size + 1], _, _, H1, rfl, I1.kept (t' := s1.toks) hk, turn_z (Src.lt I1 hA1) (Src.lt I1 hA2), ⟨z1, z2, ⟨_, _, z3⟩, st1 _ _ z4, st2 _ _ z5⟩, new, hR⟩
end
end VL

/-! VlP: small words for the printed derivations. -/
namespace VL
open PySem PySem.Spec PyProof.Rows L2
theorem hu150 {k : Nat} {A : Around} (hr : Room k A) : A.units + 150 < cLine := by have := hr.un; omega
/-- targets = value -/
def sTup (fe : FE) (g : FG) : FS := fun env E W => fe env (fun r e1 => bindP (lkR e1 r) fun x => bindP (dOf x.1) fun d => g d x.2 E.nx) W
section
variable {X : Cx} {e tg : Expr} {fe : FE} {g : FG} {is : List Nat} {pos : Pos}
theorem ve_v (i : Nat) {x : Str} {pos : Pos} (hN : X.N[i]? = some x := by rfl) (hv : Vis X.env.scope x := by first | exact Or.inl rfl | exact Or.inr (Or.inl rfl) | exact Or.inr (Or.inr rfl)) (hd : (x == ("__debug__" : Str)) = false := by decide)
    (hcd : (x == ("__classdict__" : Str)) = false := by decide) : VE X (.Name x pos) (fVar i) := ve_var hN hv hd hcd
theorem ve_gS {x z : Str} {pos : Pos} (hg : Gl X x) (h : ∃ t, X.mg x = some (.str z t)) (hb : (x == ("__debug__" : Str)) = false := by decide) : VE X (.Name x pos) (fC (.str z)) := by
  obtain ⟨t, h⟩ := h
  exact ve_glob (v := .str z) hg h ⟨t, rfl⟩ (fun _ => .str z) hb
theorem ve_gI {x : Str} {i : Int} {pos : Pos} (hg : Gl X x) (h : ∃ t, X.mg x = some (.int i t)) (hb : (x == ("__debug__" : Str)) = false := by decide) : VE X (.Name x pos) (fC (.int i)) := by
  obtain ⟨t, h⟩ := h
  exact ve_glob (v := .int i) hg h ⟨t, rfl⟩ (fun _ => .int i) hb
theorem vs_tup (he : VE X e fe) (hg : VGt X tg is g) (hs : swapsWithSole [tg] e pos.line X.env = pure false := by rfl) (hw : swappedStores [tg] e X.env = pure none := by rfl) (h1 : (assignEach [tg] X.env).map (·.2) = [assign tg X.env] := by rfl) :
    VS X (.Assign [tg] e pos) (sTup fe g) := fun G W _ t => PS.imp (ps_asg (he G W t) (hg G is fun _ h => h) hs hw h1) fun Dn σ H hq => by
  obtain ⟨F, env, E, ok, hf, k1, _⟩ := hq
  refine ⟨F, env, _, ok, hf, fun r e1 v F1 H1 ok1 l1 rr hq => ?_⟩
  obtain ⟨⟨x, e2⟩, ex, hq⟩ := bindP_of hq
  obtain ⟨d, ed, hq⟩ := bindP_of hq
  obtain ⟨F2, ok2, l2, ax⟩ := rr.leak ok1 ex
  cases x with
  | g x => cases ed
  | s x => cases ed
  | d d' =>
    cases ed
    exact ⟨F2, e2, d, _, ok2, .inl ax, hq, fun σ' e3 _ ok3 q3 => k1 σ' F2 H1 e3 ok3 (l1.trans l2) q3⟩
end
end VL

/-! VlQ: the law's head, from the promise of its def by value. -/
namespace VL
open PySem PySem.Spec PyProof.Rows L2

/-- the law's def gives True at the script -/
def LawV (sp : SpV) (ns : List Int) : Prop := sp [.fz (.list (ns.map .int))] (fun m _ => m = .fz (.bool true)) fun _ _ => False
section
variable {P : Program} {w : World} {K : Fg} {mg : Mg} {mb : Str → Option Value} {k : Nat} {fa a : Addr} {fd : FuncData} {x : Str} {sp : SpV} {s : Shared} {vs : List Value} {ns : List Int}
/-- from a heap H in which nothing but the script is tracked, frozen -/
theorem law_core (KX : K.In s.heap) (gl : s.heap.Ns mainGlobals mg) (bl : s.heap.Ns builtinsNs mb) (bb : ∀ x : Str, x ≠ "__name__" → mb x = bootBuiltins x) (lim : s.heap.NoLimit) (gn : s.gens = #[]) (room : Room k callerA)
    (F : ∀ base : Heap, K.In base → base.Ns mainGlobals mg → FnV P w K mg base k fa fd [x] [] sp) (bind : ∀ (s : Shared) (u : Value), BindsTo s fd ⟨[u], []⟩ [(x, u)]) (h : LawV sp ns)
    (H : Hp) (frozen : ∀ b u, H b = some u → ∃ o xs, u = .frz o (.lst xs)) (dt : Dt K H (.ref a) (.list (ns.map .int))) (hok : HOk P w H s.heap) (off : ∀ b o, s.heap.get? b = some o → H b ≠ none → (∀ es ep, o.data ≠ .dict es ep) ∧ K.lookup b = none) :
    codeAny (model P w) callerA (.call (.ref fa) ⟨[.ref a], []⟩) (fun r s' => r = .ok (.ret (.bool true)) ∧ OldK s.heap s'.heap ∧ s'.os = s.os ∧ AllBare s'.gens) s := by
  have keepD : ∀ {b : Addr} {m : Str → Option Value}, s.heap.Ns b m → (hidT s.heap H).Ns b m := fun {b m} ⟨o, es, ep, e, d, r⟩ => by
    refine ⟨o, es, ep, hidT_get e ?_, d, r⟩
    cases q : H b with
    | none => rfl
    | some u => exact absurd d ((off b o e (by rw [q]; exact fun z => by cases z)).1 es ep)
  have KB : K.In (hidT s.heap H) := fun b o e => by
    refine hidT_get (KX b o e) ?_
    cases q : H b with
    | none => rfl
    | some u =>
      have := (off b o (KX b o e) (by rw [q]; exact fun z => by cases z)).2
      rw [this] at e; cases e
  have md : Mod K mg (hidT s.heap H) := ⟨KB, keepD gl, ⟨mb, keepD bl, bb⟩, let ⟨mc, n1, n2⟩ := lim; ⟨mc, keepD n1, n2⟩⟩
  have e0 : Env0 P w K mg (hidT s.heap H) callerA [] s H := ⟨rfl, md, fun b o e => of_hidT e, Nat.le_of_eq (hidT_size _ _), trivial, fun b z => (nomatch z), hok, .of_eq gn⟩
  have ai : ArgIn K mg H H [] [V.ref a] [M.fz (.list (ns.map .int))] := by
    refine ⟨rfl, fun i m e => ?_, (fun i z => nomatch z), (fun i j b z => nomatch z)⟩
    cases i with
    | zero => cases e; exact ⟨_, rfl, dt, fun z => by cases z⟩
    | succ i => simp at e
  refine codeAny_mono ((F _ KB (keepD gl)).run callerA [] s H H ⟨[.ref a], []⟩ [.ref a] [.ref a] _ _ _ room rfl e0 (bind s (.ref a)) (.cons rfl .nil) (Le.refl H) ai h) fun r s' q => ?_
  cases r with
  | error e =>
    obtain ⟨_, _, _, _, _, _, _, _, _, _, _, _, ex, F', bms, _, _, z⟩ := q
    exact z.elim
  | ok fl =>
    cases fl with
    | next => exact False.elim q
    | brk => exact False.elim q
    | cont => exact False.elim q
    | ret u =>
      obtain ⟨v, H', os, bare, un, hok', rv, F', m, bms, _, rm, _, em⟩ := q
      have em : m = .fz (.bool true) := em
      subst em
      have rm : Dt K F' v (.bool true) := rm
      cases bool_of rm
      obtain rfl : u = Value.bool true := rv
      refine ⟨rfl, OldK.of_keep fun b o e => ?_, os, bare⟩
      cases q : H b with
      | none => exact un.keep b o e q (fun z => nomatch z) (fun z => nomatch z)
      | some y =>
        obtain ⟨ob, xs, rfl⟩ := frozen b y q
        obtain ⟨e1, _⟩ := hok b _ q
        obtain ⟨e2, _⟩ := hok' b _ (un.frzs b ob _ q)
        rw [e] at e1
        cases e1
        exact e2
/-- the script wherever it lies -/
theorem law_runs (KX : K.In s.heap) (gl : s.heap.Ns mainGlobals mg) (bl : s.heap.Ns builtinsNs mb) (bb : ∀ x : Str, x ≠ "__name__" → mb x = bootBuiltins x) (lim : s.heap.NoLimit) (gn : s.gens = #[]) (room : Room k callerA)
    (ha : s.heap.get? a = some { cls := .type "list", data := .seq vs.toArray }) (iar : PyProof.Rows.IntsAre vs ns) (len : ns.length ≤ sizeLine)
    (F : ∀ base : Heap, K.In base → base.Ns mainGlobals mg → FnV P w K mg base k fa fd [x] [] sp) (bind : ∀ (s : Shared) (u : Value), BindsTo s fd ⟨[u], []⟩ [(x, u)]) (h : LawV sp ns) :
    codeAny (model P w) callerA (.call (.ref fa) ⟨[.ref a], []⟩) (fun r s' => r = .ok (.ret (.bool true)) ∧ OldK s.heap s'.heap ∧ s'.os = s.os ∧ AllBare s'.gens) s := by
  have rv : Vals (ns.map V.int) vs := vals_ints iar
  have lv := iar.length
  cases hk : K.lookup a with
  | some o =>
    have e := KX a o hk
    rw [ha] at e
    cases e
    exact law_core KX gl bl bb lim gn room F bind h (fun _ => none) (fun b u z => by cases z) (.lst (.inr ⟨vs, _, hk, by rw [lv]; exact len, rv⟩) (DtAll.ints ns)) (fun b u z => by cases z) fun b o e z => absurd rfl z
  | none =>
    have at_a : ∀ {b u}, (if b = a then some (HO.frz { cls := .type "list", data := .seq vs.toArray } (.lst (ns.map V.int))) else none) = some u → b = a ∧ u = .frz { cls := .type "list", data := .seq vs.toArray } (.lst (ns.map V.int)) := fun {b u} z => by
      by_cases hb : b = a
      · rw [if_pos hb] at z; cases z; exact ⟨hb, rfl⟩
      · rw [if_neg hb] at z; cases z
    refine law_core KX gl bl bb lim gn room F bind h (fun b => if b = a then some (.frz { cls := .type "list", data := .seq vs.toArray } (.lst (ns.map V.int))) else none) (fun b u z => ⟨_, _, (at_a z).2⟩) (.lst (.inl (.inr ⟨_, if_pos rfl⟩)) (DtAll.ints ns)) (fun b u z => ?_) fun b o e z => ?_
    · obtain ⟨rfl, rfl⟩ := at_a z
      exact ⟨ha, by rw [List.length_map]; exact len, vs, _, rv, ha⟩
    · have hb : b = a := by
        by_cases hb : b = a
        · exact hb
        · exact absurd (if_neg hb) z
      subst hb
      rw [ha] at e
      cases e
      exact ⟨(fun es ep q => by cases q), hk⟩
end
/-- the goal that k_head leaves (case hc), from the law's promise by value -/
theorem walk_val {l : PySem.W.OpenLaw} {n k : Nat} {q : Program} {loose : List Str} {XP : (Str → Option Value) → Heap → Prop} {YP : World → Heap → Prop} {d : DefRec} {K : Params → PySem.W.Frag} {sp : SpV} {x : Str}
    (hn : l.most = some n) (hz : n ≤ sizeLine) (hdf : d.params.defaults = []) (room : Room k callerA) (hY : ∀ (w : World) (h : Heap), YP w h → (K w.params).In h)
    (F : ∀ (w : World) (mg : Str → Option Value) (fa : Addr) (h : Heap), (K w.params).In h → h.Ns mainGlobals mg → mg d.name = some (.ref fa) → ∃ fd : FuncData, (∀ (s : Shared) (u : Value), BindsTo s fd ⟨[u], []⟩ [(x, u)]) ∧
      ∀ base : Heap, (K w.params).In base → base.Ns mainGlobals mg → FnV l.prog w (K w.params) mg base k fa fd [x] [] sp)
    (law : ∀ ns : List Int, ns.length ≤ n → LawV sp ns) : PySem.W.WalkO q loose XP YP l.row.toRowW d [] (fun f vs => PySem.call f vs) := by
  refine Att.attach_call hn hdf fun w s0 s1 mg mb fa o pm cd doc a vs ns Gr Y ho hd hcd hmg hobj iar len hg => ?_
  obtain ⟨fd, hb, hF⟩ := F w mg fa _ (hY w _ Y) Gr.T.g hmg
  exact law_runs (hY w _ Y) Gr.T.g Gr.T.b Gr.T.builtins Gr.T.nolimit hg room hobj iar (Nat.le_trans len hz) hF hb (law ns len)
end VL

/-! VlR: xs[b:] of a list, b a bool. -/
namespace VL
open PySem PySem.Spec PyProof.Rows L2
theorem part_bool {M : Model} {A : Around} {E : Value → Shared → Prop} {s : Shared} {b : Bool} {Q : Value → Shared → Prop} (h : Q (rawPart (some (b.toNat : Int))) s) : wpAny M A (listPart (.bool b)) Q E s := by
  unfold listPart
  rw [if_neg (show ¬ ((Value.bool b == Value.none) = true) from Bool.false_ne_true)]
  refine wpAny_bind (wpAny_specialOf (T := "bool") (PySem.typeIs_bool s b) PySem.F.slot_bool_index.lookup ?_)
  simp only [Option.isNone_some, Bool.false_eq_true, if_false]
  cases b
  · exact wpAny_bind (wpAny_of_eq (a := 0) rfl (wpAny_pure h))
  · exact wpAny_bind (wpAny_of_eq (a := 1) rfl (wpAny_pure h))
/-- l[b:] at the machine -/
theorem item_boolcut {prog : Program} {w : World} {A : Around} {E : Value → Shared → Prop} {s : Shared} {l sl : Addr} {items : Array Value} {b : Bool} {Q : Value → Shared → Prop} (hl : s.heap.IsList l items) (hs : s.heap.IsSliceOf sl (.bool b) .none .none) (hz : items.size ≤ sizeLine)
    (h : Q (.ref s.heap.objs.size) { s with heap := s.heap.push { cls := .type "list", data := .seq (slicePick items (some (b.toNat : Int)) none none) } }) : wpAny (model prog w) A (getItem (.ref l) (.ref sl)) Q E s := by
  obtain ⟨o, ho, hc, ne, hd⟩ := id hl
  obtain ⟨so, hso, hsc, hsd⟩ := id hs
  have ty : s.TypeIs (.ref sl) "slice" := ⟨so, hso, hsc⟩
  unfold getItem
  try with_reducible refine wpAny_holding ?_
  first | refine wpAny_bind (wpAny_pure ?_) | skip
  refine wpAny_bind (wpAny_sequenceKey hl.typeIs (by decide) ?_)
  refine wpAny_bind (wpAny_callSpecial?_slot (name := Str.ofString "__getitem__") hl.typeIs slot_list_getitem (wpAny_call_entry slot_list_getitem hl.typeIs entry_list_getitem ?_ (args_list_getitem _ _)))
  show wpAny _ _ (Builtin.List.listSubscript? (.ref sl) >>= _) _ _ s
  unfold Builtin.List.listSubscript?
  refine wpAny_bind (wpAny_bind (wpAny_specialOf ty slice_no_index ?_))
  simp only [Option.isNone_none, if_true]
  refine wpAny_pure ?_
  show wpAny _ _ (typeOf (.ref sl) >>= _) _ _ s
  refine wpAny_bind (wpAny_typeOf ty ?_)
  rw [if_neg (by decide), listSliceParts_eq]
  refine wpAny_bind (wpAny_bind (wpAny_field hso hsd (x := .none) rfl (wpAny_bind (wpAny_listPart .none ?_))))
  rw [if_neg (show ¬ ((rawPart none == rawInt 0) = true) from Bool.false_ne_true)]
  refine wpAny_bind (wpAny_field hso hsd (x := .bool b) rfl (wpAny_bind (part_bool ?_)))
  refine wpAny_bind (wpAny_field hso hsd (x := .none) rfl (wpAny_bind (wpAny_listPart .none (wpAny_pure ?_))))
  refine wpAny_bind (m := Builtin.List.listItems (.ref l)) ?_
  unfold Builtin.List.listItems
  refine wpAny_bind (wpAny_seqItems ho hd (wpAny_pure ?_))
  refine wpAny_bind (wpAny_of_eq (sliceIndices_raw (some (b.toNat : Int)) none none items.size (by simp)) ?_)
  exact wpAny_bind (wpAny_newObj_type (wpAny_pure ⟨_, rfl, wpAny_pure h⟩) (Nat.le_trans (slicePick_size_le items _ none none) hz))
def fSlB (fe fb : FE) : FE := fun env Q W => fe env (fun r e1 => bindP (lkR e1 r) fun x => bindP (dOf x.1) fun d => fTB fb x.2 (fun b e2 => match d with
  | .list xs => Q (.val (.lst (cutD xs (some (b.toNat : Int)) none))) e2
  | _ => False) W) W
section
variable {X : Cx} {e lo : Expr} {fe fb : FE} {pos p2 : Pos}
theorem pe_slB {te tb : TE} (he : PE X e te) (hb : PE X lo tb) : PE X (.Subscript e (.Slice (some lo) none none p2) pos) (fun σ H Q => te σ H fun x H1 => tb σ H1 fun y H2 => ∃ a xs b, x = .ref a ∧ y = .bl b ∧ SqL X.K H2 a xs ∧ ∀ p, H2 p = none → Q (.ref p) (upd H2 p (.lst (cutV xs (some (b.toNat : Int)) none)))) := by
  refine ⟨fun pins s σ H Q I h => Subscript_ (thn (he.run pins s σ H _ I h) fun v s1 ⟨x, H1, I1, r1, q1⟩ => ?_)⟩
  refine wpAny_Slice ?_
  rw [evalPart_some]
  refine thn (hb.run pins s1 σ H1 _ I1 q1) fun u s2 ⟨y, H2, I2, r2, a, xs, b, ex, ey, hx, q⟩ => ?_
  subst ex ey
  cases r1
  obtain rfl : u = Value.bool b := r2
  rw [evalPart_none]
  refine wpAny_pure (wpAny_pure ?_)
  have I4 : Inv X pins σ H2 { s2 with heap := s2.heap.push { cls := .type "slice", data := .fields #[.bool b, .none, .none] } } := I2.kept (t' := s2.toks) fun c ob q => Heap.get?_push_of_some _ q
  obtain ⟨us, rv, pl, hz⟩ := I4.list hx
  show wpAny (model X.prog X.w) X.A (subscriptTail e (.Slice (some lo) none none p2) (.ref a) (.ref s2.heap.objs.size)) (EP X pins σ Q) X.xe { s2 with heap := s2.heap.push { cls := .type "slice", data := .fields #[.bool b, .none, .none] } }
  refine tail_any (ops := [.ref s2.heap.objs.size, .ref a]) pl.isList.typeIs PySem.slot_list_getitem.lookup ?_ (by with_unfolding_all rfl)
  have hsz : us.toArray.size ≤ sizeLine := by rw [List.size_toArray, ← rv.length]; exact hz
  refine item_boolcut pl.isList (Heap.IsSliceOf.new _ _ _ _) hsz ?_
  rw [slicePick_cut, ← rv.length]
  have len : (cutV xs (some (b.toNat : Int)) none).length ≤ sizeLine := Nat.le_trans (cutV_length xs _ _) hz
  exact ⟨.ref _, _, I4.laid (t' := s2.toks) (o := .lst (cutV xs (some (b.toNat : Int)) none)) (fun c ob z => Heap.get?_push_of_some _ z) (Nat.le_refl _) ⟨len, _, 0, (rv.drop _).take _, Heap.get?_push_size _ rfl⟩, rfl, q _ (I4.hok.fresh (Nat.le_refl _))⟩
theorem ve_slB (he : VE X e fe) (hb : VE X lo fb) : VE X (.Subscript e (.Slice (some lo) none none p2) pos) (fSlB fe fb) := fun G W t => PE.imp (pe_slB (he G W t) (hb G W t)) fun σ H Qh hw => by
  obtain ⟨F, env, Q, ok, hf, q⟩ := hw
  refine ⟨F, env, _, ok, hf, fun r e1 v F1 H1 ok1 l1 rr hq => ?_⟩
  obtain ⟨⟨x, e2⟩, ex, hq⟩ := bindP_of hq
  obtain ⟨d, ed, hq⟩ := bindP_of hq
  obtain ⟨F2, ok2, l2, ax⟩ := rr.leak ok1 ex
  refine lift_tb' ok2 hq fun b e3 F3 H3 ok3 l3 q3 => ?_
  cases x with
  | g x => cases ed
  | s x => cases ed
  | d d' =>
    cases ed
    cases d with
    | list xs =>
      cases ax with
      | lst h1 h2 =>
        refine ⟨_, _, b, rfl, rfl, sqL_le (l3.trans ok3.sub) h1.sqL, fun p hp => ?_⟩
        obtain ⟨ok4, fr⟩ := ok3.newLst hp ((h2.le l3).cut (some (b.toNat : Int)) none)
        exact q (.val _) _ _ _ _ ok4 (l1.trans (l2.trans l3)) fr q3
    | _ => exact q3.elim
end
end VL

/-! VlT: rules by which a reading is gone through, backwards (printed by gent.py). -/
namespace VL
open PySem PySem.Spec PyProof.Rows L2
section
variable {env : Env} {Q : R → Env → Prop} {Qb : Bool → Env → Prop} {Qa : List Ar → Env → Prop} {Qd : List D → Env → Prop} {Qo : Option Int → Env → Prop} {Qr : Int → Int → Env → Prop} {Qi : Int → Env → Prop} {W : KX} {fe fa fb fc fk : FE} {xa : FA} {ta tb : FT} {g h' body : FS} {tg : FG} {fl fh : FO} {fr : FRg} {w : FW} {i j : Nat} {d e : D} {ds xs ys : List D} {gd gd' : List D → (M → Prop) → Prop} {c : Int → Int → Prop} {f : Int → Int → Int} {sp : SpV} {bs vs : List Nat} {x : Str} {gs : FGs} {n : Nat} {k : Env → Prop} {nx : Env → Prop} {rt : M → Env → Prop} {bk ct : Env → Prop} {a b : Int} {km : M → Prop} {s t : Str} {p q : Bool} {A B : Prop} {m : M} {sl : Slots} {as : List Ar} {ms : List M} {y : Ar}
/-! steps with what stands in hand -/
def putM (env : Env) (i : Nat) (m : M) (k : Env → Prop) : Prop := k { env with sl := env.sl.set i (some m) }
def pkK (r : R) (k : Ar → Prop) : Prop := bindP (pkR r) k
def lkK (r : R) (env : Env) (k : Ar → Env → Prop) : Prop := bindP (lkR env r) fun x => k x.1 x.2
def dK (a : Ar) (k : D → Prop) : Prop := bindP (dOf a) k
def pksK (env : Env) (as : List Ar) (k : List D → Prop) : Prop := bindP (pkAs env as) k
def dosK (as : List Ar) (k : List D → Prop) : Prop := bindP (dOfs as) k
def amK (env : Env) (as : List Ar) (k : List M → Prop) : Prop := bindP (arMs env as) k
def sqK (a : Ar) (k : List D → Prop) : Prop := bindP (seqOf a) k
def loK (a : Ar) (k : List D → Prop) : Prop := bindP (lotOf a) k
def rtK (r : R) (env : Env) (k : M → Env → Prop) : Prop := bindP (rtR env r) fun x => k x.1 x.2
def boK (sl : Slots) (is : List Nat) (k : List M → Prop) : Prop := bindP (borOf sl is) k
def laK (env : Env) (i : Nat) (k : List D → Prop) : Prop := bindP (lstAt env i) k
def owK (r : R) (env : Env) (k : M → Env → Prop) : Prop := bindP (ownR env r) fun x => k x.1 x.2
def ixK (xs : List D) (a : Int) (k : D → Prop) : Prop := bindP (atI xs a) k
def stK (i : Nat) (r : R) (env : Env) (k : Env → Prop) : Prop := bindP (stR i r env) k
def peK (env : Env) (is : List Nat) (ms : List M) (k : Env → Prop) : Prop := k (putE env is ms)
def liK (l : List D) (k : List D → Prop) : Prop := k l
def caT (r : R) (k : Bool → Prop) : Prop := match r with
  | .val (.fz (.bool b)) => k b
  | _ => False
def caN (r : R) (k : Int → Prop) : Prop := match r with
  | .val (.fz (.int b)) => k b
  | _ => False
def caL (d : D) (k : List D → Prop) : Prop := match d with
  | .list xs => k xs
  | _ => False
theorem k_pk1 {k : Ar → Prop} (h : k (.d d)) : pkK (.val (.fz d)) k := h
theorem k_pk2 {k : Ar → Prop} (h : k (.d (.list ds))) : pkK (.val (.lst ds)) k := h
theorem k_pk3 {k : Ar → Prop} (h : k (.s i)) : pkK (.slot i) k := h
theorem k_lk1 {k : Ar → Env → Prop} (h : k (.d d) env) : lkK (.val (.fz d)) env k := h
theorem k_lk2 {k : Ar → Env → Prop} (h : k (.d (.list ds)) env) : lkK (.val (.lst ds)) env k := h
theorem k_lk3 {k : Ar → Env → Prop} (e : env.sl[i]? = some (some (.lst ds))) (h : putM env i (.fz (.list ds)) fun e1 => k (.d (.list ds)) e1) : lkK (.slot i) env k := by unfold lkK lkR; simp only [e]; exact h
theorem k_lk4 {k : Ar → Env → Prop} (h : k (.g x) env) : lkK (.val (.gl x)) env k := h
theorem k_d {k : D → Prop} (h : k d) : dK (.d d) k := h
theorem k_ps0 {k : List D → Prop} (h : k []) : pksK env [] k := h
theorem k_ps1 {k : List D → Prop} (h : pksK env as fun ds => k (d :: ds)) : pksK env (.d d :: as) k := by
  have h : bindP (pkAs env as) fun ds => k (d :: ds) := h
  obtain ⟨ds, e, h⟩ := bindP_of h
  show bindP (match pkAs env as with | some ds => some (d :: ds) | none => none) k
  rw [e]; exact h
theorem k_ps2 {k : List D → Prop} (e : env.sl[i]? = some (some m)) (e2 : toD m = some d) (h : pksK env as fun ds => k (d :: ds)) : pksK env (.s i :: as) k := by
  have h : bindP (pkAs env as) fun ds => k (d :: ds) := h
  obtain ⟨ds, e3, h⟩ := bindP_of h
  show bindP (match (match env.sl[i]? with | some (some m) => toD m | _ => none) with | some d => (match pkAs env as with | some ds => some (d :: ds) | none => none) | none => none) k
  simp only [e, e2, e3]; exact h
theorem k_do0 {k : List D → Prop} (h : k []) : dosK [] k := h
theorem k_do1 {k : List D → Prop} (h : dosK as fun ds => k (d :: ds)) : dosK (.d d :: as) k := by
  have h : bindP (dOfs as) fun ds => k (d :: ds) := h
  obtain ⟨ds, e, h⟩ := bindP_of h
  show bindP (match dOfs as with | some ds => some (d :: ds) | none => none) k
  rw [e]; exact h
theorem dOfs_app : ∀ (ds : List D) (as : List Ar), dOfs (ds.map .d ++ as) = (dOfs as).map (ds ++ ·)
  | [], as => by show dOfs as = _; cases dOfs as <;> rfl
  | d :: ds, as => by
    show (match dOfs (ds.map .d ++ as) with | some es => some (d :: es) | none => none) = _
    rw [dOfs_app ds as]
    cases dOfs as <;> rfl
theorem k_do2 {k : List D → Prop} (h : dosK as fun es => k (ds ++ es)) : dosK (ds.map .d ++ as) k := by
  have h : bindP (dOfs as) fun es => k (ds ++ es) := h
  obtain ⟨es, e, h⟩ := bindP_of h
  unfold dosK
  rw [dOfs_app, e]; exact h
theorem k_am0 {k : List M → Prop} (h : k []) : amK env [] k := h
theorem k_am1 {k : List M → Prop} (h : amK env as fun ms => k (.fz d :: ms)) : amK env (.d d :: as) k := by
  have h : bindP (arMs env as) fun ms => k (.fz d :: ms) := h
  obtain ⟨ms, e, h⟩ := bindP_of h
  show bindP (match arMs env as with | some ms => some (.fz d :: ms) | none => none) k
  rw [e]; exact h
theorem k_am2 {k : List M → Prop} (e : env.sl[i]? = some (some m)) (o : isOwn m = true) (h : amK env as fun ms => k (m :: ms)) : amK env (.s i :: as) k := by
  have h : bindP (arMs env as) fun ms => k (m :: ms) := h
  obtain ⟨ms, e3, h⟩ := bindP_of h
  show bindP (match (match env.sl[i]? with | some (some m) => (if isOwn m = true then some m else none) | _ => none) with | some m => (match arMs env as with | some ms => some (m :: ms) | none => none) | none => none) k
  simp only [e, if_pos o, e3]; exact h
theorem k_am3 {k : List M → Prop} (h : amK env as fun ms => k (.gl x :: ms)) : amK env (.g x :: as) k := by
  have h : bindP (arMs env as) fun ms => k (.gl x :: ms) := h
  obtain ⟨ms, e, h⟩ := bindP_of h
  show bindP (match arMs env as with | some ms => some (.gl x :: ms) | none => none) k
  rw [e]; exact h
theorem k_sq1 {k : List D → Prop} (h : k ds) : sqK (.d (.list ds)) k := h
theorem k_sq2 {k : List D → Prop} (h : k ds) : sqK (.d (.tuple ds)) k := h
theorem k_lo1 {k : List D → Prop} (h : k ds) : loK (.d (.list ds)) k := h
theorem k_lo2 {k : List D → Prop} (h : k ds) : loK (.d (.tuple ds)) k := h
theorem k_rt1 {k : M → Env → Prop} (h : k m env) : rtK (.val m) env k := h
theorem k_rt2 {k : M → Env → Prop} (h1 : env.bor.contains j = false) (e : env.sl[j]? = some (some m)) {sl2 : Slots} (e2 : env.sl.set j none = sl2) (h : k m ⟨sl2, env.bor⟩) : rtK (.slot j) env k := by
  subst e2
  have h1 : ¬ j ∈ env.bor := by simpa using h1
  show bindP (if j ∈ env.bor then none else match env.sl[j]? with | some (some m) => some (m, ({ env with sl := env.sl.set j none } : Env)) | _ => none) fun x => k x.1 x.2
  rw [if_neg h1]
  simp only [e]
  exact h
theorem k_bo0 {k : List M → Prop} (h : k []) : boK sl [] k := h
theorem k_bo1 {k : List M → Prop} {is : List Nat} (e : sl[i]? = some (some m)) (o : isOwn m = true) (h : boK sl is fun ms => k (m :: ms)) : boK sl (i :: is) k := by
  have h : bindP (borOf sl is) fun ms => k (m :: ms) := h
  obtain ⟨ms, e3, h⟩ := bindP_of h
  show bindP (match sl[i]? with | some (some m) => (if isOwn m = true then (match borOf sl is with | some ms => some (m :: ms) | none => none) else none) | _ => none) k
  simp only [e, if_pos o, e3]; exact h
theorem k_la {k : List D → Prop} (e : env.sl[i]? = some (some (.lst ds))) (h : k ds) : laK env i k := by unfold laK lstAt; rw [e]; exact h
theorem k_ow1 {k : M → Env → Prop} (h : k m env) : owK (.val m) env k := h
theorem k_ow2 {k : M → Env → Prop} (e : env.sl[j]? = some (some (.lst ds))) (h : putM env j (.fz (.list ds)) fun e1 => k (.fz (.list ds)) e1) : owK (.slot j) env k := by unfold owK ownR lkR; simp only [e]; exact h
theorem k_ix0 {k : D → Prop} {x0 : D} (h : k x0) : ixK (x0 :: xs) 0 k := by
  unfold ixK
  rw [show atI (x0 :: xs) 0 = some x0 from by
    have : (0 : Int) < (xs.length : Int) + 1 := by omega
    simp [atI, ixN, this]]
  exact h
theorem k_ix1 {k : D → Prop} {x0 x1 : D} (h : k x1) : ixK (x0 :: x1 :: xs) 1 k := by
  unfold ixK
  rw [show atI (x0 :: x1 :: xs) 1 = some x1 from by
    have : (1 : Int) < (xs.length : Int) + 1 + 1 := by omega
    simp [atI, ixN, this]]
  exact h
theorem k_ix2 {k : D → Prop} {x0 x1 x2 : D} (h : k x2) : ixK (x0 :: x1 :: x2 :: xs) 2 k := by
  unfold ixK
  rw [show atI (x0 :: x1 :: x2 :: xs) 2 = some x2 from by
    have : (2 : Int) < (xs.length : Int) + 1 + 1 + 1 := by omega
    simp [atI, ixN, this]]
  exact h
theorem k_ix3 {k : D → Prop} {x0 x1 x2 x3 : D} (h : k x3) : ixK (x0 :: x1 :: x2 :: x3 :: xs) 3 k := by
  unfold ixK
  rw [show atI (x0 :: x1 :: x2 :: x3 :: xs) 3 = some x3 from by
    have : (3 : Int) < (xs.length : Int) + 1 + 1 + 1 + 1 := by omega
    simp [atI, ixN, this]]
  exact h
theorem k_pe0 {ms : List M} (h : k env) : peK env [] ms k := by cases ms <;> exact h
theorem k_pe1 {is : List Nat} (h : putM env i m fun e1 => peK e1 is ms k) : peK env (i :: is) (m :: ms) k := h
theorem k_li {k : List D → Prop} (e : ds = xs) (h : k xs) : liK ds k := by subst e; exact h
theorem k_peS {is : List Nat} (e : slotsOf as = is) (h : peK env is ms k) : peK env (slotsOf as) ms k := by subst e; exact h
theorem e_caT {k : Bool → Prop} (h : k p) : caT (.val (.fz (.bool p))) k := h
theorem e_caN {k : Int → Prop} (h : k a) : caN (.val (.fz (.int a))) k := h
theorem e_caL {k : List D → Prop} (h : k xs) : caL (.list xs) k := h
theorem e_putM {b : List Nat} {sl2 : Slots} (e : sl.set i (some m) = sl2) (h : k ⟨sl2, b⟩) : putM ⟨sl, b⟩ i m k := by unfold putM; rw [e]; exact h
theorem e_stK (h1 : Nat.blt i env.sl.length = true) (h2 : env.bor.contains i = false) (h : putM env i m k) : stK i (.val m) env k := by unfold stK stR; rw [if_pos ⟨by simpa using h1, by simpa using h2⟩]; exact h
theorem e_stO (h1 : Nat.blt i env.sl.length = true) (h2 : env.bor.contains i = false) (e : env.sl[j]? = some (some (.lst ds))) (h : putM env j (.fz (.list ds)) fun e1 => putM e1 i (.fz (.list ds)) k) : stK i (.slot j) env k := by unfold stK stR; rw [if_pos ⟨by simpa using h1, by simpa using h2⟩]; simp only [lkR, e]; exact h
theorem e_var (e : env.sl[i]? = some (some (.fz d))) (h : Q (.val (.fz d)) env) : fVar i env Q W := by unfold fVar; rw [e]; exact h
theorem e_varO (e : env.sl[i]? = some (some m)) (o : isOwn m = true) (h : Q (.slot i) env) : fVar i env Q W := by unfold fVar; rw [e]; show (if isOwn m = true then _ else _); rw [if_pos o]; exact h
theorem e_c (h : Q (.val (.fz d)) env) : fC d env Q W := h
theorem e_gl (h : Q (.val (.gl x)) env) : fGl x env Q W := h
theorem e_nil (h : Qa [] env) : aNil env Qa W := h
theorem e_p (h : fe env (fun r e1 => pkK r fun y => xa e1 (fun ys e2 => Qa (y :: ys) e2) W) W) : aP fe xa env Qa W := h
theorem e_l (h : fe env (fun r e1 => lkK r e1 fun y e2 => xa e2 (fun ys e3 => Qa (y :: ys) e3) W) W) : aL fe xa env Qa W := h
theorem e_s (h : fe env (fun r e1 => lkK r e1 fun y e2 => loK y fun ds => xa e2 (fun as e3 => Qa (ds.map .d ++ as) e3) W) W) : aS fe xa env Qa W := h
theorem e_tup (h : xa env (fun as e1 => dosK as fun ds => ds.length ≤ 16777216 ∧ Q (.val (.fz (.tuple ds))) e1) W) : fTup xa env Q W := h
theorem e_lst (h : xa env (fun as e1 => dosK as fun ds => ds.length ≤ 16777216 ∧ Q (.val (.lst ds)) e1) W) : fLst xa env Q W := h
theorem e_op (h : xa env (fun as e1 => pksK e1 as fun ds => gd ds fun m => Q (.val m) e1) W) : fOp gd xa env Q W := h
theorem e_tb (h : fe env (fun r e1 => caT r fun k => Qb k e1) W) : fTB fe env Qb W := h
theorem e_tr (h : fe env (fun r e1 => pkK r fun x => bindP (pkA e1 x) fun d => bindP (truD d) fun k => Qb k e1) W) : fTr fe env Qb W := h
theorem e_and (h : ta env (fun k e1 => if k = true then tb e1 Qb W else Qb false e1) W) : fAnd ta tb env Qb W := h
theorem e_or (h : ta env (fun k e1 => if k = true then Qb true e1 else tb e1 Qb W) W) : fOr ta tb env Qb W := h
theorem e_not (h : ta env (fun k e1 => Qb (!k) e1) W) : fNot ta env Qb W := h
theorem e_andV (h : fTB fa env (fun k e1 => if k = true then fb e1 Q W else Q (.val (.fz (.bool false))) e1) W) : fAndV fa fb env Q W := h
theorem e_orV (h : fTB fa env (fun k e1 => if k = true then Q (.val (.fz (.bool true))) e1 else fb e1 Q W) W) : fOrV fa fb env Q W := h
theorem e_notV (h : fTB fa env (fun k e1 => Q (.val (.fz (.bool (!k)))) e1) W) : fNotV fa env Q W := h
theorem e_fif (h : ta env (fun k e1 => if k = true then fa e1 Q W else fb e1 Q W) W) : fIf ta fa fb env Q W := h
theorem e_I (h : fe env (fun r e1 => caN r fun i => Qi i e1) W) : fI fe env Qi W := h
theorem e_rg1 (h : fI fa env (fun n e1 => Qr 0 n e1) W) : fRg1 fa env Qr W := h
theorem e_rg2 (h : fI fa env (fun i e1 => fI fb e1 (fun j e2 => Qr i j e2) W) W) : fRg2 fa fb env Qr W := h
theorem e_tupRg (h : fr env (fun a b e1 => RgFit a b ∧ Q (.val (.fz (.tuple (rgD a b)))) e1) W) : fTupRg fr env Q W := h
theorem e_lstRg (h : fr env (fun a b e1 => RgFit a b ∧ Q (.val (.lst (rgD a b))) e1) W) : fLstRg fr env Q W := h
theorem e_oN (h : Qo none env) : oNone env Qo W := h
theorem e_oS (h : fI fe env (fun i e1 => Qo (some i) e1) W) : oSome fe env Qo W := h
theorem e_sl (h : fe env (fun r e1 => pkK r fun x => fl e1 (fun lo e2 => fh e2 (fun hi e3 => bindP (pkA e3 x) fun d => gSl lo hi d fun m => Q (.val m) e3) W) W) W) : fSl fe fl fh env Q W := h
theorem e_slB (h : fe env (fun r e1 => lkK r e1 fun x e2 => dK x fun d => fTB fb e2 (fun b e3 => caL d fun xs => Q (.val (.lst (cutD xs (some (b.toNat : Int)) none))) e3) W) W) : fSlB fe fb env Q W := h
theorem e_call (h : xa env (fun as e1 => amK e1 as fun ms => ownPos 0 ms = bs ∧ (slotsOf as).Nodup ∧ sp ms (fun m bms => peK e1 (slotsOf as) bms fun e2 => Q (.val m) e2) fun ex bms => W ex (putE e1 (slotsOf as) bms)) W) : fCall sp bs xa env Q W := h
def nodupB : List Nat → Bool
  | [] => true
  | x :: l => !l.contains x && nodupB l
theorem nodupB_of : ∀ {l : List Nat}, nodupB l = true → l.Nodup
  | [], _ => .nil
  | x :: l, h => by
    have h : (!l.contains x && nodupB l) = true := h
    simp only [Bool.and_eq_true, Bool.not_eq_true'] at h
    exact List.nodup_cons.mpr ⟨by simpa using h.1, nodupB_of h.2⟩
theorem e_callA {is js : List Nat} (h1 : ownPos 0 ms = bs) (e : is = js) (h2 : nodupB js = true) (h : A) : ownPos 0 ms = bs ∧ is.Nodup ∧ A := by subst e; exact ⟨h1, nodupB_of h2, h⟩
theorem e_app (h : laK env i fun _ => fe env (fun r e1 => lkK r e1 fun x e2 => dK x fun d => laK e2 i fun ds => ds.length < 16777216 ∧ liK (ds ++ [d]) fun l => putM e2 i (.lst l) fun e3 => Q (.val (.fz .none)) e3) W) : fApp i fe env Q W := h
theorem e_pop (h : laK env i fun ds => bindP ds.getLast? fun d => putM env i (.lst ds.dropLast) fun e1 => Q (.val (.fz d)) e1) : fPop i env Q W := h
theorem e_popAt (h : laK env i fun _ => fI fe env (fun k e1 => laK e1 i fun ds => bindP (ixN ds.length k) fun j => bindP ds[j]? fun d => ds.length ≤ 16777216 ∧ putM e1 i (.lst (ds.eraseIdx j)) fun e2 => Q (.val (.fz d)) e2) W) : fPopAt i fe env Q W := h
theorem e_next (h : nx env) : sNext env ⟨nx, rt, bk, ct⟩ W := h
theorem e_brk (h : bk env) : sBrk env ⟨nx, rt, bk, ct⟩ W := h
theorem e_cnt (h : ct env) : sCnt env ⟨nx, rt, bk, ct⟩ W := h
theorem e_seq (h : g env ⟨fun e1 => h' e1 ⟨nx, rt, bk, ct⟩ W, rt, bk, ct⟩ W) : sSeq g h' env ⟨nx, rt, bk, ct⟩ W := h
theorem e_drop (h : fe env (fun _ e1 => nx e1) W) : sDrop fe env ⟨nx, rt, bk, ct⟩ W := h
theorem e_ret (h : fe env (fun r e1 => rtK r e1 rt) W) : sRet fe env ⟨nx, rt, bk, ct⟩ W := h
theorem e_retN (h : rt (.fz .none) env) : sRetN env ⟨nx, rt, bk, ct⟩ W := h
theorem e_sif (h : ta env (fun b e1 => if b = true then g e1 ⟨nx, rt, bk, ct⟩ W else h' e1 ⟨nx, rt, bk, ct⟩ W) W) : sIf ta g h' env ⟨nx, rt, bk, ct⟩ W := h
theorem e_set (h : fe env (fun r e1 => stK i r e1 nx) W) : sSet i fe env ⟨nx, rt, bk, ct⟩ W := h
theorem e_stup (h : fe env (fun r e1 => lkK r e1 fun x e2 => dK x fun d => tg d e2 nx) W) : sTup fe tg env ⟨nx, rt, bk, ct⟩ W := h
theorem e_setIx (h : fe env (fun r e1 => lkK r e1 fun x e2 => dK x fun d => laK e2 i fun _ => fI fk e2 (fun k e3 => laK e3 i fun ds => bindP (ixN ds.length k) fun j => liK (ds.set j d) fun l => putM e3 i (.lst l) nx) W) W) : sSetIx i fk fe env ⟨nx, rt, bk, ct⟩ W := h
theorem e_augIx (h : laK env i fun _ => fI fk env (fun k e1 => laK e1 i fun ds => bindP (ixN ds.length k) fun j => bindP (ds[j]?.bind intOf) fun a => fI fe e1 (fun b e2 => c a b ∧ laK e2 i fun es => ixN es.length k = some j ∧ liK (es.set j (.int (f a b))) fun l => putM e2 i (.lst l) nx) W) W) : sAugIx i c f fk fe env ⟨nx, rt, bk, ct⟩ W := h
theorem e_aug (h : bindP (intAt env i) fun a => fI fe env (fun b e1 => c a b ∧ stK i (.val (.fz (.int (f a b)))) e1 nx) W) : sAug i c f fe env ⟨nx, rt, bk, ct⟩ W := h
theorem e_par (h : fa env (fun r1 e1 => owK r1 e1 fun x e2 => fb e2 (fun r2 e3 => owK r2 e3 fun y e4 => (i < e4.sl.length ∧ i ∉ e4.bor ∧ j < e4.sl.length ∧ j ∉ e4.bor) ∧ putM e4 i x fun e5 => putM e5 j y nx) W) W) : sPar i j fa fb env ⟨nx, rt, bk, ct⟩ W := h
theorem e_parA (h1 : Nat.blt i env.sl.length = true) (h2 : env.bor.contains i = false) (h3 : Nat.blt j env.sl.length = true) (h4 : env.bor.contains j = false) (h : A) : (i < env.sl.length ∧ i ∉ env.bor ∧ j < env.sl.length ∧ j ∉ env.bor) ∧ A := ⟨⟨by simpa using h1, by simpa using h2, by simpa using h3, by simpa using h4⟩, h⟩
theorem e_for (h : w env (fun ds e1 => sForL tg body ⟨nx, rt, bk, ct⟩ W ds e1) W) : sFor w tg body env ⟨nx, rt, bk, ct⟩ W := h
theorem e_gN (h1 : Nat.blt i env.sl.length = true) (h2 : env.bor.contains i = false) (h : putM env i (.fz d) k) : gN i d env k := ⟨by simpa using h1, by simpa using h2, h⟩
theorem e_gsN (h : k env) : gsNil [] env k := ⟨rfl, h⟩
theorem e_gsC (h : tg d env fun e1 => gs ds e1 k) : gsCons tg gs (d :: ds) env k := h
theorem e_gT (e : ds.length = n) (h : gs ds env k) : gT n gs (.tuple ds) env k := ⟨e, h⟩
theorem e_sq (h : fe env (fun r e1 => lkK r e1 fun x e2 => sqK x fun ds => Qd ds e2) W) : fSq fe env Qd W := h
theorem e_rgI1 (h : fI fa env (fun n e1 => (-1000000000 ≤ n ∧ n ≤ 1000000000) ∧ Qd (rgD 0 n) e1) W) : fRgI1 fa env Qd W := h
theorem e_rgI2 (h : fI fa env (fun i e1 => fI fb e1 (fun j e2 => (-1000000000 ≤ i ∧ i ≤ 1000000000 ∧ -1000000000 ≤ j ∧ j ≤ 1000000000) ∧ Qd (rgD i j) e2) W) W) : fRgI2 fa fb env Qd W := h
theorem e_en (h : fe env (fun r e1 => lkK r e1 fun x e2 => sqK x fun ds => Qd (enumD 0 ds) e2) W) : fEn fe env Qd W := h
theorem e_enK (h : fe env (fun r e1 => lkK r e1 fun x e2 => sqK x fun ds => fI fk e2 (fun k e3 => (-1000000000 ≤ k ∧ k ≤ 1000000000) ∧ Qd (enumD k ds) e3) W) W) : fEnK fe fk env Qd W := h
theorem e_zp (h : fa env (fun r e1 => lkK r e1 fun x e2 => sqK x fun ds => fb e2 (fun r2 e3 => lkK r2 e3 fun y e4 => sqK y fun es => Qd (zipD ds es) e4) W) W) : fZp fa fb env Qd W := h
theorem e_yes (h : Qb true env) : fYes env Qb W := h
theorem e_lc (h : w env (fun ds e1 => offB e1 vs = true ∧ ds.length ≤ 16777216 ∧ fLcL vs tg ta fe ds e1 fun ys e2 => Q (.val (.lst ys)) e2) W) : fLc w vs tg ta fe env Q W := h
theorem e_oaddI (h : km (.fz (.int (a + b)))) : gAdd [.int a, .int b] km := h
theorem e_osub (h : km (.fz (.int (a - b)))) : gSub [.int a, .int b] km := h
theorem e_oneg (h : km (.fz (.int (-a)))) : gNeg [.int a] km := h
theorem e_oabs (h : km (.fz (.int (if a < 0 then -a else a)))) : gAbs [.int a] km := h
theorem e_ointI (h : km (.fz (.int a))) : gInt [.int a] km := h
theorem e_ointB (h : km (.fz (.int (b2 p)))) : gInt [.bool p] km := h
theorem e_omin2 (h : km (.fz (.int (if b < a then b else a)))) : gMin2 [.int a, .int b] km := h
theorem e_omax2 (h : km (.fz (.int (if b > a then b else a)))) : gMax2 [.int a, .int b] km := h
theorem e_olenL (h : km (.fz (.int xs.length))) : gLen [.list xs] km := h
theorem e_olenT (h : km (.fz (.int xs.length))) : gLen [.tuple xs] km := h
theorem e_otupL (h : km (.fz (.tuple xs))) : gTuple [.list xs] km := h
theorem e_otupT (h : km (.fz (.tuple xs))) : gTuple [.tuple xs] km := h
theorem e_olstL (h : km (.lst xs)) : gList [.list xs] km := h
theorem e_olstT (h : km (.lst xs)) : gList [.tuple xs] km := h
theorem e_oslL {lo hi : Option Int} (h : km (.lst (cutD xs lo hi))) : gSl lo hi (.list xs) km := h
theorem e_oslT {lo hi : Option Int} (h : km (.fz (.tuple (cutD xs lo hi)))) : gSl lo hi (.tuple xs) km := h
theorem e_oixL (h : ixK xs a fun d => km (.fz d)) : gIx [.list xs, .int a] km := h
theorem e_oixT (h : ixK xs a fun d => km (.fz d)) : gIx [.tuple xs, .int a] km := h
theorem e_oaddL (h : km (.lst (xs ++ ys))) (c : xs.length + ys.length ≤ 16777216) : gAdd [.list xs, .list ys] km := ⟨c, h⟩
theorem e_oaddT (h : km (.fz (.tuple (xs ++ ys)))) (c : xs.length + ys.length ≤ 16777216) : gAdd [.tuple xs, .tuple ys] km := ⟨c, h⟩
theorem e_omulI (h : km (.fz (.int (a * b)))) (c : (-(2 ^ 64) < a ∧ a < 2 ^ 64) ∨ (-(2 ^ 64) < b ∧ b < 2 ^ 64)) : gRepT [.int a, .int b] km := ⟨c, h⟩
theorem e_omulT (h : km (.fz (.tuple (List.replicate b.toNat xs).flatten))) (c : xs ≠ [] ∧ 1 ≤ b ∧ b ≤ 1000 ∧ xs.length ≤ 1000) : gRepT [.tuple xs, .int b] km := ⟨c.1, c.2.1, c.2.2.1, c.2.2.2, h⟩
theorem e_omulL (h : km (.lst (List.replicate b.toNat xs).flatten)) (c : 0 ≤ b ∧ b ≤ 1000000 ∧ xs.length * b.toNat ≤ 16777216) : gRepT [.list xs, .int b] km := ⟨c.1, c.2.1, c.2.2, h⟩
theorem e_odiv (h : km (.fz (.int (a / b)))) (c : 0 < b ∧ b < 1073741824) : gDiv [.int a, .int b] km := ⟨c.1, c.2, h⟩
theorem e_omod (h : km (.fz (.int (a % b)))) (c : 0 < b) : gMod [.int a, .int b] km := ⟨c, h⟩
theorem e_opow (h : km (.fz (.int (a ^ b.toNat)))) (c : 0 ≤ b ∧ b ≤ 1000000 ∧ a.natAbs < 2 ^ 64) : gPow [.int a, .int b] km := ⟨c.1, c.2.1, c.2.2, h⟩
theorem e_oeq (h : km (.fz (.bool (PyData.eqv d e)))) (c : Pl 60 d ∧ Pl 60 e) : gEq [d, e] km := ⟨c.1, c.2, h⟩
theorem e_one (h : km (.fz (.bool (!PyData.eqv d e)))) (c : Pl 60 d ∧ Pl 60 e) : gNe [d, e] km := ⟨c.1, c.2, h⟩
theorem e_oinL (h : km (.fz (.bool (xor q (xs.any fun y => PyData.eqv y d))))) (c : Pl 60 d ∧ Pl 60 (.list xs)) : inD q [d, .list xs] km := ⟨c.1, c.2, h⟩
theorem e_oinT (h : km (.fz (.bool (xor q (xs.any fun y => PyData.eqv y d))))) (c : Pl 60 d ∧ Pl 60 (.tuple xs)) : inD q [d, .tuple xs] km := ⟨c.1, c.2, h⟩
theorem ord_int : Ord2 (.int a) (.int b) := by simp [Ord2, PySem.W.alike]
theorem e_olt (h : km (.fz (.bool (decide (a < b))))) : gLt [.int a, .int b] km := ⟨ord_int, h⟩
theorem e_ogt (h : km (.fz (.bool (decide (b < a))))) : gGt [.int a, .int b] km := ⟨ord_int, h⟩
theorem e_ole (h : km (.fz (.bool (decide (a ≤ b))))) : gLe [.int a, .int b] km := by
  refine ⟨ord_int, ?_⟩
  show km (.fz (.bool (!decide (b < a))))
  rw [show (!decide (b < a)) = decide (a ≤ b) from by rw [← decide_not]; congr 1; exact propext ⟨fun h => by omega, fun h => by omega⟩]
  exact h
theorem e_oge (h : km (.fz (.bool (decide (b ≤ a))))) : gGe [.int a, .int b] km := by
  refine ⟨ord_int, ?_⟩
  show km (.fz (.bool (!decide (a < b))))
  rw [show (!decide (a < b)) = decide (b ≤ a) from by rw [← decide_not]; congr 1; exact propext ⟨fun h => by omega, fun h => by omega⟩]
  exact h
theorem e_any (h : A) : cAny a b ∧ A := ⟨trivial, h⟩
theorem e_ixe (e : ixN n a = some j) (h : A) : ixN n a = some j ∧ A := ⟨e, h⟩
theorem k_ixN {k : Nat → Prop} (e : ixN n a = some j) (h : k j) : bindP (ixN n a) k := by rw [e]; exact h
theorem k_ixb {k : Int → Prop} (e : (ds[j]?.bind intOf) = some a) (h : k a) : bindP (ds[j]?.bind intOf) k := by rw [e]; exact h
theorem k_pa {k : D → Prop} (e : pkA env y = some d) (h : k d) : bindP (pkA env y) k := by rw [e]; exact h
theorem k_tru {k : Bool → Prop} (e : truD d = some p) (h : k p) : bindP (truD d) k := by rw [e]; exact h
theorem k_ia {k : Int → Prop} (e : intAt env i = some a) (h : k a) : bindP (intAt env i) k := by rw [e]; exact h
end
section
variable {α : Type} {a : α} {l : List α} {A B : Prop} {b : Bool}
theorem e_b {o : Option α} {k : α → Prop} (e : o = some a) (h : k a) : bindP o k := by rw [e]; exact h
theorem e_2 (h : B) (s : A) : A ∧ B := ⟨s, h⟩
theorem e_3 {C : Prop} (h : C) (s : A) (t : B) : A ∧ B ∧ C := ⟨s, t, h⟩
theorem e_ix {xs : List D} {i : Int} {d : D} {k : D → Prop} (e : atI xs i = some d) (h : k d) : ixK xs i k := by unfold ixK; rw [e]; exact h
theorem e_ite (h1 : b = true → A) (h2 : b = false → B) : if b = true then A else B := by
  cases b with
  | true => rw [if_pos rfl]; exact h1 rfl
  | false => rw [if_neg Bool.false_ne_true]; exact h2 rfl
theorem e_iteT (h : A) : if true = true then A else B := by rw [if_pos rfl]; exact h
theorem e_iteF (h : B) : if false = true then A else B := by rw [if_neg Bool.false_ne_true]; exact h
end
section
variable {ds es xs : List D} {d : D} {n : Nat}
theorem v_int {a b : Int} : PyData.eqv (.int a) (.int b) = (a == b) := rfl
theorem v_str {a b : Str} : PyData.eqv (.str a) (.str b) = (a == b) := rfl
theorem v_bool {a b : Bool} : PyData.eqv (.bool a) (.bool b) = (a == b) := rfl
theorem v_tup {a b : List D} : PyData.eqv (.tuple a) (.tuple b) = PyData.eqvAll a b := rfl
theorem v_lst {a b : List D} : PyData.eqv (.list a) (.list b) = PyData.eqvAll a b := rfl
end
/-- a def's body at its entry -/
theorem e_body {n np : Nat} {bs : List Nat} {g : FS} {ms : List M} {Q : M → List M → Prop} {E : Ex → List M → Prop} (e : ms.length = np) {sl : Slots} (es : ms.map some ++ List.replicate (n - ms.length) none = sl)
    (h : g ⟨sl, bs⟩ ⟨fun e => boK e.sl bs fun b => Q (.fz .none) b, fun m e => boK e.sl bs fun b => Q m b, fun _ => False, fun _ => False⟩ (fun ex e => bindP (borOf e.sl bs) fun b => E ex b)) : bodyV n np bs g ms Q E := by
  subst es
  exact ⟨e, h⟩
end VL

/-! VlU: loops and comprehensions gone through, backwards. -/
namespace VL
open PySem PySem.Spec PyProof.Rows L2
inductive All2 (R : D → D → Prop) : List D → List D → Prop
  | nil : All2 R [] []
  | cons {a b : D} {as bs : List D} : R a b → All2 R as bs → All2 R (a :: as) (b :: bs)
section
variable {vs : List Nat} {g : FG} {ft : FT} {fe : FE} {d : D} {ds : List D} {env : Env} {k : List D → Env → Prop} {Qy : D → Env → Prop} {Qn : Env → Prop} {W : KX} {sl new : Slots} {b : List Nat}
/-- one turn of a comprehension: an item comes of it, or none -/
def lcT (vs : List Nat) (g : FG) (ft : FT) (fe : FE) (d : D) (env : Env) (Qy : D → Env → Prop) (Qn : Env → Prop) : Prop := g d (wipeE env vs) fun e1 => ft e1 (fun b e2 =>
  if b = true then fe e2 (fun r e3 => bindP (lkR e3 r) fun x => bindP (dOf x.1) fun y => Qy y (restE env x.2 vs)) W0 else Qn (restE env e2 vs)) W0
theorem lcL_nil (h : k [] env) : fLcL vs g ft fe [] env k := h
theorem lcL_cons (h : lcT vs g ft fe d env (fun y e => fLcL vs g ft fe ds e fun ys e4 => k (y :: ys) e4) fun e => fLcL vs g ft fe ds e k) : fLcL vs g ft fe (d :: ds) env k := h
def reE (b : List Nat) (old : Slots) (e : Env) (vs : List Nat) (k : Env → Prop) : Prop := k ⟨restS old e.sl vs, b⟩
theorem k_re {k : Env → Prop} {c : List Nat} {sl3 : Slots} (e : restS sl new vs = sl3) (h : k ⟨sl3, b⟩) : reE b sl ⟨new, c⟩ vs k := by unfold reE; rw [e]; exact h
theorem e_turn {sl2 : Slots} (w : wipeS sl vs = sl2) (h : g d ⟨sl2, b⟩ fun e1 => ft e1 (fun p e2 => if p = true then fe e2 (fun r e3 => lkK r e3 fun x e4 => dK x fun y => reE b sl e4 vs fun e5 => Qy y e5) W0 else reE b sl e2 vs Qn) W0) : lcT vs g ft fe d ⟨sl, b⟩ Qy Qn := by
  subst w
  exact h
/-- every item gives one, the slots stay -/
theorem lc_map (f : D → D) : ∀ {ds : List D} {k : List D → Env → Prop} (_ : ∀ d ∈ ds, ∀ Qy Qn, Qy (f d) env → lcT vs g ft fe d env Qy Qn) (_ : k (ds.map f) env), fLcL vs g ft fe ds env k
  | [], _, _, hk => hk
  | d :: ds, k, h, hk => lcL_cons (h d List.mem_cons_self _ _ (lc_map f (fun x hx => h x (List.mem_cons_of_mem _ hx)) hk))
/-- some items give one, the slots stay -/
theorem lc_filt (p : D → Bool) (f : D → D) : ∀ {ds : List D} {k : List D → Env → Prop} (_ : ∀ d ∈ ds, ∀ Qy Qn, (p d = true → Qy (f d) env) → (p d = false → Qn env) → lcT vs g ft fe d env Qy Qn) (_ : k ((ds.filter p).map f) env), fLcL vs g ft fe ds env k
  | [], _, _, hk => hk
  | d :: ds, k, h, hk => by
    refine lcL_cons (h d List.mem_cons_self _ _ (fun e => ?_) fun e => ?_)
    · rw [List.filter_cons_of_pos e] at hk
      exact lc_filt p f (fun x hx => h x (List.mem_cons_of_mem _ hx)) hk
    · rw [List.filter_cons_of_neg (by simp [e])] at hk
      exact lc_filt p f (fun x hx => h x (List.mem_cons_of_mem _ hx)) hk
/-- every item gives one that R allows; I holds of the slots throughout -/
theorem lc_inv (I : Env → Prop) (R : D → D → Prop) : ∀ {ds : List D} {env : Env} {k : List D → Env → Prop} (_ : I env) (_ : ∀ d ∈ ds, ∀ env, I env → ∀ Qy Qn, (∀ y env', R d y → I env' → Qy y env') → lcT vs g ft fe d env Qy Qn)
    (_ : ∀ ys env', All2 R ds ys → I env' → k ys env'), fLcL vs g ft fe ds env k
  | [], _, _, hI, _, hk => hk [] _ .nil hI
  | d :: ds, env, k, hI, h, hk => lcL_cons (h d List.mem_cons_self env hI _ _ fun y env' r hI' => lc_inv I R hI' (fun x hx => h x (List.mem_cons_of_mem _ hx)) fun ys e4 rs hI4 => hk _ _ (.cons r rs) hI4)
end
section
variable {g : FG} {body : FS} {W : KX} {d : D} {ds : List D} {env : Env} {nx : Env → Prop} {rt : M → Env → Prop} {bk ct : Env → Prop}
theorem for_nil (h : nx env) : sForL g body ⟨nx, rt, bk, ct⟩ W [] env := h
theorem for_cons (h : g d env fun e1 => body e1 ⟨sForL g body ⟨nx, rt, bk, ct⟩ W ds, rt, nx, sForL g body ⟨nx, rt, bk, ct⟩ W ds⟩ W) : sForL g body ⟨nx, rt, bk, ct⟩ W (d :: ds) env := h
/-- I: what is done, what is left, the slots -/
theorem for_inv (I : List D → List D → Env → Prop) : ∀ {ds dn : List D} {env : Env} (_ : I dn ds env) (_ : ∀ dn d ds env, I dn (d :: ds) env → g d env fun e1 => ∀ nx' : Env → Prop, (∀ e2, I (dn ++ [d]) ds e2 → nx' e2) → body e1 ⟨nx', rt, nx, nx'⟩ W)
    (_ : ∀ dn env, I dn [] env → nx env) (_ : ∀ d env (k k' : Env → Prop), (∀ e, k e → k' e) → g d env k → g d env k'), sForL g body ⟨nx, rt, bk, ct⟩ W ds env
  | [], dn, env, hI, _, hd, _ => hd dn env hI
  | d :: ds, dn, env, hI, h, hd, mono => for_cons (mono d env _ _ (fun e1 hb => hb _ fun e2 hI2 => for_inv I hI2 h hd mono) (h dn d ds env hI))
theorem mono_gN {i : Nat} : ∀ d env (k k' : Env → Prop), (∀ e, k e → k' e) → gN i d env k → gN i d env k' := fun d env k k' h ⟨a, b, c⟩ => ⟨a, b, h _ c⟩
/-- while: I holds by the measure -/
theorem e_while {c : FT} {body : FS} (I : Nat → Env → Prop) {n : Nat} (h0 : I n env) (h : ∀ n e, I n e → c e (fun b e1 => if b = true then body e1 ⟨fun e2 => ∃ m, m < n ∧ I m e2, rt, nx, fun e2 => ∃ m, m < n ∧ I m e2⟩ W else nx e1) W) : sWhile c body env ⟨nx, rt, bk, ct⟩ W := ⟨I, ⟨n, h0⟩, h⟩
end
theorem e_len {ds : List D} {A : Prop} (e : Nat.ble ds.length 16777216 = true) (h : A) : ds.length ≤ 16777216 ∧ A := ⟨Nat.le_of_ble_eq_true e, h⟩
theorem e_len2 {ds es : List D} {A : Prop} (h : A) (e : ds.length + es.length ≤ 16777216) : ds.length + es.length ≤ 16777216 ∧ A := ⟨e, h⟩
mutual
theorem Pl.mono : ∀ {n m : Nat} (d : D), Pl n d → n ≤ m → Pl m d
  | _, _, .none, _, _ => by simp
  | _, _, .bool _, _, _ => by simp
  | _, _, .int _, _, _ => by simp
  | _, _, .str _, _, _ => by simp
  | n, m, .dict _, h, _ => by simp at h
  | n, m, .list xs, h, l => by
    rw [Pl_list] at h ⊢
    exact ⟨by omega, Pl.monoAll xs h.2 (by omega)⟩
  | n, m, .tuple xs, h, l => by
    rw [Pl_tuple] at h ⊢
    exact ⟨by omega, Pl.monoAll xs h.2 (by omega)⟩
theorem Pl.monoAll : ∀ {n m : Nat} (xs : List D), (∀ x ∈ xs, Pl n x) → n ≤ m → ∀ x ∈ xs, Pl m x
  | _, _, [], _, _, x, hx => by simp at hx
  | n, m, y :: ys, h, l, x, hx => by
    rcases List.mem_cons.mp hx with e | hx
    · rw [e]
      exact Pl.mono y (h y List.mem_cons_self) l
    · exact Pl.monoAll ys (fun z hz => h z (List.mem_cons_of_mem _ hz)) l x hx
end
theorem erase_perm {α : Type} : ∀ {xs : List α} {i : Nat} (h : i < xs.length), (xs[i] :: xs.eraseIdx i).Perm xs
  | x :: xs, 0, _ => .refl _
  | x :: xs, i + 1, h => by
    have h' : i < xs.length := Nat.lt_of_succ_lt_succ h
    show (xs[i] :: x :: xs.eraseIdx i).Perm (x :: xs)
    exact (List.Perm.swap _ _ _).trans ((erase_perm h').cons x)
theorem ixN_nat {n : Nat} {v : Int} (h0 : 0 ≤ v) (h1 : v < n) : ixN n v = some v.toNat := by unfold ixN; rw [if_pos h0, if_pos h1]
theorem atI_of {α : Type} {xs : List α} {v : Int} {x : α} (h0 : 0 ≤ v) (h : xs[v.toNat]? = some x) : atI xs v = some x := by
  have hl := (List.getElem?_eq_some_iff.mp h).1
  unfold atI
  rw [ixN_nat h0 (by omega)]
  exact h
end VL

set_option maxHeartbeats 1000000
/-! VlS: small data: how deep, how much of it is printed. -/
namespace VL
open PySem PySem.Spec PyProof.Rows L2
def StrOk (x : Str) : Prop := ∀ c ∈ x.cps.toList, c < 16 ^ 8
/-- at most k deep, at most n of bulk -/
structure Sm (k n : Nat) (d : D) : Prop where
  pl : Pl k d
  sh : d.showable = true
  lv : d.leavesShort 13 = true
  bk : d.bulk ≤ n
theorem Sm.mono {k n k' n' : Nat} {d : D} (h : Sm k n d) (hk : k ≤ k') (hn : n ≤ n') : Sm k' n' d := ⟨Pl.mono _ h.pl hk, h.sh, h.lv, Nat.le_trans h.bk hn⟩
theorem Sm.int {k n : Nat} {i : Int} (h : i.natAbs < 10 ^ 12) : Sm k n (.int i) := by
  refine ⟨by simp, ?_, ?_, Nat.zero_le _⟩
  · show decide (i.natAbs.log2 < 1920) = true
    refine decide_eq_true ?_
    by_cases h0 : i.natAbs = 0
    · rw [h0]; decide
    · refine (Nat.log2_lt h0).mpr (Nat.lt_of_lt_of_le h ?_)
      calc 10 ^ 12 ≤ 2 ^ 40 := by decide
        _ ≤ 2 ^ 1920 := Nat.pow_le_pow_right (by decide) (by decide)
  · show decide ((PyData.shown (.int i)).length ≤ 13) = true
    refine decide_eq_true ?_
    show (Str.ofString (toString i)).length ≤ 13
    rw [PySem.ofString_length]
    exact int_text_length_le10 (k := 12) (by decide) h
theorem Sm.bool {k n : Nat} {b : Bool} : Sm k n (.bool b) := ⟨by simp, rfl, rfl, Nat.zero_le _⟩
theorem Sm.none {k n : Nat} : Sm k n .none := ⟨by simp, rfl, rfl, Nat.zero_le _⟩
theorem Sm.str {k n : Nat} {x : Str} (h : StrOk x) (hn : x.cps.size ≤ n) : Sm k n (.str x) := by
  refine ⟨by simp, rfl, ?_, hn⟩
  show (x.cps.toList.all fun c => decide (c < 16 ^ 8)) = true
  rw [List.all_eq_true]
  exact fun c hc => decide_eq_true (h c hc)
theorem sm_all {k n : Nat} : ∀ {xs : List D}, (∀ x ∈ xs, Sm k n x) → PyData.showableAll xs = true ∧ PyData.leavesShortAll 13 xs = true ∧ PyData.bulkAll xs ≤ xs.length * (n + 1)
  | [], _ => ⟨rfl, rfl, Nat.zero_le _⟩
  | x :: xs, h => by
    obtain ⟨h1, h2, h3⟩ := sm_all fun y hy => h y (List.mem_cons_of_mem _ hy)
    have hx := h x List.mem_cons_self
    refine ⟨?_, ?_, ?_⟩
    · show (x.showable && PyData.showableAll xs) = true
      rw [hx.sh, h1]; rfl
    · show (x.leavesShort 13 && PyData.leavesShortAll 13 xs) = true
      rw [hx.lv, h2]; rfl
    · show x.bulk + 1 + PyData.bulkAll xs ≤ (xs.length + 1) * (n + 1)
      have := hx.bk
      rw [Nat.add_mul, Nat.one_mul]
      omega
theorem Sm.lst {k n m N : Nat} {xs : List D} (h : ∀ x ∈ xs, Sm k n x) (hm : xs.length ≤ m) (hN : m * (n + 1) ≤ N) : Sm (k + 1) N (.list xs) := by
  obtain ⟨h1, h2, h3⟩ := sm_all h
  refine ⟨?_, h1, h2, Nat.le_trans h3 (Nat.le_trans (Nat.mul_le_mul_right _ hm) hN)⟩
  rw [Pl_list]
  exact ⟨Nat.succ_pos _, fun x hx => (h x hx).pl⟩
theorem Sm.tup {k n m N : Nat} {xs : List D} (h : ∀ x ∈ xs, Sm k n x) (hm : xs.length ≤ m) (hN : m * (n + 1) ≤ N) : Sm (k + 1) N (.tuple xs) := by
  obtain ⟨h1, h2, h3⟩ := sm_all h
  refine ⟨?_, h1, h2, Nat.le_trans h3 (Nat.le_trans (Nat.mul_le_mul_right _ hm) hN)⟩
  rw [Pl_tuple]
  exact ⟨Nat.succ_pos _, fun x hx => (h x hx).pl⟩
theorem Sm.len {k n : Nat} {d : D} (h : Sm k n d) (hn : n ≤ 2 ^ 20) : d.shown.length ≤ 16777216 := by
  have := PyData.shown_fits_bulk (B := 13) (by decide) (by decide) h.lv (Nat.le_trans h.bk hn)
  rw [sizeLine_eq] at this
  exact this
end VL

set_option maxHeartbeats 4000000
/-! printed by gen.py from the text of k18_machines_to_begin_with -/
namespace K18
open PySem PySem.Spec PyProof.Rows L2 VL
def topS (i : Nat) : Stmt := PySem.Challenge.pw_toldforgood_k18_machines_to_begin_with.main.body.getD i (.Pass ⟨0, 0, 0, 0⟩)
theorem sc__law_alike : FnScope ["found", "due"] ["found", "due"] (defScope (topS 16)) := ⟨rfl, rfl, rfl, by decide +kernel, rfl, by decide +kernel, by decide +kernel⟩
theorem sc__law_at_least : FnScope ["letters", "some", "many", "steps", "letter", "step", "state"] ["letters", "some", "many"] (defScope (topS 19)) := ⟨rfl, rfl, rfl, by decide +kernel, rfl, by decide +kernel, by decide +kernel⟩
theorem sc__law_bag : FnScope ["script", "cell"] ["script"] (defScope (topS 11)) := ⟨rfl, rfl, rfl, by decide +kernel, rfl, by decide +kernel, by decide +kernel⟩
theorem sc__law_each_time : FnScope ["letters", "some", "steps", "letter"] ["letters", "some"] (defScope (topS 21)) := ⟨rfl, rfl, rfl, by decide +kernel, rfl, by decide +kernel, by decide +kernel⟩
theorem sc__law_greatest : FnScope ["letters", "steps", "at", "letter", "state"] ["letters"] (defScope (topS 20)) := ⟨rfl, rfl, rfl, by decide +kernel, rfl, by decide +kernel, by decide +kernel⟩
theorem sc__law_has : FnScope ["word", "row", "some", "part", "at"] ["word", "row"] (defScope (topS 24)) := ⟨rfl, rfl, rfl, by decide +kernel, rfl, by decide +kernel, by decide +kernel⟩
theorem sc__law_is_each : FnScope ["word", "some", "part", "is_there", "is_all"] ["word", "some"] (defScope (topS 23)) := ⟨rfl, rfl, rfl, by decide +kernel, rfl, by decide +kernel, by decide +kernel⟩
theorem sc__law_take : FnScope ["bag", "many", "begin", "second", "cell", "stirred", "value"] ["bag", "many"] (defScope (topS 12)) := ⟨rfl, rfl, rfl, by decide +kernel, rfl, by decide +kernel, by decide +kernel⟩
theorem sc__law_mixed : FnScope ["bag", "things", "left", "found"] ["bag", "things"] (defScope (topS 13)) := ⟨rfl, rfl, rfl, by decide +kernel, rfl, by decide +kernel, by decide +kernel⟩
theorem sc__law_step : FnScope ["machine", "state", "letter", "one", "states"] ["machine", "state", "letter"] (defScope (topS 10)) := ⟨rfl, rfl, rfl, by decide +kernel, rfl, by decide +kernel, by decide +kernel⟩
theorem sc__law_out : FnScope ["machine", "word", "state", "part"] ["machine", "word"] (defScope (topS 22)) := ⟨rfl, rfl, rfl, by decide +kernel, rfl, by decide +kernel, by decide +kernel⟩
theorem sc__law_last : FnScope ["word", "row", "many"] ["word", "row"] (defScope (topS 17)) := ⟨rfl, rfl, rfl, by decide +kernel, rfl, by decide +kernel, by decide +kernel⟩
theorem sc__law_row_machine : FnScope ["letters", "row", "letter", "many", "steps", "states", "state"] ["letters", "row"] (defScope (topS 18)) := ⟨rfl, rfl, rfl, by decide +kernel, rfl, by decide +kernel, by decide +kernel⟩
theorem sc__law_some : FnScope ["bag", "things"] ["bag", "things"] (defScope (topS 15)) := ⟨rfl, rfl, rfl, by decide +kernel, rfl, by decide +kernel, by decide +kernel⟩
theorem sc__law_some_names : FnScope ["bag", "names", "many"] ["bag", "names", "many"] (defScope (topS 14)) := ⟨rfl, rfl, rfl, by decide +kernel, rfl, by decide +kernel, by decide +kernel⟩
theorem sc_staying : FnScope ["many"] ["many"] (defScope (topS 3)) := ⟨rfl, rfl, rfl, by decide +kernel, rfl, by decide +kernel, by decide +kernel⟩
theorem sc_at_least : FnScope ["letters", "some", "many", "rising", "steps", "state", "letter"] ["letters", "some", "many"] (defScope (topS 4)) := ⟨rfl, rfl, rfl, by decide +kernel, rfl, by decide +kernel, by decide +kernel⟩
theorem sc_each_time : FnScope ["letters", "some", "steps", "letter"] ["letters", "some"] (defScope (topS 8)) := ⟨rfl, rfl, rfl, by decide +kernel, rfl, by decide +kernel, by decide +kernel⟩
theorem sc_greatest : FnScope ["letters", "many", "steps", "at", "letter", "state"] ["letters"] (defScope (topS 5)) := ⟨rfl, rfl, rfl, by decide +kernel, rfl, by decide +kernel, by decide +kernel⟩
theorem sc_row_behind : FnScope ["row", "state", "letter", "seen", "many"] ["row", "state", "letter"] (defScope (topS 6)) := ⟨rfl, rfl, rfl, by decide +kernel, rfl, by decide +kernel, by decide +kernel⟩
theorem sc_has_row : FnScope ["letters", "row", "many", "steps", "letter", "state"] ["letters", "row"] (defScope (topS 7)) := ⟨rfl, rfl, rfl, by decide +kernel, rfl, by decide +kernel, by decide +kernel⟩
theorem sc_law : FnScope ["script", "bag", "turn", "letters", "some", "row", "many", "told", "due", "more", "word", "bare", "part", "machine"] ["script"] (defScope (topS 25)) := ⟨rfl, rfl, rfl, by decide +kernel, rfl, by decide +kernel, by decide +kernel⟩
def g__law_alike : FS := sRet (fAndV (fOp gEq (aP (fOp gRepr (aP (fVar 0) (aNil))) (aP (fOp gRepr (aP (fVar 1) (aNil))) aNil))) (fOp gEq (aP (fVar 0) (aP (fVar 1) aNil))))
def sp__law_alike : SpV := bodyV 2 2 [] g__law_alike
def g__law_at_least_1 : FS := sSeq (sSet 5 (fOp gInt (aP (fOp gIn (aP (fVar 4) (aP (fVar 1) aNil))) (aNil))))
  (sDrop (fApp 3 (fTup (aL (fVar 4) (aL (fOp gTuple (aP (fLc (fRgI1 (fOp gAdd (aP (fVar 2) (aP (fC (.int 1)) aNil)))) [6] (gN 6) (fYes) (fOp gMin2 (aP (fVar 2) (aP (fOp gAdd (aP (fVar 6) (aP (fVar 5) aNil))) (aNil))))) (aNil))) (aNil))))))
def g__law_at_least_2 : FS := sRet (fTup (aL (fOp gTuple (aP (fVar 3) (aNil))) (aL (fTupRg (fRg1 (fOp gAdd (aP (fVar 2) (aP (fC (.int 1)) aNil))))) (aL (fOp gAdd (aP (fOp gRepT (aP (fTup (aL (fC (.str "no")) (aNil))) (aP (fVar 2) aNil))) (aP (fTup (aL (fC (.str "yes")) (aNil))) aNil))) (aNil)))))
def g__law_at_least : FS := sSeq (sSet 3 (fLst (aNil)))
  (sSeq (sFor (fSq (fVar 0)) (gN 4)
  (g__law_at_least_1))
  (g__law_at_least_2))
def sp__law_at_least : SpV := bodyV 7 3 [] g__law_at_least
def g__law_bag : FS := sRet (fLst (aL (fC (.int 0)) (aL (fC (.int 1234567891)) (aL (fC (.int 0)) (aL (fLc (fSq (fSl (fVar 0) (oNone) (oSome (fC (.int 63))))) [1] (gN 1) (fYes) (fOp gAbs (aP (fVar 1) (aNil)))) (aNil))))))
def sp__law_bag : SpV := bodyV 2 1 [] g__law_bag
def g__law_each_time : FS := sSeq (sSet 2 (fOp gTuple (aP (fLc (fSq (fVar 0)) [3] (gN 3) (fYes) (fTup (aL (fVar 3) (aL (fIf (fTB (fOp gIn (aP (fVar 3) (aP (fVar 1) aNil)))) (fTup (aL (fC (.int 1)) (aL (fC (.int 1)) (aL (fC (.int 2)) (aNil))))) (fTup (aL (fC (.int 0)) (aL (fC (.int 1)) (aL (fC (.int 2)) (aNil)))))) (aNil))))) (aNil))))
  (sRet (fTup (aL (fVar 2) (aL (fTup (aL (fC (.int 2)) (aL (fC (.int 0)) (aL (fC (.int 2)) (aNil))))) (aL (fTup (aL (fC (.str "yes")) (aL (fC (.str "yes")) (aL (fC (.str "no")) (aNil))))) (aNil))))))
def sp__law_each_time : SpV := bodyV 4 2 [] g__law_each_time
def g__law_greatest_1 : FS := sDrop (fApp 1 (fTup (aL (fVar 3) (aL (fOp gTuple (aP (fLc (fRgI1 (fOp gAdd (aP (fOp gLen (aP (fVar 0) (aNil))) (aP (fC (.int 1)) aNil)))) [4] (gN 4) (fYes) (fOp gMax2 (aP (fVar 4) (aP (fOp gAdd (aP (fVar 2) (aP (fC (.int 1)) aNil))) (aNil))))) (aNil))) (aNil)))))
def g__law_greatest_2 : FS := sRet (fTup (aL (fOp gTuple (aP (fVar 1) (aNil))) (aL (fTupRg (fRg1 (fOp gAdd (aP (fOp gLen (aP (fVar 0) (aNil))) (aP (fC (.int 1)) aNil))))) (aL (fOp gAdd (aP (fTup (aL (fC (.str "nothing")) (aNil))) (aP (fVar 0) aNil))) (aNil)))))
def g__law_greatest : FS := sSeq (sSet 1 (fLst (aNil)))
  (sSeq (sFor (fEn (fVar 0)) (gT 2 (gsCons (gN 2) (gsCons (gN 3) (gsNil))))
  (g__law_greatest_1))
  (g__law_greatest_2))
def sp__law_greatest : SpV := bodyV 5 1 [] g__law_greatest
def g__law_has : FS := sSeq (sSet 2 (fOp gTuple (aP (fLc (fSq (fVar 0)) [3] (gN 3) (fTB (fOp gNe (aP (fVar 3) (aP (fC (.str "tick")) aNil)))) (fVar 3)) (aNil))))
  (sRet (fOp gNe (aP (fLc (fRgI1 (fOp gAdd (aP (fOp gLen (aP (fVar 2) (aNil))) (aP (fC (.int 1)) aNil)))) [4] (gN 4) (fTB (fOp gEq (aP (fSl (fVar 2) (oSome (fVar 4)) (oSome (fOp gAdd (aP (fVar 4) (aP (fOp gLen (aP (fVar 1) (aNil))) aNil))))) (aP (fVar 1) aNil)))) (fVar 4)) (aP (fLst (aNil)) aNil))))
def sp__law_has : SpV := bodyV 5 2 [] g__law_has
def g__law_is_each_1 : FS := sIf (fTB (fOp gEq (aP (fVar 2) (aP (fC (.str "tick")) aNil))))
  (sPar 4 3 (fAndV (fVar 4) (fVar 3)) (fC (.bool false)))
  (sSet 3 (fOrV (fVar 3) (fOp gIn (aP (fVar 2) (aP (fVar 1) aNil)))))
def g__law_is_each : FS := sSeq (sTup (fTup (aL (fC (.bool false)) (aL (fC (.bool true)) (aNil)))) (gT 2 (gsCons (gN 3) (gsCons (gN 4) (gsNil)))))
  (sSeq (sFor (fSq (fVar 0)) (gN 2)
  (g__law_is_each_1))
  (sRet (fVar 4)))
def sp__law_is_each : SpV := bodyV 5 2 [] g__law_is_each
def g__law_take_1 : FS := sSeq (sSet 5 (fOp gAdd (aP (fOp gAdd (aP (fOp gRepT (aP (fOp gIx (aP (fVar 0) (aP (fC (.int 1)) aNil))) (aP (fC (.int 48271)) aNil))) (aP (fOp gMod (aP (fOp gInt (aP (fVar 4) (aNil))) (aP (fC (.int 2147483647)) aNil))) aNil))) (aP (fOp gRepT (aP (fC (.int 7919)) (aP (fOp gIx (aP (fVar 0) (aP (fC (.int 2)) aNil))) aNil))) aNil))))
  (sSetIx 0 (fC (.int 1)) (fOp gMod (aP (fOp gInt (aP (fVar 5) (aNil))) (aP (fC (.int 2147483647)) aNil))))
def g__law_take_2 : FS := sSeq (sSet 2 (fOp gMod (aP (fOp gInt (aP (fOp gRepT (aP (fOp gAdd (aP (fOp gIx (aP (fVar 0) (aP (fC (.int 1)) aNil))) (aP (fC (.int 1)) aNil))) (aP (fC (.int 39373)) aNil))) (aNil))) (aP (fC (.int 1000000007)) aNil))))
  (sSeq (sSet 3 (fOp gMod (aP (fOp gInt (aP (fOp gRepT (aP (fOp gMod (aP (fOp gInt (aP (fOp gRepT (aP (fVar 2) (aP (fVar 2) aNil))) (aNil))) (aP (fC (.int 998244353)) aNil))) (aP (fC (.int 30011)) aNil))) (aNil))) (aP (fC (.int 998244353)) aNil))))
  (sRet (fOp gMod (aP (fOp gInt (aP (fOp gDiv (aP (fVar 3) (aP (fC (.int 7)) aNil))) (aNil))) (aP (fVar 1) aNil)))))
def g__law_take_3 : FS := sSeq (sIf (fTB (fOp gGt (aP (fOp gIx (aP (fVar 0) (aP (fC (.int 0)) aNil))) (aP (fC (.int 0)) aNil))))
  (sSeq (sSet 6 (fOp gMod (aP (fOp gInt (aP (fOp gIx (aP (fVar 0) (aP (fC (.int 0)) aNil))) (aNil))) (aP (fVar 1) aNil))))
  (sSeq (sSetIx 0 (fC (.int 0)) (fOp gDiv (aP (fOp gInt (aP (fOp gIx (aP (fVar 0) (aP (fC (.int 0)) aNil))) (aNil))) (aP (fVar 1) aNil))))
  (sRet (fVar 6))))
  (sNext))
  (g__law_take_2)
def g__law_take : FS := sSeq (sIf (fTB (fOp gEq (aP (fOp gIx (aP (fVar 0) (aP (fC (.int 0)) aNil))) (aP (fC (.int 0)) aNil))))
  (sSeq (sSet 4 (fOp gIx (aP (fOp gAdd (aP (fSl (fOp gIx (aP (fVar 0) (aP (fC (.int 3)) aNil))) (oSome (fOp gIx (aP (fVar 0) (aP (fC (.int 2)) aNil)))) (oNone)) (aP (fLst (aL (fC (.int 0)) (aNil))) aNil))) (aP (fC (.int 0)) aNil))))
  (sSeq (sAugIx 0 cAny (fun i j => i + j) (fC (.int 2)) (fC (.int 1)))
  (sSeq (sIf (fTB (fOp gGe (aP (fVar 4) (aP (fOp gPow (aP (fC (.int 10)) (aP (fC (.int 18)) aNil))) aNil))))
  (sSetIx 0 (fC (.int 0)) (fVar 4))
  (sNext))
  (g__law_take_1))))
  (sNext))
  (g__law_take_3)
def sp__law_take : SpV := bodyV 7 2 [0] g__law_take
def g__law_mixed_1 : FS := sDrop (fApp 3 (fPopAt 2 (fCall sp__law_take [0] (aP (fVar 0) (aL (fOp gLen (aP (fVar 2) (aNil))) (aNil))))))
def g__law_mixed : FS := sSeq (sPar 2 3 (fOp gList (aP (fVar 1) (aNil))) (fLst (aNil)))
  (sSeq (sWhile (fTB (fOp gNe (aP (fVar 2) (aP (fLst (aNil)) aNil))))
  (g__law_mixed_1))
  (sRet (fVar 3)))
def sp__law_mixed : SpV := bodyV 4 2 [0] g__law_mixed
def g__law_step : FS := sRet (fOp gIx (aP (fOp gIx (aP (fLc (fSq (fOp gIx (aP (fVar 0) (aP (fC (.int 0)) aNil)))) [3, 4] (gT 2 (gsCons (gN 3) (gsCons (gN 4) (gsNil)))) (fTB (fOp gEq (aP (fVar 3) (aP (fVar 2) aNil)))) (fVar 4)) (aP (fC (.int 0)) aNil))) (aP (fVar 1) aNil)))
def sp__law_step : SpV := bodyV 5 3 [] g__law_step
def g__law_out_1 : FS := sSet 2 (fIf (fTB (fOp gEq (aP (fVar 3) (aP (fC (.str "tick")) aNil)))) (fOp gIx (aP (fOp gIx (aP (fVar 0) (aP (fC (.int 1)) aNil))) (aP (fVar 2) aNil))) (fCall sp__law_step [] (aL (fVar 0) (aL (fVar 2) (aL (fVar 3) (aNil))))))
def g__law_out_2 : FS := sRet (fOp gIx (aP (fOp gIx (aP (fVar 0) (aP (fC (.int 2)) aNil))) (aP (fVar 2) aNil)))
def g__law_out : FS := sSeq (sSet 2 (fC (.int 0)))
  (sSeq (sFor (fSq (fVar 1)) (gN 3)
  (g__law_out_1))
  (g__law_out_2))
def sp__law_out : SpV := bodyV 4 2 [] g__law_out
def g__law_last : FS := sRet (fOp gMax1 (aP (fLc (fRgI1 (fOp gAdd (aP (fOp gMin2 (aP (fOp gLen (aP (fVar 0) (aNil))) (aP (fOp gLen (aP (fVar 1) (aNil))) (aNil)))) (aP (fC (.int 1)) aNil)))) [2] (gN 2) (fTB (fOp gEq (aP (fSl (fVar 0) (oSome (fOp gSub (aP (fOp gLen (aP (fVar 0) (aNil))) (aP (fVar 2) aNil)))) (oNone)) (aP (fSl (fVar 1) (oNone) (oSome (fVar 2))) aNil)))) (fVar 2)) (aNil)))
def sp__law_last : SpV := bodyV 3 2 [] g__law_last
def g__law_row_machine_1 : FS := sSeq (sSet 5 (fLc (fRgI1 (fVar 3)) [6] (gN 6) (fYes) (fCall sp__law_last [] (aL (fOp gAdd (aP (fSl (fVar 1) (oNone) (oSome (fVar 6))) (aP (fTup (aL (fVar 2) (aNil))) aNil))) (aL (fVar 1) (aNil))))))
  (sDrop (fApp 4 (fTup (aL (fVar 2) (aL (fOp gAdd (aP (fOp gTuple (aP (fVar 5) (aNil))) (aP (fTup (aL (fVar 3) (aNil))) aNil))) (aNil))))))
def g__law_row_machine_2 : FS := sRet (fTup (aL (fOp gTuple (aP (fVar 4) (aNil))) (aL (fTupRg (fRg1 (fOp gAdd (aP (fVar 3) (aP (fC (.int 1)) aNil))))) (aL (fOp gAdd (aP (fOp gRepT (aP (fTup (aL (fC (.str "no")) (aNil))) (aP (fVar 3) aNil))) (aP (fTup (aL (fC (.str "yes")) (aNil))) aNil))) (aNil)))))
def g__law_row_machine : FS := sSeq (sPar 3 4 (fOp gLen (aP (fVar 1) (aNil))) (fLst (aNil)))
  (sSeq (sFor (fSq (fVar 0)) (gN 2)
  (g__law_row_machine_1))
  (g__law_row_machine_2))
def sp__law_row_machine : SpV := bodyV 7 2 [] g__law_row_machine
def g__law_some : FS := sRet (fOp gIx (aP (fVar 1) (aP (fCall sp__law_take [0] (aP (fVar 0) (aL (fOp gLen (aP (fVar 1) (aNil))) (aNil)))) aNil)))
def sp__law_some : SpV := bodyV 2 2 [0] g__law_some
def g__law_some_names : FS := sRet (fOp gTuple (aP (fOp gSorted (aP (fSl (fCall sp__law_mixed [0] (aP (fVar 0) (aL (fVar 1) (aNil)))) (oNone) (oSome (fVar 2))) (aNil))) (aNil)))
def sp__law_some_names : SpV := bodyV 3 3 [0] g__law_some_names
def g_staying : FS := sRet (fTupRg (fRg1 (fVar 0)))
def sp_staying : SpV := bodyV 1 1 [] g_staying
def g_at_least : FS := sSeq (sSet 3 (fOp gTuple (aP (fLc (fRgI1 (fOp gAdd (aP (fVar 2) (aP (fC (.int 1)) aNil)))) [5] (gN 5) (fYes) (fOp gMin2 (aP (fOp gAdd (aP (fVar 5) (aP (fC (.int 1)) aNil))) (aP (fVar 2) (aNil))))) (aNil))))
  (sSeq (sSet 4 (fOp gTuple (aP (fLc (fSq (fVar 0)) [6] (gN 6) (fYes) (fTup (aL (fVar 6) (aL (fIf (fTB (fOp gIn (aP (fVar 6) (aP (fVar 1) aNil)))) (fVar 3) (fCall sp_staying [] (aL (fOp gAdd (aP (fVar 2) (aP (fC (.int 1)) aNil))) (aNil)))) (aNil))))) (aNil))))
  (sRet (fTup (aL (fVar 4) (aL (fCall sp_staying [] (aL (fOp gAdd (aP (fVar 2) (aP (fC (.int 1)) aNil))) (aNil))) (aL (fOp gAdd (aP (fOp gRepT (aP (fTup (aL (fC (.str "no")) (aNil))) (aP (fVar 2) aNil))) (aP (fTup (aL (fC (.str "yes")) (aNil))) aNil))) (aNil)))))))
def sp_at_least : SpV := bodyV 7 3 [] g_at_least
def g_each_time : FS := sSeq (sSet 2 (fOp gTuple (aP (fLc (fSq (fVar 0)) [3] (gN 3) (fYes) (fTup (aL (fVar 3) (aL (fIf (fTB (fOp gIn (aP (fVar 3) (aP (fVar 1) aNil)))) (fTup (aL (fC (.int 1)) (aL (fC (.int 1)) (aL (fC (.int 2)) (aNil))))) (fCall sp_staying [] (aL (fC (.int 3)) (aNil)))) (aNil))))) (aNil))))
  (sRet (fTup (aL (fVar 2) (aL (fTup (aL (fC (.int 2)) (aL (fC (.int 0)) (aL (fC (.int 2)) (aNil))))) (aL (fTup (aL (fC (.str "yes")) (aL (fC (.str "yes")) (aL (fC (.str "no")) (aNil))))) (aNil))))))
def sp_each_time : SpV := bodyV 4 2 [] g_each_time
def g_greatest : FS := sSeq (sSet 1 (fOp gAdd (aP (fOp gLen (aP (fVar 0) (aNil))) (aP (fC (.int 1)) aNil))))
  (sSeq (sSet 2 (fLc (fEnK (fVar 0) (fC (.int 1))) [3, 4] (gT 2 (gsCons (gN 3) (gsCons (gN 4) (gsNil)))) (fYes) (fTup (aL (fVar 4) (aL (fOp gTuple (aP (fLc (fRgI1 (fVar 1)) [5] (gN 5) (fYes) (fOp gMax2 (aP (fVar 5) (aP (fVar 3) (aNil))))) (aNil))) (aNil))))))
  (sRet (fTup (aL (fOp gTuple (aP (fVar 2) (aNil))) (aL (fCall sp_staying [] (aL (fVar 1) (aNil))) (aL (fTup (aL (fC (.str "nothing")) (aS (fVar 0) (aNil)))) (aNil)))))))
def sp_greatest : SpV := bodyV 6 1 [] g_greatest
def g_row_behind_1 : FS := sSeq (sSet 3 (fTup (aS (fSl (fVar 0) (oNone) (oSome (fVar 1))) (aL (fVar 2) (aNil)))))
  (sRet (fOp gMax1 (aP (fLc (fRgI1 (fOp gAdd (aP (fVar 1) (aP (fC (.int 2)) aNil)))) [4] (gN 4) (fTB (fOp gEq (aP (fSl (fVar 0) (oNone) (oSome (fVar 4))) (aP (fSl (fVar 3) (oSome (fOp gSub (aP (fOp gLen (aP (fVar 3) (aNil))) (aP (fVar 4) aNil)))) (oNone)) aNil)))) (fVar 4)) (aNil))))
def g_row_behind : FS := sSeq (sIf (fTB (fOp gEq (aP (fVar 1) (aP (fOp gLen (aP (fVar 0) (aNil))) aNil))))
  (sRet (fVar 1))
  (sNext))
  (g_row_behind_1)
def sp_row_behind : SpV := bodyV 5 3 [] g_row_behind
def g_has_row : FS := sSeq (sSet 2 (fOp gAdd (aP (fOp gLen (aP (fVar 1) (aNil))) (aP (fC (.int 1)) aNil))))
  (sSeq (sSet 3 (fLc (fSq (fVar 0)) [4] (gN 4) (fYes) (fTup (aL (fVar 4) (aL (fOp gTuple (aP (fLc (fRgI1 (fVar 2)) [5] (gN 5) (fYes) (fCall sp_row_behind [] (aL (fVar 1) (aL (fVar 5) (aL (fVar 4) (aNil)))))) (aNil))) (aNil))))))
  (sRet (fTup (aL (fOp gTuple (aP (fVar 3) (aNil))) (aL (fCall sp_staying [] (aL (fVar 2) (aNil))) (aL (fOp gAdd (aP (fOp gRepT (aP (fTup (aL (fC (.str "no")) (aNil))) (aP (fOp gLen (aP (fVar 1) (aNil))) aNil))) (aP (fTup (aL (fC (.str "yes")) (aNil))) aNil))) (aNil)))))))
def sp_has_row : SpV := bodyV 6 2 [] g_has_row
def g_law_1 : FS := sSeq (sSet 10 (fOp gAdd (aP (fLc (fRgI1 (fCall sp__law_take [0] (aP (fVar 1) (aL (fC (.int 25)) (aNil))))) [12] (gN 12) (fYes) (fCall sp__law_some [0] (aP (fVar 1) (aL (fOp gAdd (aP (fOp gList (aP (fSl (fVar 3) (oNone) (oSome (fC (.int 3)))) (aNil))) (aP (fLst (aL (fC (.str "tick")) (aNil))) aNil))) (aNil))))) (aP (fLst (aL (fC (.str "tick")) (aNil))) aNil))))
  (sSeq (sSet 11 (fLc (fSq (fVar 10)) [12] (gN 12) (fTB (fOp gNe (aP (fVar 12) (aP (fC (.str "tick")) aNil)))) (fVar 12)))
  (sSeq (sSet 8 (fLst (aL (fIf (fTB (fOp gGe (aP (fOp gLen (aP (fLc (fSq (fVar 11)) [12] (gN 12) (fTB (fOp gIn (aP (fVar 12) (aP (fVar 4) aNil)))) (fC (.int 1))) (aNil))) (aP (fVar 6) aNil)))) (fC (.str "yes")) (fC (.str "no"))) (aNil))))
  (sSeq (sSet 8 (fOp gAdd (aP (fVar 8) (aP (fLst (aL (fOp gMax1 (aP (fOp gAdd (aP (fSlB (fLst (aL (fC (.str "nothing")) (aNil))) (fOp gGt (aP (fOp gLen (aP (fVar 11) (aNil))) (aP (fC (.int 0)) aNil)))) (aP (fVar 11) aNil))) (aNil))) (aL (fIf (fTr (fCall sp__law_has [] (aL (fVar 10) (aL (fVar 5) (aNil))))) (fC (.str "yes")) (fC (.str "no"))) (aNil)))) aNil))))
  (sSeq (sDrop (fApp 8 (fIf (fTr (fCall sp__law_is_each [] (aL (fVar 10) (aL (fVar 4) (aNil))))) (fC (.str "yes")) (fC (.str "no")))))
  (sIf (fTB (fOp gNe (aP (fLc (fSq (fVar 7)) [13] (gN 13) (fYes) (fCall sp__law_out [] (aL (fVar 13) (aL (fVar 10) (aNil))))) (aP (fVar 8) aNil))))
  (sRet (fC (.bool false)))
  (sNext))))))
def g_law_2 : FS := sSeq (sSet 3 (fCall sp__law_some_names [0] (aP (fVar 1) (aL (fLst (aL (fC (.str "x")) (aL (fC (.str "y")) (aL (fC (.str "up")) (aL (fC (.str "down")) (aL (fC (.str "q")) (aL (fC (.str "abcdefgh")) (aNil)))))))) (aL (fOp gAdd (aP (fC (.int 1)) (aP (fCall sp__law_take [0] (aP (fVar 1) (aL (fC (.int 6)) (aNil)))) aNil))) (aNil))))))
  (sSeq (sSet 4 (fOp gTuple (aP (fSl (fCall sp__law_mixed [0] (aP (fVar 1) (aL (fOp gAdd (aP (fOp gList (aP (fVar 3) (aNil))) (aP (fLst (aL (fC (.str "zz")) (aNil))) aNil))) (aNil)))) (oNone) (oSome (fCall sp__law_take [0] (aP (fVar 1) (aL (fC (.int 4)) (aNil)))))) (aNil))))
  (sSeq (sSet 5 (fOp gTuple (aP (fLc (fRgI1 (fCall sp__law_some [0] (aP (fVar 1) (aL (fLst (aL (fC (.int 1)) (aL (fC (.int 2)) (aL (fC (.int 3)) (aL (fC (.int 4)) (aL (fC (.int 6)) (aL (fC (.int 39)) (aNil)))))))) (aNil))))) [9] (gN 9) (fYes) (fCall sp__law_some [0] (aP (fVar 1) (aL (fSl (fVar 3) (oNone) (oSome (fC (.int 2)))) (aNil))))) (aNil))))
  (sSeq (sSet 6 (fOp gAdd (aP (fC (.int 1)) (aP (fCall sp__law_take [0] (aP (fVar 1) (aL (fCall sp__law_some [0] (aP (fVar 1) (aL (fLst (aL (fC (.int 4)) (aL (fC (.int 39)) (aNil)))) (aNil)))) (aNil)))) aNil))))
  (sSeq (sSet 7 (fLst (aL (fCall sp_at_least [] (aL (fVar 3) (aL (fVar 4) (aL (fVar 6) (aNil))))) (aL (fCall sp_greatest [] (aL (fVar 3) (aNil))) (aL (fCall sp_has_row [] (aL (fVar 3) (aL (fVar 5) (aNil)))) (aL (fCall sp_each_time [] (aL (fVar 3) (aL (fVar 4) (aNil)))) (aNil)))))))
  (sSeq (sSet 8 (fLst (aL (fCall sp__law_at_least [] (aL (fVar 3) (aL (fVar 4) (aL (fVar 6) (aNil))))) (aL (fCall sp__law_greatest [] (aL (fVar 3) (aNil))) (aL (fCall sp__law_row_machine [] (aL (fVar 3) (aL (fVar 5) (aNil)))) (aNil))))))
  (sSeq (sIf (fNot (fTr (fCall sp__law_alike [] (aL (fVar 7) (aL (fOp gAdd (aP (fVar 8) (aP (fLst (aL (fCall sp__law_each_time [] (aL (fVar 3) (aL (fVar 4) (aNil)))) (aNil))) aNil))) (aNil))))))
  (sRet (fC (.bool false)))
  (sNext))
  (sFor (fRgI1 (fC (.int 4))) (gN 9)
  (g_law_1))))))))
def g_law : FS := sSeq (sSet 1 (fCall sp__law_bag [] (aL (fVar 0) (aNil))))
  (sSeq (sFor (fRgI1 (fC (.int 5))) (gN 2)
  (g_law_2))
  (sRet (fC (.bool true))))
def sp_law : SpV := bodyV 14 1 [] g_law
/-- what the top has written -/
structure Md (K : Fg) (mg : Mg) : Type where
  f__law_alike : Addr
  d__law_alike : FuncData
  F__law_alike : Fun K "_law_alike" "_law_alike" (topS 16) f__law_alike d__law_alike
  g__law_alike : mg "_law_alike" = some (.ref f__law_alike)
  f__law_at_least : Addr
  d__law_at_least : FuncData
  F__law_at_least : Fun K "_law_at_least" "_law_at_least" (topS 19) f__law_at_least d__law_at_least
  g__law_at_least : mg "_law_at_least" = some (.ref f__law_at_least)
  f__law_bag : Addr
  d__law_bag : FuncData
  F__law_bag : Fun K "_law_bag" "_law_bag" (topS 11) f__law_bag d__law_bag
  g__law_bag : mg "_law_bag" = some (.ref f__law_bag)
  f__law_each_time : Addr
  d__law_each_time : FuncData
  F__law_each_time : Fun K "_law_each_time" "_law_each_time" (topS 21) f__law_each_time d__law_each_time
  g__law_each_time : mg "_law_each_time" = some (.ref f__law_each_time)
  f__law_greatest : Addr
  d__law_greatest : FuncData
  F__law_greatest : Fun K "_law_greatest" "_law_greatest" (topS 20) f__law_greatest d__law_greatest
  g__law_greatest : mg "_law_greatest" = some (.ref f__law_greatest)
  f__law_has : Addr
  d__law_has : FuncData
  F__law_has : Fun K "_law_has" "_law_has" (topS 24) f__law_has d__law_has
  g__law_has : mg "_law_has" = some (.ref f__law_has)
  f__law_is_each : Addr
  d__law_is_each : FuncData
  F__law_is_each : Fun K "_law_is_each" "_law_is_each" (topS 23) f__law_is_each d__law_is_each
  g__law_is_each : mg "_law_is_each" = some (.ref f__law_is_each)
  f__law_take : Addr
  d__law_take : FuncData
  F__law_take : Fun K "_law_take" "_law_take" (topS 12) f__law_take d__law_take
  g__law_take : mg "_law_take" = some (.ref f__law_take)
  f__law_mixed : Addr
  d__law_mixed : FuncData
  F__law_mixed : Fun K "_law_mixed" "_law_mixed" (topS 13) f__law_mixed d__law_mixed
  g__law_mixed : mg "_law_mixed" = some (.ref f__law_mixed)
  f__law_step : Addr
  d__law_step : FuncData
  F__law_step : Fun K "_law_step" "_law_step" (topS 10) f__law_step d__law_step
  g__law_step : mg "_law_step" = some (.ref f__law_step)
  f__law_out : Addr
  d__law_out : FuncData
  F__law_out : Fun K "_law_out" "_law_out" (topS 22) f__law_out d__law_out
  g__law_out : mg "_law_out" = some (.ref f__law_out)
  f__law_last : Addr
  d__law_last : FuncData
  F__law_last : Fun K "_law_last" "_law_last" (topS 17) f__law_last d__law_last
  g__law_last : mg "_law_last" = some (.ref f__law_last)
  f__law_row_machine : Addr
  d__law_row_machine : FuncData
  F__law_row_machine : Fun K "_law_row_machine" "_law_row_machine" (topS 18) f__law_row_machine d__law_row_machine
  g__law_row_machine : mg "_law_row_machine" = some (.ref f__law_row_machine)
  f__law_some : Addr
  d__law_some : FuncData
  F__law_some : Fun K "_law_some" "_law_some" (topS 15) f__law_some d__law_some
  g__law_some : mg "_law_some" = some (.ref f__law_some)
  f__law_some_names : Addr
  d__law_some_names : FuncData
  F__law_some_names : Fun K "_law_some_names" "_law_some_names" (topS 14) f__law_some_names d__law_some_names
  g__law_some_names : mg "_law_some_names" = some (.ref f__law_some_names)
  f_staying : Addr
  d_staying : FuncData
  F_staying : Fun K "staying" "staying" (topS 3) f_staying d_staying
  g_staying : mg "staying" = some (.ref f_staying)
  f_at_least : Addr
  d_at_least : FuncData
  F_at_least : Fun K "at_least" "at_least" (topS 4) f_at_least d_at_least
  g_at_least : mg "at_least" = some (.ref f_at_least)
  f_each_time : Addr
  d_each_time : FuncData
  F_each_time : Fun K "each_time" "each_time" (topS 8) f_each_time d_each_time
  g_each_time : mg "each_time" = some (.ref f_each_time)
  f_greatest : Addr
  d_greatest : FuncData
  F_greatest : Fun K "greatest" "greatest" (topS 5) f_greatest d_greatest
  g_greatest : mg "greatest" = some (.ref f_greatest)
  f_row_behind : Addr
  d_row_behind : FuncData
  F_row_behind : Fun K "row_behind" "row_behind" (topS 6) f_row_behind d_row_behind
  g_row_behind : mg "row_behind" = some (.ref f_row_behind)
  f_has_row : Addr
  d_has_row : FuncData
  F_has_row : Fun K "has_row" "has_row" (topS 7) f_has_row d_has_row
  g_has_row : mg "has_row" = some (.ref f_has_row)
  f_law : Addr
  d_law : FuncData
  F_law : Fun K "law" "law" (topS 25) f_law d_law
  g_law : mg "law" = some (.ref f_law)
  n_abs : mg "abs" = none
  n_enumerate : mg "enumerate" = none
  n_int : mg "int" = none
  n_len : mg "len" = none
  n_list : mg "list" = none
  n_max : mg "max" = none
  n_min : mg "min" = none
  n_range : mg "range" = none
  n_repr : mg "repr" = none
  n_sorted : mg "sorted" = none
  n_tuple : mg "tuple" = none
  c_NO : ∃ t, mg "NO" = some (.str "no" t)
  c_YES : ∃ t, mg "YES" = some (.str "yes" t)
section
variable {P : Program} {w : World} {K : Fg} {mg : Mg} {base : Heap}
theorem Md.k__law_alike (M : Md K mg) : PySem.W.keepIn K (.ref M.f__law_alike) = true := M.F__law_alike.kp
theorem Md.b__law_alike (M : Md K mg) : Binds K M.d__law_alike ["found", "due"] [] := M.F__law_alike.binds (ps := ["found", "due"]) fun _ _ _ _ _ _ us hl => match us, hl with | [_, _], _ => rfl
theorem Md.k__law_at_least (M : Md K mg) : PySem.W.keepIn K (.ref M.f__law_at_least) = true := M.F__law_at_least.kp
theorem Md.b__law_at_least (M : Md K mg) : Binds K M.d__law_at_least ["letters", "some", "many"] [] := M.F__law_at_least.binds (ps := ["letters", "some", "many"]) fun _ _ _ _ _ _ us hl => match us, hl with | [_, _, _], _ => rfl
theorem Md.k__law_bag (M : Md K mg) : PySem.W.keepIn K (.ref M.f__law_bag) = true := M.F__law_bag.kp
theorem Md.b__law_bag (M : Md K mg) : Binds K M.d__law_bag ["script"] [] := M.F__law_bag.binds (ps := ["script"]) fun _ _ _ _ _ _ us hl => match us, hl with | [_], _ => rfl
theorem Md.k__law_each_time (M : Md K mg) : PySem.W.keepIn K (.ref M.f__law_each_time) = true := M.F__law_each_time.kp
theorem Md.b__law_each_time (M : Md K mg) : Binds K M.d__law_each_time ["letters", "some"] [] := M.F__law_each_time.binds (ps := ["letters", "some"]) fun _ _ _ _ _ _ us hl => match us, hl with | [_, _], _ => rfl
theorem Md.k__law_greatest (M : Md K mg) : PySem.W.keepIn K (.ref M.f__law_greatest) = true := M.F__law_greatest.kp
theorem Md.b__law_greatest (M : Md K mg) : Binds K M.d__law_greatest ["letters"] [] := M.F__law_greatest.binds (ps := ["letters"]) fun _ _ _ _ _ _ us hl => match us, hl with | [_], _ => rfl
theorem Md.k__law_has (M : Md K mg) : PySem.W.keepIn K (.ref M.f__law_has) = true := M.F__law_has.kp
theorem Md.b__law_has (M : Md K mg) : Binds K M.d__law_has ["word", "row"] [] := M.F__law_has.binds (ps := ["word", "row"]) fun _ _ _ _ _ _ us hl => match us, hl with | [_, _], _ => rfl
theorem Md.k__law_is_each (M : Md K mg) : PySem.W.keepIn K (.ref M.f__law_is_each) = true := M.F__law_is_each.kp
theorem Md.b__law_is_each (M : Md K mg) : Binds K M.d__law_is_each ["word", "some"] [] := M.F__law_is_each.binds (ps := ["word", "some"]) fun _ _ _ _ _ _ us hl => match us, hl with | [_, _], _ => rfl
theorem Md.k__law_take (M : Md K mg) : PySem.W.keepIn K (.ref M.f__law_take) = true := M.F__law_take.kp
theorem Md.b__law_take (M : Md K mg) : Binds K M.d__law_take ["bag", "many"] [] := M.F__law_take.binds (ps := ["bag", "many"]) fun _ _ _ _ _ _ us hl => match us, hl with | [_, _], _ => rfl
theorem Md.k__law_mixed (M : Md K mg) : PySem.W.keepIn K (.ref M.f__law_mixed) = true := M.F__law_mixed.kp
theorem Md.b__law_mixed (M : Md K mg) : Binds K M.d__law_mixed ["bag", "things"] [] := M.F__law_mixed.binds (ps := ["bag", "things"]) fun _ _ _ _ _ _ us hl => match us, hl with | [_, _], _ => rfl
theorem Md.k__law_step (M : Md K mg) : PySem.W.keepIn K (.ref M.f__law_step) = true := M.F__law_step.kp
theorem Md.b__law_step (M : Md K mg) : Binds K M.d__law_step ["machine", "state", "letter"] [] := M.F__law_step.binds (ps := ["machine", "state", "letter"]) fun _ _ _ _ _ _ us hl => match us, hl with | [_, _, _], _ => rfl
theorem Md.k__law_out (M : Md K mg) : PySem.W.keepIn K (.ref M.f__law_out) = true := M.F__law_out.kp
theorem Md.b__law_out (M : Md K mg) : Binds K M.d__law_out ["machine", "word"] [] := M.F__law_out.binds (ps := ["machine", "word"]) fun _ _ _ _ _ _ us hl => match us, hl with | [_, _], _ => rfl
theorem Md.k__law_last (M : Md K mg) : PySem.W.keepIn K (.ref M.f__law_last) = true := M.F__law_last.kp
theorem Md.b__law_last (M : Md K mg) : Binds K M.d__law_last ["word", "row"] [] := M.F__law_last.binds (ps := ["word", "row"]) fun _ _ _ _ _ _ us hl => match us, hl with | [_, _], _ => rfl
theorem Md.k__law_row_machine (M : Md K mg) : PySem.W.keepIn K (.ref M.f__law_row_machine) = true := M.F__law_row_machine.kp
theorem Md.b__law_row_machine (M : Md K mg) : Binds K M.d__law_row_machine ["letters", "row"] [] := M.F__law_row_machine.binds (ps := ["letters", "row"]) fun _ _ _ _ _ _ us hl => match us, hl with | [_, _], _ => rfl
theorem Md.k__law_some (M : Md K mg) : PySem.W.keepIn K (.ref M.f__law_some) = true := M.F__law_some.kp
theorem Md.b__law_some (M : Md K mg) : Binds K M.d__law_some ["bag", "things"] [] := M.F__law_some.binds (ps := ["bag", "things"]) fun _ _ _ _ _ _ us hl => match us, hl with | [_, _], _ => rfl
theorem Md.k__law_some_names (M : Md K mg) : PySem.W.keepIn K (.ref M.f__law_some_names) = true := M.F__law_some_names.kp
theorem Md.b__law_some_names (M : Md K mg) : Binds K M.d__law_some_names ["bag", "names", "many"] [] := M.F__law_some_names.binds (ps := ["bag", "names", "many"]) fun _ _ _ _ _ _ us hl => match us, hl with | [_, _, _], _ => rfl
theorem Md.k_staying (M : Md K mg) : PySem.W.keepIn K (.ref M.f_staying) = true := M.F_staying.kp
theorem Md.b_staying (M : Md K mg) : Binds K M.d_staying ["many"] [] := M.F_staying.binds (ps := ["many"]) fun _ _ _ _ _ _ us hl => match us, hl with | [_], _ => rfl
theorem Md.k_at_least (M : Md K mg) : PySem.W.keepIn K (.ref M.f_at_least) = true := M.F_at_least.kp
theorem Md.b_at_least (M : Md K mg) : Binds K M.d_at_least ["letters", "some", "many"] [] := M.F_at_least.binds (ps := ["letters", "some", "many"]) fun _ _ _ _ _ _ us hl => match us, hl with | [_, _, _], _ => rfl
theorem Md.k_each_time (M : Md K mg) : PySem.W.keepIn K (.ref M.f_each_time) = true := M.F_each_time.kp
theorem Md.b_each_time (M : Md K mg) : Binds K M.d_each_time ["letters", "some"] [] := M.F_each_time.binds (ps := ["letters", "some"]) fun _ _ _ _ _ _ us hl => match us, hl with | [_, _], _ => rfl
theorem Md.k_greatest (M : Md K mg) : PySem.W.keepIn K (.ref M.f_greatest) = true := M.F_greatest.kp
theorem Md.b_greatest (M : Md K mg) : Binds K M.d_greatest ["letters"] [] := M.F_greatest.binds (ps := ["letters"]) fun _ _ _ _ _ _ us hl => match us, hl with | [_], _ => rfl
theorem Md.k_row_behind (M : Md K mg) : PySem.W.keepIn K (.ref M.f_row_behind) = true := M.F_row_behind.kp
theorem Md.b_row_behind (M : Md K mg) : Binds K M.d_row_behind ["row", "state", "letter"] [] := M.F_row_behind.binds (ps := ["row", "state", "letter"]) fun _ _ _ _ _ _ us hl => match us, hl with | [_, _, _], _ => rfl
theorem Md.k_has_row (M : Md K mg) : PySem.W.keepIn K (.ref M.f_has_row) = true := M.F_has_row.kp
theorem Md.b_has_row (M : Md K mg) : Binds K M.d_has_row ["letters", "row"] [] := M.F_has_row.binds (ps := ["letters", "row"]) fun _ _ _ _ _ _ us hl => match us, hl with | [_, _], _ => rfl
theorem Md.k_law (M : Md K mg) : PySem.W.keepIn K (.ref M.f_law) = true := M.F_law.kp
theorem Md.b_law (M : Md K mg) : Binds K M.d_law ["script"] [] := M.F_law.binds (ps := ["script"]) fun _ _ _ _ _ _ us hl => match us, hl with | [_], _ => rfl
theorem ok__law_alike (M : Md K mg) : FnV P w K mg base 1 M.f__law_alike M.d__law_alike ["found", "due"] [] sp__law_alike := FnV.of (k := 0) M.F__law_alike sc__law_alike fun cdv A outer s H E hr gd => by
  have hu := hu150 hr
  exact vss_one (vs_ret (ve_and (ve_cmp (os_eq hu) (ve_callB (os_repr hu gd) rfl M.n_repr (by decide +kernel) (va_p (ve_v 0) (va_nil))) (ve_callB (os_repr hu gd) rfl M.n_repr (by decide +kernel) (va_p (ve_v 1) (va_nil)))) (ve_one (ve_cmp (os_eq hu) (ve_v 0) (ve_v 1)))))
theorem ok__law_at_least (M : Md K mg) : FnV P w K mg base 1 M.f__law_at_least M.d__law_at_least ["letters", "some", "many"] [] sp__law_at_least := FnV.of (k := 0) M.F__law_at_least sc__law_at_least fun cdv A outer s H E hr gd => by
  have hu := hu150 hr
  exact vss_cons (vs_set (i := 3) sc__law_at_least.nd rfl (.inl rfl) (ve_lst (va_nil)) (.inl rfl)) (vss_cons (vs_for PassesOwn.leaving rfl (vi_sq (ve_v 0)) (vg_n (i := 4) sc__law_at_least.nd rfl (.inl rfl) (.inl rfl)).p (vss_cons (vs_set (i := 5) sc__law_at_least.nd rfl (.inr rfl) (ve_callT (os_int) rfl M.n_int (by decide +kernel) (va_p (ve_cmp (os_in hu) (ve_v 4) (ve_v 1)) (va_nil))) (.inl rfl)) (vss_one (vs_drop (ve_append (i := 3) rfl (by first | exact .inl rfl | exact .inr (.inl rfl) | exact .inr (.inr rfl)) (ve_tup (va_l (ve_v 4) (va_l (ve_callT (os_tuple) rfl M.n_tuple (by decide +kernel) (va_p (ve_lc rfl sc__law_at_least.nd (vi_rg1 rfl M.n_range (ve_bin os_add (ve_v 2) (ve_int))) (own := [(("state" : Str), 6)]) (blkOk_by (by rfl)) (fun _ _ _ _ _ => (vg_n (i := 6) sc__law_at_least.nd rfl (.inl rfl) (.inr rfl)).p) (fun _ _ _ _ _ => vts_nil) (fun _ _ _ _ _ => ve_callB (os_min2 rfl) rfl M.n_min (by decide +kernel) (va_p (ve_v 2) (va_p (ve_bin os_add (ve_v 6) (ve_v 5)) (va_nil))))) (va_nil))) (va_nil))))))))) (vss_one (vs_ret (ve_tup (va_l (ve_callT (os_tuple) rfl M.n_tuple (by decide +kernel) (va_p (ve_v 3) (va_nil))) (va_l (ve_tupRg rfl rfl M.n_tuple (vr_1 rfl M.n_range (ve_bin os_add (ve_v 2) (ve_int)))) (va_l (ve_bin os_add (ve_bin os_mul (ve_tup (va_l (ve_str) (va_nil))) (ve_v 2)) (ve_tup (va_l (ve_str) (va_nil)))) (va_nil))))))))
theorem ok__law_bag (M : Md K mg) : FnV P w K mg base 1 M.f__law_bag M.d__law_bag ["script"] [] sp__law_bag := FnV.of (k := 0) M.F__law_bag sc__law_bag fun cdv A outer s H E hr gd => by
  have hu := hu150 hr
  exact vss_one (vs_ret (ve_lst (va_l (ve_int) (va_l (ve_int) (va_l (ve_int) (va_l (ve_lc rfl sc__law_bag.nd (vi_sq (ve_sl (ve_v 0) (vo_none) (vo_some (ve_int)))) (own := [(("cell" : Str), 1)]) (blkOk_by (by rfl)) (fun _ _ _ _ _ => (vg_n (i := 1) sc__law_bag.nd rfl (.inl rfl) (.inr rfl)).p) (fun _ _ _ _ _ => vts_nil) (fun _ _ _ _ _ => ve_callB (os_abs) rfl M.n_abs (by decide +kernel) (va_p (ve_v 1) (va_nil)))) (va_nil)))))))
theorem ok__law_each_time (M : Md K mg) : FnV P w K mg base 1 M.f__law_each_time M.d__law_each_time ["letters", "some"] [] sp__law_each_time := FnV.of (k := 0) M.F__law_each_time sc__law_each_time fun cdv A outer s H E hr gd => by
  have hu := hu150 hr
  exact vss_cons (vs_set (i := 2) sc__law_each_time.nd rfl (.inl rfl) (ve_callT (os_tuple) rfl M.n_tuple (by decide +kernel) (va_p (ve_lc rfl sc__law_each_time.nd (vi_sq (ve_v 0)) (own := [(("letter" : Str), 3)]) (blkOk_by (by rfl)) (fun _ _ _ _ _ => (vg_n (i := 3) sc__law_each_time.nd rfl (.inl rfl) (.inr rfl)).p) (fun _ _ _ _ _ => vts_nil) (fun _ _ _ _ _ => ve_tup (va_l (ve_v 3) (va_l (ve_if (vt_cmp (os_in hu) (ve_v 3) (ve_v 1)) (ve_tup (va_l (ve_int) (va_l (ve_int) (va_l (ve_int) (va_nil))))) (ve_tup (va_l (ve_int) (va_l (ve_int) (va_l (ve_int) (va_nil)))))) (va_nil))))) (va_nil))) (.inl rfl)) (vss_one (vs_ret (ve_tup (va_l (ve_v 2) (va_l (ve_tup (va_l (ve_int) (va_l (ve_int) (va_l (ve_int) (va_nil))))) (va_l (ve_tup (va_l (ve_str) (va_l (ve_str) (va_l (ve_str) (va_nil))))) (va_nil)))))))
theorem ok__law_greatest (M : Md K mg) : FnV P w K mg base 1 M.f__law_greatest M.d__law_greatest ["letters"] [] sp__law_greatest := FnV.of (k := 0) M.F__law_greatest sc__law_greatest fun cdv A outer s H E hr gd => by
  have hu := hu150 hr
  exact vss_cons (vs_set (i := 1) sc__law_greatest.nd rfl (.inl rfl) (ve_lst (va_nil)) (.inl rfl)) (vss_cons (vs_for PassesOwn.leaving rfl (vi_en rfl M.n_enumerate (ve_v 0)) (vgt_t rfl (vgs_cons (vg_n (i := 2) sc__law_greatest.nd rfl (.inr rfl) (.inl rfl)) (vgs_cons (vg_n (i := 3) sc__law_greatest.nd rfl (.inl rfl) (.inl rfl)) (vgs_nil)))).p (vss_one (vs_drop (ve_append (i := 1) rfl (by first | exact .inl rfl | exact .inr (.inl rfl) | exact .inr (.inr rfl)) (ve_tup (va_l (ve_v 3) (va_l (ve_callT (os_tuple) rfl M.n_tuple (by decide +kernel) (va_p (ve_lc rfl sc__law_greatest.nd (vi_rg1 rfl M.n_range (ve_bin os_add (ve_callB (os_len) rfl M.n_len (by decide +kernel) (va_p (ve_v 0) (va_nil))) (ve_int))) (own := [(("state" : Str), 4)]) (blkOk_by (by rfl)) (fun _ _ _ _ _ => (vg_n (i := 4) sc__law_greatest.nd rfl (.inl rfl) (.inr rfl)).p) (fun _ _ _ _ _ => vts_nil) (fun _ _ _ _ _ => ve_callB (os_max2 rfl) rfl M.n_max (by decide +kernel) (va_p (ve_v 4) (va_p (ve_bin os_add (ve_v 2) (ve_int)) (va_nil))))) (va_nil))) (va_nil)))))))) (vss_one (vs_ret (ve_tup (va_l (ve_callT (os_tuple) rfl M.n_tuple (by decide +kernel) (va_p (ve_v 1) (va_nil))) (va_l (ve_tupRg rfl rfl M.n_tuple (vr_1 rfl M.n_range (ve_bin os_add (ve_callB (os_len) rfl M.n_len (by decide +kernel) (va_p (ve_v 0) (va_nil))) (ve_int)))) (va_l (ve_bin os_add (ve_tup (va_l (ve_str) (va_nil))) (ve_v 0)) (va_nil))))))))
theorem ok__law_has (M : Md K mg) : FnV P w K mg base 1 M.f__law_has M.d__law_has ["word", "row"] [] sp__law_has := FnV.of (k := 0) M.F__law_has sc__law_has fun cdv A outer s H E hr gd => by
  have hu := hu150 hr
  exact vss_cons (vs_set (i := 2) sc__law_has.nd rfl (.inr rfl) (ve_callT (os_tuple) rfl M.n_tuple (by decide +kernel) (va_p (ve_lc rfl sc__law_has.nd (vi_sq (ve_v 0)) (own := [(("part" : Str), 3)]) (blkOk_by (by rfl)) (fun _ _ _ _ _ => (vg_n (i := 3) sc__law_has.nd rfl (.inl rfl) (.inr rfl)).p) (fun _ _ _ _ _ => vts_one (vt_cmp (os_ne hu) (ve_v 3) (ve_str))) (fun _ _ _ _ _ => ve_v 3)) (va_nil))) (.inl rfl)) (vss_one (vs_ret (ve_cmp (os_ne hu) (ve_lc rfl sc__law_has.nd (vi_rg1 rfl M.n_range (ve_bin os_add (ve_callB (os_len) rfl M.n_len (by decide +kernel) (va_p (ve_v 2) (va_nil))) (ve_int))) (own := [(("at" : Str), 4)]) (blkOk_by (by rfl)) (fun _ _ _ _ _ => (vg_n (i := 4) sc__law_has.nd rfl (.inl rfl) (.inr rfl)).p) (fun _ _ _ _ _ => vts_one (vt_cmp (os_eq hu) (ve_sl (ve_v 2) (vo_some (ve_v 4)) (vo_some (ve_bin os_add (ve_v 4) (ve_callB (os_len) rfl M.n_len (by decide +kernel) (va_p (ve_v 1) (va_nil)))))) (ve_v 1))) (fun _ _ _ _ _ => ve_v 4)) (ve_lst (va_nil)))))
theorem ok__law_is_each (M : Md K mg) : FnV P w K mg base 1 M.f__law_is_each M.d__law_is_each ["word", "some"] [] sp__law_is_each := FnV.of (k := 0) M.F__law_is_each sc__law_is_each fun cdv A outer s H E hr gd => by
  have hu := hu150 hr
  exact vss_cons (vs_tup (ve_tup (va_l (ve_bl) (va_l (ve_bl) (va_nil)))) (vgt_t rfl (vgs_cons (vg_n (i := 3) sc__law_is_each.nd rfl (.inl rfl) (.inl rfl)) (vgs_cons (vg_n (i := 4) sc__law_is_each.nd rfl (.inl rfl) (.inl rfl)) (vgs_nil))))) (vss_cons (vs_for PassesOwn.leaving rfl (vi_sq (ve_v 0)) (vg_n (i := 2) sc__law_is_each.nd rfl (.inl rfl) (.inl rfl)).p (vss_one (vs_if (vt_cmp (os_eq hu) (ve_v 2) (ve_str)) (vss_one (vs_par (i := 4) (j := 3) rfl sc__law_is_each.nd rfl rfl (by decide) rfl rfl (ve_and (ve_v 4) (ve_one (ve_v 3))) (ve_bl))) (vss_one (vs_set (i := 3) sc__law_is_each.nd rfl (.inl rfl) (ve_or (ve_v 3) (ve_one (ve_cmp (os_in hu) (ve_v 2) (ve_v 1)))) (.inl rfl)))))) (vss_one (vs_ret (ve_v 4))))
theorem ok__law_take (M : Md K mg) : FnV P w K mg base 1 M.f__law_take M.d__law_take ["bag", "many"] [0] sp__law_take := FnV.of (k := 0) M.F__law_take sc__law_take fun cdv A outer s H E hr gd => by
  have hu := hu150 hr
  exact vss_cons (vs_if (vt_cmp (os_eq hu) (ve_ix (ve_v 0) (ve_int)) (ve_int)) (vss_cons (vs_set (i := 4) sc__law_take.nd rfl (.inl rfl) (ve_ix (ve_bin os_add (ve_sl (ve_ix (ve_v 0) (ve_int)) (vo_some (ve_ix (ve_v 0) (ve_int))) (vo_none)) (ve_lst (va_l (ve_int) (va_nil)))) (ve_int)) (.inl rfl)) (vss_cons (vs_augIx (i := 0) rfl (by first | exact .inl rfl | exact .inr (.inl rfl) | exact .inr (.inr rfl)) (ve_int) (ve_int) au_add) (vss_cons (vs_if (vt_cmp (os_ge hu) (ve_v 4) (ve_bin os_pow (ve_int) (ve_int))) (vss_one (vs_setIx (i := 0) rfl (by first | exact .inl rfl | exact .inr (.inl rfl) | exact .inr (.inr rfl)) (ve_v 4) (ve_int))) (vss_nil)) (vss_cons (vs_set (i := 5) sc__law_take.nd rfl (.inl rfl) (ve_bin os_add (ve_bin os_add (ve_bin os_mul (ve_ix (ve_v 0) (ve_int)) (ve_int)) (ve_bin os_mod (ve_callT (os_int) rfl M.n_int (by decide +kernel) (va_p (ve_v 4) (va_nil))) (ve_int))) (ve_bin os_mul (ve_int) (ve_ix (ve_v 0) (ve_int)))) (.inl rfl)) (vss_one (vs_setIx (i := 0) rfl (by first | exact .inl rfl | exact .inr (.inl rfl) | exact .inr (.inr rfl)) (ve_bin os_mod (ve_callT (os_int) rfl M.n_int (by decide +kernel) (va_p (ve_v 5) (va_nil))) (ve_int)) (ve_int))))))) (vss_nil)) (vss_cons (vs_if (vt_cmp (os_gt hu) (ve_ix (ve_v 0) (ve_int)) (ve_int)) (vss_cons (vs_set (i := 6) sc__law_take.nd rfl (.inl rfl) (ve_bin os_mod (ve_callT (os_int) rfl M.n_int (by decide +kernel) (va_p (ve_ix (ve_v 0) (ve_int)) (va_nil))) (ve_v 1)) (.inl rfl)) (vss_cons (vs_setIx (i := 0) rfl (by first | exact .inl rfl | exact .inr (.inl rfl) | exact .inr (.inr rfl)) (ve_bin os_div (ve_callT (os_int) rfl M.n_int (by decide +kernel) (va_p (ve_ix (ve_v 0) (ve_int)) (va_nil))) (ve_v 1)) (ve_int)) (vss_one (vs_ret (ve_v 6))))) (vss_nil)) (vss_cons (vs_set (i := 2) sc__law_take.nd rfl (.inl rfl) (ve_bin os_mod (ve_callT (os_int) rfl M.n_int (by decide +kernel) (va_p (ve_bin os_mul (ve_bin os_add (ve_ix (ve_v 0) (ve_int)) (ve_int)) (ve_int)) (va_nil))) (ve_int)) (.inl rfl)) (vss_cons (vs_set (i := 3) sc__law_take.nd rfl (.inl rfl) (ve_bin os_mod (ve_callT (os_int) rfl M.n_int (by decide +kernel) (va_p (ve_bin os_mul (ve_bin os_mod (ve_callT (os_int) rfl M.n_int (by decide +kernel) (va_p (ve_bin os_mul (ve_v 2) (ve_v 2)) (va_nil))) (ve_int)) (ve_int)) (va_nil))) (ve_int)) (.inl rfl)) (vss_one (vs_ret (ve_bin os_mod (ve_callT (os_int) rfl M.n_int (by decide +kernel) (va_p (ve_bin os_div (ve_v 3) (ve_int)) (va_nil))) (ve_v 1)))))))
theorem ok__law_mixed (M : Md K mg) : FnV P w K mg base 2 M.f__law_mixed M.d__law_mixed ["bag", "things"] [0] sp__law_mixed := FnV.of (k := 1) M.F__law_mixed sc__law_mixed fun cdv A outer s H E hr gd => by
  have hu := hu150 hr
  exact vss_cons (vs_par (i := 2) (j := 3) rfl sc__law_mixed.nd rfl rfl (by decide) rfl rfl (ve_callT (os_list) rfl M.n_list (by decide +kernel) (va_p (ve_v 1) (va_nil))) (ve_lst (va_nil))) (vss_cons (vs_while PassesOwn.leaving (vt_cmp (os_ne hu) (ve_v 2) (ve_lst (va_nil))) (vss_one (vs_drop (ve_append (i := 3) rfl (by first | exact .inl rfl | exact .inr (.inl rfl) | exact .inr (.inr rfl)) (ve_popAt (i := 2) rfl (by first | exact .inl rfl | exact .inr (.inl rfl) | exact .inr (.inr rfl)) (ve_call (ok__law_take M) (hr.mono (by decide)) gd rfl M.g__law_take M.k__law_take M.b__law_take (va_p (ve_v 0) (va_l (ve_callB (os_len) rfl M.n_len (by decide +kernel) (va_p (ve_v 2) (va_nil))) (va_nil))))))))) (vss_one (vs_ret (ve_v 3))))
theorem ok__law_step (M : Md K mg) : FnV P w K mg base 1 M.f__law_step M.d__law_step ["machine", "state", "letter"] [] sp__law_step := FnV.of (k := 0) M.F__law_step sc__law_step fun cdv A outer s H E hr gd => by
  have hu := hu150 hr
  exact vss_one (vs_ret (ve_ix (ve_ix (ve_lc rfl sc__law_step.nd (vi_sq (ve_ix (ve_v 0) (ve_int))) (own := [(("one" : Str), 3), (("states" : Str), 4)]) (blkOk_by (by rfl)) (fun _ _ _ _ _ => (vgt_t rfl (vgs_cons (vg_n (i := 3) sc__law_step.nd rfl (.inl rfl) (.inr rfl)) (vgs_cons (vg_n (i := 4) sc__law_step.nd rfl (.inl rfl) (.inr rfl)) (vgs_nil)))).p) (fun _ _ _ _ _ => vts_one (vt_cmp (os_eq hu) (ve_v 3) (ve_v 2))) (fun _ _ _ _ _ => ve_v 4)) (ve_int)) (ve_v 1)))
theorem ok__law_out (M : Md K mg) : FnV P w K mg base 2 M.f__law_out M.d__law_out ["machine", "word"] [] sp__law_out := FnV.of (k := 1) M.F__law_out sc__law_out fun cdv A outer s H E hr gd => by
  have hu := hu150 hr
  exact vss_cons (vs_set (i := 2) sc__law_out.nd rfl (.inl rfl) (ve_int) (.inl rfl)) (vss_cons (vs_for PassesOwn.leaving rfl (vi_sq (ve_v 1)) (vg_n (i := 3) sc__law_out.nd rfl (.inl rfl) (.inl rfl)).p (vss_one (vs_set (i := 2) sc__law_out.nd rfl (.inl rfl) (ve_if (vt_cmp (os_eq hu) (ve_v 3) (ve_str)) (ve_ix (ve_ix (ve_v 0) (ve_int)) (ve_v 2)) (ve_call (ok__law_step M) (hr.mono (by decide)) gd rfl M.g__law_step M.k__law_step M.b__law_step (va_l (ve_v 0) (va_l (ve_v 2) (va_l (ve_v 3) (va_nil)))))) (.inl rfl)))) (vss_one (vs_ret (ve_ix (ve_ix (ve_v 0) (ve_int)) (ve_v 2)))))
theorem ok__law_last (M : Md K mg) : FnV P w K mg base 1 M.f__law_last M.d__law_last ["word", "row"] [] sp__law_last := FnV.of (k := 0) M.F__law_last sc__law_last fun cdv A outer s H E hr gd => by
  have hu := hu150 hr
  exact vss_one (vs_ret (ve_callB (os_max1 hu rfl) rfl M.n_max (by decide +kernel) (va_p (ve_lc rfl sc__law_last.nd (vi_rg1 rfl M.n_range (ve_bin os_add (ve_callB (os_min2 rfl) rfl M.n_min (by decide +kernel) (va_p (ve_callB (os_len) rfl M.n_len (by decide +kernel) (va_p (ve_v 0) (va_nil))) (va_p (ve_callB (os_len) rfl M.n_len (by decide +kernel) (va_p (ve_v 1) (va_nil))) (va_nil)))) (ve_int))) (own := [(("many" : Str), 2)]) (blkOk_by (by rfl)) (fun _ _ _ _ _ => (vg_n (i := 2) sc__law_last.nd rfl (.inl rfl) (.inr rfl)).p) (fun _ _ _ _ _ => vts_one (vt_cmp (os_eq hu) (ve_sl (ve_v 0) (vo_some (ve_bin os_sub (ve_callB (os_len) rfl M.n_len (by decide +kernel) (va_p (ve_v 0) (va_nil))) (ve_v 2))) (vo_none)) (ve_sl (ve_v 1) (vo_none) (vo_some (ve_v 2))))) (fun _ _ _ _ _ => ve_v 2)) (va_nil))))
theorem ok__law_row_machine (M : Md K mg) : FnV P w K mg base 2 M.f__law_row_machine M.d__law_row_machine ["letters", "row"] [] sp__law_row_machine := FnV.of (k := 1) M.F__law_row_machine sc__law_row_machine fun cdv A outer s H E hr gd => by
  have hu := hu150 hr
  exact vss_cons (vs_par (i := 3) (j := 4) rfl sc__law_row_machine.nd rfl rfl (by decide) rfl rfl (ve_callB (os_len) rfl M.n_len (by decide +kernel) (va_p (ve_v 1) (va_nil))) (ve_lst (va_nil))) (vss_cons (vs_for PassesOwn.leaving rfl (vi_sq (ve_v 0)) (vg_n (i := 2) sc__law_row_machine.nd rfl (.inr rfl) (.inl rfl)).p (vss_cons (vs_setLc (i := 5) rfl sc__law_row_machine.nd rfl rfl (sw_true rfl rfl rfl rfl) (vi_rg1 rfl M.n_range (ve_v 3)) (own := [(("state" : Str), 6)]) (blkOk_by (by rfl)) (fun _ _ _ _ _ => (vg_n (i := 6) sc__law_row_machine.nd rfl (.inl rfl) (.inr rfl)).p) (fun _ _ _ _ _ => vts_nil) (fun _ _ _ _ _ => ve_call (ok__law_last M) (hr.mono (by decide)) gd rfl M.g__law_last M.k__law_last M.b__law_last (va_l (ve_bin os_add (ve_sl (ve_v 1) (vo_none) (vo_some (ve_v 6))) (ve_tup (va_l (ve_v 2) (va_nil)))) (va_l (ve_v 1) (va_nil))))) (vss_one (vs_drop (ve_append (i := 4) rfl (by first | exact .inl rfl | exact .inr (.inl rfl) | exact .inr (.inr rfl)) (ve_tup (va_l (ve_v 2) (va_l (ve_bin os_add (ve_callT (os_tuple) rfl M.n_tuple (by decide +kernel) (va_p (ve_v 5) (va_nil))) (ve_tup (va_l (ve_v 3) (va_nil)))) (va_nil))))))))) (vss_one (vs_ret (ve_tup (va_l (ve_callT (os_tuple) rfl M.n_tuple (by decide +kernel) (va_p (ve_v 4) (va_nil))) (va_l (ve_tupRg rfl rfl M.n_tuple (vr_1 rfl M.n_range (ve_bin os_add (ve_v 3) (ve_int)))) (va_l (ve_bin os_add (ve_bin os_mul (ve_tup (va_l (ve_str) (va_nil))) (ve_v 3)) (ve_tup (va_l (ve_str) (va_nil)))) (va_nil))))))))
theorem ok__law_some (M : Md K mg) : FnV P w K mg base 2 M.f__law_some M.d__law_some ["bag", "things"] [0] sp__law_some := FnV.of (k := 1) M.F__law_some sc__law_some fun cdv A outer s H E hr gd => by
  have hu := hu150 hr
  exact vss_one (vs_ret (ve_ix (ve_v 1) (ve_call (ok__law_take M) (hr.mono (by decide)) gd rfl M.g__law_take M.k__law_take M.b__law_take (va_p (ve_v 0) (va_l (ve_callB (os_len) rfl M.n_len (by decide +kernel) (va_p (ve_v 1) (va_nil))) (va_nil))))))
theorem ok__law_some_names (M : Md K mg) : FnV P w K mg base 3 M.f__law_some_names M.d__law_some_names ["bag", "names", "many"] [0] sp__law_some_names := FnV.of (k := 2) M.F__law_some_names sc__law_some_names fun cdv A outer s H E hr gd => by
  have hu := hu150 hr
  exact vss_one (vs_ret (ve_callT (os_tuple) rfl M.n_tuple (by decide +kernel) (va_p (ve_callB (os_sorted hu) rfl M.n_sorted (by decide +kernel) (va_p (ve_sl (ve_call (ok__law_mixed M) (hr.mono (by decide)) gd rfl M.g__law_mixed M.k__law_mixed M.b__law_mixed (va_p (ve_v 0) (va_l (ve_v 1) (va_nil)))) (vo_none) (vo_some (ve_v 2))) (va_nil))) (va_nil))))
theorem ok_staying (M : Md K mg) : FnV P w K mg base 1 M.f_staying M.d_staying ["many"] [] sp_staying := FnV.of (k := 0) M.F_staying sc_staying fun cdv A outer s H E hr gd => by
  have hu := hu150 hr
  exact vss_one (vs_ret (ve_tupRg rfl rfl M.n_tuple (vr_1 rfl M.n_range (ve_v 0))))
theorem ok_at_least (M : Md K mg) : FnV P w K mg base 2 M.f_at_least M.d_at_least ["letters", "some", "many"] [] sp_at_least := FnV.of (k := 1) M.F_at_least sc_at_least fun cdv A outer s H E hr gd => by
  have hu := hu150 hr
  exact vss_cons (vs_set (i := 3) sc_at_least.nd rfl (.inr rfl) (ve_callT (os_tuple) rfl M.n_tuple (by decide +kernel) (va_p (ve_lc rfl sc_at_least.nd (vi_rg1 rfl M.n_range (ve_bin os_add (ve_v 2) (ve_int))) (own := [(("state" : Str), 5)]) (blkOk_by (by rfl)) (fun _ _ _ _ _ => (vg_n (i := 5) sc_at_least.nd rfl (.inl rfl) (.inr rfl)).p) (fun _ _ _ _ _ => vts_nil) (fun _ _ _ _ _ => ve_callB (os_min2 rfl) rfl M.n_min (by decide +kernel) (va_p (ve_bin os_add (ve_v 5) (ve_int)) (va_p (ve_v 2) (va_nil))))) (va_nil))) (.inl rfl)) (vss_cons (vs_set (i := 4) sc_at_least.nd rfl (.inl rfl) (ve_callT (os_tuple) rfl M.n_tuple (by decide +kernel) (va_p (ve_lc rfl sc_at_least.nd (vi_sq (ve_v 0)) (own := [(("letter" : Str), 6)]) (blkOk_by (by rfl)) (fun _ _ _ _ _ => (vg_n (i := 6) sc_at_least.nd rfl (.inl rfl) (.inr rfl)).p) (fun _ _ _ _ _ => vts_nil) (fun _ _ _ _ _ => ve_tup (va_l (ve_v 6) (va_l (ve_if (vt_cmp (os_in hu) (ve_v 6) (ve_v 1)) (ve_v 3) (ve_call (ok_staying M) (hr.mono (by decide)) gd rfl M.g_staying M.k_staying M.b_staying (va_l (ve_bin os_add (ve_v 2) (ve_int)) (va_nil)))) (va_nil))))) (va_nil))) (.inl rfl)) (vss_one (vs_ret (ve_tup (va_l (ve_v 4) (va_l (ve_call (ok_staying M) (hr.mono (by decide)) gd rfl M.g_staying M.k_staying M.b_staying (va_l (ve_bin os_add (ve_v 2) (ve_int)) (va_nil))) (va_l (ve_bin os_add (ve_bin os_mul (ve_tup (va_l (ve_gS rfl M.c_NO) (va_nil))) (ve_v 2)) (ve_tup (va_l (ve_gS rfl M.c_YES) (va_nil)))) (va_nil))))))))
theorem ok_each_time (M : Md K mg) : FnV P w K mg base 2 M.f_each_time M.d_each_time ["letters", "some"] [] sp_each_time := FnV.of (k := 1) M.F_each_time sc_each_time fun cdv A outer s H E hr gd => by
  have hu := hu150 hr
  exact vss_cons (vs_set (i := 2) sc_each_time.nd rfl (.inl rfl) (ve_callT (os_tuple) rfl M.n_tuple (by decide +kernel) (va_p (ve_lc rfl sc_each_time.nd (vi_sq (ve_v 0)) (own := [(("letter" : Str), 3)]) (blkOk_by (by rfl)) (fun _ _ _ _ _ => (vg_n (i := 3) sc_each_time.nd rfl (.inl rfl) (.inr rfl)).p) (fun _ _ _ _ _ => vts_nil) (fun _ _ _ _ _ => ve_tup (va_l (ve_v 3) (va_l (ve_if (vt_cmp (os_in hu) (ve_v 3) (ve_v 1)) (ve_tup (va_l (ve_int) (va_l (ve_int) (va_l (ve_int) (va_nil))))) (ve_call (ok_staying M) (hr.mono (by decide)) gd rfl M.g_staying M.k_staying M.b_staying (va_l (ve_int) (va_nil)))) (va_nil))))) (va_nil))) (.inl rfl)) (vss_one (vs_ret (ve_tup (va_l (ve_v 2) (va_l (ve_tup (va_l (ve_int) (va_l (ve_int) (va_l (ve_int) (va_nil))))) (va_l (ve_tup (va_l (ve_gS rfl M.c_YES) (va_l (ve_gS rfl M.c_YES) (va_l (ve_gS rfl M.c_NO) (va_nil))))) (va_nil)))))))
theorem ok_greatest (M : Md K mg) : FnV P w K mg base 2 M.f_greatest M.d_greatest ["letters"] [] sp_greatest := FnV.of (k := 1) M.F_greatest sc_greatest fun cdv A outer s H E hr gd => by
  have hu := hu150 hr
  exact vss_cons (vs_set (i := 1) sc_greatest.nd rfl (.inr rfl) (ve_bin os_add (ve_callB (os_len) rfl M.n_len (by decide +kernel) (va_p (ve_v 0) (va_nil))) (ve_int)) (.inl rfl)) (vss_cons (vs_setLc (i := 2) rfl sc_greatest.nd rfl rfl (sw_true rfl rfl rfl rfl) (vi_enK rfl M.n_enumerate (ve_v 0) (ve_int)) (own := [(("at" : Str), 3), (("letter" : Str), 4)]) (blkOk_by (by rfl)) (fun _ _ _ _ _ => (vgt_t rfl (vgs_cons (vg_n (i := 3) sc_greatest.nd rfl (.inr rfl) (.inl rfl)) (vgs_cons (vg_n (i := 4) sc_greatest.nd rfl (.inl rfl) (.inr rfl)) (vgs_nil)))).p) (fun _ _ _ _ _ => vts_nil) (fun _ _ _ _ _ => ve_tup (va_l (ve_v 4) (va_l (ve_callT (os_tuple) rfl M.n_tuple (by decide +kernel) (va_p (ve_lc rfl sc_greatest.nd (vi_rg1 rfl M.n_range (ve_v 1)) (own := [(("state" : Str), 5)]) (blkOk_by (by rfl)) (fun _ _ _ _ _ => (vg_n (i := 5) sc_greatest.nd rfl (.inl rfl) (.inr rfl)).p) (fun _ _ _ _ _ => vts_nil) (fun _ _ _ _ _ => ve_callB (os_max2 rfl) rfl M.n_max (by decide +kernel) (va_p (ve_v 5) (va_p (ve_v 3) (va_nil))))) (va_nil))) (va_nil))))) (vss_one (vs_ret (ve_tup (va_l (ve_callT (os_tuple) rfl M.n_tuple (by decide +kernel) (va_p (ve_v 2) (va_nil))) (va_l (ve_call (ok_staying M) (hr.mono (by decide)) gd rfl M.g_staying M.k_staying M.b_staying (va_l (ve_v 1) (va_nil))) (va_l (ve_tup (va_l (ve_str) (va_s (ve_v 0) (va_nil)))) (va_nil))))))))
theorem ok_row_behind (M : Md K mg) : FnV P w K mg base 1 M.f_row_behind M.d_row_behind ["row", "state", "letter"] [] sp_row_behind := FnV.of (k := 0) M.F_row_behind sc_row_behind fun cdv A outer s H E hr gd => by
  have hu := hu150 hr
  exact vss_cons (vs_if (vt_cmp (os_eq hu) (ve_v 1) (ve_callB (os_len) rfl M.n_len (by decide +kernel) (va_p (ve_v 0) (va_nil)))) (vss_one (vs_ret (ve_v 1))) (vss_nil)) (vss_cons (vs_set (i := 3) sc_row_behind.nd rfl (.inr rfl) (ve_tup (va_s (ve_sl (ve_v 0) (vo_none) (vo_some (ve_v 1))) (va_l (ve_v 2) (va_nil)))) (.inl rfl)) (vss_one (vs_ret (ve_callB (os_max1 hu rfl) rfl M.n_max (by decide +kernel) (va_p (ve_lc rfl sc_row_behind.nd (vi_rg1 rfl M.n_range (ve_bin os_add (ve_v 1) (ve_int))) (own := [(("many" : Str), 4)]) (blkOk_by (by rfl)) (fun _ _ _ _ _ => (vg_n (i := 4) sc_row_behind.nd rfl (.inl rfl) (.inr rfl)).p) (fun _ _ _ _ _ => vts_one (vt_cmp (os_eq hu) (ve_sl (ve_v 0) (vo_none) (vo_some (ve_v 4))) (ve_sl (ve_v 3) (vo_some (ve_bin os_sub (ve_callB (os_len) rfl M.n_len (by decide +kernel) (va_p (ve_v 3) (va_nil))) (ve_v 4))) (vo_none)))) (fun _ _ _ _ _ => ve_v 4)) (va_nil))))))
theorem ok_has_row (M : Md K mg) : FnV P w K mg base 2 M.f_has_row M.d_has_row ["letters", "row"] [] sp_has_row := FnV.of (k := 1) M.F_has_row sc_has_row fun cdv A outer s H E hr gd => by
  have hu := hu150 hr
  exact vss_cons (vs_set (i := 2) sc_has_row.nd rfl (.inr rfl) (ve_bin os_add (ve_callB (os_len) rfl M.n_len (by decide +kernel) (va_p (ve_v 1) (va_nil))) (ve_int)) (.inl rfl)) (vss_cons (vs_setLc (i := 3) rfl sc_has_row.nd rfl rfl (sw_true rfl rfl rfl rfl) (vi_sq (ve_v 0)) (own := [(("letter" : Str), 4)]) (blkOk_by (by rfl)) (fun _ _ _ _ _ => (vg_n (i := 4) sc_has_row.nd rfl (.inr rfl) (.inl rfl)).p) (fun _ _ _ _ _ => vts_nil) (fun _ _ _ _ _ => ve_tup (va_l (ve_v 4) (va_l (ve_callT (os_tuple) rfl M.n_tuple (by decide +kernel) (va_p (ve_lc rfl sc_has_row.nd (vi_rg1 rfl M.n_range (ve_v 2)) (own := [(("state" : Str), 5)]) (blkOk_by (by rfl)) (fun _ _ _ _ _ => (vg_n (i := 5) sc_has_row.nd rfl (.inl rfl) (.inr rfl)).p) (fun _ _ _ _ _ => vts_nil) (fun _ _ _ _ _ => ve_call (ok_row_behind M) (hr.mono (by decide)) gd rfl M.g_row_behind M.k_row_behind M.b_row_behind (va_l (ve_v 1) (va_l (ve_v 5) (va_l (ve_v 4) (va_nil)))))) (va_nil))) (va_nil))))) (vss_one (vs_ret (ve_tup (va_l (ve_callT (os_tuple) rfl M.n_tuple (by decide +kernel) (va_p (ve_v 3) (va_nil))) (va_l (ve_call (ok_staying M) (hr.mono (by decide)) gd rfl M.g_staying M.k_staying M.b_staying (va_l (ve_v 2) (va_nil))) (va_l (ve_bin os_add (ve_bin os_mul (ve_tup (va_l (ve_gS rfl M.c_NO) (va_nil))) (ve_callB (os_len) rfl M.n_len (by decide +kernel) (va_p (ve_v 1) (va_nil)))) (ve_tup (va_l (ve_gS rfl M.c_YES) (va_nil)))) (va_nil))))))))
theorem ok_law (M : Md K mg) : FnV P w K mg base 4 M.f_law M.d_law ["script"] [] sp_law := FnV.of (k := 3) M.F_law sc_law fun cdv A outer s H E hr gd => by
  have hu := hu150 hr
  exact vss_cons (vs_set (i := 1) sc_law.nd rfl (.inr rfl) (ve_call (ok__law_bag M) (hr.mono (by decide)) gd rfl M.g__law_bag M.k__law_bag M.b__law_bag (va_l (ve_v 0) (va_nil))) (.inl rfl)) (vss_cons (vs_for PassesOwn.leaving rfl (vi_rg1 rfl M.n_range (ve_int)) (vg_n (i := 2) sc_law.nd rfl (.inl rfl) (.inl rfl)).p (vss_cons (vs_set (i := 3) sc_law.nd rfl (.inr rfl) (ve_call (ok__law_some_names M) (hr.mono (by decide)) gd rfl M.g__law_some_names M.k__law_some_names M.b__law_some_names (va_p (ve_v 1) (va_l (ve_lst (va_l (ve_str) (va_l (ve_str) (va_l (ve_str) (va_l (ve_str) (va_l (ve_str) (va_l (ve_str) (va_nil)))))))) (va_l (ve_bin os_add (ve_int) (ve_call (ok__law_take M) (hr.mono (by decide)) gd rfl M.g__law_take M.k__law_take M.b__law_take (va_p (ve_v 1) (va_l (ve_int) (va_nil))))) (va_nil))))) (.inl rfl)) (vss_cons (vs_set (i := 4) sc_law.nd rfl (.inr rfl) (ve_callT (os_tuple) rfl M.n_tuple (by decide +kernel) (va_p (ve_sl (ve_call (ok__law_mixed M) (hr.mono (by decide)) gd rfl M.g__law_mixed M.k__law_mixed M.b__law_mixed (va_p (ve_v 1) (va_l (ve_bin os_add (ve_callT (os_list) rfl M.n_list (by decide +kernel) (va_p (ve_v 3) (va_nil))) (ve_lst (va_l (ve_str) (va_nil)))) (va_nil)))) (vo_none) (vo_some (ve_call (ok__law_take M) (hr.mono (by decide)) gd rfl M.g__law_take M.k__law_take M.b__law_take (va_p (ve_v 1) (va_l (ve_int) (va_nil)))))) (va_nil))) (.inl rfl)) (vss_cons (vs_set (i := 5) sc_law.nd rfl (.inl rfl) (ve_callT (os_tuple) rfl M.n_tuple (by decide +kernel) (va_p (ve_lc rfl sc_law.nd (vi_rg1 rfl M.n_range (ve_call (ok__law_some M) (hr.mono (by decide)) gd rfl M.g__law_some M.k__law_some M.b__law_some (va_p (ve_v 1) (va_l (ve_lst (va_l (ve_int) (va_l (ve_int) (va_l (ve_int) (va_l (ve_int) (va_l (ve_int) (va_l (ve_int) (va_nil)))))))) (va_nil))))) (own := [(("more" : Str), 9)]) (blkOk_by (by rfl)) (fun _ _ _ _ _ => (vg_n (i := 9) sc_law.nd rfl (.inl rfl) (.inr rfl)).p) (fun _ _ _ _ _ => vts_nil) (fun _ _ _ _ _ => ve_call (ok__law_some M) (hr.mono (by decide)) gd rfl M.g__law_some M.k__law_some M.b__law_some (va_p (ve_v 1) (va_l (ve_sl (ve_v 3) (vo_none) (vo_some (ve_int))) (va_nil))))) (va_nil))) (.inl rfl)) (vss_cons (vs_set (i := 6) sc_law.nd rfl (.inl rfl) (ve_bin os_add (ve_int) (ve_call (ok__law_take M) (hr.mono (by decide)) gd rfl M.g__law_take M.k__law_take M.b__law_take (va_p (ve_v 1) (va_l (ve_call (ok__law_some M) (hr.mono (by decide)) gd rfl M.g__law_some M.k__law_some M.b__law_some (va_p (ve_v 1) (va_l (ve_lst (va_l (ve_int) (va_l (ve_int) (va_nil)))) (va_nil)))) (va_nil))))) (.inl rfl)) (vss_cons (vs_set (i := 7) sc_law.nd rfl (.inl rfl) (ve_lst (va_l (ve_call (ok_at_least M) (hr.mono (by decide)) gd rfl M.g_at_least M.k_at_least M.b_at_least (va_l (ve_v 3) (va_l (ve_v 4) (va_l (ve_v 6) (va_nil))))) (va_l (ve_call (ok_greatest M) (hr.mono (by decide)) gd rfl M.g_greatest M.k_greatest M.b_greatest (va_l (ve_v 3) (va_nil))) (va_l (ve_call (ok_has_row M) (hr.mono (by decide)) gd rfl M.g_has_row M.k_has_row M.b_has_row (va_l (ve_v 3) (va_l (ve_v 5) (va_nil)))) (va_l (ve_call (ok_each_time M) (hr.mono (by decide)) gd rfl M.g_each_time M.k_each_time M.b_each_time (va_l (ve_v 3) (va_l (ve_v 4) (va_nil)))) (va_nil)))))) (.inl rfl)) (vss_cons (vs_set (i := 8) sc_law.nd rfl (.inl rfl) (ve_lst (va_l (ve_call (ok__law_at_least M) (hr.mono (by decide)) gd rfl M.g__law_at_least M.k__law_at_least M.b__law_at_least (va_l (ve_v 3) (va_l (ve_v 4) (va_l (ve_v 6) (va_nil))))) (va_l (ve_call (ok__law_greatest M) (hr.mono (by decide)) gd rfl M.g__law_greatest M.k__law_greatest M.b__law_greatest (va_l (ve_v 3) (va_nil))) (va_l (ve_call (ok__law_row_machine M) (hr.mono (by decide)) gd rfl M.g__law_row_machine M.k__law_row_machine M.b__law_row_machine (va_l (ve_v 3) (va_l (ve_v 5) (va_nil)))) (va_nil))))) (.inl rfl)) (vss_cons (vs_if (vt_not (vt_tru (ve_call (ok__law_alike M) (hr.mono (by decide)) gd rfl M.g__law_alike M.k__law_alike M.b__law_alike (va_l (ve_v 7) (va_l (ve_bin os_add (ve_v 8) (ve_lst (va_l (ve_call (ok__law_each_time M) (hr.mono (by decide)) gd rfl M.g__law_each_time M.k__law_each_time M.b__law_each_time (va_l (ve_v 3) (va_l (ve_v 4) (va_nil)))) (va_nil)))) (va_nil)))))) (vss_one (vs_ret (ve_bl))) (vss_nil)) (vss_one (vs_for PassesOwn.leaving rfl (vi_rg1 rfl M.n_range (ve_int)) (vg_n (i := 9) sc_law.nd rfl (.inl rfl) (.inl rfl)).p (vss_cons (vs_set (i := 10) sc_law.nd rfl (.inr rfl) (ve_bin os_add (ve_lc rfl sc_law.nd (vi_rg1 rfl M.n_range (ve_call (ok__law_take M) (hr.mono (by decide)) gd rfl M.g__law_take M.k__law_take M.b__law_take (va_p (ve_v 1) (va_l (ve_int) (va_nil))))) (own := [(("part" : Str), 12)]) (blkOk_by (by rfl)) (fun _ _ _ _ _ => (vg_n (i := 12) sc_law.nd rfl (.inl rfl) (.inr rfl)).p) (fun _ _ _ _ _ => vts_nil) (fun _ _ _ _ _ => ve_call (ok__law_some M) (hr.mono (by decide)) gd rfl M.g__law_some M.k__law_some M.b__law_some (va_p (ve_v 1) (va_l (ve_bin os_add (ve_callT (os_list) rfl M.n_list (by decide +kernel) (va_p (ve_sl (ve_v 3) (vo_none) (vo_some (ve_int))) (va_nil))) (ve_lst (va_l (ve_str) (va_nil)))) (va_nil))))) (ve_lst (va_l (ve_str) (va_nil)))) (.inl rfl)) (vss_cons (vs_setLc (i := 11) rfl sc_law.nd rfl rfl (sw_true rfl rfl rfl rfl) (vi_sq (ve_v 10)) (own := [(("part" : Str), 12)]) (blkOk_by (by rfl)) (fun _ _ _ _ _ => (vg_n (i := 12) sc_law.nd rfl (.inl rfl) (.inr rfl)).p) (fun _ _ _ _ _ => vts_one (vt_cmp (os_ne hu) (ve_v 12) (ve_str))) (fun _ _ _ _ _ => ve_v 12)) (vss_cons (vs_set (i := 8) sc_law.nd rfl (.inl rfl) (ve_lst (va_l (ve_if (vt_cmp (os_ge hu) (ve_callB (os_len) rfl M.n_len (by decide +kernel) (va_p (ve_lc rfl sc_law.nd (vi_sq (ve_v 11)) (own := [(("part" : Str), 12)]) (blkOk_by (by rfl)) (fun _ _ _ _ _ => (vg_n (i := 12) sc_law.nd rfl (.inl rfl) (.inr rfl)).p) (fun _ _ _ _ _ => vts_one (vt_cmp (os_in hu) (ve_v 12) (ve_v 4))) (fun _ _ _ _ _ => ve_int)) (va_nil))) (ve_v 6)) (ve_str) (ve_str)) (va_nil))) (.inl rfl)) (vss_cons (vs_set (i := 8) sc_law.nd rfl (.inl rfl) (ve_bin os_add (ve_v 8) (ve_lst (va_l (ve_callB (os_max1 hu rfl) rfl M.n_max (by decide +kernel) (va_p (ve_bin os_add (ve_slB (ve_lst (va_l (ve_str) (va_nil))) (ve_cmp (os_gt hu) (ve_callB (os_len) rfl M.n_len (by decide +kernel) (va_p (ve_v 11) (va_nil))) (ve_int))) (ve_v 11)) (va_nil))) (va_l (ve_if (vt_tru (ve_call (ok__law_has M) (hr.mono (by decide)) gd rfl M.g__law_has M.k__law_has M.b__law_has (va_l (ve_v 10) (va_l (ve_v 5) (va_nil))))) (ve_str) (ve_str)) (va_nil))))) (.inl rfl)) (vss_cons (vs_drop (ve_append (i := 8) rfl (by first | exact .inl rfl | exact .inr (.inl rfl) | exact .inr (.inr rfl)) (ve_if (vt_tru (ve_call (ok__law_is_each M) (hr.mono (by decide)) gd rfl M.g__law_is_each M.k__law_is_each M.b__law_is_each (va_l (ve_v 10) (va_l (ve_v 4) (va_nil))))) (ve_str) (ve_str)))) (vss_one (vs_if (vt_cmp (os_ne hu) (ve_lc rfl sc_law.nd (vi_sq (ve_v 7)) (own := [(("machine" : Str), 13)]) (blkOk_by (by rfl)) (fun _ _ _ _ _ => (vg_n (i := 13) sc_law.nd rfl (.inl rfl) (.inr rfl)).p) (fun _ _ _ _ _ => vts_nil) (fun _ _ _ _ _ => ve_call (ok__law_out M) (hr.mono (by decide)) gd rfl M.g__law_out M.k__law_out M.b__law_out (va_l (ve_v 13) (va_l (ve_v 10) (va_nil))))) (ve_v 8)) (vss_one (vs_ret (ve_bl))) (vss_nil)))))))))))))))))) (vss_one (vs_ret (ve_bl))))
end
end K18

set_option maxHeartbeats 1000000
section
open PySem PySem.Spec PyProof.Rows L2 VL
local macro_rules | `(tactic| walk_at "vl") => `(tactic| repeat (first | (with_reducible apply k_pk1) | (with_reducible apply k_lk1) | (with_reducible apply k_ps0) | (with_reducible apply k_ps1) | ((with_reducible apply e_var); (focus (rfl))) | (with_reducible apply e_c) | (with_reducible apply e_nil) | (with_reducible apply e_p) | (with_reducible apply e_l) | (with_reducible apply e_op) | (with_reducible apply k_pk3) | ((with_reducible apply k_ps2); (focus (rfl)); (focus (rfl))) | (with_reducible apply k_do0) | (with_reducible apply k_do1) | ((with_reducible apply e_varO); (focus (rfl)); (focus (rfl))) | (with_reducible apply k_pk2) | (with_reducible apply k_lk2) | ((with_reducible apply k_lk3); (focus (rfl))) | (with_reducible apply k_am0) | (with_reducible apply k_am1) | ((with_reducible apply k_am2); (focus (rfl)); (focus (rfl))) | (with_reducible apply k_ix0) | (with_reducible apply k_ix1) | (with_reducible apply k_ix2) | (with_reducible apply k_ix3) | ((with_reducible apply k_peS); (focus (simp only [slotsOf]; rfl))) | (with_reducible apply e_caT) | (with_reducible apply e_caN) | ((with_reducible apply e_putM); (focus (simp only [List.set_cons_zero, List.set_cons_succ]; rfl))) | ((with_reducible apply e_stK); (focus (rfl)); (focus (rfl))) | (with_reducible apply e_tup) | (with_reducible apply e_lst) | (with_reducible apply e_tb) | (with_reducible apply e_I) | (with_reducible apply e_call) | ((with_reducible apply e_callA); (focus (rfl)); (focus (rfl)); (focus (rfl))) | (with_reducible apply k_d) | (with_reducible apply k_do2) | (with_reducible apply k_sq1) | (with_reducible apply k_sq2) | (with_reducible apply k_lo1) | (with_reducible apply k_lo2) | (with_reducible apply k_rt1) | ((with_reducible apply k_rt2); (focus (rfl)); (focus (rfl)); (focus (simp only [List.set_cons_zero, List.set_cons_succ]; rfl))) | (with_reducible apply k_bo0) | ((with_reducible apply k_bo1); (focus (rfl)); (focus (rfl))) | ((with_reducible apply k_la); (focus (rfl))) | (with_reducible apply k_pe0) | (with_reducible apply k_pe1) | (with_reducible apply e_s) | (with_reducible apply e_tr) | (with_reducible apply e_and) | (with_reducible apply e_or) | (with_reducible apply e_not) | (with_reducible apply e_andV) | (with_reducible apply e_orV) | (with_reducible apply e_fif) | (with_reducible apply e_oN) | (with_reducible apply e_oS) | (with_reducible apply e_sl) | (with_reducible apply e_next) | (with_reducible apply e_seq) | (with_reducible apply e_ret) | (with_reducible apply e_sif) | (with_reducible apply e_set) | (with_reducible apply e_oaddI) | (with_reducible apply e_osub) | (with_reducible apply e_oneg) | (with_reducible apply e_oabs) | (with_reducible apply e_ointI) | (with_reducible apply e_ointB) | (with_reducible apply e_omin2) | (with_reducible apply e_omax2) | (with_reducible apply e_olenL) | (with_reducible apply e_olenT) | (with_reducible apply e_otupL) | (with_reducible apply e_otupT) | (with_reducible apply e_olstL) | (with_reducible apply e_olstT) | (with_reducible apply e_oslL) | (with_reducible apply e_oslT) | (with_reducible apply e_oixL) | (with_reducible apply e_oixT) | (with_reducible apply e_oaddL) | (with_reducible apply e_oaddT) | (with_reducible apply e_omulI) | (with_reducible apply e_omulT) | (with_reducible apply e_omulL) | (with_reducible apply e_odiv) | (with_reducible apply e_omod) | (with_reducible apply e_opow) | (with_reducible apply e_oeq) | (with_reducible apply e_one) | (with_reducible apply e_oinL) | (with_reducible apply e_oinT) | (with_reducible apply e_olt) | (with_reducible apply e_ogt) | (with_reducible apply e_ole) | (with_reducible apply e_oge) | ((with_reducible apply k_pa); (focus (rfl))) | ((with_reducible apply k_tru); (focus (rfl))) | (with_reducible apply k_lk4) | (with_reducible apply k_am3) | (with_reducible apply k_ow1) | ((with_reducible apply k_ow2); (focus (rfl))) | ((with_reducible apply k_li); (focus (first | (simp only [List.set_cons_zero, List.set_cons_succ, List.cons_append, List.nil_append, List.dropLast_cons_cons, List.dropLast_singleton]; rfl) | rfl))) | (with_reducible apply e_caL) | ((with_reducible apply e_stO); (focus (rfl)); (focus (rfl)); (focus (rfl))) | (with_reducible apply e_notV) | (with_reducible apply e_rg1) | (with_reducible apply e_rg2) | (with_reducible apply e_tupRg) | (with_reducible apply e_lstRg) | (with_reducible apply e_app) | (with_reducible apply e_drop) | (with_reducible apply e_stup) | (with_reducible apply e_setIx) | (with_reducible apply e_augIx) | (with_reducible apply e_aug) | (with_reducible apply e_par) | ((with_reducible apply e_parA); (focus (rfl)); (focus (rfl)); (focus (rfl)); (focus (rfl))) | (with_reducible apply e_for) | ((with_reducible apply e_gN); (focus (rfl)); (focus (rfl))) | (with_reducible apply e_gsN) | (with_reducible apply e_gsC) | ((with_reducible apply e_gT); (focus (rfl))) | (with_reducible apply e_sq) | (with_reducible apply e_rgI1) | (with_reducible apply e_rgI2) | (with_reducible apply e_yes) | (with_reducible apply e_lc) | (with_reducible apply e_any) | ((with_reducible apply e_ixe); (focus (rfl))) | ((with_reducible apply k_ixN); (focus (simp [ixN]; rfl))) | ((with_reducible apply k_ixb); (focus (rfl))) | ((with_reducible apply k_ia); (focus (rfl))) | (with_reducible apply e_gl) | (with_reducible apply e_slB) | (with_reducible apply e_pop) | (with_reducible apply e_popAt) | (with_reducible apply e_brk) | (with_reducible apply e_cnt) | (with_reducible apply e_retN) | (with_reducible apply e_en) | (with_reducible apply e_enK) | (with_reducible apply e_zp) | ((with_reducible apply e_len); (focus (rfl))) | (with_reducible apply e_iteT) | (with_reducible apply e_iteF) | ((with_reducible apply e_turn); (focus (simp only [wipeS, List.set_cons_zero, List.set_cons_succ]; rfl))) | ((with_reducible apply k_re); (focus (simp only [restS, List.set_cons_zero, List.set_cons_succ, List.getElem?_cons_zero, List.getElem?_cons_succ, Option.getD_some]; rfl)))))
namespace K18
open PySem PySem.Spec PyProof.Rows L2 VL
theorem cutD_map {α β : Type} (f : α → β) (xs : List α) (lo hi : Option Int) : VL.cutD (xs.map f) lo hi = (VL.cutD xs lo hi).map f := by
  unfold VL.cutD
  rw [List.length_map, List.map_take, List.map_drop]
theorem cutD_len {α : Type} (xs : List α) (lo hi : Option Int) : (VL.cutD xs lo hi).length ≤ xs.length := by
  unfold VL.cutD
  rw [List.length_take, List.length_drop]
  omega
theorem atI_0 {x : D} {l : List D} : atI (x :: l) 0 = some x := by simp [atI, ixN]
theorem head0 (cells : List Int) : ∃ c : Int, atI (cells.map PyData.int ++ [.int 0]) 0 = some (.int c) := by
  cases cells with
  | nil => exact ⟨0, atI_0⟩
  | cons c r => exact ⟨c, atI_0⟩
structure BagOk (b : List D) : Prop where
  is : ∃ (b0 b1 b2 : Int) (cells : List Int), b = [.int b0, .int b1, .int b2, .list (cells.map .int)] ∧ 0 ≤ b0 ∧ cells.length ≤ 63
theorem take_3 {n : Int} {Q : M → List M → Prop} {E : Ex → List M → Prop} (h0 : 0 < n) (h1 : n < 1073741824) (q : ∀ v b', 0 ≤ v → v < n → BagOk b' → Q (.fz (.int v)) [.lst b']) {c0 c1 c2 : Int} {cells : List Int} {x4 x5 : Option M} (hc : 0 ≤ c0) (pc : cells.length ≤ 63) :
    g__law_take_3 ⟨[some (.lst [.int c0, .int c1, .int c2, .list (cells.map .int)]), some (.fz (.int n)), none, none, x4, x5, none], [0]⟩
      ⟨fun e => boK e.sl [0] fun b => Q (.fz .none) b, fun m e => boK e.sl [0] fun b => Q m b, fun _ => False, fun _ => False⟩ (fun ex e => bindP (borOf e.sl [0]) fun b => E ex b) := by
  unfold g__law_take_3
  walk_at "vl"
  refine e_ite (fun hz => ?_) (fun hz => ?_)
  · walk_at "vl"
    · exact q _ _ (Int.emod_nonneg _ (by omega)) (Int.emod_lt_of_pos _ h0) ⟨_, _, _, _, rfl, Int.ediv_nonneg hc (by omega), pc⟩
    · exact ⟨h0, h1⟩
    · exact h0
  · walk_at "vl"
    unfold g__law_take_2
    walk_at "vl"
    · exact q _ _ (Int.emod_nonneg _ (by omega)) (Int.emod_lt_of_pos _ h0) ⟨_, _, _, _, rfl, hc, pc⟩
    all_goals first | omega | exact .inr (by omega) | exact .inl (by omega) | (simp; done) | (simp; omega)
theorem s_take {b : List D} {n : Int} {Q : M → List M → Prop} {E : Ex → List M → Prop} (hb : BagOk b) (h0 : 0 < n) (h1 : n < 1073741824) (q : ∀ v b', 0 ≤ v → v < n → BagOk b' → Q (.fz (.int v)) [.lst b']) : sp__law_take [.lst b, .fz (.int n)] Q E := by
  obtain ⟨b0, b1, b2, cells, rfl, p0, pc⟩ := hb
  refine e_body rfl (by simp only [List.map_cons, List.map_nil, List.length_cons, List.length_nil, Nat.reduceAdd, Nat.reduceSub, List.replicate, List.replicate_zero, List.cons_append, List.nil_append]; rfl) ?_
  unfold g__law_take
  walk_at "vl"
  refine e_ite (fun hz => ?_) (fun hz => ?_)
  · have hl := cutD_len (cells.map PyData.int) (some b2) none
    rw [List.length_map] at hl
    walk_at "vl"
    rw [cutD_map]
    walk_at "vl"
    obtain ⟨c, hc⟩ := head0 (VL.cutD cells (some b2) none)
    refine e_ix hc ?_
    walk_at "vl"
    refine e_ite (fun hy => ?_) (fun hy => ?_)
    · walk_at "vl"
      unfold g__law_take_1
      walk_at "vl"
      · refine take_3 h0 h1 q ?_ pc
        have := of_decide_eq_true hy
        have h : (10 : Int) ^ Int.toNat 18 = 1000000000000000000 := by decide
        omega
      all_goals first | omega | exact .inr (by omega) | exact .inl (by omega) | (simp; done) | (simp; omega)
    · walk_at "vl"
      unfold g__law_take_1
      walk_at "vl"
      · exact take_3 h0 h1 q p0 pc
      all_goals first | omega | exact .inr (by omega) | exact .inl (by omega) | (simp; done) | (simp; omega)
    all_goals first | omega | (simp; done) | (simp; omega)
  · walk_at "vl"
    exact take_3 h0 h1 q p0 pc
  · simp

end K18

namespace K18
open PySem PySem.Spec PyProof.Rows L2 VL
variable {b : List D} {Q : M → List M → Prop} {E : Ex → List M → Prop}
theorem s_staying {n : Int} (h0 : 0 ≤ n) (h1 : n ≤ 1000) (q : Q (.fz (.tuple (rgD 0 n))) []) : sp_staying [.fz (.int n)] Q E := by
  refine e_body rfl (by simp only [List.map_cons, List.map_nil, List.length_cons, List.length_nil, Nat.reduceAdd, Nat.reduceSub, List.replicate, List.replicate_zero, List.cons_append, List.nil_append]; rfl) ?_
  unfold g_staying
  walk_at "vl"
  refine e_2 ?_ ⟨by omega, by omega, by omega, by omega, by omega⟩
  walk_at "vl"
  exact q
theorem s_bag {ns : List Int} (hl : ns.length ≤ 63) (q : ∀ b, BagOk b → Q (.lst b) []) : sp__law_bag [.fz (.list (ns.map .int))] Q E := by
  refine e_body rfl (by simp only [List.map_cons, List.map_nil, List.length_cons, List.length_nil, Nat.reduceAdd, Nat.reduceSub, List.replicate, List.replicate_zero, List.cons_append, List.nil_append]; rfl) ?_
  unfold g__law_bag
  walk_at "vl"
  rw [cutD_map]
  have h := cutD_len ns none (some 63)
  walk_at "vl"
  refine e_3 ?_ rfl (by rw [List.length_map]; omega)
  refine lc_map (fun d => match d with | .int a => .int (if a < 0 then -a else a) | d => d) (fun d hd Qy Qn hq => ?_) ?_
  · obtain ⟨a, _, rfl⟩ := List.mem_map.mp hd
    walk_at "vl"
    exact hq
  · walk_at "vl"
    refine q _ ⟨0, 1234567891, 0, (VL.cutD ns none (some 63)).map fun a => if a < 0 then -a else a, ?_, by omega, by rw [List.length_map]; omega⟩
    rw [List.map_map, List.map_map] <;> rfl
theorem s_some {things : List D} (hb : BagOk b) (h0 : 0 < things.length) (h1 : things.length ≤ 1000) (q : ∀ x b', x ∈ things → BagOk b' → Q (.fz x) [.lst b']) {d : D} (hd : d = .tuple things ∨ d = .list things) : sp__law_some [.lst b, .fz d] Q E := by
  have key : ∀ v : Int, 0 ≤ v → v < things.length → ∃ x, x ∈ things ∧ atI things v = some x := fun v hv hv2 => by
    have hlt : v.toNat < things.length := by omega
    exact ⟨things[v.toNat], List.getElem_mem hlt, atI_of hv (List.getElem?_eq_getElem hlt)⟩
  rcases hd with rfl | rfl
  all_goals
    refine e_body rfl (by simp only [List.map_cons, List.map_nil, List.length_cons, List.length_nil, Nat.reduceAdd, Nat.reduceSub, List.replicate, List.replicate_zero, List.cons_append, List.nil_append]; rfl) ?_
    unfold g__law_some
    walk_at "vl"
    refine s_take hb (by omega) (by omega) fun v b' hv hv2 hb' => ?_
    walk_at "vl"
    obtain ⟨x, hx, e⟩ := key v hv hv2
    refine e_ix e ?_
    walk_at "vl"
    exact q x b' hx hb'
end K18

namespace K18
open PySem PySem.Spec PyProof.Rows L2 VL
variable {b : List D} {Q : M → List M → Prop} {E : Ex → List M → Prop}
theorem eqv_nil (xs : List D) : (PyData.list xs).eqv (.list []) = xs.isEmpty := by cases xs <;> rfl
theorem s_mixed {things : List D} (hb : BagOk b) (hp : ∀ x ∈ things, Pl 50 x) (h1 : things.length ≤ 1000) (q : ∀ found b', found.Perm things → BagOk b' → Q (.lst found) [.lst b']) {d : D} (hd : d = .tuple things ∨ d = .list things) : sp__law_mixed [.lst b, .fz d] Q E := by
  rcases hd with rfl | rfl
  all_goals
    refine e_body rfl (by simp only [List.map_cons, List.map_nil, List.length_cons, List.length_nil, Nat.reduceAdd, Nat.reduceSub, List.replicate, List.replicate_zero, List.cons_append, List.nil_append]; rfl) ?_
    unfold g__law_mixed
    walk_at "vl"
    refine e_while (fun n e => ∃ b left found d, e = ⟨[some (.lst b), some (.fz d), some (.lst left), some (.lst found)], [0]⟩ ∧ BagOk b ∧ n = left.length ∧ (found ++ left).Perm things) (n := things.length) ⟨b, things, [], _, rfl, hb, rfl, .refl _⟩ ?_
    rintro n e ⟨b, left, found, d, rfl, hb, rfl, hf⟩
    have hlen : found.length + left.length = things.length := by rw [← List.length_append]; exact hf.length_eq
    walk_at "vl"
    · rw [eqv_nil]
      refine e_ite (fun hz => ?_) (fun hz => ?_)
      · have h0 : 0 < left.length := by
          cases left with
          | nil => simp at hz
          | cons _ _ => exact Nat.succ_pos _
        unfold g__law_mixed_1
        walk_at "vl"
        refine s_take hb (by omega) (by omega) fun v b' hv hv2 hb' => ?_
        walk_at "vl"
        have hlt : v.toNat < left.length := by omega
        refine e_b (ixN_nat hv hv2) ?_
        refine e_b (List.getElem?_eq_getElem hlt) ?_
        refine e_2 ?_ (by omega)
        walk_at "vl"
        refine e_2 ?_ (by omega)
        walk_at "vl"
        refine ⟨left.length - 1, by omega, _, _, _, _, rfl, hb', by rw [List.length_eraseIdx_of_lt hlt], ?_⟩
        refine .trans ?_ hf
        rw [List.append_assoc]
        refine .append_left _ ?_
        exact erase_perm hlt
      · have h0 : left = [] := by
          cases left with
          | nil => rfl
          | cons _ _ => simp at hz
        subst h0
        walk_at "vl"
        rw [List.append_nil] at hf
        exact q _ _ hf hb
    · refine ⟨?_, by simp⟩
      rw [Pl_list]
      refine ⟨by omega, fun x hx => ?_⟩
      have := hp x (hf.mem_iff.mp (List.mem_append_right _ hx))
      exact Pl.mono _ this (by omega)
end K18

namespace K18
open PySem PySem.Spec PyProof.Rows L2 VL
variable {b : List D} {Q : M → List M → Prop} {E : Ex → List M → Prop}
def strOf : D → Str
  | .str s => s
  | _ => ⟨#[]⟩
theorem map_strOf (L : List Str) : (L.map PyData.str).map strOf = L := by
  rw [List.map_map]
  exact List.map_id'' (fun _ => rfl) L
theorem strs_of : ∀ {l : List D}, (∀ x ∈ l, ∃ s, x = PyData.str s) → l = (l.map strOf).map .str
  | [], _ => rfl
  | x :: l, h => by
    obtain ⟨s, rfl⟩ := h x List.mem_cons_self
    rw [List.map_cons, List.map_cons, ← strs_of fun y hy => h y (List.mem_cons_of_mem _ hy)]
    rfl
theorem sIx_nat (n : Nat) (m : Int) (h : 0 ≤ m) : HT.sIx n n (some m) = min m.toNat n := by
  obtain ⟨k, rfl⟩ := Int.eq_ofNat_of_zero_le h
  exact HT.sIx_nat n n k
theorem cut_take {α : Type} (xs : List α) (m : Int) (h : 0 ≤ m) : VL.cutD xs none (some m) = xs.take m.toNat := by
  unfold VL.cutD
  rw [sIx_nat _ _ h, HT.sIx_none, List.drop_zero, Nat.sub_zero]
  rw [Nat.min_def]
  split
  · rfl
  · rw [List.take_of_length_le (by omega), List.take_of_length_le (by omega)]
def ltS (x y : Str) : Prop := x.cps.toList < y.cps.toList
theorem ltD_s {x y : Str} : PySem.W.dataLt (.str x) (.str y) = decide (x.cps.toList < y.cps.toList) := PySem.W.dataLt_str x y
theorem s_some_names {ns : List Str} {m : Int} (hb : BagOk b) (nd : ns.Nodup) (hl : ns.length ≤ 100) (h0 : 0 ≤ m) (q : ∀ (L : List Str) b', L.Pairwise ltS → (∀ x ∈ L, x ∈ ns) → L.length = min m.toNat ns.length → BagOk b' → Q (.fz (.tuple (L.map .str))) [.lst b']) :
    sp__law_some_names [.lst b, .fz (.list (ns.map .str)), .fz (.int m)] Q E := by
  refine e_body rfl (by simp only [List.map_cons, List.map_nil, List.length_cons, List.length_nil, Nat.reduceAdd, Nat.reduceSub, List.replicate, List.replicate_zero, List.cons_append, List.nil_append]; rfl) ?_
  unfold g__law_some_names
  walk_at "vl"
  refine s_mixed hb (fun x hx => ?_) (by rw [List.length_map]; omega) (fun found b' hf hb' => ?_) (.inr rfl)
  · obtain ⟨s, _, rfl⟩ := List.mem_map.mp hx
    simp
  · walk_at "vl"
    have hs : ∀ x ∈ found.take m.toNat, ∃ s, x = PyData.str s := fun x hx => by
      obtain ⟨s, _, rfl⟩ := List.mem_map.mp (hf.mem_iff.mp (List.mem_of_mem_take hx))
      exact ⟨s, rfl⟩
    have hz : ∀ x ∈ VL.cutD found none (some m), ∃ s, x = PyData.str s := by rw [cut_take _ _ h0]; exact hs
    generalize hL : (VL.cutD found none (some m)).map strOf = L
    have e : VL.cutD found none (some m) = L.map .str := by rw [← hL]; exact strs_of hz
    rw [e]
    refine ⟨fun x hx => ?_, PySem.W.AllAlike.of fun _ _ => rfl, PySem.W.Sortable.others fun _ => ⟨(fun z => by cases z), (fun xs z => by cases z)⟩, ?_⟩
    · obtain ⟨s, _, rfl⟩ := List.mem_map.mp hx
      simp
    · have hp : ((L.map PyData.str).mergeSort (PySem.W.dataLe false id)).Perm (L.map .str) := List.mergeSort_perm _ _
      have hw := PySem.W.sort_pairwise (PySem.W.sortLe_total (listOrd itemOrd) false fun d : D => PySem.W.keyToks d) (L.map PyData.str)
      have hw : ((L.map PyData.str).mergeSort (PySem.W.dataLe false id)).Pairwise fun a b => PySem.W.dataLe false id a b = true := hw
      generalize (L.map PyData.str).mergeSort (PySem.W.dataLe false id) = S at hp hw ⊢
      have hS : S = (S.map strOf).map .str := strs_of fun x hx => by
        obtain ⟨s, _, rfl⟩ := List.mem_map.mp (hp.mem_iff.mp hx)
        exact ⟨s, rfl⟩
      have hpL : (S.map strOf).Perm L := by
        have := hp.map strOf
        rwa [map_strOf] at this
      have hLn : ∃ L2, (L ++ L2).Perm ns := by
        refine ⟨(found.drop m.toNat).map strOf, ?_⟩
        have := hf.map strOf
        rw [map_strOf] at this
        rw [← hL, cut_take _ _ h0, ← List.map_append, List.take_append_drop]
        exact this
      obtain ⟨L2, hL2⟩ := hLn
      have hnd : (S.map strOf).Nodup := by
        refine hpL.nodup_iff.mpr ?_
        exact (List.nodup_append.mp (hL2.nodup_iff.mpr nd)).1
      have hlen : L.length = min m.toNat ns.length := by
        rw [← hL, List.length_map, cut_take _ _ h0, List.length_take, hf.length_eq, List.length_map]
      rw [hS] at hw ⊢
      generalize S.map strOf = T at hw hpL hnd ⊢
      walk_at "vl"
      refine q T b' ?_ (fun x hx => hL2.mem_iff.mp (List.mem_append_left _ (hpL.mem_iff.mp hx))) (by rw [hpL.length_eq]; exact hlen) hb'
      rw [List.pairwise_map] at hw
      refine List.Pairwise.imp_of_mem ?_ (hw.and hnd)
      intro x y _ _ ⟨h1, h2⟩
      have h1 : (!PySem.W.dataLt (.str y) (.str x)) = true := h1
      rw [ltD_s] at h1
      have h3 : ¬ y.cps.toList < x.cps.toList := by simpa using h1
      show x.cps.toList < y.cps.toList
      by_cases h : x.cps.toList < y.cps.toList
      · exact h
      · exact absurd (PySem.W.str_of_cps (List.le_antisymm h3 h)) h2
end K18

namespace K18
open PySem PySem.Spec PyProof.Rows L2 VL
variable {b : List D} {Q : M → List M → Prop} {E : Ex → List M → Prop}
def mem (S : List D) (d : D) : Bool := S.any fun y => PyData.eqv y d
def iMap (f : Int → Int) (d : D) : D := match d with
  | .int s => .int (f s)
  | d => d
def stay (n : Int) : D := .tuple (rgD 0 n)
def rise (many : Int) : D := .tuple ((rgD 0 (many + 1)).map (iMap fun s => if many < s + 1 then many else s + 1))
def marks (many : Int) : D := .tuple ((List.replicate many.toNat [PyData.str "no"]).flatten ++ [.str "yes"])
def mAt (Ls ss : List Str) (many : Int) : D := .tuple [.tuple ((Ls.map .str).map fun l => .tuple [l, if mem (ss.map .str) l = true then rise many else stay (many + 1)]), stay (many + 1), marks many]
theorem rg_mem {a b : Int} {d : D} (h : d ∈ rgD a b) : ∃ s : Int, d = .int s ∧ a ≤ s ∧ s < b := by
  unfold rgD at h
  obtain ⟨i, hi, rfl⟩ := List.mem_map.mp h
  have := List.mem_range.mp hi
  exact ⟨_, rfl, by omega, by omega⟩
theorem strs_pl {L : List Str} {n : Nat} (h : 0 < n) : Pl n (.tuple (L.map .str)) := by
  rw [Pl_tuple]
  refine ⟨h, fun x hx => ?_⟩
  obtain ⟨s, _, rfl⟩ := List.mem_map.mp hx
  simp
theorem s_at_least {Ls ss : List Str} {many : Int} (h1 : 1 ≤ many) (h2 : many ≤ 39) (hl : Ls.length ≤ 100) (q : Q (.fz (mAt Ls ss many)) []) : sp_at_least [.fz (.tuple (Ls.map .str)), .fz (.tuple (ss.map .str)), .fz (.int many)] Q E := by
  refine e_body rfl (by simp only [List.map_cons, List.map_nil, List.length_cons, List.length_nil, Nat.reduceAdd, Nat.reduceSub, List.replicate, List.replicate_zero, List.cons_append, List.nil_append]; rfl) ?_
  unfold g_at_least
  walk_at "vl"
  refine e_2 ?_ (by omega)
  refine e_3 ?_ rfl (by rw [rgD_length]; omega)
  refine lc_map (iMap fun s => if many < s + 1 then many else s + 1) (fun d hd Qy Qn hq => ?_) ?_
  · obtain ⟨s, rfl, _, _⟩ := rg_mem hd
    walk_at "vl"
    exact hq
  · walk_at "vl"
    refine e_3 ?_ rfl (by rw [List.length_map]; omega)
    refine lc_map (fun l => .tuple [l, if mem (ss.map .str) l = true then rise many else stay (many + 1)]) (fun d hd Qy Qn hq => ?_) ?_
    · obtain ⟨s, _, rfl⟩ := List.mem_map.mp hd
      walk_at "vl"
      · rw [Bool.false_xor]
        refine e_ite (fun hz => ?_) (fun hz => ?_)
        · walk_at "vl"
          have e : mem (ss.map .str) (.str s) = true := hz
          simp only [e, if_true] at hq
          exact hq
        · walk_at "vl"
          refine s_staying (by omega) (by omega) ?_
          walk_at "vl"
          have e : mem (ss.map .str) (.str s) = false := hz
          simp only [e, Bool.false_eq_true, if_false] at hq
          exact hq
      · exact ⟨by simp, strs_pl (by omega)⟩
    · walk_at "vl"
      refine s_staying (by omega) (by omega) ?_
      walk_at "vl"
      · exact q
      · rw [List.length_flatten]
        simp
        omega
      · exact ⟨by simp, h1, by omega, by simp⟩
theorem s_law_at_least {Ls ss : List Str} {many : Int} (h1 : 1 ≤ many) (h2 : many ≤ 39) (hl : Ls.length ≤ 100) (q : Q (.fz (mAt Ls ss many)) []) : sp__law_at_least [.fz (.tuple (Ls.map .str)), .fz (.tuple (ss.map .str)), .fz (.int many)] Q E := by
  refine e_body rfl (by simp only [List.map_cons, List.map_nil, List.length_cons, List.length_nil, Nat.reduceAdd, Nat.reduceSub, List.replicate, List.replicate_zero, List.cons_append, List.nil_append]; rfl) ?_
  unfold g__law_at_least
  walk_at "vl"
  refine for_inv (fun dn ds e => dn ++ ds = Ls.map .str ∧ ∃ x4 x5, e = ⟨[some (.fz (.tuple (Ls.map .str))), some (.fz (.tuple (ss.map .str))), some (.fz (.int many)), some (.lst (dn.map fun l => .tuple [l, if mem (ss.map .str) l = true then rise many else stay (many + 1)])), x4, x5, none], []⟩) (dn := []) ⟨rfl, _, _, rfl⟩ ?_ ?_ mono_gN
  · rintro dn d ds e ⟨hd, x4, x5, rfl⟩
    have hlen : dn.length + (ds.length + 1) = Ls.length := by have := congrArg List.length hd; simpa using this
    obtain ⟨s, _, rfl⟩ := List.mem_map.mp (show d ∈ Ls.map PyData.str by rw [← hd]; simp)
    walk_at "vl"
    intro nx' hn
    unfold g__law_at_least_1
    walk_at "vl"
    · rw [Bool.false_xor]
      walk_at "vl"
      refine e_2 ?_ (by omega)
      refine e_3 ?_ rfl (by rw [rgD_length]; omega)
      refine lc_map (iMap fun k => if k + b2 (mem (ss.map .str) (.str s)) < many then k + b2 (mem (ss.map .str) (.str s)) else many) (fun d hd Qy Qn hq => ?_) ?_
      · obtain ⟨k, rfl, _, _⟩ := rg_mem hd
        walk_at "vl"
        exact hq
      · walk_at "vl"
        refine e_2 ?_ (by rw [List.length_map]; omega)
        walk_at "vl"
        refine hn _ ⟨by rw [List.append_assoc]; exact hd, some (.fz (.str s)), some (.fz (.int (b2 (mem (ss.map .str) (.str s))))), ?_⟩
        rw [List.map_append, List.map_singleton]
        have e : PyData.tuple (List.map (iMap fun k => if k + b2 (mem (ss.map .str) (.str s)) < many then k + b2 (mem (ss.map .str) (.str s)) else many) (rgD 0 (many + 1))) = if mem (ss.map .str) (.str s) = true then rise many else stay (many + 1) := by
          cases mem (ss.map .str) (.str s) with
          | true =>
            rw [if_pos rfl]
            unfold rise
            congr 1
            refine List.map_congr_left fun d hd => ?_
            obtain ⟨k, rfl, _, _⟩ := rg_mem hd
            show PyData.int _ = PyData.int _
            congr 1
            show (if k + 1 < many then k + 1 else many) = if many < k + 1 then many else k + 1
            split <;> split <;> omega
          | false =>
            rw [if_neg Bool.false_ne_true]
            unfold stay
            congr 1
            refine (List.map_congr_left fun d hd => ?_).trans (List.map_id _)
            obtain ⟨k, rfl, _, _⟩ := rg_mem hd
            show PyData.int (if k + 0 < many then k + 0 else many) = _
            congr 1
            split <;> omega
        rw [e]
        rfl
    · exact ⟨by simp, strs_pl (by omega)⟩
  · rintro dn e ⟨hd, x4, x5, rfl⟩
    rw [List.append_nil] at hd
    subst hd
    unfold g__law_at_least_2
    walk_at "vl"
    refine e_2 ?_ ⟨by omega, by omega, by omega, by omega, by omega⟩
    walk_at "vl"
    · exact q
    · rw [List.length_flatten]
      simp
      omega
    · exact ⟨by simp, h1, by omega, by simp⟩
end K18

namespace K18
open PySem PySem.Spec PyProof.Rows L2 VL
variable {b : List D} {Q : M → List M → Prop} {E : Ex → List M → Prop}
theorem mono_g2 {i j : Nat} : ∀ d env (k k' : VL.Env → Prop), (∀ e, k e → k' e) → gT 2 (gsCons (gN i) (gsCons (gN j) gsNil)) d env k → gT 2 (gsCons (gN i) (gsCons (gN j) gsNil)) d env k' := fun d env k k' h q => by
  cases d with
  | tuple ds =>
    obtain ⟨h0, q⟩ := q
    match ds, h0, q with
    | [x, y], h0, ⟨a1, a2, b1, b2, _, c⟩ => exact ⟨h0, a1, a2, b1, b2, rfl, h _ c⟩
  | _ => exact q.elim
theorem enum_mem : ∀ {L : List Str} {k : Int} {d : D}, d ∈ enumD k (L.map .str) → ∃ (a : Int) (s : Str), d = .tuple [.int a, .str s]
  | [], k, d, h => by simp [enumD] at h
  | x :: L, k, d, h => by
    rcases List.mem_cons.mp (show d ∈ PyData.tuple [.int k, .str x] :: enumD (k + 1) (L.map .str) from h) with e | h
    · exact ⟨_, _, e⟩
    · exact enum_mem h
def grT (n : Int) (c : Int) (d : D) : D := match d with
  | .tuple [.int a, l] => .tuple [l, .tuple ((rgD 0 n).map (iMap fun s => if a + c > s then a + c else s))]
  | d => d
theorem gr_shift (n : Int) : ∀ (L : List D) (k : Int), (enumD (k + 1) L).map (grT n 0) = (enumD k L).map (grT n 1)
  | [], _ => rfl
  | x :: L, k => by
    show grT n 0 (.tuple [.int (k + 1), x]) :: (enumD (k + 1 + 1) L).map (grT n 0) = grT n 1 (.tuple [.int k, x]) :: (enumD (k + 1) L).map (grT n 1)
    rw [gr_shift n L (k + 1)]
    congr 1
    show PyData.tuple [x, .tuple ((rgD 0 n).map (iMap fun s => if k + 1 + 0 > s then k + 1 + 0 else s))] = _
    rw [Int.add_zero] <;> rfl
def mGr (Ls : List Str) : D := .tuple [.tuple ((enumD 0 (Ls.map .str)).map (grT ((Ls.length : Int) + 1) 1)), stay ((Ls.length : Int) + 1), .tuple (.str "nothing" :: Ls.map .str)]
theorem s_greatest {Ls : List Str} (hl : Ls.length ≤ 100) (q : Q (.fz (mGr Ls)) []) : sp_greatest [.fz (.tuple (Ls.map .str))] Q E := by
  refine e_body rfl (by simp only [List.map_cons, List.map_nil, List.length_cons, List.length_nil, Nat.reduceAdd, Nat.reduceSub, List.replicate, List.replicate_zero, List.cons_append, List.nil_append]; rfl) ?_
  unfold g_greatest
  walk_at "vl"
  refine e_2 ?_ (by omega)
  refine e_3 ?_ rfl (by rw [enumD_length, List.length_map]; omega)
  refine lc_map (grT ((Ls.length : Int) + 1) 0) (fun d hd Qy Qn hq => ?_) ?_
  · obtain ⟨a, s, rfl⟩ := enum_mem hd
    walk_at "vl"
    rw [List.length_map]
    refine e_2 ?_ (by omega)
    refine e_3 ?_ rfl (by rw [rgD_length]; omega)
    refine lc_map (iMap fun s => if a + 0 > s then a + 0 else s) (fun d hd Qy Qn hq => ?_) ?_
    · obtain ⟨k, rfl, _, _⟩ := rg_mem hd
      walk_at "vl"
      rw [show a + 0 = a from Int.add_zero a] at hq
      exact hq
    · walk_at "vl"
      rw [List.length_map] at hq
      exact hq
  · walk_at "vl"
    rw [List.length_map]
    refine s_staying (by omega) (by omega) ?_
    walk_at "vl"
    refine e_2 ?_ (by simp; omega)
    walk_at "vl"
    have sh := gr_shift ((Ls.length : Int) + 1) (Ls.map .str) 0
    rw [show (0 : Int) + 1 = 1 from rfl] at sh
    rw [sh, List.append_nil]
    exact q
theorem s_law_greatest {Ls : List Str} (hl : Ls.length ≤ 100) (q : Q (.fz (mGr Ls)) []) : sp__law_greatest [.fz (.tuple (Ls.map .str))] Q E := by
  refine e_body rfl (by simp only [List.map_cons, List.map_nil, List.length_cons, List.length_nil, Nat.reduceAdd, Nat.reduceSub, List.replicate, List.replicate_zero, List.cons_append, List.nil_append]; rfl) ?_
  unfold g__law_greatest
  walk_at "vl"
  refine for_inv (fun dn ds e => dn ++ ds = enumD 0 (Ls.map .str) ∧ ∃ x2 x3, e = ⟨[some (.fz (.tuple (Ls.map .str))), some (.lst (dn.map (grT ((Ls.length : Int) + 1) 1))), x2, x3, none], []⟩) (dn := []) ⟨rfl, _, _, rfl⟩ ?_ ?_ mono_g2
  · rintro dn d ds e ⟨hd, x2, x3, rfl⟩
    have hlen : dn.length + (ds.length + 1) = Ls.length := by have := congrArg List.length hd; rw [enumD_length] at this; simpa using this
    obtain ⟨a, s, rfl⟩ := enum_mem (show d ∈ enumD 0 (Ls.map PyData.str) by rw [← hd]; simp)
    walk_at "vl"
    intro nx' hn
    unfold g__law_greatest_1
    walk_at "vl"
    rw [List.length_map]
    refine e_2 ?_ (by omega)
    refine e_3 ?_ rfl (by rw [rgD_length]; omega)
    refine lc_map (iMap fun s => if a + 1 > s then a + 1 else s) (fun d hd Qy Qn hq => ?_) ?_
    · obtain ⟨k, rfl, _, _⟩ := rg_mem hd
      walk_at "vl"
      exact hq
    · walk_at "vl"
      refine e_2 ?_ (by rw [List.length_map]; omega)
      walk_at "vl"
      refine hn _ ⟨by rw [List.append_assoc]; exact hd, some (.fz (.int a)), some (.fz (.str s)), ?_⟩
      rw [List.map_append, List.map_singleton] <;> rfl
  · rintro dn e ⟨hd, x2, x3, rfl⟩
    rw [List.append_nil] at hd
    subst hd
    unfold g__law_greatest_2
    walk_at "vl"
    rw [List.length_map]
    refine e_2 ?_ ⟨by omega, by omega, by omega, by omega, by omega⟩
    walk_at "vl"
    · exact q
    all_goals (simp; omega)
end K18

namespace K18
open PySem PySem.Spec PyProof.Rows L2 VL
variable {b : List D} {Q : M → List M → Prop} {E : Ex → List M → Prop}
def mEach (Ls ss : List Str) : D := .tuple [.tuple ((Ls.map .str).map fun l => .tuple [l, if mem (ss.map .str) l = true then .tuple [.int 1, .int 1, .int 2] else stay 3]), .tuple [.int 2, .int 0, .int 2], .tuple [.str "yes", .str "yes", .str "no"]]
theorem s_each_time {Ls ss : List Str} (hl : Ls.length ≤ 100) (q : Q (.fz (mEach Ls ss)) []) : sp_each_time [.fz (.tuple (Ls.map .str)), .fz (.tuple (ss.map .str))] Q E := by
  refine e_body rfl (by simp only [List.map_cons, List.map_nil, List.length_cons, List.length_nil, Nat.reduceAdd, Nat.reduceSub, List.replicate, List.replicate_zero, List.cons_append, List.nil_append]; rfl) ?_
  unfold g_each_time
  walk_at "vl"
  refine e_3 ?_ rfl (by rw [List.length_map]; omega)
  refine lc_map (fun l => .tuple [l, if mem (ss.map .str) l = true then .tuple [.int 1, .int 1, .int 2] else stay 3]) (fun d hd Qy Qn hq => ?_) ?_
  · obtain ⟨s, _, rfl⟩ := List.mem_map.mp hd
    walk_at "vl"
    · rw [Bool.false_xor]
      refine e_ite (fun hz => ?_) (fun hz => ?_)
      · walk_at "vl"
        have e : mem (ss.map .str) (.str s) = true := hz
        simp only [e, if_true] at hq
        exact hq
      · walk_at "vl"
        refine s_staying (by omega) (by omega) ?_
        walk_at "vl"
        have e : mem (ss.map .str) (.str s) = false := hz
        simp only [e, Bool.false_eq_true, if_false] at hq
        exact hq
    · exact ⟨by simp, strs_pl (by omega)⟩
  · walk_at "vl"
    exact q
theorem s_law_each_time {Ls ss : List Str} (hl : Ls.length ≤ 100) (q : Q (.fz (mEach Ls ss)) []) : sp__law_each_time [.fz (.tuple (Ls.map .str)), .fz (.tuple (ss.map .str))] Q E := by
  refine e_body rfl (by simp only [List.map_cons, List.map_nil, List.length_cons, List.length_nil, Nat.reduceAdd, Nat.reduceSub, List.replicate, List.replicate_zero, List.cons_append, List.nil_append]; rfl) ?_
  unfold g__law_each_time
  walk_at "vl"
  refine e_3 ?_ rfl (by rw [List.length_map]; omega)
  refine lc_map (fun l => .tuple [l, if mem (ss.map .str) l = true then .tuple [.int 1, .int 1, .int 2] else stay 3]) (fun d hd Qy Qn hq => ?_) ?_
  · obtain ⟨s, _, rfl⟩ := List.mem_map.mp hd
    walk_at "vl"
    · rw [Bool.false_xor]
      refine e_ite (fun hz => ?_) (fun hz => ?_)
      · walk_at "vl"
        have e : mem (ss.map .str) (.str s) = true := hz
        simp only [e, if_true] at hq
        exact hq
      · walk_at "vl"
        have e : mem (ss.map .str) (.str s) = false := hz
        simp only [e, Bool.false_eq_true, if_false] at hq
        exact hq
    · exact ⟨by simp, strs_pl (by omega)⟩
  · walk_at "vl"
    exact q
theorem eqv_strs : ∀ A B : List Str, PyData.eqvAll (A.map .str) (B.map .str) = decide (A = B)
  | [], [] => by simp [PyData.eqvAll]
  | [], _ :: _ => by simp [PyData.eqvAll]
  | _ :: _, [] => by simp [PyData.eqvAll]
  | a :: A, c :: B => by
    show (PyData.eqv (.str a) (.str c) && PyData.eqvAll (A.map .str) (B.map .str)) = _
    rw [eqv_strs A B, v_str]
    by_cases h : a = c
    · subst h; simp
    · simp [h]
theorem cut_drop {α : Type} (xs : List α) (m : Int) (h : 0 ≤ m) : VL.cutD xs (some m) none = xs.drop m.toNat := by
  obtain ⟨k, rfl⟩ := Int.eq_ofNat_of_zero_le h
  unfold VL.cutD
  rw [HT.sIx_none, show HT.sIx xs.length 0 (some ((k : Nat) : Int)) = min k xs.length from HT.sIx_nat xs.length 0 k]
  by_cases hk : k ≤ xs.length
  · rw [Nat.min_eq_left hk, Int.toNat_natCast, List.take_of_length_le (by rw [List.length_drop]; omega)]
  · rw [Nat.min_eq_right (by omega), Int.toNat_natCast, List.drop_of_length_le (by omega), List.drop_of_length_le (by omega)]
    simp
def bst (l : List Nat) : Nat := l.foldl max 0
def natP (p : Nat → Bool) (d : D) : Bool := match d with
  | .int i => p i.toNat
  | _ => false
theorem rg_filter (n : Nat) (p : Nat → Bool) : (rgD 0 n).filter (natP p) = ((List.range n).filter p).map fun i => .int (i : Nat) := by
  unfold rgD
  rw [List.filter_map, Int.sub_zero, Int.toNat_natCast]
  have e : (natP p ∘ fun i : Nat => PyData.int (0 + (i : Nat))) = p := by
    funext i
    show p (0 + (i : Int)).toNat = p i
    congr 1
    omega
  rw [e]
  exact List.map_congr_left fun i _ => by rw [Int.zero_add]
theorem max_nat : ∀ (l : List Nat) (m : Nat), PySem.W.maxD (.int (m : Nat)) (l.map fun i => .int (i : Nat)) = .int ((l.foldl max m : Nat) : Int)
  | [], m => rfl
  | x :: l, m => by
    show PySem.W.maxD (if PySem.W.dataLt (.int m) (.int x) = true then .int x else .int m) (l.map fun i => .int (i : Nat)) = _
    rw [PySem.W.dataLt_int, List.foldl_cons]
    by_cases h : m < x
    · rw [if_pos (by simpa using h), max_nat l x, Nat.max_eq_right (by omega)]
    · rw [if_neg (by simpa using h), max_nat l m, Nat.max_eq_left (by omega)]
theorem e_max {n : Nat} {p : Nat → Bool} {km : M → Prop} (h0 : 0 < n) (hp : p 0 = true) (h : km (.fz (.int (bst ((List.range n).filter p))))) : gMax1 [.list (((rgD 0 n).filter (natP p)).map id)] km := by
  rw [List.map_id, rg_filter]
  obtain ⟨k, rfl⟩ : ∃ k, n = k + 1 := ⟨n - 1, by omega⟩
  rw [List.range_succ_eq_map, List.filter_cons_of_pos hp] at h ⊢
  rw [List.map_cons]
  have all : ∀ x, x ∈ PyData.int ((0 : Nat) : Int) :: List.map (fun i : Nat => PyData.int (i : Nat)) (List.filter p (List.map Nat.succ (List.range k))) → ∃ i : Int, x = PyData.int i := fun x hx => by
    rcases List.mem_cons.mp hx with e | hx
    · exact ⟨_, e⟩
    · obtain ⟨i, _, rfl⟩ := List.mem_map.mp hx
      exact ⟨_, rfl⟩
  refine ⟨?_, ⟨fun x hx y hy => ?_, fun x hx => ?_⟩, ?_⟩
  · rw [Pl_list]
    refine ⟨by omega, fun x hx => ?_⟩
    obtain ⟨i, rfl⟩ := all x hx
    simp
  · obtain ⟨i, rfl⟩ := all x hx
    obtain ⟨j, rfl⟩ := all y hy
    rfl
  · obtain ⟨i, rfl⟩ := all x hx
    exact fun z => by cases z
  · rw [max_nat]
    exact h
end K18

namespace K18
open PySem PySem.Spec PyProof.Rows L2 VL
variable {b : List D} {Q : M → List M → Prop} {E : Ex → List M → Prop}
def rbN (Rs : List Str) (s : Nat) (l : Str) : Nat := if s = Rs.length then s else bst ((List.range (s + 2)).filter fun m => decide (Rs.take m = (Rs.take s ++ [l]).drop (s + 1 - m)))
theorem strs_all {L : List Str} {n : Nat} : ∀ x ∈ L.map PyData.str, Pl n x := fun x hx => by
  obtain ⟨s, _, rfl⟩ := List.mem_map.mp hx
  simp
theorem pl_cut {xs : List D} {lo hi : Option Int} {n : Nat} (h : ∀ x ∈ xs, Pl n x) : ∀ x ∈ VL.cutD xs lo hi, Pl n x := fun x hx => h x (by
  unfold VL.cutD at hx
  exact List.mem_of_mem_drop (List.mem_of_mem_take hx))
theorem s_row_behind {Rs : List Str} {s : Nat} {l : Str} (hs : s ≤ Rs.length) (hl : Rs.length ≤ 100) (q : Q (.fz (.int (rbN Rs s l : Nat))) []) : sp_row_behind [.fz (.tuple (Rs.map .str)), .fz (.int (s : Nat)), .fz (.str l)] Q E := by
  refine e_body rfl (by simp only [List.map_cons, List.map_nil, List.length_cons, List.length_nil, Nat.reduceAdd, Nat.reduceSub, List.replicate, List.replicate_zero, List.cons_append, List.nil_append]; rfl) ?_
  unfold g_row_behind
  walk_at "vl"
  · rw [v_int, List.length_map]
    refine e_ite (fun hz => ?_) (fun hz => ?_)
    · have e : s = Rs.length := by have := eq_of_beq hz; omega
      walk_at "vl"
      unfold rbN at q
      rw [if_pos e] at q
      exact q
    · have e : ¬ s = Rs.length := fun h => by rw [h] at hz; simp at hz
      walk_at "vl"
      unfold g_row_behind_1
      walk_at "vl"
      refine e_2 ?_ (by simp; have := cutD_len (Rs.map PyData.str) none (some (s : Int)); rw [List.length_map] at this; omega)
      walk_at "vl"
      have eS : VL.cutD (Rs.map PyData.str) none (some (s : Int)) ++ [.str l] = (Rs.take s ++ [l]).map .str := by
        rw [cut_take _ _ (by omega), Int.toNat_natCast, List.map_append, List.map_take] <;> rfl
      refine e_2 ?_ (by omega)
      refine e_3 ?_ rfl (by rw [rgD_length]; omega)
      refine lc_filt (natP fun m => decide (Rs.take m = (Rs.take s ++ [l]).drop (s + 1 - m))) id (fun d hd Qy Qn hy hn => ?_) ?_
      · obtain ⟨m, rfl, m0, m1⟩ := rg_mem hd
        obtain ⟨m, rfl⟩ := Int.eq_ofNat_of_zero_le m0
        walk_at "vl"
        · have key : PyData.eqv (.tuple (VL.cutD (Rs.map PyData.str) none (some (m : Int)))) (.tuple (VL.cutD (VL.cutD (Rs.map PyData.str) none (some (s : Int)) ++ [.str l]) (some (((VL.cutD (Rs.map PyData.str) none (some (s : Int)) ++ [PyData.str l]).length : Int) - (m : Int))) none)) = natP (fun m => decide (Rs.take m = (Rs.take s ++ [l]).drop (s + 1 - m))) (.int (m : Nat)) := by
            rw [eS, List.length_map]
            have hlen : (Rs.take s ++ [l]).length = s + 1 := by rw [List.length_append, List.length_take]; simp; omega
            rw [hlen, cut_take _ _ (by omega), cut_drop _ _ (by omega), v_tup, ← List.map_take, ← List.map_drop, eqv_strs]
            show _ = decide (Rs.take (m : Int).toNat = (Rs.take s ++ [l]).drop (s + 1 - (m : Int).toNat))
            rw [Int.toNat_natCast, show (((s + 1 : Nat) : Int) - (m : Int)).toNat = s + 1 - m by omega]
          refine e_ite (fun hz => ?_) (fun hz => ?_)
          · walk_at "vl"
            exact hy (key ▸ hz)
          · walk_at "vl"
            exact hn (key ▸ hz)
        · refine ⟨?_, ?_⟩
          · rw [Pl_tuple]
            exact ⟨by omega, pl_cut strs_all⟩
          · rw [Pl_tuple, eS]
            exact ⟨by omega, pl_cut strs_all⟩
      · walk_at "vl"
        refine e_max (n := s + 2) (by omega) (by simp; omega) ?_
        walk_at "vl"
        unfold rbN at q
        rw [if_neg e] at q
        exact q
  · simp
end K18

namespace K18
open PySem PySem.Spec PyProof.Rows L2 VL
variable {b : List D} {Q : M → List M → Prop} {E : Ex → List M → Prop}
def rbD (Rs : List Str) (l d : D) : D := match l, d with
  | .str l, .int s => .int (rbN Rs s.toNat l : Nat)
  | _, d => d
def mRow (Ls Rs : List Str) : D := .tuple [.tuple ((Ls.map .str).map fun l => .tuple [l, .tuple ((rgD 0 ((Rs.length : Int) + 1)).map (rbD Rs l))]), stay ((Rs.length : Int) + 1), marks (Rs.length : Int)]
theorem s_has_row {Ls Rs : List Str} (hl : Ls.length ≤ 100) (hr : Rs.length ≤ 100) (h0 : 0 < Rs.length) (q : Q (.fz (mRow Ls Rs)) []) : sp_has_row [.fz (.tuple (Ls.map .str)), .fz (.tuple (Rs.map .str))] Q E := by
  refine e_body rfl (by simp only [List.map_cons, List.map_nil, List.length_cons, List.length_nil, Nat.reduceAdd, Nat.reduceSub, List.replicate, List.replicate_zero, List.cons_append, List.nil_append]; rfl) ?_
  unfold g_has_row
  walk_at "vl"
  refine e_3 ?_ rfl (by rw [List.length_map]; omega)
  refine lc_map (fun l => .tuple [l, .tuple ((rgD 0 ((Rs.length : Int) + 1)).map (rbD Rs l))]) (fun d hd Qy Qn hq => ?_) ?_
  · obtain ⟨s, _, rfl⟩ := List.mem_map.mp hd
    walk_at "vl"
    rw [List.length_map] at hq ⊢
    refine e_2 ?_ (by omega)
    refine e_3 ?_ rfl (by rw [rgD_length]; omega)
    refine lc_map (rbD Rs (.str s)) (fun d hd Qy Qn hq => ?_) ?_
    · obtain ⟨k, rfl, k0, k1⟩ := rg_mem hd
      obtain ⟨k, rfl⟩ := Int.eq_ofNat_of_zero_le k0
      walk_at "vl"
      refine s_row_behind (by omega) hr ?_
      walk_at "vl"
      exact hq
    · walk_at "vl"
      exact hq
  · walk_at "vl"
    rw [List.length_map]
    refine s_staying (by omega) (by omega) ?_
    walk_at "vl"
    · rw [List.length_map]
      exact q
    · rw [List.length_flatten]
      simp
      omega
    · exact ⟨by simp, by rw [List.length_map]; omega, by rw [List.length_map]; omega, by simp⟩
theorem s_law_last {Ws Rs : List Str} (hw : Ws.length ≤ Rs.length) (hl : Rs.length ≤ 100) (q : Q (.fz (.int (bst ((List.range (Ws.length + 1)).filter fun m => decide (Rs.take m = Ws.drop (Ws.length - m))) : Nat))) []) : sp__law_last [.fz (.tuple (Ws.map .str)), .fz (.tuple (Rs.map .str))] Q E := by
  refine e_body rfl (by simp only [List.map_cons, List.map_nil, List.length_cons, List.length_nil, Nat.reduceAdd, Nat.reduceSub, List.replicate, List.replicate_zero, List.cons_append, List.nil_append]; rfl) ?_
  unfold g__law_last
  walk_at "vl"
  rw [List.length_map, List.length_map, if_neg (by omega)]
  refine e_2 ?_ (by omega)
  refine e_3 ?_ rfl (by rw [rgD_length]; omega)
  refine lc_filt (natP fun m => decide (Rs.take m = Ws.drop (Ws.length - m))) id (fun d hd Qy Qn hy hn => ?_) ?_
  · obtain ⟨m, rfl, m0, m1⟩ := rg_mem hd
    obtain ⟨m, rfl⟩ := Int.eq_ofNat_of_zero_le m0
    walk_at "vl"
    · have key : PyData.eqv (.tuple (VL.cutD (Ws.map PyData.str) (some (((Ws.map PyData.str).length : Int) - (m : Int))) none)) (.tuple (VL.cutD (Rs.map PyData.str) none (some (m : Int)))) = natP (fun m => decide (Rs.take m = Ws.drop (Ws.length - m))) (.int (m : Nat)) := by
        rw [List.length_map, cut_take _ _ (by omega), cut_drop _ _ (by omega), v_tup, ← List.map_take, ← List.map_drop, eqv_strs]
        show _ = decide (Rs.take (m : Int).toNat = Ws.drop (Ws.length - (m : Int).toNat))
        rw [Int.toNat_natCast, show ((Ws.length : Int) - (m : Int)).toNat = Ws.length - m by omega]
        exact decide_eq_decide.mpr ⟨Eq.symm, Eq.symm⟩
      refine e_ite (fun hz => ?_) (fun hz => ?_)
      · walk_at "vl"
        exact hy (key ▸ hz)
      · walk_at "vl"
        exact hn (key ▸ hz)
    · refine ⟨?_, ?_⟩
      · rw [Pl_tuple]
        exact ⟨by omega, pl_cut strs_all⟩
      · rw [Pl_tuple]
        exact ⟨by omega, pl_cut strs_all⟩
  · walk_at "vl"
    refine e_max (n := Ws.length + 1) (by omega) (by simp) ?_
    walk_at "vl"
    exact q
theorem rg_succ (n : Nat) : rgD 0 ((n : Int) + 1) = rgD 0 (n : Int) ++ [.int (n : Nat)] := by
  unfold rgD
  rw [show ((n : Int) + 1 - 0).toNat = n + 1 by omega, show ((n : Int) - 0).toNat = n by omega, List.range_succ, List.map_append, List.map_singleton, Int.zero_add]
theorem s_law_row_machine {Ls Rs : List Str} (hl : Ls.length ≤ 100) (hr : Rs.length ≤ 100) (h0 : 0 < Rs.length) (q : Q (.fz (mRow Ls Rs)) []) : sp__law_row_machine [.fz (.tuple (Ls.map .str)), .fz (.tuple (Rs.map .str))] Q E := by
  refine e_body rfl (by simp only [List.map_cons, List.map_nil, List.length_cons, List.length_nil, Nat.reduceAdd, Nat.reduceSub, List.replicate, List.replicate_zero, List.cons_append, List.nil_append]; rfl) ?_
  unfold g__law_row_machine
  walk_at "vl"
  rw [List.length_map]
  refine for_inv (fun dn ds e => dn ++ ds = Ls.map .str ∧ ∃ x2 x5, e = ⟨[some (.fz (.tuple (Ls.map .str))), some (.fz (.tuple (Rs.map .str))), x2, some (.fz (.int (Rs.length : Nat))), some (.lst (dn.map fun l => .tuple [l, .tuple ((rgD 0 ((Rs.length : Int) + 1)).map (rbD Rs l))])), x5, none], []⟩) (dn := []) ⟨rfl, _, _, rfl⟩ ?_ ?_ mono_gN
  · rintro dn d ds e ⟨hd, x2, x5, rfl⟩
    have hlen : dn.length + (ds.length + 1) = Ls.length := by have := congrArg List.length hd; simpa using this
    obtain ⟨s, _, rfl⟩ := List.mem_map.mp (show d ∈ Ls.map PyData.str by rw [← hd]; simp)
    walk_at "vl"
    intro nx' hn
    unfold g__law_row_machine_1
    walk_at "vl"
    refine e_2 ?_ (by omega)
    refine e_3 ?_ rfl (by rw [rgD_length]; omega)
    refine lc_map (rbD Rs (.str s)) (fun d hd Qy Qn hq => ?_) ?_
    · obtain ⟨k, rfl, k0, k1⟩ := rg_mem hd
      obtain ⟨k, rfl⟩ := Int.eq_ofNat_of_zero_le k0
      walk_at "vl"
      · have eS : VL.cutD (Rs.map PyData.str) none (some (k : Int)) ++ [.str s] = (Rs.take k ++ [s]).map .str := by
          rw [cut_take _ _ (by omega), Int.toNat_natCast, List.map_append, List.map_take] <;> rfl
        have hS : (Rs.take k ++ [s]).length = k + 1 := by rw [List.length_append, List.length_take]; simp; omega
        rw [eS]
        refine s_law_last (by omega) hr ?_
        walk_at "vl"
        have e : rbD Rs (.str s) (.int (k : Nat)) = .int (bst ((List.range ((Rs.take k ++ [s]).length + 1)).filter fun m => decide (Rs.take m = (Rs.take k ++ [s]).drop ((Rs.take k ++ [s]).length - m))) : Nat) := by
          show PyData.int (rbN Rs (k : Int).toNat s : Nat) = _
          unfold rbN
          rw [Int.toNat_natCast, if_neg (by omega), hS]
        rw [← e]
        exact hq
      · have := cutD_len (Rs.map PyData.str) none (some (k : Int))
        rw [List.length_map] at this
        simp
        omega
    · walk_at "vl"
      · refine e_2 ?_ (by rw [List.length_map]; omega)
        walk_at "vl"
        refine hn _ ⟨by rw [List.append_assoc]; exact hd, some (.fz (.str s)), some (.lst ((rgD 0 (Rs.length : Int)).map (rbD Rs (.str s)))), ?_⟩
        rw [List.map_append, List.map_singleton, rg_succ, List.map_append, List.map_singleton]
        have e : rbD Rs (.str s) (.int (Rs.length : Nat)) = .int (Rs.length : Nat) := by
          show PyData.int (rbN Rs (Rs.length : Int).toNat s : Nat) = _
          unfold rbN
          rw [Int.toNat_natCast, if_pos rfl]
        rw [e]
      · rw [List.length_map, rgD_length]
        simp
        omega
  · rintro dn e ⟨hd, x2, x5, rfl⟩
    rw [List.append_nil] at hd
    subst hd
    unfold g__law_row_machine_2
    walk_at "vl"
    refine e_2 ?_ ⟨by omega, by omega, by omega, by omega, by omega⟩
    walk_at "vl"
    · exact q
    · rw [List.length_flatten]
      simp
      omega
    · exact ⟨by simp, by omega, by omega, by simp⟩
end K18

namespace K18
open PySem PySem.Spec PyProof.Rows L2 VL
variable {b : List D} {Q : M → List M → Prop} {E : Ex → List M → Prop}
def tick : Str := "tick"
def stepsOf (n : Nat) (Ls : List Str) (f : Str → Nat → Nat) : List D := Ls.map fun l => .tuple [.str l, .tuple ((List.range n).map fun k => .int (f l k : Nat))]
def mc (n : Nat) (Ls : List Str) (f : Str → Nat → Nat) (tk : Nat → Nat) (outs : List D) : D := .tuple [.tuple (stepsOf n Ls f), .tuple ((List.range n).map fun k => .int (tk k : Nat)), .tuple outs]
def oneP (s : Str) (d : D) : Bool := match d with
  | .tuple (x :: _) => PyData.eqv x (.str s)
  | _ => false
def snd2 (d : D) : D := match d with
  | .tuple [_, y] => y
  | d => d
theorem step_find {n : Nat} {f : Str → Nat → Nat} {s : Str} : ∀ {Ls : List Str}, s ∈ Ls → ∃ r, ((stepsOf n Ls f).filter (oneP s)).map snd2 = PyData.tuple ((List.range n).map fun k => .int (f s k : Nat)) :: r
  | l :: Ls, h => by
    by_cases e : l = s
    · subst e
      refine ⟨((stepsOf n Ls f).filter (oneP l)).map snd2, ?_⟩
      unfold stepsOf
      rw [List.map_cons, List.filter_cons_of_pos (by show PyData.eqv (.str l) (.str l) = true; rw [v_str]; simp)]
      rfl
    · rcases List.mem_cons.mp h with h | h
      · exact absurd h.symm e
      · obtain ⟨r, hr⟩ := step_find (n := n) (f := f) h
        refine ⟨r, ?_⟩
        unfold stepsOf
        rw [List.map_cons, List.filter_cons_of_neg (by show ¬ PyData.eqv (.str l) (.str s) = true; rw [v_str]; simpa using e)]
        exact hr
theorem s_law_step {n : Nat} {Ls : List Str} {f : Str → Nat → Nat} {tk : Nat → Nat} {outs : List D} {k : Nat} {s : Str} (hl : Ls.length ≤ 100) (hk : k < n) (hs : s ∈ Ls) (q : Q (.fz (.int (f s k : Nat))) []) : sp__law_step [.fz (mc n Ls f tk outs), .fz (.int (k : Nat)), .fz (.str s)] Q E := by
  refine e_body rfl (by simp only [List.map_cons, List.map_nil, List.length_cons, List.length_nil, Nat.reduceAdd, Nat.reduceSub, List.replicate, List.replicate_zero, List.cons_append, List.nil_append]; rfl) ?_
  unfold g__law_step mc
  walk_at "vl"
  refine e_3 ?_ rfl (by unfold stepsOf; rw [List.length_map]; omega)
  refine lc_filt (oneP s) snd2 (fun d hd Qy Qn hy hn => ?_) ?_
  · obtain ⟨l, _, rfl⟩ := List.mem_map.mp hd
    walk_at "vl"
    · refine e_ite (fun hz => ?_) (fun hz => ?_)
      · walk_at "vl"
        exact hy hz
      · walk_at "vl"
        exact hn hz
    · exact ⟨by simp, by simp⟩
  · walk_at "vl"
    obtain ⟨r, hr⟩ := step_find (n := n) (f := f) hs
    rw [hr]
    refine e_ix atI_0 ?_
    walk_at "vl"
    refine e_ix (atI_of (by omega) (x := .int (f s k : Nat)) (by rw [Int.toNat_natCast, List.getElem?_map, List.getElem?_range hk]; rfl)) ?_
    walk_at "vl"
    exact q
def runM (f : Str → Nat → Nat) (tk : Nat → Nat) (k : Nat) (W : List Str) : Nat := W.foldl (fun k w => if w = tick then tk k else f w k) k
theorem run_snoc {f : Str → Nat → Nat} {tk : Nat → Nat} {k : Nat} {W : List Str} {w : Str} : runM f tk k (W ++ [w]) = if w = tick then tk (runM f tk k W) else f w (runM f tk k W) := by
  unfold runM
  rw [List.foldl_append]
  rfl
theorem s_law_out {n : Nat} {Ls W : List Str} {f : Str → Nat → Nat} {tk : Nat → Nat} {outs : List D} {d : D} (hl : Ls.length ≤ 100) (h0 : 0 < n) (hf : ∀ l ∈ Ls, ∀ k, k < n → f l k < n) (ht : ∀ k, k < n → tk k < n) (hW : ∀ w ∈ W, w = tick ∨ w ∈ Ls) (ho : outs[runM f tk 0 W]? = some d) (q : Q (.fz d) []) : sp__law_out [.fz (mc n Ls f tk outs), .fz (.list (W.map .str))] Q E := by
  refine e_body rfl (by simp only [List.map_cons, List.map_nil, List.length_cons, List.length_nil, Nat.reduceAdd, Nat.reduceSub, List.replicate, List.replicate_zero, List.cons_append, List.nil_append]; rfl) ?_
  unfold g__law_out
  walk_at "vl"
  refine for_inv (fun dn ds e => ∃ A B : List Str, dn = A.map .str ∧ ds = B.map .str ∧ W = A ++ B ∧ runM f tk 0 A < n ∧ ∃ x3, e = ⟨[some (.fz (mc n Ls f tk outs)), some (.fz (.list (W.map .str))), some (.fz (.int (runM f tk 0 A : Nat))), x3], []⟩) (dn := []) ⟨[], W, rfl, rfl, rfl, h0, _, rfl⟩ ?_ ?_ mono_gN
  · rintro dn d ds e ⟨A, B, rfl, hB, rfl, hk, x3, rfl⟩
    cases B with
    | nil => cases hB
    | cons w B =>
      rw [List.map_cons] at hB
      obtain ⟨rfl, rfl⟩ := List.cons.inj hB
      have step := run_snoc (f := f) (tk := tk) (k := 0) (W := A) (w := w)
      walk_at "vl"
      intro nx' hn
      unfold g__law_out_1
      walk_at "vl"
      · rw [v_str]
        refine e_ite (fun hz => ?_) (fun hz => ?_)
        · have ew : w = tick := of_decide_eq_true hz
          rw [if_pos ew] at step
          unfold mc
          walk_at "vl"
          refine e_ix (atI_of (by omega) (x := .int (tk (runM f tk 0 A) : Nat)) (by rw [Int.toNat_natCast, List.getElem?_map, List.getElem?_range hk]; rfl)) ?_
          walk_at "vl"
          refine hn _ ⟨A ++ [w], B, by rw [List.map_append, List.map_singleton], rfl, by rw [List.append_assoc]; rfl, step ▸ ht _ hk, some (.fz (.str w)), ?_⟩
          rw [step] <;> rfl
        · have ew : ¬ w = tick := of_decide_eq_false hz
          rw [if_neg ew] at step
          walk_at "vl"
          refine s_law_step hl hk ((hW w (by simp)).resolve_left ew) ?_
          walk_at "vl"
          refine hn _ ⟨A ++ [w], B, by rw [List.map_append, List.map_singleton], rfl, by rw [List.append_assoc]; rfl, step ▸ hf _ ((hW w (by simp)).resolve_left ew) _ hk, some (.fz (.str w)), ?_⟩
          rw [step] <;> rfl
      · exact ⟨by simp, by simp⟩
  · rintro dn e ⟨A, B, rfl, hB, rfl, hk, x3, rfl⟩
    have hB : B = [] := by cases B with
      | nil => rfl
      | cons _ _ => cases hB
    subst hB
    rw [List.append_nil] at ho
    unfold g__law_out_2 mc
    walk_at "vl"
    refine e_ix (atI_of (by omega) (x := d) (by rw [Int.toNat_natCast]; exact ho)) ?_
    walk_at "vl"
    exact q
end K18

namespace K18
open PySem PySem.Spec PyProof.Rows L2 VL
variable {b : List D} {Q : M → List M → Prop} {E : Ex → List M → Prop}
/-- is_there, is_all -/
def eStep (ss : List Str) (p : Bool × Bool) (w : Str) : Bool × Bool := if w = tick then (false, p.2 && p.1) else (p.1 || mem (ss.map .str) (.str w), p.2)
def eRun (ss W : List Str) : Bool × Bool := W.foldl (eStep ss) (false, true)
theorem eRun_snoc {ss W : List Str} {w : Str} : eRun ss (W ++ [w]) = eStep ss (eRun ss W) w := by
  unfold eRun
  rw [List.foldl_append]
  rfl
theorem s_law_is_each {ss W : List Str} (q : Q (.fz (.bool (eRun ss W).2)) []) : sp__law_is_each [.fz (.list (W.map .str)), .fz (.tuple (ss.map .str))] Q E := by
  refine e_body rfl (by simp only [List.map_cons, List.map_nil, List.length_cons, List.length_nil, Nat.reduceAdd, Nat.reduceSub, List.replicate, List.replicate_zero, List.cons_append, List.nil_append]; rfl) ?_
  unfold g__law_is_each
  walk_at "vl"
  refine for_inv (fun dn ds e => ∃ A B : List Str, dn = A.map .str ∧ ds = B.map .str ∧ W = A ++ B ∧ ∃ x2, e = ⟨[some (.fz (.list (W.map .str))), some (.fz (.tuple (ss.map .str))), x2, some (.fz (.bool (eRun ss A).1)), some (.fz (.bool (eRun ss A).2))], []⟩) (dn := []) ⟨[], W, rfl, rfl, rfl, _, rfl⟩ ?_ ?_ mono_gN
  · rintro dn d ds e ⟨A, B, rfl, hB, rfl, x2, rfl⟩
    cases B with
    | nil => cases hB
    | cons w B =>
      rw [List.map_cons] at hB
      obtain ⟨rfl, rfl⟩ := List.cons.inj hB
      have step := eRun_snoc (ss := ss) (W := A) (w := w)
      walk_at "vl"
      intro nx' hn
      unfold g__law_is_each_1
      have fin : ∀ t a, eRun ss (A ++ [w]) = (t, a) → nx' ⟨[some (.fz (.list ((A ++ w :: B).map .str))), some (.fz (.tuple (ss.map .str))), some (.fz (.str w)), some (.fz (.bool t)), some (.fz (.bool a))], []⟩ := fun t a e =>
        hn _ ⟨A ++ [w], B, by rw [List.map_append, List.map_singleton], rfl, by rw [List.append_assoc]; rfl, some (.fz (.str w)), by rw [e]⟩
      walk_at "vl"
      · rw [v_str]
        refine e_ite (fun hz => ?_) (fun hz => ?_)
        · have ew : w = tick := of_decide_eq_true hz
          have step2 : eRun ss (A ++ [w]) = (false, (eRun ss A).2 && (eRun ss A).1) := by rw [step]; unfold eStep; rw [if_pos ew]
          walk_at "vl"
          refine e_ite (fun hz => ?_) (fun hz => ?_)
          · walk_at "vl"
            refine fin _ _ ?_
            rw [step2, hz, Bool.true_and]
          · walk_at "vl"
            refine fin _ _ ?_
            rw [step2, hz, Bool.false_and]
        · have ew : ¬ w = tick := of_decide_eq_false hz
          have step2 : eRun ss (A ++ [w]) = ((eRun ss A).1 || mem (ss.map .str) (.str w), (eRun ss A).2) := by rw [step]; unfold eStep; rw [if_neg ew]
          walk_at "vl"
          refine e_ite (fun hz => ?_) (fun hz => ?_)
          · walk_at "vl"
            refine fin _ _ ?_
            rw [step2, hz, Bool.true_or]
          · walk_at "vl"
            · refine fin _ _ ?_
              rw [step2, hz, Bool.false_or]
              rw [Bool.false_xor] <;> rfl
            · exact ⟨by simp, strs_pl (by omega)⟩
      · exact ⟨by simp, by simp⟩
  · rintro dn e ⟨A, B, rfl, hB, rfl, x2, rfl⟩
    have hB : B = [] := by cases B with
      | nil => rfl
      | cons _ _ => cases hB
    subst hB
    rw [List.append_nil] at q
    walk_at "vl"
    exact q
end K18

namespace K18
open PySem PySem.Spec PyProof.Rows L2 VL
variable {b : List D} {Q : M → List M → Prop} {E : Ex → List M → Prop}
def notTick (w : Str) : Bool := !decide (w = tick)
def bare (W : List Str) : List Str := W.filter notTick
def strP (p : Str → Bool) (d : D) : Bool := match d with
  | .str s => p s
  | _ => false
theorem filt_strs (p : Str → Bool) : ∀ W : List Str, (W.map PyData.str).filter (strP p) = (W.filter p).map .str
  | [] => rfl
  | w :: W => by
    rw [List.map_cons, List.filter_cons, List.filter_cons, filt_strs p W]
    show (if p w = true then _ else _) = _
    split <;> rfl
theorem bare_len (W : List Str) : (bare W).length ≤ W.length := List.length_filter_le _ _
def winP (S Rs : List Str) (at_ : Nat) : Bool := decide ((S.drop at_).take Rs.length = Rs)
def hasB (S Rs : List Str) : Bool := (List.range (S.length + 1)).any (winP S Rs)
theorem cut_win {α : Type} {xs : List α} {a c : Nat} : VL.cutD xs (some (a : Int)) (some ((a : Int) + (c : Int))) = (xs.drop a).take c := by
  unfold VL.cutD
  rw [show HT.sIx xs.length 0 (some ((a : Nat) : Int)) = min a xs.length from HT.sIx_nat xs.length 0 a, show HT.sIx xs.length xs.length (some ((a : Int) + (c : Int))) = min (a + c) xs.length from by rw [← Int.natCast_add]; exact HT.sIx_nat xs.length xs.length (a + c)]
  by_cases h : a + c ≤ xs.length
  · rw [Nat.min_eq_left (a := a) (by omega), Nat.min_eq_left h, Nat.add_sub_cancel_left]
  · rw [Nat.min_eq_right (a := a + c) (by omega)]
    by_cases h2 : a ≤ xs.length
    · rw [Nat.min_eq_left h2, List.take_of_length_le (by rw [List.length_drop]; omega), List.take_of_length_le (by rw [List.length_drop]; omega)]
    · rw [Nat.min_eq_right (by omega), List.drop_of_length_le (by omega), List.drop_of_length_le (by omega), List.take_nil, List.take_nil]
theorem s_law_has {W Rs : List Str} (hw : W.length ≤ 1000) (hr : Rs.length ≤ 100) (q : Q (.fz (.bool (hasB (bare W) Rs))) []) : sp__law_has [.fz (.list (W.map .str)), .fz (.tuple (Rs.map .str))] Q E := by
  refine e_body rfl (by simp only [List.map_cons, List.map_nil, List.length_cons, List.length_nil, Nat.reduceAdd, Nat.reduceSub, List.replicate, List.replicate_zero, List.cons_append, List.nil_append]; rfl) ?_
  unfold g__law_has
  walk_at "vl"
  refine e_3 ?_ rfl (by rw [List.length_map]; omega)
  have hbl := bare_len W
  refine lc_filt (strP notTick) id (fun d hd Qy Qn hy hn => ?_) ?_
  · obtain ⟨w, _, rfl⟩ := List.mem_map.mp hd
    walk_at "vl"
    · rw [v_str]
      refine e_ite (fun hz => ?_) (fun hz => ?_)
      · walk_at "vl"
        exact hy hz
      · walk_at "vl"
        exact hn hz
    · exact ⟨by simp, by simp⟩
  · rw [List.map_id, filt_strs]
    change _
    walk_at "vl"
    rw [List.length_map]
    refine e_2 ?_ (by change _ ; unfold bare at hbl; omega)
    refine e_3 ?_ rfl (by rw [rgD_length]; unfold bare at hbl; omega)
    refine lc_filt (natP (winP (bare W) Rs)) id (fun d hd Qy Qn hy hn => ?_) ?_
    · obtain ⟨m, rfl, m0, m1⟩ := rg_mem hd
      obtain ⟨m, rfl⟩ := Int.eq_ofNat_of_zero_le m0
      have key : PyData.eqv (.tuple (VL.cutD (List.map PyData.str (List.filter notTick W)) (some (m : Int)) (some ((m : Int) + ((Rs.map PyData.str).length : Int))))) (.tuple (Rs.map PyData.str)) = natP (winP (bare W) Rs) (.int (m : Nat)) := by
        rw [List.length_map, cut_win, v_tup, ← List.map_drop, ← List.map_take, eqv_strs]
        rfl
      walk_at "vl"
      · refine e_ite (fun hz => ?_) (fun hz => ?_)
        · walk_at "vl"
          exact hy (key ▸ hz)
        · walk_at "vl"
          exact hn (key ▸ hz)
      · refine ⟨?_, strs_pl (by omega)⟩
        rw [Pl_tuple]
        exact ⟨by omega, pl_cut strs_all⟩
    · rw [List.map_id]
      have e : rgD 0 (((List.filter notTick W).length : Int) + 1) = rgD 0 (((bare W).length + 1 : Nat) : Int) := rfl
      rw [e, rg_filter]
      walk_at "vl"
      · have e2 : (!PyData.eqv (.list (((List.range ((bare W).length + 1)).filter (winP (bare W) Rs)).map fun i => PyData.int (i : Nat))) (.list [])) = hasB (bare W) Rs := by
          rw [v_lst]
          unfold hasB
          generalize List.range ((bare W).length + 1) = L
          induction L with
          | nil => rfl
          | cons x L ih =>
            rw [List.filter_cons, List.any_cons]
            cases winP (bare W) Rs x with
            | true => rfl
            | false => exact ih
        rw [e2]
        exact q
      · refine ⟨?_, by rw [Pl_list]; exact ⟨by omega, fun x hx => by cases hx⟩⟩
        rw [Pl_list]
        refine ⟨by omega, fun x hx => ?_⟩
        obtain ⟨i, _, rfl⟩ := List.mem_map.mp hx
        simp
end K18

namespace K18
open PySem PySem.Spec PyProof.Rows L2 VL
theorem rg_nat (n : Nat) : rgD 0 (n : Int) = (List.range n).map fun k => PyData.int (k : Nat) := by
  unfold rgD
  rw [Int.sub_zero, Int.toNat_natCast]
  refine List.map_congr_left fun k _ => ?_
  rw [Int.zero_add]
/-- at least: the letters in some count -/
def fAt (ss : List Str) (m : Nat) (l : Str) (k : Nat) : Nat := if mem (ss.map .str) (.str l) = true then min (k + 1) m else k
theorem stepsOf_congr {n : Nat} {Ls : List Str} {f : Str → Nat → Nat} {g : Str → D} (h : ∀ l ∈ Ls, g l = .tuple ((List.range n).map fun k => .int (f l k : Nat))) : (Ls.map fun l => PyData.tuple [.str l, g l]) = stepsOf n Ls f :=
  List.map_congr_left fun l hl => by rw [h l hl]
theorem mAt_mc (Ls ss : List Str) (m : Nat) : mAt Ls ss (m : Int) = mc (m + 1) Ls (fAt ss m) id (List.replicate m (.str "no") ++ [.str "yes"]) := by
  unfold mAt mc stay marks
  rw [show ((m : Int) + 1) = ((m + 1 : Nat) : Int) from rfl, rg_nat, Int.toNat_natCast]
  congr 1
  congr 1
  · congr 1
    rw [List.map_map]
    refine stepsOf_congr (g := fun l => if mem (ss.map .str) (.str l) = true then rise (m : Int) else .tuple ((List.range (m + 1)).map fun k => PyData.int (k : Nat))) fun l _ => ?_
    unfold fAt
    by_cases h : mem (ss.map .str) (.str l) = true
    · simp only [h, if_true]
      unfold rise
      rw [show ((m : Int) + 1) = ((m + 1 : Nat) : Int) from rfl, rg_nat, List.map_map]
      congr 1
      refine List.map_congr_left fun k _ => ?_
      show PyData.int _ = PyData.int _
      congr 1
      show (if (m : Int) < (k : Int) + 1 then (m : Int) else (k : Int) + 1) = ((min (k + 1) m : Nat) : Int)
      split <;> omega
    · simp only [h, if_false]
      rfl
  · congr 1
    congr 1
    congr 1
    congr 1
    induction m with
    | zero => rfl
    | succ m ih => rw [List.replicate_succ, List.replicate_succ, List.flatten_cons, ih]; rfl
def fEach (ss : List Str) (l : Str) (k : Nat) : Nat := if mem (ss.map .str) (.str l) = true then (if k = 0 then 1 else k) else k
def tEach (k : Nat) : Nat := if k = 0 then 2 else if k = 1 then 0 else 2
theorem mEach_mc (Ls ss : List Str) : mEach Ls ss = mc 3 Ls (fEach ss) tEach [.str "yes", .str "yes", .str "no"] := by
  unfold mEach mc
  congr 1
  congr 1
  · congr 1
    rw [List.map_map]
    refine stepsOf_congr (g := fun l => if mem (ss.map .str) (.str l) = true then .tuple [.int 1, .int 1, .int 2] else stay 3) fun l _ => ?_
    unfold fEach
    by_cases h : mem (ss.map .str) (.str l) = true
    · simp only [h, if_true]
      rfl
    · simp only [h, if_false]
      rfl
theorem mRow_mc (Ls Rs : List Str) : mRow Ls Rs = mc (Rs.length + 1) Ls (fun l k => rbN Rs k l) id (List.replicate Rs.length (.str "no") ++ [.str "yes"]) := by
  unfold mRow mc stay marks
  rw [show ((Rs.length : Int) + 1) = ((Rs.length + 1 : Nat) : Int) from rfl, rg_nat, Int.toNat_natCast]
  congr 1
  congr 1
  · congr 1
    rw [List.map_map]
    refine stepsOf_congr (g := fun l => .tuple (((List.range (Rs.length + 1)).map fun k => PyData.int (k : Nat)).map (rbD Rs (.str l)))) fun l _ => ?_
    rw [List.map_map]
    congr 1
  · congr 1
    congr 1
    congr 1
    congr 1
    induction Rs.length with
    | zero => rfl
    | succ m ih => rw [List.replicate_succ, List.replicate_succ, List.flatten_cons, ih]; rfl
/-- what the counting machine holds -/
theorem run_at (ss : List Str) (m : Nat) : ∀ (W : List Str) (c : Nat), runM (fAt ss m) id (min c m) W = min (c + ((bare W).filter fun w => mem (ss.map .str) (.str w)).length) m
  | [], c => rfl
  | w :: W, c => by
    show runM (fAt ss m) id (if w = tick then min c m else fAt ss m w (min c m)) W = _
    by_cases ht : w = tick
    · rw [if_pos ht, run_at ss m W c]
      congr 2
      unfold bare
      rw [List.filter_cons_of_neg (by simp [notTick, ht])]
    · rw [if_neg ht]
      unfold bare
      rw [List.filter_cons_of_pos (by simp [notTick, ht])]
      unfold fAt
      by_cases h : mem (ss.map .str) (.str w) = true
      · rw [if_pos h, List.filter_cons_of_pos (by exact h), show min (min c m + 1) m = min (c + 1) m by omega, List.length_cons]
        have := run_at ss m W (c + 1)
        unfold fAt bare at this
        rw [this]
        congr 1
        omega
      · rw [if_neg h, List.filter_cons_of_neg (by exact h)]
        exact run_at ss m W c
/-- what the each-time machine holds -/
def codeE (p : Bool × Bool) : Nat := if p.2 = false then 2 else if p.1 = true then 1 else 0
theorem run_each (ss : List Str) : ∀ (W : List Str) (p : Bool × Bool), runM (fEach ss) tEach (codeE p) W = codeE (W.foldl (eStep ss) p)
  | [], p => rfl
  | w :: W, p => by
    show runM (fEach ss) tEach (if w = tick then tEach (codeE p) else fEach ss w (codeE p)) W = codeE (W.foldl (eStep ss) (eStep ss p w))
    rw [← run_each ss W]
    congr 1
    unfold eStep fEach
    obtain ⟨t, a⟩ := p
    by_cases ht : w = tick
    · rw [if_pos ht, if_pos ht]
      cases t <;> cases a <;> rfl
    · rw [if_neg ht, if_neg ht]
      cases h : mem (ss.map .str) (.str w) <;> cases t <;> cases a <;> rfl
end K18

namespace K18
open PySem PySem.Spec PyProof.Rows L2 VL
def pos : List Str → Str → Nat
  | [], _ => 0
  | x :: L, l => if x = l then 0 else pos L l + 1
def fGr (Ls : List Str) (l : Str) (k : Nat) : Nat := max k (pos Ls l + 1)
theorem gr_steps (n : Nat) : ∀ (L : List Str) (a : Nat), L.Nodup → (enumD (a : Int) (L.map .str)).map (grT (n : Int) 1) = L.map fun l => .tuple [.str l, .tuple ((List.range n).map fun k => PyData.int (max k (a + pos L l + 1) : Nat))]
  | [], _, _ => rfl
  | x :: L, a, nd => by
    obtain ⟨nx, nd⟩ := List.nodup_cons.mp nd
    show grT (n : Int) 1 (.tuple [.int (a : Int), .str x]) :: (enumD ((a : Int) + 1) (L.map .str)).map (grT (n : Int) 1) = _
    rw [show ((a : Int) + 1) = ((a + 1 : Nat) : Int) from rfl, gr_steps n L (a + 1) nd, List.map_cons]
    congr 1
    · show PyData.tuple [.str x, .tuple ((rgD 0 (n : Int)).map (iMap fun s => if (a : Int) + 1 > s then (a : Int) + 1 else s))] = _
      rw [rg_nat, List.map_map]
      congr 1
      congr 1
      congr 1
      congr 1
      refine List.map_congr_left fun k _ => ?_
      show PyData.int _ = PyData.int _
      congr 1
      show (if (a : Int) + 1 > (k : Int) then (a : Int) + 1 else (k : Int)) = ((max k (a + pos (x :: L) x + 1) : Nat) : Int)
      rw [show pos (x :: L) x = 0 from if_pos rfl]
      split <;> omega
    · refine List.map_congr_left fun l hl => ?_
      have e : pos (x :: L) l = pos L l + 1 := if_neg fun h : x = l => nx (h ▸ hl)
      rw [e, show a + 1 + pos L l + 1 = a + (pos L l + 1) + 1 by omega]
theorem mGr_mc (Ls : List Str) (nd : Ls.Nodup) : mGr Ls = mc (Ls.length + 1) Ls (fGr Ls) id (.str "nothing" :: Ls.map .str) := by
  unfold mGr mc stay
  have h := gr_steps (Ls.length + 1) Ls 0 nd
  rw [show ((Ls.length : Int) + 1) = ((Ls.length + 1 : Nat) : Int) from rfl, rg_nat]
  congr 1
  congr 1
  congr 1
  refine h.trans (List.map_congr_left fun l _ => ?_)
  unfold fGr
  rw [Nat.zero_add]
theorem pos_lt : ∀ {L : List Str} {l : Str}, l ∈ L → pos L l < L.length
  | x :: L, l, h => by
    by_cases e : x = l
    · rw [show pos (x :: L) l = 0 from if_pos e]; simp
    · rw [show pos (x :: L) l = pos L l + 1 from if_neg e, List.length_cons]
      have := pos_lt ((List.mem_cons.mp h).resolve_left fun h => e h.symm)
      omega
theorem pos_get : ∀ {L : List Str} {l : Str}, l ∈ L → L[pos L l]? = some l
  | x :: L, l, h => by
    by_cases e : x = l
    · rw [show pos (x :: L) l = 0 from if_pos e, e]; rfl
    · rw [show pos (x :: L) l = pos L l + 1 from if_neg e, List.getElem?_cons_succ]
      exact pos_get ((List.mem_cons.mp h).resolve_left fun h => e h.symm)
/-- the greatest place so far -/
theorem run_gr (Ls : List Str) : ∀ (W : List Str) (c : Nat), runM (fGr Ls) id c W = (bare W).foldl (fun k w => max k (pos Ls w + 1)) c
  | [], c => rfl
  | w :: W, c => by
    show runM (fGr Ls) id (if w = tick then c else fGr Ls w c) W = _
    rw [run_gr Ls W]
    unfold bare
    by_cases ht : w = tick
    · rw [if_pos ht, List.filter_cons_of_neg (by simp [notTick, ht])]
    · rw [if_neg ht, List.filter_cons_of_pos (by simp [notTick, ht])]
      rfl
end K18

namespace K18
open PySem PySem.Spec PyProof.Rows L2 VL
variable {b : List D} {Q : M → List M → Prop} {E : Ex → List M → Prop}
mutual
theorem same : ∀ {n : Nat} (d : D), Pl n d → PyData.eqv d d = true
  | _, .none, _ => rfl
  | _, .bool _, _ => by simp [PyData.eqv]
  | _, .int _, _ => by simp [PyData.eqv]
  | _, .str _, _ => by simp [PyData.eqv]
  | _, .dict _, h => by simp at h
  | n, .list xs, h => by
    rw [Pl_list] at h
    rw [v_lst]
    exact sameAll xs h.2
  | n, .tuple xs, h => by
    rw [Pl_tuple] at h
    rw [v_tup]
    exact sameAll xs h.2
theorem sameAll : ∀ {n : Nat} (xs : List D), (∀ x ∈ xs, Pl n x) → PyData.eqvAll xs xs = true
  | _, [], _ => rfl
  | n, x :: xs, h => by
    show (PyData.eqv x x && PyData.eqvAll xs xs) = true
    rw [same x (h x List.mem_cons_self), sameAll xs fun y hy => h y (List.mem_cons_of_mem _ hy)]
    rfl
end
theorem s_alike {d : D} (pl : Pl 60 d) (sh : d.showable = true) (ln : d.shown.length ≤ 16777216) (q : Q (.fz (.bool true)) []) : sp__law_alike [.fz d, .fz d] Q E := by
  have r : PyData.eqv d d = true := same d pl
  have r2 : PyData.eqv (.str d.shown) (.str d.shown) = true := by rw [v_str]; simp
  refine e_body rfl (by simp only [List.map_cons, List.map_nil, List.length_cons, List.length_nil, Nat.reduceAdd, Nat.reduceSub, List.replicate, List.replicate_zero, List.cons_append, List.nil_append]; rfl) ?_
  unfold g__law_alike
  walk_at "vl"
  refine ⟨pl, sh, ln, ?_⟩
  walk_at "vl"
  refine ⟨pl, sh, ln, ?_⟩
  walk_at "vl"
  · rw [r2]
    refine e_iteT ?_
    walk_at "vl"
    · rw [r]
      exact q
    · exact ⟨pl, pl⟩
  · exact ⟨by simp, by simp⟩
end K18

namespace K18
open PySem PySem.Spec PyProof.Rows L2 VL
/-! the row machine: what it holds is the longest beginning of the row that the word ends in, or the whole row once it was there -/
theorem bst_mem : ∀ (l : List Nat) (c : Nat), l.foldl max c = c ∨ l.foldl max c ∈ l
  | [], _ => .inl rfl
  | x :: l, c => by
    show (l.foldl max (max c x)) = c ∨ (l.foldl max (max c x)) ∈ x :: l
    rcases bst_mem l (max c x) with e | h
    · rw [e]
      by_cases hx : x ≤ c
      · exact .inl (Nat.max_eq_left hx)
      · exact .inr (by rw [Nat.max_eq_right (by omega)]; exact List.mem_cons_self)
    · exact .inr (List.mem_cons_of_mem _ h)
theorem bst_ge0 : ∀ (l : List Nat) (c : Nat), c ≤ l.foldl max c
  | [], _ => Nat.le_refl _
  | x :: l, c => Nat.le_trans (Nat.le_max_left c x) (bst_ge0 l (max c x))
theorem bst_ge : ∀ (l : List Nat) (c y : Nat), y ∈ l → y ≤ l.foldl max c
  | x :: l, c, y, h => by
    rcases List.mem_cons.mp h with rfl | h
    · exact Nat.le_trans (Nat.le_max_right c y) (bst_ge0 l _)
    · exact bst_ge l _ y h
/-- S ends in the first k of R -/
def EndsIn (S Rs : List Str) (k : Nat) : Prop := k ≤ Rs.length ∧ Rs.take k <:+ S
theorem bst_filter {n : Nat} {p : Nat → Bool} (h0 : 0 < n) (hp : p 0 = true) : bst ((List.range n).filter p) < n ∧ p (bst ((List.range n).filter p)) = true ∧ ∀ m, m < n → p m = true → m ≤ bst ((List.range n).filter p) := by
  unfold bst
  have hge : ∀ m, m < n → p m = true → m ≤ ((List.range n).filter p).foldl max 0 := fun m hm e => bst_ge _ 0 m (List.mem_filter.mpr ⟨List.mem_range.mpr hm, e⟩)
  rcases bst_mem ((List.range n).filter p) 0 with e | h
  · exact ⟨by rw [e]; exact h0, by rw [e]; exact hp, hge⟩
  · have := List.mem_filter.mp h
    exact ⟨List.mem_range.mp this.1, this.2, hge⟩
end K18

namespace K18
open PySem PySem.Spec PyProof.Rows L2 VL
theorem ends_pred {S Rs : List Str} {l : Str} {m : Nat} (h : EndsIn (S ++ [l]) Rs (m + 1)) : EndsIn S Rs m := by
  obtain ⟨hl, T, e⟩ := h
  refine ⟨by omega, T, ?_⟩
  have hm : m < Rs.length := by omega
  rw [List.take_succ_eq_append_getElem hm, ← List.append_assoc] at e
  exact (List.append_inj' e rfl).1
/-- k is the longest -/
def Longest (S Rs : List Str) (k : Nat) : Prop := EndsIn S Rs k ∧ ∀ m, EndsIn S Rs m → m ≤ k
theorem longest_nil (Rs : List Str) : Longest [] Rs 0 := by
  refine ⟨⟨Nat.zero_le _, by rw [List.take_zero]; exact List.nil_suffix⟩, fun m h => ?_⟩
  have := h.2.length_le
  rw [List.length_take, Nat.min_eq_left h.1] at this
  exact this
theorem suf_drop {A B : List Str} (h : A.length ≤ B.length) : (A = B.drop (B.length - A.length)) ↔ A <:+ B := by
  constructor
  · intro e
    rw [e]
    exact List.drop_suffix _ _
  · rintro ⟨T, rfl⟩
    rw [List.length_append, Nat.add_sub_cancel, List.drop_left]
theorem longest_step {S Rs : List Str} {l : Str} {k : Nat} (h : Longest S Rs k) (hk : k < Rs.length) : Longest (S ++ [l]) Rs (rbN Rs k l) := by
  unfold rbN
  rw [if_neg (by omega)]
  have len : (Rs.take k ++ [l]).length = k + 1 := by rw [List.length_append, List.length_take, Nat.min_eq_left (by omega)]; rfl
  have base : Rs.take k ++ [l] <:+ S ++ [l] := by
    obtain ⟨T, e⟩ := h.1.2
    exact ⟨T, by rw [← List.append_assoc, e]⟩
  have pm : ∀ m, m < k + 2 → (decide (Rs.take m = (Rs.take k ++ [l]).drop (k + 1 - m)) = true ↔ EndsIn (S ++ [l]) Rs m) := fun m hm => by
    have lm : (Rs.take m).length = m := by rw [List.length_take, Nat.min_eq_left (by omega)]
    have sd := suf_drop (A := Rs.take m) (B := Rs.take k ++ [l]) (by rw [lm, len]; omega)
    rw [lm, len] at sd
    rw [decide_eq_true_iff, sd]
    constructor
    · exact fun x => ⟨by omega, x.trans base⟩
    · exact fun x => List.suffix_of_suffix_length_le x.2 base (by rw [lm, len]; omega)
  have bf := bst_filter (n := k + 2) (p := fun m => decide (Rs.take m = (Rs.take k ++ [l]).drop (k + 1 - m))) (by omega) ((pm 0 (by omega)).mpr ⟨Nat.zero_le _, by rw [List.take_zero]; exact List.nil_suffix⟩)
  refine ⟨(pm _ bf.1).mp bf.2.1, fun m hm => ?_⟩
  cases m with
  | zero => exact Nat.zero_le _
  | succ m =>
    have := h.2 m (ends_pred hm)
    exact bf.2.2 _ (by omega) ((pm _ (by omega)).mpr hm)
end K18

namespace K18
open PySem PySem.Spec PyProof.Rows L2 VL
def RowInv (Rs S : List Str) (k : Nat) : Prop := (k < Rs.length ∧ Longest S Rs k ∧ ¬ Rs <:+: S) ∨ (k = Rs.length ∧ Rs <:+: S)
theorem row_step {Rs S : List Str} {k : Nat} {l : Str} (h : RowInv Rs S k) : RowInv Rs (S ++ [l]) (rbN Rs k l) := by
  rcases h with ⟨hk, hL, hn⟩ | ⟨rfl, ho⟩
  · have st := longest_step (l := l) hL hk
    by_cases e : rbN Rs k l = Rs.length
    · refine .inr ⟨e, ?_⟩
      have := st.1.2
      rw [e, List.take_length] at this
      exact this.isInfix
    · have := st.1.1
      refine .inl ⟨by omega, st, fun ho => ?_⟩
      rcases List.infix_concat_iff.mp ho with s | s
      · have := st.2 Rs.length ⟨Nat.le_refl _, by rw [List.take_length]; exact s⟩
        omega
      · exact hn s
  · refine .inr ⟨?_, ho.trans (List.prefix_append S [l]).isInfix⟩
    unfold rbN
    rw [if_pos rfl]
theorem run_row {Rs : List Str} : ∀ (W S : List Str) (k : Nat), RowInv Rs S k → RowInv Rs (S ++ bare W) (runM (fun l k => rbN Rs k l) id k W)
  | [], S, k, h => by
    show RowInv Rs (S ++ []) k
    rw [List.append_nil]
    exact h
  | w :: W, S, k, h => by
    show RowInv Rs (S ++ bare (w :: W)) (runM (fun l k => rbN Rs k l) id (if w = tick then k else rbN Rs k w) W)
    unfold bare
    by_cases ht : w = tick
    · rw [if_pos ht, List.filter_cons_of_neg (by simp [notTick, ht])]
      exact run_row W S k h
    · rw [if_neg ht, List.filter_cons_of_pos (by simp [notTick, ht])]
      have := run_row W (S ++ [w]) _ (row_step (l := w) h)
      rw [List.append_assoc] at this
      exact this
theorem row_start {Rs : List Str} (h : 0 < Rs.length) : RowInv Rs [] 0 := .inl ⟨h, longest_nil Rs, fun ho => by
  have := ho.length_le
  simp at this
  rw [this] at h
  simp at h⟩
theorem hasB_iff {S Rs : List Str} : hasB S Rs = true ↔ Rs <:+: S := by
  unfold hasB
  rw [List.any_eq_true]
  constructor
  · rintro ⟨a, _, e⟩
    have e : (S.drop a).take Rs.length = Rs := of_decide_eq_true e
    rw [← e]
    exact (List.take_prefix _ _).isInfix.trans (List.drop_suffix _ _).isInfix
  · rintro ⟨A, B, rfl⟩
    refine ⟨A.length, List.mem_range.mpr (by simp; omega), decide_eq_true ?_⟩
    rw [List.append_assoc, List.drop_left, List.take_left]
end K18

namespace K18
open PySem PySem.Spec PyProof.Rows L2 VL
/-! what each machine answers -/
theorem yn_get {m k : Nat} (h : k ≤ m) : (List.replicate m (PyData.str "no") ++ [PyData.str "yes"])[k]? = some (.str (if k = m then "yes" else "no")) := by
  by_cases e : k = m
  · subst e
    rw [if_pos rfl, List.getElem?_append_right (by simp)]
    simp
  · rw [if_neg e, List.getElem?_append_left (by simp; omega), List.getElem?_replicate, if_pos (by omega)]
theorem out_at (ss W : List Str) (m : Nat) : (List.replicate m (PyData.str "no") ++ [PyData.str "yes"])[runM (fAt ss m) id 0 W]? = some (.str (if m ≤ ((bare W).filter fun w => mem (ss.map .str) (.str w)).length then "yes" else "no")) := by
  have h := run_at ss m W 0
  rw [Nat.zero_min, Nat.zero_add] at h
  rw [h, yn_get (Nat.min_le_right _ _)]
  congr 2
  by_cases c : m ≤ ((bare W).filter fun w => mem (ss.map .str) (.str w)).length
  · rw [if_pos (Nat.min_eq_right c), if_pos c]
  · rw [if_neg (by omega), if_neg c]
theorem out_row {Rs W : List Str} (h : 0 < Rs.length) : (List.replicate Rs.length (PyData.str "no") ++ [PyData.str "yes"])[runM (fun l k => rbN Rs k l) id 0 W]? = some (.str (if hasB (bare W) Rs = true then "yes" else "no")) := by
  have r := run_row W [] 0 (row_start h)
  rw [List.nil_append] at r
  rcases r with ⟨hk, _, hn⟩ | ⟨hk, ho⟩
  · rw [yn_get (by omega), if_neg (by omega), if_neg (fun x => hn (hasB_iff.mp x))]
  · rw [yn_get (by omega), if_pos hk, if_pos (hasB_iff.mpr ho)]
/-- the word ends in a tick -/
theorem out_each (ss V : List Str) : [PyData.str "yes", .str "yes", .str "no"][runM (fEach ss) tEach 0 (V ++ [tick])]? = some (.str (if (eRun ss (V ++ [tick])).2 = true then "yes" else "no")) := by
  have h := run_each ss (V ++ [tick]) (false, true)
  rw [show codeE (false, true) = 0 from rfl] at h
  rw [h]
  show _ = some (PyData.str (if (eRun ss (V ++ [tick])).2 = true then "yes" else "no"))
  unfold eRun
  generalize (V ++ [tick]).foldl (eStep ss) (false, true) = p
  obtain ⟨t, a⟩ := p
  cases t <;> cases a <;> rfl
end K18

namespace K18
open PySem PySem.Spec PyProof.Rows L2 VL
theorem pos_lt_of : ∀ {L : List Str} {x y : Str}, L.Pairwise ltS → x ∈ L → y ∈ L → pos L x < pos L y → ltS x y
  | a :: L, x, y, pw, hx, hy, h => by
    obtain ⟨p1, p2⟩ := List.pairwise_cons.mp pw
    by_cases ey : a = y
    · rw [show pos (a :: L) y = 0 from if_pos ey] at h
      omega
    · have hy := (List.mem_cons.mp hy).resolve_left fun h => ey h.symm
      by_cases ex : a = x
      · exact ex ▸ p1 y hy
      · rw [show pos (a :: L) y = pos L y + 1 from if_neg ey, show pos (a :: L) x = pos L x + 1 from if_neg ex] at h
        exact pos_lt_of p2 ((List.mem_cons.mp hx).resolve_left fun h => ex h.symm) hy (by omega)
theorem pos_inj {L : List Str} {x y : Str} (hx : x ∈ L) (hy : y ∈ L) (h : pos L x = pos L y) : x = y := by
  have a := pos_get hx
  have c := pos_get hy
  rw [h, c] at a
  exact (Option.some.inj a).symm
theorem ltS_irr {x y : Str} (h : ltS x y) (h2 : ltS y x) : False := by
  unfold ltS at h h2
  exact absurd h2 (List.lt_asymm h)
theorem lt_pos {L : List Str} {x y : Str} (pw : L.Pairwise ltS) (hx : x ∈ L) (hy : y ∈ L) : PySem.W.dataLt (.str x) (.str y) = decide (pos L x < pos L y) := by
  rw [ltD_s]
  refine decide_eq_decide.mpr ⟨fun h => ?_, pos_lt_of pw hx hy⟩
  rcases Nat.lt_trichotomy (pos L x) (pos L y) with c | c | c
  · exact c
  · have e := pos_inj hx hy c
    subst e
    exact (ltS_irr h h).elim
  · exact (ltS_irr h (pos_lt_of pw hy hx c)).elim
theorem max_pos {L : List Str} (pw : L.Pairwise ltS) : ∀ (ws : List Str) (x : Str), x ∈ L → (∀ w ∈ ws, w ∈ L) → ∃ y ∈ L, PySem.W.maxD (.str x) (ws.map .str) = .str y ∧ ws.foldl (fun k w => max k (pos L w + 1)) (pos L x + 1) = pos L y + 1
  | [], x, hx, _ => ⟨x, hx, rfl, rfl⟩
  | w :: ws, x, hx, hw => by
    have hw0 := hw w List.mem_cons_self
    have hws : ∀ v ∈ ws, v ∈ L := fun v hv => hw v (List.mem_cons_of_mem _ hv)
    show ∃ y ∈ L, PySem.W.maxD (if PySem.W.dataLt (.str x) (.str w) = true then .str w else .str x) (ws.map .str) = .str y ∧ ws.foldl (fun k w => max k (pos L w + 1)) (max (pos L x + 1) (pos L w + 1)) = pos L y + 1
    rw [lt_pos pw hx hw0]
    by_cases c : pos L x < pos L w
    · rw [if_pos (by simpa using c), Nat.max_eq_right (by omega)]
      exact max_pos pw ws w hw0 hws
    · rw [if_neg (by simpa using c), Nat.max_eq_left (by omega)]
      exact max_pos pw ws x hx hws
end K18

namespace K18
open PySem PySem.Spec PyProof.Rows L2 VL
theorem out_gr {Ls W : List Str} (pw : Ls.Pairwise ltS) (h : ∀ w ∈ bare W, w ∈ Ls) : ∃ y : Str, (PyData.str "nothing" :: Ls.map .str)[runM (fGr Ls) id 0 W]? = some (.str y) ∧ (bare W = [] → y = "nothing") ∧ ∀ x ws, bare W = x :: ws → PySem.W.maxD (.str x) (ws.map .str) = .str y := by
  rw [run_gr]
  cases e : bare W with
  | nil => exact ⟨"nothing", rfl, fun _ => rfl, fun _ _ h => by cases h⟩
  | cons x ws =>
    rw [e] at h
    obtain ⟨y, hy, e1, e2⟩ := max_pos pw ws x (h x List.mem_cons_self) fun w hw => h w (List.mem_cons_of_mem _ hw)
    refine ⟨y, ?_, (fun h => by cases h), fun x' ws' h => ?_⟩
    · rw [List.foldl_cons, Nat.zero_max, e2, List.getElem?_cons_succ, List.getElem?_map, pos_get hy]
      rfl
    · obtain ⟨rfl, rfl⟩ := List.cons.inj h
      exact e1
end K18

namespace K18
open PySem PySem.Spec PyProof.Rows L2 VL
/-- letters as the law has them -/
def Lt (x : Str) : Prop := StrOk x ∧ x.cps.size ≤ 8
theorem Lt.sm {x : Str} (h : Lt x) {k : Nat} : Sm k 8 (.str x) := Sm.str h.1 h.2
theorem sm_ints {n : Nat} {g : Nat → Nat} (hn : n ≤ 101) (h : ∀ k, k < n → g k ≤ 1000000) {k : Nat} : Sm (k + 1) 101 (.tuple ((List.range n).map fun k => .int (g k : Nat))) := by
  refine Sm.tup (n := 0) (m := 101) (fun x hx => ?_) (by rw [List.length_map, List.length_range]; exact hn) (by decide)
  obtain ⟨i, hi, rfl⟩ := List.mem_map.mp hx
  have := h i (List.mem_range.mp hi)
  refine Sm.int ?_
  rw [Int.natAbs_natCast]
  omega
theorem sm_mc {n : Nat} {Ls : List Str} {f : Str → Nat → Nat} {tk : Nat → Nat} {outs : List D} (hn : n ≤ 101) (hL : ∀ l ∈ Ls, Lt l) (hl : Ls.length ≤ 100) (hf : ∀ l ∈ Ls, ∀ k, k < n → f l k ≤ 1000000) (ht : ∀ k, k < n → tk k ≤ 1000000) (ho : ∀ x ∈ outs, Sm 0 8 x) (hol : outs.length ≤ 101) : Sm 4 61506 (mc n Ls f tk outs) := by
  refine Sm.tup (n := 20500) (m := 3) (fun x hx => ?_) (by simp) (by decide)
  rcases List.mem_cons.mp hx with rfl | hx
  · refine Sm.tup (n := 204) (m := 100) (fun y hy => ?_) (by unfold stepsOf; rw [List.length_map]; exact hl) (by decide)
    obtain ⟨l, hl, rfl⟩ := List.mem_map.mp hy
    refine Sm.tup (n := 101) (m := 2) (fun z hz => ?_) (by simp) (by decide)
    rcases List.mem_cons.mp hz with rfl | hz
    · exact (hL l hl).sm.mono (Nat.le_refl _) (by decide)
    · rw [List.mem_singleton] at hz
      subst hz
      exact sm_ints hn (hf l hl)
  · rcases List.mem_cons.mp hx with rfl | hx
    · exact (sm_ints (k := 2) hn ht).mono (Nat.le_refl _) (by decide)
    · rw [List.mem_singleton] at hx
      subst hx
      exact (Sm.tup (k := 2) (n := 8) (m := 101) (N := 909) (fun x hx => (ho x hx).mono (by decide) (Nat.le_refl _)) hol (by decide)).mono (Nat.le_refl _) (by decide)
theorem sm_yn {m : Nat} : ∀ x ∈ List.replicate m (PyData.str "no") ++ [PyData.str "yes"], Sm 0 8 x := fun x hx => by
  have n1 : Sm 0 8 (PyData.str "no") := Sm.str (by unfold StrOk; decide) (by decide)
  have n2 : Sm 0 8 (PyData.str "yes") := Sm.str (by unfold StrOk; decide) (by decide)
  rcases List.mem_append.mp hx with h | h
  · rw [List.eq_of_mem_replicate h]; exact n1
  · rw [List.mem_singleton] at h
    rw [h]; exact n2
theorem rbN_le {Rs : List Str} {s : Nat} {l : Str} (h : s ≤ Rs.length) : rbN Rs s l ≤ Rs.length + 1 := by
  unfold rbN
  split
  · omega
  · have := (bst_filter (n := s + 2) (p := fun m => decide (Rs.take m = (Rs.take s ++ [l]).drop (s + 1 - m))) (by omega) (by simp; omega)).1
    omega
/-- what the law compares as texts is small -/
theorem told_sm {Ls ss Rs : List Str} {m : Nat} (hL : ∀ l ∈ Ls, Lt l) (nd : Ls.Nodup) (hl : Ls.length ≤ 50) (hm : m ≤ 50) (hr : Rs.length ≤ 50) : Sm 5 250000 (.list [mAt Ls ss (m : Int), mGr Ls, mRow Ls Rs, mEach Ls ss]) := by
  have h1 : Sm 4 61506 (mAt Ls ss (m : Int)) := by
    rw [mAt_mc]
    refine sm_mc (by omega) hL (by omega) (fun l _ k hk => ?_) (fun k hk => by show k ≤ _; omega) sm_yn (by simp; omega)
    unfold fAt
    split <;> omega
  have h2 : Sm 4 61506 (mGr Ls) := by
    rw [mGr_mc Ls nd]
    refine sm_mc (by omega) hL (by omega) (fun l hl k hk => ?_) (fun k hk => by show k ≤ _; omega) (fun x hx => ?_) (by simp; omega)
    · have := pos_lt hl
      unfold fGr
      omega
    · rcases List.mem_cons.mp hx with rfl | hx
      · exact Sm.str (by unfold StrOk; decide) (by decide)
      · obtain ⟨l, hl, rfl⟩ := List.mem_map.mp hx
        exact (hL l hl).sm
  have h3 : Sm 4 61506 (mRow Ls Rs) := by
    rw [mRow_mc]
    refine sm_mc (by omega) hL (by omega) (fun l _ k hk => ?_) (fun k hk => by show k ≤ _; omega) sm_yn (by simp; omega)
    have := rbN_le (Rs := Rs) (s := k) (l := l) (by omega)
    omega
  have h4 : Sm 4 61506 (mEach Ls ss) := by
    rw [mEach_mc]
    refine sm_mc (by omega) hL (by omega) (fun l _ k hk => ?_) (fun k hk => ?_) (fun x hx => ?_) (by simp)
    · unfold fEach
      split
      · split <;> omega
      · omega
    · unfold tEach
      split
      · omega
      · split <;> omega
    · have n1 : Sm 0 8 (PyData.str "no") := Sm.str (by unfold StrOk; decide) (by decide)
      have n2 : Sm 0 8 (PyData.str "yes") := Sm.str (by unfold StrOk; decide) (by decide)
      simp only [List.mem_cons, List.not_mem_nil, or_false] at hx
      rcases hx with rfl | rfl | rfl
      · exact n2
      · exact n2
      · exact n1
  refine Sm.lst (n := 61506) (m := 4) (fun x hx => ?_) (by simp) (by decide)
  simp only [List.mem_cons, List.not_mem_nil, or_false] at hx
  rcases hx with rfl | rfl | rfl | rfl
  · exact h1
  · exact h2
  · exact h3
  · exact h4
end K18

set_option maxHeartbeats 4000000
namespace K18
open PySem PySem.Spec PyProof.Rows L2 VL
variable {b : List D} {Q : M → List M → Prop} {E : Ex → List M → Prop}
theorem e_maxGr {W : List Str} {y : Str} {km : M → Prop} (y0 : bare W = [] → y = "nothing") (y1 : ∀ x ws, bare W = x :: ws → PySem.W.maxD (.str x) (ws.map .str) = .str y) (h : km (.fz (.str y))) :
    gMax1 [.list (VL.cutD [PyData.str (Str.ofString "nothing")] (some ((decide (0 < ((List.map PyData.str (bare W)).length : Int))).toNat : Int)) none ++ (bare W).map .str)] km := by
  rw [cut_drop _ _ (by omega), Int.toNat_natCast]
  cases e : bare W with
  | nil =>
    have ey := y0 e
    subst ey
    refine ⟨?_, ⟨fun x hx y hy => ?_, fun x hx => ?_⟩, h⟩
    · rw [Pl_list]
      refine ⟨by omega, fun x hx => ?_⟩
      have hx : x ∈ [PyData.str (Str.ofString "nothing")] := hx
      rw [List.mem_singleton.mp hx]
      simp
    · have hx : x ∈ [PyData.str (Str.ofString "nothing")] := hx
      have hy : y ∈ [PyData.str (Str.ofString "nothing")] := hy
      rw [List.mem_singleton.mp hx, List.mem_singleton.mp hy]
      rfl
    · have hx : x ∈ [PyData.str (Str.ofString "nothing")] := hx
      rw [List.mem_singleton.mp hx]
      exact fun z => by cases z
  | cons x ws =>
    have e1 := y1 x ws e
    have ed : (decide (0 < ((List.map PyData.str (x :: ws)).length : Int))).toNat = 1 := by
      rw [decide_eq_true (by rw [List.length_map, List.length_cons]; omega)]; rfl
    rw [ed]
    show gMax1 [.list ((x :: ws).map .str)] km
    have all : ∀ z ∈ (x :: ws).map PyData.str, ∃ s, z = .str s := fun z hz => by
      obtain ⟨s, _, rfl⟩ := List.mem_map.mp hz
      exact ⟨s, rfl⟩
    refine ⟨?_, ⟨fun z hz y hy => ?_, fun z hz => ?_⟩, ?_⟩
    · rw [Pl_list]
      exact ⟨by omega, fun z hz => strs_all (L := x :: ws) z hz⟩
    · obtain ⟨s, rfl⟩ := all z hz
      obtain ⟨t, rfl⟩ := all y hy
      rfl
    · obtain ⟨s, rfl⟩ := all z hz
      exact fun q => by cases q
    · rw [e1]; exact h
variable {Ls ss Rs W : List Str} {m : Nat}
theorem s_out_at (hl : Ls.length ≤ 100) (hW : ∀ w ∈ W, w = tick ∨ w ∈ Ls) (q : Q (.fz (.str (if m ≤ ((bare W).filter fun w => mem (ss.map .str) (.str w)).length then "yes" else "no"))) []) : sp__law_out [.fz (mAt Ls ss (m : Int)), .fz (.list (W.map .str))] Q E := by
  rw [mAt_mc]
  refine s_law_out hl (Nat.succ_pos _) (fun l _ k hk => ?_) (fun k hk => hk) hW (out_at ss W m) q
  unfold fAt
  split <;> omega
theorem s_out_gr {y : Str} (hl : Ls.length ≤ 100) (nd : Ls.Nodup) (hW : ∀ w ∈ W, w = tick ∨ w ∈ Ls) (ho : (PyData.str "nothing" :: Ls.map .str)[runM (fGr Ls) id 0 W]? = some (.str y)) (q : Q (.fz (.str y)) []) : sp__law_out [.fz (mGr Ls), .fz (.list (W.map .str))] Q E := by
  rw [mGr_mc Ls nd]
  refine s_law_out hl (Nat.succ_pos _) (fun l hl k hk => ?_) (fun k hk => hk) hW ho q
  have := pos_lt hl
  unfold fGr
  omega
theorem s_out_row (hl : Ls.length ≤ 100) (h0 : 0 < Rs.length) (hW : ∀ w ∈ W, w = tick ∨ w ∈ Ls) (q : Q (.fz (.str (if hasB (bare W) Rs = true then "yes" else "no"))) []) : sp__law_out [.fz (mRow Ls Rs), .fz (.list (W.map .str))] Q E := by
  rw [mRow_mc]
  refine s_law_out hl (Nat.succ_pos _) (fun l _ k hk => ?_) (fun k hk => hk) hW (out_row h0) q
  unfold rbN
  split
  · exact hk
  · rename_i hne
    have bf := bst_filter (n := k + 2) (p := fun m => decide (Rs.take m = (Rs.take k ++ [l]).drop (k + 1 - m))) (by omega) (by simp; omega)
    have := bf.1
    have h2 := bf.2.1
    have h3 := congrArg List.length (of_decide_eq_true h2)
    rw [List.length_take, List.length_drop, List.length_append, List.length_take] at h3
    simp only [List.length_singleton] at h3
    omega
theorem s_out_each (hl : Ls.length ≤ 100) (hW : ∀ w ∈ W, w = tick ∨ w ∈ Ls) (ho : [PyData.str "yes", .str "yes", .str "no"][runM (fEach ss) tEach 0 W]? = some (.str (if (eRun ss W).2 = true then "yes" else "no"))) (q : Q (.fz (.str (if (eRun ss W).2 = true then "yes" else "no"))) []) : sp__law_out [.fz (mEach Ls ss), .fz (.list (W.map .str))] Q E := by
  rw [mEach_mc]
  refine s_law_out hl (by omega) (fun l _ k hk => ?_) (fun k hk => ?_) hW ho q
  · unfold fEach
    split
    · split <;> omega
    · exact hk
  · unfold tEach
    split
    · omega
    · split <;> omega
end K18

namespace K18
open PySem PySem.Spec PyProof.Rows L2 VL
variable {b : List D} {Q : M → List M → Prop} {E : Ex → List M → Prop}
theorem all2_str {P : Str → Prop} : ∀ {ds ys : List D}, All2 (fun _ y => ∃ s, P s ∧ y = .str s) ds ys → ∃ S : List Str, ys = S.map .str ∧ (∀ s ∈ S, P s) ∧ S.length = ds.length
  | _, _, .nil => ⟨[], rfl, fun _ h => by simp at h, rfl⟩
  | _, _, .cons ⟨s, hs, e⟩ r => by
    obtain ⟨S, h1, h2, h3⟩ := all2_str r
    subst e
    exact ⟨s :: S, by rw [h1] <;> rfl, fun x hx => (List.mem_cons.mp hx).elim (fun e => e ▸ hs) (h2 x), by rw [List.length_cons, List.length_cons, h3]⟩
/-- .. and in the inner loop -/
def St1 (ns : List Int) (d : D) (L ss Rs : List Str) (m : Nat) (e : VL.Env) : Prop := ∃ b x8 x9 x10 x11, BagOk b ∧ e = ⟨[some (.fz (.list (ns.map .int))), some (.lst b), some (.fz d), some (.fz (.tuple (L.map .str))), some (.fz (.tuple (ss.map .str))), some (.fz (.tuple (Rs.map .str))), some (.fz (.int (m : Int))), some (.fz (.list [mAt L ss (m : Int), mGr L, mRow L Rs, mEach L ss])), x8, x9, x10, x11, none, none], []⟩
theorem e_fifC {env : VL.Env} {ta : FT} {d1 d2 : D} {Q : R → VL.Env → Prop} {W : KX} (h : ta env (fun k e1 => Q (.val (.fz (if k = true then d1 else d2))) e1) W) : fIf ta (fC d1) (fC d2) env Q W := by
  have e : (fun (k : Bool) (e1 : VL.Env) => if k = true then fC d1 e1 Q W else fC d2 e1 Q W) = fun k e1 => Q (.val (.fz (if k = true then d1 else d2))) e1 := by
    funext k e1
    cases k <;> rfl
  show ta env (fun k e1 => if k = true then fC d1 e1 Q W else fC d2 e1 Q W) W
  rw [e]
  exact h
def yn (b : Bool) : Str := if b = true then "yes" else "no"
theorem law_word {ns : List Int} {b : List D} {d : D} {L ss Rs : List Str} {m : Nat} {x8 x9 x10 x11 : Option M} (hb : BagOk b) (pw : L.Pairwise ltS) (nd : L.Nodup) (l0 : 0 < L.length) (l1 : L.length ≤ 6) (r0 : 0 < Rs.length) (r1 : Rs.length ≤ 39) (m0 : 1 ≤ m) (m1 : m ≤ 39)
    {nx : VL.Env → Prop} (hn : ∀ e, St1 ns d L ss Rs m e → nx e) {rt : M → VL.Env → Prop} {bk ct : VL.Env → Prop} {W : KX} :
    g_law_1 ⟨[some (.fz (.list (ns.map .int))), some (.lst b), some (.fz d), some (.fz (.tuple (L.map .str))), some (.fz (.tuple (ss.map .str))), some (.fz (.tuple (Rs.map .str))), some (.fz (.int (m : Int))), some (.fz (.list [mAt L ss (m : Int), mGr L, mRow L Rs, mEach L ss])), x8, x9, x10, x11, none, none], []⟩ ⟨nx, rt, bk, ct⟩ W := by
  unfold g_law_1
  walk_at "vl"
  refine s_take hb (by omega) (by omega) fun v0 b hv0 hw0 hb => ?_
  walk_at "vl"
  refine e_2 ?_ (by omega)
  refine e_3 ?_ rfl (by rw [rgD_length]; omega)
  refine lc_inv (fun e => ∃ b, BagOk b ∧ e = ⟨[some (.fz (.list (ns.map .int))), some (.lst b), some (.fz d), some (.fz (.tuple (L.map .str))), some (.fz (.tuple (ss.map .str))), some (.fz (.tuple (Rs.map .str))), some (.fz (.int (m : Int))), some (.fz (.list [mAt L ss (m : Int), mGr L, mRow L Rs, mEach L ss])), x8, x9, x10, x11, none, none], []⟩) (fun _ y => ∃ s, (s = tick ∨ s ∈ L) ∧ y = .str s) ⟨_, hb, rfl⟩ ?_ ?_
  · rintro dd hd e ⟨b, hb, rfl⟩ Qy Qn hq
    obtain ⟨rr, rfl, _, _⟩ := rg_mem hd
    walk_at "vl"
    · have hc2 : VL.cutD (L.map PyData.str) none (some 3) ++ [.str "tick"] = (L.take 3 ++ [tick]).map .str := by rw [cut_take _ _ (by decide), List.map_append, List.map_take]; rfl
      rw [hc2]
      refine s_some hb (by simp) (by simp; omega) (fun x b hx hb => ?_) (.inr rfl)
      obtain ⟨s, hs, rfl⟩ := List.mem_map.mp hx
      walk_at "vl"
      refine hq _ _ ⟨s, ?_, rfl⟩ ⟨b, hb, rfl⟩
      rcases List.mem_append.mp hs with h | h
      · exact .inr (List.mem_of_mem_take h)
      · exact .inl (List.mem_singleton.mp h)
    · have := cutD_len (L.map PyData.str) none (some 3)
      rw [List.length_map] at this
      simp
      omega
  rintro ys e hys ⟨b, hb, rfl⟩
  obtain ⟨V, rfl, hV, hVl⟩ := all2_str (P := fun s => s = tick ∨ s ∈ L) hys
  rw [rgD_length] at hVl
  clear hys
  walk_at "vl"
  · have hW : V.map PyData.str ++ [PyData.str (Str.ofString "tick")] = (V ++ [tick]).map .str := by rw [List.map_append]; rfl
    rw [hW]
    have eV : runM (fEach ss) tEach 0 (V ++ [tick]) = runM (fEach ss) tEach 0 (V ++ [tick]) := rfl
    have o4 := out_each ss V
    generalize hWd : V ++ [tick] = Wd at o4 ⊢
    have hWl : Wd.length ≤ 25 := by rw [← hWd, List.length_append]; simp; omega
    have hWm : ∀ w ∈ Wd, w = tick ∨ w ∈ L := fun w hw => by
      rw [← hWd] at hw
      rcases List.mem_append.mp hw with h | h
      · exact hV w h
      · exact .inl (List.mem_singleton.mp h)
    clear hWd hW eV
    have bl := bare_len Wd
    have bm : ∀ w ∈ bare Wd, w ∈ L := fun w hw => by
      unfold bare at hw
      obtain ⟨h1, h2⟩ := List.mem_filter.mp hw
      refine (hWm w h1).resolve_left fun e => ?_
      subst e
      simp [notTick] at h2
    repeat (first | (with_reducible apply e_fifC) | (with_reducible apply k_pk1) | (with_reducible apply k_lk1) | (with_reducible apply k_ps0) | (with_reducible apply k_ps1) | ((with_reducible apply e_var); (focus (rfl))) | (with_reducible apply e_c) | (with_reducible apply e_nil) | (with_reducible apply e_p) | (with_reducible apply e_l) | (with_reducible apply e_op) | (with_reducible apply k_pk3) | ((with_reducible apply k_ps2); (focus (rfl)); (focus (rfl))) | (with_reducible apply k_do0) | (with_reducible apply k_do1) | ((with_reducible apply e_varO); (focus (rfl)); (focus (rfl))) | (with_reducible apply k_pk2) | (with_reducible apply k_lk2) | ((with_reducible apply k_lk3); (focus (rfl))) | (with_reducible apply k_am0) | (with_reducible apply k_am1) | ((with_reducible apply k_am2); (focus (rfl)); (focus (rfl))) | (with_reducible apply k_ix0) | (with_reducible apply k_ix1) | (with_reducible apply k_ix2) | (with_reducible apply k_ix3) | ((with_reducible apply k_peS); (focus (simp only [slotsOf]; rfl))) | (with_reducible apply e_caT) | (with_reducible apply e_caN) | ((with_reducible apply e_putM); (focus (simp only [List.set_cons_zero, List.set_cons_succ]; rfl))) | ((with_reducible apply e_stK); (focus (rfl)); (focus (rfl))) | (with_reducible apply e_tup) | (with_reducible apply e_lst) | (with_reducible apply e_tb) | (with_reducible apply e_I) | (with_reducible apply e_call) | ((with_reducible apply e_callA); (focus (rfl)); (focus (rfl)); (focus (rfl))) | (with_reducible apply k_d) | (with_reducible apply k_do2) | (with_reducible apply k_sq1) | (with_reducible apply k_sq2) | (with_reducible apply k_lo1) | (with_reducible apply k_lo2) | (with_reducible apply k_rt1) | ((with_reducible apply k_rt2); (focus (rfl)); (focus (rfl)); (focus (simp only [List.set_cons_zero, List.set_cons_succ]; rfl))) | (with_reducible apply k_bo0) | ((with_reducible apply k_bo1); (focus (rfl)); (focus (rfl))) | ((with_reducible apply k_la); (focus (rfl))) | (with_reducible apply k_pe0) | (with_reducible apply k_pe1) | (with_reducible apply e_s) | (with_reducible apply e_tr) | (with_reducible apply e_and) | (with_reducible apply e_or) | (with_reducible apply e_not) | (with_reducible apply e_andV) | (with_reducible apply e_orV) | (with_reducible apply e_fif) | (with_reducible apply e_oN) | (with_reducible apply e_oS) | (with_reducible apply e_sl) | (with_reducible apply e_next) | (with_reducible apply e_seq) | (with_reducible apply e_ret) | (with_reducible apply e_sif) | (with_reducible apply e_set) | (with_reducible apply e_oaddI) | (with_reducible apply e_osub) | (with_reducible apply e_oneg) | (with_reducible apply e_oabs) | (with_reducible apply e_ointI) | (with_reducible apply e_ointB) | (with_reducible apply e_omin2) | (with_reducible apply e_omax2) | (with_reducible apply e_olenL) | (with_reducible apply e_olenT) | (with_reducible apply e_otupL) | (with_reducible apply e_otupT) | (with_reducible apply e_olstL) | (with_reducible apply e_olstT) | (with_reducible apply e_oslL) | (with_reducible apply e_oslT) | (with_reducible apply e_oixL) | (with_reducible apply e_oixT) | (with_reducible apply e_oaddL) | (with_reducible apply e_oaddT) | (with_reducible apply e_omulI) | (with_reducible apply e_omulT) | (with_reducible apply e_omulL) | (with_reducible apply e_odiv) | (with_reducible apply e_omod) | (with_reducible apply e_opow) | (with_reducible apply e_oeq) | (with_reducible apply e_one) | (with_reducible apply e_oinL) | (with_reducible apply e_oinT) | (with_reducible apply e_olt) | (with_reducible apply e_ogt) | (with_reducible apply e_ole) | (with_reducible apply e_oge) | ((with_reducible apply k_pa); (focus (rfl))) | ((with_reducible apply k_tru); (focus (rfl))) | (with_reducible apply k_lk4) | (with_reducible apply k_am3) | (with_reducible apply k_ow1) | ((with_reducible apply k_ow2); (focus (rfl))) | ((with_reducible apply k_li); (focus (first | (simp only [List.set_cons_zero, List.set_cons_succ, List.cons_append, List.nil_append, List.dropLast_cons_cons, List.dropLast_singleton]; rfl) | rfl))) | (with_reducible apply e_caL) | ((with_reducible apply e_stO); (focus (rfl)); (focus (rfl)); (focus (rfl))) | (with_reducible apply e_notV) | (with_reducible apply e_rg1) | (with_reducible apply e_rg2) | (with_reducible apply e_tupRg) | (with_reducible apply e_lstRg) | (with_reducible apply e_app) | (with_reducible apply e_drop) | (with_reducible apply e_stup) | (with_reducible apply e_setIx) | (with_reducible apply e_augIx) | (with_reducible apply e_aug) | (with_reducible apply e_par) | ((with_reducible apply e_parA); (focus (rfl)); (focus (rfl)); (focus (rfl)); (focus (rfl))) | (with_reducible apply e_for) | ((with_reducible apply e_gN); (focus (rfl)); (focus (rfl))) | (with_reducible apply e_gsN) | (with_reducible apply e_gsC) | ((with_reducible apply e_gT); (focus (rfl))) | (with_reducible apply e_sq) | (with_reducible apply e_rgI1) | (with_reducible apply e_rgI2) | (with_reducible apply e_yes) | (with_reducible apply e_lc) | (with_reducible apply e_any) | ((with_reducible apply e_ixe); (focus (rfl))) | ((with_reducible apply k_ixN); (focus (simp [ixN]; rfl))) | ((with_reducible apply k_ixb); (focus (rfl))) | ((with_reducible apply k_ia); (focus (rfl))) | (with_reducible apply e_gl) | (with_reducible apply e_slB) | (with_reducible apply e_pop) | (with_reducible apply e_popAt) | (with_reducible apply e_brk) | (with_reducible apply e_cnt) | (with_reducible apply e_retN) | (with_reducible apply e_en) | (with_reducible apply e_enK) | (with_reducible apply e_zp) | ((with_reducible apply e_len); (focus (rfl))) | (with_reducible apply e_iteT) | (with_reducible apply e_iteF) | ((with_reducible apply e_turn); (focus (simp only [wipeS, List.set_cons_zero, List.set_cons_succ]; rfl))) | ((with_reducible apply k_re); (focus (simp only [restS, List.set_cons_zero, List.set_cons_succ, List.getElem?_cons_zero, List.getElem?_cons_succ, Option.getD_some]; rfl))))
    refine e_3 ?_ rfl (by rw [List.length_map]; omega)
    refine lc_filt (strP notTick) id (fun d hd Qy Qn hy hn => ?_) ?_
    · obtain ⟨w, _, rfl⟩ := List.mem_map.mp hd
      walk_at "vl"
      · rw [v_str]
        refine e_ite (fun hz => ?_) (fun hz => ?_)
        · walk_at "vl"
          exact hy hz
        · walk_at "vl"
          exact hn hz
      · exact ⟨by simp, by simp⟩
    rw [List.map_id, filt_strs, show Wd.filter notTick = bare Wd from rfl]
    repeat (first | (with_reducible apply e_fifC) | (with_reducible apply k_pk1) | (with_reducible apply k_lk1) | (with_reducible apply k_ps0) | (with_reducible apply k_ps1) | ((with_reducible apply e_var); (focus (rfl))) | (with_reducible apply e_c) | (with_reducible apply e_nil) | (with_reducible apply e_p) | (with_reducible apply e_l) | (with_reducible apply e_op) | (with_reducible apply k_pk3) | ((with_reducible apply k_ps2); (focus (rfl)); (focus (rfl))) | (with_reducible apply k_do0) | (with_reducible apply k_do1) | ((with_reducible apply e_varO); (focus (rfl)); (focus (rfl))) | (with_reducible apply k_pk2) | (with_reducible apply k_lk2) | ((with_reducible apply k_lk3); (focus (rfl))) | (with_reducible apply k_am0) | (with_reducible apply k_am1) | ((with_reducible apply k_am2); (focus (rfl)); (focus (rfl))) | (with_reducible apply k_ix0) | (with_reducible apply k_ix1) | (with_reducible apply k_ix2) | (with_reducible apply k_ix3) | ((with_reducible apply k_peS); (focus (simp only [slotsOf]; rfl))) | (with_reducible apply e_caT) | (with_reducible apply e_caN) | ((with_reducible apply e_putM); (focus (simp only [List.set_cons_zero, List.set_cons_succ]; rfl))) | ((with_reducible apply e_stK); (focus (rfl)); (focus (rfl))) | (with_reducible apply e_tup) | (with_reducible apply e_lst) | (with_reducible apply e_tb) | (with_reducible apply e_I) | (with_reducible apply e_call) | ((with_reducible apply e_callA); (focus (rfl)); (focus (rfl)); (focus (rfl))) | (with_reducible apply k_d) | (with_reducible apply k_do2) | (with_reducible apply k_sq1) | (with_reducible apply k_sq2) | (with_reducible apply k_lo1) | (with_reducible apply k_lo2) | (with_reducible apply k_rt1) | ((with_reducible apply k_rt2); (focus (rfl)); (focus (rfl)); (focus (simp only [List.set_cons_zero, List.set_cons_succ]; rfl))) | (with_reducible apply k_bo0) | ((with_reducible apply k_bo1); (focus (rfl)); (focus (rfl))) | ((with_reducible apply k_la); (focus (rfl))) | (with_reducible apply k_pe0) | (with_reducible apply k_pe1) | (with_reducible apply e_s) | (with_reducible apply e_tr) | (with_reducible apply e_and) | (with_reducible apply e_or) | (with_reducible apply e_not) | (with_reducible apply e_andV) | (with_reducible apply e_orV) | (with_reducible apply e_fif) | (with_reducible apply e_oN) | (with_reducible apply e_oS) | (with_reducible apply e_sl) | (with_reducible apply e_next) | (with_reducible apply e_seq) | (with_reducible apply e_ret) | (with_reducible apply e_sif) | (with_reducible apply e_set) | (with_reducible apply e_oaddI) | (with_reducible apply e_osub) | (with_reducible apply e_oneg) | (with_reducible apply e_oabs) | (with_reducible apply e_ointI) | (with_reducible apply e_ointB) | (with_reducible apply e_omin2) | (with_reducible apply e_omax2) | (with_reducible apply e_olenL) | (with_reducible apply e_olenT) | (with_reducible apply e_otupL) | (with_reducible apply e_otupT) | (with_reducible apply e_olstL) | (with_reducible apply e_olstT) | (with_reducible apply e_oslL) | (with_reducible apply e_oslT) | (with_reducible apply e_oixL) | (with_reducible apply e_oixT) | (with_reducible apply e_oaddL) | (with_reducible apply e_oaddT) | (with_reducible apply e_omulI) | (with_reducible apply e_omulT) | (with_reducible apply e_omulL) | (with_reducible apply e_odiv) | (with_reducible apply e_omod) | (with_reducible apply e_opow) | (with_reducible apply e_oeq) | (with_reducible apply e_one) | (with_reducible apply e_oinL) | (with_reducible apply e_oinT) | (with_reducible apply e_olt) | (with_reducible apply e_ogt) | (with_reducible apply e_ole) | (with_reducible apply e_oge) | ((with_reducible apply k_pa); (focus (rfl))) | ((with_reducible apply k_tru); (focus (rfl))) | (with_reducible apply k_lk4) | (with_reducible apply k_am3) | (with_reducible apply k_ow1) | ((with_reducible apply k_ow2); (focus (rfl))) | ((with_reducible apply k_li); (focus (first | (simp only [List.set_cons_zero, List.set_cons_succ, List.cons_append, List.nil_append, List.dropLast_cons_cons, List.dropLast_singleton]; rfl) | rfl))) | (with_reducible apply e_caL) | ((with_reducible apply e_stO); (focus (rfl)); (focus (rfl)); (focus (rfl))) | (with_reducible apply e_notV) | (with_reducible apply e_rg1) | (with_reducible apply e_rg2) | (with_reducible apply e_tupRg) | (with_reducible apply e_lstRg) | (with_reducible apply e_app) | (with_reducible apply e_drop) | (with_reducible apply e_stup) | (with_reducible apply e_setIx) | (with_reducible apply e_augIx) | (with_reducible apply e_aug) | (with_reducible apply e_par) | ((with_reducible apply e_parA); (focus (rfl)); (focus (rfl)); (focus (rfl)); (focus (rfl))) | (with_reducible apply e_for) | ((with_reducible apply e_gN); (focus (rfl)); (focus (rfl))) | (with_reducible apply e_gsN) | (with_reducible apply e_gsC) | ((with_reducible apply e_gT); (focus (rfl))) | (with_reducible apply e_sq) | (with_reducible apply e_rgI1) | (with_reducible apply e_rgI2) | (with_reducible apply e_yes) | (with_reducible apply e_lc) | (with_reducible apply e_any) | ((with_reducible apply e_ixe); (focus (rfl))) | ((with_reducible apply k_ixN); (focus (simp [ixN]; rfl))) | ((with_reducible apply k_ixb); (focus (rfl))) | ((with_reducible apply k_ia); (focus (rfl))) | (with_reducible apply e_gl) | (with_reducible apply e_slB) | (with_reducible apply e_pop) | (with_reducible apply e_popAt) | (with_reducible apply e_brk) | (with_reducible apply e_cnt) | (with_reducible apply e_retN) | (with_reducible apply e_en) | (with_reducible apply e_enK) | (with_reducible apply e_zp) | ((with_reducible apply e_len); (focus (rfl))) | (with_reducible apply e_iteT) | (with_reducible apply e_iteF) | ((with_reducible apply e_turn); (focus (simp only [wipeS, List.set_cons_zero, List.set_cons_succ]; rfl))) | ((with_reducible apply k_re); (focus (simp only [restS, List.set_cons_zero, List.set_cons_succ, List.getElem?_cons_zero, List.getElem?_cons_succ, Option.getD_some]; rfl))))
    refine e_3 ?_ rfl (by rw [List.length_map]; omega)
    refine lc_filt (strP fun w => mem (ss.map .str) (.str w)) (fun _ => .int 1) (fun d hd Qy Qn hy hn => ?_) ?_
    · obtain ⟨w, _, rfl⟩ := List.mem_map.mp hd
      walk_at "vl"
      · rw [Bool.false_xor]
        refine e_ite (fun hz => ?_) (fun hz => ?_)
        · walk_at "vl"
          exact hy hz
        · walk_at "vl"
          exact hn hz
      · exact ⟨by simp, strs_pl (by omega)⟩
    rw [filt_strs]
    repeat (first | (with_reducible apply e_fifC) | (with_reducible apply k_pk1) | (with_reducible apply k_lk1) | (with_reducible apply k_ps0) | (with_reducible apply k_ps1) | ((with_reducible apply e_var); (focus (rfl))) | (with_reducible apply e_c) | (with_reducible apply e_nil) | (with_reducible apply e_p) | (with_reducible apply e_l) | (with_reducible apply e_op) | (with_reducible apply k_pk3) | ((with_reducible apply k_ps2); (focus (rfl)); (focus (rfl))) | (with_reducible apply k_do0) | (with_reducible apply k_do1) | ((with_reducible apply e_varO); (focus (rfl)); (focus (rfl))) | (with_reducible apply k_pk2) | (with_reducible apply k_lk2) | ((with_reducible apply k_lk3); (focus (rfl))) | (with_reducible apply k_am0) | (with_reducible apply k_am1) | ((with_reducible apply k_am2); (focus (rfl)); (focus (rfl))) | (with_reducible apply k_ix0) | (with_reducible apply k_ix1) | (with_reducible apply k_ix2) | (with_reducible apply k_ix3) | ((with_reducible apply k_peS); (focus (simp only [slotsOf]; rfl))) | (with_reducible apply e_caT) | (with_reducible apply e_caN) | ((with_reducible apply e_putM); (focus (simp only [List.set_cons_zero, List.set_cons_succ]; rfl))) | ((with_reducible apply e_stK); (focus (rfl)); (focus (rfl))) | (with_reducible apply e_tup) | (with_reducible apply e_lst) | (with_reducible apply e_tb) | (with_reducible apply e_I) | (with_reducible apply e_call) | ((with_reducible apply e_callA); (focus (rfl)); (focus (rfl)); (focus (rfl))) | (with_reducible apply k_d) | (with_reducible apply k_do2) | (with_reducible apply k_sq1) | (with_reducible apply k_sq2) | (with_reducible apply k_lo1) | (with_reducible apply k_lo2) | (with_reducible apply k_rt1) | ((with_reducible apply k_rt2); (focus (rfl)); (focus (rfl)); (focus (simp only [List.set_cons_zero, List.set_cons_succ]; rfl))) | (with_reducible apply k_bo0) | ((with_reducible apply k_bo1); (focus (rfl)); (focus (rfl))) | ((with_reducible apply k_la); (focus (rfl))) | (with_reducible apply k_pe0) | (with_reducible apply k_pe1) | (with_reducible apply e_s) | (with_reducible apply e_tr) | (with_reducible apply e_and) | (with_reducible apply e_or) | (with_reducible apply e_not) | (with_reducible apply e_andV) | (with_reducible apply e_orV) | (with_reducible apply e_fif) | (with_reducible apply e_oN) | (with_reducible apply e_oS) | (with_reducible apply e_sl) | (with_reducible apply e_next) | (with_reducible apply e_seq) | (with_reducible apply e_ret) | (with_reducible apply e_sif) | (with_reducible apply e_set) | (with_reducible apply e_oaddI) | (with_reducible apply e_osub) | (with_reducible apply e_oneg) | (with_reducible apply e_oabs) | (with_reducible apply e_ointI) | (with_reducible apply e_ointB) | (with_reducible apply e_omin2) | (with_reducible apply e_omax2) | (with_reducible apply e_olenL) | (with_reducible apply e_olenT) | (with_reducible apply e_otupL) | (with_reducible apply e_otupT) | (with_reducible apply e_olstL) | (with_reducible apply e_olstT) | (with_reducible apply e_oslL) | (with_reducible apply e_oslT) | (with_reducible apply e_oixL) | (with_reducible apply e_oixT) | (with_reducible apply e_oaddL) | (with_reducible apply e_oaddT) | (with_reducible apply e_omulI) | (with_reducible apply e_omulT) | (with_reducible apply e_omulL) | (with_reducible apply e_odiv) | (with_reducible apply e_omod) | (with_reducible apply e_opow) | (with_reducible apply e_oeq) | (with_reducible apply e_one) | (with_reducible apply e_oinL) | (with_reducible apply e_oinT) | (with_reducible apply e_olt) | (with_reducible apply e_ogt) | (with_reducible apply e_ole) | (with_reducible apply e_oge) | ((with_reducible apply k_pa); (focus (rfl))) | ((with_reducible apply k_tru); (focus (rfl))) | (with_reducible apply k_lk4) | (with_reducible apply k_am3) | (with_reducible apply k_ow1) | ((with_reducible apply k_ow2); (focus (rfl))) | ((with_reducible apply k_li); (focus (first | (simp only [List.set_cons_zero, List.set_cons_succ, List.cons_append, List.nil_append, List.dropLast_cons_cons, List.dropLast_singleton]; rfl) | rfl))) | (with_reducible apply e_caL) | ((with_reducible apply e_stO); (focus (rfl)); (focus (rfl)); (focus (rfl))) | (with_reducible apply e_notV) | (with_reducible apply e_rg1) | (with_reducible apply e_rg2) | (with_reducible apply e_tupRg) | (with_reducible apply e_lstRg) | (with_reducible apply e_app) | (with_reducible apply e_drop) | (with_reducible apply e_stup) | (with_reducible apply e_setIx) | (with_reducible apply e_augIx) | (with_reducible apply e_aug) | (with_reducible apply e_par) | ((with_reducible apply e_parA); (focus (rfl)); (focus (rfl)); (focus (rfl)); (focus (rfl))) | (with_reducible apply e_for) | ((with_reducible apply e_gN); (focus (rfl)); (focus (rfl))) | (with_reducible apply e_gsN) | (with_reducible apply e_gsC) | ((with_reducible apply e_gT); (focus (rfl))) | (with_reducible apply e_sq) | (with_reducible apply e_rgI1) | (with_reducible apply e_rgI2) | (with_reducible apply e_yes) | (with_reducible apply e_lc) | (with_reducible apply e_any) | ((with_reducible apply e_ixe); (focus (rfl))) | ((with_reducible apply k_ixN); (focus (simp [ixN]; rfl))) | ((with_reducible apply k_ixb); (focus (rfl))) | ((with_reducible apply k_ia); (focus (rfl))) | (with_reducible apply e_gl) | (with_reducible apply e_slB) | (with_reducible apply e_pop) | (with_reducible apply e_popAt) | (with_reducible apply e_brk) | (with_reducible apply e_cnt) | (with_reducible apply e_retN) | (with_reducible apply e_en) | (with_reducible apply e_enK) | (with_reducible apply e_zp) | ((with_reducible apply e_len); (focus (rfl))) | (with_reducible apply e_iteT) | (with_reducible apply e_iteF) | ((with_reducible apply e_turn); (focus (simp only [wipeS, List.set_cons_zero, List.set_cons_succ]; rfl))) | ((with_reducible apply k_re); (focus (simp only [restS, List.set_cons_zero, List.set_cons_succ, List.getElem?_cons_zero, List.getElem?_cons_succ, Option.getD_some]; rfl))))
    · obtain ⟨y, og, y0, y1⟩ := out_gr (W := Wd) pw bm
      refine e_maxGr y0 y1 ?_
      repeat (first | (with_reducible apply e_fifC) | (with_reducible apply k_pk1) | (with_reducible apply k_lk1) | (with_reducible apply k_ps0) | (with_reducible apply k_ps1) | ((with_reducible apply e_var); (focus (rfl))) | (with_reducible apply e_c) | (with_reducible apply e_nil) | (with_reducible apply e_p) | (with_reducible apply e_l) | (with_reducible apply e_op) | (with_reducible apply k_pk3) | ((with_reducible apply k_ps2); (focus (rfl)); (focus (rfl))) | (with_reducible apply k_do0) | (with_reducible apply k_do1) | ((with_reducible apply e_varO); (focus (rfl)); (focus (rfl))) | (with_reducible apply k_pk2) | (with_reducible apply k_lk2) | ((with_reducible apply k_lk3); (focus (rfl))) | (with_reducible apply k_am0) | (with_reducible apply k_am1) | ((with_reducible apply k_am2); (focus (rfl)); (focus (rfl))) | (with_reducible apply k_ix0) | (with_reducible apply k_ix1) | (with_reducible apply k_ix2) | (with_reducible apply k_ix3) | ((with_reducible apply k_peS); (focus (simp only [slotsOf]; rfl))) | (with_reducible apply e_caT) | (with_reducible apply e_caN) | ((with_reducible apply e_putM); (focus (simp only [List.set_cons_zero, List.set_cons_succ]; rfl))) | ((with_reducible apply e_stK); (focus (rfl)); (focus (rfl))) | (with_reducible apply e_tup) | (with_reducible apply e_lst) | (with_reducible apply e_tb) | (with_reducible apply e_I) | (with_reducible apply e_call) | ((with_reducible apply e_callA); (focus (rfl)); (focus (rfl)); (focus (rfl))) | (with_reducible apply k_d) | (with_reducible apply k_do2) | (with_reducible apply k_sq1) | (with_reducible apply k_sq2) | (with_reducible apply k_lo1) | (with_reducible apply k_lo2) | (with_reducible apply k_rt1) | ((with_reducible apply k_rt2); (focus (rfl)); (focus (rfl)); (focus (simp only [List.set_cons_zero, List.set_cons_succ]; rfl))) | (with_reducible apply k_bo0) | ((with_reducible apply k_bo1); (focus (rfl)); (focus (rfl))) | ((with_reducible apply k_la); (focus (rfl))) | (with_reducible apply k_pe0) | (with_reducible apply k_pe1) | (with_reducible apply e_s) | (with_reducible apply e_tr) | (with_reducible apply e_and) | (with_reducible apply e_or) | (with_reducible apply e_not) | (with_reducible apply e_andV) | (with_reducible apply e_orV) | (with_reducible apply e_fif) | (with_reducible apply e_oN) | (with_reducible apply e_oS) | (with_reducible apply e_sl) | (with_reducible apply e_next) | (with_reducible apply e_seq) | (with_reducible apply e_ret) | (with_reducible apply e_sif) | (with_reducible apply e_set) | (with_reducible apply e_oaddI) | (with_reducible apply e_osub) | (with_reducible apply e_oneg) | (with_reducible apply e_oabs) | (with_reducible apply e_ointI) | (with_reducible apply e_ointB) | (with_reducible apply e_omin2) | (with_reducible apply e_omax2) | (with_reducible apply e_olenL) | (with_reducible apply e_olenT) | (with_reducible apply e_otupL) | (with_reducible apply e_otupT) | (with_reducible apply e_olstL) | (with_reducible apply e_olstT) | (with_reducible apply e_oslL) | (with_reducible apply e_oslT) | (with_reducible apply e_oixL) | (with_reducible apply e_oixT) | (with_reducible apply e_oaddL) | (with_reducible apply e_oaddT) | (with_reducible apply e_omulI) | (with_reducible apply e_omulT) | (with_reducible apply e_omulL) | (with_reducible apply e_odiv) | (with_reducible apply e_omod) | (with_reducible apply e_opow) | (with_reducible apply e_oeq) | (with_reducible apply e_one) | (with_reducible apply e_oinL) | (with_reducible apply e_oinT) | (with_reducible apply e_olt) | (with_reducible apply e_ogt) | (with_reducible apply e_ole) | (with_reducible apply e_oge) | ((with_reducible apply k_pa); (focus (rfl))) | ((with_reducible apply k_tru); (focus (rfl))) | (with_reducible apply k_lk4) | (with_reducible apply k_am3) | (with_reducible apply k_ow1) | ((with_reducible apply k_ow2); (focus (rfl))) | ((with_reducible apply k_li); (focus (first | (simp only [List.set_cons_zero, List.set_cons_succ, List.cons_append, List.nil_append, List.dropLast_cons_cons, List.dropLast_singleton]; rfl) | rfl))) | (with_reducible apply e_caL) | ((with_reducible apply e_stO); (focus (rfl)); (focus (rfl)); (focus (rfl))) | (with_reducible apply e_notV) | (with_reducible apply e_rg1) | (with_reducible apply e_rg2) | (with_reducible apply e_tupRg) | (with_reducible apply e_lstRg) | (with_reducible apply e_app) | (with_reducible apply e_drop) | (with_reducible apply e_stup) | (with_reducible apply e_setIx) | (with_reducible apply e_augIx) | (with_reducible apply e_aug) | (with_reducible apply e_par) | ((with_reducible apply e_parA); (focus (rfl)); (focus (rfl)); (focus (rfl)); (focus (rfl))) | (with_reducible apply e_for) | ((with_reducible apply e_gN); (focus (rfl)); (focus (rfl))) | (with_reducible apply e_gsN) | (with_reducible apply e_gsC) | ((with_reducible apply e_gT); (focus (rfl))) | (with_reducible apply e_sq) | (with_reducible apply e_rgI1) | (with_reducible apply e_rgI2) | (with_reducible apply e_yes) | (with_reducible apply e_lc) | (with_reducible apply e_any) | ((with_reducible apply e_ixe); (focus (rfl))) | ((with_reducible apply k_ixN); (focus (simp [ixN]; rfl))) | ((with_reducible apply k_ixb); (focus (rfl))) | ((with_reducible apply k_ia); (focus (rfl))) | (with_reducible apply e_gl) | (with_reducible apply e_slB) | (with_reducible apply e_pop) | (with_reducible apply e_popAt) | (with_reducible apply e_brk) | (with_reducible apply e_cnt) | (with_reducible apply e_retN) | (with_reducible apply e_en) | (with_reducible apply e_enK) | (with_reducible apply e_zp) | ((with_reducible apply e_len); (focus (rfl))) | (with_reducible apply e_iteT) | (with_reducible apply e_iteF) | ((with_reducible apply e_turn); (focus (simp only [wipeS, List.set_cons_zero, List.set_cons_succ]; rfl))) | ((with_reducible apply k_re); (focus (simp only [restS, List.set_cons_zero, List.set_cons_succ, List.getElem?_cons_zero, List.getElem?_cons_succ, Option.getD_some]; rfl))))
      refine s_law_has (by omega) (by omega) ?_
      repeat (first | (with_reducible apply e_fifC) | (with_reducible apply k_pk1) | (with_reducible apply k_lk1) | (with_reducible apply k_ps0) | (with_reducible apply k_ps1) | ((with_reducible apply e_var); (focus (rfl))) | (with_reducible apply e_c) | (with_reducible apply e_nil) | (with_reducible apply e_p) | (with_reducible apply e_l) | (with_reducible apply e_op) | (with_reducible apply k_pk3) | ((with_reducible apply k_ps2); (focus (rfl)); (focus (rfl))) | (with_reducible apply k_do0) | (with_reducible apply k_do1) | ((with_reducible apply e_varO); (focus (rfl)); (focus (rfl))) | (with_reducible apply k_pk2) | (with_reducible apply k_lk2) | ((with_reducible apply k_lk3); (focus (rfl))) | (with_reducible apply k_am0) | (with_reducible apply k_am1) | ((with_reducible apply k_am2); (focus (rfl)); (focus (rfl))) | (with_reducible apply k_ix0) | (with_reducible apply k_ix1) | (with_reducible apply k_ix2) | (with_reducible apply k_ix3) | ((with_reducible apply k_peS); (focus (simp only [slotsOf]; rfl))) | (with_reducible apply e_caT) | (with_reducible apply e_caN) | ((with_reducible apply e_putM); (focus (simp only [List.set_cons_zero, List.set_cons_succ]; rfl))) | ((with_reducible apply e_stK); (focus (rfl)); (focus (rfl))) | (with_reducible apply e_tup) | (with_reducible apply e_lst) | (with_reducible apply e_tb) | (with_reducible apply e_I) | (with_reducible apply e_call) | ((with_reducible apply e_callA); (focus (rfl)); (focus (rfl)); (focus (rfl))) | (with_reducible apply k_d) | (with_reducible apply k_do2) | (with_reducible apply k_sq1) | (with_reducible apply k_sq2) | (with_reducible apply k_lo1) | (with_reducible apply k_lo2) | (with_reducible apply k_rt1) | ((with_reducible apply k_rt2); (focus (rfl)); (focus (rfl)); (focus (simp only [List.set_cons_zero, List.set_cons_succ]; rfl))) | (with_reducible apply k_bo0) | ((with_reducible apply k_bo1); (focus (rfl)); (focus (rfl))) | ((with_reducible apply k_la); (focus (rfl))) | (with_reducible apply k_pe0) | (with_reducible apply k_pe1) | (with_reducible apply e_s) | (with_reducible apply e_tr) | (with_reducible apply e_and) | (with_reducible apply e_or) | (with_reducible apply e_not) | (with_reducible apply e_andV) | (with_reducible apply e_orV) | (with_reducible apply e_fif) | (with_reducible apply e_oN) | (with_reducible apply e_oS) | (with_reducible apply e_sl) | (with_reducible apply e_next) | (with_reducible apply e_seq) | (with_reducible apply e_ret) | (with_reducible apply e_sif) | (with_reducible apply e_set) | (with_reducible apply e_oaddI) | (with_reducible apply e_osub) | (with_reducible apply e_oneg) | (with_reducible apply e_oabs) | (with_reducible apply e_ointI) | (with_reducible apply e_ointB) | (with_reducible apply e_omin2) | (with_reducible apply e_omax2) | (with_reducible apply e_olenL) | (with_reducible apply e_olenT) | (with_reducible apply e_otupL) | (with_reducible apply e_otupT) | (with_reducible apply e_olstL) | (with_reducible apply e_olstT) | (with_reducible apply e_oslL) | (with_reducible apply e_oslT) | (with_reducible apply e_oixL) | (with_reducible apply e_oixT) | (with_reducible apply e_oaddL) | (with_reducible apply e_oaddT) | (with_reducible apply e_omulI) | (with_reducible apply e_omulT) | (with_reducible apply e_omulL) | (with_reducible apply e_odiv) | (with_reducible apply e_omod) | (with_reducible apply e_opow) | (with_reducible apply e_oeq) | (with_reducible apply e_one) | (with_reducible apply e_oinL) | (with_reducible apply e_oinT) | (with_reducible apply e_olt) | (with_reducible apply e_ogt) | (with_reducible apply e_ole) | (with_reducible apply e_oge) | ((with_reducible apply k_pa); (focus (rfl))) | ((with_reducible apply k_tru); (focus (rfl))) | (with_reducible apply k_lk4) | (with_reducible apply k_am3) | (with_reducible apply k_ow1) | ((with_reducible apply k_ow2); (focus (rfl))) | ((with_reducible apply k_li); (focus (first | (simp only [List.set_cons_zero, List.set_cons_succ, List.cons_append, List.nil_append, List.dropLast_cons_cons, List.dropLast_singleton]; rfl) | rfl))) | (with_reducible apply e_caL) | ((with_reducible apply e_stO); (focus (rfl)); (focus (rfl)); (focus (rfl))) | (with_reducible apply e_notV) | (with_reducible apply e_rg1) | (with_reducible apply e_rg2) | (with_reducible apply e_tupRg) | (with_reducible apply e_lstRg) | (with_reducible apply e_app) | (with_reducible apply e_drop) | (with_reducible apply e_stup) | (with_reducible apply e_setIx) | (with_reducible apply e_augIx) | (with_reducible apply e_aug) | (with_reducible apply e_par) | ((with_reducible apply e_parA); (focus (rfl)); (focus (rfl)); (focus (rfl)); (focus (rfl))) | (with_reducible apply e_for) | ((with_reducible apply e_gN); (focus (rfl)); (focus (rfl))) | (with_reducible apply e_gsN) | (with_reducible apply e_gsC) | ((with_reducible apply e_gT); (focus (rfl))) | (with_reducible apply e_sq) | (with_reducible apply e_rgI1) | (with_reducible apply e_rgI2) | (with_reducible apply e_yes) | (with_reducible apply e_lc) | (with_reducible apply e_any) | ((with_reducible apply e_ixe); (focus (rfl))) | ((with_reducible apply k_ixN); (focus (simp [ixN]; rfl))) | ((with_reducible apply k_ixb); (focus (rfl))) | ((with_reducible apply k_ia); (focus (rfl))) | (with_reducible apply e_gl) | (with_reducible apply e_slB) | (with_reducible apply e_pop) | (with_reducible apply e_popAt) | (with_reducible apply e_brk) | (with_reducible apply e_cnt) | (with_reducible apply e_retN) | (with_reducible apply e_en) | (with_reducible apply e_enK) | (with_reducible apply e_zp) | ((with_reducible apply e_len); (focus (rfl))) | (with_reducible apply e_iteT) | (with_reducible apply e_iteF) | ((with_reducible apply e_turn); (focus (simp only [wipeS, List.set_cons_zero, List.set_cons_succ]; rfl))) | ((with_reducible apply k_re); (focus (simp only [restS, List.set_cons_zero, List.set_cons_succ, List.getElem?_cons_zero, List.getElem?_cons_succ, Option.getD_some]; rfl))))
      refine s_law_is_each ?_
      repeat (first | (with_reducible apply e_fifC) | (with_reducible apply k_pk1) | (with_reducible apply k_lk1) | (with_reducible apply k_ps0) | (with_reducible apply k_ps1) | ((with_reducible apply e_var); (focus (rfl))) | (with_reducible apply e_c) | (with_reducible apply e_nil) | (with_reducible apply e_p) | (with_reducible apply e_l) | (with_reducible apply e_op) | (with_reducible apply k_pk3) | ((with_reducible apply k_ps2); (focus (rfl)); (focus (rfl))) | (with_reducible apply k_do0) | (with_reducible apply k_do1) | ((with_reducible apply e_varO); (focus (rfl)); (focus (rfl))) | (with_reducible apply k_pk2) | (with_reducible apply k_lk2) | ((with_reducible apply k_lk3); (focus (rfl))) | (with_reducible apply k_am0) | (with_reducible apply k_am1) | ((with_reducible apply k_am2); (focus (rfl)); (focus (rfl))) | (with_reducible apply k_ix0) | (with_reducible apply k_ix1) | (with_reducible apply k_ix2) | (with_reducible apply k_ix3) | ((with_reducible apply k_peS); (focus (simp only [slotsOf]; rfl))) | (with_reducible apply e_caT) | (with_reducible apply e_caN) | ((with_reducible apply e_putM); (focus (simp only [List.set_cons_zero, List.set_cons_succ]; rfl))) | ((with_reducible apply e_stK); (focus (rfl)); (focus (rfl))) | (with_reducible apply e_tup) | (with_reducible apply e_lst) | (with_reducible apply e_tb) | (with_reducible apply e_I) | (with_reducible apply e_call) | ((with_reducible apply e_callA); (focus (rfl)); (focus (rfl)); (focus (rfl))) | (with_reducible apply k_d) | (with_reducible apply k_do2) | (with_reducible apply k_sq1) | (with_reducible apply k_sq2) | (with_reducible apply k_lo1) | (with_reducible apply k_lo2) | (with_reducible apply k_rt1) | ((with_reducible apply k_rt2); (focus (rfl)); (focus (rfl)); (focus (simp only [List.set_cons_zero, List.set_cons_succ]; rfl))) | (with_reducible apply k_bo0) | ((with_reducible apply k_bo1); (focus (rfl)); (focus (rfl))) | ((with_reducible apply k_la); (focus (rfl))) | (with_reducible apply k_pe0) | (with_reducible apply k_pe1) | (with_reducible apply e_s) | (with_reducible apply e_tr) | (with_reducible apply e_and) | (with_reducible apply e_or) | (with_reducible apply e_not) | (with_reducible apply e_andV) | (with_reducible apply e_orV) | (with_reducible apply e_fif) | (with_reducible apply e_oN) | (with_reducible apply e_oS) | (with_reducible apply e_sl) | (with_reducible apply e_next) | (with_reducible apply e_seq) | (with_reducible apply e_ret) | (with_reducible apply e_sif) | (with_reducible apply e_set) | (with_reducible apply e_oaddI) | (with_reducible apply e_osub) | (with_reducible apply e_oneg) | (with_reducible apply e_oabs) | (with_reducible apply e_ointI) | (with_reducible apply e_ointB) | (with_reducible apply e_omin2) | (with_reducible apply e_omax2) | (with_reducible apply e_olenL) | (with_reducible apply e_olenT) | (with_reducible apply e_otupL) | (with_reducible apply e_otupT) | (with_reducible apply e_olstL) | (with_reducible apply e_olstT) | (with_reducible apply e_oslL) | (with_reducible apply e_oslT) | (with_reducible apply e_oixL) | (with_reducible apply e_oixT) | (with_reducible apply e_oaddL) | (with_reducible apply e_oaddT) | (with_reducible apply e_omulI) | (with_reducible apply e_omulT) | (with_reducible apply e_omulL) | (with_reducible apply e_odiv) | (with_reducible apply e_omod) | (with_reducible apply e_opow) | (with_reducible apply e_oeq) | (with_reducible apply e_one) | (with_reducible apply e_oinL) | (with_reducible apply e_oinT) | (with_reducible apply e_olt) | (with_reducible apply e_ogt) | (with_reducible apply e_ole) | (with_reducible apply e_oge) | ((with_reducible apply k_pa); (focus (rfl))) | ((with_reducible apply k_tru); (focus (rfl))) | (with_reducible apply k_lk4) | (with_reducible apply k_am3) | (with_reducible apply k_ow1) | ((with_reducible apply k_ow2); (focus (rfl))) | ((with_reducible apply k_li); (focus (first | (simp only [List.set_cons_zero, List.set_cons_succ, List.cons_append, List.nil_append, List.dropLast_cons_cons, List.dropLast_singleton]; rfl) | rfl))) | (with_reducible apply e_caL) | ((with_reducible apply e_stO); (focus (rfl)); (focus (rfl)); (focus (rfl))) | (with_reducible apply e_notV) | (with_reducible apply e_rg1) | (with_reducible apply e_rg2) | (with_reducible apply e_tupRg) | (with_reducible apply e_lstRg) | (with_reducible apply e_app) | (with_reducible apply e_drop) | (with_reducible apply e_stup) | (with_reducible apply e_setIx) | (with_reducible apply e_augIx) | (with_reducible apply e_aug) | (with_reducible apply e_par) | ((with_reducible apply e_parA); (focus (rfl)); (focus (rfl)); (focus (rfl)); (focus (rfl))) | (with_reducible apply e_for) | ((with_reducible apply e_gN); (focus (rfl)); (focus (rfl))) | (with_reducible apply e_gsN) | (with_reducible apply e_gsC) | ((with_reducible apply e_gT); (focus (rfl))) | (with_reducible apply e_sq) | (with_reducible apply e_rgI1) | (with_reducible apply e_rgI2) | (with_reducible apply e_yes) | (with_reducible apply e_lc) | (with_reducible apply e_any) | ((with_reducible apply e_ixe); (focus (rfl))) | ((with_reducible apply k_ixN); (focus (simp [ixN]; rfl))) | ((with_reducible apply k_ixb); (focus (rfl))) | ((with_reducible apply k_ia); (focus (rfl))) | (with_reducible apply e_gl) | (with_reducible apply e_slB) | (with_reducible apply e_pop) | (with_reducible apply e_popAt) | (with_reducible apply e_brk) | (with_reducible apply e_cnt) | (with_reducible apply e_retN) | (with_reducible apply e_en) | (with_reducible apply e_enK) | (with_reducible apply e_zp) | ((with_reducible apply e_len); (focus (rfl))) | (with_reducible apply e_iteT) | (with_reducible apply e_iteF) | ((with_reducible apply e_turn); (focus (simp only [wipeS, List.set_cons_zero, List.set_cons_succ]; rfl))) | ((with_reducible apply k_re); (focus (simp only [restS, List.set_cons_zero, List.set_cons_succ, List.getElem?_cons_zero, List.getElem?_cons_succ, Option.getD_some]; rfl))))
      refine e_2 ?_ (by simp)
      walk_at "vl"
      refine e_3 ?_ rfl (by simp)
      refine lcL_cons ?_
      walk_at "vl"
      refine s_out_at (by omega) hWm ?_
      walk_at "vl"
      refine lcL_cons ?_
      walk_at "vl"
      refine s_out_gr (by omega) nd hWm og ?_
      walk_at "vl"
      refine lcL_cons ?_
      walk_at "vl"
      refine s_out_row (by omega) (by omega) hWm ?_
      walk_at "vl"
      refine lcL_cons ?_
      walk_at "vl"
      refine s_out_each (by omega) hWm o4 ?_
      walk_at "vl"
      refine lcL_nil ?_
      have e1 : (if decide ((m : Int) ≤ ((List.map (fun x => PyData.int 1) (List.map PyData.str (List.filter (fun w => mem (List.map PyData.str ss) (PyData.str w)) (bare Wd)))).length : Int)) = true then PyData.str (Str.ofString "yes") else PyData.str (Str.ofString "no")) = PyData.str (if m ≤ (List.filter (fun w => mem (List.map PyData.str ss) (PyData.str w)) (bare Wd)).length then "yes" else "no") := by
        rw [List.length_map, List.length_map]
        by_cases c : m ≤ (List.filter (fun w => mem (List.map PyData.str ss) (PyData.str w)) (bare Wd)).length
        · rw [if_pos c, if_pos (decide_eq_true (by omega))]
        · rw [if_neg c, if_neg (by simpa using c)]
      have e2 : ∀ c : Bool, (if c = true then PyData.str (Str.ofString "yes") else PyData.str (Str.ofString "no")) = PyData.str (if c = true then "yes" else "no") := fun c => by cases c <;> rfl
      rw [e1, e2, e2]
      generalize (if m ≤ (List.filter (fun w => mem (List.map PyData.str ss) (PyData.str w)) (bare Wd)).length then Str.ofString "yes" else Str.ofString "no") = q1
      generalize (if hasB (bare Wd) Rs = true then Str.ofString "yes" else Str.ofString "no") = q2
      generalize (if (eRun ss Wd).2 = true then Str.ofString "yes" else Str.ofString "no") = q3
      have pl4 : Pl 60 (.list [.str q1, .str y, .str q2, .str q3]) := by
        rw [Pl_list]
        exact ⟨by omega, fun z hz => strs_all (L := [q1, y, q2, q3]) z hz⟩
      walk_at "vl"
      · rw [show PyData.eqv (.list [.str q1, .str y, .str q2, .str q3]) (.list [.str q1, .str y, .str q2, .str q3]) = true from same _ pl4]
        walk_at "vl"
        exact hn _ ⟨b, _, _, _, _, hb, rfl⟩
      · exact ⟨pl4, pl4⟩
      · simp
    · have := cutD_len [PyData.str (Str.ofString "nothing")] (some ((decide (0 < ((List.map PyData.str (bare Wd)).length : Int))).toNat : Int)) none
      simp only [List.length_singleton, List.length_map] at this ⊢
      omega
  · simp
    omega
end K18

namespace K18
open PySem PySem.Spec PyProof.Rows L2 VL
variable {b : List D} {Q : M → List M → Prop} {E : Ex → List M → Prop}
/-- how the slots stand at the head of each turn -/
def St0 (ns : List Int) (e : VL.Env) : Prop := ∃ b x2 x3 x4 x5 x6 x7 x8 x9 x10 x11, BagOk b ∧ e = ⟨[some (.fz (.list (ns.map .int))), some (.lst b), x2, x3, x4, x5, x6, x7, x8, x9, x10, x11, none, none], []⟩
theorem law_turn {ns : List Int} {b : List D} {x3 x4 x5 x6 x7 x8 x9 x10 x11 : Option M} {d : D} (hb : BagOk b) {nx : VL.Env → Prop} (hn : ∀ e, St0 ns e → nx e) {rt : M → VL.Env → Prop} {bk ct : VL.Env → Prop} {W : KX} :
    g_law_2 ⟨[some (.fz (.list (ns.map .int))), some (.lst b), some (.fz d), x3, x4, x5, x6, x7, x8, x9, x10, x11, none, none], []⟩ ⟨nx, rt, bk, ct⟩ W := by
  unfold g_law_2
  walk_at "vl"
  refine s_take hb (by omega) (by omega) fun v0 b hv0 hw0 hb => ?_
  walk_at "vl"
  refine s_some_names (ns := ["x", "y", "up", "down", "q", "abcdefgh"]) hb (by decide) (by decide) (by omega) fun L b pw hmem hlen hb => ?_
  have hL : ∀ l ∈ L, Lt l := fun l hl => by
    have := hmem l hl
    simp only [List.mem_cons, List.not_mem_nil, or_false] at this
    rcases this with rfl | rfl | rfl | rfl | rfl | rfl
    all_goals exact ⟨by unfold StrOk; decide, by decide⟩
  have nd : L.Nodup := List.Pairwise.imp (S := fun a b => a ≠ b) (fun {a b} h e => by subst e; exact ltS_irr h h) pw
  have hl0 : 0 < L.length ∧ L.length ≤ 6 := by
    rw [hlen]
    show 0 < min (1 + v0).toNat 6 ∧ min (1 + v0).toNat 6 ≤ 6
    omega
  clear hmem hlen
  walk_at "vl"
  · have lenz : (List.map PyData.str L ++ [PyData.str (Str.ofString "zz")]).length = L.length + 1 := by simp
    refine s_mixed hb (fun x hx => ?_) (by rw [lenz]; omega) (fun found b hf hb => ?_) (.inr rfl)
    · have hx : x ∈ (L ++ [Str.ofString "zz"]).map PyData.str := by rw [List.map_append]; exact hx
      exact strs_all x hx
    walk_at "vl"
    refine s_take hb (by omega) (by omega) fun v1 b hv1 hw1 hb => ?_
    walk_at "vl"
    have hS : ∃ ss : List Str, VL.cutD found none (some v1) = ss.map .str := by
      refine ⟨_, strs_of fun x hx => ?_⟩
      have hx : x ∈ (L ++ [Str.ofString "zz"]).map PyData.str := by
        rw [List.map_append]
        refine hf.mem_iff.mp ?_
        unfold VL.cutD at hx
        exact List.mem_of_mem_drop (List.mem_of_mem_take hx)
      obtain ⟨s, _, rfl⟩ := List.mem_map.mp hx
      exact ⟨s, rfl⟩
    obtain ⟨ss, hS⟩ := hS
    rw [hS]
    clear hS hf
    walk_at "vl"
    refine s_some hb (things := [.int 1, .int 2, .int 3, .int 4, .int 6, .int 39]) (by decide) (by decide) (fun x b hx hb => ?_) (.inr rfl)
    obtain ⟨r, rfl, r0, r1⟩ : ∃ r : Int, x = .int r ∧ 1 ≤ r ∧ r ≤ 39 := by
      simp only [List.mem_cons, List.not_mem_nil, or_false] at hx
      rcases hx with rfl | rfl | rfl | rfl | rfl | rfl
      all_goals exact ⟨_, rfl, by omega, by omega⟩
    walk_at "vl"
    refine e_2 ?_ (by omega)
    refine e_3 ?_ rfl (by rw [rgD_length]; omega)
    refine lc_inv (fun e => ∃ b, BagOk b ∧ e = ⟨[some (.fz (.list (ns.map .int))), some (.lst b), some (.fz d), some (.fz (.tuple (L.map .str))), some (.fz (.tuple (ss.map .str))), x5, x6, x7, x8, x9, x10, x11, none, none], []⟩) (fun _ y => ∃ s, s ∈ L ∧ y = .str s) ⟨_, hb, rfl⟩ ?_ ?_
    · rintro dd hd e ⟨b, hb, rfl⟩ Qy Qn hq
      obtain ⟨rr, rfl, _, _⟩ := rg_mem hd
      walk_at "vl"
      have hc2 : VL.cutD (L.map PyData.str) none (some 2) = (L.take 2).map .str := by rw [cut_take _ _ (by decide), List.map_take]; rfl
      rw [hc2]
      refine s_some hb (by rw [List.length_map, List.length_take]; omega) (by rw [List.length_map, List.length_take]; omega) (fun x b hx hb => ?_) (.inl rfl)
      obtain ⟨s, hs, rfl⟩ := List.mem_map.mp hx
      walk_at "vl"
      exact hq _ _ ⟨s, List.mem_of_mem_take hs, rfl⟩ ⟨b, hb, rfl⟩
    rintro ys e hys ⟨b, hb, rfl⟩
    obtain ⟨Rs, rfl, hRs, hRl⟩ := all2_str hys
    rw [rgD_length] at hRl
    clear hys
    walk_at "vl"
    refine s_some hb (things := [.int 4, .int 39]) (by decide) (by decide) (fun x b hx hb => ?_) (.inr rfl)
    obtain ⟨m4, rfl, m0, m1⟩ : ∃ r : Int, x = .int r ∧ 4 ≤ r ∧ r ≤ 39 := by
      simp only [List.mem_cons, List.not_mem_nil, or_false] at hx
      rcases hx with rfl | rfl
      all_goals exact ⟨_, rfl, by omega, by omega⟩
    walk_at "vl"
    refine s_take hb (by omega) (by omega) fun v2 b hv2 hw2 hb => ?_
    walk_at "vl"
    obtain ⟨m, hm⟩ : ∃ m : Nat, 1 + v2 = (m : Int) := ⟨(1 + v2).toNat, by omega⟩
    rw [hm]
    refine s_at_least (by omega) (by omega) (by omega) ?_
    walk_at "vl"
    refine s_greatest (by omega) ?_
    walk_at "vl"
    refine s_has_row (by omega) (by omega) (by omega) ?_
    walk_at "vl"
    refine s_each_time (by omega) ?_
    walk_at "vl"
    refine s_law_at_least (by omega) (by omega) (by omega) ?_
    walk_at "vl"
    refine s_law_greatest (by omega) ?_
    walk_at "vl"
    refine s_law_row_machine (by omega) (by omega) (by omega) ?_
    walk_at "vl"
    refine s_law_each_time (by omega) ?_
    walk_at "vl"
    have sm := told_sm (ss := ss) (Rs := Rs) (m := m) hL nd (by omega) (by omega) (by omega)
    refine s_alike (sm.pl.mono _ (by decide)) sm.sh (sm.len (by decide)) ?_
    walk_at "vl"
    · refine e_2 ?_ (by omega)
      refine for_inv (fun dn ds e => St1 ns d L ss Rs m e) (dn := []) ⟨b, _, _, _, _, hb, rfl⟩ ?_ ?_ mono_gN
      · rintro dn dd ds e ⟨b, x8, x9, x10, x11, hb, rfl⟩
        walk_at "vl"
        intro nx' hn'
        exact law_word hb pw nd (by omega) (by omega) (by omega) (by omega) (by omega) (by omega) hn'
      · rintro dn e ⟨b, x8, x9, x10, x11, hb, rfl⟩
        exact hn _ ⟨b, _, _, _, _, _, _, _, _, _, _, hb, rfl⟩
    · simp
  · simp
    omega
theorem law_true (ns : List Int) (hl : ns.length ≤ 63) : LawV sp_law ns := by
  unfold LawV
  refine e_body rfl (by simp only [List.map_cons, List.map_nil, List.length_cons, List.length_nil, Nat.reduceAdd, Nat.reduceSub, List.replicate, List.replicate_zero, List.cons_append, List.nil_append]; rfl) ?_
  unfold g_law
  walk_at "vl"
  refine s_bag hl fun b hb => ?_
  walk_at "vl"
  refine e_2 ?_ (by omega)
  refine for_inv (fun dn ds e => St0 ns e) (dn := []) ⟨b, _, _, _, _, _, _, _, _, _, _, hb, rfl⟩ ?_ ?_ mono_gN
  · rintro dn d ds e ⟨b, x2, x3, x4, x5, x6, x7, x8, x9, x10, x11, hb, rfl⟩
    walk_at "vl"
    intro nx' hn
    exact law_turn hb hn
  · rintro dn e ⟨b, x2, x3, x4, x5, x6, x7, x8, x9, x10, x11, hb, rfl⟩
    walk_at "vl"
    rfl
end K18
end


/-! printed by gen.py: the head of k18_machines_to_begin_with -/
namespace K18
open PySem PySem.Spec PyProof.Rows L2 VL
theorem mk_all {l : PySem.W.OpenLaw} {w : World} {K : PySem.W.Frag} {h : Heap} {mg : Str → Option Value} {fa : Addr} (X : K.In h) (G : h.Ns mainGlobals mg) (hfa : mg "law" = some (.ref fa))
    {f0 : Addr} {od0 an0 : Option Addr} {sl0 : Array (Option Value)} {oc0 kV0 dc0 pm0 cd0 ct0 : Value}
    (a0 : PySem.W.nsIn K mainGlobals "_law_alike" = some (some (.ref f0))) (l0 : K.lookup f0 = some ⟨oc0, od0, .func (PySem.W.fnOf "_law_alike" "_law_alike" (defArgs (topS 16)) (defBody (topS 16)) (defScope (topS 16)) .none kV0 dc0 pm0 an0 cd0 ct0), sl0⟩) (c0 : PySem.W.codeIn K cd0 "_law_alike" = true) (k0 : PySem.W.keepIn K (.ref f0) = true)
    {f1 : Addr} {od1 an1 : Option Addr} {sl1 : Array (Option Value)} {oc1 kV1 dc1 pm1 cd1 ct1 : Value}
    (a1 : PySem.W.nsIn K mainGlobals "_law_at_least" = some (some (.ref f1))) (l1 : K.lookup f1 = some ⟨oc1, od1, .func (PySem.W.fnOf "_law_at_least" "_law_at_least" (defArgs (topS 19)) (defBody (topS 19)) (defScope (topS 19)) .none kV1 dc1 pm1 an1 cd1 ct1), sl1⟩) (c1 : PySem.W.codeIn K cd1 "_law_at_least" = true) (k1 : PySem.W.keepIn K (.ref f1) = true)
    {f2 : Addr} {od2 an2 : Option Addr} {sl2 : Array (Option Value)} {oc2 kV2 dc2 pm2 cd2 ct2 : Value}
    (a2 : PySem.W.nsIn K mainGlobals "_law_bag" = some (some (.ref f2))) (l2 : K.lookup f2 = some ⟨oc2, od2, .func (PySem.W.fnOf "_law_bag" "_law_bag" (defArgs (topS 11)) (defBody (topS 11)) (defScope (topS 11)) .none kV2 dc2 pm2 an2 cd2 ct2), sl2⟩) (c2 : PySem.W.codeIn K cd2 "_law_bag" = true) (k2 : PySem.W.keepIn K (.ref f2) = true)
    {f3 : Addr} {od3 an3 : Option Addr} {sl3 : Array (Option Value)} {oc3 kV3 dc3 pm3 cd3 ct3 : Value}
    (a3 : PySem.W.nsIn K mainGlobals "_law_each_time" = some (some (.ref f3))) (l3 : K.lookup f3 = some ⟨oc3, od3, .func (PySem.W.fnOf "_law_each_time" "_law_each_time" (defArgs (topS 21)) (defBody (topS 21)) (defScope (topS 21)) .none kV3 dc3 pm3 an3 cd3 ct3), sl3⟩) (c3 : PySem.W.codeIn K cd3 "_law_each_time" = true) (k3 : PySem.W.keepIn K (.ref f3) = true)
    {f4 : Addr} {od4 an4 : Option Addr} {sl4 : Array (Option Value)} {oc4 kV4 dc4 pm4 cd4 ct4 : Value}
    (a4 : PySem.W.nsIn K mainGlobals "_law_greatest" = some (some (.ref f4))) (l4 : K.lookup f4 = some ⟨oc4, od4, .func (PySem.W.fnOf "_law_greatest" "_law_greatest" (defArgs (topS 20)) (defBody (topS 20)) (defScope (topS 20)) .none kV4 dc4 pm4 an4 cd4 ct4), sl4⟩) (c4 : PySem.W.codeIn K cd4 "_law_greatest" = true) (k4 : PySem.W.keepIn K (.ref f4) = true)
    {f5 : Addr} {od5 an5 : Option Addr} {sl5 : Array (Option Value)} {oc5 kV5 dc5 pm5 cd5 ct5 : Value}
    (a5 : PySem.W.nsIn K mainGlobals "_law_has" = some (some (.ref f5))) (l5 : K.lookup f5 = some ⟨oc5, od5, .func (PySem.W.fnOf "_law_has" "_law_has" (defArgs (topS 24)) (defBody (topS 24)) (defScope (topS 24)) .none kV5 dc5 pm5 an5 cd5 ct5), sl5⟩) (c5 : PySem.W.codeIn K cd5 "_law_has" = true) (k5 : PySem.W.keepIn K (.ref f5) = true)
    {f6 : Addr} {od6 an6 : Option Addr} {sl6 : Array (Option Value)} {oc6 kV6 dc6 pm6 cd6 ct6 : Value}
    (a6 : PySem.W.nsIn K mainGlobals "_law_is_each" = some (some (.ref f6))) (l6 : K.lookup f6 = some ⟨oc6, od6, .func (PySem.W.fnOf "_law_is_each" "_law_is_each" (defArgs (topS 23)) (defBody (topS 23)) (defScope (topS 23)) .none kV6 dc6 pm6 an6 cd6 ct6), sl6⟩) (c6 : PySem.W.codeIn K cd6 "_law_is_each" = true) (k6 : PySem.W.keepIn K (.ref f6) = true)
    {f7 : Addr} {od7 an7 : Option Addr} {sl7 : Array (Option Value)} {oc7 kV7 dc7 pm7 cd7 ct7 : Value}
    (a7 : PySem.W.nsIn K mainGlobals "_law_take" = some (some (.ref f7))) (l7 : K.lookup f7 = some ⟨oc7, od7, .func (PySem.W.fnOf "_law_take" "_law_take" (defArgs (topS 12)) (defBody (topS 12)) (defScope (topS 12)) .none kV7 dc7 pm7 an7 cd7 ct7), sl7⟩) (c7 : PySem.W.codeIn K cd7 "_law_take" = true) (k7 : PySem.W.keepIn K (.ref f7) = true)
    {f8 : Addr} {od8 an8 : Option Addr} {sl8 : Array (Option Value)} {oc8 kV8 dc8 pm8 cd8 ct8 : Value}
    (a8 : PySem.W.nsIn K mainGlobals "_law_mixed" = some (some (.ref f8))) (l8 : K.lookup f8 = some ⟨oc8, od8, .func (PySem.W.fnOf "_law_mixed" "_law_mixed" (defArgs (topS 13)) (defBody (topS 13)) (defScope (topS 13)) .none kV8 dc8 pm8 an8 cd8 ct8), sl8⟩) (c8 : PySem.W.codeIn K cd8 "_law_mixed" = true) (k8 : PySem.W.keepIn K (.ref f8) = true)
    {f9 : Addr} {od9 an9 : Option Addr} {sl9 : Array (Option Value)} {oc9 kV9 dc9 pm9 cd9 ct9 : Value}
    (a9 : PySem.W.nsIn K mainGlobals "_law_step" = some (some (.ref f9))) (l9 : K.lookup f9 = some ⟨oc9, od9, .func (PySem.W.fnOf "_law_step" "_law_step" (defArgs (topS 10)) (defBody (topS 10)) (defScope (topS 10)) .none kV9 dc9 pm9 an9 cd9 ct9), sl9⟩) (c9 : PySem.W.codeIn K cd9 "_law_step" = true) (k9 : PySem.W.keepIn K (.ref f9) = true)
    {f10 : Addr} {od10 an10 : Option Addr} {sl10 : Array (Option Value)} {oc10 kV10 dc10 pm10 cd10 ct10 : Value}
    (a10 : PySem.W.nsIn K mainGlobals "_law_out" = some (some (.ref f10))) (l10 : K.lookup f10 = some ⟨oc10, od10, .func (PySem.W.fnOf "_law_out" "_law_out" (defArgs (topS 22)) (defBody (topS 22)) (defScope (topS 22)) .none kV10 dc10 pm10 an10 cd10 ct10), sl10⟩) (c10 : PySem.W.codeIn K cd10 "_law_out" = true) (k10 : PySem.W.keepIn K (.ref f10) = true)
    {f11 : Addr} {od11 an11 : Option Addr} {sl11 : Array (Option Value)} {oc11 kV11 dc11 pm11 cd11 ct11 : Value}
    (a11 : PySem.W.nsIn K mainGlobals "_law_last" = some (some (.ref f11))) (l11 : K.lookup f11 = some ⟨oc11, od11, .func (PySem.W.fnOf "_law_last" "_law_last" (defArgs (topS 17)) (defBody (topS 17)) (defScope (topS 17)) .none kV11 dc11 pm11 an11 cd11 ct11), sl11⟩) (c11 : PySem.W.codeIn K cd11 "_law_last" = true) (k11 : PySem.W.keepIn K (.ref f11) = true)
    {f12 : Addr} {od12 an12 : Option Addr} {sl12 : Array (Option Value)} {oc12 kV12 dc12 pm12 cd12 ct12 : Value}
    (a12 : PySem.W.nsIn K mainGlobals "_law_row_machine" = some (some (.ref f12))) (l12 : K.lookup f12 = some ⟨oc12, od12, .func (PySem.W.fnOf "_law_row_machine" "_law_row_machine" (defArgs (topS 18)) (defBody (topS 18)) (defScope (topS 18)) .none kV12 dc12 pm12 an12 cd12 ct12), sl12⟩) (c12 : PySem.W.codeIn K cd12 "_law_row_machine" = true) (k12 : PySem.W.keepIn K (.ref f12) = true)
    {f13 : Addr} {od13 an13 : Option Addr} {sl13 : Array (Option Value)} {oc13 kV13 dc13 pm13 cd13 ct13 : Value}
    (a13 : PySem.W.nsIn K mainGlobals "_law_some" = some (some (.ref f13))) (l13 : K.lookup f13 = some ⟨oc13, od13, .func (PySem.W.fnOf "_law_some" "_law_some" (defArgs (topS 15)) (defBody (topS 15)) (defScope (topS 15)) .none kV13 dc13 pm13 an13 cd13 ct13), sl13⟩) (c13 : PySem.W.codeIn K cd13 "_law_some" = true) (k13 : PySem.W.keepIn K (.ref f13) = true)
    {f14 : Addr} {od14 an14 : Option Addr} {sl14 : Array (Option Value)} {oc14 kV14 dc14 pm14 cd14 ct14 : Value}
    (a14 : PySem.W.nsIn K mainGlobals "_law_some_names" = some (some (.ref f14))) (l14 : K.lookup f14 = some ⟨oc14, od14, .func (PySem.W.fnOf "_law_some_names" "_law_some_names" (defArgs (topS 14)) (defBody (topS 14)) (defScope (topS 14)) .none kV14 dc14 pm14 an14 cd14 ct14), sl14⟩) (c14 : PySem.W.codeIn K cd14 "_law_some_names" = true) (k14 : PySem.W.keepIn K (.ref f14) = true)
    {f15 : Addr} {od15 an15 : Option Addr} {sl15 : Array (Option Value)} {oc15 kV15 dc15 pm15 cd15 ct15 : Value}
    (a15 : PySem.W.nsIn K mainGlobals "staying" = some (some (.ref f15))) (l15 : K.lookup f15 = some ⟨oc15, od15, .func (PySem.W.fnOf "staying" "staying" (defArgs (topS 3)) (defBody (topS 3)) (defScope (topS 3)) .none kV15 dc15 pm15 an15 cd15 ct15), sl15⟩) (c15 : PySem.W.codeIn K cd15 "staying" = true) (k15 : PySem.W.keepIn K (.ref f15) = true)
    {f16 : Addr} {od16 an16 : Option Addr} {sl16 : Array (Option Value)} {oc16 kV16 dc16 pm16 cd16 ct16 : Value}
    (a16 : PySem.W.nsIn K mainGlobals "at_least" = some (some (.ref f16))) (l16 : K.lookup f16 = some ⟨oc16, od16, .func (PySem.W.fnOf "at_least" "at_least" (defArgs (topS 4)) (defBody (topS 4)) (defScope (topS 4)) .none kV16 dc16 pm16 an16 cd16 ct16), sl16⟩) (c16 : PySem.W.codeIn K cd16 "at_least" = true) (k16 : PySem.W.keepIn K (.ref f16) = true)
    {f17 : Addr} {od17 an17 : Option Addr} {sl17 : Array (Option Value)} {oc17 kV17 dc17 pm17 cd17 ct17 : Value}
    (a17 : PySem.W.nsIn K mainGlobals "each_time" = some (some (.ref f17))) (l17 : K.lookup f17 = some ⟨oc17, od17, .func (PySem.W.fnOf "each_time" "each_time" (defArgs (topS 8)) (defBody (topS 8)) (defScope (topS 8)) .none kV17 dc17 pm17 an17 cd17 ct17), sl17⟩) (c17 : PySem.W.codeIn K cd17 "each_time" = true) (k17 : PySem.W.keepIn K (.ref f17) = true)
    {f18 : Addr} {od18 an18 : Option Addr} {sl18 : Array (Option Value)} {oc18 kV18 dc18 pm18 cd18 ct18 : Value}
    (a18 : PySem.W.nsIn K mainGlobals "greatest" = some (some (.ref f18))) (l18 : K.lookup f18 = some ⟨oc18, od18, .func (PySem.W.fnOf "greatest" "greatest" (defArgs (topS 5)) (defBody (topS 5)) (defScope (topS 5)) .none kV18 dc18 pm18 an18 cd18 ct18), sl18⟩) (c18 : PySem.W.codeIn K cd18 "greatest" = true) (k18 : PySem.W.keepIn K (.ref f18) = true)
    {f19 : Addr} {od19 an19 : Option Addr} {sl19 : Array (Option Value)} {oc19 kV19 dc19 pm19 cd19 ct19 : Value}
    (a19 : PySem.W.nsIn K mainGlobals "row_behind" = some (some (.ref f19))) (l19 : K.lookup f19 = some ⟨oc19, od19, .func (PySem.W.fnOf "row_behind" "row_behind" (defArgs (topS 6)) (defBody (topS 6)) (defScope (topS 6)) .none kV19 dc19 pm19 an19 cd19 ct19), sl19⟩) (c19 : PySem.W.codeIn K cd19 "row_behind" = true) (k19 : PySem.W.keepIn K (.ref f19) = true)
    {f20 : Addr} {od20 an20 : Option Addr} {sl20 : Array (Option Value)} {oc20 kV20 dc20 pm20 cd20 ct20 : Value}
    (a20 : PySem.W.nsIn K mainGlobals "has_row" = some (some (.ref f20))) (l20 : K.lookup f20 = some ⟨oc20, od20, .func (PySem.W.fnOf "has_row" "has_row" (defArgs (topS 7)) (defBody (topS 7)) (defScope (topS 7)) .none kV20 dc20 pm20 an20 cd20 ct20), sl20⟩) (c20 : PySem.W.codeIn K cd20 "has_row" = true) (k20 : PySem.W.keepIn K (.ref f20) = true)
    {f21 : Addr} {od21 an21 : Option Addr} {sl21 : Array (Option Value)} {oc21 kV21 dc21 pm21 cd21 ct21 : Value}
    (a21 : PySem.W.nsIn K mainGlobals "law" = some (some (.ref f21))) (l21 : K.lookup f21 = some ⟨oc21, od21, .func (PySem.W.fnOf "law" "law" (defArgs (topS 25)) (defBody (topS 25)) (defScope (topS 25)) .none kV21 dc21 pm21 an21 cd21 ct21), sl21⟩) (c21 : PySem.W.codeIn K cd21 "law" = true) (k21 : PySem.W.keepIn K (.ref f21) = true)
    (z0 : PySem.W.nsIn K mainGlobals "abs" = some none)
    (z1 : PySem.W.nsIn K mainGlobals "enumerate" = some none)
    (z2 : PySem.W.nsIn K mainGlobals "int" = some none)
    (z3 : PySem.W.nsIn K mainGlobals "len" = some none)
    (z4 : PySem.W.nsIn K mainGlobals "list" = some none)
    (z5 : PySem.W.nsIn K mainGlobals "max" = some none)
    (z6 : PySem.W.nsIn K mainGlobals "min" = some none)
    (z7 : PySem.W.nsIn K mainGlobals "range" = some none)
    (z8 : PySem.W.nsIn K mainGlobals "repr" = some none)
    (z9 : PySem.W.nsIn K mainGlobals "sorted" = some none)
    (z10 : PySem.W.nsIn K mainGlobals "tuple" = some none)
    {t0 : Tok} (y0 : PySem.W.nsIn K mainGlobals "NO" = some (some (.str "no" t0)))
    {t1 : Tok} (y1 : PySem.W.nsIn K mainGlobals "YES" = some (some (.str "yes" t1)))
    : ∃ fd : FuncData, (∀ (s : Shared) (v : Value), BindsTo s fd ⟨[v], []⟩ [("script", v)]) ∧ ∀ base : Heap, K.In base → base.Ns mainGlobals mg → FnV l.prog w K mg base 4 fa fd ["script"] [] sp_law := by
  have e := hfa.symm.trans (PySem.W.mg_of X G a21)
  cases e
  refine ⟨_, fun s v => .of_eq rfl, fun base _ _ => ok_law (M := { f__law_alike := f0, d__law_alike := _, F__law_alike := fun_mk (st := topS 16) l0 c0 k0, g__law_alike := PySem.W.mg_of X G a0, f__law_at_least := f1, d__law_at_least := _, F__law_at_least := fun_mk (st := topS 19) l1 c1 k1, g__law_at_least := PySem.W.mg_of X G a1, f__law_bag := f2, d__law_bag := _, F__law_bag := fun_mk (st := topS 11) l2 c2 k2, g__law_bag := PySem.W.mg_of X G a2, f__law_each_time := f3, d__law_each_time := _, F__law_each_time := fun_mk (st := topS 21) l3 c3 k3, g__law_each_time := PySem.W.mg_of X G a3, f__law_greatest := f4, d__law_greatest := _, F__law_greatest := fun_mk (st := topS 20) l4 c4 k4, g__law_greatest := PySem.W.mg_of X G a4, f__law_has := f5, d__law_has := _, F__law_has := fun_mk (st := topS 24) l5 c5 k5, g__law_has := PySem.W.mg_of X G a5, f__law_is_each := f6, d__law_is_each := _, F__law_is_each := fun_mk (st := topS 23) l6 c6 k6, g__law_is_each := PySem.W.mg_of X G a6, f__law_take := f7, d__law_take := _, F__law_take := fun_mk (st := topS 12) l7 c7 k7, g__law_take := PySem.W.mg_of X G a7, f__law_mixed := f8, d__law_mixed := _, F__law_mixed := fun_mk (st := topS 13) l8 c8 k8, g__law_mixed := PySem.W.mg_of X G a8, f__law_step := f9, d__law_step := _, F__law_step := fun_mk (st := topS 10) l9 c9 k9, g__law_step := PySem.W.mg_of X G a9, f__law_out := f10, d__law_out := _, F__law_out := fun_mk (st := topS 22) l10 c10 k10, g__law_out := PySem.W.mg_of X G a10, f__law_last := f11, d__law_last := _, F__law_last := fun_mk (st := topS 17) l11 c11 k11, g__law_last := PySem.W.mg_of X G a11, f__law_row_machine := f12, d__law_row_machine := _, F__law_row_machine := fun_mk (st := topS 18) l12 c12 k12, g__law_row_machine := PySem.W.mg_of X G a12, f__law_some := f13, d__law_some := _, F__law_some := fun_mk (st := topS 15) l13 c13 k13, g__law_some := PySem.W.mg_of X G a13, f__law_some_names := f14, d__law_some_names := _, F__law_some_names := fun_mk (st := topS 14) l14 c14 k14, g__law_some_names := PySem.W.mg_of X G a14, f_staying := f15, d_staying := _, F_staying := fun_mk (st := topS 3) l15 c15 k15, g_staying := PySem.W.mg_of X G a15, f_at_least := f16, d_at_least := _, F_at_least := fun_mk (st := topS 4) l16 c16 k16, g_at_least := PySem.W.mg_of X G a16, f_each_time := f17, d_each_time := _, F_each_time := fun_mk (st := topS 8) l17 c17 k17, g_each_time := PySem.W.mg_of X G a17, f_greatest := f18, d_greatest := _, F_greatest := fun_mk (st := topS 5) l18 c18 k18, g_greatest := PySem.W.mg_of X G a18, f_row_behind := f19, d_row_behind := _, F_row_behind := fun_mk (st := topS 6) l19 c19 k19, g_row_behind := PySem.W.mg_of X G a19, f_has_row := f20, d_has_row := _, F_has_row := fun_mk (st := topS 7) l20 c20 k20, g_has_row := PySem.W.mg_of X G a20, f_law := fa, d_law := _, F_law := fun_mk (st := topS 25) l21 c21 k21, g_law := PySem.W.mg_of X G a21, n_abs := PySem.W.mg_none_of X G z0, n_enumerate := PySem.W.mg_none_of X G z1, n_int := PySem.W.mg_none_of X G z2, n_len := PySem.W.mg_none_of X G z3, n_list := PySem.W.mg_none_of X G z4, n_max := PySem.W.mg_none_of X G z5, n_min := PySem.W.mg_none_of X G z6, n_range := PySem.W.mg_none_of X G z7, n_repr := PySem.W.mg_none_of X G z8, n_sorted := PySem.W.mg_none_of X G z9, n_tuple := PySem.W.mg_none_of X G z10, c_NO := ⟨_, PySem.W.mg_of X G y0⟩, c_YES := ⟨_, PySem.W.mg_of X G y1⟩ })⟩
end K18
open PySem PySem.W PyProof.Rows
set_option maxHeartbeats 0 in
theorem PySem.Challenge.cw_toldforgood_k18_machines_to_begin_with_holds : PySem.Challenge.rw_toldforgood_k18_machines_to_begin_with.Holds := by
  w_on; o_law; k_head; (case hw => w_witness2)
  k_fill
  refine VL.walk_val (l := PySem.Challenge.rw_toldforgood_k18_machines_to_begin_with) (n := 63) (k := 4) (x := "script") (sp := K18.sp_law) rfl (by rw [sizeLine_eq]; decide) rfl ⟨rfl, by decide, by decide⟩ (fun w h Y => PySem.W.kIn_of Y) ?F K18.law_true
  case F =>
    intro w mg fa h KX G hmg
    refine' K18.mk_all KX G hmg ?a0 ?l0 ?c0 ?k0 ?a1 ?l1 ?c1 ?k1 ?a2 ?l2 ?c2 ?k2 ?a3 ?l3 ?c3 ?k3 ?a4 ?l4 ?c4 ?k4 ?a5 ?l5 ?c5 ?k5 ?a6 ?l6 ?c6 ?k6 ?a7 ?l7 ?c7 ?k7 ?a8 ?l8 ?c8 ?k8 ?a9 ?l9 ?c9 ?k9 ?a10 ?l10 ?c10 ?k10 ?a11 ?l11 ?c11 ?k11 ?a12 ?l12 ?c12 ?k12 ?a13 ?l13 ?c13 ?k13 ?a14 ?l14 ?c14 ?k14 ?a15 ?l15 ?c15 ?k15 ?a16 ?l16 ?c16 ?k16 ?a17 ?l17 ?c17 ?k17 ?a18 ?l18 ?c18 ?k18 ?a19 ?l19 ?c19 ?k19 ?a20 ?l20 ?c20 ?k20 ?a21 ?l21 ?c21 ?k21 ?z0 ?z1 ?z2 ?z3 ?z4 ?z5 ?z6 ?z7 ?z8 ?z9 ?z10 ?y0 ?y1
    (case a0 => k_is)
    (case l0 => k_is)
    (case c0 => k_is)
    (case k0 => k_is)
    (case a1 => k_is)
    (case l1 => k_is)
    (case c1 => k_is)
    (case k1 => k_is)
    (case a2 => k_is)
    (case l2 => k_is)
    (case c2 => k_is)
    (case k2 => k_is)
    (case a3 => k_is)
    (case l3 => k_is)
    (case c3 => k_is)
    (case k3 => k_is)
    (case a4 => k_is)
    (case l4 => k_is)
    (case c4 => k_is)
    (case k4 => k_is)
    (case a5 => k_is)
    (case l5 => k_is)
    (case c5 => k_is)
    (case k5 => k_is)
    (case a6 => k_is)
    (case l6 => k_is)
    (case c6 => k_is)
    (case k6 => k_is)
    (case a7 => k_is)
    (case l7 => k_is)
    (case c7 => k_is)
    (case k7 => k_is)
    (case a8 => k_is)
    (case l8 => k_is)
    (case c8 => k_is)
    (case k8 => k_is)
    (case a9 => k_is)
    (case l9 => k_is)
    (case c9 => k_is)
    (case k9 => k_is)
    (case a10 => k_is)
    (case l10 => k_is)
    (case c10 => k_is)
    (case k10 => k_is)
    (case a11 => k_is)
    (case l11 => k_is)
    (case c11 => k_is)
    (case k11 => k_is)
    (case a12 => k_is)
    (case l12 => k_is)
    (case c12 => k_is)
    (case k12 => k_is)
    (case a13 => k_is)
    (case l13 => k_is)
    (case c13 => k_is)
    (case k13 => k_is)
    (case a14 => k_is)
    (case l14 => k_is)
    (case c14 => k_is)
    (case k14 => k_is)
    (case a15 => k_is)
    (case l15 => k_is)
    (case c15 => k_is)
    (case k15 => k_is)
    (case a16 => k_is)
    (case l16 => k_is)
    (case c16 => k_is)
    (case k16 => k_is)
    (case a17 => k_is)
    (case l17 => k_is)
    (case c17 => k_is)
    (case k17 => k_is)
    (case a18 => k_is)
    (case l18 => k_is)
    (case c18 => k_is)
    (case k18 => k_is)
    (case a19 => k_is)
    (case l19 => k_is)
    (case c19 => k_is)
    (case k19 => k_is)
    (case a20 => k_is)
    (case l20 => k_is)
    (case c20 => k_is)
    (case k20 => k_is)
    (case a21 => k_is)
    (case l21 => k_is)
    (case c21 => k_is)
    (case k21 => k_is)
    (case z0 => k_is)
    (case z1 => k_is)
    (case z2 => k_is)
    (case z3 => k_is)
    (case z4 => k_is)
    (case z5 => k_is)
    (case z6 => k_is)
    (case z7 => k_is)
    (case z8 => k_is)
    (case z9 => k_is)
    (case z10 => k_is)
    (case y0 => k_is)
    (case y1 => k_is)

