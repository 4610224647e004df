import PyProof.Rows.All
import Wide.All
import OpenK.AllK
import Wide.FinOn
import PySem.Challenge.RW_rh0195_01
open PySem PySem.W PyProof.Rows PySem.Calls
set_option Elab.async false
set_option maxRecDepth 100000
set_option linter.unusedVariables false


-- H1
section
set_option maxHeartbeats 8000000
namespace Mine
open_top hd for PySem.Challenge.rw_rh0195_01
end Mine
end


-- L1
section
set_option maxHeartbeats 2000000
namespace Mine

/-! ## heaps that grow -/
def Le (h h' : Heap) : Prop := ∀ b o, h.get? b = some o → h'.get? b = some o
theorem Le.refl (h : Heap) : Le h h := fun _ _ e => e
theorem Le.trans {a b c : Heap} (x : Le a b) (y : Le b c) : Le a c := fun _ _ e => y _ _ (x _ _ e)
theorem Le.push (h : Heap) (o : Obj) : Le h (h.push o) := fun _ _ e => Heap.get?_push_of_some _ e

abbrev tupObj (items : Array Value) (n : Nat) : Obj := { cls := .type "tuple", dict := Option.none, data := .seq items n, slots := #[] }
abbrev lstObj (items : Array Value) (n : Nat) : Obj := { cls := .type "list", dict := Option.none, data := .seq items n, slots := #[] }
/-- a later state: only the objects at `X` may be changed, and tuples never -/
structure KB (X : List Addr) (s s' : Shared) : Prop where
  same : ∃ h tk, s' = { s with heap := h, toks := tk }
  keep : ∀ b o, b ∉ X → s.heap.get? b = some o → s'.heap.get? b = some o
  tup : ∀ b items n, s.heap.get? b = some (tupObj items n) → s'.heap.get? b = some (tupObj items n)

theorem KB.refl (X : List Addr) (s : Shared) : KB X s s := ⟨⟨s.heap, s.toks, rfl⟩, fun _ _ _ e => e, fun _ _ _ e => e⟩
theorem KB.trans {X : List Addr} {a b c : Shared} (x : KB X a b) (y : KB X b c) : KB X a c := by
  refine ⟨?_, fun p o hp e => y.keep p o hp (x.keep p o hp e), fun p i n e => y.tup p i n (x.tup p i n e)⟩
  obtain ⟨h, tk, rfl⟩ := x.same
  obtain ⟨h', tk', rfl⟩ := y.same
  exact ⟨h', tk', rfl⟩
theorem KB.mono {X Y : List Addr} {a b : Shared} (x : KB X a b) (h : ∀ p ∈ X, p ∈ Y) : KB Y a b := ⟨x.same, fun p o hp e => x.keep p o (fun q => hp (h p q)) e, x.tup⟩
theorem KB.le {s s' : Shared} (x : KB [] s s') : Le s.heap s'.heap := fun b o e => x.keep b o (by simp) e
theorem KB.of_nil {s s' : Shared} (X : List Addr) (x : KB [] s s') : KB X s s' := x.mono (by simp)
theorem KB.toks {X : List Addr} {s s' : Shared} (x : KB X s s') (t : Nat) : KB X s { s' with toks := t } := by
  obtain ⟨h, tk, rfl⟩ := x.same
  exact ⟨⟨h, t, rfl⟩, x.keep, x.tup⟩
theorem KB.gens {X : List Addr} {s s' : Shared} (x : KB X s s') : s'.gens = s.gens := by obtain ⟨h, tk, rfl⟩ := x.same; rfl
theorem KB.os {X : List Addr} {s s' : Shared} (x : KB X s s') : s'.os = s.os := by obtain ⟨h, tk, rfl⟩ := x.same; rfl

theorem KB.push (s : Shared) (o : Obj) (tk : Nat) : KB [] s { s with heap := s.heap.push o, toks := tk } :=
  ⟨⟨_, _, rfl⟩, fun _ _ _ e => Heap.get?_push_of_some _ e, fun _ _ _ e => Heap.get?_push_of_some _ e⟩
theorem KB.of_le {s : Shared} {h' : Heap} {tk : Nat} (k : Le s.heap h') : KB [] s { s with heap := h', toks := tk } :=
  ⟨⟨_, _, rfl⟩, fun _ _ _ e => k _ _ e, fun _ _ _ e => k _ _ e⟩
/-- one object that is no tuple is changed -/
theorem KB.one {s : Shared} {h' : Heap} {tk : Nat} {a : Addr} {o : Obj} (ho : s.heap.get? a = some o) (hc : ∀ items n, o ≠ tupObj items n) (k : Heap.SameBut a s.heap h') :
    KB [a] s { s with heap := h', toks := tk } :=
  ⟨⟨_, _, rfl⟩, fun b o' hb e => k.extBut b o' (by simpa using hb) e, fun b i n e => k.extBut b _ (by rintro rfl; rw [ho] at e; exact hc i n (Option.some.inj e)) e⟩

/-! ## the top -/
noncomputable abbrev KK (w : World) : Frag := hd.heap_39 w.params
def GG (w : World) (h : Heap) : Prop := (KK w).In h ∧ ∃ p loose mg mb, TopRead p loose mg mb h
theorem GG.le {w : World} {h h' : Heap} (x : GG w h) (k : Le h h') : GG w h' := ⟨x.1.keeps k, let ⟨p, l, mg, mb, t⟩ := x.2; ⟨p, l, mg, mb, t.keeps k⟩⟩

/-! ## frames -/
/-- what an expression may ask of the names: `m` gives a name's value, be it a local or a captured one -/
structure View (env : Env) (m : Str → Option Value) (s : Shared) : Prop where
  kind : env.scope.kind = .function
  globals : env.globals = mainGlobals
  builtins : env.builtins = builtinsNs
  ns : ∃ ml, s.heap.Ns env.locals ml ∧ ∀ x v, env.kindOf x = some .local → m x = some v → ml x = some v
  cell : ∀ x c, env.cells.lookup x = some c → ∃ v₀, s.heap.IsCell c v₀ ∧ ∀ v, m x = some v → v₀ = some v
theorem View.le {env : Env} {m : Str → Option Value} {s s' : Shared} (x : View env m s) (k : Le s.heap s'.heap) : View env m s' :=
  ⟨x.kind, x.globals, x.builtins, let ⟨ml, a, b⟩ := x.ns; ⟨ml, a.keeps k, b⟩, fun y c hc => let ⟨v₀, a, b⟩ := x.cell y c hc; ⟨v₀, a.keeps k, b⟩⟩

section
variable {M : Model} {A : Around} {E : Value → Shared → Prop} {s : Shared} {env : Env} {m : Str → Option Value} {w : World}
theorem View.local_ {x : Str} {pos : Pos} {v : Value} {Q : Value → Shared → Prop} (V : View env m s) (hl : env.kindOf x = some .local) (hv : m x = some v) (h : Q v s)
    (hd : (x == ("__debug__" : Str)) = false := by decide) : wpAny M A (eval (.Name x pos) env) Q E s := by
  obtain ⟨ml, hn, he⟩ := V.ns
  exact wpAny_Name (wpAny_loadName_local V.kind hl hn (he x v hl hv) h) hd
theorem View.cell_ {x : Str} {pos : Pos} {v : Value} {c : Addr} {Q : Value → Shared → Prop} (V : View env m s) (hl : env.kindOf x = some .cell) (hc : env.cells.lookup x = some c) (hv : m x = some v) (h : Q v s)
    (hd : (x == ("__debug__" : Str)) = false := by decide) : wpAny M A (eval (.Name x pos) env) Q E s :=
  let ⟨v₀, hv₀, e⟩ := V.cell x c hc
  wpAny_Name (wpAny_loadName_cell V.kind hl hc (e v hv ▸ hv₀) h) hd
theorem View.global_ {x : Str} {pos : Pos} {v : Value} {Q : Value → Shared → Prop} (V : View env m s) (G : GG w s.heap) (hl : env.kindOf x = some .globalImplicit) (e : nsIn (KK w) mainGlobals x = some (some v)) (h : Q v s)
    (hd : (x == ("__debug__" : Str)) = false := by decide) : wpAny M A (eval (.Name x pos) env) Q E s := by
  obtain ⟨K, p, l, mg, mb, T⟩ := G
  exact Name_function_global V.kind hl (loadGlobal_global (V.globals ▸ T.g) (mg_of K T.g e) h) hd
theorem View.builtin_ {x : Str} {pos : Pos} {v : Value} {Q : Value → Shared → Prop} (V : View env m s) (G : GG w s.heap) (hl : env.kindOf x = some .globalImplicit) (e : nsIn (KK w) mainGlobals x = some none)
    (hv : bootBuiltins x = some v) (hn : x ≠ "__name__") (h : Q v s)
    (hd : (x == ("__debug__" : Str)) = false := by decide) : wpAny M A (eval (.Name x pos) env) Q E s := by
  obtain ⟨K, p, l, mg, mb, T⟩ := G
  exact Name_function_global V.kind hl (loadGlobal_builtin (V.globals ▸ T.g) (mg_none_of K T.g e) (V.builtins ▸ T.b) ((T.builtins x hn).trans hv) h) hd
end

end Mine
end


-- L2
section
set_option maxHeartbeats 2000000
namespace Mine

/-! ## data: trees of ints and tuples -/
inductive Dt where
  | none
  | bool (b : Bool)
  | int (i : Int)
  | tup (xs : List Dt)

mutual
def Rd (h : Heap) : Dt → Value → Prop
  | .none, v => v = .none
  | .bool b, v => v = .bool b
  | .int i, v => ∃ t, v = .int i t
  | .tup ds, v => ∃ (a : Addr) (items : List Value) (n : Nat), v = .ref a ∧ h.get? a = some (tupObj items.toArray n) ∧ RdL h ds items
def RdL (h : Heap) : List Dt → List Value → Prop
  | [], vs => vs = []
  | d :: ds, vs => ∃ v r, vs = v :: r ∧ Rd h d v ∧ RdL h ds r
end

def KT (h h' : Heap) : Prop := ∀ b items n, h.get? b = some (tupObj items n) → h'.get? b = some (tupObj items n)
theorem Le.kt {h h' : Heap} (k : Le h h') : KT h h' := fun b i n e => k b _ e
theorem KB.kt {X : List Addr} {s s' : Shared} (k : KB X s s') : KT s.heap s'.heap := k.tup

mutual
theorem Rd.kt {h h' : Heap} (k : KT h h') : ∀ (d : Dt) (v : Value), Rd h d v → Rd h' d v
  | .none, _, x => by unfold Rd at *; exact x
  | .bool _, _, x => by unfold Rd at *; exact x
  | .int _, _, x => by unfold Rd at *; exact x
  | .tup ds, v, x => by
    unfold Rd at *
    obtain ⟨a, items, n, e, ho, r⟩ := x
    exact ⟨a, items, n, e, k _ _ _ ho, RdL.kt k ds items r⟩
theorem RdL.kt {h h' : Heap} (k : KT h h') : ∀ (ds : List Dt) (vs : List Value), RdL h ds vs → RdL h' ds vs
  | [], _, x => by unfold RdL at *; exact x
  | d :: ds, vs, x => by
    unfold RdL at *
    obtain ⟨v, r, e, x1, x2⟩ := x
    exact ⟨v, r, e, Rd.kt k d v x1, RdL.kt k ds r x2⟩
end
theorem Rd.le {h h' : Heap} {d : Dt} {v : Value} (x : Rd h d v) (k : Le h h') : Rd h' d v := Rd.kt k.kt d v x
theorem Rd.kb {X : List Addr} {s s' : Shared} {d : Dt} {v : Value} (x : Rd s.heap d v) (k : KB X s s') : Rd s'.heap d v := Rd.kt k.kt d v x
theorem RdL.le {h h' : Heap} {d : List Dt} {v : List Value} (x : RdL h d v) (k : Le h h') : RdL h' d v := RdL.kt k.kt d v x
theorem RdL.kb {X : List Addr} {s s' : Shared} {d : List Dt} {v : List Value} (x : RdL s.heap d v) (k : KB X s s') : RdL s'.heap d v := RdL.kt k.kt d v x

theorem RdL.nil {h : Heap} : RdL h [] [] := by unfold RdL; rfl
theorem RdL.cons {h : Heap} {d : Dt} {ds : List Dt} {v : Value} {vs : List Value} (a : Rd h d v) (b : RdL h ds vs) : RdL h (d :: ds) (v :: vs) := by unfold RdL; exact ⟨v, vs, rfl, a, b⟩
theorem RdL.length {h : Heap} : ∀ {ds : List Dt} {vs : List Value}, RdL h ds vs → vs.length = ds.length
  | [], _, x => by unfold RdL at x; subst x; rfl
  | d :: ds, _, x => by
    unfold RdL at x
    obtain ⟨v, r, rfl, _, x2⟩ := x
    simp [RdL.length x2]
theorem RdL.get {h : Heap} : ∀ {ds : List Dt} {vs : List Value} {i : Nat} {d : Dt}, RdL h ds vs → ds[i]? = some d → ∃ v, vs[i]? = some v ∧ Rd h d v
  | [], _, i, d, _, e => by simp at e
  | d₀ :: ds, _, 0, d, x, e => by
    unfold RdL at x
    obtain ⟨v, r, rfl, x1, _⟩ := x
    simp at e; subst e
    exact ⟨v, rfl, x1⟩
  | d₀ :: ds, _, i + 1, d, x, e => by
    unfold RdL at x
    obtain ⟨v, r, rfl, _, x2⟩ := x
    simp at e
    obtain ⟨v', e', r'⟩ := RdL.get x2 e
    exact ⟨v', by simpa using e', r'⟩
theorem RdL.get' {h : Heap} : ∀ {ds : List Dt} {vs : List Value} {i : Nat} {v : Value}, RdL h ds vs → vs[i]? = some v → ∃ d, ds[i]? = some d ∧ Rd h d v
  | [], _, i, d, x, e => by unfold RdL at x; subst x; simp at e
  | d₀ :: ds, _, 0, d, x, e => by
    unfold RdL at x
    obtain ⟨v, r, rfl, x1, _⟩ := x
    simp at e; subst e
    exact ⟨d₀, rfl, x1⟩
  | d₀ :: ds, _, i + 1, d, x, e => by
    unfold RdL at x
    obtain ⟨v, r, rfl, _, x2⟩ := x
    simp at e
    obtain ⟨v', e', r'⟩ := RdL.get' x2 e
    exact ⟨v', by simpa using e', r'⟩
theorem RdL.append {h : Heap} : ∀ {ds es : List Dt} {vs us : List Value}, RdL h ds vs → RdL h es us → RdL h (ds ++ es) (vs ++ us)
  | [], _, _, _, x, y => by unfold RdL at x; subst x; exact y
  | d :: ds, es, _, us, x, y => by
    unfold RdL at x
    obtain ⟨v, r, rfl, x1, x2⟩ := x
    exact RdL.cons x1 (RdL.append x2 y)
theorem RdL.drop {h : Heap} : ∀ {ds : List Dt} {vs : List Value} (k : Nat), RdL h ds vs → RdL h (ds.drop k) (vs.drop k)
  | ds, vs, 0, x => by simpa using x
  | [], _, k + 1, x => by unfold RdL at x; subst x; simpa using RdL.nil
  | d :: ds, _, k + 1, x => by
    unfold RdL at x
    obtain ⟨v, r, rfl, _, x2⟩ := x
    simpa using RdL.drop k x2
theorem RdL.take {h : Heap} : ∀ {ds : List Dt} {vs : List Value} (k : Nat), RdL h ds vs → RdL h (ds.take k) (vs.take k)
  | ds, vs, 0, x => by simpa using RdL.nil
  | [], _, k + 1, x => by unfold RdL at x; subst x; simpa using RdL.nil
  | d :: ds, _, k + 1, x => by
    unfold RdL at x
    obtain ⟨v, r, rfl, x1, x2⟩ := x
    simpa using RdL.cons x1 (RdL.take k x2)
theorem RdL.push {h : Heap} {ds : List Dt} {vs : List Value} {d : Dt} {v : Value} (x : RdL h ds vs) (y : Rd h d v) : RdL h (ds ++ [d]) (vs ++ [v]) := x.append (RdL.cons y RdL.nil)
theorem RdL.mem {h : Heap} {ds : List Dt} {vs : List Value} {v : Value} (x : RdL h ds vs) (hv : v ∈ vs) : ∃ d ∈ ds, Rd h d v := by
  obtain ⟨i, hi, rfl⟩ := List.mem_iff_getElem.mp hv
  obtain ⟨d, hd, r⟩ := x.get' (List.getElem?_eq_getElem hi)
  exact ⟨d, List.mem_of_getElem? hd, r⟩
theorem RdL.eraseIdx {h : Heap} : ∀ {ds : List Dt} {vs : List Value} (k : Nat), RdL h ds vs → RdL h (ds.eraseIdx k) (vs.eraseIdx k)
  | [], _, k, x => by unfold RdL at x; subst x; simpa using RdL.nil
  | d :: ds, _, 0, x => by
    unfold RdL at x
    obtain ⟨v, r, rfl, _, x2⟩ := x
    simpa using x2
  | d :: ds, _, k + 1, x => by
    unfold RdL at x
    obtain ⟨v, r, rfl, x1, x2⟩ := x
    simpa using RdL.cons x1 (RdL.eraseIdx k x2)

/-! ## paths -/
abbrev Path := List Int
def pth (p : Path) : Dt := .tup (p.map .int)
def pair (x : Path × Path) : Dt := .tup [pth x.1, pth x.2]
def pths (ps : List Path) : Dt := .tup (ps.map pth)

theorem RdL.ints {h : Heap} : ∀ {p : Path} {vs : List Value}, RdL h (p.map .int) vs → IntsAre vs p
  | [], _, x => by
    unfold RdL at x
    simp only [List.map_nil] at x
    subst x; exact .nil
  | i :: p, _, x => by
    rw [List.map_cons] at x
    unfold RdL at x
    obtain ⟨v, r, rfl, x1, x2⟩ := x
    unfold Rd at x1
    obtain ⟨t, rfl⟩ := x1
    exact .cons i t (RdL.ints x2)
theorem RdL.of_ints {h : Heap} : ∀ {p : Path} {vs : List Value}, IntsAre vs p → RdL h (p.map .int) vs
  | _, _, .nil => RdL.nil
  | _, _, .cons i t x => RdL.cons (by unfold Rd; exact ⟨t, rfl⟩) (RdL.of_ints x)
theorem Rd.pth_iff {h : Heap} {p : Path} {v : Value} : Rd h (pth p) v ↔ ∃ a items n, v = .ref a ∧ h.get? a = some (tupObj items n) ∧ IntsAre items.toList p := by
  unfold pth Rd
  constructor
  · rintro ⟨a, items, n, rfl, ho, r⟩
    exact ⟨a, items.toArray, n, rfl, ho, by simpa using r.ints⟩
  · rintro ⟨a, items, n, rfl, ho, r⟩
    exact ⟨a, items.toList, n, rfl, by simpa using ho, RdL.of_ints r⟩
theorem Rd.tup_iff {h : Heap} {ds : List Dt} {v : Value} : Rd h (.tup ds) v ↔ ∃ (a : Addr) (items : List Value) (n : Nat), v = .ref a ∧ h.get? a = some (tupObj items.toArray n) ∧ RdL h ds items := by
  conv => lhs; unfold Rd
theorem Rd.int_iff {h : Heap} {i : Int} {v : Value} : Rd h (.int i) v ↔ ∃ t, v = .int i t := by
  conv => lhs; unfold Rd
theorem Rd.int {h : Heap} (i : Int) (t : Tok) : Rd h (.int i) (.int i t) := Rd.int_iff.mpr ⟨t, rfl⟩
theorem Rd.boolv {h : Heap} (b : Bool) : Rd h (.bool b) (.bool b) := by unfold Rd; rfl
theorem Rd.bool_iff {h : Heap} {b : Bool} {v : Value} : Rd h (.bool b) v ↔ v = .bool b := by
  conv => lhs; unfold Rd

theorem itemsAre {prog : Program} {w : World} : ∀ {vs : List Value} {p : Path}, IntsAre vs p → ItemsAre (intKind prog w) p vs
  | _, _, .nil => .nil
  | _, _, .cons i t x => .cons (by simp [intKind, Value.isInt]) (itemsAre x)
theorem Rd.key {prog : Program} {w : World} {h : Heap} {p : Path} {a : Addr} (x : Rd h (pth p) (.ref a)) : IsTupleKey (intKind prog w) h p a := by
  obtain ⟨a', items, n, e, ho, r⟩ := Rd.pth_iff.mp x
  cases e
  exact ⟨_, items, n, ho, rfl, rfl, itemsAre r⟩
theorem Rd.pth_ref {h : Heap} {p : Path} {v : Value} (x : Rd h (pth p) v) : ∃ a, v = .ref a := by
  obtain ⟨a', items, n, e, ho, r⟩ := Rd.pth_iff.mp x
  exact ⟨a', e⟩
/-- two paths are equal as Python compares them just if they are -/
theorem Rd.eqAt {A : Around} {s : Shared} {p q : Path} {v u : Value} (hu : A.units < cLine) (x : Rd s.heap (pth p) v) (y : Rd s.heap (pth q) u) : SeqAt.EqAt A s v u (decide (p = q)) := by
  obtain ⟨a, rfl⟩ := x.pth_ref
  obtain ⟨b, rfl⟩ := y.pth_ref
  intro prog w E Q h
  exact wpAny_eqBool_tuple (knd := intKind prog w) hu x.key y.key h

/-! ## lists of such data -/
def LT (h : Heap) (l : Addr) (ds : List Dt) : Prop := ∃ (items : List Value) (n : Nat), h.get? l = some (lstObj items.toArray n) ∧ RdL h ds items
def Ls (h : Heap) (ds : List Dt) (v : Value) : Prop := ∃ l, v = .ref l ∧ LT h l ds
theorem LT.kb {X : List Addr} {s s' : Shared} {l : Addr} {ds : List Dt} (x : LT s.heap l ds) (k : KB X s s') (hl : l ∉ X) : LT s'.heap l ds := by
  obtain ⟨items, n, ho, r⟩ := x
  exact ⟨items, n, k.keep _ _ hl ho, r.kb k⟩
theorem LT.le {h h' : Heap} {l : Addr} {ds : List Dt} (x : LT h l ds) (k : Le h h') : LT h' l ds := by
  obtain ⟨items, n, ho, r⟩ := x
  exact ⟨items, n, k _ _ ho, r.le k⟩
theorem Ls.le {h h' : Heap} {v : Value} {ds : List Dt} (x : Ls h ds v) (k : Le h h') : Ls h' ds v := let ⟨l, e, y⟩ := x; ⟨l, e, y.le k⟩
theorem LT.lt {h : Heap} {l : Addr} {ds : List Dt} (x : LT h l ds) : l < h.objs.size := let ⟨_, _, ho, _⟩ := x; Heap.lt_size ho
end Mine
end


-- L3
section
set_option maxHeartbeats 2000000
namespace Mine

structure AOk (A : Around) (n : Nat) : Prop where
  handled : A.handled = none
  depth : A.depth + n < recursionLimit
  units : A.units + 20 * n + 100 < cLine
theorem AOk.le {A : Around} {n k : Nat} (x : AOk A n) (h : k ≤ n) : AOk A k := ⟨x.handled, by have := x.depth; omega, by have := x.units; omega⟩
theorem AOk.u {A : Around} {n : Nat} (x : AOk A n) : A.units < cLine := by have := x.units; omega
theorem AOk.u1 {A : Around} {n : Nat} (x : AOk A n) : A.in1.units < cLine := by have := x.units; show A.units + 1 < cLine; omega
theorem AOk.u11 {A : Around} {n : Nat} (x : AOk A n) : A.in1.in1.units < cLine := by have := x.units; show A.units + 1 + 1 < cLine; omega
theorem AOk.room {A : Around} {n : Nat} (x : AOk A n) : A.depth < recursionLimit := by have := x.depth; omega
theorem AOk.deeper {A : Around} {n : Nat} {env : Env} (x : AOk A (n + 1)) : AOk (A.deeper env) n :=
  ⟨x.handled, by have := x.depth; show A.depth + 1 + n < recursionLimit; omega, by have := x.units; show A.units + 3 + 20 * n + 100 < cLine; omega⟩

section
variable {prog : Program} {w : World} {A : Around} {env : Env} {s s₁ : Shared} {m : Str → Option Value} {E : Value → Shared → Prop} {n : Nat}

/-- an expression that changes nothing: from every later state it gives a value of which `R` holds, then and for good -/
def Pe (prog : Program) (w : World) (A : Around) (env : Env) (s : Shared) (e : Expr) (R : Heap → Value → Prop) : Prop :=
  ∀ (E : Value → Shared → Prop) (s₁ : Shared), KB [] s s₁ → wpAny (model prog w) A (eval e env) (fun v s₂ => KB [] s₁ s₂ ∧ ∀ h', Le s₂.heap h' → R h' v) E s₁

theorem Pe.use {e : Expr} {R : Heap → Value → Prop} {Q : Value → Shared → Prop} (x : Pe prog w A env s e R) (k : KB [] s s₁)
    (h : ∀ v s₂, KB [] s₁ s₂ → (∀ h', Le s₂.heap h' → R h' v) → Q v s₂) : wpAny (model prog w) A (eval e env) Q E s₁ :=
  wpAny_mono (x E s₁ k) (fun v s₂ hv => h v s₂ hv.1 hv.2) fun _ _ y => y
theorem Pe.mono {e : Expr} {R R' : Heap → Value → Prop} (x : Pe prog w A env s e R) (h : ∀ h' v, R h' v → R' h' v) : Pe prog w A env s e R' :=
  fun E s₁ k => wpAny_mono (x E s₁ k) (fun v s₂ hv => ⟨hv.1, fun h' l => h _ _ (hv.2 h' l)⟩) fun _ _ y => y
theorem Pe.later {e : Expr} {R : Heap → Value → Prop} (x : Pe prog w A env s e R) (k : KB [] s s₁) : Pe prog w A env s₁ e R := fun E s₂ k' => x E s₂ (k.trans k')

theorem Pe.int (i : Int) (k : Nat) (pos : Pos) : Pe prog w A env s (.Constant (.int i) k pos) (fun h v => Rd h (.int i) v) := fun _ s₁ _ =>
  wpAny_Constant_int ⟨(KB.refl [] s₁).toks _, fun _ _ => Rd.int _ _⟩
theorem Pe.bool (b : Bool) (k : Nat) (pos : Pos) : Pe prog w A env s (.Constant (.bool b) k pos) (fun h v => Rd h (.bool b) v) := fun _ s₁ _ =>
  wpAny_pure ⟨KB.refl [] s₁, fun _ _ => Rd.boolv _⟩
theorem Pe.noneC (k : Nat) (pos : Pos) : Pe prog w A env s (.Constant .none k pos) (fun h v => v = .none) := fun _ s₁ _ =>
  wpAny_pure ⟨KB.refl [] s₁, fun _ _ => rfl⟩
theorem Pe.loc {x : Str} {pos : Pos} {v : Value} {R : Heap → Value → Prop} (V : View env m s) (hl : env.kindOf x = some .local) (hv : m x = some v) (h : ∀ h', Le s.heap h' → R h' v)
    (hd : (x == ("__debug__" : Str)) = false := by decide) : Pe prog w A env s (.Name x pos) R := fun _ s₁ k =>
  (V.le k.le).local_ hl hv ⟨KB.refl [] s₁, fun h' l => h h' (k.le.trans l)⟩ hd
theorem Pe.cel {x : Str} {pos : Pos} {v : Value} {c : Addr} {R : Heap → Value → Prop} (V : View env m s) (hl : env.kindOf x = some .cell) (hc : env.cells.lookup x = some c) (hv : m x = some v) (h : ∀ h', Le s.heap h' → R h' v)
    (hd : (x == ("__debug__" : Str)) = false := by decide) : Pe prog w A env s (.Name x pos) R := fun _ s₁ k =>
  (V.le k.le).cell_ hl hc hv ⟨KB.refl [] s₁, fun h' l => h h' (k.le.trans l)⟩ hd

/-! ### displays -/
def PeL (prog : Program) (w : World) (A : Around) (env : Env) (s : Shared) (es : List Expr) (ds : List Dt) : Prop :=
  ∀ (E : Value → Shared → Prop) (s₁ : Shared) (pos : Pos), KB [] s s₁ → wpAny (model prog w) A (spliced (backTo pos (starEach es env))) (fun vs s₂ => KB [] s₁ s₂ ∧ RdL s₂.heap ds vs) E s₁
theorem PeL.nil : PeL prog w A env s [] [] := fun _ s₁ _ _ => args_nil ⟨KB.refl [] s₁, RdL.nil⟩
theorem PeL.cons {e : Expr} {es : List Expr} {d : Dt} {ds : List Dt} (x : Pe prog w A env s e (fun h v => Rd h d v)) (y : PeL prog w A env s es ds)
    (he : starEach (e :: es) env = (false, eval e env) :: starEach es env := by rfl) : PeL prog w A env s (e :: es) (d :: ds) := fun E s₁ pos k =>
  args_cons (x.use k fun v s₂ k₂ r => wpAny_mono (y E s₂ pos (k.trans k₂)) (fun _ s₃ h => ⟨k₂.trans h.1, RdL.cons (r _ h.1.le) h.2⟩) fun _ _ z => z) he

theorem line_of_lt {k : Nat} (h : k < 100000) : k ≤ sizeLine := by unfold sizeLine; omega

theorem Pe.tuple {es : List Expr} {k : Nat} {pos : Pos} {ds : List Dt} (y : PeL prog w A env s es ds) (hs : ds.length < 100000 := by decide) :
    Pe prog w A env s (.Tuple es k pos) (fun h v => Rd h (.tup ds) v) := fun E s₁ ks =>
  wpAny_Tuple_spliced (wpAny_mono (y E s₁ _ ks) (fun vs s₂ h => ⟨by rw [h.2.length]; exact line_of_lt hs, h.1.trans (KB.push s₂ _ _), fun h' l =>
    Rd.tup_iff.mpr ⟨_, vs, 0, rfl, l _ _ (Heap.get?_push_size _ rfl), (h.2.le (Le.push _ _)).le l⟩⟩) fun _ _ z => z)
theorem Pe.list {es : List Expr} {pos : Pos} {ds : List Dt} (y : PeL prog w A env s es ds) (hs : ds.length < 100000 := by decide) :
    Pe prog w A env s (.List es pos) (fun h v => Ls h ds v) := fun E s₁ ks =>
  wpAny_List_spliced (wpAny_mono (y E s₁ _ ks) (fun vs s₂ h => ⟨by rw [h.2.length]; exact line_of_lt hs, h.1.trans (KB.push s₂ _ _), fun h' l =>
    ⟨_, rfl, vs, 0, l _ _ (Heap.get?_push_size _ rfl), (h.2.le (Le.push _ _)).le l⟩⟩) fun _ _ z => z)

/-! ### items -/
theorem tup_of {h : Heap} {a : Addr} {items : Array Value} {n : Nat} (ho : h.get? a = some (tupObj items n)) : IsTup h a items := ⟨_, ho, rfl, n, rfl⟩
theorem lst_of {h : Heap} {a : Addr} {items : Array Value} {n : Nat} (ho : h.get? a = some (lstObj items n)) : h.IsList a items := ⟨_, ho, rfl, n, rfl⟩

theorem Pe.idx {e i : Expr} {pos : Pos} {ds : List Dt} {k : Int} {d : Dt} (x : Pe prog w A env s e (fun h v => Rd h (.tup ds) v)) (y : Pe prog w A env s i (fun h v => Rd h (.int k) v))
    (h0 : 0 ≤ k) (hk : ds[k.toNat]? = some d) (hs : ds.length < 100000)
    (hsub : ∀ a u, subscripted i false (.ref a) (.int k u) = operate [.ref a, .int k u] (getItem (.ref a) (.int k u)) := by intro _ _; with_unfolding_all rfl) :
    Pe prog w A env s (.Subscript e i pos) (fun h v => Rd h d v) := fun E s₁ ks =>
  Subscript_ (x.use ks fun v s₂ k₂ r => y.use (ks.trans k₂) fun u s₃ k₃ r₃ => by
    obtain ⟨a, items, n, rfl, ho, hr⟩ := Rd.tup_iff.mp (r _ k₃.le)
    obtain ⟨t, rfl⟩ := Rd.int_iff.mp (r₃ _ (Le.refl _))
    obtain ⟨v', hv', rv⟩ := hr.get hk
    have hlt : k.toNat < ds.length := (List.getElem?_eq_some_iff.mp hk).1
    exact item_tupleT (tup_of ho) (by omega) (by omega) (seqIndex_of h0 (by rw [hr.length]; omega)) hv' ⟨k₂.trans k₃, fun h' l => rv.le l⟩ (hsub _ _))
theorem Pe.lidx {e i : Expr} {pos : Pos} {ds : List Dt} {k : Int} {d : Dt} (x : Pe prog w A env s e (fun h v => Ls h ds v)) (y : Pe prog w A env s i (fun h v => Rd h (.int k) v))
    (h0 : 0 ≤ k) (hk : ds[k.toNat]? = some d) (hs : ds.length < 100000)
    (hsub : ∀ a u, subscripted i false (.ref a) (.int k u) = operate [.ref a, .int k u] (getItem (.ref a) (.int k u)) := by intro _ _; with_unfolding_all rfl) :
    Pe prog w A env s (.Subscript e i pos) (fun h v => Rd h d v) := fun E s₁ ks =>
  Subscript_ (x.use ks fun v s₂ k₂ r => y.use (ks.trans k₂) fun u s₃ k₃ r₃ => by
    obtain ⟨a, rfl, items, n, ho, hr⟩ := r _ k₃.le
    obtain ⟨t, rfl⟩ := Rd.int_iff.mp (r₃ _ (Le.refl _))
    obtain ⟨v', hv', rv⟩ := hr.get hk
    have hlt : k.toNat < ds.length := (List.getElem?_eq_some_iff.mp hk).1
    exact tail_any (lst_of ho).typeIs slot_list_getitem.lookup (wpAny_getItem_list (lst_of ho) h0 (by omega) (by simpa using hv') ⟨k₂.trans k₃, fun h' l => rv.le l⟩) (hsub _ _))

/-! ### numbers -/
theorem Pe.add {e i : Expr} {pos : Pos} {a b : Int} (x : Pe prog w A env s e (fun h v => Rd h (.int a) v)) (y : Pe prog w A env s i (fun h v => Rd h (.int b) v)) :
    Pe prog w A env s (.BinOp e .Add i pos) (fun h v => Rd h (.int (a + b)) v) := fun E s₁ ks =>
  wpAny_BinOp (x.use ks fun v s₂ k₂ r => y.use (ks.trans k₂) fun u s₃ k₃ r₃ => by
    obtain ⟨t, rfl⟩ := Rd.int_iff.mp (r _ k₃.le)
    obtain ⟨t', rfl⟩ := Rd.int_iff.mp (r₃ _ (Le.refl _))
    exact wpAny_add_int ⟨(k₂.trans k₃).toks _, fun _ _ => Rd.int _ _⟩)
theorem Pe.sub {e i : Expr} {pos : Pos} {a b : Int} (x : Pe prog w A env s e (fun h v => Rd h (.int a) v)) (y : Pe prog w A env s i (fun h v => Rd h (.int b) v)) :
    Pe prog w A env s (.BinOp e .Sub i pos) (fun h v => Rd h (.int (a - b)) v) := fun E s₁ ks =>
  wpAny_BinOp (x.use ks fun v s₂ k₂ r => y.use (ks.trans k₂) fun u s₃ k₃ r₃ => by
    obtain ⟨t, rfl⟩ := Rd.int_iff.mp (r _ k₃.le)
    obtain ⟨t', rfl⟩ := Rd.int_iff.mp (r₃ _ (Le.refl _))
    exact PyProof.Rows.sub_int ⟨(k₂.trans k₃).toks _, fun _ _ => Rd.int _ _⟩)
theorem Pe.mod {e i : Expr} {pos : Pos} {a b : Int} (x : Pe prog w A env s e (fun h v => Rd h (.int a) v)) (y : Pe prog w A env s i (fun h v => Rd h (.int b) v)) (hb : b ≠ 0) :
    Pe prog w A env s (.BinOp e .Mod i pos) (fun h v => Rd h (.int (a.fmod b)) v) := fun E s₁ ks =>
  wpAny_BinOp (x.use ks fun v s₂ k₂ r => y.use (ks.trans k₂) fun u s₃ k₃ r₃ => by
    obtain ⟨t, rfl⟩ := Rd.int_iff.mp (r _ k₃.le)
    obtain ⟨t', rfl⟩ := Rd.int_iff.mp (r₃ _ (Le.refl _))
    exact PyProof.Rows.mod_int hb ⟨(k₂.trans k₃).toks _, fun _ _ => Rd.int _ _⟩)

/-! ### comparisons -/
theorem Pe.cmpI {op : CmpOp} {e i : Expr} {pos : Pos} {a b : Int} {c : Bool} (x : Pe prog w A env s e (fun h v => Rd h (.int a) v)) (y : Pe prog w A env s i (fun h v => Rd h (.int b) v))
    (hop : ∀ (t u : Tok) (Q : Value → Shared → Prop) (s : Shared), Q (.bool c) s → wpAny (model prog w) A (compareOp op (.int a t) (.int b u)) Q (fun _ _ => False) s)
    (hm : behindInMarks op i = false := by with_unfolding_all rfl) :
    Pe prog w A env s (.Compare e [op] [i] pos) (fun h v => Rd h (.bool c) v) := fun E s₁ ks =>
  wpAny_Compare1 (x.use ks fun v s₂ k₂ r => y.use (ks.trans k₂) fun u s₃ k₃ r₃ => by
    obtain ⟨t, rfl⟩ := Rd.int_iff.mp (r _ k₃.le)
    obtain ⟨t', rfl⟩ := Rd.int_iff.mp (r₃ _ (Le.refl _))
    exact wpAny_mono (hop t t' (fun v s => v = .bool c ∧ s = s₃) s₃ ⟨rfl, rfl⟩) (fun v s h => by obtain ⟨rfl, rfl⟩ := h; exact ⟨k₂.trans k₃, fun _ _ => Rd.boolv _⟩) fun _ _ z => z.elim) hm
theorem Pe.gt {e i : Expr} {pos : Pos} {a b : Int} (x : Pe prog w A env s e (fun h v => Rd h (.int a) v)) (y : Pe prog w A env s i (fun h v => Rd h (.int b) v))
    (hm : behindInMarks .Gt i = false := by with_unfolding_all rfl) : Pe prog w A env s (.Compare e [.Gt] [i] pos) (fun h v => Rd h (.bool (decide (b < a))) v) :=
  x.cmpI y (fun _ _ _ _ h => PyProof.Rows.gt_int h) hm
theorem Pe.le_ {e i : Expr} {pos : Pos} {a b : Int} (x : Pe prog w A env s e (fun h v => Rd h (.int a) v)) (y : Pe prog w A env s i (fun h v => Rd h (.int b) v))
    (hm : behindInMarks .LtE i = false := by with_unfolding_all rfl) : Pe prog w A env s (.Compare e [.LtE] [i] pos) (fun h v => Rd h (.bool (decide (a ≤ b))) v) :=
  x.cmpI y (fun _ _ _ _ h => PyProof.Rows.le_int h) hm
theorem Pe.lt_ {e i : Expr} {pos : Pos} {a b : Int} (x : Pe prog w A env s e (fun h v => Rd h (.int a) v)) (y : Pe prog w A env s i (fun h v => Rd h (.int b) v))
    (hm : behindInMarks .Lt i = false := by with_unfolding_all rfl) : Pe prog w A env s (.Compare e [.Lt] [i] pos) (fun h v => Rd h (.bool (decide (a < b))) v) :=
  x.cmpI y (fun _ _ _ _ h => PyProof.Rows.lt_int h) hm
theorem Pe.eqi {e i : Expr} {pos : Pos} {a b : Int} (x : Pe prog w A env s e (fun h v => Rd h (.int a) v)) (y : Pe prog w A env s i (fun h v => Rd h (.int b) v))
    (hm : behindInMarks .Eq i = false := by with_unfolding_all rfl) : Pe prog w A env s (.Compare e [.Eq] [i] pos) (fun h v => Rd h (.bool (a == b)) v) :=
  x.cmpI y (fun _ _ _ _ h => PyProof.Rows.eq_int h) hm
end
end Mine
end


-- L4
section
set_option maxHeartbeats 2000000
namespace Mine

theorem all_getD (p q : Path) : ((List.range (min p.length q.length)).all (fun j => p.getD j 0 == q.getD j 0) && p.length == q.length) = decide (p = q) := by
  rw [Bool.eq_iff_iff]
  simp only [Bool.and_eq_true, List.all_eq_true, List.mem_range, beq_iff_eq, decide_eq_true_eq]
  constructor
  · rintro ⟨h, hl⟩
    refine List.ext_getElem hl fun i h1 h2 => ?_
    have := h i (by omega)
    simpa [List.getD_eq_getElem?_getD, h1, h2] using this
  · rintro rfl
    exact ⟨fun _ _ => rfl, rfl⟩

section
variable {prog : Program} {w : World} {A : Around} {env : Env} {s s₁ : Shared} {m : Str → Option Value} {E : Value → Shared → Prop} {n : Nat}

theorem ints_at {A : Around} {s : Shared} {xs ys : Array Value} {p q : Path} (x : IntsAre xs.toList p) (y : IntsAre ys.toList q) :
    ∀ j (h1 : j < xs.size) (h2 : j < ys.size), SeqAt.EqAt A s xs[j] ys[j] (p.getD j 0 == q.getD j 0) := by
  intro j h1 h2
  have l1 := x.length
  have l2 := y.length
  obtain ⟨t, e1⟩ := x.get j p[j]! (by rw [List.getElem!_eq_getElem?_getD]; rw [List.getElem?_eq_getElem (by rw [← l1]; simpa using h1)]; rfl)
  obtain ⟨u, e2⟩ := y.get j q[j]! (by rw [List.getElem!_eq_getElem?_getD]; rw [List.getElem?_eq_getElem (by rw [← l2]; simpa using h2)]; rfl)
  have a1 : xs[j] = .int p[j]! t := by
    have : xs.toList[j]? = some xs[j] := by simp
    rw [e1] at this; exact (Option.some.inj this).symm
  have a2 : ys[j] = .int q[j]! u := by
    have : ys.toList[j]? = some ys[j] := by simp
    rw [e2] at this; exact (Option.some.inj this).symm
  rw [a1, a2]
  have b1 : p.getD j 0 = p[j]! := by rw [List.getElem!_eq_getElem?_getD, List.getD_eq_getElem?_getD]; rfl
  have b2 : q.getD j 0 = q[j]! := by rw [List.getElem!_eq_getElem?_getD, List.getD_eq_getElem?_getD]; rfl
  rw [b1, b2]
  exact SeqAt.EqAt.int_int _ _ _ _

theorem isT {h : Heap} {a : Addr} {items : Array Value} {n : Nat} (ho : h.get? a = some (tupObj items n)) : h.IsTuple a items := ⟨_, ho, rfl, n, rfl⟩

theorem rc_eq {p q : Path} {v u : Value} {Q : Value → Shared → Prop} (hu : A.units < cLine) (x : Rd s.heap (pth p) v) (y : Rd s.heap (pth q) u) (h : Q (.bool (decide (p = q))) s) :
    wpAny (model prog w) A (compareOp .Eq v u) Q E s := by
  obtain ⟨a, xs, n, rfl, ho, hx⟩ := Rd.pth_iff.mp x
  obtain ⟨b, ys, n', rfl, ho', hy⟩ := Rd.pth_iff.mp y
  refine SeqAt.RcAt.tuples (isT ho) (isT ho') hu (ints_at hx hy) prog w E Q ?_
  have l1 := hx.length
  have l2 := hy.length
  simp only [Array.length_toList] at l1 l2
  rw [l1, l2, all_getD]; exact h
theorem rc_ne {p q : Path} {v u : Value} {Q : Value → Shared → Prop} (hu : A.units < cLine) (x : Rd s.heap (pth p) v) (y : Rd s.heap (pth q) u) (h : Q (.bool (!decide (p = q))) s) :
    wpAny (model prog w) A (compareOp .NotEq v u) Q E s := by
  obtain ⟨a, xs, n, rfl, ho, hx⟩ := Rd.pth_iff.mp x
  obtain ⟨b, ys, n', rfl, ho', hy⟩ := Rd.pth_iff.mp y
  refine SeqAt.RcNeAt.tuples (isT ho) (isT ho') hu (ints_at hx hy) prog w E Q ?_
  have l1 := hx.length
  have l2 := hy.length
  simp only [Array.length_toList] at l1 l2
  rw [l1, l2, all_getD]; exact h
theorem Pe.eqP {e i : Expr} {pos : Pos} {p q : Path} (hu : A.units < cLine) (x : Pe prog w A env s e (fun h v => Rd h (pth p) v)) (y : Pe prog w A env s i (fun h v => Rd h (pth q) v))
    (hm : behindInMarks .Eq i = false := by with_unfolding_all rfl) : Pe prog w A env s (.Compare e [.Eq] [i] pos) (fun h v => Rd h (.bool (decide (p = q))) v) := fun E s₁ ks =>
  wpAny_Compare1 (x.use ks fun v s₂ k₂ r => y.use (ks.trans k₂) fun u s₃ k₃ r₃ => rc_eq hu (r _ k₃.le) (r₃ _ (Le.refl _)) ⟨k₂.trans k₃, fun _ _ => Rd.boolv _⟩) hm
theorem Pe.neP {e i : Expr} {pos : Pos} {p q : Path} (hu : A.units < cLine) (x : Pe prog w A env s e (fun h v => Rd h (pth p) v)) (y : Pe prog w A env s i (fun h v => Rd h (pth q) v))
    (hm : behindInMarks .NotEq i = false := by with_unfolding_all rfl) : Pe prog w A env s (.Compare e [.NotEq] [i] pos) (fun h v => Rd h (.bool (!decide (p = q))) v) := fun E s₁ ks =>
  wpAny_Compare1 (x.use ks fun v s₂ k₂ r => y.use (ks.trans k₂) fun u s₃ k₃ r₃ => rc_ne hu (r _ k₃.le) (r₃ _ (Le.refl _)) ⟨k₂.trans k₃, fun _ _ => Rd.boolv _⟩) hm

/-! ### in -/
theorem ints_inj : ∀ {vs : List Value} {p q : Path}, IntsAre vs p → IntsAre vs q → p = q
  | _, _, _, .nil, y => by cases y; rfl
  | _, _, _, .cons i t x, y => by cases y with | cons _ _ y => rw [ints_inj x y]
theorem Rd.inj {h : Heap} {p q : Path} {v : Value} (x : Rd h (pth p) v) (y : Rd h (pth q) v) : p = q := by
  obtain ⟨a, xs, n, rfl, ho, hx⟩ := Rd.pth_iff.mp x
  obtain ⟨b, ys, n', e, ho', hy⟩ := Rd.pth_iff.mp y
  cases e
  rw [ho] at ho'
  cases ho'
  exact ints_inj hx hy
open Classical in
/-- whether a value reads as the path `p` -/
noncomputable def isP (h : Heap) (p : Path) (v : Value) : Bool := decide (Rd h (pth p) v)
theorem isP_of {h : Heap} {p q : Path} {v : Value} (x : Rd h (pth q) v) : isP h p v = decide (q = p) := by
  unfold isP
  rw [decide_eq_decide]
  exact ⟨fun y => x.inj y, fun e => e ▸ x⟩
theorem any_isP {h : Heap} (p : Path) : ∀ {ps : List Path} {vs : List Value}, RdL h (ps.map pth) vs → vs.any (isP h p) = decide (p ∈ ps)
  | [], _, x => by
    unfold RdL at x; simp only [List.map_nil] at x; subst x; simp
  | q :: ps, _, x => by
    rw [List.map_cons] at x; unfold RdL at x
    obtain ⟨v, r, rfl, x1, x2⟩ := x
    rw [List.any_cons, isP_of x1, any_isP p x2, Bool.eq_iff_iff]
    simp only [Bool.or_eq_true, decide_eq_true_eq, List.mem_cons]
    exact ⟨fun h => h.imp Eq.symm id, fun h => h.imp Eq.symm id⟩
theorem isP_at {A : Around} {s : Shared} {p : Path} {ps : List Path} {vs : List Value} {x : Value} (hu : A.units < cLine) (hx : Rd s.heap (pth p) x) (r : RdL s.heap (ps.map pth) vs) :
    ∀ y, y ∈ vs.toArray → SeqAt.EqAt A s y x (isP s.heap p y) := fun y hy => by
  obtain ⟨d, hd, hr⟩ := r.mem (by simpa using hy)
  obtain ⟨q, hq, rfl⟩ := List.mem_map.mp hd
  rw [isP_of hr]
  exact Rd.eqAt hu hr hx

theorem any_arr {α : Type} (vs : List α) (e : α → Bool) : vs.toArray.any e = vs.any e := by simp
theorem Pe.inT {op : CmpOp} {e c : Expr} {pos : Pos} {p : Path} {ps : List Path} (ok : AOk A n) (x : Pe prog w A env s e (fun h v => Rd h (pth p) v)) (y : Pe prog w A env s c (fun h v => Rd h (pths ps) v))
    (hop : op = .In ∨ op = .NotIn) (hm : behindInMarks op c = false := by with_unfolding_all rfl) :
    Pe prog w A env s (.Compare e [op] [c] pos) (fun h v => Rd h (.bool (if op = .In then decide (p ∈ ps) else !decide (p ∈ ps))) v) := fun E s₁ ks =>
  wpAny_Compare1 (x.use ks fun v s₂ k₂ r => y.use (ks.trans k₂) fun u s₃ k₃ r₃ => by
    obtain ⟨a, items, n', rfl, ho, hr⟩ := Rd.tup_iff.mp (r₃ _ (Le.refl _))
    have hx := r _ k₃.le
    have he := isP_at (A := A.in1) ok.u1 hx hr
    rcases hop with rfl | rfl
    · refine SeqAt.in_tupleAt _ (isT ho) he ⟨k₂.trans k₃, fun h' l => ?_⟩
      rw [any_arr, any_isP p hr]; exact Rd.boolv _
    · refine SeqAt.notIn_tupleAt _ (isT ho) he ⟨k₂.trans k₃, fun h' l => ?_⟩
      rw [any_arr, any_isP p hr]; exact Rd.boolv _) hm
theorem Pe.inL {op : CmpOp} {e c : Expr} {pos : Pos} {p : Path} {ps : List Path} (ok : AOk A n) (x : Pe prog w A env s e (fun h v => Rd h (pth p) v)) (y : Pe prog w A env s c (fun h v => Ls h (ps.map pth) v))
    (hop : op = .In ∨ op = .NotIn) (hm : behindInMarks op c = false := by with_unfolding_all rfl) :
    Pe prog w A env s (.Compare e [op] [c] pos) (fun h v => Rd h (.bool (if op = .In then decide (p ∈ ps) else !decide (p ∈ ps))) v) := fun E s₁ ks =>
  wpAny_Compare1 (x.use ks fun v s₂ k₂ r => y.use (ks.trans k₂) fun u s₃ k₃ r₃ => by
    obtain ⟨a, rfl, items, n', ho, hr⟩ := r₃ _ (Le.refl _)
    have hx := r _ k₃.le
    have he := isP_at (A := A.in1) ok.u1 hx hr
    rcases hop with rfl | rfl
    · refine SeqAt.in_listAt _ (lst_of ho) he ⟨k₂.trans k₃, fun h' l => ?_⟩
      rw [any_arr, any_isP p hr]; exact Rd.boolv _
    · refine SeqAt.notIn_listAt _ (lst_of ho) he ⟨k₂.trans k₃, fun h' l => ?_⟩
      rw [any_arr, any_isP p hr]; exact Rd.boolv _) hm

/-! ### slices of tuples -/
theorem head_cut (b n : Nat) : Builtin.Slice.sliceAdjust none (some (b : Int)) 1 n = (0, ((min b n : Nat) : Int)) := by
  have nb : ¬ (b : Int) < 0 := Int.not_lt.mpr (Int.natCast_nonneg b)
  simp [Builtin.Slice.sliceAdjust, nb]
  omega
theorem head_places (k : Nat) : Builtin.Slice.slicePlaces 0 k 1 = k := by
  cases k with
  | zero => rfl
  | succ k => simp [Builtin.Slice.slicePlaces]
theorem head_items (xs : Array Value) (k : Nat) : (List.range k).filterMap (fun (j : Nat) => xs[((0 : Int) + (j : Int) * 1).toNat]?) = xs.toList.take k := by
  induction k with
  | zero => simp
  | succ k ih =>
    rw [List.range_succ, List.filterMap_append, ih, List.take_add_one]
    simp [List.filterMap_cons]
    cases xs[k]? <;> rfl
theorem head_applied {sl : Addr} {b k : Nat} {u : Tok} {Q : Int × Int × Nat → Shared → Prop} (hs : s.heap.IsSliceOf sl .none (.int b u) .none) (h : Q (0, 1, min b k) s) :
    wpAny (model prog w) A (Builtin.Slice.sliceApplied (.ref sl) (pure (k : Int))) Q E s := by
  obtain ⟨o, ho, -, hd⟩ := hs
  have part : ∀ {α : Type} (i : Nat) (v : Value) (f : Value → Sem α) (Q' : α → Shared → Prop), (#[.none, .int b u, .none] : Array Value)[i]? = some v → wpAny (model prog w) A (f v) Q' E s → wpAny (model prog w) A (field (.ref sl) i >>= f) Q' E s :=
    fun i v f Q' e hf => wpAny_bind (wpAny_field ho hd e hf)
  simp only [Builtin.Slice.sliceApplied, Builtin.Slice.sliceFields, bind_assoc, pure_bind]
  refine part 0 _ _ _ rfl (part 1 _ _ _ rfl (part 2 _ _ _ rfl (wpAny_bind (slicePart_none ?_))))
  refine wpAny_ite_false (by rfl) (wpAny_bind (slicePart_none (wpAny_bind (slicePart_int ?_))))
  rw [Option.getD_none, head_cut]
  dsimp only
  rw [head_places]
  exact wpAny_pure h
/-- the whole tuple, or a new one -/
theorem head_of_tuple {t sl : Addr} {items : Array Value} {b k : Nat} {u : Tok} {Q : Value → Shared → Prop} (ht : s.heap.get? t = some (tupObj items k)) (hs : s.heap.IsSliceOf sl .none (.int b u) .none) (hfit : items.size ≤ sizeLine)
    (h : ∀ v s', KB [] s s' → (∃ a n', v = .ref a ∧ s'.heap.get? a = some (tupObj (items.toList.take b).toArray n')) → Q v s') : wpAny (model prog w) A (getItem (.ref t) (.ref sl)) Q E s := by
  have tT := (tup_of ht).typeIs
  have sT : s.TypeIs (.ref sl) "slice" := let ⟨o, ho, hc, _⟩ := hs; ⟨o, ho, hc⟩
  have hcut : items.toList.take (min b items.size) = items.toList.take b := by
    have := List.take_take (l := items.toList) (i := b) (j := items.size)
    rwa [List.take_of_length_le (l := items.toList) (i := items.size) (by simp), eq_comm] at this
  refine getItem_slot tT (by decide) slot_tuple_getitem (wpAny_call_entry slot_tuple_getitem tT entry_tuple_getitem ?_ (args_tuple_getitem _ _))
  unfold Builtin.«tuple.__getitem__»
  refine wpAny_bind (wpAny_pure ?_)
  dsimp only
  refine wpAny_bind (tupleItemsOf_ (tup_of ht) (wpAny_bind (wpAny_typeOf sT ?_)))
  refine wpAny_ite_true (by rfl) (wpAny_bind (head_applied hs ?_))
  dsimp only
  by_cases whole : items.size ≤ b
  · have e : (min b items.size == items.size) = true := by rw [Nat.min_eq_right whole]; exact beq_self_eq_true _
    refine wpAny_ite_true (by rw [e]; rfl) (wpAny_bind (wpAny_bind (wpAny_typeOf tT (wpAny_pure (wpAny_ite_true (by rfl) (wpAny_bind (wpAny_rule ?_)))))))
    refine wpAny_pure ⟨_, rfl, h _ _ (KB.refl _ _) ⟨t, k, rfl, ?_⟩⟩
    rw [List.take_of_length_le (by simpa using whole)]; exact ht
  · have e : (min b items.size == items.size) = false := by rw [Nat.min_eq_left (by omega)]; exact beq_false_of_ne (by omega)
    refine wpAny_ite_false (by rw [e]; rfl) ?_
    rw [head_items, hcut]
    have fits : sizeOk (.seq (items.toList.take b).toArray) := Nat.le_trans (by simp; omega) hfit
    exact wpAny_bind (wpAny_newObj_type (wpAny_pure ⟨_, rfl, h _ _ (KB.push s _ s.toks) ⟨_, 0, rfl, Heap.get?_push_size _ rfl⟩⟩) fits)

theorem Pe.sliceFrom {e i : Expr} {p pos : Pos} {ds : List Dt} {a : Int} (x : Pe prog w A env s e (fun h v => Rd h (.tup ds) v)) (y : Pe prog w A env s i (fun h v => Rd h (.int a) v))
    (h1 : 1 ≤ a) (ha : a ≤ ds.length) (hs : ds.length < 100000) :
    Pe prog w A env s (.Subscript e (.Slice (some i) none none p) pos) (fun h v => Rd h (.tup (ds.drop a.toNat)) v) := fun E s₁ ks =>
  Subscript_ (x.use ks fun v s₂ k₂ r => wpAny_Slice (wpAny_evalPart_some (y.use (ks.trans k₂) fun u s₃ k₃ r₃ => wpAny_evalPart_none (wpAny_evalPart_none (by
    obtain ⟨t, items, n, rfl, ho, hr⟩ := Rd.tup_iff.mp (r _ k₃.le)
    obtain ⟨tk, rfl⟩ := Rd.int_iff.mp (r₃ _ (Le.refl _))
    obtain ⟨k, rfl⟩ : ∃ k : Nat, a = k := ⟨a.toNat, by omega⟩
    have hlen := hr.length
    have ho' : (s₃.heap.push { cls := .type "slice", data := .fields #[.int k tk, .none, .none] }).get? t = some (tupObj items.toArray n) := Heap.get?_push_of_some _ ho
    refine tail_any (T := "tuple") (s := { s₃ with heap := s₃.heap.push { cls := .type "slice", data := .fields #[.int k tk, .none, .none] } }) (tup_of ho').typeIs slot_tuple_getitem.lookup
      (getItem_tuple_from (a := k) (u := tk) (tup_of ho') (Heap.IsSliceOf.new ..) (by omega) (by simp; omega) ?_ (by simp; exact line_of_lt (by omega))) rfl
    refine ⟨(k₂.trans k₃).trans ((KB.push s₃ _ s₃.toks).trans (KB.push _ _ _)), fun h' l => Rd.tup_iff.mpr ⟨_, items.drop k, 0, rfl, l _ _ ?_, ((hr.drop k).le ((Le.push _ _).trans (Le.push _ _))).le l⟩⟩
    have := Heap.get?_push_size (s₃.heap.push { cls := .type "slice", data := .fields #[.int k tk, .none, .none] }) (o := tupObj (items.drop k).toArray 0) rfl
    simpa using this)))))
theorem Pe.sliceUpto {e i : Expr} {p pos : Pos} {ds : List Dt} {b : Int} (x : Pe prog w A env s e (fun h v => Rd h (.tup ds) v)) (y : Pe prog w A env s i (fun h v => Rd h (.int b) v))
    (h1 : 0 ≤ b) (hs : ds.length < 100000) :
    Pe prog w A env s (.Subscript e (.Slice none (some i) none p) pos) (fun h v => Rd h (.tup (ds.take b.toNat)) v) := fun E s₁ ks =>
  Subscript_ (x.use ks fun v s₂ k₂ r => wpAny_Slice (wpAny_evalPart_none (wpAny_evalPart_some (y.use (ks.trans k₂) fun u s₃ k₃ r₃ => wpAny_evalPart_none (by
    obtain ⟨t, items, n, rfl, ho, hr⟩ := Rd.tup_iff.mp (r _ k₃.le)
    obtain ⟨tk, rfl⟩ := Rd.int_iff.mp (r₃ _ (Le.refl _))
    obtain ⟨k, rfl⟩ : ∃ k : Nat, b = k := ⟨b.toNat, by omega⟩
    have hlen := hr.length
    have ho' : (s₃.heap.push { cls := .type "slice", data := .fields #[.none, .int k tk, .none] }).get? t = some (tupObj items.toArray n) := Heap.get?_push_of_some _ ho
    refine tail_any (T := "tuple") (s := { s₃ with heap := s₃.heap.push { cls := .type "slice", data := .fields #[.none, .int k tk, .none] } }) (tup_of ho').typeIs slot_tuple_getitem.lookup
      (head_of_tuple (b := k) (u := tk) ho' (Heap.IsSliceOf.new ..) (by simp; exact line_of_lt (by omega)) fun v s' k' hv => ?_) rfl
    obtain ⟨a', n', rfl, hv'⟩ := hv
    exact ⟨((k₂.trans k₃).trans (KB.push s₃ _ s₃.toks)).trans k', fun h' l => Rd.tup_iff.mpr ⟨_, items.take k, n', rfl, l _ _ hv', ((((hr.take k).le (Le.push _ _)).le k'.le)).le l⟩⟩)))))
end
end Mine
end


-- L5
section
set_option maxHeartbeats 2000000
namespace Mine

/-! ### the problem -/
abbrev Prob := List (Int × List Path)
def PrL (h : Heap) : Prob → List (Int × Value) → Prop
  | [], kvs => kvs = []
  | x :: P, kvs => ∃ v r, kvs = (x.1, v) :: r ∧ Rd h (pths x.2) v ∧ PrL h P r
def ofNode (P : Prob) (x : Int) : List Path := (P.lookup x).getD []
def PrAt (prog : Program) (w : World) (h : Heap) (P : Prob) (v : Value) : Prop :=
  ∃ d kvs, v = .ref d ∧ (d == sysModules) = false ∧ h.DictOf (intKind prog w) d kvs ∧ PrL h P kvs
theorem PrL.le {h h' : Heap} (k : Le h h') : ∀ {P : Prob} {kvs : List (Int × Value)}, PrL h P kvs → PrL h' P kvs
  | [], _, x => x
  | p :: P, _, x => by
    obtain ⟨v, r, e, x1, x2⟩ := x
    exact ⟨v, r, e, x1.le k, PrL.le k x2⟩
theorem PrAt.le {prog : Program} {w : World} {h h' : Heap} {P : Prob} {v : Value} (x : PrAt prog w h P v) (k : Le h h') : PrAt prog w h' P v := by
  obtain ⟨d, kvs, e, hs, hd, hp⟩ := x
  exact ⟨d, kvs, e, hs, hd.keep k, hp.le k⟩
theorem PrL.keys {h : Heap} : ∀ {P : Prob} {kvs : List (Int × Value)}, PrL h P kvs → kvs.map (·.1) = P.map (·.1)
  | [], _, x => by cases x; rfl
  | p :: P, _, x => by
    obtain ⟨v, r, rfl, _, x2⟩ := x
    simp [PrL.keys x2]
theorem PrL.at_ {h : Heap} {k : Int} : ∀ {P : Prob} {kvs : List (Int × Value)}, PrL h P kvs →
    match P.lookup k with
    | some ps => ∃ v, valueAt kvs k = some v ∧ Rd h (pths ps) v
    | none => valueAt kvs k = none
  | [], _, x => by cases x; rfl
  | p :: P, _, x => by
    obtain ⟨v, r, rfl, x1, x2⟩ := x
    have ih := PrL.at_ (k := k) x2
    rw [List.lookup_cons]
    by_cases hk : k = p.1
    · subst hk
      simp only [beq_self_eq_true]
      exact ⟨v, by simp [valueAt], x1⟩
    · have h1 : (k == p.1) = false := by simpa using hk
      have h2 : ¬ (p.1 = k) := fun e => hk e.symm
      simp only [h1]
      have : valueAt ((p.1, v) :: r) k = valueAt r k := by simp [valueAt, h2]
      rw [this]; exact ih

section
variable {prog : Program} {w : World} {A : Around} {env : Env} {s s₁ : Shared} {m : Str → Option Value} {E : Value → Shared → Prop} {n : Nat}

theorem Pe.dget {e i : Expr} {pos : Pos} {P : Prob} {k : Int} {ps : List Path} (x : Pe prog w A env s e (fun h v => PrAt prog w h P v)) (y : Pe prog w A env s i (fun h v => Rd h (.int k) v))
    (hk : P.lookup k = some ps)
    (hsub : ∀ a u, subscripted i false (.ref a) (.int k u) = operate [.ref a, .int k u] (getItem (.ref a) (.int k u)) := by intro _ _; with_unfolding_all rfl) :
    Pe prog w A env s (.Subscript e i pos) (fun h v => Rd h (pths ps) v) := fun E s₁ ks =>
  Subscript_ (x.use ks fun v s₂ k₂ r => y.use (ks.trans k₂) fun u s₃ k₃ r₃ => by
    obtain ⟨d, kvs, rfl, hs, hd, hp⟩ := r _ k₃.le
    obtain ⟨t, rfl⟩ := Rd.int_iff.mp (r₃ _ (Le.refl _))
    have := hp.at_ (k := k)
    rw [hk] at this
    obtain ⟨v', hv', rv⟩ := this
    exact tail_any hd.typeIs slot_dict_getitem.lookup (wpAny_getItem_of (knd := intKind prog w) (intKind_is prog w k t) hd.mapOf hv' ⟨(k₂.trans k₃).toks _, fun h' l => rv.le l⟩) (hsub _ _))

theorem dict_noDict {h : Heap} {d : Addr} {kvs : List (Int × Value)} (hd : h.DictOf (intKind prog w) d kvs) : ∀ a, Value.ref d = .ref a → ∃ ob, h.get? a = some ob ∧ ob.dict = none := by
  intro a e
  cases e
  obtain ⟨o, es, ep, ho, hx, _⟩ := hd
  exact ⟨o, ho, hx.2.1⟩

/-- `problem.get(i, ())` -/
theorem Pe.get2 {e i : Expr} {tp pos apos : Pos} {tk : Nat} {P : Prob} {k : Int} (x : Pe prog w A env s e (fun h v => PrAt prog w h P v)) (y : Pe prog w A env s i (fun h v => Rd h (.int k) v))
    (hbase : attributeBase e "get" env (eval e env) = eval e env := by with_unfolding_all rfl) (hline : (apos.endLine == pos.line) = true := by with_unfolding_all rfl)
    (htrees : backTo pos (starEach [i, .Tuple [] tk tp] env) = [(false, eval i env), (false, eval (.Tuple [] tk tp) env)] := by with_unfolding_all rfl) :
    Pe prog w A env s (.Call (.Attribute e "get" apos) [i, .Tuple [] tk tp] [] pos) (fun h v => Rd h (pths (ofNode P k)) v) := fun E s₁ ks =>
  wpAny_Call_method2_late hbase hline htrees (x.use ks fun v s₂ k₂ r => by
    obtain ⟨d, kvs, rfl, hs, hd, hp⟩ := r _ (Le.refl _)
    refine ⟨"dict", "dict.get", PySem.F.plainAttrs_dict, PySem.F.slot_dict_get, PySem.F.type_dict_get, hd.typeIs, dict_noDict hd, ?_⟩
    refine wpAny_dict_get2 (knd := intKind prog w) hs (y.use (ks.trans k₂) fun u s₃ k₃ r₃ => (Pe.tuple (PeL.nil (s := s)) (by decide)).use ((ks.trans k₂).trans k₃) fun dv s₄ k₄ r₄ => ?_)
    obtain ⟨t, rfl⟩ := Rd.int_iff.mp (r₃ _ k₄.le)
    have hd' := (hd.keep k₃.le).keep k₄.le
    have hp' := (hp.le k₃.le).le k₄.le
    refine ⟨k, _, intKind_is prog w k t, hd'.mapOf, ((k₂.trans k₃).trans k₄).toks _, fun h' l => ?_⟩
    have := hp'.at_ (k := k)
    unfold ofNode
    cases hk : P.lookup k with
    | none =>
      rw [hk] at this
      rw [this]
      exact r₄ _ l
    | some ps =>
      rw [hk] at this
      obtain ⟨v', hv', rv⟩ := this
      rw [hv']
      exact rv.le l)

/-! ### calls -/
def PeA (prog : Program) (w : World) (A : Around) (env : Env) (s : Shared) (es : List Expr) (R : Heap → List Value → Prop) : Prop :=
  ∀ (E : Value → Shared → Prop) (s₁ : Shared) (pos : Pos), KB [] s s₁ → wpAny (model prog w) A (spliced (backTo pos (starEach es env))) (fun vs s₂ => KB [] s₁ s₂ ∧ ∀ h', Le s₂.heap h' → R h' vs) E s₁
theorem PeA.one {e : Expr} {R : Heap → Value → Prop} (x : Pe prog w A env s e R) (he : starEach [e] env = (false, eval e env) :: starEach [] env := by rfl) :
    PeA prog w A env s [e] (fun h vs => ∃ v, vs = [v] ∧ R h v) := fun E s₁ pos k =>
  args_cons (x.use k fun v s₂ k₂ r => args_nil ⟨k₂, fun h' l => ⟨v, rfl, r _ l⟩⟩) he
theorem PeA.two {e f : Expr} {R S : Heap → Value → Prop} (x : Pe prog w A env s e R) (y : Pe prog w A env s f S) (he : starEach [e, f] env = (false, eval e env) :: starEach [f] env := by rfl)
    (hf : starEach [f] env = (false, eval f env) :: starEach [] env := by rfl) :
    PeA prog w A env s [e, f] (fun h vs => ∃ v u, vs = [v, u] ∧ R h v ∧ S h u) := fun E s₁ pos k =>
  args_cons (x.use k fun v s₂ k₂ r => args_cons (y.use (k.trans k₂) fun u s₃ k₃ r₃ => args_nil ⟨k₂.trans k₃, fun h' l => ⟨v, u, rfl, r _ (k₃.le.trans l), r₃ _ l⟩⟩) hf) he

/-- a call of one of the text's defs -/
theorem Pe.callDef {f : Str} {np pos : Pos} {e : Expr} {rest : List Expr} {fa : Addr} {o : Obj} {fd : FuncData} {Ra : Heap → List Value → Prop} {R : Heap → Value → Prop}
    (V : View env m s) (G : GG w s.heap) (hl : env.kindOf f = some .globalImplicit) (hn : nsIn (KK w) mainGlobals f = some (some (.ref fa))) (ho : (KK w).lookup fa = some o) (hdat : o.data = .func fd)
    (ar : PeA prog w A env s (e :: rest) Ra)
    (spec : ∀ (E : Value → Shared → Prop) (s₁ : Shared) (vs : List Value), KB [] s s₁ → Ra s₁.heap vs → wpAny (model prog w) A (call (.ref fa) vs) (fun v s₂ => KB [] s₁ s₂ ∧ ∀ h', Le s₂.heap h' → R h' v) E s₁)
    (hd : (f == ("__debug__" : Str)) = false := by decide)
    (he : starEach (e :: rest) env = (false, eval e env) :: starEach rest env := by rfl) :
    Pe prog w A env s (.Call (.Name f np) (e :: rest) [] pos) R := fun E s₁ ks =>
  Call_ ((V.le ks.le).global_ (G.le ks.le) hl hn (callWith_def hdat (wpAny_mono (ar E s₁ pos ks) (fun vs s₂ h => ⟨(G.le ks.le |>.le h.1.le).1 _ _ ho, wpAny_mono (spec E s₂ vs (ks.trans h.1) (h.2 _ (Le.refl _)))
    (fun v s₃ h₃ => ⟨h.1.trans h₃.1, h₃.2⟩) fun _ _ z => z⟩) fun _ _ z => z) he) hd)
/-- a call of a builtin function -/
theorem Pe.callB {f : Str} {id : String} {np pos : Pos} {e : Expr} {rest : List Expr} {Ra : Heap → List Value → Prop} {R : Heap → Value → Prop}
    (V : View env m s) (G : GG w s.heap) (hl : env.kindOf f = some .globalImplicit) (hn : nsIn (KK w) mainGlobals f = some none) (hb : bootBuiltins f = some (.builtin id)) (hnn : f ≠ "__name__")
    (ar : PeA prog w A env s (e :: rest) Ra)
    (spec : ∀ (E : Value → Shared → Prop) (s₁ : Shared) (vs : List Value), KB [] s s₁ → Ra s₁.heap vs → wpAny (model prog w) A (call (.builtin id) vs) (fun v s₂ => KB [] s₁ s₂ ∧ ∀ h', Le s₂.heap h' → R h' v) E s₁)
    (hd : (f == ("__debug__" : Str)) = false := by decide)
    (he : starEach (e :: rest) env = (false, eval e env) :: starEach rest env := by rfl) (hplain : (backTo pos (starEach rest env)).any (·.1) = false := by rfl) :
    Pe prog w A env s (.Call (.Name f np) (e :: rest) [] pos) R := fun E s₁ ks =>
  Call_ ((V.le ks.le).builtin_ (G.le ks.le) hl hn hb hnn (PyProof.Rows.callWith_builtin1 (wpAny_mono (ar E s₁ pos ks) (fun vs s₂ h => wpAny_mono (spec E s₂ vs (ks.trans h.1) (h.2 _ (Le.refl _)))
    (fun v s₃ h₃ => ⟨h.1.trans h₃.1, h₃.2⟩) fun _ _ z => z) fun _ _ z => z) he hplain) hd)
/-- a call of a built-in class -/
theorem Pe.callT {f : Str} {T : String} {np pos : Pos} {e : Expr} {rest : List Expr} {Ra : Heap → List Value → Prop} {R : Heap → Value → Prop}
    (V : View env m s) (G : GG w s.heap) (hl : env.kindOf f = some .globalImplicit) (hn : nsIn (KK w) mainGlobals f = some none) (hb : bootBuiltins f = some (.type T)) (hnn : f ≠ "__name__")
    (ar : PeA prog w A env s (e :: rest) Ra)
    (spec : ∀ (E : Value → Shared → Prop) (s₁ : Shared) (vs : List Value), KB [] s s₁ → Ra s₁.heap vs → wpAny (model prog w) A (call (.type T) vs) (fun v s₂ => KB [] s₁ s₂ ∧ ∀ h', Le s₂.heap h' → R h' v) E s₁)
    (hd : (f == ("__debug__" : Str)) = false := by decide)
    (he : starEach (e :: rest) env = (false, eval e env) :: starEach rest env := by rfl) (hplain : (backTo pos (starEach rest env)).any (·.1) = false := by rfl) :
    Pe prog w A env s (.Call (.Name f np) (e :: rest) [] pos) R := fun E s₁ ks =>
  Call_ ((V.le ks.le).builtin_ (G.le ks.le) hl hn hb hnn (PyProof.Rows.callWith_type1 (wpAny_mono (ar E s₁ pos ks) (fun vs s₂ h => wpAny_mono (spec E s₂ vs (ks.trans h.1) (h.2 _ (Le.refl _)))
    (fun v s₃ h₃ => ⟨h.1.trans h₃.1, h₃.2⟩) fun _ _ z => z) fun _ _ z => z) he hplain) hd)
end
end Mine
end


-- L6
section
set_option maxHeartbeats 2000000
namespace Mine
section
variable {prog : Program} {w : World} {A : Around} {env : Env} {s s₁ : Shared} {m : Str → Option Value} {E : Value → Shared → Prop} {n : Nat}

theorem spec_len_tup {a : Addr} {items : List Value} {k : Nat} (ho : s.heap.get? a = some (tupObj items.toArray k)) (hs : items.length < 100000) :
    wpAny (model prog w) A (call (.builtin "len") [.ref a]) (fun v s₂ => KB [] s s₂ ∧ ∀ h', Le s₂.heap h' → Rd h' (.int items.length) v) E s :=
  PyProof.Rows.len_tuple (tup_of ho) (by simp; omega) ⟨(KB.refl _ _).toks _, fun _ _ => by simpa using Rd.int _ _⟩
theorem spec_len_lst {a : Addr} {items : List Value} {k : Nat} (ho : s.heap.get? a = some (lstObj items.toArray k)) (hs : items.length < 100000) :
    wpAny (model prog w) A (call (.builtin "len") [.ref a]) (fun v s₂ => KB [] s s₂ ∧ ∀ h', Le s₂.heap h' → Rd h' (.int items.length) v) E s :=
  PySem.Calls.call_len_list (lst_of ho) (by simp; omega) ⟨(KB.refl _ _).toks _, fun _ _ => by simpa using Rd.int _ _⟩

theorem bl (w : World) : nsIn (KK w) mainGlobals "len" = some none := by rfl

theorem Pe.lenT {np pos : Pos} {e : Expr} {ds : List Dt} (V : View env m s) (G : GG w s.heap) (hl : env.kindOf "len" = some .globalImplicit) (x : Pe prog w A env s e (fun h v => Rd h (.tup ds) v)) (hs : ds.length < 100000)
    (he : starEach [e] env = (false, eval e env) :: starEach [] env := by rfl) :
    Pe prog w A env s (.Call (.Name "len" np) [e] [] pos) (fun h v => Rd h (.int ds.length) v) :=
  Pe.callB V G hl (bl w) (by boot_by_name) (by decide) (PeA.one x he) (fun E s₁ vs k hv => by
    obtain ⟨v, rfl, r⟩ := hv
    obtain ⟨a, items, n, rfl, ho, hr⟩ := Rd.tup_iff.mp r
    have := hr.length
    rw [← this]
    exact spec_len_tup ho (by omega)) (he := he)
theorem Pe.lenL {np pos : Pos} {e : Expr} {ds : List Dt} (V : View env m s) (G : GG w s.heap) (hl : env.kindOf "len" = some .globalImplicit) (x : Pe prog w A env s e (fun h v => Ls h ds v)) (hs : ds.length < 100000)
    (he : starEach [e] env = (false, eval e env) :: starEach [] env := by rfl) :
    Pe prog w A env s (.Call (.Name "len" np) [e] [] pos) (fun h v => Rd h (.int ds.length) v) :=
  Pe.callB V G hl (bl w) (by boot_by_name) (by decide) (PeA.one x he) (fun E s₁ vs k hv => by
    obtain ⟨v, rfl, a, rfl, items, n, ho, hr⟩ := hv
    have := hr.length
    rw [← this]
    exact spec_len_lst ho (by omega)) (he := he)

/-! ### list(..), .index -/
theorem blist (w : World) : nsIn (KK w) mainGlobals "list" = some none := by rfl
theorem Pe.listOf {np pos : Pos} {e : Expr} {ds : List Dt} (V : View env m s) (G : GG w s.heap) (hl : env.kindOf "list" = some .globalImplicit) (x : Pe prog w A env s e (fun h v => Rd h (.tup ds) v)) (hs : ds.length < 100000)
    (he : starEach [e] env = (false, eval e env) :: starEach [] env := by rfl) :
    Pe prog w A env s (.Call (.Name "list" np) [e] [] pos) (fun h v => Ls h ds v) :=
  Pe.callT V G hl (blist w) (by boot_by_name) (by decide) (PeA.one x he) (fun E s₁ vs k hv => by
    obtain ⟨v, rfl, r⟩ := hv
    obtain ⟨a, items, n, rfl, ho, hr⟩ := Rd.tup_iff.mp r
    have := hr.length
    exact call_list_seq a (.inr rfl) ho rfl rfl (fun h' c' k' hn => ⟨KB.of_le k', fun h'' l => ⟨_, rfl, items, c', l _ _ hn, (hr.le k').le l⟩⟩) (by simp; exact line_of_lt (by omega))) (he := he)

/-- `<list of paths>.index(p)`: its first place -/
theorem Pe.index {e i : Expr} {pos apos : Pos} {ps : List Path} {p : Path} (ok : AOk A n) (x : Pe prog w A env s e (fun h v => Ls h (ps.map pth) v)) (y : Pe prog w A env s i (fun h v => Rd h (pth p) v))
    (hp : p ∈ ps) (hs : ps.length < 100000)
    (hbase : attributeBase e "index" env (eval e env) = eval e env := by with_unfolding_all rfl) (hline : (apos.endLine == pos.line) = true := by with_unfolding_all rfl)
    (htrees : backTo pos (starEach [i] env) = [(false, eval i env)] := by with_unfolding_all rfl) :
    Pe prog w A env s (.Call (.Attribute e "index" apos) [i] [] pos) (fun h v => Rd h (.int (ps.idxOf p)) v) := fun E s₁ ks =>
  wpAny_Call_method1_late hbase hline htrees (x.use ks fun v s₂ k₂ r => by
    obtain ⟨a, rfl, items, n', ho, hr⟩ := r _ (Le.refl _)
    refine ⟨"list", "list.index", PySem.F.plainAttrs_list, PySem.F.slot_list_index, PySem.F.type_list_index, (lst_of ho).typeIs, fun b e' => by cases e'; exact ⟨_, ho, rfl⟩, ?_⟩
    refine seqMethod1_meets PySem.F.slot_list_index PySem.F.entry_list_index (y.use (ks.trans k₂) fun u s₃ k₃ r₃ => ?_)
    have ho' := k₃.le _ _ ho
    have hr' := hr.le k₃.le
    have hx := r₃ _ (Le.refl _)
    have hlen := hr'.length
    rw [List.length_map] at hlen
    have hj : ps.idxOf p < ps.length := List.idxOf_lt_length_iff.mpr hp
    have at_ : ∀ j (h1 : j < items.toArray.size), isP s₃.heap p items.toArray[j] = decide (ps[j]'(by simpa [hlen] using h1) = p) := fun j h1 => by
      have h1' : j < items.length := by simpa using h1
      obtain ⟨d, hd, rd⟩ := hr'.get' (i := j) (v := items[j]) (List.getElem?_eq_getElem h1')
      rw [List.getElem?_map, List.getElem?_eq_getElem (by omega)] at hd
      simp only [Option.map_some, Option.some.injEq] at hd
      subst hd
      simpa using isP_of rd
    refine ⟨(lst_of ho').typeIs, PySem.F.args_list_index_2 _ _, _, SeqAt.list_indexAt a items.toArray n' none #[] u (isP s₃.heap p) (ps.idxOf p) (by simp; omega) (by omega) ?_ ?_, ho', ?_, (k₂.trans k₃).toks _, fun h' l => Rd.int _ _⟩
    · rw [at_ _ (by simp; omega)]; simp
    · intro k hk hlt
      rw [at_ k hk]
      simp only [decide_eq_false_iff_not]
      intro e'
      have h2 : k < ps.length := by simp at hk; omega
      have := List.not_of_lt_findIdx (p := (· == p)) (xs := ps) (i := k) hlt
      exact absurd e' (by simpa using this)
    · exact isP_at (A := A.in1) ok.u1 hx hr')

/-! ### sorted -/
theorem sorted_gen {v : Value} {ns : List Int} (h64 : ns.length < 64) (hc : ∀ (E : Value → Shared → Prop) (Q : List Value → Shared → Prop), (∀ vs s', KB [] s s' → IntsAre vs ns → Q vs s') → wpAny (model prog w) A.in1 (collect v) Q E s)
    {Q : Value → Shared → Prop} (h : ∀ (l : Addr) (s' : Shared) (ns' : List Int), KB [] s s' → LT s'.heap l (ns'.map .int) → ns'.Perm ns → ns'.Pairwise (· ≤ ·) → Q (.ref l) s') : wpAny (model prog w) A (call (.builtin "sorted") [v]) Q E s := by
  refine Calls.call_function_entry kind_sorted plain_sorted entry_sorted (args_sorted1 _) ?_
  unfold Builtin.«sorted»
  refine wpAny_bind (m := checkCount "sorted" 1 1 _) (wpAny_pure ?_)
  refine wpAny_bind (hc _ _ fun vs s' k hI => ?_)
  have hlen := hI.length
  refine wpAny_bind (wpAny_newList ?_ (line_of_lt (by omega)))
  have hoL : (s'.heap.push (seqObj "list" vs.toArray 0)).get? s'.heap.objs.size = some (seqObj "list" vs.toArray 0) := Heap.get?_push_size _ rfl
  refine wpAny_bind (wpAny_holding (wpAny_call_entry slot_list_sort ⟨_, hoL, rfl⟩ entry_list_sort (list_sort_tree (s := { s' with heap := s'.heap.push (seqObj "list" vs.toArray 0) }) hoL hI (by omega) fun out ns' a1 a2 a3 => ⟨_, rfl, ?_⟩) (args_list_sort _)))
  refine wpAny_pure ⟨_, rfl, h _ _ ns' ?_ ?_ a2 a3⟩
  · refine k.trans (KB.of_le fun b o e => ?_)
    have hb : s'.heap.objs.size ≠ b := fun e' => Nat.lt_irrefl _ (e' ▸ Heap.lt_size e)
    unfold sortedHeap
    rw [Heap.get?_update_other _ _ hb]
    refine Heap.get?_push_of_some _ (Heap.get?_push_of_some _ ?_)
    rw [Heap.get?_update_other _ _ hb]
    exact Heap.get?_push_of_some _ e
  · obtain ⟨e1, ho1⟩ : ∃ e1, ((s'.heap.push (seqObj "list" vs.toArray 0)).update s'.heap.objs.size (Obj.mapSeq fun _ => #[])).get? s'.heap.objs.size = some (seqObj "list" #[] e1) := ⟨_, get?_update_seq hoL (fun _ => #[])⟩
    have ho2 := get?_update_seq (Heap.get?_push_of_some (seqObj "list" #[] 0) (Heap.get?_push_of_some (seqObj "tuple" vs.toArray 0) ho1)) (fun _ => out)
    exact ⟨out.toList, _, ho2, RdL.of_ints a1⟩

theorem perm_sorted : ∀ {a b : List Int}, a.Perm b → a.Pairwise (· ≤ ·) → b.Pairwise (· ≤ ·) → a = b :=
  fun p h1 h2 => p.eq_of_pairwise (fun _ _ _ _ x y => Int.le_antisymm x y) h1 h2

theorem ints_of_items : ∀ {vs : List Value} {ks : List Int}, vs.length = ks.length → (∀ (j : Nat) (v : Value), vs[j]? = some v → ∃ (k : Int) (t : Tok), ks[j]? = some k ∧ v = .int k t) → IntsAre vs ks
  | [], [], _, _ => .nil
  | v :: vs, k :: ks, hl, h => by
    obtain ⟨k', t, e, rfl⟩ := h 0 v rfl
    simp at e; subst e
    exact .cons k t (ints_of_items (by simpa using hl) fun j u hu => h (j + 1) u hu)
  | [], _ :: _, hl, _ => by simp at hl
  | _ :: _, [], hl, _ => by simp at hl

theorem bsorted (w : World) : nsIn (KK w) mainGlobals "sorted" = some none := by rfl
/-- `sorted(problem)` -/
theorem Pe.sortedD {np pos : Pos} {e : Expr} {P : Prob} (ok : AOk A n) (V : View env m s) (G : GG w s.heap) (hl : env.kindOf "sorted" = some .globalImplicit) (x : Pe prog w A env s e (fun h v => PrAt prog w h P v))
    (hs : (P.map (·.1)).Pairwise (· ≤ ·)) (h64 : P.length < 64)
    (he : starEach [e] env = (false, eval e env) :: starEach [] env := by rfl) :
    Pe prog w A env s (.Call (.Name "sorted" np) [e] [] pos) (fun h v => Ls h (P.map fun x => .int x.1) v) :=
  Pe.callB V G hl (bsorted w) (by boot_by_name) (by decide) (PeA.one x he) (fun E s₁ vs k hv => by
    obtain ⟨v, rfl, d, kvs, rfl, hds, hd, hp⟩ := hv
    have hkeys := hp.keys
    have hlen : kvs.length = P.length := by rw [← List.length_map (f := (·.1)) (as := kvs), hkeys, List.length_map]
    obtain ⟨ep, hat⟩ := hd.dictAt
    refine sorted_gen (ns := P.map (·.1)) (by simpa using h64) (fun E Q hQ => kdu_collect (kdl_dict (knd := intKind prog w) hds) ok.handled hat (line_of_lt (by omega)) fun h' tk acc k' hacc => hQ _ _ (KB.of_le k') ?_)
      fun l s' ns' k' hlt hperm hsort => ⟨k', fun h' l' => ⟨l, rfl, ?_⟩⟩
    · rw [← hkeys]
      refine ints_of_items (by rw [Array.length_toList, hacc.1, List.length_map]) fun j u hu => ?_
      obtain ⟨k0, x0, hx, hk0⟩ := hacc.2 j u (by simpa using hu)
      obtain ⟨t, rfl⟩ := Value.isInt_shape hk0
      exact ⟨k0, t, by rw [List.getElem?_map, hx]; rfl, rfl⟩
    · rw [perm_sorted hperm hsort hs, List.map_map] at hlt
      exact hlt.le l') (he := he)
/-- `sorted(path)`: some list of as many ints -/
theorem Pe.sortedP {np pos : Pos} {e : Expr} {p : Path} (ok : AOk A n) (V : View env m s) (G : GG w s.heap) (hl : env.kindOf "sorted" = some .globalImplicit) (x : Pe prog w A env s e (fun h v => Rd h (pth p) v)) (h64 : p.length < 64)
    (he : starEach [e] env = (false, eval e env) :: starEach [] env := by rfl) :
    Pe prog w A env s (.Call (.Name "sorted" np) [e] [] pos) (fun h v => ∃ q : List Int, q.length = p.length ∧ Ls h (q.map .int) v) :=
  Pe.callB V G hl (bsorted w) (by boot_by_name) (by decide) (PeA.one x he) (fun E s₁ vs k hv => by
    obtain ⟨v, rfl, r⟩ := hv
    obtain ⟨a, items, n', rfl, ho, hr⟩ := Rd.pth_iff.mp r
    refine sorted_gen (ns := p) h64 (fun E Q hQ => wpAny_collect_seq a (.inr rfl) ho rfl rfl (fun h' k' => hQ _ _ (KB.of_le (tk := s₁.toks) k') hr) (by have := hr.length; simp at this; exact line_of_lt (by omega)))
      fun l s' ns' k' hlt hperm hsort => ⟨k', fun h' l' => ⟨ns', hperm.length_eq, l, rfl, hlt.le l'⟩⟩) (he := he)

/-! ### max, min, abs, tuple(..) -/
theorem bmax (w : World) : nsIn (KK w) mainGlobals "max" = some none := by rfl
theorem bmin (w : World) : nsIn (KK w) mainGlobals "min" = some none := by rfl
theorem babs (w : World) : nsIn (KK w) mainGlobals "abs" = some none := by rfl
theorem btuple (w : World) : nsIn (KK w) mainGlobals "tuple" = some none := by rfl
theorem bint (w : World) : nsIn (KK w) mainGlobals "int" = some none := by rfl
theorem bdict (w : World) : nsIn (KK w) mainGlobals "dict" = some none := by rfl
theorem brange (w : World) : nsIn (KK w) mainGlobals "range" = some none := by rfl
theorem benum (w : World) : nsIn (KK w) mainGlobals "enumerate" = some none := by rfl
/-- `max(<list of ints>)`, not empty: an int -/
theorem Pe.maxL {np pos : Pos} {e : Expr} (ok : AOk A n) (V : View env m s) (G : GG w s.heap) (hl : env.kindOf "max" = some .globalImplicit)
    (x : Pe prog w A env s e (fun h v => ∃ q : List Int, 0 < q.length ∧ Ls h (q.map .int) v))
    (he : starEach [e] env = (false, eval e env) :: starEach [] env := by rfl) :
    Pe prog w A env s (.Call (.Name "max" np) [e] [] pos) (fun h v => ∃ i : Int, Rd h (.int i) v) :=
  Pe.callB V G hl (bmax w) (by boot_by_name) (by decide) (PeA.one x he) (fun E s₁ vs k hv => by
    obtain ⟨v, rfl, q, hq, a, rfl, items, n', ho, hr⟩ := hv
    have hi := hr.ints
    obtain ⟨xs, e⟩ := hi.allInts.items
    have hlen := hi.length
    have hsz : 0 < xs.size := by
      have h3 := congrArg Array.size e
      simp [intItems] at h3; omega
    refine max_intList ok.handled (xs := xs) (by rw [← e]; exact lst_of ho) hsz fun v h' tk hv hk => ?_
    obtain ⟨t, rfl⟩ := intItems_at hv
    exact ⟨KB.of_le hk, fun _ _ => ⟨_, Rd.int _ _⟩⟩) (he := he)
end
end Mine
end


-- L7
section
set_option maxHeartbeats 2000000
set_option autoImplicit false
namespace Mine

def upd (m : Str → Option Value) (x : Str) (v : Value) : Str → Option Value := fun y => if y = x then some v else m y
theorem upd_self {m : Str → Option Value} {x : Str} {v : Value} : upd m x v x = some v := by simp [upd]
theorem upd_ne {m : Str → Option Value} {x y : Str} {v : Value} (h : y ≠ x) : upd m x v y = m y := by simp [upd, h]

/-- the addresses that a frame's stores touch -/
def mutA (env : Env) : List Addr := env.locals :: env.cells.map (·.2)

/-- the frame of a def, called at `s₀` -/
structure Frm (s₀ : Shared) (env : Env) (m : Str → Option Value) (s : Shared) : Prop where
  kb : KB [] s₀ s
  view : View env m s
  new : ∀ a ∈ mutA env, s₀.heap.get? a = none
  off : ∀ x c, env.cells.lookup x = some c → c ≠ env.locals
  has : ∀ a ∈ mutA env, (s.heap.get? a).isSome = true
  inj : ∀ x y c, env.cells.lookup x = some c → env.cells.lookup y = some c → x = y

section
variable {prog : Program} {w : World} {M : Model} {A : Around} {env : Env} {s₀ s s₁ s' : Shared} {m : Str → Option Value} {E : Value → Shared → Prop} {n : Nat}

theorem Frm.le (F : Frm s₀ env m s) (k : KB [] s s₁) : Frm s₀ env m s₁ := ⟨F.kb.trans k, F.view.le k.le, F.new, F.off, fun a ha => by obtain ⟨o, ho⟩ := Option.isSome_iff_exists.mp (F.has a ha); rw [k.le _ _ ho]; rfl, F.inj⟩
theorem mem_mut_cell {x : Str} {c : Addr} (h : env.cells.lookup x = some c) : c ∈ mutA env := List.mem_cons_of_mem _ (List.mem_map_of_mem (mem_of_lookup h))
/-- a state that differs from an earlier one of the same call at the frame's own objects and at newer ones alone still keeps what stood before the call -/
theorem Frm.kb_mut {X : List Addr} (F : Frm s₀ env m s) (k : KB X s s') (hX : ∀ a ∈ X, s₀.heap.get? a = none) : KB [] s₀ s' := by
  refine ⟨(F.kb.of_nil X |>.trans k).same, fun b o _ e => k.keep b o (fun hb => ?_) (F.kb.le b o e), fun b i n e => k.tup b i n (F.kb.tup b i n e)⟩
  rw [hX b hb] at e; cases e

theorem Frm.storeL {x : Str} {v : Value} {Q : Unit → Shared → Prop} (F : Frm s₀ env m s) (hl : env.kindOf x = some .local) (hc : env.cells.lookup x = none)
    (h : ∀ s', Frm s₀ env (upd m x v) s' → KB [env.locals] s s' → Q () s') : wpAny M A (storeName env x v) Q E s := by
  obtain ⟨ml, hn, he⟩ := F.view.ns
  obtain ⟨oL, es, ep, hoL, hdL, _⟩ := id hn
  refine wpAny_storeName_local hl hn (fun h' hn' hs' => ?_) (by rw [F.view.kind]; rfl)
  have k : KB [env.locals] s { s with heap := h', toks := s.toks + 1 } := KB.one hoL (fun i n e => by rw [e] at hdL; cases hdL) hs'
  refine h _ ⟨F.kb_mut k (fun a ha => F.new a (by simp at ha; subst ha; exact List.mem_cons_self)), ⟨F.view.kind, F.view.globals, F.view.builtins, ⟨_, hn', fun y u hy hu => ?_⟩, fun y c hy => ?_⟩, F.new, F.off, fun a ha => ?_, F.inj⟩ k
  · unfold upd at hu; by_cases hyx : y = x
    · simpa [hyx] using hu
    · simp only [hyx, if_false] at hu ⊢; exact he y u hy hu
  · have hyx : y ≠ x := by rintro rfl; rw [hc] at hy; cases hy
    rw [upd_ne hyx]
    obtain ⟨v₀, hv₀, e⟩ := F.view.cell y c hy
    exact ⟨v₀, hv₀.sameBut hs' (F.off y c hy), e⟩
  · by_cases haL : a = env.locals
    · obtain ⟨o, es', ep', ho, _⟩ := hn'
      show (h'.get? a).isSome = true
      rw [haL, ho]; rfl
    · show (h'.get? a).isSome = true
      rw [hs'.2 a haL]; exact F.has a ha
theorem Frm.storeC {x : Str} {v : Value} {c : Addr} {Q : Unit → Shared → Prop} (F : Frm s₀ env m s) (hl : env.kindOf x = some .cell) (hc : env.cells.lookup x = some c)
    (h : ∀ s', Frm s₀ env (upd m x v) s' → KB [c] s s' → Q () s') : wpAny M A (storeName env x v) Q E s := by
  obtain ⟨v₀, ⟨oc, hoc, hdc⟩, _⟩ := F.view.cell x c hc
  refine wpAny_storeName_cell F.view.kind hl hc ⟨oc, hoc, hdc⟩ fun h' hv' hs' => ?_
  have k : KB [c] s { s with heap := h', toks := s.toks } := KB.one hoc (fun i n e => by rw [e] at hdc; cases hdc) hs'
  obtain ⟨ml, hn, he⟩ := F.view.ns
  refine h _ ⟨F.kb_mut k (fun a ha => F.new a (by simp at ha; subst ha; exact mem_mut_cell hc)), ⟨F.view.kind, F.view.globals, F.view.builtins, ⟨ml, hn.sameBut hs' (Ne.symm (F.off x c hc)), fun y u hy hu => ?_⟩, fun y c' hy => ?_⟩, F.new, F.off, fun a ha => ?_, F.inj⟩ k
  · have hyx : y ≠ x := by rintro rfl; rw [hl] at hy; cases hy
    rw [upd_ne hyx] at hu; exact he y u hy hu
  · by_cases hyx : y = x
    · subst hyx
      rw [hc] at hy; cases hy
      rw [upd_self]; exact ⟨_, hv', fun u e => e⟩
    · rw [upd_ne hyx]
      obtain ⟨v₁, hv₁, e⟩ := F.view.cell y c' hy
      exact ⟨v₁, hv₁.sameBut hs' (fun e => hyx (F.inj y x c' hy (e.symm ▸ hc))), e⟩
  · by_cases hac : a = c
    · obtain ⟨o, ho, _⟩ := hv'
      show (h'.get? a).isSome = true
      rw [hac, ho]; rfl
    · show (h'.get? a).isSome = true
      rw [hs'.2 a hac]; exact F.has a ha

/-- entering a def of the text -/
theorem enter {fa : Addr} {o : Obj} {fd : FuncData} {body : List Stmt} {vals : List Value} {binds : List (Str × Value)} {R : Heap → Value → Prop}
    (G : GG w s.heap) (ho : (KK w).lookup fa = some o) (hdat : o.data = .func fd) (hbody : fd.body = .stmts body) (ok : AOk A (n + 1)) (hcd : codeIn (KK w) fd.code fd.qualname = true)
    (hbind : bindArgs fd ⟨vals, []⟩ = pure binds) (hclo : fd.closure = [])
    (hkind : ∀ x ∈ binds, fd.scope.names.lookup x.1 = some .local ∨ (fd.scope.names.lookup x.1 = some .cell ∧ ((cellsFrom (s.heap.objs.size + 1) fd.scope.names []).lookup x.1).isSome = true))
    (hgl : fd.globals = mainGlobals) (hbu : fd.builtins = builtinsNs)
    (hdis : ∀ L, ((callEnvC fd L fa).cells.all fun p => (callEnvC fd L fa).kindOf p.1 != some .local) = true)
    (hnd' : decide (((cellsFrom 0 fd.scope.names []).map (·.1)).Nodup) = true)
    (hm : ∀ L, ∀ p ∈ binds, (if (callEnvC fd L fa).kindOf p.1 = some .local then bindL (callEnvC fd L fa).kindOf binds (fun _ => none) p.1 else bindC (callEnvC fd L fa).kindOf binds (fun _ => none) p.1) = some p.2)
    (h : ∀ L s₁ A' E' m, AOk A' n → Frm s (callEnvC fd L fa) m s₁ → (∀ p ∈ binds, m p.1 = some p.2) →
      wpAny (model prog w) A' (execs body (callEnvC fd L fa)) (fun f s' => KB [] s s' ∧ ∀ h', Le s'.heap h' → R h' (match f with | .ret v => v | _ => .none)) E' s₁)
    (hco : fd.scope.isCoroutine = false := by rfl) (hgen : fd.scope.isGenerator = false := by rfl) (hk : fd.scope.kind = .function := by rfl) :
    wpAny (model prog w) A (call (.ref fa) vals) (fun v s' => KB [] s s' ∧ ∀ h', Le s'.heap h' → R h' v) E s := by
  have hnd := of_decide_eq_true hnd'
  have hlim : s.heap.NoLimit := let ⟨_, _, _, _, _, T⟩ := G; T.nolimit
  refine wpAny_call (codeAny_call_cells ok.room (G.1 _ _ ho) hdat hlim (codeRec_of G.1 hcd) hbody hbind hclo hkind (fun s₁ x => ?_) hco hgen hk)
  have hcell : ∀ y c, (callEnvC fd s.heap.objs.size fa).cells.lookup y = some c → s.heap.get? c = none ∧ c ≠ (callEnvC fd s.heap.objs.size fa).locals := fun y c hy => by
    have hlt := x.above y c (mem_of_lookup hy)
    have hfr := x.toInCall.fresh
    refine ⟨?_, Nat.ne_of_gt hlt⟩
    cases e : s.heap.get? c with
    | none => rfl
    | some o => exact absurd (Heap.lt_size e) (Nat.not_lt.mpr (Nat.le_of_lt (Nat.lt_of_le_of_lt hfr hlt)))
  have F : Frm s (callEnvC fd s.heap.objs.size fa) (fun x => if (callEnvC fd s.heap.objs.size fa).kindOf x = some .local then bindL (callEnvC fd s.heap.objs.size fa).kindOf binds (fun _ => none) x else bindC (callEnvC fd s.heap.objs.size fa).kindOf binds (fun _ => none) x) s₁ := by
    refine ⟨?_, ⟨hk, hgl, hbu, ⟨_, x.toInCall.ns, fun y v hy hv => by rw [if_pos hy] at hv; exact hv⟩, fun y c hy => ?_⟩, fun a ha => ?_, fun y c hy => (hcell y c hy).2, fun a ha => ?_, fun y z c hy hz => ?_⟩
    · obtain ⟨h', tk, rfl⟩ := x.toInCall.same
      exact KB.of_le x.toInCall.keep
    · have := List.all_eq_true.mp (hdis s.heap.objs.size) _ (mem_of_lookup hy)
      rw [if_neg (by simpa using this)]
      exact ⟨_, x.cell y c hy, fun v e => e⟩
    · rcases List.mem_cons.mp ha with rfl | ha
      · cases e : s.heap.get? (callEnvC fd s.heap.objs.size fa).locals with
        | none => rfl
        | some o => exact absurd (Heap.lt_size e) (Nat.not_lt.mpr x.toInCall.fresh)
      · obtain ⟨p, hp, rfl⟩ := List.mem_map.mp ha
        have hlt := x.above p.1 p.2 hp
        cases e : s.heap.get? p.2 with
        | none => rfl
        | some o => exact absurd (Heap.lt_size e) (Nat.not_lt.mpr (Nat.le_of_lt (Nat.lt_of_le_of_lt x.toInCall.fresh hlt)))
    · rcases List.mem_cons.mp ha with rfl | ha
      · obtain ⟨o, es', ep', ho, _⟩ := x.toInCall.ns
        rw [ho]; rfl
      · obtain ⟨p, hp, rfl⟩ := List.mem_map.mp ha
        have hlk : (callEnvC fd s.heap.objs.size fa).cells.lookup p.1 = some p.2 := lookup_of_mem_nodup (cellsFrom_names fd.scope.names 0 (s.heap.objs.size + 1) [] [] rfl ▸ hnd) hp
        obtain ⟨o, ho, _⟩ := x.cell p.1 p.2 hlk
        rw [ho]; rfl
    · exact name_of_addr x.apart (mem_of_lookup hy) (mem_of_lookup hz)
  exact wpAny_mono (h _ _ _ _ _ ok.deeper F (hm _)) (fun f s' hf => hf) fun _ _ z => z
end
end Mine
end


-- L8
section
set_option maxHeartbeats 2000000
set_option autoImplicit false
namespace Mine
section
variable {prog : Program} {w : World} {A : Around} {env : Env} {s₀ s s₁ s' : Shared} {m : Str → Option Value} {E : Value → Shared → Prop} {n : Nat}

/-! ### tests -/
def Pt (prog : Program) (w : World) (A : Around) (env : Env) (s : Shared) (e : Expr) (b : Bool) : Prop :=
  ∀ (E : Value → Shared → Prop) (s₁ : Shared), KB [] s s₁ → wpAny (model prog w) A (isTrue e env (eval e env)) (fun r s₂ => r = b ∧ KB [] s₁ s₂) E s₁
theorem isTrue_cmp {M : Model} {l r : Expr} {op : CmpOp} {pos : Pos} {whole : Sem Value} {Q : Bool → Shared → Prop}
    (h : wpAny M A (eval (.Compare l [op] [r] pos) env) (fun v s₁ => wpAny M A (truthy v) Q E s₁) E s) : wpAny M A (isTrue (.Compare l [op] [r] pos) env whole) Q E s := by
  have e : isTrue (.Compare l [op] [r] pos) env whole = (eval (.Compare l [op] [r] pos) env >>= fun c => holding [c] (truthy c)) := by
    rw [isTrue_Compare1, eval_Compare1]
    simp only [bind_assoc]
  rw [e]
  exact wpAny_bind (wpAny_mono h (fun v s₁ h₁ => wpAny_holding h₁) fun _ _ z => z)
theorem Pt.cmp {l r : Expr} {op : CmpOp} {pos : Pos} {b : Bool} (x : Pe prog w A env s (.Compare l [op] [r] pos) (fun h v => Rd h (.bool b) v)) : Pt prog w A env s (.Compare l [op] [r] pos) b :=
  fun E s₁ k => isTrue_cmp (x.use k fun v s₂ k₂ r => by
    obtain rfl := Rd.bool_iff.mp (r _ (Le.refl _))
    exact wpAny_truthy_bool ⟨rfl, k₂⟩)
theorem Pt.val {e : Expr} {b : Bool} (x : Pe prog w A env s e (fun h v => Rd h (.bool b) v))
    (he : isTrue e env (eval e env) = (do let v ← eval e env; standAt e.pos; holding [v] (truthy v)) := by rfl) : Pt prog w A env s e b :=
  fun E s₁ k => isTrue_plain (x.use k fun v s₂ k₂ r => by
    obtain rfl := Rd.bool_iff.mp (r _ (Le.refl _))
    exact wpAny_truthy_bool ⟨rfl, k₂⟩) he
theorem Pt.not {e : Expr} {pos : Pos} {b : Bool} (x : Pt prog w A env s e b) : Pt prog w A env s (.UnaryOp .Not e pos) (!b) :=
  fun E s₁ k => PyProof.Rows.isTrue_not (wpAny_mono (x E s₁ k) (fun r s₂ h => ⟨by rw [h.1], h.2⟩) fun _ _ z => z)
theorem Pt.or_nil {pos : Pos} : Pt prog w A env s (.BoolOp .Or [] pos) false := fun E s₁ k => PyProof.Rows.isTrue_or_nil ⟨rfl, KB.refl _ _⟩
theorem Pt.or_cons {e : Expr} {r : List Expr} {pos : Pos} {a b : Bool} (x : Pt prog w A env s e a) (y : a = false → Pt prog w A env s (.BoolOp .Or r pos) b) :
    Pt prog w A env s (.BoolOp .Or (e :: r) pos) (a || b) := fun E s₁ k => PyProof.Rows.isTrue_or (wpAny_mono (x E s₁ k) (fun c s₂ h => by
    obtain ⟨rfl, k₂⟩ := h
    cases c with
    | true => exact ⟨rfl, k₂⟩
    | false => exact wpAny_mono ((y rfl) E s₂ (k.trans k₂)) (fun c s₃ h => ⟨by rw [h.1]; rfl, k₂.trans h.2⟩) fun _ _ z => z) fun _ _ z => z)
theorem Pt.and_nil {pos : Pos} : Pt prog w A env s (.BoolOp .And [] pos) true := fun E s₁ k => PyProof.Rows.isTrue_and_nil ⟨rfl, KB.refl _ _⟩
theorem Pt.and_cons {e : Expr} {r : List Expr} {pos : Pos} {a b : Bool} (x : Pt prog w A env s e a) (y : a = true → Pt prog w A env s (.BoolOp .And r pos) b) :
    Pt prog w A env s (.BoolOp .And (e :: r) pos) (a && b) := fun E s₁ k => PyProof.Rows.isTrue_and (wpAny_mono (x E s₁ k) (fun c s₂ h => by
    obtain ⟨rfl, k₂⟩ := h
    cases c with
    | false => exact ⟨rfl, k₂⟩
    | true => exact wpAny_mono ((y rfl) E s₂ (k.trans k₂)) (fun c s₃ h => ⟨by rw [h.1]; rfl, k₂.trans h.2⟩) fun _ _ z => z) fun _ _ z => z)

/-! ### statements -/
theorem S.ite {test : Expr} {body orelse : List Stmt} {pos : Pos} {b : Bool} {Q : Flow → Shared → Prop} (t : Pt prog w A env s test b)
    (h : ∀ s₂, KB [] s s₂ → if b then wpAny (model prog w) A (execs body env) Q E s₂ else wpAny (model prog w) A (execs orelse env) Q E s₂) :
    wpAny (model prog w) A (exec (.If test body orelse pos) env) Q E s :=
  wpAny_If (wpAny_mono (t E s (KB.refl _ _)) (fun r s₂ hr => by obtain ⟨rfl, k⟩ := hr; exact h s₂ k) fun _ _ z => z)
theorem S.ret {e : Expr} {pos : Pos} {R : Heap → Value → Prop} {Q : Flow → Shared → Prop} (x : Pe prog w A env s e R) (h : ∀ v s₂, KB [] s s₂ → (∀ h', Le s₂.heap h' → R h' v) → Q (.ret v) s₂) :
    wpAny (model prog w) A (exec (.Return (some e) pos) env) Q E s := wpAny_Return_some (x.use (KB.refl _ _) h)
theorem S.assign {y : Str} {e : Expr} {p pos : Pos} {R : Heap → Value → Prop} {Q : Flow → Shared → Prop} (x : Pe prog w A env s e R)
    (h : ∀ v s₂, KB [] s s₂ → (∀ h', Le s₂.heap h' → R h' v) → wpAny (model prog w) A (storeName env y v) (fun _ => Q .next) E s₂)
    (hs : swapsWith e (some (.Name y p)) pos.line env = pure false := by rfl) : wpAny (model prog w) A (exec (.Assign [.Name y p] e pos) env) Q E s :=
  wpAny_Assign_Name (x.use (KB.refl _ _) h) hs

/-! ### what a loop goes over -/
/-- an iterator at `I`, its own mutable objects `wr`, what it leans on `fp`; its `i`-th item is a value of which `P i` holds -/
structure It (prog : Program) (w : World) (A : Around) (tg : Expr) (I : Addr) (wr fp : List Addr) (n : Nat) (P : Nat → Heap → Value → Prop) (St : Nat → Heap → Prop) : Prop where
  frame : ∀ i h h', St i h → (∀ b ∈ fp, ∀ o, h.get? b = some o → h'.get? b = some o) → KT h h' → St i h'
  next : ∀ i (s : Shared) (Q : Value → Shared → Prop) (E : Value → Shared → Prop), i < n → St i s.heap → (∀ v s', St (i + 1) s'.heap → KB wr s s' → P i s'.heap v → Q v s') →
    wpAny (model prog w) A (pyNext (.ref I)) (fun r s₁ => match r with | none => False | some v => wpAny (model prog w) A (letOwnedTupleGo tg (.ref I) v) (fun _ s₂ => Q v s₂) E s₁) E s
  done : ∀ (s : Shared) (Q : Shared → Prop) (E : Value → Shared → Prop), St n s.heap → (∀ s', KB wr s s' → Q s') → wpAny (model prog w) A (pyNext (.ref I)) (fun r s₁ => r = none ∧ Q s₁) E s
  self : ∀ i (s : Shared) (Q : Value → Shared → Prop) (E : Value → Shared → Prop), St i s.heap → Q (.ref I) s → wpAny (model prog w) A (pyIter (.ref I)) Q E s

/-- an expression that a loop may go over; `src`: the mutable objects that it leans on -/
def PeI (prog : Program) (w : World) (A : Around) (env : Env) (s : Shared) (tg : Expr) (e : Expr) (src : Addr → Prop) (n : Nat) (P : Nat → Heap → Value → Prop) : Prop :=
  ∀ (E : Value → Shared → Prop) (s₁ : Shared), KB [] s s₁ → wpAny (model prog w) A (eval e env) (fun x s₂ => wpAny (model prog w) A (pyIter x) (fun it s₃ => KB [] s₁ s₃ ∧
    ∃ I wr fp St, it = .ref I ∧ It prog w A tg I wr fp n P St ∧ St 0 s₃.heap ∧ (∀ a ∈ wr, s₁.heap.get? a = none) ∧ (∀ a ∈ wr, (s₃.heap.get? a).isSome = true) ∧ (∀ a ∈ fp, s₁.heap.get? a = none ∨ src a) ∧ (∀ a ∈ fp, (s₃.heap.get? a).isSome = true)) E s₂) E s₁

theorem S.for_ {target iter : Expr} {body : List Stmt} {pos : Pos} {src : Addr → Prop} {P : Nat → Heap → Value → Prop} {Q : Flow → Shared → Prop} (hi : PeI prog w A env s target iter src n P)
    (J : Nat → Shared → Prop) (X : List Addr) (hX : ∀ a ∈ X, (s.heap.get? a).isSome = true) (hsrc : ∀ a, src a → a ∉ X) (h0 : J 0 s)
    (hst : ∀ i s₁ s₂ wr, (∀ a ∈ wr, s.heap.get? a = none) → J i s₁ → KB wr s₁ s₂ → J i s₂)
    (turn : ∀ i s₁ v, i < n → J i s₁ → P i s₁.heap v → ∀ E' : Value → Shared → Prop, wpAny (model prog w) A (PySem.assign target env v) (fun _ s₂ => wpAny (model prog w) A (execs body env) (fun f s₃ => match f with
      | .next | .cont => J (i + 1) s₃ ∧ KB X s₁ s₃
      | .brk => False
      | .ret u => Q (.ret u) s₃) E' s₂) E' s₁)
    (fin : ∀ s₁, J n s₁ → Q .next s₁)
    (hs : ∀ x, foldedSetIterable iter env x = pure x := by intro _; rfl) : wpAny (model prog w) A (exec (.For target iter body [] pos) env) Q E s := by
  refine wpAny_For (wpAny_mono (hi E s (KB.refl _ _)) (fun x s₁ h₁ => wpAny_mono h₁ (fun it s₂ h₂ => ?_) fun _ _ z => z) fun _ _ z => z) hs
  obtain ⟨k₂, I, wr, fp, St, rfl, T, st, hwr, hwr', hfp, _⟩ := h₂
  have hfX : ∀ b ∈ fp, b ∉ X := fun b hb hbX => by
    rcases hfp b hb with e | e
    · have := hX b hbX; rw [e] at this; cases this
    · exact hsrc b e hbX
  refine codeAny_forLoop_any (fun k s' => ∃ i, i ≤ n ∧ k = n - i ∧ J i s' ∧ St i s'.heap) ?_ n ⟨0, Nat.zero_le _, rfl, hst 0 s s₂ [] (by simp) h0 k₂, st⟩
  rintro k s' ⟨i, hi, rfl, hJ, hSt⟩
  rcases Nat.lt_or_ge i n with hlt | hge
  · refine wpAny_mono (T.next i s' (fun v s₂' => J i s₂' ∧ St (i + 1) s₂'.heap ∧ P i s₂'.heap v) _ hlt hSt fun v s₂' st' k' hP => ⟨hst i _ _ _ hwr hJ k', st', hP⟩) (fun r s₁' h₁' => ?_) fun _ _ z => z
    cases r with
    | none => exact h₁'.elim
    | some v =>
      refine wpAny_mono h₁' (fun _ s₂' h₂' => ?_) fun _ _ z => z
      obtain ⟨hJ', st', hP⟩ := h₂'
      refine wpAny_mono (turn i s₂' v hlt hJ' hP _) (fun _ s₃ h₃ => wpAny_mono h₃ (fun f s₄ h₄ => ?_) fun _ _ z => z) fun _ _ z => z
      have nx : J (i + 1) s₄ ∧ KB X s₂' s₄ → ∃ m, m < n - i ∧ ∃ i', i' ≤ n ∧ m = n - i' ∧ J i' s₄ ∧ St i' s₄.heap := fun h =>
        ⟨n - (i + 1), by omega, i + 1, hlt, rfl, h.1, T.frame _ _ _ st' (fun b hb o e => h.2.keep b o (hfX b hb) e) h.2.kt⟩
      cases f with
      | next => exact nx h₄
      | cont => exact nx h₄
      | brk => exact h₄.elim
      | ret u => exact h₄
  · have hin : i = n := Nat.le_antisymm hi hge
    subst hin
    refine wpAny_mono (T.done s' (fun s₁' => J i s₁') _ hSt fun s₁' k' => hst i _ _ _ hwr hJ k') (fun r s₁' h₁' => ?_) fun _ _ z => z
    obtain ⟨rfl, hJ'⟩ := h₁'
    exact wpAny_execs_nil (fin _ hJ')

/-! ### the sources -/
/-- the iterators that hand out no tuple of their own -/
def plainIters : List String := ["list_iterator", "tuple_iterator", "range_iterator", "dict_keyiterator"]
theorem goNone {target : Expr} {I : Addr} {v : Value} {o : Obj} {Q : Unit → Shared → Prop} (ho : s.heap.get? I = some o) {T : String} (hc : o.cls = .type T) (hT : T ∈ plainIters) (h : Q () s) :
    wpAny (model prog w) A (letOwnedTupleGo target (.ref I) v) Q E s := by
  have done := wpAny_pure (M := model prog w) (A := A) (E := E) h
  obtain ⟨cls, dct, dat, sl⟩ := o
  obtain rfl : cls = .type T := hc
  unfold letOwnedTupleGo
  split
  case h_3 => exact done
  all_goals
    cases v
    case ref a =>
      refine wpAny_bind (wpAny_load ho ?_)
      cases dat
      case fields vs =>
        refine wpAny_ite_false ?_ done
        simp only [plainIters, List.mem_cons, List.not_mem_nil, or_false] at hT
        rcases hT with rfl | rfl | rfl | rfl <;> rfl
      all_goals exact done
    all_goals exact done

theorem KB.ext {h' : Heap} {I : Addr} {o : Obj} {tk : Nat} (ho : s.heap.get? I = some o) (hn : ∀ i n, o ≠ tupObj i n) (k : Heap.ExtBut I s.heap h') : KB [I] s { s with heap := h', toks := tk } :=
  ⟨⟨_, _, rfl⟩, fun b o' hb e => k b o' (by simpa using hb) e, fun b i n e => k b _ (by rintro rfl; rw [ho] at e; exact hn i n (Option.some.inj e)) e⟩

theorem It.tup {tg : Expr} {I a : Addr} {items : List Value} {k : Nat} {ds : List Dt} (hh : A.handled = none) (hl : items.length = ds.length) :
    It prog w A tg I [I] [I] ds.length (fun i h v => ∃ d, ds[i]? = some d ∧ Rd h d v) (fun i h => IsTupIter h I a i ∧ h.get? a = some (tupObj items.toArray k) ∧ RdL h ds items) where
  frame := fun i h h' st hk kt => by
    obtain ⟨⟨o, ho, r⟩, hA, hr⟩ := st
    exact ⟨⟨o, hk I (by simp) o ho, r⟩, kt _ _ _ hA, RdL.kt kt _ _ hr⟩
  next := fun i s Q E hi st h => by
    obtain ⟨hI, hA, hr⟩ := st
    obtain ⟨d, hd⟩ : ∃ d, ds[i]? = some d := ⟨ds[i], List.getElem?_eq_getElem hi⟩
    obtain ⟨v, hv, rv⟩ := hr.get hd
    obtain ⟨oI, hoI, hcI, hdI⟩ := id hI
    refine next_tuple_item hI (tup_of hA) (by simpa using hv) fun h' hI' hs' => ?_
    have kb : KB [I] s { s with heap := h', toks := s.toks } := KB.one hoI (fun i n e => by rw [e] at hdI; cases hdI) hs'
    obtain ⟨oI', hoI', hcI', hdI'⟩ := id hI'
    exact goNone hoI' hcI' (by decide) (h v _ ⟨hI', kb.kt _ _ _ hA, hr.kb kb⟩ kb ⟨d, hd, rv.kb kb⟩)
  done := fun s Q E st h => by
    obtain ⟨hI, hA, hr⟩ := st
    obtain ⟨oI, hoI, hcI, hdI⟩ := id hI
    exact next_tuple_end hh hI (tup_of hA) (by simp [hl]) fun h' he => ⟨rfl, h _ (KB.ext hoI (fun i n e => by rw [e] at hdI; cases hdI) he)⟩
  self := fun i s Q E st h => wpAny_pyIter_tupleiter st.1 h
theorem It.lst {tg : Expr} {I a : Addr} {items : List Value} {k : Nat} {ds : List Dt} (hh : A.handled = none) (hl : items.length = ds.length) (hne : a ≠ I) :
    It prog w A tg I [I] [I, a] ds.length (fun i h v => ∃ d, ds[i]? = some d ∧ Rd h d v) (fun i h => h.IsListIter I a i ∧ h.get? a = some (lstObj items.toArray k) ∧ RdL h ds items) where
  frame := fun i h h' st hk kt => by
    obtain ⟨⟨o, ho, r⟩, hA, hr⟩ := st
    exact ⟨⟨o, hk I (by simp) o ho, r⟩, hk a (by simp) _ hA, RdL.kt kt _ _ hr⟩
  next := fun i s Q E hi st h => by
    obtain ⟨hI, hA, hr⟩ := st
    obtain ⟨d, hd⟩ : ∃ d, ds[i]? = some d := ⟨ds[i], List.getElem?_eq_getElem hi⟩
    obtain ⟨v, hv, rv⟩ := hr.get hd
    obtain ⟨oI, hoI, hcI, hdI⟩ := id hI
    refine wpAny_pyNext_list_item hI (lst_of hA) (by simpa using hv) fun h' hI' hs' => ?_
    have kb : KB [I] s { s with heap := h', toks := s.toks } := KB.one hoI (fun i n e => by rw [e] at hdI; cases hdI) hs'
    obtain ⟨oI', hoI', hcI', hdI'⟩ := id hI'
    exact goNone hoI' hcI' (by decide) (h v _ ⟨hI', kb.keep _ _ (by simpa using hne) hA, hr.kb kb⟩ kb ⟨d, hd, rv.kb kb⟩)
  done := fun s Q E st h => by
    obtain ⟨hI, hA, hr⟩ := st
    obtain ⟨oI, hoI, hcI, hdI⟩ := id hI
    exact wpAny_pyNext_list_end hh hI (lst_of hA) (by simp [hl]) fun h' he => ⟨rfl, h _ (KB.ext hoI (fun i n e => by rw [e] at hdI; cases hdI) he)⟩
  self := fun i s Q E st h => wpAny_pyIter_listiter st.1 h
theorem It.rng {tg : Expr} {I : Addr} {a : Int} {n : Nat} (hh : A.handled = none) :
    It prog w A tg I [I] [I] n (fun i h v => Rd h (.int (a + i)) v) (fun i h => IsRangeIter h I (a + i) ((n : Int) - i) 1) where
  frame := fun i h h' st hk kt => hk I (by simp) _ st
  next := fun i s Q E hi st h => by
    refine wpAny_pyNext_range_item st (by omega) fun h' hI' hs' => ?_
    have kb : KB [I] s { s with heap := h', toks := s.toks + 1 } := KB.one st (fun i n e => by have h := congrArg Obj.data e; cases h) hs'
    have e1 : a + ((i + 1 : Nat) : Int) = a + i + 1 := by omega
    have e2 : (n : Int) - ((i + 1 : Nat) : Int) = (n : Int) - i - 1 := by omega
    exact goNone hI' rfl (by decide) (h _ _ (by rw [e1, e2]; exact hI') kb (Rd.int _ _))
  done := fun s Q E st h => wpAny_pyNext_range_end hh st (by omega) fun h' he => ⟨rfl, h _ (KB.ext st (fun i n e => by have h := congrArg Obj.data e; cases h) he)⟩
  self := fun i s Q E st h => wpAny_pyIter_rangeiter st h

theorem PeI.tup {tg : Expr} {e : Expr} {ds : List Dt} (hh : A.handled = none) (x : Pe prog w A env s e (fun h v => Rd h (.tup ds) v)) : PeI prog w A env s tg e (fun _ => False) ds.length (fun i h v => ∃ d, ds[i]? = some d ∧ Rd h d v) :=
  fun E s₁ k => x.use k fun v s₂ k₂ r => by
    obtain ⟨a, items, n, rfl, ho, hr⟩ := Rd.tup_iff.mp (r _ (Le.refl _))
    have kp := KB.push s₂ { cls := .type "tuple_iterator", data := .fields #[.ref a, .int 0 0] } s₂.toks
    refine iter_tuple (tup_of ho) ⟨k₂.trans kp, s₂.heap.objs.size, [s₂.heap.objs.size], [s₂.heap.objs.size], _, rfl, It.tup (a := a) (k := n) hh hr.length, ⟨⟨_, Heap.get?_push_size _ rfl, rfl, rfl⟩, kp.le _ _ ho, hr.le kp.le⟩, ?_, ?_, ?_, ?_⟩
    · intro b hb
      simp only [List.mem_singleton] at hb; subst hb
      cases e' : s₁.heap.get? s₂.heap.objs.size with
      | none => rfl
      | some o => exact absurd (Heap.lt_size (k₂.le _ _ e')) (Nat.lt_irrefl _)
    · intro b hb
      simp only [List.mem_singleton] at hb; subst hb
      show ((s₂.heap.push _).get? s₂.heap.objs.size).isSome = true
      rw [Heap.get?_push_size _ rfl]; rfl
    · intro b hb
      simp only [List.mem_singleton] at hb; subst hb
      left
      cases e' : s₁.heap.get? s₂.heap.objs.size with
      | none => rfl
      | some o => exact absurd (Heap.lt_size (k₂.le _ _ e')) (Nat.lt_irrefl _)
    · intro b hb
      simp only [List.mem_singleton] at hb; subst hb
      show ((s₂.heap.push _).get? s₂.heap.objs.size).isSome = true
      rw [Heap.get?_push_size _ rfl]; rfl
/-- a list: one that stands (`l`) -/
theorem PeI.lst {tg : Expr} {e : Expr} {ds : List Dt} (S : Addr → Prop) (hh : A.handled = none) (x : Pe prog w A env s e (fun h v => ∃ l, v = .ref l ∧ LT h l ds ∧ S l)) : PeI prog w A env s tg e S ds.length (fun i h v => ∃ d, ds[i]? = some d ∧ Rd h d v) :=
  fun E s₁ k => x.use k fun v s₂ k₂ r => by
    obtain ⟨l, rfl, ⟨items, n, ho, hr⟩, hSl⟩ := r _ (Le.refl _)
    have kp := KB.push s₂ { cls := .type "list_iterator", data := .fields #[.ref l, .int 0 0] } s₂.toks
    refine wpAny_pyIter_list (lst_of ho) ⟨k₂.trans kp, s₂.heap.objs.size, [s₂.heap.objs.size], [s₂.heap.objs.size, l], _, rfl, It.lst (a := l) (k := n) hh hr.length (Nat.ne_of_lt (Heap.lt_size ho)), ⟨⟨_, Heap.get?_push_size _ rfl, rfl, rfl⟩, kp.le _ _ ho, hr.le kp.le⟩, ?_, ?_, ?_, ?_⟩
    · intro b hb
      simp only [List.mem_singleton] at hb; subst hb
      cases e' : s₁.heap.get? s₂.heap.objs.size with
      | none => rfl
      | some o => exact absurd (Heap.lt_size (k₂.le _ _ e')) (Nat.lt_irrefl _)
    · intro b hb
      simp only [List.mem_singleton] at hb; subst hb
      show ((s₂.heap.push _).get? s₂.heap.objs.size).isSome = true
      rw [Heap.get?_push_size _ rfl]; rfl
    · intro b hb
      simp only [List.mem_cons, List.not_mem_nil, or_false] at hb
      rcases hb with rfl | rfl
      · left
        cases e' : s₁.heap.get? s₂.heap.objs.size with
        | none => rfl
        | some o => exact absurd (Heap.lt_size (k₂.le _ _ e')) (Nat.lt_irrefl _)
      · right; exact hSl
    · intro b hb
      simp only [List.mem_cons, List.not_mem_nil, or_false] at hb
      rcases hb with rfl | rfl
      · show ((s₂.heap.push _).get? s₂.heap.objs.size).isSome = true
        rw [Heap.get?_push_size _ rfl]; rfl
      · show ((s₂.heap.push _).get? b).isSome = true
        rw [Heap.get?_push_of_some _ ho]; rfl
/-- any list, of an expression; in a comprehension it matters not where it lies -/
theorem PeI.any {tg : Expr} {e : Expr} {ds : List Dt} (hh : A.handled = none) (x : Pe prog w A env s e (fun h v => Ls h ds v)) : PeI prog w A env s tg e (fun _ => True) ds.length (fun i h v => ∃ d, ds[i]? = some d ∧ Rd h d v) :=
  PeI.lst _ hh (x.mono fun h v r => let ⟨l, e, h⟩ := r; ⟨l, e, h, trivial⟩)
/-- any list; it is none of the objects at `X`, which are no lists -/
theorem PeI.offX {tg : Expr} {e : Expr} {ds : List Dt} (X : List Addr) (hX : ∀ a ∈ X, ∃ o, s.heap.get? a = some o ∧ ∀ items n, o.data ≠ .seq items n) (hh : A.handled = none) (x : Pe prog w A env s e (fun h v => Ls h ds v)) :
    PeI prog w A env s tg e (fun a => a ∉ X) ds.length (fun i h v => ∃ d, ds[i]? = some d ∧ Rd h d v) :=
  PeI.lst _ hh (fun E s₁ k => wpAny_mono (x E s₁ k) (fun v s₂ hv => ⟨hv.1, fun h' l => by
    obtain ⟨a, e, hl⟩ := hv.2 h' l
    refine ⟨a, e, hl, fun ha => ?_⟩
    obtain ⟨o, ho, hd⟩ := hX a ha
    obtain ⟨items, n, ho', _⟩ := hl
    rw [l _ _ (hv.1.le _ _ (k.le _ _ ho))] at ho'
    cases ho'
    exact hd _ _ rfl⟩) fun _ _ z => z)
/-- `range(a, b)` -/
theorem PeI.range2 {tg : Expr} {np pos : Pos} {e f : Expr} {a b : Int} (ok : AOk A n) (V : View env m s) (G : GG w s.heap) (hl : env.kindOf "range" = some .globalImplicit) (x : Pe prog w A env s e (fun h v => Rd h (.int a) v)) (y : Pe prog w A env s f (fun h v => Rd h (.int b) v))
    (ha : -1000000 < a) (hb : b < 1000000) (ha' : a < 1000000) (hb' : -1000000 < b)
    (he : starEach [e, f] env = (false, eval e env) :: starEach [f] env := by rfl) (hf : starEach [f] env = (false, eval f env) :: starEach [] env := by rfl)
    (hplain : (backTo pos (starEach [f] env)).any (·.1) = false := by rfl) :
    PeI prog w A env s tg (.Call (.Name "range" np) [e, f] [] pos) (fun _ => False) (b - a).toNat (fun i h v => Rd h (.int (a + i)) v) := fun E s₁ k => by
  refine Pe.use (s := s) (R := fun h v => ∃ r t u z, v = .ref r ∧ IsRange h r a b 1 t u z) ?_ k fun v s₂ k₂ r => ?_
  · refine Pe.callT V G hl (brange w) (by boot_by_name) (by decide) (PeA.two x y he hf) (fun E s₁ vs k hv => ?_) (he := he) (hplain := hplain)
    obtain ⟨v, u, rfl, rv, ru⟩ := hv
    obtain ⟨t, rfl⟩ := Rd.int_iff.mp rv
    obtain ⟨t', rfl⟩ := Rd.int_iff.mp ru
    exact call_range_2 ⟨KB.push s₁ _ _, fun h' l => ⟨_, _, _, _, rfl, l _ _ (IsRange.new ..)⟩⟩
  · obtain ⟨r, t, u, z, rfl, hr⟩ := r _ (Le.refl _)
    have hsz : Builtin.Range.rangeSize a b 1 = ((b - a).toNat : Int) := by rw [rangeSize_one]; split <;> omega
    refine wpAny_pyIter_range hr (small_one (by omega) (by omega) (by omega) (by omega)) ?_
    rw [hsz]
    have kp := KB.push s₂ { cls := .type "range_iterator", data := .fields #[rawInt a, rawInt ((b - a).toNat : Int), rawInt 1] } s₂.toks
    refine ⟨k₂.trans kp, s₂.heap.objs.size, [s₂.heap.objs.size], [s₂.heap.objs.size], _, rfl, It.rng ok.handled, ?_, ?_, ?_, ?_, ?_⟩
    · have e1 : a + ((0 : Nat) : Int) = a := by omega
      have e2 : ((b - a).toNat : Int) - ((0 : Nat) : Int) = ((b - a).toNat : Int) := by omega
      show IsRangeIter (s₂.heap.push _) s₂.heap.objs.size (a + ((0 : Nat) : Int)) (((b - a).toNat : Int) - ((0 : Nat) : Int)) 1
      rw [e1, e2]; exact Heap.get?_push_size _ rfl
    · intro b hb
      simp only [List.mem_singleton] at hb; subst hb
      cases e' : s₁.heap.get? s₂.heap.objs.size with
      | none => rfl
      | some o => exact absurd (Heap.lt_size (k₂.le _ _ e')) (Nat.lt_irrefl _)
    · intro b hb
      simp only [List.mem_singleton] at hb; subst hb
      show ((s₂.heap.push _).get? s₂.heap.objs.size).isSome = true
      rw [Heap.get?_push_size _ rfl]; rfl
    · intro b hb
      simp only [List.mem_singleton] at hb; subst hb
      left
      cases e' : s₁.heap.get? s₂.heap.objs.size with
      | none => rfl
      | some o => exact absurd (Heap.lt_size (k₂.le _ _ e')) (Nat.lt_irrefl _)
    · intro b hb
      simp only [List.mem_singleton] at hb; subst hb
      show ((s₂.heap.push _).get? s₂.heap.objs.size).isSome = true
      rw [Heap.get?_push_size _ rfl]; rfl
end
end Mine
end


-- L9
section
set_option maxHeartbeats 2000000
set_option autoImplicit false
namespace Mine
section
variable {prog : Program} {w : World} {M : Model} {A : Around} {env : Env} {s₀ s s₁ s' : Shared} {m : Str → Option Value} {E : Value → Shared → Prop} {n : Nat}

theorem Frm.fresh {a : Addr} (F : Frm s₀ env m s) (h : s.heap.get? a = none) : a ∉ mutA env ∧ s₀.heap.get? a = none := by
  constructor
  · intro ha
    have := F.has a ha
    rw [h] at this; cases this
  · cases e : s₀.heap.get? a with
    | none => rfl
    | some o => rw [F.kb.le _ _ e] at h; cases h
theorem Frm.other {X : List Addr} (F : Frm s₀ env m s) (k : KB X s s') (hX : ∀ a ∈ X, a ∉ mutA env ∧ s₀.heap.get? a = none) : Frm s₀ env m s' := by
  have nX : ∀ a ∈ mutA env, a ∉ X := fun a ha hx => (hX a hx).1 ha
  have at_ : ∀ a ∈ mutA env, ∀ o, s.heap.get? a = some o → s'.heap.get? a = some o := fun a ha o e => k.keep a o (nX a ha) e
  refine ⟨F.kb_mut k (fun a ha => (hX a ha).2), ⟨F.view.kind, F.view.globals, F.view.builtins, ?_, fun y c hy => ?_⟩, F.new, F.off, fun a ha => ?_, F.inj⟩
  · obtain ⟨ml, hn, he⟩ := F.view.ns
    exact ⟨ml, hn.at' fun o e => at_ _ List.mem_cons_self o e, he⟩
  · obtain ⟨v₀, ⟨o, ho, hd⟩, e⟩ := F.view.cell y c hy
    exact ⟨v₀, ⟨o, at_ c (mem_mut_cell hy) o ho, hd⟩, e⟩
  · obtain ⟨o, ho⟩ := Option.isSome_iff_exists.mp (F.has a ha)
    rw [at_ a ha o ho]; rfl

/-! ### lists that grow -/
theorem LT.ext {h : Heap} {l : Addr} {ds : List Dt} (x : LT h l ds) : ∃ o, h.get? l = some o ∧ ∀ i n, o ≠ tupObj i n := by
  obtain ⟨items, n, ho, _⟩ := x
  exact ⟨_, ho, fun i n e => by have h := congrArg Obj.cls e; simp at h⟩
theorem KB.updList {l : Addr} {items : List Value} {k : Nat} {f : Array Value → Array Value} (ho : s.heap.get? l = some (lstObj items.toArray k)) (tk : Nat) :
    KB [l] s { s with heap := s.heap.update l (Obj.mapSeq f), toks := tk } :=
  KB.one ho (fun i n e => by have h := congrArg Obj.cls e; simp at h) (Heap.SameBut.update ..)

/-- `<list at l>.append(e)` -/
theorem S.append {o e : Expr} {apos pos spos : Pos} {l : Addr} {ds : List Dt} {d : Dt} {Q : Flow → Shared → Prop} (x : Pe prog w A env s o (fun h v => v = .ref l)) (hl : LT s.heap l ds)
    (y : Pe prog w A env s e (fun h v => Rd h d v)) (hs : ds.length < 100000)
    (h : ∀ s', KB [l] s s' → LT s'.heap l (ds ++ [d]) → Q .next s')
    (hbase : attributeBase o "append" env (eval o env) = eval o env := by with_unfolding_all rfl) (hline : (apos.endLine == pos.line) = true := by with_unfolding_all rfl)
    (htrees : backTo pos (starEach [e] env) = [(false, eval e env)] := by with_unfolding_all rfl)
    (hi : interactive env = false := by rfl) (hsw : swapsWith (.Call (.Attribute o "append" apos) [e] [] pos) none spos.line env = pure false := by rfl) :
    wpAny (model prog w) A (exec (.Expr (.Call (.Attribute o "append" apos) [e] [] pos) spos) env) Q E s :=
  wpAny_Expr (wpAny_Call_method1_late hbase hline htrees (x.use (KB.refl _ _) fun v s₂ k₂ r => by
    obtain rfl := r _ (Le.refl _)
    obtain ⟨items, n', ho, hr⟩ := hl.le k₂.le
    refine ⟨"list", "list.append", PySem.F.plainAttrs_list, PySem.F.slot_list_append, PySem.F.type_list_append, (lst_of ho).typeIs, fun b e' => by cases e'; exact ⟨_, ho, rfl⟩, ?_⟩
    refine PySem.P.append_list (y.use k₂ fun u s₃ k₃ r₃ => ?_)
    have ho' := k₃.le _ _ ho
    have hlen := hr.length
    refine ⟨items.toArray, n', by simp; exact line_of_lt (by omega), ho', h _ (((k₂.trans k₃).of_nil _).trans (KB.updList ho' _)) ?_⟩
    have kb := KB.updList (f := fun xs => xs.push u) ho' s₃.toks
    have hu := PySem.IsL.update (show PySem.IsL s₃.heap l items.toArray n' from ho') (fun xs => xs.push u)
    have e2 : items.toArray.push u = (items ++ [u]).toArray := by simp
    rw [e2] at hu
    exact ⟨items ++ [u], _, hu, ((hr.le k₃.le).push (r₃ _ (Le.refl _))).kb kb⟩)) hi hsw
/-- `<list at l>.extend(e)`, e a list -/
theorem S.extend {o e : Expr} {apos pos spos : Pos} {l : Addr} {ds es : List Dt} {Q : Flow → Shared → Prop} (x : Pe prog w A env s o (fun h v => v = .ref l)) (hl : LT s.heap l ds)
    (y : Pe prog w A env s e (fun h v => Ls h es v)) (hs : ds.length + es.length < 100000)
    (h : ∀ s', KB [l] s s' → LT s'.heap l (ds ++ es) → Q .next s')
    (hbase : attributeBase o "extend" env (eval o env) = eval o env := by with_unfolding_all rfl) (hline : (apos.endLine == pos.line) = true := by with_unfolding_all rfl)
    (htrees : backTo pos (starEach [e] env) = [(false, eval e env)] := by with_unfolding_all rfl)
    (hi : interactive env = false := by rfl) (hsw : swapsWith (.Call (.Attribute o "extend" apos) [e] [] pos) none spos.line env = pure false := by rfl) :
    wpAny (model prog w) A (exec (.Expr (.Call (.Attribute o "extend" apos) [e] [] pos) spos) env) Q E s :=
  wpAny_Expr (wpAny_Call_method1_late hbase hline htrees (x.use (KB.refl _ _) fun v s₂ k₂ r => by
    obtain rfl := r _ (Le.refl _)
    obtain ⟨items, n', ho, hr⟩ := hl.le k₂.le
    refine ⟨"list", "list.extend", PySem.F.plainAttrs_list, PySem.F.slot_list_extend, PySem.F.type_list_extend, (lst_of ho).typeIs, fun b e' => by cases e'; exact ⟨_, ho, rfl⟩, ?_⟩
    refine PySem.P.extend_list (y.use k₂ fun u s₃ k₃ r₃ => ?_)
    obtain ⟨b, rfl, items2, n2, hb, hr2⟩ := r₃ _ (Le.refl _)
    have ho' := k₃.le _ _ ho
    have hlen := hr.length
    have hlen2 := hr2.length
    refine ⟨b, items.toArray, items2.toArray, n', n2, by simp; exact line_of_lt (by omega), by simp; exact Nat.le_succ_of_le (line_of_lt (by omega)), ?_, rfl, ho', hb, h _ (((k₂.trans k₃).of_nil _).trans (KB.updList ho' _)) ?_⟩
    · have : Builtin.List.listTooLong (items.toArray.size + items2.toArray.size) = false := by
        unfold Builtin.List.listTooLong
        simp only [List.size_toArray, gt_iff_lt, decide_eq_false_iff_not, Nat.not_lt]
        exact line_of_lt (by omega)
      rw [this]; simp
    · have kb := KB.updList (f := fun xs => xs ++ items2.toArray) ho' s₃.toks
      have hu := PySem.IsL.update (show PySem.IsL s₃.heap l items.toArray n' from ho') (fun xs => xs ++ items2.toArray)
      have e2 : items.toArray ++ items2.toArray = (items ++ items2).toArray := by simp
      rw [e2] at hu
      exact ⟨items ++ items2, _, hu, ((hr.le k₃.le).append hr2).kb kb⟩)) hi hsw
end
end Mine
end


-- L10
section
set_option maxHeartbeats 2000000
set_option autoImplicit false
namespace Mine
section
variable {prog : Program} {w : World} {M : Model} {A : Around} {env cenv : Env} {s₀ s s₁ s' : Shared} {m : Str → Option Value} {E : Value → Shared → Prop} {n : Nat}

/-- a clause's tests: none, or one whose answer is known -/
inductive PtL (prog : Program) (w : World) (A : Around) (env : Env) (s : Shared) : List Expr → Bool → Prop where
  | nil : PtL prog w A env s [] true
  | one {c : Expr} {b : Bool} (x : Pt prog w A env s c b) : PtL prog w A env s [c] b

/-- the loop of the last clause of a list's comprehension -/
theorem leaf_loop {elt target iter : Expr} {ifs : List Expr} {gens : List Comprehension} {scope : Scope} {pos : Pos} {d : Nat} {I : Addr} {acc : Value} {wr fp : List Addr} {P : Nat → Heap → Value → Prop} {St : Nat → Heap → Prop} {R : Result → Shared → Prop}
    (hg : gens[d]? = some ⟨target, iter, ifs, 0⟩) (hlast : gens[d + 1]? = none)
    (T : It prog w A target I wr fp n P St) (J : Nat → Shared → Prop) (X : List Addr) (hfp : ∀ b ∈ fp, b ∉ X)
    (hst : ∀ i s₁ s₂, J i s₁ → KB wr s₁ s₂ → J i s₂)
    (turn : ∀ i s₁ v, i < n → J i s₁ → P i s₁.heap v → ∀ E' : Value → Shared → Prop, wpAny (model prog w) A (PySem.assign target cenv v) (fun _ s₂ => ∃ b, PtL prog w A cenv s₂ ifs b ∧ ∀ s₃, KB [] s₂ s₃ →
      if b = true then wpAny (model prog w) A (eval elt cenv) (fun x s₄ => wpAny (model prog w) A (call (.builtin "list.append") [acc, x]) (fun _ s₅ => J (i + 1) s₅ ∧ KB X s₁ s₅) E' s₄) E' s₃
      else J (i + 1) s₃ ∧ KB X s₁ s₃) E' s₁)
    (fin : ∀ s₁, J n s₁ → R (.ok .next) s₁) (h0 : J 0 s) (st0 : St 0 s.heap) :
    codeAny (model prog w) A (.compLoop (.ListComp elt gens scope pos) d (.ref I) acc cenv) R s := by
  refine codeAny_loop rfl (fun left s' => ∃ i, i + left = n ∧ J i s' ∧ St i s'.heap) (fun left s' hI => wpAny_noted ?_) n ⟨0, Nat.zero_add n, h0, st0⟩
  obtain ⟨i, hi, hJ, hSt⟩ := hI
  unfold compTurn
  simp only [hg, hlast]
  refine wpAny_bind (wpAny_standAt (wpAny_ite_false (by rfl) (wpAny_bind ?_)))
  change wpAny _ A _ _ _ _
  cases left with
  | zero =>
    obtain rfl : i = n := by omega
    refine wpAny_mono (T.done s' (J i) _ hSt fun z k => hst i s' z hJ k) (fun r z hz => ?_) fun _ _ e => e
    obtain ⟨rfl, hz⟩ := hz
    exact wpAny_pure (fin z hz)
  | succ left =>
    have hlt : i < n := by omega
    refine wpAny_mono (T.next i s' (fun v z => J i z ∧ St (i + 1) z.heap ∧ P i z.heap v) _ hlt hSt fun v z hz k hP => ⟨hst i s' z hJ k, hz, hP⟩) (fun r z hz => ?_) fun _ _ e => e
    cases r with
    | none => exact hz.elim
    | some v =>
      refine wpAny_bind (wpAny_mono hz (fun _ a ha => ?_) fun _ _ e => e)
      obtain ⟨hJa, hSa, hPa⟩ := ha
      have on : ∀ b, J (i + 1) b ∧ KB X a b → ∃ k, k < left + 1 ∧ ∃ j, j + k = n ∧ J j b ∧ St j b.heap := fun b hb =>
        ⟨left, Nat.lt_succ_self left, i + 1, by omega, hb.1, T.frame _ _ _ hSa (fun c hc o e => hb.2.keep c o (hfp c hc) e) hb.2.kt⟩
      refine wpAny_bind (wpAny_mono (turn i a v hlt hJa hPa _) (fun _ b hb => ?_) fun _ _ e => e)
      obtain ⟨ok, tests, rest⟩ := hb
      refine wpAny_bind (wpAny_mono (Q := fun r c => r = ok ∧ KB [] b c) ?asked (fun r c hc => ?_) fun _ _ e => e)
      case asked =>
        cases tests with
        | nil => exact wpAny_tests_nil ⟨rfl, KB.refl _ _⟩
        | one x => exact wpAny_tests_one (x _ _ (KB.refl _ _))
      obtain ⟨rfl, kc⟩ := hc
      have rest := rest c kc
      by_cases hr : r = true
      · rw [if_pos hr] at rest ⊢
        refine wpAny_bind (wpAny_bind (wpAny_mono rest (fun x y hy => wpAny_bind (wpAny_mono hy (fun _ z hz => ?_) fun _ _ e => e)) fun _ _ e => e))
        exact wpAny_pure (wpAny_pure ⟨rfl, on z hz⟩)
      · rw [if_neg hr] at rest ⊢
        exact wpAny_pure ⟨rfl, on c rest⟩
end
end Mine
end


-- L11
section
set_option maxHeartbeats 2000000
set_option autoImplicit false
namespace Mine

def cap (cl : List (Str × Addr)) (m : Str → Option Value) : Str → Option Value := fun y => if (cl.lookup y).isSome then m y else none

section
variable {prog : Program} {w : World} {M : Model} {A : Around} {env cenv : Env} {s₀ s s₁ s' : Shared} {m m' : Str → Option Value} {E : Value → Shared → Prop} {n : Nat}

theorem KB.dropX {X Y : List Addr} (k : KB X s s₁) (k' : KB Y s₁ s') (hY : ∀ a ∈ Y, s.heap.get? a = none) : KB X s s' := by
  refine ⟨?_, fun b o hb e => k'.keep b o (fun hb => by rw [hY b hb] at e; cases e) (k.keep b o hb e), fun b i n e => k'.tup b i n (k.tup b i n e)⟩
  obtain ⟨h, tk, rfl⟩ := k.same
  obtain ⟨h', tk', rfl⟩ := k'.same
  exact ⟨h', tk', rfl⟩
theorem KB.drop {X : List Addr} (k : KB [] s s₁) (k' : KB X s₁ s') (hX : ∀ a ∈ X, s.heap.get? a = none) : KB [] s s' :=
  ⟨((k.of_nil X).trans k').same, fun b o _ e => k'.keep b o (fun hb => by rw [hX b hb] at e; cases e) (k.le b o e), fun b i n e => k'.tup b i n (k.tup b i n e)⟩

theorem LT.append {l : Addr} {ds : List Dt} {d : Dt} {x : Value} {Q : Value → Shared → Prop} (hl : LT s.heap l ds) (hx : Rd s.heap d x) (hs : ds.length < 100000)
    (h : ∀ s', KB [l] s s' → Heap.SameBut l s.heap s'.heap → LT s'.heap l (ds ++ [d]) → Q .none s') : wpAny (model prog w) A (call (.builtin "list.append") [.ref l, x]) Q E s := by
  obtain ⟨items, n', ho, hr⟩ := hl
  have hlen := hr.length
  refine wpAny_list_append_plain (items := items.toArray) ⟨n', ho⟩ (fun h' hp hs' => ?_) (by simp; exact line_of_lt (by omega))
  have kb : KB [l] s { s with heap := h', toks := s.toks } := KB.one ho (fun i n e => by have h := congrArg Obj.cls e; simp at h) hs'
  obtain ⟨n2, hp2⟩ := hp
  have e2 : items.toArray.push x = (items ++ [x]).toArray := by simp
  rw [e2] at hp2
  exact h _ kb hs' ⟨items ++ [x], n2, hp2, (hr.push hx).kb kb⟩

/-- storing into a target -/
def Asg (prog : Program) (w : World) (A : Around) (cenv : Env) (target : Expr) (v : Value) (m2 : Str → Option Value) (s : Shared) : Prop :=
  ∀ (E : Value → Shared → Prop) (Q : Unit → Shared → Prop), (∀ s', KB [cenv.locals] s s' → View cenv m2 s' → Q () s') → wpAny (model prog w) A (PySem.assign target cenv v) Q E s
theorem View.storeL {x : Str} {v : Value} {Q : Unit → Shared → Prop} (V : View cenv m s) (hl : cenv.kindOf x = some .local) (hc : cenv.cells.lookup x = none) (off : ∀ y c, cenv.cells.lookup y = some c → c ≠ cenv.locals)
    (h : ∀ s', KB [cenv.locals] s s' → View cenv (upd m x v) s' → Q () s') : wpAny M A (storeName cenv x v) Q E s := by
  obtain ⟨ml, hn, he⟩ := V.ns
  obtain ⟨oL, es, ep, hoL, hdL, _⟩ := id hn
  refine wpAny_storeName_local hl hn (fun h' hn' hs' => ?_) (by rw [V.kind]; rfl)
  have k : KB [cenv.locals] s { s with heap := h', toks := s.toks + 1 } := KB.one hoL (fun i n e => by rw [e] at hdL; cases hdL) hs'
  refine h _ k ⟨V.kind, V.globals, V.builtins, ⟨_, hn', fun y u hy hu => ?_⟩, fun y c hy => ?_⟩
  · unfold upd at hu; by_cases hyx : y = x
    · simpa [hyx] using hu
    · simp only [hyx, if_false] at hu ⊢; exact he y u hy hu
  · have hyx : y ≠ x := by rintro rfl; rw [hc] at hy; cases hy
    rw [upd_ne hyx]
    obtain ⟨v₀, hv₀, e⟩ := V.cell y c hy
    exact ⟨v₀, hv₀.sameBut hs' (off y c hy), e⟩
theorem Asg.name {x : Str} {p : Pos} {v : Value} (V : View cenv m s) (hl : cenv.kindOf x = some .local) (hc : cenv.cells.lookup x = none) (off : ∀ y c, cenv.cells.lookup y = some c → c ≠ cenv.locals) :
    Asg prog w A cenv (.Name x p) v (upd m x v) s := fun E Q h => wpAny_assign_Name (V.storeL hl hc off h)
theorem Asg.pair {x y : Str} {p q tp : Pos} {k : Nat} {v : Value} {a : Addr} {v₁ v₂ : Value} {n' : Nat} (hh : A.handled = none) (V : View cenv m s) (hv : v = .ref a) (ho : s.heap.get? a = some (tupObj #[v₁, v₂] n'))
    (hl : cenv.kindOf x = some .local) (hl' : cenv.kindOf y = some .local) (hc : cenv.cells.lookup x = none) (hc' : cenv.cells.lookup y = none) (off : ∀ y c, cenv.cells.lookup y = some c → c ≠ cenv.locals) :
    Asg prog w A cenv (.Tuple [.Name x p, .Name y q] k tp) v (upd (upd m x v₁) y v₂) s := fun E Q h => by
  subst hv
  refine assign_Tuple_tuple hh (tup_of ho) rfl rfl fun h' he => ?_
  have kb : KB [] s { s with heap := h', toks := s.toks } := KB.of_le (fun b o e => he b o (Nat.ne_of_lt (Heap.lt_size e)) e)
  refine assignInOrder_cons (wpAny_assign_Name ((V.le kb.le).storeL hl hc off fun s₁ k₁ V₁ => ?_))
  refine assignInOrder_cons (wpAny_assign_Name (V₁.storeL hl' hc' off fun s₂ k₂ V₂ => ?_))
  exact assignInOrder_nil (h s₂ (((kb.of_nil _).trans k₁).trans k₂) V₂)

theorem View.comp {scope : Scope} {cl : List (Str × Addr)} {C : Addr} {ml : Str → Option Value} (V : View env m s) (hkind : scope.kind = .function) (hcl : ∀ y c, cl.lookup y = some c → env.cells.lookup y = some c)
    (hloc : (cl.all fun p => (compEnvC scope cl C env).kindOf p.1 != some .local) = true) (hn : s.heap.Ns C ml) : View (compEnvC scope cl C env) (cap cl m) s := by
  refine ⟨hkind, V.globals, V.builtins, ⟨ml, hn, fun y v hl hv => ?_⟩, fun y c hy => ?_⟩
  · unfold cap at hv
    split at hv
    · rename_i h
      obtain ⟨c, hc⟩ := Option.isSome_iff_exists.mp h
      have := List.all_eq_true.mp hloc _ (mem_of_lookup hc)
      simp [hl] at this
    · cases hv
  · have hy' : cl.lookup y = some c := hy
    obtain ⟨v₀, hv₀, e⟩ := V.cell y c (hcl y c hy')
    refine ⟨v₀, hv₀, fun v hv => e v ?_⟩
    simpa [cap, hy'] using hv

theorem unborn {h : Heap} {a : Addr} (x : h.objs.size ≤ a) : h.get? a = none := by
  rcases e : h.get? a with _ | o
  · rfl
  · have := Heap.lt_size e
    exact absurd x (Nat.not_le.mpr this)
theorem unborn_le {h h' : Heap} {a : Addr} (k : Le h h') (x : h'.get? a = none) : h.get? a = none := by
  rcases e : h.get? a with _ | o
  · rfl
  · rw [k a o e] at x; cases x
theorem ne_of_live {h : Heap} {a b : Addr} (x : (h.get? a).isSome = true) (y : h.get? b = none) : a ≠ b := by
  rintro rfl; rw [y] at x; cases x

/-- what a list's comprehension makes ahead of its first turn: an empty list at `D`, its names at `C` -/
theorem opened {scope : Scope} {cl : List (Str × Addr)} {K : Value → Env → Shared → Prop} (hcell : ∀ y ∈ scope.names, y.2 ≠ .cell) (hkind : scope.kind = .function)
    (h : ∀ D C s', KB [] s s' → s.heap.get? D = none → s.heap.get? C = none → D ≠ C → LT s'.heap D [] → (∃ ml, s'.heap.Ns C ml) → K (.ref D) (newEnv scope C env.globals cl env.qual none .none (some env) builtinsNs) s') :
    wpAny M A (newList []) (fun acc s₁ => wpAny M A (newFunctionEnv scope env.globals cl [] env.qual none .none (some env)) (fun cenv s₂ => K acc cenv s₂) E s₁) E s := by
  refine wpAny_newObj_type (wpAny_newFunctionEnv hcell (fun y hy => absurd hy List.not_mem_nil) (fun h₁ hns hsame => ?_) hkind)
  have old : ∀ {b : Addr} {o : Obj}, (s.heap.push (lstObj [].toArray 0)).get? b = some o → h₁.get? b = some o := fun e => hsame.extBut _ _ (Nat.ne_of_lt (Heap.lt_size e)) (Heap.get?_push_of_some _ e)
  have one_up : (s.heap.push (lstObj [].toArray 0)).objs.size = s.heap.objs.size + 1 := Heap.size_push ..
  have above : s.heap.objs.size < (s.heap.push (lstObj [].toArray 0)).objs.size := one_up ▸ Nat.lt_succ_self _
  exact h _ _ _ (KB.of_le fun b o e => old (Heap.get?_push_of_some _ e)) (unborn (Nat.le_refl _)) (unborn (Nat.le_of_lt above)) (Nat.ne_of_lt above) ⟨[], 0, old (Heap.get?_push_size _ rfl), RdL.nil⟩ ⟨_, hns⟩

theorem comp_core {elt target iter : Expr} {ifs : List Expr} {scope : Scope} {pos p : Pos} {cl : List (Str × Addr)} {src : Addr → Prop} {P : Nat → Heap → Value → Prop} {f : Nat → Option Dt} {use : Option (Value → Sem Unit)} {Q : Value → Shared → Prop}
    (hi : PeI prog w A env s target iter src n P) (hnn : n < 100000) (V : View env m s)
    (hclos : closureFor scope env = pure cl) (hcl : ∀ y c, cl.lookup y = some c → env.cells.lookup y = some c)
    (hcell : ∀ y ∈ scope.names, y.2 ≠ .cell) (hkind : scope.kind = .function) (hnames : ∀ x ∈ scope.names, x.2 = .local → scope.names.lookup x.1 = some .local)
    (hloc : ∀ C, (cl.all fun p => (compEnvC scope cl C env).kindOf p.1 != some .local) = true)
    (turn : ∀ i v s₁ C, i < n → KB [] s s₁ → P i s₁.heap v → View (compEnvC scope cl C env) (cap cl m) s₁ → (∀ y c, (compEnvC scope cl C env).cells.lookup y = some c → c ≠ (compEnvC scope cl C env).locals) →
      ∃ m2 b d, Asg prog w A (compEnvC scope cl C env) target v m2 s₁ ∧ (∀ s₂, KB [] s s₂ → KT s₁.heap s₂.heap → View (compEnvC scope cl C env) m2 s₂ →
        PtL prog w A (compEnvC scope cl C env) s₂ ifs b ∧ (b = true → Pe prog w A (compEnvC scope cl C env) s₂ elt (fun h v => Rd h d v))) ∧ f i = if b = true then some d else none)
    (fin : ∀ D C s', KB [] s s' → s.heap.get? C = none → (∃ ml, s'.heap.Ns C ml) → LT s'.heap D ((List.range n).filterMap f) → D ≠ C → s.heap.get? D = none → compPost (model prog w) A E use Q (.ref D) C (.ok .next) s')
    (hs : ∀ x, foldedSetIterable iter env x = pure x := by intro _; rfl) :
    wpAny (model prog w) A (comprehension (.ListComp elt [⟨target, iter, ifs, 0⟩] scope pos) scope env p (newList []) false (eval iter env) use) Q E s := by
  refine wpAny_comprehension_free (g := ⟨target, iter, ifs, 0⟩) (gs := []) rfl hs hclos hkind hnames (wpAny_mono (hi E s (KB.refl _ _)) (fun x s₁ h₁ => wpAny_mono h₁ (fun it s₂ h₂ => ?_) fun _ _ e => e) fun _ _ e => e)
  obtain ⟨k₂, I, wr, fp, St, rfl, T, st, wnew, wlive, -, flive⟩ := h₂
  refine opened hcell hkind fun D C s₃ k₃ hD hC hDC empty hsc => ?_
  have k0 := k₂.trans k₃
  have D0 : s.heap.get? D = none := unborn_le k₂.le hD
  have C0 : s.heap.get? C = none := unborn_le k₂.le hC
  have st₃ : St 0 s₃.heap := T.frame _ _ _ st (fun b _ o e => k₃.le b o e) k₃.kt
  have coff : ∀ y c, (compEnvC scope cl C env).cells.lookup y = some c → c ≠ (compEnvC scope cl C env).locals := fun y c hy => by
    obtain ⟨v₀, ⟨o, ho, _⟩, _⟩ := V.cell y c (hcl y c hy)
    exact ne_of_live (Option.isSome_iff_exists.mpr ⟨o, ho⟩) C0
  have wC : C ∉ wr := fun hm => ne_of_live (wlive C hm) hC rfl
  have wD : D ∉ wr := fun hm => ne_of_live (wlive D hm) hD rfl
  have bornC : ∀ {a : Addr}, a ∈ [C] → s.heap.get? a = none := fun ha => List.mem_singleton.mp ha ▸ C0
  have bornD : ∀ {a : Addr}, a ∈ [D] → s.heap.get? a = none := fun ha => List.mem_singleton.mp ha ▸ D0
  have loop : codeAny (model prog w) A (.compLoop (.ListComp elt [⟨target, iter, ifs, 0⟩] scope pos) 0 (.ref I) (.ref D) (compEnvC scope cl C env)) (compPost (model prog w) A E use Q (.ref D) C) s₃ := by
    refine leaf_loop rfl rfl T (fun i z => KB [] s z ∧ (∃ ml, z.heap.Ns C ml) ∧ LT z.heap D ((List.range i).filterMap f)) [C, D] (fun b hb hm => ?_) (fun i a b hJ k => ?_) (fun i a v hlt hJ hP E' => ?_) (fun a hJ => ?_) ⟨k0, hsc, empty⟩ st₃
    · have live := flive b hb
      rcases List.mem_cons.mp hm with rfl | hm
      · exact ne_of_live live hC rfl
      · exact ne_of_live live hD (List.mem_singleton.mp hm)
    · obtain ⟨ka, ⟨ml, hml⟩, hla⟩ := hJ
      exact ⟨ka.drop k wnew, ⟨ml, hml.at' fun o e => k.keep C o wC e⟩, hla.kb k wD⟩
    · obtain ⟨ka, ⟨ml, hml⟩, hla⟩ := hJ
      obtain ⟨m2, b, d, asg, told, hf⟩ := turn i v a C hlt ka hP ((V.le ka.le).comp hkind hcl (hloc C) hml) coff
      refine asg E' _ fun z kz Vz => ⟨b, ?_⟩
      have kz : KB [C] a z := kz
      have ks := ka.drop kz fun _ => bornC
      obtain ⟨tests, made⟩ := told z ks kz.kt Vz
      refine ⟨tests, fun y ky => ?_⟩
      obtain ⟨mz, hmz, -⟩ := Vz.ns
      have hly : LT y.heap D ((List.range i).filterMap f) := (hla.kb kz (by simpa using hDC)).le ky.le
      have kay : KB [C, D] a y := (kz.mono (by simp)).trans (ky.of_nil _)
      have more : (List.range (i + 1)).filterMap f = (List.range i).filterMap f ++ (if b = true then [d] else []) := by
        rw [List.range_succ, List.filterMap_append]
        cases b <;> simp [hf]
      rw [more]
      cases b with
      | false => exact ⟨⟨ks.trans ky, ⟨mz, hmz.keeps ky.le⟩, by simpa using hly⟩, kay⟩
      | true =>
        refine (made rfl).use ky fun x q kq hx => (hly.le kq.le).append (hx _ (Le.refl _)) ?_ fun r kr same hr => ?_
        · have := List.length_filterMap_le f (List.range i)
          rw [List.length_range] at this
          omega
        · exact ⟨⟨((ks.trans ky).trans kq).drop kr fun _ => bornD, ⟨mz, ((hmz.keeps ky.le).keeps kq.le).sameBut same (Ne.symm hDC)⟩, hr⟩, (kay.trans (kq.of_nil _)).trans (kr.mono (by simp))⟩
    · exact fin D C a hJ.1 C0 hJ.2.1 hJ.2.2 hDC D0
  exact codeAny_compStart_list loop (T.self 0 _ _ _ st₃ loop)
end
end Mine
end


-- L12
section
set_option maxHeartbeats 2000000
set_option autoImplicit false
namespace Mine
section
variable {prog : Program} {w : World} {M : Model} {A : Around} {env cenv : Env} {s₀ s s₁ s' : Shared} {m m' : Str → Option Value} {E : Value → Shared → Prop} {n : Nat}

theorem PeI.later {tg e : Expr} {src : Addr → Prop} {P : Nat → Heap → Value → Prop} (x : PeI prog w A env s tg e src n P) (k : KB [] s s₁) : PeI prog w A env s₁ tg e src n P := fun E s₂ k' => x E s₂ (k.trans k')

/-- the side of a comprehension's own scope -/
structure CompOk (scope : Scope) (env : Env) (cl : List (Str × Addr)) : Prop where
  clos : closureFor scope env = pure cl
  sub : ∀ y c, cl.lookup y = some c → env.cells.lookup y = some c
  cell : ∀ y ∈ scope.names, y.2 ≠ .cell
  kind : scope.kind = .function
  names : ∀ x ∈ scope.names, x.2 = .local → scope.names.lookup x.1 = some .local
  loc : ∀ C, (List.all cl fun p => (compEnvC scope cl C env).kindOf p.1 != some .local) = true

theorem Pe.comp {elt target iter : Expr} {ifs : List Expr} {scope : Scope} {pos : Pos} {cl : List (Str × Addr)} {src : Addr → Prop} {P : Nat → Heap → Value → Prop} {f : Nat → Option Dt}
    (hi : PeI prog w A env s target iter src n P) (hnn : n < 100000) (V : View env m s) (co : CompOk scope env cl)
    (turn : ∀ i v s₁ C, i < n → KB [] s s₁ → P i s₁.heap v → View (compEnvC scope cl C env) (cap cl m) s₁ → (∀ y c, (compEnvC scope cl C env).cells.lookup y = some c → c ≠ (compEnvC scope cl C env).locals) →
      ∃ m2 b d, Asg prog w A (compEnvC scope cl C env) target v m2 s₁ ∧ (∀ s₂, KB [] s s₂ → KT s₁.heap s₂.heap → View (compEnvC scope cl C env) m2 s₂ →
        PtL prog w A (compEnvC scope cl C env) s₂ ifs b ∧ (b = true → Pe prog w A (compEnvC scope cl C env) s₂ elt (fun h v => Rd h d v))) ∧ f i = if b = true then some d else none)
    (hs : ∀ x, foldedSetIterable iter env x = pure x := by intro _; rfl) :
    Pe prog w A env s (.ListComp elt [⟨target, iter, ifs, 0⟩] scope pos) (fun h v => Ls h ((List.range n).filterMap f) v) := fun E s₁ k => by
  rw [eval_ListComp]
  refine comp_core (f := f) (use := none) (hi.later k) hnn (V.le k.le) co.clos co.sub co.cell co.kind co.names co.loc (fun i v sa C hlt ka hP Va hoff => ?_) (fun D C s' ks hC hn hl hDC _ => ?_) hs
  · obtain ⟨m2, b, d, h1, h2, h3⟩ := turn i v sa C hlt (k.trans ka) hP Va hoff
    exact ⟨m2, b, d, h1, fun s₂ k₂ kt V₂ => h2 s₂ (k.trans k₂) kt V₂, h3⟩
  · obtain ⟨ml, hml⟩ := hn
    refine ⟨ml, hml, fun h' hs' => ?_⟩
    obtain ⟨o, es, ep, ho, hd, _⟩ := hml
    have kc : KB [C] s' { s' with heap := h', toks := s'.toks } := KB.one ho (fun i n e => by rw [e] at hd; cases hd) hs'
    exact ⟨ks.drop kc (by intro a ha; simp only [List.mem_singleton] at ha; subst ha; exact hC), fun h'' l => ⟨D, rfl, (hl.kb kc (by simpa using hDC)).le l⟩⟩

theorem S.assignComp {y : Str} {py spos : Pos} {elt target iter : Expr} {ifs : List Expr} {scope : Scope} {pos : Pos} {cl : List (Str × Addr)} {src : Addr → Prop} {P : Nat → Heap → Value → Prop} {f : Nat → Option Dt} {Q : Flow → Shared → Prop}
    (F : Frm s₀ env m s) (hl : env.kindOf y = some .local) (hc : env.cells.lookup y = none)
    (hi : PeI prog w A env s target iter src n P) (hnn : n < 100000) (co : CompOk scope env cl)
    (turn : ∀ i v s₁ C, i < n → KB [] s s₁ → P i s₁.heap v → View (compEnvC scope cl C env) (cap cl m) s₁ → (∀ y c, (compEnvC scope cl C env).cells.lookup y = some c → c ≠ (compEnvC scope cl C env).locals) →
      ∃ m2 b d, Asg prog w A (compEnvC scope cl C env) target v m2 s₁ ∧ (∀ s₂, KB [] s s₂ → KT s₁.heap s₂.heap → View (compEnvC scope cl C env) m2 s₂ →
        PtL prog w A (compEnvC scope cl C env) s₂ ifs b ∧ (b = true → Pe prog w A (compEnvC scope cl C env) s₂ elt (fun h v => Rd h d v))) ∧ f i = if b = true then some d else none)
    (h : ∀ D s', Frm s₀ env (upd m y (.ref D)) s' → KB [env.locals] s s' → LT s'.heap D ((List.range n).filterMap f) → s.heap.get? D = none → Q .next s')
    (hsw : swapsWith (.ListComp elt [⟨target, iter, ifs, 0⟩] scope pos) (some (.Name y py)) spos.line env = pure true := by rfl)
    (hs : ∀ x, foldedSetIterable iter env x = pure x := by intro _; rfl) :
    wpAny (model prog w) A (exec (.Assign [.Name y py] (.ListComp elt [⟨target, iter, ifs, 0⟩] scope pos) spos) env) Q E s := by
  rw [exec_Assign_Name_used _ _ _ _ hsw]
  refine wpAny_bind (wpAny_standAt (wpAny_bind ?_))
  show wpAny _ A (do let _ ← comprehension (.ListComp elt [⟨target, iter, ifs, 0⟩] scope pos) scope env _ (newList []) false (eval iter env) (some (PySem.assign (.Name y py) env))) _ _ s
  refine wpAny_bind (wpAny_mono (comp_core (f := f) (use := some (PySem.assign (.Name y py) env)) (Q := fun _ s' => Q .next s') hi hnn F.view co.clos co.sub co.cell co.kind co.names co.loc turn (fun D C s' ks hC hn hlD hDC hD0 => ?_) hs)
    (fun _ s' hq => wpAny_pure (wpAny_pure hq)) fun _ _ z => z)
  have Fs := F.le ks
  show wpAny _ A (PySem.assign (.Name y py) env (.ref D)) _ _ _
  refine wpAny_assign_Name (Fs.storeL hl hc fun s₂ F₂ k₂ => ?_)
  obtain ⟨ml, hml⟩ := hn
  have hCL : C ∉ [env.locals] := by
    intro hm
    simp only [List.mem_singleton] at hm
    exact (F.fresh hC).1 (hm ▸ List.mem_cons_self)
  have hml₂ := hml.at' fun o e => k₂.keep _ o hCL e
  refine ⟨ml, hml₂, fun h' hs' => ?_⟩
  obtain ⟨o, es, ep, ho, hd, _⟩ := hml₂
  have kc : KB [C] s₂ { s₂ with heap := h', toks := s₂.toks } := KB.one ho (fun i n e => by rw [e] at hd; cases hd) hs'
  have hDL : D ∉ [env.locals] := by
    intro hm
    simp only [List.mem_singleton] at hm
    exact (F.fresh hD0).1 (hm ▸ List.mem_cons_self)
  have hCa : ∀ a ∈ [C], s.heap.get? a = none := by intro a ha; simp only [List.mem_singleton] at ha; subst ha; exact hC
  exact h D _ (F₂.other kc fun a ha => F.fresh (hCa a ha)) (((ks.of_nil _).trans k₂).dropX kc hCa) ((hlD.kb k₂ hDL).kb kc (by simpa using hDC)) hD0
end
end Mine
end


-- L13
section
set_option maxHeartbeats 2000000
set_option autoImplicit false
namespace Mine
section
variable {prog : Program} {w : World} {M : Model} {A : Around} {env cenv : Env} {s₀ s s₁ s' : Shared} {m m' : Str → Option Value} {E : Value → Shared → Prop} {n : Nat}

/-- `y = [..]` -/
theorem S.assignList {y : Str} {es : List Expr} {py p pos : Pos} {ds : List Dt} {Q : Flow → Shared → Prop} (F : Frm s₀ env m s) (hl : env.kindOf y = some .local) (hc : env.cells.lookup y = none)
    (x : PeL prog w A env s es ds) (hlen : ds.length < 100000)
    (h : ∀ l s', Frm s₀ env (upd m y (.ref l)) s' → KB [env.locals] s s' → LT s'.heap l ds → s.heap.get? l = none → Q .next s')
    (hs : swapsWith (.List es p) (some (.Name y py)) pos.line env = pure false := by rfl) : wpAny (model prog w) A (exec (.Assign [.Name y py] (.List es p) pos) env) Q E s :=
  wpAny_Assign_Name (wpAny_List_spliced (wpAny_mono (x E s _ (KB.refl _ _)) (fun vs s₂ h₂ => ⟨by rw [h₂.2.length]; exact line_of_lt hlen, by
    have kp := h₂.1.trans (KB.push s₂ (lstObj vs.toArray 0) s₂.toks)
    refine (F.le kp).storeL hl hc fun s₃ F₃ k₃ => ?_
    have hD : s.heap.get? s₂.heap.objs.size = none := unborn_le h₂.1.le (unborn (Nat.le_refl _))
    have hne : s₂.heap.objs.size ∉ [env.locals] := by
      intro hm
      simp only [List.mem_singleton] at hm
      exact (F.fresh hD).1 (hm ▸ List.mem_cons_self)
    exact h _ s₃ F₃ ((kp.of_nil _).trans k₃) (LT.kb (l := s₂.heap.objs.size) (s := { s₂ with heap := s₂.heap.push (lstObj vs.toArray 0), toks := s₂.toks }) ⟨vs, 0, Heap.get?_push_size _ rfl, h₂.2.le (Le.push _ _)⟩ k₃ hne) hD⟩) fun _ _ z => z)) hs
end
end Mine
end


-- L14
section
set_option maxHeartbeats 2000000
set_option autoImplicit false
namespace Mine
section
variable {prog : Program} {w : World} {M : Model} {A : Around} {env cenv : Env} {s₀ s s₁ s' : Shared} {m m' : Str → Option Value} {E : Value → Shared → Prop} {n : Nat} {α : Type}

theorem range_get {β : Type} (g : α → Option β) : ∀ (xs : List α), (List.range xs.length).filterMap (fun i => xs[i]?.bind g) = xs.filterMap g := by
  intro xs
  induction xs with
  | nil => rfl
  | cons x xs ih =>
    rw [List.length_cons, List.range_succ_eq_map, List.filterMap_cons, List.filterMap_map]
    have : (fun i => (x :: xs)[i]?.bind g) ∘ Nat.succ = fun i => xs[i]?.bind g := by funext i; simp
    rw [this, ih]
    simp only [List.getElem?_cons_zero, Option.bind_some, List.filterMap_cons]
theorem map_fm {β : Type} (g : α → β) : ∀ (xs : List α), xs.map g = xs.filterMap (fun x => some (g x)) := by
  intro xs
  induction xs with
  | nil => rfl
  | cons x xs ih => rw [List.map_cons, ih]; rfl
theorem cap_of {cl : List (Str × Addr)} {y : Str} {v : Value} (e : m y = some v) (h : (cl.lookup y).isSome = true := by kernel_rfl) : cap cl m y = some v := by
  unfold cap; rw [if_pos h]; exact e
theorem at_map {enc : α → Dt} {xs : List α} {i : Nat} {h : Heap} {v : Value} (x : ∃ d, (xs.map enc)[i]? = some d ∧ Rd h d v) : ∃ a, xs[i]? = some a ∧ Rd h (enc a) v := by
  obtain ⟨d, hd, hr⟩ := x
  rw [List.getElem?_map] at hd
  cases e : xs[i]? with
  | none => rw [e] at hd; cases hd
  | some a => rw [e] at hd; cases hd; exact ⟨a, rfl, hr⟩

/-- what a comprehension's turn gives -/
def TurnOk (prog : Program) (w : World) (A : Around) (scope : Scope) (cl : List (Str × Addr)) (env : Env) (m : Str → Option Value) (s : Shared) (target elt : Expr) (ifs : List Expr) (enc : α → Dt) (g : α → Option Dt) (xs : List α) : Prop :=
  ∀ x v s₁ C, x ∈ xs → KB [] s s₁ → Rd s₁.heap (enc x) v → View (compEnvC scope cl C env) (cap cl m) s₁ → (∀ y c, (compEnvC scope cl C env).cells.lookup y = some c → c ≠ (compEnvC scope cl C env).locals) →
      ∃ m2 b d, Asg prog w A (compEnvC scope cl C env) target v m2 s₁ ∧ (∀ s₂, KB [] s s₂ → KT s₁.heap s₂.heap → View (compEnvC scope cl C env) m2 s₂ →
        PtL prog w A (compEnvC scope cl C env) s₂ ifs b ∧ (b = true → Pe prog w A (compEnvC scope cl C env) s₂ elt (fun h v => Rd h d v))) ∧ g x = if b = true then some d else none

theorem TurnOk.turn {scope : Scope} {cl : List (Str × Addr)} {target elt : Expr} {ifs : List Expr} {enc : α → Dt} {g : α → Option Dt} {xs : List α} (T : TurnOk prog w A scope cl env m s target elt ifs enc g xs) :
    ∀ i v s₁ C, i < (xs.map enc).length → KB [] s s₁ → (∃ d, (xs.map enc)[i]? = some d ∧ Rd s₁.heap d v) → View (compEnvC scope cl C env) (cap cl m) s₁ → (∀ y c, (compEnvC scope cl C env).cells.lookup y = some c → c ≠ (compEnvC scope cl C env).locals) →
      ∃ m2 b d, Asg prog w A (compEnvC scope cl C env) target v m2 s₁ ∧ (∀ s₂, KB [] s s₂ → KT s₁.heap s₂.heap → View (compEnvC scope cl C env) m2 s₂ →
        PtL prog w A (compEnvC scope cl C env) s₂ ifs b ∧ (b = true → Pe prog w A (compEnvC scope cl C env) s₂ elt (fun h v => Rd h d v))) ∧ xs[i]?.bind g = if b = true then some d else none := by
  intro i v s₁ C hi k hP V off
  obtain ⟨a, ha, hr⟩ := at_map hP
  obtain ⟨m2, b, d, h1, h2, h3⟩ := T a v s₁ C (List.mem_of_getElem? ha) k hr V off
  exact ⟨m2, b, d, h1, h2, by rw [ha]; exact h3⟩

/-- `[elt for target in <list> if ..]` -/
theorem Pe.compA {elt target iter : Expr} {ifs : List Expr} {scope : Scope} {pos : Pos} {src : Addr → Prop} {enc : α → Dt} {xs : List α} (g : α → Option Dt) (cl : List (Str × Addr))
    (hi : PeI prog w A env s target iter src (xs.map enc).length (fun i h v => ∃ d, (xs.map enc)[i]? = some d ∧ Rd h d v)) (hnn : xs.length < 100000) (V : View env m s) (co : CompOk scope env cl)
    (T : TurnOk prog w A scope cl env m s target elt ifs enc g xs)
    (hs : ∀ x, foldedSetIterable iter env x = pure x := by intro _; rfl) :
    Pe prog w A env s (.ListComp elt [⟨target, iter, ifs, 0⟩] scope pos) (fun h v => Ls h (xs.filterMap g) v) := by
  have := Pe.comp (pos := pos) (f := fun i => xs[i]?.bind g) hi (by simpa using hnn) V co T.turn hs
  rwa [List.length_map, range_get] at this
/-- `y = [elt for target in <list> if ..]` -/
theorem S.assignCompA {y : Str} {py spos : Pos} {elt target iter : Expr} {ifs : List Expr} {scope : Scope} {pos : Pos} {src : Addr → Prop} {enc : α → Dt} {xs : List α} {Q : Flow → Shared → Prop} (g : α → Option Dt) (cl : List (Str × Addr))
    (F : Frm s₀ env m s) (hl : env.kindOf y = some .local) (hc : env.cells.lookup y = none)
    (hi : PeI prog w A env s target iter src (xs.map enc).length (fun i h v => ∃ d, (xs.map enc)[i]? = some d ∧ Rd h d v)) (hnn : xs.length < 100000) (co : CompOk scope env cl)
    (T : TurnOk prog w A scope cl env m s target elt ifs enc g xs)
    (h : ∀ D s', Frm s₀ env (upd m y (.ref D)) s' → KB [env.locals] s s' → LT s'.heap D (xs.filterMap g) → s.heap.get? D = none → Q .next s')
    (hsw : swapsWith (.ListComp elt [⟨target, iter, ifs, 0⟩] scope pos) (some (.Name y py)) spos.line env = pure true := by rfl)
    (hs : ∀ x, foldedSetIterable iter env x = pure x := by intro _; rfl) :
    wpAny (model prog w) A (exec (.Assign [.Name y py] (.ListComp elt [⟨target, iter, ifs, 0⟩] scope pos) spos) env) Q E s := by
  refine S.assignComp (f := fun i => xs[i]?.bind g) F hl hc hi (by simpa using hnn) co T.turn (fun D s' F' k' hD h0 => h D s' F' k' ?_ h0) hsw hs
  rwa [List.length_map, range_get] at hD
end
end Mine
end


-- L15
section
set_option maxHeartbeats 2000000
set_option autoImplicit false
namespace Mine
open AutoSeq1 (wpAny_loadPart')
section
variable {prog : Program} {w : World} {A : Around} {env : Env} {s₀ s s₁ : Shared} {m : Str → Option Value} {E : Value → Shared → Prop} {n : Nat}

/-- how the type was called is never asked beyond yes or no -/
theorem called_any {c : Value} {Q : Bool → Shared → Prop} (h : ∀ b, Q b s) : wpAny (model prog w) A (Builtin.SmallTypes.calledThroughType c) Q E s :=
  wpAny_bind (wpAny_stack_any fun _ => wpAny_pure (h _))
def enumObj (it : Addr) : Obj := { cls := .type "enumerate", dict := none, data := .fields #[.none, .bool false, .ref it, rawInt 0, .none, .none], slots := #[] }
/-- `enumerate(v)`, whatever `v` is, where its iterator is one new object -/
theorem enum_of (v : Value) (o : Obj) : MeetsIn prog w (Builtin.«enumerate.__new__» ⟨[.type "enumerate", v], []⟩) (fun A R s =>
    (∀ (A' : Around) (Q E : Value → Shared → Prop), Q (.ref s.heap.objs.size) { s with heap := s.heap.push o } → wpAny (model prog w) A' (pyIter v) Q E s) ∧
    R (.ok (.ret (.ref (s.heap.push o).objs.size))) { s with heap := (s.heap.push o).push (enumObj s.heap.objs.size) }) :=
  .of_wp fun A R s h => by
    obtain ⟨src, fin⟩ := h
    have isEnum := sub_enumerate
    wp_walk using called_any
    intro short
    cases short
    all_goals
      wp_walk using src
      exact ⟨_, rfl, fin⟩

theorem tup_draw {it t : Addr} {i k : Nat} {items : Array Value} {Q : Value → Shared → Prop} (hh : A.handled = none) (hit : IsTupIter s.heap it t i) (ht : s.heap.get? t = some (tupObj items k))
    (more : ∀ x h', items[i]? = some x → IsTupIter h' it t (i + 1) → Heap.SameBut it s.heap h' → Q x { s with heap := h' })
    (over : items[i]? = none → ∀ h' e, Heap.ExtBut it s.heap h' → (∃ o, h'.get? e = some o ∧ o.cls = .type "StopIteration") → E (.ref e) { s with heap := h' }) :
    wpAny (model prog w) A (Builtin.SmallTypes.nextOf (.ref it)) Q E s := by
  have tT := hit.typeIs
  obtain ⟨⟨c, dct, dat, sl⟩, ho, hc, hd⟩ := hit
  dsimp only at hc hd
  subst hc hd
  refine wpAny_bind (wpAny_callSpecial?_slot (name := Str.ofString "__next__") tT slot_tupleiter_next (wpAny_call_entry slot_tupleiter_next tT entry_tupleiter_next ?_ (args_tupleiter_next _)))
  wp_walk using wpAny_loadPart' ho, wpAny_loadPart' ht
  rw [Int.toNat_natCast]
  rcases hx : items[i]? with _ | x
  · dsimp only
    have quiet : A.in1.handled = none := hh
    wp_walk using wpAny_loadPart' ho
    unfold raiseNew
    wp_walk
    exact over hx _ _ (((Heap.SameBut.update ..).extBut.push _).push _) ⟨_, Heap.get?_push_size _ rfl, rfl⟩
  · dsimp only
    wp_walk using wpAny_loadPart' ho
    exact ⟨x, rfl, wpAny_pure (more x _ hx ⟨_, Heap.get?_update_self _ ho rfl, rfl, rfl⟩ (Heap.SameBut.update ..))⟩

theorem Draws.tuple (hh : A.handled = none) (it l : Addr) (hne : l ≠ it) (items : Array Value) (k : Nat) :
    Draws prog w A it [it, l] items.size (fun i v => items[i]? = some v) (fun i h => IsTupIter h it l i ∧ h.get? l = some (tupObj items k)) := by
  refine ⟨fun i h st => ?_, fun i h h' st keep => ?_, fun i s Q E hlt st h => ?_, fun s Q E st h => ?_⟩
  · obtain ⟨⟨o, ho, -⟩, -⟩ := st; exact ⟨o, ho⟩
  · obtain ⟨⟨o, ho, rest⟩, hl⟩ := st
    exact ⟨⟨o, keep it List.mem_cons_self o ho, rest⟩, keep l (List.mem_cons_of_mem _ List.mem_cons_self) _ hl⟩
  · refine tup_draw hh st.1 st.2 (fun x h' hx on same => h x h' s.toks hx ⟨on, same.extBut l _ hne st.2⟩ same) fun hx => ?_
    rw [Array.getElem?_eq_getElem hlt] at hx; cases hx
  · refine tup_draw hh st.1 st.2 (fun x h' hx => ?_) fun _ h' e => h h' e
    rw [Array.getElem?_eq_none (Nat.le_refl _)] at hx; cases hx

theorem call_enumerate_tuple {l : Addr} {items : Array Value} {k : Nat} {Q : Value → Shared → Prop} (hl : s.heap.get? l = some (tupObj items k))
    (h : ∀ h', IsEnum h' (s.heap.objs.size + 1) s.heap.objs.size 0 .none → IsTupIter h' s.heap.objs.size l 0 → h'.objs.size = s.heap.objs.size + 2 → Le s.heap h' → Q (.ref (s.heap.objs.size + 1)) { s with heap := h' }) :
    wpAny (model prog w) A (call (.type "enumerate") [.ref l]) Q E s := by
  refine callType_newIn F.called_enumerate (by decide) (F.typeCall_enumerate_1 _) (F.newCall_enumerate_1 _) (fun obj => F.args_object_init_2 obj _) F.entry_enumerate_new
    (enum_of (.ref l) { cls := .type "tuple_iterator", data := .fields #[.ref l, .int 0 0] }) ⟨fun A' Q' E' q => iter_tuple (tup_of hl) q, ?_⟩
  generalize hH : s.heap.push { cls := .type "tuple_iterator", data := .fields #[.ref l, .int 0 0] } = H
  have size : H.objs.size = s.heap.objs.size + 1 := hH ▸ Heap.size_push ..
  have iter : H.get? s.heap.objs.size = some { cls := .type "tuple_iterator", data := .fields #[.ref l, .int 0 0] } := hH ▸ Heap.get?_push_size _ rfl
  have made : (H.push (enumObj s.heap.objs.size)).get? H.objs.size = some (enumObj s.heap.objs.size) := Heap.get?_push_size _ rfl
  refine ⟨⟨_, made, rfl⟩, ?_⟩
  have fin := h (H.push (enumObj s.heap.objs.size)) (size ▸ made) ⟨_, Heap.get?_push_of_some _ iter, rfl, rfl⟩ (by rw [Heap.size_push, size]) fun b o e => Heap.get?_push_of_some _ (hH ▸ Heap.get?_push_of_some _ e)
  rw [size]; exact fin

/-- what `enumerate` walks over -/
theorem It.enum {elts : List Expr} {k : Nat} {tp : Pos} {e it : Addr} {fp fp' : List Addr} {n : Nat} {ds : List Dt} {items : List Value} {P : Nat → Value → Prop} {St : Nat → Heap → Prop} (D : Draws prog w A.in1 it fp n P St)
    (hei : e ≠ it) (hef : e ∉ fp) (hfr : ∀ i h h', St i h → (∀ b ∈ fp', ∀ o, h.get? b = some o → h'.get? b = some o) → KT h h' → St i h') (hP : ∀ i v, P i v → items[i]? = some v) (hds : items.length = ds.length)
    (hit : ∀ i h, St i h → ∃ o, h.get? it = some o ∧ ∀ items n, o ≠ tupObj items n) :
    It prog w A (.Tuple elts k tp) e [e, it] (e :: fp') n (fun i h v => ∃ d, ds[i]? = some d ∧ Rd h (.tup [.int i, d]) v) (fun i h => (∃ old, IsEnum h e it i old) ∧ St i h ∧ RdL h ds items) where
  frame := fun i h h' st hk kt => by
    obtain ⟨⟨old, he⟩, hs, hr⟩ := st
    exact ⟨⟨old, hk e (by simp) _ he⟩, hfr _ _ _ hs (fun b hb o x => hk b (List.mem_cons_of_mem _ hb) o x) kt, RdL.kt kt _ _ hr⟩
  next := fun i s Q E hi st h => by
    obtain ⟨⟨old, he⟩, hs, hr⟩ := st
    obtain ⟨oi, hoi, hni⟩ := hit _ _ hs
    refine wpAny_pyNext_enum_itemD D he hs hi hei hef fun x h' tk hPx ho hs' hT hsz hk => ?_
    dsimp only
    have heT : e ≠ s.heap.objs.size := Nat.ne_of_lt (Heap.lt_size he)
    refine wpAny_letOwnedTupleGo_enum ho fun h₂ he₂ hs₂ => ?_
    replace hs₂ : Heap.SameBut e h' h₂ := hs₂
    have keep : ∀ b o, b ∉ [e, it] → s.heap.get? b = some o → h₂.get? b = some o := fun b o hb y => by
      simp only [List.mem_cons, List.not_mem_nil, or_false, not_or] at hb
      exact hs₂.extBut b o hb.1 (hk b o hb.1 hb.2 y)
    have kb : KB [e, it] s { s with heap := h₂, toks := tk + 1 } := ⟨⟨_, _, rfl⟩, keep, fun b i n y => keep b _ (fun hb => by
      simp only [List.mem_cons, List.not_mem_nil, or_false] at hb
      rcases hb with rfl | rfl
      · rw [he] at y; have y := Option.some.inj y; have h := congrArg Obj.data y; cases h
      · rw [hoi] at y; exact hni i n (Option.some.inj y)) y⟩
    obtain ⟨d, hd, rd⟩ := hr.get' (hP _ _ hPx)
    have hT₂ : h₂.get? s.heap.objs.size = some (tupObj #[.int i tk, x] 0) := hs₂.extBut _ _ heT.symm hT
    have e1 : ((i + 1 : Nat) : Int) = (i : Int) + 1 := by omega
    refine h _ _ ⟨⟨x, by rw [e1]; exact he₂⟩, D.frame _ _ _ hs' fun b hb o y => hs₂.extBut b o (fun q => hef (q ▸ hb)) y, hr.kb kb⟩ kb ⟨d, hd, Rd.tup_iff.mpr ⟨_, [.int i tk, x], 0, rfl, hT₂, RdL.cons (Rd.int _ _) (RdL.cons (rd.kb kb) RdL.nil)⟩⟩
  done := fun s Q E st h => by
    obtain ⟨⟨old, he⟩, hs, hr⟩ := st
    obtain ⟨oi, hoi, hni⟩ := hit _ _ hs
    refine wpAny_pyNext_enum_endD D he hs fun h' hx => ⟨rfl, h _ ((KB.ext hoi hni hx).mono (by simp))⟩
  self := fun i s Q E st h => by
    obtain ⟨⟨old, he⟩, _⟩ := st
    exact wpAny_pyIter_enum he h
end
end Mine
end


-- L16
section
set_option maxHeartbeats 2000000
set_option autoImplicit false
namespace Mine
section
variable {prog : Program} {w : World} {A : Around} {env : Env} {s₀ s s₁ : Shared} {m : Str → Option Value} {E : Value → Shared → Prop} {n : Nat}

theorem fresh_ge {h h' : Heap} {a : Addr} (k : Le h h') (e : h'.objs.size ≤ a) : h.get? a = none := by
  cases e' : h.get? a with
  | none => rfl
  | some o => exact absurd (Heap.lt_size (k _ _ e')) (Nat.not_lt.mpr e)

theorem PeI.enumT {elts : List Expr} {tk : Nat} {tp : Pos} {np pos : Pos} {e : Expr} {ds : List Dt} (ok : AOk A n) (V : View env m s) (G : GG w s.heap) (hl : env.kindOf "enumerate" = some .globalImplicit)
    (x : Pe prog w A env s e (fun h v => Rd h (.tup ds) v))
    (he : starEach [e] env = (false, eval e env) :: starEach [] env := by rfl) (hplain : (backTo pos (starEach [] env)).any (·.1) = false := by rfl) :
    PeI prog w A env s (.Tuple elts tk tp) (.Call (.Name "enumerate" np) [e] [] pos) (fun _ => False) ds.length (fun i h v => ∃ d, ds[i]? = some d ∧ Rd h (.tup [.int i, d]) v) := fun E s₁ k => by
  have y : Pe prog w A env s₁ (.Call (.Name "enumerate" np) [e] [] pos) (fun h v => ∃ (a it l : Addr) (items : List Value) (n : Nat), v = .ref a ∧ s₁.heap.get? a = none ∧ s₁.heap.get? it = none ∧ a ≠ it ∧ l ≠ it ∧ a ≠ l ∧
      IsEnum h a it 0 .none ∧ IsTupIter h it l 0 ∧ h.get? l = some (tupObj items.toArray n) ∧ RdL h ds items) := by
    refine Pe.callT (V.le k.le) (G.le k.le) hl (benum w) (by boot_by_name) (by decide) (PeA.one (fun E s₂ k₂ => x E s₂ (k.trans k₂)) he) (fun E s₂ vs k₂ hv => ?_) (he := he) (hplain := hplain)
    obtain ⟨v, rfl, r⟩ := hv
    obtain ⟨l, items, n, rfl, ho, hr⟩ := Rd.tup_iff.mp r
    refine call_enumerate_tuple ho fun h' hen hit hsz hk => ?_
    have kb : KB [] s₂ { s₂ with heap := h', toks := s₂.toks } := KB.of_le hk
    have hll := Heap.lt_size ho
    refine ⟨kb, fun h'' l' => ⟨_, _, l, items, n, rfl, fresh_ge k₂.le (Nat.le_succ _), fresh_ge k₂.le (Nat.le_refl _), Nat.succ_ne_self _, Nat.ne_of_lt hll, (Nat.ne_of_lt (Nat.lt_succ_of_lt hll)).symm, l' _ _ hen, ?_, l' _ _ (hk _ _ ho), (hr.le kb.le).le l'⟩⟩
    obtain ⟨o, ho', r'⟩ := hit
    exact ⟨o, l' _ _ ho', r'⟩
  refine y.use (KB.refl _ _) fun v s₂ k₂ r => ?_
  obtain ⟨a, it, l, items, n', rfl, ha, hit, hne, hli, hal, hen, hiter, hL, hr⟩ := r _ (Le.refl _)
  have hIt : ∀ i h, IsTupIter h it l i ∧ h.get? l = some (tupObj items.toArray n') → ∃ o, h.get? it = some o ∧ ∀ items n, o ≠ tupObj items n := fun i h hs => by
    obtain ⟨⟨o, ho, hc, hd⟩, _⟩ := hs
    exact ⟨o, ho, fun i n e => by rw [e] at hd; cases hd⟩
  have T := It.enum (elts := elts) (k := tk) (tp := tp) (A := A) (prog := prog) (w := w) (e := a) (items := items) (Draws.tuple (prog := prog) (w := w) (A := A.in1) (by exact ok.handled) it l hli items.toArray n') (fp' := [it]) hne (by simp only [List.mem_cons, List.not_mem_nil, or_false, not_or]; exact ⟨hne, hal⟩)
    (fun i h h' hs hk kt => ⟨let ⟨o, ho, r⟩ := hs.1; ⟨o, hk it (by simp) o ho, r⟩, kt _ _ _ hs.2⟩) (fun i v h => by simpa using h) hr.length hIt
  have hsz : items.toArray.size = ds.length := by simp [hr.length]
  rw [hsz] at T
  refine wpAny_pyIter_enum hen ⟨k₂, a, [a, it], [a, it], _, rfl, T, ⟨⟨_, hen⟩, ⟨hiter, hL⟩, hr⟩, ?_, ?_, ?_, ?_⟩
  · intro b hb; simp only [List.mem_cons, List.not_mem_nil, or_false] at hb; rcases hb with rfl | rfl
    · exact ha
    · exact hit
  · intro b hb; simp only [List.mem_cons, List.not_mem_nil, or_false] at hb; rcases hb with rfl | rfl
    · rw [hen]; rfl
    · obtain ⟨o, ho, _⟩ := hiter; rw [ho]; rfl
  · intro b hb; simp only [List.mem_cons, List.not_mem_nil, or_false] at hb; rcases hb with rfl | rfl
    · exact .inl ha
    · exact .inl hit
  · intro b hb; simp only [List.mem_cons, List.not_mem_nil, or_false] at hb; rcases hb with rfl | rfl
    · rw [hen]; rfl
    · obtain ⟨o, ho, _⟩ := hiter; rw [ho]; rfl

theorem PeI.enumL {elts : List Expr} {tk : Nat} {tp : Pos} {np pos : Pos} {e : Expr} {ds : List Dt} (S : Addr → Prop) (ok : AOk A n) (V : View env m s) (G : GG w s.heap) (hl : env.kindOf "enumerate" = some .globalImplicit)
    (x : Pe prog w A env s e (fun h v => ∃ l, v = .ref l ∧ LT h l ds ∧ S l))
    (he : starEach [e] env = (false, eval e env) :: starEach [] env := by rfl) (hplain : (backTo pos (starEach [] env)).any (·.1) = false := by rfl) :
    PeI prog w A env s (.Tuple elts tk tp) (.Call (.Name "enumerate" np) [e] [] pos) S ds.length (fun i h v => ∃ d, ds[i]? = some d ∧ Rd h (.tup [.int i, d]) v) := fun E s₁ k => by
  have y : Pe prog w A env s₁ (.Call (.Name "enumerate" np) [e] [] pos) (fun h v => ∃ (a it l : Addr) (items : List Value) (n : Nat), v = .ref a ∧ s₁.heap.get? a = none ∧ s₁.heap.get? it = none ∧ a ≠ it ∧ l ≠ it ∧ a ≠ l ∧
      IsEnum h a it 0 .none ∧ h.IsListIter it l 0 ∧ h.get? l = some (lstObj items.toArray n) ∧ RdL h ds items ∧ S l) := by
    refine Pe.callT (V.le k.le) (G.le k.le) hl (benum w) (by boot_by_name) (by decide) (PeA.one (fun E s₂ k₂ => x E s₂ (k.trans k₂)) he) (fun E s₂ vs k₂ hv => ?_) (he := he) (hplain := hplain)
    obtain ⟨v, rfl, l, rfl, ⟨items, n, ho, hr⟩, hSl⟩ := hv
    refine call_enumerate_list (lst_of ho) fun h' hen hit hsz hk => ?_
    have kb : KB [] s₂ { s₂ with heap := h', toks := s₂.toks } := KB.of_le hk
    have hll := Heap.lt_size ho
    refine ⟨kb, fun h'' l' => ⟨_, _, l, items, n, rfl, fresh_ge k₂.le (Nat.le_succ _), fresh_ge k₂.le (Nat.le_refl _), Nat.succ_ne_self _, Nat.ne_of_lt hll, (Nat.ne_of_lt (Nat.lt_succ_of_lt hll)).symm, l' _ _ hen, ?_, l' _ _ (hk _ _ ho), (hr.le kb.le).le l', hSl⟩⟩
    obtain ⟨o, ho', r'⟩ := hit
    exact ⟨o, l' _ _ ho', r'⟩
  refine y.use (KB.refl _ _) fun v s₂ k₂ r => ?_
  obtain ⟨a, it, l, items, n', rfl, ha, hit, hne, hli, hal, hen, hiter, hL, hr, hSl⟩ := r _ (Le.refl _)
  have hIt : ∀ i (h : Heap), h.IsListIter it l i ∧ h.IsList l items.toArray → ∃ o, h.get? it = some o ∧ ∀ items n, o ≠ tupObj items n := fun i h hs => by
    obtain ⟨⟨o, ho, hc, hd⟩, _⟩ := hs
    exact ⟨o, ho, fun i n e => by rw [e] at hd; cases hd⟩
  have T := It.enum (elts := elts) (k := tk) (tp := tp) (A := A) (prog := prog) (w := w) (e := a) (items := items) (Draws.list (prog := prog) (w := w) (A := A.in1) (by exact ok.handled) it l hli items.toArray) (fp' := [it, l]) hne (by simp only [List.mem_cons, List.not_mem_nil, or_false, not_or]; exact ⟨hne, hal⟩)
    (fun i h h' hs hk kt => ⟨hs.1.at fun o e => hk it (by simp) o e, hs.2.at fun o e => hk l (by simp) o e⟩) (fun i v h => by simpa using h) hr.length hIt
  have hsz : items.toArray.size = ds.length := by simp [hr.length]
  rw [hsz] at T
  refine wpAny_pyIter_enum hen ⟨k₂, a, [a, it], [a, it, l], _, rfl, T, ⟨⟨_, hen⟩, ⟨hiter, lst_of hL⟩, hr⟩, ?_, ?_, ?_, ?_⟩
  · intro b hb; simp only [List.mem_cons, List.not_mem_nil, or_false] at hb; rcases hb with rfl | rfl
    · exact ha
    · exact hit
  · intro b hb; simp only [List.mem_cons, List.not_mem_nil, or_false] at hb; rcases hb with rfl | rfl
    · rw [hen]; rfl
    · obtain ⟨o, ho, _⟩ := hiter; rw [ho]; rfl
  · intro b hb; simp only [List.mem_cons, List.not_mem_nil, or_false] at hb; rcases hb with rfl | rfl | rfl
    · exact .inl ha
    · exact .inl hit
    · exact .inr hSl
  · intro b hb; simp only [List.mem_cons, List.not_mem_nil, or_false] at hb; rcases hb with rfl | rfl | rfl
    · rw [hen]; rfl
    · obtain ⟨o, ho, _⟩ := hiter; rw [ho]; rfl
    · rw [hL]; rfl

/-! ### storing into the targets of a frame -/
def FAsg (prog : Program) (w : World) (A : Around) (s₀ : Shared) (env : Env) (s : Shared) (target : Expr) (v : Value) (m m2 : Str → Option Value) (X : List Addr) : Prop :=
  ∀ (E : Value → Shared → Prop) (Q : Unit → Shared → Prop) (s₁ : Shared), KT s.heap s₁.heap → Frm s₀ env m s₁ → (∀ s', Frm s₀ env m2 s' → KB X s₁ s' → Q () s') → wpAny (model prog w) A (PySem.assign target env v) Q E s₁
theorem FAsg.loc {x : Str} {p : Pos} {v : Value} {X : List Addr} (hX : env.locals ∈ X) (hl : env.kindOf x = some .local) (hc : env.cells.lookup x = none) : FAsg prog w A s₀ env s (.Name x p) v m (upd m x v) X :=
  fun E Q s₁ kt F h => wpAny_assign_Name (F.storeL hl hc fun s' F' k => h s' F' (k.mono (by simpa using hX)))
theorem FAsg.cel {x : Str} {p : Pos} {v : Value} {c : Addr} {X : List Addr} (hX : c ∈ X) (hl : env.kindOf x = some .cell) (hc : env.cells.lookup x = some c) : FAsg prog w A s₀ env s (.Name x p) v m (upd m x v) X :=
  fun E Q s₁ kt F h => wpAny_assign_Name (F.storeC hl hc fun s' F' k => h s' F' (k.mono (by simpa using hX)))
theorem FAsg.tup2 {t₁ t₂ : Expr} {k : Nat} {tp : Pos} {v₁ v₂ : Value} {a : Addr} {n' : Nat} {m₁ m₂ : Str → Option Value} {X : List Addr} (hh : A.handled = none) (ho : s.heap.get? a = some (tupObj #[v₁, v₂] n'))
    (x : FAsg prog w A s₀ env s t₁ v₁ m m₁ X) (y : FAsg prog w A s₀ env s t₂ v₂ m₁ m₂ X)
    (h2 : assignEach [t₁, t₂] env = [(false, PySem.assign t₁ env), (false, PySem.assign t₂ env)] := by rfl) : FAsg prog w A s₀ env s (.Tuple [t₁, t₂] k tp) (.ref a) m m₂ X := fun E Q s₁ kt F h => by
  refine assign_Tuple_tuple hh (tup_of (kt _ _ _ ho)) (by rw [h2]; rfl) (by rw [h2]; rfl) fun h' he => ?_
  have kb : KB [] s₁ { s₁ with heap := h', toks := s₁.toks } := KB.of_le (fun b o e => he b o (Nat.ne_of_lt (Heap.lt_size e)) e)
  rw [h2]
  refine assignInOrder_cons (x E _ _ (fun b i n e => kb.tup b i n (kt b i n e)) (F.le kb) fun s₂ F₂ k₂ => ?_)
  refine assignInOrder_cons (y E _ _ (fun b i n e => k₂.tup b i n (kb.tup b i n (kt b i n e))) F₂ fun s₃ F₃ k₃ => ?_)
  exact assignInOrder_nil (h s₃ F₃ (((kb.of_nil _).trans k₂).trans k₃))
theorem FAsg.run {target : Expr} {v : Value} {m2 : Str → Option Value} {X : List Addr} {Q : Unit → Shared → Prop} (x : FAsg prog w A s₀ env s target v m m2 X) (F : Frm s₀ env m s) (h : ∀ s', Frm s₀ env m2 s' → KB X s s' → Q () s') :
    wpAny (model prog w) A (PySem.assign target env v) Q E s := x E Q s (fun _ _ _ e => e) F h
theorem Rd.two {h : Heap} {d₁ d₂ : Dt} {v : Value} (x : Rd h (.tup [d₁, d₂]) v) : ∃ a n v₁ v₂, v = .ref a ∧ h.get? a = some (tupObj #[v₁, v₂] n) ∧ Rd h d₁ v₁ ∧ Rd h d₂ v₂ := by
  obtain ⟨a, items, k, rfl, ho, hr⟩ := Rd.tup_iff.mp x
  unfold RdL at hr
  obtain ⟨v1, r, rfl, h1, hr⟩ := hr
  unfold RdL at hr
  obtain ⟨v2, r, rfl, h2, hr⟩ := hr
  unfold RdL at hr
  subst hr
  exact ⟨a, k, v1, v2, rfl, ho, h1, h2⟩
end
end Mine
end


-- L17
section
set_option maxHeartbeats 2000000
set_option autoImplicit false
namespace Mine

theorem View.sub {env : Env} {m m' : Str → Option Value} {s : Shared} (V : View env m s) (h : ∀ x v, m' x = some v → m x = some v) : View env m' s := by
  refine ⟨V.kind, V.globals, V.builtins, ?_, fun x c hx => ?_⟩
  · obtain ⟨ml, hn, he⟩ := V.ns
    exact ⟨ml, hn, fun x v hl hv => he x v hl (h x v hv)⟩
  · obtain ⟨v₀, hv₀, e⟩ := V.cell x c hx
    exact ⟨v₀, hv₀, fun v hv => e v (h x v hv)⟩

section
variable {prog : Program} {w : World} {M : Model} {A : Around} {env cenv : Env} {s₀ s s₁ s' : Shared} {m : Str → Option Value} {E : Value → Shared → Prop} {n : Nat} {R : Result → Shared → Prop}

/-- an inner clause begins: the iterator that it was handed may be asked for its own once more -/
theorem start_inner {elt : Expr} {gens : List Comprehension} {scope : Scope} {pos : Pos} {d : Nat} {g : Comprehension} {it acc : Value} (hg : gens[d]? = some g) (ha : g.is_async = 0)
    (same : codeAny (model prog w) A (.compLoop (.ListComp elt gens scope pos) d it acc env) R s)
    (more : ∀ E' : Value → Shared → Prop, wpAny (model prog w) A (pyIter it) (fun it' s' => codeAny (model prog w) A (.compLoop (.ListComp elt gens scope pos) d it' acc env) R s') E' s) :
    codeAny (model prog w) A (.compStart (.ListComp elt gens scope pos) d it acc env) R s := by
  refine codeAny_of_tree (wpAny_notedAt ?_)
  change wpAny _ A _ _ _ _
  unfold compStart
  have hc : (clausesOf (.ListComp elt gens scope pos))[d]? = some g := hg
  simp only [hc, Option.elim_some, ha]
  refine wpAny_ite_false (by rfl) (wpAny_bind (wpAny_askSetting (wpAny_ite ?_)))
  split
  · exact wpAny_bind (wpAny_pure (wpAny_pure ⟨rfl, same⟩))
  · refine wpAny_bind (wpAny_rule ?_)
    exact wpAny_bind (wpAny_standAt (wpAny_bind (wpAny_mono (more _) (fun _ _ h => wpAny_pure ⟨rfl, h⟩) fun _ _ e => e)))

/-- the loop of a clause that another clause follows -/
theorem branch_loop {elt target iter target2 iter2 : Expr} {ifs2 : List Expr} {gens : List Comprehension} {scope : Scope} {pos : Pos} {d : Nat} {I : Addr} {acc : Value} {wr fp : List Addr} {P : Nat → Heap → Value → Prop} {St : Nat → Heap → Prop}
    (hg : gens[d]? = some ⟨target, iter, [], 0⟩) (hnext : gens[d + 1]? = some ⟨target2, iter2, ifs2, 0⟩)
    (T : It prog w A target I wr fp n P St) (J : Nat → Shared → Prop) (X : List Addr) (hfp : ∀ b ∈ fp, b ∉ X)
    (hst : ∀ i s₁ s₂, J i s₁ → KB wr s₁ s₂ → J i s₂)
    (turn : ∀ i s₁ v, i < n → J i s₁ → P i s₁.heap v → ∀ E' : Value → Shared → Prop, wpAny (model prog w) A (PySem.assign target cenv v) (fun _ s₂ => wpAny (model prog w) A (eval iter2 cenv) (fun x s₃ => wpAny (model prog w) A (pyIter x) (fun it' s₄ =>
      ∀ R' : Result → Shared → Prop, (∀ s₅, J (i + 1) s₅ ∧ KB X s₁ s₅ → R' (.ok .next) s₅) → codeAny (model prog w) A (.compStart (.ListComp elt gens scope pos) (d + 1) it' acc cenv) R' s₄) E' s₃) E' s₂) E' s₁)
    (fin : ∀ s₁, J n s₁ → R (.ok .next) s₁) (h0 : J 0 s) (st0 : St 0 s.heap)
    (hs : ∀ x, foldedSetIterable iter2 cenv x = pure x := by intro _; rfl) :
    codeAny (model prog w) A (.compLoop (.ListComp elt gens scope pos) d (.ref I) acc cenv) R s := by
  refine codeAny_loop rfl (fun left s' => ∃ i, i + left = n ∧ J i s' ∧ St i s'.heap) (fun left s' hI => wpAny_noted ?_) n ⟨0, Nat.zero_add n, h0, st0⟩
  obtain ⟨i, hi, hJ, hSt⟩ := hI
  unfold compTurn
  simp only [hg, hnext, List.forIn_nil, pure_bind, if_true]
  refine wpAny_bind (wpAny_standAt (wpAny_ite_false (by rfl) (wpAny_bind ?_)))
  change wpAny _ A _ _ _ _
  cases left with
  | zero =>
    obtain rfl : i = n := by omega
    refine wpAny_mono (T.done s' (J i) _ hSt fun z k => hst i s' z hJ k) (fun r z hz => ?_) fun _ _ e => e
    obtain ⟨rfl, hz⟩ := hz
    exact wpAny_pure (fin z hz)
  | succ left =>
    have hlt : i < n := by omega
    refine wpAny_mono (T.next i s' (fun v z => J i z ∧ St (i + 1) z.heap ∧ P i z.heap v) _ hlt hSt fun v z hz k hP => ⟨hst i s' z hJ k, hz, hP⟩) (fun r z hz => ?_) fun _ _ e => e
    cases r with
    | none => exact hz.elim
    | some v =>
      refine wpAny_bind (wpAny_mono hz (fun _ a ha => ?_) fun _ _ e => e)
      obtain ⟨hJa, hSa, hPa⟩ := ha
      refine wpAny_bind (wpAny_mono (turn i a v hlt hJa hPa _) (fun _ b hb => ?_) fun _ _ e => e)
      refine wpAny_bind (wpAny_mono hb (fun x c hc => wpAny_bind (wpAny_standAt (wpAny_ite_false (by rfl) ?_))) fun _ _ e => e)
      rw [hs x, pure_bind]
      refine wpAny_bind (wpAny_holding (wpAny_ite_false (by rfl) (wpAny_mono hc (fun it' y hy => ?_) fun _ _ e => e)))
      refine wpAny_bind (wpAny_runOwn (h := none) (hy _ fun q hq => wpAny_pure ⟨rfl, left, Nat.lt_succ_self left, i + 1, by omega, hq.1, ?_⟩))
      exact T.frame _ _ _ hSa (fun c hc o e => hq.2.keep c o (hfp c hc) e) hq.2.kt
end
end Mine
end


-- L18
section
set_option maxHeartbeats 2000000
set_option autoImplicit false
namespace Mine
section
variable {prog : Program} {w : World} {M : Model} {A : Around} {env cenv : Env} {s₀ s s₁ s' : Shared} {m : Str → Option Value} {E : Value → Shared → Prop} {n : Nat} {R : Result → Shared → Prop}

theorem View.other {X : List Addr} (V : View env m s) (k : KB X s s') (hL : env.locals ∉ X) (hc : ∀ x c, env.cells.lookup x = some c → c ∉ X) : View env m s' := by
  refine ⟨V.kind, V.globals, V.builtins, ?_, fun x c hx => ?_⟩
  · obtain ⟨ml, hn, he⟩ := V.ns
    exact ⟨ml, hn.at' fun o e => k.keep _ o hL e, he⟩
  · obtain ⟨v₀, ⟨o, ho, hd⟩, e⟩ := V.cell x c hx
    exact ⟨v₀, ⟨o, k.keep _ o (hc x c hx) ho, hd⟩, e⟩

theorem rows_len {n : Nat} (rows : Nat → List Dt) (hrow : ∀ i < n, (rows i).length < 300) : ∀ {i : Nat}, i ≤ n → ((List.range i).flatMap rows).length ≤ i * 300
  | 0, _ => by simp
  | i + 1, h => by
    rw [List.range_succ, List.flatMap_append, List.length_append]
    have h1 := rows_len rows hrow (i := i) (by omega)
    have h2 := hrow i (by omega)
    have h3 : ([i].flatMap rows).length = (rows i).length := by simp
    omega
/-- what the inner clause of a two-clause comprehension does in one turn of the outer one -/
def Inner (prog : Program) (w : World) (A : Around) (cenv : Env) (s s₁ s₂ : Shared) (m2 : Str → Option Value) (target2 iter2 elt : Expr) (ifs2 : List Expr) (row : List Dt) : Prop :=
  ∃ (n₂ : Nat) (P₂ : Nat → Heap → Value → Prop) (f₂ : Nat → Option Dt), PeI prog w A cenv s₂ target2 iter2 (fun _ => False) n₂ P₂ ∧ n₂ < 300 ∧ row = (List.range n₂).filterMap f₂ ∧
    ∀ j u s₃, j < n₂ → KB [] s s₃ → KT s₁.heap s₃.heap → P₂ j s₃.heap u → View cenv m2 s₃ → (∀ y c, cenv.cells.lookup y = some c → c ≠ cenv.locals) →
      ∃ m3 b d, Asg prog w A cenv target2 u m3 s₃ ∧ (∀ x v, m2 x = some v → m3 x = some v) ∧ (∀ s₄, KB [] s s₄ → KT s₃.heap s₄.heap → View cenv m3 s₄ →
        PtL prog w A cenv s₄ ifs2 b ∧ (b = true → Pe prog w A cenv s₄ elt (fun h v => Rd h d v))) ∧ f₂ j = if b = true then some d else none

theorem comp_core2 {elt target iter target2 iter2 : Expr} {ifs2 : List Expr} {scope : Scope} {pos p : Pos} {cl : List (Str × Addr)} {src : Addr → Prop} {P : Nat → Heap → Value → Prop} {rows : Nat → List Dt} {use : Option (Value → Sem Unit)} {Q : Value → Shared → Prop}
    (hi : PeI prog w A env s target iter src n P) (hnn : n < 300) (V : View env m s)
    (hclos : closureFor scope env = pure cl) (hcl : ∀ y c, cl.lookup y = some c → env.cells.lookup y = some c)
    (hcell : ∀ y ∈ scope.names, y.2 ≠ .cell) (hkind : scope.kind = .function) (hnames : ∀ x ∈ scope.names, x.2 = .local → scope.names.lookup x.1 = some .local)
    (hloc : ∀ C, (cl.all fun p => (compEnvC scope cl C env).kindOf p.1 != some .local) = true)
    (turn : ∀ i v s₁ C, i < n → KB [] s s₁ → P i s₁.heap v → View (compEnvC scope cl C env) (cap cl m) s₁ → (∀ y c, (compEnvC scope cl C env).cells.lookup y = some c → c ≠ (compEnvC scope cl C env).locals) →
      ∃ m2, Asg prog w A (compEnvC scope cl C env) target v m2 s₁ ∧ (∀ s₂, KB [] s s₂ → KT s₁.heap s₂.heap → View (compEnvC scope cl C env) m2 s₂ →
        Inner prog w A (compEnvC scope cl C env) s s₁ s₂ m2 target2 iter2 elt ifs2 (rows i)))
    (fin : ∀ D C s', KB [] s s' → s.heap.get? C = none → (∃ ml, s'.heap.Ns C ml) → LT s'.heap D ((List.range n).flatMap rows) → D ≠ C → s.heap.get? D = none → compPost (model prog w) A E use Q (.ref D) C (.ok .next) s')
    (hrow : ∀ i < n, (rows i).length < 300)
    (hs : ∀ x, foldedSetIterable iter env x = pure x := by intro _; rfl) (hs2 : ∀ cenv x, foldedSetIterable iter2 cenv x = pure x := by intro _ _; rfl) :
    wpAny (model prog w) A (comprehension (.ListComp elt [⟨target, iter, [], 0⟩, ⟨target2, iter2, ifs2, 0⟩] scope pos) scope env p (newList []) false (eval iter env) use) Q E s := by
  refine wpAny_comprehension_free (g := ⟨target, iter, [], 0⟩) (gs := [⟨target2, iter2, ifs2, 0⟩]) rfl hs hclos hkind hnames (wpAny_mono (hi E s (KB.refl _ _)) (fun x s₁ h₁ => wpAny_mono h₁ (fun it s₂ h₂ => ?_) fun _ _ z => z) fun _ _ z => z)
  obtain ⟨k₂, I, wr, fp, St, rfl, T, st, wnew, wlive, -, flive⟩ := h₂
  refine opened hcell hkind fun D C s₃ k₃ hD hC hDC empty hsc => ?_
  have D0 : s.heap.get? D = none := unborn_le k₂.le hD
  have C0 : s.heap.get? C = none := unborn_le k₂.le hC
  have st₃ : St 0 s₃.heap := T.frame _ _ _ st (fun b _ o e => k₃.le b o e) k₃.kt
  have cells : ∀ {y c}, cl.lookup y = some c → (s.heap.get? c).isSome = true := fun {y c} hy => by
    obtain ⟨v₀, ⟨o, ho, _⟩, _⟩ := V.cell y c (hcl y c hy)
    exact Option.isSome_iff_exists.mpr ⟨o, ho⟩
  have coff : ∀ y c, (compEnvC scope cl C env).cells.lookup y = some c → c ≠ (compEnvC scope cl C env).locals := fun y c hy => ne_of_live (cells hy) C0
  have wC : C ∉ wr := fun hm => ne_of_live (wlive C hm) hC rfl
  have wD : D ∉ wr := fun hm => ne_of_live (wlive D hm) hD rfl
  have bornC : ∀ {a : Addr}, a ∈ [C] → s.heap.get? a = none := fun ha => List.mem_singleton.mp ha ▸ C0
  have bornD : ∀ {a : Addr}, a ∈ [D] → s.heap.get? a = none := fun ha => List.mem_singleton.mp ha ▸ D0
  have offCD : ∀ {b : Addr}, b ≠ C → b ≠ D → b ∉ [C, D] := fun h1 h2 hm => (List.mem_cons.mp hm).elim h1 fun hm => h2 (List.mem_singleton.mp hm)
  have loop : codeAny (model prog w) A (.compLoop (.ListComp elt [⟨target, iter, [], 0⟩, ⟨target2, iter2, ifs2, 0⟩] scope pos) 0 (.ref I) (.ref D) (compEnvC scope cl C env)) (compPost (model prog w) A E use Q (.ref D) C) s₃ := by
    refine branch_loop rfl rfl T (fun i z => KB [] s z ∧ (∃ ml, z.heap.Ns C ml) ∧ LT z.heap D ((List.range i).flatMap rows)) [C, D] (fun b hb => offCD (ne_of_live (flive b hb) hC) (ne_of_live (flive b hb) hD))
      (fun i a b hJ k => ?_) (fun i a v hlt hJ hP E' => ?_) (fun a hJ => fin D C a hJ.1 C0 hJ.2.1 hJ.2.2 hDC D0) ⟨k₂.trans k₃, hsc, empty⟩ st₃ (hs2 _)
    · obtain ⟨ka, ⟨ml, hml⟩, hla⟩ := hJ
      exact ⟨ka.drop k wnew, ⟨ml, hml.at' fun o e => k.keep C o wC e⟩, hla.kb k wD⟩
    · obtain ⟨ka, ⟨ml, hml⟩, hla⟩ := hJ
      obtain ⟨m2, asg, told⟩ := turn i v a C hlt ka hP ((V.le ka.le).comp hkind hcl (hloc C) hml) coff
      refine asg E' _ fun z kz Vz => ?_
      have kz : KB [C] a z := kz
      have ks := ka.drop kz fun _ => bornC
      obtain ⟨n₂, P₂, f₂, src2, hn₂, hrow2, inn⟩ := told z ks kz.kt Vz
      have hlz : LT z.heap D ((List.range i).flatMap rows) := hla.kb kz (by simpa using hDC)
      have liveC : (z.heap.get? C).isSome = true := by
        obtain ⟨mz, ⟨o, _, _, ho, _⟩, -⟩ := Vz.ns
        exact Option.isSome_iff_exists.mpr ⟨o, ho⟩
      have liveD : (z.heap.get? D).isSome = true := by
        obtain ⟨_, _, ho, -⟩ := hlz
        exact Option.isSome_iff_exists.mpr ⟨_, ho⟩
      refine wpAny_mono (src2 E' z (KB.refl _ _)) (fun x y hy => wpAny_mono hy (fun it' q hq => ?_) fun _ _ e => e) fun _ _ e => e
      obtain ⟨kq, I2, wr2, fp2, St2, rfl, T2, st2, new2, -, fnew2, -⟩ := hq
      intro R' fin'
      have C2 : C ∉ wr2 := fun hm => ne_of_live liveC (new2 C hm) rfl
      have D2 : D ∉ wr2 := fun hm => ne_of_live liveD (new2 D hm) rfl
      have new2s : ∀ b ∈ wr2, s.heap.get? b = none := fun b hb => unborn_le ks.le (new2 b hb)
      have new2a : ∀ b ∈ wr2, a.heap.get? b = none := fun b hb => by
        rcases e : a.heap.get? b with _ | o
        · rfl
        · have := kz.keep b o (fun hm => C2 (List.mem_singleton.mp hm ▸ hb)) e
          rw [new2 b hb] at this; cases this
      have row0 := rows_len rows hrow (i := i) (Nat.le_of_lt hlt)
      have inner : codeAny (model prog w) A (.compLoop (.ListComp elt [⟨target, iter, [], 0⟩, ⟨target2, iter2, ifs2, 0⟩] scope pos) 1 (.ref I2) (.ref D) (compEnvC scope cl C env)) R' q := by
        refine leaf_loop rfl rfl T2 (fun j y => KB [] s y ∧ KB [C, D] a y ∧ View (compEnvC scope cl C env) m2 y ∧ LT y.heap D ((List.range i).flatMap rows ++ (List.range j).filterMap f₂)) [C, D]
          (fun b hb => ?_) (fun j x y hJ k => ?_) (fun j x u hj hJ hPj E'' => ?_) (fun x hJ => ?_) ⟨ks.trans kq, (kz.mono (by simp)).trans (kq.of_nil _), Vz.le kq.le, by simpa using hlz.le kq.le⟩ st2
        · have hb := (fnew2 b hb).resolve_right id
          exact offCD (ne_of_live liveC hb).symm (ne_of_live liveD hb).symm
        · obtain ⟨k1, k2, V2, l2⟩ := hJ
          refine ⟨k1.drop k new2s, k2.dropX k new2a, V2.other k C2 fun y c hy hm => ?_, l2.kb k D2⟩
          exact ne_of_live (cells hy) (new2s c hm) rfl
        · obtain ⟨k1, k2, V2, l2⟩ := hJ
          obtain ⟨m3, b, d, asg2, hm3, told2, hf2⟩ := inn j u x hj k1 k2.kt hPj V2 coff
          refine asg2 E'' _ fun y ky Vy => ⟨b, ?_⟩
          have ky : KB [C] x y := ky
          have ks' := k1.drop ky fun _ => bornC
          obtain ⟨tests, made⟩ := told2 y ks' ky.kt Vy
          refine ⟨tests, fun r kr => ?_⟩
          have Vr := (Vy.sub hm3).le kr.le
          have lr := (l2.kb ky (by simpa using hDC)).le kr.le
          have kxr : KB [C, D] x r := (ky.mono (by simp)).trans (kr.of_nil _)
          have more : (List.range (j + 1)).filterMap f₂ = (List.range j).filterMap f₂ ++ (if b = true then [d] else []) := by
            rw [List.range_succ, List.filterMap_append]
            cases b <;> simp [hf2]
          rw [more, ← List.append_assoc]
          cases b with
          | false => exact ⟨⟨ks'.trans kr, k2.trans kxr, Vr, by simpa using lr⟩, kxr⟩
          | true =>
            refine (made rfl).use kr fun w' t kt' hx => (lr.le kt'.le).append (hx _ (Le.refl _)) ?_ fun g kg _ lg => ?_
            · have := List.length_filterMap_le f₂ (List.range j)
              rw [List.length_range] at this
              rw [List.length_append]; omega
            · have kxg : KB [C, D] x g := (kxr.trans (kt'.of_nil _)).trans (kg.mono (by simp))
              refine ⟨⟨((ks'.trans kr).trans kt').drop kg fun _ => bornD, k2.trans kxg, (Vr.le kt'.le).other kg (fun hm => hDC (List.mem_singleton.mp hm).symm) fun y c hy hm => ?_, lg⟩, kxg⟩
              exact ne_of_live (cells hy) (bornD hm) rfl
        · obtain ⟨k1, k2, V2, l2⟩ := hJ
          obtain ⟨ml', hml', -⟩ := V2.ns
          refine fin' x ⟨⟨k1, ⟨ml', hml'⟩, ?_⟩, k2⟩
          rw [List.range_succ, List.flatMap_append, List.flatMap_singleton, hrow2]
          exact l2
      exact start_inner rfl rfl inner fun E => T2.self 0 _ _ _ st2 inner
  exact codeAny_compStart_list loop (T.self 0 _ _ _ st₃ loop)
end
end Mine
end


-- L19
section
set_option maxHeartbeats 2000000
set_option autoImplicit false
namespace Mine
section
variable {prog : Program} {w : World} {M : Model} {A : Around} {env cenv : Env} {s₀ s s₁ s' : Shared} {m m' : Str → Option Value} {E : Value → Shared → Prop} {n : Nat}

/-- what one turn of the outer clause gives -/
def Turn2 (prog : Program) (w : World) (A : Around) (scope : Scope) (cl : List (Str × Addr)) (env : Env) (m : Str → Option Value) (s : Shared) (target target2 iter2 elt : Expr) (ifs2 : List Expr) (n : Nat) (P : Nat → Heap → Value → Prop) (rows : Nat → List Dt) : Prop :=
  ∀ i v s₁ C, i < n → KB [] s s₁ → P i s₁.heap v → View (compEnvC scope cl C env) (cap cl m) s₁ → (∀ y c, (compEnvC scope cl C env).cells.lookup y = some c → c ≠ (compEnvC scope cl C env).locals) →
      ∃ m2, Asg prog w A (compEnvC scope cl C env) target v m2 s₁ ∧ (∀ s₂, KB [] s s₂ → KT s₁.heap s₂.heap → View (compEnvC scope cl C env) m2 s₂ →
        Inner prog w A (compEnvC scope cl C env) s s₁ s₂ m2 target2 iter2 elt ifs2 (rows i))
theorem Inner.later {cenv : Env} {s s' s₁ s₂ : Shared} {m2 : Str → Option Value} {target2 iter2 elt : Expr} {ifs2 : List Expr} {row : List Dt} (x : Inner prog w A cenv s s₁ s₂ m2 target2 iter2 elt ifs2 row) (k : KB [] s s') :
    Inner prog w A cenv s' s₁ s₂ m2 target2 iter2 elt ifs2 row := by
  obtain ⟨n₂, P₂, f₂, h1, h2, h3, h4⟩ := x
  refine ⟨n₂, P₂, f₂, h1, h2, h3, fun j u s₃ hj ka kt hP V off => ?_⟩
  obtain ⟨m3, b, d, g1, g2, g3, g4⟩ := h4 j u s₃ hj (k.trans ka) kt hP V off
  exact ⟨m3, b, d, g1, g2, fun s₄ kb => g3 s₄ (k.trans kb), g4⟩

theorem Pe.comp2 {elt target iter target2 iter2 : Expr} {ifs2 : List Expr} {scope : Scope} {pos : Pos} {cl : List (Str × Addr)} {src : Addr → Prop} {P : Nat → Heap → Value → Prop} {rows : Nat → List Dt}
    (hi : PeI prog w A env s target iter src n P) (hnn : n < 300) (V : View env m s) (co : CompOk scope env cl)
    (turn : Turn2 prog w A scope cl env m s target target2 iter2 elt ifs2 n P rows) (hrow : ∀ i < n, (rows i).length < 300)
    (hs : ∀ x, foldedSetIterable iter env x = pure x := by intro _; rfl) (hs2 : ∀ cenv x, foldedSetIterable iter2 cenv x = pure x := by intro _ _; rfl) :
    Pe prog w A env s (.ListComp elt [⟨target, iter, [], 0⟩, ⟨target2, iter2, ifs2, 0⟩] scope pos) (fun h v => Ls h ((List.range n).flatMap rows) v) := fun E s₁ k => by
  rw [eval_ListComp]
  refine comp_core2 (rows := rows) (use := none) (hi.later k) hnn (V.le k.le) co.clos co.sub co.cell co.kind co.names co.loc (fun i v sa C hlt ka hP Va hoff => ?_) (fun D C s' ks hC hn hl hDC _ => ?_) hrow hs hs2
  · obtain ⟨m2, h1, h2⟩ := turn i v sa C hlt (k.trans ka) hP Va hoff
    exact ⟨m2, h1, fun s₂ k₂ kt V₂ => (h2 s₂ (k.trans k₂) kt V₂).later k⟩
  · obtain ⟨ml, hml⟩ := hn
    refine ⟨ml, hml, fun h' hs' => ?_⟩
    obtain ⟨o, es, ep, ho, hd, _⟩ := hml
    have kc : KB [C] s' { s' with heap := h', toks := s'.toks } := KB.one ho (fun i n e => by rw [e] at hd; cases hd) hs'
    exact ⟨ks.drop kc (by intro a ha; simp only [List.mem_singleton] at ha; subst ha; exact hC), fun h'' l => ⟨D, rfl, (hl.kb kc (by simpa using hDC)).le l⟩⟩

theorem S.assignComp2 {y : Str} {py spos : Pos} {elt target iter target2 iter2 : Expr} {ifs2 : List Expr} {scope : Scope} {pos : Pos} {cl : List (Str × Addr)} {src : Addr → Prop} {P : Nat → Heap → Value → Prop} {rows : Nat → List Dt} {Q : Flow → Shared → Prop}
    (F : Frm s₀ env m s) (hl : env.kindOf y = some .local) (hc : env.cells.lookup y = none)
    (hi : PeI prog w A env s target iter src n P) (hnn : n < 300) (co : CompOk scope env cl)
    (turn : Turn2 prog w A scope cl env m s target target2 iter2 elt ifs2 n P rows) (hrow : ∀ i < n, (rows i).length < 300)
    (h : ∀ D s', Frm s₀ env (upd m y (.ref D)) s' → KB [env.locals] s s' → LT s'.heap D ((List.range n).flatMap rows) → s.heap.get? D = none → Q .next s')
    (hsw : swapsWith (.ListComp elt [⟨target, iter, [], 0⟩, ⟨target2, iter2, ifs2, 0⟩] scope pos) (some (.Name y py)) spos.line env = pure true := by rfl)
    (hs : ∀ x, foldedSetIterable iter env x = pure x := by intro _; rfl) (hs2 : ∀ cenv x, foldedSetIterable iter2 cenv x = pure x := by intro _ _; rfl) :
    wpAny (model prog w) A (exec (.Assign [.Name y py] (.ListComp elt [⟨target, iter, [], 0⟩, ⟨target2, iter2, ifs2, 0⟩] scope pos) spos) env) Q E s := by
  rw [exec_Assign_Name_used _ _ _ _ hsw]
  refine wpAny_bind (wpAny_standAt (wpAny_bind ?_))
  show wpAny _ A (do let _ ← comprehension (.ListComp elt [⟨target, iter, [], 0⟩, ⟨target2, iter2, ifs2, 0⟩] scope pos) scope env _ (newList []) false (eval iter env) (some (PySem.assign (.Name y py) env))) _ _ s
  refine wpAny_bind (wpAny_mono (comp_core2 (rows := rows) (use := some (PySem.assign (.Name y py) env)) (Q := fun _ s' => Q .next s') hi hnn F.view co.clos co.sub co.cell co.kind co.names co.loc turn (fun D C s' ks hC hn hlD hDC hD0 => ?_) hrow hs hs2)
    (fun _ s' hq => wpAny_pure (wpAny_pure hq)) fun _ _ z => z)
  have Fs := F.le ks
  show wpAny _ A (PySem.assign (.Name y py) env (.ref D)) _ _ _
  refine wpAny_assign_Name (Fs.storeL hl hc fun s₂ F₂ k₂ => ?_)
  obtain ⟨ml, hml⟩ := hn
  have hCL : C ∉ [env.locals] := by
    intro hm
    simp only [List.mem_singleton] at hm
    exact (F.fresh hC).1 (hm ▸ List.mem_cons_self)
  have hml₂ := hml.at' fun o e => k₂.keep _ o hCL e
  refine ⟨ml, hml₂, fun h' hs' => ?_⟩
  obtain ⟨o, es, ep, ho, hd, _⟩ := hml₂
  have kc : KB [C] s₂ { s₂ with heap := h', toks := s₂.toks } := KB.one ho (fun i n e => by rw [e] at hd; cases hd) hs'
  have hDL : D ∉ [env.locals] := by
    intro hm
    simp only [List.mem_singleton] at hm
    exact (F.fresh hD0).1 (hm ▸ List.mem_cons_self)
  have hCa : ∀ a ∈ [C], s.heap.get? a = none := by intro a ha; simp only [List.mem_singleton] at ha; subst ha; exact hC
  exact h D _ (F₂.other kc fun a ha => F.fresh (hCa a ha)) (((ks.of_nil _).trans k₂).dropX kc hCa) ((hlD.kb k₂ hDL).kb kc (by simpa using hDC)) hD0

theorem range_flat {α β : Type} (g : α → List β) (d : α) : ∀ (xs : List α), (List.range xs.length).flatMap (fun i => g (xs.getD i d)) = xs.flatMap g := by
  intro xs
  induction xs with
  | nil => rfl
  | cons x xs ih =>
    rw [List.length_cons, List.range_succ_eq_map, List.flatMap_cons, List.flatMap_cons, List.flatMap_map]
    have : (fun i => g ((x :: xs).getD (Nat.succ i) d)) = fun i => g (xs.getD i d) := by funext i; simp [List.getD_eq_getElem?_getD]
    rw [this, ih]
    simp
end
end Mine
end


-- F0
section
set_option maxHeartbeats 2000000
set_option autoImplicit false
namespace Mine

noncomputable def oAt (w : World) (a : Addr) : Obj := ((KK w).lookup a).getD default
noncomputable def fdAt (w : World) (a : Addr) : FuncData := match (oAt w a).data with | .func f => f | _ => default
noncomputable def bodyAt (w : World) (a : Addr) : List Stmt := match (fdAt w a).body with | .stmts b => b | _ => []
noncomputable abbrev envAt (w : World) (a : Addr) (L : Addr) : Env := callEnvC (fdAt w a) L a

/-- what is said once of a def of the text -/
structure DefOk (w : World) (a : Addr) (xs : List Str) : Prop where
  ho : (KK w).lookup a = some (oAt w a)
  hdat : (oAt w a).data = .func (fdAt w a)
  hbody : (fdAt w a).body = .stmts (bodyAt w a)
  hcd : codeIn (KK w) (fdAt w a).code (fdAt w a).qualname = true
  hclo : (fdAt w a).closure = []
  hgl : (fdAt w a).globals = mainGlobals
  hbu : (fdAt w a).builtins = builtinsNs
  hdis : ∀ L, ((envAt w a L).cells.all fun p => (envAt w a L).kindOf p.1 != some .local) = true
  hnd : decide (((cellsFrom 0 (fdAt w a).scope.names []).map (·.1)).Nodup) = true
  hco : (fdAt w a).scope.isCoroutine = false
  hgen : (fdAt w a).scope.isGenerator = false
  hk : (fdAt w a).scope.kind = .function
  hkinds : (xs.all fun y => (fdAt w a).scope.names.lookup y == some .local || (fdAt w a).scope.names.lookup y == some .cell) = true

section
variable {prog : Program} {w : World} {A : Around} {s : Shared} {n : Nat} {E : Value → Shared → Prop}
theorem enter2 {fa : Addr} {vals : List Value} {xs : List Str} {R : Heap → Value → Prop} (D : DefOk w fa xs)
    (G : GG w s.heap) (ok : AOk A (n + 1)) (hbind : bindArgs (fdAt w fa) ⟨vals, []⟩ = pure (xs.zip vals))
    (hm : ∀ L, ∀ p ∈ xs.zip vals, (if (envAt w fa L).kindOf p.1 = some .local then bindL (envAt w fa L).kindOf (xs.zip vals) (fun _ => none) p.1 else bindC (envAt w fa L).kindOf (xs.zip vals) (fun _ => none) p.1) = some p.2)
    (h : ∀ L s₁ A' E' m, AOk A' n → Frm s (envAt w fa L) m s₁ → (∀ p ∈ xs.zip vals, m p.1 = some p.2) →
      wpAny (model prog w) A' (execs (bodyAt w fa) (envAt w fa L)) (fun f s' => KB [] s s' ∧ ∀ h', Le s'.heap h' → R h' (match f with | .ret v => v | _ => .none)) E' s₁) :
    wpAny (model prog w) A (call (.ref fa) vals) (fun v s' => KB [] s s' ∧ ∀ h', Le s'.heap h' → R h' v) E s := by
  refine enter G D.ho D.hdat D.hbody ok D.hcd hbind D.hclo ?_ D.hgl D.hbu D.hdis D.hnd hm h D.hco D.hgen D.hk
  have : ((xs.zip vals).all fun y => (fdAt w fa).scope.names.lookup y.1 == some .local || (fdAt w fa).scope.names.lookup y.1 == some .cell) = true := by
    rw [List.all_eq_true]
    intro p hp
    exact List.all_eq_true.mp D.hkinds p.1 (List.of_mem_zip hp).1
  exact kindsX this _
end
theorem def21 (w : World) : DefOk w 21 ["problem", "path"] :=
  ⟨by kernel_rfl, by kernel_rfl, by kernel_rfl, by kernel_rfl, by kernel_rfl, by kernel_rfl, by kernel_rfl, fun _ => by kernel_rfl, by kernel_rfl, by kernel_rfl, by kernel_rfl, by kernel_rfl, by kernel_rfl⟩
theorem def26 (w : World) : DefOk w 26 ["problem"] :=
  ⟨by kernel_rfl, by kernel_rfl, by kernel_rfl, by kernel_rfl, by kernel_rfl, by kernel_rfl, by kernel_rfl, fun _ => by kernel_rfl, by kernel_rfl, by kernel_rfl, by kernel_rfl, by kernel_rfl, by kernel_rfl⟩
theorem def33 (w : World) : DefOk w 33 ["problem", "path"] :=
  ⟨by kernel_rfl, by kernel_rfl, by kernel_rfl, by kernel_rfl, by kernel_rfl, by kernel_rfl, by kernel_rfl, fun _ => by kernel_rfl, by kernel_rfl, by kernel_rfl, by kernel_rfl, by kernel_rfl, by kernel_rfl⟩
theorem def38 (w : World) : DefOk w 38 ["problem", "spoke"] :=
  ⟨by kernel_rfl, by kernel_rfl, by kernel_rfl, by kernel_rfl, by kernel_rfl, by kernel_rfl, by kernel_rfl, fun _ => by kernel_rfl, by kernel_rfl, by kernel_rfl, by kernel_rfl, by kernel_rfl, by kernel_rfl⟩
theorem def45 (w : World) : DefOk w 45 ["problem", "wheel"] :=
  ⟨by kernel_rfl, by kernel_rfl, by kernel_rfl, by kernel_rfl, by kernel_rfl, by kernel_rfl, by kernel_rfl, fun _ => by kernel_rfl, by kernel_rfl, by kernel_rfl, by kernel_rfl, by kernel_rfl, by kernel_rfl⟩
theorem def50 (w : World) : DefOk w 50 ["problem"] :=
  ⟨by kernel_rfl, by kernel_rfl, by kernel_rfl, by kernel_rfl, by kernel_rfl, by kernel_rfl, by kernel_rfl, fun _ => by kernel_rfl, by kernel_rfl, by kernel_rfl, by kernel_rfl, by kernel_rfl, by kernel_rfl⟩
theorem def55 (w : World) : DefOk w 55 ["problem"] :=
  ⟨by kernel_rfl, by kernel_rfl, by kernel_rfl, by kernel_rfl, by kernel_rfl, by kernel_rfl, by kernel_rfl, fun _ => by kernel_rfl, by kernel_rfl, by kernel_rfl, by kernel_rfl, by kernel_rfl, by kernel_rfl⟩
theorem def92 (w : World) : DefOk w 92 ["problem"] :=
  ⟨by kernel_rfl, by kernel_rfl, by kernel_rfl, by kernel_rfl, by kernel_rfl, by kernel_rfl, by kernel_rfl, fun _ => by kernel_rfl, by kernel_rfl, by kernel_rfl, by kernel_rfl, by kernel_rfl, by kernel_rfl⟩
theorem def99 (w : World) : DefOk w 99 ["pool", "many"] :=
  ⟨by kernel_rfl, by kernel_rfl, by kernel_rfl, by kernel_rfl, by kernel_rfl, by kernel_rfl, by kernel_rfl, fun _ => by kernel_rfl, by kernel_rfl, by kernel_rfl, by kernel_rfl, by kernel_rfl, by kernel_rfl⟩
theorem def104 (w : World) : DefOk w 104 ["pool"] :=
  ⟨by kernel_rfl, by kernel_rfl, by kernel_rfl, by kernel_rfl, by kernel_rfl, by kernel_rfl, by kernel_rfl, fun _ => by kernel_rfl, by kernel_rfl, by kernel_rfl, by kernel_rfl, by kernel_rfl, by kernel_rfl⟩
theorem def109 (w : World) : DefOk w 109 ["problem", "pairs"] :=
  ⟨by kernel_rfl, by kernel_rfl, by kernel_rfl, by kernel_rfl, by kernel_rfl, by kernel_rfl, by kernel_rfl, fun _ => by kernel_rfl, by kernel_rfl, by kernel_rfl, by kernel_rfl, by kernel_rfl, by kernel_rfl⟩
end Mine
end


-- F1
section
set_option maxHeartbeats 2000000
set_option autoImplicit false
namespace Mine
section
variable {prog : Program} {w : World} {A : Around} {s : Shared} {n : Nat}

theorem place_of_spec {P : Prob} {p : Path} {x : Int} {ps : List Path} {vP vp : Value} {E : Value → Shared → Prop} (ok : AOk A (n + 1)) (G : GG w s.heap) (hP : PrAt prog w s.heap P vP) (hp : Rd s.heap (pth p) vp)
    (hx : p[0]? = some x) (hps : P.lookup x = some ps) (hm : p ∈ ps) (hl : ps.length < 100000) (hl2 : p.length < 100000) :
    wpAny (model prog w) A (call (.ref 21) [vP, vp]) (fun v s' => KB [] s s' ∧ ∀ h', Le s'.heap h' → Rd h' (.int (ps.idxOf p)) v) E s := by
  refine enter2 (def21 w) G ok (by kernel_rfl) (fun L x hx => ?_) ?_
  · simp at hx; rcases hx with rfl | rfl <;> kernel_rfl
  intro L s₁ A' E' m ok' F hmm
  have m1 := hmm ("problem", vP) (by simp)
  have m2 := hmm ("path", vp) (by simp)
  have G₁ := G.le F.kb.le
  have hP₁ := hP.le F.kb.le
  have hp₁ := hp.le F.kb.le
  refine wpAny_execs_cons (wpAny_Return_some ?_)
  refine Pe.use (s := s₁) (R := fun h v => Rd h (.int (ps.idxOf p)) v) ?_ (KB.refl _ _) (fun v s₂ k r => ⟨F.kb.trans k, r⟩)
  refine Pe.index (ps := ps) ok' (Pe.listOf F.view G₁ rfl (Pe.dget (P := P) (k := x) (ps := ps) (Pe.loc F.view rfl m1 (fun h' l => hP₁.le l)) (Pe.idx (k := 0) (Pe.loc F.view rfl m2 (fun h' l => hp₁.le l)) (Pe.int _ _ _) (by decide) ?_ ?_) hps) ?_) (Pe.loc F.view rfl m2 (fun h' l => hp₁.le l)) hm hl
  · simp [hx]
  · simpa using hl2
  · simpa using hl

/-! ### rests_of -/
def restsM (P : Prob) (p : Path) (k : Nat) : List Path := (List.range k).filterMap fun i => if p.drop (i + 1) ∈ ofNode P (p.getD (i + 1) 0) then some (p.drop (i + 1)) else none
def rests (P : Prob) (p : Path) : List Path := restsM P p (p.length - 2)
theorem restsM_succ (P : Prob) (p : Path) (k : Nat) : restsM P p (k + 1) = restsM P p k ++ (if p.drop (k + 1) ∈ ofNode P (p.getD (k + 1) 0) then [p.drop (k + 1)] else []) := by
  unfold restsM
  rw [List.range_succ, List.filterMap_append]
  congr 1
  simp only [List.filterMap_cons, List.filterMap_nil]
  by_cases h : p.drop (k + 1) ∈ ofNode P (p.getD (k + 1) 0)
  · rw [if_pos h, if_pos h]
  · rw [if_neg h, if_neg h]
theorem restsM_len (P : Prob) (p : Path) (k : Nat) : (restsM P p k).length ≤ k := by
  unfold restsM
  refine Nat.le_trans (List.length_filterMap_le _ _) (by simp)

theorem upd2 {m : Str → Option Value} {x y : Str} {v u : Value} (h : m y = some u) (hn : (y == x) = false := by decide) : upd m x v y = some u := by
  rw [upd_ne (by simpa using hn)]; exact h
theorem not_mut {s₀ s : Shared} {env : Env} {m : Str → Option Value} (F : Frm s₀ env m s) {l : Addr} (h : s.heap.get? l = none) : l ∉ [env.locals] := by
  intro hm
  simp only [List.mem_singleton] at hm
  exact (F.fresh h).1 (hm ▸ List.mem_cons_self)

theorem rests_of_spec {P : Prob} {p : Path} {vP vp : Value} {E : Value → Shared → Prop} (ok : AOk A (n + 1)) (G : GG w s.heap) (hP : PrAt prog w s.heap P vP) (hp : Rd s.heap (pth p) vp)
    (hl2 : p.length < 1000) (hps : ∀ x, (ofNode P x).length < 90) :
    wpAny (model prog w) A (call (.ref 33) [vP, vp]) (fun v s' => KB [] s s' ∧ ∀ h', Le s'.heap h' → Ls h' ((rests P p).map pth) v) E s := by
  refine enter2 (def33 w) G ok (by kernel_rfl) (fun L x hx => ?_) ?_
  · simp at hx; rcases hx with rfl | rfl <;> kernel_rfl
  intro L s₁ A' E' m ok' F hmm
  have m1 := hmm ("problem", vP) (by simp)
  have m2 := hmm ("path", vp) (by simp)
  refine wpAny_execs_cons (S.assignList F (by kernel_rfl) (by kernel_rfl) PeL.nil (by decide) fun l s₂ F₂ k₂ hl hD => ?_)
  have hlX := not_mut F hD
  have hl₀ := (F.fresh hD).2
  have hls : (s₂.heap.get? l).isSome = true := by obtain ⟨_, _, ho, _⟩ := hl; rw [ho]; rfl
  have G' : ∀ {s'' : Shared} {m' : Str → Option Value}, Frm s (envAt w 33 L) m' s'' → GG w s''.heap := fun F' => G.le F'.kb.le
  have pP : ∀ {s'' : Shared} {m' : Str → Option Value} {pos : Pos}, Frm s (envAt w 33 L) m' s'' → m' "problem" = some vP → Pe prog w A' (envAt w 33 L) s'' (.Name "problem" pos) (fun h v => PrAt prog w h P v) := by
    intro s'' m' pos F' e
    exact Pe.loc F'.view (by kernel_rfl) e (fun h' l => hP.le (F'.kb.le.trans l))
  have pp : ∀ {s'' : Shared} {m' : Str → Option Value} {pos : Pos}, Frm s (envAt w 33 L) m' s'' → m' "path" = some vp → Pe prog w A' (envAt w 33 L) s'' (.Name "path" pos) (fun h v => Rd h (pth p) v) := by
    intro s'' m' pos F' e
    exact Pe.loc F'.view (by kernel_rfl) e (fun h' l => hp.le (F'.kb.le.trans l))
  have hpl : (p.map Dt.int).length < 100000 := by simp; omega
  refine wpAny_execs_cons (S.for_ (src := fun _ => False) (P := fun i h v => Rd h (.int (1 + i)) v) (n := (((p.length : Int) - 1) - 1).toNat)
    (PeI.range2 ok' F₂.view (G' F₂) (by kernel_rfl) (Pe.int _ _ _) (b := (p.length : Int) - 1) (Pe.sub (by simpa using Pe.lenT F₂.view (G' F₂) (by kernel_rfl) (pp F₂ (upd2 m2)) hpl) (Pe.int _ _ _)) (by omega) (by omega) (by omega) (by omega))
    (fun i s' => ∃ m, Frm s (envAt w 33 L) m s' ∧ m "problem" = some vP ∧ m "path" = some vp ∧ m "found" = some (.ref l) ∧ LT s'.heap l ((restsM P p i).map pth))
    [(envAt w 33 L).locals, l] ?_ ?_ ?_ ?_ ?_ ?_)
  · intro a ha
    simp only [List.mem_cons, List.not_mem_nil, or_false] at ha
    rcases ha with rfl | rfl
    · exact F₂.has _ List.mem_cons_self
    · exact hls
  · intro a ha; cases ha
  · exact ⟨_, F₂, upd2 m1, upd2 m2, upd_self, hl⟩
  · rintro i sa sb wr hwr ⟨m, Fm, e1, e2, e3, hlt⟩ k
    exact ⟨m, Fm.other k (fun a ha => F₂.fresh (hwr a ha)), e1, e2, e3, hlt.kb k (fun hm => by have := hwr _ hm; rw [this] at hls; cases hls)⟩
  · rintro i sa v hi ⟨m, Fm, e1, e2, e3, hlt⟩ hv E''
    refine wpAny_assign_Name (Fm.storeL (by kernel_rfl) (by kernel_rfl) fun sb Fb kb => ?_)
    have hlb := hlt.kb kb hlX
    have hvb : Rd sb.heap (.int (1 + i)) v := hv.kb kb
    have ea : ∀ {s'' : Shared} {pos : Pos}, KB [] sb s'' → Pe prog w A' (envAt w 33 L) s'' (.Name "at" pos) (fun h v => Rd h (.int (1 + i)) v) := fun k => Pe.loc (Fb.le k).view (by kernel_rfl) upd_self (fun h' l => hvb.le (k.le.trans l))
    have hat : p[i + 1]? = some (p.getD (i + 1) 0) := by
      rw [List.getD_eq_getElem?_getD, List.getElem?_eq_getElem (by omega)]; rfl
    have sl : ∀ {s'' : Shared} {p1 p2 p3 p4 : Pos}, KB [] sb s'' → Pe prog w A' (envAt w 33 L) s'' (.Subscript (.Name "path" p1) (.Slice (some (.Name "at" p2)) none none p3) p4) (fun h v => Rd h (pth (p.drop (i + 1))) v) := fun k => by
      refine (Pe.sliceFrom (pp (Fb.le k) (upd2 e2)) (ea k) (by omega) (by simp; omega) hpl).mono fun h v r => ?_
      have : (1 + (i : Int)).toNat = i + 1 := by omega
      rw [this, ← List.map_drop] at r
      exact r
    have cnd : ∀ {s'' : Shared} {p1 p2 p3 : Pos}, KB [] sb s'' → Pe prog w A' (envAt w 33 L) s'' (.Subscript (.Name "path" p1) (.Name "at" p2) p3) (fun h v => Rd h (.int (p.getD (i + 1) 0)) v) := fun k => by
      refine Pe.idx (pp (Fb.le k) (upd2 e2)) (ea k) (by omega) ?_ hpl
      have : (1 + (i : Int)).toNat = i + 1 := by omega
      rw [this, List.getElem?_map, hat]; rfl
    refine wpAny_execs_cons (S.ite (b := decide (p.drop (i + 1) ∈ ofNode P (p.getD (i + 1) 0))) (Pt.cmp (Pe.inT ok' (sl (KB.refl _ _)) (Pe.get2 (pP Fb (upd2 e1)) (cnd (KB.refl _ _))) (.inl rfl))) fun sc kc => ?_)
    rw [restsM_succ]
    by_cases hin : p.drop (i + 1) ∈ ofNode P (p.getD (i + 1) 0)
    · rw [if_pos (by simpa using hin), if_pos hin, List.map_append]
      have Fc := Fb.le kc
      refine wpAny_execs_cons (S.append (Pe.loc Fc.view (by kernel_rfl) (upd2 e3) (fun h' l => rfl)) (hlb.le kc.le) (sl kc) ?_ fun sd kd hld => ?_)
      · rw [List.length_map]; have := restsM_len P p i; omega
      refine wpAny_execs_nil (wpAny_execs_nil ⟨⟨_, Fc.other kd ?_, upd2 e1, upd2 e2, upd2 e3, hld⟩, ?_⟩)
      · intro a ha; simp only [List.mem_singleton] at ha; subst ha; exact F.fresh hD
      · exact ((kb.mono (by simp)).trans (kc.of_nil _)).trans (kd.mono (by simp))
    · rw [if_neg (by simpa using hin), if_neg hin, List.append_nil]
      exact wpAny_execs_nil (wpAny_execs_nil ⟨⟨_, Fb.le kc, upd2 e1, upd2 e2, upd2 e3, hlb.le kc.le⟩, (kb.mono (by simp)).trans (kc.of_nil _)⟩)
  · rintro sa ⟨m, Fm, e1, e2, e3, hlt⟩
    have hn : (((p.length : Int) - 1) - 1).toNat = p.length - 2 := by omega
    rw [hn] at hlt
    refine wpAny_execs_cons (S.ret (Pe.loc Fm.view (by kernel_rfl) e3 (R := fun h v => Ls h ((rests P p).map pth) v) (fun h' l => ⟨_, rfl, hlt.le l⟩)) fun v s₂ k r => ⟨Fm.kb.trans k, r⟩)
end
end Mine
end


-- F2
section
set_option maxHeartbeats 2000000
set_option autoImplicit false
namespace Mine

structure PG (P : Prob) : Prop where
  small : ∀ x, (ofNode P x).length < 90
  first : ∀ x p, p ∈ ofNode P x → p[0]? = some x ∧ p.length < 90
  keys : (P.map (·.1)).Pairwise (· < ·)
  few : P.length < 60
theorem ofNode_of_mem {P : Prob} {x : Int} {p : Path} (h : p ∈ ofNode P x) : P.lookup x = some (ofNode P x) := by
  unfold ofNode at *
  cases e : P.lookup x with
  | none => rw [e] at h; simp at h
  | some ps => rfl
theorem PG.lookup {P : Prob} (g : PG P) {x : Int} {p : Path} (h : p ∈ ofNode P x) : P.lookup x = some (ofNode P x) := by
  unfold ofNode at *
  cases e : P.lookup x with
  | none => rw [e] at h; simp at h
  | some ps => rfl

section
variable {prog : Program} {w : World} {A : Around} {env : Env} {s : Shared} {m : Str → Option Value} {n : Nat}

theorem Pe.place_of {P : Prob} {p : Path} {x : Int} {np pos : Pos} {e f : Expr} (V : View env m s) (G : GG w s.heap) (ok : AOk A (n + 1)) (hl : env.kindOf "place_of" = some .globalImplicit) (g : PG P)
    (a : Pe prog w A env s e (fun h v => PrAt prog w h P v)) (b : Pe prog w A env s f (fun h v => Rd h (pth p) v)) (hm : p ∈ ofNode P x)
    (he : starEach [e, f] env = (false, eval e env) :: starEach [f] env := by rfl) (hf : starEach [f] env = (false, eval f env) :: starEach [] env := by rfl) :
    Pe prog w A env s (.Call (.Name "place_of" np) [e, f] [] pos) (fun h v => Rd h (.int ((ofNode P x).idxOf p)) v) := by
  refine Pe.callDef V G hl (by kernel_rfl) (def21 w).ho (def21 w).hdat (PeA.two a b he hf) (fun E s₁ vs k hv => ?_) (by decide) he
  obtain ⟨v, u, rfl, r1, r2⟩ := hv
  have := g.small x
  have h2 := g.first x p hm
  exact place_of_spec ok (G.le k.le) r1 r2 h2.1 (g.lookup hm) hm (by omega) (by omega)
theorem Pe.rests_of {P : Prob} {p : Path} {np pos : Pos} {e f : Expr} (V : View env m s) (G : GG w s.heap) (ok : AOk A (n + 1)) (hl : env.kindOf "rests_of" = some .globalImplicit) (g : PG P)
    (a : Pe prog w A env s e (fun h v => PrAt prog w h P v)) (b : Pe prog w A env s f (fun h v => Rd h (pth p) v)) (hp : p.length < 1000)
    (he : starEach [e, f] env = (false, eval e env) :: starEach [f] env := by rfl) (hf : starEach [f] env = (false, eval f env) :: starEach [] env := by rfl) :
    Pe prog w A env s (.Call (.Name "rests_of" np) [e, f] [] pos) (fun h v => Ls h ((rests P p).map pth) v) := by
  refine Pe.callDef V G hl (by kernel_rfl) (def33 w).ho (def33 w).hdat (PeA.two a b he hf) (fun E s₁ vs k hv => ?_) (by decide) he
  obtain ⟨v, u, rfl, r1, r2⟩ := hv
  exact rests_of_spec ok (G.le k.le) r1 r2 hp g.small

/-! ### rims_of -/
def rowOf (P : Prob) (q : Path) : List (Path × Path) := (rests P q).map fun r => (q, r)
def likes (P : Prob) (x : Int) (p : Path) : List Path := (ofNode P x).take ((ofNode P x).idxOf p + 1)
def rims (P : Prob) (x : Int) (p : Path) : List (Path × Path) := (likes P x p).flatMap (rowOf P)
def rimsK (P : Prob) (x : Int) (p : Path) (k : Nat) : List (Path × Path) := ((likes P x p).take k).flatMap (rowOf P)
theorem rests_len (P : Prob) (p : Path) : (rests P p).length ≤ p.length := Nat.le_trans (restsM_len _ _ _) (Nat.sub_le _ _)
theorem rimsK_succ {P : Prob} {x : Int} {p q : Path} {k : Nat} (h : (likes P x p)[k]? = some q) : rimsK P x p (k + 1) = rimsK P x p k ++ rowOf P q := by
  unfold rimsK
  rw [List.take_add_one, List.flatMap_append, h]
  simp
theorem flatMap_len {α β : Type} {f : α → List β} {c : Nat} : ∀ {l : List α}, (∀ x ∈ l, (f x).length ≤ c) → (l.flatMap f).length ≤ l.length * c
  | [], _ => by simp
  | x :: l, h => by
    have := flatMap_len (l := l) (f := f) (c := c) fun y hy => h y (List.mem_cons_of_mem _ hy)
    have h1 := h x List.mem_cons_self
    rw [List.flatMap_cons, List.length_append, List.length_cons, Nat.add_one_mul]
    omega
theorem likes_mem {P : Prob} {x : Int} {p q : Path} (h : q ∈ likes P x p) : q ∈ ofNode P x := List.mem_of_mem_take h

theorem Pe.sliceUptoP {e i : Expr} {p pos : Pos} {ps : List Path} {b : Int} (x : Pe prog w A env s e (fun h v => Rd h (pths ps) v)) (y : Pe prog w A env s i (fun h v => Rd h (.int b) v))
    (h1 : 0 ≤ b) (hs : ps.length < 100000) :
    Pe prog w A env s (.Subscript e (.Slice none (some i) none p) pos) (fun h v => Rd h (pths (ps.take b.toNat)) v) :=
  (Pe.sliceUpto x y h1 (by simpa using hs)).mono fun h v r => by unfold pths; rw [List.map_take]; exact r

theorem PG.rimsK {P : Prob} (g : PG P) (x : Int) (p : Path) (k : Nat) : (rimsK P x p k).length < 9000 := by
  unfold Mine.rimsK
  refine Nat.lt_of_le_of_lt (flatMap_len (c := 90) fun q hq => ?_) ?_
  · unfold rowOf
    rw [List.length_map]
    have := rests_len P q
    have := (g.first x q (likes_mem (List.mem_of_mem_take hq))).2
    omega
  · have h1 : ((likes P x p).take k).length ≤ (ofNode P x).length := by
      unfold likes; simp only [List.length_take]; omega
    have := g.small x
    have : ((likes P x p).take k).length * 90 ≤ 89 * 90 := Nat.mul_le_mul_right _ (by omega)
    omega

theorem rims_of_spec {P : Prob} {p : Path} {x : Int} {vP vp : Value} {E : Value → Shared → Prop} (ok : AOk A (n + 2)) (G : GG w s.heap) (hP : PrAt prog w s.heap P vP) (hp : Rd s.heap (pth p) vp)
    (g : PG P) (hm : p ∈ ofNode P x) :
    wpAny (model prog w) A (call (.ref 38) [vP, vp]) (fun v s' => KB [] s s' ∧ ∀ h', Le s'.heap h' → Ls h' ((rims P x p).map pair) v) E s := by
  refine enter2 (def38 w) G ok (by kernel_rfl) (fun L x hx => ?_) ?_
  · simp at hx; rcases hx with rfl | rfl <;> kernel_rfl
  intro L s₁ A' E' m ok' F hmm
  have m1 := hmm ("problem", vP) (by simp)
  have m2 := hmm ("spoke", vp) (by simp)
  refine wpAny_execs_cons (S.assignList F (by kernel_rfl) (by kernel_rfl) PeL.nil (by decide) fun l s₂ F₂ k₂ hl hD => ?_)
  have hlX := not_mut F hD
  have hlM := (F.fresh hD).1
  have hls : (s₂.heap.get? l).isSome = true := by obtain ⟨_, _, ho, _⟩ := hl; rw [ho]; rfl
  have G' : ∀ {s'' : Shared} {m' : Str → Option Value}, Frm s (envAt w 38 L) m' s'' → GG w s''.heap := fun F' => G.le F'.kb.le
  have pP : ∀ {s'' : Shared} {m' : Str → Option Value} {pos : Pos}, Frm s (envAt w 38 L) m' s'' → m' "problem" = some vP → Pe prog w A' (envAt w 38 L) s'' (.Name "problem" pos) (fun h v => PrAt prog w h P v) := by
    intro s'' m' pos F' e
    exact Pe.loc F'.view (by kernel_rfl) e (fun h' l => hP.le (F'.kb.le.trans l))
  have pp : ∀ {s'' : Shared} {m' : Str → Option Value} {pos : Pos}, Frm s (envAt w 38 L) m' s'' → m' "spoke" = some vp → Pe prog w A' (envAt w 38 L) s'' (.Name "spoke" pos) (fun h v => Rd h (pth p) v) := by
    intro s'' m' pos F' e
    exact Pe.loc F'.view (by kernel_rfl) e (fun h' l => hp.le (F'.kb.le.trans l))
  obtain ⟨hx0, hpl⟩ := g.first x p hm
  have hsm := g.small x
  have hsl : ∀ {s'' : Shared} {m' : Str → Option Value} {p1 p2 p3 p4 p5 : Pos} {k1 : Nat}, Frm s (envAt w 38 L) m' s'' → m' "problem" = some vP → m' "spoke" = some vp →
      Pe prog w A' (envAt w 38 L) s'' (.Subscript (.Name "problem" p1) (.Subscript (.Name "spoke" p2) (.Constant (.int 0) k1 p3) p4) p5) (fun h v => Rd h (pths (ofNode P x)) v) := fun F' e1 e2 =>
    Pe.dget (P := P) (k := x) (pP F' e1) (Pe.idx (k := 0) (pp F' e2) (Pe.int _ _ _) (by decide) (by simp [hx0]) (by simp; omega)) (g.lookup hm)
  have hcell : (envAt w 38 L).cells = [(("rim" : Str), L + 1)] := by kernel_rfl
  refine wpAny_execs_cons (S.for_ (src := fun _ => False) (P := fun i h v => ∃ d, ((likes P x p).map pth)[i]? = some d ∧ Rd h d v) (n := ((likes P x p).map pth).length)
    (PeI.tup ok'.handled (Pe.sliceUptoP (hsl F₂ (upd2 m1) (upd2 m2)) (Pe.add (Pe.place_of F₂.view (G' F₂) ok' (by kernel_rfl) g (pP F₂ (upd2 m1)) (pp F₂ (upd2 m2)) hm) (Pe.int 1 _ _)) (by omega) (by omega)))
    (fun i s' => ∃ m, Frm s (envAt w 38 L) m s' ∧ m "problem" = some vP ∧ m "spoke" = some vp ∧ m "found" = some (.ref l) ∧ LT s'.heap l ((rimsK P x p i).map pair))
    [(envAt w 38 L).locals, L + 1, l] ?_ ?_ ?_ ?_ ?_ ?_)
  · intro a ha
    simp only [List.mem_cons, List.not_mem_nil, or_false] at ha
    rcases ha with rfl | rfl | rfl
    · exact F₂.has _ List.mem_cons_self
    · exact F₂.has _ (mem_mut_cell (x := "rim") (by rw [hcell]; rfl))
    · exact hls
  · intro a ha; cases ha
  · exact ⟨_, F₂, upd2 m1, upd2 m2, upd_self, hl⟩
  · rintro i sa sb wr hwr ⟨m, Fm, e1, e2, e3, hlt⟩ k
    exact ⟨m, Fm.other k (fun a ha => F₂.fresh (hwr a ha)), e1, e2, e3, hlt.kb k (fun hm => by have := hwr _ hm; rw [this] at hls; cases hls)⟩
  · rintro i sa v hi ⟨m, Fm, e1, e2, e3, hlt⟩ hv E''
    obtain ⟨q, hq, hv⟩ := at_map hv
    have hqm := likes_mem (List.mem_of_getElem? hq)
    refine wpAny_assign_Name (Fm.storeC (c := L + 1) (by kernel_rfl) (by rw [hcell]; rfl) fun sb Fb kb => ?_)
    have hlc : l ∉ [L + 1] := by
      intro h; simp only [List.mem_singleton] at h
      exact hlM (h ▸ mem_mut_cell (x := "rim") (by rw [hcell]; rfl))
    have hlb := hlt.kb kb hlc
    have hvb : Rd sb.heap (pth q) v := hv.kb kb
    have prim : ∀ {s'' : Shared} {pos : Pos}, KB [] sb s'' → Pe prog w A' (envAt w 38 L) s'' (.Name "rim" pos) (fun h v => Rd h (pth q) v) := fun k =>
      Pe.cel (Fb.le k).view (by kernel_rfl) (c := L + 1) (by rw [hcell]; rfl) upd_self (fun h' l => hvb.le (k.le.trans l))
    refine wpAny_execs_cons (S.extend (es := (rowOf P q).map pair) (Pe.loc Fb.view (by kernel_rfl) (upd2 e3) (fun h' l => rfl)) hlb ?_ ?_ fun sd kd hld => ?_)
    · have hfm : (rowOf P q).map pair = (rests P q).filterMap (fun r => some (pair (q, r))) := by
        unfold rowOf; rw [List.map_map, map_fm]; rfl
      rw [hfm]
      have g2 := (g.first x q hqm).2
      refine Pe.compA (enc := pth) (xs := rests P q) (fun r => some (pair (q, r))) [(("rim" : Str), L + 1)] (PeI.any ok'.handled (Pe.rests_of Fb.view (G' Fb) ok' (by kernel_rfl) g (pP Fb (upd2 e1)) (prim (KB.refl _ _)) (by omega)))
        (by have := rests_len P q; omega) Fb.view ⟨by kernel_rfl, fun y c h => by rw [hcell]; exact h, by decide, rfl, by decide, fun C => by kernel_rfl⟩ ?_
      intro r v s₁ C hr k rv V off
      refine ⟨_, true, pair (q, r), Asg.name V (by kernel_rfl) (by kernel_rfl) off, fun s₂ k₂ kt V₂ => ⟨PtL.nil, fun _ => ?_⟩, rfl⟩
      exact Pe.tuple (PeL.cons (Pe.cel V₂ (by kernel_rfl) (c := L + 1) (by kernel_rfl) (upd2 (cap_of upd_self)) (fun h' l => hvb.le (k₂.le.trans l))) (PeL.cons (Pe.loc V₂ (by kernel_rfl) upd_self (fun h' l => (Rd.kt kt _ _ rv).le l)) PeL.nil)) (by simp)
    · simp only [List.length_map]
      have := g.rimsK x p i
      have := rests_len P q
      have := (g.first x q hqm).2
      unfold rowOf
      simp only [List.length_map]
      omega
    refine wpAny_execs_nil ⟨⟨_, Fb.other kd ?_, upd2 e1, upd2 e2, upd2 e3, ?_⟩, ?_⟩
    · intro a ha; simp only [List.mem_singleton] at ha; subst ha; exact F.fresh hD
    · rw [rimsK_succ hq, List.map_append]; exact hld
    · exact (kb.mono (by simp)).trans (kd.mono (by simp))
  · rintro sa ⟨m, Fm, e1, e2, e3, hlt⟩
    have hn : rimsK P x p ((likes P x p).map pth).length = rims P x p := by
      unfold rimsK rims; rw [List.length_map, List.take_length]
    rw [hn] at hlt
    refine wpAny_execs_cons (S.ret (Pe.loc Fm.view (by kernel_rfl) e3 (R := fun h v => Ls h ((rims P x p).map pair) v) (fun h' l => ⟨_, rfl, hlt.le l⟩)) fun v s₂ k r => ⟨Fm.kb.trans k, r⟩)
end
end Mine
end


-- F3
section
set_option maxHeartbeats 2000000
set_option autoImplicit false
namespace Mine

def headOk (P : Prob) (x : Int) (spoke rim : Path) : Bool := decide (spoke ∈ ofNode P x) && decide (rim ∈ ofNode P x)
def placeOk (P : Prob) (x : Int) (spoke rim : Path) : Bool := decide ((ofNode P x).idxOf rim ≤ (ofNode P x).idxOf spoke)
def tailOk (rim later : Path) : Bool := decide (later.length < rim.length) && decide (rim.drop (rim.length - later.length) = later)
def wheelOk (P : Prob) (spoke rim later : Path) : Bool :=
  match spoke with
  | [] => false
  | x :: t => headOk P x (x :: t) rim && placeOk P x (x :: t) rim && tailOk rim later
def nextOf (W : List (Path × Path)) (i : Nat) : Path := (W.getD ((i + 1) % W.length) ([], [])).1
def okAt (P : Prob) (W : List (Path × Path)) (i : Nat) : Bool := wheelOk P (W.getD i ([], [])).1 (W.getD i ([], [])).2 (nextOf W i)
def isWheelM (P : Prob) (W : List (Path × Path)) : Bool := (List.range W.length).all (okAt P W) && decide (0 < W.length)

structure WSmall (W : List (Path × Path)) : Prop where
  len : W.length < 1000
  items : ∀ p ∈ W, p.1.length < 1000 ∧ p.2.length < 1000

section
variable {prog : Program} {w : World} {A : Around} {env : Env} {s : Shared} {m : Str → Option Value} {n : Nat}

theorem Pe.ninT {e c : Expr} {pos : Pos} {p : Path} {ps : List Path} (ok : AOk A n) (x : Pe prog w A env s e (fun h v => Rd h (pth p) v)) (y : Pe prog w A env s c (fun h v => Rd h (pths ps) v))
    (hm : behindInMarks .NotIn c = false := by with_unfolding_all rfl) :
    Pe prog w A env s (.Compare e [.NotIn] [c] pos) (fun h v => Rd h (.bool (!decide (p ∈ ps))) v) :=
  (Pe.inT ok x y (.inr rfl) hm).mono fun h v r => by simpa using r
theorem Pe.ninL {e c : Expr} {pos : Pos} {p : Path} {ps : List Path} (ok : AOk A n) (x : Pe prog w A env s e (fun h v => Rd h (pth p) v)) (y : Pe prog w A env s c (fun h v => Ls h (ps.map pth) v))
    (hm : behindInMarks .NotIn c = false := by with_unfolding_all rfl) :
    Pe prog w A env s (.Compare e [.NotIn] [c] pos) (fun h v => Rd h (.bool (!decide (p ∈ ps))) v) :=
  (Pe.inL ok x y (.inr rfl) hm).mono fun h v r => by simpa using r

theorem is_wheel_spec {P : Prob} {W : List (Path × Path)} {vP : Value} {l : Addr} {E : Value → Shared → Prop} (ok : AOk A (n + 2)) (G : GG w s.heap) (hP : PrAt prog w s.heap P vP) (hW : LT s.heap l (W.map pair))
    (g : PG P) (hs : WSmall W) :
    wpAny (model prog w) A (call (.ref 45) [vP, .ref l]) (fun v s' => KB [] s s' ∧ ∀ h', Le s'.heap h' → Rd h' (.bool (isWheelM P W)) v) E s := by
  refine enter2 (def45 w) G ok (by kernel_rfl) (fun L x hx => ?_) ?_
  · simp at hx; rcases hx with rfl | rfl <;> kernel_rfl
  intro L s₁ A' E' m ok' F hmm
  have m1 := hmm ("problem", vP) (by simp)
  have m2 := hmm ("wheel", .ref l) (by simp)
  have hlen := hs.len
  have hlX : l ∉ [(envAt w 45 L).locals] := by
    intro h; simp only [List.mem_singleton] at h
    obtain ⟨items, n, ho, _⟩ := hW
    have := F.new (envAt w 45 L).locals List.mem_cons_self
    rw [← h, ho] at this; cases this
  have hls : ∀ {s'' : Shared} {m' : Str → Option Value}, Frm s (envAt w 45 L) m' s'' → LT s''.heap l (W.map pair) := fun F' => hW.le F'.kb.le
  have G' : ∀ {s'' : Shared} {m' : Str → Option Value}, Frm s (envAt w 45 L) m' s'' → GG w s''.heap := fun F' => G.le F'.kb.le
  have pP : ∀ {s'' : Shared} {m' : Str → Option Value} {pos : Pos}, Frm s (envAt w 45 L) m' s'' → m' "problem" = some vP → Pe prog w A' (envAt w 45 L) s'' (.Name "problem" pos) (fun h v => PrAt prog w h P v) := by
    intro s'' m' pos F' e
    exact Pe.loc F'.view (by kernel_rfl) e (fun h' l => hP.le (F'.kb.le.trans l))
  have pW : ∀ {s'' : Shared} {m' : Str → Option Value} {pos : Pos}, Frm s (envAt w 45 L) m' s'' → m' "wheel" = some (.ref l) → Pe prog w A' (envAt w 45 L) s'' (.Name "wheel" pos) (fun h v => Ls h (W.map pair) v) := by
    intro s'' m' pos F' e
    exact Pe.loc F'.view (by kernel_rfl) e (fun h' l => ⟨_, rfl, hW.le (F'.kb.le.trans l)⟩)
  refine wpAny_execs_cons (S.for_ (PeI.enumL (fun a => a = l) ok' F.view (G' F) (by kernel_rfl) (Pe.loc F.view (by kernel_rfl) m2 (fun h' l' => ⟨l, rfl, hW.le (F.kb.le.trans l'), rfl⟩)))
    (fun i s' => ∃ m, Frm s (envAt w 45 L) m s' ∧ m "problem" = some vP ∧ m "wheel" = some (.ref l) ∧ (List.range i).all (okAt P W) = true)
    [(envAt w 45 L).locals] ?_ ?_ ?_ ?_ ?_ ?_)
  · intro a ha
    simp only [List.mem_cons, List.not_mem_nil, or_false] at ha
    subst ha
    exact F.has _ List.mem_cons_self
  · rintro a rfl; exact hlX
  · exact ⟨_, F, m1, m2, by simp⟩
  · rintro i sa sb wr hwr ⟨m, Fm, e1, e2, e3⟩ k
    exact ⟨m, Fm.other k (fun a ha => F.fresh (hwr a ha)), e1, e2, e3⟩
  · rintro i sa v hi ⟨m, Fm, e1, e2, e3⟩ hv E''
    rw [List.length_map] at hi
    obtain ⟨d, hd, hv⟩ := hv
    obtain ⟨⟨spoke, rim⟩, hp, hd'⟩ : ∃ p, W[i]? = some p ∧ d = pair p := by
      rw [List.getElem?_map] at hd
      cases e : W[i]? with
      | none => rw [e] at hd; cases hd
      | some a => rw [e] at hd; cases hd; exact ⟨a, rfl, rfl⟩
    subst hd'
    have hwi : W.getD i ([], []) = (spoke, rim) := by rw [List.getD_eq_getElem?_getD, hp]; rfl
    have hsm := hs.items _ (List.mem_of_getElem? hp)
    dsimp only at hsm
    obtain ⟨a, k, vi, v2, rfl, ho, hri, hr2⟩ := hv.two
    obtain ⟨b, k', vs, vr, rfl, ho', hrs, hrr⟩ := Rd.two hr2
    refine FAsg.run (env := envAt w 45 L) (X := [(envAt w 45 L).locals]) (FAsg.tup2 ok'.handled ho (FAsg.loc (by simp) (by kernel_rfl) (by kernel_rfl)) (FAsg.tup2 ok'.handled ho' (FAsg.loc (by simp) (by kernel_rfl) (by kernel_rfl)) (FAsg.loc (by simp) (by kernel_rfl) (by kernel_rfl)))) Fm fun sb Fb kb => ?_
    have hrs := hrs.kb kb
    have hrr := hrr.kb kb
    have hri := hri.kb kb
    have hmod : (i + 1) % W.length < W.length := Nat.mod_lt _ (by omega)
    obtain ⟨q, hq⟩ : ∃ q, W[(i + 1) % W.length]? = some q := ⟨_, List.getElem?_eq_getElem hmod⟩
    have hnext : nextOf W i = q.1 := by unfold nextOf; rw [List.getD_eq_getElem?_getD, hq]; rfl
    have hqs := hs.items _ (List.mem_of_getElem? hq)
    have e1b := upd2 (x := "rim") (v := vr) (upd2 (x := "spoke") (v := vs) (upd2 (x := "at") (v := vi) e1))
    have e2b := upd2 (x := "rim") (v := vr) (upd2 (x := "spoke") (v := vs) (upd2 (x := "at") (v := vi) e2))
    refine wpAny_execs_cons (S.assign (R := fun h v => Rd h (pth q.1) v) (Pe.idx (k := 0) (ds := [pth q.1, pth q.2]) (Pe.lidx (ds := W.map pair) (k := (((i + 1) % W.length : Nat) : Int)) (d := pair q) (pW Fb e2b) ?_ (Int.natCast_nonneg _) ?_ (by simp; omega)) (Pe.int _ _ _) (by decide) rfl (by simp)) fun v sc kc r => ?_)
    · refine (Pe.mod (Pe.add (Pe.loc Fb.view (by kernel_rfl) (R := fun h v => Rd h (.int i) v) (upd2 (upd2 upd_self)) (fun h' l => hri.le l)) (Pe.int 1 _ _)) (Pe.lenL Fb.view (G' Fb) (by kernel_rfl) (pW Fb e2b) (by simp; omega)) (by rw [List.length_map]; omega)).mono fun h v r => ?_
      have : ((i : Int) + 1).fmod ((W.map pair).length : Int) = (((i + 1) % W.length : Nat) : Int) := by
        rw [Int.fmod_eq_emod_of_nonneg _ (by omega), List.length_map]; simp
      rwa [this] at r
    · rw [List.getElem?_map, Int.toNat_natCast, hq]; rfl
    have rq := r _ (Le.refl _)
    refine (Fb.le kc).storeL (by kernel_rfl) (by kernel_rfl) fun sd Fd kd => ?_
    have rq := rq.kb kd
    have hrs := (hrs.le kc.le).kb kd
    have hrr := (hrr.le kc.le).kb kd
    clear r
    have e1d := upd2 (x := "later") (v := v) e1b
    have e2d := upd2 (x := "later") (v := v) e2b
    have ed : upd (upd (upd (upd m "at" vi) "spoke" vs) "rim" vr) "later" v "later" = some v := upd_self
    have er : upd (upd (upd (upd m "at" vi) "spoke" vs) "rim" vr) "later" v "rim" = some vr := upd2 upd_self
    have es : upd (upd (upd (upd m "at" vi) "spoke" vs) "rim" vr) "later" v "spoke" = some vs := upd2 (upd2 upd_self)
    generalize hmd : upd (upd (upd (upd m "at" vi) "spoke" vs) "rim" vr) "later" v = md at Fd e1d e2d ed er es
    have kbd : KB [(envAt w 45 L).locals] sa sd := (kb.trans (kc.of_nil _)).trans kd
    have pr : ∀ {s'' : Shared} {pos : Pos}, KB [] sd s'' → Pe prog w A' (envAt w 45 L) s'' (.Name "rim" pos) (fun h v => Rd h (pth rim) v) := fun k =>
      Pe.loc (Fd.le k).view (by kernel_rfl) er (fun h' l => hrr.le (k.le.trans l))
    have ps : ∀ {s'' : Shared} {pos : Pos}, KB [] sd s'' → Pe prog w A' (envAt w 45 L) s'' (.Name "spoke" pos) (fun h v => Rd h (pth spoke) v) := fun k =>
      Pe.loc (Fd.le k).view (by kernel_rfl) es (fun h' l => hrs.le (k.le.trans l))
    have pl : ∀ {s'' : Shared} {pos : Pos}, KB [] sd s'' → Pe prog w A' (envAt w 45 L) s'' (.Name "later" pos) (fun h v => Rd h (pth q.1) v) := fun k =>
      Pe.loc (Fd.le k).view (by kernel_rfl) ed (fun h' l => rq.le (k.le.trans l))
    have hok : okAt P W i = wheelOk P spoke rim q.1 := by unfold okAt; rw [hwi, hnext]
    have bad : wheelOk P spoke rim q.1 = false → isWheelM P W = false := fun hf => by
      unfold isWheelM
      rw [Bool.and_eq_false_iff]; left
      rw [List.all_eq_false]
      exact ⟨i, List.mem_range.mpr hi, by rw [hok, hf]; simp⟩
    have out : ∀ {s'' : Shared} {p1 p2 : Pos} {k1 : Nat} {Q : Flow → Shared → Prop} {E : Value → Shared → Prop} {rest : List Stmt}, KB [] sd s'' → wheelOk P spoke rim q.1 = false → (∀ v s₂, (KB [] s s₂ ∧ ∀ h', Le s₂.heap h' → Rd h' (.bool (isWheelM P W)) v) → Q (.ret v) s₂) →
        wpAny (model prog w) A' (execs (.Return (some (.Constant (.bool false) k1 p1)) p2 :: rest) (envAt w 45 L)) Q E s'' := fun k hf hQ =>
      wpAny_execs_cons (S.ret (Pe.bool false _ _) fun v s₂ k₂ r => hQ _ _ (by rw [bad hf]; exact ⟨(Fd.le k).kb.trans k₂, r⟩))
    have hsl := hsm.1
    have hrl := hsm.2
    have hql := hqs.1
    cases spoke with
    | nil =>
      have emp : ∀ {s'' : Shared} {p1 : Pos} {k1 : Nat}, Pe prog w A' (envAt w 45 L) s'' (.Tuple [] k1 p1) (fun h v => Rd h (pth []) v) := Pe.tuple PeL.nil (by decide)
      refine wpAny_execs_cons (S.ite (b := true) (Pt.or_cons (a := true) (b := false) (Pt.cmp (Pe.eqP (p := []) (q := []) ok'.u (ps (KB.refl _ _)) emp)) (fun h => by cases h)) fun se ke => ?_)
      rw [if_pos rfl]
      exact out ke rfl fun _ _ h => h
    | cons x t =>
      have emp : ∀ {s'' : Shared} {p1 : Pos} {k1 : Nat}, Pe prog w A' (envAt w 45 L) s'' (.Tuple [] k1 p1) (fun h v => Rd h (pth []) v) := Pe.tuple PeL.nil (by decide)
      have p0 : ∀ {s'' : Shared} {p1 p2 p3 : Pos} {k1 : Nat}, KB [] sd s'' → Pe prog w A' (envAt w 45 L) s'' (.Subscript (.Name "spoke" p1) (.Constant (.int 0) k1 p2) p3) (fun h v => Rd h (.int x) v) := fun k =>
        Pe.idx (k := 0) (ps k) (Pe.int _ _ _) (by decide) (by simp) (by simp at hsl ⊢; omega)
      refine wpAny_execs_cons (S.ite (b := !headOk P x (x :: t) rim) ?_ fun se ke => ?_)
      · have : (!headOk P x (x :: t) rim) = (decide ((x :: t : Path) = []) || (!decide ((x :: t) ∈ ofNode P x) || (!decide (rim ∈ ofNode P x) || false))) := by
          unfold headOk; simp
        rw [this]
        refine Pt.or_cons (Pt.cmp (Pe.eqP ok'.u (ps (KB.refl _ _)) emp)) fun _ => Pt.or_cons (Pt.cmp (Pe.ninT ok' (ps (KB.refl _ _)) (Pe.get2 (pP Fd e1d) (p0 (KB.refl _ _))))) fun h => ?_
        have hin : (x :: t) ∈ ofNode P x := by simpa using h
        exact Pt.or_cons (Pt.cmp (Pe.ninT ok' (pr (KB.refl _ _)) (Pe.dget (pP Fd e1d) (p0 (KB.refl _ _)) (g.lookup hin)))) fun h => Pt.or_nil
      cases hh : headOk P x (x :: t) rim with
      | false =>
        rw [if_pos (by simp)]
        exact out ke (by unfold wheelOk; simp [hh]) fun _ _ h => h
      | true =>
        rw [if_neg (by simp)]
        refine wpAny_execs_nil ?_
        obtain ⟨hin, hrin⟩ : (x :: t) ∈ ofNode P x ∧ rim ∈ ofNode P x := by unfold headOk at hh; simpa using hh
        have Fe := Fd.le ke
        refine wpAny_execs_cons (S.ite (b := !placeOk P x (x :: t) rim) ?_ fun sf kf => ?_)
        · refine Pt.cmp ((Pe.gt (Pe.place_of Fe.view (G' Fe) ok' (by kernel_rfl) g (pP Fe e1d) (pr ke) hrin) (Pe.place_of Fe.view (G' Fe) ok' (by kernel_rfl) g (pP Fe e1d) (ps ke) hin)).mono fun h v r => ?_)
          have : (!placeOk P x (x :: t) rim) = decide (((ofNode P x).idxOf (x :: t) : Int) < ((ofNode P x).idxOf rim : Int)) := by
            unfold placeOk
            rw [← decide_not, decide_eq_decide]; omega
          rwa [this]
        have kf' := ke.trans kf
        have Ff := Fd.le kf'
        cases hpl : placeOk P x (x :: t) rim with
        | false =>
          rw [if_pos (by simp)]
          exact out kf' (by unfold wheelOk; simp [hpl]) fun _ _ h => h
        | true =>
          rw [if_neg (by simp)]
          refine wpAny_execs_nil ?_
          refine wpAny_execs_cons (S.ite (b := !tailOk rim q.1) ?_ fun sg kg => ?_)
          · have : (!tailOk rim q.1) = (decide ((rim.length : Int) ≤ (q.1.length : Int)) || ((!decide (rim.drop (rim.length - q.1.length) = q.1)) || false)) := by
              unfold tailOk
              rw [Bool.not_and, Bool.or_false]
              congr 1
              rw [← decide_not, decide_eq_decide]; omega
            rw [this]
            have lr : ∀ {p1 p2 p3 : Pos}, Pe prog w A' (envAt w 45 L) sf (.Call (.Name "len" p1) [.Name "rim" p2] [] p3) (fun h v => Rd h (.int rim.length) v) := by
              intro p1 p2 p3
              simpa using Pe.lenT (np := p1) (pos := p3) Ff.view (G' Ff) (by kernel_rfl) (pr (pos := p2) kf') (by simp; omega)
            have ll : ∀ {p1 p2 p3 : Pos}, Pe prog w A' (envAt w 45 L) sf (.Call (.Name "len" p1) [.Name "later" p2] [] p3) (fun h v => Rd h (.int q.1.length) v) := by
              intro p1 p2 p3
              simpa using Pe.lenT (np := p1) (pos := p3) Ff.view (G' Ff) (by kernel_rfl) (pl (pos := p2) kf') (by simp; omega)
            refine Pt.or_cons (Pt.cmp (Pe.le_ lr ll)) fun h => ?_
            have hlt : ¬ ((rim.length : Int) ≤ (q.1.length : Int)) := by simpa using h
            refine Pt.or_cons (Pt.cmp (Pe.neP ok'.u ?_ (pl kf'))) fun _ => Pt.or_nil
            refine (Pe.sliceFrom (pr kf') (Pe.sub lr ll) (by omega) (by rw [List.length_map]; omega) (by simp; omega)).mono fun h v r => ?_
            have e : ((rim.length : Int) - (q.1.length : Int)).toNat = rim.length - q.1.length := by omega
            rw [e, ← List.map_drop] at r
            exact r
          cases htl : tailOk rim q.1 with
          | false =>
            rw [if_pos (by simp)]
            exact out (kf'.trans kg) (by unfold wheelOk; simp [htl]) fun _ _ h => h
          | true =>
            rw [if_neg (by simp)]
            refine wpAny_execs_nil (wpAny_execs_nil ⟨⟨_, Fd.le (kf'.trans kg), e1d, e2d, ?_⟩, kbd.trans ((kf'.trans kg).of_nil _)⟩)
            rw [List.range_succ, List.all_append, e3, List.all_cons, hok]
            unfold wheelOk; simp [hh, hpl, htl]
  · rintro sa ⟨m, Fm, e1, e2, e3⟩
    rw [List.length_map] at e3
    refine wpAny_execs_cons (S.ret (R := fun h v => Rd h (.bool (isWheelM P W)) v) ((Pe.gt (Pe.lenL Fm.view (G' Fm) (by kernel_rfl) (pW Fm e2) (by simp; omega)) (Pe.int 0 _ _)).mono fun h v r => ?_) fun v s₂ k r => ⟨Fm.kb.trans k, r⟩)
    have : isWheelM P W = decide ((0 : Int) < ((W.map pair).length : Int)) := by
      unfold isWheelM
      rw [e3, Bool.true_and, List.length_map, decide_eq_decide]; omega
    rwa [this]
end
end Mine
end


-- F4
section
set_option maxHeartbeats 2000000
set_option autoImplicit false
namespace Mine
def allPaths (P : Prob) : List Path := P.flatMap (·.2)

theorem lookup_at : ∀ {P : Prob} {i : Nat} {x : Int × List Path}, (P.map (·.1)).Pairwise (· < ·) → P[i]? = some x → P.lookup x.1 = some x.2
  | [], i, x, _, e => by simp at e
  | y :: P, 0, x, _, e => by
    simp at e; subst e
    simp [List.lookup]
  | y :: P, i + 1, x, hp, e => by
    simp at e
    rw [List.map_cons, List.pairwise_cons] at hp
    have hx := hp.1 x.1 (List.mem_map_of_mem (List.mem_of_getElem? e))
    have hne : (x.1 == y.1) = false := by simp; omega
    obtain ⟨a, b⟩ := y
    rw [List.lookup_cons, hne]
    exact lookup_at hp.2 e
theorem ofNode_at {P : Prob} {i : Nat} {x : Int × List Path} (hp : (P.map (·.1)).Pairwise (· < ·)) (e : P[i]? = some x) : ofNode P x.1 = x.2 := by
  unfold ofNode; rw [lookup_at hp e]; rfl

section
variable {prog : Program} {w : World} {A : Around} {env : Env} {s : Shared} {m : Str → Option Value} {n : Nat}

/-- `[path for node in sorted(problem) for path in problem[node]]` in a frame where `problem` is a cell -/
theorem Pe.allComp {P : Prob} {vP : Value} {c : Addr} {p1 p2 p3 p4 p5 p6 p7 p8 p9 pos : Pos} {scope : Scope} (ok : AOk A n) (V : View env m s) (G : GG w s.heap) (g : PG P)
    (hl : env.kindOf "sorted" = some .globalImplicit) (hpk : env.kindOf "problem" = some .cell) (hc : env.cells.lookup ("problem" : Str) = some c) (hm : m "problem" = some vP) (hP : PrAt prog w s.heap P vP)
    (co : CompOk scope env [(("problem" : Str), c)])
    (k1 : ∀ C, (compEnvC scope [(("problem" : Str), c)] C env).kindOf "problem" = some .cell) (k2 : ∀ C, (compEnvC scope [(("problem" : Str), c)] C env).kindOf "node" = some .local) (k3 : ∀ C, (compEnvC scope [(("problem" : Str), c)] C env).kindOf "path" = some .local) :
    Pe prog w A env s (.ListComp (.Name "path" p1) [⟨.Name "node" p2, .Call (.Name "sorted" p3) [.Name "problem" p4] [] p5, [], 0⟩, ⟨.Name "path" p6, .Subscript (.Name "problem" p7) (.Name "node" p8) p9, [], 0⟩] scope pos) (fun h v => Ls h ((allPaths P).map pth) v) := by
  have hc' : ∀ C, (compEnvC scope [(("problem" : Str), c)] C env).cells.lookup ("problem" : Str) = some c := fun C => rfl
  have hg : ∀ C y, (y == ("problem" : Str)) = false → (compEnvC scope [(("problem" : Str), c)] C env).cells.lookup y = none := fun C y hy => by
    show List.lookup y [(("problem" : Str), c)] = none
    rw [List.lookup_cons, hy]; rfl
  have hlen : (P.map fun x => Dt.int x.1).length = P.length := List.length_map _
  have key := Pe.comp2 (elt := .Name "path" p1) (target := .Name "node" p2) (target2 := .Name "path" p6) (iter2 := .Subscript (.Name "problem" p7) (.Name "node" p8) p9) (pos := pos) (ifs2 := [])
    (rows := fun i => ((P.getD i default).2).map pth)
    (PeI.any ok.handled (Pe.sortedD (np := p3) (pos := p5) ok V G hl (Pe.cel (pos := p4) V hpk hc hm (fun h' l => hP.le l)) (g.keys.imp (fun h => Int.le_of_lt h)) (by have := g.few; omega)))
    (by rw [hlen]; have := g.few; omega) V co ?_ ?_ (fun _ => rfl) (fun _ _ => rfl)
  · refine key.mono fun h v r => ?_
    rw [hlen] at r
    have e := range_flat (fun x : Int × List Path => x.2.map pth) default P
    have e2 : (allPaths P).map pth = P.flatMap (fun x : Int × List Path => x.2.map pth) := by unfold allPaths; rw [List.map_flatMap]
    rw [e2, ← e]; exact r
  · intro i v s₁ C hi k hPi V₁ off
    rw [hlen] at hi
    obtain ⟨x, hx, hv⟩ := at_map (enc := fun x : Int × List Path => Dt.int x.1) hPi
    have hgx : P.getD i default = x := by rw [List.getD_eq_getElem?_getD, hx]; rfl
    have hof := ofNode_at g.keys hx
    have hlk := lookup_at g.keys hx
    have hsm := g.small x.1
    rw [hof] at hsm
    refine ⟨_, Asg.name V₁ (k2 C) (hg C _ (by decide)) off, fun s₂ ks kt V₂ => ⟨(x.2.map pth).length, fun j h u => ∃ d, (x.2.map pth)[j]? = some d ∧ Rd h d u, fun j => x.2[j]?.bind fun p => some (pth p),
      PeI.tup ok.handled (Pe.dget (P := P) (k := x.1) (Pe.cel V₂ (k1 C) (hc' C) (upd2 (cap_of hm)) (fun h' l => hP.le (ks.le.trans l))) (Pe.loc V₂ (k2 C) upd_self (fun h' l => (Rd.kt kt _ _ hv).le l)) hlk), by rw [List.length_map]; omega, ?_, ?_⟩⟩
    · dsimp only; rw [List.length_map, hgx, range_get, ← map_fm]
    · intro j u s₃ hj k₃ kt₃ hPj V₃ off₃
      obtain ⟨p, hp, hu⟩ := at_map hPj
      refine ⟨_, true, pth p, Asg.name V₃ (k3 C) (hg C _ (by decide)) off₃, fun y z hy => ?_, fun s₄ k₄ kt₄ V₄ => ⟨PtL.nil, fun _ => Pe.loc V₄ (k3 C) upd_self (fun h' l => (Rd.kt kt₄ _ _ hu).le l)⟩, by dsimp only; rw [hp]; rfl⟩
      have hne : y ≠ ("path" : Str) := by
        rintro rfl
        have : upd (cap [(("problem" : Str), c)] m) "node" v ("path" : Str) = none := by
          rw [upd_ne (by decide)]; rfl
        rw [this] at hy; cases hy
      rw [upd_ne hne]; exact hy
  · intro i hi
    rw [hlen] at hi
    have hx : P[i]? = some P[i] := List.getElem?_eq_getElem hi
    have hgx : P.getD i default = P[i] := by rw [List.getD_eq_getElem?_getD, hx]; rfl
    rw [hgx, List.length_map, ← ofNode_at g.keys hx]
    have := g.small P[i].1
    omega

theorem all_permitted_spec {P : Prob} {vP : Value} {E : Value → Shared → Prop} (ok : AOk A (n + 1)) (G : GG w s.heap) (hP : PrAt prog w s.heap P vP) (g : PG P) :
    wpAny (model prog w) A (call (.ref 26) [vP]) (fun v s' => KB [] s s' ∧ ∀ h', Le s'.heap h' → Ls h' ((allPaths P).map pth) v) E s := by
  refine enter2 (def26 w) G ok (by kernel_rfl) (fun L x hx => ?_) ?_
  · simp at hx; rcases hx with rfl; kernel_rfl
  intro L s₁ A' E' m ok' F hmm
  have m1 := hmm ("problem", vP) (by simp)
  have hcell : (envAt w 26 L).cells = [(("problem" : Str), L + 1)] := by kernel_rfl
  refine wpAny_execs_cons (S.ret (Pe.allComp ok' F.view (G.le F.kb.le) g (by kernel_rfl) (by kernel_rfl) (c := L + 1) (by rw [hcell]; rfl) m1 (hP.le F.kb.le)
    ⟨by kernel_rfl, fun y c h => by rw [hcell]; exact h, by decide, rfl, by decide, fun C => by kernel_rfl⟩ (fun C => by kernel_rfl) (fun C => by kernel_rfl) (fun C => by kernel_rfl)) fun v s₂ k r => ⟨F.kb.trans k, r⟩)
end
end Mine
end


-- F5
section
set_option maxHeartbeats 2000000
set_option autoImplicit false
namespace Mine

abbrev dictObj : Obj := { cls := .type "dict", data := .dict #[] }
theorem GG.size {w : World} {h : Heap} (G : GG w h) : 21 < h.objs.size := Heap.lt_size (G.1 _ _ (def21 w).ho)
theorem GG.notSys {w : World} {h : Heap} (G : GG w h) {d : Addr} (hd : h.get? d = none) (hb : h.objs.size ≤ d) : (d == sysModules) = false := by
  have h1 := G.size
  have h2 : (21 : Nat) < d := Nat.lt_of_lt_of_le h1 hb
  have h3 : d ≠ sysModules := by
    rintro rfl
    exact absurd h2 (by decide)
  simpa using h3

section
variable {prog : Program} {w : World} {A : Around} {env : Env} {s₀ s s₁ : Shared} {m : Str → Option Value} {E : Value → Shared → Prop} {n : Nat}

/-! ### dicts keyed by paths, that hold ints -/
abbrev NX := List (Path × Addr × Value)
def NM (prog : Program) (w : World) (h : Heap) (d : Addr) (xs : NX) : Prop :=
  (d == sysModules) = false ∧ h.DictOfH (tupleKind (intKind prog w)) d xs ∧ (∀ x ∈ xs, Rd h (pth x.1) (.ref x.2.1)) ∧ (∀ x ∈ xs, ∃ i t, x.2.2 = .int i t)
def keysOf (xs : NX) : List Path := xs.map (·.1)
theorem NM.kb {X : List Addr} {s s' : Shared} {d : Addr} {xs : NX} (x : NM prog w s.heap d xs) (k : KB X s s') (hd : d ∉ X) : NM prog w s'.heap d xs := by
  obtain ⟨h0, ⟨o, es, ep, ho, h1, h2, h3, h4, h5⟩, h6, h7⟩ := x
  have h6' : ∀ x ∈ xs, Rd s'.heap (pth x.1) (.ref x.2.1) := fun x hx => (h6 x hx).kb k
  exact ⟨h0, ⟨o, es, ep, k.keep _ _ hd ho, h1, h2, h3, fun x hx => (h6' x hx).key, h5⟩, h6', h7⟩
theorem NM.le {h h' : Heap} {d : Addr} {xs : NX} (x : NM prog w h d xs) (k : Le h h') : NM prog w h' d xs := by
  obtain ⟨h0, ⟨o, es, ep, ho, h1, h2, h3, h4, h5⟩, h6, h7⟩ := x
  have h6' : ∀ x ∈ xs, Rd h' (pth x.1) (.ref x.2.1) := fun x hx => (h6 x hx).le k
  exact ⟨h0, ⟨o, es, ep, k _ _ ho, h1, h2, h3, fun x hx => (h6' x hx).key, h5⟩, h6', h7⟩
theorem NM.live {h : Heap} {d : Addr} {xs : NX} (x : NM prog w h d xs) : (h.get? d).isSome = true := by
  obtain ⟨h0, ⟨o, es, ep, ho, _⟩, _⟩ := x; rw [ho]; rfl
theorem NM.nolist {h : Heap} {d : Addr} {xs : NX} (x : NM prog w h d xs) : ∃ o, h.get? d = some o ∧ ∀ items n, o.data ≠ .seq items n := by
  obtain ⟨h0, ⟨o, es, ep, ho, _, h2, _⟩, _⟩ := x
  exact ⟨o, ho, fun i n e => by rw [e] at h2; cases h2⟩
theorem atKey_some {xs : NX} {p : Path} : (atKey xs p).isSome = decide (p ∈ keysOf xs) := by
  unfold atKey keysOf
  rw [Option.isSome_map, Bool.eq_iff_iff, List.find?_isSome]
  simp
def numAt (xs : NX) (p : Path) : Int := match atKey xs p with | some (_, .int i _) => i | _ => 0
theorem atKey_mem {xs : NX} {p : Path} (h : p ∈ keysOf xs) : ∃ a v, atKey xs p = some (a, v) ∧ (p, a, v) ∈ xs := by
  have hs : (atKey xs p).isSome = true := by rw [atKey_some]; simpa using h
  unfold atKey at *
  cases e : xs.find? fun x => decide (x.1 = p) with
  | none => rw [e] at hs; cases hs
  | some x =>
    obtain ⟨q, a, v⟩ := x
    have h1 := List.find?_some e
    have h2 := List.mem_of_find?_eq_some e
    simp at h1; subst h1
    exact ⟨a, v, rfl, h2⟩

theorem Pe.ninD {e c : Expr} {pos : Pos} {p : Path} {d : Addr} {xs : NX} (ok : AOk A n) (x : Pe prog w A env s e (fun h v => Rd h (pth p) v)) (y : Pe prog w A env s c (fun h v => v = .ref d ∧ NM prog w h d xs))
    (hm : behindInMarks .NotIn c = false := by with_unfolding_all rfl) :
    Pe prog w A env s (.Compare e [.NotIn] [c] pos) (fun h v => Rd h (.bool (!decide (p ∈ keysOf xs))) v) := fun E s₁ ks =>
  wpAny_Compare1 (x.use ks fun v s₂ k₂ r => y.use (ks.trans k₂) fun u s₃ k₃ r₃ => by
    obtain ⟨rfl, h0, hd, h6, h7⟩ := r₃ _ (Le.refl _)
    have hx := r _ k₃.le
    obtain ⟨a, rfl⟩ := hx.pth_ref
    refine wpAny_notIn_heap (knd := tupleKind (intKind prog w)) (k := p) ok.u1 hx.key h0 hd ⟨(k₂.trans k₃).toks _, fun _ _ => ?_⟩
    rw [atKey_some]; exact Rd.boolv _) hm
theorem Pe.nget {e i : Expr} {pos : Pos} {p : Path} {d : Addr} {xs : NX} (ok : AOk A n) (x : Pe prog w A env s e (fun h v => v = .ref d ∧ NM prog w h d xs)) (y : Pe prog w A env s i (fun h v => Rd h (pth p) v))
    (hp : p ∈ keysOf xs) (hsub : ∀ a b, subscripted i false (.ref a) (.ref b) = operate [.ref a, .ref b] (getItem (.ref a) (.ref b)) := by intro _ _; with_unfolding_all rfl) :
    Pe prog w A env s (.Subscript e i pos) (fun h v => Rd h (.int (numAt xs p)) v) := fun E s₁ ks =>
  Subscript_ (x.use ks fun v s₂ k₂ r => y.use (ks.trans k₂) fun u s₃ k₃ r₃ => by
    obtain ⟨rfl, h0, hd, h6, h7⟩ := r _ k₃.le
    have hx := r₃ _ (Le.refl _)
    obtain ⟨a, rfl⟩ := hx.pth_ref
    obtain ⟨b, v, hat, hmem⟩ := atKey_mem hp
    obtain ⟨i, t, e⟩ := h7 _ hmem
    dsimp only at e; subst e
    refine tail_any hd.typeIs slot_dict_getitem.lookup (wpAny_getItem_heap (knd := tupleKind (intKind prog w)) (k := p) (p := (b, .int i t)) ok.u1 hx.key hd hat ⟨(k₂.trans k₃).toks _, fun _ _ => ?_⟩) (hsub _ _)
    have : numAt xs p = i := by unfold numAt; rw [hat]
    rw [this]; exact Rd.int _ _)

theorem keys_stored {xs : NX} {p : Path} {a : Addr} {v : Value} : (∀ q, q ∈ keysOf (storedH xs p a v) ↔ q ∈ keysOf xs ∨ q = p) ∧ (storedH xs p a v).length ≤ xs.length + 1 := by
  unfold storedH keysOf
  split
  · rename_i h
    rw [keys_map_putAt]
    refine ⟨fun q => ⟨.inl, fun hq => hq.elim id fun e => ?_⟩, by simp⟩
    subst e
    rw [atKey_some] at h
    exact of_decide_eq_true h
  · refine ⟨fun q => ?_, by simp⟩
    simp

/-- `numbers[p] = e` -/
theorem S.setNM {o i e : Expr} {pos spos : Pos} {p : Path} {d : Addr} {xs : NX} {Q : Flow → Shared → Prop} (ok : AOk A n) (x : Pe prog w A env s e (fun h v => ∃ i : Int, Rd h (.int i) v)) (y : Pe prog w A env s o (fun h v => v = .ref d ∧ NM prog w h d xs))
    (z : Pe prog w A env s i (fun h v => Rd h (pth p) v)) (hs : xs.length < 100000)
    (h : ∀ s' xs', KB [d] s s' → NM prog w s'.heap d xs' → (∀ q, q ∈ keysOf xs' ↔ q ∈ keysOf xs ∨ q = p) → xs'.length ≤ xs.length + 1 → Q .next s')
    (hsw : swapsWith e (some (.Subscript o i pos)) spos.line env = pure false := by rfl) : wpAny (model prog w) A (exec (.Assign [.Subscript o i pos] e spos) env) Q E s :=
  wpAny_Assign_Subscript (x.use (KB.refl _ _) fun v s₂ k₂ r => y.use k₂ fun u s₃ k₃ r₃ => z.use (k₂.trans k₃) fun t s₄ k₄ r₄ => by
    obtain ⟨rfl, h0, hd, h6, h7⟩ := r₃ _ k₄.le
    obtain ⟨i, hv⟩ := r _ (k₃.trans k₄).le
    obtain ⟨tk, rfl⟩ := Rd.int_iff.mp hv
    have hx := r₄ _ (Le.refl _)
    obtain ⟨a, rfl⟩ := hx.pth_ref
    refine wpAny_setItem_heap (knd := tupleKind (intKind prog w)) (k := p) ok.u1 hx.key hd (fun h' hm' hs' => ?_) (line_of_lt (by omega))
    obtain ⟨⟨od, es, ep, hod, hx1, hx2, _⟩, hm2⟩ := And.intro hd hm'
    have kd : KB [d] s₄ { s₄ with heap := h', toks := s₄.toks + (tupleKind (intKind prog w)).draws p } := KB.one hod (fun i n e => by rw [e] at hx2; cases hx2) hs'
    have kk : KB [d] s { s₄ with heap := h', toks := s₄.toks + (tupleKind (intKind prog w)).draws p } := (((k₂.trans k₃).trans k₄).of_nil _).trans kd
    have hr' : ∀ y ∈ xs, Rd h' (pth y.1) (.ref y.2.1) := fun y hy => (h6 y hy).kb kd
    have hp' : Rd h' (pth p) (.ref a) := hx.kb kd
    obtain ⟨hk1, hk2⟩ := keys_stored (xs := xs) (p := p) (a := a) (v := .int i tk)
    refine h _ _ kk ⟨h0, hm2, fun y hy => ?_, fun y hy => ?_⟩ hk1 hk2
    · unfold storedH at hy
      split at hy
      · obtain ⟨z, hz, rfl⟩ := List.mem_map.mp hy
        have := hr' z hz
        unfold putAt; split <;> exact this
      · rcases List.mem_append.mp hy with hy | hy
        · exact hr' y hy
        · simp only [List.mem_singleton] at hy; subst hy; exact hp'
    · unfold storedH at hy
      split at hy
      · obtain ⟨z, hz, rfl⟩ := List.mem_map.mp hy
        have := h7 z hz
        unfold putAt; split
        · exact ⟨i, tk, rfl⟩
        · exact this
      · rcases List.mem_append.mp hy with hy | hy
        · exact h7 y hy
        · simp only [List.mem_singleton] at hy; subst hy; exact ⟨i, tk, rfl⟩) hsw

/-! ### new dicts and lists -/
theorem Pe.dictNew {pos : Pos} (G : GG w s.heap) : Pe prog w A env s (.Dict [] [] pos) (fun h v => ∃ d, v = .ref d ∧ s.heap.get? d = none ∧ (d == sysModules) = false ∧ h.get? d = some dictObj) := fun E s₁ k =>
  wpAny_Dict_empty ⟨KB.push s₁ _ _, fun h' l => ⟨_, rfl, fresh_ge k.le (Nat.le_refl _), (G.le k.le).notSys (unborn (Nat.le_refl _)) (Nat.le_refl _), l _ _ (Heap.get?_push_size _ rfl)⟩⟩
theorem NM.new {h : Heap} {d : Addr} (hs : (d == sysModules) = false) (hd : h.get? d = some dictObj) : NM prog w h d [] :=
  ⟨hs, ⟨_, #[], 0, hd, ⟨rfl, rfl, rfl⟩, rfl, rfl, fun _ hx => by simp at hx, List.nodup_nil⟩, fun _ hx => by simp at hx, fun _ hx => by simp at hx⟩
theorem Pe.listNew {es : List Expr} {pos : Pos} {ds : List Dt} (y : PeL prog w A env s es ds) (hs : ds.length < 100000 := by decide) :
    Pe prog w A env s (.List es pos) (fun h v => ∃ l, v = .ref l ∧ s.heap.get? l = none ∧ LT h l ds) := fun E s₁ ks =>
  wpAny_List_spliced (wpAny_mono (y E s₁ _ ks) (fun vs s₂ h => ⟨by rw [h.2.length]; exact line_of_lt hs, h.1.trans (KB.push s₂ _ _), fun h' l =>
    ⟨_, rfl, fresh_ge (ks.trans h.1).le (Nat.le_refl _), vs, 0, l _ _ (Heap.get?_push_size _ rfl), (h.2.le (Le.push _ _)).le l⟩⟩) fun _ _ z => z)

/-- `(e, f)`, of whatever they give -/
theorem Pe.pair2 {e f : Expr} {k : Nat} {pos : Pos} {R S : Heap → Value → Prop} (x : Pe prog w A env s e R) (y : Pe prog w A env s f S) (he : starEach [e, f] env = (false, eval e env) :: starEach [f] env := by rfl)
    (hf : starEach [f] env = (false, eval f env) :: starEach [] env := by rfl) :
    Pe prog w A env s (.Tuple [e, f] k pos) (fun h v => ∃ a n v₁ v₂, v = .ref a ∧ h.get? a = some (tupObj #[v₁, v₂] n) ∧ R h v₁ ∧ S h v₂) := fun E s₁ ks =>
  wpAny_Tuple_spliced (wpAny_mono (PeA.two x y he hf E s₁ _ ks) (fun vs s₂ h => ⟨by
    obtain ⟨v, u, rfl, _⟩ := h.2 _ (Le.refl _); exact line_of_lt (by simp), h.1.trans (KB.push s₂ _ _), fun h' l => by
    obtain ⟨v, u, rfl, r1, r2⟩ := h.2 h' ((Le.push _ _).trans l)
    exact ⟨_, 0, v, u, rfl, l _ _ (Heap.get?_push_size _ rfl), r1, r2⟩⟩) fun _ _ z => z)

/-! ### a list against `[]` -/
theorem cmp_nil {l b : Addr} {ds : List Dt} {Q : Value → Shared → Prop} (hu : A.units < cLine) (hl : LT s.heap l ds) (hb : LT s.heap b []) (h : Q (.bool (decide (ds = []))) s) : wpAny (model prog w) A (compareOp .Eq (.ref l) (.ref b)) Q E s := by
  obtain ⟨items, k, ho, hr⟩ := hl
  obtain ⟨items2, k2, ho2, hr2⟩ := hb
  have h1 := hr.length
  have h2 := hr2.length
  cases ds with
  | nil =>
    refine SeqAt.RcAt.lists (lst_of ho) (lst_of ho2) (e := fun _ => true) (by simp [h1, h2]) hu (fun j hj => by simp [h1] at hj) prog w E Q ?_
    simpa [h1] using h
  | cons d ds =>
    refine SeqAt.RcAt.lists_lengths (lst_of ho) (lst_of ho2) (by simp [h1, h2]) hu prog w E Q ?_
    simpa using h
theorem cmp_nil_ne {l b : Addr} {ds : List Dt} {Q : Value → Shared → Prop} (hu : A.units < cLine) (hl : LT s.heap l ds) (hb : LT s.heap b []) (h : Q (.bool (!decide (ds = []))) s) : wpAny (model prog w) A (compareOp .NotEq (.ref l) (.ref b)) Q E s := by
  obtain ⟨items, k, ho, hr⟩ := hl
  obtain ⟨items2, k2, ho2, hr2⟩ := hb
  have h1 := hr.length
  have h2 := hr2.length
  cases ds with
  | nil =>
    refine SeqAt.RcNeAt.lists (lst_of ho) (lst_of ho2) (e := fun _ => true) (by simp [h1, h2]) hu (fun j hj => by simp [h1] at hj) prog w E Q ?_
    simpa [h1] using h
  | cons d ds =>
    refine SeqAt.RcNeAt.lists_lengths (lst_of ho) (lst_of ho2) (by simp [h1, h2]) hu prog w E Q ?_
    simpa using h
theorem Pe.eqNil {e i : Expr} {pos : Pos} {ds : List Dt} (hu : A.units < cLine) (x : Pe prog w A env s e (fun h v => Ls h ds v)) (y : Pe prog w A env s i (fun h v => Ls h [] v))
    (hm : behindInMarks .Eq i = false := by with_unfolding_all rfl) : Pe prog w A env s (.Compare e [.Eq] [i] pos) (fun h v => Rd h (.bool (decide (ds = []))) v) := fun E s₁ ks =>
  wpAny_Compare1 (x.use ks fun v s₂ k₂ r => y.use (ks.trans k₂) fun u s₃ k₃ r₃ => by
    obtain ⟨l, rfl, hl⟩ := r _ k₃.le
    obtain ⟨b, rfl, hb⟩ := r₃ _ (Le.refl _)
    exact cmp_nil hu hl hb ⟨k₂.trans k₃, fun _ _ => Rd.boolv _⟩) hm
theorem Pe.neNil {e i : Expr} {pos : Pos} {ds : List Dt} (hu : A.units < cLine) (x : Pe prog w A env s e (fun h v => Ls h ds v)) (y : Pe prog w A env s i (fun h v => Ls h [] v))
    (hm : behindInMarks .NotEq i = false := by with_unfolding_all rfl) : Pe prog w A env s (.Compare e [.NotEq] [i] pos) (fun h v => Rd h (.bool (!decide (ds = []))) v) := fun E s₁ ks =>
  wpAny_Compare1 (x.use ks fun v s₂ k₂ r => y.use (ks.trans k₂) fun u s₃ k₃ r₃ => by
    obtain ⟨l, rfl, hl⟩ := r _ k₃.le
    obtain ⟨b, rfl, hb⟩ := r₃ _ (Le.refl _)
    exact cmp_nil_ne hu hl hb ⟨k₂.trans k₃, fun _ _ => Rd.boolv _⟩) hm
theorem Pe.ifexp {t e f : Expr} {pos : Pos} {b : Bool} {R : Heap → Value → Prop} (x : Pt prog w A env s t b) (y : b = true → Pe prog w A env s e R) (z : b = false → Pe prog w A env s f R) :
    Pe prog w A env s (.IfExp t e f pos) R := fun E s₁ ks =>
  wpAny_IfExp (wpAny_mono (x E s₁ ks) (fun r s₂ h => by
    obtain ⟨rfl, k⟩ := h
    cases r with
    | true => exact (y rfl).use (ks.trans k) fun v s₃ k₃ r => ⟨k.trans k₃, r⟩
    | false => exact (z rfl).use (ks.trans k) fun v s₃ k₃ r => ⟨k.trans k₃, r⟩) fun _ _ z => z)

/-! ### statements -/
theorem S.while_ {test : Expr} {body : List Stmt} {pos : Pos} {Q : Flow → Shared → Prop} (J : Nat → Shared → Prop) (k₀ : Nat) (h0 : J k₀ s)
    (turn : ∀ k s₁, J k s₁ → ∃ b, Pt prog w A env s₁ test b ∧ ∀ s₂, KB [] s₁ s₂ → if b = true then ∀ E' : Value → Shared → Prop, wpAny (model prog w) A (execs body env) (fun f s₃ => match f with
      | .next | .cont => ∃ k', k' < k ∧ J k' s₃
      | .brk => False
      | .ret u => Q (.ret u) s₃) E' s₂ else Q .next s₂) : wpAny (model prog w) A (exec (.While test body [] pos) env) Q E s := by
  refine wpAny_While (codeAny_whileLoop J (fun k s₁ hJ => ?_) k₀ h0)
  obtain ⟨b, ht, hb⟩ := turn k s₁ hJ
  refine wpAny_mono (ht _ s₁ (KB.refl _ _)) (fun r s₂ h => ?_) fun _ _ z => z
  obtain ⟨rfl, k⟩ := h
  have hb := hb s₂ k
  cases r with
  | false =>
    simp only [Bool.false_eq_true, if_false] at hb ⊢
    exact wpAny_execs_nil hb
  | true =>
    simp only [if_true] at hb ⊢
    refine wpAny_mono (hb _) (fun f s₃ h₃ => ?_) fun _ _ z => z
    cases f with
    | next => exact h₃
    | cont => exact h₃
    | brk => exact h₃.elim
    | ret u => exact h₃
/-- `x, y = e` -/
theorem S.assignT {elts : List Expr} {k : Nat} {e : Expr} {tp pos : Pos} {R : Heap → Value → Prop} {Q : Flow → Shared → Prop} (x : Pe prog w A env s e R)
    (h : ∀ v s₂, KB [] s s₂ → (∀ h', Le s₂.heap h' → R h' v) → wpAny (model prog w) A (PySem.assign (.Tuple elts k tp) env v) (fun _ => Q .next) E s₂)
    (hs : swapsWithSole [.Tuple elts k tp] e pos.line env = pure false := by rfl) (hw : swappedStores [.Tuple elts k tp] e env = pure none := by rfl) :
    wpAny (model prog w) A (exec (.Assign [.Tuple elts k tp] e pos) env) Q E s := PyProof.Rows.Assign_Tuple (x.use (KB.refl _ _) h) hs hw
/-- `x, y = e, f`, to two locals -/
theorem S.assign2 {a b : Str} {k k' : Nat} {e f : Expr} {pa pb tp tp' pos : Pos} {R S : Heap → Value → Prop} {Q : Flow → Shared → Prop} (hh : A.handled = none) (F : Frm s₀ env m s) (hla : env.kindOf a = some .local) (hca : env.cells.lookup a = none) (hlb : env.kindOf b = some .local) (hcb : env.cells.lookup b = none)
    (x : Pe prog w A env s e R) (y : Pe prog w A env s f S)
    (h : ∀ v₁ v₂ s₂ s', KB [] s s₂ → R s₂.heap v₁ → S s₂.heap v₂ → KB [env.locals] s₂ s' → Frm s₀ env (upd (upd m b v₂) a v₁) s' → Q .next s')
    (he : starEach [e, f] env = (false, eval e env) :: starEach [f] env := by rfl) (hf : starEach [f] env = (false, eval f env) :: starEach [] env := by rfl)
    (hs : swapsWithSole [.Tuple [.Name a pa, .Name b pb] k tp] (.Tuple [e, f] k' tp') pos.line env = pure false := by rfl)
    (hw : swappedStores [.Tuple [.Name a pa, .Name b pb] k tp] (.Tuple [e, f] k' tp') env = pure (some [a, b]) := by rfl) :
    wpAny (model prog w) A (exec (.Assign [.Tuple [.Name a pa, .Name b pb] k tp] (.Tuple [e, f] k' tp') pos) env) Q E s := by
  refine Assign_Tuple_swapped (wpAny_Tuple_spliced (wpAny_mono (PeA.two x y he hf E s _ (KB.refl _ _)) (fun vs s₁ h₁ => ?_) fun _ _ z => z)) hs hw
  obtain ⟨k₁, r⟩ := h₁
  obtain ⟨v₁, v₂, rfl, _⟩ := r _ (Le.refl _)
  refine ⟨line_of_lt (by simp), ?_⟩
  have kp := KB.push s₁ (tupObj #[v₁, v₂] 0) s₁.toks
  have hsz : ([a, b] : List Str).length = (#[v₁, v₂] : Array Value).size := rfl
  rw [hsz]
  refine unpackItems_tuple hh (tup_of (n := 0) (Heap.get?_push_size _ rfl)) fun h' hx => ?_
  have kb : KB [] s₁ { s₁ with heap := h', toks := s₁.toks } := KB.of_le fun b o e => hx b o (Nat.ne_of_lt (Heap.lt_size (kp.le _ _ e))) (kp.le _ _ e)
  obtain ⟨v', u', e', r1', r2'⟩ := r _ kb.le
  injection e' with e3 e'
  injection e' with e4 _
  subst e3 e4
  show wpAny _ A (assignInOrder [fun v => bindName env b v, fun v => bindName env a v] [_, _]) _ _ _
  refine assignInOrder_cons (bindName_ ((F.le (k₁.trans kb)).storeL hlb hcb fun s₃ F₃ k₃ => ?_))
  refine assignInOrder_cons (bindName_ (F₃.storeL hla hca fun s₄ F₄ k₄ => ?_))
  exact assignInOrder_nil (h _ _ _ _ (k₁.trans kb) r1' r2' (k₃.trans k₄) F₄)
end
end Mine
end


-- F6
section
set_option maxHeartbeats 2000000
set_option autoImplicit false
namespace Mine

def rimsP (P : Prob) (p : Path) : List (Path × Path) := rims P (p.getD 0 0) p
def readyOk (P : Prob) (K : List Path) (p : Path) : Bool := (rimsP P p).all fun q => decide (q.2 ∈ K)
def freeRest (K : List Path) (q : Path × Path) : Option Dt := if q.2 ∈ K then none else some (pth q.2)
theorem free_nil {K : List Path} : ∀ {qs : List (Path × Path)}, (qs.filterMap (freeRest K) = []) ↔ (qs.all fun q => decide (q.2 ∈ K)) = true
  | [] => by simp
  | q :: qs => by
    rw [List.all_cons, Bool.and_eq_true, decide_eq_true_eq, ← free_nil]
    by_cases h : q.2 ∈ K
    · have : freeRest K q = none := if_pos h
      rw [List.filterMap_cons, this]; simp [h]
    · have : freeRest K q = some (pth q.2) := if_neg h
      rw [List.filterMap_cons, this]; simp [h]
theorem filter_two {α : Type} (f r : α → Bool) : ∀ (L : List α), (∀ p ∈ L, f p = true → r p = true → False) → (L.filter f).length + (L.filter r).length ≤ L.length
  | [], _ => by simp
  | x :: L, h => by
    have ih := filter_two f r L fun p hp => h p (List.mem_cons_of_mem _ hp)
    have hx := h x List.mem_cons_self
    cases hf : f x <;> cases hr : r x <;> simp only [List.filter_cons, hf, hr, if_true, Bool.false_eq_true, if_false, List.length_cons] <;> first | omega | exact (hx hf hr).elim
theorem filter_fm {α β : Type} (f : α → Bool) (g : α → β) : ∀ (L : List α), L.filterMap (fun x => if f x = true then some (g x) else none) = (L.filter f).map g
  | [] => rfl
  | x :: L => by
    rw [List.filterMap_cons, filter_fm f g L, List.filter_cons]
    cases hf : f x <;> simp
theorem mem_allPaths {P : Prob} (g : PG P) {p : Path} (h : p ∈ allPaths P) : p ∈ ofNode P (p.getD 0 0) := by
  obtain ⟨x, hx, hp⟩ := List.mem_flatMap.mp h
  obtain ⟨i, hi⟩ := List.mem_iff_getElem?.mp hx
  have e := ofNode_at g.keys hi
  have hp' : p ∈ ofNode P x.1 := by rw [e]; exact hp
  have := (g.first _ _ hp').1
  have e2 : p.getD 0 0 = x.1 := by rw [List.getD_eq_getElem?_getD, this]; rfl
  rw [e2]; exact hp'
theorem mem_of_ofNode {P : Prob} {x : Int} {p : Path} (h : p ∈ ofNode P x) : p ∈ allPaths P := by
  unfold ofNode at h
  cases e : P.lookup x with
  | none => rw [e] at h; simp at h
  | some ps =>
    rw [e] at h
    refine List.mem_flatMap.mpr ⟨(x, ps), ?_, h⟩
    clear h
    induction P with
    | nil => simp at e
    | cons y P ih =>
      obtain ⟨a, b⟩ := y
      rw [List.lookup_cons] at e
      cases hxa : x == a with
      | true => rw [hxa] at e; simp at e hxa; subst e hxa; exact List.mem_cons_self
      | false => rw [hxa] at e; exact List.mem_cons_of_mem _ (ih e)
theorem allPaths_len {P : Prob} (g : PG P) : (allPaths P).length < 6000 := by
  have h := flatMap_len (l := P) (f := (·.2)) (c := 90) fun x hx => by
    obtain ⟨i, hi⟩ := List.mem_iff_getElem?.mp hx
    have e := ofNode_at g.keys hi
    rw [← e]; have := g.small x.1; omega
  have := g.few
  unfold allPaths
  omega

/-- numbers and what is left when nothing more can be numbered -/
def Stuck (P : Prob) (K L : List Path) : Prop := (∀ p ∈ L, p ∈ allPaths P ∧ readyOk P K p = false) ∧ ∀ p ∈ allPaths P, p ∉ K → p ∈ L

section
variable {prog : Program} {w : World} {A : Around} {env : Env} {s₀ s s₁ : Shared} {m : Str → Option Value} {E : Value → Shared → Prop} {n : Nat}

theorem Frm.ne_locals {l : Addr} {ds : List Dt} (F : Frm s₀ env m s) (h : LT s.heap l ds) : l ≠ env.locals := by
  rintro rfl
  obtain ⟨items, n, ho, _⟩ := h
  obtain ⟨ml, ⟨o, es, ep, ho', hd, _⟩, _⟩ := F.view.ns
  rw [ho] at ho'; cases ho'; cases hd
theorem Frm.ne_cell {l : Addr} {ds : List Dt} {x : Str} {c : Addr} (F : Frm s₀ env m s) (h : LT s.heap l ds) (hc : env.cells.lookup x = some c) : l ≠ c := by
  rintro rfl
  obtain ⟨items, n, ho, _⟩ := h
  obtain ⟨v₀, ⟨o, ho', hd⟩, _⟩ := F.view.cell x l hc
  rw [ho] at ho'; cases ho'; cases hd
theorem LT.live {h : Heap} {l : Addr} {ds : List Dt} (x : LT h l ds) : (h.get? l).isSome = true := by obtain ⟨_, _, ho, _⟩ := x; rw [ho]; rfl
theorem LT.ne_fresh {h : Heap} {l l' : Addr} {ds : List Dt} (x : LT h l ds) (e : h.get? l' = none) : l ≠ l' := by
  rintro rfl; obtain ⟨_, _, ho, _⟩ := x; rw [e] at ho; cases ho
theorem LT.ne_dict {h : Heap} {l d : Addr} {ds : List Dt} {xs : NX} (x : LT h l ds) (y : NM prog w h d xs) : l ≠ d := by
  rintro rfl
  obtain ⟨_, _, ho, _⟩ := x
  obtain ⟨o, ho', hn⟩ := y.nolist
  rw [ho] at ho'; cases ho'; exact hn _ _ rfl
theorem Pe.add1 {e i : Expr} {pos : Pos} {a : Int} (x : Pe prog w A env s e (fun h v => Rd h (.int a) v)) (y : Pe prog w A env s i (fun h v => ∃ b : Int, Rd h (.int b) v)) :
    Pe prog w A env s (.BinOp e .Add i pos) (fun h v => ∃ c : Int, Rd h (.int c) v) := fun E s₁ ks =>
  wpAny_BinOp (x.use ks fun v s₂ k₂ r => y.use (ks.trans k₂) fun u s₃ k₃ r₃ => by
    obtain ⟨t, rfl⟩ := Rd.int_iff.mp (r _ k₃.le)
    obtain ⟨b, hb⟩ := r₃ _ (Le.refl _)
    obtain ⟨t', rfl⟩ := Rd.int_iff.mp hb
    exact wpAny_add_int ⟨(k₂.trans k₃).toks _, fun _ _ => ⟨_, Rd.int _ _⟩⟩)
theorem Pe.rims_of {P : Prob} {p : Path} {np pos : Pos} {e f : Expr} (V : View env m s) (G : GG w s.heap) (ok : AOk A (n + 2)) (hl : env.kindOf "rims_of" = some .globalImplicit) (g : PG P)
    (a : Pe prog w A env s e (fun h v => PrAt prog w h P v)) (b : Pe prog w A env s f (fun h v => Rd h (pth p) v)) (hm : p ∈ ofNode P (p.getD 0 0))
    (he : starEach [e, f] env = (false, eval e env) :: starEach [f] env := by rfl) (hf : starEach [f] env = (false, eval f env) :: starEach [] env := by rfl) :
    Pe prog w A env s (.Call (.Name "rims_of" np) [e, f] [] pos) (fun h v => Ls h ((rimsP P p).map pair) v) := by
  refine Pe.callDef V G hl (by kernel_rfl) (def38 w).ho (def38 w).hdat (PeA.two a b he hf) (fun E s₁ vs k hv => ?_) (by decide) he
  obtain ⟨v, u, rfl, r1, r2⟩ := hv
  exact rims_of_spec ok (G.le k.le) r1 r2 g hm
theorem Pe.all_permitted {P : Prob} {np pos : Pos} {e : Expr} (V : View env m s) (G : GG w s.heap) (ok : AOk A (n + 1)) (hl : env.kindOf "all_permitted" = some .globalImplicit) (g : PG P)
    (a : Pe prog w A env s e (fun h v => PrAt prog w h P v))
    (he : starEach [e] env = (false, eval e env) :: starEach [] env := by rfl) :
    Pe prog w A env s (.Call (.Name "all_permitted" np) [e] [] pos) (fun h v => Ls h ((allPaths P).map pth) v) := by
  refine Pe.callDef V G hl (by kernel_rfl) (def26 w).ho (def26 w).hdat (PeA.one a he) (fun E s₁ vs k hv => ?_) (by decide) he
  obtain ⟨v, rfl, r1⟩ := hv
  exact all_permitted_spec ok (G.le k.le) r1 g
theorem rimsP_len {P : Prob} (g : PG P) (p : Path) : (rimsP P p).length < 9000 := by
  have := g.rimsK (p.getD 0 0) p (likes P (p.getD 0 0) p).length
  unfold rimsK at this
  rwa [List.take_length] at this

/-- what the frame of `peeled` holds between two turns -/
def PJ (prog : Program) (w : World) (P : Prob) (s₀ : Shared) (env : Env) (vP : Value) (k : Nat) (s : Shared) : Prop :=
  ∃ m D xs Ll, ∃ L : List Path, Frm s₀ env m s ∧ m "problem" = some vP ∧ m "numbers" = some (.ref D) ∧ m "left" = some (.ref Ll) ∧ NM prog w s.heap D xs ∧ LT s.heap Ll (L.map pth) ∧ s₀.heap.get? D = none ∧ D ∉ mutA env ∧
    (∀ p ∈ L, p ∈ allPaths P) ∧ (∀ p ∈ allPaths P, p ∉ keysOf xs → p ∈ L) ∧ xs.length + L.length ≤ (allPaths P).length ∧ k = L.length

theorem peeled_spec {P : Prob} {vP : Value} {E : Value → Shared → Prop} (ok : AOk A (n + 3)) (G : GG w s.heap) (hP : PrAt prog w s.heap P vP) (g : PG P) :
    wpAny (model prog w) A (call (.ref 50) [vP]) (fun v s' => KB [] s s' ∧ ∀ h', Le s'.heap h' → ∃ a n D Ll xs, ∃ L : List Path, v = .ref a ∧ h'.get? a = some (tupObj #[.ref D, .ref Ll] n) ∧ NM prog w h' D xs ∧ LT h' Ll (L.map pth) ∧ Stuck P (keysOf xs) L ∧ s.heap.get? D = none ∧ L.length ≤ (allPaths P).length) E s := by
  refine enter2 (def50 w) G ok (by kernel_rfl) (fun L x hx => ?_) ?_
  · simp at hx; rcases hx with rfl; kernel_rfl
  intro L₀ s₁ A' E' m ok' F hmm
  have m1 := hmm ("problem", vP) (by simp)
  have hcell : (envAt w 50 L₀).cells = [(("numbers" : Str), L₀ + 1)] := by kernel_rfl
  have hcl : (envAt w 50 L₀).cells.lookup ("numbers" : Str) = some (L₀ + 1) := by rw [hcell]; rfl
  have G' : ∀ {s'' : Shared} {m' : Str → Option Value}, Frm s (envAt w 50 L₀) m' s'' → GG w s''.heap := fun F' => G.le F'.kb.le
  have pP : ∀ {s'' : Shared} {m' : Str → Option Value} {pos : Pos}, Frm s (envAt w 50 L₀) m' s'' → m' "problem" = some vP → Pe prog w A' (envAt w 50 L₀) s'' (.Name "problem" pos) (fun h v => PrAt prog w h P v) := by
    intro s'' m' pos F' e
    exact Pe.loc F'.view (by kernel_rfl) e (fun h' l => hP.le (F'.kb.le.trans l))
  have hall := allPaths_len g
  refine wpAny_execs_cons (S.assignT (Pe.pair2 (Pe.dictNew (G' F)) (Pe.all_permitted F.view (G' F) ok' (by kernel_rfl) g (pP F m1))) fun v s₂ k₂ r => ?_)
  obtain ⟨a, na, v₁, v₂, rfl, ho, ⟨D, rfl, hD, hDs, hDo⟩, Ll, rfl, hLl⟩ := r _ (Le.refl _)
  refine FAsg.run (env := envAt w 50 L₀) (X := [(envAt w 50 L₀).locals, L₀ + 1]) (FAsg.tup2 ok'.handled ho (FAsg.cel (by simp) (by kernel_rfl) hcl) (FAsg.loc (by simp) (by kernel_rfl) (by rw [hcell]; rfl))) (F.le k₂) fun s₃ F₃ k₃ => ?_
  obtain ⟨hDm, hD0⟩ := F.fresh hD
  have hmut : ∀ a ∈ [(envAt w 50 L₀).locals, L₀ + 1], a ∈ mutA (envAt w 50 L₀) := by
    intro a ha
    simp only [List.mem_cons, List.not_mem_nil, or_false] at ha
    rcases ha with rfl | rfl
    · exact List.mem_cons_self
    · exact mem_mut_cell hcl
  have F2 := F.le k₂
  refine wpAny_execs_cons (S.while_ (PJ prog w P s (envAt w 50 L₀) vP) (allPaths P).length ?_ ?_)
  · refine ⟨_, D, [], Ll, allPaths P, F₃, upd2 (upd2 m1), upd2 upd_self, upd_self, (NM.new hDs hDo).kb k₃ (fun h => hDm (hmut _ h)), hLl.kb k₃ ?_, hD0, hDm, fun _ h => h, fun _ h _ => h, by simp, rfl⟩
    intro h
    simp only [List.mem_cons, List.not_mem_nil, or_false] at h
    rcases h with h | h
    · exact F2.ne_locals hLl h
    · exact F2.ne_cell hLl hcl h
  · rintro k sa ⟨m, D, xs, Ll, L, Fa, e1, e2, e3, hN, hL, hD0, hDm, hL1, hL2, hlen, rfl⟩
    refine ⟨true, Pt.val (Pe.bool true _ _), fun sb kab => ?_⟩
    rw [if_pos rfl]
    intro E''
    have Fb := Fa.le kab
    have hNb := hN.le kab.le
    have hLb := hL.le kab.le
    refine wpAny_execs_cons (S.assignList Fb (by kernel_rfl) (by rw [hcell]; rfl) PeL.nil (by decide) fun l sc Fc kc hl hlD => ?_)
    have hlX := not_mut Fb hlD
    have hlM := Fb.fresh hlD
    have hLne : Ll ≠ l := hLb.ne_fresh hlD
    have hDne : D ≠ l := by rintro rfl; have := hNb.live; rw [hlD] at this; cases this
    have hNc := hNb.kb kc (fun h => hDm (by simp only [List.mem_singleton] at h; exact h ▸ List.mem_cons_self))
    have hLc := hLb.kb kc (by simp only [List.mem_singleton]; exact Fb.ne_locals hLb)
    have hready : ∀ p ∈ L, p ∈ ofNode P (p.getD 0 0) := fun p hp => mem_allPaths g (hL1 p hp)
    -- the first loop: what may be numbered now
    refine wpAny_execs_cons (S.for_ (src := fun a => a = Ll) (n := (L.map pth).length) (P := fun i h v => ∃ d, (L.map pth)[i]? = some d ∧ Rd h d v)
      (PeI.lst (fun a => a = Ll) ok'.handled (Pe.loc Fc.view (by kernel_rfl) (upd2 e3) (fun h' l' => ⟨Ll, rfl, hLc.le l', rfl⟩)))
      (fun i s' => ∃ m, Frm s (envAt w 50 L₀) m s' ∧ m "problem" = some vP ∧ m "numbers" = some (.ref D) ∧ m "left" = some (.ref Ll) ∧ m "ready" = some (.ref l) ∧ NM prog w s'.heap D xs ∧ LT s'.heap Ll (L.map pth) ∧ LT s'.heap l (((L.take i).filter (readyOk P (keysOf xs))).map pth))
      [(envAt w 50 L₀).locals, l] ?_ ?_ ?_ ?_ ?_ ?_)
    · intro a ha
      simp only [List.mem_cons, List.not_mem_nil, or_false] at ha
      rcases ha with rfl | rfl
      · exact Fc.has _ List.mem_cons_self
      · exact hl.live
    · rintro a rfl ha
      simp only [List.mem_cons, List.not_mem_nil, or_false] at ha
      rcases ha with h | h
      · exact Fc.ne_locals hLc h
      · exact hLne h
    · exact ⟨_, Fc, upd2 e1, upd2 e2, upd2 e3, upd_self, hNc, hLc, by simpa using hl⟩
    · rintro i sx sy wr hwr ⟨m, Fm, e1, e2, e3, e4, hN, hL, hlt⟩ k
      refine ⟨m, Fm.other k (fun a ha => Fc.fresh (hwr a ha)), e1, e2, e3, e4, hN.kb k ?_, hL.kb k ?_, hlt.kb k ?_⟩
      · intro h; have := hwr _ h; have h2 := hNc.live; rw [this] at h2; cases h2
      · intro h; have := hwr _ h; have h2 := hLc.live; rw [this] at h2; cases h2
      · intro h; have := hwr _ h; have h2 := hl.live; rw [this] at h2; cases h2
    · rintro i sx v hi ⟨m, Fm, e1, e2, e3, e4, hN, hL, hlt⟩ hv E''
      obtain ⟨p, hp, hv⟩ := at_map hv
      have hpL := List.mem_of_getElem? hp
      have hpo := hready p hpL
      refine wpAny_assign_Name (Fm.storeL (by kernel_rfl) (by rw [hcell]; rfl) fun sy Fy ky => ?_)
      have hN := hN.kb ky (fun h => hDm (by simp only [List.mem_singleton] at h; exact h ▸ List.mem_cons_self))
      have hL := hL.kb ky (by simp only [List.mem_singleton]; exact Fm.ne_locals hL)
      have hlt := hlt.kb ky (by simp only [List.mem_singleton]; exact Fm.ne_locals hlt)
      have hvy := hv.kb ky
      have psp : ∀ {s'' : Shared} {pos : Pos}, KB [] sy s'' → Pe prog w A' (envAt w 50 L₀) s'' (.Name "spoke" pos) (fun h v => Rd h (pth p) v) := fun k =>
        Pe.loc (Fy.le k).view (by kernel_rfl) upd_self (fun h' l => hvy.le (k.le.trans l))
      refine wpAny_execs_cons (S.ite (b := readyOk P (keysOf xs) p) ?_ fun sz kz => ?_)
      · have hb : readyOk P (keysOf xs) p = decide ((rimsP P p).filterMap (freeRest (keysOf xs)) = []) := by
          rw [Bool.eq_iff_iff, decide_eq_true_eq, free_nil]; rfl
        rw [hb]
        refine Pt.cmp (Pe.eqNil ok'.u (Pe.compA (enc := pair) (freeRest (keysOf xs)) [(("numbers" : Str), L₀ + 1)] (PeI.any ok'.handled (Pe.rims_of Fy.view (G' Fy) ok' (by kernel_rfl) g (pP Fy (upd2 e1)) (psp (KB.refl _ _)) hpo))
          (by have := rimsP_len g p; omega) Fy.view ⟨by kernel_rfl, fun y c h => by rw [hcell]; exact h, by decide, rfl, by decide, fun C => by kernel_rfl⟩ ?_) (Pe.list PeL.nil (by decide)))
        intro q u s₁ C hq k₁ ru V off
        obtain ⟨a, ka, v1, v2, rfl, ho, r1, r2⟩ := Rd.two ru
        refine ⟨_, !decide (q.2 ∈ keysOf xs), pth q.2, Asg.pair ok'.handled V rfl ho (by kernel_rfl) (by kernel_rfl) (by kernel_rfl) (by kernel_rfl) off, fun s₂ k₂ kt V₂ => ⟨PtL.one (Pt.cmp (Pe.ninD ok' (Pe.loc V₂ (by kernel_rfl) upd_self (fun h' l => (Rd.kt kt _ _ r2).le l)) (Pe.cel V₂ (by kernel_rfl) (c := L₀ + 1) (by kernel_rfl) (upd2 (upd2 (cap_of (upd2 e2)))) (fun h' l => ⟨rfl, hN.le (k₂.le.trans l)⟩)))),
          fun _ => Pe.loc V₂ (by kernel_rfl) upd_self (fun h' l => (Rd.kt kt _ _ r2).le l)⟩, ?_⟩
        unfold freeRest
        by_cases h : q.2 ∈ keysOf xs <;> simp [h]
      have htk : L.take (i + 1) = L.take i ++ [p] := by rw [List.take_add_one, hp]; rfl
      rw [htk, List.filter_append]
      cases hr : readyOk P (keysOf xs) p with
      | true =>
        rw [if_pos rfl]
        have Fz := Fy.le kz
        refine wpAny_execs_cons (S.append (Pe.loc Fz.view (by kernel_rfl) (upd2 e4) (fun h' l => rfl)) (hlt.le kz.le) (psp kz) ?_ fun sd kd hld => ?_)
        · rw [List.length_map]
          have h1 := List.length_filter_le (readyOk P (keysOf xs)) (L.take i)
          have h2 := List.length_take_le i L
          simp only [List.length_take] at h1
          omega
        refine wpAny_execs_nil (wpAny_execs_nil ⟨⟨_, Fz.other kd ?_, upd2 e1, upd2 e2, upd2 e3, upd2 e4, (hN.le kz.le).kb kd (by simpa using hDne), (hL.le kz.le).kb kd (by simpa using hLne), ?_⟩, ?_⟩)
        · intro a ha; simp only [List.mem_singleton] at ha; subst ha; exact hlM
        · rw [List.filter_cons, hr, if_pos rfl, List.filter_nil, List.map_append]; exact hld
        · exact ((ky.mono (by simp)).trans (kz.of_nil _)).trans (kd.mono (by simp))
      | false =>
        rw [if_neg (by simp)]
        refine wpAny_execs_nil (wpAny_execs_nil ⟨⟨_, Fy.le kz, upd2 e1, upd2 e2, upd2 e3, upd2 e4, hN.le kz.le, hL.le kz.le, ?_⟩, (ky.mono (by simp)).trans (kz.of_nil _)⟩)
        rw [List.filter_cons, hr, if_neg (by simp), List.filter_nil, List.append_nil]
        exact hlt.le kz.le
    rintro sd ⟨m, Fd, e1, e2, e3, e4, hN, hL, hl⟩
    rw [List.length_map, List.take_length] at hl
    generalize hR : L.filter (readyOk P (keysOf xs)) = R at hl
    have hRL : ∀ p ∈ R, p ∈ L ∧ readyOk P (keysOf xs) p = true := fun p hp => by rw [← hR] at hp; exact List.mem_filter.mp hp
    have hRlen : R.length ≤ L.length := by rw [← hR]; exact List.length_filter_le _ _
    have pN : ∀ {s'' : Shared} {pos : Pos} {xs : NX} {m : Str → Option Value}, Frm s (envAt w 50 L₀) m s'' → m "numbers" = some (.ref D) → NM prog w s''.heap D xs → Pe prog w A' (envAt w 50 L₀) s'' (.Name "numbers" pos) (fun h v => v = .ref D ∧ NM prog w h D xs) := fun F e h =>
      Pe.cel F.view (by kernel_rfl) (c := L₀ + 1) hcl e (fun h' l => ⟨rfl, h.le l⟩)
    refine wpAny_execs_cons (S.ite (b := decide (R.map pth = [])) (Pt.cmp (Pe.eqNil ok'.u (Pe.loc Fd.view (by kernel_rfl) e4 (fun h' l' => ⟨l, rfl, hl.le l'⟩)) (Pe.list PeL.nil (by decide)))) fun se kse => ?_)
    have Fe := Fd.le kse
    have hN := hN.le kse.le
    have hL := hL.le kse.le
    have hl := hl.le kse.le
    by_cases hRn : R = []
    · rw [if_pos (by simp [hRn])]
      refine wpAny_execs_cons (S.ret (Pe.pair2 (pN Fe e2 hN) (Pe.loc Fe.view (by kernel_rfl) e3 (R := fun h v => v = .ref Ll ∧ LT h Ll (L.map pth)) (fun h' l' => ⟨rfl, hL.le l'⟩))) fun v sf kf r => ⟨Fe.kb.trans kf, fun h' l' => ?_⟩)
      obtain ⟨a, n', v₁, v₂, rfl, ho, ⟨rfl, h1⟩, rfl, h2⟩ := r h' l'
      refine ⟨a, n', D, Ll, xs, L, rfl, ho, h1, h2, ⟨fun p hp => ⟨hL1 p hp, ?_⟩, hL2⟩, hD0, by omega⟩
      cases hr : readyOk P (keysOf xs) p with
      | false => rfl
      | true =>
        have : p ∈ R := by rw [← hR]; exact List.mem_filter.mpr ⟨hp, hr⟩
        rw [hRn] at this; simp at this
    rw [if_neg (by simpa using hRn)]
    refine wpAny_execs_nil ?_
    have hLl := Fe.ne_locals hL
    have hll := Fe.ne_locals hl
    have hlD' : l ≠ D := hl.ne_dict hN
    have hLD : Ll ≠ D := hL.ne_dict hN
    have hDloc : D ≠ (envAt w 50 L₀).locals := fun h => hDm (h ▸ List.mem_cons_self)
    -- the second loop: the new numbers
    refine wpAny_execs_cons (S.for_ (src := fun a => a = l) (n := (R.map pth).length) (P := fun i h v => ∃ d, (R.map pth)[i]? = some d ∧ Rd h d v)
      (PeI.lst (fun a => a = l) ok'.handled (Pe.loc Fe.view (by kernel_rfl) e4 (fun h' l' => ⟨l, rfl, hl.le l', rfl⟩)))
      (fun i s' => ∃ m xs', Frm s (envAt w 50 L₀) m s' ∧ m "problem" = some vP ∧ m "numbers" = some (.ref D) ∧ m "left" = some (.ref Ll) ∧ NM prog w s'.heap D xs' ∧ LT s'.heap Ll (L.map pth) ∧ (∀ q, q ∈ keysOf xs' ↔ q ∈ keysOf xs ∨ q ∈ R.take i) ∧ xs'.length ≤ xs.length + i)
      [(envAt w 50 L₀).locals, D] ?_ ?_ ?_ ?_ ?_ ?_)
    · intro a ha
      simp only [List.mem_cons, List.not_mem_nil, or_false] at ha
      rcases ha with rfl | rfl
      · exact Fe.has _ List.mem_cons_self
      · exact hN.live
    · rintro a rfl ha
      simp only [List.mem_cons, List.not_mem_nil, or_false] at ha
      rcases ha with h | h
      · exact hll h
      · exact hlD' h
    · exact ⟨m, xs, Fe, e1, e2, e3, hN, hL, fun q => by simp, by omega⟩
    · rintro i sx sy wr hwr ⟨m, xs', Fm, e1, e2, e3, hN', hL', hk, hln⟩ k
      refine ⟨m, xs', Fm.other k (fun a ha => Fe.fresh (hwr a ha)), e1, e2, e3, hN'.kb k ?_, hL'.kb k ?_, hk, hln⟩
      · intro h; have := hwr _ h; have h2 := hN.live; rw [this] at h2; cases h2
      · intro h; have := hwr _ h; have h2 := hL.live; rw [this] at h2; cases h2
    · rintro i sx v hi ⟨m, xs', Fm, e1, e2, e3, hN', hL', hk, hln⟩ hv E''
      obtain ⟨p, hp, hv⟩ := at_map hv
      rw [List.length_map] at hi
      obtain ⟨hpL, hpr⟩ := hRL p (List.mem_of_getElem? hp)
      have hpo := hready p hpL
      refine wpAny_assign_Name (Fm.storeL (by kernel_rfl) (by rw [hcell]; rfl) fun sy Fy ky => ?_)
      have hN' := hN'.kb ky (by simpa using hDloc)
      have hL' := hL'.kb ky (by simpa using hLl)
      have hvy := hv.kb ky
      have psp : ∀ {s'' : Shared} {pos : Pos}, KB [] sy s'' → Pe prog w A' (envAt w 50 L₀) s'' (.Name "spoke" pos) (fun h v => Rd h (pth p) v) := fun k =>
        Pe.loc (Fy.le k).view (by kernel_rfl) upd_self (fun h' l => hvy.le (k.le.trans l))
      have hin : ∀ q ∈ rimsP P p, q.2 ∈ keysOf xs' := fun q hq => (hk _).mpr (.inl (by simpa using List.all_eq_true.mp hpr q hq))
      refine wpAny_execs_cons (S.assignCompA (enc := pair) (fun q => some (.int (numAt xs' q.2))) [(("numbers" : Str), L₀ + 1)] Fy (by kernel_rfl) (by rw [hcell]; rfl) (PeI.any ok'.handled (Pe.rims_of Fy.view (G' Fy) ok' (by kernel_rfl) g (pP Fy (upd2 e1)) (psp (KB.refl _ _)) hpo))
        (by have := rimsP_len g p; omega) ⟨by kernel_rfl, fun y c h => by rw [hcell]; exact h, by decide, rfl, by decide, fun C => by kernel_rfl⟩ ?_ fun B sz Fz kz hB hB0 => ?_)
      · intro q u s₁ C hq k₁ ru V off
        obtain ⟨a, ka, v1, v2, rfl, ho, r1, r2⟩ := Rd.two ru
        exact ⟨_, true, .int (numAt xs' q.2), Asg.pair ok'.handled V rfl ho (by kernel_rfl) (by kernel_rfl) (by kernel_rfl) (by kernel_rfl) off, fun s₂ k₂ kt V₂ => ⟨PtL.nil,
          fun _ => Pe.nget ok' (Pe.cel V₂ (by kernel_rfl) (c := L₀ + 1) (by kernel_rfl) (upd2 (upd2 (cap_of (upd2 e2)))) (fun h' l => ⟨rfl, hN'.le (k₂.le.trans l)⟩)) (Pe.loc V₂ (by kernel_rfl) upd_self (fun h' l => (Rd.kt kt _ _ r2).le l)) (hin q hq)⟩, rfl⟩
      have hN' := hN'.kb kz (by simpa using hDloc)
      have hL' := hL'.kb kz (by simpa using hLl)
      have hvz := hvy.kb kz
      rw [← map_fm, show (fun q : Path × Path => Dt.int (numAt xs' q.2)) = Dt.int ∘ (fun q : Path × Path => numAt xs' q.2) from rfl, ← List.map_map] at hB
      have pB : ∀ {s'' : Shared} {pos : Pos}, KB [] sz s'' → Pe prog w A' (envAt w 50 L₀) s'' (.Name "behind" pos) (fun h v => Ls h (((rimsP P p).map fun q => numAt xs' q.2).map .int) v) := fun k =>
        Pe.loc (Fz.le k).view (by kernel_rfl) upd_self (fun h' l => ⟨B, rfl, hB.le (k.le.trans l)⟩)
      refine wpAny_execs_cons (S.setNM ok' (Pe.ifexp (b := !decide (((rimsP P p).map fun q => numAt xs' q.2).map Dt.int = [])) (Pt.cmp (Pe.neNil ok'.u (pB (KB.refl _ _)) (Pe.list PeL.nil (by decide)))) (fun hb => Pe.add1 (Pe.int 1 _ _) (Pe.maxL ok' Fz.view (G' Fz) (by kernel_rfl) ((pB (KB.refl _ _)).mono fun h v r => ⟨_, ?_, r⟩))) (fun hb => (Pe.int 0 _ _).mono fun h v r => ⟨_, r⟩))
        (pN Fz (upd2 (upd2 e2)) hN') (Pe.loc Fz.view (by kernel_rfl) (upd2 upd_self) (fun h' l => hvz.le l)) ?_ fun st xs2 kt hN2 hk2 hln2 => ?_)
      · simp only [Bool.not_eq_true', decide_eq_false_iff_not] at hb
        exact Nat.pos_of_ne_zero fun e => hb (by rw [List.length_eq_zero_iff.mp e]; rfl)
      · omega
      refine wpAny_execs_nil ⟨⟨_, xs2, Fz.other kt (fun a ha => by simp only [List.mem_singleton] at ha; subst ha; exact ⟨hDm, hD0⟩), upd2 (upd2 e1), upd2 (upd2 e2), upd2 (upd2 e3), hN2, hL'.kb kt (by simpa using hLD), fun q => ?_, by omega⟩, ((ky.mono (by simp)).trans (kz.mono (by simp))).trans (kt.mono (by simp))⟩
      rw [hk2, hk]
      have htk : R.take (i + 1) = R.take i ++ [p] := by rw [List.take_add_one, hp]; rfl
      rw [htk, List.mem_append, List.mem_singleton, or_assoc]
    rintro sf ⟨m, xs', Ff, e1, e2, e3, hN', hL', hk, hln⟩
    rw [List.length_map, List.take_length] at hk
    rw [List.length_map] at hln
    -- what is left
    have hLen : L.length < 6000 := by omega
    refine wpAny_execs_cons (S.assignCompA (enc := pth) (fun p => if (!decide (p ∈ keysOf xs')) = true then some (pth p) else none) [(("numbers" : Str), L₀ + 1)] Ff (by kernel_rfl) (by rw [hcell]; rfl) (PeI.any ok'.handled (Pe.loc Ff.view (by kernel_rfl) e3 (fun h' l' => ⟨Ll, rfl, hL'.le l'⟩)))
      (by omega) ⟨by kernel_rfl, fun y c h => by rw [hcell]; exact h, by decide, rfl, by decide, fun C => by kernel_rfl⟩ ?_ fun Ln sg Fg kg hLn hLn0 => ?_)
    · intro p u s₁ C hp k₁ ru V off
      exact ⟨_, !decide (p ∈ keysOf xs'), pth p, Asg.name V (by kernel_rfl) (by kernel_rfl) off, fun s₂ k₂ kt V₂ => ⟨PtL.one (Pt.cmp (Pe.ninD ok' (Pe.loc V₂ (by kernel_rfl) upd_self (fun h' l => (Rd.kt kt _ _ ru).le l)) (Pe.cel V₂ (by kernel_rfl) (c := L₀ + 1) (by kernel_rfl) (upd2 (cap_of e2)) (fun h' l => ⟨rfl, hN'.le (k₂.le.trans l)⟩)))),
        fun _ => Pe.loc V₂ (by kernel_rfl) upd_self (fun h' l => (Rd.kt kt _ _ ru).le l)⟩, rfl⟩
    rw [filter_fm] at hLn
    have htwo := filter_two (fun p => !decide (p ∈ keysOf xs')) (readyOk P (keysOf xs)) L fun p hp h1 h2 => by
      have : p ∈ keysOf xs' := (hk p).mpr (.inr (by rw [← hR]; exact List.mem_filter.mpr ⟨hp, h2⟩))
      simp [this] at h1
    rw [hR] at htwo
    have hRpos : 0 < R.length := Nat.pos_of_ne_zero fun e => hRn (List.length_eq_zero_iff.mp e)
    refine wpAny_execs_nil ⟨(L.filter fun p => !decide (p ∈ keysOf xs')).length, by omega, _, D, xs', Ln, L.filter fun p => !decide (p ∈ keysOf xs'), Fg, upd2 e1, upd2 e2, upd_self, hN'.kb kg (by simpa using hDloc), hLn, hD0, hDm, ?_, ?_, by omega, rfl⟩
    · intro p hp; exact hL1 p (List.mem_filter.mp hp).1
    · intro p hp hnk
      refine List.mem_filter.mpr ⟨hL2 p hp fun h => hnk ((hk p).mpr (.inl h)), by simpa using hnk⟩
end
end Mine
end


-- F7
section
set_option maxHeartbeats 2000000
set_option autoImplicit false
namespace Mine
section
variable {prog : Program} {w : World} {A : Around} {env : Env} {s₀ s s₁ : Shared} {m : Str → Option Value} {E : Value → Shared → Prop} {n : Nat}

/-- a new list -/
def LN (h₀ h : Heap) (ds : List Dt) (v : Value) : Prop := ∃ l, v = .ref l ∧ h₀.get? l = none ∧ LT h l ds
theorem LN.ls {h₀ h : Heap} {ds : List Dt} {v : Value} (x : LN h₀ h ds v) : Ls h ds v := let ⟨l, e, _, y⟩ := x; ⟨l, e, y⟩
theorem Pe.lfrom {e i : Expr} {p pos : Pos} {ds : List Dt} {a : Int} (x : Pe prog w A env s e (fun h v => Ls h ds v)) (y : Pe prog w A env s i (fun h v => Rd h (.int a) v))
    (h0 : 0 ≤ a) (hs : ds.length < 100000) :
    Pe prog w A env s (.Subscript e (.Slice (some i) none none p) pos) (fun h v => LN s.heap h (ds.drop a.toNat) v) := fun E s₁ ks =>
  Subscript_ (x.use ks fun v s₂ k₂ r => wpAny_Slice (wpAny_evalPart_some (y.use (ks.trans k₂) fun u s₃ k₃ r₃ => wpAny_evalPart_none (wpAny_evalPart_none (by
    obtain ⟨t, rfl, items, n, ho, hr⟩ := r _ k₃.le
    obtain ⟨tk, rfl⟩ := Rd.int_iff.mp (r₃ _ (Le.refl _))
    obtain ⟨k, rfl⟩ : ∃ k : Nat, a = k := ⟨a.toNat, by omega⟩
    have hlen := hr.length
    have ho' : (s₃.heap.push { cls := .type "slice", data := .fields #[.int k tk, .none, .none] }).get? t = some (lstObj items.toArray n) := Heap.get?_push_of_some _ ho
    refine tail_any (T := "list") (s := { s₃ with heap := s₃.heap.push { cls := .type "slice", data := .fields #[.int k tk, .none, .none] } }) (lst_of ho').typeIs slot_list_getitem.lookup
      (wpAny_getItem_list_slice (lst_of ho') (Heap.IsSliceOf.new ..) (.int _ _) .none .none (by simp) ?_ (by simp; exact line_of_lt (by omega))) rfl
    have ksz : Le s.heap s₃.heap := (ks.trans (k₂.trans k₃)).le
    refine ⟨(k₂.trans k₃).trans ((KB.push s₃ _ s₃.toks).trans (KB.push _ _ _)), fun h' l => ⟨_, rfl, fresh_ge (ksz.trans (Le.push _ _)) (Nat.le_refl _), items.drop k, 0, l _ _ ?_, ((hr.drop k).le ((Le.push _ _).trans (Le.push _ _))).le l⟩⟩
    rw [slicePick_from']
    have := Heap.get?_push_size (s₃.heap.push { cls := .type "slice", data := .fields #[.int k tk, .none, .none] }) (o := lstObj (items.drop k).toArray 0) rfl
    simpa using this)))))
theorem Pe.lupto {e i : Expr} {p pos : Pos} {ds : List Dt} {b : Int} (x : Pe prog w A env s e (fun h v => Ls h ds v)) (y : Pe prog w A env s i (fun h v => Rd h (.int b) v))
    (h0 : 0 ≤ b) (hs : ds.length < 100000) :
    Pe prog w A env s (.Subscript e (.Slice none (some i) none p) pos) (fun h v => LN s.heap h (ds.take b.toNat) v) := fun E s₁ ks =>
  Subscript_ (x.use ks fun v s₂ k₂ r => wpAny_Slice (wpAny_evalPart_none (wpAny_evalPart_some (y.use (ks.trans k₂) fun u s₃ k₃ r₃ => wpAny_evalPart_none (by
    obtain ⟨t, rfl, items, n, ho, hr⟩ := r _ k₃.le
    obtain ⟨tk, rfl⟩ := Rd.int_iff.mp (r₃ _ (Le.refl _))
    obtain ⟨k, rfl⟩ : ∃ k : Nat, b = k := ⟨b.toNat, by omega⟩
    have hlen := hr.length
    have ho' : (s₃.heap.push { cls := .type "slice", data := .fields #[.none, .int k tk, .none] }).get? t = some (lstObj items.toArray n) := Heap.get?_push_of_some _ ho
    refine tail_any (T := "list") (s := { s₃ with heap := s₃.heap.push { cls := .type "slice", data := .fields #[.none, .int k tk, .none] } }) (lst_of ho').typeIs slot_list_getitem.lookup
      (wpAny_getItem_list_slice (lst_of ho') (Heap.IsSliceOf.new ..) .none (.int _ _) .none (by simp) ?_ (by simp; exact line_of_lt (by omega))) rfl
    have ksz : Le s.heap s₃.heap := (ks.trans (k₂.trans k₃)).le
    refine ⟨(k₂.trans k₃).trans ((KB.push s₃ _ s₃.toks).trans (KB.push _ _ _)), fun h' l => ⟨_, rfl, fresh_ge (ksz.trans (Le.push _ _)) (Nat.le_refl _), items.take k, 0, l _ _ ?_, ((hr.take k).le ((Le.push _ _).trans (Le.push _ _))).le l⟩⟩
    rw [slicePick_upto']
    have := Heap.get?_push_size (s₃.heap.push { cls := .type "slice", data := .fields #[.none, .int k tk, .none] }) (o := lstObj (items.take k).toArray 0) rfl
    simpa using this)))))
theorem Pe.cat {e i : Expr} {pos : Pos} {ds es : List Dt} (x : Pe prog w A env s e (fun h v => Ls h ds v)) (y : Pe prog w A env s i (fun h v => Ls h es v)) (hs : ds.length + es.length < 100000) :
    Pe prog w A env s (.BinOp e .Add i pos) (fun h v => LN s.heap h (ds ++ es) v) := fun E s₁ ks =>
  wpAny_BinOp (x.use ks fun v s₂ k₂ r => y.use (ks.trans k₂) fun u s₃ k₃ r₃ => by
    obtain ⟨l, rfl, items, n, ho, hr⟩ := r _ k₃.le
    obtain ⟨b, rfl, items2, n2, ho2, hr2⟩ := r₃ _ (Le.refl _)
    have h1 := hr.length
    have h2 := hr2.length
    refine PySem.P.add_list ho ho2 ?_ (by simp; exact line_of_lt (by omega))
    refine ⟨(k₂.trans k₃).trans (KB.push s₃ _ s₃.toks), fun h' l' => ⟨_, rfl, fresh_ge (ks.trans (k₂.trans k₃)).le (Nat.le_refl _), items ++ items2, 0, l' _ _ ?_, ((hr.append hr2).le (Le.push _ _)).le l'⟩⟩
    have := Heap.get?_push_size s₃.heap (o := lstObj (items ++ items2).toArray 0) rfl
    simpa using this)

/-! ### find_wheel -/
theorem Pe.peeled {P : Prob} {np pos : Pos} {e : Expr} (V : View env m s) (G : GG w s.heap) (ok : AOk A (n + 3)) (hl : env.kindOf "peeled" = some .globalImplicit) (g : PG P)
    (a : Pe prog w A env s e (fun h v => PrAt prog w h P v))
    (he : starEach [e] env = (false, eval e env) :: starEach [] env := by rfl) :
    Pe prog w A env s (.Call (.Name "peeled" np) [e] [] pos) (fun h v => ∃ a n D Ll xs, ∃ L : List Path, v = .ref a ∧ h.get? a = some (tupObj #[.ref D, .ref Ll] n) ∧ NM prog w h D xs ∧ LT h Ll (L.map pth) ∧ Stuck P (keysOf xs) L ∧ s.heap.get? D = none ∧ L.length ≤ (allPaths P).length) := by
  refine Pe.callDef V G hl (by kernel_rfl) (def50 w).ho (def50 w).hdat (PeA.one a he) (fun E s₁ vs k hv => ?_) (by decide) he
  obtain ⟨v, rfl, r1⟩ := hv
  refine wpAny_mono (peeled_spec ok (G.le k.le) r1 g) (fun v s₂ h => ⟨h.1, fun h' l => ?_⟩) fun _ _ z => z
  obtain ⟨a, n, D, Ll, xs, L, h1, h2, h3, h4, h5, h6, h7⟩ := h.2 h' l
  exact ⟨a, n, D, Ll, xs, L, h1, h2, h3, h4, h5, unborn_le k.le h6, h7⟩

/-- a row of spokes and rims, each rim's rest the next spoke, the last one's `p` -/
def Chain (P : Prob) : List (Path × Path) → Path → Prop
  | [], _ => True
  | a :: W, p => (a.2, (W.map (·.1)).headD p) ∈ rimsP P a.1 ∧ a.1 ∈ allPaths P ∧ Chain P W p
theorem Chain.snoc {P : Prob} {p q : Path} {r : Path} : ∀ {W : List (Path × Path)}, Chain P W p → (r, q) ∈ rimsP P p → p ∈ allPaths P → Chain P (W ++ [(p, r)]) q
  | [], _, h, hp => ⟨by simpa using h, hp, trivial⟩
  | a :: W, c, h, hp => by
    refine ⟨?_, c.2.1, Chain.snoc c.2.2 h hp⟩
    have := c.1
    cases W with
    | nil => simpa using this
    | cons b W => simpa using this
theorem Chain.drop {P : Prob} {p : Path} : ∀ {W : List (Path × Path)} (k : Nat), Chain P W p → Chain P (W.drop k) p
  | W, 0, c => by simpa using c
  | [], k + 1, c => by simpa using c
  | a :: W, k + 1, c => by simpa using Chain.drop k c.2.2
/-- such a row from the place where the spoke stands again -/
def IsRow (P : Prob) (W : List (Path × Path)) : Prop := ∃ p, Chain P W p ∧ (W.map (·.1)).head? = some p

theorem rims_rest {P : Prob} {p : Path} {q : Path × Path} (h : q ∈ rimsP P p) : q.1 ∈ likes P (p.getD 0 0) p ∧ q.2 ∈ rests P q.1 := by
  obtain ⟨r, hr, hq⟩ := List.mem_flatMap.mp h
  unfold rowOf at hq
  obtain ⟨t, ht, rfl⟩ := List.mem_map.mp hq
  exact ⟨hr, ht⟩
theorem rests_mem {P : Prob} {r q : Path} (h : q ∈ rests P r) : ∃ i, i < r.length - 2 ∧ q = r.drop (i + 1) ∧ q ∈ ofNode P (r.getD (i + 1) 0) := by
  unfold rests restsM at h
  obtain ⟨i, hi, hq⟩ := List.mem_filterMap.mp h
  split at hq
  · rename_i hin
    cases hq
    exact ⟨i, List.mem_range.mp hi, rfl, hin⟩
  · cases hq
theorem rims_all {P : Prob} {p : Path} {q : Path × Path} (h : q ∈ rimsP P p) : q.2 ∈ allPaths P := by
  obtain ⟨i, _, _, h3⟩ := rests_mem (rims_rest h).2
  exact mem_of_ofNode h3
theorem filter_snoc {L S : List Path} {p : Path} (hp : p ∈ L) (hs : p ∉ S) : (L.filter fun q => !decide (q ∈ S ++ [p])).length + 1 ≤ (L.filter fun q => !decide (q ∈ S)).length := by
  have h := filter_two (fun q => !decide (q ∈ S ++ [p])) (fun q => decide (q = p)) (L.filter fun q => !decide (q ∈ S)) fun q _ h1 h2 => by
    simp at h1 h2; exact h1.2 h2
  have e : (L.filter fun q => !decide (q ∈ S)).filter (fun q => !decide (q ∈ S ++ [p])) = L.filter fun q => !decide (q ∈ S ++ [p]) := by
    rw [List.filter_filter]
    refine List.filter_congr fun q _ => ?_
    by_cases h1 : q ∈ S <;> by_cases h2 : q = p <;> simp [h1, h2]
  rw [e] at h
  have : 0 < ((L.filter fun q => !decide (q ∈ S)).filter (fun q => decide (q = p))).length := List.length_pos_of_mem (a := p) (List.mem_filter.mpr ⟨List.mem_filter.mpr ⟨hp, by simpa using hs⟩, by simp⟩)
  omega

def spokes (W : List (Path × Path)) : List Path := W.map (·.1)
/-- what the frame of `find_wheel` holds between two turns -/
def FJ (prog : Program) (w : World) (s₀ : Shared) (env : Env) (P : Prob) (vP : Value) (D : Addr) (xs : NX) (L : List Path) (k : Nat) (s : Shared) : Prop :=
  ∃ m l W p vs, Frm s₀ env m s ∧ m "problem" = some vP ∧ m "numbers" = some (.ref D) ∧ m "row" = some (.ref l) ∧ m "spoke" = some vs ∧ LT s.heap l (W.map pair) ∧ s₀.heap.get? l = none ∧ l ∉ mutA env ∧ Rd s.heap (pth p) vs ∧ p ∈ L ∧ Chain P W p ∧ W.length + k ≤ L.length ∧
    k = (L.filter fun q => !decide (q ∈ spokes W)).length

theorem find_wheel_spec {P : Prob} {vP : Value} {E : Value → Shared → Prop} (ok : AOk A (n + 4)) (G : GG w s.heap) (hP : PrAt prog w s.heap P vP) (g : PG P) :
    wpAny (model prog w) A (call (.ref 55) [vP]) (fun v s' => KB [] s s' ∧ ∀ h', Le s'.heap h' → v = .none ∨ ∃ W : List (Path × Path), W.length ≤ (allPaths P).length ∧ IsRow P W ∧ Ls h' (W.map pair) v) E s := by
  refine enter2 (def55 w) G ok (by kernel_rfl) (fun L x hx => ?_) ?_
  · simp at hx; rcases hx with rfl; kernel_rfl
  intro L₀ s₁ A' E' m ok' F hmm
  have m1 : m "problem" = some vP := hmm ("problem", vP) (by simp)
  have hcell : (envAt w 55 L₀).cells = [(("numbers" : Str), L₀ + 1)] := by kernel_rfl
  have hcl : (envAt w 55 L₀).cells.lookup ("numbers" : Str) = some (L₀ + 1) := by rw [hcell]; rfl
  have G' : ∀ {s'' : Shared} {m' : Str → Option Value}, Frm s (envAt w 55 L₀) m' s'' → GG w s''.heap := fun F' => G.le F'.kb.le
  have pP : ∀ {s'' : Shared} {m' : Str → Option Value} {pos : Pos}, Frm s (envAt w 55 L₀) m' s'' → m' "problem" = some vP → Pe prog w A' (envAt w 55 L₀) s'' (.Name "problem" pos) (fun h v => PrAt prog w h P v) := by
    intro s'' m' pos F' e
    exact Pe.loc F'.view (by kernel_rfl) e (fun h' l => hP.le (F'.kb.le.trans l))
  have hall := allPaths_len g
  refine wpAny_execs_cons (S.assignT (Pe.peeled F.view (G' F) ok' (by kernel_rfl) g (pP F m1)) fun v s₂ k₂ r => ?_)
  obtain ⟨a, na, D, Ll, xs, L, rfl, ho, hN, hL, hst, hD, hLle⟩ := r _ (Le.refl _)
  have hLlen : L.length < 6000 := by omega
  refine FAsg.run (env := envAt w 55 L₀) (X := [(envAt w 55 L₀).locals, L₀ + 1]) (FAsg.tup2 ok'.handled ho (FAsg.cel (by simp) (by kernel_rfl) hcl) (FAsg.loc (by simp) (by kernel_rfl) (by rw [hcell]; rfl))) (F.le k₂) fun s₃ F₃ k₃ => ?_
  obtain ⟨hDm, hD0⟩ := F.fresh hD
  have F2 := F.le k₂
  have hmut : ∀ a ∈ [(envAt w 55 L₀).locals, L₀ + 1], a ∈ mutA (envAt w 55 L₀) := by
    intro a ha
    simp only [List.mem_cons, List.not_mem_nil, or_false] at ha
    rcases ha with rfl | rfl
    · exact List.mem_cons_self
    · exact mem_mut_cell hcl
  have hN3 := hN.kb k₃ (fun h => hDm (hmut _ h))
  have hL3 : LT s₃.heap Ll (L.map pth) := hL.kb k₃ (by
    intro h
    simp only [List.mem_cons, List.not_mem_nil, or_false] at h
    rcases h with h | h
    · exact F2.ne_locals hL h
    · exact F2.ne_cell hL hcl h)
  have em1 := upd2 (x := "left") (v := Value.ref Ll) (upd2 (x := "numbers") (v := Value.ref D) m1)
  have em2 : upd (upd m "numbers" (Value.ref D)) "left" (Value.ref Ll) "numbers" = some (.ref D) := upd2 upd_self
  have em3 : upd (upd m "numbers" (Value.ref D)) "left" (Value.ref Ll) "left" = some (.ref Ll) := upd_self
  generalize hmd : upd (upd m "numbers" (Value.ref D)) "left" (Value.ref Ll) = md at F₃ em1 em2 em3
  refine wpAny_execs_cons (S.ite (b := decide (L.map pth = [])) (Pt.cmp (Pe.eqNil ok'.u (Pe.loc F₃.view (by kernel_rfl) em3 (fun h' l' => ⟨Ll, rfl, hL3.le l'⟩)) (Pe.list PeL.nil (by decide)))) fun s₄ k₄ => ?_)
  have F₄ := F₃.le k₄
  have hN4 := hN3.le k₄.le
  have hL4 := hL3.le k₄.le
  cases L with
  | nil =>
    rw [if_pos (by simp)]
    exact wpAny_execs_cons (S.ret (Pe.noneC _ _) fun v s₅ k₅ r => ⟨F₄.kb.trans k₅, fun h' l => .inl (r h' l)⟩)
  | cons p₀ L =>
  rw [if_neg (by simp)]
  refine wpAny_execs_nil ?_
  refine wpAny_execs_cons (S.assign2 ok'.handled F₄ (by kernel_rfl) (by rw [hcell]; rfl) (by kernel_rfl) (by rw [hcell]; rfl) (Pe.listNew PeL.nil (by decide)) (Pe.lidx (ds := (p₀ :: L).map pth) (k := 0) (d := pth p₀) (Pe.loc F₄.view (by kernel_rfl) em3 (fun h' l' => ⟨Ll, rfl, hL4.le l'⟩)) (Pe.int _ _ _) (by decide) rfl (by rw [List.length_map]; omega)) fun v₁ v₂ s₅ s₆ k₅ r1 r2 k₆ F₆ => ?_)
  obtain ⟨l, rfl, hl0, hl⟩ := r1
  obtain ⟨hlm, hl00⟩ := F₄.fresh hl0
  have F₅ := F₄.le k₅
  have hlne : l ≠ (envAt w 55 L₀).locals := F₅.ne_locals hl
  have hDl : D ≠ (envAt w 55 L₀).locals := fun h => hDm (h ▸ List.mem_cons_self)
  have hN6 := (hN4.le k₅.le).kb k₆ (by simpa using hDl)
  have hDnl : D ≠ l := fun h => by have h2 := hN4.live; rw [h, hl0] at h2; cases h2
  generalize hLL : p₀ :: L = LL at *
  refine wpAny_execs_cons (S.while_ (fun k s' => FJ prog w s (envAt w 55 L₀) P vP D xs LL k s' ∧ NM prog w s'.heap D xs) LL.length ?_ ?_)
  · refine ⟨⟨_, l, [], p₀, v₂, F₆, upd2 (upd2 em1), upd2 (upd2 em2), upd_self, upd2 upd_self, hl.kb k₆ (by simpa using hlne), hl00, hlm, r2.kb k₆, by rw [← hLL]; simp, trivial, by simp, ?_⟩, hN6⟩
    simp [spokes]
    rw [List.filter_eq_self.mpr (fun _ _ => rfl)]
  · rintro k sa ⟨⟨m, l, W, p, vs, Fa, e1, e2, e3, e4, hl, hl0, hlm, hv, hpL, hch, hlen, rfl⟩, hN⟩
    have hWl : W.length < 6000 := by omega
    have hlloc := Fa.ne_locals hl
    have psp : ∀ {s'' : Shared} {pos : Pos}, KB [] sa s'' → Pe prog w A' (envAt w 55 L₀) s'' (.Name "spoke" pos) (fun h v => Rd h (pth p) v) := fun k =>
      Pe.loc (Fa.le k).view (by kernel_rfl) e4 (fun h' l => hv.le (k.le.trans l))
    have prow : ∀ {s'' : Shared} {pos : Pos}, KB [] sa s'' → Pe prog w A' (envAt w 55 L₀) s'' (.Name "row" pos) (fun h v => Ls h (W.map pair) v) := fun k =>
      Pe.loc (Fa.le k).view (by kernel_rfl) e3 (fun h' l' => ⟨l, rfl, hl.le (k.le.trans l')⟩)
    have hfm : W.filterMap (fun q => some (pth q.1)) = (spokes W).map pth := by rw [← map_fm]; unfold spokes; rw [List.map_map]; rfl
    refine ⟨!decide (p ∈ spokes W), Pt.cmp (Pe.ninL ok' (psp (KB.refl _ _)) ?_), fun sb kab => ?_⟩
    · rw [← hfm]
      refine Pe.compA (enc := pair) (fun q => some (pth q.1)) [] (PeI.any ok'.handled (prow (KB.refl _ _))) (by omega) Fa.view ⟨by kernel_rfl, fun y c h => by simp at h, by decide, rfl, by decide, fun C => by kernel_rfl⟩ ?_
      intro q u s₁ C hq k₁ ru V off
      obtain ⟨a, ka, v1, v2, rfl, ho, r1, r2⟩ := Rd.two ru
      exact ⟨_, true, pth q.1, Asg.pair ok'.handled V rfl ho (by kernel_rfl) (by kernel_rfl) (by kernel_rfl) (by kernel_rfl) off, fun s₂ k₂ kt V₂ => ⟨PtL.nil, fun _ => Pe.loc V₂ (by kernel_rfl) (upd2 upd_self) (fun h' l => (Rd.kt kt _ _ r1).le l)⟩, rfl⟩
    have Fb := Fa.le kab
    by_cases hps : p ∈ spokes W
    · rw [if_neg (by simpa using hps)]
      refine wpAny_execs_cons (S.ret (R := fun h v => Ls h ((W.map pair).drop ((spokes W).idxOf p)) v) ((Pe.lfrom (prow kab) (Pe.index (ps := spokes W) ok' ?_ (psp kab) hps (by unfold spokes; rw [List.length_map]; omega)) (Int.natCast_nonneg _) (by rw [List.length_map]; omega)).mono fun h v r => r.ls) fun v s₂ k r => ⟨Fb.kb.trans k, fun h' l' => .inr ⟨W.drop ((spokes W).idxOf p), ?_, ⟨p, hch.drop _, ?_⟩, ?_⟩⟩)
      · rw [← hfm]
        refine Pe.compA (enc := pair) (fun q => some (pth q.1)) [] (PeI.any ok'.handled (prow kab)) (by omega) Fb.view ⟨by kernel_rfl, fun y c h => by simp at h, by decide, rfl, by decide, fun C => by kernel_rfl⟩ ?_
        intro q u s₁ C hq k₁ ru V off
        obtain ⟨a, ka, v1, v2, rfl, ho, r1, r2⟩ := Rd.two ru
        exact ⟨_, true, pth q.1, Asg.pair ok'.handled V rfl ho (by kernel_rfl) (by kernel_rfl) (by kernel_rfl) (by kernel_rfl) off, fun s₂ k₂ kt V₂ => ⟨PtL.nil, fun _ => Pe.loc V₂ (by kernel_rfl) (upd2 upd_self) (fun h' l => (Rd.kt kt _ _ r1).le l)⟩, rfl⟩
      · rw [List.length_drop]; omega
      · rw [List.map_drop, List.head?_drop]
        have hlt : (spokes W).idxOf p < (spokes W).length := List.idxOf_lt_length_of_mem hps
        show (spokes W)[(spokes W).idxOf p]? = some p
        rw [List.getElem?_eq_getElem hlt, List.getElem_idxOf]
      · have := r h' l'
        rwa [← List.map_drop] at this
    · rw [if_pos (by simpa using hps)]
      intro E''
      have hN := hN.le kab.le
      have hl := hl.le kab.le
      have hvb := hv.le kab.le
      obtain ⟨hpa, hpr⟩ := hst.1 p hpL
      have hpo := mem_allPaths g hpa
      have hex : ∃ q, q ∈ rimsP P p ∧ q.2 ∉ keysOf xs := by
        unfold readyOk at hpr
        rw [List.all_eq_false] at hpr
        obtain ⟨q, hq, hn⟩ := hpr
        exact ⟨q, hq, by simpa using hn⟩
      obtain ⟨q, t, hq⟩ : ∃ q t, (rimsP P p).filter (fun q => !decide (q.2 ∈ keysOf xs)) = q :: t := by
        obtain ⟨q, hq, hn⟩ := hex
        have : q ∈ (rimsP P p).filter (fun q => !decide (q.2 ∈ keysOf xs)) := List.mem_filter.mpr ⟨hq, by simpa using hn⟩
        cases e : (rimsP P p).filter (fun q => !decide (q.2 ∈ keysOf xs)) with
        | nil => rw [e] at this; simp at this
        | cons a b => exact ⟨a, b, rfl⟩
      have hqm := List.mem_filter.mp (show q ∈ (rimsP P p).filter (fun q => !decide (q.2 ∈ keysOf xs)) by rw [hq]; exact List.mem_cons_self)
      have hqn : q.2 ∉ keysOf xs := by simpa using hqm.2
      have hq2 : q.2 ∈ LL := hst.2 q.2 (rims_all hqm.1) hqn
      refine wpAny_execs_cons (S.assignT (R := fun h v => Rd h (pair q) v) (Pe.lidx (ds := (rimsP P p).filterMap fun q => if (!decide (q.2 ∈ keysOf xs)) = true then some (pair q) else none) (k := 0) (d := pair q) ?_ (Pe.int _ _ _) (by decide) ?_ ?_) fun v sc kbc r => ?_)
      · refine Pe.compA (enc := pair) (fun q => if (!decide (q.2 ∈ keysOf xs)) = true then some (pair q) else none) [(("numbers" : Str), L₀ + 1)] (PeI.any ok'.handled (Pe.rims_of Fb.view (G' Fb) ok' (by kernel_rfl) g (pP Fb e1) (psp kab) hpo)) (by have := rimsP_len g p; omega) Fb.view
          ⟨by kernel_rfl, fun y c h => by rw [hcell]; exact h, by decide, rfl, by decide, fun C => by kernel_rfl⟩ ?_
        intro z u s₁ C hz k₁ ru V off
        exact ⟨_, !decide (z.2 ∈ keysOf xs), pair z, Asg.name V (by kernel_rfl) (by kernel_rfl) off, fun s₂ k₂ kt V₂ => ⟨PtL.one (Pt.cmp (Pe.ninD ok' (Pe.idx (ds := [pth z.1, pth z.2]) (k := 1) (d := pth z.2) (Pe.loc V₂ (by kernel_rfl) upd_self (fun h' l => (Rd.kt kt _ _ ru).le l)) (Pe.int _ _ _) (by decide) rfl (by simp)) (Pe.cel V₂ (by kernel_rfl) (c := L₀ + 1) (by kernel_rfl) (upd2 (cap_of e2)) (fun h' l => ⟨rfl, hN.le (k₂.le.trans l)⟩)))),
          fun _ => Pe.loc V₂ (by kernel_rfl) upd_self (fun h' l => (Rd.kt kt _ _ ru).le l)⟩, rfl⟩
      · rw [filter_fm, hq]; rfl
      · have := rimsP_len g p
        exact Nat.lt_of_le_of_lt (List.length_filterMap_le _ _) (by omega)
      obtain ⟨a, ka, v1, v2, rfl, ho, r1, r2⟩ := Rd.two (r _ (Le.refl _))
      have Fc := Fb.le kbc
      refine FAsg.run (env := envAt w 55 L₀) (X := [(envAt w 55 L₀).locals]) (FAsg.tup2 ok'.handled ho (FAsg.loc (by simp) (by kernel_rfl) (by rw [hcell]; rfl)) (FAsg.loc (by simp) (by kernel_rfl) (by rw [hcell]; rfl))) Fc fun sd Fd kd => ?_
      have hl := (hl.le kbc.le).kb kd (by simpa using hlloc)
      have hN := (hN.le kbc.le).kb kd (by simpa using hDl)
      have hvd := (hvb.le kbc.le).kb kd
      have r1 := r1.kb kd
      have r2 := r2.kb kd
      refine wpAny_execs_cons (S.append (d := pair (p, q.1)) (Pe.loc Fd.view (by kernel_rfl) (upd2 (upd2 e3)) (fun h' l => rfl)) hl
        (Pe.tuple (ds := [pth p, pth q.1]) (PeL.cons (Pe.loc Fd.view (by kernel_rfl) (upd2 (upd2 e4)) (fun h' l => hvd.le l)) (PeL.cons (Pe.loc Fd.view (by kernel_rfl) (upd2 upd_self) (fun h' l => r1.le l)) PeL.nil)) (by simp)) (by rw [List.length_map]; omega) fun se kde hle => ?_)
      have Fe := Fd.other kde (fun a ha => by simp only [List.mem_singleton] at ha; subst ha; exact ⟨hlm, hl0⟩)
      have hDl2 : D ≠ l := fun h => (hl.ne_dict hN) h.symm
      have hN := hN.kb kde (by simpa using hDl2)
      have r2 := r2.kb kde
      refine wpAny_execs_cons (S.assign (R := fun h v => Rd h (pth q.2) v) (Pe.loc Fe.view (by kernel_rfl) upd_self (fun h' l => r2.le l)) fun u sf kf rf => ?_)
      refine (Fe.le kf).storeL (by kernel_rfl) (by rw [hcell]; rfl) fun sg Fg kg => wpAny_execs_nil ?_
      have rf := (rf _ (Le.refl _)).kb kg
      have hle := (hle.le kf.le).kb kg (by simpa using hlloc)
      have hsn := filter_snoc (S := spokes W) hpL hps
      have hsp : spokes (W ++ [(p, q.1)]) = spokes W ++ [p] := by unfold spokes; rw [List.map_append]; rfl
      refine ⟨(LL.filter fun q' => !decide (q' ∈ spokes (W ++ [(p, q.1)]))).length, by rw [hsp]; omega, ⟨_, l, W ++ [(p, q.1)], q.2, u, Fg, upd2 (upd2 (upd2 e1)), upd2 (upd2 (upd2 e2)), upd2 (upd2 (upd2 e3)), upd_self, ?_, hl0, hlm, rf, hq2, hch.snoc hqm.1 hpa, ?_, rfl⟩, (hN.le kf.le).kb kg (by simpa using hDl)⟩
      · rw [List.map_append]; exact hle
      · rw [hsp, List.length_append]; simp only [List.length_singleton]; omega
end
end Mine
end


-- F8
section
set_option maxHeartbeats 2000000
set_option autoImplicit false
namespace Mine
section
variable {prog : Program} {w : World} {A : Around} {env : Env} {s₀ s s₁ : Shared} {m : Str → Option Value} {E : Value → Shared → Prop} {n : Nat}

/-! ### dict(<list of pairs>) -/
/-- a list has no attribute `keys`: the asking raises -/
theorem no_keys {a : Addr} {xs : Array Value} {k : Nat} {u : Tok} {R : Result → Shared → Prop} (hh : A.handled = none) (hx : s.heap.get? a = some (lstObj xs k))
    (h : ∀ h' tk e, Le s.heap h' → (⟨h', s.gens, s.drawn, tk, s.os⟩ : Shared).TypeIs e "AttributeError" → R (.error e) { s with heap := h', toks := tk }) :
    codeAny (model prog w) A (.call (.builtin "list.__getattribute__") ⟨[.ref a, .str "keys" u], []⟩) R s := by
  have miss : typeLookup (.type "list") "keys" = pure none := by rw [typeLookup_type, builtinLookup_eq_fast]; kernel_rfl
  have body := meets_getattribute_miss_list a xs k #[] "keys" u miss (by decide +kernel)
  have raises := body prog w A R s ⟨hx, hh, fun h' tk e he => h h' tk _ he.keeps (let ⟨_, _, x⟩ := he.there; ⟨_, x, rfl⟩)⟩
  exact codeAny_call_builtin F.slot_list_getattribute.plain am_entry_list_getattribute (F.slot_list_getattribute.check _ _ _ _ _ _ _ _ ⟨_, hx, rfl⟩ (F.args_list_getattribute_2 _ _) raises)
theorem keys_miss {a : Addr} {xs : Array Value} {k : Nat} {Q : Option Value → Shared → Prop} (hh : A.handled = none)
    (hx : s.heap.get? a = some (lstObj xs k)) (h : ∀ h' tk, Le s.heap h' → Q none { s with heap := h', toks := tk }) :
    wpAny (model prog w) A (getAttr? (.ref a) "keys") Q E s := by
  have tA : s.TypeIs (.ref a) "list" := ⟨_, hx, rfl⟩
  have ga := F.slot_list_getattribute.lookup
  have gb := F.slot_list_getattribute.bind (.ref a)
  have hook := am_list_getattr_none
  have isAttr := sub_AttributeError
  unfold getAttr? getAttrBy? getAttrBy
  wp_walk
  refine no_keys hh hx fun h' tk e le eT => ?_
  wp_walk
  exact h h' tk le

/-- `dict.__init__` of a list: on to the loop over its pairs -/
theorem init_pairs {d l : Addr} {xs : Array Value} {k : Nat} {P : Fin → Shared → Prop} (hh : A.handled = none) (hd : s.TypeIs (.ref d) "dict") (hl : s.heap.get? l = some (lstObj xs k))
    (h : ∀ h' tk, Le s.heap h' → P (.again (.builtin "dict.update.loop" ⟨[.ref d, .ref h'.objs.size, rawInt 0, .none], []⟩))
      { s with heap := h'.push { cls := .type "list_iterator", data := .fields #[.ref l, .int 0 0] }, toks := tk }) :
    wpAny (model prog w) A (Builtin.«dict.__init__» ⟨[.ref d, .ref l], []⟩) P E s := by
  have tl : s.TypeIs (.ref l) "list" := ⟨_, hl, rfl⟩
  unfold Builtin.«dict.__init__» Builtin.Dict.selfAndRest
  rw [bind_assoc]
  refine wpAny_bind (wpAny_notOrdered_dict hd ?_)
  wp_walk using keys_miss hh hl
  exact fun h' tk le => wpAny_ite_true rfl (wpAny_bind (wpAny_rule (wpAny_bind (wpAny_pyIter_list (lst_of (le _ _ hl)) (wpAny_pure (h h' tk le))))))

def flagged (x : Int) : Dt := .tup [.int x, .bool true]
theorem entry_loop : entryFor table "dict.update.loop" = some Builtin.«dict.update.loop» := entryFor_of_tree (by kernel_rfl)
theorem plain_loop : plainId "dict.update.loop" = true := by decide +kernel
theorem Pair2.of {h : Heap} {x : Int} {v : Value} (r : Rd h (flagged x) v) : ∃ a k t, v = .ref a ∧ h.get? a = some (tupObj #[.int x t, .bool true] k) := by
  obtain ⟨a, k, v1, v2, rfl, ho, r1, r2⟩ := Rd.two r
  obtain ⟨t, rfl⟩ := Rd.int_iff.mp r1
  obtain rfl := Rd.bool_iff.mp r2
  exact ⟨a, k, t, rfl, ho⟩

theorem update_loop {I l d : Addr} {p : Path} {items : List Value} {k : Nat} {R : Result → Shared → Prop} (hh : A.handled = none) (hI : I ≠ d) (hl : l ≠ d) (hlI : l ≠ I) (hp : p.length < 1000) (hpn : p.Nodup)
    (fin : ∀ s' kvs, KB [I, d] s s' → s'.heap.DictOf (intKind prog w) d kvs → kvs.length = p.length → R (.ok (.ret .none)) s') :
    ∀ (r i : Nat) (kvs : List (Int × Value)) (s₁ : Shared), r = p.length - i → i ≤ p.length → KB [I, d] s s₁ → s₁.heap.IsListIter I l i → s₁.heap.get? l = some (lstObj items.toArray k) → RdL s₁.heap (p.map flagged) items →
      s₁.heap.DictOf (intKind prog w) d kvs → kvs.map (·.1) = p.take i →
      codeAny (model prog w) A (.builtin "dict.update.loop" ⟨[.ref d, .ref I, rawInt i, .none], []⟩) R s₁
  | r, i, kvs, s₁, hr, hi, hk, hit, hL, hR, hD, hkeys => by
    refine codeAny_builtin entry_loop ?_
    rw [Around.under_plainId plain_loop]
    have hlen := hR.length
    rw [List.length_map] at hlen
    unfold Builtin.«dict.update.loop»
    show wpAny _ _ (pyNext (.ref I) >>= _) _ _ _
    rcases Nat.lt_or_ge i p.length with hlt | hge
    · have hx : p[i]? = some p[i] := List.getElem?_eq_getElem hlt
      obtain ⟨v, hv, rv⟩ := hR.get (d := flagged p[i]) (i := i) (by rw [List.getElem?_map, hx]; rfl)
      obtain ⟨oI, hoI, hcI, hdI⟩ := id hit
      refine wpAny_bind (wpAny_pyNext_list_item hit (lst_of hL) (by simpa using hv) fun h' hI' hs' => ?_)
      have kb : KB [I] s₁ { s₁ with heap := h', toks := s₁.toks } := KB.one hoI (fun i n e => by rw [e] at hdI; cases hdI) hs'
      have rv' := rv.kb kb
      obtain ⟨a, ka, t, rfl, ho⟩ := Pair2.of rv'
      have hD' : Heap.DictOf (intKind prog w) h' d kvs := hD.sameBut hs' (Ne.symm hI)
      show wpAny _ _ (holding [.ref a] _ >>= _) _ _ _
      refine wpAny_bind (wpAny_holding (wpAny_bind (wpAny_tryCatch ?_)))
      unfold Builtin.Dict.pairItems
      refine wpAny_bind (wpAny_typeOf (tup_of ho).typeIs ?_)
      show wpAny _ _ (if (Value.type "tuple" == .type "list" || Value.type "tuple" == .type "tuple") = true then _ else _) _ _ _
      rw [if_pos (by decide)]
      refine wpAny_bind (wpAny_seqItems ho rfl (wpAny_pure ?_))
      show wpAny _ _ (holding [.int p[i] t, .bool true] (dictSet d (.int p[i] t) (.bool true))) _ _ _
      refine wpAny_holding (wpAny_dictSet_pairs (knd := intKind prog w) (k := p[i]) (by simp [intKind, Value.isInt]) hD' (fun h₂ hd₂ hs₂ => ?_) (by
        have := congrArg List.length hkeys
        simp only [List.length_map, List.length_take] at this
        exact line_of_lt (by omega)))
      obtain ⟨od, es, ep, hod, hdd⟩ := id hD'
      have kd : KB [d] { s₁ with heap := h', toks := s₁.toks } { s₁ with heap := h₂, toks := s₁.toks + 1 } := KB.one hod (fun i n e => by rw [e] at hdd; cases hdd.2.1) hs₂
      have kbd : KB [I, d] s₁ { s₁ with heap := h₂, toks := s₁.toks + 1 } := (kb.mono (by simp)).trans (kd.mono (by simp))
      refine wpAny_pure ⟨plainId_quiet plain_loop _, ?_⟩
      have e1 : (i : Int) + 1 = ((i + 1 : Nat) : Int) := by omega
      show codeAny _ _ (.builtin "dict.update.loop" ⟨[.ref d, .ref I, rawInt ((i : Int) + 1), .none], []⟩) _ _
      rw [e1]
      have hnew : stored kvs p[i] (.bool true) = kvs ++ [(p[i], .bool true)] := by
        unfold stored
        rw [if_neg]
        simp only [List.any_eq_true, decide_eq_true_eq, not_exists, not_and]
        intro kv hkv e
        have : p[i] ∈ p.take i := by rw [← hkeys, ← e]; exact List.mem_map_of_mem hkv
        obtain ⟨j, hj, e2⟩ := List.mem_iff_getElem.mp this
        rw [List.length_take] at hj
        rw [List.getElem_take] at e2
        have := (List.getElem_inj hpn).mp e2
        omega
      refine update_loop hh hI hl hlI hp hpn fin (r - 1) (i + 1) (stored kvs p[i] (.bool true)) _ (by omega) (by omega) (hk.trans kbd) ?_ (kd.keep _ _ (by simpa using hl) (kb.keep _ _ (by simpa using hlI) hL)) ((hR.kb kb).kb kd) hd₂ ?_
      · obtain ⟨o, ho', rr⟩ := hI'
        exact ⟨o, hs₂.extBut I o hI ho', rr⟩
      · rw [hnew, List.map_append, hkeys, List.take_add_one, hx]; rfl
    · have hin : i = p.length := Nat.le_antisymm hi hge
      subst hin
      obtain ⟨oI, hoI, hcI, hdI⟩ := id hit
      refine wpAny_bind (wpAny_pyNext_list_end (A := A.in1) hh hit (lst_of hL) (by simp [hlen]) fun h' he => ?_)
      have kb := KB.ext (tk := s₁.toks) hoI (fun i n e => by rw [e] at hdI; cases hdI) he
      show wpAny _ _ (Builtin.Dict.addKeywords d [] >>= _) _ _ _
      refine wpAny_bind (wpAny_pure (wpAny_pure (fin _ kvs (hk.trans (kb.mono (by simp))) (hD.extBut he (Ne.symm hI)) ?_)))
      have := congrArg List.length hkeys
      simpa using this
termination_by r => r
decreasing_by omega

theorem call_dict_pairs {l : Addr} {p : Path} {Q : Value → Shared → Prop} (hh : A.handled = none) (G : GG w s.heap) (hl : LT s.heap l (p.map flagged)) (hp : p.length < 1000) (hpn : p.Nodup)
    (h : ∀ d s' kvs, KB [] s s' → (d == sysModules) = false → s'.heap.DictOf (intKind prog w) d kvs → kvs.length = p.length → Q (.ref d) s') :
    wpAny (model prog w) A (call (.type "dict") [.ref l]) Q E s := by
  obtain ⟨items, k, ho, hr⟩ := hl
  refine callType_codes (Q₁ := fun v z => v = .ref s.heap.objs.size ∧ z = { s with heap := s.heap.push dictObj }) F.kt_called_dict (F.kt_typeCall_dict_1 _) F.entry_dict_init (kt_code_dict_new _ ⟨rfl, rfl⟩) fun v z hz => ?_
  obtain ⟨rfl, rfl⟩ := hz
  have born : (s.heap.push dictObj).DictOf (intKind prog w) s.heap.objs.size [] := Heap.DictOf.new s.heap
  have dict0 : (s.heap.push dictObj).get? s.heap.objs.size = some dictObj := Heap.get?_push_size _ rfl
  refine ⟨born.typeIs, F.args_dict_init_2 _ _, init_pairs hh born.typeIs (Heap.get?_push_of_some _ ho) fun h' tk le => ⟨plainId_quiet plain_loop _, ?_⟩⟩
  have list' : h'.get? l = some (lstObj items.toArray k) := le _ _ (Heap.get?_push_of_some _ ho)
  have dlt : s.heap.objs.size < h'.objs.size := Heap.lt_size (le _ _ dict0)
  have grown : KB [] s { s with heap := h'.push { cls := .type "list_iterator", data := .fields #[.ref l, .int 0 0] }, toks := tk } := KB.of_le fun b o e => Heap.get?_push_of_some _ (le _ _ (Heap.get?_push_of_some _ e))
  have ended : ∀ s' kvs, KB [h'.objs.size, s.heap.objs.size] { s with heap := h'.push { cls := .type "list_iterator", data := .fields #[.ref l, .int 0 0] }, toks := tk } s' → s'.heap.DictOf (intKind prog w) s.heap.objs.size kvs → kvs.length = p.length → Q (.ref s.heap.objs.size) s' :=
    fun s' kvs k' hd hlen => h _ s' kvs (grown.drop k' fun a ha => unborn ((List.mem_cons.mp ha).elim (fun e => e ▸ Nat.le_of_lt dlt) fun m => List.mem_singleton.mp m ▸ Nat.le_refl _)) (G.notSys (unborn (Nat.le_refl _)) (Nat.le_refl _)) hd hlen
  exact update_loop (A := A.in1) hh (Nat.ne_of_gt dlt) (Nat.ne_of_lt (Heap.lt_size ho)) (Nat.ne_of_lt (Heap.lt_size list')) hp hpn (fun s' kvs k' hd hlen => ⟨rfl, ended s' kvs k' hd hlen⟩) p.length 0 [] _ (by omega) (by omega) (KB.refl _ _)
    ⟨_, Heap.get?_push_size _ rfl, rfl, rfl⟩ (Heap.get?_push_of_some _ list') (hr.kb grown) ((born.keep le).push _) rfl
end
end Mine
end


-- F9
section
set_option maxHeartbeats 2000000
set_option autoImplicit false
namespace Mine
structure PC (P : Prob) : Prop extends PG P where
  nz : ∀ x ∈ P.map (·.1), x ≠ 0
  good : ∀ x p, p ∈ ofNode P x → 2 ≤ p.length ∧ p.getLast? = some 0 ∧ p.Nodup ∧ p.length < 60
  nodup : ∀ x, (ofNode P x).Nodup
section
variable {prog : Program} {w : World} {A : Around} {env : Env} {s₀ s s₁ : Shared} {m : Str → Option Value} {E : Value → Shared → Prop} {n : Nat}

noncomputable def origTok (w : World) : Tok := match nsIn (KK w) mainGlobals "ORIGIN" with | some (some (.int _ t)) => t | _ => 0
theorem Pe.origin {pos : Pos} (V : View env m s) (G : GG w s.heap) (hl : env.kindOf "ORIGIN" = some .globalImplicit) : Pe prog w A env s (.Name "ORIGIN" pos) (fun h v => Rd h (.int 0) v) := fun E s₁ k =>
  (V.le k.le).global_ (G.le k.le) hl (v := .int 0 (origTok w)) (by kernel_rfl) ⟨KB.refl _ _, fun _ _ => Rd.int _ _⟩
theorem Pe.nei {e i : Expr} {pos : Pos} {a b : Int} (x : Pe prog w A env s e (fun h v => Rd h (.int a) v)) (y : Pe prog w A env s i (fun h v => Rd h (.int b) v))
    (hm : behindInMarks .NotEq i = false := by with_unfolding_all rfl) : Pe prog w A env s (.Compare e [.NotEq] [i] pos) (fun h v => Rd h (.bool (a != b)) v) :=
  x.cmpI y (fun _ _ _ _ h => PyProof.Rows.ne_int h) hm
theorem Pe.neg {e : Expr} {pos : Pos} {a : Int} (x : Pe prog w A env s e (fun h v => Rd h (.int a) v)) : Pe prog w A env s (.UnaryOp .USub e pos) (fun h v => Rd h (.int (-a)) v) := fun E s₁ ks =>
  wpAny_UnaryOp (x.use ks fun v s₂ k₂ r => by
    obtain ⟨t, rfl⟩ := Rd.int_iff.mp (r _ (Le.refl _))
    exact PyProof.Rows.neg_int ⟨k₂.toks _, fun _ _ => Rd.int _ _⟩)
/-- `t[-1]` -/
theorem Pe.last {e i : Expr} {pos : Pos} {ds : List Dt} {d : Dt} (x : Pe prog w A env s e (fun h v => Rd h (.tup ds) v)) (y : Pe prog w A env s i (fun h v => Rd h (.int (-1)) v))
    (hk : ds.getLast? = some d) (hs : ds.length < 100000)
    (hsub : ∀ a u, subscripted i false (.ref a) (.int (-1) u) = operate [.ref a, .int (-1) u] (getItem (.ref a) (.int (-1) u)) := by intro _ _; with_unfolding_all rfl) :
    Pe prog w A env s (.Subscript e i pos) (fun h v => Rd h d v) := fun E s₁ ks =>
  Subscript_ (x.use ks fun v s₂ k₂ r => y.use (ks.trans k₂) fun u s₃ k₃ r₃ => by
    obtain ⟨a, items, n, rfl, ho, hr⟩ := Rd.tup_iff.mp (r _ k₃.le)
    obtain ⟨t, rfl⟩ := Rd.int_iff.mp (r₃ _ (Le.refl _))
    have hlen := hr.length
    have hpos : 0 < ds.length := by cases ds with | nil => simp at hk | cons a b => simp
    have hk' : ds[ds.length - 1]? = some d := by rw [← hk, List.getLast?_eq_getElem?]
    obtain ⟨v', hv', rv⟩ := hr.get hk'
    refine item_tupleT (tup_of ho) (by omega) (by omega) (j := ds.length - 1) ?_ hv' ⟨k₂.trans k₃, fun h' l => rv.le l⟩ (hsub _ _)
    unfold seqIndex?
    rw [hlen]
    simp only [show ((-1 : Int) < 0) from by omega, if_true]
    first
      | (rw [if_pos (by omega)]; congr 1; omega)
      | (rw [if_neg (by omega)]; congr 1; omega)
      | (simp; omega))
theorem Pe.lenE {np pos : Pos} {e : Expr} {k : Nat} (V : View env m s) (G : GG w s.heap) (hl : env.kindOf "len" = some .globalImplicit) (x : Pe prog w A env s e (fun h v => ∃ q : List Int, q.length = k ∧ Ls h (q.map .int) v)) (hs : k < 100000)
    (he : starEach [e] env = (false, eval e env) :: starEach [] env := by rfl) :
    Pe prog w A env s (.Call (.Name "len" np) [e] [] pos) (fun h v => Rd h (.int k) v) :=
  Pe.callB V G hl (bl w) (by boot_by_name) (by decide) (PeA.one x he) (fun E s₁ vs k hv => by
    obtain ⟨v, rfl, q, hq, a, rfl, items, n, ho, hr⟩ := hv
    have := hr.length
    rw [List.length_map] at this
    rw [← hq, ← this]
    exact spec_len_lst ho (by omega)) (he := he)
/-- `len(dict([.. pairs ..]))` -/
theorem Pe.lenDict {np np2 pos pos2 : Pos} {e : Expr} {p : Path} (ok : AOk A n) (V : View env m s) (G : GG w s.heap) (hl : env.kindOf "len" = some .globalImplicit) (hl2 : env.kindOf "dict" = some .globalImplicit)
    (x : Pe prog w A env s e (fun h v => Ls h (p.map flagged) v)) (hs : p.length < 1000) (hpn : p.Nodup)
    (he : starEach [e] env = (false, eval e env) :: starEach [] env := by rfl) :
    Pe prog w A env s (.Call (.Name "len" np) [.Call (.Name "dict" np2) [e] [] pos2] [] pos) (fun h v => Rd h (.int p.length) v) := by
  have y : Pe prog w A env s (.Call (.Name "dict" np2) [e] [] pos2) (fun h v => ∃ d kvs, v = .ref d ∧ (d == sysModules) = false ∧ h.DictOf (intKind prog w) d kvs ∧ kvs.length = p.length) :=
    Pe.callT V G hl2 (bdict w) (by boot_by_name) (by decide) (PeA.one x he) (fun E s₁ vs k hv => by
      obtain ⟨v, rfl, l, rfl, hl⟩ := hv
      exact call_dict_pairs ok.handled (G.le k.le) hl hs hpn fun d s' kvs k' h0 hd hlen => ⟨k', fun h' l' => ⟨d, kvs, rfl, h0, hd.keep l', hlen⟩⟩) (he := he)
  refine Pe.callB V G hl (bl w) (by boot_by_name) (by decide) (PeA.one y) (fun E s₁ vs k hv => ?_)
  obtain ⟨v, rfl, d, kvs, rfl, h0, hd, hlen⟩ := hv
  refine call_len_dict h0 hd (by omega) ⟨(KB.refl _ _).toks _, fun _ _ => ?_⟩
  rw [hlen]; exact Rd.int _ _
theorem Pt.eq {e : Expr} {b c : Bool} (x : Pt prog w A env s e b) (h : c = b) : Pt prog w A env s e c := h ▸ x
theorem Frm.nolist (F : Frm s₀ env m s) : ∃ o, s.heap.get? env.locals = some o ∧ ∀ items n, o.data ≠ .seq items n := by
  obtain ⟨ml, ⟨o, es, ep, ho, hd, _⟩, _⟩ := F.view.ns
  exact ⟨o, ho, fun i n e => by rw [e] at hd; cases hd⟩

theorem check_problem_spec {P : Prob} {vP : Value} {E : Value → Shared → Prop} (ok : AOk A (n + 1)) (G : GG w s.heap) (hP : PrAt prog w s.heap P vP) (g : PC P) :
    wpAny (model prog w) A (call (.ref 92) [vP]) (fun v s' => KB [] s s' ∧ ∀ h', Le s'.heap h' → v = .none) E s := by
  refine enter2 (R := fun _ v => v = .none) (def92 w) G ok (by kernel_rfl) (fun L x hx => ?_) ?_
  · simp at hx; rcases hx with rfl; kernel_rfl
  intro L₀ s₁ A' E' m ok' F hmm
  have m1 : m "problem" = some vP := hmm ("problem", vP) (by simp)
  have G' : ∀ {s'' : Shared} {m' : Str → Option Value}, Frm s (envAt w 92 L₀) m' s'' → GG w s''.heap := fun F' => G.le F'.kb.le
  have pP : ∀ {s'' : Shared} {m' : Str → Option Value} {pos : Pos}, Frm s (envAt w 92 L₀) m' s'' → m' "problem" = some vP → Pe prog w A' (envAt w 92 L₀) s'' (.Name "problem" pos) (fun h v => PrAt prog w h P v) := by
    intro s'' m' pos F' e
    exact Pe.loc F'.view (by kernel_rfl) e (fun h' l => hP.le (F'.kb.le.trans l))
  have hfew := g.few
  refine wpAny_execs_cons (S.for_ (src := fun a => a ∉ [(envAt w 92 L₀).locals]) (n := (P.map fun x => Dt.int x.1).length) (P := fun i h v => ∃ d, (P.map fun x => Dt.int x.1)[i]? = some d ∧ Rd h d v)
    (PeI.offX _ (fun a ha => by simp only [List.mem_singleton] at ha; subst ha; exact F.nolist) ok'.handled (Pe.sortedD ok' F.view (G' F) (by kernel_rfl) (pP F m1) (g.keys.imp (fun h => Int.le_of_lt h)) (by omega)))
    (fun i s' => ∃ m, Frm s (envAt w 92 L₀) m s' ∧ m "problem" = some vP) [(envAt w 92 L₀).locals] ?_ (fun _ h => h) ⟨m, F, m1⟩ ?_ ?_ ?_)
  · intro a ha
    simp only [List.mem_singleton] at ha; subst ha
    exact F.has _ List.mem_cons_self
  · rintro i sa sb wr hwr ⟨m, Fm, e1⟩ k
    exact ⟨m, Fm.other k (fun a ha => F.fresh (hwr a ha)), e1⟩
  · rintro i sa v hi ⟨m, Fm, e1⟩ hv E''
    obtain ⟨x, hx, hv⟩ := at_map (enc := fun x : Int × List Path => Dt.int x.1) hv
    have hof := ofNode_at g.keys hx
    have hlk := lookup_at g.keys hx
    have hx0 : x.1 ≠ 0 := g.nz x.1 (List.mem_map_of_mem (List.mem_of_getElem? hx))
    have hsm := g.small x.1
    obtain ⟨tv, rfl⟩ := Rd.int_iff.mp hv
    refine wpAny_assign_Name (Fm.storeL (by kernel_rfl) (by kernel_rfl) fun sb Fb kb => ?_)
    have pn : ∀ {s'' : Shared} {m' : Str → Option Value} {pos : Pos}, Frm s (envAt w 92 L₀) m' s'' → m' "node" = some (.int x.1 tv) → Pe prog w A' (envAt w 92 L₀) s'' (.Name "node" pos) (fun h v => Rd h (.int x.1) v) :=
      fun F' e => Pe.loc F'.view (by kernel_rfl) e (fun h' l => Rd.int _ _)
    refine wpAny_execs_cons (S.ite (b := false) ?_ fun sc kc => ?_)
    · refine Pt.cmp ((Pe.eqi (pn Fb upd_self) (Pe.origin Fb.view (G' Fb) (by kernel_rfl))).mono fun h v r => ?_)
      have : (x.1 == 0) = false := by simpa using hx0
      rwa [this] at r
    rw [if_neg (by simp)]
    refine wpAny_execs_nil ?_
    have Fc := Fb.le kc
    have e1' := upd2 (x := "node") (v := Value.int x.1 tv) e1
    have e2' : upd m "node" (Value.int x.1 tv) "node" = some (Value.int x.1 tv) := upd_self
    generalize upd m "node" (Value.int x.1 tv) = mc at Fb Fc e1' e2'
    have hpn : ∀ {s'' : Shared} {m' : Str → Option Value} {p1 p2 p3 : Pos}, Frm s (envAt w 92 L₀) m' s'' → m' "problem" = some vP → m' "node" = some (.int x.1 tv) →
        Pe prog w A' (envAt w 92 L₀) s'' (.Subscript (.Name "problem" p1) (.Name "node" p2) p3) (fun h v => Rd h (pths x.2) v) := fun F' a b => Pe.dget (pP F' a) (pn F' b) hlk
    refine wpAny_execs_cons (S.for_ (src := fun _ => False) (n := (x.2.map pth).length) (P := fun i h v => ∃ d, (x.2.map pth)[i]? = some d ∧ Rd h (.tup [.int i, d]) v)
      (PeI.enumT ok' Fc.view (G' Fc) (by kernel_rfl) (hpn Fc e1' e2'))
      (fun i s' => ∃ m, Frm s (envAt w 92 L₀) m s' ∧ m "problem" = some vP ∧ m "node" = some (.int x.1 tv) ∧ KB [(envAt w 92 L₀).locals] sc s') [(envAt w 92 L₀).locals] ?_ (fun _ h => h.elim) ⟨_, Fc, e1', e2', KB.refl _ _⟩ ?_ ?_ ?_)
    · intro a ha
      simp only [List.mem_singleton] at ha; subst ha
      exact Fc.has _ List.mem_cons_self
    · rintro j sx sy wr hwr ⟨m, Fm, a1, a2, a3⟩ k
      exact ⟨m, Fm.other k (fun a ha => Fc.fresh (hwr a ha)), a1, a2, a3.dropX k hwr⟩
    · rintro j sx u hj ⟨m, Fm, a1, a2, a3⟩ hu E3
      rw [List.length_map] at hj
      obtain ⟨d, hd, hu⟩ := hu
      obtain ⟨p, hp, hd'⟩ : ∃ p, x.2[j]? = some p ∧ d = pth p := by
        rw [List.getElem?_map] at hd
        cases e : x.2[j]? with
        | none => rw [e] at hd; cases hd
        | some a => rw [e] at hd; cases hd; exact ⟨a, rfl, rfl⟩
      subst hd'
      have hpm : p ∈ ofNode P x.1 := by rw [hof]; exact List.mem_of_getElem? hp
      obtain ⟨g1, g2, g3, g4⟩ := g.good x.1 p hpm
      have g0 := (g.first x.1 p hpm).1
      obtain ⟨a, ka, vi, vp, rfl, ho, hri, hrp⟩ := Rd.two hu
      refine FAsg.run (env := envAt w 92 L₀) (X := [(envAt w 92 L₀).locals]) (FAsg.tup2 ok'.handled ho (FAsg.loc (by simp) (by kernel_rfl) (by kernel_rfl)) (FAsg.loc (by simp) (by kernel_rfl) (by kernel_rfl))) Fm fun sz Fz kz => ?_
      have hri := hri.kb kz
      have hrp := hrp.kb kz
      have b1 := upd2 (x := "path") (v := vp) (upd2 (x := "at") (v := vi) a1)
      have b2 := upd2 (x := "path") (v := vp) (upd2 (x := "at") (v := vi) a2)
      have pp : ∀ {s'' : Shared} {pos : Pos}, KB [] sz s'' → Pe prog w A' (envAt w 92 L₀) s'' (.Name "path" pos) (fun h v => Rd h (pth p) v) := fun k =>
        Pe.loc (Fz.le k).view (by kernel_rfl) upd_self (fun h' l => hrp.le (k.le.trans l))
      have pa : ∀ {s'' : Shared} {pos : Pos}, KB [] sz s'' → Pe prog w A' (envAt w 92 L₀) s'' (.Name "at" pos) (fun h v => Rd h (.int j) v) := fun k =>
        Pe.loc (Fz.le k).view (by kernel_rfl) (upd2 upd_self) (fun h' l => hri.le (k.le.trans l))
      have hpl : (p.map Dt.int).length < 100000 := by rw [List.length_map]; omega
      refine wpAny_execs_cons (S.ite (b := false) ?_ fun st kt => ?_)
      · have e : false = (decide ((p.length : Int) < 2) || ((x.1 != x.1) || (((0 : Int) != 0) || false))) := by
          have : ¬ ((p.length : Int) < 2) := by omega
          simp [this]
        refine Pt.eq ?_ e
        refine Pt.or_cons (Pt.cmp (Pe.lt_ ?_ (Pe.int 2 _ _))) fun _ => Pt.or_cons (Pt.cmp (Pe.nei (Pe.idx (k := 0) (pp (KB.refl _ _)) (Pe.int _ _ _) (by decide) (by simp [g0]) hpl) (pn Fz b2))) fun _ =>
          Pt.or_cons (Pt.cmp (Pe.nei (Pe.last (pp (KB.refl _ _)) (Pe.neg (Pe.int 1 _ _)) (by rw [List.getLast?_map, g2]; rfl) hpl) (Pe.origin Fz.view (G' Fz) (by kernel_rfl)))) fun _ => Pt.or_nil
        refine (Pe.lenT Fz.view (G' Fz) (by kernel_rfl) (pp (KB.refl _ _)) hpl).mono fun h v r => ?_
        simpa using r
      rw [if_neg (by simp)]
      refine wpAny_execs_nil ?_
      have Ft := Fz.le kt
      refine wpAny_execs_cons (S.ite (b := false) ?_ fun su ku => ?_)
      · have hni : ¬ p ∈ x.2.take j := by
          intro h
          have hnd := g.nodup x.1
          rw [hof] at hnd
          obtain ⟨j', hj', e⟩ := List.mem_iff_getElem.mp h
          rw [List.length_take] at hj'
          rw [List.getElem_take] at e
          have e2 : x.2[j]? = some x.2[j] := List.getElem?_eq_getElem hj
          rw [hp] at e2
          have e3 := Option.some.inj e2
          rw [← e] at e3
          have := (List.getElem_inj hnd).mp e3
          omega
        have e : false = ((p.length : Int) != (p.length : Int) || (decide (p ∈ x.2.take ((j : Int)).toNat) || false)) := by simp [hni]
        refine Pt.eq ?_ e
        refine Pt.or_cons (Pt.cmp (Pe.nei (Pe.lenE Ft.view (G' Ft) (by kernel_rfl) (Pe.sortedP ok' Ft.view (G' Ft) (by kernel_rfl) (pp kt) (by omega)) (by omega)) (Pe.lenDict ok' Ft.view (G' Ft) (by kernel_rfl) (by kernel_rfl) ?_ (by omega) g3))) fun _ =>
          Pt.or_cons (Pt.cmp ((Pe.inT ok' (pp kt) (Pe.sliceUptoP (hpn Ft b1 b2) (pa kt) (by omega) (by rw [hof] at hsm; omega)) (.inl rfl)).mono fun h v r => by simpa using r)) fun _ => Pt.or_nil
        have hfm : p.map flagged = p.filterMap (fun y => some (flagged y)) := map_fm flagged p
        rw [hfm]
        refine Pe.compA (enc := Dt.int) (fun y => some (flagged y)) [] (PeI.tup ok'.handled (pp kt)) (by omega) Ft.view ⟨by kernel_rfl, fun y c h => by simp at h, by decide, rfl, by decide, fun C => by kernel_rfl⟩ ?_
        intro y u s₁ C hy k₁ ru V off
        exact ⟨_, true, flagged y, Asg.name V (by kernel_rfl) (by kernel_rfl) off, fun s₂ k₂ kt V₂ => ⟨PtL.nil, fun _ => Pe.tuple (PeL.cons (Pe.loc V₂ (by kernel_rfl) upd_self (fun h' l => (Rd.kt kt _ _ ru).le l)) (PeL.cons (Pe.bool true _ _) PeL.nil)) (by simp)⟩, rfl⟩
      rw [if_neg (by simp)]
      have kz' : KB [(envAt w 92 L₀).locals] sx su := (kz.trans (kt.of_nil _)).trans (ku.of_nil _)
      exact wpAny_execs_nil (wpAny_execs_nil ⟨⟨_, Ft.le ku, b1, b2, a3.trans kz'⟩, kz'⟩)
    · rintro sx ⟨m, Fm, a1, a2, a3⟩
      exact wpAny_execs_nil ⟨⟨m, Fm, a1⟩, (kb.trans (kc.of_nil _)).trans a3⟩
  · rintro sa ⟨m, Fm, e1⟩
    exact wpAny_execs_nil ⟨Fm.kb, fun _ _ => rfl⟩
end
end Mine
end


-- F10
section
set_option maxHeartbeats 2000000
set_option autoImplicit false
namespace Mine
section
variable {prog : Program} {w : World} {M : Model} {A : Around} {env : Env} {s₀ sB s s₁ s' : Shared} {m : Str → Option Value} {E : Value → Shared → Prop} {n : Nat}

/-- entering a def of the text -/
theorem enterQ {fa : Addr} {o : Obj} {fd : FuncData} {body : List Stmt} {vals : List Value} {binds : List (Str × Value)} {Q : Value → Shared → Prop}
    (G : GG w s.heap) (ho : (KK w).lookup fa = some o) (hdat : o.data = .func fd) (hbody : fd.body = .stmts body) (ok : AOk A (n + 1)) (hcd : codeIn (KK w) fd.code fd.qualname = true)
    (hbind : bindArgs fd ⟨vals, []⟩ = pure binds) (hclo : fd.closure = [])
    (hkind : ∀ x ∈ binds, fd.scope.names.lookup x.1 = some .local ∨ (fd.scope.names.lookup x.1 = some .cell ∧ ((cellsFrom (s.heap.objs.size + 1) fd.scope.names []).lookup x.1).isSome = true))
    (hgl : fd.globals = mainGlobals) (hbu : fd.builtins = builtinsNs)
    (hdis : ∀ L, ((callEnvC fd L fa).cells.all fun p => (callEnvC fd L fa).kindOf p.1 != some .local) = true)
    (hnd' : decide (((cellsFrom 0 fd.scope.names []).map (·.1)).Nodup) = true)
    (hm : ∀ L, ∀ p ∈ binds, (if (callEnvC fd L fa).kindOf p.1 = some .local then bindL (callEnvC fd L fa).kindOf binds (fun _ => none) p.1 else bindC (callEnvC fd L fa).kindOf binds (fun _ => none) p.1) = some p.2)
    (h : ∀ L s₁ A' E' m, AOk A' n → Frm s (callEnvC fd L fa) m s₁ → (∀ p ∈ binds, m p.1 = some p.2) →
      wpAny (model prog w) A' (execs body (callEnvC fd L fa)) (fun f s' => Q (match f with | .ret v => v | _ => .none) s') E' s₁)
    (hco : fd.scope.isCoroutine = false := by rfl) (hgen : fd.scope.isGenerator = false := by rfl) (hk : fd.scope.kind = .function := by rfl) :
    wpAny (model prog w) A (call (.ref fa) vals) Q E s := by
  have hnd := of_decide_eq_true hnd'
  have hlim : s.heap.NoLimit := let ⟨_, _, _, _, _, T⟩ := G; T.nolimit
  refine wpAny_call (codeAny_call_cells ok.room (G.1 _ _ ho) hdat hlim (codeRec_of G.1 hcd) hbody hbind hclo hkind (fun s₁ x => ?_) hco hgen hk)
  have hcell : ∀ y c, (callEnvC fd s.heap.objs.size fa).cells.lookup y = some c → s.heap.get? c = none ∧ c ≠ (callEnvC fd s.heap.objs.size fa).locals := fun y c hy => by
    have hlt := x.above y c (mem_of_lookup hy)
    have hfr := x.toInCall.fresh
    refine ⟨?_, Nat.ne_of_gt hlt⟩
    cases e : s.heap.get? c with
    | none => rfl
    | some o => exact absurd (Heap.lt_size e) (Nat.not_lt.mpr (Nat.le_of_lt (Nat.lt_of_le_of_lt hfr hlt)))
  have F : Frm s (callEnvC fd s.heap.objs.size fa) (fun x => if (callEnvC fd s.heap.objs.size fa).kindOf x = some .local then bindL (callEnvC fd s.heap.objs.size fa).kindOf binds (fun _ => none) x else bindC (callEnvC fd s.heap.objs.size fa).kindOf binds (fun _ => none) x) s₁ := by
    refine ⟨?_, ⟨hk, hgl, hbu, ⟨_, x.toInCall.ns, fun y v hy hv => by rw [if_pos hy] at hv; exact hv⟩, fun y c hy => ?_⟩, fun a ha => ?_, fun y c hy => (hcell y c hy).2, fun a ha => ?_, fun y z c hy hz => ?_⟩
    · obtain ⟨h', tk, rfl⟩ := x.toInCall.same
      exact KB.of_le x.toInCall.keep
    · have := List.all_eq_true.mp (hdis s.heap.objs.size) _ (mem_of_lookup hy)
      rw [if_neg (by simpa using this)]
      exact ⟨_, x.cell y c hy, fun v e => e⟩
    · rcases List.mem_cons.mp ha with rfl | ha
      · cases e : s.heap.get? (callEnvC fd s.heap.objs.size fa).locals with
        | none => rfl
        | some o => exact absurd (Heap.lt_size e) (Nat.not_lt.mpr x.toInCall.fresh)
      · obtain ⟨p, hp, rfl⟩ := List.mem_map.mp ha
        have hlt := x.above p.1 p.2 hp
        cases e : s.heap.get? p.2 with
        | none => rfl
        | some o => exact absurd (Heap.lt_size e) (Nat.not_lt.mpr (Nat.le_of_lt (Nat.lt_of_le_of_lt x.toInCall.fresh hlt)))
    · rcases List.mem_cons.mp ha with rfl | ha
      · obtain ⟨o, es', ep', ho, _⟩ := x.toInCall.ns
        rw [ho]; rfl
      · obtain ⟨p, hp, rfl⟩ := List.mem_map.mp ha
        have hlk : (callEnvC fd s.heap.objs.size fa).cells.lookup p.1 = some p.2 := lookup_of_mem_nodup (cellsFrom_names fd.scope.names 0 (s.heap.objs.size + 1) [] [] rfl ▸ hnd) hp
        obtain ⟨o, ho, _⟩ := x.cell p.1 p.2 hlk
        rw [ho]; rfl
    · exact name_of_addr x.apart (mem_of_lookup hy) (mem_of_lookup hz)
  exact wpAny_mono (h _ _ _ _ _ ok.deeper F (hm _)) (fun f s' hf => hf) fun _ _ z => z

theorem enterQ2 {fa : Addr} {vals : List Value} {xs : List Str} {Q : Value → Shared → Prop} (D : DefOk w fa xs)
    (G : GG w s.heap) (ok : AOk A (n + 1)) (hbind : bindArgs (fdAt w fa) ⟨vals, []⟩ = pure (xs.zip vals))
    (hm : ∀ L, ∀ p ∈ xs.zip vals, (if (envAt w fa L).kindOf p.1 = some .local then bindL (envAt w fa L).kindOf (xs.zip vals) (fun _ => none) p.1 else bindC (envAt w fa L).kindOf (xs.zip vals) (fun _ => none) p.1) = some p.2)
    (h : ∀ L s₁ A' E' m, AOk A' n → Frm s (envAt w fa L) m s₁ → (∀ p ∈ xs.zip vals, m p.1 = some p.2) →
      wpAny (model prog w) A' (execs (bodyAt w fa) (envAt w fa L)) (fun f s' => Q (match f with | .ret v => v | _ => .none) s') E' s₁) :
    wpAny (model prog w) A (call (.ref fa) vals) Q E s := by
  refine enterQ G D.ho D.hdat D.hbody ok D.hcd hbind D.hclo ?_ D.hgl D.hbu D.hdis D.hnd hm h D.hco D.hgen D.hk
  have : ((xs.zip vals).all fun y => (fdAt w fa).scope.names.lookup y.1 == some .local || (fdAt w fa).scope.names.lookup y.1 == some .cell) = true := by
    rw [List.all_eq_true]
    intro p hp
    exact List.all_eq_true.mp D.hkinds p.1 (List.of_mem_zip hp).1
  exact kindsX this _

/-! ### the pool -/
def PoolAt (h : Heap) (pl ll : Addr) (cs : List Int) (k : Nat) : Prop := (∃ t, h.IsList pl #[.ref ll, .int k t]) ∧ LT h ll (cs.map .int)
theorem PoolAt.le {h h' : Heap} {pl ll : Addr} {cs : List Int} {k : Nat} (x : PoolAt h pl ll cs k) (e : Le h h') : PoolAt h' pl ll cs k := by
  obtain ⟨⟨t, o, ho, r⟩, h2⟩ := x
  exact ⟨⟨t, o, e _ _ ho, r⟩, h2.le e⟩
theorem PoolAt.kb {X : List Addr} {s s' : Shared} {pl ll : Addr} {cs : List Int} {k : Nat} (x : PoolAt s.heap pl ll cs k) (e : KB X s s') (h1 : pl ∉ X) (h2 : ll ∉ X) : PoolAt s'.heap pl ll cs k := by
  obtain ⟨⟨t, o, ho, r⟩, h3⟩ := x
  exact ⟨⟨t, o, e.keep _ _ h1 ho, r⟩, h3.kb e h2⟩
theorem Pe.fdiv {e i : Expr} {pos : Pos} {a b : Int} (x : Pe prog w A env s e (fun h v => Rd h (.int a) v)) (y : Pe prog w A env s i (fun h v => Rd h (.int b) v)) (hb : b ≠ 0) (hd : Builtin.divisionGoesByPylong a b = false) :
    Pe prog w A env s (.BinOp e .FloorDiv i pos) (fun h v => Rd h (.int (a.fdiv b)) v) := fun E s₁ ks =>
  wpAny_BinOp (x.use ks fun v s₂ k₂ r => y.use (ks.trans k₂) fun u s₃ k₃ r₃ => by
    obtain ⟨t, rfl⟩ := Rd.int_iff.mp (r _ k₃.le)
    obtain ⟨t', rfl⟩ := Rd.int_iff.mp (r₃ _ (Le.refl _))
    exact PyProof.Rows.floordiv_int hb ⟨(k₂.trans k₃).toks _, fun _ _ => Rd.int _ _⟩ (.inl hd))
theorem Pe.mul {e i : Expr} {pos : Pos} {a b : Int} (x : Pe prog w A env s e (fun h v => Rd h (.int a) v)) (y : Pe prog w A env s i (fun h v => Rd h (.int b) v)) (hm : IntMulOk a b) :
    Pe prog w A env s (.BinOp e .Mult i pos) (fun h v => Rd h (.int (a * b)) v) := fun E s₁ ks =>
  wpAny_BinOp (x.use ks fun v s₂ k₂ r => y.use (ks.trans k₂) fun u s₃ k₃ r₃ => by
    obtain ⟨t, rfl⟩ := Rd.int_iff.mp (r _ k₃.le)
    obtain ⟨t', rfl⟩ := Rd.int_iff.mp (r₃ _ (Le.refl _))
    exact PyProof.Rows.mul_int ⟨(k₂.trans k₃).toks _, fun _ _ => Rd.int _ _⟩ hm)
theorem Pe.abs {np pos : Pos} {e : Expr} {a : Int} (V : View env m s) (G : GG w s.heap) (hl : env.kindOf "abs" = some .globalImplicit) (x : Pe prog w A env s e (fun h v => Rd h (.int a) v))
    (he : starEach [e] env = (false, eval e env) :: starEach [] env := by rfl) :
    Pe prog w A env s (.Call (.Name "abs" np) [e] [] pos) (fun h v => Rd h (.int (if a < 0 then -a else a)) v) :=
  Pe.callB V G hl (babs w) (by boot_by_name) (by decide) (PeA.one x he) (fun E s₁ vs k hv => by
    obtain ⟨v, rfl, r⟩ := hv
    obtain ⟨t, rfl⟩ := Rd.int_iff.mp r
    exact call_abs_int fun u tk => ⟨(KB.refl _ _).toks _, fun _ _ => Rd.int _ _⟩) (he := he)

theorem draw_spec {pl ll : Addr} {cs : List Int} {k : Nat} {many : Int} {t : Tok} (ok : AOk A (n + 1)) (G : GG w sB.heap) (kB : KB [] sB s) (hfr : sB.heap.get? pl = none) (hp : PoolAt s.heap pl ll cs k) (hne : ll ≠ pl) (hm : 0 < many) (hk : k < 1000) (hcs : cs.length < 1000) :
    wpAny (model prog w) A (call (.ref 99) [.ref pl, .int many t]) (fun v s' => KB [pl] s s' ∧ PoolAt s'.heap pl ll cs (k + 1) ∧ ∃ (r : Int) (t' : Tok), v = .int r t' ∧ 0 ≤ r ∧ r < many) E s := by
  refine enterQ2 (def99 w) (G.le kB.le) ok (by kernel_rfl) (fun L x hx => ?_) ?_
  · simp at hx; rcases hx with rfl | rfl <;> kernel_rfl
  intro L₀ s₁ A' E' m ok' F hmm
  have m1 : m "pool" = some (.ref pl) := hmm ("pool", .ref pl) (by simp)
  have m2 : m "many" = some (.int many t) := hmm ("many", .int many t) (by simp)
  have hp₁ := hp.le F.kb.le
  -- spot = pool[1]
  refine wpAny_execs_cons (S.assign (R := fun h v => Rd h (.int k) v) (fun E s₂ k₂ => Subscript_ ((Pe.loc (R := fun h v => v = .ref pl ∧ PoolAt h pl ll cs k) F.view (by kernel_rfl) m1 (fun h' l => ⟨rfl, hp₁.le l⟩)).use k₂ fun v s₃ k₃ r => (Pe.int 1 _ _).use (KB.refl _ _) fun u s₄ k₄ r₄ => by
    obtain ⟨rfl, ⟨tk, hL⟩, _⟩ := r _ k₄.le
    obtain ⟨tu, rfl⟩ := Rd.int_iff.mp (r₄ _ (Le.refl _))
    exact tail_any hL.typeIs slot_list_getitem.lookup (wpAny_getItem_list hL (by omega) (by simp) (x := .int k tk) rfl ⟨k₃.trans k₄, fun h' l => Rd.int _ _⟩) (by with_unfolding_all rfl))) fun v s₂ k₂ r => ?_)
  obtain ⟨tv, rfl⟩ := Rd.int_iff.mp (r _ (Le.refl _))
  refine (F.le k₂).storeL (by kernel_rfl) (by kernel_rfl) fun s₃ F₃ k₃ => ?_
  have hlive : (s.heap.get? pl).isSome = true := by obtain ⟨⟨_, o, ho, _⟩, _⟩ := hp; rw [ho]; rfl
  have hlive2 : (s.heap.get? ll).isSome = true := hp.2.live
  have hpL : pl ∉ mutA (envAt w 99 L₀) := fun h => by have := F.new _ h; rw [this] at hlive; cases hlive
  have hllL : ll ∉ mutA (envAt w 99 L₀) := fun h => by have := F.new _ h; rw [this] at hlive2; cases hlive2
  have hp₃ := hp.le F₃.kb.le
  have em1 := upd2 (x := "spot") (v := Value.int k tv) m1
  have em2 := upd2 (x := "spot") (v := Value.int k tv) m2
  have em3 : upd m "spot" (Value.int k tv) "spot" = some (.int k tv) := upd_self
  generalize upd m "spot" (Value.int k tv) = md at F₃ em1 em2 em3
  -- pool[1] = spot + 1
  refine wpAny_execs_cons (wpAny_Assign_Subscript ((Pe.add (Pe.loc F₃.view (R := fun h v => Rd h (.int k) v) (by kernel_rfl) em3 (fun h' l => Rd.int _ _)) (Pe.int 1 _ _)).use (KB.refl _ _) fun v s₄ k₄ r₄ => ?_))
  refine (Pe.loc (R := fun h v => v = .ref pl ∧ PoolAt h pl ll cs k) F₃.view (by kernel_rfl) em1 (fun h' l => ⟨rfl, hp₃.le l⟩)).use k₄ fun u s₅ k₅ r₅ => (Pe.int 1 _ _).use (KB.refl _ _) fun x s₆ k₆ r₆ => ?_
  obtain ⟨rfl, ⟨tk, hL⟩, hll⟩ := r₅ _ k₆.le
  obtain ⟨tx, rfl⟩ := Rd.int_iff.mp (r₆ _ (Le.refl _))
  obtain ⟨t4, rfl⟩ := Rd.int_iff.mp (r₄ _ (Le.refl _))
  refine wpAny_setItem_list hL (by omega) (by omega) (by simp) fun h' hL' hs' => ?_
  have hL'' : h'.IsList pl #[.ref ll, .int ((k : Int) + 1) t4] := by simpa using hL'
  obtain ⟨oL, hoL, hcL, _⟩ := id hL
  have kp : KB [pl] s₆ { s₆ with heap := h', toks := s₆.toks } := KB.one hoL (fun i n e => by rw [e] at hcL; simp at hcL) hs'
  have k36 : KB [] s₃ s₆ := (k₄.trans k₅).trans k₆
  have kall : KB [pl] s { s₆ with heap := h', toks := s₆.toks } := ((F₃.kb.trans k36).of_nil _).trans kp
  have e1 : ((k : Int) + 1) = ((k + 1 : Nat) : Int) := by omega
  have hp7 : PoolAt h' pl ll cs (k + 1) := ⟨⟨t4, by rw [← e1]; exact hL''⟩, hll.kb kp (by simpa using hne)⟩
  have V : View (envAt w 99 L₀) md { s₆ with heap := h', toks := s₆.toks } := (F₃.view.le k36.le).other kp (by simp only [List.mem_singleton]; rintro e; exact hpL (e ▸ List.mem_cons_self)) (fun x c hc => by simp only [List.mem_singleton]; rintro rfl; exact hpL (mem_mut_cell hc))
  have G7 : GG w h' := G.le (kB.drop kall (by intro a ha; simp only [List.mem_singleton] at ha; subst ha; exact hfr)).le
  show wpAny _ A' (execs _ _) _ _ { s₆ with heap := h', toks := s₆.toks }
  generalize hs7 : ({ s₆ with heap := h', toks := s₆.toks } : Shared) = s₇ at *
  have hh7 : s₇.heap = h' := by rw [← hs7]
  rw [← hh7] at hp7 G7
  have psp : ∀ {s'' : Shared} {pos : Pos}, KB [] s₇ s'' → Pe prog w A' (envAt w 99 L₀) s'' (.Name "spot" pos) (fun h v => Rd h (.int k) v) := fun k => Pe.loc (V.le k.le) (by kernel_rfl) em3 (fun h' l => Rd.int _ _)
  have pma : ∀ {s'' : Shared} {pos : Pos}, KB [] s₇ s'' → Pe prog w A' (envAt w 99 L₀) s'' (.Name "many" pos) (fun h v => Rd h (.int many) v) := fun k => Pe.loc (V.le k.le) (by kernel_rfl) em2 (fun h' l => Rd.int _ _)
  have pool0 : ∀ {s'' : Shared} {p1 p2 p3 : Pos} {k1 : Nat}, KB [] s₇ s'' → Pe prog w A' (envAt w 99 L₀) s'' (.Subscript (.Name "pool" p1) (.Constant (.int 0) k1 p2) p3) (fun h v => Ls h (cs.map .int) v) := fun {s''} {p1} {p2} {p3} {k1} kk E s₂ k₂ =>
    Subscript_ ((Pe.loc (R := fun h v => v = .ref pl ∧ PoolAt h pl ll cs (k + 1)) (V.le kk.le) (by kernel_rfl) em1 (fun h' l => ⟨rfl, hp7.le (kk.le.trans l)⟩)).use k₂ fun v s₃ k₃ r => (Pe.int 0 _ _).use (KB.refl _ _) fun u s₄ k₄ r₄ => by
      obtain ⟨rfl, ⟨tk, hL⟩, _⟩ := r _ k₄.le
      obtain ⟨tu, rfl⟩ := Rd.int_iff.mp (r₄ _ (Le.refl _))
      exact tail_any hL.typeIs slot_list_getitem.lookup (wpAny_getItem_list hL (by omega) (by simp) (x := .ref ll) rfl ⟨k₃.trans k₄, fun h' l => ⟨ll, rfl, (r h' (k₄.le.trans l)).2.2⟩⟩) (by with_unfolding_all rfl))
  have fmod_ok : ∀ a : Int, 0 ≤ a.fmod many ∧ a.fmod many < many := fun a => ⟨Int.fmod_nonneg_of_pos a hm, Int.fmod_lt_of_pos a hm⟩
  refine wpAny_execs_cons (S.ite (b := decide ((k : Int) < ((cs.map Dt.int).length : Int))) (Pt.cmp (Pe.lt_ (psp (KB.refl _ _)) (Pe.lenL V G7 (by kernel_rfl) (pool0 (KB.refl _ _)) (by rw [List.length_map]; omega)))) fun s₈ k₈ => ?_)
  by_cases hlt : (k : Int) < ((cs.map Dt.int).length : Int)
  · rw [if_pos (by simpa using hlt)]
    rw [List.length_map] at hlt
    have hc : cs[k]? = some cs[k] := List.getElem?_eq_getElem (by omega)
    refine wpAny_execs_cons (S.ret (Pe.mod (Pe.abs (V.le k₈.le) (G7.le k₈.le) (by kernel_rfl) (Pe.lidx (k := k) (d := .int cs[k]) (pool0 k₈) (psp k₈) (by omega) (by rw [Int.toNat_natCast, List.getElem?_map, hc]; rfl) (by rw [List.length_map]; omega))) (pma k₈) (by omega)) fun v s₉ k₉ r => ?_)
    obtain ⟨t', rfl⟩ := Rd.int_iff.mp (r _ (Le.refl _))
    exact ⟨kall.trans ((k₈.trans k₉).of_nil _), hp7.le (k₈.trans k₉).le, _, _, rfl, fmod_ok _⟩
  · rw [if_neg (by simpa using hlt)]
    refine wpAny_execs_nil ?_
    refine wpAny_execs_cons (S.ret (Pe.mod (Pe.add (Pe.add (Pe.mul (Pe.int 3 _ _) (psp k₈) (.of_left (by decide))) (Pe.fdiv (psp k₈) (Pe.int 4 _ _) (by decide) (PyProof.noPylong_of_log2 (by decide +kernel)))) (Pe.int 1 _ _)) (pma k₈) (by omega)) fun v s₉ k₉ r => ?_)
    obtain ⟨t', rfl⟩ := Rd.int_iff.mp (r _ (Le.refl _))
    exact ⟨kall.trans ((k₈.trans k₉).of_nil _), hp7.le (k₈.trans k₉).le, _, _, rfl, fmod_ok _⟩
end
end Mine
end


-- F11
section
set_option maxHeartbeats 2000000
set_option autoImplicit false
namespace Mine
section
variable {prog : Program} {w : World} {M : Model} {A : Around} {env : Env} {s₀ sB s s₁ s' : Shared} {m : Str → Option Value} {E : Value → Shared → Prop} {n : Nat}

theorem KB.absorb {X Y : List Addr} (k : KB X s s₁) (k' : KB Y s₁ s') (h : ∀ a ∈ Y, a ∈ X ∨ s.heap.get? a = none) : KB X s s' := by
  refine ⟨?_, fun b o hb e => k'.keep b o (fun hy => ?_) (k.keep b o hb e), fun b i n e => k'.tup b i n (k.tup b i n e)⟩
  · obtain ⟨h, tk, rfl⟩ := k.same
    obtain ⟨h', tk', rfl⟩ := k'.same
    exact ⟨h', tk', rfl⟩
  · rcases h b hy with hx | hn
    · exact hb hx
    · rw [hn] at e; cases e
/-- a frame, seen from an earlier base -/
theorem Frm.base (F : Frm s env m s₁) (k : KB [] sB s) : Frm sB env m s₁ :=
  ⟨k.trans F.kb, F.view, fun a ha => unborn_le k.le (F.new a ha), F.off, F.has, F.inj⟩

/-- a draw from the pool -/
theorem draw_eval {np pos : Pos} {e f : Expr} {pl ll : Addr} {cs : List Int} {k : Nat} {many : Int} {Q : Value → Shared → Prop} (V : View env m s) (ok : AOk A (n + 1)) (G : GG w sB.heap) (kB : KB [] sB s) (hfr : sB.heap.get? pl = none)
    (hp : PoolAt s.heap pl ll cs k) (hne : ll ≠ pl) (hm : 0 < many) (hk : k < 1000) (hcs : cs.length < 1000) (hl : env.kindOf "_law_draw" = some .globalImplicit)
    (x : Pe prog w A env s e (fun h v => v = .ref pl)) (y : Pe prog w A env s f (fun h v => Rd h (.int many) v))
    (h : ∀ (r : Nat) (t : Tok) (s' : Shared), KB [pl] s s' → PoolAt s'.heap pl ll cs (k + 1) → (r : Int) < many → Q (.int r t) s')
    (he : starEach [e, f] env = (false, eval e env) :: starEach [f] env := by rfl) (hf : starEach [f] env = (false, eval f env) :: starEach [] env := by rfl) :
    wpAny (model prog w) A (eval (.Call (.Name "_law_draw" np) [e, f] [] pos) env) Q E s :=
  Call_ (V.global_ (G.le kB.le) hl (by kernel_rfl) (callWith_def (def99 w).hdat (wpAny_mono (PeA.two x y he hf E s pos (KB.refl _ _)) (fun vs s₂ h₂ => by
    obtain ⟨k₂, r₂⟩ := h₂
    obtain ⟨v, u, rfl, rfl, ru⟩ := r₂ _ (Le.refl _)
    obtain ⟨t, rfl⟩ := Rd.int_iff.mp ru
    refine ⟨(G.le (kB.trans k₂).le).1 _ _ (def99 w).ho, wpAny_mono (draw_spec ok G (kB.trans k₂) hfr (hp.le k₂.le) hne hm hk hcs) (fun v s₃ h₃ => ?_) fun _ _ z => z⟩
    obtain ⟨k₃, hp₃, r, t', rfl, r0, r1⟩ := h₃
    obtain ⟨r, rfl⟩ : ∃ j : Nat, r = j := ⟨r.toNat, by omega⟩
    exact h r t' s₃ ((k₂.of_nil _).trans k₃) hp₃ r1) fun _ _ z => z) he) (by decide))

/-- a loop whose source changes things -/
theorem S.forI {target iter : Expr} {body : List Stmt} {pos : Pos} {Q : Flow → Shared → Prop} (X : List Addr)
    (h : ∀ E, wpAny (model prog w) A (eval iter env) (fun x s₂ => wpAny (model prog w) A (pyIter x) (fun it s₃ => ∃ (n : Nat) (P : Nat → Heap → Value → Prop) (I : Addr) (wr fp : List Addr) (St : Nat → Heap → Prop) (J : Nat → Shared → Prop),
      it = .ref I ∧ It prog w A target I wr fp n P St ∧ St 0 s₃.heap ∧ J 0 s₃ ∧ (∀ b ∈ fp, b ∉ X) ∧ (∀ i s₁ s₂, J i s₁ → KB wr s₁ s₂ → J i s₂) ∧
      (∀ i s₁ v, i < n → J i s₁ → P i s₁.heap v → ∀ E' : Value → Shared → Prop, wpAny (model prog w) A (PySem.assign target env v) (fun _ s₂ => wpAny (model prog w) A (execs body env) (fun f s₃ => match f with
        | .next | .cont => J (i + 1) s₃ ∧ KB X s₁ s₃
        | .brk => False
        | .ret u => Q (.ret u) s₃) E' s₂) E' s₁) ∧
      (∀ s₁, J n s₁ → Q .next s₁)) E s₂) E s)
    (hs : ∀ x, foldedSetIterable iter env x = pure x := by intro _; rfl) : wpAny (model prog w) A (exec (.For target iter body [] pos) env) Q E s := by
  refine wpAny_For (wpAny_mono (h E) (fun x s₁ h₁ => wpAny_mono h₁ (fun it s₂ h₂ => ?_) fun _ _ z => z) fun _ _ z => z) hs
  obtain ⟨n, P, I, wr, fp, St, J, rfl, T, st, h0, hfX, hst, turn, fin⟩ := h₂
  refine codeAny_forLoop_any (fun k s' => ∃ i, i ≤ n ∧ k = n - i ∧ J i s' ∧ St i s'.heap) ?_ n ⟨0, Nat.zero_le _, rfl, h0, st⟩
  rintro k s' ⟨i, hi, rfl, hJ, hSt⟩
  rcases Nat.lt_or_ge i n with hlt | hge
  · refine wpAny_mono (T.next i s' (fun v s₂' => J i s₂' ∧ St (i + 1) s₂'.heap ∧ P i s₂'.heap v) _ hlt hSt fun v s₂' st' k' hP => ⟨hst i _ _ hJ k', st', hP⟩) (fun r s₁' h₁' => ?_) fun _ _ z => z
    cases r with
    | none => exact h₁'.elim
    | some v =>
      refine wpAny_mono h₁' (fun _ s₂' h₂' => ?_) fun _ _ z => z
      obtain ⟨hJ', st', hP⟩ := h₂'
      refine wpAny_mono (turn i s₂' v hlt hJ' hP _) (fun _ s₃ h₃ => wpAny_mono h₃ (fun f s₄ h₄ => ?_) fun _ _ z => z) fun _ _ z => z
      have nx : J (i + 1) s₄ ∧ KB X s₂' s₄ → ∃ m, m < n - i ∧ ∃ i', i' ≤ n ∧ m = n - i' ∧ J i' s₄ ∧ St i' s₄.heap := fun h =>
        ⟨n - (i + 1), by omega, i + 1, hlt, rfl, h.1, T.frame _ _ _ st' (fun b hb o e => h.2.keep b o (hfX b hb) e) h.2.kt⟩
      cases f with
      | next => exact nx h₄
      | cont => exact nx h₄
      | brk => exact h₄.elim
      | ret u => exact h₄
  · have hin : i = n := Nat.le_antisymm hi hge
    subst hin
    refine wpAny_mono (T.done s' (fun s₁' => J i s₁') _ hSt fun s₁' k' => hst i _ _ hJ k') (fun r s₁' h₁' => ?_) fun _ _ z => z
    obtain ⟨rfl, hJ'⟩ := h₁'
    exact wpAny_execs_nil (fin _ hJ')

/-- `<list at l>.pop(i)`; the place is drawn -/
theorem pop_eval {o i : Expr} {apos pos : Pos} {l : Addr} {ds : List Dt} {Q : Value → Shared → Prop} (x : Pe prog w A env s o (fun h v => v = .ref l)) (hl : LT s.heap l ds) (hs : ds.length < 1000)
    (y : ∀ (s₂ : Shared) (Q' : Value → Shared → Prop), KB [] s s₂ → (∀ (r : Nat) (t : Tok) (s₃ : Shared), LT s₃.heap l ds → r < ds.length → (∀ v s₄ d, ds[r]? = some d → Rd s₄.heap d v → KB [l] s₃ s₄ → LT s₄.heap l (ds.eraseIdx r) → Q v s₄) → Q' (.int r t) s₃) → wpAny (model prog w) A (eval i env) Q' E s₂)
    (hbase : attributeBase o "pop" env (eval o env) = eval o env := by with_unfolding_all rfl) (hline : (apos.endLine == pos.line) = true := by with_unfolding_all rfl)
    (htrees : backTo pos (starEach [i] env) = [(false, eval i env)] := by with_unfolding_all rfl) :
    wpAny (model prog w) A (eval (.Call (.Attribute o "pop" apos) [i] [] pos) env) Q E s :=
  wpAny_Call_method1_late hbase hline htrees (x.use (KB.refl _ _) fun v s₂ k₂ r => by
    obtain rfl := r _ (Le.refl _)
    have hl₂ := hl.le k₂.le
    obtain ⟨items, n', ho, hr⟩ := id hl₂
    refine ⟨"list", "list.pop", PySem.F.plainAttrs_list, PySem.F.slot_list_pop, PySem.F.type_list_pop, (lst_of ho).typeIs, fun b e' => by cases e'; exact ⟨_, ho, rfl⟩, ?_⟩
    refine PySem.P.pop_at_list (y s₂ _ k₂ fun r t s₃ hl₃ hr₃ hq => ?_)
    obtain ⟨items, n', ho, hr⟩ := hl₃
    have hlen := hr.length
    obtain ⟨d, hd⟩ : ∃ d, ds[r]? = some d := ⟨_, List.getElem?_eq_getElem hr₃⟩
    obtain ⟨v, hv, rv⟩ := hr.get hd
    refine ⟨items.toArray, n', r, t, r, v, by simp; exact line_of_lt (by omega), rfl, ho, ?_, seqIndex_of (by omega) (by simp; omega), by simpa using hv, ?_⟩
    · unfold Builtin.List.listFitsIndex; simp; omega
    have kb := KB.updList (f := fun xs => xs.eraseIdxIfInBounds r) ho s₃.toks
    refine hq v _ d hd (rv.kb kb) kb ?_
    have hu := PySem.IsL.update (show PySem.IsL s₃.heap l items.toArray n' from ho) (fun xs => xs.eraseIdxIfInBounds r)
    have e2 : items.toArray.eraseIdxIfInBounds r = (items.eraseIdx r).toArray := by simp [Array.eraseIdxIfInBounds]; exact fun h => (List.eraseIdx_of_length_le h).symm
    rw [e2] at hu
    exact ⟨items.eraseIdx r, _, hu, (hr.eraseIdx r).kb kb⟩)
end
end Mine
end


-- F12
section
set_option maxHeartbeats 2000000
set_option autoImplicit false
namespace Mine

/-! ### the paths that `_law_problem` draws from -/
def beside (N : List Int) (x o : Int) : List Path := if o = x then [] else [x, o, 0] :: (N.filter fun t => !decide (t ∈ [x, o])).map fun t => [x, o, t, 0]
def leftK (N : List Int) (x : Int) (k : Nat) : List Path := [x, 0] :: (N.take k).flatMap (beside N x)
def leftAll (N : List Int) (x : Int) : List Path := leftK N x N.length
theorem leftK_succ {N : List Int} {x o : Int} {k : Nat} (h : N[k]? = some o) : leftK N x (k + 1) = leftK N x k ++ beside N x o := by
  unfold leftK
  rw [List.take_add_one, List.flatMap_append, h]
  simp

section
variable {prog : Program} {w : World} {M : Model} {A : Around} {env : Env} {s₀ sB s s₁ s' : Shared} {m : Str → Option Value} {E : Value → Shared → Prop} {n : Nat}

def isI (a : Int) (v : Value) : Bool := match v with | .int i _ => i == a | _ => false
theorem any_isI (a : Int) : ∀ {vs : List Value} {p : Path}, IntsAre vs p → vs.any (isI a) = decide (a ∈ p)
  | _, _, .nil => by simp
  | _, _, .cons i t x => by
    rw [List.any_cons, any_isI a x, Bool.eq_iff_iff]
    simp only [isI, Bool.or_eq_true, decide_eq_true_eq, List.mem_cons, beq_iff_eq]
    exact ⟨fun h => h.imp Eq.symm id, fun h => h.imp Eq.symm id⟩
theorem Pe.ninI {e c : Expr} {pos : Pos} {a : Int} {p : Path} (ok : AOk A n) (x : Pe prog w A env s e (fun h v => Rd h (.int a) v)) (y : Pe prog w A env s c (fun h v => Rd h (pth p) v))
    (hm : behindInMarks .NotIn c = false := by with_unfolding_all rfl) :
    Pe prog w A env s (.Compare e [.NotIn] [c] pos) (fun h v => Rd h (.bool (!decide (a ∈ p))) v) := fun E s₁ ks =>
  wpAny_Compare1 (x.use ks fun v s₂ k₂ r => y.use (ks.trans k₂) fun u s₃ k₃ r₃ => by
    obtain ⟨b, items, n', rfl, ho, hr⟩ := Rd.pth_iff.mp (r₃ _ (Le.refl _))
    obtain ⟨t, rfl⟩ := Rd.int_iff.mp (r _ k₃.le)
    refine SeqAt.notIn_tupleAt (isI a) (isT ho) (fun y hy => ?_) ⟨k₂.trans k₃, fun h' l => ?_⟩
    · obtain ⟨i, t', rfl⟩ := PyProof.Rows.IntsAre.all hr y (by simpa using hy)
      exact SeqAt.EqAt.int_int _ _ _ _
    · have : items.any (isI a) = decide (a ∈ p) := by rw [← any_isI a hr]; simp
      rw [this]; exact Rd.boolv _) hm
theorem Pe.tuple1 {e : Expr} {ds : List Dt} {np pos : Pos} (V : View env m s) (G : GG w s.heap) (hl : env.kindOf "tuple" = some .globalImplicit) (x : Pe prog w A env s e (fun h v => Ls h ds v)) (hs : ds.length < 100000)
    (he : starEach [e] env = (false, eval e env) :: starEach [] env := by rfl) :
    Pe prog w A env s (.Call (.Name "tuple" np) [e] [] pos) (fun h v => Rd h (.tup ds) v) :=
  Pe.callT V G hl (btuple w) (by boot_by_name) (by decide) (PeA.one x he) (fun E s₁ vs k hv => by
    obtain ⟨v, rfl, l, rfl, items, n', ho, hr⟩ := hv
    have hlen := hr.length
    refine call_tuple_list (lst_of ho) (fun h' hk => ?_) (by simp; exact line_of_lt (by omega))
    have kb : KB [] s₁ { s₁ with heap := h'.push (tupObj items.toArray 0), toks := s₁.toks } := KB.of_le fun b o e => Heap.get?_push_of_some _ (hk b o e)
    refine ⟨kb, fun h'' l' => Rd.tup_iff.mpr ⟨_, items, 0, rfl, l' _ _ (Heap.get?_push_size _ rfl), (hr.kb kb).le l'⟩⟩) (he := he)
theorem RdL.intsTup {h : Heap} {p : Path} {vs : List Value} : RdL h (p.map .int) vs ↔ IntsAre vs p := ⟨RdL.ints, RdL.of_ints⟩

/-- `found[node] = tuple(..)` -/
theorem S.setPr {o i e : Expr} {pos spos : Pos} {P : Prob} {x : Int} {ps : List Path} {d : Addr} {kvs : List (Int × Value)} {Q : Flow → Shared → Prop} (X : Pe prog w A env s e (fun h v => Rd h (pths ps) v)) (Y : Pe prog w A env s o (fun h v => v = .ref d))
    (Z : Pe prog w A env s i (fun h v => Rd h (.int x) v)) (hd : s.heap.DictOf (intKind prog w) d kvs) (hP : PrL s.heap P kvs) (hx : x ∉ P.map (·.1)) (hs : P.length < 1000)
    (h : ∀ s' kvs', KB [d] s s' → s'.heap.DictOf (intKind prog w) d kvs' → PrL s'.heap (P ++ [(x, ps)]) kvs' → Q .next s')
    (hsw : swapsWith e (some (.Subscript o i pos)) spos.line env = pure false := by rfl) : wpAny (model prog w) A (exec (.Assign [.Subscript o i pos] e spos) env) Q E s :=
  wpAny_Assign_Subscript (X.use (KB.refl _ _) fun v s₂ k₂ r => Y.use k₂ fun u s₃ k₃ r₃ => Z.use (k₂.trans k₃) fun t s₄ k₄ r₄ => by
    obtain rfl := r₃ _ (Le.refl _)
    have rv := r _ (k₃.trans k₄).le
    obtain ⟨tx, rfl⟩ := Rd.int_iff.mp (r₄ _ (Le.refl _))
    have k24 := (k₂.trans k₃).trans k₄
    have hd₄ := hd.keep k24.le
    have hP₄ := hP.le k24.le
    have hkeys := hP₄.keys
    have hlen : kvs.length = P.length := by have := congrArg List.length hkeys; simpa using this
    refine wpAny_setItem_pairs (knd := intKind prog w) (k := x) (by simp [intKind, Value.isInt]) hd₄ (fun h' hd' hs' => ?_) (line_of_lt (by omega))
    obtain ⟨od, es, ep, hod, hdd⟩ := id hd₄
    have kd : KB [d] s₄ { s₄ with heap := h', toks := s₄.toks + 1 } := KB.one hod (fun i n e => by rw [e] at hdd; cases hdd.2.1) hs'
    have hnew : stored kvs x v = kvs ++ [(x, v)] := by
      unfold stored
      rw [if_neg]
      simp only [List.any_eq_true, decide_eq_true_eq, not_exists, not_and]
      intro kv hkv e
      exact hx (by rw [← hkeys, ← e]; exact List.mem_map_of_mem hkv)
    rw [hnew] at hd'
    refine h _ _ ((k24.of_nil _).trans kd) hd' ?_
    have rv' : Rd h' (pths ps) v := rv.kb kd
    clear hkeys hlen hnew hd' hd hP hx hs hd₄ h
    have key : ∀ {P : Prob} {kvs : List (Int × Value)}, PrL s₄.heap P kvs → PrL h' (P ++ [(x, ps)]) (kvs ++ [(x, v)]) := by
      intro P
      induction P with
      | nil => intro kvs hp; cases hp; exact ⟨v, [], rfl, rv', rfl⟩
      | cons p P ih =>
        intro kvs hp
        obtain ⟨u, r', rfl, h1, h2⟩ := hp
        exact ⟨u, r' ++ [(x, v)], rfl, h1.kb kd, ih h2⟩
    exact key hP₄) hsw
end
end Mine
end


-- F13
section
set_option maxHeartbeats 2000000
set_option autoImplicit false
namespace Mine
section
variable {prog : Program} {w : World} {M : Model} {A : Around} {env : Env} {s₀ sB s s₁ s' : Shared} {m : Str → Option Value} {E : Value → Shared → Prop} {n : Nat}

theorem PrL.kt {h h' : Heap} (k : KT h h') : ∀ {P : Prob} {kvs : List (Int × Value)}, PrL h P kvs → PrL h' P kvs
  | [], _, x => x
  | p :: P, _, x => by
    obtain ⟨v, r, e, x1, x2⟩ := x
    exact ⟨v, r, e, Rd.kt k _ _ x1, PrL.kt k x2⟩
theorem dictOf_kb {X : List Addr} {s s' : Shared} {d : Addr} {kvs : List (Int × Value)} (x : s.heap.DictOf (intKind prog w) d kvs) (k : KB X s s') (hd : d ∉ X) : s'.heap.DictOf (intKind prog w) d kvs := by
  obtain ⟨o, es, ep, ho, r⟩ := x
  exact ⟨o, es, ep, k.keep _ _ hd ho, r⟩
theorem dictOf_live {h : Heap} {d : Addr} {kvs : List (Int × Value)} (x : h.DictOf (intKind prog w) d kvs) : (h.get? d).isSome = true := by
  obtain ⟨o, es, ep, ho, r⟩ := x; rw [ho]; rfl
theorem LT.ne_dictI {h : Heap} {l d : Addr} {ds : List Dt} {kvs : List (Int × Value)} (x : LT h l ds) (y : h.DictOf (intKind prog w) d kvs) : l ≠ d := by
  rintro rfl
  obtain ⟨_, _, ho, _⟩ := x
  obtain ⟨o, es, ep, ho', hd⟩ := y
  rw [ho] at ho'; cases ho'; cases hd.2.1

/-- `x, y = e, f`, to two locals; `e` may change things -/
theorem S.assign2I {a b : Str} {k k' : Nat} {e f : Expr} {pa pb tp tp' pos : Pos} {T : Shared → Value → Prop} {S : Shared → Heap → Value → Prop} {Q : Flow → Shared → Prop} (hh : A.handled = none) (hla : env.kindOf a = some .local) (hca : env.cells.lookup a = none) (hlb : env.kindOf b = some .local) (hcb : env.cells.lookup b = none)
    (x : ∀ E, wpAny (model prog w) A (eval e env) (fun v s₁ => T s₁ v) E s) (F : ∀ s₁ v, T s₁ v → Frm s₀ env m s₁) (y : ∀ s₁ v, T s₁ v → Pe prog w A env s₁ f (S s₁))
    (h : ∀ v₁ v₂ s₁ s₂ s', T s₁ v₁ → KB [] s₁ s₂ → S s₁ s₂.heap v₂ → KB [env.locals] s₂ s' → Frm s₀ env (upd (upd m b v₂) a v₁) s' → Q .next s')
    (he : starEach [e, f] env = (false, eval e env) :: starEach [f] env := by rfl) (hf : starEach [f] env = (false, eval f env) :: starEach [] env := by rfl)
    (hs : swapsWithSole [.Tuple [.Name a pa, .Name b pb] k tp] (.Tuple [e, f] k' tp') pos.line env = pure false := by rfl)
    (hw : swappedStores [.Tuple [.Name a pa, .Name b pb] k tp] (.Tuple [e, f] k' tp') env = pure (some [a, b]) := by rfl) :
    wpAny (model prog w) A (exec (.Assign [.Tuple [.Name a pa, .Name b pb] k tp] (.Tuple [e, f] k' tp') pos) env) Q E s := by
  refine Assign_Tuple_swapped (wpAny_Tuple_spliced (args_cons (wpAny_mono (x E) (fun v₁ s₁ hT => ?_) fun _ _ z => z) he)) hs hw
  refine args_cons ((y s₁ v₁ hT).use (KB.refl _ _) fun v₂ s₂ k₂ r => args_nil ?_) hf
  refine ⟨line_of_lt (by simp), ?_⟩
  have kp := KB.push s₂ (tupObj #[v₁, v₂] 0) s₂.toks
  have hsz : ([a, b] : List Str).length = (#[v₁, v₂] : Array Value).size := rfl
  rw [hsz]
  refine unpackItems_tuple hh (tup_of (n := 0) (Heap.get?_push_size _ rfl)) fun h' hx => ?_
  have kb : KB [] s₂ { s₂ with heap := h', toks := s₂.toks } := KB.of_le fun b o e => hx b o (Nat.ne_of_lt (Heap.lt_size (kp.le _ _ e))) (kp.le _ _ e)
  show wpAny _ A (assignInOrder [fun v => bindName env b v, fun v => bindName env a v] [_, _]) _ _ _
  refine assignInOrder_cons (bindName_ (((F s₁ v₁ hT).le (k₂.trans kb)).storeL hlb hcb fun s₃ F₃ k₃ => ?_))
  refine assignInOrder_cons (bindName_ (F₃.storeL hla hca fun s₄ F₄ k₄ => ?_))
  exact assignInOrder_nil (h _ _ s₁ _ _ hT (k₂.trans kb) (r _ kb.le) (k₃.trans k₄) F₄)

/-- `l[:2 + r]`, r drawn -/
theorem lupto_eval {e i : Expr} {p pos : Pos} {ds : List Dt} {Q : Value → Shared → Prop} (x : Pe prog w A env s e (fun h v => LN s.heap h ds v)) (hs : ds.length < 1000)
    (y : ∀ s₁ (Q' : Value → Shared → Prop), KB [] s s₁ → (∀ (b : Nat) (t : Tok) (s₂ : Shared), (∀ l, s.heap.get? l = none → LT s₁.heap l ds → LT s₂.heap l ds) → (∀ v s₃, KB [] s₂ s₃ → LN s₂.heap s₃.heap (ds.take b) v → Q v s₃) → Q' (.int b t) s₂) → wpAny (model prog w) A (eval i env) Q' E s₁) :
    wpAny (model prog w) A (eval (.Subscript e (.Slice none (some i) none p) pos) env) Q E s :=
  Subscript_ (x.use (KB.refl _ _) fun v s₂ k₂ r => wpAny_Slice (wpAny_evalPart_none (wpAny_evalPart_some (y s₂ _ k₂ fun k tk s₃ hkeep hQ => wpAny_evalPart_none (by
    obtain ⟨t, rfl, hfr, hlt⟩ := r _ (Le.refl _)
    obtain ⟨items, n, ho, hr⟩ := hkeep t hfr hlt
    have hlen := hr.length
    have ho' : (s₃.heap.push { cls := .type "slice", data := .fields #[.none, .int k tk, .none] }).get? t = some (lstObj items.toArray n) := Heap.get?_push_of_some _ ho
    refine tail_any (T := "list") (s := { s₃ with heap := s₃.heap.push { cls := .type "slice", data := .fields #[.none, .int k tk, .none] } }) (lst_of ho').typeIs slot_list_getitem.lookup
      (wpAny_getItem_list_slice (lst_of ho') (Heap.IsSliceOf.new ..) .none (.int _ _) .none (by simp) ?_ (by simp; exact line_of_lt (by omega))) rfl
    refine hQ _ _ ((KB.push s₃ _ s₃.toks).trans (KB.push _ _ _)) ⟨_, rfl, fresh_ge (Le.push _ _) (Nat.le_refl _), items.take k, 0, ?_, (hr.take k).le ((Le.push _ _).trans (Le.push _ _))⟩
    rw [slicePick_upto']
    have := Heap.get?_push_size (s₃.heap.push { cls := .type "slice", data := .fields #[.none, .int k tk, .none] }) (o := lstObj (items.take k).toArray 0) rfl
    simpa using this)))))

theorem callB_eval {f : Str} {id : String} {np pos : Pos} {e : Expr} {rest : List Expr} {Q : Value → Shared → Prop}
    (V : View env m s) (G : GG w s.heap) (hl : env.kindOf f = some .globalImplicit) (hn : nsIn (KK w) mainGlobals f = some none) (hb : bootBuiltins f = some (.builtin id)) (hnn : f ≠ "__name__")
    (h : wpAny M A (spliced (backTo pos (starEach (e :: rest) env))) (fun vs s₁ => wpAny M A (call (.builtin id) vs) Q E s₁) E s)
    (hd : (f == ("__debug__" : Str)) = false := by decide)
    (he : starEach (e :: rest) env = (false, eval e env) :: starEach rest env := by rfl) (hplain : (backTo pos (starEach rest env)).any (·.1) = false := by rfl) :
    wpAny M A (eval (.Call (.Name f np) (e :: rest) [] pos) env) Q E s :=
  Call_ (V.builtin_ G hl hn hb hnn (PyProof.Rows.callWith_builtin1 h he hplain) hd)
theorem callT_eval {f : Str} {T : String} {np pos : Pos} {e : Expr} {rest : List Expr} {Q : Value → Shared → Prop}
    (V : View env m s) (G : GG w s.heap) (hl : env.kindOf f = some .globalImplicit) (hn : nsIn (KK w) mainGlobals f = some none) (hb : bootBuiltins f = some (.type T)) (hnn : f ≠ "__name__")
    (h : wpAny M A (spliced (backTo pos (starEach (e :: rest) env))) (fun vs s₁ => wpAny M A (call (.type T) vs) Q E s₁) E s)
    (hd : (f == ("__debug__" : Str)) = false := by decide)
    (he : starEach (e :: rest) env = (false, eval e env) :: starEach rest env := by rfl) (hplain : (backTo pos (starEach rest env)).any (·.1) = false := by rfl) :
    wpAny M A (eval (.Call (.Name f np) (e :: rest) [] pos) env) Q E s :=
  Call_ (V.builtin_ G hl hn hb hnn (PyProof.Rows.callWith_type1 h he hplain) hd)
/-- `range(k)`, then the iterator -/
theorem range_iter {np pos : Pos} {e : Expr} {Q : Value → Shared → Prop} (ok : AOk A n) (V : View env m s) (G : GG w s.heap) (hl : env.kindOf "range" = some .globalImplicit)
    (h : wpAny (model prog w) A (eval e env) (fun v s₁ => ∃ (k : Nat) (t : Tok), v = .int k t ∧ k < 1000 ∧ ∀ s' I wr fp St, KB [] s₁ s' → (∀ target : Expr, It prog w A target I wr fp k (fun i h v => Rd h (.int i) v) St) → St 0 s'.heap → (∀ a ∈ wr, s₁.heap.get? a = none) → (∀ a ∈ fp, s₁.heap.get? a = none) → (∀ a ∈ wr, (s'.heap.get? a).isSome = true) → (∀ a ∈ fp, (s'.heap.get? a).isSome = true) → Q (.ref I) s') E s)
    (he : starEach [e] env = (false, eval e env) :: starEach [] env := by rfl) (hplain : (backTo pos (starEach [] env)).any (·.1) = false := by rfl) :
    wpAny (model prog w) A (eval (.Call (.Name "range" np) [e] [] pos) env) (fun x s₂ => wpAny (model prog w) A (pyIter x) Q E s₂) E s := by
  refine callT_eval V G hl (brange w) (by boot_by_name) (by decide) (args_cons (wpAny_mono h (fun v s₁ h₁ => args_nil ?_) fun _ _ z => z) he) (he := he) (hplain := hplain)
  obtain ⟨k, t, rfl, hk, hQ⟩ := h₁
  refine call_range_1 ?_
  have hr : IsRange (s₁.heap.push { cls := .type "range", data := .fields #[.int 0 s₁.toks, .int (k : Int) t, .int 1 (s₁.toks + 1)] }) s₁.heap.objs.size 0 k 1 s₁.toks t (s₁.toks + 1) := Heap.get?_push_size _ rfl
  have hsz : Builtin.Range.rangeSize 0 (k : Int) 1 = (k : Int) := by rw [rangeSize_one]; split <;> omega
  refine wpAny_pyIter_range (s := { s₁ with heap := s₁.heap.push { cls := .type "range", data := .fields #[.int 0 s₁.toks, .int (k : Int) t, .int 1 (s₁.toks + 1)] }, toks := s₁.toks + 1 + 1 }) hr (small_one (by omega) (by omega) (by omega) (by omega)) ?_
  rw [hsz]
  have k1 := KB.push s₁ { cls := .type "range", data := .fields #[.int 0 s₁.toks, .int (k : Int) t, .int 1 (s₁.toks + 1)] } (s₁.toks + 1 + 1)
  have k2 := KB.push { s₁ with heap := s₁.heap.push { cls := .type "range", data := .fields #[.int 0 s₁.toks, .int (k : Int) t, .int 1 (s₁.toks + 1)] }, toks := s₁.toks + 1 + 1 } { cls := .type "range_iterator", data := .fields #[rawInt 0, rawInt (k : Int), rawInt 1] } (s₁.toks + 1 + 1)
  have T := fun target : Expr => It.rng (tg := target) (prog := prog) (w := w) (A := A) (I := (s₁.heap.push { cls := .type "range", data := .fields #[.int 0 s₁.toks, .int (k : Int) t, .int 1 (s₁.toks + 1)] }).objs.size) (a := 0) (n := k) ok.handled
  have e0 : ∀ i : Nat, (0 : Int) + (i : Int) = (i : Int) := fun i => by omega
  simp only [e0] at T
  refine hQ _ _ [_] [_] _ (k1.trans k2) T ?_ ?_ ?_ ?_ ?_
  · have e1 : ((0 : Nat) : Int) = 0 := rfl
    have e2 : (k : Int) - ((0 : Nat) : Int) = (k : Int) := by omega
    show IsRangeIter (Heap.push _ _) _ ((0 : Nat) : Int) ((k : Int) - ((0 : Nat) : Int)) 1
    rw [e2]; exact Heap.get?_push_size _ rfl
  · intro a ha; simp only [List.mem_singleton] at ha; subst ha; exact fresh_ge (Le.push _ _) (Nat.le_refl _)
  · intro a ha; simp only [List.mem_singleton] at ha; subst ha; exact fresh_ge (Le.push _ _) (Nat.le_refl _)
  · intro a ha; simp only [List.mem_singleton] at ha; subst ha
    show ((Heap.push _ _).get? _).isSome = true
    rw [Heap.get?_push_size _ rfl]; rfl
  · intro a ha; simp only [List.mem_singleton] at ha; subst ha
    show ((Heap.push _ _).get? _).isSome = true
    rw [Heap.get?_push_size _ rfl]; rfl
/-- `<list at l>.append(e)`, where `e` changes things -/
theorem S.appendI {o e : Expr} {apos pos spos : Pos} {l : Addr} {ds : List Dt} {Q : Flow → Shared → Prop} (x : Pe prog w A env s o (fun h v => v = .ref l)) (hl : LT s.heap l ds)
    (y : ∀ (s₂ : Shared) (Q' : Value → Shared → Prop), KB [] s s₂ → (∀ u s₃ d, LT s₃.heap l ds → Rd s₃.heap d u → (∀ s', KB [l] s₃ s' → LT s'.heap l (ds ++ [d]) → Q .next s') → Q' u s₃) → wpAny (model prog w) A (eval e env) Q' E s₂) (hs : ds.length < 100000)
    (hbase : attributeBase o "append" env (eval o env) = eval o env := by with_unfolding_all rfl) (hline : (apos.endLine == pos.line) = true := by with_unfolding_all rfl)
    (htrees : backTo pos (starEach [e] env) = [(false, eval e env)] := by with_unfolding_all rfl)
    (hi : interactive env = false := by rfl) (hsw : swapsWith (.Call (.Attribute o "append" apos) [e] [] pos) none spos.line env = pure false := by rfl) :
    wpAny (model prog w) A (exec (.Expr (.Call (.Attribute o "append" apos) [e] [] pos) spos) env) Q E s :=
  wpAny_Expr (wpAny_Call_method1_late hbase hline htrees (x.use (KB.refl _ _) fun v s₂ k₂ r => by
    obtain rfl := r _ (Le.refl _)
    obtain ⟨items, n', ho, hr⟩ := hl.le k₂.le
    refine ⟨"list", "list.append", PySem.F.plainAttrs_list, PySem.F.slot_list_append, PySem.F.type_list_append, (lst_of ho).typeIs, fun b e' => by cases e'; exact ⟨_, ho, rfl⟩, ?_⟩
    refine PySem.P.append_list (y s₂ _ k₂ fun u s₃ d hl₃ hd hq => ?_)
    obtain ⟨items, n', ho', hr⟩ := hl₃
    have hlen := hr.length
    refine ⟨items.toArray, n', by simp; exact line_of_lt (by omega), ho', hq _ (KB.updList ho' _) ?_⟩
    have kb := KB.updList (f := fun xs => xs.push u) ho' s₃.toks
    have hu := PySem.IsL.update (show PySem.IsL s₃.heap l items.toArray n' from ho') (fun xs => xs.push u)
    have e2 : items.toArray.push u = (items ++ [u]).toArray := by simp
    rw [e2] at hu
    exact ⟨items ++ [u], _, hu, (hr.push hd).kb kb⟩)) hi hsw

def GoodN (N : List Int) : Prop := N = [1, 2] ∨ N = [1, 2, 3]
def GoodE (N : List Int) (x : Int × List Path) : Prop := (∀ p ∈ x.2, p ∈ leftAll N x.1) ∧ x.2.Nodup ∧ x.2.length ≤ 3
def GoodP (P : Prob) : Prop := ∃ N, GoodN N ∧ P.map (·.1) = N ∧ ∀ x ∈ P, GoodE N x

/-- what stands while `_law_problem` works -/
structure PB (prog : Program) (w : World) (s : Shared) (pl ll : Addr) (cs : List Int) (nl : Addr) (N : List Int) (D : Addr) (kvs : List (Int × Value)) (P : Prob) (k : Nat) (s' : Shared) : Prop where
  ks : KB [pl] s s'
  pool : PoolAt s'.heap pl ll cs k
  nodes : LT s'.heap nl (N.map .int)
  dict : s'.heap.DictOf (intKind prog w) D kvs
  prl : PrL s'.heap P kvs
def Apart (s : Shared) (pl ll nl D a : Addr) : Prop := a ≠ pl ∧ a ≠ ll ∧ a ≠ nl ∧ a ≠ D ∧ s.heap.get? a = none
theorem PB.kb {Y : List Addr} {sx sy : Shared} {pl ll : Addr} {cs : List Int} {nl : Addr} {N : List Int} {D : Addr} {kvs : List (Int × Value)} {P : Prob} {k : Nat} (x : PB prog w s pl ll cs nl N D kvs P k sx) (e : KB Y sx sy) (h : ∀ a ∈ Y, Apart s pl ll nl D a) :
    PB prog w s pl ll cs nl N D kvs P k sy :=
  ⟨x.ks.absorb e (fun a ha => .inr (h a ha).2.2.2.2), x.pool.kb e (fun ha => (h _ ha).1 rfl) (fun ha => (h _ ha).2.1 rfl), x.nodes.kb e (fun ha => (h _ ha).2.2.1 rfl), dictOf_kb x.dict e (fun ha => (h _ ha).2.2.2.1 rfl), x.prl.kt e.kt⟩
theorem PB.fresh {sx : Shared} {pl ll : Addr} {cs : List Int} {nl : Addr} {N : List Int} {D : Addr} {kvs : List (Int × Value)} {P : Prob} {k : Nat} (x : PB prog w s pl ll cs nl N D kvs P k sx) {a : Addr} (h : sx.heap.get? a = none) : Apart s pl ll nl D a := by
  have hp : a ≠ pl := by rintro rfl; obtain ⟨⟨_, o, ho, _⟩, _⟩ := x.pool; rw [h] at ho; cases ho
  refine ⟨hp, ?_, ?_, ?_, ?_⟩
  · rintro rfl; have := x.pool.2.live; rw [h] at this; cases this
  · rintro rfl; have := x.nodes.live; rw [h] at this; cases this
  · rintro rfl; have := dictOf_live x.dict; rw [h] at this; cases this
  · cases e : s.heap.get? a with
    | none => rfl
    | some o => rw [x.ks.keep a o (by simpa using hp) e] at h; cases h

theorem PB.draw {sx sy : Shared} {pl ll : Addr} {cs : List Int} {nl : Addr} {N : List Int} {D : Addr} {kvs : List (Int × Value)} {P : Prob} {k : Nat} (x : PB prog w s pl ll cs nl N D kvs P k sx) (e : KB [pl] sx sy) (hp : PoolAt sy.heap pl ll cs (k + 1)) (h1 : nl ≠ pl) (h2 : D ≠ pl) :
    PB prog w s pl ll cs nl N D kvs P (k + 1) sy :=
  ⟨x.ks.trans e, hp, x.nodes.kb e (by simpa using h1), dictOf_kb x.dict e (by simpa using h2), x.prl.kt e.kt⟩

theorem perm_erase {α : Type} : ∀ {l : List α} {r : Nat} {a : α}, l[r]? = some a → (a :: l.eraseIdx r).Perm l
  | [], _, _, h => by simp at h
  | b :: l, 0, a, h => by simp at h; subst h; simp
  | b :: l, r + 1, a, h => by
    have := perm_erase (l := l) (r := r) (a := a) (by simpa using h)
    rw [List.eraseIdx_cons_succ]
    exact (List.Perm.swap b a _).trans (this.cons b)
theorem map_erase {α β : Type} (f : α → β) : ∀ (l : List α) (r : Nat), (l.map f).eraseIdx r = (l.eraseIdx r).map f
  | [], _ => rfl
  | b :: l, 0 => rfl
  | b :: l, r + 1 => by rw [List.map_cons, List.eraseIdx_cons_succ, List.eraseIdx_cons_succ, List.map_cons, map_erase f l r]
theorem leftAll_nodup {N : List Int} {x : Int} (h : GoodN N) (hx : x ∈ N) : (leftAll N x).Nodup := by
  rcases h with rfl | rfl
  · simp at hx; rcases hx with rfl | rfl <;> decide
  · simp at hx; rcases hx with rfl | rfl | rfl <;> decide

theorem problem_spec {pl ll : Addr} {cs : List Int} {k : Nat} (ok : AOk A (n + 2)) (G : GG w sB.heap) (kB : KB [] sB s) (hfr : sB.heap.get? pl = none) (hp : PoolAt s.heap pl ll cs k) (hne : ll ≠ pl) (hk : k < 100) (hcs : cs.length < 1000) :
    wpAny (model prog w) A (call (.ref 104) [.ref pl]) (fun v s' => KB [pl] s s' ∧ (∀ d, v = .ref d → s.heap.get? d = none) ∧ ∃ P k', k' ≤ k + 20 ∧ PoolAt s'.heap pl ll cs k' ∧ PrAt prog w s'.heap P v ∧ GoodP P) E s := by
  refine enterQ2 (def104 w) (G.le kB.le) ok (by kernel_rfl) (fun L x hx => ?_) ?_
  · simp at hx; rcases hx with rfl; kernel_rfl
  intro L₀ s₁ A' E' m ok' F₁ hmm
  have m1 : m "pool" = some (.ref pl) := hmm ("pool", .ref pl) (by simp)
  have hcell : (envAt w 104 L₀).cells = [(("one" : Str), L₀ + 2), (("node" : Str), L₀ + 1)] := by kernel_rfl
  have hcn : (envAt w 104 L₀).cells.lookup ("node" : Str) = some (L₀ + 1) := by rw [hcell]; rfl
  have hco : (envAt w 104 L₀).cells.lookup ("one" : Str) = some (L₀ + 2) := by rw [hcell]; rfl
  have F := F₁.base kB
  have hlive : (s.heap.get? pl).isSome = true := by obtain ⟨⟨_, o, ho, _⟩, _⟩ := hp; rw [ho]; rfl
  have hlive2 : (s.heap.get? ll).isSome = true := hp.2.live
  have hpL : pl ∉ mutA (envAt w 104 L₀) := fun h => by have := F₁.new _ h; rw [this] at hlive; cases hlive
  have hllL : ll ∉ mutA (envAt w 104 L₀) := fun h => by have := F₁.new _ h; rw [this] at hlive2; cases hlive2
  have hnew : ∀ a ∈ mutA (envAt w 104 L₀), s.heap.get? a = none := F₁.new
  have G' : ∀ {s'' : Shared} {m' : Str → Option Value}, Frm sB (envAt w 104 L₀) m' s'' → GG w s''.heap := fun F' => G.le F'.kb.le
  have hp₁ := hp.le F₁.kb.le
  have pPl : ∀ {s'' : Shared} {m' : Str → Option Value} {pos : Pos}, Frm sB (envAt w 104 L₀) m' s'' → m' "pool" = some (.ref pl) → Pe prog w A' (envAt w 104 L₀) s'' (.Name "pool" pos) (fun h v => v = .ref pl) := by
    intro s'' m' pos F' e
    exact Pe.loc F'.view (by kernel_rfl) e (fun h' l => rfl)
  have plX : ∀ a ∈ [pl], a ∉ mutA (envAt w 104 L₀) ∧ sB.heap.get? a = none := by intro a ha; simp only [List.mem_singleton] at ha; subst ha; exact ⟨hpL, hfr⟩
  -- nodes, found = [1, 2, 3][:2 + draw], {}
  refine wpAny_execs_cons (S.assign2I (s₀ := sB) (m := m) (T := fun s₂ v => Frm sB (envAt w 104 L₀) m s₂ ∧ KB [pl] s s₂ ∧ PoolAt s₂.heap pl ll cs (k + 1) ∧ ∃ (N : List Int) (l : Addr), v = .ref l ∧ LT s₂.heap l (N.map .int) ∧ s.heap.get? l = none ∧ sB.heap.get? l = none ∧ l ∉ mutA (envAt w 104 L₀) ∧ l ≠ pl ∧ GoodN N)
    (S := fun s₂ h v => ∃ d, v = .ref d ∧ s₂.heap.get? d = none ∧ (d == sysModules) = false ∧ h.get? d = some dictObj) ok'.handled (by kernel_rfl) (by rw [hcell]; rfl) (by kernel_rfl) (by rw [hcell]; rfl) (fun E => ?_) (fun _ _ h => h.1) (fun s₂ v h => Pe.dictNew (G' h.1)) fun v₁ v₂ s₂ s₃ s₄ hT k₃ hS k₄ F₄ => ?_)
  · refine lupto_eval (ds := [.int 1, .int 2, .int 3]) (Pe.listNew (PeL.cons (Pe.int 1 _ _) (PeL.cons (Pe.int 2 _ _) (PeL.cons (Pe.int 3 _ _) PeL.nil))) (by decide)) (by decide) fun s₂ Q' k₂ hQ => ?_
    have F₂ := F.le k₂
    refine wpAny_BinOp ((Pe.int 2 _ _).use (KB.refl _ _) fun v s₃ k₃ r => ?_)
    obtain ⟨t2, rfl⟩ := Rd.int_iff.mp (r _ (Le.refl _))
    have F₃ := F₂.le k₃
    refine draw_eval (many := 2) F₃.view ok' G F₃.kb hfr (hp₁.le (k₂.trans k₃).le) hne (by decide) (by omega) hcs (by kernel_rfl) (pPl F₃ m1) (Pe.int 2 _ _) fun r t s₄ k₄ hp₄ hr => ?_
    refine wpAny_add_int ?_
    have F₄ := F₃.other k₄ plX
    have e1 : (2 : Int) + (r : Int) = ((2 + r : Nat) : Int) := by omega
    rw [e1]
    have kt : KB [] s₄ { s₄ with toks := s₄.toks + 1 } := (KB.refl _ _).toks _
    have hneL : ∀ l, s₁.heap.get? l = none → l ≠ pl := fun l hl e => by
      have := F₁.kb.le
      obtain ⟨⟨_, o, ho, _⟩, _⟩ := hp₁
      rw [e, ho] at hl; cases hl
    refine hQ (2 + r) _ _ (fun l hl hlt => ((hlt.le k₃.le).kb k₄ (by simpa using hneL l hl)).le kt.le) fun v s₅ k₅ hv => ?_
    obtain ⟨l, rfl, hl0, hl⟩ := hv
    have k45 := kt.trans k₅
    have hs14 : KB [pl] s s₄ := (((F₁.kb.trans (k₂.trans k₃)).of_nil _).trans k₄)
    have hl4 : s₄.heap.get? l = none := unborn_le kt.le hl0
    have F₅ := F₄.le k45
    have hls : s.heap.get? l = none := by
      cases e : s.heap.get? l with
      | none => rfl
      | some o =>
        by_cases hlp : l = pl
        · obtain ⟨⟨_, o', ho', _⟩, _⟩ := hp₄
          rw [hlp, ho'] at hl4; cases hl4
        · rw [hs14.keep l o (by simpa using hlp) e] at hl4; cases hl4
    have hlpl : l ≠ pl := by
      rintro rfl
      obtain ⟨⟨_, o', ho', _⟩, _⟩ := hp₄
      rw [ho'] at hl4; cases hl4
    refine ⟨F₅, hs14.trans (k45.of_nil _), hp₄.le k45.le, [1, 2, 3].take (2 + r), l, rfl, ?_, hls, (F₄.fresh hl4).2, (F₄.fresh hl4).1, hlpl, ?_⟩
    · rw [List.map_take]; exact hl
    · have : r = 0 ∨ r = 1 := by omega
      rcases this with rfl | rfl
      · exact .inl rfl
      · exact .inr rfl
  obtain ⟨F₂, ks₂, hp₂, N, nl, rfl, hnl, hnls, hnlB, hnlm, hnlp, hN⟩ := hT
  obtain ⟨D, rfl, hD, hDs, hDo⟩ := hS
  have F₃ := F₂.le k₃
  have hnl3 := hnl.le k₃.le
  have hDX : D ∉ mutA (envAt w 104 L₀) ∧ sB.heap.get? D = none := F₂.fresh hD
  have hDL : D ≠ (envAt w 104 L₀).locals := fun h => hDX.1 (h ▸ List.mem_cons_self)
  have hDn : D ≠ L₀ + 1 := fun h => hDX.1 (h ▸ mem_mut_cell hcn)
  have hDo' : D ≠ L₀ + 2 := fun h => hDX.1 (h ▸ mem_mut_cell hco)
  have hplL : pl ≠ (envAt w 104 L₀).locals := fun h => hpL (h ▸ List.mem_cons_self)
  have hpln : pl ≠ L₀ + 1 := fun h => hpL (h ▸ mem_mut_cell hcn)
  have hplo : pl ≠ L₀ + 2 := fun h => hpL (h ▸ mem_mut_cell hco)
  have hllL' : ll ≠ (envAt w 104 L₀).locals := fun h => hllL (h ▸ List.mem_cons_self)
  have hlln : ll ≠ L₀ + 1 := fun h => hllL (h ▸ mem_mut_cell hcn)
  have hllo : ll ≠ L₀ + 2 := fun h => hllL (h ▸ mem_mut_cell hco)
  have hnlL : nl ≠ (envAt w 104 L₀).locals := fun h => hnlm (h ▸ List.mem_cons_self)
  have hnln : nl ≠ L₀ + 1 := fun h => hnlm (h ▸ mem_mut_cell hcn)
  have hnlo : nl ≠ L₀ + 2 := fun h => hnlm (h ▸ mem_mut_cell hco)
  have hDpl : D ≠ pl := by rintro rfl; obtain ⟨⟨_, o', ho', _⟩, _⟩ := hp₂; rw [ho'] at hD; cases hD
  have hDll : D ≠ ll := by rintro rfl; have := hp₂.2.live; rw [hD] at this; cases this
  have hDnl : D ≠ nl := by rintro rfl; have := hnl.live; rw [hD] at this; cases this
  have hDs0 : s.heap.get? D = none := by
    cases e : s.heap.get? D with
    | none => rfl
    | some o => rw [ks₂.keep D o (by simpa using hDpl) e] at hD; cases hD
  have hNlen : N.length ≤ 3 := by rcases hN with rfl | rfl <;> decide
  have hNnd : N.Nodup := by rcases hN with rfl | rfl <;> decide
  have ks₃ := ks₂.trans (k₃.of_nil _)
  have newL : ∀ a ∈ [(envAt w 104 L₀).locals], a ∈ [pl] ∨ s.heap.get? a = none := by intro a ha; simp only [List.mem_singleton] at ha; subst ha; exact .inr (hnew _ List.mem_cons_self)
  have ks₄ := ks₃.absorb k₄ newL
  have hD4 : s₄.heap.DictOf (intKind prog w) D [] := dictOf_kb (s := s₃) ⟨_, #[], 0, hDo, ⟨rfl, rfl, rfl⟩, rfl, by intro e he; simp at he, .nil, List.nodup_nil⟩ k₄ (by simpa using hDL)
  -- the nodes, one after the other
  refine wpAny_execs_cons (S.for_ (src := fun a => a = nl) (n := (N.map Dt.int).length) (P := fun i h v => ∃ d, (N.map Dt.int)[i]? = some d ∧ Rd h d v)
    (PeI.lst (fun a => a = nl) ok'.handled (Pe.loc F₄.view (by kernel_rfl) upd_self (fun h' l' => ⟨nl, rfl, (hnl3.kb k₄ (by simpa using hnlL)).le l', rfl⟩)))
    (fun i s' => ∃ m kvs P k', Frm sB (envAt w 104 L₀) m s' ∧ KB [pl] s s' ∧ m "pool" = some (.ref pl) ∧ m "nodes" = some (.ref nl) ∧ m "found" = some (.ref D) ∧ PoolAt s'.heap pl ll cs k' ∧ k' ≤ k + 1 + 4 * i ∧ LT s'.heap nl (N.map .int) ∧ s'.heap.DictOf (intKind prog w) D kvs ∧ PrL s'.heap P kvs ∧ P.map (·.1) = N.take i ∧ ∀ x ∈ P, GoodE N x)
    [(envAt w 104 L₀).locals, L₀ + 1, L₀ + 2, pl, D] ?_ ?_ ?_ ?_ ?_ ?_)
  · intro a ha
    simp only [List.mem_cons, List.not_mem_nil, or_false] at ha
    rcases ha with rfl | rfl | rfl | rfl | rfl
    · exact F₄.has _ List.mem_cons_self
    · exact F₄.has _ (mem_mut_cell hcn)
    · exact F₄.has _ (mem_mut_cell hco)
    · obtain ⟨⟨_, o, ho, _⟩, _⟩ := (hp₂.le k₃.le).kb k₄ (by simpa using hplL) (by simpa using hllL'); rw [ho]; rfl
    · exact dictOf_live hD4
  · rintro a rfl ha
    simp only [List.mem_cons, List.not_mem_nil, or_false] at ha
    rcases ha with h | h | h | h | h
    · exact hnlL h
    · exact hnln h
    · exact hnlo h
    · exact hnlp h
    · exact hDnl h.symm
  · exact ⟨_, [], [], k + 1, F₄, ks₄, upd2 (upd2 m1), upd_self, upd2 upd_self, (hp₂.le k₃.le).kb k₄ (by simpa using hplL) (by simpa using hllL'), by omega, hnl3.kb k₄ (by simpa using hnlL), hD4, rfl, by simp, by intro x hx; simp at hx⟩
  · rintro i sx sy wr hwr ⟨m, kvs, P, k', Fm, ks, e1, e2, e3, hpk, hkk, hnl', hDk, hPr, hPk, hPg⟩ k
    have live : ∀ a, (s₄.heap.get? a).isSome = true → a ∉ wr := fun a h hm => by rw [hwr a hm] at h; cases h
    refine ⟨m, kvs, P, k', Fm.other k (fun a ha => F₄.fresh (hwr a ha)), ks.absorb k (fun a ha => .inr ?_), e1, e2, e3, hpk.kb k (live _ ?_) (live _ ?_), hkk, hnl'.kb k (live _ ?_), dictOf_kb hDk k (live _ (dictOf_live hD4)), hPr.kt k.kt, hPk, hPg⟩
    · cases e : s.heap.get? a with
      | none => rfl
      | some o =>
        by_cases hap : a = pl
        · subst hap
          have := hwr a ha
          obtain ⟨⟨_, o, ho, _⟩, _⟩ := (hp₂.le k₃.le).kb k₄ (by simpa using hplL) (by simpa using hllL')
          rw [ho] at this; cases this
        · have h2 := ks₄.keep a o (by simpa using hap) e
          rw [hwr a ha] at h2; cases h2
    · obtain ⟨⟨_, o, ho, _⟩, _⟩ := (hp₂.le k₃.le).kb k₄ (by simpa using hplL) (by simpa using hllL'); rw [ho]; rfl
    · exact ((hp₂.le k₃.le).kb k₄ (by simpa using hplL) (by simpa using hllL')).2.live
    · exact (hnl3.kb k₄ (by simpa using hnlL)).live
  · rintro i sa v hi ⟨m, kvs, P, k', Fa, ksa, e1, e2, e3, hpa, hkk, hnla, hDa, hPa, hPk, hPg⟩ hv E''
    obtain ⟨x, hx, hv⟩ := at_map (enc := Dt.int) hv
    obtain ⟨tx, rfl⟩ := Rd.int_iff.mp hv
    rw [List.length_map] at hi
    have hxN := List.mem_of_getElem? hx
    have apL : Apart s pl ll nl D (envAt w 104 L₀).locals := ⟨hplL.symm, hllL'.symm, hnlL.symm, hDL.symm, hnew _ List.mem_cons_self⟩
    have apn : Apart s pl ll nl D (L₀ + 1) := ⟨hpln.symm, hlln.symm, hnln.symm, hDn.symm, hnew _ (mem_mut_cell hcn)⟩
    have apo : Apart s pl ll nl D (L₀ + 2) := ⟨hplo.symm, hllo.symm, hnlo.symm, hDo'.symm, hnew _ (mem_mut_cell hco)⟩
    have B : PB prog w s pl ll cs nl N D kvs P k' sa := ⟨ksa, hpa, hnla, hDa, hPa⟩
    refine wpAny_assign_Name (Fa.storeC (by kernel_rfl) hcn fun sb Fb kb => ?_)
    have Bb := B.kb kb (by intro a ha; simp only [List.mem_singleton] at ha; subst ha; exact apn)
    have b1 := upd2 (x := "node") (v := Value.int x tx) e1
    have b2 := upd2 (x := "node") (v := Value.int x tx) e2
    have b3 := upd2 (x := "node") (v := Value.int x tx) e3
    have b4 : upd m "node" (Value.int x tx) "node" = some (.int x tx) := upd_self
    generalize upd m "node" (Value.int x tx) = mb at Fb b1 b2 b3 b4
    have pn : ∀ {s'' : Shared} {m' : Str → Option Value} {pos : Pos}, Frm sB (envAt w 104 L₀) m' s'' → m' "node" = some (.int x tx) → Pe prog w A' (envAt w 104 L₀) s'' (.Name "node" pos) (fun h v => Rd h (.int x) v) :=
      fun F' e => Pe.cel F'.view (by kernel_rfl) hcn e (fun h' l => Rd.int _ _)
    -- left = [(node, 0)]
    refine wpAny_execs_cons (S.assignList (ds := [pth [x, 0]]) Fb (by kernel_rfl) (by rw [hcell]; rfl) (PeL.cons (Pe.tuple (ds := [.int x, .int 0]) (PeL.cons (pn Fb b4) (PeL.cons (Pe.int 0 _ _) PeL.nil)) (by simp)) PeL.nil) (by simp) fun lf sc Fc kc hlf hlf0 => ?_)
    have aplf : Apart s pl ll nl D lf := Bb.fresh hlf0
    obtain ⟨hlfm, hlfB⟩ := Fb.fresh hlf0
    have hlfL : lf ≠ (envAt w 104 L₀).locals := fun h => hlfm (h ▸ List.mem_cons_self)
    have hlfn : lf ≠ L₀ + 1 := fun h => hlfm (h ▸ mem_mut_cell hcn)
    have hlfo : lf ≠ L₀ + 2 := fun h => hlfm (h ▸ mem_mut_cell hco)
    have Bc := Bb.kb kc (by intro a ha; simp only [List.mem_singleton] at ha; subst ha; exact apL)
    have c1 := upd2 (x := "left") (v := Value.ref lf) b1
    have c2 := upd2 (x := "left") (v := Value.ref lf) b2
    have c3 := upd2 (x := "left") (v := Value.ref lf) b3
    have c4 := upd2 (x := "left") (v := Value.ref lf) b4
    have c5 : upd mb "left" (Value.ref lf) "left" = some (.ref lf) := upd_self
    generalize upd mb "left" (Value.ref lf) = mc at Fc c1 c2 c3 c4 c5
    have ksac : KB [(envAt w 104 L₀).locals, L₀ + 1, L₀ + 2, pl, D] sa sc := (kb.mono (by simp)).trans (kc.mono (by simp))
    have hleftlen : ∀ j, (leftK N x j).length < 1000 := fun j => by
      unfold leftK
      have h1 := flatMap_len (l := N.take j) (f := beside N x) (c := 4) fun o _ => by
        unfold beside
        split
        · simp
        · have := List.length_filter_le (fun t => !decide (t ∈ [x, o])) N
          simp only [List.length_cons, List.length_map]; omega
      have h2 : (N.take j).length ≤ 3 := by rw [List.length_take]; omega
      rw [List.length_cons]; omega
    -- the other nodes
    refine wpAny_execs_cons (S.for_ (src := fun a => a = nl) (n := (N.map Dt.int).length) (P := fun i h v => ∃ d, (N.map Dt.int)[i]? = some d ∧ Rd h d v)
      (PeI.lst (fun a => a = nl) ok'.handled (Pe.loc Fc.view (by kernel_rfl) c2 (fun h' l' => ⟨nl, rfl, Bc.nodes.le l', rfl⟩)))
      (fun j s' => ∃ m, Frm sB (envAt w 104 L₀) m s' ∧ PB prog w s pl ll cs nl N D kvs P k' s' ∧ m "pool" = some (.ref pl) ∧ m "nodes" = some (.ref nl) ∧ m "found" = some (.ref D) ∧ m "node" = some (.int x tx) ∧ m "left" = some (.ref lf) ∧ LT s'.heap lf ((leftK N x j).map pth) ∧ KB [L₀ + 2, lf] sc s')
      [L₀ + 2, lf] ?_ ?_ ⟨mc, Fc, Bc, c1, c2, c3, c4, c5, hlf, KB.refl _ _⟩ ?_ ?_ ?_)
    · intro a ha
      simp only [List.mem_cons, List.not_mem_nil, or_false] at ha
      rcases ha with rfl | rfl
      · exact Fc.has _ (mem_mut_cell hco)
      · exact hlf.live
    · rintro a rfl ha
      simp only [List.mem_cons, List.not_mem_nil, or_false] at ha
      rcases ha with h | h
      · exact hnlo h
      · exact aplf.2.2.1 h.symm
    · rintro j sx sy wr hwr ⟨m, Fm, Bm, d1, d2, d3, d4, d5, hl, hk⟩ k
      refine ⟨m, Fm.other k (fun a ha => Fc.fresh (hwr a ha)), Bm.kb k (fun a ha => Bc.fresh (hwr a ha)), d1, d2, d3, d4, d5, hl.kb k (fun h => by have := hwr _ h; have h2 := hlf.live; rw [this] at h2; cases h2), hk.dropX k hwr⟩
    · rintro j sx u hj ⟨m, Fm, Bm, d1, d2, d3, d4, d5, hl, hk⟩ hu E3
      obtain ⟨o, ho, hu⟩ := at_map (enc := Dt.int) hu
      obtain ⟨to, rfl⟩ := Rd.int_iff.mp hu
      rw [List.length_map] at hj
      refine wpAny_assign_Name (Fm.storeC (by kernel_rfl) hco fun sy Fy ky => ?_)
      have By := Bm.kb ky (by intro a ha; simp only [List.mem_singleton] at ha; subst ha; exact apo)
      have hl := hl.kb ky (by simpa using hlfo)
      have d1 := upd2 (x := "one") (v := Value.int o to) d1
      have d2 := upd2 (x := "one") (v := Value.int o to) d2
      have d3 := upd2 (x := "one") (v := Value.int o to) d3
      have d4 := upd2 (x := "one") (v := Value.int o to) d4
      have d5 := upd2 (x := "one") (v := Value.int o to) d5
      have d6 : upd m "one" (Value.int o to) "one" = some (.int o to) := upd_self
      generalize upd m "one" (Value.int o to) = my at Fy d1 d2 d3 d4 d5 d6
      have po : ∀ {s'' : Shared} {pos : Pos}, Frm sB (envAt w 104 L₀) my s'' → Pe prog w A' (envAt w 104 L₀) s'' (.Name "one" pos) (fun h v => Rd h (.int o) v) :=
        fun F' => Pe.cel F'.view (by kernel_rfl) hco d6 (fun h' l => Rd.int _ _)
      refine wpAny_execs_cons (S.ite (b := (o != x)) (Pt.cmp (Pe.nei (po Fy) (pn Fy d4))) fun sz kz => ?_)
      have Fz := Fy.le kz
      have Bz := By.kb kz (by intro a ha; cases ha)
      have hl := hl.le kz.le
      rw [leftK_succ ho, List.map_append]
      by_cases hox : o = x
      · have hb : beside N x o = [] := by unfold beside; rw [if_pos hox]
        rw [if_neg (by simp [hox]), hb]
        have kk : KB [L₀ + 2, lf] sx sz := (ky.mono (by simp)).trans (kz.of_nil _)
        exact wpAny_execs_nil (wpAny_execs_nil ⟨⟨my, Fz, Bz, d1, d2, d3, d4, d5, by simpa using hl, hk.trans kk⟩, kk⟩)
      · have hb : beside N x o = [x, o, 0] :: (N.filter fun t => !decide (t ∈ [x, o])).map fun t => [x, o, t, 0] := by unfold beside; rw [if_neg hox]
        rw [if_pos (by simpa using hox), hb, List.map_cons]
        have plf : ∀ {s'' : Shared} {pos : Pos}, Frm sB (envAt w 104 L₀) my s'' → Pe prog w A' (envAt w 104 L₀) s'' (.Name "left" pos) (fun h v => v = .ref lf) := fun F' => Pe.loc F'.view (by kernel_rfl) d5 (fun h' l => rfl)
        have hll := hleftlen j
        refine wpAny_execs_cons (S.append (d := pth [x, o, 0]) (plf Fz) hl (Pe.tuple (ds := [.int x, .int o, .int 0]) (PeL.cons (pn Fz d4) (PeL.cons (po Fz) (PeL.cons (Pe.int 0 _ _) PeL.nil))) (by simp)) (by rw [List.length_map]; omega) fun st kt hlt => ?_)
        have lfX : ∀ a ∈ [lf], a ∉ mutA (envAt w 104 L₀) ∧ sB.heap.get? a = none := by intro a ha; simp only [List.mem_singleton] at ha; subst ha; exact ⟨hlfm, hlfB⟩
        have lfA : ∀ a ∈ [lf], Apart s pl ll nl D a := by intro a ha; simp only [List.mem_singleton] at ha; subst ha; exact aplf
        have Ft := Fz.other kt lfX
        have Bt := Bz.kb kt lfA
        refine wpAny_execs_cons (S.extend (es := (N.filter fun t => !decide (t ∈ [x, o])).map fun t => pth [x, o, t, 0]) (plf Ft) hlt ?_ ?_ fun su ku hlu => ?_)
        · rw [← filter_fm]
          refine Pe.compA (enc := Dt.int) (fun t => if (!decide (t ∈ [x, o])) = true then some (pth [x, o, t, 0]) else none) [(("one" : Str), L₀ + 2), (("node" : Str), L₀ + 1)] (PeI.any ok'.handled (Pe.loc Ft.view (by kernel_rfl) d2 (fun h' l' => ⟨nl, rfl, Bt.nodes.le l'⟩))) (by omega) Ft.view
            ⟨by kernel_rfl, fun y c h => by rw [hcell]; exact h, by decide, rfl, by decide, fun C => by kernel_rfl⟩ ?_
          intro t z s₁ C hz k₁ ru V off
          refine ⟨_, !decide (t ∈ [x, o]), pth [x, o, t, 0], Asg.name V (by kernel_rfl) (by kernel_rfl) off, fun s₂ k₂ kt V₂ => ⟨PtL.one (Pt.cmp (Pe.ninI ok' (Pe.loc V₂ (by kernel_rfl) upd_self (fun h' l => (Rd.kt kt _ _ ru).le l))
            (Pe.tuple (ds := [.int x, .int o]) (PeL.cons (Pe.cel V₂ (by kernel_rfl) (c := L₀ + 1) (by kernel_rfl) (upd2 (cap_of d4)) (fun h' l => Rd.int _ _)) (PeL.cons (Pe.cel V₂ (by kernel_rfl) (c := L₀ + 2) (by kernel_rfl) (upd2 (cap_of d6)) (fun h' l => Rd.int _ _)) PeL.nil)) (by simp)))),
            fun _ => Pe.tuple (ds := [.int x, .int o, .int t, .int 0]) (PeL.cons (Pe.cel V₂ (by kernel_rfl) (c := L₀ + 1) (by kernel_rfl) (upd2 (cap_of d4)) (fun h' l => Rd.int _ _)) (PeL.cons (Pe.cel V₂ (by kernel_rfl) (c := L₀ + 2) (by kernel_rfl) (upd2 (cap_of d6)) (fun h' l => Rd.int _ _)) (PeL.cons (Pe.loc V₂ (by kernel_rfl) upd_self (fun h' l => (Rd.kt kt _ _ ru).le l)) (PeL.cons (Pe.int 0 _ _) PeL.nil)))) (by simp)⟩, rfl⟩
        · have := List.length_filter_le (fun t => !decide (t ∈ [x, o])) N
          simp only [List.length_append, List.length_map, List.length_cons, List.length_nil]; omega
        have kk : KB [L₀ + 2, lf] sx su := (((ky.mono (by simp)).trans (kz.of_nil _)).trans (kt.mono (by simp))).trans (ku.mono (by simp))
        refine wpAny_execs_nil (wpAny_execs_nil ⟨⟨my, Ft.other ku lfX, Bt.kb ku lfA, d1, d2, d3, d4, d5, ?_, hk.trans kk⟩, kk⟩)
        rw [List.append_assoc] at hlu
        rw [List.map_map]
        exact hlu
    · rintro sd ⟨m, Fd, Bd, d1, d2, d3, d4, d5, hl, hkd⟩
      rw [List.length_map] at hl
      -- some = []
      refine wpAny_execs_cons (S.assignList Fd (by kernel_rfl) (by rw [hcell]; rfl) PeL.nil (by decide) fun sm se Fe ke hsm hsm0 => ?_)
      have apsm : Apart s pl ll nl D sm := Bd.fresh hsm0
      obtain ⟨hsmm, hsmB⟩ := Fd.fresh hsm0
      have hsmL : sm ≠ (envAt w 104 L₀).locals := fun h => hsmm (h ▸ List.mem_cons_self)
      have hlfsm : lf ≠ sm := hl.ne_fresh hsm0
      have Be := Bd.kb ke (by intro a ha; simp only [List.mem_singleton] at ha; subst ha; exact apL)
      have hl := hl.kb ke (by simpa using hlfL)
      have d1 := upd2 (x := "some") (v := Value.ref sm) d1
      have d2 := upd2 (x := "some") (v := Value.ref sm) d2
      have d3 := upd2 (x := "some") (v := Value.ref sm) d3
      have d4 := upd2 (x := "some") (v := Value.ref sm) d4
      have d5 := upd2 (x := "some") (v := Value.ref sm) d5
      have d6 : upd m "some" (Value.ref sm) "some" = some (.ref sm) := upd_self
      generalize upd m "some" (Value.ref sm) = me at Fe d1 d2 d3 d4 d5 d6
      have hLlen : (leftAll N x).length < 1000 := hleftlen N.length
      have hperm0 : ([] ++ leftAll N x).Perm (leftAll N x) := List.Perm.refl _
      have pPe : ∀ {s'' : Shared} {m' : Str → Option Value} {pos : Pos}, Frm sB (envAt w 104 L₀) m' s'' → m' "left" = some (.ref lf) → Pe prog w A' (envAt w 104 L₀) s'' (.Name "left" pos) (fun h v => v = .ref lf) := fun F' e => Pe.loc F'.view (by kernel_rfl) e (fun h' l => rfl)
      have pSm : ∀ {s'' : Shared} {m' : Str → Option Value} {pos : Pos}, Frm sB (envAt w 104 L₀) m' s'' → m' "some" = some (.ref sm) → Pe prog w A' (envAt w 104 L₀) s'' (.Name "some" pos) (fun h v => v = .ref sm) := fun F' e => Pe.loc F'.view (by kernel_rfl) e (fun h' l => rfl)
      refine wpAny_execs_cons (S.forI [(envAt w 104 L₀).locals, lf, sm, pl] fun E4 => range_iter ok' Fe.view (G' Fe) (by kernel_rfl) ?_)
      refine callB_eval Fe.view (G' Fe) (by kernel_rfl) (bmin w) (by boot_by_name) (by decide) (args_cons ?_)
      refine (Pe.lenL (ds := (leftAll N x).map pth) Fe.view (G' Fe) (by kernel_rfl) (Pe.loc Fe.view (by kernel_rfl) d5 (fun h' l' => ⟨lf, rfl, hl.le l'⟩)) (by rw [List.length_map]; omega)).use (KB.refl _ _) fun v sf kf r => args_cons ?_
      obtain ⟨tl, rfl⟩ := Rd.int_iff.mp (r _ (Le.refl _))
      have Ff := Fe.le kf
      have nilA : ∀ a ∈ ([] : List Addr), Apart s pl ll nl D a := by intro a ha; cases ha
      have hkk' : k' < 150 := by omega
      refine draw_eval (many := 4) Ff.view ok' G Ff.kb hfr (Be.pool.le kf.le) hne (by decide) (by omega) hcs (by kernel_rfl) (pPl Ff d1) (Pe.int 4 _ _) fun r4 tr sg kg hpg hr4 => args_nil ?_
      refine min_two_ints ok'.handled fun h' tk hk => ?_
      have kh : KB [] sg { sg with heap := h', toks := tk } := KB.of_le hk
      generalize hsh : ({ sg with heap := h', toks := tk } : Shared) = sh at kh ⊢
      obtain ⟨nn, tn, hval, hn1, hn2⟩ : ∃ (nn : Nat) (tn : Tok), (if (r4 : Int) < (((leftAll N x).map pth).length : Int) then Value.int r4 tr else Value.int (((leftAll N x).map pth).length : Int) tl) = .int nn tn ∧ nn ≤ r4 ∧ nn ≤ (leftAll N x).length := by
        by_cases hrl : (r4 : Int) < (((leftAll N x).map pth).length : Int)
        · rw [if_pos hrl]; rw [List.length_map] at hrl; exact ⟨r4, tr, rfl, Nat.le_refl _, by omega⟩
        · rw [if_neg hrl]; rw [List.length_map] at hrl; exact ⟨(leftAll N x).length, tl, by rw [List.length_map], by omega, Nat.le_refl _⟩
      have Fg := Ff.other kg plX
      have Fh := Fg.le kh
      have Bh : PB prog w s pl ll cs nl N D kvs P (k' + 1) sh := (((Be.kb kf nilA).draw kg hpg hnlp hDpl)).kb kh nilA
      have hlh : LT sh.heap lf ((leftAll N x).map pth) := ((hl.le kf.le).kb kg (by simpa using aplf.1)).le kh.le
      have hsmh : LT sh.heap sm (([] : List Path).map pth) := ((hsm.le kf.le).kb kg (by simpa using apsm.1)).le kh.le
      have keh : KB [(envAt w 104 L₀).locals, lf, sm, pl] se sh := ((kf.of_nil _).trans (kg.mono (by simp))).trans (kh.of_nil _)
      refine ⟨nn, tn, hval, by omega, fun si I wr fp St ki T hSt hwr hfp _ _ => ?_⟩
      have liveX : ∀ a ∈ [(envAt w 104 L₀).locals, lf, sm, pl], (sh.heap.get? a).isSome = true := by
        intro a ha
        simp only [List.mem_cons, List.not_mem_nil, or_false] at ha
        rcases ha with rfl | rfl | rfl | rfl
        · exact Fh.has _ List.mem_cons_self
        · exact hlh.live
        · exact hsmh.live
        · obtain ⟨⟨_, o, ho, _⟩, _⟩ := Bh.pool; rw [ho]; rfl
      refine ⟨nn, _, I, wr, fp, St, fun t s' => ∃ m dsl dss, Frm sB (envAt w 104 L₀) m s' ∧ PB prog w s pl ll cs nl N D kvs P (k' + 1 + t) s' ∧ m "pool" = some (.ref pl) ∧ m "nodes" = some (.ref nl) ∧ m "found" = some (.ref D) ∧ m "node" = some (.int x tx) ∧ m "left" = some (.ref lf) ∧ m "some" = some (.ref sm) ∧
        LT s'.heap lf ((dsl : List Path).map pth) ∧ LT s'.heap sm ((dss : List Path).map pth) ∧ (dss ++ dsl).Perm (leftAll N x) ∧ dss.length = t ∧ KB [(envAt w 104 L₀).locals, lf, sm, pl] se s',
        rfl, T _, hSt, ⟨me, leftAll N x, [], Fh.le ki, Bh.kb ki nilA, d1, d2, d3, d4, d5, d6, hlh.le ki.le, hsmh.le ki.le, List.Perm.refl _, rfl, keh.trans (ki.of_nil _)⟩, ?_, ?_, ?_, ?_⟩
      · intro b hb hbX
        have := liveX b hbX
        rw [hfp b hb] at this; cases this
      · rintro t sx sy ⟨m, dsl, dss, Fm, Bm, g1, g2, g3, g4, g5, g6, hl, hsm, hpm, hlen, hk⟩ kw
        refine ⟨m, dsl, dss, Fm.other kw (fun a ha => Fh.fresh (hwr a ha)), Bm.kb kw (fun a ha => Bh.fresh (hwr a ha)), g1, g2, g3, g4, g5, g6, hl.kb kw (fun h => ?_), hsm.kb kw (fun h => ?_), hpm, hlen, hk.absorb kw fun a ha => .inr ?_⟩
        · have h2 := hlh.live; rw [hwr _ h] at h2; cases h2
        · have h2 := hsmh.live; rw [hwr _ h] at h2; cases h2
        · cases e : se.heap.get? a with
          | none => rfl
          | some o =>
            by_cases haX : a ∈ [(envAt w 104 L₀).locals, lf, sm, pl]
            · have := liveX a haX; rw [hwr a ha] at this; cases this
            · have := keh.keep a o haX e; rw [hwr a ha] at this; cases this
      · rintro t sx u ht ⟨m, dsl, dss, Fm, Bm, g1, g2, g3, g4, g5, g6, hl, hsm, hpm, hlen, hk⟩ hu E5
        have hpl2 := hpm.length_eq
        rw [List.length_append] at hpl2
        refine wpAny_assign_Name (Fm.storeL (by kernel_rfl) (by rw [hcell]; rfl) fun sy Fy ky => ?_)
        have By := Bm.kb ky (by intro a ha; simp only [List.mem_singleton] at ha; subst ha; exact apL)
        have hl := hl.kb ky (by simpa using hlfL)
        have hsm := hsm.kb ky (by simpa using hsmL)
        have g1 := upd2 (x := "turn") (v := u) g1
        have g2 := upd2 (x := "turn") (v := u) g2
        have g3 := upd2 (x := "turn") (v := u) g3
        have g4 := upd2 (x := "turn") (v := u) g4
        have g5 := upd2 (x := "turn") (v := u) g5
        have g6 := upd2 (x := "turn") (v := u) g6
        generalize upd m "turn" u = my at Fy g1 g2 g3 g4 g5 g6
        refine wpAny_execs_cons (S.appendI (pSm Fy g6) hsm (fun s₂ Q' k₂ hQ => pop_eval (ds := dsl.map pth) (pPe (Fy.le k₂) g5) (hl.le k₂.le) (by rw [List.length_map]; omega) (fun s₃ Q'' k₃ hQ2 =>
          draw_eval (many := ((dsl.map pth).length : Int)) (k := k' + 1 + t) ((Fy.le k₂).le k₃).view ok' G ((Fy.le k₂).le k₃).kb hfr ((By.pool.le k₂.le).le k₃.le) hne (by rw [List.length_map]; omega) (by omega) hcs (by kernel_rfl) (pPl ((Fy.le k₂).le k₃) g1)
            (Pe.lenL ((Fy.le k₂).le k₃).view (G' ((Fy.le k₂).le k₃)) (by kernel_rfl) (Pe.loc ((Fy.le k₂).le k₃).view (by kernel_rfl) g5 (fun h' l' => ⟨lf, rfl, ((hl.le k₂.le).le k₃.le).le l'⟩)) (by rw [List.length_map]; omega))
            fun r tr s₄ k₄ hp₄ hr => hQ2 r tr s₄ (((hl.le k₂.le).le k₃.le).kb k₄ (by simpa using aplf.1)) (by omega) fun v s₅ d hd rd k₅ hl₅ => hQ v s₅ d ((((hsm.le k₂.le).le k₃.le).kb k₄ (by simpa using apsm.1)).kb k₅ (by simpa using hlfsm.symm)) rd fun s₆ k₆ hsm₆ => ?_)) (by rw [List.length_map]; omega))
        obtain ⟨p, hp, hdp⟩ : ∃ p, dsl[r]? = some p ∧ d = pth p := by
          rw [List.getElem?_map] at hd
          cases e : dsl[r]? with
          | none => rw [e] at hd; cases hd
          | some a => rw [e] at hd; cases hd; exact ⟨a, rfl, rfl⟩
        subst hdp
        have k23 := k₂.trans k₃
        have lfX : ∀ a ∈ [lf], a ∉ mutA (envAt w 104 L₀) ∧ sB.heap.get? a = none := by intro a ha; simp only [List.mem_singleton] at ha; subst ha; exact ⟨hlfm, hlfB⟩
        have smX : ∀ a ∈ [sm], a ∉ mutA (envAt w 104 L₀) ∧ sB.heap.get? a = none := by intro a ha; simp only [List.mem_singleton] at ha; subst ha; exact ⟨hsmm, hsmB⟩
        have lfA : ∀ a ∈ [lf], Apart s pl ll nl D a := by intro a ha; simp only [List.mem_singleton] at ha; subst ha; exact aplf
        have smA : ∀ a ∈ [sm], Apart s pl ll nl D a := by intro a ha; simp only [List.mem_singleton] at ha; subst ha; exact apsm
        have F₆ := ((((Fy.le k23).other k₄ plX).other k₅ lfX).other k₆ smX)
        have B₆ := ((((By.kb k23 nilA).draw k₄ hp₄ hnlp hDpl).kb k₅ lfA).kb k₆ smA)
        have kk : KB [(envAt w 104 L₀).locals, lf, sm, pl] sx s₆ := (((((ky.mono (by simp)).trans (k23.of_nil _)).trans (k₄.mono (by simp))).trans (k₅.mono (by simp))).trans (k₆.mono (by simp)))
        refine wpAny_execs_nil ⟨⟨my, dsl.eraseIdx r, dss ++ [p], F₆, B₆, g1, g2, g3, g4, g5, g6, ?_, ?_, ?_, by simp [hlen], hk.trans kk⟩, kk⟩
        · rw [← map_erase]; exact hl₅.kb k₆ (by simpa using hlfsm)
        · rw [List.map_append]; exact hsm₆
        · rw [List.append_assoc]
          exact ((perm_erase hp).append_left dss).trans hpm
      · rintro sj ⟨m, dsl, dss, Fj, Bj, g1, g2, g3, g4, g5, g6, hl, hsm, hpm, hlen, hk⟩
        have hxi : x ∉ P.map (·.1) := by
          rw [hPk]
          intro h
          obtain ⟨j', hj', e⟩ := List.mem_iff_getElem.mp h
          rw [List.length_take] at hj'
          rw [List.getElem_take] at e
          have e2 : N[i]? = some N[i] := List.getElem?_eq_getElem hi
          rw [hx] at e2
          have e3 := Option.some.inj e2
          rw [← e] at e3
          have := (List.getElem_inj hNnd).mp e3
          omega
        have hPlen : P.length ≤ 3 := by
          have := congrArg List.length hPk
          simp only [List.length_map, List.length_take] at this; omega
        refine wpAny_execs_cons (S.setPr (P := P) (x := x) (ps := dss) (d := D) (kvs := kvs) ((Pe.tuple1 Fj.view (G' Fj) (by kernel_rfl) (Pe.loc Fj.view (by kernel_rfl) g6 (fun h' l' => ⟨sm, rfl, hsm.le l'⟩)) (by rw [List.length_map]; omega)).mono fun h v r => r) (Pe.loc Fj.view (by kernel_rfl) g3 (fun h' l => rfl)) (pn Fj g4) Bj.dict Bj.prl hxi (by omega) fun sk kvs' kk hdk hpk' => ?_)
        have ks' : KB [pl] s sk := Bj.ks.absorb kk (by intro a ha; simp only [List.mem_singleton] at ha; subst ha; exact .inr hDs0)
        have hlfa : sa.heap.get? lf = none := by
          cases e : sa.heap.get? lf with
          | none => rfl
          | some o => rw [kb.keep lf o (by simpa using hlfn) e] at hlf0; cases hlf0
        have hsma : sc.heap.get? sm = none := by
          cases e : sc.heap.get? sm with
          | none => rfl
          | some o =>
            have hne2 : sm ∉ [L₀ + 2, lf] := by
              intro h
              simp only [List.mem_cons, List.not_mem_nil, or_false] at h
              rcases h with h | h
              · exact hsmm (h ▸ mem_mut_cell hco)
              · exact hlfsm h.symm
            rw [hkd.keep sm o hne2 e] at hsm0; cases hsm0
        have hsmaa : sa.heap.get? sm = none := by
          cases e : sa.heap.get? sm with
          | none => rfl
          | some o =>
            have hne2 : sm ∉ [(envAt w 104 L₀).locals, L₀ + 1, L₀ + 2, pl, D] := by
              intro h
              simp only [List.mem_cons, List.not_mem_nil, or_false] at h
              rcases h with h | h | h | h | h
              · exact hsmL h
              · exact hsmm (h ▸ mem_mut_cell hcn)
              · exact hsmm (h ▸ mem_mut_cell hco)
              · exact apsm.1 h
              · exact apsm.2.2.2.1 h
            rw [ksac.keep sm o hne2 e] at hsma; cases hsma
        have kX : KB [(envAt w 104 L₀).locals, L₀ + 1, L₀ + 2, pl, D] sa sk := by
          refine ((((ksac.absorb hkd ?_).absorb ke ?_).absorb hk ?_).absorb kk ?_)
          · intro a ha
            simp only [List.mem_cons, List.not_mem_nil, or_false] at ha
            rcases ha with rfl | rfl
            · left; simp
            · right; exact hlfa
          · intro a ha; simp only [List.mem_singleton] at ha; rw [ha]; exact .inl List.mem_cons_self
          · intro a ha
            simp only [List.mem_cons, List.not_mem_nil, or_false] at ha
            rcases ha with h | rfl | rfl | rfl
            · rw [h]; exact .inl List.mem_cons_self
            · right; exact hlfa
            · right; exact hsmaa
            · left; simp
          · intro a ha; simp only [List.mem_singleton] at ha; subst ha; left; simp
        refine wpAny_execs_nil ⟨⟨m, kvs', P ++ [(x, dss)], k' + 1 + nn, Fj.other kk (fun a ha => by simp only [List.mem_singleton] at ha; subst ha; exact hDX), ks', g1, g2, g3, Bj.pool.kb kk (by simpa using hDpl.symm) (by simpa using hDll.symm), by omega, Bj.nodes.kb kk (by simpa using hDnl.symm), hdk, hpk', ?_, ?_⟩, kX⟩
        · rw [List.map_append, hPk, List.take_add_one, hx]; rfl
        · intro y hy
          rcases List.mem_append.mp hy with hy | hy
          · exact hPg y hy
          · simp only [List.mem_singleton] at hy; subst hy
            refine ⟨fun p hp => hpm.subset (List.mem_append_left _ hp), ?_, by simp only; omega⟩
            have := (hpm.nodup_iff).mpr (leftAll_nodup hN hxN)
            exact (List.nodup_append.mp this).1
  · rintro sa ⟨m, kvs, P, k', Fa, ksa, e1, e2, e3, hpa, hkk, hnla, hDa, hPa, hPk, hPg⟩
    rw [List.length_map] at hkk hPk
    rw [List.take_length] at hPk
    refine wpAny_execs_cons (S.ret (R := fun h v => v = .ref D) (Pe.loc Fa.view (by kernel_rfl) e3 (fun h' l => rfl)) fun v sb kb r => ?_)
    obtain rfl := r _ (Le.refl _)
    exact ⟨ksa.trans (kb.of_nil _), fun d e => by cases e; exact hDs0, P, k', by omega, hpa.le kb.le, ⟨D, kvs, rfl, hDs, hDa.keep kb.le, hPa.le kb.le⟩, N, hN, hPk, hPg⟩
end
end Mine
end


-- F14
section
set_option maxHeartbeats 2000000
set_option autoImplicit false
namespace Mine
section
variable {prog : Program} {w : World} {M : Model} {A : Around} {env : Env} {s₀ sB s s₁ s' : Shared} {m : Str → Option Value} {E : Value → Shared → Prop} {n : Nat}

theorem It.dict {tg : Expr} {I d : Addr} {kvs : List (Int × Value)} {ep : Nat} (hh : A.handled = none) (hne : d ≠ I) :
    It prog w A tg I [I] [I, d] kvs.length (fun i h v => ∃ x, kvs[i]? = some x ∧ Rd h (.int x.1) v) (fun i h => h.IsKeyIter I d i kvs.length ep ∧ h.DictAt (intKind prog w) d kvs ep) where
  frame := fun i h h' st hk kt => ⟨st.1.at fun o e => hk I (by simp) o e, st.2.at' fun o e => hk d (by simp) o e⟩
  next := fun i s Q E hi st h => by
    obtain ⟨⟨k, x⟩, hx⟩ : ∃ p, kvs[i]? = some p := ⟨kvs[i], List.getElem?_eq_getElem hi⟩
    obtain ⟨oI, hoI, hcI, hdI⟩ := id st.1
    refine wpAny_pyNext_dict_item st.1 st.2 hx fun key h' hkey hit' hs' => ?_
    have kb : KB [I] s { s with heap := h', toks := s.toks } := KB.one hoI (fun i n e => by rw [e] at hdI; cases hdI) hs'
    obtain ⟨oI', hoI', hcI', hdI'⟩ := id hit'
    refine goNone hoI' hcI' (by decide) (h key _ ⟨hit', st.2.extBut hs'.extBut hne⟩ kb ⟨_, hx, ?_⟩)
    cases key <;> simp [intKind, Value.isInt] at hkey
    subst hkey; exact Rd.int _ _
  done := fun s Q E st h => by
    obtain ⟨oI, hoI, hcI, hdI⟩ := id st.1
    exact wpAny_pyNext_dict_end hh st.1 st.2 (by simp) fun h' he => ⟨rfl, h _ (KB.ext hoI (fun i n e => by rw [e] at hdI; cases hdI) he)⟩
  self := fun i s Q E st h => wpAny_pyIter_keyiter st.1 h
theorem PeI.dict {tg e : Expr} {P : Prob} (hh : A.handled = none) (x : Pe prog w A env s e (fun h v => PrAt prog w h P v)) : PeI prog w A env s tg e (fun _ => True) P.length (fun i h v => ∃ y, P[i]? = some y ∧ Rd h (.int y.1) v) := fun E s₁ k =>
  x.use k fun v s₂ k₂ r => by
    obtain ⟨d, kvs, rfl, hds, hd, hp⟩ := r _ (Le.refl _)
    obtain ⟨ep, hda⟩ := hd.dictAt
    have hlt := hda.lt_size
    have hkeys := hp.keys
    have hlen : kvs.length = P.length := by have := congrArg List.length hkeys; simpa using this
    refine wpAny_pyIter_dict hds hda ?_
    have kp := KB.push s₂ { cls := .type "dict_keyiterator", data := .fields #[.ref d, .int 0 0, .int kvs.length 0, .int ep 0] } s₂.toks
    have T := It.dict (prog := prog) (w := w) (A := A) (tg := tg) (I := s₂.heap.objs.size) (d := d) (kvs := kvs) (ep := ep) hh (Nat.ne_of_lt hlt)
    rw [hlen] at T
    have T' : It prog w A tg s₂.heap.objs.size [s₂.heap.objs.size] [s₂.heap.objs.size, d] P.length (fun i h v => ∃ y, P[i]? = some y ∧ Rd h (.int y.1) v) (fun i h => h.IsKeyIter s₂.heap.objs.size d i P.length ep ∧ h.DictAt (intKind prog w) d kvs ep) :=
      ⟨T.frame, fun i s Q E hi st h => T.next i s Q E hi st (fun v s' st' k' hP => h v s' st' k' (by
        obtain ⟨y, hy, hr⟩ := hP
        have e1 : (kvs.map (·.1))[i]? = some y.1 := by rw [List.getElem?_map, hy]; rfl
        rw [hkeys, List.getElem?_map] at e1
        cases e : P[i]? with
        | none => rw [e] at e1; cases e1
        | some z => rw [e] at e1; have e2 : z.1 = y.1 := Option.some.inj e1; exact ⟨z, rfl, by rw [e2]; exact hr⟩)), T.done, T.self⟩
    refine ⟨k₂.trans kp, s₂.heap.objs.size, [s₂.heap.objs.size], [s₂.heap.objs.size, d], _, rfl, T', ⟨⟨_, Heap.get?_push_size _ rfl, rfl, by rw [hlen]; rfl⟩, hda.push _⟩, ?_, ?_, ?_, ?_⟩
    · intro b hb; simp only [List.mem_singleton] at hb; subst hb; exact fresh_ge k₂.le (Nat.le_refl _)
    · intro b hb; simp only [List.mem_singleton] at hb; subst hb
      show ((s₂.heap.push _).get? s₂.heap.objs.size).isSome = true
      rw [Heap.get?_push_size _ rfl]; rfl
    · intro b hb; exact .inr trivial
    · intro b hb
      simp only [List.mem_cons, List.not_mem_nil, or_false] at hb
      rcases hb with rfl | rfl
      · show ((s₂.heap.push _).get? s₂.heap.objs.size).isSome = true
        rw [Heap.get?_push_size _ rfl]; rfl
      · obtain ⟨o, es, ho, _⟩ := hda.push { cls := .type "dict_keyiterator", data := .fields #[.ref b, .int 0 0, .int kvs.length 0, .int ep 0] }
        show ((s₂.heap.push _).get? b).isSome = true
        rw [ho]; rfl
/-- `range(b)` -/
theorem PeI.range1 {tg : Expr} {np pos : Pos} {e : Expr} {b : Nat} (ok : AOk A n) (V : View env m s) (G : GG w s.heap) (hl : env.kindOf "range" = some .globalImplicit) (x : Pe prog w A env s e (fun h v => Rd h (.int b) v))
    (hb : b < 1000) (he : starEach [e] env = (false, eval e env) :: starEach [] env := by rfl) (hplain : (backTo pos (starEach [] env)).any (·.1) = false := by rfl) :
    PeI prog w A env s tg (.Call (.Name "range" np) [e] [] pos) (fun _ => False) b (fun i h v => Rd h (.int i) v) := fun E s₁ k => by
  refine range_iter ok (V.le k.le) (G.le k.le) hl (x.use k fun v s₂ k₂ r => ?_) he hplain
  obtain ⟨t, rfl⟩ := Rd.int_iff.mp (r _ (Le.refl _))
  refine ⟨b, t, rfl, hb, fun s' I wr fp St ks T hSt hwr hfp hl1 hl2 => ⟨k₂.trans ks, I, wr, fp, St, rfl, T tg, hSt, fun a ha => unborn_le k₂.le (hwr a ha), hl1, fun a ha => .inl (unborn_le k₂.le (hfp a ha)), hl2⟩⟩

/-! ### _law_is_round -/
def tailsTo (rim goal : Path) (i : Nat) : Option Dt := if decide (rim.drop (i + 1) = goal) = true then some (pth (rim.drop (i + 1))) else none
def roundOk (P : Prob) (spoke rim goal : Path) : Bool :=
  match spoke with
  | [] => false
  | x :: t => (!decide (rim = [])) && ((!decide (goal = [])) && (decide ((x :: t) ∈ ofNode P x) && (decide (rim ∈ (ofNode P x).take ((ofNode P x).idxOf (x :: t) + 1)) && !decide ((List.range (rim.length - 1)).filterMap (tailsTo rim goal) = []))))
def roundAt (P : Prob) (W : List (Path × Path)) (i : Nat) : Bool := roundOk P (W.getD i ([], [])).1 (W.getD i ([], [])).2 (nextOf W i)
def isRoundM (P : Prob) (W : List (Path × Path)) : Bool := (List.range W.length).all (roundAt P W) && decide (0 < W.length)
theorem likes_flat {P : Prob} {x : Int} (hk : (P.map (·.1)).Pairwise (· < ·)) : P.flatMap (fun y => if y.1 = x then y.2 else []) = ofNode P x := by
  induction P with
  | nil => rfl
  | cons y P ih =>
    obtain ⟨a, ps⟩ := y
    rw [List.map_cons, List.pairwise_cons] at hk
    rw [List.flatMap_cons, ih hk.2]
    unfold ofNode
    rw [List.lookup_cons]
    by_cases h : a = x
    · subst h
      have : P.lookup a = none := by
        rw [List.lookup_eq_none_iff]
        intro p hp
        have := hk.1 p.1 (List.mem_map_of_mem hp)
        simp at this ⊢; omega
      simp [this]
    · have h2 : (x == a) = false := by simp; omega
      simp [h, h2]
end
end Mine
end


-- F15
section
set_option maxHeartbeats 2000000
set_option autoImplicit false
namespace Mine
section
variable {prog : Program} {w : World} {M : Model} {A : Around} {env : Env} {s₀ sB s s₁ s' : Shared} {m : Str → Option Value} {E : Value → Shared → Prop} {n : Nat}

theorem lookup_two {cells : List (Str × Addr)} {a b y : Str} {ca cb c : Addr} (ha : cells.lookup a = some ca) (hb : cells.lookup b = some cb) (h : List.lookup y [(a, ca), (b, cb)] = some c) : cells.lookup y = some c := by
  rw [List.lookup_cons] at h
  cases h1 : y == a with
  | true => rw [h1] at h; have e := eq_of_beq h1; subst e; rw [ha]; exact h
  | false =>
    rw [h1] at h
    simp only [List.lookup_cons, List.lookup_nil] at h
    cases h2 : y == b with
    | true => rw [h2] at h; have e := eq_of_beq h2; subst e; rw [hb]; exact h
    | false => rw [h2] at h; cases h

theorem is_round_spec {P : Prob} {W : List (Path × Path)} {vP : Value} {l : Addr} {E : Value → Shared → Prop} (ok : AOk A (n + 1)) (G : GG w s.heap) (hP : PrAt prog w s.heap P vP) (hW : LT s.heap l (W.map pair))
    (g : PG P) (hs : WSmall W) :
    wpAny (model prog w) A (call (.ref 109) [vP, .ref l]) (fun v s' => KB [] s s' ∧ ∀ h', Le s'.heap h' → Rd h' (.bool (isRoundM P W)) v) E s := by
  refine enter2 (def109 w) G ok (by kernel_rfl) (fun L x hx => ?_) ?_
  · simp at hx; rcases hx with rfl | rfl <;> kernel_rfl
  intro L₀ s₁ A' E' m ok' F hmm
  have m1 : m "problem" = some vP := hmm ("problem", vP) (by simp)
  have m2 : m "pairs" = some (.ref l) := hmm ("pairs", .ref l) (by simp)
  have hlen := hs.len
  have hcell : (envAt w 109 L₀).cells = [(("goal" : Str), L₀ + 4), (("rim" : Str), L₀ + 3), (("spoke" : Str), L₀ + 2), (("problem" : Str), L₀ + 1)] := by kernel_rfl
  have hcp : (envAt w 109 L₀).cells.lookup ("problem" : Str) = some (L₀ + 1) := by rw [hcell]; rfl
  have hcs : (envAt w 109 L₀).cells.lookup ("spoke" : Str) = some (L₀ + 2) := by rw [hcell]; rfl
  have hcr : (envAt w 109 L₀).cells.lookup ("rim" : Str) = some (L₀ + 3) := by rw [hcell]; rfl
  have hcg : (envAt w 109 L₀).cells.lookup ("goal" : Str) = some (L₀ + 4) := by rw [hcell]; rfl
  have G' : ∀ {s'' : Shared} {m' : Str → Option Value}, Frm s (envAt w 109 L₀) m' s'' → GG w s''.heap := fun F' => G.le F'.kb.le
  have pP : ∀ {s'' : Shared} {m' : Str → Option Value} {pos : Pos}, Frm s (envAt w 109 L₀) m' s'' → m' "problem" = some vP → Pe prog w A' (envAt w 109 L₀) s'' (.Name "problem" pos) (fun h v => PrAt prog w h P v) := by
    intro s'' m' pos F' e
    exact Pe.cel F'.view (by kernel_rfl) hcp e (fun h' l => hP.le (F'.kb.le.trans l))
  have pW : ∀ {s'' : Shared} {m' : Str → Option Value} {pos : Pos}, Frm s (envAt w 109 L₀) m' s'' → m' "pairs" = some (.ref l) → Pe prog w A' (envAt w 109 L₀) s'' (.Name "pairs" pos) (fun h v => Ls h (W.map pair) v) := by
    intro s'' m' pos F' e
    exact Pe.loc F'.view (by kernel_rfl) e (fun h' l => ⟨_, rfl, hW.le (F'.kb.le.trans l)⟩)
  have hXm : ∀ a ∈ [(envAt w 109 L₀).locals, L₀ + 2, L₀ + 3, L₀ + 4], a ∈ mutA (envAt w 109 L₀) := by
    intro a ha
    simp only [List.mem_cons, List.not_mem_nil, or_false] at ha
    rcases ha with h | h | h | h
    · rw [h]; exact List.mem_cons_self
    · rw [h]; exact mem_mut_cell hcs
    · rw [h]; exact mem_mut_cell hcr
    · rw [h]; exact mem_mut_cell hcg
  refine wpAny_execs_cons (S.for_ (src := fun _ => False) (P := fun i h v => Rd h (.int i) v) (n := W.length) (PeI.range1 ok' F.view (G' F) (by kernel_rfl) ((Pe.lenL F.view (G' F) (by kernel_rfl) (pW F m2) (by rw [List.length_map]; omega)).mono fun h v r => by rwa [List.length_map] at r) hlen)
    (fun i s' => ∃ m, Frm s (envAt w 109 L₀) m s' ∧ m "problem" = some vP ∧ m "pairs" = some (.ref l) ∧ (List.range i).all (roundAt P W) = true)
    [(envAt w 109 L₀).locals, L₀ + 2, L₀ + 3, L₀ + 4] (fun a ha => F.has a (hXm a ha)) (fun _ h => h.elim) ⟨m, F, m1, m2, by simp⟩ ?_ ?_ ?_)
  · rintro i sa sb wr hwr ⟨m, Fm, e1, e2, e3⟩ k
    exact ⟨m, Fm.other k (fun a ha => F.fresh (hwr a ha)), e1, e2, e3⟩
  · rintro i sa v hi ⟨m, Fm, e1, e2, e3⟩ hv E''
    obtain ⟨⟨spoke, rim⟩, hp⟩ : ∃ p, W[i]? = some p := ⟨_, List.getElem?_eq_getElem hi⟩
    have hwi : W.getD i ([], []) = (spoke, rim) := by rw [List.getD_eq_getElem?_getD, hp]; rfl
    have hsm := hs.items _ (List.mem_of_getElem? hp)
    dsimp only at hsm
    have hmod : (i + 1) % W.length < W.length := Nat.mod_lt _ (by omega)
    obtain ⟨q, hq⟩ : ∃ q, W[(i + 1) % W.length]? = some q := ⟨_, List.getElem?_eq_getElem hmod⟩
    have hnext : nextOf W i = q.1 := by unfold nextOf; rw [List.getD_eq_getElem?_getD, hq]; rfl
    have hqs := hs.items _ (List.mem_of_getElem? hq)
    obtain ⟨ti, rfl⟩ := Rd.int_iff.mp hv
    refine wpAny_assign_Name (Fm.storeL (by kernel_rfl) (by rw [hcell]; rfl) fun sb Fb kb => ?_)
    have b1 := upd2 (x := "at") (v := Value.int i ti) e1
    have b2 := upd2 (x := "at") (v := Value.int i ti) e2
    have b3 : upd m "at" (Value.int i ti) "at" = some (.int i ti) := upd_self
    generalize upd m "at" (Value.int i ti) = mb at Fb b1 b2 b3
    have pat : ∀ {pos : Pos}, Pe prog w A' (envAt w 109 L₀) sb (.Name "at" pos) (fun h v => Rd h (.int i) v) := Pe.loc Fb.view (by kernel_rfl) b3 (fun h' l => Rd.int _ _)
    -- (spoke, rim), goal = ..
    refine wpAny_execs_cons (S.assignT (R := fun h v => Rd h (.tup [pair (spoke, rim), pth q.1]) v) (Pe.tuple (PeL.cons (Pe.lidx (ds := W.map pair) (k := i) (pW Fb b2) pat (by omega) (by rw [Int.toNat_natCast, List.getElem?_map, hp]; rfl) (by rw [List.length_map]; omega)) (PeL.cons
      (Pe.idx (k := 0) (ds := [pth q.1, pth q.2]) (Pe.lidx (ds := W.map pair) (k := (((i + 1) % W.length : Nat) : Int)) (d := pair q) (pW Fb b2) ?_ (Int.natCast_nonneg _) ?_ (by rw [List.length_map]; omega)) (Pe.int _ _ _) (by decide) rfl (by simp)) PeL.nil)) (by simp)) fun v sc kc r => ?_)
    · refine (Pe.mod (Pe.add pat (Pe.int 1 _ _)) (Pe.lenL Fb.view (G' Fb) (by kernel_rfl) (pW Fb b2) (by rw [List.length_map]; omega)) (by rw [List.length_map]; omega)).mono fun h v r => ?_
      have : ((i : Int) + 1).fmod ((W.map pair).length : Int) = (((i + 1) % W.length : Nat) : Int) := by
        rw [Int.fmod_eq_emod_of_nonneg _ (by omega), List.length_map]; simp
      rwa [this] at r
    · rw [List.getElem?_map, Int.toNat_natCast, hq]; rfl
    obtain ⟨a, ka, v1, vg, rfl, ho, hr1, hrg⟩ := Rd.two (r _ (Le.refl _))
    obtain ⟨b, kb', vs, vr, rfl, ho', hrs, hrr⟩ := Rd.two hr1
    have Fc := Fb.le kc
    refine FAsg.run (env := envAt w 109 L₀) (X := [(envAt w 109 L₀).locals, L₀ + 2, L₀ + 3, L₀ + 4]) (FAsg.tup2 ok'.handled ho (FAsg.tup2 ok'.handled ho' (FAsg.cel (by simp) (by kernel_rfl) hcs) (FAsg.cel (by simp) (by kernel_rfl) hcr)) (FAsg.cel (by simp) (by kernel_rfl) hcg)) Fc fun sd Fd kd => ?_
    have hRS : Rd sd.heap (pth spoke) vs := hrs.kb kd
    have hRR : Rd sd.heap (pth rim) vr := hrr.kb kd
    have hRG : Rd sd.heap (pth q.1) vg := hrg.kb kd
    have d1 := upd2 (x := "goal") (v := vg) (upd2 (x := "rim") (v := vr) (upd2 (x := "spoke") (v := vs) b1))
    have d2 := upd2 (x := "goal") (v := vg) (upd2 (x := "rim") (v := vr) (upd2 (x := "spoke") (v := vs) b2))
    have ds : upd (upd (upd mb "spoke" vs) "rim" vr) "goal" vg "spoke" = some vs := upd2 (upd2 upd_self)
    have dr : upd (upd (upd mb "spoke" vs) "rim" vr) "goal" vg "rim" = some vr := upd2 upd_self
    have dg : upd (upd (upd mb "spoke" vs) "rim" vr) "goal" vg "goal" = some vg := upd_self
    generalize upd (upd (upd mb "spoke" vs) "rim" vr) "goal" vg = md at Fd d1 d2 ds dr dg
    have kbd : KB [(envAt w 109 L₀).locals, L₀ + 2, L₀ + 3, L₀ + 4] sa sd := ((kb.mono (by simp)).trans (kc.of_nil _)).trans kd
    have pr : ∀ {s'' : Shared} {m' : Str → Option Value} {pos : Pos}, Frm s (envAt w 109 L₀) m' s'' → m' "rim" = some vr → KT sd.heap s''.heap → Pe prog w A' (envAt w 109 L₀) s'' (.Name "rim" pos) (fun h v => Rd h (pth rim) v) := fun F e k => Pe.cel F.view (by kernel_rfl) hcr e (fun h' l => (Rd.kt k _ _ hRR).le l)
    have ps : ∀ {s'' : Shared} {m' : Str → Option Value} {pos : Pos}, Frm s (envAt w 109 L₀) m' s'' → m' "spoke" = some vs → KT sd.heap s''.heap → Pe prog w A' (envAt w 109 L₀) s'' (.Name "spoke" pos) (fun h v => Rd h (pth spoke) v) := fun F e k => Pe.cel F.view (by kernel_rfl) hcs e (fun h' l => (Rd.kt k _ _ hRS).le l)
    have pg : ∀ {s'' : Shared} {m' : Str → Option Value} {pos : Pos}, Frm s (envAt w 109 L₀) m' s'' → m' "goal" = some vg → KT sd.heap s''.heap → Pe prog w A' (envAt w 109 L₀) s'' (.Name "goal" pos) (fun h v => Rd h (pth q.1) v) := fun F e k => Pe.cel F.view (by kernel_rfl) hcg e (fun h' l => (Rd.kt k _ _ hRG).le l)
    have kt0 : KT sd.heap sd.heap := fun _ _ _ e => e
    have hok : roundAt P W i = roundOk P spoke rim q.1 := by unfold roundAt; rw [hwi, hnext]
    have bad : roundOk P spoke rim q.1 = false → isRoundM P W = false := fun hf => by
      unfold isRoundM
      rw [Bool.and_eq_false_iff]; left
      rw [List.all_eq_false]
      exact ⟨i, List.mem_range.mpr hi, by rw [hok, hf]; simp⟩
    have out : ∀ {s'' : Shared} {m' : Str → Option Value} {p1 p2 : Pos} {k1 : Nat} {Q : Flow → Shared → Prop} {E : Value → Shared → Prop} {rest : List Stmt}, Frm s (envAt w 109 L₀) m' s'' → roundOk P spoke rim q.1 = false → (∀ v s₂, (KB [] s s₂ ∧ ∀ h', Le s₂.heap h' → Rd h' (.bool (isRoundM P W)) v) → Q (.ret v) s₂) →
        wpAny (model prog w) A' (execs (.Return (some (.Constant (.bool false) k1 p1)) p2 :: rest) (envAt w 109 L₀)) Q E s'' := fun F hf hQ =>
      wpAny_execs_cons (S.ret (Pe.bool false _ _) fun v s₂ k₂ r => hQ _ _ (by rw [bad hf]; exact ⟨F.kb.trans k₂, r⟩))
    have hsl := hsm.1
    have hrl := hsm.2
    have hql := hqs.1
    have emp : ∀ {s'' : Shared} {p1 : Pos} {k1 : Nat}, Pe prog w A' (envAt w 109 L₀) s'' (.Tuple [] k1 p1) (fun h v => Rd h (pth []) v) := Pe.tuple PeL.nil (by decide)
    refine wpAny_execs_cons (S.ite (b := decide (spoke = []) || (decide (rim = []) || (decide (q.1 = []) || false))) (Pt.or_cons (Pt.cmp (Pe.eqP ok'.u (ps Fd ds kt0) emp)) fun _ => Pt.or_cons (Pt.cmp (Pe.eqP ok'.u (pr Fd dr kt0) emp)) fun _ => Pt.or_cons (Pt.cmp (Pe.eqP ok'.u (pg Fd dg kt0) emp)) fun _ => Pt.or_nil) fun se ke => ?_)
    have Fe := Fd.le ke
    cases hb1 : (decide (spoke = []) || (decide (rim = []) || (decide (q.1 = []) || false))) with
    | true =>
      rw [if_pos rfl]
      refine out Fe ?_ fun _ _ h => h
      unfold roundOk
      cases spoke with
      | nil => rfl
      | cons x t => simp at hb1 ⊢; intro h1 h2; exact absurd (hb1.resolve_left h1) h2
    | false =>
    rw [if_neg (by simp)]
    refine wpAny_execs_nil ?_
    cases spoke with
    | nil => simp at hb1
    | cons x t =>
    simp at hb1
    obtain ⟨hrn, hqn⟩ := hb1
    have hx0 : ((x :: t : Path)).map Dt.int = .int x :: t.map Dt.int := rfl
    have hfew := g.few
    let rows : Nat → List Dt := fun i => if (P.getD i default).1 = x then ((P.getD i default).2).map pth else []
    have hrows : (List.range P.length).flatMap rows = (ofNode P x).map pth := by
      rw [← likes_flat g.keys, List.map_flatMap]
      have := range_flat (fun y : Int × List Path => if y.1 = x then y.2.map pth else []) default P
      rw [show rows = fun i => (fun y : Int × List Path => if y.1 = x then y.2.map pth else []) (P.getD i default) from rfl, this]
      congr 1; funext y
      split <;> simp
    -- likes = ..
    refine wpAny_execs_cons (S.assignComp2 (rows := rows) (cl := [(("spoke" : Str), L₀ + 2), (("problem" : Str), L₀ + 1)]) Fe (by kernel_rfl) (by rw [hcell]; rfl) (PeI.dict ok'.handled (pP Fe d1)) (by omega)
      ⟨by kernel_rfl, fun y c h => lookup_two hcs hcp h, by decide, rfl, by decide, fun C => by kernel_rfl⟩ ?_ ?_ fun D sf Ff kf hD hD0 => ?_)
    · intro j u s₁ C hj k₁ hPj V off
      obtain ⟨y, hy, hu⟩ := hPj
      have hgx : P.getD j default = y := by rw [List.getD_eq_getElem?_getD, hy]; rfl
      have hlk := lookup_at g.keys hy
      have hof := ofNode_at g.keys hy
      have hsm := g.small y.1
      rw [hof] at hsm
      refine ⟨_, Asg.name V (by kernel_rfl) (by kernel_rfl) off, fun s₂ ks kt V₂ => ⟨(y.2.map pth).length, fun j h u => ∃ d, (y.2.map pth)[j]? = some d ∧ Rd h d u, fun j => y.2[j]?.bind fun p => if (y.1 == x) = true then some (pth p) else none,
        PeI.tup ok'.handled (Pe.dget (P := P) (k := y.1) (Pe.cel V₂ (by kernel_rfl) (c := L₀ + 1) (by kernel_rfl) (upd2 (cap_of d1)) (fun h' l => hP.le (Fe.kb.le.trans (ks.le.trans l)))) (Pe.loc V₂ (by kernel_rfl) upd_self (fun h' l => (Rd.kt kt _ _ hu).le l)) hlk), by rw [List.length_map]; omega, ?_, ?_⟩⟩
      · show rows j = _
        rw [List.length_map, range_get]
        show (if (P.getD j default).1 = x then ((P.getD j default).2).map pth else []) = _
        rw [hgx]
        by_cases h : y.1 = x
        · simp only [h, if_true, beq_self_eq_true]; rw [map_fm]
        · have : (y.1 == x) = false := by simpa using h
          simp [h, this]
      · intro j' u' s₃ hj' k₃ kt₃ hPj' V₃ off₃
        obtain ⟨p, hp', hu'⟩ := at_map hPj'
        refine ⟨_, (y.1 == x), pth p, Asg.name V₃ (by kernel_rfl) (by kernel_rfl) off₃, fun z w' hz => ?_, fun s₄ k₄ kt₄ V₄ => ⟨PtL.one (Pt.cmp (Pe.eqi (Pe.loc V₄ (by kernel_rfl) (upd2 upd_self) (fun h' l => (Rd.kt kt₄ _ _ (Rd.kt kt₃ _ _ hu)).le l)) (Pe.idx (k := 0) (ds := (x :: t).map .int) (d := .int x) (Pe.cel V₄ (by kernel_rfl) (c := L₀ + 2) (by kernel_rfl) (upd2 (upd2 (cap_of ds))) (fun h' l => (hRS.le (ke.le.trans k₄.le)).le l)) (Pe.int _ _ _) (by decide) rfl (by rw [List.length_map]; omega)))),
          fun _ => Pe.loc V₄ (by kernel_rfl) upd_self (fun h' l => (Rd.kt kt₄ _ _ hu').le l)⟩, by dsimp only; rw [hp']; rfl⟩
        have hne : z ≠ ("path" : Str) := by
          rintro rfl
          have : upd (cap [(("spoke" : Str), L₀ + 2), (("problem" : Str), L₀ + 1)] md) "node" u ("path" : Str) = none := by
            rw [upd_ne (by decide)]; rfl
          rw [this] at hz; cases hz
        rw [upd_ne hne]; exact hz
    · intro j hj
      have hxj : P[j]? = some P[j] := List.getElem?_eq_getElem hj
      have hgx : P.getD j default = P[j] := by rw [List.getD_eq_getElem?_getD, hxj]; rfl
      show (if (P.getD j default).1 = x then ((P.getD j default).2).map pth else []).length < 300
      rw [hgx]
      split
      · rw [List.length_map, ← ofNode_at g.keys hxj]
        have := g.small P[j].1; omega
      · simp
    rw [hrows] at hD
    have hsmx := g.small x
    have f1 := upd2 (x := "likes") (v := Value.ref D) d1
    have f2 := upd2 (x := "likes") (v := Value.ref D) d2
    have fs := upd2 (x := "likes") (v := Value.ref D) ds
    have fr := upd2 (x := "likes") (v := Value.ref D) dr
    have fg := upd2 (x := "likes") (v := Value.ref D) dg
    have fl : upd md "likes" (Value.ref D) "likes" = some (.ref D) := upd_self
    generalize upd md "likes" (Value.ref D) = mf at Ff f1 f2 fs fr fg fl
    have ktf : KT sd.heap sf.heap := fun b i n e => kf.tup b i n (ke.tup b i n e)
    have pl : ∀ {pos : Pos}, Pe prog w A' (envAt w 109 L₀) sf (.Name "likes" pos) (fun h v => Ls h ((ofNode P x).map pth) v) := Pe.loc Ff.view (by kernel_rfl) fl (fun h' l' => ⟨D, rfl, hD.le l'⟩)
    have kbf : KB [(envAt w 109 L₀).locals, L₀ + 2, L₀ + 3, L₀ + 4] sa sf := (kbd.trans (ke.of_nil _)).trans (kf.mono (by simp))
    refine wpAny_execs_cons (S.ite (b := (!decide ((x :: t) ∈ ofNode P x)) || ((!decide (rim ∈ (ofNode P x).take ((ofNode P x).idxOf (x :: t) + 1))) || false)) (Pt.or_cons (Pt.cmp (Pe.ninL ok' (ps Ff fs ktf) pl)) fun h => ?_) fun sg kg => ?_)
    · have hin : (x :: t) ∈ ofNode P x := by simpa using h
      refine Pt.or_cons (Pt.cmp (Pe.ninL ok' (pr Ff fr ktf) ((Pe.lupto pl (Pe.add (Pe.index ok' pl (ps Ff fs ktf) hin (by omega)) (Pe.int 1 _ _)) (by omega) (by rw [List.length_map]; omega)).mono fun h v r => ?_))) fun _ => Pt.or_nil
      have := r.ls
      rwa [← List.map_take, show (((ofNode P x).idxOf (x :: t) : Int) + 1).toNat = (ofNode P x).idxOf (x :: t) + 1 by omega] at this
    have Fg := Ff.le kg
    cases hb2 : ((!decide ((x :: t) ∈ ofNode P x)) || ((!decide (rim ∈ (ofNode P x).take ((ofNode P x).idxOf (x :: t) + 1))) || false)) with
    | true =>
      rw [if_pos rfl]
      refine out Fg ?_ fun _ _ h => h
      unfold roundOk
      cases h1 : decide ((x :: t) ∈ ofNode P x) <;> cases h2 : decide (rim ∈ (ofNode P x).take ((ofNode P x).idxOf (x :: t) + 1)) <;> simp [h1, h2] at hb2 ⊢
    | false =>
    rw [if_neg (by simp)]
    refine wpAny_execs_nil ?_
    simp at hb2
    obtain ⟨hin, hrin⟩ := hb2
    have ktg : KT sd.heap sg.heap := fun b i n e => kg.tup b i n (ktf b i n e)
    have hrimpos : 0 < rim.length := Nat.pos_of_ne_zero fun e => hrn (List.length_eq_zero_iff.mp e)
    have hnn : ((rim.length : Int) - 1).toNat = rim.length - 1 := by omega
    refine wpAny_execs_cons (S.ite (b := decide ((List.range (rim.length - 1)).filterMap (tailsTo rim q.1) = [])) (Pt.cmp (Pe.eqNil ok'.u ?_ (Pe.list PeL.nil (by decide)))) fun sh kh => ?_)
    · rw [← hnn]
      refine Pe.comp (f := tailsTo rim q.1) (cl := [(("rim" : Str), L₀ + 3), (("goal" : Str), L₀ + 4)]) (P := fun i h v => Rd h (.int (1 + i)) v) (PeI.range2 (a := 1) (b := (rim.length : Int)) ok' Fg.view (G' Fg) (by kernel_rfl) (Pe.int _ _ _) ((Pe.lenT Fg.view (G' Fg) (by kernel_rfl) (pr Fg fr ktg) (by rw [List.length_map]; omega)).mono fun h v r => by rwa [List.length_map] at r) (by omega) (by omega) (by omega) (by omega)) (by omega) Fg.view
        ⟨by kernel_rfl, fun y c h => lookup_two hcr hcg h, by decide, rfl, by decide, fun C => by kernel_rfl⟩ ?_
      intro j u s₁ C hj k₁ hu V off
      rw [hnn] at hj
      have sl : ∀ {cenv : Env} {m' : Str → Option Value} {s₂ : Shared} {p1 p2 p3 p4 : Pos}, KB [] sg s₂ → KT s₁.heap s₂.heap → View cenv m' s₂ → cenv.kindOf "rim" = some .cell → cenv.cells.lookup ("rim" : Str) = some (L₀ + 3) → cenv.kindOf "spot" = some .local → m' "rim" = some vr → m' "spot" = some u →
          Pe prog w A' cenv s₂ (.Subscript (.Name "rim" p1) (.Slice (some (.Name "spot" p2)) none none p3) p4) (fun h v => Rd h (pth (rim.drop (j + 1))) v) := by
        intro cenv m' s₂ p1 p2 p3 p4 k₂ kt V₂ x1 x2 x3 x4 x5
        refine (Pe.sliceFrom (Pe.cel V₂ x1 (c := L₀ + 3) x2 x4 (fun h' l => (Rd.kt ktg _ _ hRR).le (k₂.le.trans l))) (Pe.loc V₂ x3 x5 (fun h' l => (Rd.kt kt _ _ hu).le l)) (by omega) (by rw [List.length_map]; omega) (by rw [List.length_map]; omega)).mono fun h v r => ?_
        have : (1 + (j : Int)).toNat = j + 1 := by omega
        rw [this, ← List.map_drop] at r
        exact r
      exact ⟨_, decide (rim.drop (j + 1) = q.1), pth (rim.drop (j + 1)), Asg.name V (by kernel_rfl) (by kernel_rfl) off, fun s₂ k₂ kt V₂ => ⟨PtL.one (Pt.cmp (Pe.eqP ok'.u (sl k₂ kt V₂ (by kernel_rfl) (by kernel_rfl) (by kernel_rfl) (upd2 (cap_of fr)) upd_self) (Pe.cel V₂ (by kernel_rfl) (c := L₀ + 4) (by kernel_rfl) (upd2 (cap_of fg)) (fun h' l => (Rd.kt ktg _ _ hRG).le (k₂.le.trans l))))),
        fun _ => sl k₂ kt V₂ (by kernel_rfl) (by kernel_rfl) (by kernel_rfl) (upd2 (cap_of fr)) upd_self⟩, rfl⟩
    have Fh := Fg.le kh
    have hro : roundOk P (x :: t) rim q.1 = !decide ((List.range (rim.length - 1)).filterMap (tailsTo rim q.1) = []) := by
      unfold roundOk
      simp [hrn, hqn, hin, hrin]
    cases hb3 : decide ((List.range (rim.length - 1)).filterMap (tailsTo rim q.1) = []) with
    | true =>
      rw [if_pos rfl]
      exact out Fh (by rw [hro, hb3]; rfl) fun _ _ h => h
    | false =>
      rw [if_neg (by simp)]
      refine wpAny_execs_nil (wpAny_execs_nil ⟨⟨mf, Fh, f1, f2, ?_⟩, kbf.trans ((kg.trans kh).of_nil _)⟩)
      rw [List.range_succ, List.all_append, e3, List.all_cons, hok, hro, hb3]
      rfl
  · rintro sa ⟨m, Fm, e1, e2, e3⟩
    refine wpAny_execs_cons (S.ret (R := fun h v => Rd h (.bool (isRoundM P W)) v) ((Pe.neNil ok'.u (pW Fm e2) (Pe.list PeL.nil (by decide))).mono fun h v r => ?_) fun v s₂ k r => ⟨Fm.kb.trans k, r⟩)
    have : isRoundM P W = !decide (W.map pair = []) := by
      unfold isRoundM
      rw [e3, Bool.true_and]
      cases W <;> simp
    rwa [this]
end
end Mine
end


-- PL
section
set_option maxHeartbeats 2000000
set_option autoImplicit false
namespace Mine

theorem mem_take_idx {l : List Path} {a : Path} {k : Nat} : a ∈ l.take (k + 1) ↔ a ∈ l ∧ l.idxOf a ≤ k := by
  induction l generalizing k with
  | nil => simp
  | cons b l ih =>
    rw [List.take_succ_cons, List.mem_cons, List.mem_cons, List.idxOf_cons]
    by_cases h : b = a
    · subst h; simp
    · have h2 : (b == a) = false := by simpa using h
      have h3 : a ≠ b := fun e => h e.symm
      simp only [h2, cond_false, h3, false_or]
      cases k with
      | zero => simp
      | succ k => rw [ih]; exact and_congr_right fun _ => by omega

theorem tails_eq {rim goal : Path} (hg : goal ≠ []) : (!decide ((List.range (rim.length - 1)).filterMap (tailsTo rim goal) = [])) = tailOk rim goal := by
  rw [Bool.eq_iff_iff]
  unfold tailOk
  simp only [Bool.not_eq_true', decide_eq_false_iff_not, Bool.and_eq_true, decide_eq_true_eq]
  have hgl : 0 < goal.length := Nat.pos_of_ne_zero fun e => hg (List.length_eq_zero_iff.mp e)
  constructor
  · intro h
    rw [List.filterMap_eq_nil_iff] at h
    have : ∃ i, i < rim.length - 1 ∧ rim.drop (i + 1) = goal := by
      apply Classical.byContradiction
      intro hn
      apply h
      intro i hi
      unfold tailsTo
      rw [if_neg]
      intro he
      exact hn ⟨i, List.mem_range.mp hi, of_decide_eq_true he⟩
    obtain ⟨i, hi, e⟩ := this
    have hl := congrArg List.length e
    rw [List.length_drop] at hl
    refine ⟨by omega, ?_⟩
    rw [show rim.length - goal.length = i + 1 by omega]; exact e
  · rintro ⟨h1, h2⟩ h
    rw [List.filterMap_eq_nil_iff] at h
    have := h (rim.length - goal.length - 1) (List.mem_range.mpr (by omega))
    unfold tailsTo at this
    rw [if_pos (by rw [show rim.length - goal.length - 1 + 1 = rim.length - goal.length by omega]; simpa using h2)] at this
    cases this

theorem ok_round {P : Prob} (g : PG P) {s r q : Path} (hq : q ≠ []) : wheelOk P s r q = roundOk P s r q := by
  cases s with
  | nil => rfl
  | cons x t =>
    unfold wheelOk roundOk
    rw [tails_eq hq]
    unfold headOk placeOk
    rw [Bool.eq_iff_iff]
    simp only [Bool.and_eq_true, decide_eq_true_eq, Bool.not_eq_true', decide_eq_false_iff_not, mem_take_idx]
    constructor
    · rintro ⟨⟨⟨h1, h2⟩, h3⟩, h4⟩
      refine ⟨?_, hq, h1, ⟨h2, h3⟩, h4⟩
      rintro rfl
      have := (g.first _ _ h2).1
      simp at this
    · rintro ⟨h0, _, h1, ⟨h2, h3⟩, h4⟩
      exact ⟨⟨⟨h1, h2⟩, h3⟩, h4⟩

/-- pairs are told to be a wheel just as they are told to be round -/
theorem wheel_round {P : Prob} (g : PG P) (W : List (Path × Path)) : isWheelM P W = isRoundM P W := by
  unfold isWheelM isRoundM
  by_cases hall : ∀ i < W.length, nextOf W i ≠ []
  · congr 1
    rw [Bool.eq_iff_iff, List.all_eq_true, List.all_eq_true]
    constructor
    · intro h i hi
      have h1 := h i hi
      unfold okAt at h1
      unfold roundAt
      rwa [← ok_round g (hall i (List.mem_range.mp hi))]
    · intro h i hi
      have h1 := h i hi
      unfold roundAt at h1
      unfold okAt
      rwa [ok_round g (hall i (List.mem_range.mp hi))]
  · have : ∃ i, i < W.length ∧ nextOf W i = [] := by
      apply Classical.byContradiction
      intro hn
      exact hall fun i hi he => hn ⟨i, hi, he⟩
    obtain ⟨i, hi, he⟩ := this
    have h1 : (List.range W.length).all (okAt P W) = false := by
      rw [List.all_eq_false]
      refine ⟨(i + 1) % W.length, List.mem_range.mpr (Nat.mod_lt _ (by omega)), ?_⟩
      unfold okAt
      unfold nextOf at he
      rw [he]
      simp [wheelOk]
    have h2 : (List.range W.length).all (roundAt P W) = false := by
      rw [List.all_eq_false]
      refine ⟨i, List.mem_range.mpr hi, ?_⟩
      unfold roundAt
      rw [he]
      unfold roundOk
      split <;> simp
    rw [h1, h2]

theorem wheel_nil (P : Prob) : isWheelM P [] = false := by unfold isWheelM; simp
theorem wheel_hole (P : Prob) (A B : List (Path × Path)) : isWheelM P (A ++ [([], [])] ++ B) = false := by
  unfold isWheelM
  rw [Bool.and_eq_false_iff]; left
  rw [List.all_eq_false]
  refine ⟨A.length, List.mem_range.mpr (by simp), ?_⟩
  unfold okAt
  have : (A ++ [([], [])] ++ B).getD A.length ([], []) = (([], []) : Path × Path) := by
    rw [List.getD_eq_getElem?_getD, List.append_assoc, List.getElem?_append_right (Nat.le_refl _)]
    simp
  rw [this]
  simp [wheelOk]

theorem chain_at {P : Prob} {p : Path} : ∀ {W : List (Path × Path)} {i : Nat} {a : Path × Path}, Chain P W p → W[i]? = some a → (a.2, ((W[i + 1]?).map (·.1)).getD p) ∈ rimsP P a.1 ∧ a.1 ∈ allPaths P
  | [], i, a, _, h => by simp at h
  | b :: W, 0, a, c, h => by
    simp at h; subst h
    refine ⟨?_, c.2.1⟩
    have := c.1
    cases W with
    | nil => simpa using this
    | cons d W => simpa using this
  | b :: W, i + 1, a, c, h => by
    have := chain_at (i := i) c.2.2 (by simpa using h)
    simpa using this
/-- what `find_wheel` gives is a wheel -/
theorem row_wheel {P : Prob} (g : PG P) {W : List (Path × Path)} (h : IsRow P W) : isWheelM P W = true := by
  obtain ⟨p, hc, hp⟩ := h
  have hpos : 0 < W.length := by cases W with | nil => simp at hp | cons a W => simp
  unfold isWheelM
  rw [Bool.and_eq_true, List.all_eq_true]
  refine ⟨fun i hi => ?_, by simpa using hpos⟩
  have hi := List.mem_range.mp hi
  have ha : W[i]? = some W[i] := List.getElem?_eq_getElem hi
  have hwi : W.getD i ([], []) = W[i] := by rw [List.getD_eq_getElem?_getD, ha]; rfl
  obtain ⟨h1, h2⟩ := chain_at hc ha
  have hnext : nextOf W i = ((W[i + 1]?).map (·.1)).getD p := by
    unfold nextOf
    by_cases hl : i + 1 < W.length
    · rw [Nat.mod_eq_of_lt hl, List.getD_eq_getElem?_getD, List.getElem?_eq_getElem hl]; rfl
    · have e : i + 1 = W.length := by omega
      rw [e, Nat.mod_self, List.getD_eq_getElem?_getD, List.getElem?_eq_none (Nat.le_refl _)]
      cases W with
      | nil => simp at hpos
      | cons a W => simp at hp ⊢; exact hp
  unfold okAt
  rw [hwi, hnext]
  generalize ((W[i + 1]?).map (·.1)).getD p = q at *
  generalize W[i] = a at *
  obtain ⟨s, r⟩ := a
  dsimp only at *
  have hso := mem_allPaths g h2
  obtain ⟨hr, hq⟩ := rims_rest h1
  obtain ⟨j, hj, e, _⟩ := rests_mem hq
  dsimp only at hr hq e hj
  cases s with
  | nil => have := (g.first _ _ hso).1; simp at this
  | cons x t =>
    have hx : (x :: t : Path).getD 0 0 = x := rfl
    rw [hx] at hso hr
    unfold likes at hr
    rw [mem_take_idx] at hr
    unfold wheelOk headOk placeOk tailOk
    have hql : q.length = r.length - (j + 1) := by rw [e, List.length_drop]
    simp only [Bool.and_eq_true, decide_eq_true_eq]
    refine ⟨⟨⟨hso, hr.1⟩, hr.2⟩, by omega, ?_⟩
    rw [show r.length - q.length = j + 1 by omega]; exact e.symm
theorem row_small {P : Prob} (g : PG P) (hall : (allPaths P).length < 1000) {W : List (Path × Path)} (hl : W.length ≤ (allPaths P).length) (h : IsRow P W) : WSmall W := by
  obtain ⟨p, hc, hp⟩ := h
  refine ⟨by omega, fun a ha => ?_⟩
  obtain ⟨i, hi⟩ := List.mem_iff_getElem?.mp ha
  obtain ⟨h1, h2⟩ := chain_at hc hi
  have := (g.first _ _ (mem_allPaths g h2)).2
  have h3 := (g.first _ _ (likes_mem (rims_rest h1).1)).2
  dsimp only at h3
  omega
end Mine
end


-- PL2
section
set_option maxHeartbeats 2000000
set_option autoImplicit false
namespace Mine

theorem left_facts {N : List Int} {x : Int} (h : GoodN N) (hx : x ∈ N) : ∀ p ∈ leftAll N x, p[0]? = some x ∧ 2 ≤ p.length ∧ p.length ≤ 4 ∧ p.getLast? = some 0 ∧ p.Nodup := by
  rcases h with rfl | rfl
  · simp only [List.mem_cons, List.not_mem_nil, or_false] at hx; rcases hx with rfl | rfl <;> decide
  · simp only [List.mem_cons, List.not_mem_nil, or_false] at hx; rcases hx with rfl | rfl | rfl <;> decide
theorem ofNode_entry {P : Prob} {x : Int} {p : Path} (h : p ∈ ofNode P x) : ∃ e ∈ P, e.1 = x ∧ e.2 = ofNode P x := by
  have hl := ofNode_of_mem h
  generalize ofNode P x = ps at *
  clear h
  induction P with
  | nil => simp at hl
  | cons y P ih =>
    obtain ⟨a, qs⟩ := y
    rw [List.lookup_cons] at hl
    cases hxa : x == a with
    | true =>
      rw [hxa] at hl
      have h1 : x = a := by simpa using hxa
      have h2 : qs = ps := by simpa using hl
      exact ⟨(a, qs), List.mem_cons_self, h1.symm, h2⟩
    | false =>
      rw [hxa] at hl
      obtain ⟨e, he, h⟩ := ih hl
      exact ⟨e, List.mem_cons_of_mem _ he, h⟩

theorem good_pc {P : Prob} (h : GoodP P) : PC P ∧ (allPaths P).length ≤ 9 := by
  obtain ⟨N, hN, hk, hg⟩ := h
  have hNp : N.Pairwise (· < ·) ∧ (∀ x ∈ N, x ≠ 0) ∧ N.length ≤ 3 := by rcases hN with rfl | rfl <;> decide
  have hP3 : P.length ≤ 3 := by rw [← List.length_map (f := (·.1)), hk]; exact hNp.2.2
  have entry : ∀ {x : Int} {p : Path}, p ∈ ofNode P x → x ∈ N ∧ p ∈ leftAll N x := by
    intro x p hp
    obtain ⟨e, he, h1, h2⟩ := ofNode_entry hp
    have hxN : x ∈ N := by rw [← hk, ← h1]; exact List.mem_map_of_mem he
    refine ⟨hxN, ?_⟩
    have := (hg e he).1 p (by rw [h2]; exact hp)
    rwa [h1] at this
  have len3 : ∀ x, (ofNode P x).length ≤ 3 := by
    intro x
    cases e : ofNode P x with
    | nil => simp
    | cons a l =>
      obtain ⟨y, hy, h1, h2⟩ := ofNode_entry (P := P) (x := x) (p := a) (by rw [e]; exact List.mem_cons_self)
      rw [← e, ← h2]; exact (hg y hy).2.2
  refine ⟨⟨⟨fun x => by have := len3 x; omega, fun x p hp => ?_, by rw [hk]; exact hNp.1, by omega⟩, fun x hx => hNp.2.1 x (by rw [← hk]; exact hx), fun x p hp => ?_, fun x => ?_⟩, ?_⟩
  · obtain ⟨h1, h2⟩ := entry hp
    have := left_facts hN h1 p h2
    exact ⟨this.1, by omega⟩
  · obtain ⟨h1, h2⟩ := entry hp
    have := left_facts hN h1 p h2
    exact ⟨this.2.1, this.2.2.2.1, this.2.2.2.2, by omega⟩
  · cases e : ofNode P x with
    | nil => exact List.nodup_nil
    | cons a l =>
      obtain ⟨y, hy, h1, h2⟩ := ofNode_entry (P := P) (x := x) (p := a) (by rw [e]; exact List.mem_cons_self)
      rw [← e, ← h2]; exact (hg y hy).2.1
  · have := flatMap_len (l := P) (f := (·.2)) (c := 3) fun x hx => (hg x hx).2.2
    unfold allPaths; omega
end Mine
end


-- F16
section
set_option maxHeartbeats 2000000
set_option autoImplicit false
namespace Mine
section
variable {prog : Program} {w : World} {M : Model} {A : Around} {env : Env} {s₀ sB s s₁ s' : Shared} {m : Str → Option Value} {E : Value → Shared → Prop} {n : Nat}

theorem Pe.neB {e i : Expr} {pos : Pos} {a b : Bool} (x : Pe prog w A env s e (fun h v => Rd h (.bool a) v)) (y : Pe prog w A env s i (fun h v => Rd h (.bool b) v))
    (hm : behindInMarks .NotEq i = false := by with_unfolding_all rfl) : Pe prog w A env s (.Compare e [.NotEq] [i] pos) (fun h v => Rd h (.bool (!(a == b))) v) := fun E s₁ ks =>
  wpAny_Compare1 (x.use ks fun v s₂ k₂ r => y.use (ks.trans k₂) fun u s₃ k₃ r₃ => by
    obtain rfl := Rd.bool_iff.mp (r _ k₃.le)
    obtain rfl := Rd.bool_iff.mp (r₃ _ (Le.refl _))
    exact SeqAt.RcNeAt.bool_bool a b prog w _ _ ⟨k₂.trans k₃, fun _ _ => Rd.boolv _⟩) hm
theorem Pe.notE {e : Expr} {pos : Pos} {a : Bool} (x : Pe prog w A env s e (fun h v => Rd h (.bool a) v)) : Pe prog w A env s (.UnaryOp .Not e pos) (fun h v => Rd h (.bool (!a)) v) := fun E s₁ ks =>
  wpAny_UnaryOp (x.use ks fun v s₂ k₂ r => by
    obtain rfl := Rd.bool_iff.mp (r _ (Le.refl _))
    exact not_of (wpAny_truthy_bool ⟨k₂, fun _ _ => Rd.boolv _⟩))
theorem Pe.andE {e f : Expr} {pos : Pos} {a b : Bool} (x : Pe prog w A env s e (fun h v => Rd h (.bool a) v)) (y : Pe prog w A env s f (fun h v => Rd h (.bool b) v)) : Pe prog w A env s (.BoolOp .And [e, f] pos) (fun h v => Rd h (.bool (a && b)) v) := fun E s₁ ks =>
  BoolOp_and (x.use ks fun v s₂ k₂ r => by
    obtain rfl := Rd.bool_iff.mp (r _ (Le.refl _))
    refine wpAny_truthy_bool ?_
    cases a with
    | true => exact BoolOp_one (y.use (ks.trans k₂) fun u s₃ k₃ r₃ => ⟨k₂.trans k₃, r₃⟩)
    | false => exact ⟨k₂, fun _ _ => Rd.boolv _⟩)
theorem Pe.isNone {e : Expr} {k : Nat} {p pos : Pos} {v₀ : Value} (x : Pe prog w A env s e (fun h v => v = v₀))
    (hm : behindInMarks .Is (.Constant .none k p) = false := by with_unfolding_all rfl) : Pe prog w A env s (.Compare e [.Is] [.Constant .none k p] pos) (fun h v => Rd h (.bool (v₀ == .none)) v) := fun E s₁ ks =>
  wpAny_Compare1 (x.use ks fun v s₂ k₂ r => (Pe.noneC (s := s) k p).use (ks.trans k₂) fun u s₃ k₃ r₃ => by
    obtain rfl := r _ (Le.refl _)
    obtain rfl := r₃ _ (Le.refl _)
    by_cases h : v = .none
    · subst h; exact is_none_none ⟨k₂.trans k₃, fun _ _ => Rd.boolv _⟩
    · refine is_none_ne h ⟨k₂.trans k₃, fun _ _ => ?_⟩
      rw [beq_eq_false_iff_ne.mpr h]; exact Rd.boolv _) hm
theorem Pe.isNotNone {e : Expr} {k : Nat} {p pos : Pos} {v₀ : Value} (x : Pe prog w A env s e (fun h v => v = v₀))
    (hm : behindInMarks .IsNot (.Constant .none k p) = false := by with_unfolding_all rfl) : Pe prog w A env s (.Compare e [.IsNot] [.Constant .none k p] pos) (fun h v => Rd h (.bool (!(v₀ == .none))) v) := fun E s₁ ks =>
  wpAny_Compare1 (x.use ks fun v s₂ k₂ r => (Pe.noneC (s := s) k p).use (ks.trans k₂) fun u s₃ k₃ r₃ => by
    obtain rfl := r _ (Le.refl _)
    obtain rfl := r₃ _ (Le.refl _)
    by_cases h : v = .none
    · subst h; exact isnot_none_none ⟨k₂.trans k₃, fun _ _ => Rd.boolv _⟩
    · refine isnot_none_ne h ⟨k₂.trans k₃, fun _ _ => ?_⟩
      rw [beq_eq_false_iff_ne.mpr h]; exact Rd.boolv _) hm
theorem Pe.intOf {np pos : Pos} {e : Expr} {a : Int} (V : View env m s) (G : GG w s.heap) (hl : env.kindOf "int" = some .globalImplicit) (x : Pe prog w A env s e (fun h v => Rd h (.int a) v))
    (he : starEach [e] env = (false, eval e env) :: starEach [] env := by rfl) :
    Pe prog w A env s (.Call (.Name "int" np) [e] [] pos) (fun h v => Rd h (.int a) v) :=
  Pe.callT V G hl (bint w) (by boot_by_name) (by decide) (PeA.one x he) (fun E s₁ vs k hv => by
    obtain ⟨v, rfl, r⟩ := hv
    obtain ⟨t, rfl⟩ := Rd.int_iff.mp r
    exact call_int_int ⟨KB.refl _ _, fun _ _ => Rd.int _ _⟩) (he := he)
/-- a slice of any list of ints -/
theorem Pe.luptoS {e i : Expr} {p pos : Pos} {vs : List Value} {ns : List Int} {l : Addr} {b : Int} (x : Pe prog w A env s e (fun h v => v = .ref l ∧ h.IsList l vs.toArray)) (hI : IntsAre vs ns) (y : Pe prog w A env s i (fun h v => Rd h (.int b) v))
    (h0 : 0 ≤ b) (hs : ns.length < 100000) :
    Pe prog w A env s (.Subscript e (.Slice none (some i) none p) pos) (fun h v => LN s.heap h ((ns.take b.toNat).map .int) v) := fun E s₁ ks =>
  Subscript_ (x.use ks fun v s₂ k₂ r => wpAny_Slice (wpAny_evalPart_none (wpAny_evalPart_some (y.use (ks.trans k₂) fun u s₃ k₃ r₃ => wpAny_evalPart_none (by
    obtain ⟨rfl, hl⟩ := r _ k₃.le
    obtain ⟨tk, rfl⟩ := Rd.int_iff.mp (r₃ _ (Le.refl _))
    obtain ⟨k, rfl⟩ : ∃ k : Nat, b = k := ⟨b.toNat, by omega⟩
    have hlen := hI.length
    have hl' : (s₃.heap.push { cls := .type "slice", data := .fields #[.none, .int k tk, .none] }).IsList l vs.toArray := by
      obtain ⟨o, ho, rr⟩ := hl
      exact ⟨o, Heap.get?_push_of_some _ ho, rr⟩
    refine tail_any (T := "list") (s := { s₃ with heap := s₃.heap.push { cls := .type "slice", data := .fields #[.none, .int k tk, .none] } }) hl'.typeIs slot_list_getitem.lookup
      (wpAny_getItem_list_slice hl' (Heap.IsSliceOf.new ..) .none (.int _ _) .none (by simp) ?_ (by simp; exact line_of_lt (by omega))) rfl
    have ksz : Le s.heap s₃.heap := (ks.trans (k₂.trans k₃)).le
    refine ⟨(k₂.trans k₃).trans ((KB.push s₃ _ s₃.toks).trans (KB.push _ _ _)), fun h' l' => ⟨_, rfl, fresh_ge (ksz.trans (Le.push _ _)) (Nat.le_refl _), vs.take k, 0, l' _ _ ?_, ?_⟩⟩
    · rw [slicePick_upto']
      have := Heap.get?_push_size (s₃.heap.push { cls := .type "slice", data := .fields #[.none, .int k tk, .none] }) (o := lstObj (vs.take k).toArray 0) rfl
      simpa using this
    · rw [List.map_take]
      exact (RdL.of_ints hI).take k)))))

theorem Pe.is_wheel {P : Prob} {W : List (Path × Path)} {np pos : Pos} {e f : Expr} (V : View env m s) (G : GG w s.heap) (ok : AOk A (n + 2)) (hl : env.kindOf "is_wheel" = some .globalImplicit) (g : PG P) (hs : WSmall W)
    (a : Pe prog w A env s e (fun h v => PrAt prog w h P v)) (b : Pe prog w A env s f (fun h v => Ls h (W.map pair) v))
    (he : starEach [e, f] env = (false, eval e env) :: starEach [f] env := by rfl) (hf : starEach [f] env = (false, eval f env) :: starEach [] env := by rfl) :
    Pe prog w A env s (.Call (.Name "is_wheel" np) [e, f] [] pos) (fun h v => Rd h (.bool (isWheelM P W)) v) := by
  refine Pe.callDef V G hl (by kernel_rfl) (def45 w).ho (def45 w).hdat (PeA.two a b he hf) (fun E s₁ vs k hv => ?_) (by decide) he
  obtain ⟨v, u, rfl, r1, l, rfl, r2⟩ := hv
  exact is_wheel_spec ok (G.le k.le) r1 r2 g hs
theorem Pe.is_round {P : Prob} {W : List (Path × Path)} {np pos : Pos} {e f : Expr} (V : View env m s) (G : GG w s.heap) (ok : AOk A (n + 1)) (hl : env.kindOf "_law_is_round" = some .globalImplicit) (g : PG P) (hs : WSmall W)
    (a : Pe prog w A env s e (fun h v => PrAt prog w h P v)) (b : Pe prog w A env s f (fun h v => Ls h (W.map pair) v))
    (he : starEach [e, f] env = (false, eval e env) :: starEach [f] env := by rfl) (hf : starEach [f] env = (false, eval f env) :: starEach [] env := by rfl) :
    Pe prog w A env s (.Call (.Name "_law_is_round" np) [e, f] [] pos) (fun h v => Rd h (.bool (isRoundM P W)) v) := by
  refine Pe.callDef V G hl (by kernel_rfl) (def109 w).ho (def109 w).hdat (PeA.two a b he hf) (fun E s₁ vs k hv => ?_) (by decide) he
  obtain ⟨v, u, rfl, r1, l, rfl, r2⟩ := hv
  exact is_round_spec ok (G.le k.le) r1 r2 g hs
theorem Pe.find_wheel {P : Prob} {np pos : Pos} {e : Expr} (V : View env m s) (G : GG w s.heap) (ok : AOk A (n + 4)) (hl : env.kindOf "find_wheel" = some .globalImplicit) (g : PG P)
    (a : Pe prog w A env s e (fun h v => PrAt prog w h P v))
    (he : starEach [e] env = (false, eval e env) :: starEach [] env := by rfl) :
    Pe prog w A env s (.Call (.Name "find_wheel" np) [e] [] pos) (fun h v => v = .none ∨ ∃ W : List (Path × Path), W.length ≤ (allPaths P).length ∧ IsRow P W ∧ Ls h (W.map pair) v) := by
  refine Pe.callDef V G hl (by kernel_rfl) (def55 w).ho (def55 w).hdat (PeA.one a he) (fun E s₁ vs k hv => ?_) (by decide) he
  obtain ⟨v, rfl, r1⟩ := hv
  exact find_wheel_spec ok (G.le k.le) r1 g
theorem Pe.check {P : Prob} {np pos : Pos} {e : Expr} (V : View env m s) (G : GG w s.heap) (ok : AOk A (n + 1)) (hl : env.kindOf "check_problem" = some .globalImplicit) (g : PC P)
    (a : Pe prog w A env s e (fun h v => PrAt prog w h P v))
    (he : starEach [e] env = (false, eval e env) :: starEach [] env := by rfl) :
    Pe prog w A env s (.Call (.Name "check_problem" np) [e] [] pos) (fun h v => v = .none) := by
  refine Pe.callDef V G hl (by kernel_rfl) (def92 w).ho (def92 w).hdat (PeA.one a he) (fun E s₁ vs k hv => ?_) (by decide) he
  obtain ⟨v, rfl, r1⟩ := hv
  exact check_problem_spec ok (G.le k.le) r1 g
theorem problem_eval {np pos : Pos} {e : Expr} {pl ll : Addr} {cs : List Int} {k : Nat} {Q : Value → Shared → Prop} (V : View env m s) (ok : AOk A (n + 2)) (G : GG w sB.heap) (kB : KB [] sB s) (hfr : sB.heap.get? pl = none)
    (hp : PoolAt s.heap pl ll cs k) (hne : ll ≠ pl) (hk : k < 100) (hcs : cs.length < 1000) (hl : env.kindOf "_law_problem" = some .globalImplicit)
    (x : Pe prog w A env s e (fun h v => v = .ref pl))
    (h : ∀ v s' P k', KB [pl] s s' → (∀ d, v = .ref d → s.heap.get? d = none) → k' ≤ k + 20 → PoolAt s'.heap pl ll cs k' → PrAt prog w s'.heap P v → GoodP P → Q v s')
    (he : starEach [e] env = (false, eval e env) :: starEach [] env := by rfl) :
    wpAny (model prog w) A (eval (.Call (.Name "_law_problem" np) [e] [] pos) env) Q E s :=
  Call_ (V.global_ (G.le kB.le) hl (by kernel_rfl) (callWith_def (def104 w).hdat (wpAny_mono (PeA.one x he E s pos (KB.refl _ _)) (fun vs s₂ h₂ => by
    obtain ⟨k₂, r₂⟩ := h₂
    obtain ⟨v, rfl, rfl⟩ := r₂ _ (Le.refl _)
    refine ⟨(G.le (kB.trans k₂).le).1 _ _ (def104 w).ho, wpAny_mono (problem_spec ok G (kB.trans k₂) hfr (hp.le k₂.le) hne hk hcs) (fun v s₃ h₃ => ?_) fun _ _ z => z⟩
    obtain ⟨k₃, hnew, P, k', hk', hp', hP, hg⟩ := h₃
    exact h v s₃ P k' ((k₂.of_nil _).trans k₃) (fun d e => unborn_le k₂.le (hnew d e)) hk' hp' hP hg) fun _ _ z => z) he) (by decide))
end
end Mine
end


-- F17
section
set_option maxHeartbeats 2000000
set_option autoImplicit false
namespace Mine
section
variable {prog : Program} {w : World} {M : Model} {A : Around} {env : Env} {s₀ sB s s₁ s' : Shared} {m : Str → Option Value} {E : Value → Shared → Prop} {n : Nat}

theorem fresh_kb {Y : List Addr} {a : Addr} (k : KB Y s s') (hY : ∀ a ∈ Y, (s'.heap.get? a).isSome = true) (h : s'.heap.get? a = none) : s.heap.get? a = none := by
  cases e : s.heap.get? a with
  | none => rfl
  | some o =>
    by_cases ha : a ∈ Y
    · have := hY a ha; rw [h] at this; cases this
    · rw [k.keep a o ha e] at h; cases h
/-- `y = [elt for target in iter]`, where the parts change the objects at `Y` -/
theorem S.assignCompI {y tn : Str} {py pt spos : Pos} {elt iter : Expr} {scope : Scope} {pos : Pos} {cl : List (Str × Addr)} {Q : Flow → Shared → Prop} (Y : List Addr) (Inv : Nat → Nat → Shared → Prop) (Gd : Path × Path → Prop)
    (F : Frm s₀ env m s) (hl : env.kindOf y = some .local) (hc : env.cells.lookup y = none) (hY : ∀ a ∈ Y, a ∉ mutA env ∧ s₀.heap.get? a = none) (hYl : ∀ n i s₁, Inv n i s₁ → ∀ a ∈ Y, (s₁.heap.get? a).isSome = true) (hYs : ∀ a ∈ Y, (s.heap.get? a).isSome = true) (co : CompOk scope env cl)
    (htk : ∀ C, (compEnvC scope cl C env).kindOf tn = some .local) (htc : cl.lookup tn = none)
    (hInv' : ∀ n i s₁ s₂ Z, Inv n i s₁ → KB Z s₁ s₂ → (∀ a ∈ Z, s.heap.get? a = none ∨ a = env.locals) → Inv n i s₂)
    (src : ∀ (E : Value → Shared → Prop) (Q' : Value → Shared → Prop), (∀ n s₃ I wr fp St, KB Y s s₃ → n < 1000 → Inv n 0 s₃ → (∀ target : Expr, It prog w A target I wr fp n (fun i h v => Rd h (.int i) v) St) → St 0 s₃.heap → (∀ a ∈ wr, s.heap.get? a = none) → (∀ a ∈ wr, (s₃.heap.get? a).isSome = true) → (∀ a ∈ fp, s.heap.get? a = none) → (∀ a ∈ fp, (s₃.heap.get? a).isSome = true) → Q' (.ref I) s₃) →
      wpAny (model prog w) A (eval iter env) (fun x s₂ => wpAny (model prog w) A (pyIter x) Q' E s₂) E s)
    (turn : ∀ n i v s₁ C, i < n → KB Y s s₁ → Inv n i s₁ → View (compEnvC scope cl C env) (upd (cap cl m) tn v) s₁ →
      ∀ (E : Value → Shared → Prop) (Q' : Value → Shared → Prop), (∀ u s₂ p, KB Y s₁ s₂ → Inv n (i + 1) s₂ → Rd s₂.heap (pair p) u → Gd p → Q' u s₂) → wpAny (model prog w) A (eval elt (compEnvC scope cl C env)) Q' E s₁)
    (h : ∀ n D s' (W : List (Path × Path)), Frm s₀ env (upd m y (.ref D)) s' → KB (env.locals :: Y) s s' → Inv n n s' → LT s'.heap D (W.map pair) → W.length ≤ n → n < 1000 → (∀ p ∈ W, Gd p) → s.heap.get? D = none → Q .next s')
    (hsw : swapsWith (.ListComp elt [⟨.Name tn pt, iter, [], 0⟩] scope pos) (some (.Name y py)) spos.line env = pure true := by rfl)
    (hs : ∀ x, foldedSetIterable iter env x = pure x := by intro _; rfl) :
    wpAny (model prog w) A (exec (.Assign [.Name y py] (.ListComp elt [⟨.Name tn pt, iter, [], 0⟩] scope pos) spos) env) Q E s := by
  have hInv : ∀ n i s₁ s₂ Z, Inv n i s₁ → KB Z s₁ s₂ → (∀ a ∈ Z, s.heap.get? a = none) → Inv n i s₂ := fun n i s₁ s₂ Z a b c => hInv' n i s₁ s₂ Z a b fun x hx => .inl (c x hx)
  rw [exec_Assign_Name_used _ _ _ _ hsw]
  refine wpAny_bind (wpAny_standAt (wpAny_bind ?_))
  show wpAny _ A (do let _ ← comprehension (.ListComp elt [⟨.Name tn pt, iter, [], 0⟩] scope pos) scope env _ (newList []) false (eval iter env) (some (PySem.assign (.Name y py) env))) _ _ s
  refine wpAny_bind (wpAny_mono (Q := fun _ s' => Q .next s') ?_ (fun _ s' hq => wpAny_pure (wpAny_pure hq)) fun _ _ z => z)
  refine wpAny_comprehension_free (g := ⟨.Name tn pt, iter, [], 0⟩) (gs := []) rfl hs co.clos co.kind co.names (src _ _ fun n s₂ I wr fp St k₂ hnn hI₂ T st hwr hwr' hfp hfp' => ?_)
  refine opened co.cell co.kind fun D C s₃ k₃ hD hC hDC empty hsc => ?_
  have liveY := hYl n 0 s₂ hI₂
  have D0 := fresh_kb k₂ liveY hD
  have C0 := fresh_kb k₂ liveY hC
  have bornC : ∀ {a : Addr}, a ∈ [C] → s.heap.get? a = none := fun ha => List.mem_singleton.mp ha ▸ C0
  have bornD : ∀ {a : Addr}, a ∈ [D] → s.heap.get? a = none := fun ha => List.mem_singleton.mp ha ▸ D0
  have CY : C ∉ Y := fun hm => ne_of_live (liveY C hm) hC rfl
  have DY : D ∉ Y := fun hm => ne_of_live (liveY D hm) hD rfl
  have wC : C ∉ wr := fun hm => ne_of_live (hwr' C hm) hC rfl
  have wD : D ∉ wr := fun hm => ne_of_live (hwr' D hm) hD rfl
  have notL : ∀ {a : Addr}, s.heap.get? a = none → a ∉ [env.locals] := fun ha hm => (F.fresh ha).1 (List.mem_singleton.mp hm ▸ List.mem_cons_self)
  have st₃ : St 0 s₃.heap := (T (.Name tn pt)).frame _ _ _ st (fun b _ o e => k₃.le b o e) k₃.kt
  have envY : ∀ {z : Shared}, KB Y s z → View env m z := fun k => F.view.other k (fun h => (hY _ h).1 List.mem_cons_self) fun y c hc h => (hY c h).1 (mem_mut_cell hc)
  have coff : ∀ y c, (compEnvC scope cl C env).cells.lookup y = some c → c ≠ (compEnvC scope cl C env).locals := fun y c hy => by
    obtain ⟨v₀, ⟨o, ho, _⟩, _⟩ := F.view.cell y c (co.sub y c hy)
    exact ne_of_live (Option.isSome_iff_exists.mpr ⟨o, ho⟩) C0
  have loop : codeAny (model prog w) A (.compLoop (.ListComp elt [⟨.Name tn pt, iter, [], 0⟩] scope pos) 0 (.ref I) (.ref D) (compEnvC scope cl C env))
      (compPost (model prog w) A E (some (PySem.assign (.Name y py) env)) (fun _ s' => Q .next s') (.ref D) C) s₃ := by
    refine leaf_loop rfl rfl (T (.Name tn pt)) (fun i z => KB Y s z ∧ (∃ ml, z.heap.Ns C ml) ∧ Inv n i z ∧ ∃ W : List (Path × Path), W.length ≤ i ∧ (∀ p ∈ W, Gd p) ∧ LT z.heap D (W.map pair)) (C :: D :: Y)
      (fun b hb hm => ?_) (fun i a b hJ k => ?_) (fun i a v hlt hJ hP E' => ?_) (fun a hJ => ?_)
      ⟨k₂.trans (k₃.of_nil _), hsc, hInv _ _ _ _ [] hI₂ k₃ (fun a ha => absurd ha List.not_mem_nil), [], Nat.le_refl _, fun p hp => absurd hp List.not_mem_nil, empty⟩ st₃
    · rcases List.mem_cons.mp hm with rfl | hm
      · exact ne_of_live (hfp' b hb) hC rfl
      · rcases List.mem_cons.mp hm with rfl | hm
        · exact ne_of_live (hfp' b hb) hD rfl
        · exact ne_of_live (hYs b hm) (hfp b hb) rfl
    · obtain ⟨ka, ⟨ml, hml⟩, hIa, W, hW1, hW2, hW3⟩ := hJ
      exact ⟨ka.absorb k fun a ha => .inr (hwr a ha), ⟨ml, hml.at' fun o e => k.keep C o wC e⟩, hInv _ _ _ _ _ hIa k hwr, W, hW1, hW2, hW3.kb k wD⟩
    · obtain ⟨ka, ⟨ml, hml⟩, hIa, W, hW1, hW2, hW3⟩ := hJ
      have Va := (envY ka).comp (scope := scope) (cl := cl) co.kind co.sub (co.loc C) hml
      refine wpAny_assign_Name (Va.storeL (htk _) htc coff fun z kz Vz => ⟨true, PtL.nil, fun y ky => ?_⟩)
      have kz : KB [C] a z := kz
      have kay : KB [C] a y := kz.trans (ky.of_nil _)
      have ksy : KB Y s y := ka.absorb kay fun b hb => .inr (bornC hb)
      obtain ⟨mz, hmz, -⟩ := (Vz.le ky.le).ns
      rw [if_pos rfl]
      refine turn n i v y _ hlt ksy (hInv _ _ _ _ _ hIa kay fun b hb => bornC hb) (Vz.le ky.le) E' _ fun u x p kx hIx hp hg => ?_
      have lx : LT x.heap D (W.map pair) := (hW3.kb kay (by simpa using hDC)).kb kx DY
      refine lx.append hp (by rw [List.length_map]; omega) fun q kq same lq => ⟨⟨(ksy.trans kx).absorb kq fun b hb => .inr (bornD hb), ⟨mz, (hmz.at' fun o e => kx.keep C o CY e).sameBut same (Ne.symm hDC)⟩,
        hInv _ _ _ _ _ hIx kq fun b hb => bornD hb, W ++ [p], ?_, fun r hr => ?_, ?_⟩, ?_⟩
      · rw [List.length_append, List.length_singleton]; exact Nat.succ_le_succ hW1
      · rcases List.mem_append.mp hr with hr | hr
        · exact hW2 r hr
        · exact List.mem_singleton.mp hr ▸ hg
      · rw [List.map_append]; exact lq
      · exact ((kay.mono (by simp)).trans (kx.mono fun b hb => List.mem_cons_of_mem _ (List.mem_cons_of_mem _ hb))).trans (kq.mono (by simp))
    · obtain ⟨ka, ⟨ml, hml⟩, hIa, W, hW1, hW2, hW3⟩ := hJ
      change wpAny _ A (PySem.assign (.Name y py) env (.ref D)) _ _ _
      refine wpAny_assign_Name ((F.other ka hY).storeL hl hc fun z Fz kz => ?_)
      have hmz := hml.at' fun o e => kz.keep C o (notL C0) e
      refine ⟨ml, hmz, fun h' same => ?_⟩
      obtain ⟨o, es, ep, ho, hd, _⟩ := hmz
      have kc : KB [C] z { z with heap := h', toks := z.toks } := KB.one ho (fun i n e => by rw [e] at hd; cases hd) same
      have kL : KB (env.locals :: Y) s z := (ka.mono fun b hb => List.mem_cons_of_mem _ hb).trans (kz.mono fun b hb => List.mem_singleton.mp hb ▸ List.mem_cons_self)
      refine h n D _ W (Fz.other kc fun b hb => F.fresh (bornC hb)) (kL.absorb kc fun b hb => .inr (bornC hb)) ?_ ((hW3.kb kz (notL D0)).kb kc (by simpa using hDC)) hW1 hnn hW2 D0
      exact hInv _ _ _ _ _ (hInv' _ _ _ _ _ hIa kz fun b hb => .inr (List.mem_singleton.mp hb)) kc fun b hb => bornC hb
  exact codeAny_compStart_list loop ((T (.Name tn pt)).self 0 _ _ _ st₃ loop)
end
end Mine
end


-- F18
section
set_option maxHeartbeats 2000000
set_option autoImplicit false
namespace Mine
section
variable {prog : Program} {w : World} {M : Model} {A : Around} {env : Env} {s₀ sB s s₁ s' : Shared} {m : Str → Option Value} {E : Value → Shared → Prop} {n : Nat}
theorem LT.ne_pool {h : Heap} {l pl ll : Addr} {cs : List Int} {k : Nat} {W : List (Path × Path)} (x : LT h l (W.map pair)) (p : PoolAt h pl ll cs k) : l ≠ pl := by
  rintro rfl
  obtain ⟨items, n, ho, hr⟩ := x
  obtain ⟨⟨t, o, ho', _, n', hd⟩, _⟩ := p
  rw [ho] at ho'; cases ho'
  have e : items.toArray = #[Value.ref ll, .int k t] := by injection hd
  have e2 : items = [Value.ref ll, .int k t] := by have := congrArg Array.toList e; simpa using this
  subst e2
  have hlen := hr.length
  have hpos : 1 < (W.map pair).length := by rw [← hlen]; simp
  have h1 : (W.map pair)[1]? = some ((W.map pair)[1]'hpos) := List.getElem?_eq_getElem hpos
  obtain ⟨v, hv, rv⟩ := hr.get h1
  simp at hv
  subst hv
  rw [List.getElem_map] at rv
  obtain ⟨_, _, _, e, _⟩ := Rd.tup_iff.mp rv
  cases e
/-- `some[_law_draw(pool, len(some))]` -/
theorem pick_eval {p1 p2 p3 p4 p5 p6 p7 p8 : Pos} {pl ll sl : Addr} {cs : List Int} {SM : List Path} {k : Nat} {cp cS : Addr} {Q : Value → Shared → Prop} (V : View env m s) (ok : AOk A (n + 1)) (G : GG w sB.heap) (kB : KB [] sB s) (hfr : sB.heap.get? pl = none)
    (hp : PoolAt s.heap pl ll cs k) (hne : ll ≠ pl) (hk : k < 1000) (hcs : cs.length < 1000) (hsl : LT s.heap sl (SM.map pth)) (hslpl : sl ≠ pl) (hS : 0 < SM.length ∧ SM.length ≤ 11)
    (hl : env.kindOf "_law_draw" = some .globalImplicit) (hlen : env.kindOf "len" = some .globalImplicit) (h1 : env.kindOf "pool" = some .cell) (h2 : env.cells.lookup ("pool" : Str) = some cp) (h3 : m "pool" = some (.ref pl))
    (h4 : env.kindOf "some" = some .cell) (h5 : env.cells.lookup ("some" : Str) = some cS) (h6 : m "some" = some (.ref sl))
    (hpl : ∀ y c, env.cells.lookup y = some c → c ≠ pl) (hplL : env.locals ≠ pl)
    (h : ∀ p v s', KB [pl] s s' → PoolAt s'.heap pl ll cs (k + 1) → LT s'.heap sl (SM.map pth) → View env m s' → p ∈ SM → Rd s'.heap (pth p) v → Q v s') :
    wpAny (model prog w) A (eval (.Subscript (.Name "some" p1) (.Call (.Name "_law_draw" p2) [.Name "pool" p3, .Call (.Name "len" p4) [.Name "some" p5] [] p6] [] p7) p8) env) Q E s :=
  Subscript_ ((Pe.cel (R := fun h v => v = .ref sl ∧ LT h sl (SM.map pth)) V h4 h5 h6 (fun h' l => ⟨rfl, hsl.le l⟩)).use (KB.refl _ _) fun v s₂ k₂ r => by
    obtain ⟨rfl, hsl₂⟩ := r _ (Le.refl _)
    have V₂ := V.le k₂.le
    refine draw_eval (many := ((SM.map pth).length : Int)) V₂ ok G (kB.trans k₂) hfr (hp.le k₂.le) hne (by rw [List.length_map]; omega) hk hcs hl (Pe.cel V₂ h1 h2 h3 (fun h' l => rfl))
      (Pe.lenL V₂ (G.le (kB.trans k₂).le) hlen (Pe.cel V₂ h4 h5 h6 (fun h' l => ⟨sl, rfl, hsl₂.le l⟩)) (by rw [List.length_map]; omega)) fun r t s₃ k₃ hp₃ hr => ?_
    have hsl₃ := hsl₂.kb k₃ (by simpa using hslpl)
    obtain ⟨items, n', ho, hrd⟩ := id hsl₃
    rw [List.length_map] at hr
    have hx : SM[r]? = some SM[r] := List.getElem?_eq_getElem (by omega)
    obtain ⟨v', hv', rv⟩ := hrd.get (i := r) (d := pth SM[r]) (by rw [List.getElem?_map, hx]; rfl)
    have hlen := hrd.length
    rw [List.length_map] at hlen
    refine tail_any (lst_of ho).typeIs slot_list_getitem.lookup (wpAny_getItem_list (lst_of ho) (by omega) (by omega) (by simpa using hv') ?_) (by with_unfolding_all rfl)
    exact h _ _ _ ((k₂.of_nil _).trans k₃) hp₃ hsl₃ (V₂.other k₃ (by simpa using hplL) (fun y c hc => by simpa using hpl y c hc)) (List.getElem_mem _) rv)
theorem def114 (w : World) : DefOk w 114 ["script"] :=
  ⟨by kernel_rfl, by kernel_rfl, by kernel_rfl, by kernel_rfl, by kernel_rfl, by kernel_rfl, by kernel_rfl, fun _ => by kernel_rfl, by kernel_rfl, by kernel_rfl, by kernel_rfl, by kernel_rfl, by kernel_rfl⟩
theorem law_spec {l : Addr} {vs : List Value} {ns : List Int} (ok : AOk A (n + 7)) (G : GG w s.heap) (hL : s.heap.IsList l vs.toArray) (hI : IntsAre vs ns) (hn : ns.length ≤ 63) :
    wpAny (model prog w) A (call (.ref 114) [.ref l]) (fun v s' => KB [] s s' ∧ v = .bool true) E s := by
  refine enterQ2 (def114 w) G ok (by kernel_rfl) (fun L x hx => ?_) ?_
  · simp at hx; rcases hx with rfl; kernel_rfl
  intro L₀ s₁ A' E' m ok' F hmm
  have m1 : m "script" = some (.ref l) := hmm ("script", .ref l) (by simp)
  have hcell : (envAt w 114 L₀).cells = [(("some" : Str), L₀ + 3), (("problem" : Str), L₀ + 2), (("pool" : Str), L₀ + 1)] := by kernel_rfl
  have hcS : (envAt w 114 L₀).cells.lookup ("some" : Str) = some (L₀ + 3) := by rw [hcell]; rfl
  have hcP : (envAt w 114 L₀).cells.lookup ("problem" : Str) = some (L₀ + 2) := by rw [hcell]; rfl
  have hcO : (envAt w 114 L₀).cells.lookup ("pool" : Str) = some (L₀ + 1) := by rw [hcell]; rfl
  have G' : ∀ {s'' : Shared} {m' : Str → Option Value}, Frm s (envAt w 114 L₀) m' s'' → GG w s''.heap := fun F' => G.le F'.kb.le
  have hcs : (ns.take 40).length < 1000 := by rw [List.length_take]; omega
  have hL₁ : s₁.heap.IsList l vs.toArray := by obtain ⟨o, ho, r⟩ := hL; exact ⟨o, F.kb.le _ _ ho, r⟩
  -- pool
  refine wpAny_execs_cons (wpAny_Assign_Name (wpAny_List_spliced (wpAny_mono (PeA.two (R := fun h v => Ls h ((ns.take 40).map .int) v) (S := fun h v => Rd h (.int 0) v) ?_ (Pe.int 0 _ _) (by rfl) (by rfl) E' s₁ _ (KB.refl _ _)) (fun us s₂ h₂ => ?_) fun _ _ z => z)) (by rfl))
  · rw [map_fm]
    refine Pe.compA (enc := Dt.int) (fun a => some (.int a)) [] (PeI.any ok'.handled ((Pe.luptoS (vs := vs) (ns := ns) (l := l) (b := 40) (Pe.loc F.view (by kernel_rfl) m1 (fun h' l' => ⟨rfl, by obtain ⟨o, ho, r⟩ := hL₁; exact ⟨o, l' _ _ ho, r⟩⟩)) hI (Pe.int 40 _ _) (by decide) (by omega)).mono fun h v r => r.ls)) (by rw [List.length_take]; omega) F.view
      ⟨by kernel_rfl, fun y c h => by simp at h, by decide, rfl, by decide, fun C => by kernel_rfl⟩ ?_
    intro a u s₁' C ha k₁ ru V off
    exact ⟨_, true, .int a, Asg.name V (by kernel_rfl) (by kernel_rfl) off, fun s₂ k₂ kt V₂ => ⟨PtL.nil, fun _ => Pe.intOf V₂ ((G' F).le k₂.le) (by kernel_rfl) (Pe.loc V₂ (by kernel_rfl) upd_self (fun h' l => (Rd.kt kt _ _ ru).le l))⟩, rfl⟩
  obtain ⟨k₂, r₂⟩ := h₂
  obtain ⟨v₁, v₂, rfl, ⟨ll, rfl, hll⟩, hv2⟩ := r₂ _ (Le.refl _)
  obtain ⟨t0, rfl⟩ := Rd.int_iff.mp hv2
  refine ⟨line_of_lt (by simp), ?_⟩
  have kp := k₂.trans (KB.push s₂ (lstObj #[.ref ll, .int 0 t0] 0) s₂.toks)
  have hpl1 : s₁.heap.get? s₂.heap.objs.size = none := fresh_ge k₂.le (Nat.le_refl _)
  have hpls : s.heap.get? s₂.heap.objs.size = none := unborn_le F.kb.le hpl1
  have hplm := (F.fresh hpl1).1
  have hllne : ll ≠ s₂.heap.objs.size := by obtain ⟨_, _, ho, _⟩ := hll; exact Nat.ne_of_lt (Heap.lt_size ho)
  have hll' := hll.le (Le.push s₂.heap (lstObj #[.ref ll, .int 0 t0] 0))
  have hpool' : (s₂.heap.push (lstObj #[.ref ll, .int 0 t0] 0)).IsList s₂.heap.objs.size #[.ref ll, .int 0 t0] := ⟨_, Heap.get?_push_size _ rfl, rfl, 0, rfl⟩
  have F2 := F.le kp
  refine F2.storeC (by kernel_rfl) hcO fun s₃ F₃ k₃ => ?_
  generalize hpl : s₂.heap.objs.size = pl at *
  have hplc : pl ≠ L₀ + 1 := fun h => hplm (h ▸ mem_mut_cell hcO)
  have hplo : pl ≠ (envAt w 114 L₀).locals := fun h => hplm (h ▸ List.mem_cons_self)
  have hplP : pl ≠ L₀ + 2 := fun h => hplm (h ▸ mem_mut_cell hcP)
  have hplS : pl ≠ L₀ + 3 := fun h => hplm (h ▸ mem_mut_cell hcS)
  have hllL : ll ≠ (envAt w 114 L₀).locals := F2.ne_locals hll'
  have hllO : ll ≠ L₀ + 1 := F2.ne_cell hll' hcO
  have hllP : ll ≠ L₀ + 2 := F2.ne_cell hll' hcP
  have hllS : ll ≠ L₀ + 3 := F2.ne_cell hll' hcS
  have hp₃ : PoolAt s₃.heap pl ll (ns.take 40) 0 :=
    PoolAt.kb (s := { s₂ with heap := s₂.heap.push (lstObj #[.ref ll, .int 0 t0] 0), toks := s₂.toks }) ⟨⟨t0, hpool'⟩, hll'⟩ k₃ (by simpa using hplc) (by simpa using hllO)
  generalize hcsd : ns.take 40 = cs at *
  have plX : ∀ a ∈ [pl], a ∉ mutA (envAt w 114 L₀) ∧ s.heap.get? a = none := by intro a ha; simp only [List.mem_singleton] at ha; subst ha; exact ⟨hplm, hpls⟩
  have pPl : ∀ {s'' : Shared} {m' : Str → Option Value} {pos : Pos}, Frm s (envAt w 114 L₀) m' s'' → m' "pool" = some (.ref pl) → Pe prog w A' (envAt w 114 L₀) s'' (.Name "pool" pos) (fun h v => v = .ref pl) := by
    intro s'' m' pos F' e
    exact Pe.cel F'.view (by kernel_rfl) hcO e (fun h' l => rfl)
  have c1 : upd m "pool" (Value.ref pl) "pool" = some (.ref pl) := upd_self
  generalize upd m "pool" (Value.ref pl) = m₃ at F₃ c1
  -- problem
  refine wpAny_execs_cons (wpAny_Assign_Name (problem_eval F₃.view ok' G F₃.kb hpls hp₃ hllne (by decide) hcs (by kernel_rfl) (pPl F₃ c1) fun vP s₄ P k' kd hPnew hk4 hp₄ hP₄ hg => ?_) (by rfl))
  refine (F₃.other kd plX).storeC (by kernel_rfl) hcP fun s₅ F₅ k₅ => ?_
  obtain ⟨pc, hall⟩ := good_pc hg
  have hp₅ := hp₄.kb k₅ (by simpa using hplP) (by simpa using hllP)
  have hPm : ∀ d, vP = .ref d → d ∉ mutA (envAt w 114 L₀) ∧ d ≠ pl := fun d e => ⟨(F₃.fresh (hPnew d e)).1, fun h => by
    have h1 := hPnew d e
    obtain ⟨⟨_, o, ho, _⟩, _⟩ := hp₃
    rw [h, ho] at h1; cases h1⟩
  have prE : ∀ {X : List Addr} {sa sb : Shared}, PrAt prog w sa.heap P vP → KB X sa sb → (∀ a ∈ X, a ∈ mutA (envAt w 114 L₀) ∨ a = pl ∨ sa.heap.get? a = none) → PrAt prog w sb.heap P vP := by
    intro X sa sb hh k hX
    obtain ⟨d, kvs, e, hs, hd, hp⟩ := hh
    refine ⟨d, kvs, e, hs, dictOf_kb hd k fun h => ?_, hp.kt k.kt⟩
    rcases hX d h with h1 | h1 | h1
    · exact (hPm d e).1 h1
    · exact (hPm d e).2 h1
    · have := dictOf_live hd; rw [h1] at this; cases this
  have hP₅ : PrAt prog w s₅.heap P vP := prE hP₄ k₅ (by intro a ha; simp only [List.mem_singleton] at ha; subst ha; exact .inl (mem_mut_cell hcP))
  have d1 := upd2 (x := "problem") (v := vP) c1
  have d2 : upd m₃ "problem" vP "problem" = some vP := upd_self
  generalize upd m₃ "problem" vP = m₅ at F₅ d1 d2
  have pP : ∀ {s'' : Shared} {m' : Str → Option Value} {pos : Pos}, Frm s (envAt w 114 L₀) m' s'' → m' "problem" = some vP → PrAt prog w s''.heap P vP → Pe prog w A' (envAt w 114 L₀) s'' (.Name "problem" pos) (fun h v => PrAt prog w h P v) := by
    intro s'' m' pos F' e hh
    exact Pe.cel F'.view (by kernel_rfl) hcP e (fun h' l => hh.le l)
  -- check_problem(problem)
  refine wpAny_execs_cons (wpAny_Expr ((Pe.check F₅.view (G' F₅) ok' (by kernel_rfl) pc (pP F₅ d2 hP₅)).use (KB.refl _ _) fun v s₆ k₆ r₆ => ?_) (by rfl) (by rfl))
  obtain rfl := r₆ _ (Le.refl _)
  show wpAny _ A' (execs _ _) _ _ s₆
  have F₆ := F₅.le k₆
  have hP₆ := hP₅.le k₆.le
  have hp₆ := hp₅.le k₆.le
  -- some
  have hSM : (allPaths P ++ [[], [0]]).map pth = (allPaths P).map pth ++ [pth [], pth [0]] := by rw [List.map_append]; rfl
  refine wpAny_execs_cons ?_
  refine S.assign (R := fun h v => LN s₆.heap h ((allPaths P ++ [[], [0]]).map pth) v) ?_ (fun vS s₇ k₇ r₇ => ?_) (by rfl)
  · rw [hSM]
    refine Pe.cat (Pe.allComp (c := L₀ + 2) ok' F₆.view (G' F₆) pc.toPG (by kernel_rfl) (by kernel_rfl) hcP d2 hP₆
      ⟨by kernel_rfl, fun y c h => ?_, by decide, rfl, by decide, fun C => by kernel_rfl⟩ (fun C => by kernel_rfl) (fun C => by kernel_rfl) (fun C => by kernel_rfl))
      (Pe.list (ds := [pth [], pth [0]]) (PeL.cons (Pe.tuple (ds := []) PeL.nil (by decide)) (PeL.cons (Pe.tuple (ds := [.int 0]) (PeL.cons (Pe.int 0 _ _) PeL.nil) (by decide)) PeL.nil)) (by decide)) (by simp; omega)
    rw [List.lookup_cons] at h
    cases h1 : y == ("problem" : Str) with
    | true => rw [h1] at h; have e := eq_of_beq h1; subst e; cases h; exact hcP
    | false => rw [h1] at h; cases h
  obtain ⟨sl, rfl, hsl0, hsl⟩ := r₇ _ (Le.refl _)
  refine (F₆.le k₇).storeC (by kernel_rfl) hcS fun s₈ F₈ k₈ => ?_
  have k78 : KB [L₀ + 3] s₆ s₈ := (k₇.of_nil _).trans k₈
  have hp₈ := (hp₆.le k₇.le).kb k₈ (by simpa using hplS) (by simpa using hllS)
  have hP₈ : PrAt prog w s₈.heap P vP := prE (hP₆.le k₇.le) k₈ (by intro a ha; simp only [List.mem_singleton] at ha; subst ha; exact .inl (mem_mut_cell hcS))
  have hslm : sl ∉ mutA (envAt w 114 L₀) := (F₆.fresh hsl0).1
  have hsl₈ : LT s₈.heap sl ((allPaths P ++ [[], [0]]).map pth) := hsl.kb k₈ (by simp only [List.mem_singleton]; exact fun h => hslm (h ▸ mem_mut_cell hcS))
  have hslpl : sl ≠ pl := by rintro rfl; obtain ⟨⟨_, o, ho, _⟩, _⟩ := hp₆; rw [hsl0] at ho; cases ho
  have f1 := upd2 (x := "some") (v := Value.ref sl) d1
  have f2 := upd2 (x := "some") (v := Value.ref sl) d2
  have f3 : upd m₅ "some" (Value.ref sl) "some" = some (.ref sl) := upd_self
  generalize upd m₅ "some" (Value.ref sl) = m₈ at F₈ f1 f2 f3
  generalize hSMd : allPaths P ++ [[], [0]] = SM at *
  have hSMl : 0 < SM.length ∧ SM.length ≤ 11 := by rw [← hSMd]; simp; omega
  have hSMs : ∀ p ∈ SM, p.length < 1000 := by
    intro p hp
    rw [← hSMd] at hp
    rcases List.mem_append.mp hp with hp | hp
    · have := (pc.first _ _ (mem_allPaths pc.toPG hp)).2; omega
    · simp at hp; rcases hp with rfl | rfl <;> simp
  have hpSl : ∀ {X : List Addr} {sa sb : Shared}, LT sa.heap sl (SM.map pth) → KB X sa sb → (∀ a ∈ X, a = pl ∨ a ∈ mutA (envAt w 114 L₀) ∨ sa.heap.get? a = none) → LT sb.heap sl (SM.map pth) := by
    intro X sa sb hh k hX
    refine hh.kb k fun h => ?_
    rcases hX sl h with h1 | h1 | h1
    · exact hslpl h1
    · exact hslm h1
    · have := hh.live; rw [h1] at this; cases this
  have hlivepl : (s₈.heap.get? pl).isSome = true := by obtain ⟨⟨_, o, ho, _⟩, _⟩ := hp₈; rw [ho]; rfl
  -- pairs
  have hk20 : k' ≤ 20 := by omega
  refine wpAny_execs_cons ?_
  refine S.assignCompI (s₀ := s) (m := m₈) (tn := "turn") (cl := [(("some" : Str), L₀ + 3), (("pool" : Str), L₀ + 1)]) [pl] (fun n i s' => n ≤ 3 ∧ PoolAt s'.heap pl ll cs (k' + 1 + 2 * i) ∧ LT s'.heap sl (SM.map pth)) (fun p => p.1 ∈ SM ∧ p.2 ∈ SM)
    F₈ (by kernel_rfl) (by rw [hcell]; rfl) plX (fun n i s₁ h a ha => ?_) (fun a ha => ?_) ⟨by kernel_rfl, fun y c h => lookup_two hcS hcO h, by decide, rfl, by decide, fun C => by kernel_rfl⟩ (fun C => by kernel_rfl) (by kernel_rfl)
    (fun n i sa sb Z h k hZ => ?_) (fun E Q' hQ => ?_) (fun n i v sa C hi ka hIa Va E Q' hQ => ?_) (fun n D sb W Fb kb hIb hDb hWl hnn hWg hD0 => ?_) (by rfl) (fun _ => rfl)
  · simp only [List.mem_singleton] at ha; subst ha
    obtain ⟨⟨_, o, ho, _⟩, _⟩ := h.2.1; rw [ho]; rfl
  · simp only [List.mem_singleton] at ha; subst ha; exact hlivepl
  · obtain ⟨h1, h2, h3⟩ := h
    have hZ' : ∀ a, (s₈.heap.get? a).isSome = true → a ≠ (envAt w 114 L₀).locals → a ∉ Z := fun a hl hne hm => by
      rcases hZ a hm with h | h
      · rw [h] at hl; cases hl
      · exact hne h
    exact ⟨h1, h2.kb k (hZ' _ hlivepl hplo) (hZ' _ hp₈.2.live hllL), h3.kb k (hZ' _ hsl₈.live (fun h => hslm (h ▸ List.mem_cons_self)))⟩
  · refine range_iter ok' F₈.view (G' F₈) (by kernel_rfl) (draw_eval (many := 4) F₈.view ok' G F₈.kb hpls hp₈ hllne (by decide) (by omega) hcs (by kernel_rfl) (pPl F₈ f1) (Pe.int 4 _ _) fun r t sd kd hpd hr => ?_)
    refine ⟨r, t, rfl, by omega, fun s' I wr fp St ks T hSt hwr hfp hl1 hl2 => hQ r s' I wr fp St (kd.trans (ks.of_nil _)) (by omega) ⟨by omega, by simpa using hpd.le ks.le, (hpSl hsl₈ kd (by intro a ha; simp only [List.mem_singleton] at ha; exact .inl ha)).le ks.le⟩ T hSt (fun a ha => fresh_kb kd ?_ (hwr a ha)) hl1 (fun a ha => fresh_kb kd ?_ (hfp a ha)) hl2⟩
    · intro a ha; simp only [List.mem_singleton] at ha; subst ha; obtain ⟨⟨_, o, ho, _⟩, _⟩ := hpd; rw [ho]; rfl
    · intro a ha; simp only [List.mem_singleton] at ha; subst ha; obtain ⟨⟨_, o, ho, _⟩, _⟩ := hpd; rw [ho]; rfl
  · obtain ⟨hn3, hpa, hsla⟩ := hIa
    have hCpl : C ≠ pl := by
      rintro rfl
      obtain ⟨ml, ⟨o, es, ep, ho, hd, _⟩, _⟩ := Va.ns
      obtain ⟨⟨_, o', ho', _, n', hd'⟩, _⟩ := hpa
      rw [show sa.heap.get? C = some o from ho] at ho'; cases ho'; rw [hd'] at hd; cases hd
    have kBa : KB [] s sa := F₈.kb.drop ka (fun a ha => (plX a ha).2)
    have hcl : ∀ y c, List.lookup y [(("some" : Str), L₀ + 3), (("pool" : Str), L₀ + 1)] = some c → c ≠ pl := fun y c h e => hplm (e ▸ mem_mut_cell (lookup_two hcS hcO h))
    refine wpAny_Tuple_spliced (args_cons (pick_eval (k := k' + 1 + 2 * i) (cp := L₀ + 1) (cS := L₀ + 3) Va ok' G kBa hpls hpa hllne (by omega) hcs hsla hslpl hSMl (by kernel_rfl) (by kernel_rfl) (by kernel_rfl) (by kernel_rfl) (upd2 (cap_of f1)) (by kernel_rfl) (by kernel_rfl) (upd2 (cap_of f3)) hcl hCpl
      fun p₁ v₁ sb kb hpb hslb Vb hp₁ hr₁ => args_cons (pick_eval (k := k' + 1 + 2 * i + 1) (cp := L₀ + 1) (cS := L₀ + 3) Vb ok' G (kBa.drop kb (fun a ha => (plX a ha).2)) hpls hpb hllne (by omega) hcs hslb hslpl hSMl (by kernel_rfl) (by kernel_rfl) (by kernel_rfl) (by kernel_rfl) (upd2 (cap_of f1)) (by kernel_rfl) (by kernel_rfl) (upd2 (cap_of f3)) hcl hCpl
      fun p₂ v₂ sc kc hpc hslc Vc hp₂ hr₂ => args_nil ⟨line_of_lt (by simp), ?_⟩)))
    have kt := KB.push sc (tupObj #[v₁, v₂] 0) sc.toks
    refine hQ _ _ (p₁, p₂) ((kb.trans kc).trans (kt.of_nil _)) ⟨hn3, ?_, hslc.le kt.le⟩ (Rd.tup_iff.mpr ⟨_, [v₁, v₂], 0, rfl, Heap.get?_push_size _ rfl, RdL.cons ((hr₁.kb kc).le kt.le) (RdL.cons (hr₂.le kt.le) RdL.nil)⟩) ⟨hp₁, hp₂⟩
    have : k' + 1 + 2 * (i + 1) = k' + 1 + 2 * i + 1 + 1 := by omega
    rw [this]; exact hpc.le kt.le
  obtain ⟨hn3, hpb, hslb⟩ := hIb
  have hPb : PrAt prog w sb.heap P vP := prE hP₈ kb (by
    intro a ha
    rcases List.mem_cons.mp ha with h | h
    · rw [h]; exact .inl List.mem_cons_self
    · simp only [List.mem_singleton] at h; exact .inr (.inl h))
  have g1 := upd2 (x := "pairs") (v := Value.ref D) f1
  have g2 := upd2 (x := "pairs") (v := Value.ref D) f2
  have g3 : upd m₈ "pairs" (Value.ref D) "pairs" = some (.ref D) := upd_self
  generalize upd m₈ "pairs" (Value.ref D) = mb at Fb g1 g2 g3
  have hWs : WSmall W := ⟨by omega, fun p hp => ⟨hSMs _ (hWg p hp).1, hSMs _ (hWg p hp).2⟩⟩
  have pD : ∀ {pos : Pos}, Pe prog w A' (envAt w 114 L₀) sb (.Name "pairs" pos) (fun h v => Ls h (W.map pair) v) := Pe.loc Fb.view (by kernel_rfl) g3 (fun h' l' => ⟨D, rfl, hDb.le l'⟩)
  -- told just as round
  show wpAny _ A' (execs _ _) _ _ sb
  refine wpAny_execs_cons (S.ite (b := !(isWheelM P W == isRoundM P W)) (Pt.cmp (Pe.neB (Pe.is_wheel Fb.view (G' Fb) ok' (by kernel_rfl) pc.toPG hWs (pP Fb g2 hPb) pD) (Pe.is_round Fb.view (G' Fb) ok' (by kernel_rfl) pc.toPG hWs (pP Fb g2 hPb) pD))) fun sc kc => ?_)
  rw [if_neg (by rw [wheel_round pc.toPG]; simp)]
  refine wpAny_execs_nil ?_
  have Fc := Fb.le kc
  have hPc := hPb.le kc.le
  have hpc := hpb.le kc.le
  -- wheel
  refine wpAny_execs_cons (S.assign (Pe.find_wheel Fc.view (G' Fc) ok' (by kernel_rfl) pc.toPG (pP Fc g2 hPc)) fun vW sd kd rW => ?_)
  refine (Fc.le kd).storeL (by kernel_rfl) (by rw [hcell]; rfl) fun se Fe ke => ?_
  have hPe : PrAt prog w se.heap P vP := prE (hPc.le kd.le) ke (by intro a ha; simp only [List.mem_singleton] at ha; rw [ha]; exact .inl List.mem_cons_self)
  have hpe := (hpc.le kd.le).kb ke (by simpa using hplo) (by simpa using hllL)
  have h1 := upd2 (x := "wheel") (v := vW) g1
  have h2 := upd2 (x := "wheel") (v := vW) g2
  have h3 : upd mb "wheel" vW "wheel" = some vW := upd_self
  generalize upd mb "wheel" vW = me at Fe h1 h2 h3
  have pWh : ∀ {s'' : Shared} {pos : Pos}, KB [] se s'' → Pe prog w A' (envAt w 114 L₀) s'' (.Name "wheel" pos) (fun h v => v = vW) := fun k => Pe.loc (Fe.le k).view (by kernel_rfl) h3 (fun h' l => rfl)
  -- none, or a wheel
  obtain ⟨R, hRl, hRs, hRW⟩ : ∃ R : List (Path × Path), R.length ≤ 9 ∧ WSmall R ∧ ((vW = .none ∧ R = []) ∨ (vW ≠ .none ∧ isWheelM P R = true ∧ Ls se.heap (R.map pair) vW)) := by
    rcases rW _ (Le.refl _) with h | ⟨R, hl, hrow, hls⟩
    · exact ⟨[], by simp, ⟨by simp, fun p hp => by simp at hp⟩, .inl ⟨h, rfl⟩⟩
    · obtain ⟨lr, e, hlr⟩ := hls
      refine ⟨R, by omega, row_small pc.toPG (by omega) hl hrow, .inr ⟨(by rw [e]; intro h; cases h), row_wheel pc.toPG hrow, lr, e, hlr.kb ke ?_⟩⟩
      simp only [List.mem_singleton]; exact (Fc.le kd).ne_locals hlr
  have pWl : vW ≠ .none → Ls se.heap (R.map pair) vW → ∀ {s'' : Shared} {pos : Pos}, KB [] se s'' → Pe prog w A' (envAt w 114 L₀) s'' (.Name "wheel" pos) (fun h v => Ls h (R.map pair) v) := fun _ hls {s''} {pos} k => Pe.loc (Fe.le k).view (by kernel_rfl) h3 (fun h' l => hls.le (k.le.trans l))
  refine wpAny_execs_cons ?_
  refine S.ite (b := false) ?_ (fun sf kf => ?_)
  · rcases hRW with ⟨hv, _⟩ | ⟨hv, hw, hls⟩
    · refine Pt.eq (Pt.and_cons (a := !(vW == .none)) (b := true) (Pt.cmp (Pe.isNotNone (pWh (KB.refl _ _)))) (fun h => ?_)) (by rw [hv]; rfl)
      rw [hv] at h; cases h
    · have hvb : (vW == .none) = false := beq_eq_false_iff_ne.mpr hv
      have hr : isRoundM P R = true := by rw [← wheel_round pc.toPG]; exact hw
      refine Pt.eq (Pt.and_cons (Pt.cmp (Pe.isNotNone (pWh (KB.refl _ _)))) fun _ => Pt.and_cons (Pt.not (Pt.and_cons (Pt.val (Pe.is_wheel Fe.view (G' Fe) ok' (by kernel_rfl) pc.toPG hRs (pP Fe h2 hPe) (pWl hv hls (KB.refl _ _)))) fun _ => Pt.and_cons (Pt.val (Pe.is_round Fe.view (G' Fe) ok' (by kernel_rfl) pc.toPG hRs (pP Fe h2 hPe) (pWl hv hls (KB.refl _ _)))) fun _ => Pt.and_nil)) fun _ => Pt.and_nil) ?_
      rw [hw, hr, hvb]; rfl
  rw [if_neg (by simp)]
  refine wpAny_execs_nil ?_
  have Ff := Fe.le kf
  -- row
  refine wpAny_execs_cons ?_
  refine S.assign (R := fun h v => Ls h (R.map pair) v) ?_ (fun vR sg kg rR => ?_) (by rfl)
  · rcases hRW with ⟨hv, hR⟩ | ⟨hv, hw, hls⟩
    · refine Pe.ifexp (b := true) (Pt.cmp ((Pe.isNone (pWh kf)).mono fun h v r => by rw [hv] at r; exact r)) (fun _ => (Pe.list PeL.nil (by decide)).mono fun h v r => by rw [hR]; exact r) (fun h => by cases h)
    · have hvb : (vW == .none) = false := beq_eq_false_iff_ne.mpr hv
      refine Pe.ifexp (b := false) (Pt.cmp ((Pe.isNone (pWh kf)).mono fun h v r => by rw [hvb] at r; exact r)) (fun h => by cases h) (fun _ => pWl hv hls kf)
  obtain ⟨lr, rfl, hlr⟩ := rR _ (Le.refl _)
  refine (Ff.le kg).storeL (by kernel_rfl) (by rw [hcell]; rfl) fun sh Fh kh => ?_
  have hlrL : lr ≠ (envAt w 114 L₀).locals := (Ff.le kg).ne_locals hlr
  have hlrh := hlr.kb kh (by simpa using hlrL)
  have hPh : PrAt prog w sh.heap P vP := prE ((hPe.le kf.le).le kg.le) kh (by intro a ha; simp only [List.mem_singleton] at ha; rw [ha]; exact .inl List.mem_cons_self)
  have hph := ((hpe.le kf.le).le kg.le).kb kh (by simpa using hplo) (by simpa using hllL)
  have i1 := upd2 (x := "row") (v := Value.ref lr) h1
  have i2 := upd2 (x := "row") (v := Value.ref lr) h2
  have i3 : upd me "row" (Value.ref lr) "row" = some (.ref lr) := upd_self
  generalize upd me "row" (Value.ref lr) = mh at Fh i1 i2 i3
  have hlrpl : lr ≠ pl := hlrh.ne_pool hph
  -- spot
  refine wpAny_execs_cons (wpAny_Assign_Name (draw_eval (many := ((R.map pair).length : Int) + 1) Fh.view ok' G Fh.kb hpls hph hllne (by omega) (by omega) hcs (by kernel_rfl) (pPl Fh i1)
    (Pe.add (Pe.lenL Fh.view (G' Fh) (by kernel_rfl) (Pe.loc Fh.view (by kernel_rfl) i3 (fun h' l' => ⟨lr, rfl, hlrh.le l'⟩)) (by rw [List.length_map]; omega)) (Pe.int 1 _ _)) fun r t si ki hpi hr => ?_) (by rfl))
  have hlri := hlrh.kb ki (by simpa using hlrpl)
  have hPi : PrAt prog w si.heap P vP := prE hPh ki (by intro a ha; simp only [List.mem_singleton] at ha; exact .inr (.inl ha))
  refine (Fh.other ki plX).storeL (by kernel_rfl) (by rw [hcell]; rfl) fun sj Fj kj => ?_
  have hlrj := hlri.kb kj (by simpa using hlrL)
  have hPj : PrAt prog w sj.heap P vP := prE hPi kj (by intro a ha; simp only [List.mem_singleton] at ha; rw [ha]; exact .inl List.mem_cons_self)
  have j2 := upd2 (x := "spot") (v := Value.int r t) i2
  have j3 := upd2 (x := "spot") (v := Value.int r t) i3
  have j4 : upd mh "spot" (Value.int r t) "spot" = some (.int r t) := upd_self
  generalize upd mh "spot" (Value.int r t) = mj at Fj j2 j3 j4
  have pR : ∀ {pos : Pos}, Pe prog w A' (envAt w 114 L₀) sj (.Name "row" pos) (fun h v => Ls h (R.map pair) v) := Pe.loc Fj.view (by kernel_rfl) j3 (fun h' l' => ⟨lr, rfl, hlrj.le l'⟩)
  have pS : ∀ {pos : Pos}, Pe prog w A' (envAt w 114 L₀) sj (.Name "spot" pos) (fun h v => Rd h (.int r) v) := Pe.loc Fj.view (by kernel_rfl) j4 (fun h' l' => Rd.int _ _)
  have hVs : WSmall (R.take r ++ [([], [])] ++ R.drop r) := ⟨by simp; omega, fun p hp => by
    simp only [List.mem_append, List.mem_singleton] at hp
    rcases hp with (hp | hp) | hp
    · exact hRs.items _ (List.mem_of_mem_take hp)
    · subst hp; simp
    · exact hRs.items _ (List.mem_of_mem_drop hp)⟩
  have hRm : (R.map pair).length < 100000 := by rw [List.length_map]; omega
  refine wpAny_execs_cons (S.ret (R := fun h v => Rd h (.bool true) v) ?_ fun v sk kk rr => ?_)
  · refine (Pe.andE (Pe.notE (Pe.is_wheel (W := R.take r ++ [([], [])] ++ R.drop r) Fj.view (G' Fj) ok' (by kernel_rfl) pc.toPG hVs (pP Fj j2 hPj) ?_)) (Pe.notE (Pe.is_wheel (W := []) Fj.view (G' Fj) ok' (by kernel_rfl) pc.toPG ⟨by simp, fun p hp => by simp at hp⟩ (pP Fj j2 hPj) (Pe.list (ds := []) PeL.nil (by decide))))).mono fun h v r => ?_
    · refine (Pe.cat ((Pe.cat ((Pe.lupto pR pS (by omega) hRm).mono fun h v r => r.ls) (Pe.list (ds := [pair ([], [])]) (PeL.cons (Pe.tuple (ds := [pth [], pth []]) (PeL.cons (Pe.tuple (ds := []) PeL.nil (by decide)) (PeL.cons (Pe.tuple (ds := []) PeL.nil (by decide)) PeL.nil)) (by decide)) PeL.nil) (by decide)) ?_).mono fun h v r => r.ls) ((Pe.lfrom pR pS (by omega) hRm).mono fun h v r => r.ls) ?_).mono fun h v q => ?_
      · simp only [List.length_take, List.length_map, List.length_singleton]; omega
      · simp only [List.length_append, List.length_take, List.length_drop, List.length_map, List.length_singleton]; omega
      · have := q.ls
        rw [Int.toNat_natCast, ← List.map_take, ← List.map_drop] at this
        rw [List.map_append, List.map_append]; exact this
    · rw [wheel_hole, wheel_nil] at r; exact r
  obtain rfl := Rd.bool_iff.mp (rr _ (Le.refl _))
  exact ⟨Fj.kb.trans kk, rfl⟩
end
end Mine
end


-- FIN
section
set_option maxHeartbeats 8000000
namespace Mine
theorem okA : AOk callerA 8 := ⟨by rfl, by decide, by decide⟩
theorem claim_post (args : List WData) : PySem.Challenge.rw_rh0195_01.row.claim.post args (.bool true) args = true := by
  first
  | (show (_ && _) = true; simp [WShape.has, OpenLaw.row, Challenge.rw_rh0195_01, WCond.holds, WTm.value]; done)
  | (simp [RowW.claim, OpenLaw.row, WShape.has, WCond.holds, WTm.value]; done)
  | with_unfolding_all rfl
theorem claim_raises (args : List WData) (cls : ExcName) : PySem.Challenge.rw_rh0195_01.row.claim.raises args cls = false := by rfl
theorem the_end : PySem.Challenge.rw_rh0195_01.Holds := hd (by
  k_fill
  intro w s₀ s₁ mg mb G Y fa o pm cd doc dV kV ho hd hcd hD hmg hg args vals as hpre hlay hrd hwl hlo
  have KX := kIn_of Y
  refine Ground.open G ?_
  intro T B D TE TW
  clear hcd hD Y B D TE TW hd ho
  have hfa : fa = 114 := by
    have h1 := mg_of (n := "law") (v := .ref 114) KX T.g (by kernel_rfl)
    have h2 := hmg.symm.trans h1
    cases h2; rfl
  subst hfa
  wrow_args hpre hlay hrd hwl hlo
  rename_i hL ra w1 r0 hI hr hc1 hc2
  refine wpAny_mono (law_spec okA ⟨KX, _, _, _, _, topRead_of T⟩ hL hI (by omega)) (fun v s' h => ?_) fun _ _ z => z
  obtain ⟨kb, rfl⟩ := h
  exact GoodW.toG ⟨.inl ⟨.bool true, .bool true, [], rfl, claim_raises _, .bool true, claim_post _, unshared_nil⟩, kb.le, kb.os, kb.gens.trans hg⟩)
end Mine
theorem PySem.Challenge.cw_rh0195_01_holds : PySem.Challenge.rw_rh0195_01.Holds := by
  exact Mine.the_end
end
