import PyProof.Rows.All
import Wide.All
import OpenK.AllK
import Wide.FinOn
import Lean
import PySem.Challenge.RW_pc0059_02
open PySem PySem.W PyProof.Rows PySem.Calls PySem.Spec
set_option Elab.async false
set_option maxRecDepth 100000
set_option maxHeartbeats 0
set_option linter.all false
set_option genSizeOf false
set_option genInjectivity false
set_option compiler.extract_closed false
namespace Mine
noncomputable def tags : List String := ["int", "bool", "str", "set", "none", "name", "bin", "un", "index", "call",
  "array", "array2", "range", "gen", "comp", "if", "let", "sum", "forall", "max",
  "min", "p", "q", "all_different", "abs", "i", "x", "b", "y", "s",
  "k", "v", "w", "r", "t", "z", "g", "h", "+", "/\\",
  "<", "-", "*", "div", "mod", "^", "\\/", "->", "<-", "<->",
  "xor", "union", "diff", "symdiff", "intersect", "subset", "superset", "in", "++", "<=",
  ">", ">=", "=", "==", "!=", "cells", "place", "spot", "predicate", "m",
  "int_any", "feed", "many", "way", "base", "floors", "array1d", "array2d", "sign", "inner",
  "one", "found", "lap", "names", "source", "op", "what", "rows", "where", "kind",
  "varies", "dims", "node", "scopes", "notes", "bad", "other", "is_fit", "body", "maker",
  "fault", "due", "script", "self", "asked", "predicates", "asks", "assigned", "is_shown", "called",
  "kinds", "wanted", "late", "part", "indexes", "is_var", "first", "item", "kind_type", "param",
  "waiting", "bases", "text", "push", "pop", "put", "kind_of", "append", "get", "turned",
  "chain", "indexed", "gathered", "generated", "chosen", "within", "joined", "put_together", "compared", "goes_through",
  "put_names", "want_each", "open_call", "listing_call", "extreme", "plain_kind", "note_predicate", "of_all", "INT", "BOOL",
  "INTS", "BOOLS", "KNOWN", "KNOWNS", "ROWS", "SET", "TEXT", "TEXTS", "SETS", "TRUTHS",
  "CALLS", "OPEN_CALLS", "kind_text", "fits", "want", "common", "Names", "Kinds", "_law_world", "_law_takes",
  "_law_dip", "_law_spot", "_law_leaf", "_law_expr", "_law_rows", "_law_made", "_law_may", "_law_kind", "_law_joined", "_law_element",
  "_law_through", "_law_heard", "law", "KindFault", "list", "dict", "sorted", "len", "tuple", "enumerate",
  "zip", "var ", "nothing", "", "array of ", " dimensions of ", ": ", " is wanted, not ", " beside ", " is declared twice",
  " is not declared", " is no expression", "union2", " does not go through anything", "where2", "an array is no element", " comes twice in a generator", "a set, or an array, is gone through, not ", " has not ", " indexes",
  " is indexed by what is known alone", "..", " is no operation", ": arrays are not compared", " has ", " arguments, not ", " is no function of ", " arguments", "show", "fix",
  "length", "index_set", "index_set_1of2", "index_set_2of2", "index2", " is a predicate already", "++: texts or arrays are wanted, not ", "rows of unlike lengths", "super", "__init__", "row", "sides",
  "bool2int", "pow", "product", "exists", "count", "card", "array_union", "array_intersect", "xorall", "iffall", "concat", "join", "alldifferent", "circuit", "increasing", "decreasing", "inverse", "lex_less", "lex_lesseq", "lex_greater", "lex_greatereq", "element", "table", "cumulative", "disjunctive", "regular", "value_precede", "global_cardinality", "global_cardinality_low_up", "nvalue", "at_least", "at_most", "exactly", "maximum", "minimum", "set2array", "reverse", "sort", "assert"]
noncomputable def tg (n : Nat) : Str := match tags[n]? with
  | some x => Str.ofString x
  | none => ⟨#[10000000 + n]⟩
theorem tags_nodup : (tags.map Str.ofString).Nodup := by decide +kernel
theorem tags_low : ∀ x ∈ tags, (Str.ofString x).cps.all (· < 10000000) = true := by decide +kernel
theorem Zjz {i j : Nat} (h : tg i = tg j) : i = j := by
  unfold tg at h
  cases hi : tags[i]? with
  | none =>
    rw [hi] at h
    cases hj : tags[j]? with
    | none =>
      rw [hj] at h
      simp only [Str.mk.injEq, Array.mk.injEq, List.cons.injEq, and_true] at h
      lia
    | some y =>
      rw [hj] at h
      simp only at h
      have q := tags_low y (List.mem_of_getElem? hj)
      rw [← h] at q
      simp at q
      lia
  | some x =>
    rw [hi] at h
    cases hj : tags[j]? with
    | none =>
      rw [hj] at h
      simp only at h
      have q := tags_low x (List.mem_of_getElem? hi)
      rw [h] at q
      simp at q
      lia
    | some y =>
      rw [hj] at h
      simp only at h
      have e1 : (tags.map Str.ofString)[i]? = some (Str.ofString x) := by rw [List.getElem?_map, hi]; rfl
      have e2 : (tags.map Str.ofString)[j]? = some (Str.ofString x) := by rw [List.getElem?_map, hj, h]; rfl
      obtain ⟨li, ei⟩ := List.getElem?_eq_some_iff.mp e1
      obtain ⟨lj, ej⟩ := List.getElem?_eq_some_iff.mp e2
      exact (List.getElem_inj tags_nodup).mp (ei.trans ej.symm)
theorem Zcm {i j : Nat} (h : i ≠ j) : tg i ≠ tg j := fun e => h (Zjz e)
theorem Zzk (n : Nat) : (tg n).length ≤ 64 := by
  unfold tg
  cases h : tags[n]? with
  | none => show (1 : Nat) ≤ 64; lia
  | some x =>
    have : ∀ x ∈ tags, (Str.ofString x).length ≤ 64 := by decide +kernel
    exact this x (List.mem_of_getElem? h)
set_option genInjectivity true in
inductive PV where
  | none
  | bool (b : Bool)
  | int (i : Int)
  | tag (n : Nat)
  | msg (n : Nat)
  | tup (vs : List PV)
  | obj (a : Addr)
  | cd (a : Addr)
  deriving Inhabited
inductive PO where
  | list (vs : List PV)
  | dict (es : List (Nat × PV))
  | attrs (es : List (Nat × PV))
  | inst (c d : Addr)
noncomputable abbrev Store := Addr → Option PO
noncomputable def Store.upd (σ : Store) (a : Addr) (o : PO) : Store := fun x => if x = a then some o else σ x
noncomputable abbrev Loc := List (Nat × PV)
noncomputable def Loc.get : Loc → Nat → Option PV
  | [], _ => none
  | (u, v) :: r, t => if u = t then some v else Loc.get r t
theorem Zbn {u t : Nat} {v : PV} {r : Loc} : Loc.get ((u, v) :: r) t = if u = t then some v else Loc.get r t := rfl
mutual
inductive VRel (h : Heap) : PV → Value → Prop
  | none : VRel h .none .none
  | bool (b : Bool) : VRel h (.bool b) (.bool b)
  | int (i : Int) (t : Tok) : VRel h (.int i) (.int i t)
  | tag (n : Nat) (t : Tok) : VRel h (.tag n) (.str (tg n) t)
  | msg {n : Nat} {x : Str} {t : Tok} : x.length ≤ n → VRel h (.msg n) (.str x t)
  | tup {a : Addr} {o : Obj} {n : Nat} {vs : List PV} {items : List Value} : h.get? a = some o → o.cls = .type "tuple" → o.data = .seq items.toArray n → VRels h vs items → VRel h (.tup vs) (.ref a)
  | obj (a : Addr) : VRel h (.obj a) (.ref a)
  | cd (a : Addr) : VRel h (.cd a) (.ref a)
inductive VRels (h : Heap) : List PV → List Value → Prop
  | nil : VRels h [] []
  | cons {p : PV} {v : Value} {ps : List PV} {vs : List Value} : VRel h p v → VRels h ps vs → VRels h (p :: ps) (v :: vs)
end
noncomputable def TupKeep (h h' : Heap) : Prop := ∀ a o, h.get? a = some o → o.cls = .type "tuple" → h'.get? a = some o
theorem TupKeep.refl (h : Heap) : TupKeep h h := fun _ _ e _ => e
theorem TupKeep.trans {h h₁ h₂ : Heap} (x : TupKeep h h₁) (y : TupKeep h₁ h₂) : TupKeep h h₂ := fun a o e c => y a o (x a o e c) c
theorem VRel.mono {h h' : Heap} (k : TupKeep h h') {p : PV} {v : Value} (r : VRel h p v) : VRel h' p v :=
  VRel.rec (motive_1 := fun p v _ => VRel h' p v) (motive_2 := fun ps vs _ => VRels h' ps vs) .none .bool .int .tag (fun e => .msg e) (fun e c d _ ih => .tup (k _ _ e c) c d ih) .obj .cd .nil (fun _ _ a b => .cons a b) r
theorem VRels.mono {h h' : Heap} (k : TupKeep h h') {ps : List PV} {vs : List Value} (r : VRels h ps vs) : VRels h' ps vs :=
  VRels.rec (motive_1 := fun p v _ => VRel h' p v) (motive_2 := fun ps vs _ => VRels h' ps vs) .none .bool .int .tag (fun e => .msg e) (fun e c d _ ih => .tup (k _ _ e c) c d ih) .obj .cd .nil (fun _ _ a b => .cons a b) r
inductive TupI (h : Heap) (vs : List PV) : Value → Prop
  | mk (a : Addr) (o : Obj) (n : Nat) (items : List Value) (e : h.get? a = some o) (c : o.cls = .type "tuple") (d : o.data = .seq items.toArray n) (r : VRels h vs items) : TupI h vs (.ref a)
inductive ConsI (h : Heap) (p : PV) (ps : List PV) : List Value → Prop
  | mk (v : Value) (vs : List Value) (a : VRel h p v) (r : VRels h ps vs) : ConsI h p ps (v :: vs)
section
variable {h : Heap} {v : Value}
theorem so {α : Type _} {a b : α} (h : some a = some b) : a = b := Option.some.inj h
theorem Zw {a b : String} (h : ¬ a = b) : Value.type a ≠ .type b := fun z => h (Value.type.inj z)
theorem Znt (r : VRel h .none v) : v = .none := by cases r; rfl
theorem Zgk {b : Bool} (r : VRel h (.bool b) v) : v = .bool b := by cases r; rfl
theorem Zau {a : Addr} (r : VRel h (.obj a) v) : v = .ref a := by cases r; rfl
theorem cdE {a : Addr} (r : VRel h (.cd a) v) : v = .ref a := by cases r; rfl
theorem Zap {i : Int} (r : VRel h (.int i) v) : ∃ t, v = .int i t := by cases r; exact ⟨_, rfl⟩
theorem Zgz {n : Nat} (r : VRel h (.tag n) v) : ∃ t, v = .str (tg n) t := by cases r; exact ⟨_, rfl⟩
theorem Zdv {vs : List PV} (r : VRel h (.tup vs) v) : TupI h vs v := by cases r; exact ⟨_, _, _, _, ‹_›, ‹_›, ‹_›, ‹_›⟩
theorem Zcd {vs : List Value} (r : VRels h [] vs) : vs = [] := by cases r; rfl
theorem Zbg {p : PV} {ps : List PV} {vs : List Value} (r : VRels h (p :: ps) vs) : ConsI h p ps vs := by cases r; exact ⟨_, _, ‹_›, ‹_›⟩
end
theorem VRels.length {h : Heap} : ∀ {ps : List PV} {vs : List Value}, VRels h ps vs → vs.length = ps.length
  | [], _, r => by rw [Zcd r]; rfl
  | _ :: _, _, r => by obtain ⟨_, _, _, r⟩ := Zbg r; exact congrArg Nat.succ (VRels.length ‹_›)
theorem VRels.get {h : Heap} : ∀ {ps : List PV} {vs : List Value}, VRels h ps vs → ∀ {i : Nat} {p : PV}, ps[i]? = some p → ∃ v, vs[i]? = some v ∧ VRel h p v
  | [], _, _, _, _, e => by contradiction
  | _ :: _, _, r, i, p, e => by
    obtain ⟨v, ws, a, r'⟩ := Zbg r
    cases i with
    | zero => exact ⟨v, rfl, so e ▸ a⟩
    | succ i => exact VRels.get r' (i := i) e
theorem VRels.append {h : Heap} : ∀ {ps : List PV} {vs : List Value}, VRels h ps vs → ∀ {qs : List PV} {ws : List Value}, VRels h qs ws → VRels h (ps ++ qs) (vs ++ ws)
  | [], _, r, _, _, r' => by rw [Zcd r]; exact r'
  | _ :: _, _, r, _, _, r' => by obtain ⟨_, _, a, r2⟩ := Zbg r; exact .cons a (VRels.append r2 r')
theorem VRels.take {h : Heap} : ∀ {ps : List PV} {vs : List Value}, VRels h ps vs → ∀ n, VRels h (ps.take n) (vs.take n)
  | [], _, r, n => by rw [Zcd r, List.take_nil, List.take_nil]; exact .nil
  | _ :: _, _, r, n => by
    obtain ⟨_, _, a, r2⟩ := Zbg r
    cases n with
    | zero => exact .nil
    | succ n => exact .cons a (VRels.take r2 n)
theorem VRels.dropLast {h : Heap} {ps : List PV} {vs : List Value} (r : VRels h ps vs) : VRels h ps.dropLast vs.dropLast := by
  rw [List.dropLast_eq_take, List.dropLast_eq_take, r.length]; exact r.take _
inductive KRels (h : Heap) : List (Nat × PV) → List (Str × Value) → Prop
  | nil : KRels h [] []
  | cons {t : Nat} {p : PV} {v : Value} {ps vs} : VRel h p v → KRels h ps vs → KRels h ((t, p) :: ps) ((tg t, v) :: vs)
theorem KRels.mono {h h' : Heap} (k : TupKeep h h') {ps vs} (r : KRels h ps vs) : KRels h' ps vs := by
  induction r with
  | nil => exact .nil
  | cons a _ ih => exact .cons (a.mono k) ih
inductive ARels (h : Heap) : List (Nat × PV) → List DictEntry → Prop
  | nil : ARels h [] []
  | cons {t : Nat} {p : PV} {e : DictEntry} {ps es} : (∃ k, e.key = .str (tg t) k) → VRel h p e.val → ARels h ps es → ARels h ((t, p) :: ps) (e :: es)
theorem ARels.mono {h h' : Heap} (k : TupKeep h h') {ps vs} (r : ARels h ps vs) : ARels h' ps vs := by
  induction r with
  | nil => exact .nil
  | cons c a _ ih => exact .cons c (a.mono k) ih
structure Cx where
  prog : Program
  w : World
  h₀ : Heap
noncomputable abbrev Cx.M (C : Cx) : Model := model C.prog C.w
noncomputable abbrev Cx.knd (C : Cx) : PySem.KeyKind C.prog C.w Str := PySem.strKind C.prog C.w
inductive ListAt (h : Heap) (a : Addr) (vs : List PV) : Prop
  | mk (items : Array Value) (n : Nat) (l : IsL h a items n) (r : VRels h vs items.toList)
inductive DictAtP (C : Cx) (h : Heap) (a : Addr) (es : List (Nat × PV)) : Prop
  | mk (kvs : List (Str × Value)) (d : Heap.DictOf C.knd h a kvs) (r : KRels h es kvs)
inductive AttrsAt (h : Heap) (a : Addr) (es : List (Nat × PV)) : Prop
  | mk (ents : List DictEntry) (n : Nat) (e : h.get? a = some (dictOf ents n)) (r : ARels h es ents)
noncomputable def ORel (C : Cx) (h : Heap) (a : Addr) : PO → Prop
  | .list vs => ListAt h a vs
  | .dict es => DictAtP C h a es
  | .attrs es => AttrsAt h a es
  | .inst c d => h.get? a = some ⟨.ref c, some d, .plain, #[]⟩
theorem ORel.there {C : Cx} {h : Heap} {a : Addr} {o : PO} (r : ORel C h a o) : ∃ ob, h.get? a = some ob ∧ ob.cls ≠ .type "tuple" ∧ ob.cls ≠ .type "frame" ∧ (∀ vs, ob.data ≠ .fields vs) ∧ ∀ v, ob.data ≠ .cell v := by
  cases o with
  | list vs => obtain ⟨_, _, e, _⟩ := r; exact ⟨_, e, by simp, by simp, fun _ q => (by cases q), fun _ q => by cases q⟩
  | dict es => obtain ⟨_, ⟨o, _, _, e, ⟨c, _⟩, d, _⟩, _⟩ := r; exact ⟨_, e, by rw [c]; simp, by rw [c]; simp, fun _ q => (by rw [d] at q; cases q), fun _ q => by rw [d] at q; cases q⟩
  | attrs es => obtain ⟨_, _, e, _⟩ := r; exact ⟨_, e, by simp, by simp, fun _ q => (by cases q), fun _ q => by cases q⟩
  | inst c d => exact ⟨_, r, by simp, by simp, fun _ q => (by cases q), fun _ q => by cases q⟩
theorem ORel.move {C : Cx} {h h' : Heap} {a : Addr} {o : PO} (k : TupKeep h h') (e : h'.get? a = h.get? a) (r : ORel C h a o) : ORel C h' a o := by
  cases o with
  | list vs => obtain ⟨i, n, x, y⟩ := r; exact ⟨i, n, e.trans x, y.mono k⟩
  | dict es => obtain ⟨kvs, ⟨o, es', ep, x, rest⟩, y⟩ := r; exact ⟨kvs, ⟨o, es', ep, e.trans x, rest⟩, y.mono k⟩
  | attrs es => obtain ⟨i, n, x, y⟩ := r; exact ⟨i, n, e.trans x, y.mono k⟩
  | inst c d => exact e.trans r
inductive FrOne (C : Cx) (h : Heap) (env : Env) : Prop
  | mk (k : env.scope.kind ≠ .module) (L : Addr) (o : Obj) (es : Array DictEntry) (n : Nat) (f : env.frame = some L) (l : C.h₀.objs.size ≤ L) (e : h.get? L = some o) (c : o.cls = .type "frame") (d : o.data = .dict es n)
noncomputable def FrOk (C : Cx) (h : Heap) (outer : List Env) : Prop := ∀ env ∈ outer, FrOne C h env
noncomputable def SameF (o : Obj) (r : Option Obj) : Prop := r = some o ∨ (o.cls = .type "frame" ∧ ∃ sl, r = some { o with slots := sl })
theorem SameF.trans {o o' : Obj} {r r' : Option Obj} (x : SameF o r) (e : r = some o') (y : SameF o' r') : SameF o r' := by
  rcases x with rfl | ⟨c, sl, rfl⟩
  · cases e; exact y
  · cases e
    rcases y with rfl | ⟨_, sl', rfl⟩
    · exact .inr ⟨c, sl, rfl⟩
    · exact .inr ⟨c, sl', rfl⟩
theorem SameF.some {o : Obj} {r : Option Obj} (x : SameF o r) : ∃ o', r = Option.some o' ∧ o'.cls = o.cls ∧ o'.dict = o.dict ∧ o'.data = o.data := by
  rcases x with rfl | ⟨_, sl, rfl⟩
  · exact ⟨_, rfl, rfl, rfl, rfl⟩
  · exact ⟨_, rfl, rfl, rfl, rfl⟩
structure Inv (C : Cx) (outer : List Env) (σ : Store) (h : Heap) : Prop where
  base : C.h₀.StaysIn h
  sto : ∀ a o, σ a = some o → C.h₀.objs.size ≤ a ∧ ORel C h a o
  frs : FrOk C h outer
  size : C.h₀.objs.size ≤ h.objs.size
theorem Zbi {h : Heap} {a : Addr} (k : h.objs.size ≤ a) : h.get? a = none := by
  cases q : h.get? a with
  | none => rfl
  | some o => exact absurd (Heap.lt_size q) (Nat.not_lt.mpr k)
theorem Inv.new {C : Cx} {outer : List Env} {σ : Store} {h : Heap} (I : Inv C outer σ h) {a : Addr} {o : PO} (e : σ a = some o) : C.h₀.get? a = none := Zbi (I.sto a o e).1
structure Nx (C : Cx) (outer : List Env) (σ σ' : Store) (s s' : Shared) : Prop where
  inv : Inv C outer σ' s'.heap
  keep : ∀ b o, s.heap.get? b = some o → σ b = none → SameF o (s'.heap.get? b)
  stay : ∀ b o, s.heap.get? b = some o → ∃ o', s'.heap.get? b = some o'
  fresh : ∀ a, σ' a ≠ none → σ a ≠ none ∨ s.heap.get? a = none
  gens : s'.gens = s.gens
  os : s'.os = s.os
theorem Inv.tupNone {C : Cx} {outer : List Env} {σ : Store} {h : Heap} (I : Inv C outer σ h) {a : Addr} {o : Obj} (e : h.get? a = some o) (c : o.cls = .type "tuple") : σ a = none := by
  cases q : σ a with
  | none => rfl
  | some p =>
    obtain ⟨ob, h1, h2, _⟩ := (I.sto a p q).2.there
    rw [e] at h1; cases h1; exact absurd c h2
theorem Inv.frNone {C : Cx} {outer : List Env} {σ : Store} {h : Heap} (I : Inv C outer σ h) {a : Addr} {o : Obj} (e : h.get? a = some o) (c : o.cls = .type "frame") : σ a = none := by
  cases q : σ a with
  | none => rfl
  | some p =>
    obtain ⟨ob, h1, _, h2, _⟩ := (I.sto a p q).2.there
    rw [e] at h1; cases h1; exact absurd c h2
theorem Inv.fieldsNone {C : Cx} {outer : List Env} {σ : Store} {h : Heap} (I : Inv C outer σ h) {a : Addr} {o : Obj} {vs : Array Value} (e : h.get? a = some o) (c : o.data = .fields vs) : σ a = none := by
  cases q : σ a with
  | none => rfl
  | some p =>
    obtain ⟨ob, h1, _, _, h2, _⟩ := (I.sto a p q).2.there
    rw [e] at h1; cases h1; exact absurd c (h2 _)
theorem Inv.cellNone {C : Cx} {outer : List Env} {σ : Store} {h : Heap} (I : Inv C outer σ h) {a : Addr} {o : Obj} {v : Option Value} (e : h.get? a = some o) (c : o.data = .cell v) : σ a = none := by
  cases q : σ a with
  | none => rfl
  | some p =>
    obtain ⟨ob, h1, _, _, _, h2⟩ := (I.sto a p q).2.there
    rw [e] at h1; cases h1; exact absurd c (h2 _)
theorem Nx.tup {C : Cx} {outer : List Env} {σ σ' : Store} {s s' : Shared} (I : Inv C outer σ s.heap) (N : Nx C outer σ σ' s s') : TupKeep s.heap s'.heap := fun a o e c => by
  rcases N.keep a o e (I.tupNone e c) with q | ⟨q, _⟩
  · exact q
  · rw [c] at q; simp at q
theorem Nx.refl {C : Cx} {outer : List Env} {σ : Store} {s : Shared} (I : Inv C outer σ s.heap) : Nx C outer σ σ s s :=
  ⟨I, fun _ _ e _ => .inl e, fun _ o e => ⟨o, e⟩, fun _ h => .inl h, rfl, rfl⟩
theorem Nx.toks {C : Cx} {outer : List Env} {σ σ' : Store} {s s' : Shared} {d : Drawn} {t : Nat} (N : Nx C outer σ σ' s s') : Nx C outer σ σ' s { s' with drawn := d, toks := t } :=
  ⟨N.inv, N.keep, N.stay, N.fresh, N.gens, N.os⟩
theorem Nx.trans {C : Cx} {outer : List Env} {σ σ₁ σ₂ : Store} {s s₁ s₂ : Shared} (N : Nx C outer σ σ₁ s s₁) (M : Nx C outer σ₁ σ₂ s₁ s₂) : Nx C outer σ σ₂ s s₂ := by
  have none1 : ∀ b o, s.heap.get? b = some o → σ b = none → σ₁ b = none := fun b o e z => by
    cases q : σ₁ b with
    | none => rfl
    | some p => rcases N.fresh b (by rw [q]; simp) with k | k
                · exact absurd z k
                · rw [e] at k; cases k
  refine ⟨M.inv, fun b o e z => ?_, fun b o e => ?_, fun a h => ?_, M.gens.trans N.gens, M.os.trans N.os⟩
  · have k := N.keep b o e z
    obtain ⟨o', e', _⟩ := k.some
    exact k.trans e' (M.keep b o' e' (none1 b o e z))
  · obtain ⟨o', e'⟩ := N.stay b o e
    exact M.stay b o' e'
  · rcases M.fresh a h with k | k
    · exact N.fresh a k
    · cases q : s.heap.get? a with
      | none => exact .inr rfl
      | some o => obtain ⟨o', e'⟩ := N.stay a o q; rw [e'] at k; cases k
theorem FrOk.same {C : Cx} {outer : List Env} {σ σ' : Store} {s s' : Shared} {out2 : List Env} (I : Inv C outer σ s.heap) (F : FrOk C s.heap out2) (N : Nx C outer σ σ' s s') : FrOk C s'.heap out2 := fun env he => by
  obtain ⟨k, L, o, es, n, f, l, e, c, d⟩ := F env he
  obtain ⟨o', e', c', _, d'⟩ := (N.keep L o e (I.frNone e c)).some
  exact ⟨k, L, o', es, n, f, l, e', c'.trans c, d'.trans d⟩
theorem Nx.under {C : Cx} {out out2 : List Env} {σ σ' : Store} {s s' : Shared} (I : Inv C out σ s.heap) (F : FrOk C s.heap out2) (N : Nx C out σ σ' s s') : Nx C out2 σ σ' s s' :=
  ⟨⟨N.inv.base, N.inv.sto, F.same I N, N.inv.size⟩, N.keep, N.stay, N.fresh, N.gens, N.os⟩
structure FI where
  qual : Str
  scope : Scope
  a : Addr
  cd : Value
  cells : List (Str × Addr)
noncomputable def At (f : FI) (h : Heap) (m : Str → Option Value) (t : Nat) (v : Value) : Prop := match f.scope.names.lookup (tg t) with
  | some .cell => ∃ c o, f.cells.lookup (tg t) = some c ∧ h.get? c = some o ∧ o.data = .cell (some v)
  | _ => m (tg t) = some v
noncomputable def Znm (f : FI) (h : Heap) (lo : Loc) (m : Str → Option Value) : Prop := ∀ t p, lo.get t = some p → ∃ v, At f h m t v ∧ VRel h p v
noncomputable def Fm (f : FI) (h : Heap) (L : Addr) (lo : Loc) : Prop := ∃ m, h.Ns L m ∧ Znm f h lo m
theorem At.keep {f : FI} {h h' : Heap} {m : Str → Option Value} {t : Nat} {v : Value} (k : ∀ c o x, h.get? c = some o → o.data = .cell x → ∃ o', h'.get? c = some o' ∧ o'.data = .cell x) (r : At f h m t v) : At f h' m t v := by
  unfold At at r ⊢
  split at r
  · obtain ⟨c, o, h1, h2, h3⟩ := r
    obtain ⟨o', e1, e2⟩ := k c o _ h2 h3
    exact ⟨c, o', h1, e1, e2⟩
  · exact r
theorem Zmr {h h' : Heap} {a : Addr} {m : Str → Option Value} {o : Obj} (hn : h.Ns a m) (e : h.get? a = some o) (q : SameF o (h'.get? a)) : h'.Ns a m := by
  obtain ⟨o1, es, ep, e1, d, k, f⟩ := hn
  rw [e] at e1; cases e1
  obtain ⟨o', e', _, _, d'⟩ := q.some
  exact ⟨o', es, ep, e', d'.trans d, k, f⟩
theorem Nx.cells {C : Cx} {outer : List Env} {σ σ' : Store} {s s' : Shared} (I : Inv C outer σ s.heap) (N : Nx C outer σ σ' s s') : ∀ c o x, s.heap.get? c = some o → o.data = .cell x → ∃ o', s'.heap.get? c = some o' ∧ o'.data = .cell x := fun c o x e d => by
  obtain ⟨o', e', _, _, d'⟩ := (N.keep c o e (I.cellNone e d)).some
  exact ⟨o', e', d'.trans d⟩
theorem Fm.next {C : Cx} {outer : List Env} {σ σ' : Store} {s s' : Shared} {f : FI} {L : Addr} {lo : Loc} {o : Obj} (I : Inv C outer σ s.heap) (N : Nx C outer σ σ' s s') (F : Fm f s.heap L lo) (e : s.heap.get? L = some o) (c : o.cls = .type "frame") : Fm f s'.heap L lo := by
  obtain ⟨m, n, r⟩ := F
  refine ⟨m, Zmr n e (N.keep L o e (I.frNone e c)), fun t p z => ?_⟩
  obtain ⟨v, x, y⟩ := r t p z
  exact ⟨v, x.keep (N.cells I), y.mono (N.tup I)⟩
inductive Ex where
  | non (p : Pos)
  | bool (b : Bool) (p : Pos)
  | int (i : Int) (p : Pos)
  | minus (i : Int) (p₁ p : Pos)
  | str (t : Nat) (p : Pos)
  | var (t : Nat) (p : Pos)
  | glob (t : Nat) (p : Pos)
  | tup (es : List Ex) (k : Nat) (p : Pos)
  | lst (es : List Ex) (p : Pos)
  | dct (ks : List (Nat × Pos)) (es : List Ex) (p : Pos)
  | sub (a i : Ex) (p : Pos)
  | cut (a u : Ex) (ps p : Pos)
  | bin (a : Ex) (op : Operator) (b : Ex) (p : Pos)
  | cmp (a : Ex) (op : CmpOp) (b : Ex) (p : Pos)
  | bop (op : BoolOp) (es : List Ex) (p : Pos)
  | neg (a : Ex) (p : Pos)
  | ite (c a b : Ex) (p : Pos)
  | attr (a : Ex) (t : Nat) (p : Pos)
  | call (f : Nat) (args : List Ex) (np p : Pos)
  | bcall (f : Nat) (args : List Ex) (np p : Pos)
  | mcall (o : Ex) (m : Nat) (args : List Ex) (ap p : Pos)
  | fmt (es : List Ex) (p : Pos)
  | fval (a : Ex) (p : Pos)
  | lenset (a : Ex) (n1 n2 p2 p : Pos)
  | neW (a : Ex) (w : Nat) (np lp p : Pos)
  | lcond (x : Nat) (xp xp' : Pos) (src : Nat) (sp : Pos) (i : Int) (ip cp bp : Pos) (sc : Scope) (lp n1 p : Pos)
  | kcomp (sf m x y : Nat) (it : Ex) (own : Scope) (p1 p2 p3 p4 p5 p6 : Pos) (k : Nat) (p7 p : Pos)
  | any (e : Expr) (gs : List Comprehension) (sc : Scope) (p : Pos)
noncomputable def names (ts : List (Nat × Pos)) : List Expr := ts.map fun x => .Name (tg x.1) x.2
noncomputable def keysOf (ks : List (Nat × Pos)) : List (Option Expr) := ks.map fun x => some (.Constant (.str (tg x.1)) 0 x.2)
mutual
noncomputable def Ex.to : Ex → Expr
  | .non p => .Constant .none 0 p
  | .bool b p => .Constant (.bool b) 0 p
  | .int i p => .Constant (.int i) 0 p
  | .minus i p₁ p => .UnaryOp .USub (.Constant (.int i) 0 p₁) p
  | .str t p => .Constant (.str (tg t)) 0 p
  | .var t p => .Name (tg t) p
  | .glob t p => .Name (tg t) p
  | .tup es k p => .Tuple (Ex.tos es) k p
  | .lst es p => .List (Ex.tos es) p
  | .dct ks es p => .Dict (keysOf ks) (Ex.tos es) p
  | .sub a i p => .Subscript a.to i.to p
  | .cut a u ps p => .Subscript a.to (.Slice none (some u.to) none ps) p
  | .bin a op b p => .BinOp a.to op b.to p
  | .cmp a op b p => .Compare a.to [op] [b.to] p
  | .bop op es p => .BoolOp op (Ex.tos es) p
  | .neg a p => .UnaryOp .Not a.to p
  | .ite c a b p => .IfExp c.to a.to b.to p
  | .attr a t p => .Attribute a.to (tg t) p
  | .call f args np p => .Call (.Name (tg f) np) (Ex.tos args) [] p
  | .bcall f args np p => .Call (.Name (tg f) np) (Ex.tos args) [] p
  | .mcall o m args ap p => .Call (.Attribute o.to (tg m) ap) (Ex.tos args) [] p
  | .fmt es p => .JoinedStr (Ex.tos es) p
  | .fval a p => .FormattedValue a.to (-1) none p
  | .lenset a n1 n2 p2 p => .Call (.Name (tg 187) n1) [.Call (.Name (tg 3) n2) [a.to] [] p2] [] p
  | .neW a w np lp p => .Compare a.to [.NotEq] [.List [.Name (tg w) np] lp] p
  | .lcond x xp xp' src sp i ip cp bp sc lp n1 p => .Call (.Name (tg 187) n1) [.ListComp (.Name (tg x) xp) [⟨.Name (tg x) xp', .Name (tg src) sp, [.Subscript (.Name (tg x) ip) (.Constant (.int i) 0 cp) bp], 0⟩] sc lp] [] p
  | .kcomp sf m x y it own p1 p2 p3 p4 p5 p6 k p7 p => .ListComp (.Call (.Attribute (.Name (tg sf) p1) (tg m) p2) [.Name (tg x) p3] [] p4) [⟨.Tuple [.Name (tg x) p5, .Name (tg y) p6] k p7, it.to, [], 0⟩] own p
  | .any e gs sc p => .ListComp e gs sc p
noncomputable def Ex.tos : List Ex → List Expr
  | [] => []
  | e :: r => e.to :: Ex.tos r
end
inductive It where
  | ex (e : Ex)
  | rng (es : List Ex) (np p : Pos)
  | enum (e : Ex) (np p : Pos)
  | zip (a b : Ex) (np p : Pos)
noncomputable def It.to : It → Expr
  | .ex e => e.to
  | .rng es np p => .Call (.Name (tg 12) np) (Ex.tos es) [] p
  | .enum e np p => .Call (.Name (tg 189) np) [e.to] [] p
  | .zip a b np p => .Call (.Name (tg 190) np) [a.to, b.to] [] p
inductive Tgt where
  | one (t : Nat) (p : Pos)
  | many (ts : List (Nat × Pos)) (k : Nat) (p : Pos)
noncomputable def Tgt.to : Tgt → Expr
  | .one t p => .Name (tg t) p
  | .many ts k p => .Tuple (names ts) k p
inductive Sm where
  | asg (g : Tgt) (e : Ex) (p : Pos)
  | setS (o i : Ex) (sp : Pos) (e : Ex) (p : Pos)
  | setA (o : Ex) (t : Nat) (ap : Pos) (e : Ex) (p : Pos)
  | expr (e : Ex) (p : Pos)
  | ret (e : Ex) (p : Pos)
  | ite (c : Ex) (a b : List Sm) (p : Pos)
  | for_ (g : Tgt) (it : It) (body : List Sm) (p : Pos)
  | whil (c : Ex) (body : List Sm) (p : Pos)
  | raise (m s : Ex) (np cp p : Pos)
  | tryF (body fin : List Sm) (p : Pos)
  | heard (body : List Sm) (np p1 p2 p3 p4 p5 hp p : Pos)
  | any (s : Stmt)
mutual
noncomputable def Sm.to : Sm → Stmt
  | .asg g e p => .Assign [g.to] e.to p
  | .setS o i sp e p => .Assign [.Subscript o.to i.to sp] e.to p
  | .setA o t ap e p => .Assign [.Attribute o.to (tg t) ap] e.to p
  | .expr e p => .Expr e.to p
  | .ret e p => .Return (some e.to) p
  | .ite c a b p => .If c.to (Sm.tos a) (Sm.tos b) p
  | .for_ g it body p => .For g.to it.to (Sm.tos body) [] p
  | .whil c body p => .While c.to (Sm.tos body) [] p
  | .raise m s np cp p => .Raise (some (.Call (.Name (tg 183) np) [m.to, s.to] [] cp)) none p
  | .tryF body fin p => .Try (Sm.tos body) [] [] (Sm.tos fin) p
  | .heard body np p1 p2 p3 p4 p5 hp p => .Try (Sm.tos body) [.ExceptHandler (some (.Name (tg 183) np)) (some (tg 100)) [.Return (some (.Tuple [.Constant .none 0 p3, .Attribute (.Name (tg 100) p5) (tg 67) p4] 0 p2)) p1] hp] [] [] p
  | .any s => s
noncomputable def Sm.tos : List Sm → List Stmt
  | [] => []
  | s :: r => s.to :: Sm.tos r
end
mutual
noncomputable def eqP : PV → PV → Bool
  | .none, w => (match w with
    | .none => true
    | _ => false)
  | .bool a, w => (match w with
    | .bool b => a == b
    | .int b => (if a then 1 else 0) == b
    | _ => false)
  | .int a, w => (match w with
    | .bool b => a == (if b then 1 else 0)
    | .int b => a == b
    | _ => false)
  | .tag a, w => (match w with
    | .tag b => a == b
    | _ => false)
  | .tup a, w => (match w with
    | .tup b => eqPs a b
    | _ => false)
  | _, _ => false
noncomputable def eqPs : List PV → List PV → Bool
  | [], l => l.isEmpty
  | a :: r, l => (match l with
    | b :: q => eqP a b && eqPs r q
    | [] => false)
end
mutual
noncomputable def plainP : Nat → PV → Bool
  | n, .tup vs => (match n with
    | m + 1 => plainPs m vs
    | 0 => false)
  | _, .tag t => Nat.blt t 271
  | _, .none => true
  | _, .bool _ => true
  | _, .int _ => true
  | _, _ => false
noncomputable def plainPs : Nat → List PV → Bool
  | _, [] => true
  | n, v :: r => plainP n v && plainPs n r
end
noncomputable def truthP : PV → Option Bool
  | .bool b => some b
  | _ => none
noncomputable def inTags : Nat → List PV → Option Bool
  | _, [] => some false
  | n, .tag m :: r => if n = m then some true else inTags n r
  | _, _ => none
noncomputable def isStrP : PV → Option Nat
  | .tag _ => some 64
  | .msg n => some n
  | _ => none
noncomputable def Zdx (i : Int) (n : Nat) : Option Nat :=
  if 0 ≤ i ∧ i < 1000000 ∧ i < n then some i.toNat else if -1000000 ≤ i ∧ i < 0 ∧ -(n : Int) ≤ i then some (i + n).toNat else none
noncomputable def Zaq (i : Int) : Bool := decide (-1000000000 < i ∧ i < 1000000000)
structure Pg where
  gv : Nat → Option PV
  cdt : Addr → Option (List (Nat × PV))
  fn : Nat → Option Addr
  mt : Addr → Nat → Option Addr
  ct : Nat → Option Addr
  cl : Addr → Option (List PV)
  at_ : Addr → Nat → Bool
noncomputable abbrev QV := PV → Store → Prop
noncomputable abbrev XV' := Int → Store → Prop
noncomputable abbrev Spec := Bool → Nat → Addr → List PV → Store → QV → XV' → Prop
noncomputable def Zbm (vs : List PV) (i : Int) : Option PV := (Zdx i vs.length).bind fun j => vs[j]?
inductive Item (G : Pg) (σ : Store) : PV → PV → PV → Prop
  | tup {vs : List PV} {i : Int} {r : PV} (h : Zbm vs i = some r) : Item G σ (.tup vs) (.int i) r
  | list {a : Addr} {vs : List PV} {i : Int} {r : PV} (e : σ a = some (.list vs)) (h : Zbm vs i = some r) : Item G σ (.obj a) (.int i) r
  | dict {a : Addr} {es : List (Nat × PV)} {t : Nat} {r : PV} (e : σ a = some (.dict es)) (h : Loc.get es t = some r) : Item G σ (.obj a) (.tag t) r
  | cd {a : Addr} {es : List (Nat × PV)} {t : Nat} {r : PV} (e : G.cdt a = some es) (h : Loc.get es t = some r) : Item G σ (.cd a) (.tag t) r
inductive Has (G : Pg) (σ : Store) (n : Nat) : PV → Bool → Prop
  | tup {vs : List PV} {b : Bool} (k : plainPs 7 vs = true) (l : Nat.blt n 271 = true) (h : inTags n vs = some b) : Has G σ n (.tup vs) b
  | dict {a : Addr} {es : List (Nat × PV)} (e : σ a = some (.dict es)) : Has G σ n (.obj a) (Loc.get es n).isSome
  | cd {a : Addr} {es : List (Nat × PV)} (e : G.cdt a = some es) : Has G σ n (.cd a) (Loc.get es n).isSome
noncomputable def Zbf (es fs : List (Nat × PV)) : Bool := es.length == fs.length && es.all fun x => match Loc.get fs x.1 with
  | some v => eqP x.2 v
  | none => false
noncomputable def Zam (es : List (Nat × PV)) : Bool := es.all fun x => plainP 8 x.2
inductive SameR (σ : Store) : PV → PV → Bool → Prop
  | v {p q : PV} (k : plainP 8 p = true) (l : plainP 8 q = true) : SameR σ p q (eqP p q)
  | list {a b : Addr} {xs ys : List PV} (hx : σ a = some (.list xs)) (hy : σ b = some (.list ys)) (k : plainPs 8 xs = true) (l : plainPs 8 ys = true) : SameR σ (.obj a) (.obj b) (eqPs xs ys)
  | dict {a b : Addr} {es fs : List (Nat × PV)} (hx : σ a = some (.dict es)) (hy : σ b = some (.dict fs)) (k : Zam es = true) (l : Zam fs = true) : SameR σ (.obj a) (.obj b) (Zbf es fs)
noncomputable def isNoneP : PV → Bool
  | .none => true
  | _ => false
inductive Cmp (G : Pg) (σ : Store) : CmpOp → PV → PV → Bool → Prop
  | eq {p q : PV} {b : Bool} (h : SameR σ p q b) : Cmp G σ .Eq p q b
  | ne {p q : PV} {b : Bool} (h : SameR σ p q b) : Cmp G σ .NotEq p q (!b)
  | lt {a b : Int} : Cmp G σ .Lt (.int a) (.int b) (decide (a < b))
  | le {a b : Int} : Cmp G σ .LtE (.int a) (.int b) (decide (a ≤ b))
  | gt {a b : Int} : Cmp G σ .Gt (.int a) (.int b) (decide (b < a))
  | ge {a b : Int} : Cmp G σ .GtE (.int a) (.int b) (decide (b ≤ a))
  | is {p : PV} : Cmp G σ .Is p .none (isNoneP p)
  | isNot {p : PV} : Cmp G σ .IsNot p .none (!isNoneP p)
  | in_ {n : Nat} {q : PV} {b : Bool} (h : Has G σ n q b) : Cmp G σ .In (.tag n) q b
  | notIn {n : Nat} {q : PV} {b : Bool} (h : Has G σ n q b) : Cmp G σ .NotIn (.tag n) q (!b)
noncomputable def Zah (σ : Store) (o : PO) (Q : QV) : Prop := ∀ a, σ a = none → Q (.obj a) (σ.upd a o)
inductive Binop (σ : Store) (Q : QV) : Operator → PV → PV → Prop
  | add {a b : Int} (q : Q (.int (a + b)) σ) : Binop σ Q .Add (.int a) (.int b)
  | sub {a b : Int} (q : Q (.int (a - b)) σ) : Binop σ Q .Sub (.int a) (.int b)
  | mul {a b : Int} (h : Zaq a = true) (k : Zaq b = true) (q : Q (.int (a * b)) σ) : Binop σ Q .Mult (.int a) (.int b)
  | mod {a b : Int} (h : 0 < b) (q : Q (.int (Int.emod a b)) σ) : Binop σ Q .Mod (.int a) (.int b)
  | lists {a b : Addr} {xs ys : List PV} (hx : σ a = some (.list xs)) (hy : σ b = some (.list ys)) (hl : xs.length + ys.length ≤ 1000) (q : Zah σ (.list (xs ++ ys)) Q) : Binop σ Q .Add (.obj a) (.obj b)
  | txts {v w : PV} {n m : Nat} (hn : isStrP v = some n) (hm : isStrP w = some m) (hl : n + m ≤ 100000) (q : Q (.msg (n + m)) σ) : Binop σ Q .Add v w
inductive ListP (σ : Store) (v : PV) (vs : List PV) : Prop
  | tup (e : v = .tup vs)
  | list (a : Addr) (e : v = .obj a) (h : σ a = some (.list vs))
noncomputable def Zph (ns : List Nat) : Bool := sortedS (ns.map tg)
noncomputable def Zde (σ : Store) (ns : List Nat) (Q : QV) : Prop := ∀ ms : List Nat, ms.Perm ns → Zph ms = true → Zah σ (.list (ms.map .tag)) Q
noncomputable def tagsOf : List PV → Option (List Nat)
  | [] => some []
  | .tag n :: r => (tagsOf r).map (n :: ·)
  | _ => none
noncomputable def lenB (σ : Store) (v : PV) (Q : QV) : Prop := ∃ vs, ListP σ v vs ∧ vs.length ≤ 1000 ∧ Q (.int vs.length) σ
noncomputable def intB (σ : Store) (v : PV) (Q : QV) : Prop := ∃ i, v = .int i ∧ Q (.int i) σ
noncomputable def Zact (σ : Store) (v : PV) (Q : QV) : Prop := ∃ vs, ListP σ v vs ∧ vs.length ≤ 1000 ∧ Zah σ (.list vs) Q
noncomputable def tupB (σ : Store) (v : PV) (Q : QV) : Prop := ∃ a vs, v = .obj a ∧ σ a = some (.list vs) ∧ vs.length ≤ 1000 ∧ Q (.tup vs) σ
noncomputable def Zadg (G : Pg) (σ : Store) (v : PV) (Q : QV) : Prop := ∃ a es, v = .cd a ∧ G.cdt a = some es ∧ Zah σ (.dict es) Q
noncomputable def Zacm (G : Pg) (σ : Store) (v : PV) (Q : QV) : Prop := (∃ a es, v = .cd a ∧ G.cdt a = some es ∧ es.length < 60 ∧ Zde σ (es.map (·.1)) Q) ∨ ∃ vs ns, ListP σ v vs ∧ tagsOf vs = some ns ∧ ns.length < 60 ∧ Zde σ ns Q
noncomputable def bi1 (G : Pg) (σ : Store) (f : Nat) (v : PV) (Q : QV) : Prop := match Nat.beq f 187 with
  | true => lenB σ v Q
  | false => match Nat.beq f 0 with
    | true => intB σ v Q
    | false => match Nat.beq f 184 with
      | true => Zact σ v Q
      | false => match Nat.beq f 188 with
        | true => tupB σ v Q
        | false => match Nat.beq f 185 with
          | true => Zadg G σ v Q
          | false => match Nat.beq f 186 with
            | true => Zacm G σ v Q
            | false => False
noncomputable def Pg.builtin (G : Pg) (σ : Store) (f : Nat) (args : List PV) (Q : QV) : Prop := ∃ v, args = [v] ∧ bi1 G σ f v Q
noncomputable def distinctN : List Nat → List Nat → Nat
  | _, [] => 0
  | seen, n :: r => if seen.contains n then distinctN seen r else distinctN (n :: seen) r + 1
noncomputable def hasCd : List PV → Bool
  | .cd _ :: _ => true
  | _ => false
noncomputable def dctOf : List (Nat × Pos) → List PV → List (Nat × PV)
  | k :: ks, v :: vs => (k.1, v) :: dctOf ks vs
  | _, _ => []
noncomputable def nodupN : List Nat → Bool
  | [] => true
  | n :: r => !r.contains n && nodupN r
noncomputable def Zgc (x : Nat) : List (Str × NameKind) := [((".0" : Str), .local), (tg x, .local)]
inductive FilterR (i : Int) : List PV → List PV → Prop
  | nil : FilterR i [] []
  | cons {us vs ws : List PV} {b : Bool} (h : Zbm us i = some (.bool b)) (r : FilterR i vs ws) : FilterR i (.tup us :: vs) (cond b (.tup us :: ws) ws)
noncomputable def Ze (t : Nat) (v : PV) : List (Nat × PV) → List (Nat × PV)
  | [] => [(t, v)]
  | (u, x) :: r => if u = t then (u, v) :: r else (u, x) :: Ze t v r
noncomputable def Zgp (acc : List (Nat × PV)) (es : List (Nat × PV)) : List (Nat × PV) := es.foldl (fun acc kv => Ze kv.1 kv.2 acc) acc
noncomputable abbrev WE := Store → QV → XV' → Prop
noncomputable abbrev LQ := List PV → Store → Prop
noncomputable abbrev LWE := Store → LQ → XV' → Prop
noncomputable def Zng (o : Option PV) (σ : Store) (Q : QV) : Prop := match o with
  | some v => Q v σ
  | none => False
noncomputable def trP (Q : Bool → Store → Prop) : QV := fun v σ => match truthP v with
  | some b => Q b σ
  | none => False
noncomputable def Zay (w : WE) (k : PV → QV) (X : XV') : QV := fun x σ => w σ (k x) X
noncomputable def Zsb (Q : QV) : LQ := fun vs σ => vs.length ≤ 1000 ∧ Q (.tup vs) σ
noncomputable def Zse (Q : QV) : LQ := fun vs σ => vs.length ≤ 1000 ∧ Zah σ (.list vs) Q
noncomputable def Zyy (ks : List (Nat × Pos)) (Q : QV) : LQ := fun vs σ => Zah σ (.dict (Zgp [] (dctOf ks vs))) Q
noncomputable def Zzc (op : Operator) (Q : QV) (x : PV) : QV := fun y σ => Binop σ Q op x y
noncomputable def Znj (Q : QV) (b : Bool) (σ : Store) : Prop := Q (.bool (!b)) σ
noncomputable def Zin (a b : WE) (Q : QV) (X : XV') (c : Bool) (σ : Store) : Prop := match c with
  | true => a σ Q X
  | false => b σ Q X
noncomputable def Zct (op : BoolOp) (w : WE) (Q : QV) (X : XV') (b : Bool) (σ : Store) : Prop := match op with
  | .And => (match b with
    | true => w σ Q X
    | false => Q (.bool false) σ)
  | .Or => (match b with
    | true => Q (.bool true) σ
    | false => w σ Q X)
noncomputable def bopQ (op : BoolOp) (last : Bool) (w : WE) (Q : QV) (X : XV') : QV := match last with
  | true => Q
  | false => trP (Zct op w Q X)
noncomputable def Zjr (v : PV) (Q : LQ) : LQ := fun vs σ => Q (v :: vs) σ
noncomputable def Zdl (w : LWE) (Q : LQ) (X : XV') : QV := fun v σ => w σ (Zjr v Q) X
noncomputable def fmtQ (Q : QV) (n : Nat) (σ : Store) : Prop := Q (.msg n) σ
noncomputable def Zjy (n : Nat) (w : Store → Nat → (Nat → Store → Prop) → XV' → Prop) (Q : Nat → Store → Prop) (X : XV') : QV := fun v σ => match isStrP v with
  | some m => n + m ≤ 100000 ∧ w σ (n + m) Q X
  | none => False
noncomputable def Zadc (Q : QV) : QV := fun v σ => (∃ i, v = .int i ∧ Zaq i = true ∧ Q (.msg 20) σ) ∨ ∃ m, isStrP v = some m ∧ m ≤ 100000 ∧ Q v σ
noncomputable def Zxj (st : Bool) (Q : QV) : QV := fun v σ => ∃ vs ns, v = .tup vs ∧ tagsOf vs = some ns ∧ st = true ∧ ns.length ≤ 4 ∧ Q (.int (distinctN [] ns)) σ
noncomputable def cutQ (G : Pg) (Q : QV) (x : PV) : QV := fun y σ => ∃ n, y = .int n ∧ 0 ≤ n ∧ ((∃ vs, x = .tup vs ∧ n < vs.length ∧ vs.length ≤ 1000 ∧ Q (.tup (vs.take n.toNat)) σ) ∨ ∃ b vs, x = .cd b ∧ n < 1000 ∧ G.cl b = some vs ∧ vs.length ≤ 1000 ∧ Zah σ (.list (vs.take n.toNat)) Q)
section
variable (G : Pg) (S : Spec) (st : Bool)
noncomputable def Zsc (Q : QV) (x : PV) : QV := fun y σ => ∃ r, Item G σ x y r ∧ Q r σ
noncomputable def Zsi (op : CmpOp) (Q : QV) (x : PV) : QV := fun y σ => ∃ b, Cmp G σ op x y b ∧ Q (.bool b) σ
inductive InstP (σ : Store) (v : PV) (a c dd : Addr) (es : List (Nat × PV)) : Prop
  | mk (e : v = .obj a) (h1 : σ a = some (.inst c dd)) (h2 : σ dd = some (.attrs es))
noncomputable def Zadi (t : Nat) (Q : QV) : QV := fun v σ => ∃ a c dd es r, InstP σ v a c dd es ∧ Loc.get es t = some r ∧ G.at_ c t = true ∧ Q r σ
noncomputable def Zfb (d : Nat) (a : Addr) (ps : List PV) (Q : QV) (X : XV') : LQ := fun vs σ => S st d a (ps ++ vs) σ Q X
noncomputable def Zdz (f : Nat) (Q : QV) : LQ := fun vs σ => (hasCd vs = true → st = true) ∧ G.builtin σ f vs Q
noncomputable def Znl (a : Addr) (Q : QV) : LQ := fun vs σ => ∃ xs v, σ a = some (.list xs) ∧ vs = [v] ∧ xs.length ≤ 1000 ∧ Q .none (σ.upd a (.list (xs ++ [v])))
noncomputable def Zsf (es : Store → Option (List (Nat × PV))) (Q : QV) : LQ := fun vs σ => ∃ fs t w, es σ = some fs ∧ vs = [.tag t, w] ∧ Q ((Loc.get fs t).getD w) σ
noncomputable def Zgr (a : Addr) (σ : Store) : Option (List (Nat × PV)) := match σ a with
  | some (.dict es) => some es
  | _ => none
inductive McP (d m : Nat) (wa : LWE) (em : Bool) (Q : QV) (X : XV') (x : PV) (σ : Store) : Prop
  | inst (a c dd : Addr) (es : List (Nat × PV)) (f d' : Addr) (i : InstP σ x a c dd es) (hd : d = d' + 1) (hm : G.mt c m = some f) (hn : Loc.get es m = none) (w : wa σ (Zfb S st d' f [x] Q X) X)
  | app (a : Addr) (xs : List PV) (e : x = .obj a) (h : σ a = some (.list xs)) (hm : m = 127) (w : wa σ (Znl a Q) X)
  | pop (a : Addr) (xs : List PV) (y : PV) (e : x = .obj a) (h : σ a = some (.list xs)) (hm : m = 124) (he : em = true) (hl : xs.length ≤ 1000) (hy : xs.getLast? = some y) (w : Q y (σ.upd a (.list xs.dropLast)))
  | get (a : Addr) (es : List (Nat × PV)) (e : x = .obj a) (h : σ a = some (.dict es)) (hm : m = 128) (w : wa σ (Zsf (Zgr a) Q) X)
  | cget (a : Addr) (es : List (Nat × PV)) (e : x = .cd a) (h : G.cdt a = some es) (hm : m = 128) (w : wa σ (Zsf (fun _ => G.cdt a) Q) X)
noncomputable def neWQ (w : Nat) (Q : QV) : QV := fun v σ => ∃ o x y es fs, v = .obj o ∧ σ o = some (.list [.obj x]) ∧ G.gv w = some (.cd y) ∧ σ x = some (.dict es) ∧ G.cdt y = some fs ∧ Zam es = true ∧ Zam fs = true ∧ Q (.bool (!Zbf es fs)) σ
noncomputable def Zsd (Q : QV) : QV := fun r σ => Zah σ (.list [r]) Q
noncomputable def Zabh (d m : Nat) (a : Addr) (Q : QV) : QV := fun v σ => ∃ kt z d' c dd es f, v = .tup [.tup [kt, z]] ∧ d = d' + 1 ∧ InstP σ (.obj a) a c dd es ∧ G.mt c m = some f ∧ Loc.get es m = none ∧ S st d' f [.obj a, kt] σ (Zsd Q) (fun _ _ => False)
mutual
noncomputable def wpE (d : Nat) : Ex → Loc → Store → QV → XV' → Prop
  | .non _, _, σ, Q, _ => Q .none σ
  | .bool b _, _, σ, Q, _ => Q (.bool b) σ
  | .int i _, _, σ, Q, _ => Q (.int i) σ
  | .minus i _ _, _, σ, Q, _ => Q (.int (-i)) σ
  | .str t _, _, σ, Q, _ => Q (.tag t) σ
  | .var t _, lo, σ, Q, _ => Zng (lo.get t) σ Q
  | .glob t _, _, σ, Q, _ => Zng (G.gv t) σ Q
  | .tup es _ _, lo, σ, Q, X => Zz d es lo σ (Zsb Q) X
  | .lst es _, lo, σ, Q, X => Zz d es lo σ (Zse Q) X
  | .dct ks es _, lo, σ, Q, X => ks.length = es.length ∧ es.length ≤ 15 ∧ Zz d es lo σ (Zyy ks Q) X
  | .sub a i _, lo, σ, Q, X => wpE d a lo σ (Zay (wpE d i lo) (Zsc G Q) X) X
  | .cut a u _ _, lo, σ, Q, X => wpE d a lo σ (Zay (wpE d u lo) (cutQ G Q) X) X
  | .bin a op b _, lo, σ, Q, X => wpE d a lo σ (Zay (wpE d b lo) (Zzc op Q) X) X
  | .cmp a op b _, lo, σ, Q, X => wpE d a lo σ (Zay (wpE d b lo) (Zsi G op Q) X) X
  | .bop op es _, lo, σ, Q, X => wpB d op es lo σ Q X
  | .neg a _, lo, σ, Q, X => wpE d a lo σ (trP (Znj Q)) X
  | .ite c a b _, lo, σ, Q, X => wpE d c lo σ (trP (Zin (wpE d a lo) (wpE d b lo) Q X)) X
  | .attr a t _, lo, σ, Q, X => wpE d a lo σ (Zadi G t Q) X
  | .call f args _ _, lo, σ, Q, X => ∃ d' a, d = d' + 1 ∧ G.fn f = some a ∧ Zz d args lo σ (Zfb S st d' a [] Q X) X
  | .bcall f args _ _, lo, σ, Q, X => Zz d args lo σ (Zdz G st f Q) X
  | .mcall o m args _ _, lo, σ, Q, X => wpE d o lo σ (McP G S st d m (Zz d args lo) args.isEmpty Q X) X
  | .fmt es _, lo, σ, Q, X => wpF d es lo σ 0 (fmtQ Q) X
  | .fval a _, lo, σ, Q, X => wpE d a lo σ (Zadc Q) X
  | .lenset a _ _ _ _, lo, σ, Q, X => wpE d a lo σ (Zxj st Q) X
  | .neW a w _ _ _, lo, σ, Q, X => wpE d a lo σ (neWQ G w Q) X
  | .lcond _ _ _ src _ i _ _ _ _ _ _ _, lo, σ, Q, _ => ∃ a vs ws, lo.get src = some (.obj a) ∧ σ a = some (.list vs) ∧ FilterR i vs ws ∧ st = true ∧ vs.length ≤ 8 ∧ Q (.int ws.length) σ
  | .kcomp sf m _ _ it _ _ _ _ _ _ _ _ _ _, lo, σ, Q, X => st = true ∧ ∃ a, lo.get sf = some (.obj a) ∧ wpE d it lo σ (Zabh G S st d m a Q) X
  | .any _ _ _ _, _, _, _, _ => False
noncomputable def Zz (d : Nat) : List Ex → Loc → Store → LQ → XV' → Prop
  | [], _, σ, Q, _ => Q [] σ
  | e :: r, lo, σ, Q, X => wpE d e lo σ (Zdl (Zz d r lo) Q X) X
noncomputable def wpB (d : Nat) : BoolOp → List Ex → Loc → Store → QV → XV' → Prop
  | _, [], _, _, _, _ => False
  | op, e :: r, lo, σ, Q, X => wpE d e lo σ (bopQ op r.isEmpty (wpB d op r lo) Q X) X
noncomputable def wpF (d : Nat) : List Ex → Loc → Store → Nat → (Nat → Store → Prop) → XV' → Prop
  | [], _, σ, n, Q, _ => Q n σ
  | e :: r, lo, σ, n, Q, X => wpE d e lo σ (Zjy n (wpF d r lo) Q X) X
end
end
inductive Fl where
  | next
  | ret (v : PV)
noncomputable abbrev QS := Fl → Loc → Store → Prop
noncomputable abbrev XS := Int → Loc → Store → Prop
noncomputable def bindMany : List (Nat × Pos) → List PV → Loc → Option Loc
  | [], [], lo => some lo
  | t :: ts, v :: vs, lo => bindMany ts vs ((t.1, v) :: lo)
  | _, _, _ => none
noncomputable def Tgt.bind : Tgt → PV → Loc → Option Loc
  | .one t _, v, lo => some ((t, v) :: lo)
  | .many ts _ _, .tup vs, lo => if nodupN (ts.map (·.1)) then bindMany ts vs lo else none
  | _, _, _ => none
noncomputable def Tgt.isMany : Tgt → Bool
  | .one _ _ => false
  | .many _ _ _ => true
noncomputable def Store.del (σ : Store) (a : Addr) : Store := fun x => if x = a then none else σ x
noncomputable def Zdw (n : Int) : Option (List PV) := if -1000 ≤ n ∧ n ≤ 1000 then some ((List.range n.toNat).map fun (i : Nat) => .int i) else none
noncomputable def Zcv (a b c : Int) : Option (List PV) := if b = -1 ∧ c = -1 ∧ -1 ≤ a ∧ a ≤ 1000 then some ((List.range (a + 1).toNat).map fun (i : Nat) => .int (a - i)) else none
inductive RangeP (ws vs : List PV) : Prop
  | one (n : Int) (e : ws = [.int n]) (h : Zdw n = some vs)
  | three (a b c : Int) (e : ws = [.int a, .int b, .int c]) (h : Zcv a b c = some vs)
noncomputable def enumP : Nat → List PV → List PV
  | _, [] => []
  | i, v :: r => .tup [.int i, v] :: enumP (i + 1) r
noncomputable abbrev WS := Loc → Store → QS → XS → Prop
noncomputable def Zaa (w : WS) (Q : QS) (X : XS) : QS := fun f lo σ => match f with
  | .next => w lo σ Q X
  | .ret v => Q (.ret v) lo σ
noncomputable def Zo (X : XS) (lo : Loc) : XV' := fun x => X x lo
noncomputable def Zvq (g : Tgt) (v : PV) (lo : Loc) (k : Loc → Prop) : Prop := ∃ lo₁, g.bind v lo = some lo₁ ∧ k lo₁
noncomputable def Zax (g : Tgt) (body : WS) : List PV → WS
  | [], lo, σ, Q, _ => Q .next lo σ
  | v :: r, lo, σ, Q, X => Zvq g v lo fun lo₁ => body lo₁ σ (Zaa (Zax g body r) Q X) X
noncomputable def whK (body again : WS) (lo : Loc) (Q : QS) (X : XS) (b : Bool) (σ : Store) : Prop := match b with
  | true => body lo σ (Zaa again Q X) X
  | false => Q .next lo σ
noncomputable def Zbt (c : Loc → WE) (body : WS) : Nat → WS
  | 0, _, _, _, _ => False
  | n + 1, lo, σ, Q, X => c lo σ (trP (whK body (Zbt c body n) lo Q X)) (Zo X lo)
noncomputable def Znk (g : Tgt) (body : WS) (lo : Loc) (Q : QS) (X : XS) (vs : List PV) (σ : Store) : Prop := vs.length ≤ 1000 ∧ Zax g body vs lo σ Q X
noncomputable def Zyw (g : Tgt) (body : WS) (lo : Loc) (Q : QS) (X : XS) : QV := fun v σ => (∃ vs, v = .tup vs ∧ Znk g body lo Q X vs σ) ∨ ∃ a vs, v = .obj a ∧ σ a = some (.list vs) ∧ Znk g body lo Q X vs (σ.del a)
noncomputable def Zyv (g : Tgt) (body : WS) (lo : Loc) (Q : QS) (X : XS) : LQ := fun ws σ => ∃ vs, RangeP ws vs ∧ Znk g body lo Q X vs σ
noncomputable def forU (g : Tgt) (body : WS) (lo : Loc) (Q : QS) (X : XS) : QV := fun v σ => ∃ vs, v = .tup vs ∧ Znk g body lo Q X (enumP 0 vs) σ
noncomputable def Zsa (Q : QS) : QS := fun f lo σ => match f with
  | .next => Q .next [] σ
  | .ret v => Q (.ret v) lo σ
noncomputable def forZ (g : Tgt) (body : WS) (lo : Loc) (Q : QS) (X : XS) (v : PV) : QV := fun w σ => ∃ o v₁ w₁ lo₁, v = .obj o ∧ w = .tup [w₁] ∧ σ o = some (.list [v₁]) ∧ g.bind (.tup [v₁, w₁]) lo = some lo₁ ∧ body lo₁ (σ.del o) (Zsa Q) X
noncomputable def Zhc (g : Tgt) (lo : Loc) (Q : QS) : QV := fun v σ => Zvq g v lo fun lo₁ => Q .next lo₁ σ
noncomputable def Znp (lo : Loc) (Q : QS) (v x : PV) : QV := fun y σ => ∃ a t es, x = .obj a ∧ y = .tag t ∧ σ a = some (.dict es) ∧ es.length ≤ 1000 ∧ Q .next lo (σ.upd a (.dict (Ze t v es)))
noncomputable def Znq (G : Pg) (t : Nat) (lo : Loc) (Q : QS) (v : PV) : QV := fun x σ => ∃ a c dd es, InstP σ x a c dd es ∧ G.at_ c t = true ∧ es.length ≤ 100 ∧ Q .next lo (σ.upd dd (.attrs (Ze t v es)))
noncomputable def Znx (lo : Loc) (Q : QS) : QV := fun _ σ => Q .next lo σ
noncomputable def Zyr (lo : Loc) (Q : QS) : QV := fun v σ => Q (.ret v) lo σ
noncomputable def ifK (a b : WS) (lo : Loc) (Q : QS) (X : XS) (c : Bool) (σ : Store) : Prop := match c with
  | true => a lo σ Q X
  | false => b lo σ Q X
noncomputable def Zaar (lo : Loc) (X : XS) (v : PV) : QV := fun w σ => ∃ k i, isStrP v = some k ∧ w = .int i ∧ k ≤ 100000 ∧ X i lo σ
noncomputable def noX : XS := fun _ _ _ => False
noncomputable def Zyx (f : Fl) (Q : QS) : QS := fun g lo σ => match g with
  | .next => Q f lo σ
  | .ret _ => False
noncomputable def finX (i : Int) (X : XS) : QS := fun g lo σ => match g with
  | .next => X i lo σ
  | .ret _ => False
noncomputable def Zyp (fin : WS) (Q : QS) : QS := fun f lo σ => fin lo σ (Zyx f Q) noX
noncomputable def Zyo (fin : WS) (X : XS) : XS := fun i lo σ => fin lo σ (finX i X) noX
noncomputable def Zpv (Q : QS) : XS := fun i _ σ => Q (.ret (.tup [.none, .int i])) [] σ
section
variable (G : Pg) (S : Spec)
mutual
noncomputable def wpS (st : Bool) (d : Nat) : Sm → WS
  | .asg g e _, lo, σ, Q, X => (g.isMany = true → st = true) ∧ wpE G S st d e lo σ (Zhc g lo Q) (Zo X lo)
  | .setS o i _ e _, lo, σ, Q, X => wpE G S st d e lo σ (Zay (wpE G S st d o lo) (fun v => Zay (wpE G S st d i lo) (Znp lo Q v) (Zo X lo)) (Zo X lo)) (Zo X lo)
  | .setA o t _ e _, lo, σ, Q, X => wpE G S st d e lo σ (Zay (wpE G S st d o lo) (Znq G t lo Q) (Zo X lo)) (Zo X lo)
  | .expr e _, lo, σ, Q, X => wpE G S st d e lo σ (Znx lo Q) (Zo X lo)
  | .ret e _, lo, σ, Q, X => wpE G S st d e lo σ (Zyr lo Q) (Zo X lo)
  | .ite c a b _, lo, σ, Q, X => wpE G S st d c lo σ (trP (ifK (Za st d a) (Za st d b) lo Q X)) (Zo X lo)
  | .for_ g it body _, lo, σ, Q, X => st = true ∧ match it with
    | .ex e => wpE G S st d e lo σ (Zyw g (Za st d body) lo Q X) (Zo X lo)
    | .rng es _ _ => Zz G S st d es lo σ (Zyv g (Za st d body) lo Q X) (Zo X lo)
    | .enum e _ _ => wpE G S st d e lo σ (forU g (Za st d body) lo Q X) (Zo X lo)
    | .zip a b _ _ => wpE G S st d a lo σ (Zay (wpE G S st d b lo) (forZ g (Za st d body) lo Q X) (Zo X lo)) (Zo X lo)
  | .whil c body _, lo, σ, Q, X => ∃ n, Zbt (wpE G S st d c) (Za st d body) n lo σ Q X
  | .raise m s _ _ _, lo, σ, _, X => st = true ∧ wpE G S st d m lo σ (Zay (wpE G S st d s lo) (Zaar lo X) (Zo X lo)) (Zo X lo)
  | .tryF body fin _, lo, σ, Q, X => Za st d body lo σ (Zyp (Za st d fin) Q) (Zyo (Za false d fin) X)
  | .heard body _ _ _ _ _ _ _ _, lo, σ, Q, _ => Za st d body lo σ Q (Zpv Q)
  | .any _, _, _, _, _ => False
noncomputable def Za (st : Bool) (d : Nat) : List Sm → WS
  | [], lo, σ, Q, _ => Q .next lo σ
  | s :: r, lo, σ, Q, X => wpS st d s lo σ (Zaa (Za st d r) Q X) X
end
end
theorem Zey {t u : Nat} {v x : PV} {r : List (Nat × PV)} : Ze t v ((u, x) :: r) = if u = t then (u, v) :: r else (u, x) :: Ze t v r := rfl
theorem Zkl {t : Nat × Pos} {ts : List (Nat × Pos)} {v : PV} {vs : List PV} {lo : Loc} : bindMany (t :: ts) (v :: vs) lo = bindMany ts vs ((t.1, v) :: lo) := rfl
theorem Zqj {ts : List (Nat × Pos)} {k : Nat} {p : Pos} {vs : List PV} {lo : Loc} : (Tgt.many ts k p).bind (.tup vs) lo = if nodupN (ts.map (·.1)) then bindMany ts vs lo else none := rfl
theorem Znw {n m : Nat} {r : List PV} : inTags n (.tag m :: r) = if n = m then some true else inTags n r := rfl
theorem Zpc {n : Nat} {r : List PV} : tagsOf (.tag n :: r) = (tagsOf r).map (n :: ·) := rfl
theorem Zaca {n : Nat} {seen r : List Nat} : distinctN seen (n :: r) = if seen.contains n then distinctN seen r else distinctN (n :: seen) r + 1 := rfl
noncomputable def b191 : List Sm := [
  .asg (.many [(74, ⟨39,4,39,8⟩), (115, ⟨39,10,39,16⟩), (91, ⟨39,18,39,22⟩)] 0 ⟨39,4,39,22⟩) (.var 89 ⟨39,25,39,29⟩) ⟨39,4,39,29⟩,
  .asg (.one 122 ⟨40,4,40,8⟩) (.bin (.ite (.var 115 ⟨40,22,40,28⟩) (.str 191 ⟨40,12,40,18⟩) (.str 193 ⟨40,34,40,36⟩) ⟨40,12,40,36⟩) .Add (.ite (.cmp (.var 74 ⟨40,54,40,58⟩) .Eq (.str 4 ⟨40,62,40,68⟩) ⟨40,54,40,68⟩) (.str 192 ⟨40,41,40,50⟩) (.var 74 ⟨40,74,40,78⟩) ⟨40,41,40,78⟩) ⟨40,11,40,79⟩) ⟨40,4,40,79⟩,
  .ret (.ite (.cmp (.var 91 ⟨41,19,41,23⟩) .Eq (.int 0 ⟨41,27,41,28⟩) ⟨41,19,41,28⟩) (.var 122 ⟨41,11,41,15⟩) (.fmt [(.str 194 ⟨41,36,41,45⟩), (.fval (.var 91 ⟨41,46,41,50⟩) ⟨41,45,41,51⟩), (.str 195 ⟨41,51,41,66⟩), (.fval (.var 122 ⟨41,67,41,71⟩) ⟨41,66,41,72⟩)] ⟨41,34,41,73⟩) ⟨41,11,41,73⟩) ⟨41,4,41,73⟩]
noncomputable def b198 : List Sm := [
  .ite (.bop .Or [(.cmp (.sub (.var 89 ⟨43,7,43,11⟩) (.int 2 ⟨43,12,43,13⟩) ⟨43,7,43,14⟩) .NotEq (.sub (.var 111 ⟨43,18,43,24⟩) (.int 2 ⟨43,25,43,26⟩) ⟨43,18,43,27⟩) ⟨43,7,43,27⟩), (.bop .And [(.sub (.var 89 ⟨43,32,43,36⟩) (.int 1 ⟨43,37,43,38⟩) ⟨43,32,43,39⟩), (.neg (.sub (.var 111 ⟨43,49,43,55⟩) (.int 1 ⟨43,56,43,57⟩) ⟨43,49,43,58⟩) ⟨43,45,43,58⟩)] ⟨43,32,43,59⟩)] ⟨43,7,43,60⟩) [
    .ret (.bool false ⟨44,15,44,20⟩) ⟨44,8,44,20⟩] [] ⟨43,4,44,20⟩,
  .ret (.bop .Or [(.cmp (.sub (.var 89 ⟨45,11,45,15⟩) (.int 0 ⟨45,16,45,17⟩) ⟨45,11,45,18⟩) .In (.tup [(.sub (.var 111 ⟨45,23,45,29⟩) (.int 0 ⟨45,30,45,31⟩) ⟨45,23,45,32⟩), (.str 4 ⟨45,34,45,40⟩)] 0 ⟨45,22,45,41⟩) ⟨45,11,45,41⟩), (.bop .And [(.cmp (.sub (.var 111 ⟨45,46,45,52⟩) (.int 0 ⟨45,53,45,54⟩) ⟨45,46,45,55⟩) .Eq (.str 0 ⟨45,59,45,64⟩) ⟨45,46,45,64⟩), (.cmp (.sub (.var 89 ⟨45,69,45,73⟩) (.int 0 ⟨45,74,45,75⟩) ⟨45,69,45,76⟩) .Eq (.str 1 ⟨45,80,45,86⟩) ⟨45,69,45,86⟩)] ⟨45,46,45,86⟩)] ⟨45,11,45,87⟩) ⟨45,4,45,87⟩]
noncomputable def b205 : List Sm := [
  .ite (.neg (.call 163 [(.var 89 ⟨47,16,47,20⟩), (.var 111 ⟨47,22,47,28⟩)] ⟨47,11,47,15⟩ ⟨47,11,47,29⟩) ⟨47,7,47,29⟩) [
    .raise (.fmt [(.fval (.var 86 ⟨48,27,48,31⟩) ⟨48,26,48,32⟩), (.str 196 ⟨48,32,48,34⟩), (.fval (.call 162 [(.var 111 ⟨48,45,48,51⟩)] ⟨48,35,48,44⟩ ⟨48,35,48,52⟩) ⟨48,34,48,53⟩), (.str 197 ⟨48,53,48,69⟩), (.fval (.call 162 [(.var 89 ⟨48,80,48,84⟩)] ⟨48,70,48,79⟩ ⟨48,70,48,85⟩) ⟨48,69,48,86⟩)] ⟨48,24,48,87⟩) (.var 67 ⟨48,89,48,93⟩) ⟨48,14,48,23⟩ ⟨48,14,48,94⟩ ⟨48,8,48,94⟩] [] ⟨47,4,48,94⟩]
noncomputable def b212 : List Sm := [
  .asg (.one 121 ⟨50,4,50,9⟩) (.tup [(.sub (.var 80 ⟨50,13,50,16⟩) (.int 0 ⟨50,17,50,18⟩) ⟨50,13,50,19⟩), (.sub (.var 96 ⟨50,21,50,26⟩) (.int 0 ⟨50,27,50,28⟩) ⟨50,21,50,29⟩)] 0 ⟨50,12,50,30⟩) ⟨50,4,50,30⟩,
  .ite (.bop .Or [(.cmp (.sub (.var 80 ⟨51,7,51,10⟩) (.int 2 ⟨51,11,51,12⟩) ⟨51,7,51,13⟩) .NotEq (.sub (.var 96 ⟨51,17,51,22⟩) (.int 2 ⟨51,23,51,24⟩) ⟨51,17,51,25⟩) ⟨51,7,51,25⟩), (.bop .And [(.cmp (.sub (.var 80 ⟨51,30,51,33⟩) (.int 0 ⟨51,34,51,35⟩) ⟨51,30,51,36⟩) .NotEq (.sub (.var 96 ⟨51,40,51,45⟩) (.int 0 ⟨51,46,51,47⟩) ⟨51,40,51,48⟩) ⟨51,30,51,48⟩), (.cmp (.str 4 ⟨51,53,51,59⟩) .NotIn (.var 121 ⟨51,67,51,72⟩) ⟨51,53,51,72⟩), (.cmp (.bcall 186 [(.var 121 ⟨51,85,51,90⟩)] ⟨51,78,51,84⟩ ⟨51,78,51,91⟩) .NotEq (.lst [(.str 1 ⟨51,96,51,102⟩), (.str 0 ⟨51,104,51,109⟩)] ⟨51,95,51,110⟩) ⟨51,78,51,110⟩)] ⟨51,30,51,111⟩)] ⟨51,7,51,112⟩) [
    .raise (.fmt [(.fval (.var 86 ⟨52,27,52,31⟩) ⟨52,26,52,32⟩), (.str 196 ⟨52,32,52,34⟩), (.fval (.call 162 [(.var 80 ⟨52,45,52,48⟩)] ⟨52,35,52,44⟩ ⟨52,35,52,49⟩) ⟨52,34,52,50⟩), (.str 198 ⟨52,50,52,58⟩), (.fval (.call 162 [(.var 96 ⟨52,69,52,74⟩)] ⟨52,59,52,68⟩ ⟨52,59,52,75⟩) ⟨52,58,52,76⟩)] ⟨52,24,52,77⟩) (.var 67 ⟨52,79,52,83⟩) ⟨52,14,52,23⟩ ⟨52,14,52,84⟩ ⟨52,8,52,84⟩] [] ⟨51,4,52,84⟩,
  .asg (.one 74 ⟨53,4,53,8⟩) (.ite (.bop .Or [(.cmp (.sub (.var 80 ⟨53,21,53,24⟩) (.int 0 ⟨53,25,53,26⟩) ⟨53,21,53,27⟩) .Eq (.sub (.var 96 ⟨53,31,53,36⟩) (.int 0 ⟨53,37,53,38⟩) ⟨53,31,53,39⟩) ⟨53,21,53,39⟩), (.cmp (.sub (.var 96 ⟨53,43,53,48⟩) (.int 0 ⟨53,49,53,50⟩) ⟨53,43,53,51⟩) .Eq (.str 4 ⟨53,55,53,61⟩) ⟨53,43,53,61⟩)] ⟨53,21,53,61⟩) (.sub (.var 80 ⟨53,11,53,14⟩) (.int 0 ⟨53,15,53,16⟩) ⟨53,11,53,17⟩) (.ite (.cmp (.sub (.var 80 ⟨53,79,53,82⟩) (.int 0 ⟨53,83,53,84⟩) ⟨53,79,53,85⟩) .Eq (.str 4 ⟨53,89,53,95⟩) ⟨53,79,53,95⟩) (.sub (.var 96 ⟨53,67,53,72⟩) (.int 0 ⟨53,73,53,74⟩) ⟨53,67,53,75⟩) (.str 0 ⟨53,101,53,106⟩) ⟨53,67,53,106⟩) ⟨53,11,53,106⟩) ⟨53,4,53,106⟩,
  .ret (.tup [(.var 74 ⟨54,12,54,16⟩), (.bop .Or [(.sub (.var 80 ⟨54,18,54,21⟩) (.int 1 ⟨54,22,54,23⟩) ⟨54,18,54,24⟩), (.sub (.var 96 ⟨54,28,54,33⟩) (.int 1 ⟨54,34,54,35⟩) ⟨54,28,54,36⟩)] ⟨54,18,54,36⟩), (.sub (.var 80 ⟨54,38,54,41⟩) (.int 2 ⟨54,42,54,43⟩) ⟨54,38,54,44⟩)] 0 ⟨54,11,54,45⟩) ⟨54,4,54,45⟩]
noncomputable def b226 : List Sm := [
  .setA (.var 103 ⟨58,8,58,12⟩) 93 ⟨58,8,58,19⟩ (.lst [(.dct [] [] ⟨58,23,58,25⟩)] ⟨58,22,58,26⟩) ⟨58,8,58,26⟩,
  .setA (.var 103 ⟨59,8,59,12⟩) 104 ⟨59,8,59,18⟩ (.dct [] [] ⟨59,21,59,23⟩) ⟨59,8,59,23⟩]
noncomputable def b233 : List Sm := [
  .expr (.mcall (.attr (.var 103 ⟨62,8,62,12⟩) 93 ⟨62,8,62,19⟩) 127 [(.dct [] [] ⟨62,27,62,29⟩)] ⟨62,8,62,26⟩ ⟨62,8,62,30⟩) ⟨62,8,62,30⟩]
noncomputable def b240 : List Sm := [
  .expr (.mcall (.attr (.var 103 ⟨65,8,65,12⟩) 93 ⟨65,8,65,19⟩) 124 [] ⟨65,8,65,23⟩ ⟨65,8,65,25⟩) ⟨65,8,65,25⟩]
noncomputable def b247 : List Sm := [
  .ite (.cmp (.var 5 ⟨68,11,68,15⟩) .In (.sub (.attr (.var 103 ⟨68,19,68,23⟩) 93 ⟨68,19,68,30⟩) (.minus 1 ⟨68,32,68,33⟩ ⟨68,31,68,33⟩) ⟨68,19,68,34⟩) ⟨68,11,68,34⟩) [
    .raise (.fmt [(.fval (.var 5 ⟨69,31,69,35⟩) ⟨69,30,69,36⟩), (.str 199 ⟨69,36,69,54⟩)] ⟨69,28,69,55⟩) (.var 67 ⟨69,57,69,61⟩) ⟨69,18,69,27⟩ ⟨69,18,69,62⟩ ⟨69,12,69,62⟩] [] ⟨68,8,69,62⟩,
  .setS (.sub (.attr (.var 103 ⟨70,8,70,12⟩) 93 ⟨70,8,70,19⟩) (.minus 1 ⟨70,21,70,22⟩ ⟨70,20,70,22⟩) ⟨70,8,70,23⟩) (.var 5 ⟨70,24,70,28⟩) ⟨70,8,70,29⟩ (.var 89 ⟨70,32,70,36⟩) ⟨70,8,70,36⟩]
noncomputable def b254_1 : List Sm := [
    .ite (.cmp (.var 5 ⟨74,15,74,19⟩) .In (.sub (.attr (.var 103 ⟨74,23,74,27⟩) 93 ⟨74,23,74,34⟩) (.var 66 ⟨74,35,74,40⟩) ⟨74,23,74,41⟩) ⟨74,15,74,41⟩) [
      .ite (.cmp (.var 66 ⟨75,19,75,24⟩) .Eq (.int 0 ⟨75,28,75,29⟩) ⟨75,19,75,29⟩) [
        .setS (.attr (.var 103 ⟨76,20,76,24⟩) 104 ⟨76,20,76,30⟩) (.var 5 ⟨76,31,76,35⟩) ⟨76,20,76,36⟩ (.bool true ⟨76,39,76,43⟩) ⟨76,20,76,43⟩] [] ⟨75,16,76,43⟩,
      .ret (.sub (.sub (.attr (.var 103 ⟨77,23,77,27⟩) 93 ⟨77,23,77,34⟩) (.var 66 ⟨77,35,77,40⟩) ⟨77,23,77,41⟩) (.var 5 ⟨77,42,77,46⟩) ⟨77,23,77,47⟩) ⟨77,16,77,47⟩] [] ⟨74,12,77,47⟩]
noncomputable def b254 : List Sm := [
  .for_ (.one 66 ⟨73,12,73,17⟩) (.rng [(.bin (.bcall 187 [(.attr (.var 103 ⟨73,31,73,35⟩) 93 ⟨73,31,73,42⟩)] ⟨73,27,73,30⟩ ⟨73,27,73,43⟩) .Sub (.int 1 ⟨73,46,73,47⟩) ⟨73,27,73,47⟩), (.minus 1 ⟨73,50,73,51⟩ ⟨73,49,73,51⟩), (.minus 1 ⟨73,54,73,55⟩ ⟨73,53,73,55⟩)] ⟨73,21,73,26⟩ ⟨73,21,73,56⟩) b254_1 ⟨73,8,77,47⟩,
  .raise (.fmt [(.fval (.var 5 ⟨78,27,78,31⟩) ⟨78,26,78,32⟩), (.str 200 ⟨78,32,78,48⟩)] ⟨78,24,78,49⟩) (.var 67 ⟨78,51,78,55⟩) ⟨78,14,78,23⟩ ⟨78,14,78,56⟩ ⟨78,8,78,56⟩]
noncomputable def b275 : List Sm := [
  .setA (.var 103 ⟨82,8,82,12⟩) 83 ⟨82,8,82,18⟩ (.call 166 [] ⟨82,21,82,26⟩ ⟨82,21,82,28⟩) ⟨82,8,82,28⟩,
  .setA (.var 103 ⟨83,8,83,12⟩) 105 ⟨83,8,83,23⟩ (.dct [] [] ⟨83,26,83,28⟩) ⟨83,8,83,28⟩,
  .setA (.var 103 ⟨84,8,84,12⟩) 106 ⟨84,8,84,17⟩ (.dct [] [] ⟨84,20,84,22⟩) ⟨84,8,84,22⟩,
  .setA (.var 103 ⟨85,8,85,12⟩) 107 ⟨85,8,85,21⟩ (.dct [] [] ⟨85,24,85,26⟩) ⟨85,8,85,26⟩,
  .setA (.var 103 ⟨86,8,86,12⟩) 108 ⟨86,8,86,21⟩ (.bool false ⟨86,24,86,29⟩) ⟨86,8,86,29⟩,
  .setA (.var 103 ⟨87,8,87,12⟩) 109 ⟨87,8,87,19⟩ (.dct [] [] ⟨87,22,87,24⟩) ⟨87,8,87,24⟩]
noncomputable def b287 : List Sm := [
  .asg (.many [(85, ⟨101,8,101,10⟩), (67, ⟨101,12,101,16⟩)] 0 ⟨101,8,101,16⟩) (.tup [(.sub (.var 92 ⟨101,20,101,24⟩) (.int 0 ⟨101,25,101,26⟩) ⟨101,20,101,27⟩), (.sub (.var 92 ⟨101,29,101,33⟩) (.int 1 ⟨101,34,101,35⟩) ⟨101,29,101,36⟩)] 0 ⟨101,19,101,37⟩) ⟨101,8,101,37⟩,
  .ite (.cmp (.var 85 ⟨102,11,102,13⟩) .In (.tup [(.str 0 ⟨102,18,102,23⟩), (.str 1 ⟨102,25,102,31⟩), (.str 2 ⟨102,33,102,38⟩)] 0 ⟨102,17,102,39⟩) ⟨102,11,102,39⟩) [
    .ret (.tup [(.var 85 ⟨103,20,103,22⟩), (.bool false ⟨103,24,103,29⟩), (.int 0 ⟨103,31,103,32⟩)] 0 ⟨103,19,103,33⟩) ⟨103,12,103,33⟩] [] ⟨102,8,103,33⟩,
  .ite (.cmp (.var 85 ⟨104,11,104,13⟩) .Eq (.str 5 ⟨104,17,104,23⟩) ⟨104,11,104,23⟩) [
    .ret (.mcall (.attr (.var 103 ⟨105,19,105,23⟩) 83 ⟨105,19,105,29⟩) 126 [(.sub (.var 92 ⟨105,38,105,42⟩) (.int 2 ⟨105,43,105,44⟩) ⟨105,38,105,45⟩), (.var 67 ⟨105,47,105,51⟩)] ⟨105,19,105,37⟩ ⟨105,19,105,52⟩) ⟨105,12,105,52⟩] [] ⟨104,8,105,52⟩,
  .ite (.cmp (.var 85 ⟨106,11,106,13⟩) .Eq (.str 6 ⟨106,17,106,22⟩) ⟨106,11,106,22⟩) [
    .ret (.mcall (.var 103 ⟨107,19,107,23⟩) 130 [(.var 92 ⟨107,30,107,34⟩)] ⟨107,19,107,29⟩ ⟨107,19,107,35⟩) ⟨107,12,107,35⟩] [] ⟨106,8,107,35⟩,
  .ite (.cmp (.var 85 ⟨108,11,108,13⟩) .Eq (.str 7 ⟨108,17,108,21⟩) ⟨108,11,108,21⟩) [
    .ret (.mcall (.var 103 ⟨109,19,109,23⟩) 129 [(.sub (.var 92 ⟨109,31,109,35⟩) (.int 2 ⟨109,36,109,37⟩) ⟨109,31,109,38⟩), (.mcall (.var 103 ⟨109,40,109,44⟩) 89 [(.sub (.var 92 ⟨109,50,109,54⟩) (.int 3 ⟨109,55,109,56⟩) ⟨109,50,109,57⟩)] ⟨109,40,109,49⟩ ⟨109,40,109,58⟩), (.var 67 ⟨109,60,109,64⟩)] ⟨109,19,109,30⟩ ⟨109,19,109,65⟩) ⟨109,12,109,65⟩] [] ⟨108,8,109,65⟩,
  .ite (.cmp (.var 85 ⟨110,11,110,13⟩) .Eq (.str 8 ⟨110,17,110,24⟩) ⟨110,11,110,24⟩) [
    .ret (.mcall (.var 103 ⟨111,19,111,23⟩) 131 [(.mcall (.var 103 ⟨111,32,111,36⟩) 89 [(.sub (.var 92 ⟨111,42,111,46⟩) (.int 2 ⟨111,47,111,48⟩) ⟨111,42,111,49⟩)] ⟨111,32,111,41⟩ ⟨111,32,111,50⟩), (.sub (.var 92 ⟨111,52,111,56⟩) (.int 3 ⟨111,57,111,58⟩) ⟨111,52,111,59⟩), (.var 67 ⟨111,61,111,65⟩)] ⟨111,19,111,31⟩ ⟨111,19,111,66⟩) ⟨111,12,111,66⟩] [] ⟨110,8,111,66⟩,
  .ite (.cmp (.var 85 ⟨112,11,112,13⟩) .Eq (.str 9 ⟨112,17,112,23⟩) ⟨112,11,112,23⟩) [
    .ret (.mcall (.var 103 ⟨113,19,113,23⟩) 9 [(.sub (.var 92 ⟨113,29,113,33⟩) (.int 2 ⟨113,34,113,35⟩) ⟨113,29,113,36⟩), (.any (.Call (.Attribute (.Name (Str.ofString "self") ⟨113,39,113,43⟩) (Str.ofString "kind") ⟨113,39,113,48⟩) [(.Name (Str.ofString "part") ⟨113,49,113,53⟩)] [] ⟨113,39,113,54⟩) [⟨(.Name (Str.ofString "part") ⟨113,59,113,63⟩), (.Subscript (.Name (Str.ofString "node") ⟨113,67,113,71⟩) (.Constant (.int 3) 0 ⟨113,72,113,73⟩) ⟨113,67,113,74⟩), [], 0⟩] ⟨.function, [((Str.ofString ".0"), .local), ((Str.ofString "part"), .local), ((Str.ofString "self"), .free)], false, false, []⟩/-0-/ ⟨113,38,113,75⟩), (.var 67 ⟨113,77,113,81⟩)] ⟨113,19,113,28⟩ ⟨113,19,113,82⟩) ⟨113,12,113,82⟩] [] ⟨112,8,113,82⟩,
  .ite (.cmp (.var 85 ⟨114,11,114,13⟩) .In (.tup [(.str 10 ⟨114,18,114,25⟩), (.str 11 ⟨114,27,114,35⟩), (.str 3 ⟨114,37,114,42⟩), (.str 12 ⟨114,44,114,51⟩)] 0 ⟨114,17,114,52⟩) ⟨114,11,114,52⟩) [
    .ret (.mcall (.var 103 ⟨115,19,115,23⟩) 132 [(.var 85 ⟨115,33,115,35⟩), (.var 92 ⟨115,37,115,41⟩)] ⟨115,19,115,32⟩ ⟨115,19,115,42⟩) ⟨115,12,115,42⟩] [] ⟨114,8,115,42⟩,
  .ite (.cmp (.var 85 ⟨116,11,116,13⟩) .In (.tup [(.str 13 ⟨116,18,116,23⟩), (.str 14 ⟨116,25,116,31⟩)] 0 ⟨116,17,116,32⟩) ⟨116,11,116,32⟩) [
    .ret (.mcall (.var 103 ⟨117,19,117,23⟩) 133 [(.var 85 ⟨117,34,117,36⟩), (.var 92 ⟨117,38,117,42⟩)] ⟨117,19,117,33⟩ ⟨117,19,117,43⟩) ⟨117,12,117,43⟩] [] ⟨116,8,117,43⟩,
  .ite (.cmp (.var 85 ⟨118,11,118,13⟩) .Eq (.str 15 ⟨118,17,118,21⟩) ⟨118,11,118,21⟩) [
    .ret (.mcall (.var 103 ⟨119,19,119,23⟩) 134 [(.var 92 ⟨119,31,119,35⟩)] ⟨119,19,119,30⟩ ⟨119,19,119,36⟩) ⟨119,12,119,36⟩] [] ⟨118,8,119,36⟩,
  .ite (.cmp (.var 85 ⟨120,11,120,13⟩) .Eq (.str 16 ⟨120,17,120,22⟩) ⟨120,11,120,22⟩) [
    .ret (.mcall (.var 103 ⟨121,19,121,23⟩) 135 [(.var 92 ⟨121,31,121,35⟩)] ⟨121,19,121,30⟩ ⟨121,19,121,36⟩) ⟨121,12,121,36⟩] [] ⟨120,8,121,36⟩,
  .raise (.fmt [(.fval (.var 85 ⟨122,27,122,29⟩) ⟨122,26,122,30⟩), (.str 201 ⟨122,30,122,47⟩)] ⟨122,24,122,48⟩) (.var 67 ⟨122,50,122,54⟩) ⟨122,14,122,23⟩ ⟨122,14,122,55⟩ ⟨122,8,122,55⟩]
noncomputable def b301_1 : List Sm := [
    .expr (.mcall (.var 120 ⟨130,12,130,19⟩) 127 [(.var 92 ⟨130,27,130,31⟩)] ⟨130,12,130,26⟩ ⟨130,12,130,32⟩) ⟨130,12,130,32⟩,
    .asg (.one 92 ⟨131,12,131,16⟩) (.sub (.var 92 ⟨131,19,131,23⟩) (.int 3 ⟨131,24,131,25⟩) ⟨131,19,131,26⟩) ⟨131,12,131,26⟩]
noncomputable def b301_2 : List Sm := [
    .asg (.one 92 ⟨134,12,134,16⟩) (.mcall (.var 120 ⟨134,19,134,26⟩) 124 [] ⟨134,19,134,30⟩ ⟨134,19,134,32⟩) ⟨134,12,134,32⟩,
    .asg (.one 81 ⟨135,12,135,17⟩) (.mcall (.var 103 ⟨135,20,135,24⟩) 136 [(.sub (.var 92 ⟨135,32,135,36⟩) (.int 2 ⟨135,37,135,38⟩) ⟨135,32,135,39⟩), (.var 81 ⟨135,41,135,46⟩), (.mcall (.var 103 ⟨135,48,135,52⟩) 89 [(.sub (.var 92 ⟨135,58,135,62⟩) (.int 4 ⟨135,63,135,64⟩) ⟨135,58,135,65⟩)] ⟨135,48,135,57⟩ ⟨135,48,135,66⟩), (.sub (.var 92 ⟨135,68,135,72⟩) (.int 1 ⟨135,73,135,74⟩) ⟨135,68,135,75⟩)] ⟨135,20,135,31⟩ ⟨135,20,135,76⟩) ⟨135,12,135,76⟩]
noncomputable def b301 : List Sm := [
  .asg (.one 120 ⟨128,8,128,15⟩) (.lst [] ⟨128,18,128,20⟩) ⟨128,8,128,20⟩,
  .whil (.cmp (.sub (.var 92 ⟨129,14,129,18⟩) (.int 0 ⟨129,19,129,20⟩) ⟨129,14,129,21⟩) .Eq (.str 6 ⟨129,25,129,30⟩) ⟨129,14,129,30⟩) b301_1 ⟨129,8,131,26⟩,
  .asg (.one 81 ⟨132,8,132,13⟩) (.mcall (.var 103 ⟨132,16,132,20⟩) 89 [(.var 92 ⟨132,26,132,30⟩)] ⟨132,16,132,25⟩ ⟨132,16,132,31⟩) ⟨132,8,132,31⟩,
  .whil (.cmp (.bcall 187 [(.var 120 ⟨133,18,133,25⟩)] ⟨133,14,133,17⟩ ⟨133,14,133,26⟩) .Gt (.int 0 ⟨133,29,133,30⟩) ⟨133,14,133,30⟩) b301_2 ⟨133,8,135,76⟩,
  .ret (.var 81 ⟨136,15,136,20⟩) ⟨136,8,136,20⟩]
noncomputable def b308 : List Sm := [
  .asg (.one 115 ⟨139,8,139,14⟩) (.bop .Or [(.sub (.var 80 ⟨139,17,139,20⟩) (.int 1 ⟨139,21,139,22⟩) ⟨139,17,139,23⟩), (.sub (.var 96 ⟨139,27,139,32⟩) (.int 1 ⟨139,33,139,34⟩) ⟨139,27,139,35⟩)] ⟨139,17,139,35⟩) ⟨139,8,139,35⟩,
  .ite (.cmp (.var 78 ⟨140,11,140,15⟩) .In (.tup [(.str 38 ⟨140,20,140,23⟩), (.str 41 ⟨140,25,140,28⟩), (.str 42 ⟨140,30,140,33⟩), (.str 43 ⟨140,35,140,40⟩), (.str 44 ⟨140,42,140,47⟩)] 0 ⟨140,19,140,48⟩) ⟨140,11,140,48⟩) [
    .expr (.call 164 [(.var 80 ⟨141,17,141,20⟩), (.glob 148 ⟨141,22,141,25⟩), (.var 67 ⟨141,27,141,31⟩), (.var 78 ⟨141,33,141,37⟩)] ⟨141,12,141,16⟩ ⟨141,12,141,38⟩) ⟨141,12,141,38⟩,
    .expr (.call 164 [(.var 96 ⟨142,17,142,22⟩), (.glob 148 ⟨142,24,142,27⟩), (.var 67 ⟨142,29,142,33⟩), (.var 78 ⟨142,35,142,39⟩)] ⟨142,12,142,16⟩ ⟨142,12,142,40⟩) ⟨142,12,142,40⟩,
    .ret (.tup [(.str 0 ⟨143,20,143,25⟩), (.var 115 ⟨143,27,143,33⟩), (.int 0 ⟨143,35,143,36⟩)] 0 ⟨143,19,143,37⟩) ⟨143,12,143,37⟩] [] ⟨140,8,143,37⟩,
  .ite (.cmp (.var 78 ⟨144,11,144,15⟩) .Eq (.str 45 ⟨144,19,144,22⟩) ⟨144,11,144,22⟩) [
    .expr (.call 164 [(.var 80 ⟨145,17,145,20⟩), (.glob 148 ⟨145,22,145,25⟩), (.var 67 ⟨145,27,145,31⟩), (.var 78 ⟨145,33,145,37⟩)] ⟨145,12,145,16⟩ ⟨145,12,145,38⟩) ⟨145,12,145,38⟩,
    .expr (.call 164 [(.var 96 ⟨146,17,146,22⟩), (.glob 152 ⟨146,24,146,29⟩), (.var 67 ⟨146,31,146,35⟩), (.var 78 ⟨146,37,146,41⟩)] ⟨146,12,146,16⟩ ⟨146,12,146,42⟩) ⟨146,12,146,42⟩,
    .ret (.tup [(.str 0 ⟨147,20,147,25⟩), (.sub (.var 80 ⟨147,27,147,30⟩) (.int 1 ⟨147,31,147,32⟩) ⟨147,27,147,33⟩), (.int 0 ⟨147,35,147,36⟩)] 0 ⟨147,19,147,37⟩) ⟨147,12,147,37⟩] [] ⟨144,8,147,37⟩,
  .ite (.cmp (.var 78 ⟨148,11,148,15⟩) .In (.tup [(.str 39 ⟨148,20,148,25⟩), (.str 46 ⟨148,27,148,32⟩), (.str 47 ⟨148,34,148,38⟩), (.str 48 ⟨148,40,148,44⟩), (.str 49 ⟨148,46,148,51⟩), (.str 50 ⟨148,53,148,58⟩)] 0 ⟨148,19,148,59⟩) ⟨148,11,148,59⟩) [
    .expr (.call 164 [(.var 80 ⟨149,17,149,20⟩), (.glob 149 ⟨149,22,149,26⟩), (.var 67 ⟨149,28,149,32⟩), (.var 78 ⟨149,34,149,38⟩)] ⟨149,12,149,16⟩ ⟨149,12,149,39⟩) ⟨149,12,149,39⟩,
    .expr (.call 164 [(.var 96 ⟨150,17,150,22⟩), (.glob 149 ⟨150,24,150,28⟩), (.var 67 ⟨150,30,150,34⟩), (.var 78 ⟨150,36,150,40⟩)] ⟨150,12,150,16⟩ ⟨150,12,150,41⟩) ⟨150,12,150,41⟩,
    .ret (.tup [(.str 1 ⟨151,20,151,26⟩), (.var 115 ⟨151,28,151,34⟩), (.int 0 ⟨151,36,151,37⟩)] 0 ⟨151,19,151,38⟩) ⟨151,12,151,38⟩] [] ⟨148,8,151,38⟩,
  .ite (.cmp (.var 78 ⟨152,11,152,15⟩) .In (.tup [(.str 51 ⟨152,20,152,27⟩), (.str 52 ⟨152,29,152,35⟩), (.str 53 ⟨152,37,152,46⟩), (.str 54 ⟨152,48,152,59⟩), (.str 55 ⟨152,61,152,69⟩), (.str 56 ⟨152,71,152,81⟩)] 0 ⟨152,19,152,82⟩) ⟨152,11,152,82⟩) [
    .expr (.call 164 [(.var 80 ⟨153,17,153,20⟩), (.glob 155 ⟨153,22,153,25⟩), (.var 67 ⟨153,27,153,31⟩), (.var 78 ⟨153,33,153,37⟩)] ⟨153,12,153,16⟩ ⟨153,12,153,38⟩) ⟨153,12,153,38⟩,
    .expr (.call 164 [(.var 96 ⟨154,17,154,22⟩), (.glob 155 ⟨154,24,154,27⟩), (.var 67 ⟨154,29,154,33⟩), (.var 78 ⟨154,35,154,39⟩)] ⟨154,12,154,16⟩ ⟨154,12,154,40⟩) ⟨154,12,154,40⟩,
    .ret (.ite (.cmp (.var 78 ⟨155,41,155,45⟩) .In (.tup [(.str 55 ⟨155,50,155,58⟩), (.str 56 ⟨155,60,155,70⟩)] 0 ⟨155,49,155,71⟩) ⟨155,41,155,71⟩) (.tup [(.str 1 ⟨155,20,155,26⟩), (.bool false ⟨155,28,155,33⟩), (.int 0 ⟨155,35,155,36⟩)] 0 ⟨155,19,155,37⟩) (.glob 155 ⟨155,77,155,80⟩) ⟨155,19,155,80⟩) ⟨155,12,155,80⟩] [] ⟨152,8,155,80⟩,
  .ite (.cmp (.var 78 ⟨156,11,156,15⟩) .Eq (.str 57 ⟨156,19,156,23⟩) ⟨156,11,156,23⟩) [
    .expr (.call 164 [(.var 80 ⟨157,17,157,20⟩), (.glob 148 ⟨157,22,157,25⟩), (.var 67 ⟨157,27,157,31⟩), (.var 78 ⟨157,33,157,37⟩)] ⟨157,12,157,16⟩ ⟨157,12,157,38⟩) ⟨157,12,157,38⟩,
    .expr (.call 164 [(.var 96 ⟨158,17,158,22⟩), (.glob 155 ⟨158,24,158,27⟩), (.var 67 ⟨158,29,158,33⟩), (.var 78 ⟨158,35,158,39⟩)] ⟨158,12,158,16⟩ ⟨158,12,158,40⟩) ⟨158,12,158,40⟩,
    .ret (.tup [(.str 1 ⟨159,20,159,26⟩), (.sub (.var 80 ⟨159,28,159,31⟩) (.int 1 ⟨159,32,159,33⟩) ⟨159,28,159,34⟩), (.int 0 ⟨159,36,159,37⟩)] 0 ⟨159,19,159,38⟩) ⟨159,12,159,38⟩] [] ⟨156,8,159,38⟩,
  .ite (.cmp (.var 78 ⟨160,11,160,15⟩) .Eq (.str 58 ⟨160,19,160,23⟩) ⟨160,11,160,23⟩) [
    .ret (.mcall (.var 103 ⟨161,19,161,23⟩) 137 [(.var 80 ⟨161,37,161,40⟩), (.var 96 ⟨161,42,161,47⟩), (.var 67 ⟨161,49,161,53⟩)] ⟨161,19,161,36⟩ ⟨161,19,161,54⟩) ⟨161,12,161,54⟩] [] ⟨160,8,161,54⟩,
  .ret (.mcall (.var 103 ⟨162,15,162,19⟩) 138 [(.var 78 ⟨162,29,162,33⟩), (.var 80 ⟨162,35,162,38⟩), (.var 96 ⟨162,40,162,45⟩), (.var 67 ⟨162,47,162,51⟩)] ⟨162,15,162,28⟩ ⟨162,15,162,52⟩) ⟨162,8,162,52⟩]
noncomputable def b322 : List Sm := [
  .ite (.cmp (.var 78 ⟨171,11,171,15⟩) .NotIn (.tup [(.str 40 ⟨171,24,171,27⟩), (.str 59 ⟨171,29,171,33⟩), (.str 60 ⟨171,35,171,38⟩), (.str 61 ⟨171,40,171,44⟩), (.str 62 ⟨171,46,171,49⟩), (.str 63 ⟨171,51,171,55⟩), (.str 64 ⟨171,57,171,61⟩)] 0 ⟨171,23,171,62⟩) ⟨171,11,171,62⟩) [
    .raise (.fmt [(.fval (.var 78 ⟨172,31,172,35⟩) ⟨172,30,172,36⟩), (.str 212 ⟨172,36,172,52⟩)] ⟨172,28,172,53⟩) (.var 67 ⟨172,55,172,59⟩) ⟨172,18,172,27⟩ ⟨172,18,172,60⟩ ⟨172,12,172,60⟩] [] ⟨171,8,172,60⟩,
  .asg (.one 81 ⟨173,8,173,13⟩) (.call 165 [(.var 80 ⟨173,23,173,26⟩), (.var 96 ⟨173,28,173,33⟩), (.var 67 ⟨173,35,173,39⟩), (.var 78 ⟨173,41,173,45⟩)] ⟨173,16,173,22⟩ ⟨173,16,173,46⟩) ⟨173,8,173,46⟩,
  .ite (.cmp (.sub (.var 81 ⟨174,11,174,16⟩) (.int 2 ⟨174,17,174,18⟩) ⟨174,11,174,19⟩) .NotEq (.int 0 ⟨174,23,174,24⟩) ⟨174,11,174,24⟩) [
    .raise (.fmt [(.fval (.var 78 ⟨175,31,175,35⟩) ⟨175,30,175,36⟩), (.str 213 ⟨175,36,175,61⟩)] ⟨175,28,175,62⟩) (.var 67 ⟨175,64,175,68⟩) ⟨175,18,175,27⟩ ⟨175,18,175,69⟩ ⟨175,12,175,69⟩] [] ⟨174,8,175,69⟩,
  .ret (.tup [(.str 1 ⟨176,16,176,22⟩), (.sub (.var 81 ⟨176,24,176,29⟩) (.int 1 ⟨176,30,176,31⟩) ⟨176,24,176,32⟩), (.int 0 ⟨176,34,176,35⟩)] 0 ⟨176,15,176,36⟩) ⟨176,8,176,36⟩]
noncomputable def b336_1 : List Sm := [
    .asg (.one 81 ⟨188,12,188,17⟩) (.mcall (.var 103 ⟨188,20,188,24⟩) 89 [(.var 113 ⟨188,30,188,34⟩)] ⟨188,20,188,29⟩ ⟨188,20,188,35⟩) ⟨188,12,188,35⟩,
    .expr (.call 164 [(.var 81 ⟨189,17,189,22⟩), (.glob 148 ⟨189,24,189,27⟩), (.sub (.var 113 ⟨189,29,189,33⟩) (.int 1 ⟨189,34,189,35⟩) ⟨189,29,189,36⟩), (.str 8 ⟨189,38,189,45⟩)] ⟨189,12,189,16⟩ ⟨189,12,189,46⟩) ⟨189,12,189,46⟩,
    .asg (.one 115 ⟨190,12,190,18⟩) (.bop .Or [(.var 115 ⟨190,21,190,27⟩), (.sub (.var 81 ⟨190,31,190,36⟩) (.int 1 ⟨190,37,190,38⟩) ⟨190,31,190,39⟩)] ⟨190,21,190,39⟩) ⟨190,12,190,39⟩]
noncomputable def b336 : List Sm := [
  .ite (.bop .Or [(.cmp (.sub (.var 89 ⟨184,11,184,15⟩) (.int 2 ⟨184,16,184,17⟩) ⟨184,11,184,18⟩) .Eq (.int 0 ⟨184,22,184,23⟩) ⟨184,11,184,23⟩), (.cmp (.sub (.var 89 ⟨184,27,184,31⟩) (.int 2 ⟨184,32,184,33⟩) ⟨184,27,184,34⟩) .NotEq (.bcall 187 [(.var 114 ⟨184,42,184,49⟩)] ⟨184,38,184,41⟩ ⟨184,38,184,50⟩) ⟨184,27,184,50⟩)] ⟨184,11,184,50⟩) [
    .raise (.fmt [(.fval (.call 162 [(.var 89 ⟨185,41,185,45⟩)] ⟨185,31,185,40⟩ ⟨185,31,185,46⟩) ⟨185,30,185,47⟩), (.str 208 ⟨185,47,185,56⟩), (.fval (.bcall 187 [(.var 114 ⟨185,61,185,68⟩)] ⟨185,57,185,60⟩ ⟨185,57,185,69⟩) ⟨185,56,185,70⟩), (.str 209 ⟨185,70,185,78⟩)] ⟨185,28,185,79⟩) (.var 67 ⟨185,81,185,85⟩) ⟨185,18,185,27⟩ ⟨185,18,185,86⟩ ⟨185,12,185,86⟩] [] ⟨184,8,185,86⟩,
  .asg (.one 115 ⟨186,8,186,14⟩) (.sub (.var 89 ⟨186,17,186,21⟩) (.int 1 ⟨186,22,186,23⟩) ⟨186,17,186,24⟩) ⟨186,8,186,24⟩,
  .for_ (.one 113 ⟨187,12,187,16⟩) (.ex (.var 114 ⟨187,20,187,27⟩)) b336_1 ⟨187,8,190,39⟩,
  .ite (.bop .And [(.var 115 ⟨191,11,191,17⟩), (.cmp (.sub (.var 89 ⟨191,22,191,26⟩) (.int 0 ⟨191,27,191,28⟩) ⟨191,22,191,29⟩) .In (.tup [(.str 2 ⟨191,34,191,39⟩), (.str 3 ⟨191,41,191,46⟩)] 0 ⟨191,33,191,47⟩) ⟨191,22,191,47⟩)] ⟨191,11,191,47⟩) [
    .raise (.fmt [(.fval (.call 162 [(.var 89 ⟨192,41,192,45⟩)] ⟨192,31,192,40⟩ ⟨192,31,192,46⟩) ⟨192,30,192,47⟩), (.str 210 ⟨192,47,192,81⟩)] ⟨192,28,192,82⟩) (.var 67 ⟨192,84,192,88⟩) ⟨192,18,192,27⟩ ⟨192,18,192,89⟩ ⟨192,12,192,89⟩] [] ⟨191,8,192,89⟩,
  .ret (.tup [(.sub (.var 89 ⟨193,16,193,20⟩) (.int 0 ⟨193,21,193,22⟩) ⟨193,16,193,23⟩), (.var 115 ⟨193,25,193,31⟩), (.int 0 ⟨193,33,193,34⟩)] 0 ⟨193,15,193,35⟩) ⟨193,8,193,35⟩]
noncomputable def b350_1 : List Sm := [
    .ite (.cmp (.bcall 187 [(.var 230 ⟨217,19,217,22⟩)] ⟨217,15,217,18⟩ ⟨217,15,217,23⟩) .NotEq (.bcall 187 [(.sub (.sub (.var 92 ⟨217,31,217,35⟩) (.int 2 ⟨217,36,217,37⟩) ⟨217,31,217,38⟩) (.int 0 ⟨217,39,217,40⟩) ⟨217,31,217,41⟩)] ⟨217,27,217,30⟩ ⟨217,27,217,42⟩) ⟨217,15,217,42⟩) [
      .raise (.str 227 ⟨218,32,218,56⟩) (.sub (.var 92 ⟨218,58,218,62⟩) (.int 1 ⟨218,63,218,64⟩) ⟨218,58,218,65⟩) ⟨218,22,218,31⟩ ⟨218,22,218,66⟩ ⟨218,16,218,66⟩] [] ⟨217,12,218,66⟩,
    .asg (.one 81 ⟨219,12,219,17⟩) (.call 165 [(.var 81 ⟨219,27,219,32⟩), (.mcall (.var 103 ⟨219,34,219,38⟩) 147 [(.var 230 ⟨219,46,219,49⟩), (.str 10 ⟨219,51,219,58⟩)] ⟨219,34,219,45⟩ ⟨219,34,219,59⟩), (.sub (.var 92 ⟨219,61,219,65⟩) (.int 1 ⟨219,66,219,67⟩) ⟨219,61,219,68⟩), (.str 10 ⟨219,70,219,77⟩)] ⟨219,20,219,26⟩ ⟨219,20,219,78⟩) ⟨219,12,219,78⟩]
noncomputable def b350 : List Sm := [
  .ite (.cmp (.var 85 ⟨205,11,205,13⟩) .Eq (.str 12 ⟨205,17,205,24⟩) ⟨205,11,205,24⟩) [
    .expr (.call 164 [(.mcall (.var 103 ⟨206,17,206,21⟩) 89 [(.sub (.var 92 ⟨206,27,206,31⟩) (.int 2 ⟨206,32,206,33⟩) ⟨206,27,206,34⟩)] ⟨206,17,206,26⟩ ⟨206,17,206,35⟩), (.glob 152 ⟨206,37,206,42⟩), (.sub (.var 92 ⟨206,44,206,48⟩) (.int 1 ⟨206,49,206,50⟩) ⟨206,44,206,51⟩), (.str 211 ⟨206,53,206,57⟩)] ⟨206,12,206,16⟩ ⟨206,12,206,58⟩) ⟨206,12,206,58⟩,
    .expr (.call 164 [(.mcall (.var 103 ⟨207,17,207,21⟩) 89 [(.sub (.var 92 ⟨207,27,207,31⟩) (.int 3 ⟨207,32,207,33⟩) ⟨207,27,207,34⟩)] ⟨207,17,207,26⟩ ⟨207,17,207,35⟩), (.glob 152 ⟨207,37,207,42⟩), (.sub (.var 92 ⟨207,44,207,48⟩) (.int 1 ⟨207,49,207,50⟩) ⟨207,44,207,51⟩), (.str 211 ⟨207,53,207,57⟩)] ⟨207,12,207,16⟩ ⟨207,12,207,58⟩) ⟨207,12,207,58⟩,
    .ret (.glob 155 ⟨208,19,208,22⟩) ⟨208,12,208,22⟩] [] ⟨205,8,208,22⟩,
  .ite (.cmp (.var 85 ⟨209,11,209,13⟩) .Eq (.str 3 ⟨209,17,209,22⟩) ⟨209,11,209,22⟩) [
    .expr (.call 164 [(.mcall (.var 103 ⟨210,17,210,21⟩) 147 [(.sub (.var 92 ⟨210,29,210,33⟩) (.int 2 ⟨210,34,210,35⟩) ⟨210,29,210,36⟩), (.str 3 ⟨210,38,210,43⟩)] ⟨210,17,210,28⟩ ⟨210,17,210,44⟩), (.glob 152 ⟨210,46,210,51⟩), (.sub (.var 92 ⟨210,53,210,57⟩) (.int 1 ⟨210,58,210,59⟩) ⟨210,53,210,60⟩), (.str 3 ⟨210,62,210,67⟩)] ⟨210,12,210,16⟩ ⟨210,12,210,68⟩) ⟨210,12,210,68⟩,
    .ret (.glob 155 ⟨211,19,211,22⟩) ⟨211,12,211,22⟩] [] ⟨209,8,211,22⟩,
  .ite (.cmp (.var 85 ⟨212,11,212,13⟩) .Eq (.str 10 ⟨212,17,212,24⟩) ⟨212,11,212,24⟩) [
    .asg (.one 81 ⟨213,12,213,17⟩) (.mcall (.var 103 ⟨213,20,213,24⟩) 147 [(.sub (.var 92 ⟨213,32,213,36⟩) (.int 2 ⟨213,37,213,38⟩) ⟨213,32,213,39⟩), (.str 10 ⟨213,41,213,48⟩)] ⟨213,20,213,31⟩ ⟨213,20,213,49⟩) ⟨213,12,213,49⟩,
    .ret (.tup [(.sub (.var 81 ⟨214,20,214,25⟩) (.int 0 ⟨214,26,214,27⟩) ⟨214,20,214,28⟩), (.sub (.var 81 ⟨214,30,214,35⟩) (.int 1 ⟨214,36,214,37⟩) ⟨214,30,214,38⟩), (.int 1 ⟨214,40,214,41⟩)] 0 ⟨214,19,214,42⟩) ⟨214,12,214,42⟩] [] ⟨212,8,214,42⟩,
  .asg (.one 81 ⟨215,8,215,13⟩) (.tup [(.str 4 ⟨215,17,215,23⟩), (.bool false ⟨215,25,215,30⟩), (.int 0 ⟨215,32,215,33⟩)] 0 ⟨215,16,215,34⟩) ⟨215,8,215,34⟩,
  .for_ (.one 230 ⟨216,12,216,15⟩) (.ex (.sub (.var 92 ⟨216,19,216,23⟩) (.int 2 ⟨216,24,216,25⟩) ⟨216,19,216,26⟩)) b350_1 ⟨216,8,219,78⟩,
  .ret (.tup [(.sub (.var 81 ⟨220,16,220,21⟩) (.int 0 ⟨220,22,220,23⟩) ⟨220,16,220,24⟩), (.sub (.var 81 ⟨220,26,220,31⟩) (.int 1 ⟨220,32,220,33⟩) ⟨220,26,220,34⟩), (.int 2 ⟨220,36,220,37⟩)] 0 ⟨220,15,220,38⟩) ⟨220,8,220,38⟩]
noncomputable def b357_1 : List Sm := [
      .expr (.mcall (.var 103 ⟨229,16,229,20⟩) 140 [(.var 83 ⟨229,31,229,36⟩), (.mcall (.var 103 ⟨229,38,229,42⟩) 84 [(.var 84 ⟨229,50,229,56⟩)] ⟨229,38,229,49⟩ ⟨229,38,229,57⟩), (.var 67 ⟨229,59,229,63⟩)] ⟨229,16,229,30⟩ ⟨229,16,229,64⟩) ⟨229,16,229,64⟩]
noncomputable def b357_2 : List Sm := [
    .for_ (.many [(83, ⟨228,16,228,21⟩), (84, ⟨228,23,228,29⟩)] 0 ⟨228,16,228,29⟩) (.ex (.sub (.var 92 ⟨228,33,228,37⟩) (.int 3 ⟨228,38,228,39⟩) ⟨228,33,228,40⟩)) b357_1 ⟨228,12,229,64⟩,
    .ite (.cmp (.sub (.var 92 ⟨230,15,230,19⟩) (.int 4 ⟨230,20,230,21⟩) ⟨230,15,230,22⟩) .IsNot (.non ⟨230,30,230,34⟩) ⟨230,15,230,34⟩) [
      .expr (.call 164 [(.mcall (.var 103 ⟨231,21,231,25⟩) 89 [(.sub (.var 92 ⟨231,31,231,35⟩) (.int 4 ⟨231,36,231,37⟩) ⟨231,31,231,38⟩)] ⟨231,21,231,30⟩ ⟨231,21,231,39⟩), (.tup [(.str 1 ⟨231,42,231,48⟩), (.bool false ⟨231,50,231,55⟩), (.int 0 ⟨231,57,231,58⟩)] 0 ⟨231,41,231,59⟩), (.sub (.sub (.var 92 ⟨231,61,231,65⟩) (.int 4 ⟨231,66,231,67⟩) ⟨231,61,231,68⟩) (.int 1 ⟨231,69,231,70⟩) ⟨231,61,231,71⟩), (.str 88 ⟨231,73,231,80⟩)] ⟨231,16,231,20⟩ ⟨231,16,231,81⟩) ⟨231,16,231,81⟩] [] ⟨230,12,231,81⟩,
    .asg (.one 98 ⟨232,12,232,16⟩) (.mcall (.var 103 ⟨232,19,232,23⟩) 89 [(.sub (.var 92 ⟨232,29,232,33⟩) (.int 5 ⟨232,34,232,35⟩) ⟨232,29,232,36⟩)] ⟨232,19,232,28⟩ ⟨232,19,232,37⟩) ⟨232,12,232,37⟩]
noncomputable def b357_3 : List Sm := [
    .expr (.mcall (.attr (.var 103 ⟨234,12,234,16⟩) 83 ⟨234,12,234,22⟩) 124 [] ⟨234,12,234,26⟩ ⟨234,12,234,28⟩) ⟨234,12,234,28⟩]
noncomputable def b357 : List Sm := [
  .asg (.many [(67, ⟨223,8,223,12⟩), (86, ⟨223,14,223,18⟩)] 0 ⟨223,8,223,18⟩) (.tup [(.sub (.var 92 ⟨223,22,223,26⟩) (.int 1 ⟨223,27,223,28⟩) ⟨223,22,223,29⟩), (.sub (.var 92 ⟨223,31,223,35⟩) (.int 2 ⟨223,36,223,37⟩) ⟨223,31,223,38⟩)] 0 ⟨223,21,223,39⟩) ⟨223,8,223,39⟩,
  .ite (.bop .And [(.cmp (.var 85 ⟨224,11,224,13⟩) .Eq (.str 13 ⟨224,17,224,22⟩) ⟨224,11,224,22⟩), (.neg (.mcall (.var 103 ⟨224,32,224,36⟩) 139 [(.var 86 ⟨224,50,224,54⟩)] ⟨224,32,224,49⟩ ⟨224,32,224,55⟩) ⟨224,28,224,55⟩)] ⟨224,11,224,56⟩) [
    .raise (.fmt [(.fval (.var 86 ⟨225,31,225,35⟩) ⟨225,30,225,36⟩), (.str 203 ⟨225,36,225,65⟩)] ⟨225,28,225,66⟩) (.var 67 ⟨225,68,225,72⟩) ⟨225,18,225,27⟩ ⟨225,18,225,73⟩ ⟨225,12,225,73⟩] [] ⟨224,8,225,73⟩,
  .expr (.mcall (.attr (.var 103 ⟨226,8,226,12⟩) 83 ⟨226,8,226,18⟩) 123 [] ⟨226,8,226,23⟩ ⟨226,8,226,25⟩) ⟨226,8,226,25⟩,
  .tryF b357_2 b357_3 ⟨227,8,234,28⟩,
  .ite (.cmp (.sub (.var 98 ⟨235,11,235,15⟩) (.int 2 ⟨235,16,235,17⟩) ⟨235,11,235,18⟩) .NotEq (.int 0 ⟨235,22,235,23⟩) ⟨235,11,235,23⟩) [
    .raise (.str 205 ⟨236,28,236,52⟩) (.var 67 ⟨236,54,236,58⟩) ⟨236,18,236,27⟩ ⟨236,18,236,59⟩ ⟨236,12,236,59⟩] [] ⟨235,8,236,59⟩,
  .ite (.bop .And [(.cmp (.var 85 ⟨237,11,237,13⟩) .Eq (.str 14 ⟨237,17,237,23⟩) ⟨237,11,237,23⟩), (.cmp (.var 86 ⟨237,28,237,32⟩) .Eq (.str 3 ⟨237,36,237,41⟩) ⟨237,28,237,41⟩)] ⟨237,11,237,41⟩) [
    .expr (.call 164 [(.var 98 ⟨238,17,238,21⟩), (.glob 152 ⟨238,23,238,28⟩), (.var 67 ⟨238,30,238,34⟩), (.str 3 ⟨238,36,238,41⟩)] ⟨238,12,238,16⟩ ⟨238,12,238,42⟩) ⟨238,12,238,42⟩,
    .ret (.glob 155 ⟨239,19,239,22⟩) ⟨239,12,239,22⟩] [] ⟨237,8,239,22⟩,
  .asg (.one 81 ⟨240,8,240,13⟩) (.tup [(.sub (.var 98 ⟨240,17,240,21⟩) (.int 0 ⟨240,22,240,23⟩) ⟨240,17,240,24⟩), (.sub (.var 98 ⟨240,26,240,30⟩) (.int 1 ⟨240,31,240,32⟩) ⟨240,26,240,33⟩), (.int 1 ⟨240,35,240,36⟩)] 0 ⟨240,16,240,37⟩) ⟨240,8,240,37⟩,
  .ret (.ite (.cmp (.var 85 ⟨241,24,241,26⟩) .Eq (.str 14 ⟨241,30,241,36⟩) ⟨241,24,241,36⟩) (.var 81 ⟨241,15,241,20⟩) (.mcall (.var 103 ⟨241,42,241,46⟩) 9 [(.var 86 ⟨241,52,241,56⟩), (.lst [(.var 81 ⟨241,59,241,64⟩)] ⟨241,58,241,65⟩), (.var 67 ⟨241,67,241,71⟩)] ⟨241,42,241,51⟩ ⟨241,42,241,72⟩) ⟨241,15,241,72⟩) ⟨241,8,241,72⟩]
noncomputable def b364 : List Sm := [
  .asg (.one 111 ⟨244,8,244,14⟩) (.mcall (.attr (.var 103 ⟨244,17,244,21⟩) 105 ⟨244,17,244,32⟩) 128 [(.var 5 ⟨244,37,244,41⟩), (.sub (.mcall (.glob 160 ⟨244,43,244,48⟩) 128 [(.var 5 ⟨244,53,244,57⟩), (.tup [(.tup [] 0 ⟨244,60,244,62⟩), (.str 193 ⟨244,64,244,66⟩)] 0 ⟨244,59,244,67⟩)] ⟨244,43,244,52⟩ ⟨244,43,244,68⟩) (.int 0 ⟨244,69,244,70⟩) ⟨244,43,244,71⟩)] ⟨244,17,244,36⟩ ⟨244,17,244,72⟩) ⟨244,8,244,72⟩,
  .ret (.bop .Or [(.cmp (.var 5 ⟨245,15,245,19⟩) .In (.tup [(.str 20 ⟨245,24,245,29⟩), (.str 19 ⟨245,31,245,36⟩)] 0 ⟨245,23,245,37⟩) ⟨245,15,245,37⟩), (.bop .And [(.cmp (.bcall 187 [(.var 111 ⟨245,46,245,52⟩)] ⟨245,42,245,45⟩ ⟨245,42,245,53⟩) .Eq (.int 1 ⟨245,57,245,58⟩) ⟨245,42,245,58⟩), (.cmp (.sub (.sub (.var 111 ⟨245,63,245,69⟩) (.int 0 ⟨245,70,245,71⟩) ⟨245,63,245,72⟩) (.int 2 ⟨245,73,245,74⟩) ⟨245,63,245,75⟩) .Eq (.int 1 ⟨245,79,245,80⟩) ⟨245,63,245,80⟩)] ⟨245,42,245,80⟩)] ⟨245,15,245,81⟩) ⟨245,8,245,81⟩]
noncomputable def b371 : List Sm := [
  .asg (.one 81 ⟨248,8,248,13⟩) (.mcall (.var 103 ⟨248,16,248,20⟩) 89 [(.var 92 ⟨248,26,248,30⟩)] ⟨248,16,248,25⟩ ⟨248,16,248,31⟩) ⟨248,8,248,31⟩,
  .ite (.cmp (.var 81 ⟨249,11,249,16⟩) .Eq (.glob 155 ⟨249,20,249,23⟩) ⟨249,11,249,23⟩) [
    .ret (.glob 152 ⟨250,19,250,24⟩) ⟨250,12,250,24⟩] [] ⟨249,8,250,24⟩,
  .ite (.cmp (.sub (.var 81 ⟨251,11,251,16⟩) (.int 2 ⟨251,17,251,18⟩) ⟨251,11,251,19⟩) .NotEq (.int 1 ⟨251,23,251,24⟩) ⟨251,11,251,24⟩) [
    .raise (.fmt [(.str 207 ⟨252,30,252,71⟩), (.fval (.call 162 [(.var 81 ⟨252,82,252,87⟩)] ⟨252,72,252,81⟩ ⟨252,72,252,88⟩) ⟨252,71,252,89⟩)] ⟨252,28,252,90⟩) (.sub (.var 92 ⟨252,92,252,96⟩) (.int 1 ⟨252,97,252,98⟩) ⟨252,92,252,99⟩) ⟨252,18,252,27⟩ ⟨252,18,252,100⟩ ⟨252,12,252,100⟩] [] ⟨251,8,252,100⟩,
  .ret (.tup [(.sub (.var 81 ⟨253,16,253,21⟩) (.int 0 ⟨253,22,253,23⟩) ⟨253,16,253,24⟩), (.sub (.var 81 ⟨253,26,253,31⟩) (.int 1 ⟨253,32,253,33⟩) ⟨253,26,253,34⟩), (.int 0 ⟨253,36,253,37⟩)] 0 ⟨253,15,253,38⟩) ⟨253,8,253,38⟩]
noncomputable def b378_1 : List Sm := [
    .ite (.cmp (.var 5 ⟨257,15,257,19⟩) .In (.cut (.var 83 ⟨257,23,257,28⟩) (.var 66 ⟨257,30,257,35⟩) ⟨257,29,257,35⟩ ⟨257,23,257,36⟩) ⟨257,15,257,36⟩) [
      .raise (.fmt [(.fval (.var 5 ⟨258,35,258,39⟩) ⟨258,34,258,40⟩), (.str 206 ⟨258,40,258,67⟩)] ⟨258,32,258,68⟩) (.var 67 ⟨258,70,258,74⟩) ⟨258,22,258,31⟩ ⟨258,22,258,75⟩ ⟨258,16,258,75⟩] [] ⟨257,12,258,75⟩,
    .setS (.sub (.attr (.attr (.var 103 ⟨259,12,259,16⟩) 83 ⟨259,12,259,22⟩) 93 ⟨259,12,259,29⟩) (.minus 1 ⟨259,31,259,32⟩ ⟨259,30,259,32⟩) ⟨259,12,259,33⟩) (.var 5 ⟨259,34,259,38⟩) ⟨259,12,259,39⟩ (.var 89 ⟨259,42,259,46⟩) ⟨259,12,259,46⟩]
noncomputable def b378 : List Sm := [
  .for_ (.many [(66, ⟨256,12,256,17⟩), (5, ⟨256,19,256,23⟩)] 0 ⟨256,12,256,23⟩) (.enum (.var 83 ⟨256,37,256,42⟩) ⟨256,27,256,36⟩ ⟨256,27,256,43⟩) b378_1 ⟨256,8,259,46⟩]
noncomputable def b397 : List Sm := [
  .asg (.one 115 ⟨292,8,292,14⟩) (.cmp (.lcond 89 ⟨292,22,292,26⟩ ⟨292,31,292,35⟩ 110 ⟨292,39,292,44⟩ 1 ⟨292,48,292,52⟩ ⟨292,53,292,54⟩ ⟨292,48,292,55⟩ ⟨.function, Zgc 89, false, false, []⟩ ⟨292,21,292,56⟩ ⟨292,17,292,20⟩ ⟨292,17,292,57⟩)/-2 0-/ .Gt (.int 0 ⟨292,60,292,61⟩) ⟨292,17,292,61⟩) ⟨292,8,292,61⟩,
  .ite (.cmp (.var 5 ⟨293,11,293,15⟩) .In (.attr (.var 103 ⟨293,19,293,23⟩) 105 ⟨293,19,293,34⟩) ⟨293,11,293,34⟩) [
    .setS (.attr (.var 103 ⟨294,12,294,16⟩) 109 ⟨294,12,294,23⟩) (.var 5 ⟨294,24,294,28⟩) ⟨294,12,294,29⟩ (.bool true ⟨294,32,294,36⟩) ⟨294,12,294,36⟩,
    .expr (.mcall (.var 103 ⟨295,12,295,16⟩) 141 [(.var 5 ⟨295,27,295,31⟩), (.var 110 ⟨295,33,295,38⟩), (.sub (.attr (.var 103 ⟨295,40,295,44⟩) 105 ⟨295,40,295,55⟩) (.var 5 ⟨295,56,295,60⟩) ⟨295,40,295,61⟩), (.var 67 ⟨295,63,295,67⟩)] ⟨295,12,295,26⟩ ⟨295,12,295,68⟩) ⟨295,12,295,68⟩,
    .ret (.tup [(.str 1 ⟨296,20,296,26⟩), (.bool true ⟨296,28,296,32⟩), (.int 0 ⟨296,34,296,35⟩)] 0 ⟨296,19,296,36⟩) ⟨296,12,296,36⟩] [] ⟨293,8,296,36⟩,
  .ite (.cmp (.var 5 ⟨297,11,297,15⟩) .In (.glob 160 ⟨297,19,297,24⟩) ⟨297,11,297,24⟩) [
    .asg (.many [(111, ⟨298,12,298,18⟩), (74, ⟨298,20,298,24⟩)] 0 ⟨298,12,298,24⟩) (.sub (.glob 160 ⟨298,27,298,32⟩) (.var 5 ⟨298,33,298,37⟩) ⟨298,27,298,38⟩) ⟨298,12,298,38⟩,
    .expr (.mcall (.var 103 ⟨299,12,299,16⟩) 141 [(.var 5 ⟨299,27,299,31⟩), (.var 110 ⟨299,33,299,38⟩), (.var 111 ⟨299,40,299,46⟩), (.var 67 ⟨299,48,299,52⟩)] ⟨299,12,299,26⟩ ⟨299,12,299,53⟩) ⟨299,12,299,53⟩,
    .ret (.tup [(.var 74 ⟨300,20,300,24⟩), (.var 115 ⟨300,26,300,32⟩), (.int 0 ⟨300,34,300,35⟩)] 0 ⟨300,19,300,36⟩) ⟨300,12,300,36⟩] [] ⟨297,8,300,36⟩,
  .ite (.bop .And [(.cmp (.var 5 ⟨301,11,301,15⟩) .In (.glob 161 ⟨301,19,301,29⟩) ⟨301,11,301,29⟩), (.cmp (.bcall 187 [(.var 110 ⟨301,38,301,43⟩)] ⟨301,34,301,37⟩ ⟨301,34,301,44⟩) .Gt (.int 0 ⟨301,47,301,48⟩) ⟨301,34,301,48⟩)] ⟨301,11,301,48⟩) [
    .ret (.mcall (.var 103 ⟨302,19,302,23⟩) 142 [(.var 5 ⟨302,34,302,38⟩), (.var 110 ⟨302,40,302,45⟩), (.var 67 ⟨302,47,302,51⟩)] ⟨302,19,302,33⟩ ⟨302,19,302,52⟩) ⟨302,12,302,52⟩] [] ⟨301,8,302,52⟩,
  .raise (.fmt [(.fval (.var 5 ⟨303,27,303,31⟩) ⟨303,26,303,32⟩), (.str 216 ⟨303,32,303,51⟩), (.fval (.bcall 187 [(.var 110 ⟨303,56,303,61⟩)] ⟨303,52,303,55⟩ ⟨303,52,303,62⟩) ⟨303,51,303,63⟩), (.str 217 ⟨303,63,303,73⟩)] ⟨303,24,303,74⟩) (.var 67 ⟨303,76,303,80⟩) ⟨303,14,303,23⟩ ⟨303,14,303,81⟩ ⟨303,8,303,81⟩]
noncomputable def b404_1 : List Sm := [
    .expr (.call 164 [(.var 89 ⟨309,17,309,21⟩), (.var 80 ⟨309,23,309,26⟩), (.var 67 ⟨309,28,309,32⟩), (.var 5 ⟨309,34,309,38⟩)] ⟨309,12,309,16⟩ ⟨309,12,309,39⟩) ⟨309,12,309,39⟩]
noncomputable def b404 : List Sm := [
  .ite (.cmp (.bcall 187 [(.var 110 ⟨306,15,306,20⟩)] ⟨306,11,306,14⟩ ⟨306,11,306,21⟩) .NotEq (.bcall 187 [(.var 111 ⟨306,29,306,35⟩)] ⟨306,25,306,28⟩ ⟨306,25,306,36⟩) ⟨306,11,306,36⟩) [
    .raise (.fmt [(.fval (.var 5 ⟨307,31,307,35⟩) ⟨307,30,307,36⟩), (.str 214 ⟨307,36,307,41⟩), (.fval (.bcall 187 [(.var 111 ⟨307,46,307,52⟩)] ⟨307,42,307,45⟩ ⟨307,42,307,53⟩) ⟨307,41,307,54⟩), (.str 215 ⟨307,54,307,70⟩), (.fval (.bcall 187 [(.var 110 ⟨307,75,307,80⟩)] ⟨307,71,307,74⟩ ⟨307,71,307,81⟩) ⟨307,70,307,82⟩)] ⟨307,28,307,83⟩) (.var 67 ⟨307,85,307,89⟩) ⟨307,18,307,27⟩ ⟨307,18,307,90⟩ ⟨307,12,307,90⟩] [] ⟨306,8,307,90⟩,
  .for_ (.many [(89, ⟨308,12,308,16⟩), (80, ⟨308,18,308,21⟩)] 0 ⟨308,12,308,21⟩) (.zip (.var 110 ⟨308,29,308,34⟩) (.var 111 ⟨308,36,308,42⟩) ⟨308,25,308,28⟩ ⟨308,25,308,43⟩) b404_1 ⟨308,8,309,39⟩]
noncomputable def b411 : List Sm := [
  .asg (.many [(116, ⟨312,8,312,13⟩), (72, ⟨312,15,312,19⟩)] 0 ⟨312,8,312,19⟩) (.tup [(.sub (.var 110 ⟨312,23,312,28⟩) (.int 0 ⟨312,29,312,30⟩) ⟨312,23,312,31⟩), (.bcall 187 [(.var 110 ⟨312,37,312,42⟩)] ⟨312,33,312,36⟩ ⟨312,33,312,43⟩)] 0 ⟨312,22,312,44⟩) ⟨312,8,312,44⟩,
  .ite (.cmp (.var 5 ⟨313,11,313,15⟩) .In (.tup [(.str 20 ⟨313,20,313,25⟩), (.str 19 ⟨313,27,313,32⟩)] 0 ⟨313,19,313,33⟩) ⟨313,11,313,33⟩) [
    .ret (.mcall (.var 103 ⟨314,19,314,23⟩) 144 [(.var 5 ⟨314,32,314,36⟩), (.var 110 ⟨314,38,314,43⟩), (.var 67 ⟨314,45,314,49⟩)] ⟨314,19,314,31⟩ ⟨314,19,314,50⟩) ⟨314,12,314,50⟩] [] ⟨313,8,314,50⟩,
  .ite (.bop .And [(.cmp (.var 5 ⟨315,11,315,15⟩) .Eq (.str 218 ⟨315,19,315,25⟩) ⟨315,11,315,25⟩), (.cmp (.var 72 ⟨315,30,315,34⟩) .Eq (.int 1 ⟨315,38,315,39⟩) ⟨315,30,315,39⟩), (.bop .Or [(.attr (.var 103 ⟨315,45,315,49⟩) 108 ⟨315,45,315,58⟩), (.neg (.sub (.var 116 ⟨315,66,315,71⟩) (.int 1 ⟨315,72,315,73⟩) ⟨315,66,315,74⟩) ⟨315,62,315,74⟩)] ⟨315,45,315,74⟩)] ⟨315,11,315,75⟩) [
    .ret (.glob 156 ⟨316,19,316,23⟩) ⟨316,12,316,23⟩] [] ⟨315,8,316,23⟩,
  .ite (.bop .And [(.cmp (.var 5 ⟨317,11,317,15⟩) .Eq (.str 219 ⟨317,19,317,24⟩) ⟨317,11,317,24⟩), (.cmp (.var 72 ⟨317,29,317,33⟩) .Eq (.int 1 ⟨317,37,317,38⟩) ⟨317,29,317,38⟩), (.bop .Or [(.attr (.var 103 ⟨317,44,317,48⟩) 108 ⟨317,44,317,57⟩), (.neg (.sub (.var 116 ⟨317,65,317,70⟩) (.int 1 ⟨317,71,317,72⟩) ⟨317,65,317,73⟩) ⟨317,61,317,73⟩)] ⟨317,44,317,73⟩)] ⟨317,11,317,74⟩) [
    .ret (.var 116 ⟨318,19,318,24⟩) ⟨318,12,318,24⟩] [] ⟨317,8,318,24⟩,
  .ite (.bop .And [(.cmp (.var 5 ⟨319,11,319,15⟩) .Eq (.str 220 ⟨319,19,319,27⟩) ⟨319,11,319,27⟩), (.cmp (.var 72 ⟨319,32,319,36⟩) .Eq (.int 1 ⟨319,40,319,41⟩) ⟨319,32,319,41⟩), (.cmp (.sub (.var 116 ⟨319,47,319,52⟩) (.int 2 ⟨319,53,319,54⟩) ⟨319,47,319,55⟩) .Eq (.int 1 ⟨319,59,319,60⟩) ⟨319,47,319,60⟩)] ⟨319,11,319,61⟩) [
    .ret (.glob 152 ⟨320,19,320,24⟩) ⟨320,12,320,24⟩] [] ⟨319,8,320,24⟩,
  .ite (.bop .And [(.cmp (.var 5 ⟨321,11,321,15⟩) .Eq (.str 221 ⟨321,19,321,30⟩) ⟨321,11,321,30⟩), (.cmp (.var 72 ⟨321,35,321,39⟩) .Eq (.int 1 ⟨321,43,321,44⟩) ⟨321,35,321,44⟩), (.cmp (.sub (.var 116 ⟨321,50,321,55⟩) (.int 2 ⟨321,56,321,57⟩) ⟨321,50,321,58⟩) .Eq (.int 1 ⟨321,62,321,63⟩) ⟨321,50,321,63⟩)] ⟨321,11,321,64⟩) [
    .ret (.glob 155 ⟨322,19,322,22⟩) ⟨322,12,322,22⟩] [] ⟨321,8,322,22⟩,
  .ite (.bop .And [(.cmp (.var 5 ⟨323,11,323,15⟩) .In (.tup [(.str 222 ⟨323,20,323,36⟩), (.str 223 ⟨323,38,323,54⟩)] 0 ⟨323,19,323,55⟩) ⟨323,11,323,55⟩), (.cmp (.var 72 ⟨323,60,323,64⟩) .Eq (.int 1 ⟨323,68,323,69⟩) ⟨323,60,323,69⟩), (.cmp (.sub (.var 116 ⟨323,75,323,80⟩) (.int 2 ⟨323,81,323,82⟩) ⟨323,75,323,83⟩) .Eq (.int 2 ⟨323,87,323,88⟩) ⟨323,75,323,88⟩)] ⟨323,11,323,89⟩) [
    .ret (.glob 155 ⟨324,19,324,22⟩) ⟨324,12,324,22⟩] [] ⟨323,8,324,22⟩,
  .asg (.one 231 ⟨325,8,325,13⟩) (.mcall (.dct [(76, ⟨325,17,325,26⟩), (77, ⟨325,31,325,40⟩)] [(.int 1 ⟨325,28,325,29⟩), (.int 2 ⟨325,42,325,43⟩)] ⟨325,16,325,44⟩) 128 [(.var 5 ⟨325,49,325,53⟩), (.int 0 ⟨325,55,325,56⟩)] ⟨325,16,325,48⟩ ⟨325,16,325,57⟩) ⟨325,8,325,57⟩,
  .ite (.bop .And [(.cmp (.var 231 ⟨326,11,326,16⟩) .Gt (.int 0 ⟨326,19,326,20⟩) ⟨326,11,326,20⟩), (.cmp (.var 72 ⟨326,25,326,29⟩) .Eq (.bin (.var 231 ⟨326,33,326,38⟩) .Add (.int 1 ⟨326,41,326,42⟩) ⟨326,33,326,42⟩) ⟨326,25,326,42⟩), (.cmp (.sub (.sub (.var 110 ⟨326,48,326,53⟩) (.minus 1 ⟨326,55,326,56⟩ ⟨326,54,326,56⟩) ⟨326,48,326,57⟩) (.int 2 ⟨326,58,326,59⟩) ⟨326,48,326,60⟩) .Gt (.int 0 ⟨326,63,326,64⟩) ⟨326,48,326,64⟩)] ⟨326,11,326,65⟩) [
    .expr (.mcall (.var 103 ⟨327,12,327,16⟩) 141 [(.var 5 ⟨327,27,327,31⟩), (.cut (.var 110 ⟨327,33,327,38⟩) (.minus 1 ⟨327,41,327,42⟩ ⟨327,40,327,42⟩) ⟨327,39,327,42⟩ ⟨327,33,327,43⟩), (.bin (.tup [(.glob 155 ⟨327,46,327,49⟩)] 0 ⟨327,45,327,51⟩) .Mult (.var 231 ⟨327,54,327,59⟩) ⟨327,45,327,59⟩), (.var 67 ⟨327,61,327,65⟩)] ⟨327,12,327,26⟩ ⟨327,12,327,66⟩) ⟨327,12,327,66⟩,
    .ret (.tup [(.sub (.sub (.var 110 ⟨328,20,328,25⟩) (.minus 1 ⟨328,27,328,28⟩ ⟨328,26,328,28⟩) ⟨328,20,328,29⟩) (.int 0 ⟨328,30,328,31⟩) ⟨328,20,328,32⟩), (.sub (.sub (.var 110 ⟨328,34,328,39⟩) (.minus 1 ⟨328,41,328,42⟩ ⟨328,40,328,42⟩) ⟨328,34,328,43⟩) (.int 1 ⟨328,44,328,45⟩) ⟨328,34,328,46⟩), (.var 231 ⟨328,48,328,53⟩)] 0 ⟨328,19,328,54⟩) ⟨328,12,328,54⟩] [] ⟨326,8,328,54⟩,
  .ret (.mcall (.var 103 ⟨329,15,329,19⟩) 143 [(.var 5 ⟨329,33,329,37⟩), (.var 110 ⟨329,39,329,44⟩), (.var 67 ⟨329,46,329,50⟩)] ⟨329,15,329,32⟩ ⟨329,15,329,51⟩) ⟨329,8,329,51⟩]
noncomputable def b425 : List Sm := [
  .ite (.cmp (.var 110 ⟨343,11,343,16⟩) .Eq (.lst [(.glob 155 ⟨343,21,343,24⟩)] ⟨343,20,343,25⟩) ⟨343,11,343,25⟩) [
    .ret (.glob 152 ⟨344,19,344,24⟩) ⟨344,12,344,24⟩] [] ⟨343,8,344,24⟩,
  .ite (.cmp (.bcall 187 [(.var 110 ⟨345,15,345,20⟩)] ⟨345,11,345,14⟩ ⟨345,11,345,21⟩) .Eq (.int 1 ⟨345,25,345,26⟩) ⟨345,11,345,26⟩) [
    .expr (.call 164 [(.sub (.var 110 ⟨346,17,346,22⟩) (.int 0 ⟨346,23,346,24⟩) ⟨346,17,346,25⟩), (.glob 150 ⟨346,27,346,31⟩), (.var 67 ⟨346,33,346,37⟩), (.var 5 ⟨346,39,346,43⟩)] ⟨346,12,346,16⟩ ⟨346,12,346,44⟩) ⟨346,12,346,44⟩,
    .ret (.tup [(.str 0 ⟨347,20,347,25⟩), (.sub (.sub (.var 110 ⟨347,27,347,32⟩) (.int 0 ⟨347,33,347,34⟩) ⟨347,27,347,35⟩) (.int 1 ⟨347,36,347,37⟩) ⟨347,27,347,38⟩), (.int 0 ⟨347,40,347,41⟩)] 0 ⟨347,19,347,42⟩) ⟨347,12,347,42⟩] [] ⟨345,8,347,42⟩,
  .expr (.mcall (.var 103 ⟨348,8,348,12⟩) 141 [(.var 5 ⟨348,23,348,27⟩), (.var 110 ⟨348,29,348,34⟩), (.tup [(.glob 148 ⟨348,37,348,40⟩), (.glob 148 ⟨348,42,348,45⟩)] 0 ⟨348,36,348,46⟩), (.var 67 ⟨348,48,348,52⟩)] ⟨348,8,348,22⟩ ⟨348,8,348,53⟩) ⟨348,8,348,53⟩,
  .ret (.tup [(.str 0 ⟨349,16,349,21⟩), (.bop .Or [(.sub (.sub (.var 110 ⟨349,23,349,28⟩) (.int 0 ⟨349,29,349,30⟩) ⟨349,23,349,31⟩) (.int 1 ⟨349,32,349,33⟩) ⟨349,23,349,34⟩), (.sub (.sub (.var 110 ⟨349,38,349,43⟩) (.int 1 ⟨349,44,349,45⟩) ⟨349,38,349,46⟩) (.int 1 ⟨349,47,349,48⟩) ⟨349,38,349,49⟩)] ⟨349,23,349,49⟩), (.int 0 ⟨349,51,349,52⟩)] 0 ⟨349,15,349,53⟩) ⟨349,8,349,53⟩]
noncomputable def b451 : List Sm := [
  .ret (.tup [(.sub (.var 118 ⟨375,16,375,25⟩) (.int 0 ⟨375,26,375,27⟩) ⟨375,16,375,28⟩), (.sub (.var 118 ⟨375,30,375,39⟩) (.int 1 ⟨375,40,375,41⟩) ⟨375,30,375,42⟩), (.bcall 187 [(.sub (.var 118 ⟨375,48,375,57⟩) (.int 2 ⟨375,58,375,59⟩) ⟨375,48,375,60⟩)] ⟨375,44,375,47⟩ ⟨375,44,375,61⟩)] 0 ⟨375,15,375,62⟩) ⟨375,8,375,62⟩]
noncomputable def b456 : List Sm := [
  .asg (.one 5 ⟨378,8,378,12⟩) (.sub (.var 117 ⟨378,15,378,19⟩) (.int 2 ⟨378,20,378,21⟩) ⟨378,15,378,22⟩) ⟨378,8,378,22⟩,
  .ite (.bop .Or [(.cmp (.var 5 ⟨379,11,379,15⟩) .In (.attr (.var 103 ⟨379,19,379,23⟩) 105 ⟨379,19,379,34⟩) ⟨379,11,379,34⟩), (.cmp (.var 5 ⟨379,38,379,42⟩) .In (.glob 160 ⟨379,46,379,51⟩) ⟨379,38,379,51⟩), (.cmp (.var 5 ⟨379,55,379,59⟩) .In (.glob 161 ⟨379,63,379,73⟩) ⟨379,55,379,73⟩)] ⟨379,11,379,73⟩) [
    .raise (.fmt [(.fval (.var 5 ⟨380,31,380,35⟩) ⟨380,30,380,36⟩), (.str 225 ⟨380,36,380,59⟩)] ⟨380,28,380,60⟩) (.sub (.var 117 ⟨380,62,380,66⟩) (.int 1 ⟨380,67,380,68⟩) ⟨380,62,380,69⟩) ⟨380,18,380,27⟩ ⟨380,18,380,70⟩ ⟨380,12,380,70⟩] [] ⟨379,8,380,70⟩,
  .setS (.attr (.var 103 ⟨381,8,381,12⟩) 105 ⟨381,8,381,23⟩) (.var 5 ⟨381,24,381,28⟩) ⟨381,8,381,29⟩ (.bcall 188 [(.kcomp 103 145 118 119 (.sub (.var 117 ⟨381,90,381,94⟩) (.int 3 ⟨381,95,381,96⟩) ⟨381,90,381,97⟩) ⟨.function, [((".0" : Str), .local), (tg 118, .local), (tg 119, .local), (tg 103, .free)], false, false, []⟩/-4-/ ⟨381,39,381,43⟩ ⟨381,39,381,54⟩ ⟨381,55,381,64⟩ ⟨381,39,381,65⟩ ⟨381,70,381,79⟩ ⟨381,81,381,86⟩ 0 ⟨381,70,381,86⟩ ⟨381,38,381,98⟩)] ⟨381,32,381,37⟩ ⟨381,32,381,99⟩) ⟨381,8,381,99⟩]
noncomputable def b516 : List Sm := [
  .ret (.dct [(17, ⟨400,12,400,17⟩), (18, ⟨400,35,400,43⟩), (19, ⟨400,63,400,68⟩), (21, ⟨400,86,400,89⟩), (23, ⟨400,108,400,123⟩)] [(.tup [(.str 0 ⟨400,20,400,25⟩), (.str 0 ⟨400,27,400,32⟩)] 0 ⟨400,19,400,33⟩), (.tup [(.str 1 ⟨400,46,400,52⟩), (.str 1 ⟨400,54,400,60⟩)] 0 ⟨400,45,400,61⟩), (.tup [(.str 0 ⟨400,71,400,76⟩), (.str 0 ⟨400,78,400,83⟩)] 0 ⟨400,70,400,84⟩), (.tup [(.str 0 ⟨400,92,400,97⟩), (.str 1 ⟨400,99,400,105⟩)] 0 ⟨400,91,400,106⟩), (.tup [(.str 0 ⟨400,126,400,131⟩), (.str 1 ⟨400,133,400,139⟩)] 0 ⟨400,125,400,140⟩)] ⟨400,11,400,141⟩) ⟨400,4,400,141⟩]
noncomputable def b523 : List Sm := [
  .asg (.many [(65, ⟨402,4,402,9⟩), (66, ⟨402,11,402,16⟩)] 0 ⟨402,4,402,16⟩) (.tup [(.sub (.var 71 ⟨402,20,402,24⟩) (.str 65 ⟨402,25,402,32⟩) ⟨402,20,402,33⟩), (.sub (.var 71 ⟨402,35,402,39⟩) (.str 66 ⟨402,40,402,47⟩) ⟨402,35,402,48⟩)] 0 ⟨402,19,402,49⟩) ⟨402,4,402,49⟩,
  .setS (.var 71 ⟨403,4,403,8⟩) (.str 66 ⟨403,9,403,16⟩) ⟨403,4,403,17⟩ (.bin (.var 66 ⟨403,20,403,25⟩) .Add (.int 1 ⟨403,28,403,29⟩) ⟨403,20,403,29⟩) ⟨403,4,403,29⟩,
  .ite (.cmp (.var 66 ⟨404,7,404,12⟩) .Lt (.bcall 187 [(.var 65 ⟨404,19,404,24⟩)] ⟨404,15,404,18⟩ ⟨404,15,404,25⟩) ⟨404,7,404,25⟩) [
    .ret (.bin (.bcall 0 [(.sub (.var 65 ⟨405,19,405,24⟩) (.var 66 ⟨405,25,405,30⟩) ⟨405,19,405,31⟩)] ⟨405,15,405,18⟩ ⟨405,15,405,32⟩) .Mod (.var 72 ⟨405,35,405,39⟩) ⟨405,15,405,39⟩) ⟨405,8,405,39⟩] [] ⟨404,4,405,39⟩,
  .ret (.bin (.bin (.bin (.bin (.bin (.bin (.int 3 ⟨406,12,406,13⟩) .Mult (.var 66 ⟨406,16,406,21⟩) ⟨406,12,406,21⟩) .Mult (.var 66 ⟨406,24,406,29⟩) ⟨406,12,406,29⟩) .Add (.bin (.int 7 ⟨406,32,406,33⟩) .Mult (.var 66 ⟨406,36,406,41⟩) ⟨406,32,406,41⟩) ⟨406,12,406,41⟩) .Add (.bin (.int 5 ⟨406,44,406,45⟩) .Mult (.bcall 187 [(.var 65 ⟨406,52,406,57⟩)] ⟨406,48,406,51⟩ ⟨406,48,406,58⟩) ⟨406,44,406,58⟩) ⟨406,12,406,58⟩) .Mod (.int 97 ⟨406,62,406,64⟩) ⟨406,11,406,64⟩) .Mod (.var 72 ⟨406,67,406,71⟩) ⟨406,11,406,71⟩) ⟨406,4,406,71⟩]
noncomputable def b530 : List Sm := [
  .setS (.var 71 ⟨408,4,408,8⟩) (.str 67 ⟨408,9,408,15⟩) ⟨408,4,408,16⟩ (.bin (.sub (.var 71 ⟨408,19,408,23⟩) (.str 67 ⟨408,24,408,30⟩) ⟨408,19,408,31⟩) .Add (.int 3 ⟨408,34,408,35⟩) ⟨408,19,408,35⟩) ⟨408,4,408,35⟩,
  .ret (.sub (.var 71 ⟨409,11,409,15⟩) (.str 67 ⟨409,16,409,22⟩) ⟨409,11,409,23⟩) ⟨409,4,409,23⟩]
noncomputable def b537 : List Sm := [
  .asg (.many [(67, ⟨411,4,411,8⟩), (73, ⟨411,10,411,13⟩)] 0 ⟨411,4,411,13⟩) (.tup [(.call 171 [(.var 71 ⟨411,27,411,31⟩)] ⟨411,17,411,26⟩ ⟨411,17,411,32⟩), (.call 170 [(.var 71 ⟨411,43,411,47⟩), (.int 9 ⟨411,49,411,50⟩)] ⟨411,34,411,42⟩ ⟨411,34,411,51⟩)] 0 ⟨411,16,411,52⟩) ⟨411,4,411,52⟩,
  .ite (.cmp (.var 73 ⟨412,7,412,10⟩) .Eq (.int 8 ⟨412,14,412,15⟩) ⟨412,7,412,15⟩) [
    .ret (.tup [(.str 5 ⟨413,16,413,22⟩), (.var 67 ⟨413,24,413,28⟩), (.sub (.lst [(.str 29 ⟨413,31,413,34⟩), (.str 34 ⟨413,36,413,39⟩), (.str 31 ⟨413,41,413,44⟩), (.str 35 ⟨413,46,413,49⟩), (.str 32 ⟨413,51,413,54⟩), (.str 33 ⟨413,56,413,59⟩)] ⟨413,30,413,60⟩) (.call 170 [(.var 71 ⟨413,70,413,74⟩), (.int 6 ⟨413,76,413,77⟩)] ⟨413,61,413,69⟩ ⟨413,61,413,78⟩) ⟨413,30,413,79⟩)] 0 ⟨413,15,413,80⟩) ⟨413,8,413,80⟩] [] ⟨412,4,413,80⟩,
  .ite (.cmp (.var 74 ⟨414,7,414,11⟩) .Eq (.str 1 ⟨414,15,414,21⟩) ⟨414,7,414,21⟩) [
    .ret (.sub (.tup [(.tup [(.str 5 ⟨415,17,415,23⟩), (.var 67 ⟨415,25,415,29⟩), (.str 27 ⟨415,31,415,34⟩)] 0 ⟨415,16,415,35⟩), (.tup [(.str 5 ⟨415,38,415,44⟩), (.var 67 ⟨415,46,415,50⟩), (.str 28 ⟨415,52,415,55⟩)] 0 ⟨415,37,415,56⟩), (.tup [(.str 1 ⟨415,59,415,65⟩), (.var 67 ⟨415,67,415,71⟩), (.bool true ⟨415,73,415,77⟩)] 0 ⟨415,58,415,78⟩)] 0 ⟨415,15,415,79⟩) (.bin (.var 73 ⟨415,80,415,83⟩) .Mod (.int 3 ⟨415,86,415,87⟩) ⟨415,80,415,87⟩) ⟨415,15,415,88⟩) ⟨415,8,415,88⟩] [] ⟨414,4,415,88⟩,
  .ret (.ite (.cmp (.var 73 ⟨416,60,416,63⟩) .Lt (.int 7 ⟨416,66,416,67⟩) ⟨416,60,416,67⟩) (.tup [(.str 5 ⟨416,12,416,18⟩), (.var 67 ⟨416,20,416,24⟩), (.sub (.lst [(.str 36 ⟨416,27,416,30⟩), (.str 25 ⟨416,32,416,35⟩), (.str 26 ⟨416,37,416,40⟩), (.str 37 ⟨416,42,416,45⟩)] ⟨416,26,416,46⟩) (.bin (.var 73 ⟨416,47,416,50⟩) .Mod (.int 4 ⟨416,53,416,54⟩) ⟨416,47,416,54⟩) ⟨416,26,416,55⟩)] 0 ⟨416,11,416,56⟩) (.tup [(.str 0 ⟨416,74,416,79⟩), (.var 67 ⟨416,81,416,85⟩), (.int 2 ⟨416,87,416,88⟩)] 0 ⟨416,73,416,89⟩) ⟨416,11,416,89⟩) ⟨416,4,416,89⟩]
noncomputable def b544 : List Sm := [
  .asg (.one 73 ⟨418,4,418,7⟩) (.ite (.cmp (.var 75 ⟨418,31,418,37⟩) .Gt (.int 0 ⟨418,40,418,41⟩) ⟨418,31,418,41⟩) (.call 170 [(.var 71 ⟨418,19,418,23⟩), (.int 6 ⟨418,25,418,26⟩)] ⟨418,10,418,18⟩ ⟨418,10,418,27⟩) (.int 0 ⟨418,47,418,48⟩) ⟨418,10,418,48⟩) ⟨418,4,418,48⟩,
  .ite (.cmp (.var 73 ⟨419,7,419,10⟩) .Lt (.int 2 ⟨419,13,419,14⟩) ⟨419,7,419,14⟩) [
    .ret (.call 172 [(.var 71 ⟨420,25,420,29⟩), (.var 74 ⟨420,31,420,35⟩)] ⟨420,15,420,24⟩ ⟨420,15,420,36⟩) ⟨420,8,420,36⟩] [] ⟨419,4,420,36⟩,
  .asg (.one 67 ⟨421,4,421,8⟩) (.call 171 [(.var 71 ⟨421,21,421,25⟩)] ⟨421,11,421,20⟩ ⟨421,11,421,26⟩) ⟨421,4,421,26⟩,
  .ite (.cmp (.var 73 ⟨422,7,422,10⟩) .Eq (.int 5 ⟨422,14,422,15⟩) ⟨422,7,422,15⟩) [
    .ret (.call 175 [(.var 71 ⟨423,25,423,29⟩), (.bin (.var 75 ⟨423,31,423,37⟩) .Sub (.int 1 ⟨423,40,423,41⟩) ⟨423,31,423,41⟩), (.str 13 ⟨423,43,423,48⟩)] ⟨423,15,423,24⟩ ⟨423,15,423,49⟩) ⟨423,8,423,49⟩] [] ⟨422,4,423,49⟩,
  .ite (.bop .And [(.cmp (.var 73 ⟨424,7,424,10⟩) .Eq (.int 4 ⟨424,14,424,15⟩) ⟨424,7,424,15⟩), (.cmp (.var 74 ⟨424,20,424,24⟩) .Eq (.str 0 ⟨424,28,424,33⟩) ⟨424,20,424,33⟩)] ⟨424,7,424,33⟩) [
    .asg (.one 10 ⟨425,8,425,13⟩) (.tup [(.str 5 ⟨425,17,425,23⟩), (.bin (.var 67 ⟨425,25,425,29⟩) .Add (.int 1 ⟨425,32,425,33⟩) ⟨425,25,425,33⟩), (.sub (.lst [(.str 31 ⟨425,36,425,39⟩), (.str 30 ⟨425,41,425,44⟩), (.str 33 ⟨425,46,425,49⟩), (.str 26 ⟨425,51,425,54⟩)] ⟨425,35,425,55⟩) (.call 170 [(.var 71 ⟨425,65,425,69⟩), (.int 4 ⟨425,71,425,72⟩)] ⟨425,56,425,64⟩ ⟨425,56,425,73⟩) ⟨425,35,425,74⟩)] 0 ⟨425,16,425,75⟩) ⟨425,8,425,75⟩,
    .ret (.tup [(.str 8 ⟨426,16,426,23⟩), (.var 67 ⟨426,25,426,29⟩), (.var 10 ⟨426,31,426,36⟩), (.tup [(.call 173 [(.var 71 ⟨426,49,426,53⟩), (.bin (.var 75 ⟨426,55,426,61⟩) .Sub (.int 1 ⟨426,64,426,65⟩) ⟨426,55,426,65⟩), (.var 74 ⟨426,67,426,71⟩)] ⟨426,39,426,48⟩ ⟨426,39,426,72⟩)] 0 ⟨426,38,426,74⟩)] 0 ⟨426,15,426,75⟩) ⟨426,8,426,75⟩] [] ⟨424,4,426,75⟩,
  .asg (.one 78 ⟨427,4,427,8⟩) (.ite (.cmp (.var 74 ⟨427,18,427,22⟩) .Eq (.str 0 ⟨427,26,427,31⟩) ⟨427,18,427,31⟩) (.str 38 ⟨427,11,427,14⟩) (.sub (.tup [(.str 39 ⟨427,38,427,43⟩), (.str 40 ⟨427,45,427,48⟩)] 0 ⟨427,37,427,49⟩) (.bin (.var 73 ⟨427,50,427,53⟩) .Mod (.int 2 ⟨427,56,427,57⟩) ⟨427,50,427,57⟩) ⟨427,37,427,58⟩) ⟨427,11,427,58⟩) ⟨427,4,427,58⟩,
  .asg (.one 79 ⟨428,4,428,9⟩) (.ite (.cmp (.var 78 ⟨428,22,428,26⟩) .Eq (.str 39 ⟨428,30,428,35⟩) ⟨428,22,428,35⟩) (.str 1 ⟨428,12,428,18⟩) (.str 0 ⟨428,41,428,46⟩) ⟨428,12,428,46⟩) ⟨428,4,428,46⟩,
  .asg (.one 80 ⟨429,4,429,7⟩) (.call 173 [(.var 71 ⟨429,20,429,24⟩), (.bin (.var 75 ⟨429,26,429,32⟩) .Sub (.int 1 ⟨429,35,429,36⟩) ⟨429,26,429,36⟩), (.var 79 ⟨429,38,429,43⟩)] ⟨429,10,429,19⟩ ⟨429,10,429,44⟩) ⟨429,4,429,44⟩,
  .ret (.tup [(.str 6 ⟨430,12,430,17⟩), (.var 67 ⟨430,19,430,23⟩), (.var 78 ⟨430,25,430,29⟩), (.var 80 ⟨430,31,430,34⟩), (.call 173 [(.var 71 ⟨430,46,430,50⟩), (.int 0 ⟨430,52,430,53⟩), (.var 79 ⟨430,55,430,60⟩)] ⟨430,36,430,45⟩ ⟨430,36,430,61⟩)] 0 ⟨430,11,430,62⟩) ⟨430,4,430,62⟩]
noncomputable def b551_1 : List Sm := [
    .asg (.one 83 ⟨434,8,434,13⟩) (.sub (.lst [(.tup [(.str 36 ⟨434,18,434,21⟩)] 0 ⟨434,17,434,23⟩), (.tup [(.str 37 ⟨434,26,434,29⟩)] 0 ⟨434,25,434,31⟩), (.tup [(.str 36 ⟨434,34,434,37⟩), (.str 37 ⟨434,39,434,42⟩)] 0 ⟨434,33,434,43⟩), (.tup [(.str 25 ⟨434,46,434,49⟩)] 0 ⟨434,45,434,51⟩), (.tup [(.str 37 ⟨434,54,434,57⟩), (.str 37 ⟨434,59,434,62⟩)] 0 ⟨434,53,434,63⟩)] ⟨434,16,434,64⟩) (.call 170 [(.var 71 ⟨434,74,434,78⟩), (.int 5 ⟨434,80,434,81⟩)] ⟨434,65,434,73⟩ ⟨434,65,434,82⟩) ⟨434,16,434,83⟩) ⟨434,8,434,83⟩,
    .asg (.many [(73, ⟨435,8,435,11⟩), (67, ⟨435,13,435,17⟩)] 0 ⟨435,8,435,17⟩) (.tup [(.call 170 [(.var 71 ⟨435,30,435,34⟩), (.int 6 ⟨435,36,435,37⟩)] ⟨435,21,435,29⟩ ⟨435,21,435,38⟩), (.call 171 [(.var 71 ⟨435,50,435,54⟩)] ⟨435,40,435,49⟩ ⟨435,40,435,55⟩)] 0 ⟨435,20,435,56⟩) ⟨435,8,435,56⟩,
    .asg (.one 84 ⟨436,8,436,14⟩) (.tup [(.str 5 ⟨436,18,436,24⟩), (.var 67 ⟨436,26,436,30⟩), (.sub (.lst [(.str 29 ⟨436,33,436,36⟩), (.str 30 ⟨436,38,436,41⟩), (.str 31 ⟨436,43,436,46⟩), (.str 32 ⟨436,48,436,51⟩), (.str 33 ⟨436,53,436,56⟩)] ⟨436,32,436,57⟩) (.bin (.var 73 ⟨436,58,436,61⟩) .Mod (.int 5 ⟨436,64,436,65⟩) ⟨436,58,436,65⟩) ⟨436,32,436,66⟩)] 0 ⟨436,17,436,67⟩) ⟨436,8,436,67⟩,
    .ite (.cmp (.var 73 ⟨437,11,437,14⟩) .Eq (.int 5 ⟨437,18,437,19⟩) ⟨437,11,437,19⟩) [
      .asg (.one 84 ⟨438,12,438,18⟩) (.tup [(.str 12 ⟨438,22,438,29⟩), (.var 67 ⟨438,31,438,35⟩), (.tup [(.str 0 ⟨438,38,438,43⟩), (.call 171 [(.var 71 ⟨438,55,438,59⟩)] ⟨438,45,438,54⟩ ⟨438,45,438,60⟩), (.int 1 ⟨438,62,438,63⟩)] 0 ⟨438,37,438,64⟩), (.call 172 [(.var 71 ⟨438,76,438,80⟩), (.str 0 ⟨438,82,438,87⟩)] ⟨438,66,438,75⟩ ⟨438,66,438,88⟩)] 0 ⟨438,21,438,89⟩) ⟨438,12,438,89⟩] [] ⟨437,8,438,89⟩,
    .expr (.mcall (.var 81 ⟨439,8,439,13⟩) 127 [(.tup [(.var 83 ⟨439,22,439,27⟩), (.var 84 ⟨439,29,439,35⟩)] 0 ⟨439,21,439,36⟩)] ⟨439,8,439,20⟩ ⟨439,8,439,37⟩) ⟨439,8,439,37⟩]
noncomputable def b551 : List Sm := [
  .asg (.one 81 ⟨432,4,432,9⟩) (.lst [] ⟨432,12,432,14⟩) ⟨432,4,432,14⟩,
  .for_ (.one 82 ⟨433,8,433,11⟩) (.rng [(.bin (.int 1 ⟨433,21,433,22⟩) .Add (.call 170 [(.var 71 ⟨433,34,433,38⟩), (.int 2 ⟨433,40,433,41⟩)] ⟨433,25,433,33⟩ ⟨433,25,433,42⟩) ⟨433,21,433,42⟩)] ⟨433,15,433,20⟩ ⟨433,15,433,43⟩) b551_1 ⟨433,4,439,37⟩,
  .ret (.bcall 188 [(.var 81 ⟨440,17,440,22⟩)] ⟨440,11,440,16⟩ ⟨440,11,440,23⟩) ⟨440,4,440,23⟩]
noncomputable def b558 : List Sm := [
  .asg (.one 67 ⟨442,4,442,8⟩) (.call 171 [(.var 71 ⟨442,21,442,25⟩)] ⟨442,11,442,20⟩ ⟨442,11,442,26⟩) ⟨442,4,442,26⟩,
  .asg (.one 86 ⟨443,4,443,8⟩) (.sub (.lst [(.str 17 ⟨443,12,443,17⟩), (.str 18 ⟨443,19,443,27⟩), (.str 19 ⟨443,29,443,34⟩), (.str 21 ⟨443,36,443,39⟩), (.str 23 ⟨443,41,443,56⟩), (.str 24 ⟨443,58,443,63⟩), (.str 22 ⟨443,65,443,68⟩)] ⟨443,11,443,69⟩) (.call 170 [(.var 71 ⟨443,79,443,83⟩), (.int 7 ⟨443,85,443,86⟩)] ⟨443,70,443,78⟩ ⟨443,70,443,87⟩) ⟨443,11,443,88⟩) ⟨443,4,443,88⟩,
  .ite (.cmp (.var 85 ⟨444,7,444,9⟩) .Eq (.str 14 ⟨444,13,444,19⟩) ⟨444,7,444,19⟩) [
    .asg (.one 86 ⟨445,8,445,12⟩) (.sub (.lst [(.str 3 ⟨445,16,445,21⟩), (.str 10 ⟨445,23,445,30⟩)] ⟨445,15,445,31⟩) (.call 170 [(.var 71 ⟨445,41,445,45⟩), (.int 2 ⟨445,47,445,48⟩)] ⟨445,32,445,40⟩ ⟨445,32,445,49⟩) ⟨445,15,445,50⟩) ⟨445,8,445,50⟩] [] ⟨444,4,445,50⟩,
  .asg (.one 87 ⟨446,4,446,8⟩) (.call 174 [(.var 71 ⟨446,21,446,25⟩)] ⟨446,11,446,20⟩ ⟨446,11,446,26⟩) ⟨446,4,446,26⟩,
  .asg (.one 88 ⟨447,4,447,9⟩) (.ite (.cmp (.call 170 [(.var 71 ⟨447,51,447,55⟩), (.int 3 ⟨447,57,447,58⟩)] ⟨447,42,447,50⟩ ⟨447,42,447,59⟩) .Eq (.int 2 ⟨447,63,447,64⟩) ⟨447,42,447,64⟩) (.call 173 [(.var 71 ⟨447,22,447,26⟩), (.int 0 ⟨447,28,447,29⟩), (.str 1 ⟨447,31,447,37⟩)] ⟨447,12,447,21⟩ ⟨447,12,447,38⟩) (.non ⟨447,70,447,74⟩) ⟨447,12,447,74⟩) ⟨447,4,447,74⟩,
  .ret (.tup [(.var 85 ⟨448,12,448,14⟩), (.var 67 ⟨448,16,448,20⟩), (.var 86 ⟨448,22,448,26⟩), (.var 87 ⟨448,28,448,32⟩), (.var 88 ⟨448,34,448,39⟩), (.call 173 [(.var 71 ⟨448,51,448,55⟩), (.var 75 ⟨448,57,448,63⟩), (.ite (.cmp (.var 86 ⟨448,75,448,79⟩) .Eq (.str 18 ⟨448,83,448,91⟩) ⟨448,75,448,91⟩) (.str 1 ⟨448,65,448,71⟩) (.str 0 ⟨448,97,448,102⟩) ⟨448,65,448,102⟩)] ⟨448,41,448,50⟩ ⟨448,41,448,103⟩)] 0 ⟨448,11,448,104⟩) ⟨448,4,448,104⟩]
noncomputable def b565 : List Sm := [
  .ret (.bop .And [(.cmp (.sub (.var 89 ⟨450,11,450,15⟩) (.int 2 ⟨450,16,450,17⟩) ⟨450,11,450,18⟩) .Eq (.var 91 ⟨450,22,450,26⟩) ⟨450,11,450,26⟩), (.bop .Or [(.var 90 ⟨450,32,450,38⟩), (.neg (.sub (.var 89 ⟨450,46,450,50⟩) (.int 1 ⟨450,51,450,52⟩) ⟨450,46,450,53⟩) ⟨450,42,450,53⟩)] ⟨450,32,450,53⟩), (.bop .Or [(.cmp (.sub (.var 89 ⟨450,60,450,64⟩) (.int 0 ⟨450,65,450,66⟩) ⟨450,60,450,67⟩) .Eq (.var 74 ⟨450,71,450,75⟩) ⟨450,60,450,75⟩), (.cmp (.tup [(.sub (.var 89 ⟨450,80,450,84⟩) (.int 0 ⟨450,85,450,86⟩) ⟨450,80,450,87⟩), (.var 74 ⟨450,89,450,93⟩)] 0 ⟨450,79,450,94⟩) .Eq (.tup [(.str 1 ⟨450,99,450,105⟩), (.str 0 ⟨450,107,450,112⟩)] 0 ⟨450,98,450,113⟩) ⟨450,79,450,113⟩)] ⟨450,60,450,113⟩)] ⟨450,11,450,114⟩) ⟨450,4,450,114⟩]
noncomputable def b572_1 : List Sm := [
      .ite (.cmp (.sub (.var 92 ⟨457,15,457,19⟩) (.int 2 ⟨457,20,457,21⟩) ⟨457,15,457,22⟩) .In (.sub (.var 93 ⟨457,26,457,32⟩) (.var 66 ⟨457,33,457,38⟩) ⟨457,26,457,39⟩) ⟨457,15,457,39⟩) [
        .ite (.cmp (.var 66 ⟨458,19,458,24⟩) .Eq (.int 0 ⟨458,28,458,29⟩) ⟨458,19,458,29⟩) [
          .setS (.sub (.var 94 ⟨459,20,459,25⟩) (.int 0 ⟨459,26,459,27⟩) ⟨459,20,459,28⟩) (.sub (.var 92 ⟨459,29,459,33⟩) (.int 2 ⟨459,34,459,35⟩) ⟨459,29,459,36⟩) ⟨459,20,459,37⟩ (.bool true ⟨459,40,459,44⟩) ⟨459,20,459,44⟩] [] ⟨458,16,459,44⟩,
        .ret (.tup [(.sub (.sub (.var 93 ⟨460,24,460,30⟩) (.var 66 ⟨460,31,460,36⟩) ⟨460,24,460,37⟩) (.sub (.var 92 ⟨460,38,460,42⟩) (.int 2 ⟨460,43,460,44⟩) ⟨460,38,460,45⟩) ⟨460,24,460,46⟩), (.non ⟨460,48,460,52⟩)] 0 ⟨460,23,460,53⟩) ⟨460,16,460,53⟩] [] ⟨457,12,460,53⟩]
noncomputable def b572 : List Sm := [
  .asg (.many [(85, ⟨452,4,452,6⟩), (67, ⟨452,8,452,12⟩)] 0 ⟨452,4,452,12⟩) (.tup [(.sub (.var 92 ⟨452,16,452,20⟩) (.int 0 ⟨452,21,452,22⟩) ⟨452,16,452,23⟩), (.sub (.var 92 ⟨452,25,452,29⟩) (.int 1 ⟨452,30,452,31⟩) ⟨452,25,452,32⟩)] 0 ⟨452,15,452,33⟩) ⟨452,4,452,33⟩,
  .ite (.cmp (.var 85 ⟨453,7,453,9⟩) .In (.tup [(.str 0 ⟨453,14,453,19⟩), (.str 1 ⟨453,21,453,27⟩)] 0 ⟨453,13,453,28⟩) ⟨453,7,453,28⟩) [
    .ret (.tup [(.tup [(.var 85 ⟨454,17,454,19⟩), (.bool false ⟨454,21,454,26⟩), (.int 0 ⟨454,28,454,29⟩)] 0 ⟨454,16,454,30⟩), (.non ⟨454,32,454,36⟩)] 0 ⟨454,15,454,37⟩) ⟨454,8,454,37⟩] [] ⟨453,4,454,37⟩,
  .ite (.cmp (.var 85 ⟨455,7,455,9⟩) .Eq (.str 5 ⟨455,13,455,19⟩) ⟨455,7,455,19⟩) [
    .for_ (.one 66 ⟨456,12,456,17⟩) (.rng [(.bin (.bcall 187 [(.var 93 ⟨456,31,456,37⟩)] ⟨456,27,456,30⟩ ⟨456,27,456,38⟩) .Sub (.int 1 ⟨456,41,456,42⟩) ⟨456,27,456,42⟩), (.minus 1 ⟨456,45,456,46⟩ ⟨456,44,456,46⟩), (.minus 1 ⟨456,49,456,50⟩ ⟨456,48,456,50⟩)] ⟨456,21,456,26⟩ ⟨456,21,456,51⟩) b572_1 ⟨456,8,460,53⟩,
    .ret (.tup [(.non ⟨461,16,461,20⟩), (.var 67 ⟨461,22,461,26⟩)] 0 ⟨461,15,461,27⟩) ⟨461,8,461,27⟩] [] ⟨455,4,461,27⟩,
  .ite (.cmp (.var 85 ⟨462,7,462,9⟩) .Eq (.str 8 ⟨462,13,462,20⟩) ⟨462,7,462,20⟩) [
    .ret (.call 179 [(.var 92 ⟨463,28,463,32⟩), (.var 93 ⟨463,34,463,40⟩), (.var 94 ⟨463,42,463,47⟩)] ⟨463,15,463,27⟩ ⟨463,15,463,48⟩) ⟨463,8,463,48⟩] [] ⟨462,4,463,48⟩,
  .ite (.cmp (.var 85 ⟨464,7,464,9⟩) .In (.tup [(.str 13 ⟨464,14,464,19⟩), (.str 14 ⟨464,21,464,27⟩)] 0 ⟨464,13,464,28⟩) ⟨464,7,464,28⟩) [
    .ret (.call 180 [(.var 92 ⟨465,28,465,32⟩), (.bin (.var 93 ⟨465,34,465,40⟩) .Add (.lst [(.dct [] [] ⟨465,44,465,46⟩)] ⟨465,43,465,47⟩) ⟨465,34,465,47⟩), (.var 94 ⟨465,49,465,54⟩)] ⟨465,15,465,27⟩ ⟨465,15,465,55⟩) ⟨465,8,465,55⟩] [] ⟨464,4,465,55⟩,
  .asg (.many [(80, ⟨466,4,466,7⟩), (95, ⟨466,9,466,12⟩)] 0 ⟨466,4,466,12⟩) (.call 177 [(.sub (.var 92 ⟨466,25,466,29⟩) (.ite (.cmp (.var 85 ⟨466,35,466,37⟩) .Eq (.str 12 ⟨466,41,466,48⟩) ⟨466,35,466,48⟩) (.int 2 ⟨466,30,466,31⟩) (.int 3 ⟨466,54,466,55⟩) ⟨466,30,466,55⟩) ⟨466,25,466,56⟩), (.var 93 ⟨466,58,466,64⟩), (.var 94 ⟨466,66,466,71⟩)] ⟨466,15,466,24⟩ ⟨466,15,466,72⟩) ⟨466,4,466,72⟩,
  .ite (.bop .And [(.cmp (.var 95 ⟨467,7,467,10⟩) .Is (.non ⟨467,14,467,18⟩) ⟨467,7,467,18⟩), (.cmp (.var 85 ⟨467,23,467,25⟩) .Eq (.str 12 ⟨467,29,467,36⟩) ⟨467,23,467,36⟩), (.neg (.call 176 [(.var 80 ⟨467,55,467,58⟩), (.str 0 ⟨467,60,467,65⟩), (.bool false ⟨467,67,467,72⟩), (.int 0 ⟨467,74,467,75⟩)] ⟨467,46,467,54⟩ ⟨467,46,467,76⟩) ⟨467,42,467,76⟩)] ⟨467,7,467,77⟩) [
    .asg (.one 95 ⟨468,8,468,11⟩) (.var 67 ⟨468,14,468,18⟩) ⟨468,8,468,18⟩] [] ⟨467,4,468,18⟩,
  .ite (.cmp (.var 95 ⟨469,7,469,10⟩) .IsNot (.non ⟨469,18,469,22⟩) ⟨469,7,469,22⟩) [
    .ret (.tup [(.non ⟨470,16,470,20⟩), (.var 95 ⟨470,22,470,25⟩)] 0 ⟨470,15,470,26⟩) ⟨470,8,470,26⟩] [] ⟨469,4,470,26⟩,
  .asg (.many [(96, ⟨471,4,471,9⟩), (95, ⟨471,11,471,14⟩)] 0 ⟨471,4,471,14⟩) (.call 177 [(.sub (.var 92 ⟨471,27,471,31⟩) (.ite (.cmp (.var 85 ⟨471,37,471,39⟩) .Eq (.str 12 ⟨471,43,471,50⟩) ⟨471,37,471,50⟩) (.int 3 ⟨471,32,471,33⟩) (.int 4 ⟨471,56,471,57⟩) ⟨471,32,471,57⟩) ⟨471,27,471,58⟩), (.var 93 ⟨471,60,471,66⟩), (.var 94 ⟨471,68,471,73⟩)] ⟨471,17,471,26⟩ ⟨471,17,471,74⟩) ⟨471,4,471,74⟩,
  .ite (.cmp (.var 95 ⟨472,7,472,10⟩) .IsNot (.non ⟨472,18,472,22⟩) ⟨472,7,472,22⟩) [
    .ret (.tup [(.non ⟨473,16,473,20⟩), (.var 95 ⟨473,22,473,25⟩)] 0 ⟨473,15,473,26⟩) ⟨473,8,473,26⟩] [] ⟨472,4,473,26⟩,
  .ite (.cmp (.var 85 ⟨474,7,474,9⟩) .Eq (.str 12 ⟨474,13,474,20⟩) ⟨474,7,474,20⟩) [
    .ret (.ite (.call 176 [(.var 96 ⟨475,53,475,58⟩), (.str 0 ⟨475,60,475,65⟩), (.bool false ⟨475,67,475,72⟩), (.int 0 ⟨475,74,475,75⟩)] ⟨475,44,475,52⟩ ⟨475,44,475,76⟩) (.tup [(.tup [(.str 3 ⟨475,17,475,22⟩), (.bool false ⟨475,24,475,29⟩), (.int 0 ⟨475,31,475,32⟩)] 0 ⟨475,16,475,33⟩), (.non ⟨475,35,475,39⟩)] 0 ⟨475,15,475,40⟩) (.tup [(.non ⟨475,83,475,87⟩), (.var 67 ⟨475,89,475,93⟩)] 0 ⟨475,82,475,94⟩) ⟨475,15,475,94⟩) ⟨475,8,475,94⟩] [] ⟨474,4,475,94⟩,
  .ret (.call 178 [(.sub (.var 92 ⟨476,23,476,27⟩) (.int 2 ⟨476,28,476,29⟩) ⟨476,23,476,30⟩), (.var 80 ⟨476,32,476,35⟩), (.var 96 ⟨476,37,476,42⟩), (.var 67 ⟨476,44,476,48⟩)] ⟨476,11,476,22⟩ ⟨476,11,476,49⟩) ⟨476,4,476,49⟩]
noncomputable def b579 : List Sm := [
  .asg (.one 90 ⟨478,4,478,10⟩) (.bop .Or [(.sub (.var 80 ⟨478,13,478,16⟩) (.int 1 ⟨478,17,478,18⟩) ⟨478,13,478,19⟩), (.sub (.var 96 ⟨478,23,478,28⟩) (.int 1 ⟨478,29,478,30⟩) ⟨478,23,478,31⟩)] ⟨478,13,478,31⟩) ⟨478,4,478,31⟩,
  .ite (.cmp (.var 78 ⟨479,7,479,11⟩) .Eq (.str 40 ⟨479,15,479,18⟩) ⟨479,7,479,18⟩) [
    .asg (.one 97 ⟨480,8,480,14⟩) (.bop .And [(.cmp (.sub (.var 80 ⟨480,17,480,20⟩) (.int 2 ⟨480,21,480,22⟩) ⟨480,17,480,23⟩) .Eq (.int 0 ⟨480,27,480,28⟩) ⟨480,17,480,28⟩), (.cmp (.sub (.var 96 ⟨480,33,480,38⟩) (.int 2 ⟨480,39,480,40⟩) ⟨480,33,480,41⟩) .Eq (.int 0 ⟨480,45,480,46⟩) ⟨480,33,480,46⟩), (.bop .Or [(.cmp (.sub (.var 80 ⟨480,52,480,55⟩) (.int 0 ⟨480,56,480,57⟩) ⟨480,52,480,58⟩) .Eq (.sub (.var 96 ⟨480,62,480,67⟩) (.int 0 ⟨480,68,480,69⟩) ⟨480,62,480,70⟩) ⟨480,52,480,70⟩), (.cmp (.bcall 186 [(.lst [(.sub (.var 80 ⟨480,82,480,85⟩) (.int 0 ⟨480,86,480,87⟩) ⟨480,82,480,88⟩), (.sub (.var 96 ⟨480,90,480,95⟩) (.int 0 ⟨480,96,480,97⟩) ⟨480,90,480,98⟩)] ⟨480,81,480,99⟩)] ⟨480,74,480,80⟩ ⟨480,74,480,100⟩) .Eq (.lst [(.str 1 ⟨480,105,480,111⟩), (.str 0 ⟨480,113,480,118⟩)] ⟨480,104,480,119⟩) ⟨480,74,480,119⟩)] ⟨480,52,480,119⟩)] ⟨480,17,480,120⟩) ⟨480,8,480,120⟩,
    .ret (.ite (.var 97 ⟨481,46,481,52⟩) (.tup [(.tup [(.str 1 ⟨481,17,481,23⟩), (.var 90 ⟨481,25,481,31⟩), (.int 0 ⟨481,33,481,34⟩)] 0 ⟨481,16,481,35⟩), (.non ⟨481,37,481,41⟩)] 0 ⟨481,15,481,42⟩) (.tup [(.non ⟨481,59,481,63⟩), (.var 67 ⟨481,65,481,69⟩)] 0 ⟨481,58,481,70⟩) ⟨481,15,481,70⟩) ⟨481,8,481,70⟩] [] ⟨479,4,481,70⟩,
  .asg (.one 74 ⟨482,4,482,8⟩) (.ite (.cmp (.var 78 ⟨482,20,482,24⟩) .Eq (.str 38 ⟨482,28,482,31⟩) ⟨482,20,482,31⟩) (.str 0 ⟨482,11,482,16⟩) (.str 1 ⟨482,37,482,43⟩) ⟨482,11,482,43⟩) ⟨482,4,482,43⟩,
  .ite (.bop .And [(.call 176 [(.var 80 ⟨483,16,483,19⟩), (.var 74 ⟨483,21,483,25⟩), (.bool true ⟨483,27,483,31⟩), (.int 0 ⟨483,33,483,34⟩)] ⟨483,7,483,15⟩ ⟨483,7,483,35⟩), (.call 176 [(.var 96 ⟨483,49,483,54⟩), (.var 74 ⟨483,56,483,60⟩), (.bool true ⟨483,62,483,66⟩), (.int 0 ⟨483,68,483,69⟩)] ⟨483,40,483,48⟩ ⟨483,40,483,70⟩)] ⟨483,7,483,70⟩) [
    .ret (.tup [(.tup [(.var 74 ⟨484,17,484,21⟩), (.var 90 ⟨484,23,484,29⟩), (.int 0 ⟨484,31,484,32⟩)] 0 ⟨484,16,484,33⟩), (.non ⟨484,35,484,39⟩)] 0 ⟨484,15,484,40⟩) ⟨484,8,484,40⟩] [] ⟨483,4,484,40⟩,
  .ret (.tup [(.non ⟨485,12,485,16⟩), (.var 67 ⟨485,18,485,22⟩)] 0 ⟨485,11,485,23⟩) ⟨485,4,485,23⟩]
noncomputable def b586 : List Sm := [
  .asg (.many [(89, ⟨487,4,487,8⟩), (95, ⟨487,10,487,13⟩)] 0 ⟨487,4,487,13⟩) (.call 177 [(.sub (.var 92 ⟨487,26,487,30⟩) (.int 2 ⟨487,31,487,32⟩) ⟨487,26,487,33⟩), (.var 93 ⟨487,35,487,41⟩), (.var 94 ⟨487,43,487,48⟩)] ⟨487,16,487,25⟩ ⟨487,16,487,49⟩) ⟨487,4,487,49⟩,
  .ite (.bop .Or [(.cmp (.var 95 ⟨488,7,488,10⟩) .IsNot (.non ⟨488,18,488,22⟩) ⟨488,7,488,22⟩), (.cmp (.sub (.var 89 ⟨488,26,488,30⟩) (.int 2 ⟨488,31,488,32⟩) ⟨488,26,488,33⟩) .NotEq (.int 1 ⟨488,37,488,38⟩) ⟨488,26,488,38⟩)] ⟨488,7,488,38⟩) [
    .ret (.tup [(.non ⟨489,16,489,20⟩), (.ite (.cmp (.var 95 ⟨489,33,489,36⟩) .Is (.non ⟨489,40,489,44⟩) ⟨489,33,489,44⟩) (.sub (.var 92 ⟨489,22,489,26⟩) (.int 1 ⟨489,27,489,28⟩) ⟨489,22,489,29⟩) (.var 95 ⟨489,50,489,53⟩) ⟨489,22,489,53⟩)] 0 ⟨489,15,489,54⟩) ⟨489,8,489,54⟩] [] ⟨488,4,489,54⟩,
  .asg (.many [(66, ⟨490,4,490,9⟩), (95, ⟨490,11,490,14⟩)] 0 ⟨490,4,490,14⟩) (.call 177 [(.sub (.sub (.var 92 ⟨490,27,490,31⟩) (.int 3 ⟨490,32,490,33⟩) ⟨490,27,490,34⟩) (.int 0 ⟨490,35,490,36⟩) ⟨490,27,490,37⟩), (.var 93 ⟨490,39,490,45⟩), (.var 94 ⟨490,47,490,52⟩)] ⟨490,17,490,26⟩ ⟨490,17,490,53⟩) ⟨490,4,490,53⟩,
  .ite (.bop .Or [(.cmp (.var 95 ⟨491,7,491,10⟩) .IsNot (.non ⟨491,18,491,22⟩) ⟨491,7,491,22⟩), (.neg (.call 176 [(.var 66 ⟨491,39,491,44⟩), (.str 0 ⟨491,46,491,51⟩), (.bool true ⟨491,53,491,57⟩), (.int 0 ⟨491,59,491,60⟩)] ⟨491,30,491,38⟩ ⟨491,30,491,61⟩) ⟨491,26,491,61⟩)] ⟨491,7,491,61⟩) [
    .ret (.tup [(.non ⟨492,16,492,20⟩), (.ite (.cmp (.var 95 ⟨492,39,492,42⟩) .Is (.non ⟨492,46,492,50⟩) ⟨492,39,492,50⟩) (.sub (.sub (.sub (.var 92 ⟨492,22,492,26⟩) (.int 3 ⟨492,27,492,28⟩) ⟨492,22,492,29⟩) (.int 0 ⟨492,30,492,31⟩) ⟨492,22,492,32⟩) (.int 1 ⟨492,33,492,34⟩) ⟨492,22,492,35⟩) (.var 95 ⟨492,56,492,59⟩) ⟨492,22,492,59⟩)] 0 ⟨492,15,492,60⟩) ⟨492,8,492,60⟩] [] ⟨491,4,492,60⟩,
  .ret (.tup [(.tup [(.sub (.var 89 ⟨493,13,493,17⟩) (.int 0 ⟨493,18,493,19⟩) ⟨493,13,493,20⟩), (.bop .Or [(.sub (.var 89 ⟨493,22,493,26⟩) (.int 1 ⟨493,27,493,28⟩) ⟨493,22,493,29⟩), (.sub (.var 66 ⟨493,33,493,38⟩) (.int 1 ⟨493,39,493,40⟩) ⟨493,33,493,41⟩)] ⟨493,22,493,41⟩), (.int 0 ⟨493,43,493,44⟩)] 0 ⟨493,12,493,45⟩), (.non ⟨493,47,493,51⟩)] 0 ⟨493,11,493,52⟩) ⟨493,4,493,52⟩]
noncomputable def b593_1 : List Sm := [
      .setS (.sub (.var 93 ⟨505,12,505,18⟩) (.minus 1 ⟨505,20,505,21⟩ ⟨505,19,505,21⟩) ⟨505,12,505,22⟩) (.var 5 ⟨505,23,505,27⟩) ⟨505,12,505,28⟩ (.ite (.cmp (.sub (.var 89 ⟨505,52,505,56⟩) (.int 0 ⟨505,57,505,58⟩) ⟨505,52,505,59⟩) .Eq (.str 3 ⟨505,63,505,68⟩) ⟨505,52,505,68⟩) (.tup [(.str 0 ⟨505,32,505,37⟩), (.bool false ⟨505,39,505,44⟩), (.int 0 ⟨505,46,505,47⟩)] 0 ⟨505,31,505,48⟩) (.tup [(.sub (.var 89 ⟨505,75,505,79⟩) (.int 0 ⟨505,80,505,81⟩) ⟨505,75,505,82⟩), (.sub (.var 89 ⟨505,84,505,88⟩) (.int 1 ⟨505,89,505,90⟩) ⟨505,84,505,91⟩), (.int 0 ⟨505,93,505,94⟩)] 0 ⟨505,74,505,95⟩) ⟨505,31,505,95⟩) ⟨505,12,505,95⟩]
noncomputable def b593_2 : List Sm := [
    .asg (.many [(89, ⟨499,8,499,12⟩), (95, ⟨499,14,499,17⟩)] 0 ⟨499,8,499,17⟩) (.call 177 [(.var 84 ⟨499,30,499,36⟩), (.var 93 ⟨499,38,499,44⟩), (.var 94 ⟨499,46,499,51⟩)] ⟨499,20,499,29⟩ ⟨499,20,499,52⟩) ⟨499,8,499,52⟩,
    .ite (.bop .Or [(.cmp (.var 95 ⟨500,11,500,14⟩) .IsNot (.non ⟨500,22,500,26⟩) ⟨500,11,500,26⟩), (.bop .And [(.cmp (.var 89 ⟨500,31,500,35⟩) .NotEq (.tup [(.str 3 ⟨500,40,500,45⟩), (.bool false ⟨500,47,500,52⟩), (.int 0 ⟨500,54,500,55⟩)] 0 ⟨500,39,500,56⟩) ⟨500,31,500,56⟩), (.cmp (.sub (.var 89 ⟨500,61,500,65⟩) (.int 2 ⟨500,66,500,67⟩) ⟨500,61,500,68⟩) .NotEq (.int 1 ⟨500,72,500,73⟩) ⟨500,61,500,73⟩)] ⟨500,31,500,73⟩)] ⟨500,11,500,74⟩) [
      .ret (.tup [(.non ⟨501,20,501,24⟩), (.ite (.cmp (.var 95 ⟨501,39,501,42⟩) .Is (.non ⟨501,46,501,50⟩) ⟨501,39,501,50⟩) (.sub (.var 84 ⟨501,26,501,32⟩) (.int 1 ⟨501,33,501,34⟩) ⟨501,26,501,35⟩) (.var 95 ⟨501,56,501,59⟩) ⟨501,26,501,59⟩)] 0 ⟨501,19,501,60⟩) ⟨501,12,501,60⟩] [] ⟨500,8,501,60⟩,
    .ite (.cmp (.lenset (.var 83 ⟨502,19,502,24⟩) ⟨502,11,502,14⟩ ⟨502,15,502,18⟩ ⟨502,15,502,25⟩ ⟨502,11,502,26⟩) .Lt (.bcall 187 [(.var 83 ⟨502,33,502,38⟩)] ⟨502,29,502,32⟩ ⟨502,29,502,39⟩) ⟨502,11,502,39⟩) [
      .ret (.tup [(.non ⟨503,20,503,24⟩), (.var 67 ⟨503,26,503,30⟩)] 0 ⟨503,19,503,31⟩) ⟨503,12,503,31⟩] [] ⟨502,8,503,31⟩,
    .for_ (.one 5 ⟨504,12,504,16⟩) (.ex (.var 83 ⟨504,20,504,25⟩)) b593_1 ⟨504,8,505,95⟩]
noncomputable def b593 : List Sm := [
  .asg (.many [(85, ⟨495,4,495,6⟩), (67, ⟨495,8,495,12⟩), (86, ⟨495,14,495,18⟩), (87, ⟨495,20,495,24⟩), (88, ⟨495,26,495,31⟩), (98, ⟨495,33,495,37⟩)] 0 ⟨495,4,495,37⟩) (.var 92 ⟨495,40,495,44⟩) ⟨495,4,495,44⟩,
  .ite (.bop .And [(.cmp (.var 85 ⟨496,7,496,9⟩) .Eq (.str 13 ⟨496,13,496,18⟩) ⟨496,7,496,18⟩), (.cmp (.var 86 ⟨496,23,496,27⟩) .NotIn (.call 169 [] ⟨496,35,496,45⟩ ⟨496,35,496,47⟩) ⟨496,23,496,47⟩)] ⟨496,7,496,47⟩) [
    .ret (.tup [(.non ⟨497,16,497,20⟩), (.var 67 ⟨497,22,497,26⟩)] 0 ⟨497,15,497,27⟩) ⟨497,8,497,27⟩] [] ⟨496,4,497,27⟩,
  .for_ (.many [(83, ⟨498,8,498,13⟩), (84, ⟨498,15,498,21⟩)] 0 ⟨498,8,498,21⟩) (.ex (.var 87 ⟨498,25,498,29⟩)) b593_2 ⟨498,4,505,95⟩,
  .ite (.cmp (.var 88 ⟨506,7,506,12⟩) .IsNot (.non ⟨506,20,506,24⟩) ⟨506,7,506,24⟩) [
    .asg (.many [(89, ⟨507,8,507,12⟩), (95, ⟨507,14,507,17⟩)] 0 ⟨507,8,507,17⟩) (.call 177 [(.var 88 ⟨507,30,507,35⟩), (.var 93 ⟨507,37,507,43⟩), (.var 94 ⟨507,45,507,50⟩)] ⟨507,20,507,29⟩ ⟨507,20,507,51⟩) ⟨507,8,507,51⟩,
    .ite (.bop .Or [(.cmp (.var 95 ⟨508,11,508,14⟩) .IsNot (.non ⟨508,22,508,26⟩) ⟨508,11,508,26⟩), (.neg (.call 176 [(.var 89 ⟨508,43,508,47⟩), (.str 1 ⟨508,49,508,55⟩), (.bool false ⟨508,57,508,62⟩), (.int 0 ⟨508,64,508,65⟩)] ⟨508,34,508,42⟩ ⟨508,34,508,66⟩) ⟨508,30,508,66⟩)] ⟨508,11,508,66⟩) [
      .ret (.tup [(.non ⟨509,20,509,24⟩), (.ite (.cmp (.var 95 ⟨509,38,509,41⟩) .Is (.non ⟨509,45,509,49⟩) ⟨509,38,509,49⟩) (.sub (.var 88 ⟨509,26,509,31⟩) (.int 1 ⟨509,32,509,33⟩) ⟨509,26,509,34⟩) (.var 95 ⟨509,55,509,58⟩) ⟨509,26,509,58⟩)] 0 ⟨509,19,509,59⟩) ⟨509,12,509,59⟩] [] ⟨508,8,509,59⟩] [] ⟨506,4,509,59⟩,
  .asg (.many [(89, ⟨510,4,510,8⟩), (95, ⟨510,10,510,13⟩)] 0 ⟨510,4,510,13⟩) (.call 177 [(.var 98 ⟨510,26,510,30⟩), (.var 93 ⟨510,32,510,38⟩), (.var 94 ⟨510,40,510,45⟩)] ⟨510,16,510,25⟩ ⟨510,16,510,46⟩) ⟨510,4,510,46⟩,
  .ite (.bop .Or [(.cmp (.var 95 ⟨511,7,511,10⟩) .IsNot (.non ⟨511,18,511,22⟩) ⟨511,7,511,22⟩), (.cmp (.sub (.var 89 ⟨511,26,511,30⟩) (.int 2 ⟨511,31,511,32⟩) ⟨511,26,511,33⟩) .NotEq (.int 0 ⟨511,37,511,38⟩) ⟨511,26,511,38⟩)] ⟨511,7,511,38⟩) [
    .ret (.tup [(.non ⟨512,16,512,20⟩), (.ite (.cmp (.var 95 ⟨512,30,512,33⟩) .Is (.non ⟨512,37,512,41⟩) ⟨512,30,512,41⟩) (.var 67 ⟨512,22,512,26⟩) (.var 95 ⟨512,47,512,50⟩) ⟨512,22,512,50⟩)] 0 ⟨512,15,512,51⟩) ⟨512,8,512,51⟩] [] ⟨511,4,512,51⟩,
  .ite (.cmp (.var 85 ⟨513,7,513,9⟩) .Eq (.str 14 ⟨513,13,513,19⟩) ⟨513,7,513,19⟩) [
    .ite (.cmp (.var 86 ⟨514,11,514,15⟩) .Eq (.str 10 ⟨514,19,514,26⟩) ⟨514,11,514,26⟩) [
      .ret (.tup [(.tup [(.sub (.var 89 ⟨515,21,515,25⟩) (.int 0 ⟨515,26,515,27⟩) ⟨515,21,515,28⟩), (.sub (.var 89 ⟨515,30,515,34⟩) (.int 1 ⟨515,35,515,36⟩) ⟨515,30,515,37⟩), (.int 1 ⟨515,39,515,40⟩)] 0 ⟨515,20,515,41⟩), (.non ⟨515,43,515,47⟩)] 0 ⟨515,19,515,48⟩) ⟨515,12,515,48⟩] [] ⟨514,8,515,48⟩,
    .ret (.ite (.call 176 [(.var 89 ⟨516,53,516,57⟩), (.str 0 ⟨516,59,516,64⟩), (.bool false ⟨516,66,516,71⟩), (.int 0 ⟨516,73,516,74⟩)] ⟨516,44,516,52⟩ ⟨516,44,516,75⟩) (.tup [(.tup [(.str 3 ⟨516,17,516,22⟩), (.bool false ⟨516,24,516,29⟩), (.int 0 ⟨516,31,516,32⟩)] 0 ⟨516,16,516,33⟩), (.non ⟨516,35,516,39⟩)] 0 ⟨516,15,516,40⟩) (.tup [(.non ⟨516,82,516,86⟩), (.var 67 ⟨516,88,516,92⟩)] 0 ⟨516,81,516,93⟩) ⟨516,15,516,93⟩) ⟨516,8,516,93⟩] [] ⟨513,4,516,93⟩,
  .ite (.cmp (.var 86 ⟨517,7,517,11⟩) .Eq (.str 21 ⟨517,15,517,18⟩) ⟨517,7,517,18⟩) [
    .setS (.sub (.var 94 ⟨518,8,518,13⟩) (.int 1 ⟨518,14,518,15⟩) ⟨518,8,518,16⟩) (.str 21 ⟨518,17,518,20⟩) ⟨518,8,518,21⟩ (.bool true ⟨518,24,518,28⟩) ⟨518,8,518,28⟩] [] ⟨517,4,518,28⟩,
  .ite (.neg (.call 176 [(.var 89 ⟨519,20,519,24⟩), (.sub (.sub (.call 169 [] ⟨519,26,519,36⟩ ⟨519,26,519,38⟩) (.var 86 ⟨519,39,519,43⟩) ⟨519,26,519,44⟩) (.int 0 ⟨519,45,519,46⟩) ⟨519,26,519,47⟩), (.bool true ⟨519,49,519,53⟩), (.int 0 ⟨519,55,519,56⟩)] ⟨519,11,519,19⟩ ⟨519,11,519,57⟩) ⟨519,7,519,57⟩) [
    .ret (.tup [(.non ⟨520,16,520,20⟩), (.var 67 ⟨520,22,520,26⟩)] 0 ⟨520,15,520,27⟩) ⟨520,8,520,27⟩] [] ⟨519,4,520,27⟩,
  .ret (.tup [(.tup [(.sub (.sub (.call 169 [] ⟨521,13,521,23⟩ ⟨521,13,521,25⟩) (.var 86 ⟨521,26,521,30⟩) ⟨521,13,521,31⟩) (.int 1 ⟨521,32,521,33⟩) ⟨521,13,521,34⟩), (.bop .Or [(.sub (.var 89 ⟨521,36,521,40⟩) (.int 1 ⟨521,41,521,42⟩) ⟨521,36,521,43⟩), (.cmp (.var 86 ⟨521,47,521,51⟩) .Eq (.str 21 ⟨521,55,521,58⟩) ⟨521,47,521,58⟩)] ⟨521,36,521,58⟩), (.int 0 ⟨521,60,521,61⟩)] 0 ⟨521,12,521,62⟩), (.non ⟨521,64,521,68⟩)] 0 ⟨521,11,521,69⟩) ⟨521,4,521,69⟩]
noncomputable def b600_1 : List Sm := [
    .ret (.tup [(.mcall (.var 99 ⟨524,16,524,21⟩) 133 [(.var 85 ⟨524,32,524,34⟩), (.var 92 ⟨524,36,524,40⟩)] ⟨524,16,524,31⟩ ⟨524,16,524,41⟩), (.non ⟨524,43,524,47⟩)] 0 ⟨524,15,524,48⟩) ⟨524,8,524,48⟩]
noncomputable def b600 : List Sm := [
  .heard b600_1 ⟨525,11,525,20⟩ ⟨526,8,526,33⟩ ⟨526,15,526,33⟩ ⟨526,16,526,20⟩ ⟨526,22,526,32⟩ ⟨526,22,526,27⟩ ⟨525,4,526,33⟩ ⟨523,4,526,33⟩]
noncomputable def b607_1 : List Sm := [
    .expr (.mcall (.attr (.var 99 ⟨534,8,534,13⟩) 83 ⟨534,8,534,19⟩) 125 [(.var 5 ⟨534,24,534,28⟩), (.sub (.glob 168 ⟨534,30,534,40⟩) (.var 5 ⟨534,41,534,45⟩) ⟨534,30,534,46⟩), (.int 0 ⟨534,48,534,49⟩)] ⟨534,8,534,23⟩ ⟨534,8,534,50⟩) ⟨534,8,534,50⟩]
noncomputable def b607_2 : List Sm := [
    .ite (.bop .Or [(.cmp (.call 181 [(.var 99 ⟨538,22,538,27⟩), (.var 85 ⟨538,29,538,31⟩), (.var 92 ⟨538,33,538,37⟩)] ⟨538,11,538,21⟩ ⟨538,11,538,38⟩) .NotEq (.var 101 ⟨538,42,538,45⟩) ⟨538,11,538,45⟩), (.neW (.attr (.attr (.var 99 ⟨538,49,538,54⟩) 83 ⟨538,49,538,60⟩) 93 ⟨538,49,538,67⟩) 168 ⟨538,72,538,82⟩ ⟨538,71,538,83⟩ ⟨538,49,538,83⟩)] ⟨538,11,538,83⟩) [
      .ret (.bool false ⟨539,19,539,24⟩) ⟨539,12,539,24⟩] [] ⟨538,8,539,24⟩,
    .ite (.bop .Or [(.cmp (.attr (.attr (.var 99 ⟨540,11,540,16⟩) 83 ⟨540,11,540,22⟩) 104 ⟨540,11,540,28⟩) .NotEq (.sub (.var 94 ⟨540,32,540,37⟩) (.int 0 ⟨540,38,540,39⟩) ⟨540,32,540,40⟩) ⟨540,11,540,40⟩), (.cmp (.attr (.var 99 ⟨540,44,540,49⟩) 109 ⟨540,44,540,56⟩) .NotEq (.sub (.var 94 ⟨540,60,540,65⟩) (.int 1 ⟨540,66,540,67⟩) ⟨540,60,540,68⟩) ⟨540,44,540,68⟩)] ⟨540,11,540,68⟩) [
      .ret (.bool false ⟨541,19,541,24⟩) ⟨541,12,541,24⟩] [] ⟨540,8,541,24⟩]
noncomputable def b607 : List Sm := [
  .asg (.one 71 ⟨528,4,528,8⟩) (.dct [(65, ⟨528,12,528,19⟩), (66, ⟨528,40,528,47⟩), (67, ⟨528,52,528,58⟩)] [(.bcall 184 [(.cut (.var 102 ⟨528,26,528,32⟩) (.int 50 ⟨528,34,528,36⟩) ⟨528,33,528,36⟩ ⟨528,26,528,37⟩)] ⟨528,21,528,25⟩ ⟨528,21,528,38⟩), (.int 0 ⟨528,49,528,50⟩), (.int 0 ⟨528,60,528,61⟩)] ⟨528,11,528,62⟩) ⟨528,4,528,62⟩,
  .asg (.one 85 ⟨529,4,529,6⟩) (.sub (.tup [(.str 13 ⟨529,10,529,15⟩), (.str 14 ⟨529,17,529,23⟩)] 0 ⟨529,9,529,24⟩) (.call 170 [(.var 71 ⟨529,34,529,38⟩), (.int 2 ⟨529,40,529,41⟩)] ⟨529,25,529,33⟩ ⟨529,25,529,42⟩) ⟨529,9,529,43⟩) ⟨529,4,529,43⟩,
  .asg (.many [(92, ⟨530,4,530,8⟩), (94, ⟨530,10,530,15⟩)] 0 ⟨530,4,530,15⟩) (.tup [(.call 175 [(.var 71 ⟨530,29,530,33⟩), (.int 2 ⟨530,35,530,36⟩), (.var 85 ⟨530,38,530,40⟩)] ⟨530,19,530,28⟩ ⟨530,19,530,41⟩), (.lst [(.dct [] [] ⟨530,44,530,46⟩), (.dct [] [] ⟨530,48,530,50⟩)] ⟨530,43,530,51⟩)] 0 ⟨530,18,530,52⟩) ⟨530,4,530,52⟩,
  .asg (.one 101 ⟨531,4,531,7⟩) (.call 177 [(.var 92 ⟨531,20,531,24⟩), (.lst [(.bcall 185 [(.glob 168 ⟨531,32,531,42⟩)] ⟨531,27,531,31⟩ ⟨531,27,531,43⟩)] ⟨531,26,531,44⟩), (.var 94 ⟨531,46,531,51⟩)] ⟨531,10,531,19⟩ ⟨531,10,531,52⟩) ⟨531,4,531,52⟩,
  .asg (.one 99 ⟨532,4,532,9⟩) (.call 167 [] ⟨532,12,532,17⟩ ⟨532,12,532,19⟩) ⟨532,4,532,19⟩,
  .for_ (.one 5 ⟨533,8,533,12⟩) (.ex (.bcall 186 [(.glob 168 ⟨533,23,533,33⟩)] ⟨533,16,533,22⟩ ⟨533,16,533,34⟩)) b607_1 ⟨533,4,534,50⟩,
  .expr (.mcall (.var 99 ⟨535,4,535,9⟩) 146 [(.tup [(.str 68 ⟨535,26,535,37⟩), (.int 0 ⟨535,39,535,40⟩), (.str 21 ⟨535,42,535,45⟩), (.tup [(.tup [(.tup [(.str 0 ⟨535,50,535,55⟩), (.bool true ⟨535,57,535,61⟩), (.tup [(.tup [(.str 70 ⟨535,65,535,74⟩), (.int 0 ⟨535,76,535,77⟩)] 0 ⟨535,64,535,78⟩)] 0 ⟨535,63,535,80⟩), (.non ⟨535,82,535,86⟩)] 0 ⟨535,49,535,87⟩), (.str 69 ⟨535,89,535,92⟩)] 0 ⟨535,48,535,93⟩)] 0 ⟨535,47,535,95⟩), (.tup [(.str 1 ⟨535,98,535,104⟩), (.int 0 ⟨535,106,535,107⟩), (.bool true ⟨535,109,535,113⟩)] 0 ⟨535,97,535,114⟩)] 0 ⟨535,25,535,115⟩)] ⟨535,4,535,24⟩ ⟨535,4,535,116⟩) ⟨535,4,535,116⟩,
  .expr (.mcall (.var 99 ⟨536,4,536,9⟩) 146 [(.tup [(.str 68 ⟨536,26,536,37⟩), (.int 0 ⟨536,39,536,40⟩), (.str 22 ⟨536,42,536,45⟩), (.tup [(.tup [(.tup [(.str 0 ⟨536,50,536,55⟩), (.bool true ⟨536,57,536,61⟩), (.tup [] 0 ⟨536,63,536,65⟩), (.non ⟨536,67,536,71⟩)] 0 ⟨536,49,536,72⟩), (.str 69 ⟨536,74,536,77⟩)] 0 ⟨536,48,536,78⟩)] 0 ⟨536,47,536,80⟩), (.tup [(.str 1 ⟨536,83,536,89⟩), (.int 0 ⟨536,91,536,92⟩), (.bool true ⟨536,94,536,98⟩)] 0 ⟨536,82,536,99⟩)] 0 ⟨536,25,536,100⟩)] ⟨536,4,536,24⟩ ⟨536,4,536,101⟩) ⟨536,4,536,101⟩,
  .for_ (.one 82 ⟨537,8,537,11⟩) (.rng [(.int 2 ⟨537,21,537,22⟩)] ⟨537,15,537,20⟩ ⟨537,15,537,23⟩) b607_2 ⟨537,4,541,24⟩,
  .ret (.bool true ⟨542,11,542,15⟩) ⟨542,4,542,15⟩]
noncomputable def gvT : List (Nat × PV) := [(148, .tup [.tag 0, .bool true, .int 0]),
  (149, .tup [.tag 1, .bool true, .int 0]),
  (150, .tup [.tag 0, .bool true, .int 1]),
  (151, .tup [.tag 1, .bool true, .int 1]),
  (152, .tup [.tag 0, .bool false, .int 0]),
  (153, .tup [.tag 0, .bool false, .int 1]),
  (154, .tup [.tag 0, .bool false, .int 2]),
  (155, .tup [.tag 3, .bool false, .int 0]),
  (156, .tup [.tag 2, .bool false, .int 0]),
  (157, .tup [.tag 2, .bool false, .int 1]),
  (158, .tup [.tag 3, .bool false, .int 1]),
  (159, .tup [.tag 1, .bool false, .int 1]),
  (161, .tup [.tag 20, .tag 19, .tag 218, .tag 219, .tag 220, .tag 221, .tag 222, .tag 223, .tag 76, .tag 77, .tag 267, .tag 268, .tag 269, .tag 270]),
  (160, .cd 103),
  (168, .cd 499)]
noncomputable def callsT : List (Nat × PV) := [(24, .tup [.tup [.tup [.tag 0, .bool true, .int 0]], .tag 0]),
  (232, .tup [.tup [.tup [.tag 1, .bool true, .int 0]], .tag 0]),
  (233, .tup [.tup [.tup [.tag 0, .bool true, .int 0], .tup [.tag 0, .bool false, .int 0]], .tag 0]),
  (17, .tup [.tup [.tup [.tag 0, .bool true, .int 1]], .tag 0]),
  (234, .tup [.tup [.tup [.tag 0, .bool true, .int 1]], .tag 0]),
  (18, .tup [.tup [.tup [.tag 1, .bool true, .int 1]], .tag 1]),
  (235, .tup [.tup [.tup [.tag 1, .bool true, .int 1]], .tag 1]),
  (236, .tup [.tup [.tup [.tag 0, .bool true, .int 1], .tup [.tag 0, .bool true, .int 0]], .tag 0]),
  (237, .tup [.tup [.tup [.tag 3, .bool false, .int 0]], .tag 0]),
  (238, .tup [.tup [.tup [.tag 3, .bool false, .int 1]], .tag 3]),
  (239, .tup [.tup [.tup [.tag 3, .bool false, .int 1]], .tag 3]),
  (240, .tup [.tup [.tup [.tag 1, .bool false, .int 1]], .tag 1]),
  (241, .tup [.tup [.tup [.tag 1, .bool false, .int 1]], .tag 1]),
  (242, .tup [.tup [.tup [.tag 2, .bool false, .int 1]], .tag 2]),
  (243, .tup [.tup [.tup [.tag 2, .bool false, .int 0], .tup [.tag 2, .bool false, .int 1]], .tag 2]),
  (23, .tup [.tup [.tup [.tag 0, .bool true, .int 1]], .tag 1]),
  (244, .tup [.tup [.tup [.tag 0, .bool true, .int 1]], .tag 1]),
  (245, .tup [.tup [.tup [.tag 0, .bool true, .int 1]], .tag 1]),
  (246, .tup [.tup [.tup [.tag 0, .bool true, .int 1]], .tag 1]),
  (247, .tup [.tup [.tup [.tag 0, .bool true, .int 1]], .tag 1]),
  (248, .tup [.tup [.tup [.tag 0, .bool true, .int 1], .tup [.tag 0, .bool true, .int 1]], .tag 1]),
  (249, .tup [.tup [.tup [.tag 0, .bool true, .int 1], .tup [.tag 0, .bool true, .int 1]], .tag 1]),
  (250, .tup [.tup [.tup [.tag 0, .bool true, .int 1], .tup [.tag 0, .bool true, .int 1]], .tag 1]),
  (251, .tup [.tup [.tup [.tag 0, .bool true, .int 1], .tup [.tag 0, .bool true, .int 1]], .tag 1]),
  (252, .tup [.tup [.tup [.tag 0, .bool true, .int 1], .tup [.tag 0, .bool true, .int 1]], .tag 1]),
  (253, .tup [.tup [.tup [.tag 0, .bool true, .int 0], .tup [.tag 0, .bool true, .int 1], .tup [.tag 0, .bool true, .int 0]], .tag 1]),
  (254, .tup [.tup [.tup [.tag 0, .bool true, .int 1], .tup [.tag 0, .bool false, .int 2]], .tag 1]),
  (255, .tup [.tup [.tup [.tag 0, .bool true, .int 1], .tup [.tag 0, .bool false, .int 1], .tup [.tag 0, .bool false, .int 1], .tup [.tag 0, .bool false, .int 0]], .tag 1]),
  (256, .tup [.tup [.tup [.tag 0, .bool true, .int 1], .tup [.tag 0, .bool false, .int 1]], .tag 1]),
  (257, .tup [.tup [.tup [.tag 0, .bool true, .int 1], .tup [.tag 0, .bool false, .int 0], .tup [.tag 0, .bool false, .int 0], .tup [.tag 0, .bool false, .int 2], .tup [.tag 0, .bool false, .int 0], .tup [.tag 3, .bool false, .int 0]], .tag 1]),
  (258, .tup [.tup [.tup [.tag 0, .bool false, .int 0], .tup [.tag 0, .bool false, .int 0], .tup [.tag 0, .bool true, .int 1]], .tag 1]),
  (259, .tup [.tup [.tup [.tag 0, .bool true, .int 1], .tup [.tag 0, .bool false, .int 1], .tup [.tag 0, .bool true, .int 1]], .tag 1]),
  (260, .tup [.tup [.tup [.tag 0, .bool true, .int 1], .tup [.tag 0, .bool false, .int 1], .tup [.tag 0, .bool false, .int 1], .tup [.tag 0, .bool false, .int 1]], .tag 1]),
  (261, .tup [.tup [.tup [.tag 0, .bool true, .int 0], .tup [.tag 0, .bool true, .int 1]], .tag 1]),
  (262, .tup [.tup [.tup [.tag 0, .bool false, .int 0], .tup [.tag 0, .bool true, .int 1], .tup [.tag 0, .bool false, .int 0]], .tag 1]),
  (263, .tup [.tup [.tup [.tag 0, .bool false, .int 0], .tup [.tag 0, .bool true, .int 1], .tup [.tag 0, .bool false, .int 0]], .tag 1]),
  (264, .tup [.tup [.tup [.tag 0, .bool false, .int 0], .tup [.tag 0, .bool true, .int 1], .tup [.tag 0, .bool false, .int 0]], .tag 1]),
  (265, .tup [.tup [.tup [.tag 0, .bool true, .int 0], .tup [.tag 0, .bool true, .int 1]], .tag 1]),
  (266, .tup [.tup [.tup [.tag 0, .bool true, .int 0], .tup [.tag 0, .bool true, .int 1]], .tag 1])]
noncomputable def worldT : List (Nat × PV) := [(25, .tup [.tag 0, .bool false, .int 0]),
  (26, .tup [.tag 0, .bool true, .int 0]),
  (27, .tup [.tag 1, .bool false, .int 0]),
  (28, .tup [.tag 1, .bool true, .int 0]),
  (29, .tup [.tag 3, .bool false, .int 0]),
  (30, .tup [.tag 0, .bool false, .int 1]),
  (31, .tup [.tag 0, .bool true, .int 1]),
  (32, .tup [.tag 1, .bool true, .int 1]),
  (33, .tup [.tag 0, .bool false, .int 2]),
  (34, .tup [.tag 2, .bool false, .int 0])]
noncomputable def fnT : List (Nat × Addr) := [(162, 191), (163, 198), (164, 205), (165, 212), (166, 257), (167, 494), (169, 516), (170, 523), (171, 530), (172, 537), (173, 544), (174, 551), (175, 558), (176, 565), (177, 572), (178, 579), (179, 586), (180, 593), (181, 600)]
noncomputable def namesT : List (Nat × Addr) := [(123, 233), (124, 240), (125, 247), (126, 254)]
noncomputable def kindsT : List (Nat × Addr) := [(89, 287), (130, 301), (136, 308), (138, 322), (131, 336), (132, 350), (133, 357), (139, 364), (84, 371), (140, 378), (9, 397), (141, 404), (142, 411), (144, 425), (145, 451), (146, 456)]
noncomputable def dfT : List (Addr × (List Nat × List Sm)) := [(191, ([89], b191)),
  (198, ([89, 111], b198)),
  (205, ([89, 111, 67, 86], b205)),
  (212, ([80, 96, 67, 86], b212)),
  (226, ([103], b226)),
  (233, ([103], b233)),
  (240, ([103], b240)),
  (247, ([103, 5, 89, 67], b247)),
  (254, ([103, 5, 67], b254)),
  (275, ([103], b275)),
  (287, ([103, 92], b287)),
  (301, ([103, 92], b301)),
  (308, ([103, 78, 80, 96, 67], b308)),
  (322, ([103, 78, 80, 96, 67], b322)),
  (336, ([103, 89, 114, 67], b336)),
  (350, ([103, 85, 92], b350)),
  (357, ([103, 85, 92], b357)),
  (364, ([103, 5], b364)),
  (371, ([103, 92], b371)),
  (378, ([103, 83, 89, 67], b378)),
  (397, ([103, 5, 110, 67], b397)),
  (404, ([103, 5, 110, 111, 67], b404)),
  (411, ([103, 5, 110, 67], b411)),
  (425, ([103, 5, 110, 67], b425)),
  (451, ([103, 118], b451)),
  (456, ([103, 117], b456)),
  (516, ([], b516)),
  (523, ([71, 72], b523)),
  (530, ([71], b530)),
  (537, ([71, 74], b537)),
  (544, ([71, 75, 74], b544)),
  (551, ([71], b551)),
  (558, ([71, 75, 85], b558)),
  (565, ([89, 74, 90, 91], b565)),
  (572, ([92, 93, 94], b572)),
  (579, ([78, 80, 96, 67], b579)),
  (586, ([92, 93, 94], b586)),
  (593, ([92, 93, 94], b593)),
  (600, ([99, 85, 92], b600)),
  (607, ([102], b607))]
noncomputable abbrev PW : Program := PySem.Challenge.pw_pc0059_02
noncomputable def needA : List Addr := [3, 2, 494, 257, 493, 256, 88, 76, 47, 87, 75, 46, 93, 95, 91, 96, 94, 97, 98, 100, 101, 102, 92, 99, 184, 105, 104, 107, 106, 109, 108, 111, 110, 113, 112, 115, 114, 117, 116, 119, 118, 121, 120, 123, 122, 125, 124, 127, 126, 129, 128, 131, 130, 133, 132, 135, 134, 137, 136, 140, 139, 142, 141, 144, 143, 146, 145, 148, 147, 150, 149, 152, 151, 154, 153, 156, 155, 158, 157, 160, 159, 162, 161, 164, 163, 166, 165, 168, 167, 170, 169, 172, 171, 175, 174, 177, 176, 179, 178, 181, 180, 183, 182, 500, 501, 502, 503, 504, 505, 506, 507, 508, 509, 103, 499, 25, 54, 37, 66, 36, 65, 191, 190, 198, 197, 205, 204, 212, 211, 226, 225, 233, 232, 240, 239, 247, 246, 254, 253, 275, 274, 287, 286, 301, 300, 308, 307, 322, 321, 336, 335, 350, 349, 357, 356, 364, 363, 371, 370, 378, 377, 397, 396, 404, 403, 411, 410, 425, 424, 451, 450, 456, 455, 516, 515, 523, 522, 530, 529, 537, 536, 544, 543, 551, 550, 558, 557, 565, 564, 572, 571, 579, 578, 586, 585, 593, 592, 600, 599, 607, 606]
noncomputable def Zkg (h : Heap) : Frag := needA.map fun a => (a, (h.get? a).getD default)
noncomputable def there (h : Heap) : Bool := needA.all fun a => (h.get? a).isSome
noncomputable def seqOf : Option Obj → Option (String × List Value)
  | some ⟨.type c, _, .seq items _, _⟩ => some (c, items.toList)
  | _ => none
noncomputable def Zsj {α : Type} : List (Option α) → Option (List α)
  | [] => some []
  | none :: _ => none
  | some x :: r => (Zsj r).map (x :: ·)
noncomputable def erR (f : Value → Option PyData) (a : Addr) (x : Option Obj) : Option PyData := match seqOf x with
  | some (c, l) => (Zsj (l.map f)).map fun ds => .tuple (.bool (c == "tuple") :: ds)
  | none => some (.list [.int (Int.ofNat a)])
noncomputable def er (K : Frag) : Nat → Value → Option PyData
  | 0, _ => none
  | n + 1, v => match v with
    | .none => some .none
    | .bool b => some (.bool b)
    | .int i _ => some (.int i)
    | .str s _ => some (.str s)
    | .ref a => erR (er K n) a (K.lookup a)
    | _ => none
mutual
noncomputable def toE : PV → PyData
  | .none => .none
  | .bool b => .bool b
  | .int i => .int i
  | .tag n => .str (tg n)
  | .tup vs => .tuple (.bool true :: toEs vs)
  | .cd a => .list [.int (Int.ofNat a)]
  | .obj _ => .list []
  | .msg _ => .list []
noncomputable def toEs : List PV → List PyData
  | [] => []
  | v :: r => toE v :: toEs r
end
noncomputable def keyS : Value → Option Str
  | .str s _ => some s
  | _ => none
noncomputable def dictD : Data → Option (List DictEntry)
  | .dict arr _ => some arr.toList
  | _ => none
noncomputable def fieldsD : Data → Option (Array Value)
  | .fields vs => some vs
  | _ => none
noncomputable def funD : Data → Option FuncData
  | .func fd => some fd
  | _ => none
noncomputable def clsD : Data → Option ClassData
  | .cls cd => some cd
  | _ => none
noncomputable def refV : Value → Option Addr
  | .ref a => some a
  | _ => none
noncomputable def Zer (n : Nat) (v : Nat → Value) : List Value := (List.range n).map v
structure Fs where
  p : Arguments
  b : FuncBody
  s : Scope
  g : Addr
  c : List (Str × Addr)
  d : Value
  k : Value
  u : Addr
  q : Option (Bool × Option Str)
noncomputable def Zvo (K : Frag) (v : Value) : Option (Option Str × Option Str) := (refV v).bind fun c => (K.lookup c).bind fun o => (fieldsD o.data).map fun vs => ((vs[1]? : Option Value).bind keyS, (vs[2]? : Option Value).bind keyS)
noncomputable def fsOf (K : Frag) (fd : FuncData) : Fs := ⟨fd.params, fd.body, fd.scope, fd.globals, fd.closure, fd.defaults, fd.kwdefaults, fd.builtins, (Zvo K fd.code).map fun x => (x.1.any (· == fd.qualname), x.2)⟩
noncomputable def Zex (K : Frag) (a : Addr) : Option Fs := (K.lookup a).bind fun o => (funD o.data).map (fsOf K)
noncomputable def entE (K : Frag) (e : DictEntry) : Int × Option Str × Option PyData := (e.hash, keyS e.key, er K 40 e.val)
noncomputable def Zsg (K : Frag) (a : Addr) : Option (Value × Option Addr × Option (List (Int × Option Str × Option PyData)) × Array (Option Value)) := (K.lookup a).map fun o => (o.cls, o.dict, (dictD o.data).map (·.map (entE K)), o.slots)
noncomputable def Zsh (P : Params) (T : List (Nat × PV)) : Option (Value × Option Addr × Option (List (Int × Option Str × Option PyData)) × Array (Option Value)) := some (.type "dict", none, some (T.map fun x => (PyData.keyHash P (tg x.1), some (tg x.1), some (toE x.2))), #[])
structure Cs where
  p : Bool
  m : List (Option (Option Value) × Option Value × Bool)
  a : List (Option Bool × Option (Option Value))
  d : Bool
  s : Option (Option Value)
  o : Bool
  k : Bool
  i : Option (Option Value)
  t : Option Value
noncomputable def Zha (K : Frag) (c b : Addr) (T : List (Nat × Addr)) (A : List Nat) : Cs := ⟨plainGet K c "", T.map fun x => (findIn K (.ref c) (tg x.1), typeIn K (.ref x.2), keepIn K (.ref x.2)), A.map fun t => ((findIn K (.ref c) (tg t)).map (noGet K), takerIn K c (tg t)), hasDictIn K c, findIn K (.ref c) "__setattr__", plainOver K c, makesIn K c, findIn K (.ref c) "__init__", typeIn K (.ref b)⟩
noncomputable def Zhb (b : Addr) (T : List (Nat × Addr)) (A : List Nat) : Cs := ⟨true, T.map fun x => (some (some (.ref x.2)), some (.type "function"), true), A.map fun _ => (some true, some none), true, some (some (.builtin "object.__setattr__")), true, true, some (some (.ref b)), some (.type "function")⟩
noncomputable def btNs : List Nat := [187, 0, 184, 188, 185, 186, 3, 12, 189, 190]
noncomputable def at1 : List Nat := [93, 104]
noncomputable def at2 : List Nat := [83, 105, 106, 107, 108, 109]
noncomputable def fdOf : Option Stmt → Option (Arguments × List Stmt × Scope)
  | some (.FunctionDef _ a b _ _ _ s _ _ _) => some (a, b, s)
  | _ => none
noncomputable def bodyOf : Option Stmt → List Stmt
  | some (.ClassDef _ _ _ b _ _ _ _ _ _ _) => b
  | _ => []
noncomputable def Zdg (x : Nat × Nat) : Option (Arguments × List Stmt × Scope) := match x.2 with
  | 0 => fdOf PW.main.body[x.1]?
  | j + 1 => fdOf (bodyOf PW.main.body[x.1]?)[j]?
noncomputable def dfA : List (Nat × Nat) := [(20, 0), (21, 0), (22, 0), (23, 0), (24, 1), (24, 2), (24, 3), (24, 4), (24, 5), (25, 1), (25, 3), (25, 5), (25, 6), (25, 8), (25, 10), (25, 12), (25, 13), (25, 14), (25, 15), (25, 16), (25, 19), (25, 20), (25, 21), (25, 23), (25, 27), (25, 28), (28, 0), (29, 0), (30, 0), (31, 0), (32, 0), (33, 0), (34, 0), (35, 0), (36, 0), (37, 0), (38, 0), (39, 0), (40, 0), (41, 0)]
noncomputable def dfX : List ((Addr × (List Nat × List Sm)) × (Nat × Nat)) := dfT.zip dfA
noncomputable def Zem (c : List (Str × Addr)) (x : Nat × Nat) : Option Fs := (Zdg x).map fun d => ⟨d.1, .stmts d.2.1, d.2.2, mainGlobals, c, .none, .none, builtinsNs, some (true, some PW.main.file)⟩
noncomputable def excL : List Value := [.ref 88, .ref 76, .ref 47, .type "Exception", .type "BaseException", .type "object"]
structure Seen where
  gv : List (Option (Option (Option PyData)))
  fn : List (Option (Option Value) × Bool)
  bt : List (Option (Option Value))
  c1 : Cs
  c2 : Cs
  d1 : Option (Value × Option Addr × Option (List (Int × Option Str × Option PyData)) × Array (Option Value))
  d2 : Option (Value × Option Addr × Option (List (Int × Option Str × Option PyData)) × Array (Option Value))
  df : List (Option Fs)
  x1 : Option Fs
  x2 : Option Fs
  os : List (Option (Option Value))
  bs : List (Option Bool)
  ex : Option (Value × Option (List Value × Bool) × Option Nat × Option (Option Value))
  ce : List (Option Data)
noncomputable def Zfs (K : Frag) : Seen where
  gv := gvT.map fun x => (nsIn K mainGlobals (tg x.1)).map (·.map (er K 40))
  fn := fnT.map fun x => (nsIn K mainGlobals (tg x.1), keepIn K (.ref x.2))
  bt := btNs.map fun f => nsIn K mainGlobals (tg f)
  c1 := Zha K 257 226 namesT at1
  c2 := Zha K 494 275 kindsT at2
  d1 := Zsg K 103
  d2 := Zsg K 499
  df := dfX.map fun x => Zex K x.1.1
  x1 := Zex K 37
  x2 := Zex K 66
  os := [nsIn K mainGlobals (tg 183), nsIn K mainGlobals "super", nsIn K cStatics "thirdparty.any", nsIn K mainGlobals "law", findIn K (.ref 88) "__getattribute__", findIn K (.ref 88) "__getattr__", findIn K (.ref 88) "__init__", findIn K (.ref 88) "__setattr__", takerIn K 88 "what", takerIn K 88 "spot", alongIn K "__init__" [.type "Exception", .type "BaseException", .type "object"], alongIn K "__init__" [.ref 47, .type "Exception", .type "BaseException", .type "object"], some (typeIn K (.ref 37)), some (typeIn K (.ref 66))]
  bs := [exmOne K (.ref 88) (.ref 88), mroIn K 88 (.type "BaseException"), some (hasDictIn K 88), (findIn K (.ref 88) (tg 67)).map (noGet K), some (keepIn K (.ref 88)), mroIn K 88 (.ref 47), mroIn K 88 (.ref 76), some (clsIn K 47).isSome, some (clsIn K 76).isSome]
  ex := (K.lookup 88).map fun o => (o.cls, (clsD o.data).map fun cd => (cd.mro, cd.hasDel), some o.slots.size, o.slots[4]?)
  ce := [(K.lookup 25).map (·.data), (K.lookup 54).map (·.data)]
noncomputable def Zhs (P : Params) : Seen where
  gv := gvT.map fun x => some (some (some (toE x.2)))
  fn := fnT.map fun x => (some (some (.ref x.2)), true)
  bt := btNs.map fun _ => some none
  c1 := Zhb 226 namesT at1
  c2 := Zhb 275 kindsT at2
  d1 := Zsh P callsT
  d2 := Zsh P worldT
  df := dfX.map fun x => Zem [] x.2
  x1 := Zem [(("__class__" : Str), 25)] (2, 1)
  x2 := Zem [(("__class__" : Str), 54)] (3, 1)
  os := [some (some (.ref 88)), some none, some none, some (some (.ref 607)), some (some (.builtin "BaseException.__getattribute__")), some none, some (some (.ref 66)), some (some (.builtin "object.__setattr__")), some none, some none, some (some (.builtin "Exception.__init__")), some (some (.ref 37)), some (some (.type "function")), some (some (.type "function"))]
  bs := [some true, some true, some true, some true, some true, some true, some true, some true, some true]
  ex := some (.type "type", some (excL, false), some 6, some (some (.builtin "Exception.__new__")))
  ce := [some (.cell (some (.ref 47))), some (.cell (some (.ref 76)))]
noncomputable section
noncomputable def keepL : List Nat := [0, 2, 3, 4, 6, 7, 8, 9, 10, 11, 12, 13, 14, 15, 16, 17, 18, 19, 20, 21, 22, 23, 24, 25, 27, 28, 29, 30, 31, 32, 33, 34, 35, 36, 37, 38, 39, 40, 41]
noncomputable def QW : Program := view PW keepL
noncomputable def looseL : List Str := ["CALLS", "_law_world"]
noncomputable def imps : List Str := importedModules PW.main.body
noncomputable def envE : Env := { scope := PW.main.scope, locals := mainNs, globals := mainNs, cells := [], code := .ref 13, frame := some 14 }
noncomputable def p0 : Pos := ⟨0, 0, 0, 0⟩
noncomputable def cE : Code := .body (behindTheImports PW) envE
noncomputable def BB : List Frame := [topFrame p0]
noncomputable def o11 : Obj := { cls := .type "tuple", data := .seq #[] }
noncomputable def o12 : Obj := { cls := .none, data := .fields #[] }
noncomputable def o13 : Obj := { cls := .type "code", data := .fields #[.str "<module>" 182, .str "<module>" 183, .str "/claim/cut.py" 184, .int 1 0, .int 0 0, .int 0 0, .int 0 0, .int 0 0, .ref 11, .bool false, .int 181 0, .ref 12, .none, .none, .none, .none, .int 185 0, .int 1 0, .str "/claim/cut.py" 186] }
noncomputable def o14 : Obj := { cls := .type "frame", slots := #[some (.ref 13), some (.ref 3), some (.ref 3), none, some (.str "__main__" 164), none, some (.ref 0)] }
noncomputable def lf (o : Obj) : BT := .node o .nil .nil
noncomputable def tT (P : Params) : BT := .node (boot_o_0 P)
  (.node (boot_o_1 P) (.node (boot_o_3 P) (lf (boot_o_7 P)) (lf o11)) (.node (boot_o_5 P) (lf (boot_o_9 P)) (lf o13)))
  (.node (boot_o_2 P) (.node (boot_o_4 P) (lf (boot_o_8 P)) (lf o12)) (.node (boot_o_6 P) (lf (boot_o_10 P)) (lf o14)))
noncomputable def sT (w : World) (os : OsState) : SharedT := ⟨tT w.params, 15, {}, #[], {}, 187, os⟩
noncomputable def s0 (w : World) (os : OsState) : Shared := ⟨boot_heap w.params, #[], boot_drawn, boot_toks, os⟩
theorem pre_eq : ∀ (w : World), (fun os => topGo treeTable PW w 11 (some (.ref 6)) 12 (s0 w os) (topStub PW)) = fun os => some ((sT w os).abs, ⟨denote treeTable cE, cE, p0, BB⟩) := by
  intro w
  rw [PySem.W.Fast.te15667345088766844465, PySem.W.Fast.te14364793385576792824, PySem.W.Fast.te11892475500146522536]
  kernel_rfl
theorem block_eq : ∀ (w : World), (fun os => segRun treeTable PW w 11 (some (.ref 6)) 1 1 (sT w os).abs (blockOf (behindTheImports PW) envE cE p0 BB)) = fun os => some (.next, (sT w os).abs, cE, p0) := by
  intro w
  rw [PySem.W.Fast.te14374325043358763698, PySem.W.Fast.te14364793385576792824]
  kernel_rfl
noncomputable def Xt (s : Shared) : Bool := xlAt QW [] s && recOk (RowW.records PySem.Challenge.rw_pc0059_02.row.toRowW) s
noncomputable def LB (P : Params) (s : Shared) : Bool := staticsOk imps (boot_heap P) s.heap && namesBound PW s.heap && gensDone s && laidKept (boot_heap P) s.heap
noncomputable def res (w : World) (os : OsState) : Option (Flow × SharedT × Code × Pos) := segRunT treeTable PW w 11 (some (.ref 6)) 1 4600 (sT w os) (piecesOf (behindTheImports PW) envE cE p0 BB)
noncomputable def Zeq (w : World) (r : Flow × SharedT × Code × Pos) : Option Shared := topRun treeTable PW w 11 (some (.ref 6)) 5 r.2.1.abs ⟨doneF .next, cE, r.2.2.2, BB⟩
noncomputable def GG (w : World) (r : Flow × SharedT × Code × Pos) := (r.1, r.2.2.1, (Zeq w r).map fun s => (LB w.params s, openSeen QW looseL imps Xt true s))
noncomputable def Zfc (w : World) : Prop := (fun os => (res w os).map (GG w)) = fun os => some (.next, cE, some (true, openGood QW looseL))
noncomputable def Znr (s : Shared) : Bool × Seen := (there s.heap, Zfs (Zkg s.heap))
noncomputable def Zns (w : World) : Bool × Seen := (true, Zhs w.params)
noncomputable def GK (w : World) (r : Flow × SharedT × Code × Pos) := (Zeq w r).map Znr
noncomputable def Zfd (w : World) : Prop := (fun os => (res w os).map (GK w)) = fun os => some (some (Zns w))
end
theorem open_e : opening PW = plainProg PW.main.scope.names := by kernel_rfl
theorem Zaay (s : Shared) : fenceModules? PW s = some s := by kernel_rfl
theorem Zyi (w : World) : (fencedOpening treeTable PW w 9172).map (fun s => (s.heap, s.gens, s.drawn, s.toks)) = some (boot_heap w.params, #[], boot_drawn, boot_toks) := boot_open open_e (by decide) Zaay w
theorem Zjj (P : Params) : (boot_heap P).isNs mainGlobals = true ∧ (boot_heap P).objs.size = 11 := ⟨by kernel_rfl, by kernel_rfl⟩
theorem Zuu (P : Params) : (boot_heap P).nsMap mainGlobals "__annotations__" = some (.ref 6) := by kernel_rfl
theorem p_f (w : World) : Zfc (w.withFollow "special-get-raises" false) := by
  unfold Zfc res GG LB imps Zeq
  rw [PySem.W.Fast.te10110043849684766642, PySem.W.Fast.te14364793385576792824, PySem.W.Fast.te14082659384304107361, PySem.W.Fast.te4187177175401517315, PySem.W.Fast.te5923862056798008813]
  kernel_rfl
theorem p_t (w : World) : Zfc (w.withFollow "special-get-raises" true) := by
  unfold Zfc res GG LB imps Zeq
  rw [PySem.W.Fast.te10110043849684766642, PySem.W.Fast.te14364793385576792824, PySem.W.Fast.te14082659384304107361, PySem.W.Fast.te4187177175401517315, PySem.W.Fast.te5923862056798008813]
  kernel_rfl
theorem k_f (w : World) : Zfd (w.withFollow "special-get-raises" false) := by
  unfold Zfd res GK Zeq
  rw [PySem.W.Fast.te10110043849684766642, PySem.W.Fast.te14364793385576792824, PySem.W.Fast.te14082659384304107361]
  kernel_rfl
theorem k_t (w : World) : Zfd (w.withFollow "special-get-raises" true) := by
  unfold Zfd res GK Zeq
  rw [PySem.W.Fast.te10110043849684766642, PySem.W.Fast.te14364793385576792824, PySem.W.Fast.te14082659384304107361]
  kernel_rfl
theorem said_ok : PySem.Challenge.rw_pc0059_02.wellSaid = true := by
  rw [PySem.W.Fast.te9446332074065402090]
  kernel_rfl
theorem p_all : ∀ w : World, Zfc w := byRow2 "special-get-raises" p_f p_t
theorem k_all : ∀ w : World, Zfd w := byRow2 "special-get-raises" k_f k_t
noncomputable def Ziv (C : Cx) (K : Frag) (kf : Addr) : Prop := ∀ (A : Around) (s : Shared) (x : Str) (t u : Tok) (i : Int) (Q E : Value → Shared → Prop), K.In s.heap → C.h₀.StaysIn s.heap → A.depth + 4 < recursionLimit → A.units + 100 < cLine → A.handled = none → x.length ≤ 100000 →
  (∀ h' tk e dx a0 ents n, (∀ b o, s.heap.get? b = some o → h'.get? b = some o) → s.heap.get? e = none → h'.get? e = some ⟨.ref kf, some dx, .fields #[a0, .none, .none, .none, .bool false, .none], #[]⟩ → s.heap.get? dx = none → h'.get? dx = some (dictOf ents n) →
    getL (tg 67) ents = some (some (.int i u)) → Q (.ref e) { s with heap := h', toks := tk }) → wpAny C.M A (call (.ref kf) [.str x t, .int i u]) Q E s
structure Ok (C : Cx) (K : Frag) (G : Pg) (kf : Addr) : Prop where
  inn : K.In C.h₀
  top : ∃ p loose mg mb, TopRead p loose mg mb C.h₀
  low : sysModules < C.h₀.objs.size
  gv : ∀ t p, G.gv t = some p → ∃ v, nsIn K mainGlobals (tg t) = some (some v) ∧ VRel C.h₀ p v
  fn : ∀ t a, G.fn t = some a → nsIn K mainGlobals (tg t) = some (some (.ref a)) ∧ keepIn K (.ref a) = true
  cd : ∀ a es, G.cdt a = some es → (a == sysModules) = false ∧ es.length ≤ 1000 ∧ ∃ kvs, Heap.DictOf C.knd C.h₀ a kvs ∧ KRels C.h₀ es kvs
  cl : ∀ a vs, G.cl a = some vs → ∃ items, C.h₀.IsList a items ∧ VRels C.h₀ vs items.toList
  mt : ∀ c m f, G.mt c m = some f → plainGet K c (tg m) = true ∧ findIn K (.ref c) (tg m) = some (some (.ref f)) ∧ isFn K (.ref f) = true ∧ keepIn K (.ref f) = true
  bt : ∀ f, [187, 0, 184, 188, 185, 186, 3, 12, 189, 190].contains f = true → nsIn K mainGlobals (tg f) = some none
  at_ : ∀ c t, G.at_ c t = true → plainGet K c (tg t) = true ∧ hasDictIn K c = true ∧ ∃ attr, findIn K (.ref c) (tg t) = some attr ∧ noGet K attr = true
  sat : ∀ c t, G.at_ c t = true → findIn K (.ref c) "__setattr__" = some (some (.builtin "object.__setattr__")) ∧ plainOver K c = true ∧ takerIn K c (tg t) = some none
  kfg : nsIn K mainGlobals (tg 183) = some (some (.ref kf))
  kfx : exmOne K (.ref kf) (.ref kf) = some true
  kfa : findIn K (.ref kf) "__getattribute__" = some (some (.builtin "BaseException.__getattribute__")) ∧ findIn K (.ref kf) "__getattr__" = some none ∧ mroIn K kf (.type "BaseException") = some true ∧ hasDictIn K kf = true ∧ ∃ attr, findIn K (.ref kf) (tg 67) = some attr ∧ noGet K attr = true
  kfk : keepIn K (.ref kf) = true
  kfo : ∃ nm q N bs bm hdct sn sub ab col dd k0 k1 k2 k3 k5 newId, C.h₀.get? kf = some (excClassObj nm q kf N bs bm hdct sn sub ab col dd k0 k1 k2 k3 k5 newId) ∧ bm.contains (.type "BaseException") = true
  mkf : Ziv C K kf
  lim : C.h₀.NoLimit
inductive ExcB (kf : Addr) (u : Store) (h h' : Heap) (e : Addr) (vs : Array Value) (i : Int) : Prop
  | mk (dx : Addr) (oe : Obj) (ents : List DictEntry) (n : Nat) (tk : Tok) (a2 : h.get? e = none) (a3 : h'.get? e = some oe) (a4 : oe.cls = .ref kf) (a5 : oe.dict = some dx) (a6 : oe.data = .fields vs) (a7 : 6 ≤ vs.size)
    (a8 : h.get? dx = none) (au : u dx = none) (a9 : h'.get? dx = some (dictOf ents n)) (a10 : getL (tg 67) ents = some (some (.int i tk)))
inductive TbB (h h' : Heap) (e T : Addr) (ts : Array Value) : Prop
  | mk (oT : Obj) (b1 : h.get? T = none) (b2 : T ≠ e) (b3 : h'.get? T = some oT) (b4 : oT.data = .fields ts) (b5 : 4 ≤ ts.size) (b6 : oT.cls ≠ .type "tuple")
inductive ExcT (kf : Addr) (tr : Bool) (u : Store) (h h' : Heap) (x : Value) (i : Int) : Prop
  | mk (e : Addr) (vs : Array Value) (a1 : x = .ref e) (B : ExcB kf u h h' e vs i) (k : (tr = false ∧ vs[1]? = some .none) ∨ ∃ T ts, vs[1]? = some (.ref T) ∧ TbB h h' e T ts)
noncomputable abbrev Zadj (kf : Addr) : Store → Heap → Heap → Value → Int → Prop := ExcT kf false
inductive OkP (C : Cx) (outs : List Env) (σ : Store) (s : Shared) (Q : QV) (v : Value) (s' : Shared) : Prop
  | mk (p : PV) (σ' : Store) (q : Q p σ') (N : Nx C outs σ σ' s s') (r : VRel s'.heap p v)
inductive OksP (C : Cx) (outs : List Env) (σ : Store) (s : Shared) (Q : List PV → Store → Prop) (vs : List Value) (s' : Shared) : Prop
  | mk (ps : List PV) (σ' : Store) (q : Q ps σ') (N : Nx C outs σ σ' s s') (r : VRels s'.heap ps vs)
inductive BoP (C : Cx) (outs : List Env) (σ : Store) (s : Shared) (Q : Bool → Store → Prop) (b : Bool) (s' : Shared) : Prop
  | mk (σ' : Store) (q : Q b σ') (N : Nx C outs σ σ' s s')
inductive ErP (C : Cx) (kf : Addr) (outs : List Env) (σ : Store) (s : Shared) (X : XV') (x : Value) (s' : Shared) : Prop
  | mk (i : Int) (σ' : Store) (q : X i σ') (N : Nx C outs σ σ' s s') (e : Zadj kf σ' s.heap s'.heap x i)
section
variable {C : Cx} {kf : Addr} {outs : List Env} {σ σ₁ : Store} {s s₁ : Shared}
theorem Zei (N : Nx C outs σ σ₁ s s₁) {a : Addr} (e : s₁.heap.get? a = none) : s.heap.get? a = none := by
  cases q : s.heap.get? a with
  | none => rfl
  | some o => obtain ⟨o', e'⟩ := N.stay a o q; rw [e'] at e; contradiction
theorem OkP.of (N : Nx C outs σ σ₁ s s₁) {Q : QV} {v : Value} {s' : Shared} (h : OkP C outs σ₁ s₁ Q v s') : OkP C outs σ s Q v s' := by
  obtain ⟨p, σ', q, M, r⟩ := h; exact ⟨p, σ', q, N.trans M, r⟩
theorem BoP.of (N : Nx C outs σ σ₁ s s₁) {Q : Bool → Store → Prop} {v : Bool} {s' : Shared} (h : BoP C outs σ₁ s₁ Q v s') : BoP C outs σ s Q v s' := by
  obtain ⟨σ', q, M⟩ := h; exact ⟨σ', q, N.trans M⟩
theorem ExcT.of {tr : Bool} {u : Store} (N : Nx C outs σ σ₁ s s₁) {h' : Heap} {x : Value} {i : Int} (h : ExcT kf tr u s₁.heap h' x i) : ExcT kf tr u s.heap h' x i := by
  obtain ⟨e, vs, a1, ⟨dx, oe, ents, n, tk, a2, a3, a4, a5, a6, a7, a8, au, a9, a10⟩, k⟩ := h
  refine ⟨e, vs, a1, ⟨dx, oe, ents, n, tk, Zei N a2, a3, a4, a5, a6, a7, Zei N a8, au, a9, a10⟩, ?_⟩
  rcases k with k | ⟨T, ts, b1, ⟨oT, b2, b3⟩⟩
  · exact .inl k
  · exact .inr ⟨T, ts, b1, ⟨oT, Zei N b2, b3, ‹_›, ‹_›, ‹_›, ‹_›⟩⟩
theorem ErP.of (N : Nx C outs σ σ₁ s s₁) {X : XV'} {v : Value} {s' : Shared} (h : ErP C kf outs σ₁ s₁ X v s') : ErP C kf outs σ s X v s' := by
  obtain ⟨i, σ', q, M, r⟩ := h; exact ⟨i, σ', q, N.trans M, ExcT.of N r⟩
end
noncomputable abbrev FI.env (f : FI) (L : Addr) : Env := envX f.qual f.scope L f.a f.cd f.cells
noncomputable def Bud (A : Around) (d : Nat) : Prop := A.depth + 4 * d + 4 < recursionLimit ∧ A.units + 20 * d + 100 < cLine
structure Cur (C : Cx) (f : FI) (A : Around) (L : Addr) (outer : List Env) (st : Bool) (d : Nat) (lo : Loc) (σ : Store) (s : Shared) : Prop where
  bud : Bud A d
  hand : st = true → A.handled = none
  frames : A.frames = some (f.env L :: outer)
  inv : Inv C (f.env L :: outer) σ s.heap
  fm : Fm f s.heap L lo
  kind : f.scope.kind = .function
section
variable {C : Cx} {f : FI} {A : Around} {L : Addr} {outer : List Env} {st : Bool} {d : Nat} {lo : Loc} {σ σ₁ : Store} {s s₁ : Shared}
theorem Cur.frame (c : Cur C f A L outer st d lo σ s) : C.h₀.objs.size ≤ L ∧ ∃ o es n, s.heap.get? L = some o ∧ o.cls = .type "frame" ∧ o.data = .dict es n := by
  obtain ⟨_, L', o, es, n, h1, h2, h3, h4, h5⟩ := c.inv.frs _ (.head _)
  obtain rfl := so h1
  exact ⟨h2, o, es, n, h3, h4, h5⟩
theorem Cur.next (c : Cur C f A L outer st d lo σ s) (N : Nx C (f.env L :: outer) σ σ₁ s s₁) : Cur C f A L outer st d lo σ₁ s₁ := by
  obtain ⟨_, o, es, n, h3, h4, _⟩ := c.frame
  exact ⟨c.bud, c.hand, c.frames, N.inv, c.fm.next c.inv N h3 h4, c.kind⟩
theorem Cur.fr (c : Cur C f A L outer st d lo σ s) : ∃ m, Fr C.h₀ L s.heap m ∧ Znm f s.heap lo m := by
  obtain ⟨m, n, r⟩ := c.fm
  exact ⟨m, ⟨n, c.inv.base, c.frame.1⟩, r⟩
theorem Cur.nx (c : Cur C f A L outer st d lo σ s) {dr : Drawn} {t : Nat} : Nx C (f.env L :: outer) σ σ s { s with drawn := dr, toks := t } := (Nx.refl c.inv).toks
end
noncomputable def okL (sc : Scope) (t : Nat) : Bool := sc.names.lookup (tg t) == some .local && (tg t == ("__debug__" : Str)) == false
noncomputable def okV (sc : Scope) (t : Nat) : Bool := (sc.names.lookup (tg t) == some .local || sc.names.lookup (tg t) == some .cell) && (tg t == ("__debug__" : Str)) == false
noncomputable def okG (sc : Scope) (t : Nat) : Bool := sc.names.lookup (tg t) == some .globalImplicit && (tg t == ("__debug__" : Str)) == false
noncomputable def noCall : Ex → Bool
  | .call .. | .bcall .. | .lenset .. | .lcond .. | .kcomp .. | .any .. => false
  | _ => true
mutual
noncomputable def okE (sc : Scope) : Ex → Bool
  | .non _ | .bool _ _ | .int _ _ | .minus _ _ _ | .str _ _ => true
  | .var t _ => okV sc t
  | .glob t _ => okG sc t
  | .tup es _ _ | .lst es _ | .dct _ es _ | .bop _ es _ => Zcc sc es
  | .fmt es _ => Zcc sc es && decide (2 ≤ es.length)
  | .sub a i _ => okE sc a && okE sc i
  | .cut a u _ _ => okE sc a && okE sc u
  | .bin a _ b _ | .cmp a _ b _ => okE sc a && okE sc b
  | .neg a _ | .fval a _ => okE sc a
  | .ite c a b _ => okE sc c && okE sc a && okE sc b
  | .attr a _ _ => noCall a && okE sc a
  | .call f es _ _ => okG sc f && Zcc sc es && decide (es.length < 20)
  | .bcall f es _ _ => okG sc f && Zcc sc es && decide (es.length = 1) && [187, 0, 184, 188, 185, 186].contains f
  | .mcall o m es ap p => noCall o && okE sc o && Zcc sc es && decide (es.length < 20) && (ap.endLine == p.line) && (if m = 128 then decide (es.length = 2) else true) && (if m = 127 then decide (es.length = 1) else true)
  | .lenset a _ _ _ _ => okE sc a && okG sc 187 && okG sc 3
  | .neW a w _ _ _ => okE sc a && okG sc w
  | .lcond x _ _ src _ _ _ _ _ own _ _ _ => okG sc 187 && okV sc src && decide (own.kind = .function) && decide (own.names = Zgc x) && (tg x == ("__debug__" : Str)) == false
  | .kcomp sf _ x y it own _ p2 _ p4 _ _ _ _ _ => okE sc it && (sc.names.lookup (tg sf) == some .cell) && decide (own.kind = .function) && decide (own.names = [((".0" : Str), .local), (tg x, .local), (tg y, .local), (tg sf, .free)]) && (tg sf == (".0" : Str)) == false && decide (x ≠ y ∧ sf ≠ x ∧ sf ≠ y) && (p2.endLine == p4.line) && (tg sf == ("__debug__" : Str)) == false && (tg x == ("__debug__" : Str)) == false && (tg y == ("__debug__" : Str)) == false
  | .any _ _ _ _ => true
noncomputable def Zcc (sc : Scope) : List Ex → Bool
  | [] => true
  | e :: r => okE sc e && Zcc sc r
end
theorem Zck {f : FI} {L : Addr} {t : Nat} {k : NameKind} (h : f.scope.names.lookup (tg t) = some k) : (f.env L).kindOf (tg t) = some k := h
section
variable {C : Cx} {K : Frag} {G : Pg} {kf : Addr} {f : FI} {A : Around} {L : Addr} {outer : List Env} {st : Bool} {d : Nat} {lo : Loc} {σ σ₁ : Store} {s s₁ : Shared} {Q : QV} {X : XV'} {E : Value → Shared → Prop}
theorem Zkh {t : Nat} {p : Pos} {v : PV} {R : Value → Shared → Prop} (c : Cur C f A L outer st d lo σ s) (ok : okV f.scope t = true) (e : lo.get t = some v) (q : ∀ w, VRel s.heap v w → R w s) :
    wpAny C.M A (eval (.Name (tg t) p) (f.env L)) R E s := by
  obtain ⟨h1, h2⟩ := Bool.and_eq_true_iff.mp ok
  obtain ⟨m, F, r⟩ := c.fr
  obtain ⟨w, hw, rw'⟩ := r t v e
  unfold At at hw
  rcases Bool.or_eq_true_iff.mp h1 with h1 | h1
  · have h1 := beq_iff_eq.mp h1
    rw [h1] at hw
    exact nameX_L F hw (q w rw') c.kind (Zck h1) (by simpa using h2)
  · have h1 := beq_iff_eq.mp h1
    rw [h1] at hw
    obtain ⟨ca, o, e1, e2, e3⟩ := hw
    exact wpAny_Name (wpAny_loadName_cell c.kind (Zck h1) e1 ⟨o, e2, e3⟩ (q w rw')) (by simpa using h2)
theorem Zadd {t : Nat} {p : Pos} {v : PV} (c : Cur C f A L outer st d lo σ s) (ok : okV f.scope t = true) (e : lo.get t = some v) (q : Q v σ) :
    wpAny C.M A (eval (.Name (tg t) p) (f.env L)) (OkP C (f.env L :: outer) σ s Q) E s := Zkh c ok e fun w r => ⟨v, σ, q, Nx.refl c.inv, r⟩
theorem Zfx (O : Ok C K G kf) {t : Nat} {p : Pos} {v : Value} {R : Value → Shared → Prop} (c : Cur C f A L outer st d lo σ s) (ok : okG f.scope t = true) (e : nsIn K mainGlobals (tg t) = some (some v)) (q : R v s) :
    wpAny C.M A (eval (.Name (tg t) p) (f.env L)) R E s := by
  obtain ⟨h1, h2⟩ := Bool.and_eq_true_iff.mp ok
  obtain ⟨m, F, r⟩ := c.fr
  obtain ⟨_, _, _, _, T⟩ := O.top
  exact nameX_K F O.inn T e q c.kind (Zck (beq_iff_eq.mp h1)) (by simpa using h2)
theorem Zea (O : Ok C K G kf) {t : Nat} {p : Pos} {v : Value} {R : Value → Shared → Prop} (c : Cur C f A L outer st d lo σ s) (ok : okG f.scope t = true) (e : nsIn K mainGlobals (tg t) = some none) (hv : bootBuiltins (tg t) = some v) (hn : tg t ≠ "__name__") (q : R v s) :
    wpAny C.M A (eval (.Name (tg t) p) (f.env L)) R E s := by
  obtain ⟨h1, h2⟩ := Bool.and_eq_true_iff.mp ok
  obtain ⟨m, F, r⟩ := c.fr
  obtain ⟨_, _, _, _, T⟩ := O.top
  exact nameX_B F O.inn T e hv hn q c.kind (Zck (beq_iff_eq.mp h1)) (by simpa using h2)
theorem Inv.oldTup {C : Cx} {outs : List Env} {σ : Store} {h : Heap} (I : Inv C outs σ h) : TupKeep C.h₀ h := fun a o e _ => I.base a o e
theorem Zabv (O : Ok C K G kf) {t : Nat} {p : Pos} {v : PV} (c : Cur C f A L outer st d lo σ s) (ok : okG f.scope t = true) (e : G.gv t = some v) (q : Q v σ) :
    wpAny C.M A (eval (.Name (tg t) p) (f.env L)) (OkP C (f.env L :: outer) σ s Q) E s := by
  obtain ⟨w, h1, h2⟩ := O.gv t v e
  exact Zfx O c ok h1 ⟨v, σ, q, Nx.refl c.inv, h2.mono c.inv.oldTup⟩
theorem Inv.push {C : Cx} {outs : List Env} {σ : Store} {h : Heap} (I : Inv C outs σ h) (o : Obj) : Inv C outs σ (h.push o) := by
  refine ⟨fun b x e => Heap.get?_push_of_some o (I.base b x e), fun a x e => ⟨(I.sto a x e).1, ?_⟩, fun env he => ?_, by rw [Heap.size_push]; exact Nat.le_succ_of_le I.size⟩
  · have r := (I.sto a x e).2
    obtain ⟨ob, h1, _⟩ := r.there
    exact r.move (fun b y e _ => Heap.get?_push_of_some o e) ((Heap.get?_push_of_some o h1).trans h1.symm)
  · obtain ⟨k, L, ob, es, n, f, l, e, c, d⟩ := I.frs env he
    exact ⟨k, L, ob, es, n, f, l, Heap.get?_push_of_some o e, c, d⟩
theorem Nx.pushed {C : Cx} {outs : List Env} {σ : Store} {s : Shared} (I : Inv C outs σ s.heap) (o : Obj) {t : Nat} {dr : Drawn} : Nx C outs σ σ s { s with heap := s.heap.push o, drawn := dr, toks := t } :=
  ⟨I.push o, fun b x e _ => .inl (Heap.get?_push_of_some o e), fun b x e => ⟨x, Heap.get?_push_of_some o e⟩, fun _ h => .inl h, rfl, rfl⟩
theorem Inv.freshAt {C : Cx} {outs : List Env} {σ : Store} {h : Heap} (I : Inv C outs σ h) {a : Addr} (e : h.get? a = none) : σ a = none := by
  cases q : σ a with
  | none => rfl
  | some p => obtain ⟨ob, h1, _⟩ := (I.sto a p q).2.there; rw [h1] at e; contradiction
theorem Zao (h : Heap) : h.get? h.objs.size = none := by
  cases q : h.get? h.objs.size with
  | none => rfl
  | some o => exact absurd (Heap.lt_size q) (Nat.lt_irrefl _)
theorem Inv.h0None {C : Cx} {outs : List Env} {σ : Store} {h : Heap} (I : Inv C outs σ h) {a : Addr} (e : h.get? a = none) : C.h₀.get? a = none := by
  cases q : C.h₀.get? a with
  | none => rfl
  | some o => rw [I.base a o q] at e; contradiction
theorem Nx.track {C : Cx} {outs : List Env} {σ σ₁ : Store} {s s' : Shared} (N : Nx C outs σ σ₁ s s') {a : Addr} {o : PO} (e : s.heap.get? a = none) (r : ORel C s'.heap a o) (h0 : C.h₀.objs.size ≤ a) : Nx C outs σ (σ₁.upd a o) s s' := by
  refine ⟨⟨N.inv.base, fun b x q => ?_, N.inv.frs, N.inv.size⟩, N.keep, N.stay, fun b q => ?_, N.gens, N.os⟩
  · unfold Store.upd at q
    by_cases z : b = a
    · subst z; rw [if_pos rfl] at q; obtain rfl := so q; exact ⟨h0, r⟩
    · rw [if_neg z] at q; exact N.inv.sto b x q
  · unfold Store.upd at q
    by_cases z : b = a
    · subst z; exact .inr e
    · rw [if_neg z] at q; exact N.fresh b q
theorem Nx.change {C : Cx} {outs : List Env} {σ : Store} {s : Shared} {h' : Heap} {a : Addr} {o o' : PO} {t : Nat} {dr : Drawn} (I : Inv C outs σ s.heap) (e : σ a = some o) (hs : Heap.SameBut a s.heap h') (r : TupKeep s.heap h' → ORel C h' a o') :
    Nx C outs σ (σ.upd a o') s { s with heap := h', drawn := dr, toks := t } := by
  have ra := (I.sto a o e).2
  obtain ⟨ob, h1, h2, h3, h4⟩ := ra.there
  have ne : ∀ b x, s.heap.get? b = some x → (x.cls = .type "tuple" ∨ x.cls = .type "frame") → b ≠ a := fun b x eb cb z => by
    subst z; rw [h1] at eb; obtain rfl := so eb; rcases cb with cb | cb
    · exact h2 cb
    · exact h3 cb
  have tk : TupKeep s.heap h' := fun b x eb cb => (hs.2 b (ne b x eb (.inl cb))).trans eb
  have R := r tk
  obtain ⟨ob', h1', _⟩ := R.there
  refine ⟨⟨fun b x eb => (hs.2 b fun z => ?_).trans (I.base b x eb), fun b x q => ?_, fun env he => ?_, hs.1 ▸ I.size⟩, fun b x eb z => .inl ((hs.2 b fun y => ?_).trans eb), fun b x eb => ?_, fun b q => ?_, rfl, rfl⟩
  · rw [z, I.new e] at eb; contradiction
  · unfold Store.upd at q
    by_cases z : b = a
    · subst z; rw [if_pos rfl] at q; obtain rfl := so q; exact ⟨(I.sto _ _ e).1, R⟩
    · rw [if_neg z] at q; exact ⟨(I.sto b x q).1, (I.sto b x q).2.move tk (hs.2 b z)⟩
  · obtain ⟨k, L, of, es, n, f, l, ef, cf, df⟩ := I.frs env he
    exact ⟨k, L, of, es, n, f, l, (hs.2 L (ne L of ef (.inr cf))).trans ef, cf, df⟩
  · rw [y, e] at z; contradiction
  · by_cases z : b = a
    · subst z; exact ⟨_, h1'⟩
    · exact ⟨x, (hs.2 b z).trans eb⟩
  · unfold Store.upd at q
    by_cases z : b = a
    · subst z; exact .inl (by rw [e]; simp)
    · rw [if_neg z] at q; exact .inl q
theorem Zat {n : Nat} (h : n ≤ 1000) : n ≤ sizeLine := Nat.le_trans h (by decide)
theorem Zwb (c : Cur C f A L outer st d lo σ s) {ps : List PV} {vs : List Value} (r : VRels s.heap ps vs) (hl : ps.length ≤ 1000) (q : Q (.tup ps) σ) :
    wpAny C.M A (newTuple vs) (OkP C (f.env L :: outer) σ s Q) E s := by
  refine wpAny_newTuple ⟨_, _, q, Nx.pushed c.inv _, .tup (Heap.get?_push_size _ rfl) rfl rfl (r.mono fun b x e _ => Heap.get?_push_of_some _ e)⟩ (Zat (by rw [r.length]; exact hl))
theorem Zzl (c : Cur C f A L outer st d lo σ s) {ps : List PV} {vs : List Value} (r : VRels s.heap ps vs) (hl : ps.length ≤ 1000) (q : Zah σ (.list ps) Q) :
    wpAny C.M A (newList vs) (OkP C (f.env L :: outer) σ s Q) E s := by
  have n0 := Zao s.heap
  refine wpAny_newList ⟨_, _, q _ (c.inv.freshAt n0), (Nx.pushed c.inv _).track n0 ⟨vs.toArray, 0, Heap.get?_push_size _ rfl, r.mono fun b x e _ => Heap.get?_push_of_some _ e⟩ c.inv.size, .obj _⟩ (Zat (by rw [r.length]; exact hl))
end
mutual
noncomputable def toD : PV → PyData
  | .bool b => .bool b
  | .int i => .int i
  | .tag n => .str (tg n)
  | .tup vs => .tuple (toDs vs)
  | _ => .none
noncomputable def toDs : List PV → List PyData
  | [] => []
  | v :: r => toD v :: toDs r
end
theorem Zvb {n : Nat} (h : Nat.blt n 271 = true) : PyData.strOk (tg n) = true := by
  have : ∀ n : Fin 271, PyData.strOk (tg n) = true := by decide +kernel
  exact this ⟨n, Nat.le_of_ble_eq_true h⟩
theorem Zdf {n : Nat} {p : PV} (k : plainP n p = true) : (∀ m, p ≠ .msg m) ∧ (∀ a, p ≠ .obj a) ∧ ∀ a, p ≠ .cd a := by
  refine ⟨fun m z => ?_, fun m z => ?_, fun m z => ?_⟩ <;> (subst z; cases n <;> contradiction)
theorem Zcf {h : Heap} (n : Nat) (p : PV) (v : Value) (k : plainP n p = true) (r : VRel h p v) : ∃ as, Reads h v (toD p) as :=
  VRel.rec (motive_1 := fun p v _ => ∀ n, plainP n p = true → ∃ as, Reads h v (toD p) as) (motive_2 := fun ps vs _ => ∀ n, plainPs n ps = true → ∃ as, ReadsAll h vs (toDs ps) as)
    (fun _ _ => ⟨_, .none⟩) (fun b _ _ => ⟨_, .bool b⟩) (fun i t _ _ => ⟨_, .int i t⟩) (fun n t _ _ => ⟨_, .str _ _⟩) (fun _ _ k => absurd rfl ((Zdf k).1 _))
    (fun e c dd _ ih n k => by
      cases n with
      | zero => contradiction
      | succ n =>
        obtain ⟨as, q⟩ := ih n k
        exact ⟨as, .tuple e c dd (by rwa [List.toList_toArray])⟩)
    (fun _ _ k => absurd rfl ((Zdf k).2.1 _)) (fun _ _ k => absurd rfl ((Zdf k).2.2 _)) (fun _ _ => ⟨_, .nil⟩)
    (fun _ _ ih ih2 n k => by
      obtain ⟨k1, k2⟩ := Bool.and_eq_true_iff.mp k
      obtain ⟨as, q⟩ := ih n k1
      obtain ⟨bs, z⟩ := ih2 n k2
      exact ⟨_, .cons q z⟩) r n k
theorem Zeh {h : Heap} (n : Nat) : ∀ (ps : List PV) (vs : List Value), plainPs n ps = true → VRels h ps vs → ∃ as, ReadsAll h vs (toDs ps) as
  | [], _, _, r => by rw [Zcd r]; exact ⟨_, .nil⟩
  | p :: ps, _, k, r => by
    obtain ⟨k1, k2⟩ := Bool.and_eq_true_iff.mp k
    obtain ⟨v, vs, a, r⟩ := Zbg r
    obtain ⟨as, q⟩ := Zcf n p v k1 a
    obtain ⟨bs, z⟩ := Zeh n ps vs k2 ‹_›
    exact ⟨_, .cons q z⟩
theorem Zdk {n : Nat} {p : PV} {P : Prop} (k : plainP n p = true) (h : (∃ m, p = .msg m) ∨ (∃ a, p = .obj a) ∨ ∃ a, p = .cd a) : P := by
  rcases h with ⟨_, h⟩ | ⟨_, h⟩ | ⟨_, h⟩
  · exact absurd h ((Zdf k).1 _)
  · exact absurd h ((Zdf k).2.1 _)
  · exact absurd h ((Zdf k).2.2 _)
mutual
theorem lay_of : ∀ (n : Nat) (p : PV), plainP n p = true → (toD p).canLay0 = true ∧ (toD p).depth ≤ n
  | n, .none, _ => ⟨rfl, Nat.zero_le _⟩
  | n, .bool _, _ => ⟨rfl, Nat.zero_le _⟩
  | n, .int _, _ => ⟨rfl, Nat.zero_le _⟩
  | n, .tag t, k => ⟨Zvb (by cases n <;> exact k), Nat.zero_le _⟩
  | n + 1, .tup vs, k => by
    obtain ⟨a, b⟩ := lay_ofs n vs k
    exact ⟨a, Nat.succ_le_succ b⟩
  | 0, .tup vs, k => by contradiction
  | n, .msg _, k => Zdk k (.inl ⟨_, rfl⟩)
  | n, .obj _, k => Zdk k (.inr (.inl ⟨_, rfl⟩))
  | n, .cd _, k => Zdk k (.inr (.inr ⟨_, rfl⟩))
theorem lay_ofs : ∀ (n : Nat) (ps : List PV), plainPs n ps = true → PyData.canLayAll0 (toDs ps) = true ∧ PyData.depthAll (toDs ps) ≤ n
  | n, [], _ => ⟨rfl, Nat.zero_le _⟩
  | n, p :: ps, k => by
    obtain ⟨k1, k2⟩ := Bool.and_eq_true_iff.mp k
    obtain ⟨a, b⟩ := lay_of n p k1
    obtain ⟨c, d⟩ := lay_ofs n ps k2
    exact ⟨Bool.and_eq_true_iff.mpr ⟨a, c⟩, Nat.max_le.mpr ⟨b, d⟩⟩
end
theorem Zpb (a b : Nat) : (tg a == tg b) = (a == b) := by
  by_cases z : a = b
  · subst z; rw [beq_self_eq_true, beq_self_eq_true]
  · rw [beq_eq_false_iff_ne.mpr z, beq_eq_false_iff_ne.mpr (Zcm z)]
mutual
theorem eqv_of : ∀ (n m : Nat) (p q : PV), plainP n p = true → plainP m q = true → PyData.eqv (toD p) (toD q) = eqP p q
  | n, m, .none, q, _, k => by cases q <;> first | rfl | exact Zdk k (.inl ⟨_, rfl⟩) | exact Zdk k (.inr (.inl ⟨_, rfl⟩)) | exact Zdk k (.inr (.inr ⟨_, rfl⟩))
  | n, m, .bool a, q, _, k => by cases q <;> rfl
  | n, m, .int a, q, _, k => by cases q <;> rfl
  | n, m, .tag a, q, _, k => by
    cases q with
    | tag b => exact Zpb a b
    | _ => rfl
  | n + 1, m, .tup vs, q, k, l => by
    cases q with
    | tup ws =>
      cases m with
      | zero => contradiction
      | succ m => exact eqv_ofs n m vs ws k l
    | _ => rfl
  | 0, _, .tup vs, _, k, _ => by contradiction
  | n, _, .msg _, _, k, _ => Zdk k (.inl ⟨_, rfl⟩)
  | n, _, .obj _, _, k, _ => Zdk k (.inr (.inl ⟨_, rfl⟩))
  | n, _, .cd _, _, k, _ => Zdk k (.inr (.inr ⟨_, rfl⟩))
theorem eqv_ofs : ∀ (n m : Nat) (ps qs : List PV), plainPs n ps = true → plainPs m qs = true → PyData.eqvAll (toDs ps) (toDs qs) = eqPs ps qs
  | _, _, [], [], _, _ => rfl
  | _, _, [], _ :: _, _, _ => rfl
  | _, _, _ :: _, [], _, _ => rfl
  | n, m, p :: ps, q :: qs, k, l => by
    obtain ⟨k1, k2⟩ := Bool.and_eq_true_iff.mp k
    obtain ⟨l1, l2⟩ := Bool.and_eq_true_iff.mp l
    show (PyData.eqv (toD p) (toD q) && PyData.eqvAll (toDs ps) (toDs qs)) = (eqP p q && eqPs ps qs)
    rw [eqv_of n m p q k1 l1, eqv_ofs n m ps qs k2 l2]
end
theorem Zcj {p : PV} (k : plainP 8 p = true) : SeqAt.shaped (toD p) = true := by
  obtain ⟨a, b⟩ := lay_of 8 p k
  unfold SeqAt.shaped
  rw [a, Bool.true_and]
  exact decide_eq_true (by lia)
section
variable {C : Cx} {K : Frag} {G : Pg} {kf : Addr} {A : Around} {outs : List Env} {σ : Store} {s : Shared} {E : Value → Shared → Prop}
theorem Zuk {p q : PV} {v w : Value} {R : Value → Shared → Prop} (hu : A.units + 64 < cLine) (rp : VRel s.heap p v) (rq : VRel s.heap q w) (kp : plainP 8 p = true) (kq : plainP 8 q = true) (h : R (.bool (eqP p q)) s) :
    wpAny C.M A (compareOp .Eq v w) R E s := by
  obtain ⟨as, a⟩ := Zcf 8 p v kp rp
  obtain ⟨bs, b⟩ := Zcf 8 q w kq rq
  exact eq_dataH a b (Zcj kp) (Zcj kq) hu (by rw [eqv_of 8 8 p q kp kq]; exact h)
theorem Ztp {p q : PV} {v w : Value} {R : Value → Shared → Prop} (hu : A.units + 64 < cLine) (rp : VRel s.heap p v) (rq : VRel s.heap q w) (kp : plainP 8 p = true) (kq : plainP 8 q = true) (h : R (.bool (!eqP p q)) s) :
    wpAny C.M A (compareOp .NotEq v w) R E s := by
  obtain ⟨as, a⟩ := Zcf 8 p v kp rp
  obtain ⟨bs, b⟩ := Zcf 8 q w kq rq
  exact ne_dataH a b (Zcj kp) (Zcj kq) hu (by rw [eqv_of 8 8 p q kp kq]; exact h)
theorem Zon {xs ys : List PV} {a b : Addr} {i j : Array Value} {n m : Nat} (la : IsL s.heap a i n) (lb : IsL s.heap b j m) (ra : VRels s.heap xs i.toList) (rb : VRels s.heap ys j.toList) (kx : plainPs 8 xs = true) (ky : plainPs 8 ys = true) :
    ∃ as bs, Reads s.heap (.ref a) (.list (toDs xs)) as ∧ Reads s.heap (.ref b) (.list (toDs ys)) bs ∧ SeqAt.shaped (.list (toDs xs)) = true ∧ SeqAt.shaped (.list (toDs ys)) = true ∧ PyData.eqv (.list (toDs xs)) (.list (toDs ys)) = eqPs xs ys := by
  obtain ⟨as, x⟩ := Zeh 8 xs _ kx ra
  obtain ⟨bs, y⟩ := Zeh 8 ys _ ky rb
  obtain ⟨a1, a2⟩ := lay_ofs 8 xs kx
  obtain ⟨b1, b2⟩ := lay_ofs 8 ys ky
  refine ⟨_, _, .list la rfl rfl x, .list lb rfl rfl y, ?_, ?_, ?_⟩
  · unfold SeqAt.shaped; simp only [PyData.canLay0, PyData.depth, a1, Bool.true_and]; exact decide_eq_true (by lia)
  · unfold SeqAt.shaped; simp only [PyData.canLay0, PyData.depth, b1, Bool.true_and]; exact decide_eq_true (by lia)
  · simp only [PyData.eqv]; exact eqv_ofs 8 8 xs ys kx ky
theorem KRels.val {h : Heap} {es : List (Nat × PV)} {kvs : List (Str × Value)} (r : KRels h es kvs) (t : Nat) : (∀ p, Loc.get es t = some p → ∃ v, valueAt kvs (tg t) = some v ∧ VRel h p v) ∧ (Loc.get es t = none → valueAt kvs (tg t) = none) := by
  induction r with
  | nil => exact ⟨fun p e => (nomatch e), fun _ => rfl⟩
  | @cons u p v ps vs a r ih =>
    unfold valueAt
    rw [Zbn]
    rw [List.find?_cons]
    by_cases z : u = t
    · subst z
      simp only [if_true, decide_true]
      exact ⟨fun p' e => by obtain rfl := so e; exact ⟨v, rfl, a⟩, fun e => (nomatch e)⟩
    · simp only [if_neg z, decide_eq_false (Zcm z)]
      exact ih
theorem KRels.len {h : Heap} {es : List (Nat × PV)} {kvs : List (Str × Value)} (r : KRels h es kvs) : kvs.length = es.length := by
  induction r with
  | nil => rfl
  | cons _ _ ih => simp [ih]
theorem Zlm {kvs : List (Str × Value)} {x : Str} {w : Value} (h : x ∉ kvs.map (·.1)) : kvs.map (fun kv => if kv.fst = x then (kv.fst, w) else kv) = kvs := by
  induction kvs with
  | nil => rfl
  | cons k r ih =>
    simp only [List.map_cons, List.mem_cons, not_or] at h
    rw [List.map_cons, ih h.2, if_neg (Ne.symm h.1)]
theorem KRels.stored {h : Heap} {es : List (Nat × PV)} {kvs : List (Str × Value)} (r : KRels h es kvs) (nd : (kvs.map (·.1)).Nodup) {t : Nat} {p : PV} {w : Value} (a : VRel h p w) : KRels h (Ze t p es) (PySem.stored kvs (tg t) w) := by
  induction r with
  | nil => exact .cons a .nil
  | @cons u q v ps vs b r ih =>
    rw [List.map_cons, List.nodup_cons] at nd
    rw [Zey]
    by_cases z : u = t
    · subst z
      rw [if_pos rfl]
      unfold PySem.stored
      rw [List.any_cons]
      simp only [decide_true, Bool.true_or, if_true, List.map_cons]
      rw [Zlm nd.1]
      exact .cons a r
    · rw [if_neg z]
      have := ih nd.2
      unfold PySem.stored at this ⊢
      rw [List.any_cons]
      simp only [decide_eq_false (Zcm z), Bool.false_or, List.map_cons, if_neg (Zcm z)]
      split
      · rename_i h1; rw [if_pos h1] at this; exact .cons b this
      · rename_i h1; rw [if_neg h1] at this; exact .cons b this
open Classical in
theorem Zxv {A : Around} {s : Shared} {es fs : List (Nat × PV)} {ka kb : List (Str × Value)} (ra : KRels s.heap es ka) (rb : KRels s.heap fs kb) (ke : Zam es = true) (kf : Zam fs = true) (hu : A.in1.units + 64 < cLine) :
    KeqHits A.in1 s kb ka (es.all fun x => match Loc.get fs x.1 with | some v => eqP x.2 v | none => false) := by
  induction ra with
  | nil => exact .nil
  | @cons u q v ps vs a r ih =>
    unfold Zam at ke
    rw [List.all_cons] at ke
    obtain ⟨k1, k2⟩ := Bool.and_eq_true_iff.mp ke
    rw [List.all_cons]
    have y := rb.val u
    cases z : Loc.get fs u with
    | none => simp only [Bool.false_and]; exact .miss (y.2 z)
    | some p =>
      obtain ⟨w, h1, h2⟩ := y.1 p z
      have k3 : plainP 8 p = true := by
        have : ∀ gs : List (Nat × PV), Zam gs = true → Loc.get gs u = some p → plainP 8 p = true := by
          intro gs
          induction gs with
          | nil => intro _ q; contradiction
          | cons g gs ih =>
            intro k q
            unfold Zam at k
            rw [List.all_cons] at k
            obtain ⟨x1, x2⟩ := Bool.and_eq_true_iff.mp k
            obtain ⟨gu, gp⟩ := g
            rw [Zbn] at q
            split at q
            · obtain rfl := so q; exact x1
            · exact ih x2 q
        exact this fs kf z
      obtain ⟨as, xa⟩ := Zcf 8 q v k1 a
      obtain ⟨bs, xb⟩ := Zcf 8 p w k3 h2
      have e := keq_at xa xb (Zcj k1) (Zcj k3) hu
      rw [eqv_of 8 8 q p k1 k3] at e
      exact .hit h1 e (ih k2)
theorem Zfv {C : Cx} {K : Frag} {G : Pg} {kf : Addr} (O : Ok C K G kf) {a : Addr} (k : C.h₀.objs.size ≤ a) : (a == sysModules) = false := by
  exact beq_eq_false_iff_ne.mpr (Nat.ne_of_gt (Nat.lt_of_lt_of_le O.low k))
theorem DictOf.at {C : Cx} {h h' : Heap} {a : Addr} {kvs : List (Str × Value)} (D : Heap.DictOf C.knd h a kvs) (k : ∀ o, h.get? a = some o → h'.get? a = some o) : Heap.DictOf C.knd h' a kvs := by
  obtain ⟨o, es, ep, e, r⟩ := D
  exact ⟨o, es, ep, k o e, r⟩
theorem Zfa (O : Ok C K G kf) (I : Inv C outs σ s.heap) {a : Addr} {es : List (Nat × PV)} (e : G.cdt a = some es) : ∃ kvs, Heap.DictOf C.knd s.heap a kvs ∧ KRels s.heap es kvs := by
  obtain ⟨_, _, kvs, h1, h2⟩ := O.cd a es e
  exact ⟨kvs, DictOf.at h1 fun o q => I.base a o q, h2.mono I.oldTup⟩
theorem Zlg {op : Bool} {a b : Addr} {es fs : List (Nat × PV)} {ka kb : List (Str × Value)} {R : Value → Shared → Prop} (ha : (a == sysModules) = false) (hb : (b == sysModules) = false) (da : Heap.DictOf C.knd s.heap a ka) (db : Heap.DictOf C.knd s.heap b kb)
    (ra : KRels s.heap es ka) (rb : KRels s.heap fs kb) (ke : Zam es = true) (kf : Zam fs = true) (hu : A.units + 65 < cLine) (h : R (.bool (if op then Zbf es fs else !Zbf es fs)) s) :
    wpAny C.M A (compareOp (if op then .Eq else .NotEq) (.ref a) (.ref b)) R E s := by
  have hits := Zxv (A := A) ra rb ke kf (by rw [Around.in1_units]; lia)
  have e : (ka.length == kb.length && (es.all fun x => match Loc.get fs x.1 with | some v => eqP x.2 v | none => false)) = Zbf es fs := by unfold Zbf; rw [ra.len, rb.len] <;> rfl
  cases op with
  | true => exact keq_eq ha hb da db (by lia) (fun _ => hits) (by rw [e]; exact h)
  | false => exact keq_ne ha hb da db (by lia) (fun _ => hits) (by rw [e]; exact h)
end
section
variable {C : Cx} {K : Frag} {G : Pg} {kf : Addr} {f : FI} {A : Around} {L : Addr} {outer : List Env} {st : Bool} {d : Nat} {lo : Loc} {σ σ₁ : Store} {s s₁ : Shared} {Q : QV} {X : XV'} {E : Value → Shared → Prop}
theorem Zjf {h : Heap} : ∀ {n : Nat} {vs : List PV} {b : Bool}, inTags n vs = some b → plainPs 7 vs = true → ((toDs vs).any (fun y => PyData.eqv y (toD (.tag n)))) = b
  | _, [], _, e, _ => by obtain rfl := so e; rfl
  | n, .tag m :: r, b, e, k => by
    have k : (plainP 7 (.tag m) && plainPs 7 r) = true := k
    obtain ⟨k1, k2⟩ := Bool.and_eq_true_iff.mp k
    rw [Znw] at e
    show (PyData.eqv (toD (.tag m)) (toD (.tag n)) || (toDs r).any fun y => PyData.eqv y (toD (.tag n))) = b
    have z : PyData.eqv (toD (.tag m)) (toD (.tag n)) = (m == n) := by
      exact Zpb m n
    rw [z]
    by_cases q : n = m
    · rw [if_pos q] at e; obtain rfl := so e; subst q; simp
    · rw [if_neg q] at e
      rw [beq_eq_false_iff_ne.mpr (Ne.symm q), Bool.false_or]
      exact Zjf (h := h) e k2
  | _, .none :: _, _, e, _ => by contradiction
  | _, .bool _ :: _, _, e, _ => by contradiction
  | _, .int _ :: _, _, e, _ => by contradiction
  | _, .msg _ :: _, _, e, _ => by contradiction
  | _, .tup _ :: _, _, e, _ => by contradiction
  | _, .obj _ :: _, _, e, _ => by contradiction
  | _, .cd _ :: _, _, e, _ => by contradiction
theorem Zob {h : Heap} {es : List (Nat × PV)} {kvs : List (Str × Value)} (r : KRels h es kvs) (n : Nat) : (valueAt kvs (tg n)).isSome = (Loc.get es n).isSome := by
  have y := r.val n
  cases z : Loc.get es n with
  | none => rw [y.2 z]; rfl
  | some p => obtain ⟨v, h2, _⟩ := y.1 p z; rw [h2]; rfl
theorem Zmz {a : Addr} {n : Nat} {tk : Tok} {es : List (Nat × PV)} {kvs : List (Str × Value)} {R : Value → Shared → Prop} (ha : (a == sysModules) = false) (D : Heap.DictOf C.knd s.heap a kvs) (r : KRels s.heap es kvs) (neg : Bool) (h : ∀ t, R (.bool (if neg then !(Loc.get es n).isSome else (Loc.get es n).isSome)) { s with toks := t }) :
    wpAny C.M A (compareOp (if neg then .NotIn else .In) (.str (tg n) tk) (.ref a)) R E s := by
  rw [← Zob r n] at h
  cases neg with
  | true => exact wpAny_notIn_of (strKind_is _ _ _ _) ha D.mapOf (h _)
  | false => exact wpAny_in_of (strKind_is _ _ _ _) ha D.mapOf (h _)
theorem Zza (O : Ok C K G kf) (I : Inv C outer σ s.heap) (hu : A.units + 59 < cLine) {n : Nat} {tk : Tok} {q : PV} {w : Value} {b : Bool} {R : Value → Shared → Prop} (rq : VRel s.heap q w) (e : Has G σ n q b) (neg : Bool) (h : ∀ t, R (.bool (if neg then !b else b)) { s with toks := t }) :
    wpAny C.M A (compareOp (if neg then .NotIn else .In) (.str (tg n) tk) w) R E s := by
  cases e with
  | @tup vs _ k1 k2 e =>
    obtain ⟨_, _, _, _, he, hc, hdd, hr⟩ := Zdv rq
    obtain ⟨as, ra⟩ := Zeh 7 vs _ k1 hr
    obtain ⟨l1, l2⟩ := lay_ofs 7 vs k1
    have z := Zjf (h := s.heap) e k1
    have rc := Reads.tuple he hc hdd ra
    have rx : Reads s.heap (.str (tg n) tk) (toD (.tag n)) [] := by exact .str _ _
    have hd : (toD (.tag n)).canLay0 = true := Zvb k2
    cases neg with
    | true => exact SeqAt.notIn_tuple_reads rc rx l1 hd (by show A.units + 1 + min (PyData.depthAll (toDs vs)) 0 < cLine; rw [Nat.min_zero]; lia) (by rw [z]; exact h _)
    | false => exact SeqAt.in_tuple_reads rc rx l1 hd (by show A.units + 1 + min (PyData.depthAll (toDs vs)) 0 < cLine; rw [Nat.min_zero]; lia) (by rw [z]; exact h _)
  | dict hs =>
    obtain rfl := Zau rq
    obtain ⟨h1, kvs, D, r⟩ := I.sto _ _ hs
    exact Zmz (Zfv O h1) D r neg h
  | cd hs =>
    obtain rfl := cdE rq
    obtain ⟨kvs, D, r⟩ := Zfa O I hs
    exact Zmz (O.cd _ _ hs).1 D r neg h
theorem Zzb (O : Ok C K G kf) (I : Inv C outer σ s.heap) (hu : A.units + 65 < cLine) {p q : PV} {v w : Value} {b : Bool} {R : Value → Shared → Prop} (rp : VRel s.heap p v) (rq : VRel s.heap q w) (e : SameR σ p q b) (op : Bool) (h : R (.bool (if op then b else !b)) s) :
    wpAny C.M A (compareOp (if op then .Eq else .NotEq) v w) R E s := by
  cases e with
  | v k1 k2 =>
    cases op with
    | true => exact Zuk (by lia) rp rq k1 k2 h
    | false => exact Ztp (by lia) rp rq k1 k2 h
  | list hx hy k1 k2 =>
    obtain rfl := Zau rp; obtain rfl := Zau rq
    obtain ⟨_, i, n, la, ra⟩ := I.sto _ _ hx
    obtain ⟨_, j, m, lb, rb⟩ := I.sto _ _ hy
    obtain ⟨as, bs, z1, z2, z3, z4, z5⟩ := Zon la lb ra rb k1 k2
    cases op with
    | true => exact eq_dataH z1 z2 z3 z4 (by lia) (by rw [z5]; exact h)
    | false => exact ne_dataH z1 z2 z3 z4 (by lia) (by rw [z5]; exact h)
  | dict hx hy k1 k2 =>
    obtain rfl := Zau rp; obtain rfl := Zau rq
    obtain ⟨h1, ka, da, ra⟩ := I.sto _ _ hx
    obtain ⟨h2, kb, db, rb⟩ := I.sto _ _ hy
    exact Zlg (Zfv O h1) (Zfv O h2) da db ra rb k1 k2 hu h
theorem Zyz {p : PV} {v : Value} {R : Value → Shared → Prop} (rp : VRel s.heap p v) (op : Bool) (h : R (.bool (if op then isNoneP p else !isNoneP p)) s) :
    wpAny C.M A (compareOp (if op then .Is else .IsNot) v .none) R E s := by
  have e : (v == Value.none) = isNoneP p := by cases rp <;> rfl
  have k : PySem.plainIs v .none = true := by cases rp <;> rfl
  cases op with
  | true => exact wpAny_is_plain k (by rw [e]; exact h)
  | false => exact wpAny_isNot_plain k (by rw [e]; exact h)
theorem Zvp (O : Ok C K G kf) (c : Cur C f A L outer st d lo σ s) {op : CmpOp} {p q : PV} {v w : Value} {b : Bool} (rp : VRel s.heap p v) (rq : VRel s.heap q w) (e : Cmp G σ op p q b) (h : Q (.bool b) σ) :
    wpAny C.M A (compareOp op v w) (OkP C (f.env L :: outer) σ s Q) E s := by
  have I := c.inv
  have hu : A.units + 65 < cLine := by have := c.bud.2; lia
  have R : ∀ t, OkP C (f.env L :: outer) σ s Q (.bool b) { s with toks := t } := fun t => ⟨_, _, h, c.nx, .bool b⟩
  generalize OkP C (f.env L :: outer) σ s Q = P at R ⊢
  have R0 := R s.toks
  cases e with
  | eq e => exact Zzb O I hu rp rq e true R0
  | ne e => exact Zzb O I hu rp rq e false R0
  | in_ e => obtain ⟨_, rfl⟩ := Zgz rp; exact Zza O I (by lia) rq e false R
  | notIn e => obtain ⟨_, rfl⟩ := Zgz rp; exact Zza O I (by lia) rq e true R
  | is => obtain rfl := Znt rq; exact Zyz rp true R0
  | isNot => obtain rfl := Znt rq; exact Zyz rp false R0
  | lt => obtain ⟨_, rfl⟩ := Zap rp; obtain ⟨_, rfl⟩ := Zap rq; exact PyProof.Rows.lt_int R0
  | le => obtain ⟨_, rfl⟩ := Zap rp; obtain ⟨_, rfl⟩ := Zap rq; exact PyProof.Rows.le_int R0
  | gt => obtain ⟨_, rfl⟩ := Zap rp; obtain ⟨_, rfl⟩ := Zap rq; exact PyProof.Rows.gt_int R0
  | ge => obtain ⟨_, rfl⟩ := Zap rp; obtain ⟨_, rfl⟩ := Zap rq; exact PyProof.Rows.ge_int R0
end
section
variable {C : Cx} {K : Frag} {G : Pg} {kf : Addr} {f : FI} {A : Around} {L : Addr} {outer : List Env} {st : Bool} {d : Nat} {lo : Loc} {σ σ₁ : Store} {s s₁ : Shared} {Q : QV} {X : XV'} {E : Value → Shared → Prop}
theorem Ziz (i : Ex) (o x : Value) : subscripted i.to false o x = operate [o, x] (getItem o x) := by cases i <;> rfl
theorem Zgb {i : Int} {n j : Nat} (e : Zdx i n = some j) : seqIndex? i n = some j ∧ -1000000 ≤ i ∧ i < 1000000 ∧ j < n := by
  unfold Zdx at e
  unfold seqIndex?
  by_cases h : 0 ≤ i ∧ i < 1000000 ∧ i < n
  · rw [if_pos h] at e
    obtain rfl := so e
    have h1 : ¬ i < 0 := by lia
    simp only [h1, if_false]
    rw [if_pos (by simp; lia)]
    exact ⟨rfl, by lia, h.2.1, by lia⟩
  · rw [if_neg h] at e
    by_cases k : -1000000 ≤ i ∧ i < 0 ∧ -(n : Int) ≤ i
    · rw [if_pos k] at e
      obtain rfl := so e
      simp only [k.2.1, if_true]
      rw [if_pos (by simp; lia)]
      exact ⟨rfl, by lia, by lia, by lia⟩
    · rw [if_neg k] at e; contradiction
theorem slot_dict_getitem' : typeLookup (.type "dict") (Str.ofString "__getitem__") = pure (some (.builtin "dict.__getitem__")) := F.slot_dict_getitem.lookup
theorem Zhf {h : Heap} {vs : List PV} {items : List Value} {i : Int} {r : PV} (hr : VRels h vs items) (e : Zbm vs i = some r) : ∃ j x, seqIndex? i items.length = some j ∧ items[j]? = some x ∧ VRel h r x ∧ -1000000 ≤ i ∧ i < 1000000 := by
  unfold Zbm at e
  obtain ⟨j, hj, e⟩ := Option.bind_eq_some_iff.mp e
  obtain ⟨h1, h2, h3, h4⟩ := Zgb hj
  obtain ⟨x, hx, rx⟩ := hr.get e
  exact ⟨j, x, by rw [hr.length]; exact h1, hx, rx, h2, h3⟩
theorem Zlp {a : Addr} {items : Array Value} {i : Int} {tk : Tok} {j : Nat} {x : Value} {R : Value → Shared → Prop} (hl : s.heap.IsList a items) (h1 : seqIndex? i items.size = some j) (hx : items[j]? = some x) (l1 : -1000000 ≤ i) (l2 : i < 1000000) (h : R x s) : wpAny C.M A (getItem (.ref a) (.int i tk)) R E s := by
  unfold seqIndex? at h1
  by_cases k : i < 0
  · simp only [k, if_true] at h1
    split at h1 <;> cases h1
    rename_i k2
    simp at k2
    exact wpAny_getItem_list_neg hl k (by lia) (by lia) hx h
  · simp only [k, if_false] at h1
    split at h1 <;> cases h1
    exact wpAny_getItem_list hl (by lia) (by lia) hx h
noncomputable def Zacg (C : Cx) (A : Around) (v w : Value) (R : Value → Shared → Prop) (E : Value → Shared → Prop) (s : Shared) : Prop := ∃ T id, s.TypeIs v T ∧ typeLookup (.type T) (Str.ofString "__getitem__") = pure (some (.builtin id)) ∧ wpAny C.M A (getItem v w) R E s
theorem Zada (O : Ok C K G kf) (I : Inv C outer σ s.heap) {p q r : PV} {v w : Value} (rp : VRel s.heap p v) (rq : VRel s.heap q w) (e : Item G σ p q r) {R : Value → Shared → Prop} (h : ∀ x t, VRel s.heap r x → R x { s with toks := t }) :
    Zacg C A v w R E s := by
  cases e with
  | tup e =>
    obtain ⟨_, rfl⟩ := Zap rq
    obtain ⟨_, _, _, _, he, hc, hdd, hr⟩ := Zdv rp
    obtain ⟨j, x, h1, hx, rx, l1, l2⟩ := Zhf hr e
    exact ⟨"tuple", _, ⟨_, he, hc⟩, F.slot_tuple_getitem.lookup, getItem_tuple ⟨_, he, hc, _, hdd⟩ (by lia) (by lia) (by rw [List.size_toArray]; exact h1) (by simpa using hx) (h x s.toks rx)⟩
  | list hs e =>
    obtain ⟨_, rfl⟩ := Zap rq
    obtain rfl := Zau rp
    obtain ⟨_, items, n, hl, hr⟩ := I.sto _ _ hs
    obtain ⟨j, x, h1, hx, rx, l1, l2⟩ := Zhf hr e
    exact ⟨"list", _, ⟨_, hl, rfl⟩, slot_list_getitem.lookup, Zlp hl.isList h1 (by rw [← Array.getElem?_toList]; exact hx) l1 l2 (h x s.toks rx)⟩
  | dict hs e =>
    obtain ⟨_, rfl⟩ := Zgz rq
    obtain rfl := Zau rp
    obtain ⟨_, kvs, D, hr⟩ := I.sto _ _ hs
    obtain ⟨x, hx, rx⟩ := (hr.val _).1 _ e
    exact ⟨"dict", _, D.typeIs, slot_dict_getitem', wpAny_getItem_of (strKind_is _ _ _ _) D.mapOf hx (h x _ rx)⟩
  | cd hs e =>
    obtain ⟨_, rfl⟩ := Zgz rq
    obtain rfl := cdE rp
    obtain ⟨kvs, D, hr⟩ := Zfa O I hs
    obtain ⟨x, hx, rx⟩ := (hr.val _).1 _ e
    exact ⟨"dict", _, D.typeIs, slot_dict_getitem', wpAny_getItem_of (strKind_is _ _ _ _) D.mapOf hx (h x _ rx)⟩
theorem Zacz (O : Ok C K G kf) (c : Cur C f A L outer st d lo σ s) {value : Expr} {i : Ex} {p q r : PV} {v w : Value} (rp : VRel s.heap p v) (rq : VRel s.heap q w) (e : Item G σ p q r) (h : Q r σ) :
    wpAny C.M A (subscriptTail value i.to v w) (OkP C (f.env L :: outer) σ s Q) E s := by
  obtain ⟨T, id, h1, h2, h3⟩ := Zada (A := A) (E := E) (R := OkP C (f.env L :: outer) σ s Q) O c.inv rp rq e fun x t rx => ⟨_, _, h, c.nx, rx⟩
  exact tail_any h1 h2 h3 (Ziz i v w)
theorem Zoh {a : Int} (h : Zaq a = true) : Builtin.Int.intBits a ≤ 64 := by
  have h := of_decide_eq_true h
  exact intBits_le_64 (by lia) (by lia)
theorem Zfr {h : Heap} {p : PV} {v : Value} {n : Nat} (r : VRel h p v) (e : isStrP p = some n) : ∃ x t, v = .str x t ∧ x.length ≤ n := by
  cases r with
  | tag m t => obtain rfl := so e; exact ⟨_, _, rfl, Zzk m⟩
  | msg k => obtain rfl := so e; exact ⟨_, _, rfl, k⟩
  | _ => contradiction
theorem Zabb {a b : Int} (h : Zaq a = true) : IntMulOk a b := by
  unfold IntMulOk
  have h1 := Zoh h
  have : decide (Builtin.Int.intBits a > shortFactorBits) = false := decide_eq_false (by show ¬ _ > 64; lia)
  rw [this]; simp
theorem Zabq (c : Cur C f A L outer st d lo σ s) {a b : Addr} {xs ys : List PV} (hx : σ a = some (.list xs)) (hy : σ b = some (.list ys)) (hl : xs.length + ys.length ≤ 1000) (e : Zah σ (.list (xs ++ ys)) Q) :
    wpAny C.M A (binaryOp .Add (.ref a) (.ref b)) (OkP C (f.env L :: outer) σ s Q) E s := by
  obtain ⟨_, i, n, la, ra⟩ := c.inv.sto a _ hx
  obtain ⟨_, j, m, lb, rb⟩ := c.inv.sto b _ hy
  have n0 := Zao s.heap
  have si : i.size = xs.length := by rw [← Array.length_toList]; exact ra.length
  have sj : j.size = ys.length := by rw [← Array.length_toList]; exact rb.length
  have mo : TupKeep s.heap (s.heap.push { cls := .type "list", data := .seq (i ++ j) }) := fun b x e _ => Heap.get?_push_of_some _ e
  exact P.add_list la lb ⟨_, _, e _ (c.inv.freshAt n0), (Nx.pushed c.inv _).track n0 ⟨i ++ j, 0, Heap.get?_push_size _ rfl, by rw [Array.toList_append]; exact (ra.mono mo).append (rb.mono mo)⟩ c.inv.size, .obj _⟩ (Zat (by rw [si, sj]; exact hl))
theorem Zabp (c : Cur C f A L outer st d lo σ s) {p q : PV} {v w : Value} {n m : Nat} (rp : VRel s.heap p v) (rq : VRel s.heap q w) (hn : isStrP p = some n) (hm : isStrP q = some m) (hl : n + m ≤ 100000) (e : Q (.msg (n + m)) σ) :
    wpAny C.M A (binaryOp .Add v w) (OkP C (f.env L :: outer) σ s Q) E s := by
  obtain ⟨x, t, rfl, lx⟩ := Zfr rp hn
  obtain ⟨y, u, rfl, ly⟩ := Zfr rq hm
  exact add_str (fun t' tk => ⟨_, _, e, c.nx, .msg (by rw [Str.length_append]; exact Nat.add_le_add lx ly)⟩) (Nat.le_trans (Nat.add_le_add lx ly) (Nat.le_trans hl (by decide)))
theorem Zjv (c : Cur C f A L outer st d lo σ s) {i : Int} (h : Q (.int i) σ) (t u : Tok) : OkP C (f.env L :: outer) σ s Q (.int i t) { s with toks := u } := ⟨_, _, h, c.nx, .int _ _⟩
theorem Zadb (c : Cur C f A L outer st d lo σ s) {op : Operator} {p q : PV} {v w : Value} (rp : VRel s.heap p v) (rq : VRel s.heap q w) (e : Binop σ Q op p q) :
    wpAny C.M A (binaryOp op v w) (OkP C (f.env L :: outer) σ s Q) E s := by
  cases e with
  | add e => obtain ⟨_, rfl⟩ := Zap rp; obtain ⟨_, rfl⟩ := Zap rq; exact add_int (Zjv c e _ _)
  | sub e => obtain ⟨_, rfl⟩ := Zap rp; obtain ⟨_, rfl⟩ := Zap rq; exact sub_int (Zjv c e _ _)
  | mul h k e => obtain ⟨_, rfl⟩ := Zap rp; obtain ⟨_, rfl⟩ := Zap rq; exact mul_int (Zjv c e _ _) (Zabb h)
  | mod h e => obtain ⟨_, rfl⟩ := Zap rp; obtain ⟨_, rfl⟩ := Zap rq; exact mod_int' (by lia) (by rw [Int.fmod_eq_emod_of_nonneg _ (Int.le_of_lt h)]; exact Zjv c e _ _)
  | lists hx hy hl e => obtain rfl := Zau rp; obtain rfl := Zau rq; exact Zabq c hx hy hl e
  | txts hn hm hl e => exact Zabp c rp rq hn hm hl e
end
section
variable {prog : Program} {w : World} {A : Around} {E : Value → Shared → Prop} {s : Shared}
theorem Zoe {l : Addr} {T : String} {o : Obj} {vs : List Value} {n : Nat} {ss : List Str} {R : Value → Shared → Prop} (hT : T = "list" ∨ T = "tuple") (ho : s.heap.get? l = some o) (hc : o.cls = .type T) (hd : o.data = .seq vs.toArray n)
    (hS : StrsAre vs ss) (h64 : vs.length < 64)
    (h : ∀ D c h' (out : Array Value) (ss' : List Str), (∀ b x, s.heap.get? b = some x → h'.get? b = some x) → s.heap.get? D = none → (∀ b x, s.heap.get? b = some x → b < D) → IsL h' D out c → StrsAre out.toList ss' → ss'.Perm ss → sortedS ss' = true → R (.ref D) { s with heap := h' }) :
    wpAny (model prog w) A (call (.builtin "sorted") [.ref l]) R E s := by
  refine Calls.call_function_entry kind_sorted plain_sorted entry_sorted (args_sorted1 _) ?_
  refine wpAny_bind (m := checkCount "sorted" 1 1 _) (wpAny_pure ?_)
  refine wpAny_bind (wpAny_collect_seq l hT ho hc hd (fun h₁ hk => ?_) (by rw [List.size_toArray, sizeLine_eq]; lia))
  refine wpAny_bind (wpAny_newList ?_ (by rw [sizeLine_eq]; simp; lia))
  have hoL : (h₁.push (seqObj "list" vs.toArray 0)).get? h₁.objs.size = some (seqObj "list" vs.toArray 0) := Heap.get?_push_size _ rfl
  have hkk : ∀ v₁ v₂ rest, vs = v₁ :: v₂ :: rest → keyKind' (v₁ :: v₂ :: rest).toArray = pure oneType' := fun v₁ v₂ rest e => keyKind_strs (by rw [← e]; exact hS)
  refine wpAny_bind (wpAny_holding (wpAny_call_entry (s := { s with heap := h₁.push (seqObj "list" vs.toArray 0) }) slot_list_sort ⟨_, hoL, rfl⟩ entry_list_sort (list_sort_treeK strKind_oneLt hoL hS.keysOf hkk h64 fun st' a1 a2 => ⟨_, rfl, ?_⟩) (args_list_sort _)))
  obtain ⟨ss', b1, b2, b3⟩ := sorted_out_str hS a1 a2
  obtain ⟨c, hc'⟩ := sortedHeap_at (out := (arrOf st').map (·.2)) hoL
  have n0 : s.heap.get? h₁.objs.size = none := by
    cases q : s.heap.get? h₁.objs.size with
    | none => rfl
    | some x => exact absurd (Heap.lt_size (hk _ _ q)) (Nat.lt_irrefl _)
  refine wpAny_pure ⟨_, rfl, h h₁.objs.size c _ _ ss' (fun b x e => ?_) n0 (fun b x e => Heap.lt_size (hk b x e)) hc' b1 b2 b3⟩
  · have e1 := hk b x e
    have e2 : (h₁.push (seqObj "list" vs.toArray 0)).get? b = some x := Heap.get?_push_of_some _ e1
    exact (sortedHeap_old (Nat.ne_of_lt (Heap.lt_size e1)) (Heap.lt_size e2)).trans e2
end
open Classical in
noncomputable def Zgy (x : Str) : Nat := if h : ∃ n, tg n = x then h.choose else 0
theorem untg_tg (n : Nat) : Zgy (tg n) = n := by
  have h : ∃ m, tg m = tg n := ⟨n, rfl⟩
  unfold Zgy
  rw [dif_pos h]
  exact Zjz h.choose_spec
theorem Zmo {ss : List Str} {ns : List Nat} (p : ss.Perm (ns.map tg)) : ∃ ms : List Nat, ms.Perm ns ∧ ss = ms.map tg := by
  refine ⟨ss.map Zgy, ?_, ?_⟩
  · have := p.map Zgy
    rw [List.map_map] at this
    have e : Zgy ∘ tg = id := by funext n; exact untg_tg n
    rw [e, List.map_id] at this
    exact this
  · rw [List.map_map]
    have : ∀ x ∈ ss, (tg ∘ Zgy) x = x := fun x hx => by
      obtain ⟨n, _, rfl⟩ := List.mem_map.mp (p.mem_iff.mp hx)
      show tg (Zgy (tg n)) = tg n
      rw [untg_tg]
    rw [List.map_congr_left this, List.map_id']
theorem Ziy {p : PV} {r : List PV} {ns : List Nat} (e : tagsOf (p :: r) = some ns) : ∃ n m, p = .tag n ∧ tagsOf r = some m ∧ ns = n :: m := by
  cases p
  case tag n =>
    rw [Zpc] at e
    cases q : tagsOf r with
    | none => rw [q] at e; contradiction
    | some m => rw [q] at e; obtain rfl := so e; exact ⟨n, m, rfl, rfl, rfl⟩
  all_goals contradiction
theorem Zid {h : Heap} {ps : List PV} : ∀ {ns : List Nat} {vs : List Value}, tagsOf ps = some ns → VRels h ps vs → StrsAre vs (ns.map tg) := by
  induction ps with
  | nil => intro ns vs e r; obtain rfl := so e; obtain rfl := Zcd r; exact .nil
  | cons p r ih =>
    intro ns vs e rr
    obtain ⟨n, m, rfl, h1, rfl⟩ := Ziy e
    obtain ⟨_, _, y, z⟩ := Zbg rr
    obtain ⟨_, rfl⟩ := Zgz y
    exact .cons _ _ (ih h1 z)
theorem Zip {h : Heap} : ∀ {vs : List Value} {ns : List Nat}, StrsAre vs (ns.map tg) → VRels h (ns.map .tag) vs
  | _, [], h => by cases h; exact .nil
  | _, n :: r, h => by cases h with | cons y t r' => exact .cons (.tag n t) (Zip r')
theorem Zoc {ps : List PV} : ∀ {ns : List Nat}, tagsOf ps = some ns → ps.length = ns.length := by
  induction ps with
  | nil => intro ns e; obtain rfl := so e; rfl
  | cons p r ih =>
    intro ns e
    obtain ⟨n, m, rfl, h1, rfl⟩ := Ziy e
    exact congrArg (· + 1) (ih h1)
section
variable {C : Cx} {K : Frag} {G : Pg} {kf : Addr} {f : FI} {A : Around} {L : Addr} {outer : List Env} {st : Bool} {d : Nat} {lo : Loc} {σ σ₁ : Store} {s s₁ : Shared} {Q : QV} {X : XV'} {E : Value → Shared → Prop}
theorem Cur.grown (c : Cur C f A L outer st d lo σ s) {h' : Heap} {t : Nat} {dr : Drawn} (hk : ∀ b x, s.heap.get? b = some x → h'.get? b = some x) : Nx C (f.env L :: outer) σ σ s { s with heap := h', drawn := dr, toks := t } := by
  obtain ⟨hL, o, es, n, h3, h4, h5⟩ := c.frame
  refine ⟨⟨fun b x e => hk b x (c.inv.base b x e), fun a x e => ⟨(c.inv.sto a x e).1, ?_⟩, fun env he => ?_, Nat.le_of_lt (Nat.lt_of_le_of_lt hL (Heap.lt_size (hk _ _ h3)))⟩, fun b x e _ => .inl (hk b x e), fun b x e => ⟨x, hk b x e⟩, fun _ h => .inl h, rfl, rfl⟩
  · have r := (c.inv.sto a x e).2
    obtain ⟨ob, h1, _⟩ := r.there
    exact r.move (fun b y e _ => hk b y e) ((hk _ _ h1).trans h1.symm)
  · obtain ⟨k, L, ob, es, n, f, l, e, c, d⟩ := c.inv.frs env he
    exact ⟨k, L, ob, es, n, f, l, hk _ _ e, c, d⟩
theorem Cur.low (c : Cur C f A L outer st d lo σ s) {D : Addr} (h : ∀ b x, s.heap.get? b = some x → b < D) : C.h₀.objs.size ≤ D := by
  obtain ⟨hL, o, es, n, h3, h4, h5⟩ := c.frame
  exact Nat.le_of_lt (Nat.lt_of_le_of_lt hL (h _ _ h3))
theorem Zis {n : Nat} (h : n ≤ 1000) : (n : Int) < 2 ^ 63 := by lia
inductive SeqAtP (s : Shared) (v : Value) (vs : List PV) : Prop
  | mk (a : Addr) (T : String) (o : Obj) (items : Array Value) (n : Nat) (e : v = .ref a) (hT : T = "list" ∨ T = "tuple") (ho : s.heap.get? a = some o) (hc : o.cls = .type T) (hd : o.data = .seq items n) (r : VRels s.heap vs items.toList) (h1 : T = "list" → s.heap.IsList a items) (h2 : T = "tuple" → IsTup s.heap a items)
theorem Zka (I : Inv C outer σ s.heap) {p : PV} {v : Value} {vs : List PV} (r : VRel s.heap p v) (e : ListP σ p vs) : SeqAtP s v vs := by
  cases e with
  | tup e =>
    subst e
    obtain ⟨a, ob, n, items, he, hc, hdd, hr⟩ := Zdv r
    exact ⟨a, "tuple", _, items.toArray, n, rfl, .inr rfl, he, hc, hdd, by simpa using hr, fun q => by simp at q, fun _ => ⟨_, he, hc, n, hdd⟩⟩
  | list a e hs =>
    subst e
    obtain rfl := Zau r
    obtain ⟨_, items, n, hl, hr⟩ := I.sto a _ hs
    exact ⟨a, "list", _, items, n, rfl, .inl rfl, hl, rfl, rfl, hr, fun _ => hl.isList, fun q => by simp at q⟩
theorem Zack (c : Cur C f A L outer st d lo σ s) {p : PV} {v : Value} {vs : List PV} (r : VRel s.heap p v) (e : ListP σ p vs) (hl : vs.length ≤ 1000) (q : Q (.int vs.length) σ) :
    wpAny C.M A (call (.builtin "len") [v]) (OkP C (f.env L :: outer) σ s Q) E s := by
  obtain ⟨a, T, o, items, n, rfl, hT, ho, hc, hd, hr, h1, h2⟩ := Zka c.inv r e
  have hs : items.size = vs.length := by rw [← Array.length_toList]; exact hr.length
  have fin : ∀ t u, OkP C (f.env L :: outer) σ s Q (.int items.size t) { s with toks := u } := fun t u => ⟨_, _, q, c.nx, by rw [hs]; exact .int _ _⟩
  rcases hT with rfl | rfl
  · exact len_list (h1 rfl) (by rw [hs]; exact Zis hl) (fin _ _)
  · exact len_tuple (h2 rfl) (by rw [hs]; exact Zis hl) (fin _ _)
theorem Zzn (c : Cur C f A L outer st d lo σ s) {p : PV} {v : Value} {vs : List PV} (r : VRel s.heap p v) (e : ListP σ p vs) (hl : vs.length ≤ 1000) (q : Zah σ (.list vs) Q) :
    wpAny C.M A (call (.type "list") [v]) (OkP C (f.env L :: outer) σ s Q) E s := by
  obtain ⟨a, T, o, items, n, rfl, hT, ho, hc, hd, hr, h1, h2⟩ := Zka c.inv r e
  have hs : items.size = vs.length := by rw [← Array.length_toList]; exact hr.length
  have n0 := Zao s.heap
  refine call_list_seq a hT ho hc hd (fun h' c' hk hD => ?_) (Zat (by rw [hs]; exact hl))
  exact ⟨_, _, q _ (c.inv.freshAt n0), (c.grown hk).track n0 ⟨items, c', hD, hr.mono fun b x e _ => hk b x e⟩ c.inv.size, .obj _⟩
theorem Zqo (c : Cur C f A L outer st d lo σ s) {a : Addr} {vs : List PV} (e : σ a = some (.list vs)) (hl : vs.length ≤ 1000) (q : Q (.tup vs) σ) :
    wpAny C.M A (call (.type "tuple") [.ref a]) (OkP C (f.env L :: outer) σ s Q) E s := by
  obtain ⟨_, items, n, hi, hr⟩ := c.inv.sto a _ e
  have hs : items.size = vs.length := by rw [← Array.length_toList]; exact hr.length
  refine call_tuple_list hi.isList (fun h' hk => ?_) (Zat (by rw [hs]; exact hl))
  have N := c.grown (t := s.toks) (dr := s.drawn) hk
  have c' := c.next N
  exact ⟨_, _, q, N.trans (Nx.pushed (s := { s with heap := h' }) c'.inv _), .tup (n := 0) (items := items.toList) (Heap.get?_push_size _ rfl) rfl rfl (hr.mono fun b x e _ => Heap.get?_push_of_some _ (hk b x e))⟩
theorem Zsr (c : Cur C f A L outer st d lo σ s) {p : PV} {v : Value} {vs : List PV} {ns : List Nat} (r : VRel s.heap p v) (e : ListP σ p vs) (k : tagsOf vs = some ns) (hl : ns.length < 60) (q : Zde σ ns Q) :
    wpAny C.M A (call (.builtin "sorted") [v]) (OkP C (f.env L :: outer) σ s Q) E s := by
  obtain ⟨a, T, o, items, n, rfl, hT, ho, hc, hd, hr, h1, h2⟩ := Zka c.inv r e
  refine Zoe (vs := items.toList) hT ho hc (by simpa using hd) (Zid k hr) (by rw [hr.length, Zoc k]; lia) fun D c' h' out ss' hk n0 hlt hD hS hp hso => ?_
  obtain ⟨ms, hm, rfl⟩ := Zmo hp
  exact ⟨_, _, q ms hm hso _ (c.inv.freshAt n0), (c.grown hk).track n0 ⟨out, c', hD, Zip hS⟩ (c.low hlt), .obj _⟩
theorem Zit (I : Inv C outer σ s.heap) {a cl dd : Addr} {es : List (Nat × PV)} (e : σ a = some (.inst cl dd)) (e' : σ dd = some (.attrs es)) : ∃ ents n, W.InstAt s.heap a ⟨.ref cl, some dd, .plain, #[]⟩ cl (some (dictOf ents n)) ∧ ARels s.heap es ents := by
  obtain ⟨_, h1⟩ := I.sto a _ e
  obtain ⟨_, ents, n, h2, h3⟩ := I.sto dd _ e'
  exact ⟨ents, n, ⟨h1, rfl, rfl, h2⟩, h3⟩
theorem ARels.noRef {h : Heap} {es : List (Nat × PV)} {ents : List DictEntry} (r : ARels h es ents) : ents.any (·.refKey) = false := by
  induction r with
  | nil => rfl
  | cons k _ _ ih =>
    obtain ⟨tk, hk⟩ := k
    rw [List.any_cons, ih, Bool.or_false]
    unfold DictEntry.refKey
    rw [hk]
theorem ARels.find {h : Heap} {es : List (Nat × PV)} {ents : List DictEntry} (r : ARels h es ents) (t : Nat) : (∀ p, Loc.get es t = some p → ∃ e, ents.find? (·.key.isStr (tg t)) = some e ∧ VRel h p e.val) ∧ (Loc.get es t = none → ents.find? (·.key.isStr (tg t)) = none) := by
  induction r with
  | nil => exact ⟨fun p e => (by contradiction), fun _ => rfl⟩
  | @cons u p v ps vs k a r ih =>
    obtain ⟨tk, hk⟩ := k
    have ek : v.key.isStr (tg t) = (tg u == tg t) := by rw [hk]; rfl
    rw [Zbn, List.find?_cons, ek]
    by_cases z : u = t
    · rw [if_pos z, z, beq_self_eq_true]
      exact ⟨fun p' e => ⟨v, rfl, so e ▸ a⟩, fun e => (by contradiction)⟩
    · rw [if_neg z, beq_eq_false_iff_ne.mpr (Zcm z)]
      exact ih
theorem ARels.val {h : Heap} {es : List (Nat × PV)} {ents : List DictEntry} (r : ARels h es ents) (t : Nat) : (∀ p, Loc.get es t = some p → ∃ v, getL (tg t) ents = some (some v) ∧ VRel h p v) ∧ (Loc.get es t = none → getL (tg t) ents = some none) := by
  obtain ⟨h1, h2⟩ := r.find t
  refine ⟨fun p e => ?_, fun e => ?_⟩
  · obtain ⟨x, e1, e2⟩ := h1 p e
    exact ⟨x.val, by unfold getL; rw [e1], e2⟩
  · unfold getL
    rw [h2 e]
    dsimp only
    rw [r.noRef, if_neg (by decide)]
theorem VRel.handed {h : Heap} {p : PV} {v : Value} (r : VRel h p v) : handedIn v = true := by cases r <;> rfl
theorem Zzp (O : Ok C K G kf) (c : Cur C f A L outer st d lo σ s) {a cl dd : Addr} {es : List (Nat × PV)} {t : Nat} {r : PV} {ex : Bool} {R : Value → Shared → Prop} (e : σ a = some (.inst cl dd)) (e' : σ dd = some (.attrs es)) (g : Loc.get es t = some r) (k : G.at_ cl t = true)
    (q : ∀ x u, VRel s.heap r x → R x { s with toks := u }) : wpAny C.M A (getAttr (.ref a) (tg t) ex) R E s := by
  obtain ⟨ents, n, I, hA⟩ := Zit c.inv e e'
  obtain ⟨x, h1, h2⟩ := (hA.val t).1 r g
  obtain ⟨k1, k2, attr, k3, k4⟩ := O.at_ cl t k
  obtain ⟨m, F, _⟩ := c.fr
  exact get_own F O.inn I k1 k2 k3 k4 h1 h2.handed (q x _ h2)
theorem Zpd (O : Ok C K G kf) (c : Cur C f A L outer st d lo σ s) {a cl dd m fa : Addr} {es : List (Nat × PV)} {pl : Sem Bool} {R : Value × List Value → Shared → Prop} (e : σ a = some (.inst cl dd)) (e' : σ dd = some (.attrs es)) (g : Loc.get es m = none) (k : G.mt cl m = some fa)
    (q : R (.ref fa, [.ref a]) s) : wpAny C.M A (getMethod (.ref a) (tg m) pl) R E s := by
  obtain ⟨ents, n, I, hA⟩ := Zit c.inv e e'
  obtain ⟨k1, k2, k3, _⟩ := O.mt cl m fa k
  obtain ⟨m', F, _⟩ := c.fr
  exact method_inst F O.inn I k1 k2 k3 ((hA.val m).2 g) q
end
section
variable {prog : Program} {w : World} {A : Around} {E : Value → Shared → Prop} {s : Shared}
theorem Zmf (u n : Nat) (h : u < n) : Builtin.Slice.sliceAdjust none (some (u : Int)) 1 (n : Int) = (0, (u : Int)) := by
  unfold Builtin.Slice.sliceAdjust
  have h1 : ¬ ((1 : Int) < 0) := by lia
  have h2 : ¬ ((u : Int) < 0) := by lia
  simp only [h1, h2, if_false]
  congr 1
  lia
theorem Zma (u : Nat) : Builtin.Slice.slicePlaces 0 (u : Int) 1 = u := by
  unfold Builtin.Slice.slicePlaces
  have h1 : (1 : Int) > 0 := by lia
  simp only [h1, if_true, Int.ediv_one]
  split <;> lia
theorem Zlr {sl : Addr} {u n : Nat} {t : Tok} {R : Int × Int × Nat → Shared → Prop} (hs : s.heap.IsSliceOf sl .none (.int u t) .none) (h0 : u < n) (h : R (0, 1, u) s) :
    wpAny (model prog w) A (Builtin.Slice.sliceApplied (.ref sl) (pure (n : Int))) R E s := by
  obtain ⟨os, hos, hcs, hds⟩ := id hs
  refine wpAny_bind (wpAny_bind (wpAny_field hos hds (x := .none) rfl (wpAny_bind (wpAny_field hos hds (x := .int u t) rfl (wpAny_bind (wpAny_field hos hds (x := .none) rfl (wpAny_pure ?_)))))))
  refine wpAny_bind (slicePart_none ?_)
  show wpAny _ _ (if ((1 : Int) == 0) = true then _ else _) _ _ s
  rw [if_neg (by decide)]
  refine wpAny_bind (slicePart_none (wpAny_bind (slicePart_int (wpAny_bind (wpAny_pure ?_)))))
  show wpAny _ _ (match Builtin.Slice.sliceAdjust none (some (u : Int)) 1 (n : Int) with | (lo, hi) => pure (lo, (1 : Int), Builtin.Slice.slicePlaces lo hi 1)) _ _ s
  rw [Zmf u n h0]
  show wpAny _ _ (pure ((0 : Int), (1 : Int), Builtin.Slice.slicePlaces 0 (u : Int) 1)) _ _ s
  rw [Zma u]
  exact wpAny_pure h
theorem Zrg (xs : Array Value) (u : Nat) : ((List.range u).filterMap fun (k : Nat) => xs[((0 : Int) + (k : Int) * 1).toNat]?).toArray = (xs.toList.take u).toArray := by
  have e : (fun (k : Nat) => xs[((0 : Int) + (k : Int) * 1).toNat]?) = fun k => xs[k]? := by
    funext k
    have : ((0 : Int) + (k : Int) * 1).toNat = k := by lia
    rw [this]
  rw [e]
  have := pick_run xs 0 u
  rw [List.filterMap_map] at this
  have e2 : ((fun x => xs[x]?) ∘ fun x => 0 + x) = fun k => xs[k]? := by funext k; show xs[0 + k]? = xs[k]?; rw [Nat.zero_add]
  rw [e2] at this
  rw [this, List.drop_zero]
theorem Zsn {t sl : Addr} {items : Array Value} {u : Nat} {tk : Tok} {R : Value → Shared → Prop} (ht : IsTup s.heap t items) (hs : s.heap.IsSliceOf sl .none (.int u tk) .none) (ha : u < items.size)
    (h : R (.ref s.heap.objs.size) { s with heap := s.heap.push { cls := .type "tuple", data := .seq (items.toList.take u).toArray } })
    (hsz : items.size ≤ sizeLine) : wpAny (model prog w) A (getItem (.ref t) (.ref sl)) R E s := by
  have hk : sizeOk (.seq (items.toList.take u).toArray) := by
    show (items.toList.take u).toArray.size ≤ sizeLine
    rw [List.size_toArray, List.length_take, Array.length_toList]
    lia
  obtain ⟨os, hos, hcs, hds⟩ := id hs
  have hTs : s.TypeIs (.ref sl) "slice" := ⟨os, hos, hcs⟩
  refine wpAny_holding ?_
  refine wpAny_bind (wpAny_sequenceKey ht.typeIs (by decide) ?_)
  refine wpAny_bind (wpAny_callSpecial?_slot (name := Str.ofString "__getitem__") ht.typeIs F.slot_tuple_getitem
    (wpAny_call_entry F.slot_tuple_getitem ht.typeIs F.entry_tuple_getitem ?_ (args_tuple_getitem _ _)))
  show wpAny _ _ (Builtin.Tuple.tupleItemsOf (.ref t) >>= _) _ _ s
  refine wpAny_bind (tupleItemsOf_ ht ?_)
  refine wpAny_bind (wpAny_typeOf hTs ?_)
  rw [if_pos (by decide)]
  refine wpAny_bind (Zlr hs ha ?_)
  have hno : ¬ (((0 : Int) == 0 && (1 : Int) == 1 && u == items.size) = true) := by
    have : (u == items.size) = false := by rw [beq_eq_false_iff_ne]; lia
    rw [this]; simp
  show wpAny _ _ (if ((0 : Int) == 0 && (1 : Int) == 1 && u == items.size) = true then _ else _) _ _ s
  rw [if_neg hno, Zrg items u]
  first
    | exact wpAny_bind (m := Builtin.Tuple.tupleExact _) (wpAny_newObj_type (wpAny_pure ⟨_, rfl, wpAny_pure h⟩) hk)
    | exact wpAny_bind (m := Builtin.Tuple.tupleExact _) (wpAny_newObj_type (wpAny_bind (wpAny_pure (wpAny_pure ⟨_, rfl, wpAny_pure h⟩))) hk)
    | exact wpAny_bind (wpAny_bind (m := Builtin.Tuple.tupleExact _) (wpAny_newObj_type (wpAny_pure (wpAny_pure ⟨_, rfl, wpAny_pure h⟩)) hk))
end
theorem Zai (e : Ex) (r : List Expr) (env : Env) : starEach (e.to :: r) env = (false, eval e.to env) :: starEach r env := by cases e <;> rfl
theorem Zhd (p : Pos) (env : Env) : ∀ es : List Ex, ((backTo p (starEach (Ex.tos es) env)).any fun x => x.1) = false
  | [] => rfl
  | e :: r => by
    show ((backTo p (starEach (_ :: Ex.tos _) env)).any fun x => x.1) = false
    rw [Zai]
    show (((backTo p (starEach (Ex.tos r) env)).any fun x => x.1)) = false
    exact Zhd p env r
theorem Zci (p : Pos) (e : Ex) (r : List Ex) (env : Env) : backTo p (starEach (Ex.tos (e :: r)) env) = (false, eval e.to env) :: backTo p (starEach (Ex.tos r) env) := by
  show backTo p (starEach (_ :: Ex.tos r) env) = _
  rw [Zai]; rfl
theorem tos_len : ∀ es : List Ex, (Ex.tos es).length = es.length
  | [] => rfl
  | _ :: r => congrArg Nat.succ (tos_len r)
theorem Zik {o : Ex} (h : noCall o = true) (n : Str) (env : Env) (whole : Sem Value) : attributeBase o.to n env whole = whole := by
  cases o <;> first | rfl | contradiction
theorem Zie (p : Pos) (env : Env) : ∀ es : List Ex, (backTo p (starEach (Ex.tos es) env)).all (fun x => !x.1) = true
  | [] => rfl
  | e :: r => by rw [Zci]; exact Zie p env r
theorem Zku {o : Ex} {m : Str} {es : List Ex} {ap p : Pos} {env : Env} (h1 : noCall o = true) (h2 : es.length < 20) (h3 : (ap.endLine == p.line) = true) :
    eval (.Call (.Attribute o.to m ap) (Ex.tos es) [] p) env = (do
      let ov ← eval o.to env
      standAt ap.atName
      let (g, first) ← holding [ov] (getMethod ov m (do return (← importBound o.to env).getD true))
      callWith p g first (backTo p (starEach (Ex.tos es) env)) []) := by
  have hf : methodCallForm ((Ex.tos es).length + ([] : List Keyword).length) (backTo p (starEach (Ex.tos es) env)) (backToKw p (keywordEach [] env)) = true := by
    unfold methodCallForm
    rw [Zie, tos_len]
    show (true && true && decide (es.length + 0 + 0 < 30)) = true
    rw [decide_eq_true (by lia)]; rfl
  show (do
    let ov ← attributeBase o.to m env (eval o.to env)
    standAt ap.atName
    methodCall o.to m ap p env ov ((Ex.tos es).length + ([] : List Keyword).length) (backTo p (starEach (Ex.tos es) env)) (backToKw p (keywordEach [] env))) = _
  rw [Zik h1]
  unfold methodCall calleeOf methodCallPos
  rw [hf, h3]
  rfl
noncomputable def SpB (C : Cx) (kf : Addr) (S : Spec) (n : Nat) : Prop :=
  ∀ st d, d < n → ∀ a vs σ Q X, S st d a vs σ Q X → ∀ A outs s ws, Bud A (d + 1) → (st = true → A.handled = none) → A.frames = some outs → Inv C outs σ s.heap → VRels s.heap vs ws →
    wpAny C.M A (call (.ref a) ws) (OkP C outs σ s Q) (ErP C kf outs σ s X) s
section
variable {C : Cx} {kf : Addr} {A : Around} {outs : List Env} {σ : Store} {s : Shared} {X : XV'}
theorem andE {α : Type} {t : Sem Value} {t2 : Value → Sem α} {P : Value → Shared → Prop} {R : α → Shared → Prop} {E : Value → Shared → Prop}
    (h : wpAny C.M A t P E s) (k : ∀ v s₁, P v s₁ → wpAny C.M A (t2 v) R E s₁) : wpAny C.M A t (fun v s₁ => wpAny C.M A (t2 v) R E s₁) E s := wpAny_mono h k fun _ _ e => e
theorem Zen {Q2 : QV} {σ₁ : Store} {s₁ : Shared} {t : Sem Value} (N : Nx C outs σ σ₁ s s₁) (h : wpAny C.M A t (OkP C outs σ₁ s₁ Q2) (ErP C kf outs σ₁ s₁ X) s₁) : wpAny C.M A t (OkP C outs σ s Q2) (ErP C kf outs σ s X) s₁ :=
  wpAny_mono h (fun _ _ x => x.of N) fun _ _ x => x.of N
theorem Zkk {Q2 : Bool → Store → Prop} {σ₁ : Store} {s₁ : Shared} {t : Sem Bool} (N : Nx C outs σ σ₁ s s₁) (h : wpAny C.M A t (BoP C outs σ₁ s₁ Q2) (ErP C kf outs σ₁ s₁ X) s₁) : wpAny C.M A t (BoP C outs σ s Q2) (ErP C kf outs σ s X) s₁ :=
  wpAny_mono h (fun _ _ x => x.of N) fun _ _ x => x.of N
theorem Zht {Q2 : QV} {σ₁ : Store} {s₁ : Shared} {t : Sem Value} {E : Value → Shared → Prop} (N : Nx C outs σ σ₁ s s₁) (h : wpAny C.M A t (OkP C outs σ₁ s₁ Q2) E s₁) : wpAny C.M A t (OkP C outs σ s Q2) E s₁ :=
  wpAny_mono h (fun _ _ x => x.of N) fun _ _ x => x
end
theorem Zfp {Q : Bool → Store → Prop} {v : PV} {σ : Store} (h : trP Q v σ) : ∃ b, v = .bool b ∧ Q b σ := by
  cases v <;> first | exact h.elim | exact ⟨_, rfl, h⟩
section
variable (C : Cx) (K : Frag) (G : Pg) (kf : Addr) (S : Spec) (n : Nat)
noncomputable def SE (e : Ex) : Prop := ∀ (f : FI) (A : Around) (L : Addr) (outer : List Env) (st : Bool) (d : Nat) (lo : Loc) (σ : Store) (s : Shared) (Q : QV) (X : XV'), d ≤ n → okE f.scope e = true → Cur C f A L outer st d lo σ s → wpE G S st d e lo σ Q X →
  wpAny C.M A (eval e.to (f.env L)) (OkP C (f.env L :: outer) σ s Q) (ErP C kf (f.env L :: outer) σ s X) s
noncomputable def ST (e : Ex) : Prop := ∀ (f : FI) (A : Around) (L : Addr) (outer : List Env) (st : Bool) (d : Nat) (lo : Loc) (σ : Store) (s : Shared) (Q : Bool → Store → Prop) (X : XV'), d ≤ n → okE f.scope e = true → Cur C f A L outer st d lo σ s → wpE G S st d e lo σ (trP Q) X →
  wpAny C.M A (isTrue e.to (f.env L) (eval e.to (f.env L))) (BoP C (f.env L :: outer) σ s Q) (ErP C kf (f.env L :: outer) σ s X) s
noncomputable def SEs (es : List Ex) : Prop := ∀ (f : FI) (A : Around) (L : Addr) (outer : List Env) (st : Bool) (d : Nat) (lo : Loc) (σ : Store) (s : Shared) (p : Pos) (Q : List PV → Store → Prop) (X : XV'), d ≤ n → Zcc f.scope es = true → Cur C f A L outer st d lo σ s → Zz G S st d es lo σ Q X →
  wpAny C.M A (spliced (backTo p (starEach (Ex.tos es) (f.env L)))) (OksP C (f.env L :: outer) σ s Q) (ErP C kf (f.env L :: outer) σ s X) s
noncomputable def SB (es : List Ex) : Prop := ∀ (f : FI) (A : Around) (L : Addr) (outer : List Env) (st : Bool) (d : Nat) (lo : Loc) (σ : Store) (s : Shared) (op : PySem.BoolOp) (p : Pos) (Q : QV) (X : XV'), d ≤ n → Zcc f.scope es = true → Cur C f A L outer st d lo σ s → wpB G S st d op es lo σ Q X →
  wpAny C.M A (eval (.BoolOp op (Ex.tos es) p) (f.env L)) (OkP C (f.env L :: outer) σ s Q) (ErP C kf (f.env L :: outer) σ s X) s
noncomputable def SBT (es : List Ex) : Prop := ∀ (f : FI) (A : Around) (L : Addr) (outer : List Env) (st : Bool) (d : Nat) (lo : Loc) (σ : Store) (s : Shared) (op : PySem.BoolOp) (Q : Bool → Store → Prop) (X : XV'), d ≤ n → Zcc f.scope es = true → Cur C f A L outer st d lo σ s → wpB G S st d op es lo σ (trP Q) X →
  wpAny C.M A (allTrue op (Ex.tos es) (f.env L)) (BoP C (f.env L :: outer) σ s Q) (ErP C kf (f.env L :: outer) σ s X) s
noncomputable def SF (es : List Ex) : Prop := ∀ (f : FI) (A : Around) (L : Addr) (outer : List Env) (st : Bool) (d : Nat) (lo : Loc) (σ : Store) (s : Shared) (acc : Str) (k : Nat) (Q : Nat → Store → Prop) (X : XV'), d ≤ n → Zcc f.scope es = true → Cur C f A L outer st d lo σ s → acc.length ≤ k → k ≤ 100000 → wpF G S st d es lo σ k Q X →
  Joins C.M A (ErP C kf (f.env L :: outer) σ s X) (evalEach (Ex.tos es) (f.env L)) acc (fun out s' => ∃ m σ', out.length ≤ m ∧ m ≤ 100000 ∧ Q m σ' ∧ Nx C (f.env L :: outer) σ σ' s s') s
end
section
variable {C : Cx} {K : Frag} {G : Pg} {kf : Addr} {S : Spec} {n : Nat}
theorem Zacl {e : Ex} (h : SE C G kf S n e) (he : ∀ env whole, PySem.isTrue e.to env whole = (do let v ← whole; standAt e.to.pos; holding [v] (truthy v))) : ST C G kf S n e := by
  intro f A L outer st d lo σ s Q X hd ok c w
  refine wpAny_isTrue_value (andE (h f A L outer st d lo σ s _ X hd ok c w) fun v s₁ hv => ?_) (he _ _)
  obtain ⟨p, σ₁, q, N, r⟩ := hv
  obtain ⟨b, rfl, q⟩ := Zfp q
  obtain rfl := Zgk r
  exact wpAny_truthy_bool ⟨σ₁, q, N⟩
theorem Zks (op : CmpOp) (b : Ex) : behindInMarks op b.to = false := by cases b <;> rfl
theorem sb_nil : SB C G kf S n [] := fun _ _ _ _ _ _ _ _ _ _ _ _ _ _ _ _ w => w.elim
theorem Zws {e : Ex} {r : List Ex} (he : SE C G kf S n e) (hr : SB C G kf S n r) : SB C G kf S n (e :: r) := by
  intro f A L outer st d lo σ s op p Q X hd ok c w
  obtain ⟨ok1, ok2⟩ := Bool.and_eq_true_iff.mp ok
  cases r with
  | nil => exact BoolOp_one (he f A L outer st d lo σ s Q X hd ok1 c w)
  | cons e2 r =>
    have main := he f A L outer st d lo σ s (trP (Zct op (wpB G S st d op (e2 :: r) lo) Q X)) X hd ok1 c w
    have fin : ∀ v s₁, OkP C (f.env L :: outer) σ s (trP (Zct op (wpB G S st d op (e2 :: r) lo) Q X)) v s₁ → ∃ b σ₁, v = .bool b ∧ Nx C (f.env L :: outer) σ σ₁ s s₁ ∧ Zct op (wpB G S st d op (e2 :: r) lo) Q X b σ₁ := fun v s₁ hv => by
      obtain ⟨pv, σ₁, q, N, rv⟩ := hv
      obtain ⟨b, rfl, q⟩ := Zfp q
      obtain rfl := Zgk rv
      exact ⟨b, σ₁, rfl, N, q⟩
    have go : ∀ σ₁ s₁, Nx C (f.env L :: outer) σ σ₁ s s₁ → wpB G S st d op (e2 :: r) lo σ₁ Q X → wpAny C.M A (eval (.BoolOp op (Ex.tos (e2 :: r)) p) (f.env L)) (OkP C (f.env L :: outer) σ s Q) (ErP C kf (f.env L :: outer) σ s X) s₁ := fun σ₁ s₁ N q => Zen N (hr f A L outer st d lo σ₁ s₁ op p Q X hd ok2 (c.next N) q)
    cases op with
    | And =>
      refine BoolOp_and (wpAny_mono main (fun v s₁ hv => ?_) fun _ _ e => e)
      obtain ⟨b, σ₁, rfl, N, q⟩ := fin v s₁ hv
      refine wpAny_truthy_bool ?_
      cases b with
      | true => exact go σ₁ s₁ N q
      | false => exact ⟨_, _, q, N, .bool _⟩
    | Or =>
      refine BoolOp_or (wpAny_mono main (fun v s₁ hv => ?_) fun _ _ e => e)
      obtain ⟨b, σ₁, rfl, N, q⟩ := fin v s₁ hv
      refine wpAny_truthy_bool ?_
      cases b with
      | true => exact ⟨_, _, q, N, .bool _⟩
      | false => exact go σ₁ s₁ N q
theorem sbt_nil : SBT C G kf S n [] := fun _ _ _ _ _ _ _ _ _ _ _ _ _ _ _ w => w.elim
theorem Ztd {e : Ex} {r : List Ex} (he : ST C G kf S n e) (hr : SBT C G kf S n r) : SBT C G kf S n (e :: r) := by
  intro f A L outer st d lo σ s op Q X hd ok c w
  obtain ⟨ok1, ok2⟩ := Bool.and_eq_true_iff.mp ok
  cases r with
  | nil =>
    have main := he f A L outer st d lo σ s Q X hd ok1 c w
    cases op with
    | And =>
      refine wpAny_allTrue_And_cons (wpAny_mono main (fun b s₁ hb => ?_) fun _ _ e => e)
      cases b with
      | true => exact wpAny_allTrue_And_nil hb
      | false => exact hb
    | Or =>
      refine wpAny_allTrue_Or_cons (wpAny_mono main (fun b s₁ hb => ?_) fun _ _ e => e)
      cases b with
      | true => exact hb
      | false => exact wpAny_allTrue_Or_nil hb
  | cons e2 r =>
    have main := he f A L outer st d lo σ s (Zct op (wpB G S st d op (e2 :: r) lo) (trP Q) X) X hd ok1 c w
    have go : ∀ σ₁ s₁, Nx C (f.env L :: outer) σ σ₁ s s₁ → wpB G S st d op (e2 :: r) lo σ₁ (trP Q) X → wpAny C.M A (allTrue op (Ex.tos (e2 :: r)) (f.env L)) (BoP C (f.env L :: outer) σ s Q) (ErP C kf (f.env L :: outer) σ s X) s₁ := fun σ₁ s₁ N q => Zkk N (hr f A L outer st d lo σ₁ s₁ op Q X hd ok2 (c.next N) q)
    cases op with
    | And =>
      refine wpAny_allTrue_And_cons (wpAny_mono main (fun b s₁ hb => ?_) fun _ _ e => e)
      obtain ⟨σ₁, q, N⟩ := hb
      cases b with
      | true => exact go σ₁ s₁ N q
      | false => exact ⟨σ₁, q, N⟩
    | Or =>
      refine wpAny_allTrue_Or_cons (wpAny_mono main (fun b s₁ hb => ?_) fun _ _ e => e)
      obtain ⟨σ₁, q, N⟩ := hb
      cases b with
      | true => exact ⟨σ₁, q, N⟩
      | false => exact go σ₁ s₁ N q
theorem ses_nil : SEs C G kf S n [] := by
  intro f A L outer st d lo σ s p Q X hd ok c w
  exact spliced_nil ⟨_, _, w, Nx.refl c.inv, .nil⟩
theorem Zsx {e : Ex} {r : List Ex} (he : SE C G kf S n e) (hr : SEs C G kf S n r) : SEs C G kf S n (e :: r) := by
  intro f A L outer st d lo σ s p Q X hd ok c w
  obtain ⟨ok1, ok2⟩ := Bool.and_eq_true_iff.mp ok
  rw [Zci]
  refine spliced_cons (wpAny_mono (he f A L outer st d lo σ s _ X hd ok1 c w) (fun v s₁ hv => ?_) fun _ _ e => e)
  obtain ⟨pv, σ₁, q, N, rv⟩ := hv
  refine wpAny_mono (hr f A L outer st d lo σ₁ s₁ p _ X hd ok2 (c.next N) q) (fun vs s₂ h => ?_) fun _ _ h => h.of N
  obtain ⟨ps, σ₂, q2, N2, r2⟩ := h
  exact ⟨_, _, q2, N.trans N2, .cons (rv.mono (N2.tup N.inv)) r2⟩
end
theorem Zln {kvs : List (Str × Value)} {x : Str} {w : Value} (nd : (kvs.map (·.1)).Nodup) : ((PySem.stored kvs x w).map (·.1)).Nodup := by
  unfold PySem.stored
  split
  · rw [List.map_map]
    have : ((fun x => x.1) ∘ fun (kv : Str × Value) => if kv.1 = x then (kv.1, w) else kv) = fun kv => kv.1 := by
      funext kv
      show (if kv.1 = x then (kv.1, w) else kv).1 = kv.1
      split <;> rfl
    rw [this]; exact nd
  · rename_i h
    rw [List.map_append, List.nodup_append]
    refine ⟨nd, by simp, fun a ha b hb => ?_⟩
    simp only [List.map_cons, List.map_nil, List.mem_singleton] at hb
    subst hb
    obtain ⟨kv, hkv, rfl⟩ := List.mem_map.mp ha
    intro z
    exact h (List.any_eq_true.mpr ⟨kv, hkv, decide_eq_true z⟩)
theorem Zmb {h : Heap} {es : List (Nat × PV)} {kvs : List (Str × Value)} (q : KRels h es kvs) : ∀ {acc : List (Nat × PV)} {acc' : List (Str × Value)}, KRels h acc acc' → (acc'.map (·.1)).Nodup → KRels h (Zgp acc es) (merged acc' kvs) := by
  induction q with
  | nil => exact fun r _ => r
  | cons a _ ih => exact fun r nd => ih (r.stored nd a) (Zln nd)
inductive PRel (h : Heap) : List (Nat × Pos) → List PV → List (Value × Value) → Prop
  | nil : PRel h [] [] []
  | cons {k : Nat × Pos} {p : PV} {t : Tok} {v : Value} {ks ps vs} : VRel h p v → PRel h ks ps vs → PRel h (k :: ks) (p :: ps) ((.str (tg k.1) t, v) :: vs)
theorem PRel.carries {C : Cx} {h : Heap} {ks : List (Nat × Pos)} {ps : List PV} {vs : List (Value × Value)} (r : PRel h ks ps vs) : ∃ kvs, Carries C.knd vs kvs ∧ KRels h (dctOf ks ps) kvs := by
  induction r with
  | nil => exact ⟨[], trivial, .nil⟩
  | @cons k p t v ks ps vs a _ ih =>
    obtain ⟨kvs, h1, h2⟩ := ih
    exact ⟨(tg k.1, v) :: kvs, ⟨strKind_is _ _ _ _, rfl, h1⟩, .cons a h2⟩
noncomputable def Zfu (env : Env) (pos : Pos) : List (Nat × Pos) → List Ex → List (Sem Value × Sem Value)
  | k :: ks, e :: es => (eval (.Constant (.str (tg k.1)) 0 k.2) env, do let x ← eval e.to env; standAt pos; pure x) :: Zfu env pos ks es
  | _, _ => []
theorem Zgx (env : Env) (pos : Pos) : ∀ (ks : List (Nat × Pos)) (es : List Ex), ks.length = es.length →
    (evalEachOpt (keysOf ks) env).zip ((evalEach (Ex.tos es) env).map fun v => do let x ← v; standAt pos; pure x) = (Zfu env pos ks es).map fun p => (some p.1, p.2)
  | [], [], _ => rfl
  | [], _ :: _, e => by contradiction
  | _ :: _, [], e => by contradiction
  | k :: ks, e :: es, h => by
    have ih := Zgx env pos ks es (by simpa using h)
    show (some (eval (.Constant (.str (tg k.1)) 0 k.2) env) :: evalEachOpt (keysOf ks) env).zip ((do let x ← eval e.to env; standAt pos; pure x) :: (evalEach (Ex.tos es) env).map fun v => do let x ← v; standAt pos; pure x) = _
    rw [List.zip_cons_cons, ih]; rfl
theorem Zje (env : Env) (pos : Pos) : ∀ (ks : List (Nat × Pos)) (es : List Ex), ks.length = es.length → (Zfu env pos ks es).length = es.length
  | [], [], _ => rfl
  | [], _ :: _, e => by contradiction
  | _ :: _, [], e => by contradiction
  | k :: ks, e :: es, h => congrArg Nat.succ (Zje env pos ks es (Nat.succ.inj h))
section
variable {C : Cx} {K : Frag} {G : Pg} {kf : Addr} {S : Spec} {n : Nat}
structure Snd (C : Cx) (K : Frag) (G : Pg) (kf : Addr) (S : Spec) (n : Nat) (e : Ex) : Prop where
  ev : SE C G kf S n e
  te : ST C G kf S n e
structure Snds (C : Cx) (K : Frag) (G : Pg) (kf : Addr) (S : Spec) (n : Nat) (es : List Ex) : Prop where
  sp : SEs C G kf S n es
  bo : SB C G kf S n es
  bt : SBT C G kf S n es
  fm : SF C G kf S n es
  all : ∀ e ∈ es, SE C G kf S n e
theorem evalPairs_sound : ∀ (ks : List (Nat × Pos)) (es : List Ex), (∀ e ∈ es, SE C G kf S n e) → ks.length = es.length → ∀ (f : FI) (A : Around) (L : Addr) (outer : List Env) (st : Bool) (d : Nat) (lo : Loc) (σ : Store) (s : Shared) (pos : Pos) (Q : List PV → Store → Prop) (X : XV'), d ≤ n → Zcc f.scope es = true → Cur C f A L outer st d lo σ s → Zz G S st d es lo σ Q X →
    wpAny C.M A (evalPairs (Zfu (f.env L) pos ks es)) (fun vs s' => ∃ ps σ', Q ps σ' ∧ Nx C (f.env L :: outer) σ σ' s s' ∧ PRel s'.heap ks ps vs) (ErP C kf (f.env L :: outer) σ s X) s
  | [], [], _, _ => by
    intro f A L outer st d lo σ s pos Q X hd ok c w
    exact wpAny_pure ⟨_, _, w, Nx.refl c.inv, .nil⟩
  | [], _ :: _, _, e => by contradiction
  | _ :: _, [], _, e => by contradiction
  | k :: ks, e :: es, H, hl => by
    intro f A L outer st d lo σ s pos Q X hd ok c w
    obtain ⟨ok1, ok2⟩ := Bool.and_eq_true_iff.mp ok
    show wpAny _ _ (do
      let kv ← eval (.Constant (.str (tg k.1)) 0 k.2) (f.env L)
      let vv ← holding [kv] (do let x ← eval e.to (f.env L); standAt pos; pure x)
      return (kv, vv) :: (← holding [kv, vv] (evalPairs (Zfu (f.env L) pos ks es)))) _ _ _
    have N0 : Nx C (f.env L :: outer) σ σ s { s with toks := s.toks + 1 } := c.nx
    refine wpAny_bind (wpAny_Constant_str ?_)
    refine wpAny_bind (wpAny_holding (wpAny_bind (wpAny_mono (H e (.head _) f A L outer st d lo σ _ _ X hd ok1 (c.next N0) w) (fun v s₁ hv => ?_) fun _ _ h => h.of N0)))
    obtain ⟨pv, σ₁, q, N, rv⟩ := hv
    refine wpAny_bind (wpAny_standAt (wpAny_pure ?_))
    have N1 := N0.trans N
    refine wpAny_bind (wpAny_holding (wpAny_mono (evalPairs_sound ks es (fun e he => H e (.tail _ he)) (by simpa using hl) f A L outer st d lo σ₁ s₁ pos _ X hd ok2 (c.next N1) q) (fun vs s₂ h => ?_) fun _ _ h => h.of N1))
    obtain ⟨ps, σ₂, q2, N2, r2⟩ := h
    exact wpAny_pure ⟨_, _, q2, N1.trans N2, .cons (rv.mono (N2.tup N.inv)) r2⟩
theorem sf_nil : SF C G kf S n [] := by
  intro f A L outer st d lo σ s acc k Q X hd ok c hk h1 w
  exact ⟨_, _, hk, h1, w, Nx.refl c.inv⟩
theorem Zfl {M : Model} {A : Around} {E E' : Value → Shared → Prop} (hE : ∀ e s, E e s → E' e s) : ∀ (ps : List (Sem Value)) (acc : Str) (Q Q' : Str → Shared → Prop) (s : Shared), (∀ o s, Q o s → Q' o s) → Joins M A E ps acc Q s → Joins M A E' ps acc Q' s
  | [], _, _, _, _, k, h => k _ _ h
  | x :: r, acc, Q, Q', s, k, h => wpAny_mono h (fun v s₁ hv => by obtain ⟨y, t, e, l, j⟩ := hv; exact ⟨y, t, e, l, Zfl hE r _ Q Q' s₁ k j⟩) hE
theorem Zya {n : Nat} {w : Store → Nat → (Nat → Store → Prop) → XV' → Prop} {Q : Nat → Store → Prop} {X : XV'} {v : PV} {σ : Store} (h : Zjy n w Q X v σ) : ∃ m, isStrP v = some m ∧ n + m ≤ 100000 ∧ w σ (n + m) Q X := by
  unfold Zjy at h
  cases z : isStrP v with
  | none => rw [z] at h; exact h.elim
  | some m => rw [z] at h; exact ⟨m, rfl, h⟩
theorem Zwm {e : Ex} {r : List Ex} (he : SE C G kf S n e) (hr : SF C G kf S n r) : SF C G kf S n (e :: r) := by
  intro f A L outer st d lo σ s acc k Q X hd ok c hk h1 w
  obtain ⟨ok1, ok2⟩ := Bool.and_eq_true_iff.mp ok
  show wpAny _ _ (eval e.to (f.env L)) _ _ s
  refine wpAny_mono (he f A L outer st d lo σ s _ X hd ok1 c w) (fun v s₁ hv => ?_) fun _ _ h => h
  obtain ⟨pv, σ₁, q, N, rv⟩ := hv
  obtain ⟨m, hm, q1, q2⟩ := Zya q
  obtain ⟨y, t, rfl, ly⟩ := Zfr rv hm
  have hl : (acc ++ y).length ≤ k + m := by rw [Str.length_append]; exact Nat.add_le_add hk ly
  refine ⟨y, t, rfl, Nat.le_trans hl (Nat.le_trans q1 (by decide)), ?_⟩
  refine Zfl (fun _ _ h => h.of N) _ _ _ _ _ (fun o s₂ h => ?_) (hr f A L outer st d lo σ₁ s₁ (acc ++ y) (k + m) Q X hd ok2 (c.next N) hl q1 q2)
  obtain ⟨m', σ', a1, a2, a3, a4⟩ := h
  exact ⟨m', σ', a1, a2, a3, N.trans a4⟩
end
section
variable {C : Cx} {K : Frag} {G : Pg} {kf : Addr} {S : Spec} {n : Nat}
theorem Zmp {o : Option PV} {σ : Store} {Q : QV} (h : Zng o σ Q) : ∃ v, o = some v ∧ Q v σ := by
  cases o with
  | none => exact h.elim
  | some v => exact ⟨v, rfl, h⟩
theorem Zaac {p : Pos} : SE C G kf S n (.non p) := fun f A L outer st d lo σ s Q X hd ok c w => by
  exact wpAny_Constant_none ⟨_, _, w, Nx.refl c.inv, .none⟩
theorem Zwq {b : Bool} {p : Pos} : SE C G kf S n (.bool b p) := fun f A L outer st d lo σ s Q X hd ok c w => by
  exact wpAny_Constant_bool ⟨_, _, w, Nx.refl c.inv, .bool b⟩
theorem Zaah {i : Int} {p : Pos} : SE C G kf S n (.int i p) := fun f A L outer st d lo σ s Q X hd ok c w => by
  exact wpAny_Constant_int ⟨_, _, w, c.nx, .int _ _⟩
theorem Zsy {i : Int} {p₁ p : Pos} : SE C G kf S n (.minus i p₁ p) := fun f A L outer st d lo σ s Q X hd ok c w => by
  exact UnaryOp_ (wpAny_Constant_int (neg_int ⟨_, _, w, c.nx, .int _ _⟩))
theorem Zaab {t : Nat} {p : Pos} : SE C G kf S n (.str t p) := fun f A L outer st d lo σ s Q X hd ok c w => by
  exact wpAny_Constant_str ⟨_, _, w, c.nx, .tag _ _⟩
theorem Zzy {t : Nat} {p : Pos} : SE C G kf S n (.var t p) := fun f A L outer st d lo σ s Q X hd ok c w => by
  obtain ⟨v, e, w⟩ := Zmp w
  exact Zadd c ok e w
theorem Zwn (O : Ok C K G kf) {t : Nat} {p : Pos} : SE C G kf S n (.glob t p) := fun f A L outer st d lo σ s Q X hd ok c w => by
  obtain ⟨v, e, w⟩ := Zmp w
  exact Zabv O c ok e w
theorem Zzz {es : List Ex} {k : Nat} {p : Pos} (h : SEs C G kf S n es) : SE C G kf S n (.tup es k p) := fun f A L outer st d lo σ s Q X hd ok c w => by
  refine Tuple_ (wpAny_mono (h f A L outer st d lo σ s p _ X hd ok c w) (fun vs s₁ hv => ?_) fun _ _ e => e)
  obtain ⟨ps, σ₁, q, N, r⟩ := hv
  exact Zht N (Zwb (c.next N) r q.1 q.2)
theorem Zaaf {es : List Ex} {p : Pos} (h : SEs C G kf S n es) : SE C G kf S n (.lst es p) := fun f A L outer st d lo σ s Q X hd ok c w => by
  refine List_ (wpAny_mono (h f A L outer st d lo σ s p _ X hd ok c w) (fun vs s₁ hv => ?_) fun _ _ e => e)
  obtain ⟨ps, σ₁, q, N, r⟩ := hv
  exact Zht N (Zzl (c.next N) r q.1 q.2)
theorem Zaaj {ks : List (Nat × Pos)} {es : List Ex} {p : Pos} (h : ∀ e ∈ es, SE C G kf S n e) : SE C G kf S n (.dct ks es p) := fun f A L outer st d lo σ s Q X hd ok c w => by
  obtain ⟨w1, w2, w3⟩ := w
  have n0 := Zao s.heap
  cases es with
  | nil =>
    cases ks with
    | cons _ _ => contradiction
    | nil =>
      show wpAny _ _ (eval (.Dict [] [] p) _) _ _ _
      refine wpAny_Dict_empty ⟨_, _, w3 _ (c.inv.freshAt n0), (Nx.pushed c.inv _).track n0 ⟨[], ⟨_, #[], 0, Heap.get?_push_size _ rfl, ⟨rfl, rfl, rfl⟩, rfl, ?_, .nil, List.nodup_nil⟩, .nil⟩ c.inv.size, .obj _⟩
      intro e he; simp at he
  | cons e es =>
    have N0 : Nx C (f.env L :: outer) σ σ s { s with heap := s.heap.push { cls := .type "dict", data := .dict #[] } } := Nx.pushed c.inv _
    show wpAny _ _ (eval (.Dict (keysOf ks) (Ex.tos (e :: es)) p) _) _ _ _
    refine wpAny_Dict_pairs (knd := C.knd) (Zgx (f.env L) p ks (e :: es) w1) ?_ (by rw [Zje _ _ _ _ w1]; exact w2) (wpAny_mono (evalPairs_sound ks (e :: es) h w1 f A L outer st d lo σ _ p _ X hd ok (c.next N0) w3) (fun vs s₁ hv => ?_) fun _ _ e => e.of N0)
    · cases ks with
      | nil => contradiction
      | cons k ks => exact List.cons_ne_nil _ _
    obtain ⟨ps, σ₁, q, N, r⟩ := hv
    obtain ⟨kvs, h1, h2⟩ := r.carries (C := C)
    have D0 : (s.heap.push { cls := .type "dict", data := .dict #[] }).get? s.heap.objs.size = some { cls := .type "dict", data := .dict #[] } := Heap.get?_push_size _ rfl
    have z : σ s.heap.objs.size = none := c.inv.freshAt n0
    have D1 : s₁.heap.get? s.heap.objs.size = some { cls := .type "dict", data := .dict #[] } := by
      rcases N.keep _ _ D0 z with k | ⟨k, _⟩
      · exact k
      · simp at k
    have N1 := N0.trans N
    have z1 : σ₁ s.heap.objs.size = none := by
      cases y : σ₁ s.heap.objs.size with
      | none => rfl
      | some o => rcases N.fresh _ (by rw [y]; simp) with k | k
                  · exact absurd z k
                  · rw [D0] at k; contradiction
    refine ⟨kvs, h1, ⟨_, #[], 0, D1, ⟨rfl, rfl, rfl⟩, rfl, (by intro e he; simp at he), .nil, List.nodup_nil⟩, fun h' hD hs => ?_⟩
    have keep : ∀ b x, s₁.heap.get? b = some x → b ≠ s.heap.objs.size → h'.get? b = some x := fun b x e ne => (hs.2 b ne).trans e
    have tk : TupKeep s₁.heap h' := fun b x e cx => keep b x e fun y => by subst y; rw [D1] at e; obtain rfl := so e; contradiction
    refine ⟨_, _, q _ z1, Nx.track (a := s.heap.objs.size) (o := .dict (Zgp [] (dctOf ks ps))) (σ₁ := σ₁) (s' := { s₁ with heap := h', toks := s₁.toks + vs.length }) ⟨⟨fun b x e => ?_, fun b x e => ?_, fun env he => ?_, ?_⟩, fun b x e zz => ?_, fun b x e => ?_, fun b k => N1.fresh b k, N1.gens, N1.os⟩ n0 ⟨_, hD, Zmb (h2.mono tk) .nil List.nodup_nil⟩ c.inv.size, .obj _⟩
    · refine keep b x (N1.inv.base b x e) fun y => ?_
      subst y; rw [Zbi c.inv.size] at e; contradiction
    · obtain ⟨k1, k2⟩ := N1.inv.sto b x e
      obtain ⟨ob, k3, _⟩ := k2.there
      exact ⟨k1, k2.move tk ((hs.2 b fun y => by subst y; rw [z1] at e; contradiction))⟩
    · obtain ⟨k, L', of, es', m, ff, l, ef, cf, df⟩ := N1.inv.frs env he
      exact ⟨k, L', of, es', m, ff, l, keep _ _ ef fun y => by subst y; rw [D1] at ef; obtain rfl := so ef; contradiction, cf, df⟩
    · rw [hs.1]; exact N1.inv.size
    · have k := N1.keep b x e zz
      obtain ⟨o', e', _⟩ := k.some
      have ne : b ≠ s.heap.objs.size := fun y => by subst y; rw [n0] at e; contradiction
      rw [hs.2 b ne]; exact k
    · obtain ⟨o', e'⟩ := N1.stay b x e
      have ne : b ≠ s.heap.objs.size := fun y => by subst y; rw [n0] at e; contradiction
      exact ⟨o', keep b o' e' ne⟩
theorem Zaaa (O : Ok C K G kf) {a i : Ex} {p : Pos} (ha : SE C G kf S n a) (hi : SE C G kf S n i) : SE C G kf S n (.sub a i p) := fun f A L outer st d lo σ s Q X hd ok c w => by
  obtain ⟨ok1, ok2⟩ := Bool.and_eq_true_iff.mp ok
  refine Subscript_ (wpAny_mono (ha f A L outer st d lo σ s _ X hd ok1 c w) (fun v s₁ hv => ?_) fun _ _ e => e)
  obtain ⟨p1, σ₁, q, N, r⟩ := hv
  refine wpAny_mono (hi f A L outer st d lo σ₁ s₁ _ X hd ok2 (c.next N) q) (fun u s₂ hu => ?_) fun _ _ e => e.of N
  obtain ⟨p2, σ₂, q2, N2, r2⟩ := hu
  obtain ⟨r', e', q2⟩ := q2
  exact Zht (N.trans N2) (Zacz O ((c.next N).next N2) (r.mono (N2.tup N.inv)) r2 e' q2)
theorem Zaan {a b : Ex} {op : Operator} {p : Pos} (ha : SE C G kf S n a) (hb : SE C G kf S n b) : SE C G kf S n (.bin a op b p) := fun f A L outer st d lo σ s Q X hd ok c w => by
  obtain ⟨ok1, ok2⟩ := Bool.and_eq_true_iff.mp ok
  refine wpAny_BinOp (wpAny_mono (ha f A L outer st d lo σ s _ X hd ok1 c w) (fun v s₁ hv => ?_) fun _ _ e => e)
  obtain ⟨p1, σ₁, q, N, r⟩ := hv
  refine wpAny_mono (hb f A L outer st d lo σ₁ s₁ _ X hd ok2 (c.next N) q) (fun u s₂ hu => ?_) fun _ _ e => e.of N
  obtain ⟨p2, σ₂, q2, N2, r2⟩ := hu
  exact Zht (N.trans N2) (Zadb ((c.next N).next N2) (r.mono (N2.tup N.inv)) r2 q2)
theorem Zaal (O : Ok C K G kf) {a b : Ex} {op : CmpOp} {p : Pos} (ha : SE C G kf S n a) (hb : SE C G kf S n b) : SE C G kf S n (.cmp a op b p) := fun f A L outer st d lo σ s Q X hd ok c w => by
  obtain ⟨ok1, ok2⟩ := Bool.and_eq_true_iff.mp ok
  refine wpAny_Compare1 (wpAny_mono (ha f A L outer st d lo σ s _ X hd ok1 c w) (fun v s₁ hv => ?_) fun _ _ e => e) (Zks op b)
  obtain ⟨p1, σ₁, q, N, r⟩ := hv
  refine wpAny_mono (hb f A L outer st d lo σ₁ s₁ _ X hd ok2 (c.next N) q) (fun u s₂ hu => ?_) fun _ _ e => e.of N
  obtain ⟨p2, σ₂, q2, N2, r2⟩ := hu
  obtain ⟨r', e', q2⟩ := q2
  exact Zht (N.trans N2) (Zvp O ((c.next N).next N2) (r.mono (N2.tup N.inv)) r2 e' q2)
theorem Zzt (O : Ok C K G kf) {a b : Ex} {op : CmpOp} {p : Pos} (ha : SE C G kf S n a) (hb : SE C G kf S n b) : ST C G kf S n (.cmp a op b p) := fun f A L outer st d lo σ s Q X hd ok c w => by
  obtain ⟨ok1, ok2⟩ := Bool.and_eq_true_iff.mp ok
  refine wpAny_isTrue_Compare1 (wpAny_mono (ha f A L outer st d lo σ s _ X hd ok1 c w) (fun v s₁ hv => ?_) fun _ _ e => e) (Zks op b)
  obtain ⟨p1, σ₁, q, N, r⟩ := hv
  refine wpAny_mono (hb f A L outer st d lo σ₁ s₁ _ X hd ok2 (c.next N) q) (fun u s₂ hu => ?_) fun _ _ e => e.of N
  obtain ⟨p2, σ₂, q2, N2, r2⟩ := hu
  obtain ⟨r', e', q2⟩ := q2
  refine wpAny_mono (Zvp O ((c.next N).next N2) (r.mono (N2.tup N.inv)) r2 e' q2) (fun u s₃ hu => ?_) fun _ _ e => e
  obtain ⟨p3, σ₃, q3, N3, r3⟩ := hu
  obtain ⟨b, rfl, q3⟩ := Zfp q3
  obtain rfl := Zgk r3
  exact wpAny_truthy_bool ⟨_, q3, (N.trans N2).trans N3⟩
theorem Zaad {a : Ex} {p : Pos} (ha : SE C G kf S n a) : SE C G kf S n (.neg a p) := fun f A L outer st d lo σ s Q X hd ok c w => by
  refine UnaryOp_ (wpAny_mono (ha f A L outer st d lo σ s _ X hd ok c w) (fun v s₁ hv => ?_) fun _ _ e => e)
  obtain ⟨p1, σ₁, q, N, r⟩ := hv
  obtain ⟨b, rfl, q⟩ := Zfp q
  obtain rfl := Zgk r
  exact not_of (wpAny_truthy_bool ⟨_, _, q, N, .bool _⟩)
theorem Zzq {a : Ex} {p : Pos} (ha : ST C G kf S n a) : ST C G kf S n (.neg a p) := fun f A L outer st d lo σ s Q X hd ok c w =>
  wpAny_isTrue_Not (wpAny_mono (ha f A L outer st d lo σ s (Znj (trP Q)) X hd ok c w) (fun b s₁ hb => by obtain ⟨σ₁, q, N⟩ := hb; exact ⟨σ₁, q, N⟩) fun _ _ e => e)
theorem Zaag {t a b : Ex} {p : Pos} (ht : ST C G kf S n t) (ha : SE C G kf S n a) (hb : SE C G kf S n b) : SE C G kf S n (.ite t a b p) := fun f A L outer st d lo σ s Q X hd ok c w => by
  obtain ⟨ok1, ok3⟩ := Bool.and_eq_true_iff.mp ok
  obtain ⟨ok1, ok2⟩ := Bool.and_eq_true_iff.mp ok1
  refine wpAny_IfExp (wpAny_mono (ht f A L outer st d lo σ s (Zin (wpE G S st d a lo) (wpE G S st d b lo) Q X) X hd ok1 c w) (fun x s₁ hx => ?_) fun _ _ e => e)
  obtain ⟨σ₁, q, N⟩ := hx
  cases x with
  | true => exact Zen N (ha f A L outer st d lo σ₁ s₁ Q X hd ok2 (c.next N) q)
  | false => exact Zen N (hb f A L outer st d lo σ₁ s₁ Q X hd ok3 (c.next N) q)
theorem Zzs {t a b : Ex} {p : Pos} (ht : ST C G kf S n t) (ha : ST C G kf S n a) (hb : ST C G kf S n b) : ST C G kf S n (.ite t a b p) := fun f A L outer st d lo σ s Q X hd ok c w => by
  obtain ⟨ok1, ok3⟩ := Bool.and_eq_true_iff.mp ok
  obtain ⟨ok1, ok2⟩ := Bool.and_eq_true_iff.mp ok1
  show wpAny _ _ (do
    if ← PySem.isTrue t.to (f.env L) (eval t.to (f.env L)) then PySem.isTrue a.to (f.env L) (eval a.to (f.env L)) else PySem.isTrue b.to (f.env L) (eval b.to (f.env L))) _ _ _
  refine wpAny_bind (wpAny_mono (ht f A L outer st d lo σ s (Zin (wpE G S st d a lo) (wpE G S st d b lo) (trP Q) X) X hd ok1 c w) (fun x s₁ hx => ?_) fun _ _ e => e)
  obtain ⟨σ₁, q, N⟩ := hx
  cases x with
  | true => exact Zkk N (ha f A L outer st d lo σ₁ s₁ Q X hd ok2 (c.next N) q)
  | false => exact Zkk N (hb f A L outer st d lo σ₁ s₁ Q X hd ok3 (c.next N) q)
theorem Zaam {es : List Ex} {op : PySem.BoolOp} {p : Pos} (h : SB C G kf S n es) : SE C G kf S n (.bop op es p) := fun f A L outer st d lo σ s Q X hd ok c w => by
  exact h f A L outer st d lo σ s op p Q X hd ok c w
theorem Zzu {es : List Ex} {op : PySem.BoolOp} {p : Pos} (h : SBT C G kf S n es) : ST C G kf S n (.bop op es p) := fun f A L outer st d lo σ s Q X hd ok c w => by
  exact wpAny_isTrue_BoolOp (h f A L outer st d lo σ s op Q X hd ok c w)
end
theorem t_append : tg 127 = ("append" : Str) := by decide +kernel
theorem t_get : tg 128 = ("get" : Str) := by decide +kernel
theorem t_pop : tg 124 = ("pop" : Str) := by decide +kernel
section
variable {C : Cx} {K : Frag} {G : Pg} {kf : Addr} {S : Spec} {n : Nat}
theorem Inv.inK (O : Ok C K G kf) {outs : List Env} {σ : Store} {h : Heap} (I : Inv C outs σ h) : K.In h := fun a o e => I.base a o (O.inn a o e)
theorem Zrh (items : Array Value) (u : Nat) : slicePick items none (some (u : Int)) none = (items.toList.take u).toArray := by
  rw [PySem.W.kms_pick_eq]
  unfold PySem.W.kms_pick
  have h1 : PySem.W.kms_lo none items.toList.length = 0 := rfl
  have h2 : PySem.W.kms_hi (some (u : Int)) items.toList.length = min u items.toList.length := by
    unfold PySem.W.kms_hi
    simp only
    rw [if_neg (by lia), Int.toNat_natCast]
  rw [h1, h2, List.drop_zero, Nat.sub_zero]
  congr 1
  exact (List.take_eq_take_min (l := items.toList) (i := u)).symm
theorem Zji (p : Pos) (u : Expr) (o x : Value) : subscripted (.Slice none (some u) none p) false o x = operate [x, o] (getItem o x) := rfl
theorem Zaak (O : Ok C K G kf) {a u : Ex} {ps p : Pos} (ha : SE C G kf S n a) (hu : SE C G kf S n u) : SE C G kf S n (.cut a u ps p) := fun f A L outer st d lo σ s Q X hd ok c w => by
  obtain ⟨ok1, ok2⟩ := Bool.and_eq_true_iff.mp ok
  refine Subscript_ (wpAny_mono (ha f A L outer st d lo σ s _ X hd ok1 c w) (fun v s₁ hv => ?_) fun _ _ e => e)
  obtain ⟨p1, σ₁, q, N, r⟩ := hv
  refine wpAny_Slice ?_
  rw [evalPart_none, evalPart_some]
  refine wpAny_pure ?_
  refine wpAny_mono (hu f A L outer st d lo σ₁ s₁ _ X hd ok2 (c.next N) q) (fun uv s₂ hu => ?_) fun _ _ e => e.of N
  obtain ⟨p2, σ₂, q2, N2, r2⟩ := hu
  refine wpAny_pure ?_
  have c2 := (c.next N).next N2
  have r1 := r.mono (N2.tup N.inv)
  have NS : Nx C (f.env L :: outer) σ₂ σ₂ s₂ { s₂ with heap := s₂.heap.push { cls := .type "slice", data := .fields #[.none, uv, .none] } } := Nx.pushed c2.inv _
  have c3 := c2.next NS
  have hS : (s₂.heap.push { cls := .type "slice", data := .fields #[.none, uv, .none] }).get? s₂.heap.objs.size = some { cls := .type "slice", data := .fields #[.none, uv, .none] } := Heap.get?_push_size _ rfl
  have NN := (N.trans N2).trans NS
  obtain ⟨n, rfl, n0, q2⟩ := q2
  obtain ⟨tk, rfl⟩ := Zap r2
  obtain ⟨m, rfl⟩ := Int.eq_ofNat_of_zero_le n0
  rcases q2 with ⟨vs, rfl, n1, n2, q2⟩ | ⟨b, vs, rfl, n1, hg, n2, q2⟩
  · have r1' := r1.mono (NS.tup c2.inv)
    cases r1' with
    | @tup a ob mm _ items he hc hdd hr =>
    refine tail_any (T := "tuple") ⟨_, he, hc⟩ F.slot_tuple_getitem.lookup (Zsn (items := items.toArray) (u := m) (tk := tk) ⟨_, he, hc, mm, hdd⟩ ⟨_, hS, rfl, rfl⟩ (by rw [List.size_toArray, hr.length]; lia) ?_ (by rw [List.size_toArray, hr.length]; exact Zat n2)) (Zji _ _ _ _)
    refine ⟨_, _, q2, NN.trans (Nx.pushed c3.inv _), .tup (n := 0) (items := items.take m) (by rw [List.toList_toArray]; exact Heap.get?_push_size _ rfl) rfl rfl ?_⟩
    rw [show ((m : Int)).toNat = m from Int.toNat_natCast m]
    exact (hr.take m).mono fun b x e _ => Heap.get?_push_of_some _ e
  · obtain rfl := cdE r1
    obtain ⟨items, hl, hr⟩ := O.cl b vs hg
    have hl' : (s₂.heap.push { cls := .type "slice", data := .fields #[.none, .int m tk, .none] }).IsList b items := by
      obtain ⟨o, e, rest⟩ := hl; exact ⟨o, c3.inv.base b o e, rest⟩
    have n0' := Zao (s₂.heap.push { cls := .type "slice", data := .fields #[.none, .int m tk, .none] })
    have hsz : items.size = vs.length := by rw [← Array.length_toList]; exact hr.length
    refine tail_any hl'.typeIs slot_list_getitem.lookup (wpAny_getItem_list_slice (lo := none) (hi := some (m : Int)) (st := none) hl' ⟨_, hS, rfl, rfl⟩ .none (.int _ _) .none (by decide) ?_ (by rw [hsz]; exact Zat n2)) (Zji _ _ _ _)
    rw [Zrh]
    refine ⟨_, _, q2 _ (c3.inv.freshAt n0'), NN.trans ((Nx.pushed c3.inv _).track n0' ⟨_, 0, Heap.get?_push_size _ rfl, ?_⟩ c3.inv.size), .obj _⟩
    rw [List.toList_toArray, show ((m : Int)).toNat = m from Int.toNat_natCast m]
    exact (hr.take m).mono fun b x e _ => Heap.get?_push_of_some _ (c3.inv.base b x e)
theorem Zyl {a : Ex} {t : Str} {p : Pos} {env : Env} (h : noCall a = true) : eval (.Attribute a.to t p) env = (do
      let o ← eval a.to env
      standAt p.atName
      let r ← holding [o] (getAttr o t true)
      letTemporaryGo a.to o r
      pure r) := by
  show (do
    let o ← attributeBase a.to t env (eval a.to env)
    standAt p.atName
    let r ← holding [o] (getAttr o t true)
    letTemporaryGo a.to o r
    pure r) = _
  rw [Zik h]
theorem Zwr (O : Ok C K G kf) {a : Ex} {t : Nat} {p : Pos} (ha : SE C G kf S n a) : SE C G kf S n (.attr a t p) := fun f A L outer st d lo σ s Q X hd ok c w => by
  obtain ⟨ok1, ok2⟩ := Bool.and_eq_true_iff.mp ok
  refine Attribute_any_ (wpAny_mono (ha f A L outer st d lo σ s _ X hd ok2 c w) (fun v s₁ hv => ?_) fun _ _ e => e) (Zyl ok1)
  obtain ⟨p1, σ₁, q, N, r⟩ := hv
  obtain ⟨o, cl, dd, es, r', ⟨rfl, h1, h2⟩, h3, h4, q⟩ := q
  obtain rfl := Zau r
  exact Zzp O (c.next N) h1 h2 h3 h4 fun x u hx => ⟨_, _, q, N.trans (c.next N).nx, hx⟩
theorem Zxk {l : List Ex} (h : 2 ≤ l.length) : ∃ a b r, l = a :: b :: r := by
  cases l with
  | nil => contradiction
  | cons a l => cases l with
    | nil => exact absurd h (by decide : ¬ 2 ≤ 1)
    | cons b r => exact ⟨a, b, r, rfl⟩
theorem Zaai {es : List Ex} {p : Pos} (h : SF C G kf S n es) : SE C G kf S n (.fmt es p) := fun f A L outer st d lo σ s Q X hd ok c w => by
  obtain ⟨ok1, ok2⟩ := Bool.and_eq_true_iff.mp ok
  have ok2 := of_decide_eq_true ok2
  obtain ⟨e₁, e₂, r, rfl⟩ := Zxk ok2
  refine wpAny_JoinedStr (Zfl (fun _ _ e => e) _ _ _ _ _ (fun o s₁ q => ?_) (h f A L outer st d lo σ s Str.empty 0 _ X hd ok1 c (Nat.le_refl _) (Nat.zero_le _) w))
  obtain ⟨m, σ₁, h1, h2, h3, N⟩ := q
  exact ⟨Nat.le_trans h1 (Nat.le_trans h2 (by decide)), _, _, h3, N.trans (c.next N).nx, .msg h1⟩
theorem Zof {i : Int} (h : Zaq i = true) : (Str.ofString (toString i)).length ≤ 20 := by
  have h := of_decide_eq_true h
  have := int_text_length_le10 (a := i) (k := 9) (by decide) (by lia)
  rw [PySem.ofString_length]; lia
theorem Zqr {i : Int} (h : Zaq i = true) : i.natAbs.log2 < 1920 := by
  have h := of_decide_eq_true h
  by_cases z : i.natAbs = 0
  · rw [z]; decide
  · exact (Nat.log2_lt z).mpr (Nat.lt_of_lt_of_le (by lia : i.natAbs < 2 ^ 30) (Nat.pow_le_pow_right (by decide) (by decide)))
theorem Zwo {a : Ex} {p : Pos} (ha : SE C G kf S n a) : SE C G kf S n (.fval a p) := fun f A L outer st d lo σ s Q X hd ok c w => by
  refine wpAny_FormattedValue_plain (wpAny_mono (ha f A L outer st d lo σ s _ X hd ok c w) (fun v s₁ hv => ?_) fun _ _ e => e)
  obtain ⟨p1, σ₁, q, N, r⟩ := hv
  rcases q with ⟨i, rfl, q1, q2⟩ | ⟨m, hm, q1, q2⟩
  · obtain ⟨tk, rfl⟩ := Zap r
    exact wpAny_formatField_int (Zqr q1) ⟨_, _, q2, N.trans (c.next N).nx, .msg (Zof q1)⟩
  · obtain ⟨x, t, rfl, lx⟩ := Zfr r hm
    have r2 : ∀ u, VRel s₁.heap p1 (.str x u) := fun u => by
      cases r with
      | tag n t => exact .tag _ _
      | msg k => exact .msg k
    exact wpAny_formatField_str ⟨_, _, q2, N, r⟩ ⟨_, _, q2, N.trans (c.next N).nx, r2 _⟩ (Nat.le_trans lx (Nat.le_trans q1 (by decide)))
end
section
variable {C : Cx} {K : Frag} {G : Pg} {kf : Addr} {S : Spec} {n : Nat} {f : FI} {A : Around} {L : Addr} {outer : List Env} {st : Bool} {d d' : Nat} {lo : Loc} {σ σ₁ : Store} {s s₁ : Shared} {Q : QV} {X : XV'} {E : Value → Shared → Prop}
theorem Zpa (O : Ok C K G kf) (SB : SpB C kf S n) {es : List Ex} {fa : Addr} {ps : List PV} {first : List Value} {pos : Pos} (hs : SEs C G kf S n es) (hd : d' + 1 ≤ n) (ok : Zcc f.scope es = true) (c : Cur C f A L outer st (d' + 1) lo σ s) (hk : keepIn K (.ref fa) = true)
    (r : VRels s.heap ps first) (w : Zz G S st (d' + 1) es lo σ (Zfb S st d' fa ps Q X) X) :
    wpAny C.M A (callWith pos (.ref fa) first (backTo pos (starEach (Ex.tos es) (f.env L))) []) (OkP C (f.env L :: outer) σ s Q) (ErP C kf (f.env L :: outer) σ s X) s := by
  have fin : ∀ qs vs σ₁ s₁, Nx C (f.env L :: outer) σ σ₁ s s₁ → VRels s₁.heap qs vs → S st d' fa (ps ++ qs) σ₁ Q X → K.In s₁.heap ∧ wpAny C.M A (call (.ref fa) (first ++ vs)) (OkP C (f.env L :: outer) σ s Q) (ErP C kf (f.env L :: outer) σ s X) s₁ := fun qs vs σ₁ s₁ N r1 h =>
    ⟨N.inv.inK O, Zen N (SB st d' hd fa _ σ₁ Q X h A (f.env L :: outer) s₁ _ (c.next N).bud c.hand c.frames N.inv ((r.mono (N.tup c.inv)).append r1))⟩
  cases es with
  | nil =>
    have h := fin [] [] σ s (Nx.refl c.inv) .nil w
    exact callWith_K0 h.1 hk h.2
  | cons e es =>
    refine callWith_K (h₀ := C.h₀) O.inn hk (wpAny_mono (hs f A L outer st (d' + 1) lo σ s pos _ X hd ok c w) (fun vs s₁ hv => ?_) fun _ _ e => e) (Zai _ _ _) (Zhd _ _ _)
    obtain ⟨qs, σ₁, q, N, r1⟩ := hv
    exact fin qs vs σ₁ s₁ N r1 q
theorem Zwp (O : Ok C K G kf) (SB : SpB C kf S n) {fn : Nat} {es : List Ex} {np p : Pos} (hs : SEs C G kf S n es) : SE C G kf S n (.call fn es np p) := fun f A L outer st d lo σ s Q X hd ok c w => by
  obtain ⟨ok1, ok3⟩ := Bool.and_eq_true_iff.mp ok
  obtain ⟨ok1, ok2⟩ := Bool.and_eq_true_iff.mp ok1
  obtain ⟨d', a, rfl, ha, w⟩ := w
  obtain ⟨h1, h2⟩ := O.fn fn a ha
  exact wpAny_Call_ofName (Zfx O c ok1 h1 (Zpa O SB hs hd ok2 c h2 .nil w))
theorem Zoz (O : Ok C K G kf) {a : Addr} {e₁ e₂ : Ex} {pos : Pos} (h1 : SE C G kf S n e₁) (h2 : SE C G kf S n e₂) (hd : d ≤ n) (ok : Zcc f.scope [e₁, e₂] = true) (c : Cur C f A L outer st d lo σ s) (hS : (a == sysModules) = false)
    {es : Store → Option (List (Nat × PV))} (hP : ∀ fs σ₂ s₂, Nx C (f.env L :: outer) σ σ₂ s s₂ → es σ₂ = some fs → DictAtP C s₂.heap a fs) (w : Zz G S st d [e₁, e₂] lo σ (Zsf es Q) X) :
    wpAny C.M A (callWith pos (.builtin "dict.get") [.ref a] (backTo pos (starEach (Ex.tos [e₁, e₂]) (f.env L))) []) (OkP C (f.env L :: outer) σ s Q) (ErP C kf (f.env L :: outer) σ s X) s := by
  rw [Zci, Zci]
  obtain ⟨ok1, ok2⟩ := Bool.and_eq_true_iff.mp ok
  obtain ⟨ok2, _⟩ := Bool.and_eq_true_iff.mp ok2
  refine wpAny_dict_get2 (knd := C.knd) hS (wpAny_mono (h1 f A L outer st d lo σ s _ X hd ok1 c w) (fun v s₁ hv => ?_) fun _ _ e => e)
  obtain ⟨p1, σ₁, q, N, r⟩ := hv
  refine wpAny_mono (h2 f A L outer st d lo σ₁ s₁ _ X hd ok2 (c.next N) q) (fun v2 s₂ hv => ?_) fun _ _ e => e.of N
  obtain ⟨p2, σ₂, q2, N2, r2⟩ := hv
  have NN := N.trans N2
  obtain ⟨es, t, w', h3, hvs, q3⟩ := q2
  obtain ⟨kvs, D, R⟩ := hP _ _ s₂ NN h3
  cases hvs
  obtain ⟨tk, rfl⟩ := Zgz r
  refine ⟨tg t, valueAt kvs, strKind_is _ _ _ _, D.mapOf, ?_⟩
  have y := R.val t
  refine ⟨_, _, q3, NN.trans ((c.next N).next N2).nx, ?_⟩
  cases z : Loc.get es t with
  | none => rw [y.2 z]; exact r2
  | some p => obtain ⟨v, h1, h2⟩ := y.1 p z; rw [h1]; exact h2
theorem Zpw {a : Addr} {o : Expr} {env : Env} {kvs : List (Str × Value)} {R : Value × List Value → Shared → Prop} (D : Heap.DictOf C.knd s.heap a kvs) (h : R (.builtin "dict.get", [.ref a]) s) :
    wpAny C.M A (getMethod (.ref a) (tg 128) (do return (← importBound o env).getD true)) R E s := by
  rw [t_get]
  exact getMethod_builtin D.typeIs PySem.F.plainAttrs_dict PySem.F.slot_dict_get PySem.F.type_dict_get D.mapOf.noDict h
theorem Zkp (xs : Array Value) : (xs.eraseIdxIfInBounds (xs.size - 1)).toList = xs.toList.dropLast := by
  cases xs with | mk l =>
  simp only [List.eraseIdxIfInBounds_toArray, List.size_toArray]
  exact List.eraseIdx_length_sub_one
theorem Zsm {a : Addr} {e : Ex} {pos : Pos} (h1 : SE C G kf S n e) (hd : d ≤ n) (ok : Zcc f.scope [e] = true) (c : Cur C f A L outer st d lo σ s)
    (w : Zz G S st d [e] lo σ (Znl a Q) X) :
    wpAny C.M A (callWith pos (.builtin "list.append") [.ref a] (backTo pos (starEach (Ex.tos [e]) (f.env L))) []) (OkP C (f.env L :: outer) σ s Q) (ErP C kf (f.env L :: outer) σ s X) s := by
  obtain ⟨ok1, _⟩ := Bool.and_eq_true_iff.mp ok
  rw [Zci]
  refine callWith_builtin rfl (evalArgs_plain ?_)
  refine spliced_cons (wpAny_mono (h1 f A L outer st d lo σ s _ X hd ok1 c w) (fun v s₁ hv => spliced_nil ?_) fun _ _ e => e)
  obtain ⟨p1, σ₁, q, N, r⟩ := hv
  obtain ⟨xs, v', h1, h2, q1, q2⟩ := q
  cases h2
  have c1 := c.next N
  obtain ⟨_, items, m, hl, hr⟩ := c1.inv.sto a _ h1
  have hsz : items.size = xs.length := by rw [← Array.length_toList]; exact hr.length
  refine append_at hl (fun h' hs ho => ?_) (by rw [hsz]; exact Zat q1)
  refine ⟨_, _, q2, N.trans (Nx.change c1.inv h1 hs fun tk => ⟨_, _, ho, ?_⟩), .none⟩
  rw [Array.toList_push]
  exact (hr.mono tk).append (.cons (r.mono tk) .nil)
theorem Zaci {a : Addr} {pos : Pos} {xs : List PV} {y : PV} (c : Cur C f A L outer st d lo σ s) (hx : σ a = some (.list xs)) (hy : xs.getLast? = some y) (hl : xs.length ≤ 1000) (w : Q y (σ.upd a (.list xs.dropLast))) :
    wpAny C.M A (callWith pos (.builtin "list.pop") [.ref a] [] []) (OkP C (f.env L :: outer) σ s Q) E s := by
  obtain ⟨_, items, m, hI, hr⟩ := c.inv.sto a _ hx
  have hsz : items.size = xs.length := by rw [← Array.length_toList]; exact hr.length
  rw [List.getLast?_eq_getElem?] at hy
  obtain ⟨v, hv, rv⟩ := hr.get hy
  refine P.pop_list hI (y := v) (by rw [← Array.getElem?_toList, hsz]; exact hv) ?_ (by rw [hsz]; exact Zat hl)
  have hs : Heap.SameBut a s.heap (s.heap.update a (Obj.mapSeq fun xs => xs.eraseIdxIfInBounds (items.size - 1))) := Heap.SameBut.update ..
  refine ⟨_, _, w, Nx.change (t := s.toks) (dr := s.drawn) c.inv hx hs fun tk => ?_, ?_⟩
  · have e := Heap.get?_update_self (Obj.mapSeq fun xs => xs.eraseIdxIfInBounds (items.size - 1)) hI (by rfl)
    refine ⟨items.eraseIdxIfInBounds (items.size - 1), _, e, ?_⟩
    rw [Zkp]
    exact (hr.mono tk).dropLast
  · have N := Nx.change (t := s.toks) (dr := s.drawn) c.inv hx hs (o' := .list xs.dropLast) fun tk => ?_
    · exact rv.mono (N.tup c.inv)
    · have e := Heap.get?_update_self (Obj.mapSeq fun xs => xs.eraseIdxIfInBounds (items.size - 1)) hI (by rfl)
      refine ⟨items.eraseIdxIfInBounds (items.size - 1), _, e, ?_⟩
      rw [Zkp]
      exact (hr.mono tk).dropLast
theorem Zvk {α : Type} {l : List α} (h : l.length = 2) : ∃ a b, l = [a, b] := by
  cases l with
  | nil => contradiction
  | cons a l =>
    obtain ⟨b, rfl⟩ := List.length_eq_one_iff.mp (Nat.succ.inj h)
    exact ⟨a, b, rfl⟩
theorem Zor {a : Addr} {σ : Store} {es : List (Nat × PV)} (h : Zgr a σ = some es) : σ a = some (.dict es) := by
  unfold Zgr at h
  cases z : σ a with
  | none => rw [z] at h; contradiction
  | some o =>
    rw [z] at h
    cases o with
    | dict es' => rw [so h]
    | _ => contradiction
theorem Zsz (O : Ok C K G kf) (SB : SpB C kf S n) {o : Ex} {m : Nat} {es : List Ex} {ap p : Pos} (ho : SE C G kf S n o) (hs : SEs C G kf S n es) (ha : ∀ e ∈ es, SE C G kf S n e) : SE C G kf S n (.mcall o m es ap p) := fun f A L outer st d lo σ s Q X hd ok c w => by
  obtain ⟨ok, k7⟩ := Bool.and_eq_true_iff.mp ok
  obtain ⟨ok, k6⟩ := Bool.and_eq_true_iff.mp ok
  obtain ⟨ok, k5⟩ := Bool.and_eq_true_iff.mp ok
  obtain ⟨ok, k4⟩ := Bool.and_eq_true_iff.mp ok
  obtain ⟨ok, k3⟩ := Bool.and_eq_true_iff.mp ok
  obtain ⟨k1, k2⟩ := Bool.and_eq_true_iff.mp ok
  show wpAny _ _ (eval (.Call (.Attribute o.to (tg m) ap) (Ex.tos es) [] p) (f.env L)) _ _ _
  rw [Zku k1 (of_decide_eq_true k4) k5]
  refine wpAny_bind (wpAny_mono (ho f A L outer st d lo σ s _ X hd k2 c w) (fun v s₁ hv => ?_) fun _ _ e => e)
  obtain ⟨p1, σ₁, q, N, r⟩ := hv
  have c1 := c.next N
  refine wpAny_bind (wpAny_standAt ?_)
  suffices h : wpAny C.M A (getMethod v (tg m) (do return (← importBound o.to (f.env L)).getD true)) (fun x s₂ => s₂ = s₁ ∧ wpAny C.M A (callWith p x.1 x.2 (backTo p (starEach (Ex.tos es) (f.env L))) []) (OkP C (f.env L :: outer) σ₁ s₁ Q) (ErP C kf (f.env L :: outer) σ₁ s₁ X) s₂) (ErP C kf (f.env L :: outer) σ₁ s₁ X) s₁ by
    refine wpAny_bind (wpAny_holding (wpAny_mono h (fun x s₂ y => ?_) fun _ _ e => e.of N))
    obtain ⟨rfl, y⟩ := y
    exact Zen N y
  have two : m = 128 → ∃ e₁ e₂, es = [e₁, e₂] := fun hm => by
    subst hm
    rw [if_pos rfl] at k6
    exact Zvk (of_decide_eq_true k6)
  cases q with
  | inst a cl dd es' fa d' i hd' h3 q1 q2 =>
    obtain ⟨rfl, h1, h2⟩ := i
    subst hd'
    obtain rfl := Zau r
    obtain ⟨z1, z2, z3, z4⟩ := O.mt cl m fa h3
    exact Zpd O c1 h1 h2 q1 h3 ⟨rfl, Zpa O SB hs hd k3 c1 z4 (.cons (.obj a) .nil) q2⟩
  | app a xs e h1 hm q =>
    subst e; subst hm
    obtain rfl := Zau r
    rw [if_pos rfl] at k7
    obtain ⟨e, rfl⟩ := List.length_eq_one_iff.mp (of_decide_eq_true k7)
    obtain ⟨_, items, mm, hl, hr⟩ := c1.inv.sto a _ h1
    · rw [t_append]
      exact getMethod_list_append hl rfl rfl ⟨rfl, Zsm (ha e (.head _)) hd k3 c1 q⟩
  | pop a xs y e h1 hm he hx hy q =>
    subst e; subst hm
    obtain rfl := Zau r
    obtain ⟨_, items, mm, hl, hr⟩ := c1.inv.sto a _ h1
    obtain rfl := List.isEmpty_iff.mp he
    · rw [t_pop]
      exact getMethod_builtin ⟨_, hl, rfl⟩ PySem.F.plainAttrs_list PySem.F.slot_list_pop PySem.F.type_list_pop (fun b e => by cases e; exact ⟨_, hl, rfl⟩) ⟨rfl, Zaci c1 h1 hy hx q⟩
  | get a es' e h1 hm q =>
    subst e
    obtain rfl := Zau r
    obtain ⟨e₁, e₂, rfl⟩ := two hm
    subst hm
    obtain ⟨hlow, kv0, D0, R0⟩ := c1.inv.sto a _ h1
    refine Zpw D0 ⟨rfl, Zoz O (ha _ (.head _)) (ha _ (.tail _ (.head _))) hd k3 c1 (Zfv O hlow) (fun fs σ₂ s₂ N2 h => ?_) q⟩
    exact (N2.inv.sto a _ (Zor h)).2
  | cget a es' e hg hm q =>
    subst e
    obtain rfl := cdE r
    obtain ⟨e₁, e₂, rfl⟩ := two hm
    subst hm
    obtain ⟨kv0, D0, R0⟩ := Zfa O c1.inv hg
    refine Zpw D0 ⟨rfl, Zoz O (ha _ (.head _)) (ha _ (.tail _ (.head _))) hd k3 c1 (O.cd a _ hg).1 (fun fs σ₂ s₂ N2 h => ?_) q⟩
    obtain ⟨kv2, D2, R2⟩ := Zfa O N2.inv h
    exact ⟨kv2, D2, R2⟩
end
section
variable {prog : Program} {w : World} {A : Around} {E : Value → Shared → Prop} {s : Shared}
theorem Zjm {kvs : List (Str × Value)} {acc : Array Value} (h : ItemsOf (fun i v => ∃ k x, kvs[i]? = some (k, x) ∧ (PySem.strKind prog w).is k v = true) acc kvs.length) : StrsAre acc.toList (kvs.map (·.1)) := by
  obtain ⟨h1, h2⟩ := h
  have h2' : ∀ (j : Nat) (v : Value), acc.toList[j]? = some v → ∃ k x, kvs[j]? = some (k, x) ∧ (PySem.strKind prog w).is k v = true := fun j v e => h2 j v (by rw [← Array.getElem?_toList]; exact e)
  have h1' : acc.toList.length = kvs.length := by rw [Array.length_toList]; exact h1
  generalize acc.toList = l at h1' h2'
  clear h1 h2
  induction l generalizing kvs with
  | nil => cases kvs with
    | nil => exact .nil
    | cons _ _ => contradiction
  | cons v l ih =>
    cases kvs with
    | nil => contradiction
    | cons kv kvs =>
      obtain ⟨k, x, e1, e2⟩ := h2' 0 v rfl
      simp only [List.getElem?_cons_zero, Option.some.injEq] at e1
      subst e1
      obtain ⟨t, rfl⟩ := Value.isStrOf_shape e2
      exact .cons _ _ (ih (by simpa using h1') fun j v e => h2' (j + 1) v (by simpa using e))
theorem Zlx {d : Addr} {kvs : List (Str × Value)} {R : Value → Shared → Prop} (hh : A.handled = none) (lo : (d == sysModules) = false) (D : Heap.DictOf (PySem.strKind prog w) s.heap d kvs) (h64 : kvs.length < 64)
    (h : ∀ D c h' (tk : Nat) (out : Array Value) (ss' : List Str), (∀ b x, s.heap.get? b = some x → h'.get? b = some x) → s.heap.get? D = none → (∀ b x, s.heap.get? b = some x → b < D) → IsL h' D out c → StrsAre out.toList ss' → ss'.Perm (kvs.map (·.1)) → sortedS ss' = true → R (.ref D) { s with heap := h', toks := tk }) :
    wpAny (model prog w) A (call (.builtin "sorted") [.ref d]) R E s := by
  obtain ⟨ep, D⟩ := D.dictAt
  refine Calls.call_function_entry kind_sorted plain_sorted entry_sorted (args_sorted1 _) ?_
  refine wpAny_bind (m := checkCount "sorted" 1 1 _) (wpAny_pure ?_)
  refine wpAny_bind (PySem.W.kdu_collect (A := A.in1) (PySem.W.kdl_dict lo) hh D (by rw [sizeLine_eq]; lia) fun h₁ tk acc hk hacc => ?_)
  have hS := Zjm hacc
  refine wpAny_bind (wpAny_newList ?_ (by rw [sizeLine_eq, Array.length_toList, hacc.1]; lia))
  have hoL : (h₁.push (seqObj "list" acc.toList.toArray 0)).get? h₁.objs.size = some (seqObj "list" acc.toList.toArray 0) := Heap.get?_push_size _ rfl
  have hkk : ∀ v₁ v₂ rest, acc.toList = v₁ :: v₂ :: rest → keyKind' (v₁ :: v₂ :: rest).toArray = pure oneType' := fun v₁ v₂ rest e => keyKind_strs (by rw [← e]; exact hS)
  refine wpAny_bind (wpAny_holding (wpAny_call_entry (s := { s with heap := h₁.push (seqObj "list" acc.toList.toArray 0), toks := tk }) slot_list_sort ⟨_, hoL, rfl⟩ entry_list_sort (list_sort_treeK strKind_oneLt hoL hS.keysOf hkk (by rw [Array.length_toList, hacc.1]; exact h64) fun st' a1 a2 => ⟨_, rfl, ?_⟩) (args_list_sort _)))
  obtain ⟨ss', b1, b2, b3⟩ := sorted_out_str hS a1 a2
  obtain ⟨c, hc'⟩ := sortedHeap_at (out := (arrOf st').map (·.2)) hoL
  have n0 : s.heap.get? h₁.objs.size = none := by
    cases q : s.heap.get? h₁.objs.size with
    | none => rfl
    | some x => exact absurd (Heap.lt_size (hk _ _ q)) (Nat.lt_irrefl _)
  refine wpAny_pure ⟨_, rfl, h h₁.objs.size c _ _ _ ss' (fun b x e => ?_) n0 (fun b x e => Heap.lt_size (hk b x e)) hc' b1 b2 b3⟩
  · have e1 := hk b x e
    have e2 : (h₁.push (seqObj "list" acc.toList.toArray 0)).get? b = some x := Heap.get?_push_of_some _ e1
    exact (sortedHeap_old (Nat.ne_of_lt (Heap.lt_size e1)) (Heap.lt_size e2)).trans e2
end
theorem KRels.keys {h : Heap} {es : List (Nat × PV)} {kvs : List (Str × Value)} (r : KRels h es kvs) : kvs.map (·.1) = (es.map (·.1)).map tg := by
  induction r with
  | nil => rfl
  | cons _ _ ih => simp [ih]
section
variable {C : Cx} {K : Frag} {G : Pg} {kf : Addr} {S : Spec} {n : Nat} {f : FI} {A : Around} {L : Addr} {outer : List Env} {st : Bool} {d d' : Nat} {lo : Loc} {σ σ₁ : Store} {s s₁ : Shared} {Q : QV} {X : XV'} {E : Value → Shared → Prop}
theorem Zqp (O : Ok C K G kf) (hh : A.handled = none) (c : Cur C f A L outer st d lo σ s) {a : Addr} {es : List (Nat × PV)} (e : G.cdt a = some es) (hl : es.length < 60) (q : Zde σ (es.map (·.1)) Q) :
    wpAny C.M A (call (.builtin "sorted") [.ref a]) (OkP C (f.env L :: outer) σ s Q) E s := by
  obtain ⟨kvs, D, R⟩ := Zfa O c.inv e
  refine Zlx hh (O.cd a es e).1 D (by rw [R.len]; lia) fun D c' h' tk out ss' hk n0 hlt hD hS hp hso => ?_
  rw [R.keys] at hp
  obtain ⟨ms, hm, rfl⟩ := Zmo hp
  exact ⟨_, _, q ms hm hso _ (c.inv.freshAt n0), (c.grown hk).track n0 ⟨out, c', hD, Zip hS⟩ (c.low hlt), .obj _⟩
theorem Zzm (O : Ok C K G kf) (c : Cur C f A L outer st d lo σ s) {a : Addr} {es : List (Nat × PV)} (e : G.cdt a = some es) (q : Zah σ (.dict es) Q) :
    wpAny C.M A (call (.type "dict") [.ref a]) (OkP C (f.env L :: outer) σ s Q) E s := by
  obtain ⟨kvs, D, R⟩ := Zfa O c.inv e
  have n0 := Zao s.heap
  refine kt_call_dict (O.cd a es e).1 D (by rw [R.len]; exact Zat (O.cd a es e).2.1) fun h' hD hs => ?_
  have hk : ∀ b x, s.heap.get? b = some x → h'.get? b = some x := fun b x eb => (hs.2 b (Nat.ne_of_lt (Heap.lt_size eb))).trans (Heap.get?_push_of_some _ eb)
  exact ⟨_, _, q _ (c.inv.freshAt n0), (c.grown hk).track n0 ⟨kvs, hD, R.mono fun b x eb _ => hk b x eb⟩ c.inv.size, .obj _⟩
theorem Zcb {t : Nat} {x : Str} {v : Value} (h : tg t = x) (e : bootBuiltins x = some v) (k : x ≠ "__name__") : bootBuiltins (tg t) = some v ∧ tg t ≠ "__name__" := by subst h; exact ⟨e, k⟩
theorem bf_len : bootBuiltins (tg 187) = some (.builtin "len") ∧ tg 187 ≠ "__name__" := Zcb (x := "len") (by decide +kernel) (by decide +kernel) (by decide +kernel)
theorem bf_int : bootBuiltins (tg 0) = some (.type "int") ∧ tg 0 ≠ "__name__" := Zcb (x := "int") (by decide +kernel) (by decide +kernel) (by decide +kernel)
theorem bf_list : bootBuiltins (tg 184) = some (.type "list") ∧ tg 184 ≠ "__name__" := Zcb (x := "list") (by decide +kernel) (by decide +kernel) (by decide +kernel)
theorem bf_tuple : bootBuiltins (tg 188) = some (.type "tuple") ∧ tg 188 ≠ "__name__" := Zcb (x := "tuple") (by decide +kernel) (by decide +kernel) (by decide +kernel)
theorem bf_dict : bootBuiltins (tg 185) = some (.type "dict") ∧ tg 185 ≠ "__name__" := Zcb (x := "dict") (by decide +kernel) (by decide +kernel) (by decide +kernel)
theorem bf_sorted : bootBuiltins (tg 186) = some (.builtin "sorted") ∧ tg 186 ≠ "__name__" := Zcb (x := "sorted") (by decide +kernel) (by decide +kernel) (by decide +kernel)
theorem bf_set : bootBuiltins (tg 3) = some (.type "set") ∧ tg 3 ≠ "__name__" := Zcb (x := "set") (by decide +kernel) (by decide +kernel) (by decide +kernel)
theorem bf_range : bootBuiltins (tg 12) = some (.type "range") ∧ tg 12 ≠ "__name__" := Zcb (x := "range") (by decide +kernel) (by decide +kernel) (by decide +kernel)
theorem bf_enumerate : bootBuiltins (tg 189) = some (.type "enumerate") ∧ tg 189 ≠ "__name__" := Zcb (x := "enumerate") (by decide +kernel) (by decide +kernel) (by decide +kernel)
theorem bf_zip : bootBuiltins (tg 190) = some (.type "zip") ∧ tg 190 ≠ "__name__" := Zcb (x := "zip") (by decide +kernel) (by decide +kernel) (by decide +kernel)
theorem Zim (O : Ok C K G kf) {fn : Nat} {e : Ex} {np p : Pos} {fv : Value} {P : QV} (he : SE C G kf S n e) (hd : d ≤ n) (ok1 : okG f.scope fn = true) (ok2 : okE f.scope e = true) (c : Cur C f A L outer st d lo σ s) (hn : nsIn K mainGlobals (tg fn) = some none) (hb : bootBuiltins (tg fn) = some fv ∧ tg fn ≠ "__name__")
    (hv : (∃ T, fv = .type T) ∨ ∃ id, fv = .builtin id) (w : wpE G S st d e lo σ P X)
    (k : ∀ pv v σ₁ s₁, Nx C (f.env L :: outer) σ σ₁ s s₁ → P pv σ₁ → VRel s₁.heap pv v → wpAny C.M A (call fv [v]) (OkP C (f.env L :: outer) σ₁ s₁ Q) (ErP C kf (f.env L :: outer) σ₁ s₁ X) s₁) :
    wpAny C.M A (eval (.Call (.Name (tg fn) np) (Ex.tos [e]) [] p) (f.env L)) (OkP C (f.env L :: outer) σ s Q) (ErP C kf (f.env L :: outer) σ s X) s := by
  refine wpAny_Call_ofName (Zea O c ok1 hn hb.1 hb.2 ?_)
  rw [Zci]
  have main : wpAny C.M A (eval e.to (f.env L)) (fun v s₁ => wpAny C.M A (call fv [v]) (OkP C (f.env L :: outer) σ s Q) (ErP C kf (f.env L :: outer) σ s X) s₁) (ErP C kf (f.env L :: outer) σ s X) s :=
    wpAny_mono (he f A L outer st d lo σ s _ X hd ok2 c w) (fun v s₁ hv => by
      obtain ⟨pv, σ₁, q, N, r⟩ := hv
      exact Zen N (k pv v σ₁ s₁ N q r)) fun _ _ e => e
  rcases hv with ⟨T, rfl⟩ | ⟨id, rfl⟩
  · exact PySem.callWith_type rfl (evalArgs_plain (spliced_cons (wpAny_mono main (fun _ _ h₁ => spliced_nil h₁) fun _ _ e => e)))
  · exact callWith_builtin rfl (evalArgs_plain (spliced_cons (wpAny_mono main (fun _ _ h₁ => spliced_nil h₁) fun _ _ e => e)))
theorem bf_sub : ∀ x ∈ [187, 0, 184, 188, 185, 186], [187, 0, 184, 188, 185, 186, 3, 12, 189, 190].contains x = true := by decide
theorem Ztc (O : Ok C K G kf) {fn : Nat} {es : List Ex} {np p : Pos} (ha : ∀ e ∈ es, SE C G kf S n e) : SE C G kf S n (.bcall fn es np p) := fun f A L outer st d lo σ s Q X hd ok c w => by
  obtain ⟨ok, ok4⟩ := Bool.and_eq_true_iff.mp ok
  obtain ⟨ok, ok3⟩ := Bool.and_eq_true_iff.mp ok
  obtain ⟨ok1, ok2⟩ := Bool.and_eq_true_iff.mp ok
  obtain ⟨e, rfl⟩ := List.length_eq_one_iff.mp (of_decide_eq_true ok3)
  obtain ⟨ok2, _⟩ := Bool.and_eq_true_iff.mp ok2
  have hn := O.bt fn (by
    rw [List.contains_eq_mem, decide_eq_true_eq] at ok4
    exact bf_sub fn ok4)
  show wpAny _ _ (eval (.Call (.Name (tg fn) np) (Ex.tos [e]) [] p) (f.env L)) _ _ _
  simp only [List.contains_eq_mem, List.mem_cons, List.not_mem_nil, or_false, decide_eq_true_eq] at ok4
  have one : ∀ {pv : PV} {σ₁ : Store}, Zz G S st d [] lo σ₁ (Zjr pv (Zdz G st fn Q)) X → (hasCd [pv] = true → st = true) ∧ bi1 G σ₁ fn pv Q := fun {pv σ₁} q => by
    obtain ⟨q0, v, e, q⟩ := q
    cases e
    exact ⟨q0, q⟩
  rcases ok4 with rfl | rfl | rfl | rfl | rfl | rfl
  · refine Zim O (ha e (.head _)) hd ok1 ok2 c hn bf_len (.inr ⟨_, rfl⟩) w fun pv v σ₁ s₁ N q r => ?_
    obtain ⟨_, vs, h1, h2, h3⟩ := one q
    exact Zack (c.next N) r h1 h2 h3
  · refine Zim O (ha e (.head _)) hd ok1 ok2 c hn bf_int (.inl ⟨_, rfl⟩) w fun pv v σ₁ s₁ N q r => ?_
    obtain ⟨_, i, rfl, q'⟩ := one q
    obtain ⟨_, rfl⟩ := Zap r
    exact call_int_int ⟨_, _, q', Nx.refl (c.next N).inv, .int _ _⟩
  · refine Zim O (ha e (.head _)) hd ok1 ok2 c hn bf_list (.inl ⟨_, rfl⟩) w fun pv v σ₁ s₁ N q r => ?_
    obtain ⟨_, vs, h1, h2, h3⟩ := one q
    exact Zzn (c.next N) r h1 h2 h3
  · refine Zim O (ha e (.head _)) hd ok1 ok2 c hn bf_tuple (.inl ⟨_, rfl⟩) w fun pv v σ₁ s₁ N q r => ?_
    obtain ⟨_, a, vs, rfl, h1, h2, h3⟩ := one q
    obtain rfl := Zau r
    exact Zqo (c.next N) h1 h2 h3
  · refine Zim O (ha e (.head _)) hd ok1 ok2 c hn bf_dict (.inl ⟨_, rfl⟩) w fun pv v σ₁ s₁ N q r => ?_
    obtain ⟨_, a, es, rfl, h1, h2⟩ := one q
    obtain rfl := cdE r
    exact Zzm O (c.next N) h1 h2
  · refine Zim O (ha e (.head _)) hd ok1 ok2 c hn bf_sorted (.inr ⟨_, rfl⟩) w fun pv v σ₁ s₁ N q r => ?_
    obtain ⟨hst, ⟨a, es, rfl, h1, h2, h3⟩ | ⟨vs, ns, h1, h2, h3, h4⟩⟩ := one q
    · obtain rfl := cdE r
      exact Zqp O (c.hand (hst rfl)) (c.next N) h1 h2 h3
    · exact Zsr (c.next N) r h1 h2 h3 h4
end
theorem distinct_le : ∀ (r seen : List Nat), distinctN seen r ≤ r.length
  | [], _ => Nat.le_refl _
  | n :: r, seen => by
    rw [Zaca]
    have a := distinct_le r seen
    have b := distinct_le r (n :: seen)
    rw [List.length_cons]
    split <;> lia
section
variable {prog : Program} {w : World} {A : Around} {R : Result → Shared → Prop} {I : Addr} {fp wr : List Addr} {G : Array GenState → Array GenState → Prop} {n : Nat} {P : Nat → Value → Prop} {St : Nat → Shared → Prop}
noncomputable abbrev Zeb (prog : Program) (w : World) (h : Heap) (S : Addr) (seen : List Nat) (m : Nat) : Prop := h.SetOf (PySem.strKind prog w) S (fun k => decide (k ∈ seen.map tg)) m
theorem mem_tg {seen : List Nat} {n : Nat} : tg n ∈ seen.map tg ↔ n ∈ seen := by
  rw [List.mem_map]
  constructor
  · rintro ⟨m, h, e⟩; rw [Zjz e] at h; exact h
  · exact fun h => ⟨n, h, rfl⟩
theorem Zrp (W : WalksS prog w A.in1 I fp wr G n P St) (S : Addr) (hSf : S ∉ fp) (ns : List Nat) (hn : ns.length = n) (hval : ∀ i v, P i v → ∃ k t, ns[i]? = some k ∧ v = .str (tg k) t) :
    ∀ (rest : List Nat) (i : Nat) (seen : List Nat) (m : Nat) (s : Shared), ns.drop i = rest → i ≤ n → m + rest.length + 1 < scanBound → St i s → Zeb prog w s.heap S seen m →
      (∀ s' seen', Moved (S :: wr) G s s' → Zeb prog w s'.heap S seen' (m + distinctN seen rest) → R (.ok (.ret .none)) s') →
      codeAny (model prog w) A (.builtin "set.update.loop" ⟨[.ref S, .ref I], []⟩) R s := by
  have hSw : S ∉ wr := fun h => hSf (W.sub _ h)
  have hsub : ∀ b ∈ wr, b ∈ S :: wr := fun b hb => List.mem_cons_of_mem _ hb
  intro rest
  induction rest with
  | nil =>
    intro i seen m s hd hi hb hst hS hR
    have hin : i = n := by
      have := congrArg List.length hd
      rw [List.length_drop, List.length_nil] at this
      lia
    subst hin
    refine codeAny_builtin PyProof.Rows.F.entry_set_update_loop ?_
    rw [Around.under_plainId PyProof.Rows.F.plain_set_update_loop _]
    show wpAny _ A.in1 (pyNext (.ref I) >>= _) _ _ s
    refine wpAny_bind (W.done s _ _ hst fun s' hm => ?_)
    show wpAny _ A.in1 (ret Value.none) _ _ s'
    exact wpAny_pure (hR s' seen (hm.mono hsub) (by
      obtain ⟨o, es, ep, t, ho, rest⟩ := hS
      exact ⟨o, es, ep, t, hm.heap S _ hSw ho, rest⟩))
  | cons k rest ih =>
    intro i seen m s hd hi hb hst hS hR
    have hk : ns[i]? = some k := by
      have := congrArg (fun l => l[0]?) hd
      simpa using this
    have hlt : i < n := by
      rw [← hn]; exact (List.getElem?_eq_some_iff.mp hk).1
    have hd' : ns.drop (i + 1) = rest := by
      rw [← List.tail_drop, hd]; rfl
    refine codeAny_builtin PyProof.Rows.F.entry_set_update_loop ?_
    rw [Around.under_plainId PyProof.Rows.F.plain_set_update_loop _]
    show wpAny _ A.in1 (pyNext (.ref I) >>= _) _ _ s
    refine wpAny_bind (W.item i s _ _ hlt hst fun v s' hP hst' hm => ?_)
    obtain ⟨k', t, hk', rfl⟩ := hval i v hP
    rw [hk] at hk'
    obtain rfl := so hk'
    have hS' : Zeb prog w s'.heap S seen m := by
      obtain ⟨o, es, ep, tb, ho, rest⟩ := hS
      exact ⟨o, es, ep, tb, hm.heap S _ hSw ho, rest⟩
    show wpAny _ A.in1 (holding [Value.str (tg k) t] (setAdd S (.str (tg k) t)) >>= _) _ _ s'
    refine wpAny_bind (wpAny_holding ?_)
    refine wpAny_holding ?_
    refine wpAny_bind ((PySem.strKind prog w).pyHash (k := tg k) (strKind_is _ _ _ _) ?_)
    have hlen : m + (rest.length + 1) + 1 < scanBound := hb
    refine wpAny_setAddHashed_of (knd := PySem.strKind prog w) (s := { s' with toks := s'.toks + 1 }) (strKind_is _ _ _ _) rfl hS' (by lia) fun h' hsb hS2 => ?_
    have key : ∃ seen' m', Zeb prog w h' S seen' m' ∧ m' + rest.length + 1 < scanBound ∧ m' + distinctN seen' rest = m + distinctN seen (k :: rest) := by
      by_cases z : k ∈ seen
      · refine ⟨seen, m, PyProof.Rows.SetOf_congr hS2 (fun k' => ?_) (by rw [if_pos (decide_eq_true (mem_tg.mpr z))]), by lia, by rw [distinctN, if_pos (List.contains_iff_mem.mpr z)]⟩
        by_cases y : k' = tg k
        · subst y; simp [mem_tg.mpr z]
        · simp [y]
      · refine ⟨k :: seen, m + 1, PyProof.Rows.SetOf_congr hS2 (fun k' => ?_) (by rw [if_neg (by simpa using fun h => z (mem_tg.mp h))]), by lia, by
          rw [distinctN, if_neg (fun h => z (List.contains_iff_mem.mp h))]; lia⟩
        rw [List.map_cons]
        simp only [List.mem_cons]
        by_cases y : k' = tg k <;> simp [y]
    obtain ⟨seen', m', hS3, hb', he⟩ := key
    refine wpAny_pure ⟨plainId_quiet PyProof.Rows.F.plain_set_update_loop _, ih (i + 1) seen' m' _ hd' hlt hb' (W.frame _ s' _ _ hst' (Nat.le_succ _) fun b hb o e => ?_) hS3 fun s'' sn hm'' hS'' => ?_⟩
    · rw [hsb.2 b (fun h : b = S => hSf (by rw [← h]; exact hb))]; exact e
    · refine hR s'' sn (Moved.trans W.gtrans ((hm.mono hsub).then_heap (Nat.le_succ _) fun b o hb e => ?_) hm'') (he ▸ hS'')
      rw [hsb.2 b (fun h : b = S => hb (by rw [h]; exact List.mem_cons_self))]; exact e
end
theorem StrsAre.at' : ∀ {vs : List Value} {ns : List Nat}, StrsAre vs (ns.map tg) → ∀ (i : Nat) (v : Value), vs[i]? = some v → ∃ k t, ns[i]? = some k ∧ v = .str (tg k) t
  | _, [], h, i, v, e => by cases h; contradiction
  | _, n :: r, h, 0, v, e => by
    cases h with | cons y t r' =>
    simp at e; subst e; exact ⟨n, t, rfl, rfl⟩
  | _, n :: r, h, i + 1, v, e => by
    cases h with | cons y t r' =>
    exact StrsAre.at' r' i v (by simpa using e)
section
variable {prog : Program} {w : World} {A : Around} {E : Value → Shared → Prop} {s : Shared}
theorem Zqt {a l : Addr} {hp : Heap} {g : Array GenState} {dr : Drawn} {tk0 : Nat} {os : OsState} {led : Bool} {items : Array Value} {ns : List Nat} {B : Around} {R : Fin → Shared → Prop} (hh : B.handled = none) (hS : hp.get? a = some { cls := .type "set", dict := none, data := .set #[] 0 (.fresh 0 0 led) }) (ht : hp.IsTuple l items) (hi : StrsAre items.toList (ns.map tg)) (hb : ns.length < 100)
    (h : ∀ (h' : Heap) (tk : Nat) seen, Zeb prog w h' a seen (distinctN [] ns) → (∀ b o, b ≠ a → hp.get? b = some o → h'.get? b = some o) → R (.done (.ret .none)) ⟨h', g, dr, tk, os⟩) :
    wpAny (model prog w) B (Builtin.«set.__init__» { pos := [Value.ref a, Value.ref l] }) R E ⟨hp, g, dr, tk0, os⟩ := by
  have hT : Shared.TypeIs ⟨hp, g, dr, tk0, os⟩ (.ref a) "set" := ⟨_, hS, rfl⟩
  obtain ⟨⟨ocls, odict, odata, oslots⟩, hol, hcl, nl, hdl⟩ := ht
  simp only at hcl hdl
  subst hcl; subst hdl
  have hsls := F.sub_tuple_set
  have hslf := F.sub_tuple_frozenset
  have hne : (Value.type "tuple" == Value.type "dict") = false := by decide
  have hl1 : hp.IsTuple l items := ⟨_, hol, rfl, nl, rfl⟩
  unfold Builtin.«set.__init__» noKeywords Builtin.Frozenset.updateFrom
  generalize hPI : pyIter = PI
  wp_walk
  subst hPI
  refine wpAny_pyIter_tuple hl1 (wpAny_bind (wpAny_runValue ?_))
  have hal : a ≠ l := fun z => by
    rw [z, hol] at hS
    have := congrArg Obj.data (so hS)
    contradiction
  have hneI : l ≠ hp.objs.size := Nat.ne_of_lt (Heap.lt_size hol)
  have haI : a ≠ hp.objs.size := Nat.ne_of_lt (Heap.lt_size hS)
  have hlen : ns.length = items.size := by
    have := PyProof.Rows.StrsAre.length hi
    rw [List.length_map, Array.length_toList] at this
    exact this.symm
  refine Zrp ((Walks.tuple (show B.in1.handled = none from hh) _ l hneI items).toS) a (fun z => (List.mem_cons.mp z).elim haI fun z => hal (List.mem_singleton.mp z)) ns hlen (fun i v e => StrsAre.at' hi i v (by rw [Array.getElem?_toList]; exact e)) ns 0 [] 0 _ (by rfl) (Nat.zero_le _) (by unfold scanBound; lia) ⟨⟨_, Heap.get?_push_size _ rfl, rfl, rfl⟩, (hl1.push _)⟩ ?hS0 ?hR
  case hS0 => exact PyProof.Rows.SetOf_congr ((PyProof.Rows.setObjOf_fresh (knd := PySem.strKind prog w) led).setOf (Heap.get?_push_of_some _ hS) (by unfold scanBound; lia)) (fun _ => by rfl) rfl
  case hR =>
    intro s' seen hm hS'
    obtain ⟨h', g', d', tk', os'⟩ := s'
    obtain rfl : g' = g := hm.gens
    obtain rfl : d' = dr := hm.drawn
    obtain rfl : os' = os := hm.os
    refine wpAny_pure (wpAny_pure (h h' tk' seen (by rw [Nat.zero_add] at hS'; exact hS') fun b o ne e => ?_))
    exact hm.heap b o (fun z => (List.mem_cons.mp z).elim ne fun z => Nat.ne_of_lt (Heap.lt_size e) (List.mem_singleton.mp z)) (Heap.get?_push_of_some _ e)
theorem Zlo {l : Addr} {items : Array Value} {ns : List Nat} {Q : Value → Shared → Prop} (hh : A.handled = none) (ht : s.heap.IsTuple l items) (hi : StrsAre items.toList (ns.map tg)) (hb : ns.length < 100)
    (h : ∀ (h' : Heap) (tk : Nat) seen, Zeb prog w h' s.heap.objs.size seen (distinctN [] ns) → (∀ b o, s.heap.get? b = some o → h'.get? b = some o) → Q (.ref s.heap.objs.size) { s with heap := h', toks := tk }) :
    wpAny (model prog w) A (call (.type "set") [.ref l]) Q E s := by
  obtain ⟨c, tl, hmro⟩ := F.called_set.mro
  have hmade := F.called_set.made
  have hsub := F.called_set.sub
  refine wpAny_call (codeAny_of_tree ?_)
  show wpAny _ _ (callAny (.type "set") _) _ _ _
  refine wpAny_pure ⟨Code.quiet_builtin _ (by decide +kernel), codeAny_builtin F.entry_type_call ?_⟩
  rw [Around.under_plain (weight_type_call_type "set" [.ref l] []) rfl]
  have h1 := F.called_set.notType
  have h2 := F.called_set.canCreate
  have hct := F.typeCall_set_1 (.ref l)
  repeat (any_goals (first | assumption | wp_step))
  refine codeAny_mono (code_set_new_1 (.ref l) (E := E) (Q₁ := fun obj s₁ => ∃ led : Bool, obj = .ref s.heap.objs.size ∧ s₁ = { s with heap := s.heap.push { cls := .type "set", dict := none, data := .set #[] 0 (.fresh 0 0 led) } }) fun led => ⟨led, rfl, rfl⟩) fun r s₁ hr => ?_
  cases r with
  | error e => exact hr
  | ok fl =>
  cases fl with
  | ret obj =>
    obtain ⟨led, rfl, rfl⟩ := hr
    have hS : (s.heap.push { cls := .type "set", dict := none, data := .set #[] 0 (.fresh 0 0 led) }).get? s.heap.objs.size = some { cls := .type "set", dict := none, data := .set #[] 0 (.fresh 0 0 led) } := Heap.get?_push_size _ rfl
    have hT : Shared.TypeIs { s with heap := s.heap.push { cls := .type "set", dict := none, data := .set #[] 0 (.fresh 0 0 led) } } (.ref s.heap.objs.size) "set" := ⟨_, hS, rfl⟩
    have hli := F.called_set.init.lookup
    have hbi := F.called_set.init.bind (.ref s.heap.objs.size)
    repeat (any_goals (first | assumption | wp_step))
    refine codeAny_mono (codeAny_call_builtin (R := wants (fun r s₂ => r = .none ∧ ∃ h' tk seen, s₂ = { s with heap := h', toks := tk } ∧ Zeb prog w h' s.heap.objs.size seen (distinctN [] ns) ∧ (∀ b o, s.heap.get? b = some o → h'.get? b = some o)) E) F.called_set.init.plain F.entry_set_init (check_set_init_1 hT ?_)) fun r₂ s₂ hr₂ => ?_
    · exact Zqt (show A.in1.in1.handled = none from hh) hS (ht.push _) hi hb fun h' tk seen hs hk => ⟨rfl, h', tk, seen, rfl, hs, fun b o e => hk b o (Nat.ne_of_lt (Heap.lt_size e)) (Heap.get?_push_of_some _ e)⟩
    · cases r₂ with
      | error e => exact hr₂
      | ok fl₂ =>
      cases fl₂ with
      | ret r =>
        obtain ⟨rfl, h', tk, seen, rfl, hS', hk'⟩ := hr₂
        repeat (any_goals (first | assumption | wp_step))
        exact h _ _ _ hS' hk'
      | _ => exact hr₂.elim
  | _ => exact hr.elim
end
section
variable {prog : Program} {w : World} {A : Around} {E : Value → Shared → Prop} {s : Shared}
open SeqAt MeetsSeq MeetsSeq2 MeetsSeq3 in
open AutoSeq1 (wpAny_loadPart') in
theorem Zaba {l b x y : Addr} {items items2 : Array Value} {n n2 : Nat} {k : Bool} {Q : Value → Shared → Prop} (hl : s.heap.get? l = some { cls := .type "list", data := .seq items n }) (hb : s.heap.get? b = some { cls := .type "list", data := .seq items2 n2 }) (hx : items = #[.ref x]) (hy : items2 = #[.ref y]) (hne : x ≠ y) (hu : A.units < cLine)
    (he : ∀ {A' : Around} {E : Value → Shared → Prop} {R : Value → Shared → Prop}, A'.units ≤ A.units + 1 → R (.bool k) s → wpAny (model prog w) A' (compareOp .Eq (.ref x) (.ref y)) R E s) (h : Q (.bool (!k)) s) : wpAny (model prog w) A (compareOp .NotEq (.ref l) (.ref b)) Q E s := by
  obtain ⟨hp, g, d, tk, os⟩ := s
  have f3 := AutoSeq1.sub_list_list
  have z0 : items[Int.toNat 0]? = some (.ref x) := by rw [hx]; rfl
  have w0 : items2[Int.toNat 0]? = some (.ref y) := by rw [hy]; rfl
  have z1 : items[Int.toNat (0 + 1)]? = none := by rw [hx]; rfl
  have w1 : items2[Int.toNat (0 + 1)]? = none := by rw [hy]; rfl
  have hs : items.size = items2.size := by rw [hx, hy]; rfl
  have hn : ¬ (items.size != items2.size) = true := by rw [hs]; simp
  clear hx hy
  have eqB : ∀ {A' : Around} {E : Value → Shared → Prop} {R : Bool → Shared → Prop}, A'.units ≤ A.units + 1 → R k ⟨hp, g, d, tk, os⟩ → wpAny (model prog w) A' (eqBool (.ref x) (.ref y)) R E ⟨hp, g, d, tk, os⟩ := fun hu h => by
    refine wpAny_holding ?_
    refine wpAny_ite_split (fun hab => absurd (by have := eq_of_beq hab; injection this) hne) (fun _ => ?_)
    exact wpAny_bind (he hu (wpAny_truthy_bool h))
  refine wpAny_richCompare_same_room (op := .NotEq) (T := "list") ⟨_, hl, rfl⟩ ⟨_, hb, rfl⟩ PySem.F.slot_list_ne (wpAny_call (codeAny_call_builtin PySem.F.slot_list_ne.plain PySem.F.entry_list_ne (PySem.F.slot_list_ne.check _ _ _ _ _ _ _ _ ⟨_, hl, rfl⟩ (PySem.F.args_list_ne_2 _ _) ?_))) hu
  wp_walk using wpAny_loadPart' hl, wpAny_loadPart' hb
  refine ⟨plainId_quiet plain_eq_loop _, codeAny_builtin entry_eq_loop ?_⟩
  rw [Around.under_plainId plain_eq_loop _]
  wp_walk using wpAny_loadPart' hl, wpAny_loadPart' hb
  rw [z0, w0]
  refine wpAny_bind (eqB (by rw [Around.in1_units]; lia) ?_)
  cases k with
  | true =>
    wp_walk
    refine ⟨plainId_quiet plain_eq_loop _, codeAny_builtin entry_eq_loop ?_⟩
    rw [Around.under_plainId plain_eq_loop _]
    wp_walk using wpAny_loadPart' hl, wpAny_loadPart' hb
    rw [z1, w1]
    wp_walk using wpAny_loadPart' hl, wpAny_loadPart' hb
    show (Value.bool (items.size != items2.size)) ≠ Value.notImplemented ∧ Q (.bool (items.size != items2.size)) _
    rw [hs]
    simpa using h
  | false =>
    wp_walk using wpAny_loadPart' hl, wpAny_loadPart' hb
    rw [z0, w0]
    wp_walk
    exact ⟨by decide, by simpa using h⟩
end
section
variable {C : Cx} {K : Frag} {G : Pg} {kf : Addr} {S : Spec} {n : Nat}
theorem Ztg {h : Heap} {x : Addr} {items : Array Value} (r : VRels h [.obj x] items.toList) : items = #[.ref x] := by
  cases items with | mk l =>
  cases r with
  | cons a r' => obtain rfl := Zau a; obtain rfl := Zcd r'; rfl
theorem Zkt (O : Ok C K G kf) {a : Ex} {wn : Nat} {np lp p : Pos} (ha : SE C G kf S n a) (f : FI) (A : Around) (L : Addr) (outer : List Env) (st : Bool) (d : Nat) (lo : Loc) (σ : Store) (s : Shared) (Q : QV) (X : XV') (hd : d ≤ n) (ok : okE f.scope (.neW a wn np lp p) = true) (c : Cur C f A L outer st d lo σ s) (w : wpE G S st d (.neW a wn np lp p) lo σ Q X) :
    wpAny C.M A (eval a.to (f.env L)) (fun v s₁ => wpAny C.M A (eval (.List [.Name (tg wn) np] lp) (f.env L)) (fun u s₂ => wpAny C.M A (compareOp .NotEq v u) (OkP C (f.env L :: outer) σ s Q) (ErP C kf (f.env L :: outer) σ s X) s₂) (ErP C kf (f.env L :: outer) σ s X) s₁) (ErP C kf (f.env L :: outer) σ s X) s := by
  obtain ⟨ok1, ok2⟩ := Bool.and_eq_true_iff.mp ok
  refine wpAny_mono (ha f A L outer st d lo σ s _ X hd ok1 c w) (fun v s₁ hv => ?_) fun _ _ e => e
  obtain ⟨p1, σ₁, q, N, r⟩ := hv
  obtain ⟨o, x, y, es, fs, rfl, h1, h2, h3, h4, k1, k2, q⟩ := q
  obtain rfl := Zau r
  have c1 := c.next N
  obtain ⟨wv, g1, g2⟩ := O.gv wn _ h2
  obtain rfl := cdE g2
  refine List_ (spliced_cons (Zfx O c1 ok2 g1 (spliced_nil (wpAny_newList ?_ (Zat (by simp))))))
  have N2 : Nx C (f.env L :: outer) σ₁ σ₁ s₁ { s₁ with heap := s₁.heap.push { cls := .type "list", data := .seq #[.ref y] } } := Nx.pushed c1.inv _
  have c2 := c1.next N2
  obtain ⟨_, items, m, hl, hr⟩ := c2.inv.sto o _ h1
  have hx := Ztg hr
  obtain ⟨hlow, ka, da, ra⟩ := c2.inv.sto x _ h3
  obtain ⟨kb, db, rb⟩ := Zfa O (s := { s₁ with heap := s₁.heap.push { cls := .type "list", data := .seq #[.ref y] } }) c2.inv h4
  have hy0 : y < C.h₀.objs.size := by
    obtain ⟨_, _, kv, ⟨ob, _, _, e, _⟩, _⟩ := O.cd y _ h4
    exact Heap.lt_size e
  have hb2 := c.bud.2
  refine Zaba hl (Heap.get?_push_size _ rfl) hx rfl (Nat.ne_of_gt (Nat.lt_of_lt_of_le hy0 hlow)) (by lia) (k := Zbf es fs) (fun {A' E' R} hu hR => ?_) ⟨_, _, q, N.trans N2, .bool _⟩
  exact Zlg (C := C) (op := true) (Zfv O hlow) (O.cd y _ h4).1 da db ra rb k1 k2 (by lia) hR
theorem Zaae (O : Ok C K G kf) {a : Ex} {wn : Nat} {np lp p : Pos} (ha : SE C G kf S n a) : SE C G kf S n (.neW a wn np lp p) := fun f A L outer st d lo σ s Q X hd ok c w => by
  show wpAny _ _ (eval (.Compare a.to [.NotEq] [.List [.Name (tg wn) np] lp] p) (f.env L)) _ _ _
  exact wpAny_Compare1 (Zkt O ha f A L outer st d lo σ s Q X hd ok c w) rfl
theorem Zzr (O : Ok C K G kf) {a : Ex} {wn : Nat} {np lp p : Pos} (ha : SE C G kf S n a) : ST C G kf S n (.neW a wn np lp p) := fun f A L outer st d lo σ s Q X hd ok c w => by
  show wpAny _ _ (PySem.isTrue (.Compare a.to [.NotEq] [.List [.Name (tg wn) np] lp] p) (f.env L) (eval (.Compare a.to [.NotEq] [.List [.Name (tg wn) np] lp] p) (f.env L))) _ _ _
  refine wpAny_isTrue_Compare1 (wpAny_mono (Zkt O ha f A L outer st d lo σ s _ X hd ok c w) (fun v s₁ h => wpAny_mono h (fun u s₂ h => wpAny_mono h (fun r s₃ h => ?_) fun _ _ e => e) fun _ _ e => e) fun _ _ e => e) rfl
  obtain ⟨p3, σ₃, q3, N3, r3⟩ := h
  obtain ⟨b, rfl, q3⟩ := Zfp q3
  obtain rfl := Zgk r3
  exact wpAny_truthy_bool ⟨_, q3, N3⟩
theorem Zqv (O : Ok C K G kf) {a : Ex} {n1 n2 p2 p : Pos} (ha : SE C G kf S n a) : SE C G kf S n (.lenset a n1 n2 p2 p) := fun f A L outer st d lo σ s Q X hd ok c w => by
  obtain ⟨ok1, ok3⟩ := Bool.and_eq_true_iff.mp ok
  obtain ⟨ok1, ok2⟩ := Bool.and_eq_true_iff.mp ok1
  refine wpAny_Call_ofName (Zea O c ok2 (O.bt _ (by decide)) bf_len.1 bf_len.2 ?_)
  show wpAny C.M A (callWith p (.builtin "len") [] [(false, eval (.Call (.Name (tg 3) n2) [a.to] [] p2) (f.env L))] []) _ _ _
  refine callWith_builtin rfl (evalArgs_plain (spliced_cons (?_ : wpAny C.M A (eval (.Call (.Name (tg 3) n2) [a.to] [] p2) (f.env L)) _ _ _)))
  refine wpAny_Call_ofName (Zea O c ok3 (O.bt _ (by decide)) bf_set.1 bf_set.2 ?_)
  have he : starEach [a.to] (f.env L) = [(false, eval a.to (f.env L))] := Zai a [] (f.env L)
  rw [he]
  refine PySem.callWith_type rfl (evalArgs_plain (spliced_cons (wpAny_mono (ha f A L outer st d lo σ s _ X hd ok1 c w) (fun v s₁ hv => spliced_nil ?_) fun _ _ e => e)))
  obtain ⟨p1, σ₁, q, N, r⟩ := hv
  obtain ⟨vs, ns, rfl, ht, hs, hn, q⟩ := q
  have c1 := c.next N
  obtain ⟨ad, ob, m, items, he, hcc, hdd, hr⟩ := Zdv r
  refine Zlo (A := A) (items := items.toArray) (ns := ns) (c.hand hs) ⟨_, he, hcc, m, hdd⟩ (by simpa using Zid ht hr) (by lia) fun h' tk seen hS hk => spliced_nil ?_
  have N2 : Nx C (f.env L :: outer) σ₁ σ₁ s₁ { s₁ with heap := h', toks := tk } := c1.grown hk
  obtain ⟨o, es, ep, t, ho, hex, hd', hel, hmem, hb, hf, hn'⟩ := hS
  refine call_len_set ho hex hd' hf (by rw [hn']; have := distinct_le ns []; lia) ⟨_, _, q, (N.trans N2).trans (c1.next N2).nx, by rw [hn']; exact .int _ _⟩
end
inductive Tests (h : Heap) (i : Int) (v : Value) (b : Bool) : Prop
  | mk (a : Addr) (o : Obj) (items : Array Value) (j n : Nat) (e : v = .ref a) (t : h.get? a = some o ∧ o.cls = .type "tuple" ∧ o.data = .seq items n) (hj : seqIndex? i items.size = some j) (hb : items[j]? = some (.bool b))
theorem Tests.one {h : Heap} {i : Int} {v : Value} {b c : Bool} (x : Tests h i v b) (y : Tests h i v c) : b = c := by
  obtain ⟨a, o, items, j, n, rfl, ⟨e, _, dd⟩, hj, hb⟩ := x
  obtain ⟨a', o', items', j', n', ea, ⟨e', _, dd'⟩, hj', hb'⟩ := y
  cases ea
  rw [e] at e'; obtain rfl := so e'
  rw [dd] at dd'; cases dd'
  rw [hj] at hj'; obtain rfl := so hj'
  rw [hb] at hb'; cases hb'; rfl
open Classical in
noncomputable def Znn (h : Heap) (i : Int) (v : Value) : Bool := decide (Tests h i v true)
open Classical in
theorem Zko {h : Heap} {i : Int} {v : Value} {b : Bool} (x : Tests h i v b) : Znn h i v = b := by
  cases b with
  | true => exact decide_eq_true x
  | false => exact decide_eq_false fun y => by have := x.one y; contradiction
theorem FilterR.len {i : Int} {vs ws : List PV} (f : FilterR i vs ws) : ws.length ≤ vs.length ∧ (-1000000 ≤ i ∧ i < 1000000 ∨ vs = []) := by
  induction f with
  | nil => exact ⟨Nat.le_refl _, .inr rfl⟩
  | @cons us vs ws b h r ih =>
    refine ⟨?_, .inl ?_⟩
    · cases b with
      | true => exact Nat.succ_le_succ ih.1
      | false => exact Nat.le_succ_of_le ih.1
    · obtain ⟨j, hj, _⟩ := Option.bind_eq_some_iff.mp h
      exact ⟨(Zgb hj).2.1, (Zgb hj).2.2.1⟩
theorem Zmd {h : Heap} {i : Int} {vs ws : List PV} (f : FilterR i vs ws) : ∀ {xs : List Value}, VRels h vs xs → (∀ x ∈ xs, ∃ b, Tests h i x b) ∧ VRels h ws (xs.filter (Znn h i)) := by
  induction f with
  | nil => intro xs r; obtain rfl := Zcd r; exact ⟨fun x hx => by simp at hx, .nil⟩
  | @cons us vs ws b hb f ih =>
    intro xs r
    obtain ⟨v, vs', ra, rr⟩ := Zbg r
    obtain ⟨a, ob, n, items, he, hc, hdd, hr⟩ := Zdv ra
    obtain ⟨j, x, h1, hx, rx, _⟩ := Zhf hr hb
    obtain rfl := Zgk rx
    have T : Tests h i (.ref a) b := ⟨a, _, _, j, _, rfl, ⟨he, hc, hdd⟩, by rw [List.size_toArray]; exact h1, by simpa using hx⟩
    obtain ⟨z1, z2⟩ := ih rr
    refine ⟨fun x hx => ?_, ?_⟩
    · rcases List.mem_cons.mp hx with rfl | hx
      · exact ⟨b, T⟩
      · exact z1 x hx
    · rw [List.filter_cons, Zko T]
      cases b with
      | true => exact .cons (.tup he hc hdd hr) z2
      | false => exact z2
theorem Zri {α : Type} {l₁ l₂ : List α} (h : Paired (fun a b => b = a) l₁ l₂) : l₂ = l₁ := by
  induction h with
  | nil => rfl
  | cons e _ ih => rw [e, ih]
section
variable {C : Cx} {K : Frag} {G : Pg} {kf : Addr} {S : Spec} {n : Nat}
theorem Zyt {l : List (Str × NameKind)} {t : Str} (e : l = [((".0" : Str), .local), (t, .local)]) : l.lookup t = some .local := by
  rw [e, List.lookup_cons]; split
  · rfl
  · rw [List.lookup_cons, beq_self_eq_true]
theorem Zkd {l : List (Str × NameKind)} {t : Str} (e : l = [((".0" : Str), .local), (t, .local)]) {y : Str × NameKind} (hy : y ∈ l) : y.2 ≠ .cell ∧ y.2 ≠ .free ∧ l.lookup y.1 = some .local := by
  have h0 : l.lookup (".0" : Str) = some .local := by rw [e, List.lookup_cons, beq_self_eq_true]
  have hx := Zyt e
  rw [e] at hy
  rcases List.mem_cons.mp hy with rfl | hy
  · exact ⟨fun z => (by cases z), fun z => (by cases z), h0⟩
  cases List.mem_singleton.mp hy
  exact ⟨fun z => (by cases z), fun z => (by cases z), hx⟩
theorem Zta (O : Ok C K G kf) {x : Nat} {xp xp' : Pos} {src : Nat} {sp : Pos} {i : Int} {ip cp bp : Pos} {sc : Scope} {lp n1 p : Pos} : SE C G kf S n (.lcond x xp xp' src sp i ip cp bp sc lp n1 p) := fun f A L outer st d lo σ s Q X hd ok c w => by
  obtain ⟨ok, ok4⟩ := Bool.and_eq_true_iff.mp ok
  obtain ⟨ok, ok3⟩ := Bool.and_eq_true_iff.mp ok
  obtain ⟨ok, ok2⟩ := Bool.and_eq_true_iff.mp ok
  obtain ⟨ok0, ok1⟩ := Bool.and_eq_true_iff.mp ok
  have ok2 := of_decide_eq_true ok2
  have ok3 := of_decide_eq_true ok3
  unfold Zgc at ok3
  obtain ⟨a, vs, ws, hlo, hs, hf, hst, hlen, w⟩ := w
  have hh := c.hand hst
  have hws : ws.length ≤ 1000 := Nat.le_trans hf.len.1 (Nat.le_trans hlen (by decide))
  have small := hf.len.2
  have hlx := Zyt ok3
  refine wpAny_Call_ofName (Zea O c ok0 (O.bt _ (by decide)) bf_len.1 bf_len.2 ?_)
  show wpAny C.M A (callWith p (.builtin "len") [] [(false, eval (.ListComp (.Name (tg x) xp) [⟨.Name (tg x) xp', .Name (tg src) sp, [.Subscript (.Name (tg x) ip) (.Constant (.int i) 0 cp) bp], 0⟩] sc lp) (f.env L))] []) _ _ _
  refine callWith_builtin rfl (evalArgs_plain (spliced_cons (?_ : wpAny C.M A (eval (.ListComp (.Name (tg x) xp) [⟨.Name (tg x) xp', .Name (tg src) sp, [.Subscript (.Name (tg x) ip) (.Constant (.int i) 0 cp) bp], 0⟩] sc lp) (f.env L)) _ _ _)))
  refine wpAny_ListComp_walk (Znn s.heap i) (fun v y => y = v) (fun y hy => (Zkd ok3 hy).2.1) (fun y hy => (Zkd ok3 hy).1) ok2 (fun y hy _ => (Zkd ok3 hy).2.2) hlx ?_
  refine Zkh c ok1 hlo fun v r => ?_
  obtain rfl := Zau r
  obtain ⟨_, items, m, hl, hr⟩ := c.inv.sto a _ hs
  refine wpAny_pyIter_list hl.isList ?_
  have hsz : items.size = vs.length := by rw [← Array.length_toList]; exact hr.length
  have ha : a < s.heap.objs.size := Heap.lt_size hl
  obtain ⟨hT, hF⟩ := Zmd hf hr
  have up : ∀ b o, s.heap.get? b = some o → (s.heap.push { cls := .type "list_iterator", data := .fields #[.ref a, .int 0 0] }).get? b = some o := fun b o e => Heap.get?_push_of_some _ e
  refine ⟨_, _, _, _, _, _, rfl, Walks.list hh s.heap.objs.size a (Nat.ne_of_lt ha) items, by rw [hsz]; exact Zat (by lia), ⟨⟨_, Heap.get?_push_size _ rfl, rfl, rfl⟩, hl.isList.push _⟩, fun b hb => ?_, ⟨?_, ?_⟩, ?_⟩
  · rcases List.mem_cons.mp hb with rfl | hb
    · show _ < (s.heap.push _).objs.size
      rw [Heap.size_push]; exact Nat.lt_succ_self _
    · rw [List.mem_singleton.mp hb]
      show _ < (s.heap.push _).objs.size
      rw [Heap.size_push]; exact Nat.lt_succ_of_lt ha
  · intro Ca j v s₃ m₃ E' hv hn hm hk htk
    obtain ⟨b, T⟩ := hT v (by rw [← Array.getElem?_toList] at hv; exact List.mem_of_getElem? hv)
    obtain ⟨ta, to, titems, tj, tn, rfl, ⟨te, tc, td⟩, tj1, tj2⟩ := T
    have te3 : s₃.heap.get? ta = some to := hk _ _ (by simpa using Nat.ne_of_lt (Heap.lt_size te)) (up _ _ te)
    have T : Tests s.heap i (.ref ta) b := ⟨ta, to, titems, tj, tn, rfl, ⟨te, tc, td⟩, tj1, tj2⟩
    rw [List.forIn_cons, Zko T]
    have main : wpAny C.M A (isTrue (.Subscript (.Name (tg x) ip) (.Constant (.int i) 0 cp) bp) (compEnv sc Ca (f.env L)) (eval (.Subscript (.Name (tg x) ip) (.Constant (.int i) 0 cp) bp) (compEnv sc Ca (f.env L)))) (fun ok s₄ => ok = b ∧ Keeps s₃ s₄) E' s₃ := by
      refine wpAny_isTrue_value ?_ rfl
      refine Subscript_ (wpAny_Name (wpAny_loadName_local ok2 hlx hn hm (wpAny_Constant_int ?_)) (by simpa using ok4))
      have z : -1000000 ≤ i ∧ i < 1000000 := by
        rcases small with z | z
        · exact z
        · subst z
          have : items.size = 0 := hsz
          have := (Array.getElem?_eq_some_iff.mp hv).1
          lia
      refine tail_any (T := "tuple") ⟨_, te3, tc⟩ F.slot_tuple_getitem.lookup (getItem_tuple (items := titems) (j := tj) (x := .bool b) ⟨_, te3, tc, tn, td⟩ (by lia) (by lia) tj1 tj2 ?_) (Ziz (.int i cp) _ _)
      exact wpAny_truthy_bool ⟨rfl, s₃.heap, _, rfl, fun _ _ e => e⟩
    refine wpAny_bind (wpAny_bind (wpAny_mono main (fun ok s₄ h => wpAny_pure ?_) fun _ _ e => e))
    simp only [List.forIn_nil]
    exact wpAny_pure h
  · intro Ca j v s₃ m₃ E' hv hp hn hm hk htk
    refine wpAny_Name (wpAny_loadName_local ok2 hlx hn hm ⟨rfl, s₃.heap, s₃.toks, rfl, fun _ _ e => e⟩) (by simpa using ok4)
  · intro D h' tk ys xs hD hL hP hlenx hxs hpair hk
    have e1 : xs = items.toList := by
      refine List.ext_getElem? fun j => ?_
      cases q : xs[j]? with
      | none =>
        have h1 := List.getElem?_eq_none_iff.mp q
        symm
        rw [List.getElem?_eq_none_iff, Array.length_toList]
        lia
      | some v => rw [Array.getElem?_toList]; exact (hxs j v q).symm
    have e2 := Zri hpair
    obtain ⟨cn, hD'⟩ := hP
    have hk' : ∀ b o, s.heap.get? b = some o → h'.get? b = some o := fun b o e => hk b o (by simpa using Nat.ne_of_lt (Heap.lt_size e)) (up b o e)
    have n0 : s.heap.get? D = none := by
      cases q : s.heap.get? D with
      | none => rfl
      | some o => rw [up _ _ q] at hD; contradiction
    have N2 : Nx C (f.env L :: outer) σ σ s { s with heap := h', toks := tk } := c.grown hk'
    have hlen2 : ys.size = ws.length := by rw [← Array.length_toList, e2, e1]; exact hF.length
    refine spliced_nil (len_list (items := ys) ⟨_, hD', rfl, cn, rfl⟩ (by rw [hlen2]; exact Zis hws) ⟨_, _, w, N2.trans (c.next N2).nx, by rw [hlen2]; exact .int _ _⟩)
end
theorem Zmn (o : Obj) {es : Array DictEntry} {ep : Nat} (hd : o.data = .dict es ep) (name : Str) (hh : Int) (k v : Value) : (Obj.putName name hh k v o).cls = o.cls ∧ (Obj.putName name hh k v o).isFreed = false := by
  obtain ⟨c, d, dt, sl⟩ := o
  subst hd
  cases hi : es.findIdx? (·.key.isStr name) with
  | some i => simp only [Obj.putName_eq, Obj.putNameByArray, hi]; constructor <;> first | rfl | trivial
  | none => simp only [Obj.putName_eq, Obj.putNameByArray, hi]; constructor <;> first | rfl | trivial
theorem Zbw {M : Model} {A : Around} {E : Value → Shared → Prop} {s : Shared} {a : Addr} {m} {name : Str} {v : Value} {o : Obj} {Q : Unit → Shared → Prop} (hn : s.heap.Ns a m) (ho : s.heap.get? a = some o)
    (h : ∀ h' o', h'.Ns a (fun x => if x = name then some v else m x) → Heap.SameBut a s.heap h' → h'.get? a = some o' → o'.cls = o.cls → Q () { s with heap := h', toks := s.toks + 1 }) :
    wpAny M A (nsSet a name v) Q E s := fun Γ p _ => by
  have k := Sem.wp_nsSet M Γ (fun e _ s' => E e s') p s hn name v (fun _ _ s' => s'.heap.Ns a (fun x => if x = name then some v else m x)) (fun h' x _ => x)
  obtain ⟨o1, es, ep, ho1, hd, hk, hm⟩ := hn
  rw [ho] at ho1; obtain rfl := so ho1
  simp only [nsSet, strHash, Sem.wp_bind', Sem.wp_cmd_ask, Sem.wp_pure', Sem.wp_cmd_mkText] at k ⊢
  rw [Sem.wp_loadPart_of M Γ _ p { s with toks := s.toks + 1 } (o := o) _ ho] at k ⊢
  have hany : es.any (·.refKey) = false := by
    rw [Array.any_eq_false']; intro e he; obtain ⟨n, t, h⟩ := hk e he; simp [DictEntry.refKey, h]
  simp only [hd, aRefKeyMayBeTheName_eq, aRefKeyMayBeTheNameByArray, hany, Bool.and_false, Bool.false_eq_true, if_false, Sem.wp_cmd_updatePart] at k ⊢
  refine ⟨by rw [ho]; rfl, h _ _ k.2 (Heap.SameBut.update ..) (Heap.get?_update_self _ ho (Zmn o hd _ _ _ _).2) (Zmn o hd _ _ _ _).1⟩
theorem Zum {M : Model} {A : Around} {E : Value → Shared → Prop} {s : Shared} {scope : Scope} {cl : List (Str × Addr)} {env : Env} {Q : Env → Shared → Prop} (hc : ∀ x ∈ scope.names, x.2 ≠ .cell)
    (hQ : Q { scope, locals := s.heap.objs.size, globals := env.globals, cells := cl, qual := env.qual, func := none, code := env.code, frame := env.frame, builtins := env.builtins } { s with heap := s.heap.push { cls := .type "dict", data := .dict #[] } }) :
    wpAny M A (newFunctionEnv scope env.globals cl [] env.qual none .none (some env)) Q E s := by
  unfold newFunctionEnv
  rw [if_pos (by rfl : (some env).isSome = true)]
  refine wpAny_bind (wpAny_alloc ?_)
  dsimp only
  rw [forIn_yield_id cl (fun x hx c => by
    obtain ⟨name, kind⟩ := x
    have : (kind == NameKind.cell) = false := by simpa using hc _ hx
    dsimp only
    rw [this, if_neg (by decide)])]
  refine wpAny_bind (wpAny_pure (wpAny_bind ?_))
  rw [List.forIn_nil]
  exact wpAny_pure (wpAny_pure hQ)
section
variable {C : Cx} {K : Frag} {G : Pg} {kf : Addr} {S : Spec} {n : Nat}
theorem Zab {e : Ex} (h : SE C G kf S n e) (he : ∀ env whole, PySem.isTrue e.to env whole = (do let v ← whole; standAt e.to.pos; holding [v] (truthy v))) : Snd C K G kf S n e := ⟨h, Zacl h he⟩
theorem snds_nil : Snds C K G kf S n [] := ⟨ses_nil, sb_nil, sbt_nil, sf_nil, fun e h => by contradiction⟩
theorem Zqq {e : Ex} {r : List Ex} (h : Snd C K G kf S n e) (hr : Snds C K G kf S n r) : Snds C K G kf S n (e :: r) :=
  ⟨Zsx h.ev hr.sp, Zws h.ev hr.bo, Ztd h.te hr.bt, Zwm h.ev hr.fm, fun x hx => by
    rcases List.mem_cons.mp hx with rfl | hx
    · exact h.ev
    · exact hr.all x hx⟩
theorem Nx.off' {outs : List Env} {σ σ' : Store} {s s₁ : Shared} (I : Inv C outs σ s.heap) (N : Nx C outs σ σ' s s₁) {h' : Heap} {t : Nat} {dr : Drawn} (hs : C.h₀.objs.size ≤ h'.objs.size)
    (hk : ∀ b o, s₁.heap.get? b = some o → (s.heap.get? b = none ∧ σ' b = none ∧ o.cls ≠ .type "tuple" ∧ o.cls ≠ .type "frame") ∨ h'.get? b = some o) : Nx C outs σ σ' s { s₁ with heap := h', drawn := dr, toks := t } := by
  have tk : TupKeep s₁.heap h' := fun b o e c => by
    rcases hk b o e with ⟨_, _, k, _⟩ | k
    · exact absurd c k
    · exact k
  refine ⟨⟨fun b o e => ?_, fun b o e => ?_, fun env hv => ?_, hs⟩, fun b o e z => ?_, fun b o e => ?_, N.fresh, N.gens, N.os⟩
  · rcases hk b o (N.inv.base b o e) with ⟨k, _⟩ | k
    · rw [I.base b o e] at k; contradiction
    · exact k
  · obtain ⟨k1, k2⟩ := N.inv.sto b o e
    obtain ⟨ob, h1, _⟩ := k2.there
    refine ⟨k1, k2.move tk (Eq.trans ?_ h1.symm)⟩
    rcases hk b ob h1 with ⟨_, k, _⟩ | k
    · rw [e] at k; contradiction
    · exact k
  · obtain ⟨k, L, o, es, n, ff, l, e, c, dd⟩ := N.inv.frs env hv
    refine ⟨k, L, o, es, n, ff, l, ?_, c, dd⟩
    rcases hk L o e with ⟨_, _, _, k⟩ | k
    · exact absurd c k
    · exact k
  · have q := N.keep b o e z
    obtain ⟨o', e', _⟩ := q.some
    refine q.trans e' (.inl ?_)
    rcases hk b o' e' with ⟨k, _⟩ | k
    · rw [e] at k; contradiction
    · exact k
  · obtain ⟨o', e'⟩ := N.stay b o e
    rcases hk b o' e' with ⟨k, _⟩ | k
    · rw [e] at k; contradiction
    · exact ⟨o', k⟩
theorem Nx.off {outs : List Env} {σ σ' : Store} {s s₁ : Shared} (I : Inv C outs σ s.heap) (N : Nx C outs σ σ' s s₁) {h' : Heap} {t : Nat} {dr : Drawn} (hs : s₁.heap.objs.size ≤ h'.objs.size)
    (hk : ∀ b o, s₁.heap.get? b = some o → (s.heap.get? b = none ∧ σ' b = none ∧ o.cls ≠ .type "tuple" ∧ o.cls ≠ .type "frame") ∨ h'.get? b = some o) : Nx C outs σ σ' s { s₁ with heap := h', drawn := dr, toks := t } := Nx.off' I N (Nat.le_trans N.inv.size hs) hk
theorem Zro (it : Ex) (env : Env) (v : Value) : foldedSetIterable it.to env v = pure v := by cases it <;> rfl
theorem Zus {own : Scope} {env : Env} {x y sf : Nat} {ca : Addr} (k3 : own.names = [((".0" : Str), .local), (tg x, .local), (tg y, .local), (tg sf, .free)]) (e : env.cells.lookup (tg sf) = some ca) : closureFor own env = pure [(tg sf, ca)] := by
  unfold closureFor cellOf
  rw [k3]
  simp only [List.forIn_cons, List.forIn_nil, e]
  rfl
end
theorem ne_lt : Value.type "list" ≠ .type "tuple" := Zw (by decide)
theorem ne_lf : Value.type "list" ≠ .type "frame" := Zw (by decide)
theorem ne_it : Value.type "tuple_iterator" ≠ .type "tuple" := Zw (by decide)
theorem ne_if : Value.type "tuple_iterator" ≠ .type "frame" := Zw (by decide)
theorem ne_dt : Value.type "dict" ≠ .type "tuple" := Zw (by decide)
theorem ne_df : Value.type "dict" ≠ .type "frame" := Zw (by decide)
structure KcH (h h₁ : Heap) (ta I D L : Addr) : Prop where
  gI : h.get? I = none
  gD : h.get? D = none
  gL : h.get? L = none
  le : h.objs.size ≤ D
  nID : I ≠ D
  nIL : I ≠ L
  nDL : D ≠ L
  old : ∀ b o, h.get? b = some o → h₁.get? b = some o
  iI : h₁.IsTupleIter I ta 0
  iD : h₁.get? D = some { cls := .type "list", data := .seq #[] 0 }
  iL : h₁.get? L = some { cls := .type "dict", data := .dict #[] }
  iN : h₁.Ns L fun _ => none
theorem Zxr {h : Heap} {ta : Addr} : KcH h (((h.push { cls := .type "tuple_iterator", data := .fields #[.ref ta, .int 0 0] }).push { cls := .type "list", dict := none, data := .seq ([] : List Value).toArray }).push { cls := .type "dict", data := .dict #[] }) ta h.objs.size (h.push { cls := .type "tuple_iterator", data := .fields #[.ref ta, .int 0 0] }).objs.size ((h.push { cls := .type "tuple_iterator", data := .fields #[.ref ta, .int 0 0] }).push { cls := .type "list", dict := none, data := .seq ([] : List Value).toArray }).objs.size := by
  generalize e1 : h.push { cls := .type "tuple_iterator", data := .fields #[.ref ta, .int 0 0] } = g1
  generalize e2 : g1.push { cls := .type "list", dict := none, data := .seq ([] : List Value).toArray } = g2
  generalize e3 : g2.push { cls := .type "dict", data := .dict #[] } = g3
  have z1 : g1.objs.size = h.objs.size + 1 := e1 ▸ Heap.size_push ..
  have z2 : g2.objs.size = g1.objs.size + 1 := e2 ▸ Heap.size_push ..
  have u1 : ∀ b o, h.get? b = some o → g1.get? b = some o := fun b o e => e1 ▸ Heap.get?_push_of_some _ e
  have u2 : ∀ b o, g1.get? b = some o → g2.get? b = some o := fun b o e => e2 ▸ Heap.get?_push_of_some _ e
  have u3 : ∀ b o, g2.get? b = some o → g3.get? b = some o := fun b o e => e3 ▸ Heap.get?_push_of_some _ e
  have l1 : h.objs.size < g1.objs.size := z1 ▸ Nat.lt_succ_self _
  have l2 : g1.objs.size < g2.objs.size := z2 ▸ Nat.lt_succ_self _
  exact ⟨Zao _, Zbi (Nat.le_of_lt l1), Zbi (Nat.le_of_lt (Nat.lt_trans l1 l2)), Nat.le_of_lt l1, Nat.ne_of_lt l1, Nat.ne_of_lt (Nat.lt_trans l1 l2), Nat.ne_of_lt l2, fun b o e => u3 _ _ (u2 _ _ (u1 _ _ e)),
    ⟨_, u3 _ _ (u2 _ _ (e1 ▸ Heap.get?_push_size _ rfl)), rfl, rfl⟩, u3 _ _ (e2 ▸ Heap.get?_push_size _ rfl), e3 ▸ Heap.get?_push_size _ rfl, e3 ▸ Heap.Ns.new ..⟩
inductive KcMid (C : Cx) (outs : List Env) (σ₁ : Store) (s₁ s' : Shared) (Q : QV) (ta ua I D L : Addr) : Prop
  | mk (r : PV) (wy : Value) (σ₂ : Store) (m' : Str → Option Value) (oC : Obj) (N2 : Nx C outs σ₁ σ₂ s₁ s') (qa : Zah σ₂ (.list [r]) Q) (rr : VRel s'.heap r wy) (jI : s'.heap.IsTupleIter I ta 1) (jT : s'.heap.IsTuple ta #[.ref ua])
    (jD : s'.heap.get? D = some { cls := .type "list", data := .seq #[wy] 1 }) (jC : s'.heap.get? L = some oC) (jCc : oC.cls = .type "dict") (jN : s'.heap.Ns L m') (zi : σ₂ I = none) (zd : σ₂ D = none) (zc : σ₂ L = none)
theorem of_eq {α : Type} {M : Model} {A : Around} {E : Value → Shared → Prop} {s : Shared} {t u : Sem α} {Q : α → Shared → Prop} (h : t = u) (k : wpAny M A u Q E s) : wpAny M A t Q E s := h ▸ k
theorem Zuc {h : Heap} {I ta : Addr} {i : Nat} {o : Obj} (j : h.IsTupleIter I ta i) (e : h.get? I = some o) : o.cls = .type "tuple_iterator" := by
  obtain ⟨_, i1, i2, _⟩ := j
  rw [e] at i1; obtain rfl := so i1; exact i2
section
variable {C : Cx} {K : Frag} {G : Pg} {kf : Addr} {S : Spec} {n : Nat} {f : FI} {A : Around} {outs outer : List Env} {L : Addr} {st : Bool} {d : Nat} {lo : Loc} {σ σ₁ : Store} {s s₁ s' : Shared} {Q : QV} {E : Value → Shared → Prop} {ce : Env} {h₁ : Heap} {ta ua I D T : Addr}
theorem Zabi (H : KcH s₁.heap h₁ ta I D T) (I₁ : Inv C outs σ₁ s₁.heap) (N : Nx C outs σ σ₁ s s₁) (W : KcMid C outs σ₁ s₁ s' Q ta ua I D T) {h₂ : Heap} {tk₂ : Nat} (hk : ∀ b o, b ≠ I → s'.heap.get? b = some o → h₂.get? b = some o) :
    compPost C.M A E none (OkP C outs σ s Q) (.ref D) T (.ok .next) { s' with heap := h₂, toks := tk₂ } := by
  obtain ⟨gI, gD, gL, le, nID, nIL, nDL, _, _, _, _, _⟩ := H
  obtain ⟨r, wy, σ₂, m', oC, N2, qa, rr, jI, jT, jD, jC, jCc, jN, zi, zd, zc⟩ := W
  refine ⟨m', jN.at' fun o e => hk _ _ (Ne.symm nIL) e, fun h' hs' => ?_⟩
  have fin : ∀ b o, b ≠ I → b ≠ T → s'.heap.get? b = some o → h'.get? b = some o := fun b o n1 n2 e => hs'.extBut b o n2 (hk b o n1 e)
  have eD := fin _ _ (Ne.symm nID) nDL jD
  have leD := Nat.le_trans I₁.size le
  have kI : ∀ o, s'.heap.get? I = some o → o.cls ≠ .type "tuple" ∧ o.cls ≠ .type "frame" := fun o e => by rw [Zuc jI e]; exact ⟨ne_it, ne_if⟩
  have kL : ∀ o, s'.heap.get? T = some o → o.cls ≠ .type "tuple" ∧ o.cls ≠ .type "frame" := fun o e => by rw [jC] at e; obtain rfl := so e; rw [jCc]; exact ⟨ne_dt, ne_df⟩
  have N3 : Nx C outs σ₁ σ₂ s₁ { s' with heap := h', toks := tk₂ } := Nx.off' I₁ N2 (Nat.le_trans leD (Nat.le_of_lt (Heap.lt_size eD))) fun b o e => by
    by_cases z1 : b = I
    · subst z1; exact .inl ⟨gI, zi, kI o e⟩
    · by_cases z2 : b = T
      · subst z2; exact .inl ⟨gL, zc, kL o e⟩
      · exact .inr (fin b o z1 z2 e)
  exact ⟨_, _, qa _ zd, (N.trans N3).track (a := D) (o := .list [r]) (Zei N gD) ⟨#[wy], 1, eD, .cons (rr.mono fun b o e ct => fin b o (fun z => (kI o (z ▸ e)).1 ct) (fun z => (kL o (z ▸ e)).1 ct) e) .nil⟩ leD, .obj _⟩
theorem Zgu {M : Model} {t : Str} {v : Value} {R : Unit → Shared → Prop} (kx : ce.kindOf t = some .local) (kd : ce.scope.kind = .function) (h : wpAny M A (nsSet ce.locals t v) R E s) : wpAny M A (storeName ce t v) R E s := by
  rw [storeName_local kx (by rw [kd]; rfl)]; exact h
theorem Zxt {x y : Nat} {p5 p6 p7 : Pos} {k : Nat} {wk wz : Value} {R : Unit → Shared → Prop} {o : Obj} {m0 : Str → Option Value} (hh : A.handled = none) (ut : IsTup s.heap ua #[wk, wz]) (kx : ce.kindOf (tg x) = some .local) (ky : ce.kindOf (tg y) = some .local) (kd : ce.scope.kind = .function) (n0 : s.heap.Ns ce.locals m0) (e0 : s.heap.get? ce.locals = some o) (ne : x ≠ y)
    (h : ∀ h' tk m o', (∀ b o, b ≠ ce.locals → s.heap.get? b = some o → h'.get? b = some o) → h'.Ns ce.locals m → m (tg x) = some wk → h'.get? ce.locals = some o' → o'.cls = o.cls → R () { s with heap := h', toks := tk }) :
    wpAny C.M A (assign (.Tuple [.Name (tg x) p5, .Name (tg y) p6] k p7) ce (.ref ua)) R E s := by
  refine assign_Tuple_tuple hh ut rfl rfl fun h₅ he => ?_
  have he' : ∀ b o, s.heap.get? b = some o → h₅.get? b = some o := fun b o e => he b o (Nat.ne_of_lt (Heap.lt_size e)) e
  refine assignInOrder_cons (wpAny_assign_Name (Zgu kx kd (Zbw (n0.at' fun o e => he' _ _ e) (he' _ _ e0) fun h₆ o₆ n₆ s₆ e₆ c₆ => ?_)))
  refine assignInOrder_cons (wpAny_assign_Name (Zgu ky kd (Zbw n₆ e₆ fun h₇ o₇ n₇ s₇ e₇ c₇ => assignInOrder_nil (h _ _ _ _ (fun b o ne e => s₇.extBut b o ne (s₆.extBut b o ne (he' b o e))) n₇ ?_ e₇ (c₇.trans c₆)))))
  exact (if_neg (Zcm ne)).trans (if_pos rfl)
theorem Zabj (O : Ok C K G kf) (SB : SpB C kf S n) {sf m x : Nat} {p1 p2 p3 p4 : Pos} {ca a cl dd fa : Addr} {es : List (Nat × PV)} {mm : Str → Option Value} {kt : PV} {wk : Value} (kd : ce.scope.kind = .function) (kc : ce.kindOf (tg sf) = some .cell) (kl : ce.cells.lookup (tg sf) = some ca) (hc : s.heap.IsCell ca (some (.ref a))) (k7 : (tg sf == ("__debug__" : Str)) = false)
    (kx : ce.kindOf (tg x) = some .local) (ns : s.heap.Ns ce.locals mm) (hm : mm (tg x) = some wk) (k8 : (tg x == ("__debug__" : Str)) = false) (k6 : (p2.endLine == p4.line) = true) (c : Cur C f A L outer st (d + 1) lo σ s) (h1 : σ a = some (.inst cl dd)) (h2 : σ dd = some (.attrs es)) (q1 : Loc.get es m = none) (h3 : G.mt cl m = some fa)
    (q2 : S st d fa [.obj a, kt] σ Q (fun _ _ => False)) (rk : VRel s.heap kt wk) (hd : d < n) : wpAny C.M A (eval (.Call (.Attribute (.Name (tg sf) p1) (tg m) p2) [.Name (tg x) p3] [] p4) ce) (OkP C (f.env L :: outer) σ s Q) E s := by
  refine of_eq (Zku (o := .var sf p1) (m := tg m) (es := [.var x p3]) (ap := p2) (p := p4) (env := ce) rfl (show 1 < 20 by decide) k6) (wpAny_bind (wpAny_Name (wpAny_loadName_cell kd kc kl hc ?_) k7))
  refine wpAny_bind (wpAny_standAt (wpAny_bind (wpAny_holding (Zpd O c h1 h2 q1 h3 ?_))))
  refine callWith_K (h₀ := C.h₀) (rest := []) O.inn (O.mt cl m fa h3).2.2.2 (spliced_cons (wpAny_Name (wpAny_loadName_local kd kx ns hm (spliced_nil ⟨c.inv.inK O, ?_⟩)) k8))
  exact wpAny_mono (SB st d hd fa _ σ _ _ q2 A (f.env L :: outer) s [.ref a, wk] c.bud c.hand c.frames c.inv (.cons (.obj a) (.cons rk .nil))) (fun _ _ h => h) (fun _ _ he => by obtain ⟨_, _, z, _⟩ := he; exact z.elim)
theorem Zxq (O : Ok C K G kf) (SB : SpB C kf S n) {sf m x y k : Nat} {p1 p2 p3 p4 p5 p6 p7 : Pos} {ca a cl dd fa : Addr} {es : List (Nat × PV)} {kt : PV} {wk wz : Value} {R : Result → Shared → Prop} {Er : Value → Shared → Prop} (H : KcH s₁.heap h₁ ta I D ce.locals) (kd : ce.scope.kind = .function) (kc : ce.kindOf (tg sf) = some .cell) (kl : ce.cells.lookup (tg sf) = some ca) (hc : s₁.heap.IsCell ca (some (.ref a))) (k7 : (tg sf == ("__debug__" : Str)) = false)
    (kx : ce.kindOf (tg x) = some .local) (ky : ce.kindOf (tg y) = some .local) (ne : x ≠ y) (k8 : (tg x == ("__debug__" : Str)) = false) (k6 : (p2.endLine == p4.line) = true) (c : Cur C f A L outer st (d + 1) lo σ s₁) (h1 : σ a = some (.inst cl dd)) (h2 : σ dd = some (.attrs es)) (q1 : Loc.get es m = none) (h3 : G.mt cl m = some fa)
    (q2 : S st d fa [.obj a, kt] σ (Zsd Q) (fun _ _ => False)) (rk : VRel s₁.heap kt wk) (hd : d < n) (hh : A.handled = none) (hT : s₁.heap.IsTuple ta #[.ref ua]) (hU : s₁.heap.IsTuple ua #[wk, wz]) :
    wpAny C.M A (pyNext (.ref I)) (fun r s₁' => match r with
      | none => R (.ok .next) s₁'
      | some v => wpAny C.M A (letOwnedTupleGo (.Tuple [.Name (tg x) p5, .Name (tg y) p6] k p7) (.ref I) v) (fun _ s₁' => wpAny C.M A (assign (.Tuple [.Name (tg x) p5, .Name (tg y) p6] k p7) ce v) (fun _ s₂ => wpAny C.M A (eval (.Call (.Attribute (.Name (tg sf) p1) (tg m) p2) [.Name (tg x) p3] [] p4) ce)
        (fun x s₄ => wpAny C.M A (call (.builtin "list.append") [.ref D, x]) (fun _ s₅ => KcMid C (f.env L :: outer) σ s₁ s₅ Q ta ua I D ce.locals) Er s₄) Er s₂) Er s₁') Er s₁') Er { s₁ with heap := h₁ } := by
  obtain ⟨gI, gD, gL, le, nID, nIL, nDL, old, iI, iD, iL, iN⟩ := H
  have lt_ne : ∀ {b o q}, s₁.heap.get? b = some o → s₁.heap.get? q = none → b ≠ q := fun e z y => by rw [y, z] at e; contradiction
  have W := Walks.tuple (prog := C.prog) (w := C.w) hh I ta (by obtain ⟨_, e, _⟩ := hT; exact lt_ne e gI) #[.ref ua]
  refine W.item 0 _ _ _ Nat.zero_lt_one ⟨iI, hT.at fun o e => old _ _ e⟩ fun v h₂ tk₂ hPv hst₂ hk₂ => ?_
  cases show some (Value.ref ua) = some v from hPv
  have hk₂ : ∀ b o, b ≠ I → h₁.get? b = some o → h₂.get? b = some o := fun b o ne e => hk₂ b o (fun z => ne (List.mem_singleton.mp z)) e
  refine letGo_tupleiter hst₂.1 ?_
  refine Zxt hh (hU.at fun o e => hk₂ _ _ (lt_ne e gI) (old _ _ e)) kx ky kd (iN.at' fun o e => hk₂ _ _ (Ne.symm nIL) e) (hk₂ _ _ (Ne.symm nIL) iL) ne fun h₇ T m₇ o₇ u n₇ hm e₇ c₇ => ?_
  have up7 : ∀ b o, b ≠ I → b ≠ ce.locals → h₁.get? b = some o → h₇.get? b = some o := fun b o n1 n2 e => u b o n2 (hk₂ b o n1 e)
  have old7 : ∀ b o, s₁.heap.get? b = some o → h₇.get? b = some o := fun b o e => up7 b o (lt_ne e gI) (lt_ne e gL) (old b o e)
  have iD7 := up7 _ _ (Ne.symm nID) nDL iD
  have iI7 : h₇.IsTupleIter I ta 1 := by
    obtain ⟨o, e1, e2⟩ := hst₂.1
    exact ⟨o, u _ _ nIL e1, e2⟩
  have N7 : Nx C (f.env L :: outer) σ σ s₁ { s₁ with heap := h₇, toks := T } := c.grown old7
  have c7 := c.next N7
  refine wpAny_mono (Zabj O SB (wk := wk) (E := Er) (s := { s₁ with heap := h₇, toks := T }) kd kc kl ⟨_, old7 _ _ hc.choose_spec.1, hc.choose_spec.2⟩ k7 kx n₇ hm k8 k6 c7 h1 h2 q1 h3 q2 (rk.mono fun b o e _ => old7 b o e) hd) (fun v s₈ hv => ?_) fun _ _ z => z
  obtain ⟨r, σ₂, qa, N2, rr⟩ := hv
  have keep : ∀ b o, h₇.get? b = some o → s₁.heap.get? b = none → o.cls ≠ .type "frame" → s₈.heap.get? b = some o ∧ σ₂ b = none := fun b o e1 e2 e3 => by
    have z0 := c.inv.freshAt e2
    refine ⟨(N2.keep b o e1 z0).resolve_right fun q => e3 q.1, ?_⟩
    cases q : σ₂ b with
    | none => rfl
    | some po => exact ((N2.fresh b (by rw [q]; simp)).elim (fun z => absurd z0 z) fun z => by rw [show h₇.get? b = none from z] at e1; contradiction)
  obtain ⟨iD8, zd⟩ := keep _ _ iD7 gD ne_lf
  have iI8 : s₈.heap.IsTupleIter I ta 1 ∧ σ₂ I = none := by
    obtain ⟨o, e1, e2, e3⟩ := iI7
    obtain ⟨x1, x2⟩ := keep _ _ e1 gI (e2 ▸ ne_if)
    exact ⟨⟨o, x1, e2, e3⟩, x2⟩
  obtain ⟨iC8, zc⟩ := keep _ _ e₇ gL (c₇ ▸ ne_df)
  have iT8 : s₈.heap.IsTuple ta #[.ref ua] := by
    obtain ⟨o, e1, e2, e3⟩ := hT
    exact ⟨o, N2.tup N7.inv _ _ (old7 _ _ e1) e2, e2, e3⟩
  refine append_at iD8 (fun h₉ hs₉ hD₉ => ?_) (by decide)
  have tk : ∀ b o, b ≠ D → s₈.heap.get? b = some o → h₉.get? b = some o := fun b o ne e => hs₉.extBut b o ne e
  have tt : TupKeep s₈.heap h₉ := fun b o e ct => tk b o (fun z => by rw [z, iD8] at e; obtain rfl := so e; contradiction) e
  refine ⟨r, v, σ₂, _, _, Nx.off c.inv (N7.trans N2) (by rw [hs₉.1]; exact Nat.le_refl _) fun b o e => ?_, qa, rr.mono tt, ?_, ?_, hD₉, tk _ _ (Ne.symm nDL) iC8, c₇, n₇.at' fun o e => ?_, iI8.2, zd, zc⟩
  · by_cases z : b = D
    · subst z
      rw [iD8] at e; obtain rfl := so e
      exact .inl ⟨gD, zd, ne_lt, ne_lf⟩
    · exact .inr (tk _ _ z e)
  · obtain ⟨o, e1, e2⟩ := iI8.1
    exact ⟨o, tk _ _ nID e1, e2⟩
  · obtain ⟨o, e1, e2, e3⟩ := iT8
    exact ⟨o, tt _ _ e1 e2, e2, e3⟩
  · rw [e₇] at e; obtain rfl := so e
    exact tk _ _ (Ne.symm nDL) iC8
theorem Zxp {elt iter : Expr} {elts : List Expr} {k : Nat} {p7 p : Pos} {own : Scope} {R : Result → Shared → Prop} (H : KcH s₁.heap h₁ ta I D ce.locals) (hh : A.handled = none) (hT : s₁.heap.IsTuple ta #[.ref ua])
    (item : wpAny C.M A (pyNext (.ref I)) (fun r s₁' => match r with
      | none => R (.ok .next) s₁'
      | some v => wpAny C.M A (letOwnedTupleGo (.Tuple elts k p7) (.ref I) v) (fun _ s₁' => wpAny C.M A (assign (.Tuple elts k p7) ce v) (fun _ s₂ => wpAny C.M A (eval elt ce)
        (fun x s₄ => wpAny C.M A (call (.builtin "list.append") [.ref D, x]) (fun _ s₅ => KcMid C outs σ₁ s₁ s₅ Q ta ua I D ce.locals) (notedBy C.M A ce fun e s' => R (.error e) s') s₄) (notedBy C.M A ce fun e s' => R (.error e) s') s₂) (notedBy C.M A ce fun e s' => R (.error e) s') s₁') (notedBy C.M A ce fun e s' => R (.error e) s') s₁') (notedBy C.M A ce fun e s' => R (.error e) s') { s₁ with heap := h₁ })
    (fin : ∀ s' h₂ tk₂, KcMid C outs σ₁ s₁ s' Q ta ua I D ce.locals → (∀ b o, b ≠ I → s'.heap.get? b = some o → h₂.get? b = some o) → R (.ok .next) { s' with heap := h₂, toks := tk₂ }) :
    codeAny C.M A (.compStart (.ListComp elt [⟨.Tuple elts k p7, iter, [], 0⟩] own p) 0 (.ref I) (.ref D) ce) R { s₁ with heap := h₁ } := by
  have W := Walks.tuple (prog := C.prog) (w := C.w) hh I ta (by obtain ⟨_, e, _⟩ := hT; intro z; rw [z, H.gI] at e; contradiction) #[.ref ua]
  have loop := LCp.codeAny_compLoop_pair (prog := C.prog) (w := C.w) (A := A) (s := { s₁ with heap := h₁ }) (elt := elt) (iter := iter) (elts := elts) (x1 := k) (tp := p7) (scope := own) (pos := p) (it := .ref I) (acc := .ref D) (env := ce) (R := R)
    (fun j s' => (j = 2 ∧ s' = { s₁ with heap := h₁ }) ∨ (j = 1 ∧ KcMid C outs σ₁ s₁ s' Q ta ua I D ce.locals)) (fun j s' h => ?_) 2 (.inl ⟨rfl, rfl⟩)
  · exact codeAny_compStart_list loop (W.self 0 _ _ _ ⟨H.iI, hT.at fun o e => H.old _ _ e⟩ loop)
  · rcases h with ⟨rfl, rfl⟩ | ⟨rfl, M⟩
    · refine wpAny_mono item (fun r s z => ?_) fun _ _ z => z
      cases r with
      | none => exact z
      | some v => exact wpAny_mono z (fun _ _ z => wpAny_mono z (fun _ _ z => wpAny_mono z (fun _ _ z => wpAny_mono z (fun _ _ z => ⟨1, by decide, .inr ⟨rfl, z⟩⟩) fun _ _ z => z) fun _ _ z => z) fun _ _ z => z) fun _ _ z => z
    · obtain ⟨jI, jT⟩ : s'.heap.IsTupleIter I ta 1 ∧ s'.heap.IsTuple ta #[.ref ua] := by obtain ⟨_, _, _, _, _, _, _, _, jI, jT⟩ := M; exact ⟨jI, jT⟩
      exact W.done _ _ _ ⟨jI, jT⟩ fun h₂ tk₂ hk => fin s' h₂ tk₂ M fun b o ne e => hk b o (fun z => ne (List.mem_singleton.mp z)) e
end
inductive PairI (h : Heap) (kt pz : PV) : Value → Prop
  | mk (ta ua : Addr) (wk wz : Value) (hT : h.IsTuple ta #[.ref ua]) (hU : h.IsTuple ua #[wk, wz]) (rk : VRel h kt wk) : PairI h kt pz (.ref ta)
theorem Ztn {h : Heap} {kt pz : PV} {v : Value} (r : VRel h (.tup [.tup [kt, pz]]) v) : PairI h kt pz v := by
  obtain ⟨ta, to, tn, titems, te, tc, td, tr⟩ := Zdv r
  obtain ⟨_, _, r1, r2⟩ := Zbg tr
  obtain rfl := Zcd r2
  obtain ⟨ua, uo, un, uitems, ue, uc, ud, ur⟩ := Zdv r1
  obtain ⟨wk, _, rk, rest⟩ := Zbg ur
  obtain ⟨wz, _, rz, rest2⟩ := Zbg rest
  obtain rfl := Zcd rest2
  exact ⟨ta, ua, wk, wz, ⟨_, te, tc, tn, td⟩, ⟨_, ue, uc, un, ud⟩, rk⟩
inductive KcOk (sc own : Scope) (it : Ex) (sf x y : Nat) (p2 p4 : Pos) : Prop
  | mk (k0 : okE sc it = true) (k1 : sc.names.lookup (tg sf) = some .cell) (k2 : own.kind = .function) (k3 : own.names = [((".0" : Str), .local), (tg x, .local), (tg y, .local), (tg sf, .free)]) (k4 : (tg sf == (".0" : Str)) = false) (k5 : x ≠ y ∧ sf ≠ x ∧ sf ≠ y) (k6 : (p2.endLine == p4.line) = true) (k7 : (tg sf == ("__debug__" : Str)) = false) (k8 : (tg x == ("__debug__" : Str)) = false)
theorem Zacw {sc own : Scope} {it : Ex} {sf m x y : Nat} {p1 p2 p3 p4 p5 p6 : Pos} {k : Nat} {p7 p : Pos} (ok : okE sc (.kcomp sf m x y it own p1 p2 p3 p4 p5 p6 k p7 p) = true) : KcOk sc own it sf x y p2 p4 := by
  obtain ⟨ok, _⟩ := Bool.and_eq_true_iff.mp ok
  obtain ⟨ok, k8⟩ := Bool.and_eq_true_iff.mp ok
  obtain ⟨ok, k7⟩ := Bool.and_eq_true_iff.mp ok
  obtain ⟨ok, k6⟩ := Bool.and_eq_true_iff.mp ok
  obtain ⟨ok, k5⟩ := Bool.and_eq_true_iff.mp ok
  obtain ⟨ok, k4⟩ := Bool.and_eq_true_iff.mp ok
  obtain ⟨ok, k3⟩ := Bool.and_eq_true_iff.mp ok
  obtain ⟨ok, k2⟩ := Bool.and_eq_true_iff.mp ok
  obtain ⟨k0, k1⟩ := Bool.and_eq_true_iff.mp ok
  exact ⟨k0, beq_iff_eq.mp k1, of_decide_eq_true k2, of_decide_eq_true k3, beq_eq_false_iff_ne.mpr fun z => (by rw [z] at k4; contradiction), of_decide_eq_true k5, k6, beq_eq_false_iff_ne.mpr fun z => (by rw [z] at k7; contradiction), beq_eq_false_iff_ne.mpr fun z => (by rw [z] at k8; contradiction)⟩
section
variable {sf x y : Nat} {own : Scope} (k3 : own.names = [((".0" : Str), .local), (tg x, .local), (tg y, .local), (tg sf, .free)])
include k3
theorem kc_x : own.names.lookup (tg x) = some .local := by
  rw [k3, List.lookup_cons]; split
  · rfl
  · rw [List.lookup_cons, beq_self_eq_true]
theorem kc_y : own.names.lookup (tg y) = some .local := by
  rw [k3, List.lookup_cons]; split
  · rfl
  · rw [List.lookup_cons]; split
    · rfl
    · rw [List.lookup_cons, beq_self_eq_true]
theorem Zps {z : Str × NameKind} (hz : z ∈ own.names) : z.2 ≠ .cell ∧ (z.2 = .local → own.names.lookup z.1 = some .local) := by
  have h0 : own.names.lookup (".0" : Str) = some .local := by rw [k3, List.lookup_cons, beq_self_eq_true]
  have hx := kc_x k3
  have hy := kc_y k3
  rw [k3] at hz
  rcases List.mem_cons.mp hz with rfl | hz
  · exact ⟨fun z => (by contradiction), fun _ => h0⟩
  rcases List.mem_cons.mp hz with rfl | hz
  · exact ⟨fun z => (by contradiction), fun _ => hx⟩
  rcases List.mem_cons.mp hz with rfl | hz
  · exact ⟨fun z => (by contradiction), fun _ => hy⟩
  cases List.mem_singleton.mp hz
  exact ⟨fun z => (by contradiction), fun z => by contradiction⟩
theorem Zxs {env : Env} (k4 : (tg sf == (".0" : Str)) = false) (k5 : sf ≠ x ∧ sf ≠ y) (h1 : env.kindOf (tg sf) = some .cell) (h2 : env.scope.kind = .function) : (relabel own env).names.lookup (tg sf) = some .cell := by
  simp [relabel, k3, List.lookup_cons, k4, beq_eq_false_iff_ne.mpr (Zcm k5.1), beq_eq_false_iff_ne.mpr (Zcm k5.2), h1, h2]
end
section
variable {C : Cx} {K : Frag} {G : Pg} {kf : Addr} {S : Spec} {n : Nat}
theorem Zxo {f : FI} {A : Around} {L : Addr} {outer : List Env} {st : Bool} {d : Nat} {lo : Loc} {σ : Store} {s : Shared} {sf : Nat} {a : Addr} (c : Cur C f A L outer st d lo σ s) (k1 : f.scope.names.lookup (tg sf) = some .cell) (hlo : lo.get sf = some (.obj a)) : ∃ ca o, f.cells.lookup (tg sf) = some ca ∧ s.heap.get? ca = some o ∧ o.data = .cell (some (.ref a)) := by
  obtain ⟨m', F, lr⟩ := c.fr
  obtain ⟨wv, hw, rw'⟩ := lr sf _ hlo
  unfold At at hw
  rw [k1] at hw
  obtain rfl := Zau rw'
  exact hw
theorem Ztb (O : Ok C K G kf) (SB : SpB C kf S n) {sf m x y : Nat} {it : Ex} {own : Scope} {p1 p2 p3 p4 p5 p6 : Pos} {k : Nat} {p7 p : Pos} (hi : SE C G kf S n it) : SE C G kf S n (.kcomp sf m x y it own p1 p2 p3 p4 p5 p6 k p7 p) := fun f A L outer st d lo σ s Q X hd ok c w => by
  obtain ⟨k0, k1, k2, k3, k4, k5, k6, k7, k8⟩ := Zacw ok
  obtain ⟨hst, a, hlo, w⟩ := w
  obtain ⟨ca, co, cell1, cell2, cell3⟩ := Zxo c k1 hlo
  show wpAny C.M A (eval (.ListComp _ _ _ _) _) _ _ _
  rw [eval_ListComp]
  refine wpAny_comprehension_free (use := none) rfl (Zro it _) (Zus k3 cell1) k2 (fun z hz hl => (Zps k3 hz).2 hl) (wpAny_mono (hi f A L outer st d lo σ s _ X hd k0 c w) (fun v s₁ hv => ?_) fun _ _ e => e)
  obtain ⟨pp, σ₁, ⟨kt, pz, d', cl, dd, es, fa, rfl, rfl, ⟨ea, h1, h2⟩, h3, q1, q2⟩, N, r⟩ := hv
  cases ea
  obtain ⟨ta, ua, wk, wz, hT, hU, rk⟩ := Ztn r
  obtain ⟨co', cell2', cell3'⟩ := N.cells c.inv _ _ _ cell2 cell3
  have c1 := c.next N
  refine wpAny_pyIter_tuple hT (wpAny_newObj_type (Zum (fun z hz => (Zps k3 hz).1) ?_))
  have H := Zxr (h := s₁.heap) (ta := ta)
  exact Zxp (s₁ := s₁) (ce := compEnvC own [(tg sf, ca)] _ (f.env L)) H (c.hand hst) hT
    (Zxq (s₁ := s₁) O SB H k2 (Zxs k3 k4 k5.2 k1 c.kind) (List.lookup_cons_self ..) ⟨_, cell2', cell3'⟩ k7 (lookup_relabel_local (kc_x k3)) (lookup_relabel_local (kc_y k3)) k5.1 k8 k6 c1 h1 h2 q1 h3 q2 rk hd (c.hand hst) hT hU)
    fun s' h₂ tk₂ M hk => Zabi H c1.inv N M hk
variable (O : Ok C K G kf) (SB : SpB C kf S n)
include O SB
mutual
theorem snd : ∀ e : Ex, Snd C K G kf S n e
  | .non _ => Zab Zaac fun _ _ => rfl
  | .bool _ _ => Zab Zwq fun _ _ => rfl
  | .int _ _ => Zab Zaah fun _ _ => rfl
  | .minus _ _ _ => Zab Zsy fun _ _ => rfl
  | .str _ _ => Zab Zaab fun _ _ => rfl
  | .var _ _ => Zab Zzy fun _ _ => rfl
  | .glob _ _ => Zab (Zwn O) fun _ _ => rfl
  | .tup es _ _ => Zab (Zzz (snds es).sp) fun _ _ => rfl
  | .lst es _ => Zab (Zaaf (snds es).sp) fun _ _ => rfl
  | .dct _ es _ => Zab (Zaaj (snds es).all) fun _ _ => rfl
  | .sub a i _ => Zab (Zaaa O (snd a).ev (snd i).ev) fun _ _ => rfl
  | .cut a u _ _ => Zab (Zaak O (snd a).ev (snd u).ev) fun _ _ => rfl
  | .bin a _ b _ => Zab (Zaan (snd a).ev (snd b).ev) fun _ _ => rfl
  | .cmp a _ b _ => ⟨Zaal O (snd a).ev (snd b).ev, Zzt O (snd a).ev (snd b).ev⟩
  | .bop _ es _ => ⟨Zaam (snds es).bo, Zzu (snds es).bt⟩
  | .neg a _ => ⟨Zaad (snd a).ev, Zzq (snd a).te⟩
  | .ite c a b _ => ⟨Zaag (snd c).te (snd a).ev (snd b).ev, Zzs (snd c).te (snd a).te (snd b).te⟩
  | .attr a _ _ => Zab (Zwr O (snd a).ev) fun _ _ => rfl
  | .call _ es _ _ => Zab (Zwp O SB (snds es).sp) fun _ _ => rfl
  | .bcall _ es _ _ => Zab (Ztc O (snds es).all) fun _ _ => rfl
  | .mcall o _ es _ _ => Zab (Zsz O SB (snd o).ev (snds es).sp (snds es).all) fun _ _ => rfl
  | .fmt es _ => Zab (Zaai (snds es).fm) fun _ _ => rfl
  | .fval a _ => Zab (Zwo (snd a).ev) fun _ _ => rfl
  | .lenset a _ _ _ _ => Zab (Zqv O (snd a).ev) fun _ _ => rfl
  | .neW a _ _ _ _ => ⟨Zaae O (snd a).ev, Zzr O (snd a).ev⟩
  | .lcond .. => Zab (Zta O) fun _ _ => rfl
  | .kcomp _ _ _ _ it _ _ _ _ _ _ _ _ _ _ => Zab (Ztb O SB (snd it).ev) fun _ _ => rfl
  | .any .. => Zab (fun f A L outer st d lo σ s Q X hd ok c w => w.elim) fun _ _ => rfl
theorem snds : ∀ es : List Ex, Snds C K G kf S n es
  | [] => snds_nil
  | e :: r => Zqq (snd e) (snds r)
end
end
structure Bs (C : Cx) (outer : List Env) (L : Addr) (σ₀ : Store) (s₀ : Shared) : Prop where
  inv : Inv C outer σ₀ s₀.heap
  new : s₀.heap.get? L = none
structure Run (C : Cx) (f : FI) (A : Around) (L : Addr) (outer : List Env) (st : Bool) (d : Nat) (σ₀ : Store) (s₀ : Shared) (lo : Loc) (σ : Store) (s : Shared) : Prop where
  nx : Nx C outer σ₀ σ s₀ s
  cur : Cur C f A L outer st d lo σ s
section
variable {C : Cx} {K : Frag} {G : Pg} {kf : Addr} {S : Spec} {n : Nat} {f : FI} {A : Around} {L : Addr} {outer : List Env} {st : Bool} {d d' : Nat} {lo : Loc} {σ σ₁ σ₀ : Store} {s s₁ s₀ : Shared} {E : Value → Shared → Prop}
theorem Run.next (R : Run C f A L outer st d σ₀ s₀ lo σ s) (N : Nx C (f.env L :: outer) σ σ₁ s s₁) : Run C f A L outer st d σ₀ s₀ lo σ₁ s₁ :=
  ⟨R.nx.trans (N.under R.cur.inv R.nx.inv.frs), R.cur.next N⟩
theorem Run.toks (R : Run C f A L outer st d σ₀ s₀ lo σ s) {t : Nat} {dr : Drawn} : Run C f A L outer st d σ₀ s₀ lo σ { s with drawn := dr, toks := t } := R.next R.cur.nx
noncomputable def Wr (C : Cx) (s₀ : Shared) (h h' : Heap) : Prop := ∀ b o, h.get? b = some o →
  h'.get? b = some o ∨ (o.cls = .type "frame" ∧ C.h₀.get? b = none ∧ ∃ sl, h'.get? b = some { o with slots := sl }) ∨ (s₀.heap.get? b = none ∧ (∃ vs, o.data = .fields vs) ∧ o.cls ≠ .type "tuple")
theorem Run.chg (B : Bs C outer L σ₀ s₀) (R : Run C f A L outer st d σ₀ s₀ lo σ s) {h' : Heap} (W : Wr C s₀ s.heap h') : Run C f A L outer st d σ₀ s₀ lo σ { s with heap := h' } := by
  have I := R.cur.inv
  have tk : TupKeep s.heap h' := fun a o e c => by
    rcases W a o e with k | ⟨k, _⟩ | ⟨_, _, k⟩
    · exact k
    · rw [c] at k; contradiction
    · exact absurd c k
  have sto : ∀ a o, σ a = some o → C.h₀.objs.size ≤ a ∧ ORel C h' a o := fun a o e => by
    obtain ⟨k1, k2⟩ := I.sto a o e
    refine ⟨k1, ?_⟩
    obtain ⟨ob, h1, h2, h3, h4, _⟩ := k2.there
    refine k2.move tk (Eq.trans ?_ h1.symm)
    rcases W a ob h1 with k | ⟨k, _⟩ | ⟨_, ⟨vs, k⟩, _⟩
    · exact k
    · exact absurd k h3
    · exact absurd k (h4 vs)
  have base : C.h₀.StaysIn h' := fun b o e => by
    rcases W b o (I.base b o e) with k | ⟨_, k, _⟩ | ⟨k, _⟩
    · exact k
    · rw [e] at k; contradiction
    · rw [B.inv.h0None k] at e; contradiction
  have fr : ∀ {b o es n}, s.heap.get? b = some o → o.cls = .type "frame" → o.data = .dict es n → ∃ o', h'.get? b = some o' ∧ o'.cls = .type "frame" ∧ o'.data = .dict es n := fun {b o es n} e c dd => by
    rcases W b o e with k | ⟨_, _, sl, k⟩ | ⟨_, ⟨vs, k⟩, _⟩
    · exact ⟨o, k, c, dd⟩
    · exact ⟨_, k, c, dd⟩
    · rw [dd] at k; contradiction
  have frs : ∀ {l}, FrOk C s.heap l → FrOk C h' l := fun {l} F env he => by
    obtain ⟨k, L, o, es, n, ff, l, e, c, dd⟩ := F env he
    obtain ⟨o', e', c', d'⟩ := fr e c dd
    exact ⟨k, L, o', es, n, ff, l, e', c', d'⟩
  obtain ⟨hL, oL, esL, nL, eL, cL, dL⟩ := R.cur.frame
  have hsz : C.h₀.objs.size ≤ h'.objs.size := by
    obtain ⟨o', e', _⟩ := fr eL cL dL
    exact Nat.le_of_lt (Nat.lt_of_le_of_lt hL (Heap.lt_size e'))
  refine ⟨⟨⟨base, sto, frs R.nx.inv.frs, hsz⟩, fun b o e z => ?_, fun b o e => ?_, R.nx.fresh, R.nx.gens, R.nx.os⟩, R.cur.bud, R.cur.hand, R.cur.frames, ⟨base, sto, frs I.frs, hsz⟩, ?_, R.cur.kind⟩
  · have k := R.nx.keep b o e z
    obtain ⟨o1, e1, _⟩ := k.some
    refine k.trans e1 ?_
    rcases W b o1 e1 with q | ⟨q1, _, sl, q2⟩ | ⟨q, _⟩
    · exact .inl q
    · exact .inr ⟨q1, sl, q2⟩
    · rw [e] at q; contradiction
  · obtain ⟨o1, e1⟩ := R.nx.stay b o e
    rcases W b o1 e1 with q | ⟨_, _, sl, q⟩ | ⟨q, _, _⟩
    · exact ⟨_, q⟩
    · exact ⟨_, q⟩
    · rw [e] at q; contradiction
  · obtain ⟨m, hn, r⟩ := R.cur.fm
    refine ⟨m, ?_, fun t p z => ?_⟩
    · refine Zmr hn eL ?_
      rcases W L oL eL with q | ⟨q1, _, sl, q2⟩ | ⟨_, ⟨vs, q⟩, _⟩
      · exact .inl q
      · exact .inr ⟨q1, sl, q2⟩
      · rw [dL] at q; contradiction
    · obtain ⟨v, x, y⟩ := r t p z
      refine ⟨v, x.keep (fun c o x e dd => ?_), y.mono tk⟩
      rcases W c o e with q | ⟨_, _, sl, q⟩ | ⟨_, ⟨vs, q⟩, _⟩
      · exact ⟨o, q, dd⟩
      · exact ⟨_, q, dd⟩
      · rw [dd] at q; contradiction
theorem Run.fun (R : Run C f A L outer st d σ₀ s₀ lo σ s) : s.heap.FunFrames C.h₀ (f.env L :: outer) := by
  have : ∀ l, FrOk C s.heap l → s.heap.FunFrames C.h₀ l := by
    intro l
    induction l with
    | nil => intro _; trivial
    | cons env r ih =>
      intro F
      obtain ⟨k, L, o, es, n, ff, l, e, c, dd⟩ := F env (.head _)
      exact ⟨k, ⟨L, o, ff, Zbi l, e, fun vs q => by rw [dd] at q; contradiction⟩, ih fun env' he => F env' (.tail _ he)⟩
  exact this _ R.cur.inv.frs
theorem Run.slots (B : Bs C outer L σ₀ s₀) (R : Run C f A L outer st d σ₀ s₀ lo σ s) {h' : Heap} (W : Heap.SlotsOnly ((f.env L :: outer).filterMap (·.frame)) s.heap h') : Wr C s₀ s.heap h' := by
  intro b o e
  by_cases hb : b ∈ (f.env L :: outer).filterMap (·.frame)
  · obtain ⟨sl, q⟩ := W.2.2 b o e
    refine .inr (.inl ⟨?_, (R.fun.mem hb).1, sl, q⟩)
    obtain ⟨env, he, hf⟩ := List.mem_filterMap.mp hb
    obtain ⟨_, L', o', _, _, ff, _, e', c, _⟩ := R.cur.inv.frs env he
    rw [ff] at hf; obtain rfl := so hf
    rw [e] at e'; obtain rfl := so e'; exact c
  · exact .inl ((W.2.1 b hb).trans e)
theorem Wr.push (h : Heap) (o : Obj) : Wr C s₀ h (h.push o) := fun _ _ e => .inl (Heap.get?_push_of_some _ e)
theorem Wr.field {h : Heap} {a : Addr} {o : Obj} {vs : Array Value} {g : Array Value → Array Value} (e : h.get? a = some o) (dd : o.data = .fields vs) (c : o.cls ≠ .type "tuple") (n0 : s₀.heap.get? a = none) : Wr C s₀ h (h.update a (Obj.mapFields g)) := by
  intro b ob eb
  by_cases z : b = a
  · subst z
    rw [e] at eb; obtain rfl := so eb
    exact .inr (.inr ⟨n0, ⟨vs, dd⟩, c⟩)
  · exact .inl ((Heap.get?_update_other _ _ (Ne.symm z)).trans eb)
end
theorem ExcB.keep {kf : Addr} {u : Store} {h h₁ h₂ : Heap} {e : Addr} {vs : Array Value} {i : Int} (k : ∀ b o, h₁.get? b = some o → o.cls ≠ .type "frame" → h₂.get? b = some o) (x : ExcB kf u h h₁ e vs i) : ExcB kf u h h₂ e vs i := by
  obtain ⟨dx, oe, ents, n, tk, a2, a3, a4, a5, a6, a7, a8, au, a9, a10⟩ := x
  exact ⟨dx, oe, ents, n, tk, a2, k _ _ a3 (by rw [a4]; lia), a4, a5, a6, a7, a8, au, k _ _ a9 (by exact Zw (by decide)), a10⟩
theorem ExcB.put {kf : Addr} {u : Store} {h h₁ : Heap} {e : Addr} {vs : Array Value} {i : Int} (x : ExcB kf u h h₁ e vs i) (v : Value) : ExcB kf u h (h₁.update e (Obj.mapFields (·.setIfInBounds 1 v))) e (vs.setIfInBounds 1 v) i := by
  obtain ⟨dx, oe, ents, n, tk, a2, a3, a4, a5, a6, a7, a8, au, a9, a10⟩ := x
  have dd := Obj.data_mapFields a6 (·.setIfInBounds 1 v)
  have ne : dx ≠ e := fun z => by subst z; rw [a3] at a9; obtain rfl := so a9; contradiction
  refine ⟨dx, _, ents, n, tk, a2, Heap.get?_update_self _ a3 (Obj.isFreed_of_fields dd), (Obj.cls_mapFields ..).trans a4, ?_, dd, by simpa using a7, a8, au, (Heap.get?_update_other _ _ (Ne.symm ne)).trans a9, a10⟩
  rw [← a5]; unfold Obj.mapFields; split <;> rfl
theorem ExcB.other {kf : Addr} {u : Store} {h h₁ : Heap} {e T : Addr} {vs ts : Array Value} {i : Int} (x : ExcB kf u h h₁ e vs i) (t : TbB h h₁ e T ts) (g : Array Value → Array Value) : ExcB kf u h (h₁.update T (Obj.mapFields g)) e vs i := by
  obtain ⟨dx, oe, ents, n, tk, a2, a3, a4, a5, a6, a7, a8, au, a9, a10⟩ := x
  obtain ⟨oT, b1, b2, b3, b4, b5, b6⟩ := t
  have ne : T ≠ dx := fun z => by subst z; rw [b3] at a9; obtain rfl := so a9; contradiction
  exact ⟨dx, oe, ents, n, tk, a2, (Heap.get?_update_other _ _ b2).trans a3, a4, a5, a6, a7, a8, au, (Heap.get?_update_other _ _ ne).trans a9, a10⟩
section
variable {C : Cx} {K : Frag} {G : Pg} {kf : Addr} {S : Spec} {n : Nat} {f : FI} {A : Around} {L : Addr} {outer : List Env} {st : Bool} {d d' : Nat} {lo : Loc} {σ σ₁ σ₀ : Store} {s s₁ s₀ : Shared} {E : Value → Shared → Prop}
theorem Zqa (B : Bs C outer L σ₀ s₀) (R : Run C f A L outer st d σ₀ s₀ lo σ s) {e : Addr} {vs : Array Value} {i : Int} {head : Value} {hadNext : Bool} {Q : Unit → Shared → Prop} (X : ExcB kf σ s₀.heap s.heap e vs i)
    (h : ∀ h', Run C f A L outer st d σ₀ s₀ lo σ { s with heap := h' } → ExcT kf true σ s₀.heap h' (.ref e) i → Q () { s with heap := h' }) :
    wpAny C.M A (do let a ← frameOf (f.env L); let pl ← entryPlaceOf L hadNext; let b ← EntryCells.newEntry head a .none (rawInt L) .none pl; setField (.ref e) 1 b) Q E s := by
  refine wpAny_bind (wpAny_frameOf_fun R.cur.frames R.fun rfl fun h₁ hs₁ => ?_)
  have R1 := R.chg B (R.slots B hs₁)
  have X1 : ExcB kf σ s₀.heap h₁ e vs i := X.keep fun b o eb c => by
    by_cases hb : b ∈ (f.env L :: outer).filterMap (·.frame)
    · exfalso
      obtain ⟨env, he, hf⟩ := List.mem_filterMap.mp hb
      obtain ⟨_, L', o', _, _, ff, _, e', c', _⟩ := R.cur.inv.frs env he
      rw [ff] at hf; obtain rfl := so hf
      rw [eb] at e'; obtain rfl := so e'; exact c c'
    · exact (hs₁.2.1 b hb).trans eb
  refine wpAny_bind (wpAny_entryPlaceOf fun pl hpl => ?_)
  refine wpAny_bind (wpAny_newObj_type ?_ (hpl.sizeOk5 _ _ _ _ _))
  have R2 := R1.chg B (Wr.push h₁ { cls := .type "traceback", dict := none, data := .fields ([head, .ref L, .none, rawInt L, .none] ++ (if pl.isEmpty then List.replicate 6 Value.none else pl)).toArray })
  have X2 : ExcB kf σ s₀.heap (h₁.push { cls := .type "traceback", dict := none, data := .fields ([head, .ref L, .none, rawInt L, .none] ++ (if pl.isEmpty then List.replicate 6 Value.none else pl)).toArray }) e vs i := X1.keep fun b o eb _ => Heap.get?_push_of_some _ eb
  have hT : (h₁.push { cls := .type "traceback", dict := none, data := .fields ([head, .ref L, .none, rawInt L, .none] ++ (if pl.isEmpty then List.replicate 6 Value.none else pl)).toArray }).get? h₁.objs.size = some { cls := .type "traceback", dict := none, data := .fields ([head, .ref L, .none, rawInt L, .none] ++ (if pl.isEmpty then List.replicate 6 Value.none else pl)).toArray } := Heap.get?_push_size _ rfl
  have hTn : s₀.heap.get? h₁.objs.size = none := by
    cases q : s₀.heap.get? h₁.objs.size with
    | none => rfl
    | some o => obtain ⟨o', e'⟩ := R1.nx.stay _ _ q; exact absurd (Heap.lt_size e') (Nat.lt_irrefl _)
  have hTe : h₁.objs.size ≠ e := by
    obtain ⟨_, oe, _, _, _, _, a3, _⟩ := X1
    exact Nat.ne_of_gt (Heap.lt_size a3)
  obtain ⟨dx, oe, ents, nn, tk, a2, a3, a4, a5, a6, a7, rest⟩ := id X2
  refine wpAny_setField a3 a6 (by lia) (h _ ?_ ?_)
  · exact R2.chg B (Wr.field a3 a6 (by rw [a4]; simp) a2)
  · refine ⟨e, _, rfl, X2.put _, .inr ⟨h₁.objs.size, _, ?_, _, hTn, hTe, (Heap.get?_update_other _ _ (Ne.symm hTe)).trans hT, rfl, ?_, by exact Zw (by decide)⟩⟩
    · rw [Array.getElem?_setIfInBounds_self_of_lt (by lia)]
    · simp only [List.size_toArray, List.length_append, List.length_cons, List.length_nil]; lia
theorem Zhu (B : Bs C outer L σ₀ s₀) (R : Run C f A L outer st d σ₀ s₀ lo σ s) {tr : Bool} {x : Value} {i : Int} {Q : Unit → Shared → Prop} (X : ExcT kf tr σ s₀.heap s.heap x i)
    (h : ∀ h', Run C f A L outer st d σ₀ s₀ lo σ { s with heap := h' } → ExcT kf true σ s₀.heap h' x i → Q () { s with heap := h' }) : wpAny C.M A (noteFrame x (f.env L)) Q E s := by
  obtain ⟨e, vs, rfl, XB, k⟩ := X
  obtain ⟨dx, oe, ents, nn, tk, a2, a3, a4, a5, a6, a7, rest⟩ := id XB
  unfold noteFrame
  simp only
  rcases k with ⟨_, k⟩ | ⟨T, ts, k, TB⟩
  · refine wpAny_bind (wpAny_field a3 a6 k ?_)
    rw [if_neg (by decide)]
    exact Zqa B R XB h
  · obtain ⟨oT, b1, b2, b3, b4, b5, b6⟩ := id TB
    refine wpAny_bind (wpAny_field a3 a6 k ?_)
    rw [if_pos (show (Value.ref T != Value.none) = true from by rfl)]
    have h3 : ts[3]? = some ts[3] := by simp
    refine wpAny_bind (wpAny_field b3 b4 h3 ?_)
    by_cases z : (ts[3] == rawInt L) = true
    · rw [if_pos z]
      exact wpAny_pure (h s.heap R (⟨e, vs, rfl, XB, .inr ⟨T, ts, k, TB⟩⟩))
    · rw [if_neg z]
      refine wpAny_bind (wpAny_setField b3 b4 (by lia) ?_)
      exact Zqa (s := { s with heap := s.heap.update T (Obj.mapFields (·.setIfInBounds 3 Value.none)) }) B (R.chg B (Wr.field b3 b4 b6 b1)) (XB.other TB _) h
theorem Zdr (B : Bs C outer L σ₀ s₀) (R : Run C f A L outer st d σ₀ s₀ lo σ s) {x : Value} {i : Int} {fr : Option Addr} {Q : Unit → Shared → Prop} (X : ExcT kf true σ s₀.heap s.heap x i)
    (h : ∀ h', Run C f A L outer st d σ₀ s₀ lo σ { s with heap := h' } → ExcT kf true σ s₀.heap h' x i → Q () { s with heap := h' }) : wpAny C.M A (setFlight x fr) Q E s := by
  obtain ⟨e, vs, rfl, XB, k⟩ := X
  obtain ⟨dx, oe, ents, nn, tk, a2, a3, a4, a5, a6, a7, rest⟩ := id XB
  rcases k with ⟨k, _⟩ | ⟨T, ts, k, TB⟩
  · contradiction
  obtain ⟨oT, b1, b2, b3, b4, b5, b6⟩ := id TB
  refine wpAny_bind (wpAny_field a3 a6 k ?_)
  rw [if_pos (show (Value.ref T != Value.none) = true from by rfl)]
  refine wpAny_setField b3 b4 (by lia) (h _ (R.chg B (Wr.field b3 b4 b6 b1)) ?_)
  have dd := Obj.data_mapFields b4 (·.setIfInBounds 3 (fr.elim Value.none fun f => rawInt f))
  exact ⟨e, vs, rfl, XB.other TB _, .inr ⟨T, _, k, _, b1, b2, Heap.get?_update_self _ b3 (Obj.isFreed_of_fields dd), dd, by simpa using b5, by rw [Obj.cls_mapFields]; exact b6⟩⟩
theorem Ztu (B : Bs C outer L σ₀ s₀) (R : Run C f A L outer st d σ₀ s₀ lo σ s) {tr : Bool} {x : Value} {i : Int} {Q : Unit → Shared → Prop} (X : ExcT kf tr σ s₀.heap s.heap x i)
    (h : ∀ h', Run C f A L outer st d σ₀ s₀ lo σ { s with heap := h' } → ExcT kf true σ s₀.heap h' x i → Q () { s with heap := h' }) : wpAny C.M A (leaving (f.env L) x) Q E s := by
  refine wpAny_bind (Zhu B R X fun h₁ R1 X1 => ?_)
  exact Zdr (s := { s with heap := h₁ }) B R1 X1 h
theorem Zadh (B : Bs C outer L σ₀ s₀) (R : Run C f A L outer st d σ₀ s₀ lo σ s) {x : Value} {i : Int} {E : Value → Shared → Prop} (X : ExcT kf true σ s₀.heap s.heap x i)
    (h : ∀ h', Run C f A L outer st d σ₀ s₀ lo σ { s with heap := h' } → ExcT kf true σ s₀.heap h' x i → E x { s with heap := h' }) : cameBackBy C.M A (f.env L) E x s := by
  have X' := X
  obtain ⟨e, vs, rfl, XB, k⟩ := X
  obtain ⟨dx, oe, ents, nn, tk, a2, a3, a4, a5, a6, a7, rest⟩ := id XB
  rcases k with ⟨k, _⟩ | ⟨T, ts, k, TB⟩
  · contradiction
  refine wpAny_bind (wpAny_field a3 a6 k ?_)
  rw [if_neg (by simp)]
  exact Zdr B R X' h
theorem Zacq {α : Type} (B : Bs C outer L σ₀ s₀) (R : Run C f A L outer st d σ₀ s₀ lo σ s) {x : Value} {i : Int} {what : String} {Q : α → Shared → Prop} {E : Value → Shared → Prop} (X : ExcT kf true σ s₀.heap s.heap x i)
    (h : ∀ h', Run C f A L outer st d σ₀ s₀ lo σ { s with heap := h' } → ExcT kf true σ s₀.heap h' x i → E x { s with heap := h' }) : wpAny C.M A (PySem.passOn what x (f.env L) : Sem α) Q E s := by
  have X' := X
  obtain ⟨e, vs, rfl, XB, k⟩ := X
  obtain ⟨dx, oe, ents, nn, tk, a2, a3, a4, a5, a6, a7, rest⟩ := id XB
  rcases k with ⟨k, _⟩ | ⟨T, ts, k, TB⟩
  · contradiction
  refine wpAny_bind (wpAny_field a3 a6 k ?_)
  rw [if_neg (by simp)]
  refine wpAny_bind (Zdr B R X' fun h' R' X1 => ?_)
  exact wpAny_throw (h h' R' X1)
theorem ExcT.weak {tr : Bool} {u : Store} {h h' : Heap} {x : Value} {i : Int} (X : ExcT kf tr u h h' x i) : ExcT kf false u h h' x i := by
  obtain ⟨e, vs, rfl, XB, k⟩ := X
  refine ⟨e, vs, rfl, XB, ?_⟩
  rcases k with ⟨_, k⟩ | k
  · exact .inl ⟨rfl, k⟩
  · exact .inr k
end
section
variable {C : Cx} {K : Frag} {G : Pg} {kf : Addr} {S : Spec} {n : Nat} {f : FI} {A : Around} {L : Addr} {outer : List Env} {st : Bool} {d d' : Nat} {lo : Loc} {σ σ₁ σ₀ : Store} {s s₁ s₀ : Shared} {E : Value → Shared → Prop}
theorem Run.store (B : Bs C outer L σ₀ s₀) (R : Run C f A L outer st d σ₀ s₀ lo σ s) {t : Nat} {p : PV} {v : Value} (ok : okL f.scope t = true) (r : VRel s.heap p v) {h' : Heap} {o' : Obj} {tk : Nat} {m : Str → Option Value}
    (lr : Znm f s.heap lo m) (hn : h'.Ns L (fun y => if y = tg t then some v else m y)) (hs : Heap.SameBut L s.heap h') (ho : h'.get? L = some o') (hc : o'.cls = .type "frame") :
    Run C f A L outer st d σ₀ s₀ ((t, p) :: lo) σ { s with heap := h', toks := tk } := by
  have I := R.cur.inv
  obtain ⟨hL, oL, esL, nL, eL, cL, dL⟩ := R.cur.frame
  have hk : ∀ b o, b ≠ L → s.heap.get? b = some o → h'.get? b = some o := fun b o ne e => (hs.2 b ne).trans e
  have tkp : TupKeep s.heap h' := fun a o e c => hk a o (fun z => by subst z; rw [eL] at e; obtain rfl := so e; rw [cL] at c; contradiction) e
  have nL0 : σ L = none := I.frNone eL cL
  have h0L : C.h₀.get? L = none := Zbi hL
  obtain ⟨o1, es1, ep1, e1, d1, _⟩ := id hn
  rw [ho] at e1; obtain rfl := so e1
  have sto : ∀ a o, σ a = some o → C.h₀.objs.size ≤ a ∧ ORel C h' a o := fun a o e => by
    obtain ⟨k1, k2⟩ := I.sto a o e
    exact ⟨k1, k2.move tkp (hs.2 a fun z => by subst z; rw [nL0] at e; contradiction)⟩
  have base : C.h₀.StaysIn h' := fun b o e => hk b o (fun z => by subst z; rw [h0L] at e; contradiction) (I.base b o e)
  have frs : ∀ l, FrOk C s.heap l → FrOk C h' l := fun l F env he => by
    obtain ⟨k, L', o, es, n, ff, l, e, c, dd⟩ := F env he
    by_cases z : L' = L
    · subst z; exact ⟨k, L', _, es1, ep1, ff, l, ho, hc, d1⟩
    · exact ⟨k, L', o, es, n, ff, l, hk L' o z e, c, dd⟩
  have hsz : C.h₀.objs.size ≤ h'.objs.size := Nat.le_of_lt (Nat.lt_of_le_of_lt hL (Heap.lt_size ho))
  obtain ⟨okl1, okl2⟩ := Bool.and_eq_true_iff.mp ok
  refine ⟨⟨⟨base, sto, frs _ R.nx.inv.frs, hsz⟩, fun b o e z => ?_, fun b o e => ?_, R.nx.fresh, R.nx.gens, R.nx.os⟩, R.cur.bud, R.cur.hand, R.cur.frames, ⟨base, sto, frs _ I.frs, hsz⟩, ⟨_, hn, fun u q e => ?_⟩, R.cur.kind⟩
  · have ne : b ≠ L := fun y => by subst y; rw [B.new] at e; contradiction
    have k := R.nx.keep b o e z
    show SameF o (h'.get? b)
    rw [hs.2 b ne]; exact k
  · have ne : b ≠ L := fun y => by subst y; rw [B.new] at e; contradiction
    obtain ⟨o2, e2⟩ := R.nx.stay b o e
    exact ⟨o2, hk b o2 ne e2⟩
  · rw [Zbn] at e
    split at e
    · rename_i z
      subst z
      obtain rfl := so e
      refine ⟨v, ?_, r.mono tkp⟩
      unfold At
      rw [beq_iff_eq.mp okl1]
      show (if tg t = tg t then some v else m (tg t)) = some v
      rw [if_pos rfl]
    · rename_i z
      obtain ⟨w, x, y⟩ := lr u q e
      refine ⟨w, ?_, y.mono tkp⟩
      have x' := x.keep (h' := h') fun c o xx e dd => ⟨o, hk c o (fun y => by subst y; rw [eL] at e; obtain rfl := so e; rw [dL] at dd; contradiction) e, dd⟩
      unfold At at x' ⊢
      split
      · rename_i hq
        rw [hq] at x'; exact x'
      · rename_i hq
        have x2 : m (tg u) = some w := by
          split at x'
          · rename_i hq2; exact absurd hq2 hq
          · exact x'
        show (if tg u = tg t then some v else m (tg u)) = some w
        rw [if_neg (Zcm (Ne.symm z))]; exact x2
theorem Run.loc (R : Run C f A L outer st d σ₀ s₀ lo σ s) {lo' : Loc} (h : ∀ t p, lo'.get t = some p → lo.get t = some p) : Run C f A L outer st d σ₀ s₀ lo' σ s := by
  obtain ⟨m, hn, r⟩ := R.cur.fm
  exact ⟨R.nx, R.cur.bud, R.cur.hand, R.cur.frames, R.cur.inv, ⟨m, hn, fun t p e => r t p (h t p e)⟩, R.cur.kind⟩
theorem Zfj (B : Bs C outer L σ₀ s₀) (R : Run C f A L outer st d σ₀ s₀ lo σ s) {t : Nat} {p : PV} {v : Value} {Q : Unit → Shared → Prop} (ok : okL f.scope t = true) (r : VRel s.heap p v)
    (h : ∀ h' tk, TupKeep s.heap h' → Run C f A L outer st d σ₀ s₀ ((t, p) :: lo) σ { s with heap := h', toks := tk } → (∀ b o, b ≠ L → s.heap.get? b = some o → h'.get? b = some o) → Q () { s with heap := h', toks := tk }) : wpAny C.M A (storeName (f.env L) (tg t) v) Q E s := by
  obtain ⟨m, hn, lr⟩ := R.cur.fm
  obtain ⟨hL, oL, esL, nL, eL, cL, dL⟩ := R.cur.frame
  obtain ⟨okl1, okl2⟩ := Bool.and_eq_true_iff.mp ok
  have hk : (f.env L).kindOf (tg t) = some .local := Zck (beq_iff_eq.mp okl1)
  rw [storeName_local hk (by show (f.scope.kind == .class || (f.scope.kind == .module && L != mainGlobals)) = false; rw [R.cur.kind]; rfl)]
  refine Zbw hn eL fun h' o' n' hs ho hc => h h' _ (fun a o e c => (hs.2 a fun z => ?_).trans e) (R.store B ok r lr n' hs ho (hc.trans cL)) fun b o ne e => (hs.2 b ne).trans e
  subst z; rw [eL] at e; obtain rfl := so e; rw [cL] at c; contradiction
theorem Zil (B : Bs C outer L σ₀ s₀) (R : Run C f A L outer st d σ₀ s₀ lo σ s) {t : Nat} {q : Pos} {p : PV} {v : Value} {Q : Unit → Shared → Prop} (ok : okL f.scope t = true) (r : VRel s.heap p v)
    (h : ∀ h' tk, TupKeep s.heap h' → Run C f A L outer st d σ₀ s₀ ((t, p) :: lo) σ { s with heap := h', toks := tk } → (∀ b o, b ≠ L → s.heap.get? b = some o → h'.get? b = some o) → Q () { s with heap := h', toks := tk }) : wpAny C.M A (assign (.Name (tg t) q) (f.env L) v) Q E s :=
  wpAny_assign_Name (Zfj B R ok r h)
theorem Zig (g : Value → Sem Unit) (gs : List (Value → Sem Unit)) (x : Value) (xs : List Value) : assignInOrder (g :: gs) (x :: xs) = (do holding xs (g x); assignInOrder gs xs) := rfl
theorem Zrs (t : Nat × Pos) (ts : List (Nat × Pos)) (env : Env) : (assignEach (names (t :: ts)) env).map (·.2) = assign (.Name (tg t.1) t.2) env :: (assignEach (names ts) env).map (·.2) := rfl
theorem Zos (B : Bs C outer L σ₀ s₀) (ts : List (Nat × Pos)) : ∀ (ps : List PV) (vs : List Value) (lo lo' : Loc) (s : Shared) (Q : Unit → Shared → Prop), Run C f A L outer st d σ₀ s₀ lo σ s → (∀ x ∈ ts, okL f.scope x.1 = true) → VRels s.heap ps vs → bindMany ts ps lo = some lo' →
    (∀ h' tk, TupKeep s.heap h' → Run C f A L outer st d σ₀ s₀ lo' σ { s with heap := h', toks := tk } → (∀ b o, b ≠ L → s.heap.get? b = some o → h'.get? b = some o) → Q () { s with heap := h', toks := tk }) →
    wpAny C.M A (assignInOrder (ts.map fun x => bindName (f.env L) (tg x.1)) vs) Q E s := by
  induction ts with
  | nil =>
    intro ps vs lo lo' s Q R ok r e h
    cases ps with
    | nil => obtain rfl := Zcd r; obtain rfl := so e; exact wpAny_pure (h s.heap s.toks (TupKeep.refl _) R fun _ _ _ e => e)
    | cons _ _ => contradiction
  | cons t ts ih =>
    intro ps vs lo lo' s Q R ok r e h
    cases ps with
    | nil => contradiction
    | cons p ps =>
      obtain ⟨v, vs, a, rr⟩ := Zbg r
      rw [List.map_cons, Zig]
      refine wpAny_bind (wpAny_holding (wpAny_bindName (Zfj B R (ok t (.head _)) a fun h₁ tk₁ k₁ R₁ o₁ => ?_)))
      exact ih ps vs _ lo' { s with heap := h₁, toks := tk₁ } Q R₁ (fun x hx => ok x (.tail _ hx)) (rr.mono k₁) e fun h₂ tk₂ k₂ R₂ o₂ => h h₂ tk₂ (k₁.trans k₂) R₂ fun b o ne e => o₂ b o ne (o₁ b o ne e)
theorem Zlq (B : Bs C outer L σ₀ s₀) (ts : List (Nat × Pos)) : ∀ (ps : List PV) (vs : List Value) (lo lo' : Loc) (s : Shared) (Q : Unit → Shared → Prop), Run C f A L outer st d σ₀ s₀ lo σ s → (∀ x ∈ ts, okL f.scope x.1 = true) → VRels s.heap ps vs → bindMany ts ps lo = some lo' →
    (∀ h' tk, TupKeep s.heap h' → Run C f A L outer st d σ₀ s₀ lo' σ { s with heap := h', toks := tk } → (∀ b o, b ≠ L → s.heap.get? b = some o → h'.get? b = some o) → Q () { s with heap := h', toks := tk }) →
    wpAny C.M A (assignInOrder ((assignEach (names ts) (f.env L)).map (·.2)) vs) Q E s := by
  induction ts with
  | nil =>
    intro ps vs lo lo' s Q R ok r e h
    cases ps with
    | nil => obtain rfl := Zcd r; obtain rfl := so e; exact wpAny_pure (h s.heap s.toks (TupKeep.refl _) R fun _ _ _ e => e)
    | cons _ _ => contradiction
  | cons t ts ih =>
    intro ps vs lo lo' s Q R ok r e h
    cases ps with
    | nil => contradiction
    | cons p ps =>
      obtain ⟨v, vs, a, rr⟩ := Zbg r
      rw [Zrs, Zig]
      refine wpAny_bind (wpAny_holding (Zil B R (ok t (.head _)) a fun h₁ tk₁ k₁ R₁ o₁ => ?_))
      exact ih ps vs _ lo' { s with heap := h₁, toks := tk₁ } Q R₁ (fun x hx => ok x (.tail _ hx)) (rr.mono k₁) e fun h₂ tk₂ k₂ R₂ o₂ => h h₂ tk₂ (k₁.trans k₂) R₂ fun b o ne e => o₂ b o ne (o₁ b o ne e)
theorem Zms (ts : List (Nat × Pos)) (env : Env) : (assignEach (names ts) env).findIdx? (·.1) = none ∧ (assignEach (names ts) env).length = ts.length := by
  induction ts with
  | nil => exact ⟨rfl, rfl⟩
  | cons t r ih =>
    show (((false, assign (.Name (tg t.1) t.2) env) :: assignEach (names r) env).findIdx? (·.1) = none) ∧ ((false, assign (.Name (tg t.1) t.2) env) :: assignEach (names r) env).length = (t :: r).length
    rw [List.findIdx?_cons, ih.1, List.length_cons, ih.2]
    exact ⟨rfl, rfl⟩
theorem Zed {ts : List (Nat × Pos)} : ∀ {ps : List PV} {lo lo' : Loc}, bindMany ts ps lo = some lo' → ts.length = ps.length := by
  induction ts with
  | nil => intro ps lo lo' e; cases ps with
    | nil => rfl
    | cons _ _ => contradiction
  | cons t ts ih => intro ps lo lo' e; cases ps with
    | nil => contradiction
    | cons p ps => rw [Zkl] at e; exact congrArg Nat.succ (ih e)
theorem Zmy (R : Run C f A L outer st d σ₀ s₀ lo σ s) (hst : st = true) {ps : List PV} {v : Value} (r : VRel s.heap (.tup ps) v) {k : Nat} (hk : k = ps.length) {Q : List Value → Shared → Prop}
    (h : ∀ h' vs, (∀ b o, s.heap.get? b = some o → h'.get? b = some o) → Run C f A L outer st d σ₀ s₀ lo σ { s with heap := h' } → VRels h' ps vs → Q vs { s with heap := h' }) : wpAny C.M A (unpackItems v k none) Q E s := by
  obtain ⟨a, ob, n, items, he, hc, hdd, hr⟩ := Zdv r
  have hl : k = items.toArray.size := by rw [List.size_toArray, hr.length]; exact hk
  subst hl
  refine wpAny_unpackItems_tuple (R.cur.hand hst) ⟨_, he, hc, n, hdd⟩ fun h' hx => ?_
  have keep : ∀ b o, s.heap.get? b = some o → h'.get? b = some o := fun b o e => hx b o (Nat.ne_of_lt (Heap.lt_size e)) e
  exact h h' _ keep (R.next (R.cur.grown (t := s.toks) (dr := s.drawn) keep)) (hr.mono fun b o e _ => keep b o e)
end
noncomputable def hid (s : Shared) (L : Addr) : Shared := { s with heap := hideAll s.heap [L] }
theorem Zbb {s : Shared} {L b : Addr} {o : Obj} (e : s.heap.get? b = some o) (n : b ≠ L) : (hid s L).heap.get? b = some o := hideAll_get [L] e (by simpa using n)
theorem Zpk {s : Shared} {L b : Addr} {o : Obj} (e : (hid s L).heap.get? b = some o) : s.heap.get? b = some o ∧ b ≠ L := by
  refine ⟨of_hideAll [L] e, fun z => ?_⟩
  subst z
  have : (hideAll s.heap [b]).get? b = none := hideAll_none [b] (List.mem_singleton.mpr rfl)
  exact absurd (this.symm.trans e) (by simp)
inductive FlRel (h : Heap) : Fl → Flow → Prop
  | next : FlRel h .next .next
  | ret {p : PV} {v : Value} : VRel h p v → FlRel h (.ret p) (.ret v)
inductive OkF (C : Cx) (f : FI) (A : Around) (L : Addr) (outer : List Env) (st : Bool) (d : Nat) (σ₀ : Store) (s₀ : Shared) (Q : QS) (fl : Flow) (s' : Shared) : Prop
  | mk (g : Fl) (lo : Loc) (σ : Store) (q : Q g lo σ) (r : FlRel s'.heap g fl) (R : Run C f A L outer st d σ₀ s₀ lo σ s')
inductive ErF (C : Cx) (kf : Addr) (f : FI) (A : Around) (L : Addr) (outer : List Env) (st : Bool) (d : Nat) (σ₀ : Store) (s₀ : Shared) (X : XS) (tr : Bool) (x : Value) (s' : Shared) : Prop
  | mk (i : Int) (lo : Loc) (σ : Store) (q : X i lo σ) (R : Run C f A L outer st d σ₀ s₀ lo σ s') (x : ExcT kf tr σ s₀.heap s'.heap x i)
theorem Zrq {kf : Addr} {tr : Bool} {u : Store} {h₁ h₀ h' : Heap} {x : Value} {i : Int} (k : ∀ a, h₁.get? a = none → h₀.get? a = none) (X : ExcT kf tr u h₁ h' x i) : ExcT kf tr u h₀ h' x i := by
  obtain ⟨e, vs, rfl, ⟨dx, oe, ents, n, tk, a2, a3, a4, a5, a6, a7, a8, a9, a10, a11⟩, t⟩ := X
  refine ⟨e, vs, rfl, ⟨dx, oe, ents, n, tk, k _ a2, a3, a4, a5, a6, a7, k _ a8, a9, a10, a11⟩, ?_⟩
  rcases t with t | ⟨T, ts, t1, ⟨oT, t2, t3, t4, t5, t6, t7⟩⟩
  · exact .inl t
  · exact .inr ⟨T, ts, t1, ⟨oT, k _ t2, t3, t4, t5, t6, t7⟩⟩
section
variable {C : Cx} {K : Frag} {G : Pg} {kf : Addr} {S : Spec} {n : Nat} {f : FI} {A : Around} {L : Addr} {outer : List Env} {st : Bool} {d d' : Nat} {lo : Loc} {σ σ₁ σ₀ : Store} {s s₁ s₀ : Shared} {E : Value → Shared → Prop}
theorem Run.hid (B : Bs C outer L σ₀ s₀) (R : Run C f A L outer st d σ₀ s₀ lo σ s) : Bs C outer L σ (Mine.hid s L) ∧ Run C f A L outer st d σ (Mine.hid s L) lo σ s := by
  have I := R.cur.inv
  obtain ⟨hL, oL, esL, nL, eL, cL, dL⟩ := R.cur.frame
  have tkp : TupKeep s.heap (Mine.hid s L).heap := fun a o e c => Zbb e fun z => by subst z; rw [eL] at e; obtain rfl := so e; rw [cL] at c; contradiction
  have IH : Inv C outer σ (Mine.hid s L).heap := by
    refine ⟨fun b o e => Zbb (I.base b o e) fun z => ?_, fun a o e => ?_, fun env he => ?_, ?_⟩
    · subst z; rw [Zbi hL] at e; contradiction
    · obtain ⟨k1, k2⟩ := I.sto a o e
      obtain ⟨ob, h1, h2, h3, _⟩ := k2.there
      refine ⟨k1, k2.move tkp ((Zbb h1 fun z => ?_).trans h1.symm)⟩
      subst z; rw [eL] at h1; obtain rfl := so h1; exact h3 cL
    · obtain ⟨k, L', o, es, n, ff, l, e, c, dd⟩ := R.nx.inv.frs env he
      obtain ⟨_, L2, o2, _, _, ff2, _, e2, _⟩ := B.inv.frs env he
      rw [ff] at ff2; obtain rfl := so ff2
      exact ⟨k, L', o, es, n, ff, l, Zbb e fun z => (by subst z; rw [B.new] at e2; contradiction), c, dd⟩
    · show C.h₀.objs.size ≤ (hideAll s.heap [L]).objs.size
      rw [hideAll_size]; exact I.size
  refine ⟨⟨IH, hideAll_none [L] (List.mem_singleton.mpr rfl)⟩, ⟨⟨I.base, I.sto, R.nx.inv.frs, I.size⟩, fun b o e _ => .inl (Zpk e).1, fun b o e => ⟨o, (Zpk e).1⟩, fun a h => .inl h, rfl, rfl⟩, R.cur⟩
theorem Run.back (B : Bs C outer L σ₀ s₀) (R : Run C f A L outer st d σ₀ s₀ lo σ s) : ∀ a, (Mine.hid s L).heap.get? a = none → s₀.heap.get? a = none := fun a e => by
  cases q : s₀.heap.get? a with
  | none => rfl
  | some o =>
    obtain ⟨o', e'⟩ := R.nx.stay a o q
    rw [Zbb e' fun z => by subst z; rw [B.new] at q; contradiction] at e
    contradiction
theorem Run.join (B : Bs C outer L σ₀ s₀) (R : Run C f A L outer st d σ₀ s₀ lo σ s) {lo₁ : Loc} {σ' : Store} {s' : Shared} (R' : Run C f A L outer st d σ (Mine.hid s L) lo₁ σ' s') : Run C f A L outer st d σ₀ s₀ lo₁ σ' s' := by
  refine ⟨⟨R'.nx.inv, fun b o e z => ?_, fun b o e => ?_, fun a h => ?_, R'.nx.gens.trans R.nx.gens, R'.nx.os.trans R.nx.os⟩, R'.cur⟩
  · have k := R.nx.keep b o e z
    obtain ⟨o1, e1, _⟩ := k.some
    have ne : b ≠ L := fun y => by subst y; rw [B.new] at e; contradiction
    refine k.trans e1 (R'.nx.keep b o1 (Zbb e1 ne) ?_)
    cases q : σ b with
    | none => rfl
    | some p => rcases R.nx.fresh b (by rw [q]; simp) with k | k
                · exact absurd z k
                · rw [e] at k; contradiction
  · obtain ⟨o1, e1⟩ := R.nx.stay b o e
    exact R'.nx.stay b o1 (Zbb e1 fun y => by subst y; rw [B.new] at e; contradiction)
  · rcases R'.nx.fresh a h with k | k
    · exact R.nx.fresh a k
    · exact .inr (R.back B a k)
theorem ErF.join (B : Bs C outer L σ₀ s₀) (R : Run C f A L outer st d σ₀ s₀ lo σ s) {X : XS} {tr : Bool} {x : Value} {s' : Shared} (h : ErF C kf f A L outer st d σ (hid s L) X tr x s') : ErF C kf f A L outer st d σ₀ s₀ X tr x s' := by
  obtain ⟨i, lo₁, σ', q, R', x⟩ := h
  exact ⟨i, lo₁, σ', q, R.join B R', Zrq (R.back B) x⟩
theorem ErF.ofE (B : Bs C outer L σ₀ s₀) (R : Run C f A L outer st d σ₀ s₀ lo σ s) {X : XS} {x : Value} {s' : Shared} (h : ErP C kf (f.env L :: outer) σ s (Zo X lo) x s') : ErF C kf f A L outer st d σ₀ s₀ X false x s' := by
  obtain ⟨i, σ', q, N, x⟩ := h
  exact ⟨i, lo, σ', q, R.next N, ExcT.of R.nx x⟩
theorem ErF.noted (B : Bs C outer L σ₀ s₀) {X : XS} {x : Value} {s' : Shared} {E : Value → Shared → Prop} {tr : Bool} (h : ErF C kf f A L outer st d σ₀ s₀ X tr x s') (k : ∀ x s', ErF C kf f A L outer st d σ₀ s₀ X true x s' → E x s') : notedBy C.M A (f.env L) E x s' := by
  obtain ⟨i, lo, σ, q, R, y⟩ := h
  exact Zhu B R y fun h' R' y' => k _ _ ⟨i, lo, σ, q, R', y'⟩
theorem ErF.back (B : Bs C outer L σ₀ s₀) {X : XS} {x : Value} {s' : Shared} {E : Value → Shared → Prop} (h : ErF C kf f A L outer st d σ₀ s₀ X true x s') (k : ∀ x s', ErF C kf f A L outer st d σ₀ s₀ X true x s' → E x s') : cameBackBy C.M A (f.env L) E x s' := by
  obtain ⟨i, lo, σ, q, R, y⟩ := h
  exact Zadh B R y fun h' R' y' => k _ _ ⟨i, lo, σ, q, R', y'⟩
theorem ErF.weak {X : XS} {tr : Bool} {x : Value} {s' : Shared} (h : ErF C kf f A L outer st d σ₀ s₀ X tr x s') : ErF C kf f A L outer st d σ₀ s₀ X false x s' := by
  obtain ⟨i, lo, σ, q, R, y⟩ := h
  exact ⟨i, lo, σ, q, R, y.weak⟩
end
noncomputable def swapT (sc : Scope) (ts : List (Nat × Pos)) (es : List Ex) : Option Bool :=
    if !(ts.length == 2 || ts.length == 3) || es.length != ts.length then some false
    else if !(ts.all fun x => sc.names.lookup (tg x.1) == some .local && x.2.line == ((ts.head?.map (·.2.line)).getD 0)) then none
    else if (ts.map fun x => tg x.1).eraseDups.length != ts.length then none
    else if (Ex.tos es).all (foldedForSure 8) then none
    else if (Ex.tos es).all (constantsAlone 8) then none
    else some true
noncomputable def swapOf (sc : Scope) (ts : List (Nat × Pos)) : Ex → Option Bool
  | .tup es _ _ => swapT sc ts es
  | _ => some false
noncomputable def okT (sc : Scope) : Tgt → Bool
  | .one t _ => okL sc t
  | .many ts _ _ => ts.all fun x => okL sc x.1
noncomputable def notComp : Ex → Bool
  | .kcomp .. | .any .. => false
  | _ => true
noncomputable def Znh (sc : Scope) (e : Ex) : Bool := okE sc e && notComp e
mutual
noncomputable def okS (sc : Scope) : Sm → Bool
  | .asg g e _ => okT sc g && Znh sc e && (match g with
    | .many ts _ _ => (swapOf sc ts e).isSome
    | _ => true)
  | .setS o i _ e _ => okE sc o && okE sc i && Znh sc e
  | .setA o _ _ e _ => okE sc o && Znh sc e
  | .expr e _ => Znh sc e
  | .ret e _ => okE sc e
  | .ite c a b _ => okE sc c && okSs sc a && okSs sc b
  | .for_ g it body _ => okT sc g && okSs sc body && (match it with
    | .ex e => okE sc e
    | .rng es _ _ => okG sc 12 && Zcc sc es && Nat.blt 0 es.length && !g.isMany
    | .enum e _ _ => okG sc 189 && okE sc e && g.isMany
    | .zip a b _ _ => okG sc 190 && okE sc a && okE sc b && g.isMany)
  | .whil c body _ => okE sc c && okSs sc body
  | .raise m s _ _ _ => okG sc 183 && okE sc m && okE sc s
  | .tryF body fin _ => okSs sc body && okSs sc fin && !fin.isEmpty
  | .heard body _ _ _ _ _ _ _ _ => okSs sc body && okL sc 100 && okG sc 183
  | .any _ => true
noncomputable def okSs (sc : Scope) : List Sm → Bool
  | [] => true
  | s :: r => okS sc s && okSs sc r
end
section
variable (C : Cx) (K : Frag) (G : Pg) (kf : Addr) (S : Spec) (n : Nat)
noncomputable def SS (sm : Sm) : Prop := ∀ (f : FI) (A : Around) (L : Addr) (outer : List Env) (st : Bool) (d : Nat) (lo : Loc) (σ : Store) (s : Shared) (σ₀ : Store) (s₀ : Shared) (Q : QS) (X : XS), d ≤ n → okS f.scope sm = true → Bs C outer L σ₀ s₀ → Run C f A L outer st d σ₀ s₀ lo σ s → wpS G S st d sm lo σ Q X →
  wpAny C.M A (exec sm.to (f.env L)) (OkF C f A L outer st d σ₀ s₀ Q) (ErF C kf f A L outer st d σ₀ s₀ X false) s
noncomputable def SSs (ss : List Sm) : Prop := ∀ (f : FI) (A : Around) (L : Addr) (outer : List Env) (st : Bool) (d : Nat) (lo : Loc) (σ : Store) (s : Shared) (σ₀ : Store) (s₀ : Shared) (Q : QS) (X : XS), d ≤ n → okSs f.scope ss = true → Bs C outer L σ₀ s₀ → Run C f A L outer st d σ₀ s₀ lo σ s → Za G S st d ss lo σ Q X →
  wpAny C.M A (execs (Sm.tos ss) (f.env L)) (OkF C f A L outer st d σ₀ s₀ Q) (ErF C kf f A L outer st d σ₀ s₀ X false) s
end
section
variable {C : Cx} {K : Frag} {G : Pg} {kf : Addr} {S : Spec} {n : Nat}
theorem sss_nil : SSs C G kf S n [] := fun f A L outer st d lo σ s σ₀ s₀ Q X hd ok B R w => by
  exact wpAny_execs_nil ⟨_, _, _, w, .next, R⟩
theorem Zst {sm : Sm} {r : List Sm} (h : SS C G kf S n sm) (hr : SSs C G kf S n r) : SSs C G kf S n (sm :: r) := fun f A L outer st d lo σ s σ₀ s₀ Q X hd ok B R w => by
  obtain ⟨ok1, ok2⟩ := Bool.and_eq_true_iff.mp ok
  refine wpAny_execs_cons (wpAny_mono (h f A L outer st d lo σ s σ₀ s₀ _ X hd ok1 B R w) (fun fl s₁ hv => ?_) fun _ _ e => e)
  obtain ⟨g, lo₁, σ₁, q, r, R₁⟩ := hv
  cases r with
  | next => exact hr f A L outer st d lo₁ σ₁ s₁ σ₀ s₀ Q X hd ok2 B R₁ q
  | ret r => exact ⟨_, _, _, q, .ret r, R₁⟩
theorem Zgo {e : Ex} (h : notComp e = true) (t : Option Expr) (l : Nat) (env : Env) : swapsWith e.to t l env = pure false := by cases e <;> first | rfl | contradiction
theorem Zkr {e : Ex} (h : notComp e = true) (t : Expr) (l : Nat) (env : Env) : swapsWithSole [t] e.to l env = pure false := Zgo h _ l env
end
section
variable {prog : Program} {w : World} {A : Around} {E : Value → Shared → Prop} {s : Shared} {K : Frag}
theorem Zacr {x c dx : Addr} {ox : Obj} {es : List DictEntry} {n : Nat} {name : Str} {tk : Tok} {v : Value} {R : Result → Shared → Prop} (X : K.In s.heap) (I : InstAt s.heap x ox c (some (dictOf es n))) (hd : ox.dict = some dx)
    (hp : plainOver K c = true) (ht : takerIn K c name = some none) (hh : hasDictIn K c = true) (hl : (getL name es).isSome = true) (hz : (putL name (PyData.keyHash w.params name) (.str name s.toks) v es).length ≤ 1000)
    (h : ∀ h', Heap.SameBut dx s.heap h' → h'.get? dx = some (dictOf (putL name (PyData.keyHash w.params name) (.str name s.toks) v es) (putN name es n)) → R (.ok (.ret .none)) { s with heap := h', toks := s.toks + 1 }) :
    codeAny (model prog w) A (.call (.builtin "object.__setattr__") ⟨[.ref x, .str name tk, v], []⟩) R s := by
  refine osa_open X I hp ht fun b => ?_
  obtain ⟨cd, hc, hd'⟩ := any_some hh
  obtain ⟨hx, hcl, hn, D⟩ := I
  obtain ⟨oc, odi, oda, osl⟩ := ox
  dsimp only at hcl hd
  subst hcl hd
  have D : s.heap.get? dx = some (dictOf es n) := D
  have e1 := putName_dict name (PyData.keyHash w.params name) (.str name s.toks) v es n
  have D' : (s.heap.update dx (Obj.putName name (PyData.keyHash w.params name) (.str name s.toks) v)).get? dx = some (dictOf (putL name (PyData.keyHash w.params name) (.str name s.toks) v es) (putN name es n)) := by
    rw [Heap.get?_update_self _ D (by rw [e1]; rfl), e1]
  refine wpAny_bind (wpAny_pure (wpAny_bind (wpAny_bind (wpAny_loadPart hx (wpAny_bind ((looks_clsIn X hc).here ?_))))))
  rw [hd']
  refine wpAny_pure (a := some dx) (wpAny_bind (wpAny_pure (wpAny_bind ?_)))
  unfold nsSet
  refine wpAny_bind (wpAny_bind (wpAny_askSetting (wpAny_pure (wpAny_bind (wpAny_mkText (wpAny_bind (wpAny_loadPart D ?_)))))))
  dsimp only
  have cc : (!es.toArray.any (·.key.isStr name) && es.toArray.any (·.refKey)) = false := by
    rw [← Array.any_toList, ← Array.any_toList]
    unfold getL at hl
    split at hl
    · rename_i en he
      rw [List.any_eq_true.mpr ⟨en, List.mem_of_find?_eq_some he, List.find?_some he⟩]; rfl
    · split at hl
      · contradiction
      · rename_i z; rw [Bool.not_eq_true] at z; rw [z, Bool.and_false]
  rw [aRefKeyMayBeTheName_at, cc]
  refine wpAny_updatePart D ?_
  refine wpAny_bind (wpAny_lookBehind D' (pastItsLine_dict (by rw [List.size_toArray, sizeLine_eq]; lia)) ?_)
  exact wpAny_pure (h _ (Heap.SameBut.update ..) D')
theorem Zqs {x c dx : Addr} {ox : Obj} {es : List DictEntry} {n : Nat} {name : Str} {v : Value} {Q : Unit → Shared → Prop} (X : K.In s.heap) (I : InstAt s.heap x ox c (some (dictOf es n))) (hd : ox.dict = some dx)
    (hs : findIn K (.ref c) "__setattr__" = some (some (.builtin "object.__setattr__"))) (hp : plainOver K c = true) (ht : takerIn K c name = some none) (hh : hasDictIn K c = true) (hl : (getL name es).isSome = true) (hz : (putL name (PyData.keyHash w.params name) (.str name (s.toks + 1)) v es).length ≤ 1000)
    (h : ∀ h', Heap.SameBut dx s.heap h' → h'.get? dx = some (dictOf (putL name (PyData.keyHash w.params name) (.str name (s.toks + 1)) v es) (putN name es n)) → Q () { s with heap := h', toks := s.toks + 2 }) :
    wpAny (model prog w) A (setAttr (.ref x) name v) Q E s :=
  set_plain X I hs (Zacr (s := { s with toks := s.toks + 1 }) X I hd hp ht hh hl hz fun h' a b => h h' a b)
end
theorem ARels.put {h : Heap} {t : Nat} {p : PV} {v : Value} {hs : Int} {k : Tok} (a : VRel h p v) {es : List (Nat × PV)} {ents : List DictEntry} (r : ARels h es ents) : ARels h (Ze t p es) (putL (tg t) hs (.str (tg t) k) v ents) ∧ (putL (tg t) hs (.str (tg t) k) v ents).length ≤ ents.length + 1 := by
  induction r with
  | nil => exact ⟨.cons ⟨k, rfl⟩ a .nil, Nat.le_refl _⟩
  | @cons u q e ps es kk b r ih =>
    obtain ⟨ek, hk⟩ := kk
    rw [Zey]
    unfold putL
    have ee : e.key.isStr (tg t) = (tg u == tg t) := by rw [hk]; rfl
    by_cases z : u = t
    · subst z
      rw [if_pos rfl, if_pos (by rw [ee]; exact beq_self_eq_true _)]
      exact ⟨.cons ⟨ek, hk⟩ a r, by simp⟩
    · rw [if_neg z, if_neg (by rw [ee, beq_eq_false_iff_ne.mpr (Zcm z)]; decide)]
      exact ⟨.cons ⟨ek, hk⟩ b ih.1, by simp only [List.length_cons]; lia⟩
theorem ARels.len {h : Heap} {es : List (Nat × PV)} {ents : List DictEntry} (r : ARels h es ents) : ents.length = es.length := by
  induction r with
  | nil => rfl
  | cons _ _ _ ih => simp [ih]
theorem Zmj (g : Expr → Bool) : ∀ es : List Ex, (∀ e : Ex, g e.to = false) → (Ex.tos es).any g = false
  | [], _ => rfl
  | e :: r, h => by rw [Ex.tos, List.any_cons, h e, Zmj g r h]; rfl
theorem Zgd (env : Env) (sc : Scope) (hs : env.scope = sc) (l : Nat) (g : Expr → Option Str) (hg : ∀ t p, g (.Name t p) = if (env.kindOf t == some .local && p.line == l) = true then some t else none) :
    ∀ us : List (Nat × Pos), (us.all fun x => sc.names.lookup (tg x.1) == some .local && x.2.line == l) = true → (names us).filterMap g = us.map fun x => tg x.1
  | [], _ => rfl
  | u :: r, q => by
    rw [List.all_cons, Bool.and_eq_true] at q
    have k1 : (env.kindOf (tg u.1) == some .local && u.2.line == l) = true := by
      show (env.scope.names.lookup (tg u.1) == some .local && u.2.line == l) = true
      rw [hs]; exact q.1
    show (Expr.Name (tg u.1) u.2 :: names r).filterMap g = _
    rw [List.filterMap_cons, List.map_cons, hg, if_pos k1, Zgd env sc hs l g hg r q.2]
theorem Zss {sc : Scope} {ts : List (Nat × Pos)} {k k2 : Nat} {p p2 : Pos} {es : List Ex} {b : Bool} {env : Env} (hs : env.scope = sc) (hk : sc.kind = .function) (h : swapT sc ts es = some b) :
    swappedStores [.Tuple (names ts) k p] (.Tuple (Ex.tos es) k2 p2) env = pure (if b then some (ts.map fun x => tg x.1) else none) := by
  unfold swapT at h
  unfold swappedStores
  have e1 : (names ts).length = ts.length := by unfold names; rw [List.length_map]
  have e2 : (Ex.tos es).length = es.length := tos_len es
  have e3 : (env.blockKind != .function) = false := by unfold Env.blockKind; rw [hs, hk]; rfl
  dsimp only
  rw [e1, e2, e3, Bool.or_false]
  split at h
  · rename_i c
    obtain rfl := so h
    rw [if_pos c]; rfl
  · rename_i c
    rw [if_neg c, Zmj _ es (fun e => by cases e <;> rfl), if_neg (by decide)]
    split at h
    · contradiction
    · rename_i c2
      have c2 : (ts.all fun x => sc.names.lookup (tg x.1) == some .local && x.2.line == ((ts.head?.map (·.2.line)).getD 0)) = true := by
        cases q : (ts.all fun x => sc.names.lookup (tg x.1) == some .local && x.2.line == ((ts.head?.map (·.2.line)).getD 0)) with
        | true => rfl
        | false => rw [q] at c2; exact absurd rfl c2
      have hl : (((names ts).head?.map (·.pos.line)).getD 0) = ((ts.head?.map (·.2.line)).getD 0) := by
        cases ts with
        | nil => rfl
        | cons t r => rfl
      rw [hl]
      rw [Zgd env sc hs _ _ (fun t p => rfl) ts c2, List.length_map]
      split at h
      · contradiction
      · rename_i c3
        rw [if_neg (by
          have : ((ts.map fun x => tg x.1).eraseDups.length != ts.length) = false := by simpa using c3
          rw [this]; lia)]
        split at h
        · contradiction
        · rename_i c4
          rw [if_neg c4]
          split at h
          · contradiction
          · rename_i c5
            rw [if_neg c5]
            obtain rfl := so h
            rfl
theorem Zwc {sc : Scope} {ts : List (Nat × Pos)} {k : Nat} {p : Pos} {e : Ex} {b : Bool} {env : Env} (hs : env.scope = sc) (hk : sc.kind = .function) (h : swapOf sc ts e = some b) :
    swappedStores [Tgt.to (.many ts k p)] e.to env = pure (if b then some (ts.map fun x => tg x.1) else none) := by
  cases e with
  | tup es k2 p2 => exact Zss hs hk h
  | _ => obtain rfl := so h; rfl
theorem Zbx {ts : List (Nat × Pos)} : ∀ {ps : List PV} {lo lo' : Loc} {t : Nat}, bindMany ts ps lo = some lo' → t ∉ ts.map (·.1) → lo'.get t = lo.get t := by
  induction ts with
  | nil =>
    intro ps lo lo' t e _
    cases ps with
    | nil => obtain rfl := so e; rfl
    | cons _ _ => contradiction
  | cons u us ih =>
    intro ps lo lo' t e hn
    cases ps with
    | nil => contradiction
    | cons p ps =>
      simp only [List.map_cons, List.mem_cons, not_or] at hn
      rw [ih e hn.2]
      show (if u.1 = t then some p else lo.get t) = lo.get t
      rw [if_neg (Ne.symm hn.1)]
theorem Zek {ts : List (Nat × Pos)} : ∀ {ps : List PV} {lo lo' : Loc} {i : Nat} {x : Nat × Pos} {p : PV}, bindMany ts ps lo = some lo' → (ts.map (·.1)).Nodup → ts[i]? = some x → ps[i]? = some p → lo'.get x.1 = some p := by
  induction ts with
  | nil => intro ps lo lo' i x p _ _ h; contradiction
  | cons u us ih =>
    intro ps lo lo' i x p e nd h1 h2
    cases ps with
    | nil => contradiction
    | cons q ps =>
      rw [Zkl] at e
      rw [List.map_cons, List.nodup_cons] at nd
      cases i with
      | zero =>
        simp at h1 h2
        subst h1; subst h2
        rw [Zbx e nd.1]
        show (if u.1 = u.1 then some q else _) = some q
        rw [if_pos rfl]
      | succ i => exact ih e nd.2 (by simpa using h1) (by simpa using h2)
theorem nodupN_of : ∀ {l : List Nat}, nodupN l = true → l.Nodup
  | [], _ => List.nodup_nil
  | n :: r, h => by
    obtain ⟨h1, h2⟩ := Bool.and_eq_true_iff.mp h
    rw [List.nodup_cons]
    exact ⟨fun z => (by rw [List.contains_iff_mem.mpr z] at h1; contradiction), nodupN_of h2⟩
theorem Zuw {ts : List (Nat × Pos)} {ps : List PV} {lo lo' : Loc} (nd : (ts.map (·.1)).Nodup) (e : bindMany ts ps lo = some lo') : ∃ lo2, bindMany ts.reverse ps.reverse lo = some lo2 ∧ ∀ t p, lo'.get t = some p → lo2.get t = some p := by
  have hl := Zed e
  have ex : ∀ (us : List (Nat × Pos)) (qs : List PV) (l : Loc), us.length = qs.length → ∃ l2, bindMany us qs l = some l2 := by
    intro us
    induction us with
    | nil => intro qs l h; cases qs with
      | nil => exact ⟨l, rfl⟩
      | cons _ _ => contradiction
    | cons u us ih => intro qs l h; cases qs with
      | nil => contradiction
      | cons q qs => rw [Zkl]; exact ih qs _ (Nat.succ.inj h)
  obtain ⟨lo2, e2⟩ := ex ts.reverse ps.reverse lo (by simp [hl])
  refine ⟨lo2, e2, fun t p h => ?_⟩
  have nd2 : (ts.reverse.map (·.1)).Nodup := by
    rw [List.map_reverse, List.nodup_iff_pairwise_ne, List.pairwise_reverse]
    exact (List.nodup_iff_pairwise_ne.mp nd).imp fun a => Ne.symm a
  by_cases z : t ∈ ts.map (·.1)
  · obtain ⟨x, hx, rfl⟩ := List.mem_map.mp z
    obtain ⟨i, hi, hx⟩ := List.getElem_of_mem hx
    have h1 : ts[i]? = some x := by rw [List.getElem?_eq_getElem hi, hx]
    have hp : i < ps.length := by lia
    have h2 : ps[i]? = some ps[i] := List.getElem?_eq_getElem hp
    rw [Zek e nd h1 h2] at h
    obtain rfl := so h
    have h3 : ts.reverse[ts.length - 1 - i]? = some x := by
      rw [List.getElem?_reverse (by lia)]
      rw [show ts.length - 1 - (ts.length - 1 - i) = i by lia]; exact h1
    have h4 : ps.reverse[ts.length - 1 - i]? = some ps[i] := by
      rw [List.getElem?_reverse (by lia)]
      rw [show ps.length - 1 - (ts.length - 1 - i) = i by lia]; exact h2
    exact Zek e2 nd2 h3 h4
  · rw [Zbx e z] at h
    rw [Zbx e2 (by rw [List.map_reverse, List.mem_reverse]; exact z)]; exact h
theorem VRels.reverse {h : Heap} : ∀ {ps : List PV} {vs : List Value}, VRels h ps vs → VRels h ps.reverse vs.reverse
  | [], _, r => by rw [Zcd r]; exact .nil
  | _ :: _, _, r => by obtain ⟨_, _, a, r2⟩ := Zbg r; rw [List.reverse_cons, List.reverse_cons]; exact (VRels.reverse r2).append (.cons a .nil)
theorem Zix (ts : List (Nat × Pos)) (k : Nat) (q : Pos) (env : Env) (v : Value) : assign (Tgt.many ts k q).to env v = (do standAt q; unpack v (assignEach (names ts) env)) := rfl
theorem Zqn (v : Value) (l : List (Bool × (Value → Sem Unit))) : unpack v l = (do assignInOrder (l.map (·.2)) (← holding [v] (unpackItems v l.length (l.findIdx? (·.1))))) := rfl
theorem Zod (env : Env) (v : Value) (ns : List Str) (st : List (Value → Sem Unit)) : assignStores env v (some ns) st = (do
        rule "assign.swapped-stores"
        let items ← unpackItems v ns.length none
        assignInOrder (ns.reverse.map fun n => bindName env n) items.reverse
        pure .next) := rfl
section
variable {C : Cx} {K : Frag} {G : Pg} {kf : Addr} {S : Spec} {n : Nat} {f : FI} {A : Around} {L : Addr} {outer : List Env} {st : Bool} {d d' : Nat} {lo lo' : Loc} {σ σ₁ σ₀ : Store} {s s₁ s₀ : Shared} {E : Value → Shared → Prop}
theorem Zhq (B : Bs C outer L σ₀ s₀) (R : Run C f A L outer st d σ₀ s₀ lo σ s) {g : Tgt} {p : PV} {v : Value} {Q : Unit → Shared → Prop} (hst : g.isMany = true → st = true) (ok : okT f.scope g = true) (r : VRel s.heap p v) (e : g.bind p lo = some lo')
    (h : ∀ h' tk, TupKeep s.heap h' → Run C f A L outer st d σ₀ s₀ lo' σ { s with heap := h', toks := tk } → (∀ b o, b ≠ L → s.heap.get? b = some o → h'.get? b = some o) → Q () { s with heap := h', toks := tk }) : wpAny C.M A (assign g.to (f.env L) v) Q E s := by
  cases g with
  | one t q =>
    obtain rfl := so e
    exact Zil B R ok r h
  | many ts k q =>
    have ok := List.all_eq_true.mp ok
    cases p with
    | tup ps =>
      rw [Zqj] at e
      split at e
      · rw [Zix, Zqn, (Zms ts (f.env L)).1, (Zms ts (f.env L)).2]
        refine wpAny_bind (wpAny_standAt (wpAny_bind (wpAny_holding (Zmy R (hst rfl) r (Zed e) fun h₁ vs k₁ R₁ r₁ => ?_))))
        exact Zlq B ts ps vs lo lo' _ Q R₁ ok r₁ e fun h₂ tk₂ k₂ R₂ o₂ => h h₂ tk₂ (TupKeep.trans (fun a o e _ => k₁ a o e) k₂) R₂ fun b o ne e => o₂ b o ne (k₁ b o e)
      · contradiction
    | _ => contradiction
theorem Zot {ts : List (Nat × Pos)} {k : Nat} {q : Pos} {p : PV} (e : (Tgt.many ts k q).bind p lo = some lo') : ∃ ps, p = .tup ps ∧ (ts.map (·.1)).Nodup ∧ bindMany ts ps lo = some lo' := by
  cases p with
  | tup ps =>
    rw [Zqj] at e
    split at e
    · rename_i z; exact ⟨ps, rfl, nodupN_of z, e⟩
    · contradiction
  | _ => contradiction
theorem Zzw {g : Tgt} {e : Ex} {p : Pos} (he : SE C G kf S n e) : SS C G kf S n (.asg g e p) := fun f A L outer st d lo σ s σ₀ s₀ Q X hd ok B R w => by
  obtain ⟨ok, ok3⟩ := Bool.and_eq_true_iff.mp ok
  obtain ⟨ok1, ok2⟩ := Bool.and_eq_true_iff.mp ok
  obtain ⟨ok2, nc⟩ := Bool.and_eq_true_iff.mp ok2
  obtain ⟨hst, w⟩ := w
  have main := he f A L outer st d lo σ s _ (Zo X lo) hd ok2 R.cur w
  have post : ∀ {v s₁}, OkP C (f.env L :: outer) σ s (Zhc g lo Q) v s₁ → ∃ p σ₁ lo₁, g.bind p lo = some lo₁ ∧ Q .next lo₁ σ₁ ∧ Run C f A L outer st d σ₀ s₀ lo σ₁ s₁ ∧ VRel s₁.heap p v := fun {v s₁} h => by
    obtain ⟨p, σ₁, ⟨lo₁, hb, q⟩, N, r⟩ := h
    exact ⟨p, σ₁, lo₁, hb, q, R.next N, r⟩
  show wpAny _ _ (exec (.Assign [g.to] e.to p) (f.env L)) _ _ _
  have plain : swappedStores [g.to] e.to (f.env L) = pure none → wpAny C.M A (exec (.Assign [g.to] e.to p) (f.env L)) (OkF C f A L outer st d σ₀ s₀ Q) (ErF C kf f A L outer st d σ₀ s₀ X false) s := fun hw => by
    refine wpAny_Assign_stores (wpAny_mono main (fun v s₁ hv => ?_) fun _ _ h => ErF.ofE B R h) (Zkr nc _ _ _) hw
    obtain ⟨p, σ₁, lo₁, hb, q, R₁, r⟩ := post hv
    have ha : assignAll v ((assignEach [g.to] (f.env L)).map (·.2)) = assign g.to (f.env L) v := by cases g <;> rfl
    rw [ha]
    exact Zhq B R₁ hst ok1 r hb fun h' tk _ R' _ => ⟨_, _, _, q, .next, R'⟩
  cases g with
  | one t q => exact plain rfl
  | many ts k q =>
    simp only at ok3
    obtain ⟨b, hb⟩ := Option.isSome_iff_exists.mp ok3
    have hsw := Zwc (k := k) (p := q) (env := f.env L) rfl R.cur.kind hb
    cases b with
    | false => exact plain hsw
    | true =>
      rw [exec_Assign_arm]
      refine wpAny_bind (wpAny_standAt ?_)
      rw [Zkr nc]
      refine wpAny_bind (wpAny_pure ?_)
      rw [if_neg (by decide)]
      refine wpAny_bind (wpAny_mono main (fun v s₁ hv => ?_) fun _ _ h => ErF.ofE B R h)
      rw [hsw]
      refine wpAny_bind (wpAny_pure ?_)
      obtain ⟨pv, σ₁, lo₁, hb, q2, R₁, r⟩ := post hv
      obtain ⟨ps, rfl, nd, hm⟩ := Zot hb
      obtain ⟨lo2, hm2, hle⟩ := Zuw nd hm
      rw [if_pos rfl, Zod]
      refine wpAny_bind (wpAny_rule (wpAny_bind (Zmy R₁ (hst rfl) r (by rw [List.length_map]; exact Zed hm) fun h₁ vs k₁ R₂ r₁ => ?_)))
      have hmap : ((ts.map fun x => tg x.1).reverse.map fun n => bindName (f.env L) n) = ts.reverse.map fun x => bindName (f.env L) (tg x.1) := by
        rw [← List.map_reverse, List.map_map]; rfl
      rw [hmap]
      have ok1 := List.all_eq_true.mp ok1
      refine wpAny_bind (Zos B ts.reverse ps.reverse vs.reverse lo lo2 _ _ R₂ (fun x hx => ok1 x (List.mem_reverse.mp hx)) r₁.reverse hm2 fun h₂ tk₂ k₂ R₃ o₂ => ?_)
      exact wpAny_pure ⟨_, _, _, q2, .next, R₃.loc hle⟩
theorem Zwl {e : Ex} {p : Pos} (he : SE C G kf S n e) : SS C G kf S n (.expr e p) := fun f A L outer st d lo σ s σ₀ s₀ Q X hd ok B R w => by
  obtain ⟨ok, nc⟩ := Bool.and_eq_true_iff.mp ok
  show wpAny _ _ (exec (.Expr e.to p) (f.env L)) _ _ _
  refine wpAny_Expr_any (wpAny_mono (he f A L outer st d lo σ s _ (Zo X lo) hd ok R.cur w) (fun v s₁ hv => ?_) fun _ _ h => ErF.ofE B R h) ?_ (Zgo nc _ _ _)
  · obtain ⟨p, σ₁, q, N, r⟩ := hv
    exact ⟨_, _, _, q, .next, R.next N⟩
  · show interactive (f.env L) = false
    unfold interactive
    rw [show (f.env L).scope.kind = .function from R.cur.kind]
    rfl
theorem ss_ret {e : Ex} {p : Pos} (he : SE C G kf S n e) : SS C G kf S n (.ret e p) := fun f A L outer st d lo σ s σ₀ s₀ Q X hd ok B R w => by
  show wpAny _ _ (exec (.Return (some e.to) p) (f.env L)) _ _ _
  refine wpAny_Return_some (wpAny_mono (he f A L outer st d lo σ s _ (Zo X lo) hd ok R.cur w) (fun v s₁ hv => ?_) fun _ _ h => ErF.ofE B R h)
  obtain ⟨p, σ₁, q, N, r⟩ := hv
  exact ⟨_, _, _, q, .ret r, R.next N⟩
theorem Zzv {c : Ex} {a b : List Sm} {p : Pos} (hc : ST C G kf S n c) (ha : SSs C G kf S n a) (hb : SSs C G kf S n b) : SS C G kf S n (.ite c a b p) := fun f A L outer st d lo σ s σ₀ s₀ Q X hd ok B R w => by
  obtain ⟨ok, ok3⟩ := Bool.and_eq_true_iff.mp ok
  obtain ⟨ok1, ok2⟩ := Bool.and_eq_true_iff.mp ok
  show wpAny _ _ (exec (.If c.to (Sm.tos a) (Sm.tos b) p) (f.env L)) _ _ _
  refine wpAny_If (wpAny_mono (hc f A L outer st d lo σ s (ifK (Za G S st d a) (Za G S st d b) lo Q X) (Zo X lo) hd ok1 R.cur w) (fun x s₁ hx => ?_) fun _ _ h => ErF.ofE B R h)
  obtain ⟨σ₁, q, N⟩ := hx
  cases x with
  | true => exact ha f A L outer st d lo σ₁ s₁ σ₀ s₀ Q X hd ok2 B (R.next N) q
  | false => exact hb f A L outer st d lo σ₁ s₁ σ₀ s₀ Q X hd ok3 B (R.next N) q
theorem Zwf (O : Ok C K G kf) {o i : Ex} {sp : Pos} {e : Ex} {p : Pos} (ho : SE C G kf S n o) (hi : SE C G kf S n i) (he : SE C G kf S n e) : SS C G kf S n (.setS o i sp e p) := fun f A L outer st d lo σ s σ₀ s₀ Q X hd ok B R w => by
  obtain ⟨ok, ok3⟩ := Bool.and_eq_true_iff.mp ok
  obtain ⟨ok1, ok2⟩ := Bool.and_eq_true_iff.mp ok
  obtain ⟨ok3, nc⟩ := Bool.and_eq_true_iff.mp ok3
  show wpAny _ _ (exec (.Assign [.Subscript o.to i.to sp] e.to p) (f.env L)) _ _ _
  refine wpAny_Assign_Subscript (wpAny_mono (he f A L outer st d lo σ s _ (Zo X lo) hd ok3 R.cur w) (fun v s₁ hv => ?_) fun _ _ h => ErF.ofE B R h) (Zgo nc _ _ _)
  obtain ⟨pv, σ₁, q, N, r⟩ := hv
  have R1 := R.next N
  refine wpAny_mono (ho f A L outer st d lo σ₁ s₁ _ (Zo X lo) hd ok1 R1.cur q) (fun ov s₂ hv => ?_) fun _ _ h => ErF.ofE B R1 h
  obtain ⟨po, σ₂, q, N2, r2⟩ := hv
  have R2 := R1.next N2
  refine wpAny_mono (hi f A L outer st d lo σ₂ s₂ _ (Zo X lo) hd ok2 R2.cur q) (fun iv s₃ hv => ?_) fun _ _ h => ErF.ofE B R2 h
  obtain ⟨pi, σ₃, q, N3, r3⟩ := hv
  have R3 := R2.next N3
  obtain ⟨a, t, es, rfl, rfl, hs, hl, q⟩ := q
  obtain rfl := Zau r2
  obtain ⟨tk, rfl⟩ := Zgz r3
  obtain ⟨hlow, kvs, D, KR⟩ := R3.cur.inv.sto a _ hs
  have nd : (kvs.map (·.1)).Nodup := by obtain ⟨_, _, _, _, _, _, _, _, nd⟩ := D; exact nd
  refine wpAny_setItem_pairs (knd := C.knd) (k := tg t) (strKind_is _ _ _ _) D (fun h' D' hs' => ?_) (by rw [KR.len]; exact Zat hl)
  refine ⟨_, _, _, q, .next, R3.next (Nx.change R3.cur.inv hs hs' fun tk => ⟨_, D', ?_⟩)⟩
  exact (KR.mono tk).stored nd ((r.mono (N2.tup R1.cur.inv)).mono (N3.tup R2.cur.inv) |>.mono tk)
theorem Zwg (O : Ok C K G kf) {o : Ex} {t : Nat} {ap : Pos} {e : Ex} {p : Pos} (ho : SE C G kf S n o) (he : SE C G kf S n e) : SS C G kf S n (.setA o t ap e p) := fun f A L outer st d lo σ s σ₀ s₀ Q X hd ok B R w => by
  obtain ⟨ok1, ok3⟩ := Bool.and_eq_true_iff.mp ok
  obtain ⟨ok3, nc⟩ := Bool.and_eq_true_iff.mp ok3
  show wpAny _ _ (exec (.Assign [.Attribute o.to (tg t) ap] e.to p) (f.env L)) _ _ _
  refine plainObj_wpAny_Assign_Attribute (wpAny_mono (he f A L outer st d lo σ s _ (Zo X lo) hd ok3 R.cur w) (fun v s₁ hv => ?_) fun _ _ h => ErF.ofE B R h) (Zgo nc _ _ _)
  obtain ⟨pv, σ₁, q, N, r⟩ := hv
  have R1 := R.next N
  refine wpAny_mono (ho f A L outer st d lo σ₁ s₁ _ (Zo X lo) hd ok1 R1.cur q) (fun ov s₂ hv => ?_) fun _ _ h => ErF.ofE B R1 h
  obtain ⟨po, σ₂, q, N2, r2⟩ := hv
  have R2 := R1.next N2
  obtain ⟨a, cl, dd, es, ⟨rfl, h1, h2⟩, ha, hl, q⟩ := q
  obtain rfl := Zau r2
  obtain ⟨ents, m, I, AR⟩ := Zit R2.cur.inv h1 h2
  obtain ⟨k1, k2, attr, k3, k4⟩ := O.at_ cl t ha
  obtain ⟨z1, z2, z3⟩ := O.sat cl t ha
  have rv := r.mono (N2.tup R1.cur.inv)
  have hls : (getL (tg t) ents).isSome = true := by
    cases hq : Loc.get es t with
    | none => rw [(AR.val t).2 hq]; rfl
    | some pp => obtain ⟨x, hx, _⟩ := (AR.val t).1 pp hq; rw [hx]; rfl
  have hput := fun hh kk => (ARels.put (t := t) (hs := hh) (k := kk) rv AR)
  refine Zqs (R2.cur.inv.inK O) I rfl z1 z2 z3 k2 hls (by have := (hput (PyData.keyHash C.w.params (tg t)) (s₂.toks + 1)).2; have := AR.len; lia) fun h' hs' hd' => ?_
  exact ⟨_, _, _, q, .next, R2.next (Nx.change R2.cur.inv h2 hs' fun tk => ⟨_, _, hd', ((hput _ _).1).mono tk⟩)⟩
end
noncomputable def Zdh (C : Cx) (kf : Addr) (f : FI) (A : Around) (L : Addr) (outer : List Env) (st : Bool) (d : Nat) (σ₀ : Store) (s₀ : Shared) (Q : QS) (X : XS) : Result → Shared → Prop := fun r s' => match r with
  | .ok fl => OkF C f A L outer st d σ₀ s₀ Q fl s'
  | .error e => cameBackBy C.M A (f.env L) (ErF C kf f A L outer st d σ₀ s₀ X false) e s'
inductive ForI (C : Cx) (G : Pg) (S : Spec) (f : FI) (A : Around) (L : Addr) (outer : List Env) (st : Bool) (d : Nat) (σ₀ : Store) (s₀ : Shared) (Q : QS) (X : XS) (g : Tgt) (body : List Sm) (vs : List PV) (fp : List Addr) (St : Nat → Heap → Prop) (h₀ : Heap) (k : Nat) (s' : Shared) : Prop
  | mk (i : Nat) (lo : Loc) (σ' : Store) (e : k = vs.length + 1 - i) (hi : i ≤ vs.length) (R : Run C f A L outer st d σ₀ s₀ lo σ' s') (hS : St i s'.heap) (hfp : ∀ b ∈ fp, σ' b = none) (htk : TupKeep h₀ s'.heap) (w : Zax g (Za G S st d body) (vs.drop i) lo σ' Q X)
section
variable {C : Cx} {K : Frag} {G : Pg} {kf : Addr} {S : Spec} {n : Nat} {f : FI} {A : Around} {L : Addr} {outer : List Env} {st : Bool} {d d' : Nat} {lo lo' : Loc} {σ σ₁ σ₀ : Store} {s s₁ s₀ : Shared} {E : Value → Shared → Prop} {Q : QS} {X : XS}
theorem Zej {g : Tgt} {body : List Sm} {vs : List PV} (hbody : SSs C G kf S n body) (hd : d ≤ n) (okg : okT f.scope g = true) (okb : okSs f.scope body = true) (B : Bs C outer L σ₀ s₀) (R : Run C f A L outer st d σ₀ s₀ lo σ s) (hst : st = true)
    {I : Addr} {fp wr : List Addr} {m : Nat} {P Md : Nat → Value → Heap → Prop} {St : Nat → Heap → Prop} (W : KTurns C.prog C.w A g.to I fp wr m P Md St) (hm : m = vs.length) (hL : L ∉ fp) (hfp : ∀ b ∈ fp, σ b = none) (hst0 : St 0 s.heap)
    (hobj : ∀ i h, St i h → ∀ b ∈ fp, ∃ o, h.get? b = some o ∧ o.cls ≠ .type "frame" ∧ (b ∈ wr → (∃ vs, o.data = .fields vs) ∧ o.cls ≠ .type "tuple")) (hwr : ∀ b ∈ wr, s₀.heap.get? b = none)
    (hP : ∀ i v h, i < vs.length → TupKeep s.heap h → P i v h → ∃ p, vs[i]? = some p ∧ VRel h p v) (w : Zax g (Za G S st d body) vs lo σ Q X) :
    codeAny C.M A (.forLoop g.to (.ref I) (Sm.tos body) [] (f.env L)) (Zdh C kf f A L outer st d σ₀ s₀ Q X) s := by
  subst hm
  generalize hR : Zdh C kf f A L outer st d σ₀ s₀ Q X = R0
  refine codeAny_forLoop_any (ForI C G S f A L outer st d σ₀ s₀ Q X g body vs fp St s.heap) ?_ (vs.length + 1)
    ⟨0, lo, σ, rfl, Nat.zero_le _, R, hst0, hfp, TupKeep.refl _, by simpa using w⟩
  rintro k s' ⟨i, lo, σ', rfl, hi, R, hS, hfp, htk, w⟩
  have wrOf : ∀ h', (∀ b o, b ∉ wr → s'.heap.get? b = some o → h'.get? b = some o) → Wr C s₀ s'.heap h' := fun h' hk b o e => by
    by_cases z : b ∈ wr
    · obtain ⟨o2, e2, _, h3⟩ := hobj i _ hS b (W.sub b z)
      rw [e] at e2; obtain rfl := so e2
      exact .inr (.inr ⟨hwr b z, h3 z⟩)
    · exact .inl (hk b o z e)
  have tkOf : ∀ h', (∀ b o, b ∉ wr → s'.heap.get? b = some o → h'.get? b = some o) → TupKeep s'.heap h' := fun h' hk b o e c => by
    by_cases z : b ∈ wr
    · obtain ⟨o2, e2, _, h3⟩ := hobj i _ hS b (W.sub b z)
      rw [e] at e2; obtain rfl := so e2
      exact absurd c (h3 z).2
    · exact hk b o z e
  by_cases hlt : i < vs.length
  · refine W.item i _ _ _ hlt hS fun v h₁ tk₁ hMd hk₁ => ?_
    refine W.go i v _ _ _ hMd fun h₂ hPv hS₂ hk₂ => ?_
    have hk : ∀ b o, b ∉ wr → s'.heap.get? b = some o → h₂.get? b = some o := fun b o z e => hk₂ b o z (hk₁ b o z e)
    have R2 : Run C f A L outer st d σ₀ s₀ lo σ' { s' with heap := h₂, toks := tk₁ } := (R.chg B (wrOf h₂ hk)).toks (dr := s'.drawn)
    have t2 := tkOf h₂ hk
    obtain ⟨p, hp, rp⟩ := hP i v h₂ hlt (htk.trans t2) hPv
    have hdrop : vs.drop i = p :: vs.drop (i + 1) := by
      rw [List.drop_eq_getElem_cons hlt]
      rw [List.getElem?_eq_getElem hlt] at hp
      obtain rfl := so hp; rfl
    rw [hdrop] at w
    obtain ⟨lo₁, hb, w⟩ := w
    · refine Zhq B R2 (fun _ => hst) okg rp hb fun h₃ tk₃ k₃ R3 o₃ => ?_
      have neL : ∀ b ∈ fp, b ≠ L := fun b hb z => hL (z ▸ hb)
      have hS₃ : St (i + 1) h₃ := W.frame _ _ _ hS₂ fun b hb o e => o₃ b o (neL b hb) e
      obtain ⟨B', R3'⟩ := R3.hid B
      refine wpAny_mono (hbody f A L outer st d lo₁ σ' _ σ' _ _ X hd okb B' R3' w) (fun fl s₄ h => ?_) fun e s₄ h => ?_
      · obtain ⟨g', lo₂, σ₂, q, r, R4'⟩ := h
        have R4 := R3.join B R4'
        cases r with
        | next =>
          refine ⟨vs.length + 1 - (i + 1), by lia, i + 1, lo₂, σ₂, rfl, hlt, R4, ?_, fun b hb => ?_, ?_, q⟩
          · refine W.frame _ _ _ hS₃ fun b hb o e => ?_
            obtain ⟨o2, e2, c2, _⟩ := hobj _ _ hS₃ b hb
            rw [e] at e2; obtain rfl := so e2
            rcases R4'.nx.keep b o (Zbb e (neL b hb)) (hfp b hb) with k | ⟨k, _⟩
            · exact k
            · exact absurd k c2
          · cases z : σ₂ b with
            | none => rfl
            | some po =>
              rcases R4'.nx.fresh b (by rw [z]; simp) with k | k
              · exact absurd (hfp b hb) k
              · obtain ⟨o2, e2, _⟩ := hobj _ _ hS₃ b hb
                rw [Zbb e2 (neL b hb)] at k; contradiction
          · refine (htk.trans (t2.trans k₃)).trans fun a o e c => ?_
            obtain ⟨_, oL, _, _, eL, cL, _⟩ := R3.cur.frame
            have ne : a ≠ L := fun z => by subst z; rw [eL] at e; obtain rfl := so e; rw [cL] at c; contradiction
            rcases R4'.nx.keep a o (Zbb e ne) (R3.cur.inv.tupNone e c) with k | ⟨k, _⟩
            · exact k
            · rw [c] at k; contradiction
        | ret r => subst hR; exact ⟨_, _, _, q, .ret r, R4⟩
      · subst hR; exact (ErF.join B R3 h).noted B fun x s' h => h.back B fun x s' h => h.weak
  · obtain rfl : i = vs.length := Nat.le_antisymm hi (Nat.not_lt.mp hlt)
    rw [List.drop_length] at w
    refine W.done _ _ _ hS fun h₁ tk₁ hk₁ => wpAny_execs_nil ?_
    subst hR; exact ⟨_, _, _, w, .next, (R.chg B (wrOf h₁ hk₁)).toks (dr := s'.drawn)⟩
end
section
variable {prog : Program} {w : World} {A : Around} {E : Value → Shared → Prop} {s : Shared}
theorem Zdi {it t : Addr} {i : Nat} {items : Array Value} {x : Value} {Q : Value → Shared → Prop} (hit : s.heap.IsTupleIter it t i) (ht : s.heap.IsTuple t items) (hx : items[i]? = some x)
    (hQ : ∀ h', h'.IsTupleIter it t (i + 1) → Heap.SameBut it s.heap h' → Q x { s with heap := h' }) :
    wpAny (model prog w) A (Builtin.SmallTypes.nextOf (.ref it)) Q E s := by
  obtain ⟨o, ho, hc, hd⟩ := id hit
  obtain ⟨ol, hol, _, nl, hdl⟩ := ht
  refine wpAny_bind (wpAny_callSpecial?_slot (name := Str.ofString "__next__") hit.typeIs F.slot_tuple_iterator_next (wpAny_call_entry F.slot_tuple_iterator_next hit.typeIs F.entry_tuple_iterator_next ?_ (F.args_tuple_iterator_next_1 _)))
  show wpAny _ _ (field (.ref it) 0 >>= _) _ _ s
  refine wpAny_bind (wpAny_field ho hd (x := .ref t) rfl ?_)
  show wpAny _ _ (if (Value.ref t == Value.none) = true then _ else _) _ _ s
  rw [if_neg (show ¬ ((Value.ref t == Value.none) = true) from Bool.false_ne_true)]
  show wpAny _ _ (field (.ref it) 1 >>= _) _ _ s
  refine wpAny_bind (wpAny_field ho hd (x := .int i 0) rfl ?_)
  show wpAny _ _ (seqItems? (.ref t) >>= _) _ _ s
  refine wpAny_bind (wpAny_seqItems hol hdl ?_)
  simp only [Int.toNat_natCast, hx]
  refine wpAny_bind (wpAny_setField ho hd (by simp) (wpAny_pure ⟨x, rfl, wpAny_pure (hQ _ ?_ (Heap.SameBut.update ..))⟩))
  exact ⟨_, Heap.get?_update_self _ ho (Obj.isFreed_of_fields (Obj.data_mapFields hd _)), (Obj.cls_mapFields ..).trans hc, by
    rw [Obj.data_mapFields hd]; simp [rawInt]⟩
theorem Zhr {it t : Addr} {i : Nat} {items : Array Value} {Q : Value → Shared → Prop} (hh : A.handled = none) (hit : s.heap.IsTupleIter it t i) (ht : s.heap.IsTuple t items) (hx : items[i]? = none)
    (hE : ∀ h' e, Heap.ExtBut it s.heap h' → (∃ o, h'.get? e = some o ∧ o.cls = .type "StopIteration") → E (.ref e) { s with heap := h' }) :
    wpAny (model prog w) A (Builtin.SmallTypes.nextOf (.ref it)) Q E s := by
  obtain ⟨o, ho, hc, hd⟩ := id hit
  obtain ⟨ol, hol, _, nl, hdl⟩ := ht
  refine wpAny_bind (wpAny_callSpecial?_slot (name := Str.ofString "__next__") hit.typeIs F.slot_tuple_iterator_next (wpAny_call_entry F.slot_tuple_iterator_next hit.typeIs F.entry_tuple_iterator_next ?_ (F.args_tuple_iterator_next_1 _)))
  show wpAny _ _ (field (.ref it) 0 >>= _) _ _ s
  refine wpAny_bind (wpAny_field ho hd (x := .ref t) rfl ?_)
  show wpAny _ _ (if (Value.ref t == Value.none) = true then _ else _) _ _ s
  rw [if_neg (show ¬ ((Value.ref t == Value.none) = true) from Bool.false_ne_true)]
  show wpAny _ _ (field (.ref it) 1 >>= _) _ _ s
  refine wpAny_bind (wpAny_field ho hd (x := .int i 0) rfl ?_)
  show wpAny _ _ (seqItems? (.ref t) >>= _) _ _ s
  refine wpAny_bind (wpAny_seqItems hol hdl ?_)
  simp only [Int.toNat_natCast, hx]
  refine wpAny_bind (wpAny_rule (wpAny_bind (wpAny_setField ho hd (by simp) ?_)))
  show wpAny _ _ (newExc (.type "StopIteration") [] >>= _) _ _ _
  refine wpAny_bind ?_
  simp only [newExc, newTuple]
  refine wpAny_bind (wpAny_newObj_type ?_ (by size_fits))
  refine wpAny_bind (m := firstArgMember _ _) (wpAny_of_eq (a := Value.none) (by first | rfl | (simp only [firstArgMember]; rfl)) ?_)
  refine wpAny_newObj_type ?_ (by size_fits)
  unfold raiseNew
  refine wpAny_bind (wpAny_handled ?_)
  first | rw [show A.in1.handled = none from hh] | rw [hh]
  refine wpAny_bind (wpAny_pure (wpAny_throw ?_))
  exact hE _ _ (((Heap.SameBut.update ..).extBut.push _).push _) ⟨_, Heap.get?_push_size _ rfl, rfl⟩
open AutoSeq1 (wpAny_loadPart')
theorem Zfn (l : Addr) (items : Array Value) (n : Nat) (dct : Option Addr) (sl : Array (Option Value)) :
    Meets (Builtin.«enumerate.__new__» ⟨[.type "enumerate", .ref l], []⟩) (fun _ R s => s.heap.get? l = some { cls := .type "tuple", dict := dct, data := .seq items n, slots := sl } ∧
      R (.ok (.ret (.ref (s.heap.push { cls := .type "tuple_iterator", data := .fields #[.ref l, .int 0 0] }).objs.size)))
        { s with heap := (s.heap.push { cls := .type "tuple_iterator", data := .fields #[.ref l, .int 0 0] }).push { cls := .type "enumerate", data := .fields #[.none, .bool false, .ref s.heap.objs.size, rawInt 0, .none, .none] } }) :=
  .of_wp fun prog w A R s h => by
    obtain ⟨hp, g, d, tk, os⟩ := s; obtain ⟨hl, h⟩ := h
    have hsub := sub_enumerate
    have hL : Heap.IsTuple (Shared.heap ⟨hp, g, d, tk, os⟩) l items := ⟨_, hl, rfl, n, rfl⟩
    wp_walk using wpAny_loadPart' hl
    refine wpAny_stack_any fun st => wpAny_pure ?_
    split
    · rename_i c _ _ _ _ _
      cases (c == Value.type "enumerate")
      · wp_walk using wpAny_loadPart' hl, wpAny_pyIter_tuple hL
        exact ⟨_, rfl, h⟩
      · wp_walk using wpAny_loadPart' hl, wpAny_pyIter_tuple hL
        exact ⟨_, rfl, h⟩
    · wp_walk using wpAny_loadPart' hl, wpAny_pyIter_tuple hL
      exact ⟨_, rfl, h⟩
theorem Zfm {l : Addr} {o : Obj} {items : Array Value} {n : Nat} {Q : Value → Shared → Prop} (hl : s.heap.get? l = some o) (hc : o.cls = .type "tuple") (hd : o.data = .seq items n)
    (h : ∀ h', IsEnum h' (s.heap.objs.size + 1) s.heap.objs.size 0 .none → h'.IsTupleIter s.heap.objs.size l 0 → (∀ b o, s.heap.get? b = some o → h'.get? b = some o) → Q (.ref (s.heap.objs.size + 1)) { s with heap := h' }) :
    wpAny (model prog w) A (call (.type "enumerate") [.ref l]) Q E s := by
  obtain ⟨cls, dct, dt, sl⟩ := o
  dsimp only at hc hd
  subst hc hd
  refine callType_new F.called_enumerate (by decide) (F.typeCall_enumerate_1 _) (F.newCall_enumerate_1 _) (fun obj => F.args_object_init_2 obj _) F.entry_enumerate_new
    (Zfn l items n dct sl) ⟨hl, ?_⟩
  have hz : (s.heap.push { cls := .type "tuple_iterator", data := .fields #[.ref l, .int 0 0] }).objs.size = s.heap.objs.size + 1 := Heap.size_push ..
  show _ ∧ _
  rw [hz]
  have he : IsEnum ((s.heap.push { cls := .type "tuple_iterator", data := .fields #[.ref l, .int 0 0] }).push
      { cls := .type "enumerate", data := .fields #[.none, .bool false, .ref s.heap.objs.size, rawInt 0, .none, .none] }) (s.heap.objs.size + 1) s.heap.objs.size 0 .none := by
    have := Heap.get?_push_size (s.heap.push { cls := .type "tuple_iterator", data := .fields #[.ref l, .int 0 0] })
      (o := { cls := .type "enumerate", data := .fields #[.none, .bool false, .ref s.heap.objs.size, rawInt 0, .none, .none] }) rfl
    rw [hz] at this; exact this
  refine ⟨⟨_, he, rfl⟩, h _ he ⟨_, Heap.get?_push_of_some _ (Heap.get?_push_size _ rfl), rfl, rfl⟩ fun b o x => Heap.get?_push_of_some _ (Heap.get?_push_of_some _ x)⟩
end
theorem Zoq {prog : Program} {w : World} {A : Around} (hh : A.handled = none) (it l : Addr) (hne : l ≠ it) (items : Array Value) :
    Draws prog w A it [it, l] items.size (fun i v => items[i]? = some v) (fun i h => h.IsTupleIter it l i ∧ h.IsTuple l items) where
  live := fun _ _ st => let ⟨o, ho, _⟩ := st.1; ⟨o, ho⟩
  frame := fun _ _ _ st hk => ⟨st.1.at fun o e => hk it (by exact .head _) o e, st.2.at fun o e => hk l (by exact .tail _ (.head _)) o e⟩
  item := fun i s Q E hi st hQ => by
    refine Zdi st.1 st.2 (x := items[i]) (by simp [hi]) fun h' hit' hs' => ?_
    exact hQ _ h' s.toks (by simp [hi]) ⟨hit', st.2.extBut hs'.extBut hne⟩ hs'
  done := fun s Q E st hE => Zhr hh st.1 st.2 (by simp) hE
theorem Zop (e : Ex) (env : Env) (x : Value) : foldedSetIterable e.to env x = pure x := by cases e <;> rfl
theorem Run.del {C : Cx} {f : FI} {A : Around} {L : Addr} {outer : List Env} {st : Bool} {d : Nat} {lo : Loc} {σ σ₀ : Store} {s s₀ : Shared} (R : Run C f A L outer st d σ₀ s₀ lo σ s) (a : Addr) : Run C f A L outer st d σ₀ s₀ lo (σ.del a) s := by
  have sto : ∀ b o, (σ.del a) b = some o → σ b = some o := fun b o e => by
    unfold Store.del at e
    split at e
    · contradiction
    · exact e
  exact ⟨⟨⟨R.nx.inv.base, fun b o e => R.nx.inv.sto b o (sto b o e), R.nx.inv.frs, R.nx.inv.size⟩, R.nx.keep, R.nx.stay, fun b h => R.nx.fresh b fun z => h (by
      cases q : (σ.del a) b with
      | none => rfl
      | some o => rw [sto b o q] at z; contradiction), R.nx.gens, R.nx.os⟩, R.cur.bud, R.cur.hand, R.cur.frames, ⟨R.cur.inv.base, fun b o e => R.cur.inv.sto b o (sto b o e), R.cur.inv.frs, R.cur.inv.size⟩, R.cur.fm, R.cur.kind⟩
theorem Zev {a : Int} (h : -1 ≤ a) : Builtin.Range.rangeSize a (-1) (-1) = a + 1 := by
  unfold Builtin.Range.rangeSize
  simp only [show ¬ ((-1 : Int) > 0) by decide, if_false, show -(-1 : Int) = 1 by decide, Int.ediv_one]
  split <;> lia
theorem Zog {a : Int} (h : -1 ≤ a) (h2 : a ≤ 1000) : Builtin.Range.small a (-1) (-1) = true := by
  unfold Builtin.Range.small
  rw [Zev h]
  simp only [Builtin.Range.rangeFitsLong, Bool.and_eq_true, Bool.or_eq_true, decide_eq_true_eq, beq_iff_eq, show ¬ ((-1 : Int) > 0) by decide, if_false]
  lia
theorem enumP_get : ∀ (vs : List PV) (k i : Nat) (p : PV), vs[i]? = some p → (enumP k vs)[i]? = some (.tup [.int ((k + i : Nat) : Int), p])
  | [], _, _, _, h => by simp at h
  | v :: r, k, 0, p, h => by obtain rfl := so h; rfl
  | v :: r, k, i + 1, p, h => by
    have := enumP_get r (k + 1) i p (by simpa using h)
    rw [show k + 1 + i = k + (i + 1) by lia] at this
    exact this
theorem enumP_len : ∀ (vs : List PV) (k : Nat), (enumP k vs).length = vs.length
  | [], _ => rfl
  | _ :: r, k => congrArg Nat.succ (enumP_len r (k + 1))
section
variable {C : Cx} {K : Frag} {G : Pg} {kf : Addr} {S : Spec} {n : Nat} {f : FI} {A : Around} {L : Addr} {outer : List Env} {st : Bool} {d d' : Nat} {lo lo' : Loc} {σ σ₁ σ₀ : Store} {s s₁ s₀ : Shared} {E : Value → Shared → Prop} {Q : QS} {X : XS}
theorem Run.freshB (R : Run C f A L outer st d σ₀ s₀ lo σ s) {b : Addr} (h : s.heap.get? b = none) : s₀.heap.get? b = none := by
  cases q : s₀.heap.get? b with
  | none => rfl
  | some o => obtain ⟨o', e'⟩ := R.nx.stay _ _ q; rw [e'] at h; contradiction
theorem Zrn {g : Tgt} {body : List Sm} {vs : List PV} {v : Value} (hbody : SSs C G kf S n body) (hd : d ≤ n) (okg : okT f.scope g = true) (okb : okSs f.scope body = true) (B : Bs C outer L σ₀ s₀) (R : Run C f A L outer st d σ₀ s₀ lo σ s) (hst : st = true) (r : VRel s.heap (.tup vs) v)
    (w : Zax g (Za G S st d body) vs lo σ Q X) :
    wpAny C.M A (pyIter v) (fun it s₂ => codeAny C.M A (.forLoop g.to it (Sm.tos body) [] (f.env L)) (Zdh C kf f A L outer st d σ₀ s₀ Q X) s₂) E s := by
  have hh := R.cur.hand hst
  obtain ⟨ax, ob, m, items, he, hcc, hdd, hr⟩ := Zdv r
  have hT : s.heap.IsTuple ax items.toArray := ⟨_, he, hcc, m, hdd⟩
  have hlt : ax < s.heap.objs.size := Heap.lt_size he
  obtain ⟨hL, oL, esL, nL, eL, cL, dL⟩ := R.cur.frame
  refine wpAny_pyIter_tuple hT ?_
  have n0 := Zao s.heap
  have R2 := R.next (Nx.pushed R.cur.inv { cls := .type "tuple_iterator", data := .fields #[.ref ax, .int 0 0] } (t := s.toks) (dr := s.drawn))
  refine Zej hbody hd okg okb B R2 hst (KTurns.ofWalks (Walks.tuple hh s.heap.objs.size ax (Nat.ne_of_lt hlt) items.toArray) fun i v s Q E st q => letGo_tupleiter st.1 q) (by rw [List.size_toArray, hr.length]) ?_ ?_ ⟨⟨_, Heap.get?_push_size _ rfl, rfl, rfl⟩, hT.at fun o e => Heap.get?_push_of_some _ e⟩ ?_ ?_ ?_ w
  · simp only [List.mem_cons, List.not_mem_nil, or_false, not_or]
    exact ⟨Nat.ne_of_lt (Heap.lt_size eL), fun z => by subst z; rw [eL] at he; obtain rfl := so he; rw [cL] at hcc; contradiction⟩
  · intro b hb
    simp only [List.mem_cons, List.not_mem_nil, or_false] at hb
    rcases hb with rfl | rfl
    · exact R.cur.inv.freshAt n0
    · exact R.cur.inv.tupNone he hcc
  · rintro i h ⟨⟨oi, h1, h2, h3⟩, ⟨ot, h4, h5, _⟩⟩ b hb
    simp only [List.mem_cons, List.not_mem_nil, or_false] at hb
    rcases hb with rfl | rfl
    · exact ⟨oi, h1, by rw [h2]; exact Zw (by decide), fun _ => ⟨⟨_, h3⟩, by rw [h2]; exact Zw (by decide)⟩⟩
    · exact ⟨ot, h4, by rw [h5]; exact Zw (by decide), fun hb => absurd (List.mem_singleton.mp hb) (Nat.ne_of_lt hlt)⟩
  · intro b hb
    rw [List.mem_singleton.mp hb]; exact R.freshB n0
  · intro i v h hi htk hp
    have hp : items[i]? = some v := by simpa using hp
    have hr2 : VRels h vs items := (hr.mono fun b o e _ => Heap.get?_push_of_some _ e).mono htk
    have e2 : vs[i]? = some vs[i] := List.getElem?_eq_getElem hi
    obtain ⟨v', h1, h2⟩ := hr2.get e2
    rw [hp] at h1; obtain rfl := so h1
    exact ⟨_, e2, h2⟩
theorem Zug {g : Tgt} {body : List Sm} {vs : List PV} {a : Addr} (hbody : SSs C G kf S n body) (hd : d ≤ n) (okg : okT f.scope g = true) (okb : okSs f.scope body = true) (B : Bs C outer L σ₀ s₀) (R : Run C f A L outer st d σ₀ s₀ lo σ s) (hst : st = true) (hl : vs.length ≤ 1000) (e : σ a = some (.list vs))
    (w : Zax g (Za G S st d body) vs lo (σ.del a) Q X) :
    wpAny C.M A (pyIter (.ref a)) (fun it s₂ => codeAny C.M A (.forLoop g.to it (Sm.tos body) [] (f.env L)) (Zdh C kf f A L outer st d σ₀ s₀ Q X) s₂) E s := by
  have hh := R.cur.hand hst
  obtain ⟨_, items, m, he, hr⟩ := R.cur.inv.sto a _ e
  have hT : s.heap.IsList a items := he.isList
  have hlt : a < s.heap.objs.size := Heap.lt_size he
  have hne : L ≠ a := fun z => by
    obtain ⟨_, oL, _, _, eL, cL, _⟩ := R.cur.frame
    have he' : s.heap.get? a = some { cls := .type "list", data := .seq items m } := he
    subst z; rw [eL] at he'; obtain rfl := so he'; contradiction
  obtain ⟨hL, oL, esL, nL, eL, cL, dL⟩ := R.cur.frame
  refine wpAny_pyIter_list hT ?_
  have n0 := Zao s.heap
  have Rd := R.del a
  have R2 := Rd.next (Nx.pushed Rd.cur.inv { cls := .type "list_iterator", data := .fields #[.ref a, .int 0 0] } (t := s.toks) (dr := s.drawn))
  refine Zej hbody hd okg okb B R2 hst (KTurns.ofWalks (Walks.list hh s.heap.objs.size a (Nat.ne_of_lt hlt) items) fun i v s Q E st q => letGo_listiter st.1 q) (by rw [← Array.length_toList]; exact hr.length) ?_ ?_ ⟨⟨_, Heap.get?_push_size _ rfl, rfl, rfl⟩, hT.at fun o e => Heap.get?_push_of_some _ e⟩ ?_ ?_ ?_ w
  · simp only [List.mem_cons, List.not_mem_nil, or_false, not_or]
    exact ⟨Nat.ne_of_lt (Heap.lt_size eL), hne⟩
  · intro b hb
    simp only [List.mem_cons, List.not_mem_nil, or_false] at hb
    rcases hb with rfl | rfl
    · exact Rd.cur.inv.freshAt n0
    · unfold Store.del; rw [if_pos rfl]
  · rintro i h ⟨⟨oi, h1, h2, h3⟩, ⟨ot, h4, h5, _⟩⟩ b hb
    simp only [List.mem_cons, List.not_mem_nil, or_false] at hb
    rcases hb with rfl | rfl
    · exact ⟨oi, h1, by rw [h2]; exact Zw (by decide), fun _ => ⟨⟨_, h3⟩, by rw [h2]; exact Zw (by decide)⟩⟩
    · exact ⟨ot, h4, by rw [h5]; exact Zw (by decide), fun hb => absurd (List.mem_singleton.mp hb) (Nat.ne_of_lt hlt)⟩
  · intro b hb
    rw [List.mem_singleton.mp hb]; exact R.freshB n0
  · intro i v h hi htk hp
    have hp : items.toList[i]? = some v := by rw [Array.getElem?_toList]; exact hp
    have hr2 : VRels h vs items.toList := (hr.mono fun b o e _ => Heap.get?_push_of_some _ e).mono htk
    have e2 : vs[i]? = some vs[i] := List.getElem?_eq_getElem hi
    obtain ⟨v', h1, h2⟩ := hr2.get e2
    rw [hp] at h1; obtain rfl := so h1
    exact ⟨_, e2, h2⟩
theorem Zjh {g : Tgt} {body : List Sm} {vs : List PV} {ra : Addr} {a b c : Int} {t u v : Tok} (hbody : SSs C G kf S n body) (hd : d ≤ n) (okg : okT f.scope g = true) (okb : okSs f.scope body = true) (hg : g.isMany = false) (B : Bs C outer L σ₀ s₀) (R : Run C f A L outer st d σ₀ s₀ lo σ s) (hst : st = true)
    (hr : IsRange s.heap ra a b c t u v) (hsm : Builtin.Range.small a b c = true) (hn : Builtin.Range.rangeSize a b c = (vs.length : Int)) (hvs : ∀ i, i < vs.length → vs[i]? = some (.int (a + (i : Int) * c)))
    (w : Zax g (Za G S st d body) vs lo σ Q X) :
    wpAny C.M A (pyIter (.ref ra)) (fun it s₂ => codeAny C.M A (.forLoop g.to it (Sm.tos body) [] (f.env L)) (Zdh C kf f A L outer st d σ₀ s₀ Q X) s₂) E s := by
  have hh := R.cur.hand hst
  obtain ⟨hL, oL, esL, nL, eL, cL, dL⟩ := R.cur.frame
  refine wpAny_pyIter_range hr hsm ?_
  have n0 := Zao s.heap
  have R2 := R.next (Nx.pushed R.cur.inv { cls := .type "range_iterator", data := .fields #[rawInt a, rawInt (Builtin.Range.rangeSize a b c), rawInt c] } (t := s.toks) (dr := s.drawn))
  refine Zej hbody hd okg okb B R2 hst (KTurns.ofWalks (Walks.range hh s.heap.objs.size a c vs.length) fun i v s Q E st q => ?_) rfl ?_ ?_ ?_ ?_ ?_ ?_ w
  · cases g with
    | one t p => exact wpAny_pure q
    | many _ _ _ => contradiction
  · simp only [List.mem_cons, List.not_mem_nil, or_false]
    exact Nat.ne_of_lt (Heap.lt_size eL)
  · intro b hb
    rw [List.mem_singleton.mp hb]
    exact R.cur.inv.freshAt n0
  · show IsRangeIter _ _ _ _ _
    rw [hn]
    simpa using Heap.get?_push_size s.heap (o := { cls := .type "range_iterator", data := .fields #[rawInt a, rawInt (vs.length : Int), rawInt c] }) rfl
  · intro i h hi b hb
    rw [List.mem_singleton.mp hb]
    exact ⟨_, hi, by exact Zw (by decide), fun _ => ⟨⟨_, rfl⟩, by exact Zw (by decide)⟩⟩
  · intro b hb
    rw [List.mem_singleton.mp hb]; exact R.freshB n0
  · rintro i v h hi htk ⟨t, rfl⟩
    exact ⟨_, hvs i hi, .int _ _⟩
theorem Zuh {g : Tgt} {body : List Sm} {vs : List PV} {v : Value} (hbody : SSs C G kf S n body) (hd : d ≤ n) (okg : okT f.scope g = true) (okb : okSs f.scope body = true) (hg : g.isMany = true) (B : Bs C outer L σ₀ s₀) (R : Run C f A L outer st d σ₀ s₀ lo σ s) (hst : st = true) (r : VRel s.heap (.tup vs) v)
    (w : Zax g (Za G S st d body) (enumP 0 vs) lo σ Q X) :
    wpAny C.M A (call (.type "enumerate") [v]) (fun xv s₁ => wpAny C.M A (pyIter xv) (fun it s₂ => codeAny C.M A (.forLoop g.to it (Sm.tos body) [] (f.env L)) (Zdh C kf f A L outer st d σ₀ s₀ Q X) s₂) E s₁) E s := by
  have hh := R.cur.hand hst
  obtain ⟨ax, ob, m, items, he, hcc, hdd, hr⟩ := Zdv r
  have hlt : ax < s.heap.objs.size := Heap.lt_size he
  obtain ⟨hL, oL, esL, nL, eL, cL, dL⟩ := R.cur.frame
  refine Zfm he hcc hdd fun h' hE hI hk => ?_
  refine wpAny_pyIter_enum hE ?_
  have R2 : Run C f A L outer st d σ₀ s₀ lo σ { s with heap := h' } := R.next (R.cur.grown (t := s.toks) (dr := s.drawn) hk)
  have n0 : s.heap.get? s.heap.objs.size = none := Zao s.heap
  have n1 : s.heap.get? (s.heap.objs.size + 1) = none := Zbi (Nat.le_succ _)
  cases g with
  | one _ _ => contradiction
  | many gts gk gp =>
  have W := KTurns.ofWalksU (elts := names gts) (k := gk) (pos := gp) (WalksT.enumerateD (Zoq (prog := C.prog) (w := C.w) (A := A.in1) (by simpa using hh) s.heap.objs.size ax (Nat.ne_of_lt hlt) items.toArray) (s.heap.objs.size + 1) (Nat.succ_ne_self _) (by
        simp only [List.mem_cons, List.not_mem_nil, or_false, not_or]
        exact ⟨Nat.succ_ne_self _, Nat.ne_of_gt (Nat.lt_succ_of_lt hlt)⟩) (by exact .head _)).toU
  refine Zej hbody hd okg okb B R2 hst W (by rw [List.size_toArray, hr.length, enumP_len]) ?_ ?_ ⟨⟨.none, hE⟩, hI, ⟨_, hk _ _ he, hcc, m, hdd⟩⟩ ?_ ?_ ?_ w
  · simp only [List.mem_cons, List.not_mem_nil, or_false, not_or]
    exact ⟨Nat.ne_of_lt (Nat.lt_succ_of_lt (Heap.lt_size eL)), Nat.ne_of_lt (Heap.lt_size eL), fun z => by subst z; rw [eL] at he; obtain rfl := so he; rw [cL] at hcc; contradiction⟩
  · intro b hb
    simp only [List.mem_cons, List.not_mem_nil, or_false] at hb
    rcases hb with rfl | rfl | rfl
    · exact R.cur.inv.freshAt n1
    · exact R.cur.inv.freshAt n0
    · exact R.cur.inv.tupNone he hcc
  · rintro i h ⟨⟨old, hE⟩, ⟨oi, h1, h2, h3⟩, ⟨ot, h4, h5, _⟩⟩ b hb
    simp only [List.mem_cons, List.not_mem_nil, or_false] at hb
    rcases hb with rfl | rfl | rfl
    · exact ⟨_, hE, by exact Zw (by decide), fun _ => ⟨⟨_, rfl⟩, by exact Zw (by decide)⟩⟩
    · exact ⟨oi, h1, by rw [h2]; exact Zw (by decide), fun _ => ⟨⟨_, h3⟩, by rw [h2]; exact Zw (by decide)⟩⟩
    · refine ⟨ot, h4, by rw [h5]; exact Zw (by decide), fun hb => ?_⟩
      simp only [List.mem_cons, List.not_mem_nil, or_false] at hb
      rcases hb with z | z
      · exact absurd z (Nat.ne_of_lt (Nat.lt_succ_of_lt hlt))
      · exact absurd z (Nat.ne_of_lt hlt)
  · intro b hb
    simp only [List.mem_cons, List.not_mem_nil, or_false] at hb
    rcases hb with rfl | rfl
    · exact R.freshB n1
    · exact R.freshB n0
  · rintro i v h hi htk ⟨T, vals, rfl, ⟨t, x, hx, rfl⟩, ⟨oT, hT, hTc, mT, hTd⟩⟩
    rw [enumP_len] at hi
    have hx : items[i]? = some x := by simpa using hx
    have hr2 : VRels h vs items := (hr.mono fun b o e _ => hk b o e).mono htk
    have e2 : vs[i]? = some vs[i] := List.getElem?_eq_getElem hi
    obtain ⟨v', h1, h2⟩ := hr2.get e2
    rw [hx] at h1; obtain rfl := so h1
    refine ⟨_, enumP_get vs 0 i _ e2, ?_⟩
    rw [Nat.zero_add]
    exact .tup (items := [.int i t, x]) hT hTc hTd (.cons (.int _ _) (.cons h2 .nil))
end
noncomputable abbrev zk1 (h : Heap) (l : Addr) : Heap := h.push { cls := .type "list_iterator", data := .fields #[.ref l, .int 0 0] }
noncomputable abbrev zk2 (h : Heap) (l t : Addr) : Heap := (zk1 h l).push { cls := .type "tuple_iterator", data := .fields #[.ref t, .int 0 0] }
noncomputable abbrev zk3 (h : Heap) (l t : Addr) : Heap := (zk2 h l t).push { cls := .type "tuple", data := .seq #[.ref h.objs.size, .ref (zk1 h l).objs.size] }
noncomputable abbrev zk4 (h : Heap) (l t : Addr) : Heap := (zk3 h l t).push { cls := .type "tuple", data := .seq #[.none, .none] }
noncomputable abbrev zk5 (h : Heap) (l t : Addr) : Heap := (zk4 h l t).push { cls := .type "zip", data := .fields #[.none, .bool false, .bool false, .ref (zk2 h l t).objs.size, .ref (zk3 h l t).objs.size] }
theorem Zzf (l t : Addr) (xs ys : Array Value) :
    Meets (Builtin.«zip.__new__» ⟨[.type "zip", .ref l, .ref t], []⟩) (fun _ R s => s.heap.IsList l xs ∧ s.heap.IsTuple t ys ∧ R (.ok (.ret (.ref (zk4 s.heap l t).objs.size))) { s with heap := zk5 s.heap l t }) :=
  .of_wp fun prog w A R s h => by
    obtain ⟨hp, g, d, tk, os⟩ := s; obtain ⟨hl1, hl2, h⟩ := h
    have hsub := sub_zip
    have hL1 : Heap.IsList (Shared.heap ⟨hp, g, d, tk, os⟩) l xs := hl1
    have hL2 : Heap.IsTuple (Shared.heap ⟨hp.push { cls := .type "list_iterator", data := .fields #[.ref l, .int 0 0] }, g, d, tk, os⟩) t ys := hl2.at fun o e => Heap.get?_push_of_some _ e
    wp_walk using wpAny_pyIter_list hL1, wpAny_pyIter_tuple hL2
    exact ⟨_, rfl, h⟩
section
variable {prog : Program} {w : World} {A : Around} {E : Value → Shared → Prop} {s : Shared}
theorem Zyh {l t : Addr} {xs ys : Array Value} {Q : Value → Shared → Prop} (hl : s.heap.IsList l xs) (ht : s.heap.IsTuple t ys)
    (h : ∀ h', IsZip h' (s.heap.objs.size + 4) (s.heap.objs.size + 2) (s.heap.objs.size + 3) .none → IsPair h' (s.heap.objs.size + 2) (.ref s.heap.objs.size) (.ref (s.heap.objs.size + 1)) →
      IsPair h' (s.heap.objs.size + 3) .none .none → h'.IsListIter s.heap.objs.size l 0 → h'.IsTupleIter (s.heap.objs.size + 1) t 0 →
      (∀ c o, s.heap.get? c = some o → h'.get? c = some o) → Q (.ref (s.heap.objs.size + 4)) { s with heap := h' }) :
    wpAny (model prog w) A (call (.type "zip") [.ref l, .ref t]) Q E s := by
  refine callType_new F.called_zip (by decide) (F.typeCall_zip_2 _ _) (F.newCall_zip_2 _ _) (fun obj => F.args_object_init_3 obj _ _) F.entry_zip_new (Zzf l t xs ys) ⟨hl, ht, ?_⟩
  have z1 : (zk1 s.heap l).objs.size = s.heap.objs.size + 1 := Heap.size_push ..
  have z2 : (zk2 s.heap l t).objs.size = s.heap.objs.size + 2 := by rw [Heap.size_push, z1]
  have z3 : (zk3 s.heap l t).objs.size = s.heap.objs.size + 3 := by rw [Heap.size_push, z2]
  have z4 : (zk4 s.heap l t).objs.size = s.heap.objs.size + 4 := by rw [Heap.size_push, z3]
  have g5 : (zk5 s.heap l t).get? (zk4 s.heap l t).objs.size = some _ := Heap.get?_push_size _ rfl
  have g4 : (zk5 s.heap l t).get? (zk3 s.heap l t).objs.size = some _ := Heap.get?_push_of_some _ (Heap.get?_push_size _ rfl)
  have g3 : (zk5 s.heap l t).get? (zk2 s.heap l t).objs.size = some _ := Heap.get?_push_of_some _ (Heap.get?_push_of_some _ (Heap.get?_push_size _ rfl))
  have g2 : (zk5 s.heap l t).get? (zk1 s.heap l).objs.size = some _ := Heap.get?_push_of_some _ (Heap.get?_push_of_some _ (Heap.get?_push_of_some _ (Heap.get?_push_size _ rfl)))
  have g1 : (zk5 s.heap l t).get? s.heap.objs.size = some _ := Heap.get?_push_of_some _ (Heap.get?_push_of_some _ (Heap.get?_push_of_some _ (Heap.get?_push_of_some _ (Heap.get?_push_size _ rfl))))
  rw [z2, z3, z4] at g5
  rw [z1, z2] at g3
  rw [z3] at g4
  rw [z1] at g2
  show _ ∧ _
  rw [z4]
  exact ⟨⟨_, g5, rfl⟩, h _ g5 g3 g4 ⟨_, g1, rfl, rfl⟩ ⟨_, g2, rfl, rfl⟩ fun c o e => Heap.get?_push_of_some _ (Heap.get?_push_of_some _ (Heap.get?_push_of_some _ (Heap.get?_push_of_some _ (Heap.get?_push_of_some _ e))))⟩
theorem Zvr {z TI TO i1 i2 l1 l2 : Addr} {k1 k2 : Nat} {xs ys : Array Value} {x y a b : Value} {Q : Value → Shared → Prop} (D : ZipApart z TI TO i1 i2 l1 l2)
    (hz : IsZip s.heap z TI TO .none) (hTI : IsPair s.heap TI (.ref i1) (.ref i2)) (hTO : IsPair s.heap TO a b)
    (h1 : s.heap.IsListIter i1 l1 k1) (h2 : s.heap.IsTupleIter i2 l2 k2) (hl1 : s.heap.IsList l1 xs) (hl2 : s.heap.IsTuple l2 ys) (hx : xs[k1]? = some x) (hy : ys[k2]? = some y)
    (hQ : ∀ h', IsZip h' z TI TO (rawInt s.heap.objs.size) → h'.IsListIter i1 l1 (k1 + 1) → IsPair h' s.heap.objs.size x y →
      (∀ c o, c ≠ z → c ≠ TO → c ≠ i1 → c ≠ i2 → s.heap.get? c = some o → h'.get? c = some o) → Q (.ref s.heap.objs.size) { s with heap := h' }) :
    wpAny (model prog w) A (Builtin.«zip.__next__» ⟨[.ref z], []⟩) (fun fin s' => ∃ v, fin = .done (.ret v) ∧ Q v s') E s := by
  show wpAny _ _ (field (.ref z) 2 >>= _) _ _ _
  refine wpAny_bind (wpAny_field hz rfl (x := .bool false) rfl ?_)
  show wpAny _ _ (field (.ref z) 3 >>= _) _ _ _
  refine wpAny_bind (wpAny_field hz rfl (x := .ref TI) rfl ?_)
  refine wpAny_bind (wpAny_seqItems hTI rfl ?_)
  show wpAny _ _ (Builtin.SmallTypes.ownedTupleIsFree (.ref z) >>= _) _ _ _
  refine wpAny_bind ?_
  refine wpAny_bind (wpAny_field hz rfl (x := .none) rfl (wpAny_pure ?_))
  rw [if_pos rfl]
  refine wpAny_bind (wpAny_rule ?_)
  refine wpAny_bind (wpAny_field hz rfl (x := .ref TO) rfl ?_)
  refine wpAny_bind (wpAny_setField_rec hz (by simp) fun h₁ hz₁ hs₁ => ?_)
  replace hz₁ : IsZip h₁ z TI TO .ellipsis := hz₁
  refine wpAny_bind ?_
  rw [List.zipIdx_cons, List.zipIdx_cons, List.zipIdx_nil, List.forIn_cons]
  refine wpAny_bind (wpAny_bind (wpAny_onRaise ?_))
  show wpAny _ _ (Builtin.SmallTypes.nextOf (.ref i1) >>= _) _ _ _
  refine wpAny_bind (wpAny_nextOf_list_item (h1.extBut hs₁.extBut D.i1z) (hl1.extBut hs₁.extBut D.l1z) hx fun h₂ h1₂ hs₂ => wpAny_pure ?_)
  have hTO₂ : IsPair h₂ TO a b := hs₂.extBut _ _ D.TOi1 (hs₁.extBut _ _ D.TOz hTO)
  refine wpAny_bind (wpAny_seqItems hTO₂ rfl ?_)
  refine wpAny_bind (wpAny_updateSeq_pair hTO₂ fun h₃ hTO₃ hs₃ => ?_)
  replace hTO₃ : IsPair h₃ TO x b := hTO₃
  refine wpAny_bind (wpAny_letGo (wpAny_pure ?_))
  refine wpAny_bind (wpAny_bind (wpAny_onRaise ?_))
  show wpAny _ _ (Builtin.SmallTypes.nextOf (.ref i2) >>= _) _ _ _
  refine wpAny_bind (Zdi (((h2.extBut hs₁.extBut D.i2z).extBut hs₂.extBut D.i12.symm).extBut hs₃.extBut D.TOi2.symm)
    (((hl2.extBut hs₁.extBut D.l2z).extBut hs₂.extBut D.l2i1).extBut hs₃.extBut D.l2TO) hy fun h₄ h2₄ hs₄ => wpAny_pure ?_)
  have hTO₄ : IsPair h₄ TO x b := hs₄.extBut _ _ D.TOi2 hTO₃
  refine wpAny_bind (wpAny_seqItems hTO₄ rfl ?_)
  refine wpAny_bind (wpAny_updateSeq_pair hTO₄ fun h₅ hTO₅ hs₅ => ?_)
  replace hTO₅ : IsPair h₅ TO x y := hTO₅
  refine wpAny_bind (wpAny_letGo (wpAny_pure (wpAny_pure ?_)))
  refine wpAny_bind (wpAny_seqItems hTO₅ rfl ?_)
  refine wpAny_bind (wpAny_newTuple ?_)
  have hsz : h₅.objs.size = s.heap.objs.size := by rw [hs₅.1, hs₄.1, hs₃.1, hs₂.1, hs₁.1]
  have hz₅ : IsZip h₅ z TI TO .ellipsis := hs₅.extBut _ _ D.TOz.symm (hs₄.extBut _ _ D.i2z.symm (hs₃.extBut _ _ D.TOz.symm (hs₂.extBut _ _ D.i1z.symm hz₁)))
  have hk₅ : ∀ c o, c ≠ z → c ≠ TO → c ≠ i1 → c ≠ i2 → s.heap.get? c = some o → h₅.get? c = some o := fun c o c1 c2 c3 c4 e =>
    hs₅.extBut _ _ c2 (hs₄.extBut _ _ c4 (hs₃.extBut _ _ c2 (hs₂.extBut _ _ c3 (hs₁.extBut _ _ c1 e))))
  have h1₅ : h₅.IsListIter i1 l1 (k1 + 1) := ((h1₂.extBut hs₃.extBut D.TOi1.symm).extBut hs₄.extBut D.i12).extBut hs₅.extBut D.TOi1.symm
  have hzlt : z < h₅.objs.size := Heap.lt_size hz₅
  have hi1lt : i1 < h₅.objs.size := by obtain ⟨_, e, _⟩ := h1₅; exact Heap.lt_size e
  show wpAny _ _ (Builtin.SmallTypes.ownedTupleHandOut (.ref z) (.ref h₅.objs.size) >>= _) _ _ _
  refine wpAny_bind ?_
  have hz₆ : IsZip (h₅.push { cls := .type "tuple", data := .seq #[x, y] }) z TI TO .ellipsis := Heap.get?_push_of_some _ hz₅
  refine wpAny_bind (wpAny_setField_rec hz₆ (by simp) fun h₇ hz₇ hs₇ => ?_)
  replace hz₇ : IsZip h₇ z TI TO (rawInt h₅.objs.size) := hz₇
  refine wpAny_setField_rec hz₇ (by simp) fun h₈ hz₈ hs₈ => ?_
  replace hz₈ : IsZip h₈ z TI TO (rawInt h₅.objs.size) := hz₈
  have up : ∀ c o, c ≠ z → h₅.get? c = some o → h₈.get? c = some o := fun c o c1 e => hs₈.extBut _ _ c1 (hs₇.extBut _ _ c1 (Heap.get?_push_of_some _ e))
  have hT₈ : IsPair h₈ h₅.objs.size x y := hs₈.extBut _ _ (Nat.ne_of_gt hzlt) (hs₇.extBut _ _ (Nat.ne_of_gt hzlt) (Heap.get?_push_size _ rfl))
  rw [hsz] at hz₈ hT₈
  refine wpAny_pure ⟨_, rfl, ?_⟩
  show Q (.ref h₅.objs.size) _
  rw [hsz]
  exact hQ h₈ hz₈ (h1₅.at fun o e => up _ o D.i1z e) hT₈ fun c o c1 c2 c3 c4 e => up c o c1 (hk₅ c o c1 c2 c3 c4 e)
theorem Zzg {z TI TO i1 l1 : Addr} {i2 : Value} {k1 : Nat} {xs : Array Value} {Q : Fin → Shared → Prop} (hh : A.handled = none) (i1z : i1 ≠ z) (l1z : l1 ≠ z)
    (hz : IsZip s.heap z TI TO .none) (hTI : IsPair s.heap TI (.ref i1) i2) (h1 : s.heap.IsListIter i1 l1 k1) (hl1 : s.heap.IsList l1 xs) (hend : xs[k1]? = none)
    (hE : ∀ h' e, (∀ c o, c ≠ z → c ≠ i1 → s.heap.get? c = some o → h'.get? c = some o) → (∃ o, h'.get? e = some o ∧ o.cls = .type "StopIteration") → E (.ref e) { s with heap := h' }) :
    wpAny (model prog w) A (Builtin.«zip.__next__» ⟨[.ref z], []⟩) Q E s := by
  show wpAny _ _ (field (.ref z) 2 >>= _) _ _ _
  refine wpAny_bind (wpAny_field hz rfl (x := .bool false) rfl ?_)
  show wpAny _ _ (field (.ref z) 3 >>= _) _ _ _
  refine wpAny_bind (wpAny_field hz rfl (x := .ref TI) rfl ?_)
  refine wpAny_bind (wpAny_seqItems hTI rfl ?_)
  show wpAny _ _ (Builtin.SmallTypes.ownedTupleIsFree (.ref z) >>= _) _ _ _
  refine wpAny_bind ?_
  refine wpAny_bind (wpAny_field hz rfl (x := .none) rfl (wpAny_pure ?_))
  rw [if_pos rfl]
  refine wpAny_bind (wpAny_rule ?_)
  refine wpAny_bind (wpAny_field hz rfl (x := .ref TO) rfl ?_)
  refine wpAny_bind (wpAny_setField_rec hz (by simp) fun h₁ hz₁ hs₁ => ?_)
  replace hz₁ : IsZip h₁ z TI TO .ellipsis := hz₁
  refine wpAny_bind ?_
  rw [List.zipIdx_cons, List.zipIdx_cons, List.zipIdx_nil, List.forIn_cons]
  refine wpAny_bind (wpAny_bind (wpAny_onRaise ?_))
  show wpAny _ _ (Builtin.SmallTypes.nextOf (.ref i1) >>= _) _ _ _
  refine wpAny_bind (wpAny_nextOf_list_end hh (h1.extBut hs₁.extBut i1z) (hl1.extBut hs₁.extBut l1z) hend fun h₂ e hs₂ he => ?_)
  obtain ⟨oe, hoe, hce⟩ := he
  have hz₂ : IsZip h₂ z TI TO .ellipsis := hs₂ _ _ i1z.symm hz₁
  have hez : e ≠ z := fun x => by subst x; rw [hz₂] at hoe; obtain rfl := so hoe; exact absurd hce (Zw (by decide))
  refine wpAny_setField_rec hz₂ (by simp) fun h₃ _ hs₃ => hE h₃ e (fun c o c1 c3 x => hs₃.extBut _ _ c1 (hs₂ _ _ c3 (hs₁.extBut _ _ c1 x))) ⟨oe, hs₃.extBut _ _ hez hoe, hce⟩
theorem Ziw {z TI TO i1 i2 l1 l2 : Addr} {k1 k2 : Nat} {xs ys : Array Value} {x y a b : Value} {Q : Option Value → Shared → Prop} (D : ZipApart z TI TO i1 i2 l1 l2)
    (hz : IsZip s.heap z TI TO .none) (hTI : IsPair s.heap TI (.ref i1) (.ref i2)) (hTO : IsPair s.heap TO a b)
    (h1 : s.heap.IsListIter i1 l1 k1) (h2 : s.heap.IsTupleIter i2 l2 k2) (hl1 : s.heap.IsList l1 xs) (hl2 : s.heap.IsTuple l2 ys) (hx : xs[k1]? = some x) (hy : ys[k2]? = some y)
    (hQ : ∀ h', IsZip h' z TI TO (rawInt s.heap.objs.size) → h'.IsListIter i1 l1 (k1 + 1) → IsPair h' s.heap.objs.size x y →
      (∀ c o, c ≠ z → c ≠ TO → c ≠ i1 → c ≠ i2 → s.heap.get? c = some o → h'.get? c = some o) → Q (some (.ref s.heap.objs.size)) { s with heap := h' }) :
    wpAny (model prog w) A (pyNext (.ref z)) Q E s := by
  have hT : s.TypeIs (.ref z) "zip" := ⟨_, hz, rfl⟩
  exact wpAny_bind (wpAny_attempt (wpAny_callSpecial?_slot (name := Str.ofString "__next__") hT F.slot_zip_next
    (wpAny_call_entry F.slot_zip_next hT F.entry_zip_next (Zvr D hz hTI hTO h1 h2 hl1 hl2 hx hy fun h' a1 a2 a3 a4 => wpAny_pure (hQ h' a1 a2 a3 a4)) (F.args_zip_next_1 _))))
theorem Zjn {z TI TO i1 l1 : Addr} {i2 : Value} {k1 : Nat} {xs : Array Value} {Q : Option Value → Shared → Prop} (hh : A.handled = none) (i1z : i1 ≠ z) (l1z : l1 ≠ z)
    (hz : IsZip s.heap z TI TO .none) (hTI : IsPair s.heap TI (.ref i1) i2) (h1 : s.heap.IsListIter i1 l1 k1) (hl1 : s.heap.IsList l1 xs) (hend : xs[k1]? = none)
    (hQ : ∀ h', (∀ c o, c ≠ z → c ≠ i1 → s.heap.get? c = some o → h'.get? c = some o) → Q none { s with heap := h' }) : wpAny (model prog w) A (pyNext (.ref z)) Q E s := by
  have hT : s.TypeIs (.ref z) "zip" := ⟨_, hz, rfl⟩
  refine wpAny_bind (wpAny_attempt (wpAny_callSpecial?_slot (name := Str.ofString "__next__") hT F.slot_zip_next
    (wpAny_call_entry F.slot_zip_next hT F.entry_zip_next (Zzg hh i1z l1z hz hTI h1 hl1 hend fun h' e hk he => ?_) (F.args_zip_next_1 _))))
  obtain ⟨o, ho, hc⟩ := he
  refine wpAny_bind (wpAny_isInstance (T := "StopIteration") (b := true) ⟨o, ho, hc⟩ isSubtype_stop ?_)
  exact wpAny_pure (hQ _ hk)
end
section
variable {C : Cx} {K : Frag} {G : Pg} {kf : Addr} {S : Spec} {n : Nat} {f : FI} {A : Around} {L : Addr} {outer : List Env} {st : Bool} {d d' : Nat} {lo lo' : Loc} {σ σ₁ σ₀ : Store} {s s₁ s₀ : Shared} {E : Value → Shared → Prop} {Q : QS} {X : XS}
inductive ZipI (C : Cx) (f : FI) (A : Around) (L : Addr) (outer : List Env) (st : Bool) (d : Nat) (σ₀ : Store) (s₀ : Shared) (Q : QS) (s₁ : Shared) (N a : Addr) (items : Array Value) (j : Nat) (s' : Shared) : Prop
  | zero (e : j = 2) (h : s' = s₁)
  | one (e : j = 1) (lo₂ : Loc) (σ' : Store) (R' : Run C f A L outer st d σ₀ s₀ lo₂ σ' s') (q : Q .next [] σ') (hz : IsZip s'.heap (N + 4) (N + 2) (N + 3) .none) (hT : IsPair s'.heap (N + 2) (.ref N) (.ref (N + 1))) (hi : s'.heap.IsListIter N a 1) (hl : s'.heap.IsList a items)
theorem Zxz {ts : List (Nat × Pos)} {k : Nat} {tp : Pos} {body : List Sm} {a : Addr} {p₁ p₂ : PV} {v : Value} {lo₁ : Loc} (hbody : SSs C G kf S n body) (hd : d ≤ n) (okg : okT f.scope (.many ts k tp) = true) (okb : okSs f.scope body = true) (B : Bs C outer L σ₀ s₀) (R : Run C f A L outer st d σ₀ s₀ lo σ s) (hst : st = true)
    (ea : σ a = some (.list [p₁])) (r : VRel s.heap (.tup [p₂]) v) (hb : (Tgt.many ts k tp).bind (.tup [p₁, p₂]) lo = some lo₁)
    (w : Za G S st d body lo₁ (σ.del a) (Zsa Q) X) :
    wpAny C.M A (call (.type "zip") [.ref a, v]) (fun xv s₁ => wpAny C.M A (pyIter xv) (fun it s₂ => codeAny C.M A (.forLoop (Tgt.many ts k tp).to it (Sm.tos body) [] (f.env L)) (Zdh C kf f A L outer st d σ₀ s₀ Q X) s₂) E s₁) E s := by
  have hh := R.cur.hand hst
  obtain ⟨_, items, m, he, hr⟩ := R.cur.inv.sto a _ ea
  have he' : s.heap.get? a = some { cls := .type "list", data := .seq items m } := he
  have hT : s.heap.IsList a items := he.isList
  have hsz : items.size = 1 := by rw [← Array.length_toList]; exact hr.length
  obtain ⟨x, hx, rx⟩ := hr.get (i := 0) (p := p₁) rfl
  have hx : items[0]? = some x := by rw [← Array.getElem?_toList]; exact hx
  have hx1 : items[1]? = none := by rw [Array.getElem?_eq_none_iff]; lia
  obtain ⟨b, ob, mb, bitems, hbe, hbc, hbd, hbr⟩ := Zdv r
  have hTb : s.heap.IsTuple b bitems.toArray := ⟨_, hbe, hbc, mb, hbd⟩
  obtain ⟨y, hy, ry⟩ := hbr.get (i := 0) (p := p₂) rfl
  have hy : bitems.toArray[0]? = some y := by simpa using hy
  have ha : a < s.heap.objs.size := Heap.lt_size he'
  have hbl : b < s.heap.objs.size := Heap.lt_size hbe
  obtain ⟨hL, oL, esL, nL, eL, cL, dL⟩ := R.cur.frame
  have hLl : L < s.heap.objs.size := Heap.lt_size eL
  have haL : a ≠ L := fun z => by subst z; rw [eL] at he'; obtain rfl := so he'; contradiction
  generalize hN : s.heap.objs.size = N at *
  have nw : ∀ j, s.heap.get? (N + j) = none := fun j => Zbi (by rw [hN]; exact Nat.le_add_right _ _)
  generalize hR : Zdh C kf f A L outer st d σ₀ s₀ Q X = R0
  refine Zyh hT hTb fun h₁ hz hTI hTO hi1 hi2 hk => ?_
  rw [hN] at hz hTI hTO hi1 hi2
  rw [hN]
  refine wpAny_pyIter_zip hz ?_
  have D : ZipApart (N + 4) (N + 2) (N + 3) N (N + 1) a b := ktu_apart N a b ha hbl
  have Rd := R.del a
  refine codeAny_forLoop_any (ZipI C f A L outer st d σ₀ s₀ Q { s with heap := h₁ } N a items) ?_ 2 (.zero rfl rfl)
  rintro j s' (⟨rfl, rfl⟩ | ⟨rfl, lo₂, σ', R', q, hz', hTI', hi1', hl'⟩)
  · refine Ziw (s := { s with heap := h₁ }) D hz hTI hTO hi1 hi2 (hT.at fun o e => hk _ o e) (hTb.at fun o e => hk _ o e) hx hy fun h₂ hz₂ hi1₂ hP₂ hk₂ => ?_
    have hz₂' : IsZip h₂ (N + 4) (N + 2) (N + 3) (rawInt (Shared.heap { s with heap := h₁ }).objs.size) := hz₂
    refine wpAny_letOwnedTupleGo_zip hz₂' fun h₃ hz₃ hs₃ => ?_
    have lt : ∀ c o, s.heap.get? c = some o → c < N := fun c o e => by rw [← hN]; exact Heap.lt_size e
    have hk₃ : ∀ c o, s.heap.get? c = some o → h₃.get? c = some o := fun c o e => by
      have l := lt c o e
      have e2 := hk₂ c o (ktu_ne 4 l) (ktu_ne 3 l) (Nat.ne_of_lt l) (ktu_ne 1 l) (hk c o e)
      exact (hs₃.2 c (ktu_ne 4 l)).trans e2
    have R3 : Run C f A L outer st d σ₀ s₀ lo (σ.del a) { s with heap := h₃ } := Rd.next (Rd.cur.grown (t := s.toks) (dr := s.drawn) hk₃)
    have hPn : (Shared.heap { s with heap := h₁ }).objs.size ≠ N + 4 := by
      have : N + 4 < h₁.objs.size := Heap.lt_size hz
      exact Nat.ne_of_gt this
    have hP₃ : h₃.get? h₁.objs.size = some { cls := .type "tuple", data := .seq #[x, y] } := (hs₃.2 _ hPn).trans hP₂
    have rT : VRel h₃ (.tup [p₁, p₂]) (.ref h₁.objs.size) := .tup (items := [x, y]) hP₃ rfl rfl (.cons (rx.mono fun c o e _ => hk₃ c o e) (.cons (ry.mono fun c o e _ => hk₃ c o e) .nil))
    refine Zhq B R3 (fun _ => hst) okg rT hb fun h₄ tk₄ k₄ R4 o₄ => ?_
    have up : ∀ c o, c ≠ L → h₃.get? c = some o → h₄.get? c = some o := o₄
    obtain ⟨B', R4'⟩ := R4.hid B
    have untr : ∀ j, (σ.del a) (N + j) = none := fun j => Rd.cur.inv.freshAt (nw j)
    have neL : ∀ j, N + j ≠ L := fun j => Nat.ne_of_gt (Nat.lt_of_lt_of_le hLl (Nat.le_add_right N j))
    have hbig : N + 4 < (Shared.heap { s with heap := h₁ }).objs.size := Heap.lt_size hz
    have fresh : ∀ j, j ≤ 4 → (Shared.heap { s with heap := h₁ }).objs.size ≠ N + j := fun j hj => Nat.ne_of_gt (Nat.lt_of_le_of_lt (Nat.add_le_add_left hj N) hbig)
    have sep : ∀ i j : Nat, i ≠ j → N + i ≠ N + j := fun i j h e => h (Nat.add_left_cancel e)
    refine wpAny_mono (hbody f A L outer st d lo₁ _ _ _ _ _ X hd okb B' R4' w) (fun fl s₅ h => ?_) fun e s₅ h => ?_
    · obtain ⟨g', lo₂, σ₂, q, r, R5'⟩ := h
      have R5 := R4.join B R5'
      cases r with
      | next =>
        have kp : ∀ c o, c ≠ L → (σ.del a) c = none → h₃.get? c = some o → o.cls ≠ .type "frame" → s₅.heap.get? c = some o := fun c o ne un e nf => by
          rcases R5'.nx.keep c o (Zbb (up c o ne e) ne) un with k | ⟨k, _⟩
          · exact k
          · exact absurd k nf
        refine ⟨1, by decide, .one rfl lo₂ σ₂ R5 q ?_ ?_ ?_ ?_⟩
        · exact kp _ _ (neL 4) (untr 4) hz₃ (by exact Zw (by decide))
        · exact kp _ _ (neL 2) (untr 2) ((hs₃.2 _ (sep 2 4 (by decide))).trans (hk₂ _ _ (sep 2 4 (by decide)) (sep 2 3 (by decide)) (sep 2 0 (by decide)) (sep 2 1 (by decide)) hTI)) (by exact Zw (by decide))
        · obtain ⟨oi, e1, e2, e3⟩ := hi1₂
          refine ⟨oi, kp _ _ (neL 0) (untr 0) ((hs₃.2 _ (sep 0 4 (by decide))).trans e1) (by rw [e2]; exact Zw (by decide)), e2, e3⟩
        · refine ⟨_, kp a _ haL (by unfold Store.del; rw [if_pos rfl]) (hk₃ a _ he') (by exact Zw (by decide)), rfl, m, rfl⟩
      | ret r => subst hR; exact ⟨_, _, _, q, .ret r, R5⟩
    · subst hR; exact (ErF.join B R4 h).noted B fun x s' h => h.back B fun x s' h => h.weak
  · refine Zjn hh (ktu_ne 4 (Nat.lt_of_lt_of_le (Nat.lt_succ_self N) (Nat.le_refl _)) |> fun _ => Nat.ne_of_lt (Nat.lt_add_of_pos_right (by decide))) (ktu_ne 4 ha) hz' hTI' hi1' hl' hx1 fun h₂ hk₂ => wpAny_execs_nil ?_
    subst hR
    refine ⟨_, _, _, q, .next, (R'.chg B (h' := h₂) fun c o e => ?_).loc (lo' := []) fun t p e => by contradiction⟩
    by_cases c1 : c = N + 4
    · subst c1
      rw [hz'] at e; obtain rfl := so e
      exact .inr (.inr ⟨R.freshB (nw 4), ⟨_, rfl⟩, by exact Zw (by decide)⟩)
    · by_cases c2 : c = N
      · subst c2
        obtain ⟨oi, e1, e2, e3⟩ := hi1'
        rw [e1] at e; obtain rfl := so e
        exact .inr (.inr ⟨R.freshB (nw 0), ⟨_, e3⟩, by rw [e2]; exact Zw (by decide)⟩)
      · exact .inl (hk₂ c o c1 c2 e)
theorem Zwk (O : Ok C K G kf) {g : Tgt} {e : Ex} {body : List Sm} {p : Pos} (hbody : SSs C G kf S n body) (he : SE C G kf S n e) : SS C G kf S n (.for_ g (.ex e) body p) := fun f A L outer st d lo σ s σ₀ s₀ Q X hd ok B R w => by
  obtain ⟨ok, ok3⟩ := Bool.and_eq_true_iff.mp ok
  obtain ⟨ok1, ok2⟩ := Bool.and_eq_true_iff.mp ok
  obtain ⟨hst, w⟩ := w
  refine wpAny_For (wpAny_mono (he f A L outer st d lo σ s _ (Zo X lo) hd ok3 R.cur w) (fun v s₁ hv => ?_) fun _ _ h => ErF.ofE B R h) (Zop e _)
  obtain ⟨pv, σ₁, q, N, r⟩ := hv
  have R1 := R.next N
  rcases q with ⟨vs, rfl, q⟩ | ⟨a, vs, rfl, ha, q⟩
  · exact Zrn hbody hd ok1 ok2 B R1 hst r q.2
  · obtain rfl := Zau r
    exact Zug hbody hd ok1 ok2 B R1 hst q.1 ha q.2
theorem Zqz {n0 : Int} {vs : List PV} (h : Zdw n0 = some vs) : -1000 ≤ n0 ∧ n0 ≤ 1000 ∧ vs = (List.range n0.toNat).map fun (i : Nat) => PV.int i := by
  unfold Zdw at h
  split at h
  · rename_i hn; obtain rfl := so h; exact ⟨hn.1, hn.2, rfl⟩
  · contradiction
theorem Zqy {a b c : Int} {vs : List PV} (h : Zcv a b c = some vs) : b = -1 ∧ c = -1 ∧ -1 ≤ a ∧ a ≤ 1000 ∧ vs = (List.range (a + 1).toNat).map fun (i : Nat) => PV.int (a - i) := by
  unfold Zcv at h
  split at h
  · rename_i hn; obtain rfl := so h; exact ⟨hn.1, hn.2.1, hn.2.2.1, hn.2.2.2, rfl⟩
  · contradiction
theorem Zoj {g : Tgt} {body : List Sm} {vs : List PV} {n0 : Int} {tk : Tok} (hbody : SSs C G kf S n body) (hd : d ≤ n) (ok1 : okT f.scope g = true) (ok2 : okSs f.scope body = true) (hg : g.isMany = false) (B : Bs C outer L σ₀ s₀) (R : Run C f A L outer st d σ₀ s₀ lo σ s) (hst : st = true) (hr : Zdw n0 = some vs) (w : Zax g (Za G S st d body) vs lo σ Q X) :
    wpAny C.M A (call (.type "range") [.int n0 tk]) (fun xv s₁ => wpAny C.M A (pyIter xv) (fun it s₂ => codeAny C.M A (.forLoop g.to it (Sm.tos body) [] (f.env L)) (Zdh C kf f A L outer st d σ₀ s₀ Q X) s₂) E s₁) E s := by
  obtain ⟨h1, h2, rfl⟩ := Zqz hr
  refine call_range_1 ?_
  have R2 := R.next (Nx.pushed R.cur.inv { cls := .type "range", data := .fields #[.int 0 s.toks, .int n0 tk, .int 1 (s.toks + 1)] } (t := s.toks + 1 + 1) (dr := s.drawn))
  refine Zjh hbody hd ok1 ok2 hg B R2 hst (Heap.get?_push_size _ rfl) (small_one (by decide) (by decide) (by lia) (by lia)) ?_ (fun i hi => ?_) w
  · rw [rangeSize_one, List.length_map, List.length_range]
    split <;> lia
  · rw [List.length_map, List.length_range] at hi
    rw [List.getElem?_map, List.getElem?_range hi]
    simp
theorem Zoi {g : Tgt} {body : List Sm} {vs : List PV} {a b c : Int} {t1 t2 t3 : Tok} (hbody : SSs C G kf S n body) (hd : d ≤ n) (ok1 : okT f.scope g = true) (ok2 : okSs f.scope body = true) (hg : g.isMany = false) (B : Bs C outer L σ₀ s₀) (R : Run C f A L outer st d σ₀ s₀ lo σ s) (hst : st = true) (hr : Zcv a b c = some vs) (w : Zax g (Za G S st d body) vs lo σ Q X) :
    wpAny C.M A (call (.type "range") [.int a t1, .int b t2, .int c t3]) (fun xv s₁ => wpAny C.M A (pyIter xv) (fun it s₂ => codeAny C.M A (.forLoop g.to it (Sm.tos body) [] (f.env L)) (Zdh C kf f A L outer st d σ₀ s₀ Q X) s₂) E s₁) E s := by
  obtain ⟨rfl, rfl, h1, h2, rfl⟩ := Zqy hr
  refine call_range_3 (by decide) ?_ (Or.inl (PyProof.noPylong_small (by decide)))
  have R2 := R.next (Nx.pushed R.cur.inv { cls := .type "range", data := .fields #[.int a t1, .int (-1) t2, .int (-1) t3] } (t := s.toks) (dr := s.drawn))
  refine Zjh hbody hd ok1 ok2 hg B R2 hst (Heap.get?_push_size _ rfl) (Zog h1 h2) ?_ (fun i hi => ?_) w
  · rw [Zev h1, List.length_map, List.length_range]
    lia
  · rw [List.length_map, List.length_range] at hi
    rw [List.getElem?_map, List.getElem?_range hi]
    simp only [Option.map_some, Option.some.injEq, PV.int.injEq]
    lia
theorem Zwj (O : Ok C K G kf) {g : Tgt} {es : List Ex} {np p2 : Pos} {body : List Sm} {p : Pos} (hbody : SSs C G kf S n body) (hs : SEs C G kf S n es) : SS C G kf S n (.for_ g (.rng es np p2) body p) := fun f A L outer st d lo σ s σ₀ s₀ Q X hd ok B R w => by
  obtain ⟨ok, ok3⟩ := Bool.and_eq_true_iff.mp ok
  obtain ⟨ok1, ok2⟩ := Bool.and_eq_true_iff.mp ok
  obtain ⟨hst, w⟩ := w
  obtain ⟨ok3, k4⟩ := Bool.and_eq_true_iff.mp ok3
  obtain ⟨ok3, k3⟩ := Bool.and_eq_true_iff.mp ok3
  obtain ⟨k1, k2⟩ := Bool.and_eq_true_iff.mp ok3
  refine wpAny_For (wpAny_Call_ofName (Zea O R.cur k1 (O.bt _ (by decide)) bf_range.1 bf_range.2 ?_)) (fun _ => rfl)
  cases es with
  | nil => contradiction
  | cons e es =>
  refine PyProof.Rows.callWith_type1 (wpAny_mono (hs f A L outer st d lo σ s p2 _ (Zo X lo) hd k2 R.cur w) (fun vs s₁ hv => ?_) fun _ _ h => ErF.ofE B R h) (Zai _ _ _) (Zhd _ _ _)
  obtain ⟨ps, σ₁, ⟨us, hr, q⟩, N, r⟩ := hv
  have R1 := R.next N
  have hg : g.isMany = false := by simpa using k4
  cases hr with
  | one n0 e hr =>
    subst e
    obtain ⟨_, _, r1, u1⟩ := Zbg r
    obtain rfl := Zcd u1
    obtain ⟨_, rfl⟩ := Zap r1
    exact Zoj hbody hd ok1 ok2 hg B R1 hst hr q.2
  | three a b c e hr =>
    subst e
    obtain ⟨_, _, r1, u1⟩ := Zbg r
    obtain ⟨_, _, r2, u2⟩ := Zbg u1
    obtain ⟨_, _, r3, u3⟩ := Zbg u2
    obtain rfl := Zcd u3
    obtain ⟨_, rfl⟩ := Zap r1
    obtain ⟨_, rfl⟩ := Zap r2
    obtain ⟨_, rfl⟩ := Zap r3
    exact Zoi hbody hd ok1 ok2 hg B R1 hst hr q.2
theorem Zwi (O : Ok C K G kf) {g : Tgt} {e : Ex} {np p2 : Pos} {body : List Sm} {p : Pos} (hbody : SSs C G kf S n body) (he : SE C G kf S n e) : SS C G kf S n (.for_ g (.enum e np p2) body p) := fun f A L outer st d lo σ s σ₀ s₀ Q X hd ok B R w => by
  obtain ⟨ok, ok3⟩ := Bool.and_eq_true_iff.mp ok
  obtain ⟨ok1, ok2⟩ := Bool.and_eq_true_iff.mp ok
  obtain ⟨hst, w⟩ := w
  obtain ⟨ok3, k3⟩ := Bool.and_eq_true_iff.mp ok3
  obtain ⟨k1, k2⟩ := Bool.and_eq_true_iff.mp ok3
  refine wpAny_For (wpAny_Call_ofName (Zea O R.cur k1 (O.bt _ (by decide)) bf_enumerate.1 bf_enumerate.2 ?_)) (fun _ => rfl)
  rw [Zai e []]
  refine PySem.callWith_type rfl (evalArgs_plain (spliced_cons (wpAny_mono (he f A L outer st d lo σ s _ (Zo X lo) hd k2 R.cur w) (fun v s₁ hv => spliced_nil ?_) fun _ _ h => ErF.ofE B R h)))
  obtain ⟨pv, σ₁, ⟨vs, rfl, q⟩, N, r⟩ := hv
  exact Zuh hbody hd ok1 ok2 k3 B (R.next N) hst r q.2
theorem Zwh (O : Ok C K G kf) {g : Tgt} {a b : Ex} {np p2 : Pos} {body : List Sm} {p : Pos} (hbody : SSs C G kf S n body) (ha : SE C G kf S n a) (hb : SE C G kf S n b) : SS C G kf S n (.for_ g (.zip a b np p2) body p) := fun f A L outer st d lo σ s σ₀ s₀ Q X hd ok B R w => by
  obtain ⟨ok, ok3⟩ := Bool.and_eq_true_iff.mp ok
  obtain ⟨ok1, ok2⟩ := Bool.and_eq_true_iff.mp ok
  obtain ⟨hst, w⟩ := w
  obtain ⟨ok3, k4⟩ := Bool.and_eq_true_iff.mp ok3
  obtain ⟨ok3, k3⟩ := Bool.and_eq_true_iff.mp ok3
  obtain ⟨k1, k2⟩ := Bool.and_eq_true_iff.mp ok3
  refine wpAny_For (wpAny_Call_ofName (Zea O R.cur k1 (O.bt _ (by decide)) bf_zip.1 bf_zip.2 ?_)) (fun _ => rfl)
  rw [Zai a [b.to], Zai b []]
  refine PySem.callWith_type rfl (evalArgs_plain (spliced_cons (wpAny_mono (ha f A L outer st d lo σ s _ (Zo X lo) hd k2 R.cur w) (fun v s₁ hv => ?_) fun _ _ h => ErF.ofE B R h)))
  obtain ⟨pv, σ₁, q, N, r⟩ := hv
  have R1 := R.next N
  refine spliced_cons (wpAny_mono (hb f A L outer st d lo σ₁ s₁ _ (Zo X lo) hd k3 R1.cur q) (fun v2 s₂ hv => spliced_nil ?_) fun _ _ h => ErF.ofE B R1 h)
  obtain ⟨pw, σ₂, ⟨o, v₁, w₁, lo₁, rfl, rfl, ho, hb2, q2⟩, N2, r2⟩ := hv
  cases g with
  | one _ _ => contradiction
  | many ts k tp =>
  obtain rfl := Zau r
  exact Zxz hbody hd ok1 ok2 B (R1.next N2) hst ho r2 hb2 q2
end
section
variable {C : Cx} {K : Frag} {G : Pg} {kf : Addr} {S : Spec} {n : Nat} {f : FI} {A A' : Around} {L : Addr} {outer : List Env} {st st' : Bool} {d d' : Nat} {lo lo' : Loc} {σ σ₁ σ₀ σ' : Store} {s s₁ s₀ s' : Shared} {E : Value → Shared → Prop} {Q : QS} {X : XS}
theorem Run.mark (R : Run C f A L outer st d σ₀ s₀ lo σ s) (h : Option Value) : Run C f (A.mark h) L outer false d σ₀ s₀ lo σ s :=
  ⟨R.nx, R.cur.bud, fun z => (by contradiction), R.cur.frames, R.cur.inv, R.cur.fm, R.cur.kind⟩
theorem Run.remark {lo₀ : Loc} {σ₁ : Store} {s₁ : Shared} {σ₂ : Store} {s₂ : Shared} (R₀ : Run C f A L outer st d σ₂ s₂ lo₀ σ₁ s₁) (R : Run C f A' L outer st' d σ₀ s₀ lo σ s) : Run C f A L outer st d σ₀ s₀ lo σ s :=
  ⟨R.nx, R₀.cur.bud, R₀.cur.hand, R₀.cur.frames, R.cur.inv, R.cur.fm, R.cur.kind⟩
theorem Run.keepB (R : Run C f A L outer st d σ₀ s₀ lo σ s) (R' : Run C f A' L outer st' d σ (Mine.hid s L) lo' σ' s') {b : Addr} {o : Obj} (e : s.heap.get? b = some o) (ne : b ≠ L) (un : σ b = none) : SameF o (s'.heap.get? b) := R'.nx.keep b o (Zbb e ne) un
theorem Run.tupB (R : Run C f A L outer st d σ₀ s₀ lo σ s) (R' : Run C f A' L outer st' d σ (Mine.hid s L) lo' σ' s') : TupKeep s.heap s'.heap := fun a o e c => by
  obtain ⟨_, oL, _, _, eL, cL, _⟩ := R.cur.frame
  have ne : a ≠ L := fun z => by subst z; rw [eL] at e; obtain rfl := so e; rw [cL] at c; contradiction
  rcases R.keepB R' e ne (R.cur.inv.tupNone e c) with k | ⟨k, _⟩
  · exact k
  · rw [c] at k; contradiction
theorem Run.noneB (R : Run C f A L outer st d σ₀ s₀ lo σ s) (R' : Run C f A' L outer st' d σ (Mine.hid s L) lo' σ' s') {b : Addr} {o : Obj} (e : s.heap.get? b = some o) (ne : b ≠ L) (un : σ b = none) : σ' b = none := by
  cases z : σ' b with
  | none => rfl
  | some po =>
    rcases R'.nx.fresh b (by rw [z]; simp) with k | k
    · exact absurd un k
    · rw [Zbb e ne] at k; contradiction
theorem ExcT.held {tr : Bool} {x : Value} {i : Int} (R : Run C f A L outer st d σ₀ s₀ lo σ s) (R' : Run C f A' L outer st' d σ (Mine.hid s L) lo' σ' s') (X : ExcT kf tr σ s₀.heap s.heap x i) : ExcT kf tr σ' s₀.heap s'.heap x i := by
  obtain ⟨_, oL, _, _, eL, cL, dL⟩ := R.cur.frame
  obtain ⟨e, vs, rfl, ⟨dx, oe, ents, n, tk, a2, a3, a4, a5, a6, a7, a8, au, a9, a10⟩, k⟩ := X
  have I := R.cur.inv
  have sameF : ∀ {b o}, s.heap.get? b = some o → o.cls ≠ .type "frame" → σ b = none → s'.heap.get? b = some o := fun {b o} e c un => by
    have ne : b ≠ L := fun z => by subst z; rw [eL] at e; obtain rfl := so e; exact c cL
    rcases R.keepB R' e ne un with k | ⟨k, _⟩
    · exact k
    · exact absurd k c
  have e1 := sameF a3 (by rw [a4]; simp) (I.fieldsNone a3 a6)
  have e2 := sameF a9 (by exact Zw (by decide)) au
  have u2 : σ' dx = none := R.noneB R' a9 (fun z => by subst z; rw [eL] at a9; obtain rfl := so a9; exact absurd cL (Zw (by decide))) au
  refine ⟨e, vs, rfl, ⟨dx, oe, ents, n, tk, a2, e1, a4, a5, a6, a7, a8, u2, e2, a10⟩, ?_⟩
  rcases k with k | ⟨T, ts, k, ⟨oT, b1, b2, b3, b4, b5, b6⟩⟩
  · exact .inl k
  · have neT : T ≠ L := fun z => by subst z; rw [eL] at b3; obtain rfl := so b3; rw [dL] at b4; contradiction
    obtain ⟨oT', f1, f2, f3, f4⟩ := (R.keepB R' b3 neT (I.fieldsNone b3 b4)).some
    exact .inr ⟨T, ts, k, ⟨oT', b1, b2, f1, f4.trans b4, b5, by rw [f2]; exact b6⟩⟩
theorem Zwd {c : Ex} {body : List Sm} {p : Pos} (hc : ST C G kf S n c) (hb : SSs C G kf S n body) : SS C G kf S n (.whil c body p) := fun f A L outer st d lo σ s σ₀ s₀ Q X hd ok B R w => by
  obtain ⟨ok1, ok2⟩ := Bool.and_eq_true_iff.mp ok
  obtain ⟨m, w⟩ := w
  refine wpAny_While (codeAny_whileLoop (fun k s' => ∃ lo σ, Run C f A L outer st d σ₀ s₀ lo σ s' ∧ Zbt (wpE G S st d c) (Za G S st d body) k lo σ Q X) ?_ m ⟨lo, σ, R, w⟩)
  rintro k s' ⟨lo, σ, R, w⟩
  cases k with
  | zero => exact w.elim
  | succ k =>
    have err : ∀ {x s''}, ErF C kf f A L outer st d σ₀ s₀ X false x s'' → notedBy C.M A (f.env L) (fun e s' => cameBackBy C.M A (f.env L) (ErF C kf f A L outer st d σ₀ s₀ X false) e s') x s'' := fun h => h.noted B fun x s' h => h.back B fun x s' h => h.weak
    refine wpAny_mono (hc f A L outer st d lo σ s' (whK (Za G S st d body) (Zbt (wpE G S st d c) (Za G S st d body) k) lo Q X) (Zo X lo) hd ok1 R.cur w) (fun b s₁ hv => ?_) fun x s'' h => err (ErF.ofE B R h)
    obtain ⟨σ₁, q, N⟩ := hv
    have R1 := R.next N
    cases b with
    | true =>
      refine wpAny_mono (hb f A L outer st d lo σ₁ s₁ σ₀ s₀ _ X hd ok2 B R1 q) (fun fl s₂ h => ?_) fun x s'' h => err h
      obtain ⟨g, lo₂, σ₂, q2, r, R2⟩ := h
      cases r with
      | next => exact ⟨k, Nat.lt_succ_self k, lo₂, σ₂, R2, q2⟩
      | ret r => exact ⟨_, _, _, q2, .ret r, R2⟩
    | false => exact wpAny_execs_nil ⟨_, _, _, q, .next, R1⟩
theorem FlRel.mono {h h' : Heap} (k : TupKeep h h') {g : Fl} {fl : Flow} (r : FlRel h g fl) : FlRel h' g fl := by
  cases r with
  | next => exact .next
  | ret r => exact .ret (r.mono k)
theorem Zwe {body fin : List Sm} {p : Pos} (hb : SSs C G kf S n body) (hf : SSs C G kf S n fin) : SS C G kf S n (.tryF body fin p) := fun f A L outer st d lo σ s σ₀ s₀ Q X hd ok B R w => by
  obtain ⟨ok, ok3⟩ := Bool.and_eq_true_iff.mp ok
  obtain ⟨ok1, ok2⟩ := Bool.and_eq_true_iff.mp ok
  show wpAny _ _ (exec (.Try (Sm.tos body) [] [] (Sm.tos fin) p) (f.env L)) _ _ _
  cases fin with
  | nil => contradiction
  | cons f0 fs =>
  have plain : ∀ g fl lo₁ σ₁ s₁, FlRel s₁.heap g fl → Run C f A L outer st d σ₀ s₀ lo₁ σ₁ s₁ → Za G S st d (f0 :: fs) lo₁ σ₁ (Zyx g Q) noX →
      wpAny C.M A (execs (Sm.tos (f0 :: fs)) (f.env L)) (fun g s' => match g with | .next => OkF C f A L outer st d σ₀ s₀ Q fl s' | g => OkF C f A L outer st d σ₀ s₀ Q g s') (notedBy C.M A (f.env L) (cameBackBy C.M A (f.env L) (ErF C kf f A L outer st d σ₀ s₀ X false))) s₁ := by
    intro g fl lo₁ σ₁ s₁ r R1 w
    obtain ⟨B', R1'⟩ := R1.hid B
    refine wpAny_mono (hf f A L outer st d lo₁ σ₁ s₁ _ _ _ _ hd ok2 B' R1' w) (fun fl' s₂ h => ?_) fun x s₂ h => ?_
    · obtain ⟨g', lo₂, σ₂, q, r', R2'⟩ := h
      cases r' with
      | next => exact ⟨g, lo₂, σ₂, q, r.mono (R1.tupB R2'), R1.join B R2'⟩
      | ret _ => exact q.elim
    · obtain ⟨i, lo₂, σ₂, q, _⟩ := h
      exact q.elim
  refine wpAny_Try_finally (wpAny_mono (hb f A L outer st d lo σ s σ₀ s₀ _ _ hd ok1 B R w) (fun fl s₁ h => ?_) fun x s₁ h => ?_)
  · obtain ⟨g, lo₁, σ₁, q, r, R1⟩ := h
    cases r with
    | next => exact wpAny_execs_nil (plain _ _ lo₁ σ₁ s₁ .next R1 q)
    | ret r => exact plain _ _ lo₁ σ₁ s₁ (.ret r) R1 q
  · obtain ⟨i, lo₁, σ₁, q, R1, y⟩ := h
    refine Zhu B R1 y fun h₂ R2 y2 => ?_
    have nb : x ≠ byPass := by
      obtain ⟨e, vs, rfl, _⟩ := y2
      exact ref_ne_byPass e
    refine ⟨nb, Zhu (s := { s₁ with heap := h₂ }) B R2 y2 fun h₃ R3 y3 => ?_⟩
    refine Zdr (s := { s₁ with heap := h₃ }) B R3 y3 fun h₄ R4 y4 => ?_
    obtain ⟨B', R4'⟩ := R4.hid B
    refine wpAny_mono (hf f (A.mark (some x)) L outer false d lo₁ σ₁ _ _ _ _ _ hd ok2 B' (R4'.mark (some x)) q) (fun fl' s₅ h => ?_) fun z s₅ h => ?_
    · obtain ⟨g', lo₂, σ₂, q, r', R5'⟩ := h
      cases r' with
      | next =>
        have R5 := R4.join B (R4.remark R5')
        exact Zacq B R5 (ExcT.held R4 R5' y4) fun h₆ R6 y6 => ⟨i, lo₂, σ₂, q, R6, y6.weak⟩
      | ret _ => exact q.elim
    · obtain ⟨i, lo₂, σ₂, q, _⟩ := h
      exact q.elim
end
section
variable {prog : Program} {w : World} {A : Around} {E : Value → Shared → Prop} {s : Shared} {K : Frag} {x c : Addr} {ox : Obj} {od : Option Obj} {name : Str}
theorem Zzj {expr : Bool} {v : Value} {Q : Value → Shared → Prop} (X : K.In s.heap) (I : InstAt s.heap x ox c od) (hg : findIn K (.ref c) "__getattribute__" = some (some (.builtin "BaseException.__getattribute__"))) (hn : findIn K (.ref c) "__getattr__" = some none) (hm : mroIn K c (.type "BaseException") = some true)
    (hf : findObj K c od name = some (.value v)) (hh : handedIn v = true) (h : Q v { s with toks := s.toks + 1 }) : wpAny (model prog w) A (getAttr (.ref x) name expr) Q E s := by
  obtain ⟨hp, g, d, t, os⟩ := s
  have L0 := I.type (M := model prog w)
  have L1 := looks_findIn (M := model prog w) X hg
  have L2 := looks_findIn (M := model prog w) X hn
  have L3 := looks_find (M := model prog w) X I hf
  have hk : builtinKind "BaseException.__getattribute__" = some .slot := by decide +kernel
  have hsplit : splitId "BaseException.__getattribute__" = some ("BaseException", "__getattribute__") := by decide +kernel
  have hne : (Value.builtin "BaseException.__getattribute__" == Value.builtin "object.__getattribute__") = false := by decide +kernel
  have sub : Looks (model prog w) hp (isInstance (.ref x) (.type "BaseException")) true := L0.andThen (looks_mroIn X hm)
  have bnd : ∀ o, bindSpecial (.builtin "BaseException.__getattribute__") o = pure (.builtin "BaseException.__getattribute__", [o]) := PySem.F.excAttr_ValueError.ga.bind
  unfold getAttr getAttrBy
  refine wpAny_bind (wpAny_mkText (wpAny_holding (wpAny_bind (L0.at (wpAny_bind (L1.at ?_))))))
  dsimp only
  rw [hne, Bool.and_false, if_neg (by decide)]
  unfold getAttrByItsOwn
  refine wpAny_bind ?_
  show wpAny _ _ (typeLookup (.ref c) "__getattr__") _ _ _
  refine L2.at ?_
  have hx0 : (expr && onTheHeap (Value.builtin "BaseException.__getattribute__")) = false := by cases expr <;> rfl
  unfold callGetattribute
  rw [hx0, if_neg (by decide)]
  unfold boundAndCalled
  rw [bnd]
  refine wpAny_bind (wpAny_attempt (wpAny_holding (wpAny_bind (wpAny_pure (wpAny_call ?_)))))
  refine codeAny_call_builtin PySem.F.excAttr_ValueError.ga.plain PySem.F.entry_bexc_ga (@check_slot (model prog w) _ _ _ "BaseException.__getattribute__" "BaseException" "__getattribute__" (.ref x) [.str name t] [] _ hk hsplit sub (PySem.F.args_bexc_ga (.ref x) (.str name t)) ?_)
  refine wpAny_bind (wpAny_pure (wpAny_bind (wpAny_pure (wpAny_bind (L0.at (wpAny_bind (L3.at ?_)))))))
  refine wpAny_pure ?_
  show wpAny _ _ (handedOut v) _ _ _
  rw [handedOut_of hh]
  exact wpAny_pure h
end
theorem Zlf (o : Obj) {es : Array DictEntry} {ep : Nat} (hd : o.data = .dict es ep) (name : Str) : (Obj.dropName name o).cls = o.cls ∧ (Obj.dropName name o).isFreed = false := by
  obtain ⟨c, d, dt, sl⟩ := o
  subst hd
  cases hi : es.findIdx? (·.key.isStr name) with
  | some i => simp only [Obj.dropName_eq, Obj.dropNameByArray, hi]; constructor <;> first | rfl | trivial
  | none => simp only [Obj.dropName_eq, Obj.dropNameByArray, hi]; constructor <;> first | rfl | trivial
theorem Zaaz {M : Model} {A : Around} {E : Value → Shared → Prop} {s : Shared} {a : Addr} {m} {name : Str} {o : Obj} {Q : Bool → Shared → Prop} (hn : s.heap.Ns a m) (ho : s.heap.get? a = some o)
    (hQ : ∀ h' m' o', h'.Ns a m' → Heap.SameBut a s.heap h' → h'.get? a = some o' → o'.cls = o.cls → Q (m name).isSome { s with heap := h' }) : wpAny M A (nsDel a name) Q E s := by
  obtain ⟨o1, es, ep, ho1, hd, hk, hm⟩ := id hn
  rw [ho] at ho1; obtain rfl := so ho1
  have hany : es.any (·.refKey) = false := by
    rw [Array.any_eq_false']; intro e he; obtain ⟨n, t, h⟩ := hk e he; simp [DictEntry.refKey, h]
  have hsome : (m name).isSome = es.any (·.key.isStr name) := by
    rw [← hm name]; simp only [nsFind, findBy, Option.isSome_map]
    rw [Bool.eq_iff_iff]; simp only [Array.find?_isSome, Array.any_eq_true]
    constructor
    · rintro ⟨x, hx, hp⟩; obtain ⟨i, hi, rfl⟩ := Array.mem_iff_getElem.mp hx; exact ⟨i, hi, hp⟩
    · rintro ⟨i, hi, hp⟩; exact ⟨_, Array.getElem_mem hi, hp⟩
  have hhas : nsHas name o = pure (es.any (·.key.isStr name)) := by
    rw [nsHas_eq]; unfold nsHasByArray; rw [hd]
    show (if (es.any fun x => x.key.isStr name) = true then _ else _) = _
    generalize (es.any fun x => x.key.isStr name) = b
    cases b <;> simp [hany]
  unfold nsDel
  refine wpAny_bind (wpAny_loadPart ho ?_)
  rw [hhas]
  refine wpAny_bind (wpAny_pure ?_)
  rw [← hsome]
  cases hmn : (m name).isSome
  · have := hQ s.heap m o hn (.refl ..) ho rfl
    rw [hmn] at this
    exact wpAny_pure this
  · refine wpAny_bind (wpAny_updatePart ho (wpAny_pure ?_))
    have D := Heap.get?_update_self (Obj.dropName name) ho (Zlf o hd name).2
    have key : ∃ m', (s.heap.update a (Obj.dropName name)).Ns a m' := by
      obtain ⟨cl, d, dt, sl⟩ := o
      subst hd
      cases hi : es.findIdx? (·.key.isStr name) with
      | some i => exact ⟨_, _, _, ep + 1, Heap.get?_update_self _ ho (by simp only [Obj.dropName_eq, Obj.dropNameByArray, hi] <;> rfl), (by simp only [Obj.dropName_eq, Obj.dropNameByArray, hi] <;> rfl), hk.erase i, fun _ => rfl⟩
      | none => exact ⟨_, _, _, ep, Heap.get?_update_self _ ho (by simp only [Obj.dropName_eq, Obj.dropNameByArray, hi] <;> rfl), (by simp only [Obj.dropName_eq, Obj.dropNameByArray, hi] <;> rfl), hk, fun _ => rfl⟩
    obtain ⟨m', hm'⟩ := key
    have := hQ _ m' _ hm' (Heap.SameBut.update ..) D (Zlf o hd name).1
    rw [hmn] at this
    exact this
section
variable {C : Cx} {K : Frag} {G : Pg} {kf : Addr} {S : Spec} {n : Nat} {f : FI} {A A' : Around} {L : Addr} {outer : List Env} {st st' : Bool} {d d' : Nat} {lo lo' : Loc} {σ σ₁ σ₀ σ' : Store} {s s₁ s₀ s' : Shared} {E : Value → Shared → Prop} {Q : QS} {X : XS}
theorem Run.own (B : Bs C outer L σ₀ s₀) (R : Run C f A L outer st d σ₀ s₀ lo σ s) {h' : Heap} {o' : Obj} {tk : Nat} {m : Str → Option Value} (hn : h'.Ns L m) (hs : Heap.SameBut L s.heap h') (ho : h'.get? L = some o') (hc : o'.cls = .type "frame") :
    Run C f A L outer st d σ₀ s₀ [] σ { s with heap := h', toks := tk } ∧ TupKeep s.heap h' := by
  have I := R.cur.inv
  obtain ⟨hL, oL, esL, nL, eL, cL, dL⟩ := R.cur.frame
  have hk : ∀ b o, b ≠ L → s.heap.get? b = some o → h'.get? b = some o := fun b o ne e => (hs.2 b ne).trans e
  have tkp : TupKeep s.heap h' := fun a o e c => hk a o (fun z => by subst z; rw [eL] at e; obtain rfl := so e; rw [cL] at c; contradiction) e
  have nL0 : σ L = none := I.frNone eL cL
  have h0L : C.h₀.get? L = none := Zbi hL
  obtain ⟨o1, es1, ep1, e1, d1, _⟩ := id hn
  rw [ho] at e1; obtain rfl := so e1
  have sto : ∀ a o, σ a = some o → C.h₀.objs.size ≤ a ∧ ORel C h' a o := fun a o e => by
    obtain ⟨k1, k2⟩ := I.sto a o e
    exact ⟨k1, k2.move tkp (hs.2 a fun z => by subst z; rw [nL0] at e; contradiction)⟩
  have base : C.h₀.StaysIn h' := fun b o e => hk b o (fun z => by subst z; rw [h0L] at e; contradiction) (I.base b o e)
  have frs : ∀ l, FrOk C s.heap l → FrOk C h' l := fun l F env he => by
    obtain ⟨k, L', o, es, n, ff, l, e, c, dd⟩ := F env he
    by_cases z : L' = L
    · subst z; exact ⟨k, L', _, es1, ep1, ff, l, ho, hc, d1⟩
    · exact ⟨k, L', o, es, n, ff, l, hk L' o z e, c, dd⟩
  have hsz : C.h₀.objs.size ≤ h'.objs.size := Nat.le_of_lt (Nat.lt_of_le_of_lt hL (Heap.lt_size ho))
  refine ⟨⟨⟨⟨base, sto, frs _ R.nx.inv.frs, hsz⟩, fun b o e z => ?_, fun b o e => ?_, R.nx.fresh, R.nx.gens, R.nx.os⟩, R.cur.bud, R.cur.hand, R.cur.frames, ⟨base, sto, frs _ I.frs, hsz⟩, ⟨_, hn, fun u q e => by contradiction⟩, R.cur.kind⟩, tkp⟩
  · have ne : b ≠ L := fun y => by subst y; rw [B.new] at e; contradiction
    have k := R.nx.keep b o e z
    show SameF o (h'.get? b)
    rw [hs.2 b ne]; exact k
  · have ne : b ≠ L := fun y => by subst y; rw [B.new] at e; contradiction
    obtain ⟨o2, e2⟩ := R.nx.stay b o e
    exact ⟨o2, hk b o2 ne e2⟩
theorem Zrj (B : Bs C outer L σ₀ s₀) (R : Run C f A L outer st d σ₀ s₀ lo σ s) {t : Nat} {pos : Pos} (ok : okL f.scope t = true) {Q : Unit → Shared → Prop}
    (h : ∀ h' tk, TupKeep s.heap h' → Run C f A L outer st d σ₀ s₀ [] σ { s with heap := h', toks := tk } → Q () { s with heap := h', toks := tk }) : wpAny C.M A (do bindName (f.env L) (tg t) .none; unbindBehindTheSuite (f.env L) (tg t) pos) Q E s := by
  obtain ⟨m, hn, lr⟩ := R.cur.fm
  obtain ⟨hL, oL, esL, nL, eL, cL, dL⟩ := R.cur.frame
  obtain ⟨okl1, okl2⟩ := Bool.and_eq_true_iff.mp ok
  have hk : (f.env L).kindOf (tg t) = some .local := Zck (beq_iff_eq.mp okl1)
  have hp : ((f.env L).scope.kind == .class || ((f.env L).scope.kind == .module && (f.env L).locals != (f.env L).globals)) = false := by
    show (f.scope.kind == .class || (f.scope.kind == .module && L != mainGlobals)) = false
    rw [R.cur.kind]; rfl
  refine wpAny_bind (wpAny_bindName ?_)
  rw [storeName_local hk hp]
  refine Zbw hn eL fun h₁ o₁ n₁ hs₁ ho₁ hc₁ => ?_
  unfold unbindBehindTheSuite
  refine wpAny_onRaise ?_
  unfold unbindName
  refine wpAny_bind (wpAny_point (wpAny_bind ?_))
  unfold deleteName
  simp only [hk, hp]
  rw [if_neg (by decide)]
  refine wpAny_bind (Zaaz (a := L) n₁ ho₁ fun h₂ m₂ o₂ n₂ hs₂ ho₂ hc₂ => ?_)
  simp only [if_true, Option.isSome_some, Bool.not_true, Bool.false_eq_true, if_false]
  obtain ⟨R2, k2⟩ := R.own B (tk := s.toks + 1) n₂ (hs₁.trans hs₂) ho₂ (hc₂.trans (hc₁.trans cL))
  exact wpAny_pure (wpAny_point (h h₂ _ k2 R2))
theorem Zadl {α : Type} {M : Model} {A : Around} {t : Sem α} {Q : α → Shared → Prop} {E : Value → Shared → Prop} {s : Shared} (h : ∀ E, wpAny M A t Q E s) : wpAny M A t Q E s := h E
theorem Zadk {α : Type} {M : Model} {A : Around} {t : Sem α} {Q : α → Shared → Prop} {E : Value → Shared → Prop} {s : Shared} (h : ∀ R : α → Shared → Prop, (∀ v s, Q v s → R v s) → wpAny M A t R E s) : wpAny M A t Q E s := h Q fun _ _ h => h
theorem Zacs {sc : Scope} {t : Nat} (h : okL sc t = true) : okV sc t = true := by
  obtain ⟨z1, z2⟩ := Bool.and_eq_true_iff.mp h
  unfold okV
  rw [z1]; exact z2
theorem Zmc (O : Ok C K G kf) (B : Bs C outer L σ₀ s₀) {e : Addr} {i : Int} {u : Store} {h₀ : Heap} {p1 p2 p3 p4 p5 : Pos} {F : Flow → Shared → Prop} {E E2 : Value → Shared → Prop} (R4 : Run C f A L outer st d σ₀ s₀ lo σ s) (y4 : ExcT kf true u h₀ s.heap (.ref e) i) (ok2 : okL f.scope 100 = true)
    (k : ∀ h₅ tk₅ tk', Run C f A L outer st d σ₀ s₀ ((100, .obj e) :: lo) σ { s with heap := h₅, toks := tk₅ } → F (.ret (.ref h₅.objs.size)) { s with heap := h₅.push { cls := .type "tuple", data := .seq [Value.none, Value.int i tk'].toArray }, toks := tk₅ + 1 }) :
    wpAny C.M A (storeName (f.env L) (tg 100) (.ref e)) (fun _ s₂ => wpAny C.M A (execs [.Return (some (.Tuple [.Constant .none 0 p3, .Attribute (.Name (tg 100) p5) (tg 67) p4] 0 p2)) p1] (f.env L)) F E2 s₂) E s := by
  refine Zfj B R4 (p := .obj e) ok2 (.obj e) fun h₅ tk₅ k₅ R5 o₅ => ?_
  obtain ⟨e', vs', he', ⟨dx', oe', ents', nn', tk', b2, b3, b4, b5, b6, b7, b8, bu, b9, b10⟩, _⟩ := y4
  cases he'
  obtain ⟨hL, oL, esL, nL, eL, cL, dL⟩ := R4.cur.frame
  have c3 := o₅ e oe' (fun z => by subst z; rw [eL] at b3; obtain rfl := so b3; rw [dL] at b6; contradiction) b3
  have c9 := o₅ dx' _ (fun z => by subst z; rw [eL] at b9; obtain rfl := so b9; exact absurd cL (Zw (by decide))) b9
  refine wpAny_execs_cons (wpAny_Return_some (Tuple_ (spliced_cons (wpAny_Constant_none (k := 0) (pos := p3) (spliced_cons ?_)))))
  refine Attribute_any_ (Zkh R5.cur (v := .obj e) (Zacs ok2) (if_pos rfl) fun w hw => ?_) rfl
  obtain rfl := Zau hw
  obtain ⟨m, F, _⟩ := R5.cur.fr
  obtain ⟨k0, k1, km, k2, attr, k3, k4⟩ := O.kfa
  have I : W.InstAt h₅ e oe' kf (some (dictOf ents' nn')) := ⟨c3, b4, by unfold notCls; rw [b6], by rw [b5]; exact c9⟩
  refine Zzj (O.inn.keeps F.keep) I k0 k1 km (findObj_own k2 k3 k4 b10) rfl (spliced_nil ?_)
  exact wpAny_newTuple (k h₅ tk₅ tk' R5) (Zat (show 2 ≤ 1000 by decide))
theorem Zsv (O : Ok C K G kf) {body : List Sm} {np p1 p2 p3 p4 p5 hp p : Pos} (hb : SSs C G kf S n body) : SS C G kf S n (.heard body np p1 p2 p3 p4 p5 hp p) := fun f A L outer st d lo σ s σ₀ s₀ Q X hd ok B R w => by
  obtain ⟨ok, ok3⟩ := Bool.and_eq_true_iff.mp ok
  obtain ⟨ok1, ok2⟩ := Bool.and_eq_true_iff.mp ok
  show wpAny _ _ (exec (.Try (Sm.tos body) [.ExceptHandler (some (.Name (tg 183) np)) (some (tg 100)) [.Return (some (.Tuple [.Constant .none 0 p3, .Attribute (.Name (tg 100) p5) (tg 67) p4] 0 p2)) p1] hp] [] [] p) (f.env L)) _ _ _
  refine wpAny_Try_except (wpAny_mono (hb f A L outer st d lo σ s σ₀ s₀ Q _ hd ok1 B R w) (fun fl s₁ h => ?_) fun x s₁ h => ?_)
  · obtain ⟨g, lo₁, σ₁, q, r, R1⟩ := h
    cases r with
    | next => exact wpAny_execs_nil ⟨_, _, _, q, .next, R1⟩
    | ret r => exact ⟨_, _, _, q, .ret r, R1⟩
  · obtain ⟨i, lo₁, σ₁, q, R1, y⟩ := h
    refine Zhu B R1 y fun h₂ R2 y2 => ?_
    refine Zdr (s := { s₁ with heap := h₂ }) B R2 y2 fun h₃ R3 y3 => ?_
    obtain ⟨e, vs, rfl, ⟨dx, oe, ents, nn, tk, a2, a3, a4, a5, a6, a7, a8, au, a9, a10⟩, _⟩ := id y3
    have R3m := R3.mark (some (.ref e))
    refine wpAny_handleBy_cons (codeAny_handlers_test (Zfx O R3m.cur ok3 O.kfg ?_)) (ref_ne_byPass e)
    have LT : Looks C.M (Shared.heap { s₁ with heap := h₃ }) (typeOf (.ref e)) (.ref kf) := by
      have LT : Looks C.M (Shared.heap { s₁ with heap := h₃ }) (typeOf (.ref e)) oe.cls := (Looks.ld a3).andThen .now
      rw [a4] at LT
      exact LT
    refine (exm_one (R3.cur.inv.inK O) LT O.kfx).here ?_
    refine codeAny_handlers_suite_as (Zdr B R3m y3 fun h₄ R4 y4 => ?_)
    refine Zmc O B (s := { s₁ with heap := h₄ }) R4 y4 ok2 fun h₅ tk₅ tk' R5 => ?_
    have R6 := R3.remark R5
    have R7 := R6.next (Nx.pushed R6.cur.inv { cls := .type "tuple", data := .seq [Value.none, Value.int i tk'].toArray } (t := tk₅ + 1) (dr := s₁.drawn))
    have rv : VRel (h₅.push { cls := .type "tuple", data := .seq [Value.none, Value.int i tk'].toArray }) (.tup [.none, .int i]) (.ref h₅.objs.size) :=
      .tup (items := [.none, .int i tk']) (Heap.get?_push_size _ rfl) rfl rfl (.cons .none (.cons (.int _ _) .nil))
    exact Zrj B R7 ok2 fun h₈ tk₈ k₈ R8 => ⟨_, _, _, q, .ret (rv.mono k₈), R8⟩
end
section
variable {M : Model} {A : Around} {E : Value → Shared → Prop} {env : Env}
theorem Zwy {nm q : Str} {cl N : Addr} {bs bm : List Value} {hdct : Bool} {sn : List Str} {sub : List Value} {ab : Bool} {col : Option Bool} {dd : Option Addr} {k0 k1 k2 k3 k5 : Option Value} {newId : String} {s : Shared} {x : Sem Value} {Q : Flow → Shared → Prop} (hbase : bm.contains (.type "BaseException") = true) (hh : A.handled = none)
    (h : wpAny M A x (fun v s₁ => ∃ e dx a0, v = .ref e ∧ s₁.heap.get? cl = some (excClassObj nm q cl N bs bm hdct sn sub ab col dd k0 k1 k2 k3 k5 newId) ∧
      s₁.heap.get? e = some ⟨.ref cl, some dx, .fields #[a0, .none, .none, .none, .bool false, .none], #[]⟩ ∧ E (.ref e) s₁) E s) :
    wpAny M A (raiseStmt env (some x) none) Q E s := by
  have hcB : (Value.ref cl :: bm).contains (.type "BaseException") = true := by rw [List.contains_cons, hbase, Bool.or_true]
  unfold raiseStmt
  refine wpAny_bind (wpAny_mono h (fun v s₁ h₁ => ?_) fun _ _ x => x)
  obtain ⟨e, dx, a0, rfl, hC, he, hE⟩ := h₁
  obtain ⟨hp, g, d, tk, os⟩ := s₁
  repeat (first | with_reducible refine wpAny_loadPart_at he ?_ | with_reducible refine wpAny_loadPart_at hC ?_ | (with_reducible refine wpAny_isSubtype_exc hC ?_; rw [hcB]) | wp_step)
  exact wpAny_raiseNew_none hh hE
end
section
variable {C : Cx} {K : Frag} {G : Pg} {kf : Addr} {S : Spec} {n : Nat}
theorem Zsu (O : Ok C K G kf) {m sp : Ex} {np cp p : Pos} (hm : SE C G kf S n m) (hs : SE C G kf S n sp) : SS C G kf S n (.raise m sp np cp p) := fun f A L outer st d lo σ s σ₀ s₀ Q X hd ok B R w => by
  obtain ⟨ok, ok3⟩ := Bool.and_eq_true_iff.mp ok
  obtain ⟨ok1, ok2⟩ := Bool.and_eq_true_iff.mp ok
  obtain ⟨hst, w⟩ := w
  have hh := R.cur.hand hst
  obtain ⟨nm, q, N, bs, bm, hdct, sn, sub, ab, col, dd, k0, k1, k2, k3, k5, newId, hC, hbase⟩ := O.kfo
  show wpAny _ _ (exec (.Raise (some (.Call (.Name (tg 183) np) [m.to, sp.to] [] cp)) none p) (f.env L)) _ _ _
  rw [arm_exec_Raise]
  refine wpAny_bind (wpAny_standAt (Zwy (cl := kf) (nm := nm) (q := q) (N := N) (bs := bs) (bm := bm) (hdct := hdct) (sn := sn) (sub := sub) (ab := ab) (col := col) (dd := dd) (k0 := k0) (k1 := k1) (k2 := k2) (k3 := k3) (k5 := k5) (newId := newId) hbase hh (wpAny_bind (wpAny_mono ?_ (fun v s₃ h₃ => wpAny_bind (wpAny_standAt (wpAny_pure h₃))) fun _ _ x => x))))
  refine wpAny_Call_ofName (Zfx O R.cur ok1 O.kfg ?_)
  refine callWith_K (h₀ := C.h₀) O.inn O.kfk ?_ (Zai m [sp.to] _) (by rw [Zai sp []]; rfl)
  rw [Zai m [sp.to], Zai sp []]
  refine spliced_cons (wpAny_mono (hm f A L outer st d lo σ s _ (Zo X lo) hd ok2 R.cur w) (fun v s₁ hv => ?_) fun _ _ h => ErF.ofE B R h)
  obtain ⟨p1, σ₁, q1, N1, r1⟩ := hv
  have R1 := R.next N1
  refine spliced_cons (wpAny_mono (hs f A L outer st d lo σ₁ s₁ _ (Zo X lo) hd ok3 R1.cur q1) (fun v2 s₂ hv => spliced_nil ?_) fun _ _ h => ErF.ofE B R1 h)
  obtain ⟨p2, σ₂, q2, N2, r2⟩ := hv
  have R2 := R1.next N2
  refine ⟨R2.cur.inv.inK O, ?_⟩
  obtain ⟨k, i, hk, rfl, q3, q2⟩ := q2
  obtain ⟨x, t, rfl, lx⟩ := Zfr r1 hk
  obtain ⟨u, rfl⟩ := Zap r2
  have hb := R.cur.bud
  refine O.mkf A s₂ x t u i _ _ (R2.cur.inv.inK O) R2.cur.inv.base (by have := hb.1; lia) (by have := hb.2; lia) hh (Nat.le_trans lx q3) fun h' tk e dx a0 ents nn hk' e0 he d0 hd' hsp => ?_
  have NN : Nx C (f.env L :: outer) σ₂ σ₂ s₂ { s₂ with heap := h', toks := tk } := R2.cur.grown hk'
  have R3 := R2.next NN
  exact ⟨e, dx, a0, rfl, R3.cur.inv.base _ _ hC, he, i, lo, σ₂, q2, R3, ⟨e, _, rfl, ⟨dx, _, ents, nn, u, R2.freshB e0, he, rfl, rfl, rfl, by simp, R2.freshB d0, R2.cur.inv.freshAt d0, hd', hsp⟩, .inl ⟨rfl, rfl⟩⟩⟩
end
section
variable {C : Cx} {K : Frag} {G : Pg} {kf : Addr} {S : Spec} {n : Nat}
theorem Zzx {s : Stmt} : SS C G kf S n (.any s) := fun f A L outer st d lo σ s σ₀ s₀ Q X hd ok B R w => by
  exact w.elim
variable (O : Ok C K G kf) (SB : SpB C kf S n)
include O SB
mutual
theorem sm_snd : ∀ s : Sm, SS C G kf S n s
  | .asg _ e _ => Zzw (snd O SB e).ev
  | .setS o i _ e _ => Zwf O (snd O SB o).ev (snd O SB i).ev (snd O SB e).ev
  | .setA o _ _ e _ => Zwg O (snd O SB o).ev (snd O SB e).ev
  | .expr e _ => Zwl (snd O SB e).ev
  | .ret e _ => ss_ret (snd O SB e).ev
  | .ite c a b _ => Zzv (snd O SB c).te (sms_snd a) (sms_snd b)
  | .for_ _ (.ex e) body _ => Zwk O (sms_snd body) (snd O SB e).ev
  | .for_ _ (.rng es _ _) body _ => Zwj O (sms_snd body) (snds O SB es).sp
  | .for_ _ (.enum e _ _) body _ => Zwi O (sms_snd body) (snd O SB e).ev
  | .for_ _ (.zip a b _ _) body _ => Zwh O (sms_snd body) (snd O SB a).ev (snd O SB b).ev
  | .whil c body _ => Zwd (snd O SB c).te (sms_snd body)
  | .raise m s _ _ _ => Zsu O (snd O SB m).ev (snd O SB s).ev
  | .tryF body fin _ => Zwe (sms_snd body) (sms_snd fin)
  | .heard body _ _ _ _ _ _ _ _ => Zsv O (sms_snd body)
  | .any _ => Zzx
theorem sms_snd : ∀ ss : List Sm, SSs C G kf S n ss
  | [] => sss_nil
  | s :: r => Zst (sm_snd s) (sms_snd r)
end
end
section
variable {M : Model} {A : Around} {E : Value → Shared → Prop} {s : Shared}
theorem Zij {env : Env} {L : Addr} (f : Str × Value → PUnit → Sem (ForInStep PUnit)) (hf : ∀ n v u, f (n, v) u = (do storeName env n v; pure (.yield ⟨⟩))) (hL : env.locals = L) (hk : env.scope.kind = .function) {g : Heap} {oL : Obj} (hg : g.Ns L fun _ => none) (eL : g.get? L = some oL) (binds : List (Str × Value)) (hl : ∀ x ∈ binds, env.kindOf x.1 = some .local) {t : Nat} {Q : PUnit → Shared → Prop}
    (hQ : ∀ h' o', h'.Ns L (fun x => binds.reverse.lookup x) → Heap.SameBut L g h' → h'.get? L = some o' → o'.cls = oL.cls → Q ⟨⟩ { s with heap := h', toks := t + binds.length }) :
    wpAny M A (forIn binds PUnit.unit f) Q E { s with heap := g, toks := t } := by
  refine wpAny_forIn_list f (fun rest _ s' => ∃ done h' o', binds = done ++ rest ∧ s' = { s with heap := h', toks := t + done.length } ∧ h'.Ns L (fun x => done.reverse.lookup x) ∧ Heap.SameBut L g h' ∧ h'.get? L = some o' ∧ o'.cls = oL.cls) _ ?_ ?_ binds _
    ⟨[], g, oL, rfl, rfl, hg, Heap.SameBut.refl .., eL, rfl⟩
  · rintro ⟨name, v⟩ rest _ s' ⟨done, h', o', hb, rfl, hns, hsb, he, hc⟩
    have hk' : env.kindOf name = some .local := hl (name, v) (by rw [hb]; simp)
    rw [hf, storeName_local hk' (by rw [hk]; rfl), hL]
    refine wpAny_bind (Zbw hns he fun h'' o'' hns' hsb' he' hc' => wpAny_pure ⟨done ++ [(name, v)], h'', o'', by simp [hb], ?_, ?_, hsb.trans hsb', he', hc'.trans hc⟩)
    · simp [Nat.add_assoc]
    · rw [lookup_reverse_snoc]; exact hns'
  · rintro _ s' ⟨done, h', o', hb, rfl, hns, hsb, he, hc⟩
    rw [List.append_nil] at hb; subst hb
    exact hQ h' o' hns hsb he hc
theorem Zrr {scope : Scope} {binds : List (Str × Value)} {qual : Str} {a : Addr} {code : Value} {Q : Env → Shared → Prop} (hk : scope.kind = .function) (hc : scope.names.all (fun x => x.2 != .cell) = true) (hl : ∀ x ∈ binds, scope.names.lookup x.1 = some .local)
    (hQ : ∀ h' o' tk, h'.Ns s.heap.objs.size (fun x => binds.reverse.lookup x) → (∀ b o, s.heap.get? b = some o → h'.get? b = some o) → h'.get? s.heap.objs.size = some o' → o'.cls = .type "frame" → Q (envX qual scope s.heap.objs.size a code []) { s with heap := h', toks := tk }) :
    wpAny M A (newFunctionEnv scope mainGlobals [] binds (qual ++ ".<locals>.") (some a) code none builtinsNs) Q E s := by
  unfold newFunctionEnv
  rw [if_neg (by decide : ¬ (none : Option Env).isSome = true)]
  refine wpAny_bind (wpAny_alloc ?_)
  have hc := List.all_eq_true.mp hc
  dsimp only
  rw [forIn_yield_id ([] : List (Str × Addr)) (fun x hx c => by
    obtain ⟨name, kind⟩ := x
    have : (kind == NameKind.cell) = false := by simpa using hc _ hx
    dsimp only
    rw [this, if_neg (by decide)])]
  refine wpAny_bind (wpAny_pure (wpAny_bind ?_))
  refine Zij (env := envX qual scope s.heap.objs.size a code []) (L := s.heap.objs.size) (g := s.heap.push { cls := .type "frame", data := .dict #[] }) (t := s.toks) _ (fun n v u => rfl) rfl hk (Heap.Ns.new ..) (Heap.get?_push_size _ rfl) binds hl fun h' o' hns hsb he hcl => wpAny_pure ?_
  exact hQ h' o' _ hns (fun b o e => hsb.extBut b o (Nat.ne_of_lt (Heap.lt_size e)) (Heap.get?_push_of_some _ e)) he hcl
theorem Zul {scope : Scope} {x₀ : Str} {v₀ : Value} {names : List (Str × NameKind)} {binds : List (Str × Value)} {qual : Str} {a : Addr} {code : Value} {Q : Env → Shared → Prop} (hk : scope.kind = .function) (hn : scope.names = (x₀, .cell) :: names) (hc : names.all (fun x => x.2 != .cell) = true) (hl : ∀ x ∈ binds, scope.names.lookup x.1 = some .local)
    (hQ : ∀ h' o' oc tk, h'.Ns s.heap.objs.size (fun x => binds.reverse.lookup x) → (∀ b o, s.heap.get? b = some o → h'.get? b = some o) → h'.get? s.heap.objs.size = some o' → o'.cls = .type "frame" → h'.get? (s.heap.objs.size + 1) = some oc → oc.data = .cell (some v₀) →
      Q (envX qual scope s.heap.objs.size a code [(x₀, s.heap.objs.size + 1)]) { s with heap := h', toks := tk }) :
    wpAny M A (newFunctionEnv scope mainGlobals [] ((x₀, v₀) :: binds) (qual ++ ".<locals>.") (some a) code none builtinsNs) Q E s := by
  unfold newFunctionEnv
  rw [if_neg (by decide : ¬ (none : Option Env).isSome = true)]
  refine wpAny_bind (wpAny_alloc ?_)
  dsimp only
  rw [hn, List.forIn_cons]
  have hc := List.all_eq_true.mp hc
  simp only [beq_self_eq_true, if_true]
  refine wpAny_bind (wpAny_bind (wpAny_bind (wpAny_alloc ?_)))
  refine wpAny_pure ?_
  dsimp only
  have hsz : (s.heap.push { cls := .type "frame", data := .dict #[] }).objs.size = s.heap.objs.size + 1 := Heap.size_push ..
  rw [hsz, forIn_yield_id [(x₀, s.heap.objs.size + 1)] (fun x hx c => by
    obtain ⟨name, kind⟩ := x
    have : (kind == NameKind.cell) = false := by simpa using hc _ hx
    dsimp only
    rw [this, if_neg (by decide)])]
  refine wpAny_pure ?_
  have hL2 : ((s.heap.push { cls := .type "frame", data := .dict #[] }).push { cls := .type "cell", data := .cell none }).get? s.heap.objs.size = some { cls := .type "frame", data := .dict #[] } := Heap.get?_push_of_some _ (Heap.get?_push_size _ rfl)
  have hC2 : ((s.heap.push { cls := .type "frame", data := .dict #[] }).push { cls := .type "cell", data := .cell none }).get? (s.heap.objs.size + 1) = some { cls := .type "cell", data := .cell none } := by rw [← hsz]; exact Heap.get?_push_size _ rfl
  rw [List.forIn_cons]
  refine wpAny_bind (wpAny_bind (wpAny_bind ?_))
  refine wpAny_storeName_cell (env := envX qual scope s.heap.objs.size a code [(x₀, s.heap.objs.size + 1)]) (c := s.heap.objs.size + 1) (v₀ := none) hk (by show scope.names.lookup x₀ = _; rw [hn]; simp [List.lookup_cons]) (by simp [List.lookup_cons]) ⟨_, hC2, rfl⟩ fun h₁ hv hs => ?_
  obtain ⟨oc, hoc, hod⟩ := hv
  refine wpAny_pure ?_
  have ne : s.heap.objs.size ≠ s.heap.objs.size + 1 := Nat.ne_of_lt (Nat.lt_succ_self _)
  have hL3 : h₁.get? s.heap.objs.size = some { cls := .type "frame", data := .dict #[] } := hs.extBut _ _ ne hL2
  have hns : h₁.Ns s.heap.objs.size fun _ => none := (Heap.Ns.new s.heap (.type "frame")).at' fun o e => hs.extBut _ _ ne (Heap.get?_push_of_some _ e)
  refine Zij (env := envX qual scope s.heap.objs.size a code [(x₀, s.heap.objs.size + 1)]) (L := s.heap.objs.size) (g := h₁) (t := s.toks) _ (fun n v u => rfl) rfl hk hns hL3 binds hl fun h' o' hns' hsb he hcl => wpAny_pure ?_
  refine hQ h' o' oc _ hns' (fun b o e => hsb.extBut b o (Nat.ne_of_lt (Heap.lt_size e)) (hs.extBut b o (Nat.ne_of_lt (Nat.lt_succ_of_lt (Heap.lt_size e))) (Heap.get?_push_of_some _ (Heap.get?_push_of_some _ e)))) he hcl ((hsb.extBut _ _ (Ne.symm ne) hoc)) hod
end
noncomputable def Zaz (ts : List Nat) (ps : List PV) : Loc := (ts.zip ps).reverse
inductive BRel (h : Heap) : Loc → List (Str × Value) → Prop
  | nil : BRel h [] []
  | cons {t : Nat} {p : PV} {v : Value} {ps vs} : VRel h p v → BRel h ps vs → BRel h ((t, p) :: ps) ((tg t, v) :: vs)
theorem BRel.append {h : Heap} {a b : Loc} {c d : List (Str × Value)} (x : BRel h a c) (y : BRel h b d) : BRel h (a ++ b) (c ++ d) := by
  induction x with
  | nil => exact y
  | cons r _ ih => exact .cons r ih
theorem BRel.of {h : Heap} : ∀ {ts : List Nat} {ps : List PV} {vs : List Value}, ts.length = ps.length → VRels h ps vs → BRel h (ts.zip ps).reverse ((ts.map tg).zip vs).reverse
  | [], [], _, _, r => by rw [Zcd r]; exact .nil
  | t :: ts, p :: ps, _, e, r => by
    obtain ⟨_, _, a, r⟩ := Zbg r
    rw [List.zip_cons_cons, List.map_cons, List.zip_cons_cons, List.reverse_cons, List.reverse_cons]
    exact (BRel.of (Nat.succ.inj e) ‹_›).append (.cons a .nil)
  | [], _ :: _, _, e, _ => by contradiction
  | _ :: _, [], _, e, _ => by contradiction
theorem BRel.get {h : Heap} {lo : Loc} {bs : List (Str × Value)} (r : BRel h lo bs) (t : Nat) (p : PV) (e : lo.get t = some p) : ∃ v, bs.lookup (tg t) = some v ∧ VRel h p v := by
  induction r with
  | nil => contradiction
  | @cons u q v ps vs a _ ih =>
    rw [Zbn] at e
    rw [List.lookup_cons]
    by_cases z : u = t
    · subst z
      rw [if_pos rfl] at e
      obtain rfl := so e
      rw [beq_self_eq_true]
      exact ⟨v, rfl, a⟩
    · rw [if_neg z] at e
      rw [beq_eq_false_iff_ne.mpr (Zcm (Ne.symm z))]
      exact ih e
theorem Zue (a : Loc) (t u : Nat) (p : PV) : Loc.get (a ++ [(t, p)]) u = (Loc.get a u).or (if t = u then some p else none) := by
  induction a with
  | nil => rfl
  | cons x r ih =>
    obtain ⟨y, q⟩ := x
    show (if y = u then some q else Loc.get (r ++ [(t, p)]) u) = Option.or (if y = u then some q else Loc.get r u) _
    split
    · rfl
    · exact ih
theorem Zxw {lo : Loc} {t : Nat} {p : PV} (e : lo.get t = some p) : t ∈ lo.map (·.1) := by
  induction lo with
  | nil => contradiction
  | cons x r ih =>
    rw [Zbn] at e
    split at e
    · rename_i z; rw [← z]; simp
    · simp only [List.map_cons, List.mem_cons]; exact .inr (ih e)
theorem Zmg {ts : List Nat} {ps : List PV} {t : Nat} {p : PV} (e : Loc.get (ts.zip ps).reverse t = some p) : t ∈ ts := by
  obtain ⟨x, hx, rfl⟩ := List.mem_map.mp (Zxw e)
  rw [List.mem_reverse] at hx
  exact (List.of_mem_zip hx).1
structure Def (C : Cx) (K : Frag) (a : Addr) (fd : FuncData) (ts : List Nat) (ss : List Sm) : Prop where
  obj : ∃ fo, K.lookup a = some fo ∧ fo.data = .func fd
  body : fd.body = .stmts (Sm.tos ss)
  glob : fd.globals = mainGlobals
  clos : fd.closure = []
  blt : fd.builtins = builtinsNs
  co : fd.scope.isCoroutine = false
  gen : fd.scope.isGenerator = false
  kind : fd.scope.kind = .function
  code : ∃ c oc vs t, fd.code = .ref c ∧ K.lookup c = some oc ∧ oc.data = .fields vs ∧ vs[1]? = some (.str fd.qualname t)
  bind : ∀ ws : List Value, ws.length = ts.length → bindArgs fd ⟨ws, []⟩ = pure ((ts.map tg).zip ws)
  ok : okSs fd.scope ss = true
noncomputable def Zhx (fd : FuncData) (ts : List Nat) : Prop := fd.scope.names.all (fun x => x.2 != .cell) = true ∧ ∀ t ∈ ts, fd.scope.names.lookup (tg t) = some .local
noncomputable def Zes (fd : FuncData) : List Nat → Prop
  | [] => False
  | t :: ts => ∃ names, fd.scope.names = (tg t, .cell) :: names ∧ names.all (fun x => x.2 != .cell) = true ∧ ∀ u ∈ ts, u ≠ t ∧ fd.scope.names.lookup (tg u) = some .local
section
variable {C : Cx} {K : Frag} {G : Pg} {kf : Addr} {S : Spec} {n : Nat} {A : Around} {outs : List Env} {σ : Store} {s : Shared} {Q : QV} {X : XV'}
theorem Zjk (O : Ok C K G kf) (SB : SpB C kf S n) {fd : FuncData} {a : Addr} {ts : List Nat} {ss : List Sm} {cells : List (Str × Addr)} {lo : Loc} (D : Def C K a fd ts ss) {st : Bool} (hb : Bud A (n + 1)) (hh : st = true → A.handled = none) (hfr : A.frames = some outs) (I : Inv C outs σ s.heap)
    {h' : Heap} {o' : Obj} {tk : Nat} {m : Str → Option Value} (hns : h'.Ns s.heap.objs.size m) (hk : ∀ b o, s.heap.get? b = some o → h'.get? b = some o) (he : h'.get? s.heap.objs.size = some o') (hc : o'.cls = .type "frame")
    (lr : Znm ⟨fd.qualname, fd.scope, a, fd.code, cells⟩ h' lo m)
    (w : Za G S st n ss lo σ (fun f _ σ' => match f with | .next => Q .none σ' | .ret v => Q v σ') (fun i _ σ' => X i σ')) :
    codeAny C.M A (.func (Sm.tos ss) (envX fd.qualname fd.scope s.heap.objs.size a fd.code cells)) (fun r s' => match r with | .ok (.ret v) => OkP C outs σ s Q v s' | .ok _ => False | .error e => ErP C kf outs σ s X e s') { s with heap := h', toks := tk } := by
  refine codeAny_func ?_
  obtain ⟨ol, es, ep, e1, d1, _⟩ := id hns
  rw [he] at e1; obtain rfl := so e1
  have hL : C.h₀.objs.size ≤ s.heap.objs.size := I.size
  have mo : TupKeep s.heap h' := fun b o e _ => hk b o e
  have sto : ∀ b o, σ b = some o → C.h₀.objs.size ≤ b ∧ ORel C h' b o := fun b o e => by
    obtain ⟨k1, k2⟩ := I.sto b o e
    obtain ⟨ob, h1, _⟩ := k2.there
    exact ⟨k1, k2.move mo ((hk _ _ h1).trans h1.symm)⟩
  have base : C.h₀.StaysIn h' := fun b o e => hk b o (I.base b o e)
  have frs : FrOk C h' outs := fun env hv => by
    obtain ⟨k, L, o, es, n, ff, l, e, c, dd⟩ := I.frs env hv
    exact ⟨k, L, o, es, n, ff, l, hk _ _ e, c, dd⟩
  have hsz : C.h₀.objs.size ≤ h'.objs.size := Nat.le_of_lt (Nat.lt_of_le_of_lt hL (Heap.lt_size he))
  have B : Bs C outs s.heap.objs.size σ s := ⟨I, Zao s.heap⟩
  have R : Run C ⟨fd.qualname, fd.scope, a, fd.code, cells⟩ (A.deeper (envX fd.qualname fd.scope s.heap.objs.size a fd.code cells)) s.heap.objs.size outs st n σ s lo σ { s with heap := h', toks := tk } := by
    refine ⟨⟨⟨base, sto, frs, hsz⟩, fun b o e _ => .inl (hk b o e), fun b o e => ⟨o, hk b o e⟩, fun b h => .inl h, rfl, rfl⟩, ?_, ?_, Around.frames_deeper hfr, ⟨base, sto, fun env hv => ?_, hsz⟩, ⟨m, hns, lr⟩, D.kind⟩
    · have h1 := hb.1
      have h2 := hb.2
      refine ⟨?_, ?_⟩
      · show A.depth + 1 + 4 * n + 4 < recursionLimit
        lia
      · rw [Around.deeper_units]; lia
    · exact fun z => hh z
    · rcases List.mem_cons.mp hv with rfl | hv
      · exact ⟨by show fd.scope.kind ≠ .module; rw [D.kind]; decide, s.heap.objs.size, o', es, ep, rfl, hL, he, hc, d1⟩
      · exact frs env hv
  refine wpAny_mono (sms_snd O SB ss _ _ _ _ _ _ _ _ _ _ _ _ _ (Nat.le_refl _) D.ok B R w) (fun fl s₁ h => ?_) fun x s₁ h => ?_
  · obtain ⟨g, lo₁, σ₁, q, r, R1⟩ := h
    cases r with
    | next => exact ⟨_, _, q, R1.nx, .none⟩
    | ret r => exact ⟨_, _, q, R1.nx, r⟩
  · obtain ⟨i, lo₁, σ₁, q, R1, y⟩ := h
    exact Ztu B R1 y fun h₂ R2 y2 => ⟨i, σ₁, q, R2.nx, y2.weak⟩
theorem Zho (O : Ok C K G kf) (SB : SpB C kf S n) {fd : FuncData} {a : Addr} {ts : List Nat} {ss : List Sm} (D : Def C K a fd ts ss) (hp : Zhx fd ts ∨ Zes fd ts) {st : Bool} {vs : List PV} {ws : List Value} (hl : vs.length = ts.length) (hb : Bud A (n + 1)) (hh : st = true → A.handled = none) (hfr : A.frames = some outs) (I : Inv C outs σ s.heap) (r : VRels s.heap vs ws)
    (w : Za G S st n ss (Zaz ts vs) σ (fun f _ σ' => match f with | .next => Q .none σ' | .ret v => Q v σ') (fun i _ σ' => X i σ')) :
    codeAny C.M A (.call (.ref a) ⟨ws, []⟩) (fun r s' => match r with | .ok (.ret v) => OkP C outs σ s Q v s' | .ok _ => False | .error e => ErP C kf outs σ s X e s') s := by
  obtain ⟨fo, hfo, hfd⟩ := D.obj
  obtain ⟨c, oc, cvs, ct, hc1, hc2, hc3, hc4⟩ := D.code
  have X0 := I.inK O
  have hb1 := hb.1
  refine codeAny_call_function (by lia) (X0 _ _ hfo) hfd D.co D.gen D.body ⟨c, oc, cvs, ct, hc1, X0 _ _ hc2, hc3, hc4⟩ ?_
  rw [D.bind ws (by rw [r.length]; exact hl)]
  refine wpAny_pure ?_
  rw [D.glob, D.clos, D.blt]
  have lim : s.heap.NoLimit := O.lim.keeps fun b o e => I.base b o e
  rcases hp with ⟨p1, p2⟩ | hp
  · refine Zrr D.kind p1 (fun x hx => ?_) fun h' o' tk hns hk he hcl => ⟨lim.keeps hk, Zjk O SB D hb hh hfr I hns hk he hcl ?_ w⟩
    · obtain ⟨t, ht, e⟩ : ∃ t ∈ ts, tg t = x.1 := by
        obtain ⟨i, hi, e⟩ := List.getElem_of_mem hx
        rw [List.getElem_zip] at e
        have hi' : i < ts.length := by simp at hi; lia
        exact ⟨ts[i], List.getElem_mem hi', by rw [← e]; simp⟩
      rw [← e]; exact p2 t ht
    · intro t p e
      have br := BRel.of (h := h') hl.symm (r.mono fun b o e _ => hk b o e)
      obtain ⟨v, e1, e2⟩ := br.get t p e
      refine ⟨v, ?_, e2⟩
      unfold At
      have : fd.scope.names.lookup (tg t) ≠ some .cell := fun z => by rw [p2 t (Zmg e)] at z; contradiction
      split
      · rename_i z; exact absurd z this
      · exact e1
  · cases ts with
    | nil => exact hp.elim
    | cons t us =>
      obtain ⟨names, hn, hc, hu⟩ := hp
      cases r with
      | nil => contradiction
      | @cons p₀ w₀ ps wr r0 rr =>
        have hl' : ps.length = us.length := by simpa using hl
        rw [List.map_cons, List.zip_cons_cons]
        refine Zul D.kind hn hc (fun x hx => ?_) fun h' o' oc tk hns hk he hcl hoc hod => ⟨lim.keeps hk, Zjk O SB D hb hh hfr I hns hk he hcl ?_ w⟩
        · obtain ⟨i, hi, e⟩ := List.getElem_of_mem hx
          rw [List.getElem_zip] at e
          have hi' : i < us.length := by simp at hi; lia
          have e2 : x.1 = tg us[i] := by rw [← e]; simp
          rw [e2]; exact (hu _ (List.getElem_mem hi')).2
        · intro u p e
          have e : Loc.get ((us.zip ps).reverse ++ [(t, p₀)]) u = some p := by
            have : Zaz (t :: us) (p₀ :: ps) = (us.zip ps).reverse ++ [(t, p₀)] := by unfold Zaz; rw [List.zip_cons_cons, List.reverse_cons]
            rw [← this]; exact e
          rw [Zue] at e
          have br := BRel.of (h := h') hl'.symm (rr.mono fun b o e _ => hk b o e)
          cases q : Loc.get (us.zip ps).reverse u with
          | some p' =>
            rw [q] at e; obtain rfl := so e
            obtain ⟨v, e1, e2⟩ := br.get u _ q
            refine ⟨v, ?_, e2⟩
            unfold At
            have hz := (hu u (Zmg q)).2
            split
            · rename_i z
              have z' : fd.scope.names.lookup (tg u) = some .cell := z
              rw [hz] at z'; contradiction
            · exact e1
          | none =>
            rw [q] at e
            by_cases z : t = u
            · subst z
              simp only [if_true, Option.none_or, Option.some.injEq] at e
              subst e
              refine ⟨w₀, ?_, r0.mono fun b o e _ => hk b o e⟩
              unfold At
              have hz : fd.scope.names.lookup (tg t) = some .cell := by rw [hn]; simp [List.lookup_cons]
              rw [show (FI.scope ⟨fd.qualname, fd.scope, a, fd.code, [(tg t, s.heap.objs.size + 1)]⟩).names.lookup (tg t) = some .cell from hz]
              exact ⟨s.heap.objs.size + 1, oc, by simp [List.lookup_cons], hoc, hod⟩
            · rw [if_neg z] at e; contradiction
end
section
variable {C : Cx} {K : Frag} {G : Pg} {kf : Addr} {S : Spec} {n : Nat} {A : Around} {outs : List Env} {σ : Store} {s : Shared} {Q : QV} {X : XV'}
theorem Zur (O : Ok C K G kf) (SB : SpB C kf S n) {fd : FuncData} {a c : Addr} {t : Nat} {ts : List Nat} {ss : List Sm} (D : Def C K a fd (t :: ts) ss) (hp : Zhx fd (t :: ts) ∨ Zes fd (t :: ts)) (hm : makesIn K c = true) (hi : findIn K (.ref c) "__init__" = some (some (.ref a))) (hf : typeIn K (.ref a) = some (.type "function"))
    {st : Bool} {vs : List PV} {ws : List Value} (hl : vs.length = ts.length) (hb : Bud A (n + 2)) (hh : st = true → A.handled = none) (hfr : A.frames = some outs) (I : Inv C outs σ s.heap) (r : VRels s.heap vs ws)
    (w : ∀ x dx, σ x = none → σ dx = none → x ≠ dx → Za G S st n ss (Zaz (t :: ts) (.obj x :: vs)) ((σ.upd dx (.attrs [])).upd x (.inst c dx)) (fun f _ σ' => match f with | .next => Q (.obj x) σ' | .ret v => v = .none ∧ Q (.obj x) σ') (fun i _ σ' => X i σ')) :
    codeAny C.M A (.call (.ref c) ⟨ws, []⟩) (fun r s' => match r with | .ok (.ret v) => OkP C outs σ s Q v s' | .ok _ => False | .error e => ErP C kf outs σ s X e s') s := by
  have X0 := I.inK O
  obtain ⟨hh0, g, d, tk, os⟩ := s
  refine make_core (makes_of X0 hm) (looks_findIn X0 hi) (fun self => bind_fn X0 self hf) (.inl rfl) ?_
  have hu : A.under (.builtin "type.__call__" ⟨.ref c :: ws, []⟩) = { A with depth := A.depth + 1, units := A.units + 1 } := by
    obtain ⟨hd, d, fr, gs, u⟩ := A
    rfl
  rw [hu]
  have e0 : (hh0.push emptyDict).get? hh0.objs.size = some emptyDict := Heap.get?_push_size _ rfl
  have z1 : (hh0.push emptyDict).objs.size = hh0.objs.size + 1 := Heap.size_push ..
  have ed : ((hh0.push emptyDict).push (instObj c hh0.objs.size)).get? hh0.objs.size = some emptyDict := Heap.get?_push_of_some _ e0
  have ex : ((hh0.push emptyDict).push (instObj c hh0.objs.size)).get? (hh0.objs.size + 1) = some (instObj c hh0.objs.size) := by rw [← z1]; exact Heap.get?_push_size _ rfl
  have nd : hh0.get? hh0.objs.size = none := Zao hh0
  have nx : hh0.get? (hh0.objs.size + 1) = none := Zbi (Nat.le_succ _)
  have N0 : Nx C outs σ σ ⟨hh0, g, d, tk, os⟩ ⟨(hh0.push emptyDict).push (instObj c hh0.objs.size), g, d, tk, os⟩ :=
    (Nx.pushed (s := ⟨hh0, g, d, tk, os⟩) I emptyDict (t := tk) (dr := d)).trans (Nx.pushed (s := ⟨hh0.push emptyDict, g, d, tk, os⟩) (I.push emptyDict) (instObj c hh0.objs.size) (t := tk) (dr := d))
  have N1 := N0.track (a := hh0.objs.size) (o := .attrs []) nd ⟨[], 0, ed, .nil⟩ I.size
  have N2 := N1.track (a := hh0.objs.size + 1) (o := .inst c hh0.objs.size) nx ex (Nat.le_succ_of_le I.size)
  have ne : hh0.objs.size + 1 ≠ hh0.objs.size := Nat.succ_ne_self _
  have w' := w (hh0.objs.size + 1) hh0.objs.size (I.freshAt nx) (I.freshAt nd) ne
  have hb' : Bud { A with depth := A.depth + 1, units := A.units + 1 } (n + 1) := ⟨by show A.depth + 1 + _ + _ < _; have := hb.1; lia, by show A.units + 1 + _ + _ < _; have := hb.2; lia⟩
  refine codeAny_mono (Zho (Q := fun v σ' => v = .none ∧ Q (.obj (hh0.objs.size + 1)) σ') O SB D hp (vs := .obj (hh0.objs.size + 1) :: vs) (ws := .ref (hh0.objs.size + 1) :: ws) (by simp [hl]) hb' (fun z => hh z) hfr N2.inv (.cons (.obj _) (r.mono (N2.tup I))) (X := X) ?_) fun r s' h => ?_
  · refine cast (congrArg (fun q => Za G S st n ss _ _ q (fun i _ σ' => X i σ')) (funext fun f => funext fun l => funext fun σ' => ?_)) w'
    cases f with
    | next => simp
    | ret v => rfl
  · cases r with
    | error e => exact h.of N2
    | ok fl =>
      cases fl with
      | ret v =>
        obtain ⟨p, σ', ⟨rfl, q⟩, N3, r3⟩ := h
        obtain rfl := Znt r3
        exact ⟨rfl, _, σ', q, N2.trans N3, .obj _⟩
      | _ => exact h.elim
end
open PySem
section
variable {prog : Program} {w : World} {M : Model} {A : Around} {E : Value → Shared → Prop} {R : Result → Shared → Prop} {h : Heap} {g : Array GenState} {d : Drawn} {t : Nat} {os : OsState}
variable {nm q : Str} {C N : Addr} {bs bm bmB : List Value} {hdct : Bool} {sn : List Str} {sub : List Value} {ab : Bool} {col : Option Bool} {dd : Option Addr} {k0 k1 k2 k3 k5 : Option Value} {B newId initId : String}
noncomputable def Zio (bmB bm : List Value) : Prop := ∀ X b, bmB.contains (.type X) = b → bm.contains (.type X) = b
theorem Zll (F : ExcBaseFacts B newId initId bmB) (T : Zio bmB bm) {rest : List Value} {Q : Unit → Shared → Prop} (hC : h.get? C = some (excClassObj nm q C N bs bm hdct sn sub ab col dd k0 k1 k2 k3 k5 newId))
    (hq : Q () ⟨h, g, d, t, os⟩) : wpAny M A (checkBuiltinCall newId ⟨.ref C :: rest, []⟩) Q E ⟨h, g, d, t, os⟩ := by
  have hcont : (Value.ref C :: bm).contains (.type B) = true := by rw [List.contains_cons, T _ _ F.hasB, Bool.or_true]
  have hstar := F.noStar
  unfold checkBuiltinCall
  rw [F.newKind]
  dsimp only
  rw [F.newSplit]
  dsimp only
  rw [F.newRow]
  dsimp only
  repeat (first | refine wpAny_loadPart_at hC ?_ | (refine wpAny_isSubtype_exc hC ?_; rw [hcont]) | refine wpAny_staticBase_exc hC ?_ | refine wpAny_madeBy_exc hC ?_ | simp only [bne_self_eq_false, Bool.false_eq_true, if_false] | wp_step)
  exact hq
theorem Zzh (F : ExcBaseFacts B newId initId bmB) (T : Zio bmB bm) {rest : List Value} (hC : h.get? C = some (excClassObj nm q C N bs bm hdct sn sub ab col dd k0 k1 k2 k3 k5 newId)) (hrest : rest.length ≤ sizeLine)
    (hq : R (.ok (.ret (.ref (h.objs.size + 1)))) ⟨(h.push { cls := .type "tuple", data := .seq rest.toArray }).push
      { cls := .ref C, data := .fields #[.ref h.objs.size, .none, .none, .none, .bool false, .none] }, g, d, t, os⟩) :
    codeAny (model prog w) A (.builtin newId ⟨.ref C :: rest, []⟩) R ⟨h, g, d, t, os⟩ := by
  have hends := F.ends
  have hcB : (Value.ref C :: bm).contains (.type B) = true := by rw [List.contains_cons, T _ _ F.hasB, Bool.or_true]
  have hcA : (Value.ref C :: bm).contains (.type "AttributeError") = false := by rw [List.contains_cons, T _ _ F.noAttr]; rfl
  have hcN : (Value.ref C :: bm).contains (.type "NameError") = false := by rw [List.contains_cons, T _ _ F.noName]; rfl
  refine codeAny_builtinAt F.entry ?_
  unfold Builtin.«BaseException.__new__»
  refine _root_.PySem.wpAt_bind ?_
  show _root_.PySem.wpAt _ _ _ (stack >>= _) _ _ _
  refine _root_.PySem.wpAt_bind (_root_.PySem.wpAt_stack fun p below => _root_.PySem.wpAt_of_wpAny ?_)
  wp_walk
  refine _root_.PySem.wpAt_of_wpAny ?_
  rw [F.owner]
  repeat (first | with_reducible refine wpAny_madeHere_exc F.canon hC ?_ | with_reducible refine wpAny_loadPart_at hC ?_ | (with_reducible refine wpAny_isSubtype_exc hC ?_; first | rw [hcB] | rw [hcA] | rw [hcN]) | wp_step)
  show R _ _
  rw [Heap.size_push]
  exact hq
theorem Zlj (F : ExcBaseFacts B newId initId bmB) (T : Zio bmB bm) {rest : List Value} {init : Addr} {Q : Fin → Shared → Prop} (hC : h.get? C = some (excClassObj nm q C N bs bm hdct sn sub ab col dd k0 k1 k2 k3 k5 newId)) (hrest : rest.length ≤ sizeLine)
    (hi : Looks (model prog w) h (typeLookup (.ref C) "__init__") (some (.ref init))) (hb : ∀ self, Looks (model prog w) h (bindSpecial (.ref init) self) (.ref init, [self]))
    (hq : wpAny (model prog w) A (call (.ref init) (.ref (h.objs.size + 1) :: rest)) (fun r s' => r = .none ∧ Q (.done (.ret (.ref (h.objs.size + 1)))) s') E
      ⟨(h.push { cls := .type "tuple", data := .seq rest.toArray }).push { cls := .ref C, data := .fields #[.ref h.objs.size, .none, .none, .none, .bool false, .none] }, g, d, t, os⟩) :
    wpAny (model prog w) A (Builtin.«type.__call__» ⟨.ref C :: rest, []⟩) Q E ⟨h, g, d, t, os⟩ := by
  repeat (first | with_reducible refine wpAny_loadPart_at hC ?_ | with_reducible refine wpAny_madeBy_exc hC ?_ | wp_step)
  refine codeAny_call_builtin_code (Code.quiet_builtin _ F.quiet) (Zll F T hC ?_)
  refine Zzh F T hC hrest ?_
  show wpAny _ _ _ _ _ _
  have hC₁ := Heap.get?_push_of_some { cls := .ref C, data := .fields #[.ref h.objs.size, .none, .none, .none, .bool false, .none] }
    (Heap.get?_push_of_some { cls := .type "tuple", data := .seq rest.toArray } hC)
  have k : ∀ b o, h.get? b = some o → ((h.push { cls := .type "tuple", data := .seq rest.toArray }).push { cls := .ref C, data := .fields #[.ref h.objs.size, .none, .none, .none, .bool false, .none] }).get? b = some o := fun b o e => Heap.get?_push_of_some _ (Heap.get?_push_of_some _ e)
  have hget : ((h.push { cls := .type "tuple", data := .seq rest.toArray }).push
      { cls := .ref C, data := .fields #[.ref h.objs.size, .none, .none, .none, .bool false, .none] }).get? (h.objs.size + 1) = some
      { cls := .ref C, data := .fields #[.ref h.objs.size, .none, .none, .none, .bool false, .none] } := by heap_get
  have hcC : (Value.ref C :: bm).contains (.ref C) = true := by simp
  have i1 := hi.keeps k
  have b1 := (hb (.ref (h.objs.size + 1))).keeps k
  unfold isInstance
  repeat (first | with_reducible refine wpAny_loadPart_at hget ?_ | (with_reducible refine wpAny_isSubtype_exc hC₁ ?_; rw [hcC]) | wp_step)
  show wpAny _ _ (typeLookup (.ref C) _) _ _ _
  refine i1.at ?_
  refine wpAny_holding (wpAny_bind (b1.at ?_))
  refine wpAny_bind (wpAny_mono hq (fun r s' hr => ?_) fun _ _ x => x)
  obtain ⟨rfl, hQ⟩ := hr
  wp_walk
  exact hQ
theorem Zvv (F : ExcBaseFacts B newId initId bmB) (T : Zio bmB bm) {rest : List Value} {init : Addr} {Q : Value → Shared → Prop} (hC : h.get? C = some (excClassObj nm q C N bs bm hdct sn sub ab col dd k0 k1 k2 k3 k5 newId)) (hrest : rest.length ≤ sizeLine)
    (hi : Looks (model prog w) h (typeLookup (.ref C) "__init__") (some (.ref init))) (hb : ∀ self, Looks (model prog w) h (bindSpecial (.ref init) self) (.ref init, [self]))
    (hq : wpAny (model prog w) (A.under (.builtin "type.__call__" ⟨.ref C :: rest, []⟩)) (call (.ref init) (.ref (h.objs.size + 1) :: rest)) (fun r s' => r = .none ∧ Q (.ref (h.objs.size + 1)) s') E
      ⟨(h.push { cls := .type "tuple", data := .seq rest.toArray }).push { cls := .ref C, data := .fields #[.ref h.objs.size, .none, .none, .none, .bool false, .none] }, g, d, t, os⟩) :
    wpAny (model prog w) A (call (.ref C) rest) Q E ⟨h, g, d, t, os⟩ := by
  have f1 := tc_lookup
  have f2 := tc_bind (.ref C)
  have hT : (⟨h, g, d, t, os⟩ : Shared).TypeIs (.ref C) "type" := ⟨_, hC, rfl⟩
  refine wpAny_call (codeAny_of_tree ?_)
  show wpAny _ _ (callAny (.ref C) _) _ _ _
  repeat (any_goals (first | assumption | with_reducible refine wpAny_loadPart_at hC ?_ | wp_step))
  refine ⟨rfl, ?_⟩
  refine codeAny_call_builtin_at (Code.quiet_builtin _ (by decide +kernel)) entry_typeCall (wpAny_check_type_call_sub hC (Zlj F T hC hrest hi hb ?_))
  exact hq
end
theorem xf_ty : typeOf (.builtin "Exception.__init__") = pure (.type "wrapper_descriptor") := by
  show builtinType _ = _
  rw [builtinType_eq_fast]; kernel_rfl
theorem xf_slot_get : Slot "wrapper_descriptor" "__get__" "wrapper_descriptor.__get__" := .of (owner := "wrapper_descriptor") (n := "__get__") (by rw [typeLookup_type, builtinLookup_eq_fast]; kernel_rfl) (by decide +kernel) (by decide +kernel) (by decide +kernel)
  (by first | exact .inl (by decide +kernel) | exact .inr (by decide +kernel)) (by rw [isSubtype_type]; kernel_rfl)
theorem xf_entry_get : entryFor table "wrapper_descriptor.__get__" = some Builtin.«wrapper_descriptor.__get__» := entryFor_of_tree (by kernel_rfl)
theorem Zlv (a b c : Value) : argsOk "wrapper_descriptor.__get__" ⟨[a, b, c], []⟩ := by unfold argsOk; kernel_rfl
theorem xf_cut : (".".intercalate ("Exception.__init__".cutAt '.').dropLast) = "Exception" := by decide +kernel
section
variable {prog : Program} {w : World} {M : Model} {A : Around} {E : Value → Shared → Prop} {R : Result → Shared → Prop} {h : Heap} {g : Array GenState} {d : Drawn} {t : Nat} {os : OsState}
variable {nm q : Str} {C N : Addr} {bs bm bmB : List Value} {hdct : Bool} {sn : List Str} {sub : List Value} {ab : Bool} {col : Option Bool} {dd : Option Addr} {k0 k1 k2 k3 k5 : Option Value} {newId : String}
theorem Zzi {x : Addr} {ox : Obj} {st : Value} {Q : Fin → Shared → Prop} (hC : h.get? C = some (excClassObj nm q C N bs bm hdct sn sub ab col dd k0 k1 k2 k3 k5 newId)) (hx : h.get? x = some ox) (hxc : ox.cls = .ref C)
    (hcB : (Value.ref C :: bm).contains (.type "Exception") = true) (hst : (st == .none) = false) (hq : Q (.done (.ret (.ref h.objs.size))) ⟨h.push { cls := .type "method-wrapper", data := .fields #[.builtin "Exception.__init__", .ref x] }, g, d, t, os⟩) :
    wpAny M A (Builtin.«wrapper_descriptor.__get__» ⟨[.builtin "Exception.__init__", .ref x, st], []⟩) Q E ⟨h, g, d, t, os⟩ := by
  unfold Builtin.«wrapper_descriptor.__get__»
  repeat (first | (with_reducible refine wpAny_loadPart_at hx ?_; rw [hxc]) | (with_reducible refine wpAny_isSubtype_exc hC ?_; rw [xf_cut, hcB]) | wp_step)
  all_goals exact hq
theorem Zls {so D x : Addr} {ox : Obj} {l₀ l : List Value} {K : Frag} {name : Str} {tk : Tok} {Q : Fin → Shared → Prop}
    (hso : h.get? so = some { cls := .type "super", dict := none, data := .fields #[.ref D, .ref x, .ref C], slots := #[] }) (hno : Looks (model prog w) h (opaqueClassAbove (.ref C)) none)
    (hm : Looks (model prog w) h (mroOf (.ref C)) l₀) (hl : (l₀.dropWhile (· != .ref D)).drop 1 = l) (X : K.In h)
    (hf : alongIn K name l = some (some (.builtin "Exception.__init__"))) (hC : h.get? C = some (excClassObj nm q C N bs bm hdct sn sub ab col dd k0 k1 k2 k3 k5 newId)) (hx : h.get? x = some ox) (hxc : ox.cls = .ref C)
    (hcB : (Value.ref C :: bm).contains (.type "Exception") = true) (hxC : x ≠ C) (hn : (name == ("__class__" : Str)) = false)
    (hq : Q (.done (.ret (.ref h.objs.size))) ⟨h.push { cls := .type "method-wrapper", data := .fields #[.builtin "Exception.__init__", .ref x] }, g, d, t, os⟩) :
    wpAny (model prog w) A (Builtin.«super.__getattribute__» ⟨[.ref so, .str name tk], []⟩) Q E ⟨h, g, d, t, os⟩ := by
  have hlk := xf_slot_get.lookup
  have hne : (Value.ref x == Value.ref C) = false := by simp [hxC]
  have hTf : (⟨h, g, d, t, os⟩ : Shared).TypeIs (.builtin "Exception.__init__") "wrapper_descriptor" := xf_ty
  have hdt : ({ cls := .type "super", dict := none, data := .fields #[.ref D, .ref x, .ref C], slots := #[] } : Obj).data = .fields #[.ref D, .ref x, .ref C] := rfl
  have f0 : (#[.ref D, .ref x, .ref C] : Array Value)[0]? = some (.ref D) := rfl
  have f1 : (#[.ref D, .ref x, .ref C] : Array Value)[1]? = some (.ref x) := rfl
  have f2 : (#[.ref D, .ref x, .ref C] : Array Value)[2]? = some (.ref C) := rfl
  unfold Builtin.«super.__getattribute__»
  repeat (first
    | (with_reducible refine wpAny_field hso hdt f0 ?_) | (with_reducible refine wpAny_field hso hdt f1 ?_) | (with_reducible refine wpAny_field hso hdt f2 ?_)
    | (with_reducible refine ks_wpAny_notOpaque hno ?_)
    | (with_reducible refine Looks.at hm ?_; rw [hl])
    | (refine ks_forIn_along X (fun _ _ => rfl) rfl ?_ hf)
    | (with_reducible refine wpAny_of_eq xf_ty ?_)
    | (with_reducible refine wpAny_call_entry xf_slot_get hTf xf_entry_get (Zzi hC hx hxc hcB rfl ?_) (Zlv _ _ _))
    | (with_reducible refine ⟨_, rfl, ?_⟩)
    | (simp only [hn, hne, Bool.or_false, Bool.false_eq_true, if_false])
    | wp_step
    | dsimp only)
  all_goals first | exact hq | trace_state
end
section
variable {prog : Program} {w : World} {A : Around} {E : Value → Shared → Prop} {s : Shared} {K : Frag}
structure XSt (K : Frag) (c : Addr) (name : Str) (cd : ClassData) : Prop where
  cls : clsIn K c = some cd
  pass : ∀ self : Value, refuseLoop self "__setattr__" cd.mro = pure ()
  obj : cd.mro.contains (.type "object") = true
  ne : cd.mro.isEmpty = false
  tk : takerIn K c name = some none
  hd : cd.hasDict = true
  sa : findIn K (.ref c) "__setattr__" = some (some (.builtin "object.__setattr__"))
theorem Zmh {x c : Addr} {ox : Obj} {od : Option Obj} {name : Str} {tk : Tok} {v : Value} {cd : ClassData} {R : Result → Shared → Prop} (X : K.In s.heap) (I : InstAt s.heap x ox c od) (Y : XSt K c name cd)
    (h : ∀ b, wpAny (model prog w) A.in1 (Builtin.ObjectAttr.storeInOwnDict (.ref x) (.ref c) (.str name tk) name v b)
      (fun fin s' => match fin with | PySem.Fin.done f => R (.ok f) s' | PySem.Fin.again c' => c'.quiet = true ∧ codeAny (model prog w) A c' R s') (fun e s' => R (.error e) s') s) :
    codeAny (model prog w) A (.call (.builtin "object.__setattr__") ⟨[.ref x, .str name tk, v], []⟩) R s := by
  have SF := PySem.F.store_object
  obtain ⟨hc, hp, ho, ne, ht, hd, hs⟩ := Y
  have sub : Looks (model prog w) s.heap (isInstance (.ref x) (.type "object")) true := I.type.andThen (looks_mroIn X (by unfold mroIn; rw [hc, Option.bind_some, if_neg (by rw [ne]; decide), ho]))
  refine codeAny_call_builtin SF.slot.plain SF.entry (@check_slot (model prog w) _ _ s "object.__setattr__" "object" "__setattr__" (.ref x) [.str name tk, v] [] _ SF.kind SF.split sub (SF.args (.ref x) (.str name tk) v) ?_)
  obtain ⟨attr, ha, hr⟩ := Option.bind_eq_some_iff.mp ht
  have hm : Looks (model prog w) s.heap (mroOf (.ref c)) cd.mro := (looks_clsIn X hc).andThen .now
  have L3 : Looks (model prog w) s.heap (Builtin.ObjectAttr.storeTaker? attr) none := by
    cases attr with
    | none => exact .now
    | some a =>
      obtain ⟨b, hb, e⟩ := Option.map_eq_some_iff.mp hr
      refine (looks_takesIn X hb).andThen ?_
      cases b <;> first | exact .now | contradiction
  rw [osa_eq, refuse_eq]
  refine wpAny_bind (wpAny_bind (I.type.here (wpAny_bind (hm.here ?_))))
  rw [hp]
  refine wpAny_pure (wpAny_bind (I.type.here (wpAny_bind ((looks_findIn X ha).here (wpAny_bind (L3.here ?_))))))
  exact h _
theorem Zox {A : Around} {s : Shared} {dx : Addr} {es : List DictEntry} {n : Nat} {name : Str} {tk : Tok} {v : Value} {Q : PySem.Fin → Shared → Prop} (D : s.heap.get? dx = some (dictOf es n)) (hr : es.any (·.refKey) = false) (hz : es.length ≤ 999)
    (h : ∀ h', Heap.SameBut dx s.heap h' → h'.get? dx = some (dictOf (putL name (PyData.keyHash w.params name) (.str name s.toks) v es) (putN name es n)) → Q (.done (.ret .none)) { s with heap := h', toks := s.toks + 1 }) :
    wpAny (model prog w) A (Builtin.ObjectAttr.storeInDict dx (.str name tk) name v) Q E s := by
  have e1 := putName_dict name (PyData.keyHash w.params name) (.str name s.toks) v es n
  have D' : (s.heap.update dx (Obj.putName name (PyData.keyHash w.params name) (.str name s.toks) v)).get? dx = some (dictOf (putL name (PyData.keyHash w.params name) (.str name s.toks) v es) (putN name es n)) := by
    rw [Heap.get?_update_self _ D (by rw [e1]; rfl), e1]
  have hlen : ∀ l : List DictEntry, (putL name (PyData.keyHash w.params name) (.str name s.toks) v l).length ≤ l.length + 1 := by
    intro l
    induction l with
    | nil => simp [putL]
    | cons e r ih => unfold putL; split <;> simp <;> lia
  refine wpAny_bind (wpAny_pure (wpAny_bind ?_))
  unfold nsSet
  refine wpAny_bind (wpAny_bind (wpAny_askSetting (wpAny_pure (wpAny_bind (wpAny_mkText (wpAny_bind (wpAny_loadPart D ?_)))))))
  dsimp only
  have cc : (!es.toArray.any (·.key.isStr name) && es.toArray.any (·.refKey)) = false := by
    rw [← Array.any_toList, ← Array.any_toList]
    show (_ && es.any _) = false
    rw [hr, Bool.and_false]
  rw [aRefKeyMayBeTheName_at, cc]
  refine wpAny_updatePart D ?_
  refine wpAny_bind (wpAny_lookBehind D' (pastItsLine_dict (by have := hlen es; rw [List.size_toArray, sizeLine_eq]; lia)) ?_)
  exact wpAny_pure (h _ (Heap.SameBut.update ..) D')
theorem Zlt {x c dx : Addr} {ox : Obj} {es : List DictEntry} {n : Nat} {name : Str} {tk : Tok} {v : Value} {cd : ClassData} {R : Result → Shared → Prop} (X : K.In s.heap) (I : InstAt s.heap x ox c (some (dictOf es n))) (hd : ox.dict = some dx) (Y : XSt K c name cd) (hr : es.any (·.refKey) = false) (hz : es.length ≤ 999)
    (h : ∀ h', Heap.SameBut dx s.heap h' → h'.get? dx = some (dictOf (putL name (PyData.keyHash w.params name) (.str name s.toks) v es) (putN name es n)) → R (.ok (.ret .none)) { s with heap := h', toks := s.toks + 1 }) :
    codeAny (model prog w) A (.call (.builtin "object.__setattr__") ⟨[.ref x, .str name tk, v], []⟩) R s := by
  refine Zmh X I Y fun b => ?_
  obtain ⟨hx, hcl, hn, D⟩ := I
  obtain ⟨oc, odi, oda, osl⟩ := ox
  dsimp only at hcl hd
  subst hcl hd
  have D : s.heap.get? dx = some (dictOf es n) := D
  refine wpAny_bind (wpAny_pure (wpAny_bind (wpAny_bind (wpAny_loadPart hx (wpAny_bind ((looks_clsIn X Y.cls).here ?_))))))
  rw [Y.hd]
  exact wpAny_pure (a := some dx) (Zox D hr hz h)
theorem Zlu {x c : Addr} {ox : Obj} {name : Str} {tk : Tok} {v : Value} {cd : ClassData} {R : Result → Shared → Prop} (X : K.In s.heap) (I : InstAt s.heap x ox c none) (hd : ox.dict = none) (Y : XSt K c name cd)
    (h : ∀ h', (∀ b o, b ≠ x → s.heap.get? b = some o → h'.get? b = some o) → h'.get? x = some { ox with dict := some s.heap.objs.size } → h'.get? s.heap.objs.size = some (dictOf [⟨PyData.keyHash w.params name, .str name s.toks, v⟩] 1) → R (.ok (.ret .none)) { s with heap := h', toks := s.toks + 1 }) :
    codeAny (model prog w) A (.call (.builtin "object.__setattr__") ⟨[.ref x, .str name tk, v], []⟩) R s := by
  refine Zmh X I Y fun b => ?_
  obtain ⟨hx, hcl, hn, -⟩ := I
  obtain ⟨oc, odi, oda, osl⟩ := ox
  dsimp only at hcl hd
  subst hcl hd
  refine wpAny_bind (wpAny_pure (wpAny_bind (wpAny_bind (wpAny_loadPart hx (wpAny_bind ((looks_clsIn X Y.cls).here ?_))))))
  rw [Y.hd]
  have nx : x ≠ s.heap.objs.size := Nat.ne_of_lt (Heap.lt_size hx)
  have hx1 : (s.heap.push emptyDict).get? x = some ⟨.ref c, none, oda, osl⟩ := Heap.get?_push_of_some _ hx
  have tail : wpAny (model prog w) A.in1 (do
      let d ← alloc { cls := .type "dict", data := .dict #[] }
      update x fun o => { cls := o.cls, dict := some d, data := o.data, slots := o.slots }
      dictMade (.ref c) x d) (fun a s' => wpAny (model prog w) A.in1 (match a with | some d => Builtin.ObjectAttr.storeInDict d (.str name tk) name v | none => Builtin.ObjectAttr.noDictFor (.ref x) (.ref c) name b)
        (fun fin s' => match fin with | PySem.Fin.done f => R (.ok f) s' | PySem.Fin.again c' => c'.quiet = true ∧ codeAny (model prog w) A c' R s') (fun e s' => R (.error e) s') s') (fun e s' => R (.error e) s') s := by
    refine wpAny_bind (wpAny_alloc ?_)
    refine wpAny_bind (wpAny_update' hx1 ?_)
    refine wpAny_pure ?_
    refine Zox (es := []) (n := 0) (s := { s with heap := (s.heap.push emptyDict).update x fun o => { cls := o.cls, dict := some s.heap.objs.size, data := o.data, slots := o.slots } }) ?_ rfl (by decide) fun h' hs hD => ?_
    · exact (Heap.get?_update_ne _ _ _ _ nx.symm).trans (Heap.get?_push_size _ rfl)
    · refine h h' (fun b o ne e => ?_) ?_ hD
      · exact hs.extBut b o (Nat.ne_of_lt (Heap.lt_size e)) ((Heap.get?_update_ne _ _ _ _ ne).trans (Heap.get?_push_of_some _ e))
      · refine hs.extBut x _ nx (Heap.get?_update_self _ hx1 ?_)
        have hfr := (Heap.get?_some_iff.mp hx).2
        cases oda <;> first | rfl | exact hfr
  rw [if_neg (by decide)]
  dsimp only
  rw [if_neg (by simp [typeHasDict])]
  unfold notCls at hn
  cases oda with
  | cls cd => contradiction
  | _ => exact tail
theorem Zvs {x c dx : Addr} {ox : Obj} {es : List DictEntry} {n : Nat} {name : Str} {v : Value} {cd : ClassData} {Q : Unit → Shared → Prop} (X : K.In s.heap) (I : InstAt s.heap x ox c (some (dictOf es n))) (hd : ox.dict = some dx) (Y : XSt K c name cd) (hr : es.any (·.refKey) = false) (hz : es.length ≤ 999)
    (h : ∀ h', Heap.SameBut dx s.heap h' → h'.get? dx = some (dictOf (putL name (PyData.keyHash w.params name) (.str name (s.toks + 1)) v es) (putN name es n)) → Q () { s with heap := h', toks := s.toks + 2 }) :
    wpAny (model prog w) A (setAttr (.ref x) name v) Q E s :=
  set_plain X I Y.sa (Zlt (s := { s with toks := s.toks + 1 }) X I hd Y hr hz fun h' a b => h h' a b)
theorem Zvt {x c : Addr} {ox : Obj} {name : Str} {v : Value} {cd : ClassData} {Q : Unit → Shared → Prop} (X : K.In s.heap) (I : InstAt s.heap x ox c none) (hd : ox.dict = none) (Y : XSt K c name cd)
    (h : ∀ h', (∀ b o, b ≠ x → s.heap.get? b = some o → h'.get? b = some o) → h'.get? x = some { ox with dict := some s.heap.objs.size } → h'.get? s.heap.objs.size = some (dictOf [⟨PyData.keyHash w.params name, .str name (s.toks + 1), v⟩] 1) → Q () { s with heap := h', toks := s.toks + 2 }) :
    wpAny (model prog w) A (setAttr (.ref x) name v) Q E s :=
  set_plain X I Y.sa (Zlu (s := { s with toks := s.toks + 1 }) X I hd Y fun h' a b e => h h' a b e)
end
section
variable {prog : Program} {w : World} {M : Model} {A : Around} {E : Value → Shared → Prop} {R : Result → Shared → Prop} {h : Heap} {g : Array GenState} {d : Drawn} {t : Nat} {os : OsState}
variable {nm q : Str} {C N : Addr} {bs bm bmB : List Value} {hdct : Bool} {sn : List Str} {sub : List Value} {ab : Bool} {col : Option Bool} {dd : Option Addr} {k0 k1 k2 k3 k5 : Option Value} {newId : String}
noncomputable abbrev Zdd (x : Addr) : Obj := { cls := .type "method-wrapper", data := .fields #[.builtin "Exception.__init__", .ref x] }
theorem Zlk {so D x : Addr} {ox : Obj} {l₀ l : List Value} {K : Frag} {name : Str} {pl : Sem Bool} {Q : Value × List Value → Shared → Prop}
    (hso : h.get? so = some { cls := .type "super", dict := none, data := .fields #[.ref D, .ref x, .ref C], slots := #[] }) (hno : Looks (model prog w) h (opaqueClassAbove (.ref C)) none)
    (hm : Looks (model prog w) h (mroOf (.ref C)) l₀) (hl : (l₀.dropWhile (· != .ref D)).drop 1 = l) (X : K.In h)
    (hf : alongIn K name l = some (some (.builtin "Exception.__init__"))) (hC : h.get? C = some (excClassObj nm q C N bs bm hdct sn sub ab col dd k0 k1 k2 k3 k5 newId)) (hx : h.get? x = some ox) (hxc : ox.cls = .ref C)
    (hcB : (Value.ref C :: bm).contains (.type "Exception") = true) (hxC : x ≠ C) (hn : (name == ("__class__" : Str)) = false)
    (hq : Q (.ref h.objs.size, []) ⟨h.push (Zdd x), g, d, t + 1, os⟩) :
    wpAny (model prog w) A (getMethod (.ref so) name pl) Q E ⟨h, g, d, t, os⟩ := by
  have hlk := F.ks_slot_super_ga.lookup
  have hcan := F.ks_canon_super_ga
  have hT : ∀ t', (⟨h, g, d, t', os⟩ : Shared).TypeIs (.ref so) "super" := fun _ => ⟨_, hso, rfl⟩
  unfold getMethod
  refine wpAny_bind (wpAny_specialOf (hT _) hlk ?_)
  show wpAny _ _ (if (Manifest.canonical "super.__getattribute__" != "object.__getattribute__") = true then _ else _) _ _ _
  rw [if_pos hcan]
  unfold getAttr getAttrBy
  refine wpAny_bind (wpAny_bind (wpAny_mkText (wpAny_holding (wpAny_bind (wpAny_typeOf (hT _) (wpAny_bind (wpAny_of_eq hlk ?_)))))))
  show wpAny _ _ (getAttrByItsOwn (.ref so) (.str name t) (.type "super") (.builtin "super.__getattribute__") true false) _ _ _
  unfold getAttrByItsOwn hookBefore callGetattribute boundAndCalled
  refine wpAny_bind (wpAny_of_eq (show (if onTheHeap (.type "super") then typeLookup (.type "super") "__getattr__" else pure none) = pure none from rfl) ?_)
  refine wpAny_bind (wpAny_attempt (wpAny_holding ?_))
  show wpAny _ _ (bindSpecial (.builtin "super.__getattribute__") (.ref so) >>= _) _ _ _
  refine wpAny_bind (wpAny_of_eq (F.ks_slot_super_ga.bind _) ?_)
  refine wpAny_mono (Q := fun v s' => v = .ref h.objs.size ∧ s' = ⟨h.push (Zdd x), g, d, t + 1, os⟩) (E := fun _ _ => False)
    (wpAny_call_entry F.ks_slot_super_ga (hT _) F.ks_entry_super_ga (Zls hso hno hm hl X hf hC hx hxc hcB hxC hn ⟨_, rfl, rfl, rfl⟩) (F.ks_gaArgs_super _ _)) (fun v s' hv => ?_) fun _ _ z => z.elim
  obtain ⟨rfl, rfl⟩ := hv
  exact wpAny_pure (wpAny_pure hq)
theorem Zsl {M : Model} {A : Around} {E : Value → Shared → Prop} {a : Addr} {oa : Obj} {b : Value} {Q : Unit → Shared → Prop} (hC : h.get? C = some (excClassObj nm q C N bs bm hdct sn sub ab col dd k0 k1 k2 k3 k5 newId)) (he : h.get? a = some oa) (hc : oa.cls = .ref C) (hq : Q () ⟨h, g, d, t, os⟩) :
    wpAny M A (checkBoundCall "Exception.__init__" ⟨[.ref a, b], []⟩) Q E ⟨h, g, d, t, os⟩ := by
  have FB := PySem.F.excBase_Exception
  have hshort := FB.noStar
  unfold checkBoundCall
  rw [FB.initKind]
  dsimp only
  rw [FB.initRow]
  dsimp only
  repeat (first | (with_reducible refine wpAny_loadPart_at he ?_; rw [hc]) | with_reducible refine wpAny_loadPart_at hC ?_ | wp_step)
  exact hq
theorem Zvu {mw e : Addr} {v : Value} {ta : Addr} (hmw : h.get? mw = some (Zdd e)) (hC : h.get? C = some (excClassObj nm q C N bs bm hdct sn sub ab col dd k0 k1 k2 k3 k5 newId)) (he : h.get? e = some ⟨.ref C, none, .fields #[.ref ta, .none, .none, .none, .bool false, .none], #[]⟩)
    (hq : ∀ h', (∀ b o, b ≠ e → h.get? b = some o → h'.get? b = some o) → h'.get? e = some ⟨.ref C, none, .fields #[.ref h.objs.size, .none, .none, .none, .bool false, .none], #[]⟩ → R (.ok (.ret .none)) ⟨h', g, d, t, os⟩) :
    codeAny (model prog w) A (.call (.ref mw) ⟨[v], []⟩) R ⟨h, g, d, t, os⟩ := by
  have FB := PySem.F.excBase_Exception
  refine codeAny_of_tree ?_
  show wpAny _ A.in1 (callAny (.ref mw) ⟨[v], []⟩) _ _ _
  unfold callAny
  refine wpAny_bind (wpAny_load hmw ?_)
  dsimp only
  refine wpAny_bind (Zsl hC he rfl ?_)
  refine wpAny_pure ⟨Code.quiet_builtin _ (by decide +kernel), codeAny_builtin FB.initEntry ?_⟩
  unfold Builtin.«BaseException.__init__»
  repeat (first | with_reducible refine wpAny_loadPart_at he ?_ | wp_step)
  have ne : e ≠ h.objs.size := Nat.ne_of_lt (Heap.lt_size he)
  refine hq _ (fun b o nb eb => ?_) ?_
  · rw [Heap.get?_update_other _ _ (Ne.symm nb)]
    exact Heap.get?_push_of_some _ eb
  · rw [Heap.get?_update_self _ (Heap.get?_push_of_some _ he) rfl]
    rfl
end
noncomputable def Zdj (l : Nat) (X : Str) : List Stmt := [.Expr (.Call (.Attribute (.Call (.Name (Str.ofString "super") ⟨l,8,l,13⟩) [] [] ⟨l,8,l,15⟩) (Str.ofString "__init__") ⟨l,8,l,24⟩) [(.Name (Str.ofString "what") ⟨l,25,l,29⟩)] [] ⟨l,8,l,30⟩) ⟨l,8,l,30⟩, .Assign [(.Attribute (.Name (Str.ofString "self") ⟨l+1,8,l+1,12⟩) X ⟨l+1,8,l+1,17⟩)] (.Name X ⟨l+1,20,l+1,24⟩) ⟨l+1,8,l+1,24⟩]
structure XD (prog : Program) (K : Frag) (a cc : Addr) (ts : List Str) (body : List Stmt) (fd : FuncData) : Prop where
  obj : ∃ fo, K.lookup a = some fo ∧ fo.data = .func fd
  body : fd.body = .stmts body
  glob : fd.globals = mainGlobals
  clos : fd.closure = [(("__class__" : Str), cc)]
  blt : fd.builtins = builtinsNs
  co : fd.scope.isCoroutine = false
  gen : fd.scope.isGenerator = false
  kind : fd.scope.kind = .function
  code : ∃ c oc vs t file tf, fd.code = .ref c ∧ K.lookup c = some oc ∧ oc.data = .fields vs ∧ vs[1]? = some (.str fd.qualname t) ∧ vs[2]? = some (.str file tf) ∧ ((prog.main.file : Str) == file) = true
  bind : ∀ ws : List Value, ws.length = ts.length → bindArgs fd ⟨ws, []⟩ = pure (ts.zip ws)
  par : ∃ ar, (fd.params.posonlyargs ++ fd.params.args).head? = some ar ∧ ar.arg = ("self" : Str)
  cell : ∀ x ∈ fd.scope.names, x.2 ≠ .cell
  sup : fd.scope.names.lookup ("super" : Str) = some .globalImplicit
  kcl : fd.scope.names.lookup ("__class__" : Str) = some .free
  loc : ∀ x ∈ ts, fd.scope.names.lookup x = some .local
structure XSu (prog : Program) (K : Frag) (C Dc cc : Addr) (cd : ClassData) (init : Value) : Prop where
  cell : ∃ o, K.lookup cc = some o ∧ o.data = .cell (some (.ref Dc))
  cls : ∃ cdD, clsIn K Dc = some cdD
  sub : mroIn K C (.ref Dc) = some true
  own : clsIn K C = some cd
  way : alongIn K "__init__" ((cd.mro.dropWhile (· != .ref Dc)).drop 1) = some (some init)
structure XK (prog : Program) (K : Frag) : Prop where
  sup : nsIn K mainGlobals "super" = some none
  any : nsIn K cStatics "thirdparty.any" = some none
  top : (prog.main.scope.names.lookup ("super" : Str)).isSome = false
section
variable {prog : Program} {w : World} {M : Model} {A : Around} {E : Value → Shared → Prop} {R : Result → Shared → Prop} {s : Shared} {K : Frag} {a cc C Dc : Addr} {ts : List Str} {body : List Stmt} {fd : FuncData} {cd : ClassData} {init : Value} {p : Program} {loose : List Str} {mg mb : Str → Option Value}
theorem boot_super : bootBuiltins "super" = some (.type "super") := by decide +kernel
theorem Zkm {b2 : List Stmt} {p0 p1 : Pos} {attr : Str} {whole : Sem Value} {L x : Addr} {ox : Obj} {m : Str → Option Value} {Q : Value → Shared → Prop} (XX : XK prog K) (X : K.In s.heap) (T : TopRead p loose mg mb s.heap) (D : XD prog K a cc ts body fd) (S : XSu prog K C Dc cc cd init)
    (hx : s.heap.get? x = some ox) (hxc : ox.cls = .ref C) (hnc : ∀ c, ox.data ≠ .cls c) (hns : s.heap.Ns L m) (hself : m "self" = some (.ref x)) (hl : fd.scope.names.lookup ("self" : Str) = some .local) (hat : (attr == ("__class__" : Str)) = false)
    (h : ∀ h', h'.get? s.heap.objs.size = some { cls := .type "super", dict := none, data := .fields #[.ref Dc, .ref x, .ref C], slots := #[] } → (∀ y o, s.heap.get? y = some o → h'.get? y = some o) → Q (.ref s.heap.objs.size) { s with heap := h' }) :
    _root_.PySem.wpAt (model prog w) A (.func b2 (callEnv fd L a)) (attributeBase (.Call (.Name "super" p0) [] [] p1) attr (callEnv fd L a) whole) Q E s := by
  obtain ⟨fo, hfo, hfd⟩ := D.obj
  obtain ⟨c, oc, vs, t, file, tf, c1, c2, c3, c4, c5, c6⟩ := D.code
  obtain ⟨ar, p1, p2⟩ := D.par
  obtain ⟨co, k1, k2⟩ := S.cell
  obtain ⟨cdD, k3⟩ := S.cls
  obtain ⟨oD, hD1, hD2⟩ : ∃ oD, s.heap.get? Dc = some oD ∧ oD.data = .cls cdD := by
    unfold clsIn at k3
    split at k3
    · rename_i c d cd' sl ho
      obtain rfl := so k3
      exact ⟨_, X _ _ ho, rfl⟩
    · contradiction
  obtain ⟨hh, g, d, t, os⟩ := s
  refine ks_wpAt_super_base (env := callEnv fd L a) (f := a) (cc := c) D.sup D.kcl hat rfl (X _ _ hfo) hfd p1 c1 (X _ _ c2) c3 c5 c6 XX.top ?_
  refine ks_loadName_global D.kind D.sup (loadGlobal_builtin (mg := mg) (mb := mb) (by show Heap.Ns _ fd.globals _; rw [D.glob]; exact T.g) (mg_none_of X T.g XX.sup) (by show Heap.Ns _ fd.builtins _; rw [D.blt]; exact T.b) ((T.builtins _ (by decide +kernel)).trans boot_super) ⟨rfl, ?_⟩)
  refine wpAny_loadName_free D.kind D.kcl (c := cc) (by show fd.closure.lookup _ = _; rw [D.clos]; simp [List.lookup_cons]) ⟨_, X _ _ k1, k2⟩ ?_
  rw [p2]
  refine wpAny_loadName_local D.kind hl hns hself ?_
  refine ks_wpAny_isType_cls hD1 hD2 ⟨rfl, ?_⟩
  exact ks_wpAny_call_super hD1 hD2 hx hxc hnc (looks_mroIn X S.sub) fun h' e k => h h' e k
theorem Zuz {o : Expr} {m x : Str} {ap xp p : Pos} {env : Env} (h3 : (ap.endLine == p.line) = true) :
    eval (.Call (.Attribute o m ap) [.Name x xp] [] p) env = (do
      let ov ← attributeBase o m env (eval o env)
      standAt ap.atName
      let (g, first) ← holding [ov] (getMethod ov m (do return (← importBound o env).getD true))
      callWith p g first (backTo p (starEach [.Name x xp] env)) []) := by
  have hf : methodCallForm (1 + ([] : List Keyword).length) (backTo p (starEach [.Name x xp] env)) (backToKw p (keywordEach [] env)) = true := rfl
  show (do
    let ov ← attributeBase o m env (eval o env)
    standAt ap.atName
    methodCall o m ap p env ov (1 + ([] : List Keyword).length) (backTo p (starEach [.Name x xp] env)) (backToKw p (keywordEach [] env))) = _
  unfold methodCall calleeOf methodCallPos
  rw [hf, h3]
  rfl
noncomputable abbrev Zfy (C : Addr) (dx : Option Addr) (ta : Addr) : Obj := ⟨.ref C, dx, .fields #[.ref ta, .none, .none, .none, .bool false, .none], #[]⟩
theorem Zow {a b : Value} : List.lookup ("self" : Str) ((["self", "what"] : List Str).zip [a, b]).reverse = some a := by
  have n1 : ((("self" : Str)) == ("what" : Str)) = false := by decide +kernel
  simp [List.zip_cons_cons, List.lookup_cons, n1]
theorem Zou {a b : Value} : List.lookup ("what" : Str) ((["self", "what"] : List Str).zip [a, b]).reverse = some b := by simp [List.zip_cons_cons, List.lookup_cons]
theorem Zov {a b c : Value} : List.lookup ("self" : Str) ((["self", "what", "spot"] : List Str).zip [a, b, c]).reverse = some a := by
  have n1 : ((("self" : Str)) == ("what" : Str)) = false := by decide +kernel
  have n2 : ((("self" : Str)) == ("spot" : Str)) = false := by decide +kernel
  simp [List.zip_cons_cons, List.lookup_cons, n1, n2]
theorem Zzd {a b c : Value} : List.lookup ("what" : Str) ((["self", "what", "spot"] : List Str).zip [a, b, c]).reverse = some b := by
  have n3 : ((("what" : Str)) == ("spot" : Str)) = false := by decide +kernel
  simp [List.zip_cons_cons, List.lookup_cons, n3]
theorem Zze {a b c : Value} : List.lookup ("spot" : Str) ((["self", "what", "spot"] : List Str).zip [a, b, c]).reverse = some c := by simp [List.zip_cons_cons, List.lookup_cons]
theorem n_ws : ((("what" : Str)) == ("spot" : Str)) = false := by decide +kernel
theorem Zym {ts : List Str} {vs : List Value} {y : Str × Value} (h : y ∈ ts.zip vs) : y.1 ∈ ts := (List.of_mem_zip h).1
theorem Zach {e ta : Addr} {v : Value} {nm q : Str} {N : Addr} {bs bm : List Value} {hdct : Bool} {sn : List Str} {sub : List Value} {ab : Bool} {col : Option Bool} {dd : Option Addr} {k0 k1 k2 k3 k5 : Option Value} {newId : String} {l : Nat}
    (XX : XK prog K) (X : K.In s.heap) (T : TopRead p loose mg mb s.heap) (D : XD prog K a cc ["self", "what"] (Zdj l "what") fd) (S : XSu prog K C Dc cc cd (.builtin "Exception.__init__")) (Y : XSt K C "what" cd)
    (hC : K.lookup C = some (excClassObj nm q C N bs bm hdct sn sub ab col dd k0 k1 k2 k3 k5 newId)) (hcB : (Value.ref C :: bm).contains (.type "Exception") = true)
    (hroom : A.depth < recursionLimit) (hx : s.heap.get? e = some (Zfy C none ta)) (hne : K.lookup e = none)
    (hq : ∀ h' tk dx ta' k, (∀ b o, b ≠ e → s.heap.get? b = some o → h'.get? b = some o) → h'.get? e = some (Zfy C (some dx) ta') → s.heap.get? dx = none → h'.get? dx = some (dictOf [⟨PyData.keyHash w.params "what", .str "what" k, v⟩] 1) → R (.ok (.ret .none)) { s with heap := h', toks := tk }) :
    codeAny (model prog w) A (.call (.ref a) ⟨[.ref e, v], []⟩) R s := by
  obtain ⟨fo, hfo, hfd⟩ := D.obj
  obtain ⟨c, oc, vs, t, file, tf, c1, c2, c3, c4, c5, c6⟩ := D.code
  have neC : e ≠ C := fun z => by
    have := X _ _ hC
    rw [z, this] at hx
    cases hx
  refine ks_codeAny_call_defAt hroom (X _ _ hfo) hfd T.nolimit ⟨c, oc, vs, t, c1, X _ _ c2, c3, c4⟩ D.body (.of_eq (D.bind [.ref e, v] rfl)) D.cell (fun y hy => ?_) (fun h₁ hns hk => ?_) D.co D.gen D.kind
  · exact D.loc _ (Zym hy)
  have ls : fd.scope.names.lookup ("self" : Str) = some .local := D.loc _ (by exact .head _)
  have lw : fd.scope.names.lookup ("what" : Str) = some .local := D.loc _ (by exact .tail _ (.head _))
  have hx1 := hk _ _ hx
  refine ks_wpAt_execs_cons (ks_wpAt_Expr_any (ks_wpAt_MethodCall (Zkm XX (X.keeps hk) (T.keeps hk) D S hx1 rfl (fun _ z => by contradiction) hns Zow ls (by decide +kernel) fun h₂ e₂ k₂ => ?_) (Zuz (beq_self_eq_true l))) ?_)
  · have hx2 := k₂ _ _ hx1
    have X2 : K.In h₂ := fun b o y => k₂ _ _ (hk _ _ (X b o y))
    have ns2 : h₂.Ns s.heap.objs.size _ := hns.keeps k₂
    have hC2 := X2 _ _ hC
    refine Zlk e₂ (looks_opaque X2 XX.any) (l₀ := cd.mro) (fun A Q E s k q => wpAny_bind ((looks_clsIn X2 S.own) A _ E s k (wpAny_pure q))) rfl X2 S.way hC2 hx2 rfl hcB neC (by decide +kernel) ?_
    have k3 : ∀ b o, h₂.get? b = some o → (h₂.push (Zdd e)).get? b = some o := fun b o y => Heap.get?_push_of_some _ y
    have hmw : (h₂.push (Zdd e)).get? h₂.objs.size = some (Zdd e) := Heap.get?_push_size _ rfl
    refine callWith_of (P := fun h => h.get? h₂.objs.size = some (Zdd e)) rfl (fun h hP => ⟨.machine, .inr (.inl rfl), (Looks.ld (part := none) hP).andThen .now⟩)
      (evalArgs_plain (spliced_cons (wpAny_Name (wpAny_loadName_local D.kind lw (ns2.keeps k3) Zou (spliced_nil ⟨hmw, ?_⟩)) (by decide +kernel))))
    refine wpAny_call (Zvu hmw (k3 _ _ hC2) (k3 _ _ hx2) fun h₄ k₄ e₄ => ?_)
    have neL : s.heap.objs.size ≠ e := fun z => by
      have := Heap.lt_size hx
      rw [← z] at this
      exact absurd this (Nat.lt_irrefl _)
    obtain ⟨oL, es, ep, hL, hrest⟩ := id ns2
    have ns4 : h₄.Ns s.heap.objs.size _ := ns2.at' fun o y => k₄ _ _ neL (k3 _ _ y)
    have k04 : ∀ b o, b ≠ e → s.heap.get? b = some o → h₄.get? b = some o := fun b o ne y => k₄ _ _ ne (k3 _ _ (k₂ _ _ (hk _ _ y)))
    have X4 : K.In h₄ := fun b o y => k04 b o (fun z => by
      have y : K.lookup b = some o := y
      rw [z, hne] at y
      contradiction) (X b o y)
    refine ks_wpAt_execs_cons (ks_wpAt_Assign_Attr (_root_.PySem.wpAt_of_wpAny (wpAny_Name (wpAny_loadName_local D.kind lw ns4 Zou (wpAny_Name (wpAny_loadName_local D.kind ls ns4 Zow ?_) (by decide +kernel))) (by decide +kernel))) rfl)
    refine Zvt X4 ⟨e₄, rfl, rfl, trivial⟩ rfl Y fun h₅ k₅ e₅ d₅ => ?_
    refine _root_.PySem.wpAt_of_wpAny (wpAny_execs_nil ?_)
    refine hq h₅ _ h₄.objs.size _ _ (fun b o ne y => k₅ _ _ ne (k04 _ _ ne y)) e₅ (Zbi (Nat.le_of_lt ns4.lt)) d₅
  · show interactive (callEnv fd s.heap.objs.size a) = false
    unfold interactive
    rw [show (callEnv fd s.heap.objs.size a).scope.kind = .function from D.kind]
    rfl
theorem xf_sp {a2 cc2 D2 e ta : Addr} {fd2 : FuncData} {v y : Value} {nm q : Str} {N : Addr} {bs bm : List Value} {hdct : Bool} {sn : List Str} {sub : List Value} {ab : Bool} {col : Option Bool} {dd : Option Addr} {k0 k1 k2 k3 k5 : Option Value} {newId : String} {l l2 : Nat}
    (XX : XK prog K) (X : K.In s.heap) (T : TopRead p loose mg mb s.heap) (D : XD prog K a cc ["self", "what"] (Zdj l "what") fd) (S : XSu prog K C Dc cc cd (.builtin "Exception.__init__")) (Y : XSt K C "what" cd)
    (D' : XD prog K a2 cc2 ["self", "what", "spot"] (Zdj l2 "spot") fd2) (S' : XSu prog K C D2 cc2 cd (.ref a)) (Y' : XSt K C "spot" cd) (hfn : typeIn K (.ref a) = some (.type "function"))
    (hC : K.lookup C = some (excClassObj nm q C N bs bm hdct sn sub ab col dd k0 k1 k2 k3 k5 newId)) (hcB : (Value.ref C :: bm).contains (.type "Exception") = true)
    (hroom : A.depth + 1 < recursionLimit) (hx : s.heap.get? e = some (Zfy C none ta)) (hne : K.lookup e = none)
    (hq : ∀ h' tk dx ta' k k', (∀ b o, b ≠ e → s.heap.get? b = some o → h'.get? b = some o) → h'.get? e = some (Zfy C (some dx) ta') → s.heap.get? dx = none → h'.get? dx = some (dictOf [⟨PyData.keyHash w.params "what", .str "what" k, v⟩, ⟨PyData.keyHash w.params "spot", .str "spot" k', y⟩] 2) → R (.ok (.ret .none)) { s with heap := h', toks := tk }) :
    codeAny (model prog w) A (.call (.ref a2) ⟨[.ref e, v, y], []⟩) R s := by
  obtain ⟨fo, hfo, hfd⟩ := D'.obj
  obtain ⟨c, oc, vs, t, file, tf, c1, c2, c3, c4, c5, c6⟩ := D'.code
  have neC : e ≠ C := fun z => by
    have := X _ _ hC
    rw [z, this] at hx
    cases hx
  refine ks_codeAny_call_defAt (Nat.lt_of_succ_lt hroom) (X _ _ hfo) hfd T.nolimit ⟨c, oc, vs, t, c1, X _ _ c2, c3, c4⟩ D'.body (.of_eq (D'.bind [.ref e, v, y] rfl)) D'.cell (fun z hz => ?_) (fun h₁ hns hk => ?_) D'.co D'.gen D'.kind
  · exact D'.loc _ (Zym hz)
  have ls : fd2.scope.names.lookup ("self" : Str) = some .local := D'.loc _ (by exact .head _)
  have lw : fd2.scope.names.lookup ("what" : Str) = some .local := D'.loc _ (by exact .tail _ (.head _))
  have lp : fd2.scope.names.lookup ("spot" : Str) = some .local := D'.loc _ (by decide)
  have hx1 := hk _ _ hx
  refine ks_wpAt_execs_cons (ks_wpAt_Expr_any (ks_wpAt_MethodCall (Zkm XX (X.keeps hk) (T.keeps hk) D' S' hx1 rfl (fun _ z => by contradiction) hns Zov ls (by decide +kernel) fun h₂ e₂ k₂ => ?_) (Zuz (beq_self_eq_true l2))) ?_)
  · have hx2 := k₂ _ _ hx1
    have X2 : K.In h₂ := fun b o y => k₂ _ _ (hk _ _ (X b o y))
    have ns2 : h₂.Ns s.heap.objs.size _ := hns.keeps k₂
    have hC2 := X2 _ _ hC
    obtain ⟨of, hof, hofc⟩ : ∃ of, K.lookup a = some of ∧ of.cls = .type "function" := by
      have ht' : (K.lookup a).map (·.cls) = some (.type "function") := hfn
      cases z : K.lookup a with
      | none => rw [z] at ht'; contradiction
      | some of => rw [z] at ht'; exact ⟨of, rfl, Option.some.inj ht'⟩
    refine ks_wpAny_getMethod_super e₂ (looks_opaque X2 XX.any) (l₀ := cd.mro) (fun A Q E s k q => wpAny_bind ((looks_clsIn X2 S.own) A _ E s k (wpAny_pure q))) rfl X2 S'.way (X2 _ _ hof) hofc neC (by decide +kernel) ?_
    have k3 : ∀ b o, h₂.get? b = some o → (h₂.push (methodObj (.ref a) (.ref e))).get? b = some o := fun b o y => Heap.get?_push_of_some _ y
    have hmw : (h₂.push (methodObj (.ref a) (.ref e))).get? h₂.objs.size = some (methodObj (.ref a) (.ref e)) := Heap.get?_push_size _ rfl
    obtain ⟨fo1, hfo1, hfd1⟩ := D.obj
    refine callWith_of (P := fun h => h.get? h₂.objs.size = some (methodObj (.ref a) (.ref e)) ∧ h.get? a = some fo1) rfl (fun h hP => ⟨.boundFrame, .inr (.inr rfl), (Looks.ld (part := none) hP.1).andThen ((Looks.ld (part := none) hP.2).andThen (by rw [hfd1]; exact .now))⟩)
      (evalArgs_plain (spliced_cons (wpAny_Name (wpAny_loadName_local D'.kind lw (ns2.keeps k3) Zzd (spliced_nil ⟨⟨hmw, k3 _ _ (X2 _ _ hfo1)⟩, ?_⟩)) (by decide +kernel))))
    refine wpAny_call (ks_codeAny_call_bound hmw (Zach XX (fun b o y => k3 _ _ (X2 b o y)) ((T.keeps hk).keeps fun b o y => k3 _ _ (k₂ _ _ y)) D S Y hC hcB (by show A.depth + 1 < _; exact hroom) (k3 _ _ hx2) hne fun h₄ tk₄ dx ta' k' k₄ e₄ f₄ d₄ => ?_))
    have neL : s.heap.objs.size ≠ e := fun z => by
      have := Heap.lt_size hx
      rw [← z] at this
      exact absurd this (Nat.lt_irrefl _)
    have ns4 : h₄.Ns s.heap.objs.size _ := ns2.at' fun o y => k₄ _ _ neL (k3 _ _ y)
    have k04 : ∀ b o, b ≠ e → s.heap.get? b = some o → h₄.get? b = some o := fun b o ne y => k₄ _ _ ne (k3 _ _ (k₂ _ _ (hk _ _ y)))
    have X4 : K.In h₄ := fun b o y => k04 b o (fun z => by
      have y : K.lookup b = some o := y
      rw [z, hne] at y
      contradiction) (X b o y)
    have fdx : s.heap.get? dx = none := by
      cases z : s.heap.get? dx with
      | none => rfl
      | some o => rw [k3 _ _ (k₂ _ _ (hk _ _ z))] at f₄; contradiction
    have nedx : dx ≠ e := fun z => by rw [z, hx] at fdx; contradiction
    refine ks_wpAt_execs_cons (ks_wpAt_Assign_Attr (_root_.PySem.wpAt_of_wpAny (wpAny_Name (wpAny_loadName_local D'.kind lp ns4 Zze (wpAny_Name (wpAny_loadName_local D'.kind ls ns4 Zov ?_) (by decide +kernel))) (by decide +kernel))) rfl)
    refine Zvs X4 ⟨e₄, rfl, rfl, d₄⟩ rfl Y' rfl (by simp) fun h₅ k₅ d₅ => ?_
    refine _root_.PySem.wpAt_of_wpAny (wpAny_execs_nil ?_)
    refine hq h₅ _ dx ta' k' (tk₄ + 1) (fun b o ne y => k₅.extBut b o (fun z => by rw [z, fdx] at y; contradiction) (k04 _ _ ne y)) (k₅.extBut e _ (Ne.symm nedx) e₄) fdx ?_
    have e1 : (Value.str ("what" : Str) k').isStr ("spot" : Str) = false := n_ws
    have p1 : ∀ H T, putL ("spot" : Str) H T y [⟨PyData.keyHash w.params "what", .str "what" k', v⟩] = [⟨PyData.keyHash w.params "what", .str "what" k', v⟩, ⟨H, T, y⟩] := fun H T => by simp [putL, e1]
    have p2 : putN ("spot" : Str) [⟨PyData.keyHash w.params "what", .str "what" k', v⟩] 1 = 2 := by simp [putN, e1]
    rw [p1, p2] at d₅
    exact d₅
  · show interactive (callEnv fd2 s.heap.objs.size a2) = false
    unfold interactive
    rw [show (callEnv fd2 s.heap.objs.size a2).scope.kind = .function from D'.kind]
    rfl
end
theorem t_spot : tg 67 = ("spot" : Str) := by decide +kernel
theorem Zts {C : Cx} {K : Frag} {kf a cc Dc a2 cc2 D2 : Addr} {fd fd2 : FuncData} {cd : ClassData} {nm q : Str} {N : Addr} {bs bm : List Value} {hdct : Bool} {sn : List Str} {sub : List Value} {ab : Bool} {col : Option Bool} {dd : Option Addr} {k0 k1 k2 k3 k5 : Option Value} {l l2 : Nat}
    (XX : XK C.prog K) (top : ∃ p loose mg mb, TopRead p loose mg mb C.h₀) (D : XD C.prog K a cc ["self", "what"] (Zdj l "what") fd) (S : XSu C.prog K kf Dc cc cd (.builtin "Exception.__init__")) (Y : XSt K kf "what" cd)
    (D' : XD C.prog K a2 cc2 ["self", "what", "spot"] (Zdj l2 "spot") fd2) (S' : XSu C.prog K kf D2 cc2 cd (.ref a)) (Y' : XSt K kf "spot" cd) (hfn : typeIn K (.ref a) = some (.type "function")) (hf2 : typeIn K (.ref a2) = some (.type "function"))
    (hi : findIn K (.ref kf) "__init__" = some (some (.ref a2)))
    (hC : K.lookup kf = some (excClassObj nm q kf N bs bm hdct sn sub ab col dd k0 k1 k2 k3 k5 "Exception.__new__")) (hT : Zio [.type "Exception", .type "BaseException", .type "object"] bm) : Ziv C K kf := by
  intro A s x t u i Q E X st hd hu hh hx h
  obtain ⟨p, loose, mg, mb, T⟩ := top
  obtain ⟨hp, g, d, tk, os⟩ := s
  have kk : ∀ b o, hp.get? b = some o → ((hp.push { cls := .type "tuple", data := .seq [Value.str x t, .int i u].toArray }).push { cls := .ref kf, data := .fields #[.ref hp.objs.size, .none, .none, .none, .bool false, .none] }).get? b = some o := fun b o e => Heap.get?_push_of_some _ (Heap.get?_push_of_some _ e)
  have ne : hp.get? (hp.objs.size + 1) = none := Zbi (Nat.le_succ _)
  have Kne : K.lookup (hp.objs.size + 1) = none := by
    cases z : K.lookup (hp.objs.size + 1) with
    | none => rfl
    | some o => have := X _ _ z; rw [ne] at this; contradiction
  refine Zvv PySem.F.excBase_Exception hT (X _ _ hC) (show 2 ≤ sizeLine by decide) (looks_findIn X hi) (fun self => bind_fn X self hf2) ?_
  have he : ((hp.push { cls := .type "tuple", data := .seq [Value.str x t, .int i u].toArray }).push { cls := .ref kf, data := .fields #[.ref hp.objs.size, .none, .none, .none, .bool false, .none] }).get? (hp.objs.size + 1) = some (Zfy kf none hp.objs.size) := by heap_get
  refine wpAny_call (xf_sp (e := hp.objs.size + 1) (ta := hp.objs.size) XX (X.keeps kk) ((T.keeps st).keeps kk) D S Y D' S' Y' hfn hC (by rw [List.contains_cons, hT _ _ (show List.contains [Value.type "Exception", .type "BaseException", .type "object"] (.type "Exception") = true by decide +kernel), Bool.or_true]) ?_ he Kne fun h' tk' dx ta' k k' k1 e1 f1 d1 => ⟨rfl, ?_⟩)
  · show A.depth + 1 + 1 < _
    lia
  · have fx : hp.get? dx = none := by
      cases z : hp.get? dx with
      | none => rfl
      | some o => have := kk _ _ z; rw [f1] at this; contradiction
    refine h h' tk' (hp.objs.size + 1) dx (.ref ta') _ _ (fun b o e => k1 b o (fun z => by rw [z, ne] at e; contradiction) (kk b o e)) ne e1 fx d1 ?_
    rw [t_spot]
    have e1 : (Value.str ("what" : Str) k).isStr ("spot" : Str) = false := (show (("what" : Str) == ("spot" : Str)) = false by decide +kernel)
    have e2 : (Value.str ("spot" : Str) k').isStr ("spot" : Str) = true := (show (("spot" : Str) == ("spot" : Str)) = true by decide +kernel)
    unfold getL
    simp [e1, e2]
structure Tb where
  df : Addr → Option (List Nat × List Sm)
  ci : Addr → Option Addr
noncomputable def Zbc (Q : QV) : QS := fun f _ σ => match f with
  | .next => Q .none σ
  | .ret v => Q v σ
noncomputable def Zag (X : XV') : XS := fun i _ σ => X i σ
noncomputable def Zvf (x : Addr) (Q : QV) : QS := fun f _ σ => match f with
  | .next => Q (.obj x) σ
  | .ret v => v = .none ∧ Q (.obj x) σ
noncomputable def Zjp (G : Pg) (T : Tb) (S : Spec) (n : Nat) (st : Bool) (a : Addr) (vs : List PV) (σ : Store) (Q : QV) (X : XV') : Prop :=
  match T.df a with
  | some (ts, ss) => vs.length = ts.length ∧ Za G S st n ss (Zaz ts vs) σ (Zbc Q) (Zag X)
  | none => match T.ci a with
    | some b => (match n, T.df b with
      | m + 1, some (t :: ts, ss) => vs.length = ts.length ∧ ∀ x dx, σ x = none → σ dx = none → x ≠ dx →
          Za G S st m ss (Zaz (t :: ts) (.obj x :: vs)) ((σ.upd dx (.attrs [])).upd x (.inst a dx)) (Zvf x Q) (Zag X)
      | _, _ => False)
    | none => False
noncomputable def run (G : Pg) (T : Tb) : Nat → Spec
  | 0 => fun _ _ _ _ _ _ _ => False
  | n + 1 => fun st d a vs σ Q X => (d < n ∧ run G T n st d a vs σ Q X) ∨ (d = n ∧ Zjp G T (run G T n) n st a vs σ Q X)
structure TbOk (C : Cx) (K : Frag) (T : Tb) : Prop where
  df : ∀ a ts ss, T.df a = some (ts, ss) → ∃ fd, Def C K a fd ts ss ∧ (Zhx fd ts ∨ Zes fd ts)
  ci : ∀ c b, T.ci c = some b → makesIn K c = true ∧ findIn K (.ref c) "__init__" = some (some (.ref b)) ∧ typeIn K (.ref b) = some (.type "function")
theorem run_snd {C : Cx} {K : Frag} {G : Pg} {kf : Addr} {T : Tb} (O : Ok C K G kf) (TO : TbOk C K T) : ∀ n, SpB C kf (run G T n) n
  | 0 => fun _ _ h => absurd h (Nat.not_lt_zero _)
  | n + 1 => by
    have ih := run_snd O TO n
    intro st d hd a vs σ Q X h A outs s ws hb hh hfr I r
    rcases h with ⟨hd', h⟩ | ⟨rfl, h⟩
    · exact ih st d hd' a vs σ Q X h A outs s ws hb hh hfr I r
    · refine wpAny_call ?_
      unfold Zjp at h
      cases hdf : T.df a with
      | some x =>
        obtain ⟨ts, ss⟩ := x
        rw [hdf] at h
        obtain ⟨fd, D, hp⟩ := TO.df a ts ss hdf
        obtain ⟨hl, w⟩ := h
        exact codeAny_mono (Zho O ih D hp hl hb hh hfr I r w) fun r s' hr => by
          cases r with
          | error e => exact hr
          | ok f => cases f <;> first | exact hr | exact hr.elim
      | none =>
        rw [hdf] at h
        cases hci : T.ci a with
        | none => rw [hci] at h; exact h.elim
        | some b =>
          rw [hci] at h
          obtain ⟨c1, c2, c3⟩ := TO.ci a b hci
          cases d with
          | zero => exact h.elim
          | succ m =>
            cases hdb : T.df b with
            | none => dsimp only at h; rw [hdb] at h; exact h.elim
            | some x =>
              obtain ⟨ts, ss⟩ := x
              dsimp only at h
              rw [hdb] at h
              cases ts with
              | nil => exact h.elim
              | cons t ts =>
                obtain ⟨fd, D, hp⟩ := TO.df b _ ss hdb
                obtain ⟨hl, w⟩ := h
                exact codeAny_mono (Zur O (fun st d hd => ih st d (Nat.lt_succ_of_lt hd)) D hp c1 c2 c3 hl hb hh hfr I r w) fun r s' hr => by
                  cases r with
                  | error e => exact hr
                  | ok f => cases f <;> first | exact hr | exact hr.elim
noncomputable def GP (scr : Addr) (cells : List PV) : Pg where
  gv t := Loc.get gvT t
  cdt a := if a = 103 then some callsT else if a = 499 then some worldT else none
  fn t := fnT.lookup t
  mt c t := if c = 257 then namesT.lookup t else if c = 494 then kindsT.lookup t else none
  ct _ := none
  cl a := if a = scr then some cells else none
  at_ c t := if c = 257 then [93, 104].contains t else if c = 494 then [83, 105, 106, 107, 108, 109].contains t else false
noncomputable def TP : Tb where
  df a := dfT.lookup a
  ci a := if a = 257 then some 226 else if a = 494 then some 275 else none
section
variable {scr : Addr} {cells : List PV}
theorem gcd_calls : (GP scr cells).cdt 103 = some callsT := rfl
theorem gcd_world : (GP scr cells).cdt 499 = some worldT := rfl
end
section
variable {G : Pg} {S : Spec} {st : Bool} {d : Nat} {σ : Store} {lo lo₁ : Loc} {Q : QV} {X : XV'} {p p' p₁ : Pos}
noncomputable def Ev (G : Pg) (st : Bool) (σ : Store) (lo : Loc) (e : Ex) (v : PV) : Prop := ∀ S d Q X, Q v σ → wpE G S st d e lo σ Q X
noncomputable def Evs (G : Pg) (st : Bool) (σ : Store) (lo : Loc) (es : List Ex) (vs : List PV) : Prop := ∀ S d Q X, Q vs σ → Zz G S st d es lo σ Q X
theorem Ev.non : Ev G st σ lo (.non p) .none := fun _ _ _ _ q => q
theorem Ev.bool {b : Bool} : Ev G st σ lo (.bool b p) (.bool b) := fun _ _ _ _ q => q
theorem Ev.int {i : Int} : Ev G st σ lo (.int i p) (.int i) := fun _ _ _ _ q => q
theorem Ev.minus {i : Int} : Ev G st σ lo (.minus i p₁ p) (.int (-i)) := fun _ _ _ _ q => q
theorem Ev.str {t : Nat} : Ev G st σ lo (.str t p) (.tag t) := fun _ _ _ _ q => q
theorem Zmq {o : Option PV} {v : PV} (h : o = some v) (q : Q v σ) : Zng o σ Q := by rw [h]; exact q
theorem Zm {u t : Nat} {x v : PV} (h : Nat.beq u t = false) (k : Loc.get lo t = some v) : Loc.get ((u, x) :: lo) t = some v := by
  show (if u = t then some x else Loc.get lo t) = some v
  rw [if_neg (Nat.ne_of_beq_eq_false h)]; exact k
theorem Ev.var {t : Nat} {v : PV} (h : lo.get t = some v) : Ev G st σ lo (.var t p) v := fun _ _ _ _ q => Zmq h q
theorem Ev.glob {t : Nat} {v : PV} (h : G.gv t = some v) : Ev G st σ lo (.glob t p) v := fun _ _ _ _ q => Zmq h q
theorem Evs.nil : Evs G st σ lo [] [] := fun _ _ _ _ q => q
theorem Evs.cons {e : Ex} {r : List Ex} {v : PV} {vs : List PV} (h : Ev G st σ lo e v) (k : Evs G st σ lo r vs) : Evs G st σ lo (e :: r) (v :: vs) := fun S d _ X q => h S d _ X (k S d _ X q)
theorem Ev.tup {es : List Ex} {k : Nat} {vs : List PV} (h : Evs G st σ lo es vs) (l : vs.length ≤ 1000) : Ev G st σ lo (.tup es k p) (.tup vs) := fun S d _ X q => h S d _ X ⟨l, q⟩
theorem Ev.sub {a i : Ex} {x y r : PV} (h : Ev G st σ lo a x) (k : Ev G st σ lo i y) (m : Item G σ x y r) : Ev G st σ lo (.sub a i p) r := fun S d _ X q => h S d _ X (k S d _ X ⟨r, m, q⟩)
theorem Ev.cmp {a c : Ex} {op : CmpOp} {x y : PV} {b : Bool} (h : Ev G st σ lo a x) (k : Ev G st σ lo c y) (m : Cmp G σ op x y b) : Ev G st σ lo (.cmp a op c p) (.bool b) := fun S d _ X q => h S d _ X (k S d _ X ⟨b, m, q⟩)
theorem Ev.add {a c : Ex} {i j : Int} (h : Ev G st σ lo a (.int i)) (k : Ev G st σ lo c (.int j)) : Ev G st σ lo (.bin a .Add c p) (.int (i + j)) := fun S d _ X q => h S d _ X (k S d _ X (.add q))
theorem Ev.minus2 {a c : Ex} {i j : Int} (h : Ev G st σ lo a (.int i)) (k : Ev G st σ lo c (.int j)) : Ev G st σ lo (.bin a .Sub c p) (.int (i - j)) := fun S d _ X q => h S d _ X (k S d _ X (.sub q))
theorem Ev.mul {a c : Ex} {i j : Int} (h : Ev G st σ lo a (.int i)) (k : Ev G st σ lo c (.int j)) (s : Zaq i = true) (s' : Zaq j = true) : Ev G st σ lo (.bin a .Mult c p) (.int (i * j)) := fun S d _ X q => h S d _ X (k S d _ X (.mul s s' q))
theorem Ev.mod {a c : Ex} {i j : Int} (h : Ev G st σ lo a (.int i)) (k : Ev G st σ lo c (.int j)) (s : 0 < j) : Ev G st σ lo (.bin a .Mod c p) (.int (Int.emod i j)) := fun S d _ X q => h S d _ X (k S d _ X (.mod s q))
theorem Ev.cat {a c : Ex} {x y : PV} {n m : Nat} (h : Ev G st σ lo a x) (k : Ev G st σ lo c y) (hn : isStrP x = some n) (hm : isStrP y = some m) (l : n + m ≤ 100000) : Ev G st σ lo (.bin a .Add c p) (.msg (n + m)) := fun S d _ X q => h S d _ X (k S d _ X (.txts hn hm l q))
theorem Ev.neg {a : Ex} {b : Bool} (h : Ev G st σ lo a (.bool b)) : Ev G st σ lo (.neg a p) (.bool (!b)) := fun S d _ X q => h S d _ X q
theorem Ev.iteT {c a e : Ex} {b : Bool} {v : PV} (h : Ev G st σ lo c (.bool b)) (hb : b = true) (k : Ev G st σ lo a v) : Ev G st σ lo (.ite c a e p) v := fun S d _ X q => h S d _ X (by subst hb; exact k S d _ X q)
theorem Ev.iteF {c a e : Ex} {b : Bool} {v : PV} (h : Ev G st σ lo c (.bool b)) (hb : b = false) (k : Ev G st σ lo e v) : Ev G st σ lo (.ite c a e p) v := fun S d _ X q => h S d _ X (by subst hb; exact k S d _ X q)
theorem Ev.iteTag {c a e : Ex} {b : Bool} {x y : Nat} (h : Ev G st σ lo c (.bool b)) (k : Ev G st σ lo a (.tag x)) (l : Ev G st σ lo e (.tag y)) : Ev G st σ lo (.ite c a e p) (.tag (cond b x y)) := fun S d _ X q => h S d _ X (by
  cases b with
  | true => exact k S d _ X q
  | false => exact l S d _ X q)
theorem Ev.and1 {e : Ex} {v : PV} (h : Ev G st σ lo e v) {op : BoolOp} : Ev G st σ lo (.bop op [e] p) v := fun S d _ X q => h S d _ X q
theorem Ev.and2 {e e2 : Ex} {r : List Ex} {b b2 : Bool} (h : Ev G st σ lo e (.bool b)) (k : b = true → Ev G st σ lo (.bop .And (e2 :: r) p) (.bool b2)) : Ev G st σ lo (.bop .And (e :: e2 :: r) p) (.bool (b && b2)) := fun S d _ X q => h S d _ X (by
  cases b with
  | true => exact k rfl S d _ X q
  | false => exact q)
theorem Ev.or2 {e e2 : Ex} {r : List Ex} {b b2 : Bool} (h : Ev G st σ lo e (.bool b)) (k : b = false → Ev G st σ lo (.bop .Or (e2 :: r) p) (.bool b2)) : Ev G st σ lo (.bop .Or (e :: e2 :: r) p) (.bool (b || b2)) := fun S d _ X q => h S d _ X (by
  cases b with
  | true => exact q
  | false => exact k rfl S d _ X q)
theorem Ev.attr {a : Ex} {t : Nat} {o c dd : Addr} {es : List (Nat × PV)} {r : PV} (h : Ev G st σ lo a (.obj o)) (h1 : σ o = some (.inst c dd)) (h2 : σ dd = some (.attrs es)) (h3 : Loc.get es t = some r) (h4 : G.at_ c t = true) : Ev G st σ lo (.attr a t p) r := fun S d _ X q => h S d _ X ⟨o, c, dd, es, r, ⟨rfl, h1, h2⟩, h3, h4, q⟩
theorem Zdm {f : Nat} {v : PV} (hc : hasCd [v] = true → st = true) (q : bi1 G σ f v Q) : Zdz G st f Q [v] σ := ⟨hc, v, rfl, q⟩
theorem Ev.len {e : Ex} {v : PV} {vs : List PV} (h : Ev G st σ lo e v) (hc : hasCd [v] = false) (l : ListP σ v vs) (n : vs.length ≤ 1000) : Ev G st σ lo (.bcall 187 [e] p p') (.int vs.length) := fun S d _ X q => h S d _ X (Zdm (fun z => by rw [hc] at z; contradiction) ⟨vs, l, n, q⟩)
theorem Ev.toInt {e : Ex} {i : Int} (h : Ev G st σ lo e (.int i)) : Ev G st σ lo (.bcall 0 [e] p p') (.int i) := fun S d _ X q => h S d _ X (Zdm (fun z => by contradiction) ⟨i, rfl, q⟩)
theorem Ev.toTup {e : Ex} {a : Addr} {vs : List PV} (h : Ev G st σ lo e (.obj a)) (l : σ a = some (.list vs)) (n : vs.length ≤ 1000) : Ev G st σ lo (.bcall 188 [e] p p') (.tup vs) := fun S d _ X q => h S d _ X (Zdm (fun z => by contradiction) ⟨a, vs, rfl, l, n, q⟩)
theorem Ev.cget {o : Ex} {es : List Ex} {a : Addr} {fs : List (Nat × PV)} {t : Nat} {w : PV} (h : Ev G st σ lo o (.cd a)) (hd : G.cdt a = some fs) (k : Evs G st σ lo es [.tag t, w]) : Ev G st σ lo (.mcall o 128 es p p') ((Loc.get fs t).getD w) := fun S d _ X q => h S d _ X (.cget a fs rfl hd rfl (k S d _ X ⟨fs, t, w, hd, rfl, q⟩))
theorem Ev.get {o : Ex} {es : List Ex} {a : Addr} {fs : List (Nat × PV)} {t : Nat} {w : PV} (h : Ev G st σ lo o (.obj a)) (hd : σ a = some (.dict fs)) (k : Evs G st σ lo es [.tag t, w]) : Ev G st σ lo (.mcall o 128 es p p') ((Loc.get fs t).getD w) := fun S d _ X q => h S d _ X (.get a fs rfl hd rfl (k S d _ X ⟨fs, t, w, by unfold Zgr; rw [hd], rfl, q⟩))
theorem Ev.lcond {x src : Nat} {xp xp' sp : Pos} {i : Int} {ip cp bp : Pos} {sc : Scope} {lp n1 : Pos} {a : Addr} {vs ws : List PV} (h : lo.get src = some (.obj a)) (ha : σ a = some (.list vs)) (f : FilterR i vs ws) (hs : st = true) (l : vs.length ≤ 8) : Ev G st σ lo (.lcond x xp xp' src sp i ip cp bp sc lp n1 p) (.int ws.length) := fun S d _ X q => ⟨a, vs, ws, h, ha, f, hs, l, q⟩
theorem Ev.lenset {e : Ex} {n1 n2 p2 : Pos} {vs : List PV} {ns : List Nat} (h : Ev G st σ lo e (.tup vs)) (t : tagsOf vs = some ns) (hs : st = true) (l : ns.length ≤ 4) : Ev G st σ lo (.lenset e n1 n2 p2 p) (.int (distinctN [] ns)) := fun S d _ X q => h S d _ X ⟨vs, ns, rfl, t, hs, l, q⟩
noncomputable def Msg (N : Nat) (G : Pg) (S : Spec) (st : Bool) (d : Nat) (σ : Store) (lo : Loc) (e : Ex) : Prop := ∀ Q X, (∀ v n, isStrP v = some n → n ≤ N → Q v σ) → wpE G S st d e lo σ Q X
noncomputable def Msgs (N : Nat) (G : Pg) (S : Spec) (st : Bool) (d : Nat) (σ : Store) (lo : Loc) (es : List Ex) : Prop := ∀ (Q : Nat → Store → Prop) X k, k + N * es.length ≤ 100000 → (∀ n, n ≤ k + N * es.length → Q n σ) → wpF G S st d es lo σ k Q X
theorem Msg.ev {N : Nat} {e : Ex} {v : PV} {n : Nat} (h : Ev G st σ lo e v) (k : isStrP v = some n) (l : n ≤ N) : Msg N G S st d σ lo e := fun Q X q => h S d Q X (q v n k l)
theorem Msg.int {N : Nat} {e : Ex} {i : Int} (h : Ev G st σ lo e (.int i)) (k : Zaq i = true) (l : 20 ≤ N) : Msg N G S st d σ lo (.fval e p) := fun Q X q => h S d _ X (.inl ⟨i, rfl, k, q _ _ rfl l⟩)
theorem Msg.fval {N : Nat} {e : Ex} (h : Msg N G S st d σ lo e) (l : N ≤ 1000) : Msg N G S st d σ lo (.fval e p) := fun Q X q => h _ X fun v n k m => .inr ⟨n, k, Nat.le_trans m (Nat.le_trans l (by decide)), q v n k m⟩
theorem Msgs.nil {N : Nat} : Msgs N G S st d σ lo [] := fun Q X k _ q => q k (Nat.le_refl _)
theorem Zyb {n m : Nat} {w : Store → Nat → (Nat → Store → Prop) → XV' → Prop} {Q : Nat → Store → Prop} {v : PV} (h : isStrP v = some m) (l : n + m ≤ 100000) (q : w σ (n + m) Q X) : Zjy n w Q X v σ := by unfold Zjy; rw [h]; exact ⟨l, q⟩
theorem Msgs.cons {N : Nat} {e : Ex} {r : List Ex} (h : Msg N G S st d σ lo e) (t : Msgs N G S st d σ lo r) : Msgs N G S st d σ lo (e :: r) := fun Q X k l q => h _ X fun v n hv hn => by
  rw [List.length_cons, Nat.mul_succ] at l q
  exact Zyb hv (by lia) (t Q X (k + n) (by lia) fun m hm => q m (by lia))
noncomputable def Txt (G : Pg) (S : Spec) (st : Bool) (d : Nat) (σ : Store) (lo : Loc) (e : Ex) : Prop := Msg 100000 G S st d σ lo e
theorem Msg.fmt {N M : Nat} {es : List Ex} (h : Msgs N G S st d σ lo es) (l : N * es.length ≤ M) (l' : M ≤ 100000) : Msg M G S st d σ lo (.fmt es p) := fun Q X q => h _ X 0 (by lia) fun n hn => q (.msg n) n rfl (by lia)
theorem Zadf {N : Nat} {e : Ex} (h : Msg N G S st d σ lo e) (q : ∀ v n, isStrP v = some n → n ≤ N → Q v σ) : wpE G S st d e lo σ Q X := h Q X q
theorem Zan {e : Ex} {v : PV} (h : Ev G st σ lo e v) (q : Q v σ) : wpE G S st d e lo σ Q X := h S d Q X q
theorem Zc {f : Nat} {args : List Ex} {a : Addr} {vs : List PV} (h : Evs G st σ lo args vs) (hf : G.fn f = some a) (w : S st d a vs σ Q X) : wpE G S st (d + 1) (.call f args p p') lo σ Q X := ⟨d, a, rfl, hf, h S _ _ X w⟩
theorem Zdt {f : Nat} {args : List Ex} {a : Addr} (hf : G.fn f = some a) (w : Zz G S st (d + 1) args lo σ (Zfb S st d a [] Q X) X) : wpE G S st (d + 1) (.call f args p p') lo σ Q X := ⟨d, a, rfl, hf, w⟩
theorem Znb {o : Ex} {m : Nat} {args : List Ex} {a c dd f : Addr} {es : List (Nat × PV)} {vs : List PV} (ho : Ev G st σ lo o (.obj a)) (h1 : σ a = some (.inst c dd)) (h2 : σ dd = some (.attrs es)) (hm : G.mt c m = some f) (hn : Loc.get es m = none) (h : Evs G st σ lo args vs) (w : S st d f (.obj a :: vs) σ Q X) :
    wpE G S st (d + 1) (.mcall o m args p p') lo σ Q X := ho S _ _ X (.inst a c dd es f d ⟨rfl, h1, h2⟩ rfl hm hn (h S _ _ X w))
theorem Zun {o : Ex} {m : Nat} {args : List Ex} {a c dd f : Addr} {es : List (Nat × PV)} (ho : Ev G st σ lo o (.obj a)) (h1 : σ a = some (.inst c dd)) (h2 : σ dd = some (.attrs es)) (hm : G.mt c m = some f) (hn : Loc.get es m = none) (w : Zz G S st (d + 1) args lo σ (Zfb S st d f [.obj a] Q X) X) :
    wpE G S st (d + 1) (.mcall o m args p p') lo σ Q X := ho S _ _ X (.inst a c dd es f d ⟨rfl, h1, h2⟩ rfl hm hn w)
theorem Zpt {a : Addr} {ps vs : List PV} (w : S st d a (ps ++ vs) σ Q X) : Zfb S st d a ps Q X vs σ := w
theorem Zj {e : Ex} {r : List Ex} {v : PV} {Q : LQ} (h : Ev G st σ lo e v) (w : Zz G S st d r lo σ (Zjr v Q) X) : Zz G S st d (e :: r) lo σ Q X := h S d _ X w
theorem Zh {e : Ex} {r : List Ex} {Q : LQ} (w : wpE G S st d e lo σ (Zdl (Zz G S st d r lo) Q X) X) : Zz G S st d (e :: r) lo σ Q X := w
theorem Zk {r : List Ex} {v : PV} {Q : LQ} (w : Zz G S st d r lo σ (Zjr v Q) X) : Zdl (Zz G S st d r lo) Q X v σ := w
theorem Zae {Q : LQ} (q : Q [] σ) : Zz G S st d [] lo σ Q X := q
theorem Zbv {es : List Ex} {vs : List PV} {Q : LQ} (h : Evs G st σ lo es vs) (q : Q vs σ) : Zz G S st d es lo σ Q X := h S d Q X q
theorem Zbs {es : List Ex} {vs : List PV} (h : Evs G st σ lo es vs) (l : vs.length ≤ 1000) (q : Zah σ (.list vs) Q) : wpE G S st d (.lst es p) lo σ Q X := h S d _ X ⟨l, q⟩
theorem Zib {es : List Ex} (w : Zz G S st d es lo σ (Zse Q) X) : wpE G S st d (.lst es p) lo σ Q X := w
theorem Zef {ks : List (Nat × Pos)} {es : List Ex} {vs : List PV} (h1 : ks.length = es.length) (h2 : es.length ≤ 15) (h : Evs G st σ lo es vs) (q : Zah σ (.dict (Zgp [] (dctOf ks vs))) Q) : wpE G S st d (.dct ks es p) lo σ Q X := ⟨h1, h2, h S d _ X q⟩
theorem Zbl {es : List Ex} {k : Nat} (w : Zz G S st d es lo σ (Zsb Q) X) : wpE G S st d (.tup es k p) lo σ Q X := w
theorem Zbj {vs : List PV} (l : vs.length ≤ 1000) (q : Q (.tup vs) σ) : Zsb Q vs σ := ⟨l, q⟩
theorem Zju {vs : List PV} (l : vs.length ≤ 1000) (q : Zah σ (.list vs) Q) : Zse Q vs σ := ⟨l, q⟩
theorem Zbq {a i : Ex} (w : wpE G S st d a lo σ (Zay (wpE G S st d i lo) (Zsc G Q) X) X) : wpE G S st d (.sub a i p) lo σ Q X := w
theorem Zaf {i : Ex} {k : PV → QV} {x : PV} (w : wpE G S st d i lo σ (k x) X) : Zay (wpE G S st d i lo) k X x σ := w
theorem Zby {x y r : PV} (h : Item G σ x y r) (q : Q r σ) : Zsc G Q x y σ := ⟨r, h, q⟩
theorem Zgh {op : CmpOp} {x y : PV} {b : Bool} (h : Cmp G σ op x y b) (q : Q (.bool b) σ) : Zsi G op Q x y σ := ⟨b, h, q⟩
theorem Zep {a c : Ex} {op : CmpOp} (w : wpE G S st d a lo σ (Zay (wpE G S st d c lo) (Zsi G op Q) X) X) : wpE G S st d (.cmp a op c p) lo σ Q X := w
theorem Zqd {a c : Ex} {op : Operator} (w : wpE G S st d a lo σ (Zay (wpE G S st d c lo) (Zzc op Q) X) X) : wpE G S st d (.bin a op c p) lo σ Q X := w
theorem Zeo {a : Ex} (w : wpE G S st d a lo σ (trP (Znj Q)) X) : wpE G S st d (.neg a p) lo σ Q X := w
theorem Zgg {b : Bool} (q : Q (.bool (!b)) σ) : trP (Znj Q) (.bool b) σ := q
theorem Zki {c a e : Ex} (w : wpE G S st d c lo σ (trP (Zin (wpE G S st d a lo) (wpE G S st d e lo) Q X)) X) : wpE G S st d (.ite c a e p) lo σ Q X := w
theorem Zke {a b : WE} (w : a σ Q X) : trP (Zin a b Q X) (.bool true) σ := w
theorem Zkf {a b : WE} (w : b σ Q X) : trP (Zin a b Q X) (.bool false) σ := w
theorem Zqb {c a e : Ex} {b : Bool} (h : Ev G st σ lo c (.bool b)) (hb : b = true) (w : wpE G S st d a lo σ Q X) : wpE G S st d (.ite c a e p) lo σ Q X := h S d _ X (by subst hb; exact w)
theorem Zqc {c a e : Ex} {b : Bool} (h : Ev G st σ lo c (.bool b)) (hb : b = false) (w : wpE G S st d e lo σ Q X) : wpE G S st d (.ite c a e p) lo σ Q X := h S d _ X (by subst hb; exact w)
theorem Zbo {op : BoolOp} {es : List Ex} (w : wpB G S st d op es lo σ Q X) : wpE G S st d (.bop op es p) lo σ Q X := w
theorem Zcp {op : BoolOp} {e : Ex} (w : wpE G S st d e lo σ Q X) : wpB G S st d op [e] lo σ Q X := w
theorem Zqk {op : BoolOp} {e e2 : Ex} {r : List Ex} (w : wpE G S st d e lo σ (trP (Zct op (wpB G S st d op (e2 :: r) lo) Q X)) X) : wpB G S st d op (e :: e2 :: r) lo σ Q X := w
theorem Zabn {w : WE} (q : Q (.bool false) σ) : trP (Zct .And w Q X) (.bool false) σ := q
theorem Zabm {w : WE} (q : w σ Q X) : trP (Zct .And w Q X) (.bool true) σ := q
theorem Zacx {w : WE} (q : w σ Q X) : trP (Zct .Or w Q X) (.bool false) σ := q
theorem Zjw {e e2 : Ex} {r : List Ex} {b : Bool} (h : Ev G st σ lo e (.bool b)) (hb : b = true) (q : Q (.bool true) σ) : wpB G S st d .Or (e :: e2 :: r) lo σ Q X := h S d _ X (by subst hb; exact q)
theorem Zjx {e e2 : Ex} {r : List Ex} {b : Bool} (h : Ev G st σ lo e (.bool b)) (hb : b = false) (w : wpB G S st d .Or (e2 :: r) lo σ Q X) : wpB G S st d .Or (e :: e2 :: r) lo σ Q X := h S d _ X (by subst hb; exact w)
theorem Zcx {e e2 : Ex} {r : List Ex} {b : Bool} (h : Ev G st σ lo e (.bool b)) (hb : b = true) (w : wpB G S st d .And (e2 :: r) lo σ Q X) : wpB G S st d .And (e :: e2 :: r) lo σ Q X := h S d _ X (by subst hb; exact w)
theorem Zga {e e2 : Ex} {r : List Ex} {b : Bool} (h : Ev G st σ lo e (.bool b)) (hb : b = false) (q : Q (.bool false) σ) : wpB G S st d .And (e :: e2 :: r) lo σ Q X := h S d _ X (by subst hb; exact q)
theorem Zhn {o e : Ex} {a : Addr} {vs : List PV} {v : PV} (h : Ev G st σ lo o (.obj a)) (ha : σ a = some (.list vs)) (k : Ev G st σ lo e v) (l : vs.length ≤ 1000) (q : Q .none (σ.upd a (.list (vs ++ [v])))) : wpE G S st d (.mcall o 127 [e] p p') lo σ Q X :=
  h S d _ X (.app a vs rfl ha rfl (k S d _ X ⟨vs, v, ha, rfl, l, q⟩))
theorem Zrv {o e : Ex} {a : Addr} {vs : List PV} (h : Ev G st σ lo o (.obj a)) (ha : σ a = some (.list vs)) (w : wpE G S st d e lo σ (Zdl (Zz G S st d [] lo) (Znl a Q) X) X) : wpE G S st d (.mcall o 127 [e] p p') lo σ Q X :=
  h S d _ X (.app a vs rfl ha rfl w)
theorem Zua {a : Addr} {vs : List PV} {v : PV} (ha : σ a = some (.list vs)) (l : vs.length ≤ 1000) (q : Q .none (σ.upd a (.list (vs ++ [v])))) : Zdl (Zz G S st d [] lo) (Znl a Q) X v σ := ⟨vs, v, ha, rfl, l, q⟩
theorem Zvn {o : Ex} {a : Addr} {vs : List PV} {y : PV} (h : Ev G st σ lo o (.obj a)) (ha : σ a = some (.list vs)) (l : vs.length ≤ 1000) (hy : vs.getLast? = some y) (q : Q y (σ.upd a (.list vs.dropLast))) : wpE G S st d (.mcall o 124 [] p p') lo σ Q X :=
  h S d _ X (.pop a vs y rfl ha rfl rfl l hy q)
theorem Zabw {e : Ex} {a : Addr} {es : List (Nat × PV)} (h : Ev G st σ lo e (.cd a)) (hs : st = true) (l : G.cdt a = some es) (q : Zah σ (.dict es) Q) : wpE G S st d (.bcall 185 [e] p p') lo σ Q X := h S d _ X (Zdm (fun _ => hs) ⟨a, es, rfl, l, q⟩)
theorem Ztz {a : Addr} {vs : List PV} {ns : List Nat} (l : σ a = some (.list vs)) (t : tagsOf vs = some ns) (n : ns.length < 60) (q : Zde σ ns Q) : Zdl (Zz G S st d [] lo) (Zdz G st 186 Q) X (.obj a) σ := Zdm (fun z => by contradiction) (.inr ⟨vs, ns, .list a rfl l, t, n, q⟩)
theorem Zhm {f : Nat} {e : Ex} (w : wpE G S st d e lo σ (Zdl (Zz G S st d [] lo) (Zdz G st f Q) X) X) : wpE G S st d (.bcall f [e] p p') lo σ Q X := w
theorem Zrt {e : Ex} {vs : List PV} {ns : List Nat} (h : Ev G st σ lo e (.tup vs)) (t : tagsOf vs = some ns) (n : ns.length < 60) (q : Zde σ ns Q) : wpE G S st d (.bcall 186 [e] p p') lo σ Q X := h S d _ X (Zdm (fun z => by contradiction) (.inr ⟨vs, ns, .tup rfl, t, n, q⟩))
theorem Zru {e : Ex} {a : Addr} {es : List (Nat × PV)} (h : Ev G st σ lo e (.cd a)) (hs : st = true) (l : G.cdt a = some es) (n : es.length < 60) (q : Zde σ (es.map (·.1)) Q) : wpE G S st d (.bcall 186 [e] p p') lo σ Q X := h S d _ X (Zdm (fun _ => hs) (.inl ⟨a, es, rfl, l, n, q⟩))
end
section
variable {G : Pg} {S : Spec} {st : Bool} {d : Nat} {σ : Store} {lo lo₁ : Loc} {Q : QS} {X : XS} {p p' p₁ p₂ : Pos} {r : List Sm} {e : Ex} {v : PV}
theorem Zvg {g : Tgt} (h : Ev G st σ lo e v) (hm : g.isMany = true → st = true) (hb : g.bind v lo = some lo₁) (w : Za G S st d r lo₁ σ Q X) : Za G S st d (.asg g e p :: r) lo σ Q X := ⟨hm, h S d _ _ ⟨lo₁, hb, w⟩⟩
theorem Zaj {t : Nat} (h : Ev G st σ lo e v) (w : Za G S st d r ((t, v) :: lo) σ Q X) : Za G S st d (.asg (.one t p₁) e p :: r) lo σ Q X := ⟨fun z => (by contradiction), h S d _ _ ⟨_, rfl, w⟩⟩
theorem Zbp {g : Tgt} (hm : g.isMany = true → st = true) (w : wpE G S st d e lo σ (Zhc g lo (Zaa (Za G S st d r) Q X)) (Zo X lo)) : Za G S st d (.asg g e p :: r) lo σ Q X := ⟨hm, w⟩
theorem Zu {t : Nat} (w : wpE G S st d e lo σ (Zhc (.one t p₁) lo (Zaa (Za G S st d r) Q X)) (Zo X lo)) : Za G S st d (.asg (.one t p₁) e p :: r) lo σ Q X := ⟨fun z => (by contradiction), w⟩
theorem Zvl {g : Tgt} (hb : g.bind v lo = some lo₁) (w : Za G S st d r lo₁ σ Q X) : Zhc g lo (Zaa (Za G S st d r) Q X) v σ := ⟨lo₁, hb, w⟩
theorem Zx {t : Nat} (w : Za G S st d r ((t, v) :: lo) σ Q X) : Zhc (.one t p₁) lo (Zaa (Za G S st d r) Q X) v σ := ⟨_, rfl, w⟩
theorem Zba {t u k : Nat} {q q' q'' : Pos} {x y : PV} (h : nodupN [t, u] = true) (w : Za G S st d r ((u, y) :: (t, x) :: lo) σ Q X) : Zhc (.many [(t, q), (u, q')] k q'') lo (Zaa (Za G S st d r) Q X) (.tup [x, y]) σ := ⟨_, if_pos h, w⟩
theorem Zjq {t u k : Nat} {q q' q'' : Pos} {x y : PV} (h : Ev G st σ lo e (.tup [x, y])) (hs : st = true) (n : nodupN [t, u] = true) (w : Za G S st d r ((u, y) :: (t, x) :: lo) σ Q X) : Za G S st d (.asg (.many [(t, q), (u, q')] k q'') e p :: r) lo σ Q X := ⟨fun _ => hs, h S d _ _ (Zba n w)⟩
theorem Zg (h : Ev G st σ lo e v) (q : Q (.ret v) lo σ) : Za G S st d (.ret e p :: r) lo σ Q X := h S d _ _ q
theorem Zt (w : wpE G S st d e lo σ (Zyr lo Q) (Zo X lo)) : Za G S st d (.ret e p :: r) lo σ Q X := w
theorem Zn {c : Ex} {a b : List Sm} {t : Bool} (h : Ev G st σ lo c (.bool t)) (ht : t = true) (w : Za G S st d a lo σ (Zaa (Za G S st d r) Q X) X) : Za G S st d (.ite c a b p :: r) lo σ Q X := h S d _ _ (by subst ht; exact w)
theorem Zr {c : Ex} {a b : List Sm} {t : Bool} (h : Ev G st σ lo c (.bool t)) (ht : t = false) (w : Za G S st d b lo σ (Zaa (Za G S st d r) Q X) X) : Za G S st d (.ite c a b p :: r) lo σ Q X := h S d _ _ (by subst ht; exact w)
theorem Zbd {c : Ex} {a b : List Sm} (w : wpE G S st d c lo σ (trP (ifK (Za G S st d a) (Za G S st d b) lo (Zaa (Za G S st d r) Q X) X)) (Zo X lo)) : Za G S st d (.ite c a b p :: r) lo σ Q X := w
theorem Zel {a b : WS} (w : a lo σ Q X) : trP (ifK a b lo Q X) (.bool true) σ := w
theorem Zdb {a b : WS} (w : b lo σ Q X) : trP (ifK a b lo Q X) (.bool false) σ := w
theorem Zf (w : Za G S st d r lo σ Q X) : Za G S st d [] lo σ (Zaa (Za G S st d r) Q X) X := w
theorem Zak {Q : QS} (q : Q .next lo σ) : Za G S st d [] lo σ Q X := q
theorem Zq (w : wpE G S st d e lo σ (Znx lo (Zaa (Za G S st d r) Q X)) (Zo X lo)) : Za G S st d (.expr e p :: r) lo σ Q X := w
theorem Zy (w : Za G S st d r lo σ Q X) : Znx lo (Zaa (Za G S st d r) Q X) v σ := w
theorem Zcu {o i : Ex} {a : Addr} {t : Nat} {es : List (Nat × PV)} (h : Ev G st σ lo e v) (ho : Ev G st σ lo o (.obj a)) (hi : Ev G st σ lo i (.tag t)) (ha : σ a = some (.dict es)) (l : es.length ≤ 1000) (w : Za G S st d r lo (σ.upd a (.dict (Ze t v es))) Q X) : Za G S st d (.setS o i p₁ e p :: r) lo σ Q X :=
  h S d _ _ (ho S d _ _ (hi S d _ _ ⟨a, t, es, rfl, rfl, ha, l, w⟩))
theorem Zpg {o : Ex} {t : Nat} {a c dd : Addr} {es : List (Nat × PV)} (h : Ev G st σ lo e v) (ho : Ev G st σ lo o (.obj a)) (h1 : σ a = some (.inst c dd)) (h2 : σ dd = some (.attrs es)) (h3 : G.at_ c t = true) (l : es.length ≤ 100) (w : Za G S st d r lo (σ.upd dd (.attrs (Ze t v es))) Q X) : Za G S st d (.setA o t p₁ e p :: r) lo σ Q X :=
  h S d _ _ (ho S d _ _ ⟨a, c, dd, es, ⟨rfl, h1, h2⟩, h3, l, w⟩)
theorem Zgm {o : Ex} {t : Nat} (w : wpE G S st d e lo σ (Zay (wpE G S st d o lo) (Znq G t lo (Zaa (Za G S st d r) Q X)) (Zo X lo)) (Zo X lo)) : Za G S st d (.setA o t p₁ e p :: r) lo σ Q X := w
theorem Zia {o : Ex} {t : Nat} {a c dd : Addr} {es : List (Nat × PV)} (ho : Ev G st σ lo o (.obj a)) (h1 : σ a = some (.inst c dd)) (h2 : σ dd = some (.attrs es)) (h3 : G.at_ c t = true) (l : es.length ≤ 100) (w : Za G S st d r lo (σ.upd dd (.attrs (Ze t v es))) Q X) : Zay (wpE G S st d o lo) (Znq G t lo (Zaa (Za G S st d r) Q X)) (Zo X lo) v σ :=
  ho S d _ _ ⟨a, c, dd, es, ⟨rfl, h1, h2⟩, h3, l, w⟩
theorem Zabk {o i : Ex} {a : Addr} {t : Nat} {es : List (Nat × PV)} (ho : Ev G st σ lo o (.obj a)) (hi : Ev G st σ lo i (.tag t)) (ha : σ a = some (.dict es)) (l : es.length ≤ 1000) (w : Za G S st d r lo (σ.upd a (.dict (Ze t v es))) Q X) : Zay (wpE G S st d o lo) (fun v => Zay (wpE G S st d i lo) (Znp lo (Zaa (Za G S st d r) Q X) v) (Zo X lo)) (Zo X lo) v σ :=
  ho S d _ _ (hi S d _ _ ⟨a, t, es, rfl, rfl, ha, l, w⟩)
theorem Zcg {m s : Ex} {i : Int} (hs : st = true) (h : Txt G S st d σ lo m) (k : Ev G st σ lo s (.int i)) (q : X i lo σ) : Za G S st d (.raise m s p₁ p₂ p :: r) lo σ Q X := ⟨hs, h _ _ fun v n hv hn => k S d _ _ ⟨n, i, hv, rfl, hn, q⟩⟩
theorem Zhy {g : Tgt} {body : List Sm} {vs : List PV} (hs : st = true) (h : Ev G st σ lo e (.tup vs)) (l : vs.length ≤ 1000) (w : Zax g (Za G S st d body) vs lo σ (Zaa (Za G S st d r) Q X) X) : Za G S st d (.for_ g (.ex e) body p :: r) lo σ Q X := ⟨hs, h S d _ _ (.inl ⟨vs, rfl, l, w⟩)⟩
theorem Zwx {g : Tgt} {body : List Sm} (hs : st = true) (w : wpE G S st d e lo σ (Zyw g (Za G S st d body) lo (Zaa (Za G S st d r) Q X) X) (Zo X lo)) : Za G S st d (.for_ g (.ex e) body p :: r) lo σ Q X := ⟨hs, w⟩
theorem Zkb {g : Tgt} {body : List Sm} {vs : List PV} (hs : st = true) (h : Ev G st σ lo e (.tup vs)) (l : (enumP 0 vs).length ≤ 1000) (w : Zax g (Za G S st d body) (enumP 0 vs) lo σ (Zaa (Za G S st d r) Q X) X) : Za G S st d (.for_ g (.enum e p₁ p₂) body p :: r) lo σ Q X := ⟨hs, h S d _ _ ⟨vs, rfl, l, w⟩⟩
theorem Zww {g : Tgt} {body : List Sm} {vs : List PV} {n : Int} (hs : st = true) (h : Ev G st σ lo e (.int n)) (hr : Zdw n = some vs) (l : vs.length ≤ 1000) (w : Zax g (Za G S st d body) vs lo σ (Zaa (Za G S st d r) Q X) X) : Za G S st d (.for_ g (.rng [e] p₁ p₂) body p :: r) lo σ Q X := ⟨hs, h S d _ _ ⟨vs, .one n rfl hr, l, w⟩⟩
theorem Zwv {g : Tgt} {body : List Sm} {es : List Ex} (hs : st = true) (w : Zz G S st d es lo σ (Zyv g (Za G S st d body) lo (Zaa (Za G S st d r) Q X) X) (Zo X lo)) : Za G S st d (.for_ g (.rng es p₁ p₂) body p :: r) lo σ Q X := ⟨hs, w⟩
theorem Zml {g : Tgt} {body : List Sm} {es : List Ex} {vs : List PV} {a : Int} (hs : st = true) (h : Evs G st σ lo es [.int a, .int (-1), .int (-1)]) (hr : Zcv a (-1) (-1) = some vs) (l : vs.length ≤ 1000) (w : Zax g (Za G S st d body) vs lo σ (Zaa (Za G S st d r) Q X) X) : Za G S st d (.for_ g (.rng es p₁ p₂) body p :: r) lo σ Q X := ⟨hs, h S d _ _ ⟨vs, .three a (-1) (-1) rfl hr, l, w⟩⟩
theorem Zaap {ts : List (Nat × Pos)} {k : Nat} {a b : Ex} {body : List Sm} {o : Addr} {v₁ w₁ : PV} (hs : st = true) (ha : Ev G st σ lo a (.obj o)) (hb : Ev G st σ lo b (.tup [w₁])) (ho : σ o = some (.list [v₁])) (hg : (Tgt.many ts k p').bind (.tup [v₁, w₁]) lo = some lo₁) (w : Za G S st d body lo₁ (σ.del o) (Zsa (Zaa (Za G S st d r) Q X)) X) :
    Za G S st d (.for_ (.many ts k p') (.zip a b p₁ p₂) body p :: r) lo σ Q X := ⟨hs, ha S d _ _ (hb S d _ _ ⟨o, v₁, w₁, lo₁, rfl, rfl, ho, hg, w⟩)⟩
theorem Zgj {g : Tgt} {body : WS} (q : Q .next lo σ) : Zax g body [] lo σ Q X := q
theorem Zbe {g : Tgt} {body : WS} {v : PV} {vs : List PV} (hb : g.bind v lo = some lo₁) (w : body lo₁ σ (Zaa (Zax g body vs) Q X) X) : Zax g body (v :: vs) lo σ Q X := ⟨lo₁, hb, w⟩
theorem Zaao {body fin : List Sm} (w : Za G S st d body lo σ (Zyp (Za G S st d fin) (Zaa (Za G S st d r) Q X)) (Zyo (Za G S false d fin) X)) : Za G S st d (.tryF body fin p :: r) lo σ Q X := w
theorem Zwu {body : List Sm} {p1 p2 p3 p4 p5 p6 p7 : Pos} (w : Za G S st d body lo σ (Zaa (Za G S st d r) Q X) (Zpv (Zaa (Za G S st d r) Q X))) : Za G S st d (.heard body p1 p2 p3 p4 p5 p6 p7 p :: r) lo σ Q X := w
theorem Zpf {c : Ex} {body : List Sm} (n : Nat) (w : Zbt (wpE G S st d c) (Za G S st d body) n lo σ (Zaa (Za G S st d r) Q X) X) : Za G S st d (.whil c body p :: r) lo σ Q X := ⟨n, w⟩
theorem Zyn {c : Ex} {body : WS} {n : Nat} {t : Bool} (h : Ev G st σ lo c (.bool t)) (ht : t = true) (w : body lo σ (Zaa (Zbt (wpE G S st d c) body n) Q X) X) : Zbt (wpE G S st d c) body (n + 1) lo σ Q X := h S d _ _ (by subst ht; exact w)
theorem Zjo {c : Ex} {body : WS} {n : Nat} {t : Bool} (h : Ev G st σ lo c (.bool t)) (ht : t = false) (q : Q .next lo σ) : Zbt (wpE G S st d c) body (n + 1) lo σ Q X := h S d _ _ (by subst ht; exact q)
end
noncomputable def Zfq (b : List Sm) (i : Nat) : List Sm := match b[i]? with
  | some (.ite _ a _ _) => a
  | _ => []
section
variable {scr : Addr} {cells : List PV}
noncomputable abbrev Cal (scr : Addr) (cells : List PV) (st : Bool) (d : Nat) (a : Addr) (vs : List PV) (σ : Store) (Q : QV) (X : XV') : Prop := run (GP scr cells) TP (d + 1) st d a vs σ Q X
noncomputable abbrev Wp (scr : Addr) (cells : List PV) (st : Bool) (d : Nat) : List Sm → WS := Za (GP scr cells) (run (GP scr cells) TP d) st d
theorem Zd {st : Bool} {d : Nat} {a : Addr} {vs : List PV} {σ : Store} {Q : QV} {X : XV'} {ts : List Nat} {ss : List Sm} (h : TP.df a = some (ts, ss)) (hl : vs.length = ts.length)
    (w : Wp scr cells st d ss (Zaz ts vs) σ (Zbc Q) (Zag X)) : Cal scr cells st d a vs σ Q X :=
  .inr ⟨rfl, by unfold Zjp; rw [h]; exact ⟨hl, w⟩⟩
end
set_option genInjectivity true
inductive Ba where
  | i | b | s | t
  deriving DecidableEq
noncomputable def Ba.tag : Ba → Nat
  | .i => 0
  | .b => 1
  | .s => 3
  | .t => 2
structure Kd where
  b : Ba
  v : Bool
  n : Nat
  deriving DecidableEq
noncomputable def Kd.pv (k : Kd) : PV := .tup [.tag k.b.tag, .bool k.v, .int k.n]
theorem Ztm {b : Ba} {n : Nat} : plainP n (.tag b.tag) = true := by cases b <;> cases n <;> rfl
theorem Zqi {b : Ba} : Nat.blt b.tag 271 = true := by cases b <;> rfl
theorem Zff {k : Kd} {n : Nat} : plainP (n + 1) k.pv = true := by
  obtain ⟨b, v, m⟩ := k
  cases b <;> cases n <;> rfl
theorem Zrf {t n : Nat} (h : Nat.blt t 271 = true) : plainP n (.tag t) = true := by cases n <;> exact h
theorem Zre {a b : Ba} {n : Nat} : plainP (n + 1) (.tup [.tag a.tag, .tag b.tag]) = true := by cases a <;> cases b <;> cases n <;> rfl
theorem Zxh (a b : Nat) : ((a : Int) == (b : Int)) = (a == b) := by
  rw [Bool.eq_iff_iff, beq_iff_eq, beq_iff_eq]; lia
theorem Zch (a b : Nat) : eqP (.int a) (.int b) = (a == b) := Zxh a b
theorem Zbk (a : Nat) : eqP (.int a) (.int 0) = (a == 0) := Zch a 0
theorem in2 {n m c : Nat} (h : (n == c) = false) : inTags n [.tag m, .tag c] = some (n == m) := by
  have h := beq_eq_false_iff_ne.mp h
  rw [Znw]
  split
  · rename_i e; rw [beq_iff_eq.mpr e]
  · rename_i e
    rw [Znw]
    rw [if_neg h, beq_eq_false_iff_ne.mpr e]
    rfl
local macro_rules | `(tactic| walk_at "g") => `(tactic| first | exact rfl | with_reducible assumption | (apply Zm rfl; walk_at "g"))
local macro_rules | `(tactic| walk_at "p") => `(tactic| first | exact rfl | with_reducible assumption | exact Zff | exact Ztm | exact Zqi | exact Zre | exact Zrf (by with_reducible assumption))
local macro_rules | `(tactic| walk_at "i") => `(tactic| first | exact Item.tup rfl | exact Item.list (by with_reducible assumption) rfl | exact Item.dict (by with_reducible assumption) (by first | exact rfl | with_reducible assumption) | exact Item.cd rfl (by first | exact rfl | with_reducible assumption))
local macro_rules | `(tactic| walk_at "h") => `(tactic| first | exact Has.tup rfl (by walk_at "p") rfl | exact Has.dict (by with_reducible assumption) | exact Has.cd rfl)
local macro_rules | `(tactic| walk_at "q") => `(tactic| first | exact SameR.v (by walk_at "p") (by walk_at "p") | exact SameR.list (by with_reducible assumption) (by with_reducible assumption) (by walk_at "p") (by walk_at "p") | exact SameR.dict (by with_reducible assumption) (by with_reducible assumption) (by walk_at "p") (by walk_at "p"))
local macro_rules | `(tactic| walk_at "c") => `(tactic| first | exact Cmp.lt | exact Cmp.le | exact Cmp.gt | exact Cmp.ge | exact Cmp.is | exact Cmp.isNot | (apply Cmp.eq; walk_at "q") | (apply Cmp.ne; walk_at "q") | (apply Cmp.in_; walk_at "h") | (apply Cmp.notIn; walk_at "h"))
local macro_rules | `(tactic| walk_at "l") => `(tactic| first | exact Nat.le_of_ble_eq_true rfl | with_reducible assumption)
local macro_rules | `(tactic| walk_at "es") => `(tactic| first | exact Evs.nil | (apply Evs.cons; (· walk_at "e"); (· walk_at "es")))
local macro_rules | `(tactic| walk_at "e") => `(tactic| first | exact Ev.var (by walk_at "g") | exact Ev.int | exact Ev.str | exact Ev.bool | exact Ev.non | exact Ev.minus | exact Ev.glob rfl | (apply Ev.tup; (· walk_at "es"); (· walk_at "l")) | (apply Ev.sub; (· walk_at "e"); (· walk_at "e"); (· walk_at "i")) | (apply Ev.cmp; (· walk_at "e"); (· walk_at "e"); (· walk_at "c")) | (apply Ev.attr; (· walk_at "e"); (· with_reducible assumption); (· with_reducible assumption); (· (first | exact rfl | with_reducible assumption)); (· exact rfl)) | (apply Ev.neg; walk_at "e") | (apply Ev.and1; walk_at "e") | (apply Ev.and2; (· walk_at "e"); (· (intro _; walk_at "e"))) | (apply Ev.or2; (· walk_at "e"); (· (intro _; walk_at "e"))) | (apply Ev.iteT; (· walk_at "e"); (· (first | exact rfl | with_reducible assumption)); (· walk_at "e")) | (apply Ev.iteF; (· walk_at "e"); (· (first | exact rfl | with_reducible assumption)); (· walk_at "e")) | (apply Ev.add; (· walk_at "e"); (· walk_at "e")) | (apply Ev.minus2; (· walk_at "e"); (· walk_at "e")) | (apply Ev.mod; (· walk_at "e"); (· walk_at "e"); (· (first | decide | with_reducible assumption))) | (apply Ev.mul; (· walk_at "e"); (· walk_at "e"); (· (first | decide | with_reducible assumption)); (· (first | decide | with_reducible assumption))) | (apply Ev.cat; (· walk_at "e"); (· walk_at "e"); (· exact rfl); (· exact rfl); (· walk_at "l")) | (apply Ev.len; (· walk_at "e"); (· exact rfl); (· (first | exact .tup rfl | exact .list _ rfl (by with_reducible assumption))); (· walk_at "l")) | (apply Ev.toInt; walk_at "e") | (apply Ev.toTup; (· walk_at "e"); (· with_reducible assumption); (· walk_at "l")) | (apply Ev.cget; (· walk_at "e"); (· exact rfl); (· walk_at "es")) | (apply Ev.get; (· walk_at "e"); (· with_reducible assumption); (· walk_at "es")))
local macro_rules | `(tactic| walk_at "m") => `(tactic| first | exact Msg.int (by walk_at "e") (by first | decide | with_reducible assumption) (by decide) | (apply Msg.fval; (· walk_at "m"); (· decide)) | (apply Msg.ev; (· walk_at "e"); (· exact rfl); (· walk_at "l")))
local macro_rules | `(tactic| walk_at "ms") => `(tactic| first | exact Msgs.nil | (apply Msgs.cons; (· walk_at "m"); (· walk_at "ms")))
local macro_rules | `(tactic| walk_at "t") => `(tactic| first | exact Msg.fmt (N := 1000) (by walk_at "ms") (by walk_at "l") (by decide) | (apply Msg.ev; (· walk_at "e"); (· exact rfl); (· walk_at "l")))
local macro_rules | `(tactic| walk_at "s") => `(tactic| first | (apply Zaj; (· walk_at "e")) | (apply Zjq; (· walk_at "e"); (· exact rfl); (· exact rfl)) | (apply Zg; (· walk_at "e")) | (apply Zn; (· walk_at "e"); (· (first | exact rfl | with_reducible assumption))) | (apply Zr; (· walk_at "e"); (· (first | exact rfl | with_reducible assumption))) | apply Zf | (apply Zvg; (· walk_at "e"); (· exact fun _ => rfl); (· exact rfl)) | (apply Zcg; (· exact rfl); (· walk_at "t"); (· walk_at "e")) | (apply Zcu; (· walk_at "e"); (· walk_at "e"); (· walk_at "e"); (· with_reducible assumption); (· walk_at "l")) | (apply Zpg; (· walk_at "e"); (· walk_at "e"); (· with_reducible assumption); (· with_reducible assumption); (· exact rfl); (· walk_at "l")))
section
variable {scr : Addr} {cells : List PV}
noncomputable def Zgi (k w : Kd) : Bool := if (k.n != w.n) || (k.v && !w.v) then false else (k.b.tag == w.b.tag || (w.b.tag == 0 && k.b.tag == 1))
theorem no4 (k : Ba) : (k.tag == 4) = false := by cases k <;> rfl
theorem Zaaw {st : Bool} {d : Nat} {k w : Kd} {σ : Store} {Q : QV} {X : XV'} (h : Q (.bool (Zgi k w)) σ) : Cal scr cells st d 198 [k.pv, w.pv] σ Q X := by
  refine Zd rfl rfl ?_
  have e : (!eqP (.int k.n) (.int w.n) || (k.v && !w.v)) = ((k.n != w.n) || (k.v && !w.v)) := by rw [Zch]; rfl
  unfold Zgi at h
  cases hc : ((k.n != w.n) || (k.v && !w.v)) with
  | true =>
    rw [hc] at h
    refine Zn (by walk_at "e") (e.trans hc) ?_
    walk_at "s"
    exact h
  | false =>
    rw [hc] at h
    refine Zr (by walk_at "e") (e.trans hc) ?_
    walk_at "s"
    refine Zg (Ev.or2 (.cmp (by walk_at "e") (by walk_at "e") (.in_ (.tup (by cases w.b <;> rfl) (by walk_at "p") (in2 (no4 _))))) fun _ => by walk_at "e") h
theorem Zb {σ : Store} {a : Addr} {o : PO} : (σ.upd a o) a = some o := by simp [Store.upd]
theorem Zad {σ : Store} {a b : Addr} {o : PO} (h : b ≠ a) : (σ.upd a o) b = σ b := by simp [Store.upd, h]
theorem Zi {σ : Store} {a b : Addr} {o p : PO} (h : σ b = some p) (k : σ a = none) : (σ.upd a o) b = some p := by
  rw [Zad (fun z => by rw [z, k] at h; contradiction), h]
noncomputable def Same (A : List Addr) (σ σ' : Store) : Prop := ∀ b, σ b ≠ none → b ∉ A → σ' b = σ b
theorem Same.refl {A : List Addr} {σ : Store} : Same A σ σ := fun _ _ _ => rfl
theorem Same.trans {A : List Addr} {σ σ₁ σ₂ : Store} (x : Same A σ σ₁) (y : Same A σ₁ σ₂) : Same A σ σ₂ := fun b h n => by
  have e := x b h n
  rw [y b (by rw [e]; exact h) n, e]
theorem Same.mono {A B : List Addr} {σ σ' : Store} (k : ∀ a ∈ A, a ∈ B) (x : Same A σ σ') : Same B σ σ' := fun b h n => x b h fun z => n (k b z)
theorem Same.new {A : List Addr} {σ : Store} {a : Addr} {o : PO} (h : σ a = none) : Same A σ (σ.upd a o) := fun b hb _ => by
  unfold Store.upd
  rw [if_neg fun z => hb (by rw [z]; exact h)]
theorem Same.upd {A : List Addr} {σ : Store} {a : Addr} {o : PO} (h : a ∈ A) : Same A σ (σ.upd a o) := fun b hb n => by
  unfold Store.upd
  rw [if_neg fun z => n (by rw [z]; exact h)]
theorem Zlz {d : Nat} {k : Kd} {σ : Store} {Q : QV} {X : XV'} (hk : k.n ≤ 9) (h : ∀ v n, isStrP v = some n → n ≤ 1000 → Q v σ) : Cal scr cells true d 191 [k.pv] σ Q X := by
  refine Zd rfl rfl ?_
  have sm : Zaq (k.n : Int) = true := by unfold Zaq; exact decide_eq_true (by lia)
  walk_at "s"
  have hx : ∃ m n, isStrP m = some n ∧ n ≤ 64 ∧ Ev (GP scr cells) true σ ((91, .int k.n) :: (115, .bool k.v) :: (74, .tag k.b.tag) :: Zaz [89] [k.pv]) (.ite (.var 115 ⟨40,22,40,28⟩) (.str 191 ⟨40,12,40,18⟩) (.str 193 ⟨40,34,40,36⟩) ⟨40,12,40,36⟩) m := by
    cases hv : k.v
    · exact ⟨.tag 193, 64, rfl, Nat.le_refl _, by walk_at "e"⟩
    · exact ⟨.tag 191, 64, rfl, Nat.le_refl _, by walk_at "e"⟩
  obtain ⟨m, n, h1, h2, hx⟩ := hx
  refine Zaj (Ev.cat (n := n) (m := 64) hx (Ev.iteF (by walk_at "e") (no4 _) (by walk_at "e")) h1 rfl (by lia)) ?_
  have h3 : n + 64 ≤ 200 := by lia
  cases hn : eqP (.int k.n) (.int 0) with
  | true => exact Zg (Ev.iteT (by walk_at "e") hn (by walk_at "e")) (h _ _ rfl (by lia))
  | false => exact Zt (Zqc (by walk_at "e") hn (Zadf (Msg.fmt (N := 200) (M := 1000) (by walk_at "ms") (by walk_at "l") (by decide)) h))
theorem m_kt {d : Nat} {k : Kd} {σ : Store} {lo : Loc} {e : Ex} {p p' : Pos} (h : Ev (GP scr cells) true σ lo e k.pv) (hk : k.n ≤ 9) : Msg 1000 (GP scr cells) (run (GP scr cells) TP (d + 1)) true (d + 1) σ lo (.call 162 [e] p p') := fun Q X q =>
  Zc (.cons h .nil) rfl (Zlz hk q)
end
local macro_rules | `(tactic| walk_at "m") => `(tactic| (apply m_kt; (· walk_at "e"); (· (first | with_reducible assumption | decide))))
section
variable {scr : Addr} {cells : List PV}
theorem Zaas {d : Nat} {k w : Kd} {σ : Store} {Q : QV} {X : XV'} {sp : Int} {wh : Nat} (hk : k.n ≤ 9) (hw : w.n ≤ 9) (h : if Zgi k w = true then Q .none σ else X sp σ) : Cal scr cells true (d + 1) 205 [k.pv, w.pv, .int sp, .tag wh] σ Q X := by
  refine Zd rfl rfl (Zbd (Zeo (Zc (by walk_at "es") rfl (Zaaw ?_))))
  cases hf : Zgi k w with
  | true => rw [hf] at h; exact h
  | false =>
    rw [hf] at h
    refine Zgg (Zel ?_)
    walk_at "s"
    exact h
theorem Zacp {a b : Nat} {ms : List Nat} (h : ms.Perm [a, b]) : ms = [a, b] ∨ ms = [b, a] := by
  have hl := h.length_eq
  obtain ⟨x, y, rfl⟩ := Zvk hl
  have hx : x ∈ [a, b] := h.subset (by exact .head _)
  have hc := h.symm.subset
  simp only [List.mem_cons, List.not_mem_nil, or_false] at hx
  rcases hx with rfl | rfl
  · have := (List.perm_cons x).mp h
    have := List.perm_singleton.mp this
    cases this; exact .inl rfl
  · have h2 := h.trans (List.Perm.swap x a [])
    have := (List.perm_cons x).mp h2
    have := List.perm_singleton.mp this
    cases this; exact .inr rfl
noncomputable def Zdu (k w : Kd) : Option Kd := if k.n != w.n || (k.b != w.b && !((k.b == .b && w.b == .i) || (k.b == .i && w.b == .b))) then none else some ⟨if k.b == w.b then k.b else .i, k.v || w.v, k.n⟩
noncomputable def Zys (Q : QV) (X : XV') (sp : Int) (σ : Store) (r : Option Kd) : Prop := match r with
  | some r => Q r.pv σ
  | none => X sp σ
theorem Zwa (a b : Ba) : (a.tag == b.tag) = (a == b) := by cases a <;> cases b <;> rfl
theorem Zcw (a b : Ba) : eqP (.tag a.tag) (.tag b.tag) = (a == b) := Zwa a b
theorem Zja {a b : Ba} {ms : List Nat} (hp : ms.Perm [a.tag, b.tag]) (hr : Zph ms = true) : eqPs (ms.map .tag) [.tag 1, .tag 0] = ((a == .b && b == .i) || (a == .i && b == .b)) := by
  rcases Zacp hp with rfl | rfl
  · revert hr; cases a <;> cases b <;> decide +kernel
  · revert hr; cases a <;> cases b <;> decide +kernel
theorem Zol {ms : List Nat} {n : Nat} (h : ∀ m ∈ ms, Nat.blt m 271 = true) : plainPs n (ms.map .tag) = true := by
  induction ms with
  | nil => rfl
  | cons m r ih =>
    have h1 : plainP n (.tag m) = true := by cases n <;> exact h m (.head _)
    show (plainP n (.tag m) && plainPs n (r.map .tag)) = true
    rw [h1, ih fun x hx => h x (.tail _ hx)]
    rfl
theorem Zfk {a b : Ba} {n : Nat} {ms : List Nat} (hp : ms.Perm [a.tag, b.tag]) : plainPs n (ms.map .tag) = true := Zol fun m hm => by
  have := hp.subset hm
  simp only [List.mem_cons, List.not_mem_nil, or_false] at this
  rcases this with rfl | rfl <;> exact Zqi
noncomputable def Zkj (k w : Kd) (sp : Int) (wh : Nat) : Loc := (121, .tup [.tag k.b.tag, .tag w.b.tag]) :: Zaz [80, 96, 67, 86] [k.pv, w.pv, .int sp, .tag wh]
theorem Zup {d : Nat} {k w : Kd} {σ : Store} {Q : QV} {X : XV'} {sp : Int} {wh : Nat} (h : Q (Kd.pv ⟨if k.b == w.b then k.b else .i, k.v || w.v, k.n⟩) σ) : Wp scr cells true d (b212.drop 2) (Zkj k w sp wh) σ (Zbc Q) (Zag X) := by
  show Wp scr cells true d (_ :: _) _ _ _ _
  cases hb : (k.b == w.b) with
  | true =>
    rw [hb] at h
    refine Zaj (Ev.iteT (.or2 (by walk_at "e") fun _ => by walk_at "e") (by rw [Zcw, hb]; rfl) (by walk_at "e")) ?_
    exact Zg (by walk_at "e") h
  | false =>
    rw [hb] at h
    refine Zaj (Ev.iteF (.or2 (by walk_at "e") fun _ => by walk_at "e") (by rw [Zcw, hb]; exact no4 _) (.iteF (by walk_at "e") (no4 _) (by walk_at "e"))) ?_
    exact Zg (by walk_at "e") h
theorem Zxf (a b : Ba) : inTags 4 [.tag a.tag, .tag b.tag] = some false := by cases a <;> cases b <;> rfl
theorem Ztj {d : Nat} {k w : Kd} {σ : Store} {Q : QV} {X : XV'} {sp : Int} {wh : Nat} (hk : k.n ≤ 9) (hw : w.n ≤ 9) (h : ∀ σ', Same [] σ σ' → Zys Q X sp σ' (Zdu k w)) : Cal scr cells true (d + 1) 212 [k.pv, w.pv, .int sp, .tag wh] σ Q X := by
  refine Zd rfl rfl ?_
  walk_at "s"
  have bad : ∀ σ', X sp σ' → trP (ifK (Wp scr cells true (d + 1) (Zfq b212 1)) (Wp scr cells true (d + 1) []) (Zkj k w sp wh) (Zaa (Wp scr cells true (d + 1) (b212.drop 2)) (Zbc Q) (Zag X)) (Zag X)) (.bool true) σ' := fun σ' hx => Zel (by show Wp scr cells true (d + 1) (_ :: _) _ _ _ _; walk_at "s"; exact hx)
  have good : ∀ σ', Q (Kd.pv ⟨if k.b == w.b then k.b else .i, k.v || w.v, k.n⟩) σ' → trP (ifK (Wp scr cells true (d + 1) (Zfq b212 1)) (Wp scr cells true (d + 1) []) (Zkj k w sp wh) (Zaa (Wp scr cells true (d + 1) (b212.drop 2)) (Zbc Q) (Zag X)) (Zag X)) (.bool false) σ' := fun σ' hx => Zdb (Zf (Zup hx))
  refine Zbd (Zbo ?_)
  unfold Zdu at h
  cases hn : (k.n == w.n) with
  | false =>
    have h := h σ .refl
    rw [bne, hn] at h
    exact Zjw (by walk_at "e") (by rw [Zch, hn]; rfl) (bad σ h)
  | true =>
    refine Zjx (by walk_at "e") (by rw [Zch, hn]; rfl) (Zcp (Zbo ?_))
    cases hb : (k.b == w.b) with
    | true =>
      have h := h σ .refl
      rw [bne, hn, bne, hb] at h
      rw [hb] at good
      exact Zga (by walk_at "e") (by rw [Zcw, hb]; rfl) (good σ h)
    | false =>
      refine Zcx (by walk_at "e") (by rw [Zcw, hb]; rfl) (Zcx (.cmp (by walk_at "e") (by walk_at "e") (.notIn (.tup (Zfk (.refl _)) rfl (Zxf _ _)))) rfl (Zcp (Zep (Zrt (by walk_at "e") rfl (Nat.le_of_ble_eq_true rfl) fun ms hp hr a ha => Zaf (Zbs (by walk_at "es") (by walk_at "l") fun b hb' => ?_)))))
      refine Zgh (.ne (.list (Zi Zb hb') Zb (Zfk hp) rfl)) ?_
      rw [Zja hp hr]
      have h := h _ ((Same.new ha).trans (Same.new (o := .list [.tag 1, .tag 0]) hb'))
      rw [bne, hn, bne, hb] at h
      cases hs : ((k.b == .b && w.b == .i) || (k.b == .i && w.b == .b)) with
      | true =>
        rw [hs] at h
        rw [hb] at good
        exact good _ h
      | false =>
        rw [hs] at h
        exact bad _ h
end
section
variable {scr : Addr} {cells : List PV}
noncomputable def Zl (k : Kd) (b : Ba) (v : Bool) (n : Nat) : Bool := k.n == n && (v || !k.v) && (k.b == b || (k.b == .b && b == .i))
theorem Zabc {k : Kd} {b : Ba} {v : Bool} {n : Nat} : (eqP (.int k.n) (.int n) && ((v || !k.v) && (eqP (.tag k.b.tag) (.tag b.tag) || eqP (.tup [.tag k.b.tag, .tag b.tag]) (.tup [.tag 1, .tag 0])))) = Zl k b v n := by
  have e : eqP (.tup [.tag k.b.tag, .tag b.tag]) (.tup [.tag 1, .tag 0]) = (k.b == .b && b == .i) := by cases k.b <;> cases b <;> rfl
  rw [Zch, Zcw, e, Zl, Bool.and_assoc]
theorem Zee {d : Nat} {k : Kd} {b : Ba} {v : Bool} {n : Nat} {σ : Store} {Q : QV} {X : XV'} (h : Q (.bool (Zl k b v n)) σ) : Cal scr cells true d 565 [k.pv, .tag b.tag, .bool v, .int n] σ Q X := by
  rw [← Zabc] at h
  exact Zd rfl rfl (Zg (by walk_at "e") h)
inductive Sg where
  | plus | conj | lt
noncomputable def Sg.tag : Sg → Nat
  | .plus => 38
  | .conj => 39
  | .lt => 40
noncomputable def joinP : Sg → Kd → Kd → Option Kd
  | .plus, k, w => if Zl k .i true 0 && Zl w .i true 0 then some ⟨.i, k.v || w.v, 0⟩ else none
  | .conj, k, w => if Zl k .b true 0 && Zl w .b true 0 then some ⟨.b, k.v || w.v, 0⟩ else none
  | .lt, k, w => if k.n == 0 && w.n == 0 && (k.b == w.b || (k.b == .b && w.b == .i) || (k.b == .i && w.b == .b)) then some ⟨.b, k.v || w.v, 0⟩ else none
noncomputable def resPV : Except Int Kd → PV
  | .ok k => .tup [k.pv, .none]
  | .error i => .tup [.none, .int i]
noncomputable def Zco (sp : Int) : Option Kd → Except Int Kd
  | some k => .ok k
  | none => .error sp
noncomputable def Zpu (s : Sg) (k w : Kd) (sp : Int) : Loc := (90, .bool (k.v || w.v)) :: Zaz [78, 80, 96, 67] [.tag s.tag, k.pv, w.pv, .int sp]
theorem Zlc {d : Nat} {s : Sg} {k w : Kd} {b : Ba} {sp : Int} {σ : Store} {Q : QV} {X : XV'} (h : Q (resPV (Zco sp (if Zl k b true 0 && Zl w b true 0 then some ⟨b, k.v || w.v, 0⟩ else none))) σ) :
    Wp scr cells true (d + 1) (b579.drop 3) ((74, .tag b.tag) :: Zpu s k w sp) σ (Zbc Q) (Zag X) := by
  show Wp scr cells true (d + 1) (_ :: _) _ _ _ _
  refine Zbd (Zbo (Zqk (Zc (by walk_at "es") rfl (Zee (n := 0) ?_))))
  cases hm : Zl k b true 0 with
  | false =>
    rw [hm] at h
    refine Zabn (Zdb (Zf ?_))
    exact Zg (by walk_at "e") h
  | true =>
    refine Zabm (Zcp (Zc (by walk_at "es") rfl (Zee (n := 0) ?_)))
    rw [hm] at h
    cases hw : Zl w b true 0 with
    | false =>
      rw [hw] at h
      refine Zdb (Zf ?_)
      exact Zg (by walk_at "e") h
    | true =>
      rw [hw] at h
      refine Zel ?_
      exact Zg (by walk_at "e") h
theorem Zgq {d : Nat} {k w : Kd} {sp : Int} {c : Bool} {σ : Store} {Q : QV} {X : XV'} {R : QS} (hR : ∀ v lo σ, R (.ret v) lo σ = Q v σ) (h : Q (resPV (Zco sp (if c then some ⟨.b, k.v || w.v, 0⟩ else none))) σ) :
    Wp scr cells true (d + 1) ((Zfq b579 1).drop 1) ((97, .bool c) :: Zpu .lt k w sp) σ R (Zag X) := by
  show Wp scr cells true (d + 1) (_ :: _) _ _ _ _
  cases c with
  | true => exact Zg (Ev.iteT (by walk_at "e") rfl (by walk_at "e")) (by rw [hR]; exact h)
  | false => exact Zg (Ev.iteF (by walk_at "e") rfl (by walk_at "e")) (by rw [hR]; exact h)
theorem Zrb {d : Nat} {s : Sg} {k w : Kd} {sp : Int} {σ : Store} {Q : QV} {X : XV'} (h : ∀ σ', Same [] σ σ' → Q (resPV (Zco sp (joinP s k w))) σ') : Cal scr cells true (d + 1) 579 [.tag s.tag, k.pv, w.pv, .int sp] σ Q X := by
  refine Zd rfl rfl ?_
  refine Zaj (.or2 (by walk_at "e") fun _ => by walk_at "e") ?_
  cases s with
  | plus => exact Zr (by walk_at "e") rfl (Zf (Zaj (Ev.iteT (by walk_at "e") rfl (by walk_at "e")) (Zlc (s := .plus) (b := .i) (h σ .refl))))
  | conj => exact Zr (by walk_at "e") rfl (Zf (Zaj (Ev.iteF (by walk_at "e") rfl (by walk_at "e")) (Zlc (s := .conj) (b := .b) (h σ .refl))))
  | lt =>
    refine Zn (by walk_at "e") rfl (Zu (Zbo ?_))
    cases hn : (k.n == 0) with
    | false =>
      have h := h σ .refl
      rw [joinP, hn] at h
      exact Zga (by walk_at "e") ((Zbk _).trans hn) (Zx (Zgq (c := false) (fun _ _ _ => rfl) h))
    | true =>
      refine Zcx (by walk_at "e") ((Zbk _).trans hn) ?_
      cases hm : (w.n == 0) with
      | false =>
        have h := h σ .refl
        rw [joinP, hn, hm] at h
        exact Zga (by walk_at "e") ((Zbk _).trans hm) (Zx (Zgq (c := false) (fun _ _ _ => rfl) h))
      | true =>
        refine Zcx (by walk_at "e") ((Zbk _).trans hm) (Zcp (Zbo ?_))
        cases hb : (k.b == w.b) with
        | true =>
          have h := h σ .refl
          rw [joinP, hn, hm, hb] at h
          exact Zjw (by walk_at "e") (by rw [Zcw, hb]) (Zx (Zgq (c := true) (fun _ _ _ => rfl) h))
        | false =>
          refine Zjx (by walk_at "e") (by rw [Zcw, hb]) (Zcp (Zep (Zhm (Zbs (by walk_at "es") (by walk_at "l") fun l hl => Ztz Zb rfl (Nat.le_of_ble_eq_true rfl) fun ms hp hr a ha => Zaf (Zbs (by walk_at "es") (by walk_at "l") fun b hb' => ?_)))))
          refine Zgh (.eq (.list (Zi Zb hb') Zb (Zfk hp) rfl)) ?_
          have h := h _ ((Same.new (o := .list [.tag k.b.tag, .tag w.b.tag]) hl).trans ((Same.new ha).trans (Same.new (o := .list [.tag 1, .tag 0]) hb')))
          rw [joinP, hn, hm, hb, Bool.false_or, ← Zja hp hr] at h
          exact Zx (Zgq (fun _ _ _ => rfl) h)
noncomputable def takesT : List (Nat × PV) := [(17, .tup [.tag 0, .tag 0]), (18, .tup [.tag 1, .tag 1]), (19, .tup [.tag 0, .tag 0]), (21, .tup [.tag 0, .tag 1]), (23, .tup [.tag 0, .tag 1])]
theorem Ziq {d : Nat} {σ : Store} {Q : QV} {X : XV'} (h : ∀ a, σ a = none → Q (.obj a) (σ.upd a (.dict takesT))) : Cal scr cells true d 516 [] σ Q X := by
  refine Zd rfl rfl (Zt (Zef rfl (by walk_at "l") (by walk_at "es") fun a ha => ?_))
  exact h a ha
end
theorem Same.at {A : List Addr} {σ σ' : Store} {b : Addr} {p : PO} (x : Same A σ σ') (h : σ b = some p) (n : b ∉ A) : σ' b = some p := by
  rw [x b (by rw [h]; simp) n, h]
structure Fd (σ : Store) (f ca : Addr) (cs : List PV) (p q : Int) : Prop where
  dict : σ f = some (.dict [(65, .obj ca), (66, .int p), (67, .int q)])
  list : σ ca = some (.list cs)
  nums : ∀ v ∈ cs, ∃ i, v = .int i
  len : cs.length ≤ 50
  low : 0 ≤ p
section
variable {scr : Addr} {cells : List PV} {σ : Store} {f ca : Addr} {cs : List PV} {p q : Int} {Q : QV} {X : XV'} {d : Nat}
theorem Fd.ne (F : Fd σ f ca cs p q) : ca ≠ f := fun z => by
  have := F.list
  rw [z, F.dict] at this
  cases this
theorem Fd.next (F : Fd σ f ca cs p q) {p' q' : Int} (h : 0 ≤ p') : Fd (σ.upd f (.dict [(65, .obj ca), (66, .int p'), (67, .int q')])) f ca cs p' q' :=
  ⟨Zb, by rw [Zad F.ne]; exact F.list, F.nums, F.len, h⟩
theorem Fd.same (F : Fd σ f ca cs p q) {σ' : Store} {A : List Addr} (S : Same A σ σ') (h1 : f ∉ A) (h2 : ca ∉ A) : Fd σ' f ca cs p q := ⟨S.at F.dict h1, S.at F.list h2, F.nums, F.len, F.low⟩
theorem Zkq {r : Int} {n : Nat} (h0 : 0 ≤ r) (h1 : r < n) (h2 : n ≤ 1000) : Zdx r n = some r.toNat := by unfold Zdx; rw [if_pos (by lia)]
theorem Zhg {vs : List PV} {r : Int} (h0 : 0 ≤ r) (h1 : r < vs.length) (h2 : vs.length ≤ 1000) : ∃ v ∈ vs, Zbm vs r = some v := by
  have hlt : r.toNat < vs.length := by lia
  refine ⟨vs[r.toNat], List.getElem_mem hlt, ?_⟩
  unfold Zbm
  rw [Zkq h0 h1 h2, Option.bind_some, List.getElem?_eq_getElem hlt]
theorem Zhe {i : Int} (h : -1000000 ≤ i) (k : i ≤ 1000000) : Zaq i = true := by unfold Zaq; exact decide_eq_true (by lia)
theorem Zcn {m : Int} (F : Fd σ f ca cs p q) (hp : p ≤ 1000) (h0 : 0 < m) (h : ∀ r σ', 0 ≤ r → r < m → Fd σ' f ca cs (p + 1) q → Same [f] σ σ' → Q (.int r) σ') : Cal scr cells true d 523 [.obj f, .int m] σ Q X := by
  have hl := F.low
  have hd := F.dict
  have hlen := F.len
  refine Zd rfl rfl ?_
  walk_at "s"
  walk_at "s"
  have F1 : Fd (σ.upd f (.dict (Ze 66 (.int (p + 1)) [(65, .obj ca), (66, .int p), (67, .int q)]))) f ca cs (p + 1) q := F.next (by lia)
  have S1 : Same [f] σ (σ.upd f (.dict (Ze 66 (.int (p + 1)) [(65, .obj ca), (66, .int p), (67, .int q)]))) := Same.upd (.head _)
  have fin := fun i : Int => h (Int.emod i m) _ (Int.emod_nonneg _ (by lia)) (Int.emod_lt_of_pos _ h0) F1 S1
  clear h hd S1
  generalize σ.upd f _ = σ1 at F1 fin ⊢
  have up := F1.list
  have l5 : cs.length ≤ 1000 := by lia
  by_cases c : p < (cs.length : Int)
  · obtain ⟨v, hv, e⟩ := Zhg (vs := cs) hl c l5
    obtain ⟨i, rfl⟩ := F.nums v hv
    refine Zn (by walk_at "e") (decide_eq_true c) (Zg (.mod (.toInt (.sub (by walk_at "e") (by walk_at "e") (.list up e))) (by walk_at "e") h0) (fin i))
  · have s1 := Zhe (i := p) (by lia) (by lia)
    have s2 := Zhe (i := 3 * p) (by lia) (by lia)
    have s3 : Zaq (cs.length : Int) = true := Zhe (by lia) (by lia)
    refine Zr (by walk_at "e") (decide_eq_false c) (Zf (Zg (by walk_at "e") (fin _)))
theorem Zft (F : Fd σ f ca cs p q) (h : ∀ σ', Fd σ' f ca cs p (q + 3) → Same [f] σ σ' → Q (.int (q + 3)) σ') : Cal scr cells true d 530 [.obj f] σ Q X := by
  have hd := F.dict
  refine Zd rfl rfl ?_
  walk_at "s"
  have F1 : Fd (σ.upd f (.dict (Ze 67 (.int (q + 3)) [(65, .obj ca), (66, .int p), (67, .int q)]))) f ca cs p (q + 3) := F.next F.low
  have h := h _ F1 (Same.upd (.head _))
  clear hd
  generalize σ.upd f _ = σ1 at F1 h ⊢
  have hd := F1.dict
  exact Zg (by walk_at "e") h
end
inductive Lf where
  | nm (sp : Int) (t : Nat)
  | tr (sp : Int)
  | nu (sp i : Int)
noncomputable def Lf.pv : Lf → PV
  | .nm sp t => .tup [.tag 5, .int sp, .tag t]
  | .tr sp => .tup [.tag 1, .int sp, .bool true]
  | .nu sp i => .tup [.tag 0, .int sp, .int i]
inductive Sr where
  | nm (sp : Int) (t : Nat)
  | rg (sp sp1 : Int) (l : Lf)
noncomputable def Sr.pv : Sr → PV
  | .nm sp t => .tup [.tag 5, .int sp, .tag t]
  | .rg sp sp1 l => .tup [.tag 12, .int sp, .tup [.tag 0, .int sp1, .int 1], l.pv]
inductive Nd where
  | lf (l : Lf)
  | bin (sp : Int) (s : Sg) (a : Nd) (b : Lf)
  | idx (sp : Int) (t : Nat) (i : Nd)
  | gen (sp : Int) (w : Nat) (rows : List (List Nat × Sr)) (wh : Option Lf) (body : Nd)
noncomputable def Zbh (r : List Nat × Sr) : PV := .tup [.tup (r.1.map .tag), r.2.pv]
noncomputable def whPV : Option Lf → PV
  | none => .none
  | some l => l.pv
noncomputable def Zav (c : Bool) (sp : Int) (w : Nat) (rows : List (List Nat × Sr)) (wh : Option Lf) (body : PV) : PV := .tup [.tag (if c then 14 else 13), .int sp, .tag w, .tup (rows.map Zbh), whPV wh, body]
noncomputable def Nd.pv : Nd → PV
  | .lf l => l.pv
  | .bin sp s a b => .tup [.tag 6, .int sp, .tag s.tag, a.pv, b.pv]
  | .idx sp t i => .tup [.tag 8, .int sp, .tup [.tag 5, .int (sp + 1), .tag t], .tup [i.pv]]
  | .gen sp w rows wh body => Zav false sp w rows wh body.pv
theorem Zdq {ts : List Nat} {r : Int} (h0 : 0 ≤ r) (h1 : r < ts.length) (h2 : ts.length ≤ 1000) : ∃ t ∈ ts, Zbm (ts.map .tag) r = some (.tag t) := by
  obtain ⟨v, hv, e⟩ := Zhg (vs := ts.map .tag) h0 (by rw [List.length_map]; exact h1) (by rw [List.length_map]; exact h2)
  obtain ⟨t, ht, rfl⟩ := List.mem_map.mp hv
  exact ⟨t, ht, e⟩
theorem Zds {x y : Int} (h : 0 < y) : 0 ≤ Int.emod x y ∧ Int.emod x y < y := ⟨Int.emod_nonneg _ (by lia), Int.emod_lt_of_pos _ h⟩
section
variable {scr : Addr} {cells : List PV} {σ : Store} {f ca : Addr} {cs : List PV} {p q : Int} {Q : QV} {X : XV'} {d : Nat}
theorem Fd.ne' (F : Fd σ f ca cs p q) {a : Addr} (h : σ a = none) : a ≠ f := fun z => by
  have := F.dict
  rw [← z, h] at this; contradiction
theorem Zpj {b : Nat} (hb : b = 0 ∨ b = 1) (F : Fd σ f ca cs p q) (hp : p + 2 ≤ 1000) (h : ∀ l σ' p' q', Fd σ' f ca cs p' q' → p' ≤ p + 2 → Same [f] σ σ' → Q (Lf.pv l) σ') : Cal scr cells true (d + 1) 537 [.obj f, .tag b] σ Q X := by
  have hbt : Nat.blt b 271 = true := by rcases hb with rfl | rfl <;> rfl
  refine Zd rfl rfl (Zbp (fun _ => rfl) (Zbl (Zh (Zc (by walk_at "es") rfl (Zft F fun σ₁ F₁ S₁ => Zk (Zh (Zc (by walk_at "es") rfl (Zcn F₁ (by lia) (by decide) fun r σ₂ h0 h1 F₂ S₂ => Zk (Zae (Zbj (by walk_at "l") (Zvl rfl ?_)))))))))))
  have S := S₁.trans S₂
  clear S₁ S₂ F₁ F
  by_cases c : r = 8
  · subst c
    refine Zn (by walk_at "e") rfl (Zt (Zbl (Zj (by walk_at "e") (Zj (by walk_at "e") (Zh (Zbq (Zbs (by walk_at "es") (by walk_at "l") fun a ha => Zaf (Zc (by walk_at "es") rfl (Zcn (F₂.same (Same.new (A := []) ha) (by simp) (by simp)) (by lia) (by decide) fun r σ₃ h0 h1 F₃ S₃ => ?_)))))))))
    obtain ⟨t, ht, e⟩ := Zdq (ts := [29, 34, 31, 35, 32, 33]) h0 h1 (by decide)
    exact Zby (.list (S₃.at Zb (by simpa using F₂.ne' ha)) e) (Zk (Zae (Zbj (Nat.le_of_ble_eq_true rfl) (h (.nm _ t) _ _ _ F₃ (by lia) (S.trans ((Same.new ha).trans S₃))))))
  · have c8 : (r == 8) = false := by simpa using c
    refine Zr (by walk_at "e") c8 (Zf ?_)
    rcases hb with rfl | rfl
    · refine Zr (by walk_at "e") rfl (Zf ?_)
      by_cases c7 : r < 7
      · refine Zt (Zqb (by walk_at "e") (decide_eq_true c7) (Zbl (Zj (by walk_at "e") (Zj (by walk_at "e") (Zh (Zbq (Zbs (by walk_at "es") (by walk_at "l") fun a ha => Zaf (Zan (by walk_at "e") ?_))))))))
        obtain ⟨t, ht, e⟩ := Zdq (ts := [36, 25, 26, 37]) (r := Int.emod r 4) (Zds (by decide)).1 (Zds (by decide)).2 (by decide)
        exact Zby (.list Zb e) (Zk (Zae (Zbj (Nat.le_of_ble_eq_true rfl) (h (.nm _ t) _ _ _ (F₂.same (Same.new (A := []) ha) (by simp) (by simp)) (by lia) (S.trans (Same.new ha))))))
      · exact Zg (.iteF (by walk_at "e") (decide_eq_false c7) (by walk_at "e")) (h (.nu _ 2) _ _ _ F₂ (by lia) S)
    · refine Zn (by walk_at "e") rfl ?_
      have h3 : Int.emod r 3 = 0 ∨ Int.emod r 3 = 1 ∨ Int.emod r 3 = 2 := by have := @Zds r 3 (by decide); lia
      have one : ∀ i v, Int.emod r 3 = i → Zbm [Lf.pv (.nm (q + 3) 27), Lf.pv (.nm (q + 3) 28), Lf.pv (.tr (q + 3))] i = some v → Q v σ₂ → Wp scr cells true (d + 1) (Zfq b537 2) ((73, .int r) :: (67, .int (q + 3)) :: Zaz [71, 74] [.obj f, .tag 1]) σ₂ (Zaa (Wp scr cells true (d + 1) (b537.drop 3)) (Zbc Q) (Zag X)) (Zag X) := by
        intro i v e1 e2 hq
        subst e1
        show Wp scr cells true (d + 1) (_ :: _) _ _ _ _
        exact Zg (.sub (by walk_at "e") (by walk_at "e") (.tup e2)) hq
      rcases h3 with e | e | e
      · exact one _ _ e rfl (h (.nm _ _) _ _ _ F₂ (by lia) S)
      · exact one _ _ e rfl (h (.nm _ _) _ _ _ F₂ (by lia) S)
      · exact one _ _ e rfl (h (.tr _) _ _ _ F₂ (by lia) S)
noncomputable def rowNames : List (List Nat) := [[36], [37], [36, 37], [25], [37, 37]]
noncomputable def Zcq (r : List Nat × Sr) : Prop := r.1 ∈ rowNames
theorem Fd.new (F : Fd σ f ca cs p q) {a : Addr} {o : PO} (h : σ a = none) : Fd (σ.upd a o) f ca cs p q := F.same (Same.new (A := []) h) (by simp) (by simp)
theorem Zte {lo : Loc} {a : Addr} {rows : List (List Nat × Sr)} {Q : QS} {X : XS} (h81 : lo.get 81 = some (.obj a)) (h71 : lo.get 71 = some (.obj f)) (F : Fd σ f ca cs p q) (hp : p + 10 ≤ 1000) (ha : σ a = some (.list (rows.map Zbh))) (hr : rows.length ≤ 100) (hca : ca ≠ a)
    (h : ∀ lo' r σ' p' q', lo'.get 81 = some (.obj a) → lo'.get 71 = some (.obj f) → Fd σ' f ca cs p' q' → p' ≤ p + 8 → σ' a = some (.list ((rows ++ [r]).map Zbh)) → Same [f, a] σ σ' → Zcq r → Q .next lo' σ') :
    Wp scr cells true (d + 2) b551_1 lo σ Q X := by
  have nfa : a ≠ f := fun z => by have := F.dict; rw [← z, ha] at this; cases this
  have ha' : f ≠ a := fun z => nfa z.symm
  have naf : a ∉ [f] := by simpa using nfa
  have rl : (rows.map Zbh).length ≤ 1000 := by rw [List.length_map]; lia
  have fin : ∀ lo' r σ' p' q', lo'.get 81 = some (.obj a) → lo'.get 71 = some (.obj f) → Fd σ' f ca cs p' q' → p' ≤ p + 8 → Same [f, a] σ σ' → Zcq r → Q .next lo' (σ'.upd a (.list (rows.map Zbh ++ [Zbh r]))) := fun lo' r σ' p' q' k81 k71 F' l S ok =>
    h lo' r _ p' q' k81 k71 (F'.same (Same.upd (A := [a]) (.head _)) (by simpa using ha') (by simpa using hca)) l (by rw [Zb, List.map_append]; rfl) (S.trans (Same.upd (by exact .tail _ (.head _)))) ok
  clear h
  show Wp scr cells true (d + 2) (_ :: _) _ _ _ _
  refine Zu (Zbq (Zbs (by walk_at "es") (by walk_at "l") fun b hb => Zaf (Zc (by walk_at "es") rfl (Zcn (F.new hb) (by lia) (by decide) fun r σ₁ h0 h1 F₁ S₁ => ?_))))
  obtain ⟨v, hv, e⟩ := Zhg (vs := rowNames.map fun ns => .tup (ns.map .tag)) h0 h1 (by decide)
  obtain ⟨ns, hns, rfl⟩ := List.mem_map.mp hv
  refine Zby (.list (S₁.at Zb (by simpa using F.ne' hb)) e) (Zx ?_)
  have ha1 : σ₁ a = some (.list (rows.map Zbh)) := S₁.at (Zi ha hb) naf
  have S1 : Same [f] σ σ₁ := (Same.new hb).trans S₁
  clear e hv hb S₁ F ha
  refine Zbp (fun _ => rfl) (Zbl (Zh (Zc (by walk_at "es") rfl (Zcn F₁ (by lia) (by decide) fun way σ₂ w0 w1 F₂ S₂ => Zk (Zh (Zc (by walk_at "es") rfl (Zft F₂ fun σ₃ F₃ S₃ => Zk (Zae (Zbj (by walk_at "l") (Zvl rfl ?_))))))))))
  have ha3 := (S₂.trans S₃).at ha1 naf
  have S3 := S1.trans (S₂.trans S₃)
  clear S1 S₂ S₃ F₁ F₂ ha1 h0 h1
  refine Zu (Zbl (Zj (by walk_at "e") (Zj (by walk_at "e") (Zh (Zbq (Zbs (by walk_at "es") (by walk_at "l") fun c hc => Zaf (Zan (by walk_at "e") ?_)))))))
  obtain ⟨t, ht, e2⟩ := Zdq (ts := [29, 30, 31, 32, 33]) (r := Int.emod way 5) (Zds (by decide)).1 (Zds (by decide)).2 (by decide)
  refine Zby (.list Zb e2) (Zk (Zae (Zbj (Nat.le_of_ble_eq_true rfl) (Zx ?_))))
  have ha4 := Zi (o := .list [.tag 29, .tag 30, .tag 31, .tag 32, .tag 33]) ha3 hc
  have F4 := F₃.new (o := .list [.tag 29, .tag 30, .tag 31, .tag 32, .tag 33]) hc
  have S4 := S3.trans (Same.new (o := .list [.tag 29, .tag 30, .tag 31, .tag 32, .tag 33]) hc)
  clear S3 F₃ e2
  generalize σ₃.upd c _ = σ4 at ha4 F4 S4 ⊢
  cases c5 : (way == 5) with
  | true =>
    refine Zn (by walk_at "e") c5 (Zu (Zbl (Zj (by walk_at "e") (Zj (by walk_at "e") (Zh (Zbl (Zj (by walk_at "e") (Zh (Zc (by walk_at "es") rfl (Zft F4 fun σ₅ F₅ S₅ => Zk (Zj (by walk_at "e") (Zae (Zbj (by walk_at "l") (Zk (Zh (Zc (by walk_at "es") rfl (Zpj (.inl rfl) F₅ (by lia) fun l σ₆ p6 q6 F₆ hp6 S₆ => Zk (Zae (Zbj (by walk_at "l") (Zx (Zf ?_)))))))))))))))))))))
    have ha6 := (S₅.trans S₆).at ha4 naf
    exact Zq (Zhn (by walk_at "e") ha6 (by walk_at "e") rl (Zy (Zak (fin _ (ns, .rg (q + 3) (q + 3 + 3) l) σ₆ p6 q6 (by walk_at "g") (by walk_at "g") F₆ (by lia) ((S4.trans (S₅.trans S₆)).mono (by simp)) hns))))
  | false =>
    exact Zr (by walk_at "e") c5 (Zf (Zq (Zhn (by walk_at "e") ha4 (by walk_at "e") rl (Zy (Zak (fin _ (ns, .nm (q + 3) t) σ4 _ _ (by walk_at "g") (by walk_at "g") F4 (by lia) (S4.mono (by simp)) hns))))))
theorem Zjb {g : Nat} {gp : Pos} {X : XS} : ∀ (vs : List PV) {lo : Loc} {a : Addr} {rows : List (List Nat × Sr)} {σ : Store} {p q : Int} {Q : QS}, Nat.beq g 81 = false → Nat.beq g 71 = false → lo.get 81 = some (.obj a) → lo.get 71 = some (.obj f) → Fd σ f ca cs p q → p + 8 * vs.length + 2 ≤ 1000 → σ a = some (.list (rows.map Zbh)) → rows.length + vs.length ≤ 100 → ca ≠ a →
    (∀ r ∈ rows, Zcq r) →
    (∀ lo' (rows' : List (List Nat × Sr)) σ' p' q', lo'.get 81 = some (.obj a) → Fd σ' f ca cs p' q' → p' ≤ p + 8 * vs.length → σ' a = some (.list (rows'.map Zbh)) → Same [f, a] σ σ' → (∀ r ∈ rows', Zcq r) → rows'.length = rows.length + vs.length → Q .next lo' σ') →
    Zax (.one g gp) (Wp scr cells true (d + 2) b551_1) vs lo σ Q X
  | [], lo, a, rows, σ, p, q, Q, g1, g2, h81, h71, F, hp, ha, hr, hca, ok, h => Zgj (h lo rows σ p q h81 F (by lia) ha .refl ok rfl)
  | v :: vs, lo, a, rows, σ, p, q, Q, g1, g2, h81, h71, F, hp, ha, hr, hca, ok, h => by
    simp only [List.length_cons] at hp hr h
    refine Zbe rfl (Zte (a := a) (rows := rows) (Zm g1 h81) (Zm g2 h71) F (by lia) ha (by lia) hca fun lo' r σ' p' q' k81 k71 F' hp' ha' S' hr' => ?_)
    refine Zjb vs g1 g2 k81 k71 F' (by lia) ha' (by rw [List.length_append, List.length_singleton]; lia) hca (fun x hx => ?_) fun lo2 rows2 σ2 p2 q2 m81 F2 hp2 ha2 S2 ok2 hl2 => h lo2 rows2 σ2 p2 q2 m81 F2 (by lia) ha2 (S'.trans S2) ok2 (by rw [hl2, List.length_append, List.length_singleton]; lia)
    rcases List.mem_append.mp hx with hx | hx
    · exact ok x hx
    · rw [List.mem_singleton.mp hx]; exact hr'
theorem Zaat (F : Fd σ f ca cs p q) (hp : p + 30 ≤ 1000) (h : ∀ (rows : List (List Nat × Sr)) σ' p' q', Fd σ' f ca cs p' q' → p' ≤ p + 20 → Same [f] σ σ' → (∀ r ∈ rows, Zcq r) → rows.length ≤ 2 → Q (.tup (rows.map Zbh)) σ') : Cal scr cells true (d + 2) 551 [.obj f] σ Q X := by
  refine Zd rfl rfl (Zu (Zbs (by walk_at "es") (by walk_at "l") fun a ha => Zx ?_))
  have nfa := F.ne' ha
  have nca : ca ≠ a := fun z => by have := F.list; rw [z, ha] at this; contradiction
  refine Zwv rfl (Zh (Zqd (Zan (by walk_at "e") (Zaf (Zc (by walk_at "es") rfl (Zcn (F.new ha) (by lia) (by decide) fun r σ₁ h0 h1 F₁ S₁ => ?_))))))
  have rg : Zdw (1 + r) = some ((List.range (1 + r).toNat).map fun (i : Nat) => .int i) := by unfold Zdw; rw [if_pos (by lia)]
  have ll : ((List.range (1 + r).toNat).map fun (i : Nat) => PV.int i).length ≤ 2 := by rw [List.length_map, List.length_range]; lia
  have ha1 := S₁.at (Zb (σ := σ)) (show a ∉ [f] by simpa using nfa)
  generalize ((List.range (1 + r).toNat).map fun (i : Nat) => PV.int i) = vs at rg ll
  refine .add ⟨vs, .one _ rfl rg, by lia, Zjb (a := a) (rows := []) vs rfl rfl rfl rfl F₁ (by lia) ha1 (by rw [List.length_nil]; lia) nca (fun _ h => by contradiction) fun lo' rows σ' p' q' k81 F' hp' ha' S' ok hl => ?_⟩
  rw [List.length_nil] at hl
  refine Zg (.toTup (by walk_at "e") ha' (by rw [List.length_map]; lia)) (h rows σ' p' q' F' (by lia) (fun b hb nb => ?_) ok (by lia))
  have nba : b ≠ a := fun z => by rw [z, ha] at hb; exact hb rfl
  have e1 : (σ.upd a (.list [])) b = σ b := Zad nba
  have e2 := S₁ b (by rw [e1]; exact hb) nb
  have e3 := S' b (by rw [e2, e1]; exact hb) (by simp only [List.mem_cons, List.not_mem_nil, or_false, not_or] at nb ⊢; exact ⟨nb, nba⟩)
  rw [e3, e2, e1]
end
noncomputable def genNames : List Nat := [17, 18, 19, 21, 23, 24, 22]
noncomputable def compNs : List Nat := [3, 10]
noncomputable def Zbr (c : Bool) (w : Nat) (rows : List (List Nat × Sr)) : Prop := (if c then w ∈ compNs else w ∈ genNames) ∧ (∀ r ∈ rows, Zcq r) ∧ rows.length ≤ 2
noncomputable def NdOk : Nd → Prop
  | .lf _ => True
  | .bin _ _ a _ => NdOk a
  | .idx _ _ i => NdOk i
  | .gen _ w rows _ body => Zbr false w rows ∧ NdOk body
noncomputable def Nd.sz : Nd → Nat
  | .lf _ => 1
  | .bin _ _ a _ => a.sz + 2
  | .idx _ _ i => i.sz + 2
  | .gen _ _ _ _ body => body.sz + 20
noncomputable def Nd.dp : Nd → Nat
  | .lf _ => 0
  | .bin _ _ a _ => a.dp + 1
  | .idx _ _ i => i.dp + 1
  | .gen _ _ _ _ body => body.dp + 1
theorem Zno {n x fl k : Nat} (h : n ≤ 30 * (fl + 1) ∧ x ≤ fl) (hk : k ≤ 30) : n + k ≤ 30 * (fl + 1 + 1) ∧ x + 1 ≤ fl + 1 := ⟨Nat.add_le_add h.1 hk, Nat.succ_le_succ h.2⟩
theorem Zyq (fl : Nat) : 1 ≤ 30 * (fl + 1) ∧ 0 ≤ fl := ⟨Nat.le_trans (by decide) (Nat.mul_le_mul_left 30 (Nat.le_add_left 1 fl)), Nat.zero_le _⟩
section
variable {scr : Addr} {cells : List PV} {σ : Store} {f ca : Addr} {cs : List PV} {p q : Int} {Q : QV} {X : XV'} {d : Nat}
theorem Zqf {b : Nat} (hd : 1 ≤ d) (hb : b = 0 ∨ b = 1) (F : Fd σ f ca cs p q) (hp : p + 2 ≤ 1000) (h : ∀ l σ' p' q', Fd σ' f ca cs p' q' → p' ≤ p + 2 → Same [f] σ σ' → Q (Lf.pv l) σ') : Cal scr cells true d 537 [.obj f, .tag b] σ Q X := by
  obtain ⟨e, rfl⟩ : ∃ e, d = e + 1 := ⟨d - 1, by lia⟩
  exact Zpj hb F hp h
theorem Zacd (hd : 2 ≤ d) (F : Fd σ f ca cs p q) (hp : p + 30 ≤ 1000) (h : ∀ (rows : List (List Nat × Sr)) σ' p' q', Fd σ' f ca cs p' q' → p' ≤ p + 20 → Same [f] σ σ' → (∀ r ∈ rows, Zcq r) → rows.length ≤ 2 → Q (.tup (rows.map Zbh)) σ') : Cal scr cells true d 551 [.obj f] σ Q X := by
  obtain ⟨e, rfl⟩ : ∃ e, d = e + 2 := ⟨d - 2, by lia⟩
  exact Zaat F hp h
noncomputable def Zcr (scr : Addr) (cells : List PV) (f ca : Addr) (cs : List PV) (X : XV') (fl : Nat) : Prop := ∀ d b (σ : Store) p q (Q : QV), 2 + 3 * fl ≤ d → b = 0 ∨ b = 1 → Fd σ f ca cs p q → p + (100 * fl + 3) ≤ 900 →
  (∀ (nd : Nd) σ' p' q', Fd σ' f ca cs p' q' → p' ≤ p + (100 * fl + 3) → Same [f] σ σ' → NdOk nd → nd.sz ≤ 30 * (fl + 1) ∧ nd.dp ≤ fl → (fl = 0 → ∃ l, nd = .lf l) → Q nd.pv σ') → Cal scr cells true d 544 [.obj f, .int fl, .tag b] σ Q X
noncomputable def Znz (scr : Addr) (cells : List PV) (f ca : Addr) (cs : List PV) (X : XV') (fl : Nat) : Prop := ∀ d c (σ : Store) p q (Q : QV), 4 + 3 * fl ≤ d → Fd σ f ca cs p q → p + 30 + (100 * fl + 3) ≤ 900 →
  (∀ sp w rows wh (body : Nd) σ' p' q', Fd σ' f ca cs p' q' → p' ≤ p + 30 + (100 * fl + 3) → Same [f] σ σ' → Zbr c w rows → NdOk body → body.sz ≤ 30 * (fl + 1) ∧ body.dp ≤ fl → Q (Zav c sp w rows wh body.pv) σ') → Cal scr cells true d 558 [.obj f, .int fl, .tag (if c then 14 else 13)] σ Q X
theorem Zyc {G : Pg} {st : Bool} {lo : Loc} {e : Ex} {fl : Nat} {p p' : Pos} (h : Ev G st σ lo e (.int ((fl + 1 : Nat) : Int))) : Ev G st σ lo (.bin e .Sub (.int 1 p) p') (.int (fl : Int)) := by
  have c1 : ((fl + 1 : Nat) : Int) - 1 = (fl : Int) := by lia
  rw [← c1]
  exact .minus2 h .int
local macro_rules | `(tactic| walk_at "e") => `(tactic| (apply Zyc; walk_at "e"))
theorem e_zero : Zcr scr cells f ca cs X 0 := by
  intro d b σ p q Q hd hb F hp h
  obtain ⟨e, rfl⟩ : ∃ e, d = e + 2 := ⟨d - 2, by lia⟩
  refine Zd rfl rfl (Zaj (.iteF (by walk_at "e") rfl (by walk_at "e")) (Zn (by walk_at "e") rfl (Zt (Zc (by walk_at "es") rfl ?_))))
  exact Zqf (by lia) hb F (by lia) fun l σ' p' q' F' hp' S' => h (.lf l) σ' p' q' F' (by lia) S' trivial (Zyq _) fun _ => ⟨l, rfl⟩
theorem gen_lt : ∀ t ∈ genNames, Nat.blt t 271 = true := by decide
theorem comp_lt : ∀ t ∈ compNs, Nat.blt t 271 = true := by decide
theorem Zrk {fl e : Nat} {c : Bool} (E0 : Zcr scr cells f ca cs X 0) (E : Zcr scr cells f ca cs X fl) (hd : 3 * fl ≤ e) (hp : p + 30 + (100 * fl + 3) ≤ 900)
    (h : ∀ sp w rows wh (body : Nd) σ' p' q', Fd σ' f ca cs p' q' → p' ≤ p + 30 + (100 * fl + 3) → Same [f] σ σ' → Zbr c w rows → NdOk body → body.sz ≤ 30 * (fl + 1) ∧ body.dp ≤ fl → Q (Zav c sp w rows wh body.pv) σ')
    {w : Nat} {σ₃ : Store} {p3 : Int} {lo : Loc} (hw : Nat.blt w 271 = true) (hwk : if c then w ∈ compNs else w ∈ genNames) (F₃ : Fd σ₃ f ca cs p3 (q + 3)) (hp3 : p3 ≤ p + 2) (S03 : Same [f] σ σ₃)
    (l71 : lo.get 71 = some (.obj f)) (l85 : lo.get 85 = some (.tag (if c then 14 else 13))) (l67 : lo.get 67 = some (.int (q + 3))) (l86 : lo.get 86 = some (.tag w)) (l75 : lo.get 75 = some (.int fl)) :
    Wp scr cells true (e + 4) (b558.drop 3) lo σ₃ (Zbc Q) (Zag X) := by
  show Wp scr cells true (e + 4) (_ :: _) lo σ₃ (Zbc Q) (Zag X)
  refine Zu (Zc (by walk_at "es") rfl (Zacd (by lia) F₃ (by lia) fun rows σ₄ p4 q4 F₄ hp4 S₄ ok hl => Zx ?_))
  refine Zu (Zki (Zep (Zc (by walk_at "es") rfl (Zcn F₄ (by lia) (by decide) fun r5 σ₅ r50 r51 F₅ S₅ => Zaf (Zan (by walk_at "e") (Zgh (by walk_at "c") ?_))))))
  have S05 := S03.trans (S₄.trans S₅)
  have fin : ∀ (wh : Option Lf) σ₆ p6 q6, Fd σ₆ f ca cs p6 q6 → p6 ≤ p + 27 → Same [f] σ σ₆ → Wp scr cells true (e + 4) (b558.drop 5) ((88, whPV wh) :: (87, .tup (rows.map Zbh)) :: lo) σ₆ (Zbc Q) (Zag X) := by
    intro wh σ₆ p6 q6 F₆ hp6 S6
    show Wp scr cells true (e + 4) (_ :: _) _ σ₆ (Zbc Q) (Zag X)
    have hb : cond (w == 18) 1 0 = 0 ∨ cond (w == 18) 1 0 = 1 := by cases (w == 18) <;> simp
    exact Zt (Zbl (Zj (by walk_at "e") (Zj (by walk_at "e") (Zj (by walk_at "e") (Zj (by walk_at "e") (Zj (by walk_at "e") (Zh (Zc (.cons (by walk_at "e") (.cons (by walk_at "e") (.cons (.iteTag (by walk_at "e") (by walk_at "e") (by walk_at "e")) .nil))) rfl
      (E _ _ _ _ _ _ (by lia) hb F₆ (by lia) fun body σ₇ p7 q7 F₇ hp7 S₇ ok7 sz7 _ => Zk (Zae (Zbj (Nat.le_of_ble_eq_true rfl) (h (q + 3) w rows wh body σ₇ p7 q7 F₇ (by lia) (S6.trans S₇) ⟨hwk, ok, hl⟩ ok7 sz7))))))))))))
  by_cases c2 : r5 = 2
  · subst c2
    refine Zke (Zc (by walk_at "es") rfl (E0 _ _ _ _ _ _ (by lia) (.inr rfl) F₅ (by lia) fun nd σ₆ p6 q6 F₆ hp6 S₆ ok6 sz6 l6 => ?_))
    obtain ⟨l, rfl⟩ := l6 rfl
    exact Zx (fin (some l) σ₆ p6 q6 F₆ (by lia) (S05.trans S₆))
  · have c2' : eqP (.int r5) (.int 2) = false := by show (r5 == 2) = false; simpa using c2
    rw [c2']
    exact Zkf (Zan (by walk_at "e") (Zx (fin none σ₅ _ _ F₅ (by lia) S05)))
theorem Zpn {fl : Nat} (E0 : Zcr scr cells f ca cs X 0) (E : Zcr scr cells f ca cs X fl) : Znz scr cells f ca cs X fl := by
  intro d c σ p q Q hd F hp h
  obtain ⟨e, rfl⟩ : ∃ e, d = e + 4 := ⟨d - 4, by lia⟩
  have tail := @Zrk scr cells σ f ca cs p q Q X fl e c E0 E (by lia) hp h
  clear h E E0
  refine Zd rfl rfl (Zu (Zc (by walk_at "es") rfl (Zft F fun σ₁ F₁ S₁ => Zx (Zu (Zbq (Zbs (by walk_at "es") (by walk_at "l") fun a ha => Zaf (Zc (by walk_at "es") rfl (Zcn (F₁.new ha) (by lia) (by decide) fun r σ₂ r0 r1 F₂ S₂ => ?_))))))))
  obtain ⟨t, ht, e1⟩ := Zdq (ts := genNames) r0 r1 (by decide)
  refine Zby (.list (S₂.at Zb (by simpa using F₁.ne' ha)) e1) (Zx ?_)
  have S02 : Same [f] σ σ₂ := S₁.trans ((Same.new ha).trans S₂)
  clear e1 ha S₁ S₂ F₁ F
  cases c with
  | false => exact Zr (by walk_at "e") rfl (Zf (tail (gen_lt t ht) ht F₂ (by lia) S02 rfl rfl rfl rfl rfl))
  | true =>
    refine Zn (by walk_at "e") rfl (Zu (Zbq (Zbs (by walk_at "es") (by walk_at "l") fun a ha => Zaf (Zc (by walk_at "es") rfl (Zcn (F₂.new ha) (by lia) (by decide) fun r2 σ₃ r20 r21 F₃ S₃ => ?_)))))
    obtain ⟨t2, ht2, e2⟩ := Zdq (ts := compNs) r20 r21 (by decide)
    exact Zby (.list (S₃.at Zb (by simpa using F₂.ne' ha)) e2) (Zx (Zf (tail (comp_lt t2 ht2) ht2 F₃ (by lia) (S02.trans ((Same.new ha).trans S₃)) rfl rfl rfl rfl rfl)))
theorem Zuy {fl e : Nat} (E0 : Zcr scr cells f ca cs X 0) (E : Zcr scr cells f ca cs X fl) (hd : 3 * fl ≤ e) (hp : p + (100 * (fl + 1 : Nat) + 3) ≤ 900)
    (h : ∀ (nd : Nd) σ' p' q', Fd σ' f ca cs p' q' → p' ≤ p + (100 * (fl + 1 : Nat) + 3) → Same [f] σ σ' → NdOk nd → nd.sz ≤ 30 * (fl + 1 + 1) ∧ nd.dp ≤ fl + 1 → (fl + 1 = 0 → ∃ l, nd = .lf l) → Q nd.pv σ') {p2 : Int} {σ₂ : Store} (F₂ : Fd σ₂ f ca cs p2 (q + 3)) (hp2 : p2 ≤ p + 1) (S02 : Same [f] σ σ₂)
    (s : Sg) (b2 : Nat) (lo : Loc) (hb2 : b2 = 0 ∨ b2 = 1) (l71 : lo.get 71 = some (.obj f)) (l67 : lo.get 67 = some (.int (q + 3))) (l78 : lo.get 78 = some (.tag s.tag)) (l79 : lo.get 79 = some (.tag b2)) (l75 : lo.get 75 = some (.int ((fl + 1 : Nat) : Int))) :
    Wp scr cells true (e + 5) (b544.drop 7) lo σ₂ (Zbc Q) (Zag X) := by
  show Wp scr cells true (e + 5) (_ :: _) lo σ₂ (Zbc Q) (Zag X)
  refine Zu (Zc (by walk_at "es") rfl (E _ _ _ _ _ _ (by lia) hb2 F₂ (by lia) fun nd σ₃ p3 q3 F₃ hp3 S₃ ok hs _ => Zx ?_))
  refine Zt <| Zbl <| Zj (by walk_at "e") <| Zj (by walk_at "e") <| Zj (by walk_at "e") <| Zj (by walk_at "e") <| Zh <| Zc (by walk_at "es") rfl <| E0 _ _ _ _ _ _ (by lia) hb2 F₃ (by lia) fun nd2 σ₄ p4 q4 F₄ hp4 S₄ ok4 hs4 l4 => ?_
  obtain ⟨l, rfl⟩ := l4 rfl
  exact Zk (Zae (Zbj (Nat.le_of_ble_eq_true rfl) (h (.bin (q + 3) s nd l) σ₄ p4 q4 F₄ (by lia) (S02.trans (S₃.trans S₄)) ok (Zno hs (by decide)) fun z => absurd z (Nat.succ_ne_zero _))))
theorem Zabu {fl : Nat} (E0 : Zcr scr cells f ca cs X 0) (E : Zcr scr cells f ca cs X fl) (M : Znz scr cells f ca cs X fl) : Zcr scr cells f ca cs X (fl + 1) := by
  intro d b σ p q Q hd hb F hp h
  obtain ⟨e, rfl⟩ : ∃ e, d = e + 5 := ⟨d - 5, by lia⟩
  have hbt : Nat.blt b 271 = true := by rcases hb with rfl | rfl <;> rfl
  have c0 : decide ((0 : Int) < ((fl + 1 : Nat) : Int)) = true := decide_eq_true (by lia)
  refine Zd rfl rfl (Zu (Zqb (by walk_at "e") c0 (Zc (by walk_at "es") rfl (Zcn F (by lia) (by decide) fun way σ₁ w0 w1 F₁ S₁ => Zx ?_))))
  by_cases c2 : way < 2
  · exact Zn (by walk_at "e") (decide_eq_true c2) (Zt (Zc (by walk_at "es") rfl (Zqf (by lia) hb F₁ (by lia) fun l σ' p' q' F' hp' S' => h (.lf l) σ' p' q' F' (by lia) (S₁.trans S') trivial (Zyq _) fun z => absurd z (Nat.succ_ne_zero _))))
  refine Zr (by walk_at "e") (decide_eq_false c2) (Zf (Zu (Zc (by walk_at "es") rfl (Zft F₁ fun σ₂ F₂ S₂ => Zx ?_))))
  have S02 := S₁.trans S₂
  have tail := @Zuy scr cells σ f ca cs p q Q X fl e E0 E (by lia) hp h _ σ₂ F₂ (by lia) S02
  clear S₁ S₂ F₁ F
  cases c5 : (way == 5) with
  | true =>
    exact Zn (by walk_at "e") c5 (Zt (Zc (by walk_at "es") rfl (M _ false _ _ _ _ (by lia) F₂ (by lia) fun sp w rows wh body σ' p' q' F' hp' S' mo ok hs => h (.gen sp w rows wh body) σ' p' q' F' (by lia) (S02.trans S') ⟨mo, ok⟩ (Zno hs (by decide)) fun z => absurd z (Nat.succ_ne_zero _))))
  | false =>
  refine Zr (by walk_at "e") c5 (Zf ?_)
  rcases hb with rfl | rfl
  · cases c4 : (way == 4) with
    | true =>
      refine Zn (.and2 (by walk_at "e") fun _ => by walk_at "e") (by show ((way == 4) && true) = true; rw [c4]; rfl) (Zu (Zbl (Zj (by walk_at "e") (Zj (by walk_at "e") (Zh (Zbq (Zbs (by walk_at "es") (by walk_at "l") fun a ha => Zaf (Zc (by walk_at "es") rfl (Zcn (F₂.new ha) (by lia) (by decide) fun r σ₃ r0 r1 F₃ S₃ => ?_)))))))))
      obtain ⟨t, ht, e1⟩ := Zdq (ts := [31, 30, 33, 26]) r0 r1 (by decide)
      exact Zby (.list (S₃.at Zb (by simpa using F₂.ne' ha)) e1) <| Zk <| Zae <| Zbj (Nat.le_of_ble_eq_true rfl) <| Zx <| Zt <| Zbl <| Zj (by walk_at "e") <| Zj (by walk_at "e") <| Zj (by walk_at "e") <| Zh <| Zbl <| Zh <| Zc (by walk_at "es") rfl <|
        E _ _ _ _ _ _ (by lia) (.inl rfl) F₃ (by lia) fun i σ' p' q' F' hp' S' ok hs _ => Zk <| Zae <| Zbj (Nat.le_of_ble_eq_true rfl) <| Zk <| Zae <| Zbj (Nat.le_of_ble_eq_true rfl) <| h (.idx (q + 3) t i) σ' p' q' F' (by lia) (S02.trans ((Same.new ha).trans (S₃.trans S'))) ok (Zno hs (by decide)) fun z => absurd z (Nat.succ_ne_zero _)
    | false =>
      refine Zr (.and2 (by walk_at "e") fun _ => by walk_at "e") (by show ((way == 4) && true) = false; rw [c4]; rfl) (Zf ?_)
      refine Zaj (.iteT (by walk_at "e") rfl (by walk_at "e")) (Zaj (.iteF (by walk_at "e") rfl (by walk_at "e")) ?_)
      exact tail .plus 0 _ (.inl rfl) rfl rfl rfl rfl rfl
  · refine Zr (.and2 (by walk_at "e") fun _ => by walk_at "e") (by show ((way == 4) && false) = false; exact Bool.and_false _) (Zf ?_)
    have h2 : Int.emod way 2 = 0 ∨ Int.emod way 2 = 1 := by have := @Zds way 2 (by decide); lia
    rcases h2 with e2 | e2
    · refine Zaj (.iteF (by walk_at "e") rfl (.sub (by walk_at "e") (by walk_at "e") (.tup (r := .tag 39) (by rw [e2]; rfl)))) (Zaj (.iteT (by walk_at "e") rfl (by walk_at "e")) ?_)
      exact tail .conj 1 _ (.inr rfl) rfl rfl rfl rfl rfl
    · refine Zaj (.iteF (by walk_at "e") rfl (.sub (by walk_at "e") (by walk_at "e") (.tup (r := .tag 40) (by rw [e2]; rfl)))) (Zaj (.iteF (by walk_at "e") rfl (by walk_at "e")) ?_)
      exact tail .lt 0 _ (.inl rfl) rfl rfl rfl rfl rfl
theorem em_all : ∀ fl, Zcr scr cells f ca cs X fl ∧ Znz scr cells f ca cs X fl
  | 0 => ⟨e_zero, Zpn e_zero e_zero⟩
  | fl + 1 => by
    obtain ⟨E, M⟩ := em_all fl
    have E1 := Zabu e_zero E M
    exact ⟨E1, Zpn e_zero E1⟩
end
noncomputable abbrev En := Nat → Option (Kd × Bool)
noncomputable def En.bind (e : En) (ns : List Nat) (k : Kd) : En := fun t => if ns.contains t then some (k, false) else e t
noncomputable abbrev kSET : Kd := ⟨.s, false, 0⟩
noncomputable abbrev kKNOWN : Kd := ⟨.i, false, 0⟩
noncomputable def Lf.sp : Lf → Int
  | .nm sp _ | .tr sp | .nu sp _ => sp
noncomputable def Sr.sp : Sr → Int
  | .nm sp _ | .rg sp _ _ => sp
noncomputable def Nd.sp : Nd → Int
  | .lf l => l.sp
  | .bin sp _ _ _ | .idx sp _ _ | .gen sp _ _ _ _ => sp
noncomputable abbrev R1 (α : Type) := Except Int α × List Nat
noncomputable abbrev R2 := Except Int Kd × List Nat × List Nat
noncomputable def kNm (e : En) (sp : Int) (t : Nat) : R1 Kd := match e t with
  | none => (.error sp, [])
  | some (k, b) => (.ok k, if b then [t] else [])
noncomputable def kLf (e : En) : Lf → R1 Kd
  | .nm sp t => kNm e sp t
  | .tr _ => (.ok ⟨.b, false, 0⟩, [])
  | .nu _ _ => (.ok kKNOWN, [])
noncomputable def kSr (e : En) : Sr → R1 Kd
  | .nm sp t => kNm e sp t
  | .rg sp _ l => match kLf e l with
    | (.error i, as) => (.error i, as)
    | (.ok k, as) => (if Zl k .i false 0 then .ok kSET else .error sp, as)
noncomputable def Zal (k : Kd) : Kd := if k.b == .s then kKNOWN else ⟨k.b, k.v, 0⟩
noncomputable def Zac (sp : Int) : En → List (List Nat × Sr) → R1 En
  | e, [] => (.ok e, [])
  | e, (ns, s) :: r => match kSr e s with
    | (.error i, as) => (.error i, as)
    | (.ok k, as) => if k != kSET && k.n != 1 then (.error s.sp, as) else if !nodupN ns then (.error sp, as) else
      match Zac sp (e.bind ns (Zal k)) r with
      | (x, as2) => (x, as ++ as2)
noncomputable def kWh (e : En) : Option Lf → R1 Unit
  | none => (.ok (), [])
  | some l => match kLf e l with
    | (.error i, as) => (.error i, as)
    | (.ok k, as) => (if Zl k .b false 0 then .ok () else .error l.sp, as)
noncomputable def takes : Nat → Option (Ba × Ba)
  | 17 => some (.i, .i)
  | 18 => some (.b, .b)
  | 19 => some (.i, .i)
  | 21 => some (.i, .b)
  | 23 => some (.i, .b)
  | _ => none
noncomputable def Zaw (c : Bool) (sp : Int) (w : Nat) (k : Kd) : Except Int Kd × List Nat :=
  if k.n != 0 then (.error sp, []) else if c then (if w == 10 then .ok ⟨k.b, k.v, 1⟩ else if Zl k .i false 0 then .ok kSET else .error sp, []) else
  match takes w with
  | none => (.error sp, [])
  | some (b, r) => (if Zl k b true 0 then .ok ⟨r, k.v || w == 21, 0⟩ else .error sp, if w == 21 then [21] else [])
noncomputable def Zas (c : Bool) (e : En) (sp : Int) (w : Nat) (rows : List (List Nat × Sr)) (wh : Option Lf) (bd : En → R2) : R2 :=
  if !c && (takes w).isNone then (.error sp, [], []) else
  match Zac sp e rows with
  | (.error i, as) => (.error i, as, [])
  | (.ok e', as) => match kWh e' wh with
    | (.error i, as2) => (.error i, as ++ as2, [])
    | (.ok _, as2) => match bd e' with
      | (.error i, as3, cl) => (.error i, as ++ as2 ++ as3, cl)
      | (.ok k, as3, cl) => ((Zaw c sp w k).1, as ++ as2 ++ as3, cl ++ (Zaw c sp w k).2)
noncomputable def kd : Nd → En → R2
  | .lf l, e => ((kLf e l).1, (kLf e l).2, [])
  | .bin sp s a b, e => match kd a e with
    | (.error i, as, cl) => (.error i, as, cl)
    | (.ok ka, as, cl) => match kLf e b with
      | (.error i, as2) => (.error i, as ++ as2, cl)
      | (.ok kb, as2) => (Zco sp (joinP s ka kb), as ++ as2, cl)
  | .idx sp t i, e => match kNm e (sp + 1) t with
    | (.error j, as) => (.error j, as, [])
    | (.ok ka, as) => if ka.n != 1 then (.error sp, as, []) else match kd i e with
      | (.error j, as2, cl) => (.error j, as ++ as2, cl)
      | (.ok ki, as2, cl) => (if Zl ki .i true 0 then .ok ⟨ka.b, ka.v || ki.v, 0⟩ else .error i.sp, as ++ as2, cl)
  | .gen sp w rows wh body, e => Zas false e sp w rows wh (kd body)
noncomputable abbrev Ct := List (Nat × PV)
noncomputable def lk (cs : List Ct) (t : Nat) : Nat → Option (PV × Bool)
  | 0 => none
  | n + 1 => match (cs[n]?).bind fun c => Loc.get c t with
    | some v => some (v, n == 0)
    | none => lk cs t n
noncomputable def EnOk (e : En) (cs : List Ct) : Prop := cs ≠ [] ∧ ∀ t, lk cs t cs.length = (e t).map fun x => (x.1.pv, x.2)
theorem Zpo {cs : List Ct} {c : Ct} {t : Nat} : ∀ n, n ≤ cs.length → lk (cs ++ [c]) t n = lk cs t n
  | 0, _ => rfl
  | n + 1, h => by
    unfold lk
    rw [List.getElem?_append_left (by lia), Zpo n (by lia)]
theorem Zdo {t u : Nat} {v : PV} : ∀ {es : Ct}, Loc.get (Ze t v es) u = if t = u then some v else Loc.get es u
  | [] => rfl
  | (w, x) :: r => by
    have ih := @Zdo t u v r
    rw [Zey]
    split
    · rename_i h
      subst h
      rw [Zbn, Zbn]
      split <;> rfl
    · rename_i h
      rw [Zbn, Zbn, ih]
      split
      · rename_i h2
        subst h2
        rw [if_neg (Ne.symm h)]
      · rfl
theorem Zmu {cs : List Ct} {c : Ct} {t : Nat} : lk (cs ++ [c]) t (cs ++ [c]).length = match Loc.get c t with | some v => some (v, cs.length == 0) | none => lk cs t cs.length := by
  rw [List.length_append, List.length_singleton]
  show (match ((cs ++ [c])[cs.length]?).bind fun c => Loc.get c t with | some v => some (v, cs.length == 0) | none => lk (cs ++ [c]) t cs.length) = _
  rw [List.getElem?_append_right (Nat.le_refl _), Nat.sub_self, Zpo _ (Nat.le_refl _)]
  rfl
theorem EnOk.push {e : En} {cs : List Ct} (h : EnOk e cs) : EnOk e (cs ++ [[]]) := ⟨by simp, fun t => by rw [Zmu]; exact h.2 t⟩
theorem EnOk.put {e : En} {cs : List Ct} {c : Ct} {t : Nat} {k : Kd} (h0 : cs ≠ []) (h : EnOk e (cs ++ [c])) : EnOk (e.bind [t] k) (cs ++ [Ze t k.pv c]) := ⟨by simp, fun u => by
  have hu := h.2 u
  rw [Zmu] at hu ⊢
  have hl : (cs.length == 0) = false := by cases cs with | nil => exact absurd rfl h0 | cons _ _ => rfl
  rw [Zdo]
  unfold En.bind
  by_cases z : t = u
  · subst z; simp [hl]
  · have : ¬ u = t := fun y => z y.symm
    simp [z, this]
    exact hu⟩
theorem Zjl {e : En} {ns : List Nat} {t : Nat} {k : Kd} : (e.bind ns k).bind [t] k = e.bind (ns ++ [t]) k := by
  funext u
  unfold En.bind
  by_cases z : u = t <;> by_cases y : u ∈ ns <;> simp [z, y]
theorem Zux {e : En} {k : Kd} : e.bind [] k = e := by funext u; simp [En.bind]
noncomputable def putN (ts : List Nat) (es : Ct) : Ct := ts.foldl (fun es t => Ze t (.bool true) es) es
theorem Zs {a b : List Nat} {es : Ct} : putN (a ++ b) es = putN b (putN a es) := by unfold putN; rw [List.foldl_append]
theorem Zcy {t : Nat} {v : PV} : ∀ {es : Ct}, (Ze t v es).length ≤ es.length + 1
  | [] => Nat.le_refl _
  | (u, x) :: r => by
    have := @Zcy t v r
    rw [Zey]
    split <;> simp <;> lia
theorem putN_len : ∀ {ts : List Nat} {es : Ct}, (putN ts es).length ≤ es.length + ts.length
  | [], es => Nat.le_refl _
  | t :: r, es => by
    have h1 := @putN_len r (Ze t (.bool true) es)
    have h2 := @Zcy t (.bool true) es
    show (putN r (Ze t (.bool true) es)).length ≤ _
    simp only [List.length_cons]
    lia
noncomputable def downN : Nat → List PV
  | 0 => []
  | n + 1 => .int n :: downN n
theorem down_eq : ∀ n : Nat, ((List.range n).map fun (i : Nat) => PV.int ((n : Int) - 1 - i)) = downN n
  | 0 => rfl
  | n + 1 => by
    rw [List.range_succ_eq_map, List.map_cons, List.map_map]
    show _ = PV.int (n : Int) :: downN n
    congr 1
    · congr 1; lia
    · rw [← down_eq n]
      refine List.map_congr_left fun i _ => ?_
      show PV.int (((n + 1 : Nat) : Int) - 1 - ((i + 1 : Nat) : Int)) = PV.int ((n : Int) - 1 - i)
      congr 1; lia
theorem Zif {n : Nat} (h : n ≤ 1000) : Zcv ((n : Int) - 1) (-1) (-1) = some (downN n) := by
  unfold Zcv
  rw [if_pos ⟨by rfl, by rfl, by lia, by lia⟩]
  have : ((n : Int) - 1 + 1).toNat = n := by lia
  rw [this, down_eq]
theorem down_len : ∀ n, (downN n).length = n
  | 0 => rfl
  | n + 1 => congrArg Nat.succ (down_len n)
inductive Dcs (σ : Store) : List Addr → List Ct → Prop
  | nil : Dcs σ [] []
  | cons {a c ds cs} : σ a = some (.dict c) → Dcs σ ds cs → Dcs σ (a :: ds) (c :: cs)
theorem Dcs.len {σ : Store} {ds cs} (h : Dcs σ ds cs) : ds.length = cs.length := by induction h with | nil => rfl | cons _ _ ih => simp [ih]
theorem Dcs.same {σ σ' : Store} {ds cs} (h : Dcs σ ds cs) {A : List Addr} (S : Same A σ σ') (hA : ∀ a ∈ ds, a ∉ A) : Dcs σ' ds cs := by
  induction h with
  | nil => exact .nil
  | @cons a c ds cs e _ ih => exact .cons (S.at e (hA _ (.head _))) (ih fun a h => hA a (.tail _ h))
theorem Dcs.snoc {σ : Store} {ds cs a c} (h : Dcs σ ds cs) (e : σ a = some (.dict c)) : Dcs σ (ds ++ [a]) (cs ++ [c]) := by
  induction h with
  | nil => exact .cons e .nil
  | cons e' _ ih => exact .cons e' ih
theorem Dcs.unsnoc {σ : Store} {ds a} {cs : List Ct} {c : Ct} (h : Dcs σ (ds ++ [a]) (cs ++ [c])) : Dcs σ ds cs ∧ σ a = some (.dict c) := by
  induction ds generalizing cs with
  | nil =>
    cases cs with
    | nil => cases h with | cons e _ => exact ⟨.nil, e⟩
    | cons x r => have := h.len; simp at this
  | cons b r ih =>
    cases cs with
    | nil => have := h.len; simp at this
    | cons x q => cases h with | cons e h' => obtain ⟨h1, h2⟩ := ih h'; exact ⟨.cons e h1, h2⟩
theorem Dcs.get {σ : Store} {ds cs} (h : Dcs σ ds cs) {i : Nat} (hi : i < ds.length) : ∃ a c, ds[i]? = some a ∧ cs[i]? = some c ∧ σ a = some (.dict c) := by
  induction h generalizing i with
  | nil => simp at hi
  | @cons a c ds cs e _ ih =>
    cases i with
    | zero => exact ⟨a, c, rfl, rfl, e⟩
    | succ i => obtain ⟨a', c', h1, h2, h3⟩ := ih (i := i) (by simpa using hi); exact ⟨a', c', by simpa using h1, by simpa using h2, h3⟩
theorem Dcs.mem {σ : Store} {ds cs} (h : Dcs σ ds cs) {a : Addr} (ha : a ∈ ds) : ∃ c, σ a = some (.dict c) := by
  induction h with
  | nil => contradiction
  | cons e _ ih => (rcases List.mem_cons.mp ha with rfl | ha; (exact ⟨_, e⟩); exact ih ha)
structure Lw (σ : Store) (sc : Addr) (ds : List Addr) (cs : List Ct) (nt n0 n1 : Addr) (ad cd : Ct) : Prop where
  osc : σ sc = some (.list (ds.map .obj))
  dcs : Dcs σ ds cs
  ont : σ nt = some (.list [.obj n0, .obj n1])
  on0 : σ n0 = some (.dict ad)
  on1 : σ n1 = some (.dict cd)
  ne : n0 ≠ n1
  d0 : n0 ∉ ds
  d1 : n1 ∉ ds
  st : sc ≠ nt
section
variable {scr : Addr} {cells : List PV} {σ : Store} {sc nt n0 n1 : Addr} {ds : List Addr} {cs : List Ct} {ad cd : Ct} {Q : QV} {X : XV'} {d : Nat}
theorem Lw.sn (L : Lw σ sc ds cs nt n0 n1 ad cd) : sc ≠ n0 ∧ sc ≠ n1 ∧ nt ≠ n0 ∧ nt ≠ n1 := by
  refine ⟨fun z => ?_, fun z => ?_, fun z => ?_, fun z => ?_⟩
  · have := L.osc; rw [z, L.on0] at this; cases this
  · have := L.osc; rw [z, L.on1] at this; cases this
  · have := L.ont; rw [z, L.on0] at this; cases this
  · have := L.ont; rw [z, L.on1] at this; cases this
theorem Lw.scd (L : Lw σ sc ds cs nt n0 n1 ad cd) : sc ∉ ds ∧ nt ∉ ds := by
  refine ⟨fun z => ?_, fun z => ?_⟩
  · obtain ⟨c, e⟩ := L.dcs.mem z; rw [L.osc] at e; cases e
  · obtain ⟨c, e⟩ := L.dcs.mem z; rw [L.ont] at e; cases e
theorem Lw.keep (L : Lw σ sc ds cs nt n0 n1 ad cd) {σ' : Store} (S : Same [] σ σ') : Lw σ' sc ds cs nt n0 n1 ad cd :=
  ⟨S.at L.osc (by simp), L.dcs.same S (by simp), S.at L.ont (by simp), S.at L.on0 (by simp), S.at L.on1 (by simp), L.ne, L.d0, L.d1, L.st⟩
theorem Lw.ask (L : Lw σ sc ds cs nt n0 n1 ad cd) {ad' : Ct} : Lw (σ.upd n0 (.dict ad')) sc ds cs nt n0 n1 ad' cd := by
  obtain ⟨h1, h2, h3, h4⟩ := L.sn
  have S : Same [n0] σ (σ.upd n0 (.dict ad')) := Same.upd (by exact .head _)
  exact ⟨S.at L.osc (by simpa using h1), L.dcs.same S (by simpa using fun a ha (z : a = n0) => L.d0 (z ▸ ha)), S.at L.ont (by simpa using h3), Zb, S.at L.on1 (by simpa using L.ne.symm), L.ne, L.d0, L.d1, L.st⟩
theorem Lw.call (L : Lw σ sc ds cs nt n0 n1 ad cd) {cd' : Ct} : Lw (σ.upd n1 (.dict cd')) sc ds cs nt n0 n1 ad cd' := by
  obtain ⟨h1, h2, h3, h4⟩ := L.sn
  have S : Same [n1] σ (σ.upd n1 (.dict cd')) := Same.upd (by exact .head _)
  exact ⟨S.at L.osc (by simpa using h2), L.dcs.same S (by simpa using fun a ha (z : a = n1) => L.d1 (z ▸ ha)), S.at L.ont (by simpa using h4), S.at L.on0 (by simpa using L.ne), Zb, L.ne, L.d0, L.d1, L.st⟩
theorem Zhj {G : Pg} {σ : Store} {a : Addr} {ds : List Addr} {i : Nat} {b : Addr} (h : σ a = some (.list (ds.map .obj))) (hi : ds[i]? = some b) (hl : ds.length ≤ 1000) : Item G σ (.obj a) (.int i) (.obj b) := by
  have hlt : i < ds.length := (List.getElem?_eq_some_iff.mp hi).1
  refine .list h ?_
  unfold Zbm
  rw [List.length_map, Zkq (by lia) (by lia) hl, Option.bind_some, Int.toNat_natCast, List.getElem?_map, hi]
  rfl
noncomputable def Zvd (L : Option PV) (Q : QS) (lo : Loc) (σ : Store) (n0 : Addr) (ad : Ct) (t : Nat) (z : Bool) : Prop := match L with
  | none => Q .next lo σ
  | some v => Q (.ret (.tup [v, .none])) lo (if z then σ.upd n0 (.dict (Ze t (.bool true) ad)) else σ)
theorem Ztv {lo : Loc} {nd : PV} {t n : Nat} {Q : QS} {X : XS} (L : Lw σ sc ds cs nt n0 n1 ad cd) (hl : ds.length ≤ 1000) (had : ad.length ≤ 1000) (hn : ∀ σ, Item (GP scr cells) σ nd (.int 2) (.tag t)) (hlt : n < ds.length) (h92 : lo.get 92 = some nd) (h93 : lo.get 93 = some (.obj sc)) (h94 : lo.get 94 = some (.obj nt)) (h66 : lo.get 66 = some (.int n))
    (h : Zvd ((cs[n]?).bind fun c => Loc.get c t) Q lo σ n0 ad t (n == 0)) :
    Wp scr cells true d b572_1 lo σ Q X := by
  obtain ⟨a, c, e1, e2, e3⟩ := L.dcs.get hlt
  rw [e2, Option.bind_some] at h
  have it : ∀ σ, σ sc = some (.list (ds.map .obj)) → Item (GP scr cells) σ (.obj sc) (.int n) (.obj a) := fun σ hs => Zhj hs e1 hl
  show Wp scr cells true d (_ :: _) _ _ _ _
  cases hv : Loc.get c t with
  | none =>
    rw [hv] at h
    exact Zr (.cmp (.sub (by walk_at "e") .int (hn σ)) (.sub (by walk_at "e") (by walk_at "e") (it σ L.osc)) (.in_ (.dict e3))) (by rw [hv]; rfl) (Zf (Zak h))
  | some v =>
    rw [hv] at h
    refine Zn (.cmp (.sub (by walk_at "e") .int (hn σ)) (.sub (by walk_at "e") (by walk_at "e") (it σ L.osc)) (.in_ (.dict e3))) (by rw [hv]; rfl) ?_
    have fin : ∀ σ' a', Item (GP scr cells) σ' (.obj sc) (.int n) (.obj a') → σ' a' = some (.dict c) → Q (.ret (.tup [v, .none])) lo σ' → Wp scr cells true d (Zfq b572_1 0 |>.drop 1) lo σ' (Zaa (Wp scr cells true d []) Q X) X := fun σ' a' hi hc hq => by
      show Wp scr cells true d (_ :: _) _ _ _ _
      exact Zg (.tup (.cons (.sub (.sub (by walk_at "e") (by walk_at "e") hi) (.sub (by walk_at "e") .int (hn σ')) (.dict hc hv)) (by walk_at "es")) (Nat.le_of_ble_eq_true rfl)) hq
    cases hz : (n == 0) with
    | false =>
      rw [hz] at h
      exact Zr (by walk_at "e") ((Zbk n).trans hz) (Zf (fin σ a (it σ L.osc) e3 h))
    | true =>
      rw [hz] at h
      have e4 : (σ.upd n0 (.dict (Ze t (.bool true) ad))) a = some (.dict c) := by
        rw [Zad fun z => L.d0 (by rw [← z]; exact List.mem_of_getElem? e1)]; exact e3
      exact Zn (by walk_at "e") ((Zbk n).trans hz) (Zcu (by walk_at "e") (.sub (by walk_at "e") .int (.list L.ont rfl)) (.sub (by walk_at "e") .int (hn σ)) L.on0 had (Zf (fin _ a (it _ (L.ask (ad' := Ze t (.bool true) ad)).osc) e4 h)))
noncomputable def Zvj (r : Option (PV × Bool)) (Q : QS) (lo : Loc) (σ : Store) (n0 : Addr) (ad : Ct) (t : Nat) : Prop := match r with
  | none => Q .next lo σ
  | some (v, b) => Q (.ret (.tup [v, .none])) lo (if b then σ.upd n0 (.dict (Ze t (.bool true) ad)) else σ)
theorem Zxi {t n : Nat} {Q Q' : QS} {lo : Loc} {σ : Store} (h : Zvj (lk cs t (n + 1)) Q lo σ n0 ad t) (hq : ∀ v σ', Q (.ret v) lo σ' → Q' (.ret v) lo σ') (k : (cs[n]?).bind (fun c => Loc.get c t) = none → Q' .next lo σ) : Zvd ((cs[n]?).bind fun c => Loc.get c t) Q' lo σ n0 ad t (n == 0) := by
  unfold lk at h
  cases hv : ((cs[n]?).bind fun c => Loc.get c t) with
  | none => exact k hv
  | some v => rw [hv] at h; exact hq _ _ h
theorem Zkx {nd : PV} {t : Nat} {g : Pos} {Q : QS} {X : XS} (L : Lw σ sc ds cs nt n0 n1 ad cd) (hl : ds.length ≤ 1000) (had : ad.length ≤ 1000) (hn : ∀ σ, Item (GP scr cells) σ nd (.int 2) (.tag t)) : ∀ n, n ≤ ds.length → ∀ lo : Loc, lo.get 92 = some nd → lo.get 93 = some (.obj sc) → lo.get 94 = some (.obj nt) →
    (∀ lo', (∀ u, u ≠ 66 → lo'.get u = lo.get u) → Zvj (lk cs t n) Q lo' σ n0 ad t) →
    Zax (.one 66 g) (Wp scr cells true d b572_1) (downN n) lo σ Q X
  | 0, _, lo, _, _, _, h => h lo fun _ _ => rfl
  | n + 1, hn', lo, h92, h93, h94, h => by
    have up : ∀ u, u ≠ 66 → Loc.get ((66, .int n) :: lo) u = lo.get u := fun u hu => if_neg (Ne.symm hu)
    have g92 := Zm (u := 66) (x := .int n) rfl h92
    have g93 := Zm (u := 66) (x := .int n) rfl h93
    have g94 := Zm (u := 66) (x := .int n) rfl h94
    refine Zbe rfl (Ztv L hl had hn (n := n) (by lia) g92 g93 g94 rfl (Zxi (h _ up) (fun _ _ q => q) fun e => ?_))
    refine Zkx L hl had hn n (by lia) _ g92 g93 g94 fun lo' hlo' => ?_
    have h := h lo' fun u hu => by rw [hlo' u hu, up u hu]
    unfold lk at h
    rw [e] at h
    exact h
end
noncomputable def LawK (sc : Addr) (ds : List Addr) (cs : List Ct) (nt n0 n1 : Addr) (ad cd : Ct) (Q : QV) (σ : Store) (r : R2) : Prop := ∀ σ', Lw σ' sc ds cs nt n0 n1 (putN r.2.1 ad) (putN r.2.2 cd) → Same [n0, n1] σ σ' → Q (resPV r.1) σ'
theorem LawK.of {sc : Addr} {ds : List Addr} {cs : List Ct} {nt n0 n1 : Addr} {ad cd : Ct} {Q : QV} {σ : Store} {r r' : R2} (h : LawK sc ds cs nt n0 n1 ad cd Q σ r) (e : r = r') : LawK sc ds cs nt n0 n1 ad cd Q σ r' := e ▸ h
noncomputable def Zcl (scr : Addr) (cells : List PV) (nv : PV) (res : En → R2) (need cost : Nat) : Prop := ∀ D (e : En) (σ : Store) (sc : Addr) (ds : List Addr) (cs : List Ct) (nt n0 n1 : Addr) (ad cd : Ct) (Q : QV) (X : XV'), need ≤ D → Lw σ sc ds cs nt n0 n1 ad cd → EnOk e cs → ds.length + cost ≤ 1000 → ad.length + cost ≤ 1000 → cd.length + cost ≤ 1000 →
  LawK sc ds cs nt n0 n1 ad cd Q σ (res e) → Cal scr cells true D 572 [nv, .obj sc, .obj nt] σ Q X
section
variable {scr : Addr} {cells : List PV} {σ : Store} {sc nt n0 n1 : Addr} {ds : List Addr} {cs : List Ct} {ad cd : Ct} {Q : QV} {X : XV'} {d : Nat}
theorem Zlb {e : En} {sp : Int} {t : Nat} (h : e t = none) : kNm e sp t = (.error sp, []) := by unfold kNm; rw [h]
theorem Zla {e : En} {sp : Int} {t : Nat} {k : Kd} {b : Bool} (h : e t = some (k, b)) : kNm e sp t = (.ok k, if b then [t] else []) := by unfold kNm; rw [h]
theorem Znu {sp : Int} {t : Nat} : Zcl scr cells (.tup [.tag 5, .int sp, .tag t]) (fun e => ((kNm e sp t).1, (kNm e sp t).2, [])) 0 1 := by
  intro D e σ sc ds cs nt n0 n1 ad cd Q X hD L EO hl had hcd h
  refine Zd rfl rfl ?_
  have ll := L.osc
  have hr : Zcv ((((ds.map PV.obj).length : Nat) : Int) - 1) (-1) (-1) = some (downN ds.length) := by rw [List.length_map]; exact Zif (by lia)
  have l1 : (ds.map PV.obj).length ≤ 1000 := by rw [List.length_map]; lia
  walk_at "s"
  walk_at "s"
  walk_at "s"
  walk_at "s"
  refine Zml rfl (by walk_at "es") hr (by rw [down_len]; lia) (Zkx (t := t) L (by lia) (by lia) (fun σ => .tup rfl) ds.length (Nat.le_refl _) _ rfl rfl rfl fun lo' hlo' => ?_)
  have hk := EO.2 t
  rw [← L.dcs.len] at hk
  rw [hk]
  have h67 : lo'.get 67 = some (.int sp) := by rw [hlo' 67 (by decide)]; rfl
  cases he : e t with
  | none =>
    have h := h.of (r' := (.error sp, [], [])) (by dsimp only; rw [Zlb he])
    show Wp scr cells true D (_ :: _) lo' σ _ _
    exact Zg (by walk_at "e") (h σ L .refl)
  | some x =>
    obtain ⟨k, b⟩ := x
    have h := h.of (r' := (.ok k, if b then [t] else [], [])) (by dsimp only; rw [Zla he])
    cases b with
    | false => exact h σ L .refl
    | true => exact h _ L.ask (Same.upd (.head _))
theorem Zhv (l : Lf) : Zcl scr cells l.pv (fun e => ((kLf e l).1, (kLf e l).2, [])) 0 1 := by
  cases l with
  | nm sp t => exact Znu
  | tr sp =>
    intro D e σ sc ds cs nt n0 n1 ad cd Q X hD L EO hl had hcd h
    refine Zd rfl rfl ?_
    walk_at "s"
    walk_at "s"
    exact Zg (by walk_at "e") (h σ L .refl)
  | nu sp i =>
    intro D e σ sc ds cs nt n0 n1 ad cd Q X hD L EO hl had hcd h
    refine Zd rfl rfl ?_
    walk_at "s"
    walk_at "s"
    exact Zg (by walk_at "e") (h σ L .refl)
theorem Zacu (s : Sr) : Zcl scr cells s.pv (fun e => ((kSr e s).1, (kSr e s).2, [])) 2 2 := by
  cases s with
  | nm sp t => exact fun D e σ sc ds cs nt n0 n1 ad cd Q X hD L EO hl had hcd h => Znu D e σ sc ds cs nt n0 n1 ad cd Q X (Nat.zero_le _) L EO (by lia) (by lia) (by lia) h
  | rg sp sp1 l =>
    intro D e σ sc ds cs nt n0 n1 ad cd Q X hD L EO hl had hcd h
    obtain ⟨d, rfl⟩ : ∃ d, D = d + 2 := ⟨D - 2, by lia⟩
    refine Zd rfl rfl ?_
    iterate 9 walk_at "s"
    refine Zbp (fun _ => rfl) <| Zc (by walk_at "es") rfl <| Zhv (.nu sp1 1) _ e σ sc ds cs nt n0 n1 ad cd _ _ (by lia) L EO (by lia) (by lia) (by lia) fun σ₁ L₁ S₁ => Zba rfl ?_
    refine Zbd <| Zbo <| Zcx (by walk_at "e") rfl <| Zcx (by walk_at "e") rfl <| Zcp <| Zeo <| Zc (by walk_at "es") rfl <| Zee (k := kKNOWN) (b := .i) (n := 0) <| Zgg <| Zdb <| Zf ?_
    walk_at "s"
    walk_at "s"
    refine Zbp (fun _ => rfl) <| Zc (by walk_at "es") rfl <| Zhv l _ e σ₁ sc ds cs nt n0 n1 ad cd _ _ (by lia) L₁ EO (by lia) (by lia) (by lia) fun σ₂ L₂ S₂ => ?_
    have S := S₁.trans S₂
    rcases hp : kLf e l with ⟨r, as⟩
    have h := h.of (r' := ((kSr e (.rg sp sp1 l)).1, (kSr e (.rg sp sp1 l)).2, [])) rfl
    simp only [hp] at L₂ ⊢
    cases r with
    | error i =>
      have h := h.of (r' := (.error i, as, [])) (by simp only [kSr, hp])
      refine Zba rfl ?_
      walk_at "s"
      exact Zg (by walk_at "e") (h σ₂ L₂ S)
    | ok k =>
      have h := h.of (r' := (if Zl k .i false 0 then .ok kSET else .error sp, as, [])) (by simp only [kSr, hp])
      refine Zba rfl ?_
      walk_at "s"
      walk_at "s"
      refine Zn (by walk_at "e") rfl <| Zt <| Zki <| Zc (by walk_at "es") rfl <| Zee (k := k) (b := .i) (n := 0) ?_
      cases hm : Zl k .i false 0 with
      | true =>
        rw [hm] at h
        exact Zke (Zan (by walk_at "e") (h σ₂ L₂ S))
      | false =>
        rw [hm] at h
        exact Zkf (Zan (by walk_at "e") (h σ₂ L₂ S))
end
theorem Zfw {e : En} {sp : Int} {t : Nat} : (kNm e sp t).2.length ≤ 1 := by
  unfold kNm
  split
  · simp
  · split <;> simp
theorem Zdy {e : En} {l : Lf} : (kLf e l).2.length ≤ 1 := by
  cases l
  · exact Zfw
  · simp [kLf]
  · simp [kLf]
theorem Zpe {e : En} {s : Sr} : (kSr e s).2.length ≤ 1 := by
  cases s with
  | nm sp t => exact Zfw
  | rg sp sp1 l =>
    have := @Zdy e l
    rcases hp : kLf e l with ⟨r, as⟩
    rw [hp] at this
    simp only [kSr, hp]
    cases r <;> exact this
theorem Zoy {e : En} {w : Option Lf} : (kWh e w).2.length ≤ 1 := by
  cases w with
  | none => simp [kWh]
  | some l =>
    have := @Zdy e l
    rcases hp : kLf e l with ⟨r, as⟩
    rw [hp] at this
    simp only [kWh, hp]
    cases r <;> exact this
theorem Zec {sp : Int} : ∀ {rows : List (List Nat × Sr)} {e : En}, (Zac sp e rows).2.length ≤ rows.length
  | [], e => by simp [Zac]
  | (ns, s) :: r, e => by
    have h1 := @Zpe e s
    rcases hp : kSr e s with ⟨x, as⟩
    rw [hp] at h1
    simp only [Zac, hp]
    cases x with
    | error i => simp only [List.length_cons]; exact Nat.le_trans h1 (by lia)
    | ok k =>
      simp only
      split
      · simp only [List.length_cons]; exact Nat.le_trans h1 (by lia)
      · split
        · simp only [List.length_cons]; exact Nat.le_trans h1 (by lia)
        · have h2 := @Zec sp r (e.bind ns (Zal k))
          rcases hq : Zac sp (e.bind ns (Zal k)) r with ⟨y, as2⟩
          rw [hq] at h2
          simp only [List.length_append, List.length_cons] at h1 h2 ⊢
          lia
theorem Zyd {c : Bool} {sp : Int} {w : Nat} {k : Kd} : (Zaw c sp w k).2.length ≤ 1 := by
  have h1 : (if w == 21 then [21] else []).length ≤ 1 := by split <;> simp
  unfold Zaw
  split
  · simp
  · split
    · simp
    · split
      · simp
      · exact h1
theorem Zkv {c : Bool} {e : En} {sp : Int} {w : Nat} {rows : List (List Nat × Sr)} {wh : Option Lf} {bd : En → R2} {n : Nat} (h : ∀ e, (bd e).2.1.length ≤ n ∧ (bd e).2.2.length ≤ n) (hr : rows.length ≤ 2) : (Zas c e sp w rows wh bd).2.1.length ≤ n + 3 ∧ (Zas c e sp w rows wh bd).2.2.length ≤ n + 1 := by
  unfold Zas
  split
  · simp
  · have h1 := @Zec sp rows e
    rcases hp : Zac sp e rows with ⟨x, as⟩
    rw [hp] at h1
    cases x with
    | error i => simp only [List.length_nil] at h1 ⊢; lia
    | ok e' =>
      simp only
      have h2 := @Zoy e' wh
      rcases hq : kWh e' wh with ⟨y, as2⟩
      rw [hq] at h2
      cases y with
      | error i => simp only [List.length_append, List.length_nil] at h1 h2 ⊢; lia
      | ok u =>
        simp only
        have h3 := h e'
        rcases hb : bd e' with ⟨z, as3, cl⟩
        rw [hb] at h3
        cases z with
        | error i => simp only [List.length_append] at h1 h2 h3 ⊢; lia
        | ok k =>
          have h4 := @Zyd c sp w k
          simp only [List.length_append] at h1 h2 h3 h4 ⊢; lia
theorem kd_len : ∀ {nd : Nd}, NdOk nd → ∀ e, (kd nd e).2.1.length ≤ nd.sz ∧ (kd nd e).2.2.length ≤ nd.sz
  | .lf l, _, e => ⟨Zdy, Nat.zero_le _⟩
  | .bin sp s a b, ok, e => by
    have h1 := kd_len (nd := a) ok e
    have h2 := @Zdy e b
    rcases hp : kd a e with ⟨x, as, cl⟩
    rw [hp] at h1
    simp only [kd, hp, Nd.sz]
    cases x with
    | error i => simp only at h1 ⊢; lia
    | ok k =>
      rcases hq : kLf e b with ⟨y, as2⟩
      rw [hq] at h2
      simp only [hq]
      cases y <;> simp only [List.length_append] at h1 h2 ⊢ <;> lia
  | .idx sp t i, ok, e => by
    have h1 := kd_len (nd := i) ok e
    have h2 := @Zfw e (sp + 1) t
    rcases hp : kNm e (sp + 1) t with ⟨x, as⟩
    rw [hp] at h2
    simp only [kd, hp, Nd.sz]
    cases x with
    | error j => simp only [List.length_nil] at h2 ⊢; lia
    | ok k =>
      simp only
      split
      · simp only [List.length_nil] at h2 ⊢; lia
      · rcases hq : kd i e with ⟨y, as2, cl⟩
        rw [hq] at h1
        cases y <;> simp only [List.length_append] at h1 h2 ⊢ <;> lia
  | .gen sp w rows wh body, ok, e => by
    have h := Zkv (c := false) (e := e) (sp := sp) (w := w) (wh := wh) (n := body.sz) (fun e => kd_len (nd := body) ok.2 e) ok.1.2.2
    simp only [kd, Nd.sz]
    lia
theorem Zfh {G : Pg} {σ : Store} {l : Lf} : Item G σ l.pv (.int 1) (.int l.sp) := by cases l <;> exact .tup rfl
theorem Zsw {G : Pg} {σ : Store} {s : Sr} : Item G σ s.pv (.int 1) (.int s.sp) := by cases s <;> exact .tup rfl
theorem Ztq {G : Pg} {σ : Store} {nd : Nd} : Item G σ nd.pv (.int 1) (.int nd.sp) := by
  cases nd with
  | lf l => exact Zfh
  | _ => exact .tup rfl
local macro_rules | `(tactic| walk_at "i") => `(tactic| first | exact Ztq | exact Zfh | exact Zsw)
section
variable {scr : Addr} {cells : List PV} {σ : Store} {sc nt n0 n1 : Addr} {ds : List Addr} {cs : List Ct} {ad cd : Ct} {Q : QV} {X : XV'} {d : Nat}
theorem Zeu (a : Nat) : eqP (.int a) (.int 1) = (a == 1) := Zch a 1
theorem LawK.app {as bs xs ys : List Nat} {r : Except Int Kd} {σ₁ : Store} (h : LawK sc ds cs nt n0 n1 ad cd Q σ (r, as ++ bs, xs ++ ys)) (S : Same [n0, n1] σ σ₁) : LawK sc ds cs nt n0 n1 (putN as ad) (putN xs cd) Q σ₁ (r, bs, ys) := fun σ' L' S' => h σ' (by show Lw _ _ _ _ _ _ _ (putN (as ++ bs) ad) (putN (xs ++ ys) cd); rw [Zs, Zs]; exact L') (S.trans S')
theorem Zabe {sp : Int} {t : Nat} {i : Nd} {need : Nat} (ok : NdOk i) (hi : Zcl scr cells i.pv (kd i) need i.sz) : Zcl scr cells (Nd.idx sp t i).pv (kd (.idx sp t i)) (need + 2) (i.sz + 2) := by
  intro D e σ sc ds cs nt n0 n1 ad cd Q X hD L EO hl had hcd h
  obtain ⟨d, rfl⟩ : ∃ d, D = d + 2 := ⟨D - 2, by lia⟩
  refine Zd rfl rfl ?_
  iterate 5 walk_at "s"
  refine Zn (by walk_at "e") rfl <| Zt <| Zc (by walk_at "es") rfl <| Zd rfl rfl ?_
  refine Zbp (fun _ => rfl) <| Zc (by walk_at "es") rfl <| Znu _ e σ sc ds cs nt n0 n1 ad cd _ _ (Nat.zero_le _) L EO (by lia) (by lia) (by lia) fun σ₁ L₁ S₁ => ?_
  have hn := @Zfw e (sp + 1) t
  rcases hp : kNm e (sp + 1) t with ⟨x, as⟩
  rw [hp] at hn
  simp only [hp] at L₁ ⊢
  cases x with
  | error j =>
    have h := h.of (r' := (.error j, as, [])) (by simp only [kd, hp])
    refine Zba rfl <| Zn (.or2 (by walk_at "e") (b2 := true) fun z => by contradiction) rfl ?_
    exact Zg (by walk_at "e") (h σ₁ L₁ S₁)
  | ok k =>
    refine Zba rfl ?_
    cases hk : (k.n == 1) with
    | false =>
      have h := h.of (r' := (.error sp, as, [])) (by simp only [kd, hp, bne, hk]; rfl)
      refine Zn (.or2 (by walk_at "e") fun _ => by walk_at "e") (by rw [Zeu, hk]; rfl) ?_
      exact Zg (by walk_at "e") (h σ₁ L₁ S₁)
    | true =>
      refine Zr (.or2 (by walk_at "e") fun _ => by walk_at "e") (by rw [Zeu, hk]; rfl) <| Zf ?_
      have h0 : kd (.idx sp t i) e = (match kd i e with
        | (.error j, as2, cl) => (.error j, as ++ as2, cl)
        | (.ok ki, as2, cl) => (if Zl ki .i true 0 then .ok ⟨k.b, k.v || ki.v, 0⟩ else .error i.sp, as ++ as2, cl)) := by simp only [kd, hp, bne, hk]; rfl
      have pl := @putN_len as ad
      simp only at hn
      refine Zbp (fun _ => rfl) <| Zc (by walk_at "es") rfl <| hi _ e σ₁ sc ds cs nt n0 n1 _ _ _ _ (by lia) L₁ EO (by lia) (by lia) (by show cd.length + _ ≤ _; lia) fun σ₂ L₂ S₂ => ?_
      have S := S₁.trans S₂
      rcases hq : kd i e with ⟨y, as2, cl⟩
      rw [hq] at h0
      simp only [hq] at L₂ ⊢
      cases y with
      | error j =>
        have h := (h.of h0).app (as := as) (xs := []) S₁
        refine Zba rfl <| Zbd <| Zbo <| Zjw (by walk_at "e") rfl <| Zel ?_
        exact Zg (by walk_at "e") (h σ₂ L₂ S₂)
      | ok ki =>
        have h := (h.of h0).app (as := as) (xs := []) S₁
        refine Zba rfl <| Zbd <| Zbo <| Zjx (by walk_at "e") rfl <| Zcp <| Zeo <| Zc (by walk_at "es") rfl <| Zee (k := ki) (b := .i) (n := 0) <| Zgg ?_
        cases hm : Zl ki .i true 0 with
        | false =>
          rw [hm] at h
          refine Zel ?_
          exact Zg (by walk_at "e") (h σ₂ L₂ S₂)
        | true =>
          rw [hm] at h
          refine Zdb <| Zf ?_
          exact Zg (.tup (.cons (.tup (.cons (by walk_at "e") (.cons (.or2 (by walk_at "e") fun _ => by walk_at "e") (by walk_at "es"))) (by walk_at "l")) (by walk_at "es")) (by walk_at "l")) (h σ₂ L₂ S₂)
theorem Zabf {sp : Int} {sg : Sg} {a : Nd} {b : Lf} {need : Nat} (ok : NdOk a) (ha : Zcl scr cells a.pv (kd a) need a.sz) : Zcl scr cells (Nd.bin sp sg a b).pv (kd (.bin sp sg a b)) (need + 2) (a.sz + 2) := by
  intro D e σ sc ds cs nt n0 n1 ad cd Q X hD L EO hl had hcd h
  obtain ⟨d, rfl⟩ : ∃ d, D = d + 2 := ⟨D - 2, by lia⟩
  refine Zd rfl rfl ?_
  iterate 9 walk_at "s"
  refine Zbp (fun _ => rfl) <| Zc (by walk_at "es") rfl <| ha _ e σ sc ds cs nt n0 n1 ad cd _ _ (by lia) L EO (by lia) (by lia) (by lia) fun σ₁ L₁ S₁ => ?_
  have hn := kd_len ok e
  have h0 : kd (.bin sp sg a b) e = (match kd a e with
    | (.error i, as, cl) => (.error i, as, cl)
    | (.ok ka, as, cl) => match kLf e b with
      | (.error i, as2) => (.error i, as ++ as2, cl)
      | (.ok kb, as2) => (Zco sp (joinP sg ka kb), as ++ as2, cl)) := by simp only [kd] <;> rfl
  rcases hp : kd a e with ⟨x, as, cl⟩
  rw [hp] at hn h0
  simp only [hp] at L₁ ⊢
  cases x with
  | error j =>
    have h := h.of h0
    refine Zba rfl <| Zr (.and2 (by walk_at "e") (b2 := true) fun z => by contradiction) rfl <| Zf ?_
    walk_at "s"
    exact Zg (by walk_at "e") (h σ₁ L₁ S₁)
  | ok k =>
    refine Zba rfl <| Zbd <| Zbo <| Zcx (by walk_at "e") rfl <| Zga (by walk_at "e") rfl <| Zdb <| Zf ?_
    walk_at "s"
    walk_at "s"
    have pl := @putN_len as ad
    have pl2 := @putN_len cl cd
    simp only at hn
    refine Zbp (fun _ => rfl) <| Zc (by walk_at "es") rfl <| Zhv b _ e σ₁ sc ds cs nt n0 n1 _ _ _ _ (by lia) L₁ EO (by lia) (by lia) (by lia) fun σ₂ L₂ S₂ => ?_
    rcases hq : kLf e b with ⟨y, as2⟩
    rw [hq] at h0
    simp only [hq] at L₂ ⊢
    cases y with
    | error j =>
      have h := (h.of (h0.trans (show _ = (.error j, as ++ as2, cl ++ []) by rw [List.append_nil]))).app S₁
      refine Zba rfl ?_
      walk_at "s"
      exact Zg (by walk_at "e") (h σ₂ L₂ S₂)
    | ok kb =>
      have h := (h.of (h0.trans (show _ = (Zco sp (joinP sg k kb), as ++ as2, cl ++ []) by rw [List.append_nil]))).app S₁
      refine Zba rfl ?_
      iterate 4 walk_at "s"
      exact Zt <| Zc (by walk_at "es") rfl <| Zrb fun σ₃ S₃ => h σ₃ (L₂.keep S₃) (S₂.trans (S₃.mono (by simp)))
theorem Zda {G : Pg} {σ : Store} {l a : Addr} {ds : List Addr} (h : σ l = some (.list ((ds ++ [a]).map .obj))) (hl : ds.length ≤ 1000) : Item G σ (.obj l) (.int (-1)) (.obj a) := by
  refine .list h ?_
  unfold Zbm
  rw [List.length_map, List.length_append, List.length_singleton]
  have : Zdx (-1) (ds.length + 1) = some ds.length := by
    unfold Zdx
    rw [if_neg (by lia), if_pos (by lia)]
    congr 1; lia
  rw [this, Option.bind_some, List.getElem?_map, List.getElem?_append_right (Nat.le_refl _), Nat.sub_self]
  rfl
theorem Lw.store {a : Addr} {c : Ct} (L : Lw σ sc (ds ++ [a]) (cs ++ [c]) nt n0 n1 ad cd) (nd : a ∉ ds) {c' : Ct} : Lw (σ.upd a (.dict c')) sc (ds ++ [a]) (cs ++ [c']) nt n0 n1 ad cd := by
  obtain ⟨h1, h2⟩ := L.scd
  have S : Same [a] σ (σ.upd a (.dict c')) := Same.upd (by exact .head _)
  obtain ⟨D, e⟩ := L.dcs.unsnoc
  have k0 : n0 ≠ a := fun z => L.d0 (by rw [z]; simp)
  have k1 : n1 ≠ a := fun z => L.d1 (by rw [z]; simp)
  refine ⟨S.at L.osc ?_, (D.same S ?_).snoc Zb, S.at L.ont ?_, S.at L.on0 (by simpa using k0), S.at L.on1 (by simpa using k1), L.ne, L.d0, L.d1, L.st⟩
  · intro z; rw [List.mem_singleton.mp z] at h1; simp at h1
  · intro b hb z; rw [List.mem_singleton.mp z] at hb; exact nd hb
  · intro z; rw [List.mem_singleton.mp z] at h2; simp at h2
theorem Zabs {k : Kd} (h : (k.b == .s) = true) : Zal k = kKNOWN := by unfold Zal; rw [h]; rfl
theorem Zabt {k : Kd} (h : (k.b == .s) = false) : Zal k = ⟨k.b, k.v, 0⟩ := by unfold Zal; rw [h]; rfl
theorem Zom {lo : Loc} {a : Addr} {c : Ct} {k : Kd} {t : Nat} {Q : QS} {X : XS} (L : Lw σ sc (ds ++ [a]) (cs ++ [c]) nt n0 n1 ad cd) (hl : ds.length ≤ 1000) (hc : c.length ≤ 1000) (h93 : lo.get 93 = some (.obj sc)) (h89 : lo.get 89 = some k.pv) (h5 : lo.get 5 = some (.tag t))
    (h : Q .next lo (σ.upd a (.dict (Ze t (Zal k).pv c)))) : Wp scr cells true d b593_1 lo σ Q X := by
  obtain ⟨D, e⟩ := L.dcs.unsnoc
  show Wp scr cells true d (_ :: _) lo σ Q X
  have ek := Zcw k.b .s
  cases hk : (k.b == .s) with
  | true =>
    rw [Zabs hk] at h
    exact Zcu (.iteT (by walk_at "e") (ek.trans hk) (by walk_at "e")) (.sub (by walk_at "e") .minus (Zda L.osc hl)) (by walk_at "e") e hc (Zak h)
  | false =>
    rw [Zabt hk] at h
    exact Zcu (.iteF (by walk_at "e") (ek.trans hk) (by walk_at "e")) (.sub (by walk_at "e") .minus (Zda L.osc hl)) (by walk_at "e") e hc (Zak h)
theorem Zih {a : Addr} {k : Kd} {g : Pos} {X : XS} (hk0 : cs ≠ []) (nd : a ∉ ds) (hl : ds.length ≤ 1000) : ∀ (ns : List Nat) {lo : Loc} {c : Ct} {σ : Store} {e : En} {bs : List Nat} {Q : QS}, Lw σ sc (ds ++ [a]) (cs ++ [c]) nt n0 n1 ad cd → EnOk (e.bind bs (Zal k)) (cs ++ [c]) → c.length + ns.length ≤ 1000 → lo.get 93 = some (.obj sc) → lo.get 89 = some k.pv →
    (∀ lo' σ' c', (∀ u, u ≠ 5 → lo'.get u = lo.get u) → Lw σ' sc (ds ++ [a]) (cs ++ [c']) nt n0 n1 ad cd → EnOk (e.bind (bs ++ ns) (Zal k)) (cs ++ [c']) → c'.length ≤ c.length + ns.length → Same [a] σ σ' → Q .next lo' σ') →
    Zax (.one 5 g) (Wp scr cells true d b593_1) (ns.map .tag) lo σ Q X
  | [], lo, c, σ, e, bs, Q, L, EO, hc, h93, h89, h => Zgj (h lo σ c (fun _ _ => rfl) L (by rw [List.append_nil]; exact EO) (Nat.le_refl _) .refl)
  | t :: ns, lo, c, σ, e, bs, Q, L, EO, hc, h93, h89, h => by
    have up : ∀ u, u ≠ 5 → Loc.get ((5, .tag t) :: lo) u = lo.get u := fun u hu => if_neg (Ne.symm hu)
    have g93 := Zm (u := 5) (x := .tag t) rfl h93
    have g89 := Zm (u := 5) (x := .tag t) rfl h89
    simp only [List.length_cons] at hc h
    have sl := @Zcy t (Zal k).pv c
    refine Zbe rfl (Zom L hl (by lia) g93 g89 rfl ?_)
    refine Zih hk0 nd hl ns (bs := bs ++ [t]) (e := e) (L.store nd) ?_ (by lia) g93 g89 fun lo' σ' c' hlo' L' EO' hc' S' => ?_
    · rw [← Zjl]; exact EO.put hk0
    · exact h lo' σ' c' (fun u hu => by rw [hlo' u hu, up u hu]) L' (by rw [List.append_assoc] at EO'; exact EO') (by lia) ((Same.upd (.head _)).trans S')
end
noncomputable def Zdc (sp : Int) (e : En) (ns : List Nat) (s : Sr) : R1 En := match kSr e s with
  | (.error i, as) => (.error i, as)
  | (.ok k, as) => if k != kSET && k.n != 1 then (.error s.sp, as) else if !nodupN ns then (.error sp, as) else (.ok (e.bind ns (Zal k)), as)
theorem Zdn {sp : Int} {e : En} {ns : List Nat} {s : Sr} {r : List (List Nat × Sr)} : Zac sp e ((ns, s) :: r) = match Zdc sp e ns s with
    | (.error i, as) => (.error i, as)
    | (.ok e', as) => ((Zac sp e' r).1, as ++ (Zac sp e' r).2) := by
  rcases hp : kSr e s with ⟨x, as⟩
  simp only [Zac, Zdc, hp]
  cases x with
  | error i => rfl
  | ok k =>
    simp only
    split
    · rfl
    · split
      · rfl
      · rfl
theorem Zkz {sp : Int} {e : En} {ns : List Nat} {s : Sr} : (Zdc sp e ns s).2.length ≤ 1 := by
  have h1 := @Zpe e s
  rcases hp : kSr e s with ⟨x, as⟩
  rw [hp] at h1
  simp only [Zdc, hp]
  cases x with
  | error i => exact h1
  | ok k => simp only; split; (exact h1); split <;> exact h1
theorem eqP_set {k : Kd} : eqP k.pv (.tup [.tag 3, .bool false, .int 0]) = (k == kSET) := by
  obtain ⟨kb, kv, kn⟩ := k
  have e2 : ((⟨kb, kv, kn⟩ : Kd) == kSET) = (kb == .s && (kv == false && (kn == 0 && true))) := by
    rw [Bool.eq_iff_iff]; simp [kSET]
  rw [e2, ← Zcw, ← Zbk]
  rfl
theorem Zmk {ns : List Nat} : tagsOf (ns.map .tag) = some ns := by
  induction ns with
  | nil => rfl
  | cons t r ih => rw [List.map_cons, Zpc, ih]; rfl
theorem row_distinct : ∀ ns ∈ rowNames, decide (((distinctN [] ns : Nat) : Int) < ((ns.length : Nat) : Int)) = !nodupN ns := by decide
theorem row_short : ∀ ns ∈ rowNames, ns.length ≤ 2 := by decide
section
variable {scr : Addr} {cells : List PV} {σ : Store} {sc nt n0 n1 : Addr} {ds : List Addr} {cs : List Ct} {ad cd : Ct} {Q : QV} {X : XV'} {d : Nat}
noncomputable def Zsk (sc : Addr) (ds : List Addr) (cs : List Ct) (nt n0 n1 a : Addr) (ad cd : Ct) (Q : QS) (σ : Store) (P : Loc → Prop) (n : Nat) (r : R1 En) : Prop := match r.1 with
  | .error i => ∀ lo' σ' c', Lw σ' sc (ds ++ [a]) (cs ++ [c']) nt n0 n1 (putN r.2 ad) cd → Same [n0, n1, a] σ σ' → Q (.ret (.tup [.none, .int i])) lo' σ'
  | .ok e' => ∀ lo' σ' c', P lo' → Lw σ' sc (ds ++ [a]) (cs ++ [c']) nt n0 n1 (putN r.2 ad) cd → EnOk e' (cs ++ [c']) → c'.length ≤ n → Same [n0, n1, a] σ σ' → Q .next lo' σ'
noncomputable def upP (A : List Nat) (lo lo' : Loc) : Prop := ∀ u, u ∉ A → lo'.get u = lo.get u
theorem upP.get {A : List Nat} {lo lo' : Loc} (h : upP A lo lo') {t : Nat} {v : PV} (e : lo.get t = some v) (n : t ∉ A) : lo'.get t = some v := by rw [h t n]; exact e
theorem upP.cons {A : List Nat} {lo lo' : Loc} (h : upP A lo lo') {t : Nat} {v : PV} (n : t ∈ A) : upP A lo ((t, v) :: lo') := fun u hu => by
  show (if t = u then some v else lo'.get u) = _
  rw [if_neg (fun z : t = u => hu (z ▸ n))]; exact h u hu
theorem upP.refl {A : List Nat} {lo : Loc} : upP A lo lo := fun _ _ => rfl
theorem upP.trans {A : List Nat} {lo lo' lo2 : Loc} (h : upP A lo lo') (k : upP A lo' lo2) : upP A lo lo2 := fun u hu => (k u hu).trans (h u hu)
theorem upP.mono {A B : List Nat} {lo lo' : Loc} (h : upP A lo lo') (k : ∀ a ∈ A, a ∈ B) : upP B lo lo' := fun u hu => h u fun z => hu (k u z)
theorem Zqw {lo : Loc} {a : Addr} {c : Ct} {e : En} {sp : Int} {ns : List Nat} {k : Kd} {Q : QS} {X : XS} {as : List Nat} {σ₁ : Store} (hk0 : cs ≠ []) (nd : a ∉ ds) (hl : ds.length ≤ 990) (hns : ns ∈ rowNames) (L₁ : Lw σ₁ sc (ds ++ [a]) (cs ++ [c]) nt n0 n1 (putN as ad) cd) (EO : EnOk e (cs ++ [c])) (hc : c.length ≤ 990) (S₁ : Same [n0, n1, a] σ σ₁)
    (h93 : lo.get 93 = some (.obj sc)) (h83 : lo.get 83 = some (.tup (ns.map .tag))) (h67 : lo.get 67 = some (.int sp)) (h89 : lo.get 89 = some k.pv)
    (h : Zsk sc ds cs nt n0 n1 a ad cd Q σ (upP [5] lo) (c.length + 2) (if !nodupN ns then (.error sp, as) else (.ok (e.bind ns (Zal k)), as))) :
    Wp scr cells true d (b593_2.drop 2) lo σ₁ Q X := by
  have hd := row_distinct ns hns
  have hs := row_short ns hns
  have hm : (ns.map PV.tag).length ≤ 1000 := by rw [List.length_map]; lia
  rw [← List.length_map (f := PV.tag)] at hd
  have ev : Ev (GP scr cells) true σ₁ lo (.var 83 ⟨0, 0, 0, 0⟩) (.tup (ns.map .tag)) := .var h83
  show Wp scr cells true d (_ :: _) lo σ₁ Q X
  cases hnd : nodupN ns with
  | false =>
    rw [hnd] at h hd
    refine Zn (.cmp (.lenset (.var h83) Zmk rfl (by lia)) (.len (.var h83) rfl (.tup rfl) hm) .lt) hd ?_
    exact Zg (by walk_at "e") (h _ _ _ L₁ S₁)
  | true =>
    rw [hnd] at h hd
    refine Zr (.cmp (.lenset (.var h83) Zmk rfl (by lia)) (.len (.var h83) rfl (.tup rfl) hm) .lt) hd <| Zf ?_
    exact Zhy rfl (.var h83) hm <| Zih (bs := []) hk0 nd (by lia) ns L₁ (by rw [Zux]; exact EO) (by lia) h93 h89 fun lo' σ' c' hlo' L' EO' hc' S' =>
      h lo' σ' c' (fun u hu => hlo' u fun z => hu (z ▸ .head _)) L' EO' (by lia) (S₁.trans (S'.mono (by simp)))
theorem Zxl {lo : Loc} {a : Addr} {c : Ct} {e : En} {sp : Int} {ns : List Nat} {s : Sr} {Q : QS} {X : XS} (hk0 : cs ≠ []) (nd : a ∉ ds) (hl : ds.length ≤ 990) (hns : ns ∈ rowNames) (L : Lw σ sc (ds ++ [a]) (cs ++ [c]) nt n0 n1 ad cd) (EO : EnOk e (cs ++ [c])) (hc : c.length ≤ 990) (had : ad.length ≤ 990) (hcd : cd.length ≤ 990)
    (h93 : lo.get 93 = some (.obj sc)) (h94 : lo.get 94 = some (.obj nt)) (h83 : lo.get 83 = some (.tup (ns.map .tag))) (h84 : lo.get 84 = some s.pv) (h67 : lo.get 67 = some (.int sp))
    (h : Zsk sc ds cs nt n0 n1 a ad cd Q σ (upP [5, 89, 95] lo) (c.length + 2) (Zdc sp e ns s)) :
    Wp scr cells true (d + 3) b593_2 lo σ Q X := by
  show Wp scr cells true (d + 3) (_ :: _) lo σ Q X
  refine Zbp (fun _ => rfl) <| Zc (by walk_at "es") rfl <| Zacu s _ e σ sc _ _ nt n0 n1 ad cd _ _ (by lia) L EO (by rw [List.length_append, List.length_singleton]; lia) (by lia) (by lia) fun σ₁ L₁ S₁ => ?_
  have S₁ : Same [n0, n1, a] σ σ₁ := S₁.mono (by simp)
  have h0 : Zdc sp e ns s = (match kSr e s with
    | (.error i, as) => (.error i, as)
    | (.ok k, as) => if k != kSET && k.n != 1 then (.error s.sp, as) else if !nodupN ns then (.error sp, as) else (.ok (e.bind ns (Zal k)), as)) := rfl
  rcases hp : kSr e s with ⟨x, as⟩
  rw [hp] at h0
  simp only [hp] at L₁ ⊢
  rw [h0] at h
  clear h0
  cases x with
  | error i =>
    refine Zba rfl <| Zn (.or2 (by walk_at "e") (b2 := true) fun z => by contradiction) rfl ?_
    exact Zg (by walk_at "e") (h _ σ₁ c L₁ S₁)
  | ok k =>
    refine Zba rfl ?_
    have cond : (!isNoneP .none || (!eqP k.pv (.tup [.tag 3, .bool false, .int 0]) && !eqP (.int k.n) (.int 1))) = (k != kSET && k.n != 1) := by rw [eqP_set, Zeu]; rfl
    cases hz : (k != kSET && k.n != 1) with
    | true =>
      simp only [hz, if_true] at h
      refine Zn (.or2 (by walk_at "e") fun _ => .and1 (.and2 (by walk_at "e") fun _ => by walk_at "e")) (cond.trans hz) ?_
      exact Zg (by walk_at "e") (h _ σ₁ c L₁ S₁)
    | false =>
      simp only [hz, Bool.false_eq_true, if_false] at h
      refine Zr (.or2 (by walk_at "e") fun _ => .and1 (.and2 (by walk_at "e") fun _ => by walk_at "e")) (cond.trans hz) <| Zf ?_
      refine Zqw (k := k) hk0 nd hl hns L₁ EO hc S₁ (by walk_at "g") (by walk_at "g") (by walk_at "g") (by walk_at "g") ?_
      revert h
      cases nodupN ns with
      | false => exact id
      | true => exact fun h lo' σ' c' hu => h lo' σ' c' (((upP.refl.cons (by exact .tail _ (.head _))).cons (by decide)).trans (hu.mono (by decide)))
theorem Zkw {a : Addr} {sp : Int} {p1 p2 p3 : Pos} {kk : Nat} {X : XS} (hk0 : cs ≠ []) (nd : a ∉ ds) (hl : ds.length ≤ 990) (hcd : cd.length ≤ 990) : ∀ (rows : List (List Nat × Sr)) {lo : Loc} {c : Ct} {e : En} {σ : Store} {ad : Ct} {Q : QS}, (∀ r ∈ rows, Zcq r) → Lw σ sc (ds ++ [a]) (cs ++ [c]) nt n0 n1 ad cd → EnOk e (cs ++ [c]) → c.length + 2 * rows.length ≤ 990 → ad.length + rows.length ≤ 990 →
    lo.get 93 = some (.obj sc) → lo.get 94 = some (.obj nt) → lo.get 67 = some (.int sp) →
    Zsk sc ds cs nt n0 n1 a ad cd Q σ (upP [5, 89, 95, 83, 84] lo) 1000 (Zac sp e rows) →
    Zax (.many [(83, p1), (84, p2)] kk p3) (Wp scr cells true (d + 3) b593_2) (rows.map Zbh) lo σ Q X
  | [], lo, c, e, σ, ad, Q, ok, L, EO, hc, had, h93, h94, h67, h => Zgj (h lo σ c .refl L EO (by lia) .refl)
  | (ns, s) :: r, lo, c, e, σ, ad, Q, ok, L, EO, hc, had, h93, h94, h67, h => by
    simp only [List.length_cons] at hc had
    have up : upP [5, 89, 95, 83, 84] lo ((84, s.pv) :: (83, .tup (ns.map .tag)) :: lo) := (upP.refl.cons (by decide)).cons (by decide)
    refine Zbe (lo₁ := (84, s.pv) :: (83, .tup (ns.map .tag)) :: lo) rfl ?_
    have hlen := @Zkz sp e ns s
    rw [Zdn] at h
    refine Zxl (e := e) (sp := sp) (ns := ns) (s := s) hk0 nd hl (ok _ (.head _)) L EO (by lia) (by lia) hcd (by walk_at "g") (by walk_at "g") (by walk_at "g") (by walk_at "g") (by walk_at "g") ?_
    rcases hp : Zdc sp e ns s with ⟨x, as⟩
    rw [hp] at hlen
    simp only [hp] at h
    cases x with
    | error i => exact fun lo' σ' c' L' S' => h lo' σ' c' L' S'
    | ok e' =>
      intro lo1 σ1 c1 hlo1 L1 EO1 hc1 S1
      have hlo1 : upP _ lo lo1 := up.trans (hlo1.mono (by decide))
      have L1 : Lw σ1 sc (ds ++ [a]) (cs ++ [c1]) nt n0 n1 (putN as ad) cd := L1
      have pl := @putN_len as ad
      simp only at hlen
      refine Zkw hk0 nd hl hcd r (fun x hx => ok x (.tail _ hx)) L1 EO1 (by lia) (by lia) (hlo1.get h93 (by decide)) (hlo1.get h94 (by decide)) (hlo1.get h67 (by decide)) ?_
      rcases hq : Zac sp e' r with ⟨y, as2⟩
      simp only [hq] at h
      cases y with
      | error i => exact fun lo' σ' c' L' S' => h lo' σ' c' (by show Lw _ _ _ _ _ _ _ (putN (as ++ as2) ad) _; rw [Zs]; exact L') (S1.trans S')
      | ok e2 => exact fun lo' σ' c' hlo' L' EO' hc' S' => h lo' σ' c' (hlo1.trans hlo') (by show Lw _ _ _ _ _ _ _ (putN (as ++ as2) ad) _; rw [Zs]; exact L') EO' hc' (S1.trans S')
theorem takes_get : ∀ w ∈ genNames, Loc.get takesT w = (takes w).map fun x => .tup [.tag x.1.tag, .tag x.2.tag] := by
  intro w hw
  simp only [genNames, List.mem_cons, List.not_mem_nil, or_false] at hw
  rcases hw with rfl | rfl | rfl | rfl | rfl | rfl | rfl <;> rfl
theorem Zabo {l : Lf} : isNoneP l.pv = false := by cases l <;> rfl
end
noncomputable def kT4 (c : Bool) (sp : Int) (w : Nat) (r : R2) : R2 := match r with
  | (.error i, as, cl) => (.error i, as, cl)
  | (.ok k, as, cl) => ((Zaw c sp w k).1, as, cl ++ (Zaw c sp w k).2)
noncomputable def kT3 (c : Bool) (e : En) (sp : Int) (w : Nat) (wh : Option Lf) (bd : En → R2) : R2 := match kWh e wh with
  | (.error i, as) => (.error i, as, [])
  | (.ok _, as) => ((kT4 c sp w (bd e)).1, as ++ (kT4 c sp w (bd e)).2.1, (kT4 c sp w (bd e)).2.2)
theorem Zhi {c : Bool} {e : En} {sp : Int} {w : Nat} {rows : List (List Nat × Sr)} {wh : Option Lf} {bd : En → R2} : Zas c e sp w rows wh bd = if !c && (takes w).isNone then (.error sp, [], []) else
    match Zac sp e rows with
    | (.error i, as) => (.error i, as, [])
    | (.ok e', as) => ((kT3 c e' sp w wh bd).1, as ++ (kT3 c e' sp w wh bd).2.1, (kT3 c e' sp w wh bd).2.2) := by
  unfold Zas
  split
  · rfl
  · rcases hp : Zac sp e rows with ⟨x, as⟩
    cases x with
    | error i => rfl
    | ok e' =>
      simp only [kT3]
      rcases hq : kWh e' wh with ⟨y, as2⟩
      cases y with
      | error i => rfl
      | ok u =>
        simp only [kT4]
        rcases hb : bd e' with ⟨z, as3, cl⟩
        cases z with
        | error i => simp only [List.append_assoc]
        | ok k => simp only [List.append_assoc]
structure TL (lo : Loc) (c : Bool) (sp : Int) (w : Nat) (rows : List (List Nat × Sr)) (wh : Option Lf) (body : PV) (sc nt : Addr) : Prop where
  h85 : lo.get 85 = some (.tag (if c then 14 else 13))
  h67 : lo.get 67 = some (.int sp)
  h86 : lo.get 86 = some (.tag w)
  h87 : lo.get 87 = some (.tup (rows.map Zbh))
  h88 : lo.get 88 = some (whPV wh)
  h98 : lo.get 98 = some body
  h93 : lo.get 93 = some (.obj sc)
  h94 : lo.get 94 = some (.obj nt)
theorem TL.up {lo lo' : Loc} {c : Bool} {sp : Int} {w : Nat} {rows : List (List Nat × Sr)} {wh : Option Lf} {body : PV} {sc nt : Addr} (T : TL lo c sp w rows wh body sc nt) (h : upP [5, 89, 95, 83, 84] lo lo') : TL lo' c sp w rows wh body sc nt :=
  ⟨h.get T.h85 (by decide), h.get T.h67 (by decide), h.get T.h86 (by decide), h.get T.h87 (by decide), h.get T.h88 (by decide), h.get T.h98 (by decide), h.get T.h93 (by decide), h.get T.h94 (by decide)⟩
theorem gen271 : ∀ w, w ∈ genNames ∨ w ∈ compNs → Nat.blt w 271 = true := by
  intro w hw
  rcases hw with hw | hw
  · exact gen_lt w hw
  · exact comp_lt w hw
section
variable {scr : Addr} {cells : List PV} {σ : Store} {sc nt n0 n1 : Addr} {ds : List Addr} {cs : List Ct} {ad cd : Ct} {Q : QV} {X : XV'} {d : Nat}
theorem Zle {sp : Int} {w : Nat} {k : Kd} (h : (k.n == 0) = true) : Zaw true sp w k = (if w == 10 then .ok ⟨k.b, k.v, 1⟩ else if Zl k .i false 0 then .ok kSET else .error sp, []) := by unfold Zaw; simp [bne, h]
theorem Zye {sp : Int} {w : Nat} {k : Kd} {b r : Ba} (h : (k.n == 0) = true) (hw : takes w = some (b, r)) : Zaw false sp w k = (if Zl k b true 0 then .ok ⟨r, k.v || w == 21, 0⟩ else .error sp, if w == 21 then [21] else []) := by unfold Zaw; simp [bne, h, hw]
theorem Zna {c : Bool} {sp : Int} {w : Nat} {k : Kd} (h : (k.n == 0) = false) : Zaw c sp w k = (.error sp, []) := by unfold Zaw; simp [bne, h]
theorem Zzo {lo : Loc} {sp : Int} {w : Nat} {k : Kd} (hw : Nat.blt w 271 = true) (h85 : lo.get 85 = some (.tag 14)) (h67 : lo.get 67 = some (.int sp)) (h86 : lo.get 86 = some (.tag w)) (h89 : lo.get 89 = some k.pv)
    (h : Q (resPV (if w == 10 then .ok ⟨k.b, k.v, 1⟩ else if Zl k .i false 0 then .ok kSET else .error sp)) σ) : Wp scr cells true (d + 4) (b593.drop 6) lo σ (Zbc Q) (Zag X) := by
  show Wp scr cells true (d + 4) (_ :: _) lo σ _ _
  refine Zn (by walk_at "e") rfl ?_
  cases hwa : (w == 10) with
  | true =>
    rw [hwa] at h
    refine Zn (by walk_at "e") hwa ?_
    exact Zg (by walk_at "e") h
  | false =>
    rw [hwa] at h
    refine Zr (by walk_at "e") hwa <| Zf <| Zt <| Zki <| Zc (by walk_at "es") rfl <| Zee (k := k) (b := .i) (n := 0) ?_
    cases hm : Zl k .i false 0 with
    | true =>
      rw [hm] at h
      exact Zke (Zan (by walk_at "e") h)
    | false =>
      rw [hm] at h
      exact Zkf (Zan (by walk_at "e") h)
theorem Zvc {lo : Loc} {sp : Int} {w : Nat} {k : Kd} {b r : Ba} (hw : Nat.blt w 271 = true) (tg : Loc.get takesT w = some (.tup [.tag b.tag, .tag r.tag])) (h67 : lo.get 67 = some (.int sp)) (h86 : lo.get 86 = some (.tag w)) (h89 : lo.get 89 = some k.pv)
    (h : ∀ σ', Same [] σ σ' → Q (resPV (if Zl k b true 0 then .ok ⟨r, k.v || w == 21, 0⟩ else .error sp)) σ') : Wp scr cells true (d + 4) (b593.drop 8) lo σ (Zbc Q) (Zag X) := by
  show Wp scr cells true (d + 4) (_ :: _) lo σ _ _
  refine Zbd <| Zeo <| Zdt rfl <| Zj (by walk_at "e") <| Zh <| Zbq <| Zbq <| Zc (by walk_at "es") rfl <| Ziq fun x hx => Zaf <| Zan (by walk_at "e") <| Zby (.dict Zb tg) <| Zaf <| Zan (by walk_at "e") <| Zby (.tup rfl) <| Zk <| Zj (by walk_at "e") <| Zj (by walk_at "e") <| Zae <| Zpt <| Zee (k := k) (b := b) (n := 0) <| Zgg ?_
  have S := Same.new (A := []) (o := .dict takesT) hx
  cases hm : Zl k b true 0 with
  | false =>
    rw [hm] at h
    refine Zel ?_
    exact Zg (by walk_at "e") (h _ S)
  | true =>
    rw [hm] at h
    refine Zdb <| Zf ?_
    refine Zt <| Zbl <| Zh <| Zbl <| Zh <| Zbq <| Zbq <| Zc (by walk_at "es") rfl <| Ziq fun y hy => Zaf <| Zan (by walk_at "e") <| Zby (.dict Zb tg) <| Zaf <| Zan (by walk_at "e") <| Zby (.tup rfl) <| Zk <| Zj (.or2 (by walk_at "e") fun _ => by walk_at "e") <| Zj (by walk_at "e") <| Zae <| Zbj (by walk_at "l") <| Zk <| Zj (by walk_at "e") <| Zae <| Zbj (by walk_at "l") ?_
    exact h _ (S.trans (Same.new hy))
theorem Zpp {lo : Loc} {c : Bool} {sp : Int} {w : Nat} {rows : List (List Nat × Sr)} {wh : Option Lf} {body : Nd} {e : En} {need : Nat} (hb : Zcl scr cells body.pv (kd body) need body.sz) (hd : need ≤ d + 3) (T : TL lo c sp w rows wh body.pv sc nt) (hw : if c then w ∈ compNs else w ∈ genNames ∧ (takes w).isSome = true)
    (L : Lw σ sc ds cs nt n0 n1 ad cd) (EO : EnOk e cs) (hl : ds.length + body.sz ≤ 1000) (had : ad.length + body.sz ≤ 1000) (hcd : cd.length + body.sz + 1 ≤ 1000) (ok : NdOk body)
    (h : LawK sc ds cs nt n0 n1 ad cd Q σ (kT4 c sp w (kd body e))) :
    Wp scr cells true (d + 4) (b593.drop 4) lo σ (Zbc Q) (Zag X) := by
  obtain ⟨h85, h67, h86, h87, h88, h98, h93, h94⟩ := T
  have hwt : Nat.blt w 271 = true := gen271 w (by cases c with | false => exact .inl hw.1 | true => exact .inr hw)
  show Wp scr cells true (d + 4) (_ :: _) lo σ _ _
  refine Zbp (fun _ => rfl) <| Zc (by walk_at "es") rfl <| hb _ e σ sc ds cs nt n0 n1 ad cd _ _ (by lia) L EO hl had (by lia) fun σ₁ L₁ S₁ => ?_
  have hn := kd_len ok e
  rcases hp : kd body e with ⟨x, as, cl⟩
  rw [hp] at hn h
  simp only [hp] at L₁ ⊢
  cases x with
  | error i =>
    refine Zba rfl <| Zn (.or2 (by walk_at "e") (b2 := true) fun z => by contradiction) rfl ?_
    exact Zg (by walk_at "e") (h σ₁ L₁ S₁)
  | ok k =>
    have h : LawK sc ds cs nt n0 n1 ad cd Q σ ((Zaw c sp w k).1, as, cl ++ (Zaw c sp w k).2) := h
    refine Zba rfl ?_
    cases hkn : (k.n == 0) with
    | false =>
      have h := h.of (r' := (.error sp, as, cl)) (by rw [Zna hkn, List.append_nil])
      refine Zn (.or2 (by walk_at "e") fun _ => by walk_at "e") (by rw [Zbk, hkn]; rfl) ?_
      exact Zg (by walk_at "e") (h σ₁ L₁ S₁)
    | true =>
      refine Zr (.or2 (by walk_at "e") fun _ => by walk_at "e") (by rw [Zbk, hkn]; rfl) <| Zf ?_
      cases c with
      | true =>
        have h := h.of (r' := (_, as, cl)) (by rw [Zle hkn, List.append_nil])
        exact Zzo hwt (Zm rfl (Zm rfl h85)) (by walk_at "g") (by walk_at "g") (by walk_at "g") (h σ₁ L₁ S₁)
      | false =>
        obtain ⟨hw, hs⟩ := hw
        obtain ⟨⟨b, r⟩, hbr⟩ := Option.isSome_iff_exists.mp hs
        have tg := takes_get w hw
        rw [hbr] at tg
        have h := h.of (by rw [Zye hkn hbr])
        refine Zr (by walk_at "e") rfl <| Zf ?_
        cases hwp : (w == 21) with
        | false =>
          rw [hwp] at h
          refine Zr (by walk_at "e") hwp <| Zf <| Zvc hwt tg (by walk_at "g") (by walk_at "g") (by walk_at "g") fun σ' S' => ?_
          rw [hwp]
          exact h σ' (by show Lw _ _ _ _ _ _ _ _ (putN (cl ++ []) cd); rw [List.append_nil]; exact L₁.keep S') (S₁.trans (S'.mono (by simp)))
        | true =>
          rw [hwp] at h
          have pl := @putN_len cl cd
          simp only at hn
          refine Zn (by walk_at "e") hwp <| Zcu (by walk_at "e") (.sub (by walk_at "e") .int (.list L₁.ont rfl)) (by walk_at "e") L₁.on1 (by lia) <| Zf <| Zvc hwt tg (by walk_at "g") (by walk_at "g") (by walk_at "g") fun σ' S' => ?_
          rw [hwp]
          exact h σ' (by show Lw _ _ _ _ _ _ _ _ (putN (cl ++ [_]) cd); rw [Zs]; exact L₁.call.keep S') (S₁.trans ((Same.upd (by exact .tail _ (.head _))).trans (S'.mono (by simp))))
theorem LawK.pre {as bs cl : List Nat} {r : Except Int Kd} {σ₁ : Store} (h : LawK sc ds cs nt n0 n1 ad cd Q σ (r, as ++ bs, cl)) (S : Same [n0, n1] σ σ₁) : LawK sc ds cs nt n0 n1 (putN as ad) cd Q σ₁ (r, bs, cl) := h.app (xs := []) S
theorem Zabd {lo : Loc} {c : Bool} {sp : Int} {w : Nat} {rows : List (List Nat × Sr)} {wh : Option Lf} {body : Nd} {e : En} {need : Nat} (hb : Zcl scr cells body.pv (kd body) need body.sz) (hd : need ≤ d + 3) (T : TL lo c sp w rows wh body.pv sc nt) (hw : if c then w ∈ compNs else w ∈ genNames ∧ (takes w).isSome = true)
    (L : Lw σ sc ds cs nt n0 n1 ad cd) (EO : EnOk e cs) (hl : ds.length + body.sz + 1 ≤ 1000) (had : ad.length + body.sz + 1 ≤ 1000) (hcd : cd.length + body.sz + 1 ≤ 1000) (ok : NdOk body)
    (h : LawK sc ds cs nt n0 n1 ad cd Q σ (kT3 c e sp w wh (kd body))) :
    Wp scr cells true (d + 4) (b593.drop 3) lo σ (Zbc Q) (Zag X) := by
  have T' := T
  obtain ⟨h85, h67, h86, h87, h88, h98, h93, h94⟩ := T
  show Wp scr cells true (d + 4) (_ :: _) lo σ _ _
  cases wh with
  | none =>
    refine Zr (by walk_at "e") rfl <| Zf <| Zpp hb hd T' hw L EO (by lia) (by lia) hcd ok (h.of ?_)
    simp only [kT3, kWh, List.nil_append]
  | some l =>
    have h88 : lo.get 88 = some l.pv := h88
    refine Zn (b := []) (t := true) (.cmp (.var h88) .non (by cases l <;> exact .isNot)) rfl ?_
    refine Zbp (fun _ => rfl) <| Zc (vs := [l.pv, .obj sc, .obj nt]) (by walk_at "es") rfl <| Zhv l _ e σ sc ds cs nt n0 n1 ad cd _ _ (by lia) L EO (by lia) (by lia) (by lia) fun σ₁ L₁ S₁ => ?_
    have hn := @Zdy e l
    rcases hp : kLf e l with ⟨x, as⟩
    rw [hp] at hn
    simp only [hp] at L₁ ⊢
    cases x with
    | error i =>
      have h := h.of (r' := (.error i, as, [])) (by simp only [kT3, kWh, hp])
      refine Zba rfl <| Zbd <| Zbo <| Zjw (by walk_at "e") rfl <| Zel ?_
      exact Zg (by walk_at "e") (h σ₁ L₁ S₁)
    | ok k =>
      refine Zba rfl <| Zbd <| Zbo <| Zjx (by walk_at "e") rfl <| Zcp <| Zeo <| Zc (by walk_at "es") rfl <| Zee (k := k) (b := .b) (n := 0) <| Zgg ?_
      cases hm : Zl k .b false 0 with
      | false =>
        have h := h.of (r' := (.error l.sp, as, [])) (by simp only [kT3, kWh, hp, hm, Bool.false_eq_true, if_false])
        refine Zel ?_
        exact Zg (.tup (.cons .non (.cons (.iteT (by walk_at "e") rfl (.sub (x := l.pv) (by walk_at "e") .int Zfh)) .nil)) (by walk_at "l")) (h σ₁ L₁ S₁)
      | true =>
        have h := (h.of (r' := ((kT4 c sp w (kd body e)).1, as ++ (kT4 c sp w (kd body e)).2.1, (kT4 c sp w (kd body e)).2.2)) (by simp only [kT3, kWh, hp, hm, if_true])).pre S₁
        have pl := @putN_len as ad
        simp only at hn
        exact Zdb <| Zf <| Zf <| Zpp hb hd (T'.up ((upP.refl.cons (by exact .tail _ (.head _))).cons (by decide))) hw L₁ EO (by lia) (by lia) hcd ok h
theorem Lw.back {a sc2 : Addr} {ds2 : List Addr} {cs2 : List Ct} {ad' cd' : Ct} {σ' : Store} (L : Lw σ sc ds cs nt n0 n1 ad cd) (S : Same [n0, n1, a] σ σ') (ha : σ a = none) (L' : Lw σ' sc2 ds2 cs2 nt n0 n1 ad' cd') : Lw σ' sc ds cs nt n0 n1 ad' cd' := by
  obtain ⟨h1, h2, h3, h4⟩ := L.sn
  have na : ∀ b p, σ b = some p → b ≠ a := fun b p e z => by rw [z, ha] at e; contradiction
  refine ⟨S.at L.osc ?_, L.dcs.same S fun b hb => ?_, L'.ont, L'.on0, L'.on1, L.ne, L.d0, L.d1, L.st⟩
  · simp only [List.mem_cons, List.not_mem_nil, or_false, not_or]; exact ⟨h1, h2, na _ _ L.osc⟩
  · simp only [List.mem_cons, List.not_mem_nil, or_false, not_or]
    obtain ⟨c, e⟩ := L.dcs.mem hb
    exact ⟨fun z => L.d0 (z ▸ hb), fun z => L.d1 (z ▸ hb), na _ _ e⟩
theorem Same.drop {A : List Addr} {a : Addr} {σ σ' : Store} (S : Same (A ++ [a]) σ σ') (ha : σ a = none) : Same A σ σ' := fun b hb hn => S b hb fun z => by
  rcases List.mem_append.mp z with z | z
  · exact hn z
  · rw [List.mem_singleton.mp z] at hb; exact hb ha
theorem Zii {α : Type} {o : Option α} : (!o.isSome) = o.isNone := by cases o <;> rfl
theorem Zrl {c : Bool} {sp : Int} {w : Nat} {rows : List (List Nat × Sr)} {wh : Option Lf} {body : Nd} {need : Nat} {e : En} {l a : Addr} {σ₁ : Store} {lo : Loc} (mo : Zbr c w rows) (ok : NdOk body) (hB : Zcl scr cells body.pv (kd body) need body.sz) (hD : need ≤ d) (cs0 : cs ≠ []) (EO : EnOk e cs) (nda : a ∉ ds)
    (hl : ds.length + (body.sz + 20) ≤ 1000) (had : ad.length + (body.sz + 20) ≤ 1000) (hcd : cd.length + (body.sz + 20) ≤ 1000) (hz : (!c && (takes w).isNone) = false)
    (back : ∀ σ' sc2 ds2 cs2 ad' cd', Lw σ' sc2 ds2 cs2 nt n0 n1 ad' cd' → Same [n0, n1, a] σ₁ σ' → Lw σ' sc ds cs nt n0 n1 ad' cd' ∧ Same [n0, n1] σ σ')
    (L2 : Lw σ₁ l (ds ++ [a]) (cs ++ [[]]) nt n0 n1 ad cd) (T : TL lo c sp w rows wh body.pv l nt) (h : LawK sc ds cs nt n0 n1 ad cd Q σ (Zas c e sp w rows wh (kd body))) :
    Wp scr cells true (d + 4) (b593.drop 2) lo σ₁ (Zbc Q) (Zag X) := by
  obtain ⟨hw, hrows, hrl⟩ := mo
  have hk := @Zhi c e sp w rows wh (kd body)
  rw [hz] at hk
  simp only [Bool.false_eq_true, if_false] at hk
  have hw2 : if c then w ∈ compNs else w ∈ genNames ∧ (takes w).isSome = true := by
    cases c with
    | true => exact hw
    | false =>
      refine ⟨hw, ?_⟩
      cases q : takes w with
      | none => rw [q] at hz; contradiction
      | some x => rfl
  show Wp scr cells true (d + 4) (_ :: _) lo σ₁ _ _
  have rl := @Zec sp rows e
  refine Zhy rfl (.var T.h87) (by rw [List.length_map]; lia) <| Zkw (d := d + 1) cs0 nda (by lia) (by lia) rows hrows L2 EO.push (by simp only [List.length_nil]; lia) (by lia) T.h93 T.h94 T.h67 ?_
  rcases hp : Zac sp e rows with ⟨x, as⟩
  rw [hp] at rl hk
  cases x with
  | error i =>
    have h := h.of hk
    refine fun lo' σ' c' L' S' => ?_
    obtain ⟨B, SB⟩ := back _ _ _ _ _ _ L' S'
    exact h σ' B SB
  | ok e' =>
    have h := h.of hk
    refine fun lo' σ' c' hlo' L' EO' _ S' => ?_
    have pl := @putN_len as ad
    simp only at rl
    refine Zabd (d := d) hB (by lia) (T.up hlo') hw2 L' EO' (by rw [List.length_append, List.length_singleton]; lia) (by show (putN as ad).length + _ + _ ≤ _; lia) (by lia) ok fun σ₄ L4 S4 => ?_
    obtain ⟨B, SB⟩ := back _ _ _ _ _ _ L4 (S'.trans (S4.mono (by simp)))
    exact h σ₄ (by show Lw _ _ _ _ _ _ _ (putN (as ++ _) ad) _; rw [Zs]; exact B) SB
theorem Zrm {c : Bool} {sp : Int} {w : Nat} {rows : List (List Nat × Sr)} {wh : Option Lf} {body : Nd} {need : Nat} {e : En} (mo : Zbr c w rows) (ok : NdOk body) (hB : Zcl scr cells body.pv (kd body) need body.sz) (hD : need ≤ d) (L : Lw σ sc ds cs nt n0 n1 ad cd) (EO : EnOk e cs)
    (hl : ds.length + (body.sz + 20) ≤ 1000) (had : ad.length + (body.sz + 20) ≤ 1000) (hcd : cd.length + (body.sz + 20) ≤ 1000) (h : LawK sc ds cs nt n0 n1 ad cd Q σ (Zas c e sp w rows wh (kd body))) {a b l : Addr} (ha : σ a = none) (hb : (σ.upd a (.dict [])) b = none) (hl' : ((σ.upd a (.dict [])).upd b (.list [.obj a])) l = none) :
    Cal scr cells true (d + 4) 593 [Zav c sp w rows wh body.pv, .obj l, .obj nt] (((σ.upd a (.dict [])).upd b (.list [.obj a])).upd l (.list ((ds ++ [a]).map .obj))) Q X := by
  have S0 : Same [] σ (((σ.upd a (.dict [])).upd b (.list [.obj a])).upd l (.list ((ds ++ [a]).map .obj))) := (Same.new ha).trans ((Same.new hb).trans (Same.new hl'))
  have ea : (((σ.upd a (.dict [])).upd b (.list [.obj a])).upd l (.list ((ds ++ [a]).map .obj))) a = some (.dict []) := Zi (Zi Zb hb) hl'
  have el : (((σ.upd a (.dict [])).upd b (.list [.obj a])).upd l (.list ((ds ++ [a]).map .obj))) l = some (.list ((ds ++ [a]).map .obj)) := Zb
  have na : ∀ b p, σ b = some p → b ≠ a := fun b p e z => by rw [z, ha] at e; contradiction
  have nl : ∀ b p, σ b = some p → b ≠ l := fun b p e z => by
    have := Zi (Zi (o := .dict []) e ha) (o := .list [.obj a]) hb
    rw [z, hl'] at this; contradiction
  generalize (((σ.upd a (.dict [])).upd b (.list [.obj a])).upd l (.list ((ds ++ [a]).map .obj))) = σ₁ at S0 ea el ⊢
  have nda : a ∉ ds := fun z => by obtain ⟨c, e⟩ := L.dcs.mem z; exact na _ _ e rfl
  have L0 := L.keep S0
  have L1 : Lw σ₁ l (ds ++ [a]) (cs ++ [[]]) nt n0 n1 ad cd := by
    refine ⟨el, L0.dcs.snoc ea, L0.ont, L0.on0, L0.on1, L.ne, fun z => ?_, fun z => ?_, fun z => nl _ _ L.ont z.symm⟩
    · rcases List.mem_append.mp z with z | z
      · exact L.d0 z
      · exact na _ _ L.on0 (List.mem_singleton.mp z)
    · rcases List.mem_append.mp z with z | z
      · exact L.d1 z
      · exact na _ _ L.on1 (List.mem_singleton.mp z)
  have back : ∀ σ' sc2 ds2 cs2 ad' cd', Lw σ' sc2 ds2 cs2 nt n0 n1 ad' cd' → Same [n0, n1, a] σ₁ σ' → Lw σ' sc ds cs nt n0 n1 ad' cd' ∧ Same [n0, n1] σ σ' := fun σ' sc2 ds2 cs2 ad' cd' L' S' => by
    have S := (S0.mono (B := [n0, n1, a]) (by simp)).trans S'
    exact ⟨L.back S ha L', Same.drop (A := [n0, n1]) S ha⟩
  clear S0 L0 ea el nl na hl' hb
  refine Zd rfl rfl <| Zvg (lo₁ := (98, body.pv) :: (88, whPV wh) :: (87, .tup (rows.map Zbh)) :: (86, .tag w) :: (67, .int sp) :: (85, .tag (if c then 14 else 13)) :: Zaz [92, 93, 94] [Zav c sp w rows wh body.pv, .obj l, .obj nt]) (.var rfl) (fun _ => rfl) rfl ?_
  have go := fun σ₂ hz L2 (S2 : Same [n0, n1, a] σ₁ σ₂) => @Zrl scr cells σ sc nt n0 n1 ds cs ad cd Q X d c sp w rows wh body need e l a σ₂ ((98, body.pv) :: (88, whPV wh) :: (87, .tup (rows.map Zbh)) :: (86, .tag w) :: (67, .int sp) :: (85, .tag (if c then 14 else 13)) :: Zaz [92, 93, 94] [Zav c sp w rows wh body.pv, .obj l, .obj nt]) mo ok hB hD EO.1 EO nda hl had hcd hz (fun σ' a1 a2 a3 a4 a5 b1 b2 => back σ' a1 a2 a3 a4 a5 b1 (S2.trans b2)) L2 ⟨rfl, rfl, rfl, rfl, rfl, rfl, rfl, rfl⟩ h
  cases c with
  | true => exact Zbd <| Zbo <| Zga (by walk_at "e") rfl <| Zdb <| Zf <| go σ₁ rfl L1 .refl
  | false =>
    have hw : w ∈ genNames := mo.1
    have hwt := gen_lt w hw
    have gi : (Loc.get takesT w).isSome = (takes w).isSome := by rw [takes_get w hw, Option.isSome_map]
    refine Zbd <| Zbo <| Zcx (by walk_at "e") rfl <| Zcp <| Zep <| Zan (by walk_at "e") <| Zaf <| Zc (by walk_at "es") rfl <| Ziq fun x hx => Zgh (.notIn (.dict Zb)) ?_
    rw [gi]
    cases hs : (takes w).isSome with
    | false =>
      have hn : (takes w).isNone = true := by rw [← Zii, hs]; rfl
      have h := h.of (r' := (.error sp, [], [])) (by rw [Zhi]; simp only [hn, Bool.not_false, Bool.and_self, if_true])
      obtain ⟨B, SB⟩ := back _ _ _ _ _ _ (L1.keep (Same.new (o := .dict takesT) hx)) (Same.new hx)
      refine Zel ?_
      exact Zg (by walk_at "e") (h _ B SB)
    | true =>
      have hn : (takes w).isNone = false := by rw [← Zii, hs]; rfl
      exact Zdb <| Zf <| go _ (by rw [hn]; rfl) (L1.keep (Same.new hx)) (Same.new hx)
theorem Zmw (c : Bool) {sp : Int} {w : Nat} {rows : List (List Nat × Sr)} {wh : Option Lf} {body : Nd} {need : Nat} (mo : Zbr c w rows) (ok : NdOk body) (hB : Zcl scr cells body.pv (kd body) need body.sz) :
    Zcl scr cells (Zav c sp w rows wh body.pv) (fun e => Zas c e sp w rows wh (kd body)) (need + 5) (body.sz + 20) := by
  intro D e σ sc ds cs nt n0 n1 ad cd Q X hD L EO hl had hcd h
  obtain ⟨d, rfl⟩ : ∃ d, D = d + 5 := ⟨D - 5, by lia⟩
  have main := @Zrm scr cells σ sc nt n0 n1 ds cs ad cd Q X d c sp w rows wh body need e mo ok hB (by lia) L EO hl had hcd h
  have ll := L.osc
  refine Zd rfl rfl ?_
  walk_at "s"
  cases c <;> (
    iterate 6 walk_at "s"
    refine Zn (by walk_at "e") rfl <| Zt <| Zdt rfl <| Zj (by walk_at "e") <| Zh <| Zqd <| Zan (by walk_at "e") <| Zaf <| Zib <| Zh <| Zef rfl (by walk_at "l") (by walk_at "es") fun a ha => Zk <| Zae <| Zju (by walk_at "l") fun b hb => ?_
    refine .lists (Zi (Zi ll ha) hb) Zb (by rw [List.length_map]; simp only [List.length_singleton]; lia) fun l hl' => Zk <| Zj (by walk_at "e") <| Zae <| Zpt ?_
    have := main ha hb hl'
    rw [List.map_append] at this
    exact this)
noncomputable def needN : Nd → Nat
  | .lf _ => 0
  | .bin _ _ a _ => needN a + 2
  | .idx _ _ i => needN i + 2
  | .gen _ _ _ _ body => needN body + 5
theorem kl_nd : ∀ nd : Nd, NdOk nd → Zcl scr cells nd.pv (kd nd) (needN nd) nd.sz
  | .lf l, _ => Zhv l
  | .bin sp s a b, ok => Zabf ok (kl_nd a ok)
  | .idx sp t i, ok => Zabe ok (kl_nd i ok)
  | .gen sp w rows wh body, ok => Zmw false ok.1 ok.2 (kl_nd body ok.2)
end
structure MW where
  mo : Addr
  md : Addr
  nm : Addr
  nd : Addr
  sl : Addr
  as : Addr
  cl : Addr
  pr : Addr
  q1 : Addr
  q2 : Addr
noncomputable def mkT (w : MW) : Ct := [(83, .obj w.nm), (105, .obj w.pr), (106, .obj w.q1), (107, .obj w.q2), (108, .bool false), (109, .obj w.cl)]
noncomputable def nmT (w : MW) : Ct := [(93, .obj w.sl), (104, .obj w.as)]
noncomputable def predsT : Ct := [(21, .tup [Kd.pv ⟨.i, true, 1⟩]), (22, .tup [Kd.pv ⟨.i, true, 0⟩])]
structure Mk (σ : Store) (w : MW) (pt : Ct) (ds : List Addr) (cs : List Ct) (ad cd : Ct) : Prop where
  imk : σ w.mo = some (.inst 494 w.md)
  imd : σ w.md = some (.attrs (mkT w))
  inm : σ w.nm = some (.inst 257 w.nd)
  ind : σ w.nd = some (.attrs (nmT w))
  isl : σ w.sl = some (.list (ds.map .obj))
  ias : σ w.as = some (.dict ad)
  icl : σ w.cl = some (.dict cd)
  ipr : σ w.pr = some (.dict pt)
  dcs : Dcs σ ds cs
  ac : w.as ≠ w.cl
  ap : w.as ≠ w.pr
  cp : w.cl ≠ w.pr
  da : w.as ∉ ds
  dc : w.cl ∉ ds
  dp : w.pr ∉ ds
section
variable {scr : Addr} {cells : List PV} {σ : Store} {w : MW} {pt : Ct} {ds : List Addr} {cs : List Ct} {ad cd : Ct} {Q : QV} {X : XV'} {d : Nat}
theorem Zp {σ : Store} {a b : Addr} {o p : PO} (h : σ a = some o) (k : σ b = some p) (n : o ≠ p) : a ≠ b := fun z => by rw [z, k] at h; exact n (Option.some.inj h).symm
theorem Mk.same (M : Mk σ w pt ds cs ad cd) {A : List Addr} {σ' : Store} (S : Same A σ σ') (hA : ∀ a ∈ A, σ a = none) : Mk σ' w pt ds cs ad cd := by
  have k : ∀ {b p}, σ b = some p → b ∉ A := fun {b p} e z => by rw [hA b z] at e; contradiction
  exact ⟨S.at M.imk (k M.imk), S.at M.imd (k M.imd), S.at M.inm (k M.inm), S.at M.ind (k M.ind), S.at M.isl (k M.isl), S.at M.ias (k M.ias), S.at M.icl (k M.icl), S.at M.ipr (k M.ipr), M.dcs.same S (fun a ha => by obtain ⟨c, e⟩ := M.dcs.mem ha; exact k e), M.ac, M.ap, M.cp, M.da, M.dc, M.dp⟩
theorem Mk.keep (M : Mk σ w pt ds cs ad cd) {σ' : Store} (S : Same [] σ σ') : Mk σ' w pt ds cs ad cd := M.same S (by simp)
theorem Mk.ask (M : Mk σ w pt ds cs ad cd) {ad' : Ct} : Mk (σ.upd w.as (.dict ad')) w pt ds cs ad' cd := by
  have S : Same [w.as] σ (σ.upd w.as (.dict ad')) := Same.upd (by exact .head _)
  have k : ∀ {b p}, σ b = some p → b ≠ w.as → b ∉ [w.as] := fun {b p} e n z => n (by simpa using z)
  exact ⟨S.at M.imk (k M.imk (Zp M.imk M.ias (by simp))), S.at M.imd (k M.imd (Zp M.imd M.ias (by simp))), S.at M.inm (k M.inm (Zp M.inm M.ias (by simp))), S.at M.ind (k M.ind (Zp M.ind M.ias (by simp))), S.at M.isl (k M.isl (Zp M.isl M.ias (by simp))), Zb,
    S.at M.icl (k M.icl M.ac.symm), S.at M.ipr (k M.ipr M.ap.symm), M.dcs.same S (by simpa using fun a ha (z : a = w.as) => M.da (z ▸ ha)), M.ac, M.ap, M.cp, M.da, M.dc, M.dp⟩
theorem Mk.call (M : Mk σ w pt ds cs ad cd) {cd' : Ct} : Mk (σ.upd w.cl (.dict cd')) w pt ds cs ad cd' := by
  have S : Same [w.cl] σ (σ.upd w.cl (.dict cd')) := Same.upd (by exact .head _)
  have k : ∀ {b p}, σ b = some p → b ≠ w.cl → b ∉ [w.cl] := fun {b p} e n z => n (by simpa using z)
  exact ⟨S.at M.imk (k M.imk (Zp M.imk M.icl (by simp))), S.at M.imd (k M.imd (Zp M.imd M.icl (by simp))), S.at M.inm (k M.inm (Zp M.inm M.icl (by simp))), S.at M.ind (k M.ind (Zp M.ind M.icl (by simp))), S.at M.isl (k M.isl (Zp M.isl M.icl (by simp))), S.at M.ias (k M.ias M.ac), Zb,
    S.at M.ipr (k M.ipr M.cp.symm), M.dcs.same S (by simpa using fun a ha (z : a = w.cl) => M.dc (z ▸ ha)), M.ac, M.ap, M.cp, M.da, M.dc, M.dp⟩
theorem Mk.pred (M : Mk σ w pt ds cs ad cd) {pt' : Ct} : Mk (σ.upd w.pr (.dict pt')) w pt' ds cs ad cd := by
  have S : Same [w.pr] σ (σ.upd w.pr (.dict pt')) := Same.upd (by exact .head _)
  have k : ∀ {b p}, σ b = some p → b ≠ w.pr → b ∉ [w.pr] := fun {b p} e n z => n (by simpa using z)
  exact ⟨S.at M.imk (k M.imk (Zp M.imk M.ipr (by simp))), S.at M.imd (k M.imd (Zp M.imd M.ipr (by simp))), S.at M.inm (k M.inm (Zp M.inm M.ipr (by simp))), S.at M.ind (k M.ind (Zp M.ind M.ipr (by simp))), S.at M.isl (k M.isl (Zp M.isl M.ipr (by simp))), S.at M.ias (k M.ias M.ap), S.at M.icl (k M.icl M.cp),
    Zb, M.dcs.same S (by simpa using fun a ha (z : a = w.pr) => M.dp (z ▸ ha)), M.ac, M.ap, M.cp, M.da, M.dc, M.dp⟩
theorem Mk.list (M : Mk σ w pt ds cs ad cd) {ds' : List Addr} {cs' : List Ct} (hd : Dcs σ ds' cs') (h1 : w.as ∉ ds') (h2 : w.cl ∉ ds') (h3 : w.pr ∉ ds') : Mk (σ.upd w.sl (.list (ds'.map .obj))) w pt ds' cs' ad cd := by
  have S : Same [w.sl] σ (σ.upd w.sl (.list (ds'.map .obj))) := Same.upd (by exact .head _)
  have k : ∀ {b p}, σ b = some p → p ≠ .list (ds.map .obj) → b ∉ [w.sl] := fun {b p} e n z => by
    have := M.isl
    rw [← List.mem_singleton.mp z, e] at this
    exact n (Option.some.inj this)
  exact ⟨S.at M.imk (k M.imk (by simp)), S.at M.imd (k M.imd (by simp)), S.at M.inm (k M.inm (by simp)), S.at M.ind (k M.ind (by simp)), Zb, S.at M.ias (k M.ias (by simp)), S.at M.icl (k M.icl (by simp)), S.at M.ipr (k M.ipr (by simp)),
    hd.same S (fun a ha => by obtain ⟨c, e⟩ := hd.mem ha; exact k e (by simp)), M.ac, M.ap, M.cp, h1, h2, h3⟩
theorem Mk.store {a : Addr} {c : Ct} (M : Mk σ w pt (ds ++ [a]) (cs ++ [c]) ad cd) (nd : a ∉ ds) {c' : Ct} : Mk (σ.upd a (.dict c')) w pt (ds ++ [a]) (cs ++ [c']) ad cd := by
  obtain ⟨D, e⟩ := M.dcs.unsnoc
  have S : Same [a] σ (σ.upd a (.dict c')) := Same.upd (by exact .head _)
  have k : ∀ {b p}, σ b = some p → b ≠ a → b ∉ [a] := fun {b p} e n z => n (by simpa using z)
  have ka : w.as ≠ a := fun z => M.da (by rw [z]; simp)
  have kc : w.cl ≠ a := fun z => M.dc (by rw [z]; simp)
  have kp : w.pr ≠ a := fun z => M.dp (by rw [z]; simp)
  exact ⟨S.at M.imk (k M.imk (Zp M.imk e (by simp))), S.at M.imd (k M.imd (Zp M.imd e (by simp))), S.at M.inm (k M.inm (Zp M.inm e (by simp))), S.at M.ind (k M.ind (Zp M.ind e (by simp))), S.at M.isl (k M.isl (Zp M.isl e (by simp))), S.at M.ias (k M.ias ka), S.at M.icl (k M.icl kc), S.at M.ipr (k M.ipr kp),
    (D.same S (fun b hb z => nd (by rw [List.mem_singleton.mp z] at hb; exact hb))).snoc Zb, M.ac, M.ap, M.cp, M.da, M.dc, M.dp⟩
theorem Zv {S : Spec} {st : Bool} {lo : Loc} {o : Ex} {m : Nat} {args : List Ex} {f : Addr} {vs : List PV} {p p' : Pos} (M : Mk σ w pt ds cs ad cd) (ho : Ev (GP scr cells) st σ lo o (.obj w.mo)) (hm : (GP scr cells).mt 494 m = some f) (hn : Loc.get (mkT w) m = none) (h : Evs (GP scr cells) st σ lo args vs) (q : S st d f (.obj w.mo :: vs) σ Q X) :
    wpE (GP scr cells) S st (d + 1) (.mcall o m args p p') lo σ Q X := Znb ho M.imk M.imd hm hn h q
theorem Zfg {S : Spec} {st : Bool} {lo : Loc} {o : Ex} {m : Nat} {args : List Ex} {f : Addr} {p p' : Pos} (M : Mk σ w pt ds cs ad cd) (ho : Ev (GP scr cells) st σ lo o (.obj w.mo)) (hm : (GP scr cells).mt 494 m = some f) (hn : Loc.get (mkT w) m = none) (q : Zz (GP scr cells) S st (d + 1) args lo σ (Zfb S st d f [.obj w.mo] Q X) X) :
    wpE (GP scr cells) S st (d + 1) (.mcall o m args p p') lo σ Q X := Zun ho M.imk M.imd hm hn q
theorem Zet {S : Spec} {st : Bool} {lo : Loc} {o : Ex} {m : Nat} {args : List Ex} {f : Addr} {vs : List PV} {p p' p2 : Pos} (M : Mk σ w pt ds cs ad cd) (ho : Ev (GP scr cells) st σ lo o (.obj w.mo)) (hm : (GP scr cells).mt 257 m = some f) (hn : Loc.get (nmT w) m = none) (h : Evs (GP scr cells) st σ lo args vs) (q : S st d f (.obj w.nm :: vs) σ Q X) :
    wpE (GP scr cells) S st (d + 1) (.mcall (.attr o 83 p2) m args p p') lo σ Q X := Znb (.attr ho M.imk M.imd rfl rfl) M.inm M.ind hm hn h q
theorem Zar {st : Bool} {lo : Loc} {o : Ex} {p : Pos} (M : Mk σ w pt ds cs ad cd) (ho : Ev (GP scr cells) st σ lo o (.obj w.nm)) : Ev (GP scr cells) st σ lo (.attr o 93 p) (.obj w.sl) := .attr ho M.inm M.ind rfl rfl
theorem Zaau (M : Mk σ w pt ds cs ad cd) (hl : ds.length ≤ 990) (h : ∀ a σ', σ a = none → a ∉ ds → Mk σ' w pt (ds ++ [a]) (cs ++ [[]]) ad cd → Same [w.sl] σ σ' → Q .none σ') : Cal scr cells true d 233 [.obj w.nm] σ Q X := by
  refine Zd rfl rfl <| Zq <| Zrv (Zar M (by walk_at "e")) M.isl <| Zef rfl (by walk_at "l") (by walk_at "es") fun a ha => ?_
  have nl : w.sl ≠ a := fun z => by have := M.isl; rw [z, ha] at this; contradiction
  have e1 : (σ.upd a (.dict [])) w.sl = some (.list (ds.map .obj)) := Zi M.isl ha
  have nda : a ∉ ds := fun z => by obtain ⟨c, e⟩ := M.dcs.mem z; rw [ha] at e; contradiction
  have M1 := M.keep (Same.new (o := .dict []) ha)
  have M2 := M1.list (ds' := ds ++ [a]) (cs' := cs ++ [[]]) (M1.dcs.snoc Zb) (fun z => by rcases List.mem_append.mp z with z | z; (exact M.da z); have := M.ias; rw [List.mem_singleton.mp z, ha] at this; contradiction)
    (fun z => by rcases List.mem_append.mp z with z | z; (exact M.dc z); have := M.icl; rw [List.mem_singleton.mp z, ha] at this; contradiction) (fun z => by rcases List.mem_append.mp z with z | z; (exact M.dp z); have := M.ipr; rw [List.mem_singleton.mp z, ha] at this; contradiction)
  rw [List.map_append] at M2
  exact Zua e1 (by rw [List.length_map]; lia) <| Zy <| Zak <| h a _ ha nda M2 ((Same.new ha).trans (Same.upd (.head _)))
theorem Zvh {st : Bool} {a : Addr} {c : Ct} (M : Mk σ w pt (ds ++ [a]) (cs ++ [c]) ad cd) (hl : ds.length ≤ 990) (h : ∀ σ', Mk σ' w pt ds cs ad cd → Same [w.sl] σ σ' → Q .none σ') : Cal scr cells st d 240 [.obj w.nm] σ Q X := by
  have el : (List.map PV.obj (ds ++ [a])).getLast? = some (.obj a) := by rw [List.map_append]; simp
  have ed : (List.map PV.obj (ds ++ [a])).dropLast = ds.map .obj := by rw [List.map_append]; simp
  refine Zd rfl rfl <| Zq <| Zvn (Zar M (by walk_at "e")) M.isl (by rw [List.length_map, List.length_append, List.length_singleton]; lia) el <| Zy <| Zak ?_
  rw [ed]
  exact h _ (M.list M.dcs.unsnoc.1 (fun z => M.da (by simp [z])) (fun z => M.dc (by simp [z])) (fun z => M.dp (by simp [z]))) (Same.upd (.head _))
end
noncomputable def Zew (Q : QV) (X : XV') (r : Except Int Kd) (σ : Store) : Prop := match r with
  | .ok k => Q k.pv σ
  | .error i => X i σ
section
variable {scr : Addr} {cells : List PV} {σ : Store} {w : MW} {pt : Ct} {ds : List Addr} {cs : List Ct} {ad cd : Ct} {Q : QV} {X : XV'} {d : Nat}
noncomputable def Zpl (L : Option PV) (Q : QS) (lo : Loc) (σ : Store) (a : Addr) (ad : Ct) (t : Nat) (z : Bool) : Prop := match L with
  | none => Q .next lo σ
  | some v => Q (.ret v) lo (if z then σ.upd a (.dict (Ze t (.bool true) ad)) else σ)
theorem Zxg {lo : Loc} {t n : Nat} {Q : QS} {X : XS} (M : Mk σ w pt ds cs ad cd) (hl : ds.length ≤ 1000) (had : ad.length ≤ 1000) (hlt : n < ds.length) (h103 : lo.get 103 = some (.obj w.nm)) (h5 : lo.get 5 = some (.tag t)) (h66 : lo.get 66 = some (.int n))
    (h : Zpl ((cs[n]?).bind fun c => Loc.get c t) Q lo σ w.as ad t (n == 0)) :
    Wp scr cells true d b254_1 lo σ Q X := by
  obtain ⟨a, c, e1, e2, e3⟩ := M.dcs.get hlt
  rw [e2, Option.bind_some] at h
  have it : ∀ {σ}, Mk σ w pt ds cs ad cd → Item (GP scr cells) σ (.obj w.sl) (.int n) (.obj a) := fun M => Zhj M.isl e1 hl
  show Wp scr cells true d (_ :: _) lo σ _ _
  cases hv : Loc.get c t with
  | none =>
    rw [hv] at h
    exact Zr (.cmp (by walk_at "e") (.sub (Zar M (by walk_at "e")) (by walk_at "e") (it M)) (.in_ (.dict e3))) (by rw [hv]; rfl) <| Zf <| Zak h
  | some v =>
    rw [hv] at h
    refine Zn (.cmp (by walk_at "e") (.sub (Zar M (by walk_at "e")) (by walk_at "e") (it M)) (.in_ (.dict e3))) (by rw [hv]; rfl) ?_
    cases hz : (n == 0) with
    | false =>
      rw [hz] at h
      exact Zr (by walk_at "e") ((Zbk n).trans hz) <| Zf <| Zg (.sub (.sub (Zar M (by walk_at "e")) (by walk_at "e") (it M)) (by walk_at "e") (.dict e3 hv)) h
    | true =>
      rw [hz] at h
      have M' := M.ask (ad' := Ze t (.bool true) ad)
      have e4 : (σ.upd w.as (.dict (Ze t (.bool true) ad))) a = some (.dict c) := by
        rw [Zad fun z => M.da (by rw [← z]; exact List.mem_of_getElem? e1)]; exact e3
      refine Zn (by walk_at "e") ((Zbk n).trans hz) <| Zcu (by walk_at "e") (.attr (by walk_at "e") M.inm M.ind rfl rfl) (by walk_at "e") M.ias had <| Zf ?_
      exact Zg (.sub (.sub (Zar M' (by walk_at "e")) (by walk_at "e") (Zhj M'.isl e1 hl)) (by walk_at "e") (.dict e4 hv)) h
noncomputable def Zpm (r : Option (PV × Bool)) (Q : QS) (lo : Loc) (σ : Store) (a : Addr) (ad : Ct) (t : Nat) : Prop := match r with
  | none => Q .next lo σ
  | some (v, b) => Q (.ret v) lo (if b then σ.upd a (.dict (Ze t (.bool true) ad)) else σ)
theorem Zto {t n : Nat} {Q Q' : QS} {lo : Loc} {σ : Store} {a : Addr} (h : Zpm (lk cs t (n + 1)) Q lo σ a ad t) (hq : ∀ v σ', Q (.ret v) lo σ' → Q' (.ret v) lo σ') (k : (cs[n]?).bind (fun c => Loc.get c t) = none → Q' .next lo σ) : Zpl ((cs[n]?).bind fun c => Loc.get c t) Q' lo σ a ad t (n == 0) := by
  unfold lk at h
  cases hv : ((cs[n]?).bind fun c => Loc.get c t) with
  | none => exact k hv
  | some v => rw [hv] at h; exact hq _ _ h
theorem Zmt {t : Nat} {g : Pos} {Q : QS} {X : XS} (M : Mk σ w pt ds cs ad cd) (hl : ds.length ≤ 1000) (had : ad.length ≤ 1000) : ∀ n, n ≤ ds.length → ∀ lo : Loc, lo.get 103 = some (.obj w.nm) → lo.get 5 = some (.tag t) →
    (∀ lo', upP [66] lo lo' → Zpm (lk cs t n) Q lo' σ w.as ad t) →
    Zax (.one 66 g) (Wp scr cells true d b254_1) (downN n) lo σ Q X
  | 0, _, lo, _, _, h => Zgj (h lo .refl)
  | n + 1, hn', lo, h103, h5, h => by
    have up : upP [66] lo ((66, .int n) :: lo) := upP.refl.cons (.head _)
    have g103 := Zm (u := 66) (x := .int n) rfl h103
    have g5 := Zm (u := 66) (x := .int n) rfl h5
    refine Zbe rfl (Zxg M hl had (t := t) (n := n) (by lia) g103 g5 rfl (Zto (h _ up) (fun _ _ q => q) fun e => ?_))
    refine Zmt M hl had n (by lia) _ g103 g5 fun lo' hlo' => ?_
    have h := h lo' (up.trans hlo')
    unfold lk at h
    rw [e] at h
    exact h
theorem Zra {e : En} {sp : Int} {t : Nat} (M : Mk σ w pt ds cs ad cd) (EO : EnOk e cs) (hl : ds.length ≤ 1000) (had : ad.length ≤ 1000)
    (h : ∀ σ', Mk σ' w pt ds cs (putN (kNm e sp t).2 ad) cd → Same [w.as] σ σ' → Zew Q X (kNm e sp t).1 σ') : Cal scr cells true d 254 [.obj w.nm, .tag t, .int sp] σ Q X := by
  have hr : Zcv ((((ds.map PV.obj).length : Nat) : Int) - 1) (-1) (-1) = some (downN ds.length) := by rw [List.length_map]; exact Zif (by lia)
  have l1 : (ds.map PV.obj).length ≤ 1000 := by rw [List.length_map]; lia
  refine Zd rfl rfl <| Zml rfl (.cons (.minus2 (.len (Zar M (by walk_at "e")) rfl (.list _ rfl M.isl) l1) .int) (by walk_at "es")) hr (by rw [down_len]; lia) (Zmt (t := t) M hl had ds.length (Nat.le_refl _) _ rfl rfl fun lo' hlo' => ?_)
  have hk := EO.2 t
  rw [← M.dcs.len] at hk
  rw [hk]
  cases he : e t with
  | none =>
    rw [Zlb he] at h
    have g5 := hlo'.get (t := 5) (v := .tag t) rfl (by decide)
    have g67 := hlo'.get (t := 67) (v := .int sp) rfl (by decide)
    show Wp scr cells true d (_ :: _) lo' σ _ _
    exact Zcg rfl (by walk_at "t") (by walk_at "e") (h σ M .refl)
  | some x =>
    obtain ⟨k, b⟩ := x
    rw [Zla he] at h
    cases b with
    | false => exact h σ M .refl
    | true => exact h _ M.ask (Same.upd (.head _))
end
noncomputable def Gd (k : Kd) : Prop := k.n ≤ 2 ∧ (k.b = .s → k.v = false ∧ k.n = 0) ∧ (k.b = .t → k.v = false ∧ k.n = 0)
noncomputable def GdE (e : En) : Prop := ∀ t k b, e t = some (k, b) → Gd k
theorem Gd.le {k : Kd} (h : Gd k) : k.n ≤ 9 := Nat.le_trans h.1 (by decide)
theorem Zjs {e : En} {sp : Int} {t : Nat} {k : Kd} (g : GdE e) (h : (kNm e sp t).1 = .ok k) : Gd k := by
  unfold kNm at h
  split at h
  · contradiction
  · rename_i k' b he
    cases h
    exact g t _ b he
theorem Zjt {e : En} {l : Lf} {k : Kd} (g : GdE e) (h : (kLf e l).1 = .ok k) : Gd k := by
  cases l with
  | nm sp t => exact Zjs g h
  | tr sp => cases h; exact ⟨by decide, fun z => (by contradiction), fun z => by contradiction⟩
  | nu sp i => cases h; exact ⟨by decide, fun z => (by contradiction), fun z => by contradiction⟩
theorem gd_SET : Gd kSET := ⟨by decide, fun _ => ⟨rfl, rfl⟩, fun z => by contradiction⟩
theorem Zve {e : En} {s : Sr} {k : Kd} (g : GdE e) (h : (kSr e s).1 = .ok k) : Gd k := by
  cases s with
  | nm sp t => exact Zjs g h
  | rg sp sp1 l =>
    rcases hp : kLf e l with ⟨x, as⟩
    simp only [kSr, hp] at h
    cases x with
    | error i => contradiction
    | ok k' =>
      simp only at h
      split at h
      · cases h; exact gd_SET
      · contradiction
theorem Zyf {k : Kd} (h : Gd k) (h1 : k = kSET ∨ k.n = 1) : Gd (Zal k) := by
  unfold Zal
  split
  · exact ⟨by decide, fun z => (by contradiction), fun z => by contradiction⟩
  · rename_i hb
    rcases h1 with rfl | h1
    · simp at hb
    · refine ⟨by simp, fun z => ?_, fun z => ?_⟩
      · simp only at z; simp [z] at hb
      · simp only at z; have := (h.2.2 z).2; lia
theorem Zyk {e : En} {ns : List Nat} {k : Kd} (g : GdE e) (h : Gd k) : GdE (e.bind ns k) := fun t k' b he => by
  unfold En.bind at he
  split at he
  · cases he; exact h
  · exact g t k' b he
theorem Zui {k : Kd} {b : Ba} {v : Bool} {n : Nat} : Zgi k ⟨b, v, n⟩ = Zl k b v n := by
  obtain ⟨kb, kv, kn⟩ := k
  unfold Zgi Zl
  simp only [bne]
  cases (kn == n) <;> cases kv <;> cases v <;> cases kb <;> cases b <;> rfl
noncomputable def KinK (w : MW) (ds : List Addr) (cs : List Ct) (ad cd : Ct) (Q : QV) (X : XV') (σ : Store) (r : R2) : Prop := ∀ σ', Mk σ' w predsT ds cs (putN r.2.1 ad) (putN r.2.2 cd) → Same [w.as, w.cl, w.sl] σ σ' → Zew Q X r.1 σ'
theorem KinK.of {w : MW} {ds : List Addr} {cs : List Ct} {ad cd : Ct} {Q : QV} {X : XV'} {σ : Store} {r r' : R2} (h : KinK w ds cs ad cd Q X σ r) (e : r = r') : KinK w ds cs ad cd Q X σ r' := e ▸ h
theorem KinK.app {w : MW} {ds : List Addr} {cs : List Ct} {ad cd : Ct} {Q : QV} {X : XV'} {as bs xs ys : List Nat} {r : Except Int Kd} {σ σ₁ : Store} (h : KinK w ds cs ad cd Q X σ (r, as ++ bs, xs ++ ys)) (S : Same [w.as, w.cl, w.sl] σ σ₁) : KinK w ds cs (putN as ad) (putN xs cd) Q X σ₁ (r, bs, ys) := fun σ' L' S' => h σ' (by show Mk _ _ _ _ _ (putN (as ++ bs) ad) (putN (xs ++ ys) cd); rw [Zs, Zs]; exact L') (S.trans S')
noncomputable def KKin (scr : Addr) (cells : List PV) (nv : PV) (res : En → R2) (need cost : Nat) : Prop := ∀ D (e : En) (σ : Store) (w : MW) (ds : List Addr) (cs : List Ct) (ad cd : Ct) (Q : QV) (X : XV'), need ≤ D → Mk σ w predsT ds cs ad cd → EnOk e cs → GdE e → ds.length + cost ≤ 1000 → ad.length + cost ≤ 1000 → cd.length + cost ≤ 1000 →
  KinK w ds cs ad cd Q X σ (res e) → Cal scr cells true D 287 [.obj w.mo, nv] σ Q X
section
variable {scr : Addr} {cells : List PV} {σ : Store} {w : MW} {pt : Ct} {ds : List Addr} {cs : List Ct} {ad cd : Ct} {Q : QV} {X : XV'} {d : Nat}
theorem Zqe {k w : Kd} {sp : Int} {wh : Nat} (hd : 1 ≤ d) (hk : k.n ≤ 9) (hw : w.n ≤ 9) (h : if Zl k w.b w.v w.n = true then Q .none σ else X sp σ) : Cal scr cells true d 205 [k.pv, w.pv, .int sp, .tag wh] σ Q X := by
  obtain ⟨e, rfl⟩ : ∃ e, d = e + 1 := ⟨d - 1, by lia⟩
  exact Zaas hk hw (by rw [Zui]; exact h)
theorem Znv {sp : Int} {t : Nat} : KKin scr cells (.tup [.tag 5, .int sp, .tag t]) (fun e => ((kNm e sp t).1, (kNm e sp t).2, [])) 1 1 := by
  intro D e σ w ds cs ad cd Q X hD M EO GE hl had hcd h
  obtain ⟨d, rfl⟩ : ∃ d, D = d + 1 := ⟨D - 1, by lia⟩
  refine Zd rfl rfl ?_
  iterate 3 walk_at "s"
  exact Zn (by walk_at "e") rfl <| Zt <| Zet M (by walk_at "e") rfl rfl (by walk_at "es") <| Zra M EO (by lia) (by lia) fun σ' M' S' => h σ' M' (S'.mono (by simp))
theorem Zgf (l : Lf) : KKin scr cells l.pv (fun e => ((kLf e l).1, (kLf e l).2, [])) 1 1 := by
  cases l with
  | nm sp t => exact Znv
  | tr sp =>
    intro D e σ w ds cs ad cd Q X hD M EO GE hl had hcd h
    refine Zd rfl rfl ?_
    walk_at "s"
    walk_at "s"
    exact Zg (by walk_at "e") (h σ M .refl)
  | nu sp i =>
    intro D e σ w ds cs ad cd Q X hD M EO GE hl had hcd h
    refine Zd rfl rfl ?_
    walk_at "s"
    walk_at "s"
    exact Zg (by walk_at "e") (h σ M .refl)
theorem Zbu {k w : Kd} {sp : Int} {wh : Nat} (hd : 1 ≤ d) (hk : k.n ≤ 9) (hw : w.n ≤ 9) (hm : Zl k w.b w.v w.n = true) (q : Q .none σ) : Cal scr cells true d 205 [k.pv, w.pv, .int sp, .tag wh] σ Q X := Zqe hd hk hw (by rw [if_pos hm]; exact q)
theorem Zca {k w : Kd} {sp : Int} {wh : Nat} (hd : 1 ≤ d) (hk : k.n ≤ 9) (hw : w.n ≤ 9) (hm : Zl k w.b w.v w.n = false) (q : X sp σ) : Cal scr cells true d 205 [k.pv, w.pv, .int sp, .tag wh] σ Q X := Zqe hd hk hw (by rw [hm]; exact q)
theorem Zacv (s : Sr) : KKin scr cells s.pv (fun e => ((kSr e s).1, (kSr e s).2, [])) 4 2 := by
  cases s with
  | nm sp t => exact fun D e σ w ds cs ad cd Q X hD M EO GE hl had hcd h => Znv D e σ w ds cs ad cd Q X (by lia) M EO GE (by lia) (by lia) (by lia) h
  | rg sp sp1 l =>
    intro D e σ w ds cs ad cd Q X hD M EO GE hl had hcd h
    obtain ⟨d, rfl⟩ : ∃ d, D = d + 4 := ⟨D - 4, by lia⟩
    refine Zd rfl rfl ?_
    iterate 13 walk_at "s"
    refine Zn (by walk_at "e") rfl <| Zt <| Zv M (by walk_at "e") rfl rfl (by walk_at "es") <| Zd rfl rfl <| Zn (by walk_at "e") rfl ?_
    refine Zq <| Zdt rfl <| Zh <| Zv M (by walk_at "e") rfl rfl (by walk_at "es") <| Zgf (.nu sp1 1) _ e σ w ds cs ad cd _ _ (by lia) M EO GE (by lia) (by lia) (by lia) fun σ₁ M₁ S₁ => Zk <| Zbv (by walk_at "es") <| Zbu (k := kKNOWN) (w := kKNOWN) (by lia) (by decide) (by decide) rfl <| Zy ?_
    have M₁ : Mk σ₁ w predsT ds cs ad cd := M₁
    refine Zq <| Zdt rfl <| Zh <| Zv M₁ (by walk_at "e") rfl rfl (by walk_at "es") <| Zgf l _ e σ₁ w ds cs ad cd _ _ (by lia) M₁ EO GE (by lia) (by lia) (by lia) fun σ₂ M₂ S₂ => ?_
    have S := S₁.trans S₂
    rcases hp : kLf e l with ⟨r, as⟩
    have hg := fun k => Zjt (e := e) (l := l) (k := k) GE
    rw [hp] at hg
    simp only [hp] at M₂ ⊢
    cases r with
    | error i => exact (h.of (r' := (.error i, as, [])) (by simp only [kSr, hp])) σ₂ M₂ S
    | ok k =>
      have h := h.of (r' := (if Zl k .i false 0 then .ok kSET else .error sp, as, [])) (by simp only [kSr, hp])
      cases hm : Zl k .i false 0 with
      | true =>
        rw [hm] at h
        refine Zk <| Zbv (by walk_at "es") <| Zbu (k := k) (w := kKNOWN) (by lia) (hg k rfl).le (by decide) hm <| Zy ?_
        exact Zg (by walk_at "e") (h σ₂ M₂ S)
      | false =>
        rw [hm] at h
        exact Zk <| Zbv (by walk_at "es") <| Zca (k := k) (w := kKNOWN) (by lia) (hg k rfl).le (by decide) hm (h σ₂ M₂ S)
end
noncomputable def Nd.isBin : Nd → Bool
  | .bin .. => true
  | _ => false
noncomputable def Nd.base : Nd → Nd
  | .bin _ _ a _ => a.base
  | x => x
noncomputable def Nd.spine : Nd → List Nd
  | .bin sp s a b => .bin sp s a b :: a.spine
  | _ => []
noncomputable def kdUp : Nd → En → Kd → R2
  | .bin sp s a b, e, k => match kdUp a e k with
    | (.error i, as, cl) => (.error i, as, cl)
    | (.ok ka, as, cl) => match kLf e b with
      | (.error i, as2) => (.error i, as ++ as2, cl)
      | (.ok kb, as2) => (Zco sp (joinP s ka kb), as ++ as2, cl)
  | _, _, k => (.ok k, [], [])
noncomputable def Zez (nd : Nd) (e : En) : R2 := match kd nd.base e with
  | (.error i, as, cl) => (.error i, as, cl)
  | (.ok k, as, cl) => ((kdUp nd e k).1, as ++ (kdUp nd e k).2.1, cl ++ (kdUp nd e k).2.2)
theorem kd_via : ∀ (nd : Nd) (e : En), kd nd e = Zez nd e
  | .lf l, e => by
    unfold Zez
    simp only [Nd.base, kdUp, List.append_nil]
    rcases kd (.lf l) e with ⟨x | x, as, cl⟩ <;> rfl
  | .idx sp t i, e => by
    unfold Zez
    simp only [Nd.base, kdUp, List.append_nil]
    rcases kd (.idx sp t i) e with ⟨x | x, as, cl⟩ <;> rfl
  | .gen sp w rows wh body, e => by
    unfold Zez
    simp only [Nd.base, kdUp, List.append_nil]
    rcases kd (.gen sp w rows wh body) e with ⟨x | x, as, cl⟩ <;> rfl
  | .bin sp s a b, e => by
    have ih := kd_via a e
    unfold Zez at ih ⊢
    simp only [kd, Nd.base, kdUp, ih]
    rcases hp : kd a.base e with ⟨x | k, as, cl⟩
    · rfl
    · simp only
      rcases hq : kdUp a e k with ⟨y | ka, as1, cl1⟩
      · rfl
      · simp only
        rcases hr : kLf e b with ⟨z | kb, as2⟩ <;> simp only [List.append_assoc]
theorem base_ok : ∀ {nd : Nd}, NdOk nd → NdOk nd.base
  | .bin _ _ a _, h => base_ok (nd := a) h
  | .lf _, h => h
  | .idx _ _ _, h => h
  | .gen _ _ _ _ _, h => h
theorem base_sz : ∀ {nd : Nd}, nd.base.sz + 2 * nd.spine.length ≤ nd.sz
  | .bin _ _ a _ => by have := @base_sz a; show a.base.sz + 2 * (a.spine.length + 1) ≤ a.sz + 2; lia
  | .lf _ => Nat.le_refl _
  | .idx _ _ _ => Nat.le_refl _
  | .gen _ _ _ _ _ => Nat.le_refl _
theorem up_len : ∀ {nd : Nd} {e : En} {k : Kd}, (kdUp nd e k).2.1.length ≤ nd.spine.length ∧ (kdUp nd e k).2.2 = []
  | .bin sp s a b, e, k => by
    have ih := @up_len a e k
    have h2 := @Zdy e b
    rcases hp : kdUp a e k with ⟨x | ka, as, cl⟩
    · rw [hp] at ih; simp only [kdUp, hp, Nd.spine, List.length_cons]; exact ⟨by have := ih.1; simp only at this; lia, ih.2⟩
    · rw [hp] at ih
      simp only [kdUp, hp]
      rcases hq : kLf e b with ⟨y | kb, as2⟩ <;> rw [hq] at h2 <;> simp only [Nd.spine, List.length_cons, List.length_append] at ih h2 ⊢ <;> exact ⟨by lia, ih.2⟩
  | .lf _, _, _ => ⟨Nat.zero_le _, rfl⟩
  | .idx _ _ _, _, _ => ⟨Nat.zero_le _, rfl⟩
  | .gen _ _ _ _ _, _, _ => ⟨Nat.zero_le _, rfl⟩
theorem Zub {k o : Kd} : joinP .lt k o = match Zdu k o with | some r => if r.n == 0 then some ⟨.b, r.v, 0⟩ else none | none => none := by
  have e1 : (k.n == o.n) = true → (o.n == 0) = (k.n == 0) := fun h => by rw [beq_iff_eq.mp h]
  have e2 : (k.n == o.n) = false → (k.n == 0 && o.n == 0) = false := fun h => by
    have h := beq_eq_false_iff_ne.mp h
    rw [Bool.and_eq_false_iff, beq_eq_false_iff_ne, beq_eq_false_iff_ne]; lia
  rw [joinP, Zdu, bne, bne]
  generalize ((k.b == .b && o.b == .i)) = A
  generalize ((k.b == .i && o.b == .b)) = B
  cases hr : (k.n == o.n) with
  | false => rw [e2 hr]; rfl
  | true =>
    rw [e1 hr]
    cases hE : (k.b == o.b) <;> cases A <;> cases B <;> cases hz : (k.n == 0) <;> simp [hz]
theorem Zmx {s : Sg} {k w r : Kd} (h : joinP s k w = some r) : Gd r := by
  cases s <;> simp only [joinP] at h <;> split at h <;> first | (cases h; exact ⟨Nat.zero_le _, fun z => (by contradiction), fun z => by contradiction⟩) | contradiction
section
variable {scr : Addr} {cells : List PV} {σ : Store} {w : MW} {pt : Ct} {ds : List Addr} {cs : List Ct} {ad cd : Ct} {Q : QV} {X : XV'} {d : Nat}
theorem Zuo {k w : Kd} {sp : Int} {wh : Nat} (hd : 1 ≤ d) (hk : k.n ≤ 9) (hw : w.n ≤ 9) (h : ∀ σ', Same [] σ σ' → Zys Q X sp σ' (Zdu k w)) : Cal scr cells true d 212 [k.pv, w.pv, .int sp, .tag wh] σ Q X := by
  obtain ⟨e, rfl⟩ : ∃ e, d = e + 1 := ⟨d - 1, by lia⟩
  exact Ztj hk hw h
theorem Zok {k o : Kd} {sp : Int} (hd : 2 ≤ d) (hk : k.n ≤ 9) (ho : o.n ≤ 9) (h : ∀ σ', Same [] σ σ' → Zew Q X (Zco sp (joinP .lt k o)) σ') : Cal scr cells true d 322 [.obj w.mo, .tag 40, k.pv, o.pv, .int sp] σ Q X := by
  obtain ⟨e, rfl⟩ : ∃ e, d = e + 2 := ⟨d - 2, by lia⟩
  refine Zd rfl rfl ?_
  walk_at "s"
  walk_at "s"
  refine Zu <| Zc (by walk_at "es") rfl <| Zuo (by lia) hk ho fun σ' S' => ?_
  have h := h σ' S'
  rw [Zub] at h
  cases hc : Zdu k o with
  | none =>
    rw [hc] at h
    exact h
  | some r =>
    rw [hc] at h
    refine Zx ?_
    cases hr : (r.n == 0) with
    | true =>
      simp only [hr, if_true] at h
      refine Zr (by walk_at "e") (by rw [Zbk, hr]; rfl) <| Zf ?_
      exact Zg (by walk_at "e") h
    | false =>
      simp only [hr, Bool.false_eq_true, if_false] at h
      refine Zn (by walk_at "e") (by rw [Zbk, hr]; rfl) ?_
      exact Zcg rfl (by walk_at "t") (by walk_at "e") h
theorem Zrc {s : Sg} {k o : Kd} {sp : Int} (hd : 3 ≤ d) (M : Mk σ w pt ds cs ad cd) (hk : k.n ≤ 9) (ho : o.n ≤ 9) (h : ∀ σ', Same [] σ σ' → Zew Q X (Zco sp (joinP s k o)) σ') : Cal scr cells true d 308 [.obj w.mo, .tag s.tag, k.pv, o.pv, .int sp] σ Q X := by
  obtain ⟨e, rfl⟩ : ∃ e, d = e + 3 := ⟨d - 3, by lia⟩
  refine Zd rfl rfl <| Zaj (.or2 (by walk_at "e") fun _ => by walk_at "e") ?_
  cases s with
  | plus =>
    have h := h σ .refl
    rw [joinP] at h
    refine Zn (by walk_at "e") rfl <| Zq <| Zc (by walk_at "es") rfl ?_
    cases hm : Zl k .i true 0 with
    | false =>
      rw [hm] at h
      exact Zca (w := ⟨.i, true, 0⟩) (by lia) hk (by decide) hm h
    | true =>
      refine Zbu (w := ⟨.i, true, 0⟩) (by lia) hk (by decide) hm <| Zy <| Zq <| Zc (by walk_at "es") rfl ?_
      rw [hm] at h
      cases hm2 : Zl o .i true 0 with
      | false =>
        rw [hm2] at h
        exact Zca (w := ⟨.i, true, 0⟩) (by lia) ho (by decide) hm2 h
      | true =>
        rw [hm2] at h
        refine Zbu (w := ⟨.i, true, 0⟩) (by lia) ho (by decide) hm2 <| Zy ?_
        exact Zg (by walk_at "e") h
  | conj =>
    have h := h σ .refl
    rw [joinP] at h
    iterate 4 walk_at "s"
    refine Zn (by walk_at "e") rfl <| Zq <| Zc (by walk_at "es") rfl ?_
    cases hm : Zl k .b true 0 with
    | false =>
      rw [hm] at h
      exact Zca (w := ⟨.b, true, 0⟩) (by lia) hk (by decide) hm h
    | true =>
      refine Zbu (w := ⟨.b, true, 0⟩) (by lia) hk (by decide) hm <| Zy <| Zq <| Zc (by walk_at "es") rfl ?_
      rw [hm] at h
      cases hm2 : Zl o .b true 0 with
      | false =>
        rw [hm2] at h
        exact Zca (w := ⟨.b, true, 0⟩) (by lia) ho (by decide) hm2 h
      | true =>
        rw [hm2] at h
        refine Zbu (w := ⟨.b, true, 0⟩) (by lia) ho (by decide) hm2 <| Zy ?_
        exact Zg (by walk_at "e") h
  | lt =>
    iterate 12 walk_at "s"
    exact Zt <| Zv M (by walk_at "e") rfl rfl (by walk_at "es") <| Zok (by lia) hk ho h
end
theorem Zgn {sp : Int} : ∀ {rows : List (List Nat × Sr)} {e e' : En}, GdE e → (Zac sp e rows).1 = .ok e' → GdE e'
  | [], e, e', g, h => by cases h; exact g
  | (ns, s) :: r, e, e', g, h => by
    rw [Zdn] at h
    have hg := fun k => Zve (e := e) (s := s) (k := k) g
    rcases hp : kSr e s with ⟨x | k, as⟩
    · simp only [Zdc, hp] at h; cases h
    · have gk := hg k (by rw [hp])
      simp only [Zdc, hp] at h
      split at h
      · rename_i heq
        split at heq
        · cases heq; cases h
        · split at heq
          · cases heq; cases h
          · cases heq
      · rename_i heq
        split at heq
        · cases heq
        · rename_i hz
          split at heq
          · cases heq
          · cases heq
            refine Zgn (Zyk g (Zyf gk ?_)) h
            simp only [bne, Bool.and_eq_true, Bool.not_eq_true', not_and, Bool.not_eq_false] at hz
            by_cases z : k = kSET
            · exact .inl z
            · exact .inr (by have := hz (beq_eq_false_iff_ne.mpr z); simpa using this)
theorem Zabr {sp : Int} {w : Nat} {k r : Kd} (h : (Zaw false sp w k).1 = .ok r) : Gd r := by
  unfold Zaw at h
  split at h
  · contradiction
  · simp only [Bool.false_eq_true, if_false] at h
    split at h
    · contradiction
    · rename_i b r' hb
      simp only at h
      split at h
      · cases h
        have : r' = .i ∨ r' = .b := by
          unfold takes at hb
          split at hb <;> cases hb <;> simp
        refine ⟨Nat.zero_le _, fun z => ?_, fun z => ?_⟩ <;> rcases this with rfl | rfl <;> contradiction
      · contradiction
theorem kd_gd : ∀ {nd : Nd} {e : En} {k : Kd}, GdE e → (kd nd e).1 = .ok k → Gd k
  | .lf l, e, k, g, h => Zjt g h
  | .bin sp s a b, e, k, g, h => by
    rcases hp : kd a e with ⟨x | ka, as, cl⟩ <;> simp only [kd, hp] at h
    · contradiction
    · rcases hq : kLf e b with ⟨y | kb, as2⟩ <;> simp only [hq] at h
      · contradiction
      · cases hj : joinP s ka kb with
        | none => rw [hj] at h; contradiction
        | some r => rw [hj] at h; cases h; exact Zmx hj
  | .idx sp t i, e, k, g, h => by
    have hg := fun k => Zjs (e := e) (sp := sp + 1) (t := t) (k := k) g
    rcases hp : kNm e (sp + 1) t with ⟨x | ka, as⟩ <;> simp only [kd, hp] at h
    · contradiction
    · have gk := hg ka (by rw [hp])
      split at h
      · contradiction
      · rename_i hn
        have hn1 : ka.n = 1 := by simpa [bne] using hn
        rcases hq : kd i e with ⟨y | ki, as2, cl⟩ <;> simp only [hq] at h
        · contradiction
        · split at h
          · cases h
            refine ⟨Nat.zero_le _, fun z => ?_, fun z => ?_⟩
            · have := (gk.2.1 z).2; lia
            · have := (gk.2.2 z).2; lia
          · contradiction
  | .gen sp w rows wh body, e, k, g, h => by
    simp only [kd, Zhi] at h
    split at h
    · contradiction
    · rcases hp : Zac sp e rows with ⟨x | e', as⟩ <;> simp only [hp] at h
      · contradiction
      · rcases hq : kWh e' wh with ⟨y | u, as2⟩ <;> simp only [kT3, hq] at h
        · contradiction
        · rcases hb : kd body e' with ⟨z | kb, as3, cl⟩ <;> simp only [kT4, hb] at h
          · contradiction
          · exact Zabr h
section
variable {scr : Addr} {cells : List PV} {σ : Store} {w : MW} {pt : Ct} {ds : List Addr} {cs : List Ct} {ad cd : Ct} {Q : QV} {X : XV'} {d : Nat}
theorem Zacy {n a b : Nat} (h : (n == a) = false) (k : (n == b) = false) : inTags n [.tag a, .tag b] = some false := by
  rw [in2 k, h]
theorem Zpq {sp : Int} {t : Nat} {i : Nd} {need : Nat} (ok : NdOk i) (hi : KKin scr cells i.pv (kd i) need i.sz) : KKin scr cells (Nd.idx sp t i).pv (kd (.idx sp t i)) (need + 5) (i.sz + 2) := by
  intro D e σ w ds cs ad cd Q X hD M EO GE hl had hcd h
  obtain ⟨d, rfl⟩ : ∃ d, D = d + 5 := ⟨D - 5, by lia⟩
  refine Zd rfl rfl ?_
  iterate 9 walk_at "s"
  refine Zn (by walk_at "e") rfl <| Zt <| Zfg M (by walk_at "e") rfl rfl <| Zh <| Zv M (by walk_at "e") rfl rfl (by walk_at "es") <| Znv _ e σ w ds cs ad cd _ _ (by lia) M EO GE (by lia) (by lia) (by lia) fun σ₁ M₁ S₁ => ?_
  have hn := @Zfw e (sp + 1) t
  have hg := fun k => Zjs (e := e) (sp := sp + 1) (t := t) (k := k) GE
  rcases hp : kNm e (sp + 1) t with ⟨x | k, as⟩ <;> rw [hp] at hn hg <;> simp only [hp] at M₁ ⊢
  · exact (h.of (r' := (.error x, as, [])) (by simp only [kd, hp])) σ₁ M₁ S₁
  · have gk := hg k rfl
    have gl := gk.le
    have sm : Zaq (([i.pv].length : Nat) : Int) = true := by simp [Zaq]
    refine Zk <| Zbv (by walk_at "es") <| Zd rfl rfl ?_
    cases h1 : (k.n == 1) with
    | false =>
      have h := h.of (r' := (.error sp, as, [])) (by simp only [kd, hp, bne, h1]; rfl)
      refine Zn (.or2 (by walk_at "e") fun _ => by walk_at "e") (b := []) (by rw [Zch _ [i.pv].length, show (k.n == [i.pv].length) = false from h1]; exact Bool.or_true _) ?_
      exact Zcg rfl (by walk_at "t") (by walk_at "e") (h σ₁ M₁ S₁)
    | true =>
      have h0 : (k.n == 0) = false := by
        have := beq_iff_eq.mp h1
        rw [this]; rfl
      have hkd : kd (.idx sp t i) e = (match kd i e with
        | (.error j, as2, cl) => (.error j, as ++ as2, cl)
        | (.ok ki, as2, cl) => (if Zl ki .i true 0 then .ok ⟨k.b, k.v || ki.v, 0⟩ else .error i.sp, as ++ as2, cl)) := by simp only [kd, hp, bne, h1]; rfl
      have pl := @putN_len as ad
      simp only at hn
      refine Zr (.or2 (by walk_at "e") fun _ => by walk_at "e") (by rw [Zbk, h0, Zch _ [i.pv].length, show (k.n == [i.pv].length) = true from h1]; rfl) <| Zf ?_
      walk_at "s"
      refine Zhy rfl (by walk_at "e") (by walk_at "l") <| Zbe (lo₁ := (113, i.pv) :: (115, .bool k.v) :: Zaz [103, 89, 114, 67] [.obj w.mo, k.pv, .tup [i.pv], .int sp]) rfl ?_
      refine Zu (r := b336_1.drop 1) <| Zv M₁ (by walk_at "e") rfl rfl (by walk_at "es") <| hi _ e σ₁ w ds cs _ _ _ _ (by lia) M₁ EO GE (by lia) (by lia) (by show cd.length + _ ≤ _; lia) fun σ₂ M₂ S₂ => ?_
      have hg2 := fun k => kd_gd (nd := i) (e := e) (k := k) GE
      rcases hq : kd i e with ⟨y | ki, as2, cl⟩ <;> rw [hq] at hg2 hkd <;> simp only [hq] at M₂ ⊢
      · exact ((h.of hkd).app (as := as) (xs := []) S₁) σ₂ M₂ S₂
      · have gi := hg2 ki rfl
        have h := (h.of hkd).app (as := as) (xs := []) S₁
        refine Zx ?_
        show Wp scr cells true _ (_ :: _) _ _ _ _
        refine Zq <| Zc (by walk_at "es") rfl ?_
        cases hm : Zl ki .i true 0 with
        | false =>
          rw [hm] at h
          exact Zca (k := ki) (w := ⟨.i, true, 0⟩) (by lia) gi.le (by decide) hm (h σ₂ M₂ S₂)
        | true =>
          rw [hm] at h
          have hkb : (k.b.tag == 2) = false ∧ (k.b.tag == 3) = false := by
            have hn1 := beq_iff_eq.mp h1
            cases hb : k.b
            · exact ⟨rfl, rfl⟩
            · exact ⟨rfl, rfl⟩
            · have := (gk.2.1 hb).2; lia
            · have := (gk.2.2 hb).2; lia
          refine Zbu (k := ki) (w := ⟨.i, true, 0⟩) (by lia) gi.le (by decide) hm <| Zy ?_
          refine Zaj (.or2 (by walk_at "e") fun _ => by walk_at "e") <| Zak ?_
          show Wp scr cells true _ (_ :: _) _ _ _ _
          refine Zr (.and2 (by walk_at "e") fun _ => .and1 (.cmp (by walk_at "e") (by walk_at "e") (.in_ (.tup rfl (by walk_at "p") (Zacy hkb.1 hkb.2))))) (Bool.and_false _) <| Zf ?_
          exact Zg (by walk_at "e") (h σ₂ M₂ S₂)
end
section
variable {scr : Addr} {cells : List PV} {σ : Store} {w : MW} {pt : Ct} {ds : List Addr} {cs : List Ct} {ad cd : Ct} {Q : QV} {X : XV'} {d : Nat}
theorem Mk.other (M : Mk σ w pt ds cs ad cd) {wt : Addr} {l l' : List PV} (h : σ wt = some (.list l)) (ne : wt ≠ w.sl) : Mk (σ.upd wt (.list l')) w pt ds cs ad cd := by
  have S : Same [wt] σ (σ.upd wt (.list l')) := Same.upd (by exact .head _)
  have k : ∀ {b p}, σ b = some p → b ≠ wt → b ∉ [wt] := fun {b p} e n z => n (by simpa using z)
  exact ⟨S.at M.imk (k M.imk (Zp M.imk h (by simp))), S.at M.imd (k M.imd (Zp M.imd h (by simp))), S.at M.inm (k M.inm (Zp M.inm h (by simp))), S.at M.ind (k M.ind (Zp M.ind h (by simp))), S.at M.isl (k M.isl ne.symm), S.at M.ias (k M.ias (Zp M.ias h (by simp))), S.at M.icl (k M.icl (Zp M.icl h (by simp))), S.at M.ipr (k M.ipr (Zp M.ipr h (by simp))),
    M.dcs.same S (fun a ha => by obtain ⟨c, e⟩ := M.dcs.mem ha; exact k e (Zp e h (by simp))), M.ac, M.ap, M.cp, M.da, M.dc, M.dp⟩
theorem Zqh {c : Ex} {wt : Addr} (hc : ∀ lo σ (nd : Nd), lo.get 92 = some nd.pv → Ev (GP scr cells) true σ lo c (.bool nd.isBin)) (nsl : wt ≠ w.sl) {sf : PV} :
    ∀ (nd : Nd) (acc : List Nd) (lo : Loc) (σ : Store) (Q : QS) (X : XS), Mk σ w pt ds cs ad cd → lo.get 103 = some sf → lo.get 92 = some nd.pv → lo.get 120 = some (.obj wt) → σ wt = some (.list (acc.map Nd.pv)) → acc.length + nd.spine.length ≤ 1000 →
    (∀ lo' σ', lo'.get 103 = some sf → lo'.get 120 = some (.obj wt) → lo'.get 92 = some nd.base.pv → σ' wt = some (.list ((acc ++ nd.spine).map Nd.pv)) → Mk σ' w pt ds cs ad cd → Same [wt] σ σ' → Q .next lo' σ') →
    Zbt (wpE (GP scr cells) (run (GP scr cells) TP d) true d c) (Wp scr cells true d b301_1) (nd.spine.length + 1) lo σ Q X
  | .bin sp s a b, acc, lo, σ, Q, X, M, h103, h92, h120, hw, hl, h => by
    have hl : acc.length + (a.spine.length + 1) ≤ 1000 := hl
    refine Zyn (hc lo σ _ h92) rfl <| Zq <| Zhn (by walk_at "e") hw (by walk_at "e") (by rw [List.length_map]; lia) <| Zy ?_
    refine Zaj (.sub (.var h92) .int (.tup rfl)) <| Zak ?_
    exact Zqh hc nsl a (acc ++ [.bin sp s a b]) _ _ Q X (M.other hw nsl) (Zm rfl h103) rfl (Zm rfl h120) (by rw [Zb, List.map_append]; rfl) (by rw [List.length_append, List.length_singleton]; lia) fun lo' σ' k103 k120 k92 kw M' S' => h lo' σ' k103 k120 k92 (by rw [kw, List.append_assoc]; rfl) M' ((Same.upd (by exact .head _)).trans S')
  | .lf l, acc, lo, σ, Q, X, M, h103, h92, h120, hw, hl, h => Zjo (hc lo σ _ h92) rfl (h lo σ h103 h120 h92 (by rw [hw]; simp only [Nd.spine, List.append_nil]) M .refl)
  | .idx _ _ _, acc, lo, σ, Q, X, M, h103, h92, h120, hw, hl, h => Zjo (hc lo σ _ h92) rfl (h lo σ h103 h120 h92 (by rw [hw]; simp only [Nd.spine, List.append_nil]) M .refl)
  | .gen _ _ _ _ _, acc, lo, σ, Q, X, M, h103, h92, h120, hw, hl, h => Zjo (hc lo σ _ h92) rfl (h lo σ h103 h120 h92 (by rw [hw]; simp only [Nd.spine, List.append_nil]) M .refl)
theorem Zrx {s : Sg} {k o : Kd} {sp : Int} (hd : 3 ≤ d) (M : Mk σ w pt ds cs ad cd) (hk : k.n ≤ 9) (ho : o.n ≤ 9) (h : ∀ σ', Same [] σ σ' → Zew Q X (Zco sp (joinP s k o)) σ') : Cal scr cells true d 308 [.obj w.mo, .tag s.tag, k.pv, o.pv, .int sp] σ Q X := Zrc hd M hk ho h
theorem up_gd : ∀ {nd : Nd} {e : En} {k k' : Kd}, Gd k → (kdUp nd e k).1 = .ok k' → Gd k'
  | .bin sp s a b, e, k, k', g, h => by
    rcases hp : kdUp a e k with ⟨x | ka, as, cl⟩ <;> simp only [kdUp, hp] at h
    · contradiction
    · rcases hq : kLf e b with ⟨y | kb, as2⟩ <;> simp only [hq] at h
      · contradiction
      · cases hj : joinP s ka kb with
        | none => rw [hj] at h; contradiction
        | some r => rw [hj] at h; cases h; exact Zmx hj
  | .lf _, _, _, _, g, h => by cases h; exact g
  | .idx _ _ _, _, _, _, g, h => by cases h; exact g
  | .gen _ _ _ _ _, _, _, _, g, h => by cases h; exact g
noncomputable def UpK (w : MW) (ds : List Addr) (cs : List Ct) (ad cd : Ct) (wt : Addr) (pre : List Nd) (X : XS) (K : Loc → Store → Prop) (σ : Store) (r : R2) : Prop := match r.1 with
  | .error i => ∀ lo' σ', Mk σ' w predsT ds cs (putN r.2.1 ad) cd → Same [w.as, w.cl, w.sl, wt] σ σ' → X i lo' σ'
  | .ok k' => ∀ lo' σ', lo'.get 103 = some (.obj w.mo) → lo'.get 120 = some (.obj wt) → lo'.get 81 = some k'.pv → σ' wt = some (.list (pre.map Nd.pv)) → Mk σ' w predsT ds cs (putN r.2.1 ad) cd → Same [w.as, w.cl, w.sl, wt] σ σ' → K lo' σ'
theorem UpK.of {wt : Addr} {pre : List Nd} {X : XS} {K : Loc → Store → Prop} {r r' : R2} (h : UpK w ds cs ad cd wt pre X K σ r) (e : r = r') : UpK w ds cs ad cd wt pre X K σ r' := e ▸ h
theorem Zqg {c : Ex} {wt : Addr} {e : En} (GE : GdE e) (EO : EnOk e cs) (hdl : ds.length + 1 ≤ 1000) (hcdl : cd.length + 1 ≤ 1000) (nsl : wt ≠ w.sl) (nal : wt ≠ w.as) (ncl : wt ≠ w.cl)
    (hc : ∀ lo σ (bs : List Nd), lo.get 120 = some (.obj wt) → σ wt = some (.list (bs.map Nd.pv)) → bs.length ≤ 1000 → Ev (GP scr cells) true σ lo c (.bool (decide (0 < bs.length)))) :
    ∀ (nd : Nd) (pre : List Nd) (m : Nat) (lo : Loc) (σ : Store) (k : Kd) (ad : Ct) (Q : QS) (X : XS), Mk σ w predsT ds cs ad cd → lo.get 103 = some (.obj w.mo) → lo.get 120 = some (.obj wt) → lo.get 81 = some k.pv → σ wt = some (.list ((pre ++ nd.spine).map Nd.pv)) → Gd k → pre.length + nd.spine.length ≤ 1000 → ad.length + nd.spine.length ≤ 1000 →
    UpK w ds cs ad cd wt pre X (fun lo' σ' => Zbt (wpE (GP scr cells) (run (GP scr cells) TP (d + 4)) true (d + 4) c) (Wp scr cells true (d + 4) b301_2) m lo' σ' Q X) σ (kdUp nd e k) →
    Zbt (wpE (GP scr cells) (run (GP scr cells) TP (d + 4)) true (d + 4) c) (Wp scr cells true (d + 4) b301_2) (m + nd.spine.length) lo σ Q X
  | .bin sp s a b, pre, m, lo, σ, k, ad, Q, X, M, h103, h120, h81, hw, gk, hl, had, h => by
    have hl : pre.length + (a.spine.length + 1) ≤ 1000 := hl
    have had : ad.length + (a.spine.length + 1) ≤ 1000 := had
    have ul := @up_len a e k
    rw [show m + (Nd.bin sp s a b).spine.length = (m + 1) + a.spine.length from (Nat.add_right_comm m a.spine.length 1)]
    refine Zqg GE EO hdl hcdl nsl nal ncl hc a (pre ++ [.bin sp s a b]) (m + 1) lo σ k ad Q X M h103 h120 h81 (by rw [hw, List.append_assoc]; rfl) gk (by rw [List.length_append, List.length_singleton]; lia) (by lia) ?_
    have hg := fun k' => up_gd (nd := a) (e := e) (k' := k') gk
    rcases hp : kdUp a e k with ⟨x | ka, as, cl⟩ <;> rw [hp] at hg ul
    · exact h.of (r' := (.error x, as, cl)) (by simp only [kdUp, hp])
    · intro lo' σ₁ k103 k120 k81 kw M₁ S₁
      have gka := hg ka rfl
      have M₁ : Mk σ₁ w predsT ds cs (putN as ad) cd := M₁
      simp only at ul
      have pl := @putN_len as ad
      have le : (pre ++ [Nd.bin sp s a b]).length = pre.length + 1 := by rw [List.length_append]; rfl
      refine Zyn (hc lo' σ₁ _ k120 kw (by lia)) (decide_eq_true (by lia)) ?_
      have M₂ := M₁.other (l' := pre.map Nd.pv) kw nsl
      have S2 : Same [w.as, w.cl, w.sl, wt] σ (σ₁.upd wt (.list (pre.map Nd.pv))) := S₁.trans (Same.upd (by simp))
      refine Zu (r := b301_2.drop 1) <| Zvn (by walk_at "e") kw (by rw [List.length_map]; lia) (y := Nd.pv (.bin sp s a b)) (by rw [List.map_append]; exact List.getLast?_concat) <| Zx ?_
      rw [show (List.map Nd.pv (pre ++ [Nd.bin sp s a b])).dropLast = pre.map Nd.pv by rw [List.map_append]; exact List.dropLast_concat]
      refine Zu (r := []) <| Zfg M₂ (by walk_at "e") rfl rfl <| Zj (.sub (.var rfl) .int (.tup rfl)) <| Zj (by walk_at "e") <| Zh <| Zv M₂ (by walk_at "e") rfl rfl (.cons (.sub (.var rfl) .int (.tup rfl)) .nil) <| Zgf b _ e _ w ds cs _ cd _ _ (by lia) M₂ EO GE (by lia) (by lia) (by lia) fun σ₃ M₃ S₃ => ?_
      have hgb := fun k => Zjt (e := e) (l := b) (k := k) GE
      have S3 := S2.trans (S₃.mono (by simp))
      have kw3 : σ₃ wt = some (.list (pre.map Nd.pv)) := S₃.at Zb (by simp only [List.mem_cons, List.not_mem_nil, or_false, not_or]; exact ⟨nal, ncl, nsl⟩)
      rcases hq : kLf e b with ⟨y | kb, as2⟩ <;> rw [hq] at hgb <;> simp only [hq] at M₃ ⊢
      · have h := h.of (r' := (.error y, as ++ as2, cl)) (by simp only [kdUp, hp, hq])
        exact h _ σ₃ (by rw [Zs]; exact M₃) S3
      · have gkb := hgb kb rfl
        refine Zk <| Zbv (vs := [.int sp]) (.cons (.sub (.var rfl) .int (.tup rfl)) .nil) <| Zrx (s := s) (by lia) M₃ gka.le gkb.le fun σ₄ S₄ => ?_
        have M₄ := M₃.keep S₄
        have S4 := S3.trans (S₄.mono (by simp))
        have h := h.of (r' := (Zco sp (joinP s ka kb), as ++ as2, cl)) (by simp only [kdUp, hp, hq])
        cases hj : joinP s ka kb with
        | none =>
          rw [hj] at h
          exact h _ σ₄ (by rw [Zs]; exact M₄) S4
        | some r =>
          rw [hj] at h
          refine Zx <| Zak ?_
          exact h _ σ₄ (Zm rfl (Zm rfl k103)) (Zm rfl (Zm rfl k120)) rfl (S₄.at kw3 (by simp)) (by rw [Zs]; exact M₄) S4
  | .lf l, pre, m, lo, σ, k, ad, Q, X, M, h103, h120, h81, hw, gk, hl, had, h => h lo σ h103 h120 h81 (by rw [hw]; simp only [Nd.spine, List.append_nil]) M .refl
  | .idx _ _ _, pre, m, lo, σ, k, ad, Q, X, M, h103, h120, h81, hw, gk, hl, had, h => h lo σ h103 h120 h81 (by rw [hw]; simp only [Nd.spine, List.append_nil]) M .refl
  | .gen _ _ _ _ _, pre, m, lo, σ, k, ad, Q, X, M, h103, h120, h81, hw, gk, hl, had, h => h lo σ h103 h120 h81 (by rw [hw]; simp only [Nd.spine, List.append_nil]) M .refl
end
theorem Ztr {G : Pg} {σ : Store} {nd : Nd} : ∃ t, Item G σ nd.pv (.int 0) (.tag t) ∧ eqP (.tag t) (.tag 6) = nd.isBin ∧ plainP 8 (.tag t) = true := by
  cases nd with
  | lf l => cases l <;> exact ⟨_, .tup rfl, rfl, rfl⟩
  | bin sp s a b => exact ⟨_, .tup rfl, rfl, rfl⟩
  | idx sp t i => exact ⟨_, .tup rfl, rfl, rfl⟩
  | gen sp w rows wh body => exact ⟨_, .tup rfl, rfl, rfl⟩
theorem Zuj {G : Pg} {st : Bool} {σ : Store} {lo : Loc} {p1 p2 p3 p4 p5 : Pos} {nd : Nd} (h : lo.get 92 = some nd.pv) : Ev G st σ lo (.cmp (.sub (.var 92 p1) (.int 0 p2) p3) .Eq (.str 6 p4) p5) (.bool nd.isBin) := by
  obtain ⟨t, h1, h2, h3⟩ := @Ztr G σ nd
  exact h2 ▸ .cmp (.sub (.var h) .int h1) .str (.eq (.v h3 rfl))
theorem Zpz {G : Pg} {st : Bool} {σ : Store} {lo : Loc} {p1 p2 p3 p4 p5 : Pos} {wt : Addr} {bs : List Nd} (h : lo.get 120 = some (.obj wt)) (hw : σ wt = some (.list (bs.map Nd.pv))) (hl : bs.length ≤ 1000) : Ev G st σ lo (.cmp (.bcall 187 [.var 120 p1] p2 p3) .Gt (.int 0 p4) p5) (.bool (decide (0 < bs.length))) := by
  have e9 : decide ((0 : Int) < (((bs.map Nd.pv).length : Nat) : Int)) = decide (0 < bs.length) := by rw [List.length_map, decide_eq_decide]; lia
  exact e9 ▸ .cmp (.len (.var h) rfl (.list _ rfl hw) (by rw [List.length_map]; exact hl)) .int .gt
section
variable {scr : Addr} {cells : List PV} {σ : Store} {w : MW} {pt : Ct} {ds : List Addr} {cs : List Ct} {ad cd : Ct} {Q : QV} {X : XV'} {d : Nat}
theorem Same.drop3 {A : List Addr} {a : Addr} {σ σ' : Store} {o : PO} (ha : σ a = none) (S : Same (A ++ [a]) (σ.upd a o) σ') : Same A σ σ' := Same.drop (((Same.new ha : Same (A ++ [a]) σ (σ.upd a o)).trans S)) ha
theorem Zabg {sp : Int} {s : Sg} {a : Nd} {b : Lf} {need : Nat} (ok : NdOk a) (hb : KKin scr cells a.base.pv (kd a.base) need a.base.sz) : KKin scr cells (Nd.bin sp s a b).pv (kd (.bin sp s a b)) (need + 7) (a.sz + 2) := by
  intro D e σ w ds cs ad cd Q X hD M EO GE hl had hcd h
  obtain ⟨d, rfl⟩ : ∃ d, D = d + 7 := ⟨D - 7, by lia⟩
  refine Zd rfl rfl ?_
  iterate 5 walk_at "s"
  refine Zn (by walk_at "e") rfl <| Zt <| Zv M (by walk_at "e") rfl rfl (by walk_at "es") <| ?_
  generalize hnd : Nd.bin sp s a b = nd at h ⊢
  have hbase : nd.base = a.base := by rw [← hnd]; rfl
  have hsz := @base_sz nd
  have hsz2 : nd.sz = a.sz + 2 := by rw [← hnd]; rfl
  have hok : NdOk nd := by rw [← hnd]; exact ok
  have hsp : 1 ≤ nd.spine.length := by rw [← hnd]; exact Nat.le_add_left 1 _
  rw [← hbase] at hb
  refine Zd rfl rfl <| Zu (r := b301.drop 1) <| Zbs .nil (Nat.zero_le _) fun wt hwt => Zx ?_
  have nsl : wt ≠ w.sl := fun z => by have := M.isl; rw [← z, hwt] at this; contradiction
  have nal : wt ≠ w.as := fun z => by have := M.ias; rw [← z, hwt] at this; contradiction
  have ncl : wt ≠ w.cl := fun z => by have := M.icl; rw [← z, hwt] at this; contradiction
  have M0 := M.keep (Same.new (o := .list []) hwt)
  refine Zpf (r := b301.drop 2) (nd.spine.length + 1) <| Zqh (wt := wt) (fun lo σ nd h1 => Zuj h1) nsl nd [] _ _ _ _ M0 rfl rfl rfl Zb (by rw [List.length_nil]; lia) fun lo1 σ1 h103 h120 h92 hw1 M1 S1 => ?_
  rw [List.nil_append] at hw1
  show Wp scr cells true _ (b301.drop 2) _ _ _ _
  refine Zu (r := b301.drop 3) <| Zv M1 (by walk_at "e") rfl rfl (by walk_at "es") <| hb _ e σ1 w ds cs ad cd _ _ (by lia) M1 EO GE (by lia) (by lia) (by lia) fun σ2 M2 S2 => ?_
  have fin : ∀ {σ'}, Same [w.as, w.cl, w.sl, wt] (σ.upd wt (.list [])) σ' → Same [w.as, w.cl, w.sl] σ σ' := fun {σ'} S => Same.drop3 (A := [w.as, w.cl, w.sl]) hwt S
  have S02 : Same [w.as, w.cl, w.sl, wt] (σ.upd wt (.list [])) σ2 := (S1.mono (by simp)).trans (S2.mono (by simp))
  have h := h.of (kd_via nd e)
  have hg := fun k => kd_gd (nd := nd.base) (e := e) (k := k) GE
  have hbl := kd_len (base_ok hok) e
  rcases hp : kd nd.base e with ⟨x | k, as, cl⟩ <;> rw [hp] at hg hbl <;> simp only [hp] at M2 ⊢
  · exact h.of (r' := (.error x, as, cl)) (by simp only [Zez, hp]) σ2 M2 (fin S02)
  · have h := h.of (r' := ((kdUp nd e k).1, as ++ (kdUp nd e k).2.1, cl ++ (kdUp nd e k).2.2)) (by simp only [Zez, hp])
    have gk := hg k rfl
    simp only at hbl
    have pl := @putN_len as ad
    have pc := @putN_len cl cd
    have ul := @up_len nd e k
    have kw2 : σ2 wt = some (.list (([] ++ nd.spine).map Nd.pv)) := by
      rw [List.nil_append]
      exact S2.at hw1 (by simp only [List.mem_cons, List.not_mem_nil, or_false, not_or]; exact ⟨nal, ncl, nsl⟩)
    refine Zx <| Zpf (r := b301.drop 4) (1 + nd.spine.length) <| Zqg (d := d + 2) (wt := wt) GE EO (by lia) (by lia) nsl nal ncl (fun lo σ bs h1 h2 h3 => Zpz h1 h2 h3) nd [] 1 _ σ2 k _ _ _ M2 (Zm rfl h103) (Zm rfl h120) rfl kw2 gk (by rw [List.length_nil]; lia) (by lia) ?_
    rcases hq : kdUp nd e k with ⟨y | k', as2, cl2⟩ <;> rw [hq] at ul h <;> obtain ⟨ul1, ul2⟩ := ul <;> cases ul2
    · intro lo' σ' M' S'
      exact h σ' (by show Mk _ _ _ _ _ (putN (as ++ as2) ad) (putN (cl ++ []) cd); rw [Zs, List.append_nil]; exact M') (fin (S02.trans S'))
    · intro lo' σ' k103 k120 k81 kw M' S'
      refine Zjo (Zpz (bs := []) k120 kw (Nat.zero_le _)) rfl ?_
      exact Zg (by walk_at "e") (h σ' (by show Mk _ _ _ _ _ (putN (as ++ as2) ad) (putN (cl ++ []) cd); rw [Zs, List.append_nil]; exact M') (fin (S02.trans S')))
end
theorem Ev.cut {G : Pg} {st : Bool} {σ : Store} {lo : Loc} {a u : Ex} {vs : List PV} {n : Int} {p p' : Pos} (h : Ev G st σ lo a (.tup vs)) (k : Ev G st σ lo u (.int n)) (h0 : 0 ≤ n) (h1 : n < vs.length) (h2 : vs.length ≤ 1000) : Ev G st σ lo (.cut a u p p') (.tup (vs.take n.toNat)) := fun S d _ X q => h S d _ X (k S d _ X ⟨n, rfl, h0, .inl ⟨vs, rfl, h1, h2, q⟩⟩)
section
variable {scr : Addr} {cells : List PV} {σ : Store} {w : MW} {pt : Ct} {ds : List Addr} {cs : List Ct} {ad cd : Ct} {Q : QV} {X : XV'} {d : Nat}
theorem Zaav {n : Nat} (hn : n ∈ genNames) (M : Mk σ w predsT ds cs ad cd) (h : Q (.bool (takes n).isSome) σ) : Cal scr cells true d 364 [.obj w.mo, .tag n] σ Q X := by
  refine Zd rfl rfl ?_
  have h1 := M.imk
  have h2 := M.imd
  have h3 := M.ipr
  simp only [genNames, List.mem_cons, List.not_mem_nil, or_false] at hn
  rcases hn with rfl | rfl | rfl | rfl | rfl | rfl | rfl
  all_goals refine Zaj (.get (.attr (.var rfl) h1 h2 rfl rfl) h3 (.cons (.var rfl) (.cons (.sub (.cget (.glob rfl) rfl (.cons (.var rfl) (.cons (.tup (.cons (.tup .nil (Nat.zero_le _)) (.cons .str .nil)) (Nat.le_of_ble_eq_true rfl)) .nil))) .int (.tup rfl)) .nil))) ?_
  all_goals first
    | (refine Zg (.or2 (.cmp (.var rfl) (.tup (.cons .str (.cons .str .nil)) (Nat.le_of_ble_eq_true rfl)) (.in_ (.tup rfl rfl rfl))) fun _ => .and1 (.and2 (.cmp (.len (.var rfl) rfl (.tup rfl) (Nat.le_of_ble_eq_true rfl)) .int (.eq (.v rfl rfl))) fun _ => .and1 (.cmp (.sub (.sub (.var rfl) .int (.tup rfl)) .int (.tup rfl)) .int (.eq (.v rfl rfl))))) ?_; exact h)
    | (refine Zg (.or2 (.cmp (.var rfl) (.tup (.cons .str (.cons .str .nil)) (Nat.le_of_ble_eq_true rfl)) (.in_ (.tup rfl rfl rfl))) fun _ => .and1 (.and2 (b2 := false) (.cmp (.len (.var rfl) rfl (.tup rfl) (Nat.le_of_ble_eq_true rfl)) .int (.eq (.v rfl rfl))) fun z => nomatch (show false = true from z))) ?_; exact h)
    | (refine Zg (.or2 (b2 := false) (.cmp (.var rfl) (.tup (.cons .str (.cons .str .nil)) (Nat.le_of_ble_eq_true rfl)) (.in_ (.tup rfl rfl rfl))) fun z => nomatch (show true = false from z)) ?_; exact h)
noncomputable def SrcK (w : MW) (ds : List Addr) (cs : List Ct) (ad cd : Ct) (Q : QV) (X : XV') (σ : Store) (sp : Int) (r : R1 Kd) : Prop := match r.1 with
  | .error i => ∀ σ', Mk σ' w predsT ds cs (putN r.2 ad) cd → Same [w.as, w.cl, w.sl] σ σ' → X i σ'
  | .ok k => ∀ σ', Mk σ' w predsT ds cs (putN r.2 ad) cd → Same [w.as, w.cl, w.sl] σ σ' → if k != kSET && k.n != 1 then X sp σ' else Q (Zal k).pv σ'
theorem SrcK.of {sp : Int} {r r' : R1 Kd} (h : SrcK w ds cs ad cd Q X σ sp r) (e : r = r') : SrcK w ds cs ad cd Q X σ sp r' := e ▸ h
theorem Zti {e : En} {s : Sr} (hd : 5 ≤ d) (M : Mk σ w predsT ds cs ad cd) (EO : EnOk e cs) (GE : GdE e) (hl : ds.length + 2 ≤ 1000) (had : ad.length + 2 ≤ 1000) (hcd : cd.length + 2 ≤ 1000)
    (h : SrcK w ds cs ad cd Q X σ s.sp (kSr e s)) : Cal scr cells true d 371 [.obj w.mo, s.pv] σ Q X := by
  obtain ⟨e', rfl⟩ : ∃ e', d = e' + 5 := ⟨d - 5, by lia⟩
  refine Zd rfl rfl <| Zu <| Zv M (by walk_at "e") rfl rfl (by walk_at "es") <| Zacv s _ e σ w ds cs ad cd _ _ (by lia) M EO GE hl had hcd fun σ₁ M₁ S₁ => ?_
  have hg := fun k => Zve (e := e) (s := s) (k := k) GE
  rcases hp : kSr e s with ⟨x | k, as⟩ <;> rw [hp] at hg <;> simp only [hp] at M₁ ⊢
  · exact (h.of hp) σ₁ M₁ S₁
  · have gk := hg k rfl
    have h := (h.of hp) σ₁ M₁ S₁
    refine Zx ?_
    show Wp scr cells true _ (_ :: _) _ _ _ _
    cases hz : (k == kSET) with
    | true =>
      have hk : k = kSET := beq_iff_eq.mp hz
      simp only [bne, hz, Bool.not_true, Bool.false_and, Bool.false_eq_true, if_false] at h
      have : Zal k = kKNOWN := by rw [hk]; rfl
      rw [this] at h
      refine Zn (by walk_at "e") (eqP_set.trans hz) ?_
      exact Zg (by walk_at "e") h
    | false =>
      refine Zr (by walk_at "e") (eqP_set.trans hz) <| Zf ?_
      cases h1 : (k.n == 1) with
      | false =>
        simp only [bne, hz, h1, Bool.not_false, Bool.and_self, if_true] at h
        refine Zn (by walk_at "e") (by rw [Zeu, h1]; rfl) ?_
        have kn := gk.le
        exact Zcg rfl (by walk_at "t") (by walk_at "e") h
      | true =>
        have hb : (k.b == .s) = false := by
          rw [beq_eq_false_iff_ne]; intro z
          have := (gk.2.1 z).2
          have := beq_iff_eq.mp h1
          lia
        have : Zal k = ⟨k.b, k.v, 0⟩ := by unfold Zal; rw [hb]; rfl
        simp only [bne, hz, h1, this, Bool.not_true, Bool.not_false, Bool.and_false, Bool.false_eq_true, if_false] at h
        refine Zr (by walk_at "e") (by rw [Zeu, h1]; rfl) <| Zf ?_
        exact Zg (by walk_at "e") h
theorem Zkc {lo : Loc} {a : Addr} {c : Ct} {t : Nat} {i : Int} {vs : List PV} {k : Kd} {Q : QS} {X : XS} (M : Mk σ w pt (ds ++ [a]) (cs ++ [c]) ad cd) (hl : ds.length ≤ 1000) (hc : c.length ≤ 1000) (h103 : lo.get 103 = some (.obj w.mo)) (h83 : lo.get 83 = some (.tup vs)) (h66 : lo.get 66 = some (.int i)) (h5 : lo.get 5 = some (.tag t)) (h89 : lo.get 89 = some k.pv)
    (h0 : 0 ≤ i) (h1 : i < vs.length) (h2 : vs.length ≤ 1000) (hp : plainPs 7 (vs.take i.toNat) = true) (ht : Nat.blt t 271 = true) (hb : inTags t (vs.take i.toNat) = some false) (h : Q .next lo (σ.upd a (.dict (Ze t k.pv c)))) : Wp scr cells true d b378_1 lo σ Q X := by
  obtain ⟨D, e⟩ := M.dcs.unsnoc
  show Wp scr cells true d (_ :: _) lo σ Q X
  refine Zr (.cmp (.var h5) (.cut (.var h83) (.var h66) h0 h1 h2) (.in_ (.tup hp ht hb))) rfl <| Zf ?_
  exact Zcu (.var h89) (.sub (Zar M (.attr (.var h103) M.imk M.imd rfl rfl)) .minus (Zda M.isl hl)) (.var h5) e hc (Zak h)
theorem Zly {a : Addr} {c : Ct} {e : En} {ns : List Nat} {k : Kd} {sp : Int} (hns : ns ∈ rowNames) (hk0 : cs ≠ []) (nd : a ∉ ds) (M : Mk σ w predsT (ds ++ [a]) (cs ++ [c]) ad cd) (EO : EnOk e (cs ++ [c])) (hl : ds.length ≤ 1000) (hc : c.length + 2 ≤ 1000)
    (h : if nodupN ns then ∀ σ' c', Mk σ' w predsT (ds ++ [a]) (cs ++ [c']) ad cd → EnOk (e.bind ns k) (cs ++ [c']) → c'.length ≤ c.length + 2 → Same [a] σ σ' → Q .none σ' else ∀ σ' c', Mk σ' w predsT (ds ++ [a]) (cs ++ [c']) ad cd → Same [a] σ σ' → X sp σ') :
    Cal scr cells true d 378 [.obj w.mo, .tup (ns.map .tag), k.pv, .int sp] σ Q X := by
  refine Zd rfl rfl ?_
  have one : ∀ t, EnOk (e.bind [t] k) (cs ++ [Ze t k.pv c]) := fun t => EO.put hk0
  have M1 := fun t => M.store nd (c' := Ze t k.pv c)
  have l1 := fun t => @Zcy t k.pv c
  have S1 : ∀ {c'}, Same [a] σ (σ.upd a (.dict c')) := Same.upd (by exact .head _)
  have sing : ∀ t, Nat.blt t 271 = true → ns = [t] → Wp scr cells true d b378 (Zaz [103, 83, 89, 67] [.obj w.mo, .tup (ns.map .tag), k.pv, .int sp]) σ (Zbc Q) (Zag X) := by
    rintro t ht rfl
    refine Zkb rfl (by walk_at "e") (by walk_at "l") <| Zbe (lo₁ := (5, .tag t) :: (66, .int 0) :: Zaz [103, 83, 89, 67] [.obj w.mo, .tup ([t].map .tag), k.pv, .int sp]) rfl <| Zkc M hl (by lia) rfl rfl rfl rfl rfl (by decide) (by first | (show (0 : Int) < ((1 : Nat) : Int); decide) | (show (0 : Int) < ((2 : Nat) : Int); decide) | decide) (Nat.le_of_ble_eq_true rfl) rfl ht rfl ?_
    exact h _ _ (M1 t) (one t) (by have := l1 t; lia) S1
  have first : ∀ t u (Q' : QS), Nat.blt t 271 = true → Q' .next ((5, .tag t) :: (66, .int 0) :: Zaz [103, 83, 89, 67] [.obj w.mo, .tup ([t, u].map .tag), k.pv, .int sp]) (σ.upd a (.dict (Ze t k.pv c))) → Wp scr cells true d b378_1 ((5, .tag t) :: (66, .int 0) :: Zaz [103, 83, 89, 67] [.obj w.mo, .tup ([t, u].map .tag), k.pv, .int sp]) σ Q' (Zag X) :=
    fun t u Q' ht h => Zkc M hl (by lia) rfl rfl rfl rfl rfl (by decide) (by first | (show (0 : Int) < ((1 : Nat) : Int); decide) | (show (0 : Int) < ((2 : Nat) : Int); decide) | decide) (Nat.le_of_ble_eq_true rfl) rfl ht rfl h
  simp only [rowNames, List.mem_cons, List.not_mem_nil, or_false] at hns
  rcases hns with rfl | rfl | rfl | rfl | rfl
  · exact sing _ rfl rfl
  · exact sing _ rfl rfl
  · refine Zkb rfl (by walk_at "e") (by walk_at "l") <| Zbe (lo₁ := _) rfl <| first _ _ _ rfl ?_
    refine Zbe (lo₁ := (5, .tag 37) :: (66, .int 1) :: _) rfl <| Zkc (M1 _) hl (by have := l1 36; lia) rfl rfl rfl rfl rfl (by decide) (by first | (show (0 : Int) < ((1 : Nat) : Int); decide) | (show (0 : Int) < ((2 : Nat) : Int); decide) | decide) (Nat.le_of_ble_eq_true rfl) rfl rfl rfl ?_
    exact h _ _ ((M1 _).store nd) ((Zjl (e := e) (ns := [36]) (t := 37) (k := k)) ▸ (one 36).put (t := 37) (k := k) hk0) (by have := l1 36; have := @Zcy 37 k.pv (Ze 36 k.pv c); lia) (S1.trans (Same.upd (by exact .head _)))
  · exact sing _ rfl rfl
  · refine Zkb rfl (by walk_at "e") (by walk_at "l") <| Zbe (lo₁ := _) rfl <| first _ _ _ rfl ?_
    refine Zbe (lo₁ := (5, .tag 37) :: (66, .int 1) :: _) rfl ?_
    show Wp scr cells true d (_ :: _) _ _ _ _
    refine Zn (.cmp (by walk_at "e") (.cut (by walk_at "e") (by walk_at "e") (by decide) (by decide) (by decide)) (.in_ (.tup rfl rfl rfl))) rfl ?_
    exact Zcg rfl (by walk_at "t") (by walk_at "e") (h _ _ (M1 _) S1)
theorem Mk.del (M : Mk σ w pt ds cs ad cd) {kl : Addr} {l : List PV} (h : σ kl = some (.list l)) (ne : kl ≠ w.sl) : Mk (σ.del kl) w pt ds cs ad cd := by
  have S : Same [kl] σ (σ.del kl) := fun b hb hn => by simp only [List.mem_singleton] at hn; simp [Store.del, hn]
  have k : ∀ {b p}, σ b = some p → b ≠ kl → b ∉ [kl] := fun {b p} e n z => n (by simpa using z)
  exact ⟨S.at M.imk (k M.imk (Zp M.imk h (by simp))), S.at M.imd (k M.imd (Zp M.imd h (by simp))), S.at M.inm (k M.inm (Zp M.inm h (by simp))), S.at M.ind (k M.ind (Zp M.ind h (by simp))), S.at M.isl (k M.isl ne.symm), S.at M.ias (k M.ias (Zp M.ias h (by simp))), S.at M.icl (k M.icl (Zp M.icl h (by simp))), S.at M.ipr (k M.ipr (Zp M.ipr h (by simp))),
    M.dcs.same S (fun a ha => by obtain ⟨c, e⟩ := M.dcs.mem ha; exact k e (Zp e h (by simp))), M.ac, M.ap, M.cp, M.da, M.dc, M.dp⟩
theorem Same.del {σ : Store} {kl : Addr} : Same [kl] σ (σ.del kl) := fun b hb hn => by simp only [List.mem_singleton] at hn; simp [Store.del, hn]
theorem Zgv {kl : Addr} {k o : Kd} {n : Nat} {sp : Int} (hd : 3 ≤ d) (hk : k.n ≤ 9) (ho : o.n ≤ 9) (hkl : σ kl = some (.list [k.pv])) (h : if Zl k o.b o.v o.n = true then Q .none (σ.del kl) else X sp (σ.del kl)) : Cal scr cells true d 404 [.obj w.mo, .tag n, .obj kl, .tup [o.pv], .int sp] σ Q X := by
  obtain ⟨e', rfl⟩ : ∃ e', d = e' + 3 := ⟨d - 3, by lia⟩
  refine Zd rfl rfl <| Zr (.cmp (.len (by walk_at "e") rfl (.list _ rfl hkl) (by walk_at "l")) (.len (by walk_at "e") rfl (.tup rfl) (by walk_at "l")) (.ne (.v rfl rfl))) rfl <| Zf ?_
  refine Zaap rfl (by walk_at "e") (by walk_at "e") hkl (lo₁ := (80, o.pv) :: (89, k.pv) :: _) rfl ?_
  refine Zq (r := []) <| Zc (by walk_at "es") rfl ?_
  cases hm : Zl k o.b o.v o.n with
  | true => rw [hm] at h; exact Zbu (by lia) hk ho hm <| Zy <| Zak h
  | false => rw [hm] at h; exact Zca (by lia) hk ho hm h
end
theorem Zir {k : Kd} {b : Ba} (h : k.n = 0) : Zl ⟨k.b, k.v, 1⟩ b true 1 = Zl k b true 0 := by
  obtain ⟨kb, kv, kn⟩ := k
  simp only at h
  subst h
  rfl
section
variable {scr : Addr} {cells : List PV} {σ : Store} {w : MW} {pt : Ct} {ds : List Addr} {cs : List Ct} {ad cd : Ct} {Q : QV} {X : XV'} {d : Nat}
theorem Zhl {lo : Loc} {kl : Addr} {k : Kd} {x xp xp' sp1 ip cp bp lp n1 p p1 p2 : _} {sc : Scope} (h : lo.get 110 = some (.obj kl)) (hkl : σ kl = some (.list [Kd.pv ⟨k.b, k.v, 1⟩])) : Ev (GP scr cells) true σ lo (.cmp (.lcond x xp xp' 110 sp1 1 ip cp bp sc lp n1 p) .Gt (.int 0 p1) p2) (.bool k.v) := by
  obtain ⟨b, v, n⟩ := k
  cases v
  · exact .cmp (.lcond h hkl (.cons rfl .nil) rfl (Nat.le_of_ble_eq_true rfl)) .int .gt
  · exact .cmp (.lcond h hkl (.cons rfl .nil) rfl (Nat.le_of_ble_eq_true rfl)) .int .gt
theorem Zxe {k : Kd} : plainP 8 (Kd.pv ⟨k.b, k.v, 1⟩) = true := Zff
theorem Zrd {kl : Addr} {k : Kd} {sp : Int} (hd : 2 ≤ d) (M : Mk σ w predsT ds cs ad cd) (hkl : σ kl = some (.list [Kd.pv ⟨k.b, k.v, 1⟩])) (hn : k.n = 0)
    (h : ∀ σ', Same [] σ σ' → if Zl k .i true 0 then Q (Kd.pv ⟨.i, k.v, 0⟩) σ' else X sp σ') : Cal scr cells true d 425 [.obj w.mo, .tag 19, .obj kl, .int sp] σ Q X := by
  obtain ⟨e', rfl⟩ : ∃ e', d = e' + 2 := ⟨d - 2, by lia⟩
  refine Zd rfl rfl <| Zbd <| Zep <| Zan (by walk_at "e") <| Zaf <| Zbs (by walk_at "es") (by walk_at "l") fun l hl => ?_
  have kl2 : (σ.upd l (.list [.tup [.tag 3, .bool false, .int 0]])) kl = some (.list [Kd.pv ⟨k.b, k.v, 1⟩]) := Zi hkl hl
  have e1 : eqP (Kd.pv ⟨k.b, k.v, 1⟩) (.tup [.tag 3, .bool false, .int 0]) = false := eqP_set.trans (by
    rw [beq_eq_false_iff_ne]; intro z; injection z with _ _ z; contradiction)
  have h := h _ (Same.new (o := .list [.tup [.tag 3, .bool false, .int 0]]) hl)
  refine Zgh (.eq (.list kl2 Zb (by show (plainP 8 _ && true) = true; rw [Zxe]; rfl) rfl)) ?_
  rw [show eqPs [Kd.pv ⟨k.b, k.v, 1⟩] [.tup [.tag 3, .bool false, .int 0]] = false from by show (eqP _ _ && true) = false; rw [e1]; rfl]
  refine Zdb <| Zf ?_
  refine Zn (.cmp (.len (by walk_at "e") rfl (.list _ rfl kl2) (by walk_at "l")) .int (.eq (.v rfl rfl))) rfl <| Zq <| Zc (.cons (.sub (by walk_at "e") .int (.list kl2 rfl)) (by walk_at "es")) rfl ?_
  have mo := @Zir k .i hn
  cases hm : Zl k .i true 0 with
  | false =>
    rw [hm] at h mo
    exact Zca (k := ⟨k.b, k.v, 1⟩) (w := ⟨.i, true, 1⟩) (by lia) (show 1 ≤ 9 by decide) (by decide) mo h
  | true =>
    rw [hm] at h mo
    refine Zbu (k := ⟨k.b, k.v, 1⟩) (w := ⟨.i, true, 1⟩) (by lia) (show 1 ≤ 9 by decide) (by decide) mo <| Zy ?_
    exact Zg (.tup (.cons .str (.cons (.sub (.sub (.var rfl) .int (.list kl2 rfl)) .int (.tup rfl)) (by walk_at "es"))) (by walk_at "l")) h
theorem Zhp {kl : Addr} {k : Kd} {n : Nat} {sp : Int} {b r : Ba} (hd : 4 ≤ d) (M : Mk σ w predsT ds cs ad cd) (hkl : σ kl = some (.list [Kd.pv ⟨k.b, k.v, 1⟩])) (hn : k.n = 0) (hp : Loc.get predsT n = none) (hc : Loc.get callsT n = some (.tup [.tup [Kd.pv ⟨b, true, 1⟩], .tag r.tag]))
    (h : Zew Q X (if Zl k b true 0 then .ok ⟨r, k.v, 0⟩ else .error sp) (σ.del kl)) : Cal scr cells true d 397 [.obj w.mo, .tag n, .obj kl, .int sp] σ Q X := by
  obtain ⟨e', rfl⟩ : ∃ e', d = e' + 4 := ⟨d - 4, by lia⟩
  have h1 := M.imk
  have h2 := M.imd
  refine Zd rfl rfl <| Zaj (Zhl rfl hkl) <| Zr (.cmp (by walk_at "e") (by walk_at "e") (.in_ (.dict M.ipr))) (by rw [hp]; rfl) <| Zf ?_
  refine Zn (.cmp (by walk_at "e") (.glob rfl) (.in_ (.cd gcd_calls))) (by rw [hc]; rfl) <| Zjq (.sub (.glob rfl) (.var rfl) (.cd gcd_calls hc)) rfl rfl ?_
  refine Zq <| Zv M (by walk_at "e") rfl rfl (by walk_at "es") <| Zgv (k := ⟨k.b, k.v, 1⟩) (o := ⟨b, true, 1⟩) (by lia) (show 1 ≤ 9 by decide) (show 1 ≤ 9 by decide) hkl ?_
  have mo := @Zir k b hn
  cases hm : Zl k b true 0 with
  | false => rw [hm] at h mo; rw [mo]; exact h
  | true =>
    rw [hm] at h mo
    rw [mo]
    exact Zy (v := .none) (Zg (by walk_at "e") h)
theorem Zut {kl : Addr} {k : Kd} {sp : Int} (hd : 5 ≤ d) (M : Mk σ w predsT ds cs ad cd) (hkl : σ kl = some (.list [Kd.pv ⟨k.b, k.v, 1⟩])) (hn : k.n = 0)
    (h : ∀ σ', Same [] σ σ' → if Zl k .i true 0 then Q (Kd.pv ⟨.i, k.v, 0⟩) σ' else X sp σ') : Cal scr cells true d 397 [.obj w.mo, .tag 19, .obj kl, .int sp] σ Q X := by
  obtain ⟨e', rfl⟩ : ∃ e', d = e' + 5 := ⟨d - 5, by lia⟩
  have h1 := M.imk
  have h2 := M.imd
  refine Zd rfl rfl <| Zaj (Zhl rfl hkl) <| Zr (.cmp (by walk_at "e") (by walk_at "e") (.in_ (.dict M.ipr))) rfl <| Zf ?_
  refine Zr (.cmp (by walk_at "e") (.glob rfl) (.in_ (.cd gcd_calls))) rfl <| Zf ?_
  refine Zn (.and2 (by walk_at "e") fun _ => .and1 (.cmp (.len (.var rfl) rfl (.list _ rfl hkl) (by walk_at "l")) .int .gt)) rfl <| Zt <| Zv M (by walk_at "e") rfl rfl (by walk_at "es") ?_
  refine Zd rfl rfl <| Zjq (.tup (.cons (.sub (.var rfl) .int (.list hkl rfl)) (.cons (.len (.var rfl) rfl (.list _ rfl hkl) (by walk_at "l")) .nil)) (by walk_at "l")) rfl rfl ?_
  exact Zn (by walk_at "e") rfl <| Zt <| Zv M (by walk_at "e") rfl rfl (by walk_at "es") <| Zrd (by lia) M hkl hn h
theorem Zacf {kl : Addr} {k : Kd} {sp : Int} (hd : 4 ≤ d) (M : Mk σ w predsT ds cs ad cd) (hkl : σ kl = some (.list [Kd.pv ⟨k.b, k.v, 1⟩])) (hn : k.n = 0) (hcd : cd.length ≤ 1000)
    (h : Zew Q X (if Zl k .i true 0 then .ok ⟨.b, true, 0⟩ else .error sp) ((σ.upd w.cl (.dict (Ze 21 (.bool true) cd))).del kl)) : Cal scr cells true d 397 [.obj w.mo, .tag 21, .obj kl, .int sp] σ Q X := by
  obtain ⟨e', rfl⟩ : ∃ e', d = e' + 4 := ⟨d - 4, by lia⟩
  have h1 := M.imk
  have h2 := M.imd
  have M' := M.call (cd' := Ze 21 (.bool true) cd)
  have hkl' : (σ.upd w.cl (.dict (Ze 21 (.bool true) cd))) kl = some (.list [Kd.pv ⟨k.b, k.v, 1⟩]) := by
    rw [Zad fun z => by rw [z, M.icl] at hkl; cases hkl]; exact hkl
  refine Zd rfl rfl <| Zaj (Zhl rfl hkl) <| Zn (.cmp (by walk_at "e") (by walk_at "e") (.in_ (.dict M.ipr))) rfl <| Zcu (by walk_at "e") (by walk_at "e") (by walk_at "e") M.icl hcd ?_
  refine Zq <| Zv M' (by walk_at "e") rfl rfl (.cons (by walk_at "e") (.cons (by walk_at "e") (.cons (.sub (.attr (.var rfl) M'.imk M'.imd rfl rfl) (.var rfl) (.dict M'.ipr rfl)) (by walk_at "es")))) <| Zgv (k := ⟨k.b, k.v, 1⟩) (o := ⟨.i, true, 1⟩) (by lia) (show 1 ≤ 9 by decide) (by decide) hkl' ?_
  have mo := @Zir k .i hn
  cases hm : Zl k .i true 0 with
  | false => rw [hm] at h mo; rw [mo]; exact h
  | true =>
    rw [hm] at h mo
    rw [mo]
    exact Zy (v := .none) (Zg (by walk_at "e") h)
noncomputable def EndK (w : MW) (ds : List Addr) (cs : List Ct) (ad cd : Ct) (kl : Addr) (Q : QV) (X : XV') (σ : Store) (r : R1 Kd) : Prop := ∀ σ', Mk σ' w predsT ds cs ad (putN r.2 cd) → Same [w.cl, kl] σ σ' → Zew Q X r.1 σ'
theorem EndK.of {kl : Addr} {r r' : R1 Kd} (h : EndK w ds cs ad cd kl Q X σ r) (e : r = r') : EndK w ds cs ad cd kl Q X σ r' := e ▸ h
theorem Zfz {sp : Int} {n : Nat} {k : Kd} {b r : Ba} (hn : k.n = 0) (e : takes n = some (b, r)) : Zaw false sp n k = (if Zl k b true 0 then .ok ⟨r, k.v || n == 21, 0⟩ else .error sp, if n == 21 then [21] else []) := by
  have nk : (k.n != 0) = false := by rw [hn]; rfl
  unfold Zaw; simp only [nk, e, Bool.false_eq_true, if_false]
theorem Zaax {kl : Addr} {k : Kd} {n : Nat} {sp : Int} (hd : 5 ≤ d) (M : Mk σ w predsT ds cs ad cd) (hkl : σ kl = some (.list [Kd.pv ⟨k.b, k.v, 1⟩])) (hksl : kl ≠ w.sl) (hn : k.n = 0) (hg : n ∈ genNames) (ht : (takes n).isSome = true) (hcd : cd.length ≤ 1000)
    (h : EndK w ds cs ad cd kl Q X σ (Zaw false sp n k)) : Cal scr cells true d 397 [.obj w.mo, .tag n, .obj kl, .int sp] σ Q X := by
  have SD : Same [w.cl, kl] σ (σ.del kl) := Same.del.mono (by simp)
  simp only [genNames, List.mem_cons, List.not_mem_nil, or_false] at hg
  rcases hg with rfl | rfl | rfl | rfl | rfl | rfl | rfl
  · have h := h.of (Zfz hn rfl) _ (M.del hkl hksl) SD
    rw [show (k.v || 17 == 21) = k.v from Bool.or_false _] at h
    exact Zhp (b := .i) (r := .i) (by lia) M hkl hn rfl rfl h
  · have h := h.of (Zfz hn rfl) _ (M.del hkl hksl) SD
    rw [show (k.v || 18 == 21) = k.v from Bool.or_false _] at h
    exact Zhp (b := .b) (r := .b) (by lia) M hkl hn rfl rfl h
  · refine Zut hd M hkl hn fun σ' S' => ?_
    have h := h.of (Zfz hn rfl) σ' (M.keep S') (S'.mono (by simp))
    rw [show (k.v || 19 == 21) = k.v from Bool.or_false _] at h
    revert h
    cases Zl k .i true 0 <;> exact id
  · have M' := M.call (cd' := Ze 21 (.bool true) cd)
    have hkl' : (σ.upd w.cl (.dict (Ze 21 (.bool true) cd))) kl = some (.list [Kd.pv ⟨k.b, k.v, 1⟩]) := by
      rw [Zad fun z => by rw [z, M.icl] at hkl; cases hkl]; exact hkl
    have h := h.of (Zfz hn rfl) _ (M'.del hkl' hksl) ((Same.upd (by exact .head _)).trans (Same.del.mono (by simp)))
    rw [show (k.v || 21 == 21) = true from Bool.or_true _] at h
    exact Zacf (by lia) M hkl hn hcd h
  · have h := h.of (Zfz hn rfl) _ (M.del hkl hksl) SD
    rw [show (k.v || 23 == 21) = k.v from Bool.or_false _] at h
    exact Zhp (b := .i) (r := .b) (by lia) M hkl hn rfl rfl h
  · contradiction
  · contradiction
end
noncomputable def Zbz (e : En) (sp : Int) (rows : List (List Nat × Sr)) (wh : Option Lf) (bd : En → R2) : R2 := match Zac sp e rows with
  | (.error i, as) => (.error i, as, [])
  | (.ok e', as) => match kWh e' wh with
    | (.error i, as2) => (.error i, as ++ as2, [])
    | (.ok _, as2) => ((bd e').1, as ++ as2 ++ (bd e').2.1, (bd e').2.2)
theorem Zoo {c : Bool} {e : En} {sp : Int} {w : Nat} {rows : List (List Nat × Sr)} {wh : Option Lf} {bd : En → R2} : Zas c e sp w rows wh bd = if !c && (takes w).isNone then (.error sp, [], []) else
    match Zbz e sp rows wh bd with
    | (.error i, as, cl) => (.error i, as, cl)
    | (.ok k, as, cl) => ((Zaw c sp w k).1, as, cl ++ (Zaw c sp w k).2) := by
  unfold Zas
  split
  · rfl
  · unfold Zbz
    rcases Zac sp e rows with ⟨x | e', as⟩
    · rfl
    · simp only
      rcases kWh e' wh with ⟨y | u, as2⟩
      · rfl
      · simp only
        rcases bd e' with ⟨z | k, as3, cl⟩ <;> rfl
section
variable {scr : Addr} {cells : List PV} {σ : Store} {w : MW} {pt : Ct} {ds : List Addr} {cs : List Ct} {ad cd : Ct} {Q : QV} {X : XV'} {d : Nat}
noncomputable def KRowK (w : MW) (ds : List Addr) (cs : List Ct) (a : Addr) (ad cd : Ct) (Q : QS) (X : XS) (σ : Store) (P : Loc → Prop) (n : Nat) (r : R1 En) : Prop := match r.1 with
  | .error i => ∀ lo' σ' c', lo'.get 103 = some (.obj w.mo) → Mk σ' w predsT (ds ++ [a]) (cs ++ [c']) (putN r.2 ad) cd → Same [w.as, w.cl, w.sl, a] σ σ' → X i lo' σ'
  | .ok e' => ∀ lo' σ' c', P lo' → Mk σ' w predsT (ds ++ [a]) (cs ++ [c']) (putN r.2 ad) cd → EnOk e' (cs ++ [c']) → c'.length ≤ n → Same [w.as, w.cl, w.sl, a] σ σ' → Q .next lo' σ'
theorem KRowK.of {a : Addr} {Q : QS} {X : XS} {P : Loc → Prop} {n : Nat} {r r' : R1 En} (h : KRowK w ds cs a ad cd Q X σ P n r) (e : r = r') : KRowK w ds cs a ad cd Q X σ P n r' := e ▸ h
theorem Zxn {lo : Loc} {a : Addr} {c : Ct} {e : En} {sp : Int} {ns : List Nat} {s : Sr} {Q : QS} {X : XS} (hk0 : cs ≠ []) (nd : a ∉ ds) (hl : ds.length ≤ 990) (hns : ns ∈ rowNames) (M : Mk σ w predsT (ds ++ [a]) (cs ++ [c]) ad cd) (EO : EnOk e (cs ++ [c])) (GE : GdE e) (hc : c.length ≤ 990) (had : ad.length ≤ 990) (hcd : cd.length ≤ 990)
    (h103 : lo.get 103 = some (.obj w.mo)) (h83 : lo.get 83 = some (.tup (ns.map .tag))) (h84 : lo.get 84 = some s.pv) (h67 : lo.get 67 = some (.int sp))
    (h : KRowK w ds cs a ad cd Q X σ (· = lo) (c.length + 2) (Zdc sp e ns s)) :
    Wp scr cells true (d + 6) b357_1 lo σ Q X := by
  refine Zq (r := []) <| Zfg M (.var h103) rfl rfl <| Zj (.var h83) <| Zh <| Zv M (.var h103) rfl rfl (.cons (.var h84) .nil) <| Zti (e := e) (s := s) (by lia) M EO GE (by rw [List.length_append, List.length_singleton]; lia) (by lia) (by lia) ?_
  rcases hp : kSr e s with ⟨x | k, as⟩
  · exact fun σ₁ M₁ S₁ => h.of (r' := (.error x, as)) (by simp only [Zdc, hp]) lo σ₁ c h103 M₁ (S₁.mono (by simp))
  · intro σ₁ M₁ S₁
    have S₁ : Same [w.as, w.cl, w.sl, a] σ σ₁ := S₁.mono (by simp)
    have h := h.of (r' := if k != kSET && k.n != 1 then (.error s.sp, as) else if !nodupN ns then (.error sp, as) else (.ok (e.bind ns (Zal k)), as)) (by simp only [Zdc, hp])
    cases hz : (k != kSET && k.n != 1) with
    | true =>
      rw [hz] at h
      exact h lo σ₁ c h103 M₁ S₁
    | false =>
      rw [hz] at h
      refine Zk <| Zbv (.cons (.var h67) .nil) <| Zly (e := e) (ns := ns) (k := Zal k) hns hk0 nd M₁ EO (by lia) (by lia) ?_
      cases hnd : nodupN ns with
      | false =>
        rw [hnd] at h
        exact fun σ' c' M' S' => h lo σ' c' h103 M' (S₁.trans (S'.mono (by simp)))
      | true =>
        rw [hnd] at h
        exact fun σ' c' M' EO' hc' S' => h lo σ' c' rfl M' EO' hc' (S₁.trans (S'.mono (by simp)))
theorem Zky {a : Addr} {sp : Int} {p1 p2 p3 : Pos} {kk : Nat} (hk0 : cs ≠ []) (nd : a ∉ ds) (hl : ds.length ≤ 990) (hcd : cd.length ≤ 990) : ∀ (rows : List (List Nat × Sr)) {lo : Loc} {c : Ct} {e : En} {σ : Store} {ad : Ct} {Q : QS} {X : XS}, (∀ r ∈ rows, Zcq r) → Mk σ w predsT (ds ++ [a]) (cs ++ [c]) ad cd → EnOk e (cs ++ [c]) → GdE e → c.length + 2 * rows.length ≤ 990 → ad.length + rows.length ≤ 990 →
    lo.get 103 = some (.obj w.mo) → lo.get 67 = some (.int sp) →
    KRowK w ds cs a ad cd Q X σ (upP [83, 84] lo) 1000 (Zac sp e rows) →
    Zax (.many [(83, p1), (84, p2)] kk p3) (Wp scr cells true (d + 6) b357_1) (rows.map Zbh) lo σ Q X
  | [], lo, c, e, σ, ad, Q, X, ok, M, EO, GE, hc, had, h103, h67, h => Zgj (h lo σ c .refl M EO (by lia) .refl)
  | (ns, s) :: r, lo, c, e, σ, ad, Q, X, ok, M, EO, GE, hc, had, h103, h67, h => by
    simp only [List.length_cons] at hc had
    have up : upP [83, 84] lo ((84, s.pv) :: (83, .tup (ns.map .tag)) :: lo) := (upP.refl.cons (by exact .head _)).cons (by exact .tail _ (.head _))
    have g103 := up.get h103 (by decide)
    have g67 := up.get h67 (by decide)
    refine Zbe (lo₁ := (84, s.pv) :: (83, .tup (ns.map .tag)) :: lo) rfl ?_
    have hlen := @Zkz sp e ns s
    have hgd := fun e' => Zgn (sp := sp) (rows := [(ns, s)]) (e := e) (e' := e') GE
    have hk := Zdn (sp := sp) (e := e) (ns := ns) (s := s) (r := r)
    refine Zxn (e := e) (sp := sp) (ns := ns) (s := s) hk0 nd hl (ok _ (.head _)) M EO GE (by lia) (by lia) hcd g103 rfl rfl g67 ?_
    rcases hp : Zdc sp e ns s with ⟨x | e', as⟩ <;> rw [hp] at hlen hk
    · exact fun lo' σ' c' k103 M' S' => h.of hk lo' σ' c' k103 M' S'
    · rintro _ σ1 c1 rfl M1 EO1 hc1 S1
      have M1 : Mk σ1 w predsT (ds ++ [a]) (cs ++ [c1]) (putN as ad) cd := M1
      have h := h.of (r' := ((Zac sp e' r).1, as ++ (Zac sp e' r).2)) hk
      have pl := @putN_len as ad
      simp only at hlen
      have GE1 : GdE e' := hgd e' (by rw [Zdn, hp]; rfl)
      refine Zky hk0 nd hl hcd r (fun x hx => ok x (.tail _ hx)) M1 EO1 GE1 (by lia) (by lia) g103 g67 ?_
      rcases hq : Zac sp e' r with ⟨y | e2, as2⟩ <;> rw [hq] at h
      · exact fun lo' σ' c' k103 M' S' => h lo' σ' c' k103 (by show Mk _ _ _ _ _ (putN (as ++ as2) ad) _; rw [Zs]; exact M') (S1.trans S')
      · exact fun lo' σ' c' hlo' M' EO' hc' S' => h lo' σ' c' (up.trans hlo') (by show Mk _ _ _ _ _ (putN (as ++ as2) ad) _; rw [Zs]; exact M') EO' hc' (S1.trans S')
noncomputable def BdK (w : MW) (ds : List Addr) (cs : List Ct) (a : Addr) (ad cd : Ct) (Q : QS) (X : XS) (σ : Store) (lo : Loc) (r : R2) : Prop := match r.1 with
  | .error i => ∀ lo' σ' c', lo'.get 103 = some (.obj w.mo) → Mk σ' w predsT (ds ++ [a]) (cs ++ [c']) (putN r.2.1 ad) (putN r.2.2 cd) → Same [w.as, w.cl, w.sl, a] σ σ' → X i lo' σ'
  | .ok k => ∀ lo' σ' c', upP [83, 84, 98] lo lo' → lo'.get 98 = some k.pv → Mk σ' w predsT (ds ++ [a]) (cs ++ [c']) (putN r.2.1 ad) (putN r.2.2 cd) → Same [w.as, w.cl, w.sl, a] σ σ' → Q .next lo' σ'
theorem BdK.of {a : Addr} {Q : QS} {X : XS} {lo : Loc} {r r' : R2} (h : BdK w ds cs a ad cd Q X σ lo r) (e : r = r') : BdK w ds cs a ad cd Q X σ lo r' := e ▸ h
theorem Zkn {lo lo1 : Loc} {a : Addr} {c : Bool} {e' : En} {sp : Int} {n : Nat} {rows : List (List Nat × Sr)} {wh : Option Lf} {body : Nd} {need : Nat} {Q : QS} {X : XS} {c1 : Ct} {σ2 : Store} {as : List Nat} (ok : NdOk body) (hb : KKin scr cells body.pv (kd body) need body.sz) (hd : need ≤ d + 5) (has : as.length ≤ rows.length + 1) (hrl : rows.length ≤ 2)
    (M2 : Mk σ2 w predsT (ds ++ [a]) (cs ++ [c1]) (putN as ad) cd) (EO1 : EnOk e' (cs ++ [c1])) (GE1 : GdE e') (hl : ds.length + body.sz + 15 ≤ 1000) (had : ad.length + body.sz + 15 ≤ 1000) (hcd : cd.length + body.sz + 15 ≤ 1000) (hlo1 : upP [83, 84] lo lo1)
    (k103 : lo1.get 103 = some (.obj w.mo)) (k92 : lo1.get 92 = some (Zav c sp n rows wh body.pv)) (S2 : Same [w.as, w.cl, w.sl, a] σ σ2)
    (h : BdK w ds cs a ad cd Q X σ lo ((kd body e').1, as ++ (kd body e').2.1, (kd body e').2.2)) :
    Wp scr cells true (d + 6) (b357_2.drop 2) lo1 σ2 Q X := by
  have pl2 := @putN_len as ad
  refine Zu (r := []) <| Zv M2 (.var k103) rfl rfl (.cons (.sub (.var k92) .int (.tup rfl)) .nil) <| hb _ e' σ2 w _ _ _ cd _ _ (by lia) M2 EO1 GE1 (by rw [List.length_append, List.length_singleton]; lia) (by lia) (by lia) fun σ3 M3 S3 => ?_
  rcases hq : kd body e' with ⟨y | k, as3, cl⟩ <;> rw [hq] at h M3
  · exact h lo1 σ3 c1 k103 (by show Mk _ _ _ _ _ (putN (as ++ as3) ad) _; rw [Zs]; exact M3) (S2.trans (S3.mono (by simp)))
  · refine Zx <| Zak ?_
    exact h _ σ3 c1 ((hlo1.mono (by decide)).cons (by decide)) rfl (by show Mk _ _ _ _ _ (putN (as ++ as3) ad) _; rw [Zs]; exact M3) (S2.trans (S3.mono (by simp)))
theorem Zso {lo : Loc} {a : Addr} {c : Bool} {e : En} {sp : Int} {n : Nat} {rows : List (List Nat × Sr)} {wh : Option Lf} {body : Nd} {need : Nat} {Q : QS} {X : XS} (ok : NdOk body) (hb : KKin scr cells body.pv (kd body) need body.sz) (hd : need ≤ d + 5) (hrows : ∀ r ∈ rows, Zcq r) (hrl : rows.length ≤ 2) (hk0 : cs ≠ []) (nd : a ∉ ds)
    (M : Mk σ w predsT (ds ++ [a]) (cs ++ [[]]) ad cd) (EO : EnOk e (cs ++ [[]])) (GE : GdE e) (hl : ds.length + body.sz + 15 ≤ 1000) (had : ad.length + body.sz + 15 ≤ 1000) (hcd : cd.length + body.sz + 15 ≤ 1000)
    (h103 : lo.get 103 = some (.obj w.mo)) (h92 : lo.get 92 = some (Zav c sp n rows wh body.pv)) (h67 : lo.get 67 = some (.int sp))
    (h : BdK w ds cs a ad cd Q X σ lo (Zbz e sp rows wh (kd body))) :
    Wp scr cells true (d + 6) b357_2 lo σ Q X := by
  have rl := @Zec sp rows e
  refine Zhy (r := b357_2.drop 1) rfl (.sub (.var h92) .int (.tup rfl)) (by rw [List.length_map]; lia) <| Zky (e := e) (sp := sp) hk0 nd (by lia) (by lia) rows hrows M EO GE (by rw [List.length_nil]; lia) (by lia) h103 h67 ?_
  have hgd := fun e' => Zgn (sp := sp) (rows := rows) (e := e) (e' := e') GE
  rcases hp : Zac sp e rows with ⟨x | e', as⟩ <;> rw [hp] at rl hgd
  · exact fun lo' σ' c' k103 M' S' => h.of (r' := (.error x, as, [])) (by simp only [Zbz, hp]) lo' σ' c' k103 M' S'
  · intro lo1 σ1 c1 hlo1 M1 EO1 hc1 S1
    have M1 : Mk σ1 w predsT (ds ++ [a]) (cs ++ [c1]) (putN as ad) cd := M1
    have h := h.of (r' := match kWh e' wh with
      | (.error i, as2) => (.error i, as ++ as2, [])
      | (.ok _, as2) => ((kd body e').1, as ++ as2 ++ (kd body e').2.1, (kd body e').2.2)) (by simp only [Zbz, hp])
    have GE1 := hgd e' rfl
    simp only at rl
    have pl := @putN_len as ad
    have k103 := hlo1.get h103 (by decide)
    have k92 := hlo1.get h92 (by decide)
    show Wp scr cells true (d + 6) (b357_2.drop 1) lo1 σ1 Q X
    cases wh with
    | none =>
      refine Zr (r := b357_2.drop 2) (.cmp (.sub (.var k92) .int (.tup rfl)) .non .isNot) rfl <| Zf ?_
      exact Zkn ok hb hd (by rw [List.append_nil]; lia) hrl (by rw [List.append_nil]; exact M1) EO1 GE1 hl had hcd hlo1 k103 k92 S1 h
    | some l =>
      refine Zn (r := b357_2.drop 2) (.cmp (.sub (.var k92) .int (.tup rfl)) .non .isNot) (by show (!isNoneP l.pv) = true; rw [Zabo]; rfl) ?_
      refine Zq <| Zdt rfl <| Zh <| Zv M1 (.var k103) rfl rfl (.cons (.sub (.var k92) .int (.tup rfl)) .nil) <| Zgf l _ e' σ1 w _ _ _ cd _ _ (by lia) M1 EO1 GE1 (by rw [List.length_append, List.length_singleton]; lia) (by lia) (by lia) fun σ2 M2 S2 => ?_
      have ll := @Zdy e' l
      have S02 := S1.trans (S2.mono (B := [w.as, w.cl, w.sl, a]) (by simp))
      have hg := fun k => Zjt (e := e') (l := l) (k := k) GE1
      rcases hq : kLf e' l with ⟨y | k, as2⟩ <;> rw [hq] at ll hg <;> simp only [hq] at M2 ⊢
      · exact h.of (r' := (.error y, as ++ as2, [])) (by simp only [kWh, hq]) lo1 σ2 c1 k103 (by show Mk _ _ _ _ _ (putN (as ++ as2) ad) _; rw [Zs]; exact M2) S02
      · have gk := hg k rfl
        have M2 : Mk σ2 w predsT (ds ++ [a]) (cs ++ [c1]) (putN (as ++ as2) ad) cd := by rw [Zs]; exact M2
        refine Zk <| Zbv (vs := [.tup [.tag 1, .bool false, .int 0], .int l.sp, .tag 88]) (.cons (by walk_at "e") (.cons (.sub (.sub (.var k92) .int (.tup rfl)) .int Zfh) (.cons .str .nil))) ?_
        cases hm : Zl k .b false 0 with
        | false =>
          have h := h.of (r' := (.error l.sp, as ++ as2, [])) (by simp only [kWh, hq, hm]; rfl)
          exact Zca (k := k) (w := ⟨.b, false, 0⟩) (by lia) gk.le (by decide) hm (h lo1 σ2 c1 k103 M2 S02)
        | true =>
          have h := h.of (r' := ((kd body e').1, as ++ as2 ++ (kd body e').2.1, (kd body e').2.2)) (by simp only [kWh, hq, hm]; rfl)
          refine Zbu (k := k) (w := ⟨.b, false, 0⟩) (by lia) gk.le (by decide) hm <| Zy <| Zf ?_
          exact Zkn ok hb hd (by simp only at ll; rw [List.length_append]; lia) hrl M2 EO1 GE1 hl had hcd hlo1 k103 k92 S02 h
end
theorem Zuv {body : Nd} (ok : NdOk body) {rows : List (List Nat × Sr)} {e : En} {sp : Int} {wh : Option Lf} : (Zbz e sp rows wh (kd body)).2.1.length ≤ body.sz + rows.length + 1 ∧ (Zbz e sp rows wh (kd body)).2.2.length ≤ body.sz := by
  have h1 := @Zec sp rows e
  unfold Zbz
  rcases hp : Zac sp e rows with ⟨x | e', as⟩ <;> rw [hp] at h1 <;> simp only at h1 ⊢
  · exact ⟨by lia, Nat.zero_le _⟩
  · have h2 := @Zoy e' wh
    rcases hq : kWh e' wh with ⟨y | u, as2⟩ <;> rw [hq] at h2 <;> simp only [List.length_append] at h2 ⊢
    · exact ⟨by lia, Nat.zero_le _⟩
    · have h3 := kd_len ok e'
      exact ⟨by lia, h3.2⟩
theorem Zyj {body : Nd} {rows : List (List Nat × Sr)} {e : En} {sp : Int} {wh : Option Lf} {k : Kd} (GE : GdE e) (hk : (Zbz e sp rows wh (kd body)).1 = .ok k) : Gd k := by
  have hgr := fun e' => Zgn (sp := sp) (rows := rows) (e := e) (e' := e') GE
  unfold Zbz at hk
  rcases hp : Zac sp e rows with ⟨x | e', as⟩ <;> rw [hp] at hgr <;> simp only [hp] at hk
  · contradiction
  · rcases hq : kWh e' wh with ⟨y | u, as2⟩ <;> simp only [hq] at hk
    · contradiction
    · exact kd_gd (hgr e' rfl) hk
section
variable {scr : Addr} {cells : List PV} {σ : Store} {w : MW} {pt : Ct} {ds : List Addr} {cs : List Ct} {ad cd : Ct} {Q : QV} {X : XV'} {d : Nat}
noncomputable def FinK (w : MW) (ds : List Addr) (cs : List Ct) (ad cd : Ct) (Q : QV) (X : XV') (σ : Store) (r : R1 Kd) : Prop := ∀ σ', Mk σ' w predsT ds cs ad (putN r.2 cd) → Same [w.cl] σ σ' → Zew Q X r.1 σ'
theorem FinK.of {r r' : R1 Kd} (h : FinK w ds cs ad cd Q X σ r) (e : r = r') : FinK w ds cs ad cd Q X σ r' := e ▸ h
theorem Zxx {lo : Loc} {c : Bool} {sp : Int} {n : Nat} {k : Kd} (M : Mk σ w predsT ds cs ad cd) (gk : k.n ≤ 9) (hcd : cd.length ≤ 1000) (hw : if c then n ∈ compNs else n ∈ genNames ∧ (takes n).isSome = true)
    (h103 : lo.get 103 = some (.obj w.mo)) (h85 : lo.get 85 = some (.tag (if c then 14 else 13))) (h67 : lo.get 67 = some (.int sp)) (h86 : lo.get 86 = some (.tag n)) (h98 : lo.get 98 = some k.pv)
    (h : FinK w ds cs ad cd Q X σ (Zaw c sp n k)) :
    Wp scr cells true (d + 7) (b357.drop 4) lo σ (Zbc Q) (Zag X) := by
  show Wp scr cells true _ (_ :: _) _ _ _ _
  cases hkn : (k.n == 0) with
  | false =>
    refine Zn (by walk_at "e") (by rw [Zbk, hkn]; rfl) ?_
    exact Zcg rfl (Msg.ev (N := 100000) .str rfl (by walk_at "l")) (by walk_at "e") (h.of (Zna hkn) σ M .refl)
  | true =>
    have hk0 : k.n = 0 := beq_iff_eq.mp hkn
    refine Zr (by walk_at "e") (by rw [Zbk, hkn]; rfl) <| Zf ?_
    cases c with
    | true =>
      have h := h.of (Zle hkn) σ M .refl
      simp only [if_true, compNs, List.mem_cons, List.not_mem_nil, or_false] at hw
      rcases hw with rfl | rfl
      · refine Zn (.and2 (by walk_at "e") fun _ => by walk_at "e") rfl <| Zq <| Zc (by walk_at "es") rfl ?_
        cases hm : Zl k .i false 0 with
        | false =>
          rw [hm] at h
          exact Zca (w := kKNOWN) (by lia) gk (by decide) hm h
        | true =>
          rw [hm] at h
          refine Zbu (w := kKNOWN) (by lia) gk (by decide) hm <| Zy ?_
          exact Zg (by walk_at "e") h
      · refine Zr (.and2 (by walk_at "e") fun _ => by walk_at "e") rfl <| Zf ?_
        walk_at "s"
        exact Zg (.iteT (by walk_at "e") rfl (by walk_at "e")) h
    | false =>
      refine Zr (.and2 (b2 := false) (by walk_at "e") fun z => nomatch (show false = true from z)) rfl <| Zf ?_
      walk_at "s"
      refine Zt <| Zqc (by walk_at "e") rfl <| Zfg M (by walk_at "e") rfl rfl <| Zj (by walk_at "e") <| Zh <| Zbs (by walk_at "es") (by walk_at "l") fun kl hkl => Zk <| Zbv (by walk_at "es") ?_
      have M1 := M.keep (Same.new (o := .list [Kd.pv ⟨k.b, k.v, 1⟩]) hkl)
      have nsl : kl ≠ w.sl := fun z => by have := M.isl; rw [← z, hkl] at this; contradiction
      exact Zaax (k := k) (by lia) M1 Zb nsl hk0 hw.1 hw.2 hcd fun σ' M' S' => h σ' M' (Same.drop3 (A := [w.cl]) hkl S')
noncomputable def Zyu (c : Bool) (sp : Int) (n : Nat) (r : R2) : R2 := match r with
  | (.error i, as, cl) => (.error i, as, cl)
  | (.ok k, as, cl) => ((Zaw c sp n k).1, as, cl ++ (Zaw c sp n k).2)
theorem Zld {lo : Loc} {c : Bool} {e : En} {sp : Int} {n : Nat} {rows : List (List Nat × Sr)} {wh : Option Lf} {body : Nd} {need : Nat} (hrows : ∀ r ∈ rows, Zcq r) (hrl : rows.length ≤ 2) (ok : NdOk body) (hb : KKin scr cells body.pv (kd body) need body.sz) (hd : need ≤ d + 6)
    (M : Mk σ w predsT ds cs ad cd) (EO : EnOk e cs) (GE : GdE e) (hl : ds.length + body.sz + 16 ≤ 1000) (had : ad.length + body.sz + 16 ≤ 1000) (hcd : cd.length + body.sz + 16 ≤ 1000) (hw2 : if c then n ∈ compNs else n ∈ genNames ∧ (takes n).isSome = true)
    (h103 : lo.get 103 = some (.obj w.mo)) (h85 : lo.get 85 = some (.tag (if c then 14 else 13))) (h92 : lo.get 92 = some (Zav c sp n rows wh body.pv)) (h67 : lo.get 67 = some (.int sp)) (h86 : lo.get 86 = some (.tag n))
    (h : KinK w ds cs ad cd Q X σ (Zyu c sp n (Zbz e sp rows wh (kd body)))) : Wp scr cells true (d + 7) (b357.drop 2) lo σ (Zbc Q) (Zag X) := by
  refine Zq (r := b357.drop 3) <| Zet M (.var h103) rfl rfl .nil <| Zaau M (by lia) fun a σ1 ha nda M1 S1 => Zy ?_
  have fin : ∀ {σ'}, Same [w.as, w.cl, w.sl, a] σ1 σ' → Same [w.as, w.cl, w.sl] σ σ' := fun {σ'} S => Same.drop (A := [w.as, w.cl, w.sl]) ((S1.mono (B := [w.as, w.cl, w.sl, a]) (by simp)).trans S) ha
  have lens := Zuv ok (rows := rows) (e := e) (sp := sp) (wh := wh)
  have hgb := fun k => Zyj (body := body) (rows := rows) (sp := sp) (wh := wh) (k := k) GE
  refine Zaao (r := b357.drop 4) <| Zso (d := d + 1) (c := c) (e := e) (sp := sp) (n := n) (rows := rows) (wh := wh) ok hb (by lia) hrows hrl EO.1 nda M1 EO.push GE (by lia) (by lia) (by lia) h103 h92 h67 ?_
  rcases hp : Zbz e sp rows wh (kd body) with ⟨x | k, as, cl⟩ <;> rw [hp] at lens hgb h
  · intro lo' σ' c' k103 M' S'
    show Wp scr cells false (d + 7) b357_3 lo' σ' _ _
    refine Zq (r := []) <| Zet M' (.var k103) rfl rfl .nil <| Zvh M' (by lia) fun σ2 M2 S2 => Zy <| Zak ?_
    exact h σ2 M2 (fin (S'.trans (S2.mono (by simp))))
  · intro lo' σ' c' hlo' k98 M' S'
    have k103 := hlo'.get h103 (by decide)
    show Wp scr cells true (d + 7) b357_3 lo' σ' _ _
    refine Zq (r := []) <| Zet M' (.var k103) rfl rfl .nil <| Zvh M' (by lia) fun σ2 M2 S2 => Zy <| Zak ?_
    have M2 : Mk σ2 w predsT ds cs (putN as ad) (putN cl cd) := M2
    have pc := @putN_len cl cd
    simp only at lens
    exact Zxx (c := c) (sp := sp) (n := n) (k := k) M2 (hgb k rfl).le (by lia) hw2 k103 (hlo'.get h85 (by decide)) (hlo'.get h67 (by decide)) (hlo'.get h86 (by decide)) k98 fun σ3 M3 S3 => h σ3 (by show Mk _ _ _ _ _ _ (putN (cl ++ _) cd); rw [Zs]; exact M3) (fin (S'.trans ((S2.mono (by simp)).trans (S3.mono (by simp)))))
theorem Zgw {c : Bool} {e : En} {sp : Int} {n : Nat} {rows : List (List Nat × Sr)} {wh : Option Lf} {body : Nd} {need : Nat} (mo : Zbr c n rows) (ok : NdOk body) (hb : KKin scr cells body.pv (kd body) need body.sz) (hd : need ≤ d + 6)
    (M : Mk σ w predsT ds cs ad cd) (EO : EnOk e cs) (GE : GdE e) (hl : ds.length + body.sz + 16 ≤ 1000) (had : ad.length + body.sz + 16 ≤ 1000) (hcd : cd.length + body.sz + 16 ≤ 1000)
    (h : KinK w ds cs ad cd Q X σ (Zas c e sp n rows wh (kd body))) :
    Cal scr cells true (d + 7) 357 [.obj w.mo, .tag (if c then 14 else 13), Zav c sp n rows wh body.pv] σ Q X := by
  obtain ⟨hw, hrows, hrl⟩ := mo
  have h := h.of (r' := if !c && (takes n).isNone then (.error sp, [], []) else Zyu c sp n (Zbz e sp rows wh (kd body))) Zoo
  refine Zd rfl rfl <| Zjq (.tup (.cons (.sub (.var rfl) .int (.tup rfl)) (.cons (.sub (.var rfl) .int (.tup rfl)) .nil)) (by walk_at "l")) rfl rfl ?_
  cases c with
  | true =>
    refine Zr (r := b357.drop 2) (.and2 (b2 := false) (by walk_at "e") fun z => nomatch (show false = true from z)) rfl <| Zf ?_
    exact Zld (c := true) hrows hrl ok hb hd M EO GE hl had hcd hw rfl rfl rfl rfl rfl h
  | false =>
    refine Zbd (r := b357.drop 2) <| Zbo <| Zcx (by walk_at "e") rfl <| Zcp <| Zeo <| Zv M (by walk_at "e") rfl rfl (by walk_at "es") <| Zaav hw M <| Zgg ?_
    cases hs : takes n with
    | none =>
      rw [hs] at h
      refine Zel ?_
      exact Zcg rfl (by walk_at "t") (by walk_at "e") (h σ M .refl)
    | some x =>
      rw [hs] at h
      refine Zdb <| Zf ?_
      exact Zld (c := false) hrows hrl ok hb hd M EO GE hl had hcd ⟨hw, by rw [hs]; rfl⟩ rfl rfl rfl rfl rfl h
end
noncomputable def needK : Nd → Nat
  | .lf _ => 1
  | .bin _ _ a _ => needK a + 7
  | .idx _ _ i => needK i + 5
  | .gen _ _ _ _ body => needK body + 9
section
variable {scr : Addr} {cells : List PV} {σ : Store} {w : MW} {pt : Ct} {ds : List Addr} {cs : List Ct} {ad cd : Ct} {Q : QV} {X : XV'} {d : Nat}
theorem KKin.mono {nv : PV} {res : En → R2} {n m cost : Nat} (h : n ≤ m) (k : KKin scr cells nv res n cost) : KKin scr cells nv res m cost :=
  fun D e σ w ds cs ad cd Q X hD => k D e σ w ds cs ad cd Q X (Nat.le_trans h hD)
theorem Zpr {sp : Int} {n : Nat} {rows : List (List Nat × Sr)} {wh : Option Lf} {body : Nd} {need : Nat} (mo : Zbr false n rows) (ok : NdOk body) (hb : KKin scr cells body.pv (kd body) need body.sz) :
    KKin scr cells (Nd.gen sp n rows wh body).pv (kd (.gen sp n rows wh body)) (need + 9) (body.sz + 20) := by
  intro D e σ w ds cs ad cd Q X hD M EO GE hl had hcd h
  obtain ⟨d, rfl⟩ : ∃ d, D = d + 8 := ⟨D - 8, by lia⟩
  refine Zd rfl rfl ?_
  iterate 15 walk_at "s"
  exact Zn (by walk_at "e") rfl <| Zt <| Zv M (by walk_at "e") rfl rfl (by walk_at "es") <| Zgw (c := false) (d := d) mo ok hb (by lia) M EO GE (by lia) (by lia) (by lia) h
theorem kk_nd : ∀ nd : Nd, NdOk nd → KKin scr cells nd.pv (kd nd) (needK nd) nd.sz ∧ KKin scr cells nd.base.pv (kd nd.base) (needK nd) nd.base.sz
  | .lf l, _ => ⟨Zgf l, Zgf l⟩
  | .bin sp s a b, ok => by
    obtain ⟨h1, h2⟩ := kk_nd a ok
    exact ⟨Zabg ok h2, h2.mono (by show needK _ ≤ needK _ + 7; lia)⟩
  | .idx sp t i, ok => by
    obtain ⟨h1, _⟩ := kk_nd i ok
    exact ⟨Zpq ok h1, Zpq ok h1⟩
  | .gen sp n rows wh body, ok => by
    obtain ⟨h1, _⟩ := kk_nd body ok.2
    exact ⟨Zpr ok.1 ok.2 h1, Zpr ok.1 ok.2 h1⟩
theorem Zxa {c : Bool} {e : En} {sp : Int} {n : Nat} {rows : List (List Nat × Sr)} {wh : Option Lf} {body : Nd} (mo : Zbr c n rows) (ok : NdOk body) (hd : needK body ≤ d + 6)
    (M : Mk σ w predsT ds cs ad cd) (EO : EnOk e cs) (GE : GdE e) (hl : ds.length + body.sz + 16 ≤ 1000) (had : ad.length + body.sz + 16 ≤ 1000) (hcd : cd.length + body.sz + 16 ≤ 1000)
    (h : ∀ σ', Mk σ' w predsT ds cs (putN (Zas c e sp n rows wh (kd body)).2.1 ad) (putN (Zas c e sp n rows wh (kd body)).2.2 cd) → Same [w.as, w.cl, w.sl] σ σ' → Q (resPV (Zas c e sp n rows wh (kd body)).1) σ') :
    Cal scr cells true (d + 8) 600 [.obj w.mo, .tag (if c then 14 else 13), Zav c sp n rows wh body.pv] σ Q X := by
  refine Zd rfl rfl <| Zwu <| Zt <| Zbl <| Zh <| Zv M (by walk_at "e") rfl rfl (by walk_at "es") <| Zgw (c := c) (d := d) mo ok (kk_nd body ok).1 hd M EO GE hl had hcd fun σ' M' S' => ?_
  have h := h σ' M' S'
  rcases hp : (Zas c e sp n rows wh (kd body)).1 with x | k <;> rw [hp] at h
  · exact h
  · exact Zk <| Zbv (by walk_at "es") <| Zbj (by walk_at "l") h
end
theorem Zce {σ : Store} {a b : Addr} {o : PO} (h : (σ.upd a o) b = none) : b ≠ a ∧ σ b = none := by
  unfold Store.upd at h
  split at h
  · contradiction
  · rename_i z; exact ⟨z, h⟩
theorem Zaaq {G : Pg} {T : Tb} {st : Bool} {d : Nat} {a : Addr} {vs : List PV} {σ : Store} {Q : QV} {X : XV'} (h : run G T (d + 1) st d a vs σ Q X) : run G T (d + 2) st d a vs σ Q X := .inl ⟨Nat.lt_succ_self _, h⟩
section
variable {scr : Addr} {cells : List PV} {σ : Store} {w : MW} {pt : Ct} {ds : List Addr} {cs : List Ct} {ad cd : Ct} {Q : QV} {X : XV'} {d : Nat}
theorem Znd {st : Bool} {a b : Addr} {t : Nat} {ts : List Nat} {ss : List Sm} {vs : List PV} (h0 : TP.df a = none) (h1 : TP.ci a = some b) (h2 : TP.df b = some (t :: ts, ss)) (hl : vs.length = ts.length)
    (h : ∀ x dx, σ x = none → σ dx = none → x ≠ dx → Za (GP scr cells) (run (GP scr cells) TP (d + 1)) st d ss (Zaz (t :: ts) (.obj x :: vs)) ((σ.upd dx (.attrs [])).upd x (.inst a dx)) (Zvf x Q) (Zag X)) : Cal scr cells st (d + 1) a vs σ Q X :=
  .inr ⟨rfl, by unfold Zjp; rw [h0, h1]; dsimp only; rw [h2]; exact ⟨hl, h⟩⟩
theorem Zxb (h : ∀ x dx a sl as σ', σ x = none → σ dx = none → σ a = none → σ sl = none → σ as = none → a ≠ as → σ' x = some (.inst 257 dx) → σ' dx = some (.attrs [(93, .obj sl), (104, .obj as)]) → σ' sl = some (.list [.obj a]) → σ' a = some (.dict []) → σ' as = some (.dict []) → Same [] σ σ' → Q (.obj x) σ') : Cal scr cells true (d + 1) 257 [] σ Q X := by
  refine Znd (ts := []) rfl rfl rfl rfl fun x dx hx hdx ne => ?_
  have f1 : ((σ.upd dx (.attrs [])).upd x (.inst 257 dx)) x = some (.inst 257 dx) := Zb
  have f2 : ((σ.upd dx (.attrs [])).upd x (.inst 257 dx)) dx = some (.attrs []) := by rw [Zad ne.symm]; exact Zb
  have f3 : Same [] σ ((σ.upd dx (.attrs [])).upd x (.inst 257 dx)) := (Same.new hdx).trans (Same.new (by rw [Zad ne]; exact hx))
  have f4 : ∀ b, ((σ.upd dx (.attrs [])).upd x (.inst 257 dx)) b = none → σ b = none := fun b hb => (Zce (Zce hb).2).2
  generalize ((σ.upd dx (.attrs [])).upd x (.inst 257 dx)) = σ0 at f1 f2 f3 f4
  refine Zgm (r := b226.drop 1) <| Zib <| Zh <| Zef rfl (Nat.zero_le _) .nil fun a (ha : σ0 a = none) => Zk <| Zae <| Zju (vs := [.obj a]) (Nat.le_of_ble_eq_true rfl) fun sl (hsl : (σ0.upd a (.dict [])) sl = none) => ?_
  have g1 := Zi (o := .list [.obj a]) (Zi (o := .dict []) f1 ha) hsl
  have g2 := Zi (o := .list [.obj a]) (Zi (o := .dict []) f2 ha) hsl
  have g3 : ((σ0.upd a (.dict [])).upd sl (.list [.obj a])) a = some (.dict []) := Zi Zb hsl
  have g4 : ((σ0.upd a (.dict [])).upd sl (.list [.obj a])) sl = some (.list [.obj a]) := Zb
  have g5 : Same [] σ0 ((σ0.upd a (.dict [])).upd sl (.list [.obj a])) := (Same.new ha).trans (Same.new hsl)
  have g6 : ∀ b, ((σ0.upd a (.dict [])).upd sl (.list [.obj a])) b = none → σ0 b = none := fun b hb => (Zce (Zce hb).2).2
  have hsl0 := (Zce hsl).2
  refine Zia (.var rfl) g1 g2 rfl (Nat.zero_le _) ?_
  show Za _ _ true _ (b226.drop 1) _ (((σ0.upd a (.dict [])).upd sl (.list [.obj a])).upd dx (.attrs [(93, .obj sl)])) _ _
  generalize ((σ0.upd a (.dict [])).upd sl (.list [.obj a])) = σ1 at g1 g2 g3 g4 g5 g6 ⊢
  refine Zgm (r := []) <| Zef rfl (Nat.zero_le _) .nil fun as (has : (σ1.upd dx (.attrs [(93, .obj sl)])) as = none) => ?_
  have has1 := (Zce has).2
  have ndx : ∀ {b p}, σ1 b = some p → p ≠ .attrs [] → b ≠ dx := fun {b p} e n z => by rw [z, g2] at e; exact n (Option.some.inj e).symm
  have k1 : (σ1.upd dx (.attrs [(93, .obj sl)])) x = some (.inst 257 dx) := by rw [Zad (ndx g1 (by simp))]; exact g1
  have j1 := Zi (o := .dict []) k1 has
  have j2 := Zi (o := .dict []) (show (σ1.upd dx (.attrs [(93, .obj sl)])) dx = _ from Zb) has
  refine Zia (.var rfl) j1 j2 rfl (Nat.le_of_ble_eq_true rfl) <| Zak ?_
  have nas : ∀ {b p}, σ1 b = some p → b ≠ as := fun {b p} e z => by rw [z, has1] at e; contradiction
  refine h x dx a sl as _ hx hdx (f4 _ ha) (f4 _ hsl0) (f4 _ (g6 _ has1)) (nas g3) ?_ Zb ?_ ?_ ?_ ?_
  · rw [Zad (ndx g1 (by simp))]; exact j1
  · rw [Zad (ndx g4 (by simp)), Zad (nas g4), Zad (ndx g4 (by simp))]; exact g4
  · rw [Zad (ndx g3 (by simp)), Zad (nas g3), Zad (ndx g3 (by simp))]; exact g3
  · rw [Zad (Zce has).1, Zb]; rfl
  · have S : Same [dx] σ1 (((σ1.upd dx (.attrs [(93, .obj sl)])).upd as (.dict [])).upd dx (.attrs [(93, .obj sl), (104, .obj as)])) := (Same.upd (by exact .head _)).trans ((Same.new has).trans (Same.upd (by exact .head _)))
    exact Same.drop (A := []) ((f3.mono (B := [dx]) (by simp)).trans ((g5.mono (by simp)).trans S)) hdx
structure KS (σ : Store) (x dx nm nd sl as a0 : Addr) (es : Ct) (D : List Addr) : Prop where
  ix : σ x = some (.inst 494 dx)
  id : σ dx = some (.attrs es)
  inm : σ nm = some (.inst 257 nd)
  ind : σ nd = some (.attrs [(93, .obj sl), (104, .obj as)])
  isl : σ sl = some (.list [.obj a0])
  dd : ∀ p ∈ D, σ p = some (.dict [])
  nd' : D.Nodup
  nn : nd ≠ dx
theorem KS.set {x dx nm nd sl as a0 : Addr} {es es' : Ct} {D : List Addr} (K : KS σ x dx nm nd sl as a0 es D) : KS (σ.upd dx (.attrs es')) x dx nm nd sl as a0 es' D := by
  have k : ∀ {b o}, σ b = some o → o ≠ .attrs es → (σ.upd dx (.attrs es')) b = some o := fun {b o} e n => by
    rw [Zad fun z => by rw [z, K.id] at e; exact n (Option.some.inj e).symm]; exact e
  exact ⟨k K.ix (by simp), Zb, k K.inm (by simp), by rw [Zad K.nn]; exact K.ind, k K.isl (by simp), fun p hp => k (K.dd p hp) (by simp), K.nd', K.nn⟩
theorem KS.new {x dx nm nd sl as a0 : Addr} {es : Ct} {D : List Addr} (K : KS σ x dx nm nd sl as a0 es D) {p : Addr} (hp : σ p = none) : KS (σ.upd p (.dict [])) x dx nm nd sl as a0 es (p :: D) := by
  refine ⟨Zi K.ix hp, Zi K.id hp, Zi K.inm hp, Zi K.ind hp, Zi K.isl hp, fun q hq => ?_, List.nodup_cons.mpr ⟨fun z => absurd (K.dd p z) (by rw [hp]; decide), K.nd'⟩, K.nn⟩
  rcases List.mem_cons.mp hq with rfl | hq
  · exact Zb
  · exact Zi (K.dd q hq) hp
theorem Zhz {S : Spec} {σ0 : Store} {x dx nm nd sl as a0 : Addr} {es : Ct} {D : List Addr} {lo : Loc} {t : Nat} {p1 p2 p p3 : Pos} {r : List Sm} {Q : QS} {X : XS} (K : KS σ x dx nm nd sl as a0 es D) (S0 : Same [dx] σ0 σ) (h103 : lo.get 103 = some (.obj x)) (ha : (GP scr cells).at_ 494 t = true) (l : es.length ≤ 100)
    (w : ∀ p σ', σ p = none → KS σ' x dx nm nd sl as a0 (Ze t (.obj p) es) (p :: D) → Same [dx] σ0 σ' → Za (GP scr cells) S true d r lo σ' Q X) : Za (GP scr cells) S true d (.setA (.var 103 p1) t p2 (.dct [] [] p3) p :: r) lo σ Q X :=
  Zgm <| Zef rfl (Nat.zero_le _) .nil fun p hp => Zia (.var h103) (K.new hp).ix (K.new hp).id ha l (w p _ hp (K.new hp).set (S0.trans ((Same.new (o := .dict []) hp).trans (Same.upd (by exact .head _)))))
theorem Zxc (h : ∀ w a0 σ', Mk σ' w [] [a0] [[]] [] [] → Same [] σ σ' → (∀ b, σ b ≠ none → b ∉ [w.as, w.cl, w.sl, w.pr, a0]) → Q (.obj w.mo) σ') : Cal scr cells true (d + 3) 494 [] σ Q X := by
  refine Znd (d := d + 2) (ts := []) rfl rfl rfl rfl fun x dx hx hdx ne => ?_
  have f1 : ((σ.upd dx (.attrs [])).upd x (.inst 494 dx)) x = some (.inst 494 dx) := Zb
  have f2 : ((σ.upd dx (.attrs [])).upd x (.inst 494 dx)) dx = some (.attrs []) := by rw [Zad ne.symm]; exact Zb
  have f3 : Same [] σ ((σ.upd dx (.attrs [])).upd x (.inst 494 dx)) := (Same.new hdx).trans (Same.new (by rw [Zad ne]; exact hx))
  generalize ((σ.upd dx (.attrs [])).upd x (.inst 494 dx)) = σ0 at f1 f2 f3
  refine Zgm (r := b275.drop 1) <| Zc .nil rfl <| Zaaq <| Zxb fun nm nd a0 sl as σ1 hnm hnd ha0 hsl has nas g1 g2 g3 g4 g5 S1 => ?_
  have K1 : KS σ1 x dx nm nd sl as a0 [] [as, a0] := by
    refine ⟨S1.at f1 (by simp), S1.at f2 (by simp), g1, g2, g3, fun p hp => ?_, by simp [Ne.symm nas], fun z => by rw [z, f2] at hnd; contradiction⟩
    simp only [List.mem_cons, List.not_mem_nil, or_false] at hp
    rcases hp with rfl | rfl
    · exact g5
    · exact g4
  have S01 : Same [dx] σ σ1 := (f3.trans S1).mono (by simp)
  have S02 : Same [dx] σ (σ1.upd dx (.attrs [(83, .obj nm)])) := S01.trans (Same.upd (by exact .head _))
  refine Zia (.var rfl) K1.ix K1.id rfl (Nat.zero_le _) <| Zhz (r := b275.drop 2) K1.set S02 rfl rfl (Nat.le_of_ble_eq_true rfl) fun pr σ3 hpr K3 S03 => ?_
  refine Zhz (r := b275.drop 3) K3 S03 rfl rfl (Nat.le_of_ble_eq_true rfl) fun q1 σ4 hq1 K4 S04 => ?_
  refine Zhz (r := b275.drop 4) K4 S04 rfl rfl (Nat.le_of_ble_eq_true rfl) fun q2 σ5 hq2 K5 S05 => ?_
  have S06 := S05.trans (Same.upd (σ := σ5) (a := dx) (o := .attrs [(83, .obj nm), (105, .obj pr), (106, .obj q1), (107, .obj q2), (108, .bool false)]) (by exact .head _))
  refine Zpg (r := b275.drop 5) .bool (.var rfl) K5.ix K5.id rfl (Nat.le_of_ble_eq_true rfl) <| Zhz (r := []) K5.set S06 rfl rfl (Nat.le_of_ble_eq_true rfl) fun cl σ7 hcl K7 S07 => Zak ?_
  have nd := K7.nd'
  simp only [List.nodup_cons, List.mem_cons, List.not_mem_nil, or_false, not_or] at nd
  obtain ⟨⟨c1, c2, c3, c4, c5⟩, ⟨e1, e2, e3, e4⟩, ⟨i1, i2, i3⟩, ⟨j1, j2⟩, k1, _⟩ := nd
  refine h ⟨x, dx, nm, nd, sl, as, cl, pr, q1, q2⟩ a0 σ7 ⟨K7.ix, K7.id, K7.inm, K7.ind, K7.isl, K7.dd _ (by simp), K7.dd _ (by exact .head _), K7.dd _ (by simp), .cons (K7.dd _ (by simp)) .nil, fun z => c4 z.symm, fun z => j1 z.symm, c3, by simpa using k1, by simpa using c5, by simpa using j2⟩ (Same.drop (A := []) S07 hdx) fun b hb => ?_
  have bdx : b ∉ [dx] := by simpa using fun z : b = dx => hb (by rw [z]; exact hdx)
  have ne : ∀ {σi : Store} {p : Addr}, Same [dx] σ σi → σi p = none → b ≠ p := fun {σi p} S hp z => by
    have := S b hb bdx
    rw [z, hp] at this
    exact hb (by rw [z]; exact this.symm)
  simp only [List.mem_cons, List.not_mem_nil, or_false, not_or]
  have f3' : Same [dx] σ σ0 := f3.mono (by simp)
  exact ⟨ne f3' has, ne S06 hcl, ne f3' hsl, ne S02 hpr, ne f3' ha0⟩
end
noncomputable def worldKs : List (Nat × Kd) := [(25, ⟨.i, false, 0⟩), (26, ⟨.i, true, 0⟩), (27, ⟨.b, false, 0⟩), (28, ⟨.b, true, 0⟩), (29, ⟨.s, false, 0⟩), (30, ⟨.i, false, 1⟩), (31, ⟨.i, true, 1⟩), (32, ⟨.b, true, 1⟩), (33, ⟨.i, false, 2⟩), (34, ⟨.t, false, 0⟩)]
theorem world_eq : worldT = worldKs.map fun x => (x.1, x.2.pv) := rfl
noncomputable def Zcs (t : Nat) : Option Kd := worldKs.lookup t
theorem get_map : ∀ (l : List (Nat × Kd)) (t : Nat), Loc.get (l.map fun x => (x.1, x.2.pv)) t = (l.lookup t).map Kd.pv
  | [], t => rfl
  | (u, k) :: r, t => by
    rw [List.map_cons, Zbn, List.lookup_cons]
    by_cases h : u = t
    · subst h; simp
    · have : (t == u) = false := beq_eq_false_iff_ne.mpr (Ne.symm h)
      rw [if_neg h, this]; exact get_map r t
theorem Zeg (t : Nat) : Loc.get worldT t = (Zcs t).map Kd.pv := by rw [world_eq]; exact get_map _ _
noncomputable def wv (t : Nat) : PV := (Loc.get worldT t).getD .none
noncomputable def cOf (ts : List Nat) : Ct := ts.map fun t => (t, wv t)
theorem Ziu {t : Nat} : ∀ {ts : List Nat}, Loc.get (cOf ts) t = if t ∈ ts then some (wv t) else none
  | [] => rfl
  | u :: r => by
    have ih := @Ziu t r
    show (if u = t then some (wv u) else Loc.get (cOf r) t) = _
    by_cases h : u = t
    · subst h; simp
    · have : ¬ t = u := fun z => h z.symm
      rw [if_neg h, ih]; simp [this]
theorem Zfi {t : Nat} {v : PV} : ∀ {es : Ct}, Loc.get es t = none → Ze t v es = es ++ [(t, v)]
  | [], _ => rfl
  | (u, x) :: r, h => by
    rw [Zbn] at h
    split at h
    · contradiction
    · rename_i hu
      rw [Zey, if_neg hu, Zfi h]; rfl
noncomputable def wnames : List Nat := worldKs.map (·.1)
theorem Zfe {t : Nat} (h : t ∈ wnames) : ∃ k, Zcs t = some k ∧ wv t = k.pv := by
  have : ∀ t ∈ wnames, (Zcs t).isSome = true := by decide
  obtain ⟨k, hk⟩ := Option.isSome_iff_exists.mp (this t h)
  exact ⟨k, hk, by unfold wv; rw [Zeg, hk]; rfl⟩
theorem Zql {t : Nat} (h : t ∉ wnames) : Zcs t = none := by
  unfold Zcs
  rw [List.lookup_eq_none_iff]
  intro x hx
  rw [bne_iff_ne]
  exact fun z => h (by rw [z]; exact List.mem_map_of_mem hx)
theorem Zmm {k : Kd} : eqP k.pv k.pv = true := by
  show ((k.b.tag == k.b.tag) && ((k.v == k.v) && (((k.n : Int) == (k.n : Int)) && true))) = true
  rw [beq_self_eq_true, beq_self_eq_true, beq_self_eq_true]; rfl
theorem Ztk {k : Kd} : plainP 8 k.pv = true := Zff
section
variable {scr : Addr} {cells : List PV} {σ : Store} {w : MW} {pt : Ct} {ds : List Addr} {cs : List Ct} {ad cd : Ct} {Q : QV} {X : XV'} {d : Nat}
theorem Zacn {a : Addr} {c : Ct} {t : Nat} {v : PV} {i : Int} (M : Mk σ w pt [a] [c] ad cd) (hg : Loc.get c t = none) (hc : c.length ≤ 1000) (h : Mk (σ.upd a (.dict (c ++ [(t, v)]))) w pt [a] [c ++ [(t, v)]] ad cd → Q .none (σ.upd a (.dict (c ++ [(t, v)])))) : Cal scr cells true d 247 [.obj w.nm, .tag t, v, .int i] σ Q X := by
  have ea : σ a = some (.dict c) := (Dcs.unsnoc (ds := []) (cs := []) M.dcs).2
  have hs := Zfi (v := v) hg
  refine Zd rfl rfl <| Zr (.cmp (.var rfl) (.sub (Zar M (.var rfl)) .minus (Zda (ds := []) M.isl (by decide))) (.in_ (.dict ea))) (by rw [hg]; rfl) <| Zf <| Zcu (.var rfl) (.sub (Zar M (.var rfl)) .minus (Zda (ds := []) M.isl (by decide))) (.var rfl) ea hc <| Zak ?_
  rw [hs]
  exact h (Mk.store (ds := []) (cs := []) M (by simp))
theorem Zoa {lo : Loc} {a : Addr} {done : List Nat} {t : Nat} {Q : QS} {X : XS} (M : Mk σ w pt [a] [cOf done] ad cd) (hg : Loc.get (cOf done) t = none) (hw : Loc.get worldT t = some (wv t)) (hl : done.length ≤ 1000) (e99 : lo.get 99 = some (.obj w.mo)) (e5 : lo.get 5 = some (.tag t))
    (h : ∀ σ', Mk σ' w pt [a] [cOf (done ++ [t])] ad cd → Same [a] σ σ' → Q .next lo σ') : Wp scr cells true (d + 1) b607_1 lo σ Q X := by
  have ec : cOf done ++ [(t, wv t)] = cOf (done ++ [t]) := by simp only [cOf, List.map_append]; rfl
  rw [← ec] at h
  refine Zq (r := []) <| Zet M (.var e99) rfl rfl (.cons (.var e5) (.cons (.sub (.glob rfl) (.var e5) (.cd gcd_world hw)) (.cons .int .nil))) <| Zacn M hg (by simp only [cOf, List.length_map]; exact hl) fun M' => Zy <| Zak ?_
  exact h _ M' (Same.upd (by exact .head _))
theorem Zic {a : Addr} {g : Pos} {X : XS} : ∀ (ms done : List Nat) {lo : Loc} {σ : Store} {Q : QS}, Mk σ w pt [a] [cOf done] ad cd → (done ++ ms).Nodup → (∀ t ∈ ms, t ∈ wnames) → done.length + ms.length ≤ 1000 → lo.get 99 = some (.obj w.mo) →
    (∀ lo' σ', upP [5] lo lo' → Mk σ' w pt [a] [cOf (done ++ ms)] ad cd → Same [a] σ σ' → Q .next lo' σ') →
    Zax (.one 5 g) (Wp scr cells true (d + 1) b607_1) (ms.map .tag) lo σ Q X
  | [], done, lo, σ, Q, M, hn, hm, hl, h99, h => Zgj (h lo σ .refl (by rw [List.append_nil]; exact M) .refl)
  | t :: ms, done, lo, σ, Q, M, hn, hm, hl, h99, h => by
    simp only [List.length_cons] at hl
    have e99 := Zm (u := 5) (x := .tag t) rfl h99
    obtain ⟨k, hk1, hk2⟩ := Zfe (hm t (.head _))
    have hw : Loc.get worldT t = some (wv t) := by rw [Zeg, hk1, hk2]; rfl
    have hg : Loc.get (cOf done) t = none := by
      rw [Ziu, if_neg]
      intro z
      exact (List.nodup_append.mp hn).2.2 t z t (List.mem_cons_self) rfl
    refine Zbe rfl <| Zoa M hg hw (by lia) e99 rfl fun σ1 M1 S1 => ?_
    refine Zic ms (done ++ [t]) M1 (by rw [List.append_assoc]; exact hn) (fun u hu => hm u (.tail _ hu)) (by rw [List.length_append, List.length_singleton]; lia) e99 fun lo' σ' hlo' M' S' => ?_
    rw [List.append_assoc] at M'
    exact h lo' σ' ((upP.refl.cons (by exact .head _)).trans hlo') M' (S1.trans S')
end
section
variable {scr : Addr} {cells : List PV} {σ : Store} {w : MW} {pt : Ct} {ds : List Addr} {cs : List Ct} {ad cd : Ct} {Q : QV} {X : XV'} {d : Nat}
theorem Zwt {G : Pg} {S : Spec} {st : Bool} {lo : Loc} {o i e : Ex} {p p₁ : Pos} {r : List Sm} {Q : QS} {X : XS} (w : wpE G S st d e lo σ (Zay (wpE G S st d o lo) (fun v => Zay (wpE G S st d i lo) (Znp lo (Zaa (Za G S st d r) Q X) v) (Zo X lo)) (Zo X lo)) (Zo X lo)) : Za G S st d (.setS o i p₁ e p :: r) lo σ Q X := w
theorem Zyg {G : Pg} {S : Spec} {st : Bool} {lo : Loc} {sf m x y : Nat} {it : Ex} {own : Scope} {p1 p2 p3 p4 p5 p6 p7 p : Pos} {k : Nat} {a c dd f : Addr} {kt z : PV} {es : List (Nat × PV)} (hs : st = true) (h : lo.get sf = some (.obj a)) (hi : Ev G st σ lo it (.tup [.tup [kt, z]])) (h1 : σ a = some (.inst c dd)) (h2 : σ dd = some (.attrs es)) (hm : G.mt c m = some f) (hn : Loc.get es m = none) (w : S st d f [.obj a, kt] σ (Zsd Q) (fun _ _ => False)) : wpE G S st (d + 1) (.kcomp sf m x y it own p1 p2 p3 p4 p5 p6 k p7 p) lo σ Q X := ⟨hs, a, h, hi S _ _ X ⟨kt, z, d, c, dd, es, f, rfl, rfl, ⟨rfl, h1, h2⟩, hm, hn, w⟩⟩
theorem Zxu {G : Pg} {S : Spec} {st : Bool} {lo : Loc} {a : Addr} {vs : List PV} (l : σ a = some (.list vs)) (n : vs.length ≤ 1000) (q : Q (.tup vs) σ) : Zdl (Zz G S st d [] lo) (Zdz G st 188 Q) X (.obj a) σ := Zdm (fun z => by contradiction) ⟨a, vs, rfl, l, n, q⟩
theorem Zwz {dims : List PV} (hl : dims.length ≤ 1000) (h : Q (.tup [.tag 0, .bool true, .int dims.length]) σ) : Cal scr cells true d 451 [.obj w.mo, .tup [.tag 0, .bool true, .tup dims, .none]] σ Q X :=
  Zd rfl rfl <| Zg (.tup (.cons (.sub (.var rfl) .int (.tup rfl)) (.cons (.sub (.var rfl) .int (.tup rfl)) (.cons (.len (.sub (.var rfl) .int (.tup rfl)) rfl (.tup rfl) hl) .nil))) (Nat.le_of_ble_eq_true rfl)) h
theorem Zpi {t : Nat} {dims : List PV} {m x : PV} (ht : t = 21 ∨ t = 22) (M : Mk σ w pt ds cs ad cd) (hg : Loc.get pt t = none) (hp : pt.length ≤ 1000) (hl : dims.length ≤ 1000)
    (h : ∀ σ', Mk σ' w (pt ++ [(t, .tup [.tup [.tag 0, .bool true, .int dims.length]])]) ds cs ad cd → Same [w.pr] σ σ' → Q .none σ') :
    Cal scr cells true (d + 1) 456 [.obj w.mo, .tup [.tag 68, .int 0, .tag t, .tup [.tup [.tup [.tag 0, .bool true, .tup dims, .none], m]], x]] σ Q X := by
  have hs := fun v => Zfi (v := v) hg
  refine Zd rfl rfl <| Zaj (.sub (.var rfl) .int (.tup rfl)) ?_
  have c1 : Loc.get callsT t = none := by rcases ht with rfl | rfl <;> rfl
  refine Zr (.or2 (.cmp (.var rfl) (.attr (.var rfl) M.imk M.imd rfl rfl) (.in_ (.dict M.ipr))) fun _ => .or2 (.cmp (.var rfl) (.glob rfl) (.in_ (.cd gcd_calls))) fun _ => .and1 (v := .bool false) (by rcases ht with rfl | rfl <;> walk_at "e")) (by rw [hg, c1]; rfl) <| Zf ?_
  refine Zwt (r := []) <| Zhm <| Zyg rfl rfl (.sub (.var rfl) .int (.tup rfl)) M.imk M.imd rfl rfl <| Zwz hl fun l hl2 => ?_
  have M1 := M.keep (Same.new (o := .list [.tup [.tag 0, .bool true, .int dims.length]]) hl2)
  refine Zxu Zb (Nat.le_of_ble_eq_true rfl) <| Zabk (.attr (.var rfl) M1.imk M1.imd rfl rfl) (.var rfl) M1.ipr hp <| Zak ?_
  rw [hs]
  exact h _ M1.pred ((Same.new hl2).trans (Same.upd (by simp)))
end
theorem Zgs {t : Nat} {v : PV} : ∀ {es : Ct}, Loc.get es t = some v → Ze t v es = es
  | [], h => by contradiction
  | (u, x) :: r, h => by
    rw [Zbn] at h
    rw [Zey]
    split at h
    · rename_i hu; obtain rfl := so h; rw [if_pos hu]
    · rename_i hu; rw [if_neg hu, Zgs h]
theorem putN_keep : ∀ {ts : List Nat} {es : Ct} {t : Nat}, Loc.get es t = some (.bool true) → Loc.get (putN ts es) t = some (.bool true)
  | [], es, t, h => h
  | u :: r, es, t, h => putN_keep (ts := r) (by rw [Zdo]; split; (rfl); exact h)
theorem putN_has : ∀ {ts : List Nat} {es : Ct} {t : Nat}, t ∈ ts → Loc.get (putN ts es) t = some (.bool true)
  | u :: r, es, t, h => by
    rcases List.mem_cons.mp h with rfl | h
    · exact putN_keep (ts := r) (by rw [Zdo, if_pos rfl])
    · exact putN_has (ts := r) h
theorem putN_same : ∀ {ts : List Nat} {es : Ct}, (∀ t ∈ ts, Loc.get es t = some (.bool true)) → putN ts es = es
  | [], es, _ => rfl
  | u :: r, es, h => by
    show putN r (Ze u (.bool true) es) = es
    rw [Zgs (h u (.head _))]
    exact putN_same fun t ht => h t (.tail _ ht)
theorem Zjd {ts : List Nat} {es : Ct} : putN ts (putN ts es) = putN ts es := putN_same fun t ht => putN_has ht
noncomputable def Zfo (es : Ct) : Prop := ∀ x ∈ es, x.2 = .bool true
theorem Zgt {t : Nat} : ∀ {es : Ct}, Zfo es → Zfo (Ze t (.bool true) es)
  | [], h => fun x hx => by rw [List.mem_singleton.mp hx]
  | (u, y) :: r, h => by
    have ih := @Zgt t r fun x hx => h x (.tail _ hx)
    rw [Zey]
    split
    · intro x hx
      rcases List.mem_cons.mp hx with rfl | hx
      · rfl
      · exact h x (.tail _ hx)
    · intro x hx
      rcases List.mem_cons.mp hx with rfl | hx
      · exact h _ (.head _)
      · exact ih x hx
theorem putN_allT : ∀ {ts : List Nat} {es : Ct}, Zfo es → Zfo (putN ts es)
  | [], _, h => h
  | _ :: r, _, h => putN_allT (ts := r) (Zgt h)
theorem Zhk {t : Nat} {v : PV} : ∀ {es : Ct}, Loc.get es t = some v → (t, v) ∈ es
  | (u, x) :: r, h => by
    rw [Zbn] at h
    split at h
    · rename_i hu; obtain rfl := so h; rw [hu]; exact .head _
    · exact .tail _ (Zhk h)
theorem Zjg {x : Nat × PV} : ∀ {es : Ct}, x ∈ es → ∃ v, Loc.get es x.1 = some v
  | (u, y) :: r, h => by
    rw [Zbn]
    split
    · exact ⟨_, rfl⟩
    · rename_i hu
      rcases List.mem_cons.mp h with rfl | h
      · exact absurd rfl hu
      · exact Zjg h
theorem Znf {es : Ct} (h : Zfo es) : Zbf es es = true := by
  unfold Zbf
  rw [beq_self_eq_true, Bool.true_and, List.all_eq_true]
  intro x hx
  obtain ⟨v, hv⟩ := Zjg hx
  rw [hv]
  have h1 := h x hx
  have h2 : v = .bool true := h (x.1, v) (Zhk hv)
  simp only [h1, h2]; rfl
theorem Zdp {es : Ct} (h : Zfo es) : Zam es = true := by
  unfold Zam
  rw [List.all_eq_true]
  intro x hx
  rw [h x hx]; rfl
theorem Ztf {r : Except Int Kd} : eqP (resPV r) (resPV r) = true := by
  rcases r with i | k
  · show (true && ((i == i) && true)) = true
    rw [beq_self_eq_true]; rfl
  · show (eqP k.pv k.pv && true) = true
    rw [Zmm]; rfl
theorem Zjc {r : Except Int Kd} : plainP 8 (resPV r) = true := by
  rcases r with i | k
  · rfl
  · show (plainP 7 k.pv && true) = true
    rw [Zff]; rfl
theorem Zqm {ms : List Nat} (hp : ms.Perm wnames) : Zbf (cOf ms) worldT = true := by
  unfold Zbf
  have hl : (cOf ms).length = worldT.length := by unfold cOf; rw [List.length_map, hp.length_eq]; rfl
  rw [hl, beq_self_eq_true, Bool.true_and, List.all_eq_true]
  intro x hx
  obtain ⟨t, ht, rfl⟩ := List.mem_map.mp hx
  obtain ⟨k, h1, h2⟩ := Zfe (hp.subset ht)
  show (match Loc.get worldT t with | some v => eqP (wv t) v | none => false) = true
  rw [Zeg, h1, h2]
  exact Zmm
theorem Zlw {ms : List Nat} (hp : ms.Perm wnames) : Zam (cOf ms) = true := by
  unfold Zam
  rw [List.all_eq_true]
  intro x hx
  obtain ⟨t, ht, rfl⟩ := List.mem_map.mp hx
  obtain ⟨k, h1, h2⟩ := Zfe (hp.subset ht)
  show plainP 8 (wv t) = true
  rw [h2]; exact Ztk
theorem worldT_plain : Zam worldT = true := rfl
noncomputable def e0 : En := fun t => (Zcs t).map fun k => (k, true)
theorem e0_world : EnOk e0 [worldT] := ⟨by decide, fun t => by
  show (match (([worldT] : List Ct)[0]?).bind fun c => Loc.get c t with | some v => some (v, (0 : Nat) == 0) | none => none) = _
  simp only [List.getElem?_cons_zero, Option.bind_some, Zeg, e0]
  cases Zcs t <;> rfl⟩
theorem Zabz {ms : List Nat} (hp : ms.Perm wnames) : EnOk e0 [cOf ms] := ⟨by simp, fun t => by
  show (match (([cOf ms] : List Ct)[0]?).bind fun c => Loc.get c t with | some v => some (v, (0 : Nat) == 0) | none => none) = _
  simp only [List.getElem?_cons_zero, Option.bind_some, Ziu, e0]
  by_cases h : t ∈ ms
  · obtain ⟨k, h1, h2⟩ := Zfe (hp.subset h)
    rw [if_pos h, h1, h2]; rfl
  · rw [if_neg h, Zql fun z => h (hp.symm.subset z)]; rfl⟩
theorem e0_gd : GdE e0 := by
  intro t k b h
  unfold e0 at h
  cases hk : Zcs t with
  | none => rw [hk] at h; contradiction
  | some k' =>
    rw [hk] at h
    cases h
    have : ∀ x ∈ worldKs, Gd x.2 := by
      intro x hx
      simp only [worldKs, List.mem_cons, List.not_mem_nil, or_false] at hx
      rcases hx with rfl | rfl | rfl | rfl | rfl | rfl | rfl | rfl | rfl | rfl <;> exact ⟨by decide, fun z => (by first | exact ⟨rfl, rfl⟩ | contradiction), fun z => by first | exact ⟨rfl, rfl⟩ | contradiction⟩
    unfold Zcs at hk
    have hm : (t, k) ∈ worldKs := by
      clear this
      generalize worldKs = l at hk
      induction l with
      | nil => contradiction
      | cons y r ih =>
        rw [List.lookup_cons] at hk
        split at hk
        · rename_i hy; obtain rfl := so hk; have := beq_iff_eq.mp hy; rw [this]; exact .head _
        · exact .tail _ (ih hk)
    exact this _ hm
structure LS (σ : Store) (w : MW) (a0 : Addr) (c ad cd : Ct) (nt n0 n1 : Addr) (sd ld : Ct) : Prop where
  omk : Mk σ w predsT [a0] [c] ad cd
  ont : σ nt = some (.list [.obj n0, .obj n1])
  on0 : σ n0 = some (.dict sd)
  on1 : σ n1 = some (.dict ld)
  k1 : nt ∉ [w.as, w.cl, w.sl]
  k2 : n0 ∉ [w.as, w.cl, w.sl]
  k3 : n1 ∉ [w.as, w.cl, w.sl]
section
variable {scr : Addr} {cells : List PV} {σ : Store} {w : MW} {pt : Ct} {ds : List Addr} {cs : List Ct} {ad cd : Ct} {Q : QV} {X : XV'} {d : Nat}
theorem Zade {G : Pg} {S : Spec} {st : Bool} {lo : Loc} {o : Ex} {u : Nat} {p1 p2 p : Pos} {a x y : Addr} {es fs : List (Nat × PV)} (h : Ev G st σ lo o (.obj a)) (ha : σ a = some (.list [.obj x])) (hu : G.gv u = some (.cd y)) (hx : σ x = some (.dict es)) (hy : G.cdt y = some fs) (k : Zam es = true) (l : Zam fs = true) (hs : st = true) (q : Q (.bool (!Zbf es fs)) σ) : wpE G S st d (.neW o u p1 p2 p) lo σ Q X := h S d _ X ⟨a, x, y, es, fs, rfl, ha, hu, hx, hy, k, l, q⟩
theorem Zvi {lo : Loc} {c : Bool} {sp : Int} {n : Nat} {rows : List (List Nat × Sr)} {wh : Option Lf} {body : Nd} {R : R2} {a0 nt n0 n1 : Addr} {ms : List Nat} {ad cd : Ct} {Q : QS} {X : XS} (hR : Zas c e0 sp n rows wh (kd body) = R) (hp : ms.Perm wnames) (mo : Zbr c n rows) (ok : NdOk body) (hd : needK body ≤ d + 6) (hz : body.sz ≤ 500) (had : ad.length ≤ 400) (hcd : cd.length ≤ 400)
    (L : LS σ w a0 (cOf ms) ad cd nt n0 n1 (putN R.2.1 []) (putN R.2.2 []))
    (h1 : putN R.2.1 ad = putN R.2.1 []) (h2 : putN R.2.2 cd = putN R.2.2 [])
    (h99 : lo.get 99 = some (.obj w.mo)) (h85 : lo.get 85 = some (.tag (if c then 14 else 13))) (h92 : lo.get 92 = some (Zav c sp n rows wh body.pv)) (h101 : lo.get 101 = some (resPV R.1)) (h94 : lo.get 94 = some (.obj nt))
    (h : ∀ σ', LS σ' w a0 (cOf ms) (putN R.2.1 []) (putN R.2.2 []) nt n0 n1 (putN R.2.1 []) (putN R.2.2 []) → Q .next lo σ') :
    Wp scr cells true (d + 9) b607_2 lo σ Q X := by
  refine Zbd (r := b607_2.drop 1) <| Zbo <| Zqk <| Zep <| Zc (.cons (.var h99) (.cons (.var h85) (.cons (.var h92) .nil))) rfl <| Zxa (d := d) (c := c) (e := e0) (sp := sp) (n := n) (rows := rows) (wh := wh) mo ok hd L.omk (Zabz hp) e0_gd (by rw [List.length_singleton]; lia) (by lia) (by lia) fun σ' M' S' => ?_
  rw [hR] at M' ⊢
  rw [h1, h2] at M'
  have ont := S'.at L.ont L.k1
  have on0 := S'.at L.on0 L.k2
  have on1 := S'.at L.on1 L.k3
  have a0d : σ' a0 = some (.dict (cOf ms)) := (Dcs.unsnoc (ds := []) (cs := []) M'.dcs).2
  have t1 : Zfo (putN R.2.1 []) := putN_allT (by intro x hx; contradiction)
  have t2 : Zfo (putN R.2.2 []) := putN_allT (by intro x hx; contradiction)
  have b0 : (!eqP (resPV R.1) (resPV R.1)) = false := by rw [Ztf]; rfl
  have b1 : (!Zbf (cOf ms) worldT) = false := by rw [Zqm hp]; rfl
  have b2 : (!Zbf (putN R.2.1 []) (putN R.2.1 [])) = false := by rw [Znf t1]; rfl
  have b3 : (!Zbf (putN R.2.2 []) (putN R.2.2 [])) = false := by rw [Znf t2]; rfl
  refine Zaf <| Zan (.var h101) <| Zgh (.ne (.v Zjc Zjc)) ?_
  rw [b0]
  refine Zacx <| Zcp <| Zade (Zar M' (.attr (.var h99) M'.imk M'.imd rfl rfl)) M'.isl rfl a0d gcd_world (Zlw hp) worldT_plain rfl ?_
  rw [b1]
  refine Zdb <| Zf ?_
  refine Zr (r := []) (.or2 (.cmp (.attr (.attr (.var h99) M'.imk M'.imd rfl rfl) M'.inm M'.ind rfl rfl) (.sub (.var h94) .int (.list ont rfl)) (.ne (.dict M'.ias on0 (Zdp t1) (Zdp t1)))) fun _ => .and1 (.cmp (.attr (.var h99) M'.imk M'.imd rfl rfl) (.sub (.var h94) .int (.list ont rfl)) (.ne (.dict M'.icl on1 (Zdp t2) (Zdp t2))))) (by rw [b2, b3]; rfl) <| Zf <| Zak ?_
  exact h σ' ⟨M', ont, on0, on1, L.k1, L.k2, L.k3⟩
end
theorem need_k : ∀ nd : Nd, needK nd ≤ 9 * nd.dp + 1
  | .lf _ => Nat.le_refl _
  | .bin _ _ a _ => by have := need_k a; show needK a + 7 ≤ 9 * (a.dp + 1) + 1; lia
  | .idx _ _ i => by have := need_k i; show needK i + 5 ≤ 9 * (i.dp + 1) + 1; lia
  | .gen _ _ _ _ body => by have := need_k body; show needK body + 9 ≤ 9 * (body.dp + 1) + 1; lia
theorem need_n : ∀ nd : Nd, needN nd ≤ 5 * nd.dp
  | .lf _ => Nat.le_refl _
  | .bin _ _ a _ => by have := need_n a; show needN a + 2 ≤ 5 * (a.dp + 1); lia
  | .idx _ _ i => by have := need_n i; show needN i + 2 ≤ 5 * (i.dp + 1); lia
  | .gen _ _ _ _ body => by have := need_n body; show needN body + 5 ≤ 5 * (body.dp + 1); lia
section
variable {scr : Addr} {cells : List PV} {σ : Store} {w : MW} {pt : Ct} {ds : List Addr} {cs : List Ct} {ad cd : Ct} {Q : QV} {X : XV'} {d : Nat}
theorem Ztw {lo : Loc} {c : Bool} {sp : Int} {n : Nat} {rows : List (List Nat × Sr)} {wh : Option Lf} {body : Nd} {R : R2} {a0 nt n0 n1 : Addr} {ms : List Nat} {Q : QS} {X : XS} (hR : Zas c e0 sp n rows wh (kd body) = R) (hp : ms.Perm wnames) (mo : Zbr c n rows) (ok : NdOk body) (hd : needK body ≤ d + 6) (hz : body.sz ≤ 500)
    (h3 : (putN R.2.1 []).length ≤ 400) (h4 : (putN R.2.2 []).length ≤ 400)
    (L : LS σ w a0 (cOf ms) [] [] nt n0 n1 (putN R.2.1 []) (putN R.2.2 []))
    (h99 : lo.get 99 = some (.obj w.mo)) (h85 : lo.get 85 = some (.tag (if c then 14 else 13))) (h92 : lo.get 92 = some (Zav c sp n rows wh body.pv)) (h101 : lo.get 101 = some (resPV R.1)) (h94 : lo.get 94 = some (.obj nt))
    (h : ∀ lo' σ', Q (.ret (.bool true)) lo' σ') :
    Wp scr cells true (d + 9) (b607.drop 8) lo σ Q X := by
  have g : ∀ {u v x}, Nat.beq 82 u = false → lo.get u = some v → Loc.get ((82, x) :: lo) u = some v := fun hu e => Zm hu e
  refine Zww (r := b607.drop 9) (vs := [.int 0, .int 1]) rfl .int rfl (by walk_at "l") <| Zbe (lo₁ := (82, .int 0) :: lo) rfl <| Zvi hR hp mo ok hd hz (Nat.zero_le _) (Nat.zero_le _) L rfl rfl (g rfl h99) (g rfl h85) (g rfl h92) (g rfl h101) (g rfl h94) fun σ₁ L₁ => ?_
  refine Zbe (lo₁ := (82, .int 1) :: (82, .int 0) :: lo) rfl <| Zvi hR hp mo ok hd hz h3 h4 L₁ Zjd Zjd (Zm rfl (g rfl h99)) (Zm rfl (g rfl h85)) (Zm rfl (g rfl h92)) (Zm rfl (g rfl h101)) (Zm rfl (g rfl h94)) fun σ₂ L₂ => ?_
  show Wp scr cells true (d + 9) (b607.drop 9) _ _ Q X
  exact Zg .bool (h _ _)
theorem Zty {lo : Loc} {c : Bool} {sp : Int} {n : Nat} {rows : List (List Nat × Sr)} {wh : Option Lf} {body : Nd} {R : R2} {a0 nt n0 n1 : Addr} {Q : QS} {X : XS} (hR : Zas c e0 sp n rows wh (kd body) = R) (mo : Zbr c n rows) (ok : NdOk body) (hd : needK body ≤ d + 6) (hz : body.sz ≤ 300)
    (M : Mk σ w [] [a0] [[]] [] [])
    (ont : σ nt = some (.list [.obj n0, .obj n1])) (on0 : σ n0 = some (.dict (putN R.2.1 []))) (on1 : σ n1 = some (.dict (putN R.2.2 [])))
    (k1 : nt ∉ [w.as, w.cl, w.sl, w.pr, a0]) (k2 : n0 ∉ [w.as, w.cl, w.sl, w.pr, a0]) (k3 : n1 ∉ [w.as, w.cl, w.sl, w.pr, a0])
    (h99 : lo.get 99 = some (.obj w.mo)) (h85 : lo.get 85 = some (.tag (if c then 14 else 13))) (h92 : lo.get 92 = some (Zav c sp n rows wh body.pv)) (h101 : lo.get 101 = some (resPV R.1)) (h94 : lo.get 94 = some (.obj nt))
    (h : ∀ lo' σ', Q (.ret (.bool true)) lo' σ') :
    Wp scr cells true (d + 9) (b607.drop 5) lo σ Q X := by
  have ml := Zkv (c := c) (e := e0) (sp := sp) (w := n) (wh := wh) (fun e => kd_len ok e) mo.2.2
  rw [hR] at ml
  have pl := @putN_len R.2.1 []
  have pl2 := @putN_len R.2.2 []
  simp only [List.length_nil] at pl pl2
  refine Zwx (r := b607.drop 6) rfl <| Zru (.glob rfl) rfl gcd_world (Nat.le_of_ble_eq_true rfl) fun ms hp hr a ha => ?_
  have S1 : Same [] σ ((σ.upd a (.list (ms.map .tag))).del a) := fun b hb _ => by
    have hne : b ≠ a := fun z => hb (by rw [z]; exact ha)
    simp only [Store.del, if_neg hne, Store.upd]
  have hw : ms.Perm wnames := hp
  refine .inr ⟨a, ms.map .tag, rfl, Zb, by rw [List.length_map, hw.length_eq]; exact Nat.le_of_ble_eq_true rfl, Zic ms [] (M.keep S1) (by rw [List.nil_append]; exact hw.nodup_iff.mpr (by decide)) (fun t ht => hw.subset ht) (by rw [hw.length_eq]; exact Nat.le_of_ble_eq_true rfl) h99 fun lo1 σ1 hlo M1 S2 => ?_⟩
  have T : Same [w.as, w.cl, w.sl, w.pr, a0] σ σ1 := (S1.mono (by simp)).trans (S2.mono (by simp))
  have h99 := hlo.get h99 (by decide)
  have h85 := hlo.get h85 (by decide)
  have h92 := hlo.get h92 (by decide)
  have h101 := hlo.get h101 (by decide)
  have h94 := hlo.get h94 (by decide)
  rw [List.nil_append] at M1
  show Wp scr cells true (d + 9) (b607.drop 6) _ _ _ _
  refine Zq (r := b607.drop 7) <| Zv M1 (.var h99) rfl rfl (by walk_at "es") <| Zpi (d := d + 7) (.inl rfl) M1 rfl (by decide) (by decide) fun σ2 M2 S3 => Zy ?_
  refine Zq (r := b607.drop 8) <| Zv M2 (.var h99) rfl rfl (by walk_at "es") <| Zpi (d := d + 7) (.inr rfl) M2 rfl (by decide) (by decide) fun σ3 M3 S4 => Zy ?_
  have T3 : Same [w.as, w.cl, w.sl, w.pr, a0] σ σ3 := T.trans ((S3.trans S4).mono (by simp))
  have lt : ∀ b, b ∉ [w.as, w.cl, w.sl, w.pr, a0] → b ∉ [w.as, w.cl, w.sl] := fun b hb z => hb (by
    simp only [List.mem_cons, List.not_mem_nil, or_false] at z ⊢
    rcases z with z | z | z <;> simp [z])
  exact Ztw hR hw mo ok hd (by lia) (by lia) (by lia) ⟨M3, T3.at ont k1, T3.at on0 k2, T3.at on1 k3, lt _ k1, lt _ k2, lt _ k3⟩ h99 h85 h92 h101 h94 h
theorem cl_scr : (GP scr cells).cl scr = some cells := by simp only [GP, if_true]
theorem Zabl {G : Pg} {S : Spec} {st : Bool} {lo : Loc} {a : Addr} {vs : List PV} (l : σ a = some (.list vs)) (n : vs.length ≤ 1000) (q : Zah σ (.list vs) Q) : Zdl (Zz G S st d [] lo) (Zdz G st 184 Q) X (.obj a) σ := Zdm (fun z => by contradiction) ⟨vs, .list a rfl l, n, q⟩
theorem Zaby {G : Pg} {S : Spec} {st : Bool} {lo : Loc} {a u : Ex} {b : Addr} {vs : List PV} {n : Int} {p p' : Pos} (h : Ev G st σ lo a (.cd b)) (k : Ev G st σ lo u (.int n)) (h0 : 0 ≤ n) (h1 : n < 1000) (hc : G.cl b = some vs) (l : vs.length ≤ 1000) (q : Zah σ (.list (vs.take n.toNat)) Q) : wpE G S st d (.cut a u p p') lo σ Q X := h S d _ X (k S d _ X ⟨n, rfl, h0, .inr ⟨b, vs, rfl, h1, hc, l, q⟩⟩)
theorem Zabx {G : Pg} {S : Spec} {st : Bool} {lo : Loc} {ks : List (Nat × Pos)} {es : List Ex} {p : Pos} (h1 : ks.length = es.length) (h2 : es.length ≤ 15) (w : Zz G S st d es lo σ (Zyy ks Q) X) : wpE G S st d (.dct ks es p) lo σ Q X := ⟨h1, h2, w⟩
theorem Zmv {a3 a2 : Addr} {vs : List PV} {p q : Int} (c : Bool) (F4 : Fd σ a3 a2 vs p q) (hp : p ≤ 3) (hd : 13 ≤ d) (h : ∀ σ', Q (.bool true) σ') :
    Wp scr cells true (d + 9) (b607.drop 2) [(85, .tag (if c then 14 else 13)), (71, .obj a3), (102, .cd scr)] σ (Zbc Q) (Zag X) := by
  refine Zbp (r := b607.drop 3) (fun _ => rfl) <| Zbl <| Zh <| Zc (by walk_at "es") rfl <| (em_all 2).2 (d + 8) c σ _ _ _ (by lia) F4 (by lia) fun sp n rows wh body σ5 p5 q5 F5 _ _ mo ok hs => ?_
  have nk := need_k body
  have nn := need_n body
  refine Zk <| Zh <| Zib <| Zh <| Zef rfl (Nat.zero_le _) .nil fun n0 (f0 : σ5 n0 = none) => Zk <| Zh <| Zef rfl (Nat.zero_le _) .nil fun n1 (f1 : (σ5.upd n0 (.dict [])) n1 = none) => Zk <| Zae <| Zju (vs := [.obj n0, .obj n1]) (Nat.le_of_ble_eq_true rfl) fun nt (ft : ((σ5.upd n0 (.dict [])).upd n1 (.dict [])) nt = none) => Zk <| Zae <| Zbj (vs := [Zav c sp n rows wh body.pv, .obj nt]) (Nat.le_of_ble_eq_true rfl) <| Zba rfl ?_
  show Wp scr cells true (d + 9) (b607.drop 3) _ (((σ5.upd n0 (.dict [])).upd n1 (.dict [])).upd nt (.list [.obj n0, .obj n1])) _ _
  have x1 : (((σ5.upd n0 (.dict [])).upd n1 (.dict [])).upd nt (.list [.obj n0, .obj n1])) n0 = some (.dict []) := Zi (Zi Zb f1) ft
  have x2 : (((σ5.upd n0 (.dict [])).upd n1 (.dict [])).upd nt (.list [.obj n0, .obj n1])) n1 = some (.dict []) := Zi Zb ft
  have x3 : (((σ5.upd n0 (.dict [])).upd n1 (.dict [])).upd nt (.list [.obj n0, .obj n1])) nt = some (.list [.obj n0, .obj n1]) := Zb
  have n01 : n0 ≠ n1 := fun z => by rw [← z, Zb] at f1; contradiction
  generalize (((σ5.upd n0 (.dict [])).upd n1 (.dict [])).upd nt (.list [.obj n0, .obj n1])) = σ6 at x1 x2 x3 ⊢
  refine Zu (r := b607.drop 4) <| Zdt rfl <| Zj (by walk_at "e") <| Zh <| Zib <| Zh <| Zabw (.glob rfl) rfl gcd_world fun d0 fd => Zk <| Zae <| Zju (vs := [.obj d0]) (Nat.le_of_ble_eq_true rfl) fun sc fs => Zk <| Zbv (by walk_at "es") ?_
  have y1 := Zi (o := .list [.obj d0]) (Zi (o := .dict worldT) x1 fd) fs
  have y2 := Zi (o := .list [.obj d0]) (Zi (o := .dict worldT) x2 fd) fs
  have y3 := Zi (o := .list [.obj d0]) (Zi (o := .dict worldT) x3 fd) fs
  have y4 : ((σ6.upd d0 (.dict worldT)).upd sc (.list [.obj d0])) d0 = some (.dict worldT) := Zi Zb fs
  have y5 : ((σ6.upd d0 (.dict worldT)).upd sc (.list [.obj d0])) sc = some (.list [.obj d0]) := Zb
  have z0 : n0 ≠ d0 := fun z => by rw [z, fd] at x1; contradiction
  have z1 : n1 ≠ d0 := fun z => by rw [z, fd] at x2; contradiction
  have z2 : sc ≠ nt := fun z => by rw [z, Zi x3 fd] at fs; contradiction
  generalize ((σ6.upd d0 (.dict worldT)).upd sc (.list [.obj d0])) = σ7 at y1 y2 y3 y4 y5 ⊢
  have L : Lw σ7 sc [d0] [worldT] nt n0 n1 [] [] := ⟨y5, .cons y4 .nil, y3, y1, y2, n01, by simpa using z0, by simpa using z1, z2⟩
  have hsz : body.sz ≤ 90 := hs.1
  have hdp : body.dp ≤ 2 := hs.2
  refine Zmw c mo ok (kl_nd body ok) (d + 8) e0 σ7 sc [d0] [worldT] nt n0 n1 [] [] _ _ (by lia) L e0_world (by simp only [List.length_singleton]; lia) (by simp only [List.length_nil]; lia) (by simp only [List.length_nil]; lia) fun σ8 L8 _ => Zx ?_
  refine Zu (r := b607.drop 5) <| Zc .nil rfl <| Zxc (d := d + 5) fun w a0 σ9 M S9 fr => Zx ?_
  have o : ∀ {b p}, σ8 b = some p → b ∉ [w.as, w.cl, w.sl, w.pr, a0] := fun {b p} e => fr b (by rw [e]; exact fun z => by contradiction)
  exact Zty (d := d) (R := Zas c e0 sp n rows wh (kd body)) rfl mo ok (by lia) (by lia) M (S9.at L8.ont (by simp)) (S9.at L8.on0 (by simp)) (S9.at L8.on1 (by simp)) (o L8.ont) (o L8.on0) (o L8.on1) rfl rfl rfl rfl rfl fun lo' σ' => h σ'
theorem Zaco (hi : ∀ v ∈ cells, ∃ i, v = .int i) (hl : cells.length ≤ 63) (hd : 13 ≤ d) (h : ∀ σ', Q (.bool true) σ') : Cal scr cells true (d + 9) 607 [.cd scr] σ Q X := by
  have lt : (cells.take 50).length ≤ 50 := by rw [List.length_take]; lia
  refine Zd rfl rfl <| Zu (r := b607.drop 1) <| Zabx rfl (by decide) <| Zh <| Zhm <| Zaby (.var rfl) .int (by decide) (by decide) cl_scr (by lia) fun a1 ha1 => Zabl Zb (Nat.le_trans lt (by decide)) fun a2 ha2 => Zk <| Zbv (by walk_at "es") fun a3 ha3 => Zx ?_
  have F : Fd (((σ.upd a1 (.list (cells.take 50))).upd a2 (.list (cells.take 50))).upd a3 (.dict [(65, .obj a2), (66, .int 0), (67, .int 0)])) a3 a2 (cells.take 50) 0 0 :=
    ⟨Zb, Zi Zb ha3, fun v hv => hi v (List.mem_of_mem_take hv), lt, Int.le_refl _⟩
  show Wp scr cells true (d + 9) (b607.drop 1) _ (((σ.upd a1 (.list (cells.take 50))).upd a2 (.list (cells.take 50))).upd a3 (.dict [(65, .obj a2), (66, .int 0), (67, .int 0)])) (Zbc Q) (Zag X)
  generalize ((σ.upd a1 (.list (cells.take 50))).upd a2 (.list (cells.take 50))).upd a3 (.dict [(65, .obj a2), (66, .int 0), (67, .int 0)]) = σ3 at F ⊢
  refine Zu (r := b607.drop 2) <| Zbq <| Zan (by walk_at "e") <| Zaf <| Zc (by walk_at "es") rfl <| Zcn F (by lia) (by decide) fun r σ4 r0 r1 F4 _ => ?_
  have : r = 0 ∨ r = 1 := by lia
  rcases this with rfl | rfl
  · exact Zby (.tup rfl) <| Zx <| Zmv false F4 (by decide) hd h
  · exact Zby (.tup rfl) <| Zx <| Zmv true F4 (by decide) hd h
end
theorem Zcz {α β : Type} [BEq α] [LawfulBEq α] {x : α} {y : β} : ∀ {l : List (α × β)}, l.lookup x = some y → (x, y) ∈ l
  | (u, v) :: r, h => by
    rw [List.lookup_cons] at h
    cases e : x == u with
    | true => rw [e] at h; rw [beq_iff_eq.mp e, Option.some.inj h]; exact .head _
    | false => rw [e] at h; exact .tail _ (Zcz h)
theorem Zxy {h h' : Heap} (t : there h = true) (k : ∀ b o, h.get? b = some o → h'.get? b = some o) : (Zkg h).In h' := by
  intro a o e
  obtain ⟨b, hb, he⟩ := List.mem_map.mp (Zcz e)
  obtain ⟨o', ho⟩ := Option.isSome_iff_exists.mp (List.all_eq_true.mp t b hb)
  rw [ho] at he
  obtain ⟨rfl, rfl⟩ := Prod.mk.inj he
  exact k _ _ ho
theorem nth {α : Type} {l m : List α} (e : l = m) (i : Nat) (d : α) : l.getD i d = m.getD i d := e ▸ rfl
section
variable {d : Data}
theorem Zrw {l : List DictEntry} (e : dictD d = some l) : ∃ n, d = .dict l.toArray n := by cases d <;> first | contradiction | (obtain rfl := so e; exact ⟨_, rfl⟩)
theorem Zme {l : Array Value} (e : fieldsD d = some l) : d = .fields l := by cases d <;> first | contradiction | exact congrArg _ (so e)
theorem Zuf {l : FuncData} (e : funD d = some l) : d = .func l := by cases d <;> first | contradiction | exact congrArg _ (so e)
theorem Zlh {l : ClassData} (e : clsD d = some l) : d = .cls l := by cases d <;> first | contradiction | exact congrArg _ (so e)
theorem Zqu {x : Option Obj} {c : String} {l : List Value} (e : seqOf x = some (c, l)) : ∃ o n, x = some o ∧ o.cls = .type c ∧ o.data = .seq l.toArray n := by
  cases x with
  | none => contradiction
  | some o =>
    obtain ⟨cl, d, dt, sl⟩ := o
    cases cl with
    | type c' => cases dt <;> first | contradiction | (obtain ⟨rfl, rfl⟩ := Prod.mk.inj (so e); exact ⟨_, _, rfl, rfl, rfl⟩)
    | _ => contradiction
end
theorem Zhh {v : Value} {k : Str} (e : keyS v = some k) : ∃ t, v = .str k t := by cases v <;> first | contradiction | (obtain rfl := so e; exact ⟨_, rfl⟩)
theorem Zth {v : Value} {a : Addr} (e : refV v = some a) : v = .ref a := by cases v <;> first | contradiction | exact congrArg _ (so e)
section
variable {p : PV}
theorem Zsp (e : .none = toE p) : p = .none := by cases p <;> first | rfl | cases e
theorem Zsq {b : Bool} (e : .bool b = toE p) : p = .bool b := by cases p <;> first | exact congrArg _ (PyData.bool.inj e).symm | cases e
theorem Zvz {i : Int} (e : .int i = toE p) : p = .int i := by cases p <;> first | exact congrArg _ (PyData.int.inj e).symm | cases e
theorem Zvx {s : Str} (e : .str s = toE p) : ∃ n, p = .tag n ∧ s = tg n := by cases p <;> first | exact ⟨_, rfl, PyData.str.inj e⟩ | cases e
theorem Zvy {a : Nat} (e : .list [.int (Int.ofNat a)] = toE p) : p = .cd a := by cases p <;> first | exact congrArg _ (Int.ofNat.inj (PyData.int.inj (List.cons.inj (PyData.list.inj e)).1)).symm | cases e
theorem Zvw {b : Bool} {ds : List PyData} (e : .tuple (.bool b :: ds) = toE p) : ∃ vs, p = .tup vs ∧ b = true ∧ ds = toEs vs := by cases p <;> first | exact ⟨_, rfl, PyData.bool.inj (List.cons.inj (PyData.tuple.inj e)).1, (List.cons.inj (PyData.tuple.inj e)).2⟩ | cases e
end
theorem Zli {h : Heap} {f : Value → Option PyData} (ih : ∀ p v, f v = some (toE p) → VRel h p v) : ∀ (vs : List PV) (l : List Value), Zsj (l.map f) = some (toEs vs) → VRels h vs l
  | [], [], _ => .nil
  | [], v :: l, e => by
    rw [List.map_cons] at e
    cases hv : f v with
    | none => rw [hv] at e; contradiction
    | some d => rw [hv] at e; obtain ⟨_, _, z⟩ := Option.map_eq_some_iff.mp e; cases z
  | p :: vs, [], e => by cases so e
  | p :: vs, v :: l, e => by
    rw [List.map_cons] at e
    cases hv : f v with
    | none => rw [hv] at e; contradiction
    | some d =>
      rw [hv] at e
      obtain ⟨ds, h1, h2⟩ := Option.map_eq_some_iff.mp e
      obtain ⟨rfl, rfl⟩ := List.cons.inj h2
      exact .cons (ih p v hv) (Zli ih vs l h1)
theorem Zny {K : Frag} {h : Heap} (X : K.In h) : ∀ (n : Nat) (p : PV) (v : Value), er K n v = some (toE p) → VRel h p v
  | 0, _, _, e => by contradiction
  | n + 1, p, v, e => by
    cases v with
    | none => rw [Zsp (so e)]; exact .none
    | bool b => rw [Zsq (so e)]; exact .bool b
    | int i t => rw [Zvz (so e)]; exact .int i t
    | str s t => obtain ⟨n, rfl, rfl⟩ := Zvx (so e); exact .tag n t
    | ref a =>
      have e : erR (er K n) a (K.lookup a) = some (toE p) := e
      unfold erR at e
      cases hs : seqOf (K.lookup a) with
      | none => rw [hs] at e; rw [Zvy (so e)]; exact .cd a
      | some x =>
        rw [hs] at e
        obtain ⟨ds, h1, h2⟩ := Option.map_eq_some_iff.mp e
        obtain ⟨vs, rfl, hc, rfl⟩ := Zvw h2
        obtain ⟨o, m, h3, h4, h5⟩ := Zqu hs
        exact .tup (X _ _ h3) (h4.trans (congrArg _ (beq_iff_eq.mp hc))) h5 (Zli (Zny X n) vs _ h1)
    | _ => contradiction
theorem Zrz (ws : List Value) : Zer ws.length (fun i => ws.getD i .none) = ws := by
  unfold Zer
  apply List.ext_getElem
  · simp
  · intro i h1 h2
    simp [List.getD_eq_getElem?_getD, List.getElem?_eq_getElem h2]
theorem Zvm {C : Cx} {K : Frag} {h : Heap} (X : K.In h) : ∀ (es : List (Nat × PV)) (ents : List DictEntry), ents.map (entE K) = es.map (fun x => (PyData.keyHash C.w.params (tg x.1), some (tg x.1), some (toE x.2))) →
    ∃ kvs : List (Str × Value), PySem.Pairs C.knd ents kvs ∧ KRels h es kvs ∧ kvs.map (·.1) = es.map (fun x => tg x.1) ∧ ∀ e ∈ ents, ∃ k, C.knd.is k e.key = true ∧ e.hash = C.knd.hash k
  | [], [], _ => ⟨[], .nil, .nil, rfl, fun e he => by cases he⟩
  | [], _ :: _, e => by contradiction
  | _ :: _, [], e => by contradiction
  | (t, pv) :: es, ⟨hs, key, val⟩ :: r, e => by
    obtain ⟨e1, e2⟩ := List.cons.inj e
    obtain ⟨e1, e3⟩ := Prod.mk.inj e1
    obtain ⟨e3, e4⟩ := Prod.mk.inj e3
    obtain ⟨kvs, i1, i2, i3, i4⟩ := Zvm X es r e2
    obtain ⟨tk, e5⟩ := Zhh e3
    have e5 : key = .str (tg t) tk := e5
    subst e5
    refine ⟨(tg t, val) :: kvs, .cons (strKind_is _ _ _ _) rfl i1, .cons (Zny X _ _ _ e4) i2, by rw [List.map_cons, i3, List.map_cons], fun e he => ?_⟩
    rcases List.mem_cons.mp he with rfl | he
    · exact ⟨tg t, strKind_is _ _ _ _, e1⟩
    · exact i4 e he
theorem Znc {C : Cx} {K : Frag} {a : Addr} {es : List (Nat × PV)} (X : K.In C.h₀) (hn : (es.map fun x => tg x.1).Nodup) (h : Zsg K a = Zsh C.w.params es) : ∃ kvs, Heap.DictOf C.knd C.h₀ a kvs ∧ KRels C.h₀ es kvs := by
  obtain ⟨⟨cl, di, da, sl⟩, ho, e⟩ := Option.map_eq_some_iff.mp h
  obtain ⟨e1, e⟩ := Prod.mk.inj e
  obtain ⟨e2, e⟩ := Prod.mk.inj e
  obtain ⟨e3, e4⟩ := Prod.mk.inj e
  obtain ⟨l, h1, h2⟩ := Option.map_eq_some_iff.mp e3
  obtain ⟨n, h3⟩ := Zrw h1
  obtain ⟨kvs, i1, i2, i3, i4⟩ := Zvm (C := C) X es l h2
  exact ⟨kvs, ⟨_, l.toArray, n, X _ _ ho, ⟨e1, e2, e4⟩, h3, fun e he => i4 e (List.mem_toArray.mp he), i1, by rw [i3]; exact hn⟩, i2⟩
inductive FsI (K : Frag) (a : Addr) (d : Arguments × List Stmt × Scope) (c : List (Str × Addr)) : Prop
  | mk (fd : FuncData) (o : Obj) (h1 : K.lookup a = some o) (h2 : o.data = .func fd) (p : fd.params = d.1) (b : fd.body = .stmts d.2.1) (s : fd.scope = d.2.2) (g : fd.globals = mainGlobals) (l : fd.closure = c) (df : fd.defaults = .none) (k : fd.kwdefaults = .none) (u : fd.builtins = builtinsNs)
    (q : ∃ c oc vs t t', fd.code = .ref c ∧ K.lookup c = some oc ∧ oc.data = .fields vs ∧ (vs[1]? : Option Value) = some (.str fd.qualname t) ∧ (vs[2]? : Option Value) = some (.str PW.main.file t'))
theorem Zuq {K : Frag} {v : Value} {q fl : Str} (e : ((Zvo K v).map fun x => (x.1.any (· == q), x.2)) = some (true, some fl)) : ∃ c oc vs t t', v = .ref c ∧ K.lookup c = some oc ∧ oc.data = .fields vs ∧ (vs[1]? : Option Value) = some (.str q t) ∧ (vs[2]? : Option Value) = some (.str fl t') := by
  obtain ⟨⟨x, y⟩, e1, e2⟩ := Option.map_eq_some_iff.mp e
  obtain ⟨e2, rfl⟩ := Prod.mk.inj e2
  cases x with
  | none => contradiction
  | some z =>
  have hz : (z == q) = true := e2
  obtain ⟨c, h1, e3⟩ := Option.bind_eq_some_iff.mp e1
  obtain ⟨oc, h2, e4⟩ := Option.bind_eq_some_iff.mp e3
  obtain ⟨vs, h3, e5⟩ := Option.map_eq_some_iff.mp e4
  obtain ⟨e6, e7⟩ := Prod.mk.inj e5
  obtain ⟨v1, h4, e8⟩ := Option.bind_eq_some_iff.mp e6
  obtain ⟨v2, h5, e9⟩ := Option.bind_eq_some_iff.mp e7
  obtain ⟨t, rfl⟩ := Zhh e8
  obtain ⟨t', rfl⟩ := Zhh e9
  exact ⟨c, oc, vs, t, t', Zth h1, h2, Zme h3, by rw [h4, beq_iff_eq.mp hz], h5⟩
theorem Zpx {K : Frag} {a : Addr} {c : List (Str × Addr)} {x : Nat × Nat} {d : Arguments × List Stmt × Scope} (hd : Zdg x = some d) (e : Zex K a = Zem c x) : FsI K a d c := by
  unfold Zem at e
  rw [hd] at e
  obtain ⟨o, h1, e⟩ := Option.bind_eq_some_iff.mp e
  obtain ⟨fd, h2, e⟩ := Option.map_eq_some_iff.mp e
  exact ⟨fd, o, h1, Zuf h2, congrArg Fs.p e, congrArg Fs.b e, congrArg Fs.s e, congrArg Fs.g e, congrArg Fs.c e, congrArg Fs.d e, congrArg Fs.k e, congrArg Fs.u e, Zuq (congrArg Fs.q e)⟩
noncomputable def plainB (names : List (Str × NameKind)) (ts : List Nat) : Bool := names.all (fun x => x.2 != .cell) && ts.all fun t => names.lookup (tg t) == some .local
noncomputable def celledB : List (Str × NameKind) → List Nat → Bool
  | (n, k) :: names, t :: ts => k == .cell && n == tg t && names.all (fun x => x.2 != .cell) && ts.all fun u => u != t && ((n, k) :: names).lookup (tg u) == some .local
  | _, _ => false
noncomputable def Zacj (x : (Addr × (List Nat × List Sm)) × (Nat × Nat)) : Bool := (Zdg x.2).any fun d => !d.2.2.isCoroutine && !d.2.2.isGenerator && d.2.2.kind == .function && okSs d.2.2 x.1.2.2 && (plainB d.2.2.names x.1.2.1 || celledB d.2.2.names x.1.2.1)
noncomputable def fdG (p : Arguments) (x : Str × Str × FuncBody × Scope × Addr × List (Str × Addr) × Value × Value × Option Addr × Value × Value × Addr) : FuncData := ⟨x.1, x.2.1, p, x.2.2.1, x.2.2.2.1, x.2.2.2.2.1, x.2.2.2.2.2.1, .none, .none, x.2.2.2.2.2.2.1, x.2.2.2.2.2.2.2.1, x.2.2.2.2.2.2.2.2.1, x.2.2.2.2.2.2.2.2.2.1, x.2.2.2.2.2.2.2.2.2.2.1, x.2.2.2.2.2.2.2.2.2.2.2⟩
noncomputable def Zgl (n : Nat) (x : Nat × Nat) := (Zdg x).map fun d => fun y v => bindArgs (fdG d.1 y) ⟨Zer n v, []⟩
noncomputable def Zhw (ts : List Str) : Option ((Str × Str × FuncBody × Scope × Addr × List (Str × Addr) × Value × Value × Option Addr × Value × Value × Addr) → (Nat → Value) → Sem (List (Str × Value))) := some fun _ v => pure (ts.zip (Zer ts.length v))
theorem text_body : (dfX.map fun x => (Zdg x.2).map (·.2.1)) = dfX.map fun x => some (Sm.tos x.1.2.2) := by kernel_rfl
theorem text_ok : dfX.all Zacj = true := by kernel_rfl
theorem text_bind : (dfX.map fun x => Zgl x.1.2.1.length x.2) = dfX.map fun x => Zhw (x.1.2.1.map tg) := by kernel_rfl
theorem x_bind : [Zgl 2 (2, 1), Zgl 3 (3, 1)] = [Zhw ["self", "what"], Zhw ["self", "what", "spot"]] := by kernel_rfl
theorem x_body : [(Zdg (2, 1)).map (·.2.1), (Zdg (3, 1)).map (·.2.1)] = [some (Zdj 8 "what"), some (Zdj 16 "spot")] := by kernel_rfl
noncomputable def xB (x : Nat × Nat) (ts : List Str) : Bool := (Zdg x).any fun d => !d.2.2.isCoroutine && !d.2.2.isGenerator && d.2.2.kind == .function && d.2.2.names.all (fun x => x.2 != .cell) && (d.2.2.names.lookup ("super" : Str) == some .globalImplicit) && (d.2.2.names.lookup ("__class__" : Str) == some .free) && ts.all (fun t => d.2.2.names.lookup t == some .local) && ((d.1.posonlyargs ++ d.1.args).head?.any fun a => a.arg == ("self" : Str))
theorem x_ok : xB (2, 1) ["self", "what"] = true ∧ xB (3, 1) ["self", "what", "spot"] = true := ⟨by kernel_rfl, by kernel_rfl⟩
theorem and2 {a b : Bool} (h : (a && b) = true) : a = true ∧ b = true := Bool.and_eq_true_iff.mp h
theorem Zni {a : Bool} (h : (!a) = true) : a = false := by cases a <;> first | rfl | contradiction
theorem Ztl {fd : FuncData} {ts : List Nat} (h : plainB fd.scope.names ts = true) : Zhx fd ts := ⟨(and2 h).1, fun t ht => beq_iff_eq.mp (List.all_eq_true.mp (and2 h).2 t ht)⟩
theorem Zry {fd : FuncData} {ts : List Nat} (h : celledB fd.scope.names ts = true) : Zes fd ts := by
  unfold Zes
  cases e : fd.scope.names with
  | nil => rw [e] at h; contradiction
  | cons x names =>
    rw [e] at h
    cases ts with
    | nil => contradiction
    | cons t ts =>
      obtain ⟨n, k⟩ := x
      obtain ⟨h1, h2⟩ := and2 h
      obtain ⟨h1, h3⟩ := and2 h1
      obtain ⟨h1, h4⟩ := and2 h1
      refine ⟨names, by rw [beq_iff_eq.mp h1, beq_iff_eq.mp h4], h3, fun u hu => ?_⟩
      obtain ⟨h5, h6⟩ := and2 (List.all_eq_true.mp h2 u hu)
      exact ⟨bne_iff_ne.mp h5, beq_iff_eq.mp h6⟩
theorem Zne {n : Nat} {x : Nat × Nat} {ts : List Str} {d : Arguments × List Stmt × Scope} (hd : Zdg x = some d) (e : Zgl n x = Zhw ts) (hn : n = ts.length) {fd : FuncData} (p : fd.params = d.1) (df : fd.defaults = .none) (k : fd.kwdefaults = .none) (ws : List Value) (hw : ws.length = n) : bindArgs fd ⟨ws, []⟩ = pure (ts.zip ws) := by
  unfold Zgl at e
  rw [hd] at e
  subst hn
  have e : bindArgs (fdG d.1 (fd.name, fd.qualname, fd.body, fd.scope, fd.globals, fd.closure, fd.doc, fd.pyModule, fd.annotations, fd.code, fd.closureTuple, fd.builtins)) ⟨Zer ts.length fun i => ws.getD i .none, []⟩ = pure (ts.zip (Zer ts.length fun i => ws.getD i .none)) := congrFun (congrFun (so e) _) _
  rw [← hw, Zrz] at e
  obtain ⟨_, _, _, _, _, _, _, _, _, _, _, _, _, _, _⟩ := fd
  subst p df k
  exact e
theorem Zacc {C : Cx} {K : Frag} {x : (Addr × (List Nat × List Sm)) × (Nat × Nat)} (hx : x ∈ dfX) (e : Zex K x.1.1 = Zem [] x.2) : ∃ fd, Def C K x.1.1 fd x.1.2.1 x.1.2.2 ∧ (Zhx fd x.1.2.1 ∨ Zes fd x.1.2.1) := by
  obtain ⟨d, hd, hb⟩ := Option.map_eq_some_iff.mp (List.map_inj_left.mp text_body x hx)
  obtain ⟨d', hd', t⟩ := any_some (List.all_eq_true.mp text_ok x hx)
  rw [hd] at hd'
  obtain rfl := so hd'
  obtain ⟨t, t1⟩ := and2 t
  obtain ⟨t, t2⟩ := and2 t
  obtain ⟨t, t3⟩ := and2 t
  obtain ⟨t5, t4⟩ := and2 t
  obtain ⟨fd, o, h1, h2, p, b, s, g, l, df, k, u, c, oc, vs, t', _, c1, c2, c3, c4, _⟩ := Zpx hd e
  refine ⟨fd, ⟨⟨o, h1, h2⟩, b.trans (congrArg _ hb), g, l, u, s ▸ Zni t5, s ▸ Zni t4, s ▸ beq_iff_eq.mp t3, ⟨c, oc, vs, t', c1, c2, c3, c4⟩, fun ws hw => Zne hd (List.map_inj_left.mp text_bind x hx) (by rw [List.length_map]) p df k ws hw, s ▸ t2⟩, ?_⟩
  rw [← s] at t1
  exact (Bool.or_eq_true_iff.mp t1).imp Ztl Zry
theorem Zva {K : Frag} {a cc : Addr} {x : Nat × Nat} {ts : List Str} {l : Nat} {X : Str} (e : Zex K a = Zem [(("__class__" : Str), cc)] x) (e1 : (Zdg x).map (·.2.1) = some (Zdj l X)) (e2 : Zgl ts.length x = Zhw ts) (e3 : xB x ts = true) : ∃ fd, XD PW K a cc ts (Zdj l X) fd := by
  obtain ⟨d, hd, hb⟩ := Option.map_eq_some_iff.mp e1
  obtain ⟨d', hd', t⟩ := any_some e3
  rw [hd] at hd'
  obtain rfl := so hd'
  obtain ⟨t, t1⟩ := and2 t
  obtain ⟨t, t2⟩ := and2 t
  obtain ⟨t, t3⟩ := and2 t
  obtain ⟨t, t4⟩ := and2 t
  obtain ⟨t, t5⟩ := and2 t
  obtain ⟨t, t6⟩ := and2 t
  obtain ⟨t8, t7⟩ := and2 t
  obtain ⟨fd, o, h1, h2, p, b, s, g, c, df, k, u, ca, oc, vs, t', u', c1, c2, c3, c4, c5⟩ := Zpx hd e
  obtain ⟨ar, q1, q2⟩ := any_some t1
  rw [← s] at t2 t3 t4 t5 t6 t7 t8
  exact ⟨fd, ⟨o, h1, h2⟩, b.trans (congrArg _ hb), g, c, u, Zni t8, Zni t7, beq_iff_eq.mp t6, ⟨ca, oc, vs, t', _, u', c1, c2, c3, c4, c5, beq_self_eq_true _⟩, fun ws hw => Zne hd e2 rfl p df k ws hw, ⟨ar, p ▸ q1, beq_iff_eq.mp q2⟩, fun y hy => bne_iff_ne.mp (List.all_eq_true.mp t5 y hy), beq_iff_eq.mp t4, beq_iff_eq.mp t3, fun y hy => beq_iff_eq.mp (List.all_eq_true.mp t2 y hy)⟩
theorem Zge {α : Type} {n : Nat} {l : List α} (e : l.length = n + 1) : ∃ a r, l = a :: r ∧ r.length = n := by
  cases l with
  | nil => contradiction
  | cons a r => exact ⟨a, r, rfl, Nat.succ.inj e⟩
inductive Six {α : Type} (l : List α) : Prop
  | mk (a b c d e f : α) (h : l = [a, b, c, d, e, f])
theorem six {α : Type} {l : List α} (e : l.length = 6) : Six l := by
  obtain ⟨a, r1, rfl, e1⟩ := Zge e
  obtain ⟨b, r2, rfl, e2⟩ := Zge e1
  obtain ⟨c, r3, rfl, e3⟩ := Zge e2
  obtain ⟨d, r4, rfl, e4⟩ := Zge e3
  obtain ⟨f, r5, rfl, e5⟩ := Zge e4
  obtain ⟨g, r6, rfl, e6⟩ := Zge e5
  obtain rfl := List.eq_nil_of_length_eq_zero e6
  exact ⟨a, b, c, d, f, g, rfl⟩
inductive ExcI (K : Frag) (kf : Addr) (r : List Value) : Prop
  | mk (nm q : Str) (N : Addr) (bs : List Value) (hdct : Bool) (sn : List Str) (sub : List Value) (ab : Bool) (col : Option Bool) (dd : Option Addr) (k0 k1 k2 k3 k5 : Option Value) (h : K.lookup kf = some (excClassObj nm q kf N bs r hdct sn sub ab col dd k0 k1 k2 k3 k5 "Exception.__new__"))
theorem Zpy {K : Frag} {kf : Addr} {r : List Value} (e : ((K.lookup kf).map fun o => (o.cls, (clsD o.data).map fun cd => (cd.mro, cd.hasDel), some o.slots.size, o.slots[4]?)) = some (.type "type", some (.ref kf :: r, false), some 6, some (some (.builtin "Exception.__new__")))) :
    ExcI K kf r := by
  obtain ⟨⟨cl, di, da, ⟨sl⟩⟩, ho, e⟩ := Option.map_eq_some_iff.mp e
  obtain ⟨e1, e⟩ := Prod.mk.inj e
  obtain ⟨e2, e⟩ := Prod.mk.inj e
  obtain ⟨e3, e4⟩ := Prod.mk.inj e
  obtain ⟨⟨c1, c2, c3, c4, c5, c6, c7, c8, c9, c10, c11⟩, h1, h2⟩ := Option.map_eq_some_iff.mp e2
  obtain ⟨h3, h4⟩ := Prod.mk.inj h2
  have h5 := Zlh h1
  dsimp only at h3 h4 h5 e1
  subst h3 h4 h5 e1
  obtain ⟨k0, k1, k2, k3, k4, k5, rfl⟩ := six (so e3)
  obtain rfl : k4 = _ := so e4
  exact ⟨_, _, _, _, _, _, _, _, _, _, _, _, _, _, _, ho⟩
theorem Zqx (self : Value) : refuseLoop self "__setattr__" excL = pure () := by
  unfold excL
  rw [refuseLoop_ref, refuseLoop_ref, refuseLoop_ref]; exact PySem.F.store_Exception.passes self
theorem tail_ok : Zio [.type "Exception", .type "BaseException", .type "object"] [.ref 76, .ref 47, .type "Exception", .type "BaseException", .type "object"] := by
  intro X b h
  rw [← h]; rfl
noncomputable abbrev CX (w : World) (h : Heap) : Cx := ⟨PW, w, h⟩
theorem pw_super : (PW.main.scope.names.lookup ("super" : Str)).isSome = false := by kernel_rfl
noncomputable abbrev KOk (w : World) (K : Frag) : Prop := Zfs K = Zhs w.params
section
variable {w : World} {h : Heap} {K : Frag}
theorem Zacb {a : Addr} {ts : List Nat} {ss : List Sm} (e : dfT.lookup a = some (ts, ss)) : ∃ y, ((a, (ts, ss)), y) ∈ dfX := by
  have hm := Zcz e
  have hl : dfX.map (·.1) = dfT := by kernel_rfl
  rw [← hl] at hm
  obtain ⟨⟨_, y⟩, h1, rfl⟩ := List.mem_map.mp hm
  exact ⟨y, h1⟩
theorem KOk.ci {c b : Addr} {T : List (Nat × Addr)} {A : List Nat} (e : Zha K c b T A = Zhb b T A) : makesIn K c = true ∧ findIn K (.ref c) "__init__" = some (some (.ref b)) ∧ typeIn K (.ref b) = some (.type "function") := ⟨congrArg Cs.k e, congrArg Cs.i e, congrArg Cs.t e⟩
theorem KOk.df (O : KOk w K) : (dfX.map fun x => Zex K x.1.1) = dfX.map fun x => Zem [] x.2 := congrArg Seen.df O
theorem KOk.gv (O : KOk w K) : (gvT.map fun x => (nsIn K mainGlobals (tg x.1)).map (·.map (er K 40))) = gvT.map fun x => some (some (some (toE x.2))) := congrArg Seen.gv O
theorem KOk.fn (O : KOk w K) : (fnT.map fun x => (nsIn K mainGlobals (tg x.1), keepIn K (.ref x.2))) = fnT.map fun x => (some (some (.ref x.2)), true) := congrArg Seen.fn O
theorem KOk.bt (O : KOk w K) : (btNs.map fun f => nsIn K mainGlobals (tg f)) = btNs.map fun _ => some none := congrArg Seen.bt O
theorem KOk.x1 (O : KOk w K) : Zex K 37 = Zem [(("__class__" : Str), 25)] (2, 1) := congrArg Seen.x1 O
theorem KOk.x2 (O : KOk w K) : Zex K 66 = Zem [(("__class__" : Str), 54)] (3, 1) := congrArg Seen.x2 O
theorem KOk.c1 (O : KOk w K) : Zha K 257 226 namesT at1 = Zhb 226 namesT at1 := congrArg Seen.c1 O
theorem KOk.c2 (O : KOk w K) : Zha K 494 275 kindsT at2 = Zhb 275 kindsT at2 := congrArg Seen.c2 O
theorem KOk.ex (O : KOk w K) : ((K.lookup 88).map fun o => (o.cls, (clsD o.data).map fun cd => (cd.mro, cd.hasDel), some o.slots.size, o.slots[4]?)) = some (.type "type", some (excL, false), some 6, some (some (.builtin "Exception.__new__"))) := congrArg Seen.ex O
theorem KOk.tb (O : KOk w K) : TbOk (CX w h) K TP := by
  refine ⟨fun a ts ss e => ?_, fun c b e => ?_⟩
  · obtain ⟨y, hy⟩ := Zacb e
    exact Zacc hy (List.map_inj_left.mp O.df _ hy)
  · change (if c = 257 then some 226 else if c = 494 then some 275 else none) = some b at e
    by_cases z : c = 257
    · rw [if_pos z] at e; subst z; obtain rfl := so e; exact KOk.ci O.c1
    · rw [if_neg z] at e
      by_cases z : c = 494
      · rw [if_pos z] at e; subst z; obtain rfl := so e; exact KOk.ci O.c2
      · rw [if_neg z] at e; contradiction
theorem KOk.os (O : KOk w K) (i : Nat) : (Zfs K).os.getD i none = (Zhs w.params).os.getD i none := nth (congrArg Seen.os O) i none
theorem KOk.law (O : KOk w K) : nsIn K mainGlobals "law" = some (some (.ref 607)) := O.os 3
theorem KOk.bs (O : KOk w K) (i : Nat) : (Zfs K).bs.getD i none = (Zhs w.params).bs.getD i none := nth (congrArg Seen.bs O) i none
theorem KOk.ce (O : KOk w K) (i : Nat) : (Zfs K).ce.getD i none = (Zhs w.params).ce.getD i none := nth (congrArg Seen.ce O) i none
theorem Zace {c : Addr} {x : Value × Option (List Value × Bool) × Option Nat × Option (Option Value)} {m : List Value} (e : ((K.lookup c).map fun o => (o.cls, (clsD o.data).map fun cd => (cd.mro, cd.hasDel), some o.slots.size, o.slots[4]?)) = some x) (hm : x.2.1.map (·.1) = some m) : ∃ cd, clsIn K c = some cd ∧ cd.mro = m := by
  obtain ⟨⟨_, _, da, _⟩, ho, rfl⟩ := Option.map_eq_some_iff.mp e
  obtain ⟨y, h1, rfl⟩ := Option.map_eq_some_iff.mp hm
  obtain ⟨cd, h2, rfl⟩ := Option.map_eq_some_iff.mp h1
  have h3 := Zlh h2
  dsimp only at h3
  subst h3
  exact ⟨cd, by unfold clsIn; rw [ho], rfl⟩
theorem KOk.fault (O : KOk w K) (top : ∃ p loose mg mb, TopRead p loose mg mb h) : Ziv (CX w h) K 88 := by
  obtain ⟨cd, hcd, hm⟩ := Zace O.ex rfl
  obtain ⟨fd, D⟩ := Zva (ts := ["self", "what"]) O.x1 (nth x_body 0 none) (nth x_bind 0 none) x_ok.1
  obtain ⟨fd2, D2⟩ := Zva (ts := ["self", "what", "spot"]) O.x2 (nth x_body 1 none) (nth x_bind 1 none) x_ok.2
  obtain ⟨_, _, _, _, _, _, _, _, _, _, _, _, _, _, _, hC⟩ := Zpy O.ex
  have hd : cd.hasDict = true := by
    have := so (O.bs 2)
    unfold hasDictIn at this
    rw [hcd] at this; exact this
  have cell : ∀ {c : Addr} {d : Data}, (K.lookup c).map (·.data) = some d → ∃ o, K.lookup c = some o ∧ o.data = d := fun e => Option.map_eq_some_iff.mp e
  have st : ∀ {X : Str}, takerIn K 88 X = some none → XSt K 88 X cd := fun e => ⟨hcd, fun self => by rw [hm]; exact Zqx self, by rw [hm]; rfl, by rw [hm]; rfl, e, hd, O.os 7⟩
  exact Zts (a := 37) (cc := 25) (Dc := 47) (a2 := 66) (cc2 := 54) (D2 := 76) (l := 8) (l2 := 16) (cd := cd) ⟨O.os 1, O.os 2, pw_super⟩ top D
    ⟨cell (O.ce 0), Option.isSome_iff_exists.mp (so (O.bs 7)), O.bs 5, hcd, by rw [hm]; exact O.os 10⟩ (st (O.os 8)) D2
    ⟨cell (O.ce 1), Option.isSome_iff_exists.mp (so (O.bs 8)), O.bs 6, hcd, by rw [hm]; exact O.os 11⟩ (st (O.os 9)) (so (O.os 12)) (so (O.os 13)) (O.os 6) hC tail_ok
theorem KOk.mt {c b f : Addr} {T : List (Nat × Addr)} {A : List Nat} (e : Zha K c b T A = Zhb b T A) {m : Nat} (hm : T.lookup m = some f) : plainGet K c (tg m) = true ∧ findIn K (.ref c) (tg m) = some (some (.ref f)) ∧ isFn K (.ref f) = true ∧ keepIn K (.ref f) = true := by
  obtain ⟨h1, h2⟩ := Prod.mk.inj (List.map_inj_left.mp (congrArg Cs.m e) _ (Zcz hm))
  obtain ⟨h2, h3⟩ := Prod.mk.inj h2
  exact ⟨congrArg Cs.p e, h1, beq_iff_eq.mpr h2, h3⟩
theorem KOk.aa {c b : Addr} {T : List (Nat × Addr)} {A : List Nat} (e : Zha K c b T A = Zhb b T A) {t : Nat} (ht : A.contains t = true) : (plainGet K c (tg t) = true ∧ hasDictIn K c = true ∧ ∃ attr, findIn K (.ref c) (tg t) = some attr ∧ noGet K attr = true) ∧ findIn K (.ref c) "__setattr__" = some (some (.builtin "object.__setattr__")) ∧ plainOver K c = true ∧ takerIn K c (tg t) = some none := by
  obtain ⟨h1, h2⟩ := Prod.mk.inj (List.map_inj_left.mp (congrArg Cs.a e) _ (List.contains_iff_mem.mp ht))
  exact ⟨⟨congrArg Cs.p e, congrArg Cs.d e, Option.map_eq_some_iff.mp h1⟩, congrArg Cs.s e, congrArg Cs.o e, h2⟩
theorem Zmi {α : Type} {c : Nat} {x y z r : α} {P : Prop} (h1 : c = 257 → x = r → P) (h2 : c = 494 → y = r → P) (h3 : z = r → P) (e : (if c = 257 then x else if c = 494 then y else z) = r) : P := by
  by_cases u : c = 257
  · exact h1 u ((if_pos u).symm.trans e)
  · have e := (if_neg u).symm.trans e
    by_cases v : c = 494
    · exact h2 v ((if_pos v).symm.trans e)
    · exact h3 ((if_neg v).symm.trans e)
theorem KOk.at_ (O : KOk w K) {c : Addr} {t : Nat} (e : (if c = 257 then at1.contains t else if c = 494 then at2.contains t else false) = true) : (plainGet K c (tg t) = true ∧ hasDictIn K c = true ∧ ∃ attr, findIn K (.ref c) (tg t) = some attr ∧ noGet K attr = true) ∧ findIn K (.ref c) "__setattr__" = some (some (.builtin "object.__setattr__")) ∧ plainOver K c = true ∧ takerIn K c (tg t) = some none :=
  Zmi (fun h e => by subst h; exact KOk.aa O.c1 e) (fun h e => by subst h; exact KOk.aa O.c2 e) (fun e => by contradiction) e
theorem KOk.low (O : KOk w K) (X : K.In h) : sysModules < h.objs.size := by
  obtain ⟨fd, D, _⟩ := (O.tb (h := h)).df 607 _ _ rfl
  obtain ⟨fo, e, _⟩ := D.obj
  exact Nat.lt_of_not_le fun l => by
    have := X _ _ e
    rw [Zbi (Nat.le_trans l (by decide))] at this; contradiction
theorem KOk.ok (O : KOk w K) {scr : Addr} {cells : List PV} {items : Array Value} (X : K.In h) (top : ∃ p loose mg mb, TopRead p loose mg mb h) (hL : h.IsList scr items) (hV : VRels h cells items.toList) : Ok (CX w h) K (GP scr cells) 88 where
  inn := X
  top := top
  low := O.low X
  gv t pv e := by
    obtain ⟨u, h1, h2⟩ := Option.map_eq_some_iff.mp (List.map_inj_left.mp O.gv _ (Zhk e))
    obtain ⟨v, rfl, h3⟩ := Option.map_eq_some_iff.mp h2
    exact ⟨v, h1, Zny X _ _ _ h3⟩
  fn t a e := Prod.mk.inj (List.map_inj_left.mp O.fn _ (Zcz e))
  cd a es e := by
    have e : (if a = 103 then some callsT else if a = 499 then some worldT else none) = some es := e
    by_cases z : a = 103
    · rw [if_pos z] at e; subst z; obtain rfl := so e
      exact ⟨rfl, by decide, Znc (C := CX w h) X (by decide +kernel) (congrArg Seen.d1 O)⟩
    · rw [if_neg z] at e
      by_cases z : a = 499
      · rw [if_pos z] at e; subst z; obtain rfl := so e
        exact ⟨rfl, by decide, Znc (C := CX w h) X (by decide +kernel) (congrArg Seen.d2 O)⟩
      · rw [if_neg z] at e; contradiction
  cl a vs e := by
    have e : (if a = scr then some cells else none) = some vs := e
    by_cases z : a = scr
    · rw [if_pos z] at e; obtain rfl := so e; subst z; exact ⟨items, hL, hV⟩
    · rw [if_neg z] at e; contradiction
  mt c m f e := Zmi (r := some f) (fun h e => by subst h; exact KOk.mt O.c1 e) (fun h e => by subst h; exact KOk.mt O.c2 e) (fun e => by contradiction) e
  bt f e := List.map_inj_left.mp O.bt f (List.contains_iff_mem.mp e)
  at_ c t e := (O.at_ e).1
  sat c t e := (O.at_ e).2
  kfg := O.os 0
  kfx := O.bs 0
  kfa := ⟨O.os 4, O.os 5, O.bs 1, so (O.bs 2), Option.map_eq_some_iff.mp (O.bs 3)⟩
  kfk := so (O.bs 4)
  kfo := by
    obtain ⟨_, _, _, _, _, _, _, _, _, _, _, _, _, _, _, hC⟩ := Zpy O.ex
    exact ⟨_, _, _, _, _, _, _, _, _, _, _, _, _, _, _, _, _, X _ _ hC, rfl⟩
  mkf := O.fault top
  lim := by obtain ⟨_, _, _, _, T⟩ := top; exact T.nolimit
end
theorem Ztt (hp : ∀ w : World, Zfc w) (hk : ∀ w : World, Zfd w) : LeftO PW QW looseL Xt Znr Zns 9172 := by
  intro w
  obtain ⟨⟨h, gs, d, k, os⟩, e, e'⟩ := Option.map_eq_some_iff.mp (Zyi w)
  obtain ⟨rfl, rfl, rfl, rfl⟩ : h = boot_heap w.params ∧ gs = #[] ∧ d = boot_drawn ∧ k = boot_toks := by simpa using e'
  obtain ⟨⟨f, S, c, p'⟩, e1, e2⟩ := Option.map_eq_some_iff.mp (congrFun (hp w) os)
  have ek := congrFun (hk w) os
  rw [e1] at ek
  simp only [GG, Prod.mk.injEq] at e2
  obtain ⟨rfl, rfl, e3⟩ := e2
  obtain ⟨s₁, e4, e5⟩ := Option.map_eq_some_iff.mp e3
  simp only [Option.map_some, GK, e4, Option.some.injEq] at ek
  simp only [Prod.mk.injEq] at e5
  obtain ⟨l1, l2⟩ := e5
  have r4 : topRun treeTable PW w 11 (some (.ref 6)) (4600 + 5) (sT w os).abs (restOf (behindTheImports PW) envE cE p0 [topFrame p0]) = some s₁ := by
    have := piece_app (rest := []) (segRun_of e1) (piece_nil e4)
    rw [List.append_nil] at this
    exact this
  have r : topRun treeTable PW w 11 (some (.ref 6)) (12 + (1 + (4600 + 5))) (s0 w os) (topStub PW) = some s₁ :=
    go_top (congrFun (pre_eq w) os) (piece_block (congrFun (block_eq w) os) r4)
  have r2 := topRun_mono (9172 - (12 + (1 + (4600 + 5)))) _ _ _ _ r
  have t : topFrom treeTable PW w 9172 (s0 w os) = some s₁ := by
    unfold topFrom
    dsimp only [s0]
    rw [(Zjj w.params).1, (Zjj w.params).2, Zuu]
    show ((topRun treeTable PW w 11 (some (.ref 6)) 9172 (s0 w os) (topStub PW)).bind fun s₁ => match staticsOk imps (boot_heap w.params) s₁.heap && namesBound PW s₁.heap && gensDone s₁ && laidKept (boot_heap w.params) s₁.heap with | true => some s₁ | false => none) = _
    rw [show topRun treeTable PW w 11 (some (.ref 6)) 9172 (s0 w os) (topStub PW) = some s₁ from r2]
    unfold LB at l1
    show (match staticsOk imps (boot_heap w.params) s₁.heap && namesBound PW s₁.heap && gensDone s₁ && laidKept (boot_heap w.params) s₁.heap with | true => some s₁ | false => none) = _
    rw [l1]
  unfold openEnds
  rw [e]
  show (topFrom treeTable PW w 9172 (s0 w os)).map _ = _
  rw [t]
  exact congrArg some (Prod.ext l2 ek)
theorem Zud {h : Heap} {vs : List Value} {ns : List Int} (r : IntsAre vs ns) : VRels h (ns.map .int) vs := by
  induction r with
  | nil => exact .nil
  | cons n t _ ih => exact .cons (.int n t) ih
theorem Ztx {w : World} {s : Shared} {scr : Addr} {vals : List Value} {nums : List Int} {K : Frag} (OK : KOk w K) (X : K.In s.heap) (top : ∃ p loose mg mb, TopRead p loose mg mb s.heap) (hL : s.heap.IsList scr vals.toArray) (hI : IntsAre vals nums) (hn : nums.length ≤ 63) :
    codeAny (model PySem.Challenge.pw_pc0059_02 w) callerA (.call (.ref 607) ⟨[.ref scr], []⟩) (fun r s' => r = .ok (.ret (.bool true)) ∧ (∀ b o, s.heap.get? b = some o → s'.heap.get? b = some o) ∧ s'.os = s.os ∧ s'.gens = s.gens) s := by
  have V : VRels s.heap (nums.map .int) vals.toArray.toList := by rw [List.toList_toArray]; exact Zud hI
  have O := OK.ok (w := w) (cells := nums.map .int) X top hL V
  obtain ⟨fd, D, hp⟩ := (OK.tb (h := s.heap)).df 607 _ _ rfl
  have I : Inv (CX w s.heap) [] (fun _ => none) s.heap := ⟨fun _ _ e => e, (fun a o e => by cases e), (fun env he => by cases he), Nat.le_refl _⟩
  have R : Cal scr (nums.map .int) true (13 + 9) 607 [.cd scr] (fun _ => none) (fun v _ => v = .bool true) (fun _ _ => False) :=
    Zaco (fun v hv => by obtain ⟨i, _, rfl⟩ := List.mem_map.mp hv; exact ⟨i, rfl⟩) (by rw [List.length_map]; exact hn) (Nat.le_refl _) fun _ => rfl
  rcases R with ⟨h, _⟩ | ⟨_, h⟩
  · exact absurd h (Nat.lt_irrefl _)
  · have hb : Bud callerA (13 + 9 + 1) := ⟨by decide, by decide⟩
    exact codeAny_mono (Zho O (run_snd O (OK.tb (h := s.heap)) _) D hp rfl hb (fun _ => rfl) rfl I (.cons (.cd scr) .nil) h.2) fun r s' g => by
      cases r with
      | error e => obtain ⟨_, _, z, _⟩ := g; exact z.elim
      | ok f =>
        cases f with
        | ret v =>
          obtain ⟨p, σ', rfl, N, rv⟩ := g
          cases rv
          exact ⟨rfl, N.inv.base, N.os, N.gens⟩
        | _ => exact g.elim
theorem Zxd (as bs : List WData) : PySem.Challenge.rw_pc0059_02.row.claim.post as (WData.bool true) bs = true := by
  kernel_rfl
theorem Zxm {w : World} {s₁ : Shared} {fa scr : Addr} {vals : List Value} {nums : List Int} {p : Program} {loose : List Str} {mean : ExcName → Option Value} {mg mb : Str → Option Value} {cl : Str → Option Addr}
    {K : Frag} (OK : KOk w K) (X : K.In s₁.heap) (T : Top p loose mean mg mb s₁.heap) (hmg : mg "law" = some (.ref fa)) (hg : s₁.gens = #[]) (hL : s₁.heap.IsList scr vals.toArray) (hI : IntsAre vals nums) (hn : ¬ ((63 : Nat) : Int) < ((nums.length : Nat) : Int)) :
    codeAny (model PySem.Challenge.rw_pc0059_02.row.prog w) callerA (.call (.ref fa) ⟨[.ref scr], []⟩) (GoodW PySem.Challenge.rw_pc0059_02.row.claim cl mean [ofPy (PyData.list (nums.map PyData.int))] s₁) s₁ := by
  have TR := topRead_of T
  have e := mg_of X TR.g OK.law
  rw [hmg] at e
  cases e
  refine codeAny_mono (Ztx OK X ⟨_, _, _, _, TR⟩ hL hI (by lia)) fun r s' g => ?_
  obtain ⟨rfl, g1, g2, g3⟩ := g
  exact ⟨.inl ⟨_, .bool true, [], rfl, fun _ => rfl, .bool true, Zxd _ _, fun _ => ⟨List.nodup_nil, fun a ha => by cases ha⟩⟩, g1, g2, by rw [g3, hg]⟩
theorem fin_all (said : PySem.Challenge.rw_pc0059_02.wellSaid = true) (hp : ∀ w : World, Zfc w) (hk : ∀ w : World, Zfd w) : PySem.Challenge.rw_pc0059_02.Holds := by
  refine holds_law said fun said => ?_
  refine holds_open (q := QW) (loose := looseL) (Xt := Xt) (XP := XL QW []) (Yf := Znr) (Ya := Zns) (YP := fun w h => ∃ h₀ : Heap, (∀ b o, h₀.get? b = some o → h.get? b = some o) ∧ there h₀ = true ∧ KOk w (Zkg h₀)) (N := 9172) (Ztt hp hk)
    (fun w s e => ⟨s.heap, fun _ _ e => e, Prod.mk.inj e⟩) (fun w h h' y kk => by obtain ⟨h₀, k, O⟩ := y; exact ⟨h₀, fun b o e => kk b o (k b o e), O⟩)
    (fun s e => xl_of s (Bool.and_eq_true_iff.mp e).1) XL.keeps (by rfl) (by rfl) (by rfl) (fun s e => recFacts_of (Bool.and_eq_true_iff.mp e).2) (by rfl) said ?ok ⟨rfl, rfl, rfl, rfl, rfl, by decide +kernel⟩ ?hw ?hc
  case ok => decide +kernel
  case hw => w_witness2
  case hc =>
    intro w s₀ s₁ mg mb G Y fa o pm cd doc dV kV ho hd hcd hD hmg hg args vals as hpre hlay hrd hwl hlo
    obtain ⟨h₀, kk, ht, OK⟩ := Y
    have KX := Zxy ht kk
    have X := (Ground.X G).1
    have V := (Ground.X G).2
    refine Ground.open G ?_
    intro T B D TE TW
    try (refine guard_noD D (by decide +kernel) ?_; clear D)
    obtain ⟨_, _, M⟩ := bmod_of_top T
    have TA := at_of_top T
    try (obtain ⟨_, _, he, B0⟩ := based_of_top T rfl hmg ho hd; have he' : cd = _ := he; subst he'; clear he)
    wrow_args hpre hlay hrd hwl hlo
    all_goals (
      first | refine callC_kw (enter_call ?_) | refine enter_call ?_ | refine callC_kw (enter_callW ?_) | refine enter_callW ?_ | w_how
      w_top on
      try refine codeAny_mono ?_ (fun _ _ g => GoodW.toG g)
      exact Zxm OK KX T hmg hg (by assumption) (by assumption) (by assumption))
end Mine
theorem PySem.Challenge.cw_pc0059_02_holds : PySem.Challenge.rw_pc0059_02.Holds :=
  Mine.fin_all Mine.said_ok Mine.p_all Mine.k_all
