import PyProof.Rows.All
import Wide.All
import OpenK.AllK
import Wide.FinOn
import Lean
import PySem.Challenge.RW_ok0170_01
set_option Elab.async false
set_option tactic.hygienic false
set_option genSizeOf false
set_option maxRecDepth 100000
set_option linter.unusedVariables false
open PySem PySem.W PySem.Calls PyProof.Rows
namespace Mine

theorem ff {p : Prop} (h : false = true) : p := nomatch h
theorem tf {p : Prop} (h : true = false) : p := nomatch h
theorem nno {α : Type} {x : α} {p : Prop} (h : none = some x) : p := nomatch h
theorem iteS {α : Type} {c : Prop} [Decidable c] {x : Option α} {r : α} (h : (if c then x else none) = some r) : c ∧ x = some r := by
  by_cases q : c
  · rw [if_pos q] at h; exact ⟨q, h⟩
  · rw [if_neg q] at h; exact nno h
theorem iteN {α : Type} {c : Prop} [Decidable c] {x : Option α} {r : α} (h : (if c then none else x) = some r) : ¬ c ∧ x = some r := by
  by_cases q : c
  · rw [if_pos q] at h; exact nno h
  · rw [if_neg q] at h; exact ⟨q, h⟩
abbrev Vis := Addr → Obj → Prop
noncomputable def Sub (h h' : Heap) : Prop := ∀ b o, h.get? b = some o → h'.get? b = some o
theorem Sub.refl (h : Heap) : Sub h h := fun _ _ e => e
theorem Sub.trans {a b c : Heap} (x : Sub a b) (y : Sub b c) : Sub a c := fun _ _ e => y _ _ (x _ _ e)
theorem Sub.none {h h' : Heap} (x : Sub h h') {a : Addr} (e : h'.get? a = none) : h.get? a = none := by
  cases q : h.get? a with
  | none => rfl
  | some o => rw [x _ _ q] at e; cases e
theorem Sub.push (h : Heap) (o : Obj) : Sub h (h.push o) := fun _ _ e => Heap.get?_push_of_some _ e

inductive D where
  | none
  | bool (b : Bool)
  | int (i : Int)
  | str (s : Str)
  | tup (ds : List D)
  | list (ds : List D)
  | dict (es : List (Int × D))
  | obj (C : Addr) (fs : List (Str × D))
  | rng (a b : Int)
  | itm (es : List (Int × D))
deriving Inhabited

abbrev lstO (vs : List Value) (n : Nat) : Obj := { cls := .type "list", dict := none, data := .seq vs.toArray n, slots := #[] }

section
variable (prog : Program) (w : World)

mutual
inductive Rep (P : Vis) : Value → D → Prop
  | none : Rep P .none .none
  | bool (b : Bool) : Rep P (.bool b) (.bool b)
  | int (i : Int) (t : Tok) : Rep P (.int i t) (.int i)
  | str (s : Str) (t : Tok) : Rep P (.str s t) (.str s)
  | tup {a : Addr} {o : Obj} {n : Nat} {vs : List Value} {ds : List D} : P a o → o.cls = .type "tuple" → o.data = .seq vs.toArray n → Reps P vs ds → Rep P (.ref a) (.tup ds)
  | list {a : Addr} {n : Nat} {vs : List Value} {ds : List D} : P a (lstO vs n) → Reps P vs ds → Rep P (.ref a) (.list ds)
  | dict {a : Addr} {o : Obj} {es : Array DictEntry} {n : Nat} {kvs : List (Int × Value)} {ds : List (Int × D)} : (a == sysModules) = false → P a o → o.ExactDict → o.data = .dict es n → KeysOf (intKind prog w) es →
      Pairs (intKind prog w) es.toList kvs → (kvs.map (·.1)).Nodup → RepK P kvs ds → Rep P (.ref a) (.dict ds)
  | obj {x C dx : Addr} {es : List DictEntry} {n : Nat} {fs : List (Str × D)} : P x (instObj C dx) → P dx (dictOf es n) → RepF P es fs → Rep P (.ref x) (.obj C fs)
  | rng {x : Addr} {a b : Int} {t u v : Tok} : P x { cls := .type "range", dict := none, data := .fields #[.int a t, .int b u, .int 1 v], slots := #[] } → Rep P (.ref x) (.rng a b)
  | itm {x a : Addr} {o : Obj} {es : Array DictEntry} {n : Nat} {kvs : List (Int × Value)} {ds : List (Int × D)} : P x { cls := .type "dict_items", data := .fields #[.ref a] } → (a == sysModules) = false → P a o → o.ExactDict → o.data = .dict es n →
      KeysOf (intKind prog w) es → Pairs (intKind prog w) es.toList kvs → (kvs.map (·.1)).Nodup → RepK P kvs ds → Rep P (.ref x) (.itm ds)
inductive Reps (P : Vis) : List Value → List D → Prop
  | nil : Reps P [] []
  | cons {v : Value} {d : D} {vs : List Value} {ds : List D} : Rep P v d → Reps P vs ds → Reps P (v :: vs) (d :: ds)
inductive RepK (P : Vis) : List (Int × Value) → List (Int × D) → Prop
  | nil : RepK P [] []
  | cons {k : Int} {v : Value} {d : D} {vs : List (Int × Value)} {ds : List (Int × D)} : Rep P v d → RepK P vs ds → RepK P ((k, v) :: vs) ((k, d) :: ds)
inductive RepF (P : Vis) : List DictEntry → List (Str × D) → Prop
  | nil : RepF P [] []
  | cons {e : DictEntry} {nm : Str} {t : Tok} {d : D} {vs : List DictEntry} {ds : List (Str × D)} : e.key = .str nm t → Rep P e.val d → RepF P vs ds → RepF P (e :: vs) ((nm, d) :: ds)
end
end

section
variable {prog : Program} {w : World} {P : Vis}
theorem Reps.consI {vs : List Value} {d : D} {ds : List D} (r : Reps prog w P vs (d :: ds)) : ∃ v us, vs = v :: us ∧ Rep prog w P v d ∧ Reps prog w P us ds := by
  cases r with | cons a r => exact ⟨_, _, rfl, a, r⟩
theorem Reps.nilI {vs : List Value} (r : Reps prog w P vs []) : vs = [] := by cases r; rfl
theorem Reps.oneI {vs : List Value} {d : D} (r : Reps prog w P vs [d]) : ∃ v, vs = [v] ∧ Rep prog w P v d := by
  obtain ⟨v, us, rfl, a, r⟩ := r.consI
  exact ⟨v, by rw [r.nilI], a⟩
theorem RepK.consI {vs : List (Int × Value)} {e : Int × D} {ds : List (Int × D)} (r : RepK prog w P vs (e :: ds)) : ∃ v us, vs = (e.1, v) :: us ∧ Rep prog w P v e.2 ∧ RepK prog w P us ds := by
  cases r with | cons a r => exact ⟨_, _, rfl, a, r⟩
theorem RepK.nilI {vs : List (Int × Value)} (r : RepK prog w P vs []) : vs = [] := by cases r; rfl
theorem RepF.consI {es : List DictEntry} {f : Str × D} {fs : List (Str × D)} (r : RepF prog w P es (f :: fs)) : ∃ e t us, es = e :: us ∧ e.key = .str f.1 t ∧ Rep prog w P e.val f.2 ∧ RepF prog w P us fs := by
  cases r with | cons h a r => exact ⟨_, _, _, rfl, h, a, r⟩
theorem RepF.nilI {es : List DictEntry} (r : RepF prog w P es []) : es = [] := by cases r; rfl
theorem Rep.intI {v : Value} {i : Int} (x : Rep prog w P v (.int i)) : ∃ t, v = .int i t := by cases x; exact ⟨_, rfl⟩
theorem Rep.strI {v : Value} {i : Str} (x : Rep prog w P v (.str i)) : ∃ t, v = .str i t := by cases x; exact ⟨_, rfl⟩
theorem Rep.boolI {v : Value} {i : Bool} (x : Rep prog w P v (.bool i)) : v = .bool i := by cases x; rfl
theorem Rep.listI {v : Value} {ds : List D} (x : Rep prog w P v (.list ds)) : ∃ a n vs, v = .ref a ∧ P a (lstO vs n) ∧ Reps prog w P vs ds := by
  cases x with | list a r => exact ⟨_, _, _, rfl, a, r⟩
theorem Rep.tupI {v : Value} {ds : List D} (x : Rep prog w P v (.tup ds)) : ∃ a o n vs, v = .ref a ∧ P a o ∧ o.cls = .type "tuple" ∧ o.data = .seq (List.toArray vs) n ∧ Reps prog w P vs ds := by
  cases x with | tup a b c r => exact ⟨_, _, _, _, rfl, a, b, c, r⟩
theorem Rep.objI {v : Value} {C : Addr} {fs : List (Str × D)} (x : Rep prog w P v (.obj C fs)) : ∃ x dx es n, v = .ref x ∧ P x (instObj C dx) ∧ P dx (dictOf es n) ∧ RepF prog w P es fs := by
  cases x with | obj a b r => exact ⟨_, _, _, _, rfl, a, b, r⟩
end

section
variable {prog : Program} {w : World} {P P' : Vis}
theorem Rep.mono (k : ∀ a o, P a o → P' a o) {v : Value} {d : D} (x : Rep prog w P v d) : Rep prog w P' v d :=
  Rep.rec (motive_1 := fun v d _ => Rep prog w P' v d) (motive_2 := fun v d _ => Reps prog w P' v d) (motive_3 := fun v d _ => RepK prog w P' v d) (motive_4 := fun v d _ => RepF prog w P' v d)
    .none .bool .int .str (fun a b c _ r => .tup (k _ _ a) b c r) (fun a _ r => .list (k _ _ a) r) (fun z a b c e f g _ r => .dict z (k _ _ a) b c e f g r) (fun a b _ r => .obj (k _ _ a) (k _ _ b) r) (fun a => .rng (k _ _ a))
    (fun z y a b c e f g _ r => .itm (k _ _ z) y (k _ _ a) b c e f g r) .nil (fun _ _ a r => .cons a r) .nil (fun _ _ a r => .cons a r) .nil (fun e _ _ a r => .cons e a r) x
theorem Reps.mono (k : ∀ a o, P a o → P' a o) {v : List Value} {d : List D} (x : Reps prog w P v d) : Reps prog w P' v d := by
  induction d generalizing v with
  | nil => rw [x.nilI]; exact .nil
  | cons d ds ih => obtain ⟨v, us, rfl, a, r⟩ := x.consI; exact .cons (a.mono k) (ih r)
theorem RepK.mono (k : ∀ a o, P a o → P' a o) {v : List (Int × Value)} {d : List (Int × D)} (x : RepK prog w P v d) : RepK prog w P' v d := by
  induction d generalizing v with
  | nil => rw [x.nilI]; exact .nil
  | cons d ds ih => obtain ⟨v, us, rfl, a, r⟩ := x.consI; exact .cons (a.mono k) (ih r)
theorem RepF.mono (k : ∀ a o, P a o → P' a o) {v : List DictEntry} {d : List (Str × D)} (x : RepF prog w P v d) : RepF prog w P' v d := by
  induction d generalizing v with
  | nil => rw [x.nilI]; exact .nil
  | cons d ds ih => obtain ⟨e, t, us, rfl, h, a, r⟩ := x.consI; exact .cons h (a.mono k) (ih r)

theorem Reps.length {vs : List Value} {ds : List D} (x : Reps prog w P vs ds) : vs.length = ds.length := by
  induction ds generalizing vs with
  | nil => rw [x.nilI]; rfl
  | cons d ds ih => obtain ⟨v, us, rfl, a, r⟩ := x.consI; exact congrArg (· + 1) (ih r)
theorem Reps.append {vs us : List Value} {ds es : List D} (x : Reps prog w P vs ds) (y : Reps prog w P us es) : Reps prog w P (vs ++ us) (ds ++ es) := by
  induction ds generalizing vs with
  | nil => rw [x.nilI]; exact y
  | cons d ds ih => obtain ⟨v, us, rfl, a, r⟩ := x.consI; exact .cons a (ih r)
theorem Reps.get {vs : List Value} {ds : List D} {i : Nat} {d : D} (x : Reps prog w P vs ds) (e : ds[i]? = some d) : ∃ v, vs[i]? = some v ∧ Rep prog w P v d := by
  induction ds generalizing vs i with
  | nil => cases e
  | cons d' ds ih =>
    obtain ⟨v, us, rfl, a, r⟩ := x.consI
    cases i with
    | zero => cases e; exact ⟨v, rfl, a⟩
    | succ i => have z := ih (i := i) r e; exact z
theorem Reps.set {vs : List Value} {ds : List D} {i : Nat} {v : Value} {d : D} (x : Reps prog w P vs ds) (y : Rep prog w P v d) : Reps prog w P (vs.set i v) (ds.set i d) := by
  induction ds generalizing vs i with
  | nil => rw [x.nilI]; exact .nil
  | cons d' ds ih =>
    obtain ⟨v, us, rfl, a, r⟩ := x.consI
    cases i with
    | zero => exact .cons y r
    | succ i => exact .cons a (ih r)
theorem Reps.flat : ∀ (n : Nat) {vs : List Value} {ds : List D}, Reps prog w P vs ds → Reps prog w P (List.replicate n vs).flatten (List.replicate n ds).flatten
  | 0, _, _, _ => .nil
  | n + 1, _, _, r => by simpa [List.replicate_succ] using r.append (Reps.flat n r)
theorem RepK.keys {vs : List (Int × Value)} {ds : List (Int × D)} (x : RepK prog w P vs ds) : vs.map (·.1) = ds.map (·.1) := by
  induction ds generalizing vs with
  | nil => rw [x.nilI]; rfl
  | cons d ds ih => obtain ⟨v, us, rfl, a, r⟩ := x.consI; exact congrArg (d.1 :: ·) (ih r)
end

noncomputable def ObjIs (prog : Program) (w : World) (P : Vis) (o : Obj) : D → Prop
  | .list ds => ∃ vs n, o = lstO vs n ∧ Reps prog w P vs ds
  | .dict ds => o.ExactDict ∧ ∃ es n kvs, o.data = .dict es n ∧ KeysOf (intKind prog w) es ∧ Pairs (intKind prog w) es.toList kvs ∧ (kvs.map (·.1)).Nodup ∧ RepK prog w P kvs ds
  | _ => False
theorem ObjIs.mono {prog : Program} {w : World} {P P' : Vis} {o : Obj} {d : D} (k : ∀ a o, P a o → P' a o) (x : ObjIs prog w P o d) : ObjIs prog w P' o d := by
  cases d <;> first | exact x.elim | skip
  · obtain ⟨vs, n, b, c⟩ := x; exact ⟨vs, n, b, c.mono k⟩
  · obtain ⟨a, es, n, kvs, b, c, d, e, f⟩ := x; exact ⟨a, es, n, kvs, b, c, d, e, f.mono k⟩
theorem ObjIs.rep {prog : Program} {w : World} {P : Vis} {a : Addr} {o : Obj} {d : D} (z : (a == sysModules) = false) (p : P a o) (x : ObjIs prog w P o d) : Rep prog w P (.ref a) d := by
  cases d <;> first | exact x.elim | skip
  · obtain ⟨vs, n, b, c⟩ := x; subst b; exact .list p c
  · obtain ⟨a, es, n, kvs, b, c, d, e, f⟩ := x; exact .dict z p a b c d e f

structure PExt (P : Vis) (h : Heap) (P' : Vis) (h' : Heap) : Prop where
  up : ∀ a o, P a o → P' a o
  at_ : ∀ a o, P' a o → h'.get? a = some o
  new : ∀ a o, P' a o → P a o ∨ h.get? a = none
noncomputable def PIn (P : Vis) (h : Heap) : Prop := ∀ a o, P a o → h.get? a = some o
theorem PExt.refl {P : Vis} {h : Heap} (x : PIn P h) : PExt P h P h := ⟨fun _ _ e => e, x, fun _ _ e => .inl e⟩
theorem PExt.stay {P : Vis} {h h' : Heap} (x : PIn P h) (k : Sub h h') : PExt P h P h' := ⟨fun _ _ e => e, fun _ _ e => k _ _ (x _ _ e), fun _ _ e => .inl e⟩
theorem PExt.trans {P P' P'' : Vis} {h h' h'' : Heap} (x : PExt P h P' h') (k : Sub h h') (y : PExt P' h' P'' h'') : PExt P h P'' h'' :=
  ⟨fun _ _ e => y.up _ _ (x.up _ _ e), y.at_, fun a o e => (y.new a o e).elim (fun q => x.new a o q) fun q => .inr (k.none q)⟩
noncomputable def PAdd (P : Vis) (a : Addr) (o : Obj) : Vis := fun b q => P b q ∨ (b = a ∧ q = o)
theorem PExt.add {P P' : Vis} {h h' : Heap} (x : PExt P h P' h') {a : Addr} {o : Obj} (n : h.get? a = none) (e : h'.get? a = some o) : PExt P h (PAdd P' a o) h' :=
  ⟨fun _ _ q => .inl (x.up _ _ q), fun _ _ q => q.elim (x.at_ _ _) (by rintro ⟨rfl, rfl⟩; exact e), fun _ _ q => q.elim (x.new _ _) (by rintro ⟨rfl, rfl⟩; exact .inr n)⟩

inductive Mode where | fro | fre | bor
deriving DecidableEq, Inhabited

noncomputable def Val (prog : Program) (w : World) (h : Heap) (P' : Vis) (h' : Heap) (v : Value) (d : D) : Mode → Prop
  | .fro => Rep prog w P' v d
  | .fre => ∃ a o, v = .ref a ∧ (a == sysModules) = false ∧ h.get? a = none ∧ h'.get? a = some o ∧ (∀ q, ¬ P' a q) ∧ o.dict = none ∧ o.slots = #[] ∧ ObjIs prog w P' o d
  | .bor => ∃ a o, v = .ref a ∧ (a == sysModules) = false ∧ h'.get? a = some o ∧ (∀ q, ¬ P' a q) ∧ o.dict = none ∧ o.slots = #[] ∧ ObjIs prog w P' o d


section
variable {prog : Program} {w : World}
noncomputable def Hold (prog : Program) (w : World) (P : Vis) (h : Heap) (v : Value) (d : D) : Prop :=
  Rep prog w P v d ∨ ∃ a o, v = .ref a ∧ (a == sysModules) = false ∧ h.get? a = some o ∧ ObjIs prog w P o d
theorem Val.hold {h h' : Heap} {P : Vis} {v : Value} {d : D} {m : Mode} (x : Val prog w h P h' v d m) : Hold prog w P h' v d := by
  cases m with
  | fro => exact .inl x
  | fre => obtain ⟨a, o, e, z, _, e1, _, _, _, y⟩ := x; exact .inr ⟨a, o, e, z, e1, y⟩
  | bor => obtain ⟨a, o, e, z, e1, _, _, _, y⟩ := x; exact .inr ⟨a, o, e, z, e1, y⟩
theorem Val.keeps {h h' h'' : Heap} {P P' : Vis} {v : Value} {d : D} {m : Mode} (x : Val prog w h P h' v d m) (k : Sub h' h'') (y : PExt P h' P' h'') : Val prog w h P' h'' v d m := by
  cases m with
  | fro => exact Rep.mono y.up x
  | fre =>
    obtain ⟨a, o, e, z, n, e1, q, p1, p2, r⟩ := x
    exact ⟨a, o, e, z, n, k _ _ e1, fun o' hq => (y.new a o' hq).elim (q o') (fun c => by rw [e1] at c; cases c), p1, p2, r.mono y.up⟩
  | bor =>
    obtain ⟨a, o, e, z, e1, q, p1, p2, r⟩ := x
    exact ⟨a, o, e, z, k _ _ e1, fun o' hq => (y.new a o' hq).elim (q o') (fun c => by rw [e1] at c; cases c), p1, p2, r.mono y.up⟩
theorem Val.back {h₀ h h' : Heap} {P : Vis} {v : Value} {d : D} {m : Mode} (k : Sub h₀ h) (x : Val prog w h P h' v d m) : Val prog w h₀ P h' v d m := by
  cases m with
  | fro => exact x
  | fre => obtain ⟨a, o, e, z, n, r⟩ := x; exact ⟨a, o, e, z, k.none n, r⟩
  | bor => exact x
theorem Val.freeze {h h' : Heap} {P P' : Vis} {v : Value} {d : D} {m : Mode} (hm : m ≠ .bor) (x : Val prog w h P' h' v d m) (y : PExt P h P' h') : ∃ P'', PExt P h P'' h' ∧ (∀ a o, P' a o → P'' a o) ∧ Rep prog w P'' v d := by
  cases m with
  | fro => exact ⟨P', y, fun _ _ e => e, x⟩
  | fre =>
    obtain ⟨a, o, e, z, n, e1, q, p1, p2, r⟩ := x
    exact ⟨PAdd P' a o, y.add n e1, fun _ _ e => .inl e, by subst e; exact (r.mono fun _ _ e => .inl e).rep z (.inr ⟨rfl, rfl⟩)⟩
  | bor => exact absurd rfl hm

theorem Hold.int {P : Vis} {h : Heap} {v : Value} {i : Int} (x : Hold prog w P h v (.int i)) : ∃ t, v = .int i t := by
  rcases x with x | ⟨_, _, _, _, _, y⟩
  · exact x.intI
  · exact y.elim
theorem Hold.str {P : Vis} {h : Heap} {v : Value} {i : Str} (x : Hold prog w P h v (.str i)) : ∃ t, v = .str i t := by
  rcases x with x | ⟨_, _, _, _, _, y⟩
  · exact x.strI
  · exact y.elim
theorem Hold.bool {P : Vis} {h : Heap} {v : Value} {i : Bool} (x : Hold prog w P h v (.bool i)) : v = .bool i := by
  rcases x with x | ⟨_, _, _, _, _, y⟩
  · exact x.boolI
  · exact y.elim
theorem Hold.list {P : Vis} {h : Heap} {v : Value} {ds : List D} (p : PIn P h) (x : Hold prog w P h v (.list ds)) : ∃ a vs n, v = .ref a ∧ h.get? a = some (lstO vs n) ∧ Reps prog w P vs ds := by
  rcases x with x | ⟨a, o, e, _, e1, y⟩
  · obtain ⟨_, _, _, e, a, r⟩ := x.listI; exact ⟨_, _, _, e, p _ _ a, r⟩
  · obtain ⟨vs, n, y2, y3⟩ := y; subst y2; exact ⟨a, vs, n, e, e1, y3⟩
theorem isList_of {h : Heap} {a : Addr} {vs : List Value} {n : Nat} (e : h.get? a = some (lstO vs n)) : h.IsList a vs.toArray := ⟨_, e, rfl, _, rfl⟩
theorem Hold.tup {P : Vis} {h : Heap} {v : Value} {ds : List D} (p : PIn P h) (x : Hold prog w P h v (.tup ds)) : ∃ a vs, v = .ref a ∧ IsTup h a (List.toArray vs) ∧ Reps prog w P vs ds := by
  rcases x with x | ⟨a, o, e, _, e1, y⟩
  · obtain ⟨_, _, _, _, e, a, b, c, r⟩ := x.tupI; exact ⟨_, _, e, ⟨_, p _ _ a, b, _, c⟩, r⟩
  · exact y.elim
theorem Hold.dict {P : Vis} {h : Heap} {v : Value} {ds : List (Int × D)} (p : PIn P h) (x : Hold prog w P h v (.dict ds)) :
    ∃ a kvs, v = .ref a ∧ (a == sysModules) = false ∧ h.DictOf (intKind prog w) a kvs ∧ RepK prog w P kvs ds := by
  rcases x with x | ⟨a, o, e, z, e1, y⟩
  · cases x with | dict z a b c f g k r => exact ⟨_, _, rfl, z, ⟨_, _, _, p _ _ a, b, c, f, g, k⟩, r⟩
  · obtain ⟨y1, es, n, kvs, y2, y3, y4, y5, y6⟩ := y
    exact ⟨a, kvs, e, z, ⟨o, es, n, e1, y1, y2, y3, y4, y5⟩, y6⟩

structure Room (A : Around) (n : Nat) : Prop where
  hd : A.handled = none
  dp : A.depth + n < recursionLimit
  un : A.units + 8 * n + 128 < cLine
theorem Room.less {A : Around} {n m : Nat} (x : Room A n) (h : m ≤ n) : Room A m := ⟨x.hd, by have := x.dp; (first | lia | omega), by have := x.un; (first | lia | omega)⟩
noncomputable def SameW (s s' : Shared) : Prop := s'.gens = s.gens ∧ s'.os = s.os
theorem SameW.refl (s : Shared) : SameW s s := ⟨rfl, rfl⟩
theorem SameW.trans {a b c : Shared} (x : SameW a b) (y : SameW b c) : SameW a c := ⟨y.1.trans x.1, y.2.trans x.2⟩
end
noncomputable def Big (h : Heap) : Prop := ∃ a o, 1 ≤ a ∧ h.get? a = some o
theorem Big.lt {h : Heap} (x : Big h) : 1 < h.objs.size := let ⟨_, _, a, b⟩ := x; Nat.lt_of_le_of_lt a (Heap.lt_size b)
theorem Big.keeps {h h' : Heap} (x : Big h) (k : Sub h h') : Big h' := let ⟨a, o, b, c⟩ := x; ⟨a, o, b, k _ _ c⟩
end Mine

namespace Mine
section

structure Cx where
  con : Str → Option D
  fn : Str → List D → Option (D × Bool)
  fld : Addr → Str → Bool

abbrev Rho := List (Str × (D × Mode))
noncomputable def Rho.set (x : Str) (r : D × Mode) : Rho → Rho
  | [] => [(x, r)]
  | (y, q) :: l => @ite _ (x = y) (Fast.sDec x y) ((y, r) :: l) ((y, q) :: Rho.set x r l)
noncomputable def Rho.get (x : Str) : Rho → Option (D × Mode)
  | [] => none
  | (y, q) :: l => @ite _ (x = y) (Fast.sDec x y) (some q) (Rho.get x l)
noncomputable def Rho.frz : Rho → Rho := List.map fun p => (p.1, (p.2.1, .fro))

noncomputable def constD : Const → Option D
  | .none => some .none | .bool b => some (.bool b) | .int i => some (.int i) | .str s => some (.str s) | _ => none

noncomputable def small (a : Int) : Bool := decide (a.natAbs < 18446744073709551616)

noncomputable def iiD (f : Int → Int → Option (D × Mode)) (x y : D) : Option (D × Mode) :=
  match x with
  | .int a => match y with
    | .int b => f a b
    | _ => none
  | _ => none
noncomputable def addD (x y : D) : Option (D × Mode) :=
  match x with
  | .int a => match y with
    | .int b => some (.int (a + b), .fro)
    | _ => none
  | .list xs => match y with
    | .list ys => if xs.length + ys.length ≤ 16777216 then some (.list (xs ++ ys), .fre) else none
    | _ => none
  | _ => none
noncomputable def mulD (x : D) (m : Mode) (y : D) : Option (D × Mode) :=
  match y with
  | .int b => match x with
    | .int a => if small a = true ∧ small b = true then some (.int (a * b), .fro) else none
    | .list xs => match m with
      | .fre => if 0 ≤ b ∧ b < 1000 ∧ xs.length ≤ 1000 then some (.list (List.replicate b.toNat xs).flatten, .fre) else none
      | _ => none
    | _ => none
  | _ => none
noncomputable def binop (op : Operator) (x : D) (m : Mode) (y : D) : Option (D × Mode) :=
  match op with
  | .Add => addD x y
  | .Sub => iiD (fun a b => some (.int (a - b), .fro)) x y
  | .Mult => mulD x m y
  | .Mod => iiD (fun a b => if b = 0 then none else some (.int (a.fmod b), .fro)) x y
  | .FloorDiv => iiD (fun a b => if b = 0 ∨ ¬ b.natAbs < 1073741824 then none else some (.int (a.fdiv b), .fro)) x y
  | .BitAnd => iiD (fun a b => some (.int (Builtin.bitAnd a b), .fro)) x y
  | .BitOr => iiD (fun a b => some (.int (Builtin.bitOr a b), .fro)) x y
  | .LShift => iiD (fun a n => if 0 ≤ n ∧ n ≤ 1000000 ∧ small a = true then some (.int (a * 2 ^ n.toNat), .fro) else none) x y
  | .RShift => iiD (fun a n => if 0 ≤ n then some (.int (a.fdiv (2 ^ n.toNat)), .fro) else none) x y
  | _ => none
theorem iiD_inv {f : Int → Int → Option (D × Mode)} {x y : D} {r : D × Mode} (h : iiD f x y = some r) : ∃ i j, x = .int i ∧ y = .int j ∧ f i j = some r := by
  cases x with
  | int i => cases y with
    | int j => exact ⟨i, j, rfl, rfl, h⟩
    | _ => exact nno h
  | _ => exact nno h
theorem addD_inv {x y : D} {r : D × Mode} (h : addD x y = some r) : (∃ i j, x = .int i ∧ y = .int j ∧ (.int (i + j), .fro) = r) ∨ ∃ xs ys, x = .list xs ∧ y = .list ys ∧ xs.length + ys.length ≤ 16777216 ∧ (.list (xs ++ ys), .fre) = r := by
  cases x with
  | int i => cases y with
    | int j => exact .inl ⟨i, j, rfl, rfl, Option.some.inj h⟩
    | _ => exact nno h
  | list xs => cases y with
    | list ys => exact .inr ⟨xs, ys, rfl, rfl, (iteS h).1, Option.some.inj (iteS h).2⟩
    | _ => exact nno h
  | _ => exact nno h
theorem mulD_inv {x y : D} {m : Mode} {r : D × Mode} (h : mulD x m y = some r) : ∃ j, y = .int j ∧ ((∃ i, x = .int i ∧ (small i = true ∧ small j = true) ∧ (.int (i * j), .fro) = r) ∨ ∃ xs, x = .list xs ∧ m = .fre ∧ (0 ≤ j ∧ j < 1000 ∧ xs.length ≤ 1000) ∧ (.list (List.replicate j.toNat xs).flatten, .fre) = r) := by
  cases y with
  | int j => cases x with
    | int i => exact ⟨j, rfl, .inl ⟨i, rfl, (iteS h).1, Option.some.inj (iteS h).2⟩⟩
    | list xs => cases m with
      | fre => exact ⟨j, rfl, .inr ⟨xs, rfl, rfl, (iteS h).1, Option.some.inj (iteS h).2⟩⟩
      | _ => exact nno h
    | _ => exact nno h
  | _ => exact nno h

noncomputable def unop (op : UnaryOp) (x : D) : Option D :=
  match op with
  | .USub => match x with
    | .int a => some (.int (-a))
    | _ => none
  | .Not => match x with
    | .bool b => some (.bool (!b))
    | _ => none
  | _ => none
theorem unop_inv {op : UnaryOp} {x d : D} (h : unop op x = some d) : (∃ i, op = .USub ∧ x = .int i ∧ .int (-i) = d) ∨ ∃ b, op = .Not ∧ x = .bool b ∧ .bool (!b) = d := by
  cases op with
  | USub => cases x with
    | int i => exact .inl ⟨i, rfl, rfl, Option.some.inj h⟩
    | _ => exact nno h
  | Not => cases x with
    | bool b => exact .inr ⟨b, rfl, rfl, Option.some.inj h⟩
    | _ => exact nno h
  | _ => exact nno h

noncomputable def intD : D → Option Int
  | .int i => some i
  | _ => none
theorem intD_inv {d : D} {i : Int} (h : intD d = some i) : d = .int i := by
  cases d with
  | int j => cases h; rfl
  | _ => exact nno h
noncomputable def strD : D → Option Str
  | .str i => some i
  | _ => none
theorem strD_inv {d : D} {i : Str} (h : strD d = some i) : d = .str i := by
  cases d with
  | str j => cases h; rfl
  | _ => exact nno h
noncomputable def intsOf : List D → Option (List Int)
  | [] => some []
  | d :: r => (intD d).bind fun i => (intsOf r).map (i :: ·)
theorem intsOf_inv {d : D} {r : List D} {ns : List Int} (h : intsOf (d :: r) = some ns) : ∃ i l, d = .int i ∧ intsOf r = some l ∧ i :: l = ns := by
  obtain ⟨i, h1, h⟩ := Option.bind_eq_some_iff.mp (show (intD d).bind (fun i => (intsOf r).map (i :: ·)) = some ns from h)
  obtain ⟨l, h2, h3⟩ := Option.map_eq_some_iff.mp h
  exact ⟨i, l, intD_inv h1, h2, h3⟩
noncomputable def strsOf : List D → Option (List Str)
  | [] => some []
  | d :: r => (strD d).bind fun i => (strsOf r).map (i :: ·)
theorem strsOf_inv {d : D} {r : List D} {ns : List Str} (h : strsOf (d :: r) = some ns) : ∃ i l, d = .str i ∧ strsOf r = some l ∧ i :: l = ns := by
  obtain ⟨i, h1, h⟩ := Option.bind_eq_some_iff.mp (show (strD d).bind (fun i => (strsOf r).map (i :: ·)) = some ns from h)
  obtain ⟨l, h2, h3⟩ := Option.map_eq_some_iff.mp h
  exact ⟨i, l, strD_inv h1, h2, h3⟩

noncomputable def isIn (x : D) (c : D) : Option Bool :=
  match x with
  | .int i => match c with
    | .tup ds => (intsOf ds).map (·.contains i)
    | .list ds => (intsOf ds).map (·.contains i)
    | .dict es => some (es.any fun e => e.1 = i)
    | _ => none
  | .str i => match c with
    | .tup ds => (strsOf ds).map (·.contains i)
    | _ => none
  | _ => none
theorem isIn_inv {x c : D} {b : Bool} (h : isIn x c = some b) : (∃ i, x = .int i ∧ ((∃ ds, c = .tup ds ∧ (intsOf ds).map (·.contains i) = some b) ∨ (∃ ds, c = .list ds ∧ (intsOf ds).map (·.contains i) = some b) ∨ ∃ es, c = .dict es ∧ (es.any fun e => e.1 = i) = b)) ∨
    ∃ i ds, x = .str i ∧ c = .tup ds ∧ (strsOf ds).map (·.contains i) = some b := by
  cases x with
  | int i => cases c with
    | tup ds => exact .inl ⟨i, rfl, .inl ⟨ds, rfl, h⟩⟩
    | list ds => exact .inl ⟨i, rfl, .inr (.inl ⟨ds, rfl, h⟩)⟩
    | dict es => exact .inl ⟨i, rfl, .inr (.inr ⟨es, rfl, Option.some.inj h⟩)⟩
    | _ => exact nno h
  | str i => cases c with
    | tup ds => exact .inr ⟨i, ds, rfl, rfl, h⟩
    | _ => exact nno h
  | _ => exact nno h

noncomputable def eqs (x y : D) : Option Bool :=
  match x with
  | .int a => match y with
    | .int b => some (a == b)
    | _ => none
  | .str a => match y with
    | .str b => some (a == b)
    | _ => none
  | .bool a => match y with
    | .bool b => some (a == b)
    | _ => none
  | .list xs => match y with
    | .list ys => (intsOf xs).bind fun a => (intsOf ys).map fun b => decide (a = b)
    | _ => none
  | _ => none
theorem eqs_inv {x y : D} {r : Bool} (h : eqs x y = some r) : (∃ a b, x = .int a ∧ y = .int b ∧ (a == b) = r) ∨ (∃ a b, x = .str a ∧ y = .str b ∧ (a == b) = r) ∨ (∃ a b, x = .bool a ∧ y = .bool b ∧ (a == b) = r) ∨
    ∃ xs ys, x = .list xs ∧ y = .list ys ∧ ((intsOf xs).bind fun a => (intsOf ys).map fun b => decide (a = b)) = some r := by
  cases x with
  | int a => cases y with
    | int b => exact .inl ⟨a, b, rfl, rfl, Option.some.inj h⟩
    | _ => exact nno h
  | str a => cases y with
    | str b => exact .inr (.inl ⟨a, b, rfl, rfl, Option.some.inj h⟩)
    | _ => exact nno h
  | bool a => cases y with
    | bool b => exact .inr (.inr (.inl ⟨a, b, rfl, rfl, Option.some.inj h⟩))
    | _ => exact nno h
  | list xs => cases y with
    | list ys => exact .inr (.inr (.inr ⟨xs, ys, rfl, rfl, h⟩))
    | _ => exact nno h
  | _ => exact nno h

noncomputable def ltD (f : Int → Int → Bool) (x y : D) : Option Bool :=
  match x with
  | .int a => match y with
    | .int b => some (f a b)
    | _ => none
  | _ => none
theorem ltD_inv {f : Int → Int → Bool} {x y : D} {r : Bool} (h : ltD f x y = some r) : ∃ a b, x = .int a ∧ y = .int b ∧ f a b = r := by
  cases x with
  | int a => cases y with
    | int b => exact ⟨a, b, rfl, rfl, Option.some.inj h⟩
    | _ => exact nno h
  | _ => exact nno h
noncomputable def cmp (op : CmpOp) (x y : D) : Option Bool :=
  match op with
  | .Eq => eqs x y
  | .NotEq => (eqs x y).map (!·)
  | .In => isIn x y
  | .NotIn => (isIn x y).map (!·)
  | .Lt => ltD (fun a b => decide (a < b)) x y
  | .LtE => ltD (fun a b => decide (a ≤ b)) x y
  | .Gt => ltD (fun a b => decide (b < a)) x y
  | .GtE => ltD (fun a b => decide (b ≤ a)) x y
  | _ => none

noncomputable def truth : D → Option Bool
  | .bool b => some b
  | .int i => some (i != 0)
  | _ => none

theorem truth_inv {d : D} {b : Bool} (h : truth d = some b) : d = .bool b ∨ ∃ i, d = .int i ∧ (i != 0) = b := by
  cases d with
  | bool c => exact .inl (by cases h; rfl)
  | int i => exact .inr ⟨i, rfl, Option.some.inj h⟩
  | _ => exact nno h
noncomputable def asBool : D → Option Bool
  | .bool b => some b
  | _ => none

theorem asBool_inv {d : D} {b : Bool} (h : asBool d = some b) : d = .bool b := by
  cases d with
  | bool c => cases h; rfl
  | _ => exact nno h
noncomputable def nth (ds : List D) (i : Int) : Option D :=
  if 0 ≤ i then (if i < 9223372036854775808 then ds[i.toNat]? else none)
  else if -(ds.length : Int) ≤ i ∧ -9223372036854775808 ≤ i then ds[(i + ds.length).toNat]? else none

noncomputable def dget (es : List (Int × D)) (k : Int) : Option D := (es.find? fun e => e.1 = k).map (·.2)
noncomputable def item (x i : D) : Option D :=
  match i with
  | .int k => match x with
    | .list ds => nth ds k
    | .tup ds => nth ds k
    | .dict es => dget es k
    | _ => none
  | _ => none

theorem item_inv {x i d : D} (h : item x i = some d) : ∃ k, i = .int k ∧ ((∃ ds, x = .list ds ∧ nth ds k = some d) ∨ (∃ ds, x = .tup ds ∧ nth ds k = some d) ∨ ∃ es, x = .dict es ∧ dget es k = some d) := by
  cases i with
  | int k => cases x with
    | list ds => exact ⟨k, rfl, .inl ⟨ds, rfl, h⟩⟩
    | tup ds => exact ⟨k, rfl, .inr (.inl ⟨ds, rfl, h⟩)⟩
    | dict es => exact ⟨k, rfl, .inr (.inr ⟨es, rfl, h⟩)⟩
    | _ => exact nno h
  | _ => exact nno h

noncomputable def field (cx : Cx) (x : D) (name : Str) : Option D :=
  match x with
  | .obj C fs => if cx.fld C name = true then fs.lookup name else none
  | _ => none

theorem field_inv {cx : Cx} {x d : D} {nm : Str} (h : field cx x nm = some d) : ∃ C fs, x = .obj C fs ∧ cx.fld C nm = true ∧ fs.lookup nm = some d := by
  cases x with
  | obj C fs => exact ⟨C, fs, rfl, iteS h⟩
  | _ => exact nno h
noncomputable def strM (name : Str) (x : Str) : Option (D × Mode) :=
  if x.length ≤ 1000 then (if name = ("split" : Str) ∧ (Builtin.Str.spaceWords x (x.length + 1)).length ≤ 16777216 then some (.list ((Txt.words x).map .str), .fre) else if name = ("strip" : Str) then some (.str (Txt.strip x), .fro) else none) else none
noncomputable def getM (name : Str) (es : List (Int × D)) (m : Mode) : List D → Option (D × Mode)
  | [] => if name = ("items" : Str) ∧ m = .fro then some (.itm es, .fro) else none
  | a :: r => (intD a).bind fun k => match r with
    | [] => none
    | d :: q => if name = ("get" : Str) ∧ q.isEmpty = true then some ((dget es k).getD d, .fro) else none
noncomputable def meth (name : Str) (x : D) (m : Mode) (args : List D) : Option (D × Mode) :=
  match x with
  | .str x => if args.isEmpty = true then strM name x else none
  | .dict es => getM name es m args
  | _ => none
theorem isE {α : Type} {l : List α} (h : l.isEmpty = true) : l = [] := by cases l with
  | nil => rfl
  | cons => cases h
theorem meth_inv {name : Str} {x : D} {m : Mode} {args : List D} {r : D × Mode} (h : meth name x m args = some r) : (∃ s, x = .str s ∧ args = [] ∧ strM name s = some r) ∨
    ∃ es, x = .dict es ∧ ((args = [] ∧ (name = ("items" : Str) ∧ m = .fro) ∧ (.itm es, .fro) = r) ∨ ∃ k d, args = [.int k, d] ∧ name = ("get" : Str) ∧ ((dget es k).getD d, .fro) = r) := by
  cases x with
  | str s => exact .inl ⟨s, rfl, isE (iteS h).1, (iteS h).2⟩
  | dict es => cases args with
    | nil => exact .inr ⟨es, rfl, .inl ⟨rfl, (iteS h).1, Option.some.inj (iteS h).2⟩⟩
    | cons a q =>
      cases q with
      | nil =>
        obtain ⟨k, _, h⟩ := Option.bind_eq_some_iff.mp (show (intD a).bind (fun _ => none) = some r from h)
        exact nno h
      | cons d q =>
        obtain ⟨k, h1, h⟩ := Option.bind_eq_some_iff.mp (show (intD a).bind (fun k => if name = ("get" : Str) ∧ q.isEmpty = true then some ((dget es k).getD d, .fro) else none) = some r from h)
        obtain ⟨⟨h2, h3⟩, h⟩ := iteS h
        exact .inr ⟨es, rfl, .inr ⟨k, d, by rw [intD_inv h1, isE h3], h2, Option.some.inj h⟩⟩
  | _ => exact nno h

noncomputable def asName : Expr → Option Str
  | .Name x _ => some x
  | _ => none
theorem asName_inv {e : Expr} {x : Str} (h : asName e = some x) : ∃ p, e = .Name x p := by
  cases e with
  | Name y p => exact ⟨p, by cases h; rfl⟩
  | _ => exact nno h
noncomputable def asInt : Expr → Option Int
  | .Constant c _ _ => match c with
    | .int i => some i
    | _ => none
  | _ => none
theorem asInt_inv {e : Expr} {i : Int} (h : asInt e = some i) : ∃ k p, e = .Constant (.int i) k p := by
  cases e with
  | Constant c k p => cases c with
    | int j => exact ⟨k, p, by cases h; rfl⟩
    | _ => exact nno h
  | _ => exact nno h

noncomputable def tgtOk : Expr → Bool
  | .Name .. => true
  | .Tuple .. => true
  | _ => false
noncomputable def tgtTup : Expr → Bool
  | .Tuple .. => true
  | _ => false
noncomputable def iterItems (t : Expr) : D → Option (List D)
  | .list ds => if ds.length ≤ 100000 then some ds else none
  | .rng a b => if a = 0 ∧ -100000 < b ∧ b < 100000 then some ((List.range b.toNat).map fun (i : Nat) => D.int i) else none
  | .itm es => if tgtTup t = true ∧ es.length ≤ 100000 then some (es.map fun e => .tup [.int e.1, e.2]) else none
  | _ => none
theorem iterItems_inv {t : Expr} {d : D} {l : List D} (h : iterItems t d = some l) : (d = .list l ∧ l.length ≤ 100000) ∨ (∃ a b, d = .rng a b ∧ (a = 0 ∧ -100000 < b ∧ b < 100000) ∧ ((List.range b.toNat).map fun (i : Nat) => D.int i) = l) ∨
    ∃ es, d = .itm es ∧ (tgtTup t = true ∧ es.length ≤ 100000) ∧ (es.map fun e => .tup [.int e.1, e.2]) = l := by
  cases d with
  | list ds => exact .inl (by obtain ⟨h1, h2⟩ := iteS h; cases h2; exact ⟨rfl, h1⟩)
  | rng a b => exact .inr (.inl ⟨a, b, rfl, (iteS h).1, Option.some.inj (iteS h).2⟩)
  | itm es => exact .inr (.inr ⟨es, rfl, (iteS h).1, Option.some.inj (iteS h).2⟩)
  | _ => exact nno h

noncomputable def namesOf : List Expr → Option (List Str)
  | [] => some []
  | e :: r => (asName e).bind fun x => (namesOf r).map (x :: ·)
theorem namesOf_inv {e : Expr} {r : List Expr} {ns : List Str} (h : namesOf (e :: r) = some ns) : ∃ x p l, e = .Name x p ∧ namesOf r = some l ∧ x :: l = ns := by
  obtain ⟨x, h1, h⟩ := Option.bind_eq_some_iff.mp (show (asName e).bind (fun x => (namesOf r).map (x :: ·)) = some ns from h)
  obtain ⟨p, q⟩ := asName_inv h1
  obtain ⟨l, h2, h3⟩ := Option.map_eq_some_iff.mp h
  exact ⟨x, p, l, q, h2, h3⟩
noncomputable def bindT (t : Expr) (d : D) : Option (List (Str × D)) :=
  match t with
  | .Name x _ => some [(x, d)]
  | .Tuple elts _ _ => match d with
    | .tup ds => (namesOf elts).bind fun ns => if ns.length = ds.length ∧ ns.Nodup then some (ns.zip ds) else none
    | _ => none
  | _ => none
theorem bindT_inv {t : Expr} {d : D} {b : List (Str × D)} (h : bindT t d = some b) : (∃ x p, t = .Name x p ∧ [(x, d)] = b) ∨ ∃ elts k p ds ns, t = .Tuple elts k p ∧ d = .tup ds ∧ namesOf elts = some ns ∧ (ns.length = ds.length ∧ ns.Nodup) ∧ ns.zip ds = b := by
  cases t with
  | Name x p => exact .inl ⟨x, p, rfl, Option.some.inj h⟩
  | Tuple elts k p => cases d with
    | tup ds =>
      obtain ⟨ns, h1, h⟩ := Option.bind_eq_some_iff.mp (show (namesOf elts).bind (fun ns => if ns.length = ds.length ∧ ns.Nodup then some (ns.zip ds) else none) = some b from h)
      exact .inr ⟨elts, k, p, ds, ns, rfl, rfl, h1, (iteS h).1, Option.some.inj (iteS h).2⟩
    | _ => exact nno h
  | _ => exact nno h

noncomputable def setB (b : List (Str × D)) (ρ : Rho) : Rho := b.foldl (fun ρ p => ρ.set p.1 (p.2, .fro)) ρ
noncomputable def compBase (scope : Scope) (ρ : Rho) : Rho := scope.names.filterMap fun n => if n.2 = .free then (match ρ.get n.1 with | some (d, .fro) => some (n.1, (d, .fro)) | _ => none) else none
noncomputable def compRho (scope : Scope) (b : List (Str × D)) (ρ : Rho) : Rho := setB b (compBase scope ρ)

noncomputable def constKeys : List (Option Expr) → Option (List Int)
  | [] => some []
  | e :: r => (e.bind asInt).bind fun i => (constKeys r).map (i :: ·)
theorem constKeys_inv {e : Option Expr} {r : List (Option Expr)} {ns : List Int} (h : constKeys (e :: r) = some ns) : ∃ i k p l, e = some (.Constant (.int i) k p) ∧ constKeys r = some l ∧ i :: l = ns := by
  obtain ⟨i, h1, h⟩ := Option.bind_eq_some_iff.mp (show (e.bind asInt).bind (fun i => (constKeys r).map (i :: ·)) = some ns from h)
  obtain ⟨e', h3, h1⟩ := Option.bind_eq_some_iff.mp h1
  obtain ⟨k, p, q⟩ := asInt_inv h1
  obtain ⟨l, h2, h4⟩ := Option.map_eq_some_iff.mp h
  exact ⟨i, k, p, l, by rw [h3, q], h2, h4⟩
noncomputable def constVals : List Expr → Option (List Int)
  | [] => some []
  | e :: r => (asInt e).bind fun i => (constVals r).map (i :: ·)
theorem constVals_inv {e : Expr} {r : List Expr} {ns : List Int} (h : constVals (e :: r) = some ns) : ∃ i k p l, e = .Constant (.int i) k p ∧ constVals r = some l ∧ i :: l = ns := by
  obtain ⟨i, h1, h⟩ := Option.bind_eq_some_iff.mp (show (asInt e).bind (fun i => (constVals r).map (i :: ·)) = some ns from h)
  obtain ⟨k, p, q⟩ := asInt_inv h1
  obtain ⟨l, h2, h4⟩ := Option.map_eq_some_iff.mp h
  exact ⟨i, k, p, l, q, h2, h4⟩

noncomputable def compGo (f : D → Option (Option D)) : List D → Option (List D)
  | [] => some []
  | d :: r => (f d).bind fun x => (compGo f r).map fun l => match x with | some y => y :: l | none => l

noncomputable def callD (cx : Cx) (sc : Scope) (ρ : Rho) (f : Str) (ds : Option (List D)) : Option (D × Mode) :=
  if ρ.get f = none ∧ sc.names.lookup f = some .globalImplicit ∧ f ≠ ("__debug__" : Str) then
    ds.bind fun ds => (cx.fn f ds).map fun r => (r.1, if r.2 then .fre else .fro)
  else none


noncomputable def notStar : Expr → Bool
  | .Starred .. => false
  | _ => true
noncomputable def few (args : List Expr) : Bool := decide (args.length < 29) && args.all notStar
noncomputable def baseOk : Expr → Bool
  | .Call .. => false
  | _ => true
noncomputable def lineOk (a p : Pos) : Bool := a.endLine == p.line
noncomputable def sliceNo : Expr → Bool
  | .Slice .. => false
  | _ => true
noncomputable def marksNo : List Expr → Bool := fun l => l.all fun | .Set .. => false | _ => true
noncomputable def names1 (scope : Scope) (t : Expr) : Bool := match t with
  | .Name x _ => scope.names.lookup x == some .local
  | .Tuple elts _ _ => match namesOf elts with | some ns => ns.all fun x => scope.names.lookup x == some .local | none => false
  | _ => false
noncomputable def scopeOk (sc scope : Scope) : Bool := (scope.kind == .function) && (sc.kind == .function) && scope.names.all fun x => (x.2 != .cell) && ((x.2 != .local) || scope.names.lookup x.1 == some .local) &&
  ((x.2 != .free) || ((scope.names.lookup x.1 == some .free) && (sc.names.lookup x.1 == some .cell)))
noncomputable def freeOk (scope : Scope) (ρ : Rho) : Bool := scope.names.all fun x => (x.2 != .free) || (ρ.get x.1).isSome
noncomputable def iterOk : Expr → Bool
  | .Name .. => true
  | .Call .. => true
  | _ => false

noncomputable def cutS (x : Str) (i j : Int) : Option D :=
  if x.length ≤ 1000 ∧ (slicePicked x (some (i, 0)) (some (j, 0)) none).length ≤ 1000 then some (.str (if (slicePicked x (some (i, 0)) (some (j, 0)) none).length == x.length then x else ⟨((slicePicked x (some (i, 0)) (some (j, 0)) none).filterMap (x.cps[·]?)).toArray⟩)) else none
noncomputable def cut (x i j : D) : Option D := (strD x).bind fun x => (intD i).bind fun i => (intD j).bind fun j => cutS x i j
theorem cut_inv {x i j d : D} (h : cut x i j = some d) : ∃ a b c, x = .str a ∧ i = .int b ∧ j = .int c ∧ cutS a b c = some d := by
  obtain ⟨a, h1, h⟩ := Option.bind_eq_some_iff.mp h
  obtain ⟨b, h2, h⟩ := Option.bind_eq_some_iff.mp h
  obtain ⟨c, h3, h⟩ := Option.bind_eq_some_iff.mp h
  exact ⟨a, b, c, strD_inv h1, intD_inv h2, intD_inv h3, h⟩

noncomputable def enumD : Nat → List D → List D
  | _, [] => []
  | n, d :: r => .tup [.int n, d] :: enumD (n + 1) r
noncomputable def isEnum (f : Str) (sc : Scope) (ρ : Rho) : Bool := (f == ("enumerate" : Str)) && (ρ.get f).isNone && (sc.names.lookup f == some .globalImplicit)
noncomputable def asCall1 : Expr → Option (Str × Expr)
  | .Call f args kws _ => match args with
    | [] => none
    | e :: r => if r.isEmpty = true ∧ kws.isEmpty = true then (asName f).map fun x => (x, e) else none
  | _ => none
theorem asCall1_inv {e : Expr} {x : Str} {a : Expr} (h : asCall1 e = some (x, a)) : ∃ fp p, e = .Call (.Name x fp) [a] [] p := by
  cases e with
  | Call f args kws p => cases args with
    | nil => exact nno h
    | cons e r =>
      obtain ⟨h1, h⟩ := iteS h
      obtain ⟨y, h2, h3⟩ := Option.map_eq_some_iff.mp h
      obtain ⟨fp, q⟩ := asName_inv h2
      cases h3
      exact ⟨fp, p, by rw [q, isE h1.1, isE h1.2]⟩
  | _ => exact nno h
noncomputable def isLE (f : Str) (args : List Expr) (sc : Scope) (ρ : Rho) : Bool := (f == ("list" : Str)) && (ρ.get f).isNone && (sc.names.lookup f == some .globalImplicit) && match args with
  | [] => false
  | a :: r => r.isEmpty && match asCall1 a with
    | some q => isEnum q.1 sc ρ && few [q.2]
    | none => false

mutual
noncomputable def ev (cx : Cx) : Expr → Scope → Rho → Option (D × Mode)
  | .Constant c _ _, _, _ => (constD c).map fun d => (d, .fro)
  | .Name id _, sc, ρ => if id = ("__debug__" : Str) then none else match ρ.get id with
    | some r => some r
    | none => if sc.names.lookup id = some .globalImplicit then (cx.con id).map fun d => (d, .fro) else none
  | .BoolOp op vs _, sc, ρ => (evB cx op vs sc ρ).map fun b => (.bool b, .fro)
  | .BinOp l op r _, sc, ρ => (ev cx l sc ρ).bind fun a => (ev cx r sc ρ).bind fun b => binop op a.1 a.2 b.1
  | .UnaryOp op x _, sc, ρ => (ev cx x sc ρ).bind fun a => (unop op a.1).map fun d => (d, .fro)
  | .IfExp t b o _, sc, ρ => (tr cx t sc ρ (ev cx t sc ρ)).bind fun c => if c = true then ev cx b sc ρ else ev cx o sc ρ
  | .List elts _, sc, ρ => if few elts = true then (evs cx elts sc ρ).map fun ds => (.list ds, .fre) else none
  | .Tuple elts _ _, sc, ρ => if few elts = true then (evs cx elts sc ρ).map fun ds => (.tup ds, .fro) else none
  | .Dict keys vals _, _, _ => (constKeys keys).bind fun ks => (constVals vals).bind fun vs =>
      if ks.length = vs.length ∧ ks.length ≤ 15 ∧ ks.Nodup then some (.dict (ks.zip (vs.map .int)), .fre) else none
  | .Compare l ops rs _, sc, ρ => if marksNo rs = true then (ev cx l sc ρ).bind fun a => (evC cx a.1 ops rs sc ρ).map fun b => (.bool b, .fro) else none
  | .Call (.Name f _) args [] _, sc, ρ => if few args = true then (if isLE f args sc ρ = true then evE cx args sc ρ else callD cx sc ρ f (evs cx args sc ρ)) else none
  | .Call (.Attribute o name apos) args [] pos, sc, ρ => if few args = true ∧ baseOk o = true ∧ lineOk apos pos = true then
      (ev cx o sc ρ).bind fun a => (evs cx args sc ρ).bind fun ds => meth name a.1 a.2 ds else none
  | .Attribute o name _, sc, ρ => if baseOk o = true then (ev cx o sc ρ).bind fun a => if a.2 = .fro then (field cx a.1 name).map fun d => (d, .fro) else none else none
  | .Subscript v (.Slice (some lo) (some hi) none _) _, sc, ρ => (ev cx v sc ρ).bind fun a => (ev cx lo sc ρ).bind fun i => (ev cx hi sc ρ).bind fun j => (cut a.1 i.1 j.1).map fun d => (d, .fro)
  | .Subscript v sl _, sc, ρ => if sliceNo sl = true then (ev cx v sc ρ).bind fun a => (ev cx sl sc ρ).bind fun i => (item a.1 i.1).map fun d => (d, .fro) else none
  | .ListComp elt [⟨t, iter, ifs, 0⟩] scope _, sc, ρ => if scopeOk sc scope = true ∧ freeOk scope ρ = true ∧ names1 scope t = true ∧ iterOk iter = true then
      (ev cx iter sc ρ).bind fun a => if a.2 = .bor then none else (iterItems t a.1).bind fun ds => if ds.length ≤ 100000 then
        (compGo (fun d => (bindT t d).bind fun b => (trs cx ifs scope (compRho scope b ρ)).bind fun c =>
          if c = true then (ev cx elt scope (compRho scope b ρ)).bind fun y => if y.2 = .bor then none else some (some y.1) else some none) ds).map fun l => (.list l, .fre)
      else none
    else none
  | _, _, _ => none
noncomputable def tr (cx : Cx) : Expr → Scope → Rho → Option (D × Mode) → Option Bool
  | .UnaryOp op x _, sc, ρ, _ => if op = .Not then (tr cx x sc ρ (ev cx x sc ρ)).map (!·) else none
  | .BoolOp op vs _, sc, ρ, _ => trB cx op vs sc ρ
  | .IfExp _ _ _ _, _, _, _ => none
  | .Compare l ops rs _, sc, ρ, _ => if marksNo rs = true then (ev cx l sc ρ).bind fun a => evC cx a.1 ops rs sc ρ else none
  | _, _, _, r => r.bind fun a => truth a.1
noncomputable def evs (cx : Cx) : List Expr → Scope → Rho → Option (List D)
  | [], _, _ => some []
  | e :: r, sc, ρ => (ev cx e sc ρ).bind fun a => if a.2 = .bor then none else (evs cx r sc ρ).map fun l => a.1 :: l
noncomputable def evE (cx : Cx) : List Expr → Scope → Rho → Option (D × Mode)
  | [.Call _ [e] _ _], sc, ρ => (ev cx e sc ρ).bind fun a => match a.1, a.2 with
    | .list ds, .fro => if ds.length ≤ 100000 then some (.list (enumD 0 ds), .fre) else none
    | _, _ => none
  | _, _, _ => none
noncomputable def evB (cx : Cx) : BoolOp → List Expr → Scope → Rho → Option Bool
  | _, [], _, _ => none
  | op, e :: r, sc, ρ => (ev cx e sc ρ).bind fun a => (asBool a.1).bind fun b => if r.isEmpty = true then some b else
      if (b = true ∧ op = .Or) ∨ (b = false ∧ op = .And) then some b else evB cx op r sc ρ
noncomputable def trB (cx : Cx) : BoolOp → List Expr → Scope → Rho → Option Bool
  | op, [], _, _ => some (op == .And)
  | op, e :: r, sc, ρ => (tr cx e sc ρ (ev cx e sc ρ)).bind fun b => if (b = true ∧ op = .Or) ∨ (b = false ∧ op = .And) then some b else trB cx op r sc ρ
noncomputable def evC (cx : Cx) : D → List CmpOp → List Expr → Scope → Rho → Option Bool
  | _, _, [], _, _ => none
  | _, [], _ :: _, _, _ => none
  | a, op :: ops, e :: r, sc, ρ => (ev cx e sc ρ).bind fun b => (cmp op a b.1).bind fun c => if r.isEmpty = true ∧ ops.isEmpty = true then some c else
      if r.isEmpty = true ∨ ops.isEmpty = true then none else if c = true then evC cx b.1 ops r sc ρ else some false
noncomputable def trs (cx : Cx) : List Expr → Scope → Rho → Option Bool
  | [], _, _ => some true
  | e :: r, sc, ρ => (tr cx e sc ρ (ev cx e sc ρ)).bind fun b => if b = true then trs cx r sc ρ else some false
end


noncomputable def evm (cx : Cx) (sc : Scope) : List Expr → Rho → Option (List (D × Mode))
  | [], _ => some []
  | e :: r, ρ => (ev cx e sc ρ).bind fun a => if a.2 = .bor then none else (evm cx sc r ρ).map fun l => a :: l

inductive Fl where
  | nxt (ρ : Rho)
  | ret (d : D) (fresh : Bool)
deriving Inhabited

noncomputable def setAll (mu : List Str) : List Str → List (D × Mode) → Rho → Option Rho
  | [], [], ρ => some ρ
  | x :: xs, r :: rs, ρ => if r.2 = .bor then none else setAll mu xs rs (ρ.set x (r.1, if r.2 = .fre ∧ mu.contains x = true then .bor else .fro))
  | _, _, _ => none

noncomputable def dput (es : List (Int × D)) (k : Int) (d : D) : List (Int × D) :=
  if es.any (fun e => e.1 = k) then es.map (fun e => if e.1 = k then (e.1, d) else e) else es ++ [(k, d)]
noncomputable def putItem (x i v : D) : Option D :=
  (intD i).bind fun i => match x with
  | .list ds => if 0 ≤ i ∧ i < 9223372036854775808 ∧ i.toNat < ds.length then some (.list (ds.set i.toNat v)) else none
  | .dict es => if es.length ≤ 100000 then some (.dict (dput es i v)) else none
  | _ => none
noncomputable def appItem (x v : D) : Option D :=
  match x with
  | .list ds => if ds.length ≤ 100000 then some (.list (ds ++ [v])) else none
  | _ => none

theorem putItem_cases {x i v d' : D} (e : putItem x i v = some d') : (∃ ds k, x = .list ds ∧ i = .int k ∧ 0 ≤ k ∧ k < 9223372036854775808 ∧ k.toNat < ds.length ∧ d' = .list (ds.set k.toNat v)) ∨
    (∃ es k, x = .dict es ∧ i = .int k ∧ es.length ≤ 100000 ∧ d' = .dict (dput es k v)) := by
  obtain ⟨k, hk, e⟩ := Option.bind_eq_some_iff.mp e
  cases x with
  | list ds => obtain ⟨h, e⟩ := iteS e; exact .inl ⟨ds, k, rfl, intD_inv hk, h.1, h.2.1, h.2.2, (Option.some.inj e).symm⟩
  | dict es => obtain ⟨h, e⟩ := iteS e; exact .inr ⟨es, k, rfl, intD_inv hk, h, (Option.some.inj e).symm⟩
  | _ => exact nno e
theorem appItem_inv {x v d' : D} (e : appItem x v = some d') : ∃ ds, x = .list ds ∧ ds.length ≤ 100000 ∧ .list (ds ++ [v]) = d' := by
  cases x with
  | list ds => exact ⟨ds, rfl, (iteS e).1, Option.some.inj (iteS e).2⟩
  | _ => exact nno e

noncomputable def forGo (f : D → Rho → Option Fl) : List D → Rho → Option Fl
  | [], ρ => some (.nxt ρ)
  | d :: r, ρ => (f d ρ).bind fun
    | .nxt ρ' => forGo f r ρ'
    | .ret d m => some (.ret d m)
noncomputable def compExpr : Expr → Bool
  | .ListComp .. | .SetComp .. | .DictComp .. => true
  | _ => false
noncomputable def asgOk (sc : Scope) (x : Str) (px : Pos) : Expr → Bool
  | .ListComp _ _ _ p => (sc.names.lookup x == some .local) && (px.line == p.line)
  | .SetComp .. | .DictComp .. => false
  | _ => true
noncomputable def namesVar (sc : Scope) (t : Expr) : Bool := match t with
  | .Name x _ => (sc.names.lookup x == some .local) || (sc.names.lookup x == some .cell)
  | .Tuple elts _ _ => match namesOf elts with | some ns => ns.all fun x => (sc.names.lookup x == some .local) || (sc.names.lookup x == some .cell) | none => false
  | _ => false

mutual
noncomputable def ex (cx : Cx) (mu : List Str) (sc : Scope) : Stmt → Rho → Option Fl
  | .Pass _, ρ => some (.nxt ρ)
  | .Return (some (.Name x _)) _, ρ => if x = ("__debug__" : Str) then none else match ρ.get x with
    | some (d, .bor) => some (.ret d true)
    | some (d, _) => some (.ret d false)
    | none => if sc.names.lookup x = some .globalImplicit then (cx.con x).map fun d => .ret d false else none
  | .Return (some e) _, ρ => (ev cx e sc ρ.frz).bind fun r => if r.2 = .bor then none else some (.ret r.1 (r.2 == .fre))
  | .Assign [.Name x px] v p, ρ => if namesVar sc (.Name x px) = true ∧ asgOk sc x px v = true then (ev cx v sc ρ).bind fun r => if r.2 = .bor then none else
      some (.nxt (ρ.set x (r.1, if r.2 = .fre ∧ mu.contains x = true then .bor else .fro))) else none
  | .Assign [.Tuple elts k tp] v p, ρ => if namesVar sc (.Tuple elts k tp) = true then (match v with
      | .Tuple vs _ _ => if few vs = true ∧ vs.all (constantsAlone 8) = false then (namesOf elts).bind fun ns => (evm cx sc vs ρ).bind fun rs => if ns.length = rs.length ∧ ns.Nodup then (setAll mu ns rs ρ).map .nxt else none else none
      | v => (ev cx v sc ρ).bind fun r => if r.2 = .fro then (bindT (.Tuple elts k tp) r.1).map fun b => .nxt (setB b ρ) else none) else none
  | .Assign [.Subscript (.Name x _) i _] v p, ρ => if compExpr v = false ∧ x ≠ ("__debug__" : Str) then (ev cx v sc ρ).bind fun r => (match ρ.get x with
      | some (d, .bor) => if r.2 = .bor then none else (ev cx i sc ρ).bind fun j => (putItem d j.1 r.1).map fun d' => .nxt (ρ.set x (d', .bor))
      | _ => none) else none
  | .Expr (.Call (.Attribute (.Name x _) nm apos) [e] [] pos) p, ρ => if nm = ("append" : Str) ∧ few [e] = true ∧ lineOk apos pos = true ∧ x ≠ ("__debug__" : Str) then (match ρ.get x with
      | some (d, .bor) => (ev cx e sc ρ).bind fun r => if r.2 = .bor then none else (appItem d r.1).map fun d' => .nxt (ρ.set x (d', .bor))
      | _ => none) else none
  | .Expr (.Call (.Name f fp) args [] pos) _, ρ => (ev cx (.Call (.Name f fp) args [] pos) sc ρ).map fun _ => .nxt ρ
  | .If t b o _, ρ => (tr cx t sc ρ (ev cx t sc ρ)).bind fun c => if c = true then exs cx mu sc b ρ else exs cx mu sc o ρ
  | .For t it body [] _, ρ => if namesVar sc t = true then (match asCall1 it with
      | some (f, e) => if isEnum f sc ρ = true ∧ few [e] = true ∧ tgtTup t = true then (ev cx e sc ρ).bind fun r => (match r.1, r.2 with
            | .list ds, .fro => if ds.length ≤ 100000 then forGo (fun d ρ => (bindT t d).bind fun b => exs cx mu sc body (setB b ρ)) (enumD 0 ds) ρ else none
            | _, _ => none)
          else (callD cx sc ρ f (evs cx [e] sc ρ)).bind fun r => if r.2 = .bor then none else (iterItems t r.1).bind fun ds => forGo (fun d ρ => (bindT t d).bind fun b => exs cx mu sc body (setB b ρ)) ds ρ
      | none => if iterOk it = true then (ev cx it sc ρ).bind fun r => if r.2 = .bor then none else (iterItems t r.1).bind fun ds => forGo (fun d ρ => (bindT t d).bind fun b => exs cx mu sc body (setB b ρ)) ds ρ else none) else none
  | _, _ => none
noncomputable def exs (cx : Cx) (mu : List Str) (sc : Scope) : List Stmt → Rho → Option Fl
  | [], ρ => some (.nxt ρ)
  | s :: r, ρ => (ex cx mu sc s ρ).bind fun
    | .nxt ρ' => exs cx mu sc r ρ'
    | .ret d m => some (.ret d m)
end

end
end Mine

namespace Mine
section
variable {cx : Cx} {sc : Scope} {ρ : Rho} {mu : List Str}
theorem eConst {c : Const} {k : Nat} {p : Pos} : ev cx (.Constant c k p) sc ρ = (constD c).map fun d => (d, .fro) := rfl
theorem eName {id : Str} {p : Pos} : ev cx (.Name id p) sc ρ = if id = ("__debug__" : Str) then none else match ρ.get id with
    | some r => some r
    | none => if sc.names.lookup id = some .globalImplicit then (cx.con id).map fun d => (d, .fro) else none := rfl
theorem eSubG {v sl : Expr} {p : Pos} (hs : ∀ lo hi q, sl ≠ .Slice (some lo) (some hi) none q) : ev cx (.Subscript v sl p) sc ρ = if sliceNo sl = true then (ev cx v sc ρ).bind fun a => (ev cx sl sc ρ).bind fun i => (item a.1 i.1).map fun d => (d, .fro) else none := by
  cases sl with
  | Slice lo hi st q => cases lo <;> cases hi <;> cases st <;> first | rfl | exact absurd rfl (hs _ _ _)
  | _ => rfl
theorem eCompN {elt : Expr} {gs : List Comprehension} {scope : Scope} {p : Pos} (hg : ∀ t it ifs, gs ≠ [⟨t, it, ifs, 0⟩]) : ev cx (.ListComp elt gs scope p) sc ρ = none := by
  match gs with
  | [] => rfl
  | ⟨_, _, _, k⟩ :: _ :: _ => cases k with
    | ofNat n => cases n <;> rfl
    | negSucc n => rfl
  | [⟨t, it, ifs, k⟩] => cases k with
    | ofNat n => cases n with
      | zero => exact absurd rfl (hg _ _ _)
      | succ n => rfl
    | negSucc n => rfl
theorem evEOne {f e : Expr} {ks : List Keyword} {p : Pos} : evE cx [.Call f [e] ks p] sc ρ = (ev cx e sc ρ).bind fun a => match a.1, a.2 with
    | .list ds, .fro => if ds.length ≤ 100000 then some (.list (enumD 0 ds), .fre) else none
    | _, _ => none := rfl
theorem tUn {x : Expr} {op : UnaryOp} {p : Pos} {r : Option (D × Mode)} : tr cx (.UnaryOp op x p) sc ρ r = if op = .Not then (tr cx x sc ρ (ev cx x sc ρ)).map (!·) else none := rfl
theorem xRetE {e : Expr} {p : Pos} (hn : ∀ x q, e ≠ .Name x q) : ex cx mu sc (.Return (some e) p) ρ = (ev cx e sc ρ.frz).bind fun r => if r.2 = .bor then none else some (.ret r.1 (r.2 == .fre)) := by
  cases e with
  | Name x q => exact absurd rfl (hn _ _)
  | _ => rfl
theorem xAsgTE {elts : List Expr} {k : Nat} {tp p : Pos} {v : Expr} (hv : ∀ vs k' p', v ≠ .Tuple vs k' p') : ex cx mu sc (.Assign [.Tuple elts k tp] v p) ρ = if namesVar sc (.Tuple elts k tp) = true then (ev cx v sc ρ).bind fun r => if r.2 = .fro then (bindT (.Tuple elts k tp) r.1).map fun b => .nxt (setB b ρ) else none else none := by
  cases v with
  | Tuple vs k' p' => exact absurd rfl (hv _ _ _)
  | _ => rfl
theorem xForG {t it : Expr} {body : List Stmt} {p : Pos} : ex cx mu sc (.For t it body [] p) ρ = if namesVar sc t = true then (match asCall1 it with
      | some (f, e) => if isEnum f sc ρ = true ∧ few [e] = true ∧ tgtTup t = true then (ev cx e sc ρ).bind fun r => (match r.1, r.2 with
            | .list ds, .fro => if ds.length ≤ 100000 then forGo (fun d ρ => (bindT t d).bind fun b => exs cx mu sc body (setB b ρ)) (enumD 0 ds) ρ else none
            | _, _ => none)
          else (callD cx sc ρ f (evs cx [e] sc ρ)).bind fun r => if r.2 = .bor then none else (iterItems t r.1).bind fun ds => forGo (fun d ρ => (bindT t d).bind fun b => exs cx mu sc body (setB b ρ)) ds ρ
      | none => if iterOk it = true then (ev cx it sc ρ).bind fun r => if r.2 = .bor then none else (iterItems t r.1).bind fun ds => forGo (fun d ρ => (bindT t d).bind fun b => exs cx mu sc body (setB b ρ)) ds ρ else none) else none := rfl
theorem xForE {t it : Expr} {body : List Stmt} {p : Pos} (hc : asCall1 it = none) : ex cx mu sc (.For t it body [] p) ρ = if namesVar sc t = true then (if iterOk it = true then (ev cx it sc ρ).bind fun r => if r.2 = .bor then none else (iterItems t r.1).bind fun ds => forGo (fun d ρ => (bindT t d).bind fun b => exs cx mu sc body (setB b ρ)) ds ρ else none) else none := by
  rw [xForG, hc]
theorem setAllC {x : Str} {xs : List Str} {r : D × Mode} {rs : List (D × Mode)} : setAll mu (x :: xs) (r :: rs) ρ = if r.2 = .bor then none else setAll mu xs rs (ρ.set x (r.1, if r.2 = .fre ∧ mu.contains x = true then .bor else .fro)) := rfl
theorem eBo {op : BoolOp} {vs : List Expr} {p : Pos} : ev cx (.BoolOp op vs p) sc ρ = (evB cx op vs sc ρ).map fun b => (.bool b, .fro) := rfl
theorem eBin {l r : Expr} {op : Operator} {p : Pos} : ev cx (.BinOp l op r p) sc ρ = (ev cx l sc ρ).bind fun a => (ev cx r sc ρ).bind fun b => binop op a.1 a.2 b.1 := rfl
theorem eUn {x : Expr} {op : UnaryOp} {p : Pos} : ev cx (.UnaryOp op x p) sc ρ = (ev cx x sc ρ).bind fun a => (unop op a.1).map fun d => (d, .fro) := rfl
theorem eIf {t b o : Expr} {p : Pos} : ev cx (.IfExp t b o p) sc ρ = (tr cx t sc ρ (ev cx t sc ρ)).bind fun c => if c = true then ev cx b sc ρ else ev cx o sc ρ := rfl
theorem eList {elts : List Expr} {p : Pos} : ev cx (.List elts p) sc ρ = if few elts = true then (evs cx elts sc ρ).map fun ds => (.list ds, .fre) else none := rfl
theorem eTup {elts : List Expr} {k : Nat} {p : Pos} : ev cx (.Tuple elts k p) sc ρ = if few elts = true then (evs cx elts sc ρ).map fun ds => (.tup ds, .fro) else none := rfl
theorem eDict {ks : List (Option Expr)} {vals : List Expr} {p : Pos} : ev cx (.Dict ks vals p) sc ρ = (constKeys ks).bind fun ks => (constVals vals).bind fun vs => if ks.length = vs.length ∧ ks.length ≤ 15 ∧ ks.Nodup then some (.dict (ks.zip (vs.map .int)), .fre) else none := rfl
theorem eCmp {l : Expr} {ops : List CmpOp} {rs : List Expr} {p : Pos} : ev cx (.Compare l ops rs p) sc ρ = if marksNo rs = true then (ev cx l sc ρ).bind fun a => (evC cx a.1 ops rs sc ρ).map fun b => (.bool b, .fro) else none := rfl
theorem eCall {f : Str} {args : List Expr} {fp p : Pos} : ev cx (.Call (.Name f fp) args [] p) sc ρ = if few args = true then (if isLE f args sc ρ = true then evE cx args sc ρ else callD cx sc ρ f (evs cx args sc ρ)) else none := rfl
theorem eMeth {o : Expr} {nm : Str} {args : List Expr} {ap p : Pos} : ev cx (.Call (.Attribute o nm ap) args [] p) sc ρ = if few args = true ∧ baseOk o = true ∧ lineOk ap p = true then (ev cx o sc ρ).bind fun a => (evs cx args sc ρ).bind fun ds => meth nm a.1 a.2 ds else none := rfl
theorem eAttr {o : Expr} {nm : Str} {p : Pos} : ev cx (.Attribute o nm p) sc ρ = if baseOk o = true then (ev cx o sc ρ).bind fun a => if a.2 = .fro then (field cx a.1 nm).map fun d => (d, .fro) else none else none := rfl
theorem eSlice {v lo hi : Expr} {q p : Pos} : ev cx (.Subscript v (.Slice (some lo) (some hi) none q) p) sc ρ = (ev cx v sc ρ).bind fun a => (ev cx lo sc ρ).bind fun i => (ev cx hi sc ρ).bind fun j => (cut a.1 i.1 j.1).map fun d => (d, .fro) := rfl
theorem eComp {elt t it : Expr} {ifs : List Expr} {scope : Scope} {p : Pos} : ev cx (.ListComp elt [⟨t, it, ifs, 0⟩] scope p) sc ρ = if scopeOk sc scope = true ∧ freeOk scope ρ = true ∧ names1 scope t = true ∧ iterOk it = true then
      (ev cx it sc ρ).bind fun a => if a.2 = .bor then none else (iterItems t a.1).bind fun ds => if ds.length ≤ 100000 then
        (compGo (fun d => (bindT t d).bind fun b => (trs cx ifs scope (compRho scope b ρ)).bind fun c =>
          if c = true then (ev cx elt scope (compRho scope b ρ)).bind fun y => if y.2 = .bor then none else some (some y.1) else some none) ds).map fun l => (.list l, .fre)
      else none
    else none := rfl
theorem tNot {x : Expr} {p : Pos} {r : Option (D × Mode)} : tr cx (.UnaryOp .Not x p) sc ρ r = (tr cx x sc ρ (ev cx x sc ρ)).map (!·) := rfl
theorem tBo {op : BoolOp} {vs : List Expr} {p : Pos} {r : Option (D × Mode)} : tr cx (.BoolOp op vs p) sc ρ r = trB cx op vs sc ρ := rfl
theorem tCmp {l : Expr} {ops : List CmpOp} {rs : List Expr} {p : Pos} {r : Option (D × Mode)} : tr cx (.Compare l ops rs p) sc ρ r = if marksNo rs = true then (ev cx l sc ρ).bind fun a => evC cx a.1 ops rs sc ρ else none := rfl
theorem tN {id : Str} {q : Pos} {ro : Option (D × Mode)} : tr cx (.Name id q) sc ρ ro = ro.bind fun a => truth a.1 := rfl
theorem tC {c : Const} {k : Nat} {q : Pos} {ro : Option (D × Mode)} : tr cx (.Constant c k q) sc ρ ro = ro.bind fun a => truth a.1 := rfl
theorem tB {l r : Expr} {op : Operator} {q : Pos} {ro : Option (D × Mode)} : tr cx (.BinOp l op r q) sc ρ ro = ro.bind fun a => truth a.1 := rfl
theorem tA {o : Expr} {nm : Str} {q : Pos} {ro : Option (D × Mode)} : tr cx (.Attribute o nm q) sc ρ ro = ro.bind fun a => truth a.1 := rfl
theorem tS {o i : Expr} {q : Pos} {ro : Option (D × Mode)} : tr cx (.Subscript o i q) sc ρ ro = ro.bind fun a => truth a.1 := rfl
theorem tF {f : Expr} {as : List Expr} {kws : List Keyword} {q : Pos} {ro : Option (D × Mode)} : tr cx (.Call f as kws q) sc ρ ro = ro.bind fun a => truth a.1 := rfl
theorem sNil  : evs cx [] sc ρ = some [] := rfl
theorem sCons {e : Expr} {r : List Expr} : evs cx (e :: r) sc ρ = (ev cx e sc ρ).bind fun a => if a.2 = .bor then none else (evs cx r sc ρ).map fun l => a.1 :: l := rfl
theorem bCons {e : Expr} {r : List Expr} {op : BoolOp} : evB cx op (e :: r) sc ρ = (ev cx e sc ρ).bind fun a => (asBool a.1).bind fun b => if r.isEmpty = true then some b else if (b = true ∧ op = .Or) ∨ (b = false ∧ op = .And) then some b else evB cx op r sc ρ := rfl
theorem tbNil {op : BoolOp} : trB cx op [] sc ρ = some (op == .And) := rfl
theorem tbCons {e : Expr} {r : List Expr} {op : BoolOp} : trB cx op (e :: r) sc ρ = (tr cx e sc ρ (ev cx e sc ρ)).bind fun b => if (b = true ∧ op = .Or) ∨ (b = false ∧ op = .And) then some b else trB cx op r sc ρ := rfl
theorem cOne {a : D} {op : CmpOp} {e : Expr} : evC cx a [op] [e] sc ρ = (ev cx e sc ρ).bind fun b => cmp op a b.1 := by show (ev cx e sc ρ).bind _ = _; congr 1; funext b; show Option.bind _ _ = _; cases cmp op a b.1 <;> rfl
theorem cTwo {a : D} {op op2 : CmpOp} {ops : List CmpOp} {e e2 : Expr} {r : List Expr} : evC cx a (op :: op2 :: ops) (e :: e2 :: r) sc ρ = (ev cx e sc ρ).bind fun b => (cmp op a b.1).bind fun c => if c = true then evC cx b.1 (op2 :: ops) (e2 :: r) sc ρ else some false := rfl
theorem tsNil  : trs cx [] sc ρ = some true := rfl
theorem tsCons {e : Expr} {r : List Expr} : trs cx (e :: r) sc ρ = (tr cx e sc ρ (ev cx e sc ρ)).bind fun b => if b = true then trs cx r sc ρ else some false := rfl
theorem mNil  : evm cx sc [] ρ = some [] := rfl
theorem mCons {e : Expr} {r : List Expr} : evm cx sc (e :: r) ρ = (ev cx e sc ρ).bind fun a => if a.2 = .bor then none else (evm cx sc r ρ).map fun l => a :: l := rfl
theorem xPass {p : Pos} : ex cx mu sc (.Pass p) ρ = some (.nxt ρ) := rfl
theorem xRetN {x : Str} {q p : Pos} : ex cx mu sc (.Return (some (.Name x q)) p) ρ = if x = ("__debug__" : Str) then none else match ρ.get x with
    | some (d, .bor) => some (.ret d true)
    | some (d, _) => some (.ret d false)
    | none => if sc.names.lookup x = some .globalImplicit then (cx.con x).map fun d => .ret d false else none := rfl
theorem xRetB {l r : Expr} {op : Operator} {q : Pos} {p : Pos} : ex cx mu sc (.Return (some (.BinOp l op r q)) p) ρ = (ev cx (.BinOp l op r q) sc ρ.frz).bind fun r => if r.2 = .bor then none else some (.ret r.1 (r.2 == .fre)) := rfl
theorem xRetF {f : Expr} {as : List Expr} {kws : List Keyword} {q : Pos} {p : Pos} : ex cx mu sc (.Return (some (.Call f as kws q)) p) ρ = (ev cx (.Call f as kws q) sc ρ.frz).bind fun r => if r.2 = .bor then none else some (.ret r.1 (r.2 == .fre)) := rfl
theorem xRetK {l : Expr} {ops : List CmpOp} {rs : List Expr} {q : Pos} {p : Pos} : ex cx mu sc (.Return (some (.Compare l ops rs q)) p) ρ = (ev cx (.Compare l ops rs q) sc ρ.frz).bind fun r => if r.2 = .bor then none else some (.ret r.1 (r.2 == .fre)) := rfl
theorem xRetI {t b o : Expr} {q : Pos} {p : Pos} : ex cx mu sc (.Return (some (.IfExp t b o q)) p) ρ = (ev cx (.IfExp t b o q) sc ρ.frz).bind fun r => if r.2 = .bor then none else some (.ret r.1 (r.2 == .fre)) := rfl
theorem xRetT {elts : List Expr} {k : Nat} {q : Pos} {p : Pos} : ex cx mu sc (.Return (some (.Tuple elts k q)) p) ρ = (ev cx (.Tuple elts k q) sc ρ.frz).bind fun r => if r.2 = .bor then none else some (.ret r.1 (r.2 == .fre)) := rfl
theorem xAsg {x : Str} {px p : Pos} {v : Expr} : ex cx mu sc (.Assign [.Name x px] v p) ρ = if namesVar sc (.Name x px) = true ∧ asgOk sc x px v = true then (ev cx v sc ρ).bind fun r => if r.2 = .bor then none else
      some (.nxt (ρ.set x (r.1, if r.2 = .fre ∧ mu.contains x = true then .bor else .fro))) else none := rfl
theorem xAsgT {elts vs : List Expr} {k k2 : Nat} {tp q p : Pos} : ex cx mu sc (.Assign [.Tuple elts k tp] (.Tuple vs k2 q) p) ρ = if namesVar sc (.Tuple elts k tp) = true then (if few vs = true ∧ vs.all (constantsAlone 8) = false then (namesOf elts).bind fun ns => (evm cx sc vs ρ).bind fun rs => if ns.length = rs.length ∧ ns.Nodup then (setAll mu ns rs ρ).map .nxt else none else none) else none := rfl
theorem xAsgTS {elts : List Expr} {k0 : Nat} {tp p : Pos} {o i : Expr} {q : Pos} : ex cx mu sc (.Assign [.Tuple elts k0 tp] (.Subscript o i q) p) ρ = if namesVar sc (.Tuple elts k0 tp) = true then (ev cx (.Subscript o i q) sc ρ).bind fun r => if r.2 = .fro then (bindT (.Tuple elts k0 tp) r.1).map fun b => .nxt (setB b ρ) else none else none := rfl
theorem xAsgTF {elts : List Expr} {k0 : Nat} {tp p : Pos} {f : Expr} {as : List Expr} {kws : List Keyword} {q : Pos} : ex cx mu sc (.Assign [.Tuple elts k0 tp] (.Call f as kws q) p) ρ = if namesVar sc (.Tuple elts k0 tp) = true then (ev cx (.Call f as kws q) sc ρ).bind fun r => if r.2 = .fro then (bindT (.Tuple elts k0 tp) r.1).map fun b => .nxt (setB b ρ) else none else none := rfl
theorem xSt {x : Str} {px q p : Pos} {i v : Expr} : ex cx mu sc (.Assign [.Subscript (.Name x px) i q] v p) ρ = if compExpr v = false ∧ x ≠ ("__debug__" : Str) then (ev cx v sc ρ).bind fun r => (match ρ.get x with
      | some (d, .bor) => if r.2 = .bor then none else (ev cx i sc ρ).bind fun j => (putItem d j.1 r.1).map fun d' => .nxt (ρ.set x (d', .bor))
      | _ => none) else none := rfl
theorem xApp {x nm : Str} {px ap pos p : Pos} {e : Expr} : ex cx mu sc (.Expr (.Call (.Attribute (.Name x px) nm ap) [e] [] pos) p) ρ = if nm = ("append" : Str) ∧ few [e] = true ∧ lineOk ap pos = true ∧ x ≠ ("__debug__" : Str) then (match ρ.get x with
      | some (d, .bor) => (ev cx e sc ρ).bind fun r => if r.2 = .bor then none else (appItem d r.1).map fun d' => .nxt (ρ.set x (d', .bor))
      | _ => none) else none := rfl
theorem xCall {f : Str} {args : List Expr} {fp pos p : Pos} : ex cx mu sc (.Expr (.Call (.Name f fp) args [] pos) p) ρ = (ev cx (.Call (.Name f fp) args [] pos) sc ρ).map fun _ => .nxt ρ := rfl
theorem xIf {t : Expr} {b o : List Stmt} {p : Pos} : ex cx mu sc (.If t b o p) ρ = (tr cx t sc ρ (ev cx t sc ρ)).bind fun c => if c = true then exs cx mu sc b ρ else exs cx mu sc o ρ := rfl
theorem xForC {t e : Expr} {f : Str} {body : List Stmt} {fp q p : Pos} : ex cx mu sc (.For t (.Call (.Name f fp) [e] [] q) body [] p) ρ = if namesVar sc t = true then (if isEnum f sc ρ = true ∧ few [e] = true ∧ tgtTup t = true then (ev cx e sc ρ).bind fun r => (match r.1, r.2 with
            | .list ds, .fro => if ds.length ≤ 100000 then forGo (fun d ρ => (bindT t d).bind fun b => exs cx mu sc body (setB b ρ)) (enumD 0 ds) ρ else none
            | _, _ => none)
          else (callD cx sc ρ f (evs cx [e] sc ρ)).bind fun r => if r.2 = .bor then none else (iterItems t r.1).bind fun ds => forGo (fun d ρ => (bindT t d).bind fun b => exs cx mu sc body (setB b ρ)) ds ρ) else none := rfl
theorem xForN {t : Expr} {x : Str} {body : List Stmt} {q p : Pos} : ex cx mu sc (.For t (.Name x q) body [] p) ρ = if namesVar sc t = true then (if iterOk (.Name x q) = true then (ev cx (.Name x q) sc ρ).bind fun r => if r.2 = .bor then none else (iterItems t r.1).bind fun ds => forGo (fun d ρ => (bindT t d).bind fun b => exs cx mu sc body (setB b ρ)) ds ρ else none) else none := rfl
theorem xForF2 {t f e1 e2 : Expr} {body : List Stmt} {q p : Pos} {g : Str} {gp : Pos} : ex cx mu sc (.For t (.Call (.Name g gp) [e1, e2] [] q) body [] p) ρ = if namesVar sc t = true then (if iterOk (.Call (.Name g gp) [e1, e2] [] q) = true then (ev cx (.Call (.Name g gp) [e1, e2] [] q) sc ρ).bind fun r => if r.2 = .bor then none else (iterItems t r.1).bind fun ds => forGo (fun d ρ => (bindT t d).bind fun b => exs cx mu sc body (setB b ρ)) ds ρ else none) else none := rfl
theorem xsNil  : exs cx mu sc [] ρ = some (.nxt ρ) := rfl
theorem xsCons {s : Stmt} {r : List Stmt} : exs cx mu sc (s :: r) ρ = (ex cx mu sc s ρ).bind fun
    | .nxt ρ' => exs cx mu sc r ρ'
    | .ret d m => some (.ret d m) := rfl
theorem gNil {f : D → Rho → Option Fl} : forGo f [] ρ = some (.nxt ρ) := rfl
theorem gCons {f : D → Rho → Option Fl} {d : D} {r : List D} : forGo f (d :: r) ρ = (f d ρ).bind fun
    | .nxt ρ' => forGo f r ρ'
    | .ret d m => some (.ret d m) := rfl
theorem nvN {x : Str} {p : Pos} (h : namesVar sc (.Name x p) = true) : sc.names.lookup x = some .local ∨ sc.names.lookup x = some .cell := by
  have h := Bool.or_eq_true_iff.mp (show ((sc.names.lookup x == some .local) || (sc.names.lookup x == some .cell)) = true from h)
  exact h.imp beq_iff_eq.mp beq_iff_eq.mp
theorem nvT {elts : List Expr} {ns : List Str} {k : Nat} {p : Pos} (e : namesOf elts = some ns) (h : namesVar sc (.Tuple elts k p) = true) : ∀ x ∈ ns, sc.names.lookup x = some .local ∨ sc.names.lookup x = some .cell := by
  replace h : (match namesOf elts with | some ns => ns.all fun x => (sc.names.lookup x == some .local) || (sc.names.lookup x == some .cell) | none => false) = true := h
  rw [e] at h
  intro x hx
  have h := Bool.or_eq_true_iff.mp (List.all_eq_true.mp h x hx)
  exact h.imp beq_iff_eq.mp beq_iff_eq.mp
theorem vnN {x : Str} {p : Pos} (h : sc.names.lookup x = some .local) : namesVar sc (.Name x p) = true := by
  show ((sc.names.lookup x == some .local) || (sc.names.lookup x == some .cell)) = true
  rw [h]; rfl
theorem vnT {elts : List Expr} {ns : List Str} {k : Nat} {p : Pos} (e : namesOf elts = some ns) (h : ∀ x ∈ ns, sc.names.lookup x = some .local) : namesVar sc (.Tuple elts k p) = true := by
  show (match namesOf elts with | some ns => ns.all fun x => (sc.names.lookup x == some .local) || (sc.names.lookup x == some .cell) | none => false) = true
  rw [e]
  exact List.all_eq_true.mpr fun x hx => by rw [h x hx]; rfl
theorem n1T {elts : List Expr} {k : Nat} {p : Pos} (h : names1 sc (.Tuple elts k p) = true) : ∃ ns, namesOf elts = some ns ∧ ∀ x ∈ ns, sc.names.lookup x = some .local := by
  replace h : (match namesOf elts with | some ns => ns.all fun x => sc.names.lookup x == some .local | none => false) = true := h
  cases e : namesOf elts with
  | none => rw [e] at h; exact ff h
  | some ns => rw [e] at h; exact ⟨ns, rfl, fun x hx => beq_iff_eq.mp (List.all_eq_true.mp h x hx)⟩
end
end Mine

namespace Mine
section
variable {prog : Program} {w : World} {A : Around} {E : Value → Shared → Prop} {s : Shared} {P : Vis}

noncomputable def Post (prog : Program) (w : World) (P : Vis) (s : Shared) (d : D) (m : Mode) (Q : Value → Shared → Prop) : Prop :=
  ∀ v s' P', Sub s.heap s'.heap → SameW s s' → PExt P s.heap P' s'.heap → Val prog w s.heap P' s'.heap v d m → Q v s'

theorem post_same {d : D} {m : Mode} {Q : Value → Shared → Prop} {v : Value} {tk : Nat} (p : PIn P s.heap) (h : Post prog w P s d m Q) (x : Val prog w s.heap P s.heap v d m) : Q v { s with toks := tk } :=
  h v _ P (Sub.refl _) ⟨rfl, rfl⟩ (PExt.refl p) x
theorem post_int {i : Int} {t tk : Nat} {Q : Value → Shared → Prop} (p : PIn P s.heap) (h : Post prog w P s (.int i) .fro Q) : Q (.int i t) { s with toks := tk } := post_same p h (.int i t)
theorem post_bool {b : Bool} {tk : Nat} {Q : Value → Shared → Prop} (p : PIn P s.heap) (h : Post prog w P s (.bool b) .fro Q) : Q (.bool b) { s with toks := tk } := post_same p h (.bool b)
theorem post_bool' {b : Bool} {Q : Value → Shared → Prop} (p : PIn P s.heap) (h : Post prog w P s (.bool b) .fro Q) : Q (.bool b) s := post_bool (tk := s.toks) p h
theorem post_list {vs : List Value} {ds : List D} {n tk : Nat} {Q : Value → Shared → Prop} (p : PIn P s.heap) (hy : 1 < s.heap.objs.size) (r : Reps prog w P vs ds) (h : Post prog w P s (.list ds) .fre Q) :
    Q (.ref s.heap.objs.size) { s with heap := s.heap.push { cls := .type "list", data := .seq vs.toArray n }, toks := tk } :=
  h _ _ P (Sub.push _ _) ⟨rfl, rfl⟩ (PExt.stay p (Sub.push _ _)) ⟨_, _, rfl, beq_eq_false_iff_ne.mpr (Nat.ne_of_gt hy), Heap.get?_none_of_le (Nat.le_refl _), Heap.get?_push_size _ rfl,
    fun q hq => absurd (Heap.lt_size (p _ _ hq)) (Nat.lt_irrefl _), rfl, rfl, vs, n, rfl, r⟩

theorem add_lists' {l b : Addr} {vs ws : List Value} {Q : Value → Shared → Prop} (hl : s.heap.IsList l vs.toArray) (hb : s.heap.IsList b ws.toArray)
    (h : Q (.ref s.heap.objs.size) { s with heap := s.heap.push { cls := .type "list", data := .seq (vs ++ ws).toArray } })
    (hsz : vs.length + ws.length ≤ sizeLine) : wpAny (model prog w) A (binaryOp .Add (.ref l) (.ref b)) Q E s := by
  obtain ⟨⟨cls, dd, data, sl⟩, ho, hc, n, hd⟩ := id hl
  obtain ⟨⟨cls2, dd2, data2, sl2⟩, ho2, hc2, n2, hd2⟩ := id hb
  simp only at hc hd hc2 hd2
  subst hc hd hc2 hd2
  have e : vs.toArray ++ ws.toArray = (vs ++ ws).toArray := by simp
  refine concat_meets ⟨_, ho, rfl⟩ ⟨_, ho2, rfl⟩ noFill_list_add seq_list_add PySem.F.slot_list_add PySem.F.entry_list_add (PySem.F.args_list_add_2 _ _) (list_addW l b vs.toArray ws.toArray n n2 dd dd2 sl sl2 (by simpa using hsz)) ⟨ho, ho2, ?_⟩
  rw [e]
  exact h

theorem mul_list' {l : Addr} {vs : List Value} {x : Int} {u : Tok} {k : Nat} {Q : Value → Shared → Prop}
    (hl : s.heap.get? l = some { cls := .type "list", dict := none, data := .seq vs.toArray k, slots := #[] })
    (hlo : -(2 ^ 63 : Int) ≤ x) (hhi : x < 2 ^ 63) (hsz : vs.length * x.toNat ≤ 2 ^ 24)
    (h : Q (.ref s.heap.objs.size) { s with heap := s.heap.push { cls := .type "list", data := .seq (List.replicate x.toNat vs).flatten.toArray } }) :
    wpAny (model prog w) A (binaryOp .Mult (.ref l) (.int x u)) Q E s := by
  refine wpAny_binaryOp_repeat_ref (T := "list") (U := "int") (by decide) ⟨_, hl, rfl⟩ (fun s' => typeIs_int s' x u) noFill_list_mul F.fills_int_mul F.slot_int_rmul repeat_list F.slot_int_index.lookup
    (call_meets F.slot_int_rmul (typeIs_int s x u) F.entry_int_rmul (F.args_int_rmul_2 _ _) (int___rmul___int_list x u l vs.toArray k)
      ⟨hl, rfl, ⟨_, hl, rfl⟩, call_meets F.slot_list_mul ⟨_, hl, rfl⟩ F.entry_list_mul (F.args_list_mul_2 _ _)
        (AutoListH.list___mul___list_int_3 l vs.toArray k x u (by simp [Builtin.List.listFitsIndex]; (first | lia | omega)) (by simp; (first | lia | omega)) (by simp [Builtin.List.listTooLong, sizeLine]; (first | lia | omega)))
        ⟨hl, ?_⟩⟩)
  rw [listMul_foldl_if]
  exact h

theorem ii_sound {op : Operator} {va vb : Value} {a b d : D} {m m' : Mode} {h₀ : Heap} {Q : Value → Shared → Prop} {f : Int → Int → Option (D × Mode)}
    (ha : Val prog w h₀ P s.heap va a m) (hb : Hold prog w P s.heap vb b) (e : iiD f a b = some (d, m')) (g : ∀ i j t u, f i j = some (d, m') → wpAny (model prog w) A (binaryOp op (.int i t) (.int j u)) Q E s) : wpAny (model prog w) A (binaryOp op va vb) Q E s := by
  obtain ⟨i, j, rfl, rfl, e⟩ := iiD_inv e
  obtain ⟨t, rfl⟩ := ha.hold.int; obtain ⟨u, rfl⟩ := hb.int
  exact g i j t u e
theorem add_sound {va vb : Value} {a b d : D} {m m' : Mode} {h₀ : Heap} {Q : Value → Shared → Prop} (p : PIn P s.heap) (hy : 1 < s.heap.objs.size)
    (ha : Hold prog w P s.heap va a) (hb : Hold prog w P s.heap vb b) (e : addD a b = some (d, m')) (hQ : Post prog w P s d m' Q) : wpAny (model prog w) A (binaryOp .Add va vb) Q E s := by
  rcases addD_inv e with ⟨i, j, rfl, rfl, q⟩ | ⟨xs, ys, rfl, rfl, hz, q⟩
  · obtain ⟨t, rfl⟩ := ha.int; obtain ⟨u, rfl⟩ := hb.int; cases q; exact PyProof.Rows.add_int (post_int p hQ)
  · obtain ⟨l, vs, _, rfl, hl, rl⟩ := ha.list p; obtain ⟨r, us, _, rfl, hr, rr⟩ := hb.list p; cases q
    exact add_lists' (isList_of hl) (isList_of hr) (post_list p hy (rl.append rr) hQ) (by rw [rl.length, rr.length, sizeLine_eq]; exact hz)
theorem mul_sound {va vb : Value} {a b d : D} {m m' : Mode} {h₀ : Heap} {Q : Value → Shared → Prop} (p : PIn P s.heap) (hy : 1 < s.heap.objs.size)
    (ha : Val prog w h₀ P s.heap va a m) (hb : Hold prog w P s.heap vb b) (e : mulD a m b = some (d, m')) (hQ : Post prog w P s d m' Q) : wpAny (model prog w) A (binaryOp .Mult va vb) Q E s := by
  obtain ⟨j, rfl, e'⟩ := mulD_inv e
  clear e
  obtain ⟨u, rfl⟩ := hb.int
  rcases e' with ⟨i, rfl, hz, q⟩ | ⟨xs, rfl, rfl, hz, q⟩
  · obtain ⟨t, rfl⟩ := ha.hold.int; cases q
    exact PyProof.Rows.mul_int (post_int p hQ) (IntMulOk.of_left (intBits_le (by simpa [small] using hz.1)))
  · obtain ⟨l, o, rfl, _, _, e1, _, p1, p2, vs, n, o2, r⟩ := ha
    cases q
    subst o2
    refine mul_list' e1 (by (first | lia | omega)) (by (first | lia | omega)) ?_ (post_list p hy (r.flat _) hQ)
    rw [r.length]
    exact Nat.le_trans (Nat.mul_le_mul (Nat.le_of_lt_succ (Nat.lt_succ_of_le hz.2.2)) (show _ ≤ 1000 by (first | lia | omega))) (by decide)
theorem binop_sound {op : Operator} {va vb : Value} {a b d : D} {m m' : Mode} {h₀ : Heap} {Q : Value → Shared → Prop} (p : PIn P s.heap) (hy : 1 < s.heap.objs.size) (k : Sub h₀ s.heap)
    (ha : Val prog w h₀ P s.heap va a m) (hb : Hold prog w P s.heap vb b) (e : binop op a m b = some (d, m')) (hQ : Post prog w P s d m' Q) : wpAny (model prog w) A (binaryOp op va vb) Q E s := by
  cases op with
  | Add => exact add_sound (h₀ := h₀) (m := m) p hy ha.hold hb e hQ
  | Sub => exact ii_sound ha hb e fun i j t u e => by cases e; exact PyProof.Rows.sub_int (post_int p hQ)
  | Mult => exact mul_sound p hy ha hb e hQ
  | Mod => exact ii_sound ha hb e fun i j t u e => by obtain ⟨hz, e⟩ := iteN e; cases e; exact PyProof.Rows.mod_int hz (post_int p hQ)
  | FloorDiv => exact ii_sound ha hb e fun i j t u e => by obtain ⟨hz, e⟩ := iteN e; cases e; exact PyProof.Rows.floordiv_int (by simp at hz; exact hz.1) (post_int p hQ) (.inl (PyProof.noPylong_small (by simp at hz; exact hz.2)))
  | BitAnd => exact ii_sound ha hb e fun i j t u e => by cases e; exact and_int (post_int p hQ)
  | BitOr => exact ii_sound ha hb e fun i j t u e => by cases e; exact or_int (post_int p hQ)
  | LShift => exact ii_sound ha hb e fun i j t u e => by obtain ⟨hz, e⟩ := iteS e; cases e; exact lshift_int_small hz.1 hz.2.1 (by simpa [small] using hz.2.2) (post_int p hQ)
  | RShift => exact ii_sound ha hb e fun i j t u e => by obtain ⟨hz, e⟩ := iteS e; cases e; exact rshift_int hz (post_int p hQ)
  | _ => exact nno e

theorem truth_sound {v : Value} {d : D} {b : Bool} {Q : Bool → Shared → Prop} (hv : Hold prog w P s.heap v d) (e : truth d = some b) (hQ : Q b s) : wpAny (model prog w) A (truthy v) Q E s := by
  rcases truth_inv e with rfl | ⟨i, rfl, rfl⟩
  · rw [hv.bool]; exact wpAny_truthy_bool hQ
  · obtain ⟨t, rfl⟩ := hv.int; exact PyProof.Rows.truthy_int hQ

theorem unop_sound {op : UnaryOp} {v : Value} {a d : D} {Q : Value → Shared → Prop} (p : PIn P s.heap) (hv : Hold prog w P s.heap v a) (e : unop op a = some d) (hQ : Post prog w P s d .fro Q) :
    wpAny (model prog w) A (unaryOp op v) Q E s := by
  rcases unop_inv e with ⟨i, rfl, rfl, rfl⟩ | ⟨i, rfl, rfl, rfl⟩
  · obtain ⟨t, rfl⟩ := hv.int; exact PyProof.Rows.neg_int (post_int p hQ)
  · rw [hv.bool]; exact not_of (wpAny_truthy_bool (post_bool' p hQ))

theorem ints_are {vs : List Value} {ds : List D} {ns : List Int} (x : Reps prog w P vs ds) (e : intsOf ds = some ns) : IntsAre vs ns := by
  induction ds generalizing vs ns with
  | nil => rw [x.nilI]; cases e; exact .nil
  | cons d ds ih =>
    obtain ⟨v, us, rfl, a, r⟩ := x.consI
    obtain ⟨i, l, rfl, e1, rfl⟩ := intsOf_inv e
    obtain ⟨t, rfl⟩ := a.intI
    exact .cons _ _ (ih r e1)
theorem strs_are {vs : List Value} {ds : List D} {ns : List Str} (x : Reps prog w P vs ds) (e : strsOf ds = some ns) : StrsAre vs ns := by
  induction ds generalizing vs ns with
  | nil => rw [x.nilI]; cases e; exact .nil
  | cons d ds ih =>
    obtain ⟨v, us, rfl, a, r⟩ := x.consI
    obtain ⟨i, l, rfl, e1, rfl⟩ := strsOf_inv e
    obtain ⟨t, rfl⟩ := a.strI
    exact .cons _ _ (ih r e1)
theorem any_isInt (i : Int) : ∀ {vs : List Value} {ns : List Int}, IntsAre vs ns → (vs.toArray.any fun y => PyProof.Rows.isInt i y) = ns.contains i := by
  intro vs ns h
  rw [List.any_toArray]
  induction h with
  | nil => rfl
  | cons n t h ih =>
    rw [List.any_cons, ih, List.contains_cons]
    show (n == i || _) = _
    rw [show (n == i) = (i == n) from Bool.beq_comm]
theorem any_isStr (i : Str) : ∀ {vs : List Value} {ns : List Str}, StrsAre vs ns → (vs.toArray.any fun y => isStrOf i y) = ns.contains i := by
  intro vs ns h
  rw [List.any_toArray]
  induction h with
  | nil => rfl
  | cons n t h ih =>
    rw [List.any_cons, ih, List.contains_cons]
    show (n == i || _) = _
    rw [show (n == i) = (i == n) from Bool.beq_comm]
theorem valueAt_some (i : Int) {kvs : List (Int × Value)} {ds : List (Int × D)} (x : RepK prog w P kvs ds) : (valueAt kvs i).isSome = ds.any fun e => decide (e.1 = i) := by
  induction ds generalizing kvs with
  | nil => rw [x.nilI]; rfl
  | cons d ds ih =>
    obtain ⟨v, us, rfl, a, r⟩ := x.consI
    have ih := ih r
    unfold valueAt at ih ⊢
    rw [List.find?_cons, List.any_cons, ← ih]
    by_cases h : d.1 = i <;> simp [h]
theorem valueAt_get (i : Int) {kvs : List (Int × Value)} {ds : List (Int × D)} {d : D} (x : RepK prog w P kvs ds) (e : dget ds i = some d) : ∃ v, valueAt kvs i = some v ∧ Rep prog w P v d := by
  induction ds generalizing kvs with
  | nil => cases e
  | cons d' ds ih =>
    obtain ⟨v, us, rfl, a, r⟩ := x.consI
    unfold dget at e ih
    unfold valueAt at ih ⊢
    rw [List.find?_cons] at e ⊢
    by_cases h : d'.1 = i
    · rw [decide_eq_true h] at e ⊢
      cases e
      exact ⟨v, rfl, a⟩
    · rw [decide_eq_false h] at e ⊢
      exact ih r e
theorem valueAt_none (i : Int) {kvs : List (Int × Value)} {ds : List (Int × D)} (x : RepK prog w P kvs ds) (e : dget ds i = none) : valueAt kvs i = none := by
  induction ds generalizing kvs with
  | nil => rw [x.nilI]; rfl
  | cons d' ds ih =>
    obtain ⟨v, us, rfl, a, r⟩ := x.consI
    unfold dget at e ih
    unfold valueAt at ih ⊢
    rw [List.find?_cons] at e ⊢
    by_cases h : d'.1 = i
    · rw [decide_eq_true h] at e; cases e
    · rw [decide_eq_false h] at e ⊢
      exact ih r e

theorem isIn_sound {x y : Value} {a b : D} {r : Bool} {Q : Value → Shared → Prop} (p : PIn P s.heap) (hx : Hold prog w P s.heap x a) (hy : Hold prog w P s.heap y b) (e : isIn a b = some r) :
    (Post prog w P s (.bool r) .fro Q → wpAny (model prog w) A (compareOp .In x y) Q E s) ∧ (Post prog w P s (.bool (!r)) .fro Q → wpAny (model prog w) A (compareOp .NotIn x y) Q E s) := by
  rcases isIn_inv e with ⟨i, rfl, ⟨ds, rfl, e⟩ | ⟨ds, rfl, e⟩ | ⟨es, rfl, rfl⟩⟩ | ⟨i, ds, rfl, rfl, e⟩
  · obtain ⟨ns, e1, rfl⟩ := Option.map_eq_some_iff.mp e
    obtain ⟨t, rfl⟩ := hx.int; obtain ⟨c, vs, rfl, hl, rl⟩ := hy.tup p
    have I := ints_are rl e1
    refine ⟨fun hQ => PySem.SeqAt.in_tupleAt _ hl (fun z hz => (eq_isInt _ t I z (by simpa using hz)).at _ _) ?_, fun hQ => PySem.SeqAt.notIn_tupleAt _ hl (fun z hz => (eq_isInt _ t I z (by simpa using hz)).at _ _) ?_⟩
    · rw [show (vs.toArray.any fun y => PyProof.Rows.isInt _ y) = _ from any_isInt _ I]; exact post_bool' p hQ
    · rw [show (vs.toArray.any fun y => PyProof.Rows.isInt _ y) = _ from any_isInt _ I]; exact post_bool' p hQ
  · obtain ⟨ns, e1, rfl⟩ := Option.map_eq_some_iff.mp e
    obtain ⟨t, rfl⟩ := hx.int; obtain ⟨c, vs, _, rfl, hl, rl⟩ := hy.list p
    replace hl := isList_of hl
    have I := ints_are rl e1
    refine ⟨fun hQ => PySem.SeqAt.in_listAt _ hl (fun z hz => (eq_isInt _ t I z (by simpa using hz)).at _ _) ?_, fun hQ => PySem.SeqAt.notIn_listAt _ hl (fun z hz => (eq_isInt _ t I z (by simpa using hz)).at _ _) ?_⟩
    · rw [show (vs.toArray.any fun y => PyProof.Rows.isInt _ y) = _ from any_isInt _ I]; exact post_bool' p hQ
    · rw [show (vs.toArray.any fun y => PyProof.Rows.isInt _ y) = _ from any_isInt _ I]; exact post_bool' p hQ
  · obtain ⟨t, rfl⟩ := hx.int; obtain ⟨c, kvs, rfl, z, hl, rl⟩ := hy.dict p
    refine ⟨fun hQ => wpAny_in_of (knd := intKind prog w) (k := i) (key := .int i t) (by simp [intKind, Value.isInt]) z hl.mapOf ?_, fun hQ => wpAny_notIn_of (knd := intKind prog w) (k := i) (key := .int i t) (by simp [intKind, Value.isInt]) z hl.mapOf ?_⟩
    · rw [valueAt_some _ rl]; exact post_bool p hQ
    · rw [valueAt_some _ rl]; exact post_bool p hQ
  · obtain ⟨ns, e1, rfl⟩ := Option.map_eq_some_iff.mp e
    obtain ⟨t, rfl⟩ := hx.str; obtain ⟨c, vs, rfl, hl, rl⟩ := hy.tup p
    have I := strs_are rl e1
    refine ⟨fun hQ => PySem.SeqAt.in_tupleAt _ hl (fun z hz => (eq_isStrOf _ t I z (by simpa using hz)).at _ _) ?_, fun hQ => PySem.SeqAt.notIn_tupleAt _ hl (fun z hz => (eq_isStrOf _ t I z (by simpa using hz)).at _ _) ?_⟩
    · rw [show (vs.toArray.any fun y => PyProof.Rows.isStrOf _ y) = _ from any_isStr _ I]; exact post_bool' p hQ
    · rw [show (vs.toArray.any fun y => PyProof.Rows.isStrOf _ y) = _ from any_isStr _ I]; exact post_bool' p hQ

theorem eqs_sound {x y : Value} {a b : D} {r : Bool} {Q : Value → Shared → Prop} (R : Room A 0) (p : PIn P s.heap) (hx : Hold prog w P s.heap x a) (hy : Hold prog w P s.heap y b) (e : eqs a b = some r) :
    (Post prog w P s (.bool r) .fro Q → wpAny (model prog w) A (compareOp .Eq x y) Q E s) ∧ (Post prog w P s (.bool (!r)) .fro Q → wpAny (model prog w) A (compareOp .NotEq x y) Q E s) := by
  rcases eqs_inv e with ⟨a, b, rfl, rfl, rfl⟩ | ⟨a, b, rfl, rfl, rfl⟩ | ⟨a, b, rfl, rfl, rfl⟩ | ⟨xs, ys, rfl, rfl, e⟩
  · obtain ⟨t, rfl⟩ := hx.int; obtain ⟨u, rfl⟩ := hy.int
    exact ⟨fun hQ => PyProof.Rows.eq_int (post_bool' p hQ), fun hQ => PyProof.Rows.ne_int (post_bool' p hQ)⟩
  · obtain ⟨t, rfl⟩ := hx.str; obtain ⟨u, rfl⟩ := hy.str
    exact ⟨fun hQ => PyProof.Rows.eq_str (post_bool' p hQ), fun hQ => PyProof.Rows.ne_str (post_bool' p hQ)⟩
  · rw [hx.bool, hy.bool]
    exact ⟨fun hQ => eq_bool (post_bool' p hQ), fun hQ => ne_bool (post_bool' p hQ)⟩
  · obtain ⟨ns, e1, e2⟩ := Option.bind_eq_some_iff.mp e
    obtain ⟨ms, e3, rfl⟩ := Option.map_eq_some_iff.mp e2
    obtain ⟨l, vs, _, rfl, hl, rl⟩ := hx.list p; obtain ⟨r, us, _, rfl, hr, rr⟩ := hy.list p
    replace hl := isList_of hl
    replace hr := isList_of hr
    have hu : A.units + 64 < cLine := by have := R.un; (first | lia | omega)
    exact ⟨fun hQ => eq_intsK hl (ints_are rl e1) hr (ints_are rr e3) hu (post_bool' p hQ), fun hQ => ne_intsK hl (ints_are rl e1) hr (ints_are rr e3) hu (post_bool' p hQ)⟩

theorem cmp_sound {op : CmpOp} {x y : Value} {a b : D} {r : Bool} {Q : Value → Shared → Prop} (R : Room A 0) (p : PIn P s.heap) (hx : Hold prog w P s.heap x a) (hy : Hold prog w P s.heap y b) (e : cmp op a b = some r)
    (hQ : Post prog w P s (.bool r) .fro Q) : wpAny (model prog w) A (compareOp op x y) Q E s := by
  cases op with
  | Eq => exact (eqs_sound R p hx hy e).1 hQ
  | NotEq => obtain ⟨c, e1, rfl⟩ := Option.map_eq_some_iff.mp e; exact (eqs_sound R p hx hy e1).2 hQ
  | In => exact (isIn_sound p hx hy e).1 hQ
  | NotIn => obtain ⟨c, e1, rfl⟩ := Option.map_eq_some_iff.mp e; exact (isIn_sound p hx hy e1).2 hQ
  | Lt => obtain ⟨i, j, rfl, rfl, rfl⟩ := ltD_inv e; obtain ⟨t, rfl⟩ := hx.int; obtain ⟨u, rfl⟩ := hy.int; exact PyProof.Rows.lt_int (post_bool' p hQ)
  | LtE => obtain ⟨i, j, rfl, rfl, rfl⟩ := ltD_inv e; obtain ⟨t, rfl⟩ := hx.int; obtain ⟨u, rfl⟩ := hy.int; exact PyProof.Rows.le_int (post_bool' p hQ)
  | Gt => obtain ⟨i, j, rfl, rfl, rfl⟩ := ltD_inv e; obtain ⟨t, rfl⟩ := hx.int; obtain ⟨u, rfl⟩ := hy.int; exact PyProof.Rows.gt_int (post_bool' p hQ)
  | GtE => obtain ⟨i, j, rfl, rfl, rfl⟩ := ltD_inv e; obtain ⟨t, rfl⟩ := hx.int; obtain ⟨u, rfl⟩ := hy.int; exact PyProof.Rows.ge_int (post_bool' p hQ)
  | _ => exact nno e
end
end Mine

namespace Mine
section
variable {prog : Program} {w : World} {A : Around} {E : Value → Shared → Prop} {s : Shared} {P : Vis}

theorem Rep.handed {v : Value} {d : D} (x : Rep prog w P v d) : handedIn v = true := by cases x <;> rfl

theorem Reps.get_toArray {vs : List Value} {ds : List D} {i : Nat} {d : D} (r : Reps prog w P vs ds) (e : ds[i]? = some d) : ∃ v, vs.toArray[i]? = some v ∧ Rep prog w P v d := by
  obtain ⟨v, a, b⟩ := r.get e
  exact ⟨v, by simpa using a, b⟩

theorem sliceNo_sub {sl : Expr} (h : sliceNo sl = true) (o i : Value) : subscripted sl false o i = operate [o, i] (getItem o i) := by
  cases sl <;> first | rfl | exact ff h

theorem seqIdx_pos {k : Int} {n : Nat} (h0 : 0 ≤ k) (h1 : k < n) : seqIndex? k n = some k.toNat := by
  have : ¬ k < 0 := by (first | lia | omega)
  simp [seqIndex?, this, h0, h1]
theorem seqIdx_neg {k : Int} {n : Nat} (h0 : ¬ 0 ≤ k) (h1 : -(n : Int) ≤ k) : seqIndex? k n = some (k + n).toNat := by
  have a : k < 0 := by (first | lia | omega)
  have b : 0 ≤ k + n := by (first | lia | omega)
  simp [seqIndex?, a, b]; (first | lia | omega)

set_option tactic.hygienic true in
theorem item_sound {value sl : Expr} {va vi : Value} {a i d : D} {Q : Value → Shared → Prop} (p : PIn P s.heap) (hs : sliceNo sl = true) (ha : Hold prog w P s.heap va a) (hi : Hold prog w P s.heap vi i)
    (e : item a i = some d) (hQ : Post prog w P s d .fro Q) : wpAny (model prog w) A (subscriptTail value sl va vi) Q E s := by
  obtain ⟨k, rfl, e'⟩ := item_inv e
  clear e
  obtain ⟨t, rfl⟩ := hi.int
  rcases e' with ⟨ds, rfl, e⟩ | ⟨ds, rfl, e⟩ | ⟨es, rfl, e⟩
  · obtain ⟨l, vs, _, rfl, hl, r⟩ := ha.list p
    replace hl := isList_of hl
    refine tail_any hl.typeIs slot_list_getitem.lookup ?_ (sliceNo_sub hs _ _)
    unfold nth at e
    split at e
    · split at e <;> first | (exact nno e) | (cases e; done) | skip
      rename_i h0 h1
      obtain ⟨v, e1, rv⟩ := r.get_toArray e
      exact wpAny_getItem_list hl h0 h1 e1 (post_same (tk := s.toks) p hQ rv)
    · split at e <;> first | (exact nno e) | (cases e; done) | skip
      rename_i h0 h1
      obtain ⟨v, e1, rv⟩ := r.get_toArray e
      have hz := r.length
      exact wpAny_getItem_list_neg hl (by (first | lia | omega)) (by rw [List.size_toArray, hz]; exact h1.1) h1.2 (by rw [List.size_toArray, hz]; exact e1) (post_same (tk := s.toks) p hQ rv)
  · obtain ⟨l, vs, rfl, hl, r⟩ := ha.tup p
    refine tail_any hl.typeIs PySem.F.slot_tuple_getitem.lookup ?_ (sliceNo_sub hs _ _)
    unfold nth at e
    have hz : vs.toArray.size = vs.length := List.size_toArray
    rw [r.length] at hz
    split at e
    · split at e <;> first | (exact nno e) | (cases e; done) | skip
      rename_i h0 h1
      obtain ⟨v, e1, rv⟩ := r.get_toArray e
      have hlt : k.toNat < vs.toArray.size := by rw [Array.getElem?_eq_some_iff] at e1; exact e1.1
      exact PyProof.Rows.getItem_tuple (j := k.toNat) hl (by (first | lia | omega)) h1 (seqIdx_pos h0 (by (first | lia | omega))) e1 (post_same (tk := s.toks) p hQ rv)
    · split at e <;> first | (exact nno e) | (cases e; done) | skip
      rename_i h0 h1
      obtain ⟨v, e1, rv⟩ := r.get_toArray e
      exact PyProof.Rows.getItem_tuple (j := (k + vs.toArray.size).toNat) hl h1.2 (by (first | lia | omega)) (seqIdx_neg h0 (by rw [hz]; exact h1.1)) (by rw [hz]; exact e1) (post_same (tk := s.toks) p hQ rv)
  · obtain ⟨l, kvs, rfl, z, hl, r⟩ := ha.dict p
    refine tail_any hl.mapOf.typeIs PySem.F.slot_dict_getitem.lookup ?_ (sliceNo_sub hs _ _)
    obtain ⟨v, e1, rv⟩ := valueAt_get k r e
    exact wpAny_getItem_of (knd := intKind prog w) (k := k) (key := .int k t) (by simp [intKind, Value.isInt]) hl.mapOf e1 (post_same p hQ rv)

theorem RepF.get {nm : Str} {es : List DictEntry} {fs : List (Str × D)} {d : D} (x : RepF prog w P es fs) (e : fs.lookup nm = some d) : ∃ v, getL nm es = some (some v) ∧ Rep prog w P v d := by
  induction fs generalizing es with
  | nil => cases e
  | cons f fs ih =>
    obtain ⟨e0, t, us, rfl, hk, a, r⟩ := x.consI
    obtain ⟨n, d0⟩ := f
    rw [List.lookup_cons] at e
    have q : e0.key.isStr nm = (nm == n) := by rw [hk]; exact Bool.beq_comm
    unfold getL
    rw [List.find?_cons, q]
    cases h : nm == n with
    | true => rw [h] at e; cases e; exact ⟨_, rfl, a⟩
    | false =>
      rw [h] at e
      obtain ⟨v, e1, rv⟩ := ih r e
      refine ⟨v, ?_, rv⟩
      unfold getL at e1
      simp only [] at e1 ⊢
      split at e1
      · exact e1
      · split at e1 <;> cases e1

theorem cut_sound {x i j d : D} {vx vi vj : Value} {value : Expr} {Q : Value → Shared → Prop} (p : PIn P s.heap) (hx : Hold prog w P s.heap vx x) (hi : Hold prog w P s.heap vi i) (hj : Hold prog w P s.heap vj j)
    (e : cut x i j = some d) (hQ : Post prog w P s d .fro Q) :
    ∃ x t l u, vx = .str x t ∧ vi = partValue l ∧ vj = partValue u ∧ (PySem.sliceMade x t l u none).post Q { s with heap := s.heap.push { cls := .type "slice", data := .fields #[vi, vj, .none] } } := by
  obtain ⟨x, i, j, rfl, rfl, rfl, e⟩ := cut_inv e
  obtain ⟨hz, e⟩ := iteS e
  cases e
  obtain ⟨t, rfl⟩ := hx.str; obtain ⟨t1, rfl⟩ := hi.int; obtain ⟨t2, rfl⟩ := hj.int
  refine ⟨x, t, some (i, t1), some (j, t2), rfl, rfl, rfl, ?_⟩
  have fin : ∀ (y : Str) (tk tk' : Nat), Post prog w P s (.str y) .fro Q → Q (.str y tk) { s with heap := s.heap.push { cls := .type "slice", data := .fields #[.int i t1, .int j t2, .none] }, toks := tk' } :=
    fun y tk tk' h => h _ _ P (Sub.push _ _) ⟨rfl, rfl⟩ (PExt.stay p (Sub.push _ _)) (.str y tk)
  have e1 : slicePicked x (some (i, t1)) (some (j, t2)) none = slicePicked x (some (i, 0)) (some (j, 0)) none := rfl
  unfold PySem.sliceMade
  rw [e1]
  cases hc : (slicePicked x (some (i, 0)) (some (j, 0)) none).length == x.length with
  | true =>
    rw [hc] at hQ
    rw [if_pos (by rw [Bool.and_true]; rfl)]
    exact fin x t s.toks hQ
  | false =>
    rw [hc] at hQ
    rw [if_neg (by rw [Bool.and_false]; exact Bool.false_ne_true)]
    refine ⟨?_, fin _ _ _ hQ⟩
    show Array.size _ ≤ _
    rw [List.size_toArray, sizeLine_eq]
    exact Nat.le_trans (List.length_filterMap_le _ _) (by (first | lia | omega))

theorem split_call {x : Str} {t : Tok} {Q : Value → Shared → Prop} (p : PIn P s.heap) (hy : 1 < s.heap.objs.size) (h1 : x.length ≤ 1000) (h2 : (Builtin.Str.spaceWords x (x.length + 1)).length ≤ 16777216)
    (hQ : Post prog w P s (.list ((Txt.words x).map .str)) .fre Q) : wpAny (model prog w) A (call (.builtin "str.split") [.str x t]) Q E s := by
  have R : ∀ l : List (Str × Tok), Reps prog w P (strValues l) ((l.map (·.1)).map .str) := by
    intro l
    induction l with
    | nil => exact .nil
    | cons q l ih => exact .cons (.str _ _) ih
  refine call_meets F.slot_str_split (typeIs_str _ _ _) F.entry_str_split (F.args_str_split_1 _) (meets_str_split_space x t (by rw [sizeLine_eq]; (first | lia | omega)) (by rw [sizeLine_eq]; (first | lia | omega))) ?_
  cases hw : Builtin.Str.spaceWords x (x.length + 1) == [(0, x.length)]
  · simp only [Bool.false_eq_true, if_false]
    rw [strsFrom_eq]
    have e : Txt.words x = (numbered s.toks (PySem.wordsOf x)).map (·.1) := (if_neg (ne_true_of_eq_false hw)).trans (numbered_texts _ _).symm
    rw [e] at hQ
    exact post_list p hy (R _) hQ
  · simp only [if_true]
    have e : Txt.words x = ([(x, t)] : List (Str × Tok)).map (·.1) := if_pos hw
    rw [e] at hQ
    exact post_list (vs := strValues [(x, t)]) p hy (R _) hQ

noncomputable def MethCall (prog : Program) (w : World) (A : Around) (E : Value → Shared → Prop) (nm : Str) (ov : Value) (s : Shared) (P : Vis) (args : List D) (d : D) (m' : Mode) : Prop :=
  ∃ (T id : String), PlainAttrs T ∧ Slot T nm id ∧ typeOf (.builtin id) = pure (.type "method_descriptor") ∧ s.TypeIs ov T ∧ (∀ a, ov = .ref a → ∃ ob, s.heap.get? a = some ob ∧ ob.dict = none) ∧
    ∀ (s' : Shared) (P' : Vis) (vs : List Value) (Q : Value → Shared → Prop), Sub s.heap s'.heap → PExt P s.heap P' s'.heap → Reps prog w P' vs args → Post prog w P' s' d m' Q → wpAny (model prog w) A (call (.builtin id) (ov :: vs)) Q E s'

theorem str_meth {nm x : Str} {t : Tok} {d : D} {m' : Mode} (p : PIn P s.heap) (hy : Big s.heap) (e : strM nm x = some (d, m')) : MethCall prog w A E nm (.str x t) s P [] d m' := by
  obtain ⟨hz, e⟩ := iteS e
  by_cases hn : nm = ("split" : Str) ∧ (Builtin.Str.spaceWords x (x.length + 1)).length ≤ 16777216
  · replace e := (if_pos hn).symm.trans e
    cases e
    rw [hn.1]
    refine ⟨"str", _, F.plainAttrs_str, F.slot_str_split, F.type_str_split, typeIs_str _ _ _, (fun _ e => nomatch e), fun s' P' vs Q k y r hQ => ?_⟩
    rw [r.nilI]
    exact split_call y.at_ (hy.keeps k).lt hz hn.2 hQ
  · replace e := (if_neg hn).symm.trans e
    obtain ⟨hn, e⟩ := iteS e
    cases e
    rw [hn]
    refine ⟨"str", _, F.plainAttrs_str, F.slot_str_strip, F.type_str_strip, typeIs_str _ _ _, (fun _ e => nomatch e), fun s' P' vs Q k y r hQ => ?_⟩
    rw [r.nilI]
    exact SC.strip (fun t' k => post_same y.at_ hQ (.str _ _)) (by rw [sizeLine_eq]; (first | lia | omega))
theorem get_meth {v : Value} {es : List (Int × D)} {k : Int} {dd : D} (p : PIn P s.heap) (hv : Hold prog w P s.heap v (.dict es)) : MethCall prog w A E "get" v s P [.int k, dd] ((dget es k).getD dd) .fro := by
  obtain ⟨a, kvs, rfl, z, hl, r⟩ := hv.dict p
  refine ⟨"dict", _, F.plainAttrs_dict, F.slot_dict_get, F.type_dict_get, hl.mapOf.typeIs, hl.mapOf.noDict, fun s' P' vs Q k' y r' hQ => ?_⟩
  obtain ⟨k0, us, rfl, a1, r1⟩ := r'.consI
  obtain ⟨dv, rfl, a2⟩ := r1.oneI
  obtain ⟨tk, rfl⟩ := a1.intI
  have hm' : s'.heap.MapOf (intKind prog w) a (valueAt kvs) := let ⟨o, es, ep, ho, q⟩ := hl.mapOf; ⟨o, es, ep, k' _ _ ho, q⟩
  refine call_meetsIn F.slot_dict_get hm'.typeIs F.entry_dict_get (F.args_dict_get_3 _ _ _) (meets_dict_get_default (intKind prog w) a (k := k) (by simp [intKind, Value.isInt]) z _) ⟨_, hm', ?_⟩
  have fin : Rep prog w P' ((valueAt kvs k).getD dv) ((dget es k).getD dd) := by
    cases q : dget es k with
    | none => rw [valueAt_none k r q]; exact a2
    | some d0 => obtain ⟨v0, e1, rv⟩ := valueAt_get k r q; rw [e1]; exact rv.mono y.up
  exact post_same y.at_ hQ fin
set_option tactic.hygienic true in
theorem items_meth {v : Value} {es : List (Int × D)} (p : PIn P s.heap) (hv : Rep prog w P v (.dict es)) : MethCall prog w A E "items" v s P [] (.itm es) .fro := by
  cases hv with | dict z a b c f g kk r =>
  rename_i a o es' n kvs
  have hl : s.heap.DictOf (intKind prog w) _ kvs := ⟨_, _, _, p _ _ a, b, c, f, g, kk⟩
  refine ⟨"dict", _, F.plainAttrs_dict, F.slot_dict_items, F.type_dict_items, hl.mapOf.typeIs, hl.mapOf.noDict, fun s' P' vs Q k' y r' hQ => ?_⟩
  rw [r'.nilI]
  have hl' : s'.heap.DictOf (intKind prog w) _ kvs := ⟨_, _, _, y.at_ _ _ (y.up _ _ a), b, c, f, g, kk⟩
  refine call_meetsIn F.slot_dict_items hl'.mapOf.typeIs F.entry_dict_items (F.args_dict_items_1 _) (meets_dict_items (intKind prog w) _ z) ⟨⟨_, hl'⟩, ?_⟩
  exact hQ _ _ (PAdd P' _ _) (Sub.push _ _) ⟨rfl, rfl⟩ ((PExt.stay y.at_ (Sub.push _ _)).add (Heap.get?_none_of_le (Nat.le_refl _)) (Heap.get?_push_size _ rfl))
    (.itm (.inr ⟨rfl, rfl⟩) z (.inl (y.up _ _ a)) b c f g kk (r.mono fun _ _ e => .inl (y.up _ _ e)))
theorem meth_call {nm : Str} {x d : D} {m m' : Mode} {args : List D} {v : Value} {h₀ : Heap} (p : PIn P s.heap) (hy : Big s.heap) (hv : Val prog w h₀ P s.heap v x m) (e : meth nm x m args = some (d, m')) :
    MethCall prog w A E nm v s P args d m' := by
  rcases meth_inv e with ⟨x, rfl, rfl, e1⟩ | ⟨es, rfl, ⟨rfl, ⟨rfl, rfl⟩, q⟩ | ⟨k, dd, rfl, rfl, q⟩⟩
  · obtain ⟨t, rfl⟩ := hv.hold.str
    exact str_meth p hy e1
  · cases q; exact items_meth p hv
  · cases q; exact get_meth p hv.hold
end
end Mine

namespace Mine

noncomputable def LoadsAs (prog : Program) (w : World) (hb : Heap) (f : Str) (fv : Value) : Prop := ∀ (A : Around) (E : Value → Shared → Prop) (s : Shared) (env : Env) (pos : Pos) (Q : Value → Shared → Prop),
  env.scope.kind = .function → env.globals = mainGlobals → env.builtins = builtinsNs → env.kindOf f = some .globalImplicit → Sub hb s.heap → f ≠ ("__debug__" : Str) → Q fv s → wpAny (model prog w) A (eval (.Name f pos) env) Q E s
noncomputable def CallsAs (prog : Program) (w : World) (hb : Heap) (fv : Value) : Prop := ∀ (A : Around) (E : Value → Shared → Prop) (s : Shared) (pos : Pos) (args : List (Bool × Sem Value)) (Q : Value → Shared → Prop), args.any (·.1) = false →
  wpAny (model prog w) A (evalArgs fv true args []) (fun a s₁ => Sub hb s₁.heap ∧ wpAny (model prog w) A (call fv a.pos a.kw) Q E s₁) E s → wpAny (model prog w) A (callWith pos fv [] args []) Q E s
noncomputable def Spec (prog : Program) (w : World) (hb : Heap) (lv : Nat) (fv : Value) (ds : List D) (d : D) (fr : Bool) : Prop := ∀ (A : Around) (E : Value → Shared → Prop) (s : Shared) (P : Vis) (vs : List Value) (Q : Value → Shared → Prop),
  Room A lv → Sub hb s.heap → PIn P s.heap → Reps prog w P vs ds → Post prog w P s d (if fr then .fre else .fro) Q → wpAny (model prog w) A (call fv vs) Q E s

structure Wld (prog : Program) (w : World) (cx : Cx) (lv : Nat) (hb : Heap) : Prop where
  big : Big hb
  con : ∀ x d, cx.con x = some d → ∃ v, LoadsAs prog w hb x v ∧ Rep prog w (fun _ _ => False) v d
  fn : ∀ f ds d fr, cx.fn f ds = some (d, fr) → ∃ fv, LoadsAs prog w hb f fv ∧ CallsAs prog w hb fv ∧ Spec prog w hb lv fv ds d fr
  lst : LoadsAs prog w hb "list" (.type "list")
  enm : LoadsAs prog w hb "enumerate" (.type "enumerate")
  fld : ∀ C nm, cx.fld C nm = true → ∀ (A : Around) (E : Value → Shared → Prop) (s : Shared) (x dx : Addr) (es : List DictEntry) (n : Nat) (v : Value) (Q : Value → Shared → Prop), Sub hb s.heap →
    s.heap.get? x = some (instObj C dx) → s.heap.get? dx = some (dictOf es n) → getL nm es = some (some v) → handedIn v = true → Q v { s with toks := s.toks + 1 } → wpAny (model prog w) A (getAttr (.ref x) nm true) Q E s

noncomputable def VarIs (env : Env) (h : Heap) (x : Str) (v : Value) : Prop :=
  (env.kindOf x = some .local ∧ ∃ mm, h.Ns env.locals mm ∧ mm x = some v) ∨
  ((env.kindOf x = some .cell ∨ (env.kindOf x = some .free ∧ x ≠ ("__classdict__" : Str))) ∧ ∃ c, env.cells.lookup x = some c ∧ h.IsCell c (some v))
structure EnvSt (prog : Program) (w : World) (sc : Scope) (env : Env) (ρ : Rho) (P : Vis) (h : Heap) : Prop where
  kind : env.scope.kind = .function
  glb : env.globals = mainGlobals
  blt : env.builtins = builtinsNs
  imp : ∀ x, sc.names.lookup x = some .globalImplicit → env.kindOf x = some .globalImplicit
  imc : ∀ x, sc.names.lookup x = some .cell → env.kindOf x = some .cell
  vars : ∀ x d m, ρ.get x = some (d, m) → m ≠ .fre ∧ ∃ v, VarIs env h x v ∧ Val prog w h P h v d m
  pin : PIn P h

theorem VarIs.keeps {env : Env} {h h' : Heap} {x : Str} {v : Value} (k : Sub h h') (z : VarIs env h x v) : VarIs env h' x v := by
  rcases z with ⟨a, mm, b, c⟩ | ⟨a, c, b, o, d, e⟩
  · exact .inl ⟨a, mm, b.keeps k, c⟩
  · exact .inr ⟨a, c, b, o, k _ _ d, e⟩

section
variable {prog : Program} {w : World}
theorem Val.base {h₁ h₂ h : Heap} {P : Vis} {v : Value} {d : D} {m : Mode} (hm : m ≠ .fre) (x : Val prog w h₁ P h v d m) : Val prog w h₂ P h v d m := by
  cases m <;> first | exact x | exact absurd rfl hm
theorem EnvSt.step {sc : Scope} {env : Env} {ρ : Rho} {P P' : Vis} {h h' : Heap} (x : EnvSt prog w sc env ρ P h) (k : Sub h h') (y : PExt P h P' h') : EnvSt prog w sc env ρ P' h' :=
  ⟨x.kind, x.glb, x.blt, x.imp, x.imc, fun n d m e => let ⟨a, v, b, c⟩ := x.vars n d m e; ⟨a, v, b.keeps k, (c.keeps k y).base a⟩, y.at_⟩

noncomputable def ESound (prog : Program) (w : World) (cx : Cx) (lv : Nat) (hb : Heap) (e : Expr) : Prop := ∀ sc ρ d m, ev cx e sc ρ = some (d, m) → ∀ A E s env P Q, Room A lv → Sub hb s.heap → EnvSt prog w sc env ρ P s.heap →
  Post prog w P s d m Q → wpAny (model prog w) A (eval e env) Q E s
noncomputable def PostB (P : Vis) (s : Shared) (b : Bool) (Q : Bool → Shared → Prop) : Prop := ∀ s' P', Sub s.heap s'.heap → SameW s s' → PExt P s.heap P' s'.heap → Q b s'
noncomputable def TSound (prog : Program) (w : World) (cx : Cx) (lv : Nat) (hb : Heap) (e : Expr) : Prop := ∀ sc ρ b, tr cx e sc ρ (ev cx e sc ρ) = some b → ∀ A E s env P Q, Room A lv → Sub hb s.heap → EnvSt prog w sc env ρ P s.heap →
  PostB P s b Q → wpAny (model prog w) A (isTrue e env (eval e env)) Q E s

section
variable {A : Around} {E : Value → Shared → Prop} {s : Shared} {P : Vis} {cx : Cx} {lv : Nat} {hb : Heap} {sc : Scope} {ρ : Rho} {env : Env}

theorem post_then {s₁ : Shared} {P₁ : Vis} {d : D} {m : Mode} {Q : Value → Shared → Prop} (k : Sub s.heap s₁.heap) (ww : SameW s s₁) (y : PExt P s.heap P₁ s₁.heap) (h : Post prog w P s d m Q) : Post prog w P₁ s₁ d m Q :=
  fun v s' P' k' w' y' x => h v s' P' (k.trans k') (ww.trans w') (y.trans k y') (x.back k)
theorem postB_then {s₁ : Shared} {P₁ : Vis} {b : Bool} {Q : Bool → Shared → Prop} (k : Sub s.heap s₁.heap) (ww : SameW s s₁) (y : PExt P s.heap P₁ s₁.heap) (h : PostB P s b Q) : PostB P₁ s₁ b Q :=
  fun s' P' k' w' y' => h s' P' (k.trans k') (ww.trans w') (y.trans k y')

theorem star_cons {e : Expr} {rest : List Expr} (h : notStar e = true) : starEach (e :: rest) env = (false, eval e env) :: starEach rest env := by
  cases e <;> first | rfl | exact ff h
noncomputable def plain (es : List Expr) : Bool := es.all notStar
theorem plain_cons {e : Expr} {rest : List Expr} (h : plain (e :: rest) = true) : notStar e = true ∧ plain rest = true := by
  unfold plain at h
  rw [List.all_cons] at h
  exact Bool.and_eq_true_iff.mp h
theorem few_plain {es : List Expr} (h : few es = true) : plain es = true := (Bool.and_eq_true_iff.mp h).2
theorem few_len {es : List Expr} (h : few es = true) : es.length < 29 := of_decide_eq_true (Bool.and_eq_true_iff.mp h).1
theorem plain_any {es : List Expr} {pos : Pos} : plain es = true → (backTo pos (starEach es env)).any (·.1) = false := by
  induction es with
  | nil => intro _; rfl
  | cons e r ih =>
    intro h
    obtain ⟨a, b⟩ := plain_cons h
    rw [star_cons a]
    exact ih b

set_option tactic.hygienic true in
theorem evs_sound : ∀ (es : List Expr), (∀ e ∈ es, ESound prog w cx lv hb e) → plain es = true → ∀ (sc : Scope) (ρ : Rho) (ds : List D), evs cx es sc ρ = some ds → ∀ (A : Around) (E : Value → Shared → Prop) (s : Shared) (env : Env) (P : Vis) (pos : Pos) (Q : List Value → Shared → Prop),
    Room A lv → Sub hb s.heap → EnvSt prog w sc env ρ P s.heap → (∀ vs s' P', Sub s.heap s'.heap → SameW s s' → PExt P s.heap P' s'.heap → Reps prog w P' vs ds → Q vs s') →
    wpAny (model prog w) A (spliced (backTo pos (starEach es env))) Q E s
  | [], _, _, sc, ρ, ds, e, A, E, s, env, P, pos, Q, R, kb, X, h => by
    cases e
    exact wpAny_items_nil (h [] s P (Sub.refl _) (SameW.refl _) (PExt.refl X.pin) .nil)
  | x :: r, H, pl, sc, ρ, ds, e, A, E, s, env, P, pos, Q, R, kb, X, h => by
    obtain ⟨p1, p2⟩ := plain_cons pl
    obtain ⟨⟨d, m⟩, e1, e2⟩ := Option.bind_eq_some_iff.mp e
    split at e2
    · cases e2
    · rename_i hm
      obtain ⟨ds', e3, rfl⟩ := Option.map_eq_some_iff.mp e2
      refine wpAny_items_cons (H x (List.mem_cons_self ..) sc ρ d m e1 A E s env P _ R kb X fun v s₁ P₁ k₁ w₁ y₁ x₁ => ?_) (star_cons p1)
      obtain ⟨P₂, y₂, up₂, r₂⟩ := x₁.freeze hm y₁
      refine evs_sound r (fun e he => H e (List.mem_cons_of_mem _ he)) p2 sc ρ ds' e3 A E s₁ env P₂ pos _ R (kb.trans k₁) (X.step k₁ y₂) fun vs s₃ P₃ k₃ w₃ y₃ r₃ => ?_
      exact h (v :: vs) s₃ P₃ (k₁.trans k₃) (w₁.trans w₃) (y₂.trans k₁ y₃) (.cons (r₂.mono y₃.up) r₃)

theorem trs_sound : ∀ (es : List Expr), (∀ e ∈ es, TSound prog w cx lv hb e) → ∀ (sc : Scope) (ρ : Rho) (b : Bool), trs cx es sc ρ = some b → ∀ (A : Around) (E : Value → Shared → Prop) (s : Shared) (env : Env) (P : Vis) (Q : Bool → Shared → Prop),
    Room A lv → Sub hb s.heap → EnvSt prog w sc env ρ P s.heap → PostB P s b Q →
    wpAny (model prog w) A (forIn es true fun c r => if r = true then do let ok ← isTrue c env (eval c env); pure (ForInStep.yield ok) else pure (ForInStep.yield r)) Q E s := by
  have stay : ∀ (es : List Expr) (A : Around) (E : Value → Shared → Prop) (s : Shared) (env : Env) (Q : Bool → Shared → Prop), Q false s →
      wpAny (model prog w) A (forIn es false fun c r => if r = true then do let ok ← isTrue c env (eval c env); pure (ForInStep.yield ok) else pure (ForInStep.yield r)) Q E s := by
    intro es
    induction es with
    | nil => intro A E s env Q h; exact wpAny_pure h
    | cons e r ih =>
      intro A E s env Q h
      rw [List.forIn_cons]
      exact wpAny_bind (wpAny_pure (ih A E s env Q h))
  intro es
  induction es with
  | nil => intro H sc ρ b e A E s env P Q R kb X h; cases e; exact wpAny_pure (h s P (Sub.refl _) (SameW.refl _) (PExt.refl X.pin))
  | cons x r ih =>
    intro H sc ρ b e A E s env P Q R kb X h
    obtain ⟨c, e1, e2⟩ := Option.bind_eq_some_iff.mp e
    rw [List.forIn_cons, if_pos rfl]
    refine wpAny_bind (wpAny_bind (H x (List.mem_cons_self ..) sc ρ c e1 A E s env P _ R kb X fun s₁ P₁ k₁ w₁ y₁ => wpAny_pure ?_))
    cases c with
    | true =>
      rw [if_pos rfl] at e2
      exact ih (fun e he => H e (List.mem_cons_of_mem _ he)) sc ρ b e2 A E s₁ env P₁ Q R (kb.trans k₁) (X.step k₁ y₁) (postB_then k₁ w₁ y₁ h)
    | false =>
      rw [if_neg Bool.false_ne_true] at e2
      cases e2
      exact stay r A E s₁ env Q (h s₁ P₁ k₁ w₁ y₁)

theorem evB_sound (op : BoolOp) : ∀ (es : List Expr), (∀ e ∈ es, ESound prog w cx lv hb e) → ∀ (sc : Scope) (ρ : Rho) (b : Bool), evB cx op es sc ρ = some b → ∀ (A : Around) (E : Value → Shared → Prop) (s : Shared) (env : Env) (P : Vis) (pos : Pos) (Q : Value → Shared → Prop),
    Room A lv → Sub hb s.heap → EnvSt prog w sc env ρ P s.heap → Post prog w P s (.bool b) .fro Q → wpAny (model prog w) A (boolOp pos op (evalEach es env)) Q E s
  | [], _, sc, ρ, b, e, A, E, s, env, P, pos, Q, R, kb, X, h => by cases e
  | [x], H, sc, ρ, b, e, A, E, s, env, P, pos, Q, R, kb, X, h => by
    obtain ⟨⟨d, m⟩, e1, e2⟩ := Option.bind_eq_some_iff.mp e
    obtain ⟨c, e3, e4⟩ := Option.bind_eq_some_iff.mp e2
    simp at e4
    subst e4
    show wpAny _ _ (eval x env) _ _ _
    refine H x (List.mem_cons_self ..) sc ρ d m e1 A E s env P _ R kb X fun v s₁ P₁ k₁ w₁ y₁ x₁ => ?_
    have q := asBool_inv e3
    subst q
    have hv := x₁.hold.bool
    subst hv
    exact h _ s₁ P₁ k₁ w₁ y₁ (.bool _)
  | x :: y :: r, H, sc, ρ, b, e, A, E, s, env, P, pos, Q, R, kb, X, h => by
    obtain ⟨⟨d, m⟩, e1, e2⟩ := Option.bind_eq_some_iff.mp e
    obtain ⟨c, e3, e4⟩ := Option.bind_eq_some_iff.mp e2
    rw [if_neg (by simp)] at e4
    show wpAny _ _ (boolOp pos op (eval x env :: eval y env :: evalEach r env)) _ _ _
    show wpAny _ _ (eval x env >>= _) _ _ _
    refine wpAny_bind (H x (List.mem_cons_self ..) sc ρ d m e1 A E s env P _ R kb X fun v s₁ P₁ k₁ w₁ y₁ x₁ => ?_)
    have q := asBool_inv e3
    subst q
    have hv := x₁.hold.bool
    subst hv
    refine wpAny_bind (wpAny_standAt (wpAny_bind (wpAny_holding (wpAny_truthy_bool ?_))))
    have go : evB cx op (y :: r) sc ρ = some b → wpAny (model prog w) A (boolOp pos op (eval y env :: evalEach r env)) Q E s₁ := fun e5 =>
      evB_sound op (y :: r) (fun e he => H e (List.mem_cons_of_mem _ he)) sc ρ b e5 A E s₁ env P₁ pos Q R (kb.trans k₁) (X.step k₁ y₁) (post_then k₁ w₁ y₁ h)
    cases c <;> cases op <;> simp at e4 <;> first | exact go e4 | (subst e4; exact wpAny_pure (h _ s₁ P₁ k₁ w₁ y₁ (.bool _)))

theorem trB_sound (op : BoolOp) : ∀ (es : List Expr), (∀ e ∈ es, TSound prog w cx lv hb e) → ∀ (sc : Scope) (ρ : Rho) (b : Bool), trB cx op es sc ρ = some b → ∀ (A : Around) (E : Value → Shared → Prop) (s : Shared) (env : Env) (P : Vis) (Q : Bool → Shared → Prop),
    Room A lv → Sub hb s.heap → EnvSt prog w sc env ρ P s.heap → PostB P s b Q → wpAny (model prog w) A (allTrue op es env) Q E s
  | [], _, sc, ρ, b, e, A, E, s, env, P, Q, R, kb, X, h => by
    cases e
    exact wpAny_pure (h s P (Sub.refl _) (SameW.refl _) (PExt.refl X.pin))
  | x :: r, H, sc, ρ, b, e, A, E, s, env, P, Q, R, kb, X, h => by
    obtain ⟨c, e1, e2⟩ := Option.bind_eq_some_iff.mp e
    have go : ∀ s₁ P₁, Sub s.heap s₁.heap → SameW s s₁ → PExt P s.heap P₁ s₁.heap → trB cx op r sc ρ = some b → wpAny (model prog w) A (allTrue op r env) Q E s₁ := fun s₁ P₁ k₁ w₁ y₁ e5 =>
      trB_sound op r (fun e he => H e (List.mem_cons_of_mem _ he)) sc ρ b e5 A E s₁ env P₁ Q R (kb.trans k₁) (X.step k₁ y₁) (postB_then k₁ w₁ y₁ h)
    cases op with
    | And =>
      refine wpAny_allTrue_And_cons (H x (List.mem_cons_self ..) sc ρ c e1 A E s env P _ R kb X fun s₁ P₁ k₁ w₁ y₁ => ?_)
      cases c <;> simp at e2
      · subst e2; exact h s₁ P₁ k₁ w₁ y₁
      · exact go s₁ P₁ k₁ w₁ y₁ e2
    | Or =>
      refine wpAny_allTrue_Or_cons (H x (List.mem_cons_self ..) sc ρ c e1 A E s env P _ R kb X fun s₁ P₁ k₁ w₁ y₁ => ?_)
      cases c <;> simp at e2
      · exact go s₁ P₁ k₁ w₁ y₁ e2
      · subst e2; exact h s₁ P₁ k₁ w₁ y₁

theorem marks_tl {e : Expr} {r : List Expr} (h : marksNo (e :: r) = true) : marksNo r = true := by
  unfold marksNo at h ⊢
  rw [List.all_cons] at h
  exact (Bool.and_eq_true_iff.mp h).2
theorem marks_one {op : CmpOp} {e : Expr} {r : List Expr} (h : marksNo (e :: r) = true) : behindInMarks op e = false := by
  cases e <;> first | rfl | exact ff h
theorem marked_eq : ∀ (ops : List CmpOp) (es : List Expr) (ts : List (Sem Value)), marksNo es = true → markedEach ops es ts = ts
  | [], _, _, _ => by unfold markedEach; rfl
  | [op], [], ts, _ => by unfold markedEach; rfl
  | op :: op' :: ops, [], ts, _ => by unfold markedEach; rfl
  | [op], [e], [], _ => by unfold markedEach; rfl
  | [op], [e], [t], h => by
    unfold markedEach
    rw [markedBehindIn_of_false (marks_one h)]
  | [op], [e], t :: t' :: ts, h => by
    have := marked_eq [] [] (t' :: ts) rfl
    unfold markedEach; rw [this]
  | [op], e :: e' :: es, [], _ => by unfold markedEach; rfl
  | [op], e :: e' :: es, t :: ts, h => by
    have := marked_eq [] (e' :: es) ts (marks_tl h)
    unfold markedEach
    rw [this]
  | op :: op' :: ops, e :: es, [], _ => by unfold markedEach; rfl
  | op :: op' :: ops, e :: es, t :: ts, h => by
    have := marked_eq (op' :: ops) es ts (marks_tl h)
    unfold markedEach
    rw [this]

theorem compareChain_one (pos : Pos) (l : Value) (op : CmpOp) (r : Sem Value) : compareChain pos l [op] [r] = (do let rv ← holding [l] r; standAt pos; operate [l, rv] (compareOp op l rv)) := rfl
theorem testChain_one (pos : Pos) (l : Value) (op : CmpOp) (r : Sem Value) : testChain pos l [op] [r] = (do let rv ← holding [l] r; standAt pos; let c ← operate [l, rv] (compareOp op l rv); holding [c] (truthy c)) := rfl
theorem compareChain_more (pos : Pos) (l : Value) (op op' : CmpOp) (ops : List CmpOp) (r r' : Sem Value) (rs : List (Sem Value)) : compareChain pos l (op :: op' :: ops) (r :: r' :: rs) = (do
    let rv ← holding [l] r
    standAt pos
    let c ← holding [l, rv] (compareOp op l rv)
    release [l, rv] [c]
    if ← holding [c, rv] (truthy c) then compareChain pos rv (op' :: ops) (r' :: rs) else pure c) := rfl
theorem testChain_more (pos : Pos) (l : Value) (op op' : CmpOp) (ops : List CmpOp) (r r' : Sem Value) (rs : List (Sem Value)) : testChain pos l (op :: op' :: ops) (r :: r' :: rs) = (do
    let rv ← holding [l] r
    standAt pos
    let c ← holding [l, rv] (compareOp op l rv)
    release [l, rv] [c]
    if ← holding [c, rv] (truthy c) then testChain pos rv (op' :: ops) (r' :: rs) else pure false) := rfl

theorem evC_sound : ∀ (es : List Expr) (ops : List CmpOp), (∀ e ∈ es, ESound prog w cx lv hb e) → ∀ (a : D) (sc : Scope) (ρ : Rho) (b : Bool), evC cx a ops es sc ρ = some b → ∀ (A : Around) (E : Value → Shared → Prop) (s : Shared) (env : Env) (P : Vis) (pos : Pos) (v : Value),
    Room A lv → Sub hb s.heap → EnvSt prog w sc env ρ P s.heap → (∀ h', Sub s.heap h' → ∀ P', PExt P s.heap P' h' → Hold prog w P' h' v a) →
    (∀ Q : Value → Shared → Prop, Post prog w P s (.bool b) .fro Q → wpAny (model prog w) A (compareChain pos v ops (evalEach es env)) Q E s) ∧
    (∀ Q : Bool → Shared → Prop, PostB P s b Q → wpAny (model prog w) A (testChain pos v ops (evalEach es env)) Q E s)
  | [], ops, _, a, sc, ρ, b, e, A, E, s, env, P, pos, v, R, kb, X, hv => by cases ops <;> cases e
  | x :: r, [], _, a, sc, ρ, b, e, A, E, s, env, P, pos, v, R, kb, X, hv => by cases e
  | [x], [op], H, a, sc, ρ, b, e, A, E, s, env, P, pos, v, R, kb, X, hv => by
    obtain ⟨⟨d, m⟩, e1, e2⟩ := Option.bind_eq_some_iff.mp e
    obtain ⟨c, e3, e4⟩ := Option.bind_eq_some_iff.mp e2
    simp at e4
    subst e4
    refine ⟨fun Q h => ?_, fun Q h => ?_⟩
    · show wpAny _ _ (compareChain pos v [op] [eval x env]) _ _ _
      rw [compareChain_one]
      refine wpAny_bind (wpAny_holding (H x (List.mem_cons_self ..) sc ρ d m e1 A E s env P _ R kb X fun u s₁ P₁ k₁ w₁ y₁ x₁ => wpAny_bind (wpAny_standAt ?_)))
      exact wpAny_operating (cmp_sound (R.less (Nat.zero_le _)) y₁.at_ (hv _ k₁ _ y₁) x₁.hold e3 (post_then k₁ w₁ y₁ h))
    · show wpAny _ _ (testChain pos v [op] [eval x env]) _ _ _
      rw [testChain_one]
      refine wpAny_bind (wpAny_holding (H x (List.mem_cons_self ..) sc ρ d m e1 A E s env P _ R kb X fun u s₁ P₁ k₁ w₁ y₁ x₁ => wpAny_bind (wpAny_standAt ?_)))
      refine wpAny_bind (wpAny_operating (cmp_sound (R.less (Nat.zero_le _)) y₁.at_ (hv _ k₁ _ y₁) x₁.hold e3 fun c' s₂ P₂ k₂ w₂ y₂ x₂ => ?_))
      have hc := x₂.hold.bool
      subst hc
      exact wpAny_holding (wpAny_truthy_bool (h s₂ P₂ (k₁.trans k₂) (w₁.trans w₂) (y₁.trans k₁ y₂)))
  | [x], op :: op' :: ops, H, a, sc, ρ, b, e, A, E, s, env, P, pos, v, R, kb, X, hv => by
    obtain ⟨⟨d, m⟩, e1, e2⟩ := Option.bind_eq_some_iff.mp e
    obtain ⟨c, e3, e4⟩ := Option.bind_eq_some_iff.mp e2
    simp at e4
  | x :: x' :: r, [op], H, a, sc, ρ, b, e, A, E, s, env, P, pos, v, R, kb, X, hv => by
    obtain ⟨⟨d, m⟩, e1, e2⟩ := Option.bind_eq_some_iff.mp e
    obtain ⟨c, e3, e4⟩ := Option.bind_eq_some_iff.mp e2
    simp at e4
  | x :: x' :: r, op :: op' :: ops, H, a, sc, ρ, b, e, A, E, s, env, P, pos, v, R, kb, X, hv => by
    obtain ⟨⟨d, m⟩, e1, e2⟩ := Option.bind_eq_some_iff.mp e
    obtain ⟨c, e3, e4⟩ := Option.bind_eq_some_iff.mp e2
    simp only [List.isEmpty_cons, Bool.false_eq_true, and_self, or_self, if_false] at e4
    have go : ∀ (u : Value) (s₁ : Shared) (P₁ : Vis) (s₂ : Shared) (P₂ : Vis), Sub s.heap s₁.heap → SameW s s₁ → PExt P s.heap P₁ s₁.heap → Val prog w s.heap P₁ s₁.heap u d m → Sub s₁.heap s₂.heap → SameW s₁ s₂ → PExt P₁ s₁.heap P₂ s₂.heap →
        evC cx d (op' :: ops) (x' :: r) sc ρ = some b → _ := fun u s₁ P₁ s₂ P₂ k₁ w₁ y₁ x₁ k₂ w₂ y₂ e5 =>
      evC_sound (x' :: r) (op' :: ops) (fun e he => H e (List.mem_cons_of_mem _ he)) d sc ρ b e5 A E s₂ env P₂ pos u R (kb.trans (k₁.trans k₂)) (X.step (k₁.trans k₂) (y₁.trans k₁ y₂))
        (fun h' k' P' y' => (x₁.keeps (k₂.trans k') (y₂.trans k₂ y')).hold)
    refine ⟨fun Q h => ?_, fun Q h => ?_⟩
    · show wpAny _ _ (compareChain pos v (op :: op' :: ops) (eval x env :: eval x' env :: evalEach r env)) _ _ _
      rw [compareChain_more]
      refine wpAny_bind (wpAny_holding (H x (List.mem_cons_self ..) sc ρ d m e1 A E s env P _ R kb X fun u s₁ P₁ k₁ w₁ y₁ x₁ => wpAny_bind (wpAny_standAt ?_)))
      refine wpAny_bind (wpAny_holding (cmp_sound (R.less (Nat.zero_le _)) y₁.at_ (hv _ k₁ _ y₁) x₁.hold e3 fun c' s₂ P₂ k₂ w₂ y₂ x₂ => ?_))
      have hc := x₂.hold.bool
      subst hc
      refine wpAny_bind (wpAny_release (wpAny_bind (wpAny_holding (wpAny_truthy_bool ?_))))
      cases c with
      | true => rw [if_pos rfl] at e4 ⊢; exact (go u s₁ P₁ s₂ P₂ k₁ w₁ y₁ x₁ k₂ w₂ y₂ e4).1 Q (post_then (k₁.trans k₂) (w₁.trans w₂) (y₁.trans k₁ y₂) h)
      | false => rw [if_neg Bool.false_ne_true] at e4 ⊢; cases e4; exact wpAny_pure (h _ s₂ P₂ (k₁.trans k₂) (w₁.trans w₂) (y₁.trans k₁ y₂) (.bool _))
    · show wpAny _ _ (testChain pos v (op :: op' :: ops) (eval x env :: eval x' env :: evalEach r env)) _ _ _
      rw [testChain_more]
      refine wpAny_bind (wpAny_holding (H x (List.mem_cons_self ..) sc ρ d m e1 A E s env P _ R kb X fun u s₁ P₁ k₁ w₁ y₁ x₁ => wpAny_bind (wpAny_standAt ?_)))
      refine wpAny_bind (wpAny_holding (cmp_sound (R.less (Nat.zero_le _)) y₁.at_ (hv _ k₁ _ y₁) x₁.hold e3 fun c' s₂ P₂ k₂ w₂ y₂ x₂ => ?_))
      have hc := x₂.hold.bool
      subst hc
      refine wpAny_bind (wpAny_release (wpAny_bind (wpAny_holding (wpAny_truthy_bool ?_))))
      cases c with
      | true => rw [if_pos rfl] at e4 ⊢; exact (go u s₁ P₁ s₂ P₂ k₁ w₁ y₁ x₁ k₂ w₂ y₂ e4).2 Q (postB_then (k₁.trans k₂) (w₁.trans w₂) (y₁.trans k₁ y₂) h)
      | false => rw [if_neg Bool.false_ne_true] at e4 ⊢; cases e4; exact wpAny_pure (h s₂ P₂ (k₁.trans k₂) (w₁.trans w₂) (y₁.trans k₁ y₂))
end
end
end Mine

namespace Mine
section
variable {prog : Program} {w : World} {A : Around} {E : Value → Shared → Prop} {s : Shared} {P : Vis}

structure Iter (prog : Program) (w : World) (A : Around) (tg : Expr → Bool) (it : Value) (fp wr : List Addr) (ds : List D) (P₀ : Vis) (St : Nat → Heap → Prop) : Prop where
  sub : ∀ b ∈ wr, b ∈ fp
  live : ∀ i h, St i h → ∀ b ∈ fp, ∃ o, h.get? b = some o
  frame : ∀ i h h', St i h → (∀ b ∈ fp, ∀ o, h.get? b = some o → h'.get? b = some o) → St i h'
  item : ∀ (t : Expr) (i : Nat) (d : D) (s : Shared) (P : Vis) (Q : Value → Shared → Prop) (E : Value → Shared → Prop), tg t = true → ds[i]? = some d → (∀ a o, P₀ a o → P a o) → PIn P s.heap → (∀ a o, P a o → a ∉ wr) → St i s.heap →
    (∀ v h' tk P', PExt P s.heap P' h' → Rep prog w P' v d → St (i + 1) h' → (∀ b o, b ∉ wr → s.heap.get? b = some o → h'.get? b = some o) → Q v { s with heap := h', toks := tk }) →
    wpAny (model prog w) A (pyNext it) (fun r s₁ => ∃ v, r = some v ∧ wpAny (model prog w) A (letOwnedTupleGo t it v) (fun _ s₂ => Q v s₂) E s₁) E s
  done : ∀ (s : Shared) (Q : Shared → Prop) (E : Value → Shared → Prop), St ds.length s.heap → (∀ h' tk, (∀ b o, b ∉ wr → s.heap.get? b = some o → h'.get? b = some o) → Q { s with heap := h', toks := tk }) →
    wpAny (model prog w) A (pyNext it) (fun r s₁ => r = none ∧ Q s₁) E s
  self : ∀ (i : Nat) (s : Shared) (Q : Value → Shared → Prop) (E : Value → Shared → Prop), St i s.heap → Q it s → wpAny (model prog w) A (pyIter it) Q E s

theorem owned_none {t : Expr} {I : Addr} {v : Value} {o : Obj} {T : String} {Q : Unit → Shared → Prop} (ht : tgtOk t = true) (ho : s.heap.get? I = some o) (hc : o.cls = .type T)
    (hT : (["enumerate", "zip", "dict_itemiterator", "dict_reverseitemiterator", "odict_iterator", "itertools.zip_longest", "itertools.pairwise"].contains T) = false) (hQ : Q () s) :
    wpAny (model prog w) A (letOwnedTupleGo t (.ref I) v) Q E s := by
  cases t <;> first | exact ff ht | skip
  · exact wpAny_pure hQ
  · cases v <;> first | exact wpAny_pure hQ | skip
    unfold letOwnedTupleGo
    refine wpAny_bind (wpAny_load ho ?_)
    rw [hc]
    cases o.data <;> first | exact wpAny_pure hQ | skip
    dsimp only
    rw [if_neg (by rw [hT, Bool.false_and]; exact Bool.false_ne_true)]
    exact wpAny_pure hQ

theorem not_of_wr {P P' : Vis} {h h' : Heap} {wr : List Addr} (a : ∀ a o, P a o → a ∉ wr) (l : ∀ b ∈ wr, ∃ o, h.get? b = some o) (y : PExt P h P' h') : ∀ a o, P' a o → a ∉ wr := fun b o e m =>
  (y.new b o e).elim (fun q => a b o q m) fun q => by obtain ⟨o', ho⟩ := l b m; rw [ho] at q; cases q

theorem Iter.list (hh : A.handled = none) {P₀ : Vis} {I l : Addr} (hne : l ≠ I) {vs : List Value} {ds : List D} {n : Nat} (r : Reps prog w P₀ vs ds) :
    Iter prog w A tgtOk (.ref I) [I, l] [I] ds P₀ (fun i h => h.IsListIter I l i ∧ h.get? l = some (lstO vs n)) where
  sub := fun b hb => by simp at hb; simp [hb]
  live := fun i h st b hb => by
    simp at hb
    rcases hb with rfl | rfl
    · obtain ⟨o, ho, _⟩ := st.1; exact ⟨o, ho⟩
    · exact ⟨_, st.2⟩
  frame := fun _ _ _ st hk => ⟨st.1.at fun o e => hk I (by simp) o e, hk l (by simp) _ st.2⟩
  item := fun t i d s P Q E ht hd hP hp hw st hQ => by
    obtain ⟨v, e1, rv⟩ := r.get_toArray hd
    refine wpAny_pyNext_list_item st.1 (isList_of st.2) e1 fun h' hit' hs' => ⟨v, rfl, ?_⟩
    obtain ⟨o, ho, hc, hdd⟩ := id hit'
    refine owned_none (s := { s with heap := h' }) ht ho hc (by decide) ?_
    exact hQ v h' s.toks P ⟨fun _ _ e => e, fun a o e => hs'.extBut a o (fun q => hw a o e (by simp [q])) (hp a o e), fun _ _ e => .inl e⟩ (rv.mono hP)
      ⟨hit', hs'.extBut l _ hne st.2⟩ fun b o hb e => hs'.extBut b o (fun q => hb (by simp [q])) e
  done := fun s Q E st hQ => wpAny_pyNext_list_end hh st.1 (isList_of st.2) (by rw [List.getElem?_toArray, List.getElem?_eq_none_iff]; exact Nat.le_of_eq r.length) fun h' he' => ⟨rfl, hQ h' s.toks fun b o hb e => he' b o (fun q => hb (by simp [q])) e⟩
  self := fun _ _ _ _ st hQ => wpAny_pyIter_listiter st.1 hQ

theorem Iter.range (hh : A.handled = none) {P₀ : Vis} {I : Addr} (n : Nat) :
    Iter prog w A tgtOk (.ref I) [I] [I] ((List.range n).map fun (i : Nat) => D.int i) P₀ (fun i h => IsRangeIter h I (i : Int) ((n : Int) - i) 1) where
  sub := fun b hb => hb
  live := fun i h st b hb => by simp at hb; subst hb; exact ⟨_, st⟩
  frame := fun _ _ _ st hk => hk I (by simp) _ st
  item := fun t i d s P Q E ht hd hP hp hw st hQ => by
    have hi : i < n := by
      have := List.getElem?_eq_some_iff.mp hd
      obtain ⟨a, _⟩ := this
      simpa using a
    have ed : d = .int i := by
      rw [List.getElem?_map, List.getElem?_range hi] at hd
      cases hd; rfl
    subst ed
    refine wpAny_pyNext_range_item st (by (first | lia | omega)) fun h' hit' hs' => ⟨_, rfl, ?_⟩
    refine owned_none (s := { s with heap := h', toks := s.toks + 1 }) ht hit' rfl (by decide) ?_
    refine hQ _ h' _ P ⟨fun _ _ e => e, fun a o e => hs'.extBut a o (fun q => hw a o e (by simp [q])) (hp a o e), fun _ _ e => .inl e⟩ (.int _ _) ?_ fun b o hb e => hs'.extBut b o (fun q => hb (by simp [q])) e
    have e2 : (n : Int) - ((i + 1 : Nat) : Int) = (n : Int) - (i : Int) - 1 := by push_cast; (first | lia | omega)
    rw [e2]; exact hit'
  done := fun s Q E st hQ => wpAny_pyNext_range_end hh st (by simp) fun h' he' => ⟨rfl, hQ h' s.toks fun b o hb e => he' b o (fun q => hb (by simp [q])) e⟩
  self := fun _ _ _ _ st hQ => wpAny_pyIter_rangeiter st hQ

theorem tup_of {t : Expr} (h : tgtTup t = true) : ∃ elts k pos, t = .Tuple elts k pos := by
  cases t <;> first | exact ff h | exact ⟨_, _, _, rfl⟩
theorem enumD_get : ∀ (ds : List D) (n i : Nat), (enumD n ds)[i]? = (ds[i]?).map fun x => .tup [.int ((n + i : Nat) : Int), x]
  | [], _, _ => by simp [enumD]
  | d :: r, n, 0 => by simp [enumD]
  | d :: r, n, i + 1 => by
    have := enumD_get r (n + 1) i
    simp only [enumD, List.getElem?_cons_succ, this]
    rw [show n + 1 + i = n + (i + 1) by (first | lia | omega)]
theorem enumD_length : ∀ (ds : List D) (n : Nat), (enumD n ds).length = ds.length
  | [], _ => rfl
  | d :: r, n => by simp [enumD, enumD_length r]

theorem Iter.enum (hh : A.handled = none) {P₀ : Vis} {e I l : Addr} (h1 : l ≠ I) (h2 : l ≠ e) (h3 : e ≠ I) {vs : List Value} {ds : List D} {n : Nat} (r : Reps prog w P₀ vs ds) :
    Iter prog w A tgtTup (.ref e) [e, I, l] [e, I] (enumD 0 ds) P₀ (fun i h => (∃ old, IsEnum h e I i old) ∧ h.IsListIter I l i ∧ h.get? l = some (lstO vs n)) where
  sub := fun b hb => by simp at hb; rcases hb with rfl | rfl <;> simp
  live := fun i h st b hb => by
    simp at hb
    rcases hb with rfl | rfl | rfl
    · obtain ⟨old, ho⟩ := st.1; exact ⟨_, ho⟩
    · obtain ⟨o, ho, _⟩ := st.2.1; exact ⟨o, ho⟩
    · exact ⟨_, st.2.2⟩
  frame := fun _ _ _ st hk => ⟨let ⟨old, ho⟩ := st.1; ⟨old, hk e (by simp) _ ho⟩, st.2.1.at fun o q => hk I (by simp) o q, hk l (by simp) _ st.2.2⟩
  item := fun t i d s P Q E ht hd hP hp hw st hQ => by
    obtain ⟨elts, k, pos, rfl⟩ := tup_of ht
    rw [enumD_get] at hd
    obtain ⟨x, hx, rfl⟩ := Option.map_eq_some_iff.mp hd
    obtain ⟨⟨old, he⟩, hit, hl⟩ := st
    obtain ⟨v, e1, rv⟩ := r.get_toArray hx
    refine wpAny_pyNext_enum_item he hit (isList_of hl) e1 h3 fun h' ho' hit' hT' hz hk => ⟨_, rfl, ?_⟩
    refine wpAny_letOwnedTupleGo_enum (s := { s with heap := h', toks := s.toks + 1 }) ho' fun h'' he'' hs'' => ?_
    have eT : e ≠ s.heap.objs.size := Nat.ne_of_lt (Heap.lt_size he)
    have hT'' : h''.get? s.heap.objs.size = some { cls := .type "tuple", data := .seq #[.int i s.toks, v] } := hs''.extBut _ _ (Ne.symm eT) hT'
    have keep : ∀ b o, b ∉ [e, I] → s.heap.get? b = some o → h''.get? b = some o := fun b o hb q => by
      simp at hb
      exact hs''.extBut b o hb.1 (hk b o hb.1 hb.2 q)
    refine hQ _ h'' _ (PAdd P s.heap.objs.size { cls := .type "tuple", data := .seq #[.int i s.toks, v] }) ?_ ?_ ⟨⟨v, he''⟩, hit'.at fun o q => hs''.extBut I o (Ne.symm h3) q, hs''.extBut l _ h2 (hk l _ h2 h1 hl)⟩ keep
    · exact PExt.add ⟨fun _ _ q => q, fun a o q => keep a o (hw a o q) (hp a o q), fun _ _ q => .inl q⟩ (Heap.get?_none_of_le (Nat.le_refl _)) hT''
    · rw [Nat.zero_add]
      exact .tup (vs := [.int i s.toks, v]) (.inr ⟨rfl, rfl⟩) rfl rfl (.cons (.int _ _) (.cons (rv.mono fun a o q => .inl (hP a o q)) .nil))
  done := fun s Q E st hQ => by
    obtain ⟨⟨old, he⟩, hit, hl⟩ := st
    rw [enumD_length] at he hit
    exact wpAny_pyNext_enum_end hh he hit (isList_of hl) (by rw [List.getElem?_toArray, List.getElem?_eq_none_iff]; exact Nat.le_of_eq r.length) fun h' he' => ⟨rfl, hQ h' s.toks fun b o hb q => he' b o (fun z => hb (by simp [z])) q⟩
  self := fun _ _ _ _ st hQ => let ⟨_, he⟩ := st.1; wpAny_pyIter_enum he hQ

theorem entry_itemiter_iter : entryFor table "dict_itemiterator.__iter__" = some Builtin.«dict_keyiterator.__iter__» :=
  entryFor_alias (id' := "dict_keyiterator.__iter__") (by kernel_rfl) (by first | rfl | decide +kernel | (unfold String.splitOn; simp +decide [String.splitOnAux])) (by decide +kernel) (by kernel_rfl)
theorem wpAny_pyIter_itemiter {it d : Addr} {i n ep : Nat} {ok ov : Value} {Q : Value → Shared → Prop} (hit : IsItemIter s.heap it d i n ep ok ov) (h : Q (.ref it) s) : wpAny (model prog w) A (pyIter (.ref it)) Q E s := by
  have hT : s.TypeIs (.ref it) "dict_itemiterator" := ⟨_, hit, rfl⟩
  refine wpAny_pyIter_slot hT F.slot_dict_itemiterator_iter (wpAny_call_entry F.slot_dict_itemiterator_iter hT entry_itemiter_iter ?_ (F.args_dict_itemiterator_iter_1 _))
  show wpAny _ _ (ret (.ref it)) _ _ s
  exact wpAny_pure ⟨_, rfl, "dict_itemiterator", _, hT, F.slot_dict_itemiterator_next.lookup, h⟩

theorem RepK.get {kvs : List (Int × Value)} {ds : List (Int × D)} {i : Nat} {k : Int} {d : D} (x : RepK prog w P kvs ds) (q : ds[i]? = some (k, d)) : ∃ v, kvs[i]? = some (k, v) ∧ Rep prog w P v d := by
  induction ds generalizing kvs i with
  | nil => cases q
  | cons d' ds ih =>
    obtain ⟨v, us, rfl, a, r⟩ := x.consI
    cases i with
    | zero => cases q; exact ⟨v, rfl, a⟩
    | succ i => have z := ih (i := i) r q; exact z
theorem RepK.length {kvs : List (Int × Value)} {ds : List (Int × D)} (x : RepK prog w P kvs ds) : kvs.length = ds.length := by
  have := congrArg List.length x.keys
  rwa [List.length_map, List.length_map] at this

theorem Iter.items (hh : A.handled = none) {P₀ : Vis} {I a : Addr} (h1 : a ≠ I) {ep : Nat} {kvs : List (Int × Value)} {ds : List (Int × D)} (r : RepK prog w P₀ kvs ds) :
    Iter prog w A tgtTup (.ref I) [I, a] [I] (ds.map fun e => D.tup [.int e.1, e.2]) P₀ (fun i h => (∃ ok ov, IsItemIter h I a i kvs.length ep ok ov) ∧ h.DictAt (intKind prog w) a kvs ep) where
  sub := fun b hb => by simp at hb; simp [hb]
  live := fun i h st b hb => by
    simp at hb
    rcases hb with rfl | rfl
    · obtain ⟨_, _, ho⟩ := st.1; exact ⟨_, ho⟩
    · obtain ⟨o, _, ho, _⟩ := st.2; exact ⟨o, ho⟩
  frame := fun _ _ _ st hk => ⟨let ⟨ok, ov, ho⟩ := st.1; ⟨ok, ov, hk I (by simp) _ ho⟩, let ⟨o, es, ho, q⟩ := st.2; ⟨o, es, hk a (by simp) _ ho, q⟩⟩
  item := fun t i d s P Q E ht hd hP hp hw st hQ => by
    obtain ⟨elts, k, pos, rfl⟩ := tup_of ht
    rw [List.getElem?_map] at hd
    obtain ⟨⟨kk, x⟩, hx, rfl⟩ := Option.map_eq_some_iff.mp hd
    obtain ⟨⟨ok, ov, he⟩, hm⟩ := st
    obtain ⟨v, e1, rv⟩ := r.get hx
    refine wpAny_pyNext_items_item he hm e1 fun key h' hkey ho' hT' hz hk => ⟨_, rfl, ?_⟩
    refine wpAny_letOwnedTupleGo_items (s := { s with heap := h' }) ho' fun h'' he'' hs'' => ?_
    have eT : I ≠ s.heap.objs.size := Nat.ne_of_lt (Heap.lt_size he)
    have hT'' : h''.get? s.heap.objs.size = some { cls := .type "tuple", data := .seq #[key, v] } := hs''.extBut _ _ (Ne.symm eT) hT'
    have keep : ∀ b o, b ∉ [I] → s.heap.get? b = some o → h''.get? b = some o := fun b o hb q => by
      simp at hb
      exact hs''.extBut b o hb (hk b o hb q)
    obtain ⟨tk, rfl⟩ := Value.isInt_shape (show Value.isInt kk key = true from hkey)
    refine hQ _ h'' s.toks (PAdd P s.heap.objs.size { cls := .type "tuple", data := .seq #[.int kk tk, v] }) ?_ ?_ ⟨⟨_, _, he''⟩, let ⟨o, es, ho, q⟩ := hm; ⟨o, es, hs''.extBut a _ h1 (hk a _ h1 ho), q⟩⟩ keep
    · exact PExt.add ⟨fun _ _ q => q, fun a o q => keep a o (hw a o q) (hp a o q), fun _ _ q => .inl q⟩ (Heap.get?_none_of_le (Nat.le_refl _)) hT''
    · exact .tup (vs := [.int kk tk, v]) (.inr ⟨rfl, rfl⟩) rfl rfl (.cons (.int _ _) (.cons (rv.mono fun a o q => .inl (hP a o q)) .nil))
  done := fun s Q E st hQ => by
    obtain ⟨⟨ok, ov, he⟩, hm⟩ := st
    rw [List.length_map] at he
    exact wpAny_pyNext_items_end hh he hm (by rw [List.getElem?_eq_none_iff]; exact Nat.le_of_eq r.length) fun h' he' => ⟨rfl, hQ h' s.toks fun b o hb q => he' b o (fun z => hb (by simp [z])) q⟩
  self := fun _ _ _ _ st hQ => let ⟨_, _, he⟩ := st.1; wpAny_pyIter_itemiter he hQ

set_option tactic.hygienic true in
theorem iter_sound {t : Expr} {v : Value} {d : D} {ds : List D} {Q : Value → Shared → Prop} (hh : A.handled = none) (p : PIn P s.heap) (hv : Rep prog w P v d) (ht : tgtOk t = true) (e : iterItems t d = some ds)
    (hQ : ∀ it h' tg fp wr St, Sub s.heap h' → (∀ b ∈ wr, s.heap.get? b = none) → (∀ b ∈ fp, b ∈ wr ∨ ∃ o, P b o) → tg t = true → Iter prog w A tg it fp wr ds P St → St 0 h' → Q it { s with heap := h' }) :
    wpAny (model prog w) A (pyIter v) Q E s := by
  rcases iterItems_inv e with ⟨rfl, hz0⟩ | ⟨a, b, rfl, hz, rfl⟩ | ⟨es, rfl, hz, rfl⟩
  · obtain ⟨l, n, us, rfl, a, r⟩ := hv.listI
    have hl := p _ _ a
    refine wpAny_pyIter_list (isList_of hl) (hQ _ _ _ [s.heap.objs.size, _] [s.heap.objs.size] _ (Sub.push _ _) (fun b hb => by simp at hb; subst hb; exact Heap.get?_none_of_le (Nat.le_refl _)) (fun b hb => ?_) ht
      (Iter.list hh (Nat.ne_of_lt (Heap.lt_size hl)) r) ⟨⟨_, Heap.get?_push_size _ rfl, rfl, rfl⟩, Heap.get?_push_of_some _ hl⟩)
    simp at hb
    rcases hb with rfl | rfl
    · exact .inl (by simp)
    · exact .inr ⟨_, a⟩
  · obtain ⟨rfl, hz⟩ := hz
    cases hv with | rng a =>
    have hr := p _ _ a
    have hs : Builtin.Range.rangeSize 0 b 1 = (b.toNat : Int) := by
      unfold Builtin.Range.rangeSize
      rw [if_pos (by decide)]
      split <;> simp <;> (first | lia | omega)
    have hsm : Builtin.Range.small 0 b 1 = true := by
      unfold Builtin.Range.small
      rw [hs]
      simp [Builtin.Range.rangeFitsLong]
      (first | lia | omega)
    refine wpAny_pyIter_range hr hsm ?_
    rw [hs]
    refine hQ _ _ _ [s.heap.objs.size] [s.heap.objs.size] _ (Sub.push _ _) (fun b hb => by simp at hb; subst hb; exact Heap.get?_none_of_le (Nat.le_refl _)) (fun b hb => .inl hb) ht (Iter.range hh b.toNat) ?_
    have := Heap.get?_push_size s.heap (o := { cls := .type "range_iterator", data := .fields #[rawInt 0, rawInt (b.toNat : Int), rawInt 1] }) rfl
    simpa using this
  · cases hv with | itm x z a b c f g k r =>
    rename_i n kvs
    have hd := p _ _ a
    have hD : s.heap.DictAt (intKind prog w) _ kvs n := ⟨_, _, hd, b, c, f, g, k⟩
    refine wpAny_pyIter_items (knd := intKind prog w) ⟨_, p _ _ x, rfl, rfl⟩ hD (hQ _ _ _ [s.heap.objs.size, _] [s.heap.objs.size] _ (Sub.push _ _) (fun b hb => by simp at hb; subst hb; exact Heap.get?_none_of_le (Nat.le_refl _)) (fun b hb => ?_) hz.1
      (Iter.items (ep := n) hh (Nat.ne_of_lt (Heap.lt_size hd)) r) ⟨⟨_, _, Heap.get?_push_size _ rfl⟩, ⟨_, _, Heap.get?_push_of_some _ hd, b, c, f, g, k⟩⟩)
    simp at hb
    rcases hb with rfl | rfl
    · exact .inl (by simp)
    · exact .inr ⟨_, a⟩
end
end Mine

namespace Mine

theorem Rho.get_set (x y : Str) (r : D × Mode) : ∀ ρ : Rho, (ρ.set x r).get y = if y = x then some r else ρ.get y
  | [] => by simp [Rho.set, Rho.get]
  | (z, q) :: l => by
    unfold Rho.set
    by_cases h : x = z
    · subst h
      rw [if_pos rfl]
      simp only [Rho.get]
      by_cases h2 : y = x <;> simp [h2]
    · rw [if_neg h]
      simp only [Rho.get]
      rw [Rho.get_set x y r l]
      by_cases h2 : y = z
      · subst h2; simp [Ne.symm h]
      · simp [h2]

structure FrameSt (prog : Program) (w : World) (sc : Scope) (env : Env) (h₀ : Heap) (P₀ : Vis) (W : Addr → Prop) (ρ : Rho) (P : Vis) (h : Heap) : Prop where
  est : EnvSt prog w sc env ρ P h
  base : Sub h₀ h
  pup : ∀ a o, P₀ a o → P a o
  pnew : ∀ a o, P a o → P₀ a o ∨ h₀.get? a = none
  wnew : ∀ a, W a → h₀.get? a = none
  wdom : ∀ a, W a → ∃ o, h.get? a = some o
  pw : ∀ a o, P a o → ¬ W a
  loc : W env.locals
  ns : ∃ mm, h.Ns env.locals mm
  lk : ∀ x, sc.names.lookup x = some .local → env.kindOf x = some .local
  ck : ∀ x, sc.names.lookup x = some .cell → env.kindOf x = some .cell ∧ ∃ c, env.cells.lookup x = some c ∧ W c ∧ ∃ v, h.IsCell c v
  cl : ∀ x c, env.cells.lookup x = some c → c ≠ env.locals
  ca : ∀ x y c, sc.names.lookup x = some .cell → env.cells.lookup x = some c → env.cells.lookup y = some c → y = x
  cx : ∀ x c, env.cells.lookup x = some c → W c ∨ ∃ o, h₀.get? c = some o
  own : ∀ x d a, ρ.get x = some (d, .bor) → VarIs env h x (.ref a) → W a ∧ a ≠ env.locals ∧ ∀ y c, env.cells.lookup y = some c → sc.names.lookup y = some .cell → a ≠ c
  apart : ∀ x y a d d', x ≠ y → ρ.get x = some (d, .bor) → ρ.get y = some (d', .bor) → VarIs env h x (.ref a) → ¬ VarIs env h y (.ref a)

theorem ns_fun {h : Heap} {a : Addr} {m m' : Str → Option Value} (x : h.Ns a m) (y : h.Ns a m') (n : Str) : m n = m' n := by
  obtain ⟨o, es, ep, ho, hd, _, hf⟩ := x
  obtain ⟨o', es', ep', ho', hd', _, hf'⟩ := y
  rw [ho] at ho'; cases ho'
  rw [hd] at hd'; cases hd'
  rw [← hf, ← hf']
theorem varIs_fun {env : Env} {h : Heap} {x : Str} {u v : Value} (a : VarIs env h x u) (b : VarIs env h x v) : u = v := by
  rcases a with ⟨k, m, n, e⟩ | ⟨k, c, lc, o, ho, hd⟩ <;> rcases b with ⟨k', m', n', e'⟩ | ⟨k', c', lc', o', ho', hd'⟩
  · rw [ns_fun n n' x, e'] at e; exact (Option.some.inj e).symm
  · rcases k' with k' | ⟨k', _⟩ <;> rw [k] at k' <;> cases k'
  · rcases k with k | ⟨k, _⟩ <;> rw [k'] at k <;> cases k
  · rw [lc] at lc'; cases lc'
    rw [ho] at ho'; cases ho'
    rw [hd] at hd'; cases hd'; rfl

section
variable {prog : Program} {w : World} {A : Around} {E : Value → Shared → Prop} {s : Shared} {sc : Scope} {env : Env} {h₀ : Heap} {P₀ P : Vis} {W : Addr → Prop} {ρ : Rho}

theorem val_off {h₁ h h' : Heap} {P' : Vis} {wr : List Addr} {v : Value} {d : D} {m : Mode} (hm : m ≠ .fre) (k : ∀ b o, b ∉ wr → h.get? b = some o → h'.get? b = some o) (y : PExt P h P' h') (hb : m = .bor → ∀ a, v = .ref a → a ∉ wr)
    (x : Val prog w h₁ P h v d m) : Val prog w h₁ P' h' v d m := by
  cases m with
  | fro => exact Rep.mono y.up x
  | fre => exact absurd rfl hm
  | bor =>
    obtain ⟨a, o, e, z, e1, q, p1, p2, r⟩ := x
    exact ⟨a, o, e, z, k _ _ (hb rfl a e) e1, fun o' hq => (y.new a o' hq).elim (q o') (fun c => by rw [e1] at c; cases c), p1, p2, r.mono y.up⟩

theorem FrameSt.off {P' : Vis} {h h' : Heap} {wr : List Addr} (F : FrameSt prog w sc env h₀ P₀ W ρ P h) (k : ∀ b o, b ∉ wr → h.get? b = some o → h'.get? b = some o) (y : PExt P h P' h') (h0 : ∀ b ∈ wr, h₀.get? b = none) (hw : ∀ b ∈ wr, ¬ W b) :
    FrameSt prog w sc env h₀ P₀ W ρ P' h' := by
  have loc : env.locals ∉ wr := fun q => hw _ q F.loc
  have cel : ∀ x c, env.cells.lookup x = some c → c ∉ wr := fun x c e q => (F.cx x c e).elim (hw c q) fun ⟨o, z⟩ => by rw [h0 c q] at z; cases z
  have var : ∀ x v, VarIs env h x v → VarIs env h' x v := fun x v z => by
    rcases z with ⟨a, mm, ⟨o, es, ep, ho, r⟩, c⟩ | ⟨a, c, b, o, d, e⟩
    · exact .inl ⟨a, mm, ⟨o, es, ep, k _ _ loc ho, r⟩, c⟩
    · exact .inr ⟨a, c, b, o, k _ _ (cel x c b) d, e⟩
  have bor : ∀ x d a, ρ.get x = some (d, .bor) → VarIs env h x (.ref a) → a ∉ wr := fun x d a e z q => hw a q (F.own x d a e z).1
  exact {
    est := { F.est with
      vars := fun n d m e => by
        obtain ⟨a, v, b, c⟩ := F.est.vars n d m e
        refine ⟨a, v, var _ _ b, (val_off (h₁ := h') a k y (fun hb a' e' => ?_) (c.base a))⟩
        subst hb e'
        exact bor n d a' e b
      pin := y.at_ }
    base := fun b o e => k b o (fun q => by rw [h0 b q] at e; cases e) (F.base b o e)
    pup := fun a o e => y.up _ _ (F.pup a o e)
    pnew := fun a o e => (y.new a o e).elim (F.pnew a o) fun q => .inr (F.base.none q)
    wnew := F.wnew
    wdom := fun a e => let ⟨o, q⟩ := F.wdom a e; ⟨o, k _ _ (fun z => hw a z e) q⟩
    pw := fun a o e z => (y.new a o e).elim (fun q => F.pw a o q z) fun q => by obtain ⟨o', r⟩ := F.wdom a z; rw [r] at q; cases q
    loc := F.loc
    ns := let ⟨m, o, es, ep, ho, r⟩ := F.ns; ⟨m, o, es, ep, k _ _ loc ho, r⟩
    lk := F.lk
    ck := fun x e => let ⟨a, c, b, d, v, o, e1, e2⟩ := F.ck x e; ⟨a, c, b, d, v, o, k _ _ (cel x c b) e1, e2⟩
    cl := F.cl
    ca := F.ca
    cx := F.cx
    own := fun x d a e z => by
      obtain ⟨_, v, b, _⟩ := F.est.vars x d .bor e
      have q := varIs_fun (var _ _ b) z
      subst q
      exact F.own x d a e b
    apart := fun x y' a d d' hn e e' z z' => by
      obtain ⟨_, v, b, _⟩ := F.est.vars x d .bor e
      have q := varIs_fun (var _ _ b) z
      subst q
      obtain ⟨_, v', b', _⟩ := F.est.vars y' d' .bor e'
      have q' := varIs_fun (var _ _ b') z'
      subst q'
      exact F.apart x y' a d d' hn e e' b b' }
theorem FrameSt.step {P' : Vis} {h h' : Heap} (F : FrameSt prog w sc env h₀ P₀ W ρ P h) (k : Sub h h') (y : PExt P h P' h') : FrameSt prog w sc env h₀ P₀ W ρ P' h' :=
  F.off (wr := []) (fun b o _ e => k b o e) y (fun b q => nomatch q) fun b q => nomatch q

theorem FrameSt.congr {ρ' : Rho} {h : Heap} (F : FrameSt prog w sc env h₀ P₀ W ρ P h) (e : ∀ x, ρ'.get x = ρ.get x) : FrameSt prog w sc env h₀ P₀ W ρ' P h :=
  { F with
    est := { F.est with vars := fun x d m q => F.est.vars x d m (e x ▸ q) }
    own := fun x d a q => F.own x d a (e x ▸ q)
    apart := fun x y a d d' n q q' => F.apart x y a d d' n (e x ▸ q) (e y ▸ q') }

noncomputable def Chg (W : Addr → Prop) (h h' : Heap) : Prop := ∀ b o, h.get? b = some o → ¬ W b → h'.get? b = some o

theorem store_raw {x : Str} {v : Value} {Q : Unit → Shared → Prop} (F : FrameSt prog w sc env h₀ P₀ W ρ P s.heap) (hx : sc.names.lookup x = some .local ∨ sc.names.lookup x = some .cell)
    (h : ∀ h' tk c, W c → (c = env.locals ∨ ∃ y, env.cells.lookup y = some c ∧ sc.names.lookup y = some .cell) → Heap.SameBut c s.heap h' → VarIs env h' x v → (∀ y u, y ≠ x → VarIs env s.heap y u → VarIs env h' y u) → (∃ mm, h'.Ns env.locals mm) →
      (∀ y, sc.names.lookup y = some .cell → ∃ c, env.cells.lookup y = some c ∧ ∃ v, h'.IsCell c v) → Q () { s with heap := h', toks := tk }) :
    wpAny (model prog w) A (storeName env x v) Q E s := by
  have hk := F.est.kind
  rcases hx with hx | hx
  · have lk := F.lk x hx
    obtain ⟨m, hn⟩ := F.ns
    refine wpAny_storeName_local lk hn (fun h' hn' hs => ?_) (by rw [hk]; rfl)
    refine h h' _ env.locals F.loc (.inl rfl) hs (.inl ⟨lk, _, hn', by simp⟩) (fun y u hy z => ?_) ⟨_, hn'⟩ (fun y hy => ?_)
    · rcases z with ⟨k, m', n', e⟩ | ⟨k, c, lc, o, ho, hd⟩
      · refine .inl ⟨k, _, hn', ?_⟩
        simp only [if_neg hy]
        rw [ns_fun hn n' y]; exact e
      · exact .inr ⟨k, c, lc, o, (hs.2 c (F.cl y c lc)).trans ho, hd⟩
    · obtain ⟨_, c, lc, _, v', o, ho, hd⟩ := F.ck y hy
      exact ⟨c, lc, v', o, (hs.2 c (F.cl y c lc)).trans ho, hd⟩
  · obtain ⟨ck, c, lc, wc, v₀, hc⟩ := F.ck x hx
    refine wpAny_storeName_cell hk ck lc hc fun h' hc' hs => ?_
    obtain ⟨m, hn⟩ := F.ns
    have hcl := F.cl x c lc
    refine h h' s.toks c wc (.inr ⟨x, lc, hx⟩) hs (.inr ⟨.inl ck, c, lc, hc'⟩) (fun y u hy z => ?_) ⟨m, hn.sameBut hs (Ne.symm hcl)⟩ (fun y hy => ?_)
    · rcases z with ⟨k, m', n', e⟩ | ⟨k, c', lc', o, ho, hd⟩
      · exact .inl ⟨k, m', n'.sameBut hs (Ne.symm hcl), e⟩
      · exact .inr ⟨k, c', lc', o, (hs.2 c' fun q => hy (F.ca x y c hx lc (q ▸ lc'))).trans ho, hd⟩
    · obtain ⟨_, c', lc', _, v', o, ho, hd⟩ := F.ck y hy
      by_cases q : c' = c
      · subst q; exact ⟨c', lc', _, hc'⟩
      · exact ⟨c', lc', v', o, (hs.2 c' q).trans ho, hd⟩

theorem val_at {h₁ h h' : Heap} {c : Addr} {v : Value} {d : D} {m : Mode} (hs : Heap.SameBut c h h') (hm : m ≠ .fre) (hc : m = .bor → ∀ a, v = .ref a → a ≠ c) (x : Val prog w h₁ P h v d m) : Val prog w h₁ P h' v d m := by
  cases m with
  | fro => exact x
  | fre => exact absurd rfl hm
  | bor => obtain ⟨a, o, e, z, e1, q⟩ := x; exact ⟨a, o, e, z, (hs.2 a (hc rfl a e)).trans e1, q⟩

theorem FrameSt.stored {x : Str} {v : Value} {d : D} {own : Bool} {W' : Addr → Prop} {h' : Heap} {c : Addr} (F : FrameSt prog w sc env h₀ P₀ W ρ P s.heap) (hx : sc.names.lookup x = some .local ∨ sc.names.lookup x = some .cell)
    (wc : W c) (hcc : c = env.locals ∨ ∃ y, env.cells.lookup y = some c ∧ sc.names.lookup y = some .cell) (hs : Heap.SameBut c s.heap h') (z : VarIs env h' x v) (zz : ∀ y u, y ≠ x → VarIs env s.heap y u → VarIs env h' y u) (hn : ∃ mm, h'.Ns env.locals mm)
    (hcl : ∀ y, sc.names.lookup y = some .cell → ∃ c, env.cells.lookup y = some c ∧ ∃ v, h'.IsCell c v)
    (hW : ∀ a, W' a ↔ (W a ∨ (own = true ∧ v = .ref a)))
    (hv : Val prog w s.heap P s.heap v d (if own then .bor else .fro)) (hv' : own = true → ∀ a, v = .ref a → ¬ W a) (hv0 : own = true → ∀ a, v = .ref a → h₀.get? a = none) :
    FrameSt prog w sc env h₀ P₀ W' (ρ.set x (d, if own then .bor else .fro)) P h' where
  est := { F.est with
    vars := fun y d' m e => by
      rw [Rho.get_set] at e
      by_cases hy : y = x
      · subst hy
        rw [if_pos rfl] at e
        cases e
        refine ⟨by cases own <;> simp, v, z, ?_⟩
        refine val_at (h₁ := h') hs (by cases own <;> simp) (fun hb a ea q => ?_) (hv.base (by cases own <;> simp))
        cases own with
        | false => cases hb
        | true => exact hv' rfl a ea (q ▸ wc)
      · rw [if_neg hy] at e
        obtain ⟨hm, u, zu, vu⟩ := F.est.vars y d' m e
        refine ⟨hm, u, zz y u hy zu, ?_⟩
        refine val_at (h₁ := h') hs hm (fun hb a ea q => ?_) (vu.base hm)
        subst hb ea q
        obtain ⟨_, q1, q2⟩ := F.own y d' a e zu
        rcases hcc with rfl | ⟨y', lc', sy'⟩
        · exact q1 rfl
        · exact q2 y' a lc' sy' rfl
    pin := fun a o e => (hs.2 a fun q => F.pw a o e (q ▸ wc)).trans (F.est.pin a o e) }
  base := fun b o e => (hs.2 b fun q => by rw [q] at e; rw [F.wnew c wc] at e; cases e).trans (F.base b o e)
  pup := F.pup
  pnew := F.pnew
  wnew := fun a e => (hW a).mp e |>.elim (F.wnew a) fun q => hv0 q.1 a q.2
  wdom := fun a e => by
    have : ∃ o, s.heap.get? a = some o := (hW a).mp e |>.elim (F.wdom a) fun q => by
      obtain ⟨q1, q2⟩ := q
      subst q1
      obtain ⟨a', o, e1, _, e2, _⟩ := hv
      rw [q2] at e1; cases e1; exact ⟨o, e2⟩
    by_cases q : a = c
    · subst q
      rcases hcc with rfl | ⟨y', lc', sy'⟩
      · obtain ⟨_, o, _, _, ho, _⟩ := hn; exact ⟨o, ho⟩
      · obtain ⟨c', lc'', v', o, ho, _⟩ := hcl y' sy'
        rw [lc'] at lc''; cases lc''; exact ⟨o, ho⟩
    · obtain ⟨o, ho⟩ := this; exact ⟨o, (hs.2 a q).trans ho⟩
  pw := fun a o e zW => (hW a).mp zW |>.elim (F.pw a o e) fun q => by
    obtain ⟨q1, q2⟩ := q
    subst q1
    obtain ⟨a', o', e1, _, _, e2, _⟩ := hv
    rw [q2] at e1; cases e1; exact e2 o e
  loc := (hW _).mpr (.inl F.loc)
  ns := hn
  lk := F.lk
  ck := fun y e => by
    obtain ⟨k, c', lc, wc', _⟩ := F.ck y e
    obtain ⟨c'', lc'', v', q⟩ := hcl y e
    rw [lc] at lc''; cases lc''
    exact ⟨k, c', lc, (hW _).mpr (.inl wc'), v', q⟩
  cl := F.cl
  ca := F.ca
  cx := fun x c e => (F.cx x c e).elim (fun q => .inl ((hW c).mpr (.inl q))) .inr
  own := fun y d' a e z' => by
    rw [Rho.get_set] at e
    by_cases hy : y = x
    · subst hy
      rw [if_pos rfl] at e
      cases own with
      | false => cases e
      | true =>
        have q := varIs_fun z z'
        have nw := hv' rfl a q
        exact ⟨(hW a).mpr (.inr ⟨rfl, q⟩), fun q' => nw (q' ▸ F.loc), fun y' c' lc' sy' q' => by
          obtain ⟨_, c'', lc'', wc'', _⟩ := F.ck y' sy'
          rw [lc'] at lc''; cases lc''
          exact nw (q' ▸ wc'')⟩
    · rw [if_neg hy] at e
      obtain ⟨_, u, zu, _⟩ := F.est.vars y d' .bor e
      have q := varIs_fun (zz y u hy zu) z'
      subst q
      obtain ⟨q1, q2⟩ := F.own y d' a e zu
      exact ⟨(hW a).mpr (.inl q1), q2⟩
  apart := fun y y' a d₁ d₂ hn' e e' z₁ z₂ => by
    rw [Rho.get_set] at e e'
    have old : ∀ y d', y ≠ x → ρ.get y = some (d', .bor) → VarIs env h' y (.ref a) → VarIs env s.heap y (.ref a) := fun y d' hy e z' => by
      obtain ⟨_, u, zu, _⟩ := F.est.vars y d' .bor e
      have q := varIs_fun (zz y u hy zu) z'
      subst q
      exact zu
    have new : own = true → VarIs env h' x (.ref a) → ¬ W a := fun ho z' => hv' ho a (varIs_fun z z')
    by_cases hy : y = x
    · subst hy
      rw [if_pos rfl] at e
      rw [if_neg (Ne.symm hn')] at e'
      cases own with
      | false => cases e
      | true => exact new rfl z₁ (F.own y' d₂ a e' (old y' d₂ (Ne.symm hn') e' z₂)).1
    · rw [if_neg hy] at e
      by_cases hy' : y' = x
      · subst hy'
        rw [if_pos rfl] at e'
        cases own with
        | false => cases e'
        | true => exact new rfl z₂ (F.own y d₁ a e (old y d₁ hy e z₁)).1
      · rw [if_neg hy'] at e'
        exact F.apart y y' a d₁ d₂ hn' e e' (old y d₁ hy e z₁) (old y' d₂ hy' e' z₂)
end
end Mine

namespace Mine
section
variable {prog : Program} {w : World} {A : Around} {E : Value → Shared → Prop} {s : Shared} {sc : Scope} {env : Env} {h₀ : Heap} {P₀ P : Vis} {W : Addr → Prop} {ρ : Rho}

theorem Chg.of_same {c : Addr} {h h' : Heap} (wc : W c) (hs : Heap.SameBut c h h') : Chg W h h' := fun b o e nb => (hs.2 b fun q => nb (q ▸ wc)).trans e
theorem Chg.of_sub {h h' : Heap} (k : Sub h h') : Chg W h h' := fun b o e _ => k b o e
theorem Chg.trans {h h' h'' : Heap} (x : Chg W h h') (y : Chg W h' h'') : Chg W h h'' := fun b o e nb => y b o (x b o e nb) nb

theorem store_fro {x : Str} {v : Value} {d : D} {Q : Unit → Shared → Prop} (F : FrameSt prog w sc env h₀ P₀ W ρ P s.heap) (hx : sc.names.lookup x = some .local ∨ sc.names.lookup x = some .cell) (hv : Rep prog w P v d)
    (h : ∀ h' tk, FrameSt prog w sc env h₀ P₀ W (ρ.set x (d, .fro)) P h' → Chg W s.heap h' → Q () { s with heap := h', toks := tk }) : wpAny (model prog w) A (storeName env x v) Q E s :=
  store_raw F hx fun h' tk c wc hcc hs z zz hn hcl => h h' tk (F.stored (own := false) (W' := W) hx wc hcc hs z zz hn hcl (fun a => by simp) hv (fun q => nomatch q) fun q => nomatch q) (Chg.of_same wc hs)

theorem store_own {x : Str} {a : Addr} {d : D} {Q : Unit → Shared → Prop} (F : FrameSt prog w sc env h₀ P₀ W ρ P s.heap) (hx : sc.names.lookup x = some .local ∨ sc.names.lookup x = some .cell) (hv : Val prog w s.heap P s.heap (.ref a) d .bor)
    (nw : ¬ W a) (n0 : h₀.get? a = none)
    (h : ∀ h' tk, FrameSt prog w sc env h₀ P₀ (fun b => W b ∨ b = a) (ρ.set x (d, .bor)) P h' → Chg W s.heap h' → Q () { s with heap := h', toks := tk }) : wpAny (model prog w) A (storeName env x (.ref a)) Q E s :=
  store_raw F hx fun h' tk c wc hcc hs z zz hn hcl => h h' tk (F.stored (own := true) (W' := fun b => W b ∨ b = a) hx wc hcc hs z zz hn hcl (fun b => by simp [eq_comm]) hv (fun _ b q => by cases q; exact nw) fun _ b q => by cases q; exact n0) (Chg.of_same wc hs)

theorem assignEach_names : ∀ (elts : List Expr) (ns : List Str), namesOf elts = some ns → (assignEach elts env).findIdx? (·.1) = none ∧ (assignEach elts env).length = ns.length
  | [], ns, e => by cases e; exact ⟨rfl, rfl⟩
  | e0 :: r, ns, e => by
    obtain ⟨x, px, l, rfl, e1, rfl⟩ := namesOf_inv e
    · skip
      obtain ⟨a, b⟩ := assignEach_names r l e1
      constructor
      · show ((false, assign (.Name _ _) env) :: assignEach r env).findIdx? (·.1) = none
        rw [List.findIdx?_cons, a]; rfl
      · show (assignEach r env).length + 1 = _
        rw [b]; rfl

theorem setB_cons (x : Str) (d : D) (b : List (Str × D)) (ρ : Rho) : setB ((x, d) :: b) ρ = setB b (ρ.set x (d, .fro)) := rfl

theorem assign_names : ∀ (elts : List Expr) (ns : List Str) (vs : List Value) (ds : List D), namesOf elts = some ns → (∀ x ∈ ns, sc.names.lookup x = some .local ∨ sc.names.lookup x = some .cell) → ns.length = ds.length →
    ∀ (s : Shared) (ρ : Rho) (Q : Unit → Shared → Prop), FrameSt prog w sc env h₀ P₀ W ρ P s.heap → Reps prog w P vs ds → (∀ h' tk, FrameSt prog w sc env h₀ P₀ W (setB (ns.zip ds) ρ) P h' → Chg W s.heap h' → Q () { s with heap := h', toks := tk }) →
    wpAny (model prog w) A (assignInOrder ((assignEach elts env).map (·.2)) vs) Q E s
  | [], ns, vs, ds, e, _, hl, s, ρ, Q, F, r, h => by
    cases e
    cases ds <;> first | (simp at hl; done) | skip
    cases r
    exact wpAny_pure (h s.heap s.toks F fun _ _ q _ => q)
  | e0 :: rr, ns, vs, ds, e, hk, hl, s, ρ, Q, F, r, h => by
    obtain ⟨x, px, l, rfl, e1, rfl⟩ := namesOf_inv e
    · skip
      cases r with
      | nil => simp at hl
      | cons r1 r2 =>
      show wpAny _ _ (do holding _ (assign (.Name x px) env _); assignInOrder ((assignEach rr env).map (·.2)) _) _ _ _
      refine wpAny_bind (wpAny_holding (wpAny_assign_Name (store_fro F (hk x (by simp)) r1 fun h' tk F' c' => ?_)))
      refine assign_names rr l _ _ e1 (fun y hy => hk y (List.mem_cons_of_mem _ hy)) (by simpa using hl) _ _ Q F' r2 fun h'' tk' F'' c'' => ?_
      exact h h'' tk' F'' (c'.trans c'')

theorem assign_sound {t : Expr} {v : Value} {d : D} {b : List (Str × D)} {Q : Unit → Shared → Prop} (hh : A.handled = none) (F : FrameSt prog w sc env h₀ P₀ W ρ P s.heap) (hv : Rep prog w P v d) (ht : namesVar sc t = true) (e : bindT t d = some b)
    (h : ∀ h' tk, FrameSt prog w sc env h₀ P₀ W (setB b ρ) P h' → Chg W s.heap h' → Q () { s with heap := h', toks := tk }) : wpAny (model prog w) A (assign t env v) Q E s := by
  rcases bindT_inv e with ⟨x, px, rfl, rfl⟩ | ⟨elts, k, pos, ds, ns, rfl, rfl, e1, hn, rfl⟩
  · exact wpAny_assign_Name (store_fro F (nvN ht) hv h)
  · skip
    replace ht := nvT e1 ht
    obtain ⟨a, vs, hv1, hT, r⟩ := (show Hold prog w P s.heap v (.tup ds) from .inl hv).tup F.est.pin
    subst hv1
    obtain ⟨f1, f2⟩ := assignEach_names (env := env) elts ns e1
    show wpAny _ _ (do standAt pos; unpack (.ref a) (assignEach elts env)) _ _ _
    refine wpAny_bind (wpAny_standAt (wpAny_unpack_tuple hh hT (by rw [f2, hn.1, ← r.length]; simp) f1 fun h' hx => ?_))
    have k' : Sub s.heap h' := fun b o q => hx b o (Nat.ne_of_lt (Heap.lt_size q)) q
    refine assign_names elts ns vs ds e1 ht hn.1 { s with heap := h' } ρ Q (F.step k' (PExt.stay F.est.pin k')) r fun h'' tk F' c' => ?_
    exact h h'' tk F' ((Chg.of_sub k').trans c')
end
end Mine

namespace Mine
section
variable {prog : Program} {w : World} {cx : Cx} {lv : Nat} {hb : Heap}

theorem load_var {A : Around} {E : Value → Shared → Prop} {s : Shared} {env : Env} {x : Str} {v : Value} {Q : Value → Shared → Prop} {M : Model} (hk : env.scope.kind = .function) (z : VarIs env s.heap x v) (h : Q v s) : wpAny M A (loadName env x) Q E s := by
  rcases z with ⟨a, mm, b, c⟩ | ⟨a | ⟨a, n⟩, c, b, d⟩
  · exact wpAny_loadName_local hk a b c h
  · exact wpAny_loadName_cell hk a b d h
  · exact wpAny_loadName_free hk a b d h (beq_eq_false_iff_ne.mpr n)

theorem Rep.of_false {P : Vis} {v : Value} {d : D} (x : Rep prog w (fun _ _ => False) v d) : Rep prog w P v d := x.mono fun _ _ e => e.elim

theorem constD_sound {c : Const} {k : Nat} {pos : Pos} : ESound prog w cx lv hb (.Constant c k pos) := by
  intro sc ρ d m e A E s env P Q R kb X h
  obtain ⟨d', e1, e2⟩ := Option.map_eq_some_iff.mp (eConst.symm.trans e)
  cases e2
  cases c <;> first | exact nno e1 | cases e1
  · exact wpAny_Constant_none (post_same (tk := s.toks) X.pin h .none)
  · exact wpAny_Constant_bool (post_bool' X.pin h)
  · exact wpAny_Constant_int (post_int X.pin h)
  · exact wpAny_Constant_str (post_same X.pin h (.str _ _))

set_option tactic.hygienic true in
theorem name_sound (Wl : Wld prog w cx lv hb) {x : Str} {pos : Pos} : ESound prog w cx lv hb (.Name x pos) := by
  intro sc ρ d m e A E s env P Q R kb X h
  replace e := eName.symm.trans e
  split at e
  · cases e
  · rename_i hx
    split at e
    · rename_i r hr
      cases e
      obtain ⟨hm, v, z, y⟩ := X.vars x d m hr
      exact wpAny_Name (load_var X.kind z (h v s P (Sub.refl _) (SameW.refl _) (PExt.refl X.pin) y)) (beq_eq_false_iff_ne.mpr hx)
    · split at e
      · rename_i hr hg
        obtain ⟨d', e1, e2⟩ := Option.map_eq_some_iff.mp e
        cases e2
        obtain ⟨v, L, r⟩ := Wl.con x d e1
        exact L A E s env pos Q X.kind X.glb X.blt (X.imp x hg) kb hx (h v s P (Sub.refl _) (SameW.refl _) (PExt.refl X.pin) r.of_false)
      · cases e

theorem boolop_sound {op : BoolOp} {vs : List Expr} {pos : Pos} (H : ∀ e ∈ vs, ESound prog w cx lv hb e) : ESound prog w cx lv hb (.BoolOp op vs pos) := by
  intro sc ρ d m e A E s env P Q R kb X h
  obtain ⟨b, e1, e2⟩ := Option.map_eq_some_iff.mp (eBo.symm.trans e)
  cases e2
  exact evB_sound op vs H sc ρ b e1 A E s env P pos Q R kb X h

theorem binop_snd (Wl : Wld prog w cx lv hb) {l r : Expr} {op : Operator} {pos : Pos} (H1 : ESound prog w cx lv hb l) (H2 : ESound prog w cx lv hb r) : ESound prog w cx lv hb (.BinOp l op r pos) := by
  intro sc ρ d m e A E s env P Q R kb X h
  replace e := eBin.symm.trans e
  obtain ⟨⟨a, m1⟩, e1, e⟩ := Option.bind_eq_some_iff.mp e
  obtain ⟨⟨b, m2⟩, e2, e⟩ := Option.bind_eq_some_iff.mp e
  refine wpAny_BinOp (H1 sc ρ a m1 e1 A E s env P _ R kb X fun v s₁ P₁ k₁ w₁ y₁ x₁ => ?_)
  refine H2 sc ρ b m2 e2 A E s₁ env P₁ _ R (kb.trans k₁) (X.step k₁ y₁) fun u s₂ P₂ k₂ w₂ y₂ x₂ => ?_
  exact binop_sound y₂.at_ (Wl.big.keeps (kb.trans (k₁.trans k₂))).lt (k₁.trans k₂) (x₁.keeps k₂ y₂) x₂.hold e (post_then (k₁.trans k₂) (w₁.trans w₂) (y₁.trans k₁ y₂) h)

theorem unop_snd {x : Expr} {op : UnaryOp} {pos : Pos} (H1 : ESound prog w cx lv hb x) : ESound prog w cx lv hb (.UnaryOp op x pos) := by
  intro sc ρ d m e A E s env P Q R kb X h
  replace e := eUn.symm.trans e
  obtain ⟨⟨a, m1⟩, e1, e⟩ := Option.bind_eq_some_iff.mp e
  obtain ⟨d', e2, e3⟩ := Option.map_eq_some_iff.mp e
  cases e3
  refine wpAny_UnaryOp (H1 sc ρ a m1 e1 A E s env P _ R kb X fun v s₁ P₁ k₁ w₁ y₁ x₁ => ?_)
  exact unop_sound y₁.at_ x₁.hold e2 (post_then k₁ w₁ y₁ h)

theorem ifexp_sound {t b o : Expr} {pos : Pos} (H0 : TSound prog w cx lv hb t) (H1 : ESound prog w cx lv hb b) (H2 : ESound prog w cx lv hb o) : ESound prog w cx lv hb (.IfExp t b o pos) := by
  intro sc ρ d m e A E s env P Q R kb X h
  replace e := eIf.symm.trans e
  obtain ⟨c, e1, e⟩ := Option.bind_eq_some_iff.mp e
  refine wpAny_IfExp (H0 sc ρ c e1 A E s env P _ R kb X fun s₁ P₁ k₁ w₁ y₁ => ?_)
  cases c with
  | true => rw [if_pos rfl] at e ⊢; exact H1 sc ρ d m e A E s₁ env P₁ Q R (kb.trans k₁) (X.step k₁ y₁) (post_then k₁ w₁ y₁ h)
  | false => rw [if_neg Bool.false_ne_true] at e ⊢; exact H2 sc ρ d m e A E s₁ env P₁ Q R (kb.trans k₁) (X.step k₁ y₁) (post_then k₁ w₁ y₁ h)

theorem evs_length : ∀ (es : List Expr) {sc : Scope} {ρ : Rho} {ds : List D}, evs cx es sc ρ = some ds → ds.length = es.length
  | [], _, _, _, e => by cases e; rfl
  | x :: r, sc, ρ, ds, e => by
    replace e := sCons.symm.trans e
    obtain ⟨⟨d, m⟩, e1, e2⟩ := Option.bind_eq_some_iff.mp e
    split at e2
    · cases e2
    · obtain ⟨ds', e3, rfl⟩ := Option.map_eq_some_iff.mp e2
      rw [List.length_cons, List.length_cons, evs_length r e3]

set_option tactic.hygienic true in
theorem list_sound (Wl : Wld prog w cx lv hb) {elts : List Expr} {pos : Pos} (H : ∀ e ∈ elts, ESound prog w cx lv hb e) : ESound prog w cx lv hb (.List elts pos) := by
  intro sc ρ d m e A E s env P Q R kb X h
  replace e := eList.symm.trans e
  first | (replace e := iteS e; obtain ⟨hf, e⟩ := e) | (replace e := iteN e; obtain ⟨hf, e⟩ := e) | ((split at e <;> first | (exact nno e) | skip); (rename_i hf))
  obtain ⟨ds, e1, e2⟩ := Option.map_eq_some_iff.mp e
  cases e2
  refine wpAny_List (evs_sound elts H (few_plain hf) sc ρ ds e1 A E s env P pos _ R kb X fun vs s₁ P₁ k₁ w₁ y₁ r₁ => ⟨?_, ?_⟩)
  · rw [r₁.length, evs_length _ e1, sizeLine_eq]; have := few_len hf; (first | lia | omega)
  · exact post_list (s := s₁) (tk := s₁.toks) y₁.at_ (Wl.big.keeps (kb.trans k₁)).lt r₁ (post_then k₁ w₁ y₁ h)

set_option tactic.hygienic true in
theorem tuple_sound {elts : List Expr} {k : Nat} {pos : Pos} (H : ∀ e ∈ elts, ESound prog w cx lv hb e) : ESound prog w cx lv hb (.Tuple elts k pos) := by
  intro sc ρ d m e A E s env P Q R kb X h
  replace e := eTup.symm.trans e
  first | (replace e := iteS e; obtain ⟨hf, e⟩ := e) | (replace e := iteN e; obtain ⟨hf, e⟩ := e) | ((split at e <;> first | (exact nno e) | skip); (rename_i hf))
  obtain ⟨ds, e1, e2⟩ := Option.map_eq_some_iff.mp e
  cases e2
  refine wpAny_Tuple (evs_sound elts H (few_plain hf) sc ρ ds e1 A E s env P pos _ R kb X fun vs s₁ P₁ k₁ w₁ y₁ r₁ => ⟨?_, ?_⟩)
  · rw [r₁.length, evs_length _ e1, sizeLine_eq]; have := few_len hf; (first | lia | omega)
  · refine h _ _ (PAdd P₁ _ _) (k₁.trans (Sub.push _ _)) ⟨w₁.1, w₁.2⟩ (y₁.trans k₁ ((PExt.stay y₁.at_ (Sub.push _ _)).add (Heap.get?_none_of_le (Nat.le_refl _)) (Heap.get?_push_size _ rfl))) ?_
    exact .tup (.inr ⟨rfl, rfl⟩) rfl rfl (r₁.mono fun _ _ e => .inl e)

theorem merged_nil {K : Type} [DecidableEq K] : ∀ (kvs acc : List (K × Value)), ((acc ++ kvs).map (·.1)).Nodup → merged acc kvs = acc ++ kvs
  | [], acc, _ => by simp [merged]
  | kv :: r, acc, h => by
    have e : stored acc kv.1 kv.2 = acc ++ [kv] := by
      unfold stored
      rw [if_neg]
      intro ha
      rw [List.any_eq_true] at ha
      obtain ⟨x, hx, hk⟩ := ha
      rw [List.map_append, List.nodup_append] at h
      exact h.2.2 x.1 (List.mem_map.mpr ⟨x, hx, rfl⟩) kv.1 (List.mem_map.mpr ⟨kv, List.mem_cons_self .., rfl⟩) (of_decide_eq_true hk)
    have := merged_nil r (acc ++ [kv]) (by simpa using h)
    unfold merged at this ⊢
    rw [List.foldl_cons, e, this]; simp

theorem pair_sound {P : Vis} {A : Around} {E : Value → Shared → Prop} {env : Env} {pos : Pos} : ∀ (keys : List (Option Expr)) (vals : List Expr) (ks vs : List Int), constKeys keys = some ks → constVals vals = some vs → ks.length = vs.length → ∀ (s : Shared) (Q : List (Value × Value) → Shared → Prop),
    (∀ us kvs tk, Carries (intKind prog w) us kvs → RepK prog w P kvs (ks.zip (vs.map .int)) → Q us { s with toks := tk }) → wpAny (model prog w) A (evalPairs (pairTrees keys vals env pos)) Q E s
  | [], vals, ks, vs, e1, e2, hl, s, Q, h => by
    cases e1
    cases vs with
    | cons => cases hl
    | nil =>
      have : vals = [] := by
        cases vals with
        | nil => rfl
        | cons v r =>
          obtain ⟨i, k, p, l, _, _, q⟩ := constVals_inv e2
          cases q
      subst this
      exact pairTrees_nil_walk (h [] [] s.toks trivial .nil)
  | k :: kr, vals, ks, vs, e1, e2, hl, s, Q, h => by
    obtain ⟨i, kd, kp, l, rfl, e3, rfl⟩ := constKeys_inv e1
    cases vals with
    | nil => cases e2; cases hl
    | cons v0 vr =>
        obtain ⟨j, jd, jp, l', rfl, e4, rfl⟩ := constVals_inv e2
        refine pairTrees_cons_walk (wpAny_Constant_int (wpAny_Constant_int ?_))
        refine pair_sound (P := P) kr vr l l' e3 e4 (by simpa using hl) _ _ fun us kvs tk c r => ?_
        exact h _ ((i, _) :: kvs) tk ⟨by simp [intKind, Value.isInt], rfl, c⟩ (.cons (.int _ _) r)

theorem constKeys_ok : ∀ {keys : List (Option Expr)} {ks : List Int}, constKeys keys = some ks → keys.all (·.isSome) = true ∧ keys.length = ks.length
  | [], ks, e => by cases e; exact ⟨rfl, rfl⟩
  | k :: r, ks, e => by
    obtain ⟨i, kd, kp, l, rfl, e3, rfl⟩ := constKeys_inv e
    obtain ⟨a, b⟩ := constKeys_ok e3
    exact ⟨a, congrArg (· + 1) b⟩
theorem constVals_len : ∀ {vals : List Expr} {vs : List Int}, constVals vals = some vs → vals.length = vs.length
  | [], ks, e => by cases e; rfl
  | k :: r, ks, e => by
    obtain ⟨i, kd, kp, l, rfl, e3, rfl⟩ := constVals_inv e
    exact congrArg (· + 1) (constVals_len e3)
set_option tactic.hygienic true in
theorem dict_sound (Wl : Wld prog w cx lv hb) {keys : List (Option Expr)} {vals : List Expr} {pos : Pos} : ESound prog w cx lv hb (.Dict keys vals pos) := by
  intro sc ρ d m e A E s env P Q R kb X h
  replace e := eDict.symm.trans e
  obtain ⟨ks, e1, e⟩ := Option.bind_eq_some_iff.mp e
  obtain ⟨vs, e2, e⟩ := Option.bind_eq_some_iff.mp e
  first | (replace e := iteS e; obtain ⟨hz, e⟩ := e) | (replace e := iteN e; obtain ⟨hz, e⟩ := e) | ((split at e <;> first | (exact nno e) | skip); (rename_i hz))
  obtain ⟨hl, h15, hn⟩ := hz
  cases e
  obtain ⟨a1, a2⟩ := constKeys_ok e1
  have a3 := constVals_len e2
  have hnone : s.heap.get? s.heap.objs.size = none := Heap.get?_none_of_le (Nat.le_refl _)
  have hbig := (Wl.big.keeps kb).lt
  have hzz : (s.heap.objs.size == sysModules) = false := beq_eq_false_iff_ne.mpr (Nat.ne_of_gt hbig)
  have hP : ∀ q, ¬ P s.heap.objs.size q := fun q hq => absurd (Heap.lt_size (X.pin _ _ hq)) (Nat.lt_irrefl _)
  cases keys with
  | nil =>
    cases e1
    cases vs with
    | cons => cases hl
    | nil =>
    cases vals with
    | cons => cases a3
    | nil =>
    refine wpAny_Dict_empty (h _ _ P (Sub.push _ _) ⟨rfl, rfl⟩ (PExt.stay X.pin (Sub.push _ _)) ?_)
    exact ⟨_, _, rfl, hzz, hnone, Heap.get?_push_size _ rfl, hP, rfl, rfl, ⟨rfl, rfl, rfl⟩, #[], 0, [], rfl, (by intro e he; simp at he), .nil, List.nodup_nil, .nil⟩
  | cons k0 kr =>
    refine wpAny_Dict_walk (knd := intKind prog w) a1 (by (first | lia | omega)) (by simp) (by (first | lia | omega)) ?_
    refine pair_sound (P := P) (k0 :: kr) vals ks vs e1 e2 hl _ _ fun us kvs tk c r => ?_
    have hmap : (kvs.map (·.1)) = ks := by
      rw [r.keys]
      exact List.map_fst_zip (by simp; (first | lia | omega))
    refine ⟨kvs, c, ?_, fun h' hd hs => ?_⟩
    · exact ⟨_, #[], 0, Heap.get?_push_size _ rfl, ⟨rfl, rfl, rfl⟩, rfl, (by intro e he; simp at he), .nil, List.nodup_nil⟩
    · rw [merged_nil kvs [] (by simpa [hmap] using hn)] at hd
      obtain ⟨o, es, ep, ho, hex, hdat, hko, hpr, hnd⟩ := hd
      have k' : Sub s.heap h' := fun b o' q => by
        have hne : b ≠ s.heap.objs.size := Nat.ne_of_lt (Heap.lt_size q)
        exact (hs.2 b hne).trans (Heap.get?_push_of_some _ q)
      refine h _ _ P k' ⟨rfl, rfl⟩ (PExt.stay X.pin k') ?_
      exact ⟨_, o, rfl, hzz, hnone, ho, hP, hex.2.1, hex.2.2, hex, es, ep, kvs, hdat, hko, by simpa using hpr, by simpa using hnd, r⟩

set_option tactic.hygienic true in
theorem compare_sound {l : Expr} {ops : List CmpOp} {rs : List Expr} {pos : Pos} (H0 : ESound prog w cx lv hb l) (H : ∀ e ∈ rs, ESound prog w cx lv hb e) :
    ESound prog w cx lv hb (.Compare l ops rs pos) ∧ TSound prog w cx lv hb (.Compare l ops rs pos) := by
  constructor
  · intro sc ρ d m e A E s env P Q R kb X h
    replace e := eCmp.symm.trans e
    first | (replace e := iteS e; obtain ⟨hm, e⟩ := e) | (replace e := iteN e; obtain ⟨hm, e⟩ := e) | ((split at e <;> first | (exact nno e) | skip); (rename_i hm))
    obtain ⟨⟨a, m1⟩, e1, e⟩ := Option.bind_eq_some_iff.mp e
    obtain ⟨b, e2, e3⟩ := Option.map_eq_some_iff.mp e
    cases e3
    show wpAny _ _ (do compareChain pos (← eval l env) ops (markedEach ops rs (evalEach rs env))) _ _ _
    rw [marked_eq ops rs _ hm]
    refine wpAny_bind (H0 sc ρ a m1 e1 A E s env P _ R kb X fun v s₁ P₁ k₁ w₁ y₁ x₁ => ?_)
    exact (evC_sound rs ops H a sc ρ b e2 A E s₁ env P₁ pos v R (kb.trans k₁) (X.step k₁ y₁) (fun h' k' P' y' => (x₁.keeps k' y').hold)).1 Q (post_then k₁ w₁ y₁ h)
  · intro sc ρ b e A E s env P Q R kb X h
    replace e := tCmp.symm.trans e
    first | (replace e := iteS e; obtain ⟨hm, e⟩ := e) | (replace e := iteN e; obtain ⟨hm, e⟩ := e) | ((split at e <;> first | (exact nno e) | skip); (rename_i hm))
    obtain ⟨⟨a, m1⟩, e1, e2⟩ := Option.bind_eq_some_iff.mp e
    show wpAny _ _ (do testChain pos (← eval l env) ops (markedEach ops rs (evalEach rs env))) _ _ _
    rw [marked_eq ops rs _ hm]
    refine wpAny_bind (H0 sc ρ a m1 e1 A E s env P _ R kb X fun v s₁ P₁ k₁ w₁ y₁ x₁ => ?_)
    exact (evC_sound rs ops H a sc ρ b e2 A E s₁ env P₁ pos v R (kb.trans k₁) (X.step k₁ y₁) (fun h' k' P' y' => (x₁.keeps k' y').hold)).2 Q (postB_then k₁ w₁ y₁ h)

theorem evalArgs_of {M : Model} {A : Around} {E : Value → Shared → Prop} {s : Shared} {f : Value} {args : List (Bool × Sem Value)} {Q : Args → Shared → Prop} (hp : args.any (·.1) = false)
    (h : wpAny M A (spliced args) (fun vs s' => Q ⟨vs, []⟩ s') E s) : wpAny M A (evalArgs f true args []) Q E s := by
  cases args with
  | nil =>
    unfold evalArgs
    show wpAny M A (spliced [] >>= _) Q E s
    refine wpAny_bind (wpAny_mono h (fun vs s₁ h₁ => wpAny_bind (wpAny_pure ?_)) fun _ _ x => x)
    refine wpAny_holding ?_
    exact wpAny_bind (wpAny_pure (wpAny_bind (wpAny_pure (wpAny_pure h₁))))
  | cons a r =>
    obtain ⟨b, x⟩ := a
    cases b with
    | true => simp at hp
    | false => exact evalArgs_plain h
end
end Mine

namespace Mine
section
variable {prog : Program} {w : World} {cx : Cx} {lv : Nat} {hb : Heap}

theorem LoadsAs.at {f : Str} {fv : Value} (L : LoadsAs prog w hb f fv) {A : Around} {E : Value → Shared → Prop} {s : Shared} {sc : Scope} {ρ : Rho} {P : Vis} {env : Env} {pos : Pos} {Q : Value → Shared → Prop}
    (X : EnvSt prog w sc env ρ P s.heap) (kb : Sub hb s.heap) (hg : sc.names.lookup f = some .globalImplicit) (hf : f ≠ ("__debug__" : Str)) (h : Q fv s) : wpAny (model prog w) A (eval (.Name f pos) env) Q E s :=
  L A E s env pos Q X.kind X.glb X.blt (X.imp f hg) kb hf h

set_option tactic.hygienic true in
theorem callD_sound (Wl : Wld prog w cx lv hb) {f : Str} {args : List Expr} {fp pos : Pos} {sc : Scope} {ρ : Rho} {d : D} {m : Mode} (H : ∀ e ∈ args, ESound prog w cx lv hb e) (hf : few args = true)
    (e : callD cx sc ρ f (evs cx args sc ρ) = some (d, m)) : ∀ A E s env P (Q : Value → Shared → Prop), Room A lv → Sub hb s.heap → EnvSt prog w sc env ρ P s.heap →
    Post prog w P s d m Q → wpAny (model prog w) A (eval (.Call (.Name f fp) args [] pos) env) Q E s := by
  intro A E s env P Q R kb X h
  unfold callD at e
  first | (replace e := iteS e; obtain ⟨hz, e⟩ := e) | (replace e := iteN e; obtain ⟨hz, e⟩ := e) | ((split at e <;> first | (exact nno e) | skip); (rename_i hz))
  obtain ⟨_, hg, hdb⟩ := hz
  obtain ⟨ds, e1, e2⟩ := Option.bind_eq_some_iff.mp e
  obtain ⟨⟨d', fr⟩, e3, e4⟩ := Option.map_eq_some_iff.mp e2
  cases e4
  obtain ⟨fv, L, C, S⟩ := Wl.fn f ds _ fr e3
  refine wpAny_Call_NameR (L.at X kb hg hdb ?_)
  have hp : (backTo pos (starEach args env)).any (·.1) = false := plain_any (few_plain hf)
  refine C A E s pos _ Q hp (evalArgs_of hp (evs_sound args H (few_plain hf) sc ρ ds e1 A E s env P pos _ R kb X fun vs s₁ P₁ k₁ w₁ y₁ r₁ => ⟨kb.trans k₁, ?_⟩))
  exact S A E s₁ P₁ vs Q R (kb.trans k₁) y₁.at_ r₁ (post_then k₁ w₁ y₁ h)

noncomputable def EnumListOk (prog : Program) (w : World) : Prop := ∀ (A : Around) (E : Value → Shared → Prop) (s : Shared) (P : Vis) (v : Value) (ds : List D) (Q : Value → Shared → Prop), A.handled = none → Big s.heap → PIn P s.heap → Rep prog w P v (.list ds) → ds.length ≤ 100000 →
  Post prog w P s (.list (enumD 0 ds)) .fre Q → wpAny (model prog w) A (call (.type "enumerate") [v]) (fun u s₁ => wpAny (model prog w) A (call (.type "list") [u]) Q E s₁) E s

theorem isEnum_of {g : Str} {sc : Scope} {ρ : Rho} (h : isEnum g sc ρ = true) : g = ("enumerate" : Str) ∧ sc.names.lookup g = some .globalImplicit := by
  unfold isEnum at h
  simp only [Bool.and_eq_true, beq_iff_eq] at h
  exact ⟨h.1.1, h.2⟩

set_option tactic.hygienic true in
theorem callE_sound (Wl : Wld prog w cx lv hb) (EL : EnumListOk prog w) {f : Str} {args : List Expr} {fp pos : Pos} {sc : Scope} {ρ : Rho} {d : D} {m : Mode}
    (H : ∀ f' fp' e' pos', args = [.Call (.Name f' fp') [e'] [] pos'] → ESound prog w cx lv hb e') (hf : few args = true) (hl : isLE f args sc ρ = true)
    (e : evE cx args sc ρ = some (d, m)) : ∀ A E s env P (Q : Value → Shared → Prop), Room A lv → Sub hb s.heap → EnvSt prog w sc env ρ P s.heap →
    Post prog w P s d m Q → wpAny (model prog w) A (eval (.Call (.Name f fp) args [] pos) env) Q E s := by
  intro A E s env P Q R kb X h
  unfold isLE at hl
  simp only [Bool.and_eq_true, beq_iff_eq] at hl
  obtain ⟨⟨⟨rfl, _⟩, hg⟩, hl⟩ := hl
  cases args with
  | nil => cases hl
  | cons a r =>
  replace hl := Bool.and_eq_true_iff.mp hl
  obtain ⟨hr, hl⟩ := hl
  have hr := isE hr
  subst hr
  cases hq : asCall1 a with
  | none => rw [hq] at hl; cases hl
  | some q =>
  rw [hq] at hl
  obtain ⟨g, e'⟩ := q
  obtain ⟨gp, gpos, rfl⟩ := asCall1_inv hq
  rw [Bool.and_eq_true] at hl
  obtain ⟨hl, hf2⟩ := hl
  obtain ⟨rfl, hg2⟩ := isEnum_of hl
  have He := H _ _ _ _ rfl
  replace e := evEOne.symm.trans e
  obtain ⟨⟨a, m1⟩, e1, e2⟩ := Option.bind_eq_some_iff.mp e
  dsimp only at e2
  first | (replace e2 := iteS e2; obtain ⟨ds, e2⟩ := e2) | (replace e2 := iteN e2; obtain ⟨ds, e2⟩ := e2) | ((split at e2 <;> first | (exact nno e2) | skip); (rename_i ds))
  first | (replace e2 := iteS e2; obtain ⟨hz, e2⟩ := e2) | (replace e2 := iteN e2; obtain ⟨hz, e2⟩ := e2) | ((split at e2 <;> first | (exact nno e2) | skip); (rename_i hz))
  cases e2
  have s1 : starEach [Expr.Call (.Name ("enumerate" : Str) gp) [e'] [] gpos] env = [(false, eval (Expr.Call (.Name ("enumerate" : Str) gp) [e'] [] gpos) env)] := rfl
  have hn : notStar e' = true := (plain_cons (few_plain hf2)).1
  refine wpAny_Call_NameR (Wl.lst.at X kb hg (by decide) ?_)
  refine PyProof.Rows.callWith_type rfl (evalArgs_of rfl ?_)
  refine wpAny_items_cons ?_ rfl
  refine wpAny_Call_NameR (Wl.enm.at X kb hg2 (by decide) ?_)
  have hp : (backTo gpos (starEach [e'] env)).any (·.1) = false := plain_any (few_plain hf2)
  refine PyProof.Rows.callWith_type hp (evalArgs_of hp (wpAny_items_cons (He sc ρ _ _ e1 A E s env P _ R kb X fun v s₁ P₁ k₁ w₁ y₁ x₁ => ?_) (star_cons hn)))
  refine wpAny_items_nil ?_
  refine wpAny_mono (EL A E s₁ P₁ v ds Q R.hd (Wl.big.keeps (kb.trans k₁)) y₁.at_ x₁ hz (post_then k₁ w₁ y₁ h)) (fun u s₂ h₂ => ?_) fun _ _ x => x
  exact wpAny_items_nil h₂

theorem base_eq {o : Expr} {nm : Str} {env : Env} {whole : Sem Value} (h : baseOk o = true) : attributeBase o nm env whole = whole := by
  cases o <;> first | rfl | exact ff h

set_option tactic.hygienic true in
theorem meth_sound (Wl : Wld prog w cx lv hb) {o : Expr} {nm : Str} {args : List Expr} {apos pos : Pos} (H0 : ESound prog w cx lv hb o) (H : ∀ e ∈ args, ESound prog w cx lv hb e) : ESound prog w cx lv hb (.Call (.Attribute o nm apos) args [] pos) := by
  intro sc ρ d m e A E s env P Q R kb X h
  replace e := eMeth.symm.trans e
  first | (replace e := iteS e; obtain ⟨hz, e⟩ := e) | (replace e := iteN e; obtain ⟨hz, e⟩ := e) | ((split at e <;> first | (exact nno e) | skip); (rename_i hz))
  obtain ⟨hf, hbk, hli⟩ := hz
  obtain ⟨⟨a, m1⟩, e1, e⟩ := Option.bind_eq_some_iff.mp e
  obtain ⟨ds, e2, e3⟩ := Option.bind_eq_some_iff.mp e
  have hp : (backTo pos (starEach args env)).any (·.1) = false := plain_any (few_plain hf)
  refine wpAny_Call_method_late (base_eq hbk) ?_ hli rfl (H0 sc ρ a m1 e1 A E s env P _ R kb X fun v s₁ P₁ k₁ w₁ y₁ x₁ => ?_)
  · have h1 : (backTo pos (starEach args env)).all (fun x => !x.1) = true := by
      rw [List.all_eq_not_any_not]; simpa using hp
    rw [h1]
    have := few_len hf
    have h2 : decide (args.length + ([] : List Keyword).length + (if ([] : List Keyword).isEmpty then 0 else 1) < 30) = true := by simp; (first | lia | omega)
    rw [h2]; rfl
  · obtain ⟨T, id, pa, sl, ty, hT, hd, C⟩ := meth_call (A := A) (E := E) y₁.at_ (Wl.big.keeps (kb.trans k₁)) x₁ e3
    refine ⟨T, id, pa, sl, ty, hT, hd, callWith_builtin hp (evalArgs_of hp ?_)⟩
    refine evs_sound args H (few_plain hf) sc ρ ds e2 A E s₁ env P₁ pos _ R (kb.trans k₁) (X.step k₁ y₁) fun vs s₂ P₂ k₂ w₂ y₂ r₂ => ?_
    exact C s₂ P₂ vs Q k₂ y₂ r₂ (post_then (k₁.trans k₂) (w₁.trans w₂) (y₁.trans k₁ y₂) h)

set_option tactic.hygienic true in
theorem attr_sound (Wl : Wld prog w cx lv hb) {o : Expr} {nm : Str} {pos : Pos} (H0 : ESound prog w cx lv hb o) : ESound prog w cx lv hb (.Attribute o nm pos) := by
  intro sc ρ d m e A E s env P Q R kb X h
  replace e := eAttr.symm.trans e
  first | (replace e := iteS e; obtain ⟨hbk, e⟩ := e) | (replace e := iteN e; obtain ⟨hbk, e⟩ := e) | ((split at e <;> first | (exact nno e) | skip); (rename_i hbk))
  obtain ⟨⟨a, m1⟩, e1, e⟩ := Option.bind_eq_some_iff.mp e
  dsimp only at e
  first | (replace e := iteS e; obtain ⟨hm, e⟩ := e) | (replace e := iteN e; obtain ⟨hm, e⟩ := e) | ((split at e <;> first | (exact nno e) | skip); (rename_i hm))
  subst hm
  obtain ⟨d', e2, e3⟩ := Option.map_eq_some_iff.mp e
  cases e3
  obtain ⟨C, fs, rfl, hfl, e2⟩ := field_inv e2
  refine Attribute_any_ (H0 sc ρ _ _ e1 A E s env P _ R kb X fun v s₁ P₁ k₁ w₁ y₁ x₁ => ?_) ?_
  · obtain ⟨_, _, _, _, rfl, a, b, r⟩ := Rep.objI x₁
    obtain ⟨u, g, ru⟩ := RepF.get r e2
    refine Wl.fld C nm hfl A E s₁ _ _ _ _ u Q (kb.trans k₁) (y₁.at_ _ _ a) (y₁.at_ _ _ b) g ru.handed ?_
    exact h u _ P₁ k₁ ⟨w₁.1, w₁.2⟩ y₁ ru
  · show (do let o' ← attributeBase o nm env (eval o env); standAt pos.atName; let r ← holding [o'] (getAttr o' nm true); letTemporaryGo o o' r; pure r) = _
    rw [base_eq hbk]

theorem slice_sound (Wl : Wld prog w cx lv hb) {v lo hi : Expr} {sp pos : Pos} (H0 : ESound prog w cx lv hb v) (H1 : ESound prog w cx lv hb lo) (H2 : ESound prog w cx lv hb hi) : ESound prog w cx lv hb (.Subscript v (.Slice (some lo) (some hi) none sp) pos) := by
  intro sc ρ d m e A E s env P Q R kb X h
  replace e := eSlice.symm.trans e
  obtain ⟨⟨a, m1⟩, e1, e⟩ := Option.bind_eq_some_iff.mp e
  obtain ⟨⟨i, m2⟩, e2, e⟩ := Option.bind_eq_some_iff.mp e
  obtain ⟨⟨j, m3⟩, e3, e⟩ := Option.bind_eq_some_iff.mp e
  obtain ⟨d', e4, e5⟩ := Option.map_eq_some_iff.mp e
  cases e5
  refine Subscript_ (H0 sc ρ a m1 e1 A E s env P _ R kb X fun u s₁ P₁ k₁ w₁ y₁ x₁ => wpAny_Slice ?_)
  rw [evalPart_some]
  refine H1 sc ρ i m2 e2 A E s₁ env P₁ _ R (kb.trans k₁) (X.step k₁ y₁) fun u2 s₂ P₂ k₂ w₂ y₂ x₂ => ?_
  rw [evalPart_some]
  refine H2 sc ρ j m3 e3 A E s₂ env P₂ _ R (kb.trans (k₁.trans k₂)) (X.step (k₁.trans k₂) (y₁.trans k₁ y₂)) fun u3 s₃ P₃ k₃ w₃ y₃ x₃ => ?_
  rw [evalPart_none]
  refine wpAny_pure ?_
  obtain ⟨x, t, l, u', rfl, rfl, rfl, hpost⟩ := cut_sound (value := v) y₃.at_ ((x₁.keeps k₂ y₂).keeps k₃ y₃).hold (x₂.keeps k₃ y₃).hold x₃.hold e4 (post_then (k₁.trans (k₂.trans k₃)) (w₁.trans (w₂.trans w₃)) (y₁.trans k₁ (y₂.trans k₂ y₃)) h)
  refine tail_any (ops := [.ref s₃.heap.objs.size, .str x t]) (typeIs_str _ x t) F.slot_str_getitem.lookup ?_ rfl
  exact wpAny_getItem_str_slice (l := l) (u := u') (st := none) ⟨_, Heap.get?_push_size _ rfl, rfl, rfl⟩ rfl hpost

set_option tactic.hygienic true in
theorem sub_sound (Wl : Wld prog w cx lv hb) {v sl : Expr} {pos : Pos} (hs : ∀ lo hi p, sl ≠ .Slice (some lo) (some hi) none p) (H0 : ESound prog w cx lv hb v) (H1 : ESound prog w cx lv hb sl) : ESound prog w cx lv hb (.Subscript v sl pos) := by
  intro sc ρ d m e A E s env P Q R kb X h
  replace e := (eSubG hs).symm.trans e
  first | (replace e := iteS e; obtain ⟨hsl, e⟩ := e) | (replace e := iteN e; obtain ⟨hsl, e⟩ := e) | ((split at e <;> first | (exact nno e) | skip); (rename_i hsl))
  obtain ⟨⟨a, m1⟩, e1, e⟩ := Option.bind_eq_some_iff.mp e
  obtain ⟨⟨i, m2⟩, e2, e⟩ := Option.bind_eq_some_iff.mp e
  obtain ⟨d', e3, e4⟩ := Option.map_eq_some_iff.mp e
  cases e4
  refine Subscript_ (H0 sc ρ a m1 e1 A E s env P _ R kb X fun u s₁ P₁ k₁ w₁ y₁ x₁ => ?_)
  refine H1 sc ρ i m2 e2 A E s₁ env P₁ _ R (kb.trans k₁) (X.step k₁ y₁) fun u2 s₂ P₂ k₂ w₂ y₂ x₂ => ?_
  exact item_sound y₂.at_ hsl (x₁.keeps k₂ y₂).hold x₂.hold e3 (post_then (k₁.trans k₂) (w₁.trans w₂) (y₁.trans k₁ y₂) h)

noncomputable def plainTest : Expr → Bool
  | .UnaryOp .. => false
  | .BoolOp .. => false
  | .IfExp .. => false
  | .Compare .. => false
  | _ => true
theorem tr_plain {e : Expr} {sc : Scope} {ρ : Rho} {r : Option (D × Mode)} (h : plainTest e = true) : tr cx e sc ρ r = r.bind fun a => truth a.1 := by
  cases e <;> first | rfl | exact ff h
theorem isTrue_plain {e : Expr} {env : Env} {whole : Sem Value} (hp : plainTest e = true) : isTrue e env whole = (do let v ← whole; standAt e.pos; holding [v] (truthy v)) := by
  cases e <;> first | rfl | exact ff hp
theorem tsound_plain {e : Expr} (hp : plainTest e = true) (H : ESound prog w cx lv hb e) : TSound prog w cx lv hb e := by
  intro sc ρ b e1 A E s env P Q R kb X h
  rw [tr_plain hp] at e1
  obtain ⟨⟨a, m1⟩, e2, e3⟩ := Option.bind_eq_some_iff.mp e1
  refine wpAny_isTrue_value (H sc ρ a m1 e2 A E s env P _ R kb X fun v s₁ P₁ k₁ w₁ y₁ x₁ => ?_) ?_
  · exact truth_sound x₁.hold e3 (h s₁ P₁ k₁ w₁ y₁)
  · exact isTrue_plain hp
set_option tactic.hygienic true in
theorem tsound_not {op : UnaryOp} {x : Expr} {pos : Pos} (H : TSound prog w cx lv hb x) : TSound prog w cx lv hb (.UnaryOp op x pos) := by
  intro sc ρ b e A E s env P Q R kb X h
  replace e := tUn.symm.trans e
  first | (replace e := iteS e; obtain ⟨ho, e⟩ := e) | (replace e := iteN e; obtain ⟨ho, e⟩ := e) | ((split at e <;> first | (exact nno e) | skip); (rename_i ho))
  subst ho
  obtain ⟨c, e1, rfl⟩ := Option.map_eq_some_iff.mp e
  exact wpAny_isTrue_Not (H sc ρ c e1 A E s env P _ R kb X h)
theorem tsound_bool {op : BoolOp} {vs : List Expr} {pos : Pos} (H : ∀ e ∈ vs, TSound prog w cx lv hb e) : TSound prog w cx lv hb (.BoolOp op vs pos) := by
  intro sc ρ b e A E s env P Q R kb X h
  replace e := tBo.symm.trans e
  exact wpAny_isTrue_BoolOp (trB_sound op vs H sc ρ b e A E s env P Q R kb X h)
end
end Mine

namespace Mine
section
variable {prog : Program} {w : World} {A : Around} {E : Value → Shared → Prop} {s : Shared}

theorem enum_no_len : typeLookup (.type "enumerate") "__len__" = pure none := by rw [typeLookup_type, builtinLookup_eq_fast]; kernel_rfl
theorem enum_no_hint : typeLookup (.type "enumerate") "__length_hint__" = pure none := by rw [typeLookup_type, builtinLookup_eq_fast]; kernel_rfl

abbrev EnOut (h : Heap) (e it : Addr) (i : Int) (f : Bool) (old : Value) (a : Addr) : Prop :=
  h.get? e = some { cls := .type "enumerate", dict := none, data := .fields #[rawInt a, .bool f, .ref it, rawInt i, .none, old], slots := #[] }

theorem enum_next_out {e it l a : Addr} {f : Bool} {oa : Obj} {i : Nat} {items : Array Value} {x old : Value} {Q : Option Value → Shared → Prop}
    (he : EnOut s.heap e it i f old a) (ha : s.heap.get? a = some oa) (hae : a ≠ e) (hai : a ≠ it) (hit : s.heap.IsListIter it l i) (hl : s.heap.IsList l items) (hx : items[i]? = some x) (hne : e ≠ it)
    (hQ : ∀ h', EnOut h' e it ((i : Int) + 1) true old a → h'.IsListIter it l (i + 1) →
      h'.get? s.heap.objs.size = some { cls := .type "tuple", data := .seq #[.int i s.toks, x] } → h'.objs.size = s.heap.objs.size + 1 →
      (∀ b o, b ≠ e → b ≠ it → s.heap.get? b = some o → h'.get? b = some o) → Q (some (.ref s.heap.objs.size)) { s with heap := h', toks := s.toks + 1 }) :
    wpAny (model prog w) A (pyNext (.ref e)) Q E s := by
  have hT : s.TypeIs (.ref e) "enumerate" := ⟨_, he, rfl⟩
  unfold pyNext
  refine wpAny_bind (wpAny_attempt (wpAny_callSpecial?_slot (name := Str.ofString "__next__") hT F.slot_enumerate_next
    (wpAny_call_entry F.slot_enumerate_next hT F.entry_enumerate_next ?_ (F.args_enumerate_next_1 _))))
  obtain ⟨hp, g, d, tk, os⟩ := s
  show wpAny _ _ (PySem.field (.ref e) 2 >>= _) _ _ _
  refine wpAny_bind (wpAny_field he rfl (x := .ref it) rfl ?_)
  refine wpAny_bind (wpAny_nextOf_list_item hit hl hx fun h₁ hit₁ hs₁ => ?_)
  replace hs₁ : Heap.SameBut it hp h₁ := hs₁
  have he₁ : EnOut h₁ e it i f old a := (hs₁.2 e hne).trans he
  show wpAny _ _ (PySem.field (.ref e) 3 >>= _) _ _ ⟨h₁, g, d, tk, os⟩
  refine wpAny_bind (wpAny_field he₁ rfl (x := rawInt i) rfl ?_)
  show wpAny _ _ (PySem.field (.ref e) 4 >>= _) _ _ ⟨h₁, g, d, tk, os⟩
  refine wpAny_bind (wpAny_field he₁ rfl (x := .none) rfl ?_)
  show wpAny _ _ (mkInt i >>= _) _ _ ⟨h₁, g, d, tk, os⟩
  refine wpAny_bind (wpAny_mkInt ?_)
  show wpAny _ _ (setField (.ref e) 3 (rawInt ((i : Int) + 1)) >>= _) _ _ ⟨h₁, g, d, tk + 1, os⟩
  refine wpAny_bind (wpAny_setField_rec he₁ (by simp) fun h₂ he₂ hs₂ => ?_)
  replace hs₂ : Heap.SameBut e h₁ h₂ := hs₂
  replace he₂ : EnOut h₂ e it ((i : Int) + 1) f old a := he₂
  show wpAny _ _ (setField (.ref e) 4 .none >>= _) _ _ ⟨h₂, g, d, tk + 1, os⟩
  refine wpAny_bind (wpAny_setField_rec he₂ (by simp) fun h₃ he₃ hs₃ => ?_)
  replace hs₃ : Heap.SameBut e h₂ h₃ := hs₃
  replace he₃ : EnOut h₃ e it ((i : Int) + 1) f old a := he₃
  show wpAny _ _ (newTuple [.int i tk, x] >>= _) _ _ ⟨h₃, g, d, tk + 1, os⟩
  refine wpAny_bind (wpAny_newTuple ?_)
  have he₄ : EnOut (h₃.push { cls := .type "tuple", data := .seq #[.int i tk, x] }) e it ((i : Int) + 1) f old a := Heap.get?_push_of_some _ he₃
  generalize hh₄ : h₃.push { cls := .type "tuple", data := .seq #[.int i tk, x] } = h₄ at he₄
  have hsz : h₃.objs.size = hp.objs.size := by rw [hs₃.1, hs₂.1, hs₁.1]
  have hel : e < hp.objs.size := Heap.lt_size he
  have ht₄ : h₄.get? hp.objs.size = some { cls := .type "tuple", data := .seq #[.int i tk, x] } := by rw [← hh₄, ← hsz]; exact Heap.get?_push_size _ rfl
  have hz₄ : h₄.objs.size = hp.objs.size + 1 := by rw [← hh₄, Heap.size_push, hsz]
  have hk₄ : ∀ b o, b ≠ e → b ≠ it → hp.get? b = some o → h₄.get? b = some o := fun b o hbe hbi hb => by
    rw [← hh₄]; exact Heap.get?_push_of_some _ (hs₃.extBut b o hbe (hs₂.extBut b o hbe (hs₁.extBut b o hbi hb)))
  have hit₄ : h₄.IsListIter it l (i + 1) := by
    rw [← hh₄]; obtain ⟨o, ho, r⟩ := (hit₁.extBut hs₂.extBut (Ne.symm hne)).extBut hs₃.extBut (Ne.symm hne); exact ⟨o, Heap.get?_push_of_some _ ho, r⟩
  have ha₄ : h₄.get? a = some oa := hk₄ a oa hae hai ha
  show wpAny _ _ (Builtin.SmallTypes.ownedTupleIsFree (.ref e) >>= _) _ _ ⟨h₄, g, d, tk + 1, os⟩
  rw [hsz]
  clear hh₄ he₃ hs₃ he₂ hs₂ he₁ hs₁ hit₁ hsz h₃ h₂ h₁
  refine wpAny_bind ?_
  unfold Builtin.SmallTypes.ownedTupleIsFree
  refine wpAny_bind (wpAny_field he₄ rfl (x := rawInt a) rfl ?_)
  show wpAny _ _ (loadIfAlive ((a : Int).toNat) >>= _) _ _ _
  rw [Int.toNat_natCast]
  refine wpAny_bind (kdx_alive ha₄ ?_)
  simp only [Option.isNone_some, Bool.false_eq_true, if_false]
  refine wpAny_bind (wpAny_field he₄ rfl (x := .bool f) rfl ?_)
  have fin : ∀ h₅ : Heap, EnOut h₅ e it ((i : Int) + 1) true old a → Heap.SameBut e h₄ h₅ → Q (some (.ref hp.objs.size)) ⟨h₅, g, d, tk + 1, os⟩ := fun h₅ he₅ hs₅ =>
    hQ h₅ he₅ (hit₄.extBut hs₅.extBut (Ne.symm hne)) (hs₅.extBut _ _ (Nat.ne_of_gt hel) ht₄) (by show h₅.objs.size = hp.objs.size + 1; rw [hs₅.1, hz₄]) fun b o hbe hbi hb => hs₅.extBut b o hbe (hk₄ b o hbe hbi hb)
  cases f with
  | true =>
    rw [if_neg (show ¬ ((Value.bool true != Value.bool true) = true) from Bool.false_ne_true)]
    refine wpAny_pure ?_
    simp only [Bool.false_eq_true, if_false]
    exact wpAny_pure ⟨_, rfl, wpAny_pure (fin h₄ he₄ (Heap.SameBut.refl _ _))⟩
  | false =>
    rw [if_pos (show (Value.bool false != Value.bool true) = true from rfl)]
    refine wpAny_bind (wpAny_setField_rec he₄ (by simp) fun h₅ he₅ hs₅ => ?_)
    replace hs₅ : Heap.SameBut e h₄ h₅ := hs₅
    replace he₅ : EnOut h₅ e it ((i : Int) + 1) true old a := he₅
    refine wpAny_pure ?_
    simp only [Bool.false_eq_true, if_false]
    exact wpAny_pure ⟨_, rfl, wpAny_pure (fin h₅ he₅ hs₅)⟩

theorem enum_end_out {e it l a : Addr} {f : Bool} {i : Nat} {items : Array Value} {old : Value} {Q : Option Value → Shared → Prop} (hh : A.handled = none)
    (he : EnOut s.heap e it i f old a) (hit : s.heap.IsListIter it l i) (hl : s.heap.IsList l items) (hx : items[i]? = none)
    (hQ : ∀ h', Heap.ExtBut it s.heap h' → Q none { s with heap := h' }) : wpAny (model prog w) A (pyNext (.ref e)) Q E s := by
  have hT : s.TypeIs (.ref e) "enumerate" := ⟨_, he, rfl⟩
  unfold pyNext
  refine wpAny_bind (wpAny_attempt (wpAny_callSpecial?_slot (name := Str.ofString "__next__") hT F.slot_enumerate_next
    (wpAny_call_entry F.slot_enumerate_next hT F.entry_enumerate_next ?_ (F.args_enumerate_next_1 _))))
  show wpAny _ _ (PySem.field (.ref e) 2 >>= _) _ _ _
  refine wpAny_bind (wpAny_field he rfl (x := .ref it) rfl ?_)
  refine wpAny_bind (wpAny_nextOf_list_end hh hit hl hx fun h' x he' hx' => ?_)
  obtain ⟨o, ho, hc⟩ := hx'
  refine wpAny_bind (wpAny_isInstance (T := "StopIteration") (b := true) ⟨o, ho, hc⟩ isSubtype_stop ?_)
  exact wpAny_pure (hQ _ he')

noncomputable def EnSt (h : Heap) (e it S : Addr) (i : Nat) : Prop :=
  (∃ old, IsEnum h e it i old) ∨ ∃ f old a oa, EnOut h e it i f old a ∧ h.get? a = some oa ∧ a ≠ e ∧ a ≠ it ∧ a ≠ S
theorem EnSt.keep {h h' : Heap} {e it S : Addr} {i : Nat} (x : EnSt h e it S i) (hk : ∀ b o, b ≠ S → h.get? b = some o → h'.get? b = some o) (hS : e ≠ S) : EnSt h' e it S i := by
  rcases x with ⟨old, x⟩ | ⟨f, old, a, oa, x, y, z1, z2, z3⟩
  · exact .inl ⟨old, hk _ _ hS x⟩
  · exact .inr ⟨f, old, a, oa, hk _ _ hS x, hk _ _ z3 y, z1, z2, z3⟩

theorem enum_item {e it l S : Addr} {i : Nat} {items : Array Value} {x : Value} {Q : Option Value → Shared → Prop} (hst : EnSt s.heap e it S i) (hit : s.heap.IsListIter it l i) (hl : s.heap.IsList l items) (hx : items[i]? = some x) (hne : e ≠ it) (hSl : S < s.heap.objs.size)
    (hQ : ∀ h', EnSt h' e it S (i + 1) → h'.IsListIter it l (i + 1) → h'.get? s.heap.objs.size = some { cls := .type "tuple", data := .seq #[.int i s.toks, x] } →
      (∀ b o, b ≠ e → b ≠ it → s.heap.get? b = some o → h'.get? b = some o) → Q (some (.ref s.heap.objs.size)) { s with heap := h', toks := s.toks + 1 }) :
    wpAny (model prog w) A (pyNext (.ref e)) Q E s := by
  have e1 : ((i + 1 : Nat) : Int) = (i : Int) + 1 := by (first | lia | omega)
  rcases hst with ⟨old, he⟩ | ⟨f, old, a, oa, he, ha, z1, z2, z3⟩
  · have hel : e < s.heap.objs.size := Heap.lt_size he
    have hil : it < s.heap.objs.size := by obtain ⟨_, q, _⟩ := hit; exact Heap.lt_size q
    refine wpAny_pyNext_enum_item he hit hl hx hne fun h' ho hit' ht hz hk => hQ h' (.inr ⟨false, x, s.heap.objs.size, _, ?_, ht, Nat.ne_of_gt hel, Nat.ne_of_gt hil, Nat.ne_of_gt hSl⟩) hit' ht hk
    show EnOut _ _ _ ((i + 1 : Nat) : Int) _ _ _
    rw [e1]; exact ho
  · refine enum_next_out he ha z1 z2 hit hl hx hne fun h' ho hit' ht hz hk => hQ h' (.inr ⟨true, old, a, oa, ?_, hk _ _ z1 z2 ha, z1, z2, z3⟩) hit' ht hk
    show EnOut _ _ _ ((i + 1 : Nat) : Int) _ _ _
    rw [e1]; exact ho

theorem enum_loop {S e it l : Addr} {items : Array Value} {P : Vis} {ds : List D} (hh : A.handled = none) (hSe : S ≠ e) (hSi : S ≠ it) (hSl : l ≠ S) (hle : l ≠ e) (hli : l ≠ it) (hne : e ≠ it) (hn : ds.length ≤ 100000) (res : Value) (r : Reps prog w P items.toList ds)
    {R : Result → Shared → Prop} {h₁ : Heap} (hP : ∀ a o, P a o → h₁.get? a = some o) (hPS : ∀ a o, P a o → a ≠ S ∧ a ≠ e ∧ a ≠ it)
    (hR : ∀ h' tk us c P', (∀ b o, b ≠ S → b ≠ e → b ≠ it → h₁.get? b = some o → h'.get? b = some o) → h'.get? S = some (lstO us c) → PExt P h₁ P' h' → (∀ o, ¬ P' S o) → Reps prog w P' us (enumD 0 ds) → R (.ok (.ret res)) { s with heap := h', toks := tk }) :
    ∀ (k i : Nat) (h : Heap) (tk c : Nat) (us : List Value) (P' : Vis), ds.length - i = k → i ≤ ds.length → EnSt h e it S i → h.IsListIter it l i → h.IsList l items → (∀ b o, b ≠ S → b ≠ e → b ≠ it → h₁.get? b = some o → h.get? b = some o) →
      h.get? S = some (lstO us c) → PExt P h₁ P' h → (∀ a o, P' a o → a ≠ S ∧ a ≠ e ∧ a ≠ it) → Reps prog w P' us (enumD 0 (ds.take i)) → (∀ b o, h₁.get? b = some o → ∃ o', h.get? b = some o') →
      codeAny (model prog w) A (.builtin "list.extend.loop" ⟨[.ref S, .ref e, res], []⟩) R { s with heap := h, toks := tk } := by
  have hlen : items.size = ds.length := by rw [← r.length]; simp
  intro k
  induction k with
  | zero =>
    intro i h tk c us P' hk hi hst hit hl hkeep hS y hPS' ru hdom
    have hin : i = ds.length := by (first | lia | omega)
    refine codeAny_builtin PySem.F.entry_extend_loop ?_
    rw [Around.under_plainId PySem.F.plain_extend_loop _]
    show wpAny _ A.in1 (pyNext (.ref e) >>= _) _ _ _
    have fin : ∀ h', Heap.ExtBut it h h' → R (.ok (.ret res)) { s with heap := h', toks := tk } := fun h' he => by
      refine hR h' tk us c P' (fun b o h1 h2 h3 q => he b o h3 (hkeep b o h1 h2 h3 q)) (he S _ hSi hS) ⟨y.up, fun a o q => he a o (hPS' a o q).2.2 (y.at_ a o q), y.new⟩ (fun o q => (hPS' S o q).1 rfl) ?_
      rw [hin, List.take_length] at ru; exact ru
    rcases hst with ⟨old, he⟩ | ⟨f, old, a, oa, he, ha, z1, z2, z3⟩
    · exact wpAny_bind (wpAny_pyNext_enum_end (s := { s with heap := h, toks := tk }) (A := A.in1) hh he hit hl (by rw [hin, ← hlen]; simp) fun h' he' => wpAny_pure (fin h' he'))
    · exact wpAny_bind (enum_end_out (s := { s with heap := h, toks := tk }) (A := A.in1) hh he hit hl (by rw [hin, ← hlen]; simp) fun h' he' => wpAny_pure (fin h' he'))
  | succ k ih =>
    intro i h tk c us P' hk hi hst hit hl hkeep hS y hPS' ru hdom
    have hlt : i < ds.length := by (first | lia | omega)
    obtain ⟨x, hx⟩ : ∃ x, ds[i]? = some x := ⟨ds[i], List.getElem?_eq_getElem hlt⟩
    obtain ⟨v, hv, rv⟩ := r.get hx
    refine codeAny_builtin PySem.F.entry_extend_loop ?_
    rw [Around.under_plainId PySem.F.plain_extend_loop _]
    show wpAny _ A.in1 (pyNext (.ref e) >>= _) _ _ _
    have hSlt : S < h.objs.size := Heap.lt_size hS
    refine wpAny_bind (enum_item (s := { s with heap := h, toks := tk }) (S := S) hst hit hl (by simpa using hv) hne hSlt fun h' hst' hit' ht hkp => ?_)
    dsimp only at ht hkp ⊢
    have hS' := hkp S _ hSe hSi hS
    have up : ∀ b o, b ≠ S → h'.get? b = some o → (h'.update S (Obj.mapSeq (·.push (Value.ref h.objs.size)))).get? b = some o := fun b o hb q => (Heap.get?_update_other _ _ (Ne.symm hb)).trans q
    have hel : e < h.objs.size := by rcases hst with ⟨_, q⟩ | ⟨_, _, _, _, q, _⟩ <;> exact Heap.lt_size q
    have hil : it < h.objs.size := by obtain ⟨_, q, _⟩ := hit; exact Heap.lt_size q
    show wpAny _ A.in1 (updateSeq S (·.push (Value.ref h.objs.size)) >>= _) _ _ _
    refine wpAny_bind ?_
    have hul : us.length = i := by rw [ru.length, enumD_length, List.length_take]; (first | lia | omega)
    obtain ⟨c', hc'⟩ : ∃ c', (h'.update S (Obj.mapSeq (·.push (Value.ref h.objs.size)))).get? S = some (lstO (us ++ [Value.ref h.objs.size]) c') := by
      rw [Heap.get?_update_self _ hS' rfl]
      have : (us.toArray.push (Value.ref h.objs.size)) = (us ++ [Value.ref h.objs.size]).toArray := by simp
      simp only [Obj.mapSeq, this]
      exact ⟨_, rfl⟩
    refine wpAny_updateSeq hS' rfl (wpAny_pure ⟨plainId_quiet PySem.F.plain_extend_loop _, ?_⟩) (by rw [List.size_toArray, hul, sizeLine_eq]; (first | lia | omega)) (by rw [Array.size_push, List.size_toArray, hul, sizeLine_eq]; (first | lia | omega))
    refine ih (i + 1) _ (tk + 1) c' (us ++ [Value.ref h.objs.size]) (PAdd P' h.objs.size { cls := .type "tuple", data := .seq #[.int i tk, v] }) (by (first | lia | omega)) hlt (hst'.keep up (Ne.symm hSe)) ?_ (hl.at fun o q => up _ _ hSl (hkp _ _ hle hli q))
      (fun b o h1 h2 h3 q => up b o h1 (hkp b o h2 h3 (hkeep b o h1 h2 h3 q))) ?_ ?_ ?_ ?_ ?_
    · exact hit'.at fun o q => up _ _ (Ne.symm hSi) q
    · exact hc'
    · refine ⟨fun a o q => .inl (y.up a o q), fun a o q => ?_, fun a o q => ?_⟩
      · rcases q with q | ⟨rfl, rfl⟩
        · exact up a o (hPS' a o q).1 (hkp a o (hPS' a o q).2.1 (hPS' a o q).2.2 (y.at_ a o q))
        · exact up _ _ (Nat.ne_of_gt hSlt) ht
      · rcases q with q | ⟨rfl, rfl⟩
        · exact y.new a o q
        · refine .inr ?_
          cases q : h₁.get? h.objs.size with
          | none => rfl
          | some o' => obtain ⟨o'', q'⟩ := hdom _ _ q; exact absurd (Heap.lt_size q') (Nat.lt_irrefl _)
    · rintro a o (q | ⟨rfl, rfl⟩)
      · exact hPS' a o q
      · exact ⟨Nat.ne_of_gt hSlt, Nat.ne_of_gt hel, Nat.ne_of_gt hil⟩
    · have e1 : enumD 0 (ds.take (i + 1)) = enumD 0 (ds.take i) ++ [.tup [.int i, x]] := by
        rw [List.take_add_one, hx]
        have aux : ∀ (l : List D) (n : Nat) (y : D), enumD n (l ++ [y]) = enumD n l ++ [.tup [.int ((n + l.length : Nat) : Int), y]] := by
          intro l
          induction l with
          | nil => intro n y; simp [enumD]
          | cons d l ih => intro n y; simp only [List.cons_append, enumD, ih, List.length_cons]; rw [show n + 1 + l.length = n + (l.length + 1) by (first | lia | omega)]
        have := aux (ds.take i) 0 x
        rw [List.length_take, Nat.min_eq_left hi, Nat.zero_add] at this
        exact this
      rw [e1]
      refine (ru.mono fun _ _ q => .inl q).append (.cons ?_ .nil)
      exact .tup (vs := [.int i tk, v]) (.inr ⟨rfl, rfl⟩) rfl rfl (.cons (.int _ _) (.cons (rv.mono fun a o q => .inl (y.up a o q)) .nil))
    · intro b o q
      obtain ⟨o', q'⟩ := hdom b o q
      by_cases hb : b = S
      · subst hb; exact ⟨_, Heap.get?_update_self _ hS' rfl⟩
      · by_cases hb2 : b = e
        · subst hb2
          rcases hst' with ⟨_, z⟩ | ⟨_, _, _, _, z, _⟩
          · exact ⟨_, up _ _ hb z⟩
          · exact ⟨_, up _ _ hb z⟩
        · by_cases hb3 : b = it
          · subst hb3; obtain ⟨_, z, _⟩ := hit'; exact ⟨_, up _ _ hb z⟩
          · exact ⟨_, up _ _ hb (hkp b o' hb2 hb3 q')⟩

theorem enum_list_ok : EnumListOk prog w := by
  intro A E s P v ds Q hh hy p hv hn hQ
  obtain ⟨l, n, vs, rfl, a, r⟩ := hv.listI
  have hl := isList_of (p _ _ a)
  have hll : l < s.heap.objs.size := Heap.lt_size (p _ _ a)
  refine call_enumerate_list hl fun h₁ he hit hz hk => ?_
  generalize hE : s.heap.objs.size + 1 = e at he hz ⊢
  generalize hI : s.heap.objs.size = I at he hit hz ⊢
  have hIe : e = I + 1 := by (first | lia | omega)
  have hsz : h₁.objs.size = I + 2 := by rw [hz]
  refine callType_codes (Q₁ := fun obj s₁ => obj = .ref h₁.objs.size ∧ s₁ = { s with heap := h₁.push { cls := .type "list", data := .seq #[] } }) PySem.F.called_list (PySem.F.typeCall_list_1 _) PySem.F.entry_list_init
    (code_list_new _ ⟨rfl, rfl⟩) fun obj s₁ h₁' => ?_
  obtain ⟨rfl, rfl⟩ := h₁'
  have hS : (h₁.push { cls := .type "list", data := .seq #[] }).get? h₁.objs.size = some { cls := .type "list", data := .seq #[] } := Heap.get?_push_size _ rfl
  refine ⟨⟨_, hS, rfl⟩, PySem.F.args_list_init_2 _ _, ?_⟩
  generalize hS0 : h₁.objs.size = S at hS ⊢
  have hSe : S ≠ e := by (first | lia | omega)
  have hSI : S ≠ I := by (first | lia | omega)
  have hlS : l ≠ S := Nat.ne_of_lt (Nat.lt_of_lt_of_le hll (by (first | lia | omega)))
  have hle : l ≠ e := Nat.ne_of_lt (Nat.lt_of_lt_of_le hll (by (first | lia | omega)))
  have hlI : l ≠ I := Nat.ne_of_lt (Nat.lt_of_lt_of_le hll (by (first | lia | omega)))
  have heI : e ≠ I := by (first | lia | omega)
  generalize hH : h₁.push { cls := .type "list", dict := none, data := .seq #[], slots := #[] } = H at hS ⊢
  have old : ∀ b o, h₁.get? b = some o → H.get? b = some o := fun b o q => hH ▸ Heap.get?_push_of_some _ q
  show wpAny _ _ (do let old ← Builtin.List.listItems (.ref S); Builtin.List.listUpdate (.ref S) (fun _ => #[]); letGo old.toList.reverse; Builtin.List.listExtendWith (.ref S) (.ref e) .none) _ _ _
  refine wpAny_bind ?_
  unfold Builtin.List.listItems
  refine wpAny_bind (wpAny_seqItems hS rfl (wpAny_pure ?_))
  show wpAny _ _ (updateSeq S (fun _ => #[]) >>= fun _ => letGo (#[] : Array Value).toList.reverse >>= fun _ => Builtin.List.listExtendWith (.ref S) (.ref e) .none) _ _ _
  refine wpAny_bind (wpAny_updateSeq hS rfl ?_)
  have hS₂ := Heap.get?_update_self (Obj.mapSeq (fun _ => (#[] : Array Value))) hS rfl
  refine wpAny_bind (wpAny_letGo ?_)
  generalize hH2 : H.update S (Obj.mapSeq fun _ => (#[] : Array Value)) = H2 at hS₂ ⊢
  have oth2 : ∀ b o, b ≠ S → H.get? b = some o → H2.get? b = some o := fun b o hb q => hH2 ▸ (Heap.get?_update_other _ _ (Ne.symm hb)).trans q
  have he2 : IsEnum H2 e I 0 .none := oth2 _ _ (Ne.symm hSe) (old _ _ he)
  have hT2 : ∀ (g : Array GenState) (dr : Drawn) (tk : Nat) (os : OsState), Shared.TypeIs ⟨H2, g, dr, tk, os⟩ (.ref e) "enumerate" := fun _ _ _ _ => ⟨_, he2, rfl⟩
  unfold Builtin.List.listExtendWith
  refine wpAny_bind (wpAny_typeOf (hT2 _ _ _ _) ?_)
  have q1 : Builtin.List.listSameRef (.ref S) (.ref e) = false := by simp [Builtin.List.listSameRef, hSe]
  have q2 : (Value.type "enumerate" == Value.type "list") = false := by decide
  have q3 : (Value.type "enumerate" == Value.type "tuple") = false := by decide
  simp only [q1, q2, q3, Bool.or_false, Bool.false_eq_true, if_false]
  refine wpAny_bind (wpAny_pyIter_enum he2 ?_)
  refine wpAny_bind (wpAny_holding ?_)
  unfold Builtin.List.listLengthHint
  refine wpAny_bind (wpAny_specialOf (hT2 _ _ _ _) enum_no_len ?_)
  show wpAny _ _ (specialOf (Value.ref e) (Str.ofString "__length_hint__") >>= _) _ _ _
  refine wpAny_bind (wpAny_specialOf (hT2 _ _ _ _) enum_no_hint ?_)
  refine wpAny_pure ?_
  show wpAny _ _ (rule "list.extend.makes-room" >>= fun _ => Builtin.List.listTouch (.ref S) >>= fun _ =>
    again (.builtin "list.extend.loop" ⟨[.ref S, .ref e, .none], []⟩)) _ _ _
  refine wpAny_bind (wpAny_rule ?_)
  refine wpAny_bind ?_
  show wpAny _ _ (updateSeq S (·.push .none) >>= fun _ => updateSeq S (·.pop)) _ _ _
  refine wpAny_bind (wpAny_updateSeq hS₂ rfl ?_)
  have hS₃ := Heap.get?_update_self (Obj.mapSeq (·.push Value.none)) hS₂ rfl
  refine wpAny_updateSeq (hz := by seq_fits) hS₃ rfl ?_
  have hS₄ := Heap.get?_update_self (Obj.mapSeq (·.pop)) hS₃ rfl
  generalize hH4 : ((H2.update S (Obj.mapSeq (·.push Value.none))).update S (Obj.mapSeq (·.pop))) = H4 at hS₄ ⊢
  have oth4 : ∀ b o, b ≠ S → h₁.get? b = some o → H4.get? b = some o := fun b o hb q => by
    rw [← hH4]
    exact (Heap.get?_update_other _ _ (Ne.symm hb)).trans ((Heap.get?_update_other _ _ (Ne.symm hb)).trans (oth2 b o hb (old b o q)))
  have hS₄' : ∃ c, H4.get? S = some (lstO [] c) := ⟨_, hS₄⟩
  obtain ⟨c4, hS4⟩ := hS₄'
  have hne₁ : ∀ b o, s.heap.get? b = some o → b ≠ S ∧ b ≠ e ∧ b ≠ I := fun b o q => ⟨Nat.ne_of_lt (Nat.lt_of_lt_of_le (Heap.lt_size q) (by (first | lia | omega))), Nat.ne_of_lt (Nat.lt_of_lt_of_le (Heap.lt_size q) (by (first | lia | omega))), Nat.ne_of_lt (Nat.lt_of_lt_of_le (Heap.lt_size q) (by (first | lia | omega)))⟩
  refine wpAny_pure ⟨plainId_quiet PySem.F.plain_extend_loop _, ?_⟩
  refine enum_loop (A := A.in1) (s := s) (P := P) (ds := ds) (items := vs.toArray) (h₁ := s.heap) hh hSe hSI hlS hle hlI heI hn .none (by simpa using r) p (fun a o q => hne₁ a o (p a o q)) (fun h' tk us c P' hk' hS' y' nS ru => ?_)
    ds.length 0 H4 _ c4 [] P (Nat.sub_zero _) (Nat.zero_le _) (.inl ⟨.none, oth4 _ _ (Ne.symm hSe) he⟩) (hit.at fun o q => oth4 _ _ (Ne.symm hSI) q) (hl.at fun o q => oth4 _ _ hlS (hk _ _ q)) (fun b o h1 _ _ q => oth4 b o h1 (hk b o q)) hS4
    ⟨fun _ _ q => q, fun a o q => oth4 a o (hne₁ a o (p a o q)).1 (hk a o (p a o q)), fun _ _ q => .inl q⟩ (fun a o q => hne₁ a o (p a o q)) .nil (fun b o q => ⟨o, oth4 b o (hne₁ b o q).1 (hk b o q)⟩)
  refine ⟨rfl, hQ _ _ P' (fun b o q => hk' b o (hne₁ b o q).1 (hne₁ b o q).2.1 (hne₁ b o q).2.2 q) ⟨rfl, rfl⟩ y' ⟨S, _, rfl, ?_, ?_, hS', nS, rfl, rfl, us, c, rfl, ru⟩⟩
  · have := hy.lt
    exact beq_eq_false_iff_ne.mpr (by show S ≠ 1; (first | lia | omega))
  · exact Heap.get?_none_of_le (by (first | lia | omega))
end
end Mine

namespace Mine

set_option tactic.hygienic true in
theorem rho_filter {α : Type} (f : α → Option (Str × (D × Mode))) (x : Str) (r : D × Mode) : ∀ (l : List α), Rho.get x (l.filterMap f) = some r → ∃ a ∈ l, f a = some (x, r)
  | [], e => by cases e
  | a :: l, e => by
    rw [List.filterMap_cons] at e
    split at e
    · obtain ⟨b, hb, e2⟩ := rho_filter f x r l e; exact ⟨b, List.mem_cons_of_mem _ hb, e2⟩
    · rename_i b hb
      obtain ⟨y, q⟩ := b
      simp only [Rho.get] at e
      split at e
      · rename_i hxy; cases e; subst hxy; exact ⟨a, List.mem_cons_self .., hb⟩
      · obtain ⟨b, hb, e2⟩ := rho_filter f x r l e; exact ⟨b, List.mem_cons_of_mem _ hb, e2⟩
set_option tactic.hygienic true in
theorem compBase_get {scope : Scope} {ρ : Rho} {x : Str} {r : D × Mode} (e : Rho.get x (compBase scope ρ) = some r) : r.2 = .fro ∧ ρ.get x = some r ∧ (x, NameKind.free) ∈ scope.names := by
  obtain ⟨⟨n, k⟩, hn, e2⟩ := rho_filter _ x r _ e
  dsimp only at e2
  split at e2
  · rename_i hk
    subst hk
    split at e2
    · rename_i d hd
      cases e2
      exact ⟨rfl, hd, hn⟩
    · cases e2
  · cases e2

set_option tactic.hygienic true in
theorem closureFor_gives {env : Env} {scope : Scope} (H : ∀ x ∈ scope.names, x.2 = .free → ∃ c, env.cells.lookup x.1 = some c) :
    ∃ cl, closureFor scope env = pure cl ∧ (∀ n c, cl.lookup n = some c → env.cells.lookup n = some c ∧ (n, NameKind.free) ∈ scope.names) ∧ (∀ x ∈ scope.names, x.2 = .free → cl.lookup x.1 = env.cells.lookup x.1) := by
  have go : ∀ (l : List (Str × NameKind)) (cs : List (Str × Addr)), (∀ x ∈ l, x.2 = .free → ∃ c, env.cells.lookup x.1 = some c) → (∀ n c, cs.lookup n = some c → env.cells.lookup n = some c) →
      ∃ cl, (forIn l cs fun x cs => (do let (name, kind) := x; if (kind == .free) = true then (do let c ← cellOf env name; pure (ForInStep.yield ((name, c) :: cs))) else pure (ForInStep.yield cs) : Sem (ForInStep (List (Str × Addr))))) = pure cl ∧
        (∀ n c, cl.lookup n = some c → cs.lookup n = some c ∨ (env.cells.lookup n = some c ∧ (n, NameKind.free) ∈ l)) ∧ (∀ n c, cs.lookup n = some c → cl.lookup n = some c) ∧ (∀ x ∈ l, x.2 = .free → cl.lookup x.1 = env.cells.lookup x.1) := by
    intro l
    induction l with
    | nil => intro cs _ _; exact ⟨cs, rfl, fun n c e => .inl e, fun n c e => e, fun x hx => nomatch hx⟩
    | cons a l ih =>
      intro cs h1 h2
      obtain ⟨n, k⟩ := a
      rw [List.forIn_cons]
      by_cases hk : k = .free
      · subst hk
        obtain ⟨c, hc⟩ := h1 _ (List.mem_cons_self ..) rfl
        have hcell : cellOf env n = pure c := by unfold cellOf; rw [hc]
        have h2' : ∀ n' c', ((n, c) :: cs).lookup n' = some c' → env.cells.lookup n' = some c' := fun n' c' e => by
          rw [List.lookup_cons] at e
          split at e
          · rename_i q; rw [beq_iff_eq] at q; cases e; subst q; exact hc
          · exact h2 _ _ e
        obtain ⟨cl, e1, e2, e3, e4⟩ := ih ((n, c) :: cs) (fun x hx => h1 x (List.mem_cons_of_mem _ hx)) h2'
        refine ⟨cl, ?_, fun n' c' e => ?_, fun n' c' e => ?_, fun x hx hf => ?_⟩
        · dsimp only
          rw [if_pos (by rfl), hcell]
          simp only [pure_bind]
          exact e1
        · rcases e2 n' c' e with q | ⟨q, q'⟩
          · rw [List.lookup_cons] at q
            split at q
            · rename_i hb; rw [beq_iff_eq] at hb; cases q; subst hb; exact .inr ⟨hc, List.mem_cons_self ..⟩
            · exact .inl q
          · exact .inr ⟨q, List.mem_cons_of_mem _ q'⟩
        · by_cases hn : n' = n
          · subst hn
            have q1 := h2 _ _ e
            rw [hc] at q1; cases q1
            exact e3 _ _ (by simp [List.lookup_cons])
          · exact e3 _ _ (by rw [List.lookup_cons, beq_eq_false_iff_ne.mpr hn]; exact e)
        · rcases List.mem_cons.mp hx with rfl | hx
          · dsimp only; rw [hc]; exact e3 _ _ (by simp [List.lookup_cons])
          · exact e4 x hx hf
      · have hb : (k == NameKind.free) = false := beq_eq_false_iff_ne.mpr hk
        obtain ⟨cl, e1, e2, e3, e4⟩ := ih cs (fun x hx => h1 x (List.mem_cons_of_mem _ hx)) h2
        refine ⟨cl, ?_, fun n' c' e => (e2 n' c' e).imp id fun q => ⟨q.1, List.mem_cons_of_mem _ q.2⟩, e3, fun x hx hf => ?_⟩
        · dsimp only
          rw [hb, if_neg Bool.false_ne_true]
          simp only [pure_bind]
          exact e1
        · rcases List.mem_cons.mp hx with rfl | hx
          · exact absurd hf hk
          · exact e4 x hx hf
  obtain ⟨cl, e1, e2, e3, e4⟩ := go scope.names [] H (fun n c e => nomatch e)
  refine ⟨cl, ?_, fun n c e => (e2 n c e).elim (fun q => nomatch q) id, e4⟩
  unfold closureFor
  refine (bind_pure _).trans ?_
  exact e1

theorem lookup_relabel {env : Env} : ∀ {names : List (Str × NameKind)} {x : Str},
    (names.map fun (n, k) => if (k == NameKind.free && env.scope.kind == .function && env.kindOf n == some .cell) then (n, NameKind.cell) else (n, k)).lookup x =
      (names.lookup x).map fun k => if (k == NameKind.free && env.scope.kind == .function && env.kindOf x == some .cell) = true then NameKind.cell else k
  | [], x => rfl
  | (n, k) :: r, x => by
    have ih := @lookup_relabel env r x
    show List.lookup x ((if (k == NameKind.free && env.scope.kind == .function && env.kindOf n == some .cell) = true then (n, NameKind.cell) else (n, k)) :: _) = _
    cases hx : x == n with
    | true =>
      have : x = n := by simpa using hx
      subst this
      by_cases hc : (k == NameKind.free && env.scope.kind == .function && env.kindOf x == some .cell) = true
      · rw [if_pos hc]
        simp only [List.lookup_cons, beq_self_eq_true, Option.map_some]
        rw [if_pos hc]
      · rw [if_neg hc]
        simp only [List.lookup_cons, beq_self_eq_true, Option.map_some]
        rw [if_neg hc]
    | false =>
      by_cases hc : (k == NameKind.free && env.scope.kind == .function && env.kindOf n == some .cell) = true
      · rw [if_pos hc]; simp only [List.lookup_cons, hx]; exact ih
      · rw [if_neg hc]; simp only [List.lookup_cons, hx]; exact ih

section
variable {prog : Program} {w : World} {A : Around} {R : Result → Shared → Prop} {s : Shared}

theorem compLoop_own {elt target iter : Expr} {ifs : List Expr} {scope : Scope} {pos : Pos} {it acc : Value} {env : Env} (I : Nat → Shared → Prop)
    (turn : ∀ n s, I n s → wpAny (model prog w) A (pyNext it) (fun r s₁ => match r with
      | none => R (.ok .next) s₁
      | some v => wpAny (model prog w) A (letOwnedTupleGo target it v) (fun _ s₀ => wpAny (model prog w) A (assign target env v) (fun _ s₂ =>
          wpAny (model prog w) A (forIn ifs true fun c r => if r = true then do let ok ← isTrue c env (eval c env); pure (ForInStep.yield ok) else pure (ForInStep.yield r)) (fun ok s₃ =>
            if ok = true then wpAny (model prog w) A (eval elt env) (fun x s₄ =>
              wpAny (model prog w) A (call (.builtin "list.append") [acc, x]) (fun _ s₅ => ∃ m, m < n ∧ I m s₅) (notedBy (model prog w) A env fun e s' => R (.error e) s') s₄) (notedBy (model prog w) A env fun e s' => R (.error e) s') s₃
            else ∃ m, m < n ∧ I m s₃) (notedBy (model prog w) A env fun e s' => R (.error e) s') s₂) (notedBy (model prog w) A env fun e s' => R (.error e) s') s₀) (notedBy (model prog w) A env fun e s' => R (.error e) s') s₁) (notedBy (model prog w) A env fun e s' => R (.error e) s') s)
    (n : Nat) (h : I n s) : codeAny (model prog w) A (.compLoop (.ListComp elt [⟨target, iter, ifs, 0⟩] scope pos) 0 it acc env) R s := by
  refine codeAny_loop rfl I (fun n s hI => ?_) n h
  show wpAny _ A ((compTurn (.ListComp elt [⟨target, iter, ifs, 0⟩] scope pos) 0 it acc env).onRaise (fun x => do noteFrame x env; theTreesLotGoes x)) _ _ s
  refine wpAny_noted ?_
  rw [compTurn_list]
  refine wpAny_bind (wpAny_standAt (wpAny_bind (wpAny_mono (turn n s hI) (fun r s₁ h₁ => ?_) fun _ _ h' => h')))
  cases r with
  | none => exact wpAny_pure h₁
  | some v =>
    refine wpAny_bind (wpAny_mono h₁ (fun _ s₀ h₀ => ?_) fun _ _ h' => h')
    refine wpAny_bind (wpAny_mono h₀ (fun _ s₂ h₂ => wpAny_bind (wpAny_mono h₂ (fun ok s₃ h₃ => ?_) fun _ _ h' => h')) fun _ _ h' => h')
    cases ok with
    | false => exact wpAny_pure ⟨rfl, h₃⟩
    | true =>
      exact wpAny_bind (wpAny_bind (wpAny_mono h₃ (fun x s₄ h₄ => wpAny_bind (wpAny_mono h₄ (fun _ s₅ h₅ => wpAny_pure (wpAny_pure ⟨rfl, h₅⟩)) fun _ _ h' => h')) fun _ _ h' => h'))
end

section
variable {prog : Program} {w : World}
theorem FrameSt.weak {sc : Scope} {env : Env} {h₀ : Heap} {P₀ P : Vis} {W : Addr → Prop} {ρ ρ' : Rho} {h : Heap} (F : FrameSt prog w sc env h₀ P₀ W ρ P h) (e : ∀ x r, ρ'.get x = some r → ρ.get x = some r) : FrameSt prog w sc env h₀ P₀ W ρ' P h :=
  { F with
    est := { F.est with vars := fun x d m q => F.est.vars x d m (e x _ q) }
    own := fun x d a q => F.own x d a (e x _ q)
    apart := fun x y a d d' n q q' => F.apart x y a d d' n (e x _ q) (e y _ q') }

theorem setB_get_of {b : List (Str × D)} {x : Str} : ∀ {ρ : Rho}, (∀ p ∈ b, p.1 ≠ x) → (setB b ρ).get x = ρ.get x := by
  induction b with
  | nil => intro ρ _; rfl
  | cons p b ih =>
    intro ρ h
    obtain ⟨y, d⟩ := p
    rw [setB_cons, ih fun p hp => h p (List.mem_cons_of_mem _ hp), Rho.get_set, if_neg (Ne.symm (h _ (List.mem_cons_self ..)))]

theorem names1_var {scope : Scope} {t : Expr} (h : names1 scope t = true) : namesVar scope t = true ∧ tgtOk t = true ∧ ∀ d b, bindT t d = some b → ∀ p ∈ b, scope.names.lookup p.1 = some .local := by
  cases t with
  | Name x p =>
    have h : scope.names.lookup x = some .local := beq_iff_eq.mp h
    refine ⟨vnN h, rfl, fun d b e q hq => ?_⟩
    cases e
    rw [List.mem_singleton] at hq; subst hq; exact h
  | Tuple elts k p =>
    obtain ⟨ns, hns, h⟩ := n1T h
    refine ⟨vnT hns h, rfl, fun d b e q hq => ?_⟩
    rcases bindT_inv e with ⟨_, _, e0, _⟩ | ⟨_, _, _, ds, ns', e0, _, e1, _, rfl⟩
    · cases e0
    · cases e0
      rw [hns] at e1; cases e1
      exact h _ (List.of_mem_zip (show (q.1, q.2) ∈ _ from hq)).1
  | _ => exact ff h

end
end Mine

namespace Mine
section
variable {prog : Program} {w : World} {cx : Cx} {lv : Nat} {hb : Heap}

noncomputable def CompTurn (cx : Cx) (t elt : Expr) (ifs : List Expr) (scope : Scope) (ρb : Rho) (f : D → Option (Option D)) : Prop :=
  ∀ d o, f d = some o → ∃ b c, bindT t d = some b ∧ trs cx ifs scope (setB b ρb) = some c ∧ ((c = false ∧ o = none) ∨ (c = true ∧ ∃ y m, ev cx elt scope (setB b ρb) = some (y, m) ∧ m ≠ .bor ∧ o = some y))

noncomputable def CompI (prog : Program) (w : World) (scope : Scope) (cenv : Env) (h₀ : Heap) (P₀ : Vis) (W : Addr → Prop) (ρb : Rho) (St : Nat → Heap → Prop) (L : Addr) (wr : List Addr) (P' : Vis) (us : List Value) (c i : Nat) (h : Heap) : Prop :=
  FrameSt prog w scope cenv h₀ P₀ W ρb P' h ∧ St i h ∧ h.get? L = some (lstO us c) ∧ (∀ o, ¬ P' L o) ∧ (∀ a o, P' a o → a ∉ wr)
noncomputable def CompR (prog : Program) (w : World) (f : D → Option (Option D)) (l ds : List D) (P' : Vis) (us : List Value) (i : Nat) : Prop := ∃ outs rest, Reps prog w P' us outs ∧ compGo f (ds.drop i) = some rest ∧ l = outs ++ rest ∧ us.length ≤ i
theorem comp_loop (Wl : Wld prog w cx lv hb) {elt t iter : Expr} {ifs : List Expr} {scope : Scope} {pos : Pos} (He : ESound prog w cx lv hb elt) (Ht : ∀ c ∈ ifs, TSound prog w cx lv hb c) (ht : names1 scope t = true)
    {A : Around} {cenv : Env} {h₀ : Heap} {P₀ P : Vis} {W : Addr → Prop} {ρb : Rho} {it : Value} {tg : Expr → Bool} {fp wr : List Addr} {ds : List D} {St : Nat → Heap → Prop} {L : Addr} (R : Room A lv) (kb : Sub hb h₀)
    (IT : Iter prog w A tg it fp wr ds P₀ St) (htg : tg t = true) (hwr0 : ∀ b ∈ wr, h₀.get? b = none) (hfpW : ∀ b ∈ fp, ¬ W b) (hLfp : L ∉ fp) (hLW : ¬ W L) (hL0 : h₀.get? L = none)
    (hbn : ∀ x r, ρb.get x = some r → scope.names.lookup x ≠ some .local) (hn : ds.length ≤ 100000) {f : D → Option (Option D)} (hf : CompTurn cx t elt ifs scope ρb f) {l : List D} (hl : compGo f ds = some l)
    {RR : Result → Shared → Prop} {s : Shared} {c₀ : Nat}
    (hR : ∀ s' P' us c, SameW s s' → FrameSt prog w scope cenv h₀ P₀ W ρb P' s'.heap → s'.heap.get? L = some (lstO us c) → (∀ o, ¬ P' L o) → Reps prog w P' us l → RR (.ok .next) s')
    (F : FrameSt prog w scope cenv h₀ P₀ W ρb P s.heap) (hSt : St 0 s.heap) (hL : s.heap.get? L = some (lstO [] c₀)) (hPL : ∀ o, ¬ P L o) (hPw : ∀ a o, P a o → a ∉ wr) :
    codeAny (model prog w) A (.compLoop (.ListComp elt [⟨t, iter, ifs, 0⟩] scope pos) 0 it (.ref L) cenv) RR s := by
  have hLwr : L ∉ wr := fun q => hLfp (IT.sub _ q)
  obtain ⟨nv, tok, nloc⟩ := names1_var ht
  obtain ⟨I, mI, uI⟩ : ∃ I : Vis → List Value → Nat → Nat → Heap → Prop, (∀ {P' us c i h}, CompI prog w scope cenv h₀ P₀ W ρb St L wr P' us c i h → I P' us c i h) ∧ (∀ {P' us c i h}, I P' us c i h → CompI prog w scope cenv h₀ P₀ W ρb St L wr P' us c i h) := ⟨_, fun h => h, fun h => h⟩
  obtain ⟨J, mJ, uJ⟩ : ∃ J : Vis → List Value → Nat → Prop, (∀ {P' us i}, CompR prog w f l ds P' us i → J P' us i) ∧ (∀ {P' us i}, J P' us i → CompR prog w f l ds P' us i) := ⟨_, fun h => h, fun h => h⟩
  refine compLoop_own (fun n s' => ∃ P' us c i, (n = ds.length + 1 - i ∧ i ≤ ds.length ∧ SameW s s') ∧ I P' us c i s'.heap ∧ J P' us i) ?_ (ds.length + 1)
    ⟨P, [], c₀, 0, ⟨rfl, Nat.zero_le _, SameW.refl s⟩, mI ⟨F, hSt, hL, hPL, hPw⟩, mJ ⟨[], l, .nil, hl, rfl, Nat.le_refl _⟩⟩
  rintro n s' ⟨P', us, c, i, ⟨rfl, hi, ww⟩, hi1, hj1⟩
  obtain ⟨F, hSt, hL, hPL, hPw⟩ := uI hi1
  obtain ⟨outs, rest, ru, hrest, rfl, hus⟩ := uJ hj1
  clear hi1 hj1 uI uJ
  have hwW : ∀ b ∈ wr, ¬ W b := fun b hb => hfpW b (IT.sub b hb)
  by_cases hlt : i < ds.length
  · obtain ⟨d, hd⟩ : ∃ d, ds[i]? = some d := ⟨ds[i], List.getElem?_eq_getElem hlt⟩
    have hdrop : ds.drop i = d :: ds.drop (i + 1) := by
      rw [List.drop_eq_getElem_cons hlt]
      rw [List.getElem?_eq_getElem hlt] at hd; cases hd; rfl
    rw [hdrop] at hrest
    obtain ⟨o, ef, e2⟩ := Option.bind_eq_some_iff.mp (show (f d).bind _ = some rest from hrest)
    obtain ⟨rest', er, e3⟩ := Option.map_eq_some_iff.mp e2
    obtain ⟨b, cc, eb, et, eo⟩ := hf d o ef
    have hweak : ∀ x r, ρb.get x = some r → (setB b ρb).get x = some r := fun x r e => by
      rw [setB_get_of]
      · exact e
      · intro p hp q; exact hbn x r e (q ▸ nloc d b eb p hp)
    refine wpAny_mono (IT.item t i d s' P' (fun v s₂ => wpAny (model prog w) A (assign t cenv v) _ _ s₂) _ htg hd F.pup F.est.pin hPw hSt fun v h' tk P'' y rv st hk => ?_) (fun r s₁ hr => by obtain ⟨v, rfl, h⟩ := hr; exact h) fun _ _ x => x
    have F₁ : FrameSt prog w scope cenv h₀ P₀ W ρb P'' h' := F.off hk y hwr0 hwW
    have hL₁ := hk L _ hLwr hL
    have hPL₁ : ∀ o, ¬ P'' L o := fun o q => (y.new L o q).elim (hPL o) fun q => by rw [hL] at q; cases q
    have hPw₁ : ∀ a o, P'' a o → a ∉ wr := not_of_wr hPw (fun b hb => IT.live i _ hSt b (IT.sub b hb)) y
    refine assign_sound (s := { s' with heap := h', toks := tk }) R.hd F₁ rv nv eb fun h₂ tk₂ F₂ c₂ => ?_
    have st₂ : St (i + 1) h₂ := IT.frame _ _ _ st fun b hb o e => c₂ b o e (hfpW b hb)
    have hL₂ : h₂.get? L = some (lstO us c) := c₂ L _ hL₁ hLW
    refine trs_sound ifs Ht scope (setB b ρb) cc et A _ { s' with heap := h₂, toks := tk₂ } cenv P'' _ R (kb.trans F₂.base) F₂.est fun s₃ P₃ k₃ w₃ y₃ => ?_
    have F₃ := F₂.step k₃ y₃
    have st₃ : St (i + 1) s₃.heap := IT.frame _ _ _ st₂ fun b _ o e => k₃ b o e
    have hL₃ := k₃ L _ hL₂
    have hPL₃ : ∀ o, ¬ P₃ L o := fun o q => (y₃.new L o q).elim (hPL₁ o) fun q => by rw [show ({ s' with heap := h₂, toks := tk₂ } : Shared).heap.get? L = _ from hL₂] at q; cases q
    have hPw₃ : ∀ a o, P₃ a o → a ∉ wr := not_of_wr hPw₁ (fun b hb => IT.live _ _ st₂ b (IT.sub b hb)) y₃
    have ww₃ : SameW s s₃ := ww.trans ⟨w₃.1, w₃.2⟩
    rcases eo with ⟨rfl, rfl⟩ | ⟨rfl, yv, m, ey, hm, rfl⟩
    · rw [if_neg Bool.false_ne_true]
      exact ⟨ds.length + 1 - (i + 1), by (first | lia | omega), P₃, us, c, i + 1, ⟨rfl, hlt, ww₃⟩, mI ⟨F₃.weak hweak, st₃, hL₃, hPL₃, hPw₃⟩, mJ ⟨outs, rest', ru.mono fun a o q => y₃.up a o (y.up a o q), er, by simp only [] at e3; rw [e3], Nat.le_succ_of_le hus⟩⟩
    · rw [if_pos rfl]
      refine He scope (setB b ρb) yv m ey A _ s₃ cenv P₃ _ R (kb.trans F₃.base) F₃.est fun u s₄ P₄ k₄ w₄ y₄ x₄ => ?_
      obtain ⟨P₅, y₅, up₅, r₅⟩ := x₄.freeze hm y₄
      have F₄ := F₃.step k₄ y₅
      have st₄ : St (i + 1) s₄.heap := IT.frame _ _ _ st₃ fun b _ o e => k₄ b o e
      have hL₄ := k₄ L _ hL₃
      have hPL₄ : ∀ o, ¬ P₅ L o := fun o q => (y₅.new L o q).elim (hPL₃ o) fun q => by rw [hL₃] at q; cases q
      have hPw₄ : ∀ a o, P₅ a o → a ∉ wr := not_of_wr hPw₃ (fun b hb => IT.live _ _ st₃ b (IT.sub b hb)) y₅
      refine wpAny_list_append_plain (items := us.toArray) ⟨c, hL₄⟩ (fun h₅ hp hs => ?_) (by rw [List.size_toArray, sizeLine_eq]; (first | lia | omega))
      obtain ⟨c₅, hL₅⟩ := hp
      rw [show us.toArray.push u = (us ++ [u]).toArray by simp] at hL₅
      have k₅ : ∀ b o, b ∉ [L] → s₄.heap.get? b = some o → h₅.get? b = some o := fun b o hb e => hs.extBut b o (fun q => hb (by simp [q])) e
      have F₅ : FrameSt prog w scope cenv h₀ P₀ W (setB b ρb) P₅ h₅ := F₄.off (wr := [L]) k₅ ⟨fun _ _ q => q, fun a o q => k₅ a o (fun z => by simp at z; subst z; exact hPL₄ o q) (F₄.est.pin a o q), fun _ _ q => .inl q⟩
        (fun b hb => by simp at hb; subst hb; exact hL0) (fun b hb => by simp at hb; subst hb; exact hLW)
      exact ⟨ds.length + 1 - (i + 1), by (first | lia | omega), P₅, us ++ [u], c₅, i + 1, ⟨rfl, hlt, ww₃.trans ⟨w₄.1, w₄.2⟩⟩, mI ⟨F₅.weak hweak, IT.frame _ _ _ st₄ fun b hb o e => hs.extBut b o (fun q => hLfp (q ▸ hb)) e, hL₅, hPL₄, hPw₄⟩, mJ ⟨outs ++ [yv], rest',
        (ru.mono fun a o q => y₅.up a o (y₃.up a o (y.up a o q))).append (.cons r₅ .nil), er, by simp only [] at e3; rw [← e3]; simp, by rw [List.length_append, List.length_singleton]; (first | lia | omega)⟩⟩
  · have hin : i = ds.length := by (first | lia | omega)
    refine wpAny_mono (IT.done s' (fun s₁ => RR (.ok .next) s₁) _ (hin ▸ hSt) fun h' tk hk => ?_) (fun r s₁ hr => by obtain ⟨rfl, h⟩ := hr; exact h) fun _ _ x => x
    have F₁ : FrameSt prog w scope cenv h₀ P₀ W ρb P' h' := F.off hk ⟨fun _ _ q => q, fun a o q => hk a o (hPw a o q) (F.est.pin a o q), fun _ _ q => .inl q⟩ hwr0 hwW
    have : rest = [] := by
      rw [hin, List.drop_length] at hrest
      simp only [compGo] at hrest; cases hrest; rfl
    subst this
    exact hR { s' with heap := h', toks := tk } P' us c ⟨ww.1, ww.2⟩ F₁ (hk L _ hLwr hL) hPL (by simpa using ru)

theorem scopeOk_of {sc scope : Scope} (h : scopeOk sc scope = true) : scope.kind = .function ∧ (∀ x ∈ scope.names, x.2 ≠ .cell) ∧ (∀ x ∈ scope.names, x.2 = .local → scope.names.lookup x.1 = some .local) ∧
    (∀ x ∈ scope.names, x.2 = .free → scope.names.lookup x.1 = some .free ∧ sc.names.lookup x.1 = some .cell) := by
  unfold scopeOk at h
  simp only [Bool.and_eq_true, beq_iff_eq, List.all_eq_true, bne_iff_ne, Bool.or_eq_true, ne_eq] at h
  obtain ⟨⟨h1, _⟩, h2⟩ := h
  refine ⟨h1, fun x hx => (h2 x hx).1.1, fun x hx e => ?_, fun x hx e => ?_⟩
  · rcases (h2 x hx).1.2 with q | q
    · exact absurd e q
    · exact q
  · rcases (h2 x hx).2 with q | q
    · exact absurd e q
    · exact q

set_option tactic.hygienic true in
theorem lookup_mem {α β : Type} [BEq α] [LawfulBEq α] {l : List (α × β)} {x : α} {y : β} (h : l.lookup x = some y) : (x, y) ∈ l := by
  induction l with
  | nil => cases h
  | cons a l ih =>
    obtain ⟨a, b⟩ := a
    rw [List.lookup_cons] at h
    split at h
    · rename_i q; rw [beq_iff_eq] at q; cases h; subst q; exact List.mem_cons_self ..
    · exact List.mem_cons_of_mem _ (ih h)

theorem folded_ok {it : Expr} {env : Env} {x : Value} (h : iterOk it = true) : foldedSetIterable it env x = pure x := by
  cases it <;> first | rfl | exact ff h
theorem comp_all (Wl : Wld prog w cx lv hb) {elt t iter : Expr} {ifs : List Expr} {scope : Scope} {pos : Pos} (Hi : ESound prog w cx lv hb iter) (He : ESound prog w cx lv hb elt) (Ht : ∀ c ∈ ifs, TSound prog w cx lv hb c)
    {sc : Scope} {ρ : Rho} {l : List D} (hsc : scopeOk sc scope = true) (hfr : freeOk scope ρ = true) (ht : names1 scope t = true) (hio : iterOk iter = true) {a : D} {m : Mode} (ei : ev cx iter sc ρ = some (a, m)) (hm : m ≠ .bor)
    {ds : List D} (eds : iterItems t a = some ds) (hn : ds.length ≤ 100000) {f : D → Option (Option D)} (hf : CompTurn cx t elt ifs scope (compBase scope ρ) f) (hl : compGo f ds = some l) :
    ∀ (A : Around) (E : Value → Shared → Prop) (s : Shared) (env : Env) (P : Vis) (use : Option (Value → Sem Unit)) (Q : Value → Shared → Prop) (cpos : Pos), Room A lv → Sub hb s.heap → EnvSt prog w sc env ρ P s.heap →
      (∀ s' P' L C, Sub s.heap s'.heap → SameW s s' → PExt P s.heap P' s'.heap → Val prog w s.heap P' s'.heap (.ref L) (.list l) .fre → s.heap.get? C = none → L ≠ C → (∀ o, ¬ P' C o) → (∃ m, s'.heap.Ns C m) →
        compPost (model prog w) A E use Q (.ref L) C (.ok .next) s') →
      wpAny (model prog w) A (comprehension (.ListComp elt [⟨t, iter, ifs, 0⟩] scope pos) scope env cpos (newList []) false (eval iter env) use) Q E s := by
  intro A E s env P use Q cpos R kb X hQ
  obtain ⟨hkind, hcell, hloc, hfree⟩ := scopeOk_of hsc
  have hs : ∀ x, foldedSetIterable iter env x = pure x := by
    exact fun x => folded_ok hio
  have hfv : ∀ x ∈ scope.names, x.2 = .free → ∃ c v, env.cells.lookup x.1 = some c ∧ s.heap.IsCell c (some v) := by
    intro x hx hf
    have hr : (ρ.get x.1).isSome = true := by
      unfold freeOk at hfr
      rw [List.all_eq_true] at hfr
      have := hfr x hx
      simpa [hf] using this
    obtain ⟨⟨d, md⟩, hr⟩ := Option.isSome_iff_exists.mp hr
    obtain ⟨_, v, z, _⟩ := X.vars _ _ _ hr
    have hc := X.imc _ (hfree x hx hf).2
    rcases z with ⟨k, _⟩ | ⟨_, c, lc, ic⟩
    · rw [hc] at k; cases k
    · exact ⟨c, v, lc, ic⟩
  obtain ⟨cl, hclos, hcl1, hcl2⟩ := closureFor_gives (env := env) (scope := scope) fun x hx hf => let ⟨c, _, h, _⟩ := hfv x hx hf; ⟨c, h⟩
  refine wpAny_comprehension_free (use := use) rfl hs hclos hkind hloc ?_
  refine Hi sc ρ a m ei A E s env P _ R kb X fun v s₁ P₁ k₁ w₁ y₁ x₁ => ?_
  obtain ⟨P₂, y₂, up₂, r₂⟩ := x₁.freeze hm y₁
  obtain ⟨nv, tok, nloc⟩ := names1_var ht
  refine iter_sound R.hd y₂.at_ r₂ tok eds fun it h' tg fp wr St k' hwr hfp htg IT st0 => ?_
  refine wpAny_newObj_type (wpAny_newFunctionEnv hcell (by intro y hy; simp at hy) (fun h₁ hns₁ hsb₁ => ?_) hkind)
  dsimp only at hns₁ hsb₁ ⊢
  generalize hH2 : h'.push { cls := .type "list", dict := none, data := .seq ([] : List Value).toArray } = H2 at hns₁ hsb₁ ⊢
  have hC : H2.objs.size = h'.objs.size + 1 := by rw [← hH2, Heap.size_push]
  have hDC : h'.objs.size ≠ H2.objs.size := by rw [hC]; exact Nat.ne_of_lt (Nat.lt_succ_self _)
  have below : ∀ b, b < h'.objs.size → b ≠ H2.objs.size ∧ b ≠ h'.objs.size := fun b hb => ⟨by rw [hC]; exact Nat.ne_of_lt (Nat.lt_succ_of_lt hb), Nat.ne_of_lt hb⟩
  have old : ∀ b o, h'.get? b = some o → h₁.get? b = some o := fun b o e => hsb₁.extBut b o (below b (Heap.lt_size e)).1 (Heap.get?_push_of_some _ (hH2 ▸ Heap.get?_push_of_some _ e))
  have hacc : h₁.get? h'.objs.size = some (lstO [] 0) := hsb₁.extBut _ _ hDC (Heap.get?_push_of_some _ (hH2 ▸ Heap.get?_push_size _ rfl))
  have st₁ : St 0 h₁ := IT.frame _ _ _ st0 fun b _ o e => old b o e
  have fresh : ∀ (g : Heap) a, Sub g h' → h'.objs.size ≤ a → g.get? a = none := fun g a hg ha => by
    cases e : g.get? a with
    | none => rfl
    | some o' => exact absurd (Heap.lt_size (hg _ _ e)) (Nat.not_lt.mpr ha)
  have hCle : h'.objs.size ≤ H2.objs.size := by rw [hC]; exact Nat.le_succ _
  have hfpl : ∀ b ∈ fp, b < h'.objs.size := fun b hb => let ⟨o, ho⟩ := IT.live 0 h' st0 b hb; Heap.lt_size ho
  have base : Sub s₁.heap h₁ := fun b o e => old b o (k' b o e)
  have cin : ∀ n c, cl.lookup n = some c → ∃ o, s₁.heap.get? c = some o := fun n c e => by
    obtain ⟨e1, e2⟩ := hcl1 n c e
    obtain ⟨c', v', e3, o, e4, _⟩ := hfv _ e2 rfl
    rw [e1] at e3; cases e3
    exact ⟨o, k₁ _ _ e4⟩
  have kO : ∀ x, (compEnvC scope cl H2.objs.size env).kindOf x = (scope.names.lookup x).map fun k => if (k == NameKind.free && env.scope.kind == .function && env.kindOf x == some .cell) = true then NameKind.cell else k := fun x => lookup_relabel
  have F₁ : FrameSt prog w scope (compEnvC scope cl H2.objs.size env) s₁.heap P₂ (fun b => b = H2.objs.size) (compBase scope ρ) P₂ h₁ := {
    est := {
      kind := hkind
      glb := X.glb
      blt := X.blt
      imp := fun x e => by rw [kO, e]; rfl
      imc := fun x e => by rw [kO, e]; rfl
      vars := fun x d md e => by
        obtain ⟨q1, q2, q3⟩ := compBase_get e
        dsimp only at q1
        subst q1
        obtain ⟨_, u, z, vv⟩ := X.vars _ _ _ q2
        obtain ⟨f1, f2⟩ := hfree _ q3 rfl
        have hc := X.imc _ f2
        refine ⟨by simp, u, ?_, vv.mono fun a o q => y₂.up a o q⟩
        rcases z with ⟨k, _⟩ | ⟨_, c, lc, ic⟩
        · rw [hc] at k; cases k
        · refine .inr ⟨.inl ?_, c, ?_, ic.keeps fun b o e => base b o (k₁ b o e)⟩
          · rw [kO, f1, hc]; simp [X.kind]
          · show cl.lookup x = some c
            rw [hcl2 _ q3 rfl]; exact lc
      pin := fun a o q => base a o (y₂.at_ a o q) }
    base := base
    pup := fun _ _ q => q
    pnew := fun _ _ q => .inl q
    wnew := fun a e => by subst e; exact fresh _ _ k' hCle
    wdom := fun a e => by subst e; obtain ⟨o, _, _, ho, _⟩ := hns₁; exact ⟨o, ho⟩
    pw := fun a o q e => by subst e; have := y₂.at_ _ _ q; rw [fresh _ _ k' hCle] at this; cases this
    loc := rfl
    ns := ⟨_, hns₁⟩
    lk := fun x e => by rw [kO, e]; rfl
    ck := fun x e => absurd rfl (hcell _ (lookup_mem e))
    cl := fun x c e q => by
      obtain ⟨o, ho⟩ := cin x c e
      rw [show c = H2.objs.size from q, fresh _ _ k' hCle] at ho; cases ho
    ca := fun x y c e => absurd rfl (hcell _ (lookup_mem e))
    cx := fun x c e => .inr (cin x c e)
    own := fun x d a e => by have := (compBase_get e).1; cases this
    apart := fun x y a d d' hn e => by have := (compBase_get e).1; cases this }
  have hfpC : ∀ b ∈ fp, ¬ (b = H2.objs.size) := fun b hb => (below b (hfpl b hb)).1
  have hLfp : h'.objs.size ∉ fp := fun q => Nat.lt_irrefl _ (hfpl _ q)
  have hPL : ∀ o, ¬ P₂ h'.objs.size o := fun o q => by have := y₂.at_ _ _ q; rw [fresh _ _ k' (Nat.le_refl _)] at this; cases this
  have hPwr : ∀ a o, P₂ a o → a ∉ wr := fun a o q z => by have := y₂.at_ _ _ q; rw [hwr a z] at this; cases this
  have hbn : ∀ x r, Rho.get x (compBase scope ρ) = some r → scope.names.lookup x ≠ some .local := fun x r e q => by
    have := (hfree _ (compBase_get e).2.2 rfl).1
    rw [this] at q; cases q
  have hbig : 1 < h'.objs.size := (Wl.big.keeps (kb.trans (k₁.trans k'))).lt
  have loop : ∀ s₃ : Shared, s₃ = { s₁ with heap := h₁, toks := s₁.toks + ([] : List (Str × Value)).length } →
      codeAny (model prog w) A (.compLoop (.ListComp elt [⟨t, iter, ifs, 0⟩] scope pos) 0 it (.ref h'.objs.size) (compEnvC scope cl H2.objs.size env))
        (compPost (model prog w) A E use Q (.ref h'.objs.size) H2.objs.size) s₃ := by
    rintro s₃ rfl
    refine comp_loop (c₀ := 0) (P := P₂) Wl He Ht ht R (kb.trans k₁) IT htg hwr hfpC hLfp hDC (fresh _ _ k' (Nat.le_refl _)) hbn hn hf hl (fun s' P' us c ww F' hL' hPL' ru => ?_) F₁ st₁ hacc hPL hPwr
    have sub' : Sub s.heap s'.heap := fun b o e => F'.base b o (k₁ b o e)
    refine hQ s' P' _ _ sub' ⟨ww.1.trans w₁.1, ww.2.trans w₁.2⟩ (y₂.trans k₁ ⟨F'.pup, F'.est.pin, F'.pnew⟩) ?_ (fresh _ _ (k₁.trans k') hCle) hDC (fun o q => F'.pw _ o q rfl) F'.ns
    exact ⟨_, _, rfl, beq_eq_false_iff_ne.mpr (Nat.ne_of_gt hbig), fresh _ _ (k₁.trans k') (Nat.le_refl _), hL', hPL', rfl, rfl, us, c, rfl, ru⟩
  exact codeAny_compStart_list (loop _ rfl) (IT.self 0 _ _ _ st₁ (loop _ rfl))

set_option tactic.hygienic true in
theorem comp_eq (cx : Cx) (scope : Scope) (ρ : Rho) (t elt : Expr) (ifs : List Expr) : CompTurn cx t elt ifs scope (compBase scope ρ) (fun d => (bindT t d).bind fun b => (trs cx ifs scope (compRho scope b ρ)).bind fun c =>
    if c = true then (ev cx elt scope (compRho scope b ρ)).bind fun y => if y.2 = .bor then none else some (some y.1) else some none) := by
  intro d o e
  obtain ⟨b, e1, e⟩ := Option.bind_eq_some_iff.mp e
  obtain ⟨c, e2, e⟩ := Option.bind_eq_some_iff.mp e
  refine ⟨b, c, e1, e2, ?_⟩
  cases c with
  | false => rw [if_neg Bool.false_ne_true] at e; cases e; exact .inl ⟨rfl, rfl⟩
  | true =>
    rw [if_pos rfl] at e
    obtain ⟨⟨y, m⟩, e3, e⟩ := Option.bind_eq_some_iff.mp e
    dsimp only at e
    split at e
    · cases e
    · rename_i hm; cases e; exact .inr ⟨rfl, y, m, e3, hm, rfl⟩

set_option tactic.hygienic true in
theorem comp_expr (Wl : Wld prog w cx lv hb) {elt t iter : Expr} {ifs : List Expr} {scope : Scope} {pos : Pos} (Hi : ESound prog w cx lv hb iter) (He : ESound prog w cx lv hb elt) (Ht : ∀ c ∈ ifs, TSound prog w cx lv hb c) :
    ESound prog w cx lv hb (.ListComp elt [⟨t, iter, ifs, 0⟩] scope pos) := by
  intro sc ρ d m e A E s env P Q R kb X h
  replace e := eComp.symm.trans e
  first | (replace e := iteS e; obtain ⟨hz, e⟩ := e) | (replace e := iteN e; obtain ⟨hz, e⟩ := e) | ((split at e <;> first | (exact nno e) | skip); (rename_i hz))
  obtain ⟨hsc, hfr, ht, hio⟩ := hz
  obtain ⟨⟨a, m1⟩, ei, e⟩ := Option.bind_eq_some_iff.mp e
  dsimp only at e
  first | (replace e := iteS e; obtain ⟨hm, e⟩ := e) | (replace e := iteN e; obtain ⟨hm, e⟩ := e) | ((split at e <;> first | (exact nno e) | skip); (rename_i hm))
  obtain ⟨ds, eds, e⟩ := Option.bind_eq_some_iff.mp e
  first | (replace e := iteS e; obtain ⟨hn, e⟩ := e) | (replace e := iteN e; obtain ⟨hn, e⟩ := e) | ((split at e <;> first | (exact nno e) | skip); (rename_i hn))
  obtain ⟨l, hl, e2⟩ := Option.map_eq_some_iff.mp e
  cases e2
  rw [eval_ListComp]
  refine comp_all Wl Hi He Ht hsc hfr ht hio ei hm eds hn (comp_eq cx scope ρ t elt ifs) hl A E s env P none Q _ R kb X fun s' P' L C k ww y x hC hLC hPC hns => ?_
  obtain ⟨mm, hns⟩ := hns
  refine ⟨mm, hns, fun h' hs' => ?_⟩
  have k' : Sub s.heap h' := fun b o e => hs'.extBut b o (fun q => by rw [q, hC] at e; cases e) (k b o e)
  refine h _ _ P' k' ⟨ww.1, ww.2⟩ ⟨y.up, fun a o q => hs'.extBut a o (fun z => hPC o (z ▸ q)) (y.at_ a o q), y.new⟩ ?_
  obtain ⟨a', o, e1, z, n, e2, q⟩ := x
  cases e1
  exact ⟨_, o, rfl, z, n, hs'.extBut _ _ hLC e2, q⟩
end
end Mine

namespace Mine
section
variable {prog : Program} {w : World} {cx : Cx} {lv : Nat} {hb : Heap}

theorem esound_none {e : Expr} (h : ∀ sc ρ, ev cx e sc ρ = none) : ESound prog w cx lv hb e := by
  intro sc ρ d m e1; rw [h] at e1; cases e1
theorem both_none {e : Expr} (hp : plainTest e = true) (h : ∀ sc ρ, ev cx e sc ρ = none) : ESound prog w cx lv hb e ∧ TSound prog w cx lv hb e := ⟨esound_none h, tsound_plain hp (esound_none h)⟩
theorem both_plain {e : Expr} (hp : plainTest e = true) (h : ESound prog w cx lv hb e) : ESound prog w cx lv hb e ∧ TSound prog w cx lv hb e := ⟨h, tsound_plain hp h⟩

set_option tactic.hygienic true in
theorem call_name_sound (Wl : Wld prog w cx lv hb) {f : Str} {args : List Expr} {fp pos : Pos} (H : ∀ e ∈ args, ESound prog w cx lv hb e)
    (H2 : ∀ f' fp' e' pos', args = [.Call (.Name f' fp') [e'] [] pos'] → ESound prog w cx lv hb e') : ESound prog w cx lv hb (.Call (.Name f fp) args [] pos) := by
  intro sc ρ d m e A E s env P Q R kb X h
  replace e := eCall.symm.trans e
  first | (replace e := iteS e; obtain ⟨hf, e⟩ := e) | (replace e := iteN e; obtain ⟨hf, e⟩ := e) | ((split at e <;> first | (exact nno e) | skip); (rename_i hf))
  split at e
  · rename_i hl; exact callE_sound Wl enum_list_ok H2 hf hl e A E s env P Q R kb X h
  · exact callD_sound Wl H hf e A E s env P Q R kb X h

theorem all_sound (Wl : Wld prog w cx lv hb) : ∀ (n : Nat) (e : Expr), sizeOf e < n → ESound prog w cx lv hb e ∧ TSound prog w cx lv hb e := by
  intro n
  induction n with
  | zero => intro e h; exact absurd h (Nat.not_lt_zero _)
  | succ n ih =>
    intro e h
    have mem : ∀ {es : List Expr} {x : Expr}, x ∈ es → sizeOf es < n → sizeOf x < n := fun hx hs => Nat.lt_trans (List.sizeOf_lt_of_mem hx) hs
    cases e with
    | Constant c k p => exact both_plain rfl constD_sound
    | Name x p => exact both_plain rfl (name_sound Wl)
    | BoolOp op vs p =>
      rw [Expr.BoolOp.sizeOf_spec] at h
      have hv : ∀ e ∈ vs, ESound prog w cx lv hb e ∧ TSound prog w cx lv hb e := fun e he => ih e (mem he (by (first | lia | omega)))
      exact ⟨boolop_sound fun e he => (hv e he).1, tsound_bool fun e he => (hv e he).2⟩
    | BinOp l op r p =>
      rw [Expr.BinOp.sizeOf_spec] at h
      exact both_plain rfl (binop_snd Wl (ih l (by (first | lia | omega))).1 (ih r (by (first | lia | omega))).1)
    | UnaryOp op x p =>
      rw [Expr.UnaryOp.sizeOf_spec] at h
      exact ⟨unop_snd (ih x (by (first | lia | omega))).1, tsound_not (ih x (by (first | lia | omega))).2⟩
    | IfExp t b o p =>
      rw [Expr.IfExp.sizeOf_spec] at h
      refine ⟨ifexp_sound (ih t (by (first | lia | omega))).2 (ih b (by (first | lia | omega))).1 (ih o (by (first | lia | omega))).1, ?_⟩
      intro sc ρ b e; cases e
    | List elts p =>
      rw [Expr.List.sizeOf_spec] at h
      exact both_plain rfl (list_sound Wl fun e he => (ih e (mem he (by (first | lia | omega)))).1)
    | Tuple elts k p =>
      rw [Expr.Tuple.sizeOf_spec] at h
      exact both_plain rfl (tuple_sound fun e he => (ih e (mem he (by (first | lia | omega)))).1)
    | Dict ks vs p => exact both_plain rfl (dict_sound Wl)
    | Compare l ops rs p =>
      rw [Expr.Compare.sizeOf_spec] at h
      exact compare_sound (ih l (by (first | lia | omega))).1 fun e he => (ih e (mem he (by (first | lia | omega)))).1
    | Attribute o nm p =>
      rw [Expr.Attribute.sizeOf_spec] at h
      exact both_plain rfl (attr_sound Wl (ih o (by (first | lia | omega))).1)
    | Subscript v sl p =>
      rw [Expr.Subscript.sizeOf_spec] at h
      have hv := (ih v (by (first | lia | omega))).1
      by_cases hs : ∃ lo hi q, sl = .Slice (some lo) (some hi) none q
      · obtain ⟨lo, hi, q, rfl⟩ := hs
        exact both_plain rfl (slice_sound Wl hv (ih lo (by rw [Expr.Slice.sizeOf_spec] at h; simp at h; (first | lia | omega))).1 (ih hi (by rw [Expr.Slice.sizeOf_spec] at h; simp at h; (first | lia | omega))).1)
      · exact both_plain rfl (sub_sound Wl (fun lo hi q e => hs ⟨lo, hi, q, e⟩) hv (ih sl (by (first | lia | omega))).1)
    | Call func args kws p =>
      have ha : ∀ e ∈ args, ESound prog w cx lv hb e := fun e he => (ih e (mem he (by simp at h; (first | lia | omega)))).1
      cases kws with
      | cons k ks => exact both_none rfl (by intro sc ρ; cases func <;> rfl)
      | nil =>
        cases func with
        | Name f fp =>
          refine both_plain rfl (call_name_sound Wl ha fun f' fp' e' pos' q => ?_)
          subst q
          exact (ih e' (by simp at h; (first | lia | omega))).1
        | Attribute o nm ap => exact both_plain rfl (meth_sound Wl (ih o (by simp at h; (first | lia | omega))).1 ha)
        | _ => exact both_none rfl fun _ _ => rfl
    | ListComp elt gens scope p =>
      by_cases hg : ∃ t it ifs, gens = [⟨t, it, ifs, 0⟩]
      · obtain ⟨t, iter, ifs, rfl⟩ := hg
        exact both_plain rfl (comp_expr Wl (ih iter (by simp at h; (first | lia | omega))).1 (ih elt (by simp at h; (first | lia | omega))).1 fun c hc => (ih c (mem hc (by simp at h; (first | lia | omega)))).2)
      · exact both_none rfl fun _ _ => eCompN fun t it ifs q => hg ⟨t, it, ifs, q⟩
    | _ => exact both_none rfl fun _ _ => rfl

theorem esound (Wl : Wld prog w cx lv hb) (e : Expr) : ESound prog w cx lv hb e := (all_sound Wl _ e (Nat.lt_succ_self _)).1
theorem tsound (Wl : Wld prog w cx lv hb) (e : Expr) : TSound prog w cx lv hb e := (all_sound Wl _ e (Nat.lt_succ_self _)).2
end
end Mine

namespace Mine

structure Mid (W₀ : Addr → Prop) (P₁ : Vis) (h₁ : Heap) (W : Addr → Prop) (P : Vis) (h : Heap) : Prop where
  wu : ∀ a, W₀ a → W a
  wn : ∀ a, W a → W₀ a ∨ h₁.get? a = none
  ch : Chg W₀ h₁ h
  pu : ∀ a o, P₁ a o → P a o
  pn : ∀ a o, P a o → P₁ a o ∨ h₁.get? a = none
  dom : ∀ b o, h₁.get? b = some o → ∃ o', h.get? b = some o'
theorem Mid.refl (W : Addr → Prop) (P : Vis) (h : Heap) : Mid W P h W P h := ⟨fun _ e => e, fun _ e => .inl e, fun _ _ e _ => e, fun _ _ e => e, fun _ _ e => .inl e, fun _ o e => ⟨o, e⟩⟩
theorem Mid.trans {W₀ W W' : Addr → Prop} {P₁ P P' : Vis} {h₁ h h' : Heap} (x : Mid W₀ P₁ h₁ W P h) (y : Mid W P h W' P' h') : Mid W₀ P₁ h₁ W' P' h' := by
  have none : ∀ a, h.get? a = none → h₁.get? a = none := fun a e => by
    cases q : h₁.get? a with
    | none => rfl
    | some o => obtain ⟨o', e'⟩ := x.dom a o q; rw [e] at e'; cases e'
  refine ⟨fun a e => y.wu a (x.wu a e), fun a e => (y.wn a e).elim (x.wn a) fun q => .inr (none a q), fun b o e nb => ?_, fun a o e => y.pu a o (x.pu a o e), fun a o e => (y.pn a o e).elim (x.pn a o) fun q => .inr (none a q), fun b o e => let ⟨o', e'⟩ := x.dom b o e; y.dom b o' e'⟩
  refine y.ch b o (x.ch b o e nb) fun q => ?_
  rcases x.wn b q with q | q
  · exact nb q
  · rw [e] at q; cases q
theorem Mid.sub {W : Addr → Prop} {P P' : Vis} {h h' : Heap} (k : Sub h h') (y : PExt P h P' h') : Mid W P h W P' h' := ⟨fun _ e => e, fun _ e => .inl e, fun b o e _ => k b o e, y.up, y.new, fun b o e => ⟨o, k b o e⟩⟩

section
variable {prog : Program} {w : World} {A : Around} {E : Value → Shared → Prop} {s : Shared} {sc : Scope} {env : Env} {h₀ : Heap} {P₀ P : Vis} {W : Addr → Prop} {ρ : Rho}

theorem FrameSt.add {h : Heap} {a : Addr} {o : Obj} (F : FrameSt prog w sc env h₀ P₀ W ρ P h) (nw : ¬ W a) (n0 : h₀.get? a = none) (e : h.get? a = some o) : FrameSt prog w sc env h₀ P₀ W ρ (PAdd P a o) h :=
  { F with
    est := { F.est with
      vars := fun x d m q => by
        obtain ⟨hm, v, z, y⟩ := F.est.vars x d m q
        refine ⟨hm, v, z, ?_⟩
        cases m with
        | fro => exact Rep.mono (fun _ _ e => .inl e) y
        | fre => exact absurd rfl hm
        | bor =>
          obtain ⟨a', o', e1, z', e2, e3, p1, p2, r⟩ := y
          subst e1
          have hw := (F.own x d a' q z).1
          exact ⟨a', o', rfl, z', e2, fun o'' q' => q'.elim (e3 o'') (fun c => nw (c.1 ▸ hw)), p1, p2, r.mono fun _ _ e => .inl e⟩
      pin := fun b q hq => hq.elim (F.est.pin b q) (by rintro ⟨rfl, rfl⟩; exact e) }
    pup := fun b q hq => .inl (F.pup b q hq)
    pnew := fun b q hq => hq.elim (F.pnew b q) (by rintro ⟨rfl, rfl⟩; exact .inr n0)
    pw := fun b q hq => hq.elim (F.pw b q) (by rintro ⟨rfl, rfl⟩; exact nw) }

noncomputable def PendV (prog : Program) (w : World) (h₁ : Heap) (W : Addr → Prop) (P : Vis) (h : Heap) (v : Value) (r : D × Mode) : Prop :=
  (r.2 = .fro ∧ Rep prog w P v r.1) ∨ (r.2 = .fre ∧ ∃ a o, v = .ref a ∧ (a == sysModules) = false ∧ ¬ W a ∧ h₁.get? a = none ∧ h.get? a = some o ∧ (∀ q, ¬ P a q) ∧ o.dict = none ∧ o.slots = #[] ∧ ObjIs prog w P o r.1)

theorem PendV.of {h : Heap} {v : Value} {d : D} {m : Mode} {P' : Vis} {h' : Heap} (F : FrameSt prog w sc env h₀ P₀ W ρ P h) (hm : m ≠ .bor) (x : Val prog w h P' h' v d m) : PendV prog w h W P' h' v (d, m) := by
  cases m with
  | fro => exact .inl ⟨rfl, x⟩
  | bor => exact absurd rfl hm
  | fre =>
    obtain ⟨a, o, e, z, n, e1, q, p1, p2, r⟩ := x
    have nw : ¬ W a := fun hw => by obtain ⟨o', h'⟩ := F.wdom a hw; rw [n] at h'; cases h'
    exact .inr ⟨rfl, a, o, e, z, nw, n, e1, q, p1, p2, r⟩

theorem store_one {x : Str} {v : Value} {r : D × Mode} {mu : List Str} {W₀ : Addr → Prop} {P₁ : Vis} {h₁ : Heap} {Q : Unit → Shared → Prop} (F : FrameSt prog w sc env h₀ P₀ W ρ P s.heap) (M : Mid W₀ P₁ h₁ W P s.heap) (h01 : ∀ a, h₁.get? a = none → h₀.get? a = none)
    (hx : sc.names.lookup x = some .local ∨ sc.names.lookup x = some .cell) (pv : PendV prog w h₁ W P s.heap v r)
    (h : ∀ h' tk P' W', Mid W₀ P₁ h₁ W' P' h' → FrameSt prog w sc env h₀ P₀ W' (ρ.set x (r.1, if r.2 = .fre ∧ mu.contains x = true then .bor else .fro)) P' h' →
      (∀ v' r', PendV prog w h₁ W P s.heap v' r' → (r.2 = .fre → r'.2 = .fre → v ≠ v') → PendV prog w h₁ W' P' h' v' r') → (∀ b o, s.heap.get? b = some o → ¬ W b → h'.get? b = some o) → (∀ a o, P' a o → P a o ∨ v = .ref a) → (∀ a, W' a → W a ∨ v = .ref a) → Q () { s with heap := h', toks := tk }) :
    wpAny (model prog w) A (storeName env x v) Q E s := by
  obtain ⟨d, m⟩ := r
  have mid : ∀ h' P' W', (∀ a, W a → W' a) → (∀ a, W' a → W a ∨ h₁.get? a = none) → Chg W s.heap h' → (∀ a o, P a o → P' a o) → (∀ a o, P' a o → P a o ∨ h₁.get? a = none) → (∀ a, W a → ∃ o, h'.get? a = some o) → Mid W₀ P₁ h₁ W' P' h' := fun h' P' W' a1 a2 a3 a4 a5 a6 =>
    ⟨fun a e => a1 a (M.wu a e), fun a e => (a2 a e).elim (M.wn a) .inr, fun b o e nb => a3 b o (M.ch b o e nb) fun q => (M.wn b q).elim nb fun q => (by rw [e] at q; cases q), fun a o e => a4 a o (M.pu a o e), fun a o e => (a5 a o e).elim (M.pn a o) .inr,
      fun b o e => by
        by_cases hb : W b
        · exact a6 b hb
        · obtain ⟨o', e'⟩ := M.dom b o e
          exact ⟨o', a3 b o' e' hb⟩⟩
  rcases pv with ⟨hm, rv⟩ | ⟨hm, a, o, rfl, z, nw, n1, e1, q, p1, p2, rv⟩
  · dsimp only at hm; subst hm
    refine store_fro F hx rv fun h' tk F' c' => h h' tk P W (mid h' P W (fun _ e => e) (fun _ e => .inl e) c' (fun _ _ e => e) (fun _ _ e => .inl e) F'.wdom) (by simpa using F') (fun v' r' pv' _ => ?_) c' (fun _ _ e => .inl e) (fun _ e => .inl e)
    rcases pv' with pv' | ⟨hm', a', o', e2, z', nw', n1', e1', q'⟩
    · exact .inl pv'
    · exact .inr ⟨hm', a', o', e2, z', nw', n1', c' _ _ e1' nw', q'⟩
  · dsimp only at hm; subst hm
    by_cases hmu : mu.contains x = true
    · refine store_own F hx ⟨a, o, rfl, z, e1, q, p1, p2, rv⟩ nw (h01 a n1) fun h' tk F' c' => h h' tk P (fun b => W b ∨ b = a) (mid h' P _ (fun _ e => .inl e) (fun b e => e.elim .inl fun e => .inr (e ▸ n1)) c' (fun _ _ e => e) (fun _ _ e => .inl e) fun b e => F'.wdom b (.inl e)) (by rw [if_pos ⟨rfl, hmu⟩]; exact F') (fun v' r' pv' hne => ?_) c' (fun _ _ e => .inl e) (fun b e => e.imp id fun e => by rw [e])
      rcases pv' with pv' | ⟨hm', a', o', e2, z', nw', n1', e1', q'⟩
      · exact .inl pv'
      · exact .inr ⟨hm', a', o', e2, z', fun w' => w'.elim nw' fun w' => hne rfl hm' (by rw [e2, w']), n1', c' _ _ e1' nw', q'⟩
    · have F₂ := F.add nw (h01 a n1) e1
      refine store_fro F₂ hx (show Rep prog w (PAdd P a o) (.ref a) d from (rv.mono fun _ _ e => .inl e).rep z (.inr ⟨rfl, rfl⟩)) fun h' tk F' c' => h h' tk (PAdd P a o) W (mid h' _ W (fun _ e => e) (fun _ e => .inl e) c' (fun _ _ e => .inl e) (fun b o' e => e.elim .inl fun e => .inr (e.1 ▸ n1)) F'.wdom) (by rw [if_neg (fun q => hmu q.2)]; exact F') (fun v' r' pv' hne => ?_) c' (fun b _ e => e.imp id fun e => by rw [e.1]) (fun _ e => .inl e)
      rcases pv' with ⟨hm', pv'⟩ | ⟨hm', a', o', e2, z', nw', n1', e1', q', p1', p2', rv'⟩
      · exact .inl ⟨hm', pv'.mono fun _ _ e => .inl e⟩
      · exact .inr ⟨hm', a', o', e2, z', nw', n1', c' _ _ e1' nw', fun o'' c => c.elim (q' o'') fun c => hne rfl hm' (by rw [e2, c.1]), p1', p2', rv'.mono fun _ _ e => .inl e⟩

set_option tactic.hygienic true in
theorem FrameSt.turned {x : Str} {d d' : D} {a : Addr} {o' : Obj} {h h' : Heap} (F : FrameSt prog w sc env h₀ P₀ W ρ P h) (hx : ρ.get x = some (d, .bor)) (hv : VarIs env h x (.ref a)) (hs : Heap.SameBut a h h')
    (ho : h'.get? a = some o') (p1 : o'.dict = none) (p2 : o'.slots = #[]) (r : ObjIs prog w P o' d') : FrameSt prog w sc env h₀ P₀ W (ρ.set x (d', .bor)) P h' := by
  obtain ⟨wa, nl, _⟩ := F.own x d a hx hv
  obtain ⟨_, u, zu, a₂, o₂, eu, zz, e2, nP, _, _, r2⟩ := F.est.vars x d .bor hx
  have := varIs_fun hv zu
  rw [eu] at this; cases this
  subst eu
  have hc : ∀ c v, h.IsCell c v → c ≠ a := fun c v ⟨o, q1, q2⟩ e => by
    subst e; rw [e2] at q1; cases q1
    cases d <;> first | exact r2.elim | skip
    · obtain ⟨vs, n, b, _⟩ := r2; subst b; cases q2
    · obtain ⟨_, es, n, kvs, b, _⟩ := r2; rw [b] at q2; cases q2
  have cell : ∀ c v, h.IsCell c v → h'.IsCell c v := fun c v ic => ic.sameBut hs (hc c v ic)
  have ns : ∀ m, h.Ns env.locals m → h'.Ns env.locals m := fun m n => n.sameBut hs (Ne.symm nl)
  have var : ∀ y v, VarIs env h y v → VarIs env h' y v := fun y v z => by
    rcases z with ⟨k, m, n, e⟩ | ⟨k, c, lc, ic⟩
    · exact .inl ⟨k, m, ns m n, e⟩
    · exact .inr ⟨k, c, lc, cell c _ ic⟩
  have back : ∀ y d' b, (ρ.set x (d, .bor)).get y = some (d', .bor) → VarIs env h' y (.ref b) → VarIs env h y (.ref b) ∧ ρ.get y = some (d', .bor) := fun y d' b e z => by
    rw [Rho.get_set] at e
    have e' : ρ.get y = some (d', .bor) := by
      split at e
      · rename_i hy; cases e; subst hy; exact hx
      · exact e
    obtain ⟨_, u, zu, _⟩ := F.est.vars y d' .bor e'
    have := varIs_fun (var _ _ zu) z
    subst this
    exact ⟨zu, e'⟩
  have get' : ∀ y d'' , (ρ.set x (d', .bor)).get y = some (d'', .bor) → ∃ d₃, ρ.get y = some (d₃, .bor) := fun y d'' e => by
    rw [Rho.get_set] at e
    split at e
    · rename_i hy; subst hy; exact ⟨d, hx⟩
    · exact ⟨_, e⟩
  have backv : ∀ y d₃ b, ρ.get y = some (d₃, .bor) → VarIs env h' y (.ref b) → VarIs env h y (.ref b) := fun y d₃ b e z => by
    obtain ⟨_, u, zu, _⟩ := F.est.vars y d₃ .bor e
    have := varIs_fun (var _ _ zu) z
    subst this
    exact zu
  exact { F with
    est := { F.est with
      vars := fun y d'' m e => by
        rw [Rho.get_set] at e
        by_cases hy : y = x
        · subst hy
          rw [if_pos rfl] at e
          cases e
          exact ⟨by simp, .ref a, var _ _ hv, a, o', rfl, zz, ho, nP, p1, p2, r⟩
        · rw [if_neg hy] at e
          obtain ⟨hm, v, z, y'⟩ := F.est.vars y d'' m e
          refine ⟨hm, v, var _ _ z, ?_⟩
          cases m with
          | fro => exact y'
          | fre => exact absurd rfl hm
          | bor =>
            obtain ⟨a', o₃, e1, z', e3, r3⟩ := y'
            subst e1
            refine ⟨a', o₃, rfl, z', (hs.2 a' fun q => ?_).trans e3, r3⟩
            subst q
            exact F.apart y x _ d'' d hy e hx z hv
      pin := fun b o q => (hs.2 b fun z => nP o (z ▸ q)).trans (F.est.pin b o q) }
    base := fun b o e => (hs.2 b fun q => by rw [q, F.wnew a wa] at e; cases e).trans (F.base b o e)
    wdom := fun b e => by
      by_cases q : b = a
      · subst q; exact ⟨o', ho⟩
      · obtain ⟨o, e1⟩ := F.wdom b e; exact ⟨o, (hs.2 b q).trans e1⟩
    ns := let ⟨m, n⟩ := F.ns; ⟨m, ns m n⟩
    ck := fun y e => let ⟨k, c, lc, wc, v, ic⟩ := F.ck y e; ⟨k, c, lc, wc, v, cell c v ic⟩
    own := fun y d'' b e z => by
      obtain ⟨d₃, e'⟩ := get' y d'' e
      exact F.own y d₃ b e' (backv y d₃ b e' z)
    apart := fun y y' b d₁ d₂ hn e e' z z' => by
      obtain ⟨d₃, q⟩ := get' y d₁ e
      obtain ⟨d₄, q'⟩ := get' y' d₂ e'
      exact F.apart y y' b d₃ d₄ hn q q' (backv y d₃ b q z) (backv y' d₄ b q' z') }
end
end Mine

namespace Mine

theorem Mid.off {W₀ W : Addr → Prop} {P₁ P P' : Vis} {h₁ h h' : Heap} {wr : List Addr} (x : Mid W₀ P₁ h₁ W P h) (k : ∀ b o, b ∉ wr → h.get? b = some o → h'.get? b = some o) (y : PExt P h P' h') (n : ∀ b ∈ wr, h₁.get? b = none) : Mid W₀ P₁ h₁ W P' h' := by
  have nm : ∀ b o, h₁.get? b = some o → b ∉ wr := fun b o e q => by rw [n b q] at e; cases e
  refine ⟨x.wu, x.wn, fun b o e nb => k b o (nm b o e) (x.ch b o e nb), fun a o e => y.up a o (x.pu a o e), fun a o e => (y.new a o e).elim (x.pn a o) fun q => .inr ?_, fun b o e => let ⟨o', e'⟩ := x.dom b o e; ⟨o', k b o' (nm b o e) e'⟩⟩
  cases q' : h₁.get? a with
  | none => rfl
  | some o₂ => obtain ⟨o', e'⟩ := x.dom a o₂ q'; rw [q] at e'; cases e'
theorem Mid.chg {W : Addr → Prop} {P : Vis} {h h' : Heap} (c : Chg W h h') (wd : ∀ a, W a → ∃ o, h'.get? a = some o) : Mid W P h W P h' :=
  ⟨fun _ e => e, fun _ e => .inl e, c, fun _ _ e => e, fun _ _ e => .inl e, fun b o e => by
    by_cases hb : W b
    · exact wd b hb
    · exact ⟨o, c b o e hb⟩⟩

section
variable {prog : Program} {w : World}

noncomputable def Nx (prog : Program) (w : World) (sc : Scope) (env : Env) (h₀ : Heap) (P₀ : Vis) (W₁ : Addr → Prop) (P₁ : Vis) (h₁ : Heap) (s : Shared) (ρ' : Rho) (Q : Shared → Prop) : Prop :=
  ∀ s' P' W', Mid W₁ P₁ h₁ W' P' s'.heap → SameW s s' → FrameSt prog w sc env h₀ P₀ W' ρ' P' s'.heap → Q s'
noncomputable def Rt (prog : Program) (w : World) (h₀ : Heap) (P₀ : Vis) (s : Shared) (d : D) (fr : Bool) (Q : Value → Shared → Prop) : Prop :=
  ∀ v s' P', SameW s s' → Sub h₀ s'.heap → PExt P₀ h₀ P' s'.heap → Val prog w h₀ P' s'.heap v d (if fr then .fre else .fro) → Q v s'
noncomputable def FlPost (prog : Program) (w : World) (sc : Scope) (env : Env) (h₀ : Heap) (P₀ : Vis) (W₁ : Addr → Prop) (P₁ : Vis) (h₁ : Heap) (s : Shared) (fl : Fl) (Q : Flow → Shared → Prop) : Prop :=
  match fl with
  | .nxt ρ' => Nx prog w sc env h₀ P₀ W₁ P₁ h₁ s ρ' (Q .next)
  | .ret d fr => Rt prog w h₀ P₀ s d fr (fun v => Q (.ret v))

theorem FlPost.then {sc : Scope} {env : Env} {h₀ h₁ : Heap} {P₀ P₁ P : Vis} {W₁ W : Addr → Prop} {s s₁ : Shared} {fl : Fl} {Q : Flow → Shared → Prop} (M : Mid W₁ P₁ h₁ W P s₁.heap) (ww : SameW s s₁) (h : FlPost prog w sc env h₀ P₀ W₁ P₁ h₁ s fl Q) :
    FlPost prog w sc env h₀ P₀ W P s₁.heap s₁ fl Q := by
  cases fl with
  | nxt ρ' => exact fun s' P' W' M' w' F' => h s' P' W' (M.trans M') (ww.trans w') F'
  | ret d fr => exact fun v s' P' w' k' y' x' => h v s' P' (ww.trans w') k' y' x'

noncomputable def SSound (prog : Program) (w : World) (cx : Cx) (lv : Nat) (hb : Heap) (st : Stmt) : Prop := ∀ (mu : List Str) (sc : Scope) (ρ : Rho) (fl : Fl), ex cx mu sc st ρ = some fl → ∀ (A : Around) (E : Value → Shared → Prop) (s : Shared) (env : Env) (h₀ : Heap) (P₀ P : Vis) (W : Addr → Prop) (Q : Flow → Shared → Prop),
  Room A lv → Sub hb h₀ → FrameSt prog w sc env h₀ P₀ W ρ P s.heap → FlPost prog w sc env h₀ P₀ W P s.heap s fl Q → wpAny (model prog w) A (exec st env) Q E s
noncomputable def LSound (prog : Program) (w : World) (cx : Cx) (lv : Nat) (hb : Heap) (st : List Stmt) : Prop := ∀ (mu : List Str) (sc : Scope) (ρ : Rho) (fl : Fl), exs cx mu sc st ρ = some fl → ∀ (A : Around) (E : Value → Shared → Prop) (s : Shared) (env : Env) (h₀ : Heap) (P₀ P : Vis) (W : Addr → Prop) (Q : Flow → Shared → Prop),
  Room A lv → Sub hb h₀ → FrameSt prog w sc env h₀ P₀ W ρ P s.heap → FlPost prog w sc env h₀ P₀ W P s.heap s fl Q → wpAny (model prog w) A (execs st env) Q E s

variable {cx : Cx} {lv : Nat} {hb : Heap}

theorem execs_sound : ∀ (l : List Stmt), (∀ st ∈ l, SSound prog w cx lv hb st) → LSound prog w cx lv hb l
  | [], _ => by
    intro mu sc ρ fl e A E s env h₀ P₀ P W Q R kb F h
    cases e
    exact wpAny_execs_nil (h s P W (Mid.refl _ _ _) (SameW.refl s) F)
  | st :: r, H => by
    intro mu sc ρ fl e A E s env h₀ P₀ P W Q R kb F h
    replace e := xsCons.symm.trans e
    obtain ⟨f1, e1, e2⟩ := Option.bind_eq_some_iff.mp e
    refine wpAny_execs_cons (H st (List.mem_cons_self ..) mu sc ρ f1 e1 A E s env h₀ P₀ P W _ R kb F ?_)
    cases f1 with
    | nxt ρ' =>
      intro s' P' W' M' w' F'
      exact execs_sound r (fun st hs => H st (List.mem_cons_of_mem _ hs)) mu sc ρ' fl e2 A E s' env h₀ P₀ P' W' Q R kb F' (h.then M' w')
    | ret d fr =>
      simp only [] at e2; cases e2
      intro v s' P' w' k' y' x'
      exact h v s' P' w' k' y' x'

theorem pass_sound {p : Pos} : SSound prog w cx lv hb (.Pass p) := by
  intro mu sc ρ fl e A E s env h₀ P₀ P W Q R kb F h
  cases e
  exact wpAny_Pass (h s P W (Mid.refl _ _ _) (SameW.refl s) F)

theorem FrameSt.ext {sc : Scope} {env : Env} {h₀ h : Heap} {P₀ P : Vis} {W : Addr → Prop} {ρ : Rho} (F : FrameSt prog w sc env h₀ P₀ W ρ P h) : PExt P₀ h₀ P h := ⟨F.pup, F.est.pin, F.pnew⟩

theorem frz_get (x : Str) : ∀ ρ : Rho, ρ.frz.get x = (ρ.get x).map fun r => (r.1, .fro)
  | [] => rfl
  | (y, q) :: l => by
    show Rho.get x ((y, (q.1, .fro)) :: Rho.frz l) = _
    simp only [Rho.get]
    split
    · rfl
    · exact frz_get x l

theorem FrameSt.frz {sc : Scope} {env : Env} {h₀ h : Heap} {P₀ P : Vis} {W : Addr → Prop} {ρ : Rho} (F : FrameSt prog w sc env h₀ P₀ W ρ P h) : ∃ P'', EnvSt prog w sc env ρ.frz P'' h ∧ PExt P₀ h₀ P'' h := by
  refine ⟨fun a o => P a o ∨ ((∃ x d, ρ.get x = some (d, .bor) ∧ VarIs env h x (.ref a)) ∧ h.get? a = some o), ?_, ?_⟩
  · exact { F.est with
      vars := fun x d m e => by
        rw [frz_get] at e
        obtain ⟨⟨d', m'⟩, e1, e2⟩ := Option.map_eq_some_iff.mp e
        cases e2
        obtain ⟨hm, v, z, y⟩ := F.est.vars x d' m' e1
        refine ⟨by simp, v, z, ?_⟩
        cases m' with
        | fre => exact absurd rfl hm
        | fro => exact Rep.mono (fun _ _ e => .inl e) y
        | bor =>
          obtain ⟨a, o, e3, z', e4, _, _, _, r⟩ := y
          subst e3
          exact (r.mono fun _ _ e => .inl e).rep z' (.inr ⟨⟨x, d', e1, z⟩, e4⟩)
      pin := fun a o e => e.elim (F.est.pin a o) fun e => e.2 }
  · exact ⟨fun a o e => .inl (F.pup a o e), fun a o e => e.elim (F.est.pin a o) fun e => e.2, fun a o e => e.elim (F.pnew a o) fun e => by
      obtain ⟨⟨x, d, e1, z⟩, _⟩ := e
      exact .inr (F.wnew a (F.own x d a e1 z).1)⟩

set_option tactic.hygienic true in
theorem return_name (Wl : Wld prog w cx lv hb) {x : Str} {xp p : Pos} : SSound prog w cx lv hb (.Return (some (.Name x xp)) p) := by
  intro mu sc ρ fl e A E s env h₀ P₀ P W Q R kb F h
  replace e := xRetN.symm.trans e
  split at e
  · cases e
  · rename_i hx
    have hx' : (x == ("__debug__" : Str)) = false := beq_eq_false_iff_ne.mpr hx
    split at e
    · rename_i d hr
      cases e
      obtain ⟨_, v, z, y⟩ := F.est.vars x d .bor hr
      refine wpAny_Return_some (wpAny_Name (load_var F.est.kind z ?_) hx')
      refine h v s P (SameW.refl s) F.base F.ext ?_
      obtain ⟨a, o, e1, z', e2, q, p1, p2, r⟩ := y
      subst e1
      exact ⟨a, o, rfl, z', F.wnew a (F.own x d a hr z).1, e2, q, p1, p2, r⟩
    · rename_i d m hnb hr
      cases e
      obtain ⟨hm, v, z, y⟩ := F.est.vars x d m hr
      refine wpAny_Return_some (wpAny_Name (load_var F.est.kind z ?_) hx')
      cases m with
      | fre => exact absurd rfl hm
      | bor => exact absurd rfl hnb
      | fro => exact h v s P (SameW.refl s) F.base F.ext y
    · first | (replace e := iteS e; obtain ⟨hg, e⟩ := e) | (replace e := iteN e; obtain ⟨hg, e⟩ := e) | ((split at e <;> first | (exact nno e) | skip); (rename_i hg))
      obtain ⟨d, e1, e2⟩ := Option.map_eq_some_iff.mp e
      cases e2
      obtain ⟨v, L, r⟩ := Wl.con x d e1
      exact wpAny_Return_some (L.at F.est (fun b o q => F.base b o (kb b o q)) hg hx (h v s P (SameW.refl s) F.base F.ext r.of_false))

set_option tactic.hygienic true in
theorem return_expr (Wl : Wld prog w cx lv hb) {e : Expr} {p : Pos} (hn : ∀ x q, e ≠ .Name x q) : SSound prog w cx lv hb (.Return (some e) p) := by
  intro mu sc ρ fl e1 A E s env h₀ P₀ P W Q R kb F h
  replace e1 := (xRetE hn).symm.trans e1
  obtain ⟨⟨d, m⟩, e2, e3⟩ := Option.bind_eq_some_iff.mp e1
  dsimp only at e3
  first | (replace e3 := iteS e3; obtain ⟨hm, e3⟩ := e3) | (replace e3 := iteN e3; obtain ⟨hm, e3⟩ := e3) | ((split at e3 <;> first | (exact nno e3) | skip); (rename_i hm))
  cases e3
  obtain ⟨P'', X, y0⟩ := F.frz
  refine wpAny_Return_some (esound Wl e sc ρ.frz d m e2 A E s env P'' _ R (fun b o q => F.base b o (kb b o q)) X fun v s' P' k' w' y' x' => ?_)
  refine h v s' P' w' (F.base.trans k') (y0.trans F.base y') ?_
  have := x'.back F.base
  cases m with
  | bor => exact absurd rfl hm
  | fro => exact this
  | fre => exact this

theorem if_sound (Wl : Wld prog w cx lv hb) {t : Expr} {b o : List Stmt} {p : Pos} (H1 : LSound prog w cx lv hb b) (H2 : LSound prog w cx lv hb o) : SSound prog w cx lv hb (.If t b o p) := by
  intro mu sc ρ fl e A E s env h₀ P₀ P W Q R kb F h
  replace e := xIf.symm.trans e
  obtain ⟨c, e1, e2⟩ := Option.bind_eq_some_iff.mp e
  refine wpAny_If (tsound Wl t sc ρ c e1 A E s env P _ R (fun b o q => F.base b o (kb b o q)) F.est fun s₁ P₁ k₁ w₁ y₁ => ?_)
  have M : Mid W P s.heap W P₁ s₁.heap := Mid.sub k₁ y₁
  cases c with
  | true => rw [if_pos rfl] at e2 ⊢; exact H1 mu sc ρ fl e2 A E s₁ env h₀ P₀ P₁ W Q R kb (F.step k₁ y₁) (h.then M w₁)
  | false => rw [if_neg Bool.false_ne_true] at e2 ⊢; exact H2 mu sc ρ fl e2 A E s₁ env h₀ P₀ P₁ W Q R kb (F.step k₁ y₁) (h.then M w₁)

theorem not_interactive {env : Env} (h : env.scope.kind = .function) : interactive env = false := by
  unfold interactive; rw [h]; rfl

theorem expr_call (Wl : Wld prog w cx lv hb) {f : Str} {args : List Expr} {fp pos p : Pos} : SSound prog w cx lv hb (.Expr (.Call (.Name f fp) args [] pos) p) := by
  intro mu sc ρ fl e A E s env h₀ P₀ P W Q R kb F h
  replace e := xCall.symm.trans e
  obtain ⟨⟨d, m⟩, e1, e2⟩ := Option.map_eq_some_iff.mp e
  cases e2
  refine wpAny_Expr_any (esound Wl _ sc ρ d m e1 A E s env P _ R (fun b o q => F.base b o (kb b o q)) F.est fun v s₁ P₁ k₁ w₁ y₁ x₁ => ?_) (not_interactive F.est.kind) rfl
  exact h s₁ P₁ W (Mid.sub k₁ y₁) w₁ (F.step k₁ y₁)

set_option tactic.hygienic true in
theorem expr_append (Wl : Wld prog w cx lv hb) {x nm : Str} {e0 : Expr} {xp ap pos p : Pos} : SSound prog w cx lv hb (.Expr (.Call (.Attribute (.Name x xp) nm ap) [e0] [] pos) p) := by
  intro mu sc ρ fl e A E s env h₀ P₀ P W Q R kb F h
  replace e := xApp.symm.trans e
  first | (replace e := iteS e; obtain ⟨hz, e⟩ := e) | (replace e := iteN e; obtain ⟨hz, e⟩ := e) | ((split at e <;> first | (exact nno e) | skip); (rename_i hz))
  obtain ⟨rfl, hf, hli, hx⟩ := hz
  split at e <;> first | (exact nno e) | (cases e; done) | skip
  rename_i d hr
  obtain ⟨⟨dv, m⟩, e1, e2⟩ := Option.bind_eq_some_iff.mp e
  dsimp only at e2
  first | (replace e2 := iteS e2; obtain ⟨hm, e2⟩ := e2) | (replace e2 := iteN e2; obtain ⟨hm, e2⟩ := e2) | ((split at e2 <;> first | (exact nno e2) | skip); (rename_i hm))
  obtain ⟨d', e3, e4⟩ := Option.map_eq_some_iff.mp e2
  cases e4
  obtain ⟨ds, rfl, hn, rfl⟩ := appItem_inv e3
  obtain ⟨_, v, z, a, o, ea, zz, e2', q, p1, p2, vs, n, rfl, ru⟩ := F.est.vars x _ .bor hr
  subst ea
  have hnst : notStar e0 = true := (plain_cons (few_plain hf)).1
  have hp : (backTo pos (starEach [e0] env)).any (·.1) = false := plain_any (few_plain hf)
  refine wpAny_Expr_any ?_ (not_interactive F.est.kind) rfl
  refine wpAny_Call_method_late (base_eq rfl) (by rw [star_cons hnst]; rfl) hli rfl (wpAny_Name (load_var F.est.kind z ?_) (beq_eq_false_iff_ne.mpr hx))
  refine ⟨"list", "list.append", PySem.F.plainAttrs_list, PySem.F.slot_list_append, PySem.F.type_list_append, (isList_of e2').typeIs, (fun a' q' => by cases q'; exact ⟨_, e2', rfl⟩), callWith_builtin hp (evalArgs_of hp ?_)⟩
  refine wpAny_items_cons (esound Wl e0 sc ρ dv m e1 A E s env P _ R (fun b o q => F.base b o (kb b o q)) F.est fun u s₁ P₁ k₁ w₁ y₁ x₁ => ?_) (star_cons hnst)
  refine wpAny_items_nil ?_
  obtain ⟨P₂, y₂, up₂, r₂⟩ := x₁.freeze hm y₁
  have F₁ := F.step k₁ y₂
  refine wpAny_list_append_plain (items := vs.toArray) ⟨n, k₁ _ _ e2'⟩ (fun h₅ hpl hs => ?_) (by rw [List.size_toArray, ru.length, sizeLine_eq]; (first | lia | omega))
  obtain ⟨c₅, hL₅⟩ := hpl
  rw [show vs.toArray.push u = (vs ++ [u]).toArray by simp] at hL₅
  have F₅ := F₁.turned (d' := .list (ds ++ [dv])) hr (z.keeps k₁) hs hL₅ rfl rfl ⟨_, _, rfl, (ru.mono y₂.up).append (.cons r₂ .nil)⟩
  have wa := (F₁.own x _ a hr (z.keeps k₁)).1
  exact h { s₁ with heap := h₅ } P₂ W ((Mid.sub k₁ y₂).trans (Mid.chg (Chg.of_same wa hs) F₅.wdom)) ⟨w₁.1, w₁.2⟩ F₅

theorem setItem_plain {A : Around} {E : Value → Shared → Prop} {s : Shared} {l : Addr} {items : Array Value} {n : Nat} {k : Int} {t : Tok} {v : Value} {Q : Unit → Shared → Prop} (hl : s.heap.get? l = some { cls := .type "list", data := .seq items n })
    (h0 : 0 ≤ k) (hfit : k < 2 ^ 63) (hn : k < items.size)
    (hQ : ∀ h' n', h'.get? l = some { cls := .type "list", data := .seq (items.setIfInBounds k.toNat v) n' } → Heap.SameBut l s.heap h' → Q () { s with heap := h' }) :
    wpAny (model prog w) A (setItem (.ref l) (.int k t) v) Q E s := by
  have hT : s.TypeIs (.ref l) "list" := ⟨_, hl, rfl⟩
  unfold setItem
  try with_reducible refine wpAny_holding ?_
  first | refine wpAny_bind (wpAny_pure ?_) | skip
  refine wpAny_bind (wpAny_sequenceKey hT (by decide) ?_)
  refine wpAny_bind (wpAny_callSpecial?_slot (name := Str.ofString "__setitem__") hT slot_list_setitem
    (wpAny_call_entry slot_list_setitem hT entry_list_setitem ?_ (args_list_setitem _ _ _)))
  show wpAny _ _ (Builtin.List.listSubscript? (.int k t) >>= _) _ _ s
  refine wpAny_bind (wpAny_listSubscript_int (fitsIndex_of h0 hfit) ?_)
  clear hfit
  obtain ⟨j, rfl⟩ := Int.eq_ofNat_of_zero_le h0
  have hj : j < items.size := by (first | lia | omega)
  have hx' : items[j]? = some items[j] := Array.getElem?_eq_getElem hj
  show wpAny _ _ ((seqItemAt l j >>= fun r => pure (r.map (j, ·))) >>= _) _ _ s
  refine wpAny_bind (wpAny_bind (wpAny_seqItemAt hl rfl (wpAny_pure ?_)))
  rw [hx']
  show wpAny _ _ (setSeqItemAt l j v >>= _) _ _ s
  have hfin : (s.heap.update l (Obj.mapSeq (·.setIfInBounds j v))).get? l = _ := Heap.get?_update_self _ hl rfl
  refine wpAny_bind (wpAny_setSeqItemAt hl rfl ?_)
  first
    | exact wpAny_bind (wpAny_pure (wpAny_pure ⟨.none, rfl, wpAny_pure (hQ _ _ hfin (Heap.SameBut.update ..))⟩))
    | exact wpAny_pure ⟨.none, rfl, wpAny_pure (hQ _ _ hfin (Heap.SameBut.update ..))⟩

theorem RepK.put {P : Vis} {k : Int} {v : Value} {d : D} : ∀ {kvs : List (Int × Value)} {ds : List (Int × D)}, RepK prog w P kvs ds → Rep prog w P v d → RepK prog w P (stored kvs k v) (dput ds k d) := by
  intro kvs ds r rv
  have hany : (kvs.any fun kv => decide (kv.1 = k)) = ds.any fun e => decide (e.1 = k) := by
    have := r.keys
    have h1 : (kvs.any fun kv => decide (kv.1 = k)) = (kvs.map (·.1)).any (fun x => decide (x = k)) := by rw [List.any_map]; rfl
    have h2 : (ds.any fun kv => decide (kv.1 = k)) = (ds.map (·.1)).any (fun x => decide (x = k)) := by rw [List.any_map]; rfl
    rw [h1, h2, this]
  have app : ∀ {a : List (Int × Value)} {b : List (Int × D)}, RepK prog w P a b → RepK prog w P (a ++ [(k, v)]) (b ++ [(k, d)]) := by
    intro a b r
    induction b generalizing a with
    | nil => rw [r.nilI]; exact .cons rv .nil
    | cons x b ih => obtain ⟨v, us, rfl, r1, r2⟩ := r.consI; exact .cons r1 (ih r2)
  have mp : ∀ {a : List (Int × Value)} {b : List (Int × D)}, RepK prog w P a b → RepK prog w P (a.map fun kv => if kv.1 = k then (kv.1, v) else kv) (b.map fun e => if e.1 = k then (e.1, d) else e) := by
    intro a b r
    induction b generalizing a with
    | nil => rw [r.nilI]; exact .nil
    | cons x b ih =>
      obtain ⟨v', us, rfl, r1, r2⟩ := r.consI
      obtain ⟨k', d'⟩ := x
      simp only [List.map_cons]
      by_cases hk : k' = k
      · simp only [if_pos hk]; exact .cons rv (ih r2)
      · simp only [if_neg hk]; exact .cons r1 (ih r2)
  unfold stored dput
  rw [hany]
  split
  · exact mp r
  · exact app r

theorem swaps_sub {v o i : Expr} {p q : Pos} {env : Env} (h : compExpr v = false) : swapsWith v (some (.Subscript o i q)) p.line env = pure false := by
  cases v <;> first | rfl | exact tf h
set_option tactic.hygienic true in
theorem assign_sub (Wl : Wld prog w cx lv hb) {x : Str} {i v : Expr} {xp sp p : Pos} : SSound prog w cx lv hb (.Assign [.Subscript (.Name x xp) i sp] v p) := by
  intro mu sc ρ fl e A E s env h₀ P₀ P W Q R kb F h
  replace e := xSt.symm.trans e
  first | (replace e := iteS e; obtain ⟨hz, e⟩ := e) | (replace e := iteN e; obtain ⟨hz, e⟩ := e) | ((split at e <;> first | (exact nno e) | skip); (rename_i hz))
  obtain ⟨hcomp, hx⟩ := hz
  obtain ⟨⟨dv, m⟩, e1, e2⟩ := Option.bind_eq_some_iff.mp e
  dsimp only at e2
  split at e2 <;> first | (exact nno e2) | (cases e2; done) | skip
  rename_i d hr
  first | (replace e2 := iteS e2; obtain ⟨hm, e2⟩ := e2) | (replace e2 := iteN e2; obtain ⟨hm, e2⟩ := e2) | ((split at e2 <;> first | (exact nno e2) | skip); (rename_i hm))
  obtain ⟨⟨j, mj⟩, e3, e4⟩ := Option.bind_eq_some_iff.mp e2
  obtain ⟨d', e5, e6⟩ := Option.map_eq_some_iff.mp e4
  cases e6
  obtain ⟨_, u0, z, a, o, ea, zz, e2', q, p1, p2, ru⟩ := F.est.vars x _ .bor hr
  subst ea
  refine wpAny_Assign_Subscript ?_ (swaps_sub hcomp)
  refine esound Wl v sc ρ dv m e1 A E s env P _ R (fun b o q => F.base b o (kb b o q)) F.est fun u s₁ P₁ k₁ w₁ y₁ x₁ => ?_
  obtain ⟨P₂, y₂, up₂, r₂⟩ := x₁.freeze hm y₁
  have F₁ := F.step k₁ y₂
  refine wpAny_Name (load_var F.est.kind (z.keeps k₁) ?_) (beq_eq_false_iff_ne.mpr hx)
  refine esound Wl i sc ρ j mj e3 A E s₁ env P₂ _ R (fun b o q => F₁.base b o (kb b o q)) F₁.est fun ui s₂ P₃ k₂ w₂ y₃ x₃ => ?_
  have F₂ := F₁.step k₂ y₃
  have M₂ : Mid W P s.heap W P₃ s₂.heap := (Mid.sub k₁ y₂).trans (Mid.sub k₂ y₃)
  have ho₂ := k₂ _ _ (k₁ _ _ e2')
  have z₂ := (z.keeps k₁).keeps k₂
  have wa := (F₂.own x _ a hr z₂).1
  have rv : Rep prog w P₃ u dv := r₂.mono y₃.up
  have up : ∀ a o, P a o → P₃ a o := fun a o e => y₃.up a o (y₂.up a o e)
  rcases putItem_cases e5 with ⟨ds, k, rfl, rfl, hk1, hk2, hk3, rfl⟩ | ⟨es, k, rfl, rfl, hk, rfl⟩
  · obtain ⟨vs, n, rfl, r⟩ := ru
    obtain ⟨t, rfl⟩ := x₃.hold.int
    have hlen := r.length
    refine setItem_plain ho₂ hk1 hk2 (by rw [List.size_toArray, hlen]; (first | lia | omega)) fun h' n' ho' hs => ?_
    have hset : vs.toArray.setIfInBounds k.toNat u = (vs.set k.toNat u).toArray := by simp
    rw [hset] at ho'
    have F₃ := F₂.turned (d' := .list (ds.set k.toNat dv)) hr z₂ hs ho' rfl rfl ⟨_, _, rfl, (r.mono up).set rv⟩
    exact h { s₂ with heap := h' } P₃ W (M₂.trans (Mid.chg (Chg.of_same wa hs) F₃.wdom)) ⟨(w₁.trans w₂).1, (w₁.trans w₂).2⟩ F₃
  · obtain ⟨hex, ees, n, kvs, hdat, hko, hpr, hnd, r⟩ := ru
    have hkl : kvs.length = es.length := by have := congrArg List.length r.keys; simpa using this
    obtain ⟨t, rfl⟩ := x₃.hold.int
    refine wpAny_setItem_pairs (knd := intKind prog w) (k := k) (by simp [intKind, Value.isInt]) ⟨o, ees, n, ho₂, hex, hdat, hko, hpr, hnd⟩ (fun h' hd hs => ?_) (by rw [hkl, sizeLine_eq]; (first | lia | omega))
    obtain ⟨o', es', n', ho', hex', hdat', hko', hpr', hnd'⟩ := hd
    have F₃ := F₂.turned (d' := .dict (dput es k dv)) hr z₂ hs ho' hex'.2.1 hex'.2.2 ⟨hex', es', n', _, hdat', hko', hpr', hnd', (r.mono up).put rv⟩
    exact h { s₂ with heap := h', toks := s₂.toks + 1 } P₃ W (M₂.trans (Mid.chg (Chg.of_same wa hs) F₃.wdom)) ⟨(w₁.trans w₂).1, (w₁.trans w₂).2⟩ F₃
end
end Mine

namespace Mine
section
variable {prog : Program} {w : World} {cx : Cx} {lv : Nat} {hb : Heap}

theorem assign_plain (Wl : Wld prog w cx lv hb) {x : Str} {v : Expr} {px p : Pos} {mu : List Str} {sc : Scope} {ρ : Rho} {d : D} {m : Mode} (hn : sc.names.lookup x = some .local ∨ sc.names.lookup x = some .cell) (e1 : ev cx v sc ρ = some (d, m)) (hm : m ≠ .bor) :
    ∀ (A : Around) (E : Value → Shared → Prop) (s : Shared) (env : Env) (h₀ : Heap) (P₀ P : Vis) (W : Addr → Prop) (Q : Flow → Shared → Prop), swapsWith v (some (.Name x px)) p.line env = pure false →
  Room A lv → Sub hb h₀ → FrameSt prog w sc env h₀ P₀ W ρ P s.heap → FlPost prog w sc env h₀ P₀ W P s.heap s (.nxt (ρ.set x (d, if m = .fre ∧ mu.contains x = true then .bor else .fro))) Q → wpAny (model prog w) A (exec (.Assign [.Name x px] v p) env) Q E s := by
  intro A E s env h₀ P₀ P W Q hs R kb F h
  refine wpAny_Assign_Name ?_ hs
  refine esound Wl v sc ρ d m e1 A E s env P _ R (fun b o q => F.base b o (kb b o q)) F.est fun u s₁ P₁ k₁ w₁ y₁ x₁ => ?_
  refine store_one (r := (d, m)) (mu := mu) (F.step k₁ y₁) (Mid.sub k₁ y₁) (fun a e => F.base.none e) hn (PendV.of F hm x₁) fun h' tk P' W' M' F' _ _ _ _ => ?_
  exact h _ P' W' M' ⟨w₁.1, w₁.2⟩ F'

set_option tactic.hygienic true in
theorem assign_comp (Wl : Wld prog w cx lv hb) {x : Str} {elt : Expr} {gens : List Comprehension} {scope : Scope} {cp px p : Pos} {mu : List Str} {sc : Scope} {ρ : Rho} {d : D} {m : Mode} (hn : sc.names.lookup x = some .local ∨ sc.names.lookup x = some .cell)
    (e1 : ev cx (.ListComp elt gens scope cp) sc ρ = some (d, m)) (hm : m ≠ .bor) :
    ∀ (A : Around) (E : Value → Shared → Prop) (s : Shared) (env : Env) (h₀ : Heap) (P₀ P : Vis) (W : Addr → Prop) (Q : Flow → Shared → Prop), swapsWith (.ListComp elt gens scope cp) (some (.Name x px)) p.line env = pure true →
  Room A lv → Sub hb h₀ → FrameSt prog w sc env h₀ P₀ W ρ P s.heap → FlPost prog w sc env h₀ P₀ W P s.heap s (.nxt (ρ.set x (d, if m = .fre ∧ mu.contains x = true then .bor else .fro))) Q → wpAny (model prog w) A (exec (.Assign [.Name x px] (.ListComp elt gens scope cp) p) env) Q E s := by
  intro A E s env h₀ P₀ P W Q hs R kb F h
  have : ∃ t iter ifs, gens = [⟨t, iter, ifs, 0⟩] := by
    refine Classical.byContradiction fun hg => ?_
    rw [eCompN fun t it ifs q => hg ⟨t, it, ifs, q⟩] at e1
    cases e1
  obtain ⟨t, iter, ifs, rfl⟩ := this
  replace e1 := eComp.symm.trans e1
  first | (replace e1 := iteS e1; obtain ⟨hz, e1⟩ := e1) | (replace e1 := iteN e1; obtain ⟨hz, e1⟩ := e1) | ((split at e1 <;> first | (exact nno e1) | skip); (rename_i hz))
  obtain ⟨hsc, hfr, ht, hio⟩ := hz
  obtain ⟨⟨a, m1⟩, ei, e⟩ := Option.bind_eq_some_iff.mp e1
  dsimp only at e
  first | (replace e := iteS e; obtain ⟨hm1, e⟩ := e) | (replace e := iteN e; obtain ⟨hm1, e⟩ := e) | ((split at e <;> first | (exact nno e) | skip); (rename_i hm1))
  obtain ⟨ds, eds, e⟩ := Option.bind_eq_some_iff.mp e
  first | (replace e := iteS e; obtain ⟨hnn, e⟩ := e) | (replace e := iteN e; obtain ⟨hnn, e⟩ := e) | ((split at e <;> first | (exact nno e) | skip); (rename_i hnn))
  obtain ⟨l, hl, e2⟩ := Option.map_eq_some_iff.mp e
  cases e2
  rw [exec_Assign_Name_used _ _ _ _ hs]
  refine wpAny_bind (wpAny_standAt (wpAny_bind ?_))
  show wpAny _ A (do let _ ← comprehension (.ListComp elt [⟨t, iter, ifs, 0⟩] scope cp) scope env _ (newList []) false (eval iter env) (some (assign (.Name x px) env))) _ _ s
  refine wpAny_bind (wpAny_mono (comp_all Wl (esound Wl iter) (esound Wl elt) (fun c _ => tsound Wl c) hsc hfr ht hio ei hm1 eds hnn (comp_eq cx scope ρ t elt ifs) hl A E s env P (some (assign (.Name x px) env)) (fun _ s' => Q .next s') _ R (fun b o q => F.base b o (kb b o q)) F.est
    fun s' P' L C k ww y xv hC hLC hPC hns => ?_) (fun _ s' hq => wpAny_pure (wpAny_pure hq)) fun _ _ e => e)
  obtain ⟨mm, hns⟩ := hns
  have nCW : ¬ W C := fun q => by obtain ⟨o, ho⟩ := F.wdom C q; rw [hC] at ho; cases ho
  show wpAny _ _ (assign (.Name x px) env (.ref L)) _ _ _
  refine wpAny_assign_Name (store_one (r := (.list l, .fre)) (mu := mu) (F.step k y) (Mid.sub k y) (fun a e => F.base.none e) hn (PendV.of F (by simp) xv) fun h' tk P'' W' M' F' _ hch hP hW => ?_)
  refine ⟨mm, hns.at' fun o e => hch C o e nCW, fun h'' hs' => ?_⟩
  have k'' : ∀ b o, b ∉ [C] → h'.get? b = some o → h''.get? b = some o := fun b o hb e => hs'.extBut b o (fun q => hb (by simp [q])) e
  have nP : ∀ o, ¬ P'' C o := fun o q => (hP C o q).elim (hPC o) fun q => by cases q; exact hLC rfl
  have y'' : PExt P'' h' P'' h'' := ⟨fun _ _ q => q, fun a o q => k'' a o (fun z => by simp at z; subst z; exact nP o q) (F'.est.pin a o q), fun _ _ q => .inl q⟩
  refine h _ P'' W' (M'.off k'' y'' fun b hb => by simp at hb; subst hb; exact hC) ⟨ww.1, ww.2⟩ (F'.off k'' y'' (fun b hb => by simp at hb; subst hb; exact F.base.none hC) fun b hb q => ?_)
  simp at hb; subst hb
  exact (hW _ q).elim nCW fun q => by cases q; exact hLC rfl

theorem swaps_name {sc : Scope} {x : Str} {v : Expr} {px p : Pos} {env : Env} (ha : asgOk sc x px v = true) (hc : ∀ a b c d, v ≠ .ListComp a b c d) : swapsWith v (some (.Name x px)) p.line env = pure false := by
  cases v <;> first | rfl | exact ff ha | exact absurd rfl (hc _ _ _ _)
set_option tactic.hygienic true in
theorem assign_name (Wl : Wld prog w cx lv hb) {x : Str} {v : Expr} {px p : Pos} : SSound prog w cx lv hb (.Assign [.Name x px] v p) := by
  intro mu sc ρ fl e A E s env h₀ P₀ P W Q R kb F h
  replace e := xAsg.symm.trans e
  first | (replace e := iteS e; obtain ⟨hz, e⟩ := e) | (replace e := iteN e; obtain ⟨hz, e⟩ := e) | ((split at e <;> first | (exact nno e) | skip); (rename_i hz))
  obtain ⟨hn, ha⟩ := hz
  replace hn := nvN hn
  obtain ⟨⟨d, m⟩, e1, e2⟩ := Option.bind_eq_some_iff.mp e
  dsimp only at e2
  first | (replace e2 := iteS e2; obtain ⟨hm, e2⟩ := e2) | (replace e2 := iteN e2; obtain ⟨hm, e2⟩ := e2) | ((split at e2 <;> first | (exact nno e2) | skip); (rename_i hm))
  cases e2
  by_cases hc : ∃ elt gens scope cp, v = .ListComp elt gens scope cp
  · obtain ⟨elt, gens, scope, cp, rfl⟩ := hc
    have hb : ∃ b, swapsWith (.ListComp elt gens scope cp) (some (.Name x px)) p.line env = pure b := ⟨_, rfl⟩
    obtain ⟨b, hb⟩ := hb
    cases b with
    | true => exact assign_comp Wl hn e1 hm A E s env h₀ P₀ P W Q hb R kb F h
    | false => exact assign_plain Wl hn e1 hm A E s env h₀ P₀ P W Q hb R kb F h
  · refine assign_plain Wl hn e1 hm A E s env h₀ P₀ P W Q ?_ R kb F h
    exact swaps_name ha fun a b c d q => hc ⟨a, b, c, d, q⟩

inductive Fa2 {α β : Type} (R : α → β → Prop) : List α → List β → Prop
  | nil : Fa2 R [] []
  | cons {a : α} {b : β} {as : List α} {bs : List β} : R a b → Fa2 R as bs → Fa2 R (a :: as) (b :: bs)
theorem Fa2.imp {α β : Type} {R S : α → β → Prop} (h : ∀ a b, R a b → S a b) {as : List α} {bs : List β} (x : Fa2 R as bs) : Fa2 S as bs := by
  induction x with
  | nil => exact .nil
  | cons a _ ih => exact .cons (h _ _ a) ih
theorem Fa2.length {α β : Type} {R : α → β → Prop} {as : List α} {bs : List β} (x : Fa2 R as bs) : as.length = bs.length := by
  induction x with
  | nil => rfl
  | cons _ _ ih => exact congrArg (· + 1) ih
theorem Fa2.snoc {α β : Type} {R : α → β → Prop} {a : α} {b : β} {as : List α} {bs : List β} (x : Fa2 R as bs) (h : R a b) : Fa2 R (as ++ [a]) (bs ++ [b]) := by
  induction x with
  | nil => exact .cons h .nil
  | cons a _ ih => exact .cons a ih
theorem Fa2.rev {α β : Type} {R : α → β → Prop} {as : List α} {bs : List β} (x : Fa2 R as bs) : Fa2 R as.reverse bs.reverse := by
  induction x with
  | nil => exact .nil
  | cons a _ ih => rw [List.reverse_cons, List.reverse_cons]; exact ih.snoc a

structure Vals (prog : Program) (w : World) (h : Heap) (P' : Vis) (h' : Heap) (vs : List Value) (rs : List (D × Mode)) : Prop where
  all : Fa2 (fun v r => r.2 ≠ .bor ∧ Val prog w h P' h' v r.1 r.2) vs rs
  dis : (vs.zip rs).Pairwise fun i j => i.2.2 = .fre → j.2.2 = .fre → i.1 ≠ j.1

set_option tactic.hygienic true in
theorem evm_sound (Wl : Wld prog w cx lv hb) {sc : Scope} {ρ : Rho} : ∀ (es : List Expr) (rs : List (D × Mode)), evm cx sc es ρ = some rs → plain es = true → ∀ (A : Around) (E : Value → Shared → Prop) (s : Shared) (env : Env) (P : Vis) (pos : Pos) (Q : List Value → Shared → Prop),
    Room A lv → Sub hb s.heap → EnvSt prog w sc env ρ P s.heap → (∀ vs s' P', Sub s.heap s'.heap → SameW s s' → PExt P s.heap P' s'.heap → Vals prog w s.heap P' s'.heap vs rs → Q vs s') →
    wpAny (model prog w) A (spliced (backTo pos (starEach es env))) Q E s
  | [], rs, e, _, A, E, s, env, P, pos, Q, R, kb, X, h => by
    cases e
    exact wpAny_items_nil (h [] s P (Sub.refl _) (SameW.refl _) (PExt.refl X.pin) ⟨.nil, .nil⟩)
  | x :: r, rs, e, pl, A, E, s, env, P, pos, Q, R, kb, X, h => by
    obtain ⟨p1, p2⟩ := plain_cons pl
    replace e := mCons.symm.trans e
    obtain ⟨⟨d, m⟩, e1, e2⟩ := Option.bind_eq_some_iff.mp e
    dsimp only at e2
    first | (replace e2 := iteS e2; obtain ⟨hm, e2⟩ := e2) | (replace e2 := iteN e2; obtain ⟨hm, e2⟩ := e2) | ((split at e2 <;> first | (exact nno e2) | skip); (rename_i hm))
    obtain ⟨rs', e3, rfl⟩ := Option.map_eq_some_iff.mp e2
    refine wpAny_items_cons (esound Wl x sc ρ d m e1 A E s env P _ R kb X fun v s₁ P₁ k₁ w₁ y₁ x₁ => ?_) (star_cons p1)
    refine evm_sound Wl r rs' e3 p2 A E s₁ env P₁ pos _ R (kb.trans k₁) (X.step k₁ y₁) fun vs s₃ P₃ k₃ w₃ y₃ V => ?_
    refine h (v :: vs) s₃ P₃ (k₁.trans k₃) (w₁.trans w₃) (y₁.trans k₁ y₃) ⟨.cons ⟨hm, x₁.keeps k₃ y₃⟩ (V.all.imp fun _ _ q => ⟨q.1, q.2.back k₁⟩), ?_⟩
    rw [List.zip_cons_cons, List.pairwise_cons]
    refine ⟨fun j hj h1 h2 => ?_, V.dis⟩
    dsimp only at h1; subst h1
    obtain ⟨a, o, e4, _, _, e5, _⟩ := x₁
    have : ∀ {vs : List Value} {rs : List (D × Mode)}, Fa2 (fun v r => r.2 ≠ .bor ∧ Val prog w s₁.heap P₃ s₃.heap v r.1 r.2) vs rs → ∀ j ∈ vs.zip rs, Val prog w s₁.heap P₃ s₃.heap j.1 j.2.1 j.2.2 := by
      intro vs rs H
      induction H with
      | nil => intro j hj; cases hj
      | cons h _ ih =>
        intro j hj
        rw [List.zip_cons_cons] at hj
        rcases List.mem_cons.mp hj with rfl | hj
        · exact h.2
        · exact ih j hj
    have hv := this V.all j hj
    obtain ⟨u, du, mu⟩ := j
    dsimp only at h2 hv ⊢
    subst h2
    obtain ⟨a', o', e6, _, n, _⟩ := hv
    subst e4 e6
    intro q; cases q
    rw [e5] at n; cases n

inductive StoreFns (prog : Program) (w : World) (env : Env) : List (Value → Sem Unit) → List Str → Prop
  | nil : StoreFns prog w env [] []
  | cons {t : Value → Sem Unit} {x : Str} {ts : List (Value → Sem Unit)} {xs : List Str} : (∀ (A : Around) (E : Value → Shared → Prop) (s : Shared) (v : Value) (Q : Unit → Shared → Prop), wpAny (model prog w) A (storeName env x v) Q E s → wpAny (model prog w) A (t v) Q E s) → StoreFns prog w env ts xs → StoreFns prog w env (t :: ts) (x :: xs)

set_option tactic.hygienic true in
theorem stores_pend {mu : List Str} {sc : Scope} {env : Env} {h₀ h₁ : Heap} {P₀ P₁ : Vis} {W₁ : Addr → Prop} (h01 : ∀ a, h₁.get? a = none → h₀.get? a = none) {A : Around} {E : Value → Shared → Prop} :
    ∀ {ts : List (Value → Sem Unit)} {xs : List Str} (vs : List Value) (rs : List (D × Mode)) (ρ ρ' : Rho) (s : Shared) (P : Vis) (W : Addr → Prop) (Q : Unit → Shared → Prop), StoreFns prog w env ts xs → (∀ x ∈ xs, sc.names.lookup x = some .local ∨ sc.names.lookup x = some .cell) →
      Fa2 (fun v r => PendV prog w h₁ W P s.heap v r) vs rs → ((vs.zip rs).Pairwise fun i j => i.2.2 = .fre → j.2.2 = .fre → i.1 ≠ j.1) → setAll mu xs rs ρ = some ρ' → FrameSt prog w sc env h₀ P₀ W ρ P s.heap → Mid W₁ P₁ h₁ W P s.heap →
      (∀ h' tk P' W', Mid W₁ P₁ h₁ W' P' h' → FrameSt prog w sc env h₀ P₀ W' ρ' P' h' → Q () { s with heap := h', toks := tk }) → wpAny (model prog w) A (assignInOrder ts vs) Q E s := by
  intro ts xs vs rs ρ ρ' s P W Q S
  induction S generalizing vs rs ρ s P W Q with
  | nil =>
    intro hk H dis e F M h
    cases rs with
    | cons => cases e
    | nil =>
      cases e
      cases H
      exact wpAny_pure (h s.heap s.toks P W M F)
  | @cons t x ts xs ht S ih =>
    intro hk H dis e F M h
    cases rs with
    | nil => cases e
    | cons r rs =>
      replace e := setAllC.symm.trans e
      replace e := (iteN e).2
      cases H with | cons H1 H2 =>
      rename_i v vs
      rw [List.zip_cons_cons, List.pairwise_cons] at dis
      show wpAny _ _ (do holding vs (t v); assignInOrder ts vs) _ _ _
      refine wpAny_bind (wpAny_holding (ht _ _ _ _ _ (store_one (mu := mu) F M h01 (hk x (List.mem_cons_self ..)) H1 fun h' tk P' W' M' F' hp _ _ _ => ?_)))
      have : ∀ {vs : List Value} {rs : List (D × Mode)}, Fa2 (fun v r => PendV prog w h₁ W P s.heap v r) vs rs → (∀ j ∈ vs.zip rs, r.2 = .fre → j.2.2 = .fre → v ≠ j.1) → Fa2 (fun v r => PendV prog w h₁ W' P' h' v r) vs rs := by
        intro vs rs H
        induction H with
        | nil => intro _; exact .nil
        | cons q _ ih2 =>
          intro hd
          rw [List.zip_cons_cons] at hd
          exact .cons (hp _ _ q (hd _ (List.mem_cons_self ..))) (ih2 fun j hj => hd j (List.mem_cons_of_mem _ hj))
      refine ih vs rs _ { s with heap := h', toks := tk } P' W' Q (fun x hx => hk x (List.mem_cons_of_mem _ hx)) (this H2 dis.1) dis.2 e F' M' fun h'' tk' P'' W'' M'' F'' => ?_
      exact h h'' tk' P'' W'' M'' F''
end
end Mine

namespace Mine

set_option tactic.hygienic true in
theorem setAll_ok {mu : List Str} : ∀ {xs : List Str} {rs : List (D × Mode)} {ρ ρ' : Rho}, setAll mu xs rs ρ = some ρ' → xs.length = rs.length ∧ ∀ r ∈ rs, r.2 ≠ .bor
  | [], [], ρ, ρ', e => ⟨rfl, fun r h => nomatch h⟩
  | [], r :: rs, ρ, ρ', e => by cases e
  | x :: xs, [], ρ, ρ', e => by cases e
  | x :: xs, r :: rs, ρ, ρ', e => by
    replace e := setAllC.symm.trans e
    first | (replace e := iteS e; obtain ⟨hr, e⟩ := e) | (replace e := iteN e; obtain ⟨hr, e⟩ := e) | ((split at e <;> first | (exact nno e) | skip); (rename_i hr))
    obtain ⟨a, b⟩ := setAll_ok e
    refine ⟨by simp [a], fun q hq => ?_⟩
    rcases List.mem_cons.mp hq with rfl | hq
    · exact hr
    · exact b q hq
theorem setAll_some {mu : List Str} : ∀ {xs : List Str} {rs : List (D × Mode)} (ρ : Rho), xs.length = rs.length → (∀ r ∈ rs, r.2 ≠ .bor) → ∃ ρ', setAll mu xs rs ρ = some ρ'
  | [], [], ρ, _, _ => ⟨ρ, rfl⟩
  | [], r :: rs, ρ, h, _ => nomatch h
  | x :: xs, [], ρ, h, _ => nomatch h
  | x :: xs, r :: rs, ρ, h, hb => by
    rw [setAllC, if_neg (hb r (List.mem_cons_self ..))]
    exact setAll_some _ (by simpa using h) fun q hq => hb q (List.mem_cons_of_mem _ hq)
noncomputable def modeOf (mu : List Str) (x : Str) (r : D × Mode) : D × Mode := (r.1, if r.2 = .fre ∧ mu.contains x = true then .bor else .fro)
theorem setAll_get {mu : List Str} (y : Str) : ∀ {xs : List Str} {rs : List (D × Mode)} {ρ ρ' : Rho}, setAll mu xs rs ρ = some ρ' → xs.Nodup →
    ρ'.get y = match (xs.zip rs).lookup y with | some r => some (modeOf mu y r) | none => ρ.get y
  | [], [], ρ, ρ', e, _ => by cases e; rfl
  | [], r :: rs, ρ, ρ', e, _ => by cases e
  | x :: xs, [], ρ, ρ', e, _ => by cases e
  | x :: xs, r :: rs, ρ, ρ', e, hn => by
    replace e := setAllC.symm.trans e
    replace e := (iteN e).2
    rw [List.nodup_cons] at hn
    rw [setAll_get y e hn.2, List.zip_cons_cons, List.lookup_cons]
    by_cases hy : y = x
    · subst hy
      have : (xs.zip rs).lookup y = none := by
        cases q : (xs.zip rs).lookup y with
        | none => rfl
        | some r' => exact absurd (List.of_mem_zip (lookup_mem q)).1 hn.1
      rw [this]
      simp only [Rho.get_set, if_true, beq_self_eq_true, modeOf]
    · rw [beq_eq_false_iff_ne.mpr hy]
      simp only [Rho.get_set, if_neg hy]

theorem lookup_of_mem {β : Type} : ∀ {l : List (Str × β)} {x : Str} {y : β}, (l.map (·.1)).Nodup → (x, y) ∈ l → l.lookup x = some y
  | [], _, _, _, h => nomatch h
  | (a, b) :: l, x, y, hn, h => by
    rw [List.map_cons, List.nodup_cons] at hn
    rw [List.lookup_cons]
    rcases List.mem_cons.mp h with h | h
    · cases h; simp
    · have : x ≠ a := fun q => hn.1 (q ▸ List.mem_map.mpr ⟨_, h, rfl⟩)
      rw [beq_eq_false_iff_ne.mpr this]
      exact lookup_of_mem hn.2 h
theorem lookup_rev {β : Type} {l : List (Str × β)} (hn : (l.map (·.1)).Nodup) (x : Str) : l.reverse.lookup x = l.lookup x := by
  have hn' : (l.reverse.map (·.1)).Nodup := by
    rw [List.map_reverse]; unfold List.Nodup; rw [List.pairwise_reverse]
    exact hn.imp fun h => Ne.symm h
  cases q : l.lookup x with
  | some y => exact lookup_of_mem hn' (List.mem_reverse.mpr (lookup_mem q))
  | none =>
    cases q' : l.reverse.lookup x with
    | none => rfl
    | some y => rw [lookup_of_mem hn (List.mem_reverse.mp (lookup_mem q'))] at q; cases q
theorem zip_rev {α β : Type} : ∀ {as : List α} {bs : List β}, as.length = bs.length → as.reverse.zip bs.reverse = (as.zip bs).reverse
  | [], [], _ => rfl
  | a :: as, b :: bs, h => by
    rw [List.zip_cons_cons, List.reverse_cons, List.reverse_cons, List.reverse_cons, List.zip_append (by simpa using h), zip_rev (by simpa using h)]; rfl
  | [], _ :: _, h => nomatch h
  | _ :: _, [], h => nomatch h

theorem filt_len {α β : Type} {f : α → Option β} : ∀ (l : List α), (l.filterMap f).length ≤ l.length := fun l => List.length_filterMap_le f l

theorem namesOf_filter {env : Env} {line : Nat} : ∀ (elts : List Expr) (ns : List Str), namesOf elts = some ns →
    (elts.filterMap fun | .Name id pos => if env.kindOf id == some .local && pos.line == line then some id else none | _ => none).length = elts.length →
    (elts.filterMap fun | .Name id pos => if env.kindOf id == some .local && pos.line == line then some id else none | _ => none) = ns
  | [], ns, e, _ => by cases e; rfl
  | e0 :: r, ns, e, hl => by
    obtain ⟨x, px, l, rfl, e1, rfl⟩ := namesOf_inv e
    · skip
      rw [List.filterMap_cons] at hl ⊢
      dsimp only at hl ⊢
      by_cases hc : (env.kindOf x == some NameKind.local && px.line == line) = true
      · simp only [hc, if_true] at hl ⊢
        rw [namesOf_filter r l e1 (by simpa using hl)]
      · have hc' : (env.kindOf x == some NameKind.local && px.line == line) = false := by cases q : (env.kindOf x == some NameKind.local && px.line == line) <;> first | rfl | exact absurd q hc
        simp only [hc', Bool.false_eq_true, if_false] at hl ⊢
        rw [List.length_cons] at hl
        have := List.length_filterMap_le (fun | .Name id pos => if env.kindOf id == some .local && pos.line == line then some id else none | _ => none : Expr → Option Str) r
        (first | lia | omega)

set_option tactic.hygienic true in
theorem swapped_cases {env : Env} {elts vs : List Expr} {k k' : Nat} {tp p' : Pos} {ns : List Str} (hn : namesOf elts = some ns) (hp : plain vs = true) (hc : vs.all (constantsAlone 8) = false) :
    swappedStores [.Tuple elts k tp] (.Tuple vs k' p') env = pure none ∨ swappedStores [.Tuple elts k tp] (.Tuple vs k' p') env = pure (some ns) := by
  unfold swappedStores
  dsimp only
  split
  · exact .inl rfl
  split
  · exact .inl rfl
  split
  · exact .inl rfl
  split
  · exact .inl rfl
  rename_i hl
  split
  · rename_i hc'; rw [hc] at hc'; cases hc'
  rename_i h1 _
  right
  refine congrArg _ (congrArg _ ?_)
  refine namesOf_filter elts ns hn ?_
  exact Decidable.byContradiction fun q => h1 (Bool.or_eq_true_iff.mpr (.inl (bne_iff_ne.mpr q)))

section
variable {prog : Program} {w : World} {cx : Cx} {lv : Nat} {hb : Heap}

theorem storeFns_assign {env : Env} : ∀ {elts : List Expr} {ns : List Str}, namesOf elts = some ns → StoreFns prog w env ((assignEach elts env).map (·.2)) ns
  | [], ns, e => by cases e; exact .nil
  | e0 :: r, ns, e => by
    obtain ⟨x, px, l, rfl, e1, rfl⟩ := namesOf_inv e
    · skip
      exact .cons (fun A E s v Q h => wpAny_assign_Name h) (storeFns_assign e1)
theorem storeFns_bind {env : Env} : ∀ (ns : List Str), StoreFns prog w env (ns.map fun n => bindName env n) ns
  | [] => .nil
  | n :: ns => .cons (fun A E s v Q h => wpAny_bindName h) (storeFns_bind ns)

theorem evm_length {sc : Scope} {ρ : Rho} : ∀ {es : List Expr} {rs : List (D × Mode)}, evm cx sc es ρ = some rs → rs.length = es.length
  | [], rs, e => by cases e; rfl
  | x :: r, rs, e => by
    replace e := mCons.symm.trans e
    obtain ⟨⟨d, m⟩, e1, e2⟩ := Option.bind_eq_some_iff.mp e
    dsimp only at e2
    split at e2 <;> first | (exact nno e2) | (cases e2; done) | skip
    obtain ⟨rs', e3, rfl⟩ := Option.map_eq_some_iff.mp e2
    simp [evm_length e3]

set_option tactic.hygienic true in
theorem assign_tup_lit (Wl : Wld prog w cx lv hb) {elts vs : List Expr} {k k' : Nat} {tp p' p : Pos} : SSound prog w cx lv hb (.Assign [.Tuple elts k tp] (.Tuple vs k' p') p) := by
  intro mu sc ρ fl e A E s env h₀ P₀ P W Q R kb F h
  replace e := xAsgT.symm.trans e
  first | (replace e := iteS e; obtain ⟨hv, e⟩ := e) | (replace e := iteN e; obtain ⟨hv, e⟩ := e) | ((split at e <;> first | (exact nno e) | skip); (rename_i hv))
  first | (replace e := iteS e; obtain ⟨hz, e⟩ := e) | (replace e := iteN e; obtain ⟨hz, e⟩ := e) | ((split at e <;> first | (exact nno e) | skip); (rename_i hz))
  obtain ⟨hf, hca⟩ := hz
  obtain ⟨ns, e1, e⟩ := Option.bind_eq_some_iff.mp e
  obtain ⟨rs, e2, e⟩ := Option.bind_eq_some_iff.mp e
  first | (replace e := iteS e; obtain ⟨hnn, e⟩ := e) | (replace e := iteN e; obtain ⟨hnn, e⟩ := e) | ((split at e <;> first | (exact nno e) | skip); (rename_i hnn))
  obtain ⟨ρ', e3, e4⟩ := Option.map_eq_some_iff.mp e
  cases e4
  have hk : ∀ x ∈ ns, sc.names.lookup x = some .local ∨ sc.names.lookup x = some .cell := nvT e1 hv
  have body : ∀ (G : Value → Shared → Prop), (∀ (us : List Value) (s₁ : Shared) (P₁ : Vis) (T : Addr), IsTup s₁.heap T us.toArray → us.length = ns.length → Mid W P s.heap W P₁ s₁.heap → SameW s s₁ → FrameSt prog w sc env h₀ P₀ W ρ P₁ s₁.heap → Vals prog w s.heap P₁ s₁.heap us rs → G (.ref T) s₁) →
      wpAny (model prog w) A (eval (.Tuple vs k' p') env) G E s := by
    intro G hG
    refine wpAny_Tuple (evm_sound Wl vs rs e2 (few_plain hf) A E s env P p' _ R (fun b o q => F.base b o (kb b o q)) F.est fun us s₁ P₁ k₁ w₁ y₁ V => ⟨?_, ?_⟩)
    · rw [V.all.length, evm_length e2, sizeLine_eq]; have := few_len hf; (first | lia | omega)
    · have kp : Sub s₁.heap (s₁.heap.push { cls := .type "tuple", data := .seq us.toArray }) := Sub.push _ _
      have yp := PExt.stay y₁.at_ kp
      refine hG us { s₁ with heap := s₁.heap.push { cls := .type "tuple", data := .seq us.toArray } } P₁ _ ⟨_, Heap.get?_push_size _ rfl, rfl, 0, rfl⟩ ?_ ((Mid.sub k₁ y₁).trans (Mid.sub kp yp)) ⟨w₁.1, w₁.2⟩ ((F.step k₁ y₁).step kp yp) ⟨V.all.imp fun v r q => ⟨q.1, q.2.keeps kp yp⟩, V.dis⟩
      rw [V.all.length, ← hnn.1]
  have fin : ∀ (us : List Value) (s₁ : Shared) (P₁ : Vis) (ts : List (Value → Sem Unit)) (xs : List Str) (vs' : List Value) (rs' : List (D × Mode)) (ρ'' : Rho), StoreFns prog w env ts xs → (∀ x ∈ xs, x ∈ ns) → Mid W P s.heap W P₁ s₁.heap → SameW s s₁ → FrameSt prog w sc env h₀ P₀ W ρ P₁ s₁.heap →
      Vals prog w s.heap P₁ s₁.heap vs' rs' → setAll mu xs rs' ρ = some ρ'' → (∀ y, ρ'.get y = ρ''.get y) → wpAny (model prog w) A (assignInOrder ts vs') (fun _ => Q .next) E s₁ := by
    intro us s₁ P₁ ts xs vs' rs' ρ'' S hx M ww F₁ V e5 hg
    refine stores_pend (h₁ := s.heap) (W₁ := W) (P₁ := P) (fun a q => F.base.none q) vs' rs' ρ ρ'' s₁ P₁ W _ S (fun x q => hk x (hx x q)) (V.all.imp fun v r q => PendV.of F q.1 q.2) V.dis e5 F₁ M fun h' tk P' W' M' F' => ?_
    exact h { s₁ with heap := h', toks := tk } P' W' M' ⟨ww.1, ww.2⟩ (F'.congr hg)
  rcases swapped_cases (env := env) (k := k) (k' := k') (tp := tp) (p' := p') e1 (few_plain hf) hca with hw | hw
  · refine Assign_Tuple (body _ fun us s₁ P₁ T hT hl M ww F₁ V => ?_) rfl hw
    show wpAny _ _ (do standAt tp; unpack (.ref T) (assignEach elts env)) _ _ _
    obtain ⟨f1, f2⟩ := assignEach_names (env := env) elts ns e1
    refine wpAny_bind (wpAny_standAt (wpAny_unpack_tuple R.hd hT (by rw [f2, ← hl]; simp) f1 fun h' hx => ?_))
    have k' : Sub s₁.heap h' := fun b o q => hx b o (Nat.ne_of_lt (Heap.lt_size q)) q
    have y' := PExt.stay F₁.est.pin k'
    exact fin us { s₁ with heap := h' } P₁ _ ns us rs ρ' (storeFns_assign e1) (fun x q => q) (M.trans (Mid.sub k' y')) ⟨ww.1, ww.2⟩ (F₁.step k' y') ⟨V.all.imp fun v r q => ⟨q.1, q.2.keeps k' y'⟩, V.dis⟩ e3 fun y => rfl
  · refine Assign_Tuple_swapped (body _ fun us s₁ P₁ T hT hl M ww F₁ V => ?_) rfl hw
    have hsz : ns.length = us.toArray.size := by rw [List.size_toArray, hl]
    rw [hsz]
    refine wpAny_unpackItems_tuple R.hd hT fun h' hx => ?_
    have k' : Sub s₁.heap h' := fun b o q => hx b o (Nat.ne_of_lt (Heap.lt_size q)) q
    have y' := PExt.stay F₁.est.pin k'
    obtain ⟨hlen, hnb⟩ := setAll_ok e3
    obtain ⟨ρ'', e5⟩ := setAll_some (mu := mu) (xs := ns.reverse) (rs := rs.reverse) ρ (by simpa using hlen) fun r hr => hnb r (List.mem_reverse.mp hr)
    have hnd : ns.reverse.Nodup := by
      unfold List.Nodup; rw [List.pairwise_reverse]; exact hnn.2.imp fun h => Ne.symm h
    have hg : ∀ y, ρ'.get y = ρ''.get y := fun y => by
      rw [setAll_get y e3 hnn.2, setAll_get y e5 hnd, zip_rev hlen, lookup_rev (by rw [List.map_fst_zip (by (first | lia | omega))]; exact hnn.2)]
    have hlu : us.length = rs.length := V.all.length
    refine fin us { s₁ with heap := h' } P₁ _ ns.reverse us.toArray.toList.reverse rs.reverse ρ'' (storeFns_bind ns.reverse) (fun x q => List.mem_reverse.mp q) (M.trans (Mid.sub k' y')) ⟨ww.1, ww.2⟩ (F₁.step k' y') ⟨?_, ?_⟩ e5 hg
    · exact (V.all.imp fun v r q => ⟨q.1, q.2.keeps k' y'⟩).rev
    · show ((us.reverse).zip rs.reverse).Pairwise _
      rw [zip_rev hlu, List.pairwise_reverse]
      exact V.dis.imp fun h a b => Ne.symm (h b a)

set_option tactic.hygienic true in
theorem assign_tup (Wl : Wld prog w cx lv hb) {elts : List Expr} {v : Expr} {k : Nat} {tp p : Pos} (hv : ∀ vs k' p', v ≠ .Tuple vs k' p') : SSound prog w cx lv hb (.Assign [.Tuple elts k tp] v p) := by
  intro mu sc ρ fl e A E s env h₀ P₀ P W Q R kb F h
  replace e := (xAsgTE hv).symm.trans e
  first | (replace e := iteS e; obtain ⟨hn, e⟩ := e) | (replace e := iteN e; obtain ⟨hn, e⟩ := e) | ((split at e <;> first | (exact nno e) | skip); (rename_i hn))
  · obtain ⟨⟨d, m⟩, e1, e2⟩ := Option.bind_eq_some_iff.mp e
    dsimp only at e2
    first | (replace e2 := iteS e2; obtain ⟨hm, e2⟩ := e2) | (replace e2 := iteN e2; obtain ⟨hm, e2⟩ := e2) | ((split at e2 <;> first | (exact nno e2) | skip); (rename_i hm))
    subst hm
    obtain ⟨b, e3, e4⟩ := Option.map_eq_some_iff.mp e2
    cases e4
    refine Assign_Tuple (esound Wl v sc ρ d .fro e1 A E s env P _ R (fun b o q => F.base b o (kb b o q)) F.est fun u s₁ P₁ k₁ w₁ y₁ x₁ => ?_) ?_ ?_
    · refine assign_sound R.hd (F.step k₁ y₁) x₁ hn e3 fun h' tk F' c' => ?_
      exact h { s₁ with heap := h', toks := tk } P₁ W ((Mid.sub k₁ y₁).trans (Mid.chg c' F'.wdom)) ⟨w₁.1, w₁.2⟩ F'
    · cases v <;> rfl
    · cases v <;> first | rfl | exact absurd rfl (hv _ _ _)
end
end Mine

namespace Mine
section
variable {prog : Program} {w : World} {A : Around} {R : Result → Shared → Prop} {s : Shared}

theorem forLoop_own {target : Expr} {it : Value} {body orelse : List Stmt} {env : Env} (I : Nat → Shared → Prop)
    (turn : ∀ n s, I n s → wpAny (model prog w) A (pyNext it) (fun r s₁ => match r with
      | none => wpAny (model prog w) A (execs orelse env) (fun f s₃ => R (.ok f) s₃) (notedBy (model prog w) A env fun e s' => R (.error e) s') s₁
      | some v => wpAny (model prog w) A (letOwnedTupleGo target it v) (fun _ s₀ => wpAny (model prog w) A (assign target env v) (fun _ s₂ => wpAny (model prog w) A (execs body env) (fun f s₃ => match f with
          | .next | .cont => ∃ m, m < n ∧ I m s₃
          | .brk => R (.ok .next) s₃
          | .ret v => R (.ok (.ret v)) s₃) (notedBy (model prog w) A env fun e s' => R (.error e) s') s₂) (notedBy (model prog w) A env fun e s' => R (.error e) s') s₀) (notedBy (model prog w) A env fun e s' => R (.error e) s') s₁) (notedBy (model prog w) A env fun e s' => R (.error e) s') s)
    (n : Nat) (h : I n s) : codeAny (model prog w) A (.forLoop target it body orelse env) R s := by
  refine codeAny_loop' rfl I (fun n s hI => ?_) n h
  show wpAny _ _ ((forTurn target it body orelse env).onRaise (fun x => do noteFrame x env; theTreesLotGoes x)) _ _ s
  refine wpAny_noted ?_
  simp only [forTurn]
  refine wpAny_bind (wpAny_standAt (wpAny_bind (wpAny_onRaise (wpAny_mono (turn n s hI) (fun r s₁ h₁ => ?_) fun _ _ h' => wpAny_standAt h'))))
  cases r with
  | none => exact wpAny_pure (.inr ⟨rfl, codeAny_block h₁⟩)
  | some v =>
    refine wpAny_bind (wpAny_mono h₁ (fun _ s₀ h₀ => ?_) fun _ _ h' => h')
    refine wpAny_bind (wpAny_mono h₀ (fun _ s₂ h₂ => wpAny_bind (wpAny_mono h₂ (fun f s₃ h₃ => ?_) fun _ _ h' => h')) fun _ _ h' => h')
    cases f with
    | next => exact wpAny_pure (.inl ⟨rfl, h₃⟩)
    | cont => exact wpAny_pure (.inl ⟨rfl, h₃⟩)
    | brk => exact wpAny_pure h₃
    | ret v => exact wpAny_pure h₃
end

section
variable {prog : Program} {w : World} {cx : Cx} {lv : Nat} {hb : Heap}

noncomputable def ForI (prog : Program) (w : World) (sc : Scope) (env : Env) (h₀ h₁ : Heap) (P₀ P₁ P₂ : Vis) (W₁ : Addr → Prop) (St : Nat → Heap → Prop) (fp wr : List Addr) (s₀ : Shared) (i : Nat) (ρ' : Rho) (W' : Addr → Prop) (P' : Vis) (s' : Shared) : Prop :=
  Mid W₁ P₁ h₁ W' P' s'.heap ∧ SameW s₀ s' ∧ FrameSt prog w sc env h₀ P₀ W' ρ' P' s'.heap ∧ St i s'.heap ∧ (∀ b ∈ fp, ¬ W' b) ∧ (∀ a o, P' a o → a ∉ wr) ∧ (∀ a o, P₂ a o → P' a o)
noncomputable def ForG (cx : Cx) (mu : List Str) (sc : Scope) (t : Expr) (body : List Stmt) (ds : List D) (ρ : Rho) (fl : Fl) : Prop := forGo (fun d ρ => (bindT t d).bind fun b => exs cx mu sc body (setB b ρ)) ds ρ = some fl
theorem for_loop {t : Expr} {body : List Stmt} (LB : LSound prog w cx lv hb body) {mu : List Str} {sc : Scope} (ht : namesVar sc t = true) {A : Around} {env : Env} {h₀ h₁ : Heap} {P₀ P₁ P : Vis} {W₁ W : Addr → Prop} {it : Value} {tg : Expr → Bool} {fp wr : List Addr} {ds : List D}
    {St : Nat → Heap → Prop} (R : Room A lv) (kb : Sub hb h₀) (htg : tg t = true) (hwr0 : ∀ b ∈ wr, h₀.get? b = none) (hwr1 : ∀ b ∈ wr, h₁.get? b = none) {ρ : Rho} {fl : Fl} {s s₀ : Shared} {P₂ : Vis} (hP₂ : ∀ a o, P₂ a o → P a o)
    (IT : Iter prog w A tg it fp wr ds P₂ St)
    (hgo : forGo (fun d ρ => (bindT t d).bind fun b => exs cx mu sc body (setB b ρ)) ds ρ = some fl) {Q : Flow → Shared → Prop} {RR : Result → Shared → Prop} (hRR : ∀ f s', Q f s' → RR (.ok f) s')
    (hQ : FlPost prog w sc env h₀ P₀ W₁ P₁ h₁ s₀ fl Q) (ww : SameW s₀ s) (M : Mid W₁ P₁ h₁ W P s.heap) (F : FrameSt prog w sc env h₀ P₀ W ρ P s.heap) (hSt : St 0 s.heap) (hfpW : ∀ b ∈ fp, ¬ W b) (hPw : ∀ a o, P a o → a ∉ wr) :
    codeAny (model prog w) A (.forLoop t it body [] env) RR s := by
  refine forLoop_own (fun n s' => ∃ i ρ' W' P', (n = ds.length + 1 - i ∧ i ≤ ds.length) ∧ ForI prog w sc env h₀ h₁ P₀ P₁ P₂ W₁ St fp wr s₀ i ρ' W' P' s' ∧ ForG cx mu sc t body (ds.drop i) ρ' fl) ?_ (ds.length + 1)
    ⟨0, ρ, W, P, ⟨rfl, Nat.zero_le _⟩, ⟨M, ww, F, hSt, hfpW, hPw, hP₂⟩, hgo⟩
  rintro n s' ⟨i, ρ', W', P', ⟨rfl, hi⟩, ⟨M, ww, F, hSt, hfpW, hPw, hP₂⟩, hgo⟩
  have hwW : ∀ b ∈ wr, ¬ W' b := fun b hb => hfpW b (IT.sub b hb)
  by_cases hlt : i < ds.length
  · obtain ⟨d, hd⟩ : ∃ d, ds[i]? = some d := ⟨ds[i], List.getElem?_eq_getElem hlt⟩
    have hdrop : ds.drop i = d :: ds.drop (i + 1) := by
      rw [List.drop_eq_getElem_cons hlt]
      rw [List.getElem?_eq_getElem hlt] at hd; cases hd; rfl
    rw [hdrop] at hgo
    obtain ⟨f1, e1, e2⟩ := Option.bind_eq_some_iff.mp (gCons.symm.trans hgo)
    obtain ⟨b, eb, e3⟩ := Option.bind_eq_some_iff.mp e1
    refine wpAny_mono (IT.item t i d s' P' (fun v s₂ => wpAny (model prog w) A (assign t env v) _ _ s₂) _ htg hd hP₂ F.est.pin hPw hSt fun v h' tk P'' y rv st hk => ?_) (fun r s₁ hr => by obtain ⟨v, rfl, h⟩ := hr; exact h) fun _ _ x => x
    have F₁ : FrameSt prog w sc env h₀ P₀ W' ρ' P'' h' := F.off hk y hwr0 hwW
    have M₁ : Mid W₁ P₁ h₁ W' P'' h' := M.off hk y hwr1
    have hPw₁ : ∀ a o, P'' a o → a ∉ wr := not_of_wr hPw (fun b hb => IT.live i _ hSt b (IT.sub b hb)) y
    refine assign_sound (s := { s' with heap := h', toks := tk }) R.hd F₁ rv ht eb fun h₂ tk₂ F₂ c₂ => ?_
    have st₂ : St (i + 1) h₂ := IT.frame _ _ _ st fun b hb o e => c₂ b o e (hfpW b hb)
    have M₂ : Mid W₁ P₁ h₁ W' P'' h₂ := M₁.trans (Mid.chg c₂ F₂.wdom)
    refine LB mu sc (setB b ρ') f1 e3 A _ { s' with heap := h₂, toks := tk₂ } env h₀ P₀ P'' W' _ R kb F₂ ?_
    cases f1 with
    | nxt ρ'' =>
      intro s₃ P₃ W₃ M₃ w₃ F₃
      have live₂ : ∀ b ∈ fp, ∃ o, h₂.get? b = some o := fun b hb => IT.live _ _ st₂ b hb
      have nW₃ : ∀ b ∈ fp, ¬ W₃ b := fun b hb q => (M₃.wn b q).elim (hfpW b hb) fun q => by obtain ⟨o, ho⟩ := live₂ b hb; rw [show ({ s' with heap := h₂, toks := tk₂ } : Shared).heap.get? b = _ from ho] at q; cases q
      refine ⟨ds.length + 1 - (i + 1), by (first | lia | omega), i + 1, ρ'', W₃, P₃, ⟨rfl, hlt⟩, ⟨M₂.trans M₃, ww.trans ⟨w₃.1, w₃.2⟩, F₃, IT.frame _ _ _ st₂ fun b hb o e => M₃.ch b o e (hfpW b hb), nW₃, fun a o q z => ?_, fun a o q => M₃.pu a o (y.up a o (hP₂ a o q))⟩, e2⟩
      rcases M₃.pn a o q with q | q
      · exact hPw₁ a o q z
      · obtain ⟨o', ho⟩ := live₂ a (IT.sub a z); rw [show ({ s' with heap := h₂, toks := tk₂ } : Shared).heap.get? a = _ from ho] at q; cases q
    | ret d fr =>
      simp only [] at e2; cases e2
      intro v s₃ P₃ w₃ k₃ y₃ x₃
      exact hRR _ _ (hQ v s₃ P₃ (ww.trans ⟨w₃.1, w₃.2⟩) k₃ y₃ x₃)
  · have hin : i = ds.length := by (first | lia | omega)
    rw [hin, List.drop_length] at hgo
    cases hgo
    refine wpAny_mono (IT.done s' (fun s₁ => RR (.ok .next) s₁) _ (hin ▸ hSt) fun h' tk hk => ?_) (fun r s₁ hr => by obtain ⟨rfl, h⟩ := hr; exact wpAny_execs_nil h) fun _ _ x => x
    have y : PExt P' s'.heap P' h' := ⟨fun _ _ q => q, fun a o q => hk a o (hPw a o q) (F.est.pin a o q), fun _ _ q => .inl q⟩
    exact hRR _ _ (hQ { s' with heap := h', toks := tk } P' W' (M.off hk y hwr1) ⟨ww.1, ww.2⟩ (F.off hk y hwr0 hwW))

theorem tgt_of {sc : Scope} {t : Expr} (h : namesVar sc t = true) : tgtOk t = true := by
  cases t <;> first | rfl | exact ff h

theorem for_value (Wl : Wld prog w cx lv hb) {t it : Expr} {body : List Stmt} {p : Pos} (LB : LSound prog w cx lv hb body) {mu : List Str} {sc : Scope} (ht : namesVar sc t = true) (hs : ∀ env x, foldedSetIterable it env x = pure x) {ρ : Rho} {d : D} {m : Mode} (hm : m ≠ .bor) {ds : List D} (ei : iterItems t d = some ds)
    {fl : Fl} (hgo : forGo (fun d ρ => (bindT t d).bind fun b => exs cx mu sc body (setB b ρ)) ds ρ = some fl) {A : Around} {E : Value → Shared → Prop} {s : Shared} {env : Env} {h₀ : Heap} {P₀ P : Vis} {W : Addr → Prop} {Q : Flow → Shared → Prop}
    (He : ∀ (Q : Value → Shared → Prop), Post prog w P s d m Q → wpAny (model prog w) A (eval it env) Q E s)
    (R : Room A lv) (kb : Sub hb h₀) (F : FrameSt prog w sc env h₀ P₀ W ρ P s.heap) (h : FlPost prog w sc env h₀ P₀ W P s.heap s fl Q) : wpAny (model prog w) A (exec (.For t it body [] p) env) Q E s := by
  refine wpAny_For (He _ fun v s₁ P₁ k₁ w₁ y₁ x₁ => ?_) (hs env)
  obtain ⟨P₂, y₂, up₂, r₂⟩ := x₁.freeze hm y₁
  refine iter_sound R.hd y₂.at_ r₂ (tgt_of ht) ei fun it' h' tg fp wr St k' hwr hfp htg IT st0 => ?_
  have y' := PExt.stay y₂.at_ k'
  have F₁ := (F.step k₁ y₂).step k' y'
  have M₁ : Mid W P s.heap W P₂ h' := (Mid.sub k₁ y₂).trans (Mid.sub k' y')
  refine for_loop (P₂ := P₂) (s₀ := s) (fl := fl) (ds := ds) (Q := Q) (h₁ := s.heap) (W₁ := W) (P₁ := P) LB ht R kb htg (fun b hb => F.base.none (k₁.none (hwr b hb))) (fun b hb => k₁.none (hwr b hb)) (fun _ _ q => q) IT hgo (fun f s' q => q) h ⟨w₁.1, w₁.2⟩ M₁ F₁ st0
    (fun b hb q => ?_) (fun a o q z => by have := y₂.at_ _ _ q; rw [hwr a z] at this; cases this)
  rcases hfp b hb with q' | ⟨o, q'⟩
  · obtain ⟨o, ho⟩ := F.wdom b q
    have := k₁ _ _ ho
    rw [hwr b q'] at this; cases this
  · exact F₁.pw b o q' q
end
end Mine

namespace Mine
section
variable {prog : Program} {w : World} {cx : Cx} {lv : Nat} {hb : Heap}

theorem for_enum (Wl : Wld prog w cx lv hb) {t e0 : Expr} {f : Str} {fp cp : Pos} {body : List Stmt} {p : Pos} (LB : LSound prog w cx lv hb body) {mu : List Str} {sc : Scope} (ht : namesVar sc t = true) {ρ : Rho} (hE : isEnum f sc ρ = true) (hf : few [e0] = true) (htt : tgtTup t = true)
    {ds : List D} (e1 : ev cx e0 sc ρ = some (.list ds, .fro)) (hn : ds.length ≤ 100000) {fl : Fl} (hgo : forGo (fun d ρ => (bindT t d).bind fun b => exs cx mu sc body (setB b ρ)) (enumD 0 ds) ρ = some fl)
    {A : Around} {E : Value → Shared → Prop} {s : Shared} {env : Env} {h₀ : Heap} {P₀ P : Vis} {W : Addr → Prop} {Q : Flow → Shared → Prop}
    (R : Room A lv) (kb : Sub hb h₀) (F : FrameSt prog w sc env h₀ P₀ W ρ P s.heap) (h : FlPost prog w sc env h₀ P₀ W P s.heap s fl Q) : wpAny (model prog w) A (exec (.For t (.Call (.Name f fp) [e0] [] cp) body [] p) env) Q E s := by
  obtain ⟨rfl, hg⟩ := isEnum_of hE
  have hnst : notStar e0 = true := (plain_cons (few_plain hf)).1
  have hp : (backTo cp (starEach [e0] env)).any (·.1) = false := plain_any (few_plain hf)
  have kb' : Sub hb s.heap := fun b o q => F.base b o (kb b o q)
  refine wpAny_For (wpAny_Call_NameR (Wl.enm.at F.est kb' hg (by decide) ?_)) (fun _ => rfl)
  refine PyProof.Rows.callWith_type hp (evalArgs_of hp (wpAny_items_cons (esound Wl e0 sc ρ _ _ e1 A E s env P _ R kb' F.est fun v s₁ P₁ k₁ w₁ y₁ x₁ => ?_) (star_cons hnst)))
  refine wpAny_items_nil ?_
  obtain ⟨l, n, vs, rfl, a, r⟩ := Rep.listI x₁
  have hl := y₁.at_ _ _ a
  have hll : l < s₁.heap.objs.size := Heap.lt_size hl
  refine call_enumerate_list (isList_of hl) fun h' he hit hz hk => ?_
  generalize hEE : s₁.heap.objs.size + 1 = e at he hz ⊢
  generalize hI : s₁.heap.objs.size = I at he hit hz ⊢
  have hlI : l ≠ I := Nat.ne_of_lt (hI ▸ hll)
  have hle : l ≠ e := Nat.ne_of_lt (Nat.lt_trans hll (by (first | lia | omega)))
  have heI : e ≠ I := by (first | lia | omega)
  refine wpAny_pyIter_enum he ?_
  have k' : Sub s₁.heap h' := hk
  have y' := PExt.stay y₁.at_ k'
  have F₁ := (F.step k₁ y₁).step k' y'
  have M₁ : Mid W P s.heap W P₁ h' := (Mid.sub k₁ y₁).trans (Mid.sub k' y')
  have nI : s₁.heap.get? I = none := Heap.get?_none_of_le (by (first | lia | omega))
  have ne : s₁.heap.get? e = none := Heap.get?_none_of_le (by (first | lia | omega))
  have hwr : ∀ b ∈ [e, I], s₁.heap.get? b = none := fun b hb => by simp at hb; rcases hb with rfl | rfl <;> assumption
  have hwW : ∀ b, s₁.heap.get? b = none → ¬ W b := fun b q z => by obtain ⟨o, ho⟩ := F.wdom b z; have := k₁ _ _ ho; rw [q] at this; cases this
  refine for_loop (P₂ := P₁) (s₀ := s) (fl := fl) (ds := enumD 0 ds) (Q := Q) (h₁ := s.heap) (W₁ := W) (P₁ := P) LB ht R kb htt (fun b hb => F.base.none (k₁.none (hwr b hb))) (fun b hb => k₁.none (hwr b hb)) (fun _ _ q => q) (Iter.enum R.hd hlI hle heI r) hgo (fun f s' q => q) h ⟨w₁.1, w₁.2⟩ M₁ F₁
    ⟨⟨_, he⟩, hit, k' _ _ hl⟩ (fun b hb q => ?_) (fun a o q z => by have := y₁.at_ _ _ q; rw [hwr a z] at this; cases this)
  simp at hb
  rcases hb with rfl | rfl | rfl
  · exact hwW _ ne q
  · exact hwW _ nI q
  · exact F₁.pw _ _ a q

theorem few_of_call {sc : Scope} {ρ : Rho} {f : Str} {e0 : Expr} {r : D × Mode} (h : callD cx sc ρ f (evs cx [e0] sc ρ) = some r) : few [e0] = true := by
  obtain ⟨ds, h, _⟩ := Option.bind_eq_some_iff.mp (iteS h).2
  cases e0 <;> first | rfl | exact nno h
set_option tactic.hygienic true in
theorem for_sound (Wl : Wld prog w cx lv hb) {t it : Expr} {body : List Stmt} {p : Pos} (LB : LSound prog w cx lv hb body) : SSound prog w cx lv hb (.For t it body [] p) := by
  intro mu sc ρ fl e A E s env h₀ P₀ P W Q R kb F h
  have kb' : Sub hb s.heap := fun b o q => F.base b o (kb b o q)
  cases hc : asCall1 it with
  | some fe =>
    obtain ⟨f, e0⟩ := fe
    obtain ⟨fp, cp, rfl⟩ := asCall1_inv hc
    replace e := xForC.symm.trans e
    first | (replace e := iteS e; obtain ⟨ht, e⟩ := e) | (replace e := iteN e; obtain ⟨ht, e⟩ := e) | ((split at e <;> first | (exact nno e) | skip); (rename_i ht))
    split at e
    · rename_i hz
      obtain ⟨hE, hf, htt⟩ := hz
      obtain ⟨⟨d, m⟩, e1, e2⟩ := Option.bind_eq_some_iff.mp e
      dsimp only at e2
      split at e2 <;> first | (exact nno e2) | (cases e2; done) | skip
      first | (replace e2 := iteS e2; obtain ⟨hn, e2⟩ := e2) | (replace e2 := iteN e2; obtain ⟨hn, e2⟩ := e2) | ((split at e2 <;> first | (exact nno e2) | skip); (rename_i hn))
      exact for_enum Wl LB ht hE hf htt e1 hn e2 R kb F h
    · obtain ⟨⟨d, m⟩, e1, e2⟩ := Option.bind_eq_some_iff.mp e
      dsimp only at e2
      first | (replace e2 := iteS e2; obtain ⟨hm, e2⟩ := e2) | (replace e2 := iteN e2; obtain ⟨hm, e2⟩ := e2) | ((split at e2 <;> first | (exact nno e2) | skip); (rename_i hm))
      obtain ⟨ds, e3, e4⟩ := Option.bind_eq_some_iff.mp e2
      have hf : few [e0] = true := few_of_call e1
      exact for_value Wl LB ht (fun _ _ => rfl) hm e3 e4 (fun Q' hQ' => callD_sound Wl (fun e _ => esound Wl e) hf e1 A E s env P Q' R kb' F.est hQ') R kb F h
  | none =>
    replace e := (xForE hc).symm.trans e
    first | (replace e := iteS e; obtain ⟨ht, e⟩ := e) | (replace e := iteN e; obtain ⟨ht, e⟩ := e) | ((split at e <;> first | (exact nno e) | skip); (rename_i ht))
    first | (replace e := iteS e; obtain ⟨hio, e⟩ := e) | (replace e := iteN e; obtain ⟨hio, e⟩ := e) | ((split at e <;> first | (exact nno e) | skip); (rename_i hio))
    obtain ⟨⟨d, m⟩, e1, e2⟩ := Option.bind_eq_some_iff.mp e
    dsimp only at e2
    first | (replace e2 := iteS e2; obtain ⟨hm, e2⟩ := e2) | (replace e2 := iteN e2; obtain ⟨hm, e2⟩ := e2) | ((split at e2 <;> first | (exact nno e2) | skip); (rename_i hm))
    obtain ⟨ds, e3, e4⟩ := Option.bind_eq_some_iff.mp e2
    refine for_value Wl LB ht (fun env x => ?_) hm e3 e4 (fun Q' hQ' => esound Wl it sc ρ d m e1 A E s env P Q' R kb' F.est hQ') R kb F h
    exact folded_ok hio

inductive Shape : Stmt → Prop
  | pass {p : Pos} : Shape (.Pass p)
  | retN {x : Str} {q p : Pos} : Shape (.Return (some (.Name x q)) p)
  | ret {e : Expr} {p : Pos} : (∀ x q, e ≠ .Name x q) → Shape (.Return (some e) p)
  | ifs {t : Expr} {b o : List Stmt} {p : Pos} : Shape (.If t b o p)
  | fors {t it : Expr} {b : List Stmt} {p : Pos} : Shape (.For t it b [] p)
  | asgN {x : Str} {v : Expr} {q p : Pos} : Shape (.Assign [.Name x q] v p)
  | asgL {es vs : List Expr} {k k' : Nat} {q q' p : Pos} : Shape (.Assign [.Tuple es k q] (.Tuple vs k' q') p)
  | asgT {es : List Expr} {v : Expr} {k : Nat} {q p : Pos} : (∀ vs k' p', v ≠ .Tuple vs k' p') → Shape (.Assign [.Tuple es k q] v p)
  | asgS {x : Str} {i v : Expr} {q q' p : Pos} : Shape (.Assign [.Subscript (.Name x q) i q'] v p)
  | call {f : Str} {args : List Expr} {q q' p : Pos} : Shape (.Expr (.Call (.Name f q) args [] q') p)
  | app {x nm : Str} {e : Expr} {q q' q'' p : Pos} : Shape (.Expr (.Call (.Attribute (.Name x q) nm q') [e] [] q'') p)
theorem shape_ret (v : Option Expr) (p : Pos) : Shape (.Return v p) ∨ ∀ (cx : Cx) mu sc ρ, ex cx mu sc (.Return v p) ρ = none := by
  cases v with
  | none => exact .inr fun _ _ _ _ => rfl
  | some e =>
    by_cases h : ∃ x q, e = .Name x q
    · obtain ⟨x, q, rfl⟩ := h; exact .inl .retN
    · exact .inl (.ret fun x q z => h ⟨x, q, z⟩)
theorem shape_asg (t v : Expr) (p : Pos) : Shape (.Assign [t] v p) ∨ ∀ (cx : Cx) mu sc ρ, ex cx mu sc (.Assign [t] v p) ρ = none := by
  cases t with
  | Name x q => exact .inl .asgN
  | Tuple es k q =>
    by_cases h : ∃ vs k' q', v = .Tuple vs k' q'
    · obtain ⟨vs, k', q', rfl⟩ := h; exact .inl .asgL
    · exact .inl (.asgT fun vs k' q' z => h ⟨vs, k', q', z⟩)
  | Subscript o i q => cases o with
    | Name x q' => exact .inl .asgS
    | _ => exact .inr fun _ _ _ _ => rfl
  | _ => exact .inr fun _ _ _ _ => rfl
theorem none_asg2 (t : Expr) (v : Expr) (p : Pos) (t' : Expr) (r : List Expr) : ∀ (cx : Cx) mu sc ρ, ex cx mu sc (.Assign (t :: t' :: r) v p) ρ = none := by
  cases t with
  | Subscript o i q => cases o <;> exact fun _ _ _ _ => rfl
  | _ => exact fun _ _ _ _ => rfl
theorem shape_call (f : Expr) (args : List Expr) (q p : Pos) : Shape (.Expr (.Call f args [] q) p) ∨ ∀ (cx : Cx) mu sc ρ, ex cx mu sc (.Expr (.Call f args [] q) p) ρ = none := by
  cases f with
  | Name x q' => exact .inl .call
  | Attribute o nm ap => cases o with
    | Name x xp => cases args with
      | nil => exact .inr fun _ _ _ _ => rfl
      | cons a r => cases r with
        | nil => exact .inl .app
        | cons => exact .inr fun _ _ _ _ => rfl
    | _ => exact .inr fun _ _ _ _ => rfl
  | _ => exact .inr fun _ _ _ _ => rfl
theorem none_callK (f : Expr) (args : List Expr) (k : Keyword) (ks : List Keyword) (q p : Pos) : ∀ (cx : Cx) mu sc ρ, ex cx mu sc (.Expr (.Call f args (k :: ks) q) p) ρ = none := by
  cases f with
  | Attribute o nm ap => cases o with
    | Name x xp => cases args with
      | nil => exact fun _ _ _ _ => rfl
      | cons a r => cases r <;> exact fun _ _ _ _ => rfl
    | _ => exact fun _ _ _ _ => rfl
  | _ => exact fun _ _ _ _ => rfl
theorem shape_expr (e : Expr) (p : Pos) : Shape (.Expr e p) ∨ ∀ (cx : Cx) mu sc ρ, ex cx mu sc (.Expr e p) ρ = none := by
  cases e with
  | Call f args kws q => cases kws with
    | nil => exact shape_call f args q p
    | cons k ks => exact .inr (none_callK f args k ks q p)
  | _ => exact .inr fun _ _ _ _ => rfl
theorem shape (st : Stmt) : Shape st ∨ ∀ (cx : Cx) mu sc ρ, ex cx mu sc st ρ = none := by
  cases st with
  | Pass p => exact .inl .pass
  | Return v p => exact shape_ret v p
  | If t b o p => exact .inl .ifs
  | For t it b o p => cases o with
    | nil => exact .inl .fors
    | cons => exact .inr fun _ _ _ _ => rfl
  | Assign ts v p => cases ts with
    | nil => exact .inr fun _ _ _ _ => rfl
    | cons t r => cases r with
      | nil => exact shape_asg t v p
      | cons t' r => exact .inr (none_asg2 t v p t' r)
  | Expr e p => exact shape_expr e p
  | _ => exact .inr fun _ _ _ _ => rfl

theorem stmt_sound (Wl : Wld prog w cx lv hb) : ∀ (n : Nat) (st : Stmt), sizeOf st < n → SSound prog w cx lv hb st := by
  intro n
  induction n with
  | zero => intro e h; exact absurd h (Nat.not_lt_zero _)
  | succ n ih =>
    intro st h
    rcases shape st with hs | hn
    · have mem : ∀ {l : List Stmt}, sizeOf l < n → LSound prog w cx lv hb l := fun hs => execs_sound _ fun st hst => ih st (Nat.lt_trans (List.sizeOf_lt_of_mem hst) hs)
      cases hs with
      | pass => exact pass_sound
      | retN => exact return_name Wl
      | ret hx => exact return_expr Wl hx
      | ifs => rw [Stmt.If.sizeOf_spec] at h; exact if_sound Wl (mem (by (first | lia | omega))) (mem (by (first | lia | omega)))
      | fors => rw [Stmt.For.sizeOf_spec] at h; exact for_sound Wl (mem (by (first | lia | omega)))
      | asgN => exact assign_name Wl
      | asgL => exact assign_tup_lit Wl
      | asgT hv => exact assign_tup Wl hv
      | asgS => exact assign_sub Wl
      | call => exact expr_call Wl
      | app => exact expr_append Wl
    · intro mu sc ρ fl e
      rw [hn] at e
      exact nno e

theorem lsound (Wl : Wld prog w cx lv hb) (l : List Stmt) : LSound prog w cx lv hb l := execs_sound l fun st _ => stmt_sound Wl _ st (Nat.lt_succ_self _)
end
end Mine

namespace Mine

theorem bindL_get (kO : Str → Option NameKind) (x : Str) (hx : kO x = some .local) : ∀ (binds : List (Str × Value)) (m : Str → Option Value), (binds.map (·.1)).Nodup → bindL kO binds m x = match binds.lookup x with | some v => some v | none => m x
  | [], m, _ => rfl
  | (n, v) :: r, m, hn => by
    rw [List.map_cons, List.nodup_cons] at hn
    unfold bindL
    rw [bindL_get kO x hx r _ hn.2, List.lookup_cons]
    by_cases h : x = n
    · subst h
      have : r.lookup x = none := by
        cases q : r.lookup x with
        | none => rfl
        | some v' => exact absurd (List.mem_map.mpr ⟨_, PySem.mem_of_lookup q, rfl⟩) hn.1
      rw [this, if_pos hx]
      simp
    · rw [beq_eq_false_iff_ne.mpr h]
      dsimp only
      cases q : r.lookup x with
      | some v' => rfl
      | none =>
        dsimp only
        split
        · simp [h]
        · rfl
theorem bindC_get (kO : Str → Option NameKind) (x : Str) (hx : kO x ≠ some .local) : ∀ (binds : List (Str × Value)) (m : Str → Option Value), (binds.map (·.1)).Nodup → bindC kO binds m x = match binds.lookup x with | some v => some v | none => m x
  | [], m, _ => rfl
  | (n, v) :: r, m, hn => by
    rw [List.map_cons, List.nodup_cons] at hn
    unfold bindC
    rw [bindC_get kO x hx r _ hn.2, List.lookup_cons]
    by_cases h : x = n
    · subst h
      have : r.lookup x = none := by
        cases q : r.lookup x with
        | none => rfl
        | some v' => exact absurd (List.mem_map.mpr ⟨_, PySem.mem_of_lookup q, rfl⟩) hn.1
      rw [this, if_neg hx]
      simp
    · rw [beq_eq_false_iff_ne.mpr h]
      dsimp only
      cases q : r.lookup x with
      | some v' => rfl
      | none =>
        dsimp only
        split
        · rfl
        · simp [h]

noncomputable def rho0 (names : List Str) (ds : List D) : Rho := (names.zip ds).map fun p => (p.1, (p.2, .fro))
theorem rho0_get {prog : Program} {w : World} {P : Vis} {x : Str} {r : D × Mode} {names : List Str} {vs : List Value} {ds : List D} (y : Reps prog w P vs ds) (e : (rho0 names ds).get x = some r) : r.2 = .fro ∧ ∃ v, (names.zip vs).lookup x = some v ∧ Rep prog w P v r.1 := by
  induction names generalizing vs ds with
  | nil => cases e
  | cons n ns ih => cases ds with
    | nil => cases e
    | cons d ds =>
      obtain ⟨v, us, rfl, a, b⟩ := y.consI
      simp only [rho0, List.zip_cons_cons, List.map_cons, Rho.get] at e
      rw [List.zip_cons_cons, List.lookup_cons]
      by_cases h : x = n
      · rw [if_pos h] at e; cases e
        subst h
        rw [beq_self_eq_true]
        exact ⟨rfl, _, rfl, a⟩
      · rw [if_neg h] at e
        rw [beq_eq_false_iff_ne.mpr h]
        exact ih b e
theorem zip_fst {α β : Type} : ∀ (as : List α) (bs : List β), ((as.zip bs).map (·.1)).Sublist as
  | [], _ => by simp
  | a :: as, [] => by simp
  | a :: as, b :: bs => by simp only [List.zip_cons_cons, List.map_cons]; exact (zip_fst as bs).cons_cons a

section
variable {prog : Program} {w : World} {cx : Cx} {lv : Nat} {hb : Heap} {K : Frag}

noncomputable def flVal : Fl → D × Bool
  | .nxt _ => (.none, false)
  | .ret d fr => (d, fr)

theorem frame_new {s s₁ : Shared} {P : Vis} {env : Env} {L : Addr} {scope : Scope} {names : List Str} {vs : List Value} {ds : List D} {binds : List (Str × Value)} (hL : env.locals = L) (hLs : L = s.heap.objs.size) (hsc : env.scope = scope) (hcl : env.cells = cellsFrom (L + 1) scope.names [])
    (hgl : env.globals = mainGlobals) (hbl : env.builtins = builtinsNs) (hb : binds = names.zip vs) (x : InCallC s env.locals (bindL env.kindOf binds fun _ => none) env.cells (bindC env.kindOf binds fun _ => none) s₁)
    (hk : scope.kind = .function) (hn : names.Nodup) (hnm : ∀ x ∈ names, scope.names.lookup x = some .local ∨ scope.names.lookup x = some .cell) (p : PIn P s.heap) (r : Reps prog w P vs ds) :
    FrameSt prog w scope env s.heap P (fun b => b = L ∨ ∃ y, env.cells.lookup y = some b) (rho0 names ds) P s₁.heap := by
  subst hb
  have kO : ∀ y, env.kindOf y = scope.names.lookup y := fun y => by unfold Env.kindOf; rw [hsc]
  have hnd : ((names.zip vs).map (·.1)).Nodup := (zip_fst names vs).nodup hn
  have fresh : ∀ b, L ≤ b → s.heap.get? b = none := fun b hb => Heap.get?_none_of_le (hLs ▸ hb)
  have above : ∀ y c, env.cells.lookup y = some c → L < c := fun y c e => hL ▸ x.above y c (PySem.mem_of_lookup e)
  have wf : ∀ a, (a = L ∨ ∃ y, env.cells.lookup y = some a) → s.heap.get? a = none := fun a e => e.elim (fun e => fresh a (Nat.le_of_eq e.symm)) fun ⟨y, e⟩ => fresh a (Nat.le_of_lt (above y a e))
  exact {
    est := {
      kind := by rw [hsc]; exact hk
      glb := hgl
      blt := hbl
      imp := fun y e => (kO y).trans e
      imc := fun y e => (kO y).trans e
      vars := fun y d m e => by
        obtain ⟨q1, v, q2, rv⟩ := rho0_get r e
        dsimp only at q1; subst q1
        refine ⟨by simp, v, ?_, rv⟩
        have hmem : y ∈ names := (List.of_mem_zip (PySem.mem_of_lookup q2)).1
        rcases hnm y hmem with h | h
        · refine .inl ⟨(kO y).trans h, _, x.toInCall.ns, ?_⟩
          rw [bindL_get _ _ ((kO y).trans h) _ _ hnd, q2]
        · have hsome := cellsFrom_some scope.names (L + 1) [] (x := y) (.inl h)
          obtain ⟨c, hc⟩ := Option.isSome_iff_exists.mp hsome
          rw [← hcl] at hc
          refine .inr ⟨.inl ((kO y).trans h), c, hc, ?_⟩
          have := x.cell y c hc
          rw [bindC_get _ _ (by rw [kO, h]; simp) _ _ hnd, q2] at this
          exact this
      pin := fun a o e => x.toInCall.keep a o (p a o e) }
    base := x.toInCall.keep
    pup := fun _ _ e => e
    pnew := fun _ _ e => .inl e
    wnew := wf
    wdom := fun a e => by
      rcases e with e | ⟨y, e⟩
      · subst e; obtain ⟨o, _, _, ho, _⟩ := x.toInCall.ns; rw [hL] at ho; exact ⟨o, ho⟩
      · obtain ⟨o, ho, _⟩ := x.cell y a e; exact ⟨o, ho⟩
    pw := fun a o e q => by have := p a o e; rw [wf a q] at this; cases this
    loc := .inl hL
    ns := ⟨_, x.toInCall.ns⟩
    lk := fun y e => (kO y).trans e
    ck := fun y e => by
      have hsome := cellsFrom_some scope.names (L + 1) [] (x := y) (.inl e)
      obtain ⟨c, hc⟩ := Option.isSome_iff_exists.mp hsome
      rw [← hcl] at hc
      exact ⟨(kO y).trans e, c, hc, .inr ⟨y, hc⟩, _, x.cell y c hc⟩
    cl := fun y c e q => by have := above y c e; rw [q, hL] at this; exact Nat.lt_irrefl _ this
    ca := fun y z c _ e e' => name_of_addr x.apart (PySem.mem_of_lookup e') (PySem.mem_of_lookup e)
    cx := fun y c e => .inl (.inr ⟨y, e⟩)
    own := fun y d a e => by have := (rho0_get r e).1; cases this
    apart := fun y z a d d' hn e => by have := (rho0_get r e).1; cases this }

theorem code_def {f : Addr} {name qual : Str} {params : Arguments} {body : List Stmt} {scope : Scope} {dV kV doc pm cdv ct oc : Value} {an od : Option Addr} {osl : Array (Option Value)} (Wl : Wld prog w cx lv hb) (X : K.In hb) (nl : hb.NoLimit)
    (ho : K.lookup f = some ⟨oc, od, .func (fnOf name qual params body scope dV kV doc pm an cdv ct), osl⟩) (hcd : codeIn K cdv qual = true) (hk : scope.kind = .function) (hco : scope.isCoroutine = false) (hgen : scope.isGenerator = false)
    {names : List Str} (hn : names.Nodup) (hnm : (names.all fun y => scope.names.lookup y == some .local || scope.names.lookup y == some .cell) = true)
    {A : Around} {s : Shared} {P : Vis} {vs us : List Value} {ds : List D} {R : Result → Shared → Prop} (hbind : ∀ S, peek K S (bindArgs (fnOf name qual params body scope dV kV doc pm an cdv ct) ⟨vs, []⟩) = some (names.zip us))
    (rm : Room A (lv + 1)) (kb : Sub hb s.heap) (p : PIn P s.heap) (r : Reps prog w P us ds) {mu : List Str} {fl : Fl} (e : exs cx mu scope body (rho0 names ds) = some fl)
    (hR : ∀ v s' P', Sub s.heap s'.heap → SameW s s' → PExt P s.heap P' s'.heap → Val prog w s.heap P' s'.heap v (flVal fl).1 (if (flVal fl).2 then .fre else .fro) → R (.ok (.ret v)) s') :
    codeAny (model prog w) A (.call (.ref f) ⟨vs, []⟩) R s := by
  have hd := rm.dp
  have ho' := kb _ _ (X _ _ ho)
  have hnm' : ∀ x ∈ names, scope.names.lookup x = some .local ∨ scope.names.lookup x = some .cell := fun x hx => by simpa using List.all_eq_true.mp hnm x hx
  refine codeAny_call_function (by (first | lia | omega)) ho' rfl hco hgen rfl (codeRec_of (X.keeps kb) hcd) ?_
  refine kp_binds (X.keeps kb) hbind _ _ _ _ ?_
  show wpAny _ _ (newFunctionEnv scope mainGlobals [] (names.zip us) (qual ++ ".<locals>.") (some f) cdv none builtinsNs) _ _ _
  refine wpAny_newFunctionEnv_cells hk (fun x hx => ?_) fun env he s₁ x => ?_
  · rcases hnm' x.1 (List.of_mem_zip hx).1 with h | h
    · exact .inl h
    · exact .inr ⟨h, cellsFrom_some _ _ _ (.inl h)⟩
  · subst he
    refine ⟨nl.keeps fun b o q => x.toInCall.keep b o (kb b o q), codeAny_func ?_⟩
    have F := frame_new (prog := prog) (w := w) rfl rfl rfl rfl rfl rfl rfl x hk hn hnm' p r
    obtain ⟨h₁, tk₁, hs₁⟩ := x.toInCall.same
    have ww : SameW s s₁ := by rw [hs₁]; exact ⟨rfl, rfl⟩
    refine lsound Wl body mu scope _ fl e _ _ s₁ _ s.heap P P _ _ ⟨rm.hd, by show A.depth + 1 + lv < _; (first | lia | omega), by have := rm.un; show A.units + 3 + 8 * lv + 128 < _; (first | lia | omega)⟩ kb F ?_
    cases fl with
    | nxt ρ' =>
      intro s' P' W' M' w' F'
      exact hR .none s' P' F'.base (ww.trans w') F'.ext .none
    | ret d fr =>
      intro v s' P' w' k' y' x'
      exact hR v s' P' k' (ww.trans w') y' x'

theorem spec_def {f : Addr} {name qual : Str} {params : Arguments} {body : List Stmt} {scope : Scope} {dV kV doc pm cdv ct oc : Value} {an od : Option Addr} {osl : Array (Option Value)} (Wl : Wld prog w cx lv hb) (X : K.In hb) (nl : hb.NoLimit)
    (ho : K.lookup f = some ⟨oc, od, .func (fnOf name qual params body scope dV kV doc pm an cdv ct), osl⟩) (hcd : codeIn K cdv qual = true) (hk : scope.kind = .function) (hco : scope.isCoroutine = false) (hgen : scope.isGenerator = false)
    {names : List Str} (hn : names.Nodup) (hnm : (names.all fun y => scope.names.lookup y == some .local || scope.names.lookup y == some .cell) = true)
    {ds dd : List D} {dv : List Value} (rd : Reps prog w (fun _ _ => False) dv dd) (hbind : ∀ vs : List Value, vs.length = ds.length → ∀ S, peek K S (bindArgs (fnOf name qual params body scope dV kV doc pm an cdv ct) ⟨vs, []⟩) = some (names.zip (vs ++ dv)))
    {mu : List Str} {fl : Fl} (e : exs cx mu scope body (rho0 names (ds ++ dd)) = some fl) : Spec prog w hb (lv + 1) (.ref f) ds (flVal fl).1 (flVal fl).2 := by
  intro A E s P vs Q rm kb p r hQ
  refine wpAny_call (code_def Wl X nl ho hcd hk hco hgen hn hnm (hbind vs r.length) rm kb p (r.append (rd.mono fun _ _ q => q.elim)) e fun v s' P' k' w' y' x' => ?_)
  exact hQ v s' P' k' w' y' x'
end
end Mine

namespace Mine

noncomputable def asAttr : Expr → Option Str
  | .Attribute o nm _ => (asName o).bind fun x => if x = ("self" : Str) then some nm else none
  | _ => none
theorem asAttr_inv {e : Expr} {nm : Str} (h : asAttr e = some nm) : ∃ p q, e = .Attribute (.Name "self" p) nm q := by
  cases e with
  | Attribute o n q =>
    obtain ⟨x, h1, h⟩ := Option.bind_eq_some_iff.mp h
    obtain ⟨p, h2⟩ := asName_inv h1
    obtain ⟨h3, h⟩ := iteS h
    exact ⟨p, q, by rw [h2, h3, Option.some.inj h]⟩
  | _ => exact nno h
noncomputable def init1 : Stmt → Option (Str × Str)
  | .Assign ts v _ => match ts with
    | [] => none
    | t :: r => if r.isEmpty = true then (asAttr t).bind fun nm => (asName v).bind fun x => if x ≠ ("__debug__" : Str) then some (nm, x) else none else none
  | _ => none
theorem init1_inv {st : Stmt} {f : Str × Str} (h : init1 st = some f) : ∃ a b c d, st = .Assign [.Attribute (.Name "self" a) f.1 b] (.Name f.2 c) d ∧ f.2 ≠ ("__debug__" : Str) := by
  cases st with
  | Assign ts v d => cases ts with
    | nil => exact nno h
    | cons t r =>
      obtain ⟨h1, h⟩ := iteS h
      obtain ⟨nm, h2, h⟩ := Option.bind_eq_some_iff.mp h
      obtain ⟨x, h3, h⟩ := Option.bind_eq_some_iff.mp h
      obtain ⟨h4, h⟩ := iteS h
      obtain ⟨a, b, h5⟩ := asAttr_inv h2
      obtain ⟨c, h6⟩ := asName_inv h3
      cases h
      exact ⟨a, b, c, d, by rw [isE h1, h5, h6], h4⟩
  | _ => exact nno h
noncomputable def initOf : List Stmt → Option (List (Str × Str))
  | [] => some []
  | st :: r => (init1 st).bind fun f => (initOf r).map (f :: ·)
theorem initOf_inv {st : Stmt} {r : List Stmt} {fs : List (Str × Str)} (h : initOf (st :: r) = some fs) : ∃ f l, init1 st = some f ∧ initOf r = some l ∧ f :: l = fs := by
  obtain ⟨f, h1, h⟩ := Option.bind_eq_some_iff.mp (show (init1 st).bind (fun f => (initOf r).map (f :: ·)) = some fs from h)
  obtain ⟨l, h2, h3⟩ := Option.map_eq_some_iff.mp h
  exact ⟨f, l, h1, h2, h3⟩
noncomputable def isNone2 : Option (Option Value) → Bool
  | some none => true
  | _ => false
theorem isNone2_eq {x : Option (Option Value)} (h : isNone2 x = true) : x = some none := by
  unfold isNone2 at h; split at h
  · rfl
  · cases h

theorem putL_new {nm : Str} {hsh : Int} {key v : Value} : ∀ {es : List DictEntry}, (∀ e ∈ es, e.key.isStr nm = false) → putL nm hsh key v es = es ++ [⟨hsh, key, v⟩]
  | [], _ => rfl
  | e :: r, h => by
    unfold putL
    rw [h e (List.mem_cons_self ..), putL_new fun e he => h e (List.mem_cons_of_mem _ he)]; rfl

section
variable {prog : Program} {w : World} {cx : Cx} {lv : Nat} {hb : Heap} {K : Frag}

theorem RepF.str {P : Vis} {es : List DictEntry} {fs : List (Str × D)} (x : RepF prog w P es fs) : ∀ e ∈ es, ∃ nm t, e.key = .str nm t ∧ nm ∈ fs.map (·.1) := by
  induction fs generalizing es with
  | nil => rw [x.nilI]; exact fun e h => nomatch h
  | cons f fs ih =>
    obtain ⟨e0, t, us, rfl, hk, a, r⟩ := x.consI
    intro e h
    rcases List.mem_cons.mp h with rfl | h
    · exact ⟨f.1, t, hk, List.mem_cons_self ..⟩
    · obtain ⟨nm', t, q, hm⟩ := ih r e h
      exact ⟨nm', t, q, List.mem_cons_of_mem _ hm⟩
theorem RepF.snoc {P : Vis} {e : DictEntry} {nm : Str} {t : Tok} {d : D} (hk : e.key = .str nm t) (a : Rep prog w P e.val d) {es : List DictEntry} {fs : List (Str × D)} (x : RepF prog w P es fs) : RepF prog w P (es ++ [e]) (fs ++ [(nm, d)]) := by
  induction fs generalizing es with
  | nil => rw [x.nilI]; exact .cons hk a .nil
  | cons f fs ih => obtain ⟨e0, t, us, rfl, hk', a', r⟩ := x.consI; exact .cons hk' a' (ih r)
theorem RepF.length {P : Vis} {es : List DictEntry} {fs : List (Str × D)} (x : RepF prog w P es fs) : es.length = fs.length := by
  induction fs generalizing es with
  | nil => rw [x.nilI]; rfl
  | cons f fs ih => obtain ⟨e0, t, us, rfl, hk', a', r⟩ := x.consI; exact congrArg (· + 1) (ih r)

structure ClsOk (K : Frag) (C : Addr) : Prop where
  set : findIn K (.ref C) "__setattr__" = some (some (.builtin "object.__setattr__"))
  over : plainOver K C = true
  dict : hasDictIn K C = true

theorem init_run {A : Around} {E : Value → Shared → Prop} {env : Env} {h : Heap} {m : Str → Option Value} {C x dx : Addr} {P : Vis} (X : K.In h) (ck : ClsOk K C) (hkind : env.scope.kind = .function) (hne : x ≠ dx) (hself : env.kindOf "self" = some .local) (hms : m "self" = some (.ref x)) :
    ∀ (body : List Stmt) (fs : List (Str × Str)) (out : List (Str × D)), initOf body = some fs → (∀ f ∈ fs, takerIn K C f.1 = some none ∧ env.kindOf f.2 = some .local) → out.length = fs.length →
      (∀ p ∈ fs.zip out, p.1.1 = p.2.1 ∧ ∃ v, m p.1.2 = some v ∧ Rep prog w P v p.2.2) → ∀ (s : Shared) (es : List DictEntry) (n : Nat) (pre : List (Str × D)) (Q : Flow → Shared → Prop),
      ((pre ++ out).map (·.1)).Nodup → (pre ++ out).length ≤ 1000 → RepF prog w P es pre → Fr h env.locals s.heap m → News h env.locals s.heap [(x, instObj C dx), (dx, dictOf es n)] →
      (∀ h' tk es' n', RepF prog w P es' (pre ++ out) → Fr h env.locals h' m → News h env.locals h' [(x, instObj C dx), (dx, dictOf es' n')] → Q .next { s with heap := h', toks := tk }) →
      wpAny (model prog w) A (execs body env) Q E s
  | [], fs, out, e, _, hl, _, s, es, n, pre, Q, _, _, r, F, N, h => by
    cases e
    cases out with
    | cons => cases hl
    | nil => exact wpAny_execs_nil (h s.heap s.toks es n (by simpa using r) F N)
  | st :: rest, fs, out, e, hfs, hl, hz, s, es, n, pre, Q, hnd, hlen, r, F, N, h => by
    obtain ⟨f, fs', h1, e1, rfl⟩ := initOf_inv e
    obtain ⟨sp, ap, xp, pos, rfl, hdb⟩ := init1_inv h1
    obtain ⟨nm, xx⟩ := f
    · skip
      cases out with
      | nil => cases hl
      | cons o out =>
      obtain ⟨onm, od⟩ := o
      obtain ⟨q1, v, q2, rv⟩ := hz ((nm, xx), (onm, od)) (by simp)
      dsimp only at q1 q2; subst q1
      obtain ⟨tk0, loc⟩ := hfs (nm, xx) (List.mem_cons_self ..)
      refine wpAny_execs_cons (plainObj_wpAny_Assign_Attribute ?_ rfl)
      refine wpAny_Name (wpAny_loadName_local hkind loc F.ns q2 ?_) (beq_eq_false_iff_ne.mpr hdb)
      refine wpAny_Name (wpAny_loadName_local hkind hself F.ns hms ?_) (by decide)
      have hnew : ∀ e ∈ es, e.key.isStr nm = false := fun e he => by
        obtain ⟨nm', t, hk, hm⟩ := r.str e he
        rw [hk]
        show (nm' == nm) = false
        refine beq_eq_false_iff_ne.mpr fun q => ?_
        rw [List.map_append, List.nodup_append] at hnd
        exact hnd.2.2 nm' hm nm (by simp) q
      have hfind : es.find? (fun e => e.key.isStr nm) = none := List.find?_eq_none.mpr fun e he => by rw [hnew e he]; simp
      have hrk : es.any (·.refKey) = false := by
        rw [List.any_eq_false]
        intro e he
        obtain ⟨nm', t, hk, _⟩ := r.str e he
        simp [DictEntry.refKey, hk]
      have hes : es.length ≤ 1000 - 1 := by
        rw [r.length]; rw [List.length_append, List.length_cons] at hlen; (first | lia | omega)
      refine set_dict (K := K) (dx := dx) (es := es) (n := n) (es' := es ++ [⟨PyData.keyHash w.params nm, .str nm (s.toks + 1), v⟩]) (n' := putN nm es n) F X N (InstAt.of_news (sl := #[]) N (by simp) (by simp)) rfl ck.set ck.over tk0 ck.dict
        (by unfold getL; rw [hfind, hrk]; rfl) (by rw [putL_new hnew]) (.tail hne (.head fun p hp => nomatch hp)) (by rw [List.length_append, List.length_singleton]; (first | lia | omega)) fun h' F' N' => ?_
      have r' : RepF prog w P (es ++ [⟨PyData.keyHash w.params nm, .str nm (s.toks + 1), v⟩]) (pre ++ [(nm, od)]) := RepF.snoc rfl rv r
      refine init_run X ck hkind hne hself hms rest fs' out e1 (fun f hf => hfs f (List.mem_cons_of_mem _ hf)) (by simpa using hl) (fun p hp => hz p (by rw [List.zip_cons_cons]; exact List.mem_cons_of_mem _ hp)) { s with heap := h', toks := s.toks + 2 } _ _ (pre ++ [(nm, od)]) Q
        (by simpa using hnd) (by simpa using hlen) r' F' N' fun h'' tk es' n' r'' F'' N'' => ?_
      exact h h'' tk es' n' (by simpa using r'') F'' N''

theorem spec_cls {C fI : Addr} {name qual : Str} {params : Arguments} {body : List Stmt} {scope : Scope} {dV kV doc pm cdv ct oc : Value} {an od : Option Addr} {osl : Array (Option Value)} (X : K.In hb) (nl : hb.NoLimit)
    (hm : makesIn K C = true) (hi : findIn K (.ref C) "__init__" = some (some (.ref fI))) (hf : typeIn K (.ref fI) = some (.type "function"))
    (ho : K.lookup fI = some ⟨oc, od, .func (fnOf name qual params body scope dV kV doc pm an cdv ct), osl⟩) (hcd : codeIn K cdv qual = true) (hk : scope.kind = .function) (hco : scope.isCoroutine = false) (hgen : scope.isGenerator = false)
    (hcell : (scope.names.all fun x => x.2 != .cell) = true) {names : List Str} (hn : ((("self" : Str) :: names)).Nodup) (hnm : ((("self" : Str) :: names).all fun y => scope.names.lookup y == some .local) = true) (ck : ClsOk K C)
    {ds dd : List D} {dv : List Value} (rd : Reps prog w (fun _ _ => False) dv dd) (hbind : ∀ vs : List Value, vs.length = ds.length → ∀ x S, peek K S (bindArgs (fnOf name qual params body scope dV kV doc pm an cdv ct) ⟨.ref x :: vs, []⟩) = some ((("self" : Str), Value.ref x) :: names.zip (vs ++ dv)))
    {fs : List (Str × Str)} (hb0 : initOf body = some fs) (htk : (fs.all fun f => isNone2 (takerIn K C f.1) && scope.names.lookup f.2 == some .local && f.2 != "self") = true) {out : List (Str × D)} (hl : out.length = fs.length) (hl2 : out.length ≤ 1000)
    (hout : ∀ p ∈ fs.zip out, p.1.1 = p.2.1 ∧ (names.zip (ds ++ dd)).lookup p.1.2 = some p.2.2) (hnd : (out.map (·.1)).Nodup) : Spec prog w hb (lv + 1) (.ref C) ds (.obj C out) false := by
  intro A E s P vs Q rm kb p r hQ
  have hd := rm.dp
  have X' := X.keeps kb
  obtain ⟨hp, g, d, tk, os⟩ := s
  refine wpAny_call (make_core (makes_of X' hm) (looks_findIn X' hi) (fun self => bind_fn X' self hf) (.inl rfl) ?_)
  generalize hH : (hp.push emptyDict).push (instObj C hp.objs.size) = H
  have hdx : H.get? hp.objs.size = some (dictOf [] 0) := by rw [← hH]; exact Heap.get?_push_of_some _ (Heap.get?_push_size _ rfl)
  have hx : H.get? (hp.objs.size + 1) = some (instObj C hp.objs.size) := by
    rw [← hH]
    have := Heap.get?_push_size (hp.push emptyDict) (o := instObj C hp.objs.size) rfl
    rwa [Heap.size_push] at this
  have old : ∀ b o, hp.get? b = some o → H.get? b = some o := fun b o e => by rw [← hH]; exact Heap.get?_push_of_some _ (Heap.get?_push_of_some _ e)
  have hHs : H.objs.size = hp.objs.size + 2 := by rw [← hH, Heap.size_push, Heap.size_push]
  have X₂ : K.In H := X'.keeps old
  have rr : Reps prog w P (vs ++ dv) (ds ++ dd) := r.append (rd.mono fun _ _ q => q.elim)
  refine codeAny_call_function (by show A.depth + 1 < _; (first | lia | omega)) (X₂ _ _ ho) rfl hco hgen rfl (codeRec_of X₂ hcd) ?_
  refine kp_binds X₂ (hbind vs r.length (hp.objs.size + 1)) _ _ _ _ ?_
  have hcell' : ∀ x ∈ scope.names, x.2 ≠ .cell := fun x hx => by simpa using List.all_eq_true.mp hcell x hx
  have hloc : ∀ y ∈ (("self" : Str) :: names), scope.names.lookup y = some .local := fun y hy => by simpa using List.all_eq_true.mp hnm y hy
  refine wpAny_newFunctionEnv hcell' (fun x hx => ?_) (fun h₁ hns hsb => ⟨(nl.keeps fun b o q => old b o (kb b o q)).fresh _ hsb, ?_⟩) hk
  · rcases List.mem_cons.mp hx with rfl | hx
    · exact hloc _ (List.mem_cons_self ..)
    · exact hloc _ (List.mem_cons_of_mem _ (List.of_mem_zip hx).1)
  dsimp only at hns hsb ⊢
  refine codeAny_func ?_
  have k₁ : ∀ b o, H.get? b = some o → h₁.get? b = some o := fun b o e => hsb.extBut b o (Nat.ne_of_lt (Heap.lt_size e)) (Heap.get?_push_of_some _ e)
  have hz : (names.zip (vs ++ dv)).map (·.1) |>.Nodup := (zip_fst _ _).nodup (List.nodup_cons.mp hn).2
  have nself : ("self" : Str) ∉ (names.zip (vs ++ dv)).map (·.1) := fun q => (List.nodup_cons.mp hn).1 ((zip_fst _ _).subset q)
  have hnd2 : (((("self" : Str), Value.ref (hp.objs.size + 1)) :: names.zip (vs ++ dv)).map (·.1)).Nodup := by rw [List.map_cons, List.nodup_cons]; exact ⟨nself, hz⟩
  have none_of : ∀ b, hp.objs.size ≤ b → hp.get? b = none := fun b hb => Heap.get?_none_of_le hb
  refine init_run (h := hp) (P := P) (x := hp.objs.size + 1) (dx := hp.objs.size) X' ck (by exact hk) (Nat.succ_ne_self _) (by exact hloc _ (List.mem_cons_self ..)) (by show List.lookup _ (List.reverse _) = _; rw [lookup_rev hnd2]; simp) body fs out hb0 (fun f hf => ?_) hl (fun q hq => ?_) _ [] 0 [] _ (by simpa using hnd) (by simpa using hl2) .nil
    ⟨hns, fun b o e => k₁ b o (old b o e), by show hp.objs.size ≤ H.objs.size; (first | lia | omega)⟩ (fun q hq => ?_) fun h' tk' es' n' r' F' N' => ?_
  · have := List.all_eq_true.mp htk f hf
    simp only [Bool.and_eq_true, beq_iff_eq, bne_iff_ne] at this
    exact ⟨isNone2_eq this.1.1, this.1.2⟩
  · obtain ⟨a, b⟩ := hout q hq
    refine ⟨a, ?_⟩
    have hfm := (List.of_mem_zip (show (q.1, q.2) ∈ _ from hq)).1
    have := List.all_eq_true.mp htk q.1 hfm
    simp only [Bool.and_eq_true, beq_iff_eq, bne_iff_ne] at this
    have hl3 : ∀ {ns : List Str} {us : List Value} {es : List D}, Reps prog w P us es → ∀ {y : Str} {dd : D}, (ns.zip es).lookup y = some dd → ∃ v, (ns.zip us).lookup y = some v ∧ Rep prog w P v dd := by
      intro ns
      induction ns with
      | nil => intro us es _ y dd e; cases e
      | cons n ns ih =>
        intro us es rr y dd e
        cases rr with
        | nil => cases e
        | cons a b =>
          rw [List.zip_cons_cons, List.lookup_cons] at e ⊢
          split at e
          · cases e; exact ⟨_, rfl, a⟩
          · exact ih b e
    obtain ⟨v, q1, rv⟩ := hl3 rr b
    refine ⟨v, ?_, rv⟩
    show List.lookup _ (List.reverse _) = _
    rw [lookup_rev hnd2, List.lookup_cons, beq_eq_false_iff_ne.mpr this.2]
    exact q1
  · simp at hq
    have hL : ∀ b, b < H.objs.size → b ≠ H.objs.size := fun b hb => Nat.ne_of_lt hb
    rcases hq with rfl | rfl
    · exact ⟨k₁ _ _ hx, hL _ (by rw [hHs]; exact Nat.lt_succ_self _), none_of _ (Nat.le_succ _)⟩
    · exact ⟨k₁ _ _ hdx, hL _ (by rw [hHs]; exact Nat.lt_succ_of_lt (Nat.lt_succ_self _)), none_of _ (Nat.le_refl _)⟩
  · refine ⟨rfl, ?_⟩
    have hx' := (N' (hp.objs.size + 1, instObj C hp.objs.size) (by simp)).1
    have hdx' := (N' (hp.objs.size, dictOf es' n') (by simp)).1
    have y0 : PExt P hp P h' := PExt.stay p F'.keep
    refine hQ (.ref (hp.objs.size + 1)) _ (PAdd (PAdd P (hp.objs.size + 1) (instObj C hp.objs.size)) hp.objs.size (dictOf es' n')) F'.keep ⟨rfl, rfl⟩ ((y0.add (none_of _ (Nat.le_succ _)) hx').add (none_of _ (Nat.le_refl _)) hdx') ?_
    exact .obj (.inl (.inr ⟨rfl, rfl⟩)) (.inr ⟨rfl, rfl⟩) (RepF.mono (fun _ _ e => .inl (.inl e)) (by simpa using r'))
end
end Mine

open PySem PySem.W PySem.Calls PyProof.Rows PyProof.Rows.LSm
namespace Mine

noncomputable def boolsOf : List D → Option (List Bool)
  | [] => some []
  | d :: r => (asBool d).bind fun a => (boolsOf r).map (a :: ·)
noncomputable def insI (x : Int) : List Int → List Int
  | [] => [x]
  | y :: r => if x ≤ y then x :: y :: r else y :: insI x r
noncomputable def isort (l : List Int) : List Int := l.foldr insI []
theorem insI_perm (x : Int) : ∀ l : List Int, (insI x l).Perm (x :: l)
  | [] => .refl _
  | y :: r => by
    unfold insI
    split
    · exact .refl _
    · exact ((insI_perm x r).cons y).trans (.swap x y r)
theorem isort_perm : ∀ l : List Int, (isort l).Perm l
  | [] => .refl _
  | x :: r => (insI_perm x (isort r)).trans ((isort_perm r).cons x)
set_option tactic.hygienic true in
theorem insI_sorted (x : Int) : ∀ {l : List Int}, l.Pairwise (· ≤ ·) → (insI x l).Pairwise (· ≤ ·)
  | [], _ => List.pairwise_singleton _ _
  | y :: r, h => by
    obtain ⟨h1, h2⟩ := List.pairwise_cons.mp h
    unfold insI
    split
    · rename_i hxy
      refine List.pairwise_cons.mpr ⟨fun z hz => ?_, h⟩
      rcases List.mem_cons.mp hz with rfl | hz
      · exact hxy
      · exact Int.le_trans hxy (h1 z hz)
    · rename_i hxy
      refine List.pairwise_cons.mpr ⟨fun z hz => ?_, insI_sorted x h2⟩
      rcases List.mem_cons.mp ((insI_perm x r).mem_iff.mp hz) with rfl | hz
      · (first | lia | omega)
      · exact h1 z hz
theorem isort_sorted : ∀ l : List Int, (isort l).Pairwise (· ≤ ·)
  | [] => List.Pairwise.nil
  | x :: r => insI_sorted x (isort_sorted r)
theorem sorted_uniq : ∀ {a b : List Int}, a.Pairwise (· ≤ ·) → b.Pairwise (· ≤ ·) → a.Perm b → a = b
  | [], b, _, _, h => (List.Perm.nil_eq h)
  | x :: a, [], _, _, h => by have := h.length_eq; simp at this
  | x :: a, y :: b, ha, hb, h => by
    obtain ⟨h1, h2⟩ := List.pairwise_cons.mp ha
    obtain ⟨h3, h4⟩ := List.pairwise_cons.mp hb
    have e1 : x ∈ y :: b := h.mem_iff.mp (List.mem_cons_self ..)
    have e2 : y ∈ x :: a := h.mem_iff.mpr (List.mem_cons_self ..)
    have hxy : x = y := by
      rcases List.mem_cons.mp e1 with e | e
      · exact e
      · rcases List.mem_cons.mp e2 with e' | e'
        · exact e'.symm
        · exact Int.le_antisymm (h1 y e') (h3 x e)
    subst hxy
    rw [sorted_uniq h2 h4 ((List.perm_cons x).mp h)]

section
variable {prog : Program} {w : World} {lv : Nat} {hb : Heap}

theorem bools_are {P : Vis} {vs : List Value} {ds : List D} {bs : List Bool} (x : Reps prog w P vs ds) (e : boolsOf ds = some bs) : BoolsAre vs bs := by
  induction ds generalizing vs bs with
  | nil => rw [x.nilI]; cases e; exact .nil
  | cons d ds ih =>
    obtain ⟨v, us, rfl, a, r⟩ := x.consI
    obtain ⟨b, h1, e⟩ := Option.bind_eq_some_iff.mp (show (asBool d).bind (fun a => (boolsOf ds).map (a :: ·)) = some bs from e)
    obtain ⟨l, e1, rfl⟩ := Option.map_eq_some_iff.mp e
    have h1 := asBool_inv h1
    subst h1
    have h2 := a.boolI
    subst h2
    exact .cons _ (ih r e1)

theorem spec_len {xs : List D} (hn : xs.length ≤ 1000000) : Spec prog w hb lv (.builtin "len") [.list xs] (.int xs.length) false := by
  intro A E s P vs Q rm kb p r hQ
  obtain ⟨_, rfl, a⟩ := r.oneI
  obtain ⟨l, n, us, rfl, a, r⟩ := a.listI
  have := r.length
  refine call_len_list (isList_of (p _ _ a)) (by rw [List.size_toArray, this]; (first | lia | omega)) ?_
  rw [List.size_toArray, this]
  exact post_int (s := s) p hQ

theorem spec_range {n : Int} : Spec prog w hb lv (.type "range") [.int n] (.rng 0 n) false := by
  intro A E s P vs Q rm kb p r hQ
  obtain ⟨_, rfl, a⟩ := r.oneI
  obtain ⟨t, rfl⟩ := a.intI
  refine call_range_1 ?_
  exact hQ _ _ (PAdd P _ _) (Sub.push _ _) ⟨rfl, rfl⟩ ((PExt.stay p (Sub.push _ _)).add (Heap.get?_none_of_le (Nat.le_refl _)) (Heap.get?_push_size _ rfl)) (.rng (.inr ⟨rfl, rfl⟩))

theorem spec_any {xs : List D} {bs : List Bool} (e : boolsOf xs = some bs) : Spec prog w hb lv (.builtin "any") [.list xs] (.bool (bs.any id)) false := by
  intro A E s P vs Q rm kb p r hQ
  obtain ⟨_, rfl, a⟩ := r.oneI
  obtain ⟨l, n, us, rfl, a, r⟩ := a.listI
  have hl := isList_of (p _ _ a)
  have hb := bools_are r e
  have hlt : l < s.heap.objs.size := Heap.lt_size (p _ _ a)
  refine call_any_walk (wpAny_pyIter_list hl ?_)
  refine ⟨s.heap.objs.size, [s.heap.objs.size, l], [s.heap.objs.size], us.toArray.size, _, _, fun i => (bs[i]?).getD false, rfl, Walks.list (A := A.in1) rm.hd _ l (Nat.ne_of_lt hlt) us.toArray,
    ⟨⟨_, Heap.get?_push_size _ rfl, rfl, rfl⟩, hl.push _⟩, fun i v s' Q' E' hP hQ => ?_, fun h' tk hk => ?_⟩
  · obtain ⟨b, e, rfl⟩ := hb.get i v (by simpa using hP)
    simp only [e, Option.getD_some] at hQ
    exact wpAny_truthy_bool hQ
  · have e : ((List.range us.toArray.size).any fun i => (bs[i]?).getD false) = bs.any id := by
      rw [List.size_toArray, hb.length]; exact range_any bs
    rw [e]
    have k := kept_iter hk
    exact hQ _ _ P k ⟨rfl, rfl⟩ (PExt.stay p k) (.bool _)

theorem foldl_max : ∀ (l : List Int) (a : Int), (l.foldl max a = a ∨ l.foldl max a ∈ l) ∧ a ≤ l.foldl max a ∧ ∀ x ∈ l, x ≤ l.foldl max a
  | [], a => ⟨.inl rfl, Int.le_refl _, fun _ h => nomatch h⟩
  | y :: r, a => by
    obtain ⟨h1, h2, h3⟩ := foldl_max r (max a y)
    have ha : a ≤ max a y := Int.le_max_left _ _
    have hy : y ≤ max a y := Int.le_max_right _ _
    refine ⟨?_, Int.le_trans ha h2, fun x hx => ?_⟩
    · rw [List.foldl_cons]
      rcases h1 with h1 | h1
      · rw [h1]
        rcases Int.le_total a y with q | q
        · rw [Int.max_eq_right q]; exact .inr (List.mem_cons_self ..)
        · rw [Int.max_eq_left q]; exact .inl rfl
      · exact .inr (List.mem_cons_of_mem _ h1)
    · rw [List.foldl_cons]
      rcases List.mem_cons.mp hx with rfl | hx
      · exact Int.le_trans hy h2
      · exact h3 x hx

theorem spec_max {xs : List D} {i : Int} {ns : List Int} (e : intsOf xs = some (i :: ns)) : Spec prog w hb lv (.builtin "max") [.list xs] (.int (ns.foldl max i)) false := by
  intro A E s P vs Q rm kb p r hQ
  obtain ⟨_, rfl, a⟩ := r.oneI
  obtain ⟨l, n, us, rfl, a, r⟩ := a.listI
  have hl := isList_of (p _ _ a)
  have hi := ints_are r e
  obtain ⟨xs', e'⟩ := hi.allInts.items
  have hns : i :: ns = xs'.toList.map (·.1) := by
    rw [← hi.numsOf, ← nums_intItems, ← e']
  have hsz : 0 < xs'.size := by
    have h3 : 0 < (i :: ns).length := by simp
    rw [hns, List.length_map, Array.length_toList] at h3; exact h3
  rw [e'] at hl
  refine max_intList rm.hd hl hsz fun v h' tk hv hk => ?_
  obtain ⟨t, rfl⟩ := intItems_at hv
  obtain ⟨h1, h2⟩ := argBest_gt (numAt xs') (xs'.size - 1)
  have key : numAt xs' (argBest (fun i j => decide (numAt xs' i > numAt xs' j)) (xs'.size - 1)) = ns.foldl max i := by
    obtain ⟨m1, m2, m3⟩ := foldl_max ns i
    have mem : ns.foldl max i ∈ i :: ns := by
      rcases m1 with q | q
      · rw [q]; exact List.mem_cons_self ..
      · exact List.mem_cons_of_mem _ q
    have le : ∀ x ∈ i :: ns, x ≤ ns.foldl max i := fun x hx => by
      rcases List.mem_cons.mp hx with rfl | hx
      · exact m2
      · exact m3 x hx
    refine Int.le_antisymm (le _ ?_) ?_
    · rw [hns, numAt_eq]; exact getD_mem (by rw [List.length_map, Array.length_toList]; (first | lia | omega))
    · rw [hns] at mem
      obtain ⟨j, hj, e1⟩ := mem_getD mem
      rw [List.length_map, Array.length_toList] at hj
      rw [← e1, ← numAt_eq]; exact h2 j (by (first | lia | omega))
  rw [key]
  exact hQ _ _ P hk ⟨rfl, rfl⟩ (PExt.stay p hk) (.int _ _)

theorem reps_ints {P : Vis} {vs : List Value} {ns : List Int} (x : IntsAre vs ns) : Reps prog w P vs (ns.map .int) := by
  induction x with
  | nil => exact .nil
  | cons n t _ ih => exact .cons (.int _ _) ih

theorem spec_sorted {xs : List D} {ns : List Int} (bg : Big hb) (e : intsOf xs = some ns) (h64 : ns.length < 64) : Spec prog w hb lv (.builtin "sorted") [.list xs] (.list ((isort ns).map .int)) true := by
  intro A E s P vs Q rm kb p r hQ
  obtain ⟨_, rfl, a⟩ := r.oneI
  obtain ⟨l, n, us, rfl, a, r⟩ := a.listI
  have hl := isList_of (p _ _ a)
  have hi := ints_are r e
  have hlen := IntsAre.length hi
  refine sorted_ints hl hi (by (first | lia | omega)) fun out ns' a1 a2 a3 => ?_
  have hns : ns' = isort ns := sorted_uniq a3 (isort_sorted ns) (a2.trans (isort_perm ns).symm)
  subst hns
  obtain ⟨e1, he⟩ := sortedAll_at s.heap us out
  have k : Sub s.heap (sortedAll s.heap us out) := fun b o q => sortedAll_old q
  have hbg := (bg.keeps kb).lt
  refine hQ _ { s with heap := sortedAll s.heap us out } P k ⟨rfl, rfl⟩ (PExt.stay p k) ⟨_, _, rfl, beq_eq_false_iff_ne.mpr (by show s.heap.objs.size + 1 ≠ 1; (first | lia | omega)), Heap.get?_none_of_le (Nat.le_succ _), he, fun q hq => absurd (Heap.lt_size (p _ _ hq)) (Nat.not_lt.mpr (Nat.le_succ _)), rfl, rfl, out.toList, e1, ?_, reps_ints a1⟩
  simp
end
end Mine

open PySem PySem.W PySem.Calls PyProof.Rows PyProof.Rows.LSm
namespace Mine

noncomputable def ltP (a b : Int × Int) : Bool := decide (a.1 < b.1) || (a.1 == b.1 && decide (a.2 < b.2))
noncomputable def ascP : List (Int × Int) → Bool
  | a :: b :: r => !ltP b a && ascP (b :: r)
  | _ => true
noncomputable def pairD : D → Option (D × D)
  | .tup ds => match ds with
    | [] => none
    | a :: r => match r with
      | [] => none
      | b :: q => if q.isEmpty = true then some (a, b) else none
  | _ => none
theorem pairD_inv {d : D} {p : D × D} (h : pairD d = some p) : d = .tup [p.1, p.2] := by
  cases d with
  | tup ds => cases ds with
    | nil => exact nno h
    | cons a r => cases r with
      | nil => exact nno h
      | cons b q => obtain ⟨h1, h⟩ := iteS h; cases h; rw [isE h1]
  | _ => exact nno h
noncomputable def prsOf : List D → Option (List (Int × Int))
  | [] => some []
  | d :: r => (pairD d).bind fun p => (intD p.1).bind fun a => (intD p.2).bind fun b => (prsOf r).map ((a, b) :: ·)
theorem prsOf_inv {d : D} {r : List D} {ps : List (Int × Int)} (h : prsOf (d :: r) = some ps) : ∃ a b l, d = .tup [.int a, .int b] ∧ prsOf r = some l ∧ (a, b) :: l = ps := by
  obtain ⟨p, h1, h⟩ := Option.bind_eq_some_iff.mp (show (pairD d).bind (fun p => (intD p.1).bind fun a => (intD p.2).bind fun b => (prsOf r).map ((a, b) :: ·)) = some ps from h)
  obtain ⟨a, h2, h⟩ := Option.bind_eq_some_iff.mp h
  obtain ⟨b, h3, h⟩ := Option.bind_eq_some_iff.mp h
  obtain ⟨l, h4, h⟩ := Option.map_eq_some_iff.mp h
  exact ⟨a, b, l, by rw [pairD_inv h1, intD_inv h2, intD_inv h3], h4, h⟩
theorem ascP_at : ∀ {l : List (Int × Int)} {i : Nat} {a b : Int × Int}, ascP l = true → l[i]? = some a → l[i + 1]? = some b → ltP b a = false
  | [], _, _, _, _, e, _ => by simp at e
  | [x], 0, _, _, _, _, e => by simp at e
  | [x], i + 1, _, _, _, e, _ => by simp at e
  | x :: y :: r, 0, a, b, h, e, e' => by
    simp only [ascP, Bool.and_eq_true, Bool.not_eq_true'] at h
    simp at e e'; subst e e'; exact h.1
  | x :: y :: r, i + 1, a, b, h, e, e' => by
    simp only [ascP, Bool.and_eq_true] at h
    exact ascP_at (l := y :: r) (i := i) h.2 (by simpa using e) (by simpa using e')

theorem asc_wp {cmp : Nat → Nat → (Bool → Shared → Prop) → Shared → Prop} {n : Nat} {s : Shared} (hc : ∀ i, i + 1 < n → ∀ C : Bool → Shared → Prop, C false s → cmp (i + 1) i C s) {Q : Nat → Shared → Prop} (hQ : Q n s) :
    ∀ f m, 1 ≤ m → m + f = n → (kas_asc (List.toArray (List.range n)) f m).kasWp cmp Q s
  | 0, m, _, e => by
    have : m = n := by (first | lia | omega)
    subst this; exact hQ
  | f + 1, m, h1, e => by
    have hm : m < n := by (first | lia | omega)
    have g1 : (List.toArray (List.range n)).getD m 0 = m := by simp [Array.getD, hm]
    have g2 : (List.toArray (List.range n)).getD (m - 1) 0 = m - 1 := by simp [Array.getD]; (first | lia | omega)
    show cmp ((List.toArray (List.range n)).getD m 0) ((List.toArray (List.range n)).getD (m - 1) 0) _ s
    rw [g1, g2]
    have := hc (m - 1) (by (first | lia | omega))
    rw [show m - 1 + 1 = m by (first | lia | omega)] at this
    refine this _ ?_
    show KasT.kasWp cmp (if false = true then KasT.ret m else kas_asc (List.range n).toArray f (m + 1)) Q s
    rw [if_neg Bool.false_ne_true]
    exact asc_wp hc hQ f (m + 1) (by (first | lia | omega)) (by (first | lia | omega))
theorem sort_wp {cmp : Nat → Nat → (Bool → Shared → Prop) → Shared → Prop} {n : Nat} {s : Shared} (h1 : 1 ≤ n) (hc : ∀ i, i + 1 < n → ∀ C : Bool → Shared → Prop, C false s → cmp (i + 1) i C s) {Q : Array Nat → Shared → Prop} (hQ : Q (List.toArray (List.range n)) s) :
    (kas_sort n).kasWp cmp Q s := by
  unfold kas_sort
  rw [KasT.kasWp_bind]
  unfold kas_count
  rw [KasT.kasWp_bind]
  refine asc_wp hc ?_ (n - 1) 1 (Nat.le_refl _) (by (first | lia | omega))
  rw [if_pos (by simp)]
  show KasT.kasWp cmp (if n < n then _ else _) Q s
  rw [if_neg (Nat.lt_irrefl _)]
  exact hQ

section
variable {prog : Program} {w : World} {lv : Nat} {hb : Heap} {A : Around} {E : Value → Shared → Prop} {s : Shared}

noncomputable def TupII (h : Heap) (v : Value) (p : Int × Int) : Prop := ∃ a o n t u, v = .ref a ∧ h.get? a = some o ∧ o.cls = .type "tuple" ∧ o.data = .seq #[.int p.1 t, .int p.2 u] n

theorem pairs_are {P : Vis} (p : PIn P s.heap) {vs : List Value} {ds : List D} {ps : List (Int × Int)} (x : Reps prog w P vs ds) (e : prsOf ds = some ps) : Fa2 (TupII s.heap) vs ps := by
  induction ds generalizing vs ps with
  | nil => rw [x.nilI]; cases e; exact .nil
  | cons d ds ih =>
    obtain ⟨v, us, rfl, a, r⟩ := x.consI
    obtain ⟨i, j, l, rfl, e1, rfl⟩ := prsOf_inv e
    refine .cons ?_ (ih r e1)
    obtain ⟨_, _, _, _, rfl, h1, h2, h3, h4⟩ := a.tupI
    obtain ⟨_, _, rfl, a1, r1⟩ := h4.consI
    obtain ⟨_, rfl, a2⟩ := r1.oneI
    obtain ⟨_, rfl⟩ := a1.intI
    obtain ⟨_, rfl⟩ := a2.intI
    exact ⟨_, _, _, _, _, rfl, p _ _ h1, h2, h3⟩

theorem Fa2.getD {R : Value → (Int × Int) → Prop} {vs : List Value} {ps : List (Int × Int)} (x : Fa2 R vs ps) {i : Nat} (h : i < vs.length) : ∃ p, ps[i]? = some p ∧ R (vs.getD i .none) p := by
  induction x generalizing i with
  | nil => exact absurd h (Nat.not_lt_zero _)
  | cons a r ih => cases i with
    | zero => exact ⟨_, rfl, a⟩
    | succ i => exact ih (Nat.lt_of_succ_lt_succ h)

theorem lt_false {v u : Value} {p q : Int × Int} (hv : TupII s.heap v p) (hu : TupII s.heap u q) (h : ltP p q = false) {C : Bool → Shared → Prop} (hC : C false s) :
    wpAny (model prog w) A (keyLt' (tuples' true) v u) C E s := by
  obtain ⟨a, o, n, t1, t2, rfl, ho, hc, hd⟩ := hv
  obtain ⟨a', o', n', t3, t4, rfl, ho', hc', hd'⟩ := hu
  obtain ⟨x1, y1⟩ := p
  obtain ⟨x2, y2⟩ := q
  refine kat_lt ho hd ho' hd' ?_
  show KatLex prog w A true _ C [(Value.int x1 t1, Value.int x2 t3), (Value.int y1 t2, Value.int y2 t4)] 0 s
  simp only [ltP, Bool.or_eq_false_iff, decide_eq_false_iff_not] at h
  obtain ⟨h1, h2⟩ := h
  refine kat_cons (wpAny_eqBool_int ?_)
  cases hx : x1 == x2 with
  | true =>
    refine kat_yes (kat_cons (wpAny_eqBool_int ?_))
    rw [hx, Bool.true_and, decide_eq_false_iff_not] at h2
    cases hy : y1 == y2 with
    | true => exact kat_yes (kat_nil hC)
    | false =>
      refine kat_no (kat_one _ _ (PyProof.Rows.lt_int ?_))
      rw [decide_eq_false h2]; exact hC
  | false =>
    refine kat_no (oneLt_int ?_)
    rw [decide_eq_false h1]; exact hC

theorem tups_of {h : Heap} {vs : List Value} {ps : List (Int × Int)} (x : Fa2 (TupII h) vs ps) : ∃ fs, KatTups h vs fs ∧ fs.length = vs.length ∧ ∀ f ∈ fs, ∃ i t, f = .int i t := by
  induction x with
  | nil => exact ⟨[], KatTups.nil, rfl, fun _ h => nomatch h⟩
  | cons a r ih =>
    obtain ⟨fs, h1, h2, h3⟩ := ih
    obtain ⟨a, o, n, t, u, rfl, ho, hc, hd⟩ := a
    exact ⟨_ :: fs, KatTups.cons ho hc hd rfl h1, congrArg (· + 1) h2, fun f hf => by
      rcases List.mem_cons.mp hf with rfl | hf
      · exact ⟨_, _, rfl⟩
      · exact h3 f hf⟩

theorem sort_asc {a n : Nat} {vs : List Value} {ps : List (Int × Int)} {R : PySem.Fin → Shared → Prop} (ho : s.heap.get? a = some (seqObj "list" vs.toArray n)) (hp : Fa2 (TupII s.heap) vs ps) (hne : ∀ v ∈ vs, v ≠ .ref a) (h2 : 2 ≤ vs.length) (h64 : vs.length < 64) (has : ascP ps = true)
    (h : ∀ h' c, h'.get? a = some (seqObj "list" vs.toArray c) → (∀ b o, b ≠ a → s.heap.get? b = some o → h'.get? b = some o) → R (.done (.ret .none)) { s with heap := h' }) :
    wpAny (model prog w) A (Builtin.«list.sort» ⟨[.ref a], []⟩) R E s := by
  have s1 := Heap.SameBut.update s.heap a (Obj.mapSeq fun _ => (#[] : Array Value))
  obtain ⟨e1, ho1⟩ : ∃ e1, (s.heap.update a (Obj.mapSeq fun _ => (#[] : Array Value))).get? a = some (seqObj "list" #[] e1) := ⟨_, get?_update_seq ho fun _ => #[]⟩
  rw [list_sort_plain]
  refine wpAny_bind (listItems_at ho rfl ?_)
  refine wpAny_bind (listUpdate_at ho rfl ?_ (by rw [List.size_toArray, sizeLine_eq]; (first | lia | omega)) (Nat.zero_le _))
  refine wpAny_bind (seqEpoch_at ho1 rfl ?_)
  refine wpAny_bind (wpAny_newTuple ?_ (by show vs.length ≤ _; rw [sizeLine_eq]; (first | lia | omega)))
  refine wpAny_bind (wpAny_newList ?_ (Nat.zero_le _))
  refine wpAny_holding ?_
  show wpAny (model prog w) A _ R E { s with heap := ((s.heap.update a (Obj.mapSeq fun _ => (#[] : Array Value))).push (seqObj "tuple" vs.toArray 0)).push (seqObj "list" #[] 0) }
  generalize hH : ((s.heap.update a (Obj.mapSeq fun _ => (#[] : Array Value))).push (seqObj "tuple" vs.toArray 0)).push (seqObj "list" #[] 0) = H
  have oth : ∀ b o, b ≠ a → s.heap.get? b = some o → H.get? b = some o := fun b o hb e => by
    rw [← hH]; exact Heap.get?_push_of_some _ (Heap.get?_push_of_some _ (s1.extBut b o hb e))
  have hoH : H.get? a = some (seqObj "list" #[] e1) := by rw [← hH]; exact Heap.get?_push_of_some _ (Heap.get?_push_of_some _ ho1)
  have hp' : Fa2 (TupII H) vs ps := by
    clear h has h2 h64 ho hH
    induction hp with
    | nil => exact .nil
    | cons x r ih =>
      obtain ⟨b, o, k, t, u, rfl, hb, q⟩ := x
      exact .cons ⟨b, o, k, t, u, rfl, oth b o (fun e => hne _ (List.mem_cons_self ..) (by rw [e])) hb, q⟩ (ih fun v hv => hne v (List.mem_cons_of_mem _ hv))
  dsimp only
  have hn2 : ¬ vs.toArray.size < 2 := by rw [List.size_toArray]; (first | lia | omega)
  rw [if_neg hn2, if_neg hn2]
  obtain ⟨fs, t1, t2, t3⟩ := tups_of hp'
  refine wpAny_bind (kat_kind (s := { s with heap := H }) (T := .type "int") t1 (by (first | lia | omega)) (fun v hv => ?_) rfl ?_)
  · obtain ⟨i, t, rfl⟩ := t3 v hv
    exact Looks.of_pure rfl
  · have htt : (Value.type "int" != Value.type "tuple") = true := by decide
    rw [htt]
    refine wpAny_bind (wpAny_mono (kat_run (s := { s with heap := H }) (E := E) (Q := fun st' s' => ∃ p : Array Nat, p.size = vs.length ∧ arrOf st' = p.map (kas_item (vs.toArray.zip vs.toArray)) ∧ failedOf st' = none ∧ p = List.toArray (List.range vs.length) ∧ s' = { s with heap := H })
      (G := fun p s' => p = List.toArray (List.range vs.length) ∧ s' = { s with heap := H }) rfl h2 h64 (fun p' st' s' a1 a2 a3 a4 => ⟨p', a1, a2, a3, a4.1, a4.2⟩) (sort_wp (by (first | lia | omega)) (fun i hi C hC => ?_) ⟨rfl, rfl⟩)) ?_ fun _ _ e => e)
    · unfold kas_ask
      obtain ⟨p1, q1, r1⟩ := hp'.getD (i := i) (by (first | lia | omega))
      obtain ⟨p2, q2, r2⟩ := hp'.getD (i := i + 1) hi
      exact lt_false (s := { s with heap := H }) r2 r1 (ascP_at has q1 q2) hC
    · rintro ⟨⟨⟩, st'⟩ s' ⟨p, hpz, har, hf, rfl, rfl⟩
      dsimp only
      have hout := kat_snds rfl har
      have hid : ((List.toArray (List.range vs.length)).toList.map fun i => vs.getD i Value.none) = vs := by
        apply List.ext_getElem?
        intro i
        simp only [List.getElem?_map]
        by_cases hi : i < vs.length
        · rw [List.getElem?_range hi]; simp [hi]
        · rw [List.getElem?_eq_none (by simpa using hi), List.getElem?_eq_none (by (first | lia | omega))]; rfl
      rw [hid] at hout
      rw [hout]
      obtain ⟨c2, hc2⟩ : ∃ c2, (H.update a (Obj.mapSeq fun _ => vs.toArray)).get? a = some (seqObj "list" vs.toArray c2) := ⟨_, get?_update_seq hoH fun _ => vs.toArray⟩
      refine wpAny_bind (seqEpoch_at (s := { s with heap := H }) hoH rfl ?_)
      refine wpAny_bind (listUpdate_at (s := { s with heap := H }) hoH rfl ?_ (Nat.zero_le _) (by rw [List.size_toArray, sizeLine_eq]; (first | lia | omega)))
      rw [hf]
      simp only [bne_self_eq_false, Bool.false_eq_true, if_false]
      refine wpAny_pure (h _ c2 hc2 fun b o hb e => ?_)
      exact (Heap.get?_update_other _ _ (Ne.symm hb)).trans (oth b o hb e)

theorem spec_sortedP {xs : List D} {ps : List (Int × Int)} (bg : Big hb) (e : prsOf xs = some ps) (h2 : 2 ≤ ps.length) (h64 : ps.length < 64) (has : ascP ps = true) : Spec prog w hb lv (.builtin "sorted") [.list xs] (.list xs) true := by
  intro A E s P vs Q rm kb p r hQ
  obtain ⟨_, rfl, a⟩ := r.oneI
  obtain ⟨l, n, us, rfl, a, r⟩ := a.listI
  have hl := isList_of (p _ _ a)
  have hp := pairs_are p r e
  have hlen : us.length = ps.length := hp.length
  refine Calls.call_function_entry kind_sorted plain_sorted entry_sorted (args_sorted1 _) ?_
  unfold Builtin.«sorted»
  refine wpAny_bind (m := checkCount "sorted" 1 1 _) (wpAny_pure ?_)
  refine wpAny_bind (collect_list hl ?_ (by rw [sizeLine_eq]; (first | lia | omega)))
  refine wpAny_bind (wpAny_newList ?_ (by rw [sizeLine_eq]; (first | lia | omega)))
  have hsz : ((s.heap.push (seqObj "list" #[] 0)).update s.heap.objs.size (Obj.mapSeq (· ++ us.toArray))).objs.size = s.heap.objs.size + 1 := by
    rw [Heap.size_update, size_push']
  have hoL : (((s.heap.push (seqObj "list" #[] 0)).update s.heap.objs.size (Obj.mapSeq (· ++ us.toArray))).push (seqObj "list" us.toArray 0)).get? (s.heap.objs.size + 1) = some (seqObj "list" us.toArray 0) := by
    rw [← hsz]; exact Heap.get?_push_size _ rfl
  have keep : ∀ b o, s.heap.get? b = some o → (((s.heap.push (seqObj "list" #[] 0)).update s.heap.objs.size (Obj.mapSeq (· ++ us.toArray))).push (seqObj "list" us.toArray 0)).get? b = some o := fun b o q => by
    have hlt : b < s.heap.objs.size := Heap.lt_size q
    rw [Heap.get?_push_ne _ _ _ (by rw [hsz]; exact Nat.ne_of_lt (Nat.lt_succ_of_lt hlt)), Heap.get?_update_ne _ _ _ _ (Nat.ne_of_lt hlt), Heap.get?_push_ne _ _ _ (Nat.ne_of_lt hlt)]
    exact q
  show wpAny _ _ _ _ _ { s with heap := ((s.heap.push (seqObj "list" #[] 0)).update s.heap.objs.size (Obj.mapSeq (· ++ us.toArray))).push (seqObj "list" us.toArray 0) }
  rw [hsz]
  generalize hH : ((s.heap.push (seqObj "list" #[] 0)).update s.heap.objs.size (Obj.mapSeq (· ++ us.toArray))).push (seqObj "list" us.toArray 0) = H at hoL keep ⊢
  have hp' : Fa2 (TupII H) us ps := hp.imp fun v q ⟨b, o, k, t, u, e, hb, z⟩ => ⟨b, o, k, t, u, e, keep b o hb, z⟩
  have hne : ∀ v ∈ us, v ≠ .ref (s.heap.objs.size + 1) := by
    intro v hv
    obtain ⟨i, hi, rfl⟩ := List.getElem_of_mem hv
    obtain ⟨q, _, b, o, k, t, u, e, hb, z⟩ := hp.getD hi
    intro q'
    have e2 : us.getD i .none = us[i] := by simp [hi]
    rw [e2, q'] at e
    cases e
    exact absurd (Heap.lt_size hb) (Nat.not_lt.mpr (Nat.le_succ _))
  refine wpAny_bind (wpAny_holding (wpAny_call_entry slot_list_sort ⟨_, hoL, rfl⟩ entry_list_sort (sort_asc (s := { s with heap := H }) hoL hp' hne (by (first | lia | omega)) (by (first | lia | omega)) has fun h' c hc hk => ?_) (args_list_sort _)))
  refine ⟨.none, rfl, wpAny_pure ⟨.ref (s.heap.objs.size + 1), rfl, ?_⟩⟩
  have hbg := (bg.keeps kb).lt
  have k : Sub s.heap h' := fun b o q => hk b o (Nat.ne_of_lt (Nat.lt_succ_of_lt (Heap.lt_size q))) (keep b o q)
  exact hQ _ { s with heap := h' } P k ⟨rfl, rfl⟩ (PExt.stay p k) ⟨_, _, rfl, beq_eq_false_iff_ne.mpr (by show s.heap.objs.size + 1 ≠ 1; (first | lia | omega)), Heap.get?_none_of_le (Nat.le_succ _), hc, fun q hq => absurd (Heap.lt_size (p _ _ hq)) (Nat.not_lt.mpr (Nat.le_succ _)), rfl, rfl, us, c, rfl, r⟩
end
end Mine

set_option maxHeartbeats 1000000
open PySem PySem.W PySem.Calls PyProof.Rows PyProof.Rows.LSm
namespace Mine

noncomputable def dprs : List D → Option (List (Int × D))
  | [] => some []
  | d :: r => (pairD d).bind fun p => (intD p.1).bind fun a => (dprs r).map ((a, p.2) :: ·)
theorem dprs_inv {d : D} {r : List D} {ps : List (Int × D)} (h : dprs (d :: r) = some ps) : ∃ a b l, d = .tup [.int a, b] ∧ dprs r = some l ∧ (a, b) :: l = ps := by
  obtain ⟨p, h1, h⟩ := Option.bind_eq_some_iff.mp (show (pairD d).bind (fun p => (intD p.1).bind fun a => (dprs r).map ((a, p.2) :: ·)) = some ps from h)
  obtain ⟨a, h2, h⟩ := Option.bind_eq_some_iff.mp h
  obtain ⟨l, h4, h⟩ := Option.map_eq_some_iff.mp h
  exact ⟨a, p.2, l, by rw [pairD_inv h1, intD_inv h2], h4, h⟩

theorem list_no_keys : typeLookup (.type "list") "keys" = pure none := by rw [typeLookup_type, builtinLookup_eq_fast]; kernel_rfl
theorem entry_dul : entryFor table "dict.update.loop" = some Builtin.«dict.update.loop» := entryFor_of_tree (by kernel_rfl)
theorem plain_dul : plainId "dict.update.loop" = true := by decide +kernel

section
variable {prog : Program} {w : World} {lv : Nat} {hb : Heap} {A : Around} {E : Value → Shared → Prop} {s : Shared}

theorem keys_none {a : Addr} {xs : Array Value} {k : Nat} {sl : Array (Option Value)} {Q : Option Value → Shared → Prop} (hx : s.heap.get? a = some { cls := .type "list", dict := none, data := .seq xs k, slots := sl }) (hA : A.handled = none)
    (h : ∀ h' tk, Sub s.heap h' → Q none { s with heap := h', toks := tk }) : wpAny (model prog w) A (getAttr? (.ref a) "keys") Q E s := by
  obtain ⟨hp, g, d, tk, os⟩ := s
  have hT : ∀ tk', (⟨hp, g, d, tk', os⟩ : Shared).TypeIs (.ref a) "list" := fun _ => ⟨_, hx, rfl⟩
  have f1 := sub_AttributeError
  have f3 := F.slot_list_getattribute.lookup
  have f4 := F.slot_list_getattribute.bind (.ref a)
  have f5 := am_list_getattr_none
  unfold getAttr? getAttrBy? getAttrBy
  repeat (any_goals (first | assumption | exact hT _ | ((with_reducible show wpAny _ _ (call (Value.builtin "list.__getattribute__") _ _) _ _ _); refine call_meets F.slot_list_getattribute (hT _) am_entry_list_getattribute (F.args_list_getattribute_2 _ _) (meets_getattribute_miss_list a xs k sl "keys" _ list_no_keys (by decide) (by rw [sizeLine_eq]; decide)) ⟨hx, hA, fun h' tk' e hx' => ?_⟩) | wp_step))
  obtain ⟨t', u', he⟩ := hx'.there
  have hk := hx'.keeps
  show wpAny _ _ (getattributeRaised _ _ _ _ _ _ _) _ _ _
  unfold getattributeRaised
  repeat (any_goals (first | assumption | wp_step))
  exact h _ _ hk

theorem dict_loop {d l I : Addr} {us : List Value} {P : Vis} {ps : List (Int × D)} (hh : A.handled = none) (hdl : l ≠ d) (hdI : d ≠ I) (hlI : l ≠ I) (hn : ps.length ≤ 100000) {h₁ : Heap} (p : PIn P h₁) (hP : ∀ a o, P a o → a ≠ d ∧ a ≠ I)
    (hps : Fa2 (fun v q => ∃ a o k t u, v = .ref a ∧ P a o ∧ o.cls = .type "tuple" ∧ o.data = .seq #[.int q.1 t, u] k ∧ Rep prog w P u q.2) us ps) {R : Result → Shared → Prop}
    (hR : ∀ h' tk kvs, (∀ b o, b ≠ d → b ≠ I → h₁.get? b = some o → h'.get? b = some o) → h'.DictOf (intKind prog w) d kvs → RepK prog w P kvs (ps.foldl (fun e q => dput e q.1 q.2) []) → R (.ok (.ret .none)) { s with heap := h', toks := tk }) :
    ∀ (k i : Nat) (h : Heap) (tk : Nat) (kvs : List (Int × Value)) (out : List (Int × D)), ps.length - i = k → i ≤ ps.length → h.IsListIter I l i → h.IsList l us.toArray → (∀ b o, b ≠ d → b ≠ I → h₁.get? b = some o → h.get? b = some o) →
      h.DictOf (intKind prog w) d kvs → RepK prog w P kvs out → out.length ≤ i → (ps.drop i).foldl (fun e q => dput e q.1 q.2) out = ps.foldl (fun e q => dput e q.1 q.2) [] →
      codeAny (model prog w) A (.builtin "dict.update.loop" ⟨[.ref d, .ref I, rawInt i, .none], []⟩) R { s with heap := h, toks := tk } := by
  have hlen : us.length = ps.length := hps.length
  intro k
  induction k with
  | zero =>
    intro i h tk kvs out hk hi hit hl hkeep hD hr ho hf
    have hin : i = ps.length := by (first | lia | omega)
    refine codeAny_builtin entry_dul ?_
    rw [Around.under_plainId plain_dul _]
    show wpAny _ A.in1 (pyNext (.ref I) >>= _) _ _ _
    refine wpAny_bind (wpAny_pyNext_list_end (s := { s with heap := h, toks := tk }) (A := A.in1) hh hit hl (by rw [hin, ← hlen]; simp) fun h' he => ?_)
    show wpAny _ _ (Builtin.Dict.addKeywords d [] >>= fun _ => ret .none) _ _ _
    refine wpAny_bind (wpAny_pure (wpAny_pure ?_))
    refine hR h' tk kvs (fun b o h1 h2 q => he b o h2 (hkeep b o h1 h2 q)) ?_ ?_
    · obtain ⟨o, es, ep, ho', rest⟩ := hD
      exact ⟨o, es, ep, he d o hdI ho', rest⟩
    · rw [hin, List.drop_length] at hf
      rw [← hf]; exact hr
  | succ k ih =>
    intro i h tk kvs out hk hi hit hl hkeep hD hr ho hf
    have hlt : i < ps.length := by (first | lia | omega)
    have hget : ∀ {vs : List Value} {qs : List (Int × D)}, Fa2 (fun v q => ∃ a o k t u, v = Value.ref a ∧ P a o ∧ o.cls = .type "tuple" ∧ o.data = .seq #[.int q.1 t, u] k ∧ Rep prog w P u q.2) vs qs → ∀ {j : Nat} {q : Int × D}, qs[j]? = some q → ∃ v, vs[j]? = some v ∧ ∃ a o k t u, v = Value.ref a ∧ P a o ∧ o.cls = .type "tuple" ∧ o.data = .seq #[.int q.1 t, u] k ∧ Rep prog w P u q.2 := by
      intro vs qs H
      induction H with
      | nil => intro j q e; simp at e
      | cons a r ih =>
        intro j q e
        cases j with
        | zero => simp at e; subst e; exact ⟨_, rfl, a⟩
        | succ j => obtain ⟨v, e1, e2⟩ := ih (j := j) (by simpa using e); exact ⟨v, by simpa using e1, e2⟩
    obtain ⟨q, hq⟩ : ∃ q, ps[i]? = some q := ⟨ps[i], List.getElem?_eq_getElem hlt⟩
    obtain ⟨v, hv, a, o, kk, t, u, rfl, hPa, hc, hd, ru⟩ := hget hps hq
    refine codeAny_builtin entry_dul ?_
    rw [Around.under_plainId plain_dul _]
    show wpAny _ A.in1 (pyNext (.ref I) >>= _) _ _ _
    refine wpAny_bind (wpAny_pyNext_list_item (s := { s with heap := h, toks := tk }) hit hl (x := .ref a) (by simpa using hv) fun h' hit' hs' => ?_)
    have ha : h'.get? a = some o := hs'.extBut a o (hP a o hPa).2 (hkeep a o (hP a o hPa).1 (hP a o hPa).2 (p a o hPa))
    have hD' : h'.DictOf (intKind prog w) d kvs := by
      obtain ⟨o', es, ep, ho', rest⟩ := hD
      exact ⟨o', es, ep, hs'.extBut d o' hdI ho', rest⟩
    refine wpAny_bind (wpAny_holding ?_)
    refine wpAny_bind (wpAny_tryCatch ?_)
    unfold Builtin.Dict.pairItems
    refine wpAny_bind (wpAny_typeOf (T := "tuple") ⟨o, ha, hc⟩ ?_)
    rw [if_pos (by decide)]
    refine wpAny_bind (wpAny_seqItems ha hd (wpAny_pure ?_))
    show wpAny _ _ (holding [Value.int q.1 t, u] (dictSet d (.int q.1 t) u)) _ _ _
    have hkl : kvs.length = out.length := by have := congrArg List.length hr.keys; simpa using this
    refine wpAny_holding (wpAny_dictSet_pairs (knd := intKind prog w) (k := q.1) (by simp [intKind, Value.isInt]) hD' (fun h₂ hD₂ hs₂ => wpAny_pure ⟨plainId_quiet plain_dul _, ?_⟩) (by rw [hkl, sizeLine_eq]; (first | lia | omega)))
    have e1 : (rawInt ((i : Int) + 1)) = rawInt ((i + 1 : Nat) : Int) := by congr 1
    have hdrop : ps.drop i = q :: ps.drop (i + 1) := by
      rw [List.drop_eq_getElem_cons hlt]
      rw [List.getElem?_eq_getElem hlt] at hq; cases hq; rfl
    have hz : (dput out q.1 q.2).length ≤ i + 1 := by
      unfold dput
      split
      · simp; (first | lia | omega)
      · simp; (first | lia | omega)
    refine ih (i + 1) h₂ _ _ (dput out q.1 q.2) (by (first | lia | omega)) hlt (hit'.at fun o e => hs₂.extBut I o (Ne.symm hdI) e) ((hl.at fun o e => hs'.extBut l o hlI e).at fun o e => hs₂.extBut l o hdl e) (fun b o h1 h2 e => hs₂.extBut b o h1 (hs'.extBut b o h2 (hkeep b o h1 h2 e))) hD₂ (hr.put ru) hz ?_
    rw [hdrop, List.foldl_cons] at hf
    exact hf

theorem dprs_are {P : Vis} {vs : List Value} {ds : List D} {ps : List (Int × D)} (x : Reps prog w P vs ds) (e : dprs ds = some ps) : Fa2 (fun v q => ∃ a o k t u, v = Value.ref a ∧ P a o ∧ o.cls = .type "tuple" ∧ o.data = .seq #[.int q.1 t, u] k ∧ Rep prog w P u q.2) vs ps := by
  induction ds generalizing vs ps with
  | nil => rw [x.nilI]; cases e; exact .nil
  | cons d ds ih =>
    obtain ⟨v, us, rfl, a, r⟩ := x.consI
    obtain ⟨i, b, l, rfl, e1, rfl⟩ := dprs_inv e
    refine .cons ?_ (ih r e1)
    obtain ⟨_, _, _, _, rfl, h1, h2, h3, h4⟩ := a.tupI
    obtain ⟨_, _, rfl, a1, r1⟩ := h4.consI
    obtain ⟨_, rfl, a2⟩ := r1.oneI
    obtain ⟨_, rfl⟩ := a1.intI
    exact ⟨_, _, _, _, _, rfl, h1, h2, h3, a2⟩

theorem spec_dict {xs : List D} {ps : List (Int × D)} (bg : Big hb) (e : dprs xs = some ps) (hn : ps.length ≤ 100000) : Spec prog w hb lv (.type "dict") [.list xs] (.dict (ps.foldl (fun e q => dput e q.1 q.2) [])) true := by
  intro A E s P vs Q rm kb p r hQ
  obtain ⟨_, rfl, a⟩ := r.oneI
  obtain ⟨l, n, us, rfl, a, r⟩ := a.listI
  have hlo := p _ _ a
  have hl := isList_of hlo
  have hll : l < s.heap.objs.size := Heap.lt_size hlo
  have hps := dprs_are r e
  refine callType_codes (Q₁ := fun obj s₁ => obj = .ref s.heap.objs.size ∧ s₁ = { s with heap := s.heap.push { cls := .type "dict", data := .dict #[] } }) F.kt_called_dict (F.kt_typeCall_dict_1 _) F.entry_dict_init (kt_code_dict_new _ ⟨rfl, rfl⟩) ?_
  rintro obj s₁ ⟨rfl, rfl⟩
  have hnew : (s.heap.push { cls := .type "dict", data := .dict #[] }).DictOf (intKind prog w) s.heap.objs.size [] := Heap.DictOf.new s.heap
  refine ⟨hnew.typeIs, F.args_dict_init_2 _ _, ?_⟩
  unfold Builtin.«dict.__init__»
  refine wpAny_bind ?_
  unfold Builtin.Dict.selfAndRest
  refine wpAny_bind (wpAny_notOrdered_dict hnew.typeIs ?_)
  show wpAny _ _ (pure (s.heap.objs.size, [Value.ref l])) _ _ _
  refine wpAny_pure ?_
  show wpAny _ _ (Builtin.Dict.updateFrom "dict.__init__" s.heap.objs.size (.ref l) [] .none) _ _ _
  unfold Builtin.Dict.updateFrom
  have hlo1 : (s.heap.push { cls := .type "dict", data := .dict #[] }).get? l = some (lstO us n) := Heap.get?_push_of_some _ hlo
  refine wpAny_bind (wpAny_typeOf (T := "list") ⟨_, hlo1, rfl⟩ ?_)
  rw [if_pos (by decide)]
  refine wpAny_bind (keys_none (s := { s with heap := s.heap.push { cls := .type "dict", data := .dict #[] } }) hlo1 rm.hd fun h₂ tk₂ k₂ => ?_)
  simp only [Option.isNone_none, if_true]
  refine wpAny_bind (wpAny_rule ?_)
  have hlo2 : h₂.get? l = some (lstO us n) := k₂ _ _ hlo1
  have hd2 : h₂.DictOf (intKind prog w) s.heap.objs.size [] := by
    obtain ⟨o, es, ep, ho, rest⟩ := hnew
    exact ⟨o, es, ep, k₂ _ _ ho, rest⟩
  refine wpAny_bind (wpAny_pyIter_list (s := { s with heap := h₂, toks := tk₂ }) (isList_of hlo2) ?_)
  have hdlt : s.heap.objs.size < h₂.objs.size := by obtain ⟨o, es, ep, ho, _⟩ := hd2; exact Heap.lt_size ho
  have oldH : ∀ b o, s.heap.get? b = some o → b ≠ s.heap.objs.size ∧ b ≠ h₂.objs.size := fun b o q => ⟨Nat.ne_of_lt (Heap.lt_size q), Nat.ne_of_lt (Nat.lt_trans (Heap.lt_size q) hdlt)⟩
  have sub2 : ∀ b o, s.heap.get? b = some o → (h₂.push { cls := .type "list_iterator", data := .fields #[.ref l, .int 0 0] }).get? b = some o := fun b o q => Heap.get?_push_of_some _ (k₂ _ _ (Heap.get?_push_of_some _ q))
  refine wpAny_pure ⟨plainId_quiet plain_dul _, ?_⟩
  refine dict_loop (A := A.in1) (s := s) (P := P) (h₁ := s.heap) (us := us) (ps := ps) rm.hd (Nat.ne_of_lt hll) (Nat.ne_of_lt hdlt) (Nat.ne_of_lt (Nat.lt_trans hll hdlt)) hn p (fun a o q => oldH a o (p a o q)) hps (fun h' tk kvs hk hD hr => ⟨rfl, ?_⟩)
    ps.length 0 _ tk₂ [] [] (Nat.sub_zero _) (Nat.zero_le _) ⟨_, Heap.get?_push_size _ rfl, rfl, rfl⟩ (isList_of (Heap.get?_push_of_some _ hlo2)) (fun b o _ _ q => sub2 b o q) ?_ .nil (Nat.le_refl _) rfl
  rotate_left
  · have k : Sub s.heap h' := fun b o q => hk b o (oldH b o q).1 (oldH b o q).2 q
    have hbg := (bg.keeps kb).lt
    obtain ⟨o, es, ep, ho, hex, hdat, hko, hpr, hnd⟩ := hD
    exact hQ _ { s with heap := h', toks := tk } P k ⟨rfl, rfl⟩ (PExt.stay p k) ⟨_, o, rfl, beq_eq_false_iff_ne.mpr (by show s.heap.objs.size ≠ 1; (first | lia | omega)), Heap.get?_none_of_le (Nat.le_refl _), ho, fun q hq => absurd (Heap.lt_size (p _ _ hq)) (Nat.lt_irrefl _), hex.2.1, hex.2.2, hex, es, ep, kvs, hdat, hko, hpr, hnd, hr⟩
  · obtain ⟨o, es, ep, ho, rest⟩ := hd2
    exact ⟨o, es, ep, Heap.get?_push_of_some _ ho, rest⟩
end
end Mine

namespace Mine

structure FD where
  params : List Str
  dfl : List D
  body : List Stmt
  scope : Scope
  mu : List Str
mutual
noncomputable def mutS : Stmt → List Str
  | .Assign [.Subscript (.Name x _) _ _] _ _ => [x]
  | .Expr (.Call (.Attribute (.Name x _) _ _) _ _ _) _ => [x]
  | .If _ b o _ => mutL b ++ mutL o
  | .For _ _ b o _ => mutL b ++ mutL o
  | _ => []
noncomputable def mutL : List Stmt → List Str
  | [] => []
  | s :: r => mutS s ++ mutL r
end
noncomputable def dflOf : Expr → D
  | .Constant c _ _ => (constD c).getD .none
  | .UnaryOp .USub (.Constant (.int i) _ _) _ => .int (-i)
  | _ => .none
noncomputable def fdOf (a : Arguments) (b : List Stmt) (s : Scope) : FD := ⟨a.args.map (·.arg), a.defaults.map dflOf, b, s, mutL b⟩
noncomputable def defsOf : List Stmt → List (Str × FD)
  | [] => []
  | .FunctionDef n a b _ _ _ s _ _ _ :: r => (n, fdOf a b s) :: defsOf r
  | _ :: r => defsOf r
noncomputable def conOf : List Stmt → List (Str × D)
  | [] => []
  | .Assign [.Name n _] e _ :: r => (n, dflOf e) :: conOf r
  | _ :: r => conOf r
noncomputable def theDefs := defsOf PySem.Challenge.pw_ok0170_01.main.body
noncomputable def theCon := conOf PySem.Challenge.pw_ok0170_01.main.body
set_option maxHeartbeats 0
end Mine

namespace Mine

noncomputable def CO : Addr := 105
noncomputable def LA : Addr := 399
noncomputable def OR : Addr := 232
noncomputable def clsTab : List (Str × (Addr × List Str × List D)) := [("ClassicOrder", 105, ["code", "jt", "jf", "k"], []), ("Laid", 399, ["order", "goal"], [.int (-1)]), ("Order", 232, ["code", "dst", "src", "off", "imm", "more"], [.int 0])]
section
noncomputable def nmIn (x : Str) : List Str → Bool
  | [] => false
  | y :: l => @ite _ (x = y) (Fast.sDec x y) true (nmIn x l)
noncomputable def fld0 (C : Addr) (x : Str) : Bool := (C == 105 && nmIn x ["code", "jt", "jf", "k"]) || (C == 399 && nmIn x ["order", "goal"]) || (C == 232 && nmIn x ["code", "dst", "src", "off", "imm", "more"])
noncomputable def lkS {β : Type} (x : Str) : List (Str × β) → Option β
  | [] => none
  | (y, b) :: l => @ite _ (x = y) (Fast.sDec x y) (some b) (lkS x l)
noncomputable def con0 (x : Str) : Option D := @ite _ (x = ("__name__" : Str)) (Fast.sDec ..) none (lkS x theCon)
end
noncomputable def bLen : List D → Option (D × Bool)
  | [.list xs] => if xs.length ≤ 1000000 then some (.int xs.length, false) else none
  | _ => none
noncomputable def bRange : List D → Option (D × Bool)
  | [.int n] => some (.rng 0 n, false)
  | _ => none
noncomputable def bAny : List D → Option (D × Bool)
  | [.list xs] => (boolsOf xs).map fun l => (.bool (l.any id), false)
  | _ => none
noncomputable def bMax : List D → Option (D × Bool)
  | [.list xs] => match intsOf xs with
    | some (a :: r) => some (.int (r.foldl max a), false)
    | _ => none
  | _ => none
noncomputable def bSorted : List D → Option (D × Bool)
  | [.list xs] => match intsOf xs with
    | some l => if l.length < 64 then some (.list ((isort l).map .int), true) else none
    | none => match prsOf xs with
      | some l => if 2 ≤ l.length ∧ l.length < 64 ∧ ascP l = true then some (.list xs, true) else none
      | none => none
  | _ => none
noncomputable def bDict : List D → Option (D × Bool)
  | [.list xs] => match dprs xs with
    | some l => if l.length ≤ 100000 then some (.dict (l.foldl (fun e q => dput e q.1 q.2) []), true) else none
    | none => none
  | _ => none
noncomputable def builtinF (f : Str) (ds : List D) : Option (D × Bool) :=
  if f = ("len" : Str) then bLen ds else if f = ("range" : Str) then bRange ds else if f = ("any" : Str) then bAny ds else if f = ("max" : Str) then bMax ds
  else if f = ("sorted" : Str) then bSorted ds else if f = ("dict" : Str) then bDict ds else none
noncomputable def opp (s : Str) : Str := if s = ("eq" : Str) then "ne" else if s = ("gt" : Str) then "le" else if s = ("ge" : Str) then "lt" else ""
noncomputable def bOpp (ds : List D) : Option (D × Bool) := match ds with
  | [] => none
  | a :: r => if r.isEmpty = true then (strD a).map fun s => (.str (opp s), false) else none
theorem bOpp_inv {ds : List D} {r : D × Bool} (h : bOpp ds = some r) : ∃ s, ds = [.str s] ∧ (.str (opp s), false) = r := by
  cases ds with
  | nil => exact nno h
  | cons a q =>
    obtain ⟨h1, h⟩ := iteS h
    obtain ⟨s, h2, h3⟩ := Option.map_eq_some_iff.mp h
    exact ⟨s, by rw [strD_inv h2, isE h1], h3⟩
noncomputable def fill (dfl : List D) (n : Nat) (ds : List D) : List D := dfl.drop (dfl.length - (n - ds.length))

end Mine


namespace Mine

abbrev Fct := Nat → Str → List D → D × Bool → Prop
noncomputable def Just (F : Fct) (n : Nat) (T : Str → List D → Option (D × Bool)) : Prop := ∀ g es r, T g es = some r → F n g es r
noncomputable def OkF (F : Fct) (n : Nat) (f : Str) (t : List D → Option (D × Bool)) : Prop := ∀ es r, t es = some r → F n f es r

structure Closed (F : Fct) : Prop where
  fn : ∀ {n : Nat} {f : Str} {fd : FD} {T : Str → List D → Option (D × Bool)} {ds : List D} {fl : Fl}, f ≠ ("opposite" : Str) → lkS f theDefs = some fd → Just F n T → (ds ++ fill fd.dfl fd.params.length ds).length = fd.params.length →
    exs ⟨con0, T, fld0⟩ fd.mu fd.scope fd.body (rho0 fd.params (ds ++ fill fd.dfl fd.params.length ds)) = some fl → F (n + 1) f ds (flVal fl)
  cls : ∀ {n : Nat} {f : Str} {c : Addr × List Str × List D} {ds : List D}, lkS f clsTab = some c → (ds ++ fill c.2.2 c.2.1.length ds).length = c.2.1.length → F (n + 1) f ds (.obj c.1 (c.2.1.zip (ds ++ fill c.2.2 c.2.1.length ds)), false)
  bui : ∀ {n : Nat} {f : Str} {ds : List D} {r : D × Bool}, builtinF f ds = some r → F n f ds r
  opp : ∀ {n : Nat} {s : Str}, F (n + 1) "opposite" [.str s] (.str (opp s), false)
  up : ∀ {n : Nat} {f : Str} {ds : List D} {r : D × Bool}, F n f ds r → F (n + 1) f ds r

section
abbrev Tab := List (Str × (List D → Option (D × Bool)))
noncomputable def orc (T : Tab) (g : Str) (es : List D) : Option (D × Bool) := match lkS g T with | some t => t es | none => none
noncomputable def runT (T : Tab) : Nat → Str → List D → Option (D × Bool)
  | 0, f, ds => match orc T f ds with | some r => some r | none => builtinF f ds
  | n + 1, f, ds => match orc T f ds with
    | some r => some r
    | none => @ite _ (f = ("opposite" : Str)) (Fast.sDec ..) (bOpp ds) (match lkS f theDefs with
      | some fd => if (ds ++ fill fd.dfl fd.params.length ds).length = fd.params.length then
          (exs ⟨con0, runT T n, fld0⟩ fd.mu fd.scope fd.body (rho0 fd.params (ds ++ fill fd.dfl fd.params.length ds))).map flVal else none
      | none => match lkS f clsTab with
        | some c => if (ds ++ fill c.2.2 c.2.1.length ds).length = c.2.1.length then some (.obj c.1 (c.2.1.zip (ds ++ fill c.2.2 c.2.1.length ds)), false) else none
        | none => builtinF f ds)
end

theorem lkS_mem {β : Type} {x : Str} {b : β} {l : List (Str × β)} (h : lkS x l = some b) : (x, b) ∈ l := by
  induction l with
  | nil => exact nno h
  | cons p l ih =>
    obtain ⟨y, c⟩ := p
    replace h : @ite _ (x = y) (Fast.sDec x y) (some c) (lkS x l) = some b := h
    by_cases q : x = y
    · rw [if_pos q] at h; cases h; subst q; exact List.mem_cons_self ..
    · rw [if_neg q] at h; exact List.mem_cons_of_mem _ (ih h)
section
variable {F : Fct} (C : Closed F)
include C
theorem Closed.ups {n : Nat} {f : Str} {ds : List D} {r : D × Bool} (h : F n f ds r) : ∀ m, F (n + m) f ds r
  | 0 => h
  | m + 1 => C.up (Closed.ups h m)
theorem Closed.le {n m : Nat} {f : Str} {ds : List D} {r : D × Bool} (h : F n f ds r) (k : n ≤ m) : F m f ds r := by
  have := C.ups h (m - n); rwa [Nat.add_sub_cancel' k] at this
set_option tactic.hygienic true in
omit C in
theorem orc_just {n : Nat} {T : Tab} (h : ∀ p ∈ T, OkF F n p.1 p.2) : Just F n (orc T) := fun g es r e => by
  unfold orc at e
  split at e
  · rename_i t q; exact h _ (lkS_mem q) es r e
  · cases e
set_option tactic.hygienic true in
theorem runT_ok {m : Nat} {T : Tab} (h : ∀ p ∈ T, OkF F m p.1 p.2) : ∀ n, Just F (m + n) (runT T n)
  | 0 => fun g es r e => by
    unfold runT at e
    split at e
    · rename_i r' q; cases e; exact orc_just h g es r q
    · exact C.bui e
  | n + 1 => fun g es r e => by
    unfold runT at e
    split at e
    · rename_i r' q; cases e; exact C.ups (orc_just h g es r q) (n + 1)
    · by_cases ho : g = ("opposite" : Str)
      · rw [if_pos ho] at e; subst ho
        obtain ⟨s, rfl, rfl⟩ := bOpp_inv e
        exact C.opp
      · rw [if_neg ho] at e
        split at e
        · rename_i fd hl
          split at e
          · rename_i hlen
            obtain ⟨fl, e1, rfl⟩ := Option.map_eq_some_iff.mp e
            exact C.fn ho hl (runT_ok h n) hlen e1
          · cases e
        · split at e
          · rename_i c hl
            split at e
            · rename_i hlen; cases e; exact C.cls hl hlen
            · cases e
          · exact C.bui e
end

noncomputable def Wx (cx : Cx) (mu : List Str) (sc : Scope) (b : List Stmt) (ρ : Rho) (P : Fl → Prop) : Prop := ∃ fl, exs cx mu sc b ρ = some fl ∧ P fl
section
variable {cx : Cx} {mu : List Str} {sc : Scope} {ρ ρ' : Rho} {P : Fl → Prop}
theorem wNil (h : P (.nxt ρ)) : Wx cx mu sc [] ρ P := ⟨_, rfl, h⟩
theorem wSeq {s : Stmt} {r : List Stmt} (h : ex cx mu sc s ρ = some (.nxt ρ')) (h2 : Wx cx mu sc r ρ' P) : Wx cx mu sc (s :: r) ρ P := by
  obtain ⟨fl, e, p⟩ := h2
  exact ⟨fl, by rw [xsCons, h]; exact e, p⟩
theorem wRet {s : Stmt} {r : List Stmt} {d : D} {fr : Bool} (h : ex cx mu sc s ρ = some (.ret d fr)) (h2 : P (.ret d fr)) : Wx cx mu sc (s :: r) ρ P := ⟨_, by rw [xsCons, h]; rfl, h2⟩
theorem exs_app : ∀ (a b : List Stmt) (ρ : Rho), exs cx mu sc (a ++ b) ρ = (exs cx mu sc a ρ).bind fun | .nxt ρ' => exs cx mu sc b ρ' | .ret d m => some (.ret d m)
  | [], b, ρ => rfl
  | s :: a, b, ρ => by
    rw [List.cons_append, xsCons, xsCons]
    cases h : ex cx mu sc s ρ with
    | none => rfl
    | some fl => cases fl with
      | nxt ρ' => exact exs_app a b ρ'
      | ret d m => rfl
theorem wIf {t : Expr} {b o r : List Stmt} {p : Pos} {c : Bool} (h : tr cx t sc ρ (ev cx t sc ρ) = some c) (h1 : c = true → Wx cx mu sc (b ++ r) ρ P) (h0 : c = false → Wx cx mu sc (o ++ r) ρ P) : Wx cx mu sc (.If t b o p :: r) ρ P := by
  cases c with
  | true =>
    obtain ⟨fl, e, q⟩ := h1 rfl
    refine ⟨fl, ?_, q⟩
    rw [exs_app] at e
    rw [xsCons, xIf, h]; exact e
  | false =>
    obtain ⟨fl, e, q⟩ := h0 rfl
    refine ⟨fl, ?_, q⟩
    rw [exs_app] at e
    rw [xsCons, xIf, h]; exact e
theorem wPre {k : Nat} {b : List Stmt} (h : exs cx mu sc (b.take k) ρ = some (.nxt ρ')) (h2 : Wx cx mu sc (b.drop k) ρ' P) : Wx cx mu sc b ρ P := by
  obtain ⟨fl, e, p⟩ := h2
  refine ⟨fl, ?_, p⟩
  rw [← List.take_append_drop k b, exs_app, h]
  exact e
theorem forGo_inv {f : D → Rho → Option Fl} (I : Nat → Rho → Prop) : ∀ (ds : List D) (k : Nat) (ρ : Rho), I k ρ → (∀ i d ρ, ds[i]? = some d → I (k + i) ρ → ∃ ρ', f d ρ = some (.nxt ρ') ∧ I (k + i + 1) ρ') → ∃ ρ', forGo f ds ρ = some (.nxt ρ') ∧ I (k + ds.length) ρ'
  | [], k, ρ, h, _ => ⟨ρ, rfl, h⟩
  | d :: r, k, ρ, h, hs => by
    obtain ⟨ρ₁, e1, h1⟩ := hs 0 d ρ rfl h
    obtain ⟨ρ₂, e2, h2⟩ := forGo_inv I r (k + 1) ρ₁ h1 fun i d ρ e q => by
      have := hs (i + 1) d ρ e (by rwa [Nat.add_right_comm] at q)
      rwa [← Nat.add_assoc, Nat.add_right_comm k i 1] at this
    refine ⟨ρ₂, by rw [gCons, e1]; exact e2, ?_⟩
    rw [List.length_cons, Nat.add_comm r.length 1, ← Nat.add_assoc]; exact h2
theorem orF {e : Expr} {r : List Expr} {b : Bool} (h1 : tr cx e sc ρ (ev cx e sc ρ) = some false) (h2 : trB cx .Or r sc ρ = some b) : trB cx .Or (e :: r) sc ρ = some b := by
  rw [tbCons, h1]; exact h2
theorem andT {e : Expr} {r : List Expr} {b : Bool} (h1 : tr cx e sc ρ (ev cx e sc ρ) = some true) (h2 : trB cx .And r sc ρ = some b) : trB cx .And (e :: r) sc ρ = some b := by
  rw [tbCons, h1]; exact h2
theorem andF {e : Expr} {r : List Expr} (h1 : tr cx e sc ρ (ev cx e sc ρ) = some false) : trB cx .And (e :: r) sc ρ = some false := by
  rw [tbCons, h1]; rfl
theorem orT {e : Expr} {r : List Expr} (h1 : tr cx e sc ρ (ev cx e sc ρ) = some true) : trB cx .Or (e :: r) sc ρ = some true := by
  rw [tbCons, h1]; rfl
theorem notI {x : Expr} {p : Pos} {b : Bool} {ro : Option (D × Mode)} (h : tr cx x sc ρ (ev cx x sc ρ) = some b) : tr cx (.UnaryOp .Not x p) sc ρ ro = some (!b) := by
  rw [tNot, h]; rfl
theorem cmpI {a e : Expr} {op : CmpOp} {p : Pos} {x y : D × Mode} {c : Bool} {ro : Option (D × Mode)} (hm : marksNo [e] = true) (ha : ev cx a sc ρ = some x) (he : ev cx e sc ρ = some y) (h : cmp op x.1 y.1 = some c) : tr cx (.Compare a [op] [e] p) sc ρ ro = some c := by
  rw [tCmp, if_pos hm, ha, Option.bind_some, cOne, he]; exact h
theorem cmpE {a e : Expr} {op : CmpOp} {p : Pos} {x y : D × Mode} {c : Bool} (hm : marksNo [e] = true) (ha : ev cx a sc ρ = some x) (he : ev cx e sc ρ = some y) (h : cmp op x.1 y.1 = some c) : ev cx (.Compare a [op] [e] p) sc ρ = some (.bool c, .fro) := by
  rw [eCmp, if_pos hm, ha, Option.bind_some, cOne, he, Option.bind_some, h]; rfl
theorem cmp2 {a e f : Expr} {p : Pos} {x y z : Int} {m m' m'' : Mode} {op op' : CmpOp} {ro : Option (D × Mode)} (hm : marksNo [e, f] = true) (ha : ev cx a sc ρ = some (.int x, m)) (he : ev cx e sc ρ = some (.int y, m')) (hf : ev cx f sc ρ = some (.int z, m''))
    (h : cmp op (.int x) (.int y) = some true) (h' : cmp op' (.int y) (.int z) = some true) : tr cx (.Compare a [op, op'] [e, f] p) sc ρ ro = some true := by
  rw [tCmp, if_pos hm, ha, Option.bind_some, cTwo, he, Option.bind_some, h, Option.bind_some, if_pos rfl, cOne, hf]; exact h'
theorem ifT {t b o : Expr} {p : Pos} {r : D × Mode} (h : tr cx t sc ρ (ev cx t sc ρ) = some true) (h1 : ev cx b sc ρ = some r) : ev cx (.IfExp t b o p) sc ρ = some r := by
  rw [eIf, h]; exact h1
theorem ifF {t b o : Expr} {p : Pos} {r : D × Mode} (h : tr cx t sc ρ (ev cx t sc ρ) = some false) (h1 : ev cx o sc ρ = some r) : ev cx (.IfExp t b o p) sc ρ = some r := by
  rw [eIf, h]; exact h1
theorem subI {a i : Expr} {p : Pos} {x y : D × Mode} {d : D} (hn : sliceNo i = true) (ha : ev cx a sc ρ = some x) (hi : ev cx i sc ρ = some y) (h : item x.1 y.1 = some d) : ev cx (.Subscript a i p) sc ρ = some (d, .fro) := by
  have : ev cx (.Subscript a i p) sc ρ = if sliceNo i = true then (ev cx a sc ρ).bind fun a => (ev cx i sc ρ).bind fun i => (item a.1 i.1).map fun d => (d, .fro) else none := by
    cases i with
    | Slice lo hi st q => exact absurd hn Bool.false_ne_true
    | _ => rfl
  rw [this, if_pos hn, ha, Option.bind_some, hi, Option.bind_some, h]; rfl
theorem callI {f : Str} {args : List Expr} {fp p : Pos} {ds : List D} {d : D} {fr : Bool} (hf : few args = true) (hl : isLE f args sc ρ = false) (hg : (ρ.get f).isNone = true) (hk : sc.names.lookup f = some .globalImplicit) (hd : f ≠ ("__debug__" : Str)) (ha : evs cx args sc ρ = some ds) (h : cx.fn f ds = some (d, fr)) :
    ev cx (.Call (.Name f fp) args [] p) sc ρ = some (d, if fr then .fre else .fro) := by
  rw [eCall, if_pos hf, if_neg (by rw [hl]; exact Bool.false_ne_true), callD, if_pos ⟨Option.isNone_iff_eq_none.mp hg, hk, hd⟩, ha, Option.bind_some, h]; rfl
theorem evsI {e : Expr} {r : List Expr} {d : D} {m : Mode} {ds : List D} (h : ev cx e sc ρ = some (d, m)) (hm : m ≠ .bor) (h2 : evs cx r sc ρ = some ds) : evs cx (e :: r) sc ρ = some (d :: ds) := by
  rw [sCons, h, Option.bind_some, if_neg hm, h2]; rfl
theorem binI {a b : Expr} {op : Operator} {p : Pos} {x y z : D × Mode} (ha : ev cx a sc ρ = some x) (hb : ev cx b sc ρ = some y) (h : binop op x.1 x.2 y.1 = some z) : ev cx (.BinOp a op b p) sc ρ = some z := by
  rw [eBin, ha, Option.bind_some, hb]; exact h
theorem asgI {x : Str} {px p : Pos} {v : Expr} {d : D} {m : Mode} (h1 : (namesVar sc (.Name x px) && asgOk sc x px v) = true) (h : ev cx v sc ρ = some (d, m)) (hm : m ≠ .bor) : ex cx mu sc (.Assign [.Name x px] v p) ρ = some (.nxt (ρ.set x (d, if m = .fre ∧ mu.contains x = true then .bor else .fro))) := by
  rw [xAsg, if_pos (Bool.and_eq_true_iff.mp h1), h, Option.bind_some, if_neg hm]
end
end Mine

set_option maxHeartbeats 2000000
namespace Mine

structure Row where
  c : Int
  jt : Int
  jf : Int
  k : Int
noncomputable def oD (r : Row) : D := .obj 105 [("code", .int r.c), ("jt", .int r.jt), ("jf", .int r.jf), ("k", .int r.k)]
noncomputable def tD (r : Row) : D := .tup [.int r.c, .int r.jt, .int r.jf, .int r.k]

noncomputable def cLd : List Int := [32, 40, 48, 64, 72, 80, 177]
noncomputable def cL0 : List Int := [0, 128, 96, 1, 129, 97]
noncomputable def cDk : List Int := [4, 20, 36, 52, 68, 84, 100, 116, 132, 148, 164]
noncomputable def cDx : List Int := [12, 28, 44, 60, 76, 92, 108, 124, 156, 172]
noncomputable def cCj : List Int := [21, 37, 53, 69, 29, 45, 61, 77]
noncomputable def cOt : List Int := [6, 22, 7, 135, 2, 3]
noncomputable def cAll : List Int := cLd ++ cL0 ++ cDk ++ cDx ++ [5] ++ cCj ++ cOt
noncomputable def far : List Int := [0, 1, 14, 65531, 65533, 65534, 65535, 4294967295]

inductive Menu (b : Int) : Row → Prop
  | ld {c f : Int} (hc : c ∈ cLd) (hf : f ∈ far) : Menu b ⟨c, 0, 0, f⟩
  | l0 {c k : Int} (hc : c ∈ cL0) (hk : k ∈ [0, 1]) : Menu b ⟨c, 0, 0, k⟩
  | dk {c k : Int} (hc : c ∈ cDk) (h1 : 1 ≤ k) (h2 : k ≤ 31) : Menu b ⟨c, 0, 0, k⟩
  | dx {c : Int} (hc : c ∈ cDx) : Menu b ⟨c, 0, 0, 0⟩
  | ja {k : Int} (h0 : 0 ≤ k) (h1 : k < b) : Menu b ⟨5, 0, 0, k⟩
  | cj {c jt jf k : Int} (hc : c ∈ cCj) (h0 : 0 ≤ jt) (h1 : jt < b) (h2 : 0 ≤ jf) (h3 : jf < b) (h4 : 0 ≤ k) (h5 : k ≤ 4) : Menu b ⟨c, jt, jf, k⟩
  | ot {c k : Int} (hc : c ∈ cOt) (hk : k ∈ [0, 1]) : Menu b ⟨c, 0, 0, k⟩
  | rt : Menu b ⟨6, 0, 0, 3⟩

section
variable {F : Fct} (C : Closed F)
include C

omit C in
theorem nilT {m : Nat} : ∀ p ∈ ([] : Tab), OkF F m p.1 p.2 := fun p h => nomatch h


end
section
noncomputable def jmpB (c : Int) : Bool := c == 5 || cCj.contains c
noncomputable def retB (c : Int) : Bool := c == 6 || c == 22
noncomputable def rcOf (c k : Int) : Int := if c = 96 ∨ c = 97 then k else -1
noncomputable def wcOf (c k : Int) : Int := if c = 2 ∨ c = 3 then k else -1
noncomputable def beyond (c k : Int) : Bool := (c == 32 && decide (65535 < k + 4)) || (c == 40 && decide (65535 < k + 2)) || ((c == 48 || c == 177) && decide (65535 < k + 1))
noncomputable def sgn (w : Int) : Int := if ((Builtin.bitAnd w 4294967295).fdiv 2147483648 != 0) = true then Builtin.bitAnd w 4294967295 - 4294967296 else Builtin.bitAnd w 4294967295

theorem known_all : (cAll.map fun c => runT [] 3 "is_known_code" [.int c]) = cAll.map fun _ => some (.bool true, false) := by kernel_rfl
theorem jump_all (jt jf k : Int) : (cAll.map fun c => runT [] 3 "is_jump_order" [oD ⟨c, jt, jf, k⟩]) = cAll.map fun c => some (.bool (jmpB c), false) := by kernel_rfl
theorem ret_all (jt jf k : Int) : (cAll.map fun c => runT [] 3 "is_return" [oD ⟨c, jt, jf, k⟩]) = cAll.map fun c => some (.bool (retB c), false) := by kernel_rfl
theorem read_all (jt jf k : Int) : (cAll.map fun c => runT [] 4 "read_cell" [oD ⟨c, jt, jf, k⟩]) = cAll.map fun c => some (.int (rcOf c k), false) := by kernel_rfl
theorem written_all (jt jf k : Int) : (cAll.map fun c => runT [] 4 "written_cell" [oD ⟨c, jt, jf, k⟩]) = cAll.map fun c => some (.int (wcOf c k), false) := by kernel_rfl

theorem menu_all {b : Int} {r : Row} (h : Menu b r) : r.c ∈ cAll := by
  simp only [cAll, List.mem_append]
  cases h with
  | ld hc => simp [hc]
  | l0 hc => simp [hc]
  | dk hc => simp [hc]
  | dx hc => simp [hc]
  | ja => simp
  | cj hc => simp [hc]
  | ot hc => simp [hc]
  | rt => simp [cOt]
theorem map_mem {α β : Type} {f g : α → β} : ∀ {l : List α}, l.map f = l.map g → ∀ {x}, x ∈ l → f x = g x
  | a :: l, h, x, hx => by
    simp only [List.map_cons, List.cons.injEq] at h
    rcases List.mem_cons.mp hx with rfl | hx
    · exact h.1
    · exact map_mem h.2 hx
noncomputable def fSigned : {fd : FD // theDefs[0]? = some (("signed" : Str), fd)} := ⟨_, rfl⟩
theorem fSignedL : lkS "signed" theDefs = some fSigned.1 := by kernel_rfl
noncomputable def fCheckKnown : {fd : FD // theDefs[12]? = some (("check_known" : Str), fd)} := ⟨_, rfl⟩
theorem fCheckKnownL : lkS "check_known" theDefs = some fCheckKnown.1 := by kernel_rfl
noncomputable def fGoalsOfClassic : {fd : FD // theDefs[11]? = some (("goals_of_classic" : Str), fd)} := ⟨_, rfl⟩
theorem fGoalsOfClassicL : lkS "goals_of_classic" theDefs = some fGoalsOfClassic.1 := by kernel_rfl
noncomputable def fFollows : {fd : FD // theDefs[43]? = some (("follows" : Str), fd)} := ⟨_, rfl⟩
theorem fFollowsL : lkS "follows" theDefs = some fFollows.1 := by kernel_rfl
noncomputable def fJumpRows : {fd : FD // theDefs[58]? = some (("jump_rows" : Str), fd)} := ⟨_, rfl⟩
theorem fJumpRowsL : lkS "jump_rows" theDefs = some fJumpRows.1 := by kernel_rfl
noncomputable def fLawWays : {fd : FD // theDefs[71]? = some (("_law_ways" : Str), fd)} := ⟨_, rfl⟩
theorem fLawWaysL : lkS "_law_ways" theDefs = some fLawWays.1 := by kernel_rfl
noncomputable def fLawGoals : {fd : FD // theDefs[73]? = some (("_law_goals" : Str), fd)} := ⟨_, rfl⟩
theorem fLawGoalsL : lkS "_law_goals" theDefs = some fLawGoals.1 := by kernel_rfl

section
variable {F : Fct} (C : Closed F)
include C
theorem enter {n : Nat} {f : Str} {fd : FD} {T : Str → List D → Option (D × Bool)} {ds : List D} {r : D × Bool} (ho : f ≠ ("opposite" : Str)) (hl : lkS f theDefs = some fd) (hT : Just F n T) (hlen : (ds ++ fill fd.dfl fd.params.length ds).length = fd.params.length)
    (h : Wx ⟨con0, T, fld0⟩ fd.mu fd.scope fd.body (rho0 fd.params (ds ++ fill fd.dfl fd.params.length ds)) fun fl => flVal fl = r) : F (n + 1) f ds r := by
  obtain ⟨fl, e, rfl⟩ := h
  exact C.fn ho hl hT hlen e
theorem just (n : Nat) : Just F n (runT [] n) := by have := runT_ok C (m := 0) (T := []) nilT n; rwa [Nat.zero_add] at this

theorem signed_ok (w : Int) : F 1 "signed" [.int w, .int 32] (.int (sgn w), false) := by
  refine enter C (by decide +kernel) fSignedL (just C 0) (by kernel_rfl) ?_
  refine wSeq (ρ' := [("worth", .int w, .fro), ("size", .int 32, .fro), ("low", .int (Builtin.bitAnd w 4294967295), .fro)]) (by kernel_rfl) ?_
  cases h : ((Builtin.bitAnd w 4294967295).fdiv 2147483648 != 0) with
  | true =>
    refine wRet (d := .int (Builtin.bitAnd w 4294967295 - 4294967296)) (fr := false) ?_ (by show (_, _) = _; unfold sgn; rw [if_pos h])
    rw [xRetI, ifT (r := (.int (Builtin.bitAnd w 4294967295 - 4294967296), .fro))]
    · rfl
    · exact Eq.trans (b := some ((Builtin.bitAnd w 4294967295).fdiv 2147483648 != 0)) (by kernel_rfl) (congrArg some h)
    · kernel_rfl
  | false =>
    refine wRet (d := .int (Builtin.bitAnd w 4294967295)) (fr := false) ?_ (by show (_, _) = _; unfold sgn; rw [if_neg (by rw [h]; exact Bool.false_ne_true)])
    rw [xRetI, ifF (r := (.int (Builtin.bitAnd w 4294967295), .fro))]
    · rfl
    · exact Eq.trans (b := some ((Builtin.bitAnd w 4294967295).fdiv 2147483648 != 0)) (by kernel_rfl) (congrArg some h)
    · kernel_rfl

omit C in
theorem le_some {a b : Int} (h : a ≤ b) : cmp .LtE (.int a) (.int b) = some true := by show some (decide (a ≤ b)) = _; rw [decide_eq_true h]
theorem check_known_ok {r : Row} (hc : r.c ∈ cAll) (h0 : 0 ≤ r.jt) (h1 : r.jt ≤ 255) (h2 : 0 ≤ r.jf) (h3 : r.jf ≤ 255) (h4 : 0 ≤ r.k) (h5 : r.k ≤ 4294967295) (a : Int) : F 4 "check_known" [oD r, .int a] (.none, false) := by
  refine enter C (by decide +kernel) fCheckKnownL (just C 3) (by kernel_rfl) ?_
  have e : runT [] 3 "is_known_code" [.int r.c] = some (.bool true, false) := map_mem known_all hc
  refine wIf (c := false) (notI (b := true) ?_) ff fun _ => ?_
  · rw [tF, callI (ds := [.int r.c]) (d := .bool true) (fr := false) (by kernel_rfl) (by kernel_rfl) (by kernel_rfl) (by kernel_rfl) (by decide +kernel) (by kernel_rfl) e]
    rfl
  · refine wIf (c := false) ?_ ff fun _ => wNil rfl
    rw [tBo]
    refine orF (notI (b := true) ?_) (orF (notI (b := true) ?_) (orF (notI (b := true) ?_) rfl))
    · exact cmp2 (by kernel_rfl) (x := 0) (y := r.jt) (z := 255) (m := .fro) (m' := .fro) (m'' := .fro) (by kernel_rfl) (by kernel_rfl) (by kernel_rfl) (le_some h0) (le_some h1)
    · exact cmp2 (by kernel_rfl) (x := 0) (y := r.jf) (z := 255) (m := .fro) (m' := .fro) (m'' := .fro) (by kernel_rfl) (by kernel_rfl) (by kernel_rfl) (le_some h2) (le_some h3)
    · exact cmp2 (by kernel_rfl) (x := 0) (y := r.k) (z := 4294967295) (m := .fro) (m' := .fro) (m'' := .fro) (by kernel_rfl) (by kernel_rfl) (by kernel_rfl) (le_some h4) (le_some h5)
end
end
end Mine

set_option maxHeartbeats 2000000
namespace Mine
section
noncomputable def conc : List Row := cLd.flatMap (fun c => far.map fun f => ⟨c, 0, 0, f⟩) ++ cL0.flatMap (fun c => [⟨c, 0, 0, 0⟩, ⟨c, 0, 0, 1⟩]) ++ cDx.map (fun c => ⟨c, 0, 0, 0⟩) ++ cOt.flatMap (fun c => [⟨c, 0, 0, 0⟩, ⟨c, 0, 0, 1⟩]) ++ [⟨6, 0, 0, 3⟩]
noncomputable def conk (k : Int) : List Row := conc ++ cDk.map fun c => ⟨c, 0, 0, k⟩
theorem number_conc (a : Int) : (conc.map fun r => runT [] 5 "check_number" [oD r, .int a]) = conc.map fun _ => some (.none, false) := by kernel_rfl
theorem number_jump (jt jf k a : Int) : ((5 :: cCj).map fun c => runT [] 5 "check_number" [oD ⟨c, jt, jf, k⟩, .int a]) = (5 :: cCj).map fun _ => some (.none, false) := by kernel_rfl
theorem number_deed (a : Int) : (cDk.map fun c => (List.range 31).map fun (i : Nat) => runT [] 5 "check_number" [oD ⟨c, 0, 0, (i : Int) + 1⟩, .int a]) = cDk.map fun _ => (List.range 31).map fun _ => some (.none, false) := by kernel_rfl

noncomputable def tailRun (n : Nat) (fd : FD) (ρ : Rho) : Option Fl := exs ⟨con0, runT [] n, fld0⟩ fd.mu fd.scope fd.body.tail ρ
noncomputable def wayB (r : Row) (a : Int) : List Int := if retB r.c || beyond r.c r.k then [] else [a + 1]
theorem follows_conc (os : List D) (a k : Int) : ((conk k).map fun r => tailRun 5 fFollows.1 [("orders", .list os, .fro), ("at", .int a, .fro), ("order", oD r, .fro)]) = (conk k).map fun r => some (.ret (.list ((wayB r a).map .int)) true) := by kernel_rfl
theorem follows_ja (os : List D) (a k : Int) : tailRun 5 fFollows.1 [("orders", .list os, .fro), ("at", .int a, .fro), ("order", oD ⟨5, 0, 0, k⟩, .fro)] = some (.ret (.list [.int (a + 1 + k)]) true) := by kernel_rfl
theorem follows_cj (os : List D) (a jt jf k : Int) : (cCj.map fun c => tailRun 5 fFollows.1 [("orders", .list os, .fro), ("at", .int a, .fro), ("order", oD ⟨c, jt, jf, k⟩, .fro)]) = cCj.map fun c => some (.ret (.list [.int (a + 1 + jt), .int (a + 1 + jf)]) true) := by kernel_rfl
theorem goals_ja (os : List D) (a k : Int) : tailRun 5 fGoalsOfClassic.1 [("orders", .list os, .fro), ("at", .int a, .fro), ("order", oD ⟨5, 0, 0, k⟩, .fro)] = some (.ret (.list [.int (a + 1 + k)]) true) := by kernel_rfl
theorem beyond_conc (k : Int) : ((conk k).map fun r => runT [] 3 "_law_is_beyond" [tD r]) = (conk k).map fun r => some (.bool (beyond r.c r.k), false) := by kernel_rfl
theorem beyond_jump (jt jf k : Int) : ((5 :: cCj).map fun c => runT [] 3 "_law_is_beyond" [tD ⟨c, jt, jf, k⟩]) = (5 :: cCj).map fun c => some (.bool false, false) := by kernel_rfl
end
end Mine

set_option maxHeartbeats 2000000
namespace Mine
section
noncomputable def gLd (c k : Int) : List Int :=
  if beyond c k then [-2] else if c = 32 ∨ c = 40 ∨ c = 48 ∨ c = 177 then [-1, -1] ++ (if 0 < k then [-1] else []) ++ [-1, -1, -2, -1] ++ (if c = 32 ∨ c = 40 then [-1] else if c = 48 then [] else [-1, -1])
  else [-1, -1, -2, -1, -1, -1, -1, -1, -2, -1] ++ (if c = 80 then [] else [-1])
noncomputable def gOf (r : Row) : List Int := if cLd.contains r.c then gLd r.c r.k else if r.c = 128 ∨ r.c = 129 then [-1, -1, -1, -1] else if r.c = 60 ∨ r.c = 156 then [-2, -1] else if retB r.c then [-1, -1] else [-1]
structure LR where
  c : Int
  d : Int
  s : Int
  o : Int
  i : Int
  g : Int
noncomputable def orD (c d s o i : Int) : D := .obj 232 [("code", .int c), ("dst", .int d), ("src", .int s), ("off", .int o), ("imm", .int i), ("more", .int 0)]
noncomputable def lrD (l : LR) : D := .obj 399 [("order", orD l.c l.d l.s l.o l.i), ("goal", .int l.g)]
noncomputable def sEqs (a b : List Str) : Bool := match a with
  | [] => b.isEmpty
  | x :: as => match b with
    | [] => false
    | y :: bs => Fast.sEq x y && sEqs as bs
theorem sEqs_eq {a b : List Str} (h : sEqs a b = true) : a = b := by
  induction a generalizing b with
  | nil => exact (isE h).symm
  | cons x as ih => cases b with
    | nil => exact ff h
    | cons y bs =>
      have h := Bool.and_eq_true_iff.mp (show (Fast.sEq x y && sEqs as bs) = true from h)
      rw [Fast.sEq_iff.mp h.1, ih h.2]
noncomputable def rowNames : List Str := ["order", "goal", "code", "dst", "src", "off", "imm", "more"]
noncomputable def fI (l : List (Str × D)) : Option (Str × Int × List (Str × D)) := match l with
  | [] => none
  | p :: r => match p.2 with
    | .int i => some (p.1, i, r)
    | _ => none
theorem fI_eq {l : List (Str × D)} {a : Str × Int × List (Str × D)} (h : fI l = some a) : l = (a.1, .int a.2.1) :: a.2.2 := by
  cases l with
  | nil => cases h
  | cons p l =>
    obtain ⟨m, d⟩ := p
    cases d with
    | int i => cases h; rfl
    | _ => cases h
theorem fI_end {l : List (Str × D)} (h : l.isEmpty = true) : l = [] := by cases l with
  | nil => rfl
  | cons => cases h
noncomputable def key6 (a b c d e f : Str × Int × List (Str × D)) : Option (List Str × Int × LR) := if f.2.2.isEmpty = true then some ([a.1, b.1, c.1, d.1, e.1, f.1], f.2.1, ⟨a.2.1, b.2.1, c.2.1, d.2.1, e.2.1, 0⟩) else none
noncomputable def keyO (fs : List (Str × D)) : Option (List Str × Int × LR) :=
  (fI fs).bind fun a => (fI a.2.2).bind fun b => (fI b.2.2).bind fun c => (fI c.2.2).bind fun d => (fI d.2.2).bind fun e => (fI e.2.2).bind fun f => key6 a b c d e f
noncomputable def keyL (p : Str × D) (q : Str × Int × List (Str × D)) (C : Addr) (gs : List (Str × D)) : Option LR :=
  if C = 232 ∧ q.2.2.isEmpty = true then (keyO gs).bind fun k => if k.2.1 = 0 ∧ sEqs (p.1 :: q.1 :: k.1) rowNames = true then some { k.2.2 with g := q.2.1 } else none else none
noncomputable def keyP (p : Str × D) (r : List (Str × D)) : Option LR := match p.2 with
  | .obj C gs => (fI r).bind fun q => keyL p q C gs
  | _ => none
noncomputable def keyF (fs : List (Str × D)) : Option LR := match fs with
  | [] => none
  | p :: r => keyP p r
noncomputable def keyD (d : D) : Option LR := match d with
  | .obj C fs => if C = 399 then keyF fs else none
  | _ => none
noncomputable def keysD : List D → Option (List (Int × Int))
  | [] => some []
  | d :: r => match keyD d with | some l => (keysD r).map ((l.c, l.g) :: ·) | none => none
theorem keyO_eq {fs : List (Str × D)} {k : List Str × Int × LR} (h : keyO fs = some k) : ∃ a1 a2 a3 a4 a5 a6, k.1 = [a1, a2, a3, a4, a5, a6] ∧ fs = [(a1, .int k.2.2.c), (a2, .int k.2.2.d), (a3, .int k.2.2.s), (a4, .int k.2.2.o), (a5, .int k.2.2.i), (a6, .int k.2.1)] := by
  obtain ⟨a, ha, h⟩ := Option.bind_eq_some_iff.mp h
  obtain ⟨b, hb, h⟩ := Option.bind_eq_some_iff.mp h
  obtain ⟨c, hc, h⟩ := Option.bind_eq_some_iff.mp h
  obtain ⟨d, hd, h⟩ := Option.bind_eq_some_iff.mp h
  obtain ⟨e, he, h⟩ := Option.bind_eq_some_iff.mp h
  obtain ⟨f, hf, h⟩ := Option.bind_eq_some_iff.mp h
  unfold key6 at h
  by_cases q : f.2.2.isEmpty = true
  · rw [if_pos q] at h; cases h
    have hf := fI_eq hf
    rw [fI_end q] at hf
    exact ⟨_, _, _, _, _, _, rfl, by rw [fI_eq ha, fI_eq hb, fI_eq hc, fI_eq hd, fI_eq he, hf]⟩
  · rw [if_neg q] at h; cases h
theorem keyD_eq {d : D} {l : LR} (h : keyD d = some l) : d = lrD l := by
  cases d with
  | obj C fs =>
    by_cases q : C = 399
    · replace h : keyF fs = some l := (if_pos q).symm.trans h
      subst q
      cases fs with
      | nil => cases h
      | cons p r =>
        obtain ⟨n1, x⟩ := p
        cases x with
        | obj C2 gs =>
          obtain ⟨q, hq, h⟩ := Option.bind_eq_some_iff.mp (show (fI r).bind (fun q => keyL (n1, .obj C2 gs) q C2 gs) = some l from h)
          unfold keyL at h
          by_cases q2 : C2 = 232 ∧ q.2.2.isEmpty = true
          · rw [if_pos q2] at h
            obtain ⟨k, hk, h⟩ := Option.bind_eq_some_iff.mp h
            by_cases q3 : k.2.1 = 0 ∧ sEqs (n1 :: q.1 :: k.1) rowNames = true
            · replace h := (if_pos q3).symm.trans h
              cases h
              obtain ⟨a1, a2, a3, a4, a5, a6, h1, h2⟩ := keyO_eq hk
              have hn := sEqs_eq q3.2
              rw [h1] at hn
              simp only [rowNames, List.cons.injEq, and_true] at hn
              obtain ⟨h3, h4, h5, h6, h7, h8, h9, h10⟩ := hn
              have hr := fI_eq hq
              rw [fI_end q2.2] at hr
              rw [h2, hr, q2.1, q3.1, h3, h4, h5, h6, h7, h8, h9, h10]
              rfl
            · rw [if_neg q3] at h; cases h
          · rw [if_neg q2] at h; cases h
        | _ => cases h
    · have : keyD (.obj C fs) = none := if_neg q
      rw [this] at h; cases h
  | _ => cases h
set_option tactic.hygienic true in
theorem keysD_eq : ∀ {W : List D} {ks : List (Int × Int)}, keysD W = some ks → ∃ ls : List LR, W = ls.map lrD ∧ ks = ls.map fun l => (l.c, l.g)
  | [], ks, h => by cases h; exact ⟨[], rfl, rfl⟩
  | d :: r, ks, h => by
    unfold keysD at h
    split at h
    · rename_i l hl
      obtain ⟨ks', h1, rfl⟩ := Option.map_eq_some_iff.mp h
      obtain ⟨ls, rfl, rfl⟩ := keysD_eq h1
      exact ⟨l :: ls, by rw [keyD_eq hl]; rfl, rfl⟩
    · cases h
noncomputable def brs : List Int := [22, 30, 38, 46, 54, 62, 70, 78, 86, 94, 182, 190, 166, 174, 37, 45]
noncomputable def leadB (c : Int) : Bool := ([5, 6] : List Int).contains (c.fmod 8) && !(c == 149)
noncomputable def goodK (p : Int × Int) : Bool := if p.2 == -1 then !leadB p.1 else p.1 == 5 || brs.contains p.1
noncomputable def chk (o : Option (D × Bool)) (gs : List Int) : Bool := match o with | some (.list W, _) => (match keysD W with | some ks => ks.all goodK && (ks.map (·.2) == gs) | none => false) | _ => false
noncomputable def sg2 (es : List D) : Option (D × Bool) := match es with
  | [] => none
  | a :: r => match r with
    | [] => none
    | b :: q => if q.isEmpty = true then (intD a).bind fun w => (intD b).bind fun k => if k = 32 then some (.int (sgn w), false) else none else none
theorem sg2_inv {es : List D} {r : D × Bool} (h : sg2 es = some r) : ∃ w, es = [.int w, .int 32] ∧ (.int (sgn w), false) = r := by
  cases es with
  | nil => exact nno h
  | cons a q => cases q with
    | nil => exact nno h
    | cons b q =>
      obtain ⟨h1, h⟩ := iteS h
      obtain ⟨w, h2, h⟩ := Option.bind_eq_some_iff.mp h
      obtain ⟨k, h3, h⟩ := Option.bind_eq_some_iff.mp h
      obtain ⟨h4, h⟩ := iteS h
      exact ⟨w, by rw [intD_inv h2, intD_inv h3, h4, isE h1], Option.some.inj h⟩
noncomputable def tSg : Tab := [("signed", sg2)]
theorem rows_conc (a k : Int) : ((conk k).all fun r => chk (runT tSg 9 "rows_of" [oD r, .int a]) (gOf r)) = true := by kernel_rfl
noncomputable def partsFrom : Int → List Int → List D
  | _, [] => []
  | i, g :: gs => if g = -1 then partsFrom (i + 1) gs else .tup [.int i, .int (if g = -2 then -1 else g)] :: partsFrom (i + 1) gs
theorem parts_conc (a k : Int) : ((conk k).map fun r => runT [] 4 "_law_parts" [tD r, .int a]) = (conk k).map fun r => some (.tup [.int (gOf r).length, .list (partsFrom 0 (gOf r))], false) := by kernel_rfl
end
end Mine

set_option maxHeartbeats 2000000
namespace Mine

noncomputable def gJ (r : Row) (a : Int) : List Int :=
  if r.c = 5 then (if 0 < r.k then [a + 1 + r.k] else [])
  else if r.jt = r.jf then (if 0 < r.jt then [a + 1 + r.jt] else [])
  else if r.jf = 0 then [a + 1 + r.jt]
  else if r.jt = 0 ∧ ¬ (r.c = 69 ∨ r.c = 77) then [a + 1 + r.jf] else [a + 1 + r.jt, a + 1 + r.jf]
noncomputable def wayJ (r : Row) (a : Int) : List Int := if r.c = 5 then [a + 1 + r.k] else if r.jt = r.jf then [a + 1 + r.jt] else [a + 1 + r.jt, a + 1 + r.jf]
noncomputable def folJ (r : Row) (a : Int) : List Int := if r.c = 5 then [a + 1 + r.k] else [a + 1 + r.jt, a + 1 + r.jf]

theorem wOrder {cx : Cx} {mu : List Str} {sc : Scope} {body : List Stmt} {os : List D} {a : Int} {d : D} {P : Fl → Prop} (hb : ∃ px lp ip ps p r, body = .Assign [.Name ("order" : Str) px] (.Subscript (.Name ("orders" : Str) lp) (.Name ("at" : Str) ip) ps) p :: r) (hs : sc.names.lookup ("order" : Str) = some .local) (hm : mu.contains ("order" : Str) = false) (hn : nth os a = some d)
    (h : Wx cx mu sc body.tail [("orders", .list os, .fro), ("at", .int a, .fro), ("order", d, .fro)] P) : Wx cx mu sc body [("orders", .list os, .fro), ("at", .int a, .fro)] P := by
  obtain ⟨px, lp, ip, ps, p, r, rfl⟩ := hb
  refine wSeq (ρ' := [("orders", .list os, .fro), ("at", .int a, .fro), ("order", d, .fro)]) ?_ h
  exact (asgI (d := d) (m := .fro) (Bool.and_eq_true_iff.mpr ⟨vnN hs, rfl⟩) (subI rfl (x := (.list os, .fro)) (y := (.int a, .fro)) (by kernel_rfl) (by kernel_rfl) hn) (by simp)).trans (by kernel_rfl)
section
variable {F : Fct} (C : Closed F)
include C

omit C in
theorem wayB_eq (r : Row) (a : Int) : (if (retB r.c || beyond r.c r.k) = true then [] else [a + 1]) = wayB r a := rfl
theorem follows_conk {os : List D} {a k : Int} {r : Row} (hr : r ∈ conk k) (hn : nth os a = some (oD r)) : F 6 "follows" [.list os, .int a] (.list ((wayB r a).map .int), true) := by
  refine enter C (by decide +kernel) fFollowsL (just C 5) (by kernel_rfl) ?_
  refine wOrder (a := a) (d := oD r) ⟨_, _, _, _, _, _, rfl⟩ (by kernel_rfl) (by kernel_rfl) hn ⟨_, map_mem (follows_conc os a k) hr, rfl⟩
theorem follows_jump {os : List D} {a : Int} {r : Row} (hr : r = ⟨5, 0, 0, r.k⟩ ∨ r.c ∈ cCj) (hn : nth os a = some (oD r)) : F 6 "follows" [.list os, .int a] (.list ((folJ r a).map .int), true) := by
  refine enter C (by decide +kernel) fFollowsL (just C 5) (by kernel_rfl) ?_
  refine wOrder (a := a) (d := oD r) ⟨_, _, _, _, _, _, rfl⟩ (by kernel_rfl) (by kernel_rfl) hn ?_
  rcases hr with hr | hc
  · rw [hr]; exact ⟨_, follows_ja os a r.k, rfl⟩
  · refine ⟨_, map_mem (follows_cj os a r.jt r.jf r.k) hc, ?_⟩
    have : r.c ≠ 5 := by intro q; rw [q] at hc; exact absurd hc (by decide)
    simp [folJ, this, flVal]
omit C in
theorem goals_pre (os : List D) (a jt jf k : Int) : (cCj.map fun c => exs ⟨con0, runT [] 5, fld0⟩ fGoalsOfClassic.1.mu fGoalsOfClassic.1.scope (fGoalsOfClassic.1.body.tail.take 3) [("orders", .list os, .fro), ("at", .int a, .fro), ("order", oD ⟨c, jt, jf, k⟩, .fro)]) =
    cCj.map fun c => some (.nxt [("orders", .list os, .fro), ("at", .int a, .fro), ("order", oD ⟨c, jt, jf, k⟩, .fro)]) := by kernel_rfl
theorem goals_jump {os : List D} {a : Int} {r : Row} (hr : r = ⟨5, 0, 0, r.k⟩ ∨ r.c ∈ cCj) (hn : nth os a = some (oD r)) : F 6 "goals_of_classic" [.list os, .int a] (.list ((wayJ r a).map .int), true) := by
  refine enter C (by decide +kernel) fGoalsOfClassicL (just C 5) (by kernel_rfl) ?_
  refine wOrder (a := a) (d := oD r) ⟨_, _, _, _, _, _, rfl⟩ (by kernel_rfl) (by kernel_rfl) hn ?_
  rcases hr with hr | hc
  · rw [hr]; exact ⟨_, goals_ja os a r.k, rfl⟩
  · obtain ⟨c, jt, jf, k⟩ := r
    have h5 : c ≠ 5 := by intro q; dsimp only at hc; rw [q] at hc; exact absurd hc (by decide)
    refine wPre (k := 3) (map_mem (goals_pre os a jt jf k) hc) ?_
    cases he : jt == jf with
    | true =>
      have he' := eq_of_beq he
      subst he'
      refine wIf (c := true) (cmpI (x := (.int jt, .fro)) (y := (.int jt, .fro)) (by kernel_rfl) (by kernel_rfl) (by kernel_rfl) (congrArg some he)) (fun _ => ?_) tf
      exact wRet (d := .list [.int (a + 1 + jt)]) (fr := true) (by kernel_rfl) (by simp [wayJ, flVal, h5])
    | false =>
      have hn' : jt ≠ jf := fun q => by subst q; simp at he
      refine wIf (c := false) (cmpI (x := (.int jt, .fro)) (y := (.int jf, .fro)) (by kernel_rfl) (by kernel_rfl) (by kernel_rfl) (congrArg some he)) ff fun _ => ?_
      exact wRet (d := .list [.int (a + 1 + jt), .int (a + 1 + jf)]) (fr := true) (by kernel_rfl) (by simp [wayJ, flVal, hn', h5])
end
end Mine

set_option maxHeartbeats 2000000
namespace Mine
section
open Classical in
noncomputable def pick (S : List D → D × Bool → Prop) (es : List D) : Option (D × Bool) := if h : ∃ r, S es r then some (Classical.choose h) else none
noncomputable def withS (S : List D → D × Bool → Prop) (g0 : Str) (T : Str → List D → Option (D × Bool)) : Str → List D → Option (D × Bool) := fun g es => @ite _ (g = g0) (Fast.sDec g g0) (pick S es) (T g es)
theorem pick_spec {S : List D → D × Bool → Prop} {es : List D} {r : D × Bool} (h : S es r) : ∃ r', pick S es = some r' ∧ S es r' := by
  have h' : ∃ r, S es r := ⟨r, h⟩
  exact ⟨_, by unfold pick; rw [dif_pos h'], Classical.choose_spec h'⟩
theorem pick_uniq {S : List D → D × Bool → Prop} {es : List D} {r : D × Bool} (h : S es r) (u : ∀ r', S es r' → r' = r) : pick S es = some r := by
  obtain ⟨r', e, s⟩ := pick_spec h
  rw [e, u r' s]
theorem withS_same {S : List D → D × Bool → Prop} {g : Str} {T : Str → List D → Option (D × Bool)} {es : List D} : withS S g T g es = pick S es := if_pos rfl
set_option tactic.hygienic true in
theorem withS_just {F : Fct} {n : Nat} {S : List D → D × Bool → Prop} {g0 : Str} {T : Str → List D → Option (D × Bool)} (h : ∀ es r, S es r → F n g0 es r) (hT : Just F n T) : Just F n (withS S g0 T) := by
  intro g es r e
  unfold withS at e
  by_cases q : g = g0
  · rw [if_pos q] at e; subst q
    unfold pick at e
    split at e
    · rename_i hx; cases e; exact h _ _ (Classical.choose_spec hx)
    · cases e
  · rw [if_neg q] at e; exact hT _ _ _ e
end
section
variable {cx : Cx} {mu : List Str} {sc : Scope} {ρ ρ' : Rho} {P : Fl → Prop}
theorem retIfL {t b o : Expr} {q p : Pos} {c : Bool} {d1 d0 : D} (h : tr cx t sc ρ.frz (ev cx t sc ρ.frz) = some c) (h1 : ev cx b sc ρ.frz = some (d1, .fre)) (h0 : ev cx o sc ρ.frz = some (d0, .fre)) : ex cx mu sc (.Return (some (.IfExp t b o q)) p) ρ = some (.ret (if c = true then d1 else d0) true) := by
  rw [xRetI, eIf, h, Option.bind_some]
  cases c with
  | true => rw [if_pos rfl, h1]; rfl
  | false => rw [if_neg Bool.false_ne_true, h0]; rfl
end
noncomputable def wayOf (r : Row) (a : Int) : List Int := if ([6, 22] : List Int).contains r.c = true then [] else if beyond r.c r.k = true then [] else if (r.c == 5) = true then [a + 1 + r.k] else if (!(r.c.fmod 8 == 5)) = true then [a + 1] else if (r.jt == r.jf) = true then [a + 1 + r.jt] else [a + 1 + r.jt, a + 1 + r.jf]

section
variable {F : Fct} (C : Closed F)
include C
theorem ways_ok {ts : List D} {a : Int} {r : Row} (hb : runT [] 3 "_law_is_beyond" [tD r] = some (.bool (beyond r.c r.k), false)) (hn : nth ts a = some (tD r)) : F 4 "_law_ways" [.list ts, .int a] (.list ((wayOf r a).map .int), true) := by
  refine enter C (by decide +kernel) fLawWaysL (just C 3) (by kernel_rfl) ?_
  generalize hρ : ([("rows", .list ts, .fro), ("at", .int a, .fro), ("code", .int r.c, .fro), ("jt", .int r.jt, .fro), ("jf", .int r.jf, .fro), ("k", .int r.k, .fro)] : Rho) = ρ
  refine wSeq (ρ' := ρ) ?_ ?_
  · rw [xAsgTS, if_pos (by kernel_rfl), subI rfl (x := (.list ts, .fro)) (y := (.int a, .fro)) (by kernel_rfl) (by kernel_rfl) hn]
    rw [← hρ]; kernel_rfl
  unfold wayOf
  by_cases h1 : ([6, 22] : List Int).contains r.c = true
  · rw [if_pos h1]
    refine wIf (c := true) ?_ (fun _ => ?_) tf
    · rw [tBo]
      refine orT (cmpI (x := (.int r.c, .fro)) (y := (.tup [.int 6, .int 22], .fro)) (by kernel_rfl) (by rw [← hρ]; kernel_rfl) (by kernel_rfl) (congrArg some h1))
    · exact wRet (d := .list []) (fr := true) (by kernel_rfl) rfl
  · rw [if_neg h1]
    refine wIf (c := beyond r.c r.k) ?_ (fun h2 => ?_) fun h2 => ?_
    · rw [tBo]
      refine orF (cmpI (x := (.int r.c, .fro)) (y := (.tup [.int 6, .int 22], .fro)) (by kernel_rfl) (by rw [← hρ]; kernel_rfl) (by kernel_rfl) (congrArg some (Bool.eq_false_iff.mpr h1))) ?_
      rw [tbCons, tF, callI (ds := [tD r]) (d := .bool (beyond r.c r.k)) (fr := false) (by kernel_rfl) (by kernel_rfl) (by rw [← hρ]; kernel_rfl) (by kernel_rfl) (by decide +kernel)
        (evsI (m := .fro) (by rw [subI rfl (x := (.list ts, .fro)) (y := (.int a, .fro)) (by rw [← hρ]; kernel_rfl) (by rw [← hρ]; kernel_rfl) hn]) (by simp) rfl) hb]
      cases beyond r.c r.k <;> kernel_rfl
    · rw [if_pos h2]; exact wRet (d := .list []) (fr := true) (by kernel_rfl) rfl
    · rw [if_neg (by rw [h2]; exact Bool.false_ne_true)]
      refine wIf (c := r.c == 5) (cmpI (x := (.int r.c, .fro)) (y := (.int 5, .fro)) (by kernel_rfl) (by rw [← hρ]; kernel_rfl) (by kernel_rfl) rfl) (fun h3 => ?_) fun h3 => ?_
      · rw [if_pos h3]; subst hρ; exact wRet (d := .list [.int (a + 1 + r.k)]) (fr := true) (by kernel_rfl) rfl
      · rw [if_neg (by rw [h3]; exact Bool.false_ne_true)]
        refine wIf (c := !(r.c.fmod 8 == 5)) (cmpI (x := (.int (r.c.fmod 8), .fro)) (y := (.int 5, .fro)) (by kernel_rfl) (by rw [← hρ]; kernel_rfl) (by kernel_rfl) rfl) (fun h4 => ?_) fun h4 => ?_
        · rw [if_pos h4]; subst hρ; exact wRet (d := .list [.int (a + 1)]) (fr := true) (by kernel_rfl) rfl
        · rw [if_neg (by rw [h4]; exact Bool.false_ne_true)]; subst hρ
          refine wRet (retIfL (c := r.jt == r.jf) (d1 := .list [.int (a + 1 + r.jt)]) (d0 := .list [.int (a + 1 + r.jt), .int (a + 1 + r.jf)]) (cmpI (x := (.int r.jt, .fro)) (y := (.int r.jf, .fro)) (by kernel_rfl) (by kernel_rfl) (by kernel_rfl) rfl) (by kernel_rfl) (by kernel_rfl)) ?_
          cases r.jt == r.jf <;> rfl
end
end Mine

set_option maxHeartbeats 2000000
namespace Mine
section
variable {cx : Cx} {mu : List Str} {sc : Scope} {ρ ρ' : Rho} {P : Fl → Prop}
theorem andI {e : Expr} {r : List Expr} {b1 b2 : Bool} (h1 : tr cx e sc ρ (ev cx e sc ρ) = some b1) (h2 : trB cx .And r sc ρ = some b2) : trB cx .And (e :: r) sc ρ = some (b1 && b2) := by
  rw [tbCons, h1, Option.bind_some]
  cases b1 with
  | true => rw [if_neg (by simp)]; exact h2
  | false => rfl
theorem eq_some (a b : Int) : cmp .Eq (.int a) (.int b) = some (a == b) := rfl
theorem gt_some (a b : Int) : cmp .Gt (.int a) (.int b) = some (decide (b < a)) := rfl
end
noncomputable def fLawParts : {fd : FD // theDefs[74]? = some (("_law_parts" : Str), fd)} := ⟨_, rfl⟩
theorem fLawPartsL : lkS "_law_parts" theDefs = some fLawParts.1 := by kernel_rfl
noncomputable def fRowsOf : {fd : FD // theDefs[61]? = some (("rows_of" : Str), fd)} := ⟨_, rfl⟩
theorem fRowsOfL : lkS "rows_of" theDefs = some fRowsOf.1 := by kernel_rfl
section
variable {F : Fct} (C : Closed F)
include C
theorem lgoals_ok (r : Row) (a : Int) : F 3 "_law_goals" [tD r, .int a] (.list ((gJ r a).map .int), true) := by
  refine enter C (by decide +kernel) fLawGoalsL (just C 2) (by kernel_rfl) ?_
  refine wSeq (ρ' := [("row", tD r, .fro), ("at", .int a, .fro), ("code", .int r.c, .fro), ("jt", .int r.jt, .fro), ("jf", .int r.jf, .fro), ("k", .int r.k, .fro)]) (by kernel_rfl) ?_
  refine wIf (c := r.c == 5) (cmpI (x := (.int r.c, .fro)) (y := (.int 5, .fro)) (by kernel_rfl) (by kernel_rfl) (by kernel_rfl) rfl) (fun h => ?_) fun h => ?_
  · refine wRet (retIfL (c := decide (0 < r.k)) (d1 := .list [.int (a + 1 + r.k)]) (d0 := .list []) (cmpI (x := (.int r.k, .fro)) (y := (.int 0, .fro)) (by kernel_rfl) (by kernel_rfl) (by kernel_rfl) rfl) (by kernel_rfl) (by kernel_rfl)) ?_
    have : r.c = 5 := eq_of_beq h
    by_cases hk : 0 < r.k <;> simp [gJ, this, hk, flVal]
  have h5 : r.c ≠ 5 := by simpa using h
  refine wIf (c := r.jt == r.jf) (cmpI (x := (.int r.jt, .fro)) (y := (.int r.jf, .fro)) (by kernel_rfl) (by kernel_rfl) (by kernel_rfl) rfl) (fun h => ?_) fun h => ?_
  · refine wRet (retIfL (c := decide (0 < r.jt)) (d1 := .list [.int (a + 1 + r.jt)]) (d0 := .list []) (cmpI (x := (.int r.jt, .fro)) (y := (.int 0, .fro)) (by kernel_rfl) (by kernel_rfl) (by kernel_rfl) rfl) (by kernel_rfl) (by kernel_rfl)) ?_
    have : r.jt = r.jf := eq_of_beq h
    by_cases hk : 0 < r.jf <;> simp [gJ, h5, this, hk, flVal]
  have hj : r.jt ≠ r.jf := by simpa using h
  refine wIf (c := r.jf == 0) (cmpI (x := (.int r.jf, .fro)) (y := (.int 0, .fro)) (by kernel_rfl) (by kernel_rfl) (by kernel_rfl) rfl) (fun h => ?_) fun h => ?_
  · have h0 : r.jf = 0 := eq_of_beq h
    have hj' : r.jt ≠ 0 := fun q => hj (q.trans h0.symm)
    exact wRet (d := .list [.int (a + 1 + r.jt)]) (fr := true) (by kernel_rfl) (by simp [gJ, h5, h0, hj', flVal])
  have h0 : r.jf ≠ 0 := by simpa using h
  refine wRet (retIfL (c := (r.jt == 0) && (!([69, 77] : List Int).contains r.c && true)) (d1 := .list [.int (a + 1 + r.jf)]) (d0 := .list [.int (a + 1 + r.jt), .int (a + 1 + r.jf)]) ?_ (by kernel_rfl) (by kernel_rfl)) ?_
  · rw [tBo]
    exact andI (cmpI (x := (.int r.jt, .fro)) (y := (.int 0, .fro)) (by kernel_rfl) (by kernel_rfl) (by kernel_rfl) rfl) (andI (cmpI (x := (.int r.c, .fro)) (y := (.tup [.int 69, .int 77], .fro)) (by kernel_rfl) (by kernel_rfl) (by kernel_rfl) rfl) rfl)
  · by_cases q : r.jt = 0
    · by_cases q2 : r.c = 69 ∨ r.c = 77
      · have hj' : ¬ (0 : Int) = r.jf := fun q => h0 q.symm
        rcases q2 with q2 | q2 <;> simp [gJ, hj', h0, q, q2, flVal]
      · have hj' : ¬ (0 : Int) = r.jf := fun q => h0 q.symm
        have q3 := not_or.mp q2
        simp [gJ, h5, hj', h0, q, q3.1, q3.2, flVal]
    · simp [gJ, h5, hj, h0, q, flVal]

omit C in
theorem gJ_shape (r : Row) (a : Int) : gJ r a = [] ∨ (∃ x, gJ r a = [x]) ∨ ∃ x y, gJ r a = [x, y] := by
  unfold gJ
  repeat' split
  all_goals simp
theorem lparts_jump {r : Row} (a : Int) (hc : r.c ∈ (5 :: cCj : List Int)) : F 4 "_law_parts" [tD r, .int a] (.tup [.int (gJ r a).length, .list (enumD 0 ((gJ r a).map .int))], false) := by
  have hg := lgoals_ok C r a
  generalize hgs : gJ r a = gs at hg
  have e1 : pick (fun es q => es = [tD r, .int a] ∧ q = (.list (gs.map .int), true)) [tD r, .int a] = some (.list (gs.map .int), true) := pick_uniq ⟨rfl, rfl⟩ fun _ h => h.2
  refine enter C (T := withS (fun es q => es = [tD r, .int a] ∧ q = (.list (gs.map .int), true)) "_law_goals" (runT [] 3)) (by decide +kernel) fLawPartsL (withS_just (by rintro es q ⟨rfl, rfl⟩; exact hg) (just C 3)) (by kernel_rfl) ?_
  refine wSeq (ρ' := [("row", tD r, .fro), ("at", .int a, .fro), ("code", .int r.c, .fro), ("k", .int r.k, .fro)]) (by kernel_rfl) ?_
  have h5 : (r.c.fmod 8 == 5) = true := by
    have : ∀ c ∈ (5 :: cCj : List Int), (c.fmod 8 == 5) = true := by decide
    exact this _ hc
  refine wIf (c := true) (cmpI (x := (.int (r.c.fmod 8), .fro)) (y := (.int 5, .fro)) (by kernel_rfl) (by kernel_rfl) (by kernel_rfl) (congrArg some h5)) (fun _ => ?_) tf
  refine wSeq (ρ' := [("row", tD r, .fro), ("at", .int a, .fro), ("code", .int r.c, .fro), ("k", .int r.k, .fro), ("goals", .list (gs.map .int), .fro)]) ?_ ?_
  · exact (asgI (m := .fre) (by kernel_rfl) (callI (fr := true) (d := .list (gs.map .int)) (ds := [tD r, .int a]) (by kernel_rfl) (by kernel_rfl) (by kernel_rfl) (by kernel_rfl) (by decide +kernel) (by kernel_rfl) ((withS_same (g := "_law_goals") (T := runT [] 3)).trans e1)) (by simp)).trans (by kernel_rfl)
  · rcases (hgs ▸ gJ_shape r a : gs = [] ∨ (∃ x, gs = [x]) ∨ ∃ x y, gs = [x, y]) with rfl | ⟨x, rfl⟩ | ⟨x, y, rfl⟩
    all_goals exact wRet (fr := false) (by kernel_rfl) rfl
end
end Mine

set_option maxHeartbeats 2000000
namespace Mine
noncomputable def RowsOk (W : List D) (gs : List Int) : Prop := ∃ ks, keysD W = some ks ∧ (∀ p ∈ ks, goodK p = true) ∧ ks.map (·.2) = gs
noncomputable def jpD (g : Int) : D := .obj 399 [("order", .obj 232 [("code", .int 5), ("dst", .int 0), ("src", .int 0), ("off", .int 0), ("imm", .int 0), ("more", .int 0)]), ("goal", .int g)]
noncomputable def byX (c : Int) : Bool := c == 29 || c == 45 || c == 61 || c == 77
noncomputable def brD (code c k g : Int) : D := .obj 399 [("order", .obj 232 [("code", .int code), ("dst", .int 7), ("src", .int (if byX c = true then 8 else 0)), ("off", .int 0), ("imm", .int (if byX c = true then 0 else sgn k)), ("more", .int 0)]), ("goal", .int g)]
noncomputable def nmC (c : Int) : Str := if (c == 21 || c == 29) = true then "eq" else if (c == 37 || c == 45) = true then "gt" else if (c == 53 || c == 61) = true then "ge" else "set"
noncomputable def opC (c : Int) : Int := (if (c == 21 || c == 29) = true then 86 else if (c == 37 || c == 45) = true then 182 else 166) + (if byX c = true then 8 else 0)
theorem goodK_big {c g : Int} (h : 0 ≤ g) (hc : (c == 5 || brs.contains c) = true) : goodK (c, g) = true := by
  have : (g == -1) = false := by simp; (first | lia | omega)
  unfold goodK
  simp only [this]
  exact hc
theorem rowsOk_one {d : D} {c g : Int} (hk : keysD [d] = some [(c, g)]) (h : goodK (c, g) = true) : RowsOk [d] [g] := ⟨_, hk, by simpa using h, rfl⟩
theorem rowsOk_nil : RowsOk [] [] := ⟨[], rfl, by simp, rfl⟩
set_option tactic.hygienic true in
theorem rowsOk_chk {o : Option (D × Bool)} {gs : List Int} (h : chk o gs = true) : ∃ W fr, o = some (.list W, fr) ∧ RowsOk W gs := by
  unfold chk at h
  split at h
  · rename_i W fr
    split at h
    · rename_i ks hk
      simp only [Bool.and_eq_true, List.all_eq_true, beq_iff_eq] at h
      exact ⟨W, fr, rfl, ks, hk, h.1, h.2⟩
    · cases h
  · cases h
noncomputable def jrD (c jt jf k a : Int) : List D := if (a + 1 + jt == a + 1 + jf) = true then (if decide (0 < jt) = true then [jpD (a + 1 + jt)] else []) else if (jf == 0) = true then [brD (c + 1) c k (a + 1 + jt)] else if ((jt == 0) && !([69, 77] : List Int).contains c) = true then [brD (opC c) c k (a + 1 + jf)] else [brD (c + 1) c k (a + 1 + jt), jpD (a + 1 + jf)]
section
variable {F : Fct} (C : Closed F)
include C
theorem tSg_ok : ∀ p ∈ tSg, OkF F 1 p.1 p.2 := by
  intro p hp es r e
  simp only [tSg, List.mem_singleton] at hp
  subst hp
  obtain ⟨w, rfl, rfl⟩ := sg2_inv e
  exact signed_ok C _
theorem justS (n : Nat) : Just F (1 + n) (runT tSg n) := runT_ok C (tSg_ok C) n
theorem rows_conk {r : Row} {k : Int} (hr : r ∈ conk k) (a : Int) : ∃ W fr, F 10 "rows_of" [oD r, .int a] (.list W, fr) ∧ RowsOk W (gOf r) := by
  obtain ⟨W, fr, e, h⟩ := rowsOk_chk (List.all_eq_true.mp (rows_conc a k) r hr)
  exact ⟨W, fr, justS C 9 _ _ _ e, h⟩
theorem jrows_ja {k a : Int} (h0 : 0 ≤ k) (ha : 0 ≤ a) : ∃ W fr, F 9 "jump_rows" [oD ⟨5, 0, 0, k⟩, .int a] (.list W, fr) ∧ RowsOk W (gJ ⟨5, 0, 0, k⟩ a) := by
  refine ⟨if decide (0 < k) = true then [jpD (a + 1 + k)] else [], true, ?_, ?_⟩
  · refine enter C (by decide +kernel) fJumpRowsL (justS C 7) (by kernel_rfl) ?_
    refine wSeq (ρ' := [("order", oD ⟨5, 0, 0, k⟩, .fro), ("at", .int a, .fro), ("name", .str "ja", .fro)]) (by kernel_rfl) ?_
    refine wIf (c := true) (by kernel_rfl) (fun _ => ?_) tf
    refine wRet (retIfL (c := decide (0 < k)) (d1 := .list [jpD (a + 1 + k)]) (d0 := .list []) (cmpI (x := (.int k, .fro)) (y := (.int 0, .fro)) (by kernel_rfl) (by kernel_rfl) (by kernel_rfl) rfl) (by kernel_rfl) (by kernel_rfl)) ?_
    cases decide (0 < k) <;> rfl
  · by_cases h : 0 < k
    · simp only [decide_eq_true h, if_true, gJ, if_pos h]
      exact rowsOk_one (c := 5) (by kernel_rfl) (goodK_big (by (first | lia | omega)) (by decide))
    · simp only [decide_eq_false h, gJ, if_neg h, if_true]
      exact rowsOk_nil
theorem jrows_21 (jt jf k a : Int) : F 9 "jump_rows" [oD ⟨21, jt, jf, k⟩, .int a] (.list (jrD 21 jt jf k a), true) := by
  refine enter C (by decide +kernel) fJumpRowsL (justS C 7) (by kernel_rfl) ?_
  refine wSeq (ρ' := [("order", oD ⟨21, jt, jf, k⟩, .fro), ("at", .int a, .fro), ("name", .str (nmC 21), .fro)]) (by kernel_rfl) ?_
  refine wIf (c := false) (by kernel_rfl) ff fun _ => ?_
  refine wSeq (ρ' := [("order", oD ⟨21, jt, jf, k⟩, .fro), ("at", .int a, .fro), ("name", .str (nmC 21), .fro), ("taken", .int (a + 1 + jt), .fro), ("other", .int (a + 1 + jf), .fro)]) (by kernel_rfl) ?_
  refine wIf (c := a + 1 + jt == a + 1 + jf) (cmpI (x := (.int (a + 1 + jt), .fro)) (y := (.int (a + 1 + jf), .fro)) (by kernel_rfl) (by kernel_rfl) (by kernel_rfl) rfl) (fun h => ?_) fun h => ?_
  · refine wRet (retIfL (c := decide (0 < jt)) (d1 := .list [jpD (a + 1 + jt)]) (d0 := .list []) (cmpI (x := (.int jt, .fro)) (y := (.int 0, .fro)) (by kernel_rfl) (by kernel_rfl) (by kernel_rfl) rfl) (by kernel_rfl) (by kernel_rfl)) ?_
    unfold jrD; rw [if_pos h]; cases decide (0 < jt) <;> rfl
  refine wIf (c := jf == 0) (cmpI (x := (.int jf, .fro)) (y := (.int 0, .fro)) (by kernel_rfl) (by kernel_rfl) (by kernel_rfl) rfl) (fun h2 => ?_) fun h2 => ?_
  · refine wRet (d := .list [brD 22 21 k (a + 1 + jt)]) (fr := true) (by kernel_rfl) ?_
    unfold jrD; rw [if_neg (by rw [h]; exact Bool.false_ne_true), if_pos h2]; rfl
  refine wIf (c := (jt == 0) && !([69, 77] : List Int).contains 21) ?_ (fun h3 => ?_) fun h3 => ?_
  · rw [tBo]
    exact andI (b2 := !([69, 77] : List Int).contains 21) (cmpI (x := (.int jt, .fro)) (y := (.int 0, .fro)) (by kernel_rfl) (by kernel_rfl) (by kernel_rfl) rfl) (by kernel_rfl)
  · refine wRet (d := .list [brD (opC 21) 21 k (a + 1 + jf)]) (fr := true) (by kernel_rfl) ?_
    unfold jrD; rw [if_neg (by rw [h]; exact Bool.false_ne_true), if_neg (by rw [h2]; exact Bool.false_ne_true), if_pos h3]; rfl
  · refine wRet (d := .list [brD 22 21 k (a + 1 + jt), jpD (a + 1 + jf)]) (fr := true) (by kernel_rfl) ?_
    unfold jrD; rw [if_neg (by rw [h]; exact Bool.false_ne_true), if_neg (by rw [h2]; exact Bool.false_ne_true), if_neg (by rw [h3]; exact Bool.false_ne_true)]; rfl
theorem jrows_37 (jt jf k a : Int) : F 9 "jump_rows" [oD ⟨37, jt, jf, k⟩, .int a] (.list (jrD 37 jt jf k a), true) := by
  refine enter C (by decide +kernel) fJumpRowsL (justS C 7) (by kernel_rfl) ?_
  refine wSeq (ρ' := [("order", oD ⟨37, jt, jf, k⟩, .fro), ("at", .int a, .fro), ("name", .str (nmC 37), .fro)]) (by kernel_rfl) ?_
  refine wIf (c := false) (by kernel_rfl) ff fun _ => ?_
  refine wSeq (ρ' := [("order", oD ⟨37, jt, jf, k⟩, .fro), ("at", .int a, .fro), ("name", .str (nmC 37), .fro), ("taken", .int (a + 1 + jt), .fro), ("other", .int (a + 1 + jf), .fro)]) (by kernel_rfl) ?_
  refine wIf (c := a + 1 + jt == a + 1 + jf) (cmpI (x := (.int (a + 1 + jt), .fro)) (y := (.int (a + 1 + jf), .fro)) (by kernel_rfl) (by kernel_rfl) (by kernel_rfl) rfl) (fun h => ?_) fun h => ?_
  · refine wRet (retIfL (c := decide (0 < jt)) (d1 := .list [jpD (a + 1 + jt)]) (d0 := .list []) (cmpI (x := (.int jt, .fro)) (y := (.int 0, .fro)) (by kernel_rfl) (by kernel_rfl) (by kernel_rfl) rfl) (by kernel_rfl) (by kernel_rfl)) ?_
    unfold jrD; rw [if_pos h]; cases decide (0 < jt) <;> rfl
  refine wIf (c := jf == 0) (cmpI (x := (.int jf, .fro)) (y := (.int 0, .fro)) (by kernel_rfl) (by kernel_rfl) (by kernel_rfl) rfl) (fun h2 => ?_) fun h2 => ?_
  · refine wRet (d := .list [brD 38 37 k (a + 1 + jt)]) (fr := true) (by kernel_rfl) ?_
    unfold jrD; rw [if_neg (by rw [h]; exact Bool.false_ne_true), if_pos h2]; rfl
  refine wIf (c := (jt == 0) && !([69, 77] : List Int).contains 37) ?_ (fun h3 => ?_) fun h3 => ?_
  · rw [tBo]
    exact andI (b2 := !([69, 77] : List Int).contains 37) (cmpI (x := (.int jt, .fro)) (y := (.int 0, .fro)) (by kernel_rfl) (by kernel_rfl) (by kernel_rfl) rfl) (by kernel_rfl)
  · refine wRet (d := .list [brD (opC 37) 37 k (a + 1 + jf)]) (fr := true) (by kernel_rfl) ?_
    unfold jrD; rw [if_neg (by rw [h]; exact Bool.false_ne_true), if_neg (by rw [h2]; exact Bool.false_ne_true), if_pos h3]; rfl
  · refine wRet (d := .list [brD 38 37 k (a + 1 + jt), jpD (a + 1 + jf)]) (fr := true) (by kernel_rfl) ?_
    unfold jrD; rw [if_neg (by rw [h]; exact Bool.false_ne_true), if_neg (by rw [h2]; exact Bool.false_ne_true), if_neg (by rw [h3]; exact Bool.false_ne_true)]; rfl
theorem jrows_53 (jt jf k a : Int) : F 9 "jump_rows" [oD ⟨53, jt, jf, k⟩, .int a] (.list (jrD 53 jt jf k a), true) := by
  refine enter C (by decide +kernel) fJumpRowsL (justS C 7) (by kernel_rfl) ?_
  refine wSeq (ρ' := [("order", oD ⟨53, jt, jf, k⟩, .fro), ("at", .int a, .fro), ("name", .str (nmC 53), .fro)]) (by kernel_rfl) ?_
  refine wIf (c := false) (by kernel_rfl) ff fun _ => ?_
  refine wSeq (ρ' := [("order", oD ⟨53, jt, jf, k⟩, .fro), ("at", .int a, .fro), ("name", .str (nmC 53), .fro), ("taken", .int (a + 1 + jt), .fro), ("other", .int (a + 1 + jf), .fro)]) (by kernel_rfl) ?_
  refine wIf (c := a + 1 + jt == a + 1 + jf) (cmpI (x := (.int (a + 1 + jt), .fro)) (y := (.int (a + 1 + jf), .fro)) (by kernel_rfl) (by kernel_rfl) (by kernel_rfl) rfl) (fun h => ?_) fun h => ?_
  · refine wRet (retIfL (c := decide (0 < jt)) (d1 := .list [jpD (a + 1 + jt)]) (d0 := .list []) (cmpI (x := (.int jt, .fro)) (y := (.int 0, .fro)) (by kernel_rfl) (by kernel_rfl) (by kernel_rfl) rfl) (by kernel_rfl) (by kernel_rfl)) ?_
    unfold jrD; rw [if_pos h]; cases decide (0 < jt) <;> rfl
  refine wIf (c := jf == 0) (cmpI (x := (.int jf, .fro)) (y := (.int 0, .fro)) (by kernel_rfl) (by kernel_rfl) (by kernel_rfl) rfl) (fun h2 => ?_) fun h2 => ?_
  · refine wRet (d := .list [brD 54 53 k (a + 1 + jt)]) (fr := true) (by kernel_rfl) ?_
    unfold jrD; rw [if_neg (by rw [h]; exact Bool.false_ne_true), if_pos h2]; rfl
  refine wIf (c := (jt == 0) && !([69, 77] : List Int).contains 53) ?_ (fun h3 => ?_) fun h3 => ?_
  · rw [tBo]
    exact andI (b2 := !([69, 77] : List Int).contains 53) (cmpI (x := (.int jt, .fro)) (y := (.int 0, .fro)) (by kernel_rfl) (by kernel_rfl) (by kernel_rfl) rfl) (by kernel_rfl)
  · refine wRet (d := .list [brD (opC 53) 53 k (a + 1 + jf)]) (fr := true) (by kernel_rfl) ?_
    unfold jrD; rw [if_neg (by rw [h]; exact Bool.false_ne_true), if_neg (by rw [h2]; exact Bool.false_ne_true), if_pos h3]; rfl
  · refine wRet (d := .list [brD 54 53 k (a + 1 + jt), jpD (a + 1 + jf)]) (fr := true) (by kernel_rfl) ?_
    unfold jrD; rw [if_neg (by rw [h]; exact Bool.false_ne_true), if_neg (by rw [h2]; exact Bool.false_ne_true), if_neg (by rw [h3]; exact Bool.false_ne_true)]; rfl
theorem jrows_69 (jt jf k a : Int) : F 9 "jump_rows" [oD ⟨69, jt, jf, k⟩, .int a] (.list (jrD 69 jt jf k a), true) := by
  refine enter C (by decide +kernel) fJumpRowsL (justS C 7) (by kernel_rfl) ?_
  refine wSeq (ρ' := [("order", oD ⟨69, jt, jf, k⟩, .fro), ("at", .int a, .fro), ("name", .str (nmC 69), .fro)]) (by kernel_rfl) ?_
  refine wIf (c := false) (by kernel_rfl) ff fun _ => ?_
  refine wSeq (ρ' := [("order", oD ⟨69, jt, jf, k⟩, .fro), ("at", .int a, .fro), ("name", .str (nmC 69), .fro), ("taken", .int (a + 1 + jt), .fro), ("other", .int (a + 1 + jf), .fro)]) (by kernel_rfl) ?_
  refine wIf (c := a + 1 + jt == a + 1 + jf) (cmpI (x := (.int (a + 1 + jt), .fro)) (y := (.int (a + 1 + jf), .fro)) (by kernel_rfl) (by kernel_rfl) (by kernel_rfl) rfl) (fun h => ?_) fun h => ?_
  · refine wRet (retIfL (c := decide (0 < jt)) (d1 := .list [jpD (a + 1 + jt)]) (d0 := .list []) (cmpI (x := (.int jt, .fro)) (y := (.int 0, .fro)) (by kernel_rfl) (by kernel_rfl) (by kernel_rfl) rfl) (by kernel_rfl) (by kernel_rfl)) ?_
    unfold jrD; rw [if_pos h]; cases decide (0 < jt) <;> rfl
  refine wIf (c := jf == 0) (cmpI (x := (.int jf, .fro)) (y := (.int 0, .fro)) (by kernel_rfl) (by kernel_rfl) (by kernel_rfl) rfl) (fun h2 => ?_) fun h2 => ?_
  · refine wRet (d := .list [brD 70 69 k (a + 1 + jt)]) (fr := true) (by kernel_rfl) ?_
    unfold jrD; rw [if_neg (by rw [h]; exact Bool.false_ne_true), if_pos h2]; rfl
  refine wIf (c := false) ?_ ff fun _ => ?_
  · rw [tBo]
    refine (andI (b2 := false) (cmpI (x := (.int jt, .fro)) (y := (.int 0, .fro)) (by kernel_rfl) (by kernel_rfl) (by kernel_rfl) rfl) (by kernel_rfl)).trans (by rw [Bool.and_false])
  · refine wRet (d := .list [brD 70 69 k (a + 1 + jt), jpD (a + 1 + jf)]) (fr := true) (by kernel_rfl) ?_
    unfold jrD; rw [if_neg (by rw [h]; exact Bool.false_ne_true), if_neg (by rw [h2]; exact Bool.false_ne_true), if_neg (by simp)]; rfl
theorem jrows_29 (jt jf k a : Int) : F 9 "jump_rows" [oD ⟨29, jt, jf, k⟩, .int a] (.list (jrD 29 jt jf k a), true) := by
  refine enter C (by decide +kernel) fJumpRowsL (justS C 7) (by kernel_rfl) ?_
  refine wSeq (ρ' := [("order", oD ⟨29, jt, jf, k⟩, .fro), ("at", .int a, .fro), ("name", .str (nmC 29), .fro)]) (by kernel_rfl) ?_
  refine wIf (c := false) (by kernel_rfl) ff fun _ => ?_
  refine wSeq (ρ' := [("order", oD ⟨29, jt, jf, k⟩, .fro), ("at", .int a, .fro), ("name", .str (nmC 29), .fro), ("taken", .int (a + 1 + jt), .fro), ("other", .int (a + 1 + jf), .fro)]) (by kernel_rfl) ?_
  refine wIf (c := a + 1 + jt == a + 1 + jf) (cmpI (x := (.int (a + 1 + jt), .fro)) (y := (.int (a + 1 + jf), .fro)) (by kernel_rfl) (by kernel_rfl) (by kernel_rfl) rfl) (fun h => ?_) fun h => ?_
  · refine wRet (retIfL (c := decide (0 < jt)) (d1 := .list [jpD (a + 1 + jt)]) (d0 := .list []) (cmpI (x := (.int jt, .fro)) (y := (.int 0, .fro)) (by kernel_rfl) (by kernel_rfl) (by kernel_rfl) rfl) (by kernel_rfl) (by kernel_rfl)) ?_
    unfold jrD; rw [if_pos h]; cases decide (0 < jt) <;> rfl
  refine wIf (c := jf == 0) (cmpI (x := (.int jf, .fro)) (y := (.int 0, .fro)) (by kernel_rfl) (by kernel_rfl) (by kernel_rfl) rfl) (fun h2 => ?_) fun h2 => ?_
  · refine wRet (d := .list [brD 30 29 k (a + 1 + jt)]) (fr := true) (by kernel_rfl) ?_
    unfold jrD; rw [if_neg (by rw [h]; exact Bool.false_ne_true), if_pos h2]; rfl
  refine wIf (c := (jt == 0) && !([69, 77] : List Int).contains 29) ?_ (fun h3 => ?_) fun h3 => ?_
  · rw [tBo]
    exact andI (b2 := !([69, 77] : List Int).contains 29) (cmpI (x := (.int jt, .fro)) (y := (.int 0, .fro)) (by kernel_rfl) (by kernel_rfl) (by kernel_rfl) rfl) (by kernel_rfl)
  · refine wRet (d := .list [brD (opC 29) 29 k (a + 1 + jf)]) (fr := true) (by kernel_rfl) ?_
    unfold jrD; rw [if_neg (by rw [h]; exact Bool.false_ne_true), if_neg (by rw [h2]; exact Bool.false_ne_true), if_pos h3]; rfl
  · refine wRet (d := .list [brD 30 29 k (a + 1 + jt), jpD (a + 1 + jf)]) (fr := true) (by kernel_rfl) ?_
    unfold jrD; rw [if_neg (by rw [h]; exact Bool.false_ne_true), if_neg (by rw [h2]; exact Bool.false_ne_true), if_neg (by rw [h3]; exact Bool.false_ne_true)]; rfl
theorem jrows_45 (jt jf k a : Int) : F 9 "jump_rows" [oD ⟨45, jt, jf, k⟩, .int a] (.list (jrD 45 jt jf k a), true) := by
  refine enter C (by decide +kernel) fJumpRowsL (justS C 7) (by kernel_rfl) ?_
  refine wSeq (ρ' := [("order", oD ⟨45, jt, jf, k⟩, .fro), ("at", .int a, .fro), ("name", .str (nmC 45), .fro)]) (by kernel_rfl) ?_
  refine wIf (c := false) (by kernel_rfl) ff fun _ => ?_
  refine wSeq (ρ' := [("order", oD ⟨45, jt, jf, k⟩, .fro), ("at", .int a, .fro), ("name", .str (nmC 45), .fro), ("taken", .int (a + 1 + jt), .fro), ("other", .int (a + 1 + jf), .fro)]) (by kernel_rfl) ?_
  refine wIf (c := a + 1 + jt == a + 1 + jf) (cmpI (x := (.int (a + 1 + jt), .fro)) (y := (.int (a + 1 + jf), .fro)) (by kernel_rfl) (by kernel_rfl) (by kernel_rfl) rfl) (fun h => ?_) fun h => ?_
  · refine wRet (retIfL (c := decide (0 < jt)) (d1 := .list [jpD (a + 1 + jt)]) (d0 := .list []) (cmpI (x := (.int jt, .fro)) (y := (.int 0, .fro)) (by kernel_rfl) (by kernel_rfl) (by kernel_rfl) rfl) (by kernel_rfl) (by kernel_rfl)) ?_
    unfold jrD; rw [if_pos h]; cases decide (0 < jt) <;> rfl
  refine wIf (c := jf == 0) (cmpI (x := (.int jf, .fro)) (y := (.int 0, .fro)) (by kernel_rfl) (by kernel_rfl) (by kernel_rfl) rfl) (fun h2 => ?_) fun h2 => ?_
  · refine wRet (d := .list [brD 46 45 k (a + 1 + jt)]) (fr := true) (by kernel_rfl) ?_
    unfold jrD; rw [if_neg (by rw [h]; exact Bool.false_ne_true), if_pos h2]; rfl
  refine wIf (c := (jt == 0) && !([69, 77] : List Int).contains 45) ?_ (fun h3 => ?_) fun h3 => ?_
  · rw [tBo]
    exact andI (b2 := !([69, 77] : List Int).contains 45) (cmpI (x := (.int jt, .fro)) (y := (.int 0, .fro)) (by kernel_rfl) (by kernel_rfl) (by kernel_rfl) rfl) (by kernel_rfl)
  · refine wRet (d := .list [brD (opC 45) 45 k (a + 1 + jf)]) (fr := true) (by kernel_rfl) ?_
    unfold jrD; rw [if_neg (by rw [h]; exact Bool.false_ne_true), if_neg (by rw [h2]; exact Bool.false_ne_true), if_pos h3]; rfl
  · refine wRet (d := .list [brD 46 45 k (a + 1 + jt), jpD (a + 1 + jf)]) (fr := true) (by kernel_rfl) ?_
    unfold jrD; rw [if_neg (by rw [h]; exact Bool.false_ne_true), if_neg (by rw [h2]; exact Bool.false_ne_true), if_neg (by rw [h3]; exact Bool.false_ne_true)]; rfl
theorem jrows_61 (jt jf k a : Int) : F 9 "jump_rows" [oD ⟨61, jt, jf, k⟩, .int a] (.list (jrD 61 jt jf k a), true) := by
  refine enter C (by decide +kernel) fJumpRowsL (justS C 7) (by kernel_rfl) ?_
  refine wSeq (ρ' := [("order", oD ⟨61, jt, jf, k⟩, .fro), ("at", .int a, .fro), ("name", .str (nmC 61), .fro)]) (by kernel_rfl) ?_
  refine wIf (c := false) (by kernel_rfl) ff fun _ => ?_
  refine wSeq (ρ' := [("order", oD ⟨61, jt, jf, k⟩, .fro), ("at", .int a, .fro), ("name", .str (nmC 61), .fro), ("taken", .int (a + 1 + jt), .fro), ("other", .int (a + 1 + jf), .fro)]) (by kernel_rfl) ?_
  refine wIf (c := a + 1 + jt == a + 1 + jf) (cmpI (x := (.int (a + 1 + jt), .fro)) (y := (.int (a + 1 + jf), .fro)) (by kernel_rfl) (by kernel_rfl) (by kernel_rfl) rfl) (fun h => ?_) fun h => ?_
  · refine wRet (retIfL (c := decide (0 < jt)) (d1 := .list [jpD (a + 1 + jt)]) (d0 := .list []) (cmpI (x := (.int jt, .fro)) (y := (.int 0, .fro)) (by kernel_rfl) (by kernel_rfl) (by kernel_rfl) rfl) (by kernel_rfl) (by kernel_rfl)) ?_
    unfold jrD; rw [if_pos h]; cases decide (0 < jt) <;> rfl
  refine wIf (c := jf == 0) (cmpI (x := (.int jf, .fro)) (y := (.int 0, .fro)) (by kernel_rfl) (by kernel_rfl) (by kernel_rfl) rfl) (fun h2 => ?_) fun h2 => ?_
  · refine wRet (d := .list [brD 62 61 k (a + 1 + jt)]) (fr := true) (by kernel_rfl) ?_
    unfold jrD; rw [if_neg (by rw [h]; exact Bool.false_ne_true), if_pos h2]; rfl
  refine wIf (c := (jt == 0) && !([69, 77] : List Int).contains 61) ?_ (fun h3 => ?_) fun h3 => ?_
  · rw [tBo]
    exact andI (b2 := !([69, 77] : List Int).contains 61) (cmpI (x := (.int jt, .fro)) (y := (.int 0, .fro)) (by kernel_rfl) (by kernel_rfl) (by kernel_rfl) rfl) (by kernel_rfl)
  · refine wRet (d := .list [brD (opC 61) 61 k (a + 1 + jf)]) (fr := true) (by kernel_rfl) ?_
    unfold jrD; rw [if_neg (by rw [h]; exact Bool.false_ne_true), if_neg (by rw [h2]; exact Bool.false_ne_true), if_pos h3]; rfl
  · refine wRet (d := .list [brD 62 61 k (a + 1 + jt), jpD (a + 1 + jf)]) (fr := true) (by kernel_rfl) ?_
    unfold jrD; rw [if_neg (by rw [h]; exact Bool.false_ne_true), if_neg (by rw [h2]; exact Bool.false_ne_true), if_neg (by rw [h3]; exact Bool.false_ne_true)]; rfl
theorem jrows_77 (jt jf k a : Int) : F 9 "jump_rows" [oD ⟨77, jt, jf, k⟩, .int a] (.list (jrD 77 jt jf k a), true) := by
  refine enter C (by decide +kernel) fJumpRowsL (justS C 7) (by kernel_rfl) ?_
  refine wSeq (ρ' := [("order", oD ⟨77, jt, jf, k⟩, .fro), ("at", .int a, .fro), ("name", .str (nmC 77), .fro)]) (by kernel_rfl) ?_
  refine wIf (c := false) (by kernel_rfl) ff fun _ => ?_
  refine wSeq (ρ' := [("order", oD ⟨77, jt, jf, k⟩, .fro), ("at", .int a, .fro), ("name", .str (nmC 77), .fro), ("taken", .int (a + 1 + jt), .fro), ("other", .int (a + 1 + jf), .fro)]) (by kernel_rfl) ?_
  refine wIf (c := a + 1 + jt == a + 1 + jf) (cmpI (x := (.int (a + 1 + jt), .fro)) (y := (.int (a + 1 + jf), .fro)) (by kernel_rfl) (by kernel_rfl) (by kernel_rfl) rfl) (fun h => ?_) fun h => ?_
  · refine wRet (retIfL (c := decide (0 < jt)) (d1 := .list [jpD (a + 1 + jt)]) (d0 := .list []) (cmpI (x := (.int jt, .fro)) (y := (.int 0, .fro)) (by kernel_rfl) (by kernel_rfl) (by kernel_rfl) rfl) (by kernel_rfl) (by kernel_rfl)) ?_
    unfold jrD; rw [if_pos h]; cases decide (0 < jt) <;> rfl
  refine wIf (c := jf == 0) (cmpI (x := (.int jf, .fro)) (y := (.int 0, .fro)) (by kernel_rfl) (by kernel_rfl) (by kernel_rfl) rfl) (fun h2 => ?_) fun h2 => ?_
  · refine wRet (d := .list [brD 78 77 k (a + 1 + jt)]) (fr := true) (by kernel_rfl) ?_
    unfold jrD; rw [if_neg (by rw [h]; exact Bool.false_ne_true), if_pos h2]; rfl
  refine wIf (c := false) ?_ ff fun _ => ?_
  · rw [tBo]
    refine (andI (b2 := false) (cmpI (x := (.int jt, .fro)) (y := (.int 0, .fro)) (by kernel_rfl) (by kernel_rfl) (by kernel_rfl) rfl) (by kernel_rfl)).trans (by rw [Bool.and_false])
  · refine wRet (d := .list [brD 78 77 k (a + 1 + jt), jpD (a + 1 + jf)]) (fr := true) (by kernel_rfl) ?_
    unfold jrD; rw [if_neg (by rw [h]; exact Bool.false_ne_true), if_neg (by rw [h2]; exact Bool.false_ne_true), if_neg (by simp)]; rfl

omit C in
theorem jrD_ok {c jt jf k a : Int} (hc : c ∈ cCj) (h0 : 0 ≤ jt) (h1 : 0 ≤ jf) (ha : 0 ≤ a) : RowsOk (jrD c jt jf k a) (gJ ⟨c, jt, jf, k⟩ a) := by
  have gj : 0 ≤ a + 1 + jt := by (first | lia | omega)
  have gf : 0 ≤ a + 1 + jf := by (first | lia | omega)
  have h5 : c ≠ 5 := by rintro rfl; exact absurd hc (by decide)
  have g1 : (c + 1 == 5 || brs.contains (c + 1)) = true := by
    have : ∀ c ∈ cCj, (c + 1 == 5 || brs.contains (c + 1)) = true := by decide
    exact this c hc
  have g2 : (opC c == 5 || brs.contains (opC c)) = true := by
    have : ∀ c ∈ cCj, (opC c == 5 || brs.contains (opC c)) = true := by decide
    exact this c hc
  unfold jrD gJ
  dsimp only
  rw [if_neg h5]
  by_cases e : jt = jf
  · subst e
    simp only [beq_self_eq_true, if_true]
    by_cases hp : 0 < jt
    · rw [if_pos (decide_eq_true hp), if_pos hp]
      exact rowsOk_one (c := 5) (by kernel_rfl) (goodK_big gj (by decide))
    · rw [if_neg (by simpa using hp), if_neg hp]; exact rowsOk_nil
  · have e' : ¬ (a + 1 + jt == a + 1 + jf) = true := by simp only [beq_iff_eq]; (first | lia | omega)
    rw [if_neg e', if_neg e]
    by_cases z : jf = 0
    · rw [if_pos (by simp [z]), if_pos z]
      exact rowsOk_one (c := c + 1) (by kernel_rfl) (goodK_big gj g1)
    · rw [if_neg (by simpa using z), if_neg z]
      by_cases q : jt = 0 ∧ ¬ (c = 69 ∨ c = 77)
      · rw [if_pos q, if_pos (by
          have := not_or.mp q.2
          simp [q.1, this.1, this.2])]
        exact rowsOk_one (c := opC c) (by kernel_rfl) (goodK_big gf g2)
      · rw [if_neg q, if_neg (by
          intro h
          simp only [Bool.and_eq_true, beq_iff_eq, Bool.not_eq_true', List.contains_cons, List.contains_nil, Bool.or_false, Bool.or_eq_false_iff, beq_eq_false_iff_ne] at h
          exact q ⟨h.1, fun x => x.elim h.2.1 h.2.2⟩)]
        refine ⟨[(c + 1, a + 1 + jt), (5, a + 1 + jf)], by kernel_rfl, ?_, rfl⟩
        intro p hp
        rcases List.mem_cons.mp hp with rfl | hp
        · exact goodK_big gj g1
        · rw [List.mem_singleton] at hp; subst hp; exact goodK_big gf (by decide)
theorem jrows_cj {c jt jf k a : Int} (hc : c ∈ cCj) (h0 : 0 ≤ jt) (h1 : 0 ≤ jf) (ha : 0 ≤ a) : ∃ W fr, F 9 "jump_rows" [oD ⟨c, jt, jf, k⟩, .int a] (.list W, fr) ∧ RowsOk W (gJ ⟨c, jt, jf, k⟩ a) := by
  refine ⟨jrD c jt jf k a, true, ?_, jrD_ok hc h0 h1 ha⟩
  simp only [cCj, List.mem_cons, List.not_mem_nil, or_false] at hc
  rcases hc with rfl | rfl | rfl | rfl | rfl | rfl | rfl | rfl
  · exact jrows_21 C jt jf k a
  · exact jrows_37 C jt jf k a
  · exact jrows_53 C jt jf k a
  · exact jrows_69 C jt jf k a
  · exact jrows_29 C jt jf k a
  · exact jrows_45 C jt jf k a
  · exact jrows_61 C jt jf k a
  · exact jrows_77 C jt jf k a
theorem rows_jump {r : Row} {a : Int} (hc : r.c ∈ (5 :: cCj : List Int)) {W : List D} {fr : Bool} (hj : F 9 "jump_rows" [oD r, .int a] (.list W, fr)) : F 10 "rows_of" [oD r, .int a] (.list W, fr) := by
  have e1 : pick (fun es q => es = [oD r, .int a] ∧ q = (.list W, fr)) [oD r, .int a] = some (.list W, fr) := pick_uniq ⟨rfl, rfl⟩ fun _ h => h.2
  refine enter C (T := withS (fun es q => es = [oD r, .int a] ∧ q = (.list W, fr)) "jump_rows" (runT [] 9)) (by decide +kernel) fRowsOfL (withS_just (by rintro es q ⟨rfl, rfl⟩; exact hj) (just C 9)) (by kernel_rfl) ?_
  have h5 : Builtin.bitAnd r.c 7 = 5 := by
    have : ∀ c ∈ (5 :: cCj : List Int), Builtin.bitAnd c 7 = 5 := by decide +kernel
    exact this _ hc
  refine wSeq (ρ' := [("order", oD r, .fro), ("at", .int a, .fro), ("group", .int 5, .fro)]) ?_ ?_
  · rw [← h5]; kernel_rfl
  iterate 5 refine wIf (c := false) (by kernel_rfl) ff fun _ => ?_
  refine wIf (c := true) (by kernel_rfl) (fun _ => ?_) tf
  refine wRet (d := .list W) (fr := fr) ?_ rfl
  rw [xRetF, callI (ds := [oD r, .int a]) (d := .list W) (fr := fr) (by kernel_rfl) (by kernel_rfl) (by kernel_rfl) (by kernel_rfl) (by decide +kernel) (by kernel_rfl) ((withS_same (g := "jump_rows") (T := runT [] 9)).trans e1)]
  cases fr <;> rfl
end
end Mine

set_option maxHeartbeats 2000000
namespace Mine
noncomputable def gAll (r : Row) (a : Int) : List Int := if jmpB r.c = true then gJ r a else gOf r
noncomputable def folOf (r : Row) (a : Int) : List Int := if jmpB r.c = true then folJ r a else wayB r a

inductive Kind (b : Int) (r : Row) : Prop
  | plain (hj : jmpB r.c = false) (k : Int) (hr : r ∈ conk k) (h0 : r.jt = 0) (h1 : r.jf = 0) (h2 : 0 ≤ r.k) (h3 : r.k ≤ 4294967295) (hn : r ∈ conc ∨ (r.c ∈ cDk ∧ 1 ≤ r.k ∧ r.k ≤ 31))
  | ja (hr : r = ⟨5, 0, 0, r.k⟩) (h0 : 0 ≤ r.k) (h1 : r.k < b)
  | cj (hc : r.c ∈ cCj) (h0 : 0 ≤ r.jt) (h1 : r.jt < b) (h2 : 0 ≤ r.jf) (h3 : r.jf < b) (h4 : 0 ≤ r.k) (h5 : r.k ≤ 4)
theorem conc_facts : ∀ r ∈ conc, jmpB r.c = false ∧ r.jt = 0 ∧ r.jf = 0 ∧ 0 ≤ r.k ∧ r.k ≤ 4294967295 := by
  have : (conc.all fun r => !jmpB r.c && r.jt == 0 && r.jf == 0 && decide (0 ≤ r.k) && decide (r.k ≤ 4294967295)) = true := by decide +kernel
  intro r hr
  have := List.all_eq_true.mp this r hr
  simpa [and_assoc] using this
set_option tactic.hygienic true in
theorem menu_kind {b : Int} {r : Row} (h : Menu b r) : Kind b r := by
  have cc : ∀ {r}, r ∈ conc → Kind b r := fun {r} hr => by
    obtain ⟨a1, a2, a3, a4, a5⟩ := conc_facts r hr
    exact .plain a1 0 (List.mem_append_left _ hr) a2 a3 a4 a5 (.inl hr)
  cases h with
  | ld hc hf => exact cc (by simp only [conc, List.mem_append, List.mem_flatMap, List.mem_map]; exact .inl (.inl (.inl (.inl ⟨_, hc, _, hf, rfl⟩))))
  | l0 hc hk => exact cc (by
      simp only [conc, List.mem_append, List.mem_flatMap, List.mem_map]; refine .inl (.inl (.inl (.inr ⟨_, hc, ?_⟩)))
      simp only [List.mem_cons, List.not_mem_nil, or_false] at hk ⊢
      rcases hk with rfl | rfl <;> simp)
  | dk hc h1 h2 =>
    rename_i c k
    have hj : jmpB c = false := by
      have : ∀ c ∈ cDk, jmpB c = false := by decide
      exact this c hc
    exact .plain hj k (List.mem_append_right _ (List.mem_map.mpr ⟨c, hc, rfl⟩)) rfl rfl (by dsimp only; (first | lia | omega)) (by dsimp only; (first | lia | omega)) (.inr ⟨hc, h1, h2⟩)
  | dx hc => exact cc (by simp only [conc, List.mem_append, List.mem_flatMap, List.mem_map]; exact .inl (.inl (.inr ⟨_, hc, rfl⟩)))
  | ja h0 h1 => exact .ja rfl h0 h1
  | cj hc h0 h1 h2 h3 h4 h5 => exact .cj hc h0 h1 h2 h3 h4 h5
  | ot hc hk => exact cc (by
      simp only [conc, List.mem_append, List.mem_flatMap, List.mem_map]; refine .inl (.inr ⟨_, hc, ?_⟩)
      simp only [List.mem_cons, List.not_mem_nil, or_false] at hk ⊢
      rcases hk with rfl | rfl <;> simp)
  | rt => exact cc (by simp [conc])
theorem cj_facts : ∀ c ∈ cCj, c ≠ 5 ∧ jmpB c = true ∧ ([6, 22] : List Int).contains c = false ∧ (c.fmod 8 == 5) = true ∧ (∀ k, beyond c k = false) := by
  intro c hc
  simp only [cCj, List.mem_cons, List.not_mem_nil, or_false] at hc
  rcases hc with rfl | rfl | rfl | rfl | rfl | rfl | rfl | rfl
  all_goals exact ⟨by decide, by decide, by decide, by decide, fun k => rfl⟩
theorem conk_ways {k : Int} {r : Row} (hr : r ∈ conk k) (a : Int) : wayOf r a = wayB r a := by
  have : (cAll.all fun c => (c == 5 || cCj.contains c) || (([6, 22] : List Int).contains c == retB c && !(c == 5) && !(c.fmod 8 == 5))) = true := by decide
  have h : ∀ r ∈ conk k, r.c ∈ cAll ∧ jmpB r.c = false := by
    intro r hr
    rcases List.mem_append.mp hr with hr | hr
    · refine ⟨?_, (conc_facts r hr).1⟩
      have : (conc.all fun r => cAll.contains r.c) = true := by decide +kernel
      simpa using List.all_eq_true.mp this r hr
    · obtain ⟨c, hc, rfl⟩ := List.mem_map.mp hr
      have : ∀ c ∈ cDk, c ∈ cAll ∧ jmpB c = false := by decide
      exact this c hc
  obtain ⟨h1, h2⟩ := h r hr
  have h3 := List.all_eq_true.mp this r.c h1
  unfold jmpB at h2
  rw [h2, Bool.false_or] at h3
  simp only [Bool.and_eq_true, beq_iff_eq, Bool.not_eq_true', beq_eq_false_iff_ne] at h3
  have e5 : (r.c == 5) = false := beq_eq_false_iff_ne.mpr h3.1.2
  have e6 : (r.c.fmod 8 == 5) = false := beq_eq_false_iff_ne.mpr h3.2
  unfold wayOf wayB
  rw [h3.1.1, e5, e6]
  cases retB r.c <;> cases beyond r.c r.k <;> rfl

section
variable {F : Fct} (C : Closed F)
include C
theorem Kind.rows {b : Int} {r : Row} (K : Kind b r) {a : Int} (ha : 0 ≤ a) : ∃ W fr, F 10 "rows_of" [oD r, .int a] (.list W, fr) ∧ RowsOk W (gAll r a) := by
  cases K with
  | plain hj k hr => unfold gAll; rw [hj]; exact rows_conk C hr a
  | ja hr h0 h1 =>
    rw [hr]; obtain ⟨W, fr, h, q⟩ := jrows_ja C h0 ha
    exact ⟨W, fr, rows_jump C (by simp) h, q⟩
  | cj hc h0 h1 h2 h3 h4 h5 =>
    obtain ⟨W, fr, h, q⟩ := jrows_cj C (k := r.k) hc h0 h2 ha
    exact ⟨W, fr, rows_jump C (List.mem_cons_of_mem _ hc) h, by unfold gAll; rw [(cj_facts _ hc).2.1]; exact q⟩
theorem Kind.follows {b : Int} {r : Row} (K : Kind b r) {a : Int} {os : List D} (hn : nth os a = some (oD r)) : F 6 "follows" [.list os, .int a] (.list ((folOf r a).map .int), true) := by
  cases K with
  | plain hj k hr => unfold folOf; rw [hj]; exact follows_conk C hr hn
  | ja hr h0 h1 => rw [hr]; rw [hr] at hn; exact follows_jump C (.inl rfl) hn
  | cj hc => unfold folOf; rw [(cj_facts _ hc).2.1]; exact follows_jump C (.inr hc) hn
theorem Kind.ways {b : Int} {r : Row} (K : Kind b r) {a : Int} {ts : List D} (hn : nth ts a = some (tD r)) : F 4 "_law_ways" [.list ts, .int a] (.list ((wayOf r a).map .int), true) := by
  refine ways_ok C ?_ hn
  cases K with
  | plain hj k hr => exact map_mem (beyond_conc k) hr
  | ja hr h0 h1 => rw [hr]; exact map_mem (beyond_jump 0 0 r.k) (List.mem_cons_self ..)
  | cj hc => rw [(cj_facts _ hc).2.2.2.2]; exact map_mem (beyond_jump r.jt r.jf r.k) (List.mem_cons_of_mem _ hc)
theorem Kind.goals {b : Int} {r : Row} (K : Kind b r) (hj : jmpB r.c = true) {a : Int} {os : List D} (hn : nth os a = some (oD r)) : F 6 "goals_of_classic" [.list os, .int a] (.list ((wayJ r a).map .int), true) := by
  cases K with
  | plain hj' => rw [hj] at hj'; cases hj'
  | ja hr h0 h1 => rw [hr]; rw [hr] at hn; exact goals_jump C (.inl rfl) hn
  | cj hc => exact goals_jump C (.inr hc) hn
omit C in
theorem gJ_pos {r : Row} {a : Int} (h0 : 0 ≤ r.jt) (h1 : 0 ≤ r.jf) (h2 : 0 ≤ r.k) (ha : 0 ≤ a) : ∀ g ∈ gJ r a, 0 < g := by
  unfold gJ
  intro g hg
  split at hg
  · split at hg
    · rw [List.mem_singleton] at hg; (first | lia | omega)
    · cases hg
  · split at hg
    · split at hg
      · rw [List.mem_singleton] at hg; (first | lia | omega)
      · cases hg
    · split at hg
      · rw [List.mem_singleton] at hg; (first | lia | omega)
      · split at hg
        · rw [List.mem_singleton] at hg; (first | lia | omega)
        · simp only [List.mem_cons, List.not_mem_nil, or_false] at hg; (first | lia | omega)
omit C in
theorem parts_pos : ∀ (gs : List Int) (i : Nat), (∀ g ∈ gs, 0 < g) → enumD i (gs.map .int) = partsFrom i gs
  | [], _, _ => rfl
  | g :: gs, i, h => by
    have hg := h g (List.mem_cons_self ..)
    rw [List.map_cons, enumD, partsFrom, if_neg (by (first | lia | omega)), if_neg (by (first | lia | omega)), parts_pos gs (i + 1) fun g hg => h g (List.mem_cons_of_mem _ hg)]
    rfl
theorem Kind.parts {b : Int} {r : Row} (K : Kind b r) {a : Int} (ha : 0 ≤ a) : F 4 "_law_parts" [tD r, .int a] (.tup [.int (gAll r a).length, .list (partsFrom 0 (gAll r a))], false) := by
  cases K with
  | plain hj k hr => unfold gAll; rw [hj]; exact just C 4 _ _ _ (map_mem (parts_conc a k) hr)
  | ja hr h0 h1 =>
    have := lparts_jump C (r := r) a (by rw [hr]; simp)
    unfold gAll
    rw [show jmpB r.c = true by rw [hr]; rfl]
    have e := parts_pos (gJ r a) 0 (gJ_pos (by rw [hr]; exact Int.le_refl 0) (by rw [hr]; exact Int.le_refl 0) h0 ha)
    rw [e] at this
    exact this
  | cj hc h0 h1 h2 h3 h4 h5 =>
    have := lparts_jump C (r := r) a (List.mem_cons_of_mem _ hc)
    unfold gAll
    rw [(cj_facts _ hc).2.1]
    have e := parts_pos (gJ r a) 0 (gJ_pos h0 h2 h4 ha)
    rw [e] at this
    exact this
theorem Kind.known {b : Int} {r : Row} (K : Kind b r) (hb : b ≤ 256) (hm : r.c ∈ cAll) (a : Int) : F 4 "check_known" [oD r, .int a] (.none, false) := by
  cases K with
  | plain hj k hr h0 h1 h2 h3 hn => exact check_known_ok C hm (by (first | lia | omega)) (by (first | lia | omega)) (by (first | lia | omega)) (by (first | lia | omega)) h2 h3 a
  | ja hr h0 h1 => refine check_known_ok C hm ?_ ?_ ?_ ?_ h0 (by (first | lia | omega)) a <;> (rw [hr]; dsimp only; (first | lia | omega))
  | cj hc h0 h1 h2 h3 h4 h5 => exact check_known_ok C hm h0 (by (first | lia | omega)) h2 (by (first | lia | omega)) h4 (by (first | lia | omega)) a
theorem Kind.number {b : Int} {r : Row} (K : Kind b r) (a : Int) : F 5 "check_number" [oD r, .int a] (.none, false) := by
  refine just C 5 _ _ _ ?_
  cases K with
  | plain hj k hr h0 h1 h2 h3 hn =>
    rcases hn with hn | ⟨hc, k1, k2⟩
    · exact map_mem (number_conc a) hn
    · have := map_mem (map_mem (number_deed a) hc) (x := (r.k - 1).toNat) (List.mem_range.mpr (by (first | lia | omega)))
      have e : ((r.k - 1).toNat : Int) + 1 = r.k := by (first | lia | omega)
      rw [e] at this
      obtain ⟨c, jt, jf, k⟩ := r
      dsimp only at h0 h1
      subst h0; subst h1
      exact this
  | ja hr h0 h1 => rw [hr]; exact map_mem (number_jump 0 0 r.k a) (List.mem_cons_self ..)
  | cj hc h0 h1 h2 h3 h4 h5 => exact map_mem (number_jump r.jt r.jf r.k a) (List.mem_cons_of_mem _ hc)
theorem isJump {r : Row} (hm : r.c ∈ cAll) : F 3 "is_jump_order" [oD r] (.bool (jmpB r.c), false) := just C 3 _ _ _ (map_mem (jump_all r.jt r.jf r.k) hm)
theorem isRet {r : Row} (hm : r.c ∈ cAll) : F 3 "is_return" [oD r] (.bool (retB r.c), false) := just C 3 _ _ _ (map_mem (ret_all r.jt r.jf r.k) hm)
theorem readCell {r : Row} (hm : r.c ∈ cAll) : F 4 "read_cell" [oD r] (.int (rcOf r.c r.k), false) := just C 4 _ _ _ (map_mem (read_all r.jt r.jf r.k) hm)
theorem writtenCell {r : Row} (hm : r.c ∈ cAll) : F 4 "written_cell" [oD r] (.int (wcOf r.c r.k), false) := just C 4 _ _ _ (map_mem (written_all r.jt r.jf r.k) hm)
end
end Mine

set_option maxHeartbeats 2000000
namespace Mine
section
variable {cx : Cx} {mu : List Str} {sc : Scope} {ρ ρ' : Rho} {P : Fl → Prop}
theorem iter_list (t : Expr) {ds : List D} (hn : ds.length ≤ 100000) : iterItems t (.list ds) = some ds := by
  show (if _ then _ else _) = _
  rw [if_pos hn]
theorem forRange {x : Str} {xp rp q p : Pos} {e : Expr} {body : List Stmt} {n : Nat} (hv : namesVar sc (.Name x xp) = true) (hne : isEnum "range" sc ρ = false) (hg : (ρ.get "range").isNone = true) (hk : sc.names.lookup ("range" : Str) = some .globalImplicit) (he : evs cx [e] sc ρ = some [.int n]) (hr : cx.fn "range" [.int n] = some (.rng 0 n, false)) (hn : n < 100000) :
    ex cx mu sc (.For (.Name x xp) (.Call (.Name "range" rp) [e] [] q) body [] p) ρ = forGo (fun d ρ => exs cx mu sc body (ρ.set x (d, .fro))) ((List.range n).map fun (i : Nat) => D.int i) ρ := by
  rw [xForC, if_pos hv, if_neg (by rw [hne]; simp), callD, if_pos ⟨Option.isNone_iff_eq_none.mp hg, hk, by decide +kernel⟩, he, Option.bind_some, hr]
  have e : iterItems (.Name x xp) (.rng 0 n) = some ((List.range n).map fun (i : Nat) => D.int i) := by
    have : ∀ t, iterItems t (.rng 0 n) = if (0 : Int) = 0 ∧ -100000 < (n : Int) ∧ (n : Int) < 100000 then some ((List.range ((n : Int)).toNat).map fun (i : Nat) => D.int i) else none := fun _ => rfl
    rw [this, if_pos ⟨rfl, by (first | lia | omega), by (first | lia | omega)⟩, Int.toNat_natCast]
  rw [Option.map_some, Option.bind_some, if_neg (by simp)]
  show (iterItems _ (.rng 0 n)).bind _ = _
  rw [e, Option.bind_some]; rfl
theorem forCall2 {x g : Str} {xp gp q p : Pos} {e1 e2 : Expr} {body : List Stmt} {ds : List D} (hv : namesVar sc (.Name x xp) = true) (he : ev cx (.Call (.Name g gp) [e1, e2] [] q) sc ρ = some (.list ds, .fre)) (hn : ds.length ≤ 100000) :
    ex cx mu sc (.For (.Name x xp) (.Call (.Name g gp) [e1, e2] [] q) body [] p) ρ = forGo (fun d ρ => exs cx mu sc body (ρ.set x (d, .fro))) ds ρ := by
  rw [xForF2 (f := e1), if_pos hv, if_pos (show iterOk (.Call (.Name g gp) [e1, e2] [] q) = true from rfl), he, Option.bind_some, if_neg (by simp)]
  show (iterItems (.Name x xp) (.list ds)).bind _ = _
  rw [iter_list _ hn, Option.bind_some]; rfl
theorem wFor {s : Stmt} {r : List Stmt} {f : D → Rho → Option Fl} {ds : List D} (h : ex cx mu sc s ρ = forGo f ds ρ) (I : Nat → Rho → Prop) (h0 : I 0 ρ) (hs : ∀ i d ρ, ds[i]? = some d → I i ρ → ∃ fl, f d ρ = some fl ∧ ∃ ρ', fl = .nxt ρ' ∧ I (i + 1) ρ') (hk : ∀ ρ', I ds.length ρ' → Wx cx mu sc r ρ' P) : Wx cx mu sc (s :: r) ρ P := by
  obtain ⟨ρ', e, hI⟩ := forGo_inv I ds 0 ρ h0 fun i d ρ e q => by
    rw [Nat.zero_add] at q ⊢
    obtain ⟨fl, e1, ρ', rfl, h⟩ := hs i d ρ e q
    exact ⟨ρ', e1, h⟩
  rw [Nat.zero_add] at hI
  exact wSeq (h.trans e) (hk ρ' hI)
theorem storeI {x : Str} {px q p : Pos} {i v : Expr} {d d' vd : D} {j : D × Mode} {m : Mode} (hc : compExpr v = false) (hx : x ≠ ("__debug__" : Str)) (hg : ρ.get x = some (d, .bor)) (hv : ev cx v sc ρ = some (vd, m)) (hm : m ≠ .bor) (hi : ev cx i sc ρ = some j) (hp : putItem d j.1 vd = some d') :
    ex cx mu sc (.Assign [.Subscript (.Name x px) i q] v p) ρ = some (.nxt (ρ.set x (d', .bor))) := by
  rw [xSt, if_pos ⟨hc, hx⟩, hv, Option.bind_some, hg]
  dsimp only
  rw [if_neg hm, hi, Option.bind_some, hp]; rfl
theorem appI {x : Str} {px ap pos p : Pos} {e : Expr} {ds : List D} {vd : D} {m : Mode} (hf : few [e] = true) (hl : lineOk ap pos = true) (hx : x ≠ ("__debug__" : Str)) (hg : ρ.get x = some (.list ds, .bor)) (he : ev cx e sc ρ = some (vd, m)) (hm : m ≠ .bor) (hn : ds.length ≤ 100000) :
    ex cx mu sc (.Expr (.Call (.Attribute (.Name x px) "append" ap) [e] [] pos) p) ρ = some (.nxt (ρ.set x (.list (ds ++ [vd]), .bor))) := by
  rw [xApp, if_pos ⟨rfl, hf, hl, hx⟩, hg]
  dsimp only
  rw [he, Option.bind_some, if_neg hm]
  show (appItem _ _).map _ = _
  rw [appItem, if_pos hn]; rfl
theorem methI {o : Expr} {nm : Str} {args : List Expr} {ap p : Pos} {a r : D × Mode} {ds : List D} (h1 : (few args && baseOk o && lineOk ap p) = true) (ho : ev cx o sc ρ = some a) (ha : evs cx args sc ρ = some ds) (h : meth nm a.1 a.2 ds = some r) : ev cx (.Call (.Attribute o nm ap) args [] p) sc ρ = some r := by
  simp only [Bool.and_eq_true] at h1
  rw [eMeth, if_pos ⟨h1.1.1, h1.1.2, h1.2⟩, ho, Option.bind_some, ha, Option.bind_some, h]
end
theorem len_run (xs : List D) : runT [] 6 "len" [.list xs] = if xs.length ≤ 1000000 then some (.int xs.length, false) else none := by kernel_rfl
theorem range_run (n : Int) : runT [] 6 "range" [.int n] = some (.rng 0 n, false) := by kernel_rfl
theorem nth_of {ds : List D} {i : Nat} {d : D} (h : ds[i]? = some d) (hi : i < 1000000) : nth ds (i : Int) = some d := by
  unfold nth
  rw [if_pos (by (first | lia | omega)), if_pos (by (first | lia | omega))]
  simpa using h

structure Rows (R : List Row) : Prop where
  l4 : 4 ≤ R.length
  l10 : R.length ≤ 10
  kind : ∀ (a : Nat) (r : Row), R[a]? = some r → Kind ((R.length : Int) - 1 - a) r
  all : ∀ (a : Nat) (r : Row), R[a]? = some r → r.c ∈ cAll
  s0 : R[0]? = some ⟨2, 0, 0, 0⟩
  s1 : R[1]? = some ⟨2, 0, 0, 1⟩
  last : R[R.length - 1]? = some ⟨6, 0, 0, 3⟩
  cells : ∀ (a : Nat) (r : Row), R[a]? = some r → (rcOf r.c r.k = -1 ∨ rcOf r.c r.k = 0 ∨ rcOf r.c r.k = 1) ∧ (wcOf r.c r.k = -1 ∨ wcOf r.c r.k = 0 ∨ wcOf r.c r.k = 1)

noncomputable def setT (t : List Bool) (gs : List Int) : List Bool := gs.foldl (fun t g => t.set g.toNat true) t
noncomputable def stepT (R : List Row) (t : List Bool) (i : Nat) : List Bool := match R[i]? with
  | some r => if t.getD i false = true then setT t (folOf r i) else t
  | none => t
noncomputable def reachN (R : List Row) (i : Nat) : List Bool := (List.range i).foldl (stepT R) ((List.replicate R.length false).set 0 true)
theorem setT_len : ∀ (gs : List Int) (t : List Bool), (setT t gs).length = t.length
  | [], t => rfl
  | g :: gs, t => by unfold setT; rw [List.foldl_cons]; exact (setT_len gs _).trans (List.length_set ..)
theorem reachN_succ (R : List Row) (i : Nat) : reachN R (i + 1) = stepT R (reachN R i) i := by
  unfold reachN; rw [List.range_succ, List.foldl_append]; rfl
theorem stepT_len (R : List Row) (t : List Bool) (i : Nat) : (stepT R t i).length = t.length := by
  unfold stepT
  split
  · split
    · exact setT_len _ _
    · rfl
  · rfl
theorem reachN_len (R : List Row) : ∀ i, (reachN R i).length = R.length
  | 0 => by simp [reachN]
  | i + 1 => by rw [reachN_succ, stepT_len, reachN_len R i]
set_option tactic.hygienic true in
theorem fol_in {R : List Row} (H : Rows R) {a : Nat} {r : Row} (h : R[a]? = some r) : ∀ g ∈ folOf r a, (a : Int) < g ∧ g < R.length := by
  have ha : a < R.length := (List.getElem?_eq_some_iff.mp h).1
  intro g hg
  have K := H.kind a r h
  unfold folOf at hg
  cases K with
  | plain hj k hr =>
    rw [hj, if_neg Bool.false_ne_true] at hg
    unfold wayB at hg
    split at hg
    · cases hg
    · rw [List.mem_singleton] at hg
      subst hg
      rename_i hb
      refine ⟨by (first | lia | omega), ?_⟩
      -- the last row returns
      have : a ≠ R.length - 1 := by
        intro q
        rw [q, H.last] at h
        cases h
        exact hb (by decide)
      (first | lia | omega)
  | ja hr h0 h1 =>
    rw [hr] at hg
    simp only [show jmpB (5 : Int) = true from rfl, if_true, folJ, List.mem_singleton] at hg
    (first | lia | omega)
  | cj hc h0 h1 h2 h3 h4 h5 =>
    have := cj_facts _ hc
    simp only [this.2.1, if_true, folJ, if_neg this.1, List.mem_cons, List.not_mem_nil, or_false] at hg
    (first | lia | omega)
end Mine

set_option maxHeartbeats 2000000
namespace Mine
noncomputable def fReachedFilters : {fd : FD // theDefs[44]? = some (("reached_filters" : Str), fd)} := ⟨_, rfl⟩
theorem fReachedFiltersL : lkS "reached_filters" theDefs = some fReachedFilters.1 := by kernel_rfl
noncomputable def bD (t : List Bool) : List D := t.map .bool
theorem bD_len (t : List Bool) : (bD t).length = t.length := List.length_map ..
theorem nth_bool {t : List Bool} {i : Nat} (h : i < t.length) (h2 : t.length ≤ 1000) : nth (bD t) (i : Int) = some (.bool (t.getD i false)) := by
  refine nth_of ?_ (by (first | lia | omega))
  unfold bD
  rw [List.getElem?_map, List.getElem?_eq_getElem h, List.getD_eq_getElem?_getD, List.getElem?_eq_getElem h]; rfl
theorem put_list {ds : List D} {g : Int} {v : D} (h0 : 0 ≤ g) (h1 : g < ds.length) (h2 : ds.length ≤ 1000) : putItem (.list ds) (.int g) v = some (.list (ds.set g.toNat v)) := by
  show (if _ then _ else _) = _
  rw [if_pos ⟨h0, by (first | lia | omega), by (first | lia | omega)⟩]
theorem at_os {R : List Row} {a : Nat} {r : Row} (h : R[a]? = some r) (h2 : R.length ≤ 10) : nth (R.map oD) (a : Int) = some (oD r) := by
  have := (List.getElem?_eq_some_iff.mp h).1
  exact nth_of (by rw [List.getElem?_map, h]; rfl) (by (first | lia | omega))
theorem at_ts {R : List Row} {a : Nat} {r : Row} (h : R[a]? = some r) (h2 : R.length ≤ 10) : nth (R.map tD) (a : Int) = some (tD r) := by
  have := (List.getElem?_eq_some_iff.mp h).1
  exact nth_of (by rw [List.getElem?_map, h]; rfl) (by (first | lia | omega))
noncomputable def Tl1 (x : Str) (τ : Rho) : Prop := τ = [] ∨ ∃ w, τ = [(x, w)]
noncomputable def Tl2 (x y : Str) (τ : Rho) : Prop := τ = [] ∨ (∃ v, τ = [(x, v)]) ∨ ∃ v w, τ = [(x, v), (y, w)]
theorem Tl1.set {x : Str} {τ : Rho} (h : Tl1 x τ) (v : D × Mode) : Rho.set x v τ = [(x, v)] := by
  rcases h with rfl | ⟨w, rfl⟩
  · rfl
  · unfold Rho.set; rw [if_pos rfl]
theorem Tl2.set {x y : Str} {τ : Rho} (h : Tl2 x y τ) (v : D × Mode) : ∃ σ, Tl1 y σ ∧ Rho.set x v τ = (x, v) :: σ := by
  rcases h with rfl | ⟨w, rfl⟩ | ⟨w, u, rfl⟩
  · exact ⟨[], .inl rfl, rfl⟩
  · exact ⟨[], .inl rfl, by unfold Rho.set; rw [if_pos rfl]⟩
  · exact ⟨[(y, u)], .inr ⟨u, rfl⟩, by unfold Rho.set; rw [if_pos rfl]⟩
theorem Tl1.cons {x y : Str} {σ : Rho} (h : Tl1 y σ) (v : D × Mode) : Tl2 x y ((x, v) :: σ) := by
  rcases h with rfl | ⟨w, rfl⟩
  · exact .inr (.inl ⟨_, rfl⟩)
  · exact .inr (.inr ⟨_, _, rfl⟩)
section
variable {F : Fct} (C : Closed F)
include C
noncomputable def rho_rf (R : List Row) (t : List Bool) (τ : Rho) : Rho := ("orders", .list (R.map oD), .fro) :: ("found", .list (bD t), .bor) :: τ
theorem reached_ok {R : List Row} (H : Rows R) : F 7 "reached_filters" [.list (R.map oD)] (.list (bD (reachN R R.length)), true) := by
  have h10 := H.l10
  have h4 := H.l4
  have hol : (R.map oD).length = R.length := List.length_map ..
  let S : List D → D × Bool → Prop := fun es q => ∃ (a : Nat) (r : Row), R[a]? = some r ∧ es = [.list (R.map oD), .int a] ∧ q = (.list ((folOf r a).map .int), true)
  have hS : ∀ {a : Nat} {r : Row}, R[a]? = some r → pick S [.list (R.map oD), .int a] = some (.list ((folOf r a).map .int), true) := fun {a r} h => pick_uniq ⟨a, r, h, rfl, rfl⟩ fun q ⟨a', r', h', e, eq⟩ => by
    simp only [List.cons.injEq, D.int.injEq, Int.natCast_inj, and_true, true_and] at e
    subst e
    rw [h] at h'; cases h'; exact eq
  refine enter C (T := withS S "follows" (runT [] 6)) (by decide +kernel) fReachedFiltersL (withS_just (by rintro es q ⟨a, r, h, rfl, rfl⟩; exact (H.kind a r h).follows C (at_os h h10)) (just C 6)) (by kernel_rfl) ?_
  have hlen : withS S "follows" (runT [] 6) "len" [.list (R.map oD)] = some (.int (R.length : Nat), false) := by
    have : withS S "follows" (runT [] 6) "len" [.list (R.map oD)] = if (R.map oD).length ≤ 1000000 then some (.int (R.map oD).length, false) else none := by kernel_rfl
    rw [this, if_pos (by (first | lia | omega)), hol]
  refine wSeq (ρ' := rho_rf R (List.replicate R.length false) []) ?_ ?_
  · rw [asgI (d := .list (bD (List.replicate R.length false))) (m := .fre) (by kernel_rfl) (binI (x := (.list [.bool false], .fre)) (y := (.int R.length, .fro)) (by kernel_rfl) (callI (ds := [.list (R.map oD)]) (d := .int R.length) (fr := false) (by kernel_rfl) (by kernel_rfl) (by kernel_rfl) (by kernel_rfl) (by decide +kernel) (by kernel_rfl) hlen) ?_) (by simp)]
    · kernel_rfl
    · show (if _ then some (D.list (List.replicate _ _).flatten, Mode.fre) else none) = _
      rw [if_pos ⟨by (first | lia | omega), by (first | lia | omega), by decide⟩]
      have : ∀ k, (List.replicate k [D.bool false]).flatten = bD (List.replicate k false) := by
        intro k; induction k with
        | zero => rfl
        | succ k ih => rw [List.replicate_succ, List.flatten_cons, ih]; rfl
      rw [this]; rfl
  refine wSeq (ρ' := rho_rf R (reachN R 0) []) ?_ ?_
  · rw [storeI (d := .list (bD (List.replicate R.length false))) (d' := .list (bD (reachN R 0))) (vd := .bool true) (j := (.int 0, .fro)) (m := .fro) (by kernel_rfl) (by decide +kernel) (by kernel_rfl) (by kernel_rfl) (by simp) (by kernel_rfl) ?_]
    · kernel_rfl
    · rw [put_list (by (first | lia | omega)) (by simp [bD_len]; (first | lia | omega)) (by simp [bD_len]; (first | lia | omega))]
      simp [bD, reachN, List.map_set]
  refine wFor (forRange (n := R.length) (by kernel_rfl) (by kernel_rfl) (by kernel_rfl) (by kernel_rfl) (evsI (m := .fro) (callI (ds := [.list (R.map oD)]) (d := .int R.length) (fr := false) (by kernel_rfl) (by kernel_rfl) (by kernel_rfl) (by kernel_rfl) (by decide +kernel) (by kernel_rfl) hlen) (by simp) (by kernel_rfl)) (by kernel_rfl) (by (first | lia | omega)))
    (fun i ρ => ∃ τ : Rho, Tl2 "at" "later" τ ∧ ρ = rho_rf R (reachN R i) τ) ⟨[], .inl rfl, rfl⟩ ?_ ?_
  · rintro i d ρ hd ⟨τ, hτ, rfl⟩
    rw [List.getElem?_map] at hd
    obtain ⟨j, hj, rfl⟩ := Option.map_eq_some_iff.mp hd
    obtain ⟨hi, rfl⟩ := List.getElem?_eq_some_iff.mp hj
    rw [List.length_range] at hi
    rw [List.getElem_range]
    obtain ⟨r, hr⟩ : ∃ r, R[i]? = some r := ⟨_, List.getElem?_eq_getElem hi⟩
    have hl : (reachN R i).length = R.length := reachN_len R i
    have hb := nth_bool (t := reachN R i) (i := i) (by (first | lia | omega)) (by (first | lia | omega))
    have hst : reachN R (i + 1) = if (reachN R i).getD i false = true then setT (reachN R i) (folOf r i) else reachN R i := by
      rw [reachN_succ]; unfold stepT; rw [hr]
    obtain ⟨σ, hσ, e⟩ : ∃ σ : Rho, Tl1 "later" σ ∧ Rho.set "at" (.int i, .fro) (rho_rf R (reachN R i) τ) = rho_rf R (reachN R i) (("at", .int i, .fro) :: σ) := by
      obtain ⟨σ, hσ, e⟩ := hτ.set (.int i, .fro)
      exact ⟨σ, hσ, by rw [← e]; kernel_rfl⟩
    show Wx _ _ _ _ (Rho.set "at" (.int i, .fro) (rho_rf R (reachN R i) τ)) _
    rw [e]
    refine wIf (c := (reachN R i).getD i false) ?_ (fun hc => ?_) fun hc => ?_
    · rw [tS, subI rfl (x := (.list (bD (reachN R i)), .bor)) (y := (.int i, .fro)) (by kernel_rfl) (by kernel_rfl) hb]; rfl
    · rw [if_pos hc] at hst
      have hf := fol_in H hr
      refine wFor (forCall2 (ds := (folOf r i).map .int) (by kernel_rfl) (callI (ds := [.list (R.map oD), .int i]) (d := .list ((folOf r i).map .int)) (fr := true) (by kernel_rfl) (by kernel_rfl) (by rcases hσ with rfl | ⟨w, rfl⟩ <;> kernel_rfl) (by kernel_rfl) (by decide +kernel) (by rcases hσ with rfl | ⟨w, rfl⟩ <;> kernel_rfl) ((withS_same (g := "follows") (T := runT [] 6)).trans (hS hr))) ?_)
        (fun j ρ => ∃ σ : Rho, Tl1 "later" σ ∧ ρ = rho_rf R (setT (reachN R i) ((folOf r i).take j)) (("at", .int i, .fro) :: σ)) ⟨σ, hσ, rfl⟩ ?_ ?_
      · have : (folOf r i).length ≤ 2 := by
          unfold folOf folJ wayB
          repeat' split
          all_goals simp
        simp; (first | lia | omega)
      · rintro j d ρ hd ⟨σ, hσ, rfl⟩
        rw [List.getElem?_map] at hd
        obtain ⟨g, hg, rfl⟩ := Option.map_eq_some_iff.mp hd
        obtain ⟨g0, g1⟩ := hf g (List.mem_of_getElem? hg)
        have htk : (folOf r i).take (j + 1) = (folOf r i).take j ++ [g] := by rw [List.take_add_one, hg]; rfl
        show Wx _ _ _ _ (Rho.set "later" (.int g, .fro) (rho_rf R (setT (reachN R i) ((folOf r i).take j)) (("at", .int i, .fro) :: σ))) _
        have e2 : Rho.set "later" (.int g, .fro) (rho_rf R (setT (reachN R i) ((folOf r i).take j)) (("at", .int i, .fro) :: σ)) = rho_rf R (setT (reachN R i) ((folOf r i).take j)) [("at", .int i, .fro), ("later", .int g, .fro)] := by
          rcases hσ with rfl | ⟨w, rfl⟩ <;> kernel_rfl
        rw [e2]
        refine wSeq (ρ' := rho_rf R (setT (reachN R i) ((folOf r i).take (j + 1))) [("at", .int i, .fro), ("later", .int g, .fro)]) ?_ (wNil ⟨_, rfl, [("later", .int g, .fro)], .inr ⟨_, rfl⟩, rfl⟩)
        rw [storeI (d := .list (bD (setT (reachN R i) ((folOf r i).take j)))) (d' := .list (bD (setT (reachN R i) ((folOf r i).take (j + 1))))) (vd := .bool true) (j := (.int g, .fro)) (m := .fro) (by kernel_rfl) (by decide +kernel) (by kernel_rfl) (by kernel_rfl) (by simp) (by kernel_rfl) ?_]
        · kernel_rfl
        · rw [put_list (by (first | lia | omega)) (by rw [bD_len, setT_len, hl]; exact g1) (by rw [bD_len, setT_len, hl]; (first | lia | omega)), htk]
          unfold setT bD
          rw [List.foldl_append, List.foldl_cons, List.foldl_nil, List.map_set]
      · rintro ρ ⟨σ, hσ, rfl⟩
        rw [List.length_map, List.take_length]
        exact wNil ⟨_, rfl, _, hσ.cons _, by rw [hst]⟩
    · rw [if_neg (by rw [hc]; exact Bool.false_ne_true)] at hst
      exact wNil ⟨_, rfl, _, hσ.cons _, by rw [hst]⟩
  · rintro ρ ⟨τ, hτ, rfl⟩
    rw [List.length_map, List.length_range]
    exact wRet (d := .list (bD (reachN R R.length))) (fr := true) (by kernel_rfl) rfl
end
end Mine

set_option maxHeartbeats 2000000
namespace Mine
noncomputable def fWrittenCells : {fd : FD // theDefs[14]? = some (("written_cells" : Str), fd)} := ⟨_, rfl⟩
theorem fWrittenCellsL : lkS "written_cells" theDefs = some fWrittenCells.1 := by kernel_rfl
noncomputable def fCheckClassic : {fd : FD // theDefs[15]? = some (("check_classic" : Str), fd)} := ⟨_, rfl⟩
theorem fCheckClassicL : lkS "check_classic" theDefs = some fCheckClassic.1 := by kernel_rfl
theorem jump_all6 (jt jf k : Int) : (cAll.map fun c => runT [] 6 "is_jump_order" [oD ⟨c, jt, jf, k⟩]) = cAll.map fun c => some (.bool (jmpB c), false) := by kernel_rfl
theorem ret_all6 (jt jf k : Int) : (cAll.map fun c => runT [] 6 "is_return" [oD ⟨c, jt, jf, k⟩]) = cAll.map fun c => some (.bool (retB c), false) := by kernel_rfl
theorem written_all6 (jt jf k : Int) : (cAll.map fun c => runT [] 6 "written_cell" [oD ⟨c, jt, jf, k⟩]) = cAll.map fun c => some (.int (wcOf c k), false) := by kernel_rfl
section
variable {cx : Cx} {mu : List Str} {sc : Scope} {ρ ρ' : Rho} {P : Fl → Prop}
theorem wIfM {t : Expr} {b o r : List Stmt} {p : Pos} {c : Bool} (M : Rho → Prop) (h : tr cx t sc ρ (ev cx t sc ρ) = some c) (h1 : c = true → Wx cx mu sc b ρ fun fl => ∃ ρ', fl = .nxt ρ' ∧ M ρ') (h0 : c = false → Wx cx mu sc o ρ fun fl => ∃ ρ', fl = .nxt ρ' ∧ M ρ') (hk : ∀ ρ', M ρ' → Wx cx mu sc r ρ' P) : Wx cx mu sc (.If t b o p :: r) ρ P := by
  have app : ∀ {a : List Stmt}, (Wx cx mu sc a ρ fun fl => ∃ ρ', fl = .nxt ρ' ∧ M ρ') → Wx cx mu sc (a ++ r) ρ P := by
    rintro a ⟨fl, e, ρ', rfl, hM⟩
    obtain ⟨fl, e2, hP⟩ := hk ρ' hM
    exact ⟨fl, by rw [exs_app, e]; exact e2, hP⟩
  exact wIf h (fun q => app (h1 q)) fun q => app (h0 q)
theorem orI {e : Expr} {r : List Expr} {b1 b2 : Bool} (h1 : tr cx e sc ρ (ev cx e sc ρ) = some b1) (h2 : trB cx .Or r sc ρ = some b2) : trB cx .Or (e :: r) sc ρ = some (b1 || b2) := by
  rw [tbCons, h1, Option.bind_some]
  cases b1 with
  | false => rw [if_neg (by simp)]; exact h2
  | true => rfl
theorem trCall {f : Str} {args : List Expr} {fp p : Pos} {b : Bool} {m : Mode} {ro : Option (D × Mode)} (h : ro = some (.bool b, m)) : tr cx (.Call (.Name f fp) args [] p) sc ρ ro = some b := by
  rw [tF, h]; rfl
end
noncomputable def Tl3 (x y z : Str) (τ : Rho) : Prop := τ = [] ∨ (∃ u v, τ = [(x, u), (y, v)]) ∨ ∃ u v w, τ = [(x, u), (y, v), (z, w)]
theorem Tl3.set {x y z : Str} {τ : Rho} (h : Tl3 x y z τ) (v : D × Mode) : ∃ σ, Tl2 y z σ ∧ Rho.set x v τ = (x, v) :: σ := by
  rcases h with rfl | ⟨u, w, rfl⟩ | ⟨u, w, q, rfl⟩
  · exact ⟨[], .inl rfl, rfl⟩
  · exact ⟨[(y, w)], .inr (.inl ⟨_, rfl⟩), by unfold Rho.set; rw [if_pos rfl]⟩
  · exact ⟨[(y, w), (z, q)], .inr (.inr ⟨_, _, rfl⟩), by unfold Rho.set; rw [if_pos rfl]⟩
theorem Tl1.cons2 {x y z : Str} {σ : Rho} (h : Tl1 z σ) (u v : D × Mode) : Tl3 x y z ((x, u) :: (y, v) :: σ) := by
  rcases h with rfl | ⟨w, rfl⟩
  · exact .inr (.inl ⟨_, _, rfl⟩)
  · exact .inr (.inr ⟨_, _, _, rfl⟩)

noncomputable def Two (h : Int) : Prop := h = 3 ∨ h = 65535
noncomputable def Held (i : Nat) (h : Int) : Prop := (i = 0 ∧ h = 0) ∨ (i = 1 ∧ h = 1) ∨ (2 ≤ i ∧ Two h)
noncomputable def Masks (i : Nat) (ms : List (Int × D)) : Prop := (∀ e ∈ ms, ∃ v, e.2 = .int v ∧ Two v) ∧ (i ≤ 2 → ms = []) ∧ ms.length ≤ 2 * i
theorem two_and {a b : Int} (ha : Two a) (hb : Two b) : Two (Builtin.bitAnd a b) := by
  rcases ha with rfl | rfl <;> rcases hb with rfl | rfl <;> unfold Two <;> decide +kernel
theorem two_or {a k : Int} (ha : Two a) (hk : k = 0 ∨ k = 1) : Two (Builtin.bitOr a (1 * 2 ^ k.toNat)) := by
  rcases ha with rfl | rfl <;> rcases hk with rfl | rfl <;> unfold Two <;> decide +kernel
theorem Masks.get {i : Nat} {ms : List (Int × D)} (h : Masks i ms) (k : Int) : ∃ v, (dget ms k).getD (.int 65535) = .int v ∧ Two v ∧ (i ≤ 2 → v = 65535) := by
  unfold dget
  cases e : ms.find? (fun e => e.1 = k) with
  | none => exact ⟨65535, rfl, .inr rfl, fun _ => rfl⟩
  | some p =>
    obtain ⟨v, hv, h2⟩ := h.1 p (List.mem_of_find?_eq_some e)
    refine ⟨v, hv, h2, fun hi => ?_⟩
    rw [h.2.1 hi] at e; cases e
theorem dput_len (es : List (Int × D)) (k : Int) (d : D) : (dput es k d).length ≤ es.length + 1 := by
  unfold dput; split <;> simp
theorem dput_mem {es : List (Int × D)} {k : Int} {d : D} {e : Int × D} (h : e ∈ dput es k d) : e.2 = d ∨ e ∈ es := by
  unfold dput at h
  split at h
  · obtain ⟨e', h1, h2⟩ := List.mem_map.mp h
    split at h2
    · subst h2; exact .inl rfl
    · subst h2; exact .inr h1
  · rcases List.mem_append.mp h with h | h
    · exact .inr h
    · rw [List.mem_singleton] at h; subst h; exact .inl rfl
noncomputable def rho_wc (R : List Row) (ms : List (Int × D)) (hs : List D) (h : Int) (τ : Rho) : Rho := ("orders", .list (R.map oD), .fro) :: ("masks", .dict ms, .bor) :: ("found", .list hs, .bor) :: ("held", .int h, .fro) :: τ
abbrev WcI (R : List Row) (i : Nat) (ρ : Rho) : Prop := ∃ (ms : List (Int × D)) (hs : List D) (h : Int) (τ : Rho), Tl3 "at" "order" "goal" τ ∧ Held i h ∧ Masks i ms ∧ hs.length = i ∧ (∀ a, 2 ≤ a → a < i → ∃ v, hs[a]? = some (.int v) ∧ Two v) ∧ ρ = rho_wc R ms hs h τ
section
variable {F : Fct} (C : Closed F)
include C
theorem written_ok {R : List Row} (H : Rows R) : ∃ hs : List D, F 7 "written_cells" [.list (R.map oD)] (.list hs, true) ∧ hs.length = R.length ∧ ∀ a, 2 ≤ a → a < R.length → ∃ v, hs[a]? = some (.int v) ∧ Two v := by
  have h10 := H.l10
  have h4 := H.l4
  have hol : (R.map oD).length = R.length := List.length_map ..
  let S : List D → D × Bool → Prop := fun es q => ∃ (a : Nat) (r : Row), R[a]? = some r ∧ jmpB r.c = true ∧ es = [.list (R.map oD), .int a] ∧ q = (.list ((wayJ r a).map .int), true)
  have hS : ∀ {a : Nat} {r : Row}, R[a]? = some r → jmpB r.c = true → pick S [.list (R.map oD), .int a] = some (.list ((wayJ r a).map .int), true) := fun {a r} h hj => pick_uniq ⟨a, r, h, hj, rfl, rfl⟩ fun q ⟨a', r', h', hj', e, eq⟩ => by
    simp only [List.cons.injEq, D.int.injEq, Int.natCast_inj, and_true, true_and] at e
    subst e
    rw [h] at h'; cases h'; exact eq
  generalize hT : withS S "goals_of_classic" (runT [] 6) = T
  have jT : Just F 6 T := by rw [← hT]; exact withS_just (by rintro es q ⟨a, r, h, hj, rfl, rfl⟩; exact (H.kind a r h).goals C hj (at_os h h10)) (just C 6)
  have hlen : T "len" [.list (R.map oD)] = some (.int (R.length : Nat), false) := by
    have : withS S "goals_of_classic" (runT [] 6) "len" [.list (R.map oD)] = if (R.map oD).length ≤ 1000000 then some (.int (R.map oD).length, false) else none := by kernel_rfl
    rw [← hT, this, if_pos (by (first | lia | omega)), hol]
  have hrange : ∀ n, T "range" [.int n] = some (.rng 0 n, false) := fun n => by rw [← hT]; kernel_rfl
  have hgoals : ∀ {a : Nat} {r : Row}, R[a]? = some r → jmpB r.c = true → T "goals_of_classic" [.list (R.map oD), .int a] = some (.list ((wayJ r a).map .int), true) := fun h hj => by rw [← hT]; exact withS_same.trans (hS h hj)
  have hw : ∀ {a : Nat} {r : Row}, R[a]? = some r → T "written_cell" [oD r] = some (.int (wcOf r.c r.k), false) := fun {a r} h => by
    rw [← hT]; exact Eq.trans (b := runT [] 6 "written_cell" [oD r]) (by kernel_rfl) (map_mem (written_all6 r.jt r.jf r.k) (H.all _ _ h))
  have hj : ∀ {a : Nat} {r : Row}, R[a]? = some r → T "is_jump_order" [oD r] = some (.bool (jmpB r.c), false) := fun {a r} h => by
    rw [← hT]; exact Eq.trans (b := runT [] 6 "is_jump_order" [oD r]) (by kernel_rfl) (map_mem (jump_all6 r.jt r.jf r.k) (H.all _ _ h))
  have hre : ∀ {a : Nat} {r : Row}, R[a]? = some r → T "is_return" [oD r] = some (.bool (retB r.c), false) := fun {a r} h => by
    rw [← hT]; exact Eq.trans (b := runT [] 6 "is_return" [oD r]) (by kernel_rfl) (map_mem (ret_all6 r.jt r.jf r.k) (H.all _ _ h))
  clear hT
  have main : Wx ⟨con0, T, fld0⟩ fWrittenCells.1.mu fWrittenCells.1.scope fWrittenCells.1.body (rho0 fWrittenCells.1.params [.list (R.map oD)]) (fun fl => ∃ hs : List D, flVal fl = (.list hs, true) ∧ hs.length = R.length ∧ ∀ a, 2 ≤ a → a < R.length → ∃ v, hs[a]? = some (.int v) ∧ Two v) := by
    refine wSeq (ρ' := rho_wc R [] [] 0 []) (by kernel_rfl) ?_
    refine wFor (forRange (n := R.length) (by kernel_rfl) (by kernel_rfl) (by kernel_rfl) (by kernel_rfl) (evsI (m := .fro) (callI (ds := [.list (R.map oD)]) (d := .int R.length) (fr := false) (by kernel_rfl) (by kernel_rfl) (by kernel_rfl) (by kernel_rfl) (by decide +kernel) (by kernel_rfl) hlen) (by simp) (by kernel_rfl)) (hrange _) (by (first | lia | omega)))
      (WcI R)
      ⟨[], [], 0, [], .inl rfl, .inl ⟨rfl, rfl⟩, ⟨fun _ q => (nomatch q), fun _ => rfl, Nat.le_refl 0⟩, rfl, fun a _ q => absurd q (Nat.not_lt_zero a), rfl⟩ ?_ ?_
    · rintro i d ρ hd ⟨ms, hs, h, τ, hτ, hH, hM, hL, hV, rfl⟩
      rw [List.getElem?_map] at hd
      obtain ⟨j, hj', rfl⟩ := Option.map_eq_some_iff.mp hd
      obtain ⟨hi, rfl⟩ := List.getElem?_eq_some_iff.mp hj'
      rw [List.length_range] at hi
      rw [List.getElem_range]
      obtain ⟨r, hr⟩ : ∃ r, R[i]? = some r := ⟨_, List.getElem?_eq_getElem hi⟩
      obtain ⟨σ, hσ, e⟩ := hτ.set (.int i, .fro)
      show Wx _ _ _ _ (Rho.set "at" (.int i, .fro) (rho_wc R ms hs h τ)) _
      rw [show Rho.set "at" (.int i, .fro) (rho_wc R ms hs h τ) = rho_wc R ms hs h (("at", .int i, .fro) :: σ) by rw [← e]; kernel_rfl]
      obtain ⟨m, hm, hm2, hm3⟩ := hM.get i
      have hc := H.cells i r hr
      -- what is held behind the mask, and behind a store
      have h1 : (i = 0 ∧ Builtin.bitAnd h m = 0) ∨ (i = 1 ∧ Builtin.bitAnd h m = 1) ∨ (2 ≤ i ∧ Two (Builtin.bitAnd h m)) := by
        rcases hH with ⟨q, rfl⟩ | ⟨q, rfl⟩ | ⟨q, q2⟩
        · rw [hm3 (by (first | lia | omega))]; exact .inl ⟨q, by decide +kernel⟩
        · rw [hm3 (by (first | lia | omega))]; exact .inr (.inl ⟨q, by decide +kernel⟩)
        · exact .inr (.inr ⟨q, two_and q2 hm2⟩)
      refine wSeq (ρ' := rho_wc R ms hs (Builtin.bitAnd h m) (("at", .int i, .fro) :: σ)) ?_ ?_
      · exact (asgI (d := .int (Builtin.bitAnd h m)) (m := .fro) (by kernel_rfl) (binI (x := (.int h, .fro)) (y := (.int m, .fro)) (by kernel_rfl) (methI (a := (.dict ms, .bor)) (ds := [.int i, .int 65535]) (by kernel_rfl) (by kernel_rfl) (by rcases hσ with rfl | ⟨u, rfl⟩ | ⟨u, v, rfl⟩ <;> kernel_rfl) (Eq.trans (b := some ((dget ms i).getD (.int 65535), .fro)) (by kernel_rfl) (by rw [hm]))) rfl) (by simp)).trans (by kernel_rfl)
      generalize Builtin.bitAnd h m = g at h1
      refine wSeq (ρ' := rho_wc R ms (hs ++ [.int g]) g (("at", .int i, .fro) :: σ)) ?_ ?_
      · exact (appI (ds := hs) (vd := .int g) (m := .fro) (by kernel_rfl) (by kernel_rfl) (by decide +kernel) (by kernel_rfl) (by kernel_rfl) (by simp) (by (first | lia | omega))).trans (by kernel_rfl)
      obtain ⟨σ2, hσ2, e2⟩ := hσ.set (oD r, .fro)
      refine wSeq (ρ' := rho_wc R ms (hs ++ [.int g]) g (("at", .int i, .fro) :: ("order", oD r, .fro) :: σ2)) ?_ ?_
      · rw [asgI (d := oD r) (m := .fro) (by kernel_rfl) (subI (by kernel_rfl) (x := (.list (R.map oD), .fro)) (y := (.int i, .fro)) (by kernel_rfl) (by kernel_rfl) (at_os hr h10)) (by simp), ← e2]
        kernel_rfl
      refine wIfM (c := decide (0 ≤ wcOf r.c r.k)) (fun ρ => ∃ h2, Held (i + 1) h2 ∧ ρ = rho_wc R ms (hs ++ [.int g]) h2 (("at", .int i, .fro) :: ("order", oD r, .fro) :: σ2)) ?_ (fun q => ?_) (fun q => ?_) ?_
      · exact cmpI (x := (.int (wcOf r.c r.k), .fro)) (y := (.int 0, .fro)) (by kernel_rfl) (callI (ds := [oD r]) (d := .int (wcOf r.c r.k)) (fr := false) (by kernel_rfl) (by kernel_rfl) (by rcases hσ2 with rfl | ⟨w, rfl⟩ <;> kernel_rfl) (by kernel_rfl) (by decide +kernel) (by kernel_rfl) (hw hr)) (by kernel_rfl) rfl
      · have q := of_decide_eq_true q
        have hk : wcOf r.c r.k = 0 ∨ wcOf r.c r.k = 1 := hc.2.resolve_left (by (first | lia | omega))
        refine wSeq (ρ' := rho_wc R ms (hs ++ [.int g]) (Builtin.bitOr g (1 * 2 ^ (wcOf r.c r.k).toNat)) (("at", .int i, .fro) :: ("order", oD r, .fro) :: σ2)) ?_ (wNil ⟨_, rfl, _, ?_, rfl⟩)
        · exact (asgI (d := .int (Builtin.bitOr g (1 * 2 ^ (wcOf r.c r.k).toNat))) (m := .fro) (by kernel_rfl) (binI (x := (.int g, .fro)) (y := (.int (1 * 2 ^ (wcOf r.c r.k).toNat), .fro)) (by kernel_rfl)
            (binI (x := (.int 1, .fro)) (y := (.int (wcOf r.c r.k), .fro)) (by kernel_rfl) (callI (ds := [oD r]) (d := .int (wcOf r.c r.k)) (fr := false) (by kernel_rfl) (by kernel_rfl) (by rcases hσ2 with rfl | ⟨w, rfl⟩ <;> kernel_rfl) (by kernel_rfl) (by decide +kernel) (by kernel_rfl) (hw hr)) (by rcases hk with hk | hk <;> rw [hk] <;> kernel_rfl)) rfl) (by simp)).trans (by kernel_rfl)
        · rcases h1 with ⟨q1, rfl⟩ | ⟨q1, rfl⟩ | ⟨q1, q2⟩
          · subst q1; rw [H.s0] at hr; cases hr; exact .inr (.inl ⟨rfl, by decide +kernel⟩)
          · subst q1; rw [H.s1] at hr; cases hr; exact .inr (.inr ⟨Nat.le_refl 2, .inl (by decide +kernel)⟩)
          · exact .inr (.inr ⟨by (first | lia | omega), two_or q2 hk⟩)
      · have q := of_decide_eq_false q
        refine wNil ⟨_, rfl, g, ?_, rfl⟩
        rcases h1 with ⟨q1, rfl⟩ | ⟨q1, rfl⟩ | ⟨q1, q2⟩
        · subst q1; rw [H.s0] at hr; cases hr; exact absurd (by decide) q
        · subst q1; rw [H.s1] at hr; cases hr; exact absurd (by decide) q
        · exact .inr (.inr ⟨by (first | lia | omega), q2⟩)
      rintro ρ ⟨h2, hH2, rfl⟩
      have j2 : jmpB r.c = true ∨ retB r.c = true → 2 ≤ i := by
        intro q
        rcases Nat.lt_or_ge i 2 with q1 | q1
        · rcases (show i = 0 ∨ i = 1 by (first | lia | omega)) with rfl | rfl
          · rw [H.s0] at hr; cases hr; exact absurd q (by decide)
          · rw [H.s1] at hr; cases hr; exact absurd q (by decide)
        · exact q1
      refine wIfM (c := jmpB r.c) (fun ρ => ∃ (ms' : List (Int × D)) (σ3 : Rho), Masks (i + 1) ms' ∧ Tl1 "goal" σ3 ∧ ρ = rho_wc R ms' (hs ++ [.int g]) h2 (("at", .int i, .fro) :: ("order", oD r, .fro) :: σ3)) ?_ (fun q => ?_) (fun q => ?_) ?_
      · exact trCall (m := .fro) (callI (ds := [oD r]) (d := .bool (jmpB r.c)) (fr := false) (by kernel_rfl) (by kernel_rfl) (by rcases hσ2 with rfl | ⟨w, rfl⟩ <;> kernel_rfl) (by kernel_rfl) (by decide +kernel) (by kernel_rfl) (hj hr))
      · have i2 := j2 (.inl q)
        have hT2 : Two h2 := by rcases hH2 with ⟨q, _⟩ | ⟨q, _⟩ | ⟨_, q⟩ <;> first | (first | lia | omega) | exact q
        have hgl : (wayJ r i).length ≤ 2 := by unfold wayJ; repeat' split
                                               all_goals simp
        refine wFor (forCall2 (ds := (wayJ r i).map .int) (by kernel_rfl) (callI (ds := [.list (R.map oD), .int i]) (d := .list ((wayJ r i).map .int)) (fr := true) (by kernel_rfl) (by kernel_rfl) (by rcases hσ2 with rfl | ⟨w, rfl⟩ <;> kernel_rfl) (by kernel_rfl) (by decide +kernel) (by kernel_rfl) (hgoals hr q)) (by simp; (first | lia | omega)))
          (fun j ρ => ∃ (ms' : List (Int × D)) (σ3 : Rho), (∀ e ∈ ms', ∃ v, e.2 = .int v ∧ Two v) ∧ ms'.length ≤ 2 * i + j ∧ Tl1 "goal" σ3 ∧ ρ = rho_wc R ms' (hs ++ [.int g]) h2 (("at", .int i, .fro) :: ("order", oD r, .fro) :: σ3)) ⟨ms, σ2, hM.1, hM.2.2, hσ2, rfl⟩ ?_ ?_
        · rintro j d ρ hd ⟨ms', σ3, hm1, hml, hσ3, rfl⟩
          rw [List.getElem?_map] at hd
          obtain ⟨gl, hgl', rfl⟩ := Option.map_eq_some_iff.mp hd
          have hjl := (List.getElem?_eq_some_iff.mp hgl').1
          show Wx _ _ _ _ (Rho.set "goal" (.int gl, .fro) (rho_wc R ms' (hs ++ [.int g]) h2 (("at", .int i, .fro) :: ("order", oD r, .fro) :: σ3))) _
          rw [show Rho.set "goal" (.int gl, .fro) (rho_wc R ms' (hs ++ [.int g]) h2 (("at", .int i, .fro) :: ("order", oD r, .fro) :: σ3)) = rho_wc R ms' (hs ++ [.int g]) h2 [("at", .int i, .fro), ("order", oD r, .fro), ("goal", .int gl, .fro)] by rw [← hσ3.set]; kernel_rfl]
          have hMM : Masks 3 ms' ∨ True := .inr trivial
          obtain ⟨v, hv, hv2⟩ : ∃ v, (dget ms' gl).getD (.int 65535) = .int v ∧ Two v := by
            unfold dget
            cases e : ms'.find? (fun e => e.1 = gl) with
            | none => exact ⟨65535, rfl, .inr rfl⟩
            | some p => obtain ⟨v, hv, h2⟩ := hm1 p (List.mem_of_find?_eq_some e); exact ⟨v, hv, h2⟩
          refine wSeq (ρ' := rho_wc R (dput ms' gl (.int (Builtin.bitAnd v h2))) (hs ++ [.int g]) h2 [("at", .int i, .fro), ("order", oD r, .fro), ("goal", .int gl, .fro)]) ?_ (wNil ⟨_, rfl, _, [("goal", .int gl, .fro)], ?_, ?_, .inr ⟨_, rfl⟩, rfl⟩)
          · rw [storeI (d := .dict ms') (d' := .dict (dput ms' gl (.int (Builtin.bitAnd v h2)))) (vd := .int (Builtin.bitAnd v h2)) (j := (.int gl, .fro)) (m := .fro) (by kernel_rfl) (by decide +kernel) (by kernel_rfl)
              (binI (x := (.int v, .fro)) (y := (.int h2, .fro)) (methI (a := (.dict ms', .bor)) (ds := [.int gl, .int 65535]) (by kernel_rfl) (by kernel_rfl) (by kernel_rfl) (Eq.trans (b := some ((dget ms' gl).getD (.int 65535), .fro)) (by kernel_rfl) (by rw [hv]))) (by kernel_rfl) rfl) (by simp) (by kernel_rfl) ?_]
            · kernel_rfl
            · show (if _ then _ else _) = _
              rw [if_pos (by (first | lia | omega))]
          · intro e he
            rcases dput_mem he with he | he
            · exact ⟨_, he, two_and hv2 hT2⟩
            · exact hm1 e he
          · have := dput_len ms' gl (.int (Builtin.bitAnd v h2)); (first | lia | omega)
        · rintro ρ ⟨ms', σ3, hm1, hml, hσ3, rfl⟩
          rw [List.length_map] at hml
          exact wNil ⟨_, rfl, ms', σ3, ⟨hm1, fun q => by (first | lia | omega), by (first | lia | omega)⟩, hσ3, rfl⟩
      · exact wNil ⟨_, rfl, ms, σ2, ⟨hM.1, fun q => hM.2.1 (by (first | lia | omega)), by have := hM.2.2; (first | lia | omega)⟩, hσ2, rfl⟩
      rintro ρ ⟨ms', σ3, hM', hσ3, rfl⟩
      have hV' : ∀ a, 2 ≤ a → a < i + 1 → ∃ v, (hs ++ [D.int g])[a]? = some (.int v) ∧ Two v := by
        intro a a2 ai
        rcases Nat.lt_or_ge a i with q | q
        · rw [List.getElem?_append_left (by (first | lia | omega))]; exact hV a a2 q
        · have : a = i := by (first | lia | omega)
          subst this
          rw [List.getElem?_append_right (by (first | lia | omega)), hL, Nat.sub_self]
          rcases h1 with ⟨q1, _⟩ | ⟨q1, _⟩ | ⟨_, q2⟩
          · (first | lia | omega)
          · (first | lia | omega)
          · exact ⟨g, rfl, q2⟩
      refine wIfM (c := jmpB r.c || retB r.c) (fun ρ => ∃ h3, Held (i + 1) h3 ∧ ρ = rho_wc R ms' (hs ++ [.int g]) h3 (("at", .int i, .fro) :: ("order", oD r, .fro) :: σ3)) ?_ (fun q => ?_) (fun q => ?_) ?_
      · rw [tBo]
        refine (orI (b2 := retB r.c || false) (trCall (m := .fro) (callI (ds := [oD r]) (d := .bool (jmpB r.c)) (fr := false) (by kernel_rfl) (by kernel_rfl) (by rcases hσ3 with rfl | ⟨w, rfl⟩ <;> kernel_rfl) (by kernel_rfl) (by decide +kernel) (by kernel_rfl) (hj hr)))
          (orI (trCall (m := .fro) (callI (ds := [oD r]) (d := .bool (retB r.c)) (fr := false) (by kernel_rfl) (by kernel_rfl) (by rcases hσ3 with rfl | ⟨w, rfl⟩ <;> kernel_rfl) (by kernel_rfl) (by decide +kernel) (by kernel_rfl) (hre hr))) rfl)).trans (by rw [Bool.or_false])
      · refine wSeq (ρ' := rho_wc R ms' (hs ++ [.int g]) 65535 (("at", .int i, .fro) :: ("order", oD r, .fro) :: σ3)) (by rcases hσ3 with rfl | ⟨w, rfl⟩ <;> kernel_rfl) (wNil ⟨_, rfl, _, ?_, rfl⟩)
        have := j2 (by simpa using q)
        exact .inr (.inr ⟨by (first | lia | omega), .inr rfl⟩)
      · exact wNil ⟨_, rfl, _, hH2, rfl⟩
      rintro ρ ⟨h3, hH3, rfl⟩
      exact wNil ⟨_, rfl, ms', hs ++ [.int g], h3, _, hσ3.cons2 _ _, hH3, hM', by simp [hL], hV', rfl⟩
    · rintro ρ ⟨ms, hs, h, τ, hτ, hH, hM, hL, hV, rfl⟩
      rw [List.length_map, List.length_range] at hL hV
      exact wRet (d := .list hs) (fr := true) (by kernel_rfl) ⟨hs, rfl, hL, hV⟩
  obtain ⟨fl, e, hs, q, p⟩ := main
  exact ⟨hs, enter C (by decide +kernel) fWrittenCellsL jT (by kernel_rfl) ⟨fl, e, q⟩, p⟩
end
end Mine

set_option maxHeartbeats 2000000
namespace Mine
theorem jump_all7 (jt jf k : Int) : (cAll.map fun c => runT [] 7 "is_jump_order" [oD ⟨c, jt, jf, k⟩]) = cAll.map fun c => some (.bool (jmpB c), false) := by kernel_rfl
theorem read_all7 (jt jf k : Int) : (cAll.map fun c => runT [] 7 "read_cell" [oD ⟨c, jt, jf, k⟩]) = cAll.map fun c => some (.int (rcOf c k), false) := by kernel_rfl
section
variable {cx : Cx} {mu : List Str} {sc : Scope} {ρ ρ' : Rho} {P : Fl → Prop}
theorem exprI {f : Str} {args : List Expr} {fp pos p : Pos} {r : D × Mode} (h : ev cx (.Call (.Name f fp) args [] pos) sc ρ = some r) : ex cx mu sc (.Expr (.Call (.Name f fp) args [] pos) p) ρ = some (.nxt ρ) := by
  rw [xCall, h]; rfl
end
noncomputable def rho_cc (R : List Row) (τ : Rho) : Rho := ("orders", .list (R.map oD), .fro) :: τ
noncomputable def rho_c2 (R : List Row) (hs : List D) (v : D × Mode) (τ : Rho) : Rho := ("orders", .list (R.map oD), .fro) :: ("at", v) :: ("masks", .list hs, .fro) :: τ
noncomputable def at1 (v : D × Mode) : Rho := [("at", v)]
theorem bit_ok {mv cell : Int} (h : Two mv) (hc : cell = 0 ∨ cell = 1) : (Builtin.bitAnd (mv.fdiv (2 ^ cell.toNat)) 1 == 0) = false := by
  rcases h with rfl | rfl <;> rcases hc with rfl | rfl <;> decide +kernel
section
variable {F : Fct} (C : Closed F)
include C
theorem check_ok {R : List Row} (H : Rows R) : F 8 "check_classic" [.list (R.map oD)] (.list (R.map oD), false) := by
  have h10 := H.l10
  have h4 := H.l4
  have hol : (R.map oD).length = R.length := List.length_map ..
  obtain ⟨hs, hW, hL, hV⟩ := written_ok C H
  let S1 : List D → D × Bool → Prop := fun es q => ∃ (a : Nat) (r : Row), R[a]? = some r ∧ es = [oD r, .int a] ∧ q = (.none, false)
  let S2 : List D → D × Bool → Prop := fun es q => ∃ (a : Nat) (r : Row), R[a]? = some r ∧ jmpB r.c = true ∧ es = [.list (R.map oD), .int a] ∧ q = (.list ((wayJ r a).map .int), true)
  let S3 : List D → D × Bool → Prop := fun es q => es = [.list (R.map oD)] ∧ q = (.list hs, true)
  have p1 : ∀ {a : Nat} {r : Row}, R[a]? = some r → pick S1 [oD r, .int a] = some (.none, false) := fun {a r} h => pick_uniq ⟨a, r, h, rfl, rfl⟩ fun q ⟨_, _, _, _, eq⟩ => eq
  have p2 : ∀ {a : Nat} {r : Row}, R[a]? = some r → jmpB r.c = true → pick S2 [.list (R.map oD), .int a] = some (.list ((wayJ r a).map .int), true) := fun {a r} h hj => pick_uniq ⟨a, r, h, hj, rfl, rfl⟩ fun q ⟨a', r', h', hj', e, eq⟩ => by
    simp only [List.cons.injEq, D.int.injEq, Int.natCast_inj, and_true, true_and] at e
    subst e
    rw [h] at h'; cases h'; exact eq
  have p3 : pick S3 [.list (R.map oD)] = some (.list hs, true) := pick_uniq ⟨rfl, rfl⟩ fun q h => h.2
  generalize hT : withS S1 "check_known" (withS S1 "check_number" (withS S2 "goals_of_classic" (withS S3 "written_cells" (runT [] 7)))) = T
  have up : ∀ {n f ds r}, F n f ds r → n ≤ 7 → F 7 f ds r := fun h k => C.le h k
  have jT : Just F 7 T := by
    rw [← hT]
    refine withS_just ?_ (withS_just ?_ (withS_just ?_ (withS_just ?_ (just C 7))))
    · rintro es q ⟨a, r, h, rfl, rfl⟩; exact up ((H.kind a r h).known C (by (first | lia | omega)) (H.all a r h) a) (by (first | lia | omega))
    · rintro es q ⟨a, r, h, rfl, rfl⟩; exact up ((H.kind a r h).number C a) (by (first | lia | omega))
    · rintro es q ⟨a, r, h, hj, rfl, rfl⟩; exact up ((H.kind a r h).goals C hj (at_os h h10)) (by (first | lia | omega))
    · rintro es q ⟨rfl, rfl⟩; exact hW
  have hlen : T "len" [.list (R.map oD)] = some (.int (R.length : Nat), false) := by
    have : T "len" [.list (R.map oD)] = if (R.map oD).length ≤ 1000000 then some (.int (R.map oD).length, false) else none := by rw [← hT]; kernel_rfl
    rw [this, if_pos (by (first | lia | omega)), hol]
  have hrange : ∀ n, T "range" [.int n] = some (.rng 0 n, false) := fun n => by rw [← hT]; kernel_rfl
  have hkn : ∀ {a : Nat} {r : Row}, R[a]? = some r → T "check_known" [oD r, .int a] = some (.none, false) := fun h => by rw [← hT]; exact withS_same.trans (p1 h)
  have hnu : ∀ {a : Nat} {r : Row}, R[a]? = some r → T "check_number" [oD r, .int a] = some (.none, false) := fun {a r} h => by rw [← hT]; exact Eq.trans (b := pick S1 [oD r, .int a]) (by kernel_rfl) (p1 h)
  have hgo : ∀ {a : Nat} {r : Row}, R[a]? = some r → jmpB r.c = true → T "goals_of_classic" [.list (R.map oD), .int a] = some (.list ((wayJ r a).map .int), true) := fun {a r} h hj => by rw [← hT]; exact Eq.trans (b := pick S2 [.list (R.map oD), .int a]) (by kernel_rfl) (p2 h hj)
  have hwr : T "written_cells" [.list (R.map oD)] = some (.list hs, true) := by rw [← hT]; exact Eq.trans (b := pick S3 [.list (R.map oD)]) (by kernel_rfl) p3
  have hj : ∀ {a : Nat} {r : Row}, R[a]? = some r → T "is_jump_order" [oD r] = some (.bool (jmpB r.c), false) := fun {a r} h => by
    rw [← hT]; exact Eq.trans (b := runT [] 7 "is_jump_order" [oD r]) (by kernel_rfl) (map_mem (jump_all7 r.jt r.jf r.k) (H.all _ _ h))
  have hrd : ∀ {a : Nat} {r : Row}, R[a]? = some r → T "read_cell" [oD r] = some (.int (rcOf r.c r.k), false) := fun {a r} h => by
    rw [← hT]; exact Eq.trans (b := runT [] 7 "read_cell" [oD r]) (by kernel_rfl) (map_mem (read_all7 r.jt r.jf r.k) (H.all _ _ h))
  have hre : T "is_return" [oD ⟨6, 0, 0, 3⟩] = some (.bool true, false) := by rw [← hT]; kernel_rfl
  have hmax : ∀ l, T "max" [.list l] = bMax [.list l] := fun l => by rw [← hT]; kernel_rfl
  clear hT p1 p2 p3
  refine enter C (by decide +kernel) fCheckClassicL jT (by kernel_rfl) ?_
  have elen : ∀ {ρ : Rho} {lp p : Pos} {op : Pos}, Rho.get "len" ρ = none → Rho.get "orders" ρ = some (.list (R.map oD), .fro) → ev ⟨con0, T, fld0⟩ (.Call (.Name "len" lp) [.Name "orders" op] [] p) fCheckClassic.1.scope ρ = some (.int R.length, .fro) := by
    intro ρ lp p op h1 h2
    refine callI (ds := [.list (R.map oD)]) (d := .int R.length) (fr := false) (by kernel_rfl) (by kernel_rfl) (by rw [h1]; rfl) (by kernel_rfl) (by decide +kernel) (evsI (m := .fro) ?_ (by simp) rfl) hlen
    rw [eName, if_neg (by decide +kernel), h2]
  refine wIf (c := false) (cmpI (x := (.int R.length, .fro)) (y := (.int 0, .fro)) (by kernel_rfl) (elen (by kernel_rfl) (by kernel_rfl)) (by kernel_rfl) (by show some (_ == _) = _; rw [beq_eq_false_iff_ne.mpr (by (first | lia | omega))])) ff fun _ => ?_
  refine wIf (c := false) (cmpI (x := (.int R.length, .fro)) (y := (.int 4096, .fro)) (by kernel_rfl) (elen (by kernel_rfl) (by kernel_rfl)) (by kernel_rfl) (by show some (decide _) = _; rw [decide_eq_false (by (first | lia | omega))])) ff fun _ => ?_
  refine wFor (forRange (n := R.length) (by kernel_rfl) (by kernel_rfl) (by kernel_rfl) (by kernel_rfl) (evsI (m := .fro) (elen (by kernel_rfl) (by kernel_rfl)) (by simp) (by kernel_rfl)) (hrange _) (by (first | lia | omega)))
    (fun i ρ => ∃ τ : Rho, ((i = 0 ∧ τ = []) ∨ ∃ v, τ = at1 v) ∧ ρ = rho_cc R τ) ⟨[], .inl ⟨rfl, rfl⟩, rfl⟩ ?_ ?_
  · rintro i d ρ hd ⟨τ, hτ, rfl⟩
    rw [List.getElem?_map] at hd
    obtain ⟨j, hj', rfl⟩ := Option.map_eq_some_iff.mp hd
    obtain ⟨hi, rfl⟩ := List.getElem?_eq_some_iff.mp hj'
    rw [List.length_range] at hi
    rw [List.getElem_range]
    obtain ⟨r, hr⟩ : ∃ r, R[i]? = some r := ⟨_, List.getElem?_eq_getElem hi⟩
    show Wx _ _ _ _ (Rho.set "at" (.int i, .fro) (rho_cc R τ)) _
    rw [show Rho.set "at" (.int i, .fro) (rho_cc R τ) = rho_cc R (at1 (.int i, .fro)) by rcases hτ with ⟨_, rfl⟩ | ⟨v, rfl⟩ <;> kernel_rfl]
    refine wSeq (exprI (callI (ds := [oD r, .int i]) (d := .none) (fr := false) (by kernel_rfl) (by kernel_rfl) (by kernel_rfl) (by kernel_rfl) (by decide +kernel) (evsI (m := .fro) (subI (by kernel_rfl) (x := (.list (R.map oD), .fro)) (y := (.int i, .fro)) (by kernel_rfl) (by kernel_rfl) (at_os hr h10)) (by simp) (by kernel_rfl)) (hkn hr))) ?_
    refine wSeq (exprI (callI (ds := [oD r, .int i]) (d := .none) (fr := false) (by kernel_rfl) (by kernel_rfl) (by kernel_rfl) (by kernel_rfl) (by decide +kernel) (evsI (m := .fro) (subI (by kernel_rfl) (x := (.list (R.map oD), .fro)) (y := (.int i, .fro)) (by kernel_rfl) (by kernel_rfl) (at_os hr h10)) (by simp) (by kernel_rfl)) (hnu hr))) ?_
    refine wIf (c := false) ?_ ff fun _ => wNil ⟨_, rfl, _, .inr ⟨_, rfl⟩, rfl⟩
    rw [tBo]
    have e1 := hj hr
    cases q : jmpB r.c with
    | false =>
      rw [q] at e1
      exact andF (trCall (m := .fro) (callI (ds := [oD r]) (d := .bool false) (fr := false) (by kernel_rfl) (by kernel_rfl) (by kernel_rfl) (by kernel_rfl) (by decide +kernel) (evsI (m := .fro) (subI (by kernel_rfl) (x := (.list (R.map oD), .fro)) (y := (.int i, .fro)) (by kernel_rfl) (by kernel_rfl) (at_os hr h10)) (by simp) (by kernel_rfl)) e1))
    | true =>
      rw [q] at e1
      refine andT (trCall (m := .fro) (callI (ds := [oD r]) (d := .bool true) (fr := false) (by kernel_rfl) (by kernel_rfl) (by kernel_rfl) (by kernel_rfl) (by decide +kernel) (evsI (m := .fro) (subI (by kernel_rfl) (x := (.list (R.map oD), .fro)) (y := (.int i, .fro)) (by kernel_rfl) (by kernel_rfl) (at_os hr h10)) (by simp) (by kernel_rfl)) e1)) ?_
      obtain ⟨mx, hm1, hm2⟩ : ∃ mx : Int, bMax [.list ((wayJ r i).map .int)] = some (.int mx, false) ∧ mx < R.length := by
        have K := H.kind i r hr
        cases K with
        | plain hj' => rw [q] at hj'; cases hj'
        | ja hr' h0 h1 => rw [hr']; exact ⟨_, rfl, by dsimp only [List.foldl]; (first | lia | omega)⟩
        | cj hc k0 k1 k2 k3 k4 k5 =>
          unfold wayJ
          rw [if_neg (cj_facts _ hc).1]
          split
          · exact ⟨_, rfl, by dsimp only [List.foldl]; (first | lia | omega)⟩
          · refine ⟨_, rfl, ?_⟩
            simp only [List.foldl_cons, List.foldl_nil]
            (first | lia | omega)
      refine andF (cmpI (x := (.int mx, .fro)) (y := (.int R.length, .fro)) (by kernel_rfl)
        (callI (ds := [.list ((wayJ r i).map .int)]) (d := .int mx) (fr := false) (by kernel_rfl) (by kernel_rfl) (by kernel_rfl) (by kernel_rfl) (by decide +kernel)
          (evsI (m := .fre) (callI (ds := [.list (R.map oD), .int i]) (d := .list ((wayJ r i).map .int)) (fr := true) (by kernel_rfl) (by kernel_rfl) (by kernel_rfl) (by kernel_rfl) (by decide +kernel) (by kernel_rfl) (hgo hr q)) (by simp) (by kernel_rfl)) ((hmax _).trans hm1))
        (elen (by kernel_rfl) (by kernel_rfl)) (by show some (decide _) = _; rw [decide_eq_false (by (first | lia | omega))]))
  · rintro ρ ⟨τ, hτ, rfl⟩
    rw [List.length_map, List.length_range] at hτ
    obtain ⟨v, rfl⟩ := hτ.resolve_left (by (first | lia | omega))
    refine wIf (c := false) (notI (b := true) (trCall (m := .fro) (callI (ds := [oD ⟨6, 0, 0, 3⟩]) (d := .bool true) (fr := false) (by kernel_rfl) (by kernel_rfl) (by kernel_rfl) (by kernel_rfl) (by decide +kernel) (evsI (m := .fro) (subI (by kernel_rfl) (x := (.list (R.map oD), .fro)) (y := (.int (-1), .fro)) (by kernel_rfl) (by kernel_rfl) ?_) (by simp) (by kernel_rfl)) hre))) ff fun _ => ?_
    · show nth _ _ = _
      unfold nth
      rw [if_neg (by (first | lia | omega)), if_pos (by (first | lia | omega)), hol, show ((-1 : Int) + R.length).toNat = R.length - 1 by (first | lia | omega), List.getElem?_map, H.last]; rfl
    refine wSeq (ρ' := rho_c2 R hs v []) ?_ ?_
    · exact (asgI (m := .fre) (by kernel_rfl) (callI (ds := [.list (R.map oD)]) (d := .list hs) (fr := true) (by kernel_rfl) (by kernel_rfl) (by kernel_rfl) (by kernel_rfl) (by decide +kernel) (by kernel_rfl) hwr) (by simp)).trans (by kernel_rfl)
    refine wFor (forRange (n := R.length) (by kernel_rfl) (by kernel_rfl) (by kernel_rfl) (by kernel_rfl) (evsI (m := .fro) (elen (by kernel_rfl) (by kernel_rfl)) (by simp) (by kernel_rfl)) (hrange _) (by (first | lia | omega)))
      (fun i ρ => ∃ (v : D × Mode) (τ : Rho), Tl1 "cell" τ ∧ ρ = rho_c2 R hs v τ) ⟨v, [], .inl rfl, rfl⟩ ?_ ?_
    · rintro i d ρ hd ⟨v, τ, hτ, rfl⟩
      rw [List.getElem?_map] at hd
      obtain ⟨j, hj', rfl⟩ := Option.map_eq_some_iff.mp hd
      obtain ⟨hi, rfl⟩ := List.getElem?_eq_some_iff.mp hj'
      rw [List.length_range] at hi
      rw [List.getElem_range]
      obtain ⟨r, hr⟩ : ∃ r, R[i]? = some r := ⟨_, List.getElem?_eq_getElem hi⟩
      show Wx _ _ _ _ (Rho.set "at" (.int i, .fro) (rho_c2 R hs v τ)) _
      rw [show Rho.set "at" (.int i, .fro) (rho_c2 R hs v τ) = rho_c2 R hs (.int i, .fro) τ by kernel_rfl]
      refine wSeq (ρ' := rho_c2 R hs (.int i, .fro) [("cell", .int (rcOf r.c r.k), .fro)]) ?_ ?_
      · rw [asgI (m := .fro) (by kernel_rfl) (callI (ds := [oD r]) (d := .int (rcOf r.c r.k)) (fr := false) (by kernel_rfl) (by kernel_rfl) (by rcases hτ with rfl | ⟨w, rfl⟩ <;> kernel_rfl) (by kernel_rfl) (by decide +kernel) (evsI (m := .fro) (subI (by kernel_rfl) (x := (.list (R.map oD), .fro)) (y := (.int i, .fro)) (by kernel_rfl) (by kernel_rfl) (at_os hr h10)) (by simp) (by kernel_rfl)) (hrd hr)) (by simp)]
        rcases hτ with rfl | ⟨w, rfl⟩ <;> kernel_rfl
      refine wIf (c := false) ?_ ff fun _ => wNil ⟨_, rfl, _, _, .inr ⟨_, rfl⟩, rfl⟩
      rw [tBo]
      have hc := (H.cells i r hr).1
      generalize hcell : rcOf r.c r.k = cell at hc
      rcases hc with rfl | hc
      · exact andF (cmpI (x := (.int (-1), .fro)) (y := (.int 0, .fro)) (by kernel_rfl) (by kernel_rfl) (by kernel_rfl) (by kernel_rfl))
      · have i2 : 2 ≤ i := by
          rcases Nat.lt_or_ge i 2 with q1 | q1
          · rcases (show i = 0 ∨ i = 1 by (first | lia | omega)) with rfl | rfl
            · rw [H.s0] at hr; cases hr; rcases hc with rfl | rfl <;> exact absurd hcell (by decide)
            · rw [H.s1] at hr; cases hr; rcases hc with rfl | rfl <;> exact absurd hcell (by decide)
          · exact q1
        obtain ⟨mv, hmv, h2⟩ := hV i i2 hi
        have c0 : 0 ≤ cell := by (first | lia | omega)
        refine andT (cmpI (x := (.int cell, .fro)) (y := (.int 0, .fro)) (by kernel_rfl) (by kernel_rfl) (by kernel_rfl) (by show some (decide _) = _; rw [decide_eq_true (by (first | lia | omega))])) (andF (cmpI (x := (.int (Builtin.bitAnd (mv.fdiv (2 ^ cell.toNat)) 1), .fro)) (y := (.int 0, .fro)) (by kernel_rfl)
          (binI (x := (.int (mv.fdiv (2 ^ cell.toNat)), .fro)) (y := (.int 1, .fro)) (binI (x := (.int mv, .fro)) (y := (.int cell, .fro)) (subI (by kernel_rfl) (x := (.list hs, .fro)) (y := (.int i, .fro)) (by kernel_rfl) (by kernel_rfl) (nth_of hmv (by (first | lia | omega)))) (by kernel_rfl) (by show (if _ then _ else _) = _; rw [if_pos c0])) (by kernel_rfl) rfl) (by kernel_rfl) (congrArg some (bit_ok h2 hc))))
    · rintro ρ ⟨v, τ, hτ, rfl⟩
      exact wRet (d := .list (R.map oD)) (fr := false) (by kernel_rfl) rfl
end
end Mine

set_option maxHeartbeats 2000000
namespace Mine
noncomputable def fLaidRows : {fd : FD // theDefs[63]? = some (("laid_rows" : Str), fd)} := ⟨_, rfl⟩
theorem fLaidRowsL : lkS "laid_rows" theDefs = some fLaidRows.1 := by kernel_rfl
noncomputable def gsN (R : List Row) (t : List Bool) : Nat → List Int
  | 0 => [-1, -1, -1]
  | i + 1 => match R[i]? with
    | some r => if t.getD i false = true then gsN R t i ++ gAll r i else gsN R t i
    | none => gsN R t i
noncomputable def psN (R : List Row) (t : List Bool) : Nat → List (Int × Int)
  | 0 => []
  | i + 1 => if t.getD i false = true then psN R t i ++ [((i : Int), ((gsN R t i).length : Int))] else psN R t i
noncomputable def failB (gs : List Int) : Bool := (gs.map fun g => g == -2).any id
noncomputable def gsF (R : List Row) : List Int := let gs := gsN R (reachN R R.length) R.length; if failB gs = true then gs ++ [-1, -1] else gs
noncomputable def psF (R : List Row) : List (Int × Int) := let t := reachN R R.length; let gs := gsN R t R.length; let ps := psN R t R.length; if failB gs = true then ps ++ [(-2, (gs.length : Int))] else ps
noncomputable def pD (ps : List (Int × Int)) : List (Int × D) := ps.map fun p => (p.1, .int p.2)
theorem gAll_len (r : Row) (a : Int) : (gAll r a).length ≤ 11 := by
  unfold gAll
  split
  · unfold gJ; repeat' split
    all_goals simp
  · unfold gOf; repeat' split
    · unfold gLd; repeat' split
      all_goals simp
    all_goals simp
set_option tactic.hygienic true in
theorem gsN_len (R : List Row) (t : List Bool) : ∀ i, (gsN R t i).length ≤ 3 + 11 * i
  | 0 => by simp [gsN]
  | i + 1 => by
    have := gsN_len R t i
    unfold gsN
    split
    · rename_i r hr
      split
      · have := gAll_len r i; rw [List.length_append]; (first | lia | omega)
      · (first | lia | omega)
    · (first | lia | omega)
theorem psN_keys (R : List Row) (t : List Bool) : ∀ i, ∀ p ∈ psN R t i, 0 ≤ p.1 ∧ p.1 < (i : Int)
  | 0, p, h => nomatch h
  | i + 1, p, h => by
    unfold psN at h
    split at h
    · rcases List.mem_append.mp h with h | h
      · have := psN_keys R t i p h; (first | lia | omega)
      · rw [List.mem_singleton] at h; subst h; dsimp only; (first | lia | omega)
    · have := psN_keys R t i p h; (first | lia | omega)
theorem psN_len (R : List Row) (t : List Bool) : ∀ i, (psN R t i).length ≤ i
  | 0 => by simp [psN]
  | i + 1 => by
    have := psN_len R t i
    unfold psN
    split
    · rw [List.length_append]; simp; (first | lia | omega)
    · (first | lia | omega)
theorem dput_new {es : List (Int × Int)} {k v : Int} (h : ∀ p ∈ es, p.1 ≠ k) : dput (pD es) k (.int v) = pD (es ++ [(k, v)]) := by
  unfold dput
  rw [if_neg]
  · simp [pD]
  · intro q
    rw [List.any_eq_true] at q
    obtain ⟨e, he, q⟩ := q
    obtain ⟨p, hp, rfl⟩ := List.mem_map.mp he
    exact h p hp (of_decide_eq_true q)
set_option tactic.hygienic true in
theorem RowsOk.app {W W' : List D} {gs gs' : List Int} (h : RowsOk W gs) (h' : RowsOk W' gs') : RowsOk (W ++ W') (gs ++ gs') := by
  obtain ⟨ks, h1, h2, rfl⟩ := h
  obtain ⟨ks', h1', h2', rfl⟩ := h'
  have key : ∀ {W W' : List D} {ks ks' : List (Int × Int)}, keysD W = some ks → keysD W' = some ks' → keysD (W ++ W') = some (ks ++ ks') := by
    intro W
    induction W with
    | nil => intro W' ks ks' e e'; cases e; exact e'
    | cons d W ih =>
      intro W' ks ks' e e'
      rw [keysD] at e
      rw [List.cons_append, keysD]
      split at e
      · rename_i l hl
        obtain ⟨k2, e2, rfl⟩ := Option.map_eq_some_iff.mp e
        rw [ih e2 e']; rfl
      · cases e
  exact ⟨_, key h1 h1', fun p hp => (List.mem_append.mp hp).elim (h2 p) (h2' p), by rw [List.map_append]⟩
theorem RowsOk.len {W : List D} {gs : List Int} (h : RowsOk W gs) : W.length = gs.length := by
  obtain ⟨ks, h1, h2, rfl⟩ := h
  obtain ⟨ls, rfl, rfl⟩ := keysD_eq h1
  simp
section
variable {cx : Cx} {mu : List Str} {sc : Scope} {ρ ρ' : Rho} {P : Fl → Prop}
theorem compI {elt t it : Expr} {ifs : List Expr} {scope : Scope} {p : Pos} {ds : List D} {m : Mode} {f : D → Option D} (h1 : (scopeOk sc scope && freeOk scope ρ && names1 scope t && iterOk it) = true) (he : ev cx it sc ρ = some (.list ds, m)) (hm : m ≠ .bor) (hn : ds.length ≤ 100000)
    (h : ∀ d ∈ ds, ((bindT t d).bind fun b => (trs cx ifs scope (compRho scope b ρ)).bind fun c => if c = true then (ev cx elt scope (compRho scope b ρ)).bind fun y => if y.2 = .bor then none else some (some y.1) else some none) = some (f d)) :
    ev cx (.ListComp elt [⟨t, it, ifs, 0⟩] scope p) sc ρ = some (.list (ds.filterMap f), .fre) := by
  simp only [Bool.and_eq_true] at h1
  rw [eComp, if_pos ⟨h1.1.1.1, h1.1.1.2, h1.1.2, h1.2⟩, he, Option.bind_some, if_neg hm, iter_list _ hn, Option.bind_some, if_pos hn]
  have key : ∀ {g : D → Option (Option D)} {l : List D}, (∀ d ∈ l, g d = some (f d)) → compGo g l = some (l.filterMap f) := by
    intro g l
    induction l with
    | nil => intro _; rfl
    | cons d l ih =>
      intro hl
      rw [compGo, hl d (List.mem_cons_self ..), Option.bind_some, ih fun d hd => hl d (List.mem_cons_of_mem _ hd)]
      cases q : f d <;> simp [q]
  rw [key h]; rfl
end

noncomputable def f0 : List LR := [⟨191, 9, 1, 0, 0, -1⟩, ⟨180, 7, 0, 0, 0, -1⟩, ⟨180, 8, 0, 0, 0, -1⟩]
noncomputable def e0 : List LR := [⟨180, 0, 0, 0, 0, -1⟩, ⟨149, 0, 0, 0, 0, -1⟩]
theorem f0_ok : RowsOk (f0.map lrD) [-1, -1, -1] := ⟨[(191, -1), (180, -1), (180, -1)], by kernel_rfl, by decide, rfl⟩
theorem e0_ok : RowsOk (e0.map lrD) [-1, -1] := ⟨[(180, -1), (149, -1)], by kernel_rfl, by decide, rfl⟩
noncomputable def rho_lr (R : List Row) (W : List D) (ps : List (Int × D)) (t : List Bool) (τ : Rho) : Rho := ("orders", .list (R.map oD), .fro) :: ("rows", .list W, .fro) :: ("places", .dict ps, .bor) :: ("is_there", .list (bD t), .fro) :: τ
section
variable {F : Fct} (C : Closed F)
include C
theorem laid_ok {R : List Row} (H : Rows R) : ∃ W : List D, F 11 "laid_rows" [.list (R.map oD)] (.tup [.list W, .dict (pD (psF R))], false) ∧ RowsOk W (gsF R) := by
  have h10 := H.l10
  have h4 := H.l4
  have hol : (R.map oD).length = R.length := List.length_map ..
  have ex1 : ∀ i : Nat, ∃ p : List D × Bool, ∀ r, R[i]? = some r → F 10 "rows_of" [oD r, .int i] (.list p.1, p.2) ∧ RowsOk p.1 (gAll r i) := by
    intro i
    cases hr : R[i]? with
    | none => exact ⟨([], false), fun r q => by cases q⟩
    | some r =>
      obtain ⟨W, fr, h1, h2⟩ := (H.kind i r hr).rows C (a := i) (by (first | lia | omega))
      exact ⟨(W, fr), fun r' q => by cases q; exact ⟨h1, h2⟩⟩
  obtain ⟨wf, hwf⟩ := Classical.axiomOfChoice ex1
  let S1 : List D → D × Bool → Prop := fun es q => ∃ (a : Nat) (r : Row), R[a]? = some r ∧ es = [oD r, .int a] ∧ q = (.list (wf a).1, (wf a).2)
  let S2 : List D → D × Bool → Prop := fun es q => es = [.list (R.map oD)] ∧ q = (.list (bD (reachN R R.length)), true)
  have p1 : ∀ {a : Nat} {r : Row}, R[a]? = some r → pick S1 [oD r, .int a] = some (.list (wf a).1, (wf a).2) := fun {a r} h => pick_uniq ⟨a, r, h, rfl, rfl⟩ fun q ⟨a', r', h', e, eq⟩ => by
    simp only [List.cons.injEq, D.int.injEq, Int.natCast_inj, and_true] at e
    rw [e.2]; exact eq
  have p2 : pick S2 [.list (R.map oD)] = some (.list (bD (reachN R R.length)), true) := pick_uniq ⟨rfl, rfl⟩ fun q h => h.2
  generalize hT : withS S1 "rows_of" (withS S2 "reached_filters" (runT [] 10)) = T
  have jT : Just F 10 T := by
    rw [← hT]
    refine withS_just ?_ (withS_just ?_ (just C 10))
    · rintro es q ⟨a, r, h, rfl, rfl⟩; exact (hwf a r h).1
    · rintro es q ⟨rfl, rfl⟩; exact C.le (reached_ok C H) (by (first | lia | omega))
  have hlen : ∀ l : List D, l.length ≤ 1000000 → T "len" [.list l] = some (.int l.length, false) := by
    intro l hl
    have : T "len" [.list l] = if l.length ≤ 1000000 then some (.int l.length, false) else none := by rw [← hT]; kernel_rfl
    rw [this, if_pos hl]
  have hrange : ∀ n, T "range" [.int n] = some (.rng 0 n, false) := fun n => by rw [← hT]; kernel_rfl
  have hany : ∀ l, T "any" [.list l] = (boolsOf l).map fun l => (.bool (l.any id), false) := fun l => by rw [← hT]; kernel_rfl
  have hrw : ∀ {a : Nat} {r : Row}, R[a]? = some r → T "rows_of" [oD r, .int a] = some (.list (wf a).1, (wf a).2) := fun h => by rw [← hT]; exact withS_same.trans (p1 h)
  have hre : T "reached_filters" [.list (R.map oD)] = some (.list (bD (reachN R R.length)), true) := by rw [← hT]; exact Eq.trans (b := pick S2 [.list (R.map oD)]) (by kernel_rfl) p2
  have hfi : T "first_rows" [] = some (.list (f0.map lrD), true) := by rw [← hT]; kernel_rfl
  have hsn : T "set_number" [.int 0, .int 0] = some (lrD ⟨180, 0, 0, 0, 0, -1⟩, false) := by rw [← hT]; kernel_rfl
  have hle : T "leave" [] = some (orD 149 0 0 0 0, false) := by rw [← hT]; kernel_rfl
  have hla : T "Laid" [orD 149 0 0 0 0] = some (lrD ⟨149, 0, 0, 0, 0, -1⟩, false) := by rw [← hT]; kernel_rfl
  clear hT p1 p2
  generalize ht : reachN R R.length = t at hre
  have htl : t.length = R.length := by rw [← ht]; exact reachN_len R _
  have main : Wx ⟨con0, T, fld0⟩ fLaidRows.1.mu fLaidRows.1.scope fLaidRows.1.body (rho0 fLaidRows.1.params [.list (R.map oD)]) (fun fl => ∃ W : List D, flVal fl = (.tup [.list W, .dict (pD (psF R))], false) ∧ RowsOk W (gsF R)) := by
    refine wSeq (ρ' := [("orders", .list (R.map oD), .fro), ("rows", .list (f0.map lrD), .fro), ("places", .dict [], .bor)]) ?_ ?_
    · rw [xAsgT, if_pos (by kernel_rfl), if_pos ⟨by kernel_rfl, by kernel_rfl⟩]
      rw [show ∀ r, evm ⟨con0, T, fld0⟩ fLaidRows.1.scope r (rho0 fLaidRows.1.params [.list (R.map oD)]) = evm ⟨con0, T, fld0⟩ fLaidRows.1.scope r [("orders", .list (R.map oD), .fro)] from fun _ => rfl]
      rw [mCons, callI (ds := []) (d := .list (f0.map lrD)) (fr := true) (by kernel_rfl) (by kernel_rfl) (by kernel_rfl) (by kernel_rfl) (by decide +kernel) (by kernel_rfl) hfi]
      kernel_rfl
    refine wSeq (ρ' := rho_lr R (f0.map lrD) [] t []) ?_ ?_
    · exact (asgI (m := .fre) (by kernel_rfl) (callI (ds := [.list (R.map oD)]) (d := .list (bD t)) (fr := true) (by kernel_rfl) (by kernel_rfl) (by kernel_rfl) (by kernel_rfl) (by decide +kernel) (by kernel_rfl) hre) (by simp)).trans (by kernel_rfl)
    have elen : ∀ {ρ : Rho} {lp p op : Pos} {x : Str} {l : List D} {m : Mode}, x ≠ ("__debug__" : Str) → m ≠ .bor → Rho.get "len" ρ = none → Rho.get x ρ = some (.list l, m) → l.length ≤ 1000000 → ev ⟨con0, T, fld0⟩ (.Call (.Name "len" lp) [.Name x op] [] p) fLaidRows.1.scope ρ = some (.int l.length, .fro) := by
      intro ρ lp p op x l m hx hm h1 h2 h3
      refine callI (ds := [.list l]) (d := .int l.length) (fr := false) (by kernel_rfl) (by kernel_rfl) (by rw [h1]; rfl) (by kernel_rfl) (by decide +kernel) (evsI (m := m) ?_ hm rfl) (hlen l h3)
      rw [eName, if_neg hx, h2]
    refine wFor (forRange (n := R.length) (by kernel_rfl) (by kernel_rfl) (by kernel_rfl) (by kernel_rfl) (evsI (m := .fro) (by rw [elen (l := R.map oD) (m := .fro) (by decide +kernel) (by simp) (by kernel_rfl) (by kernel_rfl) (by (first | lia | omega)), hol]) (by simp) (by kernel_rfl)) (hrange _) (by (first | lia | omega)))
      (fun i ρ => ∃ (W : List D) (τ : Rho), Tl1 "at" τ ∧ RowsOk W (gsN R t i) ∧ ρ = rho_lr R W (pD (psN R t i)) t τ) ⟨_, [], .inl rfl, f0_ok, rfl⟩ ?_ ?_
    · rintro i d ρ hd ⟨W, τ, hτ, hW, rfl⟩
      rw [List.getElem?_map] at hd
      obtain ⟨j, hj', rfl⟩ := Option.map_eq_some_iff.mp hd
      obtain ⟨hi, rfl⟩ := List.getElem?_eq_some_iff.mp hj'
      rw [List.length_range] at hi
      rw [List.getElem_range]
      obtain ⟨r, hr⟩ : ∃ r, R[i]? = some r := ⟨_, List.getElem?_eq_getElem hi⟩
      have hWl := hW.len
      have hgl := gsN_len R t i
      show Wx _ _ _ _ (Rho.set "at" (.int i, .fro) (rho_lr R W (pD (psN R t i)) t τ)) _
      rw [show Rho.set "at" (.int i, .fro) (rho_lr R W (pD (psN R t i)) t τ) = rho_lr R W (pD (psN R t i)) t (at1 (.int i, .fro)) by rcases hτ with rfl | ⟨v, rfl⟩ <;> kernel_rfl]
      refine wIf (c := t.getD i false) ?_ (fun hc => ?_) fun hc => ?_
      · rw [tS, subI (by kernel_rfl) (x := (.list (bD t), .fro)) (y := (.int i, .fro)) (by kernel_rfl) (by kernel_rfl) (nth_bool (by (first | lia | omega)) (by (first | lia | omega)))]; rfl
      · refine wSeq (ρ' := rho_lr R W (pD (psN R t (i + 1))) t (at1 (.int i, .fro))) ?_ ?_
        · rw [storeI (d := .dict (pD (psN R t i))) (d' := .dict (pD (psN R t (i + 1)))) (vd := .int W.length) (j := (.int i, .fro)) (m := .fro) (by kernel_rfl) (by decide +kernel) (by kernel_rfl) (elen (l := W) (m := .fro) (by decide +kernel) (by simp) (by kernel_rfl) (by kernel_rfl) (by (first | lia | omega))) (by simp) (by kernel_rfl) ?_]
          · kernel_rfl
          · show (if _ then _ else _) = _
            rw [if_pos (by have := psN_len R t i; simp only [pD, List.length_map]; (first | lia | omega)), dput_new (fun p hp => by have := psN_keys R t i p hp; (first | lia | omega))]
            have : psN R t (i + 1) = psN R t i ++ [((i : Int), ((gsN R t i).length : Int))] := by rw [psN, if_pos hc]
            rw [this, hWl]
        · have hr2 := (hwf i r hr).2
          have : gsN R t (i + 1) = gsN R t i ++ gAll r i := by rw [gsN, hr]; exact if_pos hc
          have hWl2 := hr2.len
          have hgl2 := gAll_len r i
          refine wSeq (ρ' := rho_lr R (W ++ (wf i).1) (pD (psN R t (i + 1))) t (at1 (.int i, .fro))) ?_ (wNil ⟨_, rfl, W ++ (wf i).1, at1 (.int i, .fro), .inr ⟨_, rfl⟩, by rw [this]; exact hW.app hr2, rfl⟩)
          exact (asgI (d := .list (W ++ (wf i).1)) (m := .fre) (by kernel_rfl) (binI (x := (.list W, .fro)) (y := (.list (wf i).1, if (wf i).2 then .fre else .fro)) (by kernel_rfl) (callI (ds := [oD r, .int i]) (d := .list (wf i).1) (fr := (wf i).2) (by kernel_rfl) (by kernel_rfl) (by kernel_rfl) (by kernel_rfl) (by decide +kernel)
            (evsI (m := .fro) (subI (by kernel_rfl) (x := (.list (R.map oD), .fro)) (y := (.int i, .fro)) (by kernel_rfl) (by kernel_rfl) (at_os hr h10)) (by simp) (by kernel_rfl)) (hrw hr)) (by show (if _ then _ else _) = _; rw [if_pos (by (first | lia | omega))])) (by simp)).trans (by kernel_rfl)
      · have g1 : gsN R t (i + 1) = gsN R t i := by rw [gsN, hr]; exact if_neg (by rw [hc]; exact Bool.false_ne_true)
        have g2 : psN R t (i + 1) = psN R t i := by rw [psN, if_neg (by rw [hc]; exact Bool.false_ne_true)]
        exact wNil ⟨_, rfl, W, at1 (.int i, .fro), .inr ⟨_, rfl⟩, by rw [g1]; exact hW, by rw [g2]⟩
    · rintro ρ ⟨W, τ, hτ, hW, rfl⟩
      rw [List.length_map, List.length_range] at hW ⊢
      have hWl := hW.len
      have hgl := gsN_len R t R.length
      obtain ⟨ks, hk1, hk2, hk3⟩ := hW
      obtain ⟨ls, hls, rfl⟩ := keysD_eq hk1
      have hbo : ∀ ls : List LR, boolsOf ((ls.map lrD).filterMap fun d => some (D.bool (match keyD d with | some l => l.g == -2 | none => false))) = some ((ls.map (·.g)).map fun g => g == -2) := by
        intro ls
        induction ls with
        | nil => rfl
        | cons l ls ih =>
          have e : keyD (lrD l) = some l := by kernel_rfl
          simp only [List.map_cons, List.filterMap_cons, e, boolsOf] at ih ⊢
          rw [ih]; rfl
      subst hls
      have hW' : RowsOk (ls.map lrD) (gsN R t R.length) := ⟨_, hk1, hk2, hk3⟩
      have hk4 : ls.map (·.g) = gsN R t R.length := by rw [← hk3, List.map_map]; rfl
      refine wIf (c := failB (gsN R t R.length)) ?_ (fun hc => ?_) fun hc => ?_
      · refine trCall (m := .fro) (callI (ds := [.list ((ls.map lrD).filterMap fun d => some (D.bool (match keyD d with | some l => l.g == -2 | none => false)))]) (d := .bool (failB (gsN R t R.length))) (fr := false) (by kernel_rfl) (by kernel_rfl) (by rcases hτ with rfl | ⟨v, rfl⟩ <;> kernel_rfl) (by kernel_rfl) (by decide +kernel)
          (evsI (m := .fre) (compI (ds := ls.map lrD) (f := fun d => some (D.bool (match keyD d with | some l => l.g == -2 | none => false))) (m := .fro) (by rcases hτ with rfl | ⟨v, rfl⟩ <;> kernel_rfl) (by kernel_rfl) (by simp) (by (first | lia | omega)) (fun d hd => ?_)) (by simp) rfl) ?_)
        · obtain ⟨l, _, rfl⟩ := List.mem_map.mp hd
          rcases hτ with rfl | ⟨v, rfl⟩ <;> kernel_rfl
        · show T "any" _ = _
          rw [hany, hbo, hk4]; rfl
      · refine wSeq (ρ' := rho_lr R (ls.map lrD) (pD (psN R t R.length ++ [(-2, ((gsN R t R.length).length : Int))])) t τ) ?_ ?_
        · rw [storeI (d := .dict (pD (psN R t R.length))) (d' := .dict (pD (psN R t R.length ++ [(-2, ((gsN R t R.length).length : Int))]))) (vd := .int (ls.map lrD).length) (j := (.int (-2), .fro)) (m := .fro) (by kernel_rfl) (by decide +kernel) (by kernel_rfl) (elen (l := ls.map lrD) (m := .fro) (by decide +kernel) (by simp) (by rcases hτ with rfl | ⟨v, rfl⟩ <;> kernel_rfl) (by kernel_rfl) (by (first | lia | omega))) (by simp) (by rcases hτ with rfl | ⟨v, rfl⟩ <;> kernel_rfl) ?_]
          · kernel_rfl
          · show (if _ then _ else _) = _
            rw [if_pos (by have := psN_len R t R.length; simp only [pD, List.length_map]; (first | lia | omega)), hWl, dput_new (fun p hp => by have := psN_keys R t R.length p hp; (first | lia | omega))]
        have hps : psF R = psN R t R.length ++ [(-2, ((gsN R t R.length).length : Int))] := by unfold psF; rw [ht]; exact if_pos hc
        have hgs : gsF R = gsN R t R.length ++ [-1, -1] := by unfold gsF; rw [ht]; exact if_pos hc
        refine wSeq (ρ' := rho_lr R (ls.map lrD ++ e0.map lrD) (pD (psN R t R.length ++ [(-2, ((gsN R t R.length).length : Int))])) t τ) ?_ ?_
        · rw [asgI (d := .list (ls.map lrD ++ e0.map lrD)) (m := .fre) (by kernel_rfl) (binI (x := (.list (ls.map lrD), .fro)) (y := (.list (e0.map lrD), .fre)) (by kernel_rfl) ?_ (by show (if _ then _ else _) = _; rw [if_pos (by rw [hWl]; simp [e0]; (first | lia | omega))])) (by simp)]
          · kernel_rfl
          · rw [eList, if_pos (by kernel_rfl), evsI (d := lrD ⟨180, 0, 0, 0, 0, -1⟩) (m := .fro) (callI (ds := [.int 0, .int 0]) (fr := false) (by kernel_rfl) (by kernel_rfl) (by rcases hτ with rfl | ⟨v, rfl⟩ <;> kernel_rfl) (by kernel_rfl) (by decide +kernel) (by kernel_rfl) hsn) (by simp)
              (evsI (d := lrD ⟨149, 0, 0, 0, 0, -1⟩) (m := .fro) (callI (ds := [orD 149 0 0 0 0]) (fr := false) (by kernel_rfl) (by kernel_rfl) (by rcases hτ with rfl | ⟨v, rfl⟩ <;> kernel_rfl) (by kernel_rfl) (by decide +kernel)
                (evsI (m := .fro) (callI (ds := []) (fr := false) (by kernel_rfl) (by kernel_rfl) (by rcases hτ with rfl | ⟨v, rfl⟩ <;> kernel_rfl) (by kernel_rfl) (by decide +kernel) rfl hle) (by simp) rfl) hla) (by simp) rfl)]
            rfl
        · rw [← hps]
          exact wRet (d := .tup [.list (ls.map lrD ++ e0.map lrD), .dict (pD (psF R))]) (fr := false) (by kernel_rfl) ⟨_, rfl, by rw [hgs]; exact hW'.app e0_ok⟩
      · have hps : psF R = psN R t R.length := by unfold psF; rw [ht]; exact if_neg (by rw [hc]; exact Bool.false_ne_true)
        have hgs : gsF R = gsN R t R.length := by unfold gsF; rw [ht]; exact if_neg (by rw [hc]; exact Bool.false_ne_true)
        refine wRet (d := .tup [.list (ls.map lrD), .dict (pD (psF R))]) (fr := false) ?_ ⟨_, rfl, by rw [hgs]; exact hW'⟩
        rw [hps]; kernel_rfl
  obtain ⟨fl, e, W, q, p⟩ := main
  exact ⟨W, enter C (by decide +kernel) fLaidRowsL jT (by kernel_rfl) ⟨fl, e, q⟩, p⟩
end
end Mine

set_option maxHeartbeats 2000000
namespace Mine
theorem getD_set {t : List Bool} {i j : Nat} {b : Bool} : (t.set i b).getD j false = if i = j ∧ i < t.length then b else t.getD j false := by
  rw [List.getD_eq_getElem?_getD, List.getElem?_set, List.getD_eq_getElem?_getD]
  by_cases h : i = j
  · subst h
    by_cases h2 : i < t.length
    · simp [h2]
    · simp [h2]
  · simp [h]
theorem setT_get : ∀ (gs : List Int) (t : List Bool) (j : Nat), (∀ g ∈ gs, 0 ≤ g ∧ g < t.length) → (setT t gs).getD j false = (t.getD j false || decide ((j : Int) ∈ gs))
  | [], t, j, _ => by simp [setT]
  | g :: gs, t, j, h => by
    have hg := h g (List.mem_cons_self ..)
    have e : setT t (g :: gs) = setT (t.set g.toNat true) gs := rfl
    rw [e, setT_get gs _ j fun x hx => by rw [List.length_set]; exact h x (List.mem_cons_of_mem _ hx), getD_set]
    by_cases q : g.toNat = j
    · rw [if_pos ⟨q, by (first | lia | omega)⟩]
      have : (j : Int) = g := by (first | lia | omega)
      simp [this]
    · rw [if_neg fun x => q x.1]
      have : ¬ (j : Int) = g := by (first | lia | omega)
      simp [this]
section
variable {R : List Row} (H : Rows R)
include H
theorem stepT_get {t : List Bool} (ht : t.length = R.length) (i j : Nat) {r : Row} (hr : R[i]? = some r) : (stepT R t i).getD j false = (t.getD j false || (t.getD i false && decide ((j : Int) ∈ folOf r i))) := by
  unfold stepT
  rw [hr]
  dsimp only
  cases q : t.getD i false with
  | true =>
    rw [if_pos rfl, setT_get _ _ _ fun g hg => by have := fol_in H hr g hg; (first | lia | omega)]; rfl
  | false => simp
theorem reach_mono {j : Nat} (k : Nat) {g : Nat} (h : (reachN R j).getD g false = true) : (reachN R (j + k)).getD g false = true := by
  induction k with
  | zero => exact h
  | succ k ih =>
    rw [← Nat.add_assoc, reachN_succ]
    cases q : R[j + k]? with
    | none => unfold stepT; rw [q]; exact ih
    | some r => rw [stepT_get H (reachN_len R _) _ _ q, ih]; rfl
theorem reach_stable {i : Nat} (k : Nat) : (reachN R (i + k)).getD i false = (reachN R i).getD i false := by
  induction k with
  | zero => rfl
  | succ k ih =>
    rw [← Nat.add_assoc, reachN_succ]
    cases q : R[i + k]? with
    | none => unfold stepT; rw [q]; exact ih
    | some r =>
      rw [stepT_get H (reachN_len R _) _ _ q, ih]
      have : ¬ (i : Int) ∈ folOf r ((i + k : Nat) : Int) := fun h => by have := (fol_in H q _ h).1; (first | lia | omega)
      rw [decide_eq_false this, Bool.and_false, Bool.or_false]
theorem reach_next {i : Nat} {r : Row} (hr : R[i]? = some r) (h : (reachN R R.length).getD i false = true) {g : Int} (hg : g ∈ folOf r i) : (reachN R R.length).getD g.toNat false = true := by
  have hi := (List.getElem?_eq_some_iff.mp hr).1
  have e : (reachN R R.length).getD i false = (reachN R i).getD i false := by
    have := reach_stable H (i := i) (R.length - i)
    rwa [Nat.add_sub_cancel' (Nat.le_of_lt hi)] at this
  rw [e] at h
  have h2 : (reachN R (i + 1)).getD g.toNat false = true := by
    have hp := fol_in H hr g hg
    rw [reachN_succ, stepT_get H (reachN_len R _) _ _ hr, h]
    have : ((g.toNat : Nat) : Int) ∈ folOf r i := by rwa [Int.toNat_of_nonneg (by (first | lia | omega))]
    rw [decide_eq_true this]; simp
  have := reach_mono H (R.length - (i + 1)) h2
  rwa [Nat.add_sub_cancel' hi] at this
set_option tactic.hygienic true in
omit H in
theorem gJ_fol {r : Row} {a g : Int} (h : g ∈ gJ r a) : g ∈ folJ r a := by
  unfold gJ at h
  unfold folJ
  split at h
  · rename_i e; rw [if_pos e]
    split at h
    · exact h
    · cases h
  · rename_i e; rw [if_neg e]
    split at h
    · split at h
      · rw [List.mem_singleton] at h; subst h; simp
      · cases h
    · split at h
      · rw [List.mem_singleton] at h; subst h; simp
      · split at h
        · rw [List.mem_singleton] at h; subst h; simp
        · exact h
omit H in
theorem gAll_fol {i : Nat} {r : Row} (hr : R[i]? = some r) {g : Int} (h : g ∈ gAll r i) : g = -1 ∨ g = -2 ∨ g ∈ folOf r i := by
  unfold gAll at h
  unfold folOf
  by_cases q : jmpB r.c = true
  · rw [if_pos q] at h ⊢; exact .inr (.inr (gJ_fol h))
  · rw [if_neg q] at h
    have : ∀ g ∈ gOf r, g = -1 ∨ g = -2 := by
      unfold gOf gLd
      intro g hg
      repeat' split at hg
      all_goals simp at hg; (first | lia | omega)
    exact (this g h).elim .inl fun x => .inr (.inl x)
omit H in
theorem psN_mem {t : List Bool} : ∀ {n : Nat} {i : Nat}, i < n → t.getD i false = true → ((i : Int), ((gsN R t i).length : Int)) ∈ psN R t n
  | n + 1, i, h, q => by
    unfold psN
    rcases Nat.lt_or_ge i n with h2 | h2
    · have := psN_mem h2 q
      split
      · exact List.mem_append_left _ this
      · exact this
    · have : i = n := by (first | lia | omega)
      subst this
      rw [if_pos q]; simp
set_option tactic.hygienic true in
omit H in
theorem gsN_mem {t : List Bool} {g : Int} : ∀ {n : Nat}, g ∈ gsN R t n → g = -1 ∨ ∃ (i : Nat) (r : Row), i < n ∧ R[i]? = some r ∧ t.getD i false = true ∧ g ∈ gAll r i
  | 0, h => by simp [gsN] at h; exact .inl h
  | n + 1, h => by
    unfold gsN at h
    split at h
    · rename_i r hr
      split at h
      · rename_i ht
        rcases List.mem_append.mp h with h | h
        · exact (gsN_mem h).imp id fun ⟨i, r, a, b, c, d⟩ => ⟨i, r, by (first | lia | omega), b, c, d⟩
        · exact .inr ⟨n, r, by (first | lia | omega), hr, ht, h⟩
      · exact (gsN_mem h).imp id fun ⟨i, r, a, b, c, d⟩ => ⟨i, r, by (first | lia | omega), b, c, d⟩
    · exact (gsN_mem h).imp id fun ⟨i, r, a, b, c, d⟩ => ⟨i, r, by (first | lia | omega), b, c, d⟩
theorem goal_place {g : Int} (h : g ∈ gsF R) (h1 : g ≠ -1) : ∃ v : Int, (g, v) ∈ psF R ∧ 0 ≤ v ∧ v ≤ 113 := by
  unfold gsF at h
  unfold psF
  dsimp only at h ⊢
  have h10 := H.l10
  have hl := gsN_len R (reachN R R.length) R.length
  have main : g ∈ gsN R (reachN R R.length) R.length → ∃ v : Int, (g, v) ∈ (if failB (gsN R (reachN R R.length) R.length) = true then psN R (reachN R R.length) R.length ++ [(-2, ((gsN R (reachN R R.length) R.length).length : Int))] else psN R (reachN R R.length) R.length) ∧ 0 ≤ v ∧ v ≤ 113 := by
    intro h
    rcases gsN_mem h with h | ⟨i, r, hi, hr, ht, hg⟩
    · exact absurd h h1
    · rcases gAll_fol hr hg with h | rfl | hf
      · exact absurd h h1
      · have : failB (gsN R (reachN R R.length) R.length) = true := by
          unfold failB; simp only [List.any_map, List.any_eq_true]; exact ⟨-2, h, by decide⟩
        rw [if_pos this]
        exact ⟨_, List.mem_append_right _ (List.mem_singleton.mpr rfl), by (first | lia | omega), by (first | lia | omega)⟩
      · have hb := fol_in H hr g hf
        have ht2 := reach_next H hr ht hf
        have := psN_mem (R := R) (n := R.length) (i := g.toNat) (by (first | lia | omega)) ht2
        rw [Int.toNat_of_nonneg (by (first | lia | omega))] at this
        refine ⟨((gsN R (reachN R R.length) g.toNat).length : Int), ?_, by (first | lia | omega), by have := gsN_len R (reachN R R.length) g.toNat; (first | lia | omega)⟩
        split
        · exact List.mem_append_left _ this
        · exact this
  by_cases hc : failB (gsN R (reachN R R.length) R.length) = true
  · rw [if_pos hc] at h
    rcases List.mem_append.mp h with h | h
    · exact main h
    · simp at h; exact absurd h h1
  · rw [if_neg hc] at h; exact main h
omit H in
theorem psN_nodup {t : List Bool} : ∀ n, ((psN R t n).map (·.1)).Nodup
  | 0 => by simp [psN]
  | n + 1 => by
    unfold psN
    split
    · rw [List.map_append, List.nodup_append]
      refine ⟨psN_nodup n, by simp, ?_⟩
      intro a ha b hb e
      simp only [List.map_cons, List.map_nil, List.mem_singleton] at hb
      subst hb; subst e
      obtain ⟨p, hp, e⟩ := List.mem_map.mp ha
      have := psN_keys R t n p hp
      (first | lia | omega)
    · exact psN_nodup n
omit H in
theorem psF_nodup : ((psF R).map (·.1)).Nodup := by
  unfold psF
  dsimp only
  split
  · rw [List.map_append, List.nodup_append]
    refine ⟨psN_nodup _, by simp, ?_⟩
    intro a ha b hb e
    simp only [List.map_cons, List.map_nil, List.mem_singleton] at hb
    subst hb; subst e
    obtain ⟨p, hp, e⟩ := List.mem_map.mp ha
    have := psN_keys R _ _ p hp
    (first | lia | omega)
  · exact psN_nodup _
omit H in
theorem dget_mem : ∀ {ps : List (Int × Int)} {g v : Int}, (ps.map (·.1)).Nodup → (g, v) ∈ ps → dget (pD ps) g = some (.int v)
  | [], _, _, _, h => nomatch h
  | (k, u) :: ps, g, v, hn, h => by
    rw [List.map_cons, List.nodup_cons] at hn
    unfold dget pD
    rw [List.map_cons, List.find?_cons]
    rcases List.mem_cons.mp h with h | h
    · cases h; simp
    · have : k ≠ g := fun q => hn.1 (q ▸ List.mem_map.mpr ⟨(g, v), h, rfl⟩)
      simp only [this, decide_false]
      exact dget_mem hn.2 h
end
end Mine

set_option maxHeartbeats 2000000
namespace Mine
noncomputable def fFitsSigned : {fd : FD // theDefs[1]? = some (("fits_signed" : Str), fd)} := ⟨_, rfl⟩
theorem fFitsSignedL : lkS "fits_signed" theDefs = some fFitsSigned.1 := by kernel_rfl
noncomputable def fAtDistance : {fd : FD // theDefs[64]? = some (("at_distance" : Str), fd)} := ⟨_, rfl⟩
theorem fAtDistanceL : lkS "at_distance" theDefs = some fAtDistance.1 := by kernel_rfl
noncomputable def fConverted : {fd : FD // theDefs[65]? = some (("converted" : Str), fd)} := ⟨_, rfl⟩
theorem fConvertedL : lkS "converted" theDefs = some fConverted.1 := by kernel_rfl
theorem branch_all (d s o i : Int) : (brs.map fun c => runT [] 4 "is_branch" [orD c d s o i]) = brs.map fun _ => some (.bool true, false) := by kernel_rfl
theorem branch_5 (d s o i : Int) : runT [] 4 "is_branch" [orD 5 d s o i] = some (.bool false, false) := by kernel_rfl
section
variable {cx : Cx} {mu : List Str} {sc : Scope} {ρ ρ' : Rho} {P : Fl → Prop}
theorem cmp2E {a e f : Expr} {p : Pos} {x y z : Int} {m m' m'' : Mode} {op op' : CmpOp} (hm : marksNo [e, f] = true) (ha : ev cx a sc ρ = some (.int x, m)) (he : ev cx e sc ρ = some (.int y, m')) (hf : ev cx f sc ρ = some (.int z, m''))
    (h : cmp op (.int x) (.int y) = some true) (h' : cmp op' (.int y) (.int z) = some true) : ev cx (.Compare a [op, op'] [e, f] p) sc ρ = some (.bool true, .fro) := by
  rw [eCmp, if_pos hm, ha, Option.bind_some, cTwo, he, Option.bind_some, h, Option.bind_some, if_pos rfl, cOne, hf, Option.bind_some, h']; rfl
noncomputable def pr1 : D → D
  | .tup [a, _] => a
  | _ => .none
noncomputable def pr2 : D → D
  | .tup [_, b] => b
  | _ => .none
theorem bind2 {x y : Str} {xp yp p : Pos} {k : Nat} {a b : D} (h : x ≠ y) : bindT (.Tuple [.Name x xp, .Name y yp] k p) (.tup [a, b]) = some [(x, a), (y, b)] := by
  show (if _ then _ else _) = _
  rw [if_pos ⟨rfl, by simpa using h⟩]; rfl
theorem forGo_congr {f g : D → Rho → Option Fl} : ∀ {ds : List D} {ρ : Rho}, (∀ d ∈ ds, ∀ ρ, f d ρ = g d ρ) → forGo f ds ρ = forGo g ds ρ
  | [], _, _ => rfl
  | d :: ds, ρ, h => by
    rw [gCons, gCons, h d (List.mem_cons_self ..)]
    cases g d ρ with
    | none => rfl
    | some fl => cases fl with
      | nxt ρ' => exact forGo_congr fun d hd => h d (List.mem_cons_of_mem _ hd)
      | ret => rfl
theorem enumP_get : ∀ (ds : List D) (k p : Nat), (enumD k ds)[p]? = ds[p]?.map fun d => .tup [.int ((k + p : Nat) : Int), d]
  | [], k, p => by simp [enumD]
  | d :: ds, k, 0 => by simp [enumD]
  | d :: ds, k, p + 1 => by rw [enumD, List.getElem?_cons_succ, enumP_get ds (k + 1) p, List.getElem?_cons_succ, Nat.add_right_comm]; rfl
theorem enumP_len : ∀ (ds : List D) (k : Nat), (enumD k ds).length = ds.length
  | [], k => rfl
  | d :: ds, k => by rw [enumD, List.length_cons, enumP_len ds, List.length_cons]
theorem forEnum {x y : Str} {xp yp tp fp q p : Pos} {k : Nat} {e : Expr} {body : List Stmt} {ds : List D} (hxy : x ≠ y) (hv : namesVar sc (.Tuple [.Name x xp, .Name y yp] k tp) = true) (hi : isEnum "enumerate" sc ρ = true) (hf : few [e] = true) (he : ev cx e sc ρ = some (.list ds, .fro)) (hn : ds.length ≤ 100000) :
    ex cx mu sc (.For (.Tuple [.Name x xp, .Name y yp] k tp) (.Call (.Name "enumerate" fp) [e] [] q) body [] p) ρ = forGo (fun d ρ => exs cx mu sc body (Rho.set y (pr2 d, .fro) (Rho.set x (pr1 d, .fro) ρ))) (enumD 0 ds) ρ := by
  rw [xForC, if_pos hv, if_pos ⟨hi, hf, rfl⟩, he, Option.bind_some]
  dsimp only
  rw [if_pos hn]
  refine forGo_congr fun d hd ρ => ?_
  obtain ⟨p, hp⟩ := List.mem_iff_getElem?.mp hd
  rw [enumP_get] at hp
  obtain ⟨b, _, rfl⟩ := Option.map_eq_some_iff.mp hp
  rw [bind2 hxy]; rfl
end
section
variable {F : Fct} (C : Closed F)
include C
theorem fits_ok {w : Int} (h0 : -32768 ≤ w) (h1 : w < 32768) : F 1 "fits_signed" [.int w, .int 16] (.bool true, false) := by
  refine enter C (by decide +kernel) fFitsSignedL (just C 0) (by kernel_rfl) (wRet (d := .bool true) (fr := false) ?_ rfl)
  rw [xRetK, cmp2E (x := -32768) (y := w) (z := 32768) (m := .fro) (m' := .fro) (m'' := .fro) (by kernel_rfl) (by kernel_rfl) (by kernel_rfl) (by kernel_rfl) (le_some h0) (by show some (decide _) = _; rw [decide_eq_true h1])]
  rfl
theorem dist_ok {c d s o i w : Int} (hc : (c == 5 || brs.contains c) = true) (h0 : -32768 ≤ w) (h1 : w < 32768) : ∃ c' d' s' i', F 5 "at_distance" [orD c d s o i, .int w] (orD c' d' s' w i', false) ∧ leadB c' = true ∧ c' ≠ 6 := by
  let S : List D → D × Bool → Prop := fun es q => es = [.int w, .int 16] ∧ q = (.bool true, false)
  have pS : pick S [.int w, .int 16] = some (.bool true, false) := pick_uniq ⟨rfl, rfl⟩ fun q h => h.2
  generalize hT : withS S "fits_signed" (runT [] 4) = T
  have jT : Just F 4 T := by rw [← hT]; exact withS_just (by rintro es q ⟨rfl, rfl⟩; exact C.le (fits_ok C h0 h1) (by (first | lia | omega))) (just C 4)
  have hfit : T "fits_signed" [.int w, .int 16] = some (.bool true, false) := by rw [← hT]; exact withS_same.trans pS
  have hbr : ∀ {b}, runT [] 4 "is_branch" [orD c d s o i] = some (.bool b, false) → T "is_branch" [orD c d s o i] = some (.bool b, false) := fun {b} h => by rw [← hT]; exact Eq.trans (b := runT [] 4 "is_branch" [orD c d s o i]) (by kernel_rfl) h
  have hor : T "Order" [.int c, .int d, .int s, .int w, .int i] = some (orD c d s w i, false) := by rw [← hT]; kernel_rfl
  have hju : T "jump" [.int w] = some (orD 5 0 0 w 0, false) := by rw [← hT]; kernel_rfl
  clear hT
  by_cases h5 : c = 5
  · subst h5
    refine ⟨5, 0, 0, 0, enter C (by decide +kernel) fAtDistanceL jT (by kernel_rfl) ?_, by decide, by decide⟩
    refine wIf (c := false) (trCall (m := .fro) (callI (ds := [orD 5 d s o i]) (d := .bool false) (fr := false) (by kernel_rfl) (by kernel_rfl) (by kernel_rfl) (by kernel_rfl) (by decide +kernel) (by kernel_rfl) (hbr (branch_5 d s o i)))) ff fun _ => ?_
    refine wRet (d := orD 5 0 0 w 0) (fr := false) ?_ rfl
    rw [xRetI, ifT (r := (orD 5 0 0 w 0, .fro)) (trCall (m := .fro) (callI (ds := [.int w, .int 16]) (d := .bool true) (fr := false) (by kernel_rfl) (by kernel_rfl) (by kernel_rfl) (by kernel_rfl) (by decide +kernel) (by kernel_rfl) hfit)) (callI (ds := [.int w]) (d := orD 5 0 0 w 0) (fr := false) (by kernel_rfl) (by kernel_rfl) (by kernel_rfl) (by kernel_rfl) (by decide +kernel) (by kernel_rfl) hju)]
    rfl
  · have hm : c ∈ brs := by simpa [h5] using hc
    have hl : leadB c = true ∧ c ≠ 6 := by
      have : ∀ c ∈ brs, leadB c = true ∧ c ≠ 6 := by decide
      exact this c hm
    refine ⟨c, d, s, i, enter C (by decide +kernel) fAtDistanceL jT (by kernel_rfl) ?_, hl⟩
    refine wIf (c := true) (trCall (m := .fro) (callI (ds := [orD c d s o i]) (d := .bool true) (fr := false) (by kernel_rfl) (by kernel_rfl) (by kernel_rfl) (by kernel_rfl) (by decide +kernel) (by kernel_rfl) (hbr (map_mem (branch_all d s o i) hm)))) (fun _ => ?_) tf
    refine wIf (c := false) (notI (b := true) (trCall (m := .fro) (callI (ds := [.int w, .int 16]) (d := .bool true) (fr := false) (by kernel_rfl) (by kernel_rfl) (by kernel_rfl) (by kernel_rfl) (by decide +kernel) (by kernel_rfl) hfit))) ff fun _ => ?_
    refine wRet (d := orD c d s w i) (fr := false) ?_ rfl
    rw [xRetF, callI (ds := [.int c, .int d, .int s, .int w, .int i]) (d := orD c d s w i) (fr := false) (by kernel_rfl) (by kernel_rfl) (by kernel_rfl) (by kernel_rfl) (by decide +kernel) (by kernel_rfl) hor]
    rfl
end
end Mine

set_option maxHeartbeats 2000000
namespace Mine
noncomputable def Told (R : List Row) (p : Nat) (l : LR) (d : D) : Prop := ∃ c d' s o i, d = orD c d' s o i ∧ ((l.g = -1 ∧ leadB c = false) ∨ (l.g ≠ -1 ∧ leadB c = true ∧ c ≠ 6 ∧ ∃ v, (l.g, v) ∈ psF R ∧ o = v - p - 1))
noncomputable def rho_cv (R : List Row) (W told : List D) (τ : Rho) : Rho := ("orders", .list (R.map oD), .fro) :: ("rows", .list W, .fro) :: ("places", .dict (pD (psF R)), .fro) :: ("found", .list told, .bor) :: τ
theorem gsF_len {R : List Row} (h10 : R.length ≤ 10) : (gsF R).length ≤ 115 := by
  have := gsN_len R (reachN R R.length) R.length
  unfold gsF
  dsimp only
  split
  · simp; (first | lia | omega)
  · (first | lia | omega)
abbrev CvI (R : List Row) (ls : List LR) (p : Nat) (ρ : Rho) : Prop := ∃ (told : List D) (τ : Rho), Tl2 "spot" "row" τ ∧ told.length = p ∧ (∀ q l, q < p → ls[q]? = some l → ∃ d, told[q]? = some d ∧ Told R q l d) ∧ ρ = rho_cv R (ls.map lrD) told τ
section
variable {F : Fct} (C : Closed F)
include C
theorem conv_ok {R : List Row} (H : Rows R) : ∃ (ls : List LR) (W told : List D), W = ls.map lrD ∧ ls.map (·.g) = gsF R ∧ F 11 "laid_rows" [.list (R.map oD)] (.tup [.list W, .dict (pD (psF R))], false) ∧ F 12 "converted" [.list (R.map oD)] (.list told, true) ∧ told.length = ls.length ∧ ∀ p l, ls[p]? = some l → ∃ d, told[p]? = some d ∧ Told R p l d := by
  have h10 := H.l10
  have hg10 := gsF_len h10
  obtain ⟨W, hF, hW⟩ := laid_ok C H
  obtain ⟨ks, hk1, hk2, hk3⟩ := hW
  obtain ⟨ls, rfl, rfl⟩ := keysD_eq hk1
  have hk4 : ls.map (·.g) = gsF R := by rw [← hk3, List.map_map]; rfl
  have hll : ls.length = (gsF R).length := by rw [← hk4, List.length_map]
  let S1 : List D → D × Bool → Prop := fun es q => es = [.list (R.map oD)] ∧ q = (.list (R.map oD), false)
  let S2 : List D → D × Bool → Prop := fun es q => es = [.list (R.map oD)] ∧ q = (.tup [.list (ls.map lrD), .dict (pD (psF R))], false)
  let S3 : List D → D × Bool → Prop := fun es q => ∃ (c d s o i w c' d' s' i' : Int), es = [orD c d s o i, .int w] ∧ q = (orD c' d' s' w i', false) ∧ leadB c' = true ∧ c' ≠ 6 ∧ F 5 "at_distance" es q
  have p1 : pick S1 [.list (R.map oD)] = some (.list (R.map oD), false) := pick_uniq ⟨rfl, rfl⟩ fun q h => h.2
  have p2 : pick S2 [.list (R.map oD)] = some (.tup [.list (ls.map lrD), .dict (pD (psF R))], false) := pick_uniq ⟨rfl, rfl⟩ fun q h => h.2
  have p3 : ∀ {c d s o i w : Int}, (c == 5 || brs.contains c) = true → -32768 ≤ w → w < 32768 → ∃ c' d' s' i', pick S3 [orD c d s o i, .int w] = some (orD c' d' s' w i', false) ∧ leadB c' = true ∧ c' ≠ 6 := by
    intro c d s o i w hc h0 h1
    obtain ⟨c1, d1, s1, i1, hF1, hl1, hn1⟩ := dist_ok C (d := d) (s := s) (o := o) (i := i) hc h0 h1
    obtain ⟨r', e, c0, d0, s0, o0, i0, w0, c', d', s', i', e1, rfl, hl, hn, _⟩ := pick_spec (S := S3) (es := [orD c d s o i, .int w]) (r := (orD c1 d1 s1 w i1, false)) ⟨_, _, _, _, _, _, _, _, _, _, rfl, rfl, hl1, hn1, hF1⟩
    simp only [List.cons.injEq, D.int.injEq, and_true] at e1
    rw [← e1.2] at e
    exact ⟨c', d', s', i', e, hl, hn⟩
  generalize hT : withS S1 "check_classic" (withS S2 "laid_rows" (withS S3 "at_distance" (runT [] 11))) = T
  have jT : Just F 11 T := by
    rw [← hT]
    refine withS_just ?_ (withS_just ?_ (withS_just ?_ (just C 11)))
    · rintro es q ⟨rfl, rfl⟩; exact C.le (check_ok C H) (by (first | lia | omega))
    · rintro es q ⟨rfl, rfl⟩; exact hF
    · rintro es q ⟨c, d, s, o, i, w, c', d', s', i', _, _, _, _, h⟩; exact C.le h (by (first | lia | omega))
  have hch : T "check_classic" [.list (R.map oD)] = some (.list (R.map oD), false) := by rw [← hT]; exact withS_same.trans p1
  have hla : T "laid_rows" [.list (R.map oD)] = some (.tup [.list (ls.map lrD), .dict (pD (psF R))], false) := by rw [← hT]; exact Eq.trans (b := pick S2 [.list (R.map oD)]) (by kernel_rfl) p2
  have hdi : ∀ {c d s o i w : Int}, (c == 5 || brs.contains c) = true → -32768 ≤ w → w < 32768 → ∃ c' d' s' i', T "at_distance" [orD c d s o i, .int w] = some (orD c' d' s' w i', false) ∧ leadB c' = true ∧ c' ≠ 6 := by
    intro c d s o i w hc h0 h1
    obtain ⟨c', d', s', i', e, h⟩ := p3 (d := d) (s := s) (o := o) (i := i) hc h0 h1
    exact ⟨c', d', s', i', by rw [← hT]; exact Eq.trans (b := pick S3 [orD c d s o i, .int w]) (by kernel_rfl) e, h⟩
  clear hT p1 p2 p3
  have main : Wx ⟨con0, T, fld0⟩ fConverted.1.mu fConverted.1.scope fConverted.1.body (rho0 fConverted.1.params [.list (R.map oD)]) (fun fl => ∃ told : List D, flVal fl = (.list told, true) ∧ told.length = ls.length ∧ ∀ p l, ls[p]? = some l → ∃ d, told[p]? = some d ∧ Told R p l d) := by
    refine wSeq (ρ' := [("orders", .list (R.map oD), .fro), ("rows", .list (ls.map lrD), .fro), ("places", .dict (pD (psF R)), .fro)]) ?_ ?_
    · rw [xAsgTF, if_pos (by kernel_rfl), callI (ds := [.list (R.map oD)]) (d := .tup [.list (ls.map lrD), .dict (pD (psF R))]) (fr := false) (by kernel_rfl) (by kernel_rfl) (by kernel_rfl) (by kernel_rfl) (by decide +kernel)
        (evsI (m := .fro) (callI (ds := [.list (R.map oD)]) (d := .list (R.map oD)) (fr := false) (by kernel_rfl) (by kernel_rfl) (by kernel_rfl) (by kernel_rfl) (by decide +kernel) (by kernel_rfl) hch) (by simp) (by kernel_rfl)) hla]
      kernel_rfl
    refine wSeq (ρ' := rho_cv R (ls.map lrD) [] []) (by kernel_rfl) ?_
    refine wFor (forEnum (ds := ls.map lrD) (by decide +kernel) (by kernel_rfl) (by kernel_rfl) (by kernel_rfl) (by kernel_rfl) (by rw [List.length_map]; (first | lia | omega)))
      (CvI R ls) ⟨[], [], .inl rfl, rfl, fun q l h => absurd h (Nat.not_lt_zero q), rfl⟩ ?_ ?_
    · rintro p d ρ hd ⟨told, τ, hτ, hL, hV, rfl⟩
      rw [enumP_get, Nat.zero_add, List.getElem?_map] at hd
      obtain ⟨b, hb, rfl⟩ := Option.map_eq_some_iff.mp hd
      obtain ⟨l, hl, rfl⟩ := Option.map_eq_some_iff.mp hb
      have hpl := (List.getElem?_eq_some_iff.mp hl).1
      show Wx _ _ _ _ (Rho.set "row" (lrD l, .fro) (Rho.set "spot" (.int p, .fro) (rho_cv R (ls.map lrD) told τ))) _
      have e2 : Rho.set "row" (lrD l, .fro) (Rho.set "spot" (.int p, .fro) (rho_cv R (ls.map lrD) told τ)) = rho_cv R (ls.map lrD) told [("spot", .int p, .fro), ("row", lrD l, .fro)] := by
        rcases hτ with rfl | ⟨v, rfl⟩ | ⟨v, w, rfl⟩ <;> kernel_rfl
      rw [e2]
      have hV' : ∀ d, Told R p l d → ∀ q l', q < p + 1 → ls[q]? = some l' → ∃ d', (told ++ [d])[q]? = some d' ∧ Told R q l' d' := by
        intro d hd q l' hq hl'
        rcases Nat.lt_or_ge q p with h | h
        · rw [List.getElem?_append_left (by (first | lia | omega))]; exact hV q l' h hl'
        · have : q = p := by (first | lia | omega)
          subst this
          rw [hl] at hl'; cases hl'
          rw [List.getElem?_append_right (by (first | lia | omega)), hL, Nat.sub_self]
          exact ⟨d, rfl, hd⟩
      have fin : ∀ d, Told R p l d → Wx ⟨con0, T, fld0⟩ fConverted.1.mu fConverted.1.scope [] (rho_cv R (ls.map lrD) (told ++ [d]) [("spot", .int p, .fro), ("row", lrD l, .fro)]) fun fl => ∃ ρ', fl = .nxt ρ' ∧ ∃ (told : List D) (τ : Rho), Tl2 "spot" "row" τ ∧ told.length = p + 1 ∧ (∀ q l, q < p + 1 → ls[q]? = some l → ∃ d, told[q]? = some d ∧ Told R q l d) ∧ ρ' = rho_cv R (ls.map lrD) told τ :=
        fun d hd => wNil ⟨_, rfl, told ++ [d], _, .inr (.inr ⟨_, _, rfl⟩), by simp [hL], hV' d hd, rfl⟩
      have hgk := hk2 (l.c, l.g) (List.mem_map.mpr ⟨l, List.mem_of_getElem? hl, rfl⟩)
      refine wIf (c := l.g == -1) (cmpI (x := (.int l.g, .fro)) (y := (.int (-1), .fro)) (by kernel_rfl) (by kernel_rfl) (by kernel_rfl) rfl) (fun hc => ?_) fun hc => ?_
      · have hg : l.g = -1 := eq_of_beq hc
        have hlead : leadB l.c = false := by
          unfold goodK at hgk
          rw [if_pos hc] at hgk
          simpa using hgk
        refine wSeq (ρ' := rho_cv R (ls.map lrD) (told ++ [orD l.c l.d l.s l.o l.i]) [("spot", .int p, .fro), ("row", lrD l, .fro)]) ?_ (fin _ ⟨_, _, _, _, _, rfl, .inl ⟨hg, hlead⟩⟩)
        exact (appI (ds := told) (vd := orD l.c l.d l.s l.o l.i) (m := .fro) (by kernel_rfl) (by kernel_rfl) (by decide +kernel) (by kernel_rfl) (by kernel_rfl) (by simp) (by (first | lia | omega))).trans (by kernel_rfl)
      · have hg : l.g ≠ -1 := by simpa using hc
        have hcc : (l.c == 5 || brs.contains l.c) = true := by
          unfold goodK at hgk
          rw [if_neg (by rw [hc]; exact Bool.false_ne_true)] at hgk
          exact hgk
        obtain ⟨v, hv, hv0, hv1⟩ := goal_place H (g := l.g) (by rw [← hk4]; exact List.mem_map.mpr ⟨l, List.mem_of_getElem? hl, rfl⟩) hg
        obtain ⟨c', d', s', i', e, hle, hn6⟩ := hdi (c := l.c) (d := l.d) (s := l.s) (o := l.o) (i := l.i) (w := v - p - 1) hcc (by (first | lia | omega)) (by (first | lia | omega))
        refine wSeq (ρ' := rho_cv R (ls.map lrD) (told ++ [orD c' d' s' (v - p - 1) i']) [("spot", .int p, .fro), ("row", lrD l, .fro)]) ?_ (fin _ ⟨_, _, _, _, _, rfl, .inr ⟨hg, hle, hn6, v, hv, rfl⟩⟩)
        exact (appI (ds := told) (vd := orD c' d' s' (v - p - 1) i') (m := .fro) (by kernel_rfl) (by kernel_rfl) (by decide +kernel) (by kernel_rfl)
          (callI (ds := [orD l.c l.d l.s l.o l.i, .int (v - p - 1)]) (d := orD c' d' s' (v - p - 1) i') (fr := false) (by kernel_rfl) (by kernel_rfl) (by kernel_rfl) (by kernel_rfl) (by decide +kernel)
            (evsI (m := .fro) (by kernel_rfl) (by simp) (evsI (m := .fro) (binI (x := (.int (v - p), .fro)) (y := (.int 1, .fro)) (binI (x := (.int v, .fro)) (y := (.int p, .fro)) (subI (by kernel_rfl) (x := (.dict (pD (psF R)), .fro)) (y := (.int l.g, .fro)) (by kernel_rfl) (by kernel_rfl) (dget_mem psF_nodup hv)) (by kernel_rfl) rfl) (by kernel_rfl) rfl) (by simp) rfl)) e) (by simp) (by (first | lia | omega))).trans (by kernel_rfl)
    · rintro ρ ⟨told, τ, hτ, hL, hV, rfl⟩
      rw [enumP_len, List.length_map] at hL hV
      exact wRet (d := .list told) (fr := true) (by kernel_rfl) ⟨told, rfl, hL, fun p l h => hV p l (List.getElem?_eq_some_iff.mp h).1 h⟩
  obtain ⟨fl, e, told, q, hL, hV⟩ := main
  exact ⟨ls, _, told, rfl, hk4, hF, enter C (by decide +kernel) fConvertedL jT (by kernel_rfl) ⟨fl, e, q⟩, hL, hV⟩
end
end Mine

set_option maxHeartbeats 2000000
namespace Mine
noncomputable def duN (R : List Row) (t : List Bool) : Nat → List Int
  | 0 => [-1, -1, -1]
  | i + 1 => match R[i]? with
    | some r => if t.getD i false = true then duN R t i ++ List.replicate (gAll r i).length (i : Int) else duN R t i
    | none => duN R t i
noncomputable def duF (R : List Row) : List Int := let t := reachN R R.length; if failB (gsN R t R.length) = true then duN R t R.length ++ [-1, -1] else duN R t R.length
theorem duN_len (R : List Row) (t : List Bool) : ∀ n, (duN R t n).length = (gsN R t n).length
  | 0 => rfl
  | n + 1 => by
    have ih := duN_len R t n
    unfold duN gsN
    cases hr : R[n]? with
    | none => exact ih
    | some r =>
      dsimp only
      split
      · rw [List.length_append, List.length_append, ih, List.length_replicate]
      · exact ih
theorem duF_len (R : List Row) : (duF R).length = (gsF R).length := by
  unfold duF gsF; dsimp only; split
  · simp [duN_len]
  · exact duN_len ..
noncomputable def stepL (s : Int) (last : Int) (p : Int × Int) : Int := if p.2 = s then p.1 else last
noncomputable def lastL (ps : List (Int × Int)) (s : Int) : Int := ps.foldl (fun last p => if p.2 < s then p.1 else last) (-1)
noncomputable def valL (x : Int) : Int := if 0 ≤ x then x else -1
theorem lastL_snoc (ps : List (Int × Int)) (p : Int × Int) (s : Int) : lastL (ps ++ [p]) s = if p.2 < s then p.1 else lastL ps s := by
  unfold lastL; rw [List.foldl_append]; rfl
theorem inner_snoc {ps : List (Int × Int)} {p : Int × Int} {s : Int} (h : ps.foldl (stepL s) (lastL ps s) = lastL ps (s + 1)) (hp : ∀ q ∈ ps, q.2 ≤ p.2) : (ps ++ [p]).foldl (stepL s) (lastL (ps ++ [p]) s) = lastL (ps ++ [p]) (s + 1) := by
  rw [List.foldl_append, List.foldl_cons, List.foldl_nil, lastL_snoc, lastL_snoc]
  by_cases h1 : p.2 < s
  · rw [if_pos h1, if_pos (by (first | lia | omega))]
    have : ∀ (l : List (Int × Int)) (x : Int), (∀ q ∈ l, q.2 < s) → l.foldl (stepL s) x = x := by
      intro l
      induction l with
      | nil => intro x _; rfl
      | cons q l ih =>
        intro x hq
        have := hq q (List.mem_cons_self ..)
        rw [List.foldl_cons, show stepL s x q = x by unfold stepL; rw [if_neg (by (first | lia | omega))]]
        exact ih x fun q hq' => hq q (List.mem_cons_of_mem _ hq')
    rw [this ps _ fun q hq => by have := hp q hq; (first | lia | omega)]
    unfold stepL; rw [if_neg (by (first | lia | omega))]
  · rw [if_neg h1, h]
    unfold stepL
    by_cases h2 : p.2 = s
    · rw [if_pos h2, if_pos (by (first | lia | omega))]
    · rw [if_neg h2, if_neg (by (first | lia | omega))]
theorem gsN_mono (R : List Row) (t : List Bool) (n : Nat) : (gsN R t n).length ≤ (gsN R t (n + 1)).length := by
  conv => rhs; unfold gsN
  split
  · split
    · simp
    · exact Nat.le_refl _
  · exact Nat.le_refl _
theorem psN_le (R : List Row) (t : List Bool) : ∀ n, ∀ p ∈ psN R t n, p.2 ≤ ((gsN R t n).length : Int)
  | 0, p, h => nomatch h
  | n + 1, p, h => by
    have hm := gsN_mono R t n
    unfold psN at h
    split at h
    · rcases List.mem_append.mp h with h | h
      · have := psN_le R t n p h; (first | lia | omega)
      · rw [List.mem_singleton] at h; subst h; dsimp only; (first | lia | omega)
    · have := psN_le R t n p h; (first | lia | omega)
theorem inner_ok (R : List Row) (t : List Bool) (s : Int) : ∀ n, (psN R t n).foldl (stepL s) (lastL (psN R t n) s) = lastL (psN R t n) (s + 1)
  | 0 => rfl
  | n + 1 => by
    unfold psN
    split
    · exact inner_snoc (inner_ok R t s n) fun q hq => psN_le R t n q hq
    · exact inner_ok R t s n
theorem innerF_ok (R : List Row) (s : Int) : (psF R).foldl (stepL s) (lastL (psF R) s) = lastL (psF R) (s + 1) := by
  unfold psF; dsimp only
  split
  · exact inner_snoc (inner_ok R _ s _) fun q hq => psN_le R _ _ q hq
  · exact inner_ok R _ s _
theorem du_val (R : List Row) (t : List Bool) : ∀ n s, s < (gsN R t n).length → (duN R t n)[s]? = some (valL (lastL (psN R t n) ((s : Int) + 1)))
  | 0, s, h => by
    have : s = 0 ∨ s = 1 ∨ s = 2 := by simp [gsN] at h; (first | lia | omega)
    rcases this with rfl | rfl | rfl <;> rfl
  | n + 1, s, h => by
    unfold gsN at h
    unfold duN psN
    cases hr : R[n]? with
    | none =>
      rw [hr] at h
      dsimp only at h ⊢
      have ih := du_val R t n s h
      split
      · rw [lastL_snoc, if_neg (by dsimp only; (first | lia | omega))]; exact ih
      · exact ih
    | some r =>
      rw [hr] at h
      dsimp only at h ⊢
      by_cases ht : t.getD n false = true
      · rw [if_pos ht] at h ⊢
        rw [if_pos ht, lastL_snoc]
        dsimp only
        rcases Nat.lt_or_ge s (gsN R t n).length with q | q
        · rw [if_neg (by (first | lia | omega)), List.getElem?_append_left (by rw [duN_len]; exact q)]
          exact du_val R t n s q
        · rw [if_pos (by (first | lia | omega)), List.getElem?_append_right (by rw [duN_len]; exact q), duN_len, List.getElem?_replicate, if_pos (by rw [List.length_append] at h; (first | lia | omega))]
          unfold valL; rw [if_pos (by (first | lia | omega))]
      · rw [if_neg ht] at h ⊢
        rw [if_neg ht]
        exact du_val R t n s h
theorem duF_val (R : List Row) {s : Nat} (h : s < (gsF R).length) : (duF R)[s]? = some (valL (lastL (psF R) ((s : Int) + 1))) := by
  unfold gsF at h
  unfold duF psF
  dsimp only at h ⊢
  by_cases hc : failB (gsN R (reachN R R.length) R.length) = true
  · rw [if_pos hc] at h ⊢
    rw [if_pos hc, lastL_snoc]
    dsimp only
    rcases Nat.lt_or_ge s (gsN R (reachN R R.length) R.length).length with q | q
    · rw [if_neg (by (first | lia | omega)), List.getElem?_append_left (by rw [duN_len]; exact q)]
      exact du_val R _ _ s q
    · rw [if_pos (by (first | lia | omega)), List.getElem?_append_right (by rw [duN_len]; exact q), duN_len]
      rw [List.length_append] at h
      have : s - (gsN R (reachN R R.length) R.length).length = 0 ∨ s - (gsN R (reachN R R.length) R.length).length = 1 := by simp at h; (first | lia | omega)
      rcases this with e | e <;> rw [e] <;> rfl
  · rw [if_neg hc] at h ⊢
    rw [if_neg hc]
    exact du_val R _ _ s h

noncomputable def swp (p : Int × Int) : Int × Int := (p.2, p.1)
theorem ascP_snoc : ∀ {l : List (Int × Int)} {x : Int × Int}, ascP l = true → (∀ y ∈ l, ltP x y = false) → ascP (l ++ [x]) = true
  | [], _, _, _ => rfl
  | [a], x, _, h => by simp [ascP, h a]
  | a :: b :: r, x, h, hx => by
    simp only [ascP, Bool.and_eq_true] at h
    show (!ltP b a && ascP ((b :: r) ++ [x])) = true
    rw [h.1, ascP_snoc h.2 fun y hy => hx y (List.mem_cons_of_mem _ hy)]; rfl
theorem psN_asc (R : List Row) (t : List Bool) : ∀ n, ascP ((psN R t n).map swp) = true
  | 0 => rfl
  | n + 1 => by
    unfold psN
    split
    · rw [List.map_append]
      refine ascP_snoc (psN_asc R t n) fun y hy => ?_
      obtain ⟨p, hp, rfl⟩ := List.mem_map.mp hy
      have h1 := psN_le R t n p hp
      have h2 := psN_keys R t n p hp
      unfold ltP swp
      rw [Bool.or_eq_false_iff, Bool.and_eq_false_iff]
      exact ⟨decide_eq_false (by dsimp only; (first | lia | omega)), .inr (decide_eq_false (by dsimp only; (first | lia | omega)))⟩
    · exact psN_asc R t n
section
variable {R : List Row} (H : Rows R)
include H
theorem reach0 : (reachN R R.length).getD 0 false = true ∧ (reachN R R.length).getD 1 false = true ∧ (reachN R R.length).getD 2 false = true := by
  have h4 := H.l4
  have e0 : (reachN R 0).getD 0 false = true := by
    unfold reachN
    rw [List.range_zero, List.foldl_nil, getD_set, if_pos ⟨rfl, by rw [List.length_replicate]; (first | lia | omega)⟩]
  have a0 := reach_mono H R.length e0
  rw [Nat.zero_add] at a0
  have a1 := reach_next H H.s0 a0 (g := 1) (by decide)
  exact ⟨a0, a1, reach_next H H.s1 a1 (g := 2) (by decide)⟩
theorem last_place : ∀ n, n ≤ R.length → (∀ j, n ≤ j → j < R.length → (reachN R R.length).getD j false = false) → ∀ p ∈ psN R (reachN R R.length) n, p.2 < ((gsN R (reachN R R.length) n).length : Int)
  | 0, _, _, p, h => nomatch h
  | n + 1, hn, hj, p, h => by
    obtain ⟨r, hr⟩ : ∃ r, R[n]? = some r := ⟨_, List.getElem?_eq_getElem hn⟩
    unfold psN at h
    unfold gsN
    rw [hr]
    dsimp only
    by_cases ht : (reachN R R.length).getD n false = true
    · rw [if_pos ht] at h ⊢
      have hf : folOf r n = [] := by
        cases q : folOf r n with
        | nil => rfl
        | cons g gs =>
          have hg : g ∈ folOf r n := by rw [q]; exact List.mem_cons_self ..
          have h1 := reach_next H hr ht hg
          have h2 := fol_in H hr g hg
          rw [hj g.toNat (by (first | lia | omega)) (by (first | lia | omega))] at h1; cases h1
      have hp : 0 < (gAll r n).length := by
        unfold folOf at hf
        unfold gAll
        by_cases q : jmpB r.c = true
        · rw [if_pos q] at hf; unfold folJ at hf; split at hf <;> cases hf
        · rw [if_neg q]
          unfold gOf gLd
          repeat' split
          all_goals simp
      rw [List.length_append]
      rcases List.mem_append.mp h with h | h
      · have := psN_le R _ n p h; (first | lia | omega)
      · rw [List.mem_singleton] at h; subst h; dsimp only; (first | lia | omega)
    · rw [if_neg ht] at h ⊢
      exact last_place n (by (first | lia | omega)) (fun j h1 h2 => by
        rcases Nat.lt_or_ge n j with q | q
        · exact hj j q h2
        · have : j = n := by (first | lia | omega)
          subst this; simpa using ht) p h
theorem psF_asc : ascP ((psF R).map swp) = true := by
  unfold psF
  dsimp only
  split
  · rw [List.map_append]
    refine ascP_snoc (psN_asc R _ _) fun y hy => ?_
    obtain ⟨p, hp, rfl⟩ := List.mem_map.mp hy
    have := last_place H R.length (Nat.le_refl _) (fun j h1 h2 => absurd h2 (by (first | lia | omega))) p hp
    unfold ltP swp
    rw [Bool.or_eq_false_iff, Bool.and_eq_false_iff]
    exact ⟨decide_eq_false (by dsimp only; (first | lia | omega)), .inl (beq_eq_false_iff_ne.mpr (by dsimp only; (first | lia | omega)))⟩
  · exact psN_asc R _ _
theorem psF_len : 2 ≤ (psF R).length ∧ (psF R).length ≤ 11 := by
  have h10 := H.l10
  obtain ⟨a0, a1, a2⟩ := reach0 H
  have hl := psN_len R (reachN R R.length) R.length
  have m0 := psN_mem (R := R) (n := R.length) (i := 0) (by have := H.l4; (first | lia | omega)) a0
  have m1 := psN_mem (R := R) (n := R.length) (i := 1) (by have := H.l4; (first | lia | omega)) a1
  have h2 : 2 ≤ (psN R (reachN R R.length) R.length).length := by
    rcases q : psN R (reachN R R.length) R.length with _ | ⟨a, _ | ⟨b, l⟩⟩
    · rw [q] at m0; cases m0
    · rw [q] at m0 m1
      rw [List.mem_singleton] at m0 m1
      rw [← m0] at m1; simp at m1
    · simp
  unfold psF
  dsimp only
  split
  · rw [List.length_append]; simp; (first | lia | omega)
  · (first | lia | omega)
end
end Mine

set_option maxHeartbeats 2000000
namespace Mine
noncomputable def fOrigins : {fd : FD // theDefs[66]? = some (("origins" : Str), fd)} := ⟨_, rfl⟩
theorem fOriginsL : lkS "origins" theDefs = some fOrigins.1 := by kernel_rfl
section
variable {cx : Cx} {mu : List Str} {sc : Scope} {ρ ρ' : Rho} {P : Fl → Prop}
theorem compI2 {elt t it : Expr} {ifs : List Expr} {scope : Scope} {p : Pos} {a : D} {ds : List D} {m : Mode} {f : D → Option D} (h1 : (scopeOk sc scope && freeOk scope ρ && names1 scope t && iterOk it) = true) (he : ev cx it sc ρ = some (a, m)) (hm : m ≠ .bor) (hi : iterItems t a = some ds) (hn : ds.length ≤ 100000)
    (h : ∀ d ∈ ds, ((bindT t d).bind fun b => (trs cx ifs scope (compRho scope b ρ)).bind fun c => if c = true then (ev cx elt scope (compRho scope b ρ)).bind fun y => if y.2 = .bor then none else some (some y.1) else some none) = some (f d)) :
    ev cx (.ListComp elt [⟨t, it, ifs, 0⟩] scope p) sc ρ = some (.list (ds.filterMap f), .fre) := by
  simp only [Bool.and_eq_true] at h1
  rw [eComp, if_pos ⟨h1.1.1.1, h1.1.1.2, h1.1.2, h1.2⟩, he, Option.bind_some, if_neg hm, hi, Option.bind_some, if_pos hn]
  have key : ∀ {g : D → Option (Option D)} {l : List D}, (∀ d ∈ l, g d = some (f d)) → compGo g l = some (l.filterMap f) := by
    intro g l
    induction l with
    | nil => intro _; rfl
    | cons d l ih =>
      intro hl
      rw [compGo, hl d (List.mem_cons_self ..), Option.bind_some, ih fun d hd => hl d (List.mem_cons_of_mem _ hd)]
      cases q : f d <;> simp [q]
  rw [key h]; rfl
theorem forName2 {x y l : Str} {xp yp tp lp p : Pos} {k : Nat} {body : List Stmt} {ds : List D} {m : Mode} (hxy : x ≠ y) (hv : namesVar sc (.Tuple [.Name x xp, .Name y yp] k tp) = true) (he : ev cx (.Name l lp) sc ρ = some (.list ds, m)) (hm : m ≠ .bor) (hn : ds.length ≤ 100000) (ht : ∀ d ∈ ds, ∃ a b, d = .tup [a, b]) :
    ex cx mu sc (.For (.Tuple [.Name x xp, .Name y yp] k tp) (.Name l lp) body [] p) ρ = forGo (fun d ρ => exs cx mu sc body (Rho.set y (pr2 d, .fro) (Rho.set x (pr1 d, .fro) ρ))) ds ρ := by
  rw [xForN, if_pos hv, if_pos (show iterOk (.Name l lp) = true from rfl), he, Option.bind_some, if_neg hm]
  show (iterItems _ (.list ds)).bind _ = _
  rw [iter_list _ hn, Option.bind_some]
  refine forGo_congr fun d hd ρ => ?_
  obtain ⟨a, b, rfl⟩ := ht d hd
  rw [bind2 hxy]; rfl
end
noncomputable def bgD (ps : List (Int × Int)) : List D := ps.map fun p => .tup [.int p.2, .int p.1]
theorem bgD_prs : ∀ ps, prsOf (bgD ps) = some (ps.map swp)
  | [] => rfl
  | p :: ps => by
    have := bgD_prs ps
    unfold bgD at this ⊢
    rw [List.map_cons, prsOf, this]; rfl
noncomputable def rho_og (R : List Row) (W found : List D) (last : Int) (τ : Rho) : Rho := ("orders", .list (R.map oD), .fro) :: ("rows", .list W, .fro) :: ("places", .dict (pD (psF R)), .fro) :: ("begins", .list (bgD (psF R)), .fro) :: ("found", .list found, .bor) :: ("last", .int last, .fro) :: τ
noncomputable def TlP (x y : Str) (τ : Rho) : Prop := τ = [] ∨ ∃ v w, τ = [(x, v), (y, w)]
noncomputable def TlS (x y z : Str) (τ : Rho) : Prop := τ = [] ∨ ∃ u σ, TlP y z σ ∧ τ = (x, u) :: σ
theorem TlP.set {x y : Str} {τ : Rho} (hxy : x ≠ y) (h : TlP x y τ) (v w : D × Mode) : Rho.set y w (Rho.set x v τ) = [(x, v), (y, w)] := by
  have hyx : ¬ y = x := fun e => hxy e.symm
  rcases h with rfl | ⟨a, b, rfl⟩
  · simp [Rho.set, hyx]
  · simp [Rho.set, hyx]
theorem TlS.set {x y z : Str} {τ : Rho} (h : TlS x y z τ) (v : D × Mode) : ∃ σ, TlP y z σ ∧ Rho.set x v τ = (x, v) :: σ := by
  rcases h with rfl | ⟨u, σ, hσ, rfl⟩
  · exact ⟨[], .inl rfl, rfl⟩
  · exact ⟨σ, hσ, by unfold Rho.set; rw [if_pos rfl]⟩
section
variable {F : Fct} (C : Closed F)
include C
theorem origins_ok {R : List Row} (H : Rows R) {W : List D} (hWl : W.length = (gsF R).length) (hF : F 11 "laid_rows" [.list (R.map oD)] (.tup [.list W, .dict (pD (psF R))], false)) : F 12 "origins" [.list (R.map oD)] (.list ((duF R).map .int), true) := by
  have h10 := H.l10
  have hg10 := gsF_len h10
  obtain ⟨hp2, hp11⟩ := psF_len H
  let S1 : List D → D × Bool → Prop := fun es q => es = [.list (R.map oD)] ∧ q = (.list (R.map oD), false)
  let S2 : List D → D × Bool → Prop := fun es q => es = [.list (R.map oD)] ∧ q = (.tup [.list W, .dict (pD (psF R))], false)
  have p1 : pick S1 [.list (R.map oD)] = some (.list (R.map oD), false) := pick_uniq ⟨rfl, rfl⟩ fun q h => h.2
  have p2 : pick S2 [.list (R.map oD)] = some (.tup [.list W, .dict (pD (psF R))], false) := pick_uniq ⟨rfl, rfl⟩ fun q h => h.2
  generalize hT : withS S1 "check_classic" (withS S2 "laid_rows" (runT [] 11)) = T
  have jT : Just F 11 T := by
    rw [← hT]
    refine withS_just ?_ (withS_just ?_ (just C 11))
    · rintro es q ⟨rfl, rfl⟩; exact C.le (check_ok C H) (by (first | lia | omega))
    · rintro es q ⟨rfl, rfl⟩; exact hF
  have hch : T "check_classic" [.list (R.map oD)] = some (.list (R.map oD), false) := by rw [← hT]; exact withS_same.trans p1
  have hla : T "laid_rows" [.list (R.map oD)] = some (.tup [.list W, .dict (pD (psF R))], false) := by rw [← hT]; exact Eq.trans (b := pick S2 [.list (R.map oD)]) (by kernel_rfl) p2
  have hlen : T "len" [.list W] = some (.int W.length, false) := by
    have : T "len" [.list W] = if W.length ≤ 1000000 then some (.int W.length, false) else none := by rw [← hT]; kernel_rfl
    rw [this, if_pos (by (first | lia | omega))]
  have hrange : ∀ n, T "range" [.int n] = some (.rng 0 n, false) := fun n => by rw [← hT]; kernel_rfl
  have hso : T "sorted" [.list (bgD (psF R))] = some (.list (bgD (psF R)), true) := by
    have e : T "sorted" [.list (bgD (psF R))] = bSorted [.list (bgD (psF R))] := by rw [← hT]; kernel_rfl
    rw [e]
    have i0 : intsOf (bgD (psF R)) = none := by
      cases q : psF R with
      | nil => rw [q] at hp2; simp at hp2
      | cons p ps => rfl
    unfold bSorted
    dsimp only
    rw [i0]
    dsimp only
    rw [bgD_prs]
    dsimp only
    rw [if_pos ⟨by rw [List.length_map]; exact hp2, by rw [List.length_map]; (first | lia | omega), psF_asc H⟩]
  clear hT p1 p2
  refine enter C (by decide +kernel) fOriginsL jT (by kernel_rfl) ?_
  refine wSeq (ρ' := [("orders", .list (R.map oD), .fro), ("rows", .list W, .fro), ("places", .dict (pD (psF R)), .fro)]) ?_ ?_
  · rw [xAsgTF, if_pos (by kernel_rfl), callI (ds := [.list (R.map oD)]) (d := .tup [.list W, .dict (pD (psF R))]) (fr := false) (by kernel_rfl) (by kernel_rfl) (by kernel_rfl) (by kernel_rfl) (by decide +kernel)
      (evsI (m := .fro) (callI (ds := [.list (R.map oD)]) (d := .list (R.map oD)) (fr := false) (by kernel_rfl) (by kernel_rfl) (by kernel_rfl) (by kernel_rfl) (by decide +kernel) (by kernel_rfl) hch) (by simp) (by kernel_rfl)) hla]
    kernel_rfl
  refine wSeq (ρ' := [("orders", .list (R.map oD), .fro), ("rows", .list W, .fro), ("places", .dict (pD (psF R)), .fro), ("begins", .list (bgD (psF R)), .fro)]) ?_ ?_
  · have hfm : ((pD (psF R)).map fun e => D.tup [.int e.1, e.2]).filterMap (fun d => some (D.tup [pr2 d, pr1 d])) = bgD (psF R) := by
      unfold pD bgD
      rw [List.map_map, List.filterMap_map]
      induction psF R with
      | nil => rfl
      | cons p ps ih => rw [List.filterMap_cons, List.map_cons, ih]; rfl
    exact (asgI (d := .list (bgD (psF R))) (m := .fre) (by kernel_rfl) (callI (ds := [.list (bgD (psF R))]) (d := .list (bgD (psF R))) (fr := true) (by kernel_rfl) (by kernel_rfl) (by kernel_rfl) (by kernel_rfl) (by decide +kernel)
      (evsI (m := .fre) (hfm ▸ compI2 (a := .itm (pD (psF R))) (ds := (pD (psF R)).map fun e => D.tup [.int e.1, e.2]) (f := fun d => some (D.tup [pr2 d, pr1 d])) (m := .fro) (by kernel_rfl) (by kernel_rfl) (by simp) (by show (if _ then _ else _) = _; rw [if_pos ⟨rfl, by simp only [pD, List.length_map]; (first | lia | omega)⟩]) (by simp only [pD, List.length_map]; (first | lia | omega)) (fun d hd => by
        obtain ⟨e, he, rfl⟩ := List.mem_map.mp hd
        obtain ⟨p, _, rfl⟩ := List.mem_map.mp he
        kernel_rfl)) (by simp) (by kernel_rfl)) hso) (by simp)).trans (by kernel_rfl)
  refine wSeq (ρ' := rho_og R W [] (lastL (psF R) 0) []) ?_ ?_
  · have : lastL (psF R) 0 = -1 := by
      unfold lastL
      have hp : ∀ p ∈ psF R, ¬ p.2 < 0 := by
        intro p hp
        have hN : ∀ n, ∀ p ∈ psN R (reachN R R.length) n, ¬ p.2 < 0 := by
          intro n
          induction n with
          | zero => intro p h; cases h
          | succ n ih =>
            intro p h
            unfold psN at h
            split at h
            · rcases List.mem_append.mp h with h | h
              · exact ih p h
              · rw [List.mem_singleton] at h; subst h; dsimp only; (first | lia | omega)
            · exact ih p h
        unfold psF at hp
        dsimp only at hp
        split at hp
        · rcases List.mem_append.mp hp with h | h
          · exact hN _ p h
          · rw [List.mem_singleton] at h; subst h; dsimp only; (first | lia | omega)
        · exact hN _ p hp
      generalize psF R = ps at hp
      generalize (-1 : Int) = x
      induction ps generalizing x with
      | nil => rfl
      | cons p ps ih => rw [List.foldl_cons, if_neg (hp p (List.mem_cons_self ..))]; exact ih (fun q hq => hp q (List.mem_cons_of_mem _ hq)) x
    rw [this]; kernel_rfl
  refine wFor (forRange (n := W.length) (by kernel_rfl) (by kernel_rfl) (by kernel_rfl) (by kernel_rfl) (evsI (m := .fro) (callI (ds := [.list W]) (d := .int W.length) (fr := false) (by kernel_rfl) (by kernel_rfl) (by kernel_rfl) (by kernel_rfl) (by decide +kernel) (by kernel_rfl) hlen) (by simp) (by kernel_rfl)) (hrange _) (by (first | lia | omega)))
    (fun s ρ => ∃ τ : Rho, TlS "spot" "place" "at" τ ∧ ρ = rho_og R W (((duF R).take s).map .int) (lastL (psF R) s) τ) ⟨[], .inl rfl, rfl⟩ ?_ ?_
  · rintro s d ρ hd ⟨τ, hτ, rfl⟩
    rw [List.getElem?_map] at hd
    obtain ⟨j, hj', rfl⟩ := Option.map_eq_some_iff.mp hd
    obtain ⟨hi, rfl⟩ := List.getElem?_eq_some_iff.mp hj'
    rw [List.length_range] at hi
    rw [List.getElem_range]
    obtain ⟨σ, hσ, e⟩ := hτ.set (.int s, .fro)
    generalize hfd : ((duF R).take s).map D.int = fd
    have hfdl : fd.length ≤ 115 := by rw [← hfd, List.length_map, List.length_take, duF_len]; (first | lia | omega)
    show Wx _ _ _ _ (Rho.set "spot" (.int s, .fro) (rho_og R W fd (lastL (psF R) s) τ)) _
    rw [show Rho.set "spot" (.int s, .fro) (rho_og R W fd (lastL (psF R) s) τ) = rho_og R W fd (lastL (psF R) s) (("spot", .int s, .fro) :: σ) by rw [← e]; kernel_rfl]
    have hb : (bgD (psF R)).length = (psF R).length := by unfold bgD; rw [List.length_map]
    refine wFor (forName2 (ds := bgD (psF R)) (m := .fro) (by decide +kernel) (by kernel_rfl) (by kernel_rfl) (by simp) (by (first | lia | omega)) (fun d hd => by obtain ⟨p, _, rfl⟩ := List.mem_map.mp hd; exact ⟨_, _, rfl⟩))
      (fun j ρ => ∃ σ : Rho, TlP "place" "at" σ ∧ ρ = rho_og R W fd (((psF R).take j).foldl (stepL s) (lastL (psF R) s)) (("spot", .int s, .fro) :: σ)) ⟨σ, hσ, rfl⟩ ?_ ?_
    · rintro j d ρ hd ⟨σ, hσ, rfl⟩
      unfold bgD at hd
      rw [List.getElem?_map] at hd
      obtain ⟨p, hp, rfl⟩ := Option.map_eq_some_iff.mp hd
      have htk : ((psF R).take (j + 1)).foldl (stepL s) (lastL (psF R) s) = stepL s (((psF R).take j).foldl (stepL s) (lastL (psF R) s)) p := by
        rw [List.take_add_one, hp, List.foldl_append]; rfl
      rw [htk]
      generalize ((psF R).take j).foldl (stepL s) (lastL (psF R) s) = x
      show Wx _ _ _ _ (Rho.set "at" (.int p.1, .fro) (Rho.set "place" (.int p.2, .fro) (rho_og R W fd x (("spot", .int s, .fro) :: σ)))) _
      rw [show Rho.set "at" (.int p.1, .fro) (Rho.set "place" (.int p.2, .fro) (rho_og R W fd x (("spot", .int s, .fro) :: σ))) = rho_og R W fd x [("spot", .int s, .fro), ("place", .int p.2, .fro), ("at", .int p.1, .fro)] by rw [← hσ.set (by decide +kernel)]; kernel_rfl]
      refine wIf (c := (p.2 == (s : Int)) && (!(p.1 == x) && true)) ?_ (fun hc => ?_) fun hc => ?_
      · rw [tBo]
        exact andI (cmpI (x := (.int p.2, .fro)) (y := (.int s, .fro)) (by kernel_rfl) (by kernel_rfl) (by kernel_rfl) rfl) (andI (cmpI (x := (.int p.1, .fro)) (y := (.int x, .fro)) (by kernel_rfl) (by kernel_rfl) (by kernel_rfl) rfl) rfl)
      · simp only [Bool.and_true, Bool.and_eq_true, beq_iff_eq] at hc
        refine wSeq (ρ' := rho_og R W fd p.1 [("spot", .int s, .fro), ("place", .int p.2, .fro), ("at", .int p.1, .fro)]) (by kernel_rfl) (wNil ⟨_, rfl, [("place", .int p.2, .fro), ("at", .int p.1, .fro)], .inr ⟨_, _, rfl⟩, ?_⟩)
        rw [show stepL s x p = p.1 by unfold stepL; rw [if_pos hc.1]]
      · refine wNil ⟨_, rfl, [("place", .int p.2, .fro), ("at", .int p.1, .fro)], .inr ⟨_, _, rfl⟩, ?_⟩
        rw [show stepL s x p = x by
          unfold stepL
          by_cases q : p.2 = s
          · rw [if_pos q]
            simp only [q, beq_self_eq_true, Bool.true_and, Bool.and_true, Bool.not_eq_false', beq_iff_eq] at hc
            exact hc
          · rw [if_neg q]]
    · rintro ρ ⟨σ, hσ, rfl⟩
      rw [hb, List.take_length, innerF_ok]
      generalize hx : lastL (psF R) ((s : Int) + 1) = x
      have hval := duF_val R (s := s) (by (first | lia | omega))
      rw [hx] at hval
      refine wSeq (ρ' := rho_og R W (fd ++ [.int (valL x)]) x (("spot", .int s, .fro) :: σ)) ?_ (wNil ⟨_, rfl, ("spot", .int s, .fro) :: σ, .inr ⟨_, σ, hσ, rfl⟩, ?_⟩)
      · have hev : ∀ {t b o : Expr} {q : Pos}, tr ⟨con0, T, fld0⟩ t fOrigins.1.scope (rho_og R W fd x (("spot", .int s, .fro) :: σ)) (ev ⟨con0, T, fld0⟩ t fOrigins.1.scope (rho_og R W fd x (("spot", .int s, .fro) :: σ))) = some (decide (0 ≤ x)) → ev ⟨con0, T, fld0⟩ b fOrigins.1.scope (rho_og R W fd x (("spot", .int s, .fro) :: σ)) = some (.int x, .fro) → ev ⟨con0, T, fld0⟩ o fOrigins.1.scope (rho_og R W fd x (("spot", .int s, .fro) :: σ)) = some (.int (-1), .fro) → ev ⟨con0, T, fld0⟩ (.IfExp t b o q) fOrigins.1.scope (rho_og R W fd x (("spot", .int s, .fro) :: σ)) = some (.int (valL x), .fro) := by
          intro t b o q h1 h2 h3
          unfold valL
          by_cases q : 0 ≤ x
          · rw [if_pos q]; rw [decide_eq_true q] at h1; exact ifT h1 h2
          · rw [if_neg q]; rw [decide_eq_false q] at h1; exact ifF h1 h3
        exact (appI (ds := fd) (vd := .int (valL x)) (m := .fro) (by kernel_rfl) (by kernel_rfl) (by decide +kernel) (by kernel_rfl)
          (hev (cmpI (x := (.int x, .fro)) (y := (.int 0, .fro)) (by kernel_rfl) (by kernel_rfl) (by kernel_rfl) rfl) (by kernel_rfl) (by kernel_rfl)) (by simp) (by (first | lia | omega))).trans (by kernel_rfl)
      · rw [List.take_add_one, hval, ← hfd, Int.natCast_add, Int.natCast_one, hx]
        simp
  · rintro ρ ⟨τ, hτ, rfl⟩
    rw [List.length_map, List.length_range, hWl, ← duF_len, List.take_length]
    exact wRet (d := .list ((duF R).map .int)) (fr := true) (by kernel_rfl) rfl
end
end Mine

set_option maxHeartbeats 2000000
namespace Mine
noncomputable def fLawReached : {fd : FD // theDefs[72]? = some (("_law_reached" : Str), fd)} := ⟨_, rfl⟩
theorem fLawReachedL : lkS "_law_reached" theDefs = some fLawReached.1 := by kernel_rfl
section
variable {cx : Cx} {mu : List Str} {sc : Scope} {ρ ρ' : Rho} {P : Fl → Prop}
theorem trsOne {e : Expr} {c : Bool} (h : tr cx e sc ρ (ev cx e sc ρ) = some c) : trs cx [e] sc ρ = some c := by
  rw [tsCons, h]; cases c <;> rfl
theorem compBody {t elt : Expr} {ifs : List Expr} {scope : Scope} {d y : D} {m : Mode} {b : List (Str × D)} {c : Bool} (hb : bindT t d = some b) (hc : trs cx ifs scope (compRho scope b ρ) = some c) (hy : ev cx elt scope (compRho scope b ρ) = some (y, m)) (hm : m ≠ .bor) :
    ((bindT t d).bind fun b => (trs cx ifs scope (compRho scope b ρ)).bind fun c => if c = true then (ev cx elt scope (compRho scope b ρ)).bind fun y => if y.2 = .bor then none else some (some y.1) else some none) = some (if c = true then some y else none) := by
  rw [hb, Option.bind_some, hc, Option.bind_some]
  cases c with
  | true => rw [if_pos rfl, hy, Option.bind_some, if_neg hm, if_pos rfl]
  | false => rfl
end
theorem ways_fol {b : Int} {r : Row} (K : Kind b r) (a g : Int) : g ∈ wayOf r a ↔ g ∈ folOf r a := by
  cases K with
  | plain hj k hr => rw [conk_ways hr]; unfold folOf; rw [hj, if_neg Bool.false_ne_true]
  | ja hr h0 h1 => rw [hr]; simp [wayOf, folOf, folJ, beyond, jmpB]
  | cj hc =>
    obtain ⟨h5, hj, h6, h8, hb⟩ := cj_facts _ hc
    unfold wayOf folOf folJ
    rw [h6, hb, h8, hj, if_neg Bool.false_ne_true, if_neg Bool.false_ne_true, if_neg (by simpa using h5), if_neg (by simp), if_pos rfl, if_neg h5]
    by_cases q : r.jt = r.jf
    · simp [q]
    · rw [if_neg (by simpa using q)]
set_option tactic.hygienic true in
theorem ways_nodup (r : Row) (a : Int) : (wayOf r a).Nodup := by
  unfold wayOf
  repeat' split
  all_goals first | (rename_i h; simp at h ⊢; done) | (rename_i h; simp at h ⊢; (first | lia | omega))
theorem intsOf_map : ∀ l : List Int, intsOf (l.map .int) = some l
  | [] => rfl
  | i :: l => by rw [List.map_cons, intsOf, intsOf_map l]; rfl
noncomputable def rlN (t : List Bool) (n : Nat) : List Nat := (List.range n).filter fun j => t.getD j false
noncomputable def rho_lq (R : List Row) (fs : List Int) (τ : Rho) : Rho := ("rows", .list (R.map tD), .fro) :: ("found", .list (fs.map .int), .fro) :: τ
theorem isort_eq {fs : List Int} {l : List Nat} (hn : fs.Nodup) (hs : l.Pairwise (· < ·)) (h : ∀ g : Int, g ∈ fs ↔ ∃ j ∈ l, (j : Int) = g) : isort fs = l.map fun (j : Nat) => (j : Int) := by
  have hp : (l.map fun (j : Nat) => (j : Int)).Pairwise (· < ·) := by
    rw [List.pairwise_map]
    exact hs.imp fun h => by (first | lia | omega)
  refine sorted_uniq (isort_sorted fs) (hp.imp fun h => Int.le_of_lt h) ((isort_perm fs).trans ?_)
  refine (List.perm_ext_iff_of_nodup hn (hp.imp fun h => by (first | lia | omega))).mpr fun g => ?_
  rw [h, List.mem_map]
abbrev LqI (R : List Row) (i : Nat) (ρ : Rho) : Prop := ∃ (fs : List Int) (τ : Rho), Tl1 "at" τ ∧ fs.Nodup ∧ fs.length ≤ 1 + 2 * i ∧ (∀ g : Int, g ∈ fs ↔ ∃ j : Nat, (j : Int) = g ∧ (reachN R i).getD j false = true) ∧ ρ = rho_lq R fs τ
section
variable {F : Fct} (C : Closed F)
include C
theorem lreached_ok {R : List Row} (H : Rows R) : F 6 "_law_reached" [.list (R.map tD)] (.list ((rlN (reachN R R.length) R.length).map fun (j : Nat) => D.int (j : Int)), true) := by
  have h10 := H.l10
  have h4 := H.l4
  have hol : (R.map tD).length = R.length := List.length_map ..
  let S1 : List D → D × Bool → Prop := fun es q => ∃ (a : Nat) (r : Row), R[a]? = some r ∧ es = [.list (R.map tD), .int a] ∧ q = (.list ((wayOf r a).map .int), true)
  have p1 : ∀ {a : Nat} {r : Row}, R[a]? = some r → pick S1 [.list (R.map tD), .int a] = some (.list ((wayOf r a).map .int), true) := fun {a r} h => pick_uniq ⟨a, r, h, rfl, rfl⟩ fun q ⟨a', r', h', e, eq⟩ => by
    simp only [List.cons.injEq, D.int.injEq, Int.natCast_inj, and_true, true_and] at e
    subst e
    rw [h] at h'; cases h'; exact eq
  generalize hT : withS S1 "_law_ways" (runT [] 5) = T
  have jT : Just F 5 T := by
    rw [← hT]
    refine withS_just ?_ (just C 5)
    rintro es q ⟨a, r, h, rfl, rfl⟩; exact C.le ((H.kind a r h).ways C (at_ts h h10)) (by (first | lia | omega))
  have hlen : T "len" [.list (R.map tD)] = some (.int R.length, false) := by
    have : T "len" [.list (R.map tD)] = if (R.map tD).length ≤ 1000000 then some (.int (R.map tD).length, false) else none := by rw [← hT]; kernel_rfl
    rw [this, if_pos (by (first | lia | omega)), hol]
  have hrange : ∀ n, T "range" [.int n] = some (.rng 0 n, false) := fun n => by rw [← hT]; kernel_rfl
  have hso : ∀ l, T "sorted" [.list l] = bSorted [.list l] := fun l => by rw [← hT]; kernel_rfl
  have hwa : ∀ {a : Nat} {r : Row}, R[a]? = some r → T "_law_ways" [.list (R.map tD), .int a] = some (.list ((wayOf r a).map .int), true) := fun h => by rw [← hT]; exact withS_same.trans (p1 h)
  clear hT p1
  refine enter C (by decide +kernel) fLawReachedL jT (by kernel_rfl) ?_
  refine wSeq (ρ' := rho_lq R [0] []) (by kernel_rfl) ?_
  refine wFor (forRange (n := R.length) (by kernel_rfl) (by kernel_rfl) (by kernel_rfl) (by kernel_rfl) (evsI (m := .fro) (callI (ds := [.list (R.map tD)]) (d := .int R.length) (fr := false) (by kernel_rfl) (by kernel_rfl) (by kernel_rfl) (by kernel_rfl) (by decide +kernel) (by kernel_rfl) hlen) (by simp) (by kernel_rfl)) (hrange _) (by (first | lia | omega)))
    (LqI R) ⟨[0], [], .inl rfl, by simp, by simp, ?_, rfl⟩ ?_ ?_
  · intro g
    have e0 : ∀ j : Nat, (reachN R 0).getD j false = true ↔ j = 0 := by
      intro j
      unfold reachN
      rw [List.range_zero, List.foldl_nil, getD_set]
      by_cases q : 0 = j
      · rw [if_pos ⟨q, by rw [List.length_replicate]; (first | lia | omega)⟩]; simp [q.symm]
      · rw [if_neg fun x => q x.1]
        have : (List.replicate R.length false).getD j false = false := by
          rw [List.getD_eq_getElem?_getD, List.getElem?_replicate]; split <;> rfl
        rw [this]; simp; (first | lia | omega)
    rw [List.mem_singleton]
    constructor
    · rintro rfl; exact ⟨0, rfl, (e0 0).mpr rfl⟩
    · rintro ⟨j, rfl, hj⟩; rw [(e0 j).mp hj]; rfl
  · rintro i d ρ hd ⟨fs, τ, hτ, hnd, hfl, hiff, rfl⟩
    rw [List.getElem?_map] at hd
    obtain ⟨j, hj', rfl⟩ := Option.map_eq_some_iff.mp hd
    obtain ⟨hi, rfl⟩ := List.getElem?_eq_some_iff.mp hj'
    rw [List.length_range] at hi
    rw [List.getElem_range]
    obtain ⟨r, hr⟩ : ∃ r, R[i]? = some r := ⟨_, List.getElem?_eq_getElem hi⟩
    show Wx _ _ _ _ (Rho.set "at" (.int i, .fro) (rho_lq R fs τ)) _
    rw [show Rho.set "at" (.int i, .fro) (rho_lq R fs τ) = rho_lq R fs (at1 (.int i, .fro)) by rcases hτ with rfl | ⟨v, rfl⟩ <;> kernel_rfl]
    have hst : ∀ j : Nat, (reachN R (i + 1)).getD j false = ((reachN R i).getD j false || ((reachN R i).getD i false && decide ((j : Int) ∈ folOf r i))) := fun j => by rw [reachN_succ]; exact stepT_get H (reachN_len R i) i j hr
    have hci : fs.contains (i : Int) = (reachN R i).getD i false := by
      rw [Bool.eq_iff_iff, List.contains_iff_mem, hiff]
      constructor
      · rintro ⟨j, e, h⟩; have : j = i := by (first | lia | omega)
        subst this; exact h
      · exact fun h => ⟨i, rfl, h⟩
    refine wIf (c := fs.contains (i : Int)) (cmpI (x := (.int i, .fro)) (y := (.list (fs.map .int), .fro)) (by kernel_rfl) (by kernel_rfl) (by kernel_rfl) (by show (intsOf (fs.map .int)).map (·.contains (i : Int)) = _; rw [intsOf_map]; rfl)) (fun hc => ?_) fun hc => ?_
    · have hri : (reachN R i).getD i false = true := by rw [← hci]; exact hc
      have hgl : (wayOf r i).length ≤ 2 := by
        unfold wayOf; repeat' split
        all_goals simp
      have hfm : ((wayOf r i).map D.int).filterMap (fun d => match d with | .int g => if fs.contains g = true then none else some d | _ => none) = ((wayOf r i).filter fun g => !fs.contains g).map .int := by
        induction wayOf r i with
        | nil => rfl
        | cons g gs ih =>
          by_cases h : fs.contains g = true
          · rw [List.map_cons, List.filterMap_cons_none (by dsimp only; rw [if_pos h]), List.filter_cons, if_neg (by rw [h]; simp), ih]
          · rw [List.map_cons, List.filterMap_cons_some (b := .int g) (by dsimp only; rw [if_neg h]), List.filter_cons, if_pos (by simpa using h), ih]; rfl
      refine wSeq (ρ' := rho_lq R (fs ++ (wayOf r i).filter fun g => !fs.contains g) (at1 (.int i, .fro))) ?_ (wNil ⟨_, rfl, _, at1 (.int i, .fro), .inr ⟨_, rfl⟩, ?_, ?_, ?_, rfl⟩)
      · rw [asgI (d := .list ((fs ++ (wayOf r i).filter fun g => !fs.contains g).map .int)) (m := .fre) (by kernel_rfl) (binI (x := (.list (fs.map .int), .fro)) (y := (.list (((wayOf r i).filter fun g => !fs.contains g).map .int), .fre)) (by kernel_rfl)
          (hfm ▸ compI (ds := (wayOf r i).map .int) (f := fun d => match d with | .int g => if fs.contains g = true then none else some d | _ => none) (m := .fre) (by kernel_rfl)
            (callI (ds := [.list (R.map tD), .int i]) (d := .list ((wayOf r i).map .int)) (fr := true) (by kernel_rfl) (by kernel_rfl) (by kernel_rfl) (by kernel_rfl) (by decide +kernel) (by kernel_rfl) (hwa hr)) (by simp) (by rw [List.length_map]; (first | lia | omega)) (fun d hd => by
              obtain ⟨g, _, rfl⟩ := List.mem_map.mp hd
              refine (compBody (b := [("goal", .int g)]) (c := !fs.contains g) (y := .int g) (m := .fro) (by kernel_rfl) (trsOne (cmpI (x := (.int g, .fro)) (y := (.list (fs.map .int), .fro)) (by kernel_rfl) (by kernel_rfl) (by kernel_rfl) (by show ((intsOf (fs.map .int)).map (·.contains g)).map (!·) = _; rw [intsOf_map]; rfl))) (by kernel_rfl) (by simp)).trans ?_
              dsimp only
              cases fs.contains g <;> rfl)) (by
            show (if _ then _ else _) = _
            rw [if_pos (by
              have := List.length_filter_le (fun g => !fs.contains g) (wayOf r i)
              simp only [List.length_map]; (first | lia | omega)), List.map_append])) (by simp)]
        kernel_rfl
      · rw [List.nodup_append]
        refine ⟨hnd, (ways_nodup r i).filter _, ?_⟩
        intro a ha b hb e
        subst e
        rw [List.mem_filter] at hb
        simp at hb
        exact hb.2 ha
      · have := List.length_filter_le (fun g => !fs.contains g) (wayOf r i)
        rw [List.length_append]; (first | lia | omega)
      · intro g
        rw [List.mem_append, List.mem_filter, hiff]
        constructor
        · rintro (⟨j, e, h⟩ | ⟨h, _⟩)
          · exact ⟨j, e, by rw [hst, h]; rfl⟩
          · have hf := (ways_fol (H.kind i r hr) i g).mp h
            have hb := fol_in H hr g hf
            have e : ((g.toNat : Nat) : Int) = g := Int.toNat_of_nonneg (by (first | lia | omega))
            exact ⟨g.toNat, e, by rw [hst, hri, e, decide_eq_true hf]; simp⟩
        · rintro ⟨j, e, h⟩
          rw [hst, hri, Bool.true_and, Bool.or_eq_true] at h
          by_cases q : (reachN R i).getD j false = true
          · exact .inl ⟨j, e, q⟩
          · have hf := of_decide_eq_true (h.resolve_left q)
            rw [e] at hf
            refine .inr ⟨(ways_fol (H.kind i r hr) i g).mpr hf, ?_⟩
            simp only [Bool.not_eq_true', List.contains_eq_mem, decide_eq_false_iff_not]
            rw [hiff]
            rintro ⟨j', e', h'⟩
            have : j' = j := by (first | lia | omega)
            subst this; exact q h'
    · refine wNil ⟨_, rfl, fs, at1 (.int i, .fro), .inr ⟨_, rfl⟩, hnd, by (first | lia | omega), fun g => ?_, rfl⟩
      rw [hiff]
      have hri : (reachN R i).getD i false = false := by rw [← hci]; exact hc
      constructor
      · rintro ⟨j, e, h⟩; exact ⟨j, e, by rw [hst, h]; rfl⟩
      · rintro ⟨j, e, h⟩; rw [hst, hri] at h; simp at h; exact ⟨j, e, by simpa using h⟩
  · rintro ρ ⟨fs, τ, hτ, hnd, hfl, hiff, rfl⟩
    rw [List.length_map, List.length_range] at hfl hiff
    have hs : isort fs = (rlN (reachN R R.length) R.length).map fun (j : Nat) => (j : Int) := by
      refine isort_eq hnd ?_ fun g => ?_
      · exact List.Pairwise.filter _ List.pairwise_lt_range
      · rw [hiff]
        unfold rlN
        constructor
        · rintro ⟨j, e, h⟩
          refine ⟨j, ?_, e⟩
          rw [List.mem_filter, List.mem_range]
          refine ⟨?_, h⟩
          rcases Nat.lt_or_ge j R.length with q | q
          · exact q
          · rw [List.getD_eq_getElem?_getD, List.getElem?_eq_none (by rw [reachN_len]; exact q)] at h; cases h
        · rintro ⟨j, hj, e⟩
          exact ⟨j, e, (List.mem_filter.mp hj).2⟩
    refine wRet (d := .list ((rlN (reachN R R.length) R.length).map fun (j : Nat) => D.int (j : Int))) (fr := true) ?_ rfl
    rw [xRetF, callI (ds := [.list (fs.map .int)]) (d := .list ((rlN (reachN R R.length) R.length).map fun (j : Nat) => D.int (j : Int))) (fr := true) (by kernel_rfl) (by kernel_rfl) (by rcases hτ with rfl | ⟨v, rfl⟩ <;> kernel_rfl) (by kernel_rfl) (by decide +kernel) (by kernel_rfl) ?_]
    · rfl
    · show T "sorted" _ = _
      rw [hso]
      unfold bSorted
      dsimp only
      rw [intsOf_map]
      dsimp only
      rw [if_pos (by (first | lia | omega)), hs, List.map_map]; rfl
end
end Mine

set_option maxHeartbeats 2000000
namespace Mine
noncomputable def gA (R : List Row) (j : Nat) : List Int := match R[j]? with
  | some r => gAll r j
  | none => []
noncomputable def fA (g : Int) : Int := if g = -2 then -1 else g
noncomputable def aim : Int → List Int → List (Int × Int)
  | _, [] => []
  | k, g :: gs => if g = -1 then aim (k + 1) gs else (k, fA g) :: aim (k + 1) gs
structure St where
  du : List Int
  ps : List (Int × Int)
  am : List (Int × Int)
noncomputable def stStep (R : List Row) (s : St) (j : Nat) : St := ⟨s.du ++ List.replicate (gA R j).length (j : Int), s.ps ++ [((j : Int), (s.du.length : Int))], s.am ++ aim s.du.length (gA R j)⟩
noncomputable def stL (R : List Row) (l : List Nat) : St := l.foldl (stStep R) ⟨[-1, -1, -1], [], []⟩
theorem aim_app : ∀ (gs gs' : List Int) (k : Int), aim k (gs ++ gs') = aim k gs ++ aim (k + gs.length) gs'
  | [], gs', k => by simp [aim]
  | g :: gs, gs', k => by
    rw [List.cons_append, aim, aim_app gs gs' (k + 1), aim, List.length_cons]
    have : k + 1 + (gs.length : Int) = k + ((gs.length + 1 : Nat) : Int) := by (first | lia | omega)
    rw [this]
    split <;> rfl
theorem stL_snoc (R : List Row) (l : List Nat) (j : Nat) : stL R (l ++ [j]) = stStep R (stL R l) j := by
  unfold stL; rw [List.foldl_append]; rfl
theorem rlN_succ (t : List Bool) (n : Nat) : rlN t (n + 1) = if t.getD n false = true then rlN t n ++ [n] else rlN t n := by
  unfold rlN
  rw [List.range_succ, List.filter_append, List.filter_cons]
  split
  · simp
  · simp
theorem stL_eq {R : List Row} (t : List Bool) : ∀ n, n ≤ R.length → stL R (rlN t n) = ⟨duN R t n, psN R t n, aim 0 (gsN R t n)⟩
  | 0, _ => rfl
  | n + 1, hn => by
    obtain ⟨r, hr⟩ : ∃ r, R[n]? = some r := ⟨_, List.getElem?_eq_getElem hn⟩
    have ih := stL_eq (R := R) t n (by (first | lia | omega))
    have hg : gA R n = gAll r n := by unfold gA; rw [hr]
    rw [rlN_succ]
    by_cases ht : t.getD n false = true
    · have e1 : duN R t (n + 1) = duN R t n ++ List.replicate (gAll r n).length (n : Int) := by rw [duN, hr]; exact if_pos ht
      have e2 : psN R t (n + 1) = psN R t n ++ [((n : Int), ((gsN R t n).length : Int))] := by rw [psN]; exact if_pos ht
      have e3 : gsN R t (n + 1) = gsN R t n ++ gAll r n := by rw [gsN, hr]; exact if_pos ht
      rw [if_pos ht, stL_snoc, ih, e1, e2, e3]
      unfold stStep
      rw [hg, aim_app, duN_len, Int.zero_add]
    · have e1 : duN R t (n + 1) = duN R t n := by rw [duN, hr]; exact if_neg ht
      have e2 : psN R t (n + 1) = psN R t n := by rw [psN]; exact if_neg ht
      have e3 : gsN R t (n + 1) = gsN R t n := by rw [gsN, hr]; exact if_neg ht
      rw [if_neg ht, ih, e1, e2, e3]
theorem aim_keys : ∀ (gs : List Int) (k : Int), ∀ p ∈ aim k gs, k ≤ p.1 ∧ p.1 < k + gs.length
  | [], _, p, h => nomatch h
  | g :: gs, k, p, h => by
    unfold aim at h
    rw [List.length_cons]
    split at h
    · have := aim_keys gs (k + 1) p h; (first | lia | omega)
    · rcases List.mem_cons.mp h with rfl | h
      · dsimp only; (first | lia | omega)
      · have := aim_keys gs (k + 1) p h; (first | lia | omega)
theorem aim_nodup : ∀ (gs : List Int) (k : Int), ((aim k gs).map (·.1)).Nodup
  | [], _ => by simp [aim]
  | g :: gs, k => by
    unfold aim
    split
    · exact aim_nodup gs (k + 1)
    · rw [List.map_cons, List.nodup_cons]
      refine ⟨fun h => ?_, aim_nodup gs (k + 1)⟩
      obtain ⟨p, hp, e⟩ := List.mem_map.mp h
      have := aim_keys gs (k + 1) p hp
      dsimp only at e; (first | lia | omega)
theorem aim_mem : ∀ (gs : List Int) (k : Int) (p : Nat) (g : Int), gs[p]? = some g → g ≠ -1 → (k + p, fA g) ∈ aim k gs
  | [], _, _, _, h, _ => by simp at h
  | x :: gs, k, 0, g, h, hg => by
    simp at h; subst h
    unfold aim; rw [if_neg hg]; simp
  | x :: gs, k, p + 1, g, h, hg => by
    have := aim_mem gs (k + 1) p g (by simpa using h) hg
    have e : k + 1 + (p : Int) = k + ((p + 1 : Nat) : Int) := by (first | lia | omega)
    rw [e] at this
    unfold aim
    split
    · exact this
    · exact List.mem_cons_of_mem _ this
set_option tactic.hygienic true in
theorem aim_of : ∀ (gs : List Int) (k : Int) (q : Int × Int), q ∈ aim k gs → ∃ (p : Nat) (g : Int), gs[p]? = some g ∧ g ≠ -1 ∧ q = (k + p, fA g)
  | [], _, _, h => nomatch h
  | x :: gs, k, q, h => by
    unfold aim at h
    split at h
    · obtain ⟨p, g, h1, h2, h3⟩ := aim_of gs (k + 1) q h
      exact ⟨p + 1, g, by simpa using h1, h2, by rw [h3]; congr 1; (first | lia | omega)⟩
    · rename_i hx
      rcases List.mem_cons.mp h with rfl | h
      · exact ⟨0, x, rfl, hx, by simp⟩
      · obtain ⟨p, g, h1, h2, h3⟩ := aim_of gs (k + 1) q h
        exact ⟨p + 1, g, by simpa using h1, h2, by rw [h3]; congr 1; (first | lia | omega)⟩
noncomputable def bgL (R : List Row) : List (Int × Int) := psN R (reachN R R.length) R.length ++ [(-1, ((gsN R (reachN R R.length) R.length).length : Int))]
theorem bgL_nodup (R : List Row) : ((bgL R).map (·.1)).Nodup := by
  unfold bgL
  rw [List.map_append, List.nodup_append]
  refine ⟨psN_nodup _, by simp, ?_⟩
  intro a ha b hb e
  simp only [List.map_cons, List.map_nil, List.mem_singleton] at hb
  subst hb; subst e
  obtain ⟨p, hp, e⟩ := List.mem_map.mp ha
  have := psN_keys R _ _ p hp
  (first | lia | omega)
noncomputable def lkI (ps : List (Int × Int)) (g : Int) : Int := match ps.find? fun e => decide (e.1 = g) with
  | some e => e.2
  | none => 0
theorem lkI_mem {ps : List (Int × Int)} {g v : Int} (hn : (ps.map (·.1)).Nodup) (h : (g, v) ∈ ps) : lkI ps g = v := by
  induction ps with
  | nil => cases h
  | cons p ps ih =>
    obtain ⟨k, u⟩ := p
    rw [List.map_cons, List.nodup_cons] at hn
    unfold lkI
    rw [List.find?_cons]
    rcases List.mem_cons.mp h with h | h
    · cases h; simp
    · have : k ≠ g := fun q => hn.1 (q ▸ List.mem_map.mpr ⟨(g, v), h, rfl⟩)
      simp only [this, decide_false]
      exact ih hn.2 h
noncomputable def tgL (R : List Row) : List (Int × Int) := (aim 0 (gsN R (reachN R R.length) R.length)).map fun q => (q.1, lkI (bgL R) q.2)
theorem gs_fail {R : List Row} (H : Rows R) {g : Int} (h : g ∈ gsN R (reachN R R.length) R.length) (h1 : g ≠ -1) (h2 : g ≠ -2) : 0 < g ∧ g < R.length := by
  rcases gsN_mem h with h | ⟨i, r, hi, hr, ht, hg⟩
  · exact absurd h h1
  · rcases gAll_fol hr hg with h | h | hf
    · exact absurd h h1
    · exact absurd h h2
    · have := fol_in H hr g hf; (first | lia | omega)
theorem aim_place {R : List Row} (H : Rows R) {p : Nat} {g : Int} (h : (gsN R (reachN R R.length) R.length)[p]? = some g) (h1 : g ≠ -1) : ∃ v, (fA g, v) ∈ bgL R ∧ (g, v) ∈ psF R := by
  have hm := List.mem_of_getElem? h
  by_cases h2 : g = -2
  · subst h2
    refine ⟨_, List.mem_append_right _ (List.mem_singleton.mpr rfl), ?_⟩
    unfold psF
    dsimp only
    rw [if_pos]
    · exact List.mem_append_right _ (List.mem_singleton.mpr rfl)
    · unfold failB; simp only [List.any_map, List.any_eq_true]; exact ⟨-2, hm, by decide⟩
  · have hf : fA g = g := if_neg h2
    have hb := gs_fail H hm h1 h2
    obtain ⟨v, hv, _⟩ := goal_place H (g := g) (by
      unfold gsF; dsimp only; split
      · exact List.mem_append_left _ hm
      · exact hm) h1
    refine ⟨v, ?_, hv⟩
    rw [hf]
    unfold bgL
    unfold psF at hv
    dsimp only at hv
    split at hv
    · rcases List.mem_append.mp hv with hv | hv
      · exact List.mem_append_left _ hv
      · rw [List.mem_singleton] at hv; cases hv; (first | lia | omega)
    · exact List.mem_append_left _ hv
theorem gsF_get {R : List Row} {p : Nat} {g : Int} (h : (gsF R)[p]? = some g) (h1 : g ≠ -1) : (gsN R (reachN R R.length) R.length)[p]? = some g := by
  unfold gsF at h
  dsimp only at h
  split at h
  · rcases Nat.lt_or_ge p (gsN R (reachN R R.length) R.length).length with q | q
    · rwa [List.getElem?_append_left q] at h
    · rw [List.getElem?_append_right q] at h
      have := List.mem_of_getElem? h
      simp at this
      exact absurd this h1
  · exact h
theorem tgL_iff {R : List Row} (H : Rows R) {p : Nat} {g : Int} (h : (gsF R)[p]? = some g) : ((tgL R).any fun e => decide (e.1 = (p : Int))) = !(g == -1) := by
  by_cases h1 : g = -1
  · subst h1
    rw [show (!((-1 : Int) == -1)) = false from rfl, List.any_eq_false]
    intro e he
    obtain ⟨q, hq, rfl⟩ := List.mem_map.mp he
    obtain ⟨p', g', k1, k2, rfl⟩ := aim_of _ _ q hq
    simp only [decide_eq_true_eq]
    intro e
    have e : p' = p := by (first | lia | omega)
    subst e
    have : (gsF R)[p']? = some g' := by
      unfold gsF; dsimp only; split
      · rw [List.getElem?_append_left (List.getElem?_eq_some_iff.mp k1).1]; exact k1
      · exact k1
    rw [h] at this; cases this; exact k2 rfl
  · have hm := aim_mem _ 0 p g (gsF_get h h1) h1
    rw [show (!(g == -1)) = true by simpa using h1, List.any_eq_true]
    exact ⟨_, List.mem_map.mpr ⟨_, hm, rfl⟩, by simp⟩
theorem tgL_get {R : List Row} (H : Rows R) {p : Nat} {g v : Int} (h : (gsF R)[p]? = some g) (h1 : g ≠ -1) (hv : (g, v) ∈ psF R) : ((p : Int), v) ∈ tgL R := by
  have h' := gsF_get h h1
  obtain ⟨v', h2, h3⟩ := aim_place H h' h1
  have hm := aim_mem _ 0 p g h' h1
  have e : v' = v := by
    have a := dget_mem psF_nodup h3
    rw [dget_mem psF_nodup hv] at a
    cases a; rfl
  subst e
  refine List.mem_map.mpr ⟨_, hm, ?_⟩
  dsimp only
  rw [lkI_mem (bgL_nodup R) h2, Int.zero_add]
theorem tgL_nodup (R : List Row) : ((tgL R).map (·.1)).Nodup := by
  unfold tgL
  rw [List.map_map]
  exact aim_nodup _ 0
end Mine

set_option maxHeartbeats 2000000
namespace Mine
noncomputable def fLawDue : {fd : FD // theDefs[75]? = some (("_law_due" : Str), fd)} := ⟨_, rfl⟩
theorem fLawDueL : lkS "_law_due" theDefs = some fLawDue.1 := by kernel_rfl
section
variable {cx : Cx} {mu : List Str} {sc : Scope} {ρ ρ' : Rho} {P : Fl → Prop}
theorem forCall1 {x g : Str} {xp gp q p : Pos} {e : Expr} {body : List Stmt} {es ds : List D} {fr : Bool} (hv : namesVar sc (.Name x xp) = true) (hne : isEnum g sc ρ = false) (hg : (ρ.get g).isNone = true) (hk : sc.names.lookup g = some .globalImplicit) (hd : g ≠ ("__debug__" : Str)) (he : evs cx [e] sc ρ = some es) (hr : cx.fn g es = some (.list ds, fr)) (hn : ds.length ≤ 100000) :
    ex cx mu sc (.For (.Name x xp) (.Call (.Name g gp) [e] [] q) body [] p) ρ = forGo (fun d ρ => exs cx mu sc body (ρ.set x (d, .fro))) ds ρ := by
  rw [xForC, if_pos hv, if_neg (by rw [hne]; simp), callD, if_pos ⟨Option.isNone_iff_eq_none.mp hg, hk, hd⟩, he, Option.bind_some, hr]
  rw [Option.map_some, Option.bind_some, if_neg (by cases fr <;> simp)]
  show (iterItems (.Name x xp) (.list ds)).bind _ = _
  rw [iter_list _ hn, Option.bind_some]; rfl
end
noncomputable def tp (q : Int × Int) : D := .tup [.int q.1, .int q.2]
theorem parts_aim : ∀ (gs : List Int) (i : Int), partsFrom i gs = (aim i gs).map tp
  | [], _ => rfl
  | g :: gs, i => by
    unfold partsFrom aim
    split
    · exact parts_aim gs (i + 1)
    · rw [List.map_cons, parts_aim gs (i + 1)]; rfl
theorem aim_shift : ∀ (gs : List Int) (k : Int) (i : Int), (aim i gs).map (fun q => (k + q.1, q.2)) = aim (k + i) gs
  | [], _, _ => rfl
  | g :: gs, k, i => by
    unfold aim
    split
    · rw [aim_shift gs k (i + 1)]; congr 1; (first | lia | omega)
    · rw [List.map_cons, aim_shift gs k (i + 1)]
      have : k + (i + 1) = k + i + 1 := by (first | lia | omega)
      rw [this]
theorem aim_len : ∀ (gs : List Int) (k : Int), (aim k gs).length ≤ gs.length
  | [], _ => Nat.le_refl 0
  | g :: gs, k => by
    have := aim_len gs (k + 1)
    unfold aim; split
    · rw [List.length_cons]; (first | lia | omega)
    · rw [List.length_cons, List.length_cons]; (first | lia | omega)
theorem rep_flat (j : Int) : ∀ k, (List.replicate k [D.int j]).flatten = (List.replicate k j).map .int
  | 0 => rfl
  | k + 1 => by rw [List.replicate_succ, List.flatten_cons, rep_flat j k]; rfl
noncomputable def iD (l : List Int) : List D := l.map .int
theorem iD_len (l : List Int) : (iD l).length = l.length := List.length_map ..
noncomputable def rho_ld (R : List Row) (du : List Int) (bg : List (Int × Int)) (am : List (Int × Int)) (τ : Rho) : Rho := ("rows", .list (R.map tD), .fro) :: ("found", .list (iD du), .fro) :: ("begins", .dict (pD bg), .bor) :: ("aims", .list (am.map tp), .fro) :: τ
noncomputable def TlT (x y z : Str) (τ : Rho) : Prop := τ = [] ∨ ∃ u v w, τ = [(x, u), (y, v), (z, w)]
theorem TlT.set {x y z : Str} {τ : Rho} (h : TlT x y z τ) (v : D × Mode) : ∃ σ, TlP y z σ ∧ Rho.set x v τ = (x, v) :: σ := by
  rcases h with rfl | ⟨a, b, c, rfl⟩
  · exact ⟨[], .inl rfl, rfl⟩
  · exact ⟨[(y, b), (z, c)], .inr ⟨_, _, rfl⟩, by unfold Rho.set; rw [if_pos rfl]⟩
theorem filterMap_tp {f : D → Option D} {g : Int × Int → D} : ∀ {l : List (Int × Int)}, (∀ q ∈ l, f (tp q) = some (g q)) → (l.map tp).filterMap f = l.map g
  | [], _ => rfl
  | q :: l, h => by
    rw [List.map_cons, List.filterMap_cons_some (h q (List.mem_cons_self ..)), filterMap_tp fun q hq => h q (List.mem_cons_of_mem _ hq)]; rfl
noncomputable def sndI : D → Option D
  | .tup [_, .int b] => if b < 0 then some (.int b) else none
  | _ => none
theorem filterMap_neg : ∀ l : List (Int × Int), (l.map tp).filterMap sndI = iD ((l.map (·.2)).filter fun b => decide (b < 0))
  | [] => rfl
  | q :: l => by
    have ih := filterMap_neg l
    by_cases h : q.2 < 0
    · rw [List.map_cons, List.filterMap_cons_some (show sndI (tp q) = some (.int q.2) from if_pos h), ih, List.map_cons, List.filter_cons, if_pos (decide_eq_true h)]; rfl
    · rw [List.map_cons, List.filterMap_cons_none (show sndI (tp q) = none from if_neg h), ih, List.map_cons, List.filter_cons, if_neg (by simpa using h)]
theorem foldl_dput : ∀ (l acc : List (Int × Int)), ((acc ++ l).map (·.1)).Nodup → (l.map fun p => (p.1, D.int p.2)).foldl (fun e q => dput e q.1 q.2) (pD acc) = pD (acc ++ l)
  | [], acc, _ => by simp
  | p :: l, acc, h => by
    rw [List.map_cons, List.foldl_cons]
    have e : dput (pD acc) p.1 (.int p.2) = pD (acc ++ [p]) := dput_new fun q hq e => by
      rw [List.map_append, List.nodup_append] at h
      exact h.2.2 q.1 (List.mem_map.mpr ⟨q, hq, rfl⟩) p.1 (by simp) e
    dsimp only
    rw [e, foldl_dput l (acc ++ [p]) (by simpa using h)]; simp
theorem dprs_tp : ∀ l : List (Int × Int), dprs (l.map tp) = some (l.map fun p => (p.1, D.int p.2))
  | [] => rfl
  | p :: l => by rw [List.map_cons, show tp p = .tup [.int p.1, .int p.2] from rfl, dprs, dprs_tp l]; rfl
theorem neg_iff {R : List Row} (H : Rows R) : (!decide (((aim 0 (gsN R (reachN R R.length) R.length)).map (·.2)).filter (fun b => decide (b < 0)) = [])) = failB (gsN R (reachN R R.length) R.length) := by
  generalize hg : gsN R (reachN R R.length) R.length = gs
  rw [Bool.eq_iff_iff]
  unfold failB
  simp only [Bool.not_eq_true', decide_eq_false_iff_not, List.any_map, List.any_eq_true]
  constructor
  · intro h
    obtain ⟨b, hb⟩ := List.exists_mem_of_ne_nil _ h
    rw [List.mem_filter] at hb
    obtain ⟨q, hq, e⟩ := List.mem_map.mp hb.1
    obtain ⟨p, g, h1, h2, rfl⟩ := aim_of _ _ q hq
    have hm := List.mem_of_getElem? h1
    refine ⟨g, hm, ?_⟩
    by_cases h3 : g = -2
    · subst h3; decide
    · have := gs_fail H (g := g) (by rw [hg]; exact hm) h2 h3
      have hn := of_decide_eq_true hb.2
      dsimp only at e
      rw [← e, show fA g = g from if_neg h3] at hn
      (first | lia | omega)
  · rintro ⟨g, hm, h⟩ hn
    have h : g = -2 := by simpa using h
    subst h
    obtain ⟨p, hp⟩ := List.mem_iff_getElem?.mp hm
    have := aim_mem gs 0 p (-2) hp (by decide)
    have h2 : fA (-2) ∈ ((aim 0 gs).map (·.2)).filter (fun b => decide (b < 0)) := List.mem_filter.mpr ⟨List.mem_map.mpr ⟨_, this, rfl⟩, by decide⟩
    rw [hn] at h2; cases h2
abbrev LdI (R : List Row) (t : List Bool) (m : Nat) (ρ : Rho) : Prop := ∃ (s : St) (τ : Rho), TlT "at" "count" "some" τ ∧ s = stL R ((rlN t R.length).take m) ∧ s.du.length ≤ 3 + 11 * m ∧ s.ps.length ≤ m ∧ s.am.length ≤ 11 * m ∧ (∀ p ∈ s.ps, ∃ j ∈ (rlN t R.length).take m, p.1 = (j : Int)) ∧ ρ = rho_ld R s.du s.ps s.am τ
section
variable {F : Fct} (C : Closed F)
include C
theorem due_ok {R : List Row} (H : Rows R) : F 7 "_law_due" [.list (R.map tD)] (.tup [.list (iD (duF R)), .dict (pD (tgL R))], false) := by
  have h10 := H.l10
  have h4 := H.l4
  have hol : (R.map tD).length = R.length := List.length_map ..
  generalize ht : reachN R R.length = t
  have hrl : ∀ j ∈ rlN t R.length, j < R.length := fun j hj => List.mem_range.mp (List.mem_filter.mp hj).1
  have hrll : (rlN t R.length).length ≤ R.length := by have := List.length_filter_le (fun j => t.getD j false) (List.range R.length); rw [List.length_range] at this; exact this
  let S1 : List D → D × Bool → Prop := fun es q => es = [.list (R.map tD)] ∧ q = (.list ((rlN t R.length).map fun (j : Nat) => D.int (j : Int)), true)
  let S2 : List D → D × Bool → Prop := fun es q => ∃ (a : Nat) (r : Row), R[a]? = some r ∧ es = [tD r, .int a] ∧ q = (.tup [.int (gA R a).length, .list ((aim 0 (gA R a)).map tp)], false)
  have p1 : pick S1 [.list (R.map tD)] = some (.list ((rlN t R.length).map fun (j : Nat) => D.int (j : Int)), true) := pick_uniq ⟨rfl, rfl⟩ fun q h => h.2
  have p2 : ∀ {a : Nat} {r : Row}, R[a]? = some r → pick S2 [tD r, .int a] = some (.tup [.int (gA R a).length, .list ((aim 0 (gA R a)).map tp)], false) := fun {a r} h => pick_uniq ⟨a, r, h, rfl, rfl⟩ fun q ⟨a', r', h', e, eq⟩ => by
    simp only [List.cons.injEq, D.int.injEq, Int.natCast_inj, and_true] at e
    rw [e.2]; exact eq
  generalize hT : withS S1 "_law_reached" (withS S2 "_law_parts" (runT [] 6)) = T
  have jT : Just F 6 T := by
    rw [← hT]
    refine withS_just ?_ (withS_just ?_ (just C 6))
    · rintro es q ⟨rfl, rfl⟩; rw [← ht]; exact lreached_ok C H
    · rintro es q ⟨a, r, h, rfl, rfl⟩
      have := (H.kind a r h).parts C (a := a) (by (first | lia | omega))
      rw [parts_aim] at this
      rw [show gA R a = gAll r a by unfold gA; rw [h]]
      exact C.le this (by (first | lia | omega))
  have hlen : ∀ l : List D, l.length ≤ 1000000 → T "len" [.list l] = some (.int l.length, false) := by
    intro l hl
    have : T "len" [.list l] = if l.length ≤ 1000000 then some (.int l.length, false) else none := by rw [← hT]; kernel_rfl
    rw [this, if_pos hl]
  have hdi : ∀ l, T "dict" [.list l] = bDict [.list l] := fun l => by rw [← hT]; kernel_rfl
  have hre : T "_law_reached" [.list (R.map tD)] = some (.list ((rlN t R.length).map fun (j : Nat) => D.int (j : Int)), true) := by rw [← hT]; exact withS_same.trans p1
  have hpa : ∀ {a : Nat} {r : Row}, R[a]? = some r → T "_law_parts" [tD r, .int a] = some (.tup [.int (gA R a).length, .list ((aim 0 (gA R a)).map tp)], false) := fun {a r} h => by rw [← hT]; exact Eq.trans (b := pick S2 [tD r, .int a]) (by kernel_rfl) (p2 h)
  clear hT p1 p2
  refine enter C (by decide +kernel) fLawDueL jT (by kernel_rfl) ?_
  have elen : ∀ {sc : Scope} {ρ : Rho} {lp p op : Pos} {x : Str} {l : List D} {m : Mode}, sc.names.lookup ("len" : Str) = some .globalImplicit → x ≠ ("__debug__" : Str) → m ≠ .bor → Rho.get "len" ρ = none → Rho.get x ρ = some (.list l, m) → l.length ≤ 1000000 → ev ⟨con0, T, fld0⟩ (.Call (.Name "len" lp) [.Name x op] [] p) sc ρ = some (.int l.length, .fro) := by
    intro sc ρ lp p op x l m hs hx hm h1 h2 h3
    refine callI (ds := [.list l]) (d := .int l.length) (fr := false) (by kernel_rfl) (by kernel_rfl) (by rw [h1]; rfl) hs (by decide +kernel) (evsI (m := m) ?_ hm rfl) (hlen l h3)
    rw [eName, if_neg hx, h2]
  refine wSeq (ρ' := rho_ld R [-1, -1, -1] [] [] []) (by kernel_rfl) ?_
  refine wFor (forCall1 (es := [.list (R.map tD)]) (ds := (rlN t R.length).map fun (j : Nat) => D.int (j : Int)) (fr := true) (by kernel_rfl) (by kernel_rfl) (by kernel_rfl) (by kernel_rfl) (by decide +kernel) (by kernel_rfl) hre (by rw [List.length_map]; (first | lia | omega)))
    (LdI R t)
    ⟨⟨[-1, -1, -1], [], []⟩, [], .inl rfl, rfl, by decide, by decide, by decide, fun p h => (nomatch h), rfl⟩ ?_ ?_
  · rintro m d ρ hd ⟨s, τ, hτ, hs, l1, l2, l3, hk, rfl⟩
    rw [List.getElem?_map] at hd
    obtain ⟨j, hj, rfl⟩ := Option.map_eq_some_iff.mp hd
    have hm := (List.getElem?_eq_some_iff.mp hj).1
    have hjR := hrl j (List.mem_of_getElem? hj)
    obtain ⟨r, hr⟩ : ∃ r, R[j]? = some r := ⟨_, List.getElem?_eq_getElem hjR⟩
    have htk : (rlN t R.length).take (m + 1) = (rlN t R.length).take m ++ [j] := by rw [List.take_add_one, hj]; rfl
    have hgl : (gA R j).length ≤ 11 := by rw [show gA R j = gAll r j by unfold gA; rw [hr]]; exact gAll_len r j
    have hal := aim_len (gA R j) 0
    have hnew : ∀ p ∈ s.ps, p.1 ≠ (j : Int) := by
      intro p hp e
      obtain ⟨j', hj', e'⟩ := hk p hp
      have : j' = j := by (first | lia | omega)
      subst this
      have hnd : (rlN t R.length).Nodup := List.Pairwise.filter _ List.nodup_range
      rw [← List.take_append_drop m (rlN t R.length), List.nodup_append] at hnd
      exact hnd.2.2 j' hj' j' (by rw [List.mem_iff_getElem?]; exact ⟨0, by rw [List.getElem?_drop]; exact hj⟩) rfl
    obtain ⟨σ, hσ, e⟩ := hτ.set (.int j, .fro)
    show Wx _ _ _ _ (Rho.set "at" (.int j, .fro) (rho_ld R s.du s.ps s.am τ)) _
    rw [show Rho.set "at" (.int j, .fro) (rho_ld R s.du s.ps s.am τ) = rho_ld R s.du s.ps s.am (("at", .int j, .fro) :: σ) by rw [← e]; kernel_rfl]
    obtain ⟨du, ps, am⟩ := s
    dsimp only at l1 l2 l3 hk hnew ⊢
    refine wSeq (ρ' := rho_ld R du (ps ++ [((j : Int), (du.length : Int))]) am (("at", .int j, .fro) :: σ)) ?_ ?_
    · rw [storeI (d := .dict (pD ps)) (d' := .dict (pD (ps ++ [((j : Int), (du.length : Int))]))) (vd := .int du.length) (j := (.int j, .fro)) (m := .fro) (by kernel_rfl) (by decide +kernel) (by kernel_rfl)
        (by rw [elen (l := iD du) (m := .fro) (by kernel_rfl) (by decide +kernel) (by simp) (by rcases hσ with rfl | ⟨v, w, rfl⟩ <;> kernel_rfl) (by kernel_rfl) (by rw [iD_len]; (first | lia | omega)), iD_len]) (by simp) (by kernel_rfl) ?_]
      · kernel_rfl
      · show (if _ then _ else _) = _
        rw [if_pos (by simp only [pD, List.length_map]; (first | lia | omega)), dput_new hnew]
    refine wSeq (ρ' := rho_ld R du (ps ++ [((j : Int), (du.length : Int))]) am [("at", .int j, .fro), ("count", .int (gA R j).length, .fro), ("some", .list ((aim 0 (gA R j)).map tp), .fro)]) ?_ ?_
    · rw [xAsgTF, if_pos (by kernel_rfl), callI (ds := [tD r, .int j]) (d := .tup [.int (gA R j).length, .list ((aim 0 (gA R j)).map tp)]) (fr := false) (by kernel_rfl) (by kernel_rfl) (by rcases hσ with rfl | ⟨v, w, rfl⟩ <;> kernel_rfl) (by kernel_rfl) (by decide +kernel)
        (evsI (m := .fro) (subI (by kernel_rfl) (x := (.list (R.map tD), .fro)) (y := (.int j, .fro)) (by kernel_rfl) (by kernel_rfl) (at_ts hr h10)) (by simp) (by kernel_rfl)) (hpa hr)]
      rcases hσ with rfl | ⟨v, w, rfl⟩ <;> kernel_rfl
    have hfm : ((aim 0 (gA R j)).map tp).filterMap (fun d => some (D.tup [.int ((du.length : Int) + (match pr1 d with | .int a => a | _ => 0)), pr2 d])) = (aim (du.length : Int) (gA R j)).map tp := by
      rw [filterMap_tp (g := fun q => tp ((du.length : Int) + q.1, q.2)) (fun q _ => rfl)]
      have := aim_shift (gA R j) (du.length : Int) 0
      rw [Int.add_zero] at this
      rw [← this, List.map_map]; rfl
    refine wSeq (ρ' := rho_ld R du (ps ++ [((j : Int), (du.length : Int))]) (am ++ aim (du.length : Int) (gA R j)) [("at", .int j, .fro), ("count", .int (gA R j).length, .fro), ("some", .list ((aim 0 (gA R j)).map tp), .fro)]) ?_ ?_
    · rw [asgI (d := .list ((am ++ aim (du.length : Int) (gA R j)).map tp)) (m := .fre) (by kernel_rfl) (binI (x := (.list (am.map tp), .fro)) (y := (.list ((aim (du.length : Int) (gA R j)).map tp), .fre)) (by kernel_rfl)
        (hfm ▸ compI (ds := (aim 0 (gA R j)).map tp) (f := fun d => some (D.tup [.int ((du.length : Int) + (match pr1 d with | .int a => a | _ => 0)), pr2 d])) (m := .fro) (by kernel_rfl) (by kernel_rfl) (by simp) (by rw [List.length_map]; (first | lia | omega)) (fun d hd => by
          obtain ⟨q, _, rfl⟩ := List.mem_map.mp hd
          refine (compBody (b := [("spot", .int q.1), ("goal", .int q.2)]) (c := true) (y := tp ((du.length : Int) + q.1, q.2)) (m := .fro) (by kernel_rfl) rfl ?_ (by simp)).trans rfl
          rw [eTup, if_pos (by kernel_rfl), evsI (d := .int ((du.length : Int) + q.1)) (m := .fro) (binI (x := (.int du.length, .fro)) (y := (.int q.1, .fro)) (by rw [elen (l := iD du) (m := .fro) (by kernel_rfl) (by decide +kernel) (by simp) (by kernel_rfl) (by kernel_rfl) (by rw [iD_len]; (first | lia | omega)), iD_len]) (by kernel_rfl) rfl) (by simp) (by kernel_rfl)]
          rfl)) (by
          show (if _ then _ else _) = _
          have := aim_len (gA R j) (du.length : Int)
          rw [if_pos (by simp only [List.length_map]; (first | lia | omega)), List.map_append])) (by simp)]
      kernel_rfl
    refine wSeq (ρ' := rho_ld R (du ++ List.replicate (gA R j).length (j : Int)) (ps ++ [((j : Int), (du.length : Int))]) (am ++ aim (du.length : Int) (gA R j)) [("at", .int j, .fro), ("count", .int (gA R j).length, .fro), ("some", .list ((aim 0 (gA R j)).map tp), .fro)]) ?_ (wNil ⟨_, rfl, stStep R ⟨du, ps, am⟩ j, [("at", .int j, .fro), ("count", .int (gA R j).length, .fro), ("some", .list ((aim 0 (gA R j)).map tp), .fro)], .inr ⟨_, _, _, rfl⟩, ?_, ?_, ?_, ?_, ?_, rfl⟩)
    · exact (asgI (d := .list (iD (du ++ List.replicate (gA R j).length (j : Int)))) (m := .fre) (by kernel_rfl) (binI (x := (.list (iD du), .fro)) (y := (.list (iD (List.replicate (gA R j).length (j : Int))), .fre)) (by kernel_rfl)
        (binI (x := (.list [.int j], .fre)) (y := (.int (gA R j).length, .fro)) (by kernel_rfl) (by kernel_rfl) (by
          show (if _ then some (D.list (List.replicate _ _).flatten, Mode.fre) else none) = _
          rw [if_pos ⟨by (first | lia | omega), by (first | lia | omega), by simp⟩, rep_flat, Int.toNat_natCast]; rfl)) (by
          show (if _ then _ else _) = _
          rw [if_pos (by rw [iD_len, iD_len, List.length_replicate]; (first | lia | omega))]
          unfold iD; rw [List.map_append])) (by simp)).trans (by kernel_rfl)
    · rw [htk, stL_snoc, ← hs]
    · unfold stStep; simp only [List.length_append, List.length_replicate]; (first | lia | omega)
    · unfold stStep; simp only [List.length_append, List.length_singleton]; (first | lia | omega)
    · have := aim_len (gA R j) (du.length : Int)
      unfold stStep; simp only [List.length_append]; (first | lia | omega)
    · intro p hp
      rw [htk]
      unfold stStep at hp
      dsimp only at hp
      rcases List.mem_append.mp hp with hp | hp
      · obtain ⟨j', h1, h2⟩ := hk p hp
        exact ⟨j', List.mem_append_left _ h1, h2⟩
      · rw [List.mem_singleton] at hp; subst hp
        exact ⟨j, List.mem_append_right _ (List.mem_singleton.mpr rfl), rfl⟩
  · rintro ρ ⟨s, τ, hτ, hs, l1, l2, l3, hk, rfl⟩
    rw [List.length_map] at hs l1 l2 l3
    rw [List.take_length, stL_eq t R.length (Nat.le_refl _)] at hs
    subst hs
    dsimp only at l1 l2 l3 ⊢
    have hgl := gsN_len R t R.length
    have hdl := duN_len R t R.length
    have hbg : bgL R = psN R t R.length ++ [(-1, ((gsN R t R.length).length : Int))] := by unfold bgL; rw [ht]
    have hal := aim_len (gsN R t R.length) 0
    refine wSeq (ρ' := rho_ld R (duN R t R.length) (bgL R) (aim 0 (gsN R t R.length)) τ) ?_ ?_
    · rw [storeI (d := .dict (pD (psN R t R.length))) (d' := .dict (pD (bgL R))) (vd := .int (duN R t R.length).length) (j := (.int (-1), .fro)) (m := .fro) (by kernel_rfl) (by decide +kernel) (by kernel_rfl)
        (by rw [elen (l := iD (duN R t R.length)) (m := .fro) (by kernel_rfl) (by decide +kernel) (by simp) (by rcases hτ with rfl | ⟨u, v, w, rfl⟩ <;> kernel_rfl) (by kernel_rfl) (by rw [iD_len]; (first | lia | omega)), iD_len]) (by simp) (by kernel_rfl) ?_]
      · kernel_rfl
      · show (if _ then _ else _) = _
        rw [if_pos (by simp only [pD, List.length_map]; (first | lia | omega)), dput_new (fun p hp => by have := psN_keys R t R.length p hp; (first | lia | omega)), hbg, hdl]
    have fin : ∀ {r : List Stmt} {s3 : Stmt} {du : List Int}, (ex ⟨con0, T, fld0⟩ fLawDue.1.mu fLawDue.1.scope s3 (rho_ld R du (bgL R) (aim 0 (gsN R t R.length)) τ) = some (.ret (.tup [.list (iD du), .dict (pD (tgL R))]) false)) → du = duF R → Wx ⟨con0, T, fld0⟩ fLawDue.1.mu fLawDue.1.scope (s3 :: r) (rho_ld R du (bgL R) (aim 0 (gsN R t R.length)) τ) fun fl => flVal fl = (.tup [.list (iD (duF R)), .dict (pD (tgL R))], false) := by
      intro r s3 du h e
      subst e
      exact wRet h rfl
    have ret : ∀ {du : List Int} {e1 e2 : Expr} {k : Nat} {q p : Pos}, few [e1, e2] = true → ev ⟨con0, T, fld0⟩ e1 fLawDue.1.scope (rho_ld R du (bgL R) (aim 0 (gsN R t R.length)) τ).frz = some (.list (iD du), .fro) → ev ⟨con0, T, fld0⟩ e2 fLawDue.1.scope (rho_ld R du (bgL R) (aim 0 (gsN R t R.length)) τ).frz = some (.dict (pD (tgL R)), .fre) → ex ⟨con0, T, fld0⟩ fLawDue.1.mu fLawDue.1.scope (.Return (some (.Tuple [e1, e2] k q)) p) (rho_ld R du (bgL R) (aim 0 (gsN R t R.length)) τ) = some (.ret (.tup [.list (iD du), .dict (pD (tgL R))]) false) := by
      intro du e1 e2 k q p hf h1 h2
      rw [xRetT, eTup, if_pos hf, evsI (m := .fro) h1 (by simp) (evsI (m := .fre) h2 (by simp) rfl)]
      rfl
    have hfm : ((aim 0 (gsN R t R.length)).map tp).filterMap (fun d => some (D.tup [pr1 d, .int (match pr2 d with | .int b => lkI (bgL R) b | _ => 0)])) = (tgL R).map tp := by
      rw [filterMap_tp (g := fun q => tp (q.1, lkI (bgL R) q.2)) (fun q _ => rfl)]
      unfold tgL; rw [ht, List.map_map]; rfl
    have hdict : T "dict" [.list ((tgL R).map tp)] = some (.dict (pD (tgL R)), true) := by
      rw [hdi]
      unfold bDict
      dsimp only
      rw [dprs_tp]
      dsimp only
      have h1 : (tgL R).length ≤ (gsN R t R.length).length := by unfold tgL; rw [ht, List.length_map]; exact hal
      rw [if_pos (by rw [List.length_map]; (first | lia | omega))]
      have := foldl_dput (tgL R) [] (by simpa using tgL_nodup R)
      rw [List.nil_append] at this
      rw [← this]; rfl
    have last : ∀ {du : List Int}, du = duF R → Wx ⟨con0, T, fld0⟩ fLawDue.1.mu fLawDue.1.scope (fLawDue.1.body.drop 4) (rho_ld R du (bgL R) (aim 0 (gsN R t R.length)) τ) fun fl => flVal fl = (.tup [.list (iD (duF R)), .dict (pD (tgL R))], false) := by
      intro du hdu
      refine fin (ret (by kernel_rfl) (by rcases hτ with rfl | ⟨u, v, w, rfl⟩ <;> kernel_rfl) ?_) hdu
      refine callI (ds := [.list ((tgL R).map tp)]) (d := .dict (pD (tgL R))) (fr := true) (by kernel_rfl) (by kernel_rfl) (by rcases hτ with rfl | ⟨u, v, w, rfl⟩ <;> kernel_rfl) (by kernel_rfl) (by decide +kernel) (evsI (m := .fre) (hfm ▸ compI (ds := (aim 0 (gsN R t R.length)).map tp) (f := fun d => some (D.tup [pr1 d, .int (match pr2 d with | .int b => lkI (bgL R) b | _ => 0)])) (m := .fro) (by rcases hτ with rfl | ⟨u, v, w, rfl⟩ <;> kernel_rfl) (by rcases hτ with rfl | ⟨u, v, w, rfl⟩ <;> kernel_rfl) (by simp) (by rw [List.length_map]; (first | lia | omega)) (fun d hd => ?_)) (by simp) rfl) hdict
      obtain ⟨q, hq, rfl⟩ := List.mem_map.mp hd
      obtain ⟨p', g', k1, k2, rfl⟩ := aim_of _ _ q hq
      obtain ⟨v, hv, _⟩ := aim_place H (p := p') (g := g') (by rw [ht]; exact k1) k2
      refine (compBody (b := [("spot", .int (0 + (p' : Int))), ("goal", .int (fA g'))]) (c := true) (y := tp (0 + (p' : Int), lkI (bgL R) (fA g'))) (m := .fro) (by kernel_rfl) rfl ?_ (by simp)).trans rfl
      rw [eTup, if_pos (by kernel_rfl), evsI (d := .int (0 + (p' : Int))) (m := .fro) (by rcases hτ with rfl | ⟨u, v, w, rfl⟩ <;> kernel_rfl) (by simp) (evsI (d := .int (lkI (bgL R) (fA g'))) (m := .fro) (subI (by kernel_rfl) (x := (.dict (pD (bgL R)), .fro)) (y := (.int (fA g'), .fro)) (by rcases hτ with rfl | ⟨u, v, w, rfl⟩ <;> kernel_rfl) (by rcases hτ with rfl | ⟨u, v, w, rfl⟩ <;> kernel_rfl) (by
        rw [lkI_mem (bgL_nodup R) hv]; exact dget_mem (bgL_nodup R) hv)) (by simp) rfl)]
      rfl
    refine wIf (c := failB (gsN R t R.length)) ?_ (fun hc => ?_) fun hc => ?_
    · have hni := neg_iff H
      rw [ht] at hni
      refine cmpI (x := (.list (iD (((aim 0 (gsN R t R.length)).map (·.2)).filter fun b => decide (b < 0))), .fre)) (y := (.list [], .fre)) (by kernel_rfl) ?_ (by kernel_rfl) ?_
      · rw [← filterMap_neg]
        refine compI (ds := (aim 0 (gsN R t R.length)).map tp) (f := sndI) (m := .fro) (by rcases hτ with rfl | ⟨u, v, w, rfl⟩ <;> kernel_rfl) (by kernel_rfl) (by simp) (by rw [List.length_map]; (first | lia | omega)) (fun d hd => ?_)
        obtain ⟨q, _, rfl⟩ := List.mem_map.mp hd
        refine (compBody (b := [("spot", .int q.1), ("goal", .int q.2)]) (c := decide (q.2 < 0)) (y := .int q.2) (m := .fro) (by kernel_rfl) (trsOne (cmpI (x := (.int q.2, .fro)) (y := (.int 0, .fro)) (by kernel_rfl) (by rcases hτ with rfl | ⟨u, v, w, rfl⟩ <;> kernel_rfl) (by kernel_rfl) rfl)) (by rcases hτ with rfl | ⟨u, v, w, rfl⟩ <;> kernel_rfl) (by simp)).trans ?_
        unfold sndI tp
        dsimp only
        by_cases h : q.2 < 0
        · rw [decide_eq_true h, if_pos rfl, if_pos h]
        · rw [decide_eq_false h, if_neg Bool.false_ne_true, if_neg h]
      · rw [← hni]
        show (((intsOf (iD _)).bind fun a => (intsOf []).map fun b => decide (a = b)).map (!·)) = _
        unfold iD
        rw [intsOf_map]; rfl
    · refine wSeq (ρ' := rho_ld R (duN R t R.length ++ [-1, -1]) (bgL R) (aim 0 (gsN R t R.length)) τ) ?_ ?_
      · exact (asgI (d := .list (iD (duN R t R.length ++ [-1, -1]))) (m := .fre) (by kernel_rfl) (binI (x := (.list (iD (duN R t R.length)), .fro)) (y := (.list [.int (-1), .int (-1)], .fre)) (by kernel_rfl) (by kernel_rfl) (by
          show (if _ then _ else _) = _
          rw [if_pos (by rw [iD_len]; simp; (first | lia | omega))]
          unfold iD; rw [List.map_append]; rfl)) (by simp)).trans (by kernel_rfl)
      · have hdu : duN R t R.length ++ [-1, -1] = duF R := by unfold duF; rw [ht]; exact (if_pos hc).symm
        exact last hdu
    · have hdu : duN R t R.length = duF R := by unfold duF; rw [ht]; exact (if_neg (by rw [hc]; exact Bool.false_ne_true)).symm
      exact last hdu
end
end Mine

set_option maxHeartbeats 2000000
namespace Mine
noncomputable def fLawCell : {fd : FD // theDefs[67]? = some (("_law_cell" : Str), fd)} := ⟨_, rfl⟩
theorem fLawCellL : lkS "_law_cell" theDefs = some fLawCell.1 := by kernel_rfl
noncomputable def fLawRow : {fd : FD // theDefs[68]? = some (("_law_row" : Str), fd)} := ⟨_, rfl⟩
theorem fLawRowL : lkS "_law_row" theDefs = some fLawRow.1 := by kernel_rfl
noncomputable def fLawRows : {fd : FD // theDefs[69]? = some (("_law_rows" : Str), fd)} := ⟨_, rfl⟩
theorem fLawRowsL : lkS "_law_rows" theDefs = some fLawRows.1 := by kernel_rfl
noncomputable def cellV (ns : List Int) (a : Nat) : Int := match ns[a]? with
  | some i => i.fmod 18446744073709551616
  | none => (5903 * (a : Int) * a + 83009 * a + 37 * (ns.length : Int) + 23).fmod 61031
theorem small_ok {a : Int} (h0 : -1000000 ≤ a) (h1 : a ≤ 1000000) : small a = true := decide_eq_true (by (first | lia | omega))
theorem mult_ok {a b : Int} {m : Mode} (ha : small a = true) (hb : small b = true) : binop .Mult (.int a) m (.int b) = some (.int (a * b), .fro) := by
  show (if _ then _ else _) = _
  rw [if_pos ⟨ha, hb⟩]
section
variable {F : Fct} (C : Closed F)
include C
theorem cell_ok {ns : List Int} (hn : ns.length ≤ 63) {a : Nat} (ha : a ≤ 64) : F 1 "_law_cell" [.list (iD ns), .int a] (.int (cellV ns a), false) := by
  have hlen : runT [] 0 "len" [.list (iD ns)] = some (.int ns.length, false) := by
    have : runT [] 0 "len" [.list (iD ns)] = if (iD ns).length ≤ 1000000 then some (.int (iD ns).length, false) else none := by kernel_rfl
    rw [this, if_pos (by rw [iD_len]; (first | lia | omega)), iD_len]
  refine enter C (by decide +kernel) fLawCellL (just C 0) (by kernel_rfl) ?_
  refine wIf (c := decide ((a : Int) < ns.length)) (cmpI (x := (.int a, .fro)) (y := (.int ns.length, .fro)) (by kernel_rfl) (by kernel_rfl) (callI (ds := [.list (iD ns)]) (d := .int ns.length) (fr := false) (by kernel_rfl) (by kernel_rfl) (by kernel_rfl) (by kernel_rfl) (by decide +kernel) (by kernel_rfl) hlen) rfl) (fun hc => ?_) fun hc => ?_
  · have hc := of_decide_eq_true hc
    have hi : a < ns.length := by (first | lia | omega)
    have e : cellV ns a = (ns[a]).fmod 18446744073709551616 := by unfold cellV; rw [List.getElem?_eq_getElem hi]
    refine wRet (d := .int ((ns[a]).fmod 18446744073709551616)) (fr := false) ?_ (by rw [e]; rfl)
    rw [xRetB, binI (x := (.int ns[a], .fro)) (y := (.int 18446744073709551616, .fro)) (z := (.int ((ns[a]).fmod 18446744073709551616), .fro)) (subI (by kernel_rfl) (x := (.list (iD ns), .fro)) (y := (.int a, .fro)) (by kernel_rfl) (by kernel_rfl) (nth_of (by unfold iD; rw [List.getElem?_map, List.getElem?_eq_getElem hi]; rfl) (by (first | lia | omega)))) (by kernel_rfl) (by kernel_rfl)]
    rfl
  · have hc := of_decide_eq_false hc
    have hi : ns.length ≤ a := by (first | lia | omega)
    have e : cellV ns a = (5903 * (a : Int) * a + 83009 * a + 37 * (ns.length : Int) + 23).fmod 61031 := by unfold cellV; rw [List.getElem?_eq_none hi]
    refine wRet (d := .int ((5903 * (a : Int) * a + 83009 * a + 37 * (ns.length : Int) + 23).fmod 61031)) (fr := false) ?_ (by rw [e]; rfl)
    rw [xRetB, binI (x := (.int (5903 * (a : Int) * a + 83009 * a + 37 * (ns.length : Int) + 23), .fro)) (y := (.int 61031, .fro)) (z := (.int ((5903 * (a : Int) * a + 83009 * a + 37 * (ns.length : Int) + 23).fmod 61031), .fro))
      (binI (x := (.int (5903 * (a : Int) * a + 83009 * a + 37 * (ns.length : Int)), .fro)) (y := (.int 23, .fro))
        (binI (x := (.int (5903 * (a : Int) * a + 83009 * a), .fro)) (y := (.int (37 * (ns.length : Int)), .fro))
          (binI (x := (.int (5903 * (a : Int) * a), .fro)) (y := (.int (83009 * (a : Int)), .fro))
            (binI (x := (.int (5903 * (a : Int)), .fro)) (y := (.int a, .fro)) (binI (x := (.int 5903, .fro)) (y := (.int a, .fro)) (by kernel_rfl) (by kernel_rfl) (mult_ok (by decide) (small_ok (by (first | lia | omega)) (by (first | lia | omega))))) (by kernel_rfl) (mult_ok (small_ok (by (first | lia | omega)) (by (first | lia | omega))) (small_ok (by (first | lia | omega)) (by (first | lia | omega)))))
            (binI (x := (.int 83009, .fro)) (y := (.int a, .fro)) (by kernel_rfl) (by kernel_rfl) (mult_ok (by decide) (small_ok (by (first | lia | omega)) (by (first | lia | omega))))) rfl)
          (binI (x := (.int 37, .fro)) (y := (.int ns.length, .fro)) (by kernel_rfl) (callI (ds := [.list (iD ns)]) (d := .int ns.length) (fr := false) (by kernel_rfl) (by kernel_rfl) (by kernel_rfl) (by kernel_rfl) (by decide +kernel) (by kernel_rfl) hlen) (mult_ok (by decide) (small_ok (by (first | lia | omega)) (by (first | lia | omega))))) rfl) (by kernel_rfl) rfl) (by kernel_rfl) (by kernel_rfl)]
    rfl
end
end Mine

set_option maxHeartbeats 2000000
namespace Mine
theorem nth_menu {l : List Int} {i : Int} (h0 : 0 ≤ i) (h1 : i < l.length) (h2 : l.length ≤ 1000) : ∃ c ∈ l, nth (iD l) i = some (.int c) := by
  have hi : i.toNat < l.length := by (first | lia | omega)
  refine ⟨l[i.toNat], List.getElem_mem hi, ?_⟩
  unfold nth
  rw [if_pos h0, if_pos (by (first | lia | omega))]
  unfold iD
  rw [List.getElem?_map, List.getElem?_eq_getElem hi]; rfl
theorem fmod_b {x b : Int} (hb : 0 < b) : 0 ≤ x.fmod b ∧ x.fmod b < b := ⟨Int.fmod_nonneg_of_pos x hb, Int.fmod_lt_of_pos x hb⟩
noncomputable def rho_row (ns : List Int) (a : Nat) (b K PK O1 O2 FV : Int) : Rho := [("script", .list (iD ns), .fro), ("at", .int a, .fro), ("behind", .int b, .fro), ("kind", .int K, .fro), ("pick", .int PK, .fro), ("one", .int O1, .fro), ("two", .int O2, .fro), ("far", .int FV, .fro)]
section
variable {F : Fct} (C : Closed F)
include C
theorem row_ok {ns : List Int} (hn : ns.length ≤ 63) {a : Nat} (ha : a < 7) {b : Int} (hb : 0 < b) : ∃ r, Menu b r ∧ F 2 "_law_row" [.list (iD ns), .int a, .int b] (tD r, false) := by
  let S : List D → D × Bool → Prop := fun es q => ∃ k : Nat, k ≤ 64 ∧ es = [.list (iD ns), .int k] ∧ q = (.int (cellV ns k), false)
  have pS : ∀ {k : Nat}, k ≤ 64 → pick S [.list (iD ns), .int k] = some (.int (cellV ns k), false) := fun {k} hk => pick_uniq ⟨k, hk, rfl, rfl⟩ fun q ⟨k', _, e, eq⟩ => by
    simp only [List.cons.injEq, D.int.injEq, Int.natCast_inj, and_true, true_and] at e
    rw [e]; exact eq
  generalize hT : withS S "_law_cell" (runT [] 1) = T
  have jT : Just F 1 T := by rw [← hT]; exact withS_just (by rintro es q ⟨k, hk, rfl, rfl⟩; exact cell_ok C hn hk) (just C 1)
  have hcell : ∀ {k : Nat}, k ≤ 64 → T "_law_cell" [.list (iD ns), .int k] = some (.int (cellV ns k), false) := fun hk => by rw [← hT]; exact withS_same.trans (pS hk)
  clear hT pS
  have ha7 : a = 0 ∨ a = 1 ∨ a = 2 ∨ a = 3 ∨ a = 4 ∨ a = 5 ∨ a = 6 := by (first | lia | omega)
  have main : Wx ⟨con0, T, fld0⟩ fLawRow.1.mu fLawRow.1.scope fLawRow.1.body (rho0 fLawRow.1.params [.list (iD ns), .int a, .int b]) fun fl => ∃ r, Menu b r ∧ flVal fl = (tD r, false) := by
    have ecell : ∀ {ρ : Rho} {e : Expr} {fp p sp : Pos} {k : Nat}, k ≤ 64 → Rho.get "_law_cell" ρ = none → few [.Name "script" sp, e] = true → isLE "_law_cell" [.Name "script" sp, e] fLawRow.1.scope ρ = false → Rho.get "script" ρ = some (.list (iD ns), .fro) → ev ⟨con0, T, fld0⟩ e fLawRow.1.scope ρ = some (.int k, .fro) →
        ev ⟨con0, T, fld0⟩ (.Call (.Name "_law_cell" fp) [.Name "script" sp, e] [] p) fLawRow.1.scope ρ = some (.int (cellV ns k), .fro) := by
      intro ρ e fp p sp k hk h1 h2 h3 h4 h5
      refine callI (ds := [.list (iD ns), .int k]) (d := .int (cellV ns k)) (fr := false) h2 h3 (by rw [h1]; rfl) (by kernel_rfl) (by decide +kernel) (evsI (m := .fro) ?_ (by simp) (evsI (m := .fro) h5 (by simp) rfl)) (hcell hk)
      rw [eName, if_neg (by decide +kernel), h4]
    have emod : ∀ {ρ : Rho} {l r : Expr} {p : Pos} {x y : Int}, y ≠ 0 → ev ⟨con0, T, fld0⟩ l fLawRow.1.scope ρ = some (.int x, .fro) → ev ⟨con0, T, fld0⟩ r fLawRow.1.scope ρ = some (.int y, .fro) → ev ⟨con0, T, fld0⟩ (.BinOp l .Mod r p) fLawRow.1.scope ρ = some (.int (x.fmod y), .fro) := by
      intro ρ l r p x y hy h1 h2
      refine binI h1 h2 ?_
      show (if _ then _ else _) = _
      rw [if_neg hy]
    refine wSeq (ρ' := [("script", .list (iD ns), .fro), ("at", .int a, .fro), ("behind", .int b, .fro), ("kind", .int ((cellV ns (1 + 4 * a)).fmod 12), .fro), ("pick", .int (cellV ns (2 + 4 * a)), .fro)]) ?_ ?_
    · rw [xAsgT, if_pos (by kernel_rfl), if_pos ⟨by kernel_rfl, by kernel_rfl⟩, mCons, emod (x := cellV ns (1 + 4 * a)) (y := 12) (by decide) (ecell (k := 1 + 4 * a) (by (first | lia | omega)) (by kernel_rfl) (by kernel_rfl) (by kernel_rfl) (by kernel_rfl) (by rcases ha7 with rfl | rfl | rfl | rfl | rfl | rfl | rfl <;> kernel_rfl)) (by kernel_rfl),
        Option.bind_some, if_neg (by simp), mCons, ecell (k := 2 + 4 * a) (by (first | lia | omega)) (by kernel_rfl) (by kernel_rfl) (by kernel_rfl) (by kernel_rfl) (by rcases ha7 with rfl | rfl | rfl | rfl | rfl | rfl | rfl <;> kernel_rfl)]
      kernel_rfl
    refine wSeq (ρ' := [("script", .list (iD ns), .fro), ("at", .int a, .fro), ("behind", .int b, .fro), ("kind", .int ((cellV ns (1 + 4 * a)).fmod 12), .fro), ("pick", .int (cellV ns (2 + 4 * a)), .fro), ("one", .int ((cellV ns (3 + 4 * a)).fmod b), .fro), ("two", .int ((cellV ns (4 + 4 * a)).fmod b), .fro)]) ?_ ?_
    · rw [xAsgT, if_pos (by kernel_rfl), if_pos ⟨by kernel_rfl, by kernel_rfl⟩, mCons, emod (x := cellV ns (3 + 4 * a)) (y := b) (by (first | lia | omega)) (ecell (k := 3 + 4 * a) (by (first | lia | omega)) (by kernel_rfl) (by kernel_rfl) (by kernel_rfl) (by kernel_rfl) (by rcases ha7 with rfl | rfl | rfl | rfl | rfl | rfl | rfl <;> kernel_rfl)) (by kernel_rfl),
        Option.bind_some, if_neg (by simp), mCons, emod (x := cellV ns (4 + 4 * a)) (y := b) (by (first | lia | omega)) (ecell (k := 4 + 4 * a) (by (first | lia | omega)) (by kernel_rfl) (by kernel_rfl) (by kernel_rfl) (by kernel_rfl) (by rcases ha7 with rfl | rfl | rfl | rfl | rfl | rfl | rfl <;> kernel_rfl)) (by kernel_rfl)]
      kernel_rfl
    have o1 := fmod_b (x := cellV ns (3 + 4 * a)) hb
    have o2 := fmod_b (x := cellV ns (4 + 4 * a)) hb
    have k0 := fmod_b (x := cellV ns (1 + 4 * a)) (b := 12) (by decide)
    generalize (cellV ns (3 + 4 * a)).fmod b = O1 at o1
    generalize (cellV ns (4 + 4 * a)).fmod b = O2 at o2
    generalize (cellV ns (1 + 4 * a)).fmod 12 = K at k0
    generalize cellV ns (2 + 4 * a) = PK
    obtain ⟨FV, hFV, eFV⟩ := nth_menu (l := far) (i := (PK.fdiv 8).fmod 8) (fmod_b (by decide)).1 (fmod_b (by decide)).2 (by decide)
    refine wSeq (ρ' := rho_row ns a b K PK O1 O2 FV) ?_ ?_
    · exact (asgI (d := .int FV) (m := .fro) (by kernel_rfl) (subI (by kernel_rfl) (x := (.list (iD far), .fre)) (y := (.int ((PK.fdiv 8).fmod 8), .fro)) (by kernel_rfl) (by kernel_rfl) eFV) (by simp)).trans (by kernel_rfl)
    refine wIf (c := decide (K < 2)) (cmpI (x := (.int K, .fro)) (y := (.int 2, .fro)) (by kernel_rfl) (by kernel_rfl) (by kernel_rfl) rfl) (fun h => ?_) fun h => ?_
    · obtain ⟨c, hc, ec⟩ := nth_menu (l := [32, 40, 48]) (i := PK.fmod 3) (fmod_b (by decide)).1 (fmod_b (by decide)).2 (by decide)
      exact wRet (d := tD ⟨c, 0, 0, FV⟩) (fr := false) (by
        rw [xRetT, eTup, if_pos (by kernel_rfl), evsI (d := .int c) (m := .fro) (ds := [.int 0, .int 0, .int (FV)]) (subI (by kernel_rfl) (x := (.list (iD [32, 40, 48]), .fre)) (y := (.int (PK.fmod 3), .fro)) (by kernel_rfl) (by kernel_rfl) ec) (by simp) (by kernel_rfl)]
        rfl) ⟨⟨c, 0, 0, FV⟩, .ld ((show ∀ c ∈ ([32, 40, 48] : List Int), c ∈ cLd by decide) c hc) hFV, rfl⟩
    refine wIf (c := K == 2) (cmpI (x := (.int K, .fro)) (y := (.int 2, .fro)) (by kernel_rfl) (by kernel_rfl) (by kernel_rfl) rfl) (fun h => ?_) fun h => ?_
    · obtain ⟨c, hc, ec⟩ := nth_menu (l := [64, 72, 80]) (i := PK.fmod 3) (fmod_b (by decide)).1 (fmod_b (by decide)).2 (by decide)
      exact wRet (d := tD ⟨c, 0, 0, FV⟩) (fr := false) (by
        rw [xRetT, eTup, if_pos (by kernel_rfl), evsI (d := .int c) (m := .fro) (ds := [.int 0, .int 0, .int (FV)]) (subI (by kernel_rfl) (x := (.list (iD [64, 72, 80]), .fre)) (y := (.int (PK.fmod 3), .fro)) (by kernel_rfl) (by kernel_rfl) ec) (by simp) (by kernel_rfl)]
        rfl) ⟨⟨c, 0, 0, FV⟩, .ld ((show ∀ c ∈ ([64, 72, 80] : List Int), c ∈ cLd by decide) c hc) hFV, rfl⟩
    refine wIf (c := K == 3) (cmpI (x := (.int K, .fro)) (y := (.int 3, .fro)) (by kernel_rfl) (by kernel_rfl) (by kernel_rfl) rfl) (fun h => ?_) fun h => ?_
    · exact wRet (d := tD ⟨177, 0, 0, FV⟩) (fr := false) (by kernel_rfl) ⟨⟨177, 0, 0, FV⟩, .ld (by decide) hFV, rfl⟩
    refine wIf (c := K == 4) (cmpI (x := (.int K, .fro)) (y := (.int 4, .fro)) (by kernel_rfl) (by kernel_rfl) (by kernel_rfl) rfl) (fun h => ?_) fun h => ?_
    · obtain ⟨c, hc, ec⟩ := nth_menu (l := cL0) (i := PK.fmod 6) (fmod_b (by decide)).1 (fmod_b (by decide)).2 (by decide)
      exact wRet (d := tD ⟨c, 0, 0, (PK.fdiv 8).fmod 2⟩) (fr := false) (by
        rw [xRetT, eTup, if_pos (by kernel_rfl), evsI (d := .int c) (m := .fro) (ds := [.int 0, .int 0, .int ((PK.fdiv 8).fmod 2)]) (subI (by kernel_rfl) (x := (.list (iD cL0), .fre)) (y := (.int (PK.fmod 6), .fro)) (by kernel_rfl) (by kernel_rfl) ec) (by simp) (by kernel_rfl)]
        rfl) ⟨⟨c, 0, 0, (PK.fdiv 8).fmod 2⟩, .l0 hc (by have := fmod_b (x := PK.fdiv 8) (b := 2) (by decide); simp only [List.mem_cons, List.not_mem_nil, or_false]; (first | lia | omega)), rfl⟩
    refine wIf (c := K == 5) (cmpI (x := (.int K, .fro)) (y := (.int 5, .fro)) (by kernel_rfl) (by kernel_rfl) (by kernel_rfl) rfl) (fun h => ?_) fun h => ?_
    · have h31 := fmod_b (x := PK.fdiv 16) (b := 31) (by decide)
      obtain ⟨c, hc, ec⟩ := nth_menu (l := cDk) (i := PK.fmod 11) (fmod_b (by decide)).1 (fmod_b (by decide)).2 (by decide)
      exact wRet (d := tD ⟨c, 0, 0, 1 + (PK.fdiv 16).fmod 31⟩) (fr := false) (by
        rw [xRetT, eTup, if_pos (by kernel_rfl), evsI (d := .int c) (m := .fro) (ds := [.int 0, .int 0, .int (1 + (PK.fdiv 16).fmod 31)]) (subI (by kernel_rfl) (x := (.list (iD cDk), .fre)) (y := (.int (PK.fmod 11), .fro)) (by kernel_rfl) (by kernel_rfl) ec) (by simp) (by kernel_rfl)]
        rfl) ⟨⟨c, 0, 0, 1 + (PK.fdiv 16).fmod 31⟩, .dk hc (by (first | lia | omega)) (by (first | lia | omega)), rfl⟩
    refine wIf (c := K == 6) (cmpI (x := (.int K, .fro)) (y := (.int 6, .fro)) (by kernel_rfl) (by kernel_rfl) (by kernel_rfl) rfl) (fun h => ?_) fun h => ?_
    · obtain ⟨c, hc, ec⟩ := nth_menu (l := [12, 28, 44, 60, 76, 92, 108, 124, 156, 172, 60, 156]) (i := PK.fmod 12) (fmod_b (by decide)).1 (fmod_b (by decide)).2 (by decide)
      exact wRet (d := tD ⟨c, 0, 0, 0⟩) (fr := false) (by
        rw [xRetT, eTup, if_pos (by kernel_rfl), evsI (d := .int c) (m := .fro) (ds := [.int 0, .int 0, .int (0)]) (subI (by kernel_rfl) (x := (.list (iD [12, 28, 44, 60, 76, 92, 108, 124, 156, 172, 60, 156]), .fre)) (y := (.int (PK.fmod 12), .fro)) (by kernel_rfl) (by kernel_rfl) ec) (by simp) (by kernel_rfl)]
        rfl) ⟨⟨c, 0, 0, 0⟩, .dx ((show ∀ c ∈ ([12, 28, 44, 60, 76, 92, 108, 124, 156, 172, 60, 156] : List Int), c ∈ cDx by decide) c hc), rfl⟩
    refine wIf (c := K == 7) (cmpI (x := (.int K, .fro)) (y := (.int 7, .fro)) (by kernel_rfl) (by kernel_rfl) (by kernel_rfl) rfl) (fun h => ?_) fun h => ?_
    · exact wRet (d := tD ⟨5, 0, 0, O1⟩) (fr := false) (by kernel_rfl) ⟨⟨5, 0, 0, O1⟩, .ja o1.1 o1.2, rfl⟩
    refine wIf (c := decide (K < 10)) (cmpI (x := (.int K, .fro)) (y := (.int 10, .fro)) (by kernel_rfl) (by kernel_rfl) (by kernel_rfl) rfl) (fun h => ?_) fun h => ?_
    · obtain ⟨c, hc, ec⟩ := nth_menu (l := cCj) (i := PK.fmod 8) (fmod_b (by decide)).1 (fmod_b (by decide)).2 (by decide)
      have h5 := fmod_b (x := PK.fdiv 32) (b := 5) (by decide)
      have h3 : ∀ {t b' o : Expr} {q : Pos}, tr ⟨con0, T, fld0⟩ t fLawRow.1.scope (rho_row ns a b K PK O1 O2 FV).frz (ev ⟨con0, T, fld0⟩ t fLawRow.1.scope (rho_row ns a b K PK O1 O2 FV).frz) = some (decide (0 < (PK.fdiv 8).fmod 3)) → ev ⟨con0, T, fld0⟩ b' fLawRow.1.scope (rho_row ns a b K PK O1 O2 FV).frz = some (.int O2, .fro) → ev ⟨con0, T, fld0⟩ o fLawRow.1.scope (rho_row ns a b K PK O1 O2 FV).frz = some (.int O1, .fro) → ev ⟨con0, T, fld0⟩ (.IfExp t b' o q) fLawRow.1.scope (rho_row ns a b K PK O1 O2 FV).frz = some (.int (if 0 < (PK.fdiv 8).fmod 3 then O2 else O1), .fro) := by
        intro t b' o q h1 h2 h3
        by_cases q : 0 < (PK.fdiv 8).fmod 3
        · rw [if_pos q]; rw [decide_eq_true q] at h1; exact ifT h1 h2
        · rw [if_neg q]; rw [decide_eq_false q] at h1; exact ifF h1 h3
      have hO : 0 ≤ (if 0 < (PK.fdiv 8).fmod 3 then O2 else O1) ∧ (if 0 < (PK.fdiv 8).fmod 3 then O2 else O1) < b := by
        split
        · exact o2
        · exact o1
      exact wRet (d := tD ⟨c, O1, if 0 < (PK.fdiv 8).fmod 3 then O2 else O1, (PK.fdiv 32).fmod 5⟩) (fr := false) (by
        rw [xRetT, eTup, if_pos (by kernel_rfl), evsI (d := .int c) (m := .fro) (ds := [.int O1, .int (if 0 < (PK.fdiv 8).fmod 3 then O2 else O1), .int ((PK.fdiv 32).fmod 5)]) (subI (by kernel_rfl) (x := (.list (iD cCj), .fre)) (y := (.int (PK.fmod 8), .fro)) (by kernel_rfl) (by kernel_rfl) ec) (by simp)
          (evsI (m := .fro) (by kernel_rfl) (by simp) (evsI (m := .fro) (h3 (cmpI (x := (.int ((PK.fdiv 8).fmod 3), .fro)) (y := (.int 0, .fro)) (by kernel_rfl) (by kernel_rfl) (by kernel_rfl) rfl) (by kernel_rfl) (by kernel_rfl)) (by simp) (by kernel_rfl)))]
        rfl) ⟨⟨c, O1, if 0 < (PK.fdiv 8).fmod 3 then O2 else O1, (PK.fdiv 32).fmod 5⟩, .cj hc o1.1 o1.2 hO.1 hO.2 h5.1 (by have := h5.2; (first | lia | omega)), rfl⟩
    obtain ⟨c, hc, ec⟩ := nth_menu (l := cOt) (i := PK.fmod 6) (fmod_b (by decide)).1 (fmod_b (by decide)).2 (by decide)
    exact wRet (d := tD ⟨c, 0, 0, (PK.fdiv 8).fmod 2⟩) (fr := false) (by
      rw [xRetT, eTup, if_pos (by kernel_rfl), evsI (d := .int c) (m := .fro) (ds := [.int 0, .int 0, .int ((PK.fdiv 8).fmod 2)]) (subI (by kernel_rfl) (x := (.list (iD cOt), .fre)) (y := (.int (PK.fmod 6), .fro)) (by kernel_rfl) (by kernel_rfl) ec) (by simp) (by kernel_rfl)]
      rfl) ⟨⟨c, 0, 0, (PK.fdiv 8).fmod 2⟩, .ot hc (by have := fmod_b (x := PK.fdiv 8) (b := 2) (by decide); simp only [List.mem_cons, List.not_mem_nil, or_false]; (first | lia | omega)), rfl⟩
  obtain ⟨fl, e, r, hm, q⟩ := main
  exact ⟨r, hm, enter C (by decide +kernel) fLawRowL jT (by kernel_rfl) ⟨fl, e, q⟩⟩
end
end Mine

set_option maxHeartbeats 2000000
namespace Mine
theorem menu_cells {b : Int} {r : Row} (h : Menu b r) : (rcOf r.c r.k = -1 ∨ rcOf r.c r.k = 0 ∨ rcOf r.c r.k = 1) ∧ (wcOf r.c r.k = -1 ∨ wcOf r.c r.k = 0 ∨ wcOf r.c r.k = 1) := by
  have none : ∀ {c k : Int}, ¬ (c = 96 ∨ c = 97) → ¬ (c = 2 ∨ c = 3) → (rcOf c k = -1 ∨ rcOf c k = 0 ∨ rcOf c k = 1) ∧ (wcOf c k = -1 ∨ wcOf c k = 0 ∨ wcOf c k = 1) := by
    intro c k h1 h2
    unfold rcOf wcOf
    rw [if_neg h1, if_neg h2]; exact ⟨.inl rfl, .inl rfl⟩
  have two : ∀ {c k : Int}, k ∈ ([0, 1] : List Int) → (rcOf c k = -1 ∨ rcOf c k = 0 ∨ rcOf c k = 1) ∧ (wcOf c k = -1 ∨ wcOf c k = 0 ∨ wcOf c k = 1) := by
    intro c k hk
    simp only [List.mem_cons, List.not_mem_nil, or_false] at hk
    unfold rcOf wcOf
    constructor
    · split
      · exact .inr hk
      · exact .inl rfl
    · split
      · exact .inr hk
      · exact .inl rfl
  have lists : ∀ c, c ∈ cLd ∨ c ∈ cDk ∨ c ∈ cDx ∨ c ∈ cCj → ¬ (c = 96 ∨ c = 97) ∧ ¬ (c = 2 ∨ c = 3) := by
    intro c hc
    constructor
    · rintro (rfl | rfl) <;> exact absurd hc (by decide)
    · rintro (rfl | rfl) <;> exact absurd hc (by decide)
  cases h with
  | ld hc hf => exact none (lists _ (.inl hc)).1 (lists _ (.inl hc)).2
  | l0 hc hk => exact two hk
  | dk hc => exact none (lists _ (.inr (.inl hc))).1 (lists _ (.inr (.inl hc))).2
  | dx hc => exact none (lists _ (.inr (.inr (.inl hc)))).1 (lists _ (.inr (.inr (.inl hc)))).2
  | ja => exact none (show ¬ ((5 : Int) = 96 ∨ (5 : Int) = 97) by decide) (show ¬ ((5 : Int) = 2 ∨ (5 : Int) = 3) by decide)
  | cj hc => exact none (lists _ (.inr (.inr (.inr hc)))).1 (lists _ (.inr (.inr (.inr hc)))).2
  | ot hc hk => exact two hk
  | rt => exact none (by decide) (by decide)
noncomputable def preR (rf : Nat → Row) (i : Nat) : List Row := [⟨2, 0, 0, 0⟩, ⟨2, 0, 0, 1⟩] ++ (List.range i).map rf
noncomputable def theR (rf : Nat → Row) (m : Nat) : List Row := [⟨2, 0, 0, 0⟩, ⟨2, 0, 0, 1⟩] ++ (List.range m).map rf ++ [⟨6, 0, 0, 3⟩]
theorem theR_rows {rf : Nat → Row} {m : Nat} (h1 : 1 ≤ m) (h7 : m ≤ 7) (hr : ∀ i, i < m → Menu ((m : Int) - i) (rf i)) : Rows (theR rf m) := by
  have hl : (theR rf m).length = m + 3 := by simp [theR]
  have hmenu : ∀ (a : Nat) (r : Row), (theR rf m)[a]? = some r → Menu (((theR rf m).length : Int) - 1 - a) r := by
    intro a r h
    rw [hl]
    have ha := (List.getElem?_eq_some_iff.mp h).1
    rw [hl] at ha
    unfold theR at h
    rcases Nat.lt_or_ge a (m + 2) with q | q
    · rw [List.getElem?_append_left (by simp; (first | lia | omega))] at h
      rcases Nat.lt_or_ge a 2 with q2 | q2
      · rw [List.getElem?_append_left (by simp; (first | lia | omega))] at h
        rcases (show a = 0 ∨ a = 1 by (first | lia | omega)) with rfl | rfl
        · cases h; exact .ot (by decide) (by decide)
        · cases h; exact .ot (by decide) (by decide)
      · rw [List.getElem?_append_right (by simp; (first | lia | omega))] at h
        rw [List.getElem?_map] at h
        obtain ⟨j, hj, rfl⟩ := Option.map_eq_some_iff.mp h
        obtain ⟨hi, rfl⟩ := List.getElem?_eq_some_iff.mp hj
        rw [List.length_range] at hi
        rw [List.getElem_range]
        have := hr _ hi
        simp only [List.length_cons, List.length_nil] at this ⊢
        have e : ((m + 3 : Nat) : Int) - 1 - a = (m : Int) - ((a - (0 + 1 + 1) : Nat) : Int) := by (first | lia | omega)
        rw [e]; exact this
    · rw [List.getElem?_append_right (by simp; (first | lia | omega))] at h
      have : r = ⟨6, 0, 0, 3⟩ := by
        have := List.mem_of_getElem? h
        simpa using this
      subst this; exact .rt
  refine ⟨by (first | lia | omega), by (first | lia | omega), fun a r h => menu_kind (hmenu a r h), fun a r h => menu_all (hmenu a r h), rfl, rfl, ?_, fun a r h => menu_cells (hmenu a r h)⟩
  rw [hl]
  unfold theR
  rw [List.getElem?_append_right (by simp)]
  have : m + 3 - 1 - ([({ c := 2, jt := 0, jf := 0, k := 0 } : Row), { c := 2, jt := 0, jf := 0, k := 1 }] ++ (List.range m).map rf).length = 0 := by simp
  rw [this]; rfl
section
variable {F : Fct} (C : Closed F)
include C
theorem lrows_ok {ns : List Int} (hn : ns.length ≤ 63) : ∃ R, Rows R ∧ F 3 "_law_rows" [.list (iD ns)] (.list (R.map tD), true) := by
  have hm := fmod_b (x := cellV ns 0) (b := 7) (by decide)
  obtain ⟨m, hm1, h1, h7⟩ : ∃ m : Nat, 1 + (cellV ns 0).fmod 7 = (m : Int) ∧ 1 ≤ m ∧ m ≤ 7 := ⟨(1 + (cellV ns 0).fmod 7).toNat, by (first | lia | omega), by (first | lia | omega), by (first | lia | omega)⟩
  have ex1 : ∀ i : Nat, ∃ r, i < m → Menu ((m : Int) - i) r ∧ F 2 "_law_row" [.list (iD ns), .int i, .int ((m : Int) - i)] (tD r, false) := by
    intro i
    by_cases hi : i < m
    · obtain ⟨r, h, q⟩ := row_ok C hn (a := i) (by (first | lia | omega)) (b := (m : Int) - i) (by (first | lia | omega))
      exact ⟨r, fun _ => ⟨h, q⟩⟩
    · exact ⟨⟨0, 0, 0, 0⟩, fun q => absurd q hi⟩
  obtain ⟨rf, hrf⟩ := Classical.axiomOfChoice ex1
  refine ⟨theR rf m, theR_rows h1 h7 fun i hi => (hrf i hi).1, ?_⟩
  let S1 : List D → D × Bool → Prop := fun es q => es = [.list (iD ns), .int 0] ∧ q = (.int (cellV ns 0), false)
  let S2 : List D → D × Bool → Prop := fun es q => ∃ i : Nat, i < m ∧ es = [.list (iD ns), .int i, .int ((m : Int) - i)] ∧ q = (tD (rf i), false)
  have p1 : pick S1 [.list (iD ns), .int 0] = some (.int (cellV ns 0), false) := pick_uniq ⟨rfl, rfl⟩ fun q h => h.2
  have p2 : ∀ {i : Nat}, i < m → pick S2 [.list (iD ns), .int i, .int ((m : Int) - i)] = some (tD (rf i), false) := fun {i} hi => pick_uniq ⟨i, hi, rfl, rfl⟩ fun q ⟨i', _, e, eq⟩ => by
    simp only [List.cons.injEq, D.int.injEq, Int.natCast_inj, true_and] at e
    rw [e.1]; exact eq
  generalize hT : withS S1 "_law_cell" (withS S2 "_law_row" (runT [] 2)) = T
  have jT : Just F 2 T := by
    rw [← hT]
    refine withS_just ?_ (withS_just ?_ (just C 2))
    · rintro es q ⟨rfl, rfl⟩; exact C.up (cell_ok C hn (a := 0) (by (first | lia | omega)))
    · rintro es q ⟨i, hi, rfl, rfl⟩; exact (hrf i hi).2
  have hce : T "_law_cell" [.list (iD ns), .int 0] = some (.int (cellV ns 0), false) := by rw [← hT]; exact withS_same.trans p1
  have hro : ∀ {i : Nat}, i < m → T "_law_row" [.list (iD ns), .int i, .int ((m : Int) - i)] = some (tD (rf i), false) := fun {i} hi => by rw [← hT]; exact Eq.trans (b := pick S2 [.list (iD ns), .int i, .int ((m : Int) - i)]) (by kernel_rfl) (p2 hi)
  have hrange : ∀ n, T "range" [.int n] = some (.rng 0 n, false) := fun n => by rw [← hT]; kernel_rfl
  clear hT p1 p2
  refine enter C (by decide +kernel) fLawRowsL jT (by kernel_rfl) ?_
  let ρf (fs : List D) (τ : Rho) : Rho := ("script", .list (iD ns), .fro) :: ("many", .int m, .fro) :: ("found", .list fs, .bor) :: τ
  refine wSeq (ρ' := ρf ((preR rf 0).map tD) []) ?_ ?_
  · rw [xAsgT, if_pos (by kernel_rfl), if_pos ⟨by kernel_rfl, by kernel_rfl⟩, mCons, binI (x := (.int 1, .fro)) (y := (.int ((cellV ns 0).fmod 7), .fro)) (z := (.int (1 + (cellV ns 0).fmod 7), .fro)) (by kernel_rfl) (binI (x := (.int (cellV ns 0), .fro)) (y := (.int 7, .fro)) (callI (ds := [.list (iD ns), .int 0]) (d := .int (cellV ns 0)) (fr := false) (by kernel_rfl) (by kernel_rfl) (by kernel_rfl) (by kernel_rfl) (by decide +kernel) (by kernel_rfl) hce) (by kernel_rfl) (by kernel_rfl)) rfl, hm1]
    kernel_rfl
  refine wFor (forRange (n := m) (by kernel_rfl) (by kernel_rfl) (by kernel_rfl) (by kernel_rfl) (by kernel_rfl) (hrange _) (by (first | lia | omega)))
    (fun i ρ => ∃ τ : Rho, Tl1 "at" τ ∧ ρ = ρf ((preR rf i).map tD) τ) ⟨[], .inl rfl, rfl⟩ ?_ ?_
  · rintro i d ρ hd ⟨τ, hτ, rfl⟩
    rw [List.getElem?_map] at hd
    obtain ⟨j, hj', rfl⟩ := Option.map_eq_some_iff.mp hd
    obtain ⟨hi, rfl⟩ := List.getElem?_eq_some_iff.mp hj'
    rw [List.length_range] at hi
    rw [List.getElem_range]
    generalize hfs : (preR rf i).map tD = fs
    have hfl : fs.length ≤ 10 := by rw [← hfs]; simp [preR]; (first | lia | omega)
    show Wx _ _ _ _ (Rho.set "at" (.int i, .fro) (ρf fs τ)) _
    rw [show Rho.set "at" (.int i, .fro) (ρf fs τ) = ρf fs (at1 (.int i, .fro)) by rcases hτ with rfl | ⟨v, rfl⟩ <;> kernel_rfl]
    refine wSeq (ρ' := ρf (fs ++ [tD (rf i)]) (at1 (.int i, .fro))) ?_ (wNil ⟨_, rfl, at1 (.int i, .fro), .inr ⟨_, rfl⟩, ?_⟩)
    · exact (appI (ds := fs) (vd := tD (rf i)) (m := .fro) (by kernel_rfl) (by kernel_rfl) (by decide +kernel) (by kernel_rfl) (callI (ds := [.list (iD ns), .int i, .int ((m : Int) - i)]) (d := tD (rf i)) (fr := false) (by kernel_rfl) (by kernel_rfl) (by kernel_rfl) (by kernel_rfl) (by decide +kernel) (by kernel_rfl) (hro hi)) (by simp) (by (first | lia | omega))).trans (by kernel_rfl)
    · rw [← hfs]; unfold preR; rw [List.range_succ]; simp
  · rintro ρ ⟨τ, hτ, rfl⟩
    rw [List.length_map, List.length_range]
    refine wRet (d := .list ((theR rf m).map tD)) (fr := true) ?_ rfl
    rw [xRetB, binI (x := (.list ((preR rf m).map tD), .fro)) (y := (.list [tD ⟨6, 0, 0, 3⟩], .fre)) (z := (.list ((theR rf m).map tD), .fre)) (by kernel_rfl) (by kernel_rfl) (by
      show (if _ then _ else _) = _
      rw [if_pos (by simp [preR]; (first | lia | omega))]
      unfold theR preR; simp)]
    rfl
end
end Mine

set_option maxHeartbeats 2000000
namespace Mine
noncomputable def fLaw : {fd : FD // theDefs[76]? = some (("law" : Str), fd)} := ⟨_, rfl⟩
theorem fLawL : lkS "law" theDefs = some fLaw.1 := by kernel_rfl
section
variable {cx : Cx} {mu : List Str} {sc : Scope} {ρ ρ' : Rho} {P : Fl → Prop}
theorem evAnd2 {e1 e2 : Expr} {p : Pos} {b1 b2 : Bool} {m1 m2 : Mode} (h1 : ev cx e1 sc ρ = some (.bool b1, m1)) (h2 : ev cx e2 sc ρ = some (.bool b2, m2)) : ev cx (.BoolOp .And [e1, e2] p) sc ρ = some (.bool (b1 && b2), .fro) := by
  rw [eBo, bCons, h1]
  cases b1 with
  | false => rfl
  | true =>
    show ((evB cx .And [e2] sc ρ).map _) = _
    rw [bCons, h2]; rfl
end
noncomputable def mkO : D → Option D
  | .tup [a, b, c, d] => some (.obj 105 [("code", a), ("jt", b), ("jf", c), ("k", d)])
  | _ => none
theorem mkO_map : ∀ R : List Row, (R.map tD).filterMap mkO = R.map oD
  | [] => rfl
  | r :: R => by rw [List.map_cons, List.filterMap_cons_some (show mkO (tD r) = some (oD r) from rfl), mkO_map R]; rfl
theorem tgL_isIn {R : List Row} {p : Nat} {b : Bool} (h : ((tgL R).any fun e => decide (e.1 = (p : Int))) = b) : isIn (.int p) (.dict (pD (tgL R))) = some b := by
  rw [← h]
  show some ((pD (tgL R)).any _) = _
  unfold pD; rw [List.any_map]; rfl
noncomputable def rho_law (R : List Row) (ns : List Int) (told : List D) (τ : Rho) : Rho := ("script", .list (iD ns), .fro) :: ("rows", .list (R.map tD), .fro) :: ("orders", .list (R.map oD), .fro) :: ("due", .list (iD (duF R)), .fro) :: ("aims", .dict (pD (tgL R)), .fro) :: ("told", .list told, .fro) :: τ
noncomputable def TlL (x y z : Str) (τ : Rho) : Prop := τ = [] ∨ ∃ u v w, τ = [(x, u), (y, v), (z, w)]
section
variable {F : Fct} (C : Closed F)
include C
theorem law_run {ns : List Int} (hn : ns.length ≤ 63) : ∃ T, Just F 12 T ∧ Wx ⟨con0, T, fld0⟩ fLaw.1.mu fLaw.1.scope fLaw.1.body [("script", .list (iD ns), .fro)] fun fl => flVal fl = (.bool true, false) := by
  obtain ⟨R, H, hrows⟩ := lrows_ok C hn
  have h10 := H.l10
  obtain ⟨ls, W, told, hW, hgs, hF, hconv, htl, htold⟩ := conv_ok C H
  have hlsl : ls.length = (gsF R).length := by rw [← hgs, List.length_map]
  have horig := origins_ok C H (W := W) (by rw [hW, List.length_map]; exact hlsl) hF
  have hdue := due_ok C H
  have hg10 := gsF_len h10
  let S1 : List D → D × Bool → Prop := fun es q => es = [.list (iD ns)] ∧ q = (.list (R.map tD), true)
  let S2 : List D → D × Bool → Prop := fun es q => es = [.list (R.map tD)] ∧ q = (.tup [.list (iD (duF R)), .dict (pD (tgL R))], false)
  let S3 : List D → D × Bool → Prop := fun es q => es = [.list (R.map oD)] ∧ q = (.list told, true)
  let S4 : List D → D × Bool → Prop := fun es q => es = [.list (R.map oD)] ∧ q = (.list (iD (duF R)), true)
  have p1 : pick S1 [.list (iD ns)] = some (.list (R.map tD), true) := pick_uniq ⟨rfl, rfl⟩ fun q h => h.2
  have p2 : pick S2 [.list (R.map tD)] = some (.tup [.list (iD (duF R)), .dict (pD (tgL R))], false) := pick_uniq ⟨rfl, rfl⟩ fun q h => h.2
  have p3 : pick S3 [.list (R.map oD)] = some (.list told, true) := pick_uniq ⟨rfl, rfl⟩ fun q h => h.2
  have p4 : pick S4 [.list (R.map oD)] = some (.list (iD (duF R)), true) := pick_uniq ⟨rfl, rfl⟩ fun q h => h.2
  generalize hT : withS S1 "_law_rows" (withS S2 "_law_due" (withS S3 "converted" (withS S4 "origins" (runT [] 12)))) = T
  have jT : Just F 12 T := by
    rw [← hT]
    refine withS_just ?_ (withS_just ?_ (withS_just ?_ (withS_just ?_ (just C 12))))
    · rintro es q ⟨rfl, rfl⟩; exact C.le hrows (by (first | lia | omega))
    · rintro es q ⟨rfl, rfl⟩; exact C.le hdue (by (first | lia | omega))
    · rintro es q ⟨rfl, rfl⟩; exact hconv
    · rintro es q ⟨rfl, rfl⟩; exact horig
  have c1 : T "_law_rows" [.list (iD ns)] = some (.list (R.map tD), true) := by rw [← hT]; exact withS_same.trans p1
  have c2 : T "_law_due" [.list (R.map tD)] = some (.tup [.list (iD (duF R)), .dict (pD (tgL R))], false) := by rw [← hT]; exact Eq.trans (b := pick S2 [.list (R.map tD)]) (by kernel_rfl) p2
  have c3 : T "converted" [.list (R.map oD)] = some (.list told, true) := by rw [← hT]; exact Eq.trans (b := pick S3 [.list (R.map oD)]) (by kernel_rfl) p3
  have c4 : T "origins" [.list (R.map oD)] = some (.list (iD (duF R)), true) := by rw [← hT]; exact Eq.trans (b := pick S4 [.list (R.map oD)]) (by kernel_rfl) p4
  have c5 : ∀ r : Row, T "ClassicOrder" [.int r.c, .int r.jt, .int r.jf, .int r.k] = some (oD r, false) := fun r => by rw [← hT]; kernel_rfl
  have hlen : ∀ l : List D, l.length ≤ 1000000 → T "len" [.list l] = some (.int l.length, false) := by
    intro l hl
    have : T "len" [.list l] = if l.length ≤ 1000000 then some (.int l.length, false) else none := by rw [← hT]; kernel_rfl
    rw [this, if_pos hl]
  clear hT p1 p2 p3 p4
  refine ⟨T, jT, ?_⟩
  refine wSeq (ρ' := [("script", .list (iD ns), .fro), ("rows", .list (R.map tD), .fro)]) ?_ ?_
  · exact (asgI (m := .fre) (by kernel_rfl) (callI (ds := [.list (iD ns)]) (d := .list (R.map tD)) (fr := true) (by kernel_rfl) (by kernel_rfl) (by kernel_rfl) (by kernel_rfl) (by decide +kernel) (by kernel_rfl) c1) (by simp)).trans (by kernel_rfl)
  refine wSeq (ρ' := [("script", .list (iD ns), .fro), ("rows", .list (R.map tD), .fro), ("orders", .list (R.map oD), .fro)]) ?_ ?_
  · rw [asgI (d := .list (R.map oD)) (m := .fre) (by kernel_rfl) (mkO_map R ▸ compI (ds := R.map tD) (f := mkO) (m := .fro) (by kernel_rfl) (by kernel_rfl) (by simp) (by rw [List.length_map]; (first | lia | omega)) (fun d hd => by
      obtain ⟨r, _, rfl⟩ := List.mem_map.mp hd
      refine (compBody (b := [("code", .int r.c), ("jt", .int r.jt), ("jf", .int r.jf), ("k", .int r.k)]) (c := true) (y := oD r) (m := .fro) (by kernel_rfl) rfl ?_ (by simp)).trans rfl
      exact callI (ds := [.int r.c, .int r.jt, .int r.jf, .int r.k]) (d := oD r) (fr := false) (by kernel_rfl) (by kernel_rfl) (by kernel_rfl) (by kernel_rfl) (by decide +kernel) (by kernel_rfl) (c5 r))) (by simp)]
    kernel_rfl
  refine wSeq (ρ' := [("script", .list (iD ns), .fro), ("rows", .list (R.map tD), .fro), ("orders", .list (R.map oD), .fro), ("due", .list (iD (duF R)), .fro), ("aims", .dict (pD (tgL R)), .fro)]) ?_ ?_
  · rw [xAsgTF, if_pos (by kernel_rfl), callI (ds := [.list (R.map tD)]) (d := .tup [.list (iD (duF R)), .dict (pD (tgL R))]) (fr := false) (by kernel_rfl) (by kernel_rfl) (by kernel_rfl) (by kernel_rfl) (by decide +kernel) (by kernel_rfl) c2]
    kernel_rfl
  refine wSeq (ρ' := rho_law R ns told []) ?_ ?_
  · exact (asgI (m := .fre) (by kernel_rfl) (callI (ds := [.list (R.map oD)]) (d := .list told) (fr := true) (by kernel_rfl) (by kernel_rfl) (by kernel_rfl) (by kernel_rfl) (by decide +kernel) (by kernel_rfl) c3) (by simp)).trans (by kernel_rfl)
  refine wIf (c := false) ?_ ff fun _ => ?_
  · rw [tBo]
    refine orF (cmpI (x := (.list (iD (duF R)), .fre)) (y := (.list (iD (duF R)), .fro)) (by kernel_rfl) (callI (ds := [.list (R.map oD)]) (d := .list (iD (duF R))) (fr := true) (by kernel_rfl) (by kernel_rfl) (by kernel_rfl) (by kernel_rfl) (by decide +kernel) (by kernel_rfl) c4) (by kernel_rfl) ?_) (orF (cmpI (x := (.int told.length, .fro)) (y := (.int (iD (duF R)).length, .fro)) (by kernel_rfl) (callI (ds := [.list told]) (d := .int told.length) (fr := false) (by kernel_rfl) (by kernel_rfl) (by kernel_rfl) (by kernel_rfl) (by decide +kernel) (by kernel_rfl) (hlen _ (by (first | lia | omega)))) (callI (ds := [.list (iD (duF R))]) (d := .int (iD (duF R)).length) (fr := false) (by kernel_rfl) (by kernel_rfl) (by kernel_rfl) (by kernel_rfl) (by decide +kernel) (by kernel_rfl) (hlen _ (by rw [iD_len, duF_len]; (first | lia | omega)))) ?_) rfl)
    · show (((intsOf (iD _)).bind fun a => (intsOf (iD _)).map fun b => decide (a = b)).map (!·)) = _
      unfold iD; rw [intsOf_map]; simp
    · show some (!(_ == _)) = _
      rw [iD_len, duF_len, htl, hlsl]; simp
  refine wFor (forEnum (ds := told) (by decide +kernel) (by kernel_rfl) (by kernel_rfl) (by kernel_rfl) (by kernel_rfl) (by (first | lia | omega)))
    (fun p ρ => ∃ τ : Rho, TlL "spot" "order" "is_leading" τ ∧ ρ = rho_law R ns told τ) ⟨[], .inl rfl, rfl⟩ ?_ ?_
  · rintro p d ρ hd ⟨τ, hτ, rfl⟩
    rw [enumP_get, Nat.zero_add] at hd
    obtain ⟨o, ho, rfl⟩ := Option.map_eq_some_iff.mp hd
    have hpl := (List.getElem?_eq_some_iff.mp ho).1
    obtain ⟨l, hl⟩ : ∃ l, ls[p]? = some l := ⟨_, List.getElem?_eq_getElem (by (first | lia | omega))⟩
    obtain ⟨o', ho', c, d', s, of, im, rfl, hT'⟩ := htold p l hl
    rw [ho] at ho'; cases ho'
    have hgp : (gsF R)[p]? = some l.g := by rw [← hgs, List.getElem?_map, hl]; rfl
    have hin := tgL_isIn (tgL_iff H hgp)
    have hlead : leadB c = !(l.g == -1) := by
      rcases hT' with ⟨h1, h2⟩ | ⟨h1, h2, _⟩
      · rw [h2, h1]; rfl
      · rw [h2]; symm; simpa using h1
    show Wx _ _ _ _ (Rho.set "order" (orD c d' s of im, .fro) (Rho.set "spot" (.int p, .fro) (rho_law R ns told τ))) _
    refine wSeq (ρ' := rho_law R ns told [("spot", .int p, .fro), ("order", orD c d' s of im, .fro), ("is_leading", .bool (leadB c), .fro)]) ?_ ?_
    · rw [asgI (d := .bool (leadB c)) (m := .fro) (by kernel_rfl) (evAnd2 (b1 := ([5, 6] : List Int).contains (c.fmod 8)) (b2 := !(c == 149)) (cmpE (x := (.int (c.fmod 8), .fro)) (y := (.tup [.int 5, .int 6], .fro)) (by kernel_rfl) (by rcases hτ with rfl | ⟨u, v, w, rfl⟩ <;> kernel_rfl) (by kernel_rfl) (by kernel_rfl)) (cmpE (x := (.int c, .fro)) (y := (.int 149, .fro)) (by kernel_rfl) (by rcases hτ with rfl | ⟨u, v, w, rfl⟩ <;> kernel_rfl) (by kernel_rfl) rfl)) (by simp)]
      rcases hτ with rfl | ⟨u, v, w, rfl⟩ <;> kernel_rfl
    refine wIf (c := false) (cmpI (x := (.bool (leadB c), .fro)) (y := (.bool (!(l.g == -1)), .fro)) (by kernel_rfl) (by kernel_rfl) (cmpE (x := (.int p, .fro)) (y := (.dict (pD (tgL R)), .fro)) (by kernel_rfl) (by kernel_rfl) (by kernel_rfl) hin) (by
      show some (!(_ == _)) = _
      rw [hlead]; simp)) ff fun _ => ?_
    refine wIf (c := false) ?_ ff fun _ => wNil ⟨_, rfl, [("spot", .int p, .fro), ("order", orD c d' s of im, .fro), ("is_leading", .bool (leadB c), .fro)], .inr ⟨_, _, _, rfl⟩, rfl⟩
    rw [tBo]
    rcases hT' with ⟨h1, h2⟩ | ⟨h1, h2, h6, v, hv, rfl⟩
    · rw [h2]; exact andF (by kernel_rfl)
    · rw [h2]
      refine andT (by kernel_rfl) (andF (cmpI (x := (.int ((p : Int) + 1 + (v - p - 1)), .fro)) (y := (.int v, .fro)) (by kernel_rfl) (binI (x := (.int ((p : Int) + 1), .fro)) (y := (.int (v - p - 1), .fro)) (by kernel_rfl) (ifF (cmpI (x := (.int c, .fro)) (y := (.int 6, .fro)) (by kernel_rfl) (by kernel_rfl) (by kernel_rfl) (by show some (_ == _) = _; rw [beq_eq_false_iff_ne.mpr h6])) (by kernel_rfl)) rfl) (subI (by kernel_rfl) (x := (.dict (pD (tgL R)), .fro)) (y := (.int p, .fro)) (by kernel_rfl) (by kernel_rfl) (dget_mem (tgL_nodup R) (tgL_get H hgp h1 hv))) (by
        show some (!(_ == _)) = _
        have : (p : Int) + 1 + (v - p - 1) = v := by (first | lia | omega)
        rw [this]; simp)))
  · rintro ρ ⟨τ, hτ, rfl⟩
    exact wRet (d := .bool true) (fr := false) (by kernel_rfl) rfl
end
end Mine

namespace Mine

structure Base (K : Frag) (mg mb : Str → Option Value) (hb : Heap) : Prop where
  X : K.In hb
  g : hb.Ns mainGlobals mg
  b : hb.Ns builtinsNs mb
  nl : hb.NoLimit
  bui : ∀ x : Str, x ≠ "__name__" → mb x = bootBuiltins x
theorem Base.big {K : Frag} {mg mb : Str → Option Value} {hb : Heap} (B : Base K mg mb hb) : Big hb := let ⟨o, _, _, e, _⟩ := B.g; ⟨mainGlobals, o, by decide, e⟩

noncomputable def FctOf (prog : Program) (w : World) (hb : Heap) : Fct := fun n f ds r => ∃ fv, LoadsAs prog w hb f fv ∧ CallsAs prog w hb fv ∧ Spec prog w hb n fv ds r.1 r.2

section
variable {prog : Program} {w : World} {K : Frag} {mg mb : Str → Option Value} {hb : Heap}
theorem loads_g (B : Base K mg mb hb) {x : Str} {v : Value} (e : nsIn K mainGlobals x = some (some v)) : LoadsAs prog w hb x v := fun A E s env pos Q hk hg _ ho kb hd h =>
  Name_function_global hk ho (loadGlobal_global (by rw [hg]; exact B.g.keeps kb) (mg_of B.X B.g e) h) (beq_eq_false_iff_ne.mpr hd)
theorem loads_b (B : Base K mg mb hb) {x : Str} {v : Value} (e : nsIn K mainGlobals x = some none) (hn : x ≠ "__name__") (hv : bootBuiltins x = some v) : LoadsAs prog w hb x v := fun A E s env pos Q hk hg hbn ho kb hd h =>
  Name_function_global hk ho (loadGlobal_builtin (by rw [hg]; exact B.g.keeps kb) (mg_none_of B.X B.g e) (by rw [hbn]; exact B.b.keeps kb) ((B.bui x hn).trans hv) h) (beq_eq_false_iff_ne.mpr hd)
theorem calls_ref (B : Base K mg mb hb) {a : Addr} (hk : keepIn K (.ref a) = true) : CallsAs prog w hb (.ref a) := fun A E s pos args Q hp h =>
  callWith_of (P := fun h => K.In h) (by rw [hp]; rfl) (keeps_K hk) (wpAny_mono h (fun a s₁ q => ⟨B.X.keeps q.1, q.2⟩) fun _ _ x => x)
theorem calls_type {T : String} : CallsAs prog w hb (.type T) := fun A E s pos args Q hp h => PyProof.Rows.callWith_type hp (wpAny_mono h (fun a s₁ q => q.2) fun _ _ x => x)
theorem calls_bui {T : String} : CallsAs prog w hb (.builtin T) := fun A E s pos args Q hp h => callWith_builtin hp (wpAny_mono h (fun a s₁ q => q.2) fun _ _ x => x)
theorem Spec.up {n : Nat} {fv : Value} {ds : List D} {d : D} {fr : Bool} (h : Spec prog w hb n fv ds d fr) : Spec prog w hb (n + 1) fv ds d fr := fun A E s P vs Q rm => h A E s P vs Q (rm.less (Nat.le_succ _))
end

noncomputable def fnAt (K : Frag) (a : Addr) : Option FuncData := match K.lookup a with
  | some ⟨_, _, .func F, _⟩ => some F
  | _ => none
theorem fnAt_ob {K : Frag} {a : Addr} {F : FuncData} (e : fnAt K a = some F) : ∃ oc od osl, K.lookup a = some ⟨oc, od, .func F, osl⟩ := by
  revert e
  unfold fnAt
  cases K.lookup a with
  | none => exact fun e => nno e
  | some o =>
    obtain ⟨c, d, x, sl⟩ := o
    cases x with
    | func G => intro e; cases e; exact ⟨_, _, _, rfl⟩
    | _ => exact fun e => nno e
theorem fnAt_keep {K : Frag} {a : Addr} {F : FuncData} (e : fnAt K a = some F) : keepIn K (.ref a) = true := by
  obtain ⟨oc, od, osl, h⟩ := fnAt_ob e
  unfold keepIn; dsimp only; rw [h]
noncomputable def fnFix (F : FuncData) (body : List Stmt) (scope : Scope) : FuncData := fnOf F.name F.qualname F.params body scope F.defaults F.kwdefaults F.doc F.pyModule F.annotations F.code F.closureTuple
noncomputable def fn0 (K : Frag) (a : Addr) : FuncData := (fnAt K a).getD default

noncomputable def dvOf (dt : List (Int × Tok)) : List Value := dt.map fun p => .int p.1 p.2
theorem dt_reps {prog : Program} {w : World} {P : Vis} {dt : List (Int × Tok)} {ds : List D} (h : intsOf ds = some (dt.map (·.1))) : Reps prog w P (dvOf dt) ds := by
  induction dt generalizing ds with
  | nil => cases ds with
    | nil => exact .nil
    | cons d ds => obtain ⟨i, l, _, _, h⟩ := intsOf_inv h; cases h
  | cons p dt ih => cases ds with
    | nil => cases h
    | cons d ds =>
      obtain ⟨i, l, rfl, h1, h⟩ := intsOf_inv h
      cases h
      exact .cons (.int _ _) (ih h1)
theorem dt_len {dt : List (Int × Tok)} {ds : List D} (h : intsOf ds = some (dt.map (·.1))) : (dvOf dt).length = ds.length := by
  induction dt generalizing ds with
  | nil => cases ds with
    | nil => rfl
    | cons d ds => obtain ⟨i, l, _, _, h⟩ := intsOf_inv h; cases h
  | cons p dt ih => cases ds with
    | nil => cases h
    | cons d ds =>
      obtain ⟨i, l, rfl, h1, h⟩ := intsOf_inv h
      cases h
      exact congrArg (· + 1) (ih h1)
theorem Reps.drop {prog : Program} {w : World} {P : Vis} (n : Nat) {vs : List Value} {ds : List D} (x : Reps prog w P vs ds) : Reps prog w P (vs.drop n) (ds.drop n) := by
  induction ds generalizing vs n with
  | nil => rw [x.nilI, List.drop_nil, List.drop_nil]; exact .nil
  | cons d ds ih =>
    obtain ⟨v, us, rfl, a, r⟩ := x.consI
    cases n with
    | zero => exact .cons a r
    | succ n => exact ih n r

noncomputable def AllV : Nat → (List Value → Prop) → Prop
  | 0, P => P []
  | n + 1, P => ∀ v, AllV n fun vs => P (v :: vs)
theorem allV_of {n : Nat} {P : List Value → Prop} (h : AllV n P) (vs : List Value) (e : vs.length = n) : P vs := by
  induction n generalizing P vs with
  | zero => cases vs with
    | nil => exact h
    | cons => cases e
  | succ n ih => cases vs with
    | nil => cases e
    | cons v vs => exact ih (P := fun vs => P (v :: vs)) (h v) vs (Nat.succ.inj e)

noncomputable def scOk (sc : Scope) (names : List Str) : Bool := (sc.kind == .function) && !sc.isCoroutine && !sc.isGenerator && decide names.Nodup && names.all fun y => sc.names.lookup y == some .local || sc.names.lookup y == some .cell
noncomputable def BindOk (K : Frag) (F : FuncData) (names : List Str) (dv : List Value) (n : Nat) : Prop := AllV n fun vs => ∀ S, peek K S (bindArgs F ⟨vs, []⟩) = some (names.zip (vs ++ dv.drop (dv.length - (names.length - n))))

structure DefIs (K : Frag) (f : Str) (fd : FD) (a : Addr) (dt : List (Int × Tok)) (n : Nat) : Prop where
  name : nsIn K mainGlobals f = some (some (.ref a))
  fn : fnAt K a = some (fnFix (fn0 K a) fd.body fd.scope)
  code : codeIn K (fn0 K a).code (fn0 K a).qualname = true
  ok : scOk fd.scope fd.params = true
  dfl : intsOf fd.dfl = some (dt.map (·.1))
  len : fd.params.length = n ∧ (dvOf dt).length ≤ 1
  all : BindOk K (fnFix (fn0 K a) fd.body fd.scope) fd.params (dvOf dt) n
  less : dvOf dt = [] ∨ ∃ m, n = m + 1 ∧ BindOk K (fnFix (fn0 K a) fd.body fd.scope) fd.params (dvOf dt) m
theorem len_m {a d p m : Nat} (h : a + (d - (d - (p - a))) = p) (hd : d ≤ 1) (hp : p = m + 1) (hne : a ≠ p) : a = m := by (first | lia | omega)
theorem DefIs.bind {K : Frag} {f : Str} {fd : FD} {a : Addr} {dt : List (Int × Tok)} {n : Nat} (x : DefIs K f fd a dt n) {ds : List D} (hl : (ds ++ fill fd.dfl fd.params.length ds).length = fd.params.length) (vs : List Value) (hv : vs.length = ds.length) (S : Setting) :
    peek K S (bindArgs (fnFix (fn0 K a) fd.body fd.scope) ⟨vs, []⟩) = some (fd.params.zip (vs ++ (dvOf dt).drop ((dvOf dt).length - (fd.params.length - ds.length)))) := by
  have hd := dt_len x.dfl
  have h1 := x.len.2
  have h2 := x.len.1
  rw [List.length_append, fill, List.length_drop, ← hd] at hl
  by_cases h : ds.length = n
  · have := allV_of x.all vs (hv.trans h) S
    rwa [← h] at this
  · rcases x.less with e | ⟨m, e, hm⟩
    · rw [e] at hl; simp at hl; (first | lia | omega)
    · have hdm : ds.length = m := len_m hl h1 (h2.trans e) (fun q => h (q.trans h2))
      have := allV_of hm vs (hv.trans hdm) S
      rwa [← hdm] at this

theorem Wld.of {prog : Program} {w : World} {K : Frag} {mg mb : Str → Option Value} {hb : Heap} {n : Nat} {T : Str → List D → Option (D × Bool)} (B : Base K mg mb hb) (hT : Just (FctOf prog w hb) n T)
    (hcon : ∀ x d, con0 x = some d → ∃ v, nsIn K mainGlobals x = some (some v) ∧ Rep prog w (fun _ _ => False) v d) (hl : nsIn K mainGlobals "list" = some none) (he : nsIn K mainGlobals "enumerate" = some none)
    (hbl : bootBuiltins "list" = some (.type "list")) (hbe : bootBuiltins "enumerate" = some (.type "enumerate"))
    (hf : ∀ C nm, fld0 C nm = true → plainGet K C nm = true ∧ hasDictIn K C = true ∧ ∃ attr, findIn K (.ref C) nm = some attr ∧ noGet K attr = true) : Wld prog w ⟨con0, T, fld0⟩ n hb where
  big := B.big
  con := fun x d e => let ⟨v, a, b⟩ := hcon x d e; ⟨v, loads_g B a, b⟩
  fn := fun f ds d fr e => hT f ds (d, fr) e
  lst := loads_b B hl (by decide) hbl
  enm := loads_b B he (by decide) hbe
  fld := fun C nm e A E s x dx es m v Q kb hx hdx hg hh h => by
    obtain ⟨a, b, attr, c, d⟩ := hf C nm e
    exact get_value (B.X.keeps kb) (od := some (dictOf es m)) ⟨hx, rfl, rfl, hdx⟩ (plainGet_of a).1 (findObj_own b c d (by rw [lookIn_dict]; exact hg)) hh h

theorem fn_closed {prog : Program} {w : World} {K : Frag} {mg mb : Str → Option Value} {hb : Heap} {n : Nat} {T : Str → List D → Option (D × Bool)} (B : Base K mg mb hb) (Wl : Wld prog w ⟨con0, T, fld0⟩ n hb)
    {f : Str} {fd : FD} {a : Addr} {dt : List (Int × Tok)} {m : Nat} (x : DefIs K f fd a dt m) {ds : List D} {fl : Fl} (hl : (ds ++ fill fd.dfl fd.params.length ds).length = fd.params.length)
    (e : exs ⟨con0, T, fld0⟩ fd.mu fd.scope fd.body (rho0 fd.params (ds ++ fill fd.dfl fd.params.length ds)) = some fl) : FctOf prog w hb (n + 1) f ds (flVal fl) := by
  obtain ⟨oc, od, osl, ho⟩ := fnAt_ob x.fn
  have ok := x.ok
  simp only [scOk, Bool.and_eq_true, beq_iff_eq, Bool.not_eq_true', decide_eq_true_eq] at ok
  obtain ⟨⟨⟨⟨o1, o2⟩, o3⟩, o4⟩, o5⟩ := ok
  refine ⟨.ref a, loads_g B x.name, calls_ref B (fnAt_keep x.fn), ?_⟩
  refine spec_def (dd := fill fd.dfl fd.params.length ds) (dv := (dvOf dt).drop ((dvOf dt).length - (fd.params.length - ds.length))) Wl B.X B.nl ho x.code o1 o2 o3 o4 o5 ?_ (fun vs hv S => x.bind hl vs hv S) e
  have := (dt_reps (prog := prog) (w := w) (P := fun _ _ => False) x.dfl).drop ((dvOf dt).length - (fd.params.length - ds.length))
  unfold fill
  rw [← dt_len x.dfl]
  exact this
end Mine

namespace Mine

noncomputable def bodyOf (F : FuncData) : List Stmt := match F.body with
  | .stmts b => b
  | _ => []
structure ClsIs (K : Frag) (f : Str) (c : Addr × List Str × List D) (fI : Addr) (dt : List (Int × Tok)) (n : Nat) : Prop where
  name : nsIn K mainGlobals f = some (some (.ref c.1))
  keep : keepIn K (.ref c.1) = true
  makes : makesIn K c.1 = true
  init : findIn K (.ref c.1) "__init__" = some (some (.ref fI))
  typ : typeIn K (.ref fI) = some (.type "function")
  fn : fnAt K fI = some (fnFix (fn0 K fI) (bodyOf (fn0 K fI)) (fn0 K fI).scope)
  code : codeIn K (fn0 K fI).code (fn0 K fI).qualname = true
  ok : scOk (fn0 K fI).scope ("self" :: c.2.1) = true
  loc : ((("self" : Str) :: c.2.1).all fun y => (fn0 K fI).scope.names.lookup y == some .local) = true
  cell : ((fn0 K fI).scope.names.all fun x => x.2 != .cell) = true
  set : findIn K (.ref c.1) "__setattr__" = some (some (.builtin "object.__setattr__"))
  over : (plainOver K c.1 && hasDictIn K c.1) = true
  dfl : intsOf c.2.2 = some (dt.map (·.1))
  len : c.2.1.length = n ∧ (dvOf dt).length ≤ 1 ∧ n ≤ 1000
  all : AllV n fun vs => ∀ x S, peek K S (bindArgs (fnFix (fn0 K fI) (bodyOf (fn0 K fI)) (fn0 K fI).scope) ⟨.ref x :: vs, []⟩) = some ((("self" : Str), Value.ref x) :: c.2.1.zip (vs ++ (dvOf dt).drop ((dvOf dt).length - (c.2.1.length - n))))
  less : dvOf dt = [] ∨ ∃ m, n = m + 1 ∧ AllV m fun vs => ∀ x S, peek K S (bindArgs (fnFix (fn0 K fI) (bodyOf (fn0 K fI)) (fn0 K fI).scope) ⟨.ref x :: vs, []⟩) = some ((("self" : Str), Value.ref x) :: c.2.1.zip (vs ++ (dvOf dt).drop ((dvOf dt).length - (c.2.1.length - m))))
  ini : initOf (bodyOf (fn0 K fI)) = some (c.2.1.map fun x => (x, x))
  tk : ((c.2.1.map fun x => (x, x)).all fun f => isNone2 (takerIn K c.1 f.1) && (fn0 K fI).scope.names.lookup f.2 == some .local && f.2 != "self") = true

theorem zip_out : ∀ {names : List Str} {es : List D}, names.Nodup → ∀ p ∈ (names.map fun x => (x, x)).zip (names.zip es), p.1.1 = p.2.1 ∧ (names.zip es).lookup p.1.2 = some p.2.2 ∧ p.1.2 ∈ names
  | [], _, _, p, h => nomatch h
  | n :: ns, [], _, p, h => by simp at h
  | n :: ns, e :: es, hn, p, h => by
    rw [List.map_cons, List.zip_cons_cons, List.zip_cons_cons] at h
    rw [List.zip_cons_cons, List.lookup_cons]
    rcases List.mem_cons.mp h with rfl | h
    · simp
    · obtain ⟨a, b, c⟩ := zip_out (List.nodup_cons.mp hn).2 p h
      refine ⟨a, ?_, List.mem_cons_of_mem _ c⟩
      rw [beq_eq_false_iff_ne.mpr fun (q : p.1.2 = n) => (List.nodup_cons.mp hn).1 (q ▸ c)]
      exact b

section
variable {prog : Program} {w : World} {K : Frag} {mg mb : Str → Option Value} {hb : Heap} {n : Nat}
theorem cls_closed (B : Base K mg mb hb) {f : Str} {c : Addr × List Str × List D} {fI : Addr} {dt : List (Int × Tok)} {m : Nat} (x : ClsIs K f c fI dt m) {ds : List D} (hl : (ds ++ fill c.2.2 c.2.1.length ds).length = c.2.1.length) :
    FctOf prog w hb (n + 1) f ds (.obj c.1 (c.2.1.zip (ds ++ fill c.2.2 c.2.1.length ds)), false) := by
  obtain ⟨C, names, dfl⟩ := c
  dsimp only at hl ⊢
  obtain ⟨oc, od, osl, ho⟩ := fnAt_ob x.fn
  have ok := x.ok
  simp only [scOk, Bool.and_eq_true, beq_iff_eq, Bool.not_eq_true', decide_eq_true_eq] at ok
  obtain ⟨⟨⟨⟨o1, o2⟩, o3⟩, o4⟩, o5⟩ := ok
  refine ⟨.ref C, loads_g B x.name, calls_ref B x.keep, ?_⟩
  have hd := dt_len x.dfl
  have hlen := x.len
  have hz : (names.zip (ds ++ fill dfl names.length ds)).length = names.length := by rw [List.length_zip, hl, Nat.min_self]
  have hmap : (names.zip (ds ++ fill dfl names.length ds)).map (·.1) = names := List.map_fst_zip (by rw [hl]; exact Nat.le_refl _)
  have rd : Reps prog w (fun _ _ => False) ((dvOf dt).drop ((dvOf dt).length - (names.length - ds.length))) (fill dfl names.length ds) := by
    have := (dt_reps (prog := prog) (w := w) (P := fun _ _ => False) x.dfl).drop ((dvOf dt).length - (names.length - ds.length))
    unfold fill
    dsimp only at hd
    rw [← hd]
    exact this
  refine spec_cls B.X B.nl x.makes x.init x.typ ho x.code o1 o2 o3 x.cell o4 x.loc ⟨x.set, (Bool.and_eq_true_iff.mp x.over).1, (Bool.and_eq_true_iff.mp x.over).2⟩ rd (fun vs hv a S => ?_) x.ini x.tk (by rw [hz, List.length_map]) (by rw [hz, hlen.1]; exact hlen.2.2) (fun p hp => ?_) (by rw [hmap]; exact (List.nodup_cons.mp o4).2)
  · dsimp only at hlen hd
    rw [List.length_append, fill, List.length_drop, ← hd] at hl
    by_cases h : ds.length = m
    · have := allV_of x.all vs (hv.trans h) a S
      rwa [← h] at this
    · rcases x.less with e | ⟨m', e, hm⟩
      · rw [e] at hl; simp at hl; (first | lia | omega)
      · have hdm : ds.length = m' := len_m hl hlen.2.1 (hlen.1.trans e) (fun q => h (q.trans hlen.1))
        have := allV_of hm vs (hv.trans hdm) a S
        rwa [← hdm] at this
  · obtain ⟨a, b, _⟩ := zip_out (List.nodup_cons.mp o4).2 p hp
    exact ⟨a, b⟩

noncomputable def buiNames : List Str := ["len", "range", "any", "max", "sorted", "dict", "list", "enumerate"]
noncomputable def isNn : Option (Option Value) → Bool
  | some none => true
  | _ => false
theorem boot_len : bootBuiltins "len" = some (.builtin "len") := by kernel_rfl
theorem boot_range : bootBuiltins "range" = some (.type "range") := by kernel_rfl
theorem boot_any : bootBuiltins "any" = some (.builtin "any") := by kernel_rfl
theorem boot_max : bootBuiltins "max" = some (.builtin "max") := by kernel_rfl
theorem boot_sorted : bootBuiltins "sorted" = some (.builtin "sorted") := by kernel_rfl
theorem boot_dict : bootBuiltins "dict" = some (.type "dict") := by kernel_rfl
theorem boot_list : bootBuiltins "list" = some (.type "list") := by kernel_rfl
theorem boot_enum : bootBuiltins "enumerate" = some (.type "enumerate") := by kernel_rfl
theorem bui_none (h : (buiNames.all fun x => isNone2 (nsIn K mainGlobals x)) = true) {x : Str} (hx : x ∈ buiNames) : nsIn K mainGlobals x = some none := isNone2_eq (List.all_eq_true.mp h x hx)
theorem iteO {α : Type} {c : Prop} [Decidable c] {x y : Option α} {r : α} (h : (if c then x else y) = some r) : (c ∧ x = some r) ∨ y = some r := by
  by_cases q : c
  · rw [if_pos q] at h; exact .inl ⟨q, h⟩
  · rw [if_neg q] at h; exact .inr h
theorem one_list {ds : List D} {f : List D → Option (D × Bool)} {r : D × Bool} (h : (match ds with | [.list xs] => f xs | _ => none) = some r) : ∃ xs, ds = [.list xs] ∧ f xs = some r := by
  match ds with
  | [] => exact nno h
  | [d] => cases d with
    | list xs => exact ⟨xs, rfl, h⟩
    | _ => exact nno h
  | d :: _ :: _ => cases d <;> exact nno h
theorem bui_len (B : Base K mg mb hb) (h : (buiNames.all fun x => isNone2 (nsIn K mainGlobals x)) = true) {ds : List D} {r : D × Bool} (e : bLen ds = some r) : FctOf prog w hb n "len" ds r := by
  replace e := one_list e
  obtain ⟨xs, rfl, e⟩ := e
  obtain ⟨hn, e⟩ := iteS e; cases e
  exact ⟨_, loads_b B (bui_none h (by decide)) (by decide) boot_len, calls_bui, spec_len hn⟩
theorem bui_range (B : Base K mg mb hb) (h : (buiNames.all fun x => isNone2 (nsIn K mainGlobals x)) = true) {ds : List D} {r : D × Bool} (e : bRange ds = some r) : FctOf prog w hb n "range" ds r := by
  unfold bRange at e
  split at e <;> first | (exact nno e) | skip
  cases e
  exact ⟨_, loads_b B (bui_none h (by decide)) (by decide) boot_range, calls_type, spec_range⟩
theorem bui_any (B : Base K mg mb hb) (h : (buiNames.all fun x => isNone2 (nsIn K mainGlobals x)) = true) {ds : List D} {r : D × Bool} (e : bAny ds = some r) : FctOf prog w hb n "any" ds r := by
  replace e := one_list e
  obtain ⟨xs, rfl, e⟩ := e
  obtain ⟨bs, e1, rfl⟩ := Option.map_eq_some_iff.mp e
  exact ⟨_, loads_b B (bui_none h (by decide)) (by decide) boot_any, calls_bui, spec_any e1⟩
set_option tactic.hygienic true in
theorem bui_max (B : Base K mg mb hb) (h : (buiNames.all fun x => isNone2 (nsIn K mainGlobals x)) = true) {ds : List D} {r : D × Bool} (e : bMax ds = some r) : FctOf prog w hb n "max" ds r := by
  replace e := one_list e
  obtain ⟨xs, rfl, e⟩ := e
  split at e <;> first | (exact nno e) | skip
  rename_i e1; cases e
  exact ⟨_, loads_b B (bui_none h (by decide)) (by decide) boot_max, calls_bui, spec_max e1⟩
set_option tactic.hygienic true in
theorem bui_sorted (B : Base K mg mb hb) (h : (buiNames.all fun x => isNone2 (nsIn K mainGlobals x)) = true) {ds : List D} {r : D × Bool} (e : bSorted ds = some r) : FctOf prog w hb n "sorted" ds r := by
  replace e := one_list e
  obtain ⟨xs, rfl, e⟩ := e
  split at e
  · rename_i e1
    obtain ⟨hn, e⟩ := iteS e; cases e
    exact ⟨_, loads_b B (bui_none h (by decide)) (by decide) boot_sorted, calls_bui, spec_sorted B.big e1 hn⟩
  · split at e <;> first | (exact nno e) | skip
    rename_i e1
    obtain ⟨hn, e⟩ := iteS e; cases e
    exact ⟨_, loads_b B (bui_none h (by decide)) (by decide) boot_sorted, calls_bui, spec_sortedP B.big e1 hn.1 hn.2.1 hn.2.2⟩
set_option tactic.hygienic true in
theorem bui_dict (B : Base K mg mb hb) (h : (buiNames.all fun x => isNone2 (nsIn K mainGlobals x)) = true) {ds : List D} {r : D × Bool} (e : bDict ds = some r) : FctOf prog w hb n "dict" ds r := by
  replace e := one_list e
  obtain ⟨xs, rfl, e⟩ := e
  split at e <;> first | (exact nno e) | skip
  rename_i e1
  obtain ⟨hn, e⟩ := iteS e; cases e
  exact ⟨_, loads_b B (bui_none h (by decide)) (by decide) boot_dict, calls_type, spec_dict B.big e1 hn⟩
theorem bui_closed (B : Base K mg mb hb) (h : (buiNames.all fun x => isNone2 (nsIn K mainGlobals x)) = true) {ds : List D} {r : D × Bool} {f : Str} (e : builtinF f ds = some r) : FctOf prog w hb n f ds r := by
  rcases iteO e with ⟨rfl, e⟩ | e
  · exact bui_len B h e
  rcases iteO e with ⟨rfl, e⟩ | e
  · exact bui_range B h e
  rcases iteO e with ⟨rfl, e⟩ | e
  · exact bui_any B h e
  rcases iteO e with ⟨rfl, e⟩ | e
  · exact bui_max B h e
  rcases iteO e with ⟨rfl, e⟩ | e
  · exact bui_sorted B h e
  rcases iteO e with ⟨rfl, e⟩ | e
  · exact bui_dict B h e
  · exact nno e
end
end Mine

namespace Mine

noncomputable def oppD : List (PyData × PyData) := [(.str "eq", .str "ne"), (.str "gt", .str "le"), (.str "ge", .str "lt")]
theorem opp_eq (s : Str) : (PySem.Spec.lookup (.str s) oppD).getD (.str "") = .str (opp s) := by
  unfold oppD opp
  simp only [PySem.Spec.lookup, PyProof.V.same_str]
  by_cases h1 : s = ("eq" : Str)
  · subst h1; simp
  · by_cases h2 : s = ("gt" : Str)
    · subst h2; simp [Ne.symm h1, h1]
    · by_cases h3 : s = ("ge" : Str)
      · subst h3; simp [Ne.symm h1, Ne.symm h2, h1, h2]
      · simp [Ne.symm h1, Ne.symm h2, Ne.symm h3, h1, h2, h3]

section
variable {prog : Program} {w : World} {K : Frag} {mg mb : Str → Option Value} {hb : Heap} {n : Nat}
theorem opp_body {A : Around} {E : Value → Shared → Prop} {s : Shared} {env : Env} {Q : Flow → Shared → Prop} {keys : List (Option Expr)} {vals : List Expr} {dp gp np cp pos rp : Pos} {k : Nat} {t : Str} {tk : Tok}
    (hk : env.scope.kind = .function) (zv : VarIs env s.heap "name" (.str t tk)) (hb : 1 < s.heap.objs.size)
    (hD : litPairs keys vals = some oppD) (hall : keys.all (·.isSome) = true) (hkl : keys.length = vals.length) (hk0 : keys ≠ []) (hk15 : keys.length ≤ 15) (hli : lineOk gp pos = true)
    (h : ∀ s' tk, Sub s.heap s'.heap → SameW s s' → Q (.ret (.str (opp t) tk)) s') :
    wpAny (model prog w) A (execs [.Return (some (.Call (.Attribute (.Dict keys vals dp) "get" gp) [.Name "name" np, .Constant (.str "") k cp] [] pos)) rp] env) Q E s := by
  refine wpAny_execs_cons (wpAny_Return_some ?_)
  refine wpAny_Call_method_late rfl rfl hli rfl ?_
  refine Dict_lits_str hD rfl (by decide) hall hkl hk0 hk15 fun d o h₂ tk₂ hda hdo htab hkeep => ?_
  obtain ⟨kvs, hdict, flat⟩ := htab
  have hm : h₂.MapOf (strKind prog w) d (valueAt kvs) := Heap.DictOf.mapOf (Heap.dictOf_iff.mpr ⟨o, hdo, hdict⟩)
  refine ⟨"dict", _, F.plainAttrs_dict, F.slot_dict_get, F.type_dict_get, hm.typeIs, hm.noDict, callWith_builtin rfl (evalArgs_of rfl ?_)⟩
  refine wpAny_items_cons (wpAny_Name (load_var hk (zv.keeps hkeep) ?_) (by decide)) rfl
  refine wpAny_items_cons (Constant_str ?_) rfl
  refine wpAny_items_nil ?_
  have hz : (d == sysModules) = false := beq_eq_false_iff_ne.mpr (Nat.ne_of_gt (Nat.lt_of_lt_of_le hb hda))
  refine call_meetsIn F.slot_dict_get hm.typeIs F.entry_dict_get (F.args_dict_get_3 _ _ _) (meets_dict_get_default (strKind prog w) d (k := t) (strKind_is _ _ _ _) hz _) ⟨_, hm, ?_⟩
  have hf := PyProof.V.FlatPairs.getD PyProof.V.same_str flat t (PyProof.V.Flat.str "" tk₂)
  rw [opp_eq] at hf
  obtain ⟨tv, hv⟩ := hf.str_inv
  rw [hv]
  exact h _ _ hkeep ⟨rfl, rfl⟩
theorem opp_closed (B : Base K mg mb hb) {fd : FD} {a : Addr} (x : DefIs K "opposite" fd a [] 1) {keys : List (Option Expr)} {vals : List Expr} {dp gp np cp pos rp : Pos} {k : Nat}
    (hbd : fd.body = [.Return (some (.Call (.Attribute (.Dict keys vals dp) "get" gp) [.Name "name" np, .Constant (.str "") k cp] [] pos)) rp]) (hpar : fd.params = [("name" : Str)]) (hnm : fd.scope.names.lookup ("name" : Str) = some .local)
    (hD : litPairs keys vals = some oppD) (hall : keys.all (·.isSome) = true) (hkl : keys.length = vals.length) (hk0 : keys ≠ []) (hk15 : keys.length ≤ 15) (hli : lineOk gp pos = true) {t : Str} : FctOf prog w hb (n + 1) "opposite" [.str t] (.str (opp t), false) := by
  obtain ⟨oc, od, osl, ho⟩ := fnAt_ob x.fn
  have ok := x.ok
  simp only [scOk, Bool.and_eq_true, beq_iff_eq, Bool.not_eq_true', decide_eq_true_eq] at ok
  obtain ⟨⟨⟨⟨o1, o2⟩, o3⟩, o4⟩, o5⟩ := ok
  refine ⟨.ref a, loads_g B x.name, calls_ref B (fnAt_keep x.fn), ?_⟩
  intro A E s P vs Q rm kb p r hQ
  have r0 := r
  obtain ⟨_, rfl, a1⟩ := r.oneI
  obtain ⟨tk, rfl⟩ := a1.strI
  have hd := rm.dp
  have ho' := kb _ _ (B.X _ _ ho)
  have hbind := fun S => (allV_of x.all [Value.str t tk] rfl) S
  have hnm' : ∀ x ∈ fd.params, fd.scope.names.lookup x = some .local ∨ fd.scope.names.lookup x = some .cell := fun x hx => by simpa using List.all_eq_true.mp o5 x hx
  refine wpAny_call (codeAny_call_function (by (first | lia | omega)) ho' rfl o2 o3 rfl (codeRec_of (B.X.keeps kb) x.code) ?_)
  refine kp_binds (B.X.keeps kb) hbind _ _ _ _ ?_
  show wpAny _ _ (newFunctionEnv fd.scope mainGlobals [] _ (_ ++ ".<locals>.") (some a) _ none builtinsNs) _ _ _
  refine wpAny_newFunctionEnv_cells o1 (fun x hx => ?_) fun env he s₁ x₁ => ?_
  · rcases hnm' x.1 (List.of_mem_zip hx).1 with h | h
    · exact .inl h
    · exact .inr ⟨h, cellsFrom_some _ _ _ (.inl h)⟩
  · subst he
    refine ⟨B.nl.keeps fun b o q => x₁.toInCall.keep b o (kb b o q), codeAny_func ?_⟩
    have FF := frame_new (prog := prog) (w := w) (ds := [.str t]) rfl rfl rfl rfl rfl rfl rfl x₁ o1 o4 hnm' p (by simpa [dvOf] using r0)
    obtain ⟨h₁, tk₁, hs₁⟩ := x₁.toInCall.same
    have ww : SameW s s₁ := by rw [hs₁]; exact ⟨rfl, rfl⟩
    have big1 := (B.big.keeps (kb.trans x₁.toInCall.keep)).lt
    obtain ⟨_, v, zv, yv⟩ := FF.est.vars "name" (.str t) .fro (by rw [hpar]; simp [rho0, Rho.get])
    obtain ⟨tk', rfl⟩ := Rep.strI yv
    rw [hbd]
    exact opp_body FF.est.kind zv big1 hD hall hkl hk0 hk15 hli fun s' tk k' w' => hQ _ s' P (Sub.trans x₁.toInCall.keep k') (ww.trans w') (PExt.stay p (Sub.trans x₁.toInCall.keep k')) (.str _ _)
end
end Mine

namespace Mine

noncomputable def AllI (P : Nat → Prop) : Nat → Prop
  | 0 => True
  | n + 1 => AllI P n ∧ P n
theorem allI_of {P : Nat → Prop} : ∀ {n : Nat}, AllI P n → ∀ i, i < n → P i
  | 0, _, _, h => absurd h (Nat.not_lt_zero _)
  | n + 1, ⟨a, b⟩, i, h => (Nat.lt_succ_iff_lt_or_eq.mp h).elim (allI_of a i) fun e => e ▸ b
noncomputable def nmAt (i : Nat) : Str := match theDefs[i]? with
  | some p => p.1
  | none => ""
noncomputable def fdAt (i : Nat) : FD := match theDefs[i]? with
  | some p => p.2
  | none => ⟨[], [], [], default, []⟩
theorem defs_len : theDefs.length = 77 := by kernel_rfl
theorem def_at {f : Str} {fd : FD} (h : lkS f theDefs = some fd) : ∃ i, i < 77 ∧ f = nmAt i ∧ fd = fdAt i := by
  obtain ⟨i, hi⟩ := List.mem_iff_getElem?.mp (lkS_mem h)
  refine ⟨i, ?_, ?_, ?_⟩
  · rw [← defs_len]; exact (List.getElem?_eq_some_iff.mp hi).1
  · unfold nmAt; rw [hi]
  · unfold fdAt; rw [hi]

noncomputable def isRef (x : Option (Option Value)) (a : Addr) : Bool := match x with
  | some (some (.ref b)) => b == a
  | _ => false
theorem isRef_eq {x : Option (Option Value)} {a : Addr} (h : isRef x a = true) : x = some (some (.ref a)) := by
  cases x with
  | none => cases h
  | some x => cases x with
    | none => cases h
    | some v => cases v with
      | ref b => rw [beq_iff_eq.mp h]
      | _ => cases h
noncomputable def dChk (K : Frag) (f : Str) (fd : FD) (a : Addr) (dt : List (Int × Tok)) (n : Nat) : Bool :=
  isRef (nsIn K mainGlobals f) a && codeIn K (fn0 K a).code (fn0 K a).qualname && scOk fd.scope fd.params && decide (intsOf fd.dfl = some (dt.map (·.1))) && decide (fd.params.length = n) && decide ((dvOf dt).length ≤ 1)
theorem DefIs.of {K : Frag} {f : Str} {fd : FD} {a : Addr} {dt : List (Int × Tok)} {n : Nat} (h : dChk K f fd a dt n = true) (fn : fnAt K a = some (fnFix (fn0 K a) fd.body fd.scope))
    (all : BindOk K (fnFix (fn0 K a) fd.body fd.scope) fd.params (dvOf dt) n) (less : dvOf dt = [] ∨ ∃ m, n = m + 1 ∧ BindOk K (fnFix (fn0 K a) fd.body fd.scope) fd.params (dvOf dt) m) : DefIs K f fd a dt n := by
  simp only [dChk, Bool.and_eq_true, decide_eq_true_eq] at h
  obtain ⟨⟨⟨⟨⟨h1, h2⟩, h3⟩, h4⟩, h5⟩, h6⟩ := h
  exact ⟨isRef_eq h1, fn, h2, h3, h4, ⟨h5, h6⟩, all, less⟩

noncomputable def primV (x : Option (Option Value)) (d : D) : Bool := match x with
  | none => false
  | some x => match x with
    | none => false
    | some v => match v with
      | .int i _ => match intD d with
        | none => false
        | some j => decide (i = j)
      | .str i _ => match strD d with
        | none => false
        | some j => @decide _ (Fast.sDec i j)
      | _ => false
theorem primV_rep {x : Option (Option Value)} {d : D} {prog : Program} {w : World} (h : primV x d = true) : ∃ v, x = some (some v) ∧ Rep prog w (fun _ _ => False) v d := by
  cases x with
  | none => cases h
  | some x => cases x with
    | none => cases h
    | some v => cases v with
      | int i t =>
        cases hd : intD d with
        | none => rw [show primV (some (some (.int i t))) d = match intD d with | none => false | some j => decide (i = j) from rfl, hd] at h; cases h
        | some j =>
          rw [show primV (some (some (.int i t))) d = match intD d with | none => false | some j => decide (i = j) from rfl, hd] at h
          have e := of_decide_eq_true h
          rw [intD_inv hd, ← e]
          exact ⟨_, rfl, .int _ _⟩
      | str i t =>
        cases hd : strD d with
        | none => rw [show primV (some (some (.str i t))) d = match strD d with | none => false | some j => @decide _ (Fast.sDec i j) from rfl, hd] at h; cases h
        | some j =>
          rw [show primV (some (some (.str i t))) d = match strD d with | none => false | some j => @decide _ (Fast.sDec i j) from rfl, hd] at h
          have e := @of_decide_eq_true _ (Fast.sDec _ _) h
          rw [strD_inv hd, ← e]
          exact ⟨_, rfl, .str _ _⟩
      | _ => cases h
noncomputable def conChk (K : Frag) : List (Str × D) → Bool
  | [] => true
  | (x, d) :: l => (@decide _ (Fast.sDec x "__name__") || primV (nsIn K mainGlobals x) d) && conChk K l
theorem conChk_of {K : Frag} {x : Str} {d : D} (hx : x ≠ "__name__") {l : List (Str × D)} (h : conChk K l = true) (m : (x, d) ∈ l) : primV (nsIn K mainGlobals x) d = true := by
  induction l with
  | nil => cases m
  | cons p l ih =>
    obtain ⟨y, e⟩ := p
    obtain ⟨h1, h2⟩ := Bool.and_eq_true_iff.mp (show ((@decide _ (Fast.sDec y "__name__") || primV (nsIn K mainGlobals y) e) && conChk K l) = true from h)
    rcases List.mem_cons.mp m with q | q
    · cases q
      rcases Bool.or_eq_true_iff.mp h1 with r | r
      · exact absurd (@of_decide_eq_true _ (Fast.sDec _ _) r) hx
      · exact r
    · exact ih h2 q

noncomputable def fldTab : List (Addr × List Str) := [(105, ["code", "jt", "jf", "k"]), (399, ["order", "goal"]), (232, ["code", "dst", "src", "off", "imm", "more"])]
noncomputable def attrOk (K : Frag) (C : Addr) (nm : Str) : Bool := match findIn K (.ref C) nm with
  | some a => noGet K a
  | none => false
noncomputable def fldChk (K : Frag) : Bool := fldTab.all fun p => plainGet K p.1 "" && hasDictIn K p.1 && p.2.all (attrOk K p.1)
theorem nmIn_mem {x : Str} {l : List Str} (h : nmIn x l = true) : x ∈ l := by
  induction l with
  | nil => exact ff h
  | cons y l ih =>
    replace h : @ite _ (x = y) (Fast.sDec x y) true (nmIn x l) = true := h
    by_cases q : x = y
    · subst q; exact List.mem_cons_self ..
    · rw [if_neg q] at h; exact List.mem_cons_of_mem _ (ih h)
set_option tactic.hygienic true in
theorem fldChk_of {K : Frag} (h : fldChk K = true) {C : Addr} {nm : Str} (e : fld0 C nm = true) : plainGet K C nm = true ∧ hasDictIn K C = true ∧ ∃ attr, findIn K (.ref C) nm = some attr ∧ noGet K attr = true := by
  have go : ∀ p ∈ fldTab, C = p.1 → nm ∈ p.2 → plainGet K C nm = true ∧ hasDictIn K C = true ∧ ∃ attr, findIn K (.ref C) nm = some attr ∧ noGet K attr = true := by
    intro p hp e hm
    subst e
    have := List.all_eq_true.mp h p hp
    simp only [Bool.and_eq_true] at this
    refine ⟨this.1.1, this.1.2, ?_⟩
    have a := List.all_eq_true.mp this.2 nm hm
    unfold attrOk at a
    split at a
    · rename_i a' q; exact ⟨a', q, a⟩
    · cases a
  unfold fld0 at e
  simp only [Bool.or_eq_true, Bool.and_eq_true, beq_iff_eq] at e
  rcases e with (⟨a, b⟩ | ⟨a, b⟩) | ⟨a, b⟩
  · exact go _ (List.mem_cons_self ..) a (nmIn_mem b)
  · exact go _ (List.mem_cons_of_mem _ (List.mem_cons_self ..)) a (nmIn_mem b)
  · exact go _ (List.mem_cons_of_mem _ (List.mem_cons_of_mem _ (List.mem_cons_self ..))) a (nmIn_mem b)

structure KTab (K : Frag) : Prop where
  defs : AllI (fun i => ∃ a dv n, DefIs K (nmAt i) (fdAt i) a dv n) 77
  opp : ∃ a, DefIs K "opposite" (fdAt 57) a [] 1
  con : conChk K theCon = true
  cls : ∀ f c, (f, c) ∈ clsTab → ∃ fI dv n, ClsIs K f c fI dv n
  bui : (buiNames.all fun x => isNone2 (nsIn K mainGlobals x)) = true
  fld : fldChk K = true

structure OppIs (fd : FD) : Prop where
  ex : ∃ (keys : List (Option Expr)) (vals : List Expr) (dp gp np cp pos rp : Pos) (k : Nat), fd.body = [.Return (some (.Call (.Attribute (.Dict keys vals dp) "get" gp) [.Name "name" np, .Constant (.str "") k cp] [] pos)) rp] ∧
    litPairs keys vals = some oppD ∧ keys.all (·.isSome) = true ∧ keys.length = vals.length ∧ keys ≠ [] ∧ keys.length ≤ 15 ∧ lineOk gp pos = true
  par : fd.params = [("name" : Str)]
  nm : fd.scope.names.lookup ("name" : Str) = some .local
noncomputable def opp0 : { fd : FD // theDefs[57]? = some (("opposite" : Str), fd) } := ⟨_, rfl⟩
theorem opp0_at : fdAt 57 = opp0.1 := by have := opp0.2; revert this; generalize opp0.1 = fd; intro h; unfold fdAt; rw [h]
theorem opp0_is : OppIs opp0.1 := ⟨⟨_, _, _, _, _, _, _, _, _, rfl, by kernel_rfl, by kernel_rfl, by kernel_rfl, (fun h => nomatch h), by decide, by kernel_rfl⟩, by kernel_rfl, by kernel_rfl⟩

section
variable {prog : Program} {w : World} {K : Frag} {mg mb : Str → Option Value} {hb : Heap}
theorem wld_of (B : Base K mg mb hb) (KT : KTab K) {n : Nat} {T : Str → List D → Option (D × Bool)} (hT : Just (FctOf prog w hb) n T) : Wld prog w ⟨con0, T, fld0⟩ n hb :=
  Wld.of B hT (fun x d e => by
    unfold con0 at e
    by_cases q : x = ("__name__" : Str)
    · rw [if_pos q] at e; cases e
    · rw [if_neg q] at e
      exact primV_rep (conChk_of q KT.con (lkS_mem e))) (bui_none KT.bui (by decide)) (bui_none KT.bui (by decide)) boot_list boot_enum fun C nm e => fldChk_of KT.fld e
theorem closed_of (B : Base K mg mb hb) (KT : KTab K) : Closed (FctOf prog w hb) where
  fn := fun {n f fd T ds fl} hne hl hT hlen e => by
    obtain ⟨i, hi, rfl, rfl⟩ := def_at hl
    obtain ⟨a, dv, m, x⟩ := allI_of KT.defs i hi
    exact fn_closed B (wld_of B KT hT) x hlen e
  cls := fun {n f c ds} hl hlen => by
    obtain ⟨fI, dv, m, x⟩ := KT.cls f c (lkS_mem hl)
    exact cls_closed B x hlen
  bui := fun {n f ds r} e => bui_closed B KT.bui e
  opp := fun {n s} => by
    obtain ⟨a, x⟩ := KT.opp
    rw [opp0_at] at x
    obtain ⟨⟨keys, vals, dp, gp, np, cp, pos, rp, k, h1, h2, h3, h4, h5, h6, h7⟩, hp, hn⟩ := opp0_is
    exact opp_closed B x h1 hp hn h2 h3 h4 h5 h6 h7
  up := fun {n f ds r} ⟨fv, a, b, c⟩ => ⟨fv, a, b, c.up⟩
end
end Mine

namespace Mine

noncomputable def lawSc (sc : Scope) : Bool := (sc.kind == .function) && (sc.names.all fun x => x.2 != .cell) && (sc.names.lookup ("script" : Str) == some .local)
theorem law_sc : lawSc fLaw.1.scope = true := by kernel_rfl
theorem ints_reps {prog : Program} {w : World} {P : Vis} {vs : List Value} {ns : List Int} (x : IntsAre vs ns) : Reps prog w P vs (iD ns) := reps_ints x
theorem well_plain {P : Params} {h : Heap} {a : Addr} {vs : List Value} {d : PyData} {xs : List PyData} (hd : d = .list xs) (w : Well P h (.ref a) (ofPy d)) (hl : h.IsList a vs.toArray) : h.get? a = some (lstO vs 0) := by
  subst hd
  unfold ofPy at w
  cases w with
  | list ho r =>
    obtain ⟨o, ho', _, n, hdat⟩ := hl
    rw [ho] at ho'; cases ho'
    cases hdat
    exact ho

theorem post_ok (a b : List WData) : PySem.Challenge.rw_ok0170_01.row.claim.post a (WData.bool true) b = true := by kernel_rfl
theorem room12 {env : Env} : Room (callerA.deeper env) 12 := ⟨rfl, of_decide_eq_true (by kernel_rfl), of_decide_eq_true (by kernel_rfl)⟩
theorem law_join {prog : Program} {w : World} {K : Frag} {mg mb : Str → Option Value} {hb : Heap} (B : Base K mg mb hb) (KT : KTab K) {ns : List Int} {vs : List Value} {l : Addr} (hn : ns.length ≤ 63) (hI : IntsAre vs ns) (hl : hb.get? l = some (lstO vs 0))
    {A : Around} {E : Value → Shared → Prop} {s : Shared} {h₁ : Heap} {fa : Addr} {cd : Value} {nm : Str} {Q : Flow → Shared → Prop} (hs : s.heap = h₁) (F : Fr hb hb.objs.size h₁ fun x => List.lookup x [(("script" : Str), Value.ref l)].reverse) (rm : Room A 12)
    (hQ : ∀ s', SameW s s' → Sub hb s'.heap → Q (.ret (.bool true)) s') : wpAny (model prog w) A (execs fLaw.1.body (envOf nm fLaw.1.scope hb.objs.size fa cd)) Q E s := by
  subst hs
  obtain ⟨T, hT, fl, e, hv⟩ := law_run (closed_of (prog := prog) (w := w) B KT) hn
  have hsc := law_sc
  revert hsc e
  generalize fLaw.1.scope = sc
  generalize fLaw.1.body = body
  intro e hsc
  simp only [lawSc, Bool.and_eq_true, beq_iff_eq] at hsc
  obtain ⟨⟨s1, s2⟩, s3⟩ := hsc
  have nocell : ∀ x : Str, sc.names.lookup x ≠ some .cell := fun x q => by
    have := List.all_eq_true.mp s2 _ (PySem.mem_of_lookup q)
    simp at this
  have kO : ∀ y, (envOf nm sc hb.objs.size fa cd).kindOf y = sc.names.lookup y := fun y => rfl
  have hne : hb.get? hb.objs.size = none := Heap.get?_none_of_le (Nat.le_refl _)
  have hrho : ∀ x d m, Rho.get x [(("script" : Str), (D.list (iD ns), Mode.fro))] = some (d, m) → x = ("script" : Str) ∧ d = .list (iD ns) ∧ m = .fro := fun x d m q => by
    unfold Rho.get at q
    by_cases h : x = ("script" : Str)
    · rw [if_pos h] at q; cases q; exact ⟨h, rfl, rfl⟩
    · rw [if_neg h] at q; cases q
  have FF : FrameSt prog w sc (envOf nm sc hb.objs.size fa cd) hb (fun a o => a = l ∧ o = lstO vs 0) (fun b => b = hb.objs.size) [(("script" : Str), (D.list (iD ns), Mode.fro))] (fun a o => a = l ∧ o = lstO vs 0) s.heap := {
    est := {
      kind := s1
      glb := rfl
      blt := rfl
      imp := fun y e => (kO y).trans e
      imc := fun y e => (kO y).trans e
      vars := fun y d m e => by
        obtain ⟨rfl, rfl, rfl⟩ := hrho y d m e
        refine ⟨by simp, .ref l, .inl ⟨(kO _).trans s3, _, F.ns, ?_⟩, .list ⟨rfl, rfl⟩ (ints_reps hI)⟩
        simp
      pin := fun a o e => by obtain ⟨rfl, rfl⟩ := e; exact F.keep _ _ hl }
    base := F.keep
    pup := fun _ _ e => e
    pnew := fun _ _ e => .inl e
    wnew := fun a e => e ▸ hne
    wdom := fun a e => by subst e; obtain ⟨o, _, _, ho, _⟩ := F.ns; exact ⟨o, ho⟩
    pw := fun a o e q => by obtain ⟨rfl, _⟩ := e; subst q; rw [hl] at hne; cases hne
    loc := rfl
    ns := ⟨_, F.ns⟩
    lk := fun y e => (kO y).trans e
    ck := fun y e => absurd e (nocell y)
    cl := fun y c e => by cases e
    ca := fun y z c h _ => absurd h (nocell y)
    cx := fun y c e => by cases e
    own := fun y d a e => by cases (hrho _ _ _ e).2.2
    apart := fun y z a d d' hn e => by cases (hrho _ _ _ e).2.2 }
  refine lsound (wld_of B KT hT) body fLaw.1.mu sc _ fl e A E s _ hb _ _ _ Q rm (Sub.refl _) FF ?_
  cases fl with
  | nxt ρ' => cases hv
  | ret d fr =>
    cases hv
    intro v s' P' w' k' y' x'
    have hvv := x'.hold.bool
    subst hvv
    exact hQ s' w' k'
end Mine

namespace Mine
section
variable {K : Frag} {hb : Heap}
abbrev HI (K : Frag) (i a : Nat) (dt : List (Int × Tok)) (n : Nat) : Prop := dChk K (nmAt i) (fdAt i) a dt n = true
abbrev FI (K : Frag) (i a : Nat) : Prop := fnAt K a = some (fnFix (fn0 K a) (fdAt i).body (fdAt i).scope)
abbrev BI (K : Frag) (i a : Nat) (dt : List (Int × Tok)) (n : Nat) (vs : List Value) (S : Setting) : Prop :=
  peek K S (bindArgs (fnFix (fn0 K a) (fdAt i).body (fdAt i).scope) ⟨vs, []⟩) = some ((fdAt i).params.zip (vs ++ (dvOf dt).drop ((dvOf dt).length - ((fdAt i).params.length - n))))
theorem dI (_ : K.In hb) (i a : Nat) (dt : List (Int × Tok)) (n : Nat) (h : HI K i a dt n) (fn : FI K i a) (all : AllV n fun vs => ∀ S, BI K i a dt n vs S) (less : dvOf dt = [] ∨ ∃ m, n = m + 1 ∧ AllV m fun vs => ∀ S, BI K i a dt m vs S) : DefIs K (nmAt i) (fdAt i) a dt n :=
  DefIs.of h fn all less
theorem ex_of {f : Str} {fd : FD} {a : Addr} {dv : List (Int × Tok)} {n : Nat} (h : DefIs K f fd a dv n) : ∃ a dv n, DefIs K f fd a dv n := ⟨a, dv, n, h⟩
noncomputable def clsAt (f : Str) : Addr × List Str × List D := (lkS f clsTab).getD (0, [], [])
noncomputable def cChk (K : Frag) (f : Str) (C fI : Addr) (dt : List (Int × Tok)) (n : Nat) : Bool :=
  isRef (nsIn K mainGlobals f) C && keepIn K (.ref C) && makesIn K C && isRef (findIn K (.ref C) "__init__") fI && codeIn K (fn0 K fI).code (fn0 K fI).qualname && scOk (fn0 K fI).scope ("self" :: (clsAt f).2.1) &&
    (((("self" : Str) :: (clsAt f).2.1).all fun y => (fn0 K fI).scope.names.lookup y == some .local)) && ((fn0 K fI).scope.names.all fun x => x.2 != .cell) && (plainOver K C && hasDictIn K C) && decide (intsOf (clsAt f).2.2 = some (dt.map (·.1))) && decide ((clsAt f).2.1.length = n) && decide ((dvOf dt).length ≤ 1) && decide (n ≤ 1000) && decide ((clsAt f).1 = C) &&
    (((clsAt f).2.1.map fun x => (x, x)).all fun g => isNone2 (takerIn K C g.1) && (fn0 K fI).scope.names.lookup g.2 == some .local && g.2 != "self")
theorem cI (_ : K.In hb) (f : Str) (C fI : Addr) (dt : List (Int × Tok)) (n : Nat) (h : cChk K f C fI dt n = true) (typ : typeIn K (.ref fI) = some (.type "function")) (set : findIn K (.ref C) "__setattr__" = some (some (.builtin "object.__setattr__")))
    (fn : fnAt K fI = some (fnFix (fn0 K fI) (bodyOf (fn0 K fI)) (fn0 K fI).scope))
    (all : AllV n fun vs => ∀ x S, peek K S (bindArgs (fnFix (fn0 K fI) (bodyOf (fn0 K fI)) (fn0 K fI).scope) ⟨.ref x :: vs, []⟩) = some ((("self" : Str), Value.ref x) :: (clsAt f).2.1.zip (vs ++ (dvOf dt).drop ((dvOf dt).length - ((clsAt f).2.1.length - n)))))
    (less : dvOf dt = [] ∨ ∃ m, n = m + 1 ∧ AllV m fun vs => ∀ x S, peek K S (bindArgs (fnFix (fn0 K fI) (bodyOf (fn0 K fI)) (fn0 K fI).scope) ⟨.ref x :: vs, []⟩) = some ((("self" : Str), Value.ref x) :: (clsAt f).2.1.zip (vs ++ (dvOf dt).drop ((dvOf dt).length - ((clsAt f).2.1.length - m)))))
    (ini : initOf (bodyOf (fn0 K fI)) = some ((clsAt f).2.1.map fun x => (x, x))) : ClsIs K f (clsAt f) fI dt n := by
  simp only [cChk, Bool.and_eq_true, decide_eq_true_eq] at h
  obtain ⟨⟨⟨⟨⟨⟨⟨⟨⟨⟨⟨⟨⟨⟨h1, h2⟩, h3⟩, h4⟩, h5⟩, h6⟩, h7⟩, h8⟩, h9⟩, h10⟩, h11⟩, h12⟩, h13⟩, h14⟩, h15⟩ := h
  subst h14
  exact ⟨isRef_eq h1, h2, h3, isRef_eq h4, typ, fn, h5, h6, h7, h8, set, by rw [h9.1, h9.2]; rfl, h10, ⟨h11, h12, h13⟩, all, less, ini, h15⟩
theorem cls_of {P : Str → (Addr × List Str × List D) → Prop} (h1 : P "ClassicOrder" (clsAt "ClassicOrder")) (h2 : P "Laid" (clsAt "Laid")) (h3 : P "Order" (clsAt "Order")) : ∀ f c, (f, c) ∈ clsTab → P f c := by
  have e1 : clsAt "ClassicOrder" = ((105, ["code", "jt", "jf", "k"], []) : Addr × List Str × List D) := by kernel_rfl
  have e2 : clsAt "Laid" = ((399, ["order", "goal"], [.int (-1)]) : Addr × List Str × List D) := by kernel_rfl
  have e3 : clsAt "Order" = ((232, ["code", "dst", "src", "off", "imm", "more"], [.int 0]) : Addr × List Str × List D) := by kernel_rfl
  rw [e1] at h1; rw [e2] at h2; rw [e3] at h3
  intro f c h
  rcases List.mem_cons.mp h with q | h
  · cases q; exact h1
  rcases List.mem_cons.mp h with q | h
  · cases q; exact h2
  rcases List.mem_cons.mp h with q | h
  · cases q; exact h3
  · cases h
theorem nm57 : nmAt 57 = "opposite" := by kernel_rfl
theorem kI (_ : K.In hb) (defs : AllI (fun i => ∃ a dv n, DefIs K (nmAt i) (fdAt i) a dv n) 77) (opp : ∃ a, DefIs K (nmAt 57) (fdAt 57) a [] 1) (con : conChk K theCon = true) {f1 f2 f3 : Addr} {d1 d2 d3 : List (Int × Tok)} {n1 n2 n3 : Nat}
    (c1 : ClsIs K "ClassicOrder" (clsAt "ClassicOrder") f1 d1 n1) (c2 : ClsIs K "Laid" (clsAt "Laid") f2 d2 n2) (c3 : ClsIs K "Order" (clsAt "Order") f3 d3 n3)
    (bui : (buiNames.all fun x => isNone2 (nsIn K mainGlobals x)) = true) (fld : fldChk K = true) : KTab K :=
  ⟨defs, nm57 ▸ opp, con, cls_of (P := fun f c => ∃ fI dv n, ClsIs K f c fI dv n) ⟨_, _, _, c1⟩ ⟨_, _, _, c2⟩ ⟨_, _, _, c3⟩, bui, fld⟩
end
end Mine

set_option Elab.async true
set_option tactic.hygienic true
set_option maxHeartbeats 0
theorem Mine.cw.tw10001757822794293284 : True := trivial
theorem Mine.cw.tw1001847936735871217 : True := trivial
theorem Mine.cw.tw10061564649832930533 : True := trivial
theorem Mine.cw.tw10062538012251850071 : True := trivial
theorem Mine.cw.tw10069518272436374691 : True := trivial
theorem Mine.cw.tw10085818013370136085 : True := trivial
theorem Mine.cw.tw10108442846848987267 : True := trivial
theorem Mine.cw.tw10111585515160911110 : True := trivial
theorem Mine.cw.tw10133593751813262031 : True := trivial
theorem Mine.cw.tw10169788303439401062 : True := trivial
theorem Mine.cw.tw10197106118788650172 : True := trivial
theorem Mine.cw.tw10220390648087449953 : True := trivial
theorem Mine.cw.tw1031413930868921414 : True := trivial
theorem Mine.cw.tw10327416925665760304 : True := trivial
theorem Mine.cw.tw10352212982218137721 : True := trivial
theorem Mine.cw.tw10362180420265512515 : True := trivial
theorem Mine.cw.tw10362361567543475196 : True := trivial
theorem Mine.cw.tw10395843251819449040 : True := trivial
theorem Mine.cw.tw10417276246721045325 : True := trivial
theorem Mine.cw.tw10429527013251239871 : True := trivial
theorem Mine.cw.tw10469622635208884771 : True := trivial
theorem Mine.cw.tw10481492460730474135 : True := trivial
theorem Mine.cw.tw10485878008771408533 : True := trivial
theorem Mine.cw.tw10534401271574096376 : True := trivial
theorem Mine.cw.tw10582871820063533239 : True := trivial
theorem Mine.cw.tw1061759024922983633 : True := trivial
theorem Mine.cw.tw10666049679076413966 : True := trivial
theorem Mine.cw.tw10716450737588456245 : True := trivial
theorem Mine.cw.tw10724568801947046133 : True := trivial
theorem Mine.cw.tw10858871412793448962 : True := trivial
theorem Mine.cw.tw10861243223608375868 : True := trivial
theorem Mine.cw.tw10881834249466746773 : True := trivial
theorem Mine.cw.tw10886488294501445450 : True := trivial
theorem Mine.cw.tw10894422157771956130 : True := trivial
theorem Mine.cw.tw10925982676703824585 : True := trivial
theorem Mine.cw.tw10953123937275477394 : True := trivial
theorem Mine.cw.tw110514914633163481 : True := trivial
theorem Mine.cw.tw11068519763337610334 : True := trivial
theorem Mine.cw.tw11076772228991380029 : True := trivial
theorem Mine.cw.tw11127803882114186156 : True := trivial
theorem Mine.cw.tw1119846097978458417 : True := trivial
theorem Mine.cw.tw11220621319726393749 : True := trivial
theorem Mine.cw.tw11252524664071276656 : True := trivial
theorem Mine.cw.tw11254835128405952838 : True := trivial
theorem Mine.cw.tw11276918991615045221 : True := trivial
theorem Mine.cw.tw1129946868401675958 : True := trivial
theorem Mine.cw.tw11322065900247502948 : True := trivial
theorem Mine.cw.tw11375821190854673680 : True := trivial
theorem Mine.cw.tw11381329923816113111 : True := trivial
theorem Mine.cw.tw11408446092821777910 : True := trivial
theorem Mine.cw.tw11413657859230350254 : True := trivial
theorem Mine.cw.tw11421232195869613319 : True := trivial
theorem Mine.cw.tw1142681744184057311 : True := trivial
theorem Mine.cw.tw11474246971035347520 : True := trivial
theorem Mine.cw.tw11516645466692749859 : True := trivial
theorem Mine.cw.tw11585968440157721218 : True := trivial
theorem Mine.cw.tw11686667895163209963 : True := trivial
theorem Mine.cw.tw11703850890434453405 : True := trivial
theorem Mine.cw.tw11723249370181606347 : True := trivial
theorem Mine.cw.tw11744499077472433453 : True := trivial
theorem Mine.cw.tw11746427022147578154 : True := trivial
theorem Mine.cw.tw11751927079061947295 : True := trivial
theorem Mine.cw.tw11751998716075514716 : True := trivial
theorem Mine.cw.tw11754658650556267126 : True := trivial
theorem Mine.cw.tw11781060877705872058 : True := trivial
theorem Mine.cw.tw118323927335803222 : True := trivial
theorem Mine.cw.tw11835236348681913158 : True := trivial
theorem Mine.cw.tw1184031629254359674 : True := trivial
theorem Mine.cw.tw11875235385263808230 : True := trivial
theorem Mine.cw.tw11905782810705850828 : True := trivial
theorem Mine.cw.tw1192352477516011486 : True := trivial
theorem Mine.cw.tw11928798751556335818 : True := trivial
theorem Mine.cw.tw11940688272778093951 : True := trivial
theorem Mine.cw.tw11961237888325340695 : True := trivial
theorem Mine.cw.tw11972846680552242081 : True := trivial
theorem Mine.cw.tw12041731551508008593 : True := trivial
theorem Mine.cw.tw12060875981346702621 : True := trivial
theorem Mine.cw.tw12077313387518822445 : True := trivial
theorem Mine.cw.tw12176814119288601676 : True := trivial
theorem Mine.cw.tw12196176389731286687 : True := trivial
theorem Mine.cw.tw12205213936051623368 : True := trivial
theorem Mine.cw.tw12219693787094527316 : True := trivial
theorem Mine.cw.tw12226890797950352311 : True := trivial
theorem Mine.cw.tw12235438783284694707 : True := trivial
theorem Mine.cw.tw12239477600099815877 : True := trivial
theorem Mine.cw.tw12247264646126984923 : True := trivial
theorem Mine.cw.tw12292827367615619480 : True := trivial
theorem Mine.cw.tw12315186274624023813 : True := trivial
theorem Mine.cw.tw1234362014024236558 : True := trivial
theorem Mine.cw.tw12374713789029534532 : True := trivial
theorem Mine.cw.tw12377652847824706968 : True := trivial
theorem Mine.cw.tw12396489633257290764 : True := trivial
theorem Mine.cw.tw12429254968364836587 : True := trivial
theorem Mine.cw.tw12460997675799849042 : True := trivial
theorem Mine.cw.tw1247294326406277946 : True := trivial
theorem Mine.cw.tw12489783644897223078 : True := trivial
theorem Mine.cw.tw12494030651214390733 : True := trivial
theorem Mine.cw.tw1250944030267393709 : True := trivial
theorem Mine.cw.tw12510508821534056273 : True := trivial
theorem Mine.cw.tw12533130472308281958 : True := trivial
theorem Mine.cw.tw12547047035168592067 : True := trivial
theorem Mine.cw.tw12605311891778387269 : True := trivial
theorem Mine.cw.tw12656509176122445110 : True := trivial
theorem Mine.cw.tw12695038279699488485 : True := trivial
theorem Mine.cw.tw12752629074769642444 : True := trivial
theorem Mine.cw.tw1281953741650414767 : True := trivial
theorem Mine.cw.tw12827193033740727419 : True := trivial
theorem Mine.cw.tw12833462717075065425 : True := trivial
theorem Mine.cw.tw12865744871662332396 : True := trivial
theorem Mine.cw.tw12879298785024176671 : True := trivial
theorem Mine.cw.tw12882992620219109879 : True := trivial
theorem Mine.cw.tw12910548343235362723 : True := trivial
theorem Mine.cw.tw12924146987078507549 : True := trivial
theorem Mine.cw.tw1301324445596408646 : True := trivial
theorem Mine.cw.tw13038600260403951778 : True := trivial
theorem Mine.cw.tw13057780787085409677 : True := trivial
theorem Mine.cw.tw13093843657069115452 : True := trivial
theorem Mine.cw.tw13101704718675416334 : True := trivial
theorem Mine.cw.tw13102360093064833186 : True := trivial
theorem Mine.cw.tw13148802790596755050 : True := trivial
theorem Mine.cw.tw13272739832340760470 : True := trivial
theorem Mine.cw.tw13340903015336370818 : True := trivial
theorem Mine.cw.tw13342451505449514251 : True := trivial
theorem Mine.cw.tw13427813068156967423 : True := trivial
theorem Mine.cw.tw13438360705153437068 : True := trivial
theorem Mine.cw.tw13440761400709180564 : True := trivial
theorem Mine.cw.tw13442955401182535771 : True := trivial
theorem Mine.cw.tw13501799681924028450 : True := trivial
theorem Mine.cw.tw13509015979295805570 : True := trivial
theorem Mine.cw.tw13536430150218294711 : True := trivial
theorem Mine.cw.tw1360143582568944794 : True := trivial
theorem Mine.cw.tw13629830638318518070 : True := trivial
theorem Mine.cw.tw13630375179674840580 : True := trivial
theorem Mine.cw.tw13661436319821634661 : True := trivial
theorem Mine.cw.tw13666322014572074041 : True := trivial
theorem Mine.cw.tw13692198374645844119 : True := trivial
theorem Mine.cw.tw13718693542244978846 : True := trivial
theorem Mine.cw.tw13741576002769581795 : True := trivial
theorem Mine.cw.tw13747900882118374933 : True := trivial
theorem Mine.cw.tw13780061514556756106 : True := trivial
theorem Mine.cw.tw13787465097613081314 : True := trivial
theorem Mine.cw.tw13828229439554513783 : True := trivial
theorem Mine.cw.tw13875441437160936798 : True := trivial
theorem Mine.cw.tw13883313689258838075 : True := trivial
theorem Mine.cw.tw13974612087961636067 : True := trivial
theorem Mine.cw.tw13987649963944064819 : True := trivial
theorem Mine.cw.tw13999720771290489754 : True := trivial
theorem Mine.cw.tw1401924675934526888 : True := trivial
theorem Mine.cw.tw14099714809709095937 : True := trivial
theorem Mine.cw.tw14108251187009513098 : True := trivial
theorem Mine.cw.tw14164378308283954321 : True := trivial
theorem Mine.cw.tw14187503381994792775 : True := trivial
theorem Mine.cw.tw14240352255720746961 : True := trivial
theorem Mine.cw.tw14247632542644735915 : True := trivial
theorem Mine.cw.tw14249023299064298872 : True := trivial
theorem Mine.cw.tw14255671406697997116 : True := trivial
theorem Mine.cw.tw14289734765686230283 : True := trivial
theorem Mine.cw.tw1430634277976083635 : True := trivial
theorem Mine.cw.tw14309475899073295102 : True := trivial
theorem Mine.cw.tw14457793533385175785 : True := trivial
theorem Mine.cw.tw14480803216886224938 : True := trivial
theorem Mine.cw.tw14548968915000840582 : True := trivial
theorem Mine.cw.tw1456062399791767259 : True := trivial
theorem Mine.cw.tw14611389666579969553 : True := trivial
theorem Mine.cw.tw14636836700144649316 : True := trivial
theorem Mine.cw.tw1464551576981916655 : True := trivial
theorem Mine.cw.tw14660578482202924501 : True := trivial
theorem Mine.cw.tw14715191861724666174 : True := trivial
theorem Mine.cw.tw14719815322784957477 : True := trivial
theorem Mine.cw.tw14738603649851109533 : True := trivial
theorem Mine.cw.tw14754356441871074791 : True := trivial
theorem Mine.cw.tw14761310442516060954 : True := trivial
theorem Mine.cw.tw14768827524389985878 : True := trivial
theorem Mine.cw.tw14788520036634372961 : True := trivial
theorem Mine.cw.tw14815655621447405532 : True := trivial
theorem Mine.cw.tw14817175158349075480 : True := trivial
theorem Mine.cw.tw1482320130255755068 : True := trivial
theorem Mine.cw.tw14890220570659453997 : True := trivial
theorem Mine.cw.tw14927665701643404805 : True := trivial
theorem Mine.cw.tw14951641260305525846 : True := trivial
theorem Mine.cw.tw14984256209660822020 : True := trivial
theorem Mine.cw.tw14991488966729834569 : True := trivial
theorem Mine.cw.tw150055803531023912 : True := trivial
theorem Mine.cw.tw15005777498544049417 : True := trivial
theorem Mine.cw.tw15035397054470534092 : True := trivial
theorem Mine.cw.tw15049123542625464071 : True := trivial
theorem Mine.cw.tw15070021635275963550 : True := trivial
theorem Mine.cw.tw150718097304624728 : True := trivial
theorem Mine.cw.tw15097409641171182138 : True := trivial
theorem Mine.cw.tw15098035983816873264 : True := trivial
theorem Mine.cw.tw15111483031490467662 : True := trivial
theorem Mine.cw.tw15122623233819766813 : True := trivial
theorem Mine.cw.tw15169018772115783247 : True := trivial
theorem Mine.cw.tw15173685430485021829 : True := trivial
theorem Mine.cw.tw15174872595650598156 : True := trivial
theorem Mine.cw.tw1517534825565237395 : True := trivial
theorem Mine.cw.tw15187549380642300617 : True := trivial
theorem Mine.cw.tw152319972654231069 : True := trivial
theorem Mine.cw.tw15322188881520497878 : True := trivial
theorem Mine.cw.tw15375457237347083154 : True := trivial
theorem Mine.cw.tw15377519182399367661 : True := trivial
theorem Mine.cw.tw15404323421726800491 : True := trivial
theorem Mine.cw.tw15412016074611381620 : True := trivial
theorem Mine.cw.tw15416668915506235044 : True := trivial
theorem Mine.cw.tw15426301682104869479 : True := trivial
theorem Mine.cw.tw15510850327984767076 : True := trivial
theorem Mine.cw.tw15517905215004798913 : True := trivial
theorem Mine.cw.tw15553636788685488629 : True := trivial
theorem Mine.cw.tw15570454731259054930 : True := trivial
theorem Mine.cw.tw15618827073052187588 : True := trivial
theorem Mine.cw.tw15653090873756837908 : True := trivial
theorem Mine.cw.tw15738741339427707777 : True := trivial
theorem Mine.cw.tw15743879002966799871 : True := trivial
theorem Mine.cw.tw15744843120750414045 : True := trivial
theorem Mine.cw.tw15745328297381615532 : True := trivial
theorem Mine.cw.tw15758518333343051778 : True := trivial
theorem Mine.cw.tw15766245182211837231 : True := trivial
theorem Mine.cw.tw15773184277719825311 : True := trivial
theorem Mine.cw.tw15774067651256261318 : True := trivial
theorem Mine.cw.tw15779534605396823208 : True := trivial
theorem Mine.cw.tw15800916458890617462 : True := trivial
theorem Mine.cw.tw15814692508387174452 : True := trivial
theorem Mine.cw.tw1588020074795803128 : True := trivial
theorem Mine.cw.tw15905640710592828121 : True := trivial
theorem Mine.cw.tw15914432114400275016 : True := trivial
theorem Mine.cw.tw1595741176964478890 : True := trivial
theorem Mine.cw.tw15992819923508515479 : True := trivial
theorem Mine.cw.tw16028573636967759883 : True := trivial
theorem Mine.cw.tw16034630539431576811 : True := trivial
theorem Mine.cw.tw1606746431766886451 : True := trivial
theorem Mine.cw.tw16166972867334128794 : True := trivial
theorem Mine.cw.tw16198640964549459898 : True := trivial
theorem Mine.cw.tw16205799052464293466 : True := trivial
theorem Mine.cw.tw16225993790663994938 : True := trivial
theorem Mine.cw.tw16229377668062971087 : True := trivial
theorem Mine.cw.tw1623917768833970087 : True := trivial
theorem Mine.cw.tw16438877246773014368 : True := trivial
theorem Mine.cw.tw16480340450442353817 : True := trivial
theorem Mine.cw.tw16494870174620098323 : True := trivial
theorem Mine.cw.tw16516169966572636445 : True := trivial
theorem Mine.cw.tw16524248288006882283 : True := trivial
theorem Mine.cw.tw16529872585032380816 : True := trivial
theorem Mine.cw.tw16542500904821523501 : True := trivial
theorem Mine.cw.tw16562265817019663090 : True := trivial
theorem Mine.cw.tw16693563322189900785 : True := trivial
theorem Mine.cw.tw16731437187866489228 : True := trivial
theorem Mine.cw.tw16759438911624739596 : True := trivial
theorem Mine.cw.tw16824190548350425898 : True := trivial
theorem Mine.cw.tw16854029533801285256 : True := trivial
theorem Mine.cw.tw16880979030118593267 : True := trivial
theorem Mine.cw.tw16910040204873882888 : True := trivial
theorem Mine.cw.tw16910378091028242844 : True := trivial
theorem Mine.cw.tw16916544961682249480 : True := trivial
theorem Mine.cw.tw16919006624917379114 : True := trivial
theorem Mine.cw.tw1697061266390279475 : True := trivial
theorem Mine.cw.tw17003003066774387978 : True := trivial
theorem Mine.cw.tw17028191164412650563 : True := trivial
theorem Mine.cw.tw17037806672598591638 : True := trivial
theorem Mine.cw.tw17072542657360313598 : True := trivial
theorem Mine.cw.tw17085326466948407615 : True := trivial
theorem Mine.cw.tw17089891964379074565 : True := trivial
theorem Mine.cw.tw17169840104539312714 : True := trivial
theorem Mine.cw.tw17262130787101969492 : True := trivial
theorem Mine.cw.tw17287780663196938410 : True := trivial
theorem Mine.cw.tw17308003122589828955 : True := trivial
theorem Mine.cw.tw17308626142430746681 : True := trivial
theorem Mine.cw.tw1732343715881608574 : True := trivial
theorem Mine.cw.tw17387281983583371026 : True := trivial
theorem Mine.cw.tw17395816810168964604 : True := trivial
theorem Mine.cw.tw17402413601860119781 : True := trivial
theorem Mine.cw.tw1741316790125937810 : True := trivial
theorem Mine.cw.tw17432152182680101307 : True := trivial
theorem Mine.cw.tw17491939209671086633 : True := trivial
theorem Mine.cw.tw1753351074557523059 : True := trivial
theorem Mine.cw.tw17544317311361296971 : True := trivial
theorem Mine.cw.tw17563542283209619210 : True := trivial
theorem Mine.cw.tw17589651760236113906 : True := trivial
theorem Mine.cw.tw1760405048886711807 : True := trivial
theorem Mine.cw.tw1760614732078070354 : True := trivial
theorem Mine.cw.tw1762239749680118177 : True := trivial
theorem Mine.cw.tw17643807563322946168 : True := trivial
theorem Mine.cw.tw17685422501944348411 : True := trivial
theorem Mine.cw.tw17729162322777953753 : True := trivial
theorem Mine.cw.tw17783643503532799026 : True := trivial
theorem Mine.cw.tw17788867100912671519 : True := trivial
theorem Mine.cw.tw17829679978796797323 : True := trivial
theorem Mine.cw.tw17874169657292035396 : True := trivial
theorem Mine.cw.tw17925611632361815322 : True := trivial
theorem Mine.cw.tw17931522994474728786 : True := trivial
theorem Mine.cw.tw17939338341665994675 : True := trivial
theorem Mine.cw.tw17959302153949644806 : True := trivial
theorem Mine.cw.tw18029111101760993870 : True := trivial
theorem Mine.cw.tw18113133813953604959 : True := trivial
theorem Mine.cw.tw18117922410737045533 : True := trivial
theorem Mine.cw.tw18123910505689591576 : True := trivial
theorem Mine.cw.tw18130194285338661485 : True := trivial
theorem Mine.cw.tw18136070617529289488 : True := trivial
theorem Mine.cw.tw18153323675266707290 : True := trivial
theorem Mine.cw.tw18160478938398004615 : True := trivial
theorem Mine.cw.tw18198759255475650804 : True := trivial
theorem Mine.cw.tw18217934734175812899 : True := trivial
theorem Mine.cw.tw18239514141244953237 : True := trivial
theorem Mine.cw.tw18247741514283856448 : True := trivial
theorem Mine.cw.tw1827873298639845806 : True := trivial
theorem Mine.cw.tw1829379434580166836 : True := trivial
theorem Mine.cw.tw18335864770729216273 : True := trivial
theorem Mine.cw.tw18345840644815652343 : True := trivial
theorem Mine.cw.tw18369400146589056343 : True := trivial
theorem Mine.cw.tw18424564655652043411 : True := trivial
theorem Mine.cw.tw1855280148956710301 : True := trivial
theorem Mine.cw.tw1866788658771475695 : True := trivial
theorem Mine.cw.tw1885465077312491902 : True := trivial
theorem Mine.cw.tw1892659091262756355 : True := trivial
theorem Mine.cw.tw1899915677272061241 : True := trivial
theorem Mine.cw.tw1917101114534506941 : True := trivial
theorem Mine.cw.tw1976542675867556708 : True := trivial
theorem Mine.cw.tw2011584700593955137 : True := trivial
theorem Mine.cw.tw2031960088512844715 : True := trivial
theorem Mine.cw.tw2034847326169890389 : True := trivial
theorem Mine.cw.tw2041038859986201105 : True := trivial
theorem Mine.cw.tw204122680514587844 : True := trivial
theorem Mine.cw.tw206839277710335438 : True := trivial
theorem Mine.cw.tw207604500973351841 : True := trivial
theorem Mine.cw.tw2088735340262782289 : True := trivial
theorem Mine.cw.tw2119496383272873293 : True := trivial
theorem Mine.cw.tw2130900402888968524 : True := trivial
theorem Mine.cw.tw2132152794768352424 : True := trivial
theorem Mine.cw.tw2139275235861925300 : True := trivial
theorem Mine.cw.tw214405211444757829 : True := trivial
theorem Mine.cw.tw2170339112981439272 : True := trivial
theorem Mine.cw.tw2245319242301140743 : True := trivial
theorem Mine.cw.tw2296967259863546239 : True := trivial
theorem Mine.cw.tw2302005364966875507 : True := trivial
theorem Mine.cw.tw2334785105579268044 : True := trivial
theorem Mine.cw.tw2337283122182458881 : True := trivial
theorem Mine.cw.tw2357993714691321559 : True := trivial
theorem Mine.cw.tw2395028089782186332 : True := trivial
theorem Mine.cw.tw2424036609782971184 : True := trivial
theorem Mine.cw.tw2465683781820608157 : True := trivial
theorem Mine.cw.tw2492944627912260907 : True := trivial
theorem Mine.cw.tw2536484440049877633 : True := trivial
theorem Mine.cw.tw2546800512522163093 : True := trivial
theorem Mine.cw.tw255326854664200784 : True := trivial
theorem Mine.cw.tw2559185497009035100 : True := trivial
theorem Mine.cw.tw2582236779478434216 : True := trivial
theorem Mine.cw.tw2632174618804633513 : True := trivial
theorem Mine.cw.tw2636425540172471175 : True := trivial
theorem Mine.cw.tw2642582262576168789 : True := trivial
theorem Mine.cw.tw2671540668112184309 : True := trivial
theorem Mine.cw.tw2682826301049954548 : True := trivial
theorem Mine.cw.tw2822634382750766397 : True := trivial
theorem Mine.cw.tw2823607854020130885 : True := trivial
theorem Mine.cw.tw2838531912927464924 : True := trivial
theorem Mine.cw.tw2843113680988522234 : True := trivial
theorem Mine.cw.tw2847033070647288395 : True := trivial
theorem Mine.cw.tw2889034122823521674 : True := trivial
theorem Mine.cw.tw2912337862129523016 : True := trivial
theorem Mine.cw.tw2925586764646853542 : True := trivial
theorem Mine.cw.tw2989821918546127270 : True := trivial
theorem Mine.cw.tw2998348815218018863 : True := trivial
theorem Mine.cw.tw3012745541560393602 : True := trivial
theorem Mine.cw.tw3022869472097559339 : True := trivial
theorem Mine.cw.tw3023204895809439811 : True := trivial
theorem Mine.cw.tw3048211388526592803 : True := trivial
theorem Mine.cw.tw3050485629901723413 : True := trivial
theorem Mine.cw.tw308970408450293369 : True := trivial
theorem Mine.cw.tw3094094522940069652 : True := trivial
theorem Mine.cw.tw3097201625896000712 : True := trivial
theorem Mine.cw.tw3098844795081510440 : True := trivial
theorem Mine.cw.tw3100444119966152113 : True := trivial
theorem Mine.cw.tw3125641243754351071 : True := trivial
theorem Mine.cw.tw3129355525941028504 : True := trivial
theorem Mine.cw.tw3162884323796798324 : True := trivial
theorem Mine.cw.tw3168819232203767724 : True := trivial
theorem Mine.cw.tw3219064901496800493 : True := trivial
theorem Mine.cw.tw3274165426250351427 : True := trivial
theorem Mine.cw.tw3282836750741380540 : True := trivial
theorem Mine.cw.tw3290505682397001416 : True := trivial
theorem Mine.cw.tw3319371217981442370 : True := trivial
theorem Mine.cw.tw3358073120794002988 : True := trivial
theorem Mine.cw.tw3361030825825666459 : True := trivial
theorem Mine.cw.tw3363377985580790232 : True := trivial
theorem Mine.cw.tw3375556859353004718 : True := trivial
theorem Mine.cw.tw3408429918949976814 : True := trivial
theorem Mine.cw.tw3459936446253236937 : True := trivial
theorem Mine.cw.tw3560595304242491492 : True := trivial
theorem Mine.cw.tw3567684831946770877 : True := trivial
theorem Mine.cw.tw3575919509052005590 : True := trivial
theorem Mine.cw.tw3601989285102703135 : True := trivial
theorem Mine.cw.tw3604256219676143697 : True := trivial
theorem Mine.cw.tw3604583642412339696 : True := trivial
theorem Mine.cw.tw3614702511577044390 : True := trivial
theorem Mine.cw.tw3624737107950993997 : True := trivial
theorem Mine.cw.tw3664836258679660992 : True := trivial
theorem Mine.cw.tw3681731177612470467 : True := trivial
theorem Mine.cw.tw3743406837098934752 : True := trivial
theorem Mine.cw.tw3747282893534524912 : True := trivial
theorem Mine.cw.tw3759897997930648735 : True := trivial
theorem Mine.cw.tw3764488511098954792 : True := trivial
theorem Mine.cw.tw3773175275827832469 : True := trivial
theorem Mine.cw.tw3785339926599640127 : True := trivial
theorem Mine.cw.tw3824044862066366044 : True := trivial
theorem Mine.cw.tw3829546311948938476 : True := trivial
theorem Mine.cw.tw3842579390982565735 : True := trivial
theorem Mine.cw.tw3857961920327188869 : True := trivial
theorem Mine.cw.tw3860059829726791206 : True := trivial
theorem Mine.cw.tw3884597697412560326 : True := trivial
theorem Mine.cw.tw3935473582681719712 : True := trivial
theorem Mine.cw.tw3943993154990397314 : True := trivial
theorem Mine.cw.tw3962496541271946108 : True := trivial
theorem Mine.cw.tw3968715040575513520 : True := trivial
theorem Mine.cw.tw4010169821234746089 : True := trivial
theorem Mine.cw.tw4091334601905724262 : True := trivial
theorem Mine.cw.tw4114331005866857182 : True := trivial
theorem Mine.cw.tw4175879605228117226 : True := trivial
theorem Mine.cw.tw4196440405857626574 : True := trivial
theorem Mine.cw.tw4319754535968967086 : True := trivial
theorem Mine.cw.tw4357126401250407683 : True := trivial
theorem Mine.cw.tw435978806095774757 : True := trivial
theorem Mine.cw.tw4374204336619362338 : True := trivial
theorem Mine.cw.tw4419025850130639362 : True := trivial
theorem Mine.cw.tw4432251587439159602 : True := trivial
theorem Mine.cw.tw4454246131209077272 : True := trivial
theorem Mine.cw.tw4472246148228185358 : True := trivial
theorem Mine.cw.tw4522350981867604841 : True := trivial
theorem Mine.cw.tw4552068037823324109 : True := trivial
theorem Mine.cw.tw4583722826841369634 : True := trivial
theorem Mine.cw.tw4615577321663172228 : True := trivial
theorem Mine.cw.tw4652533487383075113 : True := trivial
theorem Mine.cw.tw4657666084184085436 : True := trivial
theorem Mine.cw.tw467695272164249527 : True := trivial
theorem Mine.cw.tw4678228505909690418 : True := trivial
theorem Mine.cw.tw4743089586618979064 : True := trivial
theorem Mine.cw.tw4745555834983666509 : True := trivial
theorem Mine.cw.tw4754219302356205853 : True := trivial
theorem Mine.cw.tw4769817257947663983 : True := trivial
theorem Mine.cw.tw4857827882118868083 : True := trivial
theorem Mine.cw.tw4862834609895987369 : True := trivial
theorem Mine.cw.tw4921557877388104165 : True := trivial
theorem Mine.cw.tw4951841280732597803 : True := trivial
theorem Mine.cw.tw4997054509317957469 : True := trivial
theorem Mine.cw.tw5000132874964926114 : True := trivial
theorem Mine.cw.tw5010585969020163057 : True := trivial
theorem Mine.cw.tw5078974935161899914 : True := trivial
theorem Mine.cw.tw5102712792281642592 : True := trivial
theorem Mine.cw.tw5122744651824193062 : True := trivial
theorem Mine.cw.tw5126374337397710086 : True := trivial
theorem Mine.cw.tw5164600623723704576 : True := trivial
theorem Mine.cw.tw5238595789594773175 : True := trivial
theorem Mine.cw.tw5245493218853190803 : True := trivial
theorem Mine.cw.tw5265537290224106599 : True := trivial
theorem Mine.cw.tw5318995997084724827 : True := trivial
theorem Mine.cw.tw5344891932697001038 : True := trivial
theorem Mine.cw.tw5395661240462712053 : True := trivial
theorem Mine.cw.tw540817070640439332 : True := trivial
theorem Mine.cw.tw541702200365555811 : True := trivial
theorem Mine.cw.tw5419939564410364359 : True := trivial
theorem Mine.cw.tw5425302946016262186 : True := trivial
theorem Mine.cw.tw5432464314292252184 : True := trivial
theorem Mine.cw.tw5446289514955409386 : True := trivial
theorem Mine.cw.tw5489825421649296718 : True := trivial
theorem Mine.cw.tw5526725617500490228 : True := trivial
theorem Mine.cw.tw5533563351402687931 : True := trivial
theorem Mine.cw.tw5565731333999854562 : True := trivial
theorem Mine.cw.tw5610338685648125367 : True := trivial
theorem Mine.cw.tw5620361189370994193 : True := trivial
theorem Mine.cw.tw5634961056595871360 : True := trivial
theorem Mine.cw.tw563626396076323218 : True := trivial
theorem Mine.cw.tw5680903237747551189 : True := trivial
theorem Mine.cw.tw5689436012916003494 : True := trivial
theorem Mine.cw.tw57629765691920338 : True := trivial
theorem Mine.cw.tw5790161404388931817 : True := trivial
theorem Mine.cw.tw5824335537622360646 : True := trivial
theorem Mine.cw.tw5854004994505877476 : True := trivial
theorem Mine.cw.tw5873590440581843887 : True := trivial
theorem Mine.cw.tw592391478962012388 : True := trivial
theorem Mine.cw.tw5960540646505071985 : True := trivial
theorem Mine.cw.tw5975198326110587854 : True := trivial
theorem Mine.cw.tw5988954627068436710 : True := trivial
theorem Mine.cw.tw6018009600850819237 : True := trivial
theorem Mine.cw.tw602248898015639982 : True := trivial
theorem Mine.cw.tw6037621541623016170 : True := trivial
theorem Mine.cw.tw606616763052236337 : True := trivial
theorem Mine.cw.tw6121131925498076511 : True := trivial
theorem Mine.cw.tw6164836077763293698 : True := trivial
theorem Mine.cw.tw6239651752356071617 : True := trivial
theorem Mine.cw.tw6257782418639487168 : True := trivial
theorem Mine.cw.tw6262413360026281431 : True := trivial
theorem Mine.cw.tw6264319909386046901 : True := trivial
theorem Mine.cw.tw629685121580659136 : True := trivial
theorem Mine.cw.tw6403810052837582342 : True := trivial
theorem Mine.cw.tw645041115563505924 : True := trivial
theorem Mine.cw.tw64915050140990794 : True := trivial
theorem Mine.cw.tw6509595646419245858 : True := trivial
theorem Mine.cw.tw6518825268287776730 : True := trivial
theorem Mine.cw.tw656122719597194337 : True := trivial
theorem Mine.cw.tw6565294887129739502 : True := trivial
theorem Mine.cw.tw6609210492850183328 : True := trivial
theorem Mine.cw.tw6619987024997979267 : True := trivial
theorem Mine.cw.tw6625854827542380767 : True := trivial
theorem Mine.cw.tw6649243955452880809 : True := trivial
theorem Mine.cw.tw6665526052566930915 : True := trivial
theorem Mine.cw.tw6669705861437036512 : True := trivial
theorem Mine.cw.tw6681799486195250467 : True := trivial
theorem Mine.cw.tw6700036812594121839 : True := trivial
theorem Mine.cw.tw6725520587722359557 : True := trivial
theorem Mine.cw.tw6737585914892897284 : True := trivial
theorem Mine.cw.tw6799932458496700201 : True := trivial
theorem Mine.cw.tw6847272019824127103 : True := trivial
theorem Mine.cw.tw685565013211629092 : True := trivial
theorem Mine.cw.tw68855574625089363 : True := trivial
theorem Mine.cw.tw6886439723238321529 : True := trivial
theorem Mine.cw.tw688925792662039923 : True := trivial
theorem Mine.cw.tw6910738804539150289 : True := trivial
theorem Mine.cw.tw6916408754081214177 : True := trivial
theorem Mine.cw.tw6925770212547226674 : True := trivial
theorem Mine.cw.tw6935217054050036353 : True := trivial
theorem Mine.cw.tw6946250092498860507 : True := trivial
theorem Mine.cw.tw7020911041878803799 : True := trivial
theorem Mine.cw.tw7033710665421526353 : True := trivial
theorem Mine.cw.tw7040901795538896096 : True := trivial
theorem Mine.cw.tw7069858871986738619 : True := trivial
theorem Mine.cw.tw7088457872291430868 : True := trivial
theorem Mine.cw.tw7089592570360907263 : True := trivial
theorem Mine.cw.tw7113702100917004092 : True := trivial
theorem Mine.cw.tw7138865461323901148 : True := trivial
theorem Mine.cw.tw7167882463906249088 : True := trivial
theorem Mine.cw.tw7201222511497468304 : True := trivial
theorem Mine.cw.tw7209464811757235864 : True := trivial
theorem Mine.cw.tw7265125150382499793 : True := trivial
theorem Mine.cw.tw7333113482920346693 : True := trivial
theorem Mine.cw.tw7361954070945319235 : True := trivial
theorem Mine.cw.tw7384157455045015651 : True := trivial
theorem Mine.cw.tw7417615246134051412 : True := trivial
theorem Mine.cw.tw7418429272371245016 : True := trivial
theorem Mine.cw.tw7451870913470307869 : True := trivial
theorem Mine.cw.tw7453595262283321307 : True := trivial
theorem Mine.cw.tw7456562622790031247 : True := trivial
theorem Mine.cw.tw7480340738090943974 : True := trivial
theorem Mine.cw.tw7503299195609683997 : True := trivial
theorem Mine.cw.tw7514944324457989047 : True := trivial
theorem Mine.cw.tw7520782095223799989 : True := trivial
theorem Mine.cw.tw753608021404404846 : True := trivial
theorem Mine.cw.tw7592274207237101366 : True := trivial
theorem Mine.cw.tw7633380312702834356 : True := trivial
theorem Mine.cw.tw7651481391777032084 : True := trivial
theorem Mine.cw.tw7657905660152132556 : True := trivial
theorem Mine.cw.tw7672747066635131694 : True := trivial
theorem Mine.cw.tw7674018889070341683 : True := trivial
theorem Mine.cw.tw7694458995988760690 : True := trivial
theorem Mine.cw.tw7716138712649031654 : True := trivial
theorem Mine.cw.tw7778562511825277745 : True := trivial
theorem Mine.cw.tw7780712772906032233 : True := trivial
theorem Mine.cw.tw7800144678589849697 : True := trivial
theorem Mine.cw.tw7801989880083365681 : True := trivial
theorem Mine.cw.tw7811810987205046004 : True := trivial
theorem Mine.cw.tw7894522602903069913 : True := trivial
theorem Mine.cw.tw7901897950027863761 : True := trivial
theorem Mine.cw.tw8042496257394154199 : True := trivial
theorem Mine.cw.tw8048641291553349087 : True := trivial
theorem Mine.cw.tw805211334105056691 : True := trivial
theorem Mine.cw.tw8098402475368697700 : True := trivial
theorem Mine.cw.tw8108114381917806831 : True := trivial
theorem Mine.cw.tw8176753466678742014 : True := trivial
theorem Mine.cw.tw8209079187462578595 : True := trivial
theorem Mine.cw.tw82334272504649403 : True := trivial
theorem Mine.cw.tw8235274700520875756 : True := trivial
theorem Mine.cw.tw8265391832754436437 : True := trivial
theorem Mine.cw.tw8303337484601495593 : True := trivial
theorem Mine.cw.tw8345513525968639117 : True := trivial
theorem Mine.cw.tw8384396914480435558 : True := trivial
theorem Mine.cw.tw8384915272945194035 : True := trivial
theorem Mine.cw.tw8404369427983028792 : True := trivial
theorem Mine.cw.tw8415975840473770697 : True := trivial
theorem Mine.cw.tw8423783694632617175 : True := trivial
theorem Mine.cw.tw8449473995245419038 : True := trivial
theorem Mine.cw.tw8455966481309877803 : True := trivial
theorem Mine.cw.tw8461371759979112762 : True := trivial
theorem Mine.cw.tw8476984087586887884 : True := trivial
theorem Mine.cw.tw8538403806035920175 : True := trivial
theorem Mine.cw.tw8610043518512438269 : True := trivial
theorem Mine.cw.tw8646514453607415508 : True := trivial
theorem Mine.cw.tw8654890065351889988 : True := trivial
theorem Mine.cw.tw8681520704858018953 : True := trivial
theorem Mine.cw.tw8783479855012286435 : True := trivial
theorem Mine.cw.tw8839621922277447861 : True := trivial
theorem Mine.cw.tw8850999377205314685 : True := trivial
theorem Mine.cw.tw886166690863328485 : True := trivial
theorem Mine.cw.tw8882174364445781296 : True := trivial
theorem Mine.cw.tw8885620920914733995 : True := trivial
theorem Mine.cw.tw8886525709245039632 : True := trivial
theorem Mine.cw.tw896557624632439181 : True := trivial
theorem Mine.cw.tw8967970181776037616 : True := trivial
theorem Mine.cw.tw8982647976793043411 : True := trivial
theorem Mine.cw.tw8997325402272200545 : True := trivial
theorem Mine.cw.tw9003574075524017939 : True := trivial
theorem Mine.cw.tw9036864618746112827 : True := trivial
theorem Mine.cw.tw904687230028414966 : True := trivial
theorem Mine.cw.tw9062283904529213376 : True := trivial
theorem Mine.cw.tw9089546751780752331 : True := trivial
theorem Mine.cw.tw9122601410144511000 : True := trivial
theorem Mine.cw.tw9174292313716971547 : True := trivial
theorem Mine.cw.tw9185669988235138405 : True := trivial
theorem Mine.cw.tw9214817609474835982 : True := trivial
theorem Mine.cw.tw9222738055213301723 : True := trivial
theorem Mine.cw.tw9231667054898550447 : True := trivial
theorem Mine.cw.tw9262325061618202332 : True := trivial
theorem Mine.cw.tw9418208980753856983 : True := trivial
theorem Mine.cw.tw9459749993489986317 : True := trivial
theorem Mine.cw.tw9484423932939390980 : True := trivial
theorem Mine.cw.tw9574553611694136491 : True := trivial
theorem Mine.cw.tw9612987946877250895 : True := trivial
theorem Mine.cw.tw9617309004535926234 : True := trivial
theorem Mine.cw.tw9677564834816186800 : True := trivial
theorem Mine.cw.tw9680639695262415995 : True := trivial
theorem Mine.cw.tw9688325189225346270 : True := trivial
theorem Mine.cw.tw9702267900656169311 : True := trivial
theorem Mine.cw.tw9713538816024611350 : True := trivial
theorem Mine.cw.tw9727492190780517967 : True := trivial
theorem Mine.cw.tw9752024301308814762 : True := trivial
theorem Mine.cw.tw9819567901576955970 : True := trivial
theorem Mine.cw.tw9834586408147574216 : True := trivial
theorem Mine.cw.tw9852409169342779629 : True := trivial
theorem Mine.cw.tw9892621777444792103 : True := trivial
theorem Mine.cw.tw9919525273966334950 : True := trivial
theorem Mine.cw.tw9926899359172749013 : True := trivial
theorem Mine.cw : PySem.Challenge.rw_ok0170_01.Holds := by
  w_on
  o_law
  k_head
  case hw => w_witness2
  k_go0
  rename Frag.In _ _ => KX
  rename Top _ _ _ _ _ _ => T
  rename IntsAre _ _ => hI
  rename Heap.IsList _ _ _ => hL
  rename Well _ _ _ _ => w1
  rename Fr _ _ _ _ => FF
  rename ¬ (_ < _) => hlen
  rename _ = #[] => hg
  have d0 := Mine.dI KX 0 74 [(64, 261)] 2 (by kernel_rfl) (by kernel_rfl) (fun v0 v1 S => by kernel_rfl) (.inr ⟨1, rfl, fun v0 S => by kernel_rfl⟩)
  have d1 := Mine.dI KX 1 81 [] 2 (by kernel_rfl) (by kernel_rfl) (fun v0 v1 S => by kernel_rfl) (.inl rfl)
  have d2 := Mine.dI KX 2 116 [] 1 (by kernel_rfl) (by kernel_rfl) (fun v0 S => by kernel_rfl) (.inl rfl)
  have d3 := Mine.dI KX 3 123 [] 1 (by kernel_rfl) (by kernel_rfl) (fun v0 S => by kernel_rfl) (.inl rfl)
  have d4 := Mine.dI KX 4 130 [] 1 (by kernel_rfl) (by kernel_rfl) (fun v0 S => by kernel_rfl) (.inl rfl)
  have d5 := Mine.dI KX 5 137 [] 1 (by kernel_rfl) (by kernel_rfl) (fun v0 S => by kernel_rfl) (.inl rfl)
  have d6 := Mine.dI KX 6 144 [] 1 (by kernel_rfl) (by kernel_rfl) (fun v0 S => by kernel_rfl) (.inl rfl)
  have d7 := Mine.dI KX 7 151 [] 1 (by kernel_rfl) (by kernel_rfl) (fun v0 S => by kernel_rfl) (.inl rfl)
  have d8 := Mine.dI KX 8 158 [] 1 (by kernel_rfl) (by kernel_rfl) (fun v0 S => by kernel_rfl) (.inl rfl)
  have d9 := Mine.dI KX 9 165 [] 1 (by kernel_rfl) (by kernel_rfl) (fun v0 S => by kernel_rfl) (.inl rfl)
  have d10 := Mine.dI KX 10 172 [] 1 (by kernel_rfl) (by kernel_rfl) (fun v0 S => by kernel_rfl) (.inl rfl)
  have d11 := Mine.dI KX 11 179 [] 2 (by kernel_rfl) (by kernel_rfl) (fun v0 v1 S => by kernel_rfl) (.inl rfl)
  have d12 := Mine.dI KX 12 186 [] 2 (by kernel_rfl) (by kernel_rfl) (fun v0 v1 S => by kernel_rfl) (.inl rfl)
  have d13 := Mine.dI KX 13 193 [] 2 (by kernel_rfl) (by kernel_rfl) (fun v0 v1 S => by kernel_rfl) (.inl rfl)
  have d14 := Mine.dI KX 14 200 [] 1 (by kernel_rfl) (by kernel_rfl) (fun v0 S => by kernel_rfl) (.inl rfl)
  have d15 := Mine.dI KX 15 207 [] 1 (by kernel_rfl) (by kernel_rfl) (fun v0 S => by kernel_rfl) (.inl rfl)
  have d16 := Mine.dI KX 16 243 [] 1 (by kernel_rfl) (by kernel_rfl) (fun v0 S => by kernel_rfl) (.inl rfl)
  have d17 := Mine.dI KX 17 250 [] 1 (by kernel_rfl) (by kernel_rfl) (fun v0 S => by kernel_rfl) (.inl rfl)
  have d18 := Mine.dI KX 18 257 [] 1 (by kernel_rfl) (by kernel_rfl) (fun v0 S => by kernel_rfl) (.inl rfl)
  have d19 := Mine.dI KX 19 264 [] 1 (by kernel_rfl) (by kernel_rfl) (fun v0 S => by kernel_rfl) (.inl rfl)
  have d20 := Mine.dI KX 20 271 [] 1 (by kernel_rfl) (by kernel_rfl) (fun v0 S => by kernel_rfl) (.inl rfl)
  have d21 := Mine.dI KX 21 278 [] 2 (by kernel_rfl) (by kernel_rfl) (fun v0 v1 S => by kernel_rfl) (.inl rfl)
  have d22 := Mine.dI KX 22 285 [] 2 (by kernel_rfl) (by kernel_rfl) (fun v0 v1 S => by kernel_rfl) (.inl rfl)
  have d23 := Mine.dI KX 23 292 [] 2 (by kernel_rfl) (by kernel_rfl) (fun v0 v1 S => by kernel_rfl) (.inl rfl)
  have d24 := Mine.dI KX 24 299 [] 1 (by kernel_rfl) (by kernel_rfl) (fun v0 S => by kernel_rfl) (.inl rfl)
  have d25 := Mine.dI KX 25 307 [(64, 626)] 4 (by kernel_rfl) (by kernel_rfl) (fun v0 v1 v2 v3 S => by kernel_rfl) (.inr ⟨3, rfl, fun v0 v1 v2 S => by kernel_rfl⟩)
  have d26 := Mine.dI KX 26 315 [(64, 637)] 4 (by kernel_rfl) (by kernel_rfl) (fun v0 v1 v2 v3 S => by kernel_rfl) (.inr ⟨3, rfl, fun v0 v1 v2 S => by kernel_rfl⟩)
  have d27 := Mine.dI KX 27 323 [(64, 648)] 2 (by kernel_rfl) (by kernel_rfl) (fun v0 v1 S => by kernel_rfl) (.inr ⟨1, rfl, fun v0 S => by kernel_rfl⟩)
  have d28 := Mine.dI KX 28 330 [] 3 (by kernel_rfl) (by kernel_rfl) (fun v0 v1 v2 S => by kernel_rfl) (.inl rfl)
  have d29 := Mine.dI KX 29 337 [] 1 (by kernel_rfl) (by kernel_rfl) (fun v0 S => by kernel_rfl) (.inl rfl)
  have d30 := Mine.dI KX 30 344 [] 1 (by kernel_rfl) (by kernel_rfl) (fun v0 S => by kernel_rfl) (.inl rfl)
  have d31 := Mine.dI KX 31 352 [(64, 680)] 5 (by kernel_rfl) (by kernel_rfl) (fun v0 v1 v2 v3 v4 S => by kernel_rfl) (.inr ⟨4, rfl, fun v0 v1 v2 v3 S => by kernel_rfl⟩)
  have d32 := Mine.dI KX 32 360 [(64, 692)] 5 (by kernel_rfl) (by kernel_rfl) (fun v0 v1 v2 v3 v4 S => by kernel_rfl) (.inr ⟨4, rfl, fun v0 v1 v2 v3 S => by kernel_rfl⟩)
  have d33 := Mine.dI KX 33 367 [] 4 (by kernel_rfl) (by kernel_rfl) (fun v0 v1 v2 v3 S => by kernel_rfl) (.inl rfl)
  have d34 := Mine.dI KX 34 374 [] 4 (by kernel_rfl) (by kernel_rfl) (fun v0 v1 v2 v3 S => by kernel_rfl) (.inl rfl)
  have d35 := Mine.dI KX 35 381 [] 0 (by kernel_rfl) (by kernel_rfl) (fun S => by kernel_rfl) (.inl rfl)
  have d36 := Mine.dI KX 36 410 [] 1 (by kernel_rfl) (by kernel_rfl) (fun v0 S => by kernel_rfl) (.inl rfl)
  have d37 := Mine.dI KX 37 417 [] 1 (by kernel_rfl) (by kernel_rfl) (fun v0 S => by kernel_rfl) (.inl rfl)
  have d38 := Mine.dI KX 38 424 [] 1 (by kernel_rfl) (by kernel_rfl) (fun v0 S => by kernel_rfl) (.inl rfl)
  have d39 := Mine.dI KX 39 431 [] 1 (by kernel_rfl) (by kernel_rfl) (fun v0 S => by kernel_rfl) (.inl rfl)
  have d40 := Mine.dI KX 40 438 [] 1 (by kernel_rfl) (by kernel_rfl) (fun v0 S => by kernel_rfl) (.inl rfl)
  have d41 := Mine.dI KX 41 445 [] 1 (by kernel_rfl) (by kernel_rfl) (fun v0 S => by kernel_rfl) (.inl rfl)
  have d42 := Mine.dI KX 42 452 [] 1 (by kernel_rfl) (by kernel_rfl) (fun v0 S => by kernel_rfl) (.inl rfl)
  have d43 := Mine.dI KX 43 459 [] 2 (by kernel_rfl) (by kernel_rfl) (fun v0 v1 S => by kernel_rfl) (.inl rfl)
  have d44 := Mine.dI KX 44 466 [] 1 (by kernel_rfl) (by kernel_rfl) (fun v0 S => by kernel_rfl) (.inl rfl)
  have d45 := Mine.dI KX 45 473 [] 1 (by kernel_rfl) (by kernel_rfl) (fun v0 S => by kernel_rfl) (.inl rfl)
  have d46 := Mine.dI KX 46 480 [] 2 (by kernel_rfl) (by kernel_rfl) (fun v0 v1 S => by kernel_rfl) (.inl rfl)
  have d47 := Mine.dI KX 47 487 [] 0 (by kernel_rfl) (by kernel_rfl) (fun S => by kernel_rfl) (.inl rfl)
  have d48 := Mine.dI KX 48 494 [] 1 (by kernel_rfl) (by kernel_rfl) (fun v0 S => by kernel_rfl) (.inl rfl)
  have d49 := Mine.dI KX 49 501 [] 2 (by kernel_rfl) (by kernel_rfl) (fun v0 v1 S => by kernel_rfl) (.inl rfl)
  have d50 := Mine.dI KX 50 508 [] 3 (by kernel_rfl) (by kernel_rfl) (fun v0 v1 v2 S => by kernel_rfl) (.inl rfl)
  have d51 := Mine.dI KX 51 515 [] 3 (by kernel_rfl) (by kernel_rfl) (fun v0 v1 v2 S => by kernel_rfl) (.inl rfl)
  have d52 := Mine.dI KX 52 522 [] 1 (by kernel_rfl) (by kernel_rfl) (fun v0 S => by kernel_rfl) (.inl rfl)
  have d53 := Mine.dI KX 53 529 [] 1 (by kernel_rfl) (by kernel_rfl) (fun v0 S => by kernel_rfl) (.inl rfl)
  have d54 := Mine.dI KX 54 536 [] 2 (by kernel_rfl) (by kernel_rfl) (fun v0 v1 S => by kernel_rfl) (.inl rfl)
  have d55 := Mine.dI KX 55 543 [] 1 (by kernel_rfl) (by kernel_rfl) (fun v0 S => by kernel_rfl) (.inl rfl)
  have d56 := Mine.dI KX 56 550 [] 3 (by kernel_rfl) (by kernel_rfl) (fun v0 v1 v2 S => by kernel_rfl) (.inl rfl)
  have d57 := Mine.dI KX 57 557 [] 1 (by kernel_rfl) (by kernel_rfl) (fun v0 S => by kernel_rfl) (.inl rfl)
  have d58 := Mine.dI KX 58 564 [] 2 (by kernel_rfl) (by kernel_rfl) (fun v0 v1 S => by kernel_rfl) (.inl rfl)
  have d59 := Mine.dI KX 59 571 [] 1 (by kernel_rfl) (by kernel_rfl) (fun v0 S => by kernel_rfl) (.inl rfl)
  have d60 := Mine.dI KX 60 578 [] 1 (by kernel_rfl) (by kernel_rfl) (fun v0 S => by kernel_rfl) (.inl rfl)
  have d61 := Mine.dI KX 61 585 [] 2 (by kernel_rfl) (by kernel_rfl) (fun v0 v1 S => by kernel_rfl) (.inl rfl)
  have d62 := Mine.dI KX 62 592 [] 0 (by kernel_rfl) (by kernel_rfl) (fun S => by kernel_rfl) (.inl rfl)
  have d63 := Mine.dI KX 63 597 [] 1 (by kernel_rfl) (by kernel_rfl) (fun v0 S => by kernel_rfl) (.inl rfl)
  have d64 := Mine.dI KX 64 604 [] 2 (by kernel_rfl) (by kernel_rfl) (fun v0 v1 S => by kernel_rfl) (.inl rfl)
  have d65 := Mine.dI KX 65 611 [] 1 (by kernel_rfl) (by kernel_rfl) (fun v0 S => by kernel_rfl) (.inl rfl)
  have d66 := Mine.dI KX 66 616 [] 1 (by kernel_rfl) (by kernel_rfl) (fun v0 S => by kernel_rfl) (.inl rfl)
  have d67 := Mine.dI KX 67 623 [] 2 (by kernel_rfl) (by kernel_rfl) (fun v0 v1 S => by kernel_rfl) (.inl rfl)
  have d68 := Mine.dI KX 68 630 [] 3 (by kernel_rfl) (by kernel_rfl) (fun v0 v1 v2 S => by kernel_rfl) (.inl rfl)
  have d69 := Mine.dI KX 69 637 [] 1 (by kernel_rfl) (by kernel_rfl) (fun v0 S => by kernel_rfl) (.inl rfl)
  have d70 := Mine.dI KX 70 644 [] 1 (by kernel_rfl) (by kernel_rfl) (fun v0 S => by kernel_rfl) (.inl rfl)
  have d71 := Mine.dI KX 71 651 [] 2 (by kernel_rfl) (by kernel_rfl) (fun v0 v1 S => by kernel_rfl) (.inl rfl)
  have d72 := Mine.dI KX 72 656 [] 1 (by kernel_rfl) (by kernel_rfl) (fun v0 S => by kernel_rfl) (.inl rfl)
  have d73 := Mine.dI KX 73 663 [] 2 (by kernel_rfl) (by kernel_rfl) (fun v0 v1 S => by kernel_rfl) (.inl rfl)
  have d74 := Mine.dI KX 74 670 [] 2 (by kernel_rfl) (by kernel_rfl) (fun v0 v1 S => by kernel_rfl) (.inl rfl)
  have d75 := Mine.dI KX 75 675 [] 1 (by kernel_rfl) (by kernel_rfl) (fun v0 S => by kernel_rfl) (.inl rfl)
  have d76 := Mine.dI KX 76 680 [] 1 (by kernel_rfl) (by kernel_rfl) (fun v0 S => by kernel_rfl) (.inl rfl)
  have c105 := Mine.cI KX "ClassicOrder" 105 95 [] 4 (by kernel_rfl) (by kernel_rfl) (by kernel_rfl) (by kernel_rfl) (fun v0 v1 v2 v3 x S => by kernel_rfl) (.inl rfl) (by kernel_rfl)
  have c399 := Mine.cI KX "Laid" 399 396 [((-1), 799)] 2 (by kernel_rfl) (by kernel_rfl) (by kernel_rfl) (by kernel_rfl) (fun v0 v1 x S => by kernel_rfl) (.inr ⟨1, rfl, fun v0 x S => by kernel_rfl⟩) (by kernel_rfl)
  have c232 := Mine.cI KX "Order" 232 222 [(0, 523)] 6 (by kernel_rfl) (by kernel_rfl) (by kernel_rfl) (by kernel_rfl) (fun v0 v1 v2 v3 v4 v5 x S => by kernel_rfl) (.inr ⟨5, rfl, fun v0 v1 v2 v3 v4 x S => by kernel_rfl⟩) (by kernel_rfl)
  have KT : Mine.KTab _ := Mine.kI KX (⟨⟨⟨⟨⟨⟨⟨⟨⟨⟨⟨⟨⟨⟨⟨⟨⟨⟨⟨⟨⟨⟨⟨⟨⟨⟨⟨⟨⟨⟨⟨⟨⟨⟨⟨⟨⟨⟨⟨⟨⟨⟨⟨⟨⟨⟨⟨⟨⟨⟨⟨⟨⟨⟨⟨⟨⟨⟨⟨⟨⟨⟨⟨⟨⟨⟨⟨⟨⟨⟨⟨⟨⟨⟨⟨⟨⟨trivial, Mine.ex_of d0⟩, Mine.ex_of d1⟩, Mine.ex_of d2⟩, Mine.ex_of d3⟩, Mine.ex_of d4⟩, Mine.ex_of d5⟩, Mine.ex_of d6⟩, Mine.ex_of d7⟩, Mine.ex_of d8⟩, Mine.ex_of d9⟩, Mine.ex_of d10⟩, Mine.ex_of d11⟩, Mine.ex_of d12⟩, Mine.ex_of d13⟩, Mine.ex_of d14⟩, Mine.ex_of d15⟩, Mine.ex_of d16⟩, Mine.ex_of d17⟩, Mine.ex_of d18⟩, Mine.ex_of d19⟩, Mine.ex_of d20⟩, Mine.ex_of d21⟩, Mine.ex_of d22⟩, Mine.ex_of d23⟩, Mine.ex_of d24⟩, Mine.ex_of d25⟩, Mine.ex_of d26⟩, Mine.ex_of d27⟩, Mine.ex_of d28⟩, Mine.ex_of d29⟩, Mine.ex_of d30⟩, Mine.ex_of d31⟩, Mine.ex_of d32⟩, Mine.ex_of d33⟩, Mine.ex_of d34⟩, Mine.ex_of d35⟩, Mine.ex_of d36⟩, Mine.ex_of d37⟩, Mine.ex_of d38⟩, Mine.ex_of d39⟩, Mine.ex_of d40⟩, Mine.ex_of d41⟩, Mine.ex_of d42⟩, Mine.ex_of d43⟩, Mine.ex_of d44⟩, Mine.ex_of d45⟩, Mine.ex_of d46⟩, Mine.ex_of d47⟩, Mine.ex_of d48⟩, Mine.ex_of d49⟩, Mine.ex_of d50⟩, Mine.ex_of d51⟩, Mine.ex_of d52⟩, Mine.ex_of d53⟩, Mine.ex_of d54⟩, Mine.ex_of d55⟩, Mine.ex_of d56⟩, Mine.ex_of d57⟩, Mine.ex_of d58⟩, Mine.ex_of d59⟩, Mine.ex_of d60⟩, Mine.ex_of d61⟩, Mine.ex_of d62⟩, Mine.ex_of d63⟩, Mine.ex_of d64⟩, Mine.ex_of d65⟩, Mine.ex_of d66⟩, Mine.ex_of d67⟩, Mine.ex_of d68⟩, Mine.ex_of d69⟩, Mine.ex_of d70⟩, Mine.ex_of d71⟩, Mine.ex_of d72⟩, Mine.ex_of d73⟩, Mine.ex_of d74⟩, Mine.ex_of d75⟩, Mine.ex_of d76⟩) ⟨_, d57⟩ (by kernel_rfl) c105 c399 c232 (by kernel_rfl) (by kernel_rfl)
  refine Mine.law_join ⟨KX, T.g, T.b, T.nolimit, T.builtins⟩ KT (by omega) hI (Mine.well_plain rfl w1 hL) rfl FF Mine.room12 (fun s' hw hk => ?_)
  exact ⟨.inl ⟨_, .bool true, [], rfl, (fun _ => rfl), .bool true, Mine.post_ok _ _, fun _ => ⟨List.nodup_nil, fun a h => nomatch h⟩⟩, hk, hw.2, hw.1.trans hg⟩
theorem PySem.Challenge.cw_ok0170_01_holds : PySem.Challenge.rw_ok0170_01.Holds := by
  exact Mine.cw
